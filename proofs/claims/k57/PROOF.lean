import PyProof.Rows.All
import Wide.All
import OpenK.AllK
import Wide.FinOn
import HandS.ForMost
import HandS.Zip
import HandS.TupAny
import HandS.TupMul
import HandS.Deep
import HandS.Style
import HandS.SetFor
import HandS.Strs
import HandS.Walk
import HandS.IsInst
import HandS.Conv
import HandS.Wide
import HandS.WideBits
import HandS.Evl
import HandS.MakeKwOnly
import KE.GoesMore
import KE.GoesEnumKw
import KE.KBits
import KE.KExcIs
import HandS.ExcInit
import HandS.ExcField
import HandS.ExcOwn
import HandS.WordsExc
import HandS.SetFor
import HandS.Lambda
import KE.KLam
import KE.KDictDisplayH
import HandS.DictComp
import HandS.DictTup
import HandS.TupLen
import KE.KDictCopyH
import KE.KDictWalk
import KE.KDictKeyed
import PyProof.WalkInts
import PyProof.SeqI3
import HandS.TryOnly
import HandS.ExcInit
import HandS.ExcField
import HandS.ExcOwn
import HandS.WordsExc
import KE.RegKIsAll
import PySem.Challenge.RW_calledseats_k57_invalid_arguments_of_sum
set_option Elab.async false
set_option linter.all false
set_option maxRecDepth 100000
set_option maxHeartbeats 4000000


namespace CZ
open PySem PySem.Spec PyProof.Rows L2
open PySem.Sem (wp)
/-- one draw of a zip: strict or not -/
def zdraw (b : Bool) (it : Value) : Sem (Option Value) := if b = true then Builtin.SmallTypes.nextOrEnd it else (Builtin.SmallTypes.nextOf it >>= fun x => pure (some x))
/-- a zip object: f0 what it has handed out, b its strictness -/
abbrev ZipO (h : Heap) (z TI TO : Addr) (f0 : Value) (b : Bool) : Prop := h.get? z = some { cls := .type "zip", data := .fields #[f0, .bool false, .bool b, .ref TI, .ref TO] }
abbrev TupO (h : Heap) (T : Addr) (vs : Array Value) : Prop := h.get? T = some { cls := .type "tuple", data := .seq vs }
theorem val_b (b : Bool) : (Value.bool b == Value.bool true) = b := by cases b <;> rfl
section
variable {prog : Program} {w : World} {A : Around} {E : Value → Shared → Prop} {s : Shared} {b : Bool}
theorem zdraw_item {it : Addr} {fp : List Addr} {n i : Nat} {P : Nat → Value → Prop} {St : Nat → Heap → Prop} {Q : Option Value → Shared → Prop} (D : Draws prog w A it fp n P St) (hi : i < n) (st : St i s.heap)
    (hQ : ∀ x h' tk, P i x → St (i + 1) h' → Heap.SameBut it s.heap h' → Q (some x) { s with heap := h', toks := tk }) : wpAny (model prog w) A (zdraw b (.ref it)) Q E s := by
  cases b with
  | false => exact wpAny_bind (m := Builtin.SmallTypes.nextOf (.ref it)) (D.item i s _ _ hi st fun x h' tk p st' sb => wpAny_pure (hQ x h' tk p st' sb))
  | true =>
    show wpAny _ _ (Builtin.SmallTypes.nextOrEnd (.ref it)) _ _ _
    unfold Builtin.SmallTypes.nextOrEnd
    exact wpAny_bind (wpAny_attempt (D.item i s _ _ hi st fun x h' tk p st' sb => wpAny_pure (hQ x h' tk p st' sb)))
theorem zend_strict {it : Addr} {fp : List Addr} {n : Nat} {P : Nat → Value → Prop} {St : Nat → Heap → Prop} {Q : Option Value → Shared → Prop} (D : Draws prog w A it fp n P St) (st : St n s.heap)
    (hQ : ∀ h', Heap.ExtBut it s.heap h' → Q none { s with heap := h' }) : wpAny (model prog w) A (Builtin.SmallTypes.nextOrEnd (.ref it)) Q E s := by
  unfold Builtin.SmallTypes.nextOrEnd
  refine wpAny_bind (wpAny_attempt (D.done s _ _ st fun h' e eb he => ?_))
  obtain ⟨o, ho, hc⟩ := he
  exact wpAny_bind (wpAny_isInstance (T := "StopIteration") (b := true) ⟨o, ho, hc⟩ isSubtype_stop (wpAny_pure (hQ h' eb)))
theorem upd_tup {T : Addr} {vs : Array Value} {x : Value} {k : Nat} {Q : Unit → Shared → Prop} (hT : TupO s.heap T vs) (hz : vs.size ≤ 8)
    (h : ∀ h', TupO h' T (vs.setIfInBounds k x) → Heap.SameBut T s.heap h' → Q () { s with heap := h' }) : wpAny (model prog w) A (updateSeq T (·.setIfInBounds k x)) Q E s := by
  have z8 : (8 : Nat) ≤ sizeLine := by decide
  refine wpAny_updateSeq hT rfl (h _ ?_ (Heap.SameBut.update ..)) (Nat.le_trans hz z8) (by rw [Array.size_setIfInBounds]; exact Nat.le_succ_of_le (Nat.le_trans hz z8))
  unfold TupO
  rw [Heap.get?_update_self _ hT rfl]
  simp [Obj.mapSeq]
theorem iter_zip {z TI TO : Addr} {f0 : Value} {Q : Value → Shared → Prop} (hz : ZipO s.heap z TI TO f0 b) (h : Q (.ref z) s) : wpAny (model prog w) A (pyIter (.ref z)) Q E s := by
  have hT : s.TypeIs (.ref z) "zip" := ⟨_, hz, rfl⟩
  exact wpAny_pyIter_slot hT F.slot_zip_iter (wpAny_call_entry F.slot_zip_iter hT F.entry_zip_iter (wpAny_pure ⟨_, rfl, "zip", _, hT, F.slot_zip_next.lookup, h⟩) (F.args_zip_iter_1 _))
/-- the tuple that was handed out is let go -/
theorem go_zip {elts : List Expr} {x1} {pos : Pos} {z TI TO T : Addr} {Q : Unit → Shared → Prop} (hz : ZipO s.heap z TI TO (rawInt T) b)
    (hQ : ∀ h', ZipO h' z TI TO .none b → Heap.SameBut z s.heap h' → Q () { s with heap := h' }) : wpAny (model prog w) A (letOwnedTupleGo (.Tuple elts x1 pos) (.ref z) (.ref T)) Q E s := by
  unfold letOwnedTupleGo
  refine wpAny_bind (wpAny_load hz ?_)
  show wpAny _ _ (ite _ _ _) Q E s
  rw [if_pos (by simp)]
  exact wpAny_bind (wpAny_rule (wpAny_setField_rec hz (by simp) fun h' hz' hs' => hQ h' hz' hs'))
/-- the StopIteration that a zip ends by -/
theorem stop_it {Q : Fin → Shared → Prop} (hh : A.handled = none) (hE : ∀ h' e, (∀ c o, s.heap.get? c = some o → h'.get? c = some o) → (∃ o, h'.get? e = some o ∧ o.cls = .type "StopIteration") → E (.ref e) { s with heap := h' }) :
    wpAny (model prog w) A (PySem.Builtin.SmallTypes.stopIteration : Sem Fin) Q E s := by
  unfold PySem.Builtin.SmallTypes.stopIteration
  show wpAny _ _ (newExc (.type "StopIteration") [] >>= _) _ _ _
  refine wpAny_bind ?_
  simp only [newExc, newTuple]
  refine wpAny_bind (wpAny_newObj_type ?_ (by size_fits))
  refine wpAny_bind (m := firstArgMember _ _) (wpAny_of_eq (a := Value.none) (by first | rfl | (simp only [firstArgMember]; rfl)) ?_)
  refine wpAny_newObj_type ?_ (by size_fits)
  simp only [raiseNew]
  refine wpAny_bind (wpAny_handled ?_)
  rw [hh]
  exact wpAny_bind (wpAny_pure (wpAny_throw (hE _ _ (fun c o e => Heap.get?_push_of_some _ (Heap.get?_push_of_some _ e)) ⟨_, Heap.get?_push_size _ rfl, rfl⟩)))
end
end CZ

namespace CZ
open PySem PySem.Spec PyProof.Rows L2
open PySem.Sem (wp)
/-- the cells of a zip over 2 iterators lie apart -/
structure Sep2 (z TI TO i1 i2 : Addr) (fp1 fp2 : List Addr) : Prop where
  zTO : z ≠ TO
  zTI : z ≠ TI
  TOTI : TO ≠ TI
  m1 : i1 ∈ fp1
  z1 : z ∉ fp1
  T1 : TO ∉ fp1
  I1 : TI ≠ i1
  s2_1 : i2 ∉ fp1
  m2 : i2 ∈ fp2
  z2 : z ∉ fp2
  T2 : TO ∉ fp2
  I2 : TI ≠ i2
  s1_2 : i1 ∉ fp2
section
variable {prog : Program} {w : World} {A : Around} {E : Value → Shared → Prop} {s : Shared} {b : Bool}
theorem next_item2 {z TI TO i1 i2 : Addr} {fp1 fp2 : List Addr} {n1 n2 i : Nat} {P1 P2 : Nat → Value → Prop} {St1 St2 : Nat → Heap → Prop} {a1 a2 : Value} {Q : Value → Shared → Prop} (S : Sep2 z TI TO i1 i2 fp1 fp2) (D1 : Draws prog w A i1 fp1 n1 P1 St1) (D2 : Draws prog w A i2 fp2 n2 P2 St2)
    (hz : ZipO s.heap z TI TO .none b) (hTI : TupO s.heap TI #[.ref i1, .ref i2]) (hTO : TupO s.heap TO #[a1, a2]) (st1 : St1 i s.heap) (st2 : St2 i s.heap) (hi1 : i < n1) (hi2 : i < n2)
    (hQ : ∀ x1 x2 h' tk, P1 i x1 → P2 i x2 → ZipO h' z TI TO (rawInt s.heap.objs.size) b → TupO h' TO #[x1, x2] → St1 (i + 1) h' → St2 (i + 1) h' → TupO h' s.heap.objs.size #[x1, x2] →
      (∀ c o, c ≠ z → c ≠ TO → c ≠ i1 → c ≠ i2 → s.heap.get? c = some o → h'.get? c = some o) → Q (.ref s.heap.objs.size) { s with heap := h', toks := tk }) :
    wpAny (model prog w) A (Builtin.«zip.__next__» ⟨[.ref z], []⟩) (fun fin s' => ∃ v, fin = .done (.ret v) ∧ Q v s') E s := by
  obtain ⟨hp, g, d, tk0, os⟩ := s
  refine wpAny_bind (m := field (.ref z) 2) (wpAny_field hz rfl (x := .bool b) rfl ?_)
  refine wpAny_bind (m := field (.ref z) 3) (wpAny_field hz rfl (x := .ref TI) rfl ?_)
  refine wpAny_bind (wpAny_seqItems hTI rfl ?_)
  show wpAny _ _ (Builtin.SmallTypes.ownedTupleIsFree (.ref z) >>= _) _ _ _
  rw [val_b]
  refine wpAny_bind ?_
  unfold Builtin.SmallTypes.ownedTupleIsFree
  refine wpAny_bind (wpAny_field hz rfl (x := .none) rfl (wpAny_pure ?_))
  simp only [if_true]
  refine wpAny_bind (wpAny_rule (wpAny_bind (wpAny_field hz rfl (x := .ref TO) rfl ?_)))
  refine wpAny_bind (wpAny_setField_rec hz (by simp) fun g0 hz0 hs0 => wpAny_bind ?_)
  replace hs0 : Heap.SameBut z hp g0 := hs0
  replace hz0 : ZipO g0 z TI TO .ellipsis b := hz0
  have hT0 : TupO g0 TO #[a1, a2] := hs0.extBut _ _ S.zTO.symm hTO
  have t1_0 : St1 i g0 := D1.frame _ _ _ st1 fun c hc o e => hs0.extBut c o (fun q => S.z1 (q ▸ hc)) e
  have t2_0 : St2 i g0 := D2.frame _ _ _ st2 fun c hc o e => hs0.extBut c o (fun q => S.z2 (q ▸ hc)) e
  have k0 : ∀ c o, c ≠ z → c ≠ TO → c ≠ i1 → c ≠ i2 → hp.get? c = some o → g0.get? c = some o := fun c o q0 _ _ _ e => hs0.extBut c o q0 e
  simp only [List.zipIdx_cons, List.zipIdx_nil, List.forIn_cons, List.forIn_nil]
  refine wpAny_bind (wpAny_bind (wpAny_onRaise (m := zdraw b (.ref i1)) (zdraw_item (s := ⟨g0, g, d, tk0, os⟩) D1 hi1 t1_0 fun x1 d1 tk1 p1 n1 hd1 => ?_)))
  replace hd1 : Heap.SameBut i1 g0 d1 := hd1
  have hU1 : TupO d1 TO #[a1, a2] := hd1.extBut _ _ (fun q => S.T1 (q ▸ S.m1)) hT0
  refine wpAny_bind (wpAny_seqItems (s := ⟨d1, g, d, tk1, os⟩) hU1 rfl ?_)
  refine wpAny_bind (upd_tup (s := ⟨d1, g, d, tk1, os⟩) hU1 (by simp) fun g1 hT1 hs1 => ?_)
  replace hs1 : Heap.SameBut TO d1 g1 := hs1
  replace hT1 : TupO g1 TO #[x1, a2] := hT1
  have hz1 : ZipO g1 z TI TO .ellipsis b := hs1.extBut _ _ S.zTO (hd1.extBut _ _ (fun q => S.z1 (q ▸ S.m1)) hz0)
  have t1_1 : St1 (i + 1) g1 := D1.frame _ _ _ n1 fun c hc o e => hs1.extBut c o (fun q => S.T1 (q ▸ hc)) e
  have t2_1 : St2 i g1 := D2.frame _ _ _ t2_0 fun c hc o e => hs1.extBut c o (fun q => S.T2 (q ▸ hc)) (hd1.extBut c o (fun q => S.s1_2 (q ▸ hc)) e)
  have k1 : ∀ c o, c ≠ z → c ≠ TO → c ≠ i1 → c ≠ i2 → hp.get? c = some o → g1.get? c = some o := fun c o qz qT q1 q2 e => hs1.extBut c o qT (hd1.extBut c o q1 (k0 c o qz qT q1 q2 e))
  have e1 : g1.objs.size = g0.objs.size := by rw [hs1.1, hd1.1]
  refine wpAny_bind (wpAny_letGo (wpAny_pure ?_))
  refine wpAny_bind (wpAny_bind (wpAny_onRaise (m := zdraw b (.ref i2)) (zdraw_item (s := ⟨g1, g, d, tk1, os⟩) D2 hi2 t2_1 fun x2 d2 tk2 p2 n2 hd2 => ?_)))
  replace hd2 : Heap.SameBut i2 g1 d2 := hd2
  have hU2 : TupO d2 TO #[x1, a2] := hd2.extBut _ _ (fun q => S.T2 (q ▸ S.m2)) hT1
  refine wpAny_bind (wpAny_seqItems (s := ⟨d2, g, d, tk2, os⟩) hU2 rfl ?_)
  refine wpAny_bind (upd_tup (s := ⟨d2, g, d, tk2, os⟩) hU2 (by simp) fun g2 hT2 hs2 => ?_)
  replace hs2 : Heap.SameBut TO d2 g2 := hs2
  replace hT2 : TupO g2 TO #[x1, x2] := hT2
  have hz2 : ZipO g2 z TI TO .ellipsis b := hs2.extBut _ _ S.zTO (hd2.extBut _ _ (fun q => S.z2 (q ▸ S.m2)) hz1)
  have t1_2 : St1 (i + 1) g2 := D1.frame _ _ _ t1_1 fun c hc o e => hs2.extBut c o (fun q => S.T1 (q ▸ hc)) (hd2.extBut c o (fun q => S.s2_1 (q ▸ hc)) e)
  have t2_2 : St2 (i + 1) g2 := D2.frame _ _ _ n2 fun c hc o e => hs2.extBut c o (fun q => S.T2 (q ▸ hc)) e
  have k2 : ∀ c o, c ≠ z → c ≠ TO → c ≠ i1 → c ≠ i2 → hp.get? c = some o → g2.get? c = some o := fun c o qz qT q1 q2 e => hs2.extBut c o qT (hd2.extBut c o q2 (k1 c o qz qT q1 q2 e))
  have e2 : g2.objs.size = g1.objs.size := by rw [hs2.1, hd2.1]
  refine wpAny_bind (wpAny_letGo (wpAny_pure ?_))
  refine wpAny_pure ?_
  refine wpAny_bind (wpAny_seqItems (s := ⟨g2, g, d, tk2, os⟩) hT2 rfl ?_)
  refine wpAny_bind (wpAny_newTuple ?_)
  have hsz : g2.objs.size = hp.objs.size := by rw [e2, e1, hs0.1]
  have hlt : z < g2.objs.size := Heap.lt_size hz2
  refine wpAny_bind ?_
  unfold Builtin.SmallTypes.ownedTupleHandOut
  have hy : ZipO (g2.push { cls := .type "tuple", data := .seq #[x1, x2] }) z TI TO .ellipsis b := Heap.get?_push_of_some _ hz2
  refine wpAny_bind (wpAny_setField_rec hy (by simp) fun u1 hu1 hv1 => wpAny_setField_rec hu1 (by simp) fun u2 hu2 hv2 => ?_)
  have up : ∀ c o, c ≠ z → g2.get? c = some o → u2.get? c = some o := fun c o q e => hv2.extBut c o q (hv1.extBut c o q (Heap.get?_push_of_some _ e))
  have hN : TupO u2 g2.objs.size #[x1, x2] := hv2.extBut _ _ (Nat.ne_of_gt hlt) (hv1.extBut _ _ (Nat.ne_of_gt hlt) (Heap.get?_push_size _ rfl))
  have hZ : ZipO u2 z TI TO (rawInt g2.objs.size) b := hu2
  rw [hsz] at hN hZ
  refine wpAny_pure ⟨_, rfl, ?_⟩
  show Q (.ref g2.objs.size) ⟨u2, g, d, tk2, os⟩
  rw [hsz]
  exact hQ x1 x2 u2 tk2 p1 p2 hZ (up _ _ S.zTO.symm hT2) (D1.frame _ _ _ t1_2 fun c hc o e => up c o (fun q => S.z1 (q ▸ hc)) e) (D2.frame _ _ _ t2_2 fun c hc o e => up c o (fun q => S.z2 (q ▸ hc)) e) hN fun c o qz qT q1 q2 e => up c o qz (k2 c o qz qT q1 q2 e)
theorem next_end2 {z TI TO i1 i2 : Addr} {fp1 fp2 : List Addr} {n : Nat} {P1 P2 : Nat → Value → Prop} {St1 St2 : Nat → Heap → Prop} {a1 a2 : Value} {Q : Fin → Shared → Prop} (hh : A.handled = none) (S : Sep2 z TI TO i1 i2 fp1 fp2) (D1 : Draws prog w A i1 fp1 n P1 St1) (D2 : Draws prog w A i2 fp2 n P2 St2)
    (hz : ZipO s.heap z TI TO .none b) (hTI : TupO s.heap TI #[.ref i1, .ref i2]) (hTO : TupO s.heap TO #[a1, a2]) (st1 : St1 n s.heap) (st2 : St2 n s.heap)
    (hE : ∀ h' e, (∀ c o, c ≠ z → c ≠ TO → c ≠ i1 → c ≠ i2 → s.heap.get? c = some o → h'.get? c = some o) → (∃ o, h'.get? e = some o ∧ o.cls = .type "StopIteration") → E (.ref e) { s with heap := h' }) :
    wpAny (model prog w) A (Builtin.«zip.__next__» ⟨[.ref z], []⟩) Q E s := by
  obtain ⟨hp, g, d, tk0, os⟩ := s
  refine wpAny_bind (m := field (.ref z) 2) (wpAny_field hz rfl (x := .bool b) rfl ?_)
  refine wpAny_bind (m := field (.ref z) 3) (wpAny_field hz rfl (x := .ref TI) rfl ?_)
  refine wpAny_bind (wpAny_seqItems hTI rfl ?_)
  show wpAny _ _ (Builtin.SmallTypes.ownedTupleIsFree (.ref z) >>= _) _ _ _
  rw [val_b]
  refine wpAny_bind ?_
  unfold Builtin.SmallTypes.ownedTupleIsFree
  refine wpAny_bind (wpAny_field hz rfl (x := .none) rfl (wpAny_pure ?_))
  simp only [if_true]
  refine wpAny_bind (wpAny_rule (wpAny_bind (wpAny_field hz rfl (x := .ref TO) rfl ?_)))
  refine wpAny_bind (wpAny_setField_rec hz (by simp) fun g0 hz0 hs0 => wpAny_bind ?_)
  replace hs0 : Heap.SameBut z hp g0 := hs0
  replace hz0 : ZipO g0 z TI TO .ellipsis b := hz0
  have t1_0 : St1 n g0 := D1.frame _ _ _ st1 fun c hc o e => hs0.extBut c o (fun q => S.z1 (q ▸ hc)) e
  have t2_0 : St2 n g0 := D2.frame _ _ _ st2 fun c hc o e => hs0.extBut c o (fun q => S.z2 (q ▸ hc)) e
  simp only [List.zipIdx_cons, List.zipIdx_nil, List.forIn_cons, List.forIn_nil]
  refine wpAny_bind (wpAny_bind (wpAny_onRaise ?_))
  cases b with
  | false =>
    refine wpAny_bind (m := Builtin.SmallTypes.nextOf (.ref i1)) (D1.done ⟨g0, g, d, tk0, os⟩ _ _ t1_0 fun y e hy he => ?_)
    replace hy : Heap.ExtBut i1 g0 y := hy
    obtain ⟨oe, hoe, hce⟩ := he
    replace hoe : y.get? e = some oe := hoe
    have hzy : ZipO y z TI TO .ellipsis false := hy _ _ (fun q => S.z1 (q ▸ S.m1)) hz0
    have hez : e ≠ z := fun x => by subst x; rw [hzy] at hoe; cases hoe; simp at hce
    refine wpAny_setField_rec (s := ⟨y, g, d, tk0, os⟩) hzy (by simp) fun y2 _ hv => ?_
    replace hv : Heap.SameBut z y y2 := hv
    exact hE y2 e (fun c o qz qT q1 q2 x => hv.extBut c o qz (hy c o q1 (hs0.extBut c o qz x))) ⟨oe, hv.extBut _ _ hez hoe, hce⟩
  | true =>
    refine zend_strict (s := ⟨g0, g, d, tk0, os⟩) D1 t1_0 fun y hy => ?_
    replace hy : Heap.ExtBut i1 g0 y := hy
    have hzy : ZipO y z TI TO .ellipsis true := hy _ _ (fun q => S.z1 (q ▸ S.m1)) hz0
    have t2_1 : St2 n y := D2.frame _ _ _ t2_0 fun c hc o e => hy c o (fun q => S.s1_2 (q ▸ hc)) e
    refine wpAny_bind (wpAny_setField_rec (s := ⟨y, g, d, tk0, os⟩) hzy (by simp) fun y1 _ hv1 => ?_)
    replace hv1 : Heap.SameBut z y y1 := hv1
    have r2_1 : St2 n y1 := D2.frame _ _ _ t2_1 fun c hc o e => hv1.extBut c o (fun q => S.z2 (q ▸ hc)) e
    have k1 : ∀ c o, c ≠ z → c ≠ TO → c ≠ i1 → c ≠ i2 → hp.get? c = some o → y1.get? c = some o := fun c o qz qT q1 q2 e => hv1.extBut c o qz (hy c o q1 (hs0.extBut c o qz e))
    refine wpAny_bind ?_
    refine wpAny_bind ?_
    simp only [List.drop_succ_cons, List.drop_zero, List.zipIdx_cons, List.zipIdx_nil, List.forIn_cons, List.forIn_nil]
    refine wpAny_bind (wpAny_bind (zend_strict (s := ⟨y1, g, d, tk0, os⟩) D2 r2_1 fun y2 hy2 => ?_))
    replace hy2 : Heap.ExtBut i2 y1 y2 := hy2
    have k2 : ∀ c o, c ≠ z → c ≠ TO → c ≠ i1 → c ≠ i2 → hp.get? c = some o → y2.get? c = some o := fun c o qz qT q1 q2 e => hy2 c o q2 (k1 c o qz qT q1 q2 e)
    refine wpAny_pure ?_
    refine wpAny_pure ?_
    exact wpAny_bind (wpAny_rule (stop_it (s := ⟨y2, g, d, tk0, os⟩) hh fun h2 e kk he => hE h2 e (fun c o qz qT q1 q2 x => kk c o (k2 c o qz qT q1 q2 x)) he))
theorem py_item2 {z TI TO i1 i2 : Addr} {fp1 fp2 : List Addr} {n1 n2 i : Nat} {P1 P2 : Nat → Value → Prop} {St1 St2 : Nat → Heap → Prop} {a1 a2 : Value} {Q : Option Value → Shared → Prop} (S : Sep2 z TI TO i1 i2 fp1 fp2) (D1 : Draws prog w A.in1 i1 fp1 n1 P1 St1) (D2 : Draws prog w A.in1 i2 fp2 n2 P2 St2)
    (hz : ZipO s.heap z TI TO .none b) (hTI : TupO s.heap TI #[.ref i1, .ref i2]) (hTO : TupO s.heap TO #[a1, a2]) (st1 : St1 i s.heap) (st2 : St2 i s.heap) (hi1 : i < n1) (hi2 : i < n2)
    (hQ : ∀ x1 x2 h' tk, P1 i x1 → P2 i x2 → ZipO h' z TI TO (rawInt s.heap.objs.size) b → TupO h' TO #[x1, x2] → St1 (i + 1) h' → St2 (i + 1) h' → TupO h' s.heap.objs.size #[x1, x2] →
      (∀ c o, c ≠ z → c ≠ TO → c ≠ i1 → c ≠ i2 → s.heap.get? c = some o → h'.get? c = some o) → Q (some (.ref s.heap.objs.size)) { s with heap := h', toks := tk }) : wpAny (model prog w) A (pyNext (.ref z)) Q E s := by
  have hT : s.TypeIs (.ref z) "zip" := ⟨_, hz, rfl⟩
  unfold pyNext
  refine wpAny_bind (wpAny_attempt (wpAny_callSpecial?_slot (name := Str.ofString "__next__") hT F.slot_zip_next (wpAny_call_entry F.slot_zip_next hT F.entry_zip_next ?_ (F.args_zip_next_1 _))))
  exact next_item2 S D1 D2 hz hTI hTO st1 st2 hi1 hi2 fun x1 x2 h2 tk p1 p2 q1 q2 u1 u2 q3 q4 => wpAny_pure (hQ x1 x2 h2 tk p1 p2 q1 q2 u1 u2 q3 q4)
theorem py_end2 {z TI TO i1 i2 : Addr} {fp1 fp2 : List Addr} {n : Nat} {P1 P2 : Nat → Value → Prop} {St1 St2 : Nat → Heap → Prop} {a1 a2 : Value} {Q : Option Value → Shared → Prop} (hh : A.handled = none) (S : Sep2 z TI TO i1 i2 fp1 fp2) (D1 : Draws prog w A.in1 i1 fp1 n P1 St1) (D2 : Draws prog w A.in1 i2 fp2 n P2 St2)
    (hz : ZipO s.heap z TI TO .none b) (hTI : TupO s.heap TI #[.ref i1, .ref i2]) (hTO : TupO s.heap TO #[a1, a2]) (st1 : St1 n s.heap) (st2 : St2 n s.heap)
    (hQ : ∀ h', (∀ c o, c ≠ z → c ≠ TO → c ≠ i1 → c ≠ i2 → s.heap.get? c = some o → h'.get? c = some o) → Q none { s with heap := h' }) : wpAny (model prog w) A (pyNext (.ref z)) Q E s := by
  have hT : s.TypeIs (.ref z) "zip" := ⟨_, hz, rfl⟩
  unfold pyNext
  refine wpAny_bind (wpAny_attempt (wpAny_callSpecial?_slot (name := Str.ofString "__next__") hT F.slot_zip_next (wpAny_call_entry F.slot_zip_next hT F.entry_zip_next ?_ (F.args_zip_next_1 _))))
  refine next_end2 (A := A.in1) hh S D1 D2 hz hTI hTO st1 st2 fun h2 e kk he => ?_
  obtain ⟨o, ho, hc⟩ := he
  exact wpAny_bind (wpAny_isInstance (T := "StopIteration") (b := true) ⟨o, ho, hc⟩ isSubtype_stop (wpAny_pure (hQ _ kk)))
theorem typeCall_strict2 (v1 v2 x : Value) : checkTypeCall "zip" ⟨[v1, v2], [(Str.ofString "strict", x)]⟩ = pure () := by kernel_rfl
theorem newCall_strict2 (v1 v2 x : Value) : checkBuiltinCall "zip.__new__" ⟨[.type "zip", v1, v2], [(Str.ofString "strict", x)]⟩ = pure () := by kernel_rfl
theorem initArgs_strict2 (obj v1 v2 x : Value) : argsOk "object.__init__" ⟨[obj, v1, v2], [(Str.ofString "strict", x)]⟩ := by unfold argsOk; kernel_rfl
abbrev sT2 (h : Heap) (o1 o2 : Obj) : Heap := (((h.push o1).push o2).push { cls := .type "tuple", data := .seq #[.ref h.objs.size, .ref (h.push o1).objs.size] })
abbrev sO2 (h : Heap) (o1 o2 : Obj) : Heap := (sT2 h o1 o2).push { cls := .type "tuple", data := .seq #[.none, .none] }
abbrev sZ2 (h : Heap) (o1 o2 : Obj) : Heap := (sO2 h o1 o2).push { cls := .type "zip", data := .fields #[.none, .bool false, .bool true, .ref ((h.push o1).push o2).objs.size, .ref (sT2 h o1 o2).objs.size] }
theorem meets_strict2 {v1 v2 : Value} {o1 o2 : Obj} {G1 G2 : Heap → Prop} (B1 : Begins v1 o1 G1) (B2 : Begins v2 o2 G2) :
    Meets (Builtin.«zip.__new__» ⟨[.type "zip", v1, v2], [(Str.ofString "strict", .bool true)]⟩) (fun _ R s => (G1 s.heap ∧ G2 s.heap) ∧ R (.ok (.ret (.ref (sO2 s.heap o1 o2).objs.size))) { s with heap := (sZ2 s.heap o1 o2) }) :=
  .of_wp fun prog w A R s h => by
    obtain ⟨hp, g, d, tk, os⟩ := s
    obtain ⟨⟨h1, h2⟩, h⟩ := h
    have hsub := sub_zip
    have e1 : (Str.ofString "strict" != ("strict" : Str)) = false := by decide +kernel
    have w1 : ∀ {A' : Around} {E : Value → Shared → Prop} {Q : Value → Shared → Prop}, Q (.ref hp.objs.size) ⟨(hp.push o1), g, d, tk, os⟩ → wpAny (model prog w) A' (pyIter v1) Q E ⟨hp, g, d, tk, os⟩ := fun q => B1.iter prog w _ _ ⟨hp, g, d, tk, os⟩ _ (B1.keeps _ _ h1 fun c u e => e) q
    have w2 : ∀ {A' : Around} {E : Value → Shared → Prop} {Q : Value → Shared → Prop}, Q (.ref (hp.push o1).objs.size) ⟨((hp.push o1).push o2), g, d, tk, os⟩ → wpAny (model prog w) A' (pyIter v2) Q E ⟨(hp.push o1), g, d, tk, os⟩ := fun q => B2.iter prog w _ _ ⟨(hp.push o1), g, d, tk, os⟩ _ (B2.keeps _ _ h2 fun c u e => (Heap.get?_push_of_some _ e)) q
    wp_walk using w1, w2
    exact ⟨_, rfl, h⟩
/-- zip(.., strict=True) of 2: its new cells -/
theorem begins_strict2 {v1 v2 : Value} {o1 o2 : Obj} {G1 G2 : Heap → Prop} {Q : Value → Shared → Prop} (B1 : Begins v1 o1 G1) (B2 : Begins v2 o2 G2) (h1 : G1 s.heap) (h2 : G2 s.heap)
    (h : ∀ h', ZipO h' (s.heap.objs.size + 4) (s.heap.objs.size + 2) (s.heap.objs.size + 3) .none true → TupO h' (s.heap.objs.size + 2) #[.ref s.heap.objs.size, .ref (s.heap.objs.size + 1)] → TupO h' (s.heap.objs.size + 3) #[.none, .none] → h'.get? s.heap.objs.size = some o1 → h'.get? (s.heap.objs.size + 1) = some o2 → (∀ c o, s.heap.get? c = some o → h'.get? c = some o) → Q (.ref (s.heap.objs.size + 4)) { s with heap := h' }) :
    wpAny (model prog w) A (call (.type "zip") [v1, v2] [(Str.ofString "strict", .bool true)]) Q E s := by
  refine callType_newKw F.called_zip (by decide) (typeCall_strict2 _ _ _) (newCall_strict2 _ _ _) (fun obj => initArgs_strict2 obj _ _ _) F.entry_zip_new (meets_strict2 B1 B2) ⟨⟨h1, h2⟩, ?_⟩
  have z1 : (s.heap.push o1).objs.size = s.heap.objs.size + 1 := by rw [Heap.size_push]
  have z2 : ((s.heap.push o1).push o2).objs.size = s.heap.objs.size + 2 := by rw [Heap.size_push, z1]
  have z3 : (sT2 s.heap o1 o2).objs.size = s.heap.objs.size + 3 := by rw [Heap.size_push, z2]
  have z4 : (sO2 s.heap o1 o2).objs.size = s.heap.objs.size + 4 := by rw [Heap.size_push, z3]
  have z5 : (sZ2 s.heap o1 o2).objs.size = s.heap.objs.size + 5 := by rw [Heap.size_push, z4]
  have q0 : (sZ2 s.heap o1 o2).get? s.heap.objs.size = some o1 := (Heap.get?_push_of_some _ (Heap.get?_push_of_some _ (Heap.get?_push_of_some _ (Heap.get?_push_of_some _ (Heap.get?_push_size _ B1.free)))))
  have q1 : (sZ2 s.heap o1 o2).get? (s.heap.push o1).objs.size = some o2 := (Heap.get?_push_of_some _ (Heap.get?_push_of_some _ (Heap.get?_push_of_some _ (Heap.get?_push_size _ B2.free))))
  rw [z1] at q1
  have q2 : (sZ2 s.heap o1 o2).get? ((s.heap.push o1).push o2).objs.size = some ({ cls := .type "tuple", data := .seq #[.ref s.heap.objs.size, .ref (s.heap.push o1).objs.size] } : Obj) := (Heap.get?_push_of_some _ (Heap.get?_push_of_some _ (Heap.get?_push_size _ rfl)))
  rw [z2] at q2
  have q3 : (sZ2 s.heap o1 o2).get? (sT2 s.heap o1 o2).objs.size = some ({ cls := .type "tuple", data := .seq #[.none, .none] } : Obj) := (Heap.get?_push_of_some _ (Heap.get?_push_size _ rfl))
  rw [z3] at q3
  have q4 : (sZ2 s.heap o1 o2).get? (sO2 s.heap o1 o2).objs.size = some ({ cls := .type "zip", data := .fields #[.none, .bool false, .bool true, .ref ((s.heap.push o1).push o2).objs.size, .ref (sT2 s.heap o1 o2).objs.size] } : Obj) := (Heap.get?_push_size _ rfl)
  rw [z4] at q4
  rw [z1] at q2
  rw [z3, z2] at q4
  show _ ∧ _
  rw [z4]
  exact ⟨⟨_, q4, rfl⟩, h _ q4 q2 q3 q0 q1 fun c o e => (Heap.get?_push_of_some _ (Heap.get?_push_of_some _ (Heap.get?_push_of_some _ (Heap.get?_push_of_some _ (Heap.get?_push_of_some _ e)))))⟩
end
/-- the cells of a zip over 3 iterators lie apart -/
structure Sep3 (z TI TO i1 i2 i3 : Addr) (fp1 fp2 fp3 : List Addr) : Prop where
  zTO : z ≠ TO
  zTI : z ≠ TI
  TOTI : TO ≠ TI
  m1 : i1 ∈ fp1
  z1 : z ∉ fp1
  T1 : TO ∉ fp1
  I1 : TI ≠ i1
  s2_1 : i2 ∉ fp1
  s3_1 : i3 ∉ fp1
  m2 : i2 ∈ fp2
  z2 : z ∉ fp2
  T2 : TO ∉ fp2
  I2 : TI ≠ i2
  s1_2 : i1 ∉ fp2
  s3_2 : i3 ∉ fp2
  m3 : i3 ∈ fp3
  z3 : z ∉ fp3
  T3 : TO ∉ fp3
  I3 : TI ≠ i3
  s1_3 : i1 ∉ fp3
  s2_3 : i2 ∉ fp3
section
variable {prog : Program} {w : World} {A : Around} {E : Value → Shared → Prop} {s : Shared} {b : Bool}
theorem next_item3 {z TI TO i1 i2 i3 : Addr} {fp1 fp2 fp3 : List Addr} {n1 n2 n3 i : Nat} {P1 P2 P3 : Nat → Value → Prop} {St1 St2 St3 : Nat → Heap → Prop} {a1 a2 a3 : Value} {Q : Value → Shared → Prop} (S : Sep3 z TI TO i1 i2 i3 fp1 fp2 fp3) (D1 : Draws prog w A i1 fp1 n1 P1 St1) (D2 : Draws prog w A i2 fp2 n2 P2 St2) (D3 : Draws prog w A i3 fp3 n3 P3 St3)
    (hz : ZipO s.heap z TI TO .none b) (hTI : TupO s.heap TI #[.ref i1, .ref i2, .ref i3]) (hTO : TupO s.heap TO #[a1, a2, a3]) (st1 : St1 i s.heap) (st2 : St2 i s.heap) (st3 : St3 i s.heap) (hi1 : i < n1) (hi2 : i < n2) (hi3 : i < n3)
    (hQ : ∀ x1 x2 x3 h' tk, P1 i x1 → P2 i x2 → P3 i x3 → ZipO h' z TI TO (rawInt s.heap.objs.size) b → TupO h' TO #[x1, x2, x3] → St1 (i + 1) h' → St2 (i + 1) h' → St3 (i + 1) h' → TupO h' s.heap.objs.size #[x1, x2, x3] →
      (∀ c o, c ≠ z → c ≠ TO → c ≠ i1 → c ≠ i2 → c ≠ i3 → s.heap.get? c = some o → h'.get? c = some o) → Q (.ref s.heap.objs.size) { s with heap := h', toks := tk }) :
    wpAny (model prog w) A (Builtin.«zip.__next__» ⟨[.ref z], []⟩) (fun fin s' => ∃ v, fin = .done (.ret v) ∧ Q v s') E s := by
  obtain ⟨hp, g, d, tk0, os⟩ := s
  refine wpAny_bind (m := field (.ref z) 2) (wpAny_field hz rfl (x := .bool b) rfl ?_)
  refine wpAny_bind (m := field (.ref z) 3) (wpAny_field hz rfl (x := .ref TI) rfl ?_)
  refine wpAny_bind (wpAny_seqItems hTI rfl ?_)
  show wpAny _ _ (Builtin.SmallTypes.ownedTupleIsFree (.ref z) >>= _) _ _ _
  rw [val_b]
  refine wpAny_bind ?_
  unfold Builtin.SmallTypes.ownedTupleIsFree
  refine wpAny_bind (wpAny_field hz rfl (x := .none) rfl (wpAny_pure ?_))
  simp only [if_true]
  refine wpAny_bind (wpAny_rule (wpAny_bind (wpAny_field hz rfl (x := .ref TO) rfl ?_)))
  refine wpAny_bind (wpAny_setField_rec hz (by simp) fun g0 hz0 hs0 => wpAny_bind ?_)
  replace hs0 : Heap.SameBut z hp g0 := hs0
  replace hz0 : ZipO g0 z TI TO .ellipsis b := hz0
  have hT0 : TupO g0 TO #[a1, a2, a3] := hs0.extBut _ _ S.zTO.symm hTO
  have t1_0 : St1 i g0 := D1.frame _ _ _ st1 fun c hc o e => hs0.extBut c o (fun q => S.z1 (q ▸ hc)) e
  have t2_0 : St2 i g0 := D2.frame _ _ _ st2 fun c hc o e => hs0.extBut c o (fun q => S.z2 (q ▸ hc)) e
  have t3_0 : St3 i g0 := D3.frame _ _ _ st3 fun c hc o e => hs0.extBut c o (fun q => S.z3 (q ▸ hc)) e
  have k0 : ∀ c o, c ≠ z → c ≠ TO → c ≠ i1 → c ≠ i2 → c ≠ i3 → hp.get? c = some o → g0.get? c = some o := fun c o q0 _ _ _ _ e => hs0.extBut c o q0 e
  simp only [List.zipIdx_cons, List.zipIdx_nil, List.forIn_cons, List.forIn_nil]
  refine wpAny_bind (wpAny_bind (wpAny_onRaise (m := zdraw b (.ref i1)) (zdraw_item (s := ⟨g0, g, d, tk0, os⟩) D1 hi1 t1_0 fun x1 d1 tk1 p1 n1 hd1 => ?_)))
  replace hd1 : Heap.SameBut i1 g0 d1 := hd1
  have hU1 : TupO d1 TO #[a1, a2, a3] := hd1.extBut _ _ (fun q => S.T1 (q ▸ S.m1)) hT0
  refine wpAny_bind (wpAny_seqItems (s := ⟨d1, g, d, tk1, os⟩) hU1 rfl ?_)
  refine wpAny_bind (upd_tup (s := ⟨d1, g, d, tk1, os⟩) hU1 (by simp) fun g1 hT1 hs1 => ?_)
  replace hs1 : Heap.SameBut TO d1 g1 := hs1
  replace hT1 : TupO g1 TO #[x1, a2, a3] := hT1
  have hz1 : ZipO g1 z TI TO .ellipsis b := hs1.extBut _ _ S.zTO (hd1.extBut _ _ (fun q => S.z1 (q ▸ S.m1)) hz0)
  have t1_1 : St1 (i + 1) g1 := D1.frame _ _ _ n1 fun c hc o e => hs1.extBut c o (fun q => S.T1 (q ▸ hc)) e
  have t2_1 : St2 i g1 := D2.frame _ _ _ t2_0 fun c hc o e => hs1.extBut c o (fun q => S.T2 (q ▸ hc)) (hd1.extBut c o (fun q => S.s1_2 (q ▸ hc)) e)
  have t3_1 : St3 i g1 := D3.frame _ _ _ t3_0 fun c hc o e => hs1.extBut c o (fun q => S.T3 (q ▸ hc)) (hd1.extBut c o (fun q => S.s1_3 (q ▸ hc)) e)
  have k1 : ∀ c o, c ≠ z → c ≠ TO → c ≠ i1 → c ≠ i2 → c ≠ i3 → hp.get? c = some o → g1.get? c = some o := fun c o qz qT q1 q2 q3 e => hs1.extBut c o qT (hd1.extBut c o q1 (k0 c o qz qT q1 q2 q3 e))
  have e1 : g1.objs.size = g0.objs.size := by rw [hs1.1, hd1.1]
  refine wpAny_bind (wpAny_letGo (wpAny_pure ?_))
  refine wpAny_bind (wpAny_bind (wpAny_onRaise (m := zdraw b (.ref i2)) (zdraw_item (s := ⟨g1, g, d, tk1, os⟩) D2 hi2 t2_1 fun x2 d2 tk2 p2 n2 hd2 => ?_)))
  replace hd2 : Heap.SameBut i2 g1 d2 := hd2
  have hU2 : TupO d2 TO #[x1, a2, a3] := hd2.extBut _ _ (fun q => S.T2 (q ▸ S.m2)) hT1
  refine wpAny_bind (wpAny_seqItems (s := ⟨d2, g, d, tk2, os⟩) hU2 rfl ?_)
  refine wpAny_bind (upd_tup (s := ⟨d2, g, d, tk2, os⟩) hU2 (by simp) fun g2 hT2 hs2 => ?_)
  replace hs2 : Heap.SameBut TO d2 g2 := hs2
  replace hT2 : TupO g2 TO #[x1, x2, a3] := hT2
  have hz2 : ZipO g2 z TI TO .ellipsis b := hs2.extBut _ _ S.zTO (hd2.extBut _ _ (fun q => S.z2 (q ▸ S.m2)) hz1)
  have t1_2 : St1 (i + 1) g2 := D1.frame _ _ _ t1_1 fun c hc o e => hs2.extBut c o (fun q => S.T1 (q ▸ hc)) (hd2.extBut c o (fun q => S.s2_1 (q ▸ hc)) e)
  have t2_2 : St2 (i + 1) g2 := D2.frame _ _ _ n2 fun c hc o e => hs2.extBut c o (fun q => S.T2 (q ▸ hc)) e
  have t3_2 : St3 i g2 := D3.frame _ _ _ t3_1 fun c hc o e => hs2.extBut c o (fun q => S.T3 (q ▸ hc)) (hd2.extBut c o (fun q => S.s2_3 (q ▸ hc)) e)
  have k2 : ∀ c o, c ≠ z → c ≠ TO → c ≠ i1 → c ≠ i2 → c ≠ i3 → hp.get? c = some o → g2.get? c = some o := fun c o qz qT q1 q2 q3 e => hs2.extBut c o qT (hd2.extBut c o q2 (k1 c o qz qT q1 q2 q3 e))
  have e2 : g2.objs.size = g1.objs.size := by rw [hs2.1, hd2.1]
  refine wpAny_bind (wpAny_letGo (wpAny_pure ?_))
  refine wpAny_bind (wpAny_bind (wpAny_onRaise (m := zdraw b (.ref i3)) (zdraw_item (s := ⟨g2, g, d, tk2, os⟩) D3 hi3 t3_2 fun x3 d3 tk3 p3 n3 hd3 => ?_)))
  replace hd3 : Heap.SameBut i3 g2 d3 := hd3
  have hU3 : TupO d3 TO #[x1, x2, a3] := hd3.extBut _ _ (fun q => S.T3 (q ▸ S.m3)) hT2
  refine wpAny_bind (wpAny_seqItems (s := ⟨d3, g, d, tk3, os⟩) hU3 rfl ?_)
  refine wpAny_bind (upd_tup (s := ⟨d3, g, d, tk3, os⟩) hU3 (by simp) fun g3 hT3 hs3 => ?_)
  replace hs3 : Heap.SameBut TO d3 g3 := hs3
  replace hT3 : TupO g3 TO #[x1, x2, x3] := hT3
  have hz3 : ZipO g3 z TI TO .ellipsis b := hs3.extBut _ _ S.zTO (hd3.extBut _ _ (fun q => S.z3 (q ▸ S.m3)) hz2)
  have t1_3 : St1 (i + 1) g3 := D1.frame _ _ _ t1_2 fun c hc o e => hs3.extBut c o (fun q => S.T1 (q ▸ hc)) (hd3.extBut c o (fun q => S.s3_1 (q ▸ hc)) e)
  have t2_3 : St2 (i + 1) g3 := D2.frame _ _ _ t2_2 fun c hc o e => hs3.extBut c o (fun q => S.T2 (q ▸ hc)) (hd3.extBut c o (fun q => S.s3_2 (q ▸ hc)) e)
  have t3_3 : St3 (i + 1) g3 := D3.frame _ _ _ n3 fun c hc o e => hs3.extBut c o (fun q => S.T3 (q ▸ hc)) e
  have k3 : ∀ c o, c ≠ z → c ≠ TO → c ≠ i1 → c ≠ i2 → c ≠ i3 → hp.get? c = some o → g3.get? c = some o := fun c o qz qT q1 q2 q3 e => hs3.extBut c o qT (hd3.extBut c o q3 (k2 c o qz qT q1 q2 q3 e))
  have e3 : g3.objs.size = g2.objs.size := by rw [hs3.1, hd3.1]
  refine wpAny_bind (wpAny_letGo (wpAny_pure ?_))
  refine wpAny_pure ?_
  refine wpAny_bind (wpAny_seqItems (s := ⟨g3, g, d, tk3, os⟩) hT3 rfl ?_)
  refine wpAny_bind (wpAny_newTuple ?_)
  have hsz : g3.objs.size = hp.objs.size := by rw [e3, e2, e1, hs0.1]
  have hlt : z < g3.objs.size := Heap.lt_size hz3
  refine wpAny_bind ?_
  unfold Builtin.SmallTypes.ownedTupleHandOut
  have hy : ZipO (g3.push { cls := .type "tuple", data := .seq #[x1, x2, x3] }) z TI TO .ellipsis b := Heap.get?_push_of_some _ hz3
  refine wpAny_bind (wpAny_setField_rec hy (by simp) fun u1 hu1 hv1 => wpAny_setField_rec hu1 (by simp) fun u2 hu2 hv2 => ?_)
  have up : ∀ c o, c ≠ z → g3.get? c = some o → u2.get? c = some o := fun c o q e => hv2.extBut c o q (hv1.extBut c o q (Heap.get?_push_of_some _ e))
  have hN : TupO u2 g3.objs.size #[x1, x2, x3] := hv2.extBut _ _ (Nat.ne_of_gt hlt) (hv1.extBut _ _ (Nat.ne_of_gt hlt) (Heap.get?_push_size _ rfl))
  have hZ : ZipO u2 z TI TO (rawInt g3.objs.size) b := hu2
  rw [hsz] at hN hZ
  refine wpAny_pure ⟨_, rfl, ?_⟩
  show Q (.ref g3.objs.size) ⟨u2, g, d, tk3, os⟩
  rw [hsz]
  exact hQ x1 x2 x3 u2 tk3 p1 p2 p3 hZ (up _ _ S.zTO.symm hT3) (D1.frame _ _ _ t1_3 fun c hc o e => up c o (fun q => S.z1 (q ▸ hc)) e) (D2.frame _ _ _ t2_3 fun c hc o e => up c o (fun q => S.z2 (q ▸ hc)) e) (D3.frame _ _ _ t3_3 fun c hc o e => up c o (fun q => S.z3 (q ▸ hc)) e) hN fun c o qz qT q1 q2 q3 e => up c o qz (k3 c o qz qT q1 q2 q3 e)
theorem next_end3 {z TI TO i1 i2 i3 : Addr} {fp1 fp2 fp3 : List Addr} {n : Nat} {P1 P2 P3 : Nat → Value → Prop} {St1 St2 St3 : Nat → Heap → Prop} {a1 a2 a3 : Value} {Q : Fin → Shared → Prop} (hh : A.handled = none) (S : Sep3 z TI TO i1 i2 i3 fp1 fp2 fp3) (D1 : Draws prog w A i1 fp1 n P1 St1) (D2 : Draws prog w A i2 fp2 n P2 St2) (D3 : Draws prog w A i3 fp3 n P3 St3)
    (hz : ZipO s.heap z TI TO .none b) (hTI : TupO s.heap TI #[.ref i1, .ref i2, .ref i3]) (hTO : TupO s.heap TO #[a1, a2, a3]) (st1 : St1 n s.heap) (st2 : St2 n s.heap) (st3 : St3 n s.heap)
    (hE : ∀ h' e, (∀ c o, c ≠ z → c ≠ TO → c ≠ i1 → c ≠ i2 → c ≠ i3 → s.heap.get? c = some o → h'.get? c = some o) → (∃ o, h'.get? e = some o ∧ o.cls = .type "StopIteration") → E (.ref e) { s with heap := h' }) :
    wpAny (model prog w) A (Builtin.«zip.__next__» ⟨[.ref z], []⟩) Q E s := by
  obtain ⟨hp, g, d, tk0, os⟩ := s
  refine wpAny_bind (m := field (.ref z) 2) (wpAny_field hz rfl (x := .bool b) rfl ?_)
  refine wpAny_bind (m := field (.ref z) 3) (wpAny_field hz rfl (x := .ref TI) rfl ?_)
  refine wpAny_bind (wpAny_seqItems hTI rfl ?_)
  show wpAny _ _ (Builtin.SmallTypes.ownedTupleIsFree (.ref z) >>= _) _ _ _
  rw [val_b]
  refine wpAny_bind ?_
  unfold Builtin.SmallTypes.ownedTupleIsFree
  refine wpAny_bind (wpAny_field hz rfl (x := .none) rfl (wpAny_pure ?_))
  simp only [if_true]
  refine wpAny_bind (wpAny_rule (wpAny_bind (wpAny_field hz rfl (x := .ref TO) rfl ?_)))
  refine wpAny_bind (wpAny_setField_rec hz (by simp) fun g0 hz0 hs0 => wpAny_bind ?_)
  replace hs0 : Heap.SameBut z hp g0 := hs0
  replace hz0 : ZipO g0 z TI TO .ellipsis b := hz0
  have t1_0 : St1 n g0 := D1.frame _ _ _ st1 fun c hc o e => hs0.extBut c o (fun q => S.z1 (q ▸ hc)) e
  have t2_0 : St2 n g0 := D2.frame _ _ _ st2 fun c hc o e => hs0.extBut c o (fun q => S.z2 (q ▸ hc)) e
  have t3_0 : St3 n g0 := D3.frame _ _ _ st3 fun c hc o e => hs0.extBut c o (fun q => S.z3 (q ▸ hc)) e
  simp only [List.zipIdx_cons, List.zipIdx_nil, List.forIn_cons, List.forIn_nil]
  refine wpAny_bind (wpAny_bind (wpAny_onRaise ?_))
  cases b with
  | false =>
    refine wpAny_bind (m := Builtin.SmallTypes.nextOf (.ref i1)) (D1.done ⟨g0, g, d, tk0, os⟩ _ _ t1_0 fun y e hy he => ?_)
    replace hy : Heap.ExtBut i1 g0 y := hy
    obtain ⟨oe, hoe, hce⟩ := he
    replace hoe : y.get? e = some oe := hoe
    have hzy : ZipO y z TI TO .ellipsis false := hy _ _ (fun q => S.z1 (q ▸ S.m1)) hz0
    have hez : e ≠ z := fun x => by subst x; rw [hzy] at hoe; cases hoe; simp at hce
    refine wpAny_setField_rec (s := ⟨y, g, d, tk0, os⟩) hzy (by simp) fun y2 _ hv => ?_
    replace hv : Heap.SameBut z y y2 := hv
    exact hE y2 e (fun c o qz qT q1 q2 q3 x => hv.extBut c o qz (hy c o q1 (hs0.extBut c o qz x))) ⟨oe, hv.extBut _ _ hez hoe, hce⟩
  | true =>
    refine zend_strict (s := ⟨g0, g, d, tk0, os⟩) D1 t1_0 fun y hy => ?_
    replace hy : Heap.ExtBut i1 g0 y := hy
    have hzy : ZipO y z TI TO .ellipsis true := hy _ _ (fun q => S.z1 (q ▸ S.m1)) hz0
    have t2_1 : St2 n y := D2.frame _ _ _ t2_0 fun c hc o e => hy c o (fun q => S.s1_2 (q ▸ hc)) e
    have t3_1 : St3 n y := D3.frame _ _ _ t3_0 fun c hc o e => hy c o (fun q => S.s1_3 (q ▸ hc)) e
    refine wpAny_bind (wpAny_setField_rec (s := ⟨y, g, d, tk0, os⟩) hzy (by simp) fun y1 _ hv1 => ?_)
    replace hv1 : Heap.SameBut z y y1 := hv1
    have r2_1 : St2 n y1 := D2.frame _ _ _ t2_1 fun c hc o e => hv1.extBut c o (fun q => S.z2 (q ▸ hc)) e
    have r3_1 : St3 n y1 := D3.frame _ _ _ t3_1 fun c hc o e => hv1.extBut c o (fun q => S.z3 (q ▸ hc)) e
    have k1 : ∀ c o, c ≠ z → c ≠ TO → c ≠ i1 → c ≠ i2 → c ≠ i3 → hp.get? c = some o → y1.get? c = some o := fun c o qz qT q1 q2 q3 e => hv1.extBut c o qz (hy c o q1 (hs0.extBut c o qz e))
    refine wpAny_bind ?_
    refine wpAny_bind ?_
    simp only [List.drop_succ_cons, List.drop_zero, List.zipIdx_cons, List.zipIdx_nil, List.forIn_cons, List.forIn_nil]
    refine wpAny_bind (wpAny_bind (zend_strict (s := ⟨y1, g, d, tk0, os⟩) D2 r2_1 fun y2 hy2 => ?_))
    replace hy2 : Heap.ExtBut i2 y1 y2 := hy2
    have k2 : ∀ c o, c ≠ z → c ≠ TO → c ≠ i1 → c ≠ i2 → c ≠ i3 → hp.get? c = some o → y2.get? c = some o := fun c o qz qT q1 q2 q3 e => hy2 c o q2 (k1 c o qz qT q1 q2 q3 e)
    have r3_2 : St3 n y2 := D3.frame _ _ _ r3_1 fun c hc o e => hy2 c o (fun q => S.s2_3 (q ▸ hc)) e
    refine wpAny_pure ?_
    refine wpAny_bind (wpAny_bind (zend_strict (s := ⟨y2, g, d, tk0, os⟩) D3 r3_2 fun y3 hy3 => ?_))
    replace hy3 : Heap.ExtBut i3 y2 y3 := hy3
    have k3 : ∀ c o, c ≠ z → c ≠ TO → c ≠ i1 → c ≠ i2 → c ≠ i3 → hp.get? c = some o → y3.get? c = some o := fun c o qz qT q1 q2 q3 e => hy3 c o q3 (k2 c o qz qT q1 q2 q3 e)
    refine wpAny_pure ?_
    refine wpAny_pure ?_
    exact wpAny_bind (wpAny_rule (stop_it (s := ⟨y3, g, d, tk0, os⟩) hh fun h2 e kk he => hE h2 e (fun c o qz qT q1 q2 q3 x => kk c o (k3 c o qz qT q1 q2 q3 x)) he))
theorem py_item3 {z TI TO i1 i2 i3 : Addr} {fp1 fp2 fp3 : List Addr} {n1 n2 n3 i : Nat} {P1 P2 P3 : Nat → Value → Prop} {St1 St2 St3 : Nat → Heap → Prop} {a1 a2 a3 : Value} {Q : Option Value → Shared → Prop} (S : Sep3 z TI TO i1 i2 i3 fp1 fp2 fp3) (D1 : Draws prog w A.in1 i1 fp1 n1 P1 St1) (D2 : Draws prog w A.in1 i2 fp2 n2 P2 St2) (D3 : Draws prog w A.in1 i3 fp3 n3 P3 St3)
    (hz : ZipO s.heap z TI TO .none b) (hTI : TupO s.heap TI #[.ref i1, .ref i2, .ref i3]) (hTO : TupO s.heap TO #[a1, a2, a3]) (st1 : St1 i s.heap) (st2 : St2 i s.heap) (st3 : St3 i s.heap) (hi1 : i < n1) (hi2 : i < n2) (hi3 : i < n3)
    (hQ : ∀ x1 x2 x3 h' tk, P1 i x1 → P2 i x2 → P3 i x3 → ZipO h' z TI TO (rawInt s.heap.objs.size) b → TupO h' TO #[x1, x2, x3] → St1 (i + 1) h' → St2 (i + 1) h' → St3 (i + 1) h' → TupO h' s.heap.objs.size #[x1, x2, x3] →
      (∀ c o, c ≠ z → c ≠ TO → c ≠ i1 → c ≠ i2 → c ≠ i3 → s.heap.get? c = some o → h'.get? c = some o) → Q (some (.ref s.heap.objs.size)) { s with heap := h', toks := tk }) : wpAny (model prog w) A (pyNext (.ref z)) Q E s := by
  have hT : s.TypeIs (.ref z) "zip" := ⟨_, hz, rfl⟩
  unfold pyNext
  refine wpAny_bind (wpAny_attempt (wpAny_callSpecial?_slot (name := Str.ofString "__next__") hT F.slot_zip_next (wpAny_call_entry F.slot_zip_next hT F.entry_zip_next ?_ (F.args_zip_next_1 _))))
  exact next_item3 S D1 D2 D3 hz hTI hTO st1 st2 st3 hi1 hi2 hi3 fun x1 x2 x3 h2 tk p1 p2 p3 q1 q2 u1 u2 u3 q3 q4 => wpAny_pure (hQ x1 x2 x3 h2 tk p1 p2 p3 q1 q2 u1 u2 u3 q3 q4)
theorem py_end3 {z TI TO i1 i2 i3 : Addr} {fp1 fp2 fp3 : List Addr} {n : Nat} {P1 P2 P3 : Nat → Value → Prop} {St1 St2 St3 : Nat → Heap → Prop} {a1 a2 a3 : Value} {Q : Option Value → Shared → Prop} (hh : A.handled = none) (S : Sep3 z TI TO i1 i2 i3 fp1 fp2 fp3) (D1 : Draws prog w A.in1 i1 fp1 n P1 St1) (D2 : Draws prog w A.in1 i2 fp2 n P2 St2) (D3 : Draws prog w A.in1 i3 fp3 n P3 St3)
    (hz : ZipO s.heap z TI TO .none b) (hTI : TupO s.heap TI #[.ref i1, .ref i2, .ref i3]) (hTO : TupO s.heap TO #[a1, a2, a3]) (st1 : St1 n s.heap) (st2 : St2 n s.heap) (st3 : St3 n s.heap)
    (hQ : ∀ h', (∀ c o, c ≠ z → c ≠ TO → c ≠ i1 → c ≠ i2 → c ≠ i3 → s.heap.get? c = some o → h'.get? c = some o) → Q none { s with heap := h' }) : wpAny (model prog w) A (pyNext (.ref z)) Q E s := by
  have hT : s.TypeIs (.ref z) "zip" := ⟨_, hz, rfl⟩
  unfold pyNext
  refine wpAny_bind (wpAny_attempt (wpAny_callSpecial?_slot (name := Str.ofString "__next__") hT F.slot_zip_next (wpAny_call_entry F.slot_zip_next hT F.entry_zip_next ?_ (F.args_zip_next_1 _))))
  refine next_end3 (A := A.in1) hh S D1 D2 D3 hz hTI hTO st1 st2 st3 fun h2 e kk he => ?_
  obtain ⟨o, ho, hc⟩ := he
  exact wpAny_bind (wpAny_isInstance (T := "StopIteration") (b := true) ⟨o, ho, hc⟩ isSubtype_stop (wpAny_pure (hQ _ kk)))
theorem typeCall_strict3 (v1 v2 v3 x : Value) : checkTypeCall "zip" ⟨[v1, v2, v3], [(Str.ofString "strict", x)]⟩ = pure () := by kernel_rfl
theorem newCall_strict3 (v1 v2 v3 x : Value) : checkBuiltinCall "zip.__new__" ⟨[.type "zip", v1, v2, v3], [(Str.ofString "strict", x)]⟩ = pure () := by kernel_rfl
theorem initArgs_strict3 (obj v1 v2 v3 x : Value) : argsOk "object.__init__" ⟨[obj, v1, v2, v3], [(Str.ofString "strict", x)]⟩ := by unfold argsOk; kernel_rfl
abbrev sT3 (h : Heap) (o1 o2 o3 : Obj) : Heap := ((((h.push o1).push o2).push o3).push { cls := .type "tuple", data := .seq #[.ref h.objs.size, .ref (h.push o1).objs.size, .ref ((h.push o1).push o2).objs.size] })
abbrev sO3 (h : Heap) (o1 o2 o3 : Obj) : Heap := (sT3 h o1 o2 o3).push { cls := .type "tuple", data := .seq #[.none, .none, .none] }
abbrev sZ3 (h : Heap) (o1 o2 o3 : Obj) : Heap := (sO3 h o1 o2 o3).push { cls := .type "zip", data := .fields #[.none, .bool false, .bool true, .ref (((h.push o1).push o2).push o3).objs.size, .ref (sT3 h o1 o2 o3).objs.size] }
theorem meets_strict3 {v1 v2 v3 : Value} {o1 o2 o3 : Obj} {G1 G2 G3 : Heap → Prop} (B1 : Begins v1 o1 G1) (B2 : Begins v2 o2 G2) (B3 : Begins v3 o3 G3) :
    Meets (Builtin.«zip.__new__» ⟨[.type "zip", v1, v2, v3], [(Str.ofString "strict", .bool true)]⟩) (fun _ R s => (G1 s.heap ∧ G2 s.heap ∧ G3 s.heap) ∧ R (.ok (.ret (.ref (sO3 s.heap o1 o2 o3).objs.size))) { s with heap := (sZ3 s.heap o1 o2 o3) }) :=
  .of_wp fun prog w A R s h => by
    obtain ⟨hp, g, d, tk, os⟩ := s
    obtain ⟨⟨h1, h2, h3⟩, h⟩ := h
    have hsub := sub_zip
    have e1 : (Str.ofString "strict" != ("strict" : Str)) = false := by decide +kernel
    have w1 : ∀ {A' : Around} {E : Value → Shared → Prop} {Q : Value → Shared → Prop}, Q (.ref hp.objs.size) ⟨(hp.push o1), g, d, tk, os⟩ → wpAny (model prog w) A' (pyIter v1) Q E ⟨hp, g, d, tk, os⟩ := fun q => B1.iter prog w _ _ ⟨hp, g, d, tk, os⟩ _ (B1.keeps _ _ h1 fun c u e => e) q
    have w2 : ∀ {A' : Around} {E : Value → Shared → Prop} {Q : Value → Shared → Prop}, Q (.ref (hp.push o1).objs.size) ⟨((hp.push o1).push o2), g, d, tk, os⟩ → wpAny (model prog w) A' (pyIter v2) Q E ⟨(hp.push o1), g, d, tk, os⟩ := fun q => B2.iter prog w _ _ ⟨(hp.push o1), g, d, tk, os⟩ _ (B2.keeps _ _ h2 fun c u e => (Heap.get?_push_of_some _ e)) q
    have w3 : ∀ {A' : Around} {E : Value → Shared → Prop} {Q : Value → Shared → Prop}, Q (.ref ((hp.push o1).push o2).objs.size) ⟨(((hp.push o1).push o2).push o3), g, d, tk, os⟩ → wpAny (model prog w) A' (pyIter v3) Q E ⟨((hp.push o1).push o2), g, d, tk, os⟩ := fun q => B3.iter prog w _ _ ⟨((hp.push o1).push o2), g, d, tk, os⟩ _ (B3.keeps _ _ h3 fun c u e => (Heap.get?_push_of_some _ (Heap.get?_push_of_some _ e))) q
    wp_walk using w1, w2, w3
    exact ⟨_, rfl, h⟩
/-- zip(.., strict=True) of 3: its new cells -/
theorem begins_strict3 {v1 v2 v3 : Value} {o1 o2 o3 : Obj} {G1 G2 G3 : Heap → Prop} {Q : Value → Shared → Prop} (B1 : Begins v1 o1 G1) (B2 : Begins v2 o2 G2) (B3 : Begins v3 o3 G3) (h1 : G1 s.heap) (h2 : G2 s.heap) (h3 : G3 s.heap)
    (h : ∀ h', ZipO h' (s.heap.objs.size + 5) (s.heap.objs.size + 3) (s.heap.objs.size + 4) .none true → TupO h' (s.heap.objs.size + 3) #[.ref s.heap.objs.size, .ref (s.heap.objs.size + 1), .ref (s.heap.objs.size + 2)] → TupO h' (s.heap.objs.size + 4) #[.none, .none, .none] → h'.get? s.heap.objs.size = some o1 → h'.get? (s.heap.objs.size + 1) = some o2 → h'.get? (s.heap.objs.size + 2) = some o3 → (∀ c o, s.heap.get? c = some o → h'.get? c = some o) → Q (.ref (s.heap.objs.size + 5)) { s with heap := h' }) :
    wpAny (model prog w) A (call (.type "zip") [v1, v2, v3] [(Str.ofString "strict", .bool true)]) Q E s := by
  refine callType_newKw F.called_zip (by decide) (typeCall_strict3 _ _ _ _) (newCall_strict3 _ _ _ _) (fun obj => initArgs_strict3 obj _ _ _ _) F.entry_zip_new (meets_strict3 B1 B2 B3) ⟨⟨h1, h2, h3⟩, ?_⟩
  have z1 : (s.heap.push o1).objs.size = s.heap.objs.size + 1 := by rw [Heap.size_push]
  have z2 : ((s.heap.push o1).push o2).objs.size = s.heap.objs.size + 2 := by rw [Heap.size_push, z1]
  have z3 : (((s.heap.push o1).push o2).push o3).objs.size = s.heap.objs.size + 3 := by rw [Heap.size_push, z2]
  have z4 : (sT3 s.heap o1 o2 o3).objs.size = s.heap.objs.size + 4 := by rw [Heap.size_push, z3]
  have z5 : (sO3 s.heap o1 o2 o3).objs.size = s.heap.objs.size + 5 := by rw [Heap.size_push, z4]
  have z6 : (sZ3 s.heap o1 o2 o3).objs.size = s.heap.objs.size + 6 := by rw [Heap.size_push, z5]
  have q0 : (sZ3 s.heap o1 o2 o3).get? s.heap.objs.size = some o1 := (Heap.get?_push_of_some _ (Heap.get?_push_of_some _ (Heap.get?_push_of_some _ (Heap.get?_push_of_some _ (Heap.get?_push_of_some _ (Heap.get?_push_size _ B1.free))))))
  have q1 : (sZ3 s.heap o1 o2 o3).get? (s.heap.push o1).objs.size = some o2 := (Heap.get?_push_of_some _ (Heap.get?_push_of_some _ (Heap.get?_push_of_some _ (Heap.get?_push_of_some _ (Heap.get?_push_size _ B2.free)))))
  rw [z1] at q1
  have q2 : (sZ3 s.heap o1 o2 o3).get? ((s.heap.push o1).push o2).objs.size = some o3 := (Heap.get?_push_of_some _ (Heap.get?_push_of_some _ (Heap.get?_push_of_some _ (Heap.get?_push_size _ B3.free))))
  rw [z2] at q2
  have q3 : (sZ3 s.heap o1 o2 o3).get? (((s.heap.push o1).push o2).push o3).objs.size = some ({ cls := .type "tuple", data := .seq #[.ref s.heap.objs.size, .ref (s.heap.push o1).objs.size, .ref ((s.heap.push o1).push o2).objs.size] } : Obj) := (Heap.get?_push_of_some _ (Heap.get?_push_of_some _ (Heap.get?_push_size _ rfl)))
  rw [z3] at q3
  have q4 : (sZ3 s.heap o1 o2 o3).get? (sT3 s.heap o1 o2 o3).objs.size = some ({ cls := .type "tuple", data := .seq #[.none, .none, .none] } : Obj) := (Heap.get?_push_of_some _ (Heap.get?_push_size _ rfl))
  rw [z4] at q4
  have q5 : (sZ3 s.heap o1 o2 o3).get? (sO3 s.heap o1 o2 o3).objs.size = some ({ cls := .type "zip", data := .fields #[.none, .bool false, .bool true, .ref (((s.heap.push o1).push o2).push o3).objs.size, .ref (sT3 s.heap o1 o2 o3).objs.size] } : Obj) := (Heap.get?_push_size _ rfl)
  rw [z5] at q5
  rw [z2, z1] at q3
  rw [z4, z3] at q5
  show _ ∧ _
  rw [z5]
  exact ⟨⟨_, q5, rfl⟩, h _ q5 q3 q4 q0 q1 q2 fun c o e => (Heap.get?_push_of_some _ (Heap.get?_push_of_some _ (Heap.get?_push_of_some _ (Heap.get?_push_of_some _ (Heap.get?_push_of_some _ (Heap.get?_push_of_some _ e))))))⟩
end
end CZ

namespace CZ
open PySem PySem.Spec PyProof.Rows L2
/-- a list (false) or a tuple (true) that is read -/
def SqK (K : PySem.W.Frag) (H : Hp) (p : Bool × Addr) (xs : List V) : Prop := if p.1 = true then SqT K H p.2 xs else SqL K H p.2 xs
def SqIt (h : Heap) (it : Addr) (p : Bool × Addr) (i : Nat) : Prop := if p.1 = true then h.IsTupleIter it p.2 i else h.IsListIter it p.2 i
def SeqIs (h : Heap) (p : Bool × Addr) (its : List Value) : Prop := if p.1 = true then h.IsTuple p.2 its.toArray else h.IsList p.2 its.toArray
/-- the iterator's object as it begins -/
def itO (p : Bool × Addr) : Obj := if p.1 = true then { cls := .type "tuple_iterator", data := .fields #[.ref p.2, .int 0 0] } else { cls := .type "list_iterator", data := .fields #[.ref p.2, .int 0 0] }
theorem SqIt.at {h h' : Heap} {it : Addr} {p : Bool × Addr} {i : Nat} (x : SqIt h it p i) (k : ∀ o, h.get? it = some o → h'.get? it = some o) : SqIt h' it p i := by
  obtain ⟨b, a⟩ := p
  cases b
  · exact Heap.IsListIter.at (show h.IsListIter it a i from x) k
  · exact Heap.IsTupleIter.at (show h.IsTupleIter it a i from x) k
theorem SqIt.obj {h : Heap} {it : Addr} {p : Bool × Addr} {i : Nat} (x : SqIt h it p i) : ∃ o, h.get? it = some o ∧ ∀ v, o.data ≠ .cell v := by
  obtain ⟨b, a⟩ := p
  cases b
  · obtain ⟨o, e, _, d⟩ := (show h.IsListIter it a i from x)
    exact ⟨o, e, fun v q => by rw [d] at q; cases q⟩
  · obtain ⟨o, e, _, d⟩ := (show h.IsTupleIter it a i from x)
    exact ⟨o, e, fun v q => by rw [d] at q; cases q⟩
theorem SqIt.begin {h : Heap} {it : Addr} {p : Bool × Addr} (e : h.get? it = some (itO p)) : SqIt h it p 0 := by
  obtain ⟨b, a⟩ := p
  cases b
  · exact ⟨_, e, rfl, rfl⟩
  · exact ⟨_, e, rfl, rfl⟩
theorem begins_of (p : Bool × Addr) (its : List Value) : Begins (.ref p.2) (itO p) (fun h => SeqIs h p its) := by
  obtain ⟨b, a⟩ := p
  cases b
  · exact begins_list a its.toArray
  · exact begins_tuple a its.toArray
theorem draws_of {prog : Program} {w : World} {A : Around} (hh : A.handled = none) (it : Addr) (p : Bool × Addr) (ne : p.2 ≠ it) (its : List Value) :
    Draws prog w A it [it, p.2] its.toArray.size (fun i v => its.toArray[i]? = some v) (fun i h => SqIt h it p i ∧ SeqIs h p its) := by
  obtain ⟨b, a⟩ := p
  cases b
  · exact Draws.list hh it a ne its.toArray
  · exact Draws.tuple hh it a ne its.toArray
section
variable {X : Cx} {pins : List (Addr × Obj)} {σ : L2.St} {H : Hp} {s : Shared} {p : Bool × Addr} {xs ys : List V}
theorem sq_seq (I : Inv X pins σ H s) (h : SqK X.K H p xs) : ∃ its : List Value, Vals xs its ∧ SeqIs s.heap p its ∧ p.2 < s.heap.objs.size := by
  obtain ⟨b, a⟩ := p
  cases b
  · obtain ⟨its, rv, q, _⟩ := I.list (show SqL X.K H a xs from h)
    exact ⟨its, rv, q.isList, q.lt⟩
  · obtain ⟨its, rv, q, _⟩ := I.tuple (show SqT X.K H a xs from h)
    obtain ⟨o, ho, _⟩ := id q
    exact ⟨its, rv, q, Heap.lt_size ho⟩
theorem sq_inj (I : Inv X pins σ H s) (h : SqK X.K H p xs) (h2 : SqK X.K H p ys) : xs = ys := by
  obtain ⟨b, a⟩ := p
  cases b
  · exact I.list_inj (show SqL X.K H a xs from h) h2
  · exact I.tuple_inj (show SqT X.K H a xs from h) h2
end
/-- what a zip of lists and tuples of one length gives -/
def ItZ (K : PySem.W.Frag) (l : List (Bool × Addr)) : It :=
  ⟨fun i H => ∃ vs : List V, Paired (fun p v => ∃ xs, SqK K H p xs ∧ xs[i]? = some v) l vs,
    fun i H v H2 => ∃ (T : Addr) (vs : List V), v = .ref T ∧ H T = none ∧ H2 = upd H T (.tup vs) ∧ Paired (fun p v => ∀ xs, SqK K H p xs → xs[i]? = some v) l vs,
    fun i H => ∀ p ∈ l, ∃ xs, SqK K H p xs ∧ xs.length = i⟩
def YRow (xss : List (List V)) : Nat → Hp → V → Hp → Prop := fun i H v H2 => ∃ (T : Addr) (vs : List V), v = .ref T ∧ H T = none ∧ H2 = upd H T (.tup vs) ∧ Paired (fun (xs : List V) v => xs[i]? = some v) xss vs
theorem pair_go {K : PySem.W.Frag} {H : Hp} {i : Nat} : ∀ {l : List (Bool × Addr)} {xss : List (List V)}, Paired (fun p xs => SqK K H p xs) l xss → (∀ xs ∈ xss, i < xs.length) → ∃ vs, Paired (fun p v => ∃ xs, SqK K H p xs ∧ xs[i]? = some v) l vs
  | _, _, .nil, _ => ⟨[], .nil⟩
  | _, _, .cons (b := xs) r t, h => by
    obtain ⟨vs, q⟩ := pair_go t fun ys hy => h ys (List.mem_cons_of_mem _ hy)
    have hi := h xs List.mem_cons_self
    exact ⟨xs[i] :: vs, .cons ⟨xs, r, List.getElem?_eq_getElem hi⟩ q⟩
theorem pair_row {K : PySem.W.Frag} {H : Hp} {i : Nat} : ∀ {l : List (Bool × Addr)} {xss : List (List V)} {vs : List V}, Paired (fun p xs => SqK K H p xs) l xss → Paired (fun p v => ∀ xs, SqK K H p xs → xs[i]? = some v) l vs → Paired (fun (xs : List V) v => xs[i]? = some v) xss vs
  | _, _, _, .nil, .nil => .nil
  | _, _, _, .cons r t, .cons q u => .cons (q _ r) (pair_row t u)
theorem pair_stop {K : PySem.W.Frag} {H : Hp} {n : Nat} : ∀ {l : List (Bool × Addr)} {xss : List (List V)}, Paired (fun p xs => SqK K H p xs) l xss → (∀ xs ∈ xss, xs.length = n) → ∀ p ∈ l, ∃ xs, SqK K H p xs ∧ xs.length = n
  | _, _, .nil, _, _, hp => nomatch hp
  | _, _, .cons r t, h, p, hp => by
    rcases List.mem_cons.mp hp with e | hp
    · rw [e]
      exact ⟨_, r, h _ List.mem_cons_self⟩
    · exact pair_stop t (fun ys hy => h ys (List.mem_cons_of_mem _ hy)) p hp
theorem walk_rows {K : PySem.W.Frag} {l : List (Bool × Addr)} {xss : List (List V)} {n : Nat} (hn : ∀ xs ∈ xss, xs.length = n) : Walk (ItZ K l) n (fun H => Paired (fun p xs => SqK K H p xs) l xss) (YRow xss) :=
  ⟨fun i H hi q => pair_go q fun xs hx => by rw [hn xs hx]; exact hi, fun H q => pair_stop q hn, fun i H x H2 _ q y => by
    obtain ⟨T, vs, h1, h2, h3, h4⟩ := y
    exact ⟨T, vs, h1, h2, h3, pair_row q h4⟩⟩
/-- the reading of zip(..): which are tuples is told by the flags -/
def iZ (K : PySem.W.Frag) (fl : List Bool) (ta : TA) : TI := fun σ H R => ta σ H fun vs H1 => ∃ l : List Addr, vs = l.map V.ref ∧ l.length = fl.length ∧ (∀ p ∈ fl.zip l, ∃ xs, SqK K H1 p xs) ∧ R (ItZ K (fl.zip l)) H1
theorem nin_new {M a : Nat} (j k : Nat) (h : a < M) (hjk : j ≠ k) : M + j ∉ [M + k, a] := by
  simp only [List.mem_cons, List.mem_nil_iff, or_false, not_or]
  omega
theorem looks_ty {M : Model} {h : Heap} (T : String) (_ : True) : ∃ k, (k = Keeper.frame ∨ k = Keeper.machine ∨ k = Keeper.boundFrame) ∧ PySem.W.Looks M h (keeperOf (.type T)) k := ⟨_, .inr (.inl rfl), PySem.W.Looks.of_pure rfl⟩
end CZ

namespace CZ
open PySem PySem.Spec PyProof.Rows L2
theorem turn_z2 {P : Program} {w : World} {K : PySem.W.Frag} {elts : List Expr} {kk : Nat} {tpos : Pos} {z TI TO i1 i2 : Addr} {p1 p2 : Bool × Addr} {b : Bool} (S : Sep2 z TI TO i1 i2 [i1, p1.2] [i2, p2.2]) (ne1 : p1.2 ≠ i1) (ne2 : p2.2 ≠ i2) :
    Turn P w K (.Tuple elts kk tpos) (ItZ K [p1, p2]) [z, TI, TO, i1, i2] z (fun i h => ZipO h z TI TO .none b ∧ TupO h TI #[.ref i1, .ref i2] ∧ (∃ a1 a2, TupO h TO #[a1, a2]) ∧ SqIt h i1 p1 i ∧ SqIt h i2 p2 i) where
  mem := by simp
  obj := fun i h st c hc => by
    obtain ⟨hz, hTI, ⟨a1, a2, hTO⟩, h1, h2⟩ := st
    have e : c = z ∨ c = TI ∨ c = TO ∨ c = i1 ∨ c = i2 := by simpa using hc
    rcases e with q | q | q | q | q
    · rw [q]; exact ⟨_, hz, fun v q => nomatch q⟩
    · rw [q]; exact ⟨_, hTI, fun v q => nomatch q⟩
    · rw [q]; exact ⟨_, hTO, fun v q => nomatch q⟩
    · rw [q]; exact h1.obj
    · rw [q]; exact h2.obj
  keep := fun i h h2 st k => by
    obtain ⟨hz, hTI, ⟨a1, a2, hTO⟩, h1, h2⟩ := st
    exact ⟨k z (by simp) _ hz, k TI (by simp) _ hTI, ⟨a1, a2, k TO (by simp) _ hTO⟩, h1.at fun o q => k i1 (by simp) o q, h2.at fun o q => k i2 (by simp) o q⟩
  item := by
    intro X hP hw hK hc i pins s σ H E I hf st hg
    subst hP hw hK
    obtain ⟨hz, hTI, ⟨a1, a2, hTO⟩, h1, h2⟩ := st
    obtain ⟨vs, hv⟩ := hg
    cases hv with
    | cons r1 hv1 =>
      rename_i v1 ws1
      obtain ⟨xs1, hq1, hx1⟩ := r1
      obtain ⟨its1, rv1, q1, _⟩ := sq_seq I hq1
      obtain ⟨u1, hu1, ru1⟩ := rv1.get hx1
      have g1 : its1.toArray[i]? = some u1 := by simpa using hu1
      have l1 : i < its1.toArray.size := by have := (List.getElem?_eq_some_iff.mp hu1).1; simpa using this
      cases hv1 with
      | cons r2 hv2 =>
        rename_i v2 ws2
        obtain ⟨xs2, hq2, hx2⟩ := r2
        obtain ⟨its2, rv2, q2, _⟩ := sq_seq I hq2
        obtain ⟨u2, hu2, ru2⟩ := rv2.get hx2
        have g2 : its2.toArray[i]? = some u2 := by simpa using hu2
        have l2 : i < its2.toArray.size := by have := (List.getElem?_eq_some_iff.mp hu2).1; simpa using this
        cases hv2
        have hzl : z < s.heap.objs.size := Heap.lt_size hz
        refine py_item2 S (draws_of (A := X.A.in1) (I.ok.hd hc) i1 p1 ne1 its1) (draws_of (A := X.A.in1) (I.ok.hd hc) i2 p2 ne2 its2) hz hTI hTO ⟨h1, q1⟩ ⟨h2, q2⟩ l1 l2 fun x1 x2 hA tk y1 y2 z2 TO2 n1 n2 hT hk => ?_
        obtain rfl : u1 = x1 := Option.some.inj (g1.symm.trans y1)
        obtain rfl : u2 = x2 := Option.some.inj (g2.symm.trans y2)
        refine ⟨_, rfl, go_zip (s := { s with heap := hA, toks := tk }) z2 fun hB z3 sb => ?_⟩
        replace sb : Heap.SameBut z hA hB := sb
        have hT2 : hB.get? s.heap.objs.size = some { cls := .type "tuple", data := .seq #[u1, u2] } := (sb.2 _ (Nat.ne_of_gt hzl)).trans hT
        have new : ObjOk X.prog X.w (upd H s.heap.objs.size (.tup [v1, v2])) hB s.heap.objs.size (.tup [v1, v2]) := ⟨by show 2 ≤ sizeLine; decide, [u1, u2], (.cons ru1 (.cons ru2 .nil)), ⟨_, hT2, rfl, _, rfl⟩⟩
        have I1 : Inv X pins σ (upd H s.heap.objs.size (.tup [v1, v2])) { s with heap := hB, toks := tk } := I.turnedNew (t' := tk) (ch := [z, TI, TO, i1, i2]) (fun c o hb q => (sb.2 c (fun q => hb (by simp [q]))).trans (hk c o (fun q => hb (by simp [q])) (fun q => hb (by simp [q])) (fun q => hb (by simp [q])) (fun q => hb (by simp [q])) q)) hf (Nat.le_refl _) new
        refine ⟨.ref s.heap.objs.size, _, I1, rfl, ⟨_, _, rfl, I.hok.fresh (Nat.le_refl _), rfl, (.cons (fun l hl => by rw [sq_inj I hl hq1]; exact hx1) (.cons (fun l hl => by rw [sq_inj I hl hq2]; exact hx2) .nil))⟩, ⟨z3, (sb.2 _ S.zTI.symm).trans (hk _ _ S.zTI.symm S.TOTI.symm S.I1 S.I2 hTI), ⟨u1, u2, (sb.2 _ S.zTO.symm).trans TO2⟩, (n1.1.at fun o q => (sb.2 _ (fun q => S.z1 (by rw [← q]; exact S.m1))).trans q), (n2.1.at fun o q => (sb.2 _ (fun q => S.z2 (by rw [← q]; exact S.m2))).trans q)⟩, fun c hcm => ?_⟩
        have hlt : c < s.heap.objs.size := by
          have e : c = z ∨ c = TI ∨ c = TO ∨ c = i1 ∨ c = i2 := by simpa using hcm
          rcases e with q | q | q | q | q
          · rw [q]; exact hzl
          · rw [q]; exact Heap.lt_size hTI
          · rw [q]; exact Heap.lt_size hTO
          · rw [q]; obtain ⟨_, e1, _⟩ := h1.obj; exact Heap.lt_size e1
          · rw [q]; obtain ⟨_, e1, _⟩ := h2.obj; exact Heap.lt_size e1
        rw [upd_ne (Nat.ne_of_lt hlt)]
        exact (hf c hcm).1
  done := by
    intro X hP hw hK hc i pins s σ H E I hf st hg
    subst hP hw hK
    obtain ⟨hz, hTI, ⟨a1, a2, hTO⟩, h1, h2⟩ := st
    obtain ⟨xs1, hq1, hx1⟩ := hg p1 (by simp)
    obtain ⟨its1, rv1, q1, _⟩ := sq_seq I hq1
    have l1 : its1.toArray.size = i := by have := rv1.length; simp; omega
    have D1 := draws_of (prog := X.prog) (w := X.w) (A := X.A.in1) (I.ok.hd hc) i1 p1 ne1 its1
    rw [l1] at D1
    obtain ⟨xs2, hq2, hx2⟩ := hg p2 (by simp)
    obtain ⟨its2, rv2, q2, _⟩ := sq_seq I hq2
    have l2 : its2.toArray.size = i := by have := rv2.length; simp; omega
    have D2 := draws_of (prog := X.prog) (w := X.w) (A := X.A.in1) (I.ok.hd hc) i2 p2 ne2 its2
    rw [l2] at D2
    exact py_end2 (I.ok.hd hc) S D1 D2 hz hTI hTO ⟨h1, q1⟩ ⟨h2, q2⟩ fun h2 hk => ⟨rfl, I.turnedL (t' := s.toks) (ch := [z, TI, TO, i1, i2]) (fun c o hb q => hk c o (fun q => hb (by simp [q])) (fun q => hb (by simp [q])) (fun q => hb (by simp [q])) (fun q => hb (by simp [q])) q) hf⟩
  self := fun A i s Q E st h => iter_zip st.1 h
theorem sep_new2 {M : Nat} {p1 p2 : Bool × Addr} (h1 : p1.2 < M) (h2 : p2.2 < M) : Sep2 (M + 4) (M + 2) (M + 3) M (M + 1) [M, p1.2] [M + 1, p2.2] where
  zTO := by show (M + 4 : Nat) ≠ M + 3; omega
  zTI := by show (M + 4 : Nat) ≠ M + 2; omega
  TOTI := by show (M + 3 : Nat) ≠ M + 2; omega
  m1 := by simp
  z1 := nin_new (a := p1.2) 4 0 h1 (by decide)
  T1 := nin_new (a := p1.2) 3 0 h1 (by decide)
  I1 := by show (M + 2 : Nat) ≠ M; omega
  s2_1 := nin_new (a := p1.2) 1 0 h1 (by decide)
  m2 := by simp
  z2 := nin_new (a := p2.2) 4 1 h2 (by decide)
  T2 := nin_new (a := p2.2) 3 1 h2 (by decide)
  I2 := by show (M + 2 : Nat) ≠ M + 1; omega
  s1_2 := nin_new (a := p2.2) 0 1 h2 (by decide)
theorem pi_z2s {X : Cx} {e1 e2 : Expr} {ta : TA} {p pos tpos : Pos} {elts : List Expr} {kk : Nat} {jj : Nat} {kp kp2 : Pos} {fl : List Bool} (hfl : fl.length = 2) (hg : Gl X "zip") (hm : X.mg "zip" = none) (ha : PA X [e1, e2] ta)
    (hs : starEach [e1, e2] X.env = (false, eval e1 X.env) :: starEach [e2] X.env := by rfl) (hpl : (backTo pos (starEach [e2] X.env)).any (·.1) = false := by rfl) :
    PI X (.Tuple elts kk tpos) (.Call (.Name "zip" p) [e1, e2] [⟨some "strict", .Constant (.bool true) jj kp, kp2⟩] pos) (iZ X.K fl ta) := by
  refine ⟨fun pins s σ H R I h => ?_⟩
  refine wpAny_Call_Name_kw (ld_blt I hg hm PyProof.Rows.boot_zip ?_)
  refine PySem.W.callWith_of (P := fun _ => True) ?_ (fun h _ => looks_ty "zip" True.intro) ?_
  · show ((backTo pos (starEach _ X.env)).any (·.1) || false) = false
    rw [hs, Bool.or_false]
    exact hpl
  have he : backTo pos (starEach [e1, e2] X.env) = (false, eval e1 X.env) :: backTo pos (starEach [e2] X.env) := by rw [hs]; rfl
  rw [he]
  refine PyProof.Rows.evalArgs_kwB rfl ?_
  rw [← he]
  refine thn (ha.run pos pins s σ H _ I h) fun us s0 ⟨vs, H1, I0, r1, q1⟩ => ?_
  refine PyProof.Rows.kws_cons (Constant_bool (PyProof.Rows.kws_nil ⟨True.intro, ?_⟩))
  have I1 := I0
  obtain ⟨l, ev, el, hl, q1⟩ := q1
  subst ev
  obtain ⟨b1, b2, rfl⟩ : ∃ b1 b2 : Bool, fl = [b1, b2] := match fl, hfl with | [_, _], _ => ⟨_, _, rfl⟩
  obtain ⟨c1, c2, rfl⟩ : ∃ c1 c2 : Addr, l = [c1, c2] := match l, el with | [_, _], _ => ⟨_, _, rfl⟩
  cases r1 with
  | cons r_1 rr1 =>
    cases r_1
    cases rr1 with
    | cons r_2 rr2 =>
      cases r_2
      cases rr2
      obtain ⟨xs1, hq1⟩ := hl (b1, c1) (by simp)
      obtain ⟨its1, rv1, g1, lt1⟩ := sq_seq I1 hq1
      obtain ⟨xs2, hq2⟩ := hl (b2, c2) (by simp)
      obtain ⟨its2, rv2, g2, lt2⟩ := sq_seq I1 hq2
      have frs : ∀ c, c ∈ [s0.heap.objs.size + 4, s0.heap.objs.size + 2, s0.heap.objs.size + 3, s0.heap.objs.size, s0.heap.objs.size + 1] → FpOk X pins H1 c := fun c hcm => by
        have e : c = s0.heap.objs.size + 4 ∨ c = s0.heap.objs.size + 2 ∨ c = s0.heap.objs.size + 3 ∨ c = s0.heap.objs.size ∨ c = s0.heap.objs.size + 1 := by simpa using hcm
        have hle : s0.heap.objs.size ≤ c := by
          rcases e with q | q | q | q | q
          · rw [q]; exact Nat.le_add_right _ _
          · rw [q]; exact Nat.le_add_right _ _
          · rw [q]; exact Nat.le_add_right _ _
          · rw [q]; exact Nat.le_refl _
          · rw [q]; exact Nat.le_add_right _ _
        exact I1.fpOk hle (I1.hok.fresh hle)
      refine begins_strict2 (begins_of (b1, c1) its1) (begins_of (b2, c2) its2) g1 g2 fun hA hz hTI hTO y1 y2 kk => iter_zip hz ?_
      have I2 : Inv X pins σ H1 { s0 with heap := hA } := I1.kept (t' := s0.toks) kk
      exact ⟨_, [s0.heap.objs.size + 4, s0.heap.objs.size + 2, s0.heap.objs.size + 3, s0.heap.objs.size, s0.heap.objs.size + 1], _, _, H1, rfl, I2, turn_z2 (sep_new2 lt1 lt2) (Nat.ne_of_lt lt1) (Nat.ne_of_lt (Nat.lt_of_lt_of_le lt2 (Nat.le_add_right _ 1))), ⟨hz, hTI, ⟨_, _, hTO⟩, SqIt.begin y1, SqIt.begin y2⟩, frs, q1⟩
theorem pi_z2 {X : Cx} {e1 e2 : Expr} {ta : TA} {p pos tpos : Pos} {elts : List Expr} {kk : Nat} {fl : List Bool} (hfl : fl.length = 2) (hg : Gl X "zip") (hm : X.mg "zip" = none) (ha : PA X [e1, e2] ta)
    (hs : starEach [e1, e2] X.env = (false, eval e1 X.env) :: starEach [e2] X.env := by rfl) (hpl : (backTo pos (starEach [e2] X.env)).any (·.1) = false := by rfl) :
    PI X (.Tuple elts kk tpos) (.Call (.Name "zip" p) [e1, e2] [] pos) (iZ X.K fl ta) := by
  refine ⟨fun pins s σ H R I h => ?_⟩
  refine Call_ (ld_blt I hg hm PyProof.Rows.boot_zip (PyProof.Rows.callWith_type1 (thn (ha.run pos pins s σ H _ I h) fun us s0 ⟨vs, H1, I1, r1, q1⟩ => ?_) hs hpl))
  obtain ⟨l, ev, el, hl, q1⟩ := q1
  subst ev
  obtain ⟨b1, b2, rfl⟩ : ∃ b1 b2 : Bool, fl = [b1, b2] := match fl, hfl with | [_, _], _ => ⟨_, _, rfl⟩
  obtain ⟨c1, c2, rfl⟩ : ∃ c1 c2 : Addr, l = [c1, c2] := match l, el with | [_, _], _ => ⟨_, _, rfl⟩
  cases r1 with
  | cons r_1 rr1 =>
    cases r_1
    cases rr1 with
    | cons r_2 rr2 =>
      cases r_2
      cases rr2
      obtain ⟨xs1, hq1⟩ := hl (b1, c1) (by simp)
      obtain ⟨its1, rv1, g1, lt1⟩ := sq_seq I1 hq1
      obtain ⟨xs2, hq2⟩ := hl (b2, c2) (by simp)
      obtain ⟨its2, rv2, g2, lt2⟩ := sq_seq I1 hq2
      have frs : ∀ c, c ∈ [s0.heap.objs.size + 4, s0.heap.objs.size + 2, s0.heap.objs.size + 3, s0.heap.objs.size, s0.heap.objs.size + 1] → FpOk X pins H1 c := fun c hcm => by
        have e : c = s0.heap.objs.size + 4 ∨ c = s0.heap.objs.size + 2 ∨ c = s0.heap.objs.size + 3 ∨ c = s0.heap.objs.size ∨ c = s0.heap.objs.size + 1 := by simpa using hcm
        have hle : s0.heap.objs.size ≤ c := by
          rcases e with q | q | q | q | q
          · rw [q]; exact Nat.le_add_right _ _
          · rw [q]; exact Nat.le_add_right _ _
          · rw [q]; exact Nat.le_add_right _ _
          · rw [q]; exact Nat.le_refl _
          · rw [q]; exact Nat.le_add_right _ _
        exact I1.fpOk hle (I1.hok.fresh hle)
      refine zip_begins2 (begins_of (b1, c1) its1) (begins_of (b2, c2) its2) g1 g2 fun hA hz hTI hTO y1 y2 _ kk => iter_zip (b := false) hz ?_
      have I2 : Inv X pins σ H1 { s0 with heap := hA } := I1.kept (t' := s0.toks) kk
      exact ⟨_, [s0.heap.objs.size + 4, s0.heap.objs.size + 2, s0.heap.objs.size + 3, s0.heap.objs.size, s0.heap.objs.size + 1], _, _, H1, rfl, I2, turn_z2 (sep_new2 lt1 lt2) (Nat.ne_of_lt lt1) (Nat.ne_of_lt (Nat.lt_of_lt_of_le lt2 (Nat.le_add_right _ 1))), ⟨hz, hTI, ⟨_, _, hTO⟩, SqIt.begin y1, SqIt.begin y2⟩, frs, q1⟩
theorem turn_z3 {P : Program} {w : World} {K : PySem.W.Frag} {elts : List Expr} {kk : Nat} {tpos : Pos} {z TI TO i1 i2 i3 : Addr} {p1 p2 p3 : Bool × Addr} {b : Bool} (S : Sep3 z TI TO i1 i2 i3 [i1, p1.2] [i2, p2.2] [i3, p3.2]) (ne1 : p1.2 ≠ i1) (ne2 : p2.2 ≠ i2) (ne3 : p3.2 ≠ i3) :
    Turn P w K (.Tuple elts kk tpos) (ItZ K [p1, p2, p3]) [z, TI, TO, i1, i2, i3] z (fun i h => ZipO h z TI TO .none b ∧ TupO h TI #[.ref i1, .ref i2, .ref i3] ∧ (∃ a1 a2 a3, TupO h TO #[a1, a2, a3]) ∧ SqIt h i1 p1 i ∧ SqIt h i2 p2 i ∧ SqIt h i3 p3 i) where
  mem := by simp
  obj := fun i h st c hc => by
    obtain ⟨hz, hTI, ⟨a1, a2, a3, hTO⟩, h1, h2, h3⟩ := st
    have e : c = z ∨ c = TI ∨ c = TO ∨ c = i1 ∨ c = i2 ∨ c = i3 := by simpa using hc
    rcases e with q | q | q | q | q | q
    · rw [q]; exact ⟨_, hz, fun v q => nomatch q⟩
    · rw [q]; exact ⟨_, hTI, fun v q => nomatch q⟩
    · rw [q]; exact ⟨_, hTO, fun v q => nomatch q⟩
    · rw [q]; exact h1.obj
    · rw [q]; exact h2.obj
    · rw [q]; exact h3.obj
  keep := fun i h h2 st k => by
    obtain ⟨hz, hTI, ⟨a1, a2, a3, hTO⟩, h1, h2, h3⟩ := st
    exact ⟨k z (by simp) _ hz, k TI (by simp) _ hTI, ⟨a1, a2, a3, k TO (by simp) _ hTO⟩, h1.at fun o q => k i1 (by simp) o q, h2.at fun o q => k i2 (by simp) o q, h3.at fun o q => k i3 (by simp) o q⟩
  item := by
    intro X hP hw hK hc i pins s σ H E I hf st hg
    subst hP hw hK
    obtain ⟨hz, hTI, ⟨a1, a2, a3, hTO⟩, h1, h2, h3⟩ := st
    obtain ⟨vs, hv⟩ := hg
    cases hv with
    | cons r1 hv1 =>
      rename_i v1 ws1
      obtain ⟨xs1, hq1, hx1⟩ := r1
      obtain ⟨its1, rv1, q1, _⟩ := sq_seq I hq1
      obtain ⟨u1, hu1, ru1⟩ := rv1.get hx1
      have g1 : its1.toArray[i]? = some u1 := by simpa using hu1
      have l1 : i < its1.toArray.size := by have := (List.getElem?_eq_some_iff.mp hu1).1; simpa using this
      cases hv1 with
      | cons r2 hv2 =>
        rename_i v2 ws2
        obtain ⟨xs2, hq2, hx2⟩ := r2
        obtain ⟨its2, rv2, q2, _⟩ := sq_seq I hq2
        obtain ⟨u2, hu2, ru2⟩ := rv2.get hx2
        have g2 : its2.toArray[i]? = some u2 := by simpa using hu2
        have l2 : i < its2.toArray.size := by have := (List.getElem?_eq_some_iff.mp hu2).1; simpa using this
        cases hv2 with
        | cons r3 hv3 =>
          rename_i v3 ws3
          obtain ⟨xs3, hq3, hx3⟩ := r3
          obtain ⟨its3, rv3, q3, _⟩ := sq_seq I hq3
          obtain ⟨u3, hu3, ru3⟩ := rv3.get hx3
          have g3 : its3.toArray[i]? = some u3 := by simpa using hu3
          have l3 : i < its3.toArray.size := by have := (List.getElem?_eq_some_iff.mp hu3).1; simpa using this
          cases hv3
          have hzl : z < s.heap.objs.size := Heap.lt_size hz
          refine py_item3 S (draws_of (A := X.A.in1) (I.ok.hd hc) i1 p1 ne1 its1) (draws_of (A := X.A.in1) (I.ok.hd hc) i2 p2 ne2 its2) (draws_of (A := X.A.in1) (I.ok.hd hc) i3 p3 ne3 its3) hz hTI hTO ⟨h1, q1⟩ ⟨h2, q2⟩ ⟨h3, q3⟩ l1 l2 l3 fun x1 x2 x3 hA tk y1 y2 y3 z2 TO2 n1 n2 n3 hT hk => ?_
          obtain rfl : u1 = x1 := Option.some.inj (g1.symm.trans y1)
          obtain rfl : u2 = x2 := Option.some.inj (g2.symm.trans y2)
          obtain rfl : u3 = x3 := Option.some.inj (g3.symm.trans y3)
          refine ⟨_, rfl, go_zip (s := { s with heap := hA, toks := tk }) z2 fun hB z3 sb => ?_⟩
          replace sb : Heap.SameBut z hA hB := sb
          have hT2 : hB.get? s.heap.objs.size = some { cls := .type "tuple", data := .seq #[u1, u2, u3] } := (sb.2 _ (Nat.ne_of_gt hzl)).trans hT
          have new : ObjOk X.prog X.w (upd H s.heap.objs.size (.tup [v1, v2, v3])) hB s.heap.objs.size (.tup [v1, v2, v3]) := ⟨by show 3 ≤ sizeLine; decide, [u1, u2, u3], (.cons ru1 (.cons ru2 (.cons ru3 .nil))), ⟨_, hT2, rfl, _, rfl⟩⟩
          have I1 : Inv X pins σ (upd H s.heap.objs.size (.tup [v1, v2, v3])) { s with heap := hB, toks := tk } := I.turnedNew (t' := tk) (ch := [z, TI, TO, i1, i2, i3]) (fun c o hb q => (sb.2 c (fun q => hb (by simp [q]))).trans (hk c o (fun q => hb (by simp [q])) (fun q => hb (by simp [q])) (fun q => hb (by simp [q])) (fun q => hb (by simp [q])) (fun q => hb (by simp [q])) q)) hf (Nat.le_refl _) new
          refine ⟨.ref s.heap.objs.size, _, I1, rfl, ⟨_, _, rfl, I.hok.fresh (Nat.le_refl _), rfl, (.cons (fun l hl => by rw [sq_inj I hl hq1]; exact hx1) (.cons (fun l hl => by rw [sq_inj I hl hq2]; exact hx2) (.cons (fun l hl => by rw [sq_inj I hl hq3]; exact hx3) .nil)))⟩, ⟨z3, (sb.2 _ S.zTI.symm).trans (hk _ _ S.zTI.symm S.TOTI.symm S.I1 S.I2 S.I3 hTI), ⟨u1, u2, u3, (sb.2 _ S.zTO.symm).trans TO2⟩, (n1.1.at fun o q => (sb.2 _ (fun q => S.z1 (by rw [← q]; exact S.m1))).trans q), (n2.1.at fun o q => (sb.2 _ (fun q => S.z2 (by rw [← q]; exact S.m2))).trans q), (n3.1.at fun o q => (sb.2 _ (fun q => S.z3 (by rw [← q]; exact S.m3))).trans q)⟩, fun c hcm => ?_⟩
          have hlt : c < s.heap.objs.size := by
            have e : c = z ∨ c = TI ∨ c = TO ∨ c = i1 ∨ c = i2 ∨ c = i3 := by simpa using hcm
            rcases e with q | q | q | q | q | q
            · rw [q]; exact hzl
            · rw [q]; exact Heap.lt_size hTI
            · rw [q]; exact Heap.lt_size hTO
            · rw [q]; obtain ⟨_, e1, _⟩ := h1.obj; exact Heap.lt_size e1
            · rw [q]; obtain ⟨_, e1, _⟩ := h2.obj; exact Heap.lt_size e1
            · rw [q]; obtain ⟨_, e1, _⟩ := h3.obj; exact Heap.lt_size e1
          rw [upd_ne (Nat.ne_of_lt hlt)]
          exact (hf c hcm).1
  done := by
    intro X hP hw hK hc i pins s σ H E I hf st hg
    subst hP hw hK
    obtain ⟨hz, hTI, ⟨a1, a2, a3, hTO⟩, h1, h2, h3⟩ := st
    obtain ⟨xs1, hq1, hx1⟩ := hg p1 (by simp)
    obtain ⟨its1, rv1, q1, _⟩ := sq_seq I hq1
    have l1 : its1.toArray.size = i := by have := rv1.length; simp; omega
    have D1 := draws_of (prog := X.prog) (w := X.w) (A := X.A.in1) (I.ok.hd hc) i1 p1 ne1 its1
    rw [l1] at D1
    obtain ⟨xs2, hq2, hx2⟩ := hg p2 (by simp)
    obtain ⟨its2, rv2, q2, _⟩ := sq_seq I hq2
    have l2 : its2.toArray.size = i := by have := rv2.length; simp; omega
    have D2 := draws_of (prog := X.prog) (w := X.w) (A := X.A.in1) (I.ok.hd hc) i2 p2 ne2 its2
    rw [l2] at D2
    obtain ⟨xs3, hq3, hx3⟩ := hg p3 (by simp)
    obtain ⟨its3, rv3, q3, _⟩ := sq_seq I hq3
    have l3 : its3.toArray.size = i := by have := rv3.length; simp; omega
    have D3 := draws_of (prog := X.prog) (w := X.w) (A := X.A.in1) (I.ok.hd hc) i3 p3 ne3 its3
    rw [l3] at D3
    exact py_end3 (I.ok.hd hc) S D1 D2 D3 hz hTI hTO ⟨h1, q1⟩ ⟨h2, q2⟩ ⟨h3, q3⟩ fun h2 hk => ⟨rfl, I.turnedL (t' := s.toks) (ch := [z, TI, TO, i1, i2, i3]) (fun c o hb q => hk c o (fun q => hb (by simp [q])) (fun q => hb (by simp [q])) (fun q => hb (by simp [q])) (fun q => hb (by simp [q])) (fun q => hb (by simp [q])) q) hf⟩
  self := fun A i s Q E st h => iter_zip st.1 h
theorem sep_new3 {M : Nat} {p1 p2 p3 : Bool × Addr} (h1 : p1.2 < M) (h2 : p2.2 < M) (h3 : p3.2 < M) : Sep3 (M + 5) (M + 3) (M + 4) M (M + 1) (M + 2) [M, p1.2] [M + 1, p2.2] [M + 2, p3.2] where
  zTO := by show (M + 5 : Nat) ≠ M + 4; omega
  zTI := by show (M + 5 : Nat) ≠ M + 3; omega
  TOTI := by show (M + 4 : Nat) ≠ M + 3; omega
  m1 := by simp
  z1 := nin_new (a := p1.2) 5 0 h1 (by decide)
  T1 := nin_new (a := p1.2) 4 0 h1 (by decide)
  I1 := by show (M + 3 : Nat) ≠ M; omega
  s2_1 := nin_new (a := p1.2) 1 0 h1 (by decide)
  s3_1 := nin_new (a := p1.2) 2 0 h1 (by decide)
  m2 := by simp
  z2 := nin_new (a := p2.2) 5 1 h2 (by decide)
  T2 := nin_new (a := p2.2) 4 1 h2 (by decide)
  I2 := by show (M + 3 : Nat) ≠ M + 1; omega
  s1_2 := nin_new (a := p2.2) 0 1 h2 (by decide)
  s3_2 := nin_new (a := p2.2) 2 1 h2 (by decide)
  m3 := by simp
  z3 := nin_new (a := p3.2) 5 2 h3 (by decide)
  T3 := nin_new (a := p3.2) 4 2 h3 (by decide)
  I3 := by show (M + 3 : Nat) ≠ M + 2; omega
  s1_3 := nin_new (a := p3.2) 0 2 h3 (by decide)
  s2_3 := nin_new (a := p3.2) 1 2 h3 (by decide)
theorem pi_z3s {X : Cx} {e1 e2 e3 : Expr} {ta : TA} {p pos tpos : Pos} {elts : List Expr} {kk : Nat} {jj : Nat} {kp kp2 : Pos} {fl : List Bool} (hfl : fl.length = 3) (hg : Gl X "zip") (hm : X.mg "zip" = none) (ha : PA X [e1, e2, e3] ta)
    (hs : starEach [e1, e2, e3] X.env = (false, eval e1 X.env) :: starEach [e2, e3] X.env := by rfl) (hpl : (backTo pos (starEach [e2, e3] X.env)).any (·.1) = false := by rfl) :
    PI X (.Tuple elts kk tpos) (.Call (.Name "zip" p) [e1, e2, e3] [⟨some "strict", .Constant (.bool true) jj kp, kp2⟩] pos) (iZ X.K fl ta) := by
  refine ⟨fun pins s σ H R I h => ?_⟩
  refine wpAny_Call_Name_kw (ld_blt I hg hm PyProof.Rows.boot_zip ?_)
  refine PySem.W.callWith_of (P := fun _ => True) ?_ (fun h _ => looks_ty "zip" True.intro) ?_
  · show ((backTo pos (starEach _ X.env)).any (·.1) || false) = false
    rw [hs, Bool.or_false]
    exact hpl
  have he : backTo pos (starEach [e1, e2, e3] X.env) = (false, eval e1 X.env) :: backTo pos (starEach [e2, e3] X.env) := by rw [hs]; rfl
  rw [he]
  refine PyProof.Rows.evalArgs_kwB rfl ?_
  rw [← he]
  refine thn (ha.run pos pins s σ H _ I h) fun us s0 ⟨vs, H1, I0, r1, q1⟩ => ?_
  refine PyProof.Rows.kws_cons (Constant_bool (PyProof.Rows.kws_nil ⟨True.intro, ?_⟩))
  have I1 := I0
  obtain ⟨l, ev, el, hl, q1⟩ := q1
  subst ev
  obtain ⟨b1, b2, b3, rfl⟩ : ∃ b1 b2 b3 : Bool, fl = [b1, b2, b3] := match fl, hfl with | [_, _, _], _ => ⟨_, _, _, rfl⟩
  obtain ⟨c1, c2, c3, rfl⟩ : ∃ c1 c2 c3 : Addr, l = [c1, c2, c3] := match l, el with | [_, _, _], _ => ⟨_, _, _, rfl⟩
  cases r1 with
  | cons r_1 rr1 =>
    cases r_1
    cases rr1 with
    | cons r_2 rr2 =>
      cases r_2
      cases rr2 with
      | cons r_3 rr3 =>
        cases r_3
        cases rr3
        obtain ⟨xs1, hq1⟩ := hl (b1, c1) (by simp)
        obtain ⟨its1, rv1, g1, lt1⟩ := sq_seq I1 hq1
        obtain ⟨xs2, hq2⟩ := hl (b2, c2) (by simp)
        obtain ⟨its2, rv2, g2, lt2⟩ := sq_seq I1 hq2
        obtain ⟨xs3, hq3⟩ := hl (b3, c3) (by simp)
        obtain ⟨its3, rv3, g3, lt3⟩ := sq_seq I1 hq3
        have frs : ∀ c, c ∈ [s0.heap.objs.size + 5, s0.heap.objs.size + 3, s0.heap.objs.size + 4, s0.heap.objs.size, s0.heap.objs.size + 1, s0.heap.objs.size + 2] → FpOk X pins H1 c := fun c hcm => by
          have e : c = s0.heap.objs.size + 5 ∨ c = s0.heap.objs.size + 3 ∨ c = s0.heap.objs.size + 4 ∨ c = s0.heap.objs.size ∨ c = s0.heap.objs.size + 1 ∨ c = s0.heap.objs.size + 2 := by simpa using hcm
          have hle : s0.heap.objs.size ≤ c := by
            rcases e with q | q | q | q | q | q
            · rw [q]; exact Nat.le_add_right _ _
            · rw [q]; exact Nat.le_add_right _ _
            · rw [q]; exact Nat.le_add_right _ _
            · rw [q]; exact Nat.le_refl _
            · rw [q]; exact Nat.le_add_right _ _
            · rw [q]; exact Nat.le_add_right _ _
          exact I1.fpOk hle (I1.hok.fresh hle)
        refine begins_strict3 (begins_of (b1, c1) its1) (begins_of (b2, c2) its2) (begins_of (b3, c3) its3) g1 g2 g3 fun hA hz hTI hTO y1 y2 y3 kk => iter_zip hz ?_
        have I2 : Inv X pins σ H1 { s0 with heap := hA } := I1.kept (t' := s0.toks) kk
        exact ⟨_, [s0.heap.objs.size + 5, s0.heap.objs.size + 3, s0.heap.objs.size + 4, s0.heap.objs.size, s0.heap.objs.size + 1, s0.heap.objs.size + 2], _, _, H1, rfl, I2, turn_z3 (sep_new3 lt1 lt2 lt3) (Nat.ne_of_lt lt1) (Nat.ne_of_lt (Nat.lt_of_lt_of_le lt2 (Nat.le_add_right _ 1))) (Nat.ne_of_lt (Nat.lt_of_lt_of_le lt3 (Nat.le_add_right _ 2))), ⟨hz, hTI, ⟨_, _, _, hTO⟩, SqIt.begin y1, SqIt.begin y2, SqIt.begin y3⟩, frs, q1⟩
theorem pi_z3 {X : Cx} {e1 e2 e3 : Expr} {ta : TA} {p pos tpos : Pos} {elts : List Expr} {kk : Nat} {fl : List Bool} (hfl : fl.length = 3) (hg : Gl X "zip") (hm : X.mg "zip" = none) (ha : PA X [e1, e2, e3] ta)
    (hs : starEach [e1, e2, e3] X.env = (false, eval e1 X.env) :: starEach [e2, e3] X.env := by rfl) (hpl : (backTo pos (starEach [e2, e3] X.env)).any (·.1) = false := by rfl) :
    PI X (.Tuple elts kk tpos) (.Call (.Name "zip" p) [e1, e2, e3] [] pos) (iZ X.K fl ta) := by
  refine ⟨fun pins s σ H R I h => ?_⟩
  refine Call_ (ld_blt I hg hm PyProof.Rows.boot_zip (PyProof.Rows.callWith_type1 (thn (ha.run pos pins s σ H _ I h) fun us s0 ⟨vs, H1, I1, r1, q1⟩ => ?_) hs hpl))
  obtain ⟨l, ev, el, hl, q1⟩ := q1
  subst ev
  obtain ⟨b1, b2, b3, rfl⟩ : ∃ b1 b2 b3 : Bool, fl = [b1, b2, b3] := match fl, hfl with | [_, _, _], _ => ⟨_, _, _, rfl⟩
  obtain ⟨c1, c2, c3, rfl⟩ : ∃ c1 c2 c3 : Addr, l = [c1, c2, c3] := match l, el with | [_, _, _], _ => ⟨_, _, _, rfl⟩
  cases r1 with
  | cons r_1 rr1 =>
    cases r_1
    cases rr1 with
    | cons r_2 rr2 =>
      cases r_2
      cases rr2 with
      | cons r_3 rr3 =>
        cases r_3
        cases rr3
        obtain ⟨xs1, hq1⟩ := hl (b1, c1) (by simp)
        obtain ⟨its1, rv1, g1, lt1⟩ := sq_seq I1 hq1
        obtain ⟨xs2, hq2⟩ := hl (b2, c2) (by simp)
        obtain ⟨its2, rv2, g2, lt2⟩ := sq_seq I1 hq2
        obtain ⟨xs3, hq3⟩ := hl (b3, c3) (by simp)
        obtain ⟨its3, rv3, g3, lt3⟩ := sq_seq I1 hq3
        have frs : ∀ c, c ∈ [s0.heap.objs.size + 5, s0.heap.objs.size + 3, s0.heap.objs.size + 4, s0.heap.objs.size, s0.heap.objs.size + 1, s0.heap.objs.size + 2] → FpOk X pins H1 c := fun c hcm => by
          have e : c = s0.heap.objs.size + 5 ∨ c = s0.heap.objs.size + 3 ∨ c = s0.heap.objs.size + 4 ∨ c = s0.heap.objs.size ∨ c = s0.heap.objs.size + 1 ∨ c = s0.heap.objs.size + 2 := by simpa using hcm
          have hle : s0.heap.objs.size ≤ c := by
            rcases e with q | q | q | q | q | q
            · rw [q]; exact Nat.le_add_right _ _
            · rw [q]; exact Nat.le_add_right _ _
            · rw [q]; exact Nat.le_add_right _ _
            · rw [q]; exact Nat.le_refl _
            · rw [q]; exact Nat.le_add_right _ _
            · rw [q]; exact Nat.le_add_right _ _
          exact I1.fpOk hle (I1.hok.fresh hle)
        refine zip_begins3 (begins_of (b1, c1) its1) (begins_of (b2, c2) its2) (begins_of (b3, c3) its3) g1 g2 g3 fun hA hz hTI hTO y1 y2 y3 _ kk => iter_zip (b := false) hz ?_
        have I2 : Inv X pins σ H1 { s0 with heap := hA } := I1.kept (t' := s0.toks) kk
        exact ⟨_, [s0.heap.objs.size + 5, s0.heap.objs.size + 3, s0.heap.objs.size + 4, s0.heap.objs.size, s0.heap.objs.size + 1, s0.heap.objs.size + 2], _, _, H1, rfl, I2, turn_z3 (sep_new3 lt1 lt2 lt3) (Nat.ne_of_lt lt1) (Nat.ne_of_lt (Nat.lt_of_lt_of_le lt2 (Nat.le_add_right _ 1))) (Nat.ne_of_lt (Nat.lt_of_lt_of_le lt3 (Nat.le_add_right _ 2))), ⟨hz, hTI, ⟨_, _, _, hTO⟩, SqIt.begin y1, SqIt.begin y2, SqIt.begin y3⟩, frs, q1⟩
end CZ

namespace CS
open PySem PySem.Spec PyProof.Rows L2
/-! ### rules beside the layer's -/
section
variable {X : Cx}
/-- a product, whatever the reason that it fits -/
theorem op_mulI : OpR X (binaryOp .Mult) (rI IntMulOk fun i j => .int (i * j)) := opI fun _ _ _ _ _ _ _ hc q => mul_int q hc
/-- list + list, however each is known -/
def rCatR (K : PySem.W.Frag) : R2 := fun x y H Q => ∃ l b xs zs, x = .ref l ∧ y = .ref b ∧ SqL K H l xs ∧ SqL K H b zs ∧ xs.length + zs.length ≤ sizeLine ∧ ∀ p, H p = none → Q (.ref p) (upd H p (.lst (xs ++ zs)))
theorem op_catR : OpR X (binaryOp .Add) (rCatR X.K) := by
  intro pins s σ H x y v u Q I rx ry h
  obtain ⟨l, b, xs, zs, rfl, rfl, hH, hB, hz, q⟩ := h
  cases rx
  cases ry
  obtain ⟨its, r, p1, _⟩ := I.list hH
  obtain ⟨its2, r2, p2, _⟩ := I.list hB
  obtain ⟨⟨cls, dd, data, sl⟩, ho, hc, n, hd⟩ := id p1.isList
  obtain ⟨⟨cls2, dd2, data2, sl2⟩, ho2, hc2, n2, hd2⟩ := id p2.isList
  simp only at hc hd hc2 hd2
  subst hc hd hc2 hd2
  have l1 := r.length
  have l2 := r2.length
  have ea : its.toArray ++ its2.toArray = (its ++ its2).toArray := by simp
  refine concat_meets ⟨_, ho, rfl⟩ ⟨_, ho2, rfl⟩ noFill_list_add seq_list_add PySem.F.slot_list_add PySem.F.entry_list_add (PySem.F.args_list_add_2 _ _) (list_addW l b its.toArray its2.toArray n n2 dd dd2 sl sl2 (by rw [List.size_toArray, List.size_toArray]; omega)) ⟨ho, ho2, ?_⟩
  rw [ea]
  exact ⟨.ref _, _, I.lnew (t' := s.toks) (r.append r2) (by rw [List.length_append]; omega), rfl, q _ I.fresh⟩
theorem pi_or {tg it : Expr} {w1 w2 : TI} (h1 : PI X tg it w1) (h2 : PI X tg it w2) : PI X tg it (fun σ H R => w1 σ H R ∨ w2 σ H R) :=
  ⟨fun pins s σ H R I h => h.elim (fun z => h1.run pins s σ H R I z) fun z => h2.run pins s σ H R I z⟩
end
/-! ### calls by keywords alone -/
def pick {α : Type} (js : List Nat) (l : List α) : List α := js.filterMap fun j => l[j]?
theorem vals_pick {xs : List V} {us : List Value} (r : Vals xs us) : ∀ js : List Nat, Vals (pick js xs) (pick js us)
  | [] => .nil
  | j :: js => by
    have ih := vals_pick r js
    unfold pick at ih ⊢
    cases e : xs[j]? with
    | none =>
      have e2 := r.none_of e
      rw [List.filterMap_cons_none (by rw [e]), List.filterMap_cons_none (by rw [e2])]
      exact ih
    | some x =>
      obtain ⟨u, e2, ru⟩ := r.get e
      rw [List.filterMap_cons_some (by rw [e]), List.filterMap_cons_some (by rw [e2])]
      exact .cons ru ih
theorem kbn_of {K : PySem.W.Frag} {x qual : Str} {st : Stmt} {f : Addr} {fd : FuncData} {ps : List Str} (F : Fun K x qual st f fd) (n : Nat) (ks : List Str) (js : List Nat)
    (h : ∀ (kV doc pm : Value) (an : Option Addr) (cdv ct : Value) (us ws : List Value), us.length = n → ws.length = ks.length → bindArgs (PySem.W.fnOf x qual (defArgs st) (defBody st) (defScope st) .none kV doc pm an cdv ct) ⟨us, ks.zip ws⟩ = pure (ps.zip (pick js (us ++ ws)))) :
    KBn K fd ps n ks (fun us ws => pick js (us ++ ws)) (fun vs zs => pick js (vs ++ zs)) := by
  obtain ⟨oc, od, kV, doc, pm, an, cdv, ct, osl, rfl, lk, hcd⟩ := F.ex
  exact ⟨fun s us ws _ h1 h2 => .of_eq (h kV doc pm an cdv ct us ws h1 h2), fun r1 r2 => vals_pick (r1.append r2) js⟩
section
variable {X : Cx} {CX : CXT} {k n : Nat} {f C : Addr} {fd : FuncData} {ps ks : List Str} {sp : Sp} {E : XK} {x m : Str} {p pos apos : Pos} {o : Expr} {kws : List Keyword} {ta : TE} {tk : TA} {g : List Value → List Value → List Value} {gV : List V → List V → List V}
theorem run_kw {pins : List (Addr × Obj)} {σ : L2.St} {H : Hp} {s : Shared} {Q : VK} {us ws : List Value} {vs zs : List V} (F : FnOk X.prog X.w X.K X.mg X.base CX k f fd ps sp) (hr : Room k X.A) (hb : KBn X.K fd ps n ks g gV) (hx : Passes CX X E)
    (I : Inv X pins σ H s) (r : Vals vs us) (rz : Vals zs ws) (l1 : vs.length = n) (l2 : zs.length = ks.length) (h : sp (gV vs zs) H Q E) : wpAny (model X.prog X.w) X.A (call (.ref f) us (ks.zip ws)) (EP X pins σ Q) X.xe s := by
  refine wpAny_call (codeAny_mono (F.run X.A X.stack s H ⟨us, ks.zip ws⟩ (g us ws) (gV vs zs) Q E hr I.env0 (hb.to s us ws I.kIn (r.length.symm.trans l1) (rz.length.symm.trans l2)) (hb.rel r rz) h) fun res s2 hq => ?_)
  cases res with
  | error e => exact hx pins σ H s e s2 I hq
  | ok fl =>
    cases fl with
    | ret u => exact I.after hq
    | next => exact False.elim hq
    | brk => exact False.elim hq
    | cont => exact False.elim hq
/-- f(k = v, ..) -/
def tCallKw (m : Nat) (sp : Sp) (gV : List V → List V → List V) (E : XK) (tk : TA) : TE := fun σ H Q => tk σ H fun zs H1 => zs.length = m ∧ sp (gV [] zs) H1 Q E
theorem pe_callKw (F : FnOk X.prog X.w X.K X.mg X.base CX k f fd ps sp) (hr : Room k X.A) (hg : Gl X x) (hm : X.mg x = some (.ref f)) (hk : PySem.W.keepIn X.K (.ref f) = true) (hb : KBn X.K fd ps 0 ks g gV) (hx : Passes CX X E) (hkw : PK X kws tk)
    (hall : (backToKw pos (keywordEach kws X.env)).all (·.1.isSome) = true := by rfl) (hks : (backToKw pos (keywordEach kws X.env)).filterMap (·.1) = ks := by rfl) (hdb : (x == ("__debug__" : Str)) = false := by decide)
    (hpl : ((backTo pos (starEach [] X.env)).any (·.1) || (backToKw pos (keywordEach kws X.env)).any (·.1.isNone)) = false := by rfl) :
    PE X (.Call (.Name x p) [] kws pos) (tCallKw ks.length sp gV E tk) := by
  refine ⟨fun pins s σ H Q I h => ?_⟩
  refine wpAny_Call_Name_kw (ld_glob I hg hm ?_ hdb)
  refine PySem.W.callWith_KW0 (h₀ := X.base) I.ok.mod.kin hk hall (thn (hkw.run pos pins s σ H _ I h) fun ws s2 ⟨zs, H2, I2, rz, l2, q2⟩ => ⟨I2.kIn, ?_⟩) hpl
  rw [hks]
  exact run_kw (us := []) (vs := []) F hr hb hx I2 .nil rz rfl l2 q2
/-- o.m(k = v, ..) -/
def tMethKw (C : Addr) (m : Str) (n : Nat) (sp : Sp) (gV : List V → List V → List V) (E : XK) (ta : TE) (tk : TA) : TE := fun σ H Q => ta σ H fun x H1 => ∃ a dx fs, x = .ref a ∧ H1 a = some (.ins C dx fs) ∧ fs.lookup m = none ∧
  tk σ H1 fun zs H2 => zs.length = n ∧ sp (gV [x] zs) H2 Q E
theorem pe_methKw {pl : Sem Bool} (he : PE X o ta) (c : Cls X.K C) (hm : Meth X.K C m f) (F : FnOk X.prog X.w X.K X.mg X.base CX k f fd ps sp) (hr : Room k X.A) (hb : KBn X.K fd ps 1 ks g gV) (hx : Passes CX X E) (hkw : PK X kws tk)
    (hall : (backToKw pos (keywordEach kws X.env)).all (·.1.isSome) = true := by rfl) (hks : (backToKw pos (keywordEach kws X.env)).filterMap (·.1) = ks := by rfl)
    (hpl : ((backTo pos (starEach [] X.env)).any (·.1) || (backToKw pos (keywordEach kws X.env)).any (·.1.isNone)) = false := by rfl)
    (ht : eval (.Call (.Attribute o m apos) [] kws pos) X.env = (do
      let ov ← eval o X.env
      standAt apos.atName
      let (f, first) ← holding [ov] (getMethod ov m pl)
      callWith pos f first (backTo pos (starEach [] X.env)) (backToKw pos (keywordEach kws X.env))) := by rfl) :
    PE X (.Call (.Attribute o m apos) [] kws pos) (tMethKw C m ks.length sp gV E ta tk) := by
  refine ⟨fun pins s σ H Q I h => ?_⟩
  refine PySem.W.methodCall_KW (pl := pl) (thn (he.run pins s σ H _ I h) fun u s1 ⟨x, H1, I1, rx, a, dx, fs, ex, ea, l, q⟩ => ?_) ht
  subst ex
  obtain rfl : u = Value.ref a := rx
  refine getmeth_ok I1 ea c hm l ?_
  refine PySem.W.callWith_KW0 (first := [.ref a]) (h₀ := X.base) I.ok.mod.kin hm.kp hall (thn (hkw.run pos pins s1 σ H1 _ I1 q) fun ws s2 ⟨zs, H2, I2, rz, l2, q2⟩ => ⟨I2.kIn, ?_⟩) hpl
  rw [hks]
  exact run_kw (us := [.ref a]) (vs := [.ref a]) F hr hb hx I2 (.cons rfl .nil) rz rfl l2 q2
end
/-! ### heaps that grow -/
abbrev Ex (H H2 : Hp) : Prop := Evl.Ex H H2
theorem exr {H : Hp} : Ex H H := fun _ _ h => h
theorem exn {H : Hp} {p : Addr} {o : HO} (h : H p = none) : Ex H (upd H p o) := Evl.Ex.new h
theorem SqK.mono {K : PySem.W.Frag} {H H2 : Hp} {p : Bool × Addr} {xs : List V} (e : Ex H H2) (h : CZ.SqK K H p xs) : CZ.SqK K H2 p xs := by
  obtain ⟨b, a⟩ := p
  cases b
  · exact Evl.ex_l e h
  · exact Evl.ex_t e h
/-- a comprehension whose element and tests leave all that stood: out i is what stands behind i turns -/
theorem lc_out {J : It} {n : Nat} {G : Hp → Prop} {Y : Nat → Hp → V → Hp → Prop} (w : Walk J n G Y) {g : TG} {tt : TT} {te : TE} {vs : List Nat} {σ : L2.St} {H1 : Hp} {D : Addr} {Qd : Hp → Prop} (out : Nat → List V) (h0 : out 0 = []) (hD : H1 D = none)
    (hlen : ∀ i, i < n → (out i).length < sizeLine) (hG : ∀ H, Ex H1 H → G H)
    (hs : ∀ i x H H2 (Nx : Hp → Prop), i < n → Ex H1 H → H D = some (.lst (out i)) → Y i H x H2 →
      (∀ y H5, Ex H H5 → out (i + 1) = out i ++ [y] → ∃ acc, H5 D = some (.lst acc) ∧ acc.length < sizeLine ∧ Nx (upd H5 D (.lst (acc ++ [y])))) → (∀ H4, Ex H H4 → out (i + 1) = out i → Nx H4) →
      g x (wipe σ vs) H2 fun σ2 H3 => wipe σ2 vs = wipe σ vs ∧ tt σ2 H3 fun b H4 => if b = true then te σ2 H4 fun y H5 => ∃ acc, H5 D = some (.lst acc) ∧ acc.length < sizeLine ∧ Nx (upd H5 D (.lst (acc ++ [y]))) else Nx H4)
    (hd : ∀ H, Ex H1 H → H D = some (.lst (out n)) → Qd H) :
    ∃ W : Nat → Nat → Hp → Prop, (∃ m, W 0 m (upd H1 D (.lst []))) ∧ ∀ i m H, W i m H →
      (J.stop i H ∧ Qd H) ∨ (J.go i H ∧ ∃ Nx : Hp → Prop, (∀ H2, Nx H2 → ∃ m2, m2 < m ∧ W (i + 1) m2 H2) ∧ ∀ x H2, J.yld i H x H2 → g x (wipe σ vs) H2 fun σ2 H3 => wipe σ2 vs = wipe σ vs ∧ tt σ2 H3 fun b H4 =>
        if b = true then te σ2 H4 fun y H5 => ∃ acc, H5 D = some (.lst acc) ∧ acc.length < sizeLine ∧ Nx (upd H5 D (.lst (acc ++ [y]))) else Nx H4) := by
  refine lc_it w (fun i H => Ex H1 H ∧ H D = some (.lst (out i))) ⟨exn hD, by rw [upd_same, h0]⟩ (fun i H _ p => hG H p.1) (fun i x H H2 hi p y => ?_) (fun H p => hd H p.1 p.2)
  refine hs i x H H2 _ hi p.1 p.2 y (fun y2 H5 e eo => ⟨out i, e D _ p.2, hlen i hi, fun b o q => ?_, by rw [upd_same, eo]⟩) (fun H4 e eo => ⟨fun b o q => e b o (p.1 b o q), by rw [eo]; exact e D _ p.2⟩)
  rw [upd_ne (ne_of_none q hD)]
  exact e b o (p.1 b o q)
/-- .. whose list is known: vals -/
theorem lc_vals {J : It} {n : Nat} {G : Hp → Prop} {Y : Nat → Hp → V → Hp → Prop} (w : Walk J n G Y) {g : TG} {te : TE} {vs : List Nat} {σ : L2.St} {H1 : Hp} {D : Addr} {Qd : Hp → Prop} (vals : List V) (hn : vals.length = n) (hl : n ≤ 10000000) (hD : H1 D = none)
    (hG : ∀ H, Ex H1 H → G H)
    (hs : ∀ i x H H2 (R : VK), i < n → Ex H1 H → Y i H x H2 → (∀ y H5, Ex H H5 → vals[i]? = some y → R y H5) → g x (wipe σ vs) H2 fun σ2 H3 => wipe σ2 vs = wipe σ vs ∧ te σ2 H3 R)
    (hg : ∀ x σ2 H2 (R R2 : L2.St → Hp → Prop), (∀ σ3 H3, R σ3 H3 → R2 σ3 H3) → g x σ2 H2 R → g x σ2 H2 R2)
    (hd : ∀ H, Ex H1 H → H D = some (.lst vals) → Qd H) :
    ∃ W : Nat → Nat → Hp → Prop, (∃ m, W 0 m (upd H1 D (.lst []))) ∧ ∀ i m H, W i m H →
      (J.stop i H ∧ Qd H) ∨ (J.go i H ∧ ∃ Nx : Hp → Prop, (∀ H2, Nx H2 → ∃ m2, m2 < m ∧ W (i + 1) m2 H2) ∧ ∀ x H2, J.yld i H x H2 → g x (wipe σ vs) H2 fun σ2 H3 => wipe σ2 vs = wipe σ vs ∧ tYes σ2 H3 fun b H4 =>
        if b = true then te σ2 H4 fun y H5 => ∃ acc, H5 D = some (.lst acc) ∧ acc.length < sizeLine ∧ Nx (upd H5 D (.lst (acc ++ [y]))) else Nx H4) := by
  refine lc_out w (fun i => vals.take i) rfl hD (fun i hi => ?_) hG (fun i x H H2 Nx hi e hDi y kA _ => ?_) (fun H e h => hd H e ?_)
  · rw [List.length_take]
    exact Nat.lt_of_le_of_lt (Nat.le_trans (Nat.min_le_right _ _) (by rw [hn]; exact hl)) (by decide)
  · refine hg _ _ _ _ _ (fun σ3 H3 q => ⟨q.1, ?_⟩) (hs i x H H2 (fun y H5 => ∃ acc, H5 D = some (.lst acc) ∧ acc.length < sizeLine ∧ Nx (upd H5 D (.lst (acc ++ [y])))) hi e y fun y2 H5 e5 ev => kA y2 H5 e5 ?_)
    · exact q.2
    · rw [List.take_add_one, ev]
      rfl
  · rw [h, List.take_of_length_le (by rw [hn]; exact Nat.le_refl _)]
theorem gmono_name {i : Nat} : ∀ x σ2 H2 (R R2 : L2.St → Hp → Prop), (∀ σ3 H3, R σ3 H3 → R2 σ3 H3) → gName i x σ2 H2 R → gName i x σ2 H2 R2 := fun _ _ _ _ _ h q => h _ _ q
theorem gmono_nil : ∀ vs σ2 H2 (R R2 : L2.St → Hp → Prop), (∀ σ3 H3, R σ3 H3 → R2 σ3 H3) → gNil vs σ2 H2 R → gNil vs σ2 H2 R2 := fun _ _ _ _ _ h q => ⟨q.1, h _ _ q.2⟩
theorem gmono_cons {t : TG} {u : TGs} (ht : ∀ x σ2 H2 (R R2 : L2.St → Hp → Prop), (∀ σ3 H3, R σ3 H3 → R2 σ3 H3) → t x σ2 H2 R → t x σ2 H2 R2) (hu : ∀ x σ2 H2 (R R2 : L2.St → Hp → Prop), (∀ σ3 H3, R σ3 H3 → R2 σ3 H3) → u x σ2 H2 R → u x σ2 H2 R2) :
    ∀ vs σ2 H2 (R R2 : L2.St → Hp → Prop), (∀ σ3 H3, R σ3 H3 → R2 σ3 H3) → gCons t u vs σ2 H2 R → gCons t u vs σ2 H2 R2 := fun vs σ2 H2 R R2 h q => by
  obtain ⟨v, r, e, q⟩ := q
  exact ⟨v, r, e, ht _ _ _ _ _ (fun σ3 H3 z => hu _ _ _ _ _ h z) q⟩
theorem gmono_tup {K : PySem.W.Frag} {n : Nat} {t : TGs} (ht : ∀ x σ2 H2 (R R2 : L2.St → Hp → Prop), (∀ σ3 H3, R σ3 H3 → R2 σ3 H3) → t x σ2 H2 R → t x σ2 H2 R2) :
    ∀ v σ2 H2 (R R2 : L2.St → Hp → Prop), (∀ σ3 H3, R σ3 H3 → R2 σ3 H3) → gTup K n t v σ2 H2 R → gTup K n t v σ2 H2 R2 := fun v σ2 H2 R R2 h q => by
  obtain ⟨a, xs, e, h1, h2, q⟩ := q
  exact ⟨a, xs, e, h1, h2, ht _ _ _ _ _ h q⟩
/-! ### a list or a tuple walked -/
def ItS (K : PySem.W.Frag) (p : Bool × Addr) : It := if p.1 = true then Itt K p.2 else Itl K p.2
def iSeq (K : PySem.W.Frag) (tl : TE) : TI := fun σ H R => tl σ H fun x H1 => ∃ p : Bool × Addr, x = .ref p.2 ∧ (∃ xs, CZ.SqK K H1 p xs) ∧ R (ItS K p) H1
theorem pi_seq {X : Cx} {tg l : Expr} {tl : TE} (hl : PE X l tl) : PI X tg l (iSeq X.K tl) := by
  refine ⟨fun pins s σ H R I h => ?_⟩
  refine thn (hl.run pins s σ H _ I h) fun v s1 ⟨x, H1, I1, r1, q1⟩ => ?_
  obtain ⟨⟨b, a⟩, ex, ⟨xs, hq⟩, q⟩ := q1
  subst ex
  cases r1
  obtain ⟨its, rv, g, lt⟩ := CZ.sq_seq I1 hq
  have fp : ∀ c ∈ [s1.heap.objs.size], FpOk X pins H1 c := fun c hc => by
    have e : c = s1.heap.objs.size := by simpa using hc
    rw [e]
    exact I1.fpOk (Nat.le_refl _) (I1.hok.fresh (Nat.le_refl _))
  refine (CZ.begins_of (b, a) its).iter _ _ _ _ s1 _ g ?_
  have I2 : Inv X pins σ H1 { s1 with heap := s1.heap.push (CZ.itO (b, a)) } := I1.kept (t' := s1.toks) fun c o e => Heap.get?_push_of_some _ e
  cases b
  · exact ⟨_, [s1.heap.objs.size], _, _, H1, rfl, I2, turn_list a _, ⟨_, Heap.get?_push_size _ rfl, rfl, rfl⟩, fp, q⟩
  · exact ⟨_, [s1.heap.objs.size], _, _, H1, rfl, I2, turn_tuple a _, ⟨_, Heap.get?_push_size _ rfl, rfl, rfl⟩, fp, q⟩
theorem walk_seq {K : PySem.W.Frag} {p : Bool × Addr} {xs : List V} : Walk (ItS K p) xs.length (fun H => CZ.SqK K H p xs) (YAt xs) := by
  obtain ⟨b, a⟩ := p
  cases b
  · exact walk_list
  · exact walk_tup
theorem itt {c : Bool} {A B : Prop} (h : c = true) (a : A) : if c = true then A else B := by rw [if_pos h]; exact a
theorem itf {c : Bool} {A B : Prop} (h : c = false) (b : B) : if c = true then A else B := by rw [h, if_neg Bool.false_ne_true]; exact b
theorem map_get {α : Type} {f : α → V} {l : List α} {i : Nat} {x : V} (h : (l.map f)[i]? = some x) : ∃ n, l[i]? = some n ∧ x = f n := by
  rw [List.getElem?_map] at h
  cases e : l[i]? with
  | none => rw [e] at h; cases h
  | some n => rw [e] at h; exact ⟨n, rfl, (Option.some.inj h).symm⟩
end CS

namespace CE
open PySem PySem.Spec PyProof.Rows L2 CZ
/-! ### enumerate over a list or a tuple -/
theorem enumO_new {v : Value} {oo : Obj} {Hq : Heap → Prop} (bg : Begins v oo Hq) :
    Meets (Builtin.«enumerate.__new__» ⟨[.type "enumerate", v], []⟩) (fun _ R t => Hq t.heap ∧
      R (.ok (.ret (.ref (t.heap.push oo).objs.size))) { t with heap := (t.heap.push oo).push { cls := .type "enumerate", data := .fields #[.none, .bool false, .ref t.heap.objs.size, rawInt 0, .none, .none] } }) :=
  .of_wp fun pg wo Ar R t hyp => by
    obtain ⟨hh, gg, dd, tt, oq⟩ := t
    obtain ⟨start, goal⟩ := hyp
    have es := PySem.sub_enumerate
    have go1 : ∀ {A2 : Around} {E2 : Value → Shared → Prop} {Q2 : Value → Shared → Prop}, Q2 (.ref hh.objs.size) ⟨hh.push oo, gg, dd, tt, oq⟩ → wpAny (model pg wo) A2 (pyIter v) Q2 E2 ⟨hh, gg, dd, tt, oq⟩ :=
      fun z => bg.iter pg wo _ _ ⟨hh, gg, dd, tt, oq⟩ _ start z
    wp_walk using go1
    refine wpAny_stack_any fun stk => wpAny_pure ?_
    split
    · rename_i cc _ _ _ _ _
      cases (cc == Value.type "enumerate")
      all_goals
        wp_walk using go1
        exact ⟨_, rfl, goal⟩
    · wp_walk using go1
      exact ⟨_, rfl, goal⟩
theorem enum_of {pg : Program} {wo : World} {Ar : Around} {Ex1 : Value → Shared → Prop} {t : Shared} {v : Value} {oo : Obj} {Hq : Heap → Prop} {Qe : Value → Shared → Prop} (bg : Begins v oo Hq) (start : Hq t.heap)
    (goal : ∀ hN, IsEnum hN (t.heap.objs.size + 1) t.heap.objs.size 0 .none → hN.get? t.heap.objs.size = some oo → (∀ c ob, t.heap.get? c = some ob → hN.get? c = some ob) → Qe (.ref (t.heap.objs.size + 1)) { t with heap := hN }) :
    wpAny (model pg wo) Ar (call (.type "enumerate") [v]) Qe Ex1 t := by
  refine callType_new F.called_enumerate (by decide) (F.typeCall_enumerate_1 _) (F.newCall_enumerate_1 _) (fun ob => F.args_object_init_2 ob _) F.entry_enumerate_new (enumO_new bg) ⟨start, ?_⟩
  have size1 : (t.heap.push oo).objs.size = t.heap.objs.size + 1 := Heap.size_push ..
  have isE : IsEnum ((t.heap.push oo).push { cls := .type "enumerate", data := .fields #[.none, .bool false, .ref t.heap.objs.size, rawInt 0, .none, .none] }) (t.heap.objs.size + 1) t.heap.objs.size 0 .none := by
    have at1 := Heap.get?_push_size (t.heap.push oo) (o := { cls := .type "enumerate", data := .fields #[.none, .bool false, .ref t.heap.objs.size, rawInt 0, .none, .none] }) rfl
    rw [size1] at at1
    exact at1
  show _ ∧ _
  rw [size1]
  exact ⟨⟨_, isE, rfl⟩, goal _ isE (Heap.get?_push_of_some _ (Heap.get?_push_size _ bg.free)) fun c ob z => Heap.get?_push_of_some _ (Heap.get?_push_of_some _ z)⟩
/-- what stands at p, each item in a new pair -/
def ItE (K : PySem.W.Frag) (p : Bool × Addr) : It :=
  ⟨fun i H => ∃ (xs : List V) (x : V), SqK K H p xs ∧ xs[i]? = some x, fun i H v H2 => ∃ T x, v = .ref T ∧ H T = none ∧ H2 = upd H T (.tup [.int (i : Nat), x]) ∧ ∀ xs, SqK K H p xs → xs[i]? = some x, fun i H => ∃ xs : List V, SqK K H p xs ∧ xs.length = i⟩
theorem turn_e {P : Program} {w : World} {K : PySem.W.Frag} {elts : List Expr} {kk : Nat} {tpos : Pos} {en it : Addr} {p : Bool × Addr} (n1 : p.2 ≠ it) (n2 : en ≠ it) (n3 : en ≠ p.2) :
    Turn P w K (.Tuple elts kk tpos) (ItE K p) [en, it] en (fun i h => (∃ old, IsEnum h en it ((i : Nat) : Int) old) ∧ SqIt h it p i) where
  mem := by simp
  obj := fun i h st c hc => by
    obtain ⟨⟨old, ie⟩, si⟩ := st
    have e : c = en ∨ c = it := by simpa using hc
    rcases e with q | q
    · rw [q]; exact ⟨_, ie, fun v q => nomatch q⟩
    · rw [q]; exact si.obj
  keep := fun i h h2 st k => by
    obtain ⟨⟨old, ie⟩, si⟩ := st
    exact ⟨⟨old, k en (by simp) _ ie⟩, si.at fun o q => k it (by simp) o q⟩
  item := by
    intro X hP hw hK hc i pins s σ H E I hf st hg
    subst hP hw hK
    obtain ⟨⟨old, ie⟩, si⟩ := st
    obtain ⟨xs, x, hq, hx⟩ := hg
    obtain ⟨its, rv, sq, _⟩ := sq_seq I hq
    obtain ⟨u, hu, ru⟩ := rv.get hx
    have gu : its.toArray[i]? = some u := by simpa using hu
    have lu : i < its.toArray.size := by
      have := (List.getElem?_eq_some_iff.mp hu).1
      simpa using this
    have enl : en < s.heap.objs.size := Heap.lt_size ie
    have itl : it < s.heap.objs.size := by
      obtain ⟨_, q, _⟩ := si.obj
      exact Heap.lt_size q
    refine PySem.wpAny_pyNext_enum_itemD (draws_of (A := X.A.in1) (I.ok.hd hc) it p n1 its) ie ⟨si, sq⟩ lu n2 (by simp [n2, n3]) fun x1 hA tk hx1 out ⟨si2, _⟩ hT hsz hk => ?_
    obtain rfl : u = x1 := Option.some.inj (gu.symm.trans hx1)
    refine ⟨_, rfl, wpAny_letOwnedTupleGo_enum (s := { s with heap := hA, toks := tk + 1 }) out fun hB isB sb => ?_⟩
    replace sb : Heap.SameBut en hA hB := sb
    have hT2 : hB.get? s.heap.objs.size = some { cls := .type "tuple", data := .seq #[.int i tk, u] } := (sb.2 _ (Nat.ne_of_gt enl)).trans hT
    have made : ObjOk X.prog X.w (upd H s.heap.objs.size (.tup [.int (i : Nat), x])) hB s.heap.objs.size (.tup [.int (i : Nat), x]) := ⟨by show 2 ≤ sizeLine; decide, [.int i tk, u], .cons ⟨_, rfl⟩ (.cons ru .nil), ⟨_, hT2, rfl, _, rfl⟩⟩
    have I1 : Inv X pins σ (upd H s.heap.objs.size (.tup [.int (i : Nat), x])) { s with heap := hB, toks := tk + 1 } :=
      I.turnedNew (t' := tk + 1) (ch := [en, it]) (fun c ob hb q => (sb.2 c (fun z => hb (by simp [z]))).trans (hk c ob (fun z => hb (by simp [z])) (fun z => hb (by simp [z])) q)) hf (Nat.le_refl _) made
    refine ⟨.ref s.heap.objs.size, _, I1, rfl, ⟨_, x, rfl, I.hok.fresh (Nat.le_refl _), rfl, fun ys hy => by rw [sq_inj I hy hq]; exact hx⟩, ⟨⟨u, ?_⟩, si2.at fun o q => (sb.2 it n2.symm).trans q⟩, fun c hcm => ?_⟩
    · have next : ((i + 1 : Nat) : Int) = (i : Int) + 1 := by omega
      rw [next]
      exact isB
    · have small : c < s.heap.objs.size := by
        have e : c = en ∨ c = it := by simpa using hcm
        rcases e with q | q
        · rw [q]; exact enl
        · rw [q]; exact itl
      rw [upd_ne (Nat.ne_of_lt small)]
      exact (hf c hcm).1
  done := by
    intro X hP hw hK hc i pins s σ H E I hf st hg
    subst hP hw hK
    obtain ⟨⟨old, ie⟩, si⟩ := st
    obtain ⟨xs, hq, hx⟩ := hg
    obtain ⟨its, rv, sq, _⟩ := sq_seq I hq
    have li : its.toArray.size = i := by
      have := rv.length
      simp
      omega
    have dr := draws_of (prog := X.prog) (w := X.w) (A := X.A.in1) (I.ok.hd hc) it p n1 its
    rw [li] at dr
    exact PySem.wpAny_pyNext_enum_endD dr ie ⟨si, sq⟩ fun hA eb => ⟨rfl, I.turnedL (t' := s.toks) (ch := [en, it]) (fun c ob hb q => eb c ob (fun z => hb (by simp [z])) q) hf⟩
  self := fun A i s Q E st h => let ⟨⟨_, ie⟩, _⟩ := st; wpAny_pyIter_enum ie h
theorem walk_e {K : PySem.W.Frag} {p : Bool × Addr} {xs : List V} : Walk (ItE K p) xs.length (fun H => SqK K H p xs) (YPair (fun i => some (.int (i : Nat))) (fun i => xs[i]?)) :=
  ⟨fun i _ hi q => ⟨xs, xs[i], q, by simp [hi]⟩, fun _ q => ⟨xs, q, rfl⟩, fun i H v H2 _ q y => by
    obtain ⟨T, x, h1, h2, h3, h4⟩ := y
    exact ⟨T, _, x, h1, h2, h3, rfl, h4 xs q⟩⟩
/-- enumerate(e), e a list or a tuple -/
def iE (K : PySem.W.Frag) (ta : TA) : TI := fun σ H R => ta σ H fun vs H1 => ∃ p : Bool × Addr, vs = [.ref p.2] ∧ (∃ xs, SqK K H1 p xs) ∧ R (ItE K p) H1
theorem pi_e {X : Cx} {e : Expr} {ta : TA} {po pos tpos : Pos} {elts : List Expr} {kk : Nat} (hg : Gl X "enumerate") (hm : X.mg "enumerate" = none) (ha : PA X [e] ta) (hs : starEach [e] X.env = [(false, eval e X.env)] := by rfl) :
    PI X (.Tuple elts kk tpos) (.Call (.Name "enumerate" po) [e] [] pos) (iE X.K ta) := by
  refine ⟨fun pins s σ H R I h => ?_⟩
  refine Call_ (ld_blt I hg hm boot_enumerate (PyProof.Rows.callWith_type1 (thn (ha.run pos pins s σ H _ I h) fun us s0 ⟨vs, H1, I1, r1, q1⟩ => ?_) hs rfl))
  obtain ⟨p, ev, ⟨xs, hq⟩, q1⟩ := q1
  subst ev
  cases r1 with
  | cons r rr =>
    cases rr
    cases r
    obtain ⟨its, rv, sq, lt⟩ := sq_seq I1 hq
    refine enum_of (begins_of p its) sq fun hN ie io kk2 => wpAny_pyIter_enum ie ?_
    have I2 : Inv X pins σ H1 { s0 with heap := hN } := I1.kept (t' := s0.toks) kk2
    refine ⟨s0.heap.objs.size + 1, [s0.heap.objs.size + 1, s0.heap.objs.size], _, _, H1, rfl, I2, turn_e (Nat.ne_of_lt lt) (Nat.succ_ne_self _) (Nat.ne_of_gt (Nat.lt_succ_of_lt lt)), ⟨⟨.none, ie⟩, SqIt.begin io⟩, fun c hc => ?_, q1⟩
    have le : s0.heap.objs.size ≤ c := by
      have e : c = s0.heap.objs.size + 1 ∨ c = s0.heap.objs.size := by simpa using hc
      rcases e with z | z
      · rw [z]; exact Nat.le_add_right _ _
      · rw [z]; exact Nat.le_refl _
    exact I1.fpOk le (I1.hok.fresh le)
end CE

namespace CL
open PySem PySem.Spec PyProof.Rows L2
/-! ### set(l) of a list of ints -/
section
variable {pg : Program} {wo : World} {Ar : Around} {Ee : Value → Shared → Prop} {t : Shared}
set_option maxRecDepth 100000 in
set_option maxHeartbeats 3200000 in
theorem set_of_list {l : Addr} {its : Array Value} (ns : List Int) {Qe : Value → Shared → Prop} (calm : Ar.handled = none) (isl : t.heap.IsList l its) (intsA : IntsAre its.toList ns) (few : ns.length + 1 < scanBound)
    (goal : ∀ (hN : Heap) (k c : Nat), SetR wo hN t.heap.objs.size (fun j => decide (j ∈ ns)) c → c ≤ ns.length → (∀ b ob, t.heap.get? b = some ob → hN.get? b = some ob) → Qe (.ref t.heap.objs.size) { t with heap := hN, toks := k }) :
    wpAny (model pg wo) Ar (call (.type "set") [.ref l]) Qe Ee t := by
  have len : its.size = ns.length := by
    have z := IntsAre.length intsA
    rw [Array.length_toList] at z
    exact z
  obtain ⟨cc, tail, mro⟩ := PySem.F.called_set.mro
  have made := PySem.F.called_set.made
  have sub := PySem.F.called_set.sub
  refine wpAny_call (codeAny_of_tree ?_)
  show wpAny _ _ (callAny (.type "set") _) _ _ _
  refine wpAny_pure ⟨Code.quiet_builtin _ (by decide +kernel), codeAny_builtin PySem.F.entry_type_call ?_⟩
  rw [Around.under_plain (weight_type_call_type "set" [.ref l] []) rfl]
  have noType := PySem.F.called_set.notType
  have creates := PySem.F.called_set.canCreate
  have checked := PySem.F.typeCall_set_1 (.ref l)
  repeat (any_goals (first | assumption | wp_step))
  refine codeAny_mono (code_set_led1 (.ref l) (E := Ee) (Q₁ := fun ob t1 => ob = .ref t.heap.objs.size ∧ t1 = { t with heap := t.heap.push { cls := .type "set", dict := none, data := .set #[] 0 (.fresh 0 0 (!wo.params.followText "set-order")) } }) ⟨rfl, rfl⟩) fun r t1 hr => ?_
  cases r with
  | error e => exact hr
  | ok fl =>
    cases fl with
    | ret ob =>
      obtain ⟨rfl, rfl⟩ := hr
      have hS : (t.heap.push { cls := .type "set", dict := none, data := .set #[] 0 (.fresh 0 0 (!wo.params.followText "set-order")) }).get? t.heap.objs.size = some { cls := .type "set", dict := none, data := .set #[] 0 (.fresh 0 0 (!wo.params.followText "set-order")) } := Heap.get?_push_size _ rfl
      have tS : Shared.TypeIs { t with heap := t.heap.push { cls := .type "set", dict := none, data := .set #[] 0 (.fresh 0 0 (!wo.params.followText "set-order")) } } (.ref t.heap.objs.size) "set" := ⟨_, hS, rfl⟩
      have ini := PySem.F.called_set.init.lookup
      have bnd := PySem.F.called_set.init.bind (.ref t.heap.objs.size)
      repeat (any_goals (first | assumption | wp_step))
      refine codeAny_mono (codeAny_call_builtin (R := wants (fun r t2 => r = .none ∧ ∃ hN k c, t2 = { t with heap := hN, toks := k } ∧ SetR wo hN t.heap.objs.size (fun j => decide (j ∈ ns)) c ∧ c ≤ ns.length ∧
          (∀ b ob, t.heap.get? b = some ob → hN.get? b = some ob)) Ee) PySem.F.called_set.init.plain PySem.F.entry_set_init (check_set_init_1 tS ?_)) fun r2 t2 hr2 => ?_
      · obtain ⟨ol, hol, hcl, nl, hdl⟩ := id isl
        obtain ⟨ocls, odict, odata, oslots⟩ := ol
        simp only at hcl hdl
        subst hcl
        subst hdl
        have hol2 : (t.heap.push { cls := .type "set", dict := none, data := .set #[] 0 (.fresh 0 0 (!wo.params.followText "set-order")) }).get? l = some { cls := .type "list", dict := odict, data := .seq its nl, slots := oslots } := Heap.get?_push_of_some _ hol
        have s1 := PySem.F.sub_list_set
        have s2 := PySem.F.sub_list_frozenset
        have nd : (Value.type "list" == Value.type "dict") = false := by decide
        have isl2 : (t.heap.push { cls := .type "set", dict := none, data := .set #[] 0 (.fresh 0 0 (!wo.params.followText "set-order")) }).IsList l its := ⟨_, hol2, rfl, nl, rfl⟩
        unfold Builtin.«set.__init__» noKeywords Builtin.Frozenset.updateFrom
        generalize hPI : pyIter = PIt
        wp_walk
        subst hPI
        refine wpAny_pyIter_list isl2 ?_
        refine wpAny_bind (wpAny_runValue ?_)
        have lS : l < t.heap.objs.size := Heap.lt_size hol
        have calm3 : Ar.in1.in1.in1.handled = none := by simp [calm]
        have neI : l ≠ (t.heap.push { cls := .type "set", dict := none, data := .set #[] 0 (.fresh 0 0 (!wo.params.followText "set-order")) }).objs.size := by
          rw [Heap.size_push]
          exact Nat.ne_of_lt (Nat.lt_succ_of_lt lS)
        have notF : t.heap.objs.size ∉ [(t.heap.push { cls := .type "set", dict := none, data := .set #[] 0 (.fresh 0 0 (!wo.params.followText "set-order")) }).objs.size, l] := by
          rw [Heap.size_push]
          simp only [List.mem_cons, List.not_mem_nil, or_false, not_or]
          exact ⟨Nat.ne_of_lt (Nat.lt_succ_self _), Nat.ne_of_gt lS⟩
        have vals : ∀ (i : Nat) (v : Value), its[i]? = some v → ∃ k u, ns[i]? = some k ∧ v = .int k u := fun i v hv => by
          have hi : i < ns.length := by
            rw [← len]
            exact (Array.getElem?_eq_some_iff.mp hv).1
          obtain ⟨u, e⟩ := PyProof.Rows.IntsAre.int_at intsA i v (by rw [Array.getElem?_toList]; exact hv)
          refine ⟨ns[i], u, List.getElem?_eq_getElem hi, ?_⟩
          rw [e, List.getD_eq_getElem?_getD, List.getElem?_eq_getElem hi] <;> rfl
        refine set_update_ints ((Walks.list calm3 _ l neI its).toS) t.heap.objs.size notF ns len few vals (its.size - 0) 0 _ (by omega) (Nat.zero_le _) ⟨⟨_, Heap.get?_push_size _ rfl, rfl, rfl⟩, (isl2.push _)⟩ ?first ?last
        case first =>
          exact ⟨0, Nat.le_refl 0, setR_new_at (Heap.get?_push_of_some _ hS)⟩
        case last =>
          intro t3 c3 mv hc3 hS3
          obtain ⟨hN, g3, d3, k3, os3⟩ := t3
          obtain rfl : g3 = t.gens := mv.gens
          obtain rfl : d3 = t.drawn := mv.drawn
          obtain rfl : os3 = t.os := mv.os
          show wpAny _ _ _ _ _ _
          refine wpAny_pure ?_
          show wpAny _ _ (ret Value.none) _ _ _
          rw [len] at hc3
          refine wpAny_pure ⟨rfl, hN, k3, c3, rfl, hS3, hc3, fun b ob e => ?_⟩
          have b0 : b < t.heap.objs.size := Heap.lt_size e
          have b2 : b ≠ (t.heap.push { cls := .type "set", dict := none, data := .set #[] 0 (.fresh 0 0 (!wo.params.followText "set-order")) }).objs.size := by
            rw [Heap.size_push]
            exact Nat.ne_of_lt (Nat.lt_succ_of_lt b0)
          exact mv.heap b ob (by simp only [List.mem_cons, List.not_mem_nil, or_false, not_or]; exact ⟨Nat.ne_of_lt b0, b2⟩) (Heap.get?_push_of_some _ (Heap.get?_push_of_some _ e))
      · cases r2 with
        | error e => exact hr2
        | ok fl2 =>
          cases fl2 with
          | ret r =>
            obtain ⟨rfl, hN, k, c2, rfl, hS2, hc2, hk2⟩ := hr2
            repeat (any_goals (first | assumption | wp_step))
            exact goal _ _ _ hS2 hc2 hk2
          | _ => exact hr2.elim
    | _ => exact hr.elim
end
/-- set(l), l a list of ints -/
def rSetI (K : PySem.W.Frag) (w : World) : List V → Hp → VK → Prop := fun vs H Q => ∃ (a : Addr) (ns : List Int), vs = [V.ref a] ∧ SqL K H a (ns.map V.int) ∧ ns.length + 1 < scanBound ∧ ∀ p c, H p = none → c ≤ ns.length → Q (.ref p) (upd H p (SetO w p (fun j => decide (j ∈ ns)) c))
theorem call_setI {X : Cx} (hc : X.calm = true) : CallR X (.type "set") (rSetI X.K X.w) := by
  intro pins s σ H vs us Q I r h
  obtain ⟨a, ns, rfl, hl, few, q⟩ := h
  rw [Vals.ref1 r]
  obtain ⟨its, rv, pl, _⟩ := I.list hl
  refine set_of_list ns (I.ok.hd hc) pl.isList (by rw [List.toList_toArray]; exact intsAre_of rv) few fun hN k c new hcl keep => ?_
  exact ⟨.ref _, upd H s.heap.objs.size (SetO X.w s.heap.objs.size (fun j => decide (j ∈ ns)) c), I.laid (t' := k) keep (Nat.le_refl _) (setO_new new), rfl, q _ c (I.hok.fresh (Nat.le_refl _)) hcl⟩
end CL

namespace CS
open PySem PySem.Spec PyProof.Rows L2
/-! ### more rules beside the layer's -/
section
variable {X : Cx}
/-- o.f as a target -/
def gFld (K : PySem.W.Frag) (to : TE) (f : Str) : TG := fun v σ H Q => to σ H fun x H1 => ∃ a C dx fs, x = .ref a ∧ H1 a = some (.ins C dx fs) ∧ Cls K C ∧ NoAttr K C f ∧ fs.length < 1000 ∧ Q σ (upd H1 a (.ins C dx (putF f v fs)))
theorem pg_fld {o : Expr} {f : Str} {pos : Pos} {to : TE} (ho : PE X o to) : PG X (.Attribute o f pos) (gFld X.K to f) := by
  refine ⟨fun pins s σ H v u Q I r h => ?_⟩
  rw [assign_Attribute]
  refine wpAny_bind (wpAny_holding (thn (ho.run pins s σ H _ I h) fun ov s1 ⟨x, H1, I1, r1, a, C, dx, fs, ex, ea, c, n, l, q⟩ => ?_))
  subst ex
  obtain rfl : ov = Value.ref a := r1
  refine wpAny_bind (wpAny_standAt (wpAny_bind (wpAny_holding (setattr_ok I1 ea c n l r fun s3 I3 => ?_))))
  exact wpAny_release ⟨σ, _, I3, q⟩
theorem pe_fldK {e : Expr} {f : Str} {pos : Pos} {ta : TE} (K : PySem.W.Frag) (hk : X.K = K) (he : PE X e ta) (hb : attributeBase e f X.env (eval e X.env) = eval e X.env) : PE X (.Attribute e f pos) (tFld K ta f) := by
  subst hk
  exact pe_fld he hb
def rLenQ (K : PySem.W.Frag) : List V → Hp → VK → Prop := fun xs H Q => ∃ p ys, xs = [.ref p] ∧ (SqL K H p ys ∨ SqT K H p ys) ∧ Q (.int ys.length) H
def rListQ (K : PySem.W.Frag) : List V → Hp → VK → Prop := fun xs H Q => ∃ p ys, xs = [.ref p] ∧ (SqL K H p ys ∨ SqT K H p ys) ∧ ∀ l, H l = none → Q (.ref l) (upd H l (.lst ys))
def rTupleQ (K : PySem.W.Frag) : List V → Hp → VK → Prop := fun xs H Q => ∃ p ys, xs = [.ref p] ∧ ((SqL K H p ys ∧ ∀ l, H l = none → Q (.ref l) (upd H l (.tup ys))) ∨ (SqT K H p ys ∧ Q (.ref p) H))
/-- // by a divisor of either sign -/
def CDivNW (_ j : Int) : Prop := j ≠ 0 ∧ j.natAbs.log2 < 9000
theorem op_fdivNW : OpR X (binaryOp .FloorDiv) (rI CDivNW fun i j => .int (i.fdiv j)) := opI fun _ _ _ _ _ _ _ hc q => floordiv_int hc.1 q (.inl (PyProof.noPylong_of_log2 hc.2))
theorem wide_divN {i j : Int} {b : Nat} (h : j ≠ 0) (hb : j.natAbs < 2 ^ b) (h0 : 0 < b) (h9 : b ≤ 9000) : CDivNW i j := ⟨h, Nat.lt_of_lt_of_le (PySem.Flt.log2_lt_of h0 hb) h9⟩
theorem kit_self {K : PySem.W.Frag} {C : Addr} : PySem.W.kitOne K (.ref C) (.ref C) = some true := by
  unfold PySem.W.kitOne
  rw [if_pos (by simp)]
theorem pe_revLK {e : Expr} {te : TE} {k : Nat} {p1 p2 p3 pos : Pos} (K : PySem.W.Frag) (hk : X.K = K) (he : PE X e te) : PE X (.Subscript e (.Slice none none (some (.UnaryOp .USub (.Constant (.int 1) k p1) p2)) p3) pos) (tRevL K te) := by
  subst hk
  exact pe_revL he
/-- x in s, a list or a tuple of data -/
def rInQ (K : PySem.W.Frag) : R2 := fun x y H Q => ∃ d ds, Dp K H x d ∧ (Dp K H y (.list ds) ∨ Dp K H y (.tuple ds)) ∧ SeqAt.shaped d = true ∧ SeqAt.shaped (.list ds) = true ∧ Q (.bl (ds.any fun z => PyData.eqv z d)) H
def rNotInQ (K : PySem.W.Frag) : R2 := fun x y H Q => ∃ d ds, Dp K H x d ∧ (Dp K H y (.list ds) ∨ Dp K H y (.tuple ds)) ∧ SeqAt.shaped d = true ∧ SeqAt.shaped (.list ds) = true ∧ Q (.bl (!ds.any fun z => PyData.eqv z d)) H
theorem op_inQ (hu : X.A.units + 65 < cLine) : OpR X (compareOp .In) (rInQ X.K) := by
  intro pins s σ H x y v u Q I rx ry h
  obtain ⟨d, ds, hd, he, sd, se, q⟩ := h
  obtain ⟨as, r1⟩ := Dp.reads I d x v hd rx
  rcases he with he | he
  · obtain ⟨bs, r2⟩ := Dp.reads I (.list ds) y u he ry
    exact SeqAt.in_list_reads r2 r1 (SeqAt.canLay_of_shaped se) (SeqAt.canLay_of_shaped sd) (room_in_shaped sd hu) ⟨.bl _, H, I, rfl, q⟩
  · obtain ⟨bs, r2⟩ := Dp.reads I (.tuple ds) y u he ry
    exact SeqAt.in_tuple_reads r2 r1 (SeqAt.canLay_of_shaped se) (SeqAt.canLay_of_shaped sd) (room_in_shaped sd hu) ⟨.bl _, H, I, rfl, q⟩
theorem op_notInQ (hu : X.A.units + 65 < cLine) : OpR X (compareOp .NotIn) (rNotInQ X.K) := by
  intro pins s σ H x y v u Q I rx ry h
  obtain ⟨d, ds, hd, he, sd, se, q⟩ := h
  obtain ⟨as, r1⟩ := Dp.reads I d x v hd rx
  rcases he with he | he
  · obtain ⟨bs, r2⟩ := Dp.reads I (.list ds) y u he ry
    exact SeqAt.notIn_list_reads r2 r1 (SeqAt.canLay_of_shaped se) (SeqAt.canLay_of_shaped sd) (room_in_shaped sd hu) ⟨.bl _, H, I, rfl, q⟩
  · obtain ⟨bs, r2⟩ := Dp.reads I (.tuple ds) y u he ry
    exact SeqAt.notIn_tuple_reads r2 r1 (SeqAt.canLay_of_shaped se) (SeqAt.canLay_of_shaped sd) (room_in_shaped sd hu) ⟨.bl _, H, I, rfl, q⟩
end
end CS

/-! ### promises for callers that print nothing yet, and repr -/
namespace CG
open PySem PySem.Spec PyProof.Rows L2
/-- a promise that is kept where nothing is being printed -/
structure FnOkG (P : Program) (w : World) (K : PySem.W.Frag) (mg : Str → Option Value) (base : Heap) (k : Nat) (f : Addr) (fd : FuncData) (ps : List Str) (sp : Sp) : Prop where
  size : ∀ vs H Q E, sp vs H Q E → vs.length = ps.length
  go : ∀ (A : Around) (fr : List Env) (s : Shared) (H : Hp) (as : Args) (us : List Value) (vs : List V) (Q : VK) (E : XK), A.guards = some [] → Room k A → Env0 P w K mg base A fr s H → BindsTo s fd as (ps.zip us) → Vals vs us → sp vs H Q E →
    codeAny (model P w) A (.call (.ref f) as) (CR CX0 fr P w H s Q E) s
theorem FnOkG.of {P : Program} {w : World} {K : PySem.W.Frag} {mg : Str → Option Value} {base : Heap} {k : Nat} {f : Addr} {fd : FuncData} {ps : List Str} {sp : Sp} (F : FnOk P w K mg base CX0 k f fd ps sp) : FnOkG P w K mg base k f fd ps sp :=
  ⟨F.len, fun A fr s H as us vs Q E _ => F.run A fr s H as us vs Q E⟩
section
variable {P : Program} {w : World} {K : PySem.W.Frag} {mg : Str → Option Value} {base : Heap}
/-- a def by its body, where nothing is being printed -/
theorem okG {x qual : Str} {st : Stmt} {f : Addr} {fd : FuncData} {N ps : List Str} {k : Nat} {sp : Sp} (F : Fun K x qual st f fd) (S : FnScope N ps (defScope st)) (len : ∀ vs H Q E, sp vs H Q E → vs.length = ps.length)
    (body : ∀ (cdv : Value) (A : Around) (fr : List Env) (s : Shared) (H : Hp) (vs : List V) (Q : VK) (E : XK), A.guards = some [] → Room k (A.deeper (envOfC qual (defScope st) s.heap.objs.size f cdv)) → sp vs H Q E →
      ∃ t, PSs (cxOf CX0 P w K mg base N qual (defScope st) f cdv A fr s H E).nox (defBody st) t ∧ t { nx := fun _ H' => Q .non H', rt := Q } (start N vs) H) : FnOkG P w K mg base (k + 1) f fd ps sp := by
  obtain ⟨o1, o2, d1, d2, d3, o3, cd, ct, o4, rfl, look, code⟩ := F.ex
  refine ⟨len, fun A fr s H as us vs Q E gd room en bind rel want => ?_⟩
  have kin : K.In s.heap := en.mod.kin.keeps fun b o e => (en.bs b o e).1
  have nolim : s.heap.NoLimit := en.mod.nolimit.keeps fun b o e => (en.bs b o e).1
  have kinds : ∀ y ∈ ps.zip us, (defScope st).names.lookup y.1 = some .local ∨ ((defScope st).names.lookup y.1 = some .cell ∧ ((cellsFrom (s.heap.objs.size + 1) (defScope st).names []).lookup y.1).isSome = true) := fun ⟨n, v⟩ hy =>
    (S.par n (List.of_mem_zip hy).1).imp id fun q => ⟨q, PySem.W.cellsFrom_some _ _ _ (.inl q)⟩
  refine codeAny_call_function room.depth (kin _ _ look) rfl S.co S.gen rfl (PySem.W.codeRec_of kin code) (bind _ _ _ _ ?_)
  refine wpAny_newFunctionEnv_cells S.kind kinds fun env isEnv s1 entry => ?_
  subst isEnv
  refine ⟨nolim.keeps entry.toInCall.keep, codeAny_func ?_⟩
  obtain ⟨t, rule, reading⟩ := body cd A fr s H vs Q E gd (room.deeper _) want
  have start1 : Inv (cxOf CX0 P w K mg base N qual (defScope st) f cd A fr s H E) [] (start N vs) H s1 := inv_start S room.hd en (len _ _ _ _ want) rel entry
  refine wpAny_mono (rule.nox.run [] s1 (start N vs) H _ start1 reading) (fun fl s' out => ?_) fun e s' out => out
  have close : ∀ {τ : L2.St} {H' : Hp} {v : V} {u : Value}, Inv (cxOf CX0 P w K mg base N qual (defScope st) f cd A fr s H E) [] τ H' s' → RelV v u → Q v H' → CE fr P w H s Q u s' :=
    fun {τ H' v u} J rv q => ⟨v, H', J.os, J.bare, J.base, J.hok, rv, q⟩
  match fl, out with
  | .ret u, ⟨_, _, _, J, rv, q⟩ => exact close J rv q
  | .next, ⟨_, _, J, q⟩ => exact close (v := V.non) (u := Value.none) J rfl q
  | .brk, ⟨_, _, _, q⟩ => exact q.elim
  | .cont, ⟨_, _, _, q⟩ => exact q.elim
end
section
variable {X : Cx} {k : Nat} {f : Addr} {fd : FuncData} {ps : List Str} {sp : Sp} {dvs : List V} {ds : List Value} {E : XK} {x : Str} {p pos : Pos} {e : Expr} {es : List Expr} {t : TA}
theorem goG {pins : List (Addr × Obj)} {σ : L2.St} {H : Hp} {s : Shared} {Q : VK} {us : List Value} {vs : List V} (F : FnOkG X.prog X.w X.K X.mg X.base k f fd ps sp) (gd : X.A.guards = some []) (room : Room k X.A) (bind : Binds X.K fd ps ds) (hd : Vals dvs ds) (pass : Passes CX0 X E)
    (I : Inv X pins σ H s) (rel : Vals vs us) (want : sp (vs ++ dvs) H Q E) : wpAny (model X.prog X.w) X.A (call (.ref f) us) (EP X pins σ Q) X.xe s := by
  have both : Vals (vs ++ dvs) (us ++ ds) := rel.append hd
  have size : (us ++ ds).length = ps.length := both.length.symm.trans (F.size _ _ _ _ want)
  refine wpAny_call (codeAny_mono (F.go X.A X.stack s H ⟨us, []⟩ (us ++ ds) (vs ++ dvs) Q E gd room I.env0 (bind s us I.kIn size) both want) fun out s' q => ?_)
  match out, q with
  | .error err, q => exact pass pins σ H s err s' I q
  | .ok (.ret u), q => exact I.after q
/-- the call of a def that wants nothing to be printed -/
theorem pe_callG (F : FnOkG X.prog X.w X.K X.mg X.base k f fd ps sp) (gd : X.A.guards = some []) (room : Room k X.A) (hg : Gl X x) (hm : X.mg x = some (.ref f)) (hk : PySem.W.keepIn X.K (.ref f) = true) (bind : Binds X.K fd ps ds) (hd : Vals dvs ds) (pass : Passes CX0 X E)
    (args : PA X (e :: es) t) (hdb : (x == ("__debug__" : Str)) = false := by decide) (he : starEach (e :: es) X.env = (false, eval e X.env) :: starEach es X.env := by rfl) (hpl : (backTo pos (starEach es X.env)).any (·.1) = false := by rfl) :
    PE X (.Call (.Name x p) (e :: es) [] pos) (tCall sp dvs E t) :=
  ⟨fun pins s σ H Q I h => wpAny_Call_Name_kw (ld_glob I hg hm (PySem.W.callWith_K (h₀ := X.base) I.ok.mod.kin hk (thn (args.run pos pins s σ H _ I h) fun us s1 ⟨vs, H1, I1, r, q⟩ => ⟨I1.kIn, goG F gd room bind hd pass I1 r q⟩) he hpl) hdb)⟩
/-- repr(x) of data that are known -/
def rRepr (K : PySem.W.Frag) : List V → Hp → VK → Prop := fun vs H Q => ∃ (a : Addr) (d : PyData), vs = [V.ref a] ∧ Dp K H (.ref a) d ∧ d.showable = true ∧ d.hasDict = false ∧ d.shown.length ≤ sizeLine ∧ d.depth ≤ 60 ∧ Q (.str d.shown) H
theorem cr_repr (gd : X.A.guards = some []) (hu : X.A.units + 65 < cLine) : CallR X (.builtin "repr") (rRepr X.K) := by
  intro pins s σ H vs us Q I r h
  obtain ⟨a, d, rfl, hd, sh, nd, lz, dp, q⟩ := h
  rw [Vals.ref1 r]
  obtain ⟨as, rd⟩ := Dp.reads I _ (.ref a) _ hd rfl
  refine repr_of_reads' rd sh (fun z => absurd (nd.symm.trans z) (by decide)) gd (by omega) (fun _ _ e => e) (fun h' u tk hk => ?_) lz
  exact ⟨.str d.shown, H, I.kept (t' := tk) hk, ⟨_, rfl⟩, q⟩
end
/-- the law at its script, from a promise of that kind -/
theorem law_callG {P : Program} {w : World} {K : PySem.W.Frag} {mg mb : Str → Option Value} {k : Nat} {fa a : Addr} {fd : FuncData} {x : Str} {sp : Sp} {s₁ : Shared} {us : List Value} {ms : List Int}
    (inK : K.In s₁.heap) (g1 : s₁.heap.Ns mainGlobals mg) (g2 : s₁.heap.Ns builtinsNs mb) (g3 : ∀ x : Str, x ≠ "__name__" → mb x = bootBuiltins x) (g4 : s₁.heap.NoLimit) (g5 : s₁.gens = #[])
    (at_a : s₁.heap.get? a = some { cls := .type "list", data := .seq us.toArray }) (are : IntsAre us ms) (short : ms.length ≤ sizeLine) (room : Room k callerA)
    (F : ∀ base : Heap, K.In base → base.Ns mainGlobals mg → FnOkG P w K mg base k fa fd [x] sp) (bind : ∀ (s : Shared) (u : Value), BindsTo s fd ⟨[u], []⟩ [(x, u)])
    (want : ∀ H : Hp, Only H → SqL K H a (ms.map V.int) → sp [.ref a] H (fun v _ => v = .bl true) fun _ _ _ => False) :
    codeAny (model P w) callerA (.call (.ref fa) ⟨[.ref a], []⟩) (fun r s' => r = .ok (.ret (.bool true)) ∧ OldK s₁.heap s'.heap ∧ s'.os = s₁.os ∧ AllBare s'.gens) s₁ := by
  have vals := vals_ints are
  have many := are.length
  have main : ∀ H : Hp, Only H → SqL K H a (ms.map V.int) → HOk P w H s₁.heap → (∀ b, H b ≠ none → b = a) → (H a ≠ none → K.lookup a = none) →
      codeAny (model P w) callerA (.call (.ref fa) ⟨[.ref a], []⟩) (fun r s' => r = .ok (.ret (.bool true)) ∧ OldK s₁.heap s'.heap ∧ s'.os = s₁.os ∧ AllBare s'.gens) s₁ := by
    intro H only seq hok just out
    have hid : ∀ {b : Addr} {o : Obj} {es : Array DictEntry} {n : Nat}, s₁.heap.get? b = some o → o.data = .dict es n → H b = none := fun {b o es n} e d => Classical.byContradiction fun z => by
      rw [just b z, at_a] at e
      obtain rfl := Option.some.inj e
      exact absurd (show Data.seq us.toArray _ = Data.dict es n from d) (fun z => nomatch z)
    have names : ∀ {b : Addr} {m : Str → Option Value}, s₁.heap.Ns b m → (hidT s₁.heap H).Ns b m := fun {b m} ⟨o, es, n, e, d, r⟩ => ⟨o, es, n, hidT_get e (hid e d), d, r⟩
    have inB : K.In (hidT s₁.heap H) := fun b o e => hidT_get (inK b o e) (Classical.byContradiction fun z => by
      have ba := just b z
      rw [ba] at z e
      rw [out z] at e
      exact absurd e (fun z => nomatch z))
    have known : Mod K mg (hidT s₁.heap H) := ⟨inB, names g1, ⟨mb, names g2, g3⟩, g4.elim fun mc z => ⟨mc, names z.1, z.2⟩⟩
    have entry : Env0 P w K mg (hidT s₁.heap H) callerA [] s₁ H := ⟨rfl, known, fun b o e => of_hidT e, Nat.le_of_eq (hidT_size _ _), trivial, fun b z => (List.not_mem_nil z).elim, hok, .of_eq g5⟩
    refine codeAny_mono ((F _ inB (names g1)).go callerA [] s₁ H ⟨[.ref a], []⟩ [.ref a] [.ref a] _ _ rfl room entry (bind s₁ (.ref a)) (.cons rfl .nil) (want H only seq)) fun r s' h => ?_
    match r, h with
    | .ok (.ret u), ⟨v, H', os, bare, un, hok', rel, (q : v = .bl true)⟩ =>
      subst q
      obtain rfl : u = Value.bool true := rel
      refine ⟨rfl, OldK.of_keep fun b o e => ?_, os, bare⟩
      rcases only b with z | ⟨ob, xs, z⟩
      · exact un.keep b o e z (fun m => (List.not_mem_nil m).elim) (by simp)
      · have e1 := (hok b _ z).1
        have e2 := (hok' b _ (un.frzs b ob _ z)).1
        rw [e] at e1
        rw [Option.some.inj e1]
        exact e2
  cases look : K.lookup a with
  | some o =>
    obtain rfl := Option.some.inj (at_a.symm.trans (inK a o look))
    exact main (fun _ => none) (fun _ => .inl rfl) (.inr ⟨_, us.toArray, _, look, rfl, rfl, rfl, by simpa [many] using short, by simpa using vals⟩) (fun b u z => (nomatch (show (none : Option HO) = some u from z))) (fun b z => (z rfl).elim) fun z => (z rfl).elim
  | none =>
    let O : Obj := { cls := .type "list", data := .seq us.toArray }
    let G : Hp := fun b => if b = a then some (.frz O (.lst (ms.map V.int))) else none
    have gA : G a = some (.frz O (.lst (ms.map V.int))) := if_pos rfl
    have gN : ∀ b, b ≠ a → G b = none := fun b n => if_neg n
    refine main G (fun b => ?_) (.inl (.inr ⟨O, gA⟩)) (fun b u z => ?_) (fun b z => Classical.byContradiction fun n => z (gN b n)) fun _ => look
    · rcases Decidable.em (b = a) with rfl | n
      · exact .inr ⟨_, _, gA⟩
      · exact .inl (gN b n)
    · rcases Decidable.em (b = a) with rfl | n
      · obtain rfl := Option.some.inj (gA.symm.trans z)
        exact ⟨at_a, by rw [List.length_map]; exact short, us, _, vals, at_a⟩
      · exact absurd (gN b n) (by rw [z]; exact fun e => nomatch e)
/-- a law's end, from a promise of that kind -/
theorem walk_ofG {l : PySem.W.OpenLaw} {n k : Nat} {q : Program} {loose : List Str} {XP : (Str → Option Value) → Heap → Prop} {YP : World → Heap → Prop} {d : DefRec} {x : Str}
    (most : l.most = some n) (small : n ≤ sizeLine) (plain : d.params.defaults = []) (room : Room k callerA)
    (F : ∀ (w : World) (mg : Str → Option Value) (fa : Addr) (h : Heap), YP w h → h.Ns mainGlobals mg → mg d.name = some (.ref fa) →
      ∃ (K : PySem.W.Frag) (fd : FuncData) (sp : Sp), K.In h ∧ (∀ (s : Shared) (u : Value), BindsTo s fd ⟨[u], []⟩ [(x, u)]) ∧
        (∀ (H : Hp) (a : Addr) (ms : List Int), ms.length ≤ n → Only H → SqL K H a (ms.map V.int) → sp [.ref a] H (fun v _ => v = .bl true) fun _ _ _ => False) ∧
        ∀ base : Heap, K.In base → base.Ns mainGlobals mg → FnOkG l.prog w K mg base k fa fd [x] sp) :
    PySem.W.WalkO q loose XP YP l.row.toRowW d [] (fun f vs => PySem.call f vs) :=
  Att.attach_call most plain fun w s₀ s₁ mg mb fa o pm cd doc a us ms G Y ho hd hcd named at_a are len gens => by
    obtain ⟨K, fd, sp, inK, bind, want, prom⟩ := F w mg fa _ Y G.T.g named
    exact law_callG inK G.T.g G.T.b G.T.builtins G.T.nolimit gens at_a are (Nat.le_trans len small) room prom bind fun H only seq => want H a ms len only seq
end CG

/-! ### repr of data that may be None -/
namespace CG
open PySem PySem.Spec PyProof.Rows L2
section
variable {X : Cx}
def rReprN (K : PySem.W.Frag) : List V → Hp → VK → Prop := fun vs H Q => ∃ (x : V) (d : PyData), vs = [x] ∧ (x = .non ∨ ∃ a, x = .ref a) ∧ Dp K H x d ∧ d.showable = true ∧ d.hasDict = false ∧ d.shown.length ≤ sizeLine ∧ d.depth ≤ 60 ∧ Q (.str d.shown) H
theorem cr_reprN (gd : X.A.guards = some []) (hu : X.A.units + 65 < cLine) : CallR X (.builtin "repr") (rReprN X.K) := by
  intro pins s σ H vs us Q I r h
  obtain ⟨x, d, rfl, c, hd, sh, nd, lz, dp, q⟩ := h
  rcases c with rfl | ⟨a, rfl⟩
  · cases hd
    obtain ⟨u, rfl, rfl⟩ := vals1 r
    exact PySem.P.repr_of_none ⟨.str _, H, I.tok _, ⟨_, rfl⟩, q⟩
  · exact cr_repr gd hu pins s σ H _ us Q I r ⟨a, d, rfl, hd, sh, nd, lz, dp, q⟩
end
end CG

/-! ### repr of data that may hold empty dicts -/
namespace CG
open PySem PySem.Spec PyProof.Rows L2
mutual
/-- data, empty dicts among them -/
inductive De (K : PySem.W.Frag) (H : Hp) : V → PyData → Prop
  | non : De K H .non .none
  | bl (b : Bool) : De K H (.bl b) (.bool b)
  | int (i : Int) : De K H (.int i) (.int i)
  | str (x : Str) : De K H (.str x) (.str x)
  | lst {a : Addr} {xs : List V} {ds : List PyData} : SqL K H a xs → DeAll K H xs ds → De K H (.ref a) (.list ds)
  | tup {a : Addr} {xs : List V} {ds : List PyData} : SqT K H a xs → DeAll K H xs ds → De K H (.ref a) (.tuple ds)
  | emp {a : Addr} : H a = some (.dK []) → De K H (.ref a) (.dict [])
inductive DeAll (K : PySem.W.Frag) (H : Hp) : List V → List PyData → Prop
  | nil : DeAll K H [] []
  | cons {v : V} {vs : List V} {d : PyData} {ds : List PyData} : De K H v d → DeAll K H vs ds → DeAll K H (v :: vs) (d :: ds)
end
section
variable {X : Cx} {pins : List (Addr × Obj)} {σ : L2.St} {H : Hp} {s : Shared}
theorem sys_not {a : Addr} {o : Obj} (I : Inv X pins σ H s) (sd : PySem.W.typeIn X.K (.ref sysModules) = some (.type "dict")) (ho : s.heap.get? a = some o) (hc : o.cls = .type "list") : a ≠ sysModules := fun z => by
  obtain ⟨o2, h2, e2⟩ := Option.map_eq_some_iff.mp sd
  have h3 := I.kIn _ _ h2
  rw [z, h3] at ho
  obtain rfl := Option.some.inj ho
  rw [e2] at hc
  exact absurd hc (by decide)
/-- no list stands where sys.modules does -/
def NoSys (h : Heap) : Prop := ∀ (a : Addr) (o : Obj) (its : Array Value) (n : Nat), h.get? a = some o → o.cls = .type "list" → o.data = .seq its n → a ≠ sysModules
mutual
theorem De.reads (I : Inv X pins σ H s) (nl : NoSys s.heap) : ∀ (d : PyData) (v : V) (u : Value), De X.K H v d → RelV v u → ∃ as, Reads s.heap u d as ∧ sysModules ∉ as
  | .none, _, _, h, r => by
    cases h
    cases r
    exact ⟨_, Reads.none, List.not_mem_nil⟩
  | .bool b, _, _, h, r => by
    cases h
    cases r
    exact ⟨_, Reads.bool b, List.not_mem_nil⟩
  | .int i, _, _, h, r => by
    cases h
    obtain ⟨t, rfl⟩ := r
    exact ⟨_, Reads.int i t, List.not_mem_nil⟩
  | .str x, _, _, h, r => by
    cases h
    obtain ⟨t, rfl⟩ := r
    exact ⟨_, Reads.str x t, List.not_mem_nil⟩
  | .list ds, _, _, h, r => by
    cases h with
    | lst hs ha =>
      cases r
      obtain ⟨its, rv, ⟨o, n, ho, hc, _, hd⟩, _⟩ := I.list hs
      obtain ⟨as, hr, hn⟩ := De.readsAll I nl ds _ its ha rv
      exact ⟨_, Reads.list ho hc hd hr, fun z => by
        rcases List.mem_cons.mp z with z | z
        · exact nl _ _ _ _ ho hc hd z.symm
        · exact hn z⟩
  | .tuple ds, _, _, h, r => by
    cases h with
    | tup hs ha =>
      cases r
      obtain ⟨its, rv, ⟨o, ho, hc, n, hd⟩, _⟩ := I.tuple hs
      obtain ⟨as, hr, hn⟩ := De.readsAll I nl ds _ its ha rv
      exact ⟨_, Reads.tuple ho hc hd hr, hn⟩
  | .dict kvs, _, _, h, r => by
    cases h with
    | @emp a he =>
      cases r
      obtain ⟨_, hm, vs, rv, dd⟩ := dk_of I.hok he
      cases rv
      obtain ⟨o, es, n, ho, hx, hd, _, hp, _⟩ := dd
      have e0 : es.toList = [] := by
        cases h : es.toList with
        | nil => rfl
        | cons e t =>
          rw [h] at hp
          cases hp
      have hs : sysModules ∉ a :: ([] : List Addr) ++ [] := fun z => by
        have z2 : sysModules = a := by simpa using z
        rw [← z2] at hm
        simp at hm
      exact ⟨_, Reads.dict (kvs := []) ho hx.1 hd (by rw [e0]; exact .nil) (by rw [e0]; exact .nil), hs⟩
theorem De.readsAll (I : Inv X pins σ H s) (nl : NoSys s.heap) : ∀ (ds : List PyData) (vs : List V) (us : List Value), DeAll X.K H vs ds → Vals vs us → ∃ as, ReadsAll s.heap us ds as ∧ sysModules ∉ as
  | [], _, _, h, r => by
    cases h
    cases r
    exact ⟨_, ReadsAll.nil, List.not_mem_nil⟩
  | d :: ds, _, _, h, r => by
    cases h with
    | cons h1 h2 =>
      cases r with
      | cons r1 r2 =>
        obtain ⟨as, q1, n1⟩ := De.reads I nl d _ _ h1 r1
        obtain ⟨bs, q2, n2⟩ := De.readsAll I nl ds _ _ h2 r2
        exact ⟨_, ReadsAll.cons q1 q2, fun z => (List.mem_append.mp z).elim n1 n2⟩
end
/-- repr(x) -/
def rReprE (K : PySem.W.Frag) : List V → Hp → VK → Prop := fun vs H Q => ∃ (a : Addr) (d : PyData), vs = [V.ref a] ∧ De K H (.ref a) d ∧ d.showable = true ∧ d.shown.length ≤ sizeLine ∧ d.depth ≤ 60 ∧ Q (.str d.shown) H
theorem cr_reprNS (nl : ∀ pins σ H s, Inv X pins σ H s → NoSys s.heap) (gd : X.A.guards = some []) (hu : X.A.units + 65 < cLine) : CallR X (.builtin "repr") (rReprE X.K) := by
  intro pins s σ H vs us Q I r h
  obtain ⟨a, d, rfl, hd, sh, lz, dp, q⟩ := h
  rw [Vals.ref1 r]
  obtain ⟨as, rd, ns⟩ := De.reads I (nl _ _ _ _ I) _ (.ref a) _ hd rfl
  refine repr_of_reads' rd sh (fun _ => ns) gd (by omega) (fun _ _ e => e) (fun h' u tk hk => ?_) lz
  exact ⟨.str d.shown, H, I.kept (t' := tk) hk, ⟨_, rfl⟩, q⟩
theorem cr_reprE (sd : PySem.W.typeIn X.K (.ref sysModules) = some (.type "dict")) (gd : X.A.guards = some []) (hu : X.A.units + 65 < cLine) : CallR X (.builtin "repr") (rReprE X.K) := cr_reprNS (fun _ _ _ _ I _ _ _ _ ho hc _ => sys_not I sd ho hc) gd hu
end
end CG

namespace CG
-- kexcis
open PySem PySem.Spec PyProof.Rows L2
/-! ### isinstance(e, (X, Y)), e the exception that the suite holds -/
/-- what the class D must say -/
structure ExcI (K : PySem.W.Frag) (D : Addr) : Prop where
  hl : (PySem.W.clsIn K D).isSome = true
  hg : PySem.W.findIn K (.ref D) "__getattribute__" = some (some (.builtin "BaseException.__getattribute__"))
  hk : PySem.W.findIn K (.ref D) "__getattr__" = some none
  hs : PySem.W.subIn K (.ref D) (.type "BaseException") = some true
  ha : PySem.W.findIn K (.ref D) "__class__" = some (some (.builtin "object.__class__"))
  hn : PySem.W.specialIn K (.builtin "object.__class__") "__get__" = some (some (.builtin "getset_descriptor.__get__"))
  ht : PySem.W.takesIn K (.builtin "object.__class__") = some true
  hm : PySem.W.mroIn K D (.type "object") = some true
def rIsET (K : PySem.W.Frag) (cls : Value) (d : Option Addr) (D a : Addr) : List V → Hp → VK → Prop := fun xs H Q => ∃ (tp : Addr) (cs : List V) (us : List Value) (b : Bool), xs = [.ref a, .ref tp] ∧ cls = .ref D ∧ H tp = some (.tup cs) ∧ Paired ClsV cs us ∧ (∃ (dd : Addr) (fs : List (Str × V)), d = some dd ∧ H dd = some (.xd fs)) ∧ PySem.W.kitAny K (.ref D) us = some b ∧ Q (.bl b) H
theorem call_isET {X : Cx} {a D : Addr} {oe : Obj} {cls : Value} {d : Option Addr} {pn : List (Addr × Obj)} (C : ExcI X.K D) (hz : Zc cls d oe) (hf : ∃ vs, oe.data = .fields vs) : CallR (X.suite a ((a, oe) :: pn)) (.builtin "isinstance") (rIsET X.K cls d D a) := by
  intro pins s σ H xs us Q I r h
  obtain ⟨tp, cs, ws, b, rfl, ec, hT, k, ⟨dd, fs, ed, hdd⟩, e, q⟩ := h
  obtain ⟨u1, u2, rfl, r1, r2⟩ := vals2 r
  obtain rfl : u1 = Value.ref a := r1
  obtain rfl : u2 = Value.ref tp := r2
  subst ec
  subst ed
  obtain ⟨hget, _⟩ := I.pin (a, oe) (List.mem_append.mpr (.inl List.mem_cons_self))
  obtain ⟨vs, hv⟩ := hf
  have hx : ObjOk X.prog X.w H s.heap dd (.xd fs) := I.hok dd _ hdd
  obtain ⟨mA, ⟨od, hod⟩, _⟩ := (show ∃ mA, (∃ o, s.heap.get? dd = some o) ∧ True by
    obtain ⟨mA, ⟨o, es, n, h1, _⟩, _⟩ := hx
    exact ⟨mA, ⟨o, h1⟩, trivial⟩)
  have J : PySem.W.InstAt s.heap a oe D (some od) := by
    obtain ⟨oc, odi, oda, osl⟩ := oe
    obtain ⟨h1, h2⟩ := hz
    dsimp only at h1 h2 hv
    subst h1 h2 hv
    exact ⟨hget, rfl, rfl, hod⟩
  obtain ⟨_, its, rv, o, h1, h2, n, h3⟩ := (show ObjOk X.prog X.w H s.heap tp (.tup cs) from I.hok tp _ hT)
  have e3 := ClsV.all k rv
  subst e3
  obtain ⟨oc, od2, dt, sl⟩ := o
  simp only at h2 h3
  subst h2 h3
  exact PySem.W.kia_tup (PySem.W.kitx_exc C.hl C.hg C.hk C.hs C.ha C.hn C.ht C.hm) I.kIn J h1 e (fun z => nomatch z) fun tk => ⟨.bl b, H, I.tok tk, rfl, q⟩
end CG

/-! ### repr of any data -/
namespace CG
open PySem PySem.Spec PyProof.Rows L2
section
variable {X : Cx}
def rReprA (K : PySem.W.Frag) : List V → Hp → VK → Prop := fun vs H Q => ∃ (x : V) (d : PyData), vs = [x] ∧ De K H x d ∧ d.showable = true ∧ d.shown.length ≤ sizeLine ∧ d.depth ≤ 60 ∧ Q (.str d.shown) H
/-- sys.modules is a dict, from the base -/
def SysB (base : Heap) : Prop := ∃ m, base.Ns sysModules m
theorem cr_reprG (nl : ∀ pins σ H s, Inv X pins σ H s → NoSys s.heap) (gd : X.A.guards = some []) (hu : X.A.units + 65 < cLine) : CallR X (.builtin "repr") (rReprA X.K) := by
  intro pins s σ H vs us Q I r h
  obtain ⟨x, d, rfl, hd, sh, lz, dp, q⟩ := h
  have ref : ∀ a, x = .ref a → wpAny (model X.prog X.w) X.A (call (.builtin "repr") us) (EP X pins σ Q) X.xe s := fun a e => by
    subst e
    exact cr_reprNS nl gd hu pins s σ H _ us Q I r ⟨a, d, rfl, hd, sh, lz, dp, q⟩
  obtain ⟨u, rfl, ru⟩ := vals1 r
  cases hd with
  | non =>
    obtain rfl : u = Value.none := ru
    exact PySem.P.repr_of_none ⟨.str _, H, I.tok _, ⟨_, rfl⟩, q⟩
  | bl b =>
    obtain rfl : u = Value.bool b := ru
    exact PySem.P.repr_of_bool ⟨.str _, H, I.tok _, ⟨s.toks, by cases b <;> rfl⟩, q⟩
  | int i =>
    obtain ⟨t, rfl⟩ := ru
    exact PySem.P.repr_of_int (of_decide_eq_true sh) ⟨.str _, H, I.tok _, ⟨_, rfl⟩, q⟩
  | str z =>
    obtain ⟨t, rfl⟩ := ru
    have e : PyData.shown (.str z) = reprText z := PyData.shown_str z
    rw [e] at lz q
    refine PySem.P.repr_of_str (x := z) (t := t) ?_ lz
    exact ⟨.str _, H, I.tok _, ⟨_, rfl⟩, q⟩
  | lst h1 h2 => exact ref _ rfl
  | tup h1 h2 => exact ref _ rfl
  | emp h => exact ref _ rfl
theorem cr_reprA (sb : SysB X.base) (gd : X.A.guards = some []) (hu : X.A.units + 65 < cLine) : CallR X (.builtin "repr") (rReprA X.K) := cr_reprG (fun _ _ _ _ I _ _ _ _ ho _ hd z => by
  obtain ⟨_, o2, es, ep, h2, h3, _⟩ := sb
  have h4 := I.bk _ _ h2
  rw [z, h4] at ho
  obtain rfl := Option.some.inj ho
  exact nomatch h3.symm.trans hd) gd hu
end
/-! ### isinstance(e, C), e the exception that the suite holds, whatever its class -/
def rIsEG (K : PySem.W.Frag) (cls : Value) (d : Option Addr) (a : Addr) : List V → Hp → VK → Prop := fun xs H Q => ∃ (D : Addr) (c : V) (cv : Value) (b : Bool), xs = [.ref a, c] ∧ cls = .ref D ∧ ExcI K D ∧ (∃ (dd : Addr) (fs : List (Str × V)), d = some dd ∧ H dd = some (.xd fs)) ∧ (∀ u, RelV c u → u = cv) ∧ PySem.W.kitOne K (.ref D) cv = some b ∧ Q (.bl b) H
theorem call_isEG {X : Cx} {a : Addr} {oe : Obj} {cls : Value} {d : Option Addr} {pn : List (Addr × Obj)} (hz : Zc cls d oe) (hf : ∃ vs, oe.data = .fields vs) : CallR (X.suite a ((a, oe) :: pn)) (.builtin "isinstance") (rIsEG X.K cls d a) := by
  intro pins s σ H xs us Q I r h
  obtain ⟨D, c, cv, b, rfl, ec, C, ⟨dd, fs, ed, hdd⟩, hcv, e, q⟩ := h
  obtain ⟨u1, u2, rfl, r1, r2⟩ := vals2 r
  obtain rfl : u1 = Value.ref a := r1
  obtain rfl := hcv _ r2
  subst ec
  subst ed
  obtain ⟨hget, _⟩ := I.pin (a, oe) (List.mem_append.mpr (.inl List.mem_cons_self))
  obtain ⟨vs, hv⟩ := hf
  have hx : ObjOk X.prog X.w H s.heap dd (.xd fs) := I.hok dd _ hdd
  obtain ⟨od, hod⟩ := (show ∃ o, s.heap.get? dd = some o by
    obtain ⟨mA, ⟨o, es, n, h1, _⟩, _⟩ := hx
    exact ⟨o, h1⟩)
  have J : PySem.W.InstAt s.heap a oe D (some od) := by
    obtain ⟨oc, odi, oda, osl⟩ := oe
    obtain ⟨h1, h2⟩ := hz
    dsimp only at h1 h2 hv
    subst h1 h2 hv
    exact ⟨hget, rfl, rfl, hod⟩
  exact PySem.W.kia_one (PySem.W.kitx_exc C.hl C.hg C.hk C.hs C.ha C.hn C.ht C.hm) I.kIn J e (fun z => nomatch z) fun tk => ⟨.bl b, H, I.tok tk, rfl, q⟩
theorem kit1 {K : PySem.W.Frag} {t c : Value} {b : Bool} (h : PySem.W.kitAny K t [c] = some b) : PySem.W.kitOne K t c = some b := by
  unfold PySem.W.kitAny at h
  split at h
  · rename_i e
    rw [e, h]
  · rename_i e
    rw [e]
    exact h
  · cases h
theorem rel_cls {C : Addr} : ∀ u, RelV (.ref C) u → u = Value.ref C := fun _ h => h
theorem rel_ty {s : String} : ∀ u, RelV (.ty s) u → u = Value.type s := fun _ h => h
end CG

-- lambdas
/-! ### lambdas without parameters as values -/
namespace CG
open PySem PySem.Spec PyProof.Rows L2
/-- what such a lambda is made of -/
structure LF where
  qual : Str
  params : Arguments
  body : Expr
  scope : Scope
  cl : List (Str × Addr)
  c : Addr
abbrev LF.ob (L : LF) (pm ctv : Value) : Obj := PySem.W.kla_obj "<lambda>" L.qual L.params L.body L.scope L.cl pm L.c ctv
/-- the object at f is the lambda L -/
def LamO (f : Addr) (L : LF) : HO := .ext fun h => ∃ pm ctv : Value, h.get? f = some (L.ob pm ctv)
theorem lamO_tbl {f : Addr} {L : LF} (ps : Array Value) : LamO f L ≠ .tbl ps := fun z => HO.noConfusion (show HO.ext _ = HO.tbl ps from z)
abbrev lname (X : Cx) : Str := X.env.qual ++ "<lambda>"
abbrev lfOf (X : Cx) (params : Arguments) (body : Expr) (scope : Scope) (c' : Addr) : LF := ⟨lname X, params, body, scope, cloFrom X.env.cells scope.names [], c'⟩
section
variable {X : Cx} {pins : List (Addr × Obj)} {σ : L2.St} {H : Hp} {s : Shared} {params : Arguments} {body : Expr} {scope : Scope}
/-- a lambda's object, just pushed, is known from now on -/
theorem lam_pushed {L : LF} {pm ctv : Value} {tk : Nat} (I : Inv X pins σ H s) : Inv X pins σ (upd H s.heap.objs.size (LamO s.heap.objs.size L)) { s with heap := s.heap.push (L.ob pm ctv), toks := tk } := by
  have here : (s.heap.push (L.ob pm ctv)).get? s.heap.objs.size = some (L.ob pm ctv) := Heap.get?_push_size _ rfl
  exact I.laid (fun b u q => Heap.get?_push_of_some _ q) (Nat.le_refl _) ⟨⟨pm, ctv, here⟩, ⟨_, here⟩, fun g1 g2 ⟨p, c, z⟩ keep => ⟨p, c, keep _ z⟩⟩
/-- the lambda is made -/
theorem lam_new {T : List (Addr × Str)} {c P : Addr} {pos : Pos} {E : Value → Shared → Prop} {Q : Value → Shared → Prop} (I : Inv X pins σ H s) (TB : LamX.TabB X.base X.mg c P) (hcode : X.env.code = .ref c)
    (hm : (P, lname X) ∈ T) (one : ∀ p ∈ T, p.1 = P → p.2 = lname X) (tabs : LamX.Tabs T H) (hdef : defaultsOf params X.env = ([], [])) (has : ∀ y ∈ scope.names, y.2 = .free → ∃ c, X.env.cells.lookup y.1 = some c)
    (k : ∀ (f c' : Addr) (G : Hp) (s' : Shared), Inv X pins σ G s' → LamX.ExtN H G → LamX.Tabs T G → H f = none → G f = some (LamO f (lfOf X params body scope c')) → G c' = some (LamX.CodeO c' (lname X)) → Q (.ref f) s') :
    wpAny (model X.prog X.w) X.A (eval (.Lambda params body scope pos) X.env) Q E s := by
  obtain ⟨ps, atP, trip, told⟩ := tabs _ hm
  have blt : s.heap.BuiltinsAt X.mg P := TB.bm.keeps I.bk
  have objP : s.heap.get? P = some { cls := .none, data := .fields ps } := I.hok P _ atP
  have hd := TB.code.keeps I.bk
  refine PySem.W.kla_eval hdef ?_
  match found : codeAmong pos ps.toList with
  | some cv =>
    obtain ⟨c', rfl, known⟩ := told pos cv found
    refine PySem.W.kla_makeFunctionHit (mg := X.mg) (c := c) (P := P) (ps := ps) (closure_ok has) I.ok.glob (I.mod.glob.keeps I.bk) hcode hd objP trip found blt fun ctv h' tk grown _ => ?_
    have J : Inv X pins σ H { s with heap := h', toks := tk } := I.kept grown
    have none1 : H h'.objs.size = none := J.hok.fresh (Nat.le_refl _)
    refine k h'.objs.size c' _ _ (lam_pushed (L := lfOf X params body scope c') (tk := tk) (pm := (X.mg "__name__").getD .none) (ctv := ctv) J) (fun b o e _ => ?_) (tabs.ext fun b o e => ?_) none1 upd_same ?_
    · rw [upd_ne (ne_of_none e none1)]
      exact e
    · rw [upd_ne (ne_of_none e none1)]
      exact e
    · rw [upd_ne (ne_of_none known none1)]
      exact known
  | none =>
    refine PySem.W.kla_makeFunction (mg := X.mg) (c := c) (P := P) (ps := ps) (closure_ok has) I.ok.glob (I.mod.glob.keeps I.bk) hcode hd objP trip found TB.gP blt fun c' ctv h' tk butP ge lt rec tabP => ?_
    obtain ⟨c2, oc, vs, t, e2, hoc, hdc, hv⟩ := rec
    obtain rfl := Value.ref.inj e2
    have none0 : H c' = none := I.hok.fresh ge
    have J := LamX.inv_table (t' := tk) (more := #[rawInt pos.line, rawInt pos.col, .ref c']) (h' := h') I atP (fun b o n e => butP b o n e) tabP ge ⟨oc, vs, t, hoc, hdc, hv⟩
    generalize hG : upd (upd H P (.tbl (ps ++ #[rawInt pos.line, rawInt pos.col, .ref c']))) c' (LamX.CodeO c' (lname X)) = G at J
    have nPc : P ≠ c' := ne_of_none atP none0
    have gP : G P = some (.tbl (ps ++ #[rawInt pos.line, rawInt pos.col, .ref c'])) := by rw [← hG, upd_ne nPc, upd_same]
    have gc : G c' = some (LamX.CodeO c' (lname X)) := by rw [← hG, upd_same]
    have gO : ∀ b o, b ≠ P → H b = some o → G b = some o := fun b o n e => by rw [← hG, upd_ne (ne_of_none e none0), upd_ne n]; exact e
    have gX : LamX.ExtN H G := fun b o e n => gO b o (fun z => n ps (Option.some.inj (e.symm.trans (by rw [z]; exact atP)))) e
    have eL : (ps ++ #[rawInt pos.line, rawInt pos.col, .ref c']).toList = ps.toList ++ [rawInt pos.line, rawInt pos.col, .ref c'] := by simp
    have tG : LamX.Tabs T G := fun p hp => by
      by_cases hb : p.1 = P
      · rw [one p hp hb, hb]
        refine ⟨_, gP, by rw [eL]; exact PySem.TriplesOk_snoc _ _ _ _ trip, fun p' cv hcv => ?_⟩
        rw [eL] at hcv
        rcases LamX.among_app _ trip hcv with z | z
        · obtain ⟨c0, a1, a2⟩ := told p' cv z
          exact ⟨c0, a1, gX _ _ a2 LamX.codeO_ne⟩
        · exact ⟨c', z, gc⟩
      · obtain ⟨us, a1, a2, a3⟩ := tabs p hp
        refine ⟨us, gO _ _ hb a1, a2, fun p' cv hcv => ?_⟩
        obtain ⟨c0, b1, b2⟩ := a3 p' cv hcv
        exact ⟨c0, b1, gX _ _ b2 LamX.codeO_ne⟩
    have none1 : G h'.objs.size = none := J.hok.fresh (Nat.le_refl _)
    have none2 : H h'.objs.size = none := I.hok.fresh (Nat.le_trans ge (Nat.le_of_lt lt))
    refine k h'.objs.size c' _ _ (lam_pushed (L := lfOf X params body scope c') (tk := tk) (pm := (X.mg "__name__").getD .none) (ctv := ctv) J) (fun b o e n => ?_) (tG.ext fun b o e => ?_) none2 upd_same ?_
    · have z := gX b o e n
      rw [upd_ne (ne_of_none z none1)]
      exact z
    · rw [upd_ne (ne_of_none e none1)]
      exact e
    · rw [upd_ne (ne_of_none gc none1)]
      exact gc
end
/-- the reading of a lambda: a new object -/
def tLamV (T : List (Addr × Str)) (mk : Addr → LF) : TE := fun _ H Q => LamX.Tabs T H ∧ ∀ (f c' : Addr) (G : Hp), LamX.ExtN H G → LamX.Tabs T G → H f = none → G f = some (LamO f (mk c')) → G c' = some (LamX.CodeO c' (mk c').qual) → Q (.ref f) G
theorem pe_lam {X : Cx} {T : List (Addr × Str)} {c P : Addr} {params : Arguments} {body : Expr} {scope : Scope} {pos : Pos} (TB : LamX.TabB X.base X.mg c P) (hcode : X.env.code = .ref c) (hm : (P, lname X) ∈ T) (one : ∀ p ∈ T, p.1 = P → p.2 = lname X)
    (L : LamX.LamS X.env.scope scope) (hdef : defaultsOf params X.env = ([], [])) : PE X (.Lambda params body scope pos) (tLamV T (lfOf X params body scope)) :=
  ⟨fun pins s σ H Q I ⟨tabs, h⟩ => lam_new I TB hcode hm one tabs hdef (L.has I.ok) fun f c' G s' J eN tG n1 a1 a2 => ⟨.ref f, G, J, rfl, h f c' G eN tG n1 a1 a2⟩⟩
/-- x(), in a def that was entered from the maker's frame X at s -/
theorem pe_act {X : Cx} {pins : List (Addr × Obj)} {σ : L2.St} {H : Hp} {s : Shared} {CXg : CXT} {Eg : XK} {Ng : List Str} {qg : Str} {sg : Scope} {g f c' : Addr} {cdg : Value} {params : Arguments} {body : Expr} {scope : Scope} {k i : Nat} {a : Str} {pn : List (Addr × Obj)}
    {xe : Value → Shared → Prop} {W : WX} {tb : XK → TE} {p1 p2 : Pos} (I : Inv X pins σ H s) (L : LamX.LamS X.env.scope scope)
    (bind : ∀ pm ctv : Value, bindArgs (PySem.W.kla_fn "<lambda>" (lname X) params body scope (cloFrom X.env.cells scope.names []) pm (.ref c') ctv) ⟨[], []⟩ = pure [])
    (tk : Takes ((cxOf CXg X.prog X.w X.K X.mg X.base Ng qg sg g cdg X.A X.stack s H Eg).tr pn xe) W) (room : Room (k + 1) (X.A.deeper (envOfC qg sg s.heap.objs.size g cdg)))
    (hbody : ∀ (A : Around) (outer : List Env) (s : Shared) (H : Hp) (E : XK), Room k (A.deeper (LamX.lamEnv X scope s.heap.objs.size f c')) → PE (LamX.lamCx X A outer s H E scope f c') body (tb E))
    (hN : Ng[i]? = some a) (hv : Vis sg a) (hd : (a == ("__debug__" : Str)) = false := by decide) (hcd : (a == ("__classdict__" : Str)) = false := by decide) :
    PE ((cxOf CXg X.prog X.w X.K X.mg X.base Ng qg sg g cdg X.A X.stack s H Eg).tr pn xe) (.Call (.Name a p1) [] [] p2)
      (fun τ G Q => τ[i]? = some (some (.ref f)) ∧ G f = some (LamO f (lfOf X params body scope c')) ∧ G c' = some (LamX.CodeO c' (lname X)) ∧ ∃ Ec : XK, (∀ cls d G', Ec cls d G' → W cls d τ G') ∧ tb Ec σ G Q) := by
  refine ⟨fun pinsZ sZ τ G Q IZ ⟨slot, isL, isC, Ec, hEc, h⟩ => ?_⟩
  have look := (pe_var (pos := p1) (i := i) hN hv hd hcd).run pinsZ sZ τ G (fun v G1 => v = .ref f ∧ G1 = G) IZ ⟨.ref f, slot, rfl, rfl⟩
  refine wpAny_Call_Name_kw (thn look fun u s1 ⟨v, G1, I1, r1, ev, eG⟩ => ?_)
  subst ev
  rw [eG] at I1
  obtain rfl : u = Value.ref f := r1
  obtain ⟨⟨pm, ctv, obj⟩, _, _⟩ := I1.hok f _ isL
  refine PySem.W.callWith_F0 ⟨_, _, _, _, obj⟩ ?_
  have un : Un (frs X.stack) [] H G s.heap s1.heap := I1.base
  obtain ⟨⟨oc, vs, t, hoc, hdc, hvc⟩, _, _⟩ := I1.hok c' _ isC
  have rc : codeAny (model X.prog X.w) (X.A.deeper (envOfC qg sg s.heap.objs.size g cdg)) (.call (.ref f) ⟨[], []⟩) (CR (L2.CX X.prog X.w) (envOfC qg sg s.heap.objs.size g cdg :: X.stack) X.prog X.w G s1 Q Ec) s1 := by
    refine PySem.W.kla_callFunE room.depth obj rfl L.co L.gen rfl ⟨c', oc, vs, t, rfl, hoc, hdc, hvc⟩ ?_
    rw [bind]
    refine wpAny_pure (wpAny_newFunctionEnv (fun y hy => (L.own y hy).2) (fun y hy => absurd hy List.not_mem_nil) (fun h₁ hns hsb => ⟨I1.nolimit.fresh _ hsb, ?_⟩) L.kind)
    show codeAny _ _ (.expr body (LamX.lamEnv X scope s1.heap.objs.size f c')) _ _
    have kept : ∀ b o, s1.heap.get? b = some o → h₁.get? b = some o := fun b o e => hsb.extBut b o (Nat.ne_of_lt (Heap.lt_size e)) (Heap.get?_push_of_some _ e)
    have J := LamX.lam_start2 (A := X.A.deeper (envOfC qg sg s.heap.objs.size g cdg)) (outer := envOfC qg sg s.heap.objs.size g cdg :: X.stack) (E := Ec) (f := f) (c' := c') (tk := s1.toks + ([] : List (Str × Value)).length) I L I1.env0 room.hd un hns kept
    refine PySem.W.kla_codeExpr (wpAny_mono ((hbody _ _ s1 G Ec (room.deeper _)).run [] _ _ G Q J h) (fun v s' out => ?_) fun e s' out => out)
    obtain ⟨v', G', J', rv, q⟩ := out
    exact ⟨v', G', J'.os, J'.bare, J'.base, J'.hok, rv, q⟩
  refine wpAny_call (codeAny_mono rc fun out s' q => ?_)
  match out, q with
  | .error e, q => exact tk e s' (XE.of_call I1 hEc q)
  | .ok (.ret u), q => exact I1.after q
/-- what a def makes of the lambda that it got: a calls it; Rd: that the lambda is there; tl: the lambda's reading -/
def Gives (P : Program) (w : World) (K : PySem.W.Frag) (mg : Str → Option Value) (base : Heap) (k : Nat) (Ng : List Str) (x a : Str) (st : Stmt) (g : Addr) (TT : (XK → Hp → VK → Prop) → Hp → VK → Prop) : Prop :=
  ∀ (A : Around) (outer : List Env) (cdg : Value) (f : Addr) (s : Shared) (H : Hp) (Q : VK) (Rd : Hp → Prop) (tl : XK → Hp → VK → Prop), A.guards = some [] → Room k (A.deeper (envOfC x (defScope st) s.heap.objs.size g cdg)) →
    (∀ (W : WX) (pn : List (Addr × Obj)) (xe : Value → Shared → Prop) (p1 p2 : Pos), Takes ((cxOf CX0 P w K mg base Ng x (defScope st) g cdg A outer s H fun _ _ _ => False).nox.tr pn xe) W →
      PE ((cxOf CX0 P w K mg base Ng x (defScope st) g cdg A outer s H fun _ _ _ => False).nox.tr pn xe) (.Call (.Name a p1) [] [] p2) (fun τ G Q => τ[0]? = some (some (.ref f)) ∧ Rd G ∧ ∃ Ec : XK, (∀ cls d G', Ec cls d G' → W cls d τ G') ∧ tl Ec G Q)) →
    Rd H → TT tl H Q → ∃ t, PSs (cxOf CX0 P w K mg base Ng x (defScope st) g cdg A outer s H fun _ _ _ => False).nox (defBody st) t ∧ t { nx := fun _ H' => Q .non H', rt := Q } (start Ng [.ref f]) H
/-- the reading of x(e), e one of some lambdas of this very frame -/
def tSaid (X : Cx) {ι : Type} (pa : ι → Arguments) (bo : ι → Expr) (sc : ι → Scope) (tb : ι → XK → TE) (TT : (XK → Hp → VK → Prop) → Hp → VK → Prop) (te : TE) : TE := fun σ H Q => te σ H fun v H1 =>
  ∃ (i : ι) (f c' : Addr), [v] = [V.ref f] ∧ H1 f = some (LamO f (lfOf X (pa i) (bo i) (sc i) c')) ∧ H1 c' = some (LamX.CodeO c' (lname X)) ∧ TT (fun E G R => tb i E σ G R) H1 Q
/-- x(e), e one of some lambdas of this very frame -/
theorem pe_said {X : Cx} {ι : Type} {pa : ι → Arguments} {bo : ι → Expr} {sc : ι → Scope} {tb : ι → XK → TE} {x a : Str} {st : Stmt} {g : Addr} {fd : FuncData} {Ng : List Str} {k : Nat} {TT : (XK → Hp → VK → Prop) → Hp → VK → Prop} {e : Expr} {te : TE} {p pos : Pos}
    (F : Fun X.K x x st g fd) (b : Binds X.K fd [a] []) (S : FnScope Ng [a] (defScope st)) (hg : Gl X x) (hm : X.mg x = some (.ref g)) (n0 : Ng[0]? = some a) (va : Vis (defScope st) a) (gives : Gives X.prog X.w X.K X.mg X.base k Ng x a st g TT) (gd : X.A.guards = some []) (room : Room (k + 2) X.A)
    (lam : ∀ i, LamX.LamS X.env.scope (sc i)) (bind : ∀ (i : ι) (q : Str) (cl : List (Str × Addr)) (pm cv ctv : Value), bindArgs (PySem.W.kla_fn "<lambda>" q (pa i) (bo i) (sc i) cl pm cv ctv) ⟨[], []⟩ = pure [])
    (hbody : ∀ (i : ι) (A : Around) (outer : List Env) (s : Shared) (H : Hp) (E : XK) (f c' : Addr), Room k (A.deeper (LamX.lamEnv X (sc i) s.heap.objs.size f c')) → PE (LamX.lamCx X A outer s H E (sc i) f c') (bo i) (tb i E))
    (he : PE X e te) (hdb : (x == ("__debug__" : Str)) = false := by decide) (hd : (a == ("__debug__" : Str)) = false := by decide) (hcd : (a == ("__classdict__" : Str)) = false := by decide)
    (hst : starEach [e] X.env = (false, eval e X.env) :: starEach [] X.env := by rfl) (hpl : (backTo pos (starEach [] X.env)).any (·.1) = false := by rfl) :
    PE X (.Call (.Name x p) [e] [] pos) (tSaid X pa bo sc tb TT te) := by
  refine ⟨fun pins s σ H Q I h => ?_⟩
  obtain ⟨oc, od, kV, doc, pm, an, cdv, ct, osl, rfl, lk, hcd0⟩ := F.ex
  have arg : PA X [e] (tCons te tNil) := pa_cons (hs := hst) he pa_nil
  have h2 : tCons te tNil σ H (fun vs H1 => ∃ (i : ι) (f c' : Addr), vs = [.ref f] ∧ H1 f = some (LamO f (lfOf X (pa i) (bo i) (sc i) c')) ∧ H1 c' = some (LamX.CodeO c' (lname X)) ∧ TT (fun E G R => tb i E σ G R) H1 Q) := h
  refine wpAny_Call_Name_kw (ld_glob I hg hm (PySem.W.callWith_K (h₀ := X.base) I.ok.mod.kin F.kp (thn (arg.run pos pins s σ H _ I h2) fun us s1 hh => ?_) hst hpl) hdb)
  obtain ⟨vs, H1, I1, r, i, f, c', rfl, isL, isC, tt⟩ := hh
  rw [Vals.ref1 r]
  refine ⟨I1.kIn, ?_⟩
  have rc : codeAny (model X.prog X.w) X.A (.call (.ref g) ⟨[.ref f], []⟩) (CR CX0 X.stack X.prog X.w H1 s1 Q fun _ _ _ => False) s1 := by
    refine LamX.run_ofS (k := k + 1) (N := Ng) (ps := [a]) (us := [.ref f]) (vs := [.ref f]) lk hcd0 S room I1.env0 (b s1 [.ref f] I1.kIn rfl) (.cons rfl .nil) rfl fun inner => ?_
    obtain ⟨t, ht, q⟩ := gives X.A X.stack cdv f s1 H1 Q (fun G => G f = some (LamO f (lfOf X (pa i) (bo i) (sc i) c')) ∧ G c' = some (LamX.CodeO c' (lname X))) (fun E G R => tb i E σ G R) gd (inner.mono (Nat.le_succ k))
      (fun W pn xe p1 p2 tk => ⟨fun pins s τ G R J z => (pe_act (CXg := CX0) (Eg := fun _ _ _ => False) (i := 0) I1 (lam i) (fun pm ctv => bind i _ _ _ _ _) tk inner (fun A outer s H E => hbody i A outer s H E f c') n0 va hd hcd).run pins s τ G R J ⟨z.1, z.2.1.1, z.2.1.2, z.2.2⟩⟩) ⟨isL, isC⟩ tt
    exact ⟨t, ht.nox, q⟩
  refine wpAny_call (codeAny_mono rc fun out s2 q => ?_)
  match out, q with
  | .error err, q => exact (show False from q).elim
  | .ok (.ret u), q => exact I1.after q
/-- the reading of x(lambda: ..): the table of code objects at P -/
def tSaid1 (X : Cx) (P : Addr) (tb : XK → TE) (TT : (XK → Hp → VK → Prop) → Hp → VK → Prop) : TE := fun σ H Q =>
  LamX.Tabs [(P, lname X)] H ∧ ∀ G, LamX.ExtN H G → LamX.Tabs [(P, lname X)] G → TT (fun E G R => tb E σ G R) G Q
/-- x(lambda: ..) -/
theorem pe_said1 {X : Cx} {tb : XK → TE} {x a : Str} {st : Stmt} {g c P : Addr} {fd : FuncData} {Ng : List Str} {k : Nat} {TT : (XK → Hp → VK → Prop) → Hp → VK → Prop} {params : Arguments} {body : Expr} {scope : Scope} {p lpos pos : Pos}
    (F : Fun X.K x x st g fd) (b : Binds X.K fd [a] []) (S : FnScope Ng [a] (defScope st)) (hg : Gl X x) (hm : X.mg x = some (.ref g)) (n0 : Ng[0]? = some a) (va : Vis (defScope st) a) (gives : Gives X.prog X.w X.K X.mg X.base k Ng x a st g TT) (gd : X.A.guards = some []) (room : Room (k + 2) X.A)
    (TB : LamX.TabB X.base X.mg c P) (hcode : X.env.code = .ref c)
    (hbody : ∀ (A : Around) (outer : List Env) (s : Shared) (H : Hp) (E : XK) (f c' : Addr), Room k (A.deeper (LamX.lamEnv X scope s.heap.objs.size f c')) → PE (LamX.lamCx X A outer s H E scope f c') body (tb E))
    (lam : LamX.LamS X.env.scope scope) (hdef : defaultsOf params X.env = ([], []) := by rfl) (bind : ∀ (q : Str) (cl : List (Str × Addr)) (pm cv ctv : Value), bindArgs (PySem.W.kla_fn "<lambda>" q params body scope cl pm cv ctv) ⟨[], []⟩ = pure [] := by intros; rfl)
    (hdb : (x == ("__debug__" : Str)) = false := by decide) (hd : (a == ("__debug__" : Str)) = false := by decide) (hcd : (a == ("__classdict__" : Str)) = false := by decide)
    (hst : starEach [Expr.Lambda params body scope lpos] X.env = (false, eval (Expr.Lambda params body scope lpos) X.env) :: starEach [] X.env := by rfl) (hpl : (backTo pos (starEach [] X.env)).any (·.1) = false := by rfl) :
    PE X (.Call (.Name x p) [.Lambda params body scope lpos] [] pos) (tSaid1 X P tb TT) := by
  have he : PE X (.Lambda params body scope lpos) (tLamV [(P, lname X)] (lfOf X params body scope)) := pe_lam TB hcode (List.mem_singleton.mpr rfl) (fun p hp _ => by rw [List.mem_singleton.mp hp]) lam hdef
  refine ⟨fun pins s σ H Q I h => ?_⟩
  refine (pe_said (ι := Unit) (pa := fun _ => params) (bo := fun _ => body) (sc := fun _ => scope) (tb := fun _ => tb) (TT := TT) F b S hg hm n0 va gives gd room (fun _ => lam) (fun _ => bind) (fun _ => hbody) he hdb hd hcd hst hpl).run pins s σ H Q I ?_
  exact ⟨h.1, fun f c' G eN tG _ a1 a2 => ⟨(), f, c', rfl, a1, a2, h.2 G eN tG⟩⟩
end CG

/-! ### defs that make lambdas, and the end where they stand -/
namespace CG
open PySem PySem.Spec PyProof.Rows L2
section
variable {P : Program} {w : World} {K : PySem.W.Frag} {mg : Str → Option Value} {base : Heap}
/-- a def by its body, where nothing is being printed and its code object is known -/
theorem okGT {x qual : Str} {st : Stmt} {f c : Addr} {fd : FuncData} {N ps : List Str} {k : Nat} {sp : Sp} (F : Fun K x qual st f fd) (at_c : fd.code = .ref c) (S : FnScope N ps (defScope st)) (len : ∀ vs H Q E, sp vs H Q E → vs.length = ps.length)
    (body : ∀ (A : Around) (fr : List Env) (s : Shared) (H : Hp) (vs : List V) (Q : VK) (E : XK), A.guards = some [] → Room k (A.deeper (envOfC qual (defScope st) s.heap.objs.size f (.ref c))) → sp vs H Q E →
      ∃ t, PSs (cxOf CX0 P w K mg base N qual (defScope st) f (.ref c) A fr s H E).nox (defBody st) t ∧ t { nx := fun _ H' => Q .non H', rt := Q } (start N vs) H) : FnOkG P w K mg base (k + 1) f fd ps sp := by
  obtain ⟨o1, o2, d1, d2, d3, o3, cd, ct, o4, rfl, look, code⟩ := F.ex
  obtain rfl : cd = .ref c := at_c
  refine ⟨len, fun A fr s H as us vs Q E gd room en bind rel want => ?_⟩
  have kin : K.In s.heap := en.mod.kin.keeps fun b o e => (en.bs b o e).1
  have lim := en.mod.nolimit.keeps fun b o e => (en.bs b o e).1
  have kinds : ∀ y ∈ ps.zip us, (defScope st).names.lookup y.1 = some .local ∨ ((defScope st).names.lookup y.1 = some .cell ∧ ((cellsFrom (s.heap.objs.size + 1) (defScope st).names []).lookup y.1).isSome = true) := fun ⟨n, v⟩ hy =>
    (S.par n (List.of_mem_zip hy).1).imp id fun q => ⟨q, PySem.W.cellsFrom_some _ _ _ (.inl q)⟩
  refine codeAny_call_function room.depth (kin _ _ look) rfl S.co S.gen rfl (PySem.W.codeRec_of kin code) (bind _ _ _ _ ?_)
  refine wpAny_newFunctionEnv_cells S.kind kinds fun env isEnv s1 entry => ?_
  subst isEnv
  refine ⟨lim.keeps entry.toInCall.keep, codeAny_func ?_⟩
  obtain ⟨t, rule, reading⟩ := body A fr s H vs Q E gd (room.deeper _) want
  have begins := inv_start (CX := CX0) (E := E) S room.hd en (len _ _ _ _ want) rel entry
  refine wpAny_mono (rule.nox.run [] s1 (start N vs) H _ begins reading) (fun fl s' out => ?_) fun e s' out => out
  match fl, out with
  | .ret u, ⟨v, _, H', J, rv, q⟩ => exact ⟨v, H', J.os, J.bare, J.base, J.hok, rv, q⟩
  | .next, ⟨_, H', J, q⟩ => exact ⟨V.non, H', J.os, J.bare, J.base, J.hok, rfl, q⟩
  | .brk, ⟨_, _, _, q⟩ => exact q.elim
  | .cont, ⟨_, _, _, q⟩ => exact q.elim
end
/-- the code object and its empty table of the def that stands at fa -/
def TabAt (h : Heap) (mg : Str → Option Value) (x : Str) : Prop := ∃ (a : Addr) (o : Obj) (fd : FuncData) (c P : Addr), mg x = some (.ref a) ∧ h.get? a = some o ∧ o.data = .func fd ∧ fd.code = .ref c ∧ PySem.W.CodeHd h c P ∧ h.get? P = some { cls := .none, data := .fields #[] }
theorem tab_by {h : Heap} {mg : Str → Option Value} {l : List DefRec} {x : Str} (tabs : ∀ r ∈ l, TabAt h mg r.name) (m : x ∈ l.map (·.name)) : TabAt h mg x := by
  obtain ⟨r, hr, rfl⟩ := List.mem_map.mp m
  exact tabs r hr
/-- where a def's data are known, so is its code object -/
theorem TabAt.at {h : Heap} {mg : Str → Option Value} {K : PySem.W.Frag} {x qual : Str} {st : Stmt} {f : Addr} {fd : FuncData} (t : TabAt h mg x) (inK : K.In h) (m : mg x = some (.ref f)) (F : Fun K x qual st f fd) :
    ∃ c P, fd.code = .ref c ∧ PySem.W.CodeHd h c P ∧ h.get? P = some { cls := .none, data := .fields #[] } := by
  obtain ⟨a, o, fd2, c, P, m2, at_a, isF, isC, hd, tab⟩ := t
  obtain ⟨_, _, _, _, _, _, _, _, _, rfl, look, _⟩ := F.ex
  obtain rfl : f = a := Value.ref.inj (Option.some.inj (m.symm.trans m2))
  obtain rfl := Option.some.inj ((inK _ _ look).symm.trans at_a)
  obtain rfl := Data.func.inj isF
  exact ⟨c, P, isC, hd, tab⟩
/-- no table of code objects stands in the part -/
def noTab (K : PySem.W.Frag) : Bool := K.all fun p => match p.2.cls, p.2.data with
  | .none, .fields _ => false
  | _, _ => true
theorem noTab_at {K : PySem.W.Frag} {h : Heap} {P : Addr} (inK : K.In h) (n : noTab K = true) (e : h.get? P = some { cls := .none, data := .fields #[] }) : K.lookup P = none := by
  cases l : K.lookup P with
  | none => rfl
  | some o =>
    obtain rfl := Option.some.inj ((inK _ _ l).symm.trans e)
    have := List.all_eq_true.mp n (P, { cls := .none, data := .fields #[] }) (PySem.W.mem_of_lookupK l)
    exact nomatch (show false = true from this)
/-- the law at its script, from a promise of that kind, the tables of code objects known -/
theorem law_callGT {P : Program} {w : World} {K : PySem.W.Frag} {mg mb : Str → Option Value} {k : Nat} {fa a : Addr} {ts : List (Addr × Addr)} {fd : FuncData} {x : Str} {sp : Sp} {s₁ : Shared} {us : List Value} {ms : List Int}
    (inK : K.In s₁.heap) (g1 : s₁.heap.Ns mainGlobals mg) (g2 : s₁.heap.Ns builtinsNs mb) (g3 : ∀ x : Str, x ≠ "__name__" → mb x = bootBuiltins x) (g4 : s₁.heap.NoLimit) (g5 : s₁.gens = #[])
    (empty : ∀ p ∈ ts, s₁.heap.get? p.2 = some { cls := .none, data := .fields #[] }) (offK : ∀ p ∈ ts, K.lookup p.2 = none) (codes : ∀ p ∈ ts, PySem.W.CodeHd s₁.heap p.1 p.2)
    (main : ∃ (bm : Addr) (ob : Obj), mg "__builtins__" = some (.ref bm) ∧ bm ≠ builtinsNs ∧ s₁.heap.get? bm = some ob ∧ ob.cls = .type "module" ∧ ob.dict = some builtinsNs ∧ ob.data = .plain)
    (at_a : s₁.heap.get? a = some { cls := .type "list", data := .seq us.toArray }) (are : IntsAre us ms) (short : ms.length ≤ sizeLine) (room : Room k callerA)
    (F : ∀ base : Heap, K.In base → base.Ns mainGlobals mg → (∀ p ∈ ts, LamX.TabB base mg p.1 p.2) → (∀ b m, s₁.heap.Ns b m → base.Ns b m) → FnOkG P w K mg base k fa fd [x] sp) (bind : ∀ (s : Shared) (u : Value), BindsTo s fd ⟨[u], []⟩ [(x, u)])
    (want : ∀ H : Hp, (∀ p ∈ ts, H p.2 = some (.tbl #[])) → SqL K H a (ms.map V.int) → sp [.ref a] H (fun v _ => v = .bl true) fun _ _ _ => False) :
    codeAny (model P w) callerA (.call (.ref fa) ⟨[.ref a], []⟩) (fun r s' => r = .ok (.ret (.bool true)) ∧ OldK s₁.heap s'.heap ∧ s'.os = s₁.os ∧ AllBare s'.gens) s₁ := by
  have vals := vals_ints are
  have many := are.length
  let tb : List Addr := ts.map (·.2)
  have isT : ∀ b ∈ tb, s₁.heap.get? b = some { cls := .none, data := .fields #[] } := fun b hb => by
    obtain ⟨p, hp, rfl⟩ := List.mem_map.mp hb
    exact empty p hp
  have inT : ∀ p ∈ ts, p.2 ∈ tb := fun p hp => List.mem_map.mpr ⟨p, hp, rfl⟩
  have aT : a ∉ tb := fun z => by
    have q := (isT a z).symm.trans at_a
    exact nomatch (congrArg Obj.data (Option.some.inj q) : Data.fields #[] = Data.seq us.toArray _)
  have core : ∀ H : Hp, (∀ p ∈ ts, H p.2 = some (.tbl #[])) → (∀ b, H b = none ∨ b ∈ tb ∨ ∃ o xs, H b = some (.frz o (.lst xs))) → SqL K H a (ms.map V.int) → HOk P w H s₁.heap → (∀ b, H b ≠ none → b = a ∨ b ∈ tb) → (H a ≠ none → K.lookup a = none) →
      codeAny (model P w) callerA (.call (.ref fa) ⟨[.ref a], []⟩) (fun r s' => r = .ok (.ret (.bool true)) ∧ OldK s₁.heap s'.heap ∧ s'.os = s₁.os ∧ AllBare s'.gens) s₁ := by
    intro H atT only seq hok just out
    have off : ∀ {b : Addr} {o : Obj}, s₁.heap.get? b = some o → (∀ vs n, o.data ≠ .seq vs n) → o.data ≠ .fields #[] → (hidT s₁.heap H).get? b = some o := fun {b o} e n1 n2 => hidT_get e (Classical.byContradiction fun z => by
      rcases just b z with rfl | hb
      · obtain rfl := Option.some.inj (at_a.symm.trans e)
        exact n1 _ _ rfl
      · obtain rfl := Option.some.inj ((isT b hb).symm.trans e)
        exact n2 rfl)
    have dicts : ∀ {b : Addr} {o : Obj} {es : Array DictEntry} {n : Nat}, s₁.heap.get? b = some o → o.data = .dict es n → (hidT s₁.heap H).get? b = some o := fun {b o es n} e d => off e (fun vs m z => nomatch d.symm.trans z) fun z => nomatch d.symm.trans z
    have names : ∀ {b : Addr} {m : Str → Option Value}, s₁.heap.Ns b m → (hidT s₁.heap H).Ns b m := fun {b m} ⟨o, es, n, e, d, r⟩ => ⟨o, es, n, dicts e d, d, r⟩
    have inB : K.In (hidT s₁.heap H) := fun b o e => hidT_get (inK b o e) (Classical.byContradiction fun z => by
      rcases just b z with rfl | hb
      · rw [out z] at e
        cases e
      · obtain ⟨p, hp, rfl⟩ := List.mem_map.mp hb
        rw [offK p hp] at e
        cases e)
    have known : Mod K mg (hidT s₁.heap H) := ⟨inB, names g1, ⟨mb, names g2, g3⟩, g4.elim fun mc z => ⟨mc, names z.1, z.2⟩⟩
    have made : ∀ p ∈ ts, LamX.TabB (hidT s₁.heap H) mg p.1 p.2 := fun p hp => by
      have here := empty p hp
      have notG : mainGlobals ≠ p.2 := fun z => by
        obtain ⟨o, es, n, e, d, _⟩ := g1
        rw [z] at e
        obtain rfl := Option.some.inj (here.symm.trans e)
        exact nomatch d
      refine ⟨?_, ?_, notG⟩
      · obtain ⟨o, vs, fl, tf, fg, tg, nf, tx, tt, e1, r1, r2, r3, r⟩ := codes p hp
        refine ⟨o, vs, fl, tf, fg, tg, nf, tx, tt, off e1 (fun _ _ z => nomatch r2.symm.trans z) (fun z => ?_), r1, r2, r3, r⟩
        obtain rfl := Data.fields.inj (r2.symm.trans z)
        exact absurd r3 (by simp)
      · obtain ⟨bm, ob, b1, b2, b3, b4, b5, b6⟩ := main
        refine ⟨bm, ob, b1, b2, fun z => ?_, fun z => ?_, off b3 (fun _ _ z => nomatch b6.symm.trans z) (fun z => nomatch b6.symm.trans z), b4, b5, b6⟩
        · obtain ⟨o, es, n, e, d, _⟩ := g1
          rw [z] at b3
          obtain rfl := Option.some.inj (b3.symm.trans e)
          exact nomatch b6.symm.trans d
        · rw [z] at b3
          obtain rfl := Option.some.inj (b3.symm.trans here)
          exact nomatch b6
    have entry : Env0 P w K mg (hidT s₁.heap H) callerA [] s₁ H := ⟨rfl, known, fun b o e => of_hidT e, Nat.le_of_eq (hidT_size _ _), trivial, fun b z => (List.not_mem_nil z).elim, hok, .of_eq g5⟩
    refine codeAny_mono ((F _ inB (names g1) made fun _ _ => names).go callerA [] s₁ H ⟨[.ref a], []⟩ [.ref a] [.ref a] _ _ rfl room entry (bind s₁ (.ref a)) (.cons rfl .nil) (want H atT seq)) fun r s' h => ?_
    match r, h with
    | .ok (.ret u), ⟨v, H', os, bare, un, hok', rel, (q : v = .bl true)⟩ =>
      subst q
      obtain rfl : u = Value.bool true := rel
      have stays : ∀ b o, b ∉ tb → s₁.heap.get? b = some o → s'.heap.get? b = some o := fun b o nb e => by
        rcases only b with z | z | ⟨ob, xs, z⟩
        · exact un.keep b o e z (fun m => (List.not_mem_nil m).elim) (by simp)
        · exact absurd z nb
        · have e1 := (hok b _ z).1
          have e2 := (hok' b _ (un.frzs b ob _ z)).1
          obtain rfl := Option.some.inj (e.symm.trans e1)
          exact e2
      have grown : ∀ p ∈ ts, ∃ more : Array Value, s'.heap.get? p.2 = some { cls := .none, data := .fields more } := fun p hp => by
        obtain ⟨more, z⟩ := un.tbls p.2 #[] (atT p hp)
        exact ⟨_, hok' p.2 _ z⟩
      refine ⟨rfl, ⟨fun b o e => ?_, fun b o e => ?_⟩, os, bare⟩
      · rcases Classical.em (b ∈ tb) with hb | hb
        · obtain ⟨p, hp, rfl⟩ := List.mem_map.mp hb
          obtain ⟨more, hm⟩ := grown p hp
          obtain rfl := Option.some.inj ((empty p hp).symm.trans e)
          exact .inr (.inl ⟨((codes p hp).tab (empty p hp)).isCodeTable, rfl, #[], more, rfl, by rw [Array.empty_append]; exact hm⟩)
        · exact .inl (stays b o hb e)
      · rcases Classical.em (b ∈ tb) with hb | hb
        · obtain ⟨p, hp, rfl⟩ := List.mem_map.mp hb
          obtain ⟨more, hm⟩ := grown p hp
          exact ⟨_, hm⟩
        · exact ⟨o, stays b o hb e⟩
  cases look : K.lookup a with
  | some o =>
    obtain rfl := Option.some.inj (at_a.symm.trans (inK a o look))
    let G : Hp := fun b => if b ∈ tb then some (.tbl #[]) else none
    have gT : ∀ b ∈ tb, G b = some (.tbl #[]) := fun b hb => if_pos hb
    have gN : ∀ b, b ∉ tb → G b = none := fun b hb => if_neg hb
    refine core G (fun p hp => gT _ (inT p hp)) (fun b => ?_) (.inr ⟨_, us.toArray, _, look, rfl, rfl, rfl, by simpa [many] using short, by simpa using vals⟩) (fun b u z => ?_) (fun b z => .inr (Classical.byContradiction fun n => z (gN b n))) fun z => (z (gN a aT)).elim
    · exact (Classical.em (b ∈ tb)).elim (fun h => .inr (.inl h)) fun h => .inl (gN b h)
    · rcases Classical.em (b ∈ tb) with h | h
      · obtain rfl := Option.some.inj ((gT b h).symm.trans z)
        exact isT b h
      · exact absurd ((gN b h).symm.trans z) (fun e => nomatch e)
  | none =>
    let O : Obj := { cls := .type "list", data := .seq us.toArray }
    let G : Hp := fun b => if b = a then some (.frz O (.lst (ms.map V.int))) else if b ∈ tb then some (.tbl #[]) else none
    have gA : G a = some (.frz O (.lst (ms.map V.int))) := if_pos rfl
    have gT : ∀ b ∈ tb, G b = some (.tbl #[]) := fun b hb => (if_neg (fun z : b = a => aT (z ▸ hb))).trans (if_pos hb)
    have gN : ∀ b, b ≠ a → b ∉ tb → G b = none := fun b n hb => (if_neg n).trans (if_neg hb)
    refine core G (fun p hp => gT _ (inT p hp)) (fun b => ?_) (.inl (.inr ⟨O, gA⟩)) (fun b u z => ?_) (fun b z => ?_) fun _ => look
    · rcases Decidable.em (b = a) with rfl | n
      · exact .inr (.inr ⟨_, _, gA⟩)
      · exact (Classical.em (b ∈ tb)).elim (fun h => .inr (.inl h)) fun h => .inl (gN b n h)
    · rcases Decidable.em (b = a) with rfl | n
      · obtain rfl := Option.some.inj (gA.symm.trans z)
        exact ⟨at_a, by rw [List.length_map]; exact short, us, _, vals, at_a⟩
      · rcases Classical.em (b ∈ tb) with h | h
        · obtain rfl := Option.some.inj ((gT b h).symm.trans z)
          exact isT b h
        · exact absurd ((gN b n h).symm.trans z) (fun e => nomatch e)
    · rcases Decidable.em (b = a) with rfl | n
      · exact .inl rfl
      · exact .inr (Classical.byContradiction fun h => z (gN b n h))
/-- a law's end, from a promise of that kind -/
theorem walk_ofGT {l : PySem.W.OpenLaw} {n k : Nat} {q : Program} {loose : List Str} {XP : (Str → Option Value) → Heap → Prop} {YP : World → Heap → Prop} {d : DefRec} {x : Str}
    (most : l.most = some n) (small : n ≤ sizeLine) (plain : d.params.defaults = []) (room : Room k callerA)
    (F : ∀ (w : World) (mg : Str → Option Value) (fa : Addr) (h : Heap), YP w h → h.Ns mainGlobals mg → mg d.name = some (.ref fa) → (∀ r ∈ recsOf q, TabAt h mg r.name) → (importsNone q = true → h.NoSeer) →
      ∃ (K : PySem.W.Frag) (fd : FuncData) (sp : Sp) (ts : List (Addr × Addr)), K.In h ∧ (∀ p ∈ ts, h.get? p.2 = some { cls := .none, data := .fields #[] }) ∧ (∀ p ∈ ts, K.lookup p.2 = none) ∧ (∀ p ∈ ts, PySem.W.CodeHd h p.1 p.2) ∧ (∀ (s : Shared) (u : Value), BindsTo s fd ⟨[u], []⟩ [(x, u)]) ∧
        (∀ (H : Hp) (a : Addr) (ms : List Int), ms.length ≤ n → (∀ p ∈ ts, H p.2 = some (.tbl #[])) → SqL K H a (ms.map V.int) → sp [.ref a] H (fun v _ => v = .bl true) fun _ _ _ => False) ∧
        ∀ base : Heap, K.In base → base.Ns mainGlobals mg → (∀ p ∈ ts, LamX.TabB base mg p.1 p.2) → (∀ b m, h.Ns b m → base.Ns b m) → FnOkG l.prog w K mg base k fa fd [x] sp) :
    PySem.W.WalkO q loose XP YP l.row.toRowW d [] (fun f vs => PySem.call f vs) :=
  Att.attach_call most plain fun w s₀ s₁ mg mb fa o pm cd doc a us ms G Y ho hd hcd named at_a are len gens => by
    have tabs : ∀ r ∈ recsOf q, TabAt s₁.heap mg r.name := fun r hr => by
      obtain ⟨b, u, fd, c, P, m, e1, e2, e3, e4, e5⟩ := G.T.tab r hr
      refine ⟨b, u, fd, c, P, m, e1, e2, e3, PySem.W.CodeHd.of e4 e5, ?_⟩
      exact e5.2
    obtain ⟨K, fd, sp, ts, inK, t1, t2, t3, bind, want, prom⟩ := F w mg fa _ Y G.T.g named tabs G.T.seer
    exact law_callGT inK G.T.g G.T.b G.T.builtins G.T.nolimit gens t1 t2 t3 G.T.bmain at_a are (Nat.le_trans len small) room prom bind fun H atT seq => want H a ms len atT seq
end CG

/-! ### lambdas that are kept, and called later in the same frame -/
-- lambdas
namespace CG
open PySem PySem.Spec PyProof.Rows L2
/-- what a lambda of this frame makes when it is called: tb -/
def LamOk (X : Cx) (k : Nat) (pa : Arguments) (bo : Expr) (sc : Scope) (tb : XK → TE) : Prop :=
  LamX.LamS X.env.scope sc ∧ (∀ (q : Str) (cl : List (Str × Addr)) (pm cv ctv : Value), bindArgs (PySem.W.kla_fn "<lambda>" q pa bo sc cl pm cv ctv) ⟨[], []⟩ = pure []) ∧
  ∀ (A : Around) (outer : List Env) (s : Shared) (H : Hp) (E : XK) (f c' : Addr), Room k (A.deeper (LamX.lamEnv X sc s.heap.objs.size f c')) → PE (LamX.lamCx X A outer s H E sc f c') bo (tb E)
/-- the lambda of X at f: its object, its code object, what it makes -/
def LamAt (X : Cx) (k : Nat) (H : Hp) (f : Addr) (tb : XK → TE) : Prop := ∃ (pa : Arguments) (bo : Expr) (sc : Scope) (c' : Addr), H f = some (LamO f (lfOf X pa bo sc c')) ∧ H c' = some (LamX.CodeO c' (lname X)) ∧ LamOk X k pa bo sc tb
def tLamK (X : Cx) (k : Nat) (P : Addr) (tb : XK → TE) : TE := fun _ H Q => LamX.Tabs [(P, lname X)] H ∧ ∀ (f : Addr) (G : Hp), LamX.ExtN H G → LamX.Tabs [(P, lname X)] G → H f = none → LamAt X k G f tb → Q (.ref f) G
theorem pe_lamK {X : Cx} {c P : Addr} {k : Nat} {tb : XK → TE} {params : Arguments} {body : Expr} {scope : Scope} {pos : Pos} (TB : LamX.TabB X.base X.mg c P) (hcode : X.env.code = .ref c)
    (hbody : ∀ (A : Around) (outer : List Env) (s : Shared) (H : Hp) (E : XK) (f c' : Addr), Room k (A.deeper (LamX.lamEnv X scope s.heap.objs.size f c')) → PE (LamX.lamCx X A outer s H E scope f c') body (tb E))
    (lam : LamX.LamS X.env.scope scope) (hdef : defaultsOf params X.env = ([], []) := by rfl) (bind : ∀ (q : Str) (cl : List (Str × Addr)) (pm cv ctv : Value), bindArgs (PySem.W.kla_fn "<lambda>" q params body scope cl pm cv ctv) ⟨[], []⟩ = pure [] := by intros; rfl) :
    PE X (.Lambda params body scope pos) (tLamK X k P tb) := by
  refine ⟨fun pins s σ H Q I h => ?_⟩
  refine (pe_lam (T := [(P, lname X)]) TB hcode (List.mem_singleton.mpr rfl) (fun p hp _ => by rw [List.mem_singleton.mp hp]) lam hdef).run pins s σ H Q I ?_
  exact ⟨h.1, fun f c' G eN tG n a1 a2 => h.2 f G eN tG n ⟨params, body, scope, c', a1, a2, lam, bind, hbody⟩⟩
/-- X is Y in another place of the same frame -/
def SameX (X Y : Cx) : Prop := X.prog = Y.prog ∧ X.w = Y.w ∧ X.K = Y.K ∧ X.mg = Y.mg ∧ X.base = Y.base ∧ X.N = Y.N ∧ X.env = Y.env
theorem LamAt.same {X Y : Cx} {k : Nat} {H : Hp} {f : Addr} {tb : XK → TE} (e : SameX X Y) (h : LamAt Y k H f tb) : LamAt X k H f tb := by
  obtain ⟨e1, e2, e3, e4, e5, e6, e7⟩ := e
  have hl : lname X = lname Y := by unfold lname; rw [e7]
  have hf : ∀ pa bo sc c', lfOf X pa bo sc c' = lfOf Y pa bo sc c' := fun pa bo sc c' => by unfold lfOf lname; rw [e7]
  have he : ∀ sc L f c', LamX.lamEnv X sc L f c' = LamX.lamEnv Y sc L f c' := fun sc L f c' => by unfold LamX.lamEnv; rw [e7]
  have hx : ∀ A outer s H E sc f c', LamX.lamCx X A outer s H E sc f c' = LamX.lamCx Y A outer s H E sc f c' := fun A outer s H E sc f c' => by
    unfold LamX.lamCx LamX.lamEnv
    rw [e1, e2, e3, e4, e5, e6, e7]
  obtain ⟨pa, bo, sc, c', a1, a2, a3, a4, a5⟩ := h
  refine ⟨pa, bo, sc, c', by rw [hf]; exact a1, by rw [hl]; exact a2, by rw [e7]; exact a3, a4, fun A outer s H E f c' r => ?_⟩
  rw [hx]
  exact a5 A outer s H E f c' (by rw [← he]; exact r)
/-- the reading of x(e), e a lambda of this frame -/
def tSaidK (Y : Cx) (k : Nat) (TT : (XK → Hp → VK → Prop) → Hp → VK → Prop) (te : TE) : TE := fun σ H Q => te σ H fun v H1 =>
  ∃ (f : Addr) (tb : XK → TE), [v] = [V.ref f] ∧ LamAt Y k H1 f tb ∧ TT (fun E G R => tb E σ G R) H1 Q
theorem pe_saidK {X : Cx} (Y : Cx) (same : SameX X Y) {x a : Str} {st : Stmt} {g : Addr} {fd : FuncData} {Ng : List Str} {k : Nat} {TT : (XK → Hp → VK → Prop) → Hp → VK → Prop} {e : Expr} {te : TE} {p pos : Pos}
    (F : Fun X.K x x st g fd) (b : Binds X.K fd [a] []) (S : FnScope Ng [a] (defScope st)) (hg : Gl X x) (hm : X.mg x = some (.ref g)) (n0 : Ng[0]? = some a) (va : Vis (defScope st) a) (gives : Gives X.prog X.w X.K X.mg X.base k Ng x a st g TT) (gd : X.A.guards = some []) (room : Room (k + 2) X.A)
    (he : PE X e te) (hdb : (x == ("__debug__" : Str)) = false := by decide) (hd : (a == ("__debug__" : Str)) = false := by decide) (hcd : (a == ("__classdict__" : Str)) = false := by decide)
    (hst : starEach [e] X.env = (false, eval e X.env) :: starEach [] X.env := by rfl) (hpl : (backTo pos (starEach [] X.env)).any (·.1) = false := by rfl) :
    PE X (.Call (.Name x p) [e] [] pos) (tSaidK Y k TT te) := by
  refine ⟨fun pins s σ H Q I h => ?_⟩
  obtain ⟨oc, od, kV, doc, pm, an, cdv, ct, osl, rfl, lk, hcd0⟩ := F.ex
  have arg : PA X [e] (tCons te tNil) := pa_cons (hs := hst) he pa_nil
  have h2 : tCons te tNil σ H (fun vs H1 => ∃ (f : Addr) (tb : XK → TE), vs = [.ref f] ∧ LamAt Y k H1 f tb ∧ TT (fun E G R => tb E σ G R) H1 Q) := h
  refine wpAny_Call_Name_kw (ld_glob I hg hm (PySem.W.callWith_K (h₀ := X.base) I.ok.mod.kin F.kp (thn (arg.run pos pins s σ H _ I h2) fun us s1 hh => ?_) hst hpl) hdb)
  obtain ⟨vs, H1, I1, r, f, tb, rfl, la, tt⟩ := hh
  obtain ⟨pa, bo, sc, c', isL, isC, lam, bind, hbody⟩ := la.same same
  rw [Vals.ref1 r]
  refine ⟨I1.kIn, ?_⟩
  have rc : codeAny (model X.prog X.w) X.A (.call (.ref g) ⟨[.ref f], []⟩) (CR CX0 X.stack X.prog X.w H1 s1 Q fun _ _ _ => False) s1 := by
    refine LamX.run_ofS (k := k + 1) (N := Ng) (ps := [a]) (us := [.ref f]) (vs := [.ref f]) lk hcd0 S room I1.env0 (b s1 [.ref f] I1.kIn rfl) (.cons rfl .nil) rfl fun inner => ?_
    obtain ⟨t, ht, q⟩ := gives X.A X.stack cdv f s1 H1 Q (fun G => G f = some (LamO f (lfOf X pa bo sc c')) ∧ G c' = some (LamX.CodeO c' (lname X))) (fun E G R => tb E σ G R) gd (inner.mono (Nat.le_succ k))
      (fun W pn xe p1 p2 tk => ⟨fun pins s τ G R J z => (pe_act (CXg := CX0) (Eg := fun _ _ _ => False) (i := 0) I1 lam (fun pm ctv => bind _ _ _ _ _) tk inner (fun A outer s H E => hbody A outer s H E f c') n0 va hd hcd).run pins s τ G R J ⟨z.1, z.2.1.1, z.2.1.2, z.2.2⟩⟩) ⟨isL, isC⟩ tt
    exact ⟨t, ht.nox, q⟩
  refine wpAny_call (codeAny_mono rc fun out s2 q => ?_)
  match out, q with
  | .error err, q => exact (show False from q).elim
  | .ok (.ret u), q => exact I1.after q
theorem LamAt.ext {X : Cx} {k : Nat} {H G : Hp} {f : Addr} {tb : XK → TE} (h : LamAt X k H f tb) (e : LamX.ExtN H G) : LamAt X k G f tb := by
  obtain ⟨pa, bo, sc, c', a1, a2, a3⟩ := h
  exact ⟨pa, bo, sc, c', e _ _ a1 lamO_tbl, e _ _ a2 LamX.codeO_ne, a3⟩
end CG

/-! ### comprehensions whose element calls a lambda of the frame -/
-- lambdas
namespace CG
open PySem PySem.Spec PyProof.Rows L2
/-- the element's run in the block, the maker's own state at the block's start being known -/
def PEm (X : Cx) (scope : Scope) (elt : Expr) (te : TE) (vs : List Nat) : Prop :=
  ∀ (pm : List (Addr × Obj)) (τ : L2.St) (t : Shared) (G : Hp) (cl : List (Str × Addr)) (ws : List Addr), Inv X pm τ G t → (∀ b ∈ ws, FpOk X pm G b ∧ b < t.heap.objs.size) →
  ∀ (pq : List (Addr × Obj)) (u : Shared) (ρ : L2.St) (G2 : Hp) (Q : VK), Inv (X.blk t G scope (compEnvC scope cl t.heap.objs.size X.env) ws) pq ρ G2 u → wipe ρ vs = wipe τ vs → te ρ G2 Q →
    wpAny (model X.prog X.w) X.A (eval elt (compEnvC scope cl t.heap.objs.size X.env)) (EP (X.blk t G scope (compEnvC scope cl t.heap.objs.size X.env) ws) pq ρ Q) (fun _ _ => False) u
theorem pe_lcM {X : Cx} {elt tg iter : Expr} {scope : Scope} {own : List (Str × Nat)} {pos : Pos} {wi : TI} {g : TG} {te : TE} (calm : X.calm = true) (nd : X.N.Nodup) (hi : PI X tg iter wi) (ok : BlkOk X.N X.env.scope scope own)
    (hg : ∀ (s : Shared) (H : Hp) (C : Addr) (cl : List (Str × Addr)) (fp : List Addr), PG (X.blk s H scope (compEnvC scope cl C X.env) fp) tg g) (he : PEm X scope elt te (own.map (·.2))) (plain : ∀ x, foldedSetIterable iter X.env x = pure x := by intro _; rfl) :
    PE X (.ListComp elt [⟨tg, iter, [], 0⟩] scope pos) (tLc wi g tYes te (own.map (·.2))) := by
  refine ⟨fun pins s σ H Q I want => ?_⟩
  rw [eval_ListComp]
  have caps : ∀ y ∈ scope.names, y.2 = .free → ∃ c, X.env.cells.lookup y.1 = some c := fun y m e => (ok.free y m e).elim (fun q => I.ok.has _ (.inl q)) fun q => I.ok.has _ (.inr q)
  refine wpAny_comprehension_free (use := none) rfl plain (closure_ok caps) ok.kind (fun y m e => by rw [ok.uniq y m, e]) (thn (hi.run pins s σ H _ I want) fun _ _ came => thn came fun _ t2 got => ?_)
  obtain ⟨itr, ws, tn, J, G0, rfl, K0, T, on0, foot, rest⟩ := got
  refine wpAny_newObj_type (newEnv_comp ?_) (by show 0 ≤ sizeLine; decide)
  obtain ⟨D, eD⟩ : ∃ D, t2.heap.objs.size = D := ⟨_, rfl⟩
  rw [eD]
  obtain ⟨W, ⟨m0, w0⟩, each⟩ := rest D (K0.hok.fresh (Nat.le_of_eq eD))
  obtain ⟨t3, e3⟩ : ∃ t3 : Shared, { t2 with heap := t2.heap.push { cls := .type "list", data := .seq ([] : List Value).toArray } } = t3 := ⟨_, rfl⟩
  have up : t3.heap = t2.heap.push { cls := .type "list", data := .seq ([] : List Value).toArray } := by rw [← e3]
  have K3 : Inv X pins σ (upd G0 D (.lst [])) t3 := by
    rw [← e3]
    refine K0.laid (t' := t2.toks) (fun b o q => Heap.get?_push_of_some _ q) (Nat.le_of_eq eD) ⟨Nat.zero_le _, [], 0, .nil, ?_⟩
    rw [← eD]
    exact Heap.get?_push_size _ rfl
  have feet : ∀ b ∈ ws, FpOk X pins (upd G0 D (.lst [])) b ∧ b < t3.heap.objs.size := fun b hb => by
    obtain ⟨o, q, _⟩ := T.obj _ _ on0 b hb
    have lt := Heap.lt_size q
    have ne : b ≠ D := by rw [← eD]; exact Nat.ne_of_lt lt
    exact ⟨⟨by rw [upd_ne ne]; exact (foot b hb).1, (foot b hb).2⟩, by rw [up, Heap.size_push]; exact Nat.lt_succ_of_lt lt⟩
  have on3 : tn 0 t3.heap := T.keep _ _ _ on0 fun b _ o q => by rw [up]; exact Heap.get?_push_of_some _ q
  have K4 := block_start K3 ok nd feet
  obtain ⟨G3, eG⟩ : ∃ G3, upd G0 D (.lst []) = G3 := ⟨_, rfl⟩
  rw [eG] at K3 K4 feet w0
  obtain ⟨cl, ec⟩ : ∃ cl, cellsFrom (t3.heap.objs.size + 1) scope.names (cloFrom X.env.cells scope.names []) = cl := ⟨_, rfl⟩
  rw [ec] at K4
  have elts := he pins σ t3 G3 cl ws K3 feet
  have tgts := hg t3 G3 t3.heap.objs.size cl ws
  rw [e3]
  show codeAny _ _ (.compStart (.ListComp elt [⟨tg, iter, [], 0⟩] scope pos) 0 (.ref itr) (.ref D) (compEnvC scope (cellsFrom (t3.heap.objs.size + 1) scope.names (cloFrom X.env.cells scope.names [])) t3.heap.objs.size X.env)) (compPost (model X.prog X.w) X.A X.xe none (EP X pins σ Q) (.ref D) t3.heap.objs.size) { t3 with heap := pushCells (t3.heap.push { cls := .type "dict", data := .dict #[] }) scope.names }
  rw [ec]
  obtain ⟨env, ee⟩ : ∃ env, compEnvC scope cl t3.heap.objs.size X.env = env := ⟨_, rfl⟩
  have locs : env.locals = t3.heap.objs.size := by rw [← ee]; rfl
  rw [ee] at K4 elts tgts ⊢
  obtain ⟨t4, e4⟩ : ∃ t4 : Shared, { t3 with heap := pushCells (t3.heap.push { cls := .type "dict", data := .dict #[] }) scope.names } = t4 := ⟨_, rfl⟩
  have on4 : tn 0 t4.heap := T.keep _ _ _ on3 fun b _ o q => by rw [← e4]; exact pushCells_keeps _ _ _ _ (Heap.get?_push_of_some _ q)
  rw [e4] at K4 ⊢
  have stays : ∀ {ρ : L2.St} {G : Hp} {u : Shared}, Inv (X.blk t3 G3 scope env ws) [] ρ G u → (∀ b ∈ ws, G b = none) → ∀ b ∈ ws, FpOk (X.blk t3 G3 scope env ws) [] G b := fun {ρ G u} M off b hb =>
    ⟨off b hb, (M.ok.exf b hb).1, M.ok.exfs b hb, .inl hb, fun x c q => (M.ok.exf b hb).2 x c q, fun p hp => nomatch (show p ∈ ([] : List (Addr × Obj)) ++ [] from hp)⟩
  have round : codeAny (model X.prog X.w) X.A (.compLoop (.ListComp elt [⟨tg, iter, [], 0⟩] scope pos) 0 (.ref itr) (.ref D) env) (compPost (model X.prog X.w) X.A X.xe none (EP X pins σ Q) (.ref D) t3.heap.objs.size) t4 := by
    refine compLoop_any (fun n u => ∃ j G, Inv (X.blk t3 G3 scope env ws) [] (wipe σ (own.map (·.2))) G u ∧ tn j u.heap ∧ (∀ b ∈ ws, G b = none) ∧ W j n G) ?_ m0 ⟨0, G3, K4, on4, fun b hb => (feet b hb).1.1, w0⟩
    rintro n u5 ⟨j, G5, M5, on5, off5, w5⟩
    rcases each j n G5 w5 with ⟨halt, fine⟩ | ⟨goes, Nx, next, turn⟩
    · refine thnF (T.done (X.blk t3 G3 scope env ws) rfl rfl rfl calm j [] u5 _ G5 (fun _ _ => False) M5 (stays M5 off5) on5 halt) fun r u6 ⟨er, M6⟩ => ?_
      subst er
      have back : Inv X pins σ G5 u6 := K3.call' (ch := ws) M6.os M6.base M6.hok M6.bare fun b hb => ⟨(feet b hb).1.2.2.2.1, (feet b hb).1.2.1, (feet b hb).1.2.2.2.2.1, (feet b hb).1.2.2.2.2.2⟩
      have offL : G5 t3.heap.objs.size = none := by
        rw [← locs]
        exact M6.free
      obtain ⟨mm, names, _⟩ := M6.loc
      have names : u6.heap.Ns t3.heap.objs.size mm := by
        rw [← locs]
        exact names
      obtain ⟨f0, f1, _, f3, f4, f5⟩ := K3.fpOk (Nat.le_refl _) offL
      exact ⟨mm, names, fun h'' sb => ⟨.ref D, G5, back.turned (t' := u6.toks) (fun b o hb q => (sb.2 b hb).trans q) f0 f1 f3 f4 f5, rfl, fine⟩⟩
    · refine thnF (T.item (X.blk t3 G3 scope env ws) rfl rfl rfl calm j [] u5 _ G5 (fun _ _ => False) M5 (stays M5 off5) on5 goes) fun r u6 ⟨v, er, more⟩ => ?_
      subst er
      refine thnF more fun _ u7 ⟨x, G7, M7, rx, yx, on7, off7⟩ => ?_
      refine thnF (tgts.run _ u7 _ G7 x v _ (M7.pinned (stays M7 off7) (T.obj _ _ on7)) rx (turn x G7 yx)) fun _ u8 ⟨ρ, G8, M8, wq, q8⟩ => ?_
      have again : ∀ {u : Shared} {G : Hp}, Inv (X.blk t3 G3 scope env ws) ([] ++ pinsAt ws u7.heap) ρ G u → Nx G → ∃ m, m < n ∧ ∃ j G, Inv (X.blk t3 G3 scope env ws) [] (wipe σ (own.map (·.2))) G u ∧ tn j u.heap ∧ (∀ b ∈ ws, G b = none) ∧ W j m G := fun {u G} M nx => by
        obtain ⟨m2, lt, w2⟩ := next G nx
        have same : ∀ b ∈ ws, ∀ o, u7.heap.get? b = some o → u.heap.get? b = some o ∧ G b = none := fun b hb o q =>
          have z := M.pin (b, o) (List.mem_append_right _ (List.mem_append_right _ (mem_pinsAt hb q)))
          ⟨z.1, z.2.1⟩
        refine ⟨m2, lt, j + 1, G, (M.unpinned (pins := [])).weak (by rw [← wq, wipe_length]) (fun i z q => ?_), T.keep _ _ _ on7 fun b hb o q => (same b hb o q).1, fun b hb => ?_, w2⟩
        · rw [← wq] at q
          exact (wipe_some q).1
        · obtain ⟨o, q, _⟩ := T.obj _ _ on7 b hb
          exact (same b hb o q).2
      refine wpAny_tests_nil ?_
      have q9 : te ρ G8 fun y G9 => ∃ acc, G9 D = some (.lst acc) ∧ acc.length < sizeLine ∧ Nx (upd G9 D (.lst (acc ++ [y]))) := q8
      rw [if_pos rfl]
      refine thnF (elts _ u8 ρ G8 _ M8 wq q9) fun z u9 ⟨y, GA, MA, ry, acc, hDA, lz, nx⟩ => ?_
      exact app_ok (X := X.blk t3 G3 scope env ws) MA hDA lz ry fun uB MB => again MB nx
  exact codeAny_compStart_list round (T.self X.A 0 _ _ _ on4 round)
/-- the reading of x(e) in such a block, e a lambda of the frame; the block's own names are no names of the lambda -/
def tSaidC (X : Cx) (k : Nat) (vs : List Nat) (TT : (XK → Hp → VK → Prop) → Hp → VK → Prop) (te : TE) : TE := fun ρ H Q => te ρ H fun v H1 =>
  ∃ (f : Addr) (tb : XK → TE), [v] = [V.ref f] ∧ LamAt X k H1 f tb ∧ TT (fun E G R => tb E (wipe ρ vs) G R) H1 Q
theorem said_elt {X : Cx} {scope : Scope} {x a : Str} {st : Stmt} {g : Addr} {fd : FuncData} {Ng : List Str} {k : Nat} {vs : List Nat} {TT : (XK → Hp → VK → Prop) → Hp → VK → Prop} {e : Expr} {te : TE} {p pos : Pos}
    (F : Fun X.K x x st g fd) (b : Binds X.K fd [a] []) (S : FnScope Ng [a] (defScope st)) (hg : ∀ (s : Shared) (H : Hp) (C : Addr) (cl : List (Str × Addr)) (fp : List Addr), Gl (X.blk s H scope (compEnvC scope cl C X.env) fp) x) (hm : X.mg x = some (.ref g)) (n0 : Ng[0]? = some a) (va : Vis (defScope st) a)
    (gives : Gives X.prog X.w X.K X.mg X.base k Ng x a st g TT) (gd : X.A.guards = some []) (room : Room (k + 2) X.A)
    (he : ∀ (s : Shared) (H : Hp) (C : Addr) (cl : List (Str × Addr)) (fp : List Addr), PE (X.blk s H scope (compEnvC scope cl C X.env) fp) e te) (hdb : (x == ("__debug__" : Str)) = false := by decide) (hd : (a == ("__debug__" : Str)) = false := by decide) (hcd : (a == ("__classdict__" : Str)) = false := by decide)
    (hst : ∀ env : Env, starEach [e] env = (false, eval e env) :: starEach [] env := by intro _; rfl) (hpl : ∀ env : Env, (backTo pos (starEach [] env)).any (·.1) = false := by intro _; rfl) :
    PEm X scope (.Call (.Name x p) [e] [] pos) (tSaidC X k vs TT te) vs := by
  intro pm τ t G cl ws K feet pq u ρ G2 Q M wq want
  obtain ⟨oc, od, kV, doc, pms, an, cdv, ct, osl, rfl, lk, hcd0⟩ := F.ex
  have arg : PA (X.blk t G scope (compEnvC scope cl t.heap.objs.size X.env) ws) [e] (tCons te tNil) := pa_cons (hs := hst _) (he t G _ cl ws) pa_nil
  have want2 : tCons te tNil ρ G2 (fun vals H1 => ∃ (f : Addr) (tb : XK → TE), vals = [.ref f] ∧ LamAt X k H1 f tb ∧ TT (fun E G R => tb E (wipe ρ vs) G R) H1 Q) := want
  refine wpAny_Call_Name_kw (ld_glob M (hg t G _ cl ws) hm (PySem.W.callWith_K (h₀ := X.base) M.ok.mod.kin F.kp (thn (arg.run pos pq u ρ G2 _ M want2) fun us u1 got => ?_) (hst _) (hpl _)) hdb)
  obtain ⟨vals, H1, M1, r, f, tb, rfl, ⟨pa, bo, sc, c', isL, isC, lam, bind, hbody⟩, tt⟩ := got
  rw [Vals.ref1 r]
  refine ⟨M1.kIn, ?_⟩
  have outer : Inv X pm (wipe ρ vs) H1 u1 := by
    rw [wq]
    exact (K.call' (ch := ws) M1.os M1.base M1.hok M1.bare fun b hb => ⟨(feet b hb).1.2.2.2.1, (feet b hb).1.2.1, (feet b hb).1.2.2.2.2.1, (feet b hb).1.2.2.2.2.2⟩).weak (wipe_length _ _) fun i v q => (wipe_some q).1
  have rc : codeAny (model X.prog X.w) X.A (.call (.ref g) ⟨[.ref f], []⟩) (CR CX0 X.stack X.prog X.w H1 u1 Q fun _ _ _ => False) u1 := by
    refine LamX.run_ofS (k := k + 1) (N := Ng) (ps := [a]) (us := [.ref f]) (vs := [.ref f]) lk hcd0 S room outer.env0 (b u1 [.ref f] M1.kIn rfl) (.cons rfl .nil) rfl fun inner => ?_
    obtain ⟨tr, ht, q⟩ := gives X.A X.stack cdv f u1 H1 Q (fun G => G f = some (LamO f (lfOf X pa bo sc c')) ∧ G c' = some (LamX.CodeO c' (lname X))) (fun E G R => tb E (wipe ρ vs) G R) gd (inner.mono (Nat.le_succ k))
      (fun W pn xe p1 p2 tk => ⟨fun pins s τ G R J z => (pe_act (CXg := CX0) (Eg := fun _ _ _ => False) (i := 0) outer lam (fun pm ctv => bind _ _ _ _ _) tk inner (fun A outer s H E => hbody A outer s H E f c') n0 va hd hcd).run pins s τ G R J ⟨z.1, z.2.1.1, z.2.1.2, z.2.2⟩⟩) ⟨isL, isC⟩ tt
    exact ⟨tr, ht.nox, q⟩
  refine wpAny_call (codeAny_mono rc fun out u2 q => ?_)
  match out, q with
  | .error err, q => exact (show False from q).elim
  | .ok (.ret v), q => exact M1.after q
end CG

/-! ### list.count(True) of bools -/
namespace CG
open PySem PySem.Spec PyProof.Rows L2
def eqbT (v : Value) : Bool := match v with
  | .bool b => b == true
  | _ => false
theorem eqb_count : ∀ {xs : List Value} {bs : List Bool}, Vals (bs.map V.bl) xs → xs.countP eqbT = bs.count true ∧ ∀ y ∈ xs, ∃ b, y = .bool b
  | [], [], _ => ⟨rfl, fun y hy => nomatch hy⟩
  | x :: xs, b :: bs, .cons rx r => by
    obtain ⟨h1, h2⟩ := eqb_count (xs := xs) (bs := bs) r
    obtain rfl : x = Value.bool b := rx
    refine ⟨?_, fun y hy => ?_⟩
    · rw [List.countP_cons, List.count_cons, h1]
      rfl
    · rcases List.mem_cons.mp hy with rfl | hy
      · exact ⟨b, rfl⟩
      · exact h2 y hy
section
variable {X : Cx}
def rCntB (K : PySem.W.Frag) : V → List V → Hp → VK → Prop := fun x xs H Q => ∃ (p : Addr) (bs : List Bool), x = .ref p ∧ xs = [.bl true] ∧ SqL K H p (bs.map V.bl) ∧ Q (.int (bs.count true : Nat)) H
theorem mt_lcountB : MtR X "list.count" (rCntB X.K) := by
  intro pins s σ H x xs v us Q I rx rxs h
  obtain ⟨p, bs, rfl, rfl, hs, q⟩ := h
  cases rx
  obtain ⟨u, rfl, ru⟩ := rxs.one
  obtain rfl : u = Value.bool true := ru
  obtain ⟨its, rv, ⟨⟨cls, dd, data, sl⟩, n, ho, hc, hdn, hd⟩, hlen⟩ := I.list hs
  simp only at hc hd
  subst hc hd
  obtain ⟨ec, ey⟩ := eqb_count rv
  refine call_meets PySem.F.slot_list_count ⟨_, ho, rfl⟩ PySem.F.entry_list_count (PySem.F.args_list_count_2 _ _)
    (SeqAt.list_countAt p its.toArray n dd sl (.bool true) eqbT) ⟨ho, fun y hy => ?_, ?_⟩
  · obtain ⟨b, rfl⟩ := ey y (by simpa using hy)
    exact PySem.SeqAt.EqAt.bool_bool b true
  refine ⟨.int (bs.count true : Nat), H, I.tok _, ⟨s.toks, ?_⟩, q⟩
  show Value.int ((its.toArray.toList.countP eqbT : Nat) : Int) s.toks = Value.int ((bs.count true : Nat) : Int) s.toks
  rw [← ec]
end
end CG

-- dictdisp
/-! ### {t: v}, t a tuple -/
namespace CG
open PySem PySem.Spec PyProof.Rows L2
def tDispT1 (tk tv : TE) : TE := fun σ H Q => ∀ p, H p = none → tk σ (upd H p (.dT [])) fun x H1 => tv σ H1 fun y H2 => H2 p = some (.dT []) ∧ ∃ (ks : List Key) (b : Addr), x = .ref b ∧ H2 b = some (.tup (ks.map kV)) ∧ Q (.ref p) (upd H2 p (.dT [(ks, y)]))
theorem pe_dispT1 {X : Cx} {pos : Pos} {k v : Expr} {tk tv : TE} (hu : X.A.units + 65 < cLine) (hk : PE X k tk) (hv : PE X v tv) : PE X (.Dict [some k] [v] pos) (tDispT1 tk tv) := by
  refine ⟨fun pins s σ H Q I q => ?_⟩
  have hn := I.hok.fresh (Nat.le_refl s.heap.objs.size)
  have I1 := I.laid (a := s.heap.objs.size) (o := .dT []) (h' := s.heap.push { cls := .type "dict", data := .dict #[] }) (t' := s.toks) (fun _ _ q => Heap.get?_push_of_some _ q) (Nat.le_refl _) (dt_empty s.heap I.big)
  have run : tPairs [(tk, tv)] σ (upd H s.heap.objs.size (.dT [])) (fun ps H2 => ∃ x y, ps = [(x, y)] ∧ H2 s.heap.objs.size = some (.dT []) ∧ ∃ (ks : List Key) (b : Addr), x = .ref b ∧ H2 b = some (.tup (ks.map kV)) ∧ Q (.ref s.heap.objs.size) (upd H2 s.heap.objs.size (.dT [(ks, y)]))) := by
    have : (fun (x : V) (H1 : Hp) => tv σ H1 fun y H2 => H2 s.heap.objs.size = some (.dT []) ∧ ∃ (ks : List Key) (b : Addr), x = .ref b ∧ H2 b = some (.tup (ks.map kV)) ∧ Q (.ref s.heap.objs.size) (upd H2 s.heap.objs.size (.dT [(ks, y)]))) = (fun (x : V) (H1 : Hp) => tv σ H1 fun y H2 => ∃ x2 y2, [(x, y)] = [(x2, y2)] ∧ H2 s.heap.objs.size = some (.dT []) ∧ ∃ (ks : List Key) (b : Addr), x2 = .ref b ∧ H2 b = some (.tup (ks.map kV)) ∧ Q (.ref s.heap.objs.size) (upd H2 s.heap.objs.size (.dT [(ks, y2)]))) := by
      funext x H1
      refine congrArg (tv σ H1) ?_
      funext y H2
      refine propext ⟨fun h => ⟨x, y, rfl, h⟩, fun ⟨x2, y2, e, h⟩ => ?_⟩
      obtain ⟨rfl, rfl⟩ := Prod.mk.inj (List.head_eq_of_cons_eq e)
      exact h
    have z := q _ hn
    rw [this] at z
    exact z
  have prs : PPs X pos [some k] [v] [(tk, tv)] := pps_cons hk hv pps_nil
  rw [arm_eval_Dict, zip_pairTrees [some k] [v] X.env pos rfl rfl, dictDisplay_pairs (pairTrees [some k] [v] X.env pos) (by intro z; have := congrArg List.length z; rw [pairTrees_length [some k] [v] X.env pos rfl rfl] at this; cases this) (by rw [pairTrees_length [some k] [v] X.env pos rfl rfl]; show 1 < 17; decide)]
  refine wpAny_bind (wpAny_standAt (wpAny_bind (wpAny_subDictH (knd := tupleKind (mixKind X.prog X.w)) (show X.A.units < cLine by omega) (by rw [pairTrees_length [some k] [v] X.env pos rfl rfl]; show 1 ≤ 15; decide) ?_)))
  refine thn (prs.run pins _ σ _ _ I1 run) fun ws s2 ⟨ps, H2, I2, rel, x, y, eps, e, ks, b, ex, hb, q2⟩ => ?_
  subst eps ex
  cases rel with
  | @cons a w0 as bs r t =>
    cases t
    obtain ⟨r1, r2⟩ := r
    obtain ⟨u1, u2⟩ := w0
    dsimp only at r1 r2
    obtain rfl : u1 = Value.ref b := r1
    obtain ⟨z, hd, xs, rl, dd⟩ := dt_of I2.hok e
    cases rl
    refine ⟨[(ks, b, u2)], ⟨rfl, rfl, key_of I2.hok hb, trivial⟩, dd, fun h' tk' dd' hs => ?_⟩
    obtain ⟨o, es, ep, ho, h2, h3, h4, _, h5⟩ := dd'
    refine wpAny_pure ⟨.ref s.heap.objs.size, _, ?_, rfl, q2⟩
    refine d_write I2 (by rw [e]; exact True.intro) hs ⟨o, ho⟩ ⟨by show 1 ≤ sizeLine; decide, hd, [(ks, b, u2)], ?_, o, es, ep, ho, h2, h3, h4, h5⟩
    refine .cons ⟨rfl, ?_, r2⟩ .nil
    rw [upd_ne (ne_of hb e (fun z => nomatch z))]
    exact hb
end CG

-- dictcomps
namespace CD
open PySem PySem.Spec PyProof.Rows L2
/-! ### d.update(e), both keyed by ints or texts -/
section
variable {X : Cx}
def rUpdK : V → List V → Hp → VK → Prop := fun x xs H Q => ∃ (a b : Addr) (kvs more : List (Key × V)), x = .ref a ∧ xs = [.ref b] ∧ a ≠ b ∧ H a = some (.dK kvs) ∧ H b = some (.dK more) ∧ kvs.length + more.length ≤ sizeLine ∧ Q .non (upd H a (.dK (mergeK kvs more)))
theorem mt_updK : MtR X "dict.update" rUpdK := by
  intro pins s σ H x xs v us Q I rx rxs h
  obtain ⟨a, b, kvs, more, rfl, rfl, ne, ha, hb, le, q⟩ := h
  cases rx
  cases rxs with
  | cons r1 r2 =>
    cases r1
    cases r2
    obtain ⟨_, hsys, vs, rel, dd⟩ := dk_of I.hok ha
    obtain ⟨_, hsys2, vs2, rel2, dd2⟩ := dk_of I.hok hb
    have l1 : vs.length = kvs.length := rel.length.symm
    have l2 : vs2.length = more.length := rel2.length.symm
    refine call_meetsIn F.slot_dict_update dd.typeIs F.entry_dict_update (F.args_dict_update_2 _ _) (meets_dict_update (mixKind X.prog X.w) a b ne hsys2) ⟨vs, vs2, dd, dd2, by omega, fun h' dd' _ hs => ?_⟩
    have ln : (mergeK kvs more).length ≤ sizeLine := Nat.le_trans (length_mergeK more kvs) le
    obtain ⟨o2, es, ep, hq, _⟩ := id dd'
    exact ⟨.non, _, I.write (x := a) (e := a) (t' := s.toks) (by rw [ha]; exact True.intro) (.inl rfl) (fun c ob hc z => hs.extBut c ob hc z) ⟨o2, hq⟩ (dk_new ln hsys (KV.merge rel2 rel) dd'), rfl, q⟩
end
end CD

/-! ### lambdas of several defs: their tables differ -/
-- lambdas
namespace CG
open PySem PySem.Spec PyProof.Rows L2
def tLamKT (X : Cx) (k : Nat) (T : List (Addr × Str)) (tb : XK → TE) : TE := fun _ H Q => LamX.Tabs T H ∧ ∀ (f : Addr) (G : Hp), LamX.ExtN H G → LamX.Tabs T G → H f = none → LamAt X k G f tb → Q (.ref f) G
theorem pe_lamKT {X : Cx} {T : List (Addr × Str)} {c P : Addr} {k : Nat} {tb : XK → TE} {params : Arguments} {body : Expr} {scope : Scope} {pos : Pos} (TB : LamX.TabB X.base X.mg c P) (hcode : X.env.code = .ref c) (hm : (P, lname X) ∈ T) (one : ∀ p ∈ T, p.1 = P → p.2 = lname X)
    (hbody : ∀ (A : Around) (outer : List Env) (s : Shared) (H : Hp) (E : XK) (f c' : Addr), Room k (A.deeper (LamX.lamEnv X scope s.heap.objs.size f c')) → PE (LamX.lamCx X A outer s H E scope f c') body (tb E))
    (lam : LamX.LamS X.env.scope scope) (hdef : defaultsOf params X.env = ([], []) := by rfl) (bind : ∀ (q : Str) (cl : List (Str × Addr)) (pm cv ctv : Value), bindArgs (PySem.W.kla_fn "<lambda>" q params body scope cl pm cv ctv) ⟨[], []⟩ = pure [] := by intros; rfl) :
    PE X (.Lambda params body scope pos) (tLamKT X k T tb) := by
  refine ⟨fun pins s σ H Q I h => ?_⟩
  refine (pe_lam (T := T) TB hcode hm one lam hdef).run pins s σ H Q I ?_
  exact ⟨h.1, fun f c' G eN tG n a1 a2 => h.2 f G eN tG n ⟨params, body, scope, c', a1, a2, lam, bind, hbody⟩⟩
/-- the tables of two defs differ, as the written part tells -/
def tabsNe (K : PySem.W.Frag) (x y : Str) : Bool := match PySem.W.tabIn K x, PySem.W.tabIn K y with
  | some p, some q => p.2 != q.2
  | _, _ => false
theorem tab_at_in {K : PySem.W.Frag} {h : Heap} {mg : Str → Option Value} {x qual : Str} {st : Stmt} {f c P c' P' : Addr} {fd : FuncData} (KX : K.In h) (G : h.Ns mainGlobals mg) (m : mg x = some (.ref f)) (F : Fun K x qual st f fd) (ac : fd.code = .ref c) (d : PySem.W.CodeHd h c P)
    (ht : PySem.W.tabIn K x = some (c', P')) : P = P' := by
  obtain ⟨_, _, _, _, _, _, cdv, _, _, rfl, look, _⟩ := F.ex
  have ac : cdv = .ref c := ac
  subst ac
  unfold PySem.W.tabIn at ht
  split at ht
  · rename_i f2 hf
    have e1 := PySem.W.mg_of KX G hf
    obtain rfl : f = f2 := Value.ref.inj (Option.some.inj (m.symm.trans e1))
    rw [look] at ht
    obtain ⟨o, vs, _, _, _, _, _, _, _, g1, _, g3, g4, _⟩ := d
    cases hco : K.lookup c with
    | none =>
      dsimp only [PySem.W.fnOf] at ht
      rw [hco] at ht
      cases ht
    | some o2 =>
      have e3 := KX _ _ hco
      rw [e3] at g1
      cases g1
      obtain ⟨cl, dct, dat, fr⟩ := o
      have g3 : dat = .fields vs := g3
      subst g3
      dsimp only [PySem.W.fnOf] at ht
      rw [hco] at ht
      dsimp only at ht
      rw [g4] at ht
      cases ht
      rfl
  · cases ht
theorem tabs_ne {K : PySem.W.Frag} {h : Heap} {mg : Str → Option Value} {x y qx qy : Str} {sx sy : Stmt} {f g c P c' P' : Addr} {fd gd : FuncData} (KX : K.In h) (G : h.Ns mainGlobals mg) (mx : mg x = some (.ref f)) (my : mg y = some (.ref g)) (F : Fun K x qx sx f fd) (F' : Fun K y qy sy g gd)
    (ac : fd.code = .ref c) (ac' : gd.code = .ref c') (d : PySem.W.CodeHd h c P) (d' : PySem.W.CodeHd h c' P') (ne : tabsNe K x y = true) : P ≠ P' := by
  unfold tabsNe at ne
  split at ne
  · rename_i p q hp hq
    have e1 := tab_at_in (c' := p.1) (P' := p.2) KX G mx F ac d hp
    have e2 := tab_at_in (c' := q.1) (P' := q.2) KX G my F' ac' d' hq
    rw [e1, e2]
    intro z
    rw [z] at ne
    simp at ne
  · cases ne
end CG

namespace CS
open PySem PySem.Spec PyProof.Rows L2
def top (i : Nat) : Stmt := PySem.Challenge.pw_calledseats_k57_invalid_arguments_of_sum.main.body.getD i (.Pass ⟨0, 0, 0, 0⟩)
abbrev s_InvalidTargets_init : Stmt := inClass (top 2) 0
abbrev N_InvalidTargets_init : List Str := ["self", "index"]
theorem sc_InvalidTargets_init : FnScope N_InvalidTargets_init ["self", "index"] (defScope s_InvalidTargets_init) := ⟨rfl, rfl, rfl, by decide +kernel, rfl, by decide +kernel, by decide +kernel⟩
abbrev s_InvalidWitness_init : Stmt := inClass (top 3) 0
abbrev N_InvalidWitness_init : List Str := ["self", "index"]
theorem sc_InvalidWitness_init : FnScope N_InvalidWitness_init ["self", "index"] (defScope s_InvalidWitness_init) := ⟨rfl, rfl, rfl, by decide +kernel, rfl, by decide +kernel, by decide +kernel⟩
abbrev s_InvalidNumber_init : Stmt := inClass (top 4) 0
abbrev N_InvalidNumber_init : List Str := ["self", "name"]
theorem sc_InvalidNumber_init : FnScope N_InvalidNumber_init ["self", "name"] (defScope s_InvalidNumber_init) := ⟨rfl, rfl, rfl, by decide +kernel, rfl, by decide +kernel, by decide +kernel⟩
abbrev s_TooLarge_init : Stmt := inClass (top 5) 0
abbrev N_TooLarge_init : List Str := ["self", "limit"]
theorem sc_TooLarge_init : FnScope N_TooLarge_init ["self", "limit"] (defScope s_TooLarge_init) := ⟨rfl, rfl, rfl, by decide +kernel, rfl, by decide +kernel, by decide +kernel⟩
abbrev s_is_integer : Stmt := top 7
abbrev N_is_integer : List Str := ["value"]
theorem sc_is_integer : FnScope N_is_integer ["value"] (defScope s_is_integer) := ⟨rfl, rfl, rfl, by decide +kernel, rfl, by decide +kernel, by decide +kernel⟩
abbrev s_is_at_least : Stmt := top 8
abbrev N_is_at_least : List Str := ["value", "low"]
theorem sc_is_at_least : FnScope N_is_at_least ["value", "low"] (defScope s_is_at_least) := ⟨rfl, rfl, rfl, by decide +kernel, rfl, by decide +kernel, by decide +kernel⟩
abbrev s_is_between : Stmt := top 9
abbrev N_is_between : List Str := ["value", "low", "high"]
theorem sc_is_between : FnScope N_is_between ["value", "low", "high"] (defScope s_is_between) := ⟨rfl, rfl, rfl, by decide +kernel, rfl, by decide +kernel, by decide +kernel⟩
abbrev s_require_at_least : Stmt := top 10
abbrev N_require_at_least : List Str := ["value", "low", "name"]
theorem sc_require_at_least : FnScope N_require_at_least ["value", "low", "name"] (defScope s_require_at_least) := ⟨rfl, rfl, rfl, by decide +kernel, rfl, by decide +kernel, by decide +kernel⟩
abbrev s_greatest_common_divisor : Stmt := top 11
abbrev N_greatest_common_divisor : List Str := ["first", "second"]
theorem sc_greatest_common_divisor : FnScope N_greatest_common_divisor ["first", "second"] (defScope s_greatest_common_divisor) := ⟨rfl, rfl, rfl, by decide +kernel, rfl, by decide +kernel, by decide +kernel⟩
abbrev s_odd_part : Stmt := top 12
abbrev N_odd_part : List Str := ["number"]
theorem sc_odd_part : FnScope N_odd_part ["number"] (defScope s_odd_part) := ⟨rfl, rfl, rfl, by decide +kernel, rfl, by decide +kernel, by decide +kernel⟩
abbrev s_require_places : Stmt := top 17
abbrev N_require_places : List Str := ["size", "targets", "seen", "index", "target"]
theorem sc_require_places : FnScope N_require_places ["size", "targets"] (defScope s_require_places) := ⟨rfl, rfl, rfl, by decide +kernel, rfl, by decide +kernel, by decide +kernel⟩
abbrev s_require_place : Stmt := top 18
abbrev N_require_place : List Str := ["size", "place", "name"]
theorem sc_require_place : FnScope N_require_place ["size", "place", "name"] (defScope s_require_place) := ⟨rfl, rfl, rfl, by decide +kernel, rfl, by decide +kernel, by decide +kernel⟩
abbrev s_require_limit : Stmt := top 19
abbrev N_require_limit : List Str := ["number", "limit"]
theorem sc_require_limit : FnScope N_require_limit ["number", "limit"] (defScope s_require_limit) := ⟨rfl, rfl, rfl, by decide +kernel, rfl, by decide +kernel, by decide +kernel⟩
abbrev s_rotated : Stmt := top 20
abbrev N_rotated : List Str := ["size", "bits", "shift", "moved"]
theorem sc_rotated : FnScope N_rotated ["size", "bits", "shift"] (defScope s_rotated) := ⟨rfl, rfl, rfl, by decide +kernel, rfl, by decide +kernel, by decide +kernel⟩
abbrev s_doubled : Stmt := top 21
abbrev N_doubled : List Str := ["size", "bits", "found", "place"]
theorem sc_doubled : FnScope N_doubled ["size", "bits"] (defScope s_doubled) := ⟨rfl, rfl, rfl, by decide +kernel, rfl, by decide +kernel, by decide +kernel⟩
abbrev s_bits_of : Stmt := top 22
abbrev N_bits_of : List Str := ["places", "found", "place"]
theorem sc_bits_of : FnScope N_bits_of ["places"] (defScope s_bits_of) := ⟨rfl, rfl, rfl, by decide +kernel, rfl, by decide +kernel, by decide +kernel⟩
abbrev s_sum_layers : Stmt := top 23
abbrev N_sum_layers : List Str := ["size", "targets", "calls", "found", "number"]
theorem sc_sum_layers : FnScope N_sum_layers ["size", "targets", "calls"] (defScope s_sum_layers) := ⟨rfl, rfl, rfl, by decide +kernel, rfl, by decide +kernel, by decide +kernel⟩
abbrev s_min_calls_on_ring : Stmt := top 24
abbrev N_min_calls_on_ring : List Str := ["size", "targets", "place", "bits", "calls"]
theorem sc_min_calls_on_ring : FnScope N_min_calls_on_ring ["size", "targets", "place"] (defScope s_min_calls_on_ring) := ⟨rfl, rfl, rfl, by decide +kernel, rfl, by decide +kernel, by decide +kernel⟩
abbrev s_halved : Stmt := top 25
abbrev N_halved : List Str := ["size", "bits", "amounts", "mirrored", "found", "total", "amount", "both", "first", "place"]
theorem sc_halved : FnScope N_halved ["size", "bits", "amounts"] (defScope s_halved) := ⟨rfl, rfl, rfl, by decide +kernel, rfl, by decide +kernel, by decide +kernel⟩
abbrev s_sum_counts : Stmt := top 26
abbrev N_sum_counts : List Str := ["size", "targets", "place", "calls", "layers", "total", "amounts", "bits", "target"]
theorem sc_sum_counts : FnScope N_sum_counts ["size", "targets", "place", "calls"] (defScope s_sum_counts) := ⟨rfl, rfl, rfl, by decide +kernel, rfl, by decide +kernel, by decide +kernel⟩
abbrev s_inverse : Stmt := top 27
abbrev N_inverse : List Str := ["number", "modulus", "low", "high", "quotient"]
theorem sc_inverse : FnScope N_inverse ["number", "modulus"] (defScope s_inverse) := ⟨rfl, rfl, rfl, by decide +kernel, rfl, by decide +kernel, by decide +kernel⟩
abbrev s_require_two : Stmt := top 28
abbrev N_require_two : List Str := ["size", "first", "second", "place"]
theorem sc_require_two : FnScope N_require_two ["size", "first", "second", "place"] (defScope s_require_two) := ⟨rfl, rfl, rfl, by decide +kernel, rfl, by decide +kernel, by decide +kernel⟩
abbrev s_two_target_sum : Stmt := top 29
abbrev N_two_target_sum : List Str := ["size", "first", "second", "place", "gap", "distance", "shared", "calls", "period", "factor", "count"]
theorem sc_two_target_sum : FnScope N_two_target_sum ["size", "first", "second", "place"] (defScope s_two_target_sum) := ⟨rfl, rfl, rfl, by decide +kernel, rfl, by decide +kernel, by decide +kernel⟩
abbrev s_min_calls_two : Stmt := top 30
abbrev N_min_calls_two : List Str := ["size", "first", "second", "place", "found"]
theorem sc_min_calls_two : FnScope N_min_calls_two ["size", "first", "second", "place"] (defScope s_min_calls_two) := ⟨rfl, rfl, rfl, by decide +kernel, rfl, by decide +kernel, by decide +kernel⟩
abbrev s_require_counts : Stmt := top 31
abbrev N_require_counts : List Str := ["targets", "counts", "index", "count"]
theorem sc_require_counts : FnScope N_require_counts ["targets", "counts"] (defScope s_require_counts) := ⟨rfl, rfl, rfl, by decide +kernel, rfl, by decide +kernel, by decide +kernel⟩
abbrev s_require_sum : Stmt := top 32
abbrev N_require_sum : List Str := ["size", "targets", "place", "counts", "total", "value", "count", "target"]
theorem sc_require_sum : FnScope N_require_sum ["size", "targets", "place", "counts", "total"] (defScope s_require_sum) := ⟨rfl, rfl, rfl, by decide +kernel, rfl, by decide +kernel, by decide +kernel⟩
abbrev s_check_sum : Stmt := top 33
abbrev N_check_sum : List Str := ["size", "targets", "place", "calls", "counts"]
theorem sc_check_sum : FnScope N_check_sum ["size", "targets", "place", "calls", "counts"] (defScope s_check_sum) := ⟨rfl, rfl, rfl, by decide +kernel, rfl, by decide +kernel, by decide +kernel⟩
abbrev s_Block_init : Stmt := inClass (top 34) 0
abbrev N_Block_init : List Str := ["self", "mean", "counts", "number"]
theorem sc_Block_init : FnScope N_Block_init ["self", "mean", "counts", "number"] (defScope s_Block_init) := ⟨rfl, rfl, rfl, by decide +kernel, rfl, by decide +kernel, by decide +kernel⟩
abbrev s_Block_paired : Stmt := inClass (top 34) 1
abbrev N_Block_paired : List Str := ["self", "count"]
theorem sc_Block_paired : FnScope N_Block_paired ["self"] (defScope s_Block_paired) := ⟨rfl, rfl, rfl, by decide +kernel, rfl, by decide +kernel, by decide +kernel⟩
abbrev s_Block_joined : Stmt := inClass (top 34) 2
abbrev N_Block_joined : List Str := ["self", "other", "counts", "count", "more"]
theorem sc_Block_joined : FnScope N_Block_joined ["self", "other"] (defScope s_Block_joined) := ⟨rfl, rfl, rfl, by decide +kernel, rfl, by decide +kernel, by decide +kernel⟩
abbrev s_next_blocks : Stmt := top 35
abbrev N_next_blocks : List Str := ["blocks", "found", "parity", "single", "block", "one", "other"]
theorem sc_next_blocks : FnScope N_next_blocks ["blocks"] (defScope s_next_blocks) := ⟨rfl, rfl, rfl, by decide +kernel, rfl, by decide +kernel, by decide +kernel⟩
abbrev s_call_from_sum : Stmt := top 36
abbrev N_call_from_sum : List Str := ["size", "targets", "place", "counts", "total", "blocks", "index", "target", "count", "number", "forward", "backward", "other", "taken"]
theorem sc_call_from_sum : FnScope N_call_from_sum ["size", "targets", "place", "counts"] (defScope s_call_from_sum) := ⟨rfl, rfl, rfl, by decide +kernel, rfl, by decide +kernel, by decide +kernel⟩
abbrev s_law_cell_at : Stmt := top 38
abbrev N_law_cell_at : List Str := ["_law_script", "_law_k"]
theorem sc_law_cell_at : FnScope N_law_cell_at ["_law_script", "_law_k"] (defScope s_law_cell_at) := ⟨rfl, rfl, rfl, by decide +kernel, rfl, by decide +kernel, by decide +kernel⟩
abbrev s_law_source : Stmt := top 39
abbrev N_law_source : List Str := ["_law_cell"]
theorem sc_law_source : FnScope N_law_source ["_law_cell"] (defScope s_law_source) := ⟨rfl, rfl, rfl, by decide +kernel, rfl, by decide +kernel, by decide +kernel⟩
abbrev s_law_take : Stmt := top 40
abbrev N_law_take : List Str := ["_law_source_here", "_law_bound", "_law_digit", "_law_prime", "_law_mixed"]
theorem sc_law_take : FnScope N_law_take ["_law_source_here", "_law_bound"] (defScope s_law_take) := ⟨rfl, rfl, rfl, by decide +kernel, rfl, by decide +kernel, by decide +kernel⟩
abbrev s_law_said : Stmt := top 41
abbrev N_law_said : List Str := ["_law_ask", "e", "_law_kinds"]
theorem sc_law_said : FnScope N_law_said ["_law_ask"] (defScope s_law_said) := ⟨rfl, rfl, rfl, by decide +kernel, rfl, by decide +kernel, by decide +kernel⟩
abbrev s_law_bad_number : Stmt := top 42
abbrev N_law_bad_number : List Str := ["_law_source_here", "_law_low", "_law_high"]
theorem sc_law_bad_number : FnScope N_law_bad_number ["_law_source_here", "_law_low", "_law_high"] (defScope s_law_bad_number) := ⟨rfl, rfl, rfl, by decide +kernel, rfl, by decide +kernel, by decide +kernel⟩
abbrev s_law_bad_targets : Stmt := top 43
abbrev N_law_bad_targets : List Str := ["_law_source_here", "_law_ring", "_law_some"]
theorem sc_law_bad_targets : FnScope N_law_bad_targets ["_law_source_here", "_law_ring"] (defScope s_law_bad_targets) := ⟨rfl, rfl, rfl, by decide +kernel, rfl, by decide +kernel, by decide +kernel⟩
abbrev s_law_scene : Stmt := top 44
abbrev N_law_scene : List Str := ["_law_source_here", "_law_ring", "_law_good", "_law_bad", "_law_key", "_law_wrong", "_law_things", "_law_at"]
theorem sc_law_scene : FnScope N_law_scene ["_law_source_here"] (defScope s_law_scene) := ⟨rfl, rfl, rfl, by decide +kernel, rfl, by decide +kernel, by decide +kernel⟩
abbrev s_law_due : Stmt := top 45
abbrev N_law_due : List Str := ["_law_bad", "_law_names", "_law_rest", "_law_key"]
theorem sc_law_due : FnScope N_law_due ["_law_bad", "_law_names", "_law_rest"] (defScope s_law_due) := ⟨rfl, rfl, rfl, by decide +kernel, rfl, by decide +kernel, by decide +kernel⟩
abbrev s_law_all_right : Stmt := top 46
abbrev N_law_all_right : List Str := ["_law_good", "_law_bad", "_law_a", "_law_n", "_law_goals", "_law_spot", "_law_depth", "_law_one", "_law_two", "_law_first", "_law_pair", "_law_asks", "_law_key", "_law_ask", "_law_due_here"]
theorem sc_law_all_right : FnScope N_law_all_right ["_law_good", "_law_bad"] (defScope s_law_all_right) := ⟨rfl, rfl, rfl, by decide +kernel, rfl, by decide +kernel, by decide +kernel⟩
abbrev s_law_large_right : Stmt := top 47
abbrev N_law_large_right : List Str := ["_law_source_here", "_law_far", "_law_deep", "_law_vast", "_law_asks", "_law_ask", "_law_due_here"]
theorem sc_law_large_right : FnScope N_law_large_right ["_law_source_here"] (defScope s_law_large_right) := ⟨rfl, rfl, rfl, by decide +kernel, rfl, by decide +kernel, by decide +kernel⟩
abbrev s_law : Stmt := top 48
abbrev N_law : List Str := ["_law_script", "_law_cell", "_law_source_here", "_law_turn", "_law_good", "_law_bad"]
theorem sc_law : FnScope N_law ["_law_script"] (defScope s_law) := ⟨rfl, rfl, rfl, by decide +kernel, rfl, by decide +kernel, by decide +kernel⟩
/-- what the top has written -/
structure TX (K : PySem.W.Frag) (mg : Str → Option Value) where
  C_SeatError : Addr
  m_SeatError : mg "SeatError" = some (.ref C_SeatError)
  f_InvalidTargets_init : Addr
  fd_InvalidTargets_init : FuncData
  F_InvalidTargets_init : Fun K "__init__" "InvalidTargets.__init__" s_InvalidTargets_init f_InvalidTargets_init fd_InvalidTargets_init
  b_InvalidTargets_init : Binds K fd_InvalidTargets_init ["self", "index"] []
  f_InvalidWitness_init : Addr
  fd_InvalidWitness_init : FuncData
  F_InvalidWitness_init : Fun K "__init__" "InvalidWitness.__init__" s_InvalidWitness_init f_InvalidWitness_init fd_InvalidWitness_init
  b_InvalidWitness_init : Binds K fd_InvalidWitness_init ["self", "index"] []
  f_InvalidNumber_init : Addr
  fd_InvalidNumber_init : FuncData
  F_InvalidNumber_init : Fun K "__init__" "InvalidNumber.__init__" s_InvalidNumber_init f_InvalidNumber_init fd_InvalidNumber_init
  b_InvalidNumber_init : Binds K fd_InvalidNumber_init ["self", "name"] []
  f_TooLarge_init : Addr
  fd_TooLarge_init : FuncData
  F_TooLarge_init : Fun K "__init__" "TooLarge.__init__" s_TooLarge_init f_TooLarge_init fd_TooLarge_init
  b_TooLarge_init : Binds K fd_TooLarge_init ["self", "limit"] []
  f_is_integer : Addr
  fd_is_integer : FuncData
  F_is_integer : Fun K "is_integer" "is_integer" s_is_integer f_is_integer fd_is_integer
  b_is_integer : Binds K fd_is_integer ["value"] []
  m_is_integer : mg "is_integer" = some (.ref f_is_integer)
  f_is_at_least : Addr
  fd_is_at_least : FuncData
  F_is_at_least : Fun K "is_at_least" "is_at_least" s_is_at_least f_is_at_least fd_is_at_least
  b_is_at_least : Binds K fd_is_at_least ["value", "low"] []
  m_is_at_least : mg "is_at_least" = some (.ref f_is_at_least)
  f_is_between : Addr
  fd_is_between : FuncData
  F_is_between : Fun K "is_between" "is_between" s_is_between f_is_between fd_is_between
  b_is_between : Binds K fd_is_between ["value", "low", "high"] []
  m_is_between : mg "is_between" = some (.ref f_is_between)
  f_require_at_least : Addr
  fd_require_at_least : FuncData
  F_require_at_least : Fun K "require_at_least" "require_at_least" s_require_at_least f_require_at_least fd_require_at_least
  b_require_at_least : Binds K fd_require_at_least ["value", "low", "name"] []
  m_require_at_least : mg "require_at_least" = some (.ref f_require_at_least)
  f_greatest_common_divisor : Addr
  fd_greatest_common_divisor : FuncData
  F_greatest_common_divisor : Fun K "greatest_common_divisor" "greatest_common_divisor" s_greatest_common_divisor f_greatest_common_divisor fd_greatest_common_divisor
  b_greatest_common_divisor : Binds K fd_greatest_common_divisor ["first", "second"] []
  m_greatest_common_divisor : mg "greatest_common_divisor" = some (.ref f_greatest_common_divisor)
  f_odd_part : Addr
  fd_odd_part : FuncData
  F_odd_part : Fun K "odd_part" "odd_part" s_odd_part f_odd_part fd_odd_part
  b_odd_part : Binds K fd_odd_part ["number"] []
  m_odd_part : mg "odd_part" = some (.ref f_odd_part)
  f_require_places : Addr
  fd_require_places : FuncData
  F_require_places : Fun K "require_places" "require_places" s_require_places f_require_places fd_require_places
  b_require_places : Binds K fd_require_places ["size", "targets"] []
  m_require_places : mg "require_places" = some (.ref f_require_places)
  f_require_place : Addr
  fd_require_place : FuncData
  F_require_place : Fun K "require_place" "require_place" s_require_place f_require_place fd_require_place
  b_require_place : Binds K fd_require_place ["size", "place", "name"] []
  m_require_place : mg "require_place" = some (.ref f_require_place)
  f_require_limit : Addr
  fd_require_limit : FuncData
  F_require_limit : Fun K "require_limit" "require_limit" s_require_limit f_require_limit fd_require_limit
  b_require_limit : Binds K fd_require_limit ["number", "limit"] []
  m_require_limit : mg "require_limit" = some (.ref f_require_limit)
  f_rotated : Addr
  fd_rotated : FuncData
  F_rotated : Fun K "rotated" "rotated" s_rotated f_rotated fd_rotated
  b_rotated : Binds K fd_rotated ["size", "bits", "shift"] []
  m_rotated : mg "rotated" = some (.ref f_rotated)
  f_doubled : Addr
  fd_doubled : FuncData
  F_doubled : Fun K "doubled" "doubled" s_doubled f_doubled fd_doubled
  b_doubled : Binds K fd_doubled ["size", "bits"] []
  m_doubled : mg "doubled" = some (.ref f_doubled)
  f_bits_of : Addr
  fd_bits_of : FuncData
  F_bits_of : Fun K "bits_of" "bits_of" s_bits_of f_bits_of fd_bits_of
  b_bits_of : Binds K fd_bits_of ["places"] []
  m_bits_of : mg "bits_of" = some (.ref f_bits_of)
  f_sum_layers : Addr
  fd_sum_layers : FuncData
  F_sum_layers : Fun K "sum_layers" "sum_layers" s_sum_layers f_sum_layers fd_sum_layers
  b_sum_layers : Binds K fd_sum_layers ["size", "targets", "calls"] []
  m_sum_layers : mg "sum_layers" = some (.ref f_sum_layers)
  f_min_calls_on_ring : Addr
  fd_min_calls_on_ring : FuncData
  F_min_calls_on_ring : Fun K "min_calls_on_ring" "min_calls_on_ring" s_min_calls_on_ring f_min_calls_on_ring fd_min_calls_on_ring
  b_min_calls_on_ring : Binds K fd_min_calls_on_ring ["size", "targets", "place"] []
  m_min_calls_on_ring : mg "min_calls_on_ring" = some (.ref f_min_calls_on_ring)
  f_halved : Addr
  fd_halved : FuncData
  F_halved : Fun K "halved" "halved" s_halved f_halved fd_halved
  b_halved : Binds K fd_halved ["size", "bits", "amounts"] []
  m_halved : mg "halved" = some (.ref f_halved)
  f_sum_counts : Addr
  fd_sum_counts : FuncData
  F_sum_counts : Fun K "sum_counts" "sum_counts" s_sum_counts f_sum_counts fd_sum_counts
  b_sum_counts : Binds K fd_sum_counts ["size", "targets", "place", "calls"] []
  m_sum_counts : mg "sum_counts" = some (.ref f_sum_counts)
  f_inverse : Addr
  fd_inverse : FuncData
  F_inverse : Fun K "inverse" "inverse" s_inverse f_inverse fd_inverse
  b_inverse : Binds K fd_inverse ["number", "modulus"] []
  m_inverse : mg "inverse" = some (.ref f_inverse)
  f_require_two : Addr
  fd_require_two : FuncData
  F_require_two : Fun K "require_two" "require_two" s_require_two f_require_two fd_require_two
  b_require_two : Binds K fd_require_two ["size", "first", "second", "place"] []
  m_require_two : mg "require_two" = some (.ref f_require_two)
  f_two_target_sum : Addr
  fd_two_target_sum : FuncData
  F_two_target_sum : Fun K "two_target_sum" "two_target_sum" s_two_target_sum f_two_target_sum fd_two_target_sum
  b_two_target_sum : Binds K fd_two_target_sum ["size", "first", "second", "place"] []
  m_two_target_sum : mg "two_target_sum" = some (.ref f_two_target_sum)
  f_min_calls_two : Addr
  fd_min_calls_two : FuncData
  F_min_calls_two : Fun K "min_calls_two" "min_calls_two" s_min_calls_two f_min_calls_two fd_min_calls_two
  b_min_calls_two : Binds K fd_min_calls_two ["size", "first", "second", "place"] []
  m_min_calls_two : mg "min_calls_two" = some (.ref f_min_calls_two)
  f_require_counts : Addr
  fd_require_counts : FuncData
  F_require_counts : Fun K "require_counts" "require_counts" s_require_counts f_require_counts fd_require_counts
  b_require_counts : Binds K fd_require_counts ["targets", "counts"] []
  m_require_counts : mg "require_counts" = some (.ref f_require_counts)
  f_require_sum : Addr
  fd_require_sum : FuncData
  F_require_sum : Fun K "require_sum" "require_sum" s_require_sum f_require_sum fd_require_sum
  b_require_sum : Binds K fd_require_sum ["size", "targets", "place", "counts", "total"] []
  m_require_sum : mg "require_sum" = some (.ref f_require_sum)
  f_check_sum : Addr
  fd_check_sum : FuncData
  F_check_sum : Fun K "check_sum" "check_sum" s_check_sum f_check_sum fd_check_sum
  b_check_sum : Binds K fd_check_sum ["size", "targets", "place", "calls", "counts"] []
  m_check_sum : mg "check_sum" = some (.ref f_check_sum)
  f_Block_init : Addr
  fd_Block_init : FuncData
  F_Block_init : Fun K "__init__" "Block.__init__" s_Block_init f_Block_init fd_Block_init
  b_Block_init : Binds K fd_Block_init ["self", "mean", "counts", "number"] []
  f_Block_paired : Addr
  fd_Block_paired : FuncData
  F_Block_paired : Fun K "paired" "Block.paired" s_Block_paired f_Block_paired fd_Block_paired
  b_Block_paired : Binds K fd_Block_paired ["self"] []
  f_Block_joined : Addr
  fd_Block_joined : FuncData
  F_Block_joined : Fun K "joined" "Block.joined" s_Block_joined f_Block_joined fd_Block_joined
  b_Block_joined : Binds K fd_Block_joined ["self", "other"] []
  f_next_blocks : Addr
  fd_next_blocks : FuncData
  F_next_blocks : Fun K "next_blocks" "next_blocks" s_next_blocks f_next_blocks fd_next_blocks
  b_next_blocks : Binds K fd_next_blocks ["blocks"] []
  m_next_blocks : mg "next_blocks" = some (.ref f_next_blocks)
  f_call_from_sum : Addr
  fd_call_from_sum : FuncData
  F_call_from_sum : Fun K "call_from_sum" "call_from_sum" s_call_from_sum f_call_from_sum fd_call_from_sum
  b_call_from_sum : Binds K fd_call_from_sum ["size", "targets", "place", "counts"] []
  m_call_from_sum : mg "call_from_sum" = some (.ref f_call_from_sum)
  f_law_cell_at : Addr
  fd_law_cell_at : FuncData
  F_law_cell_at : Fun K "_law_cell_at" "_law_cell_at" s_law_cell_at f_law_cell_at fd_law_cell_at
  b_law_cell_at : Binds K fd_law_cell_at ["_law_script", "_law_k"] []
  m_law_cell_at : mg "_law_cell_at" = some (.ref f_law_cell_at)
  f_law_source : Addr
  fd_law_source : FuncData
  F_law_source : Fun K "_law_source" "_law_source" s_law_source f_law_source fd_law_source
  b_law_source : Binds K fd_law_source ["_law_cell"] []
  m_law_source : mg "_law_source" = some (.ref f_law_source)
  f_law_take : Addr
  fd_law_take : FuncData
  F_law_take : Fun K "_law_take" "_law_take" s_law_take f_law_take fd_law_take
  b_law_take : Binds K fd_law_take ["_law_source_here", "_law_bound"] []
  m_law_take : mg "_law_take" = some (.ref f_law_take)
  f_law_said : Addr
  fd_law_said : FuncData
  F_law_said : Fun K "_law_said" "_law_said" s_law_said f_law_said fd_law_said
  b_law_said : Binds K fd_law_said ["_law_ask"] []
  m_law_said : mg "_law_said" = some (.ref f_law_said)
  f_law_bad_number : Addr
  fd_law_bad_number : FuncData
  F_law_bad_number : Fun K "_law_bad_number" "_law_bad_number" s_law_bad_number f_law_bad_number fd_law_bad_number
  b_law_bad_number : Binds K fd_law_bad_number ["_law_source_here", "_law_low", "_law_high"] []
  m_law_bad_number : mg "_law_bad_number" = some (.ref f_law_bad_number)
  f_law_bad_targets : Addr
  fd_law_bad_targets : FuncData
  F_law_bad_targets : Fun K "_law_bad_targets" "_law_bad_targets" s_law_bad_targets f_law_bad_targets fd_law_bad_targets
  b_law_bad_targets : Binds K fd_law_bad_targets ["_law_source_here", "_law_ring"] []
  m_law_bad_targets : mg "_law_bad_targets" = some (.ref f_law_bad_targets)
  f_law_scene : Addr
  fd_law_scene : FuncData
  F_law_scene : Fun K "_law_scene" "_law_scene" s_law_scene f_law_scene fd_law_scene
  b_law_scene : Binds K fd_law_scene ["_law_source_here"] []
  m_law_scene : mg "_law_scene" = some (.ref f_law_scene)
  f_law_due : Addr
  fd_law_due : FuncData
  F_law_due : Fun K "_law_due" "_law_due" s_law_due f_law_due fd_law_due
  b_law_due : Binds K fd_law_due ["_law_bad", "_law_names", "_law_rest"] []
  m_law_due : mg "_law_due" = some (.ref f_law_due)
  f_law_all_right : Addr
  fd_law_all_right : FuncData
  F_law_all_right : Fun K "_law_all_right" "_law_all_right" s_law_all_right f_law_all_right fd_law_all_right
  b_law_all_right : Binds K fd_law_all_right ["_law_good", "_law_bad"] []
  m_law_all_right : mg "_law_all_right" = some (.ref f_law_all_right)
  f_law_large_right : Addr
  fd_law_large_right : FuncData
  F_law_large_right : Fun K "_law_large_right" "_law_large_right" s_law_large_right f_law_large_right fd_law_large_right
  b_law_large_right : Binds K fd_law_large_right ["_law_source_here"] []
  m_law_large_right : mg "_law_large_right" = some (.ref f_law_large_right)
  f_law : Addr
  fd_law : FuncData
  F_law : Fun K "law" "law" s_law f_law fd_law
  b_law : Binds K fd_law ["_law_script"] []
  m_law : mg "law" = some (.ref f_law)
  C_InvalidTargets : Addr
  m_InvalidTargets : mg "InvalidTargets" = some (.ref C_InvalidTargets)
  ox_InvalidTargets : OexC K C_InvalidTargets
  xf_InvalidTargets : XfC K C_InvalidTargets
  i_InvalidTargets : PySem.W.findIn K (.ref C_InvalidTargets) "__init__" = some (some (.ref f_InvalidTargets_init))
  ti_InvalidTargets : PySem.W.typeIn K (.ref f_InvalidTargets_init) = some (.type "function")
  em_InvalidTargets : PySem.W.exmOne K (.ref C_InvalidTargets) (.ref C_InvalidTargets) = some true
  em_InvalidTargets_SeatError : PySem.W.exmOne K (.ref C_InvalidTargets) (.ref C_SeatError) = some true
  n_InvalidTargets_index : PySem.W.findIn K (.ref C_InvalidTargets) "index" = some none
  C_InvalidWitness : Addr
  m_InvalidWitness : mg "InvalidWitness" = some (.ref C_InvalidWitness)
  ox_InvalidWitness : OexC K C_InvalidWitness
  xf_InvalidWitness : XfC K C_InvalidWitness
  i_InvalidWitness : PySem.W.findIn K (.ref C_InvalidWitness) "__init__" = some (some (.ref f_InvalidWitness_init))
  ti_InvalidWitness : PySem.W.typeIn K (.ref f_InvalidWitness_init) = some (.type "function")
  em_InvalidWitness : PySem.W.exmOne K (.ref C_InvalidWitness) (.ref C_InvalidWitness) = some true
  em_InvalidWitness_SeatError : PySem.W.exmOne K (.ref C_InvalidWitness) (.ref C_SeatError) = some true
  n_InvalidWitness_index : PySem.W.findIn K (.ref C_InvalidWitness) "index" = some none
  C_InvalidNumber : Addr
  m_InvalidNumber : mg "InvalidNumber" = some (.ref C_InvalidNumber)
  ox_InvalidNumber : OexC K C_InvalidNumber
  xf_InvalidNumber : XfC K C_InvalidNumber
  i_InvalidNumber : PySem.W.findIn K (.ref C_InvalidNumber) "__init__" = some (some (.ref f_InvalidNumber_init))
  ti_InvalidNumber : PySem.W.typeIn K (.ref f_InvalidNumber_init) = some (.type "function")
  em_InvalidNumber : PySem.W.exmOne K (.ref C_InvalidNumber) (.ref C_InvalidNumber) = some true
  em_InvalidNumber_SeatError : PySem.W.exmOne K (.ref C_InvalidNumber) (.ref C_SeatError) = some true
  n_InvalidNumber_name : PySem.W.findIn K (.ref C_InvalidNumber) "name" = some none
  C_TooLarge : Addr
  m_TooLarge : mg "TooLarge" = some (.ref C_TooLarge)
  ox_TooLarge : OexC K C_TooLarge
  xf_TooLarge : XfC K C_TooLarge
  i_TooLarge : PySem.W.findIn K (.ref C_TooLarge) "__init__" = some (some (.ref f_TooLarge_init))
  ti_TooLarge : PySem.W.typeIn K (.ref f_TooLarge_init) = some (.type "function")
  em_TooLarge : PySem.W.exmOne K (.ref C_TooLarge) (.ref C_TooLarge) = some true
  em_TooLarge_SeatError : PySem.W.exmOne K (.ref C_TooLarge) (.ref C_SeatError) = some true
  n_TooLarge_limit : PySem.W.findIn K (.ref C_TooLarge) "limit" = some none
  C_Block : Addr
  cl_Block : Cls K C_Block
  m_Block : mg "Block" = some (.ref C_Block)
  M_Block : Mk K C_Block f_Block_init
  me_Block_paired : Meth K C_Block "paired" f_Block_paired
  me_Block_joined : Meth K C_Block "joined" f_Block_joined
  n_Block_mean : NoAttr K C_Block "mean"
  n_Block_counts : NoAttr K C_Block "counts"
  n_Block_number : NoAttr K C_Block "number"
  xi_InvalidNumber : CG.ExcI K C_InvalidNumber
  xi_InvalidTargets : CG.ExcI K C_InvalidTargets
  xi_TooLarge : CG.ExcI K C_TooLarge
  xi_InvalidWitness : CG.ExcI K C_InvalidWitness
  ki_InvalidNumber_InvalidTargets : PySem.W.kitAny K (.ref C_InvalidNumber) [.ref C_InvalidTargets] = some false
  ki_InvalidNumber_TooLarge : PySem.W.kitAny K (.ref C_InvalidNumber) [.ref C_TooLarge] = some false
  ki_InvalidNumber_InvalidWitness : PySem.W.kitAny K (.ref C_InvalidNumber) [.ref C_InvalidWitness] = some false
  ki_InvalidNumber_ValueError : PySem.W.kitAny K (.ref C_InvalidNumber) [.type "ValueError"] = some true
  ki_InvalidTargets_InvalidNumber : PySem.W.kitAny K (.ref C_InvalidTargets) [.ref C_InvalidNumber] = some false
  ki_InvalidTargets_TooLarge : PySem.W.kitAny K (.ref C_InvalidTargets) [.ref C_TooLarge] = some false
  ki_InvalidTargets_InvalidWitness : PySem.W.kitAny K (.ref C_InvalidTargets) [.ref C_InvalidWitness] = some false
  ki_InvalidTargets_ValueError : PySem.W.kitAny K (.ref C_InvalidTargets) [.type "ValueError"] = some true
  ki_TooLarge_InvalidNumber : PySem.W.kitAny K (.ref C_TooLarge) [.ref C_InvalidNumber] = some false
  ki_TooLarge_InvalidTargets : PySem.W.kitAny K (.ref C_TooLarge) [.ref C_InvalidTargets] = some false
  ki_TooLarge_InvalidWitness : PySem.W.kitAny K (.ref C_TooLarge) [.ref C_InvalidWitness] = some false
  ki_TooLarge_ValueError : PySem.W.kitAny K (.ref C_TooLarge) [.type "ValueError"] = some true
  ki_InvalidWitness_InvalidNumber : PySem.W.kitAny K (.ref C_InvalidWitness) [.ref C_InvalidNumber] = some false
  ki_InvalidWitness_InvalidTargets : PySem.W.kitAny K (.ref C_InvalidWitness) [.ref C_InvalidTargets] = some false
  ki_InvalidWitness_TooLarge : PySem.W.kitAny K (.ref C_InvalidWitness) [.ref C_TooLarge] = some false
  ki_InvalidWitness_ValueError : PySem.W.kitAny K (.ref C_InvalidWitness) [.type "ValueError"] = some true
  t_MAX_SIZE : Tok
  c_MAX_SIZE : mg "MAX_SIZE" = some (.int 2000 t_MAX_SIZE)
  t_MAX_CALLS : Tok
  c_MAX_CALLS : mg "MAX_CALLS" = some (.int 40 t_MAX_CALLS)
  t_MAX_CHECKED_CALLS : Tok
  c_MAX_CHECKED_CALLS : mg "MAX_CHECKED_CALLS" = some (.int 1000 t_MAX_CHECKED_CALLS)
  z_ValueError : mg "ValueError" = none
  z_abs : mg "abs" = none
  z_bool : mg "bool" = none
  z_dict : mg "dict" = none
  z_enumerate : mg "enumerate" = none
  z_int : mg "int" = none
  z_isinstance : mg "isinstance" = none
  z_len : mg "len" = none
  z_list : mg "list" = none
  z_range : mg "range" = none
  z_reversed : mg "reversed" = none
  z_sum : mg "sum" = none
  z_tuple : mg "tuple" = none
  z_zip : mg "zip" = none
/-- the code objects and tables of the defs that make lambdas -/
structure TL {K : PySem.W.Frag} {mg : Str → Option Value} (T : TX K mg) (base : Heap) where
  c_law_all_right : Addr
  p_law_all_right : Addr
  at_law_all_right : T.fd_law_all_right.code = .ref c_law_all_right
  tb_law_all_right : LamX.TabB base mg c_law_all_right p_law_all_right
  c_law_large_right : Addr
  p_law_large_right : Addr
  at_law_large_right : T.fd_law_large_right.code = .ref c_law_large_right
  tb_law_large_right : LamX.TabB base mg c_law_large_right p_law_large_right
  ne_law_all_right_law_large_right : p_law_all_right ≠ p_law_large_right
def TL.tabs {K : PySem.W.Frag} {mg : Str → Option Value} {T : TX K mg} {base : Heap} (L : TL T base) : List (Addr × Str) := [(L.p_law_all_right, ("_law_all_right.<locals>.<lambda>" : Str)), (L.p_law_large_right, ("_law_large_right.<locals>.<lambda>" : Str))]
theorem TL.hm_law_all_right {K : PySem.W.Frag} {mg : Str → Option Value} {T : TX K mg} {base : Heap} (L : TL T base) : (L.p_law_all_right, ("_law_all_right.<locals>.<lambda>" : Str)) ∈ L.tabs := .head _
theorem TL.one_law_all_right {K : PySem.W.Frag} {mg : Str → Option Value} {T : TX K mg} {base : Heap} (L : TL T base) : ∀ p ∈ L.tabs, p.1 = L.p_law_all_right → p.2 = ("_law_all_right.<locals>.<lambda>" : Str) := fun p hp e => by
  simp only [TL.tabs, List.mem_cons, List.not_mem_nil, or_false] at hp
  rcases hp with rfl | rfl
  · rfl
  · exact absurd e.symm L.ne_law_all_right_law_large_right
theorem TL.hm_law_large_right {K : PySem.W.Frag} {mg : Str → Option Value} {T : TX K mg} {base : Heap} (L : TL T base) : (L.p_law_large_right, ("_law_large_right.<locals>.<lambda>" : Str)) ∈ L.tabs := .tail _ (.head _)
theorem TL.one_law_large_right {K : PySem.W.Frag} {mg : Str → Option Value} {T : TX K mg} {base : Heap} (L : TL T base) : ∀ p ∈ L.tabs, p.1 = L.p_law_large_right → p.2 = ("_law_large_right.<locals>.<lambda>" : Str) := fun p hp e => by
  simp only [TL.tabs, List.mem_cons, List.not_mem_nil, or_false] at hp
  rcases hp with rfl | rfl
  · exact absurd e L.ne_law_all_right_law_large_right
  · rfl
/-- not an int (a bool is none) -/
def NotI (K : PySem.W.Frag) (H : Hp) (x : V) : Prop := ∃ t b1 b2, TyX K H x t ∧ PySem.W.kitOne K t (.type "int") = some b1 ∧ PySem.W.kitOne K t (.type "bool") = some b2 ∧ (b1 && !b2) = false
/-- what x is, if an int -/
def IsI (K : PySem.W.Frag) (H : Hp) (x : V) : Option Int → Prop
  | some i => x = .int i
  | none => NotI K H x
def atLeast : Option Int → Int → Bool
  | some i, low => decide (low ≤ i)
  | none, _ => false
def between : Option Int → Int → Int → Bool
  | some i, low, high => decide (low ≤ i) && decide (i ≤ high)
  | none, _, _ => false

section
variable {P : Program} {w : World} {K : PySem.W.Frag} {mg : Str → Option Value} {base : Heap}
def sp_is_integer (K : PySem.W.Frag) : Sp := fun vs H Q _ => ∃ x o, vs = [x] ∧ IsI K H x o ∧ Q (.bl o.isSome) H
theorem ok_is_integer (T : TX K mg) : FnOk P w K mg base CX0 1 T.f_is_integer T.fd_is_integer ["value"] (sp_is_integer K) := by
  refine T.F_is_integer.ok sc_is_integer (fun vs H Q E h => ?_) (fun cdv A outer s H vs Q E hr h => ?_)
  · obtain ⟨x, o, rfl, _⟩ := h
    rfl
  · obtain ⟨x, o, rfl, hx, k⟩ := h
    refine ⟨_, (pss_one (ps_ret (pe_and (pe_callB call_isi (by rfl) T.z_isinstance (by decide +kernel) (pa_cons (pv 0) (pa_cons (pe_bltn (v := .ty "int") rfl T.z_int (by decide +kernel) rfl) pa_nil))) (pe_one (pe_not (pe_callB call_isi (by rfl) T.z_isinstance (by decide +kernel) (pa_cons (pv 0) (pa_cons (pe_bltn (v := .ty "bool") rfl T.z_bool (by decide +kernel) rfl) pa_nil)))))))), ?_⟩
    cases o with
    | some i =>
      cases hx
      exact ⟨_, rfl, _, _, _, _, true, rfl, .ty _, .base (.int i), kit_ty (by decide +kernel), _, rfl, _, rfl, _, _, _, _, false, rfl, .ty _, .base (.int i), kit_ty (by decide +kernel), _, rfl, k⟩
    | none =>
      obtain ⟨t, b1, b2, ht, h1, h2, hb⟩ := hx
      refine ⟨_, rfl, _, _, _, _, b1, rfl, .ty _, ht, h1, _, rfl, ?_⟩
      cases b1 with
      | false => exact k
      | true =>
        refine ⟨_, rfl, _, _, _, _, b2, rfl, .ty _, ht, h2, _, rfl, ?_⟩
        have e : (!b2) = false := hb
        rw [e]
        exact k
def sp_is_at_least (K : PySem.W.Frag) : Sp := fun vs H Q _ => ∃ x o low, vs = [x, .int low] ∧ IsI K H x o ∧ Q (.bl (atLeast o low)) H
theorem ok_is_at_least (T : TX K mg) : FnOk P w K mg base CX0 2 T.f_is_at_least T.fd_is_at_least ["value", "low"] (sp_is_at_least K) := by
  refine T.F_is_at_least.ok sc_is_at_least (fun vs H Q E h => ?_) (fun cdv A outer s H vs Q E hr h => ?_)
  · obtain ⟨x, o, low, rfl, _⟩ := h
    rfl
  · obtain ⟨x, o, low, rfl, hx, k⟩ := h
    refine ⟨_, (pss_one (ps_ret (pe_and (pe_call (ok_is_integer T) hr rfl T.m_is_integer T.F_is_integer.kp T.b_is_integer .nil pass0 (pa_cons (pv 0) pa_nil)) (pe_one (pe_cmpR op_ge (pv 0) (pv 1) (nomark _)))))), ?_⟩
    refine ⟨_, rfl, x, o, rfl, hx, _, rfl, ?_⟩
    cases o with
    | none => exact k
    | some i =>
      cases hx
      exact ⟨_, rfl, _, rfl, _, _, rfl, rfl, k⟩
def sp_is_between (K : PySem.W.Frag) : Sp := fun vs H Q _ => ∃ x o low high, vs = [x, .int low, .int high] ∧ IsI K H x o ∧ Q (.bl (between o low high)) H
theorem ok_is_between (T : TX K mg) : FnOk P w K mg base CX0 2 T.f_is_between T.fd_is_between ["value", "low", "high"] (sp_is_between K) := by
  refine T.F_is_between.ok sc_is_between (fun vs H Q E h => ?_) (fun cdv A outer s H vs Q E hr h => ?_)
  · obtain ⟨x, o, low, high, rfl, _⟩ := h
    rfl
  · obtain ⟨x, o, low, high, rfl, hx, k⟩ := h
    refine ⟨_, (pss_one (ps_ret (pe_and (pe_call (ok_is_integer T) hr rfl T.m_is_integer T.F_is_integer.kp T.b_is_integer .nil pass0 (pa_cons (pv 0) pa_nil)) (pe_one (pe_chain op_le op_le (pv 1) (pv 0) (pv 2)))))), ?_⟩
    refine ⟨_, rfl, x, o, rfl, hx, _, rfl, ?_⟩
    cases o with
    | none => exact k
    | some i =>
      cases hx
      refine ⟨_, rfl, _, rfl, _, _, rfl, rfl, _, rfl, ?_⟩
      refine ite2 (fun c => ?_) (fun c => ?_)
      · have c1 : low ≤ i := of_decide_eq_true c
        refine ⟨_, rfl, _, _, rfl, rfl, ?_⟩
        have e : between (some i) low high = decide (i ≤ high) := by show (decide (low ≤ i) && decide (i ≤ high)) = _; rw [c]; rfl
        rw [e] at k
        exact k
      · have e : between (some i) low high = false := by show (decide (low ≤ i) && decide (i ≤ high)) = _; rw [Bool.eq_false_iff.mpr c]; rfl
        rw [e] at k
        exact k
end

/-- a table of these sizes stands at a -/
def TabAt (C : Addr) (H : Hp) (a : Addr) (ns : List Int) : Prop := ∃ dx t, H a = some (.ins C dx [("rings", .ref t)]) ∧ H t = some (.tup (ns.map V.int))
theorem TabAt.mono {C : Addr} {H H2 : Hp} {a : Addr} {ns : List Int} (e : Ex H H2) (h : TabAt C H a ns) : TabAt C H2 a ns := by
  obtain ⟨dx, t, h1, h2⟩ := h
  exact ⟨dx, t, e _ _ h1, e _ _ h2⟩
/-- a tracked list (false) or tuple (true) -/
def SqH (H : Hp) (p : Bool × Addr) (xs : List V) : Prop := if p.1 = true then H p.2 = some (.tup xs) else H p.2 = some (.lst xs)
theorem SqH.sq {K : PySem.W.Frag} {H : Hp} {p : Bool × Addr} {xs : List V} (h : SqH H p xs) : CZ.SqK K H p xs := by
  obtain ⟨b, a⟩ := p
  cases b
  · exact SqL.of (show H a = some (.lst xs) from h)
  · exact SqT.of (show H a = some (.tup xs) from h)
theorem SqH.mono {H H2 : Hp} {p : Bool × Addr} {xs : List V} (e : Ex H H2) (h : SqH H p xs) : SqH H2 p xs := by
  obtain ⟨b, a⟩ := p
  cases b
  · exact e _ _ (show H a = some (.lst xs) from h)
  · exact e _ _ (show H a = some (.tup xs) from h)
theorem SqH.ty {K : PySem.W.Frag} {H : Hp} {p : Bool × Addr} {xs : List V} (h : SqH H p xs) : TyX K H (.ref p.2) (.type (if p.1 = true then "tuple" else "list")) := by
  obtain ⟨b, a⟩ := p
  cases b
  · exact .base (.lst (show H a = some (.lst xs) from h))
  · exact .base (.tup (show H a = some (.tup xs) from h))
/-- sizes of a table -/
structure SzOk (ns : List Int) : Prop where
  pos : ns ≠ []
  le : ns.length ≤ 4
  one : ∀ n ∈ ns, 1 ≤ n
theorem len_line {α : Type} {l : List α} (h : l.length ≤ 4) : l.length ≤ sizeLine := Nat.le_trans h (by decide)
theorem take_lt {α : Type} {l : List α} (h : l.length ≤ 1000) (i : Nat) : (l.take i).length < sizeLine := by
  rw [List.length_take]
  exact Nat.lt_of_le_of_lt (Nat.le_trans (Nat.min_le_right _ _) h) (by decide)
theorem take_more {α : Type} {l : List α} {i : Nat} {x : α} (h : l[i]? = some x) : l.take (i + 1) = l.take i ++ [x] := by
  rw [List.take_add_one, h]
  rfl
theorem kit_seq {K : PySem.W.Frag} (b : Bool) : PySem.W.kitAny K (.type (if b = true then "tuple" else "list")) [.type "list", .type "tuple"] = some true := by
  cases b
  · exact kitAny_cons (b := true) (kit_ty (by decide +kernel)) (fun h => nomatch h) (fun _ => rfl)
  · exact kitAny_cons (b := false) (kit_ty (by decide +kernel)) (fun _ => kitAny_cons (b := true) (kit_ty (by decide +kernel)) (fun h => nomatch h) (fun _ => rfl)) (fun h => nomatch h)
theorem sq_or {K : PySem.W.Frag} {H : Hp} {b : Bool} {a : Addr} {xs : List V} (h : SqH H (b, a) xs) : SqL K H a xs ∨ SqT K H a xs := by
  cases b
  · exact .inl (SqL.of (show H a = some (.lst xs) from h))
  · exact .inr (SqT.of (show H a = some (.tup xs) from h))
section
variable {P : Program} {w : World} {K : PySem.W.Frag} {mg : Str → Option Value} {base : Heap}
end

theorem TyX.mono {K : PySem.W.Frag} {H H2 : Hp} {x : V} {t : Value} (e : Ex H H2) (h : TyX K H x t) : TyX K H2 x t := by
  cases h with
  | base h =>
    cases h with
    | non => exact .base .non
    | bl x => exact .base (.bl x)
    | int x => exact .base (.int x)
    | str x => exact .base (.str x)
    | flt x => exact .base (.flt x)
    | lst h => exact .base (.lst (e _ _ h))
    | frz h => exact .base (.frz (e _ _ h))
    | tup h => exact .base (.tup (e _ _ h))
    | dK h => exact .base (.dK (e _ _ h))
    | dT h => exact .base (.dT (e _ _ h))
    | ins h a b c d f => exact .base (.ins (e _ _ h) a b c d f)
  | byt b => exact .byt b
  | set h => exact .set (e _ _ h)
  | kList a b => exact .kList a b
  | kTuple a b => exact .kTuple a b
  | kDict a b => exact .kDict a b
  | fTuple h => exact .fTuple (e _ _ h)
  | fDict h => exact .fDict (e _ _ h)
theorem IsI.mono {K : PySem.W.Frag} {H H2 : Hp} {x : V} {o : Option Int} (e : Ex H H2) (h : IsI K H x o) : IsI K H2 x o := by
  cases o with
  | some i => exact h
  | none =>
    obtain ⟨t, b1, b2, ht, r⟩ := h
    exact ⟨t, b1, b2, TyX.mono e ht, r⟩
theorem paired_get {α β : Type} {R : α → β → Prop} : ∀ {l : List α} {m : List β} {i : Nat} {x : α}, Paired R l m → l[i]? = some x → ∃ y, m[i]? = some y ∧ R x y
  | _, _, _, _, .nil, h => by simp at h
  | _, _, 0, _, .cons r _, h => by simp at h; subst h; exact ⟨_, rfl, r⟩
  | _, _, i + 1, x, .cons _ t, h => by
    obtain ⟨y, h1, h2⟩ := paired_get (i := i) (x := x) t (by simpa using h)
    exact ⟨y, by simpa using h1, h2⟩
/-- what an argument is as a tuple: its items, as ints or not -/
def TupA (K : PySem.W.Frag) (H : Hp) (x : V) : Option (List (Option Int)) → Prop
  | some os => ∃ a xs, x = .ref a ∧ H a = some (.tup xs) ∧ xs.length ≤ 1000 ∧ Paired (IsI K H) xs os
  | none => ∃ t, TyX K H x t ∧ PySem.W.kitOne K t (.type "tuple") = some false
theorem paired_ints {K : PySem.W.Frag} {H : Hp} : ∀ ps : List Int, Paired (IsI K H) (ps.map V.int) (ps.map some)
  | [] => .nil
  | p :: ps => .cons rfl (paired_ints ps)
theorem TupA.ints {K : PySem.W.Frag} {H : Hp} {a : Addr} {ps : List Int} (h : H a = some (.tup (ps.map V.int))) (hl : ps.length ≤ 1000) : TupA K H (.ref a) (some (ps.map some)) :=
  ⟨a, _, rfl, h, by rw [List.length_map]; exact hl, paired_ints ps⟩
def isSeatO (ns : List Int) : Option (List (Option Int)) → Bool
  | some os => decide (os.length = ns.length) && (List.zipWith (fun o n => between o 0 (n - 1)) os ns).all id
  | none => false
def isCallO (ns : List Int) : Option (List (Option Int)) → Bool
  | some os => decide (os.length = ns.length) && (os.map Option.isSome).all id
  | none => false
/-- a seat: one place a ring -/
def SeatOk : List Int → List Int → Prop
  | n :: ns, p :: ps => (0 ≤ p ∧ p < n) ∧ SeatOk ns ps
  | [], [] => True
  | _, _ => False
theorem SeatOk.len : ∀ {ns ps : List Int}, SeatOk ns ps → ps.length = ns.length
  | [], [], _ => rfl
  | _ :: _, _ :: _, h => by
    show _ + 1 = _ + 1
    rw [SeatOk.len h.2]
theorem seat_is : ∀ {ns ps : List Int}, SeatOk ns ps → (List.zipWith (fun o n => between o 0 (n - 1)) (ps.map some) ns).all id = true
  | [], [], _ => rfl
  | n :: ns, p :: ps, h => by
    have ih := seat_is h.2
    show (between (some p) 0 (n - 1) && _) = true
    rw [Bool.and_eq_true]
    refine ⟨?_, ih⟩
    show (decide (0 ≤ p) && decide (p ≤ n - 1)) = true
    rw [decide_eq_true h.1.1, decide_eq_true (by have := h.1.2; omega)]
    rfl
theorem isSeat_ok {ns ps : List Int} (h : SeatOk ns ps) : isSeatO ns (some (ps.map some)) = true := by
  show (decide ((ps.map some).length = ns.length) && _) = true
  rw [Bool.and_eq_true]
  exact ⟨decide_eq_true (by rw [List.length_map]; exact h.len), seat_is h⟩
theorem isCall_ok {ns cs : List Int} (h : cs.length = ns.length) : isCallO ns (some (cs.map some)) = true := by
  show (decide ((cs.map some).length = ns.length) && _) = true
  rw [Bool.and_eq_true]
  refine ⟨decide_eq_true (by rw [List.length_map]; exact h), ?_⟩
  rw [List.map_map, List.all_map, List.all_eq_true]
  exact fun _ _ => rfl
/-- a step by a multiple of a call -/
def shiftL : List Int → List Int → List Int → Int → List Int
  | n :: ns, p :: ps, c :: cs, f => (p + f * c) % n :: shiftL ns ps cs f
  | _, _, _, _ => []
theorem shift_len : ∀ {ns ps cs : List Int} {f : Int}, ps.length = ns.length → cs.length = ns.length → (shiftL ns ps cs f).length = ns.length
  | [], _, _, _, _, _ => by simp [shiftL]
  | _ :: ns, p :: ps, c :: cs, f, h1, h2 => by
    have ih := @shift_len ns ps cs f (by simpa using h1) (by simpa using h2)
    show (shiftL ns ps cs f).length + 1 = _ + 1
    rw [ih]
theorem shift_get : ∀ {ns ps cs : List Int} {f : Int} {i : Nat} {n p c : Int}, ns[i]? = some n → ps[i]? = some p → cs[i]? = some c → (shiftL ns ps cs f)[i]? = some ((p + f * c) % n)
  | n :: ns, p :: ps, c :: cs, f, 0, _, _, _, h1, h2, h3 => by
    simp at h1 h2 h3
    subst h1 h2 h3
    rfl
  | n :: ns, p :: ps, c :: cs, f, i + 1, a, b, d, h1, h2, h3 => by
    have ih := @shift_get ns ps cs f i a b d (by simpa using h1) (by simpa using h2) (by simpa using h3)
    show (shiftL ns ps cs f)[i]? = _
    exact ih
  | [], _, _, _, i, _, _, _, h1, _, _ => by simp at h1
  | _ :: _, [], _, _, i, _, _, _, _, h2, _ => by simp at h2
  | _ :: _, _ :: _, [], _, i, _, _, _, _, _, h3 => by simp at h3
theorem mul_ok {i j : Int} (h : (-(2 ^ 64) < i ∧ i < 2 ^ 64) ∨ (-(2 ^ 64) < j ∧ j < 2 ^ 64)) : IntMulOk i j := CMul.ok h
theorem zip_get {α β γ : Type} {f : α → β → γ} {l : List α} {m : List β} {i : Nat} {x : α} {y : β} (h1 : l[i]? = some x) (h2 : m[i]? = some y) : (List.zipWith f l m)[i]? = some (f x y) := by
  rw [List.getElem?_zipWith, h1, h2]
section
variable {P : Program} {w : World} {K : PySem.W.Frag} {mg : Str → Option Value} {base : Heap}
end

/-- all but what is at s stays -/
def XB (s : Addr) (H H2 : Hp) : Prop := ∀ c o, c ≠ s → H c = some o → H2 c = some o
theorem XB.refl {s : Addr} {H : Hp} : XB s H H := fun _ _ _ h => h
theorem XB.trans {s : Addr} {H H1 H2 : Hp} (a : XB s H H1) (b : XB s H1 H2) : XB s H H2 := fun c o n h => b c o n (a c o n h)
theorem XB.upd {s : Addr} {H : Hp} {o : HO} : XB s H (upd H s o) := fun c u n h => by rw [upd_ne n]; exact h
theorem XB.of {s : Addr} {H H2 : Hp} (e : Ex H H2) : XB s H H2 := fun c o _ h => e c o h
theorem XB.back {s : Addr} {H H2 : Hp} (e : XB s H H2) {p : Addr} (hn : p ≠ s) (h : H2 p = none) : H p = none := by
  cases q : H p with
  | none => rfl
  | some o => rw [e p o hn q] at h; cases h
theorem mod_lo {i n : Int} (h : 0 < n) : 0 ≤ i % n := Int.emod_nonneg i (by omega)
theorem mod_hi {i n : Int} (h : 0 < n) : i % n < n := Int.emod_lt_of_pos i h

theorem at_ex {xs : List Int} {r : Int} (h0 : 0 ≤ r) (h1 : r < xs.length) : ∃ v, v ∈ xs ∧ atI (xs.map V.int) r = some (.int v) := by
  obtain ⟨j, rfl⟩ : ∃ j : Nat, r = (j : Int) := ⟨r.toNat, by omega⟩
  have hj : j < xs.length := by omega
  refine ⟨xs[j], List.getElem_mem hj, atI_nat ?_⟩
  rw [List.getElem?_map, List.getElem?_eq_getElem hj]
  rfl
theorem pow2_pos (k : Nat) : (1 : Int) ≤ 2 ^ k := by
  have h : 0 < 2 ^ k := Nat.pow_pos (by decide)
  have e : ((2 ^ k : Nat) : Int) = (2 : Int) ^ k := by simp
  omega
theorem pow2_le {j k : Nat} (h : j ≤ k) : (2 : Int) ^ j ≤ 2 ^ k := by
  have h1 : 2 ^ j ≤ 2 ^ k := Nat.pow_le_pow_right (by decide) h
  have e1 : ((2 ^ j : Nat) : Int) = (2 : Int) ^ j := by simp
  have e2 : ((2 ^ k : Nat) : Int) = (2 : Int) ^ k := by simp
  omega
theorem shl_one {r : Int} (h0 : 0 ≤ r) (h1 : r ≤ 1000) : CShl 1 r := by
  obtain ⟨j, rfl⟩ : ∃ j : Nat, r = (j : Int) := ⟨r.toNat, by omega⟩
  exact shl_ok (n := 1) (by decide) (by omega)

/-! ### data -/
mutual
theorem eqv_refl : ∀ d : PyData, d.canLay0 = true → PyData.eqv d d = true
  | .none, _ => by simp only [PyData.eqv]
  | .bool b, _ => by simp only [PyData.eqv, beq_self_eq_true]
  | .int i, _ => by simp only [PyData.eqv, beq_self_eq_true]
  | .str x, _ => by simp only [PyData.eqv, beq_self_eq_true]
  | .list xs, h => by
    simp only [PyData.canLay0] at h
    simp only [PyData.eqv]
    exact eqvAll_refl xs h
  | .tuple xs, h => by
    simp only [PyData.canLay0] at h
    simp only [PyData.eqv]
    exact eqvAll_refl xs h
  | .dict _, h => by simp [PyData.canLay0] at h
theorem eqvAll_refl : ∀ ds : List PyData, PyData.canLayAll0 ds = true → PyData.eqvAll ds ds = true
  | [], _ => by simp only [PyData.eqvAll]
  | d :: ds, h => by
    simp only [PyData.canLayAll0, Bool.and_eq_true] at h
    simp only [PyData.eqvAll, Bool.and_eq_true]
    exact ⟨eqv_refl d h.1, eqvAll_refl ds h.2⟩
end
/-- data of a depth below n, in a form that may be laid -/
def Sh (n : Nat) (d : PyData) : Prop := d.canLay0 = true ∧ d.depth ≤ n
theorem Sh.ok {d : PyData} (h : Sh 60 d) : SeqAt.shaped d = true := by
  unfold SeqAt.shaped
  rw [h.1, decide_eq_true (Nat.le_trans h.2 (by decide))]
  rfl
theorem sh_int {n : Nat} (i : Int) : Sh n (.int i) := ⟨by simp only [PyData.canLay0], by simp only [PyData.depth]; omega⟩
theorem sh_bool {n : Nat} (i : Bool) : Sh n (.bool i) := ⟨by simp only [PyData.canLay0], by simp only [PyData.depth]; omega⟩
theorem sh_none {n : Nat} : Sh n .none := ⟨by simp only [PyData.canLay0], by simp only [PyData.depth]; omega⟩
theorem sh_all {n : Nat} : ∀ {ds : List PyData}, (∀ d ∈ ds, Sh n d) → PyData.canLayAll0 ds = true ∧ PyData.depthAll ds ≤ n
  | [], _ => ⟨by simp only [PyData.canLayAll0], by simp only [PyData.depthAll]; omega⟩
  | d :: ds, h => by
    obtain ⟨h1, h2⟩ := h d List.mem_cons_self
    obtain ⟨g1, g2⟩ := sh_all fun x hx => h x (List.mem_cons_of_mem _ hx)
    refine ⟨by simp only [PyData.canLayAll0, h1, g1, Bool.and_self], ?_⟩
    simp only [PyData.depthAll]
    omega
theorem sh_tuple {n : Nat} {ds : List PyData} (h : ∀ d ∈ ds, Sh n d) : Sh (n + 1) (.tuple ds) := by
  obtain ⟨h1, h2⟩ := sh_all h
  exact ⟨by simp only [PyData.canLay0, h1], by simp only [PyData.depth]; omega⟩
theorem sh_list {n : Nat} {ds : List PyData} (h : ∀ d ∈ ds, Sh n d) : Sh (n + 1) (.list ds) := by
  obtain ⟨h1, h2⟩ := sh_all h
  exact ⟨by simp only [PyData.canLay0, h1], by simp only [PyData.depth]; omega⟩
theorem Sh.up {n m : Nat} {d : PyData} (h : Sh n d) (e : n ≤ m) : Sh m d := ⟨h.1, Nat.le_trans h.2 e⟩
/-- a tuple of ints -/
abbrev iT (ns : List Int) : PyData := .tuple (ns.map PyData.int)
theorem sh_ints {n : Nat} (ns : List Int) : Sh (n + 1) (iT ns) := sh_tuple fun d hd => by
  obtain ⟨i, _, rfl⟩ := List.mem_map.mp hd
  exact sh_int i
theorem dpall_ints {K : PySem.W.Frag} {H : Hp} : ∀ ns : List Int, DpAll K H (ns.map V.int) (ns.map PyData.int)
  | [] => .nil
  | n :: ns => .cons (.int n) (dpall_ints ns)
theorem dp_ints {K : PySem.W.Frag} {H : Hp} {a : Addr} {ns : List Int} (h : H a = some (.tup (ns.map V.int))) : Dp K H (.ref a) (iT ns) := .tup (SqT.of h) (dpall_ints ns)
theorem eqvAll_ints : ∀ ns ms : List Int, PyData.eqvAll (ns.map PyData.int) (ms.map PyData.int) = decide (ns = ms)
  | [], [] => by simp [PyData.eqvAll]
  | [], _ :: _ => by simp [PyData.eqvAll]
  | _ :: _, [] => by simp [PyData.eqvAll]
  | n :: ns, m :: ms => by
    have ih := eqvAll_ints ns ms
    simp only [List.map_cons, PyData.eqvAll, PyData.eqv, ih]
    by_cases h : n = m
    · subst h
      simp
    · have : (n == m) = false := by simpa using h
      rw [this]
      simp [h]
theorem eqv_ints (ns ms : List Int) : PyData.eqv (iT ns) (iT ms) = decide (ns = ms) := by
  simp only [PyData.eqv]
  exact eqvAll_ints ns ms
theorem sh_pair {n : Nat} {a b : PyData} (ha : Sh n a) (hb : Sh n b) : Sh (n + 1) (.tuple [a, b]) := sh_tuple fun d hd => by
  rcases List.mem_cons.mp hd with e | e
  · rw [e]; exact ha
  · rw [List.mem_singleton.mp e]; exact hb
theorem eqv_same {d : PyData} (h : Sh 60 d) : (!PyData.eqv d d) = false := by rw [eqv_refl d h.1]; rfl

/-- the greatest common divisor -/
abbrev gcdI (a b : Int) : Int := ((Int.gcd a b : Nat) : Int)
theorem gcd_pos2 {p n : Int} (h : 1 ≤ n) : 0 < Int.gcd p n := Int.gcd_pos_of_ne_zero_right _ (by omega)
theorem gcd_turn {a b : Int} (hb : b ≠ 0) : Int.gcd b (a % b) = Int.gcd a b := by
  rw [Int.gcd_comm b, Int.emod_def, Int.sub_eq_add_neg, ← Int.mul_neg, Int.gcd_add_mul_left_left]
theorem abs45 {n : Int} (h1 : 0 ≤ n) (h2 : n ≤ 10 ^ 45) : n.natAbs < 2 ^ 150 := by
  have h5 : (10 : Int) ^ 45 < 2 ^ 150 := by decide
  have h8 : ((2 ^ 150 : Nat) : Int) = (2 : Int) ^ 150 := by simp
  omega
section
variable {P : Program} {w : World} {K : PySem.W.Frag} {mg : Str → Option Value} {base : Heap}
def sp_greatest_common_divisor : Sp := fun vs H Q _ => ∃ a b : Int, vs = [.int a, .int b] ∧ 0 ≤ a ∧ 0 ≤ b ∧ Q (.int (gcdI a b)) H
theorem ok_greatest_common_divisor (T : TX K mg) : FnOk P w K mg base CX0 1 T.f_greatest_common_divisor T.fd_greatest_common_divisor ["first", "second"] sp_greatest_common_divisor := by
  refine T.F_greatest_common_divisor.ok sc_greatest_common_divisor (fun vs H Q E h => ?_) (fun cdv A outer s H vs Q E hr h => ?_)
  · obtain ⟨a, b, rfl, _⟩ := h
    rfl
  · obtain ⟨a0, b0, rfl, h1, h2, k⟩ := h
    refine ⟨_, (pss_cons (ps_while PassesOwn.never (pt_cmpR op_ne (pv 1) pe_int (nomark _)) (pss_one (ps_par (i := 0) (j := 1) rfl sc_greatest_common_divisor.nd rfl rfl (by decide) rfl rfl (pa_cons (pv 1) (pa_cons (pe_op op_mod (pv 0) (pv 1)) pa_nil)) (by rfl)))) (pss_one (ps_ret (pe_callB call_abs (by rfl) T.z_abs (by decide +kernel) (pa_cons (pv 0) pa_nil))))), ?_⟩
    refine ⟨fun m σ H2 => ∃ a b : Int, σ = [some (.int a), some (.int b)] ∧ H2 = H ∧ 0 ≤ a ∧ 0 ≤ b ∧ Int.gcd a b = Int.gcd a0 b0 ∧ m = b.toNat, ⟨_, a0, b0, rfl, rfl, h1, h2, rfl, rfl⟩, ?_⟩
    rintro m σ _ ⟨a, b, rfl, rfl, ha, hb, hg, rfl⟩
    refine ⟨_, rfl, rfl, _, rfl, ?_⟩
    by_cases hz : b = 0
    · subst hz
      refine itf (by simp) ⟨_, rfl, a, rfl, ?_⟩
      rw [if_neg (by omega)]
      have e : (Int.gcd a 0 : Nat) = a.natAbs := by simp
      have e2 : gcdI a0 b0 = a := by
        show ((Int.gcd a0 b0 : Nat) : Int) = a
        rw [← hg, e]
        omega
      rw [e2] at k
      exact k
    · refine itt (by rw [dec_int]; simp [hz]) ⟨_, fun _ _ h => h, ?_⟩
      have q1 := Int.emod_lt_of_pos a (show 0 < b by omega)
      have q2 := Int.emod_nonneg a hz
      exact ⟨_, rfl, _, rfl, _, rfl, _, _, rfl, rfl, (by show 0 < b; omega), _, _, rfl, _, (by show (a % b).toNat < b.toNat; omega), _, _, rfl, rfl, hb, q2, by rw [gcd_turn hz, hg], rfl⟩
end

/-! ### zip's rows, nested comprehensions, lists of tuples of ints -/
theorem yrow2 {xs ys : List V} {i : Nat} {H H2 : Hp} {x : V} (h : CZ.YRow [xs, ys] i H x H2) : ∃ (Ta : Addr) (a b : V), x = .ref Ta ∧ H Ta = none ∧ H2 = upd H Ta (.tup [a, b]) ∧ xs[i]? = some a ∧ ys[i]? = some b := by
  obtain ⟨Ta, vs, rfl, hT, rfl, r⟩ := h
  cases r with
  | cons r1 r =>
    cases r with
    | cons r2 r =>
      cases r
      exact ⟨Ta, _, _, rfl, hT, rfl, r1, r2⟩
theorem yrow3 {xs ys zs : List V} {i : Nat} {H H2 : Hp} {x : V} (h : CZ.YRow [xs, ys, zs] i H x H2) : ∃ (Ta : Addr) (a b c : V), x = .ref Ta ∧ H Ta = none ∧ H2 = upd H Ta (.tup [a, b, c]) ∧ xs[i]? = some a ∧ ys[i]? = some b ∧ zs[i]? = some c := by
  obtain ⟨Ta, vs, rfl, hT, rfl, r⟩ := h
  cases r with
  | cons r1 r =>
    cases r with
    | cons r2 r =>
      cases r with
      | cons r3 r =>
        cases r
        exact ⟨Ta, _, _, _, rfl, hT, rfl, r1, r2, r3⟩
theorem yints2 {xs ys : List Int} {i : Nat} {H H2 : Hp} {x : V} (h : CZ.YRow [xs.map V.int, ys.map V.int] i H x H2) : ∃ (Ta : Addr) (a b : Int), x = .ref Ta ∧ H Ta = none ∧ H2 = upd H Ta (.tup [.int a, .int b]) ∧ xs[i]? = some a ∧ ys[i]? = some b := by
  obtain ⟨Ta, a, b, rfl, hT, rfl, r1, r2⟩ := yrow2 h
  obtain ⟨p, hp, rfl⟩ := map_get r1
  obtain ⟨q, hq, rfl⟩ := map_get r2
  exact ⟨Ta, p, q, rfl, hT, rfl, hp, hq⟩
theorem yints3 {xs ys zs : List Int} {i : Nat} {H H2 : Hp} {x : V} (h : CZ.YRow [xs.map V.int, ys.map V.int, zs.map V.int] i H x H2) : ∃ (Ta : Addr) (a b c : Int), x = .ref Ta ∧ H Ta = none ∧ H2 = upd H Ta (.tup [.int a, .int b, .int c]) ∧ xs[i]? = some a ∧ ys[i]? = some b ∧ zs[i]? = some c := by
  obtain ⟨Ta, a, b, c, rfl, hT, rfl, r1, r2, r3⟩ := yrow3 h
  obtain ⟨p, hp, rfl⟩ := map_get r1
  obtain ⟨q, hq, rfl⟩ := map_get r2
  obtain ⟨r, hr, rfl⟩ := map_get r3
  exact ⟨Ta, p, q, r, rfl, hT, rfl, hp, hq, hr⟩
theorem all2 {K : PySem.W.Frag} {H : Hp} {p q : Bool × Addr} {xs ys : List V} (hp : CZ.SqK K H p xs) (hq : CZ.SqK K H q ys) : ∀ r ∈ [p, q], ∃ zs, CZ.SqK K H r zs := fun r hr => by
  rcases List.mem_cons.mp hr with e | hr
  · rw [e]; exact ⟨_, hp⟩
  · rw [List.mem_singleton.mp hr]; exact ⟨_, hq⟩
theorem all3 {K : PySem.W.Frag} {H : Hp} {p q t : Bool × Addr} {xs ys us : List V} (hp : CZ.SqK K H p xs) (hq : CZ.SqK K H q ys) (ht : CZ.SqK K H t us) : ∀ r ∈ [p, q, t], ∃ zs, CZ.SqK K H r zs := fun r hr => by
  rcases List.mem_cons.mp hr with e | hr
  · rw [e]; exact ⟨_, hp⟩
  · exact all2 hq ht r hr
theorem lens2 {xs ys : List V} {n : Nat} (h1 : xs.length = n) (h2 : ys.length = n) : ∀ zs ∈ [xs, ys], zs.length = n := fun zs hz => by
  rcases List.mem_cons.mp hz with e | hz
  · rw [e]; exact h1
  · rw [List.mem_singleton.mp hz]; exact h2
theorem lens3 {xs ys us : List V} {n : Nat} (h1 : xs.length = n) (h2 : ys.length = n) (h3 : us.length = n) : ∀ zs ∈ [xs, ys, us], zs.length = n := fun zs hz => by
  rcases List.mem_cons.mp hz with e | hz
  · rw [e]; exact h1
  · exact lens2 h2 h3 zs hz
theorem sqT {K : PySem.W.Frag} {H : Hp} {a : Addr} {xs : List V} (h : H a = some (.tup xs)) : CZ.SqK K H (true, a) xs := SqT.of h
theorem sqL {K : PySem.W.Frag} {H : Hp} {a : Addr} {xs : List V} (h : H a = some (.lst xs)) : CZ.SqK K H (false, a) xs := SqL.of h
section
variable {J : It} {n : Nat} {G : Hp → Prop} {Y : Nat → Hp → V → Hp → Prop}
/-- a comprehension of two loops: the outer -/
theorem lc2_it (w : Walk J n G Y) {g g1 : TG} {tt tt1 : TT} {te : TE} {wi1 : TI} {vs vs1 : List Nat} {σ : L2.St} {H1 : Hp} {D : Addr} {Qd : Hp → Prop} (Pv : Nat → Hp → Prop) (h0 : Pv 0 (upd H1 D (.lst []))) (hG : ∀ i H, i ≤ n → Pv i H → G H)
    (hs : ∀ i x H H2, i < n → Pv i H → Y i H x H2 → g x (wipe σ vs) H2 fun σ2 H2 => wipe σ2 vs = wipe σ vs ∧ tt σ2 H2 fun b H3 =>
      if b = true then wi1 σ2 H3 fun J1 H4 => ∃ W1 : Nat → Nat → Hp → Prop, (∃ m, W1 0 m H4) ∧ ∀ j k H, W1 j k H →
        (J1.stop j H ∧ Pv (i + 1) H) ∨ (J1.go j H ∧ ∃ Nx1 : Hp → Prop, (∀ H2, Nx1 H2 → ∃ k2, k2 < k ∧ W1 (j + 1) k2 H2) ∧ ∀ x H2, J1.yld j H x H2 → g1 x (wipe σ2 vs1) H2 fun σ3 H5 => wipe σ3 vs1 = wipe σ2 vs1 ∧ tt1 σ3 H5 fun b H6 =>
          if b = true then te σ3 H6 fun y H7 => ∃ acc, H7 D = some (.lst acc) ∧ acc.length < sizeLine ∧ Nx1 (upd H7 D (.lst (acc ++ [y]))) else Nx1 H6)
      else Pv (i + 1) H3) (hd : ∀ H, Pv n H → Qd H) :
    ∃ W : Nat → Nat → Hp → Prop, (∃ m, W 0 m (upd H1 D (.lst []))) ∧ ∀ i m H, W i m H →
      (J.stop i H ∧ Qd H) ∨ (J.go i H ∧ ∃ Nx : Hp → Prop, (∀ H2, Nx H2 → ∃ m2, m2 < m ∧ W (i + 1) m2 H2) ∧ ∀ x H2, J.yld i H x H2 → g x (wipe σ vs) H2 fun σ2 H2 => wipe σ2 vs = wipe σ vs ∧ tt σ2 H2 fun b H3 =>
        if b = true then wi1 σ2 H3 fun J1 H4 => ∃ W1 : Nat → Nat → Hp → Prop, (∃ m, W1 0 m H4) ∧ ∀ j k H, W1 j k H →
          (J1.stop j H ∧ Nx H) ∨ (J1.go j H ∧ ∃ Nx1 : Hp → Prop, (∀ H2, Nx1 H2 → ∃ k2, k2 < k ∧ W1 (j + 1) k2 H2) ∧ ∀ x H2, J1.yld j H x H2 → g1 x (wipe σ2 vs1) H2 fun σ3 H5 => wipe σ3 vs1 = wipe σ2 vs1 ∧ tt1 σ3 H5 fun b H6 =>
            if b = true then te σ3 H6 fun y H7 => ∃ acc, H7 D = some (.lst acc) ∧ acc.length < sizeLine ∧ Nx1 (upd H7 D (.lst (acc ++ [y]))) else Nx1 H6)
        else Nx H3) := by
  refine ⟨fun i m H => m = n - i ∧ i ≤ n ∧ Pv i H, ⟨n, by simp, Nat.zero_le _, h0⟩, ?_⟩
  rintro i m H ⟨rfl, hi, p⟩
  have q := hG i H hi p
  by_cases hlt : i < n
  · refine .inr ⟨w.goes i H hlt q, Pv (i + 1), fun H2 p2 => ⟨n - (i + 1), by omega, rfl, hlt, p2⟩, fun x H2 y => hs i x H H2 hlt p (w.yields i H x H2 hlt q y)⟩
  · have e : i = n := by omega
    subst e
    exact .inl ⟨w.stops H q, hd H p⟩
/-- .. the inner -/
theorem in_it (w : Walk J n G Y) {g1 : TG} {tt1 : TT} {te : TE} {vs1 : List Nat} {σ2 : L2.St} {H4 : Hp} {D : Addr} {Nx : Hp → Prop} (Pw : Nat → Hp → Prop) (h0 : Pw 0 H4) (hG : ∀ i H, i ≤ n → Pw i H → G H)
    (hs : ∀ j x H H2, j < n → Pw j H → Y j H x H2 → g1 x (wipe σ2 vs1) H2 fun σ3 H5 => wipe σ3 vs1 = wipe σ2 vs1 ∧ tt1 σ3 H5 fun b H6 =>
      if b = true then te σ3 H6 fun y H7 => ∃ acc, H7 D = some (.lst acc) ∧ acc.length < sizeLine ∧ Pw (j + 1) (upd H7 D (.lst (acc ++ [y]))) else Pw (j + 1) H6) (hd : ∀ H, Pw n H → Nx H) :
    ∃ W1 : Nat → Nat → Hp → Prop, (∃ m, W1 0 m H4) ∧ ∀ j k H, W1 j k H →
      (J.stop j H ∧ Nx H) ∨ (J.go j H ∧ ∃ Nx1 : Hp → Prop, (∀ H2, Nx1 H2 → ∃ k2, k2 < k ∧ W1 (j + 1) k2 H2) ∧ ∀ x H2, J.yld j H x H2 → g1 x (wipe σ2 vs1) H2 fun σ3 H5 => wipe σ3 vs1 = wipe σ2 vs1 ∧ tt1 σ3 H5 fun b H6 =>
        if b = true then te σ3 H6 fun y H7 => ∃ acc, H7 D = some (.lst acc) ∧ acc.length < sizeLine ∧ Nx1 (upd H7 D (.lst (acc ++ [y]))) else Nx1 H6) := by
  refine ⟨fun i m H => m = n - i ∧ i ≤ n ∧ Pw i H, ⟨n, by simp, Nat.zero_le _, h0⟩, ?_⟩
  rintro i m H ⟨rfl, hi, p⟩
  have q := hG i H hi p
  by_cases hlt : i < n
  · refine .inr ⟨w.goes i H hlt q, Pw (i + 1), fun H2 p2 => ⟨n - (i + 1), by omega, rfl, hlt, p2⟩, fun x H2 y => hs i x H H2 hlt p (w.yields i H x H2 hlt q y)⟩
  · have e : i = n := by omega
    subst e
    exact .inl ⟨w.stops H q, hd H p⟩
end
/-- refs of tuples of ints -/
def RowsR (H : Hp) (xs : List V) (hss : List (List Int)) : Prop := Paired (fun x hs => ∃ r, x = V.ref r ∧ H r = some (.tup (hs.map V.int))) xs hss
theorem RowsR.mono {H H2 : Hp} (e : Ex H H2) : ∀ {xs : List V} {hss : List (List Int)}, RowsR H xs hss → RowsR H2 xs hss
  | _, _, .nil => .nil
  | _, _, .cons ⟨r, h1, h2⟩ t => .cons ⟨r, h1, e _ _ h2⟩ (RowsR.mono e t)
theorem RowsR.snoc {H : Hp} {r : Addr} {hs : List Int} (h : H r = some (.tup (hs.map V.int))) : ∀ {xs : List V} {hss : List (List Int)}, RowsR H xs hss → RowsR H (xs ++ [.ref r]) (hss ++ [hs])
  | _, _, .nil => .cons ⟨r, rfl, h⟩ .nil
  | _, _, .cons q t => .cons q (RowsR.snoc h t)
theorem RowsR.app {H : Hp} {ys : List V} {kss : List (List Int)} (h : RowsR H ys kss) : ∀ {xs : List V} {hss : List (List Int)}, RowsR H xs hss → RowsR H (xs ++ ys) (hss ++ kss)
  | _, _, .nil => h
  | _, _, .cons q t => .cons q (RowsR.app h t)
theorem RowsR.len {H : Hp} : ∀ {xs : List V} {hss : List (List Int)}, RowsR H xs hss → xs.length = hss.length
  | _, _, .nil => rfl
  | _, _, .cons _ t => by rw [List.length_cons, List.length_cons, RowsR.len t]
theorem RowsR.get {H : Hp} : ∀ {xs : List V} {hss : List (List Int)} {i : Nat} {x : V}, RowsR H xs hss → xs[i]? = some x → ∃ hs r, hss[i]? = some hs ∧ x = V.ref r ∧ H r = some (.tup (hs.map V.int))
  | _, _, _, _, .nil, h => by simp at h
  | _, _, 0, _, .cons ⟨r, e, q⟩ _, h => by
    simp only [List.length_cons, Nat.zero_lt_succ, List.getElem?_eq_getElem, List.getElem_cons_zero, Option.some.injEq] at h
    subst h
    exact ⟨_, r, rfl, e, q⟩
  | _, _, i + 1, _, .cons _ t, h => by
    rw [List.getElem?_cons_succ] at h ⊢
    exact RowsR.get t h
theorem RowsR.dp {K : PySem.W.Frag} {H : Hp} : ∀ {xs : List V} {hss : List (List Int)}, RowsR H xs hss → DpAll K H xs (hss.map iT)
  | _, _, .nil => .nil
  | _, _, .cons ⟨r, e, q⟩ t => by
    subst e
    exact .cons (dp_ints q) (RowsR.dp t)
/-- a list of tuples of ints -/
def RowsAt (H : Hp) (D : Addr) (hss : List (List Int)) : Prop := ∃ xs, H D = some (.lst xs) ∧ RowsR H xs hss
theorem RowsAt.mono {H H2 : Hp} {D : Addr} {hss : List (List Int)} (e : Ex H H2) (h : RowsAt H D hss) : RowsAt H2 D hss := by
  obtain ⟨xs, h1, h2⟩ := h
  exact ⟨xs, e _ _ h1, h2.mono e⟩
theorem RowsAt.dp {K : PySem.W.Frag} {H : Hp} {D : Addr} {hss : List (List Int)} (h : RowsAt H D hss) : Dp K H (.ref D) (.list (hss.map iT)) := by
  obtain ⟨xs, h1, h2⟩ := h
  exact .lst (SqL.of h1) h2.dp
theorem sh_rows {n : Nat} (hss : List (List Int)) : Sh (n + 2) (.list (hss.map iT)) := sh_list fun d hd => by
  obtain ⟨hs, _, rfl⟩ := List.mem_map.mp hd
  exact sh_ints hs
theorem eqvAll_rows : ∀ ns ms : List (List Int), PyData.eqvAll (ns.map iT) (ms.map iT) = decide (ns = ms)
  | [], [] => by simp [PyData.eqvAll]
  | [], _ :: _ => by simp [PyData.eqvAll]
  | _ :: _, [] => by simp [PyData.eqvAll]
  | n :: ns, m :: ms => by
    have ih := eqvAll_rows ns ms
    simp only [List.map_cons, PyData.eqvAll, eqv_ints, ih]
    by_cases h : n = m
    · subst h
      simp
    · simp [h]
theorem eqv_rows (ns ms : List (List Int)) : PyData.eqv (.list (ns.map iT)) (.list (ms.map iT)) = decide (ns = ms) := by
  simp only [PyData.eqv]
  exact eqvAll_rows ns ms
theorem RowsR.upd {H : Hp} {D : Addr} {acc : List V} {o : HO} (hD : H D = some (.lst acc)) : ∀ {xs : List V} {hss : List (List Int)}, RowsR H xs hss → RowsR (upd H D o) xs hss
  | _, _, .nil => .nil
  | _, _, .cons ⟨r, h1, h2⟩ t => .cons ⟨r, h1, by rw [upd_ne (ne_of h2 hD (by intro z; cases z))]; exact h2⟩ (RowsR.upd hD t)
theorem rows_push {H : Hp} {D u : Addr} {hss : List (List Int)} {ks : List Int} (h : RowsAt H D hss) (hu : H u = some (.tup (ks.map V.int))) : ∃ acc, H D = some (.lst acc) ∧ acc.length = hss.length ∧ RowsAt (upd H D (.lst (acc ++ [.ref u]))) D (hss ++ [ks]) := by
  obtain ⟨xs, h1, h2⟩ := h
  refine ⟨xs, h1, h2.len, _, upd_same, ?_⟩
  exact RowsR.snoc (by rw [upd_ne (ne_of hu h1 (by intro z; cases z))]; exact hu) (h2.upd h1)
theorem ex_upd {H H2 : Hp} {D : Addr} {o : HO} (e : Ex H H2) (hD : H D = none) : Ex H (upd H2 D o) := fun c u z => by
  rw [upd_ne (ne_of_none z hD)]
  exact e c u z
theorem ext {H H1 H2 : Hp} (a : Ex H H1) (b : Ex H1 H2) : Ex H H2 := fun c o z => b c o (a c o z)

/-! ### tuple * int, from 1 on -/
theorem u65 {k : Nat} {A : Around} (r : Room k A) : A.units + 65 < cLine := by have := r.un; omega
theorem tuple_mul1 (l : Addr) (items : Array Value) (n : Nat) (dd : Option Addr) (sl : Array (Option Value)) (x : Int) (u : Tok) (c0 : (decide (x < -(2 ^ 63)) || decide (x ≥ 2 ^ 63)) = false) (c1 : (items.isEmpty || x == 1) = true) :
    Meets (Builtin.«tuple.__mul__» ⟨[.ref l, .int x u], []⟩) (fun _ R s => s.heap.get? l = some { cls := .type "tuple", dict := dd, data := .seq items n, slots := sl } ∧ R (.ok (.ret (Value.ref l))) s) :=
  .of_wp fun prog w A R s h => by
    obtain ⟨hp, g, d, tk, os⟩ := s
    obtain ⟨hl, h⟩ := h
    have f1 := AutoSeq1.idx_int
    wp_walk using wpAny_loadPart' hl
    repeat (first
      | (refine wpAny_ite_false (decide_eq_false (by rw [c0]; exact Bool.false_ne_true)) ?_; wp_walk using wpAny_loadPart' hl)
      | (refine wpAny_ite_true (decide_eq_true c1) ?_; wp_walk using wpAny_loadPart' hl))
    exact ⟨_, rfl, h⟩
def rRepA (K : PySem.W.Frag) : R2 := fun x y H Q => ∃ l k xs, x = .ref l ∧ y = .int k ∧ SqT K H l xs ∧ xs ≠ [] ∧ 1 ≤ k ∧ k ≤ 1000 ∧ xs.length ≤ 1000 ∧ (k = 1 → Q (.ref l) H) ∧ ∀ p, H p = none → Q (.ref p) (upd H p (.tup (List.replicate k.toNat xs).flatten))
theorem op_repA {X : Cx} : OpR X (binaryOp .Mult) (rRepA X.K) := by
  intro pins s σ H x y v u Q I rx ry h
  obtain ⟨l, k, xs, ex, ey, hT, hne, h1, h2, hz, q1, q⟩ := h
  by_cases hk : k = 1
  · subst ex ey hk
    cases rx
    obtain ⟨t, rfl⟩ := ry
    obtain ⟨its, r, ⟨⟨cls, dd, data, sl⟩, ho, hc, n, hd⟩, hs⟩ := I.tuple hT
    simp only at hc hd
    subst hc hd
    refine wpAny_binaryOp_repeat_ref (T := "tuple") (U := "int") (by decide) ⟨_, ho, rfl⟩ (fun s2 => typeIs_int s2 1 t) noFill_tuple_mul PySem.F.fills_int_mul PySem.F.slot_int_rmul repeat_tuple PySem.F.slot_int_index.lookup
      (call_meets PySem.F.slot_int_rmul (typeIs_int s 1 t) PySem.F.entry_int_rmul (PySem.F.args_int_rmul_2 _ _) (int_rmul_tuple 1 t l its.toArray n dd sl)
        ⟨ho, rfl, ⟨_, ho, rfl⟩, call_meets PySem.F.slot_tuple_mul ⟨_, ho, rfl⟩ PySem.F.entry_tuple_mul (PySem.F.args_tuple_mul_2 _ _) (tuple_mul1 l its.toArray n dd sl 1 t (by decide) (by simp)) ⟨ho, ?_⟩⟩)
    exact ⟨.ref l, H, I, rfl, q1 rfl⟩
  · exact op_repT pins s σ H x y v u Q I rx ry ⟨l, k, xs, ex, ey, hT, hne, by omega, h2, hz, q⟩
/-- (x,) * k -/
theorem rep_one (x : V) (k : Nat) : (List.replicate k [x]).flatten = List.replicate k x := by
  induction k with
  | zero => rfl
  | succ k ih => rw [List.replicate_succ, List.flatten_cons, ih, List.replicate_succ]; rfl
theorem rep_ints {K : PySem.W.Frag} {H : Hp} {Q : VK} {u : Addr} {x k : Int} (hu : H u = some (.tup [.int x])) (h1 : 1 ≤ k) (h2 : k ≤ 1000) (h : ∀ q H2, Ex H H2 → H2 q = some (.tup ((List.replicate k.toNat x).map V.int)) → Q (.ref q) H2) : rRepA K (.ref u) (.int k) H Q := by
  refine ⟨u, k, [.int x], rfl, rfl, SqT.of hu, (fun z => nomatch z), h1, h2, (by show 1 ≤ 1000; decide), fun e => ?_, fun p hp => ?_⟩
  · subst e
    exact h u H exr hu
  · refine h p _ (exn hp) ?_
    rw [upd_same, rep_one, List.map_replicate]
theorem ne_same {a b : List Int} (h : a = b) : (!PyData.eqv (iT a) (iT b)) = false := by rw [h]; exact eqv_same (sh_ints b)
/-- a comprehension over a tuple of ints, by a value each -/
theorem row_in {hss : List (List Int)} {ps : List Int} (h : ps ∈ hss) : ((hss.map iT).any fun z => PyData.eqv z (iT ps)) = true := by
  rw [List.any_eq_true]
  exact ⟨iT ps, List.mem_map.mpr ⟨ps, h, rfl⟩, by rw [eqv_ints]; simp⟩
/-- a list of ints -/
abbrev iL (ns : List Int) : PyData := .list (ns.map PyData.int)
theorem sh_ilist {n : Nat} (ns : List Int) : Sh (n + 1) (iL ns) := sh_list fun d hd => by
  obtain ⟨i, _, rfl⟩ := List.mem_map.mp hd
  exact sh_int i
theorem dp_ilist {K : PySem.W.Frag} {H : Hp} {a : Addr} {ns : List Int} (h : H a = some (.lst (ns.map V.int))) : Dp K H (.ref a) (iL ns) := .lst (SqL.of h) (dpall_ints ns)
theorem eqv_ilist (ns ms : List Int) : PyData.eqv (iL ns) (iL ms) = decide (ns = ms) := by
  simp only [PyData.eqv]
  exact eqvAll_ints ns ms
theorem dec_bl {a b : Bool} (h : a = b) : (!decide (V.bl a = V.bl b)) = false := by rw [h]; simp
theorem emod_eq_iff {a b n : Int} : a % n = b % n ↔ n ∣ a - b := by
  rw [Int.emod_eq_emod_iff_emod_sub_eq_zero, Int.dvd_iff_emod_eq_zero]
/-- behind an if that changes names alone -/
theorem ifs_cutS {c : TT} {t u : TS} {D : Ends} {σ : L2.St} {H : Hp} (R : L2.St → Prop) (hR : ∀ σ2, R σ2 → D.nx σ2 H) (h : ∀ N : L2.St → Hp → Prop, (∀ σ2, R σ2 → N σ2 H) → tIfS c t u { D with nx := N } σ H) : tIfS c t u D σ H :=
  h D.nx hR

/-- a comprehension that lengthens a row by each of ks -/
theorem lc_rows {J : It} {n : Nat} {G : Hp → Prop} {Y : Nat → Hp → V → Hp → Prop} (w : Walk J n G Y) {g : TG} {te : TE} {vs : List Nat} {σ : L2.St} {H1 : Hp} {D : Addr} {Qd : Hp → Prop} (row ks : List Int) (hn : ks.length = n) (hl : n ≤ 10000000) (hD : H1 D = none)
    (hG : ∀ H, Ex H1 H → G H)
    (hs : ∀ i x H H2 (R : VK), i < n → Ex H1 H → Y i H x H2 → (∀ k v H5, Ex H H5 → ks[i]? = some k → H5 v = some (.tup ((row ++ [k]).map V.int)) → R (.ref v) H5) → g x (wipe σ vs) H2 fun σ2 H3 => wipe σ2 vs = wipe σ vs ∧ te σ2 H3 R)
    (hg : ∀ x σ2 H2 (R R2 : L2.St → Hp → Prop), (∀ σ3 H3, R σ3 H3 → R2 σ3 H3) → g x σ2 H2 R → g x σ2 H2 R2)
    (hd : ∀ H, Ex H1 H → RowsAt H D (ks.map fun k => row ++ [k]) → Qd H) :
    ∃ W : Nat → Nat → Hp → Prop, (∃ m, W 0 m (upd H1 D (.lst []))) ∧ ∀ i m H, W i m H →
      (J.stop i H ∧ Qd H) ∨ (J.go i H ∧ ∃ Nx : Hp → Prop, (∀ H2, Nx H2 → ∃ m2, m2 < m ∧ W (i + 1) m2 H2) ∧ ∀ x H2, J.yld i H x H2 → g x (wipe σ vs) H2 fun σ2 H3 => wipe σ2 vs = wipe σ vs ∧ tYes σ2 H3 fun b H4 =>
        if b = true then te σ2 H4 fun y H5 => ∃ acc, H5 D = some (.lst acc) ∧ acc.length < sizeLine ∧ Nx (upd H5 D (.lst (acc ++ [y]))) else Nx H4) := by
  refine lc_it w (fun i H => Ex H1 H ∧ RowsAt H D ((ks.take i).map fun k => row ++ [k])) ⟨exn hD, _, upd_same, .nil⟩ (fun i H _ p => hG H p.1) (fun i x H H2 hi p y => ?_) (fun H p => hd H p.1 (by have := p.2; rwa [List.take_of_length_le (by rw [hn]; exact Nat.le_refl _)] at this))
  refine hg _ _ _ _ _ (fun σ3 H3 q => ⟨q.1, q.2⟩) (hs i x H H2 (fun y H5 => ∃ acc, H5 D = some (.lst acc) ∧ acc.length < sizeLine ∧ Ex H1 (upd H5 D (.lst (acc ++ [y]))) ∧ RowsAt (upd H5 D (.lst (acc ++ [y]))) D ((ks.take (i + 1)).map fun k => row ++ [k])) hi p.1 y fun k v H5 e hk hv => ?_)
  obtain ⟨acc, h1, h2, h3⟩ := rows_push (p.2.mono e) hv
  refine ⟨acc, h1, ?_, ex_upd (ext p.1 e) hD, ?_⟩
  · rw [h2, List.length_map, List.length_take]
    exact Nat.lt_of_le_of_lt (Nat.le_trans (Nat.min_le_right _ _) (by rw [hn]; exact hl)) (by decide)
  · rw [take_more hk, List.map_append]
    exact h3
/-- row + (k,) -/
theorem cat_row {K : PySem.W.Frag} {H : Hp} {Q : VK} {r u : Addr} {row : List Int} {k : Int} (hr : H r = some (.tup (row.map V.int))) (hu : H u = some (.tup [.int k])) (hl : row.length ≤ 1000) (h : ∀ v H5, Ex H H5 → H5 v = some (.tup ((row ++ [k]).map V.int)) → Q (.ref v) H5) : rCatA K (.ref r) (.ref u) H Q := by
  refine ⟨r, u, row.map V.int, [.int k], rfl, rfl, SqT.of hr, SqT.of hu, ?_, fun z => ?_, fun _ z => (nomatch z), fun _ _ v hv => ?_⟩
  · rw [List.length_map]
    exact Nat.le_trans (show _ + 1 ≤ 1001 by omega) (by decide)
  · have : row = [] := List.map_eq_nil_iff.mp z
    subst this
    exact h u H exr hu
  · refine h v _ (exn hv) ?_
    rw [upd_same, List.map_append]
    rfl
theorem rows_ext {H : Hp} {D E : Addr} {hss kss : List (List Int)} (h1 : RowsAt H D hss) (h2 : RowsAt H E kss) (ne : D ≠ E) : ∃ xs zs, H D = some (.lst xs) ∧ H E = some (.lst zs) ∧ xs.length = hss.length ∧ zs.length = kss.length ∧ RowsAt (upd H D (.lst (xs ++ zs))) D (hss ++ kss) := by
  obtain ⟨xs, a1, a2⟩ := h1
  obtain ⟨zs, b1, b2⟩ := h2
  exact ⟨xs, zs, a1, b1, a2.len, b2.len, _, upd_same, RowsR.app (b2.upd a1) (a2.upd a1)⟩

theorem eqT {i j : Int} (h : decide (V.int i = V.int j) = true) : i = j := V.int.inj (of_decide_eq_true h)
theorem eqF {i j : Int} (h : ¬decide (V.int i = V.int j) = true) : i ≠ j := fun z => h (decide_eq_true (by rw [z]))
/-- behind an if -/
theorem ifs_cutG {c : TT} {t u : TS} {D : Ends} {σ : L2.St} {H : Hp} (R : L2.St → Hp → Prop) (hR : ∀ σ2 H2, R σ2 H2 → D.nx σ2 H2) (h : ∀ N : L2.St → Hp → Prop, (∀ σ2 H2, R σ2 H2 → N σ2 H2) → tIfS c t u { D with nx := N } σ H) : tIfS c t u D σ H :=
  h D.nx hR
theorem exG {H H4 : Hp} {p : Addr} {o : HO} (h : upd H p o = H4) (n : H p = none) : Ex H H4 := h ▸ exn n
theorem atG {H H4 : Hp} {p : Addr} {o : HO} (h : upd H p o = H4) : H4 p = some o := h ▸ upd_same
theorem slen {n : Nat} (h : Nat.ble n 1000 = true) : n ≤ sizeLine := Nat.le_trans (Nat.le_of_ble_eq_true h) (by decide)
/-- a comprehension with a test: what passes, by f -/
theorem lc_filt {α : Type} {J : It} {n : Nat} {G : Hp → Prop} {Y : Nat → Hp → V → Hp → Prop} (w : Walk J n G Y) {g : TG} {tt : TT} {te : TE} {vs : List Nat} {σ : L2.St} {H1 : Hp} {D : Addr} {Qd : Hp → Prop} (xs : List α) (c : α → Bool) (f : α → V) (hn : xs.length = n) (hl : n ≤ 10000000) (hD : H1 D = none)
    (hG : ∀ H, Ex H1 H → G H)
    (hs : ∀ i x a H H2 (R : VK) (S : Hp → Prop), xs[i]? = some a → Ex H1 H → Y i H x H2 → (∀ y H5, Ex H H5 → c a = true → y = f a → R y H5) → (∀ H4, Ex H H4 → c a = false → S H4) → g x (wipe σ vs) H2 fun σ2 H3 => wipe σ2 vs = wipe σ vs ∧ tt σ2 H3 fun b H4 => if b = true then te σ2 H4 R else S H4)
    (hd : ∀ H, Ex H1 H → H D = some (.lst ((xs.filter c).map f)) → Qd H) :
    ∃ W : Nat → Nat → Hp → Prop, (∃ m, W 0 m (upd H1 D (.lst []))) ∧ ∀ i m H, W i m H →
      (J.stop i H ∧ Qd H) ∨ (J.go i H ∧ ∃ Nx : Hp → Prop, (∀ H2, Nx H2 → ∃ m2, m2 < m ∧ W (i + 1) m2 H2) ∧ ∀ x H2, J.yld i H x H2 → g x (wipe σ vs) H2 fun σ2 H3 => wipe σ2 vs = wipe σ vs ∧ tt σ2 H3 fun b H4 =>
        if b = true then te σ2 H4 fun y H5 => ∃ acc, H5 D = some (.lst acc) ∧ acc.length < sizeLine ∧ Nx (upd H5 D (.lst (acc ++ [y]))) else Nx H4) := by
  refine lc_out w (fun i => ((xs.take i).filter c).map f) (by simp) hD (fun i hi => ?_) hG (fun i x H H2 Nx hi e hDi y kA kN => ?_) (fun H e h => hd H e ?_)
  · rw [List.length_map]
    refine Nat.lt_of_le_of_lt (Nat.le_trans (List.length_filter_le _ _) (Nat.le_trans (by rw [List.length_take]; exact Nat.min_le_right _ _) (by rw [hn]; exact hl))) (by decide)
  · obtain ⟨a, ha⟩ : ∃ a, xs[i]? = some a := ⟨xs[i]'(by omega), List.getElem?_eq_getElem (by omega)⟩
    refine hs i x a H H2 _ _ ha e y (fun y2 H5 e5 hc hy => kA y2 H5 e5 ?_) (fun H4 e4 hc => kN H4 e4 ?_)
    · rw [take_more ha, List.filter_append, List.map_append, hy]
      simp [hc]
    · rw [take_more ha, List.filter_append, List.map_append]
      simp [hc]
  · rw [h, List.take_of_length_le (by rw [hn]; exact Nat.le_refl _)]
/-- rows that pass a test -/
theorem RowsR.filt {H : Hp} (c : List Int → Bool) : ∀ {xs : List V} {hss : List (List Int)}, RowsR H xs hss → RowsR H (((xs.zip hss).filter fun z => c z.2).map fun z => z.1) (hss.filter c)
  | _, _, .nil => .nil
  | _, _, .cons (a := x) (b := hs) q t => by
    have ih := RowsR.filt c t
    rw [List.zip_cons_cons]
    cases e : c hs with
    | false =>
      rw [List.filter_cons_of_neg (by simp [e]), List.filter_cons_of_neg (by simp [e])]
      exact ih
    | true =>
      rw [List.filter_cons_of_pos (by simp [e]), List.filter_cons_of_pos (by simp [e])]
      exact .cons q ih
theorem zip_at2 {α β : Type} {l : List α} {m : List β} {i : Nat} {z : α × β} (h : (l.zip m)[i]? = some z) : l[i]? = some z.1 ∧ m[i]? = some z.2 := by
  rw [List.getElem?_zip_eq_some] at h
  exact h
/-- tuple(s), s a list or a tuple -/
theorem tup_of {K : PySem.W.Frag} {H : Hp} {q : Bool × Addr} {xs : List V} {Q : VK} (h : SqH H q xs) (k : ∀ t H2, Ex H H2 → H2 t = some (.tup xs) → Q (.ref t) H2) : (SqL K H q.2 xs ∧ ∀ p, H p = none → Q (.ref p) (upd H p (.tup xs))) ∨ SqT K H q.2 xs ∧ Q (.ref q.2) H := by
  obtain ⟨b, a⟩ := q
  cases b
  · exact .inl ⟨SqL.of (show H a = some (.lst xs) from h), fun p hp => k p _ (exn hp) upd_same⟩
  · exact .inr ⟨SqT.of (show H a = some (.tup xs) from h), k a H exr h⟩
def rTupQ : List V → Hp → VK → Prop := fun vs H Q => ∃ (q : Bool × Addr) (xs : List V), vs = [.ref q.2] ∧ SqH H q xs ∧ ∀ t H2, Ex H H2 → H2 t = some (.tup xs) → Q (.ref t) H2
theorem call_tuple_q {X : Cx} : CallR X (.type "tuple") rTupQ := by
  intro pins s σ H vs us Q I r h
  obtain ⟨q, xs, rfl, hq, k⟩ := h
  exact call_tuple_of pins s σ H _ us Q I r ⟨q.2, xs, rfl, tup_of hq k⟩
theorem SqH.uniq {H : Hp} {q : Bool × Addr} {xs ys : List V} (h1 : SqH H q xs) (h2 : SqH H q ys) : xs = ys := by
  obtain ⟨b, a⟩ := q
  cases b
  · have e : some (HO.lst xs) = some (HO.lst ys) := (show H a = some (.lst xs) from h1).symm.trans (show H a = some (.lst ys) from h2)
    injection e with e
    injection e
  · have e : some (HO.tup xs) = some (HO.tup ys) := (show H a = some (.tup xs) from h1).symm.trans (show H a = some (.tup ys) from h2)
    injection e with e
    injection e
theorem RowsR.monoT {H H2 : Hp} (e : ∀ c xs, H c = some (.tup xs) → H2 c = some (.tup xs)) : ∀ {xs : List V} {hss : List (List Int)}, RowsR H xs hss → RowsR H2 xs hss
  | _, _, .nil => .nil
  | _, _, .cons ⟨r, h1, h2⟩ t => .cons ⟨r, h1, e _ _ h2⟩ (RowsR.monoT e t)

-- exceptions
/-- an error of the class at S is what «except S» names -/
theorem exm_self {K : PySem.W.Frag} {S : Addr} (h1 : PySem.W.subIn K (.ref S) (.type "BaseException") = some true) (h2 : PySem.W.isClsIn K S = true) (h3 : PySem.W.typeIn K (.ref S) = some (.type "type")) (h4 : PySem.W.subIn K (.ref S) (.ref S) = some true) :
    PySem.W.exmOne K (.ref S) (.ref S) = some true := by
  have e1 : (PySem.W.subIn K (.ref S) (.type "BaseException") == some true) = true := by rw [h1] <;> rfl
  have e2 : ((PySem.W.clsIn K S).isSome && PySem.W.typeIn K (.ref S) == some (.type "type")) = true := by
    have h2' : (PySem.W.clsIn K S).isSome = true := h2
    rw [h2', h3] <;> rfl
  show (if (PySem.W.subIn K (.ref S) (.type "BaseException") == some true) = true then (if ((PySem.W.clsIn K S).isSome && PySem.W.typeIn K (.ref S) == some (.type "type")) = true then PySem.W.subIn K (.ref S) (.ref S) else none) else none) = some true
  rw [if_pos e1, if_pos e2]
  exact h4
/-- what the first clause 'except x as n' wishes of an exception of the body that it takes: slot i is n's -/
def wAs1 (K : PySem.W.Frag) (c : Value) (i : Nat) (ts : Addr → Value → Option Addr → TS) (D : Ends) : WX := fun cls d σ H =>
  PySem.W.exmOne K cls c = some true ∧ ∀ a, H a = none → ts a cls d { nx := fun σ' H' => D.nx (σ'.set i none) H', rt := D.rt, bk := fun σ' H' => D.bk (σ'.set i none) H', ct := fun σ' H' => D.ct (σ'.set i none) H' } (σ.set i (some (.ref a))) H
/-- try, where the first clause takes what the body raises; what the other clauses are is all one -/
theorem ps_try_as1 {X : Cx} {x n : Str} {c : Value} {i : Nat} {body suite : List Stmt} {b₀ : Stmt} {np pos pos' : Pos} {hds : List ExceptHandler} {tb : WX → TS} {ts : Addr → Value → Option Addr → TS} (hs : X.stack = X.env :: X.outer) (hf : X.env.frame = some X.env.locals) (hN : X.N.Nodup) (hi : X.N[i]? = some n) (hln : X.env.kindOf n = some .local) (hc : Names X x c)
    (hb : ∀ (W : WX) (pn : List (Addr × Obj)) (xe : Value → Shared → Prop), Takes (X.tr pn xe) W → PassesOwn (model X.prog X.w) X.A X.env xe → PSs (X.tr pn xe) body (tb W))
    (hsu : ∀ (a : Addr) (oe : Obj) (cls : Value) (d : Option Addr) (pn : List (Addr × Obj)), Zc cls d oe → (∃ vs, oe.data = .fields vs) → PSs (X.suite a ((a, oe) :: pn)) (b₀ :: suite) (ts a cls d)) :
    PS X (.Try body (.ExceptHandler (some (.Name x np)) (some n) (b₀ :: suite) pos' :: hds) [] [] pos) (fun D σ H => tb (wAs1 X.K c i ts D) D σ H) := by
  refine ⟨fun pins s σ H D I h => ?_⟩
  have ok := I.ok
  have hfr : X.A.frames = some (X.env :: X.outer) := by rw [ok.frames, hs]
  have hloc : Loc X.env.scope n := .inl hln
  refine wpAny_Try_except ?_
  refine wpAny_mono ((hb (wAs1 X.K c i ts D) (X.pn ++ pins) (fun e s₁ => wpAny (model X.prog X.w) X.A (noteFrame e X.env) (fun _ s₂ => wpAny (model X.prog X.w) X.A (setFlight e none) (fun _ s₃ =>
    wpAny (model X.prog X.w) X.A (handleBy e X.env (.ExceptHandler (some (.Name x np)) (some n) (b₀ :: suite) pos' :: hds)) (SP X pins D) X.xe s₃) X.xe s₂) X.xe s₁) (fun u s' xx => ?_) PassesOwn.looking).run [] s σ H D (I.toTry _) h) (fun f s1 hsp => ?_) (fun e s1 he => he)
  · obtain ⟨a, B, sI, pins', σ', H', cls, d, rfl, J', nb, up, sky, na, os, ag, hb1, hyes⟩ := xx
    have J : Inv X pins σ' H' sI := J'.ofTry ok
    have sky' : Sky B (X.env :: X.outer) a (Zc cls d) X.env.locals s'.heap := by rw [← hs]; exact sky
    show wpAny (model X.prog X.w) X.A (noteFrame (.ref a) X.env) _ _ _
    refine Sky.land Zc.steady hfr hf sky' fun h3 fl3 up3 => ?_
    have J3 : Inv X pins σ' H' { s' with heap := h3 } := J.landed nb fl3.1 (up.trans up3) os ag
    obtain ⟨oe3, vs3, he3, hz3, hd3⟩ := fl3.there
    have notFr : ∀ {h : Heap} {o : Obj} {vs : Array Value}, h.FunFrames B (X.env :: X.outer) → h.get? a = some o → o.data = .fields vs → a ∉ frs (X.env :: X.outer) := fun {h o vs} ff e dd hm => by
      obtain ⟨_, o', e', hnf⟩ := ff.mem hm
      rw [e] at e'; cases e'
      exact hnf _ dd
    have nfr := notFr fl3.2.2.1 he3 hd3
    have nL : a ≠ X.env.locals := fun z => nfr (List.mem_filterMap.mpr ⟨X.env, List.mem_cons_self, by rw [hf, z]⟩)
    have nF : a ∉ X.fs := fun hm => by
      obtain ⟨e, he, q⟩ := List.mem_filterMap.mp hm
      exact nfr (List.mem_filterMap.mpr ⟨e, List.mem_cons_of_mem _ he, q⟩)
    have S3 := J3.suite he3 hd3 na nL nF
    refine wpAny_handleBy_cons (codeAny_handlers_test ?_) (by intro q; cases q)
    have LT : PySem.W.Looks (model X.prog X.w) h3 (typeOf (.ref a)) cls := fun A Q E s k q => wpAny_typeOf_ref (k _ _ he3) (by rw [hz3.1]; exact q)
    have LM := PySem.W.exm_one (M := model X.prog X.w) (J3.kIn) LT hb1
    have test : ∀ {Q : Value → Shared → Prop} {E : Value → Shared → Prop}, Q c { s' with heap := h3 } → wpAny (model X.prog X.w) (X.A.mark (some (.ref a))) (eval (.Name x np) X.env) Q E { s' with heap := h3 } := fun {Q E} q => by
      obtain ⟨hg, hdbg, hm | ⟨hm, hv, hnn⟩⟩ := hc
      · exact ld_glob (X := X.suite a ((a, oe3) :: (X.pn ++ pins))) S3 hg hm q hdbg
      · exact ld_blt (X := X.suite a ((a, oe3) :: (X.pn ++ pins))) S3 hg hm hv q hnn hdbg
    refine test (LM.here ?_)
    refine codeAny_handlers_suite_as ?_
    refine HandSPX.lands_againZ fl3 fun h4 fl4 up4 => ?_
    have J4 : Inv X pins σ' H' { s' with heap := h4 } := J.landed nb fl4.1 ((up.trans up3).trans up4) os ag
    obtain ⟨oe4, vs4, he4, hz4, hd4⟩ := fl4.there
    have S4 := J4.suite he4 hd4 na nL nF
    refine store_ok (X := X.suite a ((a, oe4) :: (X.pn ++ pins))) (v := .ref a) S4 hN hi hloc rfl (fun s5 S5 => ?_) (.inr hln)
    refine wpAny_mono ((hsu a oe4 cls d (X.pn ++ pins) hz4 ⟨_, hd4⟩).run [] s5 _ H' _ S5 (hyes a na)) (fun f s6 hsp => ?_) (fun _ _ z => False.elim z)
    have end_ : ∀ {σ6 : L2.St} {H6 : Hp} {Q : Shared → Prop}, Inv (X.suite a ((a, oe4) :: (X.pn ++ pins))) [] σ6 H6 s6 → (∀ s7, Inv X pins (σ6.set i none) H6 s7 → Q s7) →
        wpAny (model X.prog X.w) X.A (do bindName X.env n .none; unbindBehindTheSuite X.env n pos') (fun _ s7 => Q s7) X.xe s6 := fun {σ6 H6 Q} S6 hq => gone_ok (S6.unsuite ok) hN hi hln hq
    cases f with
    | next =>
      obtain ⟨σ6, H6, S6, q6⟩ := hsp
      exact end_ S6 fun s7 J7 => ⟨_, _, J7, q6⟩
    | brk =>
      obtain ⟨σ6, H6, S6, q6⟩ := hsp
      exact end_ S6 fun s7 J7 => ⟨_, _, J7, q6⟩
    | cont =>
      obtain ⟨σ6, H6, S6, q6⟩ := hsp
      exact end_ S6 fun s7 J7 => ⟨_, _, J7, q6⟩
    | ret u =>
      obtain ⟨v6, σ6, H6, S6, r6, q6⟩ := hsp
      exact end_ S6 fun s7 J7 => ⟨_, _, _, J7, r6, q6⟩
  · cases f with
    | next =>
      obtain ⟨σ', H', J', q⟩ := hsp
      exact wpAny_execs_nil ⟨σ', H', J'.ofTry ok, q⟩
    | brk =>
      obtain ⟨σ', H', J', q⟩ := hsp
      exact ⟨σ', H', J'.ofTry ok, q⟩
    | cont =>
      obtain ⟨σ', H', J', q⟩ := hsp
      exact ⟨σ', H', J'.ofTry ok, q⟩
    | ret u =>
      obtain ⟨v, σ', H', J', r, q⟩ := hsp
      exact ⟨v, σ', H', J'.ofTry ok, r, q⟩

-- exceptions of a class under the one that the clause names; a method that raises inside of try
/-- an error of a class S under B is what «except B» names -/
theorem exm_base {K : PySem.W.Frag} {S B : Addr} (h1 : PySem.W.subIn K (.ref B) (.type "BaseException") = some true) (h2 : PySem.W.isClsIn K B = true) (h3 : PySem.W.typeIn K (.ref B) = some (.type "type")) (h4 : PySem.W.subIn K (.ref S) (.ref B) = some true) :
    PySem.W.exmOne K (.ref S) (.ref B) = some true := by
  have e1 : (PySem.W.subIn K (.ref B) (.type "BaseException") == some true) = true := by rw [h1] <;> rfl
  have e2 : ((PySem.W.clsIn K B).isSome && PySem.W.typeIn K (.ref B) == some (.type "type")) = true := by
    have h2' : (PySem.W.clsIn K B).isSome = true := h2
    rw [h2', h3] <;> rfl
  show (if (PySem.W.subIn K (.ref B) (.type "BaseException") == some true) = true then (if ((PySem.W.clsIn K B).isSome && PySem.W.typeIn K (.ref B) == some (.type "type")) = true then PySem.W.subIn K (.ref S) (.ref B) else none) else none) = some true
  rw [if_pos e1, if_pos e2]
  exact h4
/-- o.m(e, ..), which may raise; what it lets out is told at the slots -/
def tMethP (C : Addr) (m : Str) (sp : Sp) (E : L2.St → XK) (ta : TE) (t : TA) : TE := fun σ H Q => ta σ H fun x H1 => ∃ a dx fs, x = .ref a ∧ H1 a = some (.ins C dx fs) ∧ fs.lookup m = none ∧ t σ H1 fun vs H2 => sp (.ref a :: vs) H2 Q (E σ)
theorem pe_methP {X : Cx} {CX : CXT} {k : Nat} {f C : Addr} {fd : FuncData} {ps : List Str} {sp : Sp} {E : L2.St → XK} {m : Str} {pos apos : Pos} {e o : Expr} {es : List Expr} {ta : TE} {t : TA} {pl : Sem Bool} (he : PE X o ta) (c : Cls X.K C) (hm : Meth X.K C m f) (F : FnOk X.prog X.w X.K X.mg X.base CX k f fd ps sp) (hr : Room k X.A) (hb : Binds X.K fd ps []) (hx : ∀ σ, PassesAt CX X σ (E σ)) (ha : PA X (e :: es) t)
    (hst : starEach (e :: es) X.env = (false, eval e X.env) :: starEach es X.env := by rfl) (hpl : (backTo pos (starEach es X.env)).any (·.1) = false := by rfl)
    (ht : eval (.Call (.Attribute o m apos) (e :: es) [] pos) X.env = (do
      let ov ← eval o X.env
      standAt apos.atName
      let (f, first) ← holding [ov] (getMethod ov m pl)
      callWith pos f first (backTo pos (starEach (e :: es) X.env)) (backToKw pos (keywordEach [] X.env))) := by rfl) :
    PE X (.Call (.Attribute o m apos) (e :: es) [] pos) (tMethP C m sp E ta t) := by
  refine ⟨fun pins s σ H Q I h => ?_⟩
  refine PySem.W.methodCall_KW (pl := pl) (thn (he.run pins s σ H _ I h) fun u s1 ⟨x, H1, I1, rx, a, dx, fs, ex, ea, l, q⟩ => ?_) ht
  subst ex
  obtain rfl : u = Value.ref a := rx
  refine getmeth_ok I1 ea c hm l ?_
  refine PySem.W.callWith_K (first := [.ref a]) (h₀ := X.base) I.ok.mod.kin hm.kp (thn (ha.run pos pins s1 σ H1 _ I1 q) fun us s2 ⟨vs, H2, I2, r, q2⟩ => ⟨I2.kIn, ?_⟩) hst hpl
  exact run_fnS (us := .ref a :: us) (vs := .ref a :: vs) F hr hb (hx σ) I2 (.cons rfl r) q2

/-- an exception with one field -/
def sp_exi (C : Addr) (f : Str) : Sp := fun vs H Q _ => ∃ (a : Addr) (x : V), vs = [.ref a, x] ∧ H a = some (exo a C none) ∧ ∀ dx, H dx = none → dx ≠ a → Q .non (upd (upd H dx (exd dx [(f, x)])) a (exo a C (some dx)))
theorem exc_made {H : Hp} {a C : Addr} {f : Str} {x : V} {E E1 : XK} (na : H a = none) (k : ∀ d H2, Ex H H2 → H2 d = some (.xd [(f, x)]) → E (.ref C) (some d) H2) :
    sp_exi C f [.ref a, x] (upd H a (exo a C none)) (fun v H2 => v = .non ∧ ∃ (d : Addr) (fs : List (Str × V)), H2 a = some (exo a C (some d)) ∧ H2 d = some (exd d fs) ∧ H d = none ∧ E (.ref C) (some d) (upd (del H2 a) d (.xd fs))) E1 := by
  refine ⟨a, x, rfl, upd_same, fun dx hd ne => ⟨rfl, dx, _, upd_same, by rw [upd_ne ne, upd_same], by rw [upd_ne ne] at hd; exact hd, k _ _ (fun c o hc => ?_) upd_same⟩⟩
  have ca : c ≠ a := ne_of_none hc na
  have cd : c ≠ dx := ne_of_none hc (by rw [upd_ne ne] at hd; exact hd)
  rw [upd_ne cd, del_ne ca, upd_ne ca, upd_ne cd, upd_ne ca]
  exact hc

section
variable {P : Program} {w : World} {K : PySem.W.Frag} {mg : Str → Option Value} {base : Heap}
theorem ok_InvalidNumber_init (T : TX K mg) : FnOk P w K mg base CX0 1 T.f_InvalidNumber_init T.fd_InvalidNumber_init ["self", "name"] (sp_exi T.C_InvalidNumber "name") := by
  refine T.F_InvalidNumber_init.ok sc_InvalidNumber_init (fun vs H Q E h => ?_) (fun cdv A outer s H vs Q E hr h => ?_)
  · obtain ⟨a, x, rfl, _⟩ := h
    rfl
  · obtain ⟨a, x, rfl, ha, k⟩ := h
    refine ⟨_, (pss_one (ps_ost (pv 0) (pv 1))), ?_⟩
    exact ⟨_, rfl, _, rfl, a, _, rfl, T.ox_InvalidNumber, T.n_InvalidNumber_name, .inl ⟨ha, fun dx n ne => k dx n ne⟩⟩
end

section
variable {P : Program} {w : World} {K : PySem.W.Frag} {mg : Str → Option Value} {base : Heap}
theorem ok_InvalidTargets_init (T : TX K mg) : FnOk P w K mg base CX0 1 T.f_InvalidTargets_init T.fd_InvalidTargets_init ["self", "index"] (sp_exi T.C_InvalidTargets "index") := by
  refine T.F_InvalidTargets_init.ok sc_InvalidTargets_init (fun vs H Q E h => ?_) (fun cdv A outer s H vs Q E hr h => ?_)
  · obtain ⟨a, x, rfl, _⟩ := h
    rfl
  · obtain ⟨a, x, rfl, ha, k⟩ := h
    refine ⟨_, (pss_one (ps_ost (pv 0) (pv 1))), ?_⟩
    exact ⟨_, rfl, _, rfl, a, _, rfl, T.ox_InvalidTargets, T.n_InvalidTargets_index, .inl ⟨ha, fun dx n ne => k dx n ne⟩⟩
end

section
variable {P : Program} {w : World} {K : PySem.W.Frag} {mg : Str → Option Value} {base : Heap}
theorem ok_TooLarge_init (T : TX K mg) : FnOk P w K mg base CX0 1 T.f_TooLarge_init T.fd_TooLarge_init ["self", "limit"] (sp_exi T.C_TooLarge "limit") := by
  refine T.F_TooLarge_init.ok sc_TooLarge_init (fun vs H Q E h => ?_) (fun cdv A outer s H vs Q E hr h => ?_)
  · obtain ⟨a, x, rfl, _⟩ := h
    rfl
  · obtain ⟨a, x, rfl, ha, k⟩ := h
    refine ⟨_, (pss_one (ps_ost (pv 0) (pv 1))), ?_⟩
    exact ⟨_, rfl, _, rfl, a, _, rfl, T.ox_TooLarge, T.n_TooLarge_limit, .inl ⟨ha, fun dx n ne => k dx n ne⟩⟩
end

section
variable {P : Program} {w : World} {K : PySem.W.Frag} {mg : Str → Option Value} {base : Heap}
theorem ok_InvalidWitness_init (T : TX K mg) : FnOk P w K mg base CX0 1 T.f_InvalidWitness_init T.fd_InvalidWitness_init ["self", "index"] (sp_exi T.C_InvalidWitness "index") := by
  refine T.F_InvalidWitness_init.ok sc_InvalidWitness_init (fun vs H Q E h => ?_) (fun cdv A outer s H vs Q E hr h => ?_)
  · obtain ⟨a, x, rfl, _⟩ := h
    rfl
  · obtain ⟨a, x, rfl, ha, k⟩ := h
    refine ⟨_, (pss_one (ps_ost (pv 0) (pv 1))), ?_⟩
    exact ⟨_, rfl, _, rfl, a, _, rfl, T.ox_InvalidWitness, T.n_InvalidWitness_index, .inl ⟨ha, fun dx n ne => k dx n ne⟩⟩
end

section
variable {P : Program} {w : World} {K : PySem.W.Frag} {mg : Str → Option Value} {base : Heap}
/-- what a def raises: an exception of the class CE with one field -/
def Rai (E : XK) (H : Hp) (CE : Addr) (f : Str) (v : V) : Prop := ∀ (dd : Addr) (H2 : Hp), Ex H H2 → H2 dd = some (.xd [(f, v)]) → E (.ref CE) (some dd) H2
theorem Rai.mono {E : XK} {H H2 : Hp} {CE : Addr} {f : Str} {v : V} (h : Rai E H CE f v) (e : Ex H H2) : Rai E H2 CE f v := fun dd H3 e3 hd => h dd H3 (ext e e3) hd
def spX_require_at_least (K : PySem.W.Frag) (CN : Addr) : Sp := fun vs H Q E => ∃ (x : V) (o : Option Int) (low : Int) (nm : Str), vs = [x, .int low, .str nm] ∧ IsI K H x o ∧ (atLeast o low = true → Q .non H) ∧ (atLeast o low = false → Rai E H CN "name" (.str nm))
theorem okX_require_at_least (T : TX K mg) : FnOk P w K mg base (L2.CX P w) 3 T.f_require_at_least T.fd_require_at_least ["value", "low", "name"] (spX_require_at_least K T.C_InvalidNumber) := by
  refine T.F_require_at_least.okX sc_require_at_least (fun vs H Q E h => ?_) (fun cdv A outer s H vs Q E hr h => ?_)
  · obtain ⟨x, o, low, nm, rfl, _⟩ := h
    rfl
  · obtain ⟨x, o, low, nm, rfl, hx, kQ, kE⟩ := h
    refine ⟨_, (pss_one (ps_if (pt_not (pt_val (pe_call (ok_is_at_least T) hr rfl T.m_is_at_least T.F_is_at_least.kp T.b_is_at_least .nil pass0 (pa_cons (pv 0) (pa_cons (pv 1) pa_nil))))) (pss_one (ps_raise rfl (takes_of rfl rfl rfl rfl) (pmk_oex T.ox_InvalidNumber T.i_InvalidNumber T.ti_InvalidNumber (ok_InvalidNumber_init T) (hr.mono (by decide)) T.b_InvalidNumber_init .nil pass0 rfl T.m_InvalidNumber (pa_cons (pv 2) pa_nil)))) pss_nil)), ?_⟩
    refine ⟨_, rfl, _, rfl, x, o, low, rfl, hx, _, rfl, ?_⟩
    cases q : atLeast o low with
    | true => exact itf rfl (kQ q)
    | false =>
      refine itt rfl ?_
      refine ⟨_, rfl, by show 1 ≤ 1000; decide, fun ea na => ?_⟩
      exact exc_made na fun dd H4 e4 hd => kE q dd H4 e4 hd
def spX_require_limit (CL : Addr) : Sp := fun vs H Q E => ∃ (i j : Int), vs = [.int i, .int j] ∧ (i ≤ j → Q .non H) ∧ (j < i → Rai E H CL "limit" (.int j))
theorem okX_require_limit (T : TX K mg) : FnOk P w K mg base (L2.CX P w) 3 T.f_require_limit T.fd_require_limit ["number", "limit"] (spX_require_limit T.C_TooLarge) := by
  refine T.F_require_limit.okX sc_require_limit (fun vs H Q E h => ?_) (fun cdv A outer s H vs Q E hr h => ?_)
  · obtain ⟨i, j, rfl, _⟩ := h
    rfl
  · obtain ⟨i, j, rfl, kQ, kE⟩ := h
    refine ⟨_, (pss_one (ps_if (pt_cmpR op_gt (pv 0) (pv 1) (nomark _)) (pss_one (ps_raise rfl (takes_of rfl rfl rfl rfl) (pmk_oex T.ox_TooLarge T.i_TooLarge T.ti_TooLarge (ok_TooLarge_init T) (hr.mono (by decide)) T.b_TooLarge_init .nil pass0 rfl T.m_TooLarge (pa_cons (pv 1) pa_nil)))) pss_nil)), ?_⟩
    refine ⟨_, rfl, _, rfl, _, _, rfl, rfl, _, rfl, ?_⟩
    by_cases q : j < i
    · refine itt (decide_eq_true q) ?_
      refine ⟨_, rfl, by show 1 ≤ 1000; decide, fun ea na => ?_⟩
      exact exc_made na fun dd H4 e4 hd => kE q dd H4 e4 hd
    · exact itf (decide_eq_false q) (kQ (by omega))
def spX_require_place (K : PySem.W.Frag) (CN : Addr) : Sp := fun vs H Q E => ∃ (n : Int) (x : V) (o : Option Int) (nm : Str), vs = [.int n, x, .str nm] ∧ IsI K H x o ∧ (between o 0 (n - 1) = true → Q .non H) ∧ (between o 0 (n - 1) = false → Rai E H CN "name" (.str nm))
theorem okX_require_place (T : TX K mg) : FnOk P w K mg base (L2.CX P w) 3 T.f_require_place T.fd_require_place ["size", "place", "name"] (spX_require_place K T.C_InvalidNumber) := by
  refine T.F_require_place.okX sc_require_place (fun vs H Q E h => ?_) (fun cdv A outer s H vs Q E hr h => ?_)
  · obtain ⟨n, x, o, nm, rfl, _⟩ := h
    rfl
  · obtain ⟨n, x, o, nm, rfl, hx, kQ, kE⟩ := h
    refine ⟨_, (pss_one (ps_if (pt_not (pt_val (pe_call (ok_is_between T) hr rfl T.m_is_between T.F_is_between.kp T.b_is_between .nil pass0 (pa_cons (pv 1) (pa_cons pe_int (pa_cons (pe_op op_sub (pv 0) pe_int) pa_nil)))))) (pss_one (ps_raise rfl (takes_of rfl rfl rfl rfl) (pmk_oex T.ox_InvalidNumber T.i_InvalidNumber T.ti_InvalidNumber (ok_InvalidNumber_init T) (hr.mono (by decide)) T.b_InvalidNumber_init .nil pass0 rfl T.m_InvalidNumber (pa_cons (pv 2) pa_nil)))) pss_nil)), ?_⟩
    refine ⟨_, rfl, _, rfl, _, _, rfl, rfl, x, o, 0, n - 1, rfl, hx, _, rfl, ?_⟩
    cases q : between o 0 (n - 1) with
    | true => exact itf rfl (kQ q)
    | false =>
      refine itt rfl ?_
      refine ⟨_, rfl, by show 1 ≤ 1000; decide, fun ea na => ?_⟩
      exact exc_made na fun dd H4 e4 hd => kE q dd H4 e4 hd
end

/-! ### any data, read from the heap; B says where its lists may lie -/
mutual
inductive Dq (B : Addr → Prop) (H : Hp) : V → PyData → Prop
  | non : Dq B H .non .none
  | bl (b : Bool) : Dq B H (.bl b) (.bool b)
  | int (i : Int) : Dq B H (.int i) (.int i)
  | str (x : Str) : Dq B H (.str x) (.str x)
  | lst {a : Addr} {xs : List V} {ds : List PyData} : H a = some (.lst xs) → B a → DqAll B H xs ds → Dq B H (.ref a) (.list ds)
  | tup {a : Addr} {xs : List V} {ds : List PyData} : H a = some (.tup xs) → DqAll B H xs ds → Dq B H (.ref a) (.tuple ds)
  | emp {a : Addr} : H a = some (.dK []) → Dq B H (.ref a) (.dict [])
inductive DqAll (B : Addr → Prop) (H : Hp) : List V → List PyData → Prop
  | nil : DqAll B H [] []
  | cons {v : V} {vs : List V} {d : PyData} {ds : List PyData} : Dq B H v d → DqAll B H vs ds → DqAll B H (v :: vs) (d :: ds)
end
mutual
theorem Dq.to {B B2 : Addr → Prop} {H H2 : Hp} (l : ∀ a xs, B a → H a = some (.lst xs) → H2 a = some (.lst xs) ∧ B2 a) (t : ∀ a xs, H a = some (.tup xs) → H2 a = some (.tup xs)) (e0 : ∀ a, H a = some (.dK []) → H2 a = some (.dK [])) : ∀ {d : PyData} {v : V}, Dq B H v d → Dq B2 H2 v d
  | _, _, .non => .non
  | _, _, .bl b => .bl b
  | _, _, .int i => .int i
  | _, _, .str x => .str x
  | _, _, .lst h b hs => .lst (l _ _ b h).1 (l _ _ b h).2 (DqAll.to l t e0 hs)
  | _, _, .tup h hs => .tup (t _ _ h) (DqAll.to l t e0 hs)
  | _, _, .emp h => .emp (e0 _ h)
theorem DqAll.to {B B2 : Addr → Prop} {H H2 : Hp} (l : ∀ a xs, B a → H a = some (.lst xs) → H2 a = some (.lst xs) ∧ B2 a) (t : ∀ a xs, H a = some (.tup xs) → H2 a = some (.tup xs)) (e0 : ∀ a, H a = some (.dK []) → H2 a = some (.dK [])) : ∀ {ds : List PyData} {vs : List V}, DqAll B H vs ds → DqAll B2 H2 vs ds
  | _, _, .nil => .nil
  | _, _, .cons h hs => .cons (Dq.to l t e0 h) (DqAll.to l t e0 hs)
end
theorem Dq.mono {B : Addr → Prop} {H H2 : Hp} (e : Ex H H2) {d : PyData} {v : V} (h : Dq B H v d) : Dq B H2 v d := h.to (fun _ _ b h => ⟨e _ _ h, b⟩) (fun _ _ h => e _ _ h) (fun _ h => e _ _ h)
theorem DqAll.mono {B : Addr → Prop} {H H2 : Hp} (e : Ex H H2) {ds : List PyData} {vs : List V} (h : DqAll B H vs ds) : DqAll B H2 vs ds := h.to (fun _ _ b h => ⟨e _ _ h, b⟩) (fun _ _ h => e _ _ h) (fun _ h => e _ _ h)
mutual
theorem Dq.de {K : PySem.W.Frag} {B : Addr → Prop} {H : Hp} : ∀ {d : PyData} {v : V}, Dq B H v d → CG.De K H v d
  | _, _, .non => .non
  | _, _, .bl b => .bl b
  | _, _, .int i => .int i
  | _, _, .str x => .str x
  | _, _, .lst h _ hs => .lst (SqL.of h) (DqAll.de hs)
  | _, _, .tup h hs => .tup (SqT.of h) (DqAll.de hs)
  | _, _, .emp h => .emp h
theorem DqAll.de {K : PySem.W.Frag} {B : Addr → Prop} {H : Hp} : ∀ {ds : List PyData} {vs : List V}, DqAll B H vs ds → CG.DeAll K H vs ds
  | _, _, .nil => .nil
  | _, _, .cons h hs => .cons (Dq.de h) (DqAll.de hs)
end
theorem DqAll.ints {B : Addr → Prop} {H : Hp} : ∀ (is : List Int), DqAll B H (is.map V.int) (is.map PyData.int)
  | [] => .nil
  | i :: is => .cons (.int i) (DqAll.ints is)
theorem Dq.ints {B : Addr → Prop} {H : Hp} {a : Addr} {is : List Int} (h : H a = some (.tup (is.map V.int))) : Dq B H (.ref a) (iT is) := .tup h (DqAll.ints is)
/-- an int that is no bool -/
def intD : PyData → Option Int
  | .int i => some i
  | _ => none
theorem Dq.isI {K : PySem.W.Frag} {B : Addr → Prop} {H : Hp} {v : V} {d : PyData} (h : Dq B H v d) : IsI K H v (intD d) := by
  cases h with
  | int i => exact rfl
  | non => exact ⟨_, _, _, .base .non, kit_ty (r := false) (by decide +kernel), kit_ty (r := false) (by decide +kernel), rfl⟩
  | bl b => exact ⟨_, _, _, .base (.bl b), kit_ty (r := true) (by decide +kernel), kit_ty (r := true) (by decide +kernel), rfl⟩
  | str x => exact ⟨_, _, _, .base (.str x), kit_ty (r := false) (by decide +kernel), kit_ty (r := false) (by decide +kernel), rfl⟩
  | lst h _ _ => exact ⟨_, _, _, .base (.lst h), kit_ty (r := false) (by decide +kernel), kit_ty (r := false) (by decide +kernel), rfl⟩
  | tup h _ => exact ⟨_, _, _, .base (.tup h), kit_ty (r := false) (by decide +kernel), kit_ty (r := false) (by decide +kernel), rfl⟩
  | emp h => exact ⟨_, _, _, .base (.dK h), kit_ty (r := false) (by decide +kernel), kit_ty (r := false) (by decide +kernel), rfl⟩
/-- what is in a tuple -/
def tupD : PyData → Option (List PyData)
  | .tuple ds => some ds
  | _ => none
theorem Dq.isT {K : PySem.W.Frag} {B : Addr → Prop} {H : Hp} {v : V} {d : PyData} (h : Dq B H v d) : ∃ t, TyX K H v t ∧ PySem.W.kitOne K t (.type "tuple") = some (tupD d).isSome := by
  cases h with
  | int i => exact ⟨_, .base (.int i), kit_ty (r := false) (by decide +kernel)⟩
  | non => exact ⟨_, .base .non, kit_ty (r := false) (by decide +kernel)⟩
  | bl b => exact ⟨_, .base (.bl b), kit_ty (r := false) (by decide +kernel)⟩
  | str x => exact ⟨_, .base (.str x), kit_ty (r := false) (by decide +kernel)⟩
  | lst h _ _ => exact ⟨_, .base (.lst h), kit_ty (r := false) (by decide +kernel)⟩
  | tup h _ => exact ⟨_, .base (.tup h), kit_ty (r := true) (by decide +kernel)⟩
  | emp h => exact ⟨_, .base (.dK h), kit_ty (r := false) (by decide +kernel)⟩
theorem Dq.tupA {B : Addr → Prop} {H : Hp} {v : V} {d : PyData} {ds : List PyData} (h : Dq B H v d) (e : tupD d = some ds) : ∃ a xs, v = .ref a ∧ H a = some (.tup xs) ∧ DqAll B H xs ds := by
  cases h with
  | tup h hs => cases e; exact ⟨_, _, rfl, h, hs⟩
  | _ => cases e
theorem DqAll.len {B : Addr → Prop} {H : Hp} : ∀ {xs : List V} {ds : List PyData}, DqAll B H xs ds → xs.length = ds.length
  | _, _, .nil => rfl
  | _, _, .cons _ t => by rw [List.length_cons, List.length_cons, DqAll.len t]
theorem DqAll.get {B : Addr → Prop} {H : Hp} : ∀ {xs : List V} {ds : List PyData} {j : Nat} {x : V}, DqAll B H xs ds → xs[j]? = some x → ∃ d, ds[j]? = some d ∧ Dq B H x d
  | _, _, _, _, .nil, h => by simp at h
  | _, _, 0, _, .cons h _, e => ⟨_, rfl, by obtain rfl := Option.some.inj e; exact h⟩
  | _, _, j + 1, _, .cons _ t, e => DqAll.get (j := j) t (by simpa using e)
theorem dq_ints {B : Addr → Prop} {H : Hp} : ∀ {xs : List V} {ws : List PyData}, DqAll B H xs ws → (∀ w ∈ ws, ∃ i, intD w = some i) → ∃ is : List Int, ws = is.map PyData.int ∧ xs = is.map V.int
  | _, _, .nil, _ => ⟨[], rfl, rfl⟩
  | _, _, .cons h t, a => by
    obtain ⟨is, e1, e2⟩ := dq_ints t fun w hw => a w (List.mem_cons_of_mem _ hw)
    obtain ⟨i, hi⟩ := a _ List.mem_cons_self
    cases h with
    | int j => exact ⟨j :: is, by rw [e1]; rfl, by rw [e2]; rfl⟩
    | _ => cases hi
theorem ints_of : ∀ {ws : List PyData}, (∀ w ∈ ws, ∃ i, intD w = some i) → ∃ is : List Int, ws = is.map PyData.int
  | [], _ => ⟨[], rfl⟩
  | w :: ws, a => by
    obtain ⟨is, e1⟩ := ints_of fun w hw => a w (List.mem_cons_of_mem _ hw)
    obtain ⟨i, hi⟩ := a _ List.mem_cons_self
    cases w with
    | int j => exact ⟨j :: is, by rw [e1]; rfl⟩
    | _ => cases hi
theorem fm_ints (is : List Int) : (is.map PyData.int).filterMap intD = is := by
  induction is with
  | nil => rfl
  | cons i is ih => rw [List.map_cons, List.filterMap_cons, ih]; rfl
def lstD : PyData → Option (List PyData)
  | .list ds => some ds
  | _ => none
theorem Dq.isL {K : PySem.W.Frag} {B : Addr → Prop} {H : Hp} {v : V} {d : PyData} (h : Dq B H v d) : ∃ t, TyX K H v t ∧ PySem.W.kitOne K t (.type "list") = some (lstD d).isSome := by
  cases h with
  | int i => exact ⟨_, .base (.int i), kit_ty (r := false) (by decide +kernel)⟩
  | non => exact ⟨_, .base .non, kit_ty (r := false) (by decide +kernel)⟩
  | bl b => exact ⟨_, .base (.bl b), kit_ty (r := false) (by decide +kernel)⟩
  | str x => exact ⟨_, .base (.str x), kit_ty (r := false) (by decide +kernel)⟩
  | lst h _ _ => exact ⟨_, .base (.lst h), kit_ty (r := true) (by decide +kernel)⟩
  | tup h _ => exact ⟨_, .base (.tup h), kit_ty (r := false) (by decide +kernel)⟩
  | emp h => exact ⟨_, .base (.dK h), kit_ty (r := false) (by decide +kernel)⟩
theorem Dq.lstA {B : Addr → Prop} {H : Hp} {v : V} {d : PyData} {ds : List PyData} (h : Dq B H v d) (e : lstD d = some ds) : ∃ a xs, v = .ref a ∧ H a = some (.lst xs) ∧ B a ∧ DqAll B H xs ds := by
  cases h with
  | lst h b hs => cases e; exact ⟨_, _, rfl, h, b, hs⟩
  | _ => cases e
/-! ### counts as data -/
def wsum (ws xs : List Int) : Int := (List.zipWith (fun w x => w * x) ws xs).sum
def cntBad : List PyData → Nat → Option Int
  | [], _ => none
  | d :: ds, i => if atLeast (intD d) 0 = true then cntBad ds (i + 1) else some (i : Int)
def cntDue (k : Nat) (d : PyData) : Option Int := match lstD d with
  | some ds => if ds.length = k then cntBad ds 0 else some (-1)
  | none => some (-1)
def sumDue (n : Int) (ts : List Int) (p tot : Int) (cs : List Int) : Option Int := if cs.sum = tot then (if (wsum cs ts - tot * p) % n = 0 then none else some ((ts.length : Int) + 1)) else some (ts.length : Int)
def csOf (d : PyData) : List Int := ((lstD d).getD []).filterMap intD
def dueS (n : Int) (ts : List Int) (p : Int) (c : Nat) (d : PyData) : Option Int := match cntDue ts.length d with
  | some i => some i
  | none => sumDue n ts p (2 ^ c) (csOf d)
theorem cntBad_none : ∀ {ds : List PyData} {i : Nat}, cntBad ds i = none → ∃ cs : List Int, ds = cs.map PyData.int ∧ ∀ x ∈ cs, 0 ≤ x
  | [], _, _ => ⟨[], rfl, by simp⟩
  | d :: ds, i, h => by
    have h : (if atLeast (intD d) 0 = true then cntBad ds (i + 1) else some (i : Int)) = none := h
    by_cases c : atLeast (intD d) 0 = true
    · rw [if_pos c] at h
      obtain ⟨cs, rfl, h2⟩ := cntBad_none h
      cases d with
      | int j =>
        have c0 : 0 ≤ j := of_decide_eq_true c
        exact ⟨j :: cs, rfl, fun x hx => by
          rcases List.mem_cons.mp hx with rfl | hx
          · exact c0
          · exact h2 x hx⟩
      | _ => cases c
    · rw [if_neg c] at h
      cases h
theorem cnt_none {k : Nat} {d : PyData} (h : cntDue k d = none) : ∃ cs : List Int, d = .list (cs.map PyData.int) ∧ cs.length = k ∧ (∀ x ∈ cs, 0 ≤ x) ∧ csOf d = cs := by
  unfold cntDue at h
  cases d with
  | list ds =>
    replace h : (if ds.length = k then cntBad ds 0 else some (-1)) = none := h
    by_cases c : ds.length = k
    · rw [if_pos c] at h
      obtain ⟨cs, rfl, h2⟩ := cntBad_none h
      exact ⟨cs, rfl, by rw [← c, List.length_map], h2, fm_ints cs⟩
    · rw [if_neg c] at h
      cases h
  | _ => cases h
theorem Dq.intsL {B : Addr → Prop} {H : Hp} {v : V} {cs : List Int} (h : Dq B H v (.list (cs.map PyData.int))) : ∃ a, v = .ref a ∧ H a = some (.lst (cs.map V.int)) ∧ B a := by
  obtain ⟨a, xs, rfl, ha, b, hall⟩ := h.lstA (ds := cs.map PyData.int) rfl
  obtain ⟨is, e1, e2⟩ := dq_ints hall fun w hw => by
    obtain ⟨i, _, rfl⟩ := List.mem_map.mp hw
    exact ⟨i, rfl⟩
  have e3 : is = cs := by
    have := congrArg (List.filterMap intD) e1
    rw [fm_ints, fm_ints] at this
    exact this.symm
  subst e3
  subst e2
  exact ⟨a, rfl, ha, b⟩

/-! ### targets of any kind -/
/-- a value that is no list and no tuple -/
def NoSeq (H : Hp) (x : V) : Prop := x = .non ∨ (∃ b, x = .bl b) ∨ (∃ i, x = .int i) ∨ (∃ z, x = .str z) ∨ ∃ a, x = .ref a ∧ ((∃ kvs, H a = some (.dK kvs)) ∨ ∃ kvs, H a = some (.dT kvs))
theorem NoSeq.ty {K : PySem.W.Frag} {H : Hp} {x : V} (h : NoSeq H x) : ∃ ty, TyX K H x ty ∧ PySem.W.kitAny K ty [.type "list", .type "tuple"] = some false := by
  have no : ∀ {t : String}, PySem.W.kitOne K (.type t) (.type "list") = some false → PySem.W.kitOne K (.type t) (.type "tuple") = some false → PySem.W.kitAny K (.type t) [.type "list", .type "tuple"] = some false := fun {t} h1 h2 => kitAny_cons h1 (fun _ => kitAny_cons h2 (fun _ => rfl) (fun z => nomatch z)) (fun z => nomatch z)
  rcases h with rfl | ⟨b, rfl⟩ | ⟨i, rfl⟩ | ⟨z, rfl⟩ | ⟨a, rfl, ⟨kvs, h⟩ | ⟨kvs, h⟩⟩
  · exact ⟨_, .base .non, no (kit_ty (r := false) (by decide +kernel)) (kit_ty (r := false) (by decide +kernel))⟩
  · exact ⟨_, .base (.bl b), no (kit_ty (r := false) (by decide +kernel)) (kit_ty (r := false) (by decide +kernel))⟩
  · exact ⟨_, .base (.int i), no (kit_ty (r := false) (by decide +kernel)) (kit_ty (r := false) (by decide +kernel))⟩
  · exact ⟨_, .base (.str z), no (kit_ty (r := false) (by decide +kernel)) (kit_ty (r := false) (by decide +kernel))⟩
  · exact ⟨_, .base (.dK h), no (kit_ty (r := false) (by decide +kernel)) (kit_ty (r := false) (by decide +kernel))⟩
  · exact ⟨_, .base (.dT h), no (kit_ty (r := false) (by decide +kernel)) (kit_ty (r := false) (by decide +kernel))⟩
theorem NoSeq.to {H H2 : Hp} {x : V} (k : ∀ a kvs, H a = some (.dK kvs) → H2 a = some (.dK kvs)) (t : ∀ a kvs, H a = some (.dT kvs) → H2 a = some (.dT kvs)) (h : NoSeq H x) : NoSeq H2 x := by
  rcases h with rfl | ⟨b, rfl⟩ | ⟨i, rfl⟩ | ⟨z, rfl⟩ | ⟨a, rfl, ⟨kvs, h⟩ | ⟨kvs, h⟩⟩
  · exact .inl rfl
  · exact .inr (.inl ⟨b, rfl⟩)
  · exact .inr (.inr (.inl ⟨i, rfl⟩))
  · exact .inr (.inr (.inr (.inl ⟨z, rfl⟩)))
  · exact .inr (.inr (.inr (.inr ⟨a, rfl, .inl ⟨kvs, k _ _ h⟩⟩)))
  · exact .inr (.inr (.inr (.inr ⟨a, rfl, .inr ⟨kvs, t _ _ h⟩⟩)))
/-- a value that is no list and no tuple (none), or the entries of one -/
def TgtAt (K : PySem.W.Frag) (B : Addr → Prop) (H : Hp) (x : V) : Option (List PyData) → Prop
  | none => NoSeq H x
  | some ds => ∃ (q : Bool × Addr) (xs : List V), x = .ref q.2 ∧ SqH H q xs ∧ DqAll B H xs ds
theorem Dq.tgt {K : PySem.W.Frag} {B : Addr → Prop} {H : Hp} {v : V} {d : PyData} (q : Dq B H v d) : TgtAt K B H v (match d with | .list ds => some ds | .tuple ds => some ds | _ => none) := by
  cases q with
  | lst h _ hs => exact ⟨(false, _), _, rfl, h, hs⟩
  | tup h hs => exact ⟨(true, _), _, rfl, h, hs⟩
  | non => exact .inl rfl
  | bl b => exact .inr (.inl ⟨b, rfl⟩)
  | int i => exact .inr (.inr (.inl ⟨i, rfl⟩))
  | str z => exact .inr (.inr (.inr (.inl ⟨z, rfl⟩)))
  | emp h => exact .inr (.inr (.inr (.inr ⟨_, rfl, .inl ⟨_, h⟩⟩)))
theorem TgtAt.mono {K : PySem.W.Frag} {B : Addr → Prop} {H H2 : Hp} {x : V} {od : Option (List PyData)} (e : Ex H H2) (h : TgtAt K B H x od) : TgtAt K B H2 x od := by
  cases od with
  | none =>
    exact NoSeq.to (fun a kvs z => e _ _ z) (fun a kvs z => e _ _ z) h
  | some ds =>
    obtain ⟨q, xs, rfl, h1, h2⟩ := h
    exact ⟨q, xs, rfl, h1.mono e, h2.mono e⟩

/-- the index that InvalidTargets tells, for entries of a list of places -/
def goP (n : Int) : List PyData → List Int → Option Int
  | [], _ => none
  | d :: ds, seen => if between (intD d) 0 (n - 1) = true ∧ (intD d).getD 0 ∉ seen then goP n ds (seen ++ [(intD d).getD 0]) else some (seen.length : Int)
def placeDue (n : Int) : Option (List PyData) → Option Int
  | none => some (-1)
  | some ds => if ds = [] then some (-1) else goP n ds []
theorem goP_step {n : Int} {ds : List PyData} {d : PyData} {i : Nat} {seen : List Int} (h : ds[i]? = some d) : goP n (ds.drop i) seen = if between (intD d) 0 (n - 1) = true ∧ (intD d).getD 0 ∉ seen then goP n (ds.drop (i + 1)) (seen ++ [(intD d).getD 0]) else some (seen.length : Int) := by
  have il := (List.getElem?_eq_some_iff.mp h).1
  have e : ds.drop i = d :: ds.drop (i + 1) := by
    rw [List.drop_eq_getElem_cons il]
    rw [List.getElem?_eq_getElem il] at h
    rw [Option.some.inj h]
  rw [e]
  rfl
theorem putK_len {κ : Type} [DecidableEq κ] {kvs : List (κ × V)} {k : κ} {v : V} (h : valV kvs k = none) : (putK kvs k v).length = kvs.length + 1 := by
  have hany : (kvs.any fun kv => decide (kv.1 = k)) = false := by rw [valV_any, h]; rfl
  unfold putK
  rw [hany, if_neg Bool.false_ne_true, List.length_append]
  rfl
section
variable {P : Program} {w : World} {K : PySem.W.Frag} {mg : Str → Option Value} {base : Heap}
def spX_require_places (K : PySem.W.Frag) (CN CT : Addr) : Sp := fun vs H Q E => ∃ (x tg : V) (o : Option Int), vs = [x, tg] ∧ IsI K H x o ∧ ((atLeast o 1 = false ∧ Rai E H CN "name" (.str "size")) ∨
  ∃ (n : Int) (B : Addr → Prop) (od : Option (List PyData)), o = some n ∧ 1 ≤ n ∧ TgtAt K B H tg od ∧ (∀ ds, od = some ds → ds.length ≤ 1000) ∧ (placeDue n od = none → ∀ H2, Ex H H2 → Q .non H2) ∧ (∀ i, placeDue n od = some i → Rai E H CT "index" (.int i)))
theorem okX_require_places (T : TX K mg) : FnOk P w K mg base (L2.CX P w) 4 T.f_require_places T.fd_require_places ["size", "targets"] (spX_require_places K T.C_InvalidNumber T.C_InvalidTargets) := by
  refine T.F_require_places.okX sc_require_places (fun vs H Q E h => ?_) (fun cdv A outer s H vs Q E hr h => ?_)
  · obtain ⟨x, tg, o, rfl, _⟩ := h
    rfl
  · obtain ⟨x, tg, o, rfl, hx, h⟩ := h
    refine ⟨_, (pss_cons (ps_expr (pe_call (okX_require_at_least T) hr rfl T.m_require_at_least T.F_require_at_least.kp T.b_require_at_least .nil (passes_call (takes_of rfl rfl rfl rfl) (fun _ _ _ _ h => h)) (pa_cons (pv 0) (pa_cons pe_int (pa_cons pe_str pa_nil))))) (pss_cons (ps_if (PW.pt (pw_or (pt_not (pt_val (pe_callB call_isiT (by rfl) T.z_isinstance (by decide +kernel) (pa_cons (pv 1) (pa_cons (pe_tup (pa_cons (pe_bltn (v := .ty "list") rfl T.z_list (by decide +kernel) rfl) (pa_cons (pe_bltn (v := .ty "tuple") rfl T.z_tuple (by decide +kernel) rfl) pa_nil))) pa_nil))))) (pw_or1 (pt_cmpR op_eq (pe_callB call_len_seq (by rfl) T.z_len (by decide +kernel) (pa_cons (pv 1) pa_nil)) pe_int (nomark _))))) (pss_one (ps_raise rfl (takes_of rfl rfl rfl rfl) (pmk_oex T.ox_InvalidTargets T.i_InvalidTargets T.ti_InvalidTargets (ok_InvalidTargets_init T) (hr.mono (by decide)) T.b_InvalidTargets_init .nil pass0 rfl T.m_InvalidTargets (pa_cons (pe_un un_neg pe_int) pa_nil)))) pss_nil) (pss_cons (ps_set (i := 2) sc_require_places.nd rfl (Or.inl rfl) pe_dnewK) (pss_one (ps_for (passes_of rfl) rfl (CE.pi_e rfl T.z_enumerate (pa_cons (pv 1) pa_nil)) (pg_tup rfl (pgs_cons (pg_name (i := 3) sc_require_places.nd rfl (Or.inl rfl)) (pgs_cons (pg_name (i := 4) sc_require_places.nd rfl (Or.inl rfl)) pgs_nil))) (pss_cons (ps_if (PW.pt (pw_or (pt_not (pt_val (pe_call (ok_is_between T) (hr.mono (by decide)) rfl T.m_is_between T.F_is_between.kp T.b_is_between .nil pass0 (pa_cons (pv 4) (pa_cons pe_int (pa_cons (pe_op op_sub (pv 0) pe_int) pa_nil)))))) (pw_or1 (pt_cmp (pc_din (hu_of hr) (pv 4) (pv 2)))))) (pss_one (ps_raise rfl (takes_of rfl rfl rfl rfl) (pmk_oex T.ox_InvalidTargets T.i_InvalidTargets T.ti_InvalidTargets (ok_InvalidTargets_init T) (hr.mono (by decide)) T.b_InvalidTargets_init .nil pass0 rfl T.m_InvalidTargets (pa_cons (pv 3) pa_nil)))) pss_nil) (pss_one (ps_dput (hu_of hr) (pv 2) (pv 4) (pv 3) (by rfl))))))))), ?_⟩
    rcases h with ⟨q, kE⟩ | ⟨n, B, od, rfl, n1, ht, bd, kQ, kE⟩
    · refine ⟨_, rfl, x, o, 1, "size", rfl, hx, fun z => ?_, fun _ => kE⟩
      rw [q] at z
      cases z
    refine ⟨_, rfl, x, some n, 1, "size", rfl, hx, fun _ => ?_, fun z => ?_⟩
    rotate_left
    · rw [show atLeast (some n) 1 = true from decide_eq_true n1] at z
      cases z
    obtain rfl : x = .int n := hx
    (repeat (first | refine ⟨rfl, ?_⟩ | refine ⟨_, rfl, ?_⟩ | refine ⟨_, _, rfl, rfl, ?_⟩ | refine ⟨_, _, rfl, ?_⟩ | refine ⟨slen rfl, ?_⟩ | refine ⟨⟨by decide, by decide +kernel⟩, ?_⟩ | refine ⟨⟨by decide, by decide, by decide⟩, ?_⟩ | refine ⟨(by show (0 : Int) < _; first | decide | assumption | omega), ?_⟩ | refine ⟨mul_ok (by first | exact .inr (by decide) | exact .inl (by decide)), ?_⟩))
    (intro y ny; generalize hGy : upd _ y _ = H1; have eH1 := exG hGy ny; have hy := atG hGy; clear hGy)
    have ht1 := ht.mono eH1
    cases od with
    | none =>
      obtain ⟨ty, hty, hk⟩ := NoSeq.ty (K := K) ht1
      refine ⟨_, y, _, _, _, false, rfl, hy, .cons (.ty _) (.cons (.ty _) .nil), hty, hk, _, rfl, itt rfl ?_⟩
      refine ⟨_, rfl, by show 1 ≤ 1000; decide, fun ea na => ?_⟩
      exact exc_made na fun dd H4 e4 hd => kE (-1) rfl dd H4 (ext eH1 e4) hd
    | some ds =>
      have lb := bd ds rfl
      obtain ⟨⟨b, q⟩, xs, rfl, q1, all⟩ := ht1
      have lxs := all.len
      refine ⟨_, y, _, _, _, true, rfl, hy, .cons (.ty _) (.cons (.ty _) .nil), q1.ty, kit_seq b, _, rfl, itf rfl ?_⟩
      refine ⟨_, rfl, q, _, rfl, sq_or q1, rfl, _, rfl, ?_⟩
      by_cases c0 : ds = []
      · refine itt (by rw [dec_int, lxs, c0]; rfl) ?_
        refine ⟨_, rfl, by show 1 ≤ 1000; decide, fun ea na => ?_⟩
        exact exc_made na fun dd H4 e4 hd => kE (-1) (by show (if ds = [] then some (-1) else _) = _; rw [if_pos c0]) dd H4 (ext eH1 e4) hd
      refine itf (by rw [dec_int, lxs]; simp; exact c0) ?_
      have eD : placeDue n (some ds) = goP n ds [] := if_neg c0
      rw [eD] at kQ kE
      dsimp only [tNext]
      (intro d nd; generalize hGd : upd _ d _ = H2; have eH2 := exG hGd nd; have hd := atG hGd; clear hGd)
      have e2 : Ex H H2 := ext eH1 eH2
      have nd0 : H d = none := Evl.fresh_back eH1 nd
      have all2 := all.mono eH2
      have q2 := q1.mono eH2
      dsimp only [gName]
      refine ⟨_, rfl, (b, q), rfl, ⟨_, q2.sq⟩, ?_⟩
      refine for_it (CE.walk_e (xs := xs)) (fun i σ H3 => ∃ (y3 y4 : Option V) (kvs : List (Key × V)) (seen : List Int), σ = [some (.int n), some (.ref q), some (.ref d), y3, y4] ∧ Ex H1 H3 ∧ H3 d = some (.dK kvs) ∧ kvs.length = i ∧ seen.length = i ∧ (∀ t : Int, (valV kvs (.inl t)).isSome = decide (t ∈ seen)) ∧ goP n ds [] = goP n (ds.drop i) seen) ⟨_, _, [], [], rfl, eH2, hd, rfl, rfl, fun t => rfl, rfl⟩ (fun i σ H3 _ p => ?_) ?_ ?_
      · obtain ⟨_, _, _, _, _, p, _⟩ := p
        exact (q1.mono p).sq
      · rintro i x σ H3 H4 hi ⟨y3, y4, kvs, seen, rfl, e13, hd3, lk, ls, hv, hgo⟩ ⟨Ta, x1, x2, rfl, hT, rfl, hx1, hx2⟩
        cases hx1
        have e3 := ext eH1 e13
        obtain ⟨e, he, qe0⟩ := (all.mono e13).get hx2
        rw [goP_step he] at hgo
        generalize hG : upd H3 Ta _ = Hz
        have ez := exG hG hT
        have hTa := atG hG
        clear hG
        have Ez := ext e3 ez
        have qe := qe0.mono ez
        have me := List.mem_of_getElem? he
        refine ⟨Ta, _, rfl, SqT.of hTa, rfl, _, _, rfl, _, _, rfl, rfl, ?_⟩
        refine ⟨_, rfl, _, rfl, _, _, rfl, rfl, _, intD e, 0, n - 1, rfl, qe.isI, _, rfl, ?_⟩
        have bad : ¬ (between (intD e) 0 (n - 1) = true ∧ (intD e).getD 0 ∉ seen) → ∀ dd H6, Ex Hz H6 → H6 dd = some (.xd [("index", .int (i : Int))]) → E (.ref T.C_InvalidTargets) (some dd) H6 := fun z dd H6 e6 h6 => by
          rw [if_neg z] at hgo
          exact kE _ hgo dd H6 (ext Ez e6) (by rw [ls]; exact h6)
        cases is : between (intD e) 0 (n - 1) with
        | false =>
          refine itt rfl ?_
          refine ⟨_, rfl, by show 1 ≤ 1000; decide, fun ea na => ?_⟩
          exact exc_made na fun dd H6 e6 h6 => bad (fun z => by rw [is] at z; cases z.1) dd H6 e6 h6
        | true =>
        refine itf rfl ?_
        cases e with
        | int t =>
          cases qe
          have hd5 := ez _ _ hd3
          refine ⟨_, rfl, _, rfl, d, _, rfl, DGet.k (k := .inl t) hd5, _, rfl, ?_⟩
          by_cases ms : t ∈ seen
          · refine itt (by rw [hv]; exact decide_eq_true ms) ?_
            refine ⟨_, rfl, by show 1 ≤ 1000; decide, fun ea na => ?_⟩
            exact exc_made na fun dd H6 e6 h6 => bad (fun z => z.2 ms) dd H6 e6 h6
          have hno : valV kvs (.inl t) = none := by
            have := hv t
            rw [decide_eq_false ms] at this
            exact Option.not_isSome_iff_eq_none.mp (by rw [this]; simp)
          refine itf (by rw [hv]; exact decide_eq_false ms) ?_
          dsimp only [tNext]
          refine ⟨_, rfl, _, rfl, _, rfl, d, _, rfl, DPut.k (k := .inl t) hd5 ?_, ?_⟩
          · rw [lk]
            exact Nat.lt_of_lt_of_le (show i < 1000 by have := (List.getElem?_eq_some_iff.mp he).1; omega) (by decide)
          refine ⟨_, _, putK kvs (.inl t) (.int (i : Nat)), seen ++ [t], rfl, ?_, upd_same, by rw [putK_len hno, lk], by rw [List.length_append, ls]; rfl, fun u => ?_, ?_⟩
          · intro c o z
            rw [upd_ne (ne_of_none z nd)]
            exact ez c o (e13 c o z)
          · rw [valV_put]
            by_cases e9 : u = t
            · rw [if_pos (by rw [e9]), e9]
              simp
            · rw [if_neg (fun z => e9 (Sum.inl.inj z)), hv, Bool.eq_iff_iff, decide_eq_true_iff, decide_eq_true_iff, List.mem_append, List.mem_singleton]
              exact ⟨.inl, fun h => h.resolve_right e9⟩
          · rw [hgo, if_pos ⟨is, ms⟩]
            rfl
        | _ => cases is
      · rintro σ H3 ⟨y3, y4, kvs, seen, rfl, e13, hd3, lk, ls, hv, hgo⟩
        refine kQ ?_ _ (ext eH1 e13)
        rw [hgo, List.drop_of_length_le (by rw [lxs]; exact Nat.le_refl _)]
        rfl
end

/-- what InvalidNumber tells for the arguments of the two-target defs -/
def twoDue (o oa ob op : Option Int) : Option Str :=
  if atLeast o 1 = true then (let n := o.getD 0
    if between oa 0 (n - 1) = true then (if between ob 0 (n - 1) = true then (if oa = ob then some "second" else (if between op 0 (n - 1) = true then none else some "place")) else some "second") else some "first")
  else some "size"
section
variable {P : Program} {w : World} {K : PySem.W.Frag} {mg : Str → Option Value} {base : Heap}
def spX_require_two (K : PySem.W.Frag) (CN : Addr) : Sp := fun vs H Q E => ∃ (x a b p : V) (o oa ob op : Option Int), vs = [x, a, b, p] ∧ IsI K H x o ∧ IsI K H a oa ∧ IsI K H b ob ∧ IsI K H p op ∧
  (twoDue o oa ob op = none → ∀ H2, Ex H H2 → Q .non H2) ∧ (∀ nm, twoDue o oa ob op = some nm → Rai E H CN "name" (.str nm))
theorem okX_require_two (T : TX K mg) : FnOk P w K mg base (L2.CX P w) 4 T.f_require_two T.fd_require_two ["size", "first", "second", "place"] (spX_require_two K T.C_InvalidNumber) := by
  refine T.F_require_two.okX sc_require_two (fun vs H Q E h => ?_) (fun cdv A outer s H vs Q E hr h => ?_)
  · obtain ⟨x, a, b, p, o, oa, ob, op, rfl, _⟩ := h
    rfl
  · obtain ⟨x, a, b, p, o, oa, ob, op, rfl, hx, ha, hb, hp, kQ, kE⟩ := h
    refine ⟨_, (pss_cons (ps_expr (pe_call (okX_require_at_least T) hr rfl T.m_require_at_least T.F_require_at_least.kp T.b_require_at_least .nil (passes_call (takes_of rfl rfl rfl rfl) (fun _ _ _ _ h => h)) (pa_cons (pv 0) (pa_cons pe_int (pa_cons pe_str pa_nil))))) (pss_cons (ps_expr (pe_call (okX_require_place T) hr rfl T.m_require_place T.F_require_place.kp T.b_require_place .nil (passes_call (takes_of rfl rfl rfl rfl) (fun _ _ _ _ h => h)) (pa_cons (pv 0) (pa_cons (pv 1) (pa_cons pe_str pa_nil))))) (pss_cons (ps_expr (pe_call (okX_require_place T) hr rfl T.m_require_place T.F_require_place.kp T.b_require_place .nil (passes_call (takes_of rfl rfl rfl rfl) (fun _ _ _ _ h => h)) (pa_cons (pv 0) (pa_cons (pv 2) (pa_cons pe_str pa_nil))))) (pss_cons (ps_if (pt_cmpR op_eq (pv 1) (pv 2) (nomark _)) (pss_one (ps_raise rfl (takes_of rfl rfl rfl rfl) (pmk_oex T.ox_InvalidNumber T.i_InvalidNumber T.ti_InvalidNumber (ok_InvalidNumber_init T) (hr.mono (by decide)) T.b_InvalidNumber_init .nil pass0 rfl T.m_InvalidNumber (pa_cons pe_str pa_nil)))) pss_nil) (pss_one (ps_expr (pe_call (okX_require_place T) hr rfl T.m_require_place T.F_require_place.kp T.b_require_place .nil (passes_call (takes_of rfl rfl rfl rfl) (fun _ _ _ _ h => h)) (pa_cons (pv 0) (pa_cons (pv 3) (pa_cons pe_str pa_nil)))))))))), ?_⟩
    unfold twoDue at kQ kE
    refine ⟨_, rfl, x, o, 1, "size", rfl, hx, fun z => ?_, fun z => kE _ (by rw [z, if_neg (by simp)])⟩
    rw [if_pos z] at kQ kE
    obtain ⟨n, rfl⟩ : ∃ n, o = some n := by
      cases o with
      | none => cases z
      | some n => exact ⟨n, rfl⟩
    obtain rfl : x = .int n := hx
    dsimp only [Option.getD_some] at kQ kE
    refine ⟨_, rfl, _, rfl, n, a, oa, "first", rfl, ha, fun za => ?_, fun za => kE _ (by rw [za, if_neg (by simp)])⟩
    rw [if_pos za] at kQ kE
    refine ⟨_, rfl, _, rfl, n, b, ob, "second", rfl, hb, fun zb => ?_, fun zb => kE _ (by rw [zb, if_neg (by simp)])⟩
    rw [if_pos zb] at kQ kE
    obtain ⟨i, rfl⟩ : ∃ i, oa = some i := by
      cases oa with
      | none => cases za
      | some i => exact ⟨i, rfl⟩
    obtain ⟨j, rfl⟩ : ∃ j, ob = some j := by
      cases ob with
      | none => cases zb
      | some j => exact ⟨j, rfl⟩
    obtain rfl : a = .int i := ha
    obtain rfl : b = .int j := hb
    refine ⟨_, rfl, _, rfl, rfl, _, rfl, ?_⟩
    by_cases ij : i = j
    · refine itt (by rw [ij]; simp) ?_
      refine ⟨by show 1 ≤ 1000; decide, fun ea na => ?_⟩
      exact exc_made na fun dd H4 e4 hd => kE "second" (by rw [if_pos (by rw [ij])]) dd H4 e4 hd
    rw [if_neg (fun z => ij (Option.some.inj z))] at kQ kE
    refine itf (by rw [dec_int]; simp; exact ij) ?_
    dsimp only [tNext]
    refine ⟨_, rfl, _, rfl, n, p, op, "place", rfl, hp, fun zp => kQ (by rw [if_pos zp]) _ exr, fun zp => kE _ (by rw [zp, if_neg (by simp)])⟩
end

/-- a source of draws stands at s; n draws more may be taken -/
def Sr5 (H : Hp) (s : Addr) (n : Nat) : Prop := ∃ a b c : Int, H s = some (.lst [.int a, .int b, .int c]) ∧ 0 ≤ b ∧ b < 2147483647 ∧ 0 ≤ c ∧ c + n ≤ 1000000000000
theorem Sr5.mono {s : Addr} {H H2 : Hp} {n : Nat} (e : Ex H H2) (h : Sr5 H s n) : Sr5 H2 s n := by
  obtain ⟨a, b, c, h, q⟩ := h
  exact ⟨a, b, c, e _ _ h, q⟩
theorem Sr5.less {s : Addr} {H : Hp} {n m : Nat} (h : Sr5 H s n) (l : m ≤ n) : Sr5 H s m := by
  obtain ⟨a, b, c, h, q1, q2, q3, q4⟩ := h
  exact ⟨a, b, c, h, q1, q2, q3, by omega⟩
theorem Sr5.ne {s p : Addr} {H : Hp} {n : Nat} (h : Sr5 H s n) (hp : H p = none) : p ≠ s := by
  obtain ⟨a, b, c, h, _⟩ := h
  exact (ne_of_none h hp).symm
theorem Sr5.new {s p : Addr} {H : Hp} {o : HO} {n : Nat} (h : Sr5 H s n) (hp : H p = none) : Sr5 (upd H p o) s n := Sr5.mono (exn hp) h
theorem Sr5.tup {s q : Addr} {H H2 : Hp} {xs : List V} {n : Nat} (src : Sr5 H s n) (h : H q = some (.tup xs)) (xb : XB s H H2) : H2 q = some (.tup xs) := by
  obtain ⟨a, b, c, e, _⟩ := src
  exact xb _ _ (ne_of h e (by intro z; cases z)) h
section
variable {P : Program} {w : World} {K : PySem.W.Frag} {mg : Str → Option Value} {base : Heap}
def sp_law_cell_at (K : PySem.W.Frag) : Sp := fun vs H Q _ => ∃ (a : Addr) (ns : List Int) (k : Int), vs = [.ref a, .int k] ∧ SqL K H a (ns.map V.int) ∧ 0 ≤ k ∧ ∀ i : Int, Q (.int i) H
theorem ok_law_cell_at (T : TX K mg) : FnOk P w K mg base CX0 1 T.f_law_cell_at T.fd_law_cell_at ["_law_script", "_law_k"] (sp_law_cell_at K) := by
  refine T.F_law_cell_at.ok sc_law_cell_at (fun vs H Q E h => ?_) (fun cdv A outer s H vs Q E hr h => ?_)
  · obtain ⟨a, ns, k, rfl, _⟩ := h
    rfl
  · obtain ⟨a, ns, j, rfl, hl, h0, k⟩ := h
    refine ⟨_, (pss_one (ps_ret (pe_ifExp (pt_cmpR op_lt (pv 1) (pe_callB call_len_seq (by rfl) T.z_len (by decide +kernel) (pa_cons (pv 0) pa_nil)) (nomark _)) (pe_ix ix_list (pv 0) (pv 1) (fun _ _ => rfl)) pe_int))), ?_⟩
    refine ⟨_, rfl, _, rfl, a, _, rfl, .inl hl, _, _, rfl, rfl, _, rfl, ?_⟩
    refine ite2 (fun h => ?_) (fun _ => k 0)
    rw [List.length_map] at h
    have hj : j < ns.length := of_decide_eq_true h
    obtain ⟨v, _, gv⟩ := at_ex (xs := ns) h0 hj
    exact ⟨_, rfl, _, rfl, a, _, _, _, rfl, rfl, hl, gv, k v⟩
def sp_law_source : Sp := fun vs H Q _ => ∃ c : Int, vs = [.int c] ∧ ∀ H2 s, Ex H H2 → H s = none → Sr5 H2 s 1000000000 → Q (.ref s) H2
theorem ok_law_source (T : TX K mg) : FnOk P w K mg base CX0 1 T.f_law_source T.fd_law_source ["_law_cell"] sp_law_source := by
  refine T.F_law_source.ok sc_law_source (fun vs H Q E h => ?_) (fun cdv A outer s H vs Q E hr h => ?_)
  · obtain ⟨c, rfl, _⟩ := h
    rfl
  · obtain ⟨c, rfl, k⟩ := h
    refine ⟨_, (pss_one (ps_ret (pe_lst (pa_cons (pe_op op_mulI (pv 0) (pe_callTy call_int1 (by rfl) T.z_int (by decide +kernel) (pa_cons (pe_cmpR op_ge (pv 0) (pe_op op_pow pe_int pe_int) (nomark _)) pa_nil))) (pa_cons (pe_op op_mod (pv 0) pe_int) (pa_cons pe_int pa_nil)))))), ?_⟩
    refine ⟨_, rfl, _, rfl, _, _, rfl, rfl, ⟨by decide, by decide, by decide⟩, _, _, rfl, rfl, .inr ⟨_, rfl, _, _, rfl, rfl, mul_ok (.inr ?_), ?_⟩⟩
    · split <;> decide
    refine ⟨_, rfl, _, _, rfl, rfl, (by show (0 : Int) < _; decide), by show 3 ≤ sizeLine; decide, fun s hs => k _ s (exn hs) hs ⟨_, _, 0, upd_same, mod_lo (by decide), mod_hi (by decide), by decide, by decide⟩⟩
def sp_law_take : Sp := fun vs H Q _ => ∃ (s : Addr) (n : Int) (m : Nat), vs = [.ref s, .int n] ∧ Sr5 H s (m + 1) ∧ 0 < n ∧ n.natAbs < 2 ^ 8000 ∧ ∀ r H2, 0 ≤ r → r < n → XB s H H2 → Sr5 H2 s m → Q (.int r) H2
theorem ok_law_take (T : TX K mg) : FnOk P w K mg base CX0 1 T.f_law_take T.fd_law_take ["_law_source_here", "_law_bound"] sp_law_take := by
  refine T.F_law_take.ok sc_law_take (fun vs H Q E h => ?_) (fun cdv A outer s H vs Q E hr h => ?_)
  · obtain ⟨s, n, m, rfl, _⟩ := h
    rfl
  · obtain ⟨s, n, m, rfl, ⟨a, b, c, hs, b0, b1, c0, c1⟩, n0, n8, k⟩ := h
    refine ⟨_, (pss_cons (ps_if (pt_cmpR op_gt (pe_ix ix_list (pv 0) pe_int (fun _ _ => rfl)) pe_int (nomark _)) (pss_cons (ps_set (i := 2) sc_law_take.nd rfl (Or.inl rfl) (pe_op op_mod (pe_ix ix_list (pv 0) pe_int (fun _ _ => rfl)) (pv 1))) (pss_cons (ps_asg (pe_op op_fdivW (pe_ix ix_list (pv 0) pe_int (fun _ _ => rfl)) (pv 1)) (pg_sub (pv 0) pe_int set_list)) (pss_one (ps_ret (pv 2))))) pss_nil) (pss_cons (ps_asg (pe_op op_add (pe_ix ix_list (pv 0) pe_int (fun _ _ => rfl)) pe_int) (pg_sub (pv 0) pe_int set_list)) (pss_cons (ps_set (i := 3) sc_law_take.nd rfl (Or.inl rfl) (pe_ix ix_list (pe_lst (pa_cons pe_int (pa_cons pe_int (pa_cons pe_int (pa_cons pe_int pa_nil))))) (pe_op op_mod (pe_ix ix_list (pv 0) pe_int (fun _ _ => rfl)) pe_int) (fun _ _ => rfl))) (pss_cons (ps_set (i := 4) sc_law_take.nd rfl (Or.inl rfl) (pe_op op_mod (pe_op op_pow (pe_op op_add (pe_op op_add (pe_ix ix_list (pv 0) pe_int (fun _ _ => rfl)) (pe_op op_mulI pe_int (pe_ix ix_list (pv 0) pe_int (fun _ _ => rfl)))) pe_int) pe_int) (pv 3))) (pss_cons (ps_set (i := 4) sc_law_take.nd rfl (Or.inl rfl) (pe_op op_mod (pe_op op_mulI (pe_op op_add (pv 4) (pe_ix ix_list (pv 0) pe_int (fun _ _ => rfl))) (pe_op op_add (pe_op op_fdivW (pv 4) pe_int) pe_int)) (pv 3))) (pss_cons (ps_set (i := 4) sc_law_take.nd rfl (Or.inl rfl) (pe_op op_mod (pe_op op_mulI (pv 4) (pe_op op_add (pe_op op_add (pe_op op_fdivW (pv 4) pe_int) (pe_op op_mulI pe_int (pe_ix ix_list (pv 0) pe_int (fun _ _ => rfl)))) pe_int)) (pv 3))) (pss_one (ps_ret (pe_op op_mod (pe_op op_fdivW (pv 4) pe_int) (pv 1)))))))))), ?_⟩
    refine ⟨_, rfl, s, _, _, _, rfl, rfl, SqL.of hs, rfl, _, _, rfl, rfl, _, rfl, ?_⟩
    refine ite2 (fun _ => ?_) (fun _ => ?_)
    · refine ⟨_, rfl, s, _, _, _, rfl, rfl, SqL.of hs, rfl, _, rfl, _, _, rfl, rfl, n0, ?_⟩
      refine ⟨_, rfl, s, _, _, _, rfl, rfl, SqL.of hs, rfl, _, rfl, _, _, rfl, rfl, wide_div n0 n8 (by decide) (by decide), _, rfl, s, _, _, 0, rfl, rfl, hs, rfl, ?_⟩
      exact ⟨_, rfl, k _ _ (mod_lo n0) (mod_hi n0) XB.upd ⟨_, _, _, upd_same, b0, b1, c0, by omega⟩⟩
    · refine ⟨_, rfl, s, _, _, _, rfl, rfl, SqL.of hs, rfl, _, _, rfl, rfl, _, rfl, s, _, _, 2, rfl, rfl, hs, rfl, ?_⟩
      have xb0 : XB s H (upd H s (.lst [.int a, .int b, .int (c + 1)])) := XB.upd
      have hs1 : upd H s (.lst [.int a, .int b, .int (c + 1)]) s = some (.lst [.int a, .int b, .int (c + 1)]) := upd_same
      show tSeq _ _ _ _ (upd H s (.lst [.int a, .int b, .int (c + 1)]))
      generalize upd H s (.lst [.int a, .int b, .int (c + 1)]) = H1 at xb0 hs1
      -- the prime
      refine ⟨by show 4 ≤ sizeLine; decide, fun pl hpl => ?_⟩
      have np : s ≠ pl := ne_of_none hs1 hpl
      have hs2 := exn (o := .lst [.int 2147483629, .int 2147483587, .int 2147483579, .int 2147483563]) hpl _ _ hs1
      obtain ⟨pr, mp, gp⟩ := at_ex (xs := [2147483629, 2147483587, 2147483579, 2147483563]) (r := (c + 1) % 4) (mod_lo (by decide)) (mod_hi (by decide))
      have p1 : 2000000000 < pr ∧ pr < 2147483648 := by
        simp only [List.mem_cons, List.not_mem_nil, or_false] at mp
        omega
      refine ⟨_, rfl, s, _, _, _, rfl, rfl, SqL.of hs2, rfl, _, _, rfl, rfl, (by show (0 : Int) < 4; decide), pl, _, _, _, rfl, rfl, SqL.of upd_same, gp, ?_⟩
      have xb2 : XB s H (upd H1 pl (.lst [.int 2147483629, .int 2147483587, .int 2147483579, .int 2147483563])) := xb0.trans (XB.of (exn hpl))
      show tSeq _ _ _ _ (upd H1 pl (.lst [.int 2147483629, .int 2147483587, .int 2147483579, .int 2147483563]))
      generalize upd H1 pl (.lst [.int 2147483629, .int 2147483587, .int 2147483579, .int 2147483563]) = H2 at xb2 hs2
      have e64 : (2 : Nat) ^ 64 = 18446744073709551616 := by decide
      refine ⟨_, rfl, s, _, _, _, rfl, rfl, SqL.of hs2, rfl, _, rfl, s, _, _, _, rfl, rfl, SqL.of hs2, rfl, _, _, rfl, rfl, mul_ok (.inl (by decide)), _, _, rfl, rfl, _, _, rfl, rfl, _, _, rfl, rfl, ⟨by decide, by decide, by rw [e64]; omega⟩, _, rfl, _, _, rfl, rfl, (by show 0 < pr; omega), ?_⟩
      have q1 := mod_lo (i := (b + 6007 * (c + 1) + 29) ^ (3 : Int).toNat) (n := pr) (by omega)
      have q2 := mod_hi (i := (b + 6007 * (c + 1) + 29) ^ (3 : Int).toNat) (n := pr) (by omega)
      dsimp only
      generalize (b + 6007 * (c + 1) + 29) ^ (3 : Int).toNat % pr = x1 at q1 q2
      refine ⟨_, rfl, _, rfl, s, _, _, _, rfl, rfl, SqL.of hs2, rfl, _, _, rfl, rfl, _, rfl, _, _, rfl, rfl, ⟨by decide, by decide +kernel⟩, _, _, rfl, rfl, _, _, rfl, rfl, mul_ok (.inr (by omega)), _, rfl, _, _, rfl, rfl, (by show 0 < pr; omega), ?_⟩
      have q3 := mod_lo (i := (x1 + (c + 1)) * (x1 / 1021 + 50021)) (n := pr) (by omega)
      have q4 := mod_hi (i := (x1 + (c + 1)) * (x1 / 1021 + 50021)) (n := pr) (by omega)
      dsimp only
      generalize (x1 + (c + 1)) * (x1 / 1021 + 50021) % pr = x2 at q3 q4
      refine ⟨_, rfl, _, rfl, _, _, rfl, rfl, ⟨by decide, by decide +kernel⟩, _, rfl, s, _, _, _, rfl, rfl, SqL.of hs2, rfl, _, _, rfl, rfl, mul_ok (.inl (by decide)), _, _, rfl, rfl, _, _, rfl, rfl, _, _, rfl, rfl, mul_ok (.inl (by omega)), _, rfl, _, _, rfl, rfl, (by show 0 < pr; omega), ?_⟩
      refine ⟨_, rfl, _, _, rfl, rfl, ⟨by decide, by decide +kernel⟩, _, rfl, _, _, rfl, rfl, n0, ?_⟩
      exact k _ _ (mod_lo n0) (mod_hi n0) xb2 ⟨_, _, _, hs2, b0, b1, by omega, by omega⟩
end

/-! ### inverses -/
structure InvI (u m a x b y : Int) : Prop where
  a1 : 0 < a
  b0 : 0 ≤ b
  am : a ≤ m
  bm : b ≤ m
  ax : m ∣ a - x * u
  bx : m ∣ b - y * u
  g : Int.gcd a b = Int.gcd u m
  sz : (x.natAbs : Int) * b + (y.natAbs : Int) * a ≤ m
theorem InvI.init {u m : Int} (h : 1 ≤ m) : InvI u m m 0 (u % m) 1 where
  a1 := by omega
  b0 := Int.emod_nonneg _ (by omega)
  am := Int.le_refl _
  bm := Int.le_of_lt (Int.emod_lt_of_pos _ (by omega))
  ax := by rw [Int.zero_mul, Int.sub_zero]; exact Int.dvd_refl _
  bx := by
    have e : u % m - 1 * u = m * (-(u / m)) := by
      have := Int.emod_add_mul_ediv u m
      grind
    rw [e]
    exact Int.dvd_mul_right _ _
  g := gcd_turn (by omega)
  sz := by
    have e1 : ((0 : Int).natAbs : Int) = 0 := rfl
    have e2 : ((1 : Int).natAbs : Int) = 1 := rfl
    rw [e1, e2]
    omega
theorem InvI.step {u m a x b y : Int} (h : InvI u m a x b y) (hb : 0 < b) : InvI u m b y (a - a / b * b) (x - a / b * y) ∧ a - a / b * b < b := by
  have e : a - a / b * b = a % b := by
    have := Int.emod_add_mul_ediv a b
    grind
  have q0 : 0 ≤ a / b := Int.ediv_nonneg (by have := h.a1; omega) (by omega)
  have l1 := Int.emod_lt_of_pos a hb
  have l0 := Int.emod_nonneg a (show b ≠ 0 by omega)
  refine ⟨⟨hb, by omega, h.bm, by have := h.bm; omega, h.bx, ?_, ?_, ?_⟩, by omega⟩
  · have e2 : a - a / b * b - (x - a / b * y) * u = (a - x * u) - a / b * (b - y * u) := by grind
    rw [e2]
    exact Int.dvd_sub h.ax (Int.dvd_trans h.bx (Int.dvd_mul_left _ _))
  · rw [e, gcd_turn (by omega)]
    exact h.g
  · have h1 := h.sz
    have z1 : ((x - a / b * y).natAbs : Int) ≤ x.natAbs + a / b * y.natAbs := by
      have t1 : (x - a / b * y).natAbs ≤ x.natAbs + (a / b * y).natAbs := by omega
      have t2 : ((a / b * y).natAbs : Int) = a / b * y.natAbs := by
        rw [Int.natAbs_mul, Int.natCast_mul, Int.natAbs_of_nonneg q0]
      omega
    have z2 := Int.mul_le_mul_of_nonneg_right z1 (show 0 ≤ b by omega)
    have z3 : (y.natAbs : Int) * (a - a / b * b) + ((x.natAbs : Int) + a / b * y.natAbs) * b = (y.natAbs : Int) * a + (x.natAbs : Int) * b := by grind
    omega
theorem InvI.ybound {u m a x b y : Int} (h : InvI u m a x b y) : (y.natAbs : Int) ≤ m := by
  have h1 := h.sz
  have h2 : 0 ≤ (x.natAbs : Int) * b := Int.mul_nonneg (by omega) h.b0
  have h3 : (y.natAbs : Int) * 1 ≤ (y.natAbs : Int) * a := Int.mul_le_mul_of_nonneg_left (by have := h.a1; omega) (by omega)
  omega
theorem InvI.done {u m a x y : Int} (h : InvI u m a x 0 y) (co : Int.gcd u m = 1) : u * (x % m) % m = 1 % m := by
  have a1 : a = 1 := by
    have := h.g
    rw [co] at this
    have h2 : a.natAbs = 1 := by rw [← this]; simp
    have := h.a1
    omega
  have hx := h.ax
  rw [a1] at hx
  rw [Int.mul_emod, Int.emod_emod, ← Int.mul_emod, Int.mul_comm]
  exact (emod_eq_iff.mpr hx).symm
theorem InvI.ex {u m a x y : Int} (h : InvI u m a x 0 y) : (1 : Int) ≤ m := by
  have := h.a1
  have := h.am
  omega
/-- inverses are unique -/
theorem inv_unique {u m r t : Int} (r0 : 0 ≤ r) (r1 : r < m) (t0 : 0 ≤ t) (t1 : t < m) (hr : u * r % m = 1 % m) (ht : u * t % m = 1 % m) : r = t := by
  have h1 : m ∣ u * r - 1 := emod_eq_iff.mp hr
  have h2 : m ∣ u * t - 1 := emod_eq_iff.mp ht
  have h3 : m ∣ r - t := by
    have e : r - t = t * (u * r - 1) - r * (u * t - 1) := by grind
    rw [e]
    exact Int.dvd_sub (Int.dvd_trans h1 (Int.dvd_mul_left _ _)) (Int.dvd_trans h2 (Int.dvd_mul_left _ _))
  have h4 := emod_eq_iff.mpr h3
  rw [Int.emod_eq_of_lt r0 r1, Int.emod_eq_of_lt t0 t1] at h4
  exact h4

section
variable {P : Program} {w : World} {K : PySem.W.Frag} {mg : Str → Option Value} {base : Heap}
def sp_inverse : Sp := fun vs H Q _ => ∃ (u m : Int), vs = [.int u, .int m] ∧ 1 ≤ m ∧ m ≤ 10 ^ 45 ∧ Int.gcd u m = 1 ∧ ∀ r H2, 0 ≤ r → r < m → u * r % m = 1 % m → Ex H H2 → Q (.int r) H2
theorem ok_inverse (T : TX K mg) : FnOk P w K mg base CX0 1 T.f_inverse T.fd_inverse ["number", "modulus"] sp_inverse := by
  refine T.F_inverse.ok sc_inverse (fun vs H Q E h => ?_) (fun cdv A outer s H vs Q E hr h => ?_)
  · obtain ⟨u, m, rfl, _⟩ := h
    rfl
  · obtain ⟨u, m, rfl, m1, m2, co, k⟩ := h
    refine ⟨_, (pss_cons (ps_par (i := 2) (j := 3) rfl sc_inverse.nd rfl rfl (by decide) rfl rfl (pa_cons (pe_tup (pa_cons (pv 1) (pa_cons pe_int pa_nil))) (pa_cons (pe_tup (pa_cons (pe_op op_mod (pv 0) (pv 1)) (pa_cons pe_int pa_nil))) pa_nil)) (by rfl)) (pss_cons (ps_while PassesOwn.never (pt_cmpR op_gt (pe_ix ix_tup (pv 3) pe_int (fun _ _ => rfl)) pe_int (nomark _)) (pss_cons (ps_set (i := 4) sc_inverse.nd rfl (Or.inl rfl) (pe_op op_fdivW (pe_ix ix_tup (pv 2) pe_int (fun _ _ => rfl)) (pe_ix ix_tup (pv 3) pe_int (fun _ _ => rfl)))) (pss_one (ps_par (i := 2) (j := 3) rfl sc_inverse.nd rfl rfl (by decide) rfl rfl (pa_cons (pv 3) (pa_cons (pe_tup (pa_cons (pe_op op_sub (pe_ix ix_tup (pv 2) pe_int (fun _ _ => rfl)) (pe_op op_mulI (pv 4) (pe_ix ix_tup (pv 3) pe_int (fun _ _ => rfl)))) (pa_cons (pe_op op_sub (pe_ix ix_tup (pv 2) pe_int (fun _ _ => rfl)) (pe_op op_mulI (pv 4) (pe_ix ix_tup (pv 3) pe_int (fun _ _ => rfl)))) pa_nil))) pa_nil)) (by rfl))))) (pss_one (ps_ret (pe_op op_mod (pe_ix ix_tup (pv 2) pe_int (fun _ _ => rfl)) (pv 1)))))), ?_⟩
    refine ⟨_, rfl, by show 2 ≤ sizeLine; decide, fun l0 hl0 => ⟨_, rfl, _, rfl, _, _, rfl, rfl, (by show 0 < m; omega), by show 2 ≤ sizeLine; decide, fun h0 hh0 => ⟨_, _, rfl, ?_⟩⟩⟩
    refine ⟨fun j σ H2 => ∃ (lo hi : Addr) (y4 : Option V) (a x b y : Int), σ = [some (.int u), some (.int m), some (.ref lo), some (.ref hi), y4] ∧ Ex H H2 ∧ H2 lo = some (.tup [.int a, .int x]) ∧ H2 hi = some (.tup [.int b, .int y]) ∧ InvI u m a x b y ∧ j = b.toNat, ⟨_, l0, h0, none, m, 0, u % m, 1, rfl, ext (exn hl0) (exn hh0), exn hh0 _ _ upd_same, upd_same, .init m1, rfl⟩, ?_⟩
    rintro j σ H2 ⟨lo, hi, y4, a, x, b, y, rfl, e2, hlo, hhi, inv, rfl⟩
    refine ⟨_, rfl, hi, _, _, _, rfl, rfl, SqT.of hhi, rfl, _, _, rfl, rfl, _, rfl, ?_⟩
    refine ite2 (fun hb => ?_) (fun hb => ?_)
    · have hb : 0 < b := of_decide_eq_true hb
      obtain ⟨inv2, lt⟩ := inv.step hb
      have q0 : 0 ≤ a / b := Int.ediv_nonneg (by have := inv.a1; omega) (by omega)
      have qa : a / b ≤ a := Int.ediv_le_self _ (by have := inv.a1; omega)
      have bb : b.natAbs < 2 ^ 150 := abs45 (by omega) (Int.le_trans inv.bm m2)
      have qq : (a / b).natAbs < 2 ^ 150 := abs45 q0 (Int.le_trans qa (Int.le_trans inv.am m2))
      have yy : y.natAbs < 2 ^ 150 := by
        have := abs45 (n := (y.natAbs : Int)) (by omega) (Int.le_trans inv.ybound m2)
        rw [Int.natAbs_natCast] at this
        exact this
      refine ⟨_, fun _ _ h => h, ?_⟩
      refine ⟨_, rfl, lo, _, _, _, rfl, rfl, SqT.of hlo, rfl, _, rfl, hi, _, _, _, rfl, rfl, SqT.of hhi, rfl, _, _, rfl, rfl, wide_div hb bb (by decide) (by decide), ?_⟩
      refine ⟨_, rfl, _, rfl, lo, _, _, _, rfl, rfl, SqT.of hlo, rfl, _, rfl, _, rfl, hi, _, _, _, rfl, rfl, SqT.of hhi, rfl, _, _, rfl, rfl, (wide_mul qq bb (by decide) (by decide) (by decide)).ok, _, _, rfl, rfl, ?_⟩
      refine ⟨_, rfl, lo, _, _, _, rfl, rfl, SqT.of hlo, rfl, _, rfl, _, rfl, hi, _, _, _, rfl, rfl, SqT.of hhi, rfl, _, _, rfl, rfl, (wide_mul qq yy (by decide) (by decide) (by decide)).ok, _, _, rfl, rfl, by show 2 ≤ sizeLine; decide, fun nt hnt => ?_⟩
      have e3 := exn (o := .tup [.int (a - a / b * b), .int (x - a / b * y)]) hnt
      refine ⟨_, _, rfl, _, (by show (a - a / b * b).toNat < b.toNat; have := inv2.b0; omega), hi, nt, _, b, y, a - a / b * b, x - a / b * y, rfl, ext e2 e3, e3 _ _ hhi, upd_same, inv2, rfl⟩
    · have hb : ¬ 0 < b := fun z => hb (decide_eq_true z)
      obtain rfl : b = 0 := by have := inv.b0; omega
      refine ⟨_, rfl, lo, _, _, _, rfl, rfl, SqT.of hlo, rfl, _, rfl, _, _, rfl, rfl, (by show 0 < m; omega), ?_⟩
      exact k _ _ (mod_lo (by omega)) (mod_hi (by omega)) (inv.done co) e2
end

/-! ### sums of two targets on a ring -/
theorem odd_split : ∀ (f : Nat) (n : Int), 1 ≤ n → n.natAbs ≤ f → ∃ (k : Nat) (a : Int), n = 2 ^ k * (2 * a + 1)
  | 0, n, h, l => by omega
  | f + 1, n, h, l => by
    by_cases o : n % 2 = 1
    · exact ⟨0, n / 2, by rw [Int.pow_zero]; omega⟩
    · obtain ⟨k, a, e⟩ := odd_split f (n / 2) (by omega) (by omega)
      refine ⟨k + 1, a, ?_⟩
      have e2 : n = 2 * (n / 2) := by omega
      rw [e2, e, Int.pow_succ]
      grind
theorem odd_le {k j : Nat} {o p : Int} (h : (2 : Int) ^ k * o = 2 ^ j * p) (ho : o % 2 = 1) (hkj : k ≤ j) : o = p ∧ k = j := by
  obtain ⟨i, rfl⟩ := Nat.exists_eq_add_of_le hkj
  rw [Int.pow_add, Int.mul_assoc] at h
  have h2 : o = 2 ^ i * p := Int.eq_of_mul_eq_mul_left (by have := pow2_pos k; omega) h
  cases i with
  | zero => exact ⟨by rw [h2, Int.pow_zero, Int.one_mul], rfl⟩
  | succ i =>
    rw [Int.pow_succ] at h2
    have : o = 2 * (2 ^ i * p) := by rw [h2]; grind
    omega
theorem odd_unique {k j : Nat} {o p : Int} (h : (2 : Int) ^ k * o = 2 ^ j * p) (ho : o % 2 = 1) (hp : p % 2 = 1) : o = p ∧ k = j := by
  rcases Nat.le_total k j with l | l
  · exact odd_le h ho l
  · obtain ⟨a, b⟩ := odd_le h.symm hp l
    exact ⟨a.symm, b.symm⟩
/-- c calls reach the place at distance d from the first of two targets, and fewer do not -/
structure TwoOk (n g d f : Int) (c : Nat) : Prop where
  dv : d * 2 ^ c % gcdI g n = 0
  le : d * 2 ^ c / gcdI g n * f % (n / gcdI g n) ≤ 2 ^ c
  least : c = 0 ∨ ((2 : Int) ^ (c - 1) < n ∧ (¬ d * 2 ^ (c - 1) % gcdI g n = 0 ∨ (2 : Int) ^ (c - 1) < d * 2 ^ (c - 1) / gcdI g n * f % (n / gcdI g n)))
theorem coprime_parts {g n : Int} (h : 1 ≤ n) : Int.gcd (g / gcdI g n) (n / gcdI g n) = 1 := Int.gcd_ediv_gcd_ediv_gcd (gcd_pos2 h)
theorem two_next {n g d f : Int} {c : Nat} (h0 : 0 < n / gcdI g n) (s0 : 0 < gcdI g n) (f0 : d * 2 ^ c % gcdI g n = 0) (f1 : d * 2 ^ c / gcdI g n * f % (n / gcdI g n) ≤ 2 ^ c) : d * 2 ^ (c + 1) % gcdI g n = 0 ∧ d * 2 ^ (c + 1) / gcdI g n * f % (n / gcdI g n) ≤ 2 ^ (c + 1) := by
  generalize gcdI g n = sh at *
  generalize n / sh = per at *
  obtain ⟨x, hx⟩ := Int.dvd_of_emod_eq_zero f0
  have e : d * 2 ^ (c + 1) = sh * (2 * x) := by
    rw [Int.pow_succ, ← Int.mul_assoc, hx]
    grind
  have e1 : d * 2 ^ (c + 1) / sh = 2 * x := by rw [e, Int.mul_ediv_cancel_left _ (by omega)]
  have e2 : d * 2 ^ c / sh = x := by rw [hx, Int.mul_ediv_cancel_left _ (by omega)]
  rw [e2] at f1
  refine ⟨by rw [e]; exact Int.mul_emod_right _ _, ?_⟩
  rw [e1]
  have h1 := mod_lo (i := x * f) h0
  have e3 : 2 * x * f % per = 2 * (x * f % per) % per := by
    rw [Int.mul_assoc, Int.mul_emod, Int.mul_emod 2 (x * f % per), Int.emod_emod]
  rw [e3, Int.pow_succ]
  have h2 : 2 * (x * f % per) % per ≤ 2 * (x * f % per) := by
    rcases Int.lt_or_le (2 * (x * f % per)) per with l | l
    · rw [Int.emod_eq_of_lt (by omega) l]
      exact Int.le_refl _
    · have := mod_hi (i := 2 * (x * f % per)) h0
      omega
  omega
theorem two_more {n g d f : Int} (h0 : 0 < n / gcdI g n) (s0 : 0 < gcdI g n) {c : Nat} (f0 : d * 2 ^ c % gcdI g n = 0) (f1 : d * 2 ^ c / gcdI g n * f % (n / gcdI g n) ≤ 2 ^ c) : ∀ i : Nat, d * 2 ^ (c + i) % gcdI g n = 0 ∧ d * 2 ^ (c + i) / gcdI g n * f % (n / gcdI g n) ≤ 2 ^ (c + i)
  | 0 => ⟨f0, f1⟩
  | i + 1 => by
    obtain ⟨a, b⟩ := two_more h0 s0 f0 f1 i
    exact two_next h0 s0 a b
theorem TwoOk.notLess {n g d f : Int} {c e : Nat} (h0 : 0 < n / gcdI g n) (s0 : 0 < gcdI g n) (h : TwoOk n g d f c) (h2 : TwoOk n g d f e) : ¬ c < e := fun l => by
  obtain ⟨i, rfl⟩ : ∃ i, e = c + i + 1 := ⟨e - c - 1, by omega⟩
  obtain ⟨a, b⟩ := two_more h0 s0 h.dv h.le i
  rcases h2.least with z | ⟨_, z | z⟩
  · omega
  · exact z a
  · have e1 : c + i + 1 - 1 = c + i := rfl
    rw [e1] at z
    omega
theorem TwoOk.same {n g d f : Int} {c e : Nat} (h0 : 0 < n / gcdI g n) (s0 : 0 < gcdI g n) (h : TwoOk n g d f c) (h2 : TwoOk n g d f e) : c = e := by
  have := TwoOk.notLess h0 s0 h h2
  have := TwoOk.notLess h0 s0 h2 h
  omega
/-- what the ring leaves of X, in shares -/
theorem share_mod {n sh X : Int} (s0 : 0 < sh) (hn : sh ∣ n) (hX : X % sh = 0) : X % n % sh = 0 ∧ ∀ f, X % n / sh * f % (n / sh) = X / sh * f % (n / sh) := by
  obtain ⟨x, rfl⟩ := Int.dvd_of_emod_eq_zero hX
  obtain ⟨per, rfl⟩ := hn
  have e : sh * x % (sh * per) = sh * (x % per) := Int.mul_emod_mul_of_pos _ _ s0
  rw [e]
  refine ⟨Int.mul_emod_right _ _, fun f => ?_⟩
  rw [Int.mul_ediv_cancel_left _ (by omega), Int.mul_ediv_cancel_left _ (by omega), Int.mul_ediv_cancel_left _ (by omega), Int.mul_emod, Int.emod_emod, ← Int.mul_emod]
theorem share_not {n sh X : Int} (hn : sh ∣ n) (hX : ¬ X % sh = 0) : ¬ X % n % sh = 0 := by
  rw [Int.emod_emod_of_dvd _ hn]
  exact hX
/-- no call: at one of the two -/
theorem two_zero {n a b p f : Int} (a0 : 0 ≤ a) (a1 : a < n) (b0 : 0 ≤ b) (b1 : b < n) (p0 : 0 ≤ p) (p1 : p < n) (s0 : 0 < gcdI ((b - a) % n) n)
    (hf : (b - a) % n / gcdI ((b - a) % n) n * f % (n / gcdI ((b - a) % n) n) = 1 % (n / gcdI ((b - a) % n) n)) (h : TwoOk n ((b - a) % n) ((p - a) % n) f 0) : p = a ∨ p = b := by
  have n0 : 0 < n := by omega
  have gd : gcdI ((b - a) % n) n ∣ n := Int.gcd_dvd_right _ _
  have gg : gcdI ((b - a) % n) n ∣ (b - a) % n := Int.gcd_dvd_left _ _
  have h1 := h.dv
  have h2 := h.le
  rw [Int.pow_zero, Int.mul_one] at h1
  rw [Int.pow_zero, Int.mul_one] at h2
  have d0 := mod_lo (i := p - a) n0
  have d1 := mod_hi (i := p - a) n0
  have g0 := mod_lo (i := b - a) n0
  have g1 := mod_hi (i := b - a) n0
  have back : ∀ q r : Int, 0 ≤ q → q < n → 0 ≤ r → r < n → (q - a) % n = (r - a) % n → q = r := fun q r q0 q1 r0 r1 e => by
    have := emod_eq_iff.mp e
    have e2 : q - a - (r - a) = q - r := by omega
    rw [e2] at this
    have := emod_eq_iff.mpr this
    rwa [Int.emod_eq_of_lt q0 q1, Int.emod_eq_of_lt r0 r1] at this
  have fin : (p - a) % n = 0 ∨ (p - a) % n = (b - a) % n → p = a ∨ p = b := by
    rintro (z | z)
    · left
      exact back p a p0 p1 a0 a1 (by rw [z, Int.sub_self, Int.zero_emod])
    · right
      exact back p b p0 p1 b0 b1 z
  apply fin
  clear fin back
  generalize hg : (b - a) % n = g at *
  generalize (p - a) % n = d at *
  generalize gcdI g n = sh at *
  obtain ⟨x, rfl⟩ := Int.dvd_of_emod_eq_zero h1
  obtain ⟨per, rfl⟩ := gd
  obtain ⟨u, rfl⟩ := gg
  rw [Int.mul_ediv_cancel_left _ (by omega)] at h2 hf
  rw [Int.mul_ediv_cancel_left _ (by omega)] at h2 hf
  have per0 : 0 < per := Int.pos_of_mul_pos_right n0 s0
  have x0 := mod_lo (i := x * f) per0
  have hf2 : per ∣ u * f - 1 := emod_eq_iff.mp hf
  have x1 : x < per := Int.lt_of_mul_lt_mul_left d1 (by omega)
  have x2 : 0 ≤ x := Int.nonneg_of_mul_nonneg_right d0 s0
  have u1 : u < per := Int.lt_of_mul_lt_mul_left g1 (by omega)
  have u2 : 0 ≤ u := Int.nonneg_of_mul_nonneg_right g0 s0
  rcases Int.lt_or_le (x * f % per) 1 with l | l
  · left
    have e : x * f % per = 0 := by omega
    have hx : per ∣ x * f := Int.dvd_of_emod_eq_zero e
    have hx2 : per ∣ x := by
      have e3 : x = u * (x * f) - x * (u * f - 1) := by grind
      rw [e3]
      exact Int.dvd_sub (Int.dvd_trans hx (Int.dvd_mul_left _ _)) (Int.dvd_trans hf2 (Int.dvd_mul_left _ _))
    have := Int.emod_eq_zero_of_dvd hx2
    rw [Int.emod_eq_of_lt x2 x1] at this
    rw [this, Int.mul_zero]
  · right
    have e : x * f % per = 1 := by omega
    have p1 : 1 < per := by have := mod_hi (i := x * f) per0; omega
    have hx : per ∣ x * f - 1 := emod_eq_iff.mp (by rw [e, Int.emod_eq_of_lt (by decide) p1])
    have hx2 : per ∣ x - u := by
      have e3 : x - u = u * (x * f - 1) - x * (u * f - 1) := by grind
      rw [e3]
      exact Int.dvd_sub (Int.dvd_trans hx (Int.dvd_mul_left _ _)) (Int.dvd_trans hf2 (Int.dvd_mul_left _ _))
    have := emod_eq_iff.mpr hx2
    rw [Int.emod_eq_of_lt x2 x1, Int.emod_eq_of_lt u2 u1] at this
    rw [this]

theorem bit_two {x y : Int} (h : x.natAbs < 2 ^ 150) (c : Nat) (hc : c ≤ 200) : CShl x (c : Int) := shl_ok (n := 150) h (by omega)
section
variable {P : Program} {w : World} {K : PySem.W.Frag} {mg : Str → Option Value} {base : Heap}
def sp_require_at_least : Sp := fun vs H Q _ => ∃ (i low : Int) (nm : V), vs = [.int i, .int low, nm] ∧ low ≤ i ∧ Q .non H
theorem ok_require_at_least (T : TX K mg) : FnOk P w K mg base CX0 3 T.f_require_at_least T.fd_require_at_least ["value", "low", "name"] sp_require_at_least := by
  refine T.F_require_at_least.ok sc_require_at_least (fun vs H Q E h => ?_) (fun cdv A outer s H vs Q E hr h => ?_)
  · obtain ⟨i, low, nm, rfl, _⟩ := h
    rfl
  · obtain ⟨i, low, nm, rfl, h, k⟩ := h
    refine ⟨_, (pss_one (ps_if (pt_not (pt_val (pe_call (ok_is_at_least T) hr rfl T.m_is_at_least T.F_is_at_least.kp T.b_is_at_least .nil pass0 (pa_cons (pv 0) (pa_cons (pv 1) pa_nil))))) pss_never pss_nil)), ?_⟩
    refine ⟨_, rfl, _, rfl, _, some i, low, rfl, rfl, _, rfl, itf ?_ k⟩
    show (!decide (low ≤ i)) = false
    rw [decide_eq_true h]
    rfl
def sp_require_place : Sp := fun vs H Q _ => ∃ (n p : Int) (nm : V), vs = [.int n, .int p, nm] ∧ 0 ≤ p ∧ p < n ∧ Q .non H
theorem ok_require_place (T : TX K mg) : FnOk P w K mg base CX0 3 T.f_require_place T.fd_require_place ["size", "place", "name"] sp_require_place := by
  refine T.F_require_place.ok sc_require_place (fun vs H Q E h => ?_) (fun cdv A outer s H vs Q E hr h => ?_)
  · obtain ⟨n, p, nm, rfl, _⟩ := h
    rfl
  · obtain ⟨n, p, nm, rfl, p0, p1, k⟩ := h
    refine ⟨_, (pss_one (ps_if (pt_not (pt_val (pe_call (ok_is_between T) hr rfl T.m_is_between T.F_is_between.kp T.b_is_between .nil pass0 (pa_cons (pv 1) (pa_cons pe_int (pa_cons (pe_op op_sub (pv 0) pe_int) pa_nil)))))) pss_never pss_nil)), ?_⟩
    refine ⟨_, rfl, _, rfl, _, _, rfl, rfl, _, some p, 0, n - 1, rfl, rfl, _, rfl, itf ?_ k⟩
    show (!(decide (0 ≤ p) && decide (p ≤ n - 1))) = false
    rw [decide_eq_true p0, decide_eq_true (by omega)]
    rfl
def sp_odd_part : Sp := fun vs H Q _ => ∃ (n : Int), vs = [.int n] ∧ 1 ≤ n ∧ n ≤ 10 ^ 45 ∧ ∀ (k : Nat) (o : Int), n = 2 ^ k * o → o % 2 = 1 → Q (.int o) H
theorem ok_odd_part (T : TX K mg) : FnOk P w K mg base CX0 1 T.f_odd_part T.fd_odd_part ["number"] sp_odd_part := by
  refine T.F_odd_part.ok sc_odd_part (fun vs H Q E h => ?_) (fun cdv A outer s H vs Q E hr h => ?_)
  · obtain ⟨n, rfl, _⟩ := h
    rfl
  · obtain ⟨n, rfl, n1, n2, k⟩ := h
    refine ⟨_, (pss_one (ps_ret (pe_op op_fdivW (pv 0) (pe_op op_and (pv 0) (pe_un un_neg (pv 0)))))), ?_⟩
    obtain ⟨j, a, e⟩ := odd_split n.natAbs n n1 (Nat.le_refl _)
    have eb : Builtin.bitAnd n (-n) = 2 ^ j := by
      rw [e]
      exact PySem.W.kbt_low j a
    have p0 := pow2_pos j
    have a0 : 1 ≤ 2 * a + 1 := by
      rcases Int.lt_or_le 0 (2 * a + 1) with h | h
      · omega
      · have := Int.mul_le_mul_of_nonneg_left h (show 0 ≤ (2 : Int) ^ j by omega)
        omega
    have pl : (2 : Int) ^ j ≤ n := by
      have := Int.mul_le_mul_of_nonneg_left a0 (show 0 ≤ (2 : Int) ^ j by omega)
      omega
    refine ⟨_, rfl, _, rfl, _, rfl, _, rfl, _, _, rfl, rfl, _, _, rfl, rfl, ?_, ?_⟩
    · rw [eb]
      exact wide_div (by omega) (abs45 (by omega) (by omega)) (by decide) (by decide)
    · dsimp only
      have e2 : n / Builtin.bitAnd n (-n) = 2 * a + 1 := by
        rw [eb]
        conv => lhs; lhs; rw [e]
        exact Int.mul_ediv_cancel_left _ (by omega)
      rw [e2]
      exact k j _ e (by omega)
def sp_require_two : Sp := fun vs H Q _ => ∃ (n a b p : Int), vs = [.int n, .int a, .int b, .int p] ∧ 0 ≤ a ∧ a < n ∧ 0 ≤ b ∧ b < n ∧ 0 ≤ p ∧ p < n ∧ a ≠ b ∧ Q .non H
theorem ok_require_two (T : TX K mg) : FnOk P w K mg base CX0 4 T.f_require_two T.fd_require_two ["size", "first", "second", "place"] sp_require_two := by
  refine T.F_require_two.ok sc_require_two (fun vs H Q E h => ?_) (fun cdv A outer s H vs Q E hr h => ?_)
  · obtain ⟨n, a, b, p, rfl, _⟩ := h
    rfl
  · obtain ⟨n, a, b, p, rfl, a0, a1, b0, b1, p0, p1, ne, k⟩ := h
    refine ⟨_, (pss_cons (ps_expr (pe_call (ok_require_at_least T) hr rfl T.m_require_at_least T.F_require_at_least.kp T.b_require_at_least .nil pass0 (pa_cons (pv 0) (pa_cons pe_int (pa_cons pe_str pa_nil))))) (pss_cons (ps_expr (pe_call (ok_require_place T) hr rfl T.m_require_place T.F_require_place.kp T.b_require_place .nil pass0 (pa_cons (pv 0) (pa_cons (pv 1) (pa_cons pe_str pa_nil))))) (pss_cons (ps_expr (pe_call (ok_require_place T) hr rfl T.m_require_place T.F_require_place.kp T.b_require_place .nil pass0 (pa_cons (pv 0) (pa_cons (pv 2) (pa_cons pe_str pa_nil))))) (pss_cons (ps_if (pt_cmpR op_eq (pv 1) (pv 2) (nomark _)) pss_never pss_nil) (pss_one (ps_expr (pe_call (ok_require_place T) hr rfl T.m_require_place T.F_require_place.kp T.b_require_place .nil pass0 (pa_cons (pv 0) (pa_cons (pv 3) (pa_cons pe_str pa_nil)))))))))), ?_⟩
    refine ⟨_, rfl, n, 1, _, rfl, by omega, ?_⟩
    refine ⟨_, rfl, _, rfl, n, a, _, rfl, a0, a1, ?_⟩
    refine ⟨_, rfl, _, rfl, n, b, _, rfl, b0, b1, ?_⟩
    refine ⟨_, rfl, _, rfl, rfl, _, rfl, itf (by rw [dec_int]; simp [ne]) ?_⟩
    exact ⟨_, rfl, _, rfl, n, p, _, rfl, p0, p1, k⟩
def sp_two_target_sum : Sp := fun vs H Q _ => ∃ (n a b p : Int), vs = [.int n, .int a, .int b, .int p] ∧ n ≤ 10 ^ 44 ∧ 0 ≤ a ∧ a < n ∧ 0 ≤ b ∧ b < n ∧ 0 ≤ p ∧ p < n ∧ a ≠ b ∧
  ∀ (k : Nat) (o : Int), gcdI ((b - a) % n) n = 2 ^ k * o → o % 2 = 1 →
    (¬ (p - a) % n % o = 0 → ∀ H2, Ex H H2 → Q .non H2) ∧
    ((p - a) % n % o = 0 → ∀ (f : Int) (c : Nat) (q l : Addr) H2, 0 ≤ f → f < n / gcdI ((b - a) % n) n → (b - a) % n / gcdI ((b - a) % n) n * f % (n / gcdI ((b - a) % n) n) = 1 % (n / gcdI ((b - a) % n) n) → TwoOk n ((b - a) % n) ((p - a) % n) f c → Ex H H2 →
      H2 q = some (.tup [.int c, .ref l]) → H2 l = some (.lst [.int (2 ^ c - (p - a) % n * 2 ^ c / gcdI ((b - a) % n) n * f % (n / gcdI ((b - a) % n) n)), .int ((p - a) % n * 2 ^ c / gcdI ((b - a) % n) n * f % (n / gcdI ((b - a) % n) n))]) → H l = none → Q (.ref q) H2)
theorem ok_two_target_sum (T : TX K mg) : FnOk P w K mg base CX0 5 T.f_two_target_sum T.fd_two_target_sum ["size", "first", "second", "place"] sp_two_target_sum := by
  refine T.F_two_target_sum.ok sc_two_target_sum (fun vs H Q E h => ?_) (fun cdv A outer s H vs Q E hr h => ?_)
  · obtain ⟨n, a, b, p, rfl, _⟩ := h
    rfl
  · obtain ⟨n, a, b, p, rfl, n2, a0, a1, b0, b1, p0, p1, ne, k⟩ := h
    refine ⟨_, (pss_cons (ps_expr (pe_call (ok_require_two T) hr rfl T.m_require_two T.F_require_two.kp T.b_require_two .nil pass0 (pa_cons (pv 0) (pa_cons (pv 1) (pa_cons (pv 2) (pa_cons (pv 3) pa_nil)))))) (pss_cons (ps_par (i := 4) (j := 5) rfl sc_two_target_sum.nd rfl rfl (by decide) rfl rfl (pa_cons (pe_op op_mod (pe_op op_sub (pv 2) (pv 1)) (pv 0)) (pa_cons (pe_op op_mod (pe_op op_sub (pv 3) (pv 1)) (pv 0)) pa_nil)) (by rfl)) (pss_cons (ps_set (i := 6) sc_two_target_sum.nd rfl (Or.inl rfl) (pe_call (ok_greatest_common_divisor T) (hr.mono (by decide)) rfl T.m_greatest_common_divisor T.F_greatest_common_divisor.kp T.b_greatest_common_divisor .nil pass0 (pa_cons (pv 4) (pa_cons (pv 0) pa_nil)))) (pss_cons (ps_if (pt_cmpR op_ne (pe_op op_mod (pv 5) (pe_call (ok_odd_part T) (hr.mono (by decide)) rfl T.m_odd_part T.F_odd_part.kp T.b_odd_part .nil pass0 (pa_cons (pv 6) pa_nil))) pe_int (nomark _)) (pss_one (ps_ret pe_non)) pss_nil) (pss_cons (ps_set (i := 7) sc_two_target_sum.nd rfl (Or.inl rfl) pe_int) (pss_cons (ps_while PassesOwn.never (pt_cmpR op_ne (pe_op op_mod (pe_op op_shlW (pv 5) (pv 7)) (pv 6)) pe_int (nomark _)) (pss_one (ps_set (i := 7) sc_two_target_sum.nd rfl (Or.inl rfl) (pe_op op_add (pv 7) pe_int)))) (pss_cons (ps_set (i := 8) sc_two_target_sum.nd rfl (Or.inl rfl) (pe_op op_fdivW (pv 0) (pv 6))) (pss_cons (ps_set (i := 9) sc_two_target_sum.nd rfl (Or.inl rfl) (pe_call (ok_inverse T) (hr.mono (by decide)) rfl T.m_inverse T.F_inverse.kp T.b_inverse .nil pass0 (pa_cons (pe_op op_fdivW (pv 4) (pv 6)) (pa_cons (pv 8) pa_nil)))) (pss_cons (ps_while PassesOwn.never (pt_cmpR op_gt (pe_op op_mod (pe_op op_mulI (pe_op op_fdivW (pe_op op_shlW (pv 5) (pv 7)) (pv 6)) (pv 9)) (pv 8)) (pe_op op_shlW pe_int (pv 7)) (nomark _)) (pss_one (ps_set (i := 7) sc_two_target_sum.nd rfl (Or.inl rfl) (pe_op op_add (pv 7) pe_int)))) (pss_cons (ps_set (i := 10) sc_two_target_sum.nd rfl (Or.inl rfl) (pe_op op_mod (pe_op op_mulI (pe_op op_fdivW (pe_op op_shlW (pv 5) (pv 7)) (pv 6)) (pv 9)) (pv 8))) (pss_one (ps_ret (pe_tup (pa_cons (pv 7) (pa_cons (pe_lst (pa_cons (pe_op op_sub (pe_op op_shlW pe_int (pv 7)) (pv 10)) (pa_cons (pv 10) pa_nil))) pa_nil))))))))))))))), ?_⟩
    refine ⟨_, rfl, _, rfl, _, rfl, _, rfl, n, a, b, p, rfl, a0, a1, b0, b1, p0, p1, ne, ?_⟩
    have n0 : 0 < n := by omega
    refine ⟨_, rfl, _, rfl, _, _, rfl, rfl, _, rfl, _, _, rfl, rfl, n0, _, rfl, _, rfl, _, _, rfl, rfl, _, rfl, _, _, rfl, rfl, n0, _, _, rfl, ?_⟩
    have g0 := mod_lo (i := b - a) n0
    have g1 := mod_hi (i := b - a) n0
    have d0 := mod_lo (i := p - a) n0
    have d1 := mod_hi (i := p - a) n0
    dsimp only
    generalize (b - a) % n = g at k g0 g1
    generalize (p - a) % n = d at k d0 d1
    refine ⟨_, rfl, _, rfl, g, n, rfl, g0, (by omega), ?_⟩
    have s0 : 0 < gcdI g n := by
      have := gcd_pos2 (p := g) (show 1 ≤ n by omega)
      show (0 : Int) < ((Int.gcd g n : Nat) : Int)
      omega
    have sl : gcdI g n ≤ n := Int.le_of_dvd n0 (Int.gcd_dvd_right g n)
    have co := coprime_parts (g := g) (show 1 ≤ n by omega)
    have sd : gcdI g n ∣ n := Int.gcd_dvd_right g n
    generalize hsh : gcdI g n = sh at k s0 sl co sd
    have n45 : n ≤ 10 ^ 45 := Int.le_trans n2 (by decide)
    have shB : sh.natAbs < 2 ^ 150 := abs45 (by omega) (by omega)
    have dB : d.natAbs < 2 ^ 150 := abs45 d0 (by omega)
    refine ⟨_, rfl, _, rfl, sh, rfl, by omega, by omega, fun j o e ho => ?_⟩
    have o0 : 0 < o := by
      rcases Int.lt_or_le 0 o with h | h
      · exact h
      · have := Int.mul_le_mul_of_nonneg_left h (show 0 ≤ (2 : Int) ^ j by have := pow2_pos j; omega)
        omega
    refine ⟨_, _, rfl, rfl, o0, rfl, _, rfl, ?_⟩
    by_cases hd : d % o = 0
    case neg => exact itt (by rw [dec_int]; simp [hd]) ((k j o e ho).1 hd _ exr)
    refine itf (by rw [dec_int]; simp [hd]) ?_
    have k2 := (k j o e ho).2 hd
    have dj : d * 2 ^ j % sh = 0 := by
      rw [e]
      refine Int.emod_eq_zero_of_dvd ?_
      rw [Int.mul_comm d]
      exact Int.mul_dvd_mul_left _ (Int.dvd_of_emod_eq_zero hd)
    have jn : (2 : Int) ^ j ≤ n := by
      have h1 : (2 : Int) ^ j * 1 ≤ 2 ^ j * o := Int.mul_le_mul_of_nonneg_left (by omega) (by have := pow2_pos j; omega)
      omega
    have small : ∀ c : Nat, (2 : Int) ^ c ≤ n → c ≤ 147 := fun c h => by
      rcases Nat.lt_or_ge 147 c with z | z
      · have h1 := pow2_le (Nat.le_of_lt z)
        have h2 : (10 : Int) ^ 44 < 2 ^ 147 := by decide
        omega
      · exact z
    have j147 := small j jn
    refine ⟨fun m σ H2 => ∃ c : Nat, σ = [some (.int n), some (.int a), some (.int b), some (.int p), some (.int g), some (.int d), some (.int sh), some (.int c), none, none, none] ∧ H2 = H ∧ c ≤ j ∧ (c = 0 ∨ ((2 : Int) ^ (c - 1) < n ∧ ¬ d * 2 ^ (c - 1) % sh = 0)) ∧ m = j - c, ⟨_, 0, rfl, rfl, Nat.zero_le _, .inl rfl, rfl⟩, ?_⟩
    rintro m σ H ⟨c, rfl, rfl, cj, gc, rfl⟩
    refine ⟨_, rfl, _, rfl, _, _, rfl, rfl, shl_ok dB (by omega), _, rfl, _, _, rfl, rfl, s0, rfl, _, rfl, ?_⟩
    by_cases dv : d * 2 ^ c % sh = 0
    case neg =>
      have cj2 : c < j := by
        rcases Nat.lt_or_ge c j with z | z
        · exact z
        · have : c = j := by omega
          rw [this] at dv
          exact absurd dj dv
      refine itt (by show (!decide (V.int (d * 2 ^ c % sh) = V.int 0)) = true; rw [dec_int]; simp [dv]) ⟨_, fun _ _ h => h, _, rfl, _, _, rfl, rfl, _, (show j - (c + 1) < j - c by omega), c + 1, rfl, rfl, by omega, .inr ⟨?_, dv⟩, rfl⟩
      have h1 : (2 : Int) ^ c < 2 ^ j := by
        have h2 := pow2_le (show c + 1 ≤ j by omega)
        rw [Int.pow_succ] at h2
        have := pow2_pos c
        omega
      show (2 : Int) ^ c < n
      omega
    refine itf (by show (!decide (V.int (d * 2 ^ c % sh) = V.int 0)) = false; rw [dec_int]; simp [dv]) ?_
    have pr1 : 1 ≤ n / sh := by
      have := Int.ediv_le_ediv s0 sl
      rw [Int.ediv_self (by omega)] at this
      exact this
    have prn : n / sh ≤ n := Int.ediv_le_self _ (by omega)
    refine ⟨_, rfl, _, rfl, _, _, rfl, rfl, wide_div s0 shB (by decide) (by decide), ?_⟩
    refine ⟨_, rfl, _, rfl, _, _, rfl, rfl, wide_div s0 shB (by decide) (by decide), _, rfl, g / sh, n / sh, rfl, pr1, by omega, co, fun f H3 f0 f1 hf e3 => ?_⟩
    have k3 := k2 f
    generalize hper : n / sh = per at pr1 prn f1 hf k3
    have fB : f.natAbs < 2 ^ 150 := abs45 f0 (by omega)
    have pB : per.natAbs < 2 ^ 150 := abs45 (by omega) (by omega)
    refine ⟨fun m σ H4 => ∃ c : Nat, σ = [some (.int n), some (.int a), some (.int b), some (.int p), some (.int g), some (.int d), some (.int sh), some (.int c), some (.int per), some (.int f), none] ∧ H4 = H3 ∧ d * 2 ^ c % sh = 0 ∧ c ≤ 150 ∧ (c = 0 ∨ ((2 : Int) ^ (c - 1) < n ∧ (¬ d * 2 ^ (c - 1) % sh = 0 ∨ (2 : Int) ^ (c - 1) < d * 2 ^ (c - 1) / sh * f % per))) ∧ m = 150 - c, ⟨_, c, by rw [← hper]; rfl, rfl, dv, by omega, gc.imp id (fun z => ⟨z.1, .inl z.2⟩), rfl⟩, ?_⟩
    clear gc dv cj
    rintro m σ H3 ⟨c, rfl, rfl, dv, c150, gc, rfl⟩
    have xB : (d * 2 ^ c / sh).natAbs < 2 ^ 300 := by
      have h1 : (d * 2 ^ c).natAbs < 2 ^ (150 + 150) := by
        rw [Int.natAbs_mul, Nat.pow_add]
        refine Nat.mul_lt_mul_of_lt_of_le dB ?_ (by have : 0 < 2 ^ 150 := Nat.pow_pos (by decide); exact this)
        rw [Int.natAbs_pow]
        exact Nat.pow_le_pow_right (by decide) c150
      have h2 : (d * 2 ^ c / sh).natAbs ≤ (d * 2 ^ c).natAbs := Int.natAbs_ediv_le_natAbs _ _
      exact Nat.lt_of_le_of_lt h2 h1
    have mok : IntMulOk (d * 2 ^ c / sh) f := (wide_mul xB fB (by decide) (by decide) (by decide)).ok
    have per0 : 0 < per := by omega
    have cc0 := mod_lo (i := d * 2 ^ c / sh * f) per0
    have cc1 := mod_hi (i := d * 2 ^ c / sh * f) per0
    refine ⟨_, rfl, _, rfl, _, _, rfl, rfl, shl_ok dB (by omega), _, rfl, _, _, rfl, rfl, wide_div s0 shB (by decide) (by decide), _, rfl, _, _, rfl, rfl, mok, _, rfl, _, _, rfl, rfl, per0, _, rfl, _, _, rfl, rfl, shl_ok (n := 1) (by decide) (by omega), _, _, rfl, rfl, _, rfl, ?_⟩
    by_cases big : (2 : Int) ^ c < d * 2 ^ c / sh * f % per
    · refine itt (by show decide (1 * 2 ^ c < d * 2 ^ c / sh * f % per) = true; rw [Int.one_mul]; exact decide_eq_true big) ⟨_, fun _ _ h => h, _, rfl, _, _, rfl, rfl, _, (show 150 - (c + 1) < 150 - c from ?_), c + 1, rfl, rfl, ?_, ?_, .inr ⟨(show (2 : Int) ^ c < n by omega), .inr big⟩, rfl⟩
      · have := small c (by omega)
        omega
      · rw [Int.pow_succ, ← Int.mul_assoc, Int.mul_emod, dv, Int.zero_mul, Int.zero_emod]
      · have := small c (by omega)
        omega
    · refine itf (by show decide (1 * 2 ^ c < d * 2 ^ c / sh * f % per) = false; rw [Int.one_mul]; exact decide_eq_false big) ?_
      refine ⟨_, rfl, _, rfl, _, _, rfl, rfl, shl_ok dB (by omega), _, rfl, _, _, rfl, rfl, wide_div s0 shB (by decide) (by decide), _, rfl, _, _, rfl, rfl, mok, _, rfl, _, _, rfl, rfl, per0, ?_⟩
      refine ⟨_, rfl, _, rfl, _, _, rfl, rfl, shl_ok (n := 1) (by decide) (by omega), _, rfl, _, _, rfl, rfl, _, rfl, by show 2 ≤ sizeLine; decide, fun l hl => ⟨by show 2 ≤ sizeLine; decide, fun q hq => ?_⟩⟩
      refine k3 c q l _ f0 f1 hf ⟨by rw [hsh]; exact dv, by rw [hsh, hper]; omega, by rw [hsh, hper]; exact gc⟩ (ext e3 (ext (exn hl) (exn hq))) upd_same ?_ (Evl.fresh_back e3 hl)
      rw [upd_ne (ne_of_none upd_same hq), upd_same]
      show some (HO.lst [V.int (1 * 2 ^ c - _), V.int _]) = _
      rw [Int.one_mul]
      rfl
def sp_min_calls_two : Sp := fun vs H Q _ => ∃ (n a b p : Int), vs = [.int n, .int a, .int b, .int p] ∧ n ≤ 10 ^ 44 ∧ 0 ≤ a ∧ a < n ∧ 0 ≤ b ∧ b < n ∧ 0 ≤ p ∧ p < n ∧ a ≠ b ∧
  ∀ (k : Nat) (o : Int), gcdI ((b - a) % n) n = 2 ^ k * o → o % 2 = 1 →
    (¬ (p - a) % n % o = 0 → ∀ H2, Ex H H2 → Q .non H2) ∧
    ((p - a) % n % o = 0 → ∀ (f : Int) (c : Nat) H2, 0 ≤ f → f < n / gcdI ((b - a) % n) n → (b - a) % n / gcdI ((b - a) % n) n * f % (n / gcdI ((b - a) % n) n) = 1 % (n / gcdI ((b - a) % n) n) → TwoOk n ((b - a) % n) ((p - a) % n) f c → Ex H H2 → Q (.int c) H2)
theorem ok_min_calls_two (T : TX K mg) : FnOk P w K mg base CX0 6 T.f_min_calls_two T.fd_min_calls_two ["size", "first", "second", "place"] sp_min_calls_two := by
  refine T.F_min_calls_two.ok sc_min_calls_two (fun vs H Q E h => ?_) (fun cdv A outer s H vs Q E hr h => ?_)
  · obtain ⟨n, a, b, p, rfl, _⟩ := h
    rfl
  · obtain ⟨n, a, b, p, rfl, n2, a0, a1, b0, b1, p0, p1, ne, k⟩ := h
    refine ⟨_, (pss_cons (ps_set (i := 4) sc_min_calls_two.nd rfl (Or.inl rfl) (pe_call (ok_two_target_sum T) hr rfl T.m_two_target_sum T.F_two_target_sum.kp T.b_two_target_sum .nil pass0 (pa_cons (pv 0) (pa_cons (pv 1) (pa_cons (pv 2) (pa_cons (pv 3) pa_nil)))))) (pss_one (ps_ret (pe_ifExp (pt_cmpR op_isN (pv 4) pe_non (nomark _)) pe_non (pe_ix ix_tup (pv 4) pe_int (fun _ _ => rfl)))))), ?_⟩
    refine ⟨_, rfl, _, rfl, _, rfl, _, rfl, n, a, b, p, rfl, n2, a0, a1, b0, b1, p0, p1, ne, fun j o e ho => ⟨fun hd H2 e2 => ?_, fun hd f c q l H2 f0 f1 hf two e2 hq hl _ => ?_⟩⟩
    · exact ⟨_, rfl, rfl, _, rfl, (k j o e ho).1 hd _ e2⟩
    · exact ⟨_, rfl, rfl, _, rfl, _, rfl, q, _, _, _, rfl, rfl, SqT.of hq, rfl, (k j o e ho).2 hd f c _ f0 f1 hf two e2⟩
end

section
variable {P : Program} {w : World} {K : PySem.W.Frag} {mg : Str → Option Value} {base : Heap}
theorem twoDue_none {o oa ob op : Option Int} (h : twoDue o oa ob op = none) : ∃ n a b p : Int, o = some n ∧ oa = some a ∧ ob = some b ∧ op = some p ∧ 0 ≤ a ∧ a < n ∧ 0 ≤ b ∧ b < n ∧ 0 ≤ p ∧ p < n ∧ a ≠ b := by
  have betw : ∀ {o : Option Int} {n : Int}, between o 0 (n - 1) = true → ∃ i, o = some i ∧ 0 ≤ i ∧ i < n := fun {o n} h => by
    cases o with
    | none => cases h
    | some i =>
      have h : (decide (0 ≤ i) && decide (i ≤ n - 1)) = true := h
      rw [Bool.and_eq_true, decide_eq_true_iff, decide_eq_true_iff] at h
      exact ⟨i, rfl, h.1, by omega⟩
  unfold twoDue at h
  split at h
  · rename_i h0
    cases o with
    | none => cases h0
    | some n =>
      dsimp only [Option.getD_some] at h
      split at h
      · rename_i ha
        split at h
        · rename_i hb
          split at h
          · cases h
          · rename_i ne
            split at h
            · rename_i hp
              obtain ⟨a, rfl, a0, a1⟩ := betw ha
              obtain ⟨b, rfl, b0, b1⟩ := betw hb
              obtain ⟨p, rfl, p0, p1⟩ := betw hp
              exact ⟨n, a, b, p, rfl, rfl, rfl, rfl, a0, a1, b0, b1, p0, p1, fun z => ne (by rw [z])⟩
            · cases h
        · cases h
      · cases h
  · cases h
def spX_two_target_sum (K : PySem.W.Frag) (CN : Addr) : Sp := fun vs H Q E => ∃ (x a b p : V) (o oa ob op : Option Int), vs = [x, a, b, p] ∧ IsI K H x o ∧ IsI K H a oa ∧ IsI K H b ob ∧ IsI K H p op ∧ (∀ nm, twoDue o oa ob op = some nm → Rai E H CN "name" (.str nm)) ∧
  (twoDue o oa ob op = none → (∀ n, o = some n → n ≤ 10 ^ 44) ∧ (∀ H2, Ex H H2 → Q .non H2) ∧ ∀ q (c : Nat) l H2, Ex H H2 → H2 q = some (.tup [.int c, .ref l]) → Q (.ref q) H2)
theorem okX_two_target_sum (T : TX K mg) : FnOk P w K mg base (L2.CX P w) 5 T.f_two_target_sum T.fd_two_target_sum ["size", "first", "second", "place"] (spX_two_target_sum K T.C_InvalidNumber) := by
  refine T.F_two_target_sum.okX sc_two_target_sum (fun vs H Q E h => ?_) (fun cdv A outer s H vs Q E hr h => ?_)
  · obtain ⟨x, a, b, p, o, oa, ob, op, rfl, _⟩ := h
    rfl
  · obtain ⟨x, va, vb, vp, o, oa, ob, op, rfl, hx, ha, hb, hp, kE, kV⟩ := h
    refine ⟨_, (pss_cons (ps_expr (pe_call (okX_require_two T) hr rfl T.m_require_two T.F_require_two.kp T.b_require_two .nil (passes_call (takes_of rfl rfl rfl rfl) (fun _ _ _ _ h => h)) (pa_cons (pv 0) (pa_cons (pv 1) (pa_cons (pv 2) (pa_cons (pv 3) pa_nil)))))) (pss_cons (ps_par (i := 4) (j := 5) rfl sc_two_target_sum.nd rfl rfl (by decide) rfl rfl (pa_cons (pe_op op_mod (pe_op op_sub (pv 2) (pv 1)) (pv 0)) (pa_cons (pe_op op_mod (pe_op op_sub (pv 3) (pv 1)) (pv 0)) pa_nil)) (by rfl)) (pss_cons (ps_set (i := 6) sc_two_target_sum.nd rfl (Or.inl rfl) (pe_call (ok_greatest_common_divisor T) (hr.mono (by decide)) rfl T.m_greatest_common_divisor T.F_greatest_common_divisor.kp T.b_greatest_common_divisor .nil pass0 (pa_cons (pv 4) (pa_cons (pv 0) pa_nil)))) (pss_cons (ps_if (pt_cmpR op_ne (pe_op op_mod (pv 5) (pe_call (ok_odd_part T) (hr.mono (by decide)) rfl T.m_odd_part T.F_odd_part.kp T.b_odd_part .nil pass0 (pa_cons (pv 6) pa_nil))) pe_int (nomark _)) (pss_one (ps_ret pe_non)) pss_nil) (pss_cons (ps_set (i := 7) sc_two_target_sum.nd rfl (Or.inl rfl) pe_int) (pss_cons (ps_while (passes_of rfl) (pt_cmpR op_ne (pe_op op_mod (pe_op op_shlW (pv 5) (pv 7)) (pv 6)) pe_int (nomark _)) (pss_one (ps_set (i := 7) sc_two_target_sum.nd rfl (Or.inl rfl) (pe_op op_add (pv 7) pe_int)))) (pss_cons (ps_set (i := 8) sc_two_target_sum.nd rfl (Or.inl rfl) (pe_op op_fdivW (pv 0) (pv 6))) (pss_cons (ps_set (i := 9) sc_two_target_sum.nd rfl (Or.inl rfl) (pe_call (ok_inverse T) (hr.mono (by decide)) rfl T.m_inverse T.F_inverse.kp T.b_inverse .nil pass0 (pa_cons (pe_op op_fdivW (pv 4) (pv 6)) (pa_cons (pv 8) pa_nil)))) (pss_cons (ps_while (passes_of rfl) (pt_cmpR op_gt (pe_op op_mod (pe_op op_mulI (pe_op op_fdivW (pe_op op_shlW (pv 5) (pv 7)) (pv 6)) (pv 9)) (pv 8)) (pe_op op_shlW pe_int (pv 7)) (nomark _)) (pss_one (ps_set (i := 7) sc_two_target_sum.nd rfl (Or.inl rfl) (pe_op op_add (pv 7) pe_int)))) (pss_cons (ps_set (i := 10) sc_two_target_sum.nd rfl (Or.inl rfl) (pe_op op_mod (pe_op op_mulI (pe_op op_fdivW (pe_op op_shlW (pv 5) (pv 7)) (pv 6)) (pv 9)) (pv 8))) (pss_one (ps_ret (pe_tup (pa_cons (pv 7) (pa_cons (pe_lst (pa_cons (pe_op op_sub (pe_op op_shlW pe_int (pv 7)) (pv 10)) (pa_cons (pv 10) pa_nil))) pa_nil))))))))))))))), ?_⟩
    refine ⟨_, rfl, _, rfl, _, rfl, _, rfl, x, va, vb, vp, o, oa, ob, op, rfl, hx, ha, hb, hp, fun due H e1 => ?_, kE⟩
    obtain ⟨n2, kN, kT⟩ := kV due
    obtain ⟨n, a, b, p, rfl, rfl, rfl, rfl, a0, a1, b0, b1, p0, p1, ne⟩ := twoDue_none due
    obtain rfl : x = .int n := hx
    obtain rfl : va = .int a := ha
    obtain rfl : vb = .int b := hb
    obtain rfl : vp = .int p := hp
    have n2 := n2 n rfl
    have k : ∀ (k : Nat) (o : Int), gcdI ((b - a) % n) n = 2 ^ k * o → o % 2 = 1 →
      (¬ (p - a) % n % o = 0 → ∀ H2, Ex H H2 → Q .non H2) ∧
      ((p - a) % n % o = 0 → ∀ (f : Int) (c : Nat) (q l : Addr) H2, 0 ≤ f → f < n / gcdI ((b - a) % n) n → (b - a) % n / gcdI ((b - a) % n) n * f % (n / gcdI ((b - a) % n) n) = 1 % (n / gcdI ((b - a) % n) n) → TwoOk n ((b - a) % n) ((p - a) % n) f c → Ex H H2 →
        H2 q = some (.tup [.int c, .ref l]) → H2 l = some (.lst [.int (2 ^ c - (p - a) % n * 2 ^ c / gcdI ((b - a) % n) n * f % (n / gcdI ((b - a) % n) n)), .int ((p - a) % n * 2 ^ c / gcdI ((b - a) % n) n * f % (n / gcdI ((b - a) % n) n))]) → H l = none → Q (.ref q) H2) :=
      fun _ _ _ _ => ⟨fun _ H2 e2 => kN H2 (ext e1 e2), fun _ f c q l H2 _ _ _ _ e2 hq _ _ => kT q c l H2 (ext e1 e2) hq⟩
    clear kE kV due kN kT e1
    have n0 : 0 < n := by omega
    refine ⟨_, rfl, _, rfl, _, _, rfl, rfl, _, rfl, _, _, rfl, rfl, n0, _, rfl, _, rfl, _, _, rfl, rfl, _, rfl, _, _, rfl, rfl, n0, _, _, rfl, ?_⟩
    have g0 := mod_lo (i := b - a) n0
    have g1 := mod_hi (i := b - a) n0
    have d0 := mod_lo (i := p - a) n0
    have d1 := mod_hi (i := p - a) n0
    dsimp only
    generalize (b - a) % n = g at k g0 g1
    generalize (p - a) % n = d at k d0 d1
    refine ⟨_, rfl, _, rfl, g, n, rfl, g0, (by omega), ?_⟩
    have s0 : 0 < gcdI g n := by
      have := gcd_pos2 (p := g) (show 1 ≤ n by omega)
      show (0 : Int) < ((Int.gcd g n : Nat) : Int)
      omega
    have sl : gcdI g n ≤ n := Int.le_of_dvd n0 (Int.gcd_dvd_right g n)
    have co := coprime_parts (g := g) (show 1 ≤ n by omega)
    have sd : gcdI g n ∣ n := Int.gcd_dvd_right g n
    generalize hsh : gcdI g n = sh at k s0 sl co sd
    have n45 : n ≤ 10 ^ 45 := Int.le_trans n2 (by decide)
    have shB : sh.natAbs < 2 ^ 150 := abs45 (by omega) (by omega)
    have dB : d.natAbs < 2 ^ 150 := abs45 d0 (by omega)
    refine ⟨_, rfl, _, rfl, sh, rfl, by omega, by omega, fun j o e ho => ?_⟩
    have o0 : 0 < o := by
      rcases Int.lt_or_le 0 o with h | h
      · exact h
      · have := Int.mul_le_mul_of_nonneg_left h (show 0 ≤ (2 : Int) ^ j by have := pow2_pos j; omega)
        omega
    refine ⟨_, _, rfl, rfl, o0, rfl, _, rfl, ?_⟩
    by_cases hd : d % o = 0
    case neg => exact itt (by rw [dec_int]; simp [hd]) ((k j o e ho).1 hd _ exr)
    refine itf (by rw [dec_int]; simp [hd]) ?_
    have k2 := (k j o e ho).2 hd
    have dj : d * 2 ^ j % sh = 0 := by
      rw [e]
      refine Int.emod_eq_zero_of_dvd ?_
      rw [Int.mul_comm d]
      exact Int.mul_dvd_mul_left _ (Int.dvd_of_emod_eq_zero hd)
    have jn : (2 : Int) ^ j ≤ n := by
      have h1 : (2 : Int) ^ j * 1 ≤ 2 ^ j * o := Int.mul_le_mul_of_nonneg_left (by omega) (by have := pow2_pos j; omega)
      omega
    have small : ∀ c : Nat, (2 : Int) ^ c ≤ n → c ≤ 147 := fun c h => by
      rcases Nat.lt_or_ge 147 c with z | z
      · have h1 := pow2_le (Nat.le_of_lt z)
        have h2 : (10 : Int) ^ 44 < 2 ^ 147 := by decide
        omega
      · exact z
    have j147 := small j jn
    refine ⟨fun m σ H2 => ∃ c : Nat, σ = [some (.int n), some (.int a), some (.int b), some (.int p), some (.int g), some (.int d), some (.int sh), some (.int c), none, none, none] ∧ H2 = H ∧ c ≤ j ∧ (c = 0 ∨ ((2 : Int) ^ (c - 1) < n ∧ ¬ d * 2 ^ (c - 1) % sh = 0)) ∧ m = j - c, ⟨_, 0, rfl, rfl, Nat.zero_le _, .inl rfl, rfl⟩, ?_⟩
    rintro m σ H ⟨c, rfl, rfl, cj, gc, rfl⟩
    refine ⟨_, rfl, _, rfl, _, _, rfl, rfl, shl_ok dB (by omega), _, rfl, _, _, rfl, rfl, s0, rfl, _, rfl, ?_⟩
    by_cases dv : d * 2 ^ c % sh = 0
    case neg =>
      have cj2 : c < j := by
        rcases Nat.lt_or_ge c j with z | z
        · exact z
        · have : c = j := by omega
          rw [this] at dv
          exact absurd dj dv
      refine itt (by show (!decide (V.int (d * 2 ^ c % sh) = V.int 0)) = true; rw [dec_int]; simp [dv]) ⟨_, fun _ _ h => h, _, rfl, _, _, rfl, rfl, _, (show j - (c + 1) < j - c by omega), c + 1, rfl, rfl, by omega, .inr ⟨?_, dv⟩, rfl⟩
      have h1 : (2 : Int) ^ c < 2 ^ j := by
        have h2 := pow2_le (show c + 1 ≤ j by omega)
        rw [Int.pow_succ] at h2
        have := pow2_pos c
        omega
      show (2 : Int) ^ c < n
      omega
    refine itf (by show (!decide (V.int (d * 2 ^ c % sh) = V.int 0)) = false; rw [dec_int]; simp [dv]) ?_
    have pr1 : 1 ≤ n / sh := by
      have := Int.ediv_le_ediv s0 sl
      rw [Int.ediv_self (by omega)] at this
      exact this
    have prn : n / sh ≤ n := Int.ediv_le_self _ (by omega)
    refine ⟨_, rfl, _, rfl, _, _, rfl, rfl, wide_div s0 shB (by decide) (by decide), ?_⟩
    refine ⟨_, rfl, _, rfl, _, _, rfl, rfl, wide_div s0 shB (by decide) (by decide), _, rfl, g / sh, n / sh, rfl, pr1, by omega, co, fun f H3 f0 f1 hf e3 => ?_⟩
    have k3 := k2 f
    generalize hper : n / sh = per at pr1 prn f1 hf k3
    have fB : f.natAbs < 2 ^ 150 := abs45 f0 (by omega)
    have pB : per.natAbs < 2 ^ 150 := abs45 (by omega) (by omega)
    refine ⟨fun m σ H4 => ∃ c : Nat, σ = [some (.int n), some (.int a), some (.int b), some (.int p), some (.int g), some (.int d), some (.int sh), some (.int c), some (.int per), some (.int f), none] ∧ H4 = H3 ∧ d * 2 ^ c % sh = 0 ∧ c ≤ 150 ∧ (c = 0 ∨ ((2 : Int) ^ (c - 1) < n ∧ (¬ d * 2 ^ (c - 1) % sh = 0 ∨ (2 : Int) ^ (c - 1) < d * 2 ^ (c - 1) / sh * f % per))) ∧ m = 150 - c, ⟨_, c, by rw [← hper]; rfl, rfl, dv, by omega, gc.imp id (fun z => ⟨z.1, .inl z.2⟩), rfl⟩, ?_⟩
    clear gc dv cj
    rintro m σ H3 ⟨c, rfl, rfl, dv, c150, gc, rfl⟩
    have xB : (d * 2 ^ c / sh).natAbs < 2 ^ 300 := by
      have h1 : (d * 2 ^ c).natAbs < 2 ^ (150 + 150) := by
        rw [Int.natAbs_mul, Nat.pow_add]
        refine Nat.mul_lt_mul_of_lt_of_le dB ?_ (by have : 0 < 2 ^ 150 := Nat.pow_pos (by decide); exact this)
        rw [Int.natAbs_pow]
        exact Nat.pow_le_pow_right (by decide) c150
      have h2 : (d * 2 ^ c / sh).natAbs ≤ (d * 2 ^ c).natAbs := Int.natAbs_ediv_le_natAbs _ _
      exact Nat.lt_of_le_of_lt h2 h1
    have mok : IntMulOk (d * 2 ^ c / sh) f := (wide_mul xB fB (by decide) (by decide) (by decide)).ok
    have per0 : 0 < per := by omega
    have cc0 := mod_lo (i := d * 2 ^ c / sh * f) per0
    have cc1 := mod_hi (i := d * 2 ^ c / sh * f) per0
    refine ⟨_, rfl, _, rfl, _, _, rfl, rfl, shl_ok dB (by omega), _, rfl, _, _, rfl, rfl, wide_div s0 shB (by decide) (by decide), _, rfl, _, _, rfl, rfl, mok, _, rfl, _, _, rfl, rfl, per0, _, rfl, _, _, rfl, rfl, shl_ok (n := 1) (by decide) (by omega), _, _, rfl, rfl, _, rfl, ?_⟩
    by_cases big : (2 : Int) ^ c < d * 2 ^ c / sh * f % per
    · refine itt (by show decide (1 * 2 ^ c < d * 2 ^ c / sh * f % per) = true; rw [Int.one_mul]; exact decide_eq_true big) ⟨_, fun _ _ h => h, _, rfl, _, _, rfl, rfl, _, (show 150 - (c + 1) < 150 - c from ?_), c + 1, rfl, rfl, ?_, ?_, .inr ⟨(show (2 : Int) ^ c < n by omega), .inr big⟩, rfl⟩
      · have := small c (by omega)
        omega
      · rw [Int.pow_succ, ← Int.mul_assoc, Int.mul_emod, dv, Int.zero_mul, Int.zero_emod]
      · have := small c (by omega)
        omega
    · refine itf (by show decide (1 * 2 ^ c < d * 2 ^ c / sh * f % per) = false; rw [Int.one_mul]; exact decide_eq_false big) ?_
      refine ⟨_, rfl, _, rfl, _, _, rfl, rfl, shl_ok dB (by omega), _, rfl, _, _, rfl, rfl, wide_div s0 shB (by decide) (by decide), _, rfl, _, _, rfl, rfl, mok, _, rfl, _, _, rfl, rfl, per0, ?_⟩
      refine ⟨_, rfl, _, rfl, _, _, rfl, rfl, shl_ok (n := 1) (by decide) (by omega), _, rfl, _, _, rfl, rfl, _, rfl, by show 2 ≤ sizeLine; decide, fun l hl => ⟨by show 2 ≤ sizeLine; decide, fun q hq => ?_⟩⟩
      refine k3 c q l _ f0 f1 hf ⟨by rw [hsh]; exact dv, by rw [hsh, hper]; omega, by rw [hsh, hper]; exact gc⟩ (ext e3 (ext (exn hl) (exn hq))) upd_same ?_ (Evl.fresh_back e3 hl)
      rw [upd_ne (ne_of_none upd_same hq), upd_same]
      show some (HO.lst [V.int (1 * 2 ^ c - _), V.int _]) = _
      rw [Int.one_mul]
      rfl
def spX_min_calls_two (K : PySem.W.Frag) (CN : Addr) : Sp := fun vs H Q E => ∃ (x a b p : V) (o oa ob op : Option Int), vs = [x, a, b, p] ∧ IsI K H x o ∧ IsI K H a oa ∧ IsI K H b ob ∧ IsI K H p op ∧ (∀ nm, twoDue o oa ob op = some nm → Rai E H CN "name" (.str nm)) ∧
  (twoDue o oa ob op = none → (∀ n, o = some n → n ≤ 10 ^ 44) ∧ ∀ v H2, Ex H H2 → Q v H2)
theorem okX_min_calls_two (T : TX K mg) : FnOk P w K mg base (L2.CX P w) 6 T.f_min_calls_two T.fd_min_calls_two ["size", "first", "second", "place"] (spX_min_calls_two K T.C_InvalidNumber) := by
  refine T.F_min_calls_two.okX sc_min_calls_two (fun vs H Q E h => ?_) (fun cdv A outer s H vs Q E hr h => ?_)
  · obtain ⟨x, a, b, p, o, oa, ob, op, rfl, _⟩ := h
    rfl
  · obtain ⟨x, va, vb, vp, o, oa, ob, op, rfl, hx, ha, hb, hp, kE, kV⟩ := h
    refine ⟨_, (pss_cons (ps_set (i := 4) sc_min_calls_two.nd rfl (Or.inl rfl) (pe_call (okX_two_target_sum T) hr rfl T.m_two_target_sum T.F_two_target_sum.kp T.b_two_target_sum .nil (passes_call (takes_of rfl rfl rfl rfl) (fun _ _ _ _ h => h)) (pa_cons (pv 0) (pa_cons (pv 1) (pa_cons (pv 2) (pa_cons (pv 3) pa_nil)))))) (pss_one (ps_ret (pe_ifExp (pt_cmpR op_isN (pv 4) pe_non (nomark _)) pe_non (pe_ix ix_tup (pv 4) pe_int (fun _ _ => rfl)))))), ?_⟩
    refine ⟨_, rfl, _, rfl, _, rfl, _, rfl, x, va, vb, vp, o, oa, ob, op, rfl, hx, ha, hb, hp, kE, fun due => ⟨(kV due).1, fun H2 e2 => ?_, fun q c l H2 e2 hq => ?_⟩⟩
    · exact ⟨_, rfl, rfl, _, rfl, (kV due).2 _ _ e2⟩
    · exact ⟨_, rfl, rfl, _, rfl, _, rfl, q, _, _, _, rfl, rfl, SqT.of hq, rfl, (kV due).2 _ _ e2⟩
end

section
variable {P : Program} {w : World} {K : PySem.W.Frag} {mg : Str → Option Value} {base : Heap}
def sp_require_limit : Sp := fun vs H Q _ => ∃ (i j : Int), vs = [.int i, .int j] ∧ i ≤ j ∧ Q .non H
theorem ok_require_limit (T : TX K mg) : FnOk P w K mg base CX0 3 T.f_require_limit T.fd_require_limit ["number", "limit"] sp_require_limit := by
  refine T.F_require_limit.ok sc_require_limit (fun vs H Q E h => ?_) (fun cdv A outer s H vs Q E hr h => ?_)
  · obtain ⟨i, j, rfl, _⟩ := h
    rfl
  · obtain ⟨i, j, rfl, h, k⟩ := h
    refine ⟨_, (pss_one (ps_if (pt_cmpR op_gt (pv 0) (pv 1) (nomark _)) pss_never pss_nil)), ?_⟩
    exact ⟨_, rfl, _, rfl, _, _, rfl, rfl, _, rfl, itf (decide_eq_false (by omega)) k⟩
def sp_require_places : Sp := fun vs H Q _ => ∃ (n : Int) (q : Bool × Addr) (ts : List Int), vs = [.int n, .ref q.2] ∧ 1 ≤ n ∧ SqH H q (ts.map V.int) ∧ ts ≠ [] ∧ ts.length ≤ 100000 ∧ (∀ t ∈ ts, 0 ≤ t ∧ t < n) ∧ ts.Nodup ∧ ∀ H2, Ex H H2 → Q .non H2
theorem ok_require_places (T : TX K mg) : FnOk P w K mg base CX0 4 T.f_require_places T.fd_require_places ["size", "targets"] sp_require_places := by
  refine T.F_require_places.ok sc_require_places (fun vs H Q E h => ?_) (fun cdv A outer s H vs Q E hr h => ?_)
  · obtain ⟨n, q, ts, rfl, _⟩ := h
    rfl
  · obtain ⟨n, ⟨b, a⟩, ts, rfl, n1, hq, ne, lts, inr, nod, k⟩ := h
    refine ⟨_, (pss_cons (ps_expr (pe_call (ok_require_at_least T) hr rfl T.m_require_at_least T.F_require_at_least.kp T.b_require_at_least .nil pass0 (pa_cons (pv 0) (pa_cons pe_int (pa_cons pe_str pa_nil))))) (pss_cons (ps_if (PW.pt (pw_or (pt_not (pt_val (pe_callB call_isiT (by rfl) T.z_isinstance (by decide +kernel) (pa_cons (pv 1) (pa_cons (pe_tup (pa_cons (pe_bltn (v := .ty "list") rfl T.z_list (by decide +kernel) rfl) (pa_cons (pe_bltn (v := .ty "tuple") rfl T.z_tuple (by decide +kernel) rfl) pa_nil))) pa_nil))))) (pw_or1 (pt_cmpR op_eq (pe_callB call_len_seq (by rfl) T.z_len (by decide +kernel) (pa_cons (pv 1) pa_nil)) pe_int (nomark _))))) pss_never pss_nil) (pss_cons (ps_set (i := 2) sc_require_places.nd rfl (Or.inl rfl) pe_dnewK) (pss_one (ps_for PassesOwn.never rfl (CE.pi_e rfl T.z_enumerate (pa_cons (pv 1) pa_nil)) (pg_tup rfl (pgs_cons (pg_name (i := 3) sc_require_places.nd rfl (Or.inl rfl)) (pgs_cons (pg_name (i := 4) sc_require_places.nd rfl (Or.inl rfl)) pgs_nil))) (pss_cons (ps_if (PW.pt (pw_or (pt_not (pt_val (pe_call (ok_is_between T) (hr.mono (by decide)) rfl T.m_is_between T.F_is_between.kp T.b_is_between .nil pass0 (pa_cons (pv 4) (pa_cons pe_int (pa_cons (pe_op op_sub (pv 0) pe_int) pa_nil)))))) (pw_or1 (pt_cmp (pc_din (hu_of hr) (pv 4) (pv 2)))))) pss_never pss_nil) (pss_one (ps_dput (hu_of hr) (pv 2) (pv 4) (pv 3) (by rfl))))))))), ?_⟩
    refine ⟨_, rfl, n, 1, _, rfl, n1, ?_⟩
    have pos := List.length_pos_iff.mpr ne
    refine ⟨_, rfl, by show 2 ≤ sizeLine; decide, fun y hy => ?_⟩
    have q1 := hq.mono (exn (o := .tup [.ty "list", .ty "tuple"]) hy)
    refine ⟨_, y, _, _, _, true, rfl, upd_same, .cons (.ty _) (.cons (.ty _) .nil), q1.ty, kit_seq b, _, rfl, ?_⟩
    refine ⟨_, rfl, a, _, rfl, sq_or q1, rfl, _, rfl, itf (by rw [dec_int, List.length_map]; simp; exact ne) ?_⟩
    intro d hd
    have e2 := ext (exn (o := .tup [.ty "list", .ty "tuple"]) hy) (exn (o := .dK []) hd)
    have q2 := hq.mono e2
    refine ⟨_, rfl, (b, a), rfl, ⟨_, q2.sq⟩, ?_⟩
    refine for_it (CE.walk_e (xs := ts.map V.int)) (fun i σ H2 => ∃ (y3 y4 : Option V) (kvs : List (Key × V)), σ = [some (.int n), some (.ref a), some (.ref d), y3, y4] ∧ Ex H H2 ∧ H2 d = some (.dK kvs) ∧ kvs.length = i ∧ ∀ t : Int, (valV kvs (.inl t)).isSome = true → t ∈ ts.take i) ⟨_, _, [], rfl, e2, upd_same, rfl, fun t h => by simp [valV] at h⟩ (fun i σ H2 _ ⟨_, _, _, _, e, _⟩ => (hq.mono e).sq) ?_ ?_
    · rintro i x σ H2 H3 hi ⟨y3, y4, kvs, rfl, e3, hd3, lk, hv⟩ yy
      obtain ⟨Ta, x1, x2, rfl, hT, rfl, hx1, hx2⟩ := yy
      cases hx1
      obtain ⟨t, ht, rfl⟩ := map_get hx2
      obtain ⟨t0, t1⟩ := inr t (List.mem_of_getElem? ht)
      have e4 := exn (o := .tup [.int (i : Nat), .int t]) hT
      refine ⟨Ta, _, rfl, SqT.of upd_same, rfl, _, _, rfl, _, _, rfl, rfl, ?_⟩
      refine ⟨_, rfl, _, rfl, _, _, rfl, rfl, _, some t, 0, n - 1, rfl, rfl, _, rfl, itf ?_ ?_⟩
      · show (!(decide (0 ≤ t) && decide (t ≤ n - 1))) = false
        rw [decide_eq_true t0, decide_eq_true (by omega)]
        rfl
      have hno : valV kvs (.inl t) = none := by
        cases hz : valV kvs (.inl t) with
        | none => rfl
        | some v =>
          have := hv t (by rw [hz]; rfl)
          obtain ⟨j, hj⟩ := List.getElem?_of_mem this
          have hj2 := List.getElem?_eq_some_iff.mp hj
          obtain ⟨jl, je⟩ := hj2
          rw [List.length_take] at jl
          rw [List.getElem_take] at je
          obtain ⟨il, ie⟩ := List.getElem?_eq_some_iff.mp ht
          exact absurd (je.trans ie.symm) (List.pairwise_iff_getElem.mp nod j i (by omega) il (by omega))
      refine ⟨_, rfl, _, rfl, d, _, rfl, DGet.k (k := .inl t) (e4 _ _ hd3), _, rfl, itf (by rw [hno]; rfl) ?_⟩
      refine ⟨_, rfl, _, rfl, _, rfl, d, _, rfl, DPut.k (k := .inl t) (e4 _ _ hd3) ?_, ?_⟩
      · rw [lk]
        rw [List.length_map] at hi
        exact Nat.lt_of_lt_of_le hi (Nat.le_trans lts (by decide))
      · refine ⟨_, _, putK kvs (.inl t) (.int (i : Nat)), rfl, ?_, upd_same, ?_, fun u hu => ?_⟩
        · intro c o z
          rw [upd_ne (ne_of_none z (Evl.fresh_back (exn (o := .tup [.ty "list", .ty "tuple"]) hy) hd))]
          exact e4 c o (e3 c o z)
        · have hany : (kvs.any fun kv => decide (kv.1 = Sum.inl t)) = false := by rw [valV_any, hno]; rfl
          unfold putK
          rw [hany, if_neg Bool.false_ne_true, List.length_append, lk]
          rfl
        · rw [valV_put] at hu
          rw [take_more ht, List.mem_append]
          by_cases e : u = t
          · exact .inr (by rw [e]; exact List.mem_cons_self)
          · rw [if_neg (fun z => e (Sum.inl.inj z))] at hu
            exact .inl (hv u hu)
    · rintro σ H2 ⟨y3, y4, kvs, rfl, e3, _⟩
      exact k _ e3
end

/-! ### sets of places as bits -/
def rotN (n B s : Nat) : Nat := ((B <<< s) ||| ((B <<< s) >>> n)) % 2 ^ n
def dblN (n B : Nat) : Nat := (List.range n).foldl (fun acc p => if B.testBit p = true then acc ||| rotN n B p else acc) 0
def bitsN (ts : List Int) : Nat := ts.foldl (fun acc t => acc ||| 2 ^ t.toNat) 0
theorem shl_cast (B s : Nat) : (B : Int) * 2 ^ s = ((B <<< s : Nat) : Int) := by
  rw [Nat.shiftLeft_eq]
  simp
theorem shr_cast (B s : Nat) : (B : Int) / 2 ^ s = ((B >>> s : Nat) : Int) := by
  rw [Nat.shiftRight_eq_div_pow]
  simp
theorem or_cast (a b : Nat) : Builtin.bitOr (a : Int) (b : Int) = ((a ||| b : Nat) : Int) := by
  rw [bitOr_nn (Int.natCast_nonneg a) (Int.natCast_nonneg b), Int.toNat_natCast, Int.toNat_natCast]
theorem mask_cast (a n : Nat) : Builtin.bitAnd (a : Int) (2 ^ n - 1) = ((a % 2 ^ n : Nat) : Int) := by
  rw [PySem.W.kbt_mask]
  simp
theorem bit_cast (B p : Nat) : Builtin.bitAnd ((B >>> p : Nat) : Int) 1 = if B.testBit p = true then 1 else 0 := by
  rw [bitAnd_m1]
  have h := Nat.testBit_eq_decide_div_mod_eq (x := B) (i := p)
  rw [h, Nat.shiftRight_eq_div_pow]
  have : ((B / 2 ^ p : Nat) : Int) % 2 = ((B / 2 ^ p % 2 : Nat) : Int) := by simp
  rw [this]
  rcases Nat.mod_two_eq_zero_or_one (B / 2 ^ p) with z | z <;> rw [z] <;> simp
theorem rot_bit {n B s q : Nat} (hB : B < 2 ^ n) (hs : s < n) : (rotN n B s).testBit q = true ↔ q < n ∧ ∃ p, p < n ∧ B.testBit p = true ∧ (p + s) % n = q := by
  unfold rotN
  rw [Nat.testBit_mod_two_pow, Nat.testBit_or, Nat.testBit_shiftRight, Nat.testBit_shiftLeft, Nat.testBit_shiftLeft]
  have low : ∀ p, B.testBit p = true → p < n := fun p h => by
    rcases Nat.lt_or_ge p n with z | z
    · exact z
    · rw [Nat.testBit_lt_two_pow (Nat.lt_of_lt_of_le hB (Nat.pow_le_pow_right (by decide) z))] at h
      cases h
  simp only [Bool.and_eq_true, Bool.or_eq_true, decide_eq_true_eq, ge_iff_le]
  constructor
  · rintro ⟨hq, ⟨h1, h2⟩ | ⟨h1, h2⟩⟩
    · refine ⟨hq, q - s, low _ h2, h2, ?_⟩
      rw [show q - s + s = q by omega, Nat.mod_eq_of_lt hq]
    · refine ⟨hq, n + q - s, low _ h2, h2, ?_⟩
      rw [show n + q - s + s = q + n by omega, Nat.add_mod_right, Nat.mod_eq_of_lt hq]
  · rintro ⟨hq, p, hp, h1, h2⟩
    refine ⟨hq, ?_⟩
    rcases Nat.lt_or_ge (p + s) n with z | z
    · rw [Nat.mod_eq_of_lt z] at h2
      left
      refine ⟨by omega, ?_⟩
      rw [← h2, Nat.add_sub_cancel]
      exact h1
    · have e : (p + s) % n = p + s - n := by
        rw [Nat.mod_eq_sub_mod z, Nat.mod_eq_of_lt (by omega)]
      rw [e] at h2
      right
      refine ⟨by omega, ?_⟩
      rw [show n + q - s = p by omega]
      exact h1
theorem rot_lt (n B s : Nat) : rotN n B s < 2 ^ n := Nat.mod_lt _ (Nat.pow_pos (by decide))
theorem fold_or {n B : Nat} : ∀ (l : List Nat) (acc q : Nat), (l.foldl (fun acc p => if B.testBit p = true then acc ||| rotN n B p else acc) acc).testBit q = true ↔ acc.testBit q = true ∨ ∃ p ∈ l, B.testBit p = true ∧ (rotN n B p).testBit q = true
  | [], acc, q => by simp
  | p :: l, acc, q => by
    rw [List.foldl_cons, fold_or l]
    by_cases h : B.testBit p = true
    · rw [if_pos h, Nat.testBit_or, Bool.or_eq_true]
      simp only [List.mem_cons, exists_eq_or_imp, h, true_and]
      rw [or_assoc]
    · rw [if_neg h]
      simp only [List.mem_cons, exists_eq_or_imp, h]
      simp
theorem fold_lt {n B : Nat} : ∀ (l : List Nat) (acc : Nat), acc < 2 ^ n → l.foldl (fun acc p => if B.testBit p = true then acc ||| rotN n B p else acc) acc < 2 ^ n
  | [], _, h => h
  | p :: l, acc, h => by
    rw [List.foldl_cons]
    refine fold_lt l _ ?_
    split
    · exact Nat.or_lt_two_pow h (rot_lt n B p)
    · exact h
theorem dbl_lt (n B : Nat) : dblN n B < 2 ^ n := fold_lt _ _ (Nat.pow_pos (by decide))
theorem dbl_bit {n B q : Nat} (hB : B < 2 ^ n) : (dblN n B).testBit q = true ↔ q < n ∧ ∃ a b, a < n ∧ b < n ∧ B.testBit a = true ∧ B.testBit b = true ∧ (a + b) % n = q := by
  unfold dblN
  rw [fold_or]
  constructor
  · rintro (h | ⟨p, hp, h1, h2⟩)
    · simp at h
    · rw [List.mem_range] at hp
      obtain ⟨hq, a, ha, h3, h4⟩ := (rot_bit hB hp).mp h2
      exact ⟨hq, a, p, ha, hp, h3, h1, h4⟩
  · rintro ⟨hq, a, b, ha, hb, h1, h2, h3⟩
    exact .inr ⟨b, List.mem_range.mpr hb, h2, (rot_bit hB hb).mpr ⟨hq, a, ha, h1, h3⟩⟩
theorem bits_fold : ∀ (ts : List Int) (acc q : Nat), (ts.foldl (fun acc t => acc ||| 2 ^ t.toNat) acc).testBit q = true ↔ acc.testBit q = true ∨ ∃ t ∈ ts, t.toNat = q
  | [], acc, q => by simp
  | t :: ts, acc, q => by
    rw [List.foldl_cons, bits_fold ts, Nat.testBit_or, Bool.or_eq_true, Nat.testBit_two_pow]
    simp only [List.mem_cons, exists_eq_or_imp, decide_eq_true_eq]
    rw [or_assoc]
theorem bits_bit {ts : List Int} {q : Nat} : (bitsN ts).testBit q = true ↔ ∃ t ∈ ts, t.toNat = q := by
  unfold bitsN
  rw [bits_fold]
  simp
theorem bits_lt' {n : Nat} : ∀ (ts : List Int) (acc : Nat), (∀ t ∈ ts, t.toNat < n) → acc < 2 ^ n → ts.foldl (fun acc t => acc ||| 2 ^ t.toNat) acc < 2 ^ n
  | [], _, _, h => h
  | t :: ts, acc, hl, h => by
    rw [List.foldl_cons]
    exact bits_lt' ts _ (fun u hu => hl u (List.mem_cons_of_mem _ hu)) (Nat.or_lt_two_pow h (Nat.pow_lt_pow_right (by decide) (hl t List.mem_cons_self)))
theorem bits_lt {n : Nat} {ts : List Int} (h : ∀ t ∈ ts, t.toNat < n) : bitsN ts < 2 ^ n := bits_lt' ts 0 h (Nat.pow_pos (by decide))
theorem bits_snoc (ts : List Int) (t : Int) : bitsN (ts ++ [t]) = bitsN ts ||| 2 ^ t.toNat := by
  unfold bitsN
  rw [List.foldl_append]
  rfl
/-- sums of 2 ^ c targets -/
def layN (n : Nat) (ts : List Int) : Nat → Nat
  | 0 => bitsN ts
  | c + 1 => dblN n (layN n ts c)
theorem lay_lt {n : Nat} {ts : List Int} (h : ∀ t ∈ ts, 0 ≤ t ∧ t < (n : Int)) : ∀ c, layN n ts c < 2 ^ n
  | 0 => bits_lt fun t ht => by have := h t ht; omega
  | c + 1 => dbl_lt n _

theorem shlN {B s k : Nat} (h : B < 2 ^ k) (hk : k + s ≤ 100000000) : CShl (B : Int) (s : Int) := shl_ok (n := k) (by rw [Int.natAbs_natCast]; exact h) (by omega)
theorem atI_fin {α : Type} (ys : List α) (v : α) : atI (ys ++ [v]) (-1) = some v := by
  unfold atI ixN
  rw [if_neg (by decide), if_pos (by rw [List.length_append, List.length_singleton]; omega), List.length_append, List.length_singleton]
  have : ((-1 : Int) + ((ys.length + 1 : Nat) : Int)).toNat = ys.length := by omega
  show (ys ++ [v])[((-1 : Int) + ((ys.length + 1 : Nat) : Int)).toNat]? = some v
  rw [this, List.getElem?_append_right (Nat.le_refl _), Nat.sub_self]
  rfl
section
variable {P : Program} {w : World} {K : PySem.W.Frag} {mg : Str → Option Value} {base : Heap}
def sp_rotated : Sp := fun vs H Q _ => ∃ (n B s : Nat), vs = [.int n, .int B, .int s] ∧ n ≤ 2000 ∧ B < 2 ^ n ∧ s < n ∧ Q (.int (rotN n B s)) H
theorem ok_rotated (T : TX K mg) : FnOk P w K mg base CX0 1 T.f_rotated T.fd_rotated ["size", "bits", "shift"] sp_rotated := by
  refine T.F_rotated.ok sc_rotated (fun vs H Q E h => ?_) (fun cdv A outer s H vs Q E hr h => ?_)
  · obtain ⟨n, B, s, rfl, _⟩ := h
    rfl
  · obtain ⟨n, B, s, rfl, n2, hB, hs, k⟩ := h
    refine ⟨_, (pss_cons (ps_set (i := 3) sc_rotated.nd rfl (Or.inl rfl) (pe_op op_shlW (pv 1) (pv 2))) (pss_one (ps_ret (pe_op op_and (pe_op op_or (pv 3) (pe_op op_shr (pv 3) (pv 0))) (pe_op op_sub (pe_op op_shlW pe_int (pv 0)) pe_int))))), ?_⟩
    refine ⟨_, rfl, _, rfl, _, _, rfl, rfl, shlN hB (by omega), ?_⟩
    refine ⟨_, rfl, _, rfl, _, rfl, _, _, rfl, rfl, (by show (0 : Int) ≤ (n : Int); omega), _, _, rfl, rfl, _, rfl, _, _, rfl, rfl, shl_ok (n := 1) (by decide) (by omega), _, _, rfl, rfl, _, _, rfl, rfl, ?_⟩
    have e : Builtin.bitAnd (Builtin.bitOr ((B : Int) * 2 ^ (s : Int).toNat) ((B : Int) * 2 ^ (s : Int).toNat / 2 ^ (n : Int).toNat)) (1 * 2 ^ (n : Int).toNat - 1) = ((rotN n B s : Nat) : Int) := by
      rw [Int.toNat_natCast, Int.toNat_natCast, shl_cast, shr_cast, or_cast, Int.one_mul, mask_cast]
      rfl
    dsimp only
    rw [e]
    exact k
def sp_doubled : Sp := fun vs H Q _ => ∃ (n B : Nat), vs = [.int n, .int B] ∧ n ≤ 2000 ∧ B < 2 ^ n ∧ Q (.int (dblN n B)) H
theorem ok_doubled (T : TX K mg) : FnOk P w K mg base CX0 2 T.f_doubled T.fd_doubled ["size", "bits"] sp_doubled := by
  refine T.F_doubled.ok sc_doubled (fun vs H Q E h => ?_) (fun cdv A outer s H vs Q E hr h => ?_)
  · obtain ⟨n, B, rfl, _⟩ := h
    rfl
  · obtain ⟨n, B, rfl, n2, hB, k⟩ := h
    refine ⟨_, (pss_cons (ps_set (i := 2) sc_doubled.nd rfl (Or.inl rfl) pe_int) (pss_cons (ps_for PassesOwn.never rfl (pi_range1 rfl T.z_range (pa_cons (pv 0) pa_nil)) (pg_name (i := 3) sc_doubled.nd rfl (Or.inl rfl)) (pss_one (ps_if (pt_cmpR op_eq (pe_op op_and (pe_op op_shr (pv 1) (pv 3)) pe_int) pe_int (nomark _)) (pss_one (ps_set (i := 2) sc_doubled.nd rfl (Or.inl rfl) (pe_op op_or (pv 2) (pe_call (ok_rotated T) hr rfl T.m_rotated T.F_rotated.kp T.b_rotated .nil pass0 (pa_cons (pv 0) (pa_cons (pv 1) (pa_cons (pv 3) pa_nil))))))) pss_nil))) (pss_one (ps_ret (pv 2))))), ?_⟩
    refine ⟨_, rfl, n, rfl, by omega, by omega, ?_⟩
    refine for_it walk_range (fun i σ H2 => ∃ y : Option V, σ = [some (.int n), some (.int B), some (.int (((List.range n).take i).foldl (fun acc p => if B.testBit p = true then acc ||| rotN n B p else acc) 0 : Nat)), y] ∧ H2 = H) ⟨none, rfl, rfl⟩ (fun _ _ _ _ _ => True.intro) ?_ ?_
    · rintro i x σ _ H2 hi ⟨y, rfl, rfl⟩ ⟨rfl, hx⟩
      obtain rfl : x = .int (i : Int) := hx.trans (congrArg V.int (Int.zero_add _))
      have hi2 : i < n := by
        have : i < (n : Int).toNat := hi
        omega
      have et : (List.range n).take (i + 1) = (List.range n).take i ++ [i] := take_more (by simp [hi2])
      refine ⟨_, rfl, _, rfl, _, _, rfl, rfl, (by show (0 : Int) ≤ (i : Int); omega), _, _, rfl, rfl, rfl, _, rfl, ?_⟩
      have eb : Builtin.bitAnd ((B : Int) / 2 ^ (i : Int).toNat) 1 = if B.testBit i = true then 1 else 0 := by rw [Int.toNat_natCast, shr_cast, bit_cast]
      by_cases h : B.testBit i = true
      · refine itt (by show decide (V.int (Builtin.bitAnd ((B : Int) / 2 ^ (i : Int).toNat) 1) = V.int 1) = true; rw [eb, dec_int, if_pos h]; rfl) ?_
        refine ⟨_, rfl, _, rfl, _, rfl, _, rfl, n, B, i, rfl, n2, hB, hi2, _, _, rfl, rfl, ?_⟩
        rw [et, List.foldl_append, List.foldl_cons, List.foldl_nil, if_pos h]
        dsimp only
        rw [or_cast]
        exact ⟨_, rfl, rfl⟩
      · refine itf (by show decide (V.int (Builtin.bitAnd ((B : Int) / 2 ^ (i : Int).toNat) 1) = V.int 1) = false; rw [eb, dec_int, if_neg h]; rfl) ?_
        rw [et, List.foldl_append, List.foldl_cons, List.foldl_nil, if_neg h]
        exact ⟨_, rfl, rfl⟩
    · rintro σ H2 ⟨y, rfl, rfl⟩
      have e : (List.range n).take (n : Int).toNat = List.range n := List.take_of_length_le (by simp)
      rw [e]
      exact ⟨_, rfl, k⟩
def sp_bits_of : Sp := fun vs H Q _ => ∃ (q : Bool × Addr) (ts : List Int), vs = [.ref q.2] ∧ SqH H q (ts.map V.int) ∧ (∀ t ∈ ts, 0 ≤ t ∧ t < 2000) ∧ Q (.int (bitsN ts)) H
theorem ok_bits_of (T : TX K mg) : FnOk P w K mg base CX0 1 T.f_bits_of T.fd_bits_of ["places"] sp_bits_of := by
  refine T.F_bits_of.ok sc_bits_of (fun vs H Q E h => ?_) (fun cdv A outer s H vs Q E hr h => ?_)
  · obtain ⟨q, ts, rfl, _⟩ := h
    rfl
  · obtain ⟨q, ts, rfl, hq, inr, k⟩ := h
    refine ⟨_, (pss_cons (ps_set (i := 1) sc_bits_of.nd rfl (Or.inl rfl) pe_int) (pss_cons (ps_for PassesOwn.never rfl (pi_seq (pv 0)) (pg_name (i := 2) sc_bits_of.nd rfl (Or.inl rfl)) (pss_one (ps_set (i := 1) sc_bits_of.nd rfl (Or.inl rfl) (pe_op op_or (pv 1) (pe_op op_shlW pe_int (pv 2)))))) (pss_one (ps_ret (pv 1))))), ?_⟩
    refine ⟨_, rfl, q, rfl, ⟨_, hq.sq⟩, ?_⟩
    refine for_it (walk_seq (xs := ts.map V.int)) (fun i σ H2 => ∃ y : Option V, σ = [some (.ref q.2), some (.int (bitsN (ts.take i) : Nat)), y] ∧ H2 = H) ⟨none, rfl, rfl⟩ (fun i σ H2 _ ⟨_, _, e⟩ => by rw [e]; exact hq.sq) ?_ ?_
    · rintro i x σ _ H2 hi ⟨y, rfl, rfl⟩ ⟨rfl, hx⟩
      obtain ⟨t, ht, rfl⟩ := map_get hx
      obtain ⟨t0, t1⟩ := inr t (List.mem_of_getElem? ht)
      refine ⟨_, rfl, _, rfl, _, _, rfl, rfl, ⟨t0, ?_⟩, _, _, rfl, rfl, ?_⟩
      · have : Builtin.Int.intBits 1 = 1 := by decide
        rw [this]
        omega
      · have e : Builtin.bitOr ((bitsN (ts.take i) : Nat) : Int) (1 * 2 ^ t.toNat) = ((bitsN (ts.take (i + 1)) : Nat) : Int) := by
          have e2 : (1 : Int) * 2 ^ t.toNat = ((2 ^ t.toNat : Nat) : Int) := by simp
          rw [e2, or_cast, take_more ht, bits_snoc]
        dsimp only
        rw [e]
        exact ⟨_, rfl, rfl⟩
    · rintro σ H2 ⟨y, rfl, rfl⟩
      rw [List.length_map, List.take_length]
      exact ⟨_, rfl, k⟩
def sp_sum_layers : Sp := fun vs H Q _ => ∃ (n c : Nat) (q : Bool × Addr) (ts : List Int), vs = [.int n, .ref q.2, .int c] ∧ n ≤ 2000 ∧ c ≤ 1000 ∧ SqH H q (ts.map V.int) ∧ (∀ t ∈ ts, 0 ≤ t ∧ t < n) ∧ ∀ l H2, Ex H H2 → H l = none → H2 l = some (.lst ((List.range (c + 1)).map fun i => .int (layN n ts i))) → Q (.ref l) H2
theorem ok_sum_layers (T : TX K mg) : FnOk P w K mg base CX0 3 T.f_sum_layers T.fd_sum_layers ["size", "targets", "calls"] sp_sum_layers := by
  refine T.F_sum_layers.ok sc_sum_layers (fun vs H Q E h => ?_) (fun cdv A outer s H vs Q E hr h => ?_)
  · obtain ⟨n, c, q, ts, rfl, _⟩ := h
    rfl
  · obtain ⟨n, c, q, ts, rfl, n2, c2, hq, inr, k⟩ := h
    refine ⟨_, (pss_cons (ps_set (i := 3) sc_sum_layers.nd rfl (Or.inl rfl) (pe_lst (pa_cons (pe_call (ok_bits_of T) (hr.mono (by decide)) rfl T.m_bits_of T.F_bits_of.kp T.b_bits_of .nil pass0 (pa_cons (pv 1) pa_nil)) pa_nil))) (pss_cons (ps_for PassesOwn.never rfl (pi_range1 rfl T.z_range (pa_cons (pv 2) pa_nil)) (pg_name (i := 4) sc_sum_layers.nd rfl (Or.inl rfl)) (pss_one (ps_expr (pe_bm PySem.F.plainAttrs_list PySem.F.slot_list_append PySem.F.type_list_append mt_append (pv 3) (pa_cons (pe_call (ok_doubled T) hr rfl T.m_doubled T.F_doubled.kp T.b_doubled .nil pass0 (pa_cons (pv 0) (pa_cons (pe_ix ix_list (pv 3) (pe_un un_neg pe_int) (fun _ _ => rfl)) pa_nil))) pa_nil))))) (pss_one (ps_ret (pv 3))))), ?_⟩
    have inr2 : ∀ t ∈ ts, 0 ≤ t ∧ t < 2000 := fun t ht => ⟨(inr t ht).1, by have := (inr t ht).2; omega⟩
    refine ⟨_, rfl, q, ts, rfl, hq, inr2, by show 1 ≤ sizeLine; decide, fun f hf => ?_⟩
    refine ⟨_, rfl, c, rfl, by omega, by omega, ?_⟩
    refine for_it walk_range (fun i σ H2 => ∃ y : Option V, σ = [some (.int n), some (.ref q.2), some (.int c), some (.ref f), y] ∧ Ex H H2 ∧ H2 f = some (.lst ((List.range (i + 1)).map fun i => .int (layN n ts i)))) ⟨none, rfl, exn hf, upd_same⟩ (fun _ _ _ _ _ => True.intro) ?_ ?_
    · rintro i x σ _ H2 hi ⟨y, rfl, e2, hf2⟩ ⟨rfl, hx⟩
      have hic : i < c := by
        have : i < (c : Int).toNat := hi
        omega
      dsimp only [gName]
      have hlast : atI ((List.range (i + 1)).map fun i => V.int (layN n ts i)) (-1) = some (V.int (layN n ts i)) := by
        rw [List.range_succ, List.map_append]
        exact atI_fin _ _
      refine ⟨_, rfl, .inl ⟨rfl, _, SqL.of hf2⟩, _, rfl, _, rfl, 1, rfl, f, _, _, _, rfl, rfl, SqL.of hf2, hlast, n, layN n ts i, rfl, n2, lay_lt inr i, f, _, _, rfl, rfl, hf2, ?_, ?_⟩
      · rw [List.length_map, List.length_range]
        exact Nat.lt_of_le_of_lt (show _ ≤ 1001 by omega) (by decide)
      · refine ⟨_, rfl, ex_upd e2 hf, ?_⟩
        rw [upd_same, List.range_succ (n := i + 1), List.map_append]
        rfl
    · rintro σ H2 ⟨y, rfl, e2, hf2⟩
      exact ⟨_, rfl, k f H2 e2 hf (by simpa using hf2)⟩
def sp_min_calls_on_ring : Sp := fun vs H Q _ => ∃ (n p : Nat) (q : Bool × Addr) (ts : List Int), vs = [.int n, .ref q.2, .int p] ∧ n ≤ 2000 ∧ p < n ∧ SqH H q (ts.map V.int) ∧ ts ≠ [] ∧ ts.length ≤ 100000 ∧ (∀ t ∈ ts, 0 ≤ t ∧ t < n) ∧ ts.Nodup ∧
  (∀ c H2, c ≤ Builtin.Int.intBits n → (layN n ts c).testBit (p * 2 ^ c % n) = true → (∀ d, d < c → (layN n ts d).testBit (p * 2 ^ d % n) = false) → Ex H H2 → Q (.int (c : Nat)) H2) ∧
  ((∀ d, d ≤ Builtin.Int.intBits n → (layN n ts d).testBit (p * 2 ^ d % n) = false) → ∀ H2, Ex H H2 → Q .non H2)
theorem ok_min_calls_on_ring (T : TX K mg) : FnOk P w K mg base CX0 5 T.f_min_calls_on_ring T.fd_min_calls_on_ring ["size", "targets", "place"] sp_min_calls_on_ring := by
  refine T.F_min_calls_on_ring.ok sc_min_calls_on_ring (fun vs H Q E h => ?_) (fun cdv A outer s H vs Q E hr h => ?_)
  · obtain ⟨n, p, q, ts, rfl, _⟩ := h
    rfl
  · obtain ⟨n, p, q, ts, rfl, n2, pn, hq, ne, lts, inr, nod, k1, k2⟩ := h
    refine ⟨_, (pss_cons (ps_expr (pe_call (ok_require_places T) hr rfl T.m_require_places T.F_require_places.kp T.b_require_places .nil pass0 (pa_cons (pv 0) (pa_cons (pv 1) pa_nil)))) (pss_cons (ps_expr (pe_call (ok_require_place T) (hr.mono (by decide)) rfl T.m_require_place T.F_require_place.kp T.b_require_place .nil pass0 (pa_cons (pv 0) (pa_cons (pv 2) (pa_cons pe_str pa_nil))))) (pss_cons (ps_expr (pe_call (ok_require_limit T) (hr.mono (by decide)) rfl T.m_require_limit T.F_require_limit.kp T.b_require_limit .nil pass0 (pa_cons (pv 0) (pa_cons (pe_glob (v := .int 2000) rfl T.c_MAX_SIZE ⟨_, rfl⟩) pa_nil)))) (pss_cons (ps_set (i := 3) sc_min_calls_on_ring.nd rfl (Or.inl rfl) (pe_call (ok_bits_of T) (hr.mono (by decide)) rfl T.m_bits_of T.F_bits_of.kp T.b_bits_of .nil pass0 (pa_cons (pv 1) pa_nil))) (pss_cons (ps_for PassesOwn.never rfl (pi_range1 rfl T.z_range (pa_cons (pe_op op_add (pe_bits (pv 0)) pe_int) pa_nil)) (pg_name (i := 4) sc_min_calls_on_ring.nd rfl (Or.inl rfl)) (pss_cons (ps_if (pt_cmpR op_eq (pe_op op_and (pe_op op_shr (pv 3) (pe_op op_mod (pe_op op_shlW (pv 2) (pv 4)) (pv 0))) pe_int) pe_int (nomark _)) (pss_one (ps_ret (pv 4))) pss_nil) (pss_one (ps_set (i := 3) sc_min_calls_on_ring.nd rfl (Or.inl rfl) (pe_call (ok_doubled T) (hr.mono (by decide)) rfl T.m_doubled T.F_doubled.kp T.b_doubled .nil pass0 (pa_cons (pv 0) (pa_cons (pv 3) pa_nil))))))) (pss_one (ps_ret pe_non))))))), ?_⟩
    refine ⟨_, rfl, _, rfl, n, q, ts, rfl, by omega, hq, ne, lts, inr, nod, fun H1 e1 => ?_⟩
    refine ⟨_, rfl, _, rfl, n, p, _, rfl, by omega, by omega, ?_⟩
    refine ⟨_, rfl, n, 2000, rfl, by omega, ?_⟩
    refine ⟨_, rfl, q, ts, rfl, hq.mono e1, fun t ht => ⟨(inr t ht).1, by have := (inr t ht).2; omega⟩, ?_⟩
    have bl : Builtin.Int.intBits (n : Int) ≤ 2001 := by
      unfold Builtin.Int.intBits
      split
      · omega
      · have h1 : (n : Int).natAbs.log2 ≤ (n : Int).natAbs := Nat.log2_le_self _
        omega
    refine ⟨_, rfl, n, rfl, _, _, rfl, rfl, _, rfl, by omega, by omega, ?_⟩
    refine for_it walk_range (fun i σ H2 => ∃ y : Option V, σ = [some (.int n), some (.ref q.2), some (.int p), some (.int (layN n ts i : Nat)), y] ∧ H2 = H1 ∧ ∀ d, d < i → (layN n ts d).testBit (p * 2 ^ d % n) = false) ⟨none, rfl, rfl, fun d h => absurd h (Nat.not_lt_zero d)⟩ (fun _ _ _ _ _ => True.intro) ?_ ?_
    · rintro i x σ _ H2 hi ⟨y, rfl, rfl, no⟩ ⟨rfl, hx⟩
      obtain rfl : x = .int (i : Int) := hx.trans (congrArg V.int (Int.zero_add _))
      have hi2 : i ≤ Builtin.Int.intBits (n : Int) := by
        have : i < ((Builtin.Int.intBits (n : Int) : Nat) + 1 : Int).toNat := hi
        omega
      have ep : (p : Int) * 2 ^ (i : Int).toNat % n = ((p * 2 ^ i % n : Nat) : Int) := by
        rw [Int.toNat_natCast]
        simp
      have pB : p < 2 ^ 2000 := Nat.lt_of_lt_of_le (Nat.lt_of_lt_of_le pn n2) (Nat.le_of_lt Nat.lt_two_pow_self)
      refine ⟨_, rfl, _, rfl, _, rfl, _, _, rfl, rfl, shlN pB (by omega), _, rfl, _, _, rfl, rfl, (by show (0 : Int) < (n : Int); omega), _, _, rfl, rfl, ?_, _, _, rfl, rfl, rfl, _, rfl, ?_⟩
      · show (0 : Int) ≤ (p : Int) * 2 ^ (i : Int).toNat % n
        rw [ep]
        omega
      have eb : Builtin.bitAnd ((layN n ts i : Int) / 2 ^ ((p : Int) * 2 ^ (i : Int).toNat % n).toNat) 1 = if (layN n ts i).testBit (p * 2 ^ i % n) = true then 1 else 0 := by rw [ep, Int.toNat_natCast, shr_cast, bit_cast]
      by_cases h : (layN n ts i).testBit (p * 2 ^ i % n) = true
      · refine itt (by show decide (V.int (Builtin.bitAnd ((layN n ts i : Int) / 2 ^ ((p : Int) * 2 ^ (i : Int).toNat % n).toNat) 1) = V.int 1) = true; rw [eb, dec_int, if_pos h]; rfl) ?_
        exact ⟨_, rfl, k1 i _ hi2 h no e1⟩
      · refine itf (by show decide (V.int (Builtin.bitAnd ((layN n ts i : Int) / 2 ^ ((p : Int) * 2 ^ (i : Int).toNat % n).toNat) 1) = V.int 1) = false; rw [eb, dec_int, if_neg h]; rfl) ?_
        refine ⟨_, rfl, _, rfl, n, layN n ts i, rfl, n2, lay_lt inr i, _, rfl, rfl, fun d hd => ?_⟩
        rcases Nat.lt_or_ge d i with z | z
        · exact no d z
        · have : d = i := by omega
          rw [this]
          exact eq_false_of_ne_true h
    · rintro σ H2 ⟨y, rfl, rfl, no⟩
      refine k2 (fun d hd => no d ?_) _ e1
      have : (((Builtin.Int.intBits (n : Int) : Nat) : Int) + 1).toNat = Builtin.Int.intBits (n : Int) + 1 := by omega
      show d < (((Builtin.Int.intBits (n : Int) : Nat) : Int) + 1).toNat
      omega
end

theorem goP_none {n : Int} : ∀ {ds : List PyData} {seen : List Int}, seen.Nodup → goP n ds seen = none → ∃ ts : List Int, ds = ts.map PyData.int ∧ (∀ t ∈ ts, 0 ≤ t ∧ t < n) ∧ ts.Nodup ∧ ∀ t ∈ ts, t ∉ seen
  | [], _, _, _ => ⟨[], rfl, by simp, List.nodup_nil, by simp⟩
  | d :: ds, seen, nd, h => by
    unfold goP at h
    split at h
    · rename_i z
      obtain ⟨hb, hs⟩ := z
      cases d with
      | int t =>
        have hb : (decide (0 ≤ t) && decide (t ≤ n - 1)) = true := hb
        rw [Bool.and_eq_true, decide_eq_true_iff, decide_eq_true_iff] at hb
        obtain ⟨ts, rfl, a, b, c⟩ := goP_none (ds := ds) (seen := seen ++ [t]) (by
          rw [List.nodup_append]
          refine ⟨nd, by simp, fun x hx y hy => ?_⟩
          rw [List.mem_singleton.mp hy]
          intro q
          rw [q] at hx
          exact hs hx) h
        refine ⟨t :: ts, rfl, fun u hu => ?_, List.nodup_cons.mpr ⟨fun q => c t q (by simp), b⟩, fun u hu => ?_⟩
        · rcases List.mem_cons.mp hu with rfl | hu
          · exact ⟨hb.1, by omega⟩
          · exact a u hu
        · rcases List.mem_cons.mp hu with rfl | hu
          · exact hs
          · exact fun q => c u hu (by simp [q])
      | _ => cases hb
    · cases h
/-- size and targets, and what comes after -/
def RPl (K : PySem.W.Frag) (CN CT : Addr) (E : XK) (H : Hp) (x tg : V) (rest : Int → Option (List PyData) → Prop) : Prop := ∃ o : Option Int, IsI K H x o ∧ ((atLeast o 1 = false ∧ Rai E H CN "name" (.str "size")) ∨
  ∃ (n : Int) (B : Addr → Prop) (od : Option (List PyData)), o = some n ∧ 1 ≤ n ∧ TgtAt K B H tg od ∧ (∀ ds, od = some ds → ds.length ≤ 1000) ∧ ((∃ i, placeDue n od = some i ∧ Rai E H CT "index" (.int i)) ∨ (placeDue n od = none ∧ rest n od)))
theorem rpl_use {K : PySem.W.Frag} {CN CT : Addr} {E : XK} {H : Hp} {Q : VK} {x tg : V} {rest : Int → Option (List PyData) → Prop} (h : RPl K CN CT E H x tg rest)
    (k : ∀ (n : Int) (q : Bool × Addr) (ts : List Int), x = .int n → tg = .ref q.2 → 1 ≤ n → SqH H q (ts.map V.int) → ts ≠ [] → ts.length ≤ 1000 → (∀ t ∈ ts, 0 ≤ t ∧ t < n) → ts.Nodup → rest n (some (ts.map PyData.int)) → ∀ H2, Ex H H2 → Q .non H2) :
    spX_require_places K CN CT [x, tg] H Q E := by
  obtain ⟨o, hx, h⟩ := h
  refine ⟨x, tg, o, rfl, hx, ?_⟩
  rcases h with ⟨h1, h2⟩ | ⟨n, B, od, rfl, n1, ht, bd, h⟩
  · exact .inl ⟨h1, h2⟩
  refine .inr ⟨n, B, od, rfl, n1, ht, bd, fun z H2 e2 => ?_, fun i z => ?_⟩
  · rcases h with ⟨i, h1, _⟩ | ⟨_, hr⟩
    · rw [z] at h1
      cases h1
    · cases od with
      | none => cases z
      | some ds =>
        have z : (if ds = [] then some (-1) else goP n ds []) = none := z
        split at z
        · cases z
        · rename_i ne
          obtain ⟨q, xs, rfl, sq, all⟩ := ht
          obtain ⟨ts, rfl, a, b, _⟩ := goP_none List.nodup_nil z
          obtain ⟨is2, e1, e2'⟩ := dq_ints all fun w hw => by
            obtain ⟨i, _, rfl⟩ := List.mem_map.mp hw
            exact ⟨i, rfl⟩
          have e3 : is2 = ts := by
            have := congrArg (List.filterMap intD) e1
            rw [fm_ints, fm_ints] at this
            exact this.symm
          rw [e2', e3] at sq
          exact k n q ts hx rfl n1 sq (fun w => ne (by rw [w]; rfl)) (by have := bd _ rfl; rwa [List.length_map] at this) a b hr H2 e2
  · rcases h with ⟨j, h1, h2⟩ | ⟨h1, _⟩
    · rw [z] at h1
      cases h1
      exact h2
    · rw [z] at h1
      cases h1
section
variable {P : Program} {w : World} {K : PySem.W.Frag} {mg : Str → Option Value} {base : Heap}
def spX_min_calls_on_ring (K : PySem.W.Frag) (CN CT CL : Addr) : Sp := fun vs H Q E => ∃ (x tg p : V) (op : Option Int), vs = [x, tg, p] ∧ (∀ H2, Ex H H2 → IsI K H2 p op) ∧ RPl K CN CT E H x tg fun n _ =>
  (between op 0 (n - 1) = false ∧ Rai E H CN "name" (.str "place")) ∨ (between op 0 (n - 1) = true ∧ ((2000 < n ∧ Rai E H CL "limit" (.int 2000)) ∨ (n ≤ 2000 ∧ ∀ v H2, Ex H H2 → Q v H2)))
theorem okX_min_calls_on_ring (T : TX K mg) : FnOk P w K mg base (L2.CX P w) 5 T.f_min_calls_on_ring T.fd_min_calls_on_ring ["size", "targets", "place"] (spX_min_calls_on_ring K T.C_InvalidNumber T.C_InvalidTargets T.C_TooLarge) := by
  refine T.F_min_calls_on_ring.okX sc_min_calls_on_ring (fun vs H Q E h => ?_) (fun cdv A outer s H vs Q E hr h => ?_)
  · obtain ⟨x, tg, p, op, rfl, _⟩ := h
    rfl
  · obtain ⟨x, tg, p, op, rfl, hp, h⟩ := h
    refine ⟨_, (pss_cons (ps_expr (pe_call (okX_require_places T) hr rfl T.m_require_places T.F_require_places.kp T.b_require_places .nil (passes_call (takes_of rfl rfl rfl rfl) (fun _ _ _ _ h => h)) (pa_cons (pv 0) (pa_cons (pv 1) pa_nil)))) (pss_cons (ps_expr (pe_call (okX_require_place T) (hr.mono (by decide)) rfl T.m_require_place T.F_require_place.kp T.b_require_place .nil (passes_call (takes_of rfl rfl rfl rfl) (fun _ _ _ _ h => h)) (pa_cons (pv 0) (pa_cons (pv 2) (pa_cons pe_str pa_nil))))) (pss_cons (ps_expr (pe_call (okX_require_limit T) (hr.mono (by decide)) rfl T.m_require_limit T.F_require_limit.kp T.b_require_limit .nil (passes_call (takes_of rfl rfl rfl rfl) (fun _ _ _ _ h => h)) (pa_cons (pv 0) (pa_cons (pe_glob (v := .int 2000) rfl T.c_MAX_SIZE ⟨_, rfl⟩) pa_nil)))) (pss_cons (ps_set (i := 3) sc_min_calls_on_ring.nd rfl (Or.inl rfl) (pe_call (ok_bits_of T) (hr.mono (by decide)) rfl T.m_bits_of T.F_bits_of.kp T.b_bits_of .nil pass0 (pa_cons (pv 1) pa_nil))) (pss_cons (ps_for (passes_of rfl) rfl (pi_range1 rfl T.z_range (pa_cons (pe_op op_add (pe_bits (pv 0)) pe_int) pa_nil)) (pg_name (i := 4) sc_min_calls_on_ring.nd rfl (Or.inl rfl)) (pss_cons (ps_if (pt_cmpR op_eq (pe_op op_and (pe_op op_shr (pv 3) (pe_op op_mod (pe_op op_shlW (pv 2) (pv 4)) (pv 0))) pe_int) pe_int (nomark _)) (pss_one (ps_ret (pv 4))) pss_nil) (pss_one (ps_set (i := 3) sc_min_calls_on_ring.nd rfl (Or.inl rfl) (pe_call (ok_doubled T) (hr.mono (by decide)) rfl T.m_doubled T.F_doubled.kp T.b_doubled .nil pass0 (pa_cons (pv 0) (pa_cons (pv 3) pa_nil))))))) (pss_one (ps_ret pe_non))))))), ?_⟩
    refine ⟨_, rfl, _, rfl, ?_⟩
    dsimp only [tNil, List.append_nil]
    refine rpl_use h fun nI q ts ex eq n1 hq ne lts inr nod hr H1 e1 => ?_
    subst ex eq
    refine ⟨_, rfl, _, rfl, nI, p, op, "place", rfl, hp _ e1, fun zb => ?_, fun zb => ?_⟩
    rotate_left
    · rcases hr with ⟨_, r⟩ | ⟨z, _⟩
      · exact r.mono e1
      · rw [zb] at z
        cases z
    have hr := hr.resolve_left fun z => by
      rw [zb] at z
      cases z.1
    obtain ⟨pI, rfl⟩ : ∃ i, op = some i := by
      cases op with
      | none => cases zb
      | some i => exact ⟨i, rfl⟩
    obtain rfl : p = .int pI := hp _ exr
    have zb : (decide (0 ≤ pI) && decide (pI ≤ nI - 1)) = true := zb
    rw [Bool.and_eq_true, decide_eq_true_iff, decide_eq_true_iff] at zb
    obtain ⟨n, rfl⟩ := Int.eq_ofNat_of_zero_le (show 0 ≤ nI by omega)
    obtain ⟨p, rfl⟩ := Int.eq_ofNat_of_zero_le zb.1
    have pn : p < n := by omega
    refine ⟨_, rfl, n, 2000, rfl, fun n2 => ?_, fun n2 => ?_⟩
    rotate_left
    · rcases hr.2 with ⟨_, r⟩ | ⟨z, _⟩
      · exact r.mono e1
      · omega
    have kv := (hr.2.resolve_left fun z => by have := z.1; omega).2
    have k1 : ∀ c H2, c ≤ Builtin.Int.intBits n → (layN n ts c).testBit (p * 2 ^ c % n) = true → (∀ d, d < c → (layN n ts d).testBit (p * 2 ^ d % n) = false) → Ex H H2 → Q (.int (c : Nat)) H2 := fun c H2 _ _ _ e2 => kv _ _ e2
    have k2 : (∀ d, d ≤ Builtin.Int.intBits n → (layN n ts d).testBit (p * 2 ^ d % n) = false) → ∀ H2, Ex H H2 → Q .non H2 := fun _ H2 e2 => kv _ _ e2
    have lts : ts.length ≤ 100000 := by omega
    replace n2 : n ≤ 2000 := by omega
    clear hr kv hp
    refine ⟨_, rfl, q, ts, rfl, hq.mono e1, fun t ht => ⟨(inr t ht).1, by have := (inr t ht).2; omega⟩, ?_⟩
    have bl : Builtin.Int.intBits (n : Int) ≤ 2001 := by
      unfold Builtin.Int.intBits
      split
      · omega
      · have h1 : (n : Int).natAbs.log2 ≤ (n : Int).natAbs := Nat.log2_le_self _
        omega
    refine ⟨_, rfl, n, rfl, _, _, rfl, rfl, _, rfl, by omega, by omega, ?_⟩
    refine for_it walk_range (fun i σ H2 => ∃ y : Option V, σ = [some (.int n), some (.ref q.2), some (.int p), some (.int (layN n ts i : Nat)), y] ∧ H2 = H1 ∧ ∀ d, d < i → (layN n ts d).testBit (p * 2 ^ d % n) = false) ⟨none, rfl, rfl, fun d h => absurd h (Nat.not_lt_zero d)⟩ (fun _ _ _ _ _ => True.intro) ?_ ?_
    · rintro i x σ _ H2 hi ⟨y, rfl, rfl, no⟩ ⟨rfl, hx⟩
      obtain rfl : x = .int (i : Int) := hx.trans (congrArg V.int (Int.zero_add _))
      have hi2 : i ≤ Builtin.Int.intBits (n : Int) := by
        have : i < ((Builtin.Int.intBits (n : Int) : Nat) + 1 : Int).toNat := hi
        omega
      have ep : (p : Int) * 2 ^ (i : Int).toNat % n = ((p * 2 ^ i % n : Nat) : Int) := by
        rw [Int.toNat_natCast]
        simp
      have pB : p < 2 ^ 2000 := Nat.lt_of_lt_of_le (Nat.lt_of_lt_of_le pn n2) (Nat.le_of_lt Nat.lt_two_pow_self)
      refine ⟨_, rfl, _, rfl, _, rfl, _, _, rfl, rfl, shlN pB (by omega), _, rfl, _, _, rfl, rfl, (by show (0 : Int) < (n : Int); omega), _, _, rfl, rfl, ?_, _, _, rfl, rfl, rfl, _, rfl, ?_⟩
      · show (0 : Int) ≤ (p : Int) * 2 ^ (i : Int).toNat % n
        rw [ep]
        omega
      have eb : Builtin.bitAnd ((layN n ts i : Int) / 2 ^ ((p : Int) * 2 ^ (i : Int).toNat % n).toNat) 1 = if (layN n ts i).testBit (p * 2 ^ i % n) = true then 1 else 0 := by rw [ep, Int.toNat_natCast, shr_cast, bit_cast]
      by_cases h : (layN n ts i).testBit (p * 2 ^ i % n) = true
      · refine itt (by show decide (V.int (Builtin.bitAnd ((layN n ts i : Int) / 2 ^ ((p : Int) * 2 ^ (i : Int).toNat % n).toNat) 1) = V.int 1) = true; rw [eb, dec_int, if_pos h]; rfl) ?_
        exact ⟨_, rfl, k1 i _ hi2 h no e1⟩
      · refine itf (by show decide (V.int (Builtin.bitAnd ((layN n ts i : Int) / 2 ^ ((p : Int) * 2 ^ (i : Int).toNat % n).toNat) 1) = V.int 1) = false; rw [eb, dec_int, if_neg h]; rfl) ?_
        refine ⟨_, rfl, _, rfl, n, layN n ts i, rfl, n2, lay_lt inr i, _, rfl, rfl, fun d hd => ?_⟩
        rcases Nat.lt_or_ge d i with z | z
        · exact no d z
        · have : d = i := by omega
          rw [this]
          exact eq_false_of_ne_true h
    · rintro σ H2 ⟨y, rfl, rfl, no⟩
      refine k2 (fun d hd => no d ?_) _ e1
      have : (((Builtin.Int.intBits (n : Int) : Nat) : Int) + 1).toNat = Builtin.Int.intBits (n : Int) + 1 := by omega
      show d < (((Builtin.Int.intBits (n : Int) : Nat) : Int) + 1).toNat
      omega
end

section
variable {P : Program} {w : World} {K : PySem.W.Frag} {mg : Str → Option Value} {base : Heap}
def spX_require_counts (CX : Addr) : Sp := fun vs H Q E => ∃ (B : Addr → Prop) (q : Bool × Addr) (x : V) (ts : List Int) (d : PyData), vs = [.ref q.2, x] ∧ SqH H q (ts.map V.int) ∧ Dq B H x d ∧ (cntDue ts.length d = none → ∀ H2, Ex H H2 → Q .non H2) ∧ (∀ i, cntDue ts.length d = some i → ∀ dd H2, Ex H H2 → H2 dd = some (.xd [("index", .int i)]) → E (.ref CX) (some dd) H2)
theorem okX_require_counts (T : TX K mg) : FnOk P w K mg base (L2.CX P w) 3 T.f_require_counts T.fd_require_counts ["targets", "counts"] (spX_require_counts T.C_InvalidWitness) := by
  refine T.F_require_counts.okX sc_require_counts (fun vs H Q E h => ?_) (fun cdv A outer s H vs Q E hr h => ?_)
  · obtain ⟨B, q, x, ts, d, rfl, _⟩ := h
    rfl
  · obtain ⟨B, q, x, ts, d, rfl, hq, dq, k1, k2⟩ := h
    refine ⟨_, (pss_cons (ps_if (PW.pt (pw_or (pt_not (pt_val (pe_callB call_isi (by rfl) T.z_isinstance (by decide +kernel) (pa_cons (pv 1) (pa_cons (pe_bltn (v := .ty "list") rfl T.z_list (by decide +kernel) rfl) pa_nil))))) (pw_or1 (pt_cmpR op_ne (pe_callB call_len_seq (by rfl) T.z_len (by decide +kernel) (pa_cons (pv 1) pa_nil)) (pe_callB call_len_seq (by rfl) T.z_len (by decide +kernel) (pa_cons (pv 0) pa_nil)) (nomark _))))) (pss_one (ps_raise rfl (takes_of rfl rfl rfl rfl) (pmk_oex T.ox_InvalidWitness T.i_InvalidWitness T.ti_InvalidWitness (ok_InvalidWitness_init T) (hr.mono (by decide)) T.b_InvalidWitness_init .nil pass0 rfl T.m_InvalidWitness (pa_cons (pe_un un_neg pe_int) pa_nil)))) pss_nil) (pss_one (ps_for (passes_of rfl) rfl (CE.pi_e rfl T.z_enumerate (pa_cons (pv 1) pa_nil)) (pg_tup rfl (pgs_cons (pg_name (i := 2) sc_require_counts.nd rfl (Or.inl rfl)) (pgs_cons (pg_name (i := 3) sc_require_counts.nd rfl (Or.inl rfl)) pgs_nil))) (pss_one (ps_if (pt_not (pt_val (pe_call (ok_is_at_least T) hr rfl T.m_is_at_least T.F_is_at_least.kp T.b_is_at_least .nil pass0 (pa_cons (pv 3) (pa_cons pe_int pa_nil))))) (pss_one (ps_raise rfl (takes_of rfl rfl rfl rfl) (pmk_oex T.ox_InvalidWitness T.i_InvalidWitness T.ti_InvalidWitness (ok_InvalidWitness_init T) (hr.mono (by decide)) T.b_InvalidWitness_init .nil pass0 rfl T.m_InvalidWitness (pa_cons (pv 2) pa_nil)))) pss_nil))))), ?_⟩
    obtain ⟨ty, hty, hkit⟩ := dq.isL
    refine ⟨_, rfl, _, _, _, _, _, rfl, .ty _, hty, hkit, _, rfl, ?_⟩
    cases el : lstD d with
    | none =>
      refine itt rfl ?_
      refine ⟨_, rfl, by show 1 ≤ 1000; decide, fun ea na => ?_⟩
      exact exc_made na fun dd H4 e4 hd => k2 (-1) (by unfold cntDue; rw [el]) dd H4 e4 hd
    | some ds =>
    refine itf rfl ?_
    obtain ⟨xa, xs, rfl, hxa, _, dall⟩ := dq.lstA el
    have lxs := dall.len
    refine ⟨_, rfl, xa, _, rfl, .inl (SqL.of hxa), _, rfl, q.2, _, rfl, sq_or hq, rfl, _, rfl, ?_⟩
    have ed : cntDue ts.length d = if ds.length = ts.length then cntBad ds 0 else some (-1) := by unfold cntDue; rw [el]
    rw [ed] at k1 k2
    by_cases c : ds.length = ts.length
    rotate_left
    · rw [if_neg c] at k1 k2
      refine itt (by rw [lxs, List.length_map]; simp; omega) ?_
      refine ⟨_, rfl, by show 1 ≤ 1000; decide, fun ea na => ?_⟩
      exact exc_made na fun dd H4 e4 hd => k2 (-1) rfl dd H4 e4 hd
    rw [if_pos c] at k1 k2
    refine itf (by rw [lxs, List.length_map, c]; simp) ?_
    dsimp only [tNext]
    refine ⟨_, rfl, (false, xa), rfl, ⟨_, sqL hxa⟩, ?_⟩
    refine for_it (CE.walk_e (xs := xs)) (fun i σ Hx => (∃ y2 y3 : Option V, σ = [some (.ref q.2), some (.ref xa), y2, y3]) ∧ Ex H Hx ∧ cntBad ds 0 = cntBad (ds.drop i) i) ⟨⟨_, _, rfl⟩, exr, rfl⟩ (fun i σ Hx _ p => sqL (p.2.1 _ _ hxa)) ?_ ?_
    · rintro i x0 σ Ha Hb hi ⟨⟨y2, y3, rfl⟩, ex, hd⟩ ⟨Ta, x1, x2, rfl, hT, rfl, hx1, hx2⟩
      cases hx1
      obtain ⟨dw, hdw, qw0⟩ := dall.get hx2
      have eT := exn (o := .tup [.int (i : Nat), x2]) hT
      have E3 := ext ex eT
      have qw := qw0.mono E3
      have il := (List.getElem?_eq_some_iff.mp hdw).1
      have edr : ds.drop i = dw :: ds.drop (i + 1) := by
        rw [List.drop_eq_getElem_cons il]
        rw [List.getElem?_eq_getElem il] at hdw
        rw [Option.some.inj hdw]
      rw [edr] at hd
      replace hd : cntBad ds 0 = if atLeast (intD dw) 0 = true then cntBad (ds.drop (i + 1)) (i + 1) else some (i : Int) := hd
      refine ⟨Ta, _, rfl, SqT.of upd_same, rfl, _, _, rfl, _, _, rfl, rfl, ?_⟩
      refine ⟨_, rfl, _, intD dw, 0, rfl, qw.isI, _, rfl, ?_⟩
      by_cases ca : atLeast (intD dw) 0 = true
      · rw [if_pos ca] at hd
        exact itf (by rw [ca]; rfl) ⟨⟨_, _, rfl⟩, E3, hd⟩
      · rw [if_neg ca] at hd
        refine itt (by rw [Bool.eq_false_iff.mpr ca]; rfl) ?_
        refine ⟨_, rfl, by show 1 ≤ 1000; decide, fun ea na => ?_⟩
        exact exc_made na fun dd H4 e4 hdd => k2 (i : Int) hd dd H4 (ext E3 e4) hdd
    · rintro σ Hx ⟨⟨y2, y3, rfl⟩, ex, hd⟩
      rw [lxs, List.drop_length] at hd
      exact k1 hd _ ex
def spX_require_sum (CX : Addr) : Sp := fun vs H Q E => ∃ (n p tot : Int) (q : Bool × Addr) (c : Addr) (ts cs : List Int), vs = [.int n, .ref q.2, .int p, .ref c, .int tot] ∧ 1 ≤ n ∧ SqH H q (ts.map V.int) ∧ H c = some (.lst (cs.map V.int)) ∧ cs.length = ts.length ∧ ts.length ≤ 100 ∧ (∀ x ∈ cs, x.natAbs < 2 ^ 5000) ∧ (∀ x ∈ ts, x.natAbs < 2 ^ 5000) ∧ tot.natAbs < 2 ^ 5000 ∧ p.natAbs < 2 ^ 5000 ∧
  (sumDue n ts p tot cs = none → ∀ H2, Ex H H2 → Q .non H2) ∧ (∀ i, sumDue n ts p tot cs = some i → ∀ dd H2, Ex H H2 → H2 dd = some (.xd [("index", .int i)]) → E (.ref CX) (some dd) H2)
theorem okX_require_sum (T : TX K mg) : FnOk P w K mg base (L2.CX P w) 3 T.f_require_sum T.fd_require_sum ["size", "targets", "place", "counts", "total"] (spX_require_sum T.C_InvalidWitness) := by
  refine T.F_require_sum.okX sc_require_sum (fun vs H Q E h => ?_) (fun cdv A outer s H vs Q E hr h => ?_)
  · obtain ⟨n, p, tot, q, c, ts, cs, rfl, _⟩ := h
    rfl
  · obtain ⟨n, p, tot, q, c, ts, cs, rfl, n1, hq, hc, l, l100, cB, bt, btot, bp, k1, k2⟩ := h
    refine ⟨_, (pss_cons (ps_if (pt_cmpR op_ne (pe_callB (cr_sum rfl) (by rfl) T.z_sum (by decide +kernel) (pa_cons (pv 3) pa_nil)) (pv 4) (nomark _)) (pss_one (ps_raise rfl (takes_of rfl rfl rfl rfl) (pmk_oex T.ox_InvalidWitness T.i_InvalidWitness T.ti_InvalidWitness (ok_InvalidWitness_init T) (hr.mono (by decide)) T.b_InvalidWitness_init .nil pass0 rfl T.m_InvalidWitness (pa_cons (pe_callB call_len_seq (by rfl) T.z_len (by decide +kernel) (pa_cons (pv 1) pa_nil)) pa_nil)))) pss_nil) (pss_cons (ps_set (i := 5) sc_require_sum.nd rfl (Or.inl rfl) (pe_callB (cr_sum rfl) (by rfl) T.z_sum (by decide +kernel) (pa_cons (pe_lc (own := [("count", 6), ("target", 7)]) (g := (gTup K 2 (gCons (gName 6) (gCons (gName 7) gNil)))) rfl sc_require_sum.nd (pi_or (CZ.pi_z2s (fl := [false, false]) rfl (by rfl) T.z_zip (pa_cons (pv 3) (pa_cons (pv 1) pa_nil))) (CZ.pi_z2s (fl := [false, true]) rfl (by rfl) T.z_zip (pa_cons (pv 3) (pa_cons (pv 1) pa_nil)))) (blkOk_by (N := N_require_sum) (sc := defScope s_require_sum) (by decide +kernel)) (fun _ _ _ _ _ => (pg_tup rfl (pgs_cons (pg_name (i := 6) sc_require_sum.nd rfl (Or.inl rfl)) (pgs_cons (pg_name (i := 7) sc_require_sum.nd rfl (Or.inl rfl)) pgs_nil)))) (fun _ _ _ _ _ => pts_nil) (fun _ _ _ _ _ => (pe_op op_mulI (pv 6) (pv 7)))) pa_nil))) (pss_one (ps_if (pt_cmpR op_ne (pe_op op_mod (pe_op op_sub (pv 5) (pe_op op_mulI (pv 4) (pv 2))) (pv 0)) pe_int (nomark _)) (pss_one (ps_raise rfl (takes_of rfl rfl rfl rfl) (pmk_oex T.ox_InvalidWitness T.i_InvalidWitness T.ti_InvalidWitness (ok_InvalidWitness_init T) (hr.mono (by decide)) T.b_InvalidWitness_init .nil pass0 rfl T.m_InvalidWitness (pa_cons (pe_op op_add (pe_callB call_len_seq (by rfl) T.z_len (by decide +kernel) (pa_cons (pv 1) pa_nil)) pe_int) pa_nil)))) pss_nil)))), ?_⟩
    refine ⟨_, rfl, c, cs, rfl, SqL.of hc, _, rfl, rfl, _, rfl, ?_⟩
    by_cases c1 : cs.sum = tot
    rotate_left
    · refine itt (by show (!decide (V.int cs.sum = V.int tot)) = true; rw [decide_eq_false (fun z => c1 (by injection z))]; rfl) ?_
      refine ⟨_, rfl, q.2, _, rfl, sq_or hq, by show 1 ≤ 1000; decide, fun ea na => ?_⟩
      rw [List.length_map]
      exact exc_made na fun dd H4 e4 hdd => k2 (ts.length : Int) (by unfold sumDue; rw [if_neg c1]) dd H4 e4 hdd
    refine itf (by rw [c1]; simp) ?_
    dsimp only [tNext]
    have sz : ∀ H2, Ex H H2 → CZ.SqK (cxOf (CX P w) P w K mg base N_require_sum "require_sum" (defScope s_require_sum) T.f_require_sum cdv A outer s H E).K H2 (q.1, q.2) (ts.map V.int) := fun H2 e2 => by
      obtain ⟨qb, qa⟩ := q
      cases qb with
      | false => exact sqL (e2 _ _ hq)
      | true => exact sqT (e2 _ _ hq)
    have hor : ∀ {F : List Bool → Prop}, F [false, q.1] → F [false, false] ∨ F [false, true] := fun {F} h => by
      obtain ⟨qb, qa⟩ := q
      cases qb with
      | false => exact .inl h
      | true => exact .inr h
    refine hor (F := fun fl => CZ.iZ _ fl _ _ _ _) ?_
    refine ⟨_, rfl, _, rfl, [c, q.2], rfl, rfl, all2 (sqL hc) (sz H exr), fun D hD => ?_⟩
    refine lc_vals (CZ.walk_rows (xss := [cs.map V.int, ts.map V.int]) (n := ts.length) (lens2 (by rw [List.length_map, l]) (by rw [List.length_map]))) ((List.zipWith (fun w x => w * x) cs ts).map V.int) (by rw [List.length_map, List.length_zipWith, l, Nat.min_self]) (by omega) hD (fun H3 e => .cons (sqL (e _ _ hc)) (.cons (sz _ e) .nil)) ?_ (gmono_tup (gmono_cons gmono_name (gmono_cons gmono_name gmono_nil))) ?_
    · intro j y H6 H7 R hj e yy kk
      obtain ⟨Tb, p, d, rfl, hTb, rfl, hp, hdd⟩ := yints2 yy
      refine ⟨Tb, _, rfl, SqT.of upd_same, rfl, _, _, rfl, _, _, rfl, rfl, ?_⟩
      refine ⟨rfl, _, rfl, _, rfl, _, _, rfl, rfl, (wide_mul (cB p (List.mem_of_getElem? hp)) (bt d (List.mem_of_getElem? hdd)) (by decide) (by decide) (by decide)).ok, ?_⟩
      refine kk _ _ (exn hTb) ?_
      rw [List.getElem?_map, List.getElem?_zipWith, hp, hdd]
      rfl
    · intro H3 e3 hD3
      refine ⟨D, _, rfl, SqL.of hD3, ?_⟩
      dsimp only [gName]
      refine ⟨_, rfl, _, rfl, _, rfl, _, _, rfl, rfl, (wide_mul btot bp (by decide) (by decide) (by decide)).ok, _, _, rfl, rfl, _, rfl, _, _, rfl, rfl, (by omega), rfl, _, rfl, ?_⟩
      by_cases c2 : (wsum cs ts - tot * p) % n = 0
      · refine itf ?_ ?_
        · show (!decide (V.int ((wsum cs ts - tot * p) % n) = V.int 0)) = false
          rw [c2]
          simp
        · exact k1 (by unfold sumDue; rw [if_pos c1, if_pos c2]) _ e3
      · refine itt ?_ ?_
        · show (!decide (V.int ((wsum cs ts - tot * p) % n) = V.int 0)) = true
          rw [decide_eq_false (fun z => c2 (by injection z))]
          rfl
        · refine ⟨_, rfl, q.2, _, rfl, sq_or (SqH.mono e3 hq), _, _, rfl, rfl, by show 1 ≤ 1000; decide, fun ea na => ?_⟩
          rw [List.length_map]
          exact exc_made na fun dd H4 e4 hdd => k2 ((ts.length : Int) + 1) (by unfold sumDue; rw [if_pos c1, if_neg c2]) dd H4 (ext e3 e4) hdd
end

section
variable {P : Program} {w : World} {K : PySem.W.Frag} {mg : Str → Option Value} {base : Heap}
def spY_check_sum (K : PySem.W.Frag) (CN CT CL CW : Addr) : Sp := fun vs H Q E => ∃ (x tg p c y : V) (op oc : Option Int) (B : Addr → Prop) (d : PyData), vs = [x, tg, p, c, y] ∧ IsI K H p op ∧ IsI K H c oc ∧ Dq B H y d ∧ (∀ cs : List Int, d = .list (cs.map PyData.int) → ∀ x ∈ cs, x.natAbs < 2 ^ 5000) ∧ RPl K CN CT E H x tg fun n od =>
  (between op 0 (n - 1) = false ∧ Rai E H CN "name" (.str "place")) ∨ (between op 0 (n - 1) = true ∧ ((atLeast oc 0 = false ∧ Rai E H CN "name" (.str "calls")) ∨
    ∃ k : Nat, oc = some (k : Int) ∧ ((1000 < k ∧ Rai E H CL "limit" (.int 1000)) ∨ (k ≤ 1000 ∧ n.natAbs < 2 ^ 4000 ∧ (∀ ds, od = some ds → ds.length ≤ 100) ∧
      ∀ (ts : List Int) (p : Int), od = some (ts.map PyData.int) → op = some p → (dueS n ts p k d = none → ∀ H2, Ex H H2 → Q .non H2) ∧ ∀ i, dueS n ts p k d = some i → Rai E H CW "index" (.int i)))))
theorem okY_check_sum (T : TX K mg) : FnOk P w K mg base (L2.CX P w) 5 T.f_check_sum T.fd_check_sum ["size", "targets", "place", "calls", "counts"] (spY_check_sum K T.C_InvalidNumber T.C_InvalidTargets T.C_TooLarge T.C_InvalidWitness) := by
  refine T.F_check_sum.okX sc_check_sum (fun vs H Q E h => ?_) (fun cdv A outer s H vs Q E hr h => ?_)
  · obtain ⟨x, tg, p, c, y, op, oc, B, d, rfl, _⟩ := h
    rfl
  · obtain ⟨x, tg, p, c, y, op, oc, B, d, rfl, hp, hc, dq, bd, h⟩ := h
    refine ⟨_, (pss_cons (ps_expr (pe_call (okX_require_places T) hr rfl T.m_require_places T.F_require_places.kp T.b_require_places .nil (passes_call (takes_of rfl rfl rfl rfl) (fun _ _ _ _ h => h)) (pa_cons (pv 0) (pa_cons (pv 1) pa_nil)))) (pss_cons (ps_expr (pe_call (okX_require_place T) (hr.mono (by decide)) rfl T.m_require_place T.F_require_place.kp T.b_require_place .nil (passes_call (takes_of rfl rfl rfl rfl) (fun _ _ _ _ h => h)) (pa_cons (pv 0) (pa_cons (pv 2) (pa_cons pe_str pa_nil))))) (pss_cons (ps_expr (pe_call (okX_require_at_least T) (hr.mono (by decide)) rfl T.m_require_at_least T.F_require_at_least.kp T.b_require_at_least .nil (passes_call (takes_of rfl rfl rfl rfl) (fun _ _ _ _ h => h)) (pa_cons (pv 3) (pa_cons pe_int (pa_cons pe_str pa_nil))))) (pss_cons (ps_expr (pe_call (okX_require_limit T) (hr.mono (by decide)) rfl T.m_require_limit T.F_require_limit.kp T.b_require_limit .nil (passes_call (takes_of rfl rfl rfl rfl) (fun _ _ _ _ h => h)) (pa_cons (pv 3) (pa_cons (pe_glob (v := .int 1000) rfl T.c_MAX_CHECKED_CALLS ⟨_, rfl⟩) pa_nil)))) (pss_cons (ps_expr (pe_call (okX_require_counts T) (hr.mono (by decide)) rfl T.m_require_counts T.F_require_counts.kp T.b_require_counts .nil (passes_call (takes_of rfl rfl rfl rfl) (fun _ _ _ _ h => h)) (pa_cons (pv 1) (pa_cons (pv 4) pa_nil)))) (pss_one (ps_expr (pe_call (okX_require_sum T) (hr.mono (by decide)) rfl T.m_require_sum T.F_require_sum.kp T.b_require_sum .nil (passes_call (takes_of rfl rfl rfl rfl) (fun _ _ _ _ h => h)) (pa_cons (pv 0) (pa_cons (pv 1) (pa_cons (pv 2) (pa_cons (pv 4) (pa_cons (pe_op op_shlW pe_int (pv 3)) pa_nil))))))))))))), ?_⟩
    refine ⟨_, rfl, _, rfl, ?_⟩
    dsimp only [tNil, List.append_nil]
    refine rpl_use h fun n q ts ex eq n1 hq ne lts inr nod hr H1 e1 => ?_
    subst ex eq
    refine ⟨_, rfl, _, rfl, n, p, op, "place", rfl, hp.mono e1, fun zb => ?_, fun zb => ?_⟩
    rotate_left
    · rcases hr with ⟨_, r⟩ | ⟨z, _⟩
      · exact r.mono e1
      · rw [zb] at z
        cases z
    have hr := hr.resolve_left fun z => by
      rw [zb] at z
      cases z.1
    obtain ⟨pI, rfl⟩ : ∃ i, op = some i := by
      cases op with
      | none => cases zb
      | some i => exact ⟨i, rfl⟩
    obtain rfl : p = .int pI := hp
    have zb : (decide (0 ≤ pI) && decide (pI ≤ n - 1)) = true := zb
    rw [Bool.and_eq_true, decide_eq_true_iff, decide_eq_true_iff] at zb
    refine ⟨_, rfl, c, oc, 0, "calls", rfl, hc.mono e1, fun zc => ?_, fun zc => ?_⟩
    rotate_left
    · rcases hr.2 with ⟨_, r⟩ | ⟨k, z, _⟩
      · exact r.mono e1
      · rw [z] at zc
        have zc : decide ((0 : Int) ≤ (k : Int)) = false := zc
        exact absurd (of_decide_eq_false zc) (by omega)
    obtain ⟨k, rfl, hr2⟩ := hr.2.resolve_left fun z => by
      have z1 := z.1
      rw [zc] at z1
      cases z1
    obtain rfl : c = .int (k : Int) := hc
    refine ⟨_, rfl, k, 1000, rfl, fun n2 => ?_, fun n2 => ?_⟩
    rotate_left
    · rcases hr2 with ⟨_, r⟩ | ⟨z, _⟩
      · exact r.mono e1
      · omega
    obtain ⟨c1, nB, l100, kk⟩ := hr2.resolve_left fun z => by have := z.1; omega
    obtain ⟨k1, k2⟩ := kk ts pI rfl rfl
    have l100 : ts.length ≤ 100 := by have := l100 _ rfl; rwa [List.length_map] at this
    have p0 := zb.1
    have p1 : pI < n := by omega
    have k2 : ∀ i, dueS n ts pI k d = some i → ∀ dd H2, Ex H H2 → H2 dd = some (.xd [("index", .int i)]) → E (.ref T.C_InvalidWitness) (some dd) H2 := k2
    clear hr hr2 kk
    generalize pI = p at *
    refine ⟨_, rfl, _, rfl, B, q, y, ts, d, rfl, hq.mono e1, dq.mono e1, fun hn H2 e2 => ?_, fun i hi dd H2 e2 hdd => ?_⟩
    · obtain ⟨cs, rfl, lc, pos, ecs⟩ := cnt_none hn
      obtain ⟨a, rfl, ha, _⟩ := dq.intsL
      have E2 := ext e1 e2
      have bn : ∀ x : Int, 0 ≤ x → x < n → x.natAbs < 2 ^ 5000 := fun x h0 h1 => Nat.lt_of_lt_of_le (show x.natAbs < 2 ^ 4000 by omega) (Nat.pow_le_pow_right (by decide) (by decide))
      have p2 : (2 : Int) ^ k ≤ 2 ^ 1000 := pow2_le c1
      have b2 : ((2 : Int) ^ k).natAbs < 2 ^ 5000 := by
        have h0 : (0 : Int) < 2 ^ k := Int.pow_pos (by decide)
        have h4 : ((2 : Int) ^ k).natAbs ≤ 2 ^ 1000 := by
          have : ((2 ^ 1000 : Nat) : Int) = (2 : Int) ^ 1000 := by simp
          omega
        exact Nat.lt_of_le_of_lt h4 (Nat.pow_lt_pow_right (by decide) (by decide))
      have ed : dueS n ts p k (.list (cs.map PyData.int)) = sumDue n ts p (2 ^ k) cs := by
        unfold dueS
        rw [hn, ecs]
      rw [ed] at k1 k2
      refine ⟨_, rfl, _, rfl, _, rfl, _, rfl, _, rfl, _, _, rfl, rfl, shl_ok (n := 1) (by decide) (by omega), n, p, 2 ^ k, q, a, ts, cs, by dsimp only; rw [Int.one_mul, Int.toNat_natCast]; rfl, n1, hq.mono E2, E2 _ _ ha, lc, l100, bd cs rfl, fun x hx => bn x (inr x hx).1 (inr x hx).2, b2, bn p p0 p1, fun h H3 e3 => k1 h _ (ext E2 e3), fun i h dd H3 e3 hdd => k2 i h dd _ (ext E2 e3) hdd⟩
    · exact k2 i (by unfold dueS; rw [hi]) dd H2 (ext e1 e2) hdd
end

section
variable {P : Program} {w : World} {K : PySem.W.Frag} {mg : Str → Option Value} {base : Heap}
/-- what call_from_sum raises for counts that are no sum -/
def CfsDue (n : Int) (ts : List Int) (p : Int) (d : PyData) (i : Int) : Prop := cntDue ts.length d = some i ∨ ∃ cs : List Int, cntDue ts.length d = none ∧ d = .list (cs.map PyData.int) ∧ (∀ x ∈ cs, x.natAbs < 2 ^ 5000) ∧ cs.sum.natAbs < 2 ^ 5000 ∧
  (((cs.sum < 2 ∨ Builtin.bitAnd cs.sum (cs.sum - 1) ≠ 0) ∧ i = ts.length) ∨ (2 ≤ cs.sum ∧ Builtin.bitAnd cs.sum (cs.sum - 1) = 0 ∧ sumDue n ts p cs.sum cs = some i))
def spX_call_from_sum (K : PySem.W.Frag) (CN CT CW : Addr) : Sp := fun vs H Q E => ∃ (x tg p y : V) (op : Option Int) (B : Addr → Prop) (d : PyData), vs = [x, tg, p, y] ∧ IsI K H p op ∧ Dq B H y d ∧ RPl K CN CT E H x tg fun n od =>
  (between op 0 (n - 1) = false ∧ Rai E H CN "name" (.str "place")) ∨ (between op 0 (n - 1) = true ∧ n.natAbs < 2 ^ 4000 ∧ (∀ ds, od = some ds → ds.length ≤ 100) ∧
    ∀ (ts : List Int) (p : Int), od = some (ts.map PyData.int) → op = some p → ∃ i, CfsDue n ts p d i ∧ Rai E H CW "index" (.int i))
theorem okX_call_from_sum (T : TX K mg) : FnOk P w K mg base (L2.CX P w) 5 T.f_call_from_sum T.fd_call_from_sum ["size", "targets", "place", "counts"] (spX_call_from_sum K T.C_InvalidNumber T.C_InvalidTargets T.C_InvalidWitness) := by
  refine T.F_call_from_sum.okX sc_call_from_sum (fun vs H Q E h => ?_) (fun cdv A outer s H vs Q E hr h => ?_)
  · obtain ⟨x, tg, p, y, op, B, d, rfl, _⟩ := h
    rfl
  · obtain ⟨x, tg, p, y, op, B, d, rfl, hp, dq, h⟩ := h
    refine ⟨_, (pss_cons (ps_expr (pe_call (okX_require_places T) hr rfl T.m_require_places T.F_require_places.kp T.b_require_places .nil (passes_call (takes_of rfl rfl rfl rfl) (fun _ _ _ _ h => h)) (pa_cons (pv 0) (pa_cons (pv 1) pa_nil)))) (pss_cons (ps_expr (pe_call (okX_require_place T) (hr.mono (by decide)) rfl T.m_require_place T.F_require_place.kp T.b_require_place .nil (passes_call (takes_of rfl rfl rfl rfl) (fun _ _ _ _ h => h)) (pa_cons (pv 0) (pa_cons (pv 2) (pa_cons pe_str pa_nil))))) (pss_cons (ps_expr (pe_call (okX_require_counts T) (hr.mono (by decide)) rfl T.m_require_counts T.F_require_counts.kp T.b_require_counts .nil (passes_call (takes_of rfl rfl rfl rfl) (fun _ _ _ _ h => h)) (pa_cons (pv 1) (pa_cons (pv 3) pa_nil)))) (pss_cons (ps_set (i := 4) sc_call_from_sum.nd rfl (Or.inl rfl) (pe_callB (cr_sum rfl) (by rfl) T.z_sum (by decide +kernel) (pa_cons (pv 3) pa_nil))) (pss_cons (ps_if (PW.pt (pw_or (pt_cmpR op_lt (pv 4) pe_int (nomark _)) (pw_or1 (pt_cmpR op_ne (pe_op op_and (pv 4) (pe_op op_sub (pv 4) pe_int)) pe_int (nomark _))))) (pss_one (ps_raise rfl (takes_of rfl rfl rfl rfl) (pmk_oex T.ox_InvalidWitness T.i_InvalidWitness T.ti_InvalidWitness (ok_InvalidWitness_init T) (hr.mono (by decide)) T.b_InvalidWitness_init .nil pass0 rfl T.m_InvalidWitness (pa_cons (pe_callB call_len_seq (by rfl) T.z_len (by decide +kernel) (pa_cons (pv 1) pa_nil)) pa_nil)))) pss_nil) (pss_cons (ps_expr (pe_call (okX_require_sum T) (hr.mono (by decide)) rfl T.m_require_sum T.F_require_sum.kp T.b_require_sum .nil (passes_call (takes_of rfl rfl rfl rfl) (fun _ _ _ _ h => h)) (pa_cons (pv 0) (pa_cons (pv 1) (pa_cons (pv 2) (pa_cons (pv 3) (pa_cons (pv 4) pa_nil))))))) pss_never)))))), ?_⟩
    refine ⟨_, rfl, _, rfl, ?_⟩
    dsimp only [tNil, List.append_nil]
    refine rpl_use h fun n q ts ex eq n1 hq ne lts inr nod hr H1 e1 => ?_
    subst ex eq
    refine ⟨_, rfl, _, rfl, n, p, op, "place", rfl, hp.mono e1, fun zb => ?_, fun zb => ?_⟩
    rotate_left
    · rcases hr with ⟨_, r⟩ | ⟨z, _⟩
      · exact r.mono e1
      · rw [zb] at z
        cases z
    obtain ⟨_, nB, l100, kk⟩ := hr.resolve_left fun z => by
      rw [zb] at z
      cases z.1
    obtain ⟨pI, rfl⟩ : ∃ i, op = some i := by
      cases op with
      | none => cases zb
      | some i => exact ⟨i, rfl⟩
    obtain rfl : p = .int pI := hp
    have zb : (decide (0 ≤ pI) && decide (pI ≤ n - 1)) = true := zb
    rw [Bool.and_eq_true, decide_eq_true_iff, decide_eq_true_iff] at zb
    obtain ⟨i, due, rai⟩ := kk ts pI rfl rfl
    have l100 : ts.length ≤ 100 := by have := l100 _ rfl; rwa [List.length_map] at this
    refine ⟨_, rfl, _, rfl, B, q, y, ts, d, rfl, hq.mono e1, dq.mono e1, fun hn H2 e2 => ?_, fun j hj dd H2 e2 hdd => ?_⟩
    rotate_left
    · rcases due with z | ⟨cs, z, _⟩
      · rw [hj] at z
        cases z
        exact rai dd H2 (ext e1 e2) hdd
      · rw [hj] at z
        cases z
    rcases due with z | ⟨cs, _, rfl, bd, sB, due⟩
    · rw [hn] at z
      cases z
    have E2 := ext e1 e2
    obtain ⟨a, rfl, ha, _⟩ := dq.intsL
    obtain ⟨_, eq2, lc, pos, _⟩ := cnt_none hn
    refine ⟨_, rfl, a, cs, rfl, SqL.of (E2 _ _ ha), ?_⟩
    dsimp only [gName]
    refine ⟨_, rfl, _, _, rfl, rfl, _, rfl, ?_⟩
    by_cases c2 : cs.sum < 2
    · refine itt (decide_eq_true c2) ?_
      have ei : i = ts.length := by
        rcases due with ⟨_, z⟩ | ⟨z, _⟩
        · exact z
        · omega
      refine ⟨_, rfl, q.2, _, rfl, sq_or (hq.mono E2), by show 1 ≤ 1000; decide, fun ea na => ?_⟩
      rw [List.length_map]
      exact exc_made na fun dd H4 e4 hdd => rai dd H4 (ext E2 e4) (by rw [ei]; exact hdd)
    refine itf (decide_eq_false c2) ?_
    refine ⟨_, rfl, _, rfl, _, _, rfl, rfl, _, _, rfl, rfl, rfl, _, rfl, ?_⟩
    by_cases c3 : Builtin.bitAnd cs.sum (cs.sum - 1) = 0
    rotate_left
    · refine itt (by rw [dec_int]; simp; exact c3) ?_
      have ei : i = ts.length := by
        rcases due with ⟨_, z⟩ | ⟨_, z, _⟩
        · exact z
        · exact absurd z c3
      refine ⟨_, rfl, q.2, _, rfl, sq_or (hq.mono E2), by show 1 ≤ 1000; decide, fun ea na => ?_⟩
      rw [List.length_map]
      exact exc_made na fun dd H4 e4 hdd => rai dd H4 (ext E2 e4) (by rw [ei]; exact hdd)
    refine itf (by rw [dec_int]; simp; exact c3) ?_
    dsimp only [tNext]
    have ds : sumDue n ts pI cs.sum cs = some i := by
      rcases due with ⟨z, _⟩ | ⟨_, _, z⟩
      · exact absurd z (fun z => z.elim c2 (fun w => w c3))
      · exact z
    have bn : ∀ x : Int, 0 ≤ x → x < n → x.natAbs < 2 ^ 5000 := fun x h0 h1 => Nat.lt_of_lt_of_le (show x.natAbs < 2 ^ 4000 by omega) (Nat.pow_le_pow_right (by decide) (by decide))
    refine ⟨_, rfl, _, rfl, _, rfl, _, rfl, _, rfl, n, pI, cs.sum, q, a, ts, cs, rfl, n1, hq.mono E2, E2 _ _ ha, ?_, l100, bd, fun x hx => bn x (inr x hx).1 (inr x hx).2, sB, bn pI zb.1 (by omega), fun h H3 e3 => ?_, fun j hj dd H3 e3 hdd => ?_⟩
    · injection eq2 with eq2
      have := congrArg List.length eq2
      rw [List.length_map, List.length_map] at this
      omega
    · rw [ds] at h
      cases h
    · rw [ds] at hj
      cases hj
      exact rai dd H3 (ext E2 e3) hdd
end

def oddN (n : Nat) : Nat := if h : 0 < n ∧ n % 2 = 0 then oddN (n / 2) else n
termination_by n
decreasing_by omega
theorem odd_eq (n : Nat) : oddN n = if 0 < n ∧ n % 2 = 0 then oddN (n / 2) else n := by
  rw [oddN]
  split <;> rfl
theorem odd_ok : ∀ (m n : Nat), n ≤ m → 0 < n → (∃ k, n = 2 ^ k * oddN n) ∧ oddN n % 2 = 1 ∧ 0 < oddN n ∧ oddN n ≤ n
  | 0, n, h, p => by omega
  | m + 1, n, h, p => by
    rw [odd_eq]
    by_cases e : 0 < n ∧ n % 2 = 0
    · rw [if_pos e]
      obtain ⟨⟨k, hk⟩, a, b, c⟩ := odd_ok m (n / 2) (by omega) (by omega)
      refine ⟨⟨k + 1, ?_⟩, a, b, by omega⟩
      rw [Nat.pow_succ, Nat.mul_comm (2 ^ k), Nat.mul_assoc, ← hk]
      omega
    · rw [if_neg e]
      exact ⟨⟨0, by simp⟩, by omega, p, Nat.le_refl _⟩
def oddI (n : Int) : Int := (oddN n.toNat : Nat)
theorem pow2_inj : ∀ (k j : Nat) (a b : Int), a % 2 = 1 → b % 2 = 1 → 2 ^ k * a = 2 ^ j * b → a = b
  | 0, 0, a, b, _, _, h => by simpa using h
  | 0, j + 1, a, b, ha, _, h => by
    rw [Int.pow_succ, Int.mul_comm ((2 : Int) ^ j), Int.mul_assoc] at h
    simp at h
    omega
  | k + 1, 0, a, b, _, hb, h => by
    rw [Int.pow_succ, Int.mul_comm ((2 : Int) ^ k), Int.mul_assoc] at h
    simp at h
    omega
  | k + 1, j + 1, a, b, ha, hb, h => by
    rw [Int.pow_succ, Int.pow_succ, Int.mul_comm ((2 : Int) ^ k), Int.mul_comm ((2 : Int) ^ j), Int.mul_assoc, Int.mul_assoc] at h
    exact pow2_inj k j a b ha hb (by omega)
theorem oddI_ok {n : Int} (h : 1 ≤ n) : (∃ k : Nat, n = 2 ^ k * oddI n) ∧ oddI n % 2 = 1 ∧ 0 < oddI n ∧ oddI n ≤ n := by
  obtain ⟨⟨k, hk⟩, a, b, c⟩ := odd_ok n.toNat n.toNat (Nat.le_refl _) (by omega)
  refine ⟨⟨k, ?_⟩, by unfold oddI; omega, by unfold oddI; omega, by unfold oddI; omega⟩
  have : (n.toNat : Int) = ((2 ^ k * oddN n.toNat : Nat) : Int) := congrArg Nat.cast hk
  rw [Int.natCast_mul, Int.natCast_pow] at this
  unfold oddI
  rw [← show ((2 : Nat) : Int) = 2 from rfl, ← this]
  omega
theorem oddI_uniq {n o : Int} {k : Nat} (h : 1 ≤ n) (e : n = 2 ^ k * o) (ho : o % 2 = 1) : o = oddI n := by
  obtain ⟨⟨j, hj⟩, a, _, _⟩ := oddI_ok h
  exact pow2_inj k j o (oddI n) ho a (by rw [← e, ← hj])
theorem odd_pow2 {o x : Int} (h : o % 2 = 1) : ∀ k : Nat, o ∣ 2 ^ k * x → o ∣ x
  | 0, d => by simpa using d
  | k + 1, d => by
    refine odd_pow2 h k ?_
    rw [Int.pow_succ, Int.mul_comm ((2 : Int) ^ k), Int.mul_assoc] at d
    obtain ⟨c, hc⟩ := d
    refine ⟨2 ^ k * x - c * (o / 2), ?_⟩
    have e : o = 2 * (o / 2) + 1 := by omega
    generalize o / 2 = q at *
    subst e
    grind
theorem odd_dvd {n : Int} (h : 1 ≤ n) : oddI n ∣ n := by
  obtain ⟨⟨k, hk⟩, _⟩ := oddI_ok h
  conv => rhs; rw [hk]
  exact Int.dvd_mul_left _ _
theorem emod_dvd (a n : Int) : n ∣ a % n - a := ⟨-(a / n), by have := Int.mul_ediv_add_emod a n; grind⟩
theorem nodup_maps {α β : Type} {f : α → β} {l : List α} (hf : ∀ a ∈ l, ∀ b ∈ l, f a = f b → a = b) (h : l.Nodup) : (l.map f).Nodup := by
  induction l with
  | nil => simp
  | cons x l ih =>
    rw [List.nodup_cons] at h
    rw [List.map_cons, List.nodup_cons]
    refine ⟨fun hm => ?_, ih (fun a ha b hb => hf a (List.mem_cons_of_mem _ ha) b (List.mem_cons_of_mem _ hb)) h.2⟩
    obtain ⟨y, hy, e⟩ := List.mem_map.mp hm
    exact h.1 (hf y (List.mem_cons_of_mem _ hy) x List.mem_cons_self e ▸ hy)
def gcdL (n g0 : Int) (gs : List Int) : Int := gs.foldl (fun s g => gcdI s (g - g0)) n
theorem gcdI_dvd {x a b : Int} : x ∣ gcdI a b ↔ x ∣ a ∧ x ∣ b := by
  show x ∣ ((Int.gcd a b : Nat) : Int) ↔ _
  exact Int.dvd_coe_gcd_iff
theorem gcdL_dvd {x : Int} : ∀ {gs : List Int} {n g0 : Int}, x ∣ gcdL n g0 gs ↔ x ∣ n ∧ ∀ g ∈ gs, x ∣ g - g0
  | [], n, g0 => by simp [gcdL]
  | g :: gs, n, g0 => by
    show x ∣ gcdL (gcdI n (g - g0)) g0 gs ↔ _
    rw [gcdL_dvd, gcdI_dvd, List.forall_mem_cons, and_assoc]
theorem gcdL_pos : ∀ {gs : List Int} {n g0 : Int}, 1 ≤ n → 1 ≤ gcdL n g0 gs ∧ gcdL n g0 gs ≤ n
  | [], n, g0, h => ⟨h, Int.le_refl _⟩
  | g :: gs, n, g0, h => by
    show 1 ≤ gcdL (gcdI n (g - g0)) g0 gs ∧ gcdL (gcdI n (g - g0)) g0 gs ≤ n
    have p : 0 < Int.gcd n (g - g0) := Int.gcd_pos_of_ne_zero_left _ (by omega)
    have l : gcdI n (g - g0) ≤ n := Int.le_of_dvd (by omega) (Int.gcd_dvd_left _ _)
    have p2 : 1 ≤ gcdI n (g - g0) := by show (1 : Int) ≤ ((Int.gcd n (g - g0) : Nat) : Int); omega
    obtain ⟨a, b⟩ := gcdL_pos (gs := gs) (g0 := g0) p2
    exact ⟨a, Int.le_trans b l⟩
theorem in_ints (x : Int) (l : List Int) : inV (V.int x) (l.map V.int) = decide (x ∈ l) := by
  rw [Bool.eq_iff_iff, decide_eq_true_eq]
  unfold inV
  rw [List.any_map, List.any_eq_true]
  constructor
  · rintro ⟨y, hy, h⟩
    have h2 : y = x := by simpa [eqV] using h
    rw [← h2]
    exact hy
  · intro h
    exact ⟨x, h, by simp [eqV]⟩
theorem flat_ints (l : List Int) : (l.map V.int).all flatV = true := by
  rw [List.all_map, List.all_eq_true]
  exact fun x _ => rfl
theorem bez : ∀ (b a : Nat), ∃ x y : Int, (a : Int) * x + (b : Int) * y = ((Nat.gcd a b : Nat) : Int) := by
  intro b
  induction b using Nat.strongRecOn with
  | ind b ih =>
    intro a
    by_cases h : b = 0
    · subst h
      exact ⟨1, 0, by simp⟩
    · obtain ⟨x, y, e⟩ := ih (a % b) (Nat.mod_lt _ (by omega)) b
      refine ⟨y, x - (a / b : Nat) * y, ?_⟩
      rw [Nat.gcd_comm a b, Nat.gcd_rec b a, Nat.gcd_comm (a % b) b, ← e]
      have d : (a : Int) = (b : Int) * (a / b : Nat) + (a % b : Nat) := by
        have := Nat.div_add_mod a b
        rw [← Int.natCast_mul, ← Int.natCast_add, this]
      generalize ((a / b : Nat) : Int) = q at *
      generalize ((a % b : Nat) : Int) = r at *
      rw [d]
      grind
theorem inv_ex {u n : Int} (h0 : 0 ≤ u) (h1 : 0 ≤ n) (h : gcdI u n = 1) : ∃ v, n ∣ u * v - 1 := by
  obtain ⟨x, y, e⟩ := bez n.toNat u.toNat
  have g : Nat.gcd u.toNat n.toNat = 1 := by
    have h2 : Int.gcd u n = 1 := by
      have : ((Int.gcd u n : Nat) : Int) = 1 := h
      omega
    rw [← h2]
    show _ = Nat.gcd u.natAbs n.natAbs
    congr 1 <;> omega
  rw [g, Int.toNat_of_nonneg h0, Int.toNat_of_nonneg h1] at e
  exact ⟨x, -y, by have e2 : u * x + n * y = 1 := e; grind⟩

/-! ### sums of targets on a ring: plain -/
def SumsTo (ts : List Int) (k : Nat) (v : Int) : Prop := ∃ l : List Int, l.length = k ∧ (∀ x ∈ l, x ∈ ts) ∧ l.sum = v
/-- 2 ** c times the place is a sum of 2 ** c targets -/
def Hit (n : Int) (ts : List Int) (p : Int) (c : Nat) : Prop := ∃ v, SumsTo ts (2 ^ c) v ∧ n ∣ v - 2 ^ c * p
theorem SumsTo.add {ts : List Int} {a b : Nat} {u v : Int} (h : SumsTo ts a u) (g : SumsTo ts b v) : SumsTo ts (a + b) (u + v) := by
  obtain ⟨l, h1, h2, h3⟩ := h
  obtain ⟨m, g1, g2, g3⟩ := g
  exact ⟨l ++ m, by rw [List.length_append, h1, g1], fun x hx => (List.mem_append.mp hx).elim (h2 x) (g2 x), by rw [List.sum_append, h3, g3]⟩
theorem SumsTo.split {ts : List Int} {a b : Nat} {v : Int} (h : SumsTo ts (a + b) v) : ∃ u w, SumsTo ts a u ∧ SumsTo ts b w ∧ u + w = v := by
  obtain ⟨l, h1, h2, h3⟩ := h
  refine ⟨_, _, ⟨l.take a, by rw [List.length_take]; omega, fun x hx => h2 x (List.mem_of_mem_take hx), rfl⟩, ⟨l.drop a, by rw [List.length_drop]; omega, fun x hx => h2 x (List.mem_of_mem_drop hx), rfl⟩, ?_⟩
  rw [← List.sum_append, List.take_append_drop, h3]
theorem Hit.next {n p : Int} {ts : List Int} {c : Nat} (h : Hit n ts p c) : Hit n ts p (c + 1) := by
  obtain ⟨v, h1, h2⟩ := h
  refine ⟨v + v, by rw [Nat.pow_succ, Nat.mul_two]; exact h1.add h1, ?_⟩
  have := Int.dvd_add h2 h2
  refine (congrArg (n ∣ ·) ?_).mp this
  rw [Int.pow_succ]
  grind
theorem Hit.up {n p : Int} {ts : List Int} {c : Nat} (h : Hit n ts p c) : ∀ d, c ≤ d → Hit n ts p d := by
  intro d hd
  obtain ⟨e, rfl⟩ : ∃ e, d = c + e := ⟨d - c, by omega⟩
  clear hd
  induction e with
  | zero => exact h
  | succ e ih => exact ih.next
theorem lay_hit {n : Nat} (hn : 0 < n) {ts : List Int} (inr : ∀ t ∈ ts, 0 ≤ t ∧ t < (n : Int)) : ∀ (c q : Nat), (layN n ts c).testBit q = true ↔ q < n ∧ ∃ v, SumsTo ts (2 ^ c) v ∧ v % n = q
  | 0, q => by
    show (bitsN ts).testBit q = true ↔ _
    rw [bits_bit]
    constructor
    · rintro ⟨t, ht, e⟩
      obtain ⟨t0, t1⟩ := inr t ht
      exact ⟨by omega, t, ⟨[t], rfl, by simpa using ht, by simp⟩, by rw [Int.emod_eq_of_lt t0 t1]; omega⟩
    · rintro ⟨hq, v, ⟨l, h1, h2, h3⟩, e⟩
      match l, h1 with
      | [t], _ =>
        have ht := h2 t List.mem_cons_self
        obtain ⟨t0, t1⟩ := inr t ht
        have : v = t := by rw [← h3]; simp
        subst this
        rw [Int.emod_eq_of_lt t0 t1] at e
        exact ⟨v, ht, by omega⟩
  | c + 1, q => by
    show (dblN n (layN n ts c)).testBit q = true ↔ _
    rw [dbl_bit (lay_lt inr c)]
    constructor
    · rintro ⟨hq, a, b, ha, hb, ta, tb, e⟩
      obtain ⟨_, u, hu, eu⟩ := (lay_hit hn inr c a).mp ta
      obtain ⟨_, w, hw, ew⟩ := (lay_hit hn inr c b).mp tb
      refine ⟨hq, u + w, by rw [Nat.pow_succ, Nat.mul_two]; exact hu.add hw, ?_⟩
      rw [Int.add_emod, eu, ew, ← e]
      simp
    · rintro ⟨hq, v, hv, e⟩
      rw [Nat.pow_succ, Nat.mul_two] at hv
      obtain ⟨u, w, hu, hw, rfl⟩ := hv.split
      have n0 : (0 : Int) < n := by omega
      have u0 := Int.emod_nonneg u (show (n : Int) ≠ 0 by omega)
      have u1 := Int.emod_lt_of_pos u n0
      have w0 := Int.emod_nonneg w (show (n : Int) ≠ 0 by omega)
      have w1 := Int.emod_lt_of_pos w n0
      refine ⟨hq, (u % n).toNat, (w % n).toNat, by omega, by omega, (lay_hit hn inr c _).mpr ⟨by omega, u, hu, by omega⟩, (lay_hit hn inr c _).mpr ⟨by omega, w, hw, by omega⟩, ?_⟩
      have e2 : (((u % n).toNat + (w % n).toNat : Nat) : Int) % n = q := by
        rw [Int.natCast_add, Int.toNat_of_nonneg u0, Int.toNat_of_nonneg w0, ← Int.add_emod]
        exact e
      omega
theorem bit_hit {n p c : Nat} {ts : List Int} (hp : p < n) (inr : ∀ t ∈ ts, 0 ≤ t ∧ t < (n : Int)) : (layN n ts c).testBit (p * 2 ^ c % n) = true ↔ Hit n ts p c := by
  have hn : 0 < n := by omega
  rw [lay_hit hn inr]
  constructor
  · rintro ⟨_, v, hv, e⟩
    refine ⟨v, hv, emod_eq_iff.mp ?_⟩
    rw [e, Int.natCast_emod, Int.natCast_mul, Int.natCast_pow, Int.mul_comm]
    rfl
  · rintro ⟨v, hv, d⟩
    refine ⟨Nat.mod_lt _ hn, v, hv, ?_⟩
    rw [emod_eq_iff.mpr d, Int.natCast_emod, Int.natCast_mul, Int.natCast_pow, Int.mul_comm]
    rfl
/-- the least number of calls, at most B -/
def MinC (n : Int) (ts : List Int) (p : Int) (B : Nat) : Option Nat → Prop
  | some c => c ≤ B ∧ Hit n ts p c ∧ ∀ d, d < c → ¬ Hit n ts p d
  | none => ∀ d, d ≤ B → ¬ Hit n ts p d
theorem MinC.le {n p m q : Int} {ts us : List Int} {B C : Nat} {o u : Option Nat} (h : MinC n ts p B o) (g : MinC m us q C u) (e : ∀ c, Hit n ts p c → ∃ d, d ≤ c ∧ d ≤ C ∧ Hit m us q d) : ∀ c, o = some c → ∃ d, u = some d ∧ d ≤ c := by
  rintro c rfl
  obtain ⟨d, d1, d2, d3⟩ := e c h.2.1
  cases u with
  | none => exact absurd d3 (g d d2)
  | some f =>
    refine ⟨f, rfl, ?_⟩
    by_cases q : f ≤ d
    · omega
    · exact absurd d3 (g.2.2 d (by omega))
theorem MinC.same {n p m q : Int} {ts us : List Int} {B C : Nat} {o u : Option Nat} (h : MinC n ts p B o) (g : MinC m us q C u) (e1 : ∀ c, Hit n ts p c → ∃ d, d ≤ c ∧ d ≤ C ∧ Hit m us q d) (e2 : ∀ c, Hit m us q c → ∃ d, d ≤ c ∧ d ≤ B ∧ Hit n ts p d) : o = u := by
  cases o with
  | none =>
    cases u with
    | none => rfl
    | some d =>
      obtain ⟨f, hf, _⟩ := MinC.le g h e2 d rfl
      cases hf
  | some c =>
    obtain ⟨d, hd, d1⟩ := MinC.le h g e1 c rfl
    subst hd
    obtain ⟨f, hf, f1⟩ := MinC.le g h e2 d rfl
    cases hf
    congr 1
    omega
/-! ### the bound -/
def Rep (n : Int) (us : List Int) (x : Int) : Prop := ∃ l : List Int, (∀ y ∈ l, y ∈ us) ∧ n ∣ l.sum - x
theorem Rep.add {n x y : Int} {us : List Int} (h : Rep n us x) (g : Rep n us y) : Rep n us (x + y) := by
  obtain ⟨l, h1, h2⟩ := h
  obtain ⟨m, g1, g2⟩ := g
  refine ⟨l ++ m, fun z hz => (List.mem_append.mp hz).elim (h1 z) (g1 z), ?_⟩
  rw [List.sum_append]
  exact (congrArg (n ∣ ·) (by omega)).mp (Int.dvd_add h2 g2)
theorem Rep.zero {n : Int} {us : List Int} : Rep n us 0 := ⟨[], by simp, by simp⟩
theorem Rep.of {n x y : Int} {us : List Int} (h : Rep n us x) (e : n ∣ x - y) : Rep n us y := by
  obtain ⟨l, h1, h2⟩ := h
  exact ⟨l, h1, (congrArg (n ∣ ·) (by omega)).mp (Int.dvd_add h2 e)⟩
theorem Rep.nsmul {n x : Int} {us : List Int} (h : Rep n us x) : ∀ k : Nat, Rep n us ((k : Int) * x)
  | 0 => by simpa using Rep.zero
  | k + 1 => by
    have := (h.nsmul k).add h
    rwa [show ((k : Int) * x + x) = ((k + 1 : Nat) : Int) * x by rw [Int.natCast_add]; grind] at this
theorem Rep.mul {n x : Int} {us : List Int} (hn : 0 < n) (h : Rep n us x) (k : Int) : Rep n us (k * x) := by
  refine (h.nsmul (k % n).toNat).of ?_
  rw [Int.toNat_of_nonneg (Int.emod_nonneg _ (by omega))]
  have : n ∣ (k % n - k) * x := Int.dvd_mul_of_dvd_left (emod_dvd k n)
  exact (congrArg (n ∣ ·) (by grind)).mp this
theorem Rep.gcd {n x y : Int} {us : List Int} (hn : 0 < n) (h : Rep n us x) (g : Rep n us y) : Rep n us (gcdI x y) := by
  obtain ⟨a, b, e⟩ := bez y.natAbs x.natAbs
  have hx : ∃ c : Int, (x.natAbs : Int) = c * x := by
    by_cases q : 0 ≤ x
    · exact ⟨1, by omega⟩
    · exact ⟨-1, by omega⟩
  have hy : ∃ c : Int, (y.natAbs : Int) = c * y := by
    by_cases q : 0 ≤ y
    · exact ⟨1, by omega⟩
    · exact ⟨-1, by omega⟩
  obtain ⟨c, hc⟩ := hx
  obtain ⟨d, hd⟩ := hy
  rw [hc, hd] at e
  have := (h.mul hn (c * a)).add (g.mul hn (d * b))
  rw [show c * a * x + d * b * y = ((Nat.gcd x.natAbs y.natAbs : Nat) : Int) by rw [← e]; grind] at this
  exact this
theorem Rep.gcdL {n t0 : Int} {us : List Int} (hn : 0 < n) : ∀ {ts : List Int} {s : Int}, Rep n us s → (∀ t ∈ ts, Rep n us (t - t0)) → Rep n us (gcdL s t0 ts)
  | [], _, h, _ => h
  | t :: ts, s, h, g => by
    show Rep n us (CS.gcdL (gcdI s (t - t0)) t0 ts)
    exact Rep.gcdL hn (h.gcd hn (g t List.mem_cons_self)) fun x hx => g x (List.mem_cons_of_mem _ hx)
/-- prefixes -/
theorem rep_short {n x : Int} {us : List Int} (hn : 0 < n) (h : Rep n us x) : ∃ l : List Int, (∀ y ∈ l, y ∈ us) ∧ n ∣ l.sum - x ∧ l.length < n.toNat := by
  obtain ⟨l, h1, h2⟩ := h
  obtain ⟨m, hm⟩ : ∃ m, m = l.length := ⟨_, rfl⟩
  induction m using Nat.strongRecOn generalizing l with
  | ind m ih =>
    by_cases hl : l.length < n.toNat
    · exact ⟨l, h1, h2, hl⟩
    · -- two prefixes agree
      have key : ∃ i j, i < j ∧ j ≤ l.length ∧ n ∣ (l.take j).sum - (l.take i).sum := by
        refine Classical.byContradiction fun no => ?_
        have nod : ((List.range (l.length + 1)).map fun i => ((l.take i).sum % n).toNat).Nodup := by
          refine nodup_maps (fun a ha b hb e => ?_) List.nodup_range
          have a0 := Int.emod_nonneg (l.take a).sum (show n ≠ 0 by omega)
          have b0 := Int.emod_nonneg (l.take b).sum (show n ≠ 0 by omega)
          have e2 : (l.take a).sum % n = (l.take b).sum % n := by omega
          have al := List.mem_range.mp ha
          have bl := List.mem_range.mp hb
          by_cases q : a = b
          · exact q
          · exfalso
            by_cases q2 : a < b
            · exact no ⟨a, b, q2, by omega, emod_eq_iff.mp e2.symm⟩
            · exact no ⟨b, a, by omega, by omega, emod_eq_iff.mp e2⟩
        have := nod.length_le_of_subset (l₂ := List.range n.toNat) fun x hx => by
          obtain ⟨i, _, rfl⟩ := List.mem_map.mp hx
          have i0 := Int.emod_nonneg (l.take i).sum (show n ≠ 0 by omega)
          have i1 := Int.emod_lt_of_pos (l.take i).sum hn
          exact List.mem_range.mpr (by omega)
        rw [List.length_map, List.length_range, List.length_range] at this
        omega
      obtain ⟨i, j, ij, jl, d⟩ := key
      have len : (l.take i ++ l.drop j).length < m := by
        rw [List.length_append, List.length_take, List.length_drop, hm]
        omega
      refine ih _ len (l.take i ++ l.drop j) (fun y hy => ?_) ?_ rfl
      · rcases List.mem_append.mp hy with h | h
        · exact h1 y (List.mem_of_mem_take h)
        · exact h1 y (List.mem_of_mem_drop h)
      · have e : l.sum = (l.take j).sum + (l.drop j).sum := by rw [← List.sum_append, List.take_append_drop]
        rw [List.sum_append]
        have := Int.dvd_sub h2 d
        exact (congrArg (n ∣ ·) (by omega)).mp this
theorem sum_shift {t0 : Int} : ∀ l : List Int, (l.map fun x => x - t0).sum = l.sum - l.length * t0
  | [] => by simp
  | x :: l => by
    rw [List.map_cons, List.sum_cons, List.sum_cons, sum_shift l, List.length_cons, Int.natCast_add]
    grind
theorem sum_pad {t0 : Int} (k : Nat) : (List.replicate k t0).sum = k * t0 := by
  induction k with
  | zero => simp
  | succ k ih =>
    rw [List.replicate_succ, List.sum_cons, ih, Int.natCast_add]
    grind
theorem hit_bound {n p t0 : Int} {ts : List Int} {C : Nat} (hn : 0 < n) (ht : t0 ∈ ts) (hC : n < 2 ^ C) {c : Nat} (h : Hit n ts p c) : Hit n ts p C := by
  obtain ⟨v, ⟨l, l1, l2, l3⟩, d⟩ := h
  obtain ⟨G1, Gn⟩ := gcdL_pos (gs := ts) (g0 := t0) (show 1 ≤ n by omega)
  obtain ⟨dn, dts⟩ := (gcdL_dvd (gs := ts) (n := n) (g0 := t0)).mp (Int.dvd_refl _)
  have rep : Rep n (ts.map fun t => t - t0) (gcdL n t0 ts) := Rep.gcdL hn (Rep.zero.of (by simp)) fun t h => ⟨[t - t0], fun y hy => by rw [List.mem_singleton.mp hy]; exact List.mem_map.mpr ⟨t, h, rfl⟩, by simp⟩
  obtain ⟨⟨k, hk⟩, o1, o2, _⟩ := oddI_ok G1
  -- the gcd divides 2^c (p - t0)
  have dg : gcdL n t0 ts ∣ 2 ^ c * (p - t0) := by
    have q1 : gcdL n t0 ts ∣ (l.map fun x => x - t0).sum := by
      clear l1 l3 d
      induction l with
      | nil => simp
      | cons x l ih =>
        rw [List.map_cons, List.sum_cons]
        exact Int.dvd_add (dts x (l2 x List.mem_cons_self)) (ih fun y hy => l2 y (List.mem_cons_of_mem _ hy))
    rw [sum_shift, l3, l1, Int.natCast_pow] at q1
    have q2 := Int.dvd_trans dn d
    have := Int.dvd_sub q1 q2
    refine (congrArg (gcdL n t0 ts ∣ ·) ?_).mp this
    have e2 : ((2 : Nat) : Int) = 2 := rfl
    rw [e2]
    grind
  have dO : oddI (gcdL n t0 ts) ∣ p - t0 := by
    refine odd_pow2 o1 c (Int.dvd_trans ?_ dg)
    exact odd_dvd G1
  have kC : k ≤ C := by
    by_cases q : k ≤ C
    · exact q
    · exfalso
      have h1 : (2 : Int) ^ C ≤ 2 ^ k := by
        have : (2 : Nat) ^ C ≤ 2 ^ k := Nat.pow_le_pow_right (by decide) (by omega)
        exact_mod_cast this
      have h2 : (2 : Int) ^ k * 1 ≤ 2 ^ k * oddI (gcdL n t0 ts) := Int.mul_le_mul_of_nonneg_left (by omega) (by have := pow2_pos k; omega)
      rw [← hk] at h2
      omega
  have dC : gcdL n t0 ts ∣ 2 ^ C * (p - t0) := by
    rw [hk]
    refine Int.mul_dvd_mul ?_ dO
    exact ⟨2 ^ (C - k), by rw [← Int.pow_add]; congr 1; omega⟩
  obtain ⟨z, hz⟩ := dC
  have rep2 : Rep n (ts.map fun t => t - t0) (2 ^ C * (p - t0)) := by
    rw [hz, Int.mul_comm]
    exact rep.mul hn z
  obtain ⟨m, m1, m2, m3⟩ := rep_short hn rep2
  -- padded by the first target
  have mC : m.length ≤ 2 ^ C := by
    have : ((2 ^ C : Nat) : Int) = (2 : Int) ^ C := by simp
    omega
  refine ⟨_, ⟨(m.map fun x => x + t0) ++ List.replicate (2 ^ C - m.length) t0, ?_, fun x hx => ?_, rfl⟩, ?_⟩
  · rw [List.length_append, List.length_map, List.length_replicate]
    omega
  · rcases List.mem_append.mp hx with h | h
    · obtain ⟨y, hy, rfl⟩ := List.mem_map.mp h
      obtain ⟨t, ht2, rfl⟩ := List.mem_map.mp (m1 y hy)
      rw [show t - t0 + t0 = t by omega]
      exact ht2
    · rw [(List.mem_replicate.mp h).2]
      exact ht
  · rw [List.sum_append, sum_pad]
    have e1 : (m.map fun x => x + t0).sum = m.sum + m.length * t0 := by
      have := sum_shift (t0 := -t0) m
      rw [show (fun x : Int => x - -t0) = fun x => x + t0 from funext fun x => by omega] at this
      rw [this]
      grind
    rw [e1]
    refine (congrArg (n ∣ ·) ?_).mp m2
    have e2 : ((2 ^ C - m.length : Nat) : Int) = 2 ^ C - m.length := by
      have : ((2 ^ C : Nat) : Int) = (2 : Int) ^ C := by simp
      omega
    rw [e2]
    grind

theorem sums_map {m u s : Int} {ts us : List Int} (h : ∀ t ∈ ts, ∃ t' ∈ us, m ∣ t' - (u * t + s)) : ∀ l : List Int, (∀ x ∈ l, x ∈ ts) → ∃ l' : List Int, l'.length = l.length ∧ (∀ x ∈ l', x ∈ us) ∧ m ∣ l'.sum - (u * l.sum + l.length * s)
  | [], _ => ⟨[], rfl, by simp, by simp⟩
  | x :: l, hl => by
    obtain ⟨l', h1, h2, h3⟩ := sums_map h l fun y hy => hl y (List.mem_cons_of_mem _ hy)
    obtain ⟨t', t1, t2⟩ := h x (hl x List.mem_cons_self)
    refine ⟨t' :: l', by simp [h1], fun y hy => ?_, ?_⟩
    · rcases List.mem_cons.mp hy with rfl | hy
      · exact t1
      · exact h2 y hy
    · rw [List.sum_cons, List.sum_cons, List.length_cons, Int.natCast_add]
      have := Int.dvd_add t2 h3
      exact (congrArg (m ∣ ·) (by grind)).mp this
theorem hit_map {n m p q u s : Int} {ts us : List Int} {c : Nat} (hn : ∀ x, n ∣ x → m ∣ u * x) (ht : ∀ t ∈ ts, ∃ t' ∈ us, m ∣ t' - (u * t + s)) (hp : m ∣ q - (u * p + s)) (h : Hit n ts p c) : Hit m us q c := by
  obtain ⟨v, ⟨l, l1, l2, l3⟩, d⟩ := h
  obtain ⟨l', h1, h2, h3⟩ := sums_map ht l l2
  refine ⟨l'.sum, ⟨l', by rw [h1, l1], h2, rfl⟩, ?_⟩
  rw [l3, l1, Int.natCast_pow] at h3
  have e2 : ((2 : Nat) : Int) = 2 := rfl
  rw [e2] at h3
  have a := hn _ d
  have b : m ∣ 2 ^ c * (q - (u * p + s)) := Int.dvd_mul_of_dvd_right hp
  have := Int.dvd_sub (Int.dvd_add h3 a) b
  exact (congrArg (m ∣ ·) (by grind)).mp this
theorem hit_mul {n p k : Int} {ts : List Int} {c : Nat} (hk : 0 < k) : Hit (n * k) (ts.map fun t => t * k) (p * k) c ↔ Hit n ts p c := by
  constructor
  · rintro ⟨v, ⟨l, l1, l2, l3⟩, d⟩
    have key : ∀ l : List Int, (∀ x ∈ l, x ∈ ts.map fun t => t * k) → ∃ l' : List Int, l'.length = l.length ∧ (∀ x ∈ l', x ∈ ts) ∧ l.sum = l'.sum * k := by
      intro l
      induction l with
      | nil => exact fun _ => ⟨[], rfl, by simp, by simp⟩
      | cons x l ih =>
        intro hl
        obtain ⟨l', h1, h2, h3⟩ := ih fun y hy => hl y (List.mem_cons_of_mem _ hy)
        obtain ⟨t, ht, rfl⟩ := List.mem_map.mp (hl x List.mem_cons_self)
        refine ⟨t :: l', by simp [h1], fun y hy => ?_, ?_⟩
        · rcases List.mem_cons.mp hy with rfl | hy
          · exact ht
          · exact h2 y hy
        · rw [List.sum_cons, List.sum_cons, h3]
          grind
    obtain ⟨l', h1, h2, h3⟩ := key l l2
    refine ⟨l'.sum, ⟨l', by rw [h1, l1], h2, rfl⟩, ?_⟩
    rw [← l3, h3] at d
    have e : l'.sum * k - 2 ^ c * (p * k) = (l'.sum - 2 ^ c * p) * k := by grind
    rw [e] at d
    exact Int.dvd_of_mul_dvd_mul_right (by omega) d
  · intro h
    refine hit_map (u := k) (s := 0) (fun x hx => ?_) (fun t ht => ⟨t * k, List.mem_map.mpr ⟨t, ht, rfl⟩, ⟨0, by grind⟩⟩) ⟨0, by grind⟩ h
    rw [Int.mul_comm n]
    exact Int.mul_dvd_mul (Int.dvd_refl k) hx
theorem hit_shift {n p s : Int} {ts : List Int} {c : Nat} : Hit n (ts.map fun t => (t + s) % n) ((p + s) % n) c ↔ Hit n ts p c := by
  constructor
  · refine hit_map (u := 1) (s := -s) (fun x hx => by rw [Int.one_mul]; exact hx) (fun t ht => ?_) ?_
    · obtain ⟨x, hx, rfl⟩ := List.mem_map.mp ht
      refine ⟨x, hx, ?_⟩
      have := Int.dvd_neg.mpr (emod_dvd (x + s) n)
      exact (congrArg (n ∣ ·) (by omega)).mp this
    · have := Int.dvd_neg.mpr (emod_dvd (p + s) n)
      exact (congrArg (n ∣ ·) (by omega)).mp this
  · refine hit_map (u := 1) (s := s) (fun x hx => by rw [Int.one_mul]; exact hx) (fun t ht => ⟨_, List.mem_map.mpr ⟨t, ht, rfl⟩, ?_⟩) ?_
    · rw [Int.one_mul]
      exact emod_dvd _ _
    · rw [Int.one_mul]
      exact emod_dvd _ _
theorem hit_unit {n p u : Int} {ts : List Int} {c : Nat} (hn : 0 ≤ n) (u0 : 0 ≤ u) (hu : gcdI u n = 1) : Hit n (ts.map fun t => t * u % n) (p * u % n) c ↔ Hit n ts p c := by
  constructor
  · obtain ⟨v, hv⟩ := inv_ex u0 hn hu
    have back : ∀ x : Int, n ∣ x - (v * (x * u % n) + 0) := fun x => by
      have d1 : n ∣ v * (x * u % n - x * u) := Int.dvd_mul_of_dvd_right (emod_dvd _ _)
      have d2 : n ∣ (u * v - 1) * x := Int.dvd_mul_of_dvd_left hv
      have := Int.dvd_neg.mpr (Int.dvd_add d1 d2)
      exact (congrArg (n ∣ ·) (by grind)).mp this
    refine hit_map (u := v) (s := 0) (fun x hx => Int.dvd_mul_of_dvd_right hx) (fun t ht => ?_) (back p)
    obtain ⟨x, hx, rfl⟩ := List.mem_map.mp ht
    exact ⟨x, hx, back x⟩
  · have fwd : ∀ x : Int, n ∣ x * u % n - (u * x + 0) := fun x => by
      have := emod_dvd (x * u) n
      exact (congrArg (n ∣ ·) (by grind)).mp this
    exact hit_map (u := u) (s := 0) (fun x hx => Int.dvd_mul_of_dvd_right hx) (fun t ht => ⟨_, List.mem_map.mpr ⟨t, ht, rfl⟩, fwd t⟩) (fwd p)
theorem hit_sub {n p : Int} {ts us : List Int} {c : Nat} (hs : ∀ t ∈ ts, t ∈ us) (h : Hit n ts p c) : Hit n us p c := by
  obtain ⟨v, ⟨l, l1, l2, l3⟩, d⟩ := h
  exact ⟨v, ⟨l, l1, fun x hx => hs x (l2 x hx), l3⟩, d⟩
theorem hit_mid {n p d : Int} {ts : List Int} {c : Nat} (h1 : Hit n ts ((p + d) % n) c) (h2 : Hit n ts ((p - d) % n) c) : Hit n ts p (c + 1) := by
  obtain ⟨v, a1, a2⟩ := h1
  obtain ⟨w, b1, b2⟩ := h2
  refine ⟨v + w, by rw [Nat.pow_succ, Nat.mul_two]; exact a1.add b1, ?_⟩
  have q1 : n ∣ 2 ^ c * ((p + d) % n - (p + d)) := Int.dvd_mul_of_dvd_right (emod_dvd _ _)
  have q2 : n ∣ 2 ^ c * ((p - d) % n - (p - d)) := Int.dvd_mul_of_dvd_right (emod_dvd _ _)
  have := Int.dvd_add (Int.dvd_add a2 b2) (Int.dvd_add q1 q2)
  refine (congrArg (n ∣ ·) ?_).mp this
  rw [Int.pow_succ]
  grind
/-! ### two targets -/
theorem sums_two {a b : Int} : ∀ (l : List Int), (∀ x ∈ l, x ∈ [a, b]) → ∃ j : Nat, j ≤ l.length ∧ l.sum = (l.length : Int) * a + j * (b - a)
  | [], _ => ⟨0, by simp, by simp⟩
  | x :: l, h => by
    obtain ⟨j, j1, j2⟩ := sums_two l fun y hy => h y (List.mem_cons_of_mem _ hy)
    have hx := h x List.mem_cons_self
    simp only [List.mem_cons, List.not_mem_nil, or_false] at hx
    rcases hx with rfl | rfl
    · exact ⟨j, by simp; omega, by rw [List.sum_cons, j2, List.length_cons, Int.natCast_add]; grind⟩
    · exact ⟨j + 1, by simp; omega, by rw [List.sum_cons, j2, List.length_cons, Int.natCast_add, Int.natCast_add]; grind⟩
theorem hit_two {n a b p : Int} {e : Nat} : Hit n [a, b] p e ↔ ∃ j : Nat, j ≤ 2 ^ e ∧ n ∣ (j : Int) * (b - a) - 2 ^ e * (p - a) := by
  constructor
  · rintro ⟨v, ⟨l, l1, l2, l3⟩, d⟩
    obtain ⟨j, j1, j2⟩ := sums_two l l2
    refine ⟨j, by omega, ?_⟩
    rw [← l3, j2, l1, Int.natCast_pow] at d
    have e2 : ((2 : Nat) : Int) = 2 := rfl
    rw [e2] at d
    exact (congrArg (n ∣ ·) (by grind)).mp d
  · rintro ⟨j, j1, d⟩
    refine ⟨_, ⟨List.replicate (2 ^ e - j) a ++ List.replicate j b, by simp; omega, fun x hx => ?_, rfl⟩, ?_⟩
    · rcases List.mem_append.mp hx with h | h
      · rw [(List.mem_replicate.mp h).2]
        exact List.mem_cons_self
      · rw [(List.mem_replicate.mp h).2]
        exact List.mem_cons_of_mem _ List.mem_cons_self
    · rw [List.sum_append, sum_pad, sum_pad]
      have e2 : ((2 ^ e - j : Nat) : Int) = 2 ^ e - j := by
        have : ((2 ^ e : Nat) : Int) = (2 : Int) ^ e := by simp
        omega
      rw [e2]
      exact (congrArg (n ∣ ·) (by grind)).mp d
theorem two_iff {n a b p f : Int} (hn : 0 < n) (hf : (b - a) % n / gcdI ((b - a) % n) n * f % (n / gcdI ((b - a) % n) n) = 1 % (n / gcdI ((b - a) % n) n)) (e : Nat) :
    Hit n [a, b] p e ↔ (p - a) % n * 2 ^ e % gcdI ((b - a) % n) n = 0 ∧ (p - a) % n * 2 ^ e / gcdI ((b - a) % n) n * f % (n / gcdI ((b - a) % n) n) ≤ 2 ^ e := by
  have G0 : 0 < gcdI ((b - a) % n) n := by
    have := gcd_pos2 (p := (b - a) % n) (n := n) (by omega)
    show (0 : Int) < ((Int.gcd ((b - a) % n) n : Nat) : Int)
    omega
  have Gn : gcdI ((b - a) % n) n ∣ n := Int.gcd_dvd_right _ _
  have Gg : gcdI ((b - a) % n) n ∣ (b - a) % n := Int.gcd_dvd_left _ _
  have cong : ∀ j : Int, n ∣ j * (b - a) - 2 ^ e * (p - a) ↔ n ∣ j * ((b - a) % n) - (p - a) % n * 2 ^ e := fun j => by
    have q1 : n ∣ j * ((b - a) % n - (b - a)) := Int.dvd_mul_of_dvd_right (emod_dvd _ _)
    have q2 : n ∣ 2 ^ e * ((p - a) % n - (p - a)) := Int.dvd_mul_of_dvd_right (emod_dvd _ _)
    constructor
    · intro h
      have := Int.dvd_sub (Int.dvd_add h q1) q2
      exact (congrArg (n ∣ ·) (by grind)).mp this
    · intro h
      have := Int.dvd_add (Int.dvd_sub h q1) q2
      exact (congrArg (n ∣ ·) (by grind)).mp this
  generalize (b - a) % n = g at *
  generalize (p - a) % n = d at *
  generalize gcdI g n = G at *
  obtain ⟨N, rfl⟩ := Gn
  obtain ⟨h, rfl⟩ := Gg
  have N0 : 0 < N := by
    by_cases q : 0 < N
    · exact q
    · have := Int.mul_nonneg (show 0 ≤ G by omega) (show 0 ≤ -N by omega)
      rw [Int.mul_neg] at this
      omega
  rw [Int.mul_ediv_cancel_left _ (by omega), Int.mul_ediv_cancel_left _ (by omega)] at hf
  rw [Int.mul_ediv_cancel_left _ (by omega), hit_two]
  have hf2 : N ∣ h * f - 1 := emod_eq_iff.mp hf
  constructor
  · rintro ⟨j, j1, dj⟩
    have dj := (cong j).mp dj
    have gd : G ∣ d * 2 ^ e := by
      have q1 : G ∣ (j : Int) * (G * h) := Int.dvd_mul_of_dvd_right (Int.dvd_mul_right _ _)
      have q2 : G ∣ (j : Int) * (G * h) - d * 2 ^ e := Int.dvd_trans (Int.dvd_mul_right _ _) dj
      have := Int.dvd_sub q1 q2
      exact (congrArg (G ∣ ·) (by omega)).mp this
    refine ⟨Int.emod_eq_zero_of_dvd gd, ?_⟩
    obtain ⟨X, hX⟩ := gd
    rw [hX, Int.mul_ediv_cancel_left _ (by omega)]
    rw [hX] at dj
    have dj2 : G * N ∣ G * ((j : Int) * h - X) := (congrArg (G * N ∣ ·) (by grind)).mp dj
    have dj3 : N ∣ (j : Int) * h - X := Int.dvd_of_mul_dvd_mul_left (by omega) dj2
    have q : N ∣ X * f - j := by
      have q1 : N ∣ ((j : Int) * h - X) * f := Int.dvd_mul_of_dvd_left dj3
      have q2 : N ∣ (j : Int) * (h * f - 1) := Int.dvd_mul_of_dvd_right hf2
      have := Int.dvd_sub q2 q1
      exact (congrArg (N ∣ ·) (by grind)).mp this
    rw [emod_eq_iff.mpr q]
    have d1 := Int.mul_ediv_add_emod (j : Int) N
    have d2 := Int.mul_nonneg (show 0 ≤ N by omega) (Int.ediv_nonneg (show (0 : Int) ≤ j by omega) (show 0 ≤ N by omega))
    have e2 : ((2 ^ e : Nat) : Int) = (2 : Int) ^ e := by simp
    omega
  · rintro ⟨h1, h2⟩
    obtain ⟨X, hX⟩ := Int.dvd_of_emod_eq_zero h1
    rw [hX, Int.mul_ediv_cancel_left _ (by omega)] at h2
    have x0 := Int.emod_nonneg (X * f) (show N ≠ 0 by omega)
    have e2 : ((2 ^ e : Nat) : Int) = (2 : Int) ^ e := by simp
    refine ⟨(X * f % N).toNat, by omega, (cong _).mpr ?_⟩
    rw [Int.toNat_of_nonneg x0, hX]
    have q1 : N ∣ (X * f % N - X * f) * h := Int.dvd_mul_of_dvd_left (emod_dvd _ _)
    have q2 : N ∣ X * (h * f - 1) := Int.dvd_mul_of_dvd_right hf2
    have q3 := Int.dvd_add q1 q2
    have q4 : G * N ∣ G * ((X * f % N - X * f) * h + X * (h * f - 1)) := Int.mul_dvd_mul (Int.dvd_refl G) q3
    exact (congrArg (G * N ∣ ·) (by grind)).mp q4
theorem bits_gt {n : Int} (h : 0 < n) : n < 2 ^ Builtin.Int.intBits n := by
  unfold Builtin.Int.intBits
  rw [if_neg (by simp; omega)]
  have := Nat.lt_log2_self (n := n.natAbs)
  have e : ((2 ^ (n.natAbs.log2 + 1) : Nat) : Int) = (2 : Int) ^ (n.natAbs.log2 + 1) := by simp
  omega
theorem two_min {n a b p f : Int} {c : Nat} (hn : 0 < n) (hf : (b - a) % n / gcdI ((b - a) % n) n * f % (n / gcdI ((b - a) % n) n) = 1 % (n / gcdI ((b - a) % n) n)) (h : TwoOk n ((b - a) % n) ((p - a) % n) f c) : MinC n [a, b] p (Builtin.Int.intBits n) (some c) := by
  refine ⟨?_, (two_iff hn hf c).mpr ⟨h.dv, h.le⟩, fun e he hit => ?_⟩
  · rcases h.least with z | ⟨z, _⟩
    · omega
    · have h1 := bits_gt hn
      by_cases q : c ≤ Builtin.Int.intBits n
      · exact q
      · exfalso
        have : (2 : Nat) ^ Builtin.Int.intBits n ≤ 2 ^ (c - 1) := Nat.pow_le_pow_right (by decide) (by omega)
        have e1 : ((2 ^ Builtin.Int.intBits n : Nat) : Int) = (2 : Int) ^ Builtin.Int.intBits n := by simp
        have e2 : ((2 ^ (c - 1) : Nat) : Int) = (2 : Int) ^ (c - 1) := by simp
        omega
  · rcases h.least with z | ⟨_, z⟩
    · omega
    · obtain ⟨q1, q2⟩ := (two_iff hn hf (c - 1)).mp (hit.up (c - 1) (by omega))
      rcases z with z | z
      · exact z q1
      · omega
theorem two_none {n a b p o : Int} {k : Nat} (hn : 0 < n) (he : gcdI ((b - a) % n) n = 2 ^ k * o) (ho : o % 2 = 1) (hd : ¬ (p - a) % n % o = 0) : ∀ e, ¬ Hit n [a, b] p e := fun e hit => by
  obtain ⟨j, _, d⟩ := hit_two.mp hit
  have Gn : gcdI ((b - a) % n) n ∣ n := Int.gcd_dvd_right _ _
  have Gg : gcdI ((b - a) % n) n ∣ (b - a) % n := Int.gcd_dvd_left _ _
  have on : o ∣ gcdI ((b - a) % n) n := by rw [he]; exact Int.dvd_mul_left _ _
  have o1 : o ∣ n := Int.dvd_trans on Gn
  have o2 : o ∣ b - a := by
    have := Int.dvd_sub (Int.dvd_trans on Gg) (Int.dvd_trans o1 (emod_dvd (b - a) n))
    exact (congrArg (o ∣ ·) (by omega)).mp this
  have o3 : o ∣ 2 ^ e * (p - a) := by
    have q1 : o ∣ (j : Int) * (b - a) := Int.dvd_mul_of_dvd_right o2
    have := Int.dvd_sub q1 (Int.dvd_trans o1 d)
    exact (congrArg (o ∣ ·) (by omega)).mp this
  have o4 := odd_pow2 ho e o3
  apply hd
  refine Int.emod_eq_zero_of_dvd ?_
  have := Int.dvd_add (Int.dvd_trans o1 (emod_dvd (p - a) n)) o4
  exact (congrArg (o ∣ ·) (by omega)).mp this

/-! ### amounts by places, as sum_counts halves them -/
abbrev entZ (x : Int × Int) : Key × V := (Sum.inl x.1, V.int x.2)
def getA (A : List (Int × Int)) (k : Int) : Option Int := (A.find? fun x => decide (x.1 = k)).map fun x => x.2
def putA (A : List (Int × Int)) (k v : Int) : List (Int × Int) := if (A.any fun x => decide (x.1 = k)) = true then A.map (fun x => if x.1 = k then (x.1, v) else x) else A ++ [(k, v)]
def sumA (A : List (Int × Int)) : Int := (A.map fun x => x.2).sum
def momA (A : List (Int × Int)) : Int := (A.map fun x => x.1 * x.2).sum
theorem val_entZ (k : Int) : ∀ A : List (Int × Int), valV (A.map entZ) (.inl k) = (getA A k).map V.int
  | [] => rfl
  | f :: A => by
    have ih := val_entZ k A
    rw [List.map_cons]
    unfold getA at ih ⊢
    rw [List.find?_cons]
    by_cases c : f.1 = k
    · rw [valV_pos (show Sum.inl f.1 = Sum.inl k by rw [c]), decide_eq_true c]
      rfl
    · rw [valV_neg (fun z => c (Sum.inl.inj z)), ih, decide_eq_false c]
theorem put_entZ (A : List (Int × Int)) (k v : Int) : putK (A.map entZ) (.inl k) (V.int v) = (putA A k v).map entZ := by
  have e : ((A.map entZ).any fun kv => decide (kv.1 = (Sum.inl k : Key))) = A.any fun x => decide (x.1 = k) := by
    rw [List.any_map]
    congr 1
    funext x
    show decide ((Sum.inl x.1 : Key) = Sum.inl k) = decide (x.1 = k)
    by_cases c : x.1 = k
    · simp [c]
    · simp [c]
  unfold putK putA
  rw [e]
  by_cases c : (A.any fun x => decide (x.1 = k)) = true
  · rw [if_pos c, if_pos c, List.map_map, List.map_map]
    refine List.map_congr_left fun x _ => ?_
    show (if (Sum.inl x.1 : Key) = Sum.inl k then ((Sum.inl x.1 : Key), V.int v) else (Sum.inl x.1, V.int x.2)) = entZ (if x.1 = k then (x.1, v) else x)
    by_cases h : x.1 = k
    · rw [if_pos h, if_pos (by rw [h])]
    · rw [if_neg h, if_neg fun z => h (Sum.inl.inj z)]
  · rw [if_neg c, if_neg c, List.map_append]
    rfl
theorem any_key (A : List (Int × Int)) (k : Int) : (A.any fun x => decide (x.1 = k)) = true ↔ k ∈ A.map fun x => x.1 := by
  rw [List.any_eq_true, List.mem_map]
  constructor
  · rintro ⟨x, h1, h2⟩
    exact ⟨x, h1, of_decide_eq_true h2⟩
  · rintro ⟨x, h1, h2⟩
    exact ⟨x, h1, decide_eq_true h2⟩
theorem put_sum {k a : Int} : ∀ {A : List (Int × Int)}, (A.map fun x => x.1).Nodup → sumA (putA A k ((getA A k).getD 0 + a)) = sumA A + a ∧ momA (putA A k ((getA A k).getD 0 + a)) = momA A + k * a := by
  intro A nd
  by_cases c : (A.any fun x => decide (x.1 = k)) = true
  · have key : ∀ B : List (Int × Int), (B.map fun x => x.1).Nodup → k ∈ B.map (fun x => x.1) → ∀ v : Int, sumA (B.map fun x => if x.1 = k then (x.1, v) else x) = sumA B + (v - (getA B k).getD 0) ∧ momA (B.map fun x => if x.1 = k then (x.1, v) else x) = momA B + k * (v - (getA B k).getD 0) := fun B => by
      induction B with
      | nil => exact fun _ h => by simp at h
      | cons f B ih =>
        intro nd hm v
        rw [List.map_cons, List.nodup_cons] at nd
        unfold getA sumA momA at ih ⊢
        rw [List.find?_cons]
        by_cases h : f.1 = k
        · have no : ∀ x ∈ B, (if x.1 = k then (x.1, v) else x) = x := fun x hx => by
            rw [if_neg]
            intro z
            exact nd.1 (List.mem_map.mpr ⟨x, hx, z.trans h.symm⟩)
          rw [List.map_cons, if_pos h, List.map_congr_left no, List.map_id', decide_eq_true h]
          simp only [List.map_cons, List.sum_cons, Option.map_some, Option.getD_some]
          rw [h]
          constructor
          · omega
          · rw [Int.mul_sub]
            omega
        · have hm2 : k ∈ B.map fun x => x.1 := by
            rcases List.mem_cons.mp hm with z | z
            · exact absurd z.symm h
            · exact z
          obtain ⟨i1, i2⟩ := ih nd.2 hm2 v
          rw [List.map_cons, if_neg h, decide_eq_false h]
          simp only [List.map_cons, List.sum_cons]
          constructor
          · rw [i1]
            omega
          · rw [i2]
            omega
    obtain ⟨q1, q2⟩ := key A nd ((any_key A k).mp c) ((getA A k).getD 0 + a)
    unfold putA
    rw [if_pos c]
    exact ⟨by rw [q1]; omega, by rw [q2]; congr 1; congr 1; omega⟩
  · have g0 : getA A k = none := by
      unfold getA
      rw [Option.map_eq_none_iff, List.find?_eq_none]
      intro x hx z
      exact c (List.any_eq_true.mpr ⟨x, hx, z⟩)
    unfold putA
    rw [if_neg c, g0]
    unfold sumA momA
    simp
theorem put_keys {A : List (Int × Int)} {k v : Int} (nd : (A.map fun x => x.1).Nodup) : ((putA A k v).map fun x => x.1).Nodup ∧ (∀ x ∈ putA A k v, x.1 = k ∧ x.2 = v ∨ x ∈ A) := by
  unfold putA
  by_cases c : (A.any fun x => decide (x.1 = k)) = true
  · rw [if_pos c]
    constructor
    · rw [List.map_map, show ((fun x : Int × Int => x.1) ∘ fun x => if x.1 = k then (x.1, v) else x) = fun x => x.1 from by
        funext x
        show (if x.1 = k then (x.1, v) else x).1 = x.1
        split <;> rfl]
      exact nd
    · intro x hx
      obtain ⟨y, hy, rfl⟩ := List.mem_map.mp hx
      by_cases h : y.1 = k
      · rw [if_pos h]
        exact .inl ⟨h, rfl⟩
      · rw [if_neg h]
        exact .inr hy
  · rw [if_neg c]
    constructor
    · rw [List.map_append, List.nodup_append]
      refine ⟨nd, by simp, fun a ha b hb z => ?_⟩
      have hb2 : b = k := by simpa using hb
      exact c ((any_key A k).mpr (by rw [← hb2, ← z]; exact ha))
    · intro x hx
      rcases List.mem_append.mp hx with h | h
      · exact .inr h
      · rw [List.mem_singleton.mp h]
        exact .inl ⟨rfl, rfl⟩
theorem getA_mem {A : List (Int × Int)} {k v : Int} (h : getA A k = some v) : (k, v) ∈ A := by
  unfold getA at h
  obtain ⟨x, h1, h2⟩ := Option.map_eq_some_iff.mp h
  have h3 := List.mem_of_find?_eq_some h1
  have h4 := List.find?_some h1
  have h5 : x.1 = k := of_decide_eq_true h4
  rw [← h5, ← h2]
  exact h3
/-- amounts on places of a set: their sum, and their sum weighted by the places -/
structure AOk (n B : Nat) (A : List (Int × Int)) (t m : Int) : Prop where
  nod : (A.map fun x => x.1).Nodup
  ok : ∀ x ∈ A, 0 ≤ x.1 ∧ x.1 < n ∧ B.testBit x.1.toNat = true ∧ 0 ≤ x.2
  sum : sumA A = t
  mom : (n : Int) ∣ momA A - m
theorem AOk.put {n B : Nat} {A : List (Int × Int)} {t m k a : Int} (h : AOk n B A t m) (k0 : 0 ≤ k) (k1 : k < n) (kb : B.testBit k.toNat = true) (a0 : 0 ≤ a) : AOk n B (putA A k ((getA A k).getD 0 + a)) (t + a) (m + k * a) := by
  obtain ⟨s1, s2⟩ := put_sum (k := k) (a := a) h.nod
  obtain ⟨p1, p2⟩ := put_keys (k := k) (v := (getA A k).getD 0 + a) h.nod
  have g0 : 0 ≤ (getA A k).getD 0 := by
    cases e : getA A k with
    | none => exact Int.le_refl _
    | some v => exact (h.ok _ (getA_mem e)).2.2.2
  refine ⟨p1, fun x hx => ?_, by rw [s1, h.sum], ?_⟩
  · rcases p2 x hx with ⟨e1, e2⟩ | hx
    · rw [e1, e2]
      exact ⟨k0, k1, kb, by omega⟩
    · exact h.ok x hx
  · rw [s2]
    exact (congrArg ((n : Int) ∣ ·) (by omega)).mp h.mom
theorem AOk.len {n B : Nat} {A : List (Int × Int)} {t m : Int} (h : AOk n B A t m) : A.length ≤ n := by
  have := List.Nodup.length_le_of_subset h.nod (l₂ := (List.range n).map fun (i : Nat) => (i : Int)) fun p hp => by
    obtain ⟨x, hx, rfl⟩ := List.mem_map.mp hp
    obtain ⟨h1, h2, _⟩ := h.ok x hx
    exact List.mem_map.mpr ⟨x.1.toNat, List.mem_range.mpr (by omega), by omega⟩
  simpa using this
theorem AOk.to {n B : Nat} {A : List (Int × Int)} {t u m r : Int} (h : AOk n B A t m) (e : t = u) (d : (n : Int) ∣ m - r) : AOk n B A u r := ⟨h.nod, h.ok, h.sum.trans e, by
  have := Int.dvd_add h.mom d
  exact (congrArg ((n : Int) ∣ ·) (by omega)).mp this⟩

theorem and_cast (a b : Nat) : Builtin.bitAnd (a : Int) (b : Int) = ((a &&& b : Nat) : Int) := by
  unfold Builtin.bitAnd
  simp
theorem low_bit {W : Nat} (h : 0 < W) : ∃ j, Builtin.bitAnd (W : Int) (-(W : Int)) = 2 ^ j ∧ W.testBit j = true := by
  obtain ⟨j, a, e⟩ := odd_split W (W : Int) (by omega) (by simp)
  refine ⟨j, ?_, ?_⟩
  · rw [e]
    exact PySem.W.kbt_low j a
  · have p2 : (0 : Int) < 2 ^ j := Int.pow_pos (by decide)
    have a0 : 0 ≤ a := by
      refine Classical.byContradiction fun no => ?_
      have : (2 : Int) ^ j * (2 * a + 1) ≤ 2 ^ j * 0 := Int.mul_le_mul_of_nonneg_left (by omega) (by omega)
      omega
    have e2 : W = 2 ^ j * (2 * a.toNat + 1) := by
      have h2 : ((2 ^ j * (2 * a.toNat + 1) : Nat) : Int) = 2 ^ j * (2 * a + 1) := by
        rw [Int.natCast_mul, Int.natCast_pow, Int.natCast_add, Int.natCast_mul, Int.toNat_of_nonneg a0]
        rfl
      have : ((2 ^ j * (2 * a.toNat + 1) : Nat) : Int) = (W : Int) := h2.trans e.symm
      omega
    rw [Nat.testBit_eq_decide_div_mod_eq, e2, Nat.mul_div_cancel_left _ (Nat.pow_pos (by decide))]
    exact decide_eq_true (by omega)
theorem bits_pow (j : Nat) : Builtin.Int.intBits (2 ^ j) = j + 1 := by
  unfold Builtin.Int.intBits
  have h : (2 ^ j : Int).natAbs = 2 ^ j := by rw [Int.natAbs_pow]; rfl
  have p2 : (0 : Int) < 2 ^ j := Int.pow_pos (by decide)
  rw [if_neg (by simp; omega), h, Nat.log2_two_pow]
/-- the places mirrored -/
def mirN (n B : Nat) : List Int := ((List.range n).filter fun p => B.testBit p).map fun (p : Nat) => (-(p : Int)) % n
theorem mir_bit {n B q : Nat} : (bitsN (mirN n B)).testBit q = true ↔ ∃ p, p < n ∧ B.testBit p = true ∧ ((-(p : Int)) % n).toNat = q := by
  rw [bits_bit]
  unfold mirN
  constructor
  · rintro ⟨t, ht, e⟩
    obtain ⟨p, hp, rfl⟩ := List.mem_map.mp ht
    obtain ⟨h1, h2⟩ := List.mem_filter.mp hp
    exact ⟨p, List.mem_range.mp h1, h2, e⟩
  · rintro ⟨p, h1, h2, h3⟩
    exact ⟨_, List.mem_map.mpr ⟨p, List.mem_filter.mpr ⟨List.mem_range.mpr h1, h2⟩, rfl⟩, h3⟩
theorem mir_lt {n B : Nat} (n0 : 0 < n) : ∀ t ∈ mirN n B, 0 ≤ t ∧ t < (n : Int) := fun t ht => by
  obtain ⟨p, _, rfl⟩ := List.mem_map.mp ht
  exact ⟨Int.emod_nonneg _ (by omega), Int.emod_lt_of_pos _ (by omega)⟩
/-- the first of a pair of places with a given sum -/
theorem pair_of {n B t : Nat} (n0 : 0 < n) (hB : B < 2 ^ n) (ht : (dblN n B).testBit t = true) : ∃ j, Builtin.bitAnd ((B &&& rotN n (bitsN (mirN n B)) t : Nat) : Int) (-((B &&& rotN n (bitsN (mirN n B)) t : Nat) : Int)) = 2 ^ j ∧ j < n ∧ B.testBit j = true ∧ B.testBit (((t : Int) - j) % n).toNat = true := by
  have hM : bitsN (mirN n B) < 2 ^ n := bits_lt fun x hx => by
    have := mir_lt (B := B) n0 x hx
    omega
  obtain ⟨tn, a, b, an, bn, ha, hb, e⟩ := (dbl_bit hB).mp ht
  have rot : ∀ q, (rotN n (bitsN (mirN n B)) t).testBit q = true ↔ q < n ∧ ∃ p, p < n ∧ B.testBit p = true ∧ ((t : Int) - q) % n = p := fun q => by
    rw [rot_bit hM tn]
    constructor
    · rintro ⟨h1, x, xn, hx, ex⟩
      obtain ⟨p, pn, hp, ep⟩ := mir_bit.mp hx
      refine ⟨h1, p, pn, hp, ?_⟩
      have e1 : (x : Int) = (-(p : Int)) % n := by
        rw [← ep]
        exact Int.toNat_of_nonneg (Int.emod_nonneg _ (by omega))
      have e2 : ((x : Int) + t) % n = q := by
        have := congrArg (fun z : Nat => (z : Int)) ex
        simpa using this
      have e3 : ((t : Int) - q) % n = (p : Int) % n := by
        refine emod_eq_iff.mpr ?_
        have h2 : (n : Int) ∣ ((x : Int) + t) - q := by
          rw [← e2]
          have := Int.dvd_neg.mpr (emod_dvd ((x : Int) + t) (n : Int))
          exact (congrArg ((n : Int) ∣ ·) (by omega)).mp this
        have h3 : (n : Int) ∣ (x : Int) - (-(p : Int)) := by
          rw [e1]
          exact emod_dvd _ _
        have := Int.dvd_sub h2 h3
        exact (congrArg ((n : Int) ∣ ·) (by omega)).mp this
      rw [e3, Int.emod_eq_of_lt (by omega) (by omega)]
    · rintro ⟨h1, p, pn, hp, ep⟩
      refine ⟨h1, ((-(p : Int)) % n).toNat, ?_, mir_bit.mpr ⟨p, pn, hp, rfl⟩, ?_⟩
      · have h2 := Int.emod_nonneg (-(p : Int)) (show (n : Int) ≠ 0 by omega)
        have h3 := Int.emod_lt_of_pos (-(p : Int)) (show (0 : Int) < n by omega)
        omega
      · have e1 : ((((-(p : Int)) % n).toNat : Nat) : Int) = (-(p : Int)) % n := Int.toNat_of_nonneg (Int.emod_nonneg _ (by omega))
        have e2 : (((((-(p : Int)) % n).toNat + t) % n : Nat) : Int) = (q : Int) := by
          rw [Int.natCast_emod, Int.natCast_add, e1]
          have h2 : ((-(p : Int)) % n + t) % n = (q : Int) % n := by
            refine emod_eq_iff.mpr ?_
            have h3 := emod_dvd (-(p : Int)) (n : Int)
            have h4 : (n : Int) ∣ ((t : Int) - q) - p := by
              rw [← ep]
              have := Int.dvd_neg.mpr (emod_dvd ((t : Int) - q) (n : Int))
              exact (congrArg ((n : Int) ∣ ·) (by omega)).mp this
            have := Int.dvd_add h3 h4
            exact (congrArg ((n : Int) ∣ ·) (by omega)).mp this
          rw [h2, Int.emod_eq_of_lt (by omega) (by omega)]
        omega
  have both : (B &&& rotN n (bitsN (mirN n B)) t).testBit a = true := by
    rw [Nat.testBit_and, ha, Bool.true_and]
    refine (rot a).mpr ⟨an, b, bn, hb, ?_⟩
    have h2 : ((t : Int) - a) % n = (b : Int) % n := by
      refine emod_eq_iff.mpr ?_
      have e2 : ((a : Int) + b) % n = t := by
        have := congrArg (fun z : Nat => (z : Int)) e
        simpa using this
      rw [← e2]
      have := emod_dvd ((a : Int) + b) (n : Int)
      exact (congrArg ((n : Int) ∣ ·) (by omega)).mp this
    rw [h2, Int.emod_eq_of_lt (by omega) (by omega)]
  have W0 : 0 < B &&& rotN n (bitsN (mirN n B)) t := by
    refine Nat.pos_of_ne_zero fun z => ?_
    rw [z] at both
    simp at both
  obtain ⟨j, j1, j2⟩ := low_bit W0
  rw [Nat.testBit_and, Bool.and_eq_true] at j2
  obtain ⟨jn, p, pn, hp, ep⟩ := (rot j).mp j2.2
  exact ⟨j, j1, jn, j2.1, by rw [ep]; simpa using hp⟩
def CntZ (H : Hp) (d : Addr) (A : List (Int × Int)) : Prop := H d = some (.dK (A.map entZ))
theorem cnt_getZ {H : Hp} {d : Addr} {A : List (Int × Int)} (k : Int) (h : CntZ H d A) : DGet H d (.int k) ((getA A k).map V.int) := by
  rw [← val_entZ]
  exact DGet.k (k := .inl k) h
/-- the amounts of a place split in two -/
def addA (ga : Int) (F : List (Int × Int)) (k : Int) : List (Int × Int) := putA F k ((getA F k).getD 0 + ga)
def splitA (n B : Nat) (F : List (Int × Int)) (g : Int × Int) : List (Int × Int) :=
  let W := Builtin.bitAnd (B : Int) (rotN n (bitsN (mirN n B)) g.1.toNat : Nat)
  let j := (Builtin.Int.intBits (Builtin.bitAnd W (-W)) : Int) - 1
  [j, (g.1 - j) % n].foldl (addA g.2) F
def halvedF (n B : Nat) (A : List (Int × Int)) : List (Int × Int) := A.foldl (splitA n B) []
theorem fold_more {α β : Type} {f : β → α → β} {b : β} {l : List α} {i : Nat} {x : α} (h : l[i]? = some x) : (l.take (i + 1)).foldl f b = f ((l.take i).foldl f b) x := by
  obtain ⟨h1, h2⟩ := List.getElem?_eq_some_iff.mp h
  rw [List.take_succ_eq_append_getElem h1, List.foldl_append, h2]
  rfl
theorem getZ (o : Option Int) : (o.map V.int).getD (.int 0) = V.int (o.getD 0) := by cases o <;> rfl
section
variable {P : Program} {w : World} {K : PySem.W.Frag} {mg : Str → Option Value} {base : Heap}
def sp_halved : Sp := fun vs H Q _ => ∃ (n B : Nat) (d : Addr) (A : List (Int × Int)) (t m : Int), vs = [.int n, .int B, .ref d] ∧ 0 < n ∧ n ≤ 2000 ∧ B < 2 ^ n ∧ CntZ H d A ∧ AOk n (dblN n B) A t m ∧
  ∀ (p : Addr) (A2 : List (Int × Int)) H2, Ex H H2 → H p = none → CntZ H2 p A2 → A2 = halvedF n B A → AOk n B A2 (2 * t) m → Q (.ref p) H2
theorem ok_halved (T : TX K mg) : FnOk P w K mg base CX0 2 T.f_halved T.fd_halved ["size", "bits", "amounts"] sp_halved := by
  refine T.F_halved.ok sc_halved (fun vs H Q E h => ?_) (fun cdv A outer s H vs Q E hr h => ?_)
  · obtain ⟨n, B, d, A, t, m, rfl, _⟩ := h
    rfl
  · obtain ⟨n, B, d, A, t, m, rfl, n0, n2, hB, hd, ok, k⟩ := h
    refine ⟨_, (pss_cons (ps_set (i := 3) sc_halved.nd rfl (Or.inl rfl) (pe_call (ok_bits_of T) hr rfl T.m_bits_of T.F_bits_of.kp T.b_bits_of .nil pass0 (pa_cons (pe_lc (own := [("place", 9)]) (g := (gName 9)) rfl sc_halved.nd (pi_range1 rfl T.z_range (pa_cons (pv 0) pa_nil)) (blkOk_by (N := N_halved) (sc := defScope s_halved) (by decide +kernel)) (fun _ _ _ _ _ => (pg_name (i := 9) sc_halved.nd rfl (Or.inl rfl))) (fun _ _ _ _ _ => (pts_one (pt_cmpR op_eq (pe_op op_and (pe_op op_shr (pv 1) (pv 9)) pe_int) pe_int (nomark _)))) (fun _ _ _ _ _ => (pe_op op_mod (pe_un un_neg (pv 9)) (pv 0)))) pa_nil))) (pss_cons (ps_set (i := 4) sc_halved.nd rfl (Or.inl rfl) pe_dnewK) (pss_cons (ps_lock (ps_for PassesOwn.never rfl (pi_items (pv 2)) (pg_tup rfl (pgs_cons (pg_name (i := 5) sc_halved.nd rfl (Or.inl rfl)) (pgs_cons (pg_name (i := 6) sc_halved.nd rfl (Or.inl rfl)) pgs_nil))) (pss_cons (ps_set (i := 7) sc_halved.nd rfl (Or.inl rfl) (pe_op op_and (pv 1) (pe_call (ok_rotated T) hr rfl T.m_rotated T.F_rotated.kp T.b_rotated .nil pass0 (pa_cons (pv 0) (pa_cons (pv 3) (pa_cons (pv 5) pa_nil)))))) (pss_cons (ps_set (i := 8) sc_halved.nd rfl (Or.inl rfl) (pe_op op_sub (pe_bits (pe_op op_and (pv 7) (pe_un un_neg (pv 7)))) pe_int)) (pss_one (ps_for PassesOwn.never rfl (pi_tup (pe_tup (pa_cons (pv 8) (pa_cons (pe_op op_mod (pe_op op_sub (pv 5) (pv 8)) (pv 0)) pa_nil)))) (pg_name (i := 9) sc_halved.nd rfl (Or.inl rfl)) (pss_one (ps_dput (hu_of hr) (pv 4) (pv 9) (pe_op op_add (pe_dget2 (hu_of hr) (pv 4) (pv 9) pe_int ⟨rfl, rfl, rfl, rfl⟩) (pv 6)) (by rfl))))))))) (pss_one (ps_ret (pv 4)))))), ?_⟩
    refine ⟨_, rfl, n, rfl, by omega, by omega, fun D hD => ?_⟩
    refine lc_filt walk_range (List.range n) (fun p => B.testBit p) (fun p => V.int ((-(p : Int)) % n)) (by rw [List.length_range]; omega) (by omega) hD (fun _ _ => True.intro) ?_ ?_
    · rintro i x p Hx _ R S hp ex ⟨rfl, hx⟩ kR kS
      obtain rfl : x = .int (i : Int) := hx.trans (congrArg V.int (Int.zero_add _))
      obtain ⟨_, e⟩ := List.getElem?_eq_some_iff.mp hp
      rw [List.getElem_range] at e
      subst e
      have eb : Builtin.bitAnd ((B : Int) / 2 ^ (i : Int).toNat) 1 = if B.testBit i = true then 1 else 0 := by rw [Int.toNat_natCast, shr_cast, bit_cast]
      refine ⟨rfl, _, rfl, _, rfl, _, _, rfl, rfl, (by show (0 : Int) ≤ (i : Int); omega), _, _, rfl, rfl, rfl, _, rfl, ?_⟩
      by_cases h : B.testBit i = true
      · refine itt (by show decide (V.int (Builtin.bitAnd ((B : Int) / 2 ^ (i : Int).toNat) 1) = V.int 1) = true; rw [eb, dec_int, if_pos h]; rfl) ?_
        refine ⟨_, rfl, _, rfl, _, rfl, _, _, rfl, rfl, (by show (0 : Int) < (n : Int); omega), kR _ _ exr h rfl⟩
      · exact itf (by show decide (V.int (Builtin.bitAnd ((B : Int) / 2 ^ (i : Int).toNat) 1) = V.int 1) = false; rw [eb, dec_int, if_neg h]; rfl) (kS _ exr (by simpa using h))
    intro H1 e1 hD1
    have eM : ((List.range n).filter fun p => B.testBit p).map (fun (p : Nat) => V.int ((-(p : Int)) % n)) = (mirN n B).map V.int := by
      unfold mirN
      rw [List.map_map]
      rfl
    rw [eM] at hD1
    refine ⟨(false, D), mirN n B, rfl, hD1, fun x hx => ⟨(mir_lt n0 x hx).1, by have := (mir_lt n0 x hx).2; omega⟩, ?_⟩
    dsimp only [gName]
    refine fun f hf => ?_
    try dsimp only [gName]
    have fd : f ≠ d := fun z => by
      rw [z, e1 _ _ hd] at hf
      cases hf
    refine ⟨d, _, (exn (o := .dK []) hf) _ _ (e1 _ _ hd), True.intro, fun od => ?_⟩
    generalize hG1 : upd (upd H1 f (.dK [])) d _ = H3
    have hd3 : H3 d = some (.frz od (.dK (A.map entZ))) := by rw [← hG1]; exact upd_same
    have hf3 : H3 f = some (.dK []) := by rw [← hG1, upd_ne fd]; exact upd_same
    refine ⟨_, rfl, d, od, _, rfl, hd3, ?_⟩
    refine for_it walk_items (fun i σ Hx => ∃ (y5 y6 y7 y8 y9 : Option V) (F : List (Int × Int)), σ = [some (.int n), some (.int B), some (.ref d), some (.int (bitsN (mirN n B) : Nat)), some (.ref f), y5, y6, y7, y8, y9] ∧ Hx f = some (.dK (F.map entZ)) ∧ F = (A.take i).foldl (splitA n B) [] ∧ AOk n B F (2 * sumA (A.take i)) (momA (A.take i)) ∧ XB f H3 Hx) ⟨_, _, _, _, _, [], rfl, hf3, rfl, ⟨by simp, by simp, by simp [sumA], by simp [momA]⟩, fun _ _ _ z => z⟩ (fun i σ Hx _ ⟨_, _, _, _, _, _, _, _, _, _, xb⟩ => xb _ _ fd.symm hd3) ?_ ?_
    · rintro i x σ Hx Hx2 hi ⟨y5, y6, y7, y8, y9, F, rfl, hfx, eF, okF, xb⟩ ⟨Ta, kk, vv, rfl, hTa, rfl, hk, hv⟩
      have hi2 : i < A.length := by
        have : i < (A.map entZ).length := hi
        rwa [List.length_map] at this
      obtain ⟨g, hA⟩ : ∃ e, A[i]? = some e := ⟨_, List.getElem?_eq_getElem hi2⟩
      replace hk : ((A.map entZ)[i]?.map fun kv => kV kv.1) = some kk := hk
      replace hv : ((A.map entZ)[i]?.map Prod.snd) = some vv := hv
      rw [List.getElem?_map, hA] at hk hv
      obtain rfl := Option.some.inj hk
      obtain rfl := Option.some.inj hv
      obtain ⟨t0, t1, tb, a0⟩ := ok.ok g (List.mem_of_getElem? hA)
      obtain ⟨gt, ga⟩ := g
      dsimp only at t0 t1 tb a0
      obtain ⟨u, rfl⟩ : ∃ u : Nat, gt = (u : Int) := ⟨gt.toNat, by omega⟩
      rw [Int.toNat_natCast] at tb
      obtain ⟨j, ej, jn, jb, ob⟩ := pair_of n0 hB tb
      have eT := exn (o := .tup [V.int (u : Int), V.int ga]) hTa
      refine ⟨Ta, _, rfl, SqT.of upd_same, rfl, _, _, rfl, _, _, rfl, rfl, ?_⟩
      try dsimp only [gName]
      have hM : bitsN (mirN n B) < 2 ^ n := bits_lt fun x hx => by
        have := mir_lt (B := B) n0 x hx
        omega
      refine ⟨_, rfl, _, rfl, _, rfl, _, rfl, n, bitsN (mirN n B), u, rfl, n2, hM, by omega, _, _, rfl, rfl, ?_⟩
      try dsimp only [gName]
      rw [and_cast]
      refine ⟨_, rfl, _, rfl, _, rfl, _, _, rfl, rfl, _, rfl, ?_⟩
      dsimp only
      rw [ej, bits_pow]
      refine ⟨_, _, rfl, rfl, ?_⟩
      try dsimp only [gName]
      have ef : (((j + 1 : Nat) : Int) - 1) = (j : Int) := by omega
      rw [ef]
      refine ⟨_, rfl, _, rfl, _, rfl, _, _, rfl, rfl, _, rfl, _, _, rfl, rfl, (by show (0 : Int) < (n : Int); omega), slen rfl, ?_⟩
      (intro tp ntp; generalize hGtp : upd _ tp _ = H5; have eH5 := exG hGtp ntp; have htp := atG hGtp; clear hGtp)
      have E5 := ext eT eH5
      have tpf : tp ≠ f := (ne_of_none (eT _ _ hfx) ntp).symm
      refine ⟨tp, rfl, ⟨_, SqT.of htp⟩, ?_⟩
      have o1 := Int.emod_lt_of_pos ((u : Int) - j) (show (0 : Int) < (n : Int) by omega)
      have o0 := Int.emod_nonneg ((u : Int) - j) (show (n : Int) ≠ 0 by omega)
      refine for_it (walk_tup (xs := [V.int (j : Int), V.int (((u : Int) - j) % n)])) (fun i2 σ Hy => ∃ (y9 : Option V) (F2 : List (Int × Int)), σ = [some (.int n), some (.int B), some (.ref d), some (.int (bitsN (mirN n B) : Nat)), some (.ref f), some (.int u), some (.int ga), some (.int ((B &&& rotN n (bitsN (mirN n B)) u : Nat) : Int)), some (.int j), y9] ∧ Hy f = some (.dK (F2.map entZ)) ∧ F2 = (([(j : Int), ((u : Int) - j) % n]).take i2).foldl (addA ga) F ∧ AOk n B F2 (2 * sumA (A.take i) + i2 * ga) (momA (A.take i) + ((([(j : Int), ((u : Int) - j) % n]).take i2).map fun z => z * ga).sum) ∧ XB f H5 Hy) ⟨_, F, rfl, E5 _ _ hfx, rfl, by simpa using okF, fun _ _ _ z => z⟩ (fun _ _ Hy _ ⟨_, _, _, _, _, _, xy⟩ => SqT.of (xy _ _ tpf htp)) ?_ ?_
      · rintro i2 x σ Hy _ hi2 ⟨y9, F2, rfl, hfy, eF2, ok2, xy⟩ ⟨rfl, hx⟩
        obtain ⟨pl, hpl, rfl⟩ := map_get (show ([(j : Int), ((u : Int) - j) % n].map V.int)[i2]? = some x from hx)
        have hp : 0 ≤ pl ∧ pl < n ∧ B.testBit pl.toNat = true := by
          have := List.mem_of_getElem? hpl
          rcases List.mem_cons.mp this with z | z
          · rw [z]
            exact ⟨by omega, by omega, by rw [Int.toNat_natCast]; exact jb⟩
          · rw [List.mem_singleton.mp z]
            exact ⟨o0, o1, ob⟩
        try dsimp only [gName]
        refine ⟨_, rfl, f, rfl, .inl ⟨_, .inl hfy⟩, _, rfl, _, DGet.k (k := .inl pl) hfy, ?_⟩
        rw [val_entZ, getZ]
        have l2 := ok2.len
        refine ⟨_, rfl, _, _, rfl, rfl, _, rfl, _, rfl, f, _, rfl, DPut.k (k := .inl pl) hfy (by rw [List.length_map]; exact Nat.lt_of_le_of_lt (Nat.le_trans l2 n2) (by decide)), ?_⟩
        rw [put_entZ]
        refine ⟨_, _, rfl, upd_same, by rw [fold_more hpl, ← eF2]; rfl, (ok2.put hp.1 hp.2.1 hp.2.2 a0).to ?_ ?_, xy.trans XB.upd⟩
        · rw [Int.natCast_add, Int.add_mul]
          omega
        · refine ⟨0, ?_⟩
          rw [take_more hpl, List.map_append, List.sum_append]
          simp
          omega
      · rintro σ Hy ⟨y9, F2, rfl, hfy, eF2, ok2, xy⟩
        have eS : F2 = splitA n B F ((u : Int), ga) := by
          rw [eF2]
          unfold splitA
          dsimp only
          rw [Int.toNat_natCast, and_cast, ej, bits_pow, ef]
          rfl
        refine ⟨_, _, _, _, _, F2, rfl, hfy, by rw [fold_more hA, ← eF]; exact eS, ok2.to ?_ ?_, xb.trans ((XB.of E5).trans xy)⟩
        · rw [take_more hA]
          unfold sumA
          rw [List.map_append, List.sum_append]
          simp
          omega
        · rw [take_more hA]
          unfold momA
          rw [List.map_append, List.sum_append]
          have hd := Int.dvd_trans (emod_dvd ((u : Int) - j) n) (Int.dvd_mul_right _ ga)
          rw [Int.sub_mul, Int.sub_mul] at hd
          refine (congrArg ((n : Int) ∣ ·) ?_).mp hd
          simp
          omega
    · rintro σ Hx ⟨y5, y6, y7, y8, y9, F, rfl, hfx, eF, okF, xb⟩
      refine ⟨xb _ _ fd.symm hd3, _, rfl, ?_⟩
      rw [show A.take (A.map entZ).length = A by rw [List.length_map]; exact List.take_length ..] at okF eF
      have nf : H f = none := by
        cases z : H f with
        | none => rfl
        | some o => rw [e1 _ _ z] at hf; cases hf
      refine k f F _ (fun c o z => ?_) nf (by show upd Hx d _ f = _; rw [upd_ne fd]; exact hfx) eF (okF.to (by rw [ok.sum]) ok.mom)
      by_cases cd : c = d
      · subst cd
        rw [upd_same]
        exact hd.symm.trans z
      · rw [upd_ne cd]
        have cf : c ≠ f := fun y => by rw [y, nf] at z; cases z
        refine xb _ _ cf ?_
        rw [← hG1, upd_ne cd, upd_ne cf]
        exact e1 _ _ z
end

/-- the amounts of the targets, in their order -/
theorem at_sum {k v : Int} : ∀ {ts : List Int}, ts.Nodup → k ∈ ts → (ts.map fun t => if t = k then v else 0).sum = v
  | [], _, h => by cases h
  | t :: ts, nd, h => by
    rw [List.nodup_cons] at nd
    rw [List.map_cons, List.sum_cons]
    by_cases c : t = k
    · subst c
      rw [if_pos rfl, List.map_congr_left (g := fun _ => (0 : Int)) fun x hx => by
        rw [if_neg]
        rintro rfl
        exact nd.1 hx]
      have : ∀ l : List Int, (l.map fun _ => (0 : Int)).sum = 0 := fun l => by
        induction l with
        | nil => rfl
        | cons a l ih => rw [List.map_cons, List.sum_cons, ih]; rfl
      rw [this]
      omega
    · rcases List.mem_cons.mp h with z | z
      · exact absurd z.symm c
      · rw [if_neg c, at_sum nd.2 z]
        omega
theorem map_add (f g : Int → Int) : ∀ l : List Int, (l.map fun t => f t + g t).sum = (l.map f).sum + (l.map g).sum
  | [] => rfl
  | t :: l => by
    rw [List.map_cons, List.sum_cons, List.map_cons, List.sum_cons, List.map_cons, List.sum_cons, map_add f g l]
    omega
theorem map_zero (l : List Int) : (l.map fun _ => (0 : Int)).sum = 0 := by
  induction l with
  | nil => rfl
  | cons a l ih => rw [List.map_cons, List.sum_cons, ih]; rfl
theorem get_sums {ts : List Int} (nd : ts.Nodup) : ∀ {A : List (Int × Int)}, (A.map fun x => x.1).Nodup → (∀ x ∈ A, x.1 ∈ ts) → (ts.map fun t => (getA A t).getD 0).sum = sumA A ∧ (ts.map fun t => (getA A t).getD 0 * t).sum = momA A
  | [], _, _ => ⟨by
    show (ts.map fun _ => (0 : Int)).sum = 0
    exact map_zero ts, by
    rw [List.map_congr_left (g := fun _ => (0 : Int)) fun x _ => by
      show (0 : Int) * x = 0
      rw [Int.zero_mul]]
    exact map_zero ts⟩
  | (k, v) :: A, na, h => by
    rw [List.map_cons, List.nodup_cons] at na
    obtain ⟨i1, i2⟩ := get_sums nd na.2 fun x hx => h x (List.mem_cons_of_mem _ hx)
    have hk : k ∈ ts := h _ List.mem_cons_self
    have g0 : getA A k = none := by
      unfold getA
      rw [Option.map_eq_none_iff, List.find?_eq_none]
      intro x hx z
      exact na.1 (List.mem_map.mpr ⟨x, hx, of_decide_eq_true z⟩)
    have e : ∀ t, (getA ((k, v) :: A) t).getD 0 = (if t = k then v else 0) + (getA A t).getD 0 := fun t => by
      by_cases c : t = k
      · subst c
        rw [g0, if_pos rfl]
        unfold getA
        rw [List.find?_cons, decide_eq_true rfl]
        show v = v + 0
        omega
      · rw [if_neg c]
        unfold getA
        rw [List.find?_cons, decide_eq_false (fun z => c z.symm)]
        show _ = 0 + _
        rw [Int.zero_add]
    constructor
    · rw [List.map_congr_left (g := fun t => (if t = k then v else 0) + (getA A t).getD 0) fun t _ => e t, map_add, at_sum nd hk, i1]
      unfold sumA
      rw [List.map_cons, List.sum_cons]
    · rw [List.map_congr_left (g := fun t => (if t = k then k * v else 0) + (getA A t).getD 0 * t) fun t _ => by
        rw [e, Int.add_mul]
        congr 1
        by_cases c : t = k
        · rw [if_pos c, if_pos c, c, Int.mul_comm]
        · rw [if_neg c, if_neg c, Int.zero_mul], map_add (fun t => if t = k then k * v else 0), at_sum nd hk, i2]
      unfold momA
      rw [List.map_cons, List.sum_cons]
theorem pos_le_sum {A : List (Int × Int)} (h : ∀ x ∈ A, 0 ≤ x.2) : (0 ≤ sumA A) ∧ ∀ x ∈ A, x.2 ≤ sumA A := by
  induction A with
  | nil => exact ⟨Int.le_refl _, fun x hx => by cases hx⟩
  | cons a A ih =>
    obtain ⟨i1, i2⟩ := ih fun x hx => h x (List.mem_cons_of_mem _ hx)
    have ha := h a List.mem_cons_self
    unfold sumA at i1 i2 ⊢
    rw [List.map_cons, List.sum_cons]
    refine ⟨by omega, fun x hx => ?_⟩
    rcases List.mem_cons.mp hx with z | z
    · rw [z]
      omega
    · have := i2 x z
      omega
theorem cut_last (f : Nat → V) (c : Nat) : cutV ((List.range (c + 1)).map f) none (some (-1)) = (List.range c).map f := by
  have e : HT.sIx (c + 1) (c + 1) (some (-1)) = c := by
    show (if (-1 : Int) < 0 then ((-1 : Int) + ((c + 1 : Nat) : Int)).toNat else min (-1 : Int).toNat (c + 1)) = c
    rw [if_pos (by decide)]
    omega
  unfold cutV
  rw [List.length_map, List.length_range, e]
  show ((List.map f (List.range (c + 1))).drop 0).take (c - 0) = _
  rw [List.drop_zero, Nat.sub_zero, List.range_succ, List.map_append, List.take_append_of_le_length (by simp), List.take_of_length_le (by simp)]
theorem zip_self (f : Int → Int) : ∀ ts : List Int, List.zipWith (fun w x => w * x) (ts.map f) ts = ts.map fun t => f t * t
  | [] => rfl
  | t :: ts => by rw [List.map_cons, List.zipWith_cons_cons, zip_self f ts, List.map_cons]
/-- the amounts after i splits, from a place -/
def amtF (n : Nat) (ts : List Int) (c : Nat) (A : List (Int × Int)) : Nat → List (Int × Int)
  | 0 => A
  | i + 1 => halvedF n (layN n ts (c - 1 - i)) (amtF n ts c A i)
def csF (n : Nat) (ts : List Int) (p c : Nat) : List Int := ts.map fun t => (getA (amtF n ts c [(((p * 2 ^ c % n : Nat) : Int), 1)] c) t).getD 0

section
variable {P : Program} {w : World} {K : PySem.W.Frag} {mg : Str → Option Value} {base : Heap}
def spX_sum_counts (K : PySem.W.Frag) (CN CT CL : Addr) : Sp := fun vs H Q E => ∃ (x tg p c : V) (op oc : Option Int), vs = [x, tg, p, c] ∧ IsI K H p op ∧ IsI K H c oc ∧ RPl K CN CT E H x tg fun n _ =>
  (between op 0 (n - 1) = false ∧ Rai E H CN "name" (.str "place")) ∨ (between op 0 (n - 1) = true ∧ ((atLeast oc 0 = false ∧ Rai E H CN "name" (.str "calls")) ∨
    ∃ k : Nat, oc = some (k : Int) ∧ ((2000 < n ∧ Rai E H CL "limit" (.int 2000)) ∨ (n ≤ 2000 ∧ ((40 < k ∧ Rai E H CL "limit" (.int 40)) ∨ (k ≤ 40 ∧ ∀ v H2, Ex H H2 → Q v H2))))))
theorem okX_sum_counts (T : TX K mg) : FnOk P w K mg base (L2.CX P w) 5 T.f_sum_counts T.fd_sum_counts ["size", "targets", "place", "calls"] (spX_sum_counts K T.C_InvalidNumber T.C_InvalidTargets T.C_TooLarge) := by
  refine T.F_sum_counts.okX sc_sum_counts (fun vs H Q E h => ?_) (fun cdv A outer s H vs Q E hr h => ?_)
  · obtain ⟨x, tg, p, c, op, oc, rfl, _⟩ := h
    rfl
  · obtain ⟨x, tg, vp, vc, op, oc, rfl, hp, hc, h⟩ := h
    refine ⟨_, (pss_cons (ps_expr (pe_call (okX_require_places T) hr rfl T.m_require_places T.F_require_places.kp T.b_require_places .nil (passes_call (takes_of rfl rfl rfl rfl) (fun _ _ _ _ h => h)) (pa_cons (pv 0) (pa_cons (pv 1) pa_nil)))) (pss_cons (ps_expr (pe_call (okX_require_place T) (hr.mono (by decide)) rfl T.m_require_place T.F_require_place.kp T.b_require_place .nil (passes_call (takes_of rfl rfl rfl rfl) (fun _ _ _ _ h => h)) (pa_cons (pv 0) (pa_cons (pv 2) (pa_cons pe_str pa_nil))))) (pss_cons (ps_expr (pe_call (okX_require_at_least T) (hr.mono (by decide)) rfl T.m_require_at_least T.F_require_at_least.kp T.b_require_at_least .nil (passes_call (takes_of rfl rfl rfl rfl) (fun _ _ _ _ h => h)) (pa_cons (pv 3) (pa_cons pe_int (pa_cons pe_str pa_nil))))) (pss_cons (ps_expr (pe_call (okX_require_limit T) (hr.mono (by decide)) rfl T.m_require_limit T.F_require_limit.kp T.b_require_limit .nil (passes_call (takes_of rfl rfl rfl rfl) (fun _ _ _ _ h => h)) (pa_cons (pv 0) (pa_cons (pe_glob (v := .int 2000) rfl T.c_MAX_SIZE ⟨_, rfl⟩) pa_nil)))) (pss_cons (ps_expr (pe_call (okX_require_limit T) (hr.mono (by decide)) rfl T.m_require_limit T.F_require_limit.kp T.b_require_limit .nil (passes_call (takes_of rfl rfl rfl rfl) (fun _ _ _ _ h => h)) (pa_cons (pv 3) (pa_cons (pe_glob (v := .int 40) rfl T.c_MAX_CALLS ⟨_, rfl⟩) pa_nil)))) (pss_cons (ps_set (i := 4) sc_sum_counts.nd rfl (Or.inl rfl) (pe_call (ok_sum_layers T) (hr.mono (by decide)) rfl T.m_sum_layers T.F_sum_layers.kp T.b_sum_layers .nil pass0 (pa_cons (pv 0) (pa_cons (pv 1) (pa_cons (pv 3) pa_nil))))) (pss_cons (ps_set (i := 5) sc_sum_counts.nd rfl (Or.inl rfl) (pe_op op_mod (pe_op op_shlW (pv 2) (pv 3)) (pv 0))) (pss_cons (ps_if (pt_cmpR op_eq (pe_op op_and (pe_op op_shr (pe_ix ix_list (pv 4) (pe_un un_neg pe_int) (fun _ _ => rfl)) (pv 5)) pe_int) pe_int (nomark _)) (pss_one (ps_ret pe_non)) pss_nil) (pss_cons (ps_set (i := 6) sc_sum_counts.nd rfl (Or.inr rfl) (pe_disp (pps_cons (pv 5) pe_int pps_nil) rfl rfl (by simp) (by decide))) (pss_cons (ps_for (passes_of rfl) rfl (pi_reversed rfl T.z_reversed (pa_cons (pe_slice sl_list (pv 4) po_none (po_some (pe_un un_neg pe_int))) pa_nil)) (pg_name (i := 7) sc_sum_counts.nd rfl (Or.inl rfl)) (pss_one (ps_set (i := 6) sc_sum_counts.nd rfl (Or.inr rfl) (pe_call (ok_halved T) (hr.mono (by decide)) rfl T.m_halved T.F_halved.kp T.b_halved .nil pass0 (pa_cons (pv 0) (pa_cons (pv 7) (pa_cons (pv 6) pa_nil))))))) (pss_one (ps_ret (pe_lc (own := [("target", 8)]) (g := (gName 8)) rfl sc_sum_counts.nd (pi_seq (pv 1)) (blkOk_by (N := N_sum_counts) (sc := defScope s_sum_counts) (by decide +kernel)) (fun _ _ _ _ _ => (pg_name (i := 8) sc_sum_counts.nd rfl (Or.inl rfl))) (fun _ _ _ _ _ => pts_nil) (fun _ _ _ _ _ => (pe_dget2 (hu_of hr) (pv 6) (pv 8) pe_int ⟨rfl, rfl, rfl, rfl⟩))))))))))))))), ?_⟩
    refine ⟨_, rfl, _, rfl, ?_⟩
    dsimp only [tNil, List.append_nil]
    refine rpl_use h fun nI q ts ex eq n1 hq ne lts inr nod hr H1 e1 => ?_
    subst ex eq
    refine ⟨_, rfl, _, rfl, nI, vp, op, "place", rfl, hp.mono e1, fun zb => ?_, fun zb => ?_⟩
    rotate_left
    · rcases hr with ⟨_, r⟩ | ⟨z, _⟩
      · exact r.mono e1
      · rw [zb] at z
        cases z
    have hr1 := (hr.resolve_left fun z => by
      rw [zb] at z
      cases z.1).2
    clear hr
    obtain ⟨pI, rfl⟩ : ∃ i, op = some i := by
      cases op with
      | none => cases zb
      | some i => exact ⟨i, rfl⟩
    obtain rfl : vp = .int pI := hp
    have zb : (decide (0 ≤ pI) && decide (pI ≤ nI - 1)) = true := zb
    rw [Bool.and_eq_true, decide_eq_true_iff, decide_eq_true_iff] at zb
    refine ⟨_, rfl, vc, oc, 0, "calls", rfl, hc.mono e1, fun zc => ?_, fun zc => ?_⟩
    rotate_left
    · rcases hr1 with ⟨_, r⟩ | ⟨k, z, _⟩
      · exact r.mono e1
      · rw [z] at zc
        have zc : decide ((0 : Int) ≤ (k : Int)) = false := zc
        exact absurd (of_decide_eq_false zc) (by omega)
    obtain ⟨c, rfl, hr2⟩ := hr1.resolve_left fun z => by
      have z1 := z.1
      rw [zc] at z1
      cases z1
    obtain rfl : vc = .int (c : Int) := hc
    obtain ⟨n, rfl⟩ := Int.eq_ofNat_of_zero_le (show 0 ≤ nI by omega)
    obtain ⟨p, rfl⟩ := Int.eq_ofNat_of_zero_le zb.1
    have pn : p < n := by omega
    refine ⟨_, rfl, n, 2000, rfl, fun n2 => ?_, fun n2 => ?_⟩
    rotate_left
    · rcases hr2 with ⟨_, r⟩ | ⟨z, _⟩
      · exact r.mono e1
      · omega
    have hr3 := (hr2.resolve_left fun z => by have := z.1; omega).2
    refine ⟨_, rfl, c, 40, rfl, fun c40 => ?_, fun c40 => ?_⟩
    rotate_left
    · rcases hr3 with ⟨_, r⟩ | ⟨z, _⟩
      · exact r.mono e1
      · omega
    have kv := (hr3.resolve_left fun z => by have := z.1; omega).2
    have kn : (layN n ts c).testBit (p * 2 ^ c % n) = false → ∀ H2, Ex H H2 → Q .non H2 := fun _ H2 e2 => kv _ _ e2
    have ky : (layN n ts c).testBit (p * 2 ^ c % n) = true → ∀ (l : Addr) (cs : List Int) H2, Ex H H2 → H l = none → H2 l = some (.lst (cs.map V.int)) → cs = csF n ts p c → cs.length = ts.length → (∀ x ∈ cs, 0 ≤ x ∧ x ≤ 2 ^ c) → cs.sum = 2 ^ c → (n : Int) ∣ wsum cs ts - 2 ^ c * p → Q (.ref l) H2 := fun _ l _ H2 e2 _ _ _ _ _ _ _ => kv _ _ e2
    have n1 : 1 ≤ n := by omega
    replace n2 : n ≤ 2000 := by omega
    replace c40 : c ≤ 40 := by omega
    have lts : ts.length ≤ 100000 := by omega
    clear hr1 hr2 hr3 kv
    refine ⟨_, rfl, _, rfl, _, rfl, n, c, q, ts, rfl, n2, by omega, hq.mono e1, inr, fun l H2 e2 nl hl => ?_⟩
    dsimp only [gName]
    have pB : p < 2 ^ 2000 := Nat.lt_of_lt_of_le (Nat.lt_of_lt_of_le pn n2) (Nat.le_of_lt Nat.lt_two_pow_self)
    have ep : (p : Int) * 2 ^ (c : Int).toNat % n = ((p * 2 ^ c % n : Nat) : Int) := by
      rw [Int.toNat_natCast]
      simp
    refine ⟨_, rfl, _, rfl, _, _, rfl, rfl, shlN pB (by omega), _, rfl, _, _, rfl, rfl, (by show (0 : Int) < (n : Int); omega), ?_⟩
    dsimp only [gName]
    rw [ep]
    have hlast : atI ((List.range (c + 1)).map fun i => V.int (layN n ts i)) (-1) = some (V.int (layN n ts c)) := by
      rw [List.range_succ, List.map_append]
      exact atI_fin _ _
    refine ⟨_, rfl, 1, rfl, l, _, _, _, rfl, rfl, SqL.of hl, hlast, _, rfl, _, _, rfl, rfl, (by show (0 : Int) ≤ ((p * 2 ^ c % n : Nat) : Int); omega), _, _, rfl, rfl, rfl, _, rfl, ?_⟩
    have eb : Builtin.bitAnd ((layN n ts c : Int) / 2 ^ ((p * 2 ^ c % n : Nat) : Int).toNat) 1 = if (layN n ts c).testBit (p * 2 ^ c % n) = true then 1 else 0 := by rw [Int.toNat_natCast, shr_cast, bit_cast]
    by_cases no : (layN n ts c).testBit (p * 2 ^ c % n) = false
    · refine itt ?_ (kn no _ (ext e1 e2))
      show decide (V.int (Builtin.bitAnd ((layN n ts c : Int) / 2 ^ ((p * 2 ^ c % n : Nat) : Int).toNat) 1) = V.int 0) = true
      rw [eb, no]
      rfl
    have yes : (layN n ts c).testBit (p * 2 ^ c % n) = true := by simpa using no
    refine itf ?_ ?_
    · show decide (V.int (Builtin.bitAnd ((layN n ts c : Int) / 2 ^ ((p * 2 ^ c % n : Nat) : Int).toNat) 1) = V.int 0) = false
      rw [eb, if_pos yes]
      rfl
    replace ky := ky yes
    refine fun d0 hd0 => ⟨_, rfl, upd_same, [(.inl ((p * 2 ^ c % n : Nat) : Int), .int 1)], rfl, by show 1 ≤ 15; decide, ?_⟩
    generalize hG : upd (upd H2 d0 (.dK [])) d0 _ = H3
    have e3 : Ex H2 H3 := by rw [← hG]; exact ex_upd (exn hd0) hd0
    have hd3 : CntZ H3 d0 [(((p * 2 ^ c % n : Nat) : Int), 1)] := by rw [← hG]; exact upd_same
    try dsimp only [gName]
    show tSeq _ _ _ [_, _, _, _, _, _, _, _, _] _
    refine ⟨_, rfl, ?_⟩
    dsimp only [tNoPart]
    refine ⟨_, rfl, _, rfl, l, _, rfl, SqL.of (e3 _ _ hl), fun g hg => ?_⟩
    rw [cut_last]
    dsimp only [tNil, List.append_nil]
    generalize hG2 : upd H3 g _ = H5
    have e5 : Ex H3 H5 := by rw [← hG2]; exact exn hg
    have hg5 : H5 g = some (.lst ((List.range c).map fun i => V.int (layN n ts i))) := by rw [← hG2]; exact upd_same
    refine ⟨g, _, rfl, SqL.of hg5, ?_⟩
    have tn : p * 2 ^ c % n < n := Nat.mod_lt _ (by omega)
    refine for_it (walk_rev (xs := (List.range c).map fun i => V.int (layN n ts i))) (D := { nx := _, rt := Q, bk := fun _ _ => False, ct := fun _ _ => False }) (fun i σ Hx => ∃ (a : Addr) (A : List (Int × Int)) (y7 : Option V), σ = [some (.int n), some (.ref q.2), some (.int p), some (.int c), some (.ref l), some (.int (p * 2 ^ c % n : Nat)), some (.ref a), y7, none] ∧ Ex H5 Hx ∧ CntZ Hx a A ∧ A = amtF n ts c [(((p * 2 ^ c % n : Nat) : Int), 1)] i ∧ AOk n (layN n ts (c - i)) A (2 ^ i) (p * 2 ^ c % n : Nat)) ⟨d0, [(((p * 2 ^ c % n : Nat) : Int), 1)], none, rfl, exr, e5 _ _ hd3, rfl, ⟨by simp, fun x hx => by
      rw [List.mem_singleton.mp hx]
      exact ⟨by omega, by omega, by rw [Int.toNat_natCast]; exact yes, by omega⟩, by simp [sumA], by simp [momA]⟩⟩ (fun i σ Hx _ ⟨_, _, _, _, e, _⟩ => SqL.of (e _ _ hg5)) ?_ ?_
    · rintro i x σ Hx _ hi ⟨a, A, y7, rfl, ex, hA, eA, ok⟩ ⟨rfl, hx⟩
      have hi2 : i < c := by
        have : i < ((List.range c).map fun i => V.int (layN n ts i)).length := hi
        simpa using this
      have ec : c - i = (c - 1 - i) + 1 := by omega
      rw [List.length_map, List.length_range, List.getElem?_map, List.getElem?_range (by omega)] at hx
      obtain rfl := Option.some.inj hx
      try dsimp only [gName]
      rw [ec] at ok
      refine ⟨_, rfl, _, rfl, _, rfl, n, layN n ts (c - 1 - i), a, A, 2 ^ i, _, rfl, by omega, n2, lay_lt inr _, hA, ok, fun a2 A2 H6 e6 na2 hA2 eA2 ok2 => ?_⟩
      refine ⟨a2, A2, _, rfl, ext ex e6, hA2, by rw [eA2, eA]; rfl, ?_⟩
      rw [show c - (i + 1) = c - 1 - i by omega]
      exact ok2.to (by rw [Int.pow_succ]; omega) ⟨0, by omega⟩
    · rintro σ Hx ⟨a, A, y7, rfl, ex, hA, eA, ok⟩
      rw [List.length_map, List.length_range] at eA ok
      rw [Nat.sub_self] at ok
      have sub : ∀ x ∈ A, x.1 ∈ ts := fun x hx => by
        obtain ⟨h0, _, h1, _⟩ := ok.ok x hx
        obtain ⟨t, ht, e⟩ := bits_bit.mp h1
        have := (inr t ht).1
        have : x.1 = t := by omega
        rw [this]
        exact ht
      obtain ⟨s1, s2⟩ := get_sums nod ok.nod sub
      have pl := pos_le_sum fun x hx => (ok.ok x hx).2.2.2
      have E6 := ext e1 (ext e2 (ext e3 (ext e5 ex)))
      have hq6 := hq.mono E6
      refine ⟨_, rfl, q, rfl, ⟨_, hq6.sq⟩, fun R hR => ?_⟩
      refine lc_vals (walk_seq (p := q) (xs := ts.map V.int)) ((ts.map fun t => (getA A t).getD 0).map V.int) (by rw [List.length_map, List.length_map, List.length_map]) (by rw [List.length_map]; omega) hR (fun Hx ex => (hq6.mono ex).sq) ?_ gmono_name ?_
      · rintro i x _ Hy W hi ey ⟨rfl, hx⟩ kk
        obtain ⟨t, ht, rfl⟩ := map_get hx
        have hAy : CntZ Hy a A := ey _ _ hA
        refine ⟨rfl, _, rfl, a, rfl, .inl ⟨_, .inl hAy⟩, _, rfl, _, DGet.k (k := .inl t) hAy, ?_⟩
        rw [val_entZ, getZ]
        refine kk _ _ exr ?_
        rw [List.getElem?_map, List.getElem?_map, ht]
        rfl
      · intro H7 e7 hR7
        refine ky R _ H7 (ext E6 e7) ?_ hR7 (by rw [eA]; rfl) (by rw [List.length_map]) ?_ (s1.trans ok.sum) ?_
        · cases z : H R with
          | none => rfl
          | some o => rw [E6 _ _ z] at hR; cases hR
        · intro x hx
          obtain ⟨t, _, rfl⟩ := List.mem_map.mp hx
          have p2 : (0 : Int) < 2 ^ c := Int.pow_pos (by decide)
          cases e : getA A t with
          | none => exact ⟨Int.le_refl _, Int.le_of_lt p2⟩
          | some v =>
            have hm := getA_mem e
            refine ⟨(ok.ok _ hm).2.2.2, ?_⟩
            have := pl.2 _ hm
            rw [ok.sum] at this
            exact this
        · unfold wsum
          rw [zip_self, s2]
          have h1 := emod_dvd ((p : Int) * 2 ^ c) n
          have h2 := Int.dvd_add ok.mom h1
          refine (congrArg ((n : Int) ∣ ·) ?_).mp h2
          rw [Int.natCast_emod, Int.natCast_mul, Int.natCast_pow, Int.mul_comm (2 ^ c)]
          simp
          omega
end

/-- the pair that tells an error -/
def TwoS (G : Hp) (r : Addr) (w : Str) (v : V) : Prop := G r = some (.tup [.str w, v])
def ErrV (CN CT CL CW : Addr) (Q : VK) : XK := fun cls d G => ∃ (dd : Addr) (f : Str) (x : V), d = some dd ∧ G dd = some (.xd [(f, x)]) ∧
  ((cls = .ref CN ∧ f = "name" ∧ ∀ G2 r, Ex G G2 → TwoS G2 r "number" x → Q (.ref r) G2) ∨ (cls = .ref CT ∧ f = "index" ∧ ∀ G2 r, Ex G G2 → TwoS G2 r "targets" x → Q (.ref r) G2) ∨
   (cls = .ref CL ∧ f = "limit" ∧ ∀ G2 r, Ex G G2 → TwoS G2 r "large" x → Q (.ref r) G2) ∨ (cls = .ref CW ∧ f = "index" ∧ ∀ G2 r, Ex G G2 → TwoS G2 r "witness" x → Q (.ref r) G2))
def RetV (Q : VK) : VK := fun _ H1 => [V.str "returned", V.non].length ≤ sizeLine ∧ ∀ p, H1 p = none → Q (.ref p) (upd H1 p (.tup [V.str "returned", V.non]))
def TTsaid (CN CT CL CW : Addr) : (XK → Hp → VK → Prop) → Hp → VK → Prop := fun tl H Q => tl (ErrV CN CT CL CW Q) H (RetV Q)
section
variable {P : Program} {w : World} {K : PySem.W.Frag} {mg : Str → Option Value} {base : Heap}
theorem gives_law_said (T : TX K mg) (k : Nat) : CG.Gives P w K mg base k N_law_said "_law_said" "_law_ask" s_law_said T.f_law_said (TTsaid T.C_InvalidNumber T.C_InvalidTargets T.C_TooLarge T.C_InvalidWitness) := by
  intro A outer cdg f s H Q Rd tl gd hr act here h
  refine ⟨_, (pss_cons (ps_try_as1 (i := 1) rfl rfl sc_law_said.nd rfl rfl ⟨rfl, by decide, Or.inl T.m_SeatError⟩ (fun W pn xe tk _ => pss_one (ps_expr (by exact (act W pn xe _ _ tk)))) (fun a oe cls d pn hz hf => (pss_cons (ps_set (i := 2) sc_law_said.nd rfl (Or.inl rfl) (pe_lst (pa_cons (pe_callB (r := CG.rIsEG K cls d a) (CG.call_isEG hz hf) (by rfl) T.z_isinstance (by decide +kernel) (pa_cons (pv 1) (pa_cons (pe_glob (v := .ref T.C_InvalidNumber) rfl T.m_InvalidNumber rfl) pa_nil))) (pa_cons (pe_callB (r := CG.rIsEG K cls d a) (CG.call_isEG hz hf) (by rfl) T.z_isinstance (by decide +kernel) (pa_cons (pv 1) (pa_cons (pe_glob (v := .ref T.C_InvalidTargets) rfl T.m_InvalidTargets rfl) pa_nil))) pa_nil)))) (pss_cons (ps_set (i := 2) sc_law_said.nd rfl (Or.inl rfl) (pe_op (r := rCatR K) op_catR (pv 2) (pe_lst (pa_cons (pe_callB (r := CG.rIsEG K cls d a) (CG.call_isEG hz hf) (by rfl) T.z_isinstance (by decide +kernel) (pa_cons (pv 1) (pa_cons (pe_glob (v := .ref T.C_TooLarge) rfl T.m_TooLarge rfl) pa_nil))) (pa_cons (pe_callB (r := CG.rIsEG K cls d a) (CG.call_isEG hz hf) (by rfl) T.z_isinstance (by decide +kernel) (pa_cons (pv 1) (pa_cons (pe_glob (v := .ref T.C_InvalidWitness) rfl T.m_InvalidWitness rfl) pa_nil))) pa_nil))))) (pss_cons (ps_if (PW.pt (pw_or (pt_cmpR op_ne (show PE _ _ (tBM K "list" (CG.rCntB K) _ _) from (pe_bm PySem.F.plainAttrs_list PySem.F.slot_list_count PySem.F.type_list_count CG.mt_lcountB (pv 2) (pa_cons pe_bl pa_nil))) pe_int (nomark _)) (pw_or1 (pt_not (pt_val (pe_callB (r := CG.rIsEG K cls d a) (CG.call_isEG hz hf) (by rfl) T.z_isinstance (by decide +kernel) (pa_cons (pv 1) (pa_cons (pe_bltn (v := .ty "ValueError") rfl T.z_ValueError (by decide +kernel) rfl) pa_nil)))))))) (pss_one (ps_ret (pe_tup (pa_cons pe_str (pa_cons pe_non pa_nil))))) pss_nil) (pss_cons (ps_if (pt_val (pe_ix (r := rIxL K) ix_list (pv 2) pe_int (fun _ _ => rfl))) (pss_one (ps_ret (pe_tup (pa_cons pe_str (pa_cons (pe_xf T.xf_InvalidNumber T.n_InvalidNumber_name hz hf (pv 1)) pa_nil))))) pss_nil) (pss_cons (ps_if (pt_val (pe_ix (r := rIxL K) ix_list (pv 2) pe_int (fun _ _ => rfl))) (pss_one (ps_ret (pe_tup (pa_cons pe_str (pa_cons (pe_xf T.xf_InvalidTargets T.n_InvalidTargets_index hz hf (pv 1)) pa_nil))))) pss_nil) (pss_one (ps_ret (pe_ifExp (pt_val (pe_ix (r := rIxL K) ix_list (pv 2) pe_int (fun _ _ => rfl))) (pe_tup (pa_cons pe_str (pa_cons (pe_xf T.xf_TooLarge T.n_TooLarge_limit hz hf (pv 1)) pa_nil))) (pe_tup (pa_cons pe_str (pa_cons (pe_xf T.xf_InvalidWitness T.n_InvalidWitness_index hz hf (pv 1)) pa_nil))))))))))))) (pss_one (ps_ret (pe_tup (pa_cons pe_str (pa_cons pe_non pa_nil)))))), ?_⟩
  refine ⟨rfl, here, _, ?_, h⟩
  rintro cls d G ⟨dd, fl, x, rfl, hdd, h⟩
  rcases h with ⟨rfl, rfl, kq⟩ | ⟨rfl, rfl, kq⟩ | ⟨rfl, rfl, kq⟩ | ⟨rfl, rfl, kq⟩
  · refine ⟨T.em_InvalidNumber_SeatError, fun a na => ?_⟩
    refine ⟨_, rfl, T.C_InvalidNumber, _, _, true, rfl, rfl, T.xi_InvalidNumber, ⟨dd, _, rfl, hdd⟩, CG.rel_cls, kit_self, _, rfl, T.C_InvalidNumber, _, _, false, rfl, rfl, T.xi_InvalidNumber, ⟨dd, _, rfl, hdd⟩, CG.rel_cls, CG.kit1 T.ki_InvalidNumber_InvalidTargets, slen rfl, ?_⟩
    (intro l1 nl1; generalize hGl1 : upd _ l1 _ = G1; have eG1 := exG hGl1 nl1; have hl1 := atG hGl1; clear hGl1)
    dsimp only [gName]
    refine ⟨_, rfl, _, rfl, T.C_InvalidNumber, _, _, false, rfl, rfl, T.xi_InvalidNumber, ⟨dd, _, rfl, eG1 _ _ hdd⟩, CG.rel_cls, CG.kit1 T.ki_InvalidNumber_TooLarge, _, rfl, T.C_InvalidNumber, _, _, false, rfl, rfl, T.xi_InvalidNumber, ⟨dd, _, rfl, eG1 _ _ hdd⟩, CG.rel_cls, CG.kit1 T.ki_InvalidNumber_InvalidWitness, slen rfl, ?_⟩
    (intro l2 nl2; generalize hGl2 : upd _ l2 _ = G2; have eG2 := exG hGl2 nl2; have hl2 := atG hGl2; clear hGl2)
    refine ⟨l1, l2, _, _, rfl, rfl, SqL.of (eG2 _ _ hl1), SqL.of hl2, by decide, ?_⟩
    (intro l3 nl3; generalize hGl3 : upd _ l3 _ = G3; have eG3 := exG hGl3 nl3; have hl3 := atG hGl3; clear hGl3)
    have hl3b : G3 l3 = some (.lst (([true, false, false, false] : List Bool).map V.bl)) := hl3
    have E3 := ext eG1 (ext eG2 eG3)
    have hdd3 := E3 _ _ hdd
    dsimp only [gName]
    refine ⟨_, rfl, .inl ⟨rfl, _, SqL.of hl3⟩, l3, [true, false, false, false], rfl, rfl, SqL.of hl3b, rfl, _, rfl, itf (by decide) ?_⟩
    refine ⟨_, rfl, T.C_InvalidNumber, _, _, true, rfl, rfl, T.xi_InvalidNumber, ⟨dd, _, rfl, hdd3⟩, CG.rel_ty, CG.kit1 T.ki_InvalidNumber_ValueError, _, rfl, itf rfl ?_⟩
    dsimp only [tNext]
    refine ⟨_, rfl, l3, _, _, _, rfl, rfl, SqL.of hl3, (L2.atI_nat (j := 0) rfl), _, rfl, itt rfl ?_⟩
    refine ⟨_, rfl, rfl, rfl, dd, _, _, rfl, hdd3, rfl, slen rfl, ?_⟩
    (intro r nr; generalize hGr : upd _ r _ = G4; have eG4 := exG hGr nr; have hr := atG hGr; clear hGr)
    exact kq G4 r (ext E3 eG4) hr
  · refine ⟨T.em_InvalidTargets_SeatError, fun a na => ?_⟩
    refine ⟨_, rfl, T.C_InvalidTargets, _, _, false, rfl, rfl, T.xi_InvalidTargets, ⟨dd, _, rfl, hdd⟩, CG.rel_cls, CG.kit1 T.ki_InvalidTargets_InvalidNumber, _, rfl, T.C_InvalidTargets, _, _, true, rfl, rfl, T.xi_InvalidTargets, ⟨dd, _, rfl, hdd⟩, CG.rel_cls, kit_self, slen rfl, ?_⟩
    (intro l1 nl1; generalize hGl1 : upd _ l1 _ = G1; have eG1 := exG hGl1 nl1; have hl1 := atG hGl1; clear hGl1)
    dsimp only [gName]
    refine ⟨_, rfl, _, rfl, T.C_InvalidTargets, _, _, false, rfl, rfl, T.xi_InvalidTargets, ⟨dd, _, rfl, eG1 _ _ hdd⟩, CG.rel_cls, CG.kit1 T.ki_InvalidTargets_TooLarge, _, rfl, T.C_InvalidTargets, _, _, false, rfl, rfl, T.xi_InvalidTargets, ⟨dd, _, rfl, eG1 _ _ hdd⟩, CG.rel_cls, CG.kit1 T.ki_InvalidTargets_InvalidWitness, slen rfl, ?_⟩
    (intro l2 nl2; generalize hGl2 : upd _ l2 _ = G2; have eG2 := exG hGl2 nl2; have hl2 := atG hGl2; clear hGl2)
    refine ⟨l1, l2, _, _, rfl, rfl, SqL.of (eG2 _ _ hl1), SqL.of hl2, by decide, ?_⟩
    (intro l3 nl3; generalize hGl3 : upd _ l3 _ = G3; have eG3 := exG hGl3 nl3; have hl3 := atG hGl3; clear hGl3)
    have hl3b : G3 l3 = some (.lst (([false, true, false, false] : List Bool).map V.bl)) := hl3
    have E3 := ext eG1 (ext eG2 eG3)
    have hdd3 := E3 _ _ hdd
    dsimp only [gName]
    refine ⟨_, rfl, .inl ⟨rfl, _, SqL.of hl3⟩, l3, [false, true, false, false], rfl, rfl, SqL.of hl3b, rfl, _, rfl, itf (by decide) ?_⟩
    refine ⟨_, rfl, T.C_InvalidTargets, _, _, true, rfl, rfl, T.xi_InvalidTargets, ⟨dd, _, rfl, hdd3⟩, CG.rel_ty, CG.kit1 T.ki_InvalidTargets_ValueError, _, rfl, itf rfl ?_⟩
    dsimp only [tNext]
    refine ⟨_, rfl, l3, _, _, _, rfl, rfl, SqL.of hl3, (L2.atI_nat (j := 0) rfl), _, rfl, itf rfl ?_⟩
    dsimp only [tNext]
    refine ⟨_, rfl, l3, _, _, _, rfl, rfl, SqL.of hl3, (L2.atI_nat (j := 1) rfl), _, rfl, itt rfl ?_⟩
    refine ⟨_, rfl, rfl, rfl, dd, _, _, rfl, hdd3, rfl, slen rfl, ?_⟩
    (intro r nr; generalize hGr : upd _ r _ = G4; have eG4 := exG hGr nr; have hr := atG hGr; clear hGr)
    exact kq G4 r (ext E3 eG4) hr
  · refine ⟨T.em_TooLarge_SeatError, fun a na => ?_⟩
    refine ⟨_, rfl, T.C_TooLarge, _, _, false, rfl, rfl, T.xi_TooLarge, ⟨dd, _, rfl, hdd⟩, CG.rel_cls, CG.kit1 T.ki_TooLarge_InvalidNumber, _, rfl, T.C_TooLarge, _, _, false, rfl, rfl, T.xi_TooLarge, ⟨dd, _, rfl, hdd⟩, CG.rel_cls, CG.kit1 T.ki_TooLarge_InvalidTargets, slen rfl, ?_⟩
    (intro l1 nl1; generalize hGl1 : upd _ l1 _ = G1; have eG1 := exG hGl1 nl1; have hl1 := atG hGl1; clear hGl1)
    dsimp only [gName]
    refine ⟨_, rfl, _, rfl, T.C_TooLarge, _, _, true, rfl, rfl, T.xi_TooLarge, ⟨dd, _, rfl, eG1 _ _ hdd⟩, CG.rel_cls, kit_self, _, rfl, T.C_TooLarge, _, _, false, rfl, rfl, T.xi_TooLarge, ⟨dd, _, rfl, eG1 _ _ hdd⟩, CG.rel_cls, CG.kit1 T.ki_TooLarge_InvalidWitness, slen rfl, ?_⟩
    (intro l2 nl2; generalize hGl2 : upd _ l2 _ = G2; have eG2 := exG hGl2 nl2; have hl2 := atG hGl2; clear hGl2)
    refine ⟨l1, l2, _, _, rfl, rfl, SqL.of (eG2 _ _ hl1), SqL.of hl2, by decide, ?_⟩
    (intro l3 nl3; generalize hGl3 : upd _ l3 _ = G3; have eG3 := exG hGl3 nl3; have hl3 := atG hGl3; clear hGl3)
    have hl3b : G3 l3 = some (.lst (([false, false, true, false] : List Bool).map V.bl)) := hl3
    have E3 := ext eG1 (ext eG2 eG3)
    have hdd3 := E3 _ _ hdd
    dsimp only [gName]
    refine ⟨_, rfl, .inl ⟨rfl, _, SqL.of hl3⟩, l3, [false, false, true, false], rfl, rfl, SqL.of hl3b, rfl, _, rfl, itf (by decide) ?_⟩
    refine ⟨_, rfl, T.C_TooLarge, _, _, true, rfl, rfl, T.xi_TooLarge, ⟨dd, _, rfl, hdd3⟩, CG.rel_ty, CG.kit1 T.ki_TooLarge_ValueError, _, rfl, itf rfl ?_⟩
    dsimp only [tNext]
    refine ⟨_, rfl, l3, _, _, _, rfl, rfl, SqL.of hl3, (L2.atI_nat (j := 0) rfl), _, rfl, itf rfl ?_⟩
    dsimp only [tNext]
    refine ⟨_, rfl, l3, _, _, _, rfl, rfl, SqL.of hl3, (L2.atI_nat (j := 1) rfl), _, rfl, itf rfl ?_⟩
    dsimp only [tNext]
    refine ⟨_, rfl, l3, _, _, _, rfl, rfl, SqL.of hl3, (L2.atI_nat (j := 2) rfl), _, rfl, itt rfl ?_⟩
    refine ⟨_, rfl, rfl, rfl, dd, _, _, rfl, hdd3, rfl, slen rfl, ?_⟩
    (intro r nr; generalize hGr : upd _ r _ = G4; have eG4 := exG hGr nr; have hr := atG hGr; clear hGr)
    exact kq G4 r (ext E3 eG4) hr
  · refine ⟨T.em_InvalidWitness_SeatError, fun a na => ?_⟩
    refine ⟨_, rfl, T.C_InvalidWitness, _, _, false, rfl, rfl, T.xi_InvalidWitness, ⟨dd, _, rfl, hdd⟩, CG.rel_cls, CG.kit1 T.ki_InvalidWitness_InvalidNumber, _, rfl, T.C_InvalidWitness, _, _, false, rfl, rfl, T.xi_InvalidWitness, ⟨dd, _, rfl, hdd⟩, CG.rel_cls, CG.kit1 T.ki_InvalidWitness_InvalidTargets, slen rfl, ?_⟩
    (intro l1 nl1; generalize hGl1 : upd _ l1 _ = G1; have eG1 := exG hGl1 nl1; have hl1 := atG hGl1; clear hGl1)
    dsimp only [gName]
    refine ⟨_, rfl, _, rfl, T.C_InvalidWitness, _, _, false, rfl, rfl, T.xi_InvalidWitness, ⟨dd, _, rfl, eG1 _ _ hdd⟩, CG.rel_cls, CG.kit1 T.ki_InvalidWitness_TooLarge, _, rfl, T.C_InvalidWitness, _, _, true, rfl, rfl, T.xi_InvalidWitness, ⟨dd, _, rfl, eG1 _ _ hdd⟩, CG.rel_cls, kit_self, slen rfl, ?_⟩
    (intro l2 nl2; generalize hGl2 : upd _ l2 _ = G2; have eG2 := exG hGl2 nl2; have hl2 := atG hGl2; clear hGl2)
    refine ⟨l1, l2, _, _, rfl, rfl, SqL.of (eG2 _ _ hl1), SqL.of hl2, by decide, ?_⟩
    (intro l3 nl3; generalize hGl3 : upd _ l3 _ = G3; have eG3 := exG hGl3 nl3; have hl3 := atG hGl3; clear hGl3)
    have hl3b : G3 l3 = some (.lst (([false, false, false, true] : List Bool).map V.bl)) := hl3
    have E3 := ext eG1 (ext eG2 eG3)
    have hdd3 := E3 _ _ hdd
    dsimp only [gName]
    refine ⟨_, rfl, .inl ⟨rfl, _, SqL.of hl3⟩, l3, [false, false, false, true], rfl, rfl, SqL.of hl3b, rfl, _, rfl, itf (by decide) ?_⟩
    refine ⟨_, rfl, T.C_InvalidWitness, _, _, true, rfl, rfl, T.xi_InvalidWitness, ⟨dd, _, rfl, hdd3⟩, CG.rel_ty, CG.kit1 T.ki_InvalidWitness_ValueError, _, rfl, itf rfl ?_⟩
    dsimp only [tNext]
    refine ⟨_, rfl, l3, _, _, _, rfl, rfl, SqL.of hl3, (L2.atI_nat (j := 0) rfl), _, rfl, itf rfl ?_⟩
    dsimp only [tNext]
    refine ⟨_, rfl, l3, _, _, _, rfl, rfl, SqL.of hl3, (L2.atI_nat (j := 1) rfl), _, rfl, itf rfl ?_⟩
    dsimp only [tNext]
    refine ⟨_, rfl, l3, _, _, _, rfl, rfl, SqL.of hl3, (L2.atI_nat (j := 2) rfl), _, rfl, itf rfl ?_⟩
    refine ⟨_, rfl, rfl, rfl, dd, _, _, rfl, hdd3, rfl, slen rfl, ?_⟩
    (intro r nr; generalize hGr : upd _ r _ = G4; have eG4 := exG hGr nr; have hr := atG hGr; clear hGr)
    exact kq G4 r (ext E3 eG4) hr
end

/-! ### all but the source, the dict b and the tables of code objects stays; facts that last over it -/
def XT (s b : Addr) (H H2 : Hp) : Prop := ∀ c o, c ≠ s → c ≠ b → (∀ ps, o ≠ HO.tbl ps) → H c = some o → H2 c = some o
theorem XT.refl {s b : Addr} {H : Hp} : XT s b H H := fun _ _ _ _ _ h => h
theorem XT.trans {s b : Addr} {H H1 H2 : Hp} (a : XT s b H H1) (c : XT s b H1 H2) : XT s b H H2 := fun x o n m t h => c x o n m t (a x o n m t h)
theorem XT.xb {s b : Addr} {H H2 : Hp} (x : XB s H H2) : XT s b H H2 := fun c o n _ _ h => x c o n h
theorem XT.of {s b : Addr} {H H2 : Hp} (e : Ex H H2) : XT s b H H2 := fun c o _ _ _ h => e c o h
theorem XT.en {s b : Addr} {H H2 : Hp} (e : LamX.ExtN H H2) : XT s b H H2 := fun c o _ _ t h => e c o h t
theorem XT.upd {s b : Addr} {H : Hp} {o : HO} : XT s b H (upd H b o) := fun c q _ m _ h => by rw [upd_ne m]; exact h
def IsF (K : PySem.W.Frag) (s b : Addr) (H : Hp) (x : V) (o : Option Int) : Prop := ∀ H3, XT s b H H3 → IsI K H3 x o
def TgF (K : PySem.W.Frag) (s b : Addr) (H : Hp) (x : V) (od : Option (List PyData)) : Prop := ∀ H3, XT s b H H3 → TgtAt K (fun _ => True) H3 x od
theorem IsF.to {K : PySem.W.Frag} {s b : Addr} {H H2 : Hp} {x : V} {o : Option Int} (t : XT s b H H2) (h : IsF K s b H x o) : IsF K s b H2 x o := fun H3 u => h H3 (t.trans u)
theorem TgF.to {K : PySem.W.Frag} {s b : Addr} {H H2 : Hp} {x : V} {od : Option (List PyData)} (t : XT s b H H2) (h : TgF K s b H x od) : TgF K s b H2 x od := fun H3 u => h H3 (t.trans u)
theorem IsF.at {K : PySem.W.Frag} {s b : Addr} {H : Hp} {x : V} {o : Option Int} (h : IsF K s b H x o) : IsI K H x o := h H .refl
theorem isF_int {K : PySem.W.Frag} {s b : Addr} {H : Hp} (i : Int) : IsF K s b H (.int i) (some i) := fun _ _ => rfl
theorem isF_non {K : PySem.W.Frag} {s b : Addr} {H : Hp} : IsF K s b H .non none := fun _ _ => (Dq.non (B := fun _ => True)).isI
theorem isF_bl {K : PySem.W.Frag} {s b : Addr} {H : Hp} (z : Bool) : IsF K s b H (.bl z) none := fun _ _ => (Dq.bl (B := fun _ => True) z).isI
theorem isF_str {K : PySem.W.Frag} {s b : Addr} {H : Hp} (z : Str) : IsF K s b H (.str z) none := fun _ _ => (Dq.str (B := fun _ => True) z).isI
theorem isF_tup {K : PySem.W.Frag} {s b a : Addr} {H : Hp} {xs : List V} (h : H a = some (.tup xs)) (n : a ≠ s) (m : a ≠ b) : IsF K s b H (.ref a) none := fun H3 t => ⟨_, _, _, .base (.tup (t _ _ n m (fun _ z => nomatch z) h)), kit_ty (r := false) (by decide +kernel), kit_ty (r := false) (by decide +kernel), rfl⟩
theorem isF_lst {K : PySem.W.Frag} {s b a : Addr} {H : Hp} {xs : List V} (h : H a = some (.lst xs)) (n : a ≠ s) (m : a ≠ b) : IsF K s b H (.ref a) none := fun H3 t => ⟨_, _, _, .base (.lst (t _ _ n m (fun _ z => nomatch z) h)), kit_ty (r := false) (by decide +kernel), kit_ty (r := false) (by decide +kernel), rfl⟩
theorem tgF_no {K : PySem.W.Frag} {s b : Addr} {H : Hp} {x : V} (h : ∀ H3, NoSeq H3 x) : TgF K s b H x none := fun H3 _ => h H3
theorem tgF_dK {K : PySem.W.Frag} {s b a : Addr} {H : Hp} {kvs : List (Key × V)} (h : H a = some (.dK kvs)) (n : a ≠ s) (m : a ≠ b) : TgF K s b H (.ref a) none := fun H3 t => .inr (.inr (.inr (.inr ⟨_, rfl, .inl ⟨_, t _ _ n m (fun _ z => nomatch z) h⟩⟩)))
theorem tgF_lst {K : PySem.W.Frag} {s b a : Addr} {H : Hp} {xs : List V} {ds : List PyData} (h : H a = some (.lst xs)) (n : a ≠ s) (m : a ≠ b) (all : ∀ H3, XT s b H H3 → DqAll (fun _ => True) H3 xs ds) : TgF K s b H (.ref a) (some ds) := fun H3 t => ⟨(false, a), xs, rfl, t _ _ n m (fun _ z => nomatch z) h, all H3 t⟩
theorem tgF_tup {K : PySem.W.Frag} {s b a : Addr} {H : Hp} {xs : List V} {ds : List PyData} (h : H a = some (.tup xs)) (n : a ≠ s) (m : a ≠ b) (all : ∀ H3, XT s b H H3 → DqAll (fun _ => True) H3 xs ds) : TgF K s b H (.ref a) (some ds) := fun H3 t => ⟨(true, a), xs, rfl, t _ _ n m (fun _ z => nomatch z) h, all H3 t⟩
theorem fresh_ne {a b : Addr} {H G : Hp} (e : Ex H G) (n : G a = none) (h : H b ≠ none) : a ≠ b := fun z => by
  rw [z] at n
  cases hb : H b with
  | none => exact h hb
  | some o =>
    rw [e _ _ hb] at n
    cases n
theorem goP_one {n : Int} {d : PyData} {ds : List PyData} (h : between (intD d) 0 (n - 1) = false) : placeDue n (some (d :: ds)) = some 0 := by
  show (if d :: ds = [] then some (-1) else goP n (d :: ds) []) = some 0
  rw [if_neg (by simp)]
  unfold goP
  rw [if_neg (by rw [h]; simp)]
  rfl
theorem goP_two {n : Int} {d d2 : PyData} {ds : List PyData} (h : between (intD d) 0 (n - 1) = true) (h2 : between (intD d2) 0 (n - 1) = false ∨ (intD d2).getD 0 = (intD d).getD 0) : placeDue n (some (d :: d2 :: ds)) = some 1 := by
  show (if d :: d2 :: ds = [] then some (-1) else goP n (d :: d2 :: ds) []) = some 1
  rw [if_neg (by simp)]
  unfold goP
  rw [if_pos ⟨h, by simp⟩]
  unfold goP
  rw [if_neg (by rcases h2 with h2 | h2 <;> simp [h2])]
  rfl
theorem btw_no {i n : Int} (h : i < 0 ∨ n ≤ i) : between (some i) 0 (n - 1) = false := by
  show (decide (0 ≤ i) && decide (i ≤ n - 1)) = false
  rcases h with h | h
  · rw [decide_eq_false (by omega), Bool.false_and]
  · rw [decide_eq_false (p := i ≤ n - 1) (by omega), Bool.and_false]
theorem btw_yes {i n : Int} (h : 0 ≤ i) (h2 : i < n) : between (some i) 0 (n - 1) = true := by
  show (decide (0 ≤ i) && decide (i ≤ n - 1)) = true
  rw [decide_eq_true (by omega), decide_eq_true (p := i ≤ n - 1) (by omega)]
  rfl
theorem sif_cutX {c : TT} {t u r : TS} {D : Ends} {σ : L2.St} {H : Hp} (R : L2.St → Hp → Prop) (h : ∀ N : L2.St → Hp → Prop, (∀ σ2 H2, R σ2 H2 → N σ2 H2) → tIfS c t u { D with nx := N } σ H) (hR : ∀ σ2 H2, R σ2 H2 → r D σ2 H2) : tSeq (tIfS c t u) r D σ H :=
  ifs_cutG (D := { D with nx := r D }) R hR h

theorem atI_nn57 {α : Type} {xs : List α} {k : Nat} {v : α} (h : xs[k]? = some v) : atI xs (k : Int) = some v := by
  unfold atI
  rw [Evl.ixN_nat (List.getElem?_eq_some_iff.mp h).1]
  exact h
section
variable {P : Program} {w : World} {K : PySem.W.Frag} {mg : Str → Option Value} {base : Heap}
def sp_law_bad_number (K : PySem.W.Frag) : Sp := fun vs H Q _ => ∃ (s : Addr) (low high : Int) (m : Nat), vs = [.ref s, .int low, .int high] ∧ Sr5 H s (m + 1) ∧ low ≤ high ∧ ∀ x o H2, (∀ b, H b ≠ none → IsF K s b H2 x o) → between o low high = false → XB s H H2 → Sr5 H2 s m → Q x H2
theorem ok_law_bad_number (T : TX K mg) : FnOk P w K mg base CX0 2 T.f_law_bad_number T.fd_law_bad_number ["_law_source_here", "_law_low", "_law_high"] (sp_law_bad_number K) := by
  refine T.F_law_bad_number.ok sc_law_bad_number (fun vs H Q E h => ?_) (fun cdv A outer s H vs Q E hr h => ?_)
  · obtain ⟨s, low, high, m, rfl, _⟩ := h
    rfl
  · obtain ⟨s, low, high, m, rfl, src, lh, k⟩ := h
    refine ⟨_, (pss_one (ps_ret (pe_ix ix_list (pe_lst (pa_cons (pe_op op_sub (pv 1) pe_int) (pa_cons (pe_op op_add (pv 2) pe_int) (pa_cons pe_bl (pa_cons pe_non (pa_cons pe_str (pa_cons (pe_tup (pa_cons pe_int pa_nil)) (pa_cons (pe_lst (pa_cons pe_int pa_nil)) (pa_cons (pe_op op_sub (pv 1) (pe_op op_pow pe_int pe_int)) (pa_cons (pe_op op_add (pv 2) (pe_op op_pow pe_int pe_int)) pa_nil)))))))))) (pe_call (ok_law_take T) hr rfl T.m_law_take T.F_law_take.kp T.b_law_take .nil pass0 (pa_cons (pv 0) (pa_cons pe_int pa_nil))) (fun _ _ => rfl)))), ?_⟩
    refine ⟨_, rfl, _, _, rfl, rfl, _, rfl, _, _, rfl, rfl, slen rfl, ?_⟩
    (intro t1 nt1; generalize hGt1 : upd _ t1 _ = H1; have eH1 := exG hGt1 nt1; have ht1 := atG hGt1; clear hGt1)
    refine ⟨slen rfl, ?_⟩
    (intro l1 nl1; generalize hGl1 : upd _ l1 _ = H2; have eH2 := exG hGl1 nl1; have hl1 := atG hGl1; clear hGl1)
    refine ⟨_, rfl, _, _, rfl, rfl, ⟨by decide, by decide +kernel⟩, _, _, rfl, rfl, _, rfl, _, _, rfl, rfl, ⟨by decide, by decide +kernel⟩, _, _, rfl, rfl, slen rfl, ?_⟩
    (intro L nL; generalize hGL : upd _ L _ = H3; have eH3 := exG hGL nL; have hL := atG hGL; clear hGL)
    have p30 : (10 ^ Int.toNat 30 : Int) = 1000000000000000000000000000000 := by decide +kernel
    rw [p30] at hL
    have e3 := ext eH1 (ext eH2 eH3)
    have nl1s := (Sr5.mono eH1 src).ne nl1
    have nt1s := src.ne nt1
    have nL := (Sr5.mono (ext eH1 eH2) src).ne nL
    have src3 := Sr5.mono e3 src
    have bt : ∀ i : Int, (i < low ∨ high < i) → between (some i) low high = false := fun i h => by
      show (decide (low ≤ i) && decide (i ≤ high)) = false
      rcases h with h | h
      · rw [decide_eq_false (by omega), Bool.false_and]
      · rw [decide_eq_false (p := i ≤ high) (by omega), Bool.and_false]
    have all : ∀ v ∈ ([.int (low - 1), .int (high + 1), .bl true, .non, .str "1", .ref t1, .ref l1, .int (low - 1000000000000000000000000000000), .int (high + 1000000000000000000000000000000)] : List V), ∃ o, (∀ b, H b ≠ none → IsF K s b H3 v o) ∧ between o low high = false := fun v hv => by
      simp only [List.mem_cons, List.not_mem_nil, or_false] at hv
      rcases hv with rfl | rfl | rfl | rfl | rfl | rfl | rfl | rfl | rfl
      · exact ⟨_, fun _ _ => isF_int _, bt _ (.inl (by omega))⟩
      · exact ⟨_, fun _ _ => isF_int _, bt _ (.inr (by omega))⟩
      · exact ⟨_, fun _ _ => isF_bl _, rfl⟩
      · exact ⟨_, fun _ _ => isF_non, rfl⟩
      · exact ⟨_, fun _ _ => isF_str _, rfl⟩
      · exact ⟨_, fun b hb => isF_tup ((ext eH2 eH3) _ _ ht1) nt1s (fresh_ne exr nt1 hb), rfl⟩
      · exact ⟨_, fun b hb => isF_lst (eH3 _ _ hl1) nl1s (fresh_ne eH1 nl1 hb), rfl⟩
      · exact ⟨_, fun _ _ => isF_int _, bt _ (.inl (by omega))⟩
      · exact ⟨_, fun _ _ => isF_int _, bt _ (.inr (by omega))⟩
    refine ⟨_, rfl, s, 9, m, rfl, src3, by decide, by decide +kernel, fun r H4 r0 r1 xb src4 => ?_⟩
    obtain ⟨j, rfl⟩ := Int.eq_ofNat_of_zero_le r0
    have jl : j < ([V.int (low - 1), .int (high + 1), .bl true, .non, .str "1", .ref t1, .ref l1, .int (low - 1000000000000000000000000000000), .int (high + 1000000000000000000000000000000)]).length := by show j < 9; omega
    have hj := List.getElem?_eq_getElem jl
    obtain ⟨o, hf, bo⟩ := all _ (List.getElem_mem jl)
    exact ⟨L, _, _, _, rfl, rfl, SqL.of (xb _ _ nL hL), atI_nn57 hj, k _ o _ (fun b hb => (hf b hb).to (XT.xb xb)) bo ((XB.of e3).trans xb) src4⟩
end

section
variable {P : Program} {w : World} {K : PySem.W.Frag} {mg : Str → Option Value} {base : Heap}
/-- the pair (targets, index): targets that are not valid on a ring, and the index that is due; H0: the heap ahead of it -/
def PairF (K : PySem.W.Frag) (s : Addr) (n : Int) (H0 H : Hp) (v : V) : Prop := ∃ (r : Addr) (x : V) (i : Int) (od : Option (List PyData)), v = .ref r ∧ r ≠ s ∧ H r = some (.tup [x, .int i]) ∧ (∀ b, H0 b ≠ none → TgF K s b H x od) ∧ (∀ ds, od = some ds → ds.length ≤ 100) ∧ placeDue n od = some i
theorem PairF.xb {K : PySem.W.Frag} {s : Addr} {n : Int} {H0 H H2 : Hp} {v : V} (x : XB s H H2) (h : PairF K s n H0 H v) : PairF K s n H0 H2 v := by
  obtain ⟨r, y, i, od, e, ns, hr, tg, le, du⟩ := h
  exact ⟨r, y, i, od, e, ns, x _ _ ns hr, fun b hb => (tg b hb).to (XT.xb x), le, du⟩
theorem pairF_no {K : PySem.W.Frag} {s r : Addr} {n : Int} {H0 H : Hp} {x : V} (hr : H r = some (.tup [x, .int (-1)])) (nr : r ≠ s) (h : ∀ H3, NoSeq H3 x) : PairF K s n H0 H (.ref r) := ⟨r, x, _, none, rfl, nr, hr, fun _ _ => tgF_no h, (fun ds z => nomatch z), rfl⟩
theorem pairF_lst {K : PySem.W.Frag} {s r a : Addr} {n i : Int} {H0 G H : Hp} {xs : List V} {ds : List PyData} (hr : H r = some (.tup [.ref a, .int i])) (nr : r ≠ s) (ha : H a = some (.lst xs)) (na : a ≠ s) (e : Ex H0 G) (fa : G a = none) (l : ds.length ≤ 100) (du : placeDue n (some ds) = some i) (all : ∀ b, H0 b ≠ none → ∀ H3, XT s b H H3 → DqAll (fun _ => True) H3 xs ds) : PairF K s n H0 H (.ref r) :=
  ⟨r, _, _, some ds, rfl, nr, hr, fun b hb => tgF_lst ha na (fresh_ne e fa hb) (all b hb), fun d z => by obtain rfl := Option.some.inj z; exact l, du⟩
theorem pairF_tup {K : PySem.W.Frag} {s r a : Addr} {n i : Int} {H0 G H : Hp} {xs : List V} {ds : List PyData} (hr : H r = some (.tup [.ref a, .int i])) (nr : r ≠ s) (ha : H a = some (.tup xs)) (na : a ≠ s) (e : Ex H0 G) (fa : G a = none) (l : ds.length ≤ 100) (du : placeDue n (some ds) = some i) (all : ∀ b, H0 b ≠ none → ∀ H3, XT s b H H3 → DqAll (fun _ => True) H3 xs ds) : PairF K s n H0 H (.ref r) :=
  ⟨r, _, _, some ds, rfl, nr, hr, fun b hb => tgF_tup ha na (fresh_ne e fa hb) (all b hb), fun d z => by obtain rfl := Option.some.inj z; exact l, du⟩
def sp_law_bad_targets (K : PySem.W.Frag) : Sp := fun vs H Q _ => ∃ (s : Addr) (n : Int) (m : Nat), vs = [.ref s, .int n] ∧ Sr5 H s (m + 1) ∧ 2 ≤ n ∧ ∀ v H2, PairF K s n H H2 v → XB s H H2 → Sr5 H2 s m → Q v H2
theorem ok_law_bad_targets (T : TX K mg) : FnOk P w K mg base CX0 2 T.f_law_bad_targets T.fd_law_bad_targets ["_law_source_here", "_law_ring"] (sp_law_bad_targets K) := by
  refine T.F_law_bad_targets.ok sc_law_bad_targets (fun vs H Q E h => ?_) (fun cdv A outer s H vs Q E hr h => ?_)
  · obtain ⟨s, n, m, rfl, _⟩ := h
    rfl
  · obtain ⟨s, n, m, rfl, src, n2, k⟩ := h
    refine ⟨_, (pss_cons (ps_set (i := 2) sc_law_bad_targets.nd rfl (Or.inl rfl) (pe_lst (pa_cons (pe_tup (pa_cons pe_non (pa_cons (pe_un un_neg pe_int) pa_nil))) (pa_cons (pe_tup (pa_cons (pe_lst pa_nil) (pa_cons (pe_un un_neg pe_int) pa_nil))) (pa_cons (pe_tup (pa_cons (pe_tup pa_nil) (pa_cons (pe_un un_neg pe_int) pa_nil))) (pa_cons (pe_tup (pa_cons pe_str (pa_cons (pe_un un_neg pe_int) pa_nil))) (pa_cons (pe_tup (pa_cons pe_int (pa_cons (pe_un un_neg pe_int) pa_nil))) (pa_cons (pe_tup (pa_cons (pe_lst (pa_cons (pv 1) pa_nil)) (pa_cons pe_int pa_nil))) (pa_cons (pe_tup (pa_cons (pe_lst (pa_cons pe_int (pa_cons pe_int pa_nil))) (pa_cons pe_int pa_nil))) (pa_cons (pe_tup (pa_cons (pe_tup (pa_cons pe_int (pa_cons (pe_un un_neg pe_int) pa_nil))) (pa_cons pe_int pa_nil))) (pa_cons (pe_tup (pa_cons (pe_lst (pa_cons pe_bl pa_nil)) (pa_cons pe_int pa_nil))) pa_nil))))))))))) (pss_cons (ps_set (i := 2) sc_law_bad_targets.nd rfl (Or.inl rfl) (pe_op (r := rCatR K) op_catR (pv 2) (pe_lst (pa_cons (pe_tup (pa_cons (pe_lst (pa_cons pe_int (pa_cons pe_non pa_nil))) (pa_cons pe_int pa_nil))) (pa_cons (pe_tup (pa_cons (pe_lst (pa_cons pe_int (pa_cons (pe_tup (pa_cons pe_int pa_nil)) pa_nil))) (pa_cons pe_int pa_nil))) (pa_cons (pe_tup (pa_cons (pe_lst (pa_cons (pe_op op_sub (pv 1) pe_int) (pa_cons pe_str pa_nil))) (pa_cons pe_int pa_nil))) (pa_cons (pe_tup (pa_cons (pe_disp (pps_cons pe_int pe_int pps_nil) rfl rfl (by simp) (by decide)) (pa_cons (pe_un un_neg pe_int) pa_nil))) (pa_cons (pe_tup (pa_cons (pe_lst (pa_cons pe_int (pa_cons (pv 1) (pa_cons pe_int pa_nil)))) (pa_cons pe_int pa_nil))) pa_nil)))))))) (pss_one (ps_ret (pe_ix ix_list (pv 2) (pe_call (ok_law_take T) hr rfl T.m_law_take T.F_law_take.kp T.b_law_take .nil pass0 (pa_cons (pv 0) (pa_cons pe_int pa_nil))) (fun _ _ => rfl)))))), ?_⟩
    refine ⟨_, rfl, slen rfl, ?_⟩
    (intro p1 np1; generalize hGp1 : upd _ p1 _ = G1; have eG1 := exG hGp1 np1; have hp1 := atG hGp1; clear hGp1)
    refine ⟨slen rfl, ?_⟩
    (intro a2 na2; generalize hGa2 : upd _ a2 _ = G2; have eG2 := exG hGa2 na2; have ha2 := atG hGa2; clear hGa2)
    refine ⟨_, rfl, slen rfl, ?_⟩
    (intro p2 np2; generalize hGp2 : upd _ p2 _ = G3; have eG3 := exG hGp2 np2; have hp2 := atG hGp2; clear hGp2)
    refine ⟨slen rfl, ?_⟩
    (intro a3 na3; generalize hGa3 : upd _ a3 _ = G4; have eG4 := exG hGa3 na3; have ha3 := atG hGa3; clear hGa3)
    refine ⟨_, rfl, slen rfl, ?_⟩
    (intro p3 np3; generalize hGp3 : upd _ p3 _ = G5; have eG5 := exG hGp3 np3; have hp3 := atG hGp3; clear hGp3)
    refine ⟨_, rfl, slen rfl, ?_⟩
    (intro p4 np4; generalize hGp4 : upd _ p4 _ = G6; have eG6 := exG hGp4 np4; have hp4 := atG hGp4; clear hGp4)
    refine ⟨_, rfl, slen rfl, ?_⟩
    (intro p5 np5; generalize hGp5 : upd _ p5 _ = G7; have eG7 := exG hGp5 np5; have hp5 := atG hGp5; clear hGp5)
    refine ⟨_, rfl, slen rfl, ?_⟩
    (intro a6 na6; generalize hGa6 : upd _ a6 _ = G8; have eG8 := exG hGa6 na6; have ha6 := atG hGa6; clear hGa6)
    refine ⟨slen rfl, ?_⟩
    (intro p6 np6; generalize hGp6 : upd _ p6 _ = G9; have eG9 := exG hGp6 np6; have hp6 := atG hGp6; clear hGp6)
    refine ⟨slen rfl, ?_⟩
    (intro a7 na7; generalize hGa7 : upd _ a7 _ = G10; have eG10 := exG hGa7 na7; have ha7 := atG hGa7; clear hGa7)
    refine ⟨slen rfl, ?_⟩
    (intro p7 np7; generalize hGp7 : upd _ p7 _ = G11; have eG11 := exG hGp7 np7; have hp7 := atG hGp7; clear hGp7)
    refine ⟨_, rfl, slen rfl, ?_⟩
    (intro a8 na8; generalize hGa8 : upd _ a8 _ = G12; have eG12 := exG hGa8 na8; have ha8 := atG hGa8; clear hGa8)
    refine ⟨slen rfl, ?_⟩
    (intro p8 np8; generalize hGp8 : upd _ p8 _ = G13; have eG13 := exG hGp8 np8; have hp8 := atG hGp8; clear hGp8)
    refine ⟨slen rfl, ?_⟩
    (intro a9 na9; generalize hGa9 : upd _ a9 _ = G14; have eG14 := exG hGa9 na9; have ha9 := atG hGa9; clear hGa9)
    refine ⟨slen rfl, ?_⟩
    (intro p9 np9; generalize hGp9 : upd _ p9 _ = G15; have eG15 := exG hGp9 np9; have hp9 := atG hGp9; clear hGp9)
    refine ⟨slen rfl, ?_⟩
    (intro L1 nL1; generalize hGL1 : upd _ L1 _ = G16; have eG16 := exG hGL1 nL1; have hL1 := atG hGL1; clear hGL1)
    dsimp only [gName]
    refine ⟨_, rfl, slen rfl, ?_⟩
    (intro a10 na10; generalize hGa10 : upd _ a10 _ = G17; have eG17 := exG hGa10 na10; have ha10 := atG hGa10; clear hGa10)
    refine ⟨slen rfl, ?_⟩
    (intro p10 np10; generalize hGp10 : upd _ p10 _ = G18; have eG18 := exG hGp10 np10; have hp10 := atG hGp10; clear hGp10)
    refine ⟨slen rfl, ?_⟩
    (intro b11 nb11; generalize hGb11 : upd _ b11 _ = G19; have eG19 := exG hGb11 nb11; have hb11 := atG hGb11; clear hGb11)
    refine ⟨slen rfl, ?_⟩
    (intro a11 na11; generalize hGa11 : upd _ a11 _ = G20; have eG20 := exG hGa11 na11; have ha11 := atG hGa11; clear hGa11)
    refine ⟨slen rfl, ?_⟩
    (intro p11 np11; generalize hGp11 : upd _ p11 _ = G21; have eG21 := exG hGp11 np11; have hp11 := atG hGp11; clear hGp11)
    refine ⟨_, rfl, _, _, rfl, rfl, slen rfl, ?_⟩
    (intro a12 na12; generalize hGa12 : upd _ a12 _ = G22; have eG22 := exG hGa12 na12; have ha12 := atG hGa12; clear hGa12)
    refine ⟨slen rfl, ?_⟩
    (intro p12 np12; generalize hGp12 : upd _ p12 _ = G23; have eG23 := exG hGp12 np12; have hp12 := atG hGp12; clear hGp12)
    refine fun dd ndd => ⟨upd_same, [(.inl 0, .int 1)], rfl, by decide, _, rfl, slen rfl, ?_⟩
    generalize hG : upd (upd G23 dd _) dd _ = G24
    have eG24 : Ex G23 G24 := fun c o q => by
      rw [← hG, upd_ne (ne_of_none q ndd), upd_ne (ne_of_none q ndd)]
      exact q
    have hdd := atG hG
    clear hG
    (intro p13 np13; generalize hGp13 : upd _ p13 _ = G25; have eG25 := exG hGp13 np13; have hp13 := atG hGp13; clear hGp13)
    refine ⟨_, rfl, slen rfl, ?_⟩
    (intro a14 na14; generalize hGa14 : upd _ a14 _ = G26; have eG26 := exG hGa14 na14; have ha14 := atG hGa14; clear hGa14)
    refine ⟨slen rfl, ?_⟩
    (intro p14 np14; generalize hGp14 : upd _ p14 _ = G27; have eG27 := exG hGp14 np14; have hp14 := atG hGp14; clear hGp14)
    refine ⟨slen rfl, ?_⟩
    (intro L2 nL2; generalize hGL2 : upd _ L2 _ = G28; have eG28 := exG hGL2 nL2; have hL2 := atG hGL2; clear hGL2)
    have u16 : Ex G16 G28 := (ext eG17 (ext eG18 (ext eG19 (ext eG20 (ext eG21 (ext eG22 (ext eG23 (ext eG24 (ext eG25 (ext eG26 (ext eG27 eG28)))))))))))
    refine ⟨L1, L2, _, _, rfl, rfl, SqL.of (u16 _ _ hL1), SqL.of hL2, slen rfl, ?_⟩
    (intro L3 nL3; generalize hGL3 : upd _ L3 _ = G29; have eG29 := exG hGL3 nL3; have hL3 := atG hGL3; clear hGL3)
    dsimp only [gName]
    refine ⟨_, rfl, _, rfl, s, 14, m, rfl, Sr5.mono (ext eG1 (ext eG2 (ext eG3 (ext eG4 (ext eG5 (ext eG6 (ext eG7 (ext eG8 (ext eG9 (ext eG10 (ext eG11 (ext eG12 (ext eG13 (ext eG14 (ext eG15 (ext eG16 (ext u16 eG29))))))))))))))))) src, by decide, by decide +kernel, fun r H4 r0 r1 xb src4 => ?_⟩
    have w1 := eG1
    have w2 := ext w1 eG2
    have w3 := ext w2 eG3
    have w4 := ext w3 eG4
    have w5 := ext w4 eG5
    have w6 := ext w5 eG6
    have w7 := ext w6 eG7
    have w8 := ext w7 eG8
    have w9 := ext w8 eG9
    have w10 := ext w9 eG10
    have w11 := ext w10 eG11
    have w12 := ext w11 eG12
    have w13 := ext w12 eG13
    have w14 := ext w13 eG14
    have w15 := ext w14 eG15
    have w16 := ext w15 eG16
    have w17 := ext w16 eG17
    have w18 := ext w17 eG18
    have w19 := ext w18 eG19
    have w20 := ext w19 eG20
    have w21 := ext w20 eG21
    have w22 := ext w21 eG22
    have w23 := ext w22 eG23
    have w24 := ext w23 eG24
    have w25 := ext w24 eG25
    have w26 := ext w25 eG26
    have w27 := ext w26 eG27
    have w28 := ext w27 eG28
    have w29 := ext w28 eG29
    have v28 := eG29
    have v27 := ext eG28 v28
    have v26 := ext eG27 v27
    have v25 := ext eG26 v26
    have v24 := ext eG25 v25
    have v23 := ext eG24 v24
    have v22 := ext eG23 v23
    have v21 := ext eG22 v22
    have v20 := ext eG21 v21
    have v19 := ext eG20 v20
    have v18 := ext eG19 v19
    have v17 := ext eG18 v18
    have v16 := ext eG17 v17
    have v15 := ext eG16 v16
    have v14 := ext eG15 v15
    have v13 := ext eG14 v14
    have v12 := ext eG13 v13
    have v11 := ext eG12 v12
    have v10 := ext eG11 v11
    have v9 := ext eG10 v10
    have v8 := ext eG9 v9
    have v7 := ext eG8 v8
    have v6 := ext eG7 v7
    have v5 := ext eG6 v6
    have v4 := ext eG5 v5
    have v3 := ext eG4 v4
    have v2 := ext eG3 v3
    have v1 := ext eG2 v2
    have all : ∀ v ∈ [V.ref p1, V.ref p2, V.ref p3, V.ref p4, V.ref p5, V.ref p6, V.ref p7, V.ref p8, V.ref p9, V.ref p10, V.ref p11, V.ref p12, V.ref p13, V.ref p14], PairF K s n H G29 v := fun v hv => by
      simp only [List.mem_cons, List.not_mem_nil, or_false] at hv
      rcases hv with rfl | rfl | rfl | rfl | rfl | rfl | rfl | rfl | rfl | rfl | rfl | rfl | rfl | rfl
      · exact pairF_no (v1 _ _ hp1) (src.ne np1) (fun _ => .inl rfl)
      · exact pairF_lst (ds := []) (v3 _ _ hp2) ((Sr5.mono w2 src).ne np2) (v2 _ _ ha2) ((Sr5.mono w1 src).ne na2) w1 na2 (by simp) rfl (fun b hb H3 t => .nil)
      · exact pairF_tup (ds := []) (v5 _ _ hp3) ((Sr5.mono w4 src).ne np3) (v4 _ _ ha3) ((Sr5.mono w3 src).ne na3) w3 na3 (by simp) rfl (fun b hb H3 t => .nil)
      · exact pairF_no (v6 _ _ hp4) ((Sr5.mono w5 src).ne np4) (fun _ => .inr (.inr (.inr (.inl ⟨_, rfl⟩))))
      · exact pairF_no (v7 _ _ hp5) ((Sr5.mono w6 src).ne np5) (fun _ => .inr (.inr (.inl ⟨_, rfl⟩)))
      · exact pairF_lst (ds := [.int n]) (v9 _ _ hp6) ((Sr5.mono w8 src).ne np6) (v8 _ _ ha6) ((Sr5.mono w7 src).ne na6) w7 na6 (by simp) (goP_one (btw_no (.inr (by omega)))) (fun b hb H3 t => .cons (.int n) .nil)
      · exact pairF_lst (ds := [.int 0, .int 0]) (v11 _ _ hp7) ((Sr5.mono w10 src).ne np7) (v10 _ _ ha7) ((Sr5.mono w9 src).ne na7) w9 na7 (by simp) (goP_two (btw_yes (by omega) (by omega)) (.inr rfl)) (fun b hb H3 t => .cons (.int 0) (.cons (.int 0) .nil))
      · exact pairF_tup (ds := [.int 0, .int (-1)]) (v13 _ _ hp8) ((Sr5.mono w12 src).ne np8) (v12 _ _ ha8) ((Sr5.mono w11 src).ne na8) w11 na8 (by simp) (goP_two (btw_yes (by omega) (by omega)) (.inl (btw_no (.inl (by omega))))) (fun b hb H3 t => .cons (.int 0) (.cons (.int (-1)) .nil))
      · exact pairF_lst (ds := [.bool true]) (v15 _ _ hp9) ((Sr5.mono w14 src).ne np9) (v14 _ _ ha9) ((Sr5.mono w13 src).ne na9) w13 na9 (by simp) (goP_one rfl) (fun b hb H3 t => .cons (.bl true) .nil)
      · exact pairF_lst (ds := [.int 0, .none]) (v18 _ _ hp10) ((Sr5.mono w17 src).ne np10) (v17 _ _ ha10) ((Sr5.mono w16 src).ne na10) w16 na10 (by simp) (goP_two (btw_yes (by omega) (by omega)) (.inl rfl)) (fun b hb H3 t => .cons (.int 0) (.cons .non .nil))
      · exact pairF_lst (ds := [.int 0, .tuple [.int 0]]) (v21 _ _ hp11) ((Sr5.mono w20 src).ne np11) (v20 _ _ ha11) ((Sr5.mono w19 src).ne na11) w19 na11 (by simp) (goP_two (btw_yes (by omega) (by omega)) (.inl rfl)) (fun b hb H3 t => .cons (.int 0) (.cons (.tup (t _ _ ((Sr5.mono w18 src).ne nb11) (fresh_ne w18 nb11 hb) (fun _ z => nomatch z) (v19 _ _ hb11)) (.cons (.int 0) .nil)) .nil))
      · exact pairF_lst (ds := [.int (n - 1), .str "0"]) (v23 _ _ hp12) ((Sr5.mono w22 src).ne np12) (v22 _ _ ha12) ((Sr5.mono w21 src).ne na12) w21 na12 (by simp) (goP_two (btw_yes (by omega) (by omega)) (.inl rfl)) (fun b hb H3 t => .cons (.int (n - 1)) (.cons (.str "0") .nil))
      · exact ⟨p13, _, _, none, rfl, ((Sr5.mono w24 src).ne np13), (v25 _ _ hp13), fun b hb => tgF_dK (v24 _ _ hdd) ((Sr5.mono w23 src).ne ndd) (fresh_ne w23 ndd hb), (fun ds z => nomatch z), rfl⟩
      · exact pairF_lst (ds := [.int 0, .int n, .int 0]) (v27 _ _ hp14) ((Sr5.mono w26 src).ne np14) (v26 _ _ ha14) ((Sr5.mono w25 src).ne na14) w25 na14 (by simp) (goP_two (btw_yes (by omega) (by omega)) (.inl (btw_no (.inr (by omega))))) (fun b hb H3 t => .cons (.int 0) (.cons (.int n) (.cons (.int 0) .nil)))
    have nL3 := (Sr5.mono w28 src).ne nL3
    obtain ⟨j, rfl⟩ := Int.eq_ofNat_of_zero_le r0
    have jl : j < ([V.ref p1, V.ref p2, V.ref p3, V.ref p4, V.ref p5, V.ref p6, V.ref p7, V.ref p8, V.ref p9, V.ref p10, V.ref p11, V.ref p12, V.ref p13, V.ref p14]).length := by show j < 14; omega
    have hj := List.getElem?_eq_getElem jl
    exact ⟨L3, _, _, _, rfl, rfl, SqL.of (xb _ _ nL3 hL3), atI_nn57 hj, k _ _ ((all _ (List.getElem_mem jl)).xb xb) ((XB.of w29).trans xb) src4⟩
end

section
/-- a value that a key holds in place of the good one, and the error that is due -/
inductive ValF (K : PySem.W.Frag) (s b : Addr) (n : Int) (H : Hp) : Str → V → Str → V → Prop
  | num {k : Str} {x : V} {o : Option Int} : (k = "place" ∨ k = "first" ∨ k = "second") → IsF K s b H x o → between o 0 (n - 1) = false → ValF K s b n H k x "number" (.str k)
  | calls {x : V} {o : Option Int} : IsF K s b H x o → atLeast o 0 = false → ValF K s b n H "calls" x "number" (.str "calls")
  | size {x : V} {o : Option Int} : IsF K s b H x o → atLeast o 1 = false → ValF K s b n H "size" x "number" (.str "size")
  | tgt {x : V} {i : Int} {od : Option (List PyData)} : TgF K s b H x od → (∀ ds, od = some ds → ds.length ≤ 100) → placeDue n od = some i → ValF K s b n H "targets" x "targets" (.int i)
theorem ValF.to {K : PySem.W.Frag} {s b : Addr} {n : Int} {H H2 : Hp} {k w : Str} {x y : V} (t : XT s b H H2) (h : ValF K s b n H k x w y) : ValF K s b n H2 k x w y := by
  cases h with
  | num a c d => exact .num a (c.to t) d
  | calls c d => exact .calls (c.to t) d
  | size c d => exact .size (c.to t) d
  | tgt c d e => exact .tgt (c.to t) d e
def EntF (K : PySem.W.Frag) (s b : Addr) (n : Int) (H : Hp) (k : Str) (v : V) : Prop := ∃ (r e : Addr) (x : V) (w : Str) (y : V), v = .ref r ∧ r ≠ s ∧ r ≠ b ∧ e ≠ s ∧ e ≠ b ∧ H r = some (.tup [x, .ref e]) ∧ H e = some (.tup [.str w, y]) ∧ ValF K s b n H k x w y
theorem EntF.to {K : PySem.W.Frag} {s b : Addr} {n : Int} {H H2 : Hp} {k : Str} {v : V} (t : XT s b H H2) (h : EntF K s b n H k v) : EntF K s b n H2 k v := by
  obtain ⟨r, e, x, w, y, h0, h1, h2, h3, h4, h5, h6, h7⟩ := h
  exact ⟨r, e, x, w, y, h0, h1, h2, h3, h4, t _ _ h1 h2 (fun _ z => nomatch z) h5, t _ _ h3 h4 (fun _ z => nomatch z) h6, h7.to t⟩
/-- the dict of the values that are not valid -/
structure BadF (K : PySem.W.Frag) (s b : Addr) (n : Int) (H : Hp) (kvs : List (Key × V)) (ks : List Str) : Prop where
  at_ : H b = some (.dK kvs)
  nb : b ≠ s
  nd : (kvs.map (·.1)).Nodup
  sub : ∀ p ∈ kvs, ∃ k ∈ ks, p.1 = .inr k ∧ EntF K s b n H k p.2
  len : kvs.length ≤ ks.length
theorem BadF.to {K : PySem.W.Frag} {s b : Addr} {n : Int} {H H2 : Hp} {kvs : List (Key × V)} {ks : List Str} (t : XT s b H H2) (e : H2 b = some (.dK kvs)) (h : BadF K s b n H kvs ks) : BadF K s b n H2 kvs ks :=
  ⟨e, h.nb, h.nd, fun p hp => by
    obtain ⟨k, hk, e, q⟩ := h.sub p hp
    exact ⟨k, hk, e, q.to t⟩, h.len⟩
theorem BadF.more {K : PySem.W.Frag} {s b : Addr} {n : Int} {H : Hp} {kvs : List (Key × V)} {ks : List Str} {k : Str} (h : BadF K s b n H kvs ks) : BadF K s b n H kvs (ks ++ [k]) :=
  ⟨h.at_, h.nb, h.nd, fun p hp => by
    obtain ⟨k, hk, q⟩ := h.sub p hp
    exact ⟨k, List.mem_append_left _ hk, q⟩, by rw [List.length_append]; exact Nat.le_trans h.len (Nat.le_add_right _ _)⟩
theorem putK_new {kvs : List (Key × V)} {k : Key} {v : V} (h : k ∉ kvs.map (·.1)) : putK kvs k v = kvs ++ [(k, v)] := by
  have hany : (kvs.any fun kv => decide (kv.1 = k)) = false := by
    rw [List.any_eq_false]
    intro p hp z
    exact h (List.mem_map.mpr ⟨p, hp, of_decide_eq_true z⟩)
  unfold putK
  rw [hany, if_neg Bool.false_ne_true]
theorem BadF.put {K : PySem.W.Frag} {s b : Addr} {n : Int} {H : Hp} {kvs : List (Key × V)} {ks : List Str} {k : Str} {v : V} (h : BadF K s b n H kvs ks) (nk : k ∉ ks) (hv : EntF K s b n H k v) : BadF K s b n (upd H b (.dK (putK kvs (.inr k) v))) (putK kvs (.inr k) v) (ks ++ [k]) := by
  have nm : (Sum.inr k : Key) ∉ kvs.map (·.1) := fun z => by
    obtain ⟨p, hp, e⟩ := List.mem_map.mp z
    obtain ⟨k2, hk, e2, _⟩ := h.sub p hp
    rw [e2] at e
    rw [Sum.inr.inj e] at hk
    exact nk hk
  rw [putK_new nm]
  refine ⟨upd_same, h.nb, ?_, fun p hp => ?_, by rw [List.length_append, List.length_append]; exact Nat.add_le_add_right h.len 1⟩
  · rw [List.map_append, List.nodup_append]
    refine ⟨h.nd, by simp, fun x hx y hy z => ?_⟩
    rw [List.map_cons, List.map_nil, List.mem_singleton] at hy
    rw [z, hy] at hx
    exact nm hx
  · rcases List.mem_append.mp hp with hp | hp
    · obtain ⟨k2, hk, e2, q⟩ := h.sub p hp
      exact ⟨k2, List.mem_append_left _ hk, e2, q.to .upd⟩
    · rw [List.mem_singleton.mp hp]
      exact ⟨k, by simp, rfl, hv.to .upd⟩
/-- the dict of good values -/
def GoodD (s b : Addr) (n : Int) (H : Hp) (g : Addr) : Prop := ∃ t : Addr, g ≠ s ∧ g ≠ b ∧ t ≠ s ∧ t ≠ b ∧ H t = some (.lst [.int 0, .int 1]) ∧
  H g = some (.dK [(.inr "size", .int n), (.inr "targets", .ref t), (.inr "place", .int 2), (.inr "calls", .int 3), (.inr "first", .int 0), (.inr "second", .int 1)])
theorem GoodD.to {s b g : Addr} {n : Int} {H H2 : Hp} (x : XT s b H H2) (h : GoodD s b n H g) : GoodD s b n H2 g := by
  obtain ⟨t, h1, h2, h3, h4, h5, h6⟩ := h
  exact ⟨t, h1, h2, h3, h4, x _ _ h3 h4 (fun _ z => nomatch z) h5, x _ _ h1 h2 (fun _ z => nomatch z) h6⟩
theorem wrong_at {K : PySem.W.Frag} {s b t2 : Addr} {n r z : Int} {H : Hp} {ky : Str} {x1 : V} {o1 : Option Int} (h1 : IsF K s b H x1 o1) (bo : between o1 0 (n - 1) = false) (ht : H t2 = some (.tup [.int 2])) (n1 : t2 ≠ s) (n2 : t2 ≠ b) (r0 : 0 ≤ r) (r1 : r < 6) (hz : z < 0) :
    ∃ (x : V) (o : Option Int), atI [x1, .int (-1), .non, .bl true, .str "2", .ref t2, .int z] ((if decide (V.str ky = V.str "calls") = true then 1 else 0) * (1 + r)) = some x ∧ IsF K s b H x o ∧ ((ky ≠ "calls" ∧ between o 0 (n - 1) = false) ∨ (ky = "calls" ∧ atLeast o 0 = false)) := by
  by_cases c : ky = "calls"
  · rw [if_pos (decide_eq_true (by rw [c])), Int.one_mul]
    have r6 : r = 0 ∨ r = 1 ∨ r = 2 ∨ r = 3 ∨ r = 4 ∨ r = 5 := by omega
    rcases r6 with rfl | rfl | rfl | rfl | rfl | rfl
    · exact ⟨_, _, rfl, isF_int _, .inr ⟨c, rfl⟩⟩
    · exact ⟨_, _, rfl, isF_non, .inr ⟨c, rfl⟩⟩
    · exact ⟨_, _, rfl, isF_bl _, .inr ⟨c, rfl⟩⟩
    · exact ⟨_, _, rfl, isF_str _, .inr ⟨c, rfl⟩⟩
    · exact ⟨_, _, rfl, isF_tup ht n1 n2, .inr ⟨c, rfl⟩⟩
    · exact ⟨_, _, rfl, isF_int _, .inr ⟨c, decide_eq_false (by omega)⟩⟩
  · rw [if_neg (by rw [decide_eq_true_iff]; exact fun q => c (V.str.inj q)), Int.zero_mul]
    exact ⟨_, _, rfl, h1, .inl ⟨c, bo⟩⟩
variable {P : Program} {w : World} {K : PySem.W.Frag} {mg : Str → Option Value} {base : Heap}
def sp_law_scene (K : PySem.W.Frag) : Sp := fun vs H Q _ => ∃ (s : Addr) (m : Nat), vs = [.ref s] ∧ Sr5 H s (m + 18) ∧ ∀ (p g b : Addr) (n : Int) (kvs : List (Key × V)) (H2 : Hp), 4 ≤ n → n ≤ 23 → H2 p = some (.tup [.ref g, .ref b]) → p ≠ s → p ≠ b → GoodD s b n H2 g → BadF K s b n H2 kvs ["place", "calls", "first", "second", "targets", "size"] → XB s H H2 → Sr5 H2 s m → Q (.ref p) H2
theorem ok_law_scene (T : TX K mg) : FnOk P w K mg base CX0 3 T.f_law_scene T.fd_law_scene ["_law_source_here"] (sp_law_scene K) := by
  refine T.F_law_scene.ok sc_law_scene (fun vs H Q E h => ?_) (fun cdv A outer s H vs Q E hr h => ?_)
  · obtain ⟨s, m, rfl, _⟩ := h
    rfl
  · obtain ⟨s, m, rfl, src, k⟩ := h
    refine ⟨_, (pss_cons (ps_set (i := 1) sc_law_scene.nd rfl (Or.inl rfl) (pe_op op_add pe_int (pe_call (ok_law_take T) (hr.mono (by decide)) rfl T.m_law_take T.F_law_take.kp T.b_law_take .nil pass0 (pa_cons (pv 0) (pa_cons pe_int pa_nil))))) (pss_cons (ps_set (i := 2) sc_law_scene.nd rfl (Or.inl rfl) (pe_disp (pps_cons pe_str (pv 1) (pps_cons pe_str (pe_lst (pa_cons pe_int (pa_cons pe_int pa_nil))) (pps_cons pe_str pe_int (pps_cons pe_str pe_int (pps_cons pe_str pe_int (pps_cons pe_str pe_int pps_nil)))))) rfl rfl (by simp) (by decide))) (pss_cons (ps_set (i := 3) sc_law_scene.nd rfl (Or.inl rfl) pe_dnewK) (pss_cons (ps_for PassesOwn.never rfl (pi_list (pe_lst (pa_cons pe_str (pa_cons pe_str (pa_cons pe_str (pa_cons pe_str pa_nil)))))) (pg_name (i := 4) sc_law_scene.nd rfl (Or.inl rfl)) (pss_one (ps_if (pt_cmpR op_eq (pe_call (ok_law_take T) (hr.mono (by decide)) rfl T.m_law_take T.F_law_take.kp T.b_law_take .nil pass0 (pa_cons (pv 0) (pa_cons pe_int pa_nil))) pe_int (nomark _)) (pss_cons (ps_set (i := 5) sc_law_scene.nd rfl (Or.inl rfl) (pe_lst (pa_cons (pe_call (ok_law_bad_number T) hr rfl T.m_law_bad_number T.F_law_bad_number.kp T.b_law_bad_number .nil pass0 (pa_cons (pv 0) (pa_cons pe_int (pa_cons (pe_op op_sub (pv 1) pe_int) pa_nil)))) (pa_cons (pe_un un_neg pe_int) (pa_cons pe_non (pa_cons pe_bl (pa_cons pe_str (pa_cons (pe_tup (pa_cons pe_int pa_nil)) (pa_cons (pe_op op_sub pe_int (pe_op op_pow pe_int pe_int)) pa_nil))))))))) (pss_one (ps_dput (hu_of hr) (pv 3) (pv 4) (pe_tup (pa_cons (pe_ix ix_list (pv 5) (pe_op op_mulI (pe_callTy call_int1 (by rfl) T.z_int (by decide +kernel) (pa_cons (pe_cmpR op_eq (pv 4) pe_str (nomark _)) pa_nil)) (pe_op op_add pe_int (pe_call (ok_law_take T) (hr.mono (by decide)) rfl T.m_law_take T.F_law_take.kp T.b_law_take .nil pass0 (pa_cons (pv 0) (pa_cons pe_int pa_nil))))) (fun _ _ => rfl)) (pa_cons (pe_tup (pa_cons pe_str (pa_cons (pv 4) pa_nil))) pa_nil))) (by rfl)))) pss_nil))) (pss_cons (ps_if (pt_cmpR op_eq (pe_call (ok_law_take T) (hr.mono (by decide)) rfl T.m_law_take T.F_law_take.kp T.b_law_take .nil pass0 (pa_cons (pv 0) (pa_cons pe_int pa_nil))) pe_int (nomark _)) (pss_cons (ps_asg (pe_call (ok_law_bad_targets T) hr rfl T.m_law_bad_targets T.F_law_bad_targets.kp T.b_law_bad_targets .nil pass0 (pa_cons (pv 0) (pa_cons (pv 1) pa_nil))) (pg_tup rfl (pgs_cons (pg_name (i := 6) sc_law_scene.nd rfl (Or.inl rfl)) (pgs_cons (pg_name (i := 7) sc_law_scene.nd rfl (Or.inl rfl)) pgs_nil)))) (pss_one (ps_dput (hu_of hr) (pv 3) pe_str (pe_tup (pa_cons (pv 6) (pa_cons (pe_tup (pa_cons pe_str (pa_cons (pv 7) pa_nil))) pa_nil))) (by rfl)))) pss_nil) (pss_cons (ps_if (pt_cmpR op_eq (pe_call (ok_law_take T) (hr.mono (by decide)) rfl T.m_law_take T.F_law_take.kp T.b_law_take .nil pass0 (pa_cons (pv 0) (pa_cons pe_int pa_nil))) pe_int (nomark _)) (pss_one (ps_dput (hu_of hr) (pv 3) pe_str (pe_tup (pa_cons (pe_ix ix_list (pe_lst (pa_cons pe_int (pa_cons (pe_un un_neg pe_int) (pa_cons pe_bl (pa_cons pe_non (pa_cons pe_str (pa_cons (pe_tup (pa_cons pe_int pa_nil)) (pa_cons (pe_op op_sub pe_int (pe_op op_pow pe_int pe_int)) pa_nil)))))))) (pe_call (ok_law_take T) (hr.mono (by decide)) rfl T.m_law_take T.F_law_take.kp T.b_law_take .nil pass0 (pa_cons (pv 0) (pa_cons pe_int pa_nil))) (fun _ _ => rfl)) (pa_cons (pe_tup (pa_cons pe_str (pa_cons pe_str pa_nil))) pa_nil))) (by rfl))) pss_nil) (pss_one (ps_ret (pe_tup (pa_cons (pv 2) (pa_cons (pv 3) pa_nil))))))))))), ?_⟩
    refine ⟨_, rfl, s, 20, m + 17, rfl, src, by decide, by decide +kernel, fun r G1 r0 r1 xb1 src1 => ⟨_, _, rfl, rfl, ?_⟩⟩
    have hn1 : 4 ≤ 4 + r := by omega
    have hn2 : 4 + r ≤ 23 := by omega
    clear r0 r1
    dsimp only [gName]
    show tSeq _ _ _ [_, _, _, _, _, _, _, _] _
    generalize 4 + r = n at hn1 hn2 ⊢
    refine fun g ng => ?_
    generalize hG : upd G1 g _ = G2
    have eG2 := exG hG ng
    have hg2 := atG hG
    clear hG
    refine ⟨_, rfl, slen rfl, ?_⟩
    (intro tl ntl; generalize hGtl : upd _ tl _ = G3; have eG3 := exG hGtl ntl; have htl := atG hGtl; clear hGtl)
    refine ⟨eG3 _ _ hg2, [(.inr "size", .int n), (.inr "targets", .ref tl), (.inr "place", .int 2), (.inr "calls", .int 3), (.inr "first", .int 0), (.inr "second", .int 1)], rfl, by show 6 ≤ 15; decide, ?_⟩
    have ntg : tl ≠ g := (ne_of_none hg2 ntl).symm
    generalize hG : upd G3 g _ = G4
    have eG4 : Ex G1 G4 := fun c o q => by
      rw [← hG, upd_ne (ne_of_none q ng)]
      exact eG3 _ _ (eG2 _ _ q)
    have hg4 := atG hG
    have htl4 : G4 tl = some (.lst [.int 0, .int 1]) := by
      rw [← hG, upd_ne ntg]
      exact htl
    clear hG
    have ngs := src1.ne ng
    have ntls := (src1.mono (ext eG2 exr)).ne ntl
    dsimp only [gName]
    show tSeq _ _ _ [_, _, _, _, _, _, _, _] _
    (intro b nb; generalize hGb : upd _ b _ = G5; have eG5 := exG hGb nb; have hb := atG hGb; clear hGb)
    have nbs := (src1.mono eG4).ne nb
    have src5 := (src1.mono eG4).mono eG5
    have good5 : GoodD s b n G5 g := ⟨tl, ngs, ne_of_none hg4 nb, ntls, ne_of_none htl4 nb, eG5 _ _ htl4, eG5 _ _ hg4⟩
    have bad5 : BadF K s b n G5 [] [] := ⟨hb, nbs, List.nodup_nil, fun p hp => (nomatch hp), Nat.le_refl _⟩
    have Hb0 : H b = none := by
      cases hq : H b with
      | none => rfl
      | some o =>
        have z := eG4 _ _ (xb1 _ _ nbs hq)
        rw [nb] at z
        cases z
    have X5 : XB s H G5 := xb1.trans (XB.of (ext eG4 eG5))
    clear hg4 htl4 htl hg2 eG4 eG3 eG2
    dsimp only [gName]
    show tSeq _ _ _ [_, _, _, _, _, _, _, _] _
    refine ⟨slen rfl, ?_⟩
    (intro kl nkl; generalize hGkl : upd _ kl _ = G6; have eG6 := exG hGkl nkl; have hkl := atG hGkl; clear hGkl)
    have nkls := (src5.mono exr).ne nkl
    have nklb : kl ≠ b := (ne_of_none hb nkl).symm
    have src6 := src5.mono eG6
    have good6 := good5.to (.of eG6)
    have bad6 := bad5.to (.of eG6) (eG6 _ _ hb)
    have X6 := X5.trans (XB.of eG6)
    refine ⟨kl, rfl, ⟨_, SqL.of hkl⟩, ?_⟩
    refine for_it (walk_list (xs := [V.str "place", .str "calls", .str "first", .str "second"])) (fun i σ Hi => ∃ (y4 y5 : Option V) (kvs : List (Key × V)), σ = [some (.ref s), some (.int n), some (.ref g), some (.ref b), y4, y5, none, none] ∧ BadF K s b n Hi kvs ((["place", "calls", "first", "second"] : List Str).take i) ∧ XB s H Hi ∧ XT s b G6 Hi ∧ Sr5 Hi s (m + 4 + 3 * (4 - i))) ⟨_, _, [], rfl, bad6, X6, .refl, src6.less (by omega)⟩ (fun i σ Hi _ p => ?_) ?_ ?_
    · obtain ⟨_, _, _, _, _, _, x, _⟩ := p
      exact SqL.of (x _ _ nkls nklb (fun _ z => nomatch z) hkl)
    · rintro i x σ Hi Hj hi ⟨y4, y5, kvs, rfl, bad, XH, XG, srci⟩ ⟨rfl, hx⟩
      obtain ⟨ky, hky, i4⟩ : ∃ ky : Str, x = .str ky ∧ ((i = 0 ∧ ky = "place") ∨ (i = 1 ∧ ky = "calls") ∨ (i = 2 ∧ ky = "first") ∨ (i = 3 ∧ ky = "second")) := by
        have i4 : i = 0 ∨ i = 1 ∨ i = 2 ∨ i = 3 := by
          have : i < 4 := hi
          omega
        rcases i4 with rfl | rfl | rfl | rfl
        · exact ⟨_, (Option.some.inj hx).symm, .inl ⟨rfl, rfl⟩⟩
        · exact ⟨_, (Option.some.inj hx).symm, .inr (.inl ⟨rfl, rfl⟩)⟩
        · exact ⟨_, (Option.some.inj hx).symm, .inr (.inr (.inl ⟨rfl, rfl⟩))⟩
        · exact ⟨_, (Option.some.inj hx).symm, .inr (.inr (.inr ⟨rfl, rfl⟩))⟩
      subst hky
      have i3 : i ≤ 3 := by omega
      obtain ⟨q, hq, hq2⟩ : ∃ q, m + 4 + 3 * (4 - i) = q + 3 ∧ m + 4 + 3 * (4 - (i + 1)) = q := ⟨m + 4 + 3 * (4 - (i + 1)), by omega, rfl⟩
      rw [hq] at srci
      rw [hq2]
      dsimp only [gName]
      refine ⟨_, rfl, s, 3, q + 2, rfl, srci, by decide, by decide +kernel, fun r Ga r0 r1 xba srca => ⟨rfl, _, rfl, ?_⟩⟩
      have bada := bad.to (.xb xba) (xba _ _ nbs bad.at_)
      have XHa := XH.trans xba
      have XGa := XG.trans (.xb xba)
      have nx : ∀ k : Str, ((["place", "calls", "first", "second"] : List Str).take i) ++ [k] = ((["place", "calls", "first", "second"] : List Str).take i) ++ [k] := fun _ => rfl
      have tk : (["place", "calls", "first", "second"] : List Str).take (i + 1) = (["place", "calls", "first", "second"] : List Str).take i ++ [ky] := by
        rcases i4 with ⟨rfl, rfl⟩ | ⟨rfl, rfl⟩ | ⟨rfl, rfl⟩ | ⟨rfl, rfl⟩ <;> rfl
      refine ite2 (fun _ => ?_) (fun _ => ?_)
      rotate_left
      · exact ⟨_, _, kvs, rfl, by rw [tk]; exact bada.more, XHa, XGa, srca.less (by omega)⟩
      refine ⟨_, rfl, _, rfl, _, _, rfl, rfl, s, 0, n - 1, q + 1, rfl, srca, by omega, fun x1 o1 Gb hx1 bo1 xbb srcb => ?_⟩
      refine ⟨_, rfl, slen rfl, ?_⟩
      (intro t2 nt2; generalize hGt2 : upd _ t2 _ = Gc; have eGc := exG hGt2 nt2; have ht2 := atG hGt2; clear hGt2)
      refine ⟨_, _, rfl, rfl, ⟨by decide, by decide +kernel⟩, _, _, rfl, rfl, slen rfl, ?_⟩
      (intro wl nwl; generalize hGwl : upd _ wl _ = Gd; have eGd := exG hGwl nwl; have hwl := atG hGwl; clear hGwl)
      dsimp only [gName]
      refine ⟨_, rfl, _, rfl, rfl, .inr ⟨_, rfl, ?_⟩⟩
      have ea := ext eGc eGd
      have srcd := srcb.mono ea
      have nt2s := srcb.ne nt2
      have hbb := xbb _ _ nbs bada.at_
      have nt2b : t2 ≠ b := (ne_of_none hbb nt2).symm
      have nwls := (srcb.mono eGc).ne nwl
      refine ⟨_, rfl, s, 6, q, rfl, srcd, by decide, by decide +kernel, fun r2 Ge q0 q1 xbe srce => ?_⟩
      have hb0 : Ga b ≠ none := fun z => by rw [bada.at_] at z; cases z
      obtain ⟨xw, ow, gw, hfw, dw⟩ := wrong_at (K := K) (s := s) (b := b) (n := n) (H := Ge) (ky := ky) (z := 0 - 10 ^ Int.toNat 30) (((hx1 b hb0).to (.of ea)).to (.xb xbe)) bo1 (xbe _ _ nt2s (eGd _ _ ht2)) nt2s nt2b q0 q1 (by decide +kernel)
      refine ⟨_, _, rfl, rfl, _, _, rfl, rfl, mul_ok (.inl ?_), wl, _, _, _, rfl, rfl, SqL.of (xbe _ _ nwls hwl), gw, ?_⟩
      · split <;> decide
      refine ⟨_, rfl, slen rfl, ?_⟩
      (intro en nen; generalize hGen : upd _ en _ = Gf; have eGf := exG hGen nen; have hen := atG hGen; clear hGen)
      refine ⟨slen rfl, ?_⟩
      (intro rn nrn; generalize hGrn : upd _ rn _ = Gg; have eGg := exG hGrn nrn; have hrn := atG hGrn; clear hGrn)
      have eb := ext eGf eGg
      have hbe := xbe _ _ nbs (ea _ _ hbb)
      have hbg := eb _ _ hbe
      have nens := srce.ne nen
      have nenb : en ≠ b := (ne_of_none hbe nen).symm
      have nrns := (srce.mono eGf).ne nrn
      have nrnb : rn ≠ b := (ne_of_none (eGf _ _ hbe) nrn).symm
      have XAG : XB s Ga Gg := xbb.trans ((XB.of ea).trans (xbe.trans (XB.of eb)))
      have badg := bada.to (.xb XAG) hbg
      refine ⟨_, rfl, _, rfl, b, _, rfl, DPut.k (k := .inr ky) hbg (Nat.lt_of_le_of_lt badg.len (by rw [List.length_take]; exact Nat.lt_of_le_of_lt (Nat.min_le_left _ _) (Nat.lt_of_le_of_lt i3 (by decide)))), ?_⟩
      have ent : EntF K s b n Gg ky (.ref rn) := by
        refine ⟨rn, en, xw, "number", .str ky, rfl, nrns, nrnb, nens, nenb, hrn, eGg _ _ hen, ?_⟩
        rcases dw with ⟨kn, dw⟩ | ⟨rfl, dw⟩
        · refine .num ?_ (hfw.to (.of eb)) dw
          rcases i4 with ⟨_, h⟩ | ⟨_, h⟩ | ⟨_, h⟩ | ⟨_, h⟩
          · exact .inl h
          · exact absurd h kn
          · exact .inr (.inl h)
          · exact .inr (.inr h)
        · exact .calls (hfw.to (.of eb)) dw
      have nk : ky ∉ (["place", "calls", "first", "second"] : List Str).take i := by
        rcases i4 with ⟨rfl, rfl⟩ | ⟨rfl, rfl⟩ | ⟨rfl, rfl⟩ | ⟨rfl, rfl⟩ <;> decide +kernel
      have bad2 := badg.put nk ent
      rw [← tk] at bad2
      refine ⟨_, _, _, rfl, bad2, fun c o nc hc => ?_, (XGa.trans (.xb XAG)).trans .upd, ?_⟩
      · rw [upd_ne (fun z => by rw [z, Hb0] at hc; cases hc)]
        exact XAG _ _ nc (XHa _ _ nc hc)
      · obtain ⟨a1, a2, a3, hs, z⟩ := srce.mono eb
        exact ⟨a1, a2, a3, by rw [upd_ne nbs.symm]; exact hs, z⟩
    · rintro σ Hi ⟨y4, y5, kvs, rfl, bad, XH, XG, srci⟩
      have good := good6.to XG
      have src4 : Sr5 Hi s (m + 3 + 1) := srci.less (by simp)
      have bad : BadF K s b n Hi kvs ["place", "calls", "first", "second"] := bad
      clear srci XG good6 bad6 X6 src6
      dsimp only
      refine sif_cutX (fun σ2 Ht => ∃ (x4 x5 x6 x7 : Option V) (kv2 : List (Key × V)), σ2 = [some (.ref s), some (.int n), some (.ref g), some (.ref b), x4, x5, x6, x7] ∧ BadF K s b n Ht kv2 ["place", "calls", "first", "second", "targets"] ∧ GoodD s b n Ht g ∧ XB s H Ht ∧ Sr5 Ht s (m + 2)) (fun N hN => ?_) ?_
      · refine ⟨_, rfl, s, 3, m + 3, rfl, src4, by decide, by decide +kernel, fun r Ga r0 r1 xba srca => ⟨rfl, _, rfl, ?_⟩⟩
        have bada := bad.to (.xb xba) (xba _ _ nbs bad.at_)
        have gooda := good.to (.xb xba)
        have XHa := XH.trans xba
        refine ite2 (fun _ => ?_) (fun _ => ?_)
        rotate_left
        · exact hN _ _ ⟨_, _, _, _, kvs, rfl, bada.more, gooda, XHa, srca.less (by omega)⟩
        refine ⟨_, rfl, _, rfl, s, n, m + 2, rfl, srca, by omega, fun v Gb pf xbb srcb => ?_⟩
        obtain ⟨rp, x, ix, od, rfl, nrps, hrp, tg, le, du⟩ := pf
        refine ⟨rp, _, rfl, SqT.of hrp, rfl, _, _, rfl, _, _, rfl, rfl, ?_⟩
        have hb0 : Ga b ≠ none := fun z => by rw [bada.at_] at z; cases z
        have tgb := tg b hb0
        have hbb := xbb _ _ nbs bada.at_
        refine ⟨_, rfl, _, rfl, slen rfl, ?_⟩
        (intro en nen; generalize hGen : upd _ en _ = Gf; have eGf := exG hGen nen; have hen := atG hGen; clear hGen)
        refine ⟨slen rfl, ?_⟩
        (intro rn nrn; generalize hGrn : upd _ rn _ = Gg; have eGg := exG hGrn nrn; have hrn := atG hGrn; clear hGrn)
        have eb := ext eGf eGg
        have hbg := eb _ _ hbb
        have nens := srcb.ne nen
        have nenb : en ≠ b := (ne_of_none hbb nen).symm
        have nrns := (srcb.mono eGf).ne nrn
        have nrnb : rn ≠ b := (ne_of_none (eGf _ _ hbb) nrn).symm
        have XAG : XB s Ga Gg := xbb.trans (XB.of eb)
        have badg := bada.to (.xb XAG) hbg
        refine ⟨_, rfl, b, _, rfl, DPut.k (k := .inr "targets") hbg (Nat.lt_of_le_of_lt badg.len (by decide)), ?_⟩
        have ent : EntF K s b n Gg "targets" (.ref rn) := ⟨rn, en, x, "targets", .int ix, rfl, nrns, nrnb, nens, nenb, hrn, eGg _ _ hen, .tgt (tgb.to (.of eb)) le du⟩
        have bad2 := badg.put (by decide +kernel) ent
        refine hN _ _ ⟨_, _, _, _, _, rfl, bad2, (gooda.to (.xb XAG)).to .upd, fun c o nc hc => ?_, ?_⟩
        · rw [upd_ne (fun z => by rw [z, Hb0] at hc; cases hc)]
          exact XAG _ _ nc (XHa _ _ nc hc)
        · obtain ⟨a1, a2, a3, hs, z⟩ := srcb.mono eb
          exact Sr5.less ⟨a1, a2, a3, by rw [upd_ne nbs.symm]; exact hs, z⟩ (by omega)
      clear bad good XH src4
      rintro σ2 Hi ⟨x4, x5, x6, x7, kv2, rfl, bad, good, XH, src4⟩
      refine sif_cutX (fun σ2 Ht => ∃ (kv2 : List (Key × V)), σ2 = [some (.ref s), some (.int n), some (.ref g), some (.ref b), x4, x5, x6, x7] ∧ BadF K s b n Ht kv2 ["place", "calls", "first", "second", "targets", "size"] ∧ GoodD s b n Ht g ∧ XB s H Ht ∧ Sr5 Ht s m) (fun N hN => ?_) ?_
      · refine ⟨_, rfl, s, 4, m + 1, rfl, src4, by decide, by decide +kernel, fun r Ga r0 r1 xba srca => ⟨rfl, _, rfl, ?_⟩⟩
        have bada := bad.to (.xb xba) (xba _ _ nbs bad.at_)
        have gooda := good.to (.xb xba)
        have XHa := XH.trans xba
        refine ite2 (fun _ => ?_) (fun _ => ?_)
        rotate_left
        · exact hN _ _ ⟨kv2, rfl, bada.more, gooda, XHa, srca.less (by omega)⟩
        refine ⟨_, rfl, slen rfl, ?_⟩
        (intro t5 nt5; generalize hGt5 : upd _ t5 _ = Gb; have eGb := exG hGt5 nt5; have ht5 := atG hGt5; clear hGt5)
        refine ⟨_, _, rfl, rfl, ⟨by decide, by decide +kernel⟩, _, _, rfl, rfl, slen rfl, ?_⟩
        (intro wl nwl; generalize hGwl : upd _ wl _ = Gc; have eGc := exG hGwl nwl; have hwl := atG hGwl; clear hGwl)
        have ea := ext eGb eGc
        have srcc := srca.mono ea
        have nt5s := srca.ne nt5
        have nt5b : t5 ≠ b := (ne_of_none bada.at_ nt5).symm
        have nwls := (srca.mono eGb).ne nwl
        have all : ∀ v ∈ ([.int 0, .int (-1), .bl true, .non, .str "5", .ref t5, .int (0 - 10 ^ Int.toNat 30)] : List V), ∃ o, IsF K s b Gc v o ∧ atLeast o 1 = false := fun v hv => by
          simp only [List.mem_cons, List.not_mem_nil, or_false] at hv
          rcases hv with rfl | rfl | rfl | rfl | rfl | rfl | rfl
          · exact ⟨_, isF_int _, rfl⟩
          · exact ⟨_, isF_int _, rfl⟩
          · exact ⟨_, isF_bl _, rfl⟩
          · exact ⟨_, isF_non, rfl⟩
          · exact ⟨_, isF_str _, rfl⟩
          · exact ⟨_, isF_tup (eGc _ _ ht5) nt5s nt5b, rfl⟩
          · exact ⟨_, isF_int _, by decide +kernel⟩
        refine ⟨_, rfl, s, 7, m, rfl, srcc, by decide, by decide +kernel, fun r2 Ge q0 q1 xbe srce => ?_⟩
        obtain ⟨j, rfl⟩ := Int.eq_ofNat_of_zero_le q0
        have jl : j < ([V.int 0, .int (-1), .bl true, .non, .str "5", .ref t5, .int (0 - 10 ^ Int.toNat 30)]).length := by show j < 7; omega
        have hj := List.getElem?_eq_getElem jl
        obtain ⟨o, hf, bo⟩ := all _ (List.getElem_mem jl)
        refine ⟨wl, _, _, _, rfl, rfl, SqL.of (xbe _ _ nwls hwl), atI_nn57 hj, slen rfl, ?_⟩
        (intro en nen; generalize hGen : upd _ en _ = Gf; have eGf := exG hGen nen; have hen := atG hGen; clear hGen)
        refine ⟨slen rfl, ?_⟩
        (intro rn nrn; generalize hGrn : upd _ rn _ = Gg; have eGg := exG hGrn nrn; have hrn := atG hGrn; clear hGrn)
        have eb := ext eGf eGg
        have hbe := xbe _ _ nbs (ea _ _ bada.at_)
        have hbg := eb _ _ hbe
        have nens := srce.ne nen
        have nenb : en ≠ b := (ne_of_none hbe nen).symm
        have nrns := (srce.mono eGf).ne nrn
        have nrnb : rn ≠ b := (ne_of_none (eGf _ _ hbe) nrn).symm
        have XAG : XB s Ga Gg := (XB.of ea).trans (xbe.trans (XB.of eb))
        have badg := bada.to (.xb XAG) hbg
        refine ⟨_, rfl, b, _, rfl, DPut.k (k := .inr "size") hbg (Nat.lt_of_le_of_lt badg.len (by decide)), ?_⟩
        have ent : EntF K s b n Gg "size" (.ref rn) := ⟨rn, en, _, "number", .str "size", rfl, nrns, nrnb, nens, nenb, hrn, eGg _ _ hen, .size ((hf.to (.xb xbe)).to (.of eb)) bo⟩
        have bad2 := badg.put (by decide +kernel) ent
        refine hN _ _ ⟨_, rfl, bad2, (gooda.to (.xb XAG)).to .upd, fun c o nc hc => ?_, ?_⟩
        · rw [upd_ne (fun z => by rw [z, Hb0] at hc; cases hc)]
          exact XAG _ _ nc (XHa _ _ nc hc)
        · obtain ⟨a1, a2, a3, hs, z⟩ := srce.mono eb
          exact ⟨a1, a2, a3, by rw [upd_ne nbs.symm]; exact hs, z⟩
      rintro σ3 Hi ⟨kv3, rfl, bad, good, XH, src4⟩
      refine ⟨_, rfl, _, rfl, slen rfl, ?_⟩
      (intro pr npr; generalize hGpr : upd _ pr _ = Gz; have eGz := exG hGpr npr; have hpr := atG hGpr; clear hGpr)
      exact k pr g b n kv3 Gz hn1 hn2 hpr (src4.ne npr) (ne_of_none bad.at_ npr).symm (good.to (.of eGz)) (bad.to (.of eGz) (eGz _ _ bad.at_)) (XH.trans (XB.of eGz)) (src4.mono eGz)
end

section
/-- the pair that is due: d, for the first of some names that the dict holds, or e -/
def DueOf (H : Hp) (kvs : List (Key × V)) : List Str → Addr → Addr → Prop
  | [], e, d => d = e
  | k :: ks, e, d => match valV kvs (.inr k) with
    | none => DueOf H kvs ks e d
    | some v => ∃ (r : Addr) (x : V), v = .ref r ∧ H r = some (.tup [x, .ref d])
theorem DueOf.no {H : Hp} {kvs : List (Key × V)} {k : Str} {ks : List Str} {e d : Addr} (h : valV kvs (.inr k) = none) : DueOf H kvs (k :: ks) e d ↔ DueOf H kvs ks e d := by
  show (match valV kvs (.inr k) with | none => DueOf H kvs ks e d | some v => ∃ (r : Addr) (x : V), v = .ref r ∧ H r = some (.tup [x, .ref d])) ↔ _
  rw [h]
theorem DueOf.yes {H : Hp} {kvs : List (Key × V)} {k : Str} {ks : List Str} {e d : Addr} {v : V} (h : valV kvs (.inr k) = some v) : DueOf H kvs (k :: ks) e d ↔ ∃ (r : Addr) (x : V), v = .ref r ∧ H r = some (.tup [x, .ref d]) := by
  show (match valV kvs (.inr k) with | none => DueOf H kvs ks e d | some v => ∃ (r : Addr) (x : V), v = .ref r ∧ H r = some (.tup [x, .ref d])) ↔ _
  rw [h]
variable {P : Program} {w : World} {K : PySem.W.Frag} {mg : Str → Option Value} {base : Heap}
def sp_law_due : Sp := fun vs H Q _ => ∃ (b l e : Addr) (kvs : List (Key × V)) (ns : List Str), vs = [.ref b, .ref l, .ref e] ∧ H b = some (.dK kvs) ∧ H l = some (.lst (ns.map V.str)) ∧ ns.length ≤ 1000 ∧ (∀ k v, valV kvs (.inr k) = some v → ∃ (r d : Addr) (x : V), v = .ref r ∧ H r = some (.tup [x, .ref d])) ∧ ∀ d, DueOf H kvs ns e d → Q (.ref d) H
theorem ok_law_due (T : TX K mg) : FnOk P w K mg base CX0 1 T.f_law_due T.fd_law_due ["_law_bad", "_law_names", "_law_rest"] sp_law_due := by
  refine T.F_law_due.ok sc_law_due (fun vs H Q E h => ?_) (fun cdv A outer s H vs Q E hr h => ?_)
  · obtain ⟨b, l, e, kvs, ns, rfl, _⟩ := h
    rfl
  · obtain ⟨b, l, e, kvs, ns, rfl, hb, hl, le, ent, k⟩ := h
    refine ⟨_, (pss_cons (ps_for PassesOwn.never rfl (pi_list (pv 1)) (pg_name (i := 3) sc_law_due.nd rfl (Or.inl rfl)) (pss_one (ps_if (pt_cmp (pc_din (hu_of hr) (pv 3) (pv 0))) (pss_one (ps_ret (pe_ix ix_tup (pe_dget (hu_of hr) (pv 0) (pv 3) (fun _ _ => rfl)) pe_int (fun _ _ => rfl)))) pss_nil))) (pss_one (ps_ret (pv 2)))), ?_⟩
    refine ⟨_, rfl, l, rfl, ⟨_, SqL.of hl⟩, ?_⟩
    refine for_it (walk_list (xs := ns.map V.str)) (fun i σ Hi => ∃ (y3 : Option V), σ = [some (.ref b), some (.ref l), some (.ref e), y3] ∧ Hi = H ∧ ∀ d, DueOf H kvs (ns.drop i) e d → DueOf H kvs ns e d) ⟨_, rfl, rfl, fun d h => h⟩ (fun i σ Hi _ p => ?_) ?_ ?_
    · obtain ⟨_, _, rfl, _⟩ := p
      exact SqL.of hl
    · rintro i x σ Hi Hj hi ⟨y3, rfl, rfl, du⟩ ⟨rfl, hx⟩
      rw [List.getElem?_map] at hx
      obtain ⟨ky, hky, rfl⟩ := Option.map_eq_some_iff.mp hx
      have dr : ns.drop i = ky :: ns.drop (i + 1) := by
        have il := (List.getElem?_eq_some_iff.mp hky).1
        rw [List.drop_eq_getElem_cons il]
        rw [List.getElem?_eq_getElem il] at hky
        rw [Option.some.inj hky]
      rw [dr] at du
      dsimp only [gName]
      refine ⟨_, rfl, _, rfl, b, _, rfl, DGet.k (k := .inr ky) hb, _, rfl, ?_⟩
      cases hv : valV kvs (.inr ky) with
      | none =>
        refine itf rfl ?_
        exact ⟨_, rfl, rfl, fun d h => du d ((DueOf.no hv).mpr h)⟩
      | some v =>
        refine itt rfl ?_
        obtain ⟨r, d, x, rfl, hr⟩ := ent _ _ hv
        refine ⟨_, rfl, _, rfl, b, .ref r, rfl, ?_, ?_⟩
        · rw [← hv]
          exact DGet.k (k := .inr ky) hb
        exact ⟨r, _, _, _, rfl, rfl, SqT.of hr, (L2.atI_nat (j := 1) rfl), k d (du d ((DueOf.yes hv).mpr ⟨r, x, rfl, hr⟩))⟩
    · rintro σ Hi ⟨y3, rfl, rfl, du⟩
      refine ⟨_, rfl, k _ (du _ ?_)⟩
      rw [List.drop_of_length_le (by rw [List.length_map]; exact Nat.le_refl _)]
      rfl
end

/-! ### what the six functions say of a scene -/
section
theorem ValF.inv {K : PySem.W.Frag} {s b : Addr} {n : Int} {H : Hp} {k w : Str} {x y : V} (h : ValF K s b n H k x w y) :
    (∃ o, (k = "place" ∨ k = "first" ∨ k = "second") ∧ w = "number" ∧ y = .str k ∧ IsF K s b H x o ∧ between o 0 (n - 1) = false) ∨ (∃ o, k = "calls" ∧ w = "number" ∧ y = .str k ∧ IsF K s b H x o ∧ atLeast o 0 = false) ∨
    (∃ o, k = "size" ∧ w = "number" ∧ y = .str k ∧ IsF K s b H x o ∧ atLeast o 1 = false) ∨ ∃ i od, k = "targets" ∧ w = "targets" ∧ y = .int i ∧ TgF K s b H x od ∧ (∀ ds, od = some ds → ds.length ≤ 100) ∧ placeDue n od = some i := by
  cases h with
  | num a c d => exact .inl ⟨_, a, rfl, rfl, c, d⟩
  | calls c d => exact .inr (.inl ⟨_, rfl, rfl, rfl, c, d⟩)
  | size c d => exact .inr (.inr (.inl ⟨_, rfl, rfl, rfl, c, d⟩))
  | tgt c d e => exact .inr (.inr (.inr ⟨_, _, rfl, rfl, rfl, c, d, e⟩))
/-- what the key k holds: x -/
def KeyAt (K : PySem.W.Frag) (s b : Addr) (n : Int) (H : Hp) (kvs : List (Key × V)) (k : Str) (x good : V) : Prop := (valV kvs (.inr k) = none ∧ x = good) ∨
  ∃ (r e : Addr) (w : Str) (y : V), valV kvs (.inr k) = some (.ref r) ∧ r ≠ s ∧ r ≠ b ∧ e ≠ s ∧ e ≠ b ∧ H r = some (.tup [x, .ref e]) ∧ TwoS H e w y ∧ ValF K s b n H k x w y
theorem KeyAt.to {K : PySem.W.Frag} {s b : Addr} {n : Int} {H H2 : Hp} {kvs : List (Key × V)} {k : Str} {x good : V} (t : XT s b H H2) (h : KeyAt K s b n H kvs k x good) : KeyAt K s b n H2 kvs k x good := by
  rcases h with h | ⟨r, e, w, y, h0, h1, h2, h3, h4, h5, h6, h7⟩
  · exact .inl h
  · exact .inr ⟨r, e, w, y, h0, h1, h2, h3, h4, t _ _ h1 h2 (fun _ z => nomatch z) h5, t _ _ h3 h4 (fun _ z => nomatch z) h6, h7.to t⟩
/-- the pair that is due is the entry's -/
theorem due_hit {H : Hp} {kvs : List (Key × V)} {k : Str} {ks : List Str} {e0 d r e : Addr} {x : V} (hv : valV kvs (.inr k) = some (.ref r)) (hr : H r = some (.tup [x, .ref e])) (du : DueOf H kvs (k :: ks) e0 d) : d = e := by
  obtain ⟨r2, x2, e1, h2⟩ := (DueOf.yes hv).mp du
  obtain rfl := V.ref.inj e1
  rw [hr] at h2
  injection h2 with h2
  injection h2 with h2
  injection h2 with h3 h4
  injection h4 with h4
  exact (V.ref.inj h4).symm
theorem key_num {K : PySem.W.Frag} {s b : Addr} {n : Int} {H : Hp} {kvs : List (Key × V)} {k : Str} {x good : V} (h : KeyAt K s b n H kvs k x good) (hk : k = "place" ∨ k = "first" ∨ k = "second") : (valV kvs (.inr k) = none ∧ x = good) ∨
    ∃ (r e : Addr) (o : Option Int), valV kvs (.inr k) = some (.ref r) ∧ H r = some (.tup [x, .ref e]) ∧ TwoS H e "number" (.str k) ∧ IsF K s b H x o ∧ between o 0 (n - 1) = false := by
  rcases h with h | ⟨r, e, w, y, h0, _, _, _, _, h5, h6, h7⟩
  · exact .inl h
  refine .inr ?_
  rcases h7.inv with ⟨o, _, rfl, rfl, a, c⟩ | ⟨o, rfl, _⟩ | ⟨o, rfl, _⟩ | ⟨_, _, rfl, _⟩
  · exact ⟨r, e, o, h0, h5, h6, a, c⟩
  · exact absurd hk (by decide +kernel)
  · exact absurd hk (by decide +kernel)
  · exact absurd hk (by decide +kernel)
theorem key_size {K : PySem.W.Frag} {s b : Addr} {n : Int} {H : Hp} {kvs : List (Key × V)} {x good : V} (h : KeyAt K s b n H kvs "size" x good) : (valV kvs (.inr "size") = none ∧ x = good) ∨
    ∃ (r e : Addr) (o : Option Int), valV kvs (.inr "size") = some (.ref r) ∧ H r = some (.tup [x, .ref e]) ∧ TwoS H e "number" (.str "size") ∧ IsF K s b H x o ∧ atLeast o 1 = false := by
  rcases h with h | ⟨r, e, w, y, h0, _, _, _, _, h5, h6, h7⟩
  · exact .inl h
  refine .inr ?_
  rcases h7.inv with ⟨o, hk, _⟩ | ⟨o, hk, _⟩ | ⟨o, _, rfl, rfl, a, c⟩ | ⟨_, _, hk, _⟩
  · exact absurd hk (by decide +kernel)
  · exact absurd hk (by decide +kernel)
  · exact ⟨r, e, o, h0, h5, h6, a, c⟩
  · exact absurd hk (by decide +kernel)
theorem key_calls {K : PySem.W.Frag} {s b : Addr} {n : Int} {H : Hp} {kvs : List (Key × V)} {x good : V} (h : KeyAt K s b n H kvs "calls" x good) : (valV kvs (.inr "calls") = none ∧ x = good) ∨
    ∃ (r e : Addr) (o : Option Int), valV kvs (.inr "calls") = some (.ref r) ∧ H r = some (.tup [x, .ref e]) ∧ TwoS H e "number" (.str "calls") ∧ IsF K s b H x o ∧ atLeast o 0 = false := by
  rcases h with h | ⟨r, e, w, y, h0, _, _, _, _, h5, h6, h7⟩
  · exact .inl h
  refine .inr ?_
  rcases h7.inv with ⟨o, hk, _⟩ | ⟨o, _, rfl, rfl, a, c⟩ | ⟨o, hk, _⟩ | ⟨_, _, hk, _⟩
  · exact absurd hk (by decide +kernel)
  · exact ⟨r, e, o, h0, h5, h6, a, c⟩
  · exact absurd hk (by decide +kernel)
  · exact absurd hk (by decide +kernel)
theorem key_tgt {K : PySem.W.Frag} {s b : Addr} {n : Int} {H : Hp} {kvs : List (Key × V)} {x good : V} (h : KeyAt K s b n H kvs "targets" x good) : (valV kvs (.inr "targets") = none ∧ x = good) ∨
    ∃ (r e : Addr) (i : Int) (od : Option (List PyData)), valV kvs (.inr "targets") = some (.ref r) ∧ H r = some (.tup [x, .ref e]) ∧ TwoS H e "targets" (.int i) ∧ TgF K s b H x od ∧ (∀ ds, od = some ds → ds.length ≤ 100) ∧ placeDue n od = some i := by
  rcases h with h | ⟨r, e, w, y, h0, _, _, _, _, h5, h6, h7⟩
  · exact .inl h
  refine .inr ?_
  rcases h7.inv with ⟨o, hk, _⟩ | ⟨o, hk, _⟩ | ⟨o, hk, _⟩ | ⟨_, _, _, rfl, rfl, a, c, d⟩
  · exact absurd hk (by decide +kernel)
  · exact absurd hk (by decide +kernel)
  · exact absurd hk (by decide +kernel)
  · exact ⟨r, e, _, _, h0, h5, h6, a, c, d⟩
variable {K : PySem.W.Frag} {s b : Addr} {n : Int} {H : Hp} {kvs : List (Key × V)} {CN CT CL CW : Addr} {R : VK}
theorem rai_n {x : V} (k : ∀ G r, Ex H G → TwoS G r "number" x → R (.ref r) G) : Rai (ErrV CN CT CL CW R) H CN "name" x := fun dd H2 e2 hd => ⟨dd, _, _, rfl, hd, .inl ⟨rfl, rfl, fun G2 r e3 t => k _ r (ext e2 e3) t⟩⟩
theorem rai_t {x : V} (k : ∀ G r, Ex H G → TwoS G r "targets" x → R (.ref r) G) : Rai (ErrV CN CT CL CW R) H CT "index" x := fun dd H2 e2 hd => ⟨dd, _, _, rfl, hd, .inr (.inl ⟨rfl, rfl, fun G2 r e3 t => k _ r (ext e2 e3) t⟩)⟩
theorem rai_l {x : V} (k : ∀ G r, Ex H G → TwoS G r "large" x → R (.ref r) G) : Rai (ErrV CN CT CL CW R) H CL "limit" x := fun dd H2 e2 hd => ⟨dd, _, _, rfl, hd, .inr (.inr (.inl ⟨rfl, rfl, fun G2 r e3 t => k _ r (ext e2 e3) t⟩))⟩
theorem rai_w {x : V} (k : ∀ G r, Ex H G → TwoS G r "witness" x → R (.ref r) G) : Rai (ErrV CN CT CL CW R) H CW "index" x := fun dd H2 e2 hd => ⟨dd, _, _, rfl, hd, .inr (.inr (.inr ⟨rfl, rfl, fun G2 r e3 t => k _ r (ext e2 e3) t⟩))⟩
theorem ret_v {v : V} {H2 : Hp} (e : Ex H H2) (k : ∀ G r, Ex H G → TwoS G r "returned" .non → R (.ref r) G) : RetV R v H2 := ⟨by decide, fun p np => k _ p (ext e (exn np)) upd_same⟩
/-- what the result has to be, d the pair that is due -/
def Said (H : Hp) (d : Addr) (R : VK) : Prop := ∀ G r w y, Ex H G → TwoS H d w y → TwoS G r w y → R (.ref r) G
theorem goP_good (n4 : 4 ≤ n) : placeDue n (some [.int 0, .int 1]) = none := by
  show (if [PyData.int 0, .int 1] = [] then some (-1) else goP n [.int 0, .int 1] []) = none
  rw [if_neg (by simp)]
  unfold goP
  rw [if_pos ⟨btw_yes (by omega) (by omega), by simp⟩]
  unfold goP
  rw [if_pos ⟨btw_yes (by omega) (by omega), by simp [intD]⟩]
  rfl
theorem ask_rpl {vN vG : V} {ks : List Str} {e0 d t : Addr} {C : Int → Option (List PyData) → Prop} (n4 : 4 ≤ n) (ht : H t = some (.lst [.int 0, .int 1])) (sz : KeyAt K s b n H kvs "size" vN (.int n)) (tg : KeyAt K s b n H kvs "targets" vG (.ref t)) (du : DueOf H kvs ("size" :: "targets" :: ks) e0 d) (kk : Said H d R)
    (rest : DueOf H kvs ks e0 d → C n (some [.int 0, .int 1])) : RPl K CN CT (ErrV CN CT CL CW R) H vN vG C := by
  rcases key_size sz with ⟨h0, rfl⟩ | ⟨r, e, o, h0, h1, h2, h3, h4⟩
  · rw [DueOf.no h0] at du
    have a1 : atLeast (some n) 1 = true := decide_eq_true (by omega)
    rcases key_tgt tg with ⟨g0, rfl⟩ | ⟨r, e, i, od, g0, g1, g2, g3, g4, g5⟩
    · rw [DueOf.no g0] at du
      exact ⟨some n, rfl, .inr ⟨n, fun _ => True, some [.int 0, .int 1], rfl, by omega, ⟨(false, t), _, rfl, ht, .cons (.int 0) (.cons (.int 1) .nil)⟩, fun ds z => by rw [← Option.some.inj z]; decide, .inr ⟨goP_good n4, rest du⟩⟩⟩
    · obtain rfl := due_hit g0 g1 du
      exact ⟨some n, rfl, .inr ⟨n, fun _ => True, od, rfl, by omega, g3 H .refl, fun ds z => Nat.le_trans (g4 ds z) (by decide), .inl ⟨i, g5, rai_t fun G r e t => kk G r _ _ e g2 t⟩⟩⟩
  · obtain rfl := due_hit h0 h1 du
    exact ⟨o, h3.at, .inl ⟨h4, rai_n fun G r e t => kk G r _ _ e h2 t⟩⟩
/-- the place: not valid, or 2 -/
theorem ask_place {vP : V} {ks : List Str} {e0 d : Addr} {C : Option Int → Prop} (n4 : 4 ≤ n) (pl : KeyAt K s b n H kvs "place" vP (.int 2)) (du : DueOf H kvs ("place" :: ks) e0 d) (kk : Said H d R)
    (rest : DueOf H kvs ks e0 d → vP = .int 2 → between (some 2) 0 (n - 1) = true → C (some 2)) (bad : ∀ o, between o 0 (n - 1) = false → Rai (ErrV CN CT CL CW R) H CN "name" (.str "place") → C o) : ∃ op, IsF K s b H vP op ∧ C op := by
  rcases key_num pl (.inl rfl) with ⟨h0, rfl⟩ | ⟨r, e, o, h0, h1, h2, h3, h4⟩
  · rw [DueOf.no h0] at du
    exact ⟨some 2, isF_int 2, rest du rfl (btw_yes (by omega) (by omega))⟩
  · obtain rfl := due_hit h0 h1 du
    exact ⟨o, h3, bad o h4 (rai_n fun G r e t => kk G r _ _ e h2 t)⟩
theorem ask1 {vN vG vP : V} {e0 d t : Addr} (n4 : 4 ≤ n) (n23 : n ≤ 23) (ht : H t = some (.lst [.int 0, .int 1])) (sz : KeyAt K s b n H kvs "size" vN (.int n)) (tg : KeyAt K s b n H kvs "targets" vG (.ref t)) (pl : KeyAt K s b n H kvs "place" vP (.int 2))
    (du : DueOf H kvs ["size", "targets", "place"] e0 d) (h0 : TwoS H e0 "returned" .non) (kk : Said H d R) : spX_min_calls_on_ring K CN CT CL [vN, vG, vP] H (RetV R) (ErrV CN CT CL CW R) := by
  have ret : d = e0 → ∀ v H2, Ex H H2 → RetV R v H2 := fun q v H2 e => ret_v e fun G r e2 t2 => kk G r _ _ e2 (by rw [q]; exact h0) t2
  have main : ∃ op, IsF K s b H vP op ∧ RPl K CN CT (ErrV CN CT CL CW R) H vN vG fun n _ => (between op 0 (n - 1) = false ∧ Rai (ErrV CN CT CL CW R) H CN "name" (.str "place")) ∨ (between op 0 (n - 1) = true ∧ ((2000 < n ∧ Rai (ErrV CN CT CL CW R) H CL "limit" (.int 2000)) ∨ (n ≤ 2000 ∧ ∀ v H2, Ex H H2 → RetV R v H2))) := by
    rcases key_num pl (.inl rfl) with ⟨p0, rfl⟩ | ⟨r, e, o, p0, p1, p2, p3, p4⟩
    · exact ⟨some 2, isF_int 2, ask_rpl n4 ht sz tg du kk fun du => .inr ⟨btw_yes (by omega) (by omega), .inr ⟨by omega, ret ((DueOf.no p0).mp du)⟩⟩⟩
    · refine ⟨o, p3, ask_rpl n4 ht sz tg du kk fun du => .inl ⟨p4, rai_n fun G r e t => kk G r _ _ e ?_ t⟩⟩
      rw [due_hit p0 p1 du]
      exact p2
  obtain ⟨op, hp, h⟩ := main
  exact ⟨vN, vG, vP, op, rfl, fun H2 e => (hp.to (.of e)).at, h⟩
theorem ask2 {vN vG vP vD : V} {e0 d t : Addr} (n4 : 4 ≤ n) (n23 : n ≤ 23) (ht : H t = some (.lst [.int 0, .int 1])) (sz : KeyAt K s b n H kvs "size" vN (.int n)) (tg : KeyAt K s b n H kvs "targets" vG (.ref t)) (pl : KeyAt K s b n H kvs "place" vP (.int 2)) (cl : KeyAt K s b n H kvs "calls" vD (.int 3))
    (du : DueOf H kvs ["size", "targets", "place", "calls"] e0 d) (h0 : TwoS H e0 "returned" .non) (kk : Said H d R) : spX_sum_counts K CN CT CL [vN, vG, vP, vD] H (RetV R) (ErrV CN CT CL CW R) := by
  have ret : d = e0 → ∀ v H2, Ex H H2 → RetV R v H2 := fun q v H2 e => ret_v e fun G r e2 t2 => kk G r _ _ e2 (by rw [q]; exact h0) t2
  rcases key_calls cl with ⟨c0, rfl⟩ | ⟨rc, ec, oc, c0, c1, c2, c3, c4⟩
  · rcases key_num pl (.inl rfl) with ⟨p0, rfl⟩ | ⟨r, e, o, p0, p1, p2, p3, p4⟩
    · refine ⟨vN, vG, .int 2, .int 3, some 2, some 3, rfl, rfl, rfl, ask_rpl n4 ht sz tg du kk fun du => .inr ⟨btw_yes (by omega) (by omega), .inr ⟨3, rfl, .inr ⟨by omega, .inr ⟨by omega, ret ?_⟩⟩⟩⟩⟩
      exact (DueOf.no c0).mp ((DueOf.no p0).mp du)
    · refine ⟨vN, vG, vP, .int 3, o, some 3, rfl, p3.at, rfl, ask_rpl n4 ht sz tg du kk fun du => .inl ⟨p4, rai_n fun G r e t => kk G r _ _ e ?_ t⟩⟩
      rw [due_hit p0 p1 du]
      exact p2
  · rcases key_num pl (.inl rfl) with ⟨p0, rfl⟩ | ⟨r, e, o, p0, p1, p2, p3, p4⟩
    · refine ⟨vN, vG, .int 2, vD, some 2, oc, rfl, rfl, c3.at, ask_rpl n4 ht sz tg du kk fun du => .inr ⟨btw_yes (by omega) (by omega), .inl ⟨c4, rai_n fun G r e t => kk G r _ _ e ?_ t⟩⟩⟩
      rw [due_hit c0 c1 ((DueOf.no p0).mp du)]
      exact c2
    · refine ⟨vN, vG, vP, vD, o, oc, rfl, p3.at, c3.at, ask_rpl n4 ht sz tg du kk fun du => .inl ⟨p4, rai_n fun G r e t => kk G r _ _ e ?_ t⟩⟩
      rw [due_hit p0 p1 du]
      exact p2
theorem ask3 {vN vG vP vD : V} {e0 d t : Addr} (n4 : 4 ≤ n) (n23 : n ≤ 23) (ht : H t = some (.lst [.int 0, .int 1])) (sz : KeyAt K s b n H kvs "size" vN (.int n)) (tg : KeyAt K s b n H kvs "targets" vG (.ref t)) (pl : KeyAt K s b n H kvs "place" vP (.int 2)) (cl : KeyAt K s b n H kvs "calls" vD (.int 3))
    (du : DueOf H kvs ["size", "targets", "place", "calls"] e0 d) (h0 : TwoS H e0 "witness" (.int (-1))) (kk : Said H d R) : spY_check_sum K CN CT CL CW [vN, vG, vP, vD, .non] H (RetV R) (ErrV CN CT CL CW R) := by
  have raw : d = e0 → Rai (ErrV CN CT CL CW R) H CW "index" (.int (-1)) := fun q => rai_w fun G r e2 t2 => kk G r _ _ e2 (by rw [q]; exact h0) t2
  have no : ∀ cs : List Int, PyData.none = .list (cs.map PyData.int) → ∀ x ∈ cs, x.natAbs < 2 ^ 5000 := fun cs z => nomatch z
  rcases key_calls cl with ⟨c0, rfl⟩ | ⟨rc, ec, oc, c0, c1, c2, c3, c4⟩
  · rcases key_num pl (.inl rfl) with ⟨p0, rfl⟩ | ⟨r, e, o, p0, p1, p2, p3, p4⟩
    · refine ⟨vN, vG, .int 2, .int 3, .non, some 2, some 3, fun _ => True, .none, rfl, rfl, rfl, .non, no, ask_rpl n4 ht sz tg du kk fun du => .inr ⟨btw_yes (by omega) (by omega), .inr ⟨3, rfl, .inr ⟨by omega, Nat.lt_of_le_of_lt (show n.natAbs ≤ 23 by omega) (by decide +kernel), fun ds z => by rw [← Option.some.inj z]; decide, fun ts p _ _ => ⟨fun z => (nomatch (show some (-1 : Int) = none from z)), fun i z => ?_⟩⟩⟩⟩⟩
      obtain rfl : -1 = i := Option.some.inj (show some (-1 : Int) = some i from z)
      exact raw ((DueOf.no c0).mp ((DueOf.no p0).mp du))
    · refine ⟨vN, vG, vP, .int 3, .non, o, some 3, fun _ => True, .none, rfl, p3.at, rfl, .non, no, ask_rpl n4 ht sz tg du kk fun du => .inl ⟨p4, rai_n fun G r e t => kk G r _ _ e ?_ t⟩⟩
      rw [due_hit p0 p1 du]
      exact p2
  · rcases key_num pl (.inl rfl) with ⟨p0, rfl⟩ | ⟨r, e, o, p0, p1, p2, p3, p4⟩
    · refine ⟨vN, vG, .int 2, vD, .non, some 2, oc, fun _ => True, .none, rfl, rfl, c3.at, .non, no, ask_rpl n4 ht sz tg du kk fun du => .inr ⟨btw_yes (by omega) (by omega), .inl ⟨c4, rai_n fun G r e t => kk G r _ _ e ?_ t⟩⟩⟩
      rw [due_hit c0 c1 ((DueOf.no p0).mp du)]
      exact c2
    · refine ⟨vN, vG, vP, vD, .non, o, oc, fun _ => True, .none, rfl, p3.at, c3.at, .non, no, ask_rpl n4 ht sz tg du kk fun du => .inl ⟨p4, rai_n fun G r e t => kk G r _ _ e ?_ t⟩⟩
      rw [due_hit p0 p1 du]
      exact p2
theorem ask4 {vN vG vP : V} {e0 d t c : Addr} (n4 : 4 ≤ n) (n23 : n ≤ 23) (ht : H t = some (.lst [.int 0, .int 1])) (sz : KeyAt K s b n H kvs "size" vN (.int n)) (tg : KeyAt K s b n H kvs "targets" vG (.ref t)) (pl : KeyAt K s b n H kvs "place" vP (.int 2)) (hc : H c = some (.tup []))
    (du : DueOf H kvs ["size", "targets", "place"] e0 d) (h0 : TwoS H e0 "witness" (.int (-1))) (kk : Said H d R) : spX_call_from_sum K CN CT CW [vN, vG, vP, .ref c] H (RetV R) (ErrV CN CT CL CW R) := by
  have raw : d = e0 → Rai (ErrV CN CT CL CW R) H CW "index" (.int (-1)) := fun q => rai_w fun G r e2 t2 => kk G r _ _ e2 (by rw [q]; exact h0) t2
  rcases key_num pl (.inl rfl) with ⟨p0, rfl⟩ | ⟨r, e, o, p0, p1, p2, p3, p4⟩
  · refine ⟨vN, vG, .int 2, .ref c, some 2, fun _ => True, .tuple [], rfl, rfl, .tup hc .nil, ask_rpl n4 ht sz tg du kk fun du => .inr ⟨btw_yes (by omega) (by omega), Nat.lt_of_le_of_lt (show n.natAbs ≤ 23 by omega) (by decide +kernel), fun ds z => by rw [← Option.some.inj z]; decide, fun ts p _ _ => ⟨-1, .inl rfl, raw ((DueOf.no p0).mp du)⟩⟩⟩
  · refine ⟨vN, vG, vP, .ref c, o, fun _ => True, .tuple [], rfl, p3.at, .tup hc .nil, ask_rpl n4 ht sz tg du kk fun du => .inl ⟨p4, rai_n fun G r e t => kk G r _ _ e ?_ t⟩⟩
    rw [due_hit p0 p1 du]
    exact p2
theorem ask_two {vN vA vB vP : V} {e0 d : Addr} (n4 : 4 ≤ n) (n23 : n ≤ 23) (sz : KeyAt K s b n H kvs "size" vN (.int n)) (fa : KeyAt K s b n H kvs "first" vA (.int 0)) (fb : KeyAt K s b n H kvs "second" vB (.int 1)) (pl : KeyAt K s b n H kvs "place" vP (.int 2))
    (du : DueOf H kvs ["size", "first", "second", "place"] e0 d) (h0 : TwoS H e0 "returned" .non) (kk : Said H d R) : ∃ o oa ob op : Option Int, IsI K H vN o ∧ IsI K H vA oa ∧ IsI K H vB ob ∧ IsI K H vP op ∧ (∀ nm, twoDue o oa ob op = some nm → Rai (ErrV CN CT CL CW R) H CN "name" (.str nm)) ∧
      (twoDue o oa ob op = none → (∀ n, o = some n → n ≤ 10 ^ 44) ∧ ∀ v H2, Ex H H2 → RetV R v H2) := by
  have raw : ∀ nm e, d = e → TwoS H e "number" (.str nm) → Rai (ErrV CN CT CL CW R) H CN "name" (.str nm) := fun nm e q h => rai_n fun G r e2 t2 => kk G r _ _ e2 (by rw [q]; exact h) t2
  obtain ⟨o, ho, qo⟩ : ∃ o, IsF K s b H vN o ∧ ((valV kvs (.inr "size") = none ∧ o = some n) ∨ (atLeast o 1 = false ∧ ∃ r e, valV kvs (.inr "size") = some (.ref r) ∧ H r = some (.tup [vN, .ref e]) ∧ TwoS H e "number" (.str "size"))) := by
    rcases key_size sz with ⟨p0, rfl⟩ | ⟨r, e, o, p0, p1, p2, p3, p4⟩
    · exact ⟨_, isF_int n, .inl ⟨p0, rfl⟩⟩
    · exact ⟨o, p3, .inr ⟨p4, r, e, p0, p1, p2⟩⟩
  obtain ⟨oa, ha, qa⟩ : ∃ o, IsF K s b H vA o ∧ ((valV kvs (.inr "first") = none ∧ o = some 0) ∨ (between o 0 (n - 1) = false ∧ ∃ r e, valV kvs (.inr "first") = some (.ref r) ∧ H r = some (.tup [vA, .ref e]) ∧ TwoS H e "number" (.str "first"))) := by
    rcases key_num fa (.inr (.inl rfl)) with ⟨p0, rfl⟩ | ⟨r, e, o, p0, p1, p2, p3, p4⟩
    · exact ⟨_, isF_int 0, .inl ⟨p0, rfl⟩⟩
    · exact ⟨o, p3, .inr ⟨p4, r, e, p0, p1, p2⟩⟩
  obtain ⟨ob, hb, qb⟩ : ∃ o, IsF K s b H vB o ∧ ((valV kvs (.inr "second") = none ∧ o = some 1) ∨ (between o 0 (n - 1) = false ∧ ∃ r e, valV kvs (.inr "second") = some (.ref r) ∧ H r = some (.tup [vB, .ref e]) ∧ TwoS H e "number" (.str "second"))) := by
    rcases key_num fb (.inr (.inr rfl)) with ⟨p0, rfl⟩ | ⟨r, e, o, p0, p1, p2, p3, p4⟩
    · exact ⟨_, isF_int 1, .inl ⟨p0, rfl⟩⟩
    · exact ⟨o, p3, .inr ⟨p4, r, e, p0, p1, p2⟩⟩
  obtain ⟨op, hp, qp⟩ : ∃ o, IsF K s b H vP o ∧ ((valV kvs (.inr "place") = none ∧ o = some 2) ∨ (between o 0 (n - 1) = false ∧ ∃ r e, valV kvs (.inr "place") = some (.ref r) ∧ H r = some (.tup [vP, .ref e]) ∧ TwoS H e "number" (.str "place"))) := by
    rcases key_num pl (.inl rfl) with ⟨p0, rfl⟩ | ⟨r, e, o, p0, p1, p2, p3, p4⟩
    · exact ⟨_, isF_int 2, .inl ⟨p0, rfl⟩⟩
    · exact ⟨o, p3, .inr ⟨p4, r, e, p0, p1, p2⟩⟩
  refine ⟨o, oa, ob, op, ho.at, ha.at, hb.at, hp.at, ?_⟩
  have main : (∃ nm e, twoDue o oa ob op = some nm ∧ d = e ∧ TwoS H e "number" (.str nm)) ∨ (twoDue o oa ob op = none ∧ o = some n ∧ d = e0) := by
    rcases qo with ⟨s0, rfl⟩ | ⟨s1, r, e, s2, s3, s4⟩
    rotate_left
    · exact .inl ⟨"size", e, by unfold twoDue; rw [if_neg (by rw [s1]; simp)], due_hit s2 s3 du, s4⟩
    rw [DueOf.no s0] at du
    have z1 : atLeast (some n) 1 = true := decide_eq_true (by omega)
    have z2 : between (some 0) 0 (n - 1) = true := btw_yes (by omega) (by omega)
    have z3 : between (some 1) 0 (n - 1) = true := btw_yes (by omega) (by omega)
    have z4 : between (some 2) 0 (n - 1) = true := btw_yes (by omega) (by omega)
    unfold twoDue
    rw [if_pos z1]
    dsimp only [Option.getD_some]
    rcases qa with ⟨s0, rfl⟩ | ⟨s1, r, e, s2, s3, s4⟩
    rotate_left
    · exact .inl ⟨"first", e, by rw [if_neg (by rw [s1]; simp)], due_hit s2 s3 du, s4⟩
    rw [DueOf.no s0] at du
    rw [if_pos z2]
    rcases qb with ⟨s0, rfl⟩ | ⟨s1, r, e, s2, s3, s4⟩
    rotate_left
    · exact .inl ⟨"second", e, by rw [if_neg (by rw [s1]; simp)], due_hit s2 s3 du, s4⟩
    rw [DueOf.no s0] at du
    rw [if_pos z3, if_neg (by simp)]
    rcases qp with ⟨s0, rfl⟩ | ⟨s1, r, e, s2, s3, s4⟩
    rotate_left
    · exact .inl ⟨"place", e, by rw [if_neg (by rw [s1]; simp)], due_hit s2 s3 du, s4⟩
    rw [DueOf.no s0] at du
    rw [if_pos z4]
    exact .inr ⟨rfl, rfl, du⟩
  rcases main with ⟨nm, e, a1, a2, a3⟩ | ⟨a1, a2, a3⟩
  · refine ⟨fun nm2 z => ?_, fun z => ?_⟩
    · rw [a1] at z
      obtain rfl := Option.some.inj z
      exact raw nm e a2 a3
    · rw [a1] at z
      cases z
  · refine ⟨fun nm2 z => ?_, fun z => ⟨fun n2 z2 => ?_, fun v H2 e => ret_v e fun G r e2 t2 => kk G r _ _ e2 (by rw [a3]; exact h0) t2⟩⟩
    · rw [a1] at z
      cases z
    · rw [a2] at z2
      obtain rfl := Option.some.inj z2
      exact Int.le_trans n23 (by decide +kernel)
theorem ask5 {vN vA vB vP : V} {e0 d : Addr} (n4 : 4 ≤ n) (n23 : n ≤ 23) (sz : KeyAt K s b n H kvs "size" vN (.int n)) (fa : KeyAt K s b n H kvs "first" vA (.int 0)) (fb : KeyAt K s b n H kvs "second" vB (.int 1)) (pl : KeyAt K s b n H kvs "place" vP (.int 2))
    (du : DueOf H kvs ["size", "first", "second", "place"] e0 d) (h0 : TwoS H e0 "returned" .non) (kk : Said H d R) : spX_min_calls_two K CN [vN, vA, vB, vP] H (RetV R) (ErrV CN CT CL CW R) := by
  obtain ⟨o, oa, ob, op, h1, h2, h3, h4, h5, h6⟩ := ask_two (CN := CN) (CT := CT) (CL := CL) (CW := CW) n4 n23 sz fa fb pl du h0 kk
  exact ⟨vN, vA, vB, vP, o, oa, ob, op, rfl, h1, h2, h3, h4, h5, h6⟩
theorem ask6 {vN vA vB vP : V} {e0 d : Addr} (n4 : 4 ≤ n) (n23 : n ≤ 23) (sz : KeyAt K s b n H kvs "size" vN (.int n)) (fa : KeyAt K s b n H kvs "first" vA (.int 0)) (fb : KeyAt K s b n H kvs "second" vB (.int 1)) (pl : KeyAt K s b n H kvs "place" vP (.int 2))
    (du : DueOf H kvs ["size", "first", "second", "place"] e0 d) (h0 : TwoS H e0 "returned" .non) (kk : Said H d R) : spX_two_target_sum K CN [vN, vA, vB, vP] H (RetV R) (ErrV CN CT CL CW R) := by
  obtain ⟨o, oa, ob, op, h1, h2, h3, h4, h5, h6⟩ := ask_two (CN := CN) (CT := CT) (CL := CL) (CW := CW) n4 n23 sz fa fb pl du h0 kk
  exact ⟨vN, vA, vB, vP, o, oa, ob, op, rfl, h1, h2, h3, h4, h5, fun z => ⟨(h6 z).1, fun H2 e => (h6 z).2 _ H2 e, fun q c l H2 e _ => (h6 z).2 _ H2 e⟩⟩
end

/-! ### comprehensions of new tuples -/
theorem paired_mono {α : Type} {P Q : V → α → Prop} (h : ∀ v a, P v a → Q v a) : ∀ {xs : List V} {as : List α}, Paired P xs as → Paired Q xs as
  | _, _, .nil => .nil
  | _, _, .cons q t => .cons (h _ _ q) (paired_mono h t)
theorem paired_snoc {α : Type} {P : V → α → Prop} {v : V} {a : α} (h : P v a) : ∀ {xs : List V} {as : List α}, Paired P xs as → Paired P (xs ++ [v]) (as ++ [a])
  | _, _, .nil => .cons h .nil
  | _, _, .cons q t => .cons q (paired_snoc h t)
theorem lc_new {α : Type} (Pd : Hp → V → α → Prop) (mono : ∀ (H H2 : Hp) (v : V) (a : α), (∀ c xs, H c = some (.tup xs) → H2 c = some (.tup xs)) → Pd H v a → Pd H2 v a)
    {J : It} {n : Nat} {G : Hp → Prop} {Y : Nat → Hp → V → Hp → Prop} (w : Walk J n G Y) {g : TG} {te : TE} {vs : List Nat} {σ : L2.St} {H1 : Hp} {D : Addr} {Qd : Hp → Prop} (as : List α) (hn : as.length = n) (hl : n ≤ 10000000) (hD : H1 D = none)
    (hG : ∀ H, Ex H1 H → G H)
    (hs : ∀ i x a H H2 (R : VK), as[i]? = some a → Ex H1 H → Y i H x H2 → (∀ v H5, Ex H H5 → Pd H5 v a → R v H5) → g x (wipe σ vs) H2 fun σ2 H3 => wipe σ2 vs = wipe σ vs ∧ te σ2 H3 R)
    (hg : ∀ x σ2 H2 (R R2 : L2.St → Hp → Prop), (∀ σ3 H3, R σ3 H3 → R2 σ3 H3) → g x σ2 H2 R → g x σ2 H2 R2)
    (hd : ∀ H xs, Ex H1 H → H D = some (.lst xs) → Paired (Pd H) xs as → Qd H) :
    ∃ W : Nat → Nat → Hp → Prop, (∃ m, W 0 m (upd H1 D (.lst []))) ∧ ∀ i m H, W i m H →
      (J.stop i H ∧ Qd H) ∨ (J.go i H ∧ ∃ Nx : Hp → Prop, (∀ H2, Nx H2 → ∃ m2, m2 < m ∧ W (i + 1) m2 H2) ∧ ∀ x H2, J.yld i H x H2 → g x (wipe σ vs) H2 fun σ2 H3 => wipe σ2 vs = wipe σ vs ∧ tYes σ2 H3 fun b H4 =>
        if b = true then te σ2 H4 fun y H5 => ∃ acc, H5 D = some (.lst acc) ∧ acc.length < sizeLine ∧ Nx (upd H5 D (.lst (acc ++ [y]))) else Nx H4) := by
  refine lc_it w (fun i H => Ex H1 H ∧ ∃ xs, H D = some (.lst xs) ∧ Paired (Pd H) xs (as.take i)) ⟨exn hD, [], upd_same, .nil⟩ (fun i H _ p => hG H p.1) (fun i x H H2 hi p y => ?_) (fun H p => ?_)
  · obtain ⟨a, ha⟩ : ∃ a, as[i]? = some a := ⟨_, List.getElem?_eq_getElem (by omega)⟩
    refine hg _ _ _ _ _ (fun σ3 H3 q => ⟨q.1, q.2⟩) (hs i x a H H2 (fun y H5 => ∃ acc, H5 D = some (.lst acc) ∧ acc.length < sizeLine ∧ Ex H1 (upd H5 D (.lst (acc ++ [y]))) ∧ ∃ xs, upd H5 D (.lst (acc ++ [y])) D = some (.lst xs) ∧ Paired (Pd (upd H5 D (.lst (acc ++ [y])))) xs (as.take (i + 1))) ha p.1 y fun v H5 e hv => ?_)
    obtain ⟨p1, xs, p2, p3⟩ := p
    have tp : ∀ c zs, H5 c = some (.tup zs) → upd H5 D (.lst (xs ++ [v])) c = some (.tup zs) := fun c zs z => by
      rw [upd_ne (ne_of z (e _ _ p2) (by intro q; cases q))]
      exact z
    refine ⟨xs, e _ _ p2, ?_, ex_upd (ext p1 e) hD, xs ++ [v], upd_same, ?_⟩
    · rw [Paired.length p3, List.length_take]
      exact Nat.lt_of_le_of_lt (Nat.le_trans (Nat.min_le_right _ _) (by rw [hn]; exact hl)) (by decide)
    · rw [take_more ha]
      refine paired_snoc (mono _ _ _ _ tp hv) (paired_mono (fun v a q => mono _ _ _ _ tp (mono _ _ _ _ (fun c zs z => e _ _ z) q)) p3)
  · obtain ⟨p1, xs, p2, p3⟩ := p
    rw [List.take_of_length_le (by omega)] at p3
    exact hd H xs p1 p2 p3
def PdRow (H : Hp) (x : V) (hs : List Int) : Prop := ∃ r, x = V.ref r ∧ H r = some (.tup (hs.map V.int))
theorem pdrow_mono (H H2 : Hp) (v : V) (a : List Int) (e : ∀ c xs, H c = some (.tup xs) → H2 c = some (.tup xs)) (h : PdRow H v a) : PdRow H2 v a := by
  obtain ⟨r, h1, h2⟩ := h
  exact ⟨r, h1, e _ _ h2⟩

/-! ### shown texts are texts -/
def Sk (x : Str) : Prop := ∀ c ∈ x.cps.toList, c < 0x110000
theorem sk_ok {x : Str} (h : Sk x) : (PyData.str x).canLay0 = true := by
  simp only [PyData.canLay0, PyData.strOk]
  rw [Array.all_eq_true_iff_forall_mem]
  intro c hc
  exact decide_eq_true (h c (Array.mem_toList_iff.mpr hc))
theorem sk_of (s : String) : Sk (Str.ofString s) := fun c hc => by
  rw [Str.ofString_eq_toList] at hc
  have hc : c ∈ s.toList.map Char.toNat := hc
  obtain ⟨ch, _, rfl⟩ := List.mem_map.mp hc
  have := ch.valid
  show ch.val.toNat < 0x110000
  rcases this with h | ⟨_, h⟩
  · exact Nat.lt_trans h (by decide)
  · exact h
theorem sk_app {a b : Str} (ha : Sk a) (hb : Sk b) : Sk (a ++ b) := fun c hc => by
  have hc : c ∈ (a.cps ++ b.cps).toList := hc
  rw [Array.toList_append, List.mem_append] at hc
  exact hc.elim (ha c) (hb c)
theorem sk_empty : Sk Str.empty := fun c hc => nomatch (show c ∈ ([] : List Nat) from hc)
theorem sk_join {sep : Str} (hs : Sk sep) : ∀ {l : List Str}, (∀ x ∈ l, Sk x) → Sk (Str.join sep l)
  | [], _ => sk_empty
  | [x], h => h x List.mem_cons_self
  | x :: y :: r, h => sk_app (sk_app (h x List.mem_cons_self) hs) (sk_join hs fun z hz => h z (List.mem_cons_of_mem _ hz))
theorem sk_from : ∀ {l : List Str} {k : Nat} {acc : Str}, Sk acc → (∀ x ∈ l, Sk x) → Sk (textFrom k acc l)
  | [], _, _, ha, _ => ha
  | x :: l, k, acc, ha, h => sk_from (l := l) (sk_app (sk_app ha (by split <;> exact sk_of _)) (h x List.mem_cons_self)) fun z hz => h z (List.mem_cons_of_mem _ hz)
theorem sk_all : ∀ {ds : List PyData}, (∀ d ∈ ds, Sk d.shown) → ∀ x ∈ PyData.shownAll ds, Sk x
  | [], _, x, hx => nomatch hx
  | d :: ds, h, x, hx => by
    rcases List.mem_cons.mp (show x ∈ d.shown :: PyData.shownAll ds from hx) with rfl | hx
    · exact h d List.mem_cons_self
    · exact sk_all (fun e he => h e (List.mem_cons_of_mem _ he)) x hx
theorem sk_list {ds : List PyData} (h : ∀ d ∈ ds, Sk d.shown) : Sk (PyData.list ds).shown := by
  simp only [PyData.shown, listText]
  exact sk_app (sk_from (sk_of _) (sk_all h)) (sk_of _)
theorem sk_tuple {ds : List PyData} (h : ∀ d ∈ ds, Sk d.shown) : Sk (PyData.tuple ds).shown := by
  simp only [PyData.shown, tupleText]
  exact sk_app (sk_app (sk_of _) (sk_join (sk_of _) (sk_all h))) (by split <;> exact sk_of _)
theorem sk_none : Sk PyData.none.shown := sk_of _
theorem sk_bool (b : Bool) : Sk (PyData.bool b).shown := by cases b <;> exact sk_of _
theorem sk_int (i : Int) : Sk (PyData.int i).shown := sk_of _
theorem sk_emp : Sk (PyData.dict []).shown := by
  have h : ((PyData.dict []).shown.cps.toList.all fun c => decide (c < 0x110000)) = true := by
    simp only [PyData.shown, PyData.shownKv]
    decide +kernel
  intro c hc
  exact of_decide_eq_true (List.all_eq_true.mp h c hc)
theorem sk_word {x : Str} (h : ((reprText x).cps.toList.all fun c => decide (c < 0x110000)) = true) : Sk (PyData.str x).shown := by
  rw [PyData.shown_str]
  intro c hc
  exact of_decide_eq_true (List.all_eq_true.mp h c hc)
theorem sk_ints (ps : List Int) : Sk (iT ps).shown := sk_tuple fun d hd => by
  obtain ⟨i, _, rfl⟩ := List.mem_map.mp hd
  exact sk_int i
theorem sk_lit (s : String) : Sh 3 (.str (Str.ofString s)) := ⟨sk_ok (sk_of s), by simp only [PyData.depth]; omega⟩

/-! ### the arguments of a scene: good values, overwritten -/
section
theorem valV_merge {k : Key} : ∀ {more kvs : List (Key × V)}, (more.map (·.1)).Nodup → valV (mergeK kvs more) k = (valV more k).or (valV kvs k)
  | [], kvs, _ => rfl
  | m :: more, kvs, nd => by
    have nd : (m.1 :: more.map (·.1)).Nodup := nd
    have nd := List.nodup_cons.mp nd
    show valV (mergeK (putK kvs m.1 m.2) more) k = _
    rw [valV_merge nd.2, valV_put]
    by_cases e : k = m.1
    · rw [if_pos e, valV_pos e.symm]
      have : valV more k = none := by
        unfold valV
        rw [Option.map_eq_none_iff, List.find?_eq_none]
        intro p hp z
        exact nd.1 (List.mem_map.mpr ⟨p, hp, (of_decide_eq_true z).trans e⟩)
      rw [this]
      rfl
    · rw [if_neg e, valV_neg (fun z => e z.symm)]
/-- the pairs (key, value) that overwrite -/
def Over (H : Hp) (p q : Key × V) : Prop := p.1 = q.1 ∧ ∃ r e : Addr, p.2 = .ref r ∧ H r = some (.tup [q.2, .ref e])
theorem over_ex {H : Hp} : ∀ {kvs : List (Key × V)}, (∀ p ∈ kvs, ∃ (r e : Addr) (x : V), p.2 = .ref r ∧ H r = some (.tup [x, .ref e])) → ∃ more, Paired (Over H) kvs more
  | [], _ => ⟨[], .nil⟩
  | p :: kvs, h => by
    obtain ⟨r, e, x, h1, h2⟩ := h p List.mem_cons_self
    obtain ⟨more, hm⟩ := over_ex fun q hq => h q (List.mem_cons_of_mem _ hq)
    exact ⟨(p.1, x) :: more, .cons ⟨rfl, r, e, h1, h2⟩ hm⟩
theorem over_keys {H : Hp} : ∀ {kvs more : List (Key × V)}, Paired (Over H) kvs more → more.map (·.1) = kvs.map (·.1)
  | _, _, .nil => rfl
  | _, _, .cons h t => by rw [List.map_cons, List.map_cons, over_keys t, h.1]
theorem over_val {H : Hp} {k : Key} : ∀ {kvs more : List (Key × V)}, Paired (Over H) kvs more → (valV kvs k = none ∧ valV more k = none) ∨ ∃ (r e : Addr) (x : V), valV kvs k = some (.ref r) ∧ H r = some (.tup [x, .ref e]) ∧ valV more k = some x
  | _, _, .nil => .inl ⟨rfl, rfl⟩
  | _, _, .cons (a := p) (b := q) h t => by
    obtain ⟨h1, r, e, h2, h3⟩ := h
    by_cases c : p.1 = k
    · exact .inr ⟨r, e, q.2, by rw [valV_pos c, h2], h3, valV_pos (h1 ▸ c)⟩
    · rcases over_val (k := k) t with ⟨a, b⟩ | ⟨r, e, x, a, b, d⟩
      · exact .inl ⟨by rw [valV_neg c, a], by rw [valV_neg (h1 ▸ c), b]⟩
      · exact .inr ⟨r, e, x, by rw [valV_neg c, a], b, by rw [valV_neg (h1 ▸ c), d]⟩
theorem valV_mem {k : Key} {v : V} : ∀ {kvs : List (Key × V)}, valV kvs k = some v → (k, v) ∈ kvs
  | [], h => nomatch h
  | p :: kvs, h => by
    by_cases c : p.1 = k
    · rw [valV_pos c] at h
      obtain rfl := Option.some.inj h
      rw [← c]
      exact List.mem_cons_self
    · rw [valV_neg c] at h
      exact List.mem_cons_of_mem _ (valV_mem h)
theorem over_key {K : PySem.W.Frag} {s b : Addr} {n : Int} {H : Hp} {kvs more gl : List (Key × V)} {ks : List Str} {k : Str} {good : V} (bad : BadF K s b n H kvs ks) (ov : Paired (Over H) kvs more) (hg : valV gl (.inr k) = some good) : ∃ x, valV (mergeK gl more) (.inr k) = some x ∧ KeyAt K s b n H kvs k x good := by
  rw [valV_merge (by rw [over_keys ov]; exact bad.nd)]
  rcases over_val (k := .inr k) ov with ⟨a, c⟩ | ⟨r, e, x, a, c, d⟩
  · rw [c, hg]
    exact ⟨good, rfl, .inl ⟨a, rfl⟩⟩
  · rw [d]
    refine ⟨x, rfl, .inr ?_⟩
    obtain ⟨k2, _, e1, r2, e2, x2, w, y, h0, h1, h2, h3, h4, h5, h6, h7⟩ := bad.sub _ (valV_mem a)
    obtain rfl := Sum.inr.inj e1
    obtain rfl := V.ref.inj h0
    rw [c] at h5
    injection h5 with h5
    injection h5 with h5
    injection h5 with h8 h9
    injection h9 with h9
    obtain rfl := V.ref.inj h9
    subst h8
    exact ⟨r, e, w, y, a, h1, h2, h3, h4, c, h6, h7⟩
theorem BadF.ents {K : PySem.W.Frag} {s b : Addr} {n : Int} {H : Hp} {kvs : List (Key × V)} {ks : List Str} (bad : BadF K s b n H kvs ks) : ∀ k v, valV kvs (.inr k) = some v → ∃ (r d : Addr) (x : V), v = .ref r ∧ H r = some (.tup [x, .ref d]) := fun k v h => by
  obtain ⟨k2, _, e1, r2, e2, x2, w, y, h0, h1, h2, h3, h4, h5, h6, h7⟩ := bad.sub _ (valV_mem h)
  exact ⟨r2, e2, x2, h0, h5⟩
theorem BadF.overs {K : PySem.W.Frag} {s b : Addr} {n : Int} {H : Hp} {kvs : List (Key × V)} {ks : List Str} (bad : BadF K s b n H kvs ks) : ∃ more, Paired (Over H) kvs more := over_ex fun p hp => by
  obtain ⟨k2, _, e1, r2, e2, x2, w, y, h0, h1, h2, h3, h4, h5, h6, h7⟩ := bad.sub _ hp
  exact ⟨r2, e2, x2, h0, h5⟩
theorem over_at {H : Hp} : ∀ {kvs more : List (Key × V)} {i : Nat} {q : Key × V}, Paired (Over H) kvs more → more[i]? = some q → ∃ p, kvs[i]? = some p ∧ Over H p q
  | _, _, _, _, .nil, h => by simp at h
  | _, _, 0, _, .cons (a := p) h _, e => ⟨p, rfl, (Option.some.inj e) ▸ h⟩
  | _, _, i + 1, _, .cons _ t, e => by
    obtain ⟨p, h1, h2⟩ := over_at (i := i) t (by simpa using e)
    exact ⟨p, by simpa using h1, h2⟩
theorem valV_at : ∀ {kvs : List (Key × V)} {i : Nat} {p : Key × V}, (kvs.map (·.1)).Nodup → kvs[i]? = some p → valV kvs p.1 = some p.2
  | q :: kvs, 0, p, _, h => by
    obtain rfl := Option.some.inj h
    exact valV_pos rfl
  | q :: kvs, i + 1, p, nd, h => by
    have nd := List.nodup_cons.mp (show (q.1 :: kvs.map (·.1)).Nodup from nd)
    have h : kvs[i]? = some p := by simpa using h
    rw [valV_neg (fun z => nd.1 (List.mem_map.mpr ⟨p, List.mem_of_getElem? h, z.symm⟩))]
    exact valV_at nd.2 h
def PdK (H : Hp) (v : V) (q : Key × V) : Prop := ∃ p : Addr, v = .ref p ∧ H p = some (.tup [kV q.1, q.2])
theorem pdK_mono (H H2 : Hp) (v : V) (a : Key × V) (e : ∀ c xs, H c = some (.tup xs) → H2 c = some (.tup xs)) (h : PdK H v a) : PdK H2 v a := by
  obtain ⟨p, h1, h2⟩ := h
  exact ⟨p, h1, e _ _ h2⟩
theorem pdK_refs {H : Hp} : ∀ {xs : List V} {more : List (Key × V)}, Paired (PdK H) xs more → ∃ ps : List Addr, xs = ps.map V.ref ∧ Paired (fun p kv => H p = some (.tup [kV kv.1, kv.2])) ps more
  | _, _, .nil => ⟨[], rfl, .nil⟩
  | _, _, .cons ⟨p, h1, h2⟩ t => by
    obtain ⟨ps, h3, h4⟩ := pdK_refs t
    exact ⟨p :: ps, by rw [h1, h3]; rfl, .cons h2 h4⟩
theorem paired_to {α β : Type} {R S : α → β → Prop} (f : ∀ a b, R a b → S a b) : ∀ {l : List α} {m : List β}, Paired R l m → Paired S l m
  | _, _, .nil => .nil
  | _, _, .cons h t => .cons (f _ _ h) (paired_to f t)
theorem mergeK_new : ∀ {more acc : List (Key × V)}, ((acc ++ more).map (·.1)).Nodup → mergeK acc more = acc ++ more
  | [], acc, _ => by rw [List.append_nil]; rfl
  | q :: more, acc, nd => by
    have nq : q.1 ∉ acc.map (·.1) := fun z => by
      rw [List.map_append, List.nodup_append] at nd
      exact nd.2.2 _ z _ List.mem_cons_self rfl
    show mergeK (putK acc q.1 q.2) more = _
    rw [putK_new nq, mergeK_new (by rw [List.append_assoc]; exact nd), List.append_assoc]
    rfl
/-- the pair at d, as data -/
def dueP (H : Hp) (d : Addr) (a : PyData) : Prop := ∃ (w : Str) (y : V) (yd : PyData), TwoS H d w y ∧ a = .tuple [.str w, yd] ∧ Sk w ∧ ((∃ z, y = .str z ∧ yd = .str z ∧ Sk z) ∨ (∃ i, y = .int i ∧ yd = .int i) ∨ (y = .non ∧ yd = .none))
def Pd3 (H : Hp) (v : V) (d : PyData) : Prop := ∃ (r : Addr), v = .ref r ∧ dueP H r d
theorem pd3_mono (H H2 : Hp) (v : V) (a : PyData) (e : ∀ c xs, H c = some (.tup xs) → H2 c = some (.tup xs)) (h : Pd3 H v a) : Pd3 H2 v a := by
  obtain ⟨r, h1, w, y, yd, h2, h3⟩ := h
  exact ⟨r, h1, w, y, yd, e _ _ h2, h3⟩
theorem pd3_dp {K : PySem.W.Frag} {H : Hp} {v : V} {d : PyData} (h : Pd3 H v d) : Dp K H v d ∧ Sh 3 d := by
  obtain ⟨r, rfl, w, y, yd, h2, rfl, hw, h⟩ := h
  rcases h with ⟨z, rfl, rfl, hz⟩ | ⟨i, rfl, rfl⟩ | ⟨rfl, rfl⟩
  · refine ⟨.tup (SqT.of h2) (.cons (.str _) (.cons (.str _) .nil)), (sh_tuple (n := 2) fun d hd => ?_)⟩
    simp only [List.mem_cons, List.not_mem_nil, or_false] at hd
    rcases hd with rfl | rfl
    · exact ⟨sk_ok hw, by simp only [PyData.depth]; omega⟩
    · exact ⟨sk_ok hz, by simp only [PyData.depth]; omega⟩
  · refine ⟨.tup (SqT.of h2) (.cons (.str _) (.cons (.int _) .nil)), (sh_tuple (n := 2) fun d hd => ?_)⟩
    simp only [List.mem_cons, List.not_mem_nil, or_false] at hd
    rcases hd with rfl | rfl
    · exact ⟨sk_ok hw, by simp only [PyData.depth]; omega⟩
    · exact sh_int i
  · refine ⟨.tup (SqT.of h2) (.cons (.str _) (.cons .non .nil)), (sh_tuple (n := 2) fun d hd => ?_)⟩
    simp only [List.mem_cons, List.not_mem_nil, or_false] at hd
    rcases hd with rfl | rfl
    · exact ⟨sk_ok hw, by simp only [PyData.depth]; omega⟩
    · exact ⟨rfl, by simp only [PyData.depth]; omega⟩
theorem pd3_all {K : PySem.W.Frag} {H : Hp} : ∀ {vs : List V} {ds : List PyData}, Paired (Pd3 H) vs ds → DpAll K H vs ds ∧ ∀ d ∈ ds, Sh 3 d
  | _, _, .nil => ⟨.nil, fun d hd => nomatch hd⟩
  | _, _, .cons h t => by
    obtain ⟨a, b⟩ := pd3_dp (K := K) h
    obtain ⟨c, e⟩ := pd3_all (K := K) t
    refine ⟨.cons a c, fun d hd => ?_⟩
    rcases List.mem_cons.mp hd with rfl | hd
    · exact b
    · exact e d hd
/-- what Said asks, as data -/
theorem said_pd {H : Hp} {d : Addr} {a : PyData} {R : VK} (h : dueP H d a) (k : ∀ v G, Ex H G → Pd3 G v a → R v G) : Said H d R := fun G r w y e t1 t2 => by
  obtain ⟨w2, y2, yd, t3, rest⟩ := h
  have q := t1.symm.trans t3
  injection q with q
  injection q with q
  injection q with q1 q2
  injection q2 with q2
  obtain rfl := V.str.inj q1
  subst q2
  exact k _ G e ⟨r, rfl, w, y, yd, t2, rest⟩
/-- every entry's pair is data -/
theorem due_data {K : PySem.W.Frag} {s b : Addr} {n : Int} {H : Hp} {kvs : List (Key × V)} {ks : List Str} {e0 d : Addr} {a0 : PyData} (bad : BadF K s b n H kvs ks) (hks : ∀ k ∈ ks, Sk k) (h0 : dueP H e0 a0) : ∀ {names : List Str}, DueOf H kvs names e0 d → ∃ a, dueP H d a
  | [], du => ⟨a0, by rw [show d = e0 from du]; exact h0⟩
  | k :: names, du => by
    cases hv : valV kvs (.inr k) with
    | none => exact due_data bad hks h0 ((DueOf.no hv).mp du)
    | some v =>
      obtain ⟨r, x, rfl, hr⟩ := (DueOf.yes hv).mp du
      obtain ⟨k2, hk2, e1, r2, e2, x2, w, y, h0, h1, h2, h3, h4, h5, h6, h7⟩ := bad.sub _ (valV_mem hv)
      obtain rfl := Sum.inr.inj e1
      obtain rfl := V.ref.inj h0
      rw [hr] at h5
      injection h5 with h5
      injection h5 with h5
      injection h5 with h8 h9
      injection h9 with h9
      obtain rfl := V.ref.inj h9
      have sn : Sk "number" := sk_of _
      have st : Sk "targets" := sk_of _
      rcases h7.inv with ⟨o, _, rfl, rfl, _⟩ | ⟨o, _, rfl, rfl, _⟩ | ⟨o, _, rfl, rfl, _⟩ | ⟨i, _, _, rfl, rfl, _⟩
      · exact ⟨_, _, _, .str k, h6, rfl, sn, .inl ⟨k, rfl, rfl, hks k hk2⟩⟩
      · exact ⟨_, _, _, .str k, h6, rfl, sn, .inl ⟨k, rfl, rfl, hks k hk2⟩⟩
      · exact ⟨_, _, _, .str k, h6, rfl, sn, .inl ⟨k, rfl, rfl, hks k hk2⟩⟩
      · exact ⟨_, _, _, .int i, h6, rfl, st, .inr (.inl ⟨i, rfl, rfl⟩)⟩
end

theorem lam_updl {X : Cx} {k : Nat} {H : Hp} {f l : Addr} {xs ys : List V} {tb : XK → TE} (hl : H l = some (.lst xs)) (h : CG.LamAt X k H f tb) : CG.LamAt X k (upd H l (.lst ys)) f tb := by
  obtain ⟨pa, bo, sc, c', a1, a2, a3⟩ := h
  refine ⟨pa, bo, sc, c', ?_, ?_, a3⟩
  · rw [upd_ne (fun z => by rw [z, hl] at a1; exact nomatch (show HO.lst _ = HO.ext _ from Option.some.inj a1))]
    exact a1
  · rw [upd_ne (fun z => by rw [z, hl] at a2; exact nomatch (show HO.lst _ = HO.ext _ from Option.some.inj a2))]
    exact a2
theorem lam_mono {X : Cx} {k : Nat} {H G : Hp} {f : Addr} {tb : XK → TE} (e : Ex H G) (h : CG.LamAt X k H f tb) : CG.LamAt X k G f tb := h.ext (LamX.ExtN.of e)
theorem tabs_updl {T : List (Addr × Str)} {H : Hp} {l : Addr} {xs ys : List V} (hl : H l = some (.lst xs)) (t : LamX.Tabs T H) : LamX.Tabs T (upd H l (.lst ys)) := fun p hp => by
  obtain ⟨ps, h1, h2, h3⟩ := t p hp
  refine ⟨ps, ?_, h2, fun pos cv hc => ?_⟩
  · rw [upd_ne (fun z => by rw [z, hl] at h1; cases h1)]
    exact h1
  · obtain ⟨c, e1, e2⟩ := h3 pos cv hc
    refine ⟨c, e1, ?_⟩
    rw [upd_ne (fun z => by rw [z, hl] at e2; exact nomatch (show HO.lst _ = HO.ext _ from Option.some.inj e2))]
    exact e2

/-! ### pairs (lambda, the pair that is due) -/
section
theorem DueOf.en {H G : Hp} {kvs : List (Key × V)} (x : LamX.ExtN H G) : ∀ {names : List Str} {e d : Addr}, DueOf H kvs names e d → DueOf G kvs names e d
  | [], _, _, h => h
  | k :: names, e, d, h => by
    cases hv : valV kvs (.inr k) with
    | none => exact (DueOf.no hv).mpr (DueOf.en x ((DueOf.no hv).mp h))
    | some v =>
      obtain ⟨r, y, h1, h2⟩ := (DueOf.yes hv).mp h
      exact (DueOf.yes hv).mpr ⟨r, y, h1, x _ _ h2 (fun _ z => nomatch z)⟩
theorem DueOf.updl {H : Hp} {kvs : List (Key × V)} {l : Addr} {xs ys : List V} (hl : H l = some (.lst xs)) : ∀ {names : List Str} {e d : Addr}, DueOf H kvs names e d → DueOf (upd H l (.lst ys)) kvs names e d
  | [], _, _, h => h
  | k :: names, e, d, h => by
    cases hv : valV kvs (.inr k) with
    | none => exact (DueOf.no hv).mpr (DueOf.updl hl ((DueOf.no hv).mp h))
    | some v =>
      obtain ⟨r, y, h1, h2⟩ := (DueOf.yes hv).mp h
      exact (DueOf.yes hv).mpr ⟨r, y, h1, by rw [upd_ne (ne_of h2 hl (fun z => nomatch z))]; exact h2⟩
structure AskAt (X : Cx) (k : Nat) (H : Hp) (kvs : List (Key × V)) (q f d e : Addr) (tb : XK → TE) (names : List Str) (w : Str) (y : V) : Prop where
  at_ : H q = some (.tup [.ref f, .ref d])
  lam : CG.LamAt X k H f tb
  due : DueOf H kvs names e d
  two : TwoS H e w y
theorem AskAt.en {X : Cx} {k : Nat} {H G : Hp} {kvs : List (Key × V)} {q f d e : Addr} {tb : XK → TE} {names : List Str} {w : Str} {y : V} (x : LamX.ExtN H G) (h : AskAt X k H kvs q f d e tb names w y) : AskAt X k G kvs q f d e tb names w y :=
  ⟨x _ _ h.at_ (fun _ z => nomatch z), h.lam.ext x, h.due.en x, x _ _ h.two (fun _ z => nomatch z)⟩
theorem AskAt.updl {X : Cx} {k : Nat} {H : Hp} {kvs : List (Key × V)} {q f d e l : Addr} {xs ys : List V} {tb : XK → TE} {names : List Str} {w : Str} {y : V} (hl : H l = some (.lst xs)) (h : AskAt X k H kvs q f d e tb names w y) : AskAt X k (upd H l (.lst ys)) kvs q f d e tb names w y :=
  ⟨by rw [upd_ne (ne_of h.at_ hl (fun z => nomatch z))]; exact h.at_, lam_updl hl h.lam, h.due.updl hl, by show upd H l _ e = _; rw [upd_ne (ne_of h.two hl (fun z => nomatch z))]; exact h.two⟩
def Off (H0 : Hp) (a : Addr) : Prop := ∀ c u, H0 c = some u → (∀ ps, u ≠ HO.tbl ps) → c ≠ a
theorem Off.new {H0 H : Hp} {a : Addr} (x : LamX.ExtN H0 H) (n : H a = none) : Off H0 a := fun c u h t => ne_of_none (x c u h t) n
theorem extN_upd {H0 H : Hp} {a : Addr} {o : HO} (x : LamX.ExtN H0 H) (n : Off H0 a) : LamX.ExtN H0 (upd H a o) := fun c u h t => by
  rw [upd_ne (n c u h t)]
  exact x c u h t
theorem BadF.entsN {K : PySem.W.Frag} {s b : Addr} {n : Int} {H G : Hp} {kvs : List (Key × V)} {ks : List Str} (bad : BadF K s b n H kvs ks) (x : LamX.ExtN H G) : ∀ k v, valV kvs (.inr k) = some v → ∃ (r d : Addr) (x : V), v = .ref r ∧ G r = some (.tup [x, .ref d]) := fun k v h => by
  obtain ⟨r, d, y, h1, h2⟩ := bad.ents k v h
  exact ⟨r, d, y, h1, x _ _ h2 (fun _ z => nomatch z)⟩
/-- all but the source and the tables stays -/
def XNS (s : Addr) (H H2 : Hp) : Prop := ∀ c o, c ≠ s → (∀ ps, o ≠ HO.tbl ps) → H c = some o → H2 c = some o
theorem XNS.trans {s : Addr} {H H1 H2 : Hp} (a : XNS s H H1) (b : XNS s H1 H2) : XNS s H H2 := fun c o n t h => b c o n t (a c o n t h)
theorem XNS.xb {s : Addr} {H H2 : Hp} (x : XB s H H2) : XNS s H H2 := fun c o n _ h => x c o n h
theorem XNS.en {s : Addr} {H H2 : Hp} (x : LamX.ExtN H H2) : XNS s H H2 := fun c o _ t h => x c o h t
theorem Sr5.en {s : Addr} {H H2 : Hp} {m : Nat} (x : LamX.ExtN H H2) (h : Sr5 H s m) : Sr5 H2 s m := by
  obtain ⟨a, b, c, h, q⟩ := h
  exact ⟨a, b, c, x _ _ h (fun _ z => nomatch z), q⟩
theorem tabs_xb5 {s : Addr} {T : List (Addr × Str)} {H H2 : Hp} {m : Nat} (t : LamX.Tabs T H) (src : Sr5 H s m) (x : XB s H H2) : LamX.Tabs T H2 := fun p hp => by
  obtain ⟨ps, h1, h2, h3⟩ := t p hp
  obtain ⟨_, _, _, hs, _⟩ := src
  refine ⟨ps, x _ _ (fun z => by rw [z, hs] at h1; cases h1) h1, h2, fun pos cv hc => ?_⟩
  obtain ⟨c, e1, e2⟩ := h3 pos cv hc
  exact ⟨c, e1, x _ _ (fun z => by rw [z, hs] at e2; exact nomatch (show HO.lst _ = HO.ext _ from Option.some.inj e2)) e2⟩
/-- a pair (lambda, a pair) -/
structure AskB (X : Cx) (k : Nat) (H : Hp) (q f d : Addr) (tb : XK → TE) (w : Str) (y : V) : Prop where
  at_ : H q = some (.tup [.ref f, .ref d])
  lam : CG.LamAt X k H f tb
  two : TwoS H d w y
theorem AskB.en {X : Cx} {k : Nat} {H G : Hp} {q f d : Addr} {tb : XK → TE} {w : Str} {y : V} (x : LamX.ExtN H G) (h : AskB X k H q f d tb w y) : AskB X k G q f d tb w y :=
  ⟨x _ _ h.at_ (fun _ z => nomatch z), h.lam.ext x, x _ _ h.two (fun _ z => nomatch z)⟩
theorem AskB.updl {X : Cx} {k : Nat} {H : Hp} {q f d l : Addr} {xs ys : List V} {tb : XK → TE} {w : Str} {y : V} (hl : H l = some (.lst xs)) (h : AskB X k H q f d tb w y) : AskB X k (upd H l (.lst ys)) q f d tb w y :=
  ⟨by rw [upd_ne (ne_of h.at_ hl (fun z => nomatch z))]; exact h.at_, lam_updl hl h.lam, by show upd H l _ d = _; rw [upd_ne (ne_of h.two hl (fun z => nomatch z))]; exact h.two⟩
end

section
variable {P : Program} {w : World} {K : PySem.W.Frag} {mg : Str → Option Value} {base : Heap}
theorem okX_check_sum (T : TX K mg) : FnOk P w K mg base (L2.CX P w) 5 T.f_check_sum T.fd_check_sum ["size", "targets", "place", "calls", "counts"] (spY_check_sum K T.C_InvalidNumber T.C_InvalidTargets T.C_TooLarge T.C_InvalidWitness) := okY_check_sum T
def sp_law_all_right (K : PySem.W.Frag) (TT : List (Addr × Str)) : Sp := fun vs H Q _ => ∃ (s g b : Addr) (n : Int) (m : Nat) (kvs : List (Key × V)), vs = [.ref g, .ref b] ∧ 4 ≤ n ∧ n ≤ 23 ∧ Sr5 H s m ∧ GoodD s b n H g ∧ BadF K s b n H kvs ["place", "calls", "first", "second", "targets", "size"] ∧ LamX.Tabs TT H ∧ ∀ H2, LamX.ExtN H H2 → LamX.Tabs TT H2 → Q (.bl true) H2
theorem ok_law_all_right (T : TX K mg) (L : TL T base) : CG.FnOkG P w K mg base 9 T.f_law_all_right T.fd_law_all_right ["_law_good", "_law_bad"] (sp_law_all_right K L.tabs) := by
  refine CG.okGT T.F_law_all_right L.at_law_all_right sc_law_all_right (fun vs H Q E h => ?_) (fun A outer s0 H0 vs Q E gd hr h => ?_)
  · obtain ⟨s, g, b, n, m, kvs, rfl, _⟩ := h
    rfl
  · obtain ⟨s, g, b, n, m, kvs, rfl, n4, n23, src, good, bad, tabs, k⟩ := h
    refine ⟨_, (pss_cons (ps_set (i := 2) sc_law_all_right.nd rfl (Or.inr rfl) (pe_callTy call_dictD (by rfl) T.z_dict (by decide +kernel) (pa_cons (pv 0) pa_nil))) (pss_cons (ps_expr (pe_bm PySem.F.plainAttrs_dict PySem.F.slot_dict_update PySem.F.type_dict_update CD.mt_updK (pv 2) (pa_cons (pe_callTy (call_dictP rfl) (by rfl) T.z_dict (by decide +kernel) (pa_cons (pe_lock (pe_lc (own := [("_law_key", 12)]) (g := (gName 12)) rfl sc_law_all_right.nd (pi_keys (pv 1)) (blkOk_by (N := N_law_all_right) (sc := defScope s_law_all_right) (by decide +kernel)) (fun _ _ _ _ _ => (pg_name (i := 12) sc_law_all_right.nd rfl (Or.inl rfl))) (fun _ _ _ _ _ => pts_nil) (fun _ _ _ _ _ => (pe_tup (pa_cons (pv 12) (pa_cons (pe_ix (r := rIxT K) ix_tup (pe_dget (hu_of hr) (pv 1) (pv 12) (fun _ _ => rfl)) pe_int (fun _ _ => rfl)) pa_nil)))))) pa_nil)) pa_nil))) (pss_cons (ps_asg (pe_lc (own := [("_law_key", 12)]) (g := (gName 12)) rfl sc_law_all_right.nd (pi_list (pe_lst (pa_cons pe_str (pa_cons pe_str (pa_cons pe_str (pa_cons pe_str (pa_cons pe_str (pa_cons pe_str pa_nil)))))))) (blkOk_by (N := N_law_all_right) (sc := defScope s_law_all_right) (by decide +kernel)) (fun _ _ _ _ _ => (pg_name (i := 12) sc_law_all_right.nd rfl (Or.inl rfl))) (fun _ _ _ _ _ => pts_nil) (fun _ _ _ _ _ => (pe_dget (hu_of hr) (pv 2) (pv 12) (fun _ _ => rfl)))) (pg_lst rfl (pgs_cons (pg_name (i := 3) sc_law_all_right.nd rfl (Or.inr rfl)) (pgs_cons (pg_name (i := 4) sc_law_all_right.nd rfl (Or.inr rfl)) (pgs_cons (pg_name (i := 5) sc_law_all_right.nd rfl (Or.inr rfl)) (pgs_cons (pg_name (i := 6) sc_law_all_right.nd rfl (Or.inr rfl)) (pgs_cons (pg_name (i := 7) sc_law_all_right.nd rfl (Or.inr rfl)) (pgs_cons (pg_name (i := 8) sc_law_all_right.nd rfl (Or.inr rfl)) pgs_nil)))))))) (pss_cons (ps_set (i := 9) sc_law_all_right.nd rfl (Or.inl rfl) (pe_lst (pa_cons pe_str (pa_cons pe_str (pa_cons pe_str pa_nil))))) (pss_cons (ps_set (i := 10) sc_law_all_right.nd rfl (Or.inl rfl) (pe_call (ok_law_due T) (hr.mono (by decide)) rfl T.m_law_due T.F_law_due.kp T.b_law_due .nil pass0 (pa_cons (pv 1) (pa_cons (pe_lst (pa_cons pe_str (pa_cons pe_str (pa_cons pe_str (pa_cons pe_str pa_nil))))) (pa_cons (pe_tup (pa_cons pe_str (pa_cons pe_non pa_nil))) pa_nil))))) (pss_cons (ps_set (i := 11) sc_law_all_right.nd rfl (Or.inl rfl) (pe_lst (pa_cons (pe_tup (pa_cons (CG.pe_lamKT (k := 6) L.tb_law_all_right rfl (by exact L.hm_law_all_right) (by exact L.one_law_all_right) (fun A outer s H E f c hr => (pe_call (okX_min_calls_on_ring T) (hr.mono (by decide)) rfl T.m_min_calls_on_ring T.F_min_calls_on_ring.kp T.b_min_calls_on_ring .nil (passes_call (takes_of rfl rfl rfl rfl) (fun _ _ _ _ h => h)) (pa_cons (pv 3) (pa_cons (pv 4) (pa_cons (pv 5) pa_nil))))) (show LamX.LamS (defScope s_law_all_right) _ from LamX.lamS_by (by decide +kernel))) (pa_cons (pe_call (ok_law_due T) (hr.mono (by decide)) rfl T.m_law_due T.F_law_due.kp T.b_law_due .nil pass0 (pa_cons (pv 1) (pa_cons (pv 9) (pa_cons (pe_tup (pa_cons pe_str (pa_cons pe_non pa_nil))) pa_nil)))) pa_nil))) pa_nil))) (pss_cons (ps_expr (pe_bm PySem.F.plainAttrs_list PySem.F.slot_list_append PySem.F.type_list_append mt_append (pv 11) (pa_cons (pe_tup (pa_cons (CG.pe_lamKT (k := 6) L.tb_law_all_right rfl (by exact L.hm_law_all_right) (by exact L.one_law_all_right) (fun A outer s H E f c hr => (pe_call (okX_sum_counts T) (hr.mono (by decide)) rfl T.m_sum_counts T.F_sum_counts.kp T.b_sum_counts .nil (passes_call (takes_of rfl rfl rfl rfl) (fun _ _ _ _ h => h)) (pa_cons (pv 3) (pa_cons (pv 4) (pa_cons (pv 5) (pa_cons (pv 6) pa_nil)))))) (show LamX.LamS (defScope s_law_all_right) _ from LamX.lamS_by (by decide +kernel))) (pa_cons (pe_call (ok_law_due T) (hr.mono (by decide)) rfl T.m_law_due T.F_law_due.kp T.b_law_due .nil pass0 (pa_cons (pv 1) (pa_cons (pe_op (r := rCatR K) op_catR (pv 9) (pe_lst (pa_cons pe_str pa_nil))) (pa_cons (pe_tup (pa_cons pe_str (pa_cons pe_non pa_nil))) pa_nil)))) pa_nil))) pa_nil))) (pss_cons (ps_expr (pe_bm PySem.F.plainAttrs_list PySem.F.slot_list_append PySem.F.type_list_append mt_append (pv 11) (pa_cons (pe_tup (pa_cons (CG.pe_lamKT (k := 6) L.tb_law_all_right rfl (by exact L.hm_law_all_right) (by exact L.one_law_all_right) (fun A outer s H E f c hr => (pe_call (okX_check_sum T) (hr.mono (by decide)) rfl T.m_check_sum T.F_check_sum.kp T.b_check_sum .nil (passes_call (takes_of rfl rfl rfl rfl) (fun _ _ _ _ h => h)) (pa_cons (pv 3) (pa_cons (pv 4) (pa_cons (pv 5) (pa_cons (pv 6) (pa_cons pe_non pa_nil))))))) (show LamX.LamS (defScope s_law_all_right) _ from LamX.lamS_by (by decide +kernel))) (pa_cons (pe_call (ok_law_due T) (hr.mono (by decide)) rfl T.m_law_due T.F_law_due.kp T.b_law_due .nil pass0 (pa_cons (pv 1) (pa_cons (pe_op (r := rCatR K) op_catR (pv 9) (pe_lst (pa_cons pe_str pa_nil))) (pa_cons (pe_tup (pa_cons pe_str (pa_cons (pe_un un_neg pe_int) pa_nil))) pa_nil)))) pa_nil))) pa_nil))) (pss_cons (ps_expr (pe_bm PySem.F.plainAttrs_list PySem.F.slot_list_append PySem.F.type_list_append mt_append (pv 11) (pa_cons (pe_tup (pa_cons (CG.pe_lamKT (k := 6) L.tb_law_all_right rfl (by exact L.hm_law_all_right) (by exact L.one_law_all_right) (fun A outer s H E f c hr => (pe_call (okX_call_from_sum T) (hr.mono (by decide)) rfl T.m_call_from_sum T.F_call_from_sum.kp T.b_call_from_sum .nil (passes_call (takes_of rfl rfl rfl rfl) (fun _ _ _ _ h => h)) (pa_cons (pv 3) (pa_cons (pv 4) (pa_cons (pv 5) (pa_cons (pe_tup pa_nil) pa_nil)))))) (show LamX.LamS (defScope s_law_all_right) _ from LamX.lamS_by (by decide +kernel))) (pa_cons (pe_call (ok_law_due T) (hr.mono (by decide)) rfl T.m_law_due T.F_law_due.kp T.b_law_due .nil pass0 (pa_cons (pv 1) (pa_cons (pv 9) (pa_cons (pe_tup (pa_cons pe_str (pa_cons (pe_un un_neg pe_int) pa_nil))) pa_nil)))) pa_nil))) pa_nil))) (pss_cons (ps_expr (pe_bm PySem.F.plainAttrs_list PySem.F.slot_list_append PySem.F.type_list_append mt_append (pv 11) (pa_cons (pe_tup (pa_cons (CG.pe_lamKT (k := 6) L.tb_law_all_right rfl (by exact L.hm_law_all_right) (by exact L.one_law_all_right) (fun A outer s H E f c hr => (pe_call (okX_min_calls_two T) (hr.mono (by decide)) rfl T.m_min_calls_two T.F_min_calls_two.kp T.b_min_calls_two .nil (passes_call (takes_of rfl rfl rfl rfl) (fun _ _ _ _ h => h)) (pa_cons (pv 3) (pa_cons (pv 7) (pa_cons (pv 8) (pa_cons (pv 5) pa_nil)))))) (show LamX.LamS (defScope s_law_all_right) _ from LamX.lamS_by (by decide +kernel))) (pa_cons (pv 10) pa_nil))) pa_nil))) (pss_cons (ps_expr (pe_bm PySem.F.plainAttrs_list PySem.F.slot_list_append PySem.F.type_list_append mt_append (pv 11) (pa_cons (pe_tup (pa_cons (CG.pe_lamKT (k := 6) L.tb_law_all_right rfl (by exact L.hm_law_all_right) (by exact L.one_law_all_right) (fun A outer s H E f c hr => (pe_call (okX_two_target_sum T) (hr.mono (by decide)) rfl T.m_two_target_sum T.F_two_target_sum.kp T.b_two_target_sum .nil (passes_call (takes_of rfl rfl rfl rfl) (fun _ _ _ _ h => h)) (pa_cons (pv 3) (pa_cons (pv 7) (pa_cons (pv 8) (pa_cons (pv 5) pa_nil)))))) (show LamX.LamS (defScope s_law_all_right) _ from LamX.lamS_by (by decide +kernel))) (pa_cons (pv 10) pa_nil))) pa_nil))) (pss_one (ps_ret (pe_cmpR (r := rEqD K) (op_eqD hr.units) (CG.pe_lcM (own := [("_law_ask", 13), ("_law_due_here", 14)]) (g := (gTup K 2 (gCons (gName 13) (gCons (gName 14) gNil)))) rfl sc_law_all_right.nd (pi_list (pv 11)) (blkOk_by (N := N_law_all_right) (sc := defScope s_law_all_right) (by decide +kernel)) (fun _ _ _ _ _ => (pg_tup rfl (pgs_cons (pg_name (i := 13) sc_law_all_right.nd rfl (Or.inl rfl)) (pgs_cons (pg_name (i := 14) sc_law_all_right.nd rfl (Or.inl rfl)) pgs_nil)))) (CG.said_elt T.F_law_said T.b_law_said sc_law_said (fun _ _ _ _ _ => rfl) T.m_law_said rfl (by exact Or.inl rfl) (gives_law_said T 6) gd hr (fun _ _ _ _ _ => (pv 13)))) (pe_lc (own := [("_law_ask", 13), ("_law_due_here", 14)]) (g := (gTup K 2 (gCons (gName 13) (gCons (gName 14) gNil)))) rfl sc_law_all_right.nd (pi_list (pv 11)) (blkOk_by (N := N_law_all_right) (sc := defScope s_law_all_right) (by decide +kernel)) (fun _ _ _ _ _ => (pg_tup rfl (pgs_cons (pg_name (i := 13) sc_law_all_right.nd rfl (Or.inl rfl)) (pgs_cons (pg_name (i := 14) sc_law_all_right.nd rfl (Or.inl rfl)) pgs_nil)))) (fun _ _ _ _ _ => pts_nil) (fun _ _ _ _ _ => (pv 14))) (nomark _))))))))))))))), ?_⟩
    obtain ⟨t, ngs, ngb, nts, ntb, ht, hg⟩ := good
    refine ⟨_, rfl, g, _, rfl, .inl hg, ?_⟩
    (intro a na; generalize hGa : upd _ a _ = H1; have eH1 := exG hGa na; have ha := atG hGa; clear hGa)
    have bad1 := bad.to (.of eH1) (eH1 _ _ bad.at_)
    have ht1 := eH1 _ _ ht
    have nab : a ≠ b := (ne_of_none bad.at_ na).symm
    have tabs1 := tabs.ext eH1
    dsimp only [gName]
    show tSeq _ _ _ [_, _, _, _, _, _, _, _, _, _, _, _, _, _, _] _
    refine ⟨_, rfl, .inr (.inr (.inl ⟨rfl, .inl ⟨_, ha⟩⟩)), b, _, bad1.at_, True.intro, fun od => ?_⟩
    generalize hG1 : upd H1 b _ = Hb
    have hbb : Hb b = some (.frz od (.dK kvs)) := by rw [← hG1]; exact upd_same
    have tpb : ∀ c o, c ≠ b → H1 c = some o → Hb c = some o := fun c o n z => by rw [← hG1, upd_ne n]; exact z
    have XTb : XT s b H1 Hb := fun c o _ n _ z => tpb c o n z
    refine ⟨_, rfl, b, od, rfl, .inl ⟨_, hbb, fun D hD => ?_⟩⟩
    obtain ⟨more, ov0⟩ := bad.overs
    have ov : Paired (Over H1) kvs more := paired_to (fun p q h => by
      obtain ⟨h1, r, e, h2, h3⟩ := h
      exact ⟨h1, r, e, h2, eH1 _ _ h3⟩) ov0
    have lmo : more.length = kvs.length := by
      have := congrArg List.length (over_keys ov)
      rwa [List.length_map, List.length_map] at this
    have lk6 : kvs.length ≤ 6 := bad1.len
    refine lc_new PdK pdK_mono walk_keys more lmo (by omega) hD (fun Hx e => e _ _ hbb) ?_ gmono_name ?_
    · rintro i x q Hx Hy R hq ex ⟨rfl, ky, vv, hky, rfl⟩ kk
      obtain ⟨p, hp, h1, r, e, h2, h3⟩ := over_at ov hq
      obtain rfl := Option.some.inj (hky.symm.trans hp)
      obtain rfl : vv = .ref r := h2
      have hv := valV_at bad1.nd hky
      have nrb : r ≠ b := ne_of h3 bad1.at_ (fun z => nomatch z)
      refine ⟨rfl, _, rfl, _, rfl, _, rfl, b, .ref r, rfl, .inl ⟨kvs, ky, .inr ⟨_, ex _ _ hbb⟩, rfl, hv.symm⟩, r, _, _, _, rfl, rfl, SqT.of (ex _ _ (tpb _ _ nrb h3)), (L2.atI_nat (j := 0) rfl), slen rfl, fun pp npp => kk _ _ (exn npp) ⟨pp, rfl, ?_⟩⟩
      rw [upd_same]
      show some (HO.tup [kV ky, q.2]) = some (HO.tup [kV q.1, q.2])
      rw [← h1]
    intro H2 xs e2 hD2 pd
    obtain ⟨ps, rfl, pps⟩ := pdK_refs pd
    have hb2 := e2 _ _ hbb
    refine ⟨hb2, ?_⟩
    have hD3 : upd H2 b (.dK kvs) D = some (.lst (ps.map V.ref)) := by
      rw [upd_ne (ne_of hD2 hb2 (fun z => nomatch z))]
      exact hD2
    have pps3 : Paired (fun p kv => SqT K (upd H2 b (.dK kvs)) p [kV kv.1, kv.2]) ps more := paired_to (fun p kv h => SqT.of (by
      rw [upd_ne (ne_of h hb2 (fun z => nomatch z))]
      exact h)) pps
    have e13 : Ex H1 (upd H2 b (.dK kvs)) := fun c o z => by
      by_cases cb : c = b
      · rw [cb, bad1.at_] at z
        rw [cb, upd_same]
        exact z
      · rw [upd_ne cb]
        exact e2 _ _ (tpb _ _ cb z)
    clear hG1 hbb tpb XTb hD pps hD2 hb2 e2 pd
    show tNil _ (upd H2 b (.dK kvs)) _
    generalize upd H2 b (.dK kvs) = H3 at hD3 pps3 e13
    refine ⟨D, ps, more, rfl, SqL.of hD3, pps3, fun dd ndd => ?_⟩
    rw [show mergeK [] more = more from mergeK_new (by rw [List.nil_append, over_keys ov]; exact bad1.nd)]
    have ha3 := e13 _ _ ha
    have nadd : a ≠ dd := ne_of_none ha3 ndd
    refine ⟨a, dd, _, more, rfl, rfl, nadd, exn ndd _ _ ha3, upd_same, Nat.le_trans (show 6 + more.length ≤ 12 by omega) (by decide), ?_⟩
    obtain ⟨vN, mN, kN⟩ := over_key (k := "size") bad ov0 (gl := [(.inr "size", .int n), (.inr "targets", .ref t), (.inr "place", .int 2), (.inr "calls", .int 3), (.inr "first", .int 0), (.inr "second", .int 1)]) rfl
    obtain ⟨vG, mG, kG⟩ := over_key (k := "targets") bad ov0 (gl := [(.inr "size", .int n), (.inr "targets", .ref t), (.inr "place", .int 2), (.inr "calls", .int 3), (.inr "first", .int 0), (.inr "second", .int 1)]) rfl
    obtain ⟨vP, mP, kP⟩ := over_key (k := "place") bad ov0 (gl := [(.inr "size", .int n), (.inr "targets", .ref t), (.inr "place", .int 2), (.inr "calls", .int 3), (.inr "first", .int 0), (.inr "second", .int 1)]) rfl
    obtain ⟨vD, mD, kD⟩ := over_key (k := "calls") bad ov0 (gl := [(.inr "size", .int n), (.inr "targets", .ref t), (.inr "place", .int 2), (.inr "calls", .int 3), (.inr "first", .int 0), (.inr "second", .int 1)]) rfl
    obtain ⟨vA, mA, kA⟩ := over_key (k := "first") bad ov0 (gl := [(.inr "size", .int n), (.inr "targets", .ref t), (.inr "place", .int 2), (.inr "calls", .int 3), (.inr "first", .int 0), (.inr "second", .int 1)]) rfl
    obtain ⟨vB, mB, kB⟩ := over_key (k := "second") bad ov0 (gl := [(.inr "size", .int n), (.inr "targets", .ref t), (.inr "place", .int 2), (.inr "calls", .int 3), (.inr "first", .int 0), (.inr "second", .int 1)]) rfl
    have len6 : ([V.str "size", .str "targets", .str "place", .str "calls", .str "first", .str "second"] : List V).length = 6 := rfl
    have e04 : Ex H0 (upd (upd H3 dd (.dK more)) a (.dK (mergeK [(.inr "size", .int n), (.inr "targets", .ref t), (.inr "place", .int 2), (.inr "calls", .int 3), (.inr "first", .int 0), (.inr "second", .int 1)] more))) := fun c o z => by
      rw [upd_ne (ne_of_none z na), upd_ne (ne_of_none (e13 _ _ (eH1 _ _ z)) ndd)]
      exact e13 _ _ (eH1 _ _ z)
    show tSeq _ _ _ [_, _, _, _, _, _, _, _, _, _, _, _, _, _, _] (upd (upd H3 dd (.dK more)) a (.dK (mergeK [(.inr "size", .int n), (.inr "targets", .ref t), (.inr "place", .int 2), (.inr "calls", .int 3), (.inr "first", .int 0), (.inr "second", .int 1)] more)))
    generalize mergeK [(.inr "size", .int n), (.inr "targets", .ref t), (.inr "place", .int 2), (.inr "calls", .int 3), (.inr "first", .int 0), (.inr "second", .int 1)] more = gm at mN mG mP mD mA mB e04
    generalize hG : upd (upd H3 dd (.dK more)) a (.dK gm) = H4 at e04
    have ha4 := atG hG
    have src4 := src.mono e04
    have tabs4 := tabs.ext e04
    have nas := src.ne na
    clear hG hD3 pps3 e13 ha3 nadd ndd ov ov0 bad1 ht1 tabs1 nab lmo
    refine ⟨slen rfl, ?_⟩
    (intro nl nnl; generalize hGnl : upd _ nl _ = H5; have eH5 := exG hGnl nnl; have hnl := atG hGnl; clear hGnl)
    refine ⟨nl, rfl, ⟨_, SqL.of hnl⟩, fun D2 hD2 => ?_⟩
    refine lc_vals (walk_list (xs := [V.str "size", .str "targets", .str "place", .str "calls", .str "first", .str "second"])) [vN, vG, vP, vD, vA, vB] rfl (by show 6 ≤ 10000000; decide) hD2 (fun Hx e => SqL.of (e _ _ hnl)) ?_ gmono_name ?_
    · rintro i x Hx Hy R hi ex ⟨rfl, hx⟩ kk
      have hax := ex _ _ (eH5 _ _ ha4)
      have i6 : i = 0 ∨ i = 1 ∨ i = 2 ∨ i = 3 ∨ i = 4 ∨ i = 5 := by
        have := (List.getElem?_eq_some_iff.mp hx).1
        have : i < 6 := this
        omega
      rcases i6 with rfl | rfl | rfl | rfl | rfl | rfl
      · obtain rfl := Option.some.inj hx
        exact ⟨rfl, _, rfl, _, rfl, a, vN, rfl, .inl ⟨gm, .inr "size", .inl hax, rfl, mN.symm⟩, kk _ _ exr rfl⟩
      · obtain rfl := Option.some.inj hx
        exact ⟨rfl, _, rfl, _, rfl, a, vG, rfl, .inl ⟨gm, .inr "targets", .inl hax, rfl, mG.symm⟩, kk _ _ exr rfl⟩
      · obtain rfl := Option.some.inj hx
        exact ⟨rfl, _, rfl, _, rfl, a, vP, rfl, .inl ⟨gm, .inr "place", .inl hax, rfl, mP.symm⟩, kk _ _ exr rfl⟩
      · obtain rfl := Option.some.inj hx
        exact ⟨rfl, _, rfl, _, rfl, a, vD, rfl, .inl ⟨gm, .inr "calls", .inl hax, rfl, mD.symm⟩, kk _ _ exr rfl⟩
      · obtain rfl := Option.some.inj hx
        exact ⟨rfl, _, rfl, _, rfl, a, vA, rfl, .inl ⟨gm, .inr "first", .inl hax, rfl, mA.symm⟩, kk _ _ exr rfl⟩
      · obtain rfl := Option.some.inj hx
        exact ⟨rfl, _, rfl, _, rfl, a, vB, rfl, .inl ⟨gm, .inr "second", .inl hax, rfl, mB.symm⟩, kk _ _ exr rfl⟩
    intro H6 e6 hD6
    refine ⟨D2, _, rfl, SqL.of hD6, rfl, _, _, rfl, _, _, rfl, _, _, rfl, _, _, rfl, _, _, rfl, _, _, rfl, rfl, ?_⟩
    have e06 : Ex H0 H6 := ext e04 (ext eH5 e6)
    have tabs6 := tabs.ext e06
    clear hD6 e6 hD2 hnl eH5 nnl ha4 src4 tabs4 e04 mN mG mP mD mA mB nas len6
    dsimp only [gName]
    show tSeq _ _ _ [_, _, _, _, _, _, _, _, _, _, _, _, _, _, _] _
    refine ⟨slen rfl, ?_⟩
    (intro fl nfl; generalize hGfl : upd _ fl _ = H7; have eH7 := exG hGfl nfl; have hfl := atG hGfl; clear hGfl)
    dsimp only [gName]
    show tSeq _ _ _ [_, _, _, _, _, _, _, _, _, _, _, _, _, _, _] _
    refine ⟨_, rfl, slen rfl, ?_⟩
    (intro l2 nl2; generalize hGl2 : upd _ l2 _ = H8; have eH8 := exG hGl2 nl2; have hl2 := atG hGl2; clear hGl2)
    refine ⟨slen rfl, ?_⟩
    (intro eP neP; generalize hGeP : upd _ eP _ = H9; have eH9 := exG hGeP neP; have heP := atG hGeP; clear hGeP)
    have e09 := ext e06 (ext eH7 (ext eH8 eH9))
    have hfl9 := (ext eH8 eH9) _ _ hfl
    have tabs9 := tabs.ext e09
    have X9 := LamX.ExtN.of e09
    refine ⟨b, l2, eP, kvs, ["size", "first", "second", "place"], rfl, e09 _ _ bad.at_, eH9 _ _ hl2, by decide, bad.entsN X9, fun dP duP => ?_⟩
    have twP : TwoS H9 eP "returned" .non := heP
    clear hl2 nl2 neP nfl hfl e09 eH7 eH8 eH9 e06 tabs6 heP
    dsimp only [gName]
    show tSeq _ _ _ [_, _, _, _, _, _, _, _, _, _, _, _, _, _, _] _
    refine ⟨tabs9, fun f1 Ga en1 tba nf1 lam1 => ?_⟩
    refine ⟨_, rfl, _, rfl, slen rfl, ?_⟩
    (intro e1 ne1; generalize hGe1 : upd _ e1 _ = Gb; have eGb := exG hGe1 ne1; have he1 := atG hGe1; clear hGe1)
    have XA := X9.trans en1
    have Xb := XA.trans (.of eGb)
    have hfa := en1 _ _ hfl9 (fun _ z => nomatch z)
    refine ⟨b, fl, e1, kvs, ["size", "targets", "place"], rfl, Xb _ _ bad.at_ (fun _ z => nomatch z), eGb _ _ hfa, by decide, bad.entsN Xb, fun d1 du1 => ?_⟩
    refine ⟨slen rfl, ?_⟩
    (intro q1 nq1; generalize hGq1 : upd _ q1 _ = Gc; have eGc := exG hGq1 nq1; have hq1 := atG hGq1; clear hGq1)
    refine ⟨slen rfl, ?_⟩
    (intro al nal; generalize hGal : upd _ al _ = Gd; have eGd := exG hGal nal; have hal := atG hGal; clear hGal)
    have ecd := ext eGc eGd
    have A1 := (AskAt.mk (eGd _ _ hq1) (lam_mono (ext eGb ecd) lam1) (du1.en (.of ecd)) (ecd _ _ he1 : TwoS Gd e1 "returned" .non))
    have X := Xb.trans (.of ecd)
    have tabs := tba.ext (ext eGb ecd)
    have hfl := (ext eGb ecd) _ _ hfa
    have off : Off H0 al := Off.new (Xb.trans (.of eGc)) nal
    have AP : DueOf Gd kvs ["size", "first", "second", "place"] eP dP := duP.en ((en1.trans (.of eGb)).trans (.of ecd))
    have twP := ((en1.trans (.of eGb)).trans (.of ecd)) _ _ (show H9 eP = _ from twP) (fun _ z => nomatch z)
    clear X9 tabs9 duP XA Xb hfa hfl9 tba en1 lam1 du1 he1 hq1 ecd eGb eGc eGd nal nq1 ne1 nf1
    have hal := hal
    dsimp only [gName]
    show tSeq _ _ _ [_, _, _, _, _, _, _, _, _, _, _, _, _, _, _] _
    refine ⟨_, rfl, .inl ⟨rfl, _, SqL.of hal⟩, tabs, fun f2 Ga en tba nf lam2 => ?_⟩
    have Xa := X.trans en
    have hfa := en _ _ hfl (fun _ z => nomatch z)
    refine ⟨_, rfl, _, rfl, slen rfl, ?_⟩
    (intro cl ncl; generalize hGcl : upd _ cl _ = G1; have eG1 := exG hGcl ncl; have hcl := atG hGcl; clear hGcl)
    refine ⟨fl, cl, _, _, rfl, rfl, SqL.of (eG1 _ _ hfa), SqL.of hcl, slen rfl, ?_⟩
    (intro nl nnl; generalize hGnl : upd _ nl _ = G2; have eG2 := exG hGnl nnl; have hnl := atG hGnl; clear hGnl)
    refine ⟨slen rfl, ?_⟩
    (intro e2 ne2; generalize hGe2 : upd _ e2 _ = Gb; have eGb := exG hGe2 ne2; have he2 := atG hGe2; clear hGe2)
    have ea := ext eG1 (ext eG2 eGb)
    have Xb := Xa.trans (.of ea)
    refine ⟨b, nl, e2, kvs, ["size", "targets", "place", "calls"], rfl, Xb _ _ bad.at_ (fun _ z => nomatch z), eGb _ _ hnl, by decide, bad.entsN Xb, fun d2 du2 => ?_⟩
    refine ⟨slen rfl, ?_⟩
    (intro q2 nq2; generalize hGq2 : upd _ q2 _ = Gc; have eGc := exG hGq2 nq2; have hq2 := atG hGq2; clear hGq2)
    have eb := ext ea eGc
    have A2 := (AskAt.mk hq2 (lam_mono eb lam2) (du2.en (.of eGc)) (eGc _ _ he2 : TwoS Gc e2 "returned" (.non)))
    have Ec := en.trans (LamX.ExtN.of eb)
    have A1 := A1.en Ec
    have hac := Ec _ _ hal (fun _ z => nomatch z)
    have tbc := tba.ext eb
    have Xc := X.trans Ec
    have hfc := eb _ _ hfa
    have APc := AP.en Ec
    have twc := Ec _ _ twP (fun _ z => nomatch z)
    refine ⟨al, _, _, rfl, rfl, hac, (by show 1 < sizeLine; decide), ?_⟩
    replace A1 := A1.updl (ys := [V.ref q1, V.ref q2]) hac
    replace A2 := A2.updl (ys := [V.ref q1, V.ref q2]) hac
    replace tabs := tabs_updl (ys := [V.ref q1, V.ref q2]) hac tbc
    replace X := extN_upd (o := .lst [V.ref q1, V.ref q2]) Xc off
    replace AP := APc.updl (ys := [V.ref q1, V.ref q2]) hac
    replace twP : upd Gc al (.lst [V.ref q1, V.ref q2]) eP = some (.tup [.str "returned", .non]) := by rw [upd_ne (ne_of twc hac (fun z => nomatch z))]; exact twc
    replace hfl : upd Gc al (.lst [V.ref q1, V.ref q2]) fl = some (.lst [.str "size", .str "targets", .str "place"]) := by rw [upd_ne (fun z => by rw [z, hac] at hfc; cases hfc)]; exact hfc
    replace hal : upd Gc al (.lst [V.ref q1, V.ref q2]) al = some (.lst [V.ref q1, V.ref q2]) := upd_same
    clear Xc hfc tbc hac Ec eb eGc nq2 hq2 lam2 en tba nf du2 he2 ne2 ea eGb Xb eG1 eG2 hcl hnl ncl nnl Xa hfa APc twc
    show tSeq _ _ _ [_, _, _, _, _, _, _, _, _, _, _, _, _, _, _] (upd Gc al (.lst [V.ref q1, V.ref q2]))
    generalize upd Gc al (.lst [V.ref q1, V.ref q2]) = Gd at *
    refine ⟨_, rfl, .inl ⟨rfl, _, SqL.of hal⟩, tabs, fun f3 Ga en tba nf lam3 => ?_⟩
    have Xa := X.trans en
    have hfa := en _ _ hfl (fun _ z => nomatch z)
    refine ⟨_, rfl, _, rfl, slen rfl, ?_⟩
    (intro cl ncl; generalize hGcl : upd _ cl _ = G1; have eG1 := exG hGcl ncl; have hcl := atG hGcl; clear hGcl)
    refine ⟨fl, cl, _, _, rfl, rfl, SqL.of (eG1 _ _ hfa), SqL.of hcl, slen rfl, ?_⟩
    (intro nl nnl; generalize hGnl : upd _ nl _ = G2; have eG2 := exG hGnl nnl; have hnl := atG hGnl; clear hGnl)
    refine ⟨_, rfl, slen rfl, ?_⟩
    (intro e3 ne3; generalize hGe3 : upd _ e3 _ = Gb; have eGb := exG hGe3 ne3; have he3 := atG hGe3; clear hGe3)
    have ea := ext eG1 (ext eG2 eGb)
    have Xb := Xa.trans (.of ea)
    refine ⟨b, nl, e3, kvs, ["size", "targets", "place", "calls"], rfl, Xb _ _ bad.at_ (fun _ z => nomatch z), eGb _ _ hnl, by decide, bad.entsN Xb, fun d3 du3 => ?_⟩
    refine ⟨slen rfl, ?_⟩
    (intro q3 nq3; generalize hGq3 : upd _ q3 _ = Gc; have eGc := exG hGq3 nq3; have hq3 := atG hGq3; clear hGq3)
    have eb := ext ea eGc
    have A3 := (AskAt.mk hq3 (lam_mono eb lam3) (du3.en (.of eGc)) (eGc _ _ he3 : TwoS Gc e3 "witness" (.int (-1))))
    have Ec := en.trans (LamX.ExtN.of eb)
    have A1 := A1.en Ec
    have A2 := A2.en Ec
    have hac := Ec _ _ hal (fun _ z => nomatch z)
    have tbc := tba.ext eb
    have Xc := X.trans Ec
    have hfc := eb _ _ hfa
    have APc := AP.en Ec
    have twc := Ec _ _ twP (fun _ z => nomatch z)
    refine ⟨al, _, _, rfl, rfl, hac, (by show 2 < sizeLine; decide), ?_⟩
    replace A1 := A1.updl (ys := [V.ref q1, V.ref q2, V.ref q3]) hac
    replace A2 := A2.updl (ys := [V.ref q1, V.ref q2, V.ref q3]) hac
    replace A3 := A3.updl (ys := [V.ref q1, V.ref q2, V.ref q3]) hac
    replace tabs := tabs_updl (ys := [V.ref q1, V.ref q2, V.ref q3]) hac tbc
    replace X := extN_upd (o := .lst [V.ref q1, V.ref q2, V.ref q3]) Xc off
    replace AP := APc.updl (ys := [V.ref q1, V.ref q2, V.ref q3]) hac
    replace twP : upd Gc al (.lst [V.ref q1, V.ref q2, V.ref q3]) eP = some (.tup [.str "returned", .non]) := by rw [upd_ne (ne_of twc hac (fun z => nomatch z))]; exact twc
    replace hfl : upd Gc al (.lst [V.ref q1, V.ref q2, V.ref q3]) fl = some (.lst [.str "size", .str "targets", .str "place"]) := by rw [upd_ne (fun z => by rw [z, hac] at hfc; cases hfc)]; exact hfc
    replace hal : upd Gc al (.lst [V.ref q1, V.ref q2, V.ref q3]) al = some (.lst [V.ref q1, V.ref q2, V.ref q3]) := upd_same
    clear Xc hfc tbc hac Ec eb eGc nq3 hq3 lam3 en tba nf du3 he3 ne3 ea eGb Xb eG1 eG2 hcl hnl ncl nnl Xa hfa APc twc
    show tSeq _ _ _ [_, _, _, _, _, _, _, _, _, _, _, _, _, _, _] (upd Gc al (.lst [V.ref q1, V.ref q2, V.ref q3]))
    generalize upd Gc al (.lst [V.ref q1, V.ref q2, V.ref q3]) = Gd at *
    refine ⟨_, rfl, .inl ⟨rfl, _, SqL.of hal⟩, tabs, fun f4 Ga en tba nf lam4 => ?_⟩
    have Xa := X.trans en
    have hfa := en _ _ hfl (fun _ z => nomatch z)
    refine ⟨_, rfl, _, rfl, _, rfl, slen rfl, ?_⟩
    (intro e4 ne4; generalize hGe4 : upd _ e4 _ = Gb; have eGb := exG hGe4 ne4; have he4 := atG hGe4; clear hGe4)
    have ea := eGb
    have Xb := Xa.trans (.of ea)
    refine ⟨b, fl, e4, kvs, ["size", "targets", "place"], rfl, Xb _ _ bad.at_ (fun _ z => nomatch z), eGb _ _ hfa, by decide, bad.entsN Xb, fun d4 du4 => ?_⟩
    refine ⟨slen rfl, ?_⟩
    (intro q4 nq4; generalize hGq4 : upd _ q4 _ = Gc; have eGc := exG hGq4 nq4; have hq4 := atG hGq4; clear hGq4)
    have eb := ext ea eGc
    have A4 := (AskAt.mk hq4 (lam_mono eb lam4) (du4.en (.of eGc)) (eGc _ _ he4 : TwoS Gc e4 "witness" (.int (-1))))
    have Ec := en.trans (LamX.ExtN.of eb)
    have A1 := A1.en Ec
    have A2 := A2.en Ec
    have A3 := A3.en Ec
    have hac := Ec _ _ hal (fun _ z => nomatch z)
    have tbc := tba.ext eb
    have Xc := X.trans Ec
    have hfc := eb _ _ hfa
    have APc := AP.en Ec
    have twc := Ec _ _ twP (fun _ z => nomatch z)
    refine ⟨al, _, _, rfl, rfl, hac, (by show 3 < sizeLine; decide), ?_⟩
    replace A1 := A1.updl (ys := [V.ref q1, V.ref q2, V.ref q3, V.ref q4]) hac
    replace A2 := A2.updl (ys := [V.ref q1, V.ref q2, V.ref q3, V.ref q4]) hac
    replace A3 := A3.updl (ys := [V.ref q1, V.ref q2, V.ref q3, V.ref q4]) hac
    replace A4 := A4.updl (ys := [V.ref q1, V.ref q2, V.ref q3, V.ref q4]) hac
    replace tabs := tabs_updl (ys := [V.ref q1, V.ref q2, V.ref q3, V.ref q4]) hac tbc
    replace X := extN_upd (o := .lst [V.ref q1, V.ref q2, V.ref q3, V.ref q4]) Xc off
    replace AP := APc.updl (ys := [V.ref q1, V.ref q2, V.ref q3, V.ref q4]) hac
    replace twP : upd Gc al (.lst [V.ref q1, V.ref q2, V.ref q3, V.ref q4]) eP = some (.tup [.str "returned", .non]) := by rw [upd_ne (ne_of twc hac (fun z => nomatch z))]; exact twc
    replace hfl : upd Gc al (.lst [V.ref q1, V.ref q2, V.ref q3, V.ref q4]) fl = some (.lst [.str "size", .str "targets", .str "place"]) := by rw [upd_ne (fun z => by rw [z, hac] at hfc; cases hfc)]; exact hfc
    replace hal : upd Gc al (.lst [V.ref q1, V.ref q2, V.ref q3, V.ref q4]) al = some (.lst [V.ref q1, V.ref q2, V.ref q3, V.ref q4]) := upd_same
    clear Xc hfc tbc hac Ec eb eGc nq4 hq4 lam4 en tba nf du4 he4 ne4 ea eGb Xb Xa hfa APc twc
    show tSeq _ _ _ [_, _, _, _, _, _, _, _, _, _, _, _, _, _, _] (upd Gc al (.lst [V.ref q1, V.ref q2, V.ref q3, V.ref q4]))
    generalize upd Gc al (.lst [V.ref q1, V.ref q2, V.ref q3, V.ref q4]) = Gd at *
    refine ⟨_, rfl, .inl ⟨rfl, _, SqL.of hal⟩, tabs, fun f5 Ga en tba nf lam5 => ?_⟩
    have Xa := X.trans en
    have hfa := en _ _ hfl (fun _ z => nomatch z)
    refine ⟨_, rfl, slen rfl, ?_⟩
    (intro q5 nq5; generalize hGq5 : upd _ q5 _ = Gc; have eGc := exG hGq5 nq5; have hq5 := atG hGq5; clear hGq5)
    have eb := eGc
    have A5 := (AskAt.mk hq5 (lam_mono eb lam5) ((AP.en en).en (.of eb)) (eb _ _ (en _ _ twP (fun _ z => nomatch z)) : TwoS Gc eP "returned" .non))
    have Ec := en.trans (LamX.ExtN.of eb)
    have A1 := A1.en Ec
    have A2 := A2.en Ec
    have A3 := A3.en Ec
    have A4 := A4.en Ec
    have hac := Ec _ _ hal (fun _ z => nomatch z)
    have tbc := tba.ext eb
    have Xc := X.trans Ec
    have hfc := eb _ _ hfa
    have APc := AP.en Ec
    have twc := Ec _ _ twP (fun _ z => nomatch z)
    refine ⟨al, _, _, rfl, rfl, hac, (by show 4 < sizeLine; decide), ?_⟩
    replace A1 := A1.updl (ys := [V.ref q1, V.ref q2, V.ref q3, V.ref q4, V.ref q5]) hac
    replace A2 := A2.updl (ys := [V.ref q1, V.ref q2, V.ref q3, V.ref q4, V.ref q5]) hac
    replace A3 := A3.updl (ys := [V.ref q1, V.ref q2, V.ref q3, V.ref q4, V.ref q5]) hac
    replace A4 := A4.updl (ys := [V.ref q1, V.ref q2, V.ref q3, V.ref q4, V.ref q5]) hac
    replace A5 := A5.updl (ys := [V.ref q1, V.ref q2, V.ref q3, V.ref q4, V.ref q5]) hac
    replace tabs := tabs_updl (ys := [V.ref q1, V.ref q2, V.ref q3, V.ref q4, V.ref q5]) hac tbc
    replace X := extN_upd (o := .lst [V.ref q1, V.ref q2, V.ref q3, V.ref q4, V.ref q5]) Xc off
    replace AP := APc.updl (ys := [V.ref q1, V.ref q2, V.ref q3, V.ref q4, V.ref q5]) hac
    replace twP : upd Gc al (.lst [V.ref q1, V.ref q2, V.ref q3, V.ref q4, V.ref q5]) eP = some (.tup [.str "returned", .non]) := by rw [upd_ne (ne_of twc hac (fun z => nomatch z))]; exact twc
    replace hfl : upd Gc al (.lst [V.ref q1, V.ref q2, V.ref q3, V.ref q4, V.ref q5]) fl = some (.lst [.str "size", .str "targets", .str "place"]) := by rw [upd_ne (fun z => by rw [z, hac] at hfc; cases hfc)]; exact hfc
    replace hal : upd Gc al (.lst [V.ref q1, V.ref q2, V.ref q3, V.ref q4, V.ref q5]) al = some (.lst [V.ref q1, V.ref q2, V.ref q3, V.ref q4, V.ref q5]) := upd_same
    clear Xc hfc tbc hac Ec eb eGc nq5 hq5 lam5 en tba nf Xa hfa APc twc
    show tSeq _ _ _ [_, _, _, _, _, _, _, _, _, _, _, _, _, _, _] (upd Gc al (.lst [V.ref q1, V.ref q2, V.ref q3, V.ref q4, V.ref q5]))
    generalize upd Gc al (.lst [V.ref q1, V.ref q2, V.ref q3, V.ref q4, V.ref q5]) = Gd at *
    refine ⟨_, rfl, .inl ⟨rfl, _, SqL.of hal⟩, tabs, fun f6 Ga en tba nf lam6 => ?_⟩
    have Xa := X.trans en
    have hfa := en _ _ hfl (fun _ z => nomatch z)
    refine ⟨_, rfl, slen rfl, ?_⟩
    (intro q6 nq6; generalize hGq6 : upd _ q6 _ = Gc; have eGc := exG hGq6 nq6; have hq6 := atG hGq6; clear hGq6)
    have eb := eGc
    have A6 := (AskAt.mk hq6 (lam_mono eb lam6) ((AP.en en).en (.of eb)) (eb _ _ (en _ _ twP (fun _ z => nomatch z)) : TwoS Gc eP "returned" .non))
    have Ec := en.trans (LamX.ExtN.of eb)
    have A1 := A1.en Ec
    have A2 := A2.en Ec
    have A3 := A3.en Ec
    have A4 := A4.en Ec
    have A5 := A5.en Ec
    have hac := Ec _ _ hal (fun _ z => nomatch z)
    have tbc := tba.ext eb
    have Xc := X.trans Ec
    have hfc := eb _ _ hfa
    refine ⟨al, _, _, rfl, rfl, hac, (by show 5 < sizeLine; decide), ?_⟩
    replace A1 := A1.updl (ys := [V.ref q1, V.ref q2, V.ref q3, V.ref q4, V.ref q5, V.ref q6]) hac
    replace A2 := A2.updl (ys := [V.ref q1, V.ref q2, V.ref q3, V.ref q4, V.ref q5, V.ref q6]) hac
    replace A3 := A3.updl (ys := [V.ref q1, V.ref q2, V.ref q3, V.ref q4, V.ref q5, V.ref q6]) hac
    replace A4 := A4.updl (ys := [V.ref q1, V.ref q2, V.ref q3, V.ref q4, V.ref q5, V.ref q6]) hac
    replace A5 := A5.updl (ys := [V.ref q1, V.ref q2, V.ref q3, V.ref q4, V.ref q5, V.ref q6]) hac
    replace A6 := A6.updl (ys := [V.ref q1, V.ref q2, V.ref q3, V.ref q4, V.ref q5, V.ref q6]) hac
    replace tabs := tabs_updl (ys := [V.ref q1, V.ref q2, V.ref q3, V.ref q4, V.ref q5, V.ref q6]) hac tbc
    replace X := extN_upd (o := .lst [V.ref q1, V.ref q2, V.ref q3, V.ref q4, V.ref q5, V.ref q6]) Xc off
    replace hfl : upd Gc al (.lst [V.ref q1, V.ref q2, V.ref q3, V.ref q4, V.ref q5, V.ref q6]) fl = some (.lst [.str "size", .str "targets", .str "place"]) := by rw [upd_ne (fun z => by rw [z, hac] at hfc; cases hfc)]; exact hfc
    replace hal : upd Gc al (.lst [V.ref q1, V.ref q2, V.ref q3, V.ref q4, V.ref q5, V.ref q6]) al = some (.lst [V.ref q1, V.ref q2, V.ref q3, V.ref q4, V.ref q5, V.ref q6]) := upd_same
    clear Xc hfc tbc hac Ec eb eGc nq6 hq6 lam6 en tba nf Xa hfa
    dsimp only [List.cons_append, List.nil_append]
    generalize upd Gc al (.lst [V.ref q1, V.ref q2, V.ref q3, V.ref q4, V.ref q5, V.ref q6]) = Gd at *
    have sk6 : ∀ k ∈ (["place", "calls", "first", "second", "targets", "size"] : List Str), Sk k := fun k hk => by
      simp only [List.mem_cons, List.not_mem_nil, or_false] at hk
      rcases hk with rfl | rfl | rfl | rfl | rfl | rfl <;> exact sk_of _
    have badG := bad.to (.en X) (X _ _ bad.at_ (fun _ z => nomatch z))
    have rtP : ∀ {e : Addr}, TwoS Gd e "returned" .non → dueP Gd e (.tuple [.str "returned", .none]) := fun h => ⟨_, _, _, h, rfl, sk_of _, .inr (.inr ⟨rfl, rfl⟩)⟩
    have wtP : ∀ {e : Addr}, TwoS Gd e "witness" (.int (-1)) → dueP Gd e (.tuple [.str "witness", .int (-1)]) := fun h => ⟨_, _, _, h, rfl, sk_of _, .inr (.inl ⟨_, rfl, rfl⟩)⟩
    obtain ⟨a1, p1⟩ := due_data badG sk6 (rtP A1.two) A1.due
    obtain ⟨a2, p2⟩ := due_data badG sk6 (rtP A2.two) A2.due
    obtain ⟨a3, p3⟩ := due_data badG sk6 (wtP A3.two) A3.due
    obtain ⟨a4, p4⟩ := due_data badG sk6 (wtP A4.two) A4.due
    obtain ⟨a5, p5⟩ := due_data badG sk6 (rtP A5.two) A5.due
    obtain ⟨a6, p6⟩ := due_data badG sk6 (rtP A6.two) A6.due
    refine ⟨_, rfl, al, rfl, ⟨_, SqL.of hal⟩, fun D hD => ?_⟩
    refine lc_new Pd3 pd3_mono (walk_list (xs := [V.ref q1, V.ref q2, V.ref q3, V.ref q4, V.ref q5, V.ref q6])) [a1, a2, a3, a4, a5, a6] rfl (by show 6 ≤ 10000000; decide) hD (fun Hx e => SqL.of (e _ _ hal)) ?_ ?_ ?_
    · rintro i x av Hx Hy R hia ex ⟨rfl, hx⟩ kk
      have i6 : i = 0 ∨ i = 1 ∨ i = 2 ∨ i = 3 ∨ i = 4 ∨ i = 5 := by
        have := (List.getElem?_eq_some_iff.mp hx).1
        have : i < 6 := this
        omega
      have XX := X.trans (.of ex)
      have XK := XT.en (s := s) (b := b) XX
      have htx := XX _ _ ht (fun _ z => nomatch z)
      have kN := kN.to XK
      have kG := kG.to XK
      have kP := kP.to XK
      have kD := kD.to XK
      have kA := kA.to XK
      have kB := kB.to XK
      have sd : ∀ {d : Addr} {a : PyData}, dueP Gd d a → (∀ v G, Ex Hy G → Pd3 G v a → R v G) → Said Hy d R := fun h k => said_pd (by
        obtain ⟨w, y, yd, h1, h2⟩ := h
        exact ⟨w, y, yd, ex _ _ h1, h2⟩) k
      rcases i6 with rfl | rfl | rfl | rfl | rfl | rfl
      · obtain rfl := Option.some.inj hx
        obtain rfl := Option.some.inj hia
        have B := A1.en (.of ex)
        refine ⟨q1, _, rfl, SqT.of B.at_, rfl, _, _, rfl, _, _, rfl, rfl, rfl, _, rfl, f1, _, rfl, B.lam, ?_⟩
        refine ⟨_, rfl, _, rfl, _, rfl, ?_⟩
        exact ask1 n4 n23 htx kN kG kP B.due B.two (sd p1 kk)
      · obtain rfl := Option.some.inj hx
        obtain rfl := Option.some.inj hia
        have B := A2.en (.of ex)
        refine ⟨q2, _, rfl, SqT.of B.at_, rfl, _, _, rfl, _, _, rfl, rfl, rfl, _, rfl, f2, _, rfl, B.lam, ?_⟩
        refine ⟨_, rfl, _, rfl, _, rfl, _, rfl, ?_⟩
        exact ask2 n4 n23 htx kN kG kP kD B.due B.two (sd p2 kk)
      · obtain rfl := Option.some.inj hx
        obtain rfl := Option.some.inj hia
        have B := A3.en (.of ex)
        refine ⟨q3, _, rfl, SqT.of B.at_, rfl, _, _, rfl, _, _, rfl, rfl, rfl, _, rfl, f3, _, rfl, B.lam, ?_⟩
        refine ⟨_, rfl, _, rfl, _, rfl, _, rfl, ?_⟩
        exact ask3 n4 n23 htx kN kG kP kD B.due B.two (sd p3 kk)
      · obtain rfl := Option.some.inj hx
        obtain rfl := Option.some.inj hia
        have B := A4.en (.of ex)
        refine ⟨q4, _, rfl, SqT.of B.at_, rfl, _, _, rfl, _, _, rfl, rfl, rfl, _, rfl, f4, _, rfl, B.lam, ?_⟩
        refine ⟨_, rfl, _, rfl, _, rfl, slen rfl, ?_⟩
        (intro cz ncz; generalize hGcz : upd _ cz _ = Hz; have eHz := exG hGcz ncz; have hcz := atG hGcz; clear hGcz)
        have XZ := XT.en (s := s) (b := b) (LamX.ExtN.of eHz)
        have sd4 : Said Hz d4 R := said_pd (by
          obtain ⟨w, y, yd, h1, h2⟩ := p4
          exact ⟨w, y, yd, eHz _ _ (ex _ _ h1), h2⟩) (fun v G e h => kk v G (ext eHz e) h)
        exact ask4 n4 n23 (eHz _ _ htx) (kN.to XZ) (kG.to XZ) (kP.to XZ) hcz (B.due.en (.of eHz)) (eHz _ _ B.two) sd4
      · obtain rfl := Option.some.inj hx
        obtain rfl := Option.some.inj hia
        have B := A5.en (.of ex)
        refine ⟨q5, _, rfl, SqT.of B.at_, rfl, _, _, rfl, _, _, rfl, rfl, rfl, _, rfl, f5, _, rfl, B.lam, ?_⟩
        refine ⟨_, rfl, _, rfl, _, rfl, _, rfl, ?_⟩
        exact ask5 n4 n23 kN kA kB kP B.due B.two (sd p5 kk)
      · obtain rfl := Option.some.inj hx
        obtain rfl := Option.some.inj hia
        have B := A6.en (.of ex)
        refine ⟨q6, _, rfl, SqT.of B.at_, rfl, _, _, rfl, _, _, rfl, rfl, rfl, _, rfl, f6, _, rfl, B.lam, ?_⟩
        refine ⟨_, rfl, _, rfl, _, rfl, _, rfl, ?_⟩
        exact ask6 n4 n23 kN kA kB kP B.due B.two (sd p6 kk)
    · exact gmono_tup (gmono_cons gmono_name (gmono_cons gmono_name gmono_nil))
    intro Hd ys ed hyd pd
    refine ⟨_, rfl, al, rfl, ⟨_, SqL.of (ed _ _ hal)⟩, fun D2 hD2 => ?_⟩
    refine lc_new Pd3 pd3_mono (walk_list (xs := [V.ref q1, V.ref q2, V.ref q3, V.ref q4, V.ref q5, V.ref q6])) [a1, a2, a3, a4, a5, a6] rfl (by show 6 ≤ 10000000; decide) hD2 (fun Hx e => SqL.of (e _ _ (ed _ _ hal))) ?_ ?_ ?_
    · rintro i x av Hx Hy R hia ex ⟨rfl, hx⟩ kk
      have i6 : i = 0 ∨ i = 1 ∨ i = 2 ∨ i = 3 ∨ i = 4 ∨ i = 5 := by
        have := (List.getElem?_eq_some_iff.mp hx).1
        have : i < 6 := this
        omega
      have ey := ext ed ex
      have mv : ∀ {d : Addr} {a : PyData}, dueP Gd d a → dueP Hy d a := fun h => by
        obtain ⟨w, y, yd, h1, h2⟩ := h
        exact ⟨w, y, yd, ey _ _ h1, h2⟩
      rcases i6 with rfl | rfl | rfl | rfl | rfl | rfl
      · obtain rfl := Option.some.inj hx
        obtain rfl := Option.some.inj hia
        exact ⟨q1, _, rfl, SqT.of (ey _ _ A1.at_), rfl, _, _, rfl, _, _, rfl, rfl, rfl, _, rfl, kk _ _ exr ⟨d1, rfl, mv p1⟩⟩
      · obtain rfl := Option.some.inj hx
        obtain rfl := Option.some.inj hia
        exact ⟨q2, _, rfl, SqT.of (ey _ _ A2.at_), rfl, _, _, rfl, _, _, rfl, rfl, rfl, _, rfl, kk _ _ exr ⟨d2, rfl, mv p2⟩⟩
      · obtain rfl := Option.some.inj hx
        obtain rfl := Option.some.inj hia
        exact ⟨q3, _, rfl, SqT.of (ey _ _ A3.at_), rfl, _, _, rfl, _, _, rfl, rfl, rfl, _, rfl, kk _ _ exr ⟨d3, rfl, mv p3⟩⟩
      · obtain rfl := Option.some.inj hx
        obtain rfl := Option.some.inj hia
        exact ⟨q4, _, rfl, SqT.of (ey _ _ A4.at_), rfl, _, _, rfl, _, _, rfl, rfl, rfl, _, rfl, kk _ _ exr ⟨d4, rfl, mv p4⟩⟩
      · obtain rfl := Option.some.inj hx
        obtain rfl := Option.some.inj hia
        exact ⟨q5, _, rfl, SqT.of (ey _ _ A5.at_), rfl, _, _, rfl, _, _, rfl, rfl, rfl, _, rfl, kk _ _ exr ⟨dP, rfl, mv p5⟩⟩
      · obtain rfl := Option.some.inj hx
        obtain rfl := Option.some.inj hia
        exact ⟨q6, _, rfl, SqT.of (ey _ _ A6.at_), rfl, _, _, rfl, _, _, rfl, rfl, rfl, _, rfl, kk _ _ exr ⟨dP, rfl, mv p6⟩⟩
    · exact gmono_tup (gmono_cons gmono_name (gmono_cons gmono_name gmono_nil))
    intro He zs ee hze pe
    have pdl := pd3_all (K := K) (paired_mono (fun v a q => pd3_mono Hd He v a (fun c ws z => ee _ _ z) q) pd)
    have pdr := pd3_all (K := K) pe
    have shl : Sh 60 (PyData.list [a1, a2, a3, a4, a5, a6]) := (sh_list (n := 3) pdr.2).up (by decide)
    refine ⟨_, _, .lst (SqL.of (ee _ _ hyd)) pdl.1, .lst (SqL.of hze) pdr.1, shl.ok, shl.ok, ?_⟩
    have kq := k _ (X.trans (.of (ext ed ee))) (tabs.ext (ext ed ee))
    rw [← eqv_refl _ shl.1] at kq
    exact kq
end

/-! ### what the six functions say of the limits -/
section
variable {K : PySem.W.Frag} {H : Hp} {CN CT CL CW : Addr} {R : VK} {n : Int} {g : Addr}
def SaidW (H : Hp) (w : Str) (y : V) (R : VK) : Prop := ∀ G r, Ex H G → TwoS G r w y → R (.ref r) G
theorem goP_1 (n1 : 1 ≤ n) : placeDue n (some [.int 0]) = none := by
  show (if [PyData.int 0] = [] then some (-1) else goP n [.int 0] []) = none
  rw [if_neg (by simp)]
  unfold goP
  rw [if_pos ⟨btw_yes (by omega) (by omega), by simp⟩]
  rfl
theorem rpl_one {C : Int → Option (List PyData) → Prop} {E : XK} (n1 : 1 ≤ n) (hg : H g = some (.lst [.int 0])) (h : C n (some [.int 0])) : RPl K CN CT E H (.int n) (.ref g) C :=
  ⟨some n, rfl, .inr ⟨n, fun _ => True, some [.int 0], rfl, n1, ⟨(false, g), _, rfl, hg, .cons (.int 0) .nil⟩, fun ds z => by rw [← Option.some.inj z]; decide, .inr ⟨goP_1 n1, h⟩⟩⟩
theorem rpl_two {C : Int → Option (List PyData) → Prop} {E : XK} (n4 : 4 ≤ n) (hg : H g = some (.lst [.int 0, .int 1])) (h : C n (some [.int 0, .int 1])) : RPl K CN CT E H (.int n) (.ref g) C :=
  ⟨some n, rfl, .inr ⟨n, fun _ => True, some [.int 0, .int 1], rfl, by omega, ⟨(false, g), _, rfl, hg, .cons (.int 0) (.cons (.int 1) .nil)⟩, fun ds z => by rw [← Option.some.inj z]; decide, .inr ⟨goP_good n4, h⟩⟩⟩
theorem lr1 (hn : 2001 ≤ n) (hg : H g = some (.lst [.int 0])) (kk : SaidW H "large" (.int 2000) R) : spX_min_calls_on_ring K CN CT CL [.int n, .ref g, .int 1] H (RetV R) (ErrV CN CT CL CW R) :=
  ⟨_, _, _, some 1, rfl, fun _ _ => rfl, rpl_one (by omega) hg (.inr ⟨btw_yes (by omega) (by omega), .inl ⟨by omega, rai_l kk⟩⟩)⟩
theorem lr2 (hn : 2001 ≤ n) (hg : H g = some (.lst [.int 0])) (kk : SaidW H "number" (.str "place") R) : spX_min_calls_on_ring K CN CT CL [.int n, .ref g, .int n] H (RetV R) (ErrV CN CT CL CW R) :=
  ⟨_, _, _, some n, rfl, fun _ _ => rfl, rpl_one (by omega) hg (.inl ⟨btw_no (.inr (Int.le_refl _)), rai_n kk⟩)⟩
theorem lr3 {c : Int} (hn : 2001 ≤ n) (hc : 41 ≤ c) (hg : H g = some (.lst [.int 0])) (kk : SaidW H "large" (.int 2000) R) : spX_sum_counts K CN CT CL [.int n, .ref g, .int 0, .int c] H (RetV R) (ErrV CN CT CL CW R) :=
  ⟨_, _, _, _, some 0, some c, rfl, rfl, rfl, rpl_one (by omega) hg (.inr ⟨btw_yes (by omega) (by omega), .inr ⟨c.toNat, by rw [Int.toNat_of_nonneg (by omega)], .inl ⟨by omega, rai_l kk⟩⟩⟩)⟩
theorem lr4 (hn : 2001 ≤ n) (hg : H g = some (.lst [.int 0])) (kk : SaidW H "number" (.str "calls") R) : spX_sum_counts K CN CT CL [.int n, .ref g, .int 0, .int (-1)] H (RetV R) (ErrV CN CT CL CW R) :=
  ⟨_, _, _, _, some 0, some (-1), rfl, rfl, rfl, rpl_one (by omega) hg (.inr ⟨btw_yes (by omega) (by omega), .inl ⟨rfl, rai_n kk⟩⟩)⟩
theorem lr5 {c : Int} (hc : 41 ≤ c) (hg : H g = some (.lst [.int 0])) (kk : SaidW H "large" (.int 40) R) : spX_sum_counts K CN CT CL [.int 9, .ref g, .int 0, .int c] H (RetV R) (ErrV CN CT CL CW R) :=
  ⟨_, _, _, _, some 0, some c, rfl, rfl, rfl, rpl_one (by omega) hg (.inr ⟨btw_yes (by omega) (by omega), .inr ⟨c.toNat, by rw [Int.toNat_of_nonneg (by omega)], .inr ⟨by decide, .inl ⟨by omega, rai_l kk⟩⟩⟩⟩)⟩
theorem lr6 (hg : H g = some (.lst [.int 0])) (kk : SaidW H "returned" .non R) : spX_sum_counts K CN CT CL [.int 9, .ref g, .int 0, .int 40] H (RetV R) (ErrV CN CT CL CW R) :=
  ⟨_, _, _, _, some 0, some 40, rfl, rfl, rfl, rpl_one (by omega) hg (.inr ⟨btw_yes (by omega) (by omega), .inr ⟨40, rfl, .inr ⟨by decide, .inr ⟨by decide, fun v H2 e => ret_v e kk⟩⟩⟩⟩)⟩
theorem lr7 {c : Int} (hn : 2001 ≤ n) (hc : 1001 ≤ c) (hg : H g = some (.lst [.int 0])) (kk : SaidW H "large" (.int 1000) R) : spY_check_sum K CN CT CL CW [.int n, .ref g, .int 0, .int c, .non] H (RetV R) (ErrV CN CT CL CW R) :=
  ⟨_, _, _, _, _, some 0, some c, fun _ => True, .none, rfl, rfl, rfl, .non, (fun cs z => nomatch z), rpl_one (by omega) hg (.inr ⟨btw_yes (by omega) (by omega), .inr ⟨c.toNat, by rw [Int.toNat_of_nonneg (by omega)], .inl ⟨by omega, rai_l kk⟩⟩⟩)⟩
theorem ints_inj {cs : List Int} {xs : List Int} (h : PyData.list (xs.map PyData.int) = .list (cs.map PyData.int)) : cs = xs := by
  injection h with h
  have := congrArg (List.filterMap intD) h
  rw [fm_ints, fm_ints] at this
  exact this.symm
theorem lr8 {l : Addr} {z : Int} (hz : z = 2 ^ 1000) (hn : 2001 ≤ n) (hb : n.natAbs < 2 ^ 4000) (hg : H g = some (.lst [.int 0])) (hl : H l = some (.lst [.int z])) (kk : SaidW H "returned" .non R) : spY_check_sum K CN CT CL CW [.int n, .ref g, .int 0, .int 1000, .ref l] H (RetV R) (ErrV CN CT CL CW R) := by
  have z0 : 0 ≤ z := by rw [hz]; exact Int.le_of_lt (Int.pow_pos (by decide))
  have zb : z.natAbs < 2 ^ 5000 := by rw [hz]; decide +kernel
  refine ⟨_, _, _, _, _, some 0, some 1000, fun _ => True, .list ([z].map PyData.int), rfl, rfl, rfl, .lst hl True.intro (.cons (.int z) .nil), fun cs q x hx => ?_, rpl_one (by omega) hg (.inr ⟨btw_yes (by omega) (by omega), .inr ⟨1000, rfl, .inr ⟨by decide, hb, (fun ds q => by rw [← Option.some.inj q]; decide), fun ts p q1 q2 => ?_⟩⟩⟩)⟩
  · rw [ints_inj q] at hx
    rw [List.mem_singleton.mp hx]
    exact zb
  · obtain rfl : 0 = p := Option.some.inj q2
    obtain rfl : ts = [0] := by
      have q1 : [PyData.int 0] = ts.map PyData.int := Option.some.inj q1
      have := congrArg (List.filterMap intD) q1
      rw [fm_ints] at this
      exact this.symm
    have due : dueS n [0] 0 1000 (.list ([z].map PyData.int)) = none := by
      have c1 : cntDue [(0 : Int)].length (.list ([z].map PyData.int)) = none := by
        show (if 1 = 1 then cntBad [PyData.int z] 0 else some (-1)) = none
        rw [if_pos rfl]
        show (if atLeast (some z) 0 = true then none else some _) = none
        rw [if_pos (show atLeast (some z) 0 = true from decide_eq_true z0)]
      unfold dueS
      rw [c1]
      show sumDue n [0] 0 (2 ^ 1000) (csOf (.list ([z].map PyData.int))) = none
      rw [show csOf (.list ([z].map PyData.int)) = [z] from rfl]
      unfold sumDue
      rw [if_pos (by rw [hz]; exact Int.add_zero _), if_pos]
      have : wsum [z] [0] = 0 := by
        show z * 0 + 0 = 0
        rw [Int.mul_zero]
        rfl
      rw [this, Int.mul_zero]
      exact Int.zero_emod n
    refine ⟨fun _ H2 e => ret_v e kk, fun i q => ?_⟩
    rw [due] at q
    cases q
theorem lr9 (hn : 2001 ≤ n) (kk : SaidW H "number" (.str "second") R) : spX_min_calls_two K CN [.int n, .int 3, .int 3, .int 5] H (RetV R) (ErrV CN CT CL CW R) := by
  have due : twoDue (some n) (some 3) (some 3) (some 5) = some ("second" : Str) := by
    unfold twoDue
    rw [if_pos (show atLeast (some n) 1 = true from decide_eq_true (by omega))]
    dsimp only [Option.getD_some]
    rw [if_pos (btw_yes (by omega) (by omega)), if_pos (btw_yes (by omega) (by omega)), if_pos rfl]
  refine ⟨_, _, _, _, some n, some 3, some 3, some 5, rfl, rfl, rfl, rfl, rfl, fun nm q => ?_, fun q => ?_⟩
  · rw [due] at q
    obtain rfl := Option.some.inj q
    exact rai_n kk
  · rw [due] at q
    cases q
theorem lr10 (kk : SaidW H "number" (.str "second") R) : spX_two_target_sum K CN [.int 1, .int 0, .int 0, .non] H (RetV R) (ErrV CN CT CL CW R) := by
  have due : twoDue (some 1) (some 0) (some 0) none = some ("second" : Str) := rfl
  refine ⟨_, _, _, _, some 1, some 0, some 0, none, rfl, rfl, rfl, rfl, (Dq.non (B := fun _ => True)).isI, fun nm q => ?_, fun q => ?_⟩
  · rw [due] at q
    obtain rfl := Option.some.inj q
    exact rai_n kk
  · rw [due] at q
    cases q
theorem lr_cfs {l : Addr} {xs : List V} {ds : List PyData} {i : Int} (hg : H g = some (.lst [.int 0, .int 1])) (hl : H l = some (.lst xs)) (all : DqAll (fun _ => True) H xs ds) (due : CfsDue 7 [0, 1] 3 (.list ds) i) (kk : SaidW H "witness" (.int i) R) : spX_call_from_sum K CN CT CW [.int 7, .ref g, .int 3, .ref l] H (RetV R) (ErrV CN CT CL CW R) := by
  refine ⟨_, _, _, _, some 3, fun _ => True, .list ds, rfl, rfl, .lst hl True.intro all, rpl_two (by decide) hg (.inr ⟨btw_yes (by decide) (by decide), by decide +kernel, (fun ds q => by rw [← Option.some.inj q]; decide), fun ts p q1 q2 => ⟨i, ?_, rai_w kk⟩⟩)⟩
  obtain rfl : 3 = p := Option.some.inj q2
  obtain rfl : ts = [0, 1] := by
    have q1 : [PyData.int 0, .int 1] = ts.map PyData.int := Option.some.inj q1
    have := congrArg (List.filterMap intD) q1
    rw [fm_ints] at this
    exact this.symm
  exact due
theorem cfs_ints {a b i : Int} (a0 : 0 ≤ a) (b0 : 0 ≤ b) (a9 : a ≤ 9) (b9 : b ≤ 9) (h : (([a, b].sum < 2 ∨ Builtin.bitAnd [a, b].sum ([a, b].sum - 1) ≠ 0) ∧ i = 2) ∨ (2 ≤ [a, b].sum ∧ Builtin.bitAnd [a, b].sum ([a, b].sum - 1) = 0 ∧ sumDue 7 [0, 1] 3 [a, b].sum [a, b] = some i)) : CfsDue 7 [0, 1] 3 (.list [.int a, .int b]) i := by
  refine .inr ⟨[a, b], ?_, rfl, fun x hx => ?_, ?_, h⟩
  · show (if 2 = 2 then cntBad [.int a, .int b] 0 else some (-1)) = none
    rw [if_pos rfl]
    show (if atLeast (some a) 0 = true then (if atLeast (some b) 0 = true then none else some _) else some _) = none
    rw [if_pos (show atLeast (some a) 0 = true from decide_eq_true a0), if_pos (show atLeast (some b) 0 = true from decide_eq_true b0)]
  · simp only [List.mem_cons, List.not_mem_nil, or_false] at hx
    have hx9 : x.natAbs ≤ 9 := by rcases hx with rfl | rfl <;> omega
    exact Nat.lt_of_le_of_lt hx9 (by decide +kernel)
  · have : [a, b].sum.natAbs ≤ 18 := by
      simp only [List.sum_cons, List.sum_nil]
      omega
    exact Nat.lt_of_le_of_lt this (by decide +kernel)
end

section
variable {P : Program} {w : World} {K : PySem.W.Frag} {mg : Str → Option Value} {base : Heap}
def sp_law_large_right (TT : List (Addr × Str)) : Sp := fun vs H Q _ => ∃ (s : Addr) (m : Nat), vs = [.ref s] ∧ Sr5 H s (m + 6) ∧ LamX.Tabs TT H ∧ ∀ H2, XNS s H H2 → Sr5 H2 s m → LamX.Tabs TT H2 → Q (.bl true) H2
theorem ok_law_large_right (T : TX K mg) (L : TL T base) : CG.FnOkG P w K mg base 9 T.f_law_large_right T.fd_law_large_right ["_law_source_here"] (sp_law_large_right L.tabs) := by
  refine CG.okGT T.F_law_large_right L.at_law_large_right sc_law_large_right (fun vs H Q E h => ?_) (fun A outer s0 H0 vs Q E gd hr h => ?_)
  · obtain ⟨s, m, rfl, _⟩ := h
    rfl
  · obtain ⟨s, m, rfl, src, tabs, k⟩ := h
    refine ⟨_, (pss_cons (ps_set (i := 1) sc_law_large_right.nd rfl (Or.inr rfl) (pe_op op_add pe_int (pe_ix ix_list (pe_lst (pa_cons pe_int (pa_cons (pe_call (ok_law_take T) (hr.mono (by decide)) rfl T.m_law_take T.F_law_take.kp T.b_law_take .nil pass0 (pa_cons (pv 0) (pa_cons pe_int pa_nil))) (pa_cons (pe_op op_pow pe_int pe_int) pa_nil)))) (pe_call (ok_law_take T) (hr.mono (by decide)) rfl T.m_law_take T.F_law_take.kp T.b_law_take .nil pass0 (pa_cons (pv 0) (pa_cons pe_int pa_nil))) (fun _ _ => rfl)))) (pss_cons (ps_set (i := 2) sc_law_large_right.nd rfl (Or.inr rfl) (pe_ix ix_list (pe_lst (pa_cons (pe_op op_add pe_int (pe_call (ok_law_take T) (hr.mono (by decide)) rfl T.m_law_take T.F_law_take.kp T.b_law_take .nil pass0 (pa_cons (pv 0) (pa_cons pe_int pa_nil)))) (pa_cons (pe_op op_pow pe_int pe_int) pa_nil))) (pe_call (ok_law_take T) (hr.mono (by decide)) rfl T.m_law_take T.F_law_take.kp T.b_law_take .nil pass0 (pa_cons (pv 0) (pa_cons pe_int pa_nil))) (fun _ _ => rfl))) (pss_cons (ps_set (i := 3) sc_law_large_right.nd rfl (Or.inr rfl) (pe_ix ix_list (pe_lst (pa_cons (pe_op op_add pe_int (pe_call (ok_law_take T) (hr.mono (by decide)) rfl T.m_law_take T.F_law_take.kp T.b_law_take .nil pass0 (pa_cons (pv 0) (pa_cons pe_int pa_nil)))) (pa_cons (pe_op op_pow pe_int pe_int) pa_nil))) (pe_call (ok_law_take T) (hr.mono (by decide)) rfl T.m_law_take T.F_law_take.kp T.b_law_take .nil pass0 (pa_cons (pv 0) (pa_cons pe_int pa_nil))) (fun _ _ => rfl))) (pss_cons (ps_set (i := 4) sc_law_large_right.nd rfl (Or.inl rfl) (pe_lst (pa_cons (pe_tup (pa_cons (CG.pe_lamKT (k := 6) L.tb_law_large_right rfl (by exact L.hm_law_large_right) (by exact L.one_law_large_right) (fun A outer s H E f c hr => (pe_call (okX_min_calls_on_ring T) (hr.mono (by decide)) rfl T.m_min_calls_on_ring T.F_min_calls_on_ring.kp T.b_min_calls_on_ring .nil (passes_call (takes_of rfl rfl rfl rfl) (fun _ _ _ _ h => h)) (pa_cons (pv 1) (pa_cons (pe_lst (pa_cons pe_int pa_nil)) (pa_cons pe_int pa_nil))))) (show LamX.LamS (defScope s_law_large_right) _ from LamX.lamS_by (by decide +kernel))) (pa_cons (pe_tup (pa_cons pe_str (pa_cons pe_int pa_nil))) pa_nil))) pa_nil))) (pss_cons (ps_expr (pe_bm PySem.F.plainAttrs_list PySem.F.slot_list_append PySem.F.type_list_append mt_append (pv 4) (pa_cons (pe_tup (pa_cons (CG.pe_lamKT (k := 6) L.tb_law_large_right rfl (by exact L.hm_law_large_right) (by exact L.one_law_large_right) (fun A outer s H E f c hr => (pe_call (okX_min_calls_on_ring T) (hr.mono (by decide)) rfl T.m_min_calls_on_ring T.F_min_calls_on_ring.kp T.b_min_calls_on_ring .nil (passes_call (takes_of rfl rfl rfl rfl) (fun _ _ _ _ h => h)) (pa_cons (pv 1) (pa_cons (pe_lst (pa_cons pe_int pa_nil)) (pa_cons (pv 1) pa_nil))))) (show LamX.LamS (defScope s_law_large_right) _ from LamX.lamS_by (by decide +kernel))) (pa_cons (pe_tup (pa_cons pe_str (pa_cons pe_str pa_nil))) pa_nil))) pa_nil))) (pss_cons (ps_expr (pe_bm PySem.F.plainAttrs_list PySem.F.slot_list_append PySem.F.type_list_append mt_append (pv 4) (pa_cons (pe_tup (pa_cons (CG.pe_lamKT (k := 6) L.tb_law_large_right rfl (by exact L.hm_law_large_right) (by exact L.one_law_large_right) (fun A outer s H E f c hr => (pe_call (okX_sum_counts T) (hr.mono (by decide)) rfl T.m_sum_counts T.F_sum_counts.kp T.b_sum_counts .nil (passes_call (takes_of rfl rfl rfl rfl) (fun _ _ _ _ h => h)) (pa_cons (pv 1) (pa_cons (pe_lst (pa_cons pe_int pa_nil)) (pa_cons pe_int (pa_cons (pv 2) pa_nil)))))) (show LamX.LamS (defScope s_law_large_right) _ from LamX.lamS_by (by decide +kernel))) (pa_cons (pe_tup (pa_cons pe_str (pa_cons pe_int pa_nil))) pa_nil))) pa_nil))) (pss_cons (ps_expr (pe_bm PySem.F.plainAttrs_list PySem.F.slot_list_append PySem.F.type_list_append mt_append (pv 4) (pa_cons (pe_tup (pa_cons (CG.pe_lamKT (k := 6) L.tb_law_large_right rfl (by exact L.hm_law_large_right) (by exact L.one_law_large_right) (fun A outer s H E f c hr => (pe_call (okX_sum_counts T) (hr.mono (by decide)) rfl T.m_sum_counts T.F_sum_counts.kp T.b_sum_counts .nil (passes_call (takes_of rfl rfl rfl rfl) (fun _ _ _ _ h => h)) (pa_cons (pv 1) (pa_cons (pe_lst (pa_cons pe_int pa_nil)) (pa_cons pe_int (pa_cons (pe_un un_neg pe_int) pa_nil)))))) (show LamX.LamS (defScope s_law_large_right) _ from LamX.lamS_by (by decide +kernel))) (pa_cons (pe_tup (pa_cons pe_str (pa_cons pe_str pa_nil))) pa_nil))) pa_nil))) (pss_cons (ps_expr (pe_bm PySem.F.plainAttrs_list PySem.F.slot_list_append PySem.F.type_list_append mt_append (pv 4) (pa_cons (pe_tup (pa_cons (CG.pe_lamKT (k := 6) L.tb_law_large_right rfl (by exact L.hm_law_large_right) (by exact L.one_law_large_right) (fun A outer s H E f c hr => (pe_call (okX_sum_counts T) (hr.mono (by decide)) rfl T.m_sum_counts T.F_sum_counts.kp T.b_sum_counts .nil (passes_call (takes_of rfl rfl rfl rfl) (fun _ _ _ _ h => h)) (pa_cons pe_int (pa_cons (pe_lst (pa_cons pe_int pa_nil)) (pa_cons pe_int (pa_cons (pv 2) pa_nil)))))) (show LamX.LamS (defScope s_law_large_right) _ from LamX.lamS_by (by decide +kernel))) (pa_cons (pe_tup (pa_cons pe_str (pa_cons pe_int pa_nil))) pa_nil))) pa_nil))) (pss_cons (ps_expr (pe_bm PySem.F.plainAttrs_list PySem.F.slot_list_append PySem.F.type_list_append mt_append (pv 4) (pa_cons (pe_tup (pa_cons (CG.pe_lamKT (k := 6) L.tb_law_large_right rfl (by exact L.hm_law_large_right) (by exact L.one_law_large_right) (fun A outer s H E f c hr => (pe_call (okX_sum_counts T) (hr.mono (by decide)) rfl T.m_sum_counts T.F_sum_counts.kp T.b_sum_counts .nil (passes_call (takes_of rfl rfl rfl rfl) (fun _ _ _ _ h => h)) (pa_cons pe_int (pa_cons (pe_lst (pa_cons pe_int pa_nil)) (pa_cons pe_int (pa_cons pe_int pa_nil)))))) (show LamX.LamS (defScope s_law_large_right) _ from LamX.lamS_by (by decide +kernel))) (pa_cons (pe_tup (pa_cons pe_str (pa_cons pe_non pa_nil))) pa_nil))) pa_nil))) (pss_cons (ps_expr (pe_bm PySem.F.plainAttrs_list PySem.F.slot_list_append PySem.F.type_list_append mt_append (pv 4) (pa_cons (pe_tup (pa_cons (CG.pe_lamKT (k := 6) L.tb_law_large_right rfl (by exact L.hm_law_large_right) (by exact L.one_law_large_right) (fun A outer s H E f c hr => (pe_call (okX_check_sum T) (hr.mono (by decide)) rfl T.m_check_sum T.F_check_sum.kp T.b_check_sum .nil (passes_call (takes_of rfl rfl rfl rfl) (fun _ _ _ _ h => h)) (pa_cons (pv 1) (pa_cons (pe_lst (pa_cons pe_int pa_nil)) (pa_cons pe_int (pa_cons (pv 3) (pa_cons pe_non pa_nil))))))) (show LamX.LamS (defScope s_law_large_right) _ from LamX.lamS_by (by decide +kernel))) (pa_cons (pe_tup (pa_cons pe_str (pa_cons pe_int pa_nil))) pa_nil))) pa_nil))) (pss_cons (ps_expr (pe_bm PySem.F.plainAttrs_list PySem.F.slot_list_append PySem.F.type_list_append mt_append (pv 4) (pa_cons (pe_tup (pa_cons (CG.pe_lamKT (k := 6) L.tb_law_large_right rfl (by exact L.hm_law_large_right) (by exact L.one_law_large_right) (fun A outer s H E f c hr => (pe_call (okX_check_sum T) (hr.mono (by decide)) rfl T.m_check_sum T.F_check_sum.kp T.b_check_sum .nil (passes_call (takes_of rfl rfl rfl rfl) (fun _ _ _ _ h => h)) (pa_cons (pv 1) (pa_cons (pe_lst (pa_cons pe_int pa_nil)) (pa_cons pe_int (pa_cons pe_int (pa_cons (pe_lst (pa_cons (pe_op op_shlW pe_int pe_int) pa_nil)) pa_nil))))))) (show LamX.LamS (defScope s_law_large_right) _ from LamX.lamS_by (by decide +kernel))) (pa_cons (pe_tup (pa_cons pe_str (pa_cons pe_non pa_nil))) pa_nil))) pa_nil))) (pss_cons (ps_expr (pe_bm PySem.F.plainAttrs_list PySem.F.slot_list_append PySem.F.type_list_append mt_append (pv 4) (pa_cons (pe_tup (pa_cons (CG.pe_lamKT (k := 6) L.tb_law_large_right rfl (by exact L.hm_law_large_right) (by exact L.one_law_large_right) (fun A outer s H E f c hr => (pe_call (okX_min_calls_two T) (hr.mono (by decide)) rfl T.m_min_calls_two T.F_min_calls_two.kp T.b_min_calls_two .nil (passes_call (takes_of rfl rfl rfl rfl) (fun _ _ _ _ h => h)) (pa_cons (pv 1) (pa_cons pe_int (pa_cons pe_int (pa_cons pe_int pa_nil)))))) (show LamX.LamS (defScope s_law_large_right) _ from LamX.lamS_by (by decide +kernel))) (pa_cons (pe_tup (pa_cons pe_str (pa_cons pe_str pa_nil))) pa_nil))) pa_nil))) (pss_cons (ps_expr (pe_bm PySem.F.plainAttrs_list PySem.F.slot_list_append PySem.F.type_list_append mt_append (pv 4) (pa_cons (pe_tup (pa_cons (CG.pe_lamKT (k := 6) L.tb_law_large_right rfl (by exact L.hm_law_large_right) (by exact L.one_law_large_right) (fun A outer s H E f c hr => (pe_call (okX_two_target_sum T) (hr.mono (by decide)) rfl T.m_two_target_sum T.F_two_target_sum.kp T.b_two_target_sum .nil (passes_call (takes_of rfl rfl rfl rfl) (fun _ _ _ _ h => h)) (pa_cons pe_int (pa_cons pe_int (pa_cons pe_int (pa_cons pe_non pa_nil)))))) (show LamX.LamS (defScope s_law_large_right) _ from LamX.lamS_by (by decide +kernel))) (pa_cons (pe_tup (pa_cons pe_str (pa_cons pe_str pa_nil))) pa_nil))) pa_nil))) (pss_cons (ps_expr (pe_bm PySem.F.plainAttrs_list PySem.F.slot_list_append PySem.F.type_list_append mt_append (pv 4) (pa_cons (pe_tup (pa_cons (CG.pe_lamKT (k := 6) L.tb_law_large_right rfl (by exact L.hm_law_large_right) (by exact L.one_law_large_right) (fun A outer s H E f c hr => (pe_call (okX_call_from_sum T) (hr.mono (by decide)) rfl T.m_call_from_sum T.F_call_from_sum.kp T.b_call_from_sum .nil (passes_call (takes_of rfl rfl rfl rfl) (fun _ _ _ _ h => h)) (pa_cons pe_int (pa_cons (pe_lst (pa_cons pe_int (pa_cons pe_int pa_nil))) (pa_cons pe_int (pa_cons (pe_lst (pa_cons pe_int (pa_cons pe_int pa_nil))) pa_nil)))))) (show LamX.LamS (defScope s_law_large_right) _ from LamX.lamS_by (by decide +kernel))) (pa_cons (pe_tup (pa_cons pe_str (pa_cons pe_int pa_nil))) pa_nil))) pa_nil))) (pss_cons (ps_expr (pe_bm PySem.F.plainAttrs_list PySem.F.slot_list_append PySem.F.type_list_append mt_append (pv 4) (pa_cons (pe_tup (pa_cons (CG.pe_lamKT (k := 6) L.tb_law_large_right rfl (by exact L.hm_law_large_right) (by exact L.one_law_large_right) (fun A outer s H E f c hr => (pe_call (okX_call_from_sum T) (hr.mono (by decide)) rfl T.m_call_from_sum T.F_call_from_sum.kp T.b_call_from_sum .nil (passes_call (takes_of rfl rfl rfl rfl) (fun _ _ _ _ h => h)) (pa_cons pe_int (pa_cons (pe_lst (pa_cons pe_int (pa_cons pe_int pa_nil))) (pa_cons pe_int (pa_cons (pe_lst (pa_cons pe_int (pa_cons pe_int pa_nil))) pa_nil)))))) (show LamX.LamS (defScope s_law_large_right) _ from LamX.lamS_by (by decide +kernel))) (pa_cons (pe_tup (pa_cons pe_str (pa_cons pe_int pa_nil))) pa_nil))) pa_nil))) (pss_cons (ps_expr (pe_bm PySem.F.plainAttrs_list PySem.F.slot_list_append PySem.F.type_list_append mt_append (pv 4) (pa_cons (pe_tup (pa_cons (CG.pe_lamKT (k := 6) L.tb_law_large_right rfl (by exact L.hm_law_large_right) (by exact L.one_law_large_right) (fun A outer s H E f c hr => (pe_call (okX_call_from_sum T) (hr.mono (by decide)) rfl T.m_call_from_sum T.F_call_from_sum.kp T.b_call_from_sum .nil (passes_call (takes_of rfl rfl rfl rfl) (fun _ _ _ _ h => h)) (pa_cons pe_int (pa_cons (pe_lst (pa_cons pe_int (pa_cons pe_int pa_nil))) (pa_cons pe_int (pa_cons (pe_lst (pa_cons pe_int (pa_cons pe_int pa_nil))) pa_nil)))))) (show LamX.LamS (defScope s_law_large_right) _ from LamX.lamS_by (by decide +kernel))) (pa_cons (pe_tup (pa_cons pe_str (pa_cons pe_int pa_nil))) pa_nil))) pa_nil))) (pss_cons (ps_expr (pe_bm PySem.F.plainAttrs_list PySem.F.slot_list_append PySem.F.type_list_append mt_append (pv 4) (pa_cons (pe_tup (pa_cons (CG.pe_lamKT (k := 6) L.tb_law_large_right rfl (by exact L.hm_law_large_right) (by exact L.one_law_large_right) (fun A outer s H E f c hr => (pe_call (okX_call_from_sum T) (hr.mono (by decide)) rfl T.m_call_from_sum T.F_call_from_sum.kp T.b_call_from_sum .nil (passes_call (takes_of rfl rfl rfl rfl) (fun _ _ _ _ h => h)) (pa_cons pe_int (pa_cons (pe_lst (pa_cons pe_int (pa_cons pe_int pa_nil))) (pa_cons pe_int (pa_cons (pe_lst (pa_cons pe_int (pa_cons pe_int pa_nil))) pa_nil)))))) (show LamX.LamS (defScope s_law_large_right) _ from LamX.lamS_by (by decide +kernel))) (pa_cons (pe_tup (pa_cons pe_str (pa_cons pe_int pa_nil))) pa_nil))) pa_nil))) (pss_cons (ps_expr (pe_bm PySem.F.plainAttrs_list PySem.F.slot_list_append PySem.F.type_list_append mt_append (pv 4) (pa_cons (pe_tup (pa_cons (CG.pe_lamKT (k := 6) L.tb_law_large_right rfl (by exact L.hm_law_large_right) (by exact L.one_law_large_right) (fun A outer s H E f c hr => (pe_call (okX_call_from_sum T) (hr.mono (by decide)) rfl T.m_call_from_sum T.F_call_from_sum.kp T.b_call_from_sum .nil (passes_call (takes_of rfl rfl rfl rfl) (fun _ _ _ _ h => h)) (pa_cons pe_int (pa_cons (pe_lst (pa_cons pe_int (pa_cons pe_int pa_nil))) (pa_cons pe_int (pa_cons (pe_lst (pa_cons (pe_un un_neg pe_int) (pa_cons pe_bl pa_nil))) pa_nil)))))) (show LamX.LamS (defScope s_law_large_right) _ from LamX.lamS_by (by decide +kernel))) (pa_cons (pe_tup (pa_cons pe_str (pa_cons pe_int pa_nil))) pa_nil))) pa_nil))) (pss_cons (ps_expr (pe_bm PySem.F.plainAttrs_list PySem.F.slot_list_append PySem.F.type_list_append mt_append (pv 4) (pa_cons (pe_tup (pa_cons (CG.pe_lamKT (k := 6) L.tb_law_large_right rfl (by exact L.hm_law_large_right) (by exact L.one_law_large_right) (fun A outer s H E f c hr => (pe_call (okX_call_from_sum T) (hr.mono (by decide)) rfl T.m_call_from_sum T.F_call_from_sum.kp T.b_call_from_sum .nil (passes_call (takes_of rfl rfl rfl rfl) (fun _ _ _ _ h => h)) (pa_cons pe_int (pa_cons (pe_lst (pa_cons pe_int (pa_cons pe_int pa_nil))) (pa_cons pe_int (pa_cons (pe_lst (pa_cons pe_int (pa_cons pe_bl pa_nil))) pa_nil)))))) (show LamX.LamS (defScope s_law_large_right) _ from LamX.lamS_by (by decide +kernel))) (pa_cons (pe_tup (pa_cons pe_str (pa_cons pe_int pa_nil))) pa_nil))) pa_nil))) (pss_one (ps_ret (pe_cmpR (r := rEqD K) (op_eqD hr.units) (CG.pe_lcM (own := [("_law_ask", 5), ("_law_due_here", 6)]) (g := (gTup K 2 (gCons (gName 5) (gCons (gName 6) gNil)))) rfl sc_law_large_right.nd (pi_list (pv 4)) (blkOk_by (N := N_law_large_right) (sc := defScope s_law_large_right) (by decide +kernel)) (fun _ _ _ _ _ => (pg_tup rfl (pgs_cons (pg_name (i := 5) sc_law_large_right.nd rfl (Or.inl rfl)) (pgs_cons (pg_name (i := 6) sc_law_large_right.nd rfl (Or.inl rfl)) pgs_nil)))) (CG.said_elt T.F_law_said T.b_law_said sc_law_said (fun _ _ _ _ _ => rfl) T.m_law_said rfl (by exact Or.inl rfl) (gives_law_said T 6) gd hr (fun _ _ _ _ _ => (pv 5)))) (pe_lc (own := [("_law_ask", 5), ("_law_due_here", 6)]) (g := (gTup K 2 (gCons (gName 5) (gCons (gName 6) gNil)))) rfl sc_law_large_right.nd (pi_list (pv 4)) (blkOk_by (N := N_law_large_right) (sc := defScope s_law_large_right) (by decide +kernel)) (fun _ _ _ _ _ => (pg_tup rfl (pgs_cons (pg_name (i := 5) sc_law_large_right.nd rfl (Or.inl rfl)) (pgs_cons (pg_name (i := 6) sc_law_large_right.nd rfl (Or.inl rfl)) pgs_nil)))) (fun _ _ _ _ _ => pts_nil) (fun _ _ _ _ _ => (pv 6))) (nomark _))))))))))))))))))))))), ?_⟩
    have p30 : (10 ^ Int.toNat 30 : Int) = 1000000000000000000000000000000 := by decide +kernel
    refine ⟨_, rfl, s, 99, m + 5, rfl, src, by decide, by decide +kernel, fun r1 G1 r10 r11 xb1 src1 => ?_⟩
    refine ⟨_, _, rfl, rfl, ⟨by decide, by decide +kernel⟩, slen rfl, ?_⟩
    (intro l1 nl1; generalize hGl1 : upd _ l1 _ = G2; have eG2 := exG hGl1 nl1; have hl1 := atG hGl1; clear hGl1)
    replace hl1 : G2 l1 = some (.lst [.int 0, .int r1, .int (10 ^ Int.toNat 30)]) := hl1
    rw [p30] at hl1
    have nl1s := src1.ne nl1
    have src2 := src1.mono eG2
    refine ⟨_, rfl, s, 3, m + 4, rfl, src2, by decide, by decide +kernel, fun r2 G3 r20 r21 xb3 src3 => ?_⟩
    obtain ⟨f0, hf, gf⟩ : ∃ f0 : Int, atI [V.int 0, .int r1, .int 1000000000000000000000000000000] r2 = some (.int f0) ∧ 0 ≤ f0 ∧ f0 ≤ 1000000000000000000000000000000 := by
      have r3 : r2 = 0 ∨ r2 = 1 ∨ r2 = 2 := by omega
      rcases r3 with rfl | rfl | rfl
      · exact ⟨_, rfl, by omega, by omega⟩
      · exact ⟨_, rfl, by omega, by omega⟩
      · exact ⟨_, rfl, by omega, by omega⟩
    refine ⟨l1, _, _, _, rfl, rfl, SqL.of (xb3 _ _ nl1s hl1), hf, _, _, rfl, rfl, ?_⟩
    obtain ⟨far, hfar⟩ : ∃ far, 2001 + f0 = far := ⟨_, rfl⟩
    have far1 : 2001 ≤ far := by omega
    have far2 : far ≤ 1000000000000000000000000002001 := by omega
    dsimp only [gName]
    rw [hfar]
    show tSeq _ _ _ [_, _, _, _, _, _, _] _
    refine ⟨_, rfl, s, 9, m + 3, rfl, src3, by decide, by decide +kernel, fun r31 G4a r33 r34 xb4a src4a => ?_⟩
    refine ⟨_, _, rfl, rfl, _, _, rfl, rfl, ⟨by decide, by decide +kernel⟩, slen rfl, ?_⟩
    (intro l4 nl4; generalize hGl4 : upd _ l4 _ = G4b; have eG4b := exG hGl4 nl4; have hl4 := atG hGl4; clear hGl4)
    replace hl4 : G4b l4 = some (.lst [.int (41 + r31), .int (10 ^ Int.toNat 30)]) := hl4
    rw [p30] at hl4
    have nl4s := src4a.ne nl4
    have src4b := src4a.mono eG4b
    refine ⟨_, rfl, s, 2, m + 2, rfl, src4b, by decide, by decide +kernel, fun r35 G4c r36 r37 xb4c src4c => ?_⟩
    obtain ⟨deep, hdeep, deep1⟩ : ∃ deep : Int, atI [V.int (41 + r31), .int 1000000000000000000000000000000] r35 = some (.int deep) ∧ 41 ≤ deep := by
      have r3 : r35 = 0 ∨ r35 = 1 := by omega
      rcases r3 with rfl | rfl
      · exact ⟨_, rfl, by omega⟩
      · exact ⟨_, rfl, by omega⟩
    refine ⟨l4, _, _, _, rfl, rfl, SqL.of (xb4c _ _ nl4s hl4), hdeep, ?_⟩
    dsimp only [gName]
    show tSeq _ _ _ [_, _, _, _, _, _, _] _
    refine ⟨_, rfl, s, 9, m + 1, rfl, src4c, by decide, by decide +kernel, fun r4c1 G5a r4c3 r4c4 xb5a src5a => ?_⟩
    refine ⟨_, _, rfl, rfl, _, _, rfl, rfl, ⟨by decide, by decide +kernel⟩, slen rfl, ?_⟩
    (intro l5 nl5; generalize hGl5 : upd _ l5 _ = G5b; have eG5b := exG hGl5 nl5; have hl5 := atG hGl5; clear hGl5)
    replace hl5 : G5b l5 = some (.lst [.int (1001 + r4c1), .int (10 ^ Int.toNat 30)]) := hl5
    rw [p30] at hl5
    have nl5s := src5a.ne nl5
    have src5b := src5a.mono eG5b
    refine ⟨_, rfl, s, 2, m + 0, rfl, src5b, by decide, by decide +kernel, fun r4c5 G5c r4c6 r4c7 xb5c src5c => ?_⟩
    obtain ⟨vast, hvast, vast1⟩ : ∃ vast : Int, atI [V.int (1001 + r4c1), .int 1000000000000000000000000000000] r4c5 = some (.int vast) ∧ 1001 ≤ vast := by
      have r3 : r4c5 = 0 ∨ r4c5 = 1 := by omega
      rcases r3 with rfl | rfl
      · exact ⟨_, rfl, by omega⟩
      · exact ⟨_, rfl, by omega⟩
    refine ⟨l5, _, _, _, rfl, rfl, SqL.of (xb5c _ _ nl5s hl5), hvast, ?_⟩
    dsimp only [gName]
    show tSeq _ _ _ [_, _, _, _, _, _, _] _
    have X5 : XNS s H0 G5c := (XNS.xb xb1).trans ((XNS.en (.of eG2)).trans ((XNS.xb xb3).trans ((XNS.xb xb4a).trans ((XNS.en (.of eG4b)).trans ((XNS.xb xb4c).trans ((XNS.xb xb5a).trans ((XNS.en (.of eG5b)).trans (XNS.xb xb5c))))))))
    have tabs5 := tabs_xb5 ((tabs_xb5 (tabs_xb5 ((tabs_xb5 (tabs_xb5 ((tabs_xb5 tabs src xb1).ext eG2) src2 xb3) src3 xb4a).ext eG4b) src4b xb4c) src4c xb5a).ext eG5b) src5b xb5c
    have fb : far.natAbs < 2 ^ 4000 := Nat.lt_of_le_of_lt (show far.natAbs ≤ 1000000000000000000000000002001 by omega) (by decide +kernel)
    refine ⟨tabs5, fun f1 Ga en1 tba nf1 lam1 => ?_⟩
    refine ⟨slen rfl, ?_⟩
    (intro d1 nd1; generalize hGd1 : upd _ d1 _ = Gb; have eGb := exG hGd1 nd1; have hd1 := atG hGd1; clear hGd1)
    refine ⟨slen rfl, ?_⟩
    (intro q1 nq1; generalize hGq1 : upd _ q1 _ = Gc; have eGc := exG hGq1 nq1; have hq1 := atG hGq1; clear hGq1)
    refine ⟨slen rfl, ?_⟩
    (intro al nal; generalize hGal : upd _ al _ = Gd; have eGd := exG hGal nal; have hal := atG hGal; clear hGal)
    have ecd := ext eGc eGd
    have A1 := (AskB.mk (eGd _ _ hq1) (lam_mono (ext eGb ecd) lam1) (ecd _ _ hd1 : TwoS Gd d1 "large" (.int 2000)))
    have X := en1.trans (LamX.ExtN.of (ext eGb ecd))
    have tabs := tba.ext (ext eGb ecd)
    have off : Off G5c al := Off.new (en1.trans (LamX.ExtN.of (ext eGb eGc))) nal
    clear ecd eGb eGc eGd nal hq1 nq1 hd1 nd1 en1 tba nf1 lam1 tabs5
    have hal := hal
    dsimp only [gName]
    show tSeq _ _ _ [_, _, _, _, _, _, _] _
    refine ⟨_, rfl, .inl ⟨rfl, _, SqL.of hal⟩, tabs, fun f2 Ga en tba nf lam2 => ?_⟩
    refine ⟨slen rfl, ?_⟩
    (intro d2 nd2; generalize hGd2 : upd _ d2 _ = Gb; have eGb := exG hGd2 nd2; have hd2 := atG hGd2; clear hGd2)
    refine ⟨slen rfl, ?_⟩
    (intro q2 nq2; generalize hGq2 : upd _ q2 _ = Gc; have eGc := exG hGq2 nq2; have hq2 := atG hGq2; clear hGq2)
    have eb := ext eGb eGc
    have A2 := (AskB.mk hq2 (lam_mono eb lam2) (eGc _ _ hd2 : TwoS Gc d2 "number" (.str "place")))
    have Ec := en.trans (LamX.ExtN.of eb)
    have A1 := A1.en Ec
    have hac := Ec _ _ hal (fun _ z => nomatch z)
    have tbc := tba.ext eb
    have Xc := X.trans Ec
    refine ⟨al, _, _, rfl, rfl, hac, (by show 1 < sizeLine; decide), ?_⟩
    replace A1 := A1.updl (ys := [V.ref q1, V.ref q2]) hac
    replace A2 := A2.updl (ys := [V.ref q1, V.ref q2]) hac
    replace tabs := tabs_updl (ys := [V.ref q1, V.ref q2]) hac tbc
    replace X := extN_upd (o := .lst [V.ref q1, V.ref q2]) Xc off
    replace hal : upd Gc al (.lst [V.ref q1, V.ref q2]) al = some (.lst [V.ref q1, V.ref q2]) := upd_same
    clear Xc tbc hac Ec eb eGc eGb nq2 hq2 hd2 nd2 lam2 en tba nf
    show tSeq _ _ _ [_, _, _, _, _, _, _] (upd Gc al (.lst [V.ref q1, V.ref q2]))
    generalize upd Gc al (.lst [V.ref q1, V.ref q2]) = Gd at *
    refine ⟨_, rfl, .inl ⟨rfl, _, SqL.of hal⟩, tabs, fun f3 Ga en tba nf lam3 => ?_⟩
    refine ⟨slen rfl, ?_⟩
    (intro d3 nd3; generalize hGd3 : upd _ d3 _ = Gb; have eGb := exG hGd3 nd3; have hd3 := atG hGd3; clear hGd3)
    refine ⟨slen rfl, ?_⟩
    (intro q3 nq3; generalize hGq3 : upd _ q3 _ = Gc; have eGc := exG hGq3 nq3; have hq3 := atG hGq3; clear hGq3)
    have eb := ext eGb eGc
    have A3 := (AskB.mk hq3 (lam_mono eb lam3) (eGc _ _ hd3 : TwoS Gc d3 "large" (.int 2000)))
    have Ec := en.trans (LamX.ExtN.of eb)
    have A1 := A1.en Ec
    have A2 := A2.en Ec
    have hac := Ec _ _ hal (fun _ z => nomatch z)
    have tbc := tba.ext eb
    have Xc := X.trans Ec
    refine ⟨al, _, _, rfl, rfl, hac, (by show 2 < sizeLine; decide), ?_⟩
    replace A1 := A1.updl (ys := [V.ref q1, V.ref q2, V.ref q3]) hac
    replace A2 := A2.updl (ys := [V.ref q1, V.ref q2, V.ref q3]) hac
    replace A3 := A3.updl (ys := [V.ref q1, V.ref q2, V.ref q3]) hac
    replace tabs := tabs_updl (ys := [V.ref q1, V.ref q2, V.ref q3]) hac tbc
    replace X := extN_upd (o := .lst [V.ref q1, V.ref q2, V.ref q3]) Xc off
    replace hal : upd Gc al (.lst [V.ref q1, V.ref q2, V.ref q3]) al = some (.lst [V.ref q1, V.ref q2, V.ref q3]) := upd_same
    clear Xc tbc hac Ec eb eGc eGb nq3 hq3 hd3 nd3 lam3 en tba nf
    show tSeq _ _ _ [_, _, _, _, _, _, _] (upd Gc al (.lst [V.ref q1, V.ref q2, V.ref q3]))
    generalize upd Gc al (.lst [V.ref q1, V.ref q2, V.ref q3]) = Gd at *
    refine ⟨_, rfl, .inl ⟨rfl, _, SqL.of hal⟩, tabs, fun f4 Ga en tba nf lam4 => ?_⟩
    refine ⟨slen rfl, ?_⟩
    (intro d4 nd4; generalize hGd4 : upd _ d4 _ = Gb; have eGb := exG hGd4 nd4; have hd4 := atG hGd4; clear hGd4)
    refine ⟨slen rfl, ?_⟩
    (intro q4 nq4; generalize hGq4 : upd _ q4 _ = Gc; have eGc := exG hGq4 nq4; have hq4 := atG hGq4; clear hGq4)
    have eb := ext eGb eGc
    have A4 := (AskB.mk hq4 (lam_mono eb lam4) (eGc _ _ hd4 : TwoS Gc d4 "number" (.str "calls")))
    have Ec := en.trans (LamX.ExtN.of eb)
    have A1 := A1.en Ec
    have A2 := A2.en Ec
    have A3 := A3.en Ec
    have hac := Ec _ _ hal (fun _ z => nomatch z)
    have tbc := tba.ext eb
    have Xc := X.trans Ec
    refine ⟨al, _, _, rfl, rfl, hac, (by show 3 < sizeLine; decide), ?_⟩
    replace A1 := A1.updl (ys := [V.ref q1, V.ref q2, V.ref q3, V.ref q4]) hac
    replace A2 := A2.updl (ys := [V.ref q1, V.ref q2, V.ref q3, V.ref q4]) hac
    replace A3 := A3.updl (ys := [V.ref q1, V.ref q2, V.ref q3, V.ref q4]) hac
    replace A4 := A4.updl (ys := [V.ref q1, V.ref q2, V.ref q3, V.ref q4]) hac
    replace tabs := tabs_updl (ys := [V.ref q1, V.ref q2, V.ref q3, V.ref q4]) hac tbc
    replace X := extN_upd (o := .lst [V.ref q1, V.ref q2, V.ref q3, V.ref q4]) Xc off
    replace hal : upd Gc al (.lst [V.ref q1, V.ref q2, V.ref q3, V.ref q4]) al = some (.lst [V.ref q1, V.ref q2, V.ref q3, V.ref q4]) := upd_same
    clear Xc tbc hac Ec eb eGc eGb nq4 hq4 hd4 nd4 lam4 en tba nf
    show tSeq _ _ _ [_, _, _, _, _, _, _] (upd Gc al (.lst [V.ref q1, V.ref q2, V.ref q3, V.ref q4]))
    generalize upd Gc al (.lst [V.ref q1, V.ref q2, V.ref q3, V.ref q4]) = Gd at *
    refine ⟨_, rfl, .inl ⟨rfl, _, SqL.of hal⟩, tabs, fun f5 Ga en tba nf lam5 => ?_⟩
    refine ⟨slen rfl, ?_⟩
    (intro d5 nd5; generalize hGd5 : upd _ d5 _ = Gb; have eGb := exG hGd5 nd5; have hd5 := atG hGd5; clear hGd5)
    refine ⟨slen rfl, ?_⟩
    (intro q5 nq5; generalize hGq5 : upd _ q5 _ = Gc; have eGc := exG hGq5 nq5; have hq5 := atG hGq5; clear hGq5)
    have eb := ext eGb eGc
    have A5 := (AskB.mk hq5 (lam_mono eb lam5) (eGc _ _ hd5 : TwoS Gc d5 "large" (.int 40)))
    have Ec := en.trans (LamX.ExtN.of eb)
    have A1 := A1.en Ec
    have A2 := A2.en Ec
    have A3 := A3.en Ec
    have A4 := A4.en Ec
    have hac := Ec _ _ hal (fun _ z => nomatch z)
    have tbc := tba.ext eb
    have Xc := X.trans Ec
    refine ⟨al, _, _, rfl, rfl, hac, (by show 4 < sizeLine; decide), ?_⟩
    replace A1 := A1.updl (ys := [V.ref q1, V.ref q2, V.ref q3, V.ref q4, V.ref q5]) hac
    replace A2 := A2.updl (ys := [V.ref q1, V.ref q2, V.ref q3, V.ref q4, V.ref q5]) hac
    replace A3 := A3.updl (ys := [V.ref q1, V.ref q2, V.ref q3, V.ref q4, V.ref q5]) hac
    replace A4 := A4.updl (ys := [V.ref q1, V.ref q2, V.ref q3, V.ref q4, V.ref q5]) hac
    replace A5 := A5.updl (ys := [V.ref q1, V.ref q2, V.ref q3, V.ref q4, V.ref q5]) hac
    replace tabs := tabs_updl (ys := [V.ref q1, V.ref q2, V.ref q3, V.ref q4, V.ref q5]) hac tbc
    replace X := extN_upd (o := .lst [V.ref q1, V.ref q2, V.ref q3, V.ref q4, V.ref q5]) Xc off
    replace hal : upd Gc al (.lst [V.ref q1, V.ref q2, V.ref q3, V.ref q4, V.ref q5]) al = some (.lst [V.ref q1, V.ref q2, V.ref q3, V.ref q4, V.ref q5]) := upd_same
    clear Xc tbc hac Ec eb eGc eGb nq5 hq5 hd5 nd5 lam5 en tba nf
    show tSeq _ _ _ [_, _, _, _, _, _, _] (upd Gc al (.lst [V.ref q1, V.ref q2, V.ref q3, V.ref q4, V.ref q5]))
    generalize upd Gc al (.lst [V.ref q1, V.ref q2, V.ref q3, V.ref q4, V.ref q5]) = Gd at *
    refine ⟨_, rfl, .inl ⟨rfl, _, SqL.of hal⟩, tabs, fun f6 Ga en tba nf lam6 => ?_⟩
    refine ⟨slen rfl, ?_⟩
    (intro d6 nd6; generalize hGd6 : upd _ d6 _ = Gb; have eGb := exG hGd6 nd6; have hd6 := atG hGd6; clear hGd6)
    refine ⟨slen rfl, ?_⟩
    (intro q6 nq6; generalize hGq6 : upd _ q6 _ = Gc; have eGc := exG hGq6 nq6; have hq6 := atG hGq6; clear hGq6)
    have eb := ext eGb eGc
    have A6 := (AskB.mk hq6 (lam_mono eb lam6) (eGc _ _ hd6 : TwoS Gc d6 "returned" (.non)))
    have Ec := en.trans (LamX.ExtN.of eb)
    have A1 := A1.en Ec
    have A2 := A2.en Ec
    have A3 := A3.en Ec
    have A4 := A4.en Ec
    have A5 := A5.en Ec
    have hac := Ec _ _ hal (fun _ z => nomatch z)
    have tbc := tba.ext eb
    have Xc := X.trans Ec
    refine ⟨al, _, _, rfl, rfl, hac, (by show 5 < sizeLine; decide), ?_⟩
    replace A1 := A1.updl (ys := [V.ref q1, V.ref q2, V.ref q3, V.ref q4, V.ref q5, V.ref q6]) hac
    replace A2 := A2.updl (ys := [V.ref q1, V.ref q2, V.ref q3, V.ref q4, V.ref q5, V.ref q6]) hac
    replace A3 := A3.updl (ys := [V.ref q1, V.ref q2, V.ref q3, V.ref q4, V.ref q5, V.ref q6]) hac
    replace A4 := A4.updl (ys := [V.ref q1, V.ref q2, V.ref q3, V.ref q4, V.ref q5, V.ref q6]) hac
    replace A5 := A5.updl (ys := [V.ref q1, V.ref q2, V.ref q3, V.ref q4, V.ref q5, V.ref q6]) hac
    replace A6 := A6.updl (ys := [V.ref q1, V.ref q2, V.ref q3, V.ref q4, V.ref q5, V.ref q6]) hac
    replace tabs := tabs_updl (ys := [V.ref q1, V.ref q2, V.ref q3, V.ref q4, V.ref q5, V.ref q6]) hac tbc
    replace X := extN_upd (o := .lst [V.ref q1, V.ref q2, V.ref q3, V.ref q4, V.ref q5, V.ref q6]) Xc off
    replace hal : upd Gc al (.lst [V.ref q1, V.ref q2, V.ref q3, V.ref q4, V.ref q5, V.ref q6]) al = some (.lst [V.ref q1, V.ref q2, V.ref q3, V.ref q4, V.ref q5, V.ref q6]) := upd_same
    clear Xc tbc hac Ec eb eGc eGb nq6 hq6 hd6 nd6 lam6 en tba nf
    show tSeq _ _ _ [_, _, _, _, _, _, _] (upd Gc al (.lst [V.ref q1, V.ref q2, V.ref q3, V.ref q4, V.ref q5, V.ref q6]))
    generalize upd Gc al (.lst [V.ref q1, V.ref q2, V.ref q3, V.ref q4, V.ref q5, V.ref q6]) = Gd at *
    refine ⟨_, rfl, .inl ⟨rfl, _, SqL.of hal⟩, tabs, fun f7 Ga en tba nf lam7 => ?_⟩
    refine ⟨slen rfl, ?_⟩
    (intro d7 nd7; generalize hGd7 : upd _ d7 _ = Gb; have eGb := exG hGd7 nd7; have hd7 := atG hGd7; clear hGd7)
    refine ⟨slen rfl, ?_⟩
    (intro q7 nq7; generalize hGq7 : upd _ q7 _ = Gc; have eGc := exG hGq7 nq7; have hq7 := atG hGq7; clear hGq7)
    have eb := ext eGb eGc
    have A7 := (AskB.mk hq7 (lam_mono eb lam7) (eGc _ _ hd7 : TwoS Gc d7 "large" (.int 1000)))
    have Ec := en.trans (LamX.ExtN.of eb)
    have A1 := A1.en Ec
    have A2 := A2.en Ec
    have A3 := A3.en Ec
    have A4 := A4.en Ec
    have A5 := A5.en Ec
    have A6 := A6.en Ec
    have hac := Ec _ _ hal (fun _ z => nomatch z)
    have tbc := tba.ext eb
    have Xc := X.trans Ec
    refine ⟨al, _, _, rfl, rfl, hac, (by show 6 < sizeLine; decide), ?_⟩
    replace A1 := A1.updl (ys := [V.ref q1, V.ref q2, V.ref q3, V.ref q4, V.ref q5, V.ref q6, V.ref q7]) hac
    replace A2 := A2.updl (ys := [V.ref q1, V.ref q2, V.ref q3, V.ref q4, V.ref q5, V.ref q6, V.ref q7]) hac
    replace A3 := A3.updl (ys := [V.ref q1, V.ref q2, V.ref q3, V.ref q4, V.ref q5, V.ref q6, V.ref q7]) hac
    replace A4 := A4.updl (ys := [V.ref q1, V.ref q2, V.ref q3, V.ref q4, V.ref q5, V.ref q6, V.ref q7]) hac
    replace A5 := A5.updl (ys := [V.ref q1, V.ref q2, V.ref q3, V.ref q4, V.ref q5, V.ref q6, V.ref q7]) hac
    replace A6 := A6.updl (ys := [V.ref q1, V.ref q2, V.ref q3, V.ref q4, V.ref q5, V.ref q6, V.ref q7]) hac
    replace A7 := A7.updl (ys := [V.ref q1, V.ref q2, V.ref q3, V.ref q4, V.ref q5, V.ref q6, V.ref q7]) hac
    replace tabs := tabs_updl (ys := [V.ref q1, V.ref q2, V.ref q3, V.ref q4, V.ref q5, V.ref q6, V.ref q7]) hac tbc
    replace X := extN_upd (o := .lst [V.ref q1, V.ref q2, V.ref q3, V.ref q4, V.ref q5, V.ref q6, V.ref q7]) Xc off
    replace hal : upd Gc al (.lst [V.ref q1, V.ref q2, V.ref q3, V.ref q4, V.ref q5, V.ref q6, V.ref q7]) al = some (.lst [V.ref q1, V.ref q2, V.ref q3, V.ref q4, V.ref q5, V.ref q6, V.ref q7]) := upd_same
    clear Xc tbc hac Ec eb eGc eGb nq7 hq7 hd7 nd7 lam7 en tba nf
    show tSeq _ _ _ [_, _, _, _, _, _, _] (upd Gc al (.lst [V.ref q1, V.ref q2, V.ref q3, V.ref q4, V.ref q5, V.ref q6, V.ref q7]))
    generalize upd Gc al (.lst [V.ref q1, V.ref q2, V.ref q3, V.ref q4, V.ref q5, V.ref q6, V.ref q7]) = Gd at *
    refine ⟨_, rfl, .inl ⟨rfl, _, SqL.of hal⟩, tabs, fun f8 Ga en tba nf lam8 => ?_⟩
    refine ⟨slen rfl, ?_⟩
    (intro d8 nd8; generalize hGd8 : upd _ d8 _ = Gb; have eGb := exG hGd8 nd8; have hd8 := atG hGd8; clear hGd8)
    refine ⟨slen rfl, ?_⟩
    (intro q8 nq8; generalize hGq8 : upd _ q8 _ = Gc; have eGc := exG hGq8 nq8; have hq8 := atG hGq8; clear hGq8)
    have eb := ext eGb eGc
    have A8 := (AskB.mk hq8 (lam_mono eb lam8) (eGc _ _ hd8 : TwoS Gc d8 "returned" (.non)))
    have Ec := en.trans (LamX.ExtN.of eb)
    have A1 := A1.en Ec
    have A2 := A2.en Ec
    have A3 := A3.en Ec
    have A4 := A4.en Ec
    have A5 := A5.en Ec
    have A6 := A6.en Ec
    have A7 := A7.en Ec
    have hac := Ec _ _ hal (fun _ z => nomatch z)
    have tbc := tba.ext eb
    have Xc := X.trans Ec
    refine ⟨al, _, _, rfl, rfl, hac, (by show 7 < sizeLine; decide), ?_⟩
    replace A1 := A1.updl (ys := [V.ref q1, V.ref q2, V.ref q3, V.ref q4, V.ref q5, V.ref q6, V.ref q7, V.ref q8]) hac
    replace A2 := A2.updl (ys := [V.ref q1, V.ref q2, V.ref q3, V.ref q4, V.ref q5, V.ref q6, V.ref q7, V.ref q8]) hac
    replace A3 := A3.updl (ys := [V.ref q1, V.ref q2, V.ref q3, V.ref q4, V.ref q5, V.ref q6, V.ref q7, V.ref q8]) hac
    replace A4 := A4.updl (ys := [V.ref q1, V.ref q2, V.ref q3, V.ref q4, V.ref q5, V.ref q6, V.ref q7, V.ref q8]) hac
    replace A5 := A5.updl (ys := [V.ref q1, V.ref q2, V.ref q3, V.ref q4, V.ref q5, V.ref q6, V.ref q7, V.ref q8]) hac
    replace A6 := A6.updl (ys := [V.ref q1, V.ref q2, V.ref q3, V.ref q4, V.ref q5, V.ref q6, V.ref q7, V.ref q8]) hac
    replace A7 := A7.updl (ys := [V.ref q1, V.ref q2, V.ref q3, V.ref q4, V.ref q5, V.ref q6, V.ref q7, V.ref q8]) hac
    replace A8 := A8.updl (ys := [V.ref q1, V.ref q2, V.ref q3, V.ref q4, V.ref q5, V.ref q6, V.ref q7, V.ref q8]) hac
    replace tabs := tabs_updl (ys := [V.ref q1, V.ref q2, V.ref q3, V.ref q4, V.ref q5, V.ref q6, V.ref q7, V.ref q8]) hac tbc
    replace X := extN_upd (o := .lst [V.ref q1, V.ref q2, V.ref q3, V.ref q4, V.ref q5, V.ref q6, V.ref q7, V.ref q8]) Xc off
    replace hal : upd Gc al (.lst [V.ref q1, V.ref q2, V.ref q3, V.ref q4, V.ref q5, V.ref q6, V.ref q7, V.ref q8]) al = some (.lst [V.ref q1, V.ref q2, V.ref q3, V.ref q4, V.ref q5, V.ref q6, V.ref q7, V.ref q8]) := upd_same
    clear Xc tbc hac Ec eb eGc eGb nq8 hq8 hd8 nd8 lam8 en tba nf
    show tSeq _ _ _ [_, _, _, _, _, _, _] (upd Gc al (.lst [V.ref q1, V.ref q2, V.ref q3, V.ref q4, V.ref q5, V.ref q6, V.ref q7, V.ref q8]))
    generalize upd Gc al (.lst [V.ref q1, V.ref q2, V.ref q3, V.ref q4, V.ref q5, V.ref q6, V.ref q7, V.ref q8]) = Gd at *
    refine ⟨_, rfl, .inl ⟨rfl, _, SqL.of hal⟩, tabs, fun f9 Ga en tba nf lam9 => ?_⟩
    refine ⟨slen rfl, ?_⟩
    (intro d9 nd9; generalize hGd9 : upd _ d9 _ = Gb; have eGb := exG hGd9 nd9; have hd9 := atG hGd9; clear hGd9)
    refine ⟨slen rfl, ?_⟩
    (intro q9 nq9; generalize hGq9 : upd _ q9 _ = Gc; have eGc := exG hGq9 nq9; have hq9 := atG hGq9; clear hGq9)
    have eb := ext eGb eGc
    have A9 := (AskB.mk hq9 (lam_mono eb lam9) (eGc _ _ hd9 : TwoS Gc d9 "number" (.str "second")))
    have Ec := en.trans (LamX.ExtN.of eb)
    have A1 := A1.en Ec
    have A2 := A2.en Ec
    have A3 := A3.en Ec
    have A4 := A4.en Ec
    have A5 := A5.en Ec
    have A6 := A6.en Ec
    have A7 := A7.en Ec
    have A8 := A8.en Ec
    have hac := Ec _ _ hal (fun _ z => nomatch z)
    have tbc := tba.ext eb
    have Xc := X.trans Ec
    refine ⟨al, _, _, rfl, rfl, hac, (by show 8 < sizeLine; decide), ?_⟩
    replace A1 := A1.updl (ys := [V.ref q1, V.ref q2, V.ref q3, V.ref q4, V.ref q5, V.ref q6, V.ref q7, V.ref q8, V.ref q9]) hac
    replace A2 := A2.updl (ys := [V.ref q1, V.ref q2, V.ref q3, V.ref q4, V.ref q5, V.ref q6, V.ref q7, V.ref q8, V.ref q9]) hac
    replace A3 := A3.updl (ys := [V.ref q1, V.ref q2, V.ref q3, V.ref q4, V.ref q5, V.ref q6, V.ref q7, V.ref q8, V.ref q9]) hac
    replace A4 := A4.updl (ys := [V.ref q1, V.ref q2, V.ref q3, V.ref q4, V.ref q5, V.ref q6, V.ref q7, V.ref q8, V.ref q9]) hac
    replace A5 := A5.updl (ys := [V.ref q1, V.ref q2, V.ref q3, V.ref q4, V.ref q5, V.ref q6, V.ref q7, V.ref q8, V.ref q9]) hac
    replace A6 := A6.updl (ys := [V.ref q1, V.ref q2, V.ref q3, V.ref q4, V.ref q5, V.ref q6, V.ref q7, V.ref q8, V.ref q9]) hac
    replace A7 := A7.updl (ys := [V.ref q1, V.ref q2, V.ref q3, V.ref q4, V.ref q5, V.ref q6, V.ref q7, V.ref q8, V.ref q9]) hac
    replace A8 := A8.updl (ys := [V.ref q1, V.ref q2, V.ref q3, V.ref q4, V.ref q5, V.ref q6, V.ref q7, V.ref q8, V.ref q9]) hac
    replace A9 := A9.updl (ys := [V.ref q1, V.ref q2, V.ref q3, V.ref q4, V.ref q5, V.ref q6, V.ref q7, V.ref q8, V.ref q9]) hac
    replace tabs := tabs_updl (ys := [V.ref q1, V.ref q2, V.ref q3, V.ref q4, V.ref q5, V.ref q6, V.ref q7, V.ref q8, V.ref q9]) hac tbc
    replace X := extN_upd (o := .lst [V.ref q1, V.ref q2, V.ref q3, V.ref q4, V.ref q5, V.ref q6, V.ref q7, V.ref q8, V.ref q9]) Xc off
    replace hal : upd Gc al (.lst [V.ref q1, V.ref q2, V.ref q3, V.ref q4, V.ref q5, V.ref q6, V.ref q7, V.ref q8, V.ref q9]) al = some (.lst [V.ref q1, V.ref q2, V.ref q3, V.ref q4, V.ref q5, V.ref q6, V.ref q7, V.ref q8, V.ref q9]) := upd_same
    clear Xc tbc hac Ec eb eGc eGb nq9 hq9 hd9 nd9 lam9 en tba nf
    show tSeq _ _ _ [_, _, _, _, _, _, _] (upd Gc al (.lst [V.ref q1, V.ref q2, V.ref q3, V.ref q4, V.ref q5, V.ref q6, V.ref q7, V.ref q8, V.ref q9]))
    generalize upd Gc al (.lst [V.ref q1, V.ref q2, V.ref q3, V.ref q4, V.ref q5, V.ref q6, V.ref q7, V.ref q8, V.ref q9]) = Gd at *
    refine ⟨_, rfl, .inl ⟨rfl, _, SqL.of hal⟩, tabs, fun f10 Ga en tba nf lam10 => ?_⟩
    refine ⟨slen rfl, ?_⟩
    (intro d10 nd10; generalize hGd10 : upd _ d10 _ = Gb; have eGb := exG hGd10 nd10; have hd10 := atG hGd10; clear hGd10)
    refine ⟨slen rfl, ?_⟩
    (intro q10 nq10; generalize hGq10 : upd _ q10 _ = Gc; have eGc := exG hGq10 nq10; have hq10 := atG hGq10; clear hGq10)
    have eb := ext eGb eGc
    have A10 := (AskB.mk hq10 (lam_mono eb lam10) (eGc _ _ hd10 : TwoS Gc d10 "number" (.str "second")))
    have Ec := en.trans (LamX.ExtN.of eb)
    have A1 := A1.en Ec
    have A2 := A2.en Ec
    have A3 := A3.en Ec
    have A4 := A4.en Ec
    have A5 := A5.en Ec
    have A6 := A6.en Ec
    have A7 := A7.en Ec
    have A8 := A8.en Ec
    have A9 := A9.en Ec
    have hac := Ec _ _ hal (fun _ z => nomatch z)
    have tbc := tba.ext eb
    have Xc := X.trans Ec
    refine ⟨al, _, _, rfl, rfl, hac, (by show 9 < sizeLine; decide), ?_⟩
    replace A1 := A1.updl (ys := [V.ref q1, V.ref q2, V.ref q3, V.ref q4, V.ref q5, V.ref q6, V.ref q7, V.ref q8, V.ref q9, V.ref q10]) hac
    replace A2 := A2.updl (ys := [V.ref q1, V.ref q2, V.ref q3, V.ref q4, V.ref q5, V.ref q6, V.ref q7, V.ref q8, V.ref q9, V.ref q10]) hac
    replace A3 := A3.updl (ys := [V.ref q1, V.ref q2, V.ref q3, V.ref q4, V.ref q5, V.ref q6, V.ref q7, V.ref q8, V.ref q9, V.ref q10]) hac
    replace A4 := A4.updl (ys := [V.ref q1, V.ref q2, V.ref q3, V.ref q4, V.ref q5, V.ref q6, V.ref q7, V.ref q8, V.ref q9, V.ref q10]) hac
    replace A5 := A5.updl (ys := [V.ref q1, V.ref q2, V.ref q3, V.ref q4, V.ref q5, V.ref q6, V.ref q7, V.ref q8, V.ref q9, V.ref q10]) hac
    replace A6 := A6.updl (ys := [V.ref q1, V.ref q2, V.ref q3, V.ref q4, V.ref q5, V.ref q6, V.ref q7, V.ref q8, V.ref q9, V.ref q10]) hac
    replace A7 := A7.updl (ys := [V.ref q1, V.ref q2, V.ref q3, V.ref q4, V.ref q5, V.ref q6, V.ref q7, V.ref q8, V.ref q9, V.ref q10]) hac
    replace A8 := A8.updl (ys := [V.ref q1, V.ref q2, V.ref q3, V.ref q4, V.ref q5, V.ref q6, V.ref q7, V.ref q8, V.ref q9, V.ref q10]) hac
    replace A9 := A9.updl (ys := [V.ref q1, V.ref q2, V.ref q3, V.ref q4, V.ref q5, V.ref q6, V.ref q7, V.ref q8, V.ref q9, V.ref q10]) hac
    replace A10 := A10.updl (ys := [V.ref q1, V.ref q2, V.ref q3, V.ref q4, V.ref q5, V.ref q6, V.ref q7, V.ref q8, V.ref q9, V.ref q10]) hac
    replace tabs := tabs_updl (ys := [V.ref q1, V.ref q2, V.ref q3, V.ref q4, V.ref q5, V.ref q6, V.ref q7, V.ref q8, V.ref q9, V.ref q10]) hac tbc
    replace X := extN_upd (o := .lst [V.ref q1, V.ref q2, V.ref q3, V.ref q4, V.ref q5, V.ref q6, V.ref q7, V.ref q8, V.ref q9, V.ref q10]) Xc off
    replace hal : upd Gc al (.lst [V.ref q1, V.ref q2, V.ref q3, V.ref q4, V.ref q5, V.ref q6, V.ref q7, V.ref q8, V.ref q9, V.ref q10]) al = some (.lst [V.ref q1, V.ref q2, V.ref q3, V.ref q4, V.ref q5, V.ref q6, V.ref q7, V.ref q8, V.ref q9, V.ref q10]) := upd_same
    clear Xc tbc hac Ec eb eGc eGb nq10 hq10 hd10 nd10 lam10 en tba nf
    show tSeq _ _ _ [_, _, _, _, _, _, _] (upd Gc al (.lst [V.ref q1, V.ref q2, V.ref q3, V.ref q4, V.ref q5, V.ref q6, V.ref q7, V.ref q8, V.ref q9, V.ref q10]))
    generalize upd Gc al (.lst [V.ref q1, V.ref q2, V.ref q3, V.ref q4, V.ref q5, V.ref q6, V.ref q7, V.ref q8, V.ref q9, V.ref q10]) = Gd at *
    refine ⟨_, rfl, .inl ⟨rfl, _, SqL.of hal⟩, tabs, fun f11 Ga en tba nf lam11 => ?_⟩
    refine ⟨slen rfl, ?_⟩
    (intro d11 nd11; generalize hGd11 : upd _ d11 _ = Gb; have eGb := exG hGd11 nd11; have hd11 := atG hGd11; clear hGd11)
    refine ⟨slen rfl, ?_⟩
    (intro q11 nq11; generalize hGq11 : upd _ q11 _ = Gc; have eGc := exG hGq11 nq11; have hq11 := atG hGq11; clear hGq11)
    have eb := ext eGb eGc
    have A11 := (AskB.mk hq11 (lam_mono eb lam11) (eGc _ _ hd11 : TwoS Gc d11 "witness" (.int 2)))
    have Ec := en.trans (LamX.ExtN.of eb)
    have A1 := A1.en Ec
    have A2 := A2.en Ec
    have A3 := A3.en Ec
    have A4 := A4.en Ec
    have A5 := A5.en Ec
    have A6 := A6.en Ec
    have A7 := A7.en Ec
    have A8 := A8.en Ec
    have A9 := A9.en Ec
    have A10 := A10.en Ec
    have hac := Ec _ _ hal (fun _ z => nomatch z)
    have tbc := tba.ext eb
    have Xc := X.trans Ec
    refine ⟨al, _, _, rfl, rfl, hac, (by show 10 < sizeLine; decide), ?_⟩
    replace A1 := A1.updl (ys := [V.ref q1, V.ref q2, V.ref q3, V.ref q4, V.ref q5, V.ref q6, V.ref q7, V.ref q8, V.ref q9, V.ref q10, V.ref q11]) hac
    replace A2 := A2.updl (ys := [V.ref q1, V.ref q2, V.ref q3, V.ref q4, V.ref q5, V.ref q6, V.ref q7, V.ref q8, V.ref q9, V.ref q10, V.ref q11]) hac
    replace A3 := A3.updl (ys := [V.ref q1, V.ref q2, V.ref q3, V.ref q4, V.ref q5, V.ref q6, V.ref q7, V.ref q8, V.ref q9, V.ref q10, V.ref q11]) hac
    replace A4 := A4.updl (ys := [V.ref q1, V.ref q2, V.ref q3, V.ref q4, V.ref q5, V.ref q6, V.ref q7, V.ref q8, V.ref q9, V.ref q10, V.ref q11]) hac
    replace A5 := A5.updl (ys := [V.ref q1, V.ref q2, V.ref q3, V.ref q4, V.ref q5, V.ref q6, V.ref q7, V.ref q8, V.ref q9, V.ref q10, V.ref q11]) hac
    replace A6 := A6.updl (ys := [V.ref q1, V.ref q2, V.ref q3, V.ref q4, V.ref q5, V.ref q6, V.ref q7, V.ref q8, V.ref q9, V.ref q10, V.ref q11]) hac
    replace A7 := A7.updl (ys := [V.ref q1, V.ref q2, V.ref q3, V.ref q4, V.ref q5, V.ref q6, V.ref q7, V.ref q8, V.ref q9, V.ref q10, V.ref q11]) hac
    replace A8 := A8.updl (ys := [V.ref q1, V.ref q2, V.ref q3, V.ref q4, V.ref q5, V.ref q6, V.ref q7, V.ref q8, V.ref q9, V.ref q10, V.ref q11]) hac
    replace A9 := A9.updl (ys := [V.ref q1, V.ref q2, V.ref q3, V.ref q4, V.ref q5, V.ref q6, V.ref q7, V.ref q8, V.ref q9, V.ref q10, V.ref q11]) hac
    replace A10 := A10.updl (ys := [V.ref q1, V.ref q2, V.ref q3, V.ref q4, V.ref q5, V.ref q6, V.ref q7, V.ref q8, V.ref q9, V.ref q10, V.ref q11]) hac
    replace A11 := A11.updl (ys := [V.ref q1, V.ref q2, V.ref q3, V.ref q4, V.ref q5, V.ref q6, V.ref q7, V.ref q8, V.ref q9, V.ref q10, V.ref q11]) hac
    replace tabs := tabs_updl (ys := [V.ref q1, V.ref q2, V.ref q3, V.ref q4, V.ref q5, V.ref q6, V.ref q7, V.ref q8, V.ref q9, V.ref q10, V.ref q11]) hac tbc
    replace X := extN_upd (o := .lst [V.ref q1, V.ref q2, V.ref q3, V.ref q4, V.ref q5, V.ref q6, V.ref q7, V.ref q8, V.ref q9, V.ref q10, V.ref q11]) Xc off
    replace hal : upd Gc al (.lst [V.ref q1, V.ref q2, V.ref q3, V.ref q4, V.ref q5, V.ref q6, V.ref q7, V.ref q8, V.ref q9, V.ref q10, V.ref q11]) al = some (.lst [V.ref q1, V.ref q2, V.ref q3, V.ref q4, V.ref q5, V.ref q6, V.ref q7, V.ref q8, V.ref q9, V.ref q10, V.ref q11]) := upd_same
    clear Xc tbc hac Ec eb eGc eGb nq11 hq11 hd11 nd11 lam11 en tba nf
    show tSeq _ _ _ [_, _, _, _, _, _, _] (upd Gc al (.lst [V.ref q1, V.ref q2, V.ref q3, V.ref q4, V.ref q5, V.ref q6, V.ref q7, V.ref q8, V.ref q9, V.ref q10, V.ref q11]))
    generalize upd Gc al (.lst [V.ref q1, V.ref q2, V.ref q3, V.ref q4, V.ref q5, V.ref q6, V.ref q7, V.ref q8, V.ref q9, V.ref q10, V.ref q11]) = Gd at *
    refine ⟨_, rfl, .inl ⟨rfl, _, SqL.of hal⟩, tabs, fun f12 Ga en tba nf lam12 => ?_⟩
    refine ⟨slen rfl, ?_⟩
    (intro d12 nd12; generalize hGd12 : upd _ d12 _ = Gb; have eGb := exG hGd12 nd12; have hd12 := atG hGd12; clear hGd12)
    refine ⟨slen rfl, ?_⟩
    (intro q12 nq12; generalize hGq12 : upd _ q12 _ = Gc; have eGc := exG hGq12 nq12; have hq12 := atG hGq12; clear hGq12)
    have eb := ext eGb eGc
    have A12 := (AskB.mk hq12 (lam_mono eb lam12) (eGc _ _ hd12 : TwoS Gc d12 "witness" (.int 2)))
    have Ec := en.trans (LamX.ExtN.of eb)
    have A1 := A1.en Ec
    have A2 := A2.en Ec
    have A3 := A3.en Ec
    have A4 := A4.en Ec
    have A5 := A5.en Ec
    have A6 := A6.en Ec
    have A7 := A7.en Ec
    have A8 := A8.en Ec
    have A9 := A9.en Ec
    have A10 := A10.en Ec
    have A11 := A11.en Ec
    have hac := Ec _ _ hal (fun _ z => nomatch z)
    have tbc := tba.ext eb
    have Xc := X.trans Ec
    refine ⟨al, _, _, rfl, rfl, hac, (by show 11 < sizeLine; decide), ?_⟩
    replace A1 := A1.updl (ys := [V.ref q1, V.ref q2, V.ref q3, V.ref q4, V.ref q5, V.ref q6, V.ref q7, V.ref q8, V.ref q9, V.ref q10, V.ref q11, V.ref q12]) hac
    replace A2 := A2.updl (ys := [V.ref q1, V.ref q2, V.ref q3, V.ref q4, V.ref q5, V.ref q6, V.ref q7, V.ref q8, V.ref q9, V.ref q10, V.ref q11, V.ref q12]) hac
    replace A3 := A3.updl (ys := [V.ref q1, V.ref q2, V.ref q3, V.ref q4, V.ref q5, V.ref q6, V.ref q7, V.ref q8, V.ref q9, V.ref q10, V.ref q11, V.ref q12]) hac
    replace A4 := A4.updl (ys := [V.ref q1, V.ref q2, V.ref q3, V.ref q4, V.ref q5, V.ref q6, V.ref q7, V.ref q8, V.ref q9, V.ref q10, V.ref q11, V.ref q12]) hac
    replace A5 := A5.updl (ys := [V.ref q1, V.ref q2, V.ref q3, V.ref q4, V.ref q5, V.ref q6, V.ref q7, V.ref q8, V.ref q9, V.ref q10, V.ref q11, V.ref q12]) hac
    replace A6 := A6.updl (ys := [V.ref q1, V.ref q2, V.ref q3, V.ref q4, V.ref q5, V.ref q6, V.ref q7, V.ref q8, V.ref q9, V.ref q10, V.ref q11, V.ref q12]) hac
    replace A7 := A7.updl (ys := [V.ref q1, V.ref q2, V.ref q3, V.ref q4, V.ref q5, V.ref q6, V.ref q7, V.ref q8, V.ref q9, V.ref q10, V.ref q11, V.ref q12]) hac
    replace A8 := A8.updl (ys := [V.ref q1, V.ref q2, V.ref q3, V.ref q4, V.ref q5, V.ref q6, V.ref q7, V.ref q8, V.ref q9, V.ref q10, V.ref q11, V.ref q12]) hac
    replace A9 := A9.updl (ys := [V.ref q1, V.ref q2, V.ref q3, V.ref q4, V.ref q5, V.ref q6, V.ref q7, V.ref q8, V.ref q9, V.ref q10, V.ref q11, V.ref q12]) hac
    replace A10 := A10.updl (ys := [V.ref q1, V.ref q2, V.ref q3, V.ref q4, V.ref q5, V.ref q6, V.ref q7, V.ref q8, V.ref q9, V.ref q10, V.ref q11, V.ref q12]) hac
    replace A11 := A11.updl (ys := [V.ref q1, V.ref q2, V.ref q3, V.ref q4, V.ref q5, V.ref q6, V.ref q7, V.ref q8, V.ref q9, V.ref q10, V.ref q11, V.ref q12]) hac
    replace A12 := A12.updl (ys := [V.ref q1, V.ref q2, V.ref q3, V.ref q4, V.ref q5, V.ref q6, V.ref q7, V.ref q8, V.ref q9, V.ref q10, V.ref q11, V.ref q12]) hac
    replace tabs := tabs_updl (ys := [V.ref q1, V.ref q2, V.ref q3, V.ref q4, V.ref q5, V.ref q6, V.ref q7, V.ref q8, V.ref q9, V.ref q10, V.ref q11, V.ref q12]) hac tbc
    replace X := extN_upd (o := .lst [V.ref q1, V.ref q2, V.ref q3, V.ref q4, V.ref q5, V.ref q6, V.ref q7, V.ref q8, V.ref q9, V.ref q10, V.ref q11, V.ref q12]) Xc off
    replace hal : upd Gc al (.lst [V.ref q1, V.ref q2, V.ref q3, V.ref q4, V.ref q5, V.ref q6, V.ref q7, V.ref q8, V.ref q9, V.ref q10, V.ref q11, V.ref q12]) al = some (.lst [V.ref q1, V.ref q2, V.ref q3, V.ref q4, V.ref q5, V.ref q6, V.ref q7, V.ref q8, V.ref q9, V.ref q10, V.ref q11, V.ref q12]) := upd_same
    clear Xc tbc hac Ec eb eGc eGb nq12 hq12 hd12 nd12 lam12 en tba nf
    show tSeq _ _ _ [_, _, _, _, _, _, _] (upd Gc al (.lst [V.ref q1, V.ref q2, V.ref q3, V.ref q4, V.ref q5, V.ref q6, V.ref q7, V.ref q8, V.ref q9, V.ref q10, V.ref q11, V.ref q12]))
    generalize upd Gc al (.lst [V.ref q1, V.ref q2, V.ref q3, V.ref q4, V.ref q5, V.ref q6, V.ref q7, V.ref q8, V.ref q9, V.ref q10, V.ref q11, V.ref q12]) = Gd at *
    refine ⟨_, rfl, .inl ⟨rfl, _, SqL.of hal⟩, tabs, fun f13 Ga en tba nf lam13 => ?_⟩
    refine ⟨slen rfl, ?_⟩
    (intro d13 nd13; generalize hGd13 : upd _ d13 _ = Gb; have eGb := exG hGd13 nd13; have hd13 := atG hGd13; clear hGd13)
    refine ⟨slen rfl, ?_⟩
    (intro q13 nq13; generalize hGq13 : upd _ q13 _ = Gc; have eGc := exG hGq13 nq13; have hq13 := atG hGq13; clear hGq13)
    have eb := ext eGb eGc
    have A13 := (AskB.mk hq13 (lam_mono eb lam13) (eGc _ _ hd13 : TwoS Gc d13 "witness" (.int 2)))
    have Ec := en.trans (LamX.ExtN.of eb)
    have A1 := A1.en Ec
    have A2 := A2.en Ec
    have A3 := A3.en Ec
    have A4 := A4.en Ec
    have A5 := A5.en Ec
    have A6 := A6.en Ec
    have A7 := A7.en Ec
    have A8 := A8.en Ec
    have A9 := A9.en Ec
    have A10 := A10.en Ec
    have A11 := A11.en Ec
    have A12 := A12.en Ec
    have hac := Ec _ _ hal (fun _ z => nomatch z)
    have tbc := tba.ext eb
    have Xc := X.trans Ec
    refine ⟨al, _, _, rfl, rfl, hac, (by show 12 < sizeLine; decide), ?_⟩
    replace A1 := A1.updl (ys := [V.ref q1, V.ref q2, V.ref q3, V.ref q4, V.ref q5, V.ref q6, V.ref q7, V.ref q8, V.ref q9, V.ref q10, V.ref q11, V.ref q12, V.ref q13]) hac
    replace A2 := A2.updl (ys := [V.ref q1, V.ref q2, V.ref q3, V.ref q4, V.ref q5, V.ref q6, V.ref q7, V.ref q8, V.ref q9, V.ref q10, V.ref q11, V.ref q12, V.ref q13]) hac
    replace A3 := A3.updl (ys := [V.ref q1, V.ref q2, V.ref q3, V.ref q4, V.ref q5, V.ref q6, V.ref q7, V.ref q8, V.ref q9, V.ref q10, V.ref q11, V.ref q12, V.ref q13]) hac
    replace A4 := A4.updl (ys := [V.ref q1, V.ref q2, V.ref q3, V.ref q4, V.ref q5, V.ref q6, V.ref q7, V.ref q8, V.ref q9, V.ref q10, V.ref q11, V.ref q12, V.ref q13]) hac
    replace A5 := A5.updl (ys := [V.ref q1, V.ref q2, V.ref q3, V.ref q4, V.ref q5, V.ref q6, V.ref q7, V.ref q8, V.ref q9, V.ref q10, V.ref q11, V.ref q12, V.ref q13]) hac
    replace A6 := A6.updl (ys := [V.ref q1, V.ref q2, V.ref q3, V.ref q4, V.ref q5, V.ref q6, V.ref q7, V.ref q8, V.ref q9, V.ref q10, V.ref q11, V.ref q12, V.ref q13]) hac
    replace A7 := A7.updl (ys := [V.ref q1, V.ref q2, V.ref q3, V.ref q4, V.ref q5, V.ref q6, V.ref q7, V.ref q8, V.ref q9, V.ref q10, V.ref q11, V.ref q12, V.ref q13]) hac
    replace A8 := A8.updl (ys := [V.ref q1, V.ref q2, V.ref q3, V.ref q4, V.ref q5, V.ref q6, V.ref q7, V.ref q8, V.ref q9, V.ref q10, V.ref q11, V.ref q12, V.ref q13]) hac
    replace A9 := A9.updl (ys := [V.ref q1, V.ref q2, V.ref q3, V.ref q4, V.ref q5, V.ref q6, V.ref q7, V.ref q8, V.ref q9, V.ref q10, V.ref q11, V.ref q12, V.ref q13]) hac
    replace A10 := A10.updl (ys := [V.ref q1, V.ref q2, V.ref q3, V.ref q4, V.ref q5, V.ref q6, V.ref q7, V.ref q8, V.ref q9, V.ref q10, V.ref q11, V.ref q12, V.ref q13]) hac
    replace A11 := A11.updl (ys := [V.ref q1, V.ref q2, V.ref q3, V.ref q4, V.ref q5, V.ref q6, V.ref q7, V.ref q8, V.ref q9, V.ref q10, V.ref q11, V.ref q12, V.ref q13]) hac
    replace A12 := A12.updl (ys := [V.ref q1, V.ref q2, V.ref q3, V.ref q4, V.ref q5, V.ref q6, V.ref q7, V.ref q8, V.ref q9, V.ref q10, V.ref q11, V.ref q12, V.ref q13]) hac
    replace A13 := A13.updl (ys := [V.ref q1, V.ref q2, V.ref q3, V.ref q4, V.ref q5, V.ref q6, V.ref q7, V.ref q8, V.ref q9, V.ref q10, V.ref q11, V.ref q12, V.ref q13]) hac
    replace tabs := tabs_updl (ys := [V.ref q1, V.ref q2, V.ref q3, V.ref q4, V.ref q5, V.ref q6, V.ref q7, V.ref q8, V.ref q9, V.ref q10, V.ref q11, V.ref q12, V.ref q13]) hac tbc
    replace X := extN_upd (o := .lst [V.ref q1, V.ref q2, V.ref q3, V.ref q4, V.ref q5, V.ref q6, V.ref q7, V.ref q8, V.ref q9, V.ref q10, V.ref q11, V.ref q12, V.ref q13]) Xc off
    replace hal : upd Gc al (.lst [V.ref q1, V.ref q2, V.ref q3, V.ref q4, V.ref q5, V.ref q6, V.ref q7, V.ref q8, V.ref q9, V.ref q10, V.ref q11, V.ref q12, V.ref q13]) al = some (.lst [V.ref q1, V.ref q2, V.ref q3, V.ref q4, V.ref q5, V.ref q6, V.ref q7, V.ref q8, V.ref q9, V.ref q10, V.ref q11, V.ref q12, V.ref q13]) := upd_same
    clear Xc tbc hac Ec eb eGc eGb nq13 hq13 hd13 nd13 lam13 en tba nf
    show tSeq _ _ _ [_, _, _, _, _, _, _] (upd Gc al (.lst [V.ref q1, V.ref q2, V.ref q3, V.ref q4, V.ref q5, V.ref q6, V.ref q7, V.ref q8, V.ref q9, V.ref q10, V.ref q11, V.ref q12, V.ref q13]))
    generalize upd Gc al (.lst [V.ref q1, V.ref q2, V.ref q3, V.ref q4, V.ref q5, V.ref q6, V.ref q7, V.ref q8, V.ref q9, V.ref q10, V.ref q11, V.ref q12, V.ref q13]) = Gd at *
    refine ⟨_, rfl, .inl ⟨rfl, _, SqL.of hal⟩, tabs, fun f14 Ga en tba nf lam14 => ?_⟩
    refine ⟨slen rfl, ?_⟩
    (intro d14 nd14; generalize hGd14 : upd _ d14 _ = Gb; have eGb := exG hGd14 nd14; have hd14 := atG hGd14; clear hGd14)
    refine ⟨slen rfl, ?_⟩
    (intro q14 nq14; generalize hGq14 : upd _ q14 _ = Gc; have eGc := exG hGq14 nq14; have hq14 := atG hGq14; clear hGq14)
    have eb := ext eGb eGc
    have A14 := (AskB.mk hq14 (lam_mono eb lam14) (eGc _ _ hd14 : TwoS Gc d14 "witness" (.int 3)))
    have Ec := en.trans (LamX.ExtN.of eb)
    have A1 := A1.en Ec
    have A2 := A2.en Ec
    have A3 := A3.en Ec
    have A4 := A4.en Ec
    have A5 := A5.en Ec
    have A6 := A6.en Ec
    have A7 := A7.en Ec
    have A8 := A8.en Ec
    have A9 := A9.en Ec
    have A10 := A10.en Ec
    have A11 := A11.en Ec
    have A12 := A12.en Ec
    have A13 := A13.en Ec
    have hac := Ec _ _ hal (fun _ z => nomatch z)
    have tbc := tba.ext eb
    have Xc := X.trans Ec
    refine ⟨al, _, _, rfl, rfl, hac, (by show 13 < sizeLine; decide), ?_⟩
    replace A1 := A1.updl (ys := [V.ref q1, V.ref q2, V.ref q3, V.ref q4, V.ref q5, V.ref q6, V.ref q7, V.ref q8, V.ref q9, V.ref q10, V.ref q11, V.ref q12, V.ref q13, V.ref q14]) hac
    replace A2 := A2.updl (ys := [V.ref q1, V.ref q2, V.ref q3, V.ref q4, V.ref q5, V.ref q6, V.ref q7, V.ref q8, V.ref q9, V.ref q10, V.ref q11, V.ref q12, V.ref q13, V.ref q14]) hac
    replace A3 := A3.updl (ys := [V.ref q1, V.ref q2, V.ref q3, V.ref q4, V.ref q5, V.ref q6, V.ref q7, V.ref q8, V.ref q9, V.ref q10, V.ref q11, V.ref q12, V.ref q13, V.ref q14]) hac
    replace A4 := A4.updl (ys := [V.ref q1, V.ref q2, V.ref q3, V.ref q4, V.ref q5, V.ref q6, V.ref q7, V.ref q8, V.ref q9, V.ref q10, V.ref q11, V.ref q12, V.ref q13, V.ref q14]) hac
    replace A5 := A5.updl (ys := [V.ref q1, V.ref q2, V.ref q3, V.ref q4, V.ref q5, V.ref q6, V.ref q7, V.ref q8, V.ref q9, V.ref q10, V.ref q11, V.ref q12, V.ref q13, V.ref q14]) hac
    replace A6 := A6.updl (ys := [V.ref q1, V.ref q2, V.ref q3, V.ref q4, V.ref q5, V.ref q6, V.ref q7, V.ref q8, V.ref q9, V.ref q10, V.ref q11, V.ref q12, V.ref q13, V.ref q14]) hac
    replace A7 := A7.updl (ys := [V.ref q1, V.ref q2, V.ref q3, V.ref q4, V.ref q5, V.ref q6, V.ref q7, V.ref q8, V.ref q9, V.ref q10, V.ref q11, V.ref q12, V.ref q13, V.ref q14]) hac
    replace A8 := A8.updl (ys := [V.ref q1, V.ref q2, V.ref q3, V.ref q4, V.ref q5, V.ref q6, V.ref q7, V.ref q8, V.ref q9, V.ref q10, V.ref q11, V.ref q12, V.ref q13, V.ref q14]) hac
    replace A9 := A9.updl (ys := [V.ref q1, V.ref q2, V.ref q3, V.ref q4, V.ref q5, V.ref q6, V.ref q7, V.ref q8, V.ref q9, V.ref q10, V.ref q11, V.ref q12, V.ref q13, V.ref q14]) hac
    replace A10 := A10.updl (ys := [V.ref q1, V.ref q2, V.ref q3, V.ref q4, V.ref q5, V.ref q6, V.ref q7, V.ref q8, V.ref q9, V.ref q10, V.ref q11, V.ref q12, V.ref q13, V.ref q14]) hac
    replace A11 := A11.updl (ys := [V.ref q1, V.ref q2, V.ref q3, V.ref q4, V.ref q5, V.ref q6, V.ref q7, V.ref q8, V.ref q9, V.ref q10, V.ref q11, V.ref q12, V.ref q13, V.ref q14]) hac
    replace A12 := A12.updl (ys := [V.ref q1, V.ref q2, V.ref q3, V.ref q4, V.ref q5, V.ref q6, V.ref q7, V.ref q8, V.ref q9, V.ref q10, V.ref q11, V.ref q12, V.ref q13, V.ref q14]) hac
    replace A13 := A13.updl (ys := [V.ref q1, V.ref q2, V.ref q3, V.ref q4, V.ref q5, V.ref q6, V.ref q7, V.ref q8, V.ref q9, V.ref q10, V.ref q11, V.ref q12, V.ref q13, V.ref q14]) hac
    replace A14 := A14.updl (ys := [V.ref q1, V.ref q2, V.ref q3, V.ref q4, V.ref q5, V.ref q6, V.ref q7, V.ref q8, V.ref q9, V.ref q10, V.ref q11, V.ref q12, V.ref q13, V.ref q14]) hac
    replace tabs := tabs_updl (ys := [V.ref q1, V.ref q2, V.ref q3, V.ref q4, V.ref q5, V.ref q6, V.ref q7, V.ref q8, V.ref q9, V.ref q10, V.ref q11, V.ref q12, V.ref q13, V.ref q14]) hac tbc
    replace X := extN_upd (o := .lst [V.ref q1, V.ref q2, V.ref q3, V.ref q4, V.ref q5, V.ref q6, V.ref q7, V.ref q8, V.ref q9, V.ref q10, V.ref q11, V.ref q12, V.ref q13, V.ref q14]) Xc off
    replace hal : upd Gc al (.lst [V.ref q1, V.ref q2, V.ref q3, V.ref q4, V.ref q5, V.ref q6, V.ref q7, V.ref q8, V.ref q9, V.ref q10, V.ref q11, V.ref q12, V.ref q13, V.ref q14]) al = some (.lst [V.ref q1, V.ref q2, V.ref q3, V.ref q4, V.ref q5, V.ref q6, V.ref q7, V.ref q8, V.ref q9, V.ref q10, V.ref q11, V.ref q12, V.ref q13, V.ref q14]) := upd_same
    clear Xc tbc hac Ec eb eGc eGb nq14 hq14 hd14 nd14 lam14 en tba nf
    show tSeq _ _ _ [_, _, _, _, _, _, _] (upd Gc al (.lst [V.ref q1, V.ref q2, V.ref q3, V.ref q4, V.ref q5, V.ref q6, V.ref q7, V.ref q8, V.ref q9, V.ref q10, V.ref q11, V.ref q12, V.ref q13, V.ref q14]))
    generalize upd Gc al (.lst [V.ref q1, V.ref q2, V.ref q3, V.ref q4, V.ref q5, V.ref q6, V.ref q7, V.ref q8, V.ref q9, V.ref q10, V.ref q11, V.ref q12, V.ref q13, V.ref q14]) = Gd at *
    refine ⟨_, rfl, .inl ⟨rfl, _, SqL.of hal⟩, tabs, fun f15 Ga en tba nf lam15 => ?_⟩
    refine ⟨slen rfl, ?_⟩
    (intro d15 nd15; generalize hGd15 : upd _ d15 _ = Gb; have eGb := exG hGd15 nd15; have hd15 := atG hGd15; clear hGd15)
    refine ⟨slen rfl, ?_⟩
    (intro q15 nq15; generalize hGq15 : upd _ q15 _ = Gc; have eGc := exG hGq15 nq15; have hq15 := atG hGq15; clear hGq15)
    have eb := ext eGb eGc
    have A15 := (AskB.mk hq15 (lam_mono eb lam15) (eGc _ _ hd15 : TwoS Gc d15 "witness" (.int 0)))
    have Ec := en.trans (LamX.ExtN.of eb)
    have A1 := A1.en Ec
    have A2 := A2.en Ec
    have A3 := A3.en Ec
    have A4 := A4.en Ec
    have A5 := A5.en Ec
    have A6 := A6.en Ec
    have A7 := A7.en Ec
    have A8 := A8.en Ec
    have A9 := A9.en Ec
    have A10 := A10.en Ec
    have A11 := A11.en Ec
    have A12 := A12.en Ec
    have A13 := A13.en Ec
    have A14 := A14.en Ec
    have hac := Ec _ _ hal (fun _ z => nomatch z)
    have tbc := tba.ext eb
    have Xc := X.trans Ec
    refine ⟨al, _, _, rfl, rfl, hac, (by show 14 < sizeLine; decide), ?_⟩
    replace A1 := A1.updl (ys := [V.ref q1, V.ref q2, V.ref q3, V.ref q4, V.ref q5, V.ref q6, V.ref q7, V.ref q8, V.ref q9, V.ref q10, V.ref q11, V.ref q12, V.ref q13, V.ref q14, V.ref q15]) hac
    replace A2 := A2.updl (ys := [V.ref q1, V.ref q2, V.ref q3, V.ref q4, V.ref q5, V.ref q6, V.ref q7, V.ref q8, V.ref q9, V.ref q10, V.ref q11, V.ref q12, V.ref q13, V.ref q14, V.ref q15]) hac
    replace A3 := A3.updl (ys := [V.ref q1, V.ref q2, V.ref q3, V.ref q4, V.ref q5, V.ref q6, V.ref q7, V.ref q8, V.ref q9, V.ref q10, V.ref q11, V.ref q12, V.ref q13, V.ref q14, V.ref q15]) hac
    replace A4 := A4.updl (ys := [V.ref q1, V.ref q2, V.ref q3, V.ref q4, V.ref q5, V.ref q6, V.ref q7, V.ref q8, V.ref q9, V.ref q10, V.ref q11, V.ref q12, V.ref q13, V.ref q14, V.ref q15]) hac
    replace A5 := A5.updl (ys := [V.ref q1, V.ref q2, V.ref q3, V.ref q4, V.ref q5, V.ref q6, V.ref q7, V.ref q8, V.ref q9, V.ref q10, V.ref q11, V.ref q12, V.ref q13, V.ref q14, V.ref q15]) hac
    replace A6 := A6.updl (ys := [V.ref q1, V.ref q2, V.ref q3, V.ref q4, V.ref q5, V.ref q6, V.ref q7, V.ref q8, V.ref q9, V.ref q10, V.ref q11, V.ref q12, V.ref q13, V.ref q14, V.ref q15]) hac
    replace A7 := A7.updl (ys := [V.ref q1, V.ref q2, V.ref q3, V.ref q4, V.ref q5, V.ref q6, V.ref q7, V.ref q8, V.ref q9, V.ref q10, V.ref q11, V.ref q12, V.ref q13, V.ref q14, V.ref q15]) hac
    replace A8 := A8.updl (ys := [V.ref q1, V.ref q2, V.ref q3, V.ref q4, V.ref q5, V.ref q6, V.ref q7, V.ref q8, V.ref q9, V.ref q10, V.ref q11, V.ref q12, V.ref q13, V.ref q14, V.ref q15]) hac
    replace A9 := A9.updl (ys := [V.ref q1, V.ref q2, V.ref q3, V.ref q4, V.ref q5, V.ref q6, V.ref q7, V.ref q8, V.ref q9, V.ref q10, V.ref q11, V.ref q12, V.ref q13, V.ref q14, V.ref q15]) hac
    replace A10 := A10.updl (ys := [V.ref q1, V.ref q2, V.ref q3, V.ref q4, V.ref q5, V.ref q6, V.ref q7, V.ref q8, V.ref q9, V.ref q10, V.ref q11, V.ref q12, V.ref q13, V.ref q14, V.ref q15]) hac
    replace A11 := A11.updl (ys := [V.ref q1, V.ref q2, V.ref q3, V.ref q4, V.ref q5, V.ref q6, V.ref q7, V.ref q8, V.ref q9, V.ref q10, V.ref q11, V.ref q12, V.ref q13, V.ref q14, V.ref q15]) hac
    replace A12 := A12.updl (ys := [V.ref q1, V.ref q2, V.ref q3, V.ref q4, V.ref q5, V.ref q6, V.ref q7, V.ref q8, V.ref q9, V.ref q10, V.ref q11, V.ref q12, V.ref q13, V.ref q14, V.ref q15]) hac
    replace A13 := A13.updl (ys := [V.ref q1, V.ref q2, V.ref q3, V.ref q4, V.ref q5, V.ref q6, V.ref q7, V.ref q8, V.ref q9, V.ref q10, V.ref q11, V.ref q12, V.ref q13, V.ref q14, V.ref q15]) hac
    replace A14 := A14.updl (ys := [V.ref q1, V.ref q2, V.ref q3, V.ref q4, V.ref q5, V.ref q6, V.ref q7, V.ref q8, V.ref q9, V.ref q10, V.ref q11, V.ref q12, V.ref q13, V.ref q14, V.ref q15]) hac
    replace A15 := A15.updl (ys := [V.ref q1, V.ref q2, V.ref q3, V.ref q4, V.ref q5, V.ref q6, V.ref q7, V.ref q8, V.ref q9, V.ref q10, V.ref q11, V.ref q12, V.ref q13, V.ref q14, V.ref q15]) hac
    replace tabs := tabs_updl (ys := [V.ref q1, V.ref q2, V.ref q3, V.ref q4, V.ref q5, V.ref q6, V.ref q7, V.ref q8, V.ref q9, V.ref q10, V.ref q11, V.ref q12, V.ref q13, V.ref q14, V.ref q15]) hac tbc
    replace X := extN_upd (o := .lst [V.ref q1, V.ref q2, V.ref q3, V.ref q4, V.ref q5, V.ref q6, V.ref q7, V.ref q8, V.ref q9, V.ref q10, V.ref q11, V.ref q12, V.ref q13, V.ref q14, V.ref q15]) Xc off
    replace hal : upd Gc al (.lst [V.ref q1, V.ref q2, V.ref q3, V.ref q4, V.ref q5, V.ref q6, V.ref q7, V.ref q8, V.ref q9, V.ref q10, V.ref q11, V.ref q12, V.ref q13, V.ref q14, V.ref q15]) al = some (.lst [V.ref q1, V.ref q2, V.ref q3, V.ref q4, V.ref q5, V.ref q6, V.ref q7, V.ref q8, V.ref q9, V.ref q10, V.ref q11, V.ref q12, V.ref q13, V.ref q14, V.ref q15]) := upd_same
    clear Xc tbc hac Ec eb eGc eGb nq15 hq15 hd15 nd15 lam15 en tba nf
    show tSeq _ _ _ [_, _, _, _, _, _, _] (upd Gc al (.lst [V.ref q1, V.ref q2, V.ref q3, V.ref q4, V.ref q5, V.ref q6, V.ref q7, V.ref q8, V.ref q9, V.ref q10, V.ref q11, V.ref q12, V.ref q13, V.ref q14, V.ref q15]))
    generalize upd Gc al (.lst [V.ref q1, V.ref q2, V.ref q3, V.ref q4, V.ref q5, V.ref q6, V.ref q7, V.ref q8, V.ref q9, V.ref q10, V.ref q11, V.ref q12, V.ref q13, V.ref q14, V.ref q15]) = Gd at *
    refine ⟨_, rfl, .inl ⟨rfl, _, SqL.of hal⟩, tabs, fun f16 Ga en tba nf lam16 => ?_⟩
    refine ⟨slen rfl, ?_⟩
    (intro d16 nd16; generalize hGd16 : upd _ d16 _ = Gb; have eGb := exG hGd16 nd16; have hd16 := atG hGd16; clear hGd16)
    refine ⟨slen rfl, ?_⟩
    (intro q16 nq16; generalize hGq16 : upd _ q16 _ = Gc; have eGc := exG hGq16 nq16; have hq16 := atG hGq16; clear hGq16)
    have eb := ext eGb eGc
    have A16 := (AskB.mk hq16 (lam_mono eb lam16) (eGc _ _ hd16 : TwoS Gc d16 "witness" (.int 1)))
    have Ec := en.trans (LamX.ExtN.of eb)
    have A1 := A1.en Ec
    have A2 := A2.en Ec
    have A3 := A3.en Ec
    have A4 := A4.en Ec
    have A5 := A5.en Ec
    have A6 := A6.en Ec
    have A7 := A7.en Ec
    have A8 := A8.en Ec
    have A9 := A9.en Ec
    have A10 := A10.en Ec
    have A11 := A11.en Ec
    have A12 := A12.en Ec
    have A13 := A13.en Ec
    have A14 := A14.en Ec
    have A15 := A15.en Ec
    have hac := Ec _ _ hal (fun _ z => nomatch z)
    have tbc := tba.ext eb
    have Xc := X.trans Ec
    refine ⟨al, _, _, rfl, rfl, hac, (by show 15 < sizeLine; decide), ?_⟩
    replace A1 := A1.updl (ys := [V.ref q1, V.ref q2, V.ref q3, V.ref q4, V.ref q5, V.ref q6, V.ref q7, V.ref q8, V.ref q9, V.ref q10, V.ref q11, V.ref q12, V.ref q13, V.ref q14, V.ref q15, V.ref q16]) hac
    replace A2 := A2.updl (ys := [V.ref q1, V.ref q2, V.ref q3, V.ref q4, V.ref q5, V.ref q6, V.ref q7, V.ref q8, V.ref q9, V.ref q10, V.ref q11, V.ref q12, V.ref q13, V.ref q14, V.ref q15, V.ref q16]) hac
    replace A3 := A3.updl (ys := [V.ref q1, V.ref q2, V.ref q3, V.ref q4, V.ref q5, V.ref q6, V.ref q7, V.ref q8, V.ref q9, V.ref q10, V.ref q11, V.ref q12, V.ref q13, V.ref q14, V.ref q15, V.ref q16]) hac
    replace A4 := A4.updl (ys := [V.ref q1, V.ref q2, V.ref q3, V.ref q4, V.ref q5, V.ref q6, V.ref q7, V.ref q8, V.ref q9, V.ref q10, V.ref q11, V.ref q12, V.ref q13, V.ref q14, V.ref q15, V.ref q16]) hac
    replace A5 := A5.updl (ys := [V.ref q1, V.ref q2, V.ref q3, V.ref q4, V.ref q5, V.ref q6, V.ref q7, V.ref q8, V.ref q9, V.ref q10, V.ref q11, V.ref q12, V.ref q13, V.ref q14, V.ref q15, V.ref q16]) hac
    replace A6 := A6.updl (ys := [V.ref q1, V.ref q2, V.ref q3, V.ref q4, V.ref q5, V.ref q6, V.ref q7, V.ref q8, V.ref q9, V.ref q10, V.ref q11, V.ref q12, V.ref q13, V.ref q14, V.ref q15, V.ref q16]) hac
    replace A7 := A7.updl (ys := [V.ref q1, V.ref q2, V.ref q3, V.ref q4, V.ref q5, V.ref q6, V.ref q7, V.ref q8, V.ref q9, V.ref q10, V.ref q11, V.ref q12, V.ref q13, V.ref q14, V.ref q15, V.ref q16]) hac
    replace A8 := A8.updl (ys := [V.ref q1, V.ref q2, V.ref q3, V.ref q4, V.ref q5, V.ref q6, V.ref q7, V.ref q8, V.ref q9, V.ref q10, V.ref q11, V.ref q12, V.ref q13, V.ref q14, V.ref q15, V.ref q16]) hac
    replace A9 := A9.updl (ys := [V.ref q1, V.ref q2, V.ref q3, V.ref q4, V.ref q5, V.ref q6, V.ref q7, V.ref q8, V.ref q9, V.ref q10, V.ref q11, V.ref q12, V.ref q13, V.ref q14, V.ref q15, V.ref q16]) hac
    replace A10 := A10.updl (ys := [V.ref q1, V.ref q2, V.ref q3, V.ref q4, V.ref q5, V.ref q6, V.ref q7, V.ref q8, V.ref q9, V.ref q10, V.ref q11, V.ref q12, V.ref q13, V.ref q14, V.ref q15, V.ref q16]) hac
    replace A11 := A11.updl (ys := [V.ref q1, V.ref q2, V.ref q3, V.ref q4, V.ref q5, V.ref q6, V.ref q7, V.ref q8, V.ref q9, V.ref q10, V.ref q11, V.ref q12, V.ref q13, V.ref q14, V.ref q15, V.ref q16]) hac
    replace A12 := A12.updl (ys := [V.ref q1, V.ref q2, V.ref q3, V.ref q4, V.ref q5, V.ref q6, V.ref q7, V.ref q8, V.ref q9, V.ref q10, V.ref q11, V.ref q12, V.ref q13, V.ref q14, V.ref q15, V.ref q16]) hac
    replace A13 := A13.updl (ys := [V.ref q1, V.ref q2, V.ref q3, V.ref q4, V.ref q5, V.ref q6, V.ref q7, V.ref q8, V.ref q9, V.ref q10, V.ref q11, V.ref q12, V.ref q13, V.ref q14, V.ref q15, V.ref q16]) hac
    replace A14 := A14.updl (ys := [V.ref q1, V.ref q2, V.ref q3, V.ref q4, V.ref q5, V.ref q6, V.ref q7, V.ref q8, V.ref q9, V.ref q10, V.ref q11, V.ref q12, V.ref q13, V.ref q14, V.ref q15, V.ref q16]) hac
    replace A15 := A15.updl (ys := [V.ref q1, V.ref q2, V.ref q3, V.ref q4, V.ref q5, V.ref q6, V.ref q7, V.ref q8, V.ref q9, V.ref q10, V.ref q11, V.ref q12, V.ref q13, V.ref q14, V.ref q15, V.ref q16]) hac
    replace A16 := A16.updl (ys := [V.ref q1, V.ref q2, V.ref q3, V.ref q4, V.ref q5, V.ref q6, V.ref q7, V.ref q8, V.ref q9, V.ref q10, V.ref q11, V.ref q12, V.ref q13, V.ref q14, V.ref q15, V.ref q16]) hac
    replace tabs := tabs_updl (ys := [V.ref q1, V.ref q2, V.ref q3, V.ref q4, V.ref q5, V.ref q6, V.ref q7, V.ref q8, V.ref q9, V.ref q10, V.ref q11, V.ref q12, V.ref q13, V.ref q14, V.ref q15, V.ref q16]) hac tbc
    replace X := extN_upd (o := .lst [V.ref q1, V.ref q2, V.ref q3, V.ref q4, V.ref q5, V.ref q6, V.ref q7, V.ref q8, V.ref q9, V.ref q10, V.ref q11, V.ref q12, V.ref q13, V.ref q14, V.ref q15, V.ref q16]) Xc off
    replace hal : upd Gc al (.lst [V.ref q1, V.ref q2, V.ref q3, V.ref q4, V.ref q5, V.ref q6, V.ref q7, V.ref q8, V.ref q9, V.ref q10, V.ref q11, V.ref q12, V.ref q13, V.ref q14, V.ref q15, V.ref q16]) al = some (.lst [V.ref q1, V.ref q2, V.ref q3, V.ref q4, V.ref q5, V.ref q6, V.ref q7, V.ref q8, V.ref q9, V.ref q10, V.ref q11, V.ref q12, V.ref q13, V.ref q14, V.ref q15, V.ref q16]) := upd_same
    clear Xc tbc hac Ec eb eGc eGb nq16 hq16 hd16 nd16 lam16 en tba nf
    dsimp only [List.cons_append, List.nil_append]
    generalize upd Gc al (.lst [V.ref q1, V.ref q2, V.ref q3, V.ref q4, V.ref q5, V.ref q6, V.ref q7, V.ref q8, V.ref q9, V.ref q10, V.ref q11, V.ref q12, V.ref q13, V.ref q14, V.ref q15, V.ref q16]) = Gd at *
    refine ⟨_, rfl, al, rfl, ⟨_, SqL.of hal⟩, fun D hD => ?_⟩
    refine lc_new Pd3 pd3_mono (walk_list (xs := [V.ref q1, V.ref q2, V.ref q3, V.ref q4, V.ref q5, V.ref q6, V.ref q7, V.ref q8, V.ref q9, V.ref q10, V.ref q11, V.ref q12, V.ref q13, V.ref q14, V.ref q15, V.ref q16])) [.tuple [.str "large", .int 2000], .tuple [.str "number", .str "place"], .tuple [.str "large", .int 2000], .tuple [.str "number", .str "calls"], .tuple [.str "large", .int 40], .tuple [.str "returned", .none], .tuple [.str "large", .int 1000], .tuple [.str "returned", .none], .tuple [.str "number", .str "second"], .tuple [.str "number", .str "second"], .tuple [.str "witness", .int 2], .tuple [.str "witness", .int 2], .tuple [.str "witness", .int 2], .tuple [.str "witness", .int 3], .tuple [.str "witness", .int 0], .tuple [.str "witness", .int 1]] rfl (by show 16 ≤ 10000000; decide) hD (fun Hx e => SqL.of (e _ _ hal)) ?_ ?_ ?_
    · rintro i x av Hx Hy R hia ex ⟨rfl, hx⟩ kk
      have i6 : i = 0 ∨ i = 1 ∨ i = 2 ∨ i = 3 ∨ i = 4 ∨ i = 5 ∨ i = 6 ∨ i = 7 ∨ i = 8 ∨ i = 9 ∨ i = 10 ∨ i = 11 ∨ i = 12 ∨ i = 13 ∨ i = 14 ∨ i = 15 := by
        have := (List.getElem?_eq_some_iff.mp hx).1
        have : i < 16 := this
        omega
      rcases i6 with rfl | rfl | rfl | rfl | rfl | rfl | rfl | rfl | rfl | rfl | rfl | rfl | rfl | rfl | rfl | rfl
      · obtain rfl := Option.some.inj hx
        obtain rfl := Option.some.inj hia
        have B := A1.en (.of ex)
        refine ⟨q1, _, rfl, SqT.of B.at_, rfl, _, _, rfl, _, _, rfl, rfl, rfl, _, rfl, f1, _, rfl, B.lam, ?_⟩
        refine ⟨_, rfl, slen rfl, ?_⟩
        (intro gl ngl; generalize hGgl : upd _ gl _ = Hz; have eHz := exG hGgl ngl; have hgl := atG hGgl; clear hGgl)
        exact lr1 far1 hgl fun G r e t => kk _ G (ext eHz e) ⟨r, rfl, "large", .int 2000, .int 2000, t, rfl, sk_of _, .inr (.inl ⟨_, rfl, rfl⟩)⟩
      · obtain rfl := Option.some.inj hx
        obtain rfl := Option.some.inj hia
        have B := A2.en (.of ex)
        refine ⟨q2, _, rfl, SqT.of B.at_, rfl, _, _, rfl, _, _, rfl, rfl, rfl, _, rfl, f2, _, rfl, B.lam, ?_⟩
        refine ⟨_, rfl, slen rfl, ?_⟩
        (intro gl ngl; generalize hGgl : upd _ gl _ = Hz; have eHz := exG hGgl ngl; have hgl := atG hGgl; clear hGgl)
        refine ⟨_, rfl, ?_⟩
        exact lr2 far1 hgl fun G r e t => kk _ G (ext eHz e) ⟨r, rfl, "number", .str "place", .str "place", t, rfl, sk_of _, .inl ⟨_, rfl, rfl, sk_of _⟩⟩
      · obtain rfl := Option.some.inj hx
        obtain rfl := Option.some.inj hia
        have B := A3.en (.of ex)
        refine ⟨q3, _, rfl, SqT.of B.at_, rfl, _, _, rfl, _, _, rfl, rfl, rfl, _, rfl, f3, _, rfl, B.lam, ?_⟩
        refine ⟨_, rfl, slen rfl, ?_⟩
        (intro gl ngl; generalize hGgl : upd _ gl _ = Hz; have eHz := exG hGgl ngl; have hgl := atG hGgl; clear hGgl)
        refine ⟨_, rfl, ?_⟩
        exact lr3 far1 deep1 hgl fun G r e t => kk _ G (ext eHz e) ⟨r, rfl, "large", .int 2000, .int 2000, t, rfl, sk_of _, .inr (.inl ⟨_, rfl, rfl⟩)⟩
      · obtain rfl := Option.some.inj hx
        obtain rfl := Option.some.inj hia
        have B := A4.en (.of ex)
        refine ⟨q4, _, rfl, SqT.of B.at_, rfl, _, _, rfl, _, _, rfl, rfl, rfl, _, rfl, f4, _, rfl, B.lam, ?_⟩
        refine ⟨_, rfl, slen rfl, ?_⟩
        (intro gl ngl; generalize hGgl : upd _ gl _ = Hz; have eHz := exG hGgl ngl; have hgl := atG hGgl; clear hGgl)
        refine ⟨_, rfl, ?_⟩
        exact lr4 far1 hgl fun G r e t => kk _ G (ext eHz e) ⟨r, rfl, "number", .str "calls", .str "calls", t, rfl, sk_of _, .inl ⟨_, rfl, rfl, sk_of _⟩⟩
      · obtain rfl := Option.some.inj hx
        obtain rfl := Option.some.inj hia
        have B := A5.en (.of ex)
        refine ⟨q5, _, rfl, SqT.of B.at_, rfl, _, _, rfl, _, _, rfl, rfl, rfl, _, rfl, f5, _, rfl, B.lam, ?_⟩
        refine ⟨slen rfl, ?_⟩
        (intro gl ngl; generalize hGgl : upd _ gl _ = Hz; have eHz := exG hGgl ngl; have hgl := atG hGgl; clear hGgl)
        refine ⟨_, rfl, ?_⟩
        exact lr5 deep1 hgl fun G r e t => kk _ G (ext eHz e) ⟨r, rfl, "large", .int 40, .int 40, t, rfl, sk_of _, .inr (.inl ⟨_, rfl, rfl⟩)⟩
      · obtain rfl := Option.some.inj hx
        obtain rfl := Option.some.inj hia
        have B := A6.en (.of ex)
        refine ⟨q6, _, rfl, SqT.of B.at_, rfl, _, _, rfl, _, _, rfl, rfl, rfl, _, rfl, f6, _, rfl, B.lam, ?_⟩
        refine ⟨slen rfl, ?_⟩
        (intro gl ngl; generalize hGgl : upd _ gl _ = Hz; have eHz := exG hGgl ngl; have hgl := atG hGgl; clear hGgl)
        exact lr6 hgl fun G r e t => kk _ G (ext eHz e) ⟨r, rfl, "returned", .non, .none, t, rfl, sk_of _, .inr (.inr ⟨rfl, rfl⟩)⟩
      · obtain rfl := Option.some.inj hx
        obtain rfl := Option.some.inj hia
        have B := A7.en (.of ex)
        refine ⟨q7, _, rfl, SqT.of B.at_, rfl, _, _, rfl, _, _, rfl, rfl, rfl, _, rfl, f7, _, rfl, B.lam, ?_⟩
        refine ⟨_, rfl, slen rfl, ?_⟩
        (intro gl ngl; generalize hGgl : upd _ gl _ = Hz; have eHz := exG hGgl ngl; have hgl := atG hGgl; clear hGgl)
        refine ⟨_, rfl, ?_⟩
        exact lr7 far1 vast1 hgl fun G r e t => kk _ G (ext eHz e) ⟨r, rfl, "large", .int 1000, .int 1000, t, rfl, sk_of _, .inr (.inl ⟨_, rfl, rfl⟩)⟩
      · obtain rfl := Option.some.inj hx
        obtain rfl := Option.some.inj hia
        have B := A8.en (.of ex)
        refine ⟨q8, _, rfl, SqT.of B.at_, rfl, _, _, rfl, _, _, rfl, rfl, rfl, _, rfl, f8, _, rfl, B.lam, ?_⟩
        refine ⟨_, rfl, slen rfl, ?_⟩
        (intro gl ngl; generalize hGgl : upd _ gl _ = Hz; have eHz := exG hGgl ngl; have hgl := atG hGgl; clear hGgl)
        refine ⟨_, _, rfl, rfl, ⟨by decide, by decide +kernel⟩, slen rfl, ?_⟩
        (intro sl nsl; generalize hGsl : upd _ sl _ = Hw; have eHw := exG hGsl nsl; have hsl := atG hGsl; clear hGsl)
        exact lr8 (by decide +kernel) far1 fb (eHw _ _ hgl) hsl fun G r e t => kk _ G (ext (ext eHz eHw) e) ⟨r, rfl, "returned", .non, .none, t, rfl, sk_of _, .inr (.inr ⟨rfl, rfl⟩)⟩
      · obtain rfl := Option.some.inj hx
        obtain rfl := Option.some.inj hia
        have B := A9.en (.of ex)
        refine ⟨q9, _, rfl, SqT.of B.at_, rfl, _, _, rfl, _, _, rfl, rfl, rfl, _, rfl, f9, _, rfl, B.lam, ?_⟩
        refine ⟨_, rfl, ?_⟩
        exact lr9 far1 fun G r e t => kk _ G (ext exr e) ⟨r, rfl, "number", .str "second", .str "second", t, rfl, sk_of _, .inl ⟨_, rfl, rfl, sk_of _⟩⟩
      · obtain rfl := Option.some.inj hx
        obtain rfl := Option.some.inj hia
        have B := A10.en (.of ex)
        refine ⟨q10, _, rfl, SqT.of B.at_, rfl, _, _, rfl, _, _, rfl, rfl, rfl, _, rfl, f10, _, rfl, B.lam, ?_⟩
        exact lr10 fun G r e t => kk _ G (ext exr e) ⟨r, rfl, "number", .str "second", .str "second", t, rfl, sk_of _, .inl ⟨_, rfl, rfl, sk_of _⟩⟩
      · obtain rfl := Option.some.inj hx
        obtain rfl := Option.some.inj hia
        have B := A11.en (.of ex)
        refine ⟨q11, _, rfl, SqT.of B.at_, rfl, _, _, rfl, _, _, rfl, rfl, rfl, _, rfl, f11, _, rfl, B.lam, ?_⟩
        refine ⟨slen rfl, ?_⟩
        (intro gl ngl; generalize hGgl : upd _ gl _ = Hz; have eHz := exG hGgl ngl; have hgl := atG hGgl; clear hGgl)
        refine ⟨slen rfl, ?_⟩
        (intro sl nsl; generalize hGsl : upd _ sl _ = Hw; have eHw := exG hGsl nsl; have hsl := atG hGsl; clear hGsl)
        exact lr_cfs (eHw _ _ hgl) hsl (.cons (.int 1) (.cons (.int 0) .nil)) (cfs_ints (by decide) (by decide) (by decide) (by decide) (.inl ⟨.inl (by decide), rfl⟩)) fun G r e t => kk _ G (ext (ext eHz eHw) e) ⟨r, rfl, "witness", .int 2, .int 2, t, rfl, sk_of _, .inr (.inl ⟨_, rfl, rfl⟩)⟩
      · obtain rfl := Option.some.inj hx
        obtain rfl := Option.some.inj hia
        have B := A12.en (.of ex)
        refine ⟨q12, _, rfl, SqT.of B.at_, rfl, _, _, rfl, _, _, rfl, rfl, rfl, _, rfl, f12, _, rfl, B.lam, ?_⟩
        refine ⟨slen rfl, ?_⟩
        (intro gl ngl; generalize hGgl : upd _ gl _ = Hz; have eHz := exG hGgl ngl; have hgl := atG hGgl; clear hGgl)
        refine ⟨slen rfl, ?_⟩
        (intro sl nsl; generalize hGsl : upd _ sl _ = Hw; have eHw := exG hGsl nsl; have hsl := atG hGsl; clear hGsl)
        exact lr_cfs (eHw _ _ hgl) hsl (.cons (.int 5) (.cons (.int 1) .nil)) (cfs_ints (by decide) (by decide) (by decide) (by decide) (.inl ⟨.inr (by decide +kernel), rfl⟩)) fun G r e t => kk _ G (ext (ext eHz eHw) e) ⟨r, rfl, "witness", .int 2, .int 2, t, rfl, sk_of _, .inr (.inl ⟨_, rfl, rfl⟩)⟩
      · obtain rfl := Option.some.inj hx
        obtain rfl := Option.some.inj hia
        have B := A13.en (.of ex)
        refine ⟨q13, _, rfl, SqT.of B.at_, rfl, _, _, rfl, _, _, rfl, rfl, rfl, _, rfl, f13, _, rfl, B.lam, ?_⟩
        refine ⟨slen rfl, ?_⟩
        (intro gl ngl; generalize hGgl : upd _ gl _ = Hz; have eHz := exG hGgl ngl; have hgl := atG hGgl; clear hGgl)
        refine ⟨slen rfl, ?_⟩
        (intro sl nsl; generalize hGsl : upd _ sl _ = Hw; have eHw := exG hGsl nsl; have hsl := atG hGsl; clear hGsl)
        exact lr_cfs (eHw _ _ hgl) hsl (.cons (.int 0) (.cons (.int 0) .nil)) (cfs_ints (by decide) (by decide) (by decide) (by decide) (.inl ⟨.inl (by decide), rfl⟩)) fun G r e t => kk _ G (ext (ext eHz eHw) e) ⟨r, rfl, "witness", .int 2, .int 2, t, rfl, sk_of _, .inr (.inl ⟨_, rfl, rfl⟩)⟩
      · obtain rfl := Option.some.inj hx
        obtain rfl := Option.some.inj hia
        have B := A14.en (.of ex)
        refine ⟨q14, _, rfl, SqT.of B.at_, rfl, _, _, rfl, _, _, rfl, rfl, rfl, _, rfl, f14, _, rfl, B.lam, ?_⟩
        refine ⟨slen rfl, ?_⟩
        (intro gl ngl; generalize hGgl : upd _ gl _ = Hz; have eHz := exG hGgl ngl; have hgl := atG hGgl; clear hGgl)
        refine ⟨slen rfl, ?_⟩
        (intro sl nsl; generalize hGsl : upd _ sl _ = Hw; have eHw := exG hGsl nsl; have hsl := atG hGsl; clear hGsl)
        exact lr_cfs (eHw _ _ hgl) hsl (.cons (.int 4) (.cons (.int 4) .nil)) (cfs_ints (by decide) (by decide) (by decide) (by decide) (.inr ⟨by decide, by decide +kernel, by decide +kernel⟩)) fun G r e t => kk _ G (ext (ext eHz eHw) e) ⟨r, rfl, "witness", .int 3, .int 3, t, rfl, sk_of _, .inr (.inl ⟨_, rfl, rfl⟩)⟩
      · obtain rfl := Option.some.inj hx
        obtain rfl := Option.some.inj hia
        have B := A15.en (.of ex)
        refine ⟨q15, _, rfl, SqT.of B.at_, rfl, _, _, rfl, _, _, rfl, rfl, rfl, _, rfl, f15, _, rfl, B.lam, ?_⟩
        refine ⟨slen rfl, ?_⟩
        (intro gl ngl; generalize hGgl : upd _ gl _ = Hz; have eHz := exG hGgl ngl; have hgl := atG hGgl; clear hGgl)
        refine ⟨_, rfl, slen rfl, ?_⟩
        (intro sl nsl; generalize hGsl : upd _ sl _ = Hw; have eHw := exG hGsl nsl; have hsl := atG hGsl; clear hGsl)
        exact lr_cfs (eHw _ _ hgl) hsl (.cons (.int (-1)) (.cons (.bl true) .nil)) (.inl rfl) fun G r e t => kk _ G (ext (ext eHz eHw) e) ⟨r, rfl, "witness", .int 0, .int 0, t, rfl, sk_of _, .inr (.inl ⟨_, rfl, rfl⟩)⟩
      · obtain rfl := Option.some.inj hx
        obtain rfl := Option.some.inj hia
        have B := A16.en (.of ex)
        refine ⟨q16, _, rfl, SqT.of B.at_, rfl, _, _, rfl, _, _, rfl, rfl, rfl, _, rfl, f16, _, rfl, B.lam, ?_⟩
        refine ⟨slen rfl, ?_⟩
        (intro gl ngl; generalize hGgl : upd _ gl _ = Hz; have eHz := exG hGgl ngl; have hgl := atG hGgl; clear hGgl)
        refine ⟨slen rfl, ?_⟩
        (intro sl nsl; generalize hGsl : upd _ sl _ = Hw; have eHw := exG hGsl nsl; have hsl := atG hGsl; clear hGsl)
        exact lr_cfs (eHw _ _ hgl) hsl (.cons (.int 9) (.cons (.bl false) .nil)) (.inl rfl) fun G r e t => kk _ G (ext (ext eHz eHw) e) ⟨r, rfl, "witness", .int 1, .int 1, t, rfl, sk_of _, .inr (.inl ⟨_, rfl, rfl⟩)⟩
    · exact gmono_tup (gmono_cons gmono_name (gmono_cons gmono_name gmono_nil))
    intro Hd ys ed hyd pd
    refine ⟨_, rfl, al, rfl, ⟨_, SqL.of (ed _ _ hal)⟩, fun D2 hD2 => ?_⟩
    refine lc_new Pd3 pd3_mono (walk_list (xs := [V.ref q1, V.ref q2, V.ref q3, V.ref q4, V.ref q5, V.ref q6, V.ref q7, V.ref q8, V.ref q9, V.ref q10, V.ref q11, V.ref q12, V.ref q13, V.ref q14, V.ref q15, V.ref q16])) [.tuple [.str "large", .int 2000], .tuple [.str "number", .str "place"], .tuple [.str "large", .int 2000], .tuple [.str "number", .str "calls"], .tuple [.str "large", .int 40], .tuple [.str "returned", .none], .tuple [.str "large", .int 1000], .tuple [.str "returned", .none], .tuple [.str "number", .str "second"], .tuple [.str "number", .str "second"], .tuple [.str "witness", .int 2], .tuple [.str "witness", .int 2], .tuple [.str "witness", .int 2], .tuple [.str "witness", .int 3], .tuple [.str "witness", .int 0], .tuple [.str "witness", .int 1]] rfl (by show 16 ≤ 10000000; decide) hD2 (fun Hx e => SqL.of (e _ _ (ed _ _ hal))) ?_ ?_ ?_
    · rintro i x av Hx Hy R hia ex ⟨rfl, hx⟩ kk
      have i6 : i = 0 ∨ i = 1 ∨ i = 2 ∨ i = 3 ∨ i = 4 ∨ i = 5 ∨ i = 6 ∨ i = 7 ∨ i = 8 ∨ i = 9 ∨ i = 10 ∨ i = 11 ∨ i = 12 ∨ i = 13 ∨ i = 14 ∨ i = 15 := by
        have := (List.getElem?_eq_some_iff.mp hx).1
        have : i < 16 := this
        omega
      have ey := ext ed ex
      rcases i6 with rfl | rfl | rfl | rfl | rfl | rfl | rfl | rfl | rfl | rfl | rfl | rfl | rfl | rfl | rfl | rfl
      · obtain rfl := Option.some.inj hx
        obtain rfl := Option.some.inj hia
        exact ⟨q1, _, rfl, SqT.of (ey _ _ A1.at_), rfl, _, _, rfl, _, _, rfl, rfl, rfl, _, rfl, kk _ _ exr ⟨d1, rfl, "large", .int 2000, .int 2000, ey _ _ A1.two, rfl, sk_of _, .inr (.inl ⟨_, rfl, rfl⟩)⟩⟩
      · obtain rfl := Option.some.inj hx
        obtain rfl := Option.some.inj hia
        exact ⟨q2, _, rfl, SqT.of (ey _ _ A2.at_), rfl, _, _, rfl, _, _, rfl, rfl, rfl, _, rfl, kk _ _ exr ⟨d2, rfl, "number", .str "place", .str "place", ey _ _ A2.two, rfl, sk_of _, .inl ⟨_, rfl, rfl, sk_of _⟩⟩⟩
      · obtain rfl := Option.some.inj hx
        obtain rfl := Option.some.inj hia
        exact ⟨q3, _, rfl, SqT.of (ey _ _ A3.at_), rfl, _, _, rfl, _, _, rfl, rfl, rfl, _, rfl, kk _ _ exr ⟨d3, rfl, "large", .int 2000, .int 2000, ey _ _ A3.two, rfl, sk_of _, .inr (.inl ⟨_, rfl, rfl⟩)⟩⟩
      · obtain rfl := Option.some.inj hx
        obtain rfl := Option.some.inj hia
        exact ⟨q4, _, rfl, SqT.of (ey _ _ A4.at_), rfl, _, _, rfl, _, _, rfl, rfl, rfl, _, rfl, kk _ _ exr ⟨d4, rfl, "number", .str "calls", .str "calls", ey _ _ A4.two, rfl, sk_of _, .inl ⟨_, rfl, rfl, sk_of _⟩⟩⟩
      · obtain rfl := Option.some.inj hx
        obtain rfl := Option.some.inj hia
        exact ⟨q5, _, rfl, SqT.of (ey _ _ A5.at_), rfl, _, _, rfl, _, _, rfl, rfl, rfl, _, rfl, kk _ _ exr ⟨d5, rfl, "large", .int 40, .int 40, ey _ _ A5.two, rfl, sk_of _, .inr (.inl ⟨_, rfl, rfl⟩)⟩⟩
      · obtain rfl := Option.some.inj hx
        obtain rfl := Option.some.inj hia
        exact ⟨q6, _, rfl, SqT.of (ey _ _ A6.at_), rfl, _, _, rfl, _, _, rfl, rfl, rfl, _, rfl, kk _ _ exr ⟨d6, rfl, "returned", .non, .none, ey _ _ A6.two, rfl, sk_of _, .inr (.inr ⟨rfl, rfl⟩)⟩⟩
      · obtain rfl := Option.some.inj hx
        obtain rfl := Option.some.inj hia
        exact ⟨q7, _, rfl, SqT.of (ey _ _ A7.at_), rfl, _, _, rfl, _, _, rfl, rfl, rfl, _, rfl, kk _ _ exr ⟨d7, rfl, "large", .int 1000, .int 1000, ey _ _ A7.two, rfl, sk_of _, .inr (.inl ⟨_, rfl, rfl⟩)⟩⟩
      · obtain rfl := Option.some.inj hx
        obtain rfl := Option.some.inj hia
        exact ⟨q8, _, rfl, SqT.of (ey _ _ A8.at_), rfl, _, _, rfl, _, _, rfl, rfl, rfl, _, rfl, kk _ _ exr ⟨d8, rfl, "returned", .non, .none, ey _ _ A8.two, rfl, sk_of _, .inr (.inr ⟨rfl, rfl⟩)⟩⟩
      · obtain rfl := Option.some.inj hx
        obtain rfl := Option.some.inj hia
        exact ⟨q9, _, rfl, SqT.of (ey _ _ A9.at_), rfl, _, _, rfl, _, _, rfl, rfl, rfl, _, rfl, kk _ _ exr ⟨d9, rfl, "number", .str "second", .str "second", ey _ _ A9.two, rfl, sk_of _, .inl ⟨_, rfl, rfl, sk_of _⟩⟩⟩
      · obtain rfl := Option.some.inj hx
        obtain rfl := Option.some.inj hia
        exact ⟨q10, _, rfl, SqT.of (ey _ _ A10.at_), rfl, _, _, rfl, _, _, rfl, rfl, rfl, _, rfl, kk _ _ exr ⟨d10, rfl, "number", .str "second", .str "second", ey _ _ A10.two, rfl, sk_of _, .inl ⟨_, rfl, rfl, sk_of _⟩⟩⟩
      · obtain rfl := Option.some.inj hx
        obtain rfl := Option.some.inj hia
        exact ⟨q11, _, rfl, SqT.of (ey _ _ A11.at_), rfl, _, _, rfl, _, _, rfl, rfl, rfl, _, rfl, kk _ _ exr ⟨d11, rfl, "witness", .int 2, .int 2, ey _ _ A11.two, rfl, sk_of _, .inr (.inl ⟨_, rfl, rfl⟩)⟩⟩
      · obtain rfl := Option.some.inj hx
        obtain rfl := Option.some.inj hia
        exact ⟨q12, _, rfl, SqT.of (ey _ _ A12.at_), rfl, _, _, rfl, _, _, rfl, rfl, rfl, _, rfl, kk _ _ exr ⟨d12, rfl, "witness", .int 2, .int 2, ey _ _ A12.two, rfl, sk_of _, .inr (.inl ⟨_, rfl, rfl⟩)⟩⟩
      · obtain rfl := Option.some.inj hx
        obtain rfl := Option.some.inj hia
        exact ⟨q13, _, rfl, SqT.of (ey _ _ A13.at_), rfl, _, _, rfl, _, _, rfl, rfl, rfl, _, rfl, kk _ _ exr ⟨d13, rfl, "witness", .int 2, .int 2, ey _ _ A13.two, rfl, sk_of _, .inr (.inl ⟨_, rfl, rfl⟩)⟩⟩
      · obtain rfl := Option.some.inj hx
        obtain rfl := Option.some.inj hia
        exact ⟨q14, _, rfl, SqT.of (ey _ _ A14.at_), rfl, _, _, rfl, _, _, rfl, rfl, rfl, _, rfl, kk _ _ exr ⟨d14, rfl, "witness", .int 3, .int 3, ey _ _ A14.two, rfl, sk_of _, .inr (.inl ⟨_, rfl, rfl⟩)⟩⟩
      · obtain rfl := Option.some.inj hx
        obtain rfl := Option.some.inj hia
        exact ⟨q15, _, rfl, SqT.of (ey _ _ A15.at_), rfl, _, _, rfl, _, _, rfl, rfl, rfl, _, rfl, kk _ _ exr ⟨d15, rfl, "witness", .int 0, .int 0, ey _ _ A15.two, rfl, sk_of _, .inr (.inl ⟨_, rfl, rfl⟩)⟩⟩
      · obtain rfl := Option.some.inj hx
        obtain rfl := Option.some.inj hia
        exact ⟨q16, _, rfl, SqT.of (ey _ _ A16.at_), rfl, _, _, rfl, _, _, rfl, rfl, rfl, _, rfl, kk _ _ exr ⟨d16, rfl, "witness", .int 1, .int 1, ey _ _ A16.two, rfl, sk_of _, .inr (.inl ⟨_, rfl, rfl⟩)⟩⟩
    · exact gmono_tup (gmono_cons gmono_name (gmono_cons gmono_name gmono_nil))
    intro He zs ee hze pe
    have pdl := pd3_all (K := K) (paired_mono (fun v a q => pd3_mono Hd He v a (fun c ws z => ee _ _ z) q) pd)
    have pdr := pd3_all (K := K) pe
    have shl : Sh 60 (PyData.list [.tuple [.str "large", .int 2000], .tuple [.str "number", .str "place"], .tuple [.str "large", .int 2000], .tuple [.str "number", .str "calls"], .tuple [.str "large", .int 40], .tuple [.str "returned", .none], .tuple [.str "large", .int 1000], .tuple [.str "returned", .none], .tuple [.str "number", .str "second"], .tuple [.str "number", .str "second"], .tuple [.str "witness", .int 2], .tuple [.str "witness", .int 2], .tuple [.str "witness", .int 2], .tuple [.str "witness", .int 3], .tuple [.str "witness", .int 0], .tuple [.str "witness", .int 1]]) := (sh_list (n := 3) pdr.2).up (by decide)
    refine ⟨_, _, .lst (SqL.of (ee _ _ hyd)) pdl.1, .lst (SqL.of hze) pdr.1, shl.ok, shl.ok, ?_⟩
    have kq := k _ (X5.trans (.en (X.trans (.of (ext ed ee))))) (src5c.en (X.trans (.of (ext ed ee)))) (tabs.ext (ext ed ee))
    rw [← eqv_refl _ shl.1] at kq
    exact kq
end

section
variable {P : Program} {w : World} {K : PySem.W.Frag} {mg : Str → Option Value} {base : Heap}
/-- a cut list of ints is one -/
theorem cut_ints (ns : List Int) (lo hi : Option Int) : ∃ ms : List Int, cutV (ns.map V.int ++ [V.int 0]) lo hi = ms.map V.int := by
  refine ⟨((ns ++ [0]).drop (HT.sIx (ns.map V.int ++ [V.int 0]).length 0 lo)).take (HT.sIx (ns.map V.int ++ [V.int 0]).length (ns.map V.int ++ [V.int 0]).length hi - HT.sIx (ns.map V.int ++ [V.int 0]).length 0 lo), ?_⟩
  unfold cutV
  rw [List.map_take, List.map_drop, List.map_append]
  rfl
end
theorem cut_of (ns : List Int) (lo hi : Option Int) : ∃ ms : List Int, cutV (ns.map V.int) lo hi = ms.map V.int ∧ ms.length ≤ ns.length := by
  refine ⟨(ns.drop (HT.sIx (ns.map V.int).length 0 lo)).take (HT.sIx (ns.map V.int).length (ns.map V.int).length hi - HT.sIx (ns.map V.int).length 0 lo), ?_, ?_⟩
  · unfold cutV
    rw [List.map_take, List.map_drop]
  · rw [List.length_take, List.length_drop]
    omega

section
variable {P : Program} {w : World} {K : PySem.W.Frag} {mg : Str → Option Value} {base : Heap}
def sp_law (K : PySem.W.Frag) (P1 P2 : Addr) : Sp := fun vs H Q _ => ∃ (a : Addr) (ns : List Int), vs = [.ref a] ∧ SqL K H a (ns.map V.int) ∧ ns.length ≤ 63 ∧ H P1 = some (.tbl #[]) ∧ H P2 = some (.tbl #[]) ∧ ∀ H2, Q (.bl true) H2
theorem ok_law (T : TX K mg) (L : TL T base) : CG.FnOkG P w K mg base 10 T.f_law T.fd_law ["_law_script"] (sp_law K L.p_law_all_right L.p_law_large_right) := by
  refine CG.okG T.F_law sc_law (fun vs H Q E h => ?_) (fun cdv A outer s H vs Q E gd hr h => ?_)
  · obtain ⟨a, ns, rfl, _⟩ := h
    rfl
  · obtain ⟨a, ns, rfl, hS, hlen, ht1, ht2, k⟩ := h
    refine ⟨_, (pss_cons (ps_for PassesOwn.never rfl (pi_list (pe_op (r := rCatR K) op_catR (pe_lst (pa_cons (pe_call (ok_law_cell_at T) (hr.mono (by decide)) rfl T.m_law_cell_at T.F_law_cell_at.kp T.b_law_cell_at .nil pass0 (pa_cons (pv 0) (pa_cons pe_int pa_nil))) pa_nil)) (pe_slice sl_list (pv 0) (po_some pe_int) (po_some pe_int)))) (pg_name (i := 1) sc_law.nd rfl (Or.inl rfl)) (pss_cons (ps_set (i := 2) sc_law.nd rfl (Or.inl rfl) (pe_call (ok_law_source T) (hr.mono (by decide)) rfl T.m_law_source T.F_law_source.kp T.b_law_source .nil pass0 (pa_cons (pv 1) pa_nil))) (pss_cons (ps_for PassesOwn.never rfl (pi_range1 rfl T.z_range (pa_cons pe_int pa_nil)) (pg_name (i := 3) sc_law.nd rfl (Or.inl rfl)) (pss_cons (ps_asg (pe_call (ok_law_scene T) (hr.mono (by decide)) rfl T.m_law_scene T.F_law_scene.kp T.b_law_scene .nil pass0 (pa_cons (pv 2) pa_nil)) (pg_tup rfl (pgs_cons (pg_name (i := 4) sc_law.nd rfl (Or.inl rfl)) (pgs_cons (pg_name (i := 5) sc_law.nd rfl (Or.inl rfl)) pgs_nil)))) (pss_one (ps_if (pt_not (pt_val (CG.pe_callG (ok_law_all_right T L) gd hr rfl T.m_law_all_right T.F_law_all_right.kp T.b_law_all_right .nil pass0 (pa_cons (pv 4) (pa_cons (pv 5) pa_nil))))) (pss_one (ps_ret pe_bl)) pss_nil)))) (pss_one (ps_if (pt_not (pt_val (CG.pe_callG (ok_law_large_right T L) gd hr rfl T.m_law_large_right T.F_law_large_right.kp T.b_law_large_right .nil pass0 (pa_cons (pv 2) pa_nil)))) (pss_one (ps_ret pe_bl)) pss_nil))))) (pss_one (ps_ret (pe_cmpR (r := rEqD K) (op_eqD hr.units) (pe_call (ok_min_calls_on_ring T) (hr.mono (by decide)) rfl T.m_min_calls_on_ring T.F_min_calls_on_ring.kp T.b_min_calls_on_ring .nil pass0 (pa_cons pe_int (pa_cons (pe_lst (pa_cons pe_int (pa_cons pe_int pa_nil))) (pa_cons pe_int pa_nil)))) pe_int (nomark _))))), ?_⟩
    have tabs : LamX.Tabs L.tabs H := fun p hp => by
      simp only [TL.tabs, List.mem_cons, List.not_mem_nil, or_false] at hp
      rcases hp with rfl | rfl
      · exact LamX.TabS.nil ht1
      · exact LamX.TabS.nil ht2
    refine ⟨_, rfl, a, ns, 0, rfl, hS, by decide, fun i0 => ⟨by show 1 ≤ sizeLine; decide, fun b hb => ?_⟩⟩
    have e1 := exn (o := .lst [.int i0]) hb
    refine ⟨_, rfl, 1, rfl, 4, rfl, a, _, rfl, Evl.ex_l e1 hS, fun c hc => ?_⟩
    obtain ⟨ms, em, ml⟩ := cut_of ns (some 1) (some 4)
    rw [em] at *
    have e2 := exn (o := .lst (ms.map V.int)) hc
    refine ⟨b, c, _, _, rfl, rfl, SqL.of (exn hc _ _ upd_same), SqL.of upd_same, ?_, fun d hd => ?_⟩
    · rw [List.length_map]
      exact Nat.le_trans (show 1 + _ ≤ 64 by omega) (by decide)
    have e3 := exn (o := .lst ([V.int i0] ++ ms.map V.int)) hd
    have tabs3 := ((tabs.ext e1).ext e2).ext e3
    refine ⟨d, rfl, ⟨_, SqL.of upd_same⟩, ?_⟩
    refine for_it (walk_list (xs := (i0 :: ms).map V.int)) (fun i σ H => (∃ y1 y2 y3 y4 y5, σ = [some (.ref a), y1, y2, y3, y4, y5]) ∧ H d = some (.lst ((i0 :: ms).map V.int)) ∧ LamX.Tabs L.tabs H) ⟨⟨_, _, _, _, _, rfl⟩, upd_same, tabs3⟩ (fun i σ H _ p => SqL.of p.2.1) ?_ ?_
    · rintro i x σ _ H1 hi ⟨⟨y1, y2, y3, y4, y5, rfl⟩, hd1, tb1⟩ ⟨rfl, hx⟩
      obtain ⟨n, _, rfl⟩ := map_get hx
      refine ⟨_, rfl, _, rfl, fun H2 s e2 hs src => ?_⟩
      have nd : d ≠ s := ne_of_none hd1 hs
      have hd2 := e2 _ _ hd1
      have src := src.less (show 100 ≤ 1000000000 by decide)
      have tb2 := tb1.ext e2
      dsimp only [gName]
      refine ⟨4, rfl, by decide, by decide, ?_⟩
      refine for_it walk_range (fun j σ Hx => (∃ y1 y3 y4 y5, σ = [some (.ref a), y1, some (.ref s), y3, y4, y5]) ∧ Hx d = some (.lst ((i0 :: ms).map V.int)) ∧ LamX.Tabs L.tabs Hx ∧ Sr5 Hx s (100 - 18 * j)) ⟨⟨_, _, _, _, rfl⟩, hd2, tb2, src⟩ (fun _ _ _ _ _ => True.intro) ?_ ?_
      · rintro j x σ _ Hj hj ⟨⟨z1, z3, z4, z5, rfl⟩, hdj, tbj, srcj⟩ ⟨rfl, rfl⟩
        have hj4 : j < 4 := hj
        have srcj : Sr5 Hj s (100 - 18 * (j + 1) + 18) := srcj.less (by omega)
        dsimp only [gName]
        refine ⟨_, rfl, s, _, rfl, srcj, fun p g b nn kvs H3 n4 n23 hp nps npb good bad xb src3 => ?_⟩
        refine ⟨p, _, rfl, SqT.of hp, rfl, _, _, rfl, _, _, rfl, rfl, ?_⟩
        have tb3 := tabs_xb5 tbj srcj xb
        have hd3 := xb _ _ nd hdj
        refine ⟨_, rfl, _, rfl, s, g, b, nn, _, kvs, rfl, n4, n23, src3, good, bad, tb3, fun H4 e4 tb4 => ?_⟩
        refine ⟨_, rfl, itf rfl ?_⟩
        exact ⟨⟨_, _, _, _, rfl⟩, e4 _ _ hd3 (fun _ z => nomatch z), tb4, src3.en e4⟩
      · rintro σ Hj ⟨⟨z1, z3, z4, z5, rfl⟩, hdj, tbj, srcj⟩
        refine ⟨_, rfl, s, 22, rfl, srcj, tbj, fun H4 x4 src4 tb4 => ?_⟩
        refine ⟨_, rfl, itf rfl ?_⟩
        exact ⟨⟨_, _, _, _, _, rfl⟩, x4 _ _ nd (fun _ z => nomatch z) hdj, tb4⟩
    · rintro σ Hj ⟨⟨y1, y2, y3, y4, y5, rfl⟩, _, _⟩
      refine ⟨slen rfl, ?_⟩
      (intro l nl; generalize hGl : upd _ l _ = Hz; have eHz := exG hGl nl; have hl := atG hGl; clear hGl)
      have t0 : (layN 2000 [0, 1] 0).testBit (1 * 2 ^ 0 % 2000) = true := by decide +kernel
      refine ⟨2000, 1, (false, l), [0, 1], rfl, by decide, by decide, hl, by decide, by decide, (fun t ht => by
        simp only [List.mem_cons, List.not_mem_nil, or_false] at ht
        rcases ht with rfl | rfl <;> decide), by decide, fun c H2 _ _ no _ => ?_, fun no => ?_⟩
      · have c0 : c = 0 := by
          by_cases z : c = 0
          · exact z
          · have := no 0 (by omega)
            rw [t0] at this
            cases this
        subst c0
        exact ⟨.int 0, .int 0, .int 0, .int 0, (sh_int (n := 60) 0).ok, (sh_int (n := 60) 0).ok, k _⟩
      · have := no 0 (Nat.zero_le _)
        rw [t0] at this
        cases this
end

theorem all_mk {K : PySem.W.Frag} {h : Heap} {mg : Str → Option Value} (X : K.In h) (G : h.Ns mainGlobals mg)
    {f0 f1 f2 f3 f4 f5 f6 f7 f8 f9 f10 f11 f12 f13 f14 f15 f16 f17 f18 f19 f20 f21 f22 f23 f24 f25 f26 f27 f28 f29 f30 f31 f32 f33 f34 f35 f36 f37 f38 f39 f40 f41 f42 C_InvalidTargets C_InvalidWitness C_InvalidNumber C_TooLarge C_Block C_SeatError : Addr}
    {od0 an0 od1 an1 od2 an2 od3 an3 od4 an4 od5 an5 od6 an6 od7 an7 od8 an8 od9 an9 od10 an10 od11 an11 od12 an12 od13 an13 od14 an14 od15 an15 od16 an16 od17 an17 od18 an18 od19 an19 od20 an20 od21 an21 od22 an22 od23 an23 od24 an24 od25 an25 od26 an26 od27 an27 od28 an28 od29 an29 od30 an30 od31 an31 od32 an32 od33 an33 od34 an34 od35 an35 od36 an36 od37 an37 od38 an38 od39 an39 od40 an40 od41 an41 od42 an42 : Option Addr} {sl0 sl1 sl2 sl3 sl4 sl5 sl6 sl7 sl8 sl9 sl10 sl11 sl12 sl13 sl14 sl15 sl16 sl17 sl18 sl19 sl20 sl21 sl22 sl23 sl24 sl25 sl26 sl27 sl28 sl29 sl30 sl31 sl32 sl33 sl34 sl35 sl36 sl37 sl38 sl39 sl40 sl41 sl42 : Array (Option Value)} {oc0 kV0 dc0 pm0 cd0 ct0 oc1 kV1 dc1 pm1 cd1 ct1 oc2 kV2 dc2 pm2 cd2 ct2 oc3 kV3 dc3 pm3 cd3 ct3 oc4 kV4 dc4 pm4 cd4 ct4 oc5 kV5 dc5 pm5 cd5 ct5 oc6 kV6 dc6 pm6 cd6 ct6 oc7 kV7 dc7 pm7 cd7 ct7 oc8 kV8 dc8 pm8 cd8 ct8 oc9 kV9 dc9 pm9 cd9 ct9 oc10 kV10 dc10 pm10 cd10 ct10 oc11 kV11 dc11 pm11 cd11 ct11 oc12 kV12 dc12 pm12 cd12 ct12 oc13 kV13 dc13 pm13 cd13 ct13 oc14 kV14 dc14 pm14 cd14 ct14 oc15 kV15 dc15 pm15 cd15 ct15 oc16 kV16 dc16 pm16 cd16 ct16 oc17 kV17 dc17 pm17 cd17 ct17 oc18 kV18 dc18 pm18 cd18 ct18 oc19 kV19 dc19 pm19 cd19 ct19 oc20 kV20 dc20 pm20 cd20 ct20 oc21 kV21 dc21 pm21 cd21 ct21 oc22 kV22 dc22 pm22 cd22 ct22 oc23 kV23 dc23 pm23 cd23 ct23 oc24 kV24 dc24 pm24 cd24 ct24 oc25 kV25 dc25 pm25 cd25 ct25 oc26 kV26 dc26 pm26 cd26 ct26 oc27 kV27 dc27 pm27 cd27 ct27 oc28 kV28 dc28 pm28 cd28 ct28 oc29 kV29 dc29 pm29 cd29 ct29 oc30 kV30 dc30 pm30 cd30 ct30 oc31 kV31 dc31 pm31 cd31 ct31 oc32 kV32 dc32 pm32 cd32 ct32 oc33 kV33 dc33 pm33 cd33 ct33 oc34 kV34 dc34 pm34 cd34 ct34 oc35 kV35 dc35 pm35 cd35 ct35 oc36 kV36 dc36 pm36 cd36 ct36 oc37 kV37 dc37 pm37 cd37 ct37 oc38 kV38 dc38 pm38 cd38 ct38 oc39 kV39 dc39 pm39 cd39 ct39 oc40 kV40 dc40 pm40 cd40 ct40 oc41 kV41 dc41 pm41 cd41 ct41 oc42 kV42 dc42 pm42 cd42 ct42 : Value}
    {nm_InvalidNumber q_InvalidNumber : Str} {N_InvalidNumber B_InvalidNumber : Addr} {bs_InvalidNumber sub_InvalidNumber : List Value} {sn_InvalidNumber : List Str} {ab_InvalidNumber : Bool} {col_InvalidNumber : Option Bool} {dd_InvalidNumber : Option Addr} {m0_InvalidNumber m1_InvalidNumber m2_InvalidNumber m3_InvalidNumber m5_InvalidNumber : Option Value}
    {nm_InvalidTargets q_InvalidTargets : Str} {N_InvalidTargets B_InvalidTargets : Addr} {bs_InvalidTargets sub_InvalidTargets : List Value} {sn_InvalidTargets : List Str} {ab_InvalidTargets : Bool} {col_InvalidTargets : Option Bool} {dd_InvalidTargets : Option Addr} {m0_InvalidTargets m1_InvalidTargets m2_InvalidTargets m3_InvalidTargets m5_InvalidTargets : Option Value}
    {nm_TooLarge q_TooLarge : Str} {N_TooLarge B_TooLarge : Addr} {bs_TooLarge sub_TooLarge : List Value} {sn_TooLarge : List Str} {ab_TooLarge : Bool} {col_TooLarge : Option Bool} {dd_TooLarge : Option Addr} {m0_TooLarge m1_TooLarge m2_TooLarge m3_TooLarge m5_TooLarge : Option Value}
    {nm_InvalidWitness q_InvalidWitness : Str} {N_InvalidWitness B_InvalidWitness : Addr} {bs_InvalidWitness sub_InvalidWitness : List Value} {sn_InvalidWitness : List Str} {ab_InvalidWitness : Bool} {col_InvalidWitness : Option Bool} {dd_InvalidWitness : Option Addr} {m0_InvalidWitness m1_InvalidWitness m2_InvalidWitness m3_InvalidWitness m5_InvalidWitness : Option Value}
    {t_MAX_SIZE t_MAX_CALLS t_MAX_CHECKED_CALLS : Tok}
    (aC_SeatError : PySem.W.nsIn K mainGlobals "SeatError" = some (some (.ref C_SeatError)))
    (ex_SeatError : PySem.W.subIn K (.ref C_SeatError) (.type "BaseException") = some true)
    (ty_SeatError : PySem.W.typeIn K (.ref C_SeatError) = some (.type "type"))
    (il_SeatError : PySem.W.isClsIn K C_SeatError = true)
    (aC_InvalidTargets : PySem.W.nsIn K mainGlobals "InvalidTargets" = some (some (.ref C_InvalidTargets)))
    (aC_InvalidWitness : PySem.W.nsIn K mainGlobals "InvalidWitness" = some (some (.ref C_InvalidWitness)))
    (aC_InvalidNumber : PySem.W.nsIn K mainGlobals "InvalidNumber" = some (some (.ref C_InvalidNumber)))
    (aC_TooLarge : PySem.W.nsIn K mainGlobals "TooLarge" = some (some (.ref C_TooLarge)))
    (aC_Block : PySem.W.nsIn K mainGlobals "Block" = some (some (.ref C_Block)))
    (a0 : PySem.W.findIn K (.ref C_InvalidTargets) "__init__" = some (some (.ref f0)))
    (i0 : PySem.W.isFn K (.ref f0) = true)
    (l0 : K.lookup f0 = some ⟨oc0, od0, .func (PySem.W.fnOf "__init__" "InvalidTargets.__init__" (defArgs s_InvalidTargets_init) (defBody s_InvalidTargets_init) (defScope s_InvalidTargets_init) .none kV0 dc0 pm0 an0 cd0 ct0), sl0⟩)
    (c0 : PySem.W.codeIn K cd0 "InvalidTargets.__init__" = true)
    (k0 : PySem.W.keepIn K (.ref f0) = true)
    (a1 : PySem.W.findIn K (.ref C_InvalidWitness) "__init__" = some (some (.ref f1)))
    (i1 : PySem.W.isFn K (.ref f1) = true)
    (l1 : K.lookup f1 = some ⟨oc1, od1, .func (PySem.W.fnOf "__init__" "InvalidWitness.__init__" (defArgs s_InvalidWitness_init) (defBody s_InvalidWitness_init) (defScope s_InvalidWitness_init) .none kV1 dc1 pm1 an1 cd1 ct1), sl1⟩)
    (c1 : PySem.W.codeIn K cd1 "InvalidWitness.__init__" = true)
    (k1 : PySem.W.keepIn K (.ref f1) = true)
    (a2 : PySem.W.findIn K (.ref C_InvalidNumber) "__init__" = some (some (.ref f2)))
    (i2 : PySem.W.isFn K (.ref f2) = true)
    (l2 : K.lookup f2 = some ⟨oc2, od2, .func (PySem.W.fnOf "__init__" "InvalidNumber.__init__" (defArgs s_InvalidNumber_init) (defBody s_InvalidNumber_init) (defScope s_InvalidNumber_init) .none kV2 dc2 pm2 an2 cd2 ct2), sl2⟩)
    (c2 : PySem.W.codeIn K cd2 "InvalidNumber.__init__" = true)
    (k2 : PySem.W.keepIn K (.ref f2) = true)
    (a3 : PySem.W.findIn K (.ref C_TooLarge) "__init__" = some (some (.ref f3)))
    (i3 : PySem.W.isFn K (.ref f3) = true)
    (l3 : K.lookup f3 = some ⟨oc3, od3, .func (PySem.W.fnOf "__init__" "TooLarge.__init__" (defArgs s_TooLarge_init) (defBody s_TooLarge_init) (defScope s_TooLarge_init) .none kV3 dc3 pm3 an3 cd3 ct3), sl3⟩)
    (c3 : PySem.W.codeIn K cd3 "TooLarge.__init__" = true)
    (k3 : PySem.W.keepIn K (.ref f3) = true)
    (a4 : PySem.W.nsIn K mainGlobals "is_integer" = some (some (.ref f4)))
    (l4 : K.lookup f4 = some ⟨oc4, od4, .func (PySem.W.fnOf "is_integer" "is_integer" (defArgs s_is_integer) (defBody s_is_integer) (defScope s_is_integer) .none kV4 dc4 pm4 an4 cd4 ct4), sl4⟩)
    (c4 : PySem.W.codeIn K cd4 "is_integer" = true)
    (k4 : PySem.W.keepIn K (.ref f4) = true)
    (a5 : PySem.W.nsIn K mainGlobals "is_at_least" = some (some (.ref f5)))
    (l5 : K.lookup f5 = some ⟨oc5, od5, .func (PySem.W.fnOf "is_at_least" "is_at_least" (defArgs s_is_at_least) (defBody s_is_at_least) (defScope s_is_at_least) .none kV5 dc5 pm5 an5 cd5 ct5), sl5⟩)
    (c5 : PySem.W.codeIn K cd5 "is_at_least" = true)
    (k5 : PySem.W.keepIn K (.ref f5) = true)
    (a6 : PySem.W.nsIn K mainGlobals "is_between" = some (some (.ref f6)))
    (l6 : K.lookup f6 = some ⟨oc6, od6, .func (PySem.W.fnOf "is_between" "is_between" (defArgs s_is_between) (defBody s_is_between) (defScope s_is_between) .none kV6 dc6 pm6 an6 cd6 ct6), sl6⟩)
    (c6 : PySem.W.codeIn K cd6 "is_between" = true)
    (k6 : PySem.W.keepIn K (.ref f6) = true)
    (a7 : PySem.W.nsIn K mainGlobals "require_at_least" = some (some (.ref f7)))
    (l7 : K.lookup f7 = some ⟨oc7, od7, .func (PySem.W.fnOf "require_at_least" "require_at_least" (defArgs s_require_at_least) (defBody s_require_at_least) (defScope s_require_at_least) .none kV7 dc7 pm7 an7 cd7 ct7), sl7⟩)
    (c7 : PySem.W.codeIn K cd7 "require_at_least" = true)
    (k7 : PySem.W.keepIn K (.ref f7) = true)
    (a8 : PySem.W.nsIn K mainGlobals "greatest_common_divisor" = some (some (.ref f8)))
    (l8 : K.lookup f8 = some ⟨oc8, od8, .func (PySem.W.fnOf "greatest_common_divisor" "greatest_common_divisor" (defArgs s_greatest_common_divisor) (defBody s_greatest_common_divisor) (defScope s_greatest_common_divisor) .none kV8 dc8 pm8 an8 cd8 ct8), sl8⟩)
    (c8 : PySem.W.codeIn K cd8 "greatest_common_divisor" = true)
    (k8 : PySem.W.keepIn K (.ref f8) = true)
    (a9 : PySem.W.nsIn K mainGlobals "odd_part" = some (some (.ref f9)))
    (l9 : K.lookup f9 = some ⟨oc9, od9, .func (PySem.W.fnOf "odd_part" "odd_part" (defArgs s_odd_part) (defBody s_odd_part) (defScope s_odd_part) .none kV9 dc9 pm9 an9 cd9 ct9), sl9⟩)
    (c9 : PySem.W.codeIn K cd9 "odd_part" = true)
    (k9 : PySem.W.keepIn K (.ref f9) = true)
    (a10 : PySem.W.nsIn K mainGlobals "require_places" = some (some (.ref f10)))
    (l10 : K.lookup f10 = some ⟨oc10, od10, .func (PySem.W.fnOf "require_places" "require_places" (defArgs s_require_places) (defBody s_require_places) (defScope s_require_places) .none kV10 dc10 pm10 an10 cd10 ct10), sl10⟩)
    (c10 : PySem.W.codeIn K cd10 "require_places" = true)
    (k10 : PySem.W.keepIn K (.ref f10) = true)
    (a11 : PySem.W.nsIn K mainGlobals "require_place" = some (some (.ref f11)))
    (l11 : K.lookup f11 = some ⟨oc11, od11, .func (PySem.W.fnOf "require_place" "require_place" (defArgs s_require_place) (defBody s_require_place) (defScope s_require_place) .none kV11 dc11 pm11 an11 cd11 ct11), sl11⟩)
    (c11 : PySem.W.codeIn K cd11 "require_place" = true)
    (k11 : PySem.W.keepIn K (.ref f11) = true)
    (a12 : PySem.W.nsIn K mainGlobals "require_limit" = some (some (.ref f12)))
    (l12 : K.lookup f12 = some ⟨oc12, od12, .func (PySem.W.fnOf "require_limit" "require_limit" (defArgs s_require_limit) (defBody s_require_limit) (defScope s_require_limit) .none kV12 dc12 pm12 an12 cd12 ct12), sl12⟩)
    (c12 : PySem.W.codeIn K cd12 "require_limit" = true)
    (k12 : PySem.W.keepIn K (.ref f12) = true)
    (a13 : PySem.W.nsIn K mainGlobals "rotated" = some (some (.ref f13)))
    (l13 : K.lookup f13 = some ⟨oc13, od13, .func (PySem.W.fnOf "rotated" "rotated" (defArgs s_rotated) (defBody s_rotated) (defScope s_rotated) .none kV13 dc13 pm13 an13 cd13 ct13), sl13⟩)
    (c13 : PySem.W.codeIn K cd13 "rotated" = true)
    (k13 : PySem.W.keepIn K (.ref f13) = true)
    (a14 : PySem.W.nsIn K mainGlobals "doubled" = some (some (.ref f14)))
    (l14 : K.lookup f14 = some ⟨oc14, od14, .func (PySem.W.fnOf "doubled" "doubled" (defArgs s_doubled) (defBody s_doubled) (defScope s_doubled) .none kV14 dc14 pm14 an14 cd14 ct14), sl14⟩)
    (c14 : PySem.W.codeIn K cd14 "doubled" = true)
    (k14 : PySem.W.keepIn K (.ref f14) = true)
    (a15 : PySem.W.nsIn K mainGlobals "bits_of" = some (some (.ref f15)))
    (l15 : K.lookup f15 = some ⟨oc15, od15, .func (PySem.W.fnOf "bits_of" "bits_of" (defArgs s_bits_of) (defBody s_bits_of) (defScope s_bits_of) .none kV15 dc15 pm15 an15 cd15 ct15), sl15⟩)
    (c15 : PySem.W.codeIn K cd15 "bits_of" = true)
    (k15 : PySem.W.keepIn K (.ref f15) = true)
    (a16 : PySem.W.nsIn K mainGlobals "sum_layers" = some (some (.ref f16)))
    (l16 : K.lookup f16 = some ⟨oc16, od16, .func (PySem.W.fnOf "sum_layers" "sum_layers" (defArgs s_sum_layers) (defBody s_sum_layers) (defScope s_sum_layers) .none kV16 dc16 pm16 an16 cd16 ct16), sl16⟩)
    (c16 : PySem.W.codeIn K cd16 "sum_layers" = true)
    (k16 : PySem.W.keepIn K (.ref f16) = true)
    (a17 : PySem.W.nsIn K mainGlobals "min_calls_on_ring" = some (some (.ref f17)))
    (l17 : K.lookup f17 = some ⟨oc17, od17, .func (PySem.W.fnOf "min_calls_on_ring" "min_calls_on_ring" (defArgs s_min_calls_on_ring) (defBody s_min_calls_on_ring) (defScope s_min_calls_on_ring) .none kV17 dc17 pm17 an17 cd17 ct17), sl17⟩)
    (c17 : PySem.W.codeIn K cd17 "min_calls_on_ring" = true)
    (k17 : PySem.W.keepIn K (.ref f17) = true)
    (a18 : PySem.W.nsIn K mainGlobals "halved" = some (some (.ref f18)))
    (l18 : K.lookup f18 = some ⟨oc18, od18, .func (PySem.W.fnOf "halved" "halved" (defArgs s_halved) (defBody s_halved) (defScope s_halved) .none kV18 dc18 pm18 an18 cd18 ct18), sl18⟩)
    (c18 : PySem.W.codeIn K cd18 "halved" = true)
    (k18 : PySem.W.keepIn K (.ref f18) = true)
    (a19 : PySem.W.nsIn K mainGlobals "sum_counts" = some (some (.ref f19)))
    (l19 : K.lookup f19 = some ⟨oc19, od19, .func (PySem.W.fnOf "sum_counts" "sum_counts" (defArgs s_sum_counts) (defBody s_sum_counts) (defScope s_sum_counts) .none kV19 dc19 pm19 an19 cd19 ct19), sl19⟩)
    (c19 : PySem.W.codeIn K cd19 "sum_counts" = true)
    (k19 : PySem.W.keepIn K (.ref f19) = true)
    (a20 : PySem.W.nsIn K mainGlobals "inverse" = some (some (.ref f20)))
    (l20 : K.lookup f20 = some ⟨oc20, od20, .func (PySem.W.fnOf "inverse" "inverse" (defArgs s_inverse) (defBody s_inverse) (defScope s_inverse) .none kV20 dc20 pm20 an20 cd20 ct20), sl20⟩)
    (c20 : PySem.W.codeIn K cd20 "inverse" = true)
    (k20 : PySem.W.keepIn K (.ref f20) = true)
    (a21 : PySem.W.nsIn K mainGlobals "require_two" = some (some (.ref f21)))
    (l21 : K.lookup f21 = some ⟨oc21, od21, .func (PySem.W.fnOf "require_two" "require_two" (defArgs s_require_two) (defBody s_require_two) (defScope s_require_two) .none kV21 dc21 pm21 an21 cd21 ct21), sl21⟩)
    (c21 : PySem.W.codeIn K cd21 "require_two" = true)
    (k21 : PySem.W.keepIn K (.ref f21) = true)
    (a22 : PySem.W.nsIn K mainGlobals "two_target_sum" = some (some (.ref f22)))
    (l22 : K.lookup f22 = some ⟨oc22, od22, .func (PySem.W.fnOf "two_target_sum" "two_target_sum" (defArgs s_two_target_sum) (defBody s_two_target_sum) (defScope s_two_target_sum) .none kV22 dc22 pm22 an22 cd22 ct22), sl22⟩)
    (c22 : PySem.W.codeIn K cd22 "two_target_sum" = true)
    (k22 : PySem.W.keepIn K (.ref f22) = true)
    (a23 : PySem.W.nsIn K mainGlobals "min_calls_two" = some (some (.ref f23)))
    (l23 : K.lookup f23 = some ⟨oc23, od23, .func (PySem.W.fnOf "min_calls_two" "min_calls_two" (defArgs s_min_calls_two) (defBody s_min_calls_two) (defScope s_min_calls_two) .none kV23 dc23 pm23 an23 cd23 ct23), sl23⟩)
    (c23 : PySem.W.codeIn K cd23 "min_calls_two" = true)
    (k23 : PySem.W.keepIn K (.ref f23) = true)
    (a24 : PySem.W.nsIn K mainGlobals "require_counts" = some (some (.ref f24)))
    (l24 : K.lookup f24 = some ⟨oc24, od24, .func (PySem.W.fnOf "require_counts" "require_counts" (defArgs s_require_counts) (defBody s_require_counts) (defScope s_require_counts) .none kV24 dc24 pm24 an24 cd24 ct24), sl24⟩)
    (c24 : PySem.W.codeIn K cd24 "require_counts" = true)
    (k24 : PySem.W.keepIn K (.ref f24) = true)
    (a25 : PySem.W.nsIn K mainGlobals "require_sum" = some (some (.ref f25)))
    (l25 : K.lookup f25 = some ⟨oc25, od25, .func (PySem.W.fnOf "require_sum" "require_sum" (defArgs s_require_sum) (defBody s_require_sum) (defScope s_require_sum) .none kV25 dc25 pm25 an25 cd25 ct25), sl25⟩)
    (c25 : PySem.W.codeIn K cd25 "require_sum" = true)
    (k25 : PySem.W.keepIn K (.ref f25) = true)
    (a26 : PySem.W.nsIn K mainGlobals "check_sum" = some (some (.ref f26)))
    (l26 : K.lookup f26 = some ⟨oc26, od26, .func (PySem.W.fnOf "check_sum" "check_sum" (defArgs s_check_sum) (defBody s_check_sum) (defScope s_check_sum) .none kV26 dc26 pm26 an26 cd26 ct26), sl26⟩)
    (c26 : PySem.W.codeIn K cd26 "check_sum" = true)
    (k26 : PySem.W.keepIn K (.ref f26) = true)
    (a27 : PySem.W.findIn K (.ref C_Block) "__init__" = some (some (.ref f27)))
    (i27 : PySem.W.isFn K (.ref f27) = true)
    (l27 : K.lookup f27 = some ⟨oc27, od27, .func (PySem.W.fnOf "__init__" "Block.__init__" (defArgs s_Block_init) (defBody s_Block_init) (defScope s_Block_init) .none kV27 dc27 pm27 an27 cd27 ct27), sl27⟩)
    (c27 : PySem.W.codeIn K cd27 "Block.__init__" = true)
    (k27 : PySem.W.keepIn K (.ref f27) = true)
    (a28 : PySem.W.findIn K (.ref C_Block) "paired" = some (some (.ref f28)))
    (i28 : PySem.W.isFn K (.ref f28) = true)
    (l28 : K.lookup f28 = some ⟨oc28, od28, .func (PySem.W.fnOf "paired" "Block.paired" (defArgs s_Block_paired) (defBody s_Block_paired) (defScope s_Block_paired) .none kV28 dc28 pm28 an28 cd28 ct28), sl28⟩)
    (c28 : PySem.W.codeIn K cd28 "Block.paired" = true)
    (k28 : PySem.W.keepIn K (.ref f28) = true)
    (a29 : PySem.W.findIn K (.ref C_Block) "joined" = some (some (.ref f29)))
    (i29 : PySem.W.isFn K (.ref f29) = true)
    (l29 : K.lookup f29 = some ⟨oc29, od29, .func (PySem.W.fnOf "joined" "Block.joined" (defArgs s_Block_joined) (defBody s_Block_joined) (defScope s_Block_joined) .none kV29 dc29 pm29 an29 cd29 ct29), sl29⟩)
    (c29 : PySem.W.codeIn K cd29 "Block.joined" = true)
    (k29 : PySem.W.keepIn K (.ref f29) = true)
    (a30 : PySem.W.nsIn K mainGlobals "next_blocks" = some (some (.ref f30)))
    (l30 : K.lookup f30 = some ⟨oc30, od30, .func (PySem.W.fnOf "next_blocks" "next_blocks" (defArgs s_next_blocks) (defBody s_next_blocks) (defScope s_next_blocks) .none kV30 dc30 pm30 an30 cd30 ct30), sl30⟩)
    (c30 : PySem.W.codeIn K cd30 "next_blocks" = true)
    (k30 : PySem.W.keepIn K (.ref f30) = true)
    (a31 : PySem.W.nsIn K mainGlobals "call_from_sum" = some (some (.ref f31)))
    (l31 : K.lookup f31 = some ⟨oc31, od31, .func (PySem.W.fnOf "call_from_sum" "call_from_sum" (defArgs s_call_from_sum) (defBody s_call_from_sum) (defScope s_call_from_sum) .none kV31 dc31 pm31 an31 cd31 ct31), sl31⟩)
    (c31 : PySem.W.codeIn K cd31 "call_from_sum" = true)
    (k31 : PySem.W.keepIn K (.ref f31) = true)
    (a32 : PySem.W.nsIn K mainGlobals "_law_cell_at" = some (some (.ref f32)))
    (l32 : K.lookup f32 = some ⟨oc32, od32, .func (PySem.W.fnOf "_law_cell_at" "_law_cell_at" (defArgs s_law_cell_at) (defBody s_law_cell_at) (defScope s_law_cell_at) .none kV32 dc32 pm32 an32 cd32 ct32), sl32⟩)
    (c32 : PySem.W.codeIn K cd32 "_law_cell_at" = true)
    (k32 : PySem.W.keepIn K (.ref f32) = true)
    (a33 : PySem.W.nsIn K mainGlobals "_law_source" = some (some (.ref f33)))
    (l33 : K.lookup f33 = some ⟨oc33, od33, .func (PySem.W.fnOf "_law_source" "_law_source" (defArgs s_law_source) (defBody s_law_source) (defScope s_law_source) .none kV33 dc33 pm33 an33 cd33 ct33), sl33⟩)
    (c33 : PySem.W.codeIn K cd33 "_law_source" = true)
    (k33 : PySem.W.keepIn K (.ref f33) = true)
    (a34 : PySem.W.nsIn K mainGlobals "_law_take" = some (some (.ref f34)))
    (l34 : K.lookup f34 = some ⟨oc34, od34, .func (PySem.W.fnOf "_law_take" "_law_take" (defArgs s_law_take) (defBody s_law_take) (defScope s_law_take) .none kV34 dc34 pm34 an34 cd34 ct34), sl34⟩)
    (c34 : PySem.W.codeIn K cd34 "_law_take" = true)
    (k34 : PySem.W.keepIn K (.ref f34) = true)
    (a35 : PySem.W.nsIn K mainGlobals "_law_said" = some (some (.ref f35)))
    (l35 : K.lookup f35 = some ⟨oc35, od35, .func (PySem.W.fnOf "_law_said" "_law_said" (defArgs s_law_said) (defBody s_law_said) (defScope s_law_said) .none kV35 dc35 pm35 an35 cd35 ct35), sl35⟩)
    (c35 : PySem.W.codeIn K cd35 "_law_said" = true)
    (k35 : PySem.W.keepIn K (.ref f35) = true)
    (a36 : PySem.W.nsIn K mainGlobals "_law_bad_number" = some (some (.ref f36)))
    (l36 : K.lookup f36 = some ⟨oc36, od36, .func (PySem.W.fnOf "_law_bad_number" "_law_bad_number" (defArgs s_law_bad_number) (defBody s_law_bad_number) (defScope s_law_bad_number) .none kV36 dc36 pm36 an36 cd36 ct36), sl36⟩)
    (c36 : PySem.W.codeIn K cd36 "_law_bad_number" = true)
    (k36 : PySem.W.keepIn K (.ref f36) = true)
    (a37 : PySem.W.nsIn K mainGlobals "_law_bad_targets" = some (some (.ref f37)))
    (l37 : K.lookup f37 = some ⟨oc37, od37, .func (PySem.W.fnOf "_law_bad_targets" "_law_bad_targets" (defArgs s_law_bad_targets) (defBody s_law_bad_targets) (defScope s_law_bad_targets) .none kV37 dc37 pm37 an37 cd37 ct37), sl37⟩)
    (c37 : PySem.W.codeIn K cd37 "_law_bad_targets" = true)
    (k37 : PySem.W.keepIn K (.ref f37) = true)
    (a38 : PySem.W.nsIn K mainGlobals "_law_scene" = some (some (.ref f38)))
    (l38 : K.lookup f38 = some ⟨oc38, od38, .func (PySem.W.fnOf "_law_scene" "_law_scene" (defArgs s_law_scene) (defBody s_law_scene) (defScope s_law_scene) .none kV38 dc38 pm38 an38 cd38 ct38), sl38⟩)
    (c38 : PySem.W.codeIn K cd38 "_law_scene" = true)
    (k38 : PySem.W.keepIn K (.ref f38) = true)
    (a39 : PySem.W.nsIn K mainGlobals "_law_due" = some (some (.ref f39)))
    (l39 : K.lookup f39 = some ⟨oc39, od39, .func (PySem.W.fnOf "_law_due" "_law_due" (defArgs s_law_due) (defBody s_law_due) (defScope s_law_due) .none kV39 dc39 pm39 an39 cd39 ct39), sl39⟩)
    (c39 : PySem.W.codeIn K cd39 "_law_due" = true)
    (k39 : PySem.W.keepIn K (.ref f39) = true)
    (a40 : PySem.W.nsIn K mainGlobals "_law_all_right" = some (some (.ref f40)))
    (l40 : K.lookup f40 = some ⟨oc40, od40, .func (PySem.W.fnOf "_law_all_right" "_law_all_right" (defArgs s_law_all_right) (defBody s_law_all_right) (defScope s_law_all_right) .none kV40 dc40 pm40 an40 cd40 ct40), sl40⟩)
    (c40 : PySem.W.codeIn K cd40 "_law_all_right" = true)
    (k40 : PySem.W.keepIn K (.ref f40) = true)
    (a41 : PySem.W.nsIn K mainGlobals "_law_large_right" = some (some (.ref f41)))
    (l41 : K.lookup f41 = some ⟨oc41, od41, .func (PySem.W.fnOf "_law_large_right" "_law_large_right" (defArgs s_law_large_right) (defBody s_law_large_right) (defScope s_law_large_right) .none kV41 dc41 pm41 an41 cd41 ct41), sl41⟩)
    (c41 : PySem.W.codeIn K cd41 "_law_large_right" = true)
    (k41 : PySem.W.keepIn K (.ref f41) = true)
    (a42 : PySem.W.nsIn K mainGlobals "law" = some (some (.ref f42)))
    (l42 : K.lookup f42 = some ⟨oc42, od42, .func (PySem.W.fnOf "law" "law" (defArgs s_law) (defBody s_law) (defScope s_law) .none kV42 dc42 pm42 an42 cd42 ct42), sl42⟩)
    (c42 : PySem.W.codeIn K cd42 "law" = true)
    (k42 : PySem.W.keepIn K (.ref f42) = true)
    (xl_InvalidTargets : K.lookup C_InvalidTargets = some (excClassObj nm_InvalidTargets q_InvalidTargets C_InvalidTargets N_InvalidTargets bs_InvalidTargets [.ref B_InvalidTargets, .type "ValueError", .type "Exception", .type "BaseException", .type "object"] true sn_InvalidTargets sub_InvalidTargets ab_InvalidTargets col_InvalidTargets dd_InvalidTargets m0_InvalidTargets m1_InvalidTargets m2_InvalidTargets m3_InvalidTargets m5_InvalidTargets "ValueError.__new__"))
    (sa_InvalidTargets : PySem.W.findIn K (.ref C_InvalidTargets) "__setattr__" = some (some (.builtin "object.__setattr__")))
    (ga_InvalidTargets : PySem.W.findIn K (.ref C_InvalidTargets) "__getattribute__" = some (some (.builtin "BaseException.__getattribute__")))
    (gg_InvalidTargets : PySem.W.findIn K (.ref C_InvalidTargets) "__getattr__" = some none)
    (ti_InvalidTargets : PySem.W.typeIn K (.ref f0) = some (.type "function"))
    (kc_InvalidTargets : PySem.W.keepIn K (.ref C_InvalidTargets) = true)
    (ex_InvalidTargets : PySem.W.subIn K (.ref C_InvalidTargets) (.type "BaseException") = some true)
    (ty_InvalidTargets : PySem.W.typeIn K (.ref C_InvalidTargets) = some (.type "type"))
    (hd_InvalidTargets : PySem.W.hasDictIn K C_InvalidTargets = true)
    (il_InvalidTargets : PySem.W.isClsIn K C_InvalidTargets = true)
    (ss_InvalidTargets : PySem.W.subIn K (.ref C_InvalidTargets) (.ref C_InvalidTargets) = some true)
    (ss_InvalidTargets_SeatError : PySem.W.subIn K (.ref C_InvalidTargets) (.ref C_SeatError) = some true)
    (n_InvalidTargets_index : PySem.W.findIn K (.ref C_InvalidTargets) "index" = some none)
    (xl_InvalidWitness : K.lookup C_InvalidWitness = some (excClassObj nm_InvalidWitness q_InvalidWitness C_InvalidWitness N_InvalidWitness bs_InvalidWitness [.ref B_InvalidWitness, .type "ValueError", .type "Exception", .type "BaseException", .type "object"] true sn_InvalidWitness sub_InvalidWitness ab_InvalidWitness col_InvalidWitness dd_InvalidWitness m0_InvalidWitness m1_InvalidWitness m2_InvalidWitness m3_InvalidWitness m5_InvalidWitness "ValueError.__new__"))
    (sa_InvalidWitness : PySem.W.findIn K (.ref C_InvalidWitness) "__setattr__" = some (some (.builtin "object.__setattr__")))
    (ga_InvalidWitness : PySem.W.findIn K (.ref C_InvalidWitness) "__getattribute__" = some (some (.builtin "BaseException.__getattribute__")))
    (gg_InvalidWitness : PySem.W.findIn K (.ref C_InvalidWitness) "__getattr__" = some none)
    (ti_InvalidWitness : PySem.W.typeIn K (.ref f1) = some (.type "function"))
    (kc_InvalidWitness : PySem.W.keepIn K (.ref C_InvalidWitness) = true)
    (ex_InvalidWitness : PySem.W.subIn K (.ref C_InvalidWitness) (.type "BaseException") = some true)
    (ty_InvalidWitness : PySem.W.typeIn K (.ref C_InvalidWitness) = some (.type "type"))
    (hd_InvalidWitness : PySem.W.hasDictIn K C_InvalidWitness = true)
    (il_InvalidWitness : PySem.W.isClsIn K C_InvalidWitness = true)
    (ss_InvalidWitness : PySem.W.subIn K (.ref C_InvalidWitness) (.ref C_InvalidWitness) = some true)
    (ss_InvalidWitness_SeatError : PySem.W.subIn K (.ref C_InvalidWitness) (.ref C_SeatError) = some true)
    (n_InvalidWitness_index : PySem.W.findIn K (.ref C_InvalidWitness) "index" = some none)
    (xl_InvalidNumber : K.lookup C_InvalidNumber = some (excClassObj nm_InvalidNumber q_InvalidNumber C_InvalidNumber N_InvalidNumber bs_InvalidNumber [.ref B_InvalidNumber, .type "ValueError", .type "Exception", .type "BaseException", .type "object"] true sn_InvalidNumber sub_InvalidNumber ab_InvalidNumber col_InvalidNumber dd_InvalidNumber m0_InvalidNumber m1_InvalidNumber m2_InvalidNumber m3_InvalidNumber m5_InvalidNumber "ValueError.__new__"))
    (sa_InvalidNumber : PySem.W.findIn K (.ref C_InvalidNumber) "__setattr__" = some (some (.builtin "object.__setattr__")))
    (ga_InvalidNumber : PySem.W.findIn K (.ref C_InvalidNumber) "__getattribute__" = some (some (.builtin "BaseException.__getattribute__")))
    (gg_InvalidNumber : PySem.W.findIn K (.ref C_InvalidNumber) "__getattr__" = some none)
    (ti_InvalidNumber : PySem.W.typeIn K (.ref f2) = some (.type "function"))
    (kc_InvalidNumber : PySem.W.keepIn K (.ref C_InvalidNumber) = true)
    (ex_InvalidNumber : PySem.W.subIn K (.ref C_InvalidNumber) (.type "BaseException") = some true)
    (ty_InvalidNumber : PySem.W.typeIn K (.ref C_InvalidNumber) = some (.type "type"))
    (hd_InvalidNumber : PySem.W.hasDictIn K C_InvalidNumber = true)
    (il_InvalidNumber : PySem.W.isClsIn K C_InvalidNumber = true)
    (ss_InvalidNumber : PySem.W.subIn K (.ref C_InvalidNumber) (.ref C_InvalidNumber) = some true)
    (ss_InvalidNumber_SeatError : PySem.W.subIn K (.ref C_InvalidNumber) (.ref C_SeatError) = some true)
    (n_InvalidNumber_name : PySem.W.findIn K (.ref C_InvalidNumber) "name" = some none)
    (xl_TooLarge : K.lookup C_TooLarge = some (excClassObj nm_TooLarge q_TooLarge C_TooLarge N_TooLarge bs_TooLarge [.ref B_TooLarge, .type "ValueError", .type "Exception", .type "BaseException", .type "object"] true sn_TooLarge sub_TooLarge ab_TooLarge col_TooLarge dd_TooLarge m0_TooLarge m1_TooLarge m2_TooLarge m3_TooLarge m5_TooLarge "ValueError.__new__"))
    (sa_TooLarge : PySem.W.findIn K (.ref C_TooLarge) "__setattr__" = some (some (.builtin "object.__setattr__")))
    (ga_TooLarge : PySem.W.findIn K (.ref C_TooLarge) "__getattribute__" = some (some (.builtin "BaseException.__getattribute__")))
    (gg_TooLarge : PySem.W.findIn K (.ref C_TooLarge) "__getattr__" = some none)
    (ti_TooLarge : PySem.W.typeIn K (.ref f3) = some (.type "function"))
    (kc_TooLarge : PySem.W.keepIn K (.ref C_TooLarge) = true)
    (ex_TooLarge : PySem.W.subIn K (.ref C_TooLarge) (.type "BaseException") = some true)
    (ty_TooLarge : PySem.W.typeIn K (.ref C_TooLarge) = some (.type "type"))
    (hd_TooLarge : PySem.W.hasDictIn K C_TooLarge = true)
    (il_TooLarge : PySem.W.isClsIn K C_TooLarge = true)
    (ss_TooLarge : PySem.W.subIn K (.ref C_TooLarge) (.ref C_TooLarge) = some true)
    (ss_TooLarge_SeatError : PySem.W.subIn K (.ref C_TooLarge) (.ref C_SeatError) = some true)
    (n_TooLarge_limit : PySem.W.findIn K (.ref C_TooLarge) "limit" = some none)
    (pg_Block : PySem.W.plainGet K C_Block Str.empty = true)
    (hd_Block : PySem.W.hasDictIn K C_Block = true)
    (po_Block : PySem.W.plainOver K C_Block = true)
    (sa_Block : PySem.W.findIn K (.ref C_Block) "__setattr__" = some (some (.builtin "object.__setattr__")))
    (mk_Block : PySem.W.makesIn K C_Block = true)
    (kc_Block : PySem.W.keepIn K (.ref C_Block) = true)
    (n_Block_mean : PySem.W.findIn K (.ref C_Block) "mean" = some none)
    (n_Block_counts : PySem.W.findIn K (.ref C_Block) "counts" = some none)
    (n_Block_number : PySem.W.findIn K (.ref C_Block) "number" = some none)
    (ig_ : PySem.W.specialIn K (.builtin "object.__class__") "__get__" = some (some (.builtin "getset_descriptor.__get__")))
    (it_ : PySem.W.takesIn K (.builtin "object.__class__") = some true)
    (ic_InvalidNumber : PySem.W.findIn K (.ref C_InvalidNumber) "__class__" = some (some (.builtin "object.__class__")))
    (im_InvalidNumber : PySem.W.mroIn K C_InvalidNumber (.type "object") = some true)
    (ic_InvalidTargets : PySem.W.findIn K (.ref C_InvalidTargets) "__class__" = some (some (.builtin "object.__class__")))
    (im_InvalidTargets : PySem.W.mroIn K C_InvalidTargets (.type "object") = some true)
    (ic_TooLarge : PySem.W.findIn K (.ref C_TooLarge) "__class__" = some (some (.builtin "object.__class__")))
    (im_TooLarge : PySem.W.mroIn K C_TooLarge (.type "object") = some true)
    (ic_InvalidWitness : PySem.W.findIn K (.ref C_InvalidWitness) "__class__" = some (some (.builtin "object.__class__")))
    (im_InvalidWitness : PySem.W.mroIn K C_InvalidWitness (.type "object") = some true)
    (ki_InvalidNumber_InvalidTargets : PySem.W.kitAny K (.ref C_InvalidNumber) [.ref C_InvalidTargets] = some false)
    (ki_InvalidNumber_TooLarge : PySem.W.kitAny K (.ref C_InvalidNumber) [.ref C_TooLarge] = some false)
    (ki_InvalidNumber_InvalidWitness : PySem.W.kitAny K (.ref C_InvalidNumber) [.ref C_InvalidWitness] = some false)
    (ki_InvalidNumber_ValueError : PySem.W.kitAny K (.ref C_InvalidNumber) [.type "ValueError"] = some true)
    (ki_InvalidTargets_InvalidNumber : PySem.W.kitAny K (.ref C_InvalidTargets) [.ref C_InvalidNumber] = some false)
    (ki_InvalidTargets_TooLarge : PySem.W.kitAny K (.ref C_InvalidTargets) [.ref C_TooLarge] = some false)
    (ki_InvalidTargets_InvalidWitness : PySem.W.kitAny K (.ref C_InvalidTargets) [.ref C_InvalidWitness] = some false)
    (ki_InvalidTargets_ValueError : PySem.W.kitAny K (.ref C_InvalidTargets) [.type "ValueError"] = some true)
    (ki_TooLarge_InvalidNumber : PySem.W.kitAny K (.ref C_TooLarge) [.ref C_InvalidNumber] = some false)
    (ki_TooLarge_InvalidTargets : PySem.W.kitAny K (.ref C_TooLarge) [.ref C_InvalidTargets] = some false)
    (ki_TooLarge_InvalidWitness : PySem.W.kitAny K (.ref C_TooLarge) [.ref C_InvalidWitness] = some false)
    (ki_TooLarge_ValueError : PySem.W.kitAny K (.ref C_TooLarge) [.type "ValueError"] = some true)
    (ki_InvalidWitness_InvalidNumber : PySem.W.kitAny K (.ref C_InvalidWitness) [.ref C_InvalidNumber] = some false)
    (ki_InvalidWitness_InvalidTargets : PySem.W.kitAny K (.ref C_InvalidWitness) [.ref C_InvalidTargets] = some false)
    (ki_InvalidWitness_TooLarge : PySem.W.kitAny K (.ref C_InvalidWitness) [.ref C_TooLarge] = some false)
    (ki_InvalidWitness_ValueError : PySem.W.kitAny K (.ref C_InvalidWitness) [.type "ValueError"] = some true)
    (v_MAX_SIZE : PySem.W.nsIn K mainGlobals "MAX_SIZE" = some (some (.int 2000 t_MAX_SIZE)))
    (v_MAX_CALLS : PySem.W.nsIn K mainGlobals "MAX_CALLS" = some (some (.int 40 t_MAX_CALLS)))
    (v_MAX_CHECKED_CALLS : PySem.W.nsIn K mainGlobals "MAX_CHECKED_CALLS" = some (some (.int 1000 t_MAX_CHECKED_CALLS)))
    (z_ValueError : PySem.W.nsIn K mainGlobals "ValueError" = some none)
    (z_abs : PySem.W.nsIn K mainGlobals "abs" = some none)
    (z_bool : PySem.W.nsIn K mainGlobals "bool" = some none)
    (z_dict : PySem.W.nsIn K mainGlobals "dict" = some none)
    (z_enumerate : PySem.W.nsIn K mainGlobals "enumerate" = some none)
    (z_int : PySem.W.nsIn K mainGlobals "int" = some none)
    (z_isinstance : PySem.W.nsIn K mainGlobals "isinstance" = some none)
    (z_len : PySem.W.nsIn K mainGlobals "len" = some none)
    (z_list : PySem.W.nsIn K mainGlobals "list" = some none)
    (z_range : PySem.W.nsIn K mainGlobals "range" = some none)
    (z_reversed : PySem.W.nsIn K mainGlobals "reversed" = some none)
    (z_sum : PySem.W.nsIn K mainGlobals "sum" = some none)
    (z_tuple : PySem.W.nsIn K mainGlobals "tuple" = some none)
    (z_zip : PySem.W.nsIn K mainGlobals "zip" = some none)
    : ∃ T : TX K mg, T.f_law = f42 ∧ T.fd_law = PySem.W.fnOf "law" "law" (defArgs s_law) (defBody s_law) (defScope s_law) .none kV42 dc42 pm42 an42 cd42 ct42 := by
  have F0 := fun_mk (st := s_InvalidTargets_init) l0 c0 k0
  have b0 := F0.binds (ps := ["self", "index"]) fun _ _ _ _ _ _ us hl => match us, hl with | [_, _], _ => rfl
  have F1 := fun_mk (st := s_InvalidWitness_init) l1 c1 k1
  have b1 := F1.binds (ps := ["self", "index"]) fun _ _ _ _ _ _ us hl => match us, hl with | [_, _], _ => rfl
  have F2 := fun_mk (st := s_InvalidNumber_init) l2 c2 k2
  have b2 := F2.binds (ps := ["self", "name"]) fun _ _ _ _ _ _ us hl => match us, hl with | [_, _], _ => rfl
  have F3 := fun_mk (st := s_TooLarge_init) l3 c3 k3
  have b3 := F3.binds (ps := ["self", "limit"]) fun _ _ _ _ _ _ us hl => match us, hl with | [_, _], _ => rfl
  have F4 := fun_mk (st := s_is_integer) l4 c4 k4
  have b4 := F4.binds (ps := ["value"]) fun _ _ _ _ _ _ us hl => match us, hl with | [_], _ => rfl
  have F5 := fun_mk (st := s_is_at_least) l5 c5 k5
  have b5 := F5.binds (ps := ["value", "low"]) fun _ _ _ _ _ _ us hl => match us, hl with | [_, _], _ => rfl
  have F6 := fun_mk (st := s_is_between) l6 c6 k6
  have b6 := F6.binds (ps := ["value", "low", "high"]) fun _ _ _ _ _ _ us hl => match us, hl with | [_, _, _], _ => rfl
  have F7 := fun_mk (st := s_require_at_least) l7 c7 k7
  have b7 := F7.binds (ps := ["value", "low", "name"]) fun _ _ _ _ _ _ us hl => match us, hl with | [_, _, _], _ => rfl
  have F8 := fun_mk (st := s_greatest_common_divisor) l8 c8 k8
  have b8 := F8.binds (ps := ["first", "second"]) fun _ _ _ _ _ _ us hl => match us, hl with | [_, _], _ => rfl
  have F9 := fun_mk (st := s_odd_part) l9 c9 k9
  have b9 := F9.binds (ps := ["number"]) fun _ _ _ _ _ _ us hl => match us, hl with | [_], _ => rfl
  have F10 := fun_mk (st := s_require_places) l10 c10 k10
  have b10 := F10.binds (ps := ["size", "targets"]) fun _ _ _ _ _ _ us hl => match us, hl with | [_, _], _ => rfl
  have F11 := fun_mk (st := s_require_place) l11 c11 k11
  have b11 := F11.binds (ps := ["size", "place", "name"]) fun _ _ _ _ _ _ us hl => match us, hl with | [_, _, _], _ => rfl
  have F12 := fun_mk (st := s_require_limit) l12 c12 k12
  have b12 := F12.binds (ps := ["number", "limit"]) fun _ _ _ _ _ _ us hl => match us, hl with | [_, _], _ => rfl
  have F13 := fun_mk (st := s_rotated) l13 c13 k13
  have b13 := F13.binds (ps := ["size", "bits", "shift"]) fun _ _ _ _ _ _ us hl => match us, hl with | [_, _, _], _ => rfl
  have F14 := fun_mk (st := s_doubled) l14 c14 k14
  have b14 := F14.binds (ps := ["size", "bits"]) fun _ _ _ _ _ _ us hl => match us, hl with | [_, _], _ => rfl
  have F15 := fun_mk (st := s_bits_of) l15 c15 k15
  have b15 := F15.binds (ps := ["places"]) fun _ _ _ _ _ _ us hl => match us, hl with | [_], _ => rfl
  have F16 := fun_mk (st := s_sum_layers) l16 c16 k16
  have b16 := F16.binds (ps := ["size", "targets", "calls"]) fun _ _ _ _ _ _ us hl => match us, hl with | [_, _, _], _ => rfl
  have F17 := fun_mk (st := s_min_calls_on_ring) l17 c17 k17
  have b17 := F17.binds (ps := ["size", "targets", "place"]) fun _ _ _ _ _ _ us hl => match us, hl with | [_, _, _], _ => rfl
  have F18 := fun_mk (st := s_halved) l18 c18 k18
  have b18 := F18.binds (ps := ["size", "bits", "amounts"]) fun _ _ _ _ _ _ us hl => match us, hl with | [_, _, _], _ => rfl
  have F19 := fun_mk (st := s_sum_counts) l19 c19 k19
  have b19 := F19.binds (ps := ["size", "targets", "place", "calls"]) fun _ _ _ _ _ _ us hl => match us, hl with | [_, _, _, _], _ => rfl
  have F20 := fun_mk (st := s_inverse) l20 c20 k20
  have b20 := F20.binds (ps := ["number", "modulus"]) fun _ _ _ _ _ _ us hl => match us, hl with | [_, _], _ => rfl
  have F21 := fun_mk (st := s_require_two) l21 c21 k21
  have b21 := F21.binds (ps := ["size", "first", "second", "place"]) fun _ _ _ _ _ _ us hl => match us, hl with | [_, _, _, _], _ => rfl
  have F22 := fun_mk (st := s_two_target_sum) l22 c22 k22
  have b22 := F22.binds (ps := ["size", "first", "second", "place"]) fun _ _ _ _ _ _ us hl => match us, hl with | [_, _, _, _], _ => rfl
  have F23 := fun_mk (st := s_min_calls_two) l23 c23 k23
  have b23 := F23.binds (ps := ["size", "first", "second", "place"]) fun _ _ _ _ _ _ us hl => match us, hl with | [_, _, _, _], _ => rfl
  have F24 := fun_mk (st := s_require_counts) l24 c24 k24
  have b24 := F24.binds (ps := ["targets", "counts"]) fun _ _ _ _ _ _ us hl => match us, hl with | [_, _], _ => rfl
  have F25 := fun_mk (st := s_require_sum) l25 c25 k25
  have b25 := F25.binds (ps := ["size", "targets", "place", "counts", "total"]) fun _ _ _ _ _ _ us hl => match us, hl with | [_, _, _, _, _], _ => rfl
  have F26 := fun_mk (st := s_check_sum) l26 c26 k26
  have b26 := F26.binds (ps := ["size", "targets", "place", "calls", "counts"]) fun _ _ _ _ _ _ us hl => match us, hl with | [_, _, _, _, _], _ => rfl
  have F27 := fun_mk (st := s_Block_init) l27 c27 k27
  have b27 := F27.binds (ps := ["self", "mean", "counts", "number"]) fun _ _ _ _ _ _ us hl => match us, hl with | [_, _, _, _], _ => rfl
  have F28 := fun_mk (st := s_Block_paired) l28 c28 k28
  have b28 := F28.binds (ps := ["self"]) fun _ _ _ _ _ _ us hl => match us, hl with | [_], _ => rfl
  have F29 := fun_mk (st := s_Block_joined) l29 c29 k29
  have b29 := F29.binds (ps := ["self", "other"]) fun _ _ _ _ _ _ us hl => match us, hl with | [_, _], _ => rfl
  have F30 := fun_mk (st := s_next_blocks) l30 c30 k30
  have b30 := F30.binds (ps := ["blocks"]) fun _ _ _ _ _ _ us hl => match us, hl with | [_], _ => rfl
  have F31 := fun_mk (st := s_call_from_sum) l31 c31 k31
  have b31 := F31.binds (ps := ["size", "targets", "place", "counts"]) fun _ _ _ _ _ _ us hl => match us, hl with | [_, _, _, _], _ => rfl
  have F32 := fun_mk (st := s_law_cell_at) l32 c32 k32
  have b32 := F32.binds (ps := ["_law_script", "_law_k"]) fun _ _ _ _ _ _ us hl => match us, hl with | [_, _], _ => rfl
  have F33 := fun_mk (st := s_law_source) l33 c33 k33
  have b33 := F33.binds (ps := ["_law_cell"]) fun _ _ _ _ _ _ us hl => match us, hl with | [_], _ => rfl
  have F34 := fun_mk (st := s_law_take) l34 c34 k34
  have b34 := F34.binds (ps := ["_law_source_here", "_law_bound"]) fun _ _ _ _ _ _ us hl => match us, hl with | [_, _], _ => rfl
  have F35 := fun_mk (st := s_law_said) l35 c35 k35
  have b35 := F35.binds (ps := ["_law_ask"]) fun _ _ _ _ _ _ us hl => match us, hl with | [_], _ => rfl
  have F36 := fun_mk (st := s_law_bad_number) l36 c36 k36
  have b36 := F36.binds (ps := ["_law_source_here", "_law_low", "_law_high"]) fun _ _ _ _ _ _ us hl => match us, hl with | [_, _, _], _ => rfl
  have F37 := fun_mk (st := s_law_bad_targets) l37 c37 k37
  have b37 := F37.binds (ps := ["_law_source_here", "_law_ring"]) fun _ _ _ _ _ _ us hl => match us, hl with | [_, _], _ => rfl
  have F38 := fun_mk (st := s_law_scene) l38 c38 k38
  have b38 := F38.binds (ps := ["_law_source_here"]) fun _ _ _ _ _ _ us hl => match us, hl with | [_], _ => rfl
  have F39 := fun_mk (st := s_law_due) l39 c39 k39
  have b39 := F39.binds (ps := ["_law_bad", "_law_names", "_law_rest"]) fun _ _ _ _ _ _ us hl => match us, hl with | [_, _, _], _ => rfl
  have F40 := fun_mk (st := s_law_all_right) l40 c40 k40
  have b40 := F40.binds (ps := ["_law_good", "_law_bad"]) fun _ _ _ _ _ _ us hl => match us, hl with | [_, _], _ => rfl
  have F41 := fun_mk (st := s_law_large_right) l41 c41 k41
  have b41 := F41.binds (ps := ["_law_source_here"]) fun _ _ _ _ _ _ us hl => match us, hl with | [_], _ => rfl
  have F42 := fun_mk (st := s_law) l42 c42 k42
  have b42 := F42.binds (ps := ["_law_script"]) fun _ _ _ _ _ _ us hl => match us, hl with | [_], _ => rfl
  exact ⟨{
    f_InvalidTargets_init := f0, fd_InvalidTargets_init := _, F_InvalidTargets_init := F0, b_InvalidTargets_init := b0,
    f_InvalidWitness_init := f1, fd_InvalidWitness_init := _, F_InvalidWitness_init := F1, b_InvalidWitness_init := b1,
    f_InvalidNumber_init := f2, fd_InvalidNumber_init := _, F_InvalidNumber_init := F2, b_InvalidNumber_init := b2,
    f_TooLarge_init := f3, fd_TooLarge_init := _, F_TooLarge_init := F3, b_TooLarge_init := b3,
    f_is_integer := f4, fd_is_integer := _, F_is_integer := F4, b_is_integer := b4, m_is_integer := PySem.W.mg_of X G a4,
    f_is_at_least := f5, fd_is_at_least := _, F_is_at_least := F5, b_is_at_least := b5, m_is_at_least := PySem.W.mg_of X G a5,
    f_is_between := f6, fd_is_between := _, F_is_between := F6, b_is_between := b6, m_is_between := PySem.W.mg_of X G a6,
    f_require_at_least := f7, fd_require_at_least := _, F_require_at_least := F7, b_require_at_least := b7, m_require_at_least := PySem.W.mg_of X G a7,
    f_greatest_common_divisor := f8, fd_greatest_common_divisor := _, F_greatest_common_divisor := F8, b_greatest_common_divisor := b8, m_greatest_common_divisor := PySem.W.mg_of X G a8,
    f_odd_part := f9, fd_odd_part := _, F_odd_part := F9, b_odd_part := b9, m_odd_part := PySem.W.mg_of X G a9,
    f_require_places := f10, fd_require_places := _, F_require_places := F10, b_require_places := b10, m_require_places := PySem.W.mg_of X G a10,
    f_require_place := f11, fd_require_place := _, F_require_place := F11, b_require_place := b11, m_require_place := PySem.W.mg_of X G a11,
    f_require_limit := f12, fd_require_limit := _, F_require_limit := F12, b_require_limit := b12, m_require_limit := PySem.W.mg_of X G a12,
    f_rotated := f13, fd_rotated := _, F_rotated := F13, b_rotated := b13, m_rotated := PySem.W.mg_of X G a13,
    f_doubled := f14, fd_doubled := _, F_doubled := F14, b_doubled := b14, m_doubled := PySem.W.mg_of X G a14,
    f_bits_of := f15, fd_bits_of := _, F_bits_of := F15, b_bits_of := b15, m_bits_of := PySem.W.mg_of X G a15,
    f_sum_layers := f16, fd_sum_layers := _, F_sum_layers := F16, b_sum_layers := b16, m_sum_layers := PySem.W.mg_of X G a16,
    f_min_calls_on_ring := f17, fd_min_calls_on_ring := _, F_min_calls_on_ring := F17, b_min_calls_on_ring := b17, m_min_calls_on_ring := PySem.W.mg_of X G a17,
    f_halved := f18, fd_halved := _, F_halved := F18, b_halved := b18, m_halved := PySem.W.mg_of X G a18,
    f_sum_counts := f19, fd_sum_counts := _, F_sum_counts := F19, b_sum_counts := b19, m_sum_counts := PySem.W.mg_of X G a19,
    f_inverse := f20, fd_inverse := _, F_inverse := F20, b_inverse := b20, m_inverse := PySem.W.mg_of X G a20,
    f_require_two := f21, fd_require_two := _, F_require_two := F21, b_require_two := b21, m_require_two := PySem.W.mg_of X G a21,
    f_two_target_sum := f22, fd_two_target_sum := _, F_two_target_sum := F22, b_two_target_sum := b22, m_two_target_sum := PySem.W.mg_of X G a22,
    f_min_calls_two := f23, fd_min_calls_two := _, F_min_calls_two := F23, b_min_calls_two := b23, m_min_calls_two := PySem.W.mg_of X G a23,
    f_require_counts := f24, fd_require_counts := _, F_require_counts := F24, b_require_counts := b24, m_require_counts := PySem.W.mg_of X G a24,
    f_require_sum := f25, fd_require_sum := _, F_require_sum := F25, b_require_sum := b25, m_require_sum := PySem.W.mg_of X G a25,
    f_check_sum := f26, fd_check_sum := _, F_check_sum := F26, b_check_sum := b26, m_check_sum := PySem.W.mg_of X G a26,
    f_Block_init := f27, fd_Block_init := _, F_Block_init := F27, b_Block_init := b27,
    f_Block_paired := f28, fd_Block_paired := _, F_Block_paired := F28, b_Block_paired := b28,
    f_Block_joined := f29, fd_Block_joined := _, F_Block_joined := F29, b_Block_joined := b29,
    f_next_blocks := f30, fd_next_blocks := _, F_next_blocks := F30, b_next_blocks := b30, m_next_blocks := PySem.W.mg_of X G a30,
    f_call_from_sum := f31, fd_call_from_sum := _, F_call_from_sum := F31, b_call_from_sum := b31, m_call_from_sum := PySem.W.mg_of X G a31,
    f_law_cell_at := f32, fd_law_cell_at := _, F_law_cell_at := F32, b_law_cell_at := b32, m_law_cell_at := PySem.W.mg_of X G a32,
    f_law_source := f33, fd_law_source := _, F_law_source := F33, b_law_source := b33, m_law_source := PySem.W.mg_of X G a33,
    f_law_take := f34, fd_law_take := _, F_law_take := F34, b_law_take := b34, m_law_take := PySem.W.mg_of X G a34,
    f_law_said := f35, fd_law_said := _, F_law_said := F35, b_law_said := b35, m_law_said := PySem.W.mg_of X G a35,
    f_law_bad_number := f36, fd_law_bad_number := _, F_law_bad_number := F36, b_law_bad_number := b36, m_law_bad_number := PySem.W.mg_of X G a36,
    f_law_bad_targets := f37, fd_law_bad_targets := _, F_law_bad_targets := F37, b_law_bad_targets := b37, m_law_bad_targets := PySem.W.mg_of X G a37,
    f_law_scene := f38, fd_law_scene := _, F_law_scene := F38, b_law_scene := b38, m_law_scene := PySem.W.mg_of X G a38,
    f_law_due := f39, fd_law_due := _, F_law_due := F39, b_law_due := b39, m_law_due := PySem.W.mg_of X G a39,
    f_law_all_right := f40, fd_law_all_right := _, F_law_all_right := F40, b_law_all_right := b40, m_law_all_right := PySem.W.mg_of X G a40,
    f_law_large_right := f41, fd_law_large_right := _, F_law_large_right := F41, b_law_large_right := b41, m_law_large_right := PySem.W.mg_of X G a41,
    f_law := f42, fd_law := _, F_law := F42, b_law := b42, m_law := PySem.W.mg_of X G a42,
    C_SeatError := C_SeatError, m_SeatError := PySem.W.mg_of X G aC_SeatError,
    C_InvalidTargets := C_InvalidTargets, m_InvalidTargets := PySem.W.mg_of X G aC_InvalidTargets, ox_InvalidTargets := ⟨⟨nm_InvalidTargets, q_InvalidTargets, N_InvalidTargets, bs_InvalidTargets, _, sn_InvalidTargets, sub_InvalidTargets, ab_InvalidTargets, col_InvalidTargets, dd_InvalidTargets, m0_InvalidTargets, m1_InvalidTargets, m2_InvalidTargets, m3_InvalidTargets, m5_InvalidTargets, xl_InvalidTargets, by rfl⟩, sa_InvalidTargets, ex_InvalidTargets, ty_InvalidTargets, kc_InvalidTargets⟩, xf_InvalidTargets := ⟨ga_InvalidTargets, gg_InvalidTargets, ex_InvalidTargets, hd_InvalidTargets⟩, i_InvalidTargets := a0, ti_InvalidTargets := ti_InvalidTargets, em_InvalidTargets := exm_self ex_InvalidTargets il_InvalidTargets ty_InvalidTargets ss_InvalidTargets,
    em_InvalidTargets_SeatError := exm_base ex_SeatError il_SeatError ty_SeatError ss_InvalidTargets_SeatError,
    n_InvalidTargets_index := n_InvalidTargets_index,
    C_InvalidWitness := C_InvalidWitness, m_InvalidWitness := PySem.W.mg_of X G aC_InvalidWitness, ox_InvalidWitness := ⟨⟨nm_InvalidWitness, q_InvalidWitness, N_InvalidWitness, bs_InvalidWitness, _, sn_InvalidWitness, sub_InvalidWitness, ab_InvalidWitness, col_InvalidWitness, dd_InvalidWitness, m0_InvalidWitness, m1_InvalidWitness, m2_InvalidWitness, m3_InvalidWitness, m5_InvalidWitness, xl_InvalidWitness, by rfl⟩, sa_InvalidWitness, ex_InvalidWitness, ty_InvalidWitness, kc_InvalidWitness⟩, xf_InvalidWitness := ⟨ga_InvalidWitness, gg_InvalidWitness, ex_InvalidWitness, hd_InvalidWitness⟩, i_InvalidWitness := a1, ti_InvalidWitness := ti_InvalidWitness, em_InvalidWitness := exm_self ex_InvalidWitness il_InvalidWitness ty_InvalidWitness ss_InvalidWitness,
    em_InvalidWitness_SeatError := exm_base ex_SeatError il_SeatError ty_SeatError ss_InvalidWitness_SeatError,
    n_InvalidWitness_index := n_InvalidWitness_index,
    C_InvalidNumber := C_InvalidNumber, m_InvalidNumber := PySem.W.mg_of X G aC_InvalidNumber, ox_InvalidNumber := ⟨⟨nm_InvalidNumber, q_InvalidNumber, N_InvalidNumber, bs_InvalidNumber, _, sn_InvalidNumber, sub_InvalidNumber, ab_InvalidNumber, col_InvalidNumber, dd_InvalidNumber, m0_InvalidNumber, m1_InvalidNumber, m2_InvalidNumber, m3_InvalidNumber, m5_InvalidNumber, xl_InvalidNumber, by rfl⟩, sa_InvalidNumber, ex_InvalidNumber, ty_InvalidNumber, kc_InvalidNumber⟩, xf_InvalidNumber := ⟨ga_InvalidNumber, gg_InvalidNumber, ex_InvalidNumber, hd_InvalidNumber⟩, i_InvalidNumber := a2, ti_InvalidNumber := ti_InvalidNumber, em_InvalidNumber := exm_self ex_InvalidNumber il_InvalidNumber ty_InvalidNumber ss_InvalidNumber,
    em_InvalidNumber_SeatError := exm_base ex_SeatError il_SeatError ty_SeatError ss_InvalidNumber_SeatError,
    n_InvalidNumber_name := n_InvalidNumber_name,
    C_TooLarge := C_TooLarge, m_TooLarge := PySem.W.mg_of X G aC_TooLarge, ox_TooLarge := ⟨⟨nm_TooLarge, q_TooLarge, N_TooLarge, bs_TooLarge, _, sn_TooLarge, sub_TooLarge, ab_TooLarge, col_TooLarge, dd_TooLarge, m0_TooLarge, m1_TooLarge, m2_TooLarge, m3_TooLarge, m5_TooLarge, xl_TooLarge, by rfl⟩, sa_TooLarge, ex_TooLarge, ty_TooLarge, kc_TooLarge⟩, xf_TooLarge := ⟨ga_TooLarge, gg_TooLarge, ex_TooLarge, hd_TooLarge⟩, i_TooLarge := a3, ti_TooLarge := ti_TooLarge, em_TooLarge := exm_self ex_TooLarge il_TooLarge ty_TooLarge ss_TooLarge,
    em_TooLarge_SeatError := exm_base ex_SeatError il_SeatError ty_SeatError ss_TooLarge_SeatError,
    n_TooLarge_limit := n_TooLarge_limit,
    C_Block := C_Block, cl_Block := ⟨pg_Block, hd_Block, po_Block, sa_Block⟩, m_Block := PySem.W.mg_of X G aC_Block,
    M_Block := ⟨mk_Block, a27, i27, kc_Block⟩,
    me_Block_paired := ⟨a28, i28, k28⟩,
    me_Block_joined := ⟨a29, i29, k29⟩,
    n_Block_mean := n_Block_mean,
    n_Block_counts := n_Block_counts,
    n_Block_number := n_Block_number,
    xi_InvalidNumber := ⟨il_InvalidNumber, ga_InvalidNumber, gg_InvalidNumber, ex_InvalidNumber, ic_InvalidNumber, ig_, it_, im_InvalidNumber⟩,
    xi_InvalidTargets := ⟨il_InvalidTargets, ga_InvalidTargets, gg_InvalidTargets, ex_InvalidTargets, ic_InvalidTargets, ig_, it_, im_InvalidTargets⟩,
    xi_TooLarge := ⟨il_TooLarge, ga_TooLarge, gg_TooLarge, ex_TooLarge, ic_TooLarge, ig_, it_, im_TooLarge⟩,
    xi_InvalidWitness := ⟨il_InvalidWitness, ga_InvalidWitness, gg_InvalidWitness, ex_InvalidWitness, ic_InvalidWitness, ig_, it_, im_InvalidWitness⟩,
    ki_InvalidNumber_InvalidTargets := ki_InvalidNumber_InvalidTargets,
    ki_InvalidNumber_TooLarge := ki_InvalidNumber_TooLarge,
    ki_InvalidNumber_InvalidWitness := ki_InvalidNumber_InvalidWitness,
    ki_InvalidNumber_ValueError := ki_InvalidNumber_ValueError,
    ki_InvalidTargets_InvalidNumber := ki_InvalidTargets_InvalidNumber,
    ki_InvalidTargets_TooLarge := ki_InvalidTargets_TooLarge,
    ki_InvalidTargets_InvalidWitness := ki_InvalidTargets_InvalidWitness,
    ki_InvalidTargets_ValueError := ki_InvalidTargets_ValueError,
    ki_TooLarge_InvalidNumber := ki_TooLarge_InvalidNumber,
    ki_TooLarge_InvalidTargets := ki_TooLarge_InvalidTargets,
    ki_TooLarge_InvalidWitness := ki_TooLarge_InvalidWitness,
    ki_TooLarge_ValueError := ki_TooLarge_ValueError,
    ki_InvalidWitness_InvalidNumber := ki_InvalidWitness_InvalidNumber,
    ki_InvalidWitness_InvalidTargets := ki_InvalidWitness_InvalidTargets,
    ki_InvalidWitness_TooLarge := ki_InvalidWitness_TooLarge,
    ki_InvalidWitness_ValueError := ki_InvalidWitness_ValueError,
    t_MAX_SIZE := _, c_MAX_SIZE := PySem.W.mg_of X G v_MAX_SIZE,
    t_MAX_CALLS := _, c_MAX_CALLS := PySem.W.mg_of X G v_MAX_CALLS,
    t_MAX_CHECKED_CALLS := _, c_MAX_CHECKED_CALLS := PySem.W.mg_of X G v_MAX_CHECKED_CALLS,
    z_ValueError := PySem.W.mg_none_of X G z_ValueError,
    z_abs := PySem.W.mg_none_of X G z_abs,
    z_bool := PySem.W.mg_none_of X G z_bool,
    z_dict := PySem.W.mg_none_of X G z_dict,
    z_enumerate := PySem.W.mg_none_of X G z_enumerate,
    z_int := PySem.W.mg_none_of X G z_int,
    z_isinstance := PySem.W.mg_none_of X G z_isinstance,
    z_len := PySem.W.mg_none_of X G z_len,
    z_list := PySem.W.mg_none_of X G z_list,
    z_range := PySem.W.mg_none_of X G z_range,
    z_reversed := PySem.W.mg_none_of X G z_reversed,
    z_sum := PySem.W.mg_none_of X G z_sum,
    z_tuple := PySem.W.mg_none_of X G z_tuple,
    z_zip := PySem.W.mg_none_of X G z_zip
  }, rfl, rfl⟩
theorem use_mk {K : PySem.W.Frag} {h : Heap} {mg : Str → Option Value} (X : K.In h) (G : h.Ns mainGlobals mg)
    {f0 f1 f2 f3 f4 f5 f6 f7 f8 f9 f10 f11 f12 f13 f14 f15 f16 f17 f18 f19 f20 f21 f22 f23 f24 f25 f26 f27 f28 f29 f30 f31 f32 f33 f34 f35 f36 f37 f38 f39 f40 f41 f42 C_InvalidTargets C_InvalidWitness C_InvalidNumber C_TooLarge C_Block C_SeatError : Addr}
    {od0 an0 od1 an1 od2 an2 od3 an3 od4 an4 od5 an5 od6 an6 od7 an7 od8 an8 od9 an9 od10 an10 od11 an11 od12 an12 od13 an13 od14 an14 od15 an15 od16 an16 od17 an17 od18 an18 od19 an19 od20 an20 od21 an21 od22 an22 od23 an23 od24 an24 od25 an25 od26 an26 od27 an27 od28 an28 od29 an29 od30 an30 od31 an31 od32 an32 od33 an33 od34 an34 od35 an35 od36 an36 od37 an37 od38 an38 od39 an39 od40 an40 od41 an41 od42 an42 : Option Addr} {sl0 sl1 sl2 sl3 sl4 sl5 sl6 sl7 sl8 sl9 sl10 sl11 sl12 sl13 sl14 sl15 sl16 sl17 sl18 sl19 sl20 sl21 sl22 sl23 sl24 sl25 sl26 sl27 sl28 sl29 sl30 sl31 sl32 sl33 sl34 sl35 sl36 sl37 sl38 sl39 sl40 sl41 sl42 : Array (Option Value)} {oc0 kV0 dc0 pm0 cd0 ct0 oc1 kV1 dc1 pm1 cd1 ct1 oc2 kV2 dc2 pm2 cd2 ct2 oc3 kV3 dc3 pm3 cd3 ct3 oc4 kV4 dc4 pm4 cd4 ct4 oc5 kV5 dc5 pm5 cd5 ct5 oc6 kV6 dc6 pm6 cd6 ct6 oc7 kV7 dc7 pm7 cd7 ct7 oc8 kV8 dc8 pm8 cd8 ct8 oc9 kV9 dc9 pm9 cd9 ct9 oc10 kV10 dc10 pm10 cd10 ct10 oc11 kV11 dc11 pm11 cd11 ct11 oc12 kV12 dc12 pm12 cd12 ct12 oc13 kV13 dc13 pm13 cd13 ct13 oc14 kV14 dc14 pm14 cd14 ct14 oc15 kV15 dc15 pm15 cd15 ct15 oc16 kV16 dc16 pm16 cd16 ct16 oc17 kV17 dc17 pm17 cd17 ct17 oc18 kV18 dc18 pm18 cd18 ct18 oc19 kV19 dc19 pm19 cd19 ct19 oc20 kV20 dc20 pm20 cd20 ct20 oc21 kV21 dc21 pm21 cd21 ct21 oc22 kV22 dc22 pm22 cd22 ct22 oc23 kV23 dc23 pm23 cd23 ct23 oc24 kV24 dc24 pm24 cd24 ct24 oc25 kV25 dc25 pm25 cd25 ct25 oc26 kV26 dc26 pm26 cd26 ct26 oc27 kV27 dc27 pm27 cd27 ct27 oc28 kV28 dc28 pm28 cd28 ct28 oc29 kV29 dc29 pm29 cd29 ct29 oc30 kV30 dc30 pm30 cd30 ct30 oc31 kV31 dc31 pm31 cd31 ct31 oc32 kV32 dc32 pm32 cd32 ct32 oc33 kV33 dc33 pm33 cd33 ct33 oc34 kV34 dc34 pm34 cd34 ct34 oc35 kV35 dc35 pm35 cd35 ct35 oc36 kV36 dc36 pm36 cd36 ct36 oc37 kV37 dc37 pm37 cd37 ct37 oc38 kV38 dc38 pm38 cd38 ct38 oc39 kV39 dc39 pm39 cd39 ct39 oc40 kV40 dc40 pm40 cd40 ct40 oc41 kV41 dc41 pm41 cd41 ct41 oc42 kV42 dc42 pm42 cd42 ct42 : Value}
    {nm_InvalidNumber q_InvalidNumber : Str} {N_InvalidNumber B_InvalidNumber : Addr} {bs_InvalidNumber sub_InvalidNumber : List Value} {sn_InvalidNumber : List Str} {ab_InvalidNumber : Bool} {col_InvalidNumber : Option Bool} {dd_InvalidNumber : Option Addr} {m0_InvalidNumber m1_InvalidNumber m2_InvalidNumber m3_InvalidNumber m5_InvalidNumber : Option Value}
    {nm_InvalidTargets q_InvalidTargets : Str} {N_InvalidTargets B_InvalidTargets : Addr} {bs_InvalidTargets sub_InvalidTargets : List Value} {sn_InvalidTargets : List Str} {ab_InvalidTargets : Bool} {col_InvalidTargets : Option Bool} {dd_InvalidTargets : Option Addr} {m0_InvalidTargets m1_InvalidTargets m2_InvalidTargets m3_InvalidTargets m5_InvalidTargets : Option Value}
    {nm_TooLarge q_TooLarge : Str} {N_TooLarge B_TooLarge : Addr} {bs_TooLarge sub_TooLarge : List Value} {sn_TooLarge : List Str} {ab_TooLarge : Bool} {col_TooLarge : Option Bool} {dd_TooLarge : Option Addr} {m0_TooLarge m1_TooLarge m2_TooLarge m3_TooLarge m5_TooLarge : Option Value}
    {nm_InvalidWitness q_InvalidWitness : Str} {N_InvalidWitness B_InvalidWitness : Addr} {bs_InvalidWitness sub_InvalidWitness : List Value} {sn_InvalidWitness : List Str} {ab_InvalidWitness : Bool} {col_InvalidWitness : Option Bool} {dd_InvalidWitness : Option Addr} {m0_InvalidWitness m1_InvalidWitness m2_InvalidWitness m3_InvalidWitness m5_InvalidWitness : Option Value}
    {t_MAX_SIZE t_MAX_CALLS t_MAX_CHECKED_CALLS : Tok}
    (aC_SeatError : PySem.W.nsIn K mainGlobals "SeatError" = some (some (.ref C_SeatError)))
    (ex_SeatError : PySem.W.subIn K (.ref C_SeatError) (.type "BaseException") = some true)
    (ty_SeatError : PySem.W.typeIn K (.ref C_SeatError) = some (.type "type"))
    (il_SeatError : PySem.W.isClsIn K C_SeatError = true)
    (aC_InvalidTargets : PySem.W.nsIn K mainGlobals "InvalidTargets" = some (some (.ref C_InvalidTargets)))
    (aC_InvalidWitness : PySem.W.nsIn K mainGlobals "InvalidWitness" = some (some (.ref C_InvalidWitness)))
    (aC_InvalidNumber : PySem.W.nsIn K mainGlobals "InvalidNumber" = some (some (.ref C_InvalidNumber)))
    (aC_TooLarge : PySem.W.nsIn K mainGlobals "TooLarge" = some (some (.ref C_TooLarge)))
    (aC_Block : PySem.W.nsIn K mainGlobals "Block" = some (some (.ref C_Block)))
    (a0 : PySem.W.findIn K (.ref C_InvalidTargets) "__init__" = some (some (.ref f0)))
    (i0 : PySem.W.isFn K (.ref f0) = true)
    (l0 : K.lookup f0 = some ⟨oc0, od0, .func (PySem.W.fnOf "__init__" "InvalidTargets.__init__" (defArgs s_InvalidTargets_init) (defBody s_InvalidTargets_init) (defScope s_InvalidTargets_init) .none kV0 dc0 pm0 an0 cd0 ct0), sl0⟩)
    (c0 : PySem.W.codeIn K cd0 "InvalidTargets.__init__" = true)
    (k0 : PySem.W.keepIn K (.ref f0) = true)
    (a1 : PySem.W.findIn K (.ref C_InvalidWitness) "__init__" = some (some (.ref f1)))
    (i1 : PySem.W.isFn K (.ref f1) = true)
    (l1 : K.lookup f1 = some ⟨oc1, od1, .func (PySem.W.fnOf "__init__" "InvalidWitness.__init__" (defArgs s_InvalidWitness_init) (defBody s_InvalidWitness_init) (defScope s_InvalidWitness_init) .none kV1 dc1 pm1 an1 cd1 ct1), sl1⟩)
    (c1 : PySem.W.codeIn K cd1 "InvalidWitness.__init__" = true)
    (k1 : PySem.W.keepIn K (.ref f1) = true)
    (a2 : PySem.W.findIn K (.ref C_InvalidNumber) "__init__" = some (some (.ref f2)))
    (i2 : PySem.W.isFn K (.ref f2) = true)
    (l2 : K.lookup f2 = some ⟨oc2, od2, .func (PySem.W.fnOf "__init__" "InvalidNumber.__init__" (defArgs s_InvalidNumber_init) (defBody s_InvalidNumber_init) (defScope s_InvalidNumber_init) .none kV2 dc2 pm2 an2 cd2 ct2), sl2⟩)
    (c2 : PySem.W.codeIn K cd2 "InvalidNumber.__init__" = true)
    (k2 : PySem.W.keepIn K (.ref f2) = true)
    (a3 : PySem.W.findIn K (.ref C_TooLarge) "__init__" = some (some (.ref f3)))
    (i3 : PySem.W.isFn K (.ref f3) = true)
    (l3 : K.lookup f3 = some ⟨oc3, od3, .func (PySem.W.fnOf "__init__" "TooLarge.__init__" (defArgs s_TooLarge_init) (defBody s_TooLarge_init) (defScope s_TooLarge_init) .none kV3 dc3 pm3 an3 cd3 ct3), sl3⟩)
    (c3 : PySem.W.codeIn K cd3 "TooLarge.__init__" = true)
    (k3 : PySem.W.keepIn K (.ref f3) = true)
    (a4 : PySem.W.nsIn K mainGlobals "is_integer" = some (some (.ref f4)))
    (l4 : K.lookup f4 = some ⟨oc4, od4, .func (PySem.W.fnOf "is_integer" "is_integer" (defArgs s_is_integer) (defBody s_is_integer) (defScope s_is_integer) .none kV4 dc4 pm4 an4 cd4 ct4), sl4⟩)
    (c4 : PySem.W.codeIn K cd4 "is_integer" = true)
    (k4 : PySem.W.keepIn K (.ref f4) = true)
    (a5 : PySem.W.nsIn K mainGlobals "is_at_least" = some (some (.ref f5)))
    (l5 : K.lookup f5 = some ⟨oc5, od5, .func (PySem.W.fnOf "is_at_least" "is_at_least" (defArgs s_is_at_least) (defBody s_is_at_least) (defScope s_is_at_least) .none kV5 dc5 pm5 an5 cd5 ct5), sl5⟩)
    (c5 : PySem.W.codeIn K cd5 "is_at_least" = true)
    (k5 : PySem.W.keepIn K (.ref f5) = true)
    (a6 : PySem.W.nsIn K mainGlobals "is_between" = some (some (.ref f6)))
    (l6 : K.lookup f6 = some ⟨oc6, od6, .func (PySem.W.fnOf "is_between" "is_between" (defArgs s_is_between) (defBody s_is_between) (defScope s_is_between) .none kV6 dc6 pm6 an6 cd6 ct6), sl6⟩)
    (c6 : PySem.W.codeIn K cd6 "is_between" = true)
    (k6 : PySem.W.keepIn K (.ref f6) = true)
    (a7 : PySem.W.nsIn K mainGlobals "require_at_least" = some (some (.ref f7)))
    (l7 : K.lookup f7 = some ⟨oc7, od7, .func (PySem.W.fnOf "require_at_least" "require_at_least" (defArgs s_require_at_least) (defBody s_require_at_least) (defScope s_require_at_least) .none kV7 dc7 pm7 an7 cd7 ct7), sl7⟩)
    (c7 : PySem.W.codeIn K cd7 "require_at_least" = true)
    (k7 : PySem.W.keepIn K (.ref f7) = true)
    (a8 : PySem.W.nsIn K mainGlobals "greatest_common_divisor" = some (some (.ref f8)))
    (l8 : K.lookup f8 = some ⟨oc8, od8, .func (PySem.W.fnOf "greatest_common_divisor" "greatest_common_divisor" (defArgs s_greatest_common_divisor) (defBody s_greatest_common_divisor) (defScope s_greatest_common_divisor) .none kV8 dc8 pm8 an8 cd8 ct8), sl8⟩)
    (c8 : PySem.W.codeIn K cd8 "greatest_common_divisor" = true)
    (k8 : PySem.W.keepIn K (.ref f8) = true)
    (a9 : PySem.W.nsIn K mainGlobals "odd_part" = some (some (.ref f9)))
    (l9 : K.lookup f9 = some ⟨oc9, od9, .func (PySem.W.fnOf "odd_part" "odd_part" (defArgs s_odd_part) (defBody s_odd_part) (defScope s_odd_part) .none kV9 dc9 pm9 an9 cd9 ct9), sl9⟩)
    (c9 : PySem.W.codeIn K cd9 "odd_part" = true)
    (k9 : PySem.W.keepIn K (.ref f9) = true)
    (a10 : PySem.W.nsIn K mainGlobals "require_places" = some (some (.ref f10)))
    (l10 : K.lookup f10 = some ⟨oc10, od10, .func (PySem.W.fnOf "require_places" "require_places" (defArgs s_require_places) (defBody s_require_places) (defScope s_require_places) .none kV10 dc10 pm10 an10 cd10 ct10), sl10⟩)
    (c10 : PySem.W.codeIn K cd10 "require_places" = true)
    (k10 : PySem.W.keepIn K (.ref f10) = true)
    (a11 : PySem.W.nsIn K mainGlobals "require_place" = some (some (.ref f11)))
    (l11 : K.lookup f11 = some ⟨oc11, od11, .func (PySem.W.fnOf "require_place" "require_place" (defArgs s_require_place) (defBody s_require_place) (defScope s_require_place) .none kV11 dc11 pm11 an11 cd11 ct11), sl11⟩)
    (c11 : PySem.W.codeIn K cd11 "require_place" = true)
    (k11 : PySem.W.keepIn K (.ref f11) = true)
    (a12 : PySem.W.nsIn K mainGlobals "require_limit" = some (some (.ref f12)))
    (l12 : K.lookup f12 = some ⟨oc12, od12, .func (PySem.W.fnOf "require_limit" "require_limit" (defArgs s_require_limit) (defBody s_require_limit) (defScope s_require_limit) .none kV12 dc12 pm12 an12 cd12 ct12), sl12⟩)
    (c12 : PySem.W.codeIn K cd12 "require_limit" = true)
    (k12 : PySem.W.keepIn K (.ref f12) = true)
    (a13 : PySem.W.nsIn K mainGlobals "rotated" = some (some (.ref f13)))
    (l13 : K.lookup f13 = some ⟨oc13, od13, .func (PySem.W.fnOf "rotated" "rotated" (defArgs s_rotated) (defBody s_rotated) (defScope s_rotated) .none kV13 dc13 pm13 an13 cd13 ct13), sl13⟩)
    (c13 : PySem.W.codeIn K cd13 "rotated" = true)
    (k13 : PySem.W.keepIn K (.ref f13) = true)
    (a14 : PySem.W.nsIn K mainGlobals "doubled" = some (some (.ref f14)))
    (l14 : K.lookup f14 = some ⟨oc14, od14, .func (PySem.W.fnOf "doubled" "doubled" (defArgs s_doubled) (defBody s_doubled) (defScope s_doubled) .none kV14 dc14 pm14 an14 cd14 ct14), sl14⟩)
    (c14 : PySem.W.codeIn K cd14 "doubled" = true)
    (k14 : PySem.W.keepIn K (.ref f14) = true)
    (a15 : PySem.W.nsIn K mainGlobals "bits_of" = some (some (.ref f15)))
    (l15 : K.lookup f15 = some ⟨oc15, od15, .func (PySem.W.fnOf "bits_of" "bits_of" (defArgs s_bits_of) (defBody s_bits_of) (defScope s_bits_of) .none kV15 dc15 pm15 an15 cd15 ct15), sl15⟩)
    (c15 : PySem.W.codeIn K cd15 "bits_of" = true)
    (k15 : PySem.W.keepIn K (.ref f15) = true)
    (a16 : PySem.W.nsIn K mainGlobals "sum_layers" = some (some (.ref f16)))
    (l16 : K.lookup f16 = some ⟨oc16, od16, .func (PySem.W.fnOf "sum_layers" "sum_layers" (defArgs s_sum_layers) (defBody s_sum_layers) (defScope s_sum_layers) .none kV16 dc16 pm16 an16 cd16 ct16), sl16⟩)
    (c16 : PySem.W.codeIn K cd16 "sum_layers" = true)
    (k16 : PySem.W.keepIn K (.ref f16) = true)
    (a17 : PySem.W.nsIn K mainGlobals "min_calls_on_ring" = some (some (.ref f17)))
    (l17 : K.lookup f17 = some ⟨oc17, od17, .func (PySem.W.fnOf "min_calls_on_ring" "min_calls_on_ring" (defArgs s_min_calls_on_ring) (defBody s_min_calls_on_ring) (defScope s_min_calls_on_ring) .none kV17 dc17 pm17 an17 cd17 ct17), sl17⟩)
    (c17 : PySem.W.codeIn K cd17 "min_calls_on_ring" = true)
    (k17 : PySem.W.keepIn K (.ref f17) = true)
    (a18 : PySem.W.nsIn K mainGlobals "halved" = some (some (.ref f18)))
    (l18 : K.lookup f18 = some ⟨oc18, od18, .func (PySem.W.fnOf "halved" "halved" (defArgs s_halved) (defBody s_halved) (defScope s_halved) .none kV18 dc18 pm18 an18 cd18 ct18), sl18⟩)
    (c18 : PySem.W.codeIn K cd18 "halved" = true)
    (k18 : PySem.W.keepIn K (.ref f18) = true)
    (a19 : PySem.W.nsIn K mainGlobals "sum_counts" = some (some (.ref f19)))
    (l19 : K.lookup f19 = some ⟨oc19, od19, .func (PySem.W.fnOf "sum_counts" "sum_counts" (defArgs s_sum_counts) (defBody s_sum_counts) (defScope s_sum_counts) .none kV19 dc19 pm19 an19 cd19 ct19), sl19⟩)
    (c19 : PySem.W.codeIn K cd19 "sum_counts" = true)
    (k19 : PySem.W.keepIn K (.ref f19) = true)
    (a20 : PySem.W.nsIn K mainGlobals "inverse" = some (some (.ref f20)))
    (l20 : K.lookup f20 = some ⟨oc20, od20, .func (PySem.W.fnOf "inverse" "inverse" (defArgs s_inverse) (defBody s_inverse) (defScope s_inverse) .none kV20 dc20 pm20 an20 cd20 ct20), sl20⟩)
    (c20 : PySem.W.codeIn K cd20 "inverse" = true)
    (k20 : PySem.W.keepIn K (.ref f20) = true)
    (a21 : PySem.W.nsIn K mainGlobals "require_two" = some (some (.ref f21)))
    (l21 : K.lookup f21 = some ⟨oc21, od21, .func (PySem.W.fnOf "require_two" "require_two" (defArgs s_require_two) (defBody s_require_two) (defScope s_require_two) .none kV21 dc21 pm21 an21 cd21 ct21), sl21⟩)
    (c21 : PySem.W.codeIn K cd21 "require_two" = true)
    (k21 : PySem.W.keepIn K (.ref f21) = true)
    (a22 : PySem.W.nsIn K mainGlobals "two_target_sum" = some (some (.ref f22)))
    (l22 : K.lookup f22 = some ⟨oc22, od22, .func (PySem.W.fnOf "two_target_sum" "two_target_sum" (defArgs s_two_target_sum) (defBody s_two_target_sum) (defScope s_two_target_sum) .none kV22 dc22 pm22 an22 cd22 ct22), sl22⟩)
    (c22 : PySem.W.codeIn K cd22 "two_target_sum" = true)
    (k22 : PySem.W.keepIn K (.ref f22) = true)
    (a23 : PySem.W.nsIn K mainGlobals "min_calls_two" = some (some (.ref f23)))
    (l23 : K.lookup f23 = some ⟨oc23, od23, .func (PySem.W.fnOf "min_calls_two" "min_calls_two" (defArgs s_min_calls_two) (defBody s_min_calls_two) (defScope s_min_calls_two) .none kV23 dc23 pm23 an23 cd23 ct23), sl23⟩)
    (c23 : PySem.W.codeIn K cd23 "min_calls_two" = true)
    (k23 : PySem.W.keepIn K (.ref f23) = true)
    (a24 : PySem.W.nsIn K mainGlobals "require_counts" = some (some (.ref f24)))
    (l24 : K.lookup f24 = some ⟨oc24, od24, .func (PySem.W.fnOf "require_counts" "require_counts" (defArgs s_require_counts) (defBody s_require_counts) (defScope s_require_counts) .none kV24 dc24 pm24 an24 cd24 ct24), sl24⟩)
    (c24 : PySem.W.codeIn K cd24 "require_counts" = true)
    (k24 : PySem.W.keepIn K (.ref f24) = true)
    (a25 : PySem.W.nsIn K mainGlobals "require_sum" = some (some (.ref f25)))
    (l25 : K.lookup f25 = some ⟨oc25, od25, .func (PySem.W.fnOf "require_sum" "require_sum" (defArgs s_require_sum) (defBody s_require_sum) (defScope s_require_sum) .none kV25 dc25 pm25 an25 cd25 ct25), sl25⟩)
    (c25 : PySem.W.codeIn K cd25 "require_sum" = true)
    (k25 : PySem.W.keepIn K (.ref f25) = true)
    (a26 : PySem.W.nsIn K mainGlobals "check_sum" = some (some (.ref f26)))
    (l26 : K.lookup f26 = some ⟨oc26, od26, .func (PySem.W.fnOf "check_sum" "check_sum" (defArgs s_check_sum) (defBody s_check_sum) (defScope s_check_sum) .none kV26 dc26 pm26 an26 cd26 ct26), sl26⟩)
    (c26 : PySem.W.codeIn K cd26 "check_sum" = true)
    (k26 : PySem.W.keepIn K (.ref f26) = true)
    (a27 : PySem.W.findIn K (.ref C_Block) "__init__" = some (some (.ref f27)))
    (i27 : PySem.W.isFn K (.ref f27) = true)
    (l27 : K.lookup f27 = some ⟨oc27, od27, .func (PySem.W.fnOf "__init__" "Block.__init__" (defArgs s_Block_init) (defBody s_Block_init) (defScope s_Block_init) .none kV27 dc27 pm27 an27 cd27 ct27), sl27⟩)
    (c27 : PySem.W.codeIn K cd27 "Block.__init__" = true)
    (k27 : PySem.W.keepIn K (.ref f27) = true)
    (a28 : PySem.W.findIn K (.ref C_Block) "paired" = some (some (.ref f28)))
    (i28 : PySem.W.isFn K (.ref f28) = true)
    (l28 : K.lookup f28 = some ⟨oc28, od28, .func (PySem.W.fnOf "paired" "Block.paired" (defArgs s_Block_paired) (defBody s_Block_paired) (defScope s_Block_paired) .none kV28 dc28 pm28 an28 cd28 ct28), sl28⟩)
    (c28 : PySem.W.codeIn K cd28 "Block.paired" = true)
    (k28 : PySem.W.keepIn K (.ref f28) = true)
    (a29 : PySem.W.findIn K (.ref C_Block) "joined" = some (some (.ref f29)))
    (i29 : PySem.W.isFn K (.ref f29) = true)
    (l29 : K.lookup f29 = some ⟨oc29, od29, .func (PySem.W.fnOf "joined" "Block.joined" (defArgs s_Block_joined) (defBody s_Block_joined) (defScope s_Block_joined) .none kV29 dc29 pm29 an29 cd29 ct29), sl29⟩)
    (c29 : PySem.W.codeIn K cd29 "Block.joined" = true)
    (k29 : PySem.W.keepIn K (.ref f29) = true)
    (a30 : PySem.W.nsIn K mainGlobals "next_blocks" = some (some (.ref f30)))
    (l30 : K.lookup f30 = some ⟨oc30, od30, .func (PySem.W.fnOf "next_blocks" "next_blocks" (defArgs s_next_blocks) (defBody s_next_blocks) (defScope s_next_blocks) .none kV30 dc30 pm30 an30 cd30 ct30), sl30⟩)
    (c30 : PySem.W.codeIn K cd30 "next_blocks" = true)
    (k30 : PySem.W.keepIn K (.ref f30) = true)
    (a31 : PySem.W.nsIn K mainGlobals "call_from_sum" = some (some (.ref f31)))
    (l31 : K.lookup f31 = some ⟨oc31, od31, .func (PySem.W.fnOf "call_from_sum" "call_from_sum" (defArgs s_call_from_sum) (defBody s_call_from_sum) (defScope s_call_from_sum) .none kV31 dc31 pm31 an31 cd31 ct31), sl31⟩)
    (c31 : PySem.W.codeIn K cd31 "call_from_sum" = true)
    (k31 : PySem.W.keepIn K (.ref f31) = true)
    (a32 : PySem.W.nsIn K mainGlobals "_law_cell_at" = some (some (.ref f32)))
    (l32 : K.lookup f32 = some ⟨oc32, od32, .func (PySem.W.fnOf "_law_cell_at" "_law_cell_at" (defArgs s_law_cell_at) (defBody s_law_cell_at) (defScope s_law_cell_at) .none kV32 dc32 pm32 an32 cd32 ct32), sl32⟩)
    (c32 : PySem.W.codeIn K cd32 "_law_cell_at" = true)
    (k32 : PySem.W.keepIn K (.ref f32) = true)
    (a33 : PySem.W.nsIn K mainGlobals "_law_source" = some (some (.ref f33)))
    (l33 : K.lookup f33 = some ⟨oc33, od33, .func (PySem.W.fnOf "_law_source" "_law_source" (defArgs s_law_source) (defBody s_law_source) (defScope s_law_source) .none kV33 dc33 pm33 an33 cd33 ct33), sl33⟩)
    (c33 : PySem.W.codeIn K cd33 "_law_source" = true)
    (k33 : PySem.W.keepIn K (.ref f33) = true)
    (a34 : PySem.W.nsIn K mainGlobals "_law_take" = some (some (.ref f34)))
    (l34 : K.lookup f34 = some ⟨oc34, od34, .func (PySem.W.fnOf "_law_take" "_law_take" (defArgs s_law_take) (defBody s_law_take) (defScope s_law_take) .none kV34 dc34 pm34 an34 cd34 ct34), sl34⟩)
    (c34 : PySem.W.codeIn K cd34 "_law_take" = true)
    (k34 : PySem.W.keepIn K (.ref f34) = true)
    (a35 : PySem.W.nsIn K mainGlobals "_law_said" = some (some (.ref f35)))
    (l35 : K.lookup f35 = some ⟨oc35, od35, .func (PySem.W.fnOf "_law_said" "_law_said" (defArgs s_law_said) (defBody s_law_said) (defScope s_law_said) .none kV35 dc35 pm35 an35 cd35 ct35), sl35⟩)
    (c35 : PySem.W.codeIn K cd35 "_law_said" = true)
    (k35 : PySem.W.keepIn K (.ref f35) = true)
    (a36 : PySem.W.nsIn K mainGlobals "_law_bad_number" = some (some (.ref f36)))
    (l36 : K.lookup f36 = some ⟨oc36, od36, .func (PySem.W.fnOf "_law_bad_number" "_law_bad_number" (defArgs s_law_bad_number) (defBody s_law_bad_number) (defScope s_law_bad_number) .none kV36 dc36 pm36 an36 cd36 ct36), sl36⟩)
    (c36 : PySem.W.codeIn K cd36 "_law_bad_number" = true)
    (k36 : PySem.W.keepIn K (.ref f36) = true)
    (a37 : PySem.W.nsIn K mainGlobals "_law_bad_targets" = some (some (.ref f37)))
    (l37 : K.lookup f37 = some ⟨oc37, od37, .func (PySem.W.fnOf "_law_bad_targets" "_law_bad_targets" (defArgs s_law_bad_targets) (defBody s_law_bad_targets) (defScope s_law_bad_targets) .none kV37 dc37 pm37 an37 cd37 ct37), sl37⟩)
    (c37 : PySem.W.codeIn K cd37 "_law_bad_targets" = true)
    (k37 : PySem.W.keepIn K (.ref f37) = true)
    (a38 : PySem.W.nsIn K mainGlobals "_law_scene" = some (some (.ref f38)))
    (l38 : K.lookup f38 = some ⟨oc38, od38, .func (PySem.W.fnOf "_law_scene" "_law_scene" (defArgs s_law_scene) (defBody s_law_scene) (defScope s_law_scene) .none kV38 dc38 pm38 an38 cd38 ct38), sl38⟩)
    (c38 : PySem.W.codeIn K cd38 "_law_scene" = true)
    (k38 : PySem.W.keepIn K (.ref f38) = true)
    (a39 : PySem.W.nsIn K mainGlobals "_law_due" = some (some (.ref f39)))
    (l39 : K.lookup f39 = some ⟨oc39, od39, .func (PySem.W.fnOf "_law_due" "_law_due" (defArgs s_law_due) (defBody s_law_due) (defScope s_law_due) .none kV39 dc39 pm39 an39 cd39 ct39), sl39⟩)
    (c39 : PySem.W.codeIn K cd39 "_law_due" = true)
    (k39 : PySem.W.keepIn K (.ref f39) = true)
    (a40 : PySem.W.nsIn K mainGlobals "_law_all_right" = some (some (.ref f40)))
    (l40 : K.lookup f40 = some ⟨oc40, od40, .func (PySem.W.fnOf "_law_all_right" "_law_all_right" (defArgs s_law_all_right) (defBody s_law_all_right) (defScope s_law_all_right) .none kV40 dc40 pm40 an40 cd40 ct40), sl40⟩)
    (c40 : PySem.W.codeIn K cd40 "_law_all_right" = true)
    (k40 : PySem.W.keepIn K (.ref f40) = true)
    (a41 : PySem.W.nsIn K mainGlobals "_law_large_right" = some (some (.ref f41)))
    (l41 : K.lookup f41 = some ⟨oc41, od41, .func (PySem.W.fnOf "_law_large_right" "_law_large_right" (defArgs s_law_large_right) (defBody s_law_large_right) (defScope s_law_large_right) .none kV41 dc41 pm41 an41 cd41 ct41), sl41⟩)
    (c41 : PySem.W.codeIn K cd41 "_law_large_right" = true)
    (k41 : PySem.W.keepIn K (.ref f41) = true)
    (a42 : PySem.W.nsIn K mainGlobals "law" = some (some (.ref f42)))
    (l42 : K.lookup f42 = some ⟨oc42, od42, .func (PySem.W.fnOf "law" "law" (defArgs s_law) (defBody s_law) (defScope s_law) .none kV42 dc42 pm42 an42 cd42 ct42), sl42⟩)
    (c42 : PySem.W.codeIn K cd42 "law" = true)
    (k42 : PySem.W.keepIn K (.ref f42) = true)
    (xl_InvalidTargets : K.lookup C_InvalidTargets = some (excClassObj nm_InvalidTargets q_InvalidTargets C_InvalidTargets N_InvalidTargets bs_InvalidTargets [.ref B_InvalidTargets, .type "ValueError", .type "Exception", .type "BaseException", .type "object"] true sn_InvalidTargets sub_InvalidTargets ab_InvalidTargets col_InvalidTargets dd_InvalidTargets m0_InvalidTargets m1_InvalidTargets m2_InvalidTargets m3_InvalidTargets m5_InvalidTargets "ValueError.__new__"))
    (sa_InvalidTargets : PySem.W.findIn K (.ref C_InvalidTargets) "__setattr__" = some (some (.builtin "object.__setattr__")))
    (ga_InvalidTargets : PySem.W.findIn K (.ref C_InvalidTargets) "__getattribute__" = some (some (.builtin "BaseException.__getattribute__")))
    (gg_InvalidTargets : PySem.W.findIn K (.ref C_InvalidTargets) "__getattr__" = some none)
    (ti_InvalidTargets : PySem.W.typeIn K (.ref f0) = some (.type "function"))
    (kc_InvalidTargets : PySem.W.keepIn K (.ref C_InvalidTargets) = true)
    (ex_InvalidTargets : PySem.W.subIn K (.ref C_InvalidTargets) (.type "BaseException") = some true)
    (ty_InvalidTargets : PySem.W.typeIn K (.ref C_InvalidTargets) = some (.type "type"))
    (hd_InvalidTargets : PySem.W.hasDictIn K C_InvalidTargets = true)
    (il_InvalidTargets : PySem.W.isClsIn K C_InvalidTargets = true)
    (ss_InvalidTargets : PySem.W.subIn K (.ref C_InvalidTargets) (.ref C_InvalidTargets) = some true)
    (ss_InvalidTargets_SeatError : PySem.W.subIn K (.ref C_InvalidTargets) (.ref C_SeatError) = some true)
    (n_InvalidTargets_index : PySem.W.findIn K (.ref C_InvalidTargets) "index" = some none)
    (xl_InvalidWitness : K.lookup C_InvalidWitness = some (excClassObj nm_InvalidWitness q_InvalidWitness C_InvalidWitness N_InvalidWitness bs_InvalidWitness [.ref B_InvalidWitness, .type "ValueError", .type "Exception", .type "BaseException", .type "object"] true sn_InvalidWitness sub_InvalidWitness ab_InvalidWitness col_InvalidWitness dd_InvalidWitness m0_InvalidWitness m1_InvalidWitness m2_InvalidWitness m3_InvalidWitness m5_InvalidWitness "ValueError.__new__"))
    (sa_InvalidWitness : PySem.W.findIn K (.ref C_InvalidWitness) "__setattr__" = some (some (.builtin "object.__setattr__")))
    (ga_InvalidWitness : PySem.W.findIn K (.ref C_InvalidWitness) "__getattribute__" = some (some (.builtin "BaseException.__getattribute__")))
    (gg_InvalidWitness : PySem.W.findIn K (.ref C_InvalidWitness) "__getattr__" = some none)
    (ti_InvalidWitness : PySem.W.typeIn K (.ref f1) = some (.type "function"))
    (kc_InvalidWitness : PySem.W.keepIn K (.ref C_InvalidWitness) = true)
    (ex_InvalidWitness : PySem.W.subIn K (.ref C_InvalidWitness) (.type "BaseException") = some true)
    (ty_InvalidWitness : PySem.W.typeIn K (.ref C_InvalidWitness) = some (.type "type"))
    (hd_InvalidWitness : PySem.W.hasDictIn K C_InvalidWitness = true)
    (il_InvalidWitness : PySem.W.isClsIn K C_InvalidWitness = true)
    (ss_InvalidWitness : PySem.W.subIn K (.ref C_InvalidWitness) (.ref C_InvalidWitness) = some true)
    (ss_InvalidWitness_SeatError : PySem.W.subIn K (.ref C_InvalidWitness) (.ref C_SeatError) = some true)
    (n_InvalidWitness_index : PySem.W.findIn K (.ref C_InvalidWitness) "index" = some none)
    (xl_InvalidNumber : K.lookup C_InvalidNumber = some (excClassObj nm_InvalidNumber q_InvalidNumber C_InvalidNumber N_InvalidNumber bs_InvalidNumber [.ref B_InvalidNumber, .type "ValueError", .type "Exception", .type "BaseException", .type "object"] true sn_InvalidNumber sub_InvalidNumber ab_InvalidNumber col_InvalidNumber dd_InvalidNumber m0_InvalidNumber m1_InvalidNumber m2_InvalidNumber m3_InvalidNumber m5_InvalidNumber "ValueError.__new__"))
    (sa_InvalidNumber : PySem.W.findIn K (.ref C_InvalidNumber) "__setattr__" = some (some (.builtin "object.__setattr__")))
    (ga_InvalidNumber : PySem.W.findIn K (.ref C_InvalidNumber) "__getattribute__" = some (some (.builtin "BaseException.__getattribute__")))
    (gg_InvalidNumber : PySem.W.findIn K (.ref C_InvalidNumber) "__getattr__" = some none)
    (ti_InvalidNumber : PySem.W.typeIn K (.ref f2) = some (.type "function"))
    (kc_InvalidNumber : PySem.W.keepIn K (.ref C_InvalidNumber) = true)
    (ex_InvalidNumber : PySem.W.subIn K (.ref C_InvalidNumber) (.type "BaseException") = some true)
    (ty_InvalidNumber : PySem.W.typeIn K (.ref C_InvalidNumber) = some (.type "type"))
    (hd_InvalidNumber : PySem.W.hasDictIn K C_InvalidNumber = true)
    (il_InvalidNumber : PySem.W.isClsIn K C_InvalidNumber = true)
    (ss_InvalidNumber : PySem.W.subIn K (.ref C_InvalidNumber) (.ref C_InvalidNumber) = some true)
    (ss_InvalidNumber_SeatError : PySem.W.subIn K (.ref C_InvalidNumber) (.ref C_SeatError) = some true)
    (n_InvalidNumber_name : PySem.W.findIn K (.ref C_InvalidNumber) "name" = some none)
    (xl_TooLarge : K.lookup C_TooLarge = some (excClassObj nm_TooLarge q_TooLarge C_TooLarge N_TooLarge bs_TooLarge [.ref B_TooLarge, .type "ValueError", .type "Exception", .type "BaseException", .type "object"] true sn_TooLarge sub_TooLarge ab_TooLarge col_TooLarge dd_TooLarge m0_TooLarge m1_TooLarge m2_TooLarge m3_TooLarge m5_TooLarge "ValueError.__new__"))
    (sa_TooLarge : PySem.W.findIn K (.ref C_TooLarge) "__setattr__" = some (some (.builtin "object.__setattr__")))
    (ga_TooLarge : PySem.W.findIn K (.ref C_TooLarge) "__getattribute__" = some (some (.builtin "BaseException.__getattribute__")))
    (gg_TooLarge : PySem.W.findIn K (.ref C_TooLarge) "__getattr__" = some none)
    (ti_TooLarge : PySem.W.typeIn K (.ref f3) = some (.type "function"))
    (kc_TooLarge : PySem.W.keepIn K (.ref C_TooLarge) = true)
    (ex_TooLarge : PySem.W.subIn K (.ref C_TooLarge) (.type "BaseException") = some true)
    (ty_TooLarge : PySem.W.typeIn K (.ref C_TooLarge) = some (.type "type"))
    (hd_TooLarge : PySem.W.hasDictIn K C_TooLarge = true)
    (il_TooLarge : PySem.W.isClsIn K C_TooLarge = true)
    (ss_TooLarge : PySem.W.subIn K (.ref C_TooLarge) (.ref C_TooLarge) = some true)
    (ss_TooLarge_SeatError : PySem.W.subIn K (.ref C_TooLarge) (.ref C_SeatError) = some true)
    (n_TooLarge_limit : PySem.W.findIn K (.ref C_TooLarge) "limit" = some none)
    (pg_Block : PySem.W.plainGet K C_Block Str.empty = true)
    (hd_Block : PySem.W.hasDictIn K C_Block = true)
    (po_Block : PySem.W.plainOver K C_Block = true)
    (sa_Block : PySem.W.findIn K (.ref C_Block) "__setattr__" = some (some (.builtin "object.__setattr__")))
    (mk_Block : PySem.W.makesIn K C_Block = true)
    (kc_Block : PySem.W.keepIn K (.ref C_Block) = true)
    (n_Block_mean : PySem.W.findIn K (.ref C_Block) "mean" = some none)
    (n_Block_counts : PySem.W.findIn K (.ref C_Block) "counts" = some none)
    (n_Block_number : PySem.W.findIn K (.ref C_Block) "number" = some none)
    (ig_ : PySem.W.specialIn K (.builtin "object.__class__") "__get__" = some (some (.builtin "getset_descriptor.__get__")))
    (it_ : PySem.W.takesIn K (.builtin "object.__class__") = some true)
    (ic_InvalidNumber : PySem.W.findIn K (.ref C_InvalidNumber) "__class__" = some (some (.builtin "object.__class__")))
    (im_InvalidNumber : PySem.W.mroIn K C_InvalidNumber (.type "object") = some true)
    (ic_InvalidTargets : PySem.W.findIn K (.ref C_InvalidTargets) "__class__" = some (some (.builtin "object.__class__")))
    (im_InvalidTargets : PySem.W.mroIn K C_InvalidTargets (.type "object") = some true)
    (ic_TooLarge : PySem.W.findIn K (.ref C_TooLarge) "__class__" = some (some (.builtin "object.__class__")))
    (im_TooLarge : PySem.W.mroIn K C_TooLarge (.type "object") = some true)
    (ic_InvalidWitness : PySem.W.findIn K (.ref C_InvalidWitness) "__class__" = some (some (.builtin "object.__class__")))
    (im_InvalidWitness : PySem.W.mroIn K C_InvalidWitness (.type "object") = some true)
    (ki_InvalidNumber_InvalidTargets : PySem.W.kitAny K (.ref C_InvalidNumber) [.ref C_InvalidTargets] = some false)
    (ki_InvalidNumber_TooLarge : PySem.W.kitAny K (.ref C_InvalidNumber) [.ref C_TooLarge] = some false)
    (ki_InvalidNumber_InvalidWitness : PySem.W.kitAny K (.ref C_InvalidNumber) [.ref C_InvalidWitness] = some false)
    (ki_InvalidNumber_ValueError : PySem.W.kitAny K (.ref C_InvalidNumber) [.type "ValueError"] = some true)
    (ki_InvalidTargets_InvalidNumber : PySem.W.kitAny K (.ref C_InvalidTargets) [.ref C_InvalidNumber] = some false)
    (ki_InvalidTargets_TooLarge : PySem.W.kitAny K (.ref C_InvalidTargets) [.ref C_TooLarge] = some false)
    (ki_InvalidTargets_InvalidWitness : PySem.W.kitAny K (.ref C_InvalidTargets) [.ref C_InvalidWitness] = some false)
    (ki_InvalidTargets_ValueError : PySem.W.kitAny K (.ref C_InvalidTargets) [.type "ValueError"] = some true)
    (ki_TooLarge_InvalidNumber : PySem.W.kitAny K (.ref C_TooLarge) [.ref C_InvalidNumber] = some false)
    (ki_TooLarge_InvalidTargets : PySem.W.kitAny K (.ref C_TooLarge) [.ref C_InvalidTargets] = some false)
    (ki_TooLarge_InvalidWitness : PySem.W.kitAny K (.ref C_TooLarge) [.ref C_InvalidWitness] = some false)
    (ki_TooLarge_ValueError : PySem.W.kitAny K (.ref C_TooLarge) [.type "ValueError"] = some true)
    (ki_InvalidWitness_InvalidNumber : PySem.W.kitAny K (.ref C_InvalidWitness) [.ref C_InvalidNumber] = some false)
    (ki_InvalidWitness_InvalidTargets : PySem.W.kitAny K (.ref C_InvalidWitness) [.ref C_InvalidTargets] = some false)
    (ki_InvalidWitness_TooLarge : PySem.W.kitAny K (.ref C_InvalidWitness) [.ref C_TooLarge] = some false)
    (ki_InvalidWitness_ValueError : PySem.W.kitAny K (.ref C_InvalidWitness) [.type "ValueError"] = some true)
    (v_MAX_SIZE : PySem.W.nsIn K mainGlobals "MAX_SIZE" = some (some (.int 2000 t_MAX_SIZE)))
    (v_MAX_CALLS : PySem.W.nsIn K mainGlobals "MAX_CALLS" = some (some (.int 40 t_MAX_CALLS)))
    (v_MAX_CHECKED_CALLS : PySem.W.nsIn K mainGlobals "MAX_CHECKED_CALLS" = some (some (.int 1000 t_MAX_CHECKED_CALLS)))
    (z_ValueError : PySem.W.nsIn K mainGlobals "ValueError" = some none)
    (z_abs : PySem.W.nsIn K mainGlobals "abs" = some none)
    (z_bool : PySem.W.nsIn K mainGlobals "bool" = some none)
    (z_dict : PySem.W.nsIn K mainGlobals "dict" = some none)
    (z_enumerate : PySem.W.nsIn K mainGlobals "enumerate" = some none)
    (z_int : PySem.W.nsIn K mainGlobals "int" = some none)
    (z_isinstance : PySem.W.nsIn K mainGlobals "isinstance" = some none)
    (z_len : PySem.W.nsIn K mainGlobals "len" = some none)
    (z_list : PySem.W.nsIn K mainGlobals "list" = some none)
    (z_range : PySem.W.nsIn K mainGlobals "range" = some none)
    (z_reversed : PySem.W.nsIn K mainGlobals "reversed" = some none)
    (z_sum : PySem.W.nsIn K mainGlobals "sum" = some none)
    (z_tuple : PySem.W.nsIn K mainGlobals "tuple" = some none)
    (z_zip : PySem.W.nsIn K mainGlobals "zip" = some none)
    : ∃ T : TX K mg, mg "law" = some (.ref T.f_law) ∧ ∀ (s : Shared) (v : Value), BindsTo s T.fd_law ⟨[v], []⟩ [("_law_script", v)] := by
  obtain ⟨T, h1, h2⟩ := all_mk X G aC_SeatError ex_SeatError ty_SeatError il_SeatError aC_InvalidTargets aC_InvalidWitness aC_InvalidNumber aC_TooLarge aC_Block a0 i0 l0 c0 k0 a1 i1 l1 c1 k1 a2 i2 l2 c2 k2 a3 i3 l3 c3 k3 a4 l4 c4 k4 a5 l5 c5 k5 a6 l6 c6 k6 a7 l7 c7 k7 a8 l8 c8 k8 a9 l9 c9 k9 a10 l10 c10 k10 a11 l11 c11 k11 a12 l12 c12 k12 a13 l13 c13 k13 a14 l14 c14 k14 a15 l15 c15 k15 a16 l16 c16 k16 a17 l17 c17 k17 a18 l18 c18 k18 a19 l19 c19 k19 a20 l20 c20 k20 a21 l21 c21 k21 a22 l22 c22 k22 a23 l23 c23 k23 a24 l24 c24 k24 a25 l25 c25 k25 a26 l26 c26 k26 a27 i27 l27 c27 k27 a28 i28 l28 c28 k28 a29 i29 l29 c29 k29 a30 l30 c30 k30 a31 l31 c31 k31 a32 l32 c32 k32 a33 l33 c33 k33 a34 l34 c34 k34 a35 l35 c35 k35 a36 l36 c36 k36 a37 l37 c37 k37 a38 l38 c38 k38 a39 l39 c39 k39 a40 l40 c40 k40 a41 l41 c41 k41 a42 l42 c42 k42 xl_InvalidTargets sa_InvalidTargets ga_InvalidTargets gg_InvalidTargets ti_InvalidTargets kc_InvalidTargets ex_InvalidTargets ty_InvalidTargets hd_InvalidTargets il_InvalidTargets ss_InvalidTargets ss_InvalidTargets_SeatError n_InvalidTargets_index xl_InvalidWitness sa_InvalidWitness ga_InvalidWitness gg_InvalidWitness ti_InvalidWitness kc_InvalidWitness ex_InvalidWitness ty_InvalidWitness hd_InvalidWitness il_InvalidWitness ss_InvalidWitness ss_InvalidWitness_SeatError n_InvalidWitness_index xl_InvalidNumber sa_InvalidNumber ga_InvalidNumber gg_InvalidNumber ti_InvalidNumber kc_InvalidNumber ex_InvalidNumber ty_InvalidNumber hd_InvalidNumber il_InvalidNumber ss_InvalidNumber ss_InvalidNumber_SeatError n_InvalidNumber_name xl_TooLarge sa_TooLarge ga_TooLarge gg_TooLarge ti_TooLarge kc_TooLarge ex_TooLarge ty_TooLarge hd_TooLarge il_TooLarge ss_TooLarge ss_TooLarge_SeatError n_TooLarge_limit pg_Block hd_Block po_Block sa_Block mk_Block kc_Block n_Block_mean n_Block_counts n_Block_number ig_ it_ ic_InvalidNumber im_InvalidNumber ic_InvalidTargets im_InvalidTargets ic_TooLarge im_TooLarge ic_InvalidWitness im_InvalidWitness ki_InvalidNumber_InvalidTargets ki_InvalidNumber_TooLarge ki_InvalidNumber_InvalidWitness ki_InvalidNumber_ValueError ki_InvalidTargets_InvalidNumber ki_InvalidTargets_TooLarge ki_InvalidTargets_InvalidWitness ki_InvalidTargets_ValueError ki_TooLarge_InvalidNumber ki_TooLarge_InvalidTargets ki_TooLarge_InvalidWitness ki_TooLarge_ValueError ki_InvalidWitness_InvalidNumber ki_InvalidWitness_InvalidTargets ki_InvalidWitness_TooLarge ki_InvalidWitness_ValueError v_MAX_SIZE v_MAX_CALLS v_MAX_CHECKED_CALLS z_ValueError z_abs z_bool z_dict z_enumerate z_int z_isinstance z_len z_list z_range z_reversed z_sum z_tuple z_zip
  exact ⟨T, T.m_law, fun s v => by rw [h2]; exact .of_eq rfl⟩
end CS
open PySem PySem.W PyProof.Rows in
set_option maxRecDepth 100000 in
set_option maxHeartbeats 0 in
theorem PySem.Challenge.cw_calledseats_k57_invalid_arguments_of_sum_holds : PySem.Challenge.rw_calledseats_k57_invalid_arguments_of_sum.Holds := by
  w_on; o_law; k_head; (case hw => w_witness2)
  k_fill
  refine CG.walk_ofGT (l := PySem.Challenge.rw_calledseats_k57_invalid_arguments_of_sum) (n := 63) (k := 10) (x := "_law_script") rfl (by decide) rfl ⟨rfl, by decide, by decide⟩ ?F
  case F =>
    intro w mg fa h Y G hmg tabs seer
    have KX := PySem.W.km_in_of Y
    obtain ⟨T, e1, e2⟩ : ∃ T : CS.TX _ mg, mg "law" = some (.ref T.f_law) ∧ ∀ (s : Shared) (v : Value), BindsTo s T.fd_law ⟨[v], []⟩ [("_law_script", v)] := by
      refine' CS.use_mk KX G ?aC_SeatError ?ex_SeatError ?ty_SeatError ?il_SeatError ?aC_InvalidTargets ?aC_InvalidWitness ?aC_InvalidNumber ?aC_TooLarge ?aC_Block ?a0 ?i0 ?l0 ?c0 ?k0 ?a1 ?i1 ?l1 ?c1 ?k1 ?a2 ?i2 ?l2 ?c2 ?k2 ?a3 ?i3 ?l3 ?c3 ?k3 ?a4 ?l4 ?c4 ?k4 ?a5 ?l5 ?c5 ?k5 ?a6 ?l6 ?c6 ?k6 ?a7 ?l7 ?c7 ?k7 ?a8 ?l8 ?c8 ?k8 ?a9 ?l9 ?c9 ?k9 ?a10 ?l10 ?c10 ?k10 ?a11 ?l11 ?c11 ?k11 ?a12 ?l12 ?c12 ?k12 ?a13 ?l13 ?c13 ?k13 ?a14 ?l14 ?c14 ?k14 ?a15 ?l15 ?c15 ?k15 ?a16 ?l16 ?c16 ?k16 ?a17 ?l17 ?c17 ?k17 ?a18 ?l18 ?c18 ?k18 ?a19 ?l19 ?c19 ?k19 ?a20 ?l20 ?c20 ?k20 ?a21 ?l21 ?c21 ?k21 ?a22 ?l22 ?c22 ?k22 ?a23 ?l23 ?c23 ?k23 ?a24 ?l24 ?c24 ?k24 ?a25 ?l25 ?c25 ?k25 ?a26 ?l26 ?c26 ?k26 ?a27 ?i27 ?l27 ?c27 ?k27 ?a28 ?i28 ?l28 ?c28 ?k28 ?a29 ?i29 ?l29 ?c29 ?k29 ?a30 ?l30 ?c30 ?k30 ?a31 ?l31 ?c31 ?k31 ?a32 ?l32 ?c32 ?k32 ?a33 ?l33 ?c33 ?k33 ?a34 ?l34 ?c34 ?k34 ?a35 ?l35 ?c35 ?k35 ?a36 ?l36 ?c36 ?k36 ?a37 ?l37 ?c37 ?k37 ?a38 ?l38 ?c38 ?k38 ?a39 ?l39 ?c39 ?k39 ?a40 ?l40 ?c40 ?k40 ?a41 ?l41 ?c41 ?k41 ?a42 ?l42 ?c42 ?k42 ?xl_InvalidTargets ?sa_InvalidTargets ?ga_InvalidTargets ?gg_InvalidTargets ?ti_InvalidTargets ?kc_InvalidTargets ?ex_InvalidTargets ?ty_InvalidTargets ?hd_InvalidTargets ?il_InvalidTargets ?ss_InvalidTargets ?ss_InvalidTargets_SeatError ?n_InvalidTargets_index ?xl_InvalidWitness ?sa_InvalidWitness ?ga_InvalidWitness ?gg_InvalidWitness ?ti_InvalidWitness ?kc_InvalidWitness ?ex_InvalidWitness ?ty_InvalidWitness ?hd_InvalidWitness ?il_InvalidWitness ?ss_InvalidWitness ?ss_InvalidWitness_SeatError ?n_InvalidWitness_index ?xl_InvalidNumber ?sa_InvalidNumber ?ga_InvalidNumber ?gg_InvalidNumber ?ti_InvalidNumber ?kc_InvalidNumber ?ex_InvalidNumber ?ty_InvalidNumber ?hd_InvalidNumber ?il_InvalidNumber ?ss_InvalidNumber ?ss_InvalidNumber_SeatError ?n_InvalidNumber_name ?xl_TooLarge ?sa_TooLarge ?ga_TooLarge ?gg_TooLarge ?ti_TooLarge ?kc_TooLarge ?ex_TooLarge ?ty_TooLarge ?hd_TooLarge ?il_TooLarge ?ss_TooLarge ?ss_TooLarge_SeatError ?n_TooLarge_limit ?pg_Block ?hd_Block ?po_Block ?sa_Block ?mk_Block ?kc_Block ?n_Block_mean ?n_Block_counts ?n_Block_number ?ig_ ?it_ ?ic_InvalidNumber ?im_InvalidNumber ?ic_InvalidTargets ?im_InvalidTargets ?ic_TooLarge ?im_TooLarge ?ic_InvalidWitness ?im_InvalidWitness ?ki_InvalidNumber_InvalidTargets ?ki_InvalidNumber_TooLarge ?ki_InvalidNumber_InvalidWitness ?ki_InvalidNumber_ValueError ?ki_InvalidTargets_InvalidNumber ?ki_InvalidTargets_TooLarge ?ki_InvalidTargets_InvalidWitness ?ki_InvalidTargets_ValueError ?ki_TooLarge_InvalidNumber ?ki_TooLarge_InvalidTargets ?ki_TooLarge_InvalidWitness ?ki_TooLarge_ValueError ?ki_InvalidWitness_InvalidNumber ?ki_InvalidWitness_InvalidTargets ?ki_InvalidWitness_TooLarge ?ki_InvalidWitness_ValueError ?v_MAX_SIZE ?v_MAX_CALLS ?v_MAX_CHECKED_CALLS ?z_ValueError ?z_abs ?z_bool ?z_dict ?z_enumerate ?z_int ?z_isinstance ?z_len ?z_list ?z_range ?z_reversed ?z_sum ?z_tuple ?z_zip
      (case aC_SeatError => k_is)
      (case ex_SeatError => k_is)
      (case ty_SeatError => k_is)
      (case il_SeatError => k_is)
      (case aC_InvalidTargets => k_is)
      (case aC_InvalidWitness => k_is)
      (case aC_InvalidNumber => k_is)
      (case aC_TooLarge => k_is)
      (case aC_Block => k_is)
      (case a0 => k_is)
      (case i0 => k_is)
      (case l0 => k_is)
      (case c0 => k_is)
      (case k0 => k_is)
      (case a1 => k_is)
      (case i1 => k_is)
      (case l1 => k_is)
      (case c1 => k_is)
      (case k1 => k_is)
      (case a2 => k_is)
      (case i2 => k_is)
      (case l2 => k_is)
      (case c2 => k_is)
      (case k2 => k_is)
      (case a3 => k_is)
      (case i3 => k_is)
      (case l3 => k_is)
      (case c3 => k_is)
      (case k3 => k_is)
      (case a4 => k_is)
      (case l4 => k_is)
      (case c4 => k_is)
      (case k4 => k_is)
      (case a5 => k_is)
      (case l5 => k_is)
      (case c5 => k_is)
      (case k5 => k_is)
      (case a6 => k_is)
      (case l6 => k_is)
      (case c6 => k_is)
      (case k6 => k_is)
      (case a7 => k_is)
      (case l7 => k_is)
      (case c7 => k_is)
      (case k7 => k_is)
      (case a8 => k_is)
      (case l8 => k_is)
      (case c8 => k_is)
      (case k8 => k_is)
      (case a9 => k_is)
      (case l9 => k_is)
      (case c9 => k_is)
      (case k9 => k_is)
      (case a10 => k_is)
      (case l10 => k_is)
      (case c10 => k_is)
      (case k10 => k_is)
      (case a11 => k_is)
      (case l11 => k_is)
      (case c11 => k_is)
      (case k11 => k_is)
      (case a12 => k_is)
      (case l12 => k_is)
      (case c12 => k_is)
      (case k12 => k_is)
      (case a13 => k_is)
      (case l13 => k_is)
      (case c13 => k_is)
      (case k13 => k_is)
      (case a14 => k_is)
      (case l14 => k_is)
      (case c14 => k_is)
      (case k14 => k_is)
      (case a15 => k_is)
      (case l15 => k_is)
      (case c15 => k_is)
      (case k15 => k_is)
      (case a16 => k_is)
      (case l16 => k_is)
      (case c16 => k_is)
      (case k16 => k_is)
      (case a17 => k_is)
      (case l17 => k_is)
      (case c17 => k_is)
      (case k17 => k_is)
      (case a18 => k_is)
      (case l18 => k_is)
      (case c18 => k_is)
      (case k18 => k_is)
      (case a19 => k_is)
      (case l19 => k_is)
      (case c19 => k_is)
      (case k19 => k_is)
      (case a20 => k_is)
      (case l20 => k_is)
      (case c20 => k_is)
      (case k20 => k_is)
      (case a21 => k_is)
      (case l21 => k_is)
      (case c21 => k_is)
      (case k21 => k_is)
      (case a22 => k_is)
      (case l22 => k_is)
      (case c22 => k_is)
      (case k22 => k_is)
      (case a23 => k_is)
      (case l23 => k_is)
      (case c23 => k_is)
      (case k23 => k_is)
      (case a24 => k_is)
      (case l24 => k_is)
      (case c24 => k_is)
      (case k24 => k_is)
      (case a25 => k_is)
      (case l25 => k_is)
      (case c25 => k_is)
      (case k25 => k_is)
      (case a26 => k_is)
      (case l26 => k_is)
      (case c26 => k_is)
      (case k26 => k_is)
      (case a27 => k_is)
      (case i27 => k_is)
      (case l27 => k_is)
      (case c27 => k_is)
      (case k27 => k_is)
      (case a28 => k_is)
      (case i28 => k_is)
      (case l28 => k_is)
      (case c28 => k_is)
      (case k28 => k_is)
      (case a29 => k_is)
      (case i29 => k_is)
      (case l29 => k_is)
      (case c29 => k_is)
      (case k29 => k_is)
      (case a30 => k_is)
      (case l30 => k_is)
      (case c30 => k_is)
      (case k30 => k_is)
      (case a31 => k_is)
      (case l31 => k_is)
      (case c31 => k_is)
      (case k31 => k_is)
      (case a32 => k_is)
      (case l32 => k_is)
      (case c32 => k_is)
      (case k32 => k_is)
      (case a33 => k_is)
      (case l33 => k_is)
      (case c33 => k_is)
      (case k33 => k_is)
      (case a34 => k_is)
      (case l34 => k_is)
      (case c34 => k_is)
      (case k34 => k_is)
      (case a35 => k_is)
      (case l35 => k_is)
      (case c35 => k_is)
      (case k35 => k_is)
      (case a36 => k_is)
      (case l36 => k_is)
      (case c36 => k_is)
      (case k36 => k_is)
      (case a37 => k_is)
      (case l37 => k_is)
      (case c37 => k_is)
      (case k37 => k_is)
      (case a38 => k_is)
      (case l38 => k_is)
      (case c38 => k_is)
      (case k38 => k_is)
      (case a39 => k_is)
      (case l39 => k_is)
      (case c39 => k_is)
      (case k39 => k_is)
      (case a40 => k_is)
      (case l40 => k_is)
      (case c40 => k_is)
      (case k40 => k_is)
      (case a41 => k_is)
      (case l41 => k_is)
      (case c41 => k_is)
      (case k41 => k_is)
      (case a42 => k_is)
      (case l42 => k_is)
      (case c42 => k_is)
      (case k42 => k_is)
      (case xl_InvalidTargets => k_is)
      (case sa_InvalidTargets => k_is)
      (case ga_InvalidTargets => k_is)
      (case gg_InvalidTargets => k_is)
      (case ti_InvalidTargets => k_is)
      (case kc_InvalidTargets => k_is)
      (case ex_InvalidTargets => k_is)
      (case ty_InvalidTargets => k_is)
      (case hd_InvalidTargets => k_is)
      (case il_InvalidTargets => k_is)
      (case ss_InvalidTargets => k_is)
      (case ss_InvalidTargets_SeatError => k_is)
      (case n_InvalidTargets_index => k_is)
      (case xl_InvalidWitness => k_is)
      (case sa_InvalidWitness => k_is)
      (case ga_InvalidWitness => k_is)
      (case gg_InvalidWitness => k_is)
      (case ti_InvalidWitness => k_is)
      (case kc_InvalidWitness => k_is)
      (case ex_InvalidWitness => k_is)
      (case ty_InvalidWitness => k_is)
      (case hd_InvalidWitness => k_is)
      (case il_InvalidWitness => k_is)
      (case ss_InvalidWitness => k_is)
      (case ss_InvalidWitness_SeatError => k_is)
      (case n_InvalidWitness_index => k_is)
      (case xl_InvalidNumber => k_is)
      (case sa_InvalidNumber => k_is)
      (case ga_InvalidNumber => k_is)
      (case gg_InvalidNumber => k_is)
      (case ti_InvalidNumber => k_is)
      (case kc_InvalidNumber => k_is)
      (case ex_InvalidNumber => k_is)
      (case ty_InvalidNumber => k_is)
      (case hd_InvalidNumber => k_is)
      (case il_InvalidNumber => k_is)
      (case ss_InvalidNumber => k_is)
      (case ss_InvalidNumber_SeatError => k_is)
      (case n_InvalidNumber_name => k_is)
      (case xl_TooLarge => k_is)
      (case sa_TooLarge => k_is)
      (case ga_TooLarge => k_is)
      (case gg_TooLarge => k_is)
      (case ti_TooLarge => k_is)
      (case kc_TooLarge => k_is)
      (case ex_TooLarge => k_is)
      (case ty_TooLarge => k_is)
      (case hd_TooLarge => k_is)
      (case il_TooLarge => k_is)
      (case ss_TooLarge => k_is)
      (case ss_TooLarge_SeatError => k_is)
      (case n_TooLarge_limit => k_is)
      (case pg_Block => k_is)
      (case hd_Block => k_is)
      (case po_Block => k_is)
      (case sa_Block => k_is)
      (case mk_Block => k_is)
      (case kc_Block => k_is)
      (case n_Block_mean => k_is)
      (case n_Block_counts => k_is)
      (case n_Block_number => k_is)
      (case ig_ => k_is)
      (case it_ => k_is)
      (case ic_InvalidNumber => k_is)
      (case im_InvalidNumber => k_is)
      (case ic_InvalidTargets => k_is)
      (case im_InvalidTargets => k_is)
      (case ic_TooLarge => k_is)
      (case im_TooLarge => k_is)
      (case ic_InvalidWitness => k_is)
      (case im_InvalidWitness => k_is)
      (case ki_InvalidNumber_InvalidTargets => kit_is)
      (case ki_InvalidNumber_TooLarge => kit_is)
      (case ki_InvalidNumber_InvalidWitness => kit_is)
      (case ki_InvalidNumber_ValueError => kit_is)
      (case ki_InvalidTargets_InvalidNumber => kit_is)
      (case ki_InvalidTargets_TooLarge => kit_is)
      (case ki_InvalidTargets_InvalidWitness => kit_is)
      (case ki_InvalidTargets_ValueError => kit_is)
      (case ki_TooLarge_InvalidNumber => kit_is)
      (case ki_TooLarge_InvalidTargets => kit_is)
      (case ki_TooLarge_InvalidWitness => kit_is)
      (case ki_TooLarge_ValueError => kit_is)
      (case ki_InvalidWitness_InvalidNumber => kit_is)
      (case ki_InvalidWitness_InvalidTargets => kit_is)
      (case ki_InvalidWitness_TooLarge => kit_is)
      (case ki_InvalidWitness_ValueError => kit_is)
      (case v_MAX_SIZE => k_is)
      (case v_MAX_CALLS => k_is)
      (case v_MAX_CHECKED_CALLS => k_is)
      (case z_ValueError => k_is)
      (case z_abs => k_is)
      (case z_bool => k_is)
      (case z_dict => k_is)
      (case z_enumerate => k_is)
      (case z_int => k_is)
      (case z_isinstance => k_is)
      (case z_len => k_is)
      (case z_list => k_is)
      (case z_range => k_is)
      (case z_reversed => k_is)
      (case z_sum => k_is)
      (case z_tuple => k_is)
      (case z_zip => k_is)
    have e := hmg.symm.trans e1
    cases e
    obtain ⟨c0, p0, a0, d0, z0⟩ := CG.TabAt.at (CG.tab_by tabs (x := "_law_all_right") (by decide +kernel)) KX T.m_law_all_right T.F_law_all_right
    obtain ⟨c1, p1, a1, d1, z1⟩ := CG.TabAt.at (CG.tab_by tabs (x := "_law_large_right") (by decide +kernel)) KX T.m_law_large_right T.F_law_large_right
    refine ⟨_, T.fd_law, CS.sp_law _ p0 p1, [(c0, p0), (c1, p1)], KX, (fun p hp => by simp only [List.mem_cons, List.not_mem_nil, or_false] at hp; rcases hp with rfl | rfl <;> first | exact z0 | exact z1), ?nt, (fun p hp => by simp only [List.mem_cons, List.not_mem_nil, or_false] at hp; rcases hp with rfl | rfl <;> first | exact d0 | exact d1), e2, (fun H a ns hl hT hS => ⟨a, ns, rfl, hS, hl, hT _ (.head _), hT _ (.tail _ (.head _)), fun _ => rfl⟩), fun base _ _ TB NS => CS.ok_law T ⟨c0, p0, a0, TB _ (.head _), c1, p1, a1, TB _ (.tail _ (.head _)), CG.tabs_ne KX G T.m_law_all_right T.m_law_large_right T.F_law_all_right T.F_law_large_right a0 a1 d0 d1 (by kernel_rfl)⟩⟩
    intro p hp
    refine CG.noTab_at KX (by kernel_rfl) ?_
    simp only [List.mem_cons, List.not_mem_nil, or_false] at hp; rcases hp with rfl | rfl <;> first | exact z0 | exact z1
