import PyProof.Rows.All
import Wide.All
import OpenK.AllK
import Wide.FinOn
import HandS.ForMost
import HandS.Zip
import HandS.TupAny
import HandS.TupMul
import HandS.Deep
import HandS.Style
import HandS.SetFor
import HandS.Strs
import HandS.Walk
import HandS.IsInst
import HandS.Conv
import HandS.Wide
import HandS.WideBits
import HandS.Evl
import HandS.MakeKwOnly
import KE.GoesMore
import KE.GoesEnumKw
import KE.KBits
import KE.KExcIs
import HandS.ExcInit
import HandS.ExcField
import HandS.ExcOwn
import HandS.WordsExc
import HandS.DictComp
import HandS.DictTup
import HandS.TupLen
import KE.KDictCopyH
import KE.KDictWalk
import KE.KDictKeyed
import PyProof.WalkInts
import PyProof.SeqI3
import HandS.TryOnly
import HandS.ExcInit
import HandS.ExcField
import HandS.ExcOwn
import HandS.WordsExc
import KE.RegKIsAll
import OpenK.XHead
import PySem.Challenge.RW_calledseats_k04_error_types
set_option Elab.async false
set_option linter.all false
set_option maxRecDepth 100000
set_option maxHeartbeats 4000000


namespace CZ
open PySem PySem.Spec PyProof.Rows L2
open PySem.Sem (wp)
/-- one draw of a zip: strict or not -/
def zdraw (b : Bool) (it : Value) : Sem (Option Value) := if b = true then Builtin.SmallTypes.nextOrEnd it else (Builtin.SmallTypes.nextOf it >>= fun x => pure (some x))
/-- a zip object: f0 what it has handed out, b its strictness -/
abbrev ZipO (h : Heap) (z TI TO : Addr) (f0 : Value) (b : Bool) : Prop := h.get? z = some { cls := .type "zip", data := .fields #[f0, .bool false, .bool b, .ref TI, .ref TO] }
abbrev TupO (h : Heap) (T : Addr) (vs : Array Value) : Prop := h.get? T = some { cls := .type "tuple", data := .seq vs }
theorem val_b (b : Bool) : (Value.bool b == Value.bool true) = b := by cases b <;> rfl
section
variable {prog : Program} {w : World} {A : Around} {E : Value → Shared → Prop} {s : Shared} {b : Bool}
theorem zdraw_item {it : Addr} {fp : List Addr} {n i : Nat} {P : Nat → Value → Prop} {St : Nat → Heap → Prop} {Q : Option Value → Shared → Prop} (D : Draws prog w A it fp n P St) (hi : i < n) (st : St i s.heap)
    (hQ : ∀ x h' tk, P i x → St (i + 1) h' → Heap.SameBut it s.heap h' → Q (some x) { s with heap := h', toks := tk }) : wpAny (model prog w) A (zdraw b (.ref it)) Q E s := by
  cases b with
  | false => exact wpAny_bind (m := Builtin.SmallTypes.nextOf (.ref it)) (D.item i s _ _ hi st fun x h' tk p st' sb => wpAny_pure (hQ x h' tk p st' sb))
  | true =>
    show wpAny _ _ (Builtin.SmallTypes.nextOrEnd (.ref it)) _ _ _
    unfold Builtin.SmallTypes.nextOrEnd
    exact wpAny_bind (wpAny_attempt (D.item i s _ _ hi st fun x h' tk p st' sb => wpAny_pure (hQ x h' tk p st' sb)))
theorem zend_strict {it : Addr} {fp : List Addr} {n : Nat} {P : Nat → Value → Prop} {St : Nat → Heap → Prop} {Q : Option Value → Shared → Prop} (D : Draws prog w A it fp n P St) (st : St n s.heap)
    (hQ : ∀ h', Heap.ExtBut it s.heap h' → Q none { s with heap := h' }) : wpAny (model prog w) A (Builtin.SmallTypes.nextOrEnd (.ref it)) Q E s := by
  unfold Builtin.SmallTypes.nextOrEnd
  refine wpAny_bind (wpAny_attempt (D.done s _ _ st fun h' e eb he => ?_))
  obtain ⟨o, ho, hc⟩ := he
  exact wpAny_bind (wpAny_isInstance (T := "StopIteration") (b := true) ⟨o, ho, hc⟩ isSubtype_stop (wpAny_pure (hQ h' eb)))
theorem upd_tup {T : Addr} {vs : Array Value} {x : Value} {k : Nat} {Q : Unit → Shared → Prop} (hT : TupO s.heap T vs) (hz : vs.size ≤ 8)
    (h : ∀ h', TupO h' T (vs.setIfInBounds k x) → Heap.SameBut T s.heap h' → Q () { s with heap := h' }) : wpAny (model prog w) A (updateSeq T (·.setIfInBounds k x)) Q E s := by
  have z8 : (8 : Nat) ≤ sizeLine := by decide
  refine wpAny_updateSeq hT rfl (h _ ?_ (Heap.SameBut.update ..)) (Nat.le_trans hz z8) (by rw [Array.size_setIfInBounds]; exact Nat.le_succ_of_le (Nat.le_trans hz z8))
  unfold TupO
  rw [Heap.get?_update_self _ hT rfl]
  simp [Obj.mapSeq]
theorem iter_zip {z TI TO : Addr} {f0 : Value} {Q : Value → Shared → Prop} (hz : ZipO s.heap z TI TO f0 b) (h : Q (.ref z) s) : wpAny (model prog w) A (pyIter (.ref z)) Q E s := by
  have hT : s.TypeIs (.ref z) "zip" := ⟨_, hz, rfl⟩
  exact wpAny_pyIter_slot hT F.slot_zip_iter (wpAny_call_entry F.slot_zip_iter hT F.entry_zip_iter (wpAny_pure ⟨_, rfl, "zip", _, hT, F.slot_zip_next.lookup, h⟩) (F.args_zip_iter_1 _))
/-- the tuple that was handed out is let go -/
theorem go_zip {elts : List Expr} {x1} {pos : Pos} {z TI TO T : Addr} {Q : Unit → Shared → Prop} (hz : ZipO s.heap z TI TO (rawInt T) b)
    (hQ : ∀ h', ZipO h' z TI TO .none b → Heap.SameBut z s.heap h' → Q () { s with heap := h' }) : wpAny (model prog w) A (letOwnedTupleGo (.Tuple elts x1 pos) (.ref z) (.ref T)) Q E s := by
  unfold letOwnedTupleGo
  refine wpAny_bind (wpAny_load hz ?_)
  show wpAny _ _ (ite _ _ _) Q E s
  rw [if_pos (by simp)]
  exact wpAny_bind (wpAny_rule (wpAny_setField_rec hz (by simp) fun h' hz' hs' => hQ h' hz' hs'))
/-- the StopIteration that a zip ends by -/
theorem stop_it {Q : Fin → Shared → Prop} (hh : A.handled = none) (hE : ∀ h' e, (∀ c o, s.heap.get? c = some o → h'.get? c = some o) → (∃ o, h'.get? e = some o ∧ o.cls = .type "StopIteration") → E (.ref e) { s with heap := h' }) :
    wpAny (model prog w) A (PySem.Builtin.SmallTypes.stopIteration : Sem Fin) Q E s := by
  unfold PySem.Builtin.SmallTypes.stopIteration
  show wpAny _ _ (newExc (.type "StopIteration") [] >>= _) _ _ _
  refine wpAny_bind ?_
  simp only [newExc, newTuple]
  refine wpAny_bind (wpAny_newObj_type ?_ (by size_fits))
  refine wpAny_bind (m := firstArgMember _ _) (wpAny_of_eq (a := Value.none) (by first | rfl | (simp only [firstArgMember]; rfl)) ?_)
  refine wpAny_newObj_type ?_ (by size_fits)
  simp only [raiseNew]
  refine wpAny_bind (wpAny_handled ?_)
  rw [hh]
  exact wpAny_bind (wpAny_pure (wpAny_throw (hE _ _ (fun c o e => Heap.get?_push_of_some _ (Heap.get?_push_of_some _ e)) ⟨_, Heap.get?_push_size _ rfl, rfl⟩)))
end
end CZ

namespace CZ
open PySem PySem.Spec PyProof.Rows L2
open PySem.Sem (wp)
/-- the cells of a zip over 2 iterators lie apart -/
structure Sep2 (z TI TO i1 i2 : Addr) (fp1 fp2 : List Addr) : Prop where
  zTO : z ≠ TO
  zTI : z ≠ TI
  TOTI : TO ≠ TI
  m1 : i1 ∈ fp1
  z1 : z ∉ fp1
  T1 : TO ∉ fp1
  I1 : TI ≠ i1
  s2_1 : i2 ∉ fp1
  m2 : i2 ∈ fp2
  z2 : z ∉ fp2
  T2 : TO ∉ fp2
  I2 : TI ≠ i2
  s1_2 : i1 ∉ fp2
section
variable {prog : Program} {w : World} {A : Around} {E : Value → Shared → Prop} {s : Shared} {b : Bool}
theorem next_item2 {z TI TO i1 i2 : Addr} {fp1 fp2 : List Addr} {n1 n2 i : Nat} {P1 P2 : Nat → Value → Prop} {St1 St2 : Nat → Heap → Prop} {a1 a2 : Value} {Q : Value → Shared → Prop} (S : Sep2 z TI TO i1 i2 fp1 fp2) (D1 : Draws prog w A i1 fp1 n1 P1 St1) (D2 : Draws prog w A i2 fp2 n2 P2 St2)
    (hz : ZipO s.heap z TI TO .none b) (hTI : TupO s.heap TI #[.ref i1, .ref i2]) (hTO : TupO s.heap TO #[a1, a2]) (st1 : St1 i s.heap) (st2 : St2 i s.heap) (hi1 : i < n1) (hi2 : i < n2)
    (hQ : ∀ x1 x2 h' tk, P1 i x1 → P2 i x2 → ZipO h' z TI TO (rawInt s.heap.objs.size) b → TupO h' TO #[x1, x2] → St1 (i + 1) h' → St2 (i + 1) h' → TupO h' s.heap.objs.size #[x1, x2] →
      (∀ c o, c ≠ z → c ≠ TO → c ≠ i1 → c ≠ i2 → s.heap.get? c = some o → h'.get? c = some o) → Q (.ref s.heap.objs.size) { s with heap := h', toks := tk }) :
    wpAny (model prog w) A (Builtin.«zip.__next__» ⟨[.ref z], []⟩) (fun fin s' => ∃ v, fin = .done (.ret v) ∧ Q v s') E s := by
  obtain ⟨hp, g, d, tk0, os⟩ := s
  refine wpAny_bind (m := field (.ref z) 2) (wpAny_field hz rfl (x := .bool b) rfl ?_)
  refine wpAny_bind (m := field (.ref z) 3) (wpAny_field hz rfl (x := .ref TI) rfl ?_)
  refine wpAny_bind (wpAny_seqItems hTI rfl ?_)
  show wpAny _ _ (Builtin.SmallTypes.ownedTupleIsFree (.ref z) >>= _) _ _ _
  rw [val_b]
  refine wpAny_bind ?_
  unfold Builtin.SmallTypes.ownedTupleIsFree
  refine wpAny_bind (wpAny_field hz rfl (x := .none) rfl (wpAny_pure ?_))
  simp only [if_true]
  refine wpAny_bind (wpAny_rule (wpAny_bind (wpAny_field hz rfl (x := .ref TO) rfl ?_)))
  refine wpAny_bind (wpAny_setField_rec hz (by simp) fun g0 hz0 hs0 => wpAny_bind ?_)
  replace hs0 : Heap.SameBut z hp g0 := hs0
  replace hz0 : ZipO g0 z TI TO .ellipsis b := hz0
  have hT0 : TupO g0 TO #[a1, a2] := hs0.extBut _ _ S.zTO.symm hTO
  have t1_0 : St1 i g0 := D1.frame _ _ _ st1 fun c hc o e => hs0.extBut c o (fun q => S.z1 (q ▸ hc)) e
  have t2_0 : St2 i g0 := D2.frame _ _ _ st2 fun c hc o e => hs0.extBut c o (fun q => S.z2 (q ▸ hc)) e
  have k0 : ∀ c o, c ≠ z → c ≠ TO → c ≠ i1 → c ≠ i2 → hp.get? c = some o → g0.get? c = some o := fun c o q0 _ _ _ e => hs0.extBut c o q0 e
  simp only [List.zipIdx_cons, List.zipIdx_nil, List.forIn_cons, List.forIn_nil]
  refine wpAny_bind (wpAny_bind (wpAny_onRaise (m := zdraw b (.ref i1)) (zdraw_item (s := ⟨g0, g, d, tk0, os⟩) D1 hi1 t1_0 fun x1 d1 tk1 p1 n1 hd1 => ?_)))
  replace hd1 : Heap.SameBut i1 g0 d1 := hd1
  have hU1 : TupO d1 TO #[a1, a2] := hd1.extBut _ _ (fun q => S.T1 (q ▸ S.m1)) hT0
  refine wpAny_bind (wpAny_seqItems (s := ⟨d1, g, d, tk1, os⟩) hU1 rfl ?_)
  refine wpAny_bind (upd_tup (s := ⟨d1, g, d, tk1, os⟩) hU1 (by simp) fun g1 hT1 hs1 => ?_)
  replace hs1 : Heap.SameBut TO d1 g1 := hs1
  replace hT1 : TupO g1 TO #[x1, a2] := hT1
  have hz1 : ZipO g1 z TI TO .ellipsis b := hs1.extBut _ _ S.zTO (hd1.extBut _ _ (fun q => S.z1 (q ▸ S.m1)) hz0)
  have t1_1 : St1 (i + 1) g1 := D1.frame _ _ _ n1 fun c hc o e => hs1.extBut c o (fun q => S.T1 (q ▸ hc)) e
  have t2_1 : St2 i g1 := D2.frame _ _ _ t2_0 fun c hc o e => hs1.extBut c o (fun q => S.T2 (q ▸ hc)) (hd1.extBut c o (fun q => S.s1_2 (q ▸ hc)) e)
  have k1 : ∀ c o, c ≠ z → c ≠ TO → c ≠ i1 → c ≠ i2 → hp.get? c = some o → g1.get? c = some o := fun c o qz qT q1 q2 e => hs1.extBut c o qT (hd1.extBut c o q1 (k0 c o qz qT q1 q2 e))
  have e1 : g1.objs.size = g0.objs.size := by rw [hs1.1, hd1.1]
  refine wpAny_bind (wpAny_letGo (wpAny_pure ?_))
  refine wpAny_bind (wpAny_bind (wpAny_onRaise (m := zdraw b (.ref i2)) (zdraw_item (s := ⟨g1, g, d, tk1, os⟩) D2 hi2 t2_1 fun x2 d2 tk2 p2 n2 hd2 => ?_)))
  replace hd2 : Heap.SameBut i2 g1 d2 := hd2
  have hU2 : TupO d2 TO #[x1, a2] := hd2.extBut _ _ (fun q => S.T2 (q ▸ S.m2)) hT1
  refine wpAny_bind (wpAny_seqItems (s := ⟨d2, g, d, tk2, os⟩) hU2 rfl ?_)
  refine wpAny_bind (upd_tup (s := ⟨d2, g, d, tk2, os⟩) hU2 (by simp) fun g2 hT2 hs2 => ?_)
  replace hs2 : Heap.SameBut TO d2 g2 := hs2
  replace hT2 : TupO g2 TO #[x1, x2] := hT2
  have hz2 : ZipO g2 z TI TO .ellipsis b := hs2.extBut _ _ S.zTO (hd2.extBut _ _ (fun q => S.z2 (q ▸ S.m2)) hz1)
  have t1_2 : St1 (i + 1) g2 := D1.frame _ _ _ t1_1 fun c hc o e => hs2.extBut c o (fun q => S.T1 (q ▸ hc)) (hd2.extBut c o (fun q => S.s2_1 (q ▸ hc)) e)
  have t2_2 : St2 (i + 1) g2 := D2.frame _ _ _ n2 fun c hc o e => hs2.extBut c o (fun q => S.T2 (q ▸ hc)) e
  have k2 : ∀ c o, c ≠ z → c ≠ TO → c ≠ i1 → c ≠ i2 → hp.get? c = some o → g2.get? c = some o := fun c o qz qT q1 q2 e => hs2.extBut c o qT (hd2.extBut c o q2 (k1 c o qz qT q1 q2 e))
  have e2 : g2.objs.size = g1.objs.size := by rw [hs2.1, hd2.1]
  refine wpAny_bind (wpAny_letGo (wpAny_pure ?_))
  refine wpAny_pure ?_
  refine wpAny_bind (wpAny_seqItems (s := ⟨g2, g, d, tk2, os⟩) hT2 rfl ?_)
  refine wpAny_bind (wpAny_newTuple ?_)
  have hsz : g2.objs.size = hp.objs.size := by rw [e2, e1, hs0.1]
  have hlt : z < g2.objs.size := Heap.lt_size hz2
  refine wpAny_bind ?_
  unfold Builtin.SmallTypes.ownedTupleHandOut
  have hy : ZipO (g2.push { cls := .type "tuple", data := .seq #[x1, x2] }) z TI TO .ellipsis b := Heap.get?_push_of_some _ hz2
  refine wpAny_bind (wpAny_setField_rec hy (by simp) fun u1 hu1 hv1 => wpAny_setField_rec hu1 (by simp) fun u2 hu2 hv2 => ?_)
  have up : ∀ c o, c ≠ z → g2.get? c = some o → u2.get? c = some o := fun c o q e => hv2.extBut c o q (hv1.extBut c o q (Heap.get?_push_of_some _ e))
  have hN : TupO u2 g2.objs.size #[x1, x2] := hv2.extBut _ _ (Nat.ne_of_gt hlt) (hv1.extBut _ _ (Nat.ne_of_gt hlt) (Heap.get?_push_size _ rfl))
  have hZ : ZipO u2 z TI TO (rawInt g2.objs.size) b := hu2
  rw [hsz] at hN hZ
  refine wpAny_pure ⟨_, rfl, ?_⟩
  show Q (.ref g2.objs.size) ⟨u2, g, d, tk2, os⟩
  rw [hsz]
  exact hQ x1 x2 u2 tk2 p1 p2 hZ (up _ _ S.zTO.symm hT2) (D1.frame _ _ _ t1_2 fun c hc o e => up c o (fun q => S.z1 (q ▸ hc)) e) (D2.frame _ _ _ t2_2 fun c hc o e => up c o (fun q => S.z2 (q ▸ hc)) e) hN fun c o qz qT q1 q2 e => up c o qz (k2 c o qz qT q1 q2 e)
theorem next_end2 {z TI TO i1 i2 : Addr} {fp1 fp2 : List Addr} {n : Nat} {P1 P2 : Nat → Value → Prop} {St1 St2 : Nat → Heap → Prop} {a1 a2 : Value} {Q : Fin → Shared → Prop} (hh : A.handled = none) (S : Sep2 z TI TO i1 i2 fp1 fp2) (D1 : Draws prog w A i1 fp1 n P1 St1) (D2 : Draws prog w A i2 fp2 n P2 St2)
    (hz : ZipO s.heap z TI TO .none b) (hTI : TupO s.heap TI #[.ref i1, .ref i2]) (hTO : TupO s.heap TO #[a1, a2]) (st1 : St1 n s.heap) (st2 : St2 n s.heap)
    (hE : ∀ h' e, (∀ c o, c ≠ z → c ≠ TO → c ≠ i1 → c ≠ i2 → s.heap.get? c = some o → h'.get? c = some o) → (∃ o, h'.get? e = some o ∧ o.cls = .type "StopIteration") → E (.ref e) { s with heap := h' }) :
    wpAny (model prog w) A (Builtin.«zip.__next__» ⟨[.ref z], []⟩) Q E s := by
  obtain ⟨hp, g, d, tk0, os⟩ := s
  refine wpAny_bind (m := field (.ref z) 2) (wpAny_field hz rfl (x := .bool b) rfl ?_)
  refine wpAny_bind (m := field (.ref z) 3) (wpAny_field hz rfl (x := .ref TI) rfl ?_)
  refine wpAny_bind (wpAny_seqItems hTI rfl ?_)
  show wpAny _ _ (Builtin.SmallTypes.ownedTupleIsFree (.ref z) >>= _) _ _ _
  rw [val_b]
  refine wpAny_bind ?_
  unfold Builtin.SmallTypes.ownedTupleIsFree
  refine wpAny_bind (wpAny_field hz rfl (x := .none) rfl (wpAny_pure ?_))
  simp only [if_true]
  refine wpAny_bind (wpAny_rule (wpAny_bind (wpAny_field hz rfl (x := .ref TO) rfl ?_)))
  refine wpAny_bind (wpAny_setField_rec hz (by simp) fun g0 hz0 hs0 => wpAny_bind ?_)
  replace hs0 : Heap.SameBut z hp g0 := hs0
  replace hz0 : ZipO g0 z TI TO .ellipsis b := hz0
  have t1_0 : St1 n g0 := D1.frame _ _ _ st1 fun c hc o e => hs0.extBut c o (fun q => S.z1 (q ▸ hc)) e
  have t2_0 : St2 n g0 := D2.frame _ _ _ st2 fun c hc o e => hs0.extBut c o (fun q => S.z2 (q ▸ hc)) e
  simp only [List.zipIdx_cons, List.zipIdx_nil, List.forIn_cons, List.forIn_nil]
  refine wpAny_bind (wpAny_bind (wpAny_onRaise ?_))
  cases b with
  | false =>
    refine wpAny_bind (m := Builtin.SmallTypes.nextOf (.ref i1)) (D1.done ⟨g0, g, d, tk0, os⟩ _ _ t1_0 fun y e hy he => ?_)
    replace hy : Heap.ExtBut i1 g0 y := hy
    obtain ⟨oe, hoe, hce⟩ := he
    replace hoe : y.get? e = some oe := hoe
    have hzy : ZipO y z TI TO .ellipsis false := hy _ _ (fun q => S.z1 (q ▸ S.m1)) hz0
    have hez : e ≠ z := fun x => by subst x; rw [hzy] at hoe; cases hoe; simp at hce
    refine wpAny_setField_rec (s := ⟨y, g, d, tk0, os⟩) hzy (by simp) fun y2 _ hv => ?_
    replace hv : Heap.SameBut z y y2 := hv
    exact hE y2 e (fun c o qz qT q1 q2 x => hv.extBut c o qz (hy c o q1 (hs0.extBut c o qz x))) ⟨oe, hv.extBut _ _ hez hoe, hce⟩
  | true =>
    refine zend_strict (s := ⟨g0, g, d, tk0, os⟩) D1 t1_0 fun y hy => ?_
    replace hy : Heap.ExtBut i1 g0 y := hy
    have hzy : ZipO y z TI TO .ellipsis true := hy _ _ (fun q => S.z1 (q ▸ S.m1)) hz0
    have t2_1 : St2 n y := D2.frame _ _ _ t2_0 fun c hc o e => hy c o (fun q => S.s1_2 (q ▸ hc)) e
    refine wpAny_bind (wpAny_setField_rec (s := ⟨y, g, d, tk0, os⟩) hzy (by simp) fun y1 _ hv1 => ?_)
    replace hv1 : Heap.SameBut z y y1 := hv1
    have r2_1 : St2 n y1 := D2.frame _ _ _ t2_1 fun c hc o e => hv1.extBut c o (fun q => S.z2 (q ▸ hc)) e
    have k1 : ∀ c o, c ≠ z → c ≠ TO → c ≠ i1 → c ≠ i2 → hp.get? c = some o → y1.get? c = some o := fun c o qz qT q1 q2 e => hv1.extBut c o qz (hy c o q1 (hs0.extBut c o qz e))
    refine wpAny_bind ?_
    refine wpAny_bind ?_
    simp only [List.drop_succ_cons, List.drop_zero, List.zipIdx_cons, List.zipIdx_nil, List.forIn_cons, List.forIn_nil]
    refine wpAny_bind (wpAny_bind (zend_strict (s := ⟨y1, g, d, tk0, os⟩) D2 r2_1 fun y2 hy2 => ?_))
    replace hy2 : Heap.ExtBut i2 y1 y2 := hy2
    have k2 : ∀ c o, c ≠ z → c ≠ TO → c ≠ i1 → c ≠ i2 → hp.get? c = some o → y2.get? c = some o := fun c o qz qT q1 q2 e => hy2 c o q2 (k1 c o qz qT q1 q2 e)
    refine wpAny_pure ?_
    refine wpAny_pure ?_
    exact wpAny_bind (wpAny_rule (stop_it (s := ⟨y2, g, d, tk0, os⟩) hh fun h2 e kk he => hE h2 e (fun c o qz qT q1 q2 x => kk c o (k2 c o qz qT q1 q2 x)) he))
theorem py_item2 {z TI TO i1 i2 : Addr} {fp1 fp2 : List Addr} {n1 n2 i : Nat} {P1 P2 : Nat → Value → Prop} {St1 St2 : Nat → Heap → Prop} {a1 a2 : Value} {Q : Option Value → Shared → Prop} (S : Sep2 z TI TO i1 i2 fp1 fp2) (D1 : Draws prog w A.in1 i1 fp1 n1 P1 St1) (D2 : Draws prog w A.in1 i2 fp2 n2 P2 St2)
    (hz : ZipO s.heap z TI TO .none b) (hTI : TupO s.heap TI #[.ref i1, .ref i2]) (hTO : TupO s.heap TO #[a1, a2]) (st1 : St1 i s.heap) (st2 : St2 i s.heap) (hi1 : i < n1) (hi2 : i < n2)
    (hQ : ∀ x1 x2 h' tk, P1 i x1 → P2 i x2 → ZipO h' z TI TO (rawInt s.heap.objs.size) b → TupO h' TO #[x1, x2] → St1 (i + 1) h' → St2 (i + 1) h' → TupO h' s.heap.objs.size #[x1, x2] →
      (∀ c o, c ≠ z → c ≠ TO → c ≠ i1 → c ≠ i2 → s.heap.get? c = some o → h'.get? c = some o) → Q (some (.ref s.heap.objs.size)) { s with heap := h', toks := tk }) : wpAny (model prog w) A (pyNext (.ref z)) Q E s := by
  have hT : s.TypeIs (.ref z) "zip" := ⟨_, hz, rfl⟩
  unfold pyNext
  refine wpAny_bind (wpAny_attempt (wpAny_callSpecial?_slot (name := Str.ofString "__next__") hT F.slot_zip_next (wpAny_call_entry F.slot_zip_next hT F.entry_zip_next ?_ (F.args_zip_next_1 _))))
  exact next_item2 S D1 D2 hz hTI hTO st1 st2 hi1 hi2 fun x1 x2 h2 tk p1 p2 q1 q2 u1 u2 q3 q4 => wpAny_pure (hQ x1 x2 h2 tk p1 p2 q1 q2 u1 u2 q3 q4)
theorem py_end2 {z TI TO i1 i2 : Addr} {fp1 fp2 : List Addr} {n : Nat} {P1 P2 : Nat → Value → Prop} {St1 St2 : Nat → Heap → Prop} {a1 a2 : Value} {Q : Option Value → Shared → Prop} (hh : A.handled = none) (S : Sep2 z TI TO i1 i2 fp1 fp2) (D1 : Draws prog w A.in1 i1 fp1 n P1 St1) (D2 : Draws prog w A.in1 i2 fp2 n P2 St2)
    (hz : ZipO s.heap z TI TO .none b) (hTI : TupO s.heap TI #[.ref i1, .ref i2]) (hTO : TupO s.heap TO #[a1, a2]) (st1 : St1 n s.heap) (st2 : St2 n s.heap)
    (hQ : ∀ h', (∀ c o, c ≠ z → c ≠ TO → c ≠ i1 → c ≠ i2 → s.heap.get? c = some o → h'.get? c = some o) → Q none { s with heap := h' }) : wpAny (model prog w) A (pyNext (.ref z)) Q E s := by
  have hT : s.TypeIs (.ref z) "zip" := ⟨_, hz, rfl⟩
  unfold pyNext
  refine wpAny_bind (wpAny_attempt (wpAny_callSpecial?_slot (name := Str.ofString "__next__") hT F.slot_zip_next (wpAny_call_entry F.slot_zip_next hT F.entry_zip_next ?_ (F.args_zip_next_1 _))))
  refine next_end2 (A := A.in1) hh S D1 D2 hz hTI hTO st1 st2 fun h2 e kk he => ?_
  obtain ⟨o, ho, hc⟩ := he
  exact wpAny_bind (wpAny_isInstance (T := "StopIteration") (b := true) ⟨o, ho, hc⟩ isSubtype_stop (wpAny_pure (hQ _ kk)))
theorem typeCall_strict2 (v1 v2 x : Value) : checkTypeCall "zip" ⟨[v1, v2], [(Str.ofString "strict", x)]⟩ = pure () := by kernel_rfl
theorem newCall_strict2 (v1 v2 x : Value) : checkBuiltinCall "zip.__new__" ⟨[.type "zip", v1, v2], [(Str.ofString "strict", x)]⟩ = pure () := by kernel_rfl
theorem initArgs_strict2 (obj v1 v2 x : Value) : argsOk "object.__init__" ⟨[obj, v1, v2], [(Str.ofString "strict", x)]⟩ := by unfold argsOk; kernel_rfl
abbrev sT2 (h : Heap) (o1 o2 : Obj) : Heap := (((h.push o1).push o2).push { cls := .type "tuple", data := .seq #[.ref h.objs.size, .ref (h.push o1).objs.size] })
abbrev sO2 (h : Heap) (o1 o2 : Obj) : Heap := (sT2 h o1 o2).push { cls := .type "tuple", data := .seq #[.none, .none] }
abbrev sZ2 (h : Heap) (o1 o2 : Obj) : Heap := (sO2 h o1 o2).push { cls := .type "zip", data := .fields #[.none, .bool false, .bool true, .ref ((h.push o1).push o2).objs.size, .ref (sT2 h o1 o2).objs.size] }
theorem meets_strict2 {v1 v2 : Value} {o1 o2 : Obj} {G1 G2 : Heap → Prop} (B1 : Begins v1 o1 G1) (B2 : Begins v2 o2 G2) :
    Meets (Builtin.«zip.__new__» ⟨[.type "zip", v1, v2], [(Str.ofString "strict", .bool true)]⟩) (fun _ R s => (G1 s.heap ∧ G2 s.heap) ∧ R (.ok (.ret (.ref (sO2 s.heap o1 o2).objs.size))) { s with heap := (sZ2 s.heap o1 o2) }) :=
  .of_wp fun prog w A R s h => by
    obtain ⟨hp, g, d, tk, os⟩ := s
    obtain ⟨⟨h1, h2⟩, h⟩ := h
    have hsub := sub_zip
    have e1 : (Str.ofString "strict" != ("strict" : Str)) = false := by decide +kernel
    have w1 : ∀ {A' : Around} {E : Value → Shared → Prop} {Q : Value → Shared → Prop}, Q (.ref hp.objs.size) ⟨(hp.push o1), g, d, tk, os⟩ → wpAny (model prog w) A' (pyIter v1) Q E ⟨hp, g, d, tk, os⟩ := fun q => B1.iter prog w _ _ ⟨hp, g, d, tk, os⟩ _ (B1.keeps _ _ h1 fun c u e => e) q
    have w2 : ∀ {A' : Around} {E : Value → Shared → Prop} {Q : Value → Shared → Prop}, Q (.ref (hp.push o1).objs.size) ⟨((hp.push o1).push o2), g, d, tk, os⟩ → wpAny (model prog w) A' (pyIter v2) Q E ⟨(hp.push o1), g, d, tk, os⟩ := fun q => B2.iter prog w _ _ ⟨(hp.push o1), g, d, tk, os⟩ _ (B2.keeps _ _ h2 fun c u e => (Heap.get?_push_of_some _ e)) q
    wp_walk using w1, w2
    exact ⟨_, rfl, h⟩
/-- zip(.., strict=True) of 2: its new cells -/
theorem begins_strict2 {v1 v2 : Value} {o1 o2 : Obj} {G1 G2 : Heap → Prop} {Q : Value → Shared → Prop} (B1 : Begins v1 o1 G1) (B2 : Begins v2 o2 G2) (h1 : G1 s.heap) (h2 : G2 s.heap)
    (h : ∀ h', ZipO h' (s.heap.objs.size + 4) (s.heap.objs.size + 2) (s.heap.objs.size + 3) .none true → TupO h' (s.heap.objs.size + 2) #[.ref s.heap.objs.size, .ref (s.heap.objs.size + 1)] → TupO h' (s.heap.objs.size + 3) #[.none, .none] → h'.get? s.heap.objs.size = some o1 → h'.get? (s.heap.objs.size + 1) = some o2 → (∀ c o, s.heap.get? c = some o → h'.get? c = some o) → Q (.ref (s.heap.objs.size + 4)) { s with heap := h' }) :
    wpAny (model prog w) A (call (.type "zip") [v1, v2] [(Str.ofString "strict", .bool true)]) Q E s := by
  refine callType_newKw F.called_zip (by decide) (typeCall_strict2 _ _ _) (newCall_strict2 _ _ _) (fun obj => initArgs_strict2 obj _ _ _) F.entry_zip_new (meets_strict2 B1 B2) ⟨⟨h1, h2⟩, ?_⟩
  have z1 : (s.heap.push o1).objs.size = s.heap.objs.size + 1 := by rw [Heap.size_push]
  have z2 : ((s.heap.push o1).push o2).objs.size = s.heap.objs.size + 2 := by rw [Heap.size_push, z1]
  have z3 : (sT2 s.heap o1 o2).objs.size = s.heap.objs.size + 3 := by rw [Heap.size_push, z2]
  have z4 : (sO2 s.heap o1 o2).objs.size = s.heap.objs.size + 4 := by rw [Heap.size_push, z3]
  have z5 : (sZ2 s.heap o1 o2).objs.size = s.heap.objs.size + 5 := by rw [Heap.size_push, z4]
  have q0 : (sZ2 s.heap o1 o2).get? s.heap.objs.size = some o1 := (Heap.get?_push_of_some _ (Heap.get?_push_of_some _ (Heap.get?_push_of_some _ (Heap.get?_push_of_some _ (Heap.get?_push_size _ B1.free)))))
  have q1 : (sZ2 s.heap o1 o2).get? (s.heap.push o1).objs.size = some o2 := (Heap.get?_push_of_some _ (Heap.get?_push_of_some _ (Heap.get?_push_of_some _ (Heap.get?_push_size _ B2.free))))
  rw [z1] at q1
  have q2 : (sZ2 s.heap o1 o2).get? ((s.heap.push o1).push o2).objs.size = some ({ cls := .type "tuple", data := .seq #[.ref s.heap.objs.size, .ref (s.heap.push o1).objs.size] } : Obj) := (Heap.get?_push_of_some _ (Heap.get?_push_of_some _ (Heap.get?_push_size _ rfl)))
  rw [z2] at q2
  have q3 : (sZ2 s.heap o1 o2).get? (sT2 s.heap o1 o2).objs.size = some ({ cls := .type "tuple", data := .seq #[.none, .none] } : Obj) := (Heap.get?_push_of_some _ (Heap.get?_push_size _ rfl))
  rw [z3] at q3
  have q4 : (sZ2 s.heap o1 o2).get? (sO2 s.heap o1 o2).objs.size = some ({ cls := .type "zip", data := .fields #[.none, .bool false, .bool true, .ref ((s.heap.push o1).push o2).objs.size, .ref (sT2 s.heap o1 o2).objs.size] } : Obj) := (Heap.get?_push_size _ rfl)
  rw [z4] at q4
  rw [z1] at q2
  rw [z3, z2] at q4
  show _ ∧ _
  rw [z4]
  exact ⟨⟨_, q4, rfl⟩, h _ q4 q2 q3 q0 q1 fun c o e => (Heap.get?_push_of_some _ (Heap.get?_push_of_some _ (Heap.get?_push_of_some _ (Heap.get?_push_of_some _ (Heap.get?_push_of_some _ e)))))⟩
end
/-- the cells of a zip over 3 iterators lie apart -/
structure Sep3 (z TI TO i1 i2 i3 : Addr) (fp1 fp2 fp3 : List Addr) : Prop where
  zTO : z ≠ TO
  zTI : z ≠ TI
  TOTI : TO ≠ TI
  m1 : i1 ∈ fp1
  z1 : z ∉ fp1
  T1 : TO ∉ fp1
  I1 : TI ≠ i1
  s2_1 : i2 ∉ fp1
  s3_1 : i3 ∉ fp1
  m2 : i2 ∈ fp2
  z2 : z ∉ fp2
  T2 : TO ∉ fp2
  I2 : TI ≠ i2
  s1_2 : i1 ∉ fp2
  s3_2 : i3 ∉ fp2
  m3 : i3 ∈ fp3
  z3 : z ∉ fp3
  T3 : TO ∉ fp3
  I3 : TI ≠ i3
  s1_3 : i1 ∉ fp3
  s2_3 : i2 ∉ fp3
section
variable {prog : Program} {w : World} {A : Around} {E : Value → Shared → Prop} {s : Shared} {b : Bool}
theorem next_item3 {z TI TO i1 i2 i3 : Addr} {fp1 fp2 fp3 : List Addr} {n1 n2 n3 i : Nat} {P1 P2 P3 : Nat → Value → Prop} {St1 St2 St3 : Nat → Heap → Prop} {a1 a2 a3 : Value} {Q : Value → Shared → Prop} (S : Sep3 z TI TO i1 i2 i3 fp1 fp2 fp3) (D1 : Draws prog w A i1 fp1 n1 P1 St1) (D2 : Draws prog w A i2 fp2 n2 P2 St2) (D3 : Draws prog w A i3 fp3 n3 P3 St3)
    (hz : ZipO s.heap z TI TO .none b) (hTI : TupO s.heap TI #[.ref i1, .ref i2, .ref i3]) (hTO : TupO s.heap TO #[a1, a2, a3]) (st1 : St1 i s.heap) (st2 : St2 i s.heap) (st3 : St3 i s.heap) (hi1 : i < n1) (hi2 : i < n2) (hi3 : i < n3)
    (hQ : ∀ x1 x2 x3 h' tk, P1 i x1 → P2 i x2 → P3 i x3 → ZipO h' z TI TO (rawInt s.heap.objs.size) b → TupO h' TO #[x1, x2, x3] → St1 (i + 1) h' → St2 (i + 1) h' → St3 (i + 1) h' → TupO h' s.heap.objs.size #[x1, x2, x3] →
      (∀ c o, c ≠ z → c ≠ TO → c ≠ i1 → c ≠ i2 → c ≠ i3 → s.heap.get? c = some o → h'.get? c = some o) → Q (.ref s.heap.objs.size) { s with heap := h', toks := tk }) :
    wpAny (model prog w) A (Builtin.«zip.__next__» ⟨[.ref z], []⟩) (fun fin s' => ∃ v, fin = .done (.ret v) ∧ Q v s') E s := by
  obtain ⟨hp, g, d, tk0, os⟩ := s
  refine wpAny_bind (m := field (.ref z) 2) (wpAny_field hz rfl (x := .bool b) rfl ?_)
  refine wpAny_bind (m := field (.ref z) 3) (wpAny_field hz rfl (x := .ref TI) rfl ?_)
  refine wpAny_bind (wpAny_seqItems hTI rfl ?_)
  show wpAny _ _ (Builtin.SmallTypes.ownedTupleIsFree (.ref z) >>= _) _ _ _
  rw [val_b]
  refine wpAny_bind ?_
  unfold Builtin.SmallTypes.ownedTupleIsFree
  refine wpAny_bind (wpAny_field hz rfl (x := .none) rfl (wpAny_pure ?_))
  simp only [if_true]
  refine wpAny_bind (wpAny_rule (wpAny_bind (wpAny_field hz rfl (x := .ref TO) rfl ?_)))
  refine wpAny_bind (wpAny_setField_rec hz (by simp) fun g0 hz0 hs0 => wpAny_bind ?_)
  replace hs0 : Heap.SameBut z hp g0 := hs0
  replace hz0 : ZipO g0 z TI TO .ellipsis b := hz0
  have hT0 : TupO g0 TO #[a1, a2, a3] := hs0.extBut _ _ S.zTO.symm hTO
  have t1_0 : St1 i g0 := D1.frame _ _ _ st1 fun c hc o e => hs0.extBut c o (fun q => S.z1 (q ▸ hc)) e
  have t2_0 : St2 i g0 := D2.frame _ _ _ st2 fun c hc o e => hs0.extBut c o (fun q => S.z2 (q ▸ hc)) e
  have t3_0 : St3 i g0 := D3.frame _ _ _ st3 fun c hc o e => hs0.extBut c o (fun q => S.z3 (q ▸ hc)) e
  have k0 : ∀ c o, c ≠ z → c ≠ TO → c ≠ i1 → c ≠ i2 → c ≠ i3 → hp.get? c = some o → g0.get? c = some o := fun c o q0 _ _ _ _ e => hs0.extBut c o q0 e
  simp only [List.zipIdx_cons, List.zipIdx_nil, List.forIn_cons, List.forIn_nil]
  refine wpAny_bind (wpAny_bind (wpAny_onRaise (m := zdraw b (.ref i1)) (zdraw_item (s := ⟨g0, g, d, tk0, os⟩) D1 hi1 t1_0 fun x1 d1 tk1 p1 n1 hd1 => ?_)))
  replace hd1 : Heap.SameBut i1 g0 d1 := hd1
  have hU1 : TupO d1 TO #[a1, a2, a3] := hd1.extBut _ _ (fun q => S.T1 (q ▸ S.m1)) hT0
  refine wpAny_bind (wpAny_seqItems (s := ⟨d1, g, d, tk1, os⟩) hU1 rfl ?_)
  refine wpAny_bind (upd_tup (s := ⟨d1, g, d, tk1, os⟩) hU1 (by simp) fun g1 hT1 hs1 => ?_)
  replace hs1 : Heap.SameBut TO d1 g1 := hs1
  replace hT1 : TupO g1 TO #[x1, a2, a3] := hT1
  have hz1 : ZipO g1 z TI TO .ellipsis b := hs1.extBut _ _ S.zTO (hd1.extBut _ _ (fun q => S.z1 (q ▸ S.m1)) hz0)
  have t1_1 : St1 (i + 1) g1 := D1.frame _ _ _ n1 fun c hc o e => hs1.extBut c o (fun q => S.T1 (q ▸ hc)) e
  have t2_1 : St2 i g1 := D2.frame _ _ _ t2_0 fun c hc o e => hs1.extBut c o (fun q => S.T2 (q ▸ hc)) (hd1.extBut c o (fun q => S.s1_2 (q ▸ hc)) e)
  have t3_1 : St3 i g1 := D3.frame _ _ _ t3_0 fun c hc o e => hs1.extBut c o (fun q => S.T3 (q ▸ hc)) (hd1.extBut c o (fun q => S.s1_3 (q ▸ hc)) e)
  have k1 : ∀ c o, c ≠ z → c ≠ TO → c ≠ i1 → c ≠ i2 → c ≠ i3 → hp.get? c = some o → g1.get? c = some o := fun c o qz qT q1 q2 q3 e => hs1.extBut c o qT (hd1.extBut c o q1 (k0 c o qz qT q1 q2 q3 e))
  have e1 : g1.objs.size = g0.objs.size := by rw [hs1.1, hd1.1]
  refine wpAny_bind (wpAny_letGo (wpAny_pure ?_))
  refine wpAny_bind (wpAny_bind (wpAny_onRaise (m := zdraw b (.ref i2)) (zdraw_item (s := ⟨g1, g, d, tk1, os⟩) D2 hi2 t2_1 fun x2 d2 tk2 p2 n2 hd2 => ?_)))
  replace hd2 : Heap.SameBut i2 g1 d2 := hd2
  have hU2 : TupO d2 TO #[x1, a2, a3] := hd2.extBut _ _ (fun q => S.T2 (q ▸ S.m2)) hT1
  refine wpAny_bind (wpAny_seqItems (s := ⟨d2, g, d, tk2, os⟩) hU2 rfl ?_)
  refine wpAny_bind (upd_tup (s := ⟨d2, g, d, tk2, os⟩) hU2 (by simp) fun g2 hT2 hs2 => ?_)
  replace hs2 : Heap.SameBut TO d2 g2 := hs2
  replace hT2 : TupO g2 TO #[x1, x2, a3] := hT2
  have hz2 : ZipO g2 z TI TO .ellipsis b := hs2.extBut _ _ S.zTO (hd2.extBut _ _ (fun q => S.z2 (q ▸ S.m2)) hz1)
  have t1_2 : St1 (i + 1) g2 := D1.frame _ _ _ t1_1 fun c hc o e => hs2.extBut c o (fun q => S.T1 (q ▸ hc)) (hd2.extBut c o (fun q => S.s2_1 (q ▸ hc)) e)
  have t2_2 : St2 (i + 1) g2 := D2.frame _ _ _ n2 fun c hc o e => hs2.extBut c o (fun q => S.T2 (q ▸ hc)) e
  have t3_2 : St3 i g2 := D3.frame _ _ _ t3_1 fun c hc o e => hs2.extBut c o (fun q => S.T3 (q ▸ hc)) (hd2.extBut c o (fun q => S.s2_3 (q ▸ hc)) e)
  have k2 : ∀ c o, c ≠ z → c ≠ TO → c ≠ i1 → c ≠ i2 → c ≠ i3 → hp.get? c = some o → g2.get? c = some o := fun c o qz qT q1 q2 q3 e => hs2.extBut c o qT (hd2.extBut c o q2 (k1 c o qz qT q1 q2 q3 e))
  have e2 : g2.objs.size = g1.objs.size := by rw [hs2.1, hd2.1]
  refine wpAny_bind (wpAny_letGo (wpAny_pure ?_))
  refine wpAny_bind (wpAny_bind (wpAny_onRaise (m := zdraw b (.ref i3)) (zdraw_item (s := ⟨g2, g, d, tk2, os⟩) D3 hi3 t3_2 fun x3 d3 tk3 p3 n3 hd3 => ?_)))
  replace hd3 : Heap.SameBut i3 g2 d3 := hd3
  have hU3 : TupO d3 TO #[x1, x2, a3] := hd3.extBut _ _ (fun q => S.T3 (q ▸ S.m3)) hT2
  refine wpAny_bind (wpAny_seqItems (s := ⟨d3, g, d, tk3, os⟩) hU3 rfl ?_)
  refine wpAny_bind (upd_tup (s := ⟨d3, g, d, tk3, os⟩) hU3 (by simp) fun g3 hT3 hs3 => ?_)
  replace hs3 : Heap.SameBut TO d3 g3 := hs3
  replace hT3 : TupO g3 TO #[x1, x2, x3] := hT3
  have hz3 : ZipO g3 z TI TO .ellipsis b := hs3.extBut _ _ S.zTO (hd3.extBut _ _ (fun q => S.z3 (q ▸ S.m3)) hz2)
  have t1_3 : St1 (i + 1) g3 := D1.frame _ _ _ t1_2 fun c hc o e => hs3.extBut c o (fun q => S.T1 (q ▸ hc)) (hd3.extBut c o (fun q => S.s3_1 (q ▸ hc)) e)
  have t2_3 : St2 (i + 1) g3 := D2.frame _ _ _ t2_2 fun c hc o e => hs3.extBut c o (fun q => S.T2 (q ▸ hc)) (hd3.extBut c o (fun q => S.s3_2 (q ▸ hc)) e)
  have t3_3 : St3 (i + 1) g3 := D3.frame _ _ _ n3 fun c hc o e => hs3.extBut c o (fun q => S.T3 (q ▸ hc)) e
  have k3 : ∀ c o, c ≠ z → c ≠ TO → c ≠ i1 → c ≠ i2 → c ≠ i3 → hp.get? c = some o → g3.get? c = some o := fun c o qz qT q1 q2 q3 e => hs3.extBut c o qT (hd3.extBut c o q3 (k2 c o qz qT q1 q2 q3 e))
  have e3 : g3.objs.size = g2.objs.size := by rw [hs3.1, hd3.1]
  refine wpAny_bind (wpAny_letGo (wpAny_pure ?_))
  refine wpAny_pure ?_
  refine wpAny_bind (wpAny_seqItems (s := ⟨g3, g, d, tk3, os⟩) hT3 rfl ?_)
  refine wpAny_bind (wpAny_newTuple ?_)
  have hsz : g3.objs.size = hp.objs.size := by rw [e3, e2, e1, hs0.1]
  have hlt : z < g3.objs.size := Heap.lt_size hz3
  refine wpAny_bind ?_
  unfold Builtin.SmallTypes.ownedTupleHandOut
  have hy : ZipO (g3.push { cls := .type "tuple", data := .seq #[x1, x2, x3] }) z TI TO .ellipsis b := Heap.get?_push_of_some _ hz3
  refine wpAny_bind (wpAny_setField_rec hy (by simp) fun u1 hu1 hv1 => wpAny_setField_rec hu1 (by simp) fun u2 hu2 hv2 => ?_)
  have up : ∀ c o, c ≠ z → g3.get? c = some o → u2.get? c = some o := fun c o q e => hv2.extBut c o q (hv1.extBut c o q (Heap.get?_push_of_some _ e))
  have hN : TupO u2 g3.objs.size #[x1, x2, x3] := hv2.extBut _ _ (Nat.ne_of_gt hlt) (hv1.extBut _ _ (Nat.ne_of_gt hlt) (Heap.get?_push_size _ rfl))
  have hZ : ZipO u2 z TI TO (rawInt g3.objs.size) b := hu2
  rw [hsz] at hN hZ
  refine wpAny_pure ⟨_, rfl, ?_⟩
  show Q (.ref g3.objs.size) ⟨u2, g, d, tk3, os⟩
  rw [hsz]
  exact hQ x1 x2 x3 u2 tk3 p1 p2 p3 hZ (up _ _ S.zTO.symm hT3) (D1.frame _ _ _ t1_3 fun c hc o e => up c o (fun q => S.z1 (q ▸ hc)) e) (D2.frame _ _ _ t2_3 fun c hc o e => up c o (fun q => S.z2 (q ▸ hc)) e) (D3.frame _ _ _ t3_3 fun c hc o e => up c o (fun q => S.z3 (q ▸ hc)) e) hN fun c o qz qT q1 q2 q3 e => up c o qz (k3 c o qz qT q1 q2 q3 e)
theorem next_end3 {z TI TO i1 i2 i3 : Addr} {fp1 fp2 fp3 : List Addr} {n : Nat} {P1 P2 P3 : Nat → Value → Prop} {St1 St2 St3 : Nat → Heap → Prop} {a1 a2 a3 : Value} {Q : Fin → Shared → Prop} (hh : A.handled = none) (S : Sep3 z TI TO i1 i2 i3 fp1 fp2 fp3) (D1 : Draws prog w A i1 fp1 n P1 St1) (D2 : Draws prog w A i2 fp2 n P2 St2) (D3 : Draws prog w A i3 fp3 n P3 St3)
    (hz : ZipO s.heap z TI TO .none b) (hTI : TupO s.heap TI #[.ref i1, .ref i2, .ref i3]) (hTO : TupO s.heap TO #[a1, a2, a3]) (st1 : St1 n s.heap) (st2 : St2 n s.heap) (st3 : St3 n s.heap)
    (hE : ∀ h' e, (∀ c o, c ≠ z → c ≠ TO → c ≠ i1 → c ≠ i2 → c ≠ i3 → s.heap.get? c = some o → h'.get? c = some o) → (∃ o, h'.get? e = some o ∧ o.cls = .type "StopIteration") → E (.ref e) { s with heap := h' }) :
    wpAny (model prog w) A (Builtin.«zip.__next__» ⟨[.ref z], []⟩) Q E s := by
  obtain ⟨hp, g, d, tk0, os⟩ := s
  refine wpAny_bind (m := field (.ref z) 2) (wpAny_field hz rfl (x := .bool b) rfl ?_)
  refine wpAny_bind (m := field (.ref z) 3) (wpAny_field hz rfl (x := .ref TI) rfl ?_)
  refine wpAny_bind (wpAny_seqItems hTI rfl ?_)
  show wpAny _ _ (Builtin.SmallTypes.ownedTupleIsFree (.ref z) >>= _) _ _ _
  rw [val_b]
  refine wpAny_bind ?_
  unfold Builtin.SmallTypes.ownedTupleIsFree
  refine wpAny_bind (wpAny_field hz rfl (x := .none) rfl (wpAny_pure ?_))
  simp only [if_true]
  refine wpAny_bind (wpAny_rule (wpAny_bind (wpAny_field hz rfl (x := .ref TO) rfl ?_)))
  refine wpAny_bind (wpAny_setField_rec hz (by simp) fun g0 hz0 hs0 => wpAny_bind ?_)
  replace hs0 : Heap.SameBut z hp g0 := hs0
  replace hz0 : ZipO g0 z TI TO .ellipsis b := hz0
  have t1_0 : St1 n g0 := D1.frame _ _ _ st1 fun c hc o e => hs0.extBut c o (fun q => S.z1 (q ▸ hc)) e
  have t2_0 : St2 n g0 := D2.frame _ _ _ st2 fun c hc o e => hs0.extBut c o (fun q => S.z2 (q ▸ hc)) e
  have t3_0 : St3 n g0 := D3.frame _ _ _ st3 fun c hc o e => hs0.extBut c o (fun q => S.z3 (q ▸ hc)) e
  simp only [List.zipIdx_cons, List.zipIdx_nil, List.forIn_cons, List.forIn_nil]
  refine wpAny_bind (wpAny_bind (wpAny_onRaise ?_))
  cases b with
  | false =>
    refine wpAny_bind (m := Builtin.SmallTypes.nextOf (.ref i1)) (D1.done ⟨g0, g, d, tk0, os⟩ _ _ t1_0 fun y e hy he => ?_)
    replace hy : Heap.ExtBut i1 g0 y := hy
    obtain ⟨oe, hoe, hce⟩ := he
    replace hoe : y.get? e = some oe := hoe
    have hzy : ZipO y z TI TO .ellipsis false := hy _ _ (fun q => S.z1 (q ▸ S.m1)) hz0
    have hez : e ≠ z := fun x => by subst x; rw [hzy] at hoe; cases hoe; simp at hce
    refine wpAny_setField_rec (s := ⟨y, g, d, tk0, os⟩) hzy (by simp) fun y2 _ hv => ?_
    replace hv : Heap.SameBut z y y2 := hv
    exact hE y2 e (fun c o qz qT q1 q2 q3 x => hv.extBut c o qz (hy c o q1 (hs0.extBut c o qz x))) ⟨oe, hv.extBut _ _ hez hoe, hce⟩
  | true =>
    refine zend_strict (s := ⟨g0, g, d, tk0, os⟩) D1 t1_0 fun y hy => ?_
    replace hy : Heap.ExtBut i1 g0 y := hy
    have hzy : ZipO y z TI TO .ellipsis true := hy _ _ (fun q => S.z1 (q ▸ S.m1)) hz0
    have t2_1 : St2 n y := D2.frame _ _ _ t2_0 fun c hc o e => hy c o (fun q => S.s1_2 (q ▸ hc)) e
    have t3_1 : St3 n y := D3.frame _ _ _ t3_0 fun c hc o e => hy c o (fun q => S.s1_3 (q ▸ hc)) e
    refine wpAny_bind (wpAny_setField_rec (s := ⟨y, g, d, tk0, os⟩) hzy (by simp) fun y1 _ hv1 => ?_)
    replace hv1 : Heap.SameBut z y y1 := hv1
    have r2_1 : St2 n y1 := D2.frame _ _ _ t2_1 fun c hc o e => hv1.extBut c o (fun q => S.z2 (q ▸ hc)) e
    have r3_1 : St3 n y1 := D3.frame _ _ _ t3_1 fun c hc o e => hv1.extBut c o (fun q => S.z3 (q ▸ hc)) e
    have k1 : ∀ c o, c ≠ z → c ≠ TO → c ≠ i1 → c ≠ i2 → c ≠ i3 → hp.get? c = some o → y1.get? c = some o := fun c o qz qT q1 q2 q3 e => hv1.extBut c o qz (hy c o q1 (hs0.extBut c o qz e))
    refine wpAny_bind ?_
    refine wpAny_bind ?_
    simp only [List.drop_succ_cons, List.drop_zero, List.zipIdx_cons, List.zipIdx_nil, List.forIn_cons, List.forIn_nil]
    refine wpAny_bind (wpAny_bind (zend_strict (s := ⟨y1, g, d, tk0, os⟩) D2 r2_1 fun y2 hy2 => ?_))
    replace hy2 : Heap.ExtBut i2 y1 y2 := hy2
    have k2 : ∀ c o, c ≠ z → c ≠ TO → c ≠ i1 → c ≠ i2 → c ≠ i3 → hp.get? c = some o → y2.get? c = some o := fun c o qz qT q1 q2 q3 e => hy2 c o q2 (k1 c o qz qT q1 q2 q3 e)
    have r3_2 : St3 n y2 := D3.frame _ _ _ r3_1 fun c hc o e => hy2 c o (fun q => S.s2_3 (q ▸ hc)) e
    refine wpAny_pure ?_
    refine wpAny_bind (wpAny_bind (zend_strict (s := ⟨y2, g, d, tk0, os⟩) D3 r3_2 fun y3 hy3 => ?_))
    replace hy3 : Heap.ExtBut i3 y2 y3 := hy3
    have k3 : ∀ c o, c ≠ z → c ≠ TO → c ≠ i1 → c ≠ i2 → c ≠ i3 → hp.get? c = some o → y3.get? c = some o := fun c o qz qT q1 q2 q3 e => hy3 c o q3 (k2 c o qz qT q1 q2 q3 e)
    refine wpAny_pure ?_
    refine wpAny_pure ?_
    exact wpAny_bind (wpAny_rule (stop_it (s := ⟨y3, g, d, tk0, os⟩) hh fun h2 e kk he => hE h2 e (fun c o qz qT q1 q2 q3 x => kk c o (k3 c o qz qT q1 q2 q3 x)) he))
theorem py_item3 {z TI TO i1 i2 i3 : Addr} {fp1 fp2 fp3 : List Addr} {n1 n2 n3 i : Nat} {P1 P2 P3 : Nat → Value → Prop} {St1 St2 St3 : Nat → Heap → Prop} {a1 a2 a3 : Value} {Q : Option Value → Shared → Prop} (S : Sep3 z TI TO i1 i2 i3 fp1 fp2 fp3) (D1 : Draws prog w A.in1 i1 fp1 n1 P1 St1) (D2 : Draws prog w A.in1 i2 fp2 n2 P2 St2) (D3 : Draws prog w A.in1 i3 fp3 n3 P3 St3)
    (hz : ZipO s.heap z TI TO .none b) (hTI : TupO s.heap TI #[.ref i1, .ref i2, .ref i3]) (hTO : TupO s.heap TO #[a1, a2, a3]) (st1 : St1 i s.heap) (st2 : St2 i s.heap) (st3 : St3 i s.heap) (hi1 : i < n1) (hi2 : i < n2) (hi3 : i < n3)
    (hQ : ∀ x1 x2 x3 h' tk, P1 i x1 → P2 i x2 → P3 i x3 → ZipO h' z TI TO (rawInt s.heap.objs.size) b → TupO h' TO #[x1, x2, x3] → St1 (i + 1) h' → St2 (i + 1) h' → St3 (i + 1) h' → TupO h' s.heap.objs.size #[x1, x2, x3] →
      (∀ c o, c ≠ z → c ≠ TO → c ≠ i1 → c ≠ i2 → c ≠ i3 → s.heap.get? c = some o → h'.get? c = some o) → Q (some (.ref s.heap.objs.size)) { s with heap := h', toks := tk }) : wpAny (model prog w) A (pyNext (.ref z)) Q E s := by
  have hT : s.TypeIs (.ref z) "zip" := ⟨_, hz, rfl⟩
  unfold pyNext
  refine wpAny_bind (wpAny_attempt (wpAny_callSpecial?_slot (name := Str.ofString "__next__") hT F.slot_zip_next (wpAny_call_entry F.slot_zip_next hT F.entry_zip_next ?_ (F.args_zip_next_1 _))))
  exact next_item3 S D1 D2 D3 hz hTI hTO st1 st2 st3 hi1 hi2 hi3 fun x1 x2 x3 h2 tk p1 p2 p3 q1 q2 u1 u2 u3 q3 q4 => wpAny_pure (hQ x1 x2 x3 h2 tk p1 p2 p3 q1 q2 u1 u2 u3 q3 q4)
theorem py_end3 {z TI TO i1 i2 i3 : Addr} {fp1 fp2 fp3 : List Addr} {n : Nat} {P1 P2 P3 : Nat → Value → Prop} {St1 St2 St3 : Nat → Heap → Prop} {a1 a2 a3 : Value} {Q : Option Value → Shared → Prop} (hh : A.handled = none) (S : Sep3 z TI TO i1 i2 i3 fp1 fp2 fp3) (D1 : Draws prog w A.in1 i1 fp1 n P1 St1) (D2 : Draws prog w A.in1 i2 fp2 n P2 St2) (D3 : Draws prog w A.in1 i3 fp3 n P3 St3)
    (hz : ZipO s.heap z TI TO .none b) (hTI : TupO s.heap TI #[.ref i1, .ref i2, .ref i3]) (hTO : TupO s.heap TO #[a1, a2, a3]) (st1 : St1 n s.heap) (st2 : St2 n s.heap) (st3 : St3 n s.heap)
    (hQ : ∀ h', (∀ c o, c ≠ z → c ≠ TO → c ≠ i1 → c ≠ i2 → c ≠ i3 → s.heap.get? c = some o → h'.get? c = some o) → Q none { s with heap := h' }) : wpAny (model prog w) A (pyNext (.ref z)) Q E s := by
  have hT : s.TypeIs (.ref z) "zip" := ⟨_, hz, rfl⟩
  unfold pyNext
  refine wpAny_bind (wpAny_attempt (wpAny_callSpecial?_slot (name := Str.ofString "__next__") hT F.slot_zip_next (wpAny_call_entry F.slot_zip_next hT F.entry_zip_next ?_ (F.args_zip_next_1 _))))
  refine next_end3 (A := A.in1) hh S D1 D2 D3 hz hTI hTO st1 st2 st3 fun h2 e kk he => ?_
  obtain ⟨o, ho, hc⟩ := he
  exact wpAny_bind (wpAny_isInstance (T := "StopIteration") (b := true) ⟨o, ho, hc⟩ isSubtype_stop (wpAny_pure (hQ _ kk)))
theorem typeCall_strict3 (v1 v2 v3 x : Value) : checkTypeCall "zip" ⟨[v1, v2, v3], [(Str.ofString "strict", x)]⟩ = pure () := by kernel_rfl
theorem newCall_strict3 (v1 v2 v3 x : Value) : checkBuiltinCall "zip.__new__" ⟨[.type "zip", v1, v2, v3], [(Str.ofString "strict", x)]⟩ = pure () := by kernel_rfl
theorem initArgs_strict3 (obj v1 v2 v3 x : Value) : argsOk "object.__init__" ⟨[obj, v1, v2, v3], [(Str.ofString "strict", x)]⟩ := by unfold argsOk; kernel_rfl
abbrev sT3 (h : Heap) (o1 o2 o3 : Obj) : Heap := ((((h.push o1).push o2).push o3).push { cls := .type "tuple", data := .seq #[.ref h.objs.size, .ref (h.push o1).objs.size, .ref ((h.push o1).push o2).objs.size] })
abbrev sO3 (h : Heap) (o1 o2 o3 : Obj) : Heap := (sT3 h o1 o2 o3).push { cls := .type "tuple", data := .seq #[.none, .none, .none] }
abbrev sZ3 (h : Heap) (o1 o2 o3 : Obj) : Heap := (sO3 h o1 o2 o3).push { cls := .type "zip", data := .fields #[.none, .bool false, .bool true, .ref (((h.push o1).push o2).push o3).objs.size, .ref (sT3 h o1 o2 o3).objs.size] }
theorem meets_strict3 {v1 v2 v3 : Value} {o1 o2 o3 : Obj} {G1 G2 G3 : Heap → Prop} (B1 : Begins v1 o1 G1) (B2 : Begins v2 o2 G2) (B3 : Begins v3 o3 G3) :
    Meets (Builtin.«zip.__new__» ⟨[.type "zip", v1, v2, v3], [(Str.ofString "strict", .bool true)]⟩) (fun _ R s => (G1 s.heap ∧ G2 s.heap ∧ G3 s.heap) ∧ R (.ok (.ret (.ref (sO3 s.heap o1 o2 o3).objs.size))) { s with heap := (sZ3 s.heap o1 o2 o3) }) :=
  .of_wp fun prog w A R s h => by
    obtain ⟨hp, g, d, tk, os⟩ := s
    obtain ⟨⟨h1, h2, h3⟩, h⟩ := h
    have hsub := sub_zip
    have e1 : (Str.ofString "strict" != ("strict" : Str)) = false := by decide +kernel
    have w1 : ∀ {A' : Around} {E : Value → Shared → Prop} {Q : Value → Shared → Prop}, Q (.ref hp.objs.size) ⟨(hp.push o1), g, d, tk, os⟩ → wpAny (model prog w) A' (pyIter v1) Q E ⟨hp, g, d, tk, os⟩ := fun q => B1.iter prog w _ _ ⟨hp, g, d, tk, os⟩ _ (B1.keeps _ _ h1 fun c u e => e) q
    have w2 : ∀ {A' : Around} {E : Value → Shared → Prop} {Q : Value → Shared → Prop}, Q (.ref (hp.push o1).objs.size) ⟨((hp.push o1).push o2), g, d, tk, os⟩ → wpAny (model prog w) A' (pyIter v2) Q E ⟨(hp.push o1), g, d, tk, os⟩ := fun q => B2.iter prog w _ _ ⟨(hp.push o1), g, d, tk, os⟩ _ (B2.keeps _ _ h2 fun c u e => (Heap.get?_push_of_some _ e)) q
    have w3 : ∀ {A' : Around} {E : Value → Shared → Prop} {Q : Value → Shared → Prop}, Q (.ref ((hp.push o1).push o2).objs.size) ⟨(((hp.push o1).push o2).push o3), g, d, tk, os⟩ → wpAny (model prog w) A' (pyIter v3) Q E ⟨((hp.push o1).push o2), g, d, tk, os⟩ := fun q => B3.iter prog w _ _ ⟨((hp.push o1).push o2), g, d, tk, os⟩ _ (B3.keeps _ _ h3 fun c u e => (Heap.get?_push_of_some _ (Heap.get?_push_of_some _ e))) q
    wp_walk using w1, w2, w3
    exact ⟨_, rfl, h⟩
/-- zip(.., strict=True) of 3: its new cells -/
theorem begins_strict3 {v1 v2 v3 : Value} {o1 o2 o3 : Obj} {G1 G2 G3 : Heap → Prop} {Q : Value → Shared → Prop} (B1 : Begins v1 o1 G1) (B2 : Begins v2 o2 G2) (B3 : Begins v3 o3 G3) (h1 : G1 s.heap) (h2 : G2 s.heap) (h3 : G3 s.heap)
    (h : ∀ h', ZipO h' (s.heap.objs.size + 5) (s.heap.objs.size + 3) (s.heap.objs.size + 4) .none true → TupO h' (s.heap.objs.size + 3) #[.ref s.heap.objs.size, .ref (s.heap.objs.size + 1), .ref (s.heap.objs.size + 2)] → TupO h' (s.heap.objs.size + 4) #[.none, .none, .none] → h'.get? s.heap.objs.size = some o1 → h'.get? (s.heap.objs.size + 1) = some o2 → h'.get? (s.heap.objs.size + 2) = some o3 → (∀ c o, s.heap.get? c = some o → h'.get? c = some o) → Q (.ref (s.heap.objs.size + 5)) { s with heap := h' }) :
    wpAny (model prog w) A (call (.type "zip") [v1, v2, v3] [(Str.ofString "strict", .bool true)]) Q E s := by
  refine callType_newKw F.called_zip (by decide) (typeCall_strict3 _ _ _ _) (newCall_strict3 _ _ _ _) (fun obj => initArgs_strict3 obj _ _ _ _) F.entry_zip_new (meets_strict3 B1 B2 B3) ⟨⟨h1, h2, h3⟩, ?_⟩
  have z1 : (s.heap.push o1).objs.size = s.heap.objs.size + 1 := by rw [Heap.size_push]
  have z2 : ((s.heap.push o1).push o2).objs.size = s.heap.objs.size + 2 := by rw [Heap.size_push, z1]
  have z3 : (((s.heap.push o1).push o2).push o3).objs.size = s.heap.objs.size + 3 := by rw [Heap.size_push, z2]
  have z4 : (sT3 s.heap o1 o2 o3).objs.size = s.heap.objs.size + 4 := by rw [Heap.size_push, z3]
  have z5 : (sO3 s.heap o1 o2 o3).objs.size = s.heap.objs.size + 5 := by rw [Heap.size_push, z4]
  have z6 : (sZ3 s.heap o1 o2 o3).objs.size = s.heap.objs.size + 6 := by rw [Heap.size_push, z5]
  have q0 : (sZ3 s.heap o1 o2 o3).get? s.heap.objs.size = some o1 := (Heap.get?_push_of_some _ (Heap.get?_push_of_some _ (Heap.get?_push_of_some _ (Heap.get?_push_of_some _ (Heap.get?_push_of_some _ (Heap.get?_push_size _ B1.free))))))
  have q1 : (sZ3 s.heap o1 o2 o3).get? (s.heap.push o1).objs.size = some o2 := (Heap.get?_push_of_some _ (Heap.get?_push_of_some _ (Heap.get?_push_of_some _ (Heap.get?_push_of_some _ (Heap.get?_push_size _ B2.free)))))
  rw [z1] at q1
  have q2 : (sZ3 s.heap o1 o2 o3).get? ((s.heap.push o1).push o2).objs.size = some o3 := (Heap.get?_push_of_some _ (Heap.get?_push_of_some _ (Heap.get?_push_of_some _ (Heap.get?_push_size _ B3.free))))
  rw [z2] at q2
  have q3 : (sZ3 s.heap o1 o2 o3).get? (((s.heap.push o1).push o2).push o3).objs.size = some ({ cls := .type "tuple", data := .seq #[.ref s.heap.objs.size, .ref (s.heap.push o1).objs.size, .ref ((s.heap.push o1).push o2).objs.size] } : Obj) := (Heap.get?_push_of_some _ (Heap.get?_push_of_some _ (Heap.get?_push_size _ rfl)))
  rw [z3] at q3
  have q4 : (sZ3 s.heap o1 o2 o3).get? (sT3 s.heap o1 o2 o3).objs.size = some ({ cls := .type "tuple", data := .seq #[.none, .none, .none] } : Obj) := (Heap.get?_push_of_some _ (Heap.get?_push_size _ rfl))
  rw [z4] at q4
  have q5 : (sZ3 s.heap o1 o2 o3).get? (sO3 s.heap o1 o2 o3).objs.size = some ({ cls := .type "zip", data := .fields #[.none, .bool false, .bool true, .ref (((s.heap.push o1).push o2).push o3).objs.size, .ref (sT3 s.heap o1 o2 o3).objs.size] } : Obj) := (Heap.get?_push_size _ rfl)
  rw [z5] at q5
  rw [z2, z1] at q3
  rw [z4, z3] at q5
  show _ ∧ _
  rw [z5]
  exact ⟨⟨_, q5, rfl⟩, h _ q5 q3 q4 q0 q1 q2 fun c o e => (Heap.get?_push_of_some _ (Heap.get?_push_of_some _ (Heap.get?_push_of_some _ (Heap.get?_push_of_some _ (Heap.get?_push_of_some _ (Heap.get?_push_of_some _ e))))))⟩
end
end CZ

namespace CZ
open PySem PySem.Spec PyProof.Rows L2
/-- a list (false) or a tuple (true) that is read -/
def SqK (K : PySem.W.Frag) (H : Hp) (p : Bool × Addr) (xs : List V) : Prop := if p.1 = true then SqT K H p.2 xs else SqL K H p.2 xs
def SqIt (h : Heap) (it : Addr) (p : Bool × Addr) (i : Nat) : Prop := if p.1 = true then h.IsTupleIter it p.2 i else h.IsListIter it p.2 i
def SeqIs (h : Heap) (p : Bool × Addr) (its : List Value) : Prop := if p.1 = true then h.IsTuple p.2 its.toArray else h.IsList p.2 its.toArray
/-- the iterator's object as it begins -/
def itO (p : Bool × Addr) : Obj := if p.1 = true then { cls := .type "tuple_iterator", data := .fields #[.ref p.2, .int 0 0] } else { cls := .type "list_iterator", data := .fields #[.ref p.2, .int 0 0] }
theorem SqIt.at {h h' : Heap} {it : Addr} {p : Bool × Addr} {i : Nat} (x : SqIt h it p i) (k : ∀ o, h.get? it = some o → h'.get? it = some o) : SqIt h' it p i := by
  obtain ⟨b, a⟩ := p
  cases b
  · exact Heap.IsListIter.at (show h.IsListIter it a i from x) k
  · exact Heap.IsTupleIter.at (show h.IsTupleIter it a i from x) k
theorem SqIt.obj {h : Heap} {it : Addr} {p : Bool × Addr} {i : Nat} (x : SqIt h it p i) : ∃ o, h.get? it = some o ∧ ∀ v, o.data ≠ .cell v := by
  obtain ⟨b, a⟩ := p
  cases b
  · obtain ⟨o, e, _, d⟩ := (show h.IsListIter it a i from x)
    exact ⟨o, e, fun v q => by rw [d] at q; cases q⟩
  · obtain ⟨o, e, _, d⟩ := (show h.IsTupleIter it a i from x)
    exact ⟨o, e, fun v q => by rw [d] at q; cases q⟩
theorem SqIt.begin {h : Heap} {it : Addr} {p : Bool × Addr} (e : h.get? it = some (itO p)) : SqIt h it p 0 := by
  obtain ⟨b, a⟩ := p
  cases b
  · exact ⟨_, e, rfl, rfl⟩
  · exact ⟨_, e, rfl, rfl⟩
theorem begins_of (p : Bool × Addr) (its : List Value) : Begins (.ref p.2) (itO p) (fun h => SeqIs h p its) := by
  obtain ⟨b, a⟩ := p
  cases b
  · exact begins_list a its.toArray
  · exact begins_tuple a its.toArray
theorem draws_of {prog : Program} {w : World} {A : Around} (hh : A.handled = none) (it : Addr) (p : Bool × Addr) (ne : p.2 ≠ it) (its : List Value) :
    Draws prog w A it [it, p.2] its.toArray.size (fun i v => its.toArray[i]? = some v) (fun i h => SqIt h it p i ∧ SeqIs h p its) := by
  obtain ⟨b, a⟩ := p
  cases b
  · exact Draws.list hh it a ne its.toArray
  · exact Draws.tuple hh it a ne its.toArray
section
variable {X : Cx} {pins : List (Addr × Obj)} {σ : L2.St} {H : Hp} {s : Shared} {p : Bool × Addr} {xs ys : List V}
theorem sq_seq (I : Inv X pins σ H s) (h : SqK X.K H p xs) : ∃ its : List Value, Vals xs its ∧ SeqIs s.heap p its ∧ p.2 < s.heap.objs.size := by
  obtain ⟨b, a⟩ := p
  cases b
  · obtain ⟨its, rv, q, _⟩ := I.list (show SqL X.K H a xs from h)
    exact ⟨its, rv, q.isList, q.lt⟩
  · obtain ⟨its, rv, q, _⟩ := I.tuple (show SqT X.K H a xs from h)
    obtain ⟨o, ho, _⟩ := id q
    exact ⟨its, rv, q, Heap.lt_size ho⟩
theorem sq_inj (I : Inv X pins σ H s) (h : SqK X.K H p xs) (h2 : SqK X.K H p ys) : xs = ys := by
  obtain ⟨b, a⟩ := p
  cases b
  · exact I.list_inj (show SqL X.K H a xs from h) h2
  · exact I.tuple_inj (show SqT X.K H a xs from h) h2
end
/-- what a zip of lists and tuples of one length gives -/
def ItZ (K : PySem.W.Frag) (l : List (Bool × Addr)) : It :=
  ⟨fun i H => ∃ vs : List V, Paired (fun p v => ∃ xs, SqK K H p xs ∧ xs[i]? = some v) l vs,
    fun i H v H2 => ∃ (T : Addr) (vs : List V), v = .ref T ∧ H T = none ∧ H2 = upd H T (.tup vs) ∧ Paired (fun p v => ∀ xs, SqK K H p xs → xs[i]? = some v) l vs,
    fun i H => ∀ p ∈ l, ∃ xs, SqK K H p xs ∧ xs.length = i⟩
def YRow (xss : List (List V)) : Nat → Hp → V → Hp → Prop := fun i H v H2 => ∃ (T : Addr) (vs : List V), v = .ref T ∧ H T = none ∧ H2 = upd H T (.tup vs) ∧ Paired (fun (xs : List V) v => xs[i]? = some v) xss vs
theorem pair_go {K : PySem.W.Frag} {H : Hp} {i : Nat} : ∀ {l : List (Bool × Addr)} {xss : List (List V)}, Paired (fun p xs => SqK K H p xs) l xss → (∀ xs ∈ xss, i < xs.length) → ∃ vs, Paired (fun p v => ∃ xs, SqK K H p xs ∧ xs[i]? = some v) l vs
  | _, _, .nil, _ => ⟨[], .nil⟩
  | _, _, .cons (b := xs) r t, h => by
    obtain ⟨vs, q⟩ := pair_go t fun ys hy => h ys (List.mem_cons_of_mem _ hy)
    have hi := h xs List.mem_cons_self
    exact ⟨xs[i] :: vs, .cons ⟨xs, r, List.getElem?_eq_getElem hi⟩ q⟩
theorem pair_row {K : PySem.W.Frag} {H : Hp} {i : Nat} : ∀ {l : List (Bool × Addr)} {xss : List (List V)} {vs : List V}, Paired (fun p xs => SqK K H p xs) l xss → Paired (fun p v => ∀ xs, SqK K H p xs → xs[i]? = some v) l vs → Paired (fun (xs : List V) v => xs[i]? = some v) xss vs
  | _, _, _, .nil, .nil => .nil
  | _, _, _, .cons r t, .cons q u => .cons (q _ r) (pair_row t u)
theorem pair_stop {K : PySem.W.Frag} {H : Hp} {n : Nat} : ∀ {l : List (Bool × Addr)} {xss : List (List V)}, Paired (fun p xs => SqK K H p xs) l xss → (∀ xs ∈ xss, xs.length = n) → ∀ p ∈ l, ∃ xs, SqK K H p xs ∧ xs.length = n
  | _, _, .nil, _, _, hp => nomatch hp
  | _, _, .cons r t, h, p, hp => by
    rcases List.mem_cons.mp hp with e | hp
    · rw [e]
      exact ⟨_, r, h _ List.mem_cons_self⟩
    · exact pair_stop t (fun ys hy => h ys (List.mem_cons_of_mem _ hy)) p hp
theorem walk_rows {K : PySem.W.Frag} {l : List (Bool × Addr)} {xss : List (List V)} {n : Nat} (hn : ∀ xs ∈ xss, xs.length = n) : Walk (ItZ K l) n (fun H => Paired (fun p xs => SqK K H p xs) l xss) (YRow xss) :=
  ⟨fun i H hi q => pair_go q fun xs hx => by rw [hn xs hx]; exact hi, fun H q => pair_stop q hn, fun i H x H2 _ q y => by
    obtain ⟨T, vs, h1, h2, h3, h4⟩ := y
    exact ⟨T, vs, h1, h2, h3, pair_row q h4⟩⟩
/-- the reading of zip(..): which are tuples is told by the flags -/
def iZ (K : PySem.W.Frag) (fl : List Bool) (ta : TA) : TI := fun σ H R => ta σ H fun vs H1 => ∃ l : List Addr, vs = l.map V.ref ∧ l.length = fl.length ∧ (∀ p ∈ fl.zip l, ∃ xs, SqK K H1 p xs) ∧ R (ItZ K (fl.zip l)) H1
theorem nin_new {M a : Nat} (j k : Nat) (h : a < M) (hjk : j ≠ k) : M + j ∉ [M + k, a] := by
  simp only [List.mem_cons, List.mem_nil_iff, or_false, not_or]
  omega
theorem looks_ty {M : Model} {h : Heap} (T : String) (_ : True) : ∃ k, (k = Keeper.frame ∨ k = Keeper.machine ∨ k = Keeper.boundFrame) ∧ PySem.W.Looks M h (keeperOf (.type T)) k := ⟨_, .inr (.inl rfl), PySem.W.Looks.of_pure rfl⟩
end CZ

namespace CZ
open PySem PySem.Spec PyProof.Rows L2
theorem turn_z2 {P : Program} {w : World} {K : PySem.W.Frag} {elts : List Expr} {kk : Nat} {tpos : Pos} {z TI TO i1 i2 : Addr} {p1 p2 : Bool × Addr} {b : Bool} (S : Sep2 z TI TO i1 i2 [i1, p1.2] [i2, p2.2]) (ne1 : p1.2 ≠ i1) (ne2 : p2.2 ≠ i2) :
    Turn P w K (.Tuple elts kk tpos) (ItZ K [p1, p2]) [z, TI, TO, i1, i2] z (fun i h => ZipO h z TI TO .none b ∧ TupO h TI #[.ref i1, .ref i2] ∧ (∃ a1 a2, TupO h TO #[a1, a2]) ∧ SqIt h i1 p1 i ∧ SqIt h i2 p2 i) where
  mem := by simp
  obj := fun i h st c hc => by
    obtain ⟨hz, hTI, ⟨a1, a2, hTO⟩, h1, h2⟩ := st
    have e : c = z ∨ c = TI ∨ c = TO ∨ c = i1 ∨ c = i2 := by simpa using hc
    rcases e with q | q | q | q | q
    · rw [q]; exact ⟨_, hz, fun v q => nomatch q⟩
    · rw [q]; exact ⟨_, hTI, fun v q => nomatch q⟩
    · rw [q]; exact ⟨_, hTO, fun v q => nomatch q⟩
    · rw [q]; exact h1.obj
    · rw [q]; exact h2.obj
  keep := fun i h h2 st k => by
    obtain ⟨hz, hTI, ⟨a1, a2, hTO⟩, h1, h2⟩ := st
    exact ⟨k z (by simp) _ hz, k TI (by simp) _ hTI, ⟨a1, a2, k TO (by simp) _ hTO⟩, h1.at fun o q => k i1 (by simp) o q, h2.at fun o q => k i2 (by simp) o q⟩
  item := by
    intro X hP hw hK hc i pins s σ H E I hf st hg
    subst hP hw hK
    obtain ⟨hz, hTI, ⟨a1, a2, hTO⟩, h1, h2⟩ := st
    obtain ⟨vs, hv⟩ := hg
    cases hv with
    | cons r1 hv1 =>
      rename_i v1 ws1
      obtain ⟨xs1, hq1, hx1⟩ := r1
      obtain ⟨its1, rv1, q1, _⟩ := sq_seq I hq1
      obtain ⟨u1, hu1, ru1⟩ := rv1.get hx1
      have g1 : its1.toArray[i]? = some u1 := by simpa using hu1
      have l1 : i < its1.toArray.size := by have := (List.getElem?_eq_some_iff.mp hu1).1; simpa using this
      cases hv1 with
      | cons r2 hv2 =>
        rename_i v2 ws2
        obtain ⟨xs2, hq2, hx2⟩ := r2
        obtain ⟨its2, rv2, q2, _⟩ := sq_seq I hq2
        obtain ⟨u2, hu2, ru2⟩ := rv2.get hx2
        have g2 : its2.toArray[i]? = some u2 := by simpa using hu2
        have l2 : i < its2.toArray.size := by have := (List.getElem?_eq_some_iff.mp hu2).1; simpa using this
        cases hv2
        have hzl : z < s.heap.objs.size := Heap.lt_size hz
        refine py_item2 S (draws_of (A := X.A.in1) (I.ok.hd hc) i1 p1 ne1 its1) (draws_of (A := X.A.in1) (I.ok.hd hc) i2 p2 ne2 its2) hz hTI hTO ⟨h1, q1⟩ ⟨h2, q2⟩ l1 l2 fun x1 x2 hA tk y1 y2 z2 TO2 n1 n2 hT hk => ?_
        obtain rfl : u1 = x1 := Option.some.inj (g1.symm.trans y1)
        obtain rfl : u2 = x2 := Option.some.inj (g2.symm.trans y2)
        refine ⟨_, rfl, go_zip (s := { s with heap := hA, toks := tk }) z2 fun hB z3 sb => ?_⟩
        replace sb : Heap.SameBut z hA hB := sb
        have hT2 : hB.get? s.heap.objs.size = some { cls := .type "tuple", data := .seq #[u1, u2] } := (sb.2 _ (Nat.ne_of_gt hzl)).trans hT
        have new : ObjOk X.prog X.w (upd H s.heap.objs.size (.tup [v1, v2])) hB s.heap.objs.size (.tup [v1, v2]) := ⟨by show 2 ≤ sizeLine; decide, [u1, u2], (.cons ru1 (.cons ru2 .nil)), ⟨_, hT2, rfl, _, rfl⟩⟩
        have I1 : Inv X pins σ (upd H s.heap.objs.size (.tup [v1, v2])) { s with heap := hB, toks := tk } := I.turnedNew (t' := tk) (ch := [z, TI, TO, i1, i2]) (fun c o hb q => (sb.2 c (fun q => hb (by simp [q]))).trans (hk c o (fun q => hb (by simp [q])) (fun q => hb (by simp [q])) (fun q => hb (by simp [q])) (fun q => hb (by simp [q])) q)) hf (Nat.le_refl _) new
        refine ⟨.ref s.heap.objs.size, _, I1, rfl, ⟨_, _, rfl, I.hok.fresh (Nat.le_refl _), rfl, (.cons (fun l hl => by rw [sq_inj I hl hq1]; exact hx1) (.cons (fun l hl => by rw [sq_inj I hl hq2]; exact hx2) .nil))⟩, ⟨z3, (sb.2 _ S.zTI.symm).trans (hk _ _ S.zTI.symm S.TOTI.symm S.I1 S.I2 hTI), ⟨u1, u2, (sb.2 _ S.zTO.symm).trans TO2⟩, (n1.1.at fun o q => (sb.2 _ (fun q => S.z1 (by rw [← q]; exact S.m1))).trans q), (n2.1.at fun o q => (sb.2 _ (fun q => S.z2 (by rw [← q]; exact S.m2))).trans q)⟩, fun c hcm => ?_⟩
        have hlt : c < s.heap.objs.size := by
          have e : c = z ∨ c = TI ∨ c = TO ∨ c = i1 ∨ c = i2 := by simpa using hcm
          rcases e with q | q | q | q | q
          · rw [q]; exact hzl
          · rw [q]; exact Heap.lt_size hTI
          · rw [q]; exact Heap.lt_size hTO
          · rw [q]; obtain ⟨_, e1, _⟩ := h1.obj; exact Heap.lt_size e1
          · rw [q]; obtain ⟨_, e1, _⟩ := h2.obj; exact Heap.lt_size e1
        rw [upd_ne (Nat.ne_of_lt hlt)]
        exact (hf c hcm).1
  done := by
    intro X hP hw hK hc i pins s σ H E I hf st hg
    subst hP hw hK
    obtain ⟨hz, hTI, ⟨a1, a2, hTO⟩, h1, h2⟩ := st
    obtain ⟨xs1, hq1, hx1⟩ := hg p1 (by simp)
    obtain ⟨its1, rv1, q1, _⟩ := sq_seq I hq1
    have l1 : its1.toArray.size = i := by have := rv1.length; simp; omega
    have D1 := draws_of (prog := X.prog) (w := X.w) (A := X.A.in1) (I.ok.hd hc) i1 p1 ne1 its1
    rw [l1] at D1
    obtain ⟨xs2, hq2, hx2⟩ := hg p2 (by simp)
    obtain ⟨its2, rv2, q2, _⟩ := sq_seq I hq2
    have l2 : its2.toArray.size = i := by have := rv2.length; simp; omega
    have D2 := draws_of (prog := X.prog) (w := X.w) (A := X.A.in1) (I.ok.hd hc) i2 p2 ne2 its2
    rw [l2] at D2
    exact py_end2 (I.ok.hd hc) S D1 D2 hz hTI hTO ⟨h1, q1⟩ ⟨h2, q2⟩ fun h2 hk => ⟨rfl, I.turnedL (t' := s.toks) (ch := [z, TI, TO, i1, i2]) (fun c o hb q => hk c o (fun q => hb (by simp [q])) (fun q => hb (by simp [q])) (fun q => hb (by simp [q])) (fun q => hb (by simp [q])) q) hf⟩
  self := fun A i s Q E st h => iter_zip st.1 h
theorem sep_new2 {M : Nat} {p1 p2 : Bool × Addr} (h1 : p1.2 < M) (h2 : p2.2 < M) : Sep2 (M + 4) (M + 2) (M + 3) M (M + 1) [M, p1.2] [M + 1, p2.2] where
  zTO := by show (M + 4 : Nat) ≠ M + 3; omega
  zTI := by show (M + 4 : Nat) ≠ M + 2; omega
  TOTI := by show (M + 3 : Nat) ≠ M + 2; omega
  m1 := by simp
  z1 := nin_new (a := p1.2) 4 0 h1 (by decide)
  T1 := nin_new (a := p1.2) 3 0 h1 (by decide)
  I1 := by show (M + 2 : Nat) ≠ M; omega
  s2_1 := nin_new (a := p1.2) 1 0 h1 (by decide)
  m2 := by simp
  z2 := nin_new (a := p2.2) 4 1 h2 (by decide)
  T2 := nin_new (a := p2.2) 3 1 h2 (by decide)
  I2 := by show (M + 2 : Nat) ≠ M + 1; omega
  s1_2 := nin_new (a := p2.2) 0 1 h2 (by decide)
theorem pi_z2s {X : Cx} {e1 e2 : Expr} {ta : TA} {p pos tpos : Pos} {elts : List Expr} {kk : Nat} {jj : Nat} {kp kp2 : Pos} {fl : List Bool} (hfl : fl.length = 2) (hg : Gl X "zip") (hm : X.mg "zip" = none) (ha : PA X [e1, e2] ta)
    (hs : starEach [e1, e2] X.env = (false, eval e1 X.env) :: starEach [e2] X.env := by rfl) (hpl : (backTo pos (starEach [e2] X.env)).any (·.1) = false := by rfl) :
    PI X (.Tuple elts kk tpos) (.Call (.Name "zip" p) [e1, e2] [⟨some "strict", .Constant (.bool true) jj kp, kp2⟩] pos) (iZ X.K fl ta) := by
  refine ⟨fun pins s σ H R I h => ?_⟩
  refine wpAny_Call_Name_kw (ld_blt I hg hm PyProof.Rows.boot_zip ?_)
  refine PySem.W.callWith_of (P := fun _ => True) ?_ (fun h _ => looks_ty "zip" True.intro) ?_
  · show ((backTo pos (starEach _ X.env)).any (·.1) || false) = false
    rw [hs, Bool.or_false]
    exact hpl
  have he : backTo pos (starEach [e1, e2] X.env) = (false, eval e1 X.env) :: backTo pos (starEach [e2] X.env) := by rw [hs]; rfl
  rw [he]
  refine PyProof.Rows.evalArgs_kwB rfl ?_
  rw [← he]
  refine thn (ha.run pos pins s σ H _ I h) fun us s0 ⟨vs, H1, I0, r1, q1⟩ => ?_
  refine PyProof.Rows.kws_cons (Constant_bool (PyProof.Rows.kws_nil ⟨True.intro, ?_⟩))
  have I1 := I0
  obtain ⟨l, ev, el, hl, q1⟩ := q1
  subst ev
  obtain ⟨b1, b2, rfl⟩ : ∃ b1 b2 : Bool, fl = [b1, b2] := match fl, hfl with | [_, _], _ => ⟨_, _, rfl⟩
  obtain ⟨c1, c2, rfl⟩ : ∃ c1 c2 : Addr, l = [c1, c2] := match l, el with | [_, _], _ => ⟨_, _, rfl⟩
  cases r1 with
  | cons r_1 rr1 =>
    cases r_1
    cases rr1 with
    | cons r_2 rr2 =>
      cases r_2
      cases rr2
      obtain ⟨xs1, hq1⟩ := hl (b1, c1) (by simp)
      obtain ⟨its1, rv1, g1, lt1⟩ := sq_seq I1 hq1
      obtain ⟨xs2, hq2⟩ := hl (b2, c2) (by simp)
      obtain ⟨its2, rv2, g2, lt2⟩ := sq_seq I1 hq2
      have frs : ∀ c, c ∈ [s0.heap.objs.size + 4, s0.heap.objs.size + 2, s0.heap.objs.size + 3, s0.heap.objs.size, s0.heap.objs.size + 1] → FpOk X pins H1 c := fun c hcm => by
        have e : c = s0.heap.objs.size + 4 ∨ c = s0.heap.objs.size + 2 ∨ c = s0.heap.objs.size + 3 ∨ c = s0.heap.objs.size ∨ c = s0.heap.objs.size + 1 := by simpa using hcm
        have hle : s0.heap.objs.size ≤ c := by
          rcases e with q | q | q | q | q
          · rw [q]; exact Nat.le_add_right _ _
          · rw [q]; exact Nat.le_add_right _ _
          · rw [q]; exact Nat.le_add_right _ _
          · rw [q]; exact Nat.le_refl _
          · rw [q]; exact Nat.le_add_right _ _
        exact I1.fpOk hle (I1.hok.fresh hle)
      refine begins_strict2 (begins_of (b1, c1) its1) (begins_of (b2, c2) its2) g1 g2 fun hA hz hTI hTO y1 y2 kk => iter_zip hz ?_
      have I2 : Inv X pins σ H1 { s0 with heap := hA } := I1.kept (t' := s0.toks) kk
      exact ⟨_, [s0.heap.objs.size + 4, s0.heap.objs.size + 2, s0.heap.objs.size + 3, s0.heap.objs.size, s0.heap.objs.size + 1], _, _, H1, rfl, I2, turn_z2 (sep_new2 lt1 lt2) (Nat.ne_of_lt lt1) (Nat.ne_of_lt (Nat.lt_of_lt_of_le lt2 (Nat.le_add_right _ 1))), ⟨hz, hTI, ⟨_, _, hTO⟩, SqIt.begin y1, SqIt.begin y2⟩, frs, q1⟩
theorem pi_z2 {X : Cx} {e1 e2 : Expr} {ta : TA} {p pos tpos : Pos} {elts : List Expr} {kk : Nat} {fl : List Bool} (hfl : fl.length = 2) (hg : Gl X "zip") (hm : X.mg "zip" = none) (ha : PA X [e1, e2] ta)
    (hs : starEach [e1, e2] X.env = (false, eval e1 X.env) :: starEach [e2] X.env := by rfl) (hpl : (backTo pos (starEach [e2] X.env)).any (·.1) = false := by rfl) :
    PI X (.Tuple elts kk tpos) (.Call (.Name "zip" p) [e1, e2] [] pos) (iZ X.K fl ta) := by
  refine ⟨fun pins s σ H R I h => ?_⟩
  refine Call_ (ld_blt I hg hm PyProof.Rows.boot_zip (PyProof.Rows.callWith_type1 (thn (ha.run pos pins s σ H _ I h) fun us s0 ⟨vs, H1, I1, r1, q1⟩ => ?_) hs hpl))
  obtain ⟨l, ev, el, hl, q1⟩ := q1
  subst ev
  obtain ⟨b1, b2, rfl⟩ : ∃ b1 b2 : Bool, fl = [b1, b2] := match fl, hfl with | [_, _], _ => ⟨_, _, rfl⟩
  obtain ⟨c1, c2, rfl⟩ : ∃ c1 c2 : Addr, l = [c1, c2] := match l, el with | [_, _], _ => ⟨_, _, rfl⟩
  cases r1 with
  | cons r_1 rr1 =>
    cases r_1
    cases rr1 with
    | cons r_2 rr2 =>
      cases r_2
      cases rr2
      obtain ⟨xs1, hq1⟩ := hl (b1, c1) (by simp)
      obtain ⟨its1, rv1, g1, lt1⟩ := sq_seq I1 hq1
      obtain ⟨xs2, hq2⟩ := hl (b2, c2) (by simp)
      obtain ⟨its2, rv2, g2, lt2⟩ := sq_seq I1 hq2
      have frs : ∀ c, c ∈ [s0.heap.objs.size + 4, s0.heap.objs.size + 2, s0.heap.objs.size + 3, s0.heap.objs.size, s0.heap.objs.size + 1] → FpOk X pins H1 c := fun c hcm => by
        have e : c = s0.heap.objs.size + 4 ∨ c = s0.heap.objs.size + 2 ∨ c = s0.heap.objs.size + 3 ∨ c = s0.heap.objs.size ∨ c = s0.heap.objs.size + 1 := by simpa using hcm
        have hle : s0.heap.objs.size ≤ c := by
          rcases e with q | q | q | q | q
          · rw [q]; exact Nat.le_add_right _ _
          · rw [q]; exact Nat.le_add_right _ _
          · rw [q]; exact Nat.le_add_right _ _
          · rw [q]; exact Nat.le_refl _
          · rw [q]; exact Nat.le_add_right _ _
        exact I1.fpOk hle (I1.hok.fresh hle)
      refine zip_begins2 (begins_of (b1, c1) its1) (begins_of (b2, c2) its2) g1 g2 fun hA hz hTI hTO y1 y2 _ kk => iter_zip (b := false) hz ?_
      have I2 : Inv X pins σ H1 { s0 with heap := hA } := I1.kept (t' := s0.toks) kk
      exact ⟨_, [s0.heap.objs.size + 4, s0.heap.objs.size + 2, s0.heap.objs.size + 3, s0.heap.objs.size, s0.heap.objs.size + 1], _, _, H1, rfl, I2, turn_z2 (sep_new2 lt1 lt2) (Nat.ne_of_lt lt1) (Nat.ne_of_lt (Nat.lt_of_lt_of_le lt2 (Nat.le_add_right _ 1))), ⟨hz, hTI, ⟨_, _, hTO⟩, SqIt.begin y1, SqIt.begin y2⟩, frs, q1⟩
theorem turn_z3 {P : Program} {w : World} {K : PySem.W.Frag} {elts : List Expr} {kk : Nat} {tpos : Pos} {z TI TO i1 i2 i3 : Addr} {p1 p2 p3 : Bool × Addr} {b : Bool} (S : Sep3 z TI TO i1 i2 i3 [i1, p1.2] [i2, p2.2] [i3, p3.2]) (ne1 : p1.2 ≠ i1) (ne2 : p2.2 ≠ i2) (ne3 : p3.2 ≠ i3) :
    Turn P w K (.Tuple elts kk tpos) (ItZ K [p1, p2, p3]) [z, TI, TO, i1, i2, i3] z (fun i h => ZipO h z TI TO .none b ∧ TupO h TI #[.ref i1, .ref i2, .ref i3] ∧ (∃ a1 a2 a3, TupO h TO #[a1, a2, a3]) ∧ SqIt h i1 p1 i ∧ SqIt h i2 p2 i ∧ SqIt h i3 p3 i) where
  mem := by simp
  obj := fun i h st c hc => by
    obtain ⟨hz, hTI, ⟨a1, a2, a3, hTO⟩, h1, h2, h3⟩ := st
    have e : c = z ∨ c = TI ∨ c = TO ∨ c = i1 ∨ c = i2 ∨ c = i3 := by simpa using hc
    rcases e with q | q | q | q | q | q
    · rw [q]; exact ⟨_, hz, fun v q => nomatch q⟩
    · rw [q]; exact ⟨_, hTI, fun v q => nomatch q⟩
    · rw [q]; exact ⟨_, hTO, fun v q => nomatch q⟩
    · rw [q]; exact h1.obj
    · rw [q]; exact h2.obj
    · rw [q]; exact h3.obj
  keep := fun i h h2 st k => by
    obtain ⟨hz, hTI, ⟨a1, a2, a3, hTO⟩, h1, h2, h3⟩ := st
    exact ⟨k z (by simp) _ hz, k TI (by simp) _ hTI, ⟨a1, a2, a3, k TO (by simp) _ hTO⟩, h1.at fun o q => k i1 (by simp) o q, h2.at fun o q => k i2 (by simp) o q, h3.at fun o q => k i3 (by simp) o q⟩
  item := by
    intro X hP hw hK hc i pins s σ H E I hf st hg
    subst hP hw hK
    obtain ⟨hz, hTI, ⟨a1, a2, a3, hTO⟩, h1, h2, h3⟩ := st
    obtain ⟨vs, hv⟩ := hg
    cases hv with
    | cons r1 hv1 =>
      rename_i v1 ws1
      obtain ⟨xs1, hq1, hx1⟩ := r1
      obtain ⟨its1, rv1, q1, _⟩ := sq_seq I hq1
      obtain ⟨u1, hu1, ru1⟩ := rv1.get hx1
      have g1 : its1.toArray[i]? = some u1 := by simpa using hu1
      have l1 : i < its1.toArray.size := by have := (List.getElem?_eq_some_iff.mp hu1).1; simpa using this
      cases hv1 with
      | cons r2 hv2 =>
        rename_i v2 ws2
        obtain ⟨xs2, hq2, hx2⟩ := r2
        obtain ⟨its2, rv2, q2, _⟩ := sq_seq I hq2
        obtain ⟨u2, hu2, ru2⟩ := rv2.get hx2
        have g2 : its2.toArray[i]? = some u2 := by simpa using hu2
        have l2 : i < its2.toArray.size := by have := (List.getElem?_eq_some_iff.mp hu2).1; simpa using this
        cases hv2 with
        | cons r3 hv3 =>
          rename_i v3 ws3
          obtain ⟨xs3, hq3, hx3⟩ := r3
          obtain ⟨its3, rv3, q3, _⟩ := sq_seq I hq3
          obtain ⟨u3, hu3, ru3⟩ := rv3.get hx3
          have g3 : its3.toArray[i]? = some u3 := by simpa using hu3
          have l3 : i < its3.toArray.size := by have := (List.getElem?_eq_some_iff.mp hu3).1; simpa using this
          cases hv3
          have hzl : z < s.heap.objs.size := Heap.lt_size hz
          refine py_item3 S (draws_of (A := X.A.in1) (I.ok.hd hc) i1 p1 ne1 its1) (draws_of (A := X.A.in1) (I.ok.hd hc) i2 p2 ne2 its2) (draws_of (A := X.A.in1) (I.ok.hd hc) i3 p3 ne3 its3) hz hTI hTO ⟨h1, q1⟩ ⟨h2, q2⟩ ⟨h3, q3⟩ l1 l2 l3 fun x1 x2 x3 hA tk y1 y2 y3 z2 TO2 n1 n2 n3 hT hk => ?_
          obtain rfl : u1 = x1 := Option.some.inj (g1.symm.trans y1)
          obtain rfl : u2 = x2 := Option.some.inj (g2.symm.trans y2)
          obtain rfl : u3 = x3 := Option.some.inj (g3.symm.trans y3)
          refine ⟨_, rfl, go_zip (s := { s with heap := hA, toks := tk }) z2 fun hB z3 sb => ?_⟩
          replace sb : Heap.SameBut z hA hB := sb
          have hT2 : hB.get? s.heap.objs.size = some { cls := .type "tuple", data := .seq #[u1, u2, u3] } := (sb.2 _ (Nat.ne_of_gt hzl)).trans hT
          have new : ObjOk X.prog X.w (upd H s.heap.objs.size (.tup [v1, v2, v3])) hB s.heap.objs.size (.tup [v1, v2, v3]) := ⟨by show 3 ≤ sizeLine; decide, [u1, u2, u3], (.cons ru1 (.cons ru2 (.cons ru3 .nil))), ⟨_, hT2, rfl, _, rfl⟩⟩
          have I1 : Inv X pins σ (upd H s.heap.objs.size (.tup [v1, v2, v3])) { s with heap := hB, toks := tk } := I.turnedNew (t' := tk) (ch := [z, TI, TO, i1, i2, i3]) (fun c o hb q => (sb.2 c (fun q => hb (by simp [q]))).trans (hk c o (fun q => hb (by simp [q])) (fun q => hb (by simp [q])) (fun q => hb (by simp [q])) (fun q => hb (by simp [q])) (fun q => hb (by simp [q])) q)) hf (Nat.le_refl _) new
          refine ⟨.ref s.heap.objs.size, _, I1, rfl, ⟨_, _, rfl, I.hok.fresh (Nat.le_refl _), rfl, (.cons (fun l hl => by rw [sq_inj I hl hq1]; exact hx1) (.cons (fun l hl => by rw [sq_inj I hl hq2]; exact hx2) (.cons (fun l hl => by rw [sq_inj I hl hq3]; exact hx3) .nil)))⟩, ⟨z3, (sb.2 _ S.zTI.symm).trans (hk _ _ S.zTI.symm S.TOTI.symm S.I1 S.I2 S.I3 hTI), ⟨u1, u2, u3, (sb.2 _ S.zTO.symm).trans TO2⟩, (n1.1.at fun o q => (sb.2 _ (fun q => S.z1 (by rw [← q]; exact S.m1))).trans q), (n2.1.at fun o q => (sb.2 _ (fun q => S.z2 (by rw [← q]; exact S.m2))).trans q), (n3.1.at fun o q => (sb.2 _ (fun q => S.z3 (by rw [← q]; exact S.m3))).trans q)⟩, fun c hcm => ?_⟩
          have hlt : c < s.heap.objs.size := by
            have e : c = z ∨ c = TI ∨ c = TO ∨ c = i1 ∨ c = i2 ∨ c = i3 := by simpa using hcm
            rcases e with q | q | q | q | q | q
            · rw [q]; exact hzl
            · rw [q]; exact Heap.lt_size hTI
            · rw [q]; exact Heap.lt_size hTO
            · rw [q]; obtain ⟨_, e1, _⟩ := h1.obj; exact Heap.lt_size e1
            · rw [q]; obtain ⟨_, e1, _⟩ := h2.obj; exact Heap.lt_size e1
            · rw [q]; obtain ⟨_, e1, _⟩ := h3.obj; exact Heap.lt_size e1
          rw [upd_ne (Nat.ne_of_lt hlt)]
          exact (hf c hcm).1
  done := by
    intro X hP hw hK hc i pins s σ H E I hf st hg
    subst hP hw hK
    obtain ⟨hz, hTI, ⟨a1, a2, a3, hTO⟩, h1, h2, h3⟩ := st
    obtain ⟨xs1, hq1, hx1⟩ := hg p1 (by simp)
    obtain ⟨its1, rv1, q1, _⟩ := sq_seq I hq1
    have l1 : its1.toArray.size = i := by have := rv1.length; simp; omega
    have D1 := draws_of (prog := X.prog) (w := X.w) (A := X.A.in1) (I.ok.hd hc) i1 p1 ne1 its1
    rw [l1] at D1
    obtain ⟨xs2, hq2, hx2⟩ := hg p2 (by simp)
    obtain ⟨its2, rv2, q2, _⟩ := sq_seq I hq2
    have l2 : its2.toArray.size = i := by have := rv2.length; simp; omega
    have D2 := draws_of (prog := X.prog) (w := X.w) (A := X.A.in1) (I.ok.hd hc) i2 p2 ne2 its2
    rw [l2] at D2
    obtain ⟨xs3, hq3, hx3⟩ := hg p3 (by simp)
    obtain ⟨its3, rv3, q3, _⟩ := sq_seq I hq3
    have l3 : its3.toArray.size = i := by have := rv3.length; simp; omega
    have D3 := draws_of (prog := X.prog) (w := X.w) (A := X.A.in1) (I.ok.hd hc) i3 p3 ne3 its3
    rw [l3] at D3
    exact py_end3 (I.ok.hd hc) S D1 D2 D3 hz hTI hTO ⟨h1, q1⟩ ⟨h2, q2⟩ ⟨h3, q3⟩ fun h2 hk => ⟨rfl, I.turnedL (t' := s.toks) (ch := [z, TI, TO, i1, i2, i3]) (fun c o hb q => hk c o (fun q => hb (by simp [q])) (fun q => hb (by simp [q])) (fun q => hb (by simp [q])) (fun q => hb (by simp [q])) (fun q => hb (by simp [q])) q) hf⟩
  self := fun A i s Q E st h => iter_zip st.1 h
theorem sep_new3 {M : Nat} {p1 p2 p3 : Bool × Addr} (h1 : p1.2 < M) (h2 : p2.2 < M) (h3 : p3.2 < M) : Sep3 (M + 5) (M + 3) (M + 4) M (M + 1) (M + 2) [M, p1.2] [M + 1, p2.2] [M + 2, p3.2] where
  zTO := by show (M + 5 : Nat) ≠ M + 4; omega
  zTI := by show (M + 5 : Nat) ≠ M + 3; omega
  TOTI := by show (M + 4 : Nat) ≠ M + 3; omega
  m1 := by simp
  z1 := nin_new (a := p1.2) 5 0 h1 (by decide)
  T1 := nin_new (a := p1.2) 4 0 h1 (by decide)
  I1 := by show (M + 3 : Nat) ≠ M; omega
  s2_1 := nin_new (a := p1.2) 1 0 h1 (by decide)
  s3_1 := nin_new (a := p1.2) 2 0 h1 (by decide)
  m2 := by simp
  z2 := nin_new (a := p2.2) 5 1 h2 (by decide)
  T2 := nin_new (a := p2.2) 4 1 h2 (by decide)
  I2 := by show (M + 3 : Nat) ≠ M + 1; omega
  s1_2 := nin_new (a := p2.2) 0 1 h2 (by decide)
  s3_2 := nin_new (a := p2.2) 2 1 h2 (by decide)
  m3 := by simp
  z3 := nin_new (a := p3.2) 5 2 h3 (by decide)
  T3 := nin_new (a := p3.2) 4 2 h3 (by decide)
  I3 := by show (M + 3 : Nat) ≠ M + 2; omega
  s1_3 := nin_new (a := p3.2) 0 2 h3 (by decide)
  s2_3 := nin_new (a := p3.2) 1 2 h3 (by decide)
theorem pi_z3s {X : Cx} {e1 e2 e3 : Expr} {ta : TA} {p pos tpos : Pos} {elts : List Expr} {kk : Nat} {jj : Nat} {kp kp2 : Pos} {fl : List Bool} (hfl : fl.length = 3) (hg : Gl X "zip") (hm : X.mg "zip" = none) (ha : PA X [e1, e2, e3] ta)
    (hs : starEach [e1, e2, e3] X.env = (false, eval e1 X.env) :: starEach [e2, e3] X.env := by rfl) (hpl : (backTo pos (starEach [e2, e3] X.env)).any (·.1) = false := by rfl) :
    PI X (.Tuple elts kk tpos) (.Call (.Name "zip" p) [e1, e2, e3] [⟨some "strict", .Constant (.bool true) jj kp, kp2⟩] pos) (iZ X.K fl ta) := by
  refine ⟨fun pins s σ H R I h => ?_⟩
  refine wpAny_Call_Name_kw (ld_blt I hg hm PyProof.Rows.boot_zip ?_)
  refine PySem.W.callWith_of (P := fun _ => True) ?_ (fun h _ => looks_ty "zip" True.intro) ?_
  · show ((backTo pos (starEach _ X.env)).any (·.1) || false) = false
    rw [hs, Bool.or_false]
    exact hpl
  have he : backTo pos (starEach [e1, e2, e3] X.env) = (false, eval e1 X.env) :: backTo pos (starEach [e2, e3] X.env) := by rw [hs]; rfl
  rw [he]
  refine PyProof.Rows.evalArgs_kwB rfl ?_
  rw [← he]
  refine thn (ha.run pos pins s σ H _ I h) fun us s0 ⟨vs, H1, I0, r1, q1⟩ => ?_
  refine PyProof.Rows.kws_cons (Constant_bool (PyProof.Rows.kws_nil ⟨True.intro, ?_⟩))
  have I1 := I0
  obtain ⟨l, ev, el, hl, q1⟩ := q1
  subst ev
  obtain ⟨b1, b2, b3, rfl⟩ : ∃ b1 b2 b3 : Bool, fl = [b1, b2, b3] := match fl, hfl with | [_, _, _], _ => ⟨_, _, _, rfl⟩
  obtain ⟨c1, c2, c3, rfl⟩ : ∃ c1 c2 c3 : Addr, l = [c1, c2, c3] := match l, el with | [_, _, _], _ => ⟨_, _, _, rfl⟩
  cases r1 with
  | cons r_1 rr1 =>
    cases r_1
    cases rr1 with
    | cons r_2 rr2 =>
      cases r_2
      cases rr2 with
      | cons r_3 rr3 =>
        cases r_3
        cases rr3
        obtain ⟨xs1, hq1⟩ := hl (b1, c1) (by simp)
        obtain ⟨its1, rv1, g1, lt1⟩ := sq_seq I1 hq1
        obtain ⟨xs2, hq2⟩ := hl (b2, c2) (by simp)
        obtain ⟨its2, rv2, g2, lt2⟩ := sq_seq I1 hq2
        obtain ⟨xs3, hq3⟩ := hl (b3, c3) (by simp)
        obtain ⟨its3, rv3, g3, lt3⟩ := sq_seq I1 hq3
        have frs : ∀ c, c ∈ [s0.heap.objs.size + 5, s0.heap.objs.size + 3, s0.heap.objs.size + 4, s0.heap.objs.size, s0.heap.objs.size + 1, s0.heap.objs.size + 2] → FpOk X pins H1 c := fun c hcm => by
          have e : c = s0.heap.objs.size + 5 ∨ c = s0.heap.objs.size + 3 ∨ c = s0.heap.objs.size + 4 ∨ c = s0.heap.objs.size ∨ c = s0.heap.objs.size + 1 ∨ c = s0.heap.objs.size + 2 := by simpa using hcm
          have hle : s0.heap.objs.size ≤ c := by
            rcases e with q | q | q | q | q | q
            · rw [q]; exact Nat.le_add_right _ _
            · rw [q]; exact Nat.le_add_right _ _
            · rw [q]; exact Nat.le_add_right _ _
            · rw [q]; exact Nat.le_refl _
            · rw [q]; exact Nat.le_add_right _ _
            · rw [q]; exact Nat.le_add_right _ _
          exact I1.fpOk hle (I1.hok.fresh hle)
        refine begins_strict3 (begins_of (b1, c1) its1) (begins_of (b2, c2) its2) (begins_of (b3, c3) its3) g1 g2 g3 fun hA hz hTI hTO y1 y2 y3 kk => iter_zip hz ?_
        have I2 : Inv X pins σ H1 { s0 with heap := hA } := I1.kept (t' := s0.toks) kk
        exact ⟨_, [s0.heap.objs.size + 5, s0.heap.objs.size + 3, s0.heap.objs.size + 4, s0.heap.objs.size, s0.heap.objs.size + 1, s0.heap.objs.size + 2], _, _, H1, rfl, I2, turn_z3 (sep_new3 lt1 lt2 lt3) (Nat.ne_of_lt lt1) (Nat.ne_of_lt (Nat.lt_of_lt_of_le lt2 (Nat.le_add_right _ 1))) (Nat.ne_of_lt (Nat.lt_of_lt_of_le lt3 (Nat.le_add_right _ 2))), ⟨hz, hTI, ⟨_, _, _, hTO⟩, SqIt.begin y1, SqIt.begin y2, SqIt.begin y3⟩, frs, q1⟩
theorem pi_z3 {X : Cx} {e1 e2 e3 : Expr} {ta : TA} {p pos tpos : Pos} {elts : List Expr} {kk : Nat} {fl : List Bool} (hfl : fl.length = 3) (hg : Gl X "zip") (hm : X.mg "zip" = none) (ha : PA X [e1, e2, e3] ta)
    (hs : starEach [e1, e2, e3] X.env = (false, eval e1 X.env) :: starEach [e2, e3] X.env := by rfl) (hpl : (backTo pos (starEach [e2, e3] X.env)).any (·.1) = false := by rfl) :
    PI X (.Tuple elts kk tpos) (.Call (.Name "zip" p) [e1, e2, e3] [] pos) (iZ X.K fl ta) := by
  refine ⟨fun pins s σ H R I h => ?_⟩
  refine Call_ (ld_blt I hg hm PyProof.Rows.boot_zip (PyProof.Rows.callWith_type1 (thn (ha.run pos pins s σ H _ I h) fun us s0 ⟨vs, H1, I1, r1, q1⟩ => ?_) hs hpl))
  obtain ⟨l, ev, el, hl, q1⟩ := q1
  subst ev
  obtain ⟨b1, b2, b3, rfl⟩ : ∃ b1 b2 b3 : Bool, fl = [b1, b2, b3] := match fl, hfl with | [_, _, _], _ => ⟨_, _, _, rfl⟩
  obtain ⟨c1, c2, c3, rfl⟩ : ∃ c1 c2 c3 : Addr, l = [c1, c2, c3] := match l, el with | [_, _, _], _ => ⟨_, _, _, rfl⟩
  cases r1 with
  | cons r_1 rr1 =>
    cases r_1
    cases rr1 with
    | cons r_2 rr2 =>
      cases r_2
      cases rr2 with
      | cons r_3 rr3 =>
        cases r_3
        cases rr3
        obtain ⟨xs1, hq1⟩ := hl (b1, c1) (by simp)
        obtain ⟨its1, rv1, g1, lt1⟩ := sq_seq I1 hq1
        obtain ⟨xs2, hq2⟩ := hl (b2, c2) (by simp)
        obtain ⟨its2, rv2, g2, lt2⟩ := sq_seq I1 hq2
        obtain ⟨xs3, hq3⟩ := hl (b3, c3) (by simp)
        obtain ⟨its3, rv3, g3, lt3⟩ := sq_seq I1 hq3
        have frs : ∀ c, c ∈ [s0.heap.objs.size + 5, s0.heap.objs.size + 3, s0.heap.objs.size + 4, s0.heap.objs.size, s0.heap.objs.size + 1, s0.heap.objs.size + 2] → FpOk X pins H1 c := fun c hcm => by
          have e : c = s0.heap.objs.size + 5 ∨ c = s0.heap.objs.size + 3 ∨ c = s0.heap.objs.size + 4 ∨ c = s0.heap.objs.size ∨ c = s0.heap.objs.size + 1 ∨ c = s0.heap.objs.size + 2 := by simpa using hcm
          have hle : s0.heap.objs.size ≤ c := by
            rcases e with q | q | q | q | q | q
            · rw [q]; exact Nat.le_add_right _ _
            · rw [q]; exact Nat.le_add_right _ _
            · rw [q]; exact Nat.le_add_right _ _
            · rw [q]; exact Nat.le_refl _
            · rw [q]; exact Nat.le_add_right _ _
            · rw [q]; exact Nat.le_add_right _ _
          exact I1.fpOk hle (I1.hok.fresh hle)
        refine zip_begins3 (begins_of (b1, c1) its1) (begins_of (b2, c2) its2) (begins_of (b3, c3) its3) g1 g2 g3 fun hA hz hTI hTO y1 y2 y3 _ kk => iter_zip (b := false) hz ?_
        have I2 : Inv X pins σ H1 { s0 with heap := hA } := I1.kept (t' := s0.toks) kk
        exact ⟨_, [s0.heap.objs.size + 5, s0.heap.objs.size + 3, s0.heap.objs.size + 4, s0.heap.objs.size, s0.heap.objs.size + 1, s0.heap.objs.size + 2], _, _, H1, rfl, I2, turn_z3 (sep_new3 lt1 lt2 lt3) (Nat.ne_of_lt lt1) (Nat.ne_of_lt (Nat.lt_of_lt_of_le lt2 (Nat.le_add_right _ 1))) (Nat.ne_of_lt (Nat.lt_of_lt_of_le lt3 (Nat.le_add_right _ 2))), ⟨hz, hTI, ⟨_, _, _, hTO⟩, SqIt.begin y1, SqIt.begin y2, SqIt.begin y3⟩, frs, q1⟩
end CZ

namespace CS
open PySem PySem.Spec PyProof.Rows L2
/-! ### rules beside the layer's -/
section
variable {X : Cx}
/-- a product, whatever the reason that it fits -/
theorem op_mulI : OpR X (binaryOp .Mult) (rI IntMulOk fun i j => .int (i * j)) := opI fun _ _ _ _ _ _ _ hc q => mul_int q hc
/-- list + list, however each is known -/
def rCatR (K : PySem.W.Frag) : R2 := fun x y H Q => ∃ l b xs zs, x = .ref l ∧ y = .ref b ∧ SqL K H l xs ∧ SqL K H b zs ∧ xs.length + zs.length ≤ sizeLine ∧ ∀ p, H p = none → Q (.ref p) (upd H p (.lst (xs ++ zs)))
theorem op_catR : OpR X (binaryOp .Add) (rCatR X.K) := by
  intro pins s σ H x y v u Q I rx ry h
  obtain ⟨l, b, xs, zs, rfl, rfl, hH, hB, hz, q⟩ := h
  cases rx
  cases ry
  obtain ⟨its, r, p1, _⟩ := I.list hH
  obtain ⟨its2, r2, p2, _⟩ := I.list hB
  obtain ⟨⟨cls, dd, data, sl⟩, ho, hc, n, hd⟩ := id p1.isList
  obtain ⟨⟨cls2, dd2, data2, sl2⟩, ho2, hc2, n2, hd2⟩ := id p2.isList
  simp only at hc hd hc2 hd2
  subst hc hd hc2 hd2
  have l1 := r.length
  have l2 := r2.length
  have ea : its.toArray ++ its2.toArray = (its ++ its2).toArray := by simp
  refine concat_meets ⟨_, ho, rfl⟩ ⟨_, ho2, rfl⟩ noFill_list_add seq_list_add PySem.F.slot_list_add PySem.F.entry_list_add (PySem.F.args_list_add_2 _ _) (list_addW l b its.toArray its2.toArray n n2 dd dd2 sl sl2 (by rw [List.size_toArray, List.size_toArray]; omega)) ⟨ho, ho2, ?_⟩
  rw [ea]
  exact ⟨.ref _, _, I.lnew (t' := s.toks) (r.append r2) (by rw [List.length_append]; omega), rfl, q _ I.fresh⟩
theorem pi_or {tg it : Expr} {w1 w2 : TI} (h1 : PI X tg it w1) (h2 : PI X tg it w2) : PI X tg it (fun σ H R => w1 σ H R ∨ w2 σ H R) :=
  ⟨fun pins s σ H R I h => h.elim (fun z => h1.run pins s σ H R I z) fun z => h2.run pins s σ H R I z⟩
end
/-! ### calls by keywords alone -/
def pick {α : Type} (js : List Nat) (l : List α) : List α := js.filterMap fun j => l[j]?
theorem vals_pick {xs : List V} {us : List Value} (r : Vals xs us) : ∀ js : List Nat, Vals (pick js xs) (pick js us)
  | [] => .nil
  | j :: js => by
    have ih := vals_pick r js
    unfold pick at ih ⊢
    cases e : xs[j]? with
    | none =>
      have e2 := r.none_of e
      rw [List.filterMap_cons_none (by rw [e]), List.filterMap_cons_none (by rw [e2])]
      exact ih
    | some x =>
      obtain ⟨u, e2, ru⟩ := r.get e
      rw [List.filterMap_cons_some (by rw [e]), List.filterMap_cons_some (by rw [e2])]
      exact .cons ru ih
theorem kbn_of {K : PySem.W.Frag} {x qual : Str} {st : Stmt} {f : Addr} {fd : FuncData} {ps : List Str} (F : Fun K x qual st f fd) (n : Nat) (ks : List Str) (js : List Nat)
    (h : ∀ (kV doc pm : Value) (an : Option Addr) (cdv ct : Value) (us ws : List Value), us.length = n → ws.length = ks.length → bindArgs (PySem.W.fnOf x qual (defArgs st) (defBody st) (defScope st) .none kV doc pm an cdv ct) ⟨us, ks.zip ws⟩ = pure (ps.zip (pick js (us ++ ws)))) :
    KBn K fd ps n ks (fun us ws => pick js (us ++ ws)) (fun vs zs => pick js (vs ++ zs)) := by
  obtain ⟨oc, od, kV, doc, pm, an, cdv, ct, osl, rfl, lk, hcd⟩ := F.ex
  exact ⟨fun s us ws _ h1 h2 => .of_eq (h kV doc pm an cdv ct us ws h1 h2), fun r1 r2 => vals_pick (r1.append r2) js⟩
section
variable {X : Cx} {CX : CXT} {k n : Nat} {f C : Addr} {fd : FuncData} {ps ks : List Str} {sp : Sp} {E : XK} {x m : Str} {p pos apos : Pos} {o : Expr} {kws : List Keyword} {ta : TE} {tk : TA} {g : List Value → List Value → List Value} {gV : List V → List V → List V}
theorem run_kw {pins : List (Addr × Obj)} {σ : L2.St} {H : Hp} {s : Shared} {Q : VK} {us ws : List Value} {vs zs : List V} (F : FnOk X.prog X.w X.K X.mg X.base CX k f fd ps sp) (hr : Room k X.A) (hb : KBn X.K fd ps n ks g gV) (hx : Passes CX X E)
    (I : Inv X pins σ H s) (r : Vals vs us) (rz : Vals zs ws) (l1 : vs.length = n) (l2 : zs.length = ks.length) (h : sp (gV vs zs) H Q E) : wpAny (model X.prog X.w) X.A (call (.ref f) us (ks.zip ws)) (EP X pins σ Q) X.xe s := by
  refine wpAny_call (codeAny_mono (F.run X.A X.stack s H ⟨us, ks.zip ws⟩ (g us ws) (gV vs zs) Q E hr I.env0 (hb.to s us ws I.kIn (r.length.symm.trans l1) (rz.length.symm.trans l2)) (hb.rel r rz) h) fun res s2 hq => ?_)
  cases res with
  | error e => exact hx pins σ H s e s2 I hq
  | ok fl =>
    cases fl with
    | ret u => exact I.after hq
    | next => exact False.elim hq
    | brk => exact False.elim hq
    | cont => exact False.elim hq
/-- f(k = v, ..) -/
def tCallKw (m : Nat) (sp : Sp) (gV : List V → List V → List V) (E : XK) (tk : TA) : TE := fun σ H Q => tk σ H fun zs H1 => zs.length = m ∧ sp (gV [] zs) H1 Q E
theorem pe_callKw (F : FnOk X.prog X.w X.K X.mg X.base CX k f fd ps sp) (hr : Room k X.A) (hg : Gl X x) (hm : X.mg x = some (.ref f)) (hk : PySem.W.keepIn X.K (.ref f) = true) (hb : KBn X.K fd ps 0 ks g gV) (hx : Passes CX X E) (hkw : PK X kws tk)
    (hall : (backToKw pos (keywordEach kws X.env)).all (·.1.isSome) = true := by rfl) (hks : (backToKw pos (keywordEach kws X.env)).filterMap (·.1) = ks := by rfl) (hdb : (x == ("__debug__" : Str)) = false := by decide)
    (hpl : ((backTo pos (starEach [] X.env)).any (·.1) || (backToKw pos (keywordEach kws X.env)).any (·.1.isNone)) = false := by rfl) :
    PE X (.Call (.Name x p) [] kws pos) (tCallKw ks.length sp gV E tk) := by
  refine ⟨fun pins s σ H Q I h => ?_⟩
  refine wpAny_Call_Name_kw (ld_glob I hg hm ?_ hdb)
  refine PySem.W.callWith_KW0 (h₀ := X.base) I.ok.mod.kin hk hall (thn (hkw.run pos pins s σ H _ I h) fun ws s2 ⟨zs, H2, I2, rz, l2, q2⟩ => ⟨I2.kIn, ?_⟩) hpl
  rw [hks]
  exact run_kw (us := []) (vs := []) F hr hb hx I2 .nil rz rfl l2 q2
/-- o.m(k = v, ..) -/
def tMethKw (C : Addr) (m : Str) (n : Nat) (sp : Sp) (gV : List V → List V → List V) (E : XK) (ta : TE) (tk : TA) : TE := fun σ H Q => ta σ H fun x H1 => ∃ a dx fs, x = .ref a ∧ H1 a = some (.ins C dx fs) ∧ fs.lookup m = none ∧
  tk σ H1 fun zs H2 => zs.length = n ∧ sp (gV [x] zs) H2 Q E
theorem pe_methKw {pl : Sem Bool} (he : PE X o ta) (c : Cls X.K C) (hm : Meth X.K C m f) (F : FnOk X.prog X.w X.K X.mg X.base CX k f fd ps sp) (hr : Room k X.A) (hb : KBn X.K fd ps 1 ks g gV) (hx : Passes CX X E) (hkw : PK X kws tk)
    (hall : (backToKw pos (keywordEach kws X.env)).all (·.1.isSome) = true := by rfl) (hks : (backToKw pos (keywordEach kws X.env)).filterMap (·.1) = ks := by rfl)
    (hpl : ((backTo pos (starEach [] X.env)).any (·.1) || (backToKw pos (keywordEach kws X.env)).any (·.1.isNone)) = false := by rfl)
    (ht : eval (.Call (.Attribute o m apos) [] kws pos) X.env = (do
      let ov ← eval o X.env
      standAt apos.atName
      let (f, first) ← holding [ov] (getMethod ov m pl)
      callWith pos f first (backTo pos (starEach [] X.env)) (backToKw pos (keywordEach kws X.env))) := by rfl) :
    PE X (.Call (.Attribute o m apos) [] kws pos) (tMethKw C m ks.length sp gV E ta tk) := by
  refine ⟨fun pins s σ H Q I h => ?_⟩
  refine PySem.W.methodCall_KW (pl := pl) (thn (he.run pins s σ H _ I h) fun u s1 ⟨x, H1, I1, rx, a, dx, fs, ex, ea, l, q⟩ => ?_) ht
  subst ex
  obtain rfl : u = Value.ref a := rx
  refine getmeth_ok I1 ea c hm l ?_
  refine PySem.W.callWith_KW0 (first := [.ref a]) (h₀ := X.base) I.ok.mod.kin hm.kp hall (thn (hkw.run pos pins s1 σ H1 _ I1 q) fun ws s2 ⟨zs, H2, I2, rz, l2, q2⟩ => ⟨I2.kIn, ?_⟩) hpl
  rw [hks]
  exact run_kw (us := [.ref a]) (vs := [.ref a]) F hr hb hx I2 (.cons rfl .nil) rz rfl l2 q2
end
/-! ### heaps that grow -/
abbrev Ex (H H2 : Hp) : Prop := Evl.Ex H H2
theorem exr {H : Hp} : Ex H H := fun _ _ h => h
theorem exn {H : Hp} {p : Addr} {o : HO} (h : H p = none) : Ex H (upd H p o) := Evl.Ex.new h
theorem SqK.mono {K : PySem.W.Frag} {H H2 : Hp} {p : Bool × Addr} {xs : List V} (e : Ex H H2) (h : CZ.SqK K H p xs) : CZ.SqK K H2 p xs := by
  obtain ⟨b, a⟩ := p
  cases b
  · exact Evl.ex_l e h
  · exact Evl.ex_t e h
/-- a comprehension whose element and tests leave all that stood: out i is what stands behind i turns -/
theorem lc_out {J : It} {n : Nat} {G : Hp → Prop} {Y : Nat → Hp → V → Hp → Prop} (w : Walk J n G Y) {g : TG} {tt : TT} {te : TE} {vs : List Nat} {σ : L2.St} {H1 : Hp} {D : Addr} {Qd : Hp → Prop} (out : Nat → List V) (h0 : out 0 = []) (hD : H1 D = none)
    (hlen : ∀ i, i < n → (out i).length < sizeLine) (hG : ∀ H, Ex H1 H → G H)
    (hs : ∀ i x H H2 (Nx : Hp → Prop), i < n → Ex H1 H → H D = some (.lst (out i)) → Y i H x H2 →
      (∀ y H5, Ex H H5 → out (i + 1) = out i ++ [y] → ∃ acc, H5 D = some (.lst acc) ∧ acc.length < sizeLine ∧ Nx (upd H5 D (.lst (acc ++ [y])))) → (∀ H4, Ex H H4 → out (i + 1) = out i → Nx H4) →
      g x (wipe σ vs) H2 fun σ2 H3 => wipe σ2 vs = wipe σ vs ∧ tt σ2 H3 fun b H4 => if b = true then te σ2 H4 fun y H5 => ∃ acc, H5 D = some (.lst acc) ∧ acc.length < sizeLine ∧ Nx (upd H5 D (.lst (acc ++ [y]))) else Nx H4)
    (hd : ∀ H, Ex H1 H → H D = some (.lst (out n)) → Qd H) :
    ∃ W : Nat → Nat → Hp → Prop, (∃ m, W 0 m (upd H1 D (.lst []))) ∧ ∀ i m H, W i m H →
      (J.stop i H ∧ Qd H) ∨ (J.go i H ∧ ∃ Nx : Hp → Prop, (∀ H2, Nx H2 → ∃ m2, m2 < m ∧ W (i + 1) m2 H2) ∧ ∀ x H2, J.yld i H x H2 → g x (wipe σ vs) H2 fun σ2 H3 => wipe σ2 vs = wipe σ vs ∧ tt σ2 H3 fun b H4 =>
        if b = true then te σ2 H4 fun y H5 => ∃ acc, H5 D = some (.lst acc) ∧ acc.length < sizeLine ∧ Nx (upd H5 D (.lst (acc ++ [y]))) else Nx H4) := by
  refine lc_it w (fun i H => Ex H1 H ∧ H D = some (.lst (out i))) ⟨exn hD, by rw [upd_same, h0]⟩ (fun i H _ p => hG H p.1) (fun i x H H2 hi p y => ?_) (fun H p => hd H p.1 p.2)
  refine hs i x H H2 _ hi p.1 p.2 y (fun y2 H5 e eo => ⟨out i, e D _ p.2, hlen i hi, fun b o q => ?_, by rw [upd_same, eo]⟩) (fun H4 e eo => ⟨fun b o q => e b o (p.1 b o q), by rw [eo]; exact e D _ p.2⟩)
  rw [upd_ne (ne_of_none q hD)]
  exact e b o (p.1 b o q)
/-- .. whose list is known: vals -/
theorem lc_vals {J : It} {n : Nat} {G : Hp → Prop} {Y : Nat → Hp → V → Hp → Prop} (w : Walk J n G Y) {g : TG} {te : TE} {vs : List Nat} {σ : L2.St} {H1 : Hp} {D : Addr} {Qd : Hp → Prop} (vals : List V) (hn : vals.length = n) (hl : n ≤ 10000000) (hD : H1 D = none)
    (hG : ∀ H, Ex H1 H → G H)
    (hs : ∀ i x H H2 (R : VK), i < n → Ex H1 H → Y i H x H2 → (∀ y H5, Ex H H5 → vals[i]? = some y → R y H5) → g x (wipe σ vs) H2 fun σ2 H3 => wipe σ2 vs = wipe σ vs ∧ te σ2 H3 R)
    (hg : ∀ x σ2 H2 (R R2 : L2.St → Hp → Prop), (∀ σ3 H3, R σ3 H3 → R2 σ3 H3) → g x σ2 H2 R → g x σ2 H2 R2)
    (hd : ∀ H, Ex H1 H → H D = some (.lst vals) → Qd H) :
    ∃ W : Nat → Nat → Hp → Prop, (∃ m, W 0 m (upd H1 D (.lst []))) ∧ ∀ i m H, W i m H →
      (J.stop i H ∧ Qd H) ∨ (J.go i H ∧ ∃ Nx : Hp → Prop, (∀ H2, Nx H2 → ∃ m2, m2 < m ∧ W (i + 1) m2 H2) ∧ ∀ x H2, J.yld i H x H2 → g x (wipe σ vs) H2 fun σ2 H3 => wipe σ2 vs = wipe σ vs ∧ tYes σ2 H3 fun b H4 =>
        if b = true then te σ2 H4 fun y H5 => ∃ acc, H5 D = some (.lst acc) ∧ acc.length < sizeLine ∧ Nx (upd H5 D (.lst (acc ++ [y]))) else Nx H4) := by
  refine lc_out w (fun i => vals.take i) rfl hD (fun i hi => ?_) hG (fun i x H H2 Nx hi e hDi y kA _ => ?_) (fun H e h => hd H e ?_)
  · rw [List.length_take]
    exact Nat.lt_of_le_of_lt (Nat.le_trans (Nat.min_le_right _ _) (by rw [hn]; exact hl)) (by decide)
  · refine hg _ _ _ _ _ (fun σ3 H3 q => ⟨q.1, ?_⟩) (hs i x H H2 (fun y H5 => ∃ acc, H5 D = some (.lst acc) ∧ acc.length < sizeLine ∧ Nx (upd H5 D (.lst (acc ++ [y])))) hi e y fun y2 H5 e5 ev => kA y2 H5 e5 ?_)
    · exact q.2
    · rw [List.take_add_one, ev]
      rfl
  · rw [h, List.take_of_length_le (by rw [hn]; exact Nat.le_refl _)]
theorem gmono_name {i : Nat} : ∀ x σ2 H2 (R R2 : L2.St → Hp → Prop), (∀ σ3 H3, R σ3 H3 → R2 σ3 H3) → gName i x σ2 H2 R → gName i x σ2 H2 R2 := fun _ _ _ _ _ h q => h _ _ q
theorem gmono_nil : ∀ vs σ2 H2 (R R2 : L2.St → Hp → Prop), (∀ σ3 H3, R σ3 H3 → R2 σ3 H3) → gNil vs σ2 H2 R → gNil vs σ2 H2 R2 := fun _ _ _ _ _ h q => ⟨q.1, h _ _ q.2⟩
theorem gmono_cons {t : TG} {u : TGs} (ht : ∀ x σ2 H2 (R R2 : L2.St → Hp → Prop), (∀ σ3 H3, R σ3 H3 → R2 σ3 H3) → t x σ2 H2 R → t x σ2 H2 R2) (hu : ∀ x σ2 H2 (R R2 : L2.St → Hp → Prop), (∀ σ3 H3, R σ3 H3 → R2 σ3 H3) → u x σ2 H2 R → u x σ2 H2 R2) :
    ∀ vs σ2 H2 (R R2 : L2.St → Hp → Prop), (∀ σ3 H3, R σ3 H3 → R2 σ3 H3) → gCons t u vs σ2 H2 R → gCons t u vs σ2 H2 R2 := fun vs σ2 H2 R R2 h q => by
  obtain ⟨v, r, e, q⟩ := q
  exact ⟨v, r, e, ht _ _ _ _ _ (fun σ3 H3 z => hu _ _ _ _ _ h z) q⟩
theorem gmono_tup {K : PySem.W.Frag} {n : Nat} {t : TGs} (ht : ∀ x σ2 H2 (R R2 : L2.St → Hp → Prop), (∀ σ3 H3, R σ3 H3 → R2 σ3 H3) → t x σ2 H2 R → t x σ2 H2 R2) :
    ∀ v σ2 H2 (R R2 : L2.St → Hp → Prop), (∀ σ3 H3, R σ3 H3 → R2 σ3 H3) → gTup K n t v σ2 H2 R → gTup K n t v σ2 H2 R2 := fun v σ2 H2 R R2 h q => by
  obtain ⟨a, xs, e, h1, h2, q⟩ := q
  exact ⟨a, xs, e, h1, h2, ht _ _ _ _ _ h q⟩
/-! ### a list or a tuple walked -/
def ItS (K : PySem.W.Frag) (p : Bool × Addr) : It := if p.1 = true then Itt K p.2 else Itl K p.2
def iSeq (K : PySem.W.Frag) (tl : TE) : TI := fun σ H R => tl σ H fun x H1 => ∃ p : Bool × Addr, x = .ref p.2 ∧ (∃ xs, CZ.SqK K H1 p xs) ∧ R (ItS K p) H1
theorem pi_seq {X : Cx} {tg l : Expr} {tl : TE} (hl : PE X l tl) : PI X tg l (iSeq X.K tl) := by
  refine ⟨fun pins s σ H R I h => ?_⟩
  refine thn (hl.run pins s σ H _ I h) fun v s1 ⟨x, H1, I1, r1, q1⟩ => ?_
  obtain ⟨⟨b, a⟩, ex, ⟨xs, hq⟩, q⟩ := q1
  subst ex
  cases r1
  obtain ⟨its, rv, g, lt⟩ := CZ.sq_seq I1 hq
  have fp : ∀ c ∈ [s1.heap.objs.size], FpOk X pins H1 c := fun c hc => by
    have e : c = s1.heap.objs.size := by simpa using hc
    rw [e]
    exact I1.fpOk (Nat.le_refl _) (I1.hok.fresh (Nat.le_refl _))
  refine (CZ.begins_of (b, a) its).iter _ _ _ _ s1 _ g ?_
  have I2 : Inv X pins σ H1 { s1 with heap := s1.heap.push (CZ.itO (b, a)) } := I1.kept (t' := s1.toks) fun c o e => Heap.get?_push_of_some _ e
  cases b
  · exact ⟨_, [s1.heap.objs.size], _, _, H1, rfl, I2, turn_list a _, ⟨_, Heap.get?_push_size _ rfl, rfl, rfl⟩, fp, q⟩
  · exact ⟨_, [s1.heap.objs.size], _, _, H1, rfl, I2, turn_tuple a _, ⟨_, Heap.get?_push_size _ rfl, rfl, rfl⟩, fp, q⟩
theorem walk_seq {K : PySem.W.Frag} {p : Bool × Addr} {xs : List V} : Walk (ItS K p) xs.length (fun H => CZ.SqK K H p xs) (YAt xs) := by
  obtain ⟨b, a⟩ := p
  cases b
  · exact walk_list
  · exact walk_tup
theorem itt {c : Bool} {A B : Prop} (h : c = true) (a : A) : if c = true then A else B := by rw [if_pos h]; exact a
theorem itf {c : Bool} {A B : Prop} (h : c = false) (b : B) : if c = true then A else B := by rw [h, if_neg Bool.false_ne_true]; exact b
theorem map_get {α : Type} {f : α → V} {l : List α} {i : Nat} {x : V} (h : (l.map f)[i]? = some x) : ∃ n, l[i]? = some n ∧ x = f n := by
  rw [List.getElem?_map] at h
  cases e : l[i]? with
  | none => rw [e] at h; cases h
  | some n => rw [e] at h; exact ⟨n, rfl, (Option.some.inj h).symm⟩
end CS

namespace CE
open PySem PySem.Spec PyProof.Rows L2 CZ
/-! ### enumerate over a list or a tuple -/
theorem enumO_new {v : Value} {oo : Obj} {Hq : Heap → Prop} (bg : Begins v oo Hq) :
    Meets (Builtin.«enumerate.__new__» ⟨[.type "enumerate", v], []⟩) (fun _ R t => Hq t.heap ∧
      R (.ok (.ret (.ref (t.heap.push oo).objs.size))) { t with heap := (t.heap.push oo).push { cls := .type "enumerate", data := .fields #[.none, .bool false, .ref t.heap.objs.size, rawInt 0, .none, .none] } }) :=
  .of_wp fun pg wo Ar R t hyp => by
    obtain ⟨hh, gg, dd, tt, oq⟩ := t
    obtain ⟨start, goal⟩ := hyp
    have es := PySem.sub_enumerate
    have go1 : ∀ {A2 : Around} {E2 : Value → Shared → Prop} {Q2 : Value → Shared → Prop}, Q2 (.ref hh.objs.size) ⟨hh.push oo, gg, dd, tt, oq⟩ → wpAny (model pg wo) A2 (pyIter v) Q2 E2 ⟨hh, gg, dd, tt, oq⟩ :=
      fun z => bg.iter pg wo _ _ ⟨hh, gg, dd, tt, oq⟩ _ start z
    wp_walk using go1
    refine wpAny_stack_any fun stk => wpAny_pure ?_
    split
    · rename_i cc _ _ _ _ _
      cases (cc == Value.type "enumerate")
      all_goals
        wp_walk using go1
        exact ⟨_, rfl, goal⟩
    · wp_walk using go1
      exact ⟨_, rfl, goal⟩
theorem enum_of {pg : Program} {wo : World} {Ar : Around} {Ex1 : Value → Shared → Prop} {t : Shared} {v : Value} {oo : Obj} {Hq : Heap → Prop} {Qe : Value → Shared → Prop} (bg : Begins v oo Hq) (start : Hq t.heap)
    (goal : ∀ hN, IsEnum hN (t.heap.objs.size + 1) t.heap.objs.size 0 .none → hN.get? t.heap.objs.size = some oo → (∀ c ob, t.heap.get? c = some ob → hN.get? c = some ob) → Qe (.ref (t.heap.objs.size + 1)) { t with heap := hN }) :
    wpAny (model pg wo) Ar (call (.type "enumerate") [v]) Qe Ex1 t := by
  refine callType_new F.called_enumerate (by decide) (F.typeCall_enumerate_1 _) (F.newCall_enumerate_1 _) (fun ob => F.args_object_init_2 ob _) F.entry_enumerate_new (enumO_new bg) ⟨start, ?_⟩
  have size1 : (t.heap.push oo).objs.size = t.heap.objs.size + 1 := Heap.size_push ..
  have isE : IsEnum ((t.heap.push oo).push { cls := .type "enumerate", data := .fields #[.none, .bool false, .ref t.heap.objs.size, rawInt 0, .none, .none] }) (t.heap.objs.size + 1) t.heap.objs.size 0 .none := by
    have at1 := Heap.get?_push_size (t.heap.push oo) (o := { cls := .type "enumerate", data := .fields #[.none, .bool false, .ref t.heap.objs.size, rawInt 0, .none, .none] }) rfl
    rw [size1] at at1
    exact at1
  show _ ∧ _
  rw [size1]
  exact ⟨⟨_, isE, rfl⟩, goal _ isE (Heap.get?_push_of_some _ (Heap.get?_push_size _ bg.free)) fun c ob z => Heap.get?_push_of_some _ (Heap.get?_push_of_some _ z)⟩
/-- what stands at p, each item in a new pair -/
def ItE (K : PySem.W.Frag) (p : Bool × Addr) : It :=
  ⟨fun i H => ∃ (xs : List V) (x : V), SqK K H p xs ∧ xs[i]? = some x, fun i H v H2 => ∃ T x, v = .ref T ∧ H T = none ∧ H2 = upd H T (.tup [.int (i : Nat), x]) ∧ ∀ xs, SqK K H p xs → xs[i]? = some x, fun i H => ∃ xs : List V, SqK K H p xs ∧ xs.length = i⟩
theorem turn_e {P : Program} {w : World} {K : PySem.W.Frag} {elts : List Expr} {kk : Nat} {tpos : Pos} {en it : Addr} {p : Bool × Addr} (n1 : p.2 ≠ it) (n2 : en ≠ it) (n3 : en ≠ p.2) :
    Turn P w K (.Tuple elts kk tpos) (ItE K p) [en, it] en (fun i h => (∃ old, IsEnum h en it ((i : Nat) : Int) old) ∧ SqIt h it p i) where
  mem := by simp
  obj := fun i h st c hc => by
    obtain ⟨⟨old, ie⟩, si⟩ := st
    have e : c = en ∨ c = it := by simpa using hc
    rcases e with q | q
    · rw [q]; exact ⟨_, ie, fun v q => nomatch q⟩
    · rw [q]; exact si.obj
  keep := fun i h h2 st k => by
    obtain ⟨⟨old, ie⟩, si⟩ := st
    exact ⟨⟨old, k en (by simp) _ ie⟩, si.at fun o q => k it (by simp) o q⟩
  item := by
    intro X hP hw hK hc i pins s σ H E I hf st hg
    subst hP hw hK
    obtain ⟨⟨old, ie⟩, si⟩ := st
    obtain ⟨xs, x, hq, hx⟩ := hg
    obtain ⟨its, rv, sq, _⟩ := sq_seq I hq
    obtain ⟨u, hu, ru⟩ := rv.get hx
    have gu : its.toArray[i]? = some u := by simpa using hu
    have lu : i < its.toArray.size := by
      have := (List.getElem?_eq_some_iff.mp hu).1
      simpa using this
    have enl : en < s.heap.objs.size := Heap.lt_size ie
    have itl : it < s.heap.objs.size := by
      obtain ⟨_, q, _⟩ := si.obj
      exact Heap.lt_size q
    refine PySem.wpAny_pyNext_enum_itemD (draws_of (A := X.A.in1) (I.ok.hd hc) it p n1 its) ie ⟨si, sq⟩ lu n2 (by simp [n2, n3]) fun x1 hA tk hx1 out ⟨si2, _⟩ hT hsz hk => ?_
    obtain rfl : u = x1 := Option.some.inj (gu.symm.trans hx1)
    refine ⟨_, rfl, wpAny_letOwnedTupleGo_enum (s := { s with heap := hA, toks := tk + 1 }) out fun hB isB sb => ?_⟩
    replace sb : Heap.SameBut en hA hB := sb
    have hT2 : hB.get? s.heap.objs.size = some { cls := .type "tuple", data := .seq #[.int i tk, u] } := (sb.2 _ (Nat.ne_of_gt enl)).trans hT
    have made : ObjOk X.prog X.w (upd H s.heap.objs.size (.tup [.int (i : Nat), x])) hB s.heap.objs.size (.tup [.int (i : Nat), x]) := ⟨by show 2 ≤ sizeLine; decide, [.int i tk, u], .cons ⟨_, rfl⟩ (.cons ru .nil), ⟨_, hT2, rfl, _, rfl⟩⟩
    have I1 : Inv X pins σ (upd H s.heap.objs.size (.tup [.int (i : Nat), x])) { s with heap := hB, toks := tk + 1 } :=
      I.turnedNew (t' := tk + 1) (ch := [en, it]) (fun c ob hb q => (sb.2 c (fun z => hb (by simp [z]))).trans (hk c ob (fun z => hb (by simp [z])) (fun z => hb (by simp [z])) q)) hf (Nat.le_refl _) made
    refine ⟨.ref s.heap.objs.size, _, I1, rfl, ⟨_, x, rfl, I.hok.fresh (Nat.le_refl _), rfl, fun ys hy => by rw [sq_inj I hy hq]; exact hx⟩, ⟨⟨u, ?_⟩, si2.at fun o q => (sb.2 it n2.symm).trans q⟩, fun c hcm => ?_⟩
    · have next : ((i + 1 : Nat) : Int) = (i : Int) + 1 := by omega
      rw [next]
      exact isB
    · have small : c < s.heap.objs.size := by
        have e : c = en ∨ c = it := by simpa using hcm
        rcases e with q | q
        · rw [q]; exact enl
        · rw [q]; exact itl
      rw [upd_ne (Nat.ne_of_lt small)]
      exact (hf c hcm).1
  done := by
    intro X hP hw hK hc i pins s σ H E I hf st hg
    subst hP hw hK
    obtain ⟨⟨old, ie⟩, si⟩ := st
    obtain ⟨xs, hq, hx⟩ := hg
    obtain ⟨its, rv, sq, _⟩ := sq_seq I hq
    have li : its.toArray.size = i := by
      have := rv.length
      simp
      omega
    have dr := draws_of (prog := X.prog) (w := X.w) (A := X.A.in1) (I.ok.hd hc) it p n1 its
    rw [li] at dr
    exact PySem.wpAny_pyNext_enum_endD dr ie ⟨si, sq⟩ fun hA eb => ⟨rfl, I.turnedL (t' := s.toks) (ch := [en, it]) (fun c ob hb q => eb c ob (fun z => hb (by simp [z])) q) hf⟩
  self := fun A i s Q E st h => let ⟨⟨_, ie⟩, _⟩ := st; wpAny_pyIter_enum ie h
theorem walk_e {K : PySem.W.Frag} {p : Bool × Addr} {xs : List V} : Walk (ItE K p) xs.length (fun H => SqK K H p xs) (YPair (fun i => some (.int (i : Nat))) (fun i => xs[i]?)) :=
  ⟨fun i _ hi q => ⟨xs, xs[i], q, by simp [hi]⟩, fun _ q => ⟨xs, q, rfl⟩, fun i H v H2 _ q y => by
    obtain ⟨T, x, h1, h2, h3, h4⟩ := y
    exact ⟨T, _, x, h1, h2, h3, rfl, h4 xs q⟩⟩
/-- enumerate(e), e a list or a tuple -/
def iE (K : PySem.W.Frag) (ta : TA) : TI := fun σ H R => ta σ H fun vs H1 => ∃ p : Bool × Addr, vs = [.ref p.2] ∧ (∃ xs, SqK K H1 p xs) ∧ R (ItE K p) H1
theorem pi_e {X : Cx} {e : Expr} {ta : TA} {po pos tpos : Pos} {elts : List Expr} {kk : Nat} (hg : Gl X "enumerate") (hm : X.mg "enumerate" = none) (ha : PA X [e] ta) (hs : starEach [e] X.env = [(false, eval e X.env)] := by rfl) :
    PI X (.Tuple elts kk tpos) (.Call (.Name "enumerate" po) [e] [] pos) (iE X.K ta) := by
  refine ⟨fun pins s σ H R I h => ?_⟩
  refine Call_ (ld_blt I hg hm boot_enumerate (PyProof.Rows.callWith_type1 (thn (ha.run pos pins s σ H _ I h) fun us s0 ⟨vs, H1, I1, r1, q1⟩ => ?_) hs rfl))
  obtain ⟨p, ev, ⟨xs, hq⟩, q1⟩ := q1
  subst ev
  cases r1 with
  | cons r rr =>
    cases rr
    cases r
    obtain ⟨its, rv, sq, lt⟩ := sq_seq I1 hq
    refine enum_of (begins_of p its) sq fun hN ie io kk2 => wpAny_pyIter_enum ie ?_
    have I2 : Inv X pins σ H1 { s0 with heap := hN } := I1.kept (t' := s0.toks) kk2
    refine ⟨s0.heap.objs.size + 1, [s0.heap.objs.size + 1, s0.heap.objs.size], _, _, H1, rfl, I2, turn_e (Nat.ne_of_lt lt) (Nat.succ_ne_self _) (Nat.ne_of_gt (Nat.lt_succ_of_lt lt)), ⟨⟨.none, ie⟩, SqIt.begin io⟩, fun c hc => ?_, q1⟩
    have le : s0.heap.objs.size ≤ c := by
      have e : c = s0.heap.objs.size + 1 ∨ c = s0.heap.objs.size := by simpa using hc
      rcases e with z | z
      · rw [z]; exact Nat.le_add_right _ _
      · rw [z]; exact Nat.le_refl _
    exact I1.fpOk le (I1.hok.fresh le)
end CE

namespace CL
open PySem PySem.Spec PyProof.Rows L2
/-! ### set(l) of a list of ints -/
section
variable {pg : Program} {wo : World} {Ar : Around} {Ee : Value → Shared → Prop} {t : Shared}
set_option maxRecDepth 100000 in
set_option maxHeartbeats 3200000 in
theorem set_of_list {l : Addr} {its : Array Value} (ns : List Int) {Qe : Value → Shared → Prop} (calm : Ar.handled = none) (isl : t.heap.IsList l its) (intsA : IntsAre its.toList ns) (few : ns.length + 1 < scanBound)
    (goal : ∀ (hN : Heap) (k c : Nat), SetR wo hN t.heap.objs.size (fun j => decide (j ∈ ns)) c → c ≤ ns.length → (∀ b ob, t.heap.get? b = some ob → hN.get? b = some ob) → Qe (.ref t.heap.objs.size) { t with heap := hN, toks := k }) :
    wpAny (model pg wo) Ar (call (.type "set") [.ref l]) Qe Ee t := by
  have len : its.size = ns.length := by
    have z := IntsAre.length intsA
    rw [Array.length_toList] at z
    exact z
  obtain ⟨cc, tail, mro⟩ := PySem.F.called_set.mro
  have made := PySem.F.called_set.made
  have sub := PySem.F.called_set.sub
  refine wpAny_call (codeAny_of_tree ?_)
  show wpAny _ _ (callAny (.type "set") _) _ _ _
  refine wpAny_pure ⟨Code.quiet_builtin _ (by decide +kernel), codeAny_builtin PySem.F.entry_type_call ?_⟩
  rw [Around.under_plain (weight_type_call_type "set" [.ref l] []) rfl]
  have noType := PySem.F.called_set.notType
  have creates := PySem.F.called_set.canCreate
  have checked := PySem.F.typeCall_set_1 (.ref l)
  repeat (any_goals (first | assumption | wp_step))
  refine codeAny_mono (code_set_led1 (.ref l) (E := Ee) (Q₁ := fun ob t1 => ob = .ref t.heap.objs.size ∧ t1 = { t with heap := t.heap.push { cls := .type "set", dict := none, data := .set #[] 0 (.fresh 0 0 (!wo.params.followText "set-order")) } }) ⟨rfl, rfl⟩) fun r t1 hr => ?_
  cases r with
  | error e => exact hr
  | ok fl =>
    cases fl with
    | ret ob =>
      obtain ⟨rfl, rfl⟩ := hr
      have hS : (t.heap.push { cls := .type "set", dict := none, data := .set #[] 0 (.fresh 0 0 (!wo.params.followText "set-order")) }).get? t.heap.objs.size = some { cls := .type "set", dict := none, data := .set #[] 0 (.fresh 0 0 (!wo.params.followText "set-order")) } := Heap.get?_push_size _ rfl
      have tS : Shared.TypeIs { t with heap := t.heap.push { cls := .type "set", dict := none, data := .set #[] 0 (.fresh 0 0 (!wo.params.followText "set-order")) } } (.ref t.heap.objs.size) "set" := ⟨_, hS, rfl⟩
      have ini := PySem.F.called_set.init.lookup
      have bnd := PySem.F.called_set.init.bind (.ref t.heap.objs.size)
      repeat (any_goals (first | assumption | wp_step))
      refine codeAny_mono (codeAny_call_builtin (R := wants (fun r t2 => r = .none ∧ ∃ hN k c, t2 = { t with heap := hN, toks := k } ∧ SetR wo hN t.heap.objs.size (fun j => decide (j ∈ ns)) c ∧ c ≤ ns.length ∧
          (∀ b ob, t.heap.get? b = some ob → hN.get? b = some ob)) Ee) PySem.F.called_set.init.plain PySem.F.entry_set_init (check_set_init_1 tS ?_)) fun r2 t2 hr2 => ?_
      · obtain ⟨ol, hol, hcl, nl, hdl⟩ := id isl
        obtain ⟨ocls, odict, odata, oslots⟩ := ol
        simp only at hcl hdl
        subst hcl
        subst hdl
        have hol2 : (t.heap.push { cls := .type "set", dict := none, data := .set #[] 0 (.fresh 0 0 (!wo.params.followText "set-order")) }).get? l = some { cls := .type "list", dict := odict, data := .seq its nl, slots := oslots } := Heap.get?_push_of_some _ hol
        have s1 := PySem.F.sub_list_set
        have s2 := PySem.F.sub_list_frozenset
        have nd : (Value.type "list" == Value.type "dict") = false := by decide
        have isl2 : (t.heap.push { cls := .type "set", dict := none, data := .set #[] 0 (.fresh 0 0 (!wo.params.followText "set-order")) }).IsList l its := ⟨_, hol2, rfl, nl, rfl⟩
        unfold Builtin.«set.__init__» noKeywords Builtin.Frozenset.updateFrom
        generalize hPI : pyIter = PIt
        wp_walk
        subst hPI
        refine wpAny_pyIter_list isl2 ?_
        refine wpAny_bind (wpAny_runValue ?_)
        have lS : l < t.heap.objs.size := Heap.lt_size hol
        have calm3 : Ar.in1.in1.in1.handled = none := by simp [calm]
        have neI : l ≠ (t.heap.push { cls := .type "set", dict := none, data := .set #[] 0 (.fresh 0 0 (!wo.params.followText "set-order")) }).objs.size := by
          rw [Heap.size_push]
          exact Nat.ne_of_lt (Nat.lt_succ_of_lt lS)
        have notF : t.heap.objs.size ∉ [(t.heap.push { cls := .type "set", dict := none, data := .set #[] 0 (.fresh 0 0 (!wo.params.followText "set-order")) }).objs.size, l] := by
          rw [Heap.size_push]
          simp only [List.mem_cons, List.not_mem_nil, or_false, not_or]
          exact ⟨Nat.ne_of_lt (Nat.lt_succ_self _), Nat.ne_of_gt lS⟩
        have vals : ∀ (i : Nat) (v : Value), its[i]? = some v → ∃ k u, ns[i]? = some k ∧ v = .int k u := fun i v hv => by
          have hi : i < ns.length := by
            rw [← len]
            exact (Array.getElem?_eq_some_iff.mp hv).1
          obtain ⟨u, e⟩ := PyProof.Rows.IntsAre.int_at intsA i v (by rw [Array.getElem?_toList]; exact hv)
          refine ⟨ns[i], u, List.getElem?_eq_getElem hi, ?_⟩
          rw [e, List.getD_eq_getElem?_getD, List.getElem?_eq_getElem hi] <;> rfl
        refine set_update_ints ((Walks.list calm3 _ l neI its).toS) t.heap.objs.size notF ns len few vals (its.size - 0) 0 _ (by omega) (Nat.zero_le _) ⟨⟨_, Heap.get?_push_size _ rfl, rfl, rfl⟩, (isl2.push _)⟩ ?first ?last
        case first =>
          exact ⟨0, Nat.le_refl 0, setR_new_at (Heap.get?_push_of_some _ hS)⟩
        case last =>
          intro t3 c3 mv hc3 hS3
          obtain ⟨hN, g3, d3, k3, os3⟩ := t3
          obtain rfl : g3 = t.gens := mv.gens
          obtain rfl : d3 = t.drawn := mv.drawn
          obtain rfl : os3 = t.os := mv.os
          show wpAny _ _ _ _ _ _
          refine wpAny_pure ?_
          show wpAny _ _ (ret Value.none) _ _ _
          rw [len] at hc3
          refine wpAny_pure ⟨rfl, hN, k3, c3, rfl, hS3, hc3, fun b ob e => ?_⟩
          have b0 : b < t.heap.objs.size := Heap.lt_size e
          have b2 : b ≠ (t.heap.push { cls := .type "set", dict := none, data := .set #[] 0 (.fresh 0 0 (!wo.params.followText "set-order")) }).objs.size := by
            rw [Heap.size_push]
            exact Nat.ne_of_lt (Nat.lt_succ_of_lt b0)
          exact mv.heap b ob (by simp only [List.mem_cons, List.not_mem_nil, or_false, not_or]; exact ⟨Nat.ne_of_lt b0, b2⟩) (Heap.get?_push_of_some _ (Heap.get?_push_of_some _ e))
      · cases r2 with
        | error e => exact hr2
        | ok fl2 =>
          cases fl2 with
          | ret r =>
            obtain ⟨rfl, hN, k, c2, rfl, hS2, hc2, hk2⟩ := hr2
            repeat (any_goals (first | assumption | wp_step))
            exact goal _ _ _ hS2 hc2 hk2
          | _ => exact hr2.elim
    | _ => exact hr.elim
end
/-- set(l), l a list of ints -/
def rSetI (K : PySem.W.Frag) (w : World) : List V → Hp → VK → Prop := fun vs H Q => ∃ (a : Addr) (ns : List Int), vs = [V.ref a] ∧ SqL K H a (ns.map V.int) ∧ ns.length + 1 < scanBound ∧ ∀ p c, H p = none → c ≤ ns.length → Q (.ref p) (upd H p (SetO w p (fun j => decide (j ∈ ns)) c))
theorem call_setI {X : Cx} (hc : X.calm = true) : CallR X (.type "set") (rSetI X.K X.w) := by
  intro pins s σ H vs us Q I r h
  obtain ⟨a, ns, rfl, hl, few, q⟩ := h
  rw [Vals.ref1 r]
  obtain ⟨its, rv, pl, _⟩ := I.list hl
  refine set_of_list ns (I.ok.hd hc) pl.isList (by rw [List.toList_toArray]; exact intsAre_of rv) few fun hN k c new hcl keep => ?_
  exact ⟨.ref _, upd H s.heap.objs.size (SetO X.w s.heap.objs.size (fun j => decide (j ∈ ns)) c), I.laid (t' := k) keep (Nat.le_refl _) (setO_new new), rfl, q _ c (I.hok.fresh (Nat.le_refl _)) hcl⟩
end CL

namespace CS
open PySem PySem.Spec PyProof.Rows L2
/-! ### more rules beside the layer's -/
section
variable {X : Cx}
/-- o.f as a target -/
def gFld (K : PySem.W.Frag) (to : TE) (f : Str) : TG := fun v σ H Q => to σ H fun x H1 => ∃ a C dx fs, x = .ref a ∧ H1 a = some (.ins C dx fs) ∧ Cls K C ∧ NoAttr K C f ∧ fs.length < 1000 ∧ Q σ (upd H1 a (.ins C dx (putF f v fs)))
theorem pg_fld {o : Expr} {f : Str} {pos : Pos} {to : TE} (ho : PE X o to) : PG X (.Attribute o f pos) (gFld X.K to f) := by
  refine ⟨fun pins s σ H v u Q I r h => ?_⟩
  rw [assign_Attribute]
  refine wpAny_bind (wpAny_holding (thn (ho.run pins s σ H _ I h) fun ov s1 ⟨x, H1, I1, r1, a, C, dx, fs, ex, ea, c, n, l, q⟩ => ?_))
  subst ex
  obtain rfl : ov = Value.ref a := r1
  refine wpAny_bind (wpAny_standAt (wpAny_bind (wpAny_holding (setattr_ok I1 ea c n l r fun s3 I3 => ?_))))
  exact wpAny_release ⟨σ, _, I3, q⟩
theorem pe_fldK {e : Expr} {f : Str} {pos : Pos} {ta : TE} (K : PySem.W.Frag) (hk : X.K = K) (he : PE X e ta) (hb : attributeBase e f X.env (eval e X.env) = eval e X.env) : PE X (.Attribute e f pos) (tFld K ta f) := by
  subst hk
  exact pe_fld he hb
def rLenQ (K : PySem.W.Frag) : List V → Hp → VK → Prop := fun xs H Q => ∃ p ys, xs = [.ref p] ∧ (SqL K H p ys ∨ SqT K H p ys) ∧ Q (.int ys.length) H
def rListQ (K : PySem.W.Frag) : List V → Hp → VK → Prop := fun xs H Q => ∃ p ys, xs = [.ref p] ∧ (SqL K H p ys ∨ SqT K H p ys) ∧ ∀ l, H l = none → Q (.ref l) (upd H l (.lst ys))
def rTupleQ (K : PySem.W.Frag) : List V → Hp → VK → Prop := fun xs H Q => ∃ p ys, xs = [.ref p] ∧ ((SqL K H p ys ∧ ∀ l, H l = none → Q (.ref l) (upd H l (.tup ys))) ∨ (SqT K H p ys ∧ Q (.ref p) H))
/-- // by a divisor of either sign -/
def CDivNW (_ j : Int) : Prop := j ≠ 0 ∧ j.natAbs.log2 < 9000
theorem op_fdivNW : OpR X (binaryOp .FloorDiv) (rI CDivNW fun i j => .int (i.fdiv j)) := opI fun _ _ _ _ _ _ _ hc q => floordiv_int hc.1 q (.inl (PyProof.noPylong_of_log2 hc.2))
theorem wide_divN {i j : Int} {b : Nat} (h : j ≠ 0) (hb : j.natAbs < 2 ^ b) (h0 : 0 < b) (h9 : b ≤ 9000) : CDivNW i j := ⟨h, Nat.lt_of_lt_of_le (PySem.Flt.log2_lt_of h0 hb) h9⟩
theorem kit_self {K : PySem.W.Frag} {C : Addr} : PySem.W.kitOne K (.ref C) (.ref C) = some true := by
  unfold PySem.W.kitOne
  rw [if_pos (by simp)]
theorem pe_revLK {e : Expr} {te : TE} {k : Nat} {p1 p2 p3 pos : Pos} (K : PySem.W.Frag) (hk : X.K = K) (he : PE X e te) : PE X (.Subscript e (.Slice none none (some (.UnaryOp .USub (.Constant (.int 1) k p1) p2)) p3) pos) (tRevL K te) := by
  subst hk
  exact pe_revL he
/-- x in s, a list or a tuple of data -/
def rInQ (K : PySem.W.Frag) : R2 := fun x y H Q => ∃ d ds, Dp K H x d ∧ (Dp K H y (.list ds) ∨ Dp K H y (.tuple ds)) ∧ SeqAt.shaped d = true ∧ SeqAt.shaped (.list ds) = true ∧ Q (.bl (ds.any fun z => PyData.eqv z d)) H
def rNotInQ (K : PySem.W.Frag) : R2 := fun x y H Q => ∃ d ds, Dp K H x d ∧ (Dp K H y (.list ds) ∨ Dp K H y (.tuple ds)) ∧ SeqAt.shaped d = true ∧ SeqAt.shaped (.list ds) = true ∧ Q (.bl (!ds.any fun z => PyData.eqv z d)) H
theorem op_inQ (hu : X.A.units + 65 < cLine) : OpR X (compareOp .In) (rInQ X.K) := by
  intro pins s σ H x y v u Q I rx ry h
  obtain ⟨d, ds, hd, he, sd, se, q⟩ := h
  obtain ⟨as, r1⟩ := Dp.reads I d x v hd rx
  rcases he with he | he
  · obtain ⟨bs, r2⟩ := Dp.reads I (.list ds) y u he ry
    exact SeqAt.in_list_reads r2 r1 (SeqAt.canLay_of_shaped se) (SeqAt.canLay_of_shaped sd) (room_in_shaped sd hu) ⟨.bl _, H, I, rfl, q⟩
  · obtain ⟨bs, r2⟩ := Dp.reads I (.tuple ds) y u he ry
    exact SeqAt.in_tuple_reads r2 r1 (SeqAt.canLay_of_shaped se) (SeqAt.canLay_of_shaped sd) (room_in_shaped sd hu) ⟨.bl _, H, I, rfl, q⟩
theorem op_notInQ (hu : X.A.units + 65 < cLine) : OpR X (compareOp .NotIn) (rNotInQ X.K) := by
  intro pins s σ H x y v u Q I rx ry h
  obtain ⟨d, ds, hd, he, sd, se, q⟩ := h
  obtain ⟨as, r1⟩ := Dp.reads I d x v hd rx
  rcases he with he | he
  · obtain ⟨bs, r2⟩ := Dp.reads I (.list ds) y u he ry
    exact SeqAt.notIn_list_reads r2 r1 (SeqAt.canLay_of_shaped se) (SeqAt.canLay_of_shaped sd) (room_in_shaped sd hu) ⟨.bl _, H, I, rfl, q⟩
  · obtain ⟨bs, r2⟩ := Dp.reads I (.tuple ds) y u he ry
    exact SeqAt.notIn_tuple_reads r2 r1 (SeqAt.canLay_of_shaped se) (SeqAt.canLay_of_shaped sd) (room_in_shaped sd hu) ⟨.bl _, H, I, rfl, q⟩
end
end CS

/-! ### promises for callers that print nothing yet, and repr -/
namespace CG
open PySem PySem.Spec PyProof.Rows L2
/-- a promise that is kept where nothing is being printed -/
structure FnOkG (P : Program) (w : World) (K : PySem.W.Frag) (mg : Str → Option Value) (base : Heap) (k : Nat) (f : Addr) (fd : FuncData) (ps : List Str) (sp : Sp) : Prop where
  size : ∀ vs H Q E, sp vs H Q E → vs.length = ps.length
  go : ∀ (A : Around) (fr : List Env) (s : Shared) (H : Hp) (as : Args) (us : List Value) (vs : List V) (Q : VK) (E : XK), A.guards = some [] → Room k A → Env0 P w K mg base A fr s H → BindsTo s fd as (ps.zip us) → Vals vs us → sp vs H Q E →
    codeAny (model P w) A (.call (.ref f) as) (CR CX0 fr P w H s Q E) s
theorem FnOkG.of {P : Program} {w : World} {K : PySem.W.Frag} {mg : Str → Option Value} {base : Heap} {k : Nat} {f : Addr} {fd : FuncData} {ps : List Str} {sp : Sp} (F : FnOk P w K mg base CX0 k f fd ps sp) : FnOkG P w K mg base k f fd ps sp :=
  ⟨F.len, fun A fr s H as us vs Q E _ => F.run A fr s H as us vs Q E⟩
section
variable {P : Program} {w : World} {K : PySem.W.Frag} {mg : Str → Option Value} {base : Heap}
/-- a def by its body, where nothing is being printed -/
theorem okG {x qual : Str} {st : Stmt} {f : Addr} {fd : FuncData} {N ps : List Str} {k : Nat} {sp : Sp} (F : Fun K x qual st f fd) (S : FnScope N ps (defScope st)) (len : ∀ vs H Q E, sp vs H Q E → vs.length = ps.length)
    (body : ∀ (cdv : Value) (A : Around) (fr : List Env) (s : Shared) (H : Hp) (vs : List V) (Q : VK) (E : XK), A.guards = some [] → Room k (A.deeper (envOfC qual (defScope st) s.heap.objs.size f cdv)) → sp vs H Q E →
      ∃ t, PSs (cxOf CX0 P w K mg base N qual (defScope st) f cdv A fr s H E).nox (defBody st) t ∧ t { nx := fun _ H' => Q .non H', rt := Q } (start N vs) H) : FnOkG P w K mg base (k + 1) f fd ps sp := by
  obtain ⟨o1, o2, d1, d2, d3, o3, cd, ct, o4, rfl, look, code⟩ := F.ex
  refine ⟨len, fun A fr s H as us vs Q E gd room en bind rel want => ?_⟩
  have kin : K.In s.heap := en.mod.kin.keeps fun b o e => (en.bs b o e).1
  have nolim : s.heap.NoLimit := en.mod.nolimit.keeps fun b o e => (en.bs b o e).1
  have kinds : ∀ y ∈ ps.zip us, (defScope st).names.lookup y.1 = some .local ∨ ((defScope st).names.lookup y.1 = some .cell ∧ ((cellsFrom (s.heap.objs.size + 1) (defScope st).names []).lookup y.1).isSome = true) := fun ⟨n, v⟩ hy =>
    (S.par n (List.of_mem_zip hy).1).imp id fun q => ⟨q, PySem.W.cellsFrom_some _ _ _ (.inl q)⟩
  refine codeAny_call_function room.depth (kin _ _ look) rfl S.co S.gen rfl (PySem.W.codeRec_of kin code) (bind _ _ _ _ ?_)
  refine wpAny_newFunctionEnv_cells S.kind kinds fun env isEnv s1 entry => ?_
  subst isEnv
  refine ⟨nolim.keeps entry.toInCall.keep, codeAny_func ?_⟩
  obtain ⟨t, rule, reading⟩ := body cd A fr s H vs Q E gd (room.deeper _) want
  have start1 : Inv (cxOf CX0 P w K mg base N qual (defScope st) f cd A fr s H E) [] (start N vs) H s1 := inv_start S room.hd en (len _ _ _ _ want) rel entry
  refine wpAny_mono (rule.nox.run [] s1 (start N vs) H _ start1 reading) (fun fl s' out => ?_) fun e s' out => out
  have close : ∀ {τ : L2.St} {H' : Hp} {v : V} {u : Value}, Inv (cxOf CX0 P w K mg base N qual (defScope st) f cd A fr s H E) [] τ H' s' → RelV v u → Q v H' → CE fr P w H s Q u s' :=
    fun {τ H' v u} J rv q => ⟨v, H', J.os, J.bare, J.base, J.hok, rv, q⟩
  match fl, out with
  | .ret u, ⟨_, _, _, J, rv, q⟩ => exact close J rv q
  | .next, ⟨_, _, J, q⟩ => exact close (v := V.non) (u := Value.none) J rfl q
  | .brk, ⟨_, _, _, q⟩ => exact q.elim
  | .cont, ⟨_, _, _, q⟩ => exact q.elim
end
section
variable {X : Cx} {k : Nat} {f : Addr} {fd : FuncData} {ps : List Str} {sp : Sp} {dvs : List V} {ds : List Value} {E : XK} {x : Str} {p pos : Pos} {e : Expr} {es : List Expr} {t : TA}
theorem goG {pins : List (Addr × Obj)} {σ : L2.St} {H : Hp} {s : Shared} {Q : VK} {us : List Value} {vs : List V} (F : FnOkG X.prog X.w X.K X.mg X.base k f fd ps sp) (gd : X.A.guards = some []) (room : Room k X.A) (bind : Binds X.K fd ps ds) (hd : Vals dvs ds) (pass : Passes CX0 X E)
    (I : Inv X pins σ H s) (rel : Vals vs us) (want : sp (vs ++ dvs) H Q E) : wpAny (model X.prog X.w) X.A (call (.ref f) us) (EP X pins σ Q) X.xe s := by
  have both : Vals (vs ++ dvs) (us ++ ds) := rel.append hd
  have size : (us ++ ds).length = ps.length := both.length.symm.trans (F.size _ _ _ _ want)
  refine wpAny_call (codeAny_mono (F.go X.A X.stack s H ⟨us, []⟩ (us ++ ds) (vs ++ dvs) Q E gd room I.env0 (bind s us I.kIn size) both want) fun out s' q => ?_)
  match out, q with
  | .error err, q => exact pass pins σ H s err s' I q
  | .ok (.ret u), q => exact I.after q
/-- the call of a def that wants nothing to be printed -/
theorem pe_callG (F : FnOkG X.prog X.w X.K X.mg X.base k f fd ps sp) (gd : X.A.guards = some []) (room : Room k X.A) (hg : Gl X x) (hm : X.mg x = some (.ref f)) (hk : PySem.W.keepIn X.K (.ref f) = true) (bind : Binds X.K fd ps ds) (hd : Vals dvs ds) (pass : Passes CX0 X E)
    (args : PA X (e :: es) t) (hdb : (x == ("__debug__" : Str)) = false := by decide) (he : starEach (e :: es) X.env = (false, eval e X.env) :: starEach es X.env := by rfl) (hpl : (backTo pos (starEach es X.env)).any (·.1) = false := by rfl) :
    PE X (.Call (.Name x p) (e :: es) [] pos) (tCall sp dvs E t) :=
  ⟨fun pins s σ H Q I h => wpAny_Call_Name_kw (ld_glob I hg hm (PySem.W.callWith_K (h₀ := X.base) I.ok.mod.kin hk (thn (args.run pos pins s σ H _ I h) fun us s1 ⟨vs, H1, I1, r, q⟩ => ⟨I1.kIn, goG F gd room bind hd pass I1 r q⟩) he hpl) hdb)⟩
/-- repr(x) of data that are known -/
def rRepr (K : PySem.W.Frag) : List V → Hp → VK → Prop := fun vs H Q => ∃ (a : Addr) (d : PyData), vs = [V.ref a] ∧ Dp K H (.ref a) d ∧ d.showable = true ∧ d.hasDict = false ∧ d.shown.length ≤ sizeLine ∧ d.depth ≤ 60 ∧ Q (.str d.shown) H
theorem cr_repr (gd : X.A.guards = some []) (hu : X.A.units + 65 < cLine) : CallR X (.builtin "repr") (rRepr X.K) := by
  intro pins s σ H vs us Q I r h
  obtain ⟨a, d, rfl, hd, sh, nd, lz, dp, q⟩ := h
  rw [Vals.ref1 r]
  obtain ⟨as, rd⟩ := Dp.reads I _ (.ref a) _ hd rfl
  refine repr_of_reads' rd sh (fun z => absurd (nd.symm.trans z) (by decide)) gd (by omega) (fun _ _ e => e) (fun h' u tk hk => ?_) lz
  exact ⟨.str d.shown, H, I.kept (t' := tk) hk, ⟨_, rfl⟩, q⟩
end
/-- the law at its script, from a promise of that kind -/
theorem law_callG {P : Program} {w : World} {K : PySem.W.Frag} {mg mb : Str → Option Value} {k : Nat} {fa a : Addr} {fd : FuncData} {x : Str} {sp : Sp} {s₁ : Shared} {us : List Value} {ms : List Int}
    (inK : K.In s₁.heap) (g1 : s₁.heap.Ns mainGlobals mg) (g2 : s₁.heap.Ns builtinsNs mb) (g3 : ∀ x : Str, x ≠ "__name__" → mb x = bootBuiltins x) (g4 : s₁.heap.NoLimit) (g5 : s₁.gens = #[])
    (at_a : s₁.heap.get? a = some { cls := .type "list", data := .seq us.toArray }) (are : IntsAre us ms) (short : ms.length ≤ sizeLine) (room : Room k callerA)
    (F : ∀ base : Heap, K.In base → base.Ns mainGlobals mg → FnOkG P w K mg base k fa fd [x] sp) (bind : ∀ (s : Shared) (u : Value), BindsTo s fd ⟨[u], []⟩ [(x, u)])
    (want : ∀ H : Hp, Only H → SqL K H a (ms.map V.int) → sp [.ref a] H (fun v _ => v = .bl true) fun _ _ _ => False) :
    codeAny (model P w) callerA (.call (.ref fa) ⟨[.ref a], []⟩) (fun r s' => r = .ok (.ret (.bool true)) ∧ OldK s₁.heap s'.heap ∧ s'.os = s₁.os ∧ AllBare s'.gens) s₁ := by
  have vals := vals_ints are
  have many := are.length
  have main : ∀ H : Hp, Only H → SqL K H a (ms.map V.int) → HOk P w H s₁.heap → (∀ b, H b ≠ none → b = a) → (H a ≠ none → K.lookup a = none) →
      codeAny (model P w) callerA (.call (.ref fa) ⟨[.ref a], []⟩) (fun r s' => r = .ok (.ret (.bool true)) ∧ OldK s₁.heap s'.heap ∧ s'.os = s₁.os ∧ AllBare s'.gens) s₁ := by
    intro H only seq hok just out
    have hid : ∀ {b : Addr} {o : Obj} {es : Array DictEntry} {n : Nat}, s₁.heap.get? b = some o → o.data = .dict es n → H b = none := fun {b o es n} e d => Classical.byContradiction fun z => by
      rw [just b z, at_a] at e
      obtain rfl := Option.some.inj e
      exact absurd (show Data.seq us.toArray _ = Data.dict es n from d) (fun z => nomatch z)
    have names : ∀ {b : Addr} {m : Str → Option Value}, s₁.heap.Ns b m → (hidT s₁.heap H).Ns b m := fun {b m} ⟨o, es, n, e, d, r⟩ => ⟨o, es, n, hidT_get e (hid e d), d, r⟩
    have inB : K.In (hidT s₁.heap H) := fun b o e => hidT_get (inK b o e) (Classical.byContradiction fun z => by
      have ba := just b z
      rw [ba] at z e
      rw [out z] at e
      exact absurd e (fun z => nomatch z))
    have known : Mod K mg (hidT s₁.heap H) := ⟨inB, names g1, ⟨mb, names g2, g3⟩, g4.elim fun mc z => ⟨mc, names z.1, z.2⟩⟩
    have entry : Env0 P w K mg (hidT s₁.heap H) callerA [] s₁ H := ⟨rfl, known, fun b o e => of_hidT e, Nat.le_of_eq (hidT_size _ _), trivial, fun b z => (List.not_mem_nil z).elim, hok, .of_eq g5⟩
    refine codeAny_mono ((F _ inB (names g1)).go callerA [] s₁ H ⟨[.ref a], []⟩ [.ref a] [.ref a] _ _ rfl room entry (bind s₁ (.ref a)) (.cons rfl .nil) (want H only seq)) fun r s' h => ?_
    match r, h with
    | .ok (.ret u), ⟨v, H', os, bare, un, hok', rel, (q : v = .bl true)⟩ =>
      subst q
      obtain rfl : u = Value.bool true := rel
      refine ⟨rfl, OldK.of_keep fun b o e => ?_, os, bare⟩
      rcases only b with z | ⟨ob, xs, z⟩
      · exact un.keep b o e z (fun m => (List.not_mem_nil m).elim) (by simp)
      · have e1 := (hok b _ z).1
        have e2 := (hok' b _ (un.frzs b ob _ z)).1
        rw [e] at e1
        rw [Option.some.inj e1]
        exact e2
  cases look : K.lookup a with
  | some o =>
    obtain rfl := Option.some.inj (at_a.symm.trans (inK a o look))
    exact main (fun _ => none) (fun _ => .inl rfl) (.inr ⟨_, us.toArray, _, look, rfl, rfl, rfl, by simpa [many] using short, by simpa using vals⟩) (fun b u z => (nomatch (show (none : Option HO) = some u from z))) (fun b z => (z rfl).elim) fun z => (z rfl).elim
  | none =>
    let O : Obj := { cls := .type "list", data := .seq us.toArray }
    let G : Hp := fun b => if b = a then some (.frz O (.lst (ms.map V.int))) else none
    have gA : G a = some (.frz O (.lst (ms.map V.int))) := if_pos rfl
    have gN : ∀ b, b ≠ a → G b = none := fun b n => if_neg n
    refine main G (fun b => ?_) (.inl (.inr ⟨O, gA⟩)) (fun b u z => ?_) (fun b z => Classical.byContradiction fun n => z (gN b n)) fun _ => look
    · rcases Decidable.em (b = a) with rfl | n
      · exact .inr ⟨_, _, gA⟩
      · exact .inl (gN b n)
    · rcases Decidable.em (b = a) with rfl | n
      · obtain rfl := Option.some.inj (gA.symm.trans z)
        exact ⟨at_a, by rw [List.length_map]; exact short, us, _, vals, at_a⟩
      · exact absurd (gN b n) (by rw [z]; exact fun e => nomatch e)
/-- a law's end, from a promise of that kind -/
theorem walk_ofG {l : PySem.W.OpenLaw} {n k : Nat} {q : Program} {loose : List Str} {XP : (Str → Option Value) → Heap → Prop} {YP : World → Heap → Prop} {d : DefRec} {x : Str}
    (most : l.most = some n) (small : n ≤ sizeLine) (plain : d.params.defaults = []) (room : Room k callerA)
    (F : ∀ (w : World) (mg : Str → Option Value) (fa : Addr) (h : Heap), YP w h → h.Ns mainGlobals mg → mg d.name = some (.ref fa) →
      ∃ (K : PySem.W.Frag) (fd : FuncData) (sp : Sp), K.In h ∧ (∀ (s : Shared) (u : Value), BindsTo s fd ⟨[u], []⟩ [(x, u)]) ∧
        (∀ (H : Hp) (a : Addr) (ms : List Int), ms.length ≤ n → Only H → SqL K H a (ms.map V.int) → sp [.ref a] H (fun v _ => v = .bl true) fun _ _ _ => False) ∧
        ∀ base : Heap, K.In base → base.Ns mainGlobals mg → FnOkG l.prog w K mg base k fa fd [x] sp) :
    PySem.W.WalkO q loose XP YP l.row.toRowW d [] (fun f vs => PySem.call f vs) :=
  Att.attach_call most plain fun w s₀ s₁ mg mb fa o pm cd doc a us ms G Y ho hd hcd named at_a are len gens => by
    obtain ⟨K, fd, sp, inK, bind, want, prom⟩ := F w mg fa _ Y G.T.g named
    exact law_callG inK G.T.g G.T.b G.T.builtins G.T.nolimit gens at_a are (Nat.le_trans len small) room prom bind fun H only seq => want H a ms len only seq
end CG

/-! ### repr of data that may be None -/
namespace CG
open PySem PySem.Spec PyProof.Rows L2
section
variable {X : Cx}
def rReprN (K : PySem.W.Frag) : List V → Hp → VK → Prop := fun vs H Q => ∃ (x : V) (d : PyData), vs = [x] ∧ (x = .non ∨ ∃ a, x = .ref a) ∧ Dp K H x d ∧ d.showable = true ∧ d.hasDict = false ∧ d.shown.length ≤ sizeLine ∧ d.depth ≤ 60 ∧ Q (.str d.shown) H
theorem cr_reprN (gd : X.A.guards = some []) (hu : X.A.units + 65 < cLine) : CallR X (.builtin "repr") (rReprN X.K) := by
  intro pins s σ H vs us Q I r h
  obtain ⟨x, d, rfl, c, hd, sh, nd, lz, dp, q⟩ := h
  rcases c with rfl | ⟨a, rfl⟩
  · cases hd
    obtain ⟨u, rfl, rfl⟩ := vals1 r
    exact PySem.P.repr_of_none ⟨.str _, H, I.tok _, ⟨_, rfl⟩, q⟩
  · exact cr_repr gd hu pins s σ H _ us Q I r ⟨a, d, rfl, hd, sh, nd, lz, dp, q⟩
end
end CG

/-! ### repr of data that may hold empty dicts -/
namespace CG
open PySem PySem.Spec PyProof.Rows L2
mutual
/-- data, empty dicts among them -/
inductive De (K : PySem.W.Frag) (H : Hp) : V → PyData → Prop
  | non : De K H .non .none
  | bl (b : Bool) : De K H (.bl b) (.bool b)
  | int (i : Int) : De K H (.int i) (.int i)
  | str (x : Str) : De K H (.str x) (.str x)
  | lst {a : Addr} {xs : List V} {ds : List PyData} : SqL K H a xs → DeAll K H xs ds → De K H (.ref a) (.list ds)
  | tup {a : Addr} {xs : List V} {ds : List PyData} : SqT K H a xs → DeAll K H xs ds → De K H (.ref a) (.tuple ds)
  | emp {a : Addr} : H a = some (.dK []) → De K H (.ref a) (.dict [])
inductive DeAll (K : PySem.W.Frag) (H : Hp) : List V → List PyData → Prop
  | nil : DeAll K H [] []
  | cons {v : V} {vs : List V} {d : PyData} {ds : List PyData} : De K H v d → DeAll K H vs ds → DeAll K H (v :: vs) (d :: ds)
end
section
variable {X : Cx} {pins : List (Addr × Obj)} {σ : L2.St} {H : Hp} {s : Shared}
theorem sys_not {a : Addr} {o : Obj} (I : Inv X pins σ H s) (sd : PySem.W.typeIn X.K (.ref sysModules) = some (.type "dict")) (ho : s.heap.get? a = some o) (hc : o.cls = .type "list") : a ≠ sysModules := fun z => by
  obtain ⟨o2, h2, e2⟩ := Option.map_eq_some_iff.mp sd
  have h3 := I.kIn _ _ h2
  rw [z, h3] at ho
  obtain rfl := Option.some.inj ho
  rw [e2] at hc
  exact absurd hc (by decide)
/-- no list stands where sys.modules does -/
def NoSys (h : Heap) : Prop := ∀ (a : Addr) (o : Obj) (its : Array Value) (n : Nat), h.get? a = some o → o.cls = .type "list" → o.data = .seq its n → a ≠ sysModules
mutual
theorem De.reads (I : Inv X pins σ H s) (nl : NoSys s.heap) : ∀ (d : PyData) (v : V) (u : Value), De X.K H v d → RelV v u → ∃ as, Reads s.heap u d as ∧ sysModules ∉ as
  | .none, _, _, h, r => by
    cases h
    cases r
    exact ⟨_, Reads.none, List.not_mem_nil⟩
  | .bool b, _, _, h, r => by
    cases h
    cases r
    exact ⟨_, Reads.bool b, List.not_mem_nil⟩
  | .int i, _, _, h, r => by
    cases h
    obtain ⟨t, rfl⟩ := r
    exact ⟨_, Reads.int i t, List.not_mem_nil⟩
  | .str x, _, _, h, r => by
    cases h
    obtain ⟨t, rfl⟩ := r
    exact ⟨_, Reads.str x t, List.not_mem_nil⟩
  | .list ds, _, _, h, r => by
    cases h with
    | lst hs ha =>
      cases r
      obtain ⟨its, rv, ⟨o, n, ho, hc, _, hd⟩, _⟩ := I.list hs
      obtain ⟨as, hr, hn⟩ := De.readsAll I nl ds _ its ha rv
      exact ⟨_, Reads.list ho hc hd hr, fun z => by
        rcases List.mem_cons.mp z with z | z
        · exact nl _ _ _ _ ho hc hd z.symm
        · exact hn z⟩
  | .tuple ds, _, _, h, r => by
    cases h with
    | tup hs ha =>
      cases r
      obtain ⟨its, rv, ⟨o, ho, hc, n, hd⟩, _⟩ := I.tuple hs
      obtain ⟨as, hr, hn⟩ := De.readsAll I nl ds _ its ha rv
      exact ⟨_, Reads.tuple ho hc hd hr, hn⟩
  | .dict kvs, _, _, h, r => by
    cases h with
    | @emp a he =>
      cases r
      obtain ⟨_, hm, vs, rv, dd⟩ := dk_of I.hok he
      cases rv
      obtain ⟨o, es, n, ho, hx, hd, _, hp, _⟩ := dd
      have e0 : es.toList = [] := by
        cases h : es.toList with
        | nil => rfl
        | cons e t =>
          rw [h] at hp
          cases hp
      have hs : sysModules ∉ a :: ([] : List Addr) ++ [] := fun z => by
        have z2 : sysModules = a := by simpa using z
        rw [← z2] at hm
        simp at hm
      exact ⟨_, Reads.dict (kvs := []) ho hx.1 hd (by rw [e0]; exact .nil) (by rw [e0]; exact .nil), hs⟩
theorem De.readsAll (I : Inv X pins σ H s) (nl : NoSys s.heap) : ∀ (ds : List PyData) (vs : List V) (us : List Value), DeAll X.K H vs ds → Vals vs us → ∃ as, ReadsAll s.heap us ds as ∧ sysModules ∉ as
  | [], _, _, h, r => by
    cases h
    cases r
    exact ⟨_, ReadsAll.nil, List.not_mem_nil⟩
  | d :: ds, _, _, h, r => by
    cases h with
    | cons h1 h2 =>
      cases r with
      | cons r1 r2 =>
        obtain ⟨as, q1, n1⟩ := De.reads I nl d _ _ h1 r1
        obtain ⟨bs, q2, n2⟩ := De.readsAll I nl ds _ _ h2 r2
        exact ⟨_, ReadsAll.cons q1 q2, fun z => (List.mem_append.mp z).elim n1 n2⟩
end
/-- repr(x) -/
def rReprE (K : PySem.W.Frag) : List V → Hp → VK → Prop := fun vs H Q => ∃ (a : Addr) (d : PyData), vs = [V.ref a] ∧ De K H (.ref a) d ∧ d.showable = true ∧ d.shown.length ≤ sizeLine ∧ d.depth ≤ 60 ∧ Q (.str d.shown) H
theorem cr_reprNS (nl : ∀ pins σ H s, Inv X pins σ H s → NoSys s.heap) (gd : X.A.guards = some []) (hu : X.A.units + 65 < cLine) : CallR X (.builtin "repr") (rReprE X.K) := by
  intro pins s σ H vs us Q I r h
  obtain ⟨a, d, rfl, hd, sh, lz, dp, q⟩ := h
  rw [Vals.ref1 r]
  obtain ⟨as, rd, ns⟩ := De.reads I (nl _ _ _ _ I) _ (.ref a) _ hd rfl
  refine repr_of_reads' rd sh (fun _ => ns) gd (by omega) (fun _ _ e => e) (fun h' u tk hk => ?_) lz
  exact ⟨.str d.shown, H, I.kept (t' := tk) hk, ⟨_, rfl⟩, q⟩
theorem cr_reprE (sd : PySem.W.typeIn X.K (.ref sysModules) = some (.type "dict")) (gd : X.A.guards = some []) (hu : X.A.units + 65 < cLine) : CallR X (.builtin "repr") (rReprE X.K) := cr_reprNS (fun _ _ _ _ I _ _ _ _ ho hc _ => sys_not I sd ho hc) gd hu
end
end CG

namespace CG
-- kexcis
open PySem PySem.Spec PyProof.Rows L2
/-! ### isinstance(e, (X, Y)), e the exception that the suite holds -/
/-- what the class D must say -/
structure ExcI (K : PySem.W.Frag) (D : Addr) : Prop where
  hl : (PySem.W.clsIn K D).isSome = true
  hg : PySem.W.findIn K (.ref D) "__getattribute__" = some (some (.builtin "BaseException.__getattribute__"))
  hk : PySem.W.findIn K (.ref D) "__getattr__" = some none
  hs : PySem.W.subIn K (.ref D) (.type "BaseException") = some true
  ha : PySem.W.findIn K (.ref D) "__class__" = some (some (.builtin "object.__class__"))
  hn : PySem.W.specialIn K (.builtin "object.__class__") "__get__" = some (some (.builtin "getset_descriptor.__get__"))
  ht : PySem.W.takesIn K (.builtin "object.__class__") = some true
  hm : PySem.W.mroIn K D (.type "object") = some true
def rIsET (K : PySem.W.Frag) (cls : Value) (d : Option Addr) (D a : Addr) : List V → Hp → VK → Prop := fun xs H Q => ∃ (tp : Addr) (cs : List V) (us : List Value) (b : Bool), xs = [.ref a, .ref tp] ∧ cls = .ref D ∧ H tp = some (.tup cs) ∧ Paired ClsV cs us ∧ (∃ (dd : Addr) (fs : List (Str × V)), d = some dd ∧ H dd = some (.xd fs)) ∧ PySem.W.kitAny K (.ref D) us = some b ∧ Q (.bl b) H
theorem call_isET {X : Cx} {a D : Addr} {oe : Obj} {cls : Value} {d : Option Addr} {pn : List (Addr × Obj)} (C : ExcI X.K D) (hz : Zc cls d oe) (hf : ∃ vs, oe.data = .fields vs) : CallR (X.suite a ((a, oe) :: pn)) (.builtin "isinstance") (rIsET X.K cls d D a) := by
  intro pins s σ H xs us Q I r h
  obtain ⟨tp, cs, ws, b, rfl, ec, hT, k, ⟨dd, fs, ed, hdd⟩, e, q⟩ := h
  obtain ⟨u1, u2, rfl, r1, r2⟩ := vals2 r
  obtain rfl : u1 = Value.ref a := r1
  obtain rfl : u2 = Value.ref tp := r2
  subst ec
  subst ed
  obtain ⟨hget, _⟩ := I.pin (a, oe) (List.mem_append.mpr (.inl List.mem_cons_self))
  obtain ⟨vs, hv⟩ := hf
  have hx : ObjOk X.prog X.w H s.heap dd (.xd fs) := I.hok dd _ hdd
  obtain ⟨mA, ⟨od, hod⟩, _⟩ := (show ∃ mA, (∃ o, s.heap.get? dd = some o) ∧ True by
    obtain ⟨mA, ⟨o, es, n, h1, _⟩, _⟩ := hx
    exact ⟨mA, ⟨o, h1⟩, trivial⟩)
  have J : PySem.W.InstAt s.heap a oe D (some od) := by
    obtain ⟨oc, odi, oda, osl⟩ := oe
    obtain ⟨h1, h2⟩ := hz
    dsimp only at h1 h2 hv
    subst h1 h2 hv
    exact ⟨hget, rfl, rfl, hod⟩
  obtain ⟨_, its, rv, o, h1, h2, n, h3⟩ := (show ObjOk X.prog X.w H s.heap tp (.tup cs) from I.hok tp _ hT)
  have e3 := ClsV.all k rv
  subst e3
  obtain ⟨oc, od2, dt, sl⟩ := o
  simp only at h2 h3
  subst h2 h3
  exact PySem.W.kia_tup (PySem.W.kitx_exc C.hl C.hg C.hk C.hs C.ha C.hn C.ht C.hm) I.kIn J h1 e (fun z => nomatch z) fun tk => ⟨.bl b, H, I.tok tk, rfl, q⟩
end CG

/-! ### repr of any data -/
namespace CG
open PySem PySem.Spec PyProof.Rows L2
section
variable {X : Cx}
def rReprA (K : PySem.W.Frag) : List V → Hp → VK → Prop := fun vs H Q => ∃ (x : V) (d : PyData), vs = [x] ∧ De K H x d ∧ d.showable = true ∧ d.shown.length ≤ sizeLine ∧ d.depth ≤ 60 ∧ Q (.str d.shown) H
/-- sys.modules is a dict, from the base -/
def SysB (base : Heap) : Prop := ∃ m, base.Ns sysModules m
theorem cr_reprG (nl : ∀ pins σ H s, Inv X pins σ H s → NoSys s.heap) (gd : X.A.guards = some []) (hu : X.A.units + 65 < cLine) : CallR X (.builtin "repr") (rReprA X.K) := by
  intro pins s σ H vs us Q I r h
  obtain ⟨x, d, rfl, hd, sh, lz, dp, q⟩ := h
  have ref : ∀ a, x = .ref a → wpAny (model X.prog X.w) X.A (call (.builtin "repr") us) (EP X pins σ Q) X.xe s := fun a e => by
    subst e
    exact cr_reprNS nl gd hu pins s σ H _ us Q I r ⟨a, d, rfl, hd, sh, lz, dp, q⟩
  obtain ⟨u, rfl, ru⟩ := vals1 r
  cases hd with
  | non =>
    obtain rfl : u = Value.none := ru
    exact PySem.P.repr_of_none ⟨.str _, H, I.tok _, ⟨_, rfl⟩, q⟩
  | bl b =>
    obtain rfl : u = Value.bool b := ru
    exact PySem.P.repr_of_bool ⟨.str _, H, I.tok _, ⟨s.toks, by cases b <;> rfl⟩, q⟩
  | int i =>
    obtain ⟨t, rfl⟩ := ru
    exact PySem.P.repr_of_int (of_decide_eq_true sh) ⟨.str _, H, I.tok _, ⟨_, rfl⟩, q⟩
  | str z =>
    obtain ⟨t, rfl⟩ := ru
    have e : PyData.shown (.str z) = reprText z := PyData.shown_str z
    rw [e] at lz q
    refine PySem.P.repr_of_str (x := z) (t := t) ?_ lz
    exact ⟨.str _, H, I.tok _, ⟨_, rfl⟩, q⟩
  | lst h1 h2 => exact ref _ rfl
  | tup h1 h2 => exact ref _ rfl
  | emp h => exact ref _ rfl
theorem cr_reprA (sb : SysB X.base) (gd : X.A.guards = some []) (hu : X.A.units + 65 < cLine) : CallR X (.builtin "repr") (rReprA X.K) := cr_reprG (fun _ _ _ _ I _ _ _ _ ho _ hd z => by
  obtain ⟨_, o2, es, ep, h2, h3, _⟩ := sb
  have h4 := I.bk _ _ h2
  rw [z, h4] at ho
  obtain rfl := Option.some.inj ho
  exact nomatch h3.symm.trans hd) gd hu
end
/-! ### isinstance(e, C), e the exception that the suite holds, whatever its class -/
def rIsEG (K : PySem.W.Frag) (cls : Value) (d : Option Addr) (a : Addr) : List V → Hp → VK → Prop := fun xs H Q => ∃ (D : Addr) (c : V) (cv : Value) (b : Bool), xs = [.ref a, c] ∧ cls = .ref D ∧ ExcI K D ∧ (∃ (dd : Addr) (fs : List (Str × V)), d = some dd ∧ H dd = some (.xd fs)) ∧ (∀ u, RelV c u → u = cv) ∧ PySem.W.kitOne K (.ref D) cv = some b ∧ Q (.bl b) H
theorem call_isEG {X : Cx} {a : Addr} {oe : Obj} {cls : Value} {d : Option Addr} {pn : List (Addr × Obj)} (hz : Zc cls d oe) (hf : ∃ vs, oe.data = .fields vs) : CallR (X.suite a ((a, oe) :: pn)) (.builtin "isinstance") (rIsEG X.K cls d a) := by
  intro pins s σ H xs us Q I r h
  obtain ⟨D, c, cv, b, rfl, ec, C, ⟨dd, fs, ed, hdd⟩, hcv, e, q⟩ := h
  obtain ⟨u1, u2, rfl, r1, r2⟩ := vals2 r
  obtain rfl : u1 = Value.ref a := r1
  obtain rfl := hcv _ r2
  subst ec
  subst ed
  obtain ⟨hget, _⟩ := I.pin (a, oe) (List.mem_append.mpr (.inl List.mem_cons_self))
  obtain ⟨vs, hv⟩ := hf
  have hx : ObjOk X.prog X.w H s.heap dd (.xd fs) := I.hok dd _ hdd
  obtain ⟨od, hod⟩ := (show ∃ o, s.heap.get? dd = some o by
    obtain ⟨mA, ⟨o, es, n, h1, _⟩, _⟩ := hx
    exact ⟨o, h1⟩)
  have J : PySem.W.InstAt s.heap a oe D (some od) := by
    obtain ⟨oc, odi, oda, osl⟩ := oe
    obtain ⟨h1, h2⟩ := hz
    dsimp only at h1 h2 hv
    subst h1 h2 hv
    exact ⟨hget, rfl, rfl, hod⟩
  exact PySem.W.kia_one (PySem.W.kitx_exc C.hl C.hg C.hk C.hs C.ha C.hn C.ht C.hm) I.kIn J e (fun z => nomatch z) fun tk => ⟨.bl b, H, I.tok tk, rfl, q⟩
theorem kit1 {K : PySem.W.Frag} {t c : Value} {b : Bool} (h : PySem.W.kitAny K t [c] = some b) : PySem.W.kitOne K t c = some b := by
  unfold PySem.W.kitAny at h
  split at h
  · rename_i e
    rw [e, h]
  · rename_i e
    rw [e]
    exact h
  · cases h
theorem rel_cls {C : Addr} : ∀ u, RelV (.ref C) u → u = Value.ref C := fun _ h => h
theorem rel_ty {s : String} : ∀ u, RelV (.ty s) u → u = Value.type s := fun _ h => h
end CG

-- exceptions
/-! ### errors as values: made, read, asked for their class -/
namespace CG
open PySem PySem.Spec PyProof.Rows L2
/-- x is an error of the class C, not raised, whose field f holds y -/
def XVal (H : Hp) (C : Addr) (f : Str) (y x : V) : Prop := ∃ a dx : Addr, x = .ref a ∧ H a = some (exo a C (some dx)) ∧ H dx = some (exd dx [(f, y)])
theorem XVal.ext {H H2 : Hp} {C : Addr} {f : Str} {y x : V} (e : ∀ a u, H a = some (.ext u) → H2 a = some (.ext u)) (h : XVal H C f y x) : XVal H2 C f y x := by
  obtain ⟨a, dx, h1, h2, h3⟩ := h
  exact ⟨a, dx, h1, e _ _ h2, e _ _ h3⟩
section
variable {X : Cx} {CX : CXT}
/-- C(e, ..), C an error class whose own __init__ keeps sp; the value stays a value -/
def tNewX (C : Addr) (sp : Sp) (ta : TA) : TE := fun σ H Q => ta σ H fun vs H1 => vs.length ≤ 1000 ∧ ∀ a, H1 a = none →
  sp (.ref a :: vs) (upd H1 a (exo a C none)) (fun v H2 => v = .non ∧ Q (.ref a) H2) (fun _ _ _ => False)
/-- the call of an own error class, its arguments there -/
theorem newx_run {pins : List (Addr × Obj)} {σ : L2.St} {H1 : Hp} {Q : VK} {C fI : Addr} {k : Nat} {fd : FuncData} {ps : List Str} {sp : Sp} {us : List Value} {vs : List V} {s1 : Shared}
    (T : OexC X.K C) (iC : PySem.W.findIn X.K (.ref C) "__init__" = some (some (.ref fI))) (tI : PySem.W.typeIn X.K (.ref fI) = some (.type "function"))
    (F1 : FnOk X.prog X.w X.K X.mg X.base CX k fI fd ps sp) (room : Room (k + 1) X.A) (hb : Binds X.K fd ps []) (pass : Passes CX X (fun _ _ _ => False))
    (I1 : Inv X pins σ H1 s1) (r1 : Vals vs us) (few : vs.length ≤ 1000)
    (want : ∀ a, H1 a = none → sp (.ref a :: vs) (upd H1 a (exo a C none)) (fun v H2 => v = .non ∧ Q (.ref a) H2) (fun _ _ _ => False)) :
    wpAny (model X.prog X.w) X.A (call (.ref C) us) (EP X pins σ Q) X.xe s1 := by
  obtain ⟨c1, c2, c3, c4, c5, c6, c7, c8, c9, c10, c11, c12, c13, c14, c15, cls, bases⟩ := T.cls
  obtain ⟨hp, g, dr, tk, os⟩ := s1
  have big : hp.objs.size ≤ hp.objs.size + 1 := Nat.le_succ _
  have new := I1.hok.fresh big
  have ask := want _ new
  let G : Heap := (hp.push (PySem.W.kdv_tup us)).push (PySem.HandSPX.excO C hp.objs.size)
  have kept : ∀ b o, hp.get? b = some o → G.get? b = some o := fun b o e => Heap.get?_push_of_some _ (Heap.get?_push_of_some _ e)
  have there : G.get? (hp.objs.size + 1) = some (PySem.HandSPX.excO C hp.objs.size) := by
    show ((hp.push (PySem.W.kdv_tup us)).push _).get? _ = _
    heap_get
  have I2 : Inv X pins σ (upd H1 (hp.objs.size + 1) (exo (hp.objs.size + 1) C none)) ⟨G, g, dr, tk, os⟩ := I1.laid (t' := tk) kept big (exo_ok there)
  have r2 : Vals (V.ref (hp.objs.size + 1) :: vs) (Value.ref (hp.objs.size + 1) :: us) := .cons rfl r1
  have same : (Value.ref (hp.objs.size + 1) :: us).length = ps.length := by
    rw [← r2.length]
    exact F1.len _ _ _ _ ask
  have short : us.length ≤ sizeLine := by
    rw [← Paired.length r1, sizeLine_eq]
    omega
  have binds := hb _ (Value.ref (hp.objs.size + 1) :: us) I2.kIn (by rw [List.append_nil]; exact same)
  rw [List.append_nil] at binds
  have runs := F1.run _ X.stack _ _ ⟨Value.ref (hp.objs.size + 1) :: us, []⟩ _ _ _ (fun _ _ _ => False) (room.make C us []) (I2.env0.make C us []) binds r2 ask
  refine wpAny_call ?_
  refine PySem.HandSPX.call_own F.excBase_ValueError (fun Y => PySem.HandSPX.refsVE_contains Y _ bases) (I1.kIn _ _ cls) (PySem.W.looks_findIn I1.kIn iC) ?_ short ?_
  · exact fun self => PySem.W.bind_fn I1.kIn self tI
  refine codeAny_mono runs fun r s' hq => ?_
  match r, hq with
  | .error er, hq => exact pass pins σ _ _ er s' I2 hq
  | .ok (.ret u), hq =>
    obtain ⟨v, H2, I3, rv, ev, q2⟩ := I2.after hq
    subst ev
    exact ⟨rv, .ref _, H2, I3, rfl, q2⟩
theorem pe_newx {x : Str} {C fI : Addr} {k : Nat} {fd : FuncData} {ps : List Str} {sp : Sp} {e : Expr} {es : List Expr} {ta : TA} {p pos : Pos}
    (T : OexC X.K C) (iC : PySem.W.findIn X.K (.ref C) "__init__" = some (some (.ref fI))) (tI : PySem.W.typeIn X.K (.ref fI) = some (.type "function"))
    (F1 : FnOk X.prog X.w X.K X.mg X.base CX k fI fd ps sp) (room : Room (k + 1) X.A) (hb : Binds X.K fd ps []) (pass : Passes CX X (fun _ _ _ => False)) (hg : Gl X x) (hm : X.mg x = some (.ref C)) (ha : PA X (e :: es) ta)
    (hdb : (x == ("__debug__" : Str)) = false := by decide) (he : starEach (e :: es) X.env = (false, eval e X.env) :: starEach es X.env := by rfl) (hpl : (backTo pos (starEach es X.env)).any (·.1) = false := by rfl) :
    PE X (.Call (.Name x p) (e :: es) [] pos) (tNewX C sp ta) := ⟨fun pins s σ H Q I h => by
  refine wpAny_Call_Name_kw (ld_glob I hg hm ?_ hdb)
  refine PySem.W.callWith_K (h₀ := X.base) I.ok.mod.kin T.kC (thn (ha.run pos pins s σ H _ I h) ?_) he hpl
  rintro us s1 ⟨vs, H1, I1, r1, few, want⟩
  exact ⟨I1.kIn, newx_run T iC tI F1 room hb pass I1 r1 few want⟩⟩
/-- o.n, o such a value -/
def tXaA (K : PySem.W.Frag) (n : Str) (te : TE) : TE := fun σ H Q => te σ H fun x H1 => ∃ (C : Addr) (y : V), XfC K C ∧ PySem.W.findIn K (.ref C) n = some none ∧ XVal H1 C n y x ∧ Q y H1
theorem pe_xaA (K : PySem.W.Frag) {e : Expr} {te : TE} {pos : Pos} {n : Str} (hK : X.K = K) (he : PE X e te) (hb : attributeBase e n X.env (eval e X.env) = eval e X.env) :
    PE X (.Attribute e n pos) (tXaA K n te) := ⟨fun pins s σ H Q I h => by
  subst hK
  refine attr_of hb (thn (he.run pins s σ H _ I h) ?_)
  rintro u s1 ⟨x, H1, I1, rx, C, y, T, free, ⟨a, dx, ex, ha, hd⟩, q⟩
  subst ex
  obtain rfl : u = Value.ref a := rx
  obtain ⟨t1, here⟩ := exo_at I1.hok ha
  obtain ⟨mA, names, rel⟩ := exd_at I1.hok hd
  obtain ⟨od, ho, hl⟩ := lookIn_ns names
  obtain ⟨u, hu, ru⟩ := RelO.some_of (v := y) (o := mA n) (by
    have z := rel n
    rw [show List.lookup n [(n, y)] = some y from by simp [List.lookup]] at z
    exact z)
  refine HandSPX.exc_get I1.kIn ⟨here, rfl, rfl, ho⟩ T.ga T.gg T.exC (PySem.W.findObj_own T.hdC free rfl ?_) (handed_of ru) ⟨y, H1, I1.tok _, ru, q⟩
  rw [hl, hu]⟩
/-- isinstance(o, c), o such a value -/
def rIsX (K : PySem.W.Frag) : List V → Hp → VK → Prop := fun xs H Q => ∃ (x c : V) (cv : Value) (C : Addr) (f : Str) (y : V) (b : Bool), xs = [x, c] ∧ XVal H C f y x ∧ ExcI K C ∧ (∀ u, RelV c u → u = cv) ∧ PySem.W.kitOne K (.ref C) cv = some b ∧ Q (.bl b) H
theorem call_isX : CallR X (.builtin "isinstance") (rIsX X.K) := fun pins s σ H xs us Q I r h => by
  obtain ⟨x, c, cv, C, f, y, b, rfl, ⟨a, dx, rfl, ha, hd⟩, T, hcv, e, q⟩ := h
  obtain ⟨u1, u2, rfl, r1, r2⟩ := vals2 r
  obtain rfl : u1 = Value.ref a := r1
  obtain rfl := hcv _ r2
  obtain ⟨t1, here⟩ := exo_at I.hok ha
  obtain ⟨mA, names, rel⟩ := exd_at I.hok hd
  obtain ⟨od, ho, hl⟩ := lookIn_ns names
  have J : PySem.W.InstAt s.heap a _ C (some od) := ⟨here, rfl, rfl, ho⟩
  exact PySem.W.kia_one (PySem.W.kitx_exc T.hl T.hg T.hk T.hs T.ha T.hn T.ht T.hm) I.kIn J e (fun z => nomatch z) fun tk => ⟨.bl b, H, I.tok tk, rfl, q⟩
end
end CG

-- dictcomps
/-! ### errors as values, their arguments by name -/
namespace CG
open PySem PySem.Spec PyProof.Rows L2 PySem.HandSPX
section
variable {prog : Program} {w : World} {A : Around} {E : Value → Shared → Prop} {R : Result → Shared → Prop} {h : Heap} {g : Array GenState} {d : Drawn} {t : Nat} {os : OsState} {kw : List (Str × Value)}
variable {nm q : Str} {C N : Addr} {bs bm bmB : List Value} {hdct : Bool} {sn : List Str} {sub : List Value} {ab : Bool} {col : Option Bool} {dd : Option Addr} {k0 k1 k2 k3 k5 : Option Value} {B newId initId : String}
theorem chk_newk {M : Model} {Q : Unit → Shared → Prop} (F : ExcBaseFacts B newId initId bmB) (has : ∀ Y : String, bm.contains (.type Y) = bmB.contains (.type Y))
    (hC : h.get? C = some (excClassObj nm q C N bs bm hdct sn sub ab col dd k0 k1 k2 k3 k5 newId)) (done : Q () ⟨h, g, d, t, os⟩) : wpAny M A (checkBuiltinCall newId ⟨[.ref C], kw⟩) Q E ⟨h, g, d, t, os⟩ := by
  have inB : (Value.ref C :: bm).contains (.type B) = true := by
    rw [List.contains_cons, has, F.hasB, Bool.or_true]
  have star := F.noStar
  simp only [checkBuiltinCall, F.newKind, F.newSplit, F.newRow]
  repeat (first
    | refine wpAny_loadPart_at hC ?_
    | (refine wpAny_isSubtype_exc hC ?_; rw [inB])
    | refine wpAny_staticBase_exc hC ?_
    | refine wpAny_madeBy_exc hC ?_
    | simp only [bne_self_eq_false, Bool.false_eq_true, if_false]
    | wp_step)
  exact done
theorem new_kw (F : ExcBaseFacts B newId initId bmB) (has : ∀ Y : String, bm.contains (.type Y) = bmB.contains (.type Y))
    (hC : h.get? C = some (excClassObj nm q C N bs bm hdct sn sub ab col dd k0 k1 k2 k3 k5 newId))
    (done : R (.ok (.ret (.ref (h.objs.size + 1)))) ⟨(h.push (PySem.W.kdv_tup [])).push (excO C h.objs.size), g, d, t, os⟩) :
    codeAny (model prog w) A (.builtin newId ⟨[.ref C], kw⟩) R ⟨h, g, d, t, os⟩ := by
  have ends := F.ends
  have inB : (Value.ref C :: bm).contains (.type B) = true := by
    rw [List.contains_cons, has, F.hasB, Bool.or_true]
  have notA : (Value.ref C :: bm).contains (.type "AttributeError") = false := by
    rw [List.contains_cons, has, F.noAttr]
    rfl
  have notN : (Value.ref C :: bm).contains (.type "NameError") = false := by
    rw [List.contains_cons, has, F.noName]
    rfl
  refine codeAny_builtinAt F.entry ?_
  unfold Builtin.«BaseException.__new__»
  refine PySem.wpAt_bind ?_
  show PySem.wpAt _ _ _ (stack >>= _) _ _ _
  refine PySem.wpAt_bind (PySem.wpAt_stack fun p below => PySem.wpAt_of_wpAny ?_)
  wp_walk
  refine PySem.wpAt_of_wpAny ?_
  rw [F.owner]
  have tiny : ([] : List Value).length ≤ sizeLine := by
    rw [sizeLine_eq]
    exact Nat.zero_le _
  repeat (first
    | with_reducible refine wpAny_madeHere_exc F.canon hC ?_
    | with_reducible refine wpAny_loadPart_at hC ?_
    | (with_reducible refine wpAny_isSubtype_exc hC ?_; first | rw [inB] | rw [notA] | rw [notN])
    | wp_step)
  show R _ _
  rw [Heap.size_push]
  exact done
theorem type_kw (F : ExcBaseFacts B newId initId bmB) (has : ∀ Y : String, bm.contains (.type Y) = bmB.contains (.type Y)) {fI : Addr} {Q : PySem.Fin → Shared → Prop}
    (hC : h.get? C = some (excClassObj nm q C N bs bm hdct sn sub ab col dd k0 k1 k2 k3 k5 newId))
    (ini : PySem.W.Looks (model prog w) h (typeLookup (.ref C) "__init__") (some (.ref fI))) (bnd : ∀ self, PySem.W.Looks (model prog w) h (bindSpecial (.ref fI) self) (.ref fI, [self]))
    (done : codeAny (model prog w) A (.call (.ref fI) ⟨[.ref (h.objs.size + 1)], kw⟩)
      (fun r s' => match r with
        | .ok (.ret v) => v = .none ∧ Q (.done (.ret (.ref (h.objs.size + 1)))) s'
        | .ok _ => False
        | .error e => E e s')
      ⟨(h.push (PySem.W.kdv_tup [])).push (excO C h.objs.size), g, d, t, os⟩) :
    wpAny (model prog w) A (Builtin.«type.__call__» ⟨[.ref C], kw⟩) Q E ⟨h, g, d, t, os⟩ := by
  repeat (first
    | with_reducible refine wpAny_loadPart_at hC ?_
    | with_reducible refine wpAny_madeBy_exc hC ?_
    | wp_step)
  refine codeAny_call_builtin_code (Code.quiet_builtin _ F.quiet) (chk_newk F has hC ?_)
  refine new_kw F has hC ?_
  show wpAny _ _ _ _ _ _
  have kept : ∀ b o, h.get? b = some o → ((h.push (PySem.W.kdv_tup [])).push (excO C h.objs.size)).get? b = some o := fun b o e => Heap.get?_push_of_some _ (Heap.get?_push_of_some _ e)
  have hC2 := kept _ _ hC
  have there : ((h.push (PySem.W.kdv_tup [])).push (excO C h.objs.size)).get? (h.objs.size + 1) = some (excO C h.objs.size) := by heap_get
  have own : (Value.ref C :: bm).contains (.ref C) = true := by simp
  have i2 := ini.keeps kept
  have b2 := (bnd (.ref (h.objs.size + 1))).keeps kept
  unfold isInstance
  repeat (first
    | with_reducible refine wpAny_loadPart_at there ?_
    | (with_reducible refine wpAny_isSubtype_exc hC2 ?_; rw [own])
    | wp_step)
  show wpAny _ _ (typeLookup (.ref C) _) _ _ _
  refine i2.at ?_
  refine wpAny_holding (wpAny_bind (b2.at ?_))
  refine wpAny_bind (wpAny_call (codeAny_mono done fun r s' z => ?_))
  rcases r with e | (v | _ | _ | _) <;> first | exact z | exact z.elim | skip
  obtain ⟨rfl, z⟩ := z
  first
    | exact wpAny_pure (wpAny_pure z)
    | (wp_walk; exact z)
theorem chk_typek {M : Model} {Q : Unit → Shared → Prop} (hC : h.get? C = some (excClassObj nm q C N bs bm hdct sn sub ab col dd k0 k1 k2 k3 k5 newId))
    (done : Q () ⟨h, g, d, t, os⟩) : wpAny M A (checkBuiltinCall "type.__call__" ⟨[.ref C], kw⟩) Q E ⟨h, g, d, t, os⟩ := by
  have f3 := tc_sub
  have isT : (⟨h, g, d, t, os⟩ : Shared).TypeIs (.ref C) "type" := ⟨_, hC, rfl⟩
  simp only [checkBuiltinCall, tc_kind, tc_split]
  repeat (any_goals (first
    | assumption
    | with_reducible refine wpAny_loadPart_at hC ?_
    | with_reducible refine wpAny_onRaise ?_
    | with_reducible refine wpAny_map ?_
    | wp_step))
theorem call_kwx (F : ExcBaseFacts B newId initId bmB) (has : ∀ Y : String, bm.contains (.type Y) = bmB.contains (.type Y)) {fI : Addr}
    (hC : h.get? C = some (excClassObj nm q C N bs bm hdct sn sub ab col dd k0 k1 k2 k3 k5 newId))
    (ini : PySem.W.Looks (model prog w) h (typeLookup (.ref C) "__init__") (some (.ref fI))) (bnd : ∀ self, PySem.W.Looks (model prog w) h (bindSpecial (.ref fI) self) (.ref fI, [self]))
    (done : codeAny (model prog w) (A.under (.builtin "type.__call__" ⟨[.ref C], kw⟩)) (.call (.ref fI) ⟨[.ref (h.objs.size + 1)], kw⟩) (PySem.W.InitBack (h.objs.size + 1) R)
      ⟨(h.push (PySem.W.kdv_tup [])).push (excO C h.objs.size), g, d, t, os⟩) :
    codeAny (model prog w) A (.call (.ref C) ⟨[], kw⟩) R ⟨h, g, d, t, os⟩ := by
  have f1 := tc_lookup
  have f2 := tc_bind (.ref C)
  have isT : (⟨h, g, d, t, os⟩ : Shared).TypeIs (.ref C) "type" := ⟨_, hC, rfl⟩
  refine codeAny_of_tree ?_
  show wpAny _ _ (callAny (.ref C) _) _ _ _
  repeat (any_goals (first
    | assumption
    | with_reducible refine wpAny_loadPart_at hC ?_
    | wp_step))
  refine ⟨rfl, ?_⟩
  refine codeAny_call_builtin_at (Code.quiet_builtin _ (by decide +kernel)) entry_typeCall (chk_typek hC ?_)
  refine type_kw F has hC ini bnd (codeAny_mono done fun r s' z => ?_)
  rcases r with e | (v | _ | _ | _) <;> exact z
end
section
variable {X : Cx} {CX : CXT}
/-- C(k = v), C an error class whose own __init__ keeps sp; the value stays a value -/
def tNewXK (C : Addr) (m : Nat) (sp : Sp) (gV : List V → List V → List V) (tk : TA) : TE := fun σ H Q => tk σ H fun zs H1 => zs.length = m ∧ ∀ a, H1 a = none →
  sp (gV [.ref a] zs) (upd H1 a (exo a C none)) (fun v H2 => v = .non ∧ Q (.ref a) H2) (fun _ _ _ => False)
theorem newxk_run {pins : List (Addr × Obj)} {σ : L2.St} {H1 : Hp} {Q : VK} {C fI : Addr} {k : Nat} {fd : FuncData} {ps ks : List Str} {sp : Sp} {g : List Value → List Value → List Value} {gV : List V → List V → List V} {ws : List Value} {zs : List V} {s1 : Shared}
    (T : OexC X.K C) (iC : PySem.W.findIn X.K (.ref C) "__init__" = some (some (.ref fI))) (tI : PySem.W.typeIn X.K (.ref fI) = some (.type "function"))
    (F1 : FnOk X.prog X.w X.K X.mg X.base CX k fI fd ps sp) (room : Room (k + 1) X.A) (hb : KBn X.K fd ps 1 ks g gV) (pass : Passes CX X (fun _ _ _ => False))
    (I1 : Inv X pins σ H1 s1) (rz : Vals zs ws) (lz : zs.length = ks.length)
    (want : ∀ a, H1 a = none → sp (gV [.ref a] zs) (upd H1 a (exo a C none)) (fun v H2 => v = .non ∧ Q (.ref a) H2) (fun _ _ _ => False)) :
    wpAny (model X.prog X.w) X.A (call (.ref C) [] (ks.zip ws)) (EP X pins σ Q) X.xe s1 := by
  obtain ⟨c1, c2, c3, c4, c5, c6, c7, c8, c9, c10, c11, c12, c13, c14, c15, cls, bases⟩ := T.cls
  obtain ⟨hp, g0, dr, tk, os⟩ := s1
  have big : hp.objs.size ≤ hp.objs.size + 1 := Nat.le_succ _
  have ask := want _ (I1.hok.fresh big)
  let G : Heap := (hp.push (PySem.W.kdv_tup [])).push (excO C hp.objs.size)
  have kept : ∀ b o, hp.get? b = some o → G.get? b = some o := fun b o e => Heap.get?_push_of_some _ (Heap.get?_push_of_some _ e)
  have there : G.get? (hp.objs.size + 1) = some (excO C hp.objs.size) := by
    show ((hp.push (PySem.W.kdv_tup [])).push _).get? _ = _
    heap_get
  have I2 : Inv X pins σ (upd H1 (hp.objs.size + 1) (exo (hp.objs.size + 1) C none)) ⟨G, g0, dr, tk, os⟩ := I1.laid (t' := tk) kept big (exo_ok there)
  have r1 : Vals [V.ref (hp.objs.size + 1)] [Value.ref (hp.objs.size + 1)] := .cons rfl .nil
  have runs := F1.run _ X.stack _ _ ⟨[Value.ref (hp.objs.size + 1)], ks.zip ws⟩ (g [Value.ref (hp.objs.size + 1)] ws) _ _ (fun _ _ _ => False) (room.make C [] (ks.zip ws)) (I2.env0.make C [] (ks.zip ws)) (hb.to _ [Value.ref (hp.objs.size + 1)] ws I2.kIn rfl (rz.length.symm.trans lz)) (hb.rel r1 rz) ask
  refine wpAny_call ?_
  refine call_kwx F.excBase_ValueError (fun Y => refsVE_contains Y _ bases) (I1.kIn _ _ cls) (PySem.W.looks_findIn I1.kIn iC) ?_ ?_
  · exact fun self => PySem.W.bind_fn I1.kIn self tI
  refine codeAny_mono runs fun r s' hq => ?_
  match r, hq with
  | .error er, hq => exact pass pins σ _ _ er s' I2 hq
  | .ok (.ret u), hq =>
    obtain ⟨v, H2, I3, rv, ev, q2⟩ := I2.after hq
    subst ev
    exact ⟨rv, .ref _, H2, I3, rfl, q2⟩
theorem pe_newxk {x : Str} {C fI : Addr} {k : Nat} {fd : FuncData} {ps ks : List Str} {sp : Sp} {g : List Value → List Value → List Value} {gV : List V → List V → List V} {kws : List Keyword} {tk : TA} {p pos : Pos}
    (T : OexC X.K C) (iC : PySem.W.findIn X.K (.ref C) "__init__" = some (some (.ref fI))) (tI : PySem.W.typeIn X.K (.ref fI) = some (.type "function"))
    (F1 : FnOk X.prog X.w X.K X.mg X.base CX k fI fd ps sp) (room : Room (k + 1) X.A) (hb : KBn X.K fd ps 1 ks g gV) (pass : Passes CX X (fun _ _ _ => False)) (hg : Gl X x) (hm : X.mg x = some (.ref C)) (hkw : PK X kws tk)
    (hall : (backToKw pos (keywordEach kws X.env)).all (·.1.isSome) = true := by rfl) (hks : (backToKw pos (keywordEach kws X.env)).filterMap (·.1) = ks := by rfl) (hdb : (x == ("__debug__" : Str)) = false := by decide)
    (hpl : ((backTo pos (starEach [] X.env)).any (·.1) || (backToKw pos (keywordEach kws X.env)).any (·.1.isNone)) = false := by rfl) :
    PE X (.Call (.Name x p) [] kws pos) (tNewXK C ks.length sp gV tk) := ⟨fun pins s σ H Q I h => by
  refine wpAny_Call_Name_kw (ld_glob I hg hm ?_ hdb)
  refine PySem.W.callWith_KW0 (h₀ := X.base) I.ok.mod.kin T.kC hall (thn (hkw.run pos pins s σ H _ I h) ?_) hpl
  rintro ws s2 ⟨zs, H2, I2, rz, l2, want⟩
  refine ⟨I2.kIn, ?_⟩
  rw [hks]
  exact newxk_run T iC tI F1 room hb pass I2 rz l2 want⟩
/-! ### repr of data, or of a dict of texts and ints; == of the same -/
/-- a value that stands for itself, or a dict whose keys are ints and texts, its values ints -/
def DcI (H : Hp) (x : V) (kvs : List (L2.Key × Int)) : Prop := ∃ a, x = .ref a ∧ H a = some (.dK (kvs.map fun p => (p.1, V.int p.2)))
def rEqX (K : PySem.W.Frag) : R2 := fun x y H Q => rEqD K x y H Q ∨ rEqDA x y H Q
theorem op_eqX (hu : X.A.units + 64 < cLine) : OpR X (compareOp .Eq) (rEqX X.K) := fun pins s σ H x y v u Q I rx ry h =>
  h.elim (fun z => op_eqD hu pins s σ H x y v u Q I rx ry z) fun z => op_eq_dictA (by omega) pins s σ H x y v u Q I rx ry z
end
section
variable {X : Cx}
/-- repr(x): data, or a dict of one text and an int -/
def rReprX (K : PySem.W.Frag) : List V → Hp → VK → Prop := fun vs H Q => rReprA K vs H Q ∨ ∃ (a : Addr) (t : Str) (n : Int), vs = [V.ref a] ∧ H a = some (.dK [(.inr t, .int n)]) ∧ (PyData.dict [(.str t, .int n)]).showable = true ∧ (PyData.dict [(.str t, .int n)]).shown.length ≤ sizeLine ∧ Q (.str (PyData.dict [(.str t, .int n)]).shown) H
theorem cr_reprX (sd : PySem.W.typeIn X.K (.ref sysModules) = some (.type "dict")) (gd : X.A.guards = some []) (hu : X.A.units + 65 < cLine) : CallR X (.builtin "repr") (rReprX X.K) := fun pins s σ H vs us Q I r h => by
  rcases h with h | ⟨a, t, n, rfl, ha, sh, lz, q⟩
  · exact cr_reprG (fun _ _ _ _ I _ _ _ _ ho hc _ => sys_not I sd ho hc) gd hu pins s σ H vs us Q I r h
  · rw [Vals.ref1 r]
    obtain ⟨_, hm, vs, rv, o, es, ep, ho, hx, hd, _, hp, _⟩ := dk_of I.hok ha
    obtain ⟨tk, tn, e, e0, e1, e2⟩ : ∃ (tk tn : Tok) (e : DictEntry), es.toList = [e] ∧ e.key = .str t tk ∧ e.val = .int n tn := by
      generalize es.toList = l at hp ⊢
      cases rv with
      | @cons _ q _ _ h1 h2 =>
        cases h2
        cases hp with
        | @cons e _ _ _ k v p =>
          cases p
          obtain ⟨h3, tn, h5⟩ := h1
          have k2 : keyIs q.1 e.key = true := k
          rw [← show (.inr t : L2.Key) = q.1 from h3] at k2
          obtain ⟨tk, h6⟩ := Value.isStrOf_shape (x := t) (v := e.key) k2
          exact ⟨tk, tn, e, rfl, h6, v.trans h5⟩
    have hs : sysModules ∉ a :: ([] ++ []) ++ ([] ++ []) := fun z => by
      have z2 : sysModules = a := by simpa using z
      rw [← z2] at hm
      simp at hm
    have rd : Reads s.heap (.ref a) (.dict [(.str t, .int n)]) (a :: ([] ++ []) ++ ([] ++ [])) := Reads.dict (kvs := [(.str t, .int n)]) ho hx.1 hd (by rw [e0]; show ReadsAll s.heap [e.key] _ _; rw [e1]; exact .cons (.str t tk) .nil) (by rw [e0]; show ReadsAll s.heap [e.val] _ _; rw [e2]; exact .cons (.int n tn) .nil)
    refine repr_of_reads' rd sh (fun _ => hs) gd (by
      have : (PyData.dict [(.str t, .int n)]).depth ≤ 3 := by simp [PyData.depth, PyData.depthKv]
      omega) (fun _ _ e => e) (fun h' u tk hk => ?_) lz
    exact ⟨.str _, H, I.kept (t' := tk) hk, ⟨_, rfl⟩, q⟩
end
end CG

namespace CS
open PySem PySem.Spec PyProof.Rows L2
def top (i : Nat) : Stmt := PySem.Challenge.pw_calledseats_k04_error_types.main.body.getD i (.Pass ⟨0, 0, 0, 0⟩)
abbrev s_InvalidTable_init : Stmt := inClass (top 2) 0
abbrev N_InvalidTable_init : List Str := ["self", "rings"]
theorem sc_InvalidTable_init : FnScope N_InvalidTable_init ["self", "rings"] (defScope s_InvalidTable_init) := ⟨rfl, rfl, rfl, by decide +kernel, rfl, by decide +kernel, by decide +kernel⟩
abbrev s_InvalidTargets_init : Stmt := inClass (top 3) 0
abbrev N_InvalidTargets_init : List Str := ["self", "index"]
theorem sc_InvalidTargets_init : FnScope N_InvalidTargets_init ["self", "index"] (defScope s_InvalidTargets_init) := ⟨rfl, rfl, rfl, by decide +kernel, rfl, by decide +kernel, by decide +kernel⟩
abbrev s_InvalidSeat_init : Stmt := inClass (top 4) 0
abbrev N_InvalidSeat_init : List Str := ["self", "seat"]
theorem sc_InvalidSeat_init : FnScope N_InvalidSeat_init ["self", "seat"] (defScope s_InvalidSeat_init) := ⟨rfl, rfl, rfl, by decide +kernel, rfl, by decide +kernel, by decide +kernel⟩
abbrev s_InvalidCall_init : Stmt := inClass (top 5) 0
abbrev N_InvalidCall_init : List Str := ["self", "call"]
theorem sc_InvalidCall_init : FnScope N_InvalidCall_init ["self", "call"] (defScope s_InvalidCall_init) := ⟨rfl, rfl, rfl, by decide +kernel, rfl, by decide +kernel, by decide +kernel⟩
abbrev s_InvalidDirection_init : Stmt := inClass (top 6) 0
abbrev N_InvalidDirection_init : List Str := ["self", "direction"]
theorem sc_InvalidDirection_init : FnScope N_InvalidDirection_init ["self", "direction"] (defScope s_InvalidDirection_init) := ⟨rfl, rfl, rfl, by decide +kernel, rfl, by decide +kernel, by decide +kernel⟩
abbrev s_InvalidWitness_init : Stmt := inClass (top 7) 0
abbrev N_InvalidWitness_init : List Str := ["self", "index"]
theorem sc_InvalidWitness_init : FnScope N_InvalidWitness_init ["self", "index"] (defScope s_InvalidWitness_init) := ⟨rfl, rfl, rfl, by decide +kernel, rfl, by decide +kernel, by decide +kernel⟩
abbrev s_InvalidNumber_init : Stmt := inClass (top 8) 0
abbrev N_InvalidNumber_init : List Str := ["self", "name"]
theorem sc_InvalidNumber_init : FnScope N_InvalidNumber_init ["self", "name"] (defScope s_InvalidNumber_init) := ⟨rfl, rfl, rfl, by decide +kernel, rfl, by decide +kernel, by decide +kernel⟩
abbrev s_InvalidMoves_init : Stmt := inClass (top 9) 0
abbrev N_InvalidMoves_init : List Str := ["self", "index"]
theorem sc_InvalidMoves_init : FnScope N_InvalidMoves_init ["self", "index"] (defScope s_InvalidMoves_init) := ⟨rfl, rfl, rfl, by decide +kernel, rfl, by decide +kernel, by decide +kernel⟩
abbrev s_InvalidStrategy_init : Stmt := inClass (top 10) 0
abbrev N_InvalidStrategy_init : List Str := ["self", "strategy"]
theorem sc_InvalidStrategy_init : FnScope N_InvalidStrategy_init ["self", "strategy"] (defScope s_InvalidStrategy_init) := ⟨rfl, rfl, rfl, by decide +kernel, rfl, by decide +kernel, by decide +kernel⟩
abbrev s_Mismatch_init : Stmt := inClass (top 11) 0
abbrev N_Mismatch_init : List Str := ["self", "name"]
theorem sc_Mismatch_init : FnScope N_Mismatch_init ["self", "name"] (defScope s_Mismatch_init) := ⟨rfl, rfl, rfl, by decide +kernel, rfl, by decide +kernel, by decide +kernel⟩
abbrev s_TooLarge_init : Stmt := inClass (top 12) 0
abbrev N_TooLarge_init : List Str := ["self", "limit"]
theorem sc_TooLarge_init : FnScope N_TooLarge_init ["self", "limit"] (defScope s_TooLarge_init) := ⟨rfl, rfl, rfl, by decide +kernel, rfl, by decide +kernel, by decide +kernel⟩
abbrev s_law_mixed : Stmt := top 14
abbrev N_law_mixed : List Str := ["_law_cell", "_law_draw", "_law_number"]
theorem sc_law_mixed : FnScope N_law_mixed ["_law_cell", "_law_draw"] (defScope s_law_mixed) := ⟨rfl, rfl, rfl, by decide +kernel, rfl, by decide +kernel, by decide +kernel⟩
abbrev s_law_source : Stmt := top 15
abbrev N_law_source : List Str := ["_law_cell"]
theorem sc_law_source : FnScope N_law_source ["_law_cell"] (defScope s_law_source) := ⟨rfl, rfl, rfl, by decide +kernel, rfl, by decide +kernel, by decide +kernel⟩
abbrev s_law_take : Stmt := top 16
abbrev N_law_take : List Str := ["_law_source_here", "_law_count", "_law_drawn"]
theorem sc_law_take : FnScope N_law_take ["_law_source_here", "_law_count"] (defScope s_law_take) := ⟨rfl, rfl, rfl, by decide +kernel, rfl, by decide +kernel, by decide +kernel⟩
abbrev s_law_kinds : Stmt := top 17
abbrev N_law_kinds : List Str := ["_law_one", "_law_fits", "_law_at", "_law_fit"]
theorem sc_law_kinds : FnScope N_law_kinds ["_law_one"] (defScope s_law_kinds) := ⟨rfl, rfl, rfl, by decide +kernel, rfl, by decide +kernel, by decide +kernel⟩
abbrev s_law_stores : Stmt := top 18
abbrev N_law_stores : List Str := ["_law_one", "_law_place", "_law_stored", "_law_thing"]
theorem sc_law_stores : FnScope N_law_stores ["_law_one", "_law_place", "_law_stored", "_law_thing"] (defScope s_law_stores) := ⟨rfl, rfl, rfl, by decide +kernel, rfl, by decide +kernel, by decide +kernel⟩
abbrev s_law_first_errors : Stmt := top 19
abbrev N_law_first_errors : List Str := ["_law_thing", "_law_pair", "_law_one"]
theorem sc_law_first_errors : FnScope N_law_first_errors ["_law_thing"] (defScope s_law_first_errors) := ⟨rfl, rfl, rfl, by decide +kernel, rfl, by decide +kernel, by decide +kernel⟩
abbrev s_law_other_errors : Stmt := top 20
abbrev N_law_other_errors : List Str := ["_law_thing", "_law_pair", "_law_one"]
theorem sc_law_other_errors : FnScope N_law_other_errors ["_law_thing"] (defScope s_law_other_errors) := ⟨rfl, rfl, rfl, by decide +kernel, rfl, by decide +kernel, by decide +kernel⟩
abbrev s_law : Stmt := top 21
abbrev N_law : List Str := ["_law_script", "_law_cell", "_law_source_here", "_law_far", "_law_some", "_law_k", "_law_thing"]
theorem sc_law : FnScope N_law ["_law_script"] (defScope s_law) := ⟨rfl, rfl, rfl, by decide +kernel, rfl, by decide +kernel, by decide +kernel⟩
/-- what the top has written -/
structure TX (K : PySem.W.Frag) (mg : Str → Option Value) where
  C_SeatError : Addr
  m_SeatError : mg "SeatError" = some (.ref C_SeatError)
  f_InvalidTable_init : Addr
  fd_InvalidTable_init : FuncData
  F_InvalidTable_init : Fun K "__init__" "InvalidTable.__init__" s_InvalidTable_init f_InvalidTable_init fd_InvalidTable_init
  b_InvalidTable_init : Binds K fd_InvalidTable_init ["self", "rings"] []
  f_InvalidTargets_init : Addr
  fd_InvalidTargets_init : FuncData
  F_InvalidTargets_init : Fun K "__init__" "InvalidTargets.__init__" s_InvalidTargets_init f_InvalidTargets_init fd_InvalidTargets_init
  b_InvalidTargets_init : Binds K fd_InvalidTargets_init ["self", "index"] []
  f_InvalidSeat_init : Addr
  fd_InvalidSeat_init : FuncData
  F_InvalidSeat_init : Fun K "__init__" "InvalidSeat.__init__" s_InvalidSeat_init f_InvalidSeat_init fd_InvalidSeat_init
  b_InvalidSeat_init : Binds K fd_InvalidSeat_init ["self", "seat"] []
  f_InvalidCall_init : Addr
  fd_InvalidCall_init : FuncData
  F_InvalidCall_init : Fun K "__init__" "InvalidCall.__init__" s_InvalidCall_init f_InvalidCall_init fd_InvalidCall_init
  b_InvalidCall_init : Binds K fd_InvalidCall_init ["self", "call"] []
  f_InvalidDirection_init : Addr
  fd_InvalidDirection_init : FuncData
  F_InvalidDirection_init : Fun K "__init__" "InvalidDirection.__init__" s_InvalidDirection_init f_InvalidDirection_init fd_InvalidDirection_init
  b_InvalidDirection_init : Binds K fd_InvalidDirection_init ["self", "direction"] []
  f_InvalidWitness_init : Addr
  fd_InvalidWitness_init : FuncData
  F_InvalidWitness_init : Fun K "__init__" "InvalidWitness.__init__" s_InvalidWitness_init f_InvalidWitness_init fd_InvalidWitness_init
  b_InvalidWitness_init : Binds K fd_InvalidWitness_init ["self", "index"] []
  f_InvalidNumber_init : Addr
  fd_InvalidNumber_init : FuncData
  F_InvalidNumber_init : Fun K "__init__" "InvalidNumber.__init__" s_InvalidNumber_init f_InvalidNumber_init fd_InvalidNumber_init
  b_InvalidNumber_init : Binds K fd_InvalidNumber_init ["self", "name"] []
  f_InvalidMoves_init : Addr
  fd_InvalidMoves_init : FuncData
  F_InvalidMoves_init : Fun K "__init__" "InvalidMoves.__init__" s_InvalidMoves_init f_InvalidMoves_init fd_InvalidMoves_init
  b_InvalidMoves_init : Binds K fd_InvalidMoves_init ["self", "index"] []
  f_InvalidStrategy_init : Addr
  fd_InvalidStrategy_init : FuncData
  F_InvalidStrategy_init : Fun K "__init__" "InvalidStrategy.__init__" s_InvalidStrategy_init f_InvalidStrategy_init fd_InvalidStrategy_init
  b_InvalidStrategy_init : Binds K fd_InvalidStrategy_init ["self", "strategy"] []
  f_Mismatch_init : Addr
  fd_Mismatch_init : FuncData
  F_Mismatch_init : Fun K "__init__" "Mismatch.__init__" s_Mismatch_init f_Mismatch_init fd_Mismatch_init
  b_Mismatch_init : Binds K fd_Mismatch_init ["self", "name"] []
  f_TooLarge_init : Addr
  fd_TooLarge_init : FuncData
  F_TooLarge_init : Fun K "__init__" "TooLarge.__init__" s_TooLarge_init f_TooLarge_init fd_TooLarge_init
  b_TooLarge_init : Binds K fd_TooLarge_init ["self", "limit"] []
  f_law_mixed : Addr
  fd_law_mixed : FuncData
  F_law_mixed : Fun K "_law_mixed" "_law_mixed" s_law_mixed f_law_mixed fd_law_mixed
  b_law_mixed : Binds K fd_law_mixed ["_law_cell", "_law_draw"] []
  m_law_mixed : mg "_law_mixed" = some (.ref f_law_mixed)
  f_law_source : Addr
  fd_law_source : FuncData
  F_law_source : Fun K "_law_source" "_law_source" s_law_source f_law_source fd_law_source
  b_law_source : Binds K fd_law_source ["_law_cell"] []
  m_law_source : mg "_law_source" = some (.ref f_law_source)
  f_law_take : Addr
  fd_law_take : FuncData
  F_law_take : Fun K "_law_take" "_law_take" s_law_take f_law_take fd_law_take
  b_law_take : Binds K fd_law_take ["_law_source_here", "_law_count"] []
  m_law_take : mg "_law_take" = some (.ref f_law_take)
  f_law_kinds : Addr
  fd_law_kinds : FuncData
  F_law_kinds : Fun K "_law_kinds" "_law_kinds" s_law_kinds f_law_kinds fd_law_kinds
  b_law_kinds : Binds K fd_law_kinds ["_law_one"] []
  m_law_kinds : mg "_law_kinds" = some (.ref f_law_kinds)
  f_law_stores : Addr
  fd_law_stores : FuncData
  F_law_stores : Fun K "_law_stores" "_law_stores" s_law_stores f_law_stores fd_law_stores
  b_law_stores : Binds K fd_law_stores ["_law_one", "_law_place", "_law_stored", "_law_thing"] []
  m_law_stores : mg "_law_stores" = some (.ref f_law_stores)
  f_law_first_errors : Addr
  fd_law_first_errors : FuncData
  F_law_first_errors : Fun K "_law_first_errors" "_law_first_errors" s_law_first_errors f_law_first_errors fd_law_first_errors
  b_law_first_errors : Binds K fd_law_first_errors ["_law_thing"] []
  m_law_first_errors : mg "_law_first_errors" = some (.ref f_law_first_errors)
  f_law_other_errors : Addr
  fd_law_other_errors : FuncData
  F_law_other_errors : Fun K "_law_other_errors" "_law_other_errors" s_law_other_errors f_law_other_errors fd_law_other_errors
  b_law_other_errors : Binds K fd_law_other_errors ["_law_thing"] []
  m_law_other_errors : mg "_law_other_errors" = some (.ref f_law_other_errors)
  f_law : Addr
  fd_law : FuncData
  F_law : Fun K "law" "law" s_law f_law fd_law
  b_law : Binds K fd_law ["_law_script"] []
  m_law : mg "law" = some (.ref f_law)
  C_InvalidTable : Addr
  m_InvalidTable : mg "InvalidTable" = some (.ref C_InvalidTable)
  ox_InvalidTable : OexC K C_InvalidTable
  xf_InvalidTable : XfC K C_InvalidTable
  i_InvalidTable : PySem.W.findIn K (.ref C_InvalidTable) "__init__" = some (some (.ref f_InvalidTable_init))
  ti_InvalidTable : PySem.W.typeIn K (.ref f_InvalidTable_init) = some (.type "function")
  em_InvalidTable : PySem.W.exmOne K (.ref C_InvalidTable) (.ref C_InvalidTable) = some true
  em_InvalidTable_SeatError : PySem.W.exmOne K (.ref C_InvalidTable) (.ref C_SeatError) = some true
  n_InvalidTable_rings : PySem.W.findIn K (.ref C_InvalidTable) "rings" = some none
  C_InvalidTargets : Addr
  m_InvalidTargets : mg "InvalidTargets" = some (.ref C_InvalidTargets)
  ox_InvalidTargets : OexC K C_InvalidTargets
  xf_InvalidTargets : XfC K C_InvalidTargets
  i_InvalidTargets : PySem.W.findIn K (.ref C_InvalidTargets) "__init__" = some (some (.ref f_InvalidTargets_init))
  ti_InvalidTargets : PySem.W.typeIn K (.ref f_InvalidTargets_init) = some (.type "function")
  em_InvalidTargets : PySem.W.exmOne K (.ref C_InvalidTargets) (.ref C_InvalidTargets) = some true
  em_InvalidTargets_SeatError : PySem.W.exmOne K (.ref C_InvalidTargets) (.ref C_SeatError) = some true
  n_InvalidTargets_index : PySem.W.findIn K (.ref C_InvalidTargets) "index" = some none
  C_InvalidSeat : Addr
  m_InvalidSeat : mg "InvalidSeat" = some (.ref C_InvalidSeat)
  ox_InvalidSeat : OexC K C_InvalidSeat
  xf_InvalidSeat : XfC K C_InvalidSeat
  i_InvalidSeat : PySem.W.findIn K (.ref C_InvalidSeat) "__init__" = some (some (.ref f_InvalidSeat_init))
  ti_InvalidSeat : PySem.W.typeIn K (.ref f_InvalidSeat_init) = some (.type "function")
  em_InvalidSeat : PySem.W.exmOne K (.ref C_InvalidSeat) (.ref C_InvalidSeat) = some true
  em_InvalidSeat_SeatError : PySem.W.exmOne K (.ref C_InvalidSeat) (.ref C_SeatError) = some true
  n_InvalidSeat_seat : PySem.W.findIn K (.ref C_InvalidSeat) "seat" = some none
  C_InvalidCall : Addr
  m_InvalidCall : mg "InvalidCall" = some (.ref C_InvalidCall)
  ox_InvalidCall : OexC K C_InvalidCall
  xf_InvalidCall : XfC K C_InvalidCall
  i_InvalidCall : PySem.W.findIn K (.ref C_InvalidCall) "__init__" = some (some (.ref f_InvalidCall_init))
  ti_InvalidCall : PySem.W.typeIn K (.ref f_InvalidCall_init) = some (.type "function")
  em_InvalidCall : PySem.W.exmOne K (.ref C_InvalidCall) (.ref C_InvalidCall) = some true
  em_InvalidCall_SeatError : PySem.W.exmOne K (.ref C_InvalidCall) (.ref C_SeatError) = some true
  n_InvalidCall_call : PySem.W.findIn K (.ref C_InvalidCall) "call" = some none
  C_InvalidDirection : Addr
  m_InvalidDirection : mg "InvalidDirection" = some (.ref C_InvalidDirection)
  ox_InvalidDirection : OexC K C_InvalidDirection
  xf_InvalidDirection : XfC K C_InvalidDirection
  i_InvalidDirection : PySem.W.findIn K (.ref C_InvalidDirection) "__init__" = some (some (.ref f_InvalidDirection_init))
  ti_InvalidDirection : PySem.W.typeIn K (.ref f_InvalidDirection_init) = some (.type "function")
  em_InvalidDirection : PySem.W.exmOne K (.ref C_InvalidDirection) (.ref C_InvalidDirection) = some true
  em_InvalidDirection_SeatError : PySem.W.exmOne K (.ref C_InvalidDirection) (.ref C_SeatError) = some true
  n_InvalidDirection_direction : PySem.W.findIn K (.ref C_InvalidDirection) "direction" = some none
  C_InvalidWitness : Addr
  m_InvalidWitness : mg "InvalidWitness" = some (.ref C_InvalidWitness)
  ox_InvalidWitness : OexC K C_InvalidWitness
  xf_InvalidWitness : XfC K C_InvalidWitness
  i_InvalidWitness : PySem.W.findIn K (.ref C_InvalidWitness) "__init__" = some (some (.ref f_InvalidWitness_init))
  ti_InvalidWitness : PySem.W.typeIn K (.ref f_InvalidWitness_init) = some (.type "function")
  em_InvalidWitness : PySem.W.exmOne K (.ref C_InvalidWitness) (.ref C_InvalidWitness) = some true
  em_InvalidWitness_SeatError : PySem.W.exmOne K (.ref C_InvalidWitness) (.ref C_SeatError) = some true
  n_InvalidWitness_index : PySem.W.findIn K (.ref C_InvalidWitness) "index" = some none
  C_InvalidNumber : Addr
  m_InvalidNumber : mg "InvalidNumber" = some (.ref C_InvalidNumber)
  ox_InvalidNumber : OexC K C_InvalidNumber
  xf_InvalidNumber : XfC K C_InvalidNumber
  i_InvalidNumber : PySem.W.findIn K (.ref C_InvalidNumber) "__init__" = some (some (.ref f_InvalidNumber_init))
  ti_InvalidNumber : PySem.W.typeIn K (.ref f_InvalidNumber_init) = some (.type "function")
  em_InvalidNumber : PySem.W.exmOne K (.ref C_InvalidNumber) (.ref C_InvalidNumber) = some true
  em_InvalidNumber_SeatError : PySem.W.exmOne K (.ref C_InvalidNumber) (.ref C_SeatError) = some true
  n_InvalidNumber_name : PySem.W.findIn K (.ref C_InvalidNumber) "name" = some none
  C_InvalidMoves : Addr
  m_InvalidMoves : mg "InvalidMoves" = some (.ref C_InvalidMoves)
  ox_InvalidMoves : OexC K C_InvalidMoves
  xf_InvalidMoves : XfC K C_InvalidMoves
  i_InvalidMoves : PySem.W.findIn K (.ref C_InvalidMoves) "__init__" = some (some (.ref f_InvalidMoves_init))
  ti_InvalidMoves : PySem.W.typeIn K (.ref f_InvalidMoves_init) = some (.type "function")
  em_InvalidMoves : PySem.W.exmOne K (.ref C_InvalidMoves) (.ref C_InvalidMoves) = some true
  em_InvalidMoves_SeatError : PySem.W.exmOne K (.ref C_InvalidMoves) (.ref C_SeatError) = some true
  n_InvalidMoves_index : PySem.W.findIn K (.ref C_InvalidMoves) "index" = some none
  C_InvalidStrategy : Addr
  m_InvalidStrategy : mg "InvalidStrategy" = some (.ref C_InvalidStrategy)
  ox_InvalidStrategy : OexC K C_InvalidStrategy
  xf_InvalidStrategy : XfC K C_InvalidStrategy
  i_InvalidStrategy : PySem.W.findIn K (.ref C_InvalidStrategy) "__init__" = some (some (.ref f_InvalidStrategy_init))
  ti_InvalidStrategy : PySem.W.typeIn K (.ref f_InvalidStrategy_init) = some (.type "function")
  em_InvalidStrategy : PySem.W.exmOne K (.ref C_InvalidStrategy) (.ref C_InvalidStrategy) = some true
  em_InvalidStrategy_SeatError : PySem.W.exmOne K (.ref C_InvalidStrategy) (.ref C_SeatError) = some true
  n_InvalidStrategy_strategy : PySem.W.findIn K (.ref C_InvalidStrategy) "strategy" = some none
  C_Mismatch : Addr
  m_Mismatch : mg "Mismatch" = some (.ref C_Mismatch)
  ox_Mismatch : OexC K C_Mismatch
  xf_Mismatch : XfC K C_Mismatch
  i_Mismatch : PySem.W.findIn K (.ref C_Mismatch) "__init__" = some (some (.ref f_Mismatch_init))
  ti_Mismatch : PySem.W.typeIn K (.ref f_Mismatch_init) = some (.type "function")
  em_Mismatch : PySem.W.exmOne K (.ref C_Mismatch) (.ref C_Mismatch) = some true
  em_Mismatch_SeatError : PySem.W.exmOne K (.ref C_Mismatch) (.ref C_SeatError) = some true
  n_Mismatch_name : PySem.W.findIn K (.ref C_Mismatch) "name" = some none
  C_TooLarge : Addr
  m_TooLarge : mg "TooLarge" = some (.ref C_TooLarge)
  ox_TooLarge : OexC K C_TooLarge
  xf_TooLarge : XfC K C_TooLarge
  i_TooLarge : PySem.W.findIn K (.ref C_TooLarge) "__init__" = some (some (.ref f_TooLarge_init))
  ti_TooLarge : PySem.W.typeIn K (.ref f_TooLarge_init) = some (.type "function")
  em_TooLarge : PySem.W.exmOne K (.ref C_TooLarge) (.ref C_TooLarge) = some true
  em_TooLarge_SeatError : PySem.W.exmOne K (.ref C_TooLarge) (.ref C_SeatError) = some true
  n_TooLarge_limit : PySem.W.findIn K (.ref C_TooLarge) "limit" = some none
  sysd : PySem.W.typeIn K (.ref sysModules) = some (.type "dict")
  xi_InvalidTable : CG.ExcI K C_InvalidTable
  xi_InvalidTargets : CG.ExcI K C_InvalidTargets
  xi_InvalidSeat : CG.ExcI K C_InvalidSeat
  xi_InvalidCall : CG.ExcI K C_InvalidCall
  xi_InvalidDirection : CG.ExcI K C_InvalidDirection
  xi_InvalidWitness : CG.ExcI K C_InvalidWitness
  xi_InvalidNumber : CG.ExcI K C_InvalidNumber
  xi_InvalidMoves : CG.ExcI K C_InvalidMoves
  xi_InvalidStrategy : CG.ExcI K C_InvalidStrategy
  xi_Mismatch : CG.ExcI K C_Mismatch
  xi_TooLarge : CG.ExcI K C_TooLarge
  ki_InvalidTable_InvalidTargets : PySem.W.kitAny K (.ref C_InvalidTable) [.ref C_InvalidTargets] = some false
  ki_InvalidTable_InvalidSeat : PySem.W.kitAny K (.ref C_InvalidTable) [.ref C_InvalidSeat] = some false
  ki_InvalidTable_InvalidCall : PySem.W.kitAny K (.ref C_InvalidTable) [.ref C_InvalidCall] = some false
  ki_InvalidTable_InvalidDirection : PySem.W.kitAny K (.ref C_InvalidTable) [.ref C_InvalidDirection] = some false
  ki_InvalidTable_InvalidWitness : PySem.W.kitAny K (.ref C_InvalidTable) [.ref C_InvalidWitness] = some false
  ki_InvalidTable_InvalidNumber : PySem.W.kitAny K (.ref C_InvalidTable) [.ref C_InvalidNumber] = some false
  ki_InvalidTable_InvalidMoves : PySem.W.kitAny K (.ref C_InvalidTable) [.ref C_InvalidMoves] = some false
  ki_InvalidTable_InvalidStrategy : PySem.W.kitAny K (.ref C_InvalidTable) [.ref C_InvalidStrategy] = some false
  ki_InvalidTable_Mismatch : PySem.W.kitAny K (.ref C_InvalidTable) [.ref C_Mismatch] = some false
  ki_InvalidTable_TooLarge : PySem.W.kitAny K (.ref C_InvalidTable) [.ref C_TooLarge] = some false
  ki_InvalidTable_SeatError : PySem.W.kitAny K (.ref C_InvalidTable) [.ref C_SeatError] = some true
  ki_InvalidTable_ValueError : PySem.W.kitAny K (.ref C_InvalidTable) [.type "ValueError"] = some true
  ki_InvalidTargets_InvalidTable : PySem.W.kitAny K (.ref C_InvalidTargets) [.ref C_InvalidTable] = some false
  ki_InvalidTargets_InvalidSeat : PySem.W.kitAny K (.ref C_InvalidTargets) [.ref C_InvalidSeat] = some false
  ki_InvalidTargets_InvalidCall : PySem.W.kitAny K (.ref C_InvalidTargets) [.ref C_InvalidCall] = some false
  ki_InvalidTargets_InvalidDirection : PySem.W.kitAny K (.ref C_InvalidTargets) [.ref C_InvalidDirection] = some false
  ki_InvalidTargets_InvalidWitness : PySem.W.kitAny K (.ref C_InvalidTargets) [.ref C_InvalidWitness] = some false
  ki_InvalidTargets_InvalidNumber : PySem.W.kitAny K (.ref C_InvalidTargets) [.ref C_InvalidNumber] = some false
  ki_InvalidTargets_InvalidMoves : PySem.W.kitAny K (.ref C_InvalidTargets) [.ref C_InvalidMoves] = some false
  ki_InvalidTargets_InvalidStrategy : PySem.W.kitAny K (.ref C_InvalidTargets) [.ref C_InvalidStrategy] = some false
  ki_InvalidTargets_Mismatch : PySem.W.kitAny K (.ref C_InvalidTargets) [.ref C_Mismatch] = some false
  ki_InvalidTargets_TooLarge : PySem.W.kitAny K (.ref C_InvalidTargets) [.ref C_TooLarge] = some false
  ki_InvalidTargets_SeatError : PySem.W.kitAny K (.ref C_InvalidTargets) [.ref C_SeatError] = some true
  ki_InvalidTargets_ValueError : PySem.W.kitAny K (.ref C_InvalidTargets) [.type "ValueError"] = some true
  ki_InvalidSeat_InvalidTable : PySem.W.kitAny K (.ref C_InvalidSeat) [.ref C_InvalidTable] = some false
  ki_InvalidSeat_InvalidTargets : PySem.W.kitAny K (.ref C_InvalidSeat) [.ref C_InvalidTargets] = some false
  ki_InvalidSeat_InvalidCall : PySem.W.kitAny K (.ref C_InvalidSeat) [.ref C_InvalidCall] = some false
  ki_InvalidSeat_InvalidDirection : PySem.W.kitAny K (.ref C_InvalidSeat) [.ref C_InvalidDirection] = some false
  ki_InvalidSeat_InvalidWitness : PySem.W.kitAny K (.ref C_InvalidSeat) [.ref C_InvalidWitness] = some false
  ki_InvalidSeat_InvalidNumber : PySem.W.kitAny K (.ref C_InvalidSeat) [.ref C_InvalidNumber] = some false
  ki_InvalidSeat_InvalidMoves : PySem.W.kitAny K (.ref C_InvalidSeat) [.ref C_InvalidMoves] = some false
  ki_InvalidSeat_InvalidStrategy : PySem.W.kitAny K (.ref C_InvalidSeat) [.ref C_InvalidStrategy] = some false
  ki_InvalidSeat_Mismatch : PySem.W.kitAny K (.ref C_InvalidSeat) [.ref C_Mismatch] = some false
  ki_InvalidSeat_TooLarge : PySem.W.kitAny K (.ref C_InvalidSeat) [.ref C_TooLarge] = some false
  ki_InvalidSeat_SeatError : PySem.W.kitAny K (.ref C_InvalidSeat) [.ref C_SeatError] = some true
  ki_InvalidSeat_ValueError : PySem.W.kitAny K (.ref C_InvalidSeat) [.type "ValueError"] = some true
  ki_InvalidCall_InvalidTable : PySem.W.kitAny K (.ref C_InvalidCall) [.ref C_InvalidTable] = some false
  ki_InvalidCall_InvalidTargets : PySem.W.kitAny K (.ref C_InvalidCall) [.ref C_InvalidTargets] = some false
  ki_InvalidCall_InvalidSeat : PySem.W.kitAny K (.ref C_InvalidCall) [.ref C_InvalidSeat] = some false
  ki_InvalidCall_InvalidDirection : PySem.W.kitAny K (.ref C_InvalidCall) [.ref C_InvalidDirection] = some false
  ki_InvalidCall_InvalidWitness : PySem.W.kitAny K (.ref C_InvalidCall) [.ref C_InvalidWitness] = some false
  ki_InvalidCall_InvalidNumber : PySem.W.kitAny K (.ref C_InvalidCall) [.ref C_InvalidNumber] = some false
  ki_InvalidCall_InvalidMoves : PySem.W.kitAny K (.ref C_InvalidCall) [.ref C_InvalidMoves] = some false
  ki_InvalidCall_InvalidStrategy : PySem.W.kitAny K (.ref C_InvalidCall) [.ref C_InvalidStrategy] = some false
  ki_InvalidCall_Mismatch : PySem.W.kitAny K (.ref C_InvalidCall) [.ref C_Mismatch] = some false
  ki_InvalidCall_TooLarge : PySem.W.kitAny K (.ref C_InvalidCall) [.ref C_TooLarge] = some false
  ki_InvalidCall_SeatError : PySem.W.kitAny K (.ref C_InvalidCall) [.ref C_SeatError] = some true
  ki_InvalidCall_ValueError : PySem.W.kitAny K (.ref C_InvalidCall) [.type "ValueError"] = some true
  ki_InvalidDirection_InvalidTable : PySem.W.kitAny K (.ref C_InvalidDirection) [.ref C_InvalidTable] = some false
  ki_InvalidDirection_InvalidTargets : PySem.W.kitAny K (.ref C_InvalidDirection) [.ref C_InvalidTargets] = some false
  ki_InvalidDirection_InvalidSeat : PySem.W.kitAny K (.ref C_InvalidDirection) [.ref C_InvalidSeat] = some false
  ki_InvalidDirection_InvalidCall : PySem.W.kitAny K (.ref C_InvalidDirection) [.ref C_InvalidCall] = some false
  ki_InvalidDirection_InvalidWitness : PySem.W.kitAny K (.ref C_InvalidDirection) [.ref C_InvalidWitness] = some false
  ki_InvalidDirection_InvalidNumber : PySem.W.kitAny K (.ref C_InvalidDirection) [.ref C_InvalidNumber] = some false
  ki_InvalidDirection_InvalidMoves : PySem.W.kitAny K (.ref C_InvalidDirection) [.ref C_InvalidMoves] = some false
  ki_InvalidDirection_InvalidStrategy : PySem.W.kitAny K (.ref C_InvalidDirection) [.ref C_InvalidStrategy] = some false
  ki_InvalidDirection_Mismatch : PySem.W.kitAny K (.ref C_InvalidDirection) [.ref C_Mismatch] = some false
  ki_InvalidDirection_TooLarge : PySem.W.kitAny K (.ref C_InvalidDirection) [.ref C_TooLarge] = some false
  ki_InvalidDirection_SeatError : PySem.W.kitAny K (.ref C_InvalidDirection) [.ref C_SeatError] = some true
  ki_InvalidDirection_ValueError : PySem.W.kitAny K (.ref C_InvalidDirection) [.type "ValueError"] = some true
  ki_InvalidWitness_InvalidTable : PySem.W.kitAny K (.ref C_InvalidWitness) [.ref C_InvalidTable] = some false
  ki_InvalidWitness_InvalidTargets : PySem.W.kitAny K (.ref C_InvalidWitness) [.ref C_InvalidTargets] = some false
  ki_InvalidWitness_InvalidSeat : PySem.W.kitAny K (.ref C_InvalidWitness) [.ref C_InvalidSeat] = some false
  ki_InvalidWitness_InvalidCall : PySem.W.kitAny K (.ref C_InvalidWitness) [.ref C_InvalidCall] = some false
  ki_InvalidWitness_InvalidDirection : PySem.W.kitAny K (.ref C_InvalidWitness) [.ref C_InvalidDirection] = some false
  ki_InvalidWitness_InvalidNumber : PySem.W.kitAny K (.ref C_InvalidWitness) [.ref C_InvalidNumber] = some false
  ki_InvalidWitness_InvalidMoves : PySem.W.kitAny K (.ref C_InvalidWitness) [.ref C_InvalidMoves] = some false
  ki_InvalidWitness_InvalidStrategy : PySem.W.kitAny K (.ref C_InvalidWitness) [.ref C_InvalidStrategy] = some false
  ki_InvalidWitness_Mismatch : PySem.W.kitAny K (.ref C_InvalidWitness) [.ref C_Mismatch] = some false
  ki_InvalidWitness_TooLarge : PySem.W.kitAny K (.ref C_InvalidWitness) [.ref C_TooLarge] = some false
  ki_InvalidWitness_SeatError : PySem.W.kitAny K (.ref C_InvalidWitness) [.ref C_SeatError] = some true
  ki_InvalidWitness_ValueError : PySem.W.kitAny K (.ref C_InvalidWitness) [.type "ValueError"] = some true
  ki_InvalidNumber_InvalidTable : PySem.W.kitAny K (.ref C_InvalidNumber) [.ref C_InvalidTable] = some false
  ki_InvalidNumber_InvalidTargets : PySem.W.kitAny K (.ref C_InvalidNumber) [.ref C_InvalidTargets] = some false
  ki_InvalidNumber_InvalidSeat : PySem.W.kitAny K (.ref C_InvalidNumber) [.ref C_InvalidSeat] = some false
  ki_InvalidNumber_InvalidCall : PySem.W.kitAny K (.ref C_InvalidNumber) [.ref C_InvalidCall] = some false
  ki_InvalidNumber_InvalidDirection : PySem.W.kitAny K (.ref C_InvalidNumber) [.ref C_InvalidDirection] = some false
  ki_InvalidNumber_InvalidWitness : PySem.W.kitAny K (.ref C_InvalidNumber) [.ref C_InvalidWitness] = some false
  ki_InvalidNumber_InvalidMoves : PySem.W.kitAny K (.ref C_InvalidNumber) [.ref C_InvalidMoves] = some false
  ki_InvalidNumber_InvalidStrategy : PySem.W.kitAny K (.ref C_InvalidNumber) [.ref C_InvalidStrategy] = some false
  ki_InvalidNumber_Mismatch : PySem.W.kitAny K (.ref C_InvalidNumber) [.ref C_Mismatch] = some false
  ki_InvalidNumber_TooLarge : PySem.W.kitAny K (.ref C_InvalidNumber) [.ref C_TooLarge] = some false
  ki_InvalidNumber_SeatError : PySem.W.kitAny K (.ref C_InvalidNumber) [.ref C_SeatError] = some true
  ki_InvalidNumber_ValueError : PySem.W.kitAny K (.ref C_InvalidNumber) [.type "ValueError"] = some true
  ki_InvalidMoves_InvalidTable : PySem.W.kitAny K (.ref C_InvalidMoves) [.ref C_InvalidTable] = some false
  ki_InvalidMoves_InvalidTargets : PySem.W.kitAny K (.ref C_InvalidMoves) [.ref C_InvalidTargets] = some false
  ki_InvalidMoves_InvalidSeat : PySem.W.kitAny K (.ref C_InvalidMoves) [.ref C_InvalidSeat] = some false
  ki_InvalidMoves_InvalidCall : PySem.W.kitAny K (.ref C_InvalidMoves) [.ref C_InvalidCall] = some false
  ki_InvalidMoves_InvalidDirection : PySem.W.kitAny K (.ref C_InvalidMoves) [.ref C_InvalidDirection] = some false
  ki_InvalidMoves_InvalidWitness : PySem.W.kitAny K (.ref C_InvalidMoves) [.ref C_InvalidWitness] = some false
  ki_InvalidMoves_InvalidNumber : PySem.W.kitAny K (.ref C_InvalidMoves) [.ref C_InvalidNumber] = some false
  ki_InvalidMoves_InvalidStrategy : PySem.W.kitAny K (.ref C_InvalidMoves) [.ref C_InvalidStrategy] = some false
  ki_InvalidMoves_Mismatch : PySem.W.kitAny K (.ref C_InvalidMoves) [.ref C_Mismatch] = some false
  ki_InvalidMoves_TooLarge : PySem.W.kitAny K (.ref C_InvalidMoves) [.ref C_TooLarge] = some false
  ki_InvalidMoves_SeatError : PySem.W.kitAny K (.ref C_InvalidMoves) [.ref C_SeatError] = some true
  ki_InvalidMoves_ValueError : PySem.W.kitAny K (.ref C_InvalidMoves) [.type "ValueError"] = some true
  ki_InvalidStrategy_InvalidTable : PySem.W.kitAny K (.ref C_InvalidStrategy) [.ref C_InvalidTable] = some false
  ki_InvalidStrategy_InvalidTargets : PySem.W.kitAny K (.ref C_InvalidStrategy) [.ref C_InvalidTargets] = some false
  ki_InvalidStrategy_InvalidSeat : PySem.W.kitAny K (.ref C_InvalidStrategy) [.ref C_InvalidSeat] = some false
  ki_InvalidStrategy_InvalidCall : PySem.W.kitAny K (.ref C_InvalidStrategy) [.ref C_InvalidCall] = some false
  ki_InvalidStrategy_InvalidDirection : PySem.W.kitAny K (.ref C_InvalidStrategy) [.ref C_InvalidDirection] = some false
  ki_InvalidStrategy_InvalidWitness : PySem.W.kitAny K (.ref C_InvalidStrategy) [.ref C_InvalidWitness] = some false
  ki_InvalidStrategy_InvalidNumber : PySem.W.kitAny K (.ref C_InvalidStrategy) [.ref C_InvalidNumber] = some false
  ki_InvalidStrategy_InvalidMoves : PySem.W.kitAny K (.ref C_InvalidStrategy) [.ref C_InvalidMoves] = some false
  ki_InvalidStrategy_Mismatch : PySem.W.kitAny K (.ref C_InvalidStrategy) [.ref C_Mismatch] = some false
  ki_InvalidStrategy_TooLarge : PySem.W.kitAny K (.ref C_InvalidStrategy) [.ref C_TooLarge] = some false
  ki_InvalidStrategy_SeatError : PySem.W.kitAny K (.ref C_InvalidStrategy) [.ref C_SeatError] = some true
  ki_InvalidStrategy_ValueError : PySem.W.kitAny K (.ref C_InvalidStrategy) [.type "ValueError"] = some true
  ki_Mismatch_InvalidTable : PySem.W.kitAny K (.ref C_Mismatch) [.ref C_InvalidTable] = some false
  ki_Mismatch_InvalidTargets : PySem.W.kitAny K (.ref C_Mismatch) [.ref C_InvalidTargets] = some false
  ki_Mismatch_InvalidSeat : PySem.W.kitAny K (.ref C_Mismatch) [.ref C_InvalidSeat] = some false
  ki_Mismatch_InvalidCall : PySem.W.kitAny K (.ref C_Mismatch) [.ref C_InvalidCall] = some false
  ki_Mismatch_InvalidDirection : PySem.W.kitAny K (.ref C_Mismatch) [.ref C_InvalidDirection] = some false
  ki_Mismatch_InvalidWitness : PySem.W.kitAny K (.ref C_Mismatch) [.ref C_InvalidWitness] = some false
  ki_Mismatch_InvalidNumber : PySem.W.kitAny K (.ref C_Mismatch) [.ref C_InvalidNumber] = some false
  ki_Mismatch_InvalidMoves : PySem.W.kitAny K (.ref C_Mismatch) [.ref C_InvalidMoves] = some false
  ki_Mismatch_InvalidStrategy : PySem.W.kitAny K (.ref C_Mismatch) [.ref C_InvalidStrategy] = some false
  ki_Mismatch_TooLarge : PySem.W.kitAny K (.ref C_Mismatch) [.ref C_TooLarge] = some false
  ki_Mismatch_SeatError : PySem.W.kitAny K (.ref C_Mismatch) [.ref C_SeatError] = some true
  ki_Mismatch_ValueError : PySem.W.kitAny K (.ref C_Mismatch) [.type "ValueError"] = some true
  ki_TooLarge_InvalidTable : PySem.W.kitAny K (.ref C_TooLarge) [.ref C_InvalidTable] = some false
  ki_TooLarge_InvalidTargets : PySem.W.kitAny K (.ref C_TooLarge) [.ref C_InvalidTargets] = some false
  ki_TooLarge_InvalidSeat : PySem.W.kitAny K (.ref C_TooLarge) [.ref C_InvalidSeat] = some false
  ki_TooLarge_InvalidCall : PySem.W.kitAny K (.ref C_TooLarge) [.ref C_InvalidCall] = some false
  ki_TooLarge_InvalidDirection : PySem.W.kitAny K (.ref C_TooLarge) [.ref C_InvalidDirection] = some false
  ki_TooLarge_InvalidWitness : PySem.W.kitAny K (.ref C_TooLarge) [.ref C_InvalidWitness] = some false
  ki_TooLarge_InvalidNumber : PySem.W.kitAny K (.ref C_TooLarge) [.ref C_InvalidNumber] = some false
  ki_TooLarge_InvalidMoves : PySem.W.kitAny K (.ref C_TooLarge) [.ref C_InvalidMoves] = some false
  ki_TooLarge_InvalidStrategy : PySem.W.kitAny K (.ref C_TooLarge) [.ref C_InvalidStrategy] = some false
  ki_TooLarge_Mismatch : PySem.W.kitAny K (.ref C_TooLarge) [.ref C_Mismatch] = some false
  ki_TooLarge_SeatError : PySem.W.kitAny K (.ref C_TooLarge) [.ref C_SeatError] = some true
  ki_TooLarge_ValueError : PySem.W.kitAny K (.ref C_TooLarge) [.type "ValueError"] = some true
  z_ValueError : mg "ValueError" = none
  z_all : mg "all" = none
  z_enumerate : mg "enumerate" = none
  z_isinstance : mg "isinstance" = none
  z_range : mg "range" = none
  z_repr : mg "repr" = none
/-- not an int (a bool is none) -/
def NotI (K : PySem.W.Frag) (H : Hp) (x : V) : Prop := ∃ t b1 b2, TyX K H x t ∧ PySem.W.kitOne K t (.type "int") = some b1 ∧ PySem.W.kitOne K t (.type "bool") = some b2 ∧ (b1 && !b2) = false
/-- what x is, if an int -/
def IsI (K : PySem.W.Frag) (H : Hp) (x : V) : Option Int → Prop
  | some i => x = .int i
  | none => NotI K H x
def atLeast : Option Int → Int → Bool
  | some i, low => decide (low ≤ i)
  | none, _ => false
def between : Option Int → Int → Int → Bool
  | some i, low, high => decide (low ≤ i) && decide (i ≤ high)
  | none, _, _ => false

section
variable {P : Program} {w : World} {K : PySem.W.Frag} {mg : Str → Option Value} {base : Heap}
end

/-- a table of these sizes stands at a -/
def TabAt (C : Addr) (H : Hp) (a : Addr) (ns : List Int) : Prop := ∃ dx t, H a = some (.ins C dx [("rings", .ref t)]) ∧ H t = some (.tup (ns.map V.int))
theorem TabAt.mono {C : Addr} {H H2 : Hp} {a : Addr} {ns : List Int} (e : Ex H H2) (h : TabAt C H a ns) : TabAt C H2 a ns := by
  obtain ⟨dx, t, h1, h2⟩ := h
  exact ⟨dx, t, e _ _ h1, e _ _ h2⟩
/-- a tracked list (false) or tuple (true) -/
def SqH (H : Hp) (p : Bool × Addr) (xs : List V) : Prop := if p.1 = true then H p.2 = some (.tup xs) else H p.2 = some (.lst xs)
theorem SqH.sq {K : PySem.W.Frag} {H : Hp} {p : Bool × Addr} {xs : List V} (h : SqH H p xs) : CZ.SqK K H p xs := by
  obtain ⟨b, a⟩ := p
  cases b
  · exact SqL.of (show H a = some (.lst xs) from h)
  · exact SqT.of (show H a = some (.tup xs) from h)
theorem SqH.mono {H H2 : Hp} {p : Bool × Addr} {xs : List V} (e : Ex H H2) (h : SqH H p xs) : SqH H2 p xs := by
  obtain ⟨b, a⟩ := p
  cases b
  · exact e _ _ (show H a = some (.lst xs) from h)
  · exact e _ _ (show H a = some (.tup xs) from h)
theorem SqH.ty {K : PySem.W.Frag} {H : Hp} {p : Bool × Addr} {xs : List V} (h : SqH H p xs) : TyX K H (.ref p.2) (.type (if p.1 = true then "tuple" else "list")) := by
  obtain ⟨b, a⟩ := p
  cases b
  · exact .base (.lst (show H a = some (.lst xs) from h))
  · exact .base (.tup (show H a = some (.tup xs) from h))
/-- sizes of a table -/
structure SzOk (ns : List Int) : Prop where
  pos : ns ≠ []
  le : ns.length ≤ 4
  one : ∀ n ∈ ns, 1 ≤ n
theorem len_line {α : Type} {l : List α} (h : l.length ≤ 4) : l.length ≤ sizeLine := Nat.le_trans h (by decide)
theorem take_lt {α : Type} {l : List α} (h : l.length ≤ 1000) (i : Nat) : (l.take i).length < sizeLine := by
  rw [List.length_take]
  exact Nat.lt_of_le_of_lt (Nat.le_trans (Nat.min_le_right _ _) h) (by decide)
theorem take_more {α : Type} {l : List α} {i : Nat} {x : α} (h : l[i]? = some x) : l.take (i + 1) = l.take i ++ [x] := by
  rw [List.take_add_one, h]
  rfl
theorem kit_seq {K : PySem.W.Frag} (b : Bool) : PySem.W.kitAny K (.type (if b = true then "tuple" else "list")) [.type "list", .type "tuple"] = some true := by
  cases b
  · exact kitAny_cons (b := true) (kit_ty (by decide +kernel)) (fun h => nomatch h) (fun _ => rfl)
  · exact kitAny_cons (b := false) (kit_ty (by decide +kernel)) (fun _ => kitAny_cons (b := true) (kit_ty (by decide +kernel)) (fun h => nomatch h) (fun _ => rfl)) (fun h => nomatch h)
theorem sq_or {K : PySem.W.Frag} {H : Hp} {b : Bool} {a : Addr} {xs : List V} (h : SqH H (b, a) xs) : SqL K H a xs ∨ SqT K H a xs := by
  cases b
  · exact .inl (SqL.of (show H a = some (.lst xs) from h))
  · exact .inr (SqT.of (show H a = some (.tup xs) from h))
section
variable {P : Program} {w : World} {K : PySem.W.Frag} {mg : Str → Option Value} {base : Heap}
end

theorem TyX.mono {K : PySem.W.Frag} {H H2 : Hp} {x : V} {t : Value} (e : Ex H H2) (h : TyX K H x t) : TyX K H2 x t := by
  cases h with
  | base h =>
    cases h with
    | non => exact .base .non
    | bl x => exact .base (.bl x)
    | int x => exact .base (.int x)
    | str x => exact .base (.str x)
    | flt x => exact .base (.flt x)
    | lst h => exact .base (.lst (e _ _ h))
    | frz h => exact .base (.frz (e _ _ h))
    | tup h => exact .base (.tup (e _ _ h))
    | dK h => exact .base (.dK (e _ _ h))
    | dT h => exact .base (.dT (e _ _ h))
    | ins h a b c d f => exact .base (.ins (e _ _ h) a b c d f)
  | byt b => exact .byt b
  | set h => exact .set (e _ _ h)
  | kList a b => exact .kList a b
  | kTuple a b => exact .kTuple a b
  | kDict a b => exact .kDict a b
  | fTuple h => exact .fTuple (e _ _ h)
  | fDict h => exact .fDict (e _ _ h)
theorem IsI.mono {K : PySem.W.Frag} {H H2 : Hp} {x : V} {o : Option Int} (e : Ex H H2) (h : IsI K H x o) : IsI K H2 x o := by
  cases o with
  | some i => exact h
  | none =>
    obtain ⟨t, b1, b2, ht, r⟩ := h
    exact ⟨t, b1, b2, TyX.mono e ht, r⟩
theorem paired_get {α β : Type} {R : α → β → Prop} : ∀ {l : List α} {m : List β} {i : Nat} {x : α}, Paired R l m → l[i]? = some x → ∃ y, m[i]? = some y ∧ R x y
  | _, _, _, _, .nil, h => by simp at h
  | _, _, 0, _, .cons r _, h => by simp at h; subst h; exact ⟨_, rfl, r⟩
  | _, _, i + 1, x, .cons _ t, h => by
    obtain ⟨y, h1, h2⟩ := paired_get (i := i) (x := x) t (by simpa using h)
    exact ⟨y, by simpa using h1, h2⟩
/-- what an argument is as a tuple: its items, as ints or not -/
def TupA (K : PySem.W.Frag) (H : Hp) (x : V) : Option (List (Option Int)) → Prop
  | some os => ∃ a xs, x = .ref a ∧ H a = some (.tup xs) ∧ xs.length ≤ 1000 ∧ Paired (IsI K H) xs os
  | none => ∃ t, TyX K H x t ∧ PySem.W.kitOne K t (.type "tuple") = some false
theorem paired_ints {K : PySem.W.Frag} {H : Hp} : ∀ ps : List Int, Paired (IsI K H) (ps.map V.int) (ps.map some)
  | [] => .nil
  | p :: ps => .cons rfl (paired_ints ps)
theorem TupA.ints {K : PySem.W.Frag} {H : Hp} {a : Addr} {ps : List Int} (h : H a = some (.tup (ps.map V.int))) (hl : ps.length ≤ 1000) : TupA K H (.ref a) (some (ps.map some)) :=
  ⟨a, _, rfl, h, by rw [List.length_map]; exact hl, paired_ints ps⟩
def isSeatO (ns : List Int) : Option (List (Option Int)) → Bool
  | some os => decide (os.length = ns.length) && (List.zipWith (fun o n => between o 0 (n - 1)) os ns).all id
  | none => false
def isCallO (ns : List Int) : Option (List (Option Int)) → Bool
  | some os => decide (os.length = ns.length) && (os.map Option.isSome).all id
  | none => false
/-- a seat: one place a ring -/
def SeatOk : List Int → List Int → Prop
  | n :: ns, p :: ps => (0 ≤ p ∧ p < n) ∧ SeatOk ns ps
  | [], [] => True
  | _, _ => False
theorem SeatOk.len : ∀ {ns ps : List Int}, SeatOk ns ps → ps.length = ns.length
  | [], [], _ => rfl
  | _ :: _, _ :: _, h => by
    show _ + 1 = _ + 1
    rw [SeatOk.len h.2]
theorem seat_is : ∀ {ns ps : List Int}, SeatOk ns ps → (List.zipWith (fun o n => between o 0 (n - 1)) (ps.map some) ns).all id = true
  | [], [], _ => rfl
  | n :: ns, p :: ps, h => by
    have ih := seat_is h.2
    show (between (some p) 0 (n - 1) && _) = true
    rw [Bool.and_eq_true]
    refine ⟨?_, ih⟩
    show (decide (0 ≤ p) && decide (p ≤ n - 1)) = true
    rw [decide_eq_true h.1.1, decide_eq_true (by have := h.1.2; omega)]
    rfl
theorem isSeat_ok {ns ps : List Int} (h : SeatOk ns ps) : isSeatO ns (some (ps.map some)) = true := by
  show (decide ((ps.map some).length = ns.length) && _) = true
  rw [Bool.and_eq_true]
  exact ⟨decide_eq_true (by rw [List.length_map]; exact h.len), seat_is h⟩
theorem isCall_ok {ns cs : List Int} (h : cs.length = ns.length) : isCallO ns (some (cs.map some)) = true := by
  show (decide ((cs.map some).length = ns.length) && _) = true
  rw [Bool.and_eq_true]
  refine ⟨decide_eq_true (by rw [List.length_map]; exact h), ?_⟩
  rw [List.map_map, List.all_map, List.all_eq_true]
  exact fun _ _ => rfl
/-- a step by a multiple of a call -/
def shiftL : List Int → List Int → List Int → Int → List Int
  | n :: ns, p :: ps, c :: cs, f => (p + f * c) % n :: shiftL ns ps cs f
  | _, _, _, _ => []
theorem shift_len : ∀ {ns ps cs : List Int} {f : Int}, ps.length = ns.length → cs.length = ns.length → (shiftL ns ps cs f).length = ns.length
  | [], _, _, _, _, _ => by simp [shiftL]
  | _ :: ns, p :: ps, c :: cs, f, h1, h2 => by
    have ih := @shift_len ns ps cs f (by simpa using h1) (by simpa using h2)
    show (shiftL ns ps cs f).length + 1 = _ + 1
    rw [ih]
theorem shift_get : ∀ {ns ps cs : List Int} {f : Int} {i : Nat} {n p c : Int}, ns[i]? = some n → ps[i]? = some p → cs[i]? = some c → (shiftL ns ps cs f)[i]? = some ((p + f * c) % n)
  | n :: ns, p :: ps, c :: cs, f, 0, _, _, _, h1, h2, h3 => by
    simp at h1 h2 h3
    subst h1 h2 h3
    rfl
  | n :: ns, p :: ps, c :: cs, f, i + 1, a, b, d, h1, h2, h3 => by
    have ih := @shift_get ns ps cs f i a b d (by simpa using h1) (by simpa using h2) (by simpa using h3)
    show (shiftL ns ps cs f)[i]? = _
    exact ih
  | [], _, _, _, i, _, _, _, h1, _, _ => by simp at h1
  | _ :: _, [], _, _, i, _, _, _, _, h2, _ => by simp at h2
  | _ :: _, _ :: _, [], _, i, _, _, _, _, _, h3 => by simp at h3
theorem mul_ok {i j : Int} (h : (-(2 ^ 64) < i ∧ i < 2 ^ 64) ∨ (-(2 ^ 64) < j ∧ j < 2 ^ 64)) : IntMulOk i j := CMul.ok h
theorem zip_get {α β γ : Type} {f : α → β → γ} {l : List α} {m : List β} {i : Nat} {x : α} {y : β} (h1 : l[i]? = some x) (h2 : m[i]? = some y) : (List.zipWith f l m)[i]? = some (f x y) := by
  rw [List.getElem?_zipWith, h1, h2]
section
variable {P : Program} {w : World} {K : PySem.W.Frag} {mg : Str → Option Value} {base : Heap}
end

/-- what an argument is as a text -/
def StrA (K : PySem.W.Frag) (H : Hp) (x : V) : Option Str → Prop
  | some z => x = .str z
  | none => ∃ t, TyX K H x t ∧ PySem.W.kitOne K t (.type "str") = some false
def isDirO : Option Str → Bool
  | some z => decide (z = "forward") || decide (z = "backward")
  | none => false
theorem tup_ge {xs : List V} (h : xs.length ≤ 4) : xs.length ≤ sizeLine := Nat.le_trans h (by decide)
section
variable {P : Program} {w : World} {K : PySem.W.Frag} {mg : Str → Option Value} {base : Heap}
end

/-- all but what is at s stays -/
def XB (s : Addr) (H H2 : Hp) : Prop := ∀ c o, c ≠ s → H c = some o → H2 c = some o
theorem XB.refl {s : Addr} {H : Hp} : XB s H H := fun _ _ _ h => h
theorem XB.trans {s : Addr} {H H1 H2 : Hp} (a : XB s H H1) (b : XB s H1 H2) : XB s H H2 := fun c o n h => b c o n (a c o n h)
theorem XB.upd {s : Addr} {H : Hp} {o : HO} : XB s H (upd H s o) := fun c u n h => by rw [upd_ne n]; exact h
theorem XB.of {s : Addr} {H H2 : Hp} (e : Ex H H2) : XB s H H2 := fun c o _ h => e c o h
theorem XB.back {s : Addr} {H H2 : Hp} (e : XB s H H2) {p : Addr} (hn : p ≠ s) (h : H2 p = none) : H p = none := by
  cases q : H p with
  | none => rfl
  | some o => rw [e p o hn q] at h; cases h
theorem mod_lo {i n : Int} (h : 0 < n) : 0 ≤ i % n := Int.emod_nonneg i (by omega)
theorem mod_hi {i n : Int} (h : 0 < n) : i % n < n := Int.emod_lt_of_pos i h

/-! ### data -/
mutual
theorem eqv_refl : ∀ d : PyData, d.canLay0 = true → PyData.eqv d d = true
  | .none, _ => by simp only [PyData.eqv]
  | .bool b, _ => by simp only [PyData.eqv, beq_self_eq_true]
  | .int i, _ => by simp only [PyData.eqv, beq_self_eq_true]
  | .str x, _ => by simp only [PyData.eqv, beq_self_eq_true]
  | .list xs, h => by
    simp only [PyData.canLay0] at h
    simp only [PyData.eqv]
    exact eqvAll_refl xs h
  | .tuple xs, h => by
    simp only [PyData.canLay0] at h
    simp only [PyData.eqv]
    exact eqvAll_refl xs h
  | .dict _, h => by simp [PyData.canLay0] at h
theorem eqvAll_refl : ∀ ds : List PyData, PyData.canLayAll0 ds = true → PyData.eqvAll ds ds = true
  | [], _ => by simp only [PyData.eqvAll]
  | d :: ds, h => by
    simp only [PyData.canLayAll0, Bool.and_eq_true] at h
    simp only [PyData.eqvAll, Bool.and_eq_true]
    exact ⟨eqv_refl d h.1, eqvAll_refl ds h.2⟩
end
/-- data of a depth below n, in a form that may be laid -/
def Sh (n : Nat) (d : PyData) : Prop := d.canLay0 = true ∧ d.depth ≤ n
theorem Sh.ok {d : PyData} (h : Sh 60 d) : SeqAt.shaped d = true := by
  unfold SeqAt.shaped
  rw [h.1, decide_eq_true (Nat.le_trans h.2 (by decide))]
  rfl
theorem sh_int {n : Nat} (i : Int) : Sh n (.int i) := ⟨by simp only [PyData.canLay0], by simp only [PyData.depth]; omega⟩
theorem sh_bool {n : Nat} (i : Bool) : Sh n (.bool i) := ⟨by simp only [PyData.canLay0], by simp only [PyData.depth]; omega⟩
theorem sh_none {n : Nat} : Sh n .none := ⟨by simp only [PyData.canLay0], by simp only [PyData.depth]; omega⟩
theorem sh_all {n : Nat} : ∀ {ds : List PyData}, (∀ d ∈ ds, Sh n d) → PyData.canLayAll0 ds = true ∧ PyData.depthAll ds ≤ n
  | [], _ => ⟨by simp only [PyData.canLayAll0], by simp only [PyData.depthAll]; omega⟩
  | d :: ds, h => by
    obtain ⟨h1, h2⟩ := h d List.mem_cons_self
    obtain ⟨g1, g2⟩ := sh_all fun x hx => h x (List.mem_cons_of_mem _ hx)
    refine ⟨by simp only [PyData.canLayAll0, h1, g1, Bool.and_self], ?_⟩
    simp only [PyData.depthAll]
    omega
theorem sh_tuple {n : Nat} {ds : List PyData} (h : ∀ d ∈ ds, Sh n d) : Sh (n + 1) (.tuple ds) := by
  obtain ⟨h1, h2⟩ := sh_all h
  exact ⟨by simp only [PyData.canLay0, h1], by simp only [PyData.depth]; omega⟩
theorem sh_list {n : Nat} {ds : List PyData} (h : ∀ d ∈ ds, Sh n d) : Sh (n + 1) (.list ds) := by
  obtain ⟨h1, h2⟩ := sh_all h
  exact ⟨by simp only [PyData.canLay0, h1], by simp only [PyData.depth]; omega⟩
theorem Sh.up {n m : Nat} {d : PyData} (h : Sh n d) (e : n ≤ m) : Sh m d := ⟨h.1, Nat.le_trans h.2 e⟩
/-- a tuple of ints -/
abbrev iT (ns : List Int) : PyData := .tuple (ns.map PyData.int)
theorem sh_ints {n : Nat} (ns : List Int) : Sh (n + 1) (iT ns) := sh_tuple fun d hd => by
  obtain ⟨i, _, rfl⟩ := List.mem_map.mp hd
  exact sh_int i
theorem dpall_ints {K : PySem.W.Frag} {H : Hp} : ∀ ns : List Int, DpAll K H (ns.map V.int) (ns.map PyData.int)
  | [] => .nil
  | n :: ns => .cons (.int n) (dpall_ints ns)
theorem dp_ints {K : PySem.W.Frag} {H : Hp} {a : Addr} {ns : List Int} (h : H a = some (.tup (ns.map V.int))) : Dp K H (.ref a) (iT ns) := .tup (SqT.of h) (dpall_ints ns)
theorem eqvAll_ints : ∀ ns ms : List Int, PyData.eqvAll (ns.map PyData.int) (ms.map PyData.int) = decide (ns = ms)
  | [], [] => by simp [PyData.eqvAll]
  | [], _ :: _ => by simp [PyData.eqvAll]
  | _ :: _, [] => by simp [PyData.eqvAll]
  | n :: ns, m :: ms => by
    have ih := eqvAll_ints ns ms
    simp only [List.map_cons, PyData.eqvAll, PyData.eqv, ih]
    by_cases h : n = m
    · subst h
      simp
    · have : (n == m) = false := by simpa using h
      rw [this]
      simp [h]
theorem eqv_ints (ns ms : List Int) : PyData.eqv (iT ns) (iT ms) = decide (ns = ms) := by
  simp only [PyData.eqv]
  exact eqvAll_ints ns ms
theorem sh_pair {n : Nat} {a b : PyData} (ha : Sh n a) (hb : Sh n b) : Sh (n + 1) (.tuple [a, b]) := sh_tuple fun d hd => by
  rcases List.mem_cons.mp hd with e | e
  · rw [e]; exact ha
  · rw [List.mem_singleton.mp e]; exact hb
theorem eqv_same {d : PyData} (h : Sh 60 d) : (!PyData.eqv d d) = false := by rw [eqv_refl d h.1]; rfl

/-! ### zip's rows, nested comprehensions, lists of tuples of ints -/
theorem yrow2 {xs ys : List V} {i : Nat} {H H2 : Hp} {x : V} (h : CZ.YRow [xs, ys] i H x H2) : ∃ (Ta : Addr) (a b : V), x = .ref Ta ∧ H Ta = none ∧ H2 = upd H Ta (.tup [a, b]) ∧ xs[i]? = some a ∧ ys[i]? = some b := by
  obtain ⟨Ta, vs, rfl, hT, rfl, r⟩ := h
  cases r with
  | cons r1 r =>
    cases r with
    | cons r2 r =>
      cases r
      exact ⟨Ta, _, _, rfl, hT, rfl, r1, r2⟩
theorem yrow3 {xs ys zs : List V} {i : Nat} {H H2 : Hp} {x : V} (h : CZ.YRow [xs, ys, zs] i H x H2) : ∃ (Ta : Addr) (a b c : V), x = .ref Ta ∧ H Ta = none ∧ H2 = upd H Ta (.tup [a, b, c]) ∧ xs[i]? = some a ∧ ys[i]? = some b ∧ zs[i]? = some c := by
  obtain ⟨Ta, vs, rfl, hT, rfl, r⟩ := h
  cases r with
  | cons r1 r =>
    cases r with
    | cons r2 r =>
      cases r with
      | cons r3 r =>
        cases r
        exact ⟨Ta, _, _, _, rfl, hT, rfl, r1, r2, r3⟩
theorem yints2 {xs ys : List Int} {i : Nat} {H H2 : Hp} {x : V} (h : CZ.YRow [xs.map V.int, ys.map V.int] i H x H2) : ∃ (Ta : Addr) (a b : Int), x = .ref Ta ∧ H Ta = none ∧ H2 = upd H Ta (.tup [.int a, .int b]) ∧ xs[i]? = some a ∧ ys[i]? = some b := by
  obtain ⟨Ta, a, b, rfl, hT, rfl, r1, r2⟩ := yrow2 h
  obtain ⟨p, hp, rfl⟩ := map_get r1
  obtain ⟨q, hq, rfl⟩ := map_get r2
  exact ⟨Ta, p, q, rfl, hT, rfl, hp, hq⟩
theorem yints3 {xs ys zs : List Int} {i : Nat} {H H2 : Hp} {x : V} (h : CZ.YRow [xs.map V.int, ys.map V.int, zs.map V.int] i H x H2) : ∃ (Ta : Addr) (a b c : Int), x = .ref Ta ∧ H Ta = none ∧ H2 = upd H Ta (.tup [.int a, .int b, .int c]) ∧ xs[i]? = some a ∧ ys[i]? = some b ∧ zs[i]? = some c := by
  obtain ⟨Ta, a, b, c, rfl, hT, rfl, r1, r2, r3⟩ := yrow3 h
  obtain ⟨p, hp, rfl⟩ := map_get r1
  obtain ⟨q, hq, rfl⟩ := map_get r2
  obtain ⟨r, hr, rfl⟩ := map_get r3
  exact ⟨Ta, p, q, r, rfl, hT, rfl, hp, hq, hr⟩
theorem all2 {K : PySem.W.Frag} {H : Hp} {p q : Bool × Addr} {xs ys : List V} (hp : CZ.SqK K H p xs) (hq : CZ.SqK K H q ys) : ∀ r ∈ [p, q], ∃ zs, CZ.SqK K H r zs := fun r hr => by
  rcases List.mem_cons.mp hr with e | hr
  · rw [e]; exact ⟨_, hp⟩
  · rw [List.mem_singleton.mp hr]; exact ⟨_, hq⟩
theorem all3 {K : PySem.W.Frag} {H : Hp} {p q t : Bool × Addr} {xs ys us : List V} (hp : CZ.SqK K H p xs) (hq : CZ.SqK K H q ys) (ht : CZ.SqK K H t us) : ∀ r ∈ [p, q, t], ∃ zs, CZ.SqK K H r zs := fun r hr => by
  rcases List.mem_cons.mp hr with e | hr
  · rw [e]; exact ⟨_, hp⟩
  · exact all2 hq ht r hr
theorem lens2 {xs ys : List V} {n : Nat} (h1 : xs.length = n) (h2 : ys.length = n) : ∀ zs ∈ [xs, ys], zs.length = n := fun zs hz => by
  rcases List.mem_cons.mp hz with e | hz
  · rw [e]; exact h1
  · rw [List.mem_singleton.mp hz]; exact h2
theorem lens3 {xs ys us : List V} {n : Nat} (h1 : xs.length = n) (h2 : ys.length = n) (h3 : us.length = n) : ∀ zs ∈ [xs, ys, us], zs.length = n := fun zs hz => by
  rcases List.mem_cons.mp hz with e | hz
  · rw [e]; exact h1
  · exact lens2 h2 h3 zs hz
theorem sqT {K : PySem.W.Frag} {H : Hp} {a : Addr} {xs : List V} (h : H a = some (.tup xs)) : CZ.SqK K H (true, a) xs := SqT.of h
theorem sqL {K : PySem.W.Frag} {H : Hp} {a : Addr} {xs : List V} (h : H a = some (.lst xs)) : CZ.SqK K H (false, a) xs := SqL.of h
section
variable {J : It} {n : Nat} {G : Hp → Prop} {Y : Nat → Hp → V → Hp → Prop}
/-- a comprehension of two loops: the outer -/
theorem lc2_it (w : Walk J n G Y) {g g1 : TG} {tt tt1 : TT} {te : TE} {wi1 : TI} {vs vs1 : List Nat} {σ : L2.St} {H1 : Hp} {D : Addr} {Qd : Hp → Prop} (Pv : Nat → Hp → Prop) (h0 : Pv 0 (upd H1 D (.lst []))) (hG : ∀ i H, i ≤ n → Pv i H → G H)
    (hs : ∀ i x H H2, i < n → Pv i H → Y i H x H2 → g x (wipe σ vs) H2 fun σ2 H2 => wipe σ2 vs = wipe σ vs ∧ tt σ2 H2 fun b H3 =>
      if b = true then wi1 σ2 H3 fun J1 H4 => ∃ W1 : Nat → Nat → Hp → Prop, (∃ m, W1 0 m H4) ∧ ∀ j k H, W1 j k H →
        (J1.stop j H ∧ Pv (i + 1) H) ∨ (J1.go j H ∧ ∃ Nx1 : Hp → Prop, (∀ H2, Nx1 H2 → ∃ k2, k2 < k ∧ W1 (j + 1) k2 H2) ∧ ∀ x H2, J1.yld j H x H2 → g1 x (wipe σ2 vs1) H2 fun σ3 H5 => wipe σ3 vs1 = wipe σ2 vs1 ∧ tt1 σ3 H5 fun b H6 =>
          if b = true then te σ3 H6 fun y H7 => ∃ acc, H7 D = some (.lst acc) ∧ acc.length < sizeLine ∧ Nx1 (upd H7 D (.lst (acc ++ [y]))) else Nx1 H6)
      else Pv (i + 1) H3) (hd : ∀ H, Pv n H → Qd H) :
    ∃ W : Nat → Nat → Hp → Prop, (∃ m, W 0 m (upd H1 D (.lst []))) ∧ ∀ i m H, W i m H →
      (J.stop i H ∧ Qd H) ∨ (J.go i H ∧ ∃ Nx : Hp → Prop, (∀ H2, Nx H2 → ∃ m2, m2 < m ∧ W (i + 1) m2 H2) ∧ ∀ x H2, J.yld i H x H2 → g x (wipe σ vs) H2 fun σ2 H2 => wipe σ2 vs = wipe σ vs ∧ tt σ2 H2 fun b H3 =>
        if b = true then wi1 σ2 H3 fun J1 H4 => ∃ W1 : Nat → Nat → Hp → Prop, (∃ m, W1 0 m H4) ∧ ∀ j k H, W1 j k H →
          (J1.stop j H ∧ Nx H) ∨ (J1.go j H ∧ ∃ Nx1 : Hp → Prop, (∀ H2, Nx1 H2 → ∃ k2, k2 < k ∧ W1 (j + 1) k2 H2) ∧ ∀ x H2, J1.yld j H x H2 → g1 x (wipe σ2 vs1) H2 fun σ3 H5 => wipe σ3 vs1 = wipe σ2 vs1 ∧ tt1 σ3 H5 fun b H6 =>
            if b = true then te σ3 H6 fun y H7 => ∃ acc, H7 D = some (.lst acc) ∧ acc.length < sizeLine ∧ Nx1 (upd H7 D (.lst (acc ++ [y]))) else Nx1 H6)
        else Nx H3) := by
  refine ⟨fun i m H => m = n - i ∧ i ≤ n ∧ Pv i H, ⟨n, by simp, Nat.zero_le _, h0⟩, ?_⟩
  rintro i m H ⟨rfl, hi, p⟩
  have q := hG i H hi p
  by_cases hlt : i < n
  · refine .inr ⟨w.goes i H hlt q, Pv (i + 1), fun H2 p2 => ⟨n - (i + 1), by omega, rfl, hlt, p2⟩, fun x H2 y => hs i x H H2 hlt p (w.yields i H x H2 hlt q y)⟩
  · have e : i = n := by omega
    subst e
    exact .inl ⟨w.stops H q, hd H p⟩
/-- .. the inner -/
theorem in_it (w : Walk J n G Y) {g1 : TG} {tt1 : TT} {te : TE} {vs1 : List Nat} {σ2 : L2.St} {H4 : Hp} {D : Addr} {Nx : Hp → Prop} (Pw : Nat → Hp → Prop) (h0 : Pw 0 H4) (hG : ∀ i H, i ≤ n → Pw i H → G H)
    (hs : ∀ j x H H2, j < n → Pw j H → Y j H x H2 → g1 x (wipe σ2 vs1) H2 fun σ3 H5 => wipe σ3 vs1 = wipe σ2 vs1 ∧ tt1 σ3 H5 fun b H6 =>
      if b = true then te σ3 H6 fun y H7 => ∃ acc, H7 D = some (.lst acc) ∧ acc.length < sizeLine ∧ Pw (j + 1) (upd H7 D (.lst (acc ++ [y]))) else Pw (j + 1) H6) (hd : ∀ H, Pw n H → Nx H) :
    ∃ W1 : Nat → Nat → Hp → Prop, (∃ m, W1 0 m H4) ∧ ∀ j k H, W1 j k H →
      (J.stop j H ∧ Nx H) ∨ (J.go j H ∧ ∃ Nx1 : Hp → Prop, (∀ H2, Nx1 H2 → ∃ k2, k2 < k ∧ W1 (j + 1) k2 H2) ∧ ∀ x H2, J.yld j H x H2 → g1 x (wipe σ2 vs1) H2 fun σ3 H5 => wipe σ3 vs1 = wipe σ2 vs1 ∧ tt1 σ3 H5 fun b H6 =>
        if b = true then te σ3 H6 fun y H7 => ∃ acc, H7 D = some (.lst acc) ∧ acc.length < sizeLine ∧ Nx1 (upd H7 D (.lst (acc ++ [y]))) else Nx1 H6) := by
  refine ⟨fun i m H => m = n - i ∧ i ≤ n ∧ Pw i H, ⟨n, by simp, Nat.zero_le _, h0⟩, ?_⟩
  rintro i m H ⟨rfl, hi, p⟩
  have q := hG i H hi p
  by_cases hlt : i < n
  · refine .inr ⟨w.goes i H hlt q, Pw (i + 1), fun H2 p2 => ⟨n - (i + 1), by omega, rfl, hlt, p2⟩, fun x H2 y => hs i x H H2 hlt p (w.yields i H x H2 hlt q y)⟩
  · have e : i = n := by omega
    subst e
    exact .inl ⟨w.stops H q, hd H p⟩
end
/-- refs of tuples of ints -/
def RowsR (H : Hp) (xs : List V) (hss : List (List Int)) : Prop := Paired (fun x hs => ∃ r, x = V.ref r ∧ H r = some (.tup (hs.map V.int))) xs hss
theorem RowsR.mono {H H2 : Hp} (e : Ex H H2) : ∀ {xs : List V} {hss : List (List Int)}, RowsR H xs hss → RowsR H2 xs hss
  | _, _, .nil => .nil
  | _, _, .cons ⟨r, h1, h2⟩ t => .cons ⟨r, h1, e _ _ h2⟩ (RowsR.mono e t)
theorem RowsR.snoc {H : Hp} {r : Addr} {hs : List Int} (h : H r = some (.tup (hs.map V.int))) : ∀ {xs : List V} {hss : List (List Int)}, RowsR H xs hss → RowsR H (xs ++ [.ref r]) (hss ++ [hs])
  | _, _, .nil => .cons ⟨r, rfl, h⟩ .nil
  | _, _, .cons q t => .cons q (RowsR.snoc h t)
theorem RowsR.app {H : Hp} {ys : List V} {kss : List (List Int)} (h : RowsR H ys kss) : ∀ {xs : List V} {hss : List (List Int)}, RowsR H xs hss → RowsR H (xs ++ ys) (hss ++ kss)
  | _, _, .nil => h
  | _, _, .cons q t => .cons q (RowsR.app h t)
theorem RowsR.len {H : Hp} : ∀ {xs : List V} {hss : List (List Int)}, RowsR H xs hss → xs.length = hss.length
  | _, _, .nil => rfl
  | _, _, .cons _ t => by rw [List.length_cons, List.length_cons, RowsR.len t]
theorem RowsR.get {H : Hp} : ∀ {xs : List V} {hss : List (List Int)} {i : Nat} {x : V}, RowsR H xs hss → xs[i]? = some x → ∃ hs r, hss[i]? = some hs ∧ x = V.ref r ∧ H r = some (.tup (hs.map V.int))
  | _, _, _, _, .nil, h => by simp at h
  | _, _, 0, _, .cons ⟨r, e, q⟩ _, h => by
    simp only [List.length_cons, Nat.zero_lt_succ, List.getElem?_eq_getElem, List.getElem_cons_zero, Option.some.injEq] at h
    subst h
    exact ⟨_, r, rfl, e, q⟩
  | _, _, i + 1, _, .cons _ t, h => by
    rw [List.getElem?_cons_succ] at h ⊢
    exact RowsR.get t h
theorem RowsR.dp {K : PySem.W.Frag} {H : Hp} : ∀ {xs : List V} {hss : List (List Int)}, RowsR H xs hss → DpAll K H xs (hss.map iT)
  | _, _, .nil => .nil
  | _, _, .cons ⟨r, e, q⟩ t => by
    subst e
    exact .cons (dp_ints q) (RowsR.dp t)
/-- a list of tuples of ints -/
def RowsAt (H : Hp) (D : Addr) (hss : List (List Int)) : Prop := ∃ xs, H D = some (.lst xs) ∧ RowsR H xs hss
theorem RowsAt.mono {H H2 : Hp} {D : Addr} {hss : List (List Int)} (e : Ex H H2) (h : RowsAt H D hss) : RowsAt H2 D hss := by
  obtain ⟨xs, h1, h2⟩ := h
  exact ⟨xs, e _ _ h1, h2.mono e⟩
theorem RowsAt.dp {K : PySem.W.Frag} {H : Hp} {D : Addr} {hss : List (List Int)} (h : RowsAt H D hss) : Dp K H (.ref D) (.list (hss.map iT)) := by
  obtain ⟨xs, h1, h2⟩ := h
  exact .lst (SqL.of h1) h2.dp
theorem sh_rows {n : Nat} (hss : List (List Int)) : Sh (n + 2) (.list (hss.map iT)) := sh_list fun d hd => by
  obtain ⟨hs, _, rfl⟩ := List.mem_map.mp hd
  exact sh_ints hs
theorem eqvAll_rows : ∀ ns ms : List (List Int), PyData.eqvAll (ns.map iT) (ms.map iT) = decide (ns = ms)
  | [], [] => by simp [PyData.eqvAll]
  | [], _ :: _ => by simp [PyData.eqvAll]
  | _ :: _, [] => by simp [PyData.eqvAll]
  | n :: ns, m :: ms => by
    have ih := eqvAll_rows ns ms
    simp only [List.map_cons, PyData.eqvAll, eqv_ints, ih]
    by_cases h : n = m
    · subst h
      simp
    · simp [h]
theorem eqv_rows (ns ms : List (List Int)) : PyData.eqv (.list (ns.map iT)) (.list (ms.map iT)) = decide (ns = ms) := by
  simp only [PyData.eqv]
  exact eqvAll_rows ns ms
theorem RowsR.upd {H : Hp} {D : Addr} {acc : List V} {o : HO} (hD : H D = some (.lst acc)) : ∀ {xs : List V} {hss : List (List Int)}, RowsR H xs hss → RowsR (upd H D o) xs hss
  | _, _, .nil => .nil
  | _, _, .cons ⟨r, h1, h2⟩ t => .cons ⟨r, h1, by rw [upd_ne (ne_of h2 hD (by intro z; cases z))]; exact h2⟩ (RowsR.upd hD t)
theorem rows_push {H : Hp} {D u : Addr} {hss : List (List Int)} {ks : List Int} (h : RowsAt H D hss) (hu : H u = some (.tup (ks.map V.int))) : ∃ acc, H D = some (.lst acc) ∧ acc.length = hss.length ∧ RowsAt (upd H D (.lst (acc ++ [.ref u]))) D (hss ++ [ks]) := by
  obtain ⟨xs, h1, h2⟩ := h
  refine ⟨xs, h1, h2.len, _, upd_same, ?_⟩
  exact RowsR.snoc (by rw [upd_ne (ne_of hu h1 (by intro z; cases z))]; exact hu) (h2.upd h1)
theorem ex_upd {H H2 : Hp} {D : Addr} {o : HO} (e : Ex H H2) (hD : H D = none) : Ex H (upd H2 D o) := fun c u z => by
  rw [upd_ne (ne_of_none z hD)]
  exact e c u z
theorem ext {H H1 H2 : Hp} (a : Ex H H1) (b : Ex H1 H2) : Ex H H2 := fun c o z => b c o (a c o z)

/-! ### tuple * int, from 1 on -/
theorem u65 {k : Nat} {A : Around} (r : Room k A) : A.units + 65 < cLine := by have := r.un; omega
theorem tuple_mul1 (l : Addr) (items : Array Value) (n : Nat) (dd : Option Addr) (sl : Array (Option Value)) (x : Int) (u : Tok) (c0 : (decide (x < -(2 ^ 63)) || decide (x ≥ 2 ^ 63)) = false) (c1 : (items.isEmpty || x == 1) = true) :
    Meets (Builtin.«tuple.__mul__» ⟨[.ref l, .int x u], []⟩) (fun _ R s => s.heap.get? l = some { cls := .type "tuple", dict := dd, data := .seq items n, slots := sl } ∧ R (.ok (.ret (Value.ref l))) s) :=
  .of_wp fun prog w A R s h => by
    obtain ⟨hp, g, d, tk, os⟩ := s
    obtain ⟨hl, h⟩ := h
    have f1 := AutoSeq1.idx_int
    wp_walk using wpAny_loadPart' hl
    repeat (first
      | (refine wpAny_ite_false (decide_eq_false (by rw [c0]; exact Bool.false_ne_true)) ?_; wp_walk using wpAny_loadPart' hl)
      | (refine wpAny_ite_true (decide_eq_true c1) ?_; wp_walk using wpAny_loadPart' hl))
    exact ⟨_, rfl, h⟩
def rRepA (K : PySem.W.Frag) : R2 := fun x y H Q => ∃ l k xs, x = .ref l ∧ y = .int k ∧ SqT K H l xs ∧ xs ≠ [] ∧ 1 ≤ k ∧ k ≤ 1000 ∧ xs.length ≤ 1000 ∧ (k = 1 → Q (.ref l) H) ∧ ∀ p, H p = none → Q (.ref p) (upd H p (.tup (List.replicate k.toNat xs).flatten))
theorem op_repA {X : Cx} : OpR X (binaryOp .Mult) (rRepA X.K) := by
  intro pins s σ H x y v u Q I rx ry h
  obtain ⟨l, k, xs, ex, ey, hT, hne, h1, h2, hz, q1, q⟩ := h
  by_cases hk : k = 1
  · subst ex ey hk
    cases rx
    obtain ⟨t, rfl⟩ := ry
    obtain ⟨its, r, ⟨⟨cls, dd, data, sl⟩, ho, hc, n, hd⟩, hs⟩ := I.tuple hT
    simp only at hc hd
    subst hc hd
    refine wpAny_binaryOp_repeat_ref (T := "tuple") (U := "int") (by decide) ⟨_, ho, rfl⟩ (fun s2 => typeIs_int s2 1 t) noFill_tuple_mul PySem.F.fills_int_mul PySem.F.slot_int_rmul repeat_tuple PySem.F.slot_int_index.lookup
      (call_meets PySem.F.slot_int_rmul (typeIs_int s 1 t) PySem.F.entry_int_rmul (PySem.F.args_int_rmul_2 _ _) (int_rmul_tuple 1 t l its.toArray n dd sl)
        ⟨ho, rfl, ⟨_, ho, rfl⟩, call_meets PySem.F.slot_tuple_mul ⟨_, ho, rfl⟩ PySem.F.entry_tuple_mul (PySem.F.args_tuple_mul_2 _ _) (tuple_mul1 l its.toArray n dd sl 1 t (by decide) (by simp)) ⟨ho, ?_⟩⟩)
    exact ⟨.ref l, H, I, rfl, q1 rfl⟩
  · exact op_repT pins s σ H x y v u Q I rx ry ⟨l, k, xs, ex, ey, hT, hne, by omega, h2, hz, q⟩
/-- (x,) * k -/
theorem rep_one (x : V) (k : Nat) : (List.replicate k [x]).flatten = List.replicate k x := by
  induction k with
  | zero => rfl
  | succ k ih => rw [List.replicate_succ, List.flatten_cons, ih, List.replicate_succ]; rfl
theorem rep_ints {K : PySem.W.Frag} {H : Hp} {Q : VK} {u : Addr} {x k : Int} (hu : H u = some (.tup [.int x])) (h1 : 1 ≤ k) (h2 : k ≤ 1000) (h : ∀ q H2, Ex H H2 → H2 q = some (.tup ((List.replicate k.toNat x).map V.int)) → Q (.ref q) H2) : rRepA K (.ref u) (.int k) H Q := by
  refine ⟨u, k, [.int x], rfl, rfl, SqT.of hu, (fun z => nomatch z), h1, h2, (by show 1 ≤ 1000; decide), fun e => ?_, fun p hp => ?_⟩
  · subst e
    exact h u H exr hu
  · refine h p _ (exn hp) ?_
    rw [upd_same, rep_one, List.map_replicate]
theorem ne_same {a b : List Int} (h : a = b) : (!PyData.eqv (iT a) (iT b)) = false := by rw [h]; exact eqv_same (sh_ints b)
/-- a comprehension over a tuple of ints, by a value each -/
theorem row_in {hss : List (List Int)} {ps : List Int} (h : ps ∈ hss) : ((hss.map iT).any fun z => PyData.eqv z (iT ps)) = true := by
  rw [List.any_eq_true]
  exact ⟨iT ps, List.mem_map.mpr ⟨ps, h, rfl⟩, by rw [eqv_ints]; simp⟩
/-- a list of ints -/
abbrev iL (ns : List Int) : PyData := .list (ns.map PyData.int)
theorem sh_ilist {n : Nat} (ns : List Int) : Sh (n + 1) (iL ns) := sh_list fun d hd => by
  obtain ⟨i, _, rfl⟩ := List.mem_map.mp hd
  exact sh_int i
theorem dp_ilist {K : PySem.W.Frag} {H : Hp} {a : Addr} {ns : List Int} (h : H a = some (.lst (ns.map V.int))) : Dp K H (.ref a) (iL ns) := .lst (SqL.of h) (dpall_ints ns)
theorem eqv_ilist (ns ms : List Int) : PyData.eqv (iL ns) (iL ms) = decide (ns = ms) := by
  simp only [PyData.eqv]
  exact eqvAll_ints ns ms
theorem dec_bl {a b : Bool} (h : a = b) : (!decide (V.bl a = V.bl b)) = false := by rw [h]; simp
theorem emod_eq_iff {a b n : Int} : a % n = b % n ↔ n ∣ a - b := by
  rw [Int.emod_eq_emod_iff_emod_sub_eq_zero, Int.dvd_iff_emod_eq_zero]
/-- behind an if that changes names alone -/
theorem ifs_cutS {c : TT} {t u : TS} {D : Ends} {σ : L2.St} {H : Hp} (R : L2.St → Prop) (hR : ∀ σ2, R σ2 → D.nx σ2 H) (h : ∀ N : L2.St → Hp → Prop, (∀ σ2, R σ2 → N σ2 H) → tIfS c t u { D with nx := N } σ H) : tIfS c t u D σ H :=
  h D.nx hR

/-- a comprehension that lengthens a row by each of ks -/
theorem lc_rows {J : It} {n : Nat} {G : Hp → Prop} {Y : Nat → Hp → V → Hp → Prop} (w : Walk J n G Y) {g : TG} {te : TE} {vs : List Nat} {σ : L2.St} {H1 : Hp} {D : Addr} {Qd : Hp → Prop} (row ks : List Int) (hn : ks.length = n) (hl : n ≤ 10000000) (hD : H1 D = none)
    (hG : ∀ H, Ex H1 H → G H)
    (hs : ∀ i x H H2 (R : VK), i < n → Ex H1 H → Y i H x H2 → (∀ k v H5, Ex H H5 → ks[i]? = some k → H5 v = some (.tup ((row ++ [k]).map V.int)) → R (.ref v) H5) → g x (wipe σ vs) H2 fun σ2 H3 => wipe σ2 vs = wipe σ vs ∧ te σ2 H3 R)
    (hg : ∀ x σ2 H2 (R R2 : L2.St → Hp → Prop), (∀ σ3 H3, R σ3 H3 → R2 σ3 H3) → g x σ2 H2 R → g x σ2 H2 R2)
    (hd : ∀ H, Ex H1 H → RowsAt H D (ks.map fun k => row ++ [k]) → Qd H) :
    ∃ W : Nat → Nat → Hp → Prop, (∃ m, W 0 m (upd H1 D (.lst []))) ∧ ∀ i m H, W i m H →
      (J.stop i H ∧ Qd H) ∨ (J.go i H ∧ ∃ Nx : Hp → Prop, (∀ H2, Nx H2 → ∃ m2, m2 < m ∧ W (i + 1) m2 H2) ∧ ∀ x H2, J.yld i H x H2 → g x (wipe σ vs) H2 fun σ2 H3 => wipe σ2 vs = wipe σ vs ∧ tYes σ2 H3 fun b H4 =>
        if b = true then te σ2 H4 fun y H5 => ∃ acc, H5 D = some (.lst acc) ∧ acc.length < sizeLine ∧ Nx (upd H5 D (.lst (acc ++ [y]))) else Nx H4) := by
  refine lc_it w (fun i H => Ex H1 H ∧ RowsAt H D ((ks.take i).map fun k => row ++ [k])) ⟨exn hD, _, upd_same, .nil⟩ (fun i H _ p => hG H p.1) (fun i x H H2 hi p y => ?_) (fun H p => hd H p.1 (by have := p.2; rwa [List.take_of_length_le (by rw [hn]; exact Nat.le_refl _)] at this))
  refine hg _ _ _ _ _ (fun σ3 H3 q => ⟨q.1, q.2⟩) (hs i x H H2 (fun y H5 => ∃ acc, H5 D = some (.lst acc) ∧ acc.length < sizeLine ∧ Ex H1 (upd H5 D (.lst (acc ++ [y]))) ∧ RowsAt (upd H5 D (.lst (acc ++ [y]))) D ((ks.take (i + 1)).map fun k => row ++ [k])) hi p.1 y fun k v H5 e hk hv => ?_)
  obtain ⟨acc, h1, h2, h3⟩ := rows_push (p.2.mono e) hv
  refine ⟨acc, h1, ?_, ex_upd (ext p.1 e) hD, ?_⟩
  · rw [h2, List.length_map, List.length_take]
    exact Nat.lt_of_le_of_lt (Nat.le_trans (Nat.min_le_right _ _) (by rw [hn]; exact hl)) (by decide)
  · rw [take_more hk, List.map_append]
    exact h3
/-- row + (k,) -/
theorem cat_row {K : PySem.W.Frag} {H : Hp} {Q : VK} {r u : Addr} {row : List Int} {k : Int} (hr : H r = some (.tup (row.map V.int))) (hu : H u = some (.tup [.int k])) (hl : row.length ≤ 1000) (h : ∀ v H5, Ex H H5 → H5 v = some (.tup ((row ++ [k]).map V.int)) → Q (.ref v) H5) : rCatA K (.ref r) (.ref u) H Q := by
  refine ⟨r, u, row.map V.int, [.int k], rfl, rfl, SqT.of hr, SqT.of hu, ?_, fun z => ?_, fun _ z => (nomatch z), fun _ _ v hv => ?_⟩
  · rw [List.length_map]
    exact Nat.le_trans (show _ + 1 ≤ 1001 by omega) (by decide)
  · have : row = [] := List.map_eq_nil_iff.mp z
    subst this
    exact h u H exr hu
  · refine h v _ (exn hv) ?_
    rw [upd_same, List.map_append]
    rfl
theorem rows_ext {H : Hp} {D E : Addr} {hss kss : List (List Int)} (h1 : RowsAt H D hss) (h2 : RowsAt H E kss) (ne : D ≠ E) : ∃ xs zs, H D = some (.lst xs) ∧ H E = some (.lst zs) ∧ xs.length = hss.length ∧ zs.length = kss.length ∧ RowsAt (upd H D (.lst (xs ++ zs))) D (hss ++ kss) := by
  obtain ⟨xs, a1, a2⟩ := h1
  obtain ⟨zs, b1, b2⟩ := h2
  exact ⟨xs, zs, a1, b1, a2.len, b2.len, _, upd_same, RowsR.app (b2.upd a1) (a2.upd a1)⟩

theorem eqT {i j : Int} (h : decide (V.int i = V.int j) = true) : i = j := V.int.inj (of_decide_eq_true h)
theorem eqF {i j : Int} (h : ¬decide (V.int i = V.int j) = true) : i ≠ j := fun z => h (decide_eq_true (by rw [z]))
/-- behind an if -/
theorem ifs_cutG {c : TT} {t u : TS} {D : Ends} {σ : L2.St} {H : Hp} (R : L2.St → Hp → Prop) (hR : ∀ σ2 H2, R σ2 H2 → D.nx σ2 H2) (h : ∀ N : L2.St → Hp → Prop, (∀ σ2 H2, R σ2 H2 → N σ2 H2) → tIfS c t u { D with nx := N } σ H) : tIfS c t u D σ H :=
  h D.nx hR
theorem exG {H H4 : Hp} {p : Addr} {o : HO} (h : upd H p o = H4) (n : H p = none) : Ex H H4 := h ▸ exn n
theorem atG {H H4 : Hp} {p : Addr} {o : HO} (h : upd H p o = H4) : H4 p = some o := h ▸ upd_same
theorem slen {n : Nat} (h : Nat.ble n 1000 = true) : n ≤ sizeLine := Nat.le_trans (Nat.le_of_ble_eq_true h) (by decide)
/-- a comprehension with a test: what passes, by f -/
theorem lc_filt {α : Type} {J : It} {n : Nat} {G : Hp → Prop} {Y : Nat → Hp → V → Hp → Prop} (w : Walk J n G Y) {g : TG} {tt : TT} {te : TE} {vs : List Nat} {σ : L2.St} {H1 : Hp} {D : Addr} {Qd : Hp → Prop} (xs : List α) (c : α → Bool) (f : α → V) (hn : xs.length = n) (hl : n ≤ 10000000) (hD : H1 D = none)
    (hG : ∀ H, Ex H1 H → G H)
    (hs : ∀ i x a H H2 (R : VK) (S : Hp → Prop), xs[i]? = some a → Ex H1 H → Y i H x H2 → (∀ y H5, Ex H H5 → c a = true → y = f a → R y H5) → (∀ H4, Ex H H4 → c a = false → S H4) → g x (wipe σ vs) H2 fun σ2 H3 => wipe σ2 vs = wipe σ vs ∧ tt σ2 H3 fun b H4 => if b = true then te σ2 H4 R else S H4)
    (hd : ∀ H, Ex H1 H → H D = some (.lst ((xs.filter c).map f)) → Qd H) :
    ∃ W : Nat → Nat → Hp → Prop, (∃ m, W 0 m (upd H1 D (.lst []))) ∧ ∀ i m H, W i m H →
      (J.stop i H ∧ Qd H) ∨ (J.go i H ∧ ∃ Nx : Hp → Prop, (∀ H2, Nx H2 → ∃ m2, m2 < m ∧ W (i + 1) m2 H2) ∧ ∀ x H2, J.yld i H x H2 → g x (wipe σ vs) H2 fun σ2 H3 => wipe σ2 vs = wipe σ vs ∧ tt σ2 H3 fun b H4 =>
        if b = true then te σ2 H4 fun y H5 => ∃ acc, H5 D = some (.lst acc) ∧ acc.length < sizeLine ∧ Nx (upd H5 D (.lst (acc ++ [y]))) else Nx H4) := by
  refine lc_out w (fun i => ((xs.take i).filter c).map f) (by simp) hD (fun i hi => ?_) hG (fun i x H H2 Nx hi e hDi y kA kN => ?_) (fun H e h => hd H e ?_)
  · rw [List.length_map]
    refine Nat.lt_of_le_of_lt (Nat.le_trans (List.length_filter_le _ _) (Nat.le_trans (by rw [List.length_take]; exact Nat.min_le_right _ _) (by rw [hn]; exact hl))) (by decide)
  · obtain ⟨a, ha⟩ : ∃ a, xs[i]? = some a := ⟨xs[i]'(by omega), List.getElem?_eq_getElem (by omega)⟩
    refine hs i x a H H2 _ _ ha e y (fun y2 H5 e5 hc hy => kA y2 H5 e5 ?_) (fun H4 e4 hc => kN H4 e4 ?_)
    · rw [take_more ha, List.filter_append, List.map_append, hy]
      simp [hc]
    · rw [take_more ha, List.filter_append, List.map_append]
      simp [hc]
  · rw [h, List.take_of_length_le (by rw [hn]; exact Nat.le_refl _)]
/-- rows that pass a test -/
theorem RowsR.filt {H : Hp} (c : List Int → Bool) : ∀ {xs : List V} {hss : List (List Int)}, RowsR H xs hss → RowsR H (((xs.zip hss).filter fun z => c z.2).map fun z => z.1) (hss.filter c)
  | _, _, .nil => .nil
  | _, _, .cons (a := x) (b := hs) q t => by
    have ih := RowsR.filt c t
    rw [List.zip_cons_cons]
    cases e : c hs with
    | false =>
      rw [List.filter_cons_of_neg (by simp [e]), List.filter_cons_of_neg (by simp [e])]
      exact ih
    | true =>
      rw [List.filter_cons_of_pos (by simp [e]), List.filter_cons_of_pos (by simp [e])]
      exact .cons q ih
theorem zip_at2 {α β : Type} {l : List α} {m : List β} {i : Nat} {z : α × β} (h : (l.zip m)[i]? = some z) : l[i]? = some z.1 ∧ m[i]? = some z.2 := by
  rw [List.getElem?_zip_eq_some] at h
  exact h
/-- tuple(s), s a list or a tuple -/
theorem tup_of {K : PySem.W.Frag} {H : Hp} {q : Bool × Addr} {xs : List V} {Q : VK} (h : SqH H q xs) (k : ∀ t H2, Ex H H2 → H2 t = some (.tup xs) → Q (.ref t) H2) : (SqL K H q.2 xs ∧ ∀ p, H p = none → Q (.ref p) (upd H p (.tup xs))) ∨ SqT K H q.2 xs ∧ Q (.ref q.2) H := by
  obtain ⟨b, a⟩ := q
  cases b
  · exact .inl ⟨SqL.of (show H a = some (.lst xs) from h), fun p hp => k p _ (exn hp) upd_same⟩
  · exact .inr ⟨SqT.of (show H a = some (.tup xs) from h), k a H exr h⟩
def rTupQ : List V → Hp → VK → Prop := fun vs H Q => ∃ (q : Bool × Addr) (xs : List V), vs = [.ref q.2] ∧ SqH H q xs ∧ ∀ t H2, Ex H H2 → H2 t = some (.tup xs) → Q (.ref t) H2
theorem call_tuple_q {X : Cx} : CallR X (.type "tuple") rTupQ := by
  intro pins s σ H vs us Q I r h
  obtain ⟨q, xs, rfl, hq, k⟩ := h
  exact call_tuple_of pins s σ H _ us Q I r ⟨q.2, xs, rfl, tup_of hq k⟩
theorem SqH.uniq {H : Hp} {q : Bool × Addr} {xs ys : List V} (h1 : SqH H q xs) (h2 : SqH H q ys) : xs = ys := by
  obtain ⟨b, a⟩ := q
  cases b
  · have e : some (HO.lst xs) = some (HO.lst ys) := (show H a = some (.lst xs) from h1).symm.trans (show H a = some (.lst ys) from h2)
    injection e with e
    injection e
  · have e : some (HO.tup xs) = some (HO.tup ys) := (show H a = some (.tup xs) from h1).symm.trans (show H a = some (.tup ys) from h2)
    injection e with e
    injection e
theorem RowsR.monoT {H H2 : Hp} (e : ∀ c xs, H c = some (.tup xs) → H2 c = some (.tup xs)) : ∀ {xs : List V} {hss : List (List Int)}, RowsR H xs hss → RowsR H2 xs hss
  | _, _, .nil => .nil
  | _, _, .cons ⟨r, h1, h2⟩ t => .cons ⟨r, h1, e _ _ h2⟩ (RowsR.monoT e t)

-- exceptions
/-- an error of the class at S is what «except S» names -/
theorem exm_self {K : PySem.W.Frag} {S : Addr} (h1 : PySem.W.subIn K (.ref S) (.type "BaseException") = some true) (h2 : PySem.W.isClsIn K S = true) (h3 : PySem.W.typeIn K (.ref S) = some (.type "type")) (h4 : PySem.W.subIn K (.ref S) (.ref S) = some true) :
    PySem.W.exmOne K (.ref S) (.ref S) = some true := by
  have e1 : (PySem.W.subIn K (.ref S) (.type "BaseException") == some true) = true := by rw [h1] <;> rfl
  have e2 : ((PySem.W.clsIn K S).isSome && PySem.W.typeIn K (.ref S) == some (.type "type")) = true := by
    have h2' : (PySem.W.clsIn K S).isSome = true := h2
    rw [h2', h3] <;> rfl
  show (if (PySem.W.subIn K (.ref S) (.type "BaseException") == some true) = true then (if ((PySem.W.clsIn K S).isSome && PySem.W.typeIn K (.ref S) == some (.type "type")) = true then PySem.W.subIn K (.ref S) (.ref S) else none) else none) = some true
  rw [if_pos e1, if_pos e2]
  exact h4
/-- what the first clause 'except x as n' wishes of an exception of the body that it takes: slot i is n's -/
def wAs1 (K : PySem.W.Frag) (c : Value) (i : Nat) (ts : Addr → Value → Option Addr → TS) (D : Ends) : WX := fun cls d σ H =>
  PySem.W.exmOne K cls c = some true ∧ ∀ a, H a = none → ts a cls d { nx := fun σ' H' => D.nx (σ'.set i none) H', rt := D.rt, bk := fun σ' H' => D.bk (σ'.set i none) H', ct := fun σ' H' => D.ct (σ'.set i none) H' } (σ.set i (some (.ref a))) H
/-- try, where the first clause takes what the body raises; what the other clauses are is all one -/
theorem ps_try_as1 {X : Cx} {x n : Str} {c : Value} {i : Nat} {body suite : List Stmt} {b₀ : Stmt} {np pos pos' : Pos} {hds : List ExceptHandler} {tb : WX → TS} {ts : Addr → Value → Option Addr → TS} (hs : X.stack = X.env :: X.outer) (hf : X.env.frame = some X.env.locals) (hN : X.N.Nodup) (hi : X.N[i]? = some n) (hln : X.env.kindOf n = some .local) (hc : Names X x c)
    (hb : ∀ (W : WX) (pn : List (Addr × Obj)) (xe : Value → Shared → Prop), Takes (X.tr pn xe) W → PassesOwn (model X.prog X.w) X.A X.env xe → PSs (X.tr pn xe) body (tb W))
    (hsu : ∀ (a : Addr) (oe : Obj) (cls : Value) (d : Option Addr) (pn : List (Addr × Obj)), Zc cls d oe → (∃ vs, oe.data = .fields vs) → PSs (X.suite a ((a, oe) :: pn)) (b₀ :: suite) (ts a cls d)) :
    PS X (.Try body (.ExceptHandler (some (.Name x np)) (some n) (b₀ :: suite) pos' :: hds) [] [] pos) (fun D σ H => tb (wAs1 X.K c i ts D) D σ H) := by
  refine ⟨fun pins s σ H D I h => ?_⟩
  have ok := I.ok
  have hfr : X.A.frames = some (X.env :: X.outer) := by rw [ok.frames, hs]
  have hloc : Loc X.env.scope n := .inl hln
  refine wpAny_Try_except ?_
  refine wpAny_mono ((hb (wAs1 X.K c i ts D) (X.pn ++ pins) (fun e s₁ => wpAny (model X.prog X.w) X.A (noteFrame e X.env) (fun _ s₂ => wpAny (model X.prog X.w) X.A (setFlight e none) (fun _ s₃ =>
    wpAny (model X.prog X.w) X.A (handleBy e X.env (.ExceptHandler (some (.Name x np)) (some n) (b₀ :: suite) pos' :: hds)) (SP X pins D) X.xe s₃) X.xe s₂) X.xe s₁) (fun u s' xx => ?_) PassesOwn.looking).run [] s σ H D (I.toTry _) h) (fun f s1 hsp => ?_) (fun e s1 he => he)
  · obtain ⟨a, B, sI, pins', σ', H', cls, d, rfl, J', nb, up, sky, na, os, ag, hb1, hyes⟩ := xx
    have J : Inv X pins σ' H' sI := J'.ofTry ok
    have sky' : Sky B (X.env :: X.outer) a (Zc cls d) X.env.locals s'.heap := by rw [← hs]; exact sky
    show wpAny (model X.prog X.w) X.A (noteFrame (.ref a) X.env) _ _ _
    refine Sky.land Zc.steady hfr hf sky' fun h3 fl3 up3 => ?_
    have J3 : Inv X pins σ' H' { s' with heap := h3 } := J.landed nb fl3.1 (up.trans up3) os ag
    obtain ⟨oe3, vs3, he3, hz3, hd3⟩ := fl3.there
    have notFr : ∀ {h : Heap} {o : Obj} {vs : Array Value}, h.FunFrames B (X.env :: X.outer) → h.get? a = some o → o.data = .fields vs → a ∉ frs (X.env :: X.outer) := fun {h o vs} ff e dd hm => by
      obtain ⟨_, o', e', hnf⟩ := ff.mem hm
      rw [e] at e'; cases e'
      exact hnf _ dd
    have nfr := notFr fl3.2.2.1 he3 hd3
    have nL : a ≠ X.env.locals := fun z => nfr (List.mem_filterMap.mpr ⟨X.env, List.mem_cons_self, by rw [hf, z]⟩)
    have nF : a ∉ X.fs := fun hm => by
      obtain ⟨e, he, q⟩ := List.mem_filterMap.mp hm
      exact nfr (List.mem_filterMap.mpr ⟨e, List.mem_cons_of_mem _ he, q⟩)
    have S3 := J3.suite he3 hd3 na nL nF
    refine wpAny_handleBy_cons (codeAny_handlers_test ?_) (by intro q; cases q)
    have LT : PySem.W.Looks (model X.prog X.w) h3 (typeOf (.ref a)) cls := fun A Q E s k q => wpAny_typeOf_ref (k _ _ he3) (by rw [hz3.1]; exact q)
    have LM := PySem.W.exm_one (M := model X.prog X.w) (J3.kIn) LT hb1
    have test : ∀ {Q : Value → Shared → Prop} {E : Value → Shared → Prop}, Q c { s' with heap := h3 } → wpAny (model X.prog X.w) (X.A.mark (some (.ref a))) (eval (.Name x np) X.env) Q E { s' with heap := h3 } := fun {Q E} q => by
      obtain ⟨hg, hdbg, hm | ⟨hm, hv, hnn⟩⟩ := hc
      · exact ld_glob (X := X.suite a ((a, oe3) :: (X.pn ++ pins))) S3 hg hm q hdbg
      · exact ld_blt (X := X.suite a ((a, oe3) :: (X.pn ++ pins))) S3 hg hm hv q hnn hdbg
    refine test (LM.here ?_)
    refine codeAny_handlers_suite_as ?_
    refine HandSPX.lands_againZ fl3 fun h4 fl4 up4 => ?_
    have J4 : Inv X pins σ' H' { s' with heap := h4 } := J.landed nb fl4.1 ((up.trans up3).trans up4) os ag
    obtain ⟨oe4, vs4, he4, hz4, hd4⟩ := fl4.there
    have S4 := J4.suite he4 hd4 na nL nF
    refine store_ok (X := X.suite a ((a, oe4) :: (X.pn ++ pins))) (v := .ref a) S4 hN hi hloc rfl (fun s5 S5 => ?_) (.inr hln)
    refine wpAny_mono ((hsu a oe4 cls d (X.pn ++ pins) hz4 ⟨_, hd4⟩).run [] s5 _ H' _ S5 (hyes a na)) (fun f s6 hsp => ?_) (fun _ _ z => False.elim z)
    have end_ : ∀ {σ6 : L2.St} {H6 : Hp} {Q : Shared → Prop}, Inv (X.suite a ((a, oe4) :: (X.pn ++ pins))) [] σ6 H6 s6 → (∀ s7, Inv X pins (σ6.set i none) H6 s7 → Q s7) →
        wpAny (model X.prog X.w) X.A (do bindName X.env n .none; unbindBehindTheSuite X.env n pos') (fun _ s7 => Q s7) X.xe s6 := fun {σ6 H6 Q} S6 hq => gone_ok (S6.unsuite ok) hN hi hln hq
    cases f with
    | next =>
      obtain ⟨σ6, H6, S6, q6⟩ := hsp
      exact end_ S6 fun s7 J7 => ⟨_, _, J7, q6⟩
    | brk =>
      obtain ⟨σ6, H6, S6, q6⟩ := hsp
      exact end_ S6 fun s7 J7 => ⟨_, _, J7, q6⟩
    | cont =>
      obtain ⟨σ6, H6, S6, q6⟩ := hsp
      exact end_ S6 fun s7 J7 => ⟨_, _, J7, q6⟩
    | ret u =>
      obtain ⟨v6, σ6, H6, S6, r6, q6⟩ := hsp
      exact end_ S6 fun s7 J7 => ⟨_, _, _, J7, r6, q6⟩
  · cases f with
    | next =>
      obtain ⟨σ', H', J', q⟩ := hsp
      exact wpAny_execs_nil ⟨σ', H', J'.ofTry ok, q⟩
    | brk =>
      obtain ⟨σ', H', J', q⟩ := hsp
      exact ⟨σ', H', J'.ofTry ok, q⟩
    | cont =>
      obtain ⟨σ', H', J', q⟩ := hsp
      exact ⟨σ', H', J'.ofTry ok, q⟩
    | ret u =>
      obtain ⟨v, σ', H', J', r, q⟩ := hsp
      exact ⟨v, σ', H', J'.ofTry ok, r, q⟩

-- exceptions of a class under the one that the clause names; a method that raises inside of try
/-- an error of a class S under B is what «except B» names -/
theorem exm_base {K : PySem.W.Frag} {S B : Addr} (h1 : PySem.W.subIn K (.ref B) (.type "BaseException") = some true) (h2 : PySem.W.isClsIn K B = true) (h3 : PySem.W.typeIn K (.ref B) = some (.type "type")) (h4 : PySem.W.subIn K (.ref S) (.ref B) = some true) :
    PySem.W.exmOne K (.ref S) (.ref B) = some true := by
  have e1 : (PySem.W.subIn K (.ref B) (.type "BaseException") == some true) = true := by rw [h1] <;> rfl
  have e2 : ((PySem.W.clsIn K B).isSome && PySem.W.typeIn K (.ref B) == some (.type "type")) = true := by
    have h2' : (PySem.W.clsIn K B).isSome = true := h2
    rw [h2', h3] <;> rfl
  show (if (PySem.W.subIn K (.ref B) (.type "BaseException") == some true) = true then (if ((PySem.W.clsIn K B).isSome && PySem.W.typeIn K (.ref B) == some (.type "type")) = true then PySem.W.subIn K (.ref S) (.ref B) else none) else none) = some true
  rw [if_pos e1, if_pos e2]
  exact h4
/-- o.m(e, ..), which may raise; what it lets out is told at the slots -/
def tMethP (C : Addr) (m : Str) (sp : Sp) (E : L2.St → XK) (ta : TE) (t : TA) : TE := fun σ H Q => ta σ H fun x H1 => ∃ a dx fs, x = .ref a ∧ H1 a = some (.ins C dx fs) ∧ fs.lookup m = none ∧ t σ H1 fun vs H2 => sp (.ref a :: vs) H2 Q (E σ)
theorem pe_methP {X : Cx} {CX : CXT} {k : Nat} {f C : Addr} {fd : FuncData} {ps : List Str} {sp : Sp} {E : L2.St → XK} {m : Str} {pos apos : Pos} {e o : Expr} {es : List Expr} {ta : TE} {t : TA} {pl : Sem Bool} (he : PE X o ta) (c : Cls X.K C) (hm : Meth X.K C m f) (F : FnOk X.prog X.w X.K X.mg X.base CX k f fd ps sp) (hr : Room k X.A) (hb : Binds X.K fd ps []) (hx : ∀ σ, PassesAt CX X σ (E σ)) (ha : PA X (e :: es) t)
    (hst : starEach (e :: es) X.env = (false, eval e X.env) :: starEach es X.env := by rfl) (hpl : (backTo pos (starEach es X.env)).any (·.1) = false := by rfl)
    (ht : eval (.Call (.Attribute o m apos) (e :: es) [] pos) X.env = (do
      let ov ← eval o X.env
      standAt apos.atName
      let (f, first) ← holding [ov] (getMethod ov m pl)
      callWith pos f first (backTo pos (starEach (e :: es) X.env)) (backToKw pos (keywordEach [] X.env))) := by rfl) :
    PE X (.Call (.Attribute o m apos) (e :: es) [] pos) (tMethP C m sp E ta t) := by
  refine ⟨fun pins s σ H Q I h => ?_⟩
  refine PySem.W.methodCall_KW (pl := pl) (thn (he.run pins s σ H _ I h) fun u s1 ⟨x, H1, I1, rx, a, dx, fs, ex, ea, l, q⟩ => ?_) ht
  subst ex
  obtain rfl : u = Value.ref a := rx
  refine getmeth_ok I1 ea c hm l ?_
  refine PySem.W.callWith_K (first := [.ref a]) (h₀ := X.base) I.ok.mod.kin hm.kp (thn (ha.run pos pins s1 σ H1 _ I1 q) fun us s2 ⟨vs, H2, I2, r, q2⟩ => ⟨I2.kIn, ?_⟩) hst hpl
  exact run_fnS (us := .ref a :: us) (vs := .ref a :: vs) F hr hb (hx σ) I2 (.cons rfl r) q2

/-- a source of draws stands at s -/
def Src (H : Hp) (s : Addr) : Prop := ∃ a b c : Int, H s = some (.lst [.int a, .int b, .int c])
theorem Src.mono {s : Addr} {H H2 : Hp} (e : Ex H H2) (h : Src H s) : Src H2 s := by
  obtain ⟨a, b, c, h⟩ := h
  exact ⟨a, b, c, e _ _ h⟩
theorem Src.ne {s p : Addr} {H : Hp} (h : Src H s) (hp : H p = none) : p ≠ s := by
  obtain ⟨a, b, c, h⟩ := h
  exact (ne_of_none h hp).symm
theorem Src.new {s p : Addr} {H : Hp} {o : HO} (h : Src H s) (hp : H p = none) : Src (upd H p o) s := Src.mono (exn hp) h
section
variable {P : Program} {w : World} {K : PySem.W.Frag} {mg : Str → Option Value} {base : Heap}
def sp_law_mixed : Sp := fun vs H Q _ => ∃ c d : Int, vs = [.int c, .int d] ∧ ∀ r : Int, 0 ≤ r → r < 2147483563 → Q (.int r) H
theorem ok_law_mixed (T : TX K mg) : FnOk P w K mg base CX0 1 T.f_law_mixed T.fd_law_mixed ["_law_cell", "_law_draw"] sp_law_mixed := by
  refine T.F_law_mixed.ok sc_law_mixed (fun vs H Q E h => ?_) (fun cdv A outer s H vs Q E hr h => ?_)
  · obtain ⟨c, d, rfl, _⟩ := h
    rfl
  · obtain ⟨c, d, rfl, k⟩ := h
    refine ⟨_, (pss_cons (ps_set (i := 2) sc_law_mixed.nd rfl (Or.inl rfl) (pe_op op_mod (pe_op op_mulI (pe_op op_add (pe_op op_mod (pv 0) pe_int) pe_int) (pe_op op_add (pe_op op_mulI (pv 1) pe_int) pe_int)) pe_int)) (pss_cons (ps_set (i := 2) sc_law_mixed.nd rfl (Or.inl rfl) (pe_op op_mod (pe_op op_mulI (pe_op op_add (pv 2) (pe_op op_mulI (pe_op op_mod (pe_op op_fdivW (pv 0) pe_int) pe_int) (pe_op op_add (pv 1) pe_int))) pe_int) pe_int)) (pss_cons (ps_set (i := 2) sc_law_mixed.nd rfl (Or.inl rfl) (pe_op op_mod (pe_op op_mulI (pv 2) (pe_op op_add (pe_op op_add (pe_op op_fdivW (pv 2) pe_int) pe_int) (pv 1))) pe_int)) (pss_one (ps_ret (pe_op op_mod (pe_op op_mulI (pv 2) (pe_op op_add (pe_op op_fdivW (pv 2) pe_int) pe_int)) pe_int)))))), ?_⟩
    have a1 := mod_lo (i := c) (n := 2147483646) (by decide)
    have a2 := mod_hi (i := c) (n := 2147483646) (by decide)
    refine ⟨_, rfl, _, _, rfl, rfl, (by show (0 : Int) < _; decide), _, _, rfl, rfl, _, rfl, _, _, rfl, rfl, mul_ok (.inr (by decide)), _, _, rfl, rfl, _, _, rfl, rfl, mul_ok (.inl (by omega)), _, _, rfl, rfl, (by show (0 : Int) < _; decide), ?_⟩
    generalize (c % 2147483646 + 1) * (d * 7919 + 104729) % 2147483647 = n1
    have b1 := mod_lo (i := c / 2147483646) (n := 1000003) (by decide)
    have b2 := mod_hi (i := c / 2147483646) (n := 1000003) (by decide)
    refine ⟨_, rfl, _, rfl, _, _, rfl, rfl, ⟨by decide, by decide +kernel⟩, _, _, rfl, rfl, (by show (0 : Int) < _; decide), _, rfl, _, _, rfl, rfl, _, _, rfl, rfl, mul_ok (.inl (by omega)), _, _, rfl, rfl, _, _, rfl, rfl, mul_ok (.inr (by decide)), _, _, rfl, rfl, (by show (0 : Int) < _; decide), ?_⟩
    have c1 := mod_lo (i := (n1 + c / 2147483646 % 1000003 * (d + 31)) * 48271) (n := 2147483629) (by decide)
    have c2 := mod_hi (i := (n1 + c / 2147483646 % 1000003 * (d + 31)) * 48271) (n := 2147483629) (by decide)
    generalize (n1 + c / 2147483646 % 1000003 * (d + 31)) * 48271 % 2147483629 = n2 at c1 c2
    refine ⟨_, rfl, _, rfl, _, _, rfl, rfl, ⟨by decide, by decide +kernel⟩, _, _, rfl, rfl, _, rfl, _, _, rfl, rfl, _, _, rfl, rfl, mul_ok (.inl (by omega)), _, _, rfl, rfl, (by show (0 : Int) < _; decide), ?_⟩
    have d1 := mod_lo (i := n2 * (n2 / 1013 + 69621 + d)) (n := 2147483587) (by decide)
    have d2 := mod_hi (i := n2 * (n2 / 1013 + 69621 + d)) (n := 2147483587) (by decide)
    generalize n2 * (n2 / 1013 + 69621 + d) % 2147483587 = n3 at d1 d2
    exact ⟨_, rfl, _, rfl, _, _, rfl, rfl, ⟨by decide, by decide +kernel⟩, _, _, rfl, rfl, _, _, rfl, rfl, mul_ok (.inl (by omega)), _, _, rfl, rfl, (by show (0 : Int) < _; decide), k _ (mod_lo (by decide)) (mod_hi (by decide))⟩
def sp_law_source : Sp := fun vs H Q _ => ∃ c : Int, vs = [.int c] ∧ ∀ H2 s, Ex H H2 → H s = none → Src H2 s → Q (.ref s) H2
theorem ok_law_source (T : TX K mg) : FnOk P w K mg base CX0 1 T.f_law_source T.fd_law_source ["_law_cell"] sp_law_source := by
  refine T.F_law_source.ok sc_law_source (fun vs H Q E h => ?_) (fun cdv A outer s H vs Q E hr h => ?_)
  · obtain ⟨c, rfl, _⟩ := h
    rfl
  · obtain ⟨c, rfl, k⟩ := h
    exact ⟨_, (pss_one (ps_ret (pe_lst (pa_cons (pv 0) (pa_cons (pv 0) (pa_cons pe_int pa_nil)))))), ⟨_, rfl, _, rfl, (by show 3 ≤ sizeLine; decide), fun s hs => k _ s (exn hs) hs ⟨c, c, 0, upd_same⟩⟩⟩
def sp_law_take : Sp := fun vs H Q _ => ∃ (s : Addr) (n : Int), vs = [.ref s, .int n] ∧ Src H s ∧ 0 < n ∧ n.natAbs < 2 ^ 8000 ∧ ∀ r H2, 0 ≤ r → r < n → XB s H H2 → Src H2 s → Q (.int r) H2
theorem ok_law_take (T : TX K mg) : FnOk P w K mg base CX0 2 T.f_law_take T.fd_law_take ["_law_source_here", "_law_count"] sp_law_take := by
  refine T.F_law_take.ok sc_law_take (fun vs H Q E h => ?_) (fun cdv A outer s H vs Q E hr h => ?_)
  · obtain ⟨s, n, rfl, _⟩ := h
    rfl
  · obtain ⟨s, n, rfl, ⟨a, b, c, hs⟩, h0, hb, k⟩ := h
    refine ⟨_, (pss_cons (ps_if (pt_cmpR op_ge (pe_ix ix_list (pv 0) pe_int (fun _ _ => rfl)) (pe_op op_pow pe_int pe_int) (nomark _)) (pss_cons (ps_set (i := 2) sc_law_take.nd rfl (Or.inl rfl) (pe_op op_mod (pe_ix ix_list (pv 0) pe_int (fun _ _ => rfl)) (pv 1))) (pss_cons (ps_asg (pe_op op_fdivW (pe_ix ix_list (pv 0) pe_int (fun _ _ => rfl)) (pv 1)) (pg_sub (pv 0) pe_int set_list)) (pss_one (ps_ret (pv 2))))) pss_nil) (pss_cons (ps_asg (pe_op op_add (pe_ix ix_list (pv 0) pe_int (fun _ _ => rfl)) pe_int) (pg_sub (pv 0) pe_int set_list)) (pss_one (ps_ret (pe_op op_mod (pe_call (ok_law_mixed T) hr rfl T.m_law_mixed T.F_law_mixed.kp T.b_law_mixed .nil pass0 (pa_cons (pe_ix ix_list (pv 0) pe_int (fun _ _ => rfl)) (pa_cons (pe_ix ix_list (pv 0) pe_int (fun _ _ => rfl)) pa_nil))) (pv 1)))))), ?_⟩
    refine ⟨_, rfl, s, _, _, _, rfl, rfl, SqL.of hs, rfl, _, _, rfl, rfl, ⟨by decide, by decide, by decide⟩, _, _, rfl, rfl, _, rfl, ?_⟩
    refine ite2 (fun _ => ?_) (fun _ => ?_)
    · refine ⟨_, rfl, s, _, _, _, rfl, rfl, SqL.of hs, rfl, _, rfl, _, _, rfl, rfl, h0, ?_⟩
      refine ⟨_, rfl, s, _, _, _, rfl, rfl, SqL.of hs, rfl, _, rfl, _, _, rfl, rfl, wide_div h0 hb (by decide) (by decide), _, rfl, s, _, _, 0, rfl, rfl, hs, rfl, ?_⟩
      exact ⟨_, rfl, k _ _ (mod_lo h0) (mod_hi h0) XB.upd ⟨_, _, _, upd_same⟩⟩
    · refine ⟨_, rfl, s, _, _, _, rfl, rfl, SqL.of hs, rfl, _, _, rfl, rfl, _, rfl, s, _, _, 2, rfl, rfl, hs, rfl, ?_⟩
      refine ⟨_, rfl, s, _, _, _, rfl, rfl, SqL.of upd_same, rfl, _, rfl, s, _, _, _, rfl, rfl, SqL.of upd_same, rfl, _, _, rfl, fun r _ _ => ?_⟩
      exact ⟨_, rfl, _, _, rfl, rfl, h0, k _ _ (mod_lo h0) (mod_hi h0) XB.upd ⟨_, _, _, upd_same⟩⟩
end

/-- an exception with one field -/
def sp_exi (C : Addr) (f : Str) : Sp := fun vs H Q _ => ∃ (a : Addr) (x : V), vs = [.ref a, x] ∧ H a = some (exo a C none) ∧ ∀ dx, H dx = none → dx ≠ a → Q .non (upd (upd H dx (exd dx [(f, x)])) a (exo a C (some dx)))
theorem exc_made {H : Hp} {a C : Addr} {f : Str} {x : V} {E E1 : XK} (na : H a = none) (k : ∀ d H2, Ex H H2 → H2 d = some (.xd [(f, x)]) → E (.ref C) (some d) H2) :
    sp_exi C f [.ref a, x] (upd H a (exo a C none)) (fun v H2 => v = .non ∧ ∃ (d : Addr) (fs : List (Str × V)), H2 a = some (exo a C (some d)) ∧ H2 d = some (exd d fs) ∧ H d = none ∧ E (.ref C) (some d) (upd (del H2 a) d (.xd fs))) E1 := by
  refine ⟨a, x, rfl, upd_same, fun dx hd ne => ⟨rfl, dx, _, upd_same, by rw [upd_ne ne, upd_same], by rw [upd_ne ne] at hd; exact hd, k _ _ (fun c o hc => ?_) upd_same⟩⟩
  have ca : c ≠ a := ne_of_none hc na
  have cd : c ≠ dx := ne_of_none hc (by rw [upd_ne ne] at hd; exact hd)
  rw [upd_ne cd, del_ne ca, upd_ne ca, upd_ne cd, upd_ne ca]
  exact hc

/-- an error of one field, made to be a value -/
theorem exc_val {H : Hp} {a C : Addr} {f : Str} {x : V} {R : VK} {E1 : XK} (na : H a = none) (k : ∀ H2, Ex H H2 → CG.XVal H2 C f x (.ref a) → R .non H2) :
    sp_exi C f [.ref a, x] (upd H a (exo a C none)) R E1 := by
  refine ⟨a, x, rfl, upd_same, fun dx hd ne => k _ (fun c o hc => ?_) ⟨a, dx, rfl, upd_same, by rw [upd_ne ne, upd_same]⟩⟩
  have ca : c ≠ a := ne_of_none hc na
  have cd : c ≠ dx := ne_of_none hc (by rw [upd_ne ne] at hd; exact hd)
  rw [upd_ne ca, upd_ne cd, upd_ne ca]
  exact hc

section
variable {P : Program} {w : World} {K : PySem.W.Frag} {mg : Str → Option Value} {base : Heap}
theorem ok_InvalidTable_init (T : TX K mg) : FnOk P w K mg base CX0 1 T.f_InvalidTable_init T.fd_InvalidTable_init ["self", "rings"] (sp_exi T.C_InvalidTable "rings") := by
  refine T.F_InvalidTable_init.ok sc_InvalidTable_init (fun vs H Q E h => ?_) (fun cdv A outer s H vs Q E hr h => ?_)
  · obtain ⟨a, x, rfl, _⟩ := h
    rfl
  · obtain ⟨a, x, rfl, ha, k⟩ := h
    refine ⟨_, (pss_one (ps_ost (pv 0) (pv 1))), ?_⟩
    exact ⟨_, rfl, _, rfl, a, _, rfl, T.ox_InvalidTable, T.n_InvalidTable_rings, .inl ⟨ha, fun dx n ne => k dx n ne⟩⟩
end

section
variable {P : Program} {w : World} {K : PySem.W.Frag} {mg : Str → Option Value} {base : Heap}
theorem ok_InvalidTargets_init (T : TX K mg) : FnOk P w K mg base CX0 1 T.f_InvalidTargets_init T.fd_InvalidTargets_init ["self", "index"] (sp_exi T.C_InvalidTargets "index") := by
  refine T.F_InvalidTargets_init.ok sc_InvalidTargets_init (fun vs H Q E h => ?_) (fun cdv A outer s H vs Q E hr h => ?_)
  · obtain ⟨a, x, rfl, _⟩ := h
    rfl
  · obtain ⟨a, x, rfl, ha, k⟩ := h
    refine ⟨_, (pss_one (ps_ost (pv 0) (pv 1))), ?_⟩
    exact ⟨_, rfl, _, rfl, a, _, rfl, T.ox_InvalidTargets, T.n_InvalidTargets_index, .inl ⟨ha, fun dx n ne => k dx n ne⟩⟩
end

section
variable {P : Program} {w : World} {K : PySem.W.Frag} {mg : Str → Option Value} {base : Heap}
theorem ok_InvalidSeat_init (T : TX K mg) : FnOk P w K mg base CX0 1 T.f_InvalidSeat_init T.fd_InvalidSeat_init ["self", "seat"] (sp_exi T.C_InvalidSeat "seat") := by
  refine T.F_InvalidSeat_init.ok sc_InvalidSeat_init (fun vs H Q E h => ?_) (fun cdv A outer s H vs Q E hr h => ?_)
  · obtain ⟨a, x, rfl, _⟩ := h
    rfl
  · obtain ⟨a, x, rfl, ha, k⟩ := h
    refine ⟨_, (pss_one (ps_ost (pv 0) (pv 1))), ?_⟩
    exact ⟨_, rfl, _, rfl, a, _, rfl, T.ox_InvalidSeat, T.n_InvalidSeat_seat, .inl ⟨ha, fun dx n ne => k dx n ne⟩⟩
end

section
variable {P : Program} {w : World} {K : PySem.W.Frag} {mg : Str → Option Value} {base : Heap}
theorem ok_InvalidCall_init (T : TX K mg) : FnOk P w K mg base CX0 1 T.f_InvalidCall_init T.fd_InvalidCall_init ["self", "call"] (sp_exi T.C_InvalidCall "call") := by
  refine T.F_InvalidCall_init.ok sc_InvalidCall_init (fun vs H Q E h => ?_) (fun cdv A outer s H vs Q E hr h => ?_)
  · obtain ⟨a, x, rfl, _⟩ := h
    rfl
  · obtain ⟨a, x, rfl, ha, k⟩ := h
    refine ⟨_, (pss_one (ps_ost (pv 0) (pv 1))), ?_⟩
    exact ⟨_, rfl, _, rfl, a, _, rfl, T.ox_InvalidCall, T.n_InvalidCall_call, .inl ⟨ha, fun dx n ne => k dx n ne⟩⟩
end

section
variable {P : Program} {w : World} {K : PySem.W.Frag} {mg : Str → Option Value} {base : Heap}
theorem ok_InvalidDirection_init (T : TX K mg) : FnOk P w K mg base CX0 1 T.f_InvalidDirection_init T.fd_InvalidDirection_init ["self", "direction"] (sp_exi T.C_InvalidDirection "direction") := by
  refine T.F_InvalidDirection_init.ok sc_InvalidDirection_init (fun vs H Q E h => ?_) (fun cdv A outer s H vs Q E hr h => ?_)
  · obtain ⟨a, x, rfl, _⟩ := h
    rfl
  · obtain ⟨a, x, rfl, ha, k⟩ := h
    refine ⟨_, (pss_one (ps_ost (pv 0) (pv 1))), ?_⟩
    exact ⟨_, rfl, _, rfl, a, _, rfl, T.ox_InvalidDirection, T.n_InvalidDirection_direction, .inl ⟨ha, fun dx n ne => k dx n ne⟩⟩
end

section
variable {P : Program} {w : World} {K : PySem.W.Frag} {mg : Str → Option Value} {base : Heap}
theorem ok_InvalidWitness_init (T : TX K mg) : FnOk P w K mg base CX0 1 T.f_InvalidWitness_init T.fd_InvalidWitness_init ["self", "index"] (sp_exi T.C_InvalidWitness "index") := by
  refine T.F_InvalidWitness_init.ok sc_InvalidWitness_init (fun vs H Q E h => ?_) (fun cdv A outer s H vs Q E hr h => ?_)
  · obtain ⟨a, x, rfl, _⟩ := h
    rfl
  · obtain ⟨a, x, rfl, ha, k⟩ := h
    refine ⟨_, (pss_one (ps_ost (pv 0) (pv 1))), ?_⟩
    exact ⟨_, rfl, _, rfl, a, _, rfl, T.ox_InvalidWitness, T.n_InvalidWitness_index, .inl ⟨ha, fun dx n ne => k dx n ne⟩⟩
end

section
variable {P : Program} {w : World} {K : PySem.W.Frag} {mg : Str → Option Value} {base : Heap}
theorem ok_InvalidNumber_init (T : TX K mg) : FnOk P w K mg base CX0 1 T.f_InvalidNumber_init T.fd_InvalidNumber_init ["self", "name"] (sp_exi T.C_InvalidNumber "name") := by
  refine T.F_InvalidNumber_init.ok sc_InvalidNumber_init (fun vs H Q E h => ?_) (fun cdv A outer s H vs Q E hr h => ?_)
  · obtain ⟨a, x, rfl, _⟩ := h
    rfl
  · obtain ⟨a, x, rfl, ha, k⟩ := h
    refine ⟨_, (pss_one (ps_ost (pv 0) (pv 1))), ?_⟩
    exact ⟨_, rfl, _, rfl, a, _, rfl, T.ox_InvalidNumber, T.n_InvalidNumber_name, .inl ⟨ha, fun dx n ne => k dx n ne⟩⟩
end

section
variable {P : Program} {w : World} {K : PySem.W.Frag} {mg : Str → Option Value} {base : Heap}
theorem ok_InvalidMoves_init (T : TX K mg) : FnOk P w K mg base CX0 1 T.f_InvalidMoves_init T.fd_InvalidMoves_init ["self", "index"] (sp_exi T.C_InvalidMoves "index") := by
  refine T.F_InvalidMoves_init.ok sc_InvalidMoves_init (fun vs H Q E h => ?_) (fun cdv A outer s H vs Q E hr h => ?_)
  · obtain ⟨a, x, rfl, _⟩ := h
    rfl
  · obtain ⟨a, x, rfl, ha, k⟩ := h
    refine ⟨_, (pss_one (ps_ost (pv 0) (pv 1))), ?_⟩
    exact ⟨_, rfl, _, rfl, a, _, rfl, T.ox_InvalidMoves, T.n_InvalidMoves_index, .inl ⟨ha, fun dx n ne => k dx n ne⟩⟩
end

section
variable {P : Program} {w : World} {K : PySem.W.Frag} {mg : Str → Option Value} {base : Heap}
theorem ok_InvalidStrategy_init (T : TX K mg) : FnOk P w K mg base CX0 1 T.f_InvalidStrategy_init T.fd_InvalidStrategy_init ["self", "strategy"] (sp_exi T.C_InvalidStrategy "strategy") := by
  refine T.F_InvalidStrategy_init.ok sc_InvalidStrategy_init (fun vs H Q E h => ?_) (fun cdv A outer s H vs Q E hr h => ?_)
  · obtain ⟨a, x, rfl, _⟩ := h
    rfl
  · obtain ⟨a, x, rfl, ha, k⟩ := h
    refine ⟨_, (pss_one (ps_ost (pv 0) (pv 1))), ?_⟩
    exact ⟨_, rfl, _, rfl, a, _, rfl, T.ox_InvalidStrategy, T.n_InvalidStrategy_strategy, .inl ⟨ha, fun dx n ne => k dx n ne⟩⟩
end

section
variable {P : Program} {w : World} {K : PySem.W.Frag} {mg : Str → Option Value} {base : Heap}
theorem ok_Mismatch_init (T : TX K mg) : FnOk P w K mg base CX0 1 T.f_Mismatch_init T.fd_Mismatch_init ["self", "name"] (sp_exi T.C_Mismatch "name") := by
  refine T.F_Mismatch_init.ok sc_Mismatch_init (fun vs H Q E h => ?_) (fun cdv A outer s H vs Q E hr h => ?_)
  · obtain ⟨a, x, rfl, _⟩ := h
    rfl
  · obtain ⟨a, x, rfl, ha, k⟩ := h
    refine ⟨_, (pss_one (ps_ost (pv 0) (pv 1))), ?_⟩
    exact ⟨_, rfl, _, rfl, a, _, rfl, T.ox_Mismatch, T.n_Mismatch_name, .inl ⟨ha, fun dx n ne => k dx n ne⟩⟩
end

section
variable {P : Program} {w : World} {K : PySem.W.Frag} {mg : Str → Option Value} {base : Heap}
theorem ok_TooLarge_init (T : TX K mg) : FnOk P w K mg base CX0 1 T.f_TooLarge_init T.fd_TooLarge_init ["self", "limit"] (sp_exi T.C_TooLarge "limit") := by
  refine T.F_TooLarge_init.ok sc_TooLarge_init (fun vs H Q E h => ?_) (fun cdv A outer s H vs Q E hr h => ?_)
  · obtain ⟨a, x, rfl, _⟩ := h
    rfl
  · obtain ⟨a, x, rfl, ha, k⟩ := h
    refine ⟨_, (pss_one (ps_ost (pv 0) (pv 1))), ?_⟩
    exact ⟨_, rfl, _, rfl, a, _, rfl, T.ox_TooLarge, T.n_TooLarge_limit, .inl ⟨ha, fun dx n ne => k dx n ne⟩⟩
end

/-- the error classes in the order of the law, each with its field -/
def errC {K : PySem.W.Frag} {mg : Str → Option Value} (T : TX K mg) : List (Addr × Str) := [(T.C_InvalidTable, "rings"), (T.C_InvalidTargets, "index"), (T.C_InvalidSeat, "seat"), (T.C_InvalidCall, "call"), (T.C_InvalidDirection, "direction"), (T.C_InvalidWitness, "index"), (T.C_InvalidNumber, "name"), (T.C_InvalidMoves, "index"), (T.C_InvalidStrategy, "strategy"), (T.C_Mismatch, "name"), (T.C_TooLarge, "limit")]
structure KindX {K : PySem.W.Frag} {mg : Str → Option Value} (T : TX K mg) (i : Nat) (C : Addr) (f : Str) : Prop where
  lt : i < 11
  xi : CG.ExcI K C
  xf : XfC K C
  free : PySem.W.findIn K (.ref C) f = some none
  k0 : PySem.W.kitOne K (.ref C) (.ref T.C_InvalidTable) = some (decide (i = 0))
  k1 : PySem.W.kitOne K (.ref C) (.ref T.C_InvalidTargets) = some (decide (i = 1))
  k2 : PySem.W.kitOne K (.ref C) (.ref T.C_InvalidSeat) = some (decide (i = 2))
  k3 : PySem.W.kitOne K (.ref C) (.ref T.C_InvalidCall) = some (decide (i = 3))
  k4 : PySem.W.kitOne K (.ref C) (.ref T.C_InvalidDirection) = some (decide (i = 4))
  k5 : PySem.W.kitOne K (.ref C) (.ref T.C_InvalidWitness) = some (decide (i = 5))
  k6 : PySem.W.kitOne K (.ref C) (.ref T.C_InvalidNumber) = some (decide (i = 6))
  k7 : PySem.W.kitOne K (.ref C) (.ref T.C_InvalidMoves) = some (decide (i = 7))
  k8 : PySem.W.kitOne K (.ref C) (.ref T.C_InvalidStrategy) = some (decide (i = 8))
  k9 : PySem.W.kitOne K (.ref C) (.ref T.C_Mismatch) = some (decide (i = 9))
  k10 : PySem.W.kitOne K (.ref C) (.ref T.C_TooLarge) = some (decide (i = 10))
  kS : PySem.W.kitOne K (.ref C) (.ref T.C_SeatError) = some true
  kV : PySem.W.kitOne K (.ref C) (.type "ValueError") = some true
theorem kind_of {K : PySem.W.Frag} {mg : Str → Option Value} (T : TX K mg) : ∀ {i : Nat} {C : Addr} {f : Str}, (errC T)[i]? = some (C, f) → KindX T i C f
  | 0, _, _, h => by
    obtain ⟨rfl, rfl⟩ := Prod.mk.inj (Option.some.inj h)
    exact ⟨by decide, T.xi_InvalidTable, T.xf_InvalidTable, T.n_InvalidTable_rings, CS.kit_self, CG.kit1 T.ki_InvalidTable_InvalidTargets, CG.kit1 T.ki_InvalidTable_InvalidSeat, CG.kit1 T.ki_InvalidTable_InvalidCall, CG.kit1 T.ki_InvalidTable_InvalidDirection, CG.kit1 T.ki_InvalidTable_InvalidWitness, CG.kit1 T.ki_InvalidTable_InvalidNumber, CG.kit1 T.ki_InvalidTable_InvalidMoves, CG.kit1 T.ki_InvalidTable_InvalidStrategy, CG.kit1 T.ki_InvalidTable_Mismatch, CG.kit1 T.ki_InvalidTable_TooLarge, CG.kit1 T.ki_InvalidTable_SeatError, CG.kit1 T.ki_InvalidTable_ValueError⟩
  | 1, _, _, h => by
    obtain ⟨rfl, rfl⟩ := Prod.mk.inj (Option.some.inj h)
    exact ⟨by decide, T.xi_InvalidTargets, T.xf_InvalidTargets, T.n_InvalidTargets_index, CG.kit1 T.ki_InvalidTargets_InvalidTable, CS.kit_self, CG.kit1 T.ki_InvalidTargets_InvalidSeat, CG.kit1 T.ki_InvalidTargets_InvalidCall, CG.kit1 T.ki_InvalidTargets_InvalidDirection, CG.kit1 T.ki_InvalidTargets_InvalidWitness, CG.kit1 T.ki_InvalidTargets_InvalidNumber, CG.kit1 T.ki_InvalidTargets_InvalidMoves, CG.kit1 T.ki_InvalidTargets_InvalidStrategy, CG.kit1 T.ki_InvalidTargets_Mismatch, CG.kit1 T.ki_InvalidTargets_TooLarge, CG.kit1 T.ki_InvalidTargets_SeatError, CG.kit1 T.ki_InvalidTargets_ValueError⟩
  | 2, _, _, h => by
    obtain ⟨rfl, rfl⟩ := Prod.mk.inj (Option.some.inj h)
    exact ⟨by decide, T.xi_InvalidSeat, T.xf_InvalidSeat, T.n_InvalidSeat_seat, CG.kit1 T.ki_InvalidSeat_InvalidTable, CG.kit1 T.ki_InvalidSeat_InvalidTargets, CS.kit_self, CG.kit1 T.ki_InvalidSeat_InvalidCall, CG.kit1 T.ki_InvalidSeat_InvalidDirection, CG.kit1 T.ki_InvalidSeat_InvalidWitness, CG.kit1 T.ki_InvalidSeat_InvalidNumber, CG.kit1 T.ki_InvalidSeat_InvalidMoves, CG.kit1 T.ki_InvalidSeat_InvalidStrategy, CG.kit1 T.ki_InvalidSeat_Mismatch, CG.kit1 T.ki_InvalidSeat_TooLarge, CG.kit1 T.ki_InvalidSeat_SeatError, CG.kit1 T.ki_InvalidSeat_ValueError⟩
  | 3, _, _, h => by
    obtain ⟨rfl, rfl⟩ := Prod.mk.inj (Option.some.inj h)
    exact ⟨by decide, T.xi_InvalidCall, T.xf_InvalidCall, T.n_InvalidCall_call, CG.kit1 T.ki_InvalidCall_InvalidTable, CG.kit1 T.ki_InvalidCall_InvalidTargets, CG.kit1 T.ki_InvalidCall_InvalidSeat, CS.kit_self, CG.kit1 T.ki_InvalidCall_InvalidDirection, CG.kit1 T.ki_InvalidCall_InvalidWitness, CG.kit1 T.ki_InvalidCall_InvalidNumber, CG.kit1 T.ki_InvalidCall_InvalidMoves, CG.kit1 T.ki_InvalidCall_InvalidStrategy, CG.kit1 T.ki_InvalidCall_Mismatch, CG.kit1 T.ki_InvalidCall_TooLarge, CG.kit1 T.ki_InvalidCall_SeatError, CG.kit1 T.ki_InvalidCall_ValueError⟩
  | 4, _, _, h => by
    obtain ⟨rfl, rfl⟩ := Prod.mk.inj (Option.some.inj h)
    exact ⟨by decide, T.xi_InvalidDirection, T.xf_InvalidDirection, T.n_InvalidDirection_direction, CG.kit1 T.ki_InvalidDirection_InvalidTable, CG.kit1 T.ki_InvalidDirection_InvalidTargets, CG.kit1 T.ki_InvalidDirection_InvalidSeat, CG.kit1 T.ki_InvalidDirection_InvalidCall, CS.kit_self, CG.kit1 T.ki_InvalidDirection_InvalidWitness, CG.kit1 T.ki_InvalidDirection_InvalidNumber, CG.kit1 T.ki_InvalidDirection_InvalidMoves, CG.kit1 T.ki_InvalidDirection_InvalidStrategy, CG.kit1 T.ki_InvalidDirection_Mismatch, CG.kit1 T.ki_InvalidDirection_TooLarge, CG.kit1 T.ki_InvalidDirection_SeatError, CG.kit1 T.ki_InvalidDirection_ValueError⟩
  | 5, _, _, h => by
    obtain ⟨rfl, rfl⟩ := Prod.mk.inj (Option.some.inj h)
    exact ⟨by decide, T.xi_InvalidWitness, T.xf_InvalidWitness, T.n_InvalidWitness_index, CG.kit1 T.ki_InvalidWitness_InvalidTable, CG.kit1 T.ki_InvalidWitness_InvalidTargets, CG.kit1 T.ki_InvalidWitness_InvalidSeat, CG.kit1 T.ki_InvalidWitness_InvalidCall, CG.kit1 T.ki_InvalidWitness_InvalidDirection, CS.kit_self, CG.kit1 T.ki_InvalidWitness_InvalidNumber, CG.kit1 T.ki_InvalidWitness_InvalidMoves, CG.kit1 T.ki_InvalidWitness_InvalidStrategy, CG.kit1 T.ki_InvalidWitness_Mismatch, CG.kit1 T.ki_InvalidWitness_TooLarge, CG.kit1 T.ki_InvalidWitness_SeatError, CG.kit1 T.ki_InvalidWitness_ValueError⟩
  | 6, _, _, h => by
    obtain ⟨rfl, rfl⟩ := Prod.mk.inj (Option.some.inj h)
    exact ⟨by decide, T.xi_InvalidNumber, T.xf_InvalidNumber, T.n_InvalidNumber_name, CG.kit1 T.ki_InvalidNumber_InvalidTable, CG.kit1 T.ki_InvalidNumber_InvalidTargets, CG.kit1 T.ki_InvalidNumber_InvalidSeat, CG.kit1 T.ki_InvalidNumber_InvalidCall, CG.kit1 T.ki_InvalidNumber_InvalidDirection, CG.kit1 T.ki_InvalidNumber_InvalidWitness, CS.kit_self, CG.kit1 T.ki_InvalidNumber_InvalidMoves, CG.kit1 T.ki_InvalidNumber_InvalidStrategy, CG.kit1 T.ki_InvalidNumber_Mismatch, CG.kit1 T.ki_InvalidNumber_TooLarge, CG.kit1 T.ki_InvalidNumber_SeatError, CG.kit1 T.ki_InvalidNumber_ValueError⟩
  | 7, _, _, h => by
    obtain ⟨rfl, rfl⟩ := Prod.mk.inj (Option.some.inj h)
    exact ⟨by decide, T.xi_InvalidMoves, T.xf_InvalidMoves, T.n_InvalidMoves_index, CG.kit1 T.ki_InvalidMoves_InvalidTable, CG.kit1 T.ki_InvalidMoves_InvalidTargets, CG.kit1 T.ki_InvalidMoves_InvalidSeat, CG.kit1 T.ki_InvalidMoves_InvalidCall, CG.kit1 T.ki_InvalidMoves_InvalidDirection, CG.kit1 T.ki_InvalidMoves_InvalidWitness, CG.kit1 T.ki_InvalidMoves_InvalidNumber, CS.kit_self, CG.kit1 T.ki_InvalidMoves_InvalidStrategy, CG.kit1 T.ki_InvalidMoves_Mismatch, CG.kit1 T.ki_InvalidMoves_TooLarge, CG.kit1 T.ki_InvalidMoves_SeatError, CG.kit1 T.ki_InvalidMoves_ValueError⟩
  | 8, _, _, h => by
    obtain ⟨rfl, rfl⟩ := Prod.mk.inj (Option.some.inj h)
    exact ⟨by decide, T.xi_InvalidStrategy, T.xf_InvalidStrategy, T.n_InvalidStrategy_strategy, CG.kit1 T.ki_InvalidStrategy_InvalidTable, CG.kit1 T.ki_InvalidStrategy_InvalidTargets, CG.kit1 T.ki_InvalidStrategy_InvalidSeat, CG.kit1 T.ki_InvalidStrategy_InvalidCall, CG.kit1 T.ki_InvalidStrategy_InvalidDirection, CG.kit1 T.ki_InvalidStrategy_InvalidWitness, CG.kit1 T.ki_InvalidStrategy_InvalidNumber, CG.kit1 T.ki_InvalidStrategy_InvalidMoves, CS.kit_self, CG.kit1 T.ki_InvalidStrategy_Mismatch, CG.kit1 T.ki_InvalidStrategy_TooLarge, CG.kit1 T.ki_InvalidStrategy_SeatError, CG.kit1 T.ki_InvalidStrategy_ValueError⟩
  | 9, _, _, h => by
    obtain ⟨rfl, rfl⟩ := Prod.mk.inj (Option.some.inj h)
    exact ⟨by decide, T.xi_Mismatch, T.xf_Mismatch, T.n_Mismatch_name, CG.kit1 T.ki_Mismatch_InvalidTable, CG.kit1 T.ki_Mismatch_InvalidTargets, CG.kit1 T.ki_Mismatch_InvalidSeat, CG.kit1 T.ki_Mismatch_InvalidCall, CG.kit1 T.ki_Mismatch_InvalidDirection, CG.kit1 T.ki_Mismatch_InvalidWitness, CG.kit1 T.ki_Mismatch_InvalidNumber, CG.kit1 T.ki_Mismatch_InvalidMoves, CG.kit1 T.ki_Mismatch_InvalidStrategy, CS.kit_self, CG.kit1 T.ki_Mismatch_TooLarge, CG.kit1 T.ki_Mismatch_SeatError, CG.kit1 T.ki_Mismatch_ValueError⟩
  | 10, _, _, h => by
    obtain ⟨rfl, rfl⟩ := Prod.mk.inj (Option.some.inj h)
    exact ⟨by decide, T.xi_TooLarge, T.xf_TooLarge, T.n_TooLarge_limit, CG.kit1 T.ki_TooLarge_InvalidTable, CG.kit1 T.ki_TooLarge_InvalidTargets, CG.kit1 T.ki_TooLarge_InvalidSeat, CG.kit1 T.ki_TooLarge_InvalidCall, CG.kit1 T.ki_TooLarge_InvalidDirection, CG.kit1 T.ki_TooLarge_InvalidWitness, CG.kit1 T.ki_TooLarge_InvalidNumber, CG.kit1 T.ki_TooLarge_InvalidMoves, CG.kit1 T.ki_TooLarge_InvalidStrategy, CG.kit1 T.ki_TooLarge_Mismatch, CS.kit_self, CG.kit1 T.ki_TooLarge_SeatError, CG.kit1 T.ki_TooLarge_ValueError⟩
  | (i + 11), _, _, h => nomatch h

section
variable {P : Program} {w : World} {K : PySem.W.Frag} {mg : Str → Option Value} {base : Heap}
def sp_law_kinds (T : TX K mg) : Sp := fun vs H Q _ => ∃ (x : V) (i : Nat) (C : Addr) (f : Str) (y : V), vs = [x] ∧ (errC T)[i]? = some (C, f) ∧ CG.XVal H C f y x ∧ ∀ r H2, Ex H H2 → H2 r = some (.lst [.int (i : Nat)]) → Q (.ref r) H2
theorem ok_law_kinds (T : TX K mg) : FnOk P w K mg base CX0 1 T.f_law_kinds T.fd_law_kinds ["_law_one"] (sp_law_kinds T) := by
  refine T.F_law_kinds.ok sc_law_kinds (fun vs H Q E h => ?_) (fun cdv A outer s H vs Q E hr h => ?_)
  · obtain ⟨x, i, C, f, y, rfl, _⟩ := h
    rfl
  · obtain ⟨x, i, C, f, y, rfl, hi, hx, k⟩ := h
    refine ⟨_, (pss_cons (ps_set (i := 1) sc_law_kinds.nd rfl (Or.inl rfl) (pe_lst (pa_cons (pe_callB (r := CG.rIsX K) CG.call_isX (by rfl) T.z_isinstance (by decide +kernel) (pa_cons (pv 0) (pa_cons (pe_glob (v := .ref T.C_InvalidTable) rfl T.m_InvalidTable rfl) pa_nil))) (pa_cons (pe_callB (r := CG.rIsX K) CG.call_isX (by rfl) T.z_isinstance (by decide +kernel) (pa_cons (pv 0) (pa_cons (pe_glob (v := .ref T.C_InvalidTargets) rfl T.m_InvalidTargets rfl) pa_nil))) (pa_cons (pe_callB (r := CG.rIsX K) CG.call_isX (by rfl) T.z_isinstance (by decide +kernel) (pa_cons (pv 0) (pa_cons (pe_glob (v := .ref T.C_InvalidSeat) rfl T.m_InvalidSeat rfl) pa_nil))) pa_nil))))) (pss_cons (ps_set (i := 1) sc_law_kinds.nd rfl (Or.inl rfl) (pe_op (r := rCatR K) op_catR (pv 1) (pe_lst (pa_cons (pe_callB (r := CG.rIsX K) CG.call_isX (by rfl) T.z_isinstance (by decide +kernel) (pa_cons (pv 0) (pa_cons (pe_glob (v := .ref T.C_InvalidCall) rfl T.m_InvalidCall rfl) pa_nil))) (pa_cons (pe_callB (r := CG.rIsX K) CG.call_isX (by rfl) T.z_isinstance (by decide +kernel) (pa_cons (pv 0) (pa_cons (pe_glob (v := .ref T.C_InvalidDirection) rfl T.m_InvalidDirection rfl) pa_nil))) (pa_cons (pe_callB (r := CG.rIsX K) CG.call_isX (by rfl) T.z_isinstance (by decide +kernel) (pa_cons (pv 0) (pa_cons (pe_glob (v := .ref T.C_InvalidWitness) rfl T.m_InvalidWitness rfl) pa_nil))) pa_nil)))))) (pss_cons (ps_set (i := 1) sc_law_kinds.nd rfl (Or.inl rfl) (pe_op (r := rCatR K) op_catR (pv 1) (pe_lst (pa_cons (pe_callB (r := CG.rIsX K) CG.call_isX (by rfl) T.z_isinstance (by decide +kernel) (pa_cons (pv 0) (pa_cons (pe_glob (v := .ref T.C_InvalidNumber) rfl T.m_InvalidNumber rfl) pa_nil))) (pa_cons (pe_callB (r := CG.rIsX K) CG.call_isX (by rfl) T.z_isinstance (by decide +kernel) (pa_cons (pv 0) (pa_cons (pe_glob (v := .ref T.C_InvalidMoves) rfl T.m_InvalidMoves rfl) pa_nil))) (pa_cons (pe_callB (r := CG.rIsX K) CG.call_isX (by rfl) T.z_isinstance (by decide +kernel) (pa_cons (pv 0) (pa_cons (pe_glob (v := .ref T.C_InvalidStrategy) rfl T.m_InvalidStrategy rfl) pa_nil))) pa_nil)))))) (pss_cons (ps_set (i := 1) sc_law_kinds.nd rfl (Or.inl rfl) (pe_op (r := rCatR K) op_catR (pv 1) (pe_lst (pa_cons (pe_callB (r := CG.rIsX K) CG.call_isX (by rfl) T.z_isinstance (by decide +kernel) (pa_cons (pv 0) (pa_cons (pe_glob (v := .ref T.C_Mismatch) rfl T.m_Mismatch rfl) pa_nil))) (pa_cons (pe_callB (r := CG.rIsX K) CG.call_isX (by rfl) T.z_isinstance (by decide +kernel) (pa_cons (pv 0) (pa_cons (pe_glob (v := .ref T.C_TooLarge) rfl T.m_TooLarge rfl) pa_nil))) pa_nil))))) (pss_one (ps_ret (pe_lc (own := [("_law_at", 2), ("_law_fit", 3)]) (g := (gTup K 2 (gCons (gName 2) (gCons (gName 3) gNil)))) rfl sc_law_kinds.nd (CE.pi_e rfl T.z_enumerate (pa_cons (pv 1) pa_nil)) (blkOk_by (N := N_law_kinds) (sc := defScope s_law_kinds) (by decide +kernel)) (fun _ _ _ _ _ => (pg_tup rfl (pgs_cons (pg_name (i := 2) sc_law_kinds.nd rfl (Or.inl rfl)) (pgs_cons (pg_name (i := 3) sc_law_kinds.nd rfl (Or.inl rfl)) pgs_nil)))) (fun _ _ _ _ _ => (pts_one (pt_val (pv 3)))) (fun _ _ _ _ _ => (pv 2))))))))), ?_⟩
    have Z := kind_of T hi
    refine ⟨_, rfl, _, _, _, _, _, _, _, rfl, hx, Z.xi, CG.rel_cls, Z.k0, _, rfl, _, _, _, _, _, _, _, rfl, hx, Z.xi, CG.rel_cls, Z.k1, _, rfl, _, _, _, _, _, _, _, rfl, hx, Z.xi, CG.rel_cls, Z.k2, slen rfl, ?_⟩
    (intro a1 na1; generalize hGa1 : upd _ a1 _ = H1; have eH1 := exG hGa1 na1; have ha1 := atG hGa1; clear hGa1)
    have hx1 := hx.ext fun a u e => eH1 _ _ e
    refine ⟨_, rfl, _, rfl, _, _, _, _, _, _, _, rfl, hx1, Z.xi, CG.rel_cls, Z.k3, _, rfl, _, _, _, _, _, _, _, rfl, hx1, Z.xi, CG.rel_cls, Z.k4, _, rfl, _, _, _, _, _, _, _, rfl, hx1, Z.xi, CG.rel_cls, Z.k5, slen rfl, ?_⟩
    (intro a2 na2; generalize hGa2 : upd _ a2 _ = H2; have eH2 := exG hGa2 na2; have ha2 := atG hGa2; clear hGa2)
    refine ⟨a1, a2, _, _, rfl, rfl, SqL.of (eH2 _ _ ha1), SqL.of ha2, slen rfl, ?_⟩
    (intro a3 na3; generalize hGa3 : upd _ a3 _ = H3; have eH3 := exG hGa3 na3; have ha3 := atG hGa3; clear hGa3)
    have e3 := ext eH2 eH3
    have hx3 := hx1.ext fun a u e => e3 _ _ e
    refine ⟨_, rfl, _, rfl, _, _, _, _, _, _, _, rfl, hx3, Z.xi, CG.rel_cls, Z.k6, _, rfl, _, _, _, _, _, _, _, rfl, hx3, Z.xi, CG.rel_cls, Z.k7, _, rfl, _, _, _, _, _, _, _, rfl, hx3, Z.xi, CG.rel_cls, Z.k8, slen rfl, ?_⟩
    (intro a4 na4; generalize hGa4 : upd _ a4 _ = H4; have eH4 := exG hGa4 na4; have ha4 := atG hGa4; clear hGa4)
    refine ⟨a3, a4, _, _, rfl, rfl, SqL.of (eH4 _ _ ha3), SqL.of ha4, slen rfl, ?_⟩
    (intro a5 na5; generalize hGa5 : upd _ a5 _ = H5; have eH5 := exG hGa5 na5; have ha5 := atG hGa5; clear hGa5)
    have e5 := ext eH4 eH5
    have hx5 := hx3.ext fun a u e => e5 _ _ e
    refine ⟨_, rfl, _, rfl, _, _, _, _, _, _, _, rfl, hx5, Z.xi, CG.rel_cls, Z.k9, _, rfl, _, _, _, _, _, _, _, rfl, hx5, Z.xi, CG.rel_cls, Z.k10, slen rfl, ?_⟩
    (intro a6 na6; generalize hGa6 : upd _ a6 _ = H6; have eH6 := exG hGa6 na6; have ha6 := atG hGa6; clear hGa6)
    refine ⟨a5, a6, _, _, rfl, rfl, SqL.of (eH6 _ _ ha5), SqL.of ha6, slen rfl, ?_⟩
    (intro a7 na7; generalize hGa7 : upd _ a7 _ = H7; have eH7 := exG hGa7 na7; have ha7 := atG hGa7; clear hGa7)
    have E7 : Ex H H7 := ext eH1 (ext e3 (ext e5 (ext eH6 eH7)))
    have ha7 : H7 a7 = some (.lst ((List.range 11).map fun j => V.bl (decide (i = j)))) := ha7
    dsimp only [gName]
    refine ⟨_, rfl, (false, a7), rfl, ⟨_, SqL.of ha7⟩, fun D hD => ?_⟩
    refine lc_filt (CE.walk_e (xs := (List.range 11).map fun j => V.bl (decide (i = j)))) (List.range 11) (fun j => decide (i = j)) (fun j => V.int (j : Nat)) (by simp) (by simp) hD (fun Hx e => SqL.of (e _ _ ha7)) ?_ ?_
    · rintro j x a Ha Hb R S ha ex ⟨Ta, x1, x2, rfl, hT, rfl, hx1, hx2⟩ kR kS
      obtain ⟨jl, ej⟩ := List.getElem?_eq_some_iff.mp ha
      obtain rfl : j = a := by rw [← ej, List.getElem_range]
      cases hx1
      have hx2 : ((List.range 11).map fun j => V.bl (decide (i = j)))[j]? = some x2 := hx2
      rw [List.getElem?_map, ha] at hx2
      cases hx2
      refine ⟨Ta, _, rfl, SqT.of upd_same, rfl, _, _, rfl, _, _, rfl, rfl, rfl, _, rfl, _, rfl, ?_⟩
      show (if decide (i = j) = true then _ else _ : Prop)
      have eT := exn (o := .tup [.int (j : Nat), .bl (decide (i = j))]) hT
      by_cases q : i = j
      · have q2 := decide_eq_true q
        rw [if_pos q2]
        exact ⟨_, rfl, kR _ _ eT q2 rfl⟩
      · have q2 := decide_eq_false q
        rw [if_neg (by rw [q2]; exact Bool.false_ne_true)]
        exact kS _ eT q2
    intro Hz ez hz
    refine k _ _ (ext E7 ez) ?_
    rw [hz]
    have fin : ∀ n : Fin 11, ((List.range 11).filter fun j => decide (n.val = j)) = [n.val] := by decide +kernel
    rw [fin ⟨i, Z.lt⟩]
    rfl
end

/-! ### any data, read from the heap; B says where its lists may lie -/
mutual
inductive Dq (B : Addr → Prop) (H : Hp) : V → PyData → Prop
  | non : Dq B H .non .none
  | bl (b : Bool) : Dq B H (.bl b) (.bool b)
  | int (i : Int) : Dq B H (.int i) (.int i)
  | str (x : Str) : Dq B H (.str x) (.str x)
  | lst {a : Addr} {xs : List V} {ds : List PyData} : H a = some (.lst xs) → B a → DqAll B H xs ds → Dq B H (.ref a) (.list ds)
  | tup {a : Addr} {xs : List V} {ds : List PyData} : H a = some (.tup xs) → DqAll B H xs ds → Dq B H (.ref a) (.tuple ds)
inductive DqAll (B : Addr → Prop) (H : Hp) : List V → List PyData → Prop
  | nil : DqAll B H [] []
  | cons {v : V} {vs : List V} {d : PyData} {ds : List PyData} : Dq B H v d → DqAll B H vs ds → DqAll B H (v :: vs) (d :: ds)
end
mutual
theorem Dq.to {B B2 : Addr → Prop} {H H2 : Hp} (l : ∀ a xs, B a → H a = some (.lst xs) → H2 a = some (.lst xs) ∧ B2 a) (t : ∀ a xs, H a = some (.tup xs) → H2 a = some (.tup xs)) : ∀ {d : PyData} {v : V}, Dq B H v d → Dq B2 H2 v d
  | _, _, .non => .non
  | _, _, .bl b => .bl b
  | _, _, .int i => .int i
  | _, _, .str x => .str x
  | _, _, .lst h b hs => .lst (l _ _ b h).1 (l _ _ b h).2 (DqAll.to l t hs)
  | _, _, .tup h hs => .tup (t _ _ h) (DqAll.to l t hs)
theorem DqAll.to {B B2 : Addr → Prop} {H H2 : Hp} (l : ∀ a xs, B a → H a = some (.lst xs) → H2 a = some (.lst xs) ∧ B2 a) (t : ∀ a xs, H a = some (.tup xs) → H2 a = some (.tup xs)) : ∀ {ds : List PyData} {vs : List V}, DqAll B H vs ds → DqAll B2 H2 vs ds
  | _, _, .nil => .nil
  | _, _, .cons h hs => .cons (Dq.to l t h) (DqAll.to l t hs)
end
theorem Dq.mono {B : Addr → Prop} {H H2 : Hp} (e : Ex H H2) {d : PyData} {v : V} (h : Dq B H v d) : Dq B H2 v d := h.to (fun _ _ b h => ⟨e _ _ h, b⟩) (fun _ _ h => e _ _ h)
theorem DqAll.mono {B : Addr → Prop} {H H2 : Hp} (e : Ex H H2) {ds : List PyData} {vs : List V} (h : DqAll B H vs ds) : DqAll B H2 vs ds := h.to (fun _ _ b h => ⟨e _ _ h, b⟩) (fun _ _ h => e _ _ h)
mutual
theorem Dq.dp {K : PySem.W.Frag} {B : Addr → Prop} {H : Hp} : ∀ {d : PyData} {v : V}, Dq B H v d → Dp K H v d
  | _, _, .non => .non
  | _, _, .bl b => .bl b
  | _, _, .int i => .int i
  | _, _, .str x => .str x
  | _, _, .lst h _ hs => .lst (SqL.of h) (DqAll.dp hs)
  | _, _, .tup h hs => .tup (SqT.of h) (DqAll.dp hs)
theorem DqAll.dp {K : PySem.W.Frag} {B : Addr → Prop} {H : Hp} : ∀ {ds : List PyData} {vs : List V}, DqAll B H vs ds → DpAll K H vs ds
  | _, _, .nil => .nil
  | _, _, .cons h hs => .cons (Dq.dp h) (DqAll.dp hs)
end
theorem DqAll.ints {B : Addr → Prop} {H : Hp} : ∀ (is : List Int), DqAll B H (is.map V.int) (is.map PyData.int)
  | [] => .nil
  | i :: is => .cons (.int i) (DqAll.ints is)
theorem Dq.ints {B : Addr → Prop} {H : Hp} {a : Addr} {is : List Int} (h : H a = some (.tup (is.map V.int))) : Dq B H (.ref a) (iT is) := .tup h (DqAll.ints is)
/-- an int that is no bool -/
def intD : PyData → Option Int
  | .int i => some i
  | _ => none
theorem Dq.isI {K : PySem.W.Frag} {B : Addr → Prop} {H : Hp} {v : V} {d : PyData} (h : Dq B H v d) : IsI K H v (intD d) := by
  cases h with
  | int i => exact rfl
  | non => exact ⟨_, _, _, .base .non, kit_ty (r := false) (by decide +kernel), kit_ty (r := false) (by decide +kernel), rfl⟩
  | bl b => exact ⟨_, _, _, .base (.bl b), kit_ty (r := true) (by decide +kernel), kit_ty (r := true) (by decide +kernel), rfl⟩
  | str x => exact ⟨_, _, _, .base (.str x), kit_ty (r := false) (by decide +kernel), kit_ty (r := false) (by decide +kernel), rfl⟩
  | lst h _ _ => exact ⟨_, _, _, .base (.lst h), kit_ty (r := false) (by decide +kernel), kit_ty (r := false) (by decide +kernel), rfl⟩
  | tup h _ => exact ⟨_, _, _, .base (.tup h), kit_ty (r := false) (by decide +kernel), kit_ty (r := false) (by decide +kernel), rfl⟩
/-- what is in a tuple -/
def tupD : PyData → Option (List PyData)
  | .tuple ds => some ds
  | _ => none
theorem Dq.isT {K : PySem.W.Frag} {B : Addr → Prop} {H : Hp} {v : V} {d : PyData} (h : Dq B H v d) : ∃ t, TyX K H v t ∧ PySem.W.kitOne K t (.type "tuple") = some (tupD d).isSome := by
  cases h with
  | int i => exact ⟨_, .base (.int i), kit_ty (r := false) (by decide +kernel)⟩
  | non => exact ⟨_, .base .non, kit_ty (r := false) (by decide +kernel)⟩
  | bl b => exact ⟨_, .base (.bl b), kit_ty (r := false) (by decide +kernel)⟩
  | str x => exact ⟨_, .base (.str x), kit_ty (r := false) (by decide +kernel)⟩
  | lst h _ _ => exact ⟨_, .base (.lst h), kit_ty (r := false) (by decide +kernel)⟩
  | tup h _ => exact ⟨_, .base (.tup h), kit_ty (r := true) (by decide +kernel)⟩
theorem Dq.tupA {B : Addr → Prop} {H : Hp} {v : V} {d : PyData} {ds : List PyData} (h : Dq B H v d) (e : tupD d = some ds) : ∃ a xs, v = .ref a ∧ H a = some (.tup xs) ∧ DqAll B H xs ds := by
  cases h with
  | tup h hs => cases e; exact ⟨_, _, rfl, h, hs⟩
  | _ => cases e
theorem DqAll.len {B : Addr → Prop} {H : Hp} : ∀ {xs : List V} {ds : List PyData}, DqAll B H xs ds → xs.length = ds.length
  | _, _, .nil => rfl
  | _, _, .cons _ t => by rw [List.length_cons, List.length_cons, DqAll.len t]
theorem DqAll.get {B : Addr → Prop} {H : Hp} : ∀ {xs : List V} {ds : List PyData} {j : Nat} {x : V}, DqAll B H xs ds → xs[j]? = some x → ∃ d, ds[j]? = some d ∧ Dq B H x d
  | _, _, _, _, .nil, h => by simp at h
  | _, _, 0, _, .cons h _, e => ⟨_, rfl, by obtain rfl := Option.some.inj e; exact h⟩
  | _, _, j + 1, _, .cons _ t, e => DqAll.get (j := j) t (by simpa using e)
/-- whether data is a witness for the sizes, in the order of the tests -/
theorem dq_ints {B : Addr → Prop} {H : Hp} : ∀ {xs : List V} {ws : List PyData}, DqAll B H xs ws → (∀ w ∈ ws, ∃ i, intD w = some i) → ∃ is : List Int, ws = is.map PyData.int ∧ xs = is.map V.int
  | _, _, .nil, _ => ⟨[], rfl, rfl⟩
  | _, _, .cons h t, a => by
    obtain ⟨is, e1, e2⟩ := dq_ints t fun w hw => a w (List.mem_cons_of_mem _ hw)
    obtain ⟨i, hi⟩ := a _ List.mem_cons_self
    cases h with
    | int j => exact ⟨j :: is, by rw [e1]; rfl, by rw [e2]; rfl⟩
    | _ => cases hi
theorem ints_of : ∀ {ws : List PyData}, (∀ w ∈ ws, ∃ i, intD w = some i) → ∃ is : List Int, ws = is.map PyData.int
  | [], _ => ⟨[], rfl⟩
  | w :: ws, a => by
    obtain ⟨is, e1⟩ := ints_of fun w hw => a w (List.mem_cons_of_mem _ hw)
    obtain ⟨i, hi⟩ := a _ List.mem_cons_self
    cases w with
    | int j => exact ⟨j :: is, by rw [e1]; rfl⟩
    | _ => cases hi
theorem fm_ints (is : List Int) : (is.map PyData.int).filterMap intD = is := by
  induction is with
  | nil => rfl
  | cons i is ih => rw [List.map_cons, List.filterMap_cons, ih]; rfl
theorem betw_some {o : Option Int} {a b : Int} (h : between o a b = true) : ∃ i, o = some i ∧ a ≤ i ∧ i ≤ b := by
  cases o with
  | none => cases h
  | some i =>
    have h2 : (decide (a ≤ i) && decide (i ≤ b)) = true := h
    rw [Bool.and_eq_true, decide_eq_true_iff, decide_eq_true_iff] at h2
    exact ⟨i, rfl, h2.1, h2.2⟩
def lstD : PyData → Option (List PyData)
  | .list ds => some ds
  | _ => none
theorem Dq.isL {K : PySem.W.Frag} {B : Addr → Prop} {H : Hp} {v : V} {d : PyData} (h : Dq B H v d) : ∃ t, TyX K H v t ∧ PySem.W.kitOne K t (.type "list") = some (lstD d).isSome := by
  cases h with
  | int i => exact ⟨_, .base (.int i), kit_ty (r := false) (by decide +kernel)⟩
  | non => exact ⟨_, .base .non, kit_ty (r := false) (by decide +kernel)⟩
  | bl b => exact ⟨_, .base (.bl b), kit_ty (r := false) (by decide +kernel)⟩
  | str x => exact ⟨_, .base (.str x), kit_ty (r := false) (by decide +kernel)⟩
  | lst h _ _ => exact ⟨_, .base (.lst h), kit_ty (r := true) (by decide +kernel)⟩
  | tup h _ => exact ⟨_, .base (.tup h), kit_ty (r := false) (by decide +kernel)⟩
theorem Dq.lstA {B : Addr → Prop} {H : Hp} {v : V} {d : PyData} {ds : List PyData} (h : Dq B H v d) (e : lstD d = some ds) : ∃ a xs, v = .ref a ∧ H a = some (.lst xs) ∧ B a ∧ DqAll B H xs ds := by
  cases h with
  | lst h b hs => cases e; exact ⟨_, _, rfl, h, b, hs⟩
  | _ => cases e
theorem Dq.isIB {K : PySem.W.Frag} {B : Addr → Prop} {H : Hp} {v : V} {d : PyData} (h : Dq B H v d) : ∃ t bi bb, TyX K H v t ∧ PySem.W.kitOne K t (.type "int") = some bi ∧ PySem.W.kitOne K t (.type "bool") = some bb ∧ (bi && !bb) = (intD d).isSome ∧ (bi = false → intD d = none) := by
  cases h with
  | int i => exact ⟨_, _, _, .base (.int i), kit_ty (r := true) (by decide +kernel), kit_ty (r := false) (by decide +kernel), rfl, fun z => by cases z⟩
  | non => exact ⟨_, _, _, .base .non, kit_ty (r := false) (by decide +kernel), kit_ty (r := false) (by decide +kernel), rfl, fun _ => rfl⟩
  | bl b => exact ⟨_, _, _, .base (.bl b), kit_ty (r := true) (by decide +kernel), kit_ty (r := true) (by decide +kernel), rfl, fun z => by cases z⟩
  | str x => exact ⟨_, _, _, .base (.str x), kit_ty (r := false) (by decide +kernel), kit_ty (r := false) (by decide +kernel), rfl, fun _ => rfl⟩
  | lst h _ _ => exact ⟨_, _, _, .base (.lst h), kit_ty (r := false) (by decide +kernel), kit_ty (r := false) (by decide +kernel), rfl, fun _ => rfl⟩
  | tup h _ => exact ⟨_, _, _, .base (.tup h), kit_ty (r := false) (by decide +kernel), kit_ty (r := false) (by decide +kernel), rfl, fun _ => rfl⟩
theorem DqAll.set {B : Addr → Prop} {H : Hp} {v : V} {d : PyData} (h : Dq B H v d) : ∀ {xs : List V} {ds : List PyData} (i : Nat), DqAll B H xs ds → DqAll B H (xs.set i v) (ds.set i d)
  | _, _, _, .nil => .nil
  | _, _, 0, .cons _ t => .cons h t
  | _, _, i + 1, .cons q t => .cons q (DqAll.set h i t)
theorem DqAll.app {B : Addr → Prop} {H : Hp} : ∀ {xs ys : List V} {ds es : List PyData}, DqAll B H xs ds → DqAll B H ys es → DqAll B H (xs ++ ys) (ds ++ es)
  | _, _, _, _, .nil, h => h
  | _, _, _, _, .cons q t, h => .cons q (DqAll.app t h)
theorem DqAll.take {B : Addr → Prop} {H : Hp} : ∀ {xs : List V} {ds : List PyData} (n : Nat), DqAll B H xs ds → DqAll B H (xs.take n) (ds.take n)
  | _, _, 0, _ => .nil
  | _, _, _ + 1, .nil => .nil
  | _, _, n + 1, .cons q t => .cons q (DqAll.take n t)
theorem DqAll.drop {B : Addr → Prop} {H : Hp} : ∀ {xs : List V} {ds : List PyData} (n : Nat), DqAll B H xs ds → DqAll B H (xs.drop n) (ds.drop n)
  | _, _, 0, h => h
  | _, _, _ + 1, .nil => .nil
  | _, _, n + 1, .cons _ t => DqAll.drop n t

/-! ### data that repr shows, empty dicts among them -/
structure Sx (n c : Nat) (d : PyData) : Prop where
  sh : d.showable = true
  len : d.shown.length ≤ c
  dep : d.depth ≤ n
theorem Sx.up {n m c e : Nat} {d : PyData} (h : Sx n c d) (a : n ≤ m) (b : c ≤ e) : Sx m e d := ⟨h.sh, Nat.le_trans h.len b, Nat.le_trans h.dep a⟩
theorem sx_int {i : Int} (h : i.natAbs < 2 ^ 300) : Sx 0 2000 (.int i) := by
  have hl : i.natAbs.log2 < 1920 := by
    by_cases z : i.natAbs = 0
    · rw [z]
      decide
    · exact (Nat.log2_lt z).mpr (Nat.lt_of_lt_of_le h (Nat.pow_le_pow_right (by decide) (by decide)))
  exact ⟨decide_eq_true hl, Nat.le_trans (int_text_len_1921 hl) (by decide), by simp only [PyData.depth]; omega⟩
theorem sx_none : Sx 0 2000 .none := ⟨rfl, by decide +kernel, by decide⟩
theorem sx_bool (b : Bool) : Sx 0 2000 (.bool b) := ⟨rfl, by cases b <;> decide +kernel, by simp only [PyData.depth]; omega⟩
theorem sx_one : Sx 0 2000 (.str "1") := ⟨rfl, by rw [PyData.shown_str]; decide +kernel, by simp only [PyData.depth]; omega⟩
theorem sx_emp : Sx 1 2000 (.dict []) := ⟨rfl, by simp only [PyData.shown, PyData.shownKv]; decide +kernel, by simp only [PyData.depth, PyData.depthKv]; omega⟩
theorem sx_all {n c : Nat} : ∀ {ds : List PyData}, (∀ d ∈ ds, Sx n c d) → PyData.showableAll ds = true ∧ PyData.depthAll ds ≤ n ∧ ((PyData.shownAll ds).map (·.length)).sum ≤ ds.length * c ∧ (PyData.shownAll ds).length = ds.length
  | [], _ => ⟨rfl, by simp only [PyData.depthAll]; omega, by simp [PyData.shownAll], rfl⟩
  | d :: ds, h => by
    obtain ⟨a, e, b⟩ := h d List.mem_cons_self
    obtain ⟨a2, b2, e2, l2⟩ := sx_all fun x hx => h x (List.mem_cons_of_mem _ hx)
    refine ⟨by simp only [PyData.showableAll, a, a2, Bool.and_true], by simp only [PyData.depthAll]; omega, ?_, by simp only [PyData.shownAll, List.length_cons, l2]⟩
    simp only [PyData.shownAll, List.map_cons, List.sum_cons, List.length_cons, Nat.succ_mul]
    omega
theorem sx_tuple {n c : Nat} {ds : List PyData} (h : ∀ d ∈ ds, Sx n c d) : Sx (n + 1) (ds.length * (c + 2) + 3) (.tuple ds) := by
  obtain ⟨a, b, e, l⟩ := sx_all h
  refine ⟨by simpa only [PyData.showable] using a, ?_, by simp only [PyData.depth]; omega⟩
  have := tupleText_len_le (PyData.shownAll ds)
  simp only [PyData.shown, Nat.mul_add] at *
  omega
theorem sx_list {n c : Nat} {ds : List PyData} (h : ∀ d ∈ ds, Sx n c d) : Sx (n + 1) (ds.length * (c + 2) + 3) (.list ds) := by
  obtain ⟨a, b, e, l⟩ := sx_all h
  refine ⟨by simpa only [PyData.showable] using a, ?_, by simp only [PyData.depth]; omega⟩
  have := listText_len_le (PyData.shownAll ds)
  simp only [PyData.shown, Nat.mul_add] at *
  omega
theorem big300 {i : Int} (h : i.natAbs ≤ 10 ^ 62) : i.natAbs < 2 ^ 300 := Nat.lt_of_le_of_lt h (by decide)

mutual
theorem Dq.de {K : PySem.W.Frag} {B : Addr → Prop} {H : Hp} : ∀ {d : PyData} {v : V}, Dq B H v d → CG.De K H v d
  | _, _, .non => .non
  | _, _, .bl b => .bl b
  | _, _, .int i => .int i
  | _, _, .str x => .str x
  | _, _, .lst h _ hs => .lst (SqL.of h) (DqAll.de hs)
  | _, _, .tup h hs => .tup (SqT.of h) (DqAll.de hs)
theorem DqAll.de {K : PySem.W.Frag} {B : Addr → Prop} {H : Hp} : ∀ {ds : List PyData} {vs : List V}, DqAll B H vs ds → CG.DeAll K H vs ds
  | _, _, .nil => .nil
  | _, _, .cons h hs => .cons (Dq.de h) (DqAll.de hs)
end
/-- what is stored in an error -/
def Th (B : Addr → Prop) (H : Hp) (y : V) : Prop := (∃ d, Dq B H y d ∧ Sh 60 d ∧ Sx 60 100000 d) ∨ ∃ (a : Addr) (kvs : List (L2.Key × V)), y = .ref a ∧ (kvs = [] ∨ kvs = [(.inr "b", .int 1)]) ∧ H a = some (.dK kvs)
theorem Th.mono {B : Addr → Prop} {H H2 : Hp} {y : V} (e : Ex H H2) (h : Th B H y) : Th B H2 y := by
  rcases h with ⟨d, q, a, b⟩ | ⟨a, kvs, h1, h2, h3⟩
  · exact .inl ⟨d, q.mono e, a, b⟩
  · exact .inr ⟨a, kvs, h1, h2, e _ _ h3⟩
theorem Th.xb {s : Addr} {H H2 : Hp} {y : V} (src : Src H s) (x : XB s H H2) (h : Th (· ≠ s) H y) : Th (· ≠ s) H2 y := by
  rcases h with ⟨d, q, a, b⟩ | ⟨a, kvs, h1, h2, h3⟩
  · exact .inl ⟨d, q.to (fun a xs b h => ⟨x _ _ b h, b⟩) (fun a xs h => x _ _ (fun z => by
      obtain ⟨_, _, _, e⟩ := src
      rw [z, e] at h
      cases h) h), a, b⟩
  · refine .inr ⟨a, kvs, h1, h2, x _ _ (fun z => ?_) h3⟩
    obtain ⟨_, _, _, e⟩ := src
    rw [z, e] at h3
    cases h3
theorem th_repr {K : PySem.W.Frag} {B : Addr → Prop} {H : Hp} {y : V} (h : Th B H y) : ∃ t : Str, ∀ (H2 : Hp) (Q : VK), Ex H H2 → Q (.str t) H2 → CG.rReprX K [y] H2 Q := by
  rcases h with ⟨d, q, a, b⟩ | ⟨a, kvs, rfl, rfl | rfl, h⟩
  · exact ⟨d.shown, fun H2 Q e k => .inl ⟨y, d, rfl, (q.mono e).de, b.sh, Nat.le_trans b.len (by decide), b.dep, k⟩⟩
  · exact ⟨(PyData.dict []).shown, fun H2 Q e k => .inl ⟨_, _, rfl, .emp (e _ _ h), sx_emp.sh, Nat.le_trans sx_emp.len (by decide), Nat.le_trans sx_emp.dep (by decide), k⟩⟩
  · exact ⟨_, fun H2 Q e k => .inr ⟨a, "b", 1, rfl, e _ _ h, by decide +kernel, by decide +kernel, k⟩⟩
theorem th_eq {K : PySem.W.Frag} {B : Addr → Prop} {H : Hp} {y : V} {Q : VK} (h : Th B H y) (k : Q (.bl true) H) : CG.rEqX K y y H Q := by
  rcases h with ⟨d, q, a, b⟩ | ⟨a, kvs, rfl, h2, h⟩
  · exact .inl ⟨d, d, q.dp, q.dp, a.ok, a.ok, by rw [eqv_refl d a.1]; exact k⟩
  · refine .inr ⟨a, a, kvs, kvs, rfl, rfl, h, h, rfl, ?_, k⟩
    rcases h2 with rfl | rfl
    · intro p hp
      cases hp
    · intro p hp
      obtain rfl := List.mem_singleton.mp hp
      exact ⟨by decide +kernel, by decide +kernel⟩

section
variable {P : Program} {w : World} {K : PySem.W.Frag} {mg : Str → Option Value} {base : Heap}
def sp_law_stores (T : TX K mg) : Sp := fun vs H Q _ => ∃ (x : V) (i : Nat) (C : Addr) (f : Str) (y : V) (B : Addr → Prop), vs = [x, .int (i : Nat), y, y] ∧ (errC T)[i]? = some (C, f) ∧ CG.XVal H C f y x ∧ Th B H y ∧ ∀ H2, Ex H H2 → Q (.bl true) H2
theorem ok_law_stores (T : TX K mg) : CG.FnOkG P w K mg base 2 T.f_law_stores T.fd_law_stores ["_law_one", "_law_place", "_law_stored", "_law_thing"] (sp_law_stores T) := by
  refine CG.okG T.F_law_stores sc_law_stores (fun vs H Q E h => ?_) (fun cdv A outer s H vs Q E gd hr h => ?_)
  · obtain ⟨x, i, C, f, y, B, rfl, _⟩ := h
    rfl
  · obtain ⟨x, i, C, f, y, B, rfl, hi, hx, th, k⟩ := h
    refine ⟨_, (pss_cons (ps_if (PW.pt (pw_or (pt_cmpR (r := rNeD K) (op_neD hr.units) (pe_call (ok_law_kinds T) hr rfl T.m_law_kinds T.F_law_kinds.kp T.b_law_kinds .nil pass0 (pa_cons (pv 0) pa_nil)) (pe_lst (pa_cons (pv 1) pa_nil)) (nomark _)) (pw_or (pt_not (pt_val (pe_callB (r := CG.rIsX K) CG.call_isX (by rfl) T.z_isinstance (by decide +kernel) (pa_cons (pv 0) (pa_cons (pe_glob (v := .ref T.C_SeatError) rfl T.m_SeatError rfl) pa_nil))))) (pw_or1 (pt_not (pt_val (pe_callB (r := CG.rIsX K) CG.call_isX (by rfl) T.z_isinstance (by decide +kernel) (pa_cons (pv 0) (pa_cons (pe_bltn (v := .ty "ValueError") rfl T.z_ValueError (by decide +kernel) rfl) pa_nil))))))))) (pss_one (ps_ret pe_bl)) pss_nil) (pss_one (ps_ret (pe_and (pe_cmpR op_eq (pe_callB (r := CG.rReprX K) (CG.cr_reprX T.sysd gd (have z := u65 hr; z)) (by rfl) T.z_repr (by decide +kernel) (pa_cons (pv 2) pa_nil)) (pe_callB (r := CG.rReprX K) (CG.cr_reprX T.sysd gd (have z := u65 hr; z)) (by rfl) T.z_repr (by decide +kernel) (pa_cons (pv 3) pa_nil)) (nomark _)) (pe_one (pe_cmpR (r := CG.rEqX K) (CG.op_eqX hr.units) (pv 2) (pv 3) (nomark _))))))), ?_⟩
    have Z := kind_of T hi
    obtain ⟨t, tr⟩ := th_repr (K := K) th
    refine ⟨_, rfl, x, i, C, f, y, rfl, hi, hx, fun r H1 e1 hr1 => ?_⟩
    refine ⟨_, rfl, slen rfl, ?_⟩
    (intro p np; generalize hGp : upd _ p _ = H2; have eH2 := exG hGp np; have hp := atG hGp; clear hGp)
    have e2 := ext e1 eH2
    have hx2 := hx.ext fun a u e => e2 _ _ e
    have shl : Sh 60 (PyData.list [.int (i : Nat)]) := (sh_list (n := 3) fun d hd => by rw [List.mem_singleton.mp hd]; exact sh_int _).up (by decide)
    refine ⟨_, _, .lst (SqL.of (eH2 _ _ hr1)) (.cons (.int _) .nil), .lst (SqL.of hp) (.cons (.int _) .nil), shl.ok, shl.ok, _, rfl, itf (by rw [eqv_same shl]) ?_⟩
    refine ⟨_, rfl, _, _, _, _, _, _, _, rfl, hx2, Z.xi, CG.rel_cls, Z.kS, ?_⟩
    refine ⟨_, rfl, itf rfl ?_⟩
    refine ⟨_, rfl, _, _, _, _, _, _, _, rfl, hx2, Z.xi, CG.rel_ty, Z.kV, ?_⟩
    refine ⟨_, rfl, itf rfl ?_⟩
    dsimp only [tNext]
    refine ⟨_, rfl, tr _ _ e2 ?_⟩
    refine ⟨_, rfl, tr _ _ e2 ?_⟩
    refine ⟨rfl, _, rfl, ?_⟩
    rw [if_pos (by simp)]
    refine ⟨_, rfl, _, rfl, th_eq (th.mono e2) (k _ e2)⟩
end

section
variable {P : Program} {w : World} {K : PySem.W.Frag} {mg : Str → Option Value}
theorem site04 (T : TX K mg) {B : Addr → Prop} {j : Nat} {C : Addr} {f : Str} (hj : (errC T)[j]? = some (C, f)) {y : V} {o1 o2 : Option V} {H : Hp} {R : VK} {gV : List V → List V → List V} (gv : ∀ a b, gV [a] [b] = [a, b]) (th : Th B H y)
    (k : ∀ H2 l, Ex H H2 → H2 l = some (.lst [.bl true, .bl true]) → R (.ref l) H2) :
    tLc (iList K (tLst (tCons (CG.tNewX C (sp_exi C f) (tCons (tVar 0) tNil)) (tCons (CG.tNewXK C 1 (sp_exi C f) gV (tCons (tVar 0) tNil)) tNil)))) (gName 2) tYes
      (tCall (sp_law_stores T) [] E0 (tCons (tVar 2) (tCons (tC (V.int (j : Nat))) (tCons (CG.tXaA K f (tVar 2)) (tCons (tVar 0) tNil))))) [2] [some y, o1, o2] H R := by
  have Z := kind_of T hj
  refine ⟨y, rfl, (by show 1 ≤ 1000; decide), fun a na => exc_val na fun H1 e1 x1 => ⟨rfl, ?_⟩⟩
  refine ⟨y, rfl, rfl, fun b nb => ?_⟩
  rw [gv]
  refine exc_val nb fun H2 e2 x2 => ⟨rfl, slen rfl, ?_⟩
  (intro l nl; generalize hGl : upd _ l _ = H3; have eH3 := exG hGl nl; have hl := atG hGl; clear hGl)
  have x13 := x1.ext (H2 := H3) fun a u e => (ext e2 eH3) _ _ e
  have x23 := x2.ext (H2 := H3) fun a u e => eH3 _ _ e
  have E3 := ext e1 (ext e2 eH3)
  refine ⟨l, rfl, ⟨_, SqL.of hl⟩, fun D hD => ?_⟩
  refine lc_vals (walk_list (xs := [V.ref a, V.ref b])) [.bl true, .bl true] rfl (by show 2 ≤ 10000000; decide) hD (fun Hx e => SqL.of (e _ _ hl)) ?_ gmono_name ?_
  · rintro i x Ha Hb S hi e ⟨rfl, hx⟩ kk
    have il : i < 2 := (List.getElem?_eq_some_iff.mp hx).1
    have fin : CG.XVal Hb C f y x ∧ [V.bl true, V.bl true][i]? = some (V.bl true) := by
      have i2 : i = 0 ∨ i = 1 := by omega
      rcases i2 with rfl | rfl
      · obtain rfl : V.ref a = x := Option.some.inj hx
        exact ⟨x13.ext fun a u q => e _ _ q, rfl⟩
      · obtain rfl : V.ref b = x := Option.some.inj hx
        exact ⟨x23.ext fun a u q => e _ _ q, rfl⟩
    obtain ⟨xv, here⟩ := fin
    exact ⟨rfl, _, rfl, _, rfl, C, y, Z.xf, Z.free, xv, _, rfl, x, j, C, f, y, B, rfl, hj, xv, th.mono (ext E3 e), fun H4 e4 => kk _ _ e4 here⟩
  intro HD eD hDD
  exact k _ _ (ext E3 eD) hDD
end
section
variable {P : Program} {w : World} {K : PySem.W.Frag} {mg : Str → Option Value}
theorem pair04 {C : Addr} {f : Str} {y : V} {o1 o2 : Option V} {H : Hp} {R : VK} {gV : List V → List V → List V} (gv : ∀ a b, gV [a] [b] = [a, b])
    (k : ∀ H2 l x1 x2, Ex H H2 → H2 l = some (.lst [x1, x2]) → CG.XVal H2 C f y x1 → CG.XVal H2 C f y x2 → R (.ref l) H2) :
    tLst (tCons (CG.tNewX C (sp_exi C f) (tCons (tVar 0) tNil)) (tCons (CG.tNewXK C 1 (sp_exi C f) gV (tCons (tVar 0) tNil)) tNil)) [some y, o1, o2] H R := by
  refine ⟨y, rfl, (by show 1 ≤ 1000; decide), fun a na => exc_val na fun H1 e1 x1 => ⟨rfl, ?_⟩⟩
  refine ⟨y, rfl, rfl, fun b nb => ?_⟩
  rw [gv]
  refine exc_val nb fun H2 e2 x2 => ⟨rfl, slen rfl, ?_⟩
  (intro l nl; generalize hGl : upd _ l _ = H3; have eH3 := exG hGl nl; have hl := atG hGl; clear hGl)
  exact k _ _ _ _ (ext e1 (ext e2 eH3)) hl (x1.ext fun a u e => (ext e2 eH3) _ _ e) (x2.ext fun a u e => eH3 _ _ e)
theorem comp04 (T : TX K mg) {B : Addr → Prop} {j : Nat} {C : Addr} {f : Str} (hj : (errC T)[j]? = some (C, f)) {y x1 x2 : V} {l : Addr} {o2 : Option V} {H : Hp} {R : VK} (th : Th B H y)
    (hl : H l = some (.lst [x1, x2])) (v1 : CG.XVal H C f y x1) (v2 : CG.XVal H C f y x2)
    (k : ∀ H2 l, Ex H H2 → H2 l = some (.lst [.bl true, .bl true]) → R (.ref l) H2) :
    tLc (iList K (tVar 1)) (gName 2) tYes
      (tCall (sp_law_stores T) [] E0 (tCons (tVar 2) (tCons (tC (V.int (j : Nat))) (tCons (CG.tXaA K f (tVar 2)) (tCons (tVar 0) tNil))))) [2] [some y, some (.ref l), o2] H R := by
  have Z := kind_of T hj
  refine ⟨_, rfl, l, rfl, ⟨_, SqL.of hl⟩, fun D hD => ?_⟩
  refine lc_vals (walk_list (xs := [x1, x2])) [.bl true, .bl true] rfl (by show 2 ≤ 10000000; decide) hD (fun Hx e => SqL.of (e _ _ hl)) ?_ gmono_name ?_
  · rintro i x Ha Hb S hi e ⟨rfl, hx⟩ kk
    have il : i < 2 := (List.getElem?_eq_some_iff.mp hx).1
    have fin : CG.XVal Hb C f y x ∧ [V.bl true, V.bl true][i]? = some (V.bl true) := by
      have i2 : i = 0 ∨ i = 1 := by omega
      rcases i2 with rfl | rfl
      · obtain rfl : x1 = x := Option.some.inj hx
        exact ⟨v1.ext fun a u q => e _ _ q, rfl⟩
      · obtain rfl : x2 = x := Option.some.inj hx
        exact ⟨v2.ext fun a u q => e _ _ q, rfl⟩
    obtain ⟨xv, here⟩ := fin
    exact ⟨rfl, _, rfl, _, rfl, C, y, Z.xf, Z.free, xv, _, rfl, x, j, C, f, y, B, rfl, hj, xv, th.mono e, fun H4 e4 => kk _ _ e4 here⟩
  intro HD eD hDD
  exact k _ _ eD hDD
end
section
variable {P : Program} {w : World} {K : PySem.W.Frag} {mg : Str → Option Value}
theorem tCons_i {t : TE} {ts : TA} {σ : L2.St} {H : Hp} {R : List V → Hp → Prop} (h : t σ H fun x H2 => ts σ H2 fun xs H3 => R (x :: xs) H3) : tCons t ts σ H R := h
theorem sitS (T : TX K mg) {B : Addr → Prop} {j : Nat} {C : Addr} {f : Str} (hj : (errC T)[j]? = some (C, f)) {y : V} {o1 o2 : Option V} {H : Hp} {gV : List V → List V → List V} (gv : ∀ a b, gV [a] [b] = [a, b]) (th : Th B H y)
    {D : Ends} {u rest : TS} (k : ∀ H2, Ex H H2 → rest D [some y, o1, o2] H2) :
    tSeq (tIfS (tNot (tB (tCB (rAll K) (tCons (tLc (iList K (tLst (tCons (CG.tNewX C (sp_exi C f) (tCons (tVar 0) tNil)) (tCons (CG.tNewXK C 1 (sp_exi C f) gV (tCons (tVar 0) tNil)) tNil)))) (gName 2) tYes
      (tCall (sp_law_stores T) [] E0 (tCons (tVar 2) (tCons (tC (V.int (j : Nat))) (tCons (CG.tXaA K f (tVar 2)) (tCons (tVar 0) tNil))))) [2]) tNil)))) u tNext) rest D [some y, o1, o2] H := by
  dsimp only [tSeq, tIfS, tNot, tB, tCB, tRet]
  refine tCons_i ?_
  refine site04 T hj gv th fun H2 l e hl => ?_
  exact ⟨l, [true, true], rfl, SqL.of hl, _, rfl, itf rfl (k _ e)⟩
theorem sitR (T : TX K mg) {B : Addr → Prop} {j : Nat} {C : Addr} {f : Str} (hj : (errC T)[j]? = some (C, f)) {y : V} {o1 o2 : Option V} {H : Hp} {gV : List V → List V → List V} (gv : ∀ a b, gV [a] [b] = [a, b]) (th : Th B H y)
    {D : Ends} (k : ∀ H2, Ex H H2 → D.rt (.bl true) H2) :
    tRet (tCB (rAll K) (tCons (tLc (iList K (tLst (tCons (CG.tNewX C (sp_exi C f) (tCons (tVar 0) tNil)) (tCons (CG.tNewXK C 1 (sp_exi C f) gV (tCons (tVar 0) tNil)) tNil)))) (gName 2) tYes
      (tCall (sp_law_stores T) [] E0 (tCons (tVar 2) (tCons (tC (V.int (j : Nat))) (tCons (CG.tXaA K f (tVar 2)) (tCons (tVar 0) tNil))))) [2]) tNil)) D [some y, o1, o2] H := by
  dsimp only [tSeq, tIfS, tNot, tB, tCB, tRet]
  refine tCons_i ?_
  refine site04 T hj gv th fun H2 l e hl => ?_
  exact ⟨l, [true, true], rfl, SqL.of hl, k _ e⟩
theorem sitP (T : TX K mg) {B : Addr → Prop} {j : Nat} {C : Addr} {f : Str} (hj : (errC T)[j]? = some (C, f)) {y : V} {o1 o2 : Option V} {H : Hp} {gV : List V → List V → List V} (gv : ∀ a b, gV [a] [b] = [a, b]) (th : Th B H y)
    {D : Ends} {u rest : TS} (k : ∀ H2 o3, Ex H H2 → rest D [some y, o3, o2] H2) :
    tSeq (tAsg (tLst (tCons (CG.tNewX C (sp_exi C f) (tCons (tVar 0) tNil)) (tCons (CG.tNewXK C 1 (sp_exi C f) gV (tCons (tVar 0) tNil)) tNil))) (gName 1))
     (tSeq (tIfS (tNot (tB (tCB (rAll K) (tCons (tLc (iList K (tVar 1)) (gName 2) tYes
      (tCall (sp_law_stores T) [] E0 (tCons (tVar 2) (tCons (tC (V.int (j : Nat))) (tCons (CG.tXaA K f (tVar 2)) (tCons (tVar 0) tNil))))) [2]) tNil)))) u tNext) rest) D [some y, o1, o2] H := by
  dsimp only [tSeq, tIfS, tNot, tB, tCB, tRet, tAsg]
  refine pair04 gv fun H1 l x1 x2 e1 hl v1 v2 => ?_
  dsimp only [gName, List.set, tSeq, tIfS, tNot, tB, tCB, tRet]
  refine tCons_i ?_
  refine comp04 T hj (th.mono e1) hl v1 v2 fun H2 l2 e2 hl2 => ?_
  exact ⟨l2, [true, true], rfl, SqL.of hl2, _, rfl, itf rfl (k _ _ (ext e1 e2))⟩
theorem sitQ (T : TX K mg) {B : Addr → Prop} {j : Nat} {C : Addr} {f : Str} (hj : (errC T)[j]? = some (C, f)) {y : V} {o1 o2 : Option V} {H : Hp} {gV : List V → List V → List V} (gv : ∀ a b, gV [a] [b] = [a, b]) (th : Th B H y)
    {D : Ends} (k : ∀ H2, Ex H H2 → D.rt (.bl true) H2) :
    tSeq (tAsg (tLst (tCons (CG.tNewX C (sp_exi C f) (tCons (tVar 0) tNil)) (tCons (CG.tNewXK C 1 (sp_exi C f) gV (tCons (tVar 0) tNil)) tNil))) (gName 1))
     (tRet (tCB (rAll K) (tCons (tLc (iList K (tVar 1)) (gName 2) tYes
      (tCall (sp_law_stores T) [] E0 (tCons (tVar 2) (tCons (tC (V.int (j : Nat))) (tCons (CG.tXaA K f (tVar 2)) (tCons (tVar 0) tNil))))) [2]) tNil))) D [some y, o1, o2] H := by
  dsimp only [tSeq, tIfS, tNot, tB, tCB, tRet, tAsg]
  refine pair04 gv fun H1 l x1 x2 e1 hl v1 v2 => ?_
  dsimp only [gName, List.set, tSeq, tIfS, tNot, tB, tCB, tRet]
  refine tCons_i ?_
  refine comp04 T hj (th.mono e1) hl v1 v2 fun H2 l2 e2 hl2 => ?_
  exact ⟨l2, [true, true], rfl, SqL.of hl2, k _ (ext e1 e2)⟩
end

theorem kb_InvalidTable_init_01 {K : PySem.W.Frag} {mg : Str → Option Value} (T : TX K mg) : KBn K T.fd_InvalidTable_init ["self", "rings"] 1 ["rings"] (fun us ws => pick [0, 1] (us ++ ws)) (fun vs zs => pick [0, 1] (vs ++ zs)) :=
  kbn_of T.F_InvalidTable_init 1 ["rings"] [0, 1] fun _ _ _ _ _ _ us ws h1 h2 => match us, ws, h1, h2 with | [_], [_], _, _ => rfl
theorem kb_InvalidTargets_init_01 {K : PySem.W.Frag} {mg : Str → Option Value} (T : TX K mg) : KBn K T.fd_InvalidTargets_init ["self", "index"] 1 ["index"] (fun us ws => pick [0, 1] (us ++ ws)) (fun vs zs => pick [0, 1] (vs ++ zs)) :=
  kbn_of T.F_InvalidTargets_init 1 ["index"] [0, 1] fun _ _ _ _ _ _ us ws h1 h2 => match us, ws, h1, h2 with | [_], [_], _, _ => rfl
theorem kb_InvalidSeat_init_01 {K : PySem.W.Frag} {mg : Str → Option Value} (T : TX K mg) : KBn K T.fd_InvalidSeat_init ["self", "seat"] 1 ["seat"] (fun us ws => pick [0, 1] (us ++ ws)) (fun vs zs => pick [0, 1] (vs ++ zs)) :=
  kbn_of T.F_InvalidSeat_init 1 ["seat"] [0, 1] fun _ _ _ _ _ _ us ws h1 h2 => match us, ws, h1, h2 with | [_], [_], _, _ => rfl
theorem kb_InvalidCall_init_01 {K : PySem.W.Frag} {mg : Str → Option Value} (T : TX K mg) : KBn K T.fd_InvalidCall_init ["self", "call"] 1 ["call"] (fun us ws => pick [0, 1] (us ++ ws)) (fun vs zs => pick [0, 1] (vs ++ zs)) :=
  kbn_of T.F_InvalidCall_init 1 ["call"] [0, 1] fun _ _ _ _ _ _ us ws h1 h2 => match us, ws, h1, h2 with | [_], [_], _, _ => rfl
theorem kb_InvalidDirection_init_01 {K : PySem.W.Frag} {mg : Str → Option Value} (T : TX K mg) : KBn K T.fd_InvalidDirection_init ["self", "direction"] 1 ["direction"] (fun us ws => pick [0, 1] (us ++ ws)) (fun vs zs => pick [0, 1] (vs ++ zs)) :=
  kbn_of T.F_InvalidDirection_init 1 ["direction"] [0, 1] fun _ _ _ _ _ _ us ws h1 h2 => match us, ws, h1, h2 with | [_], [_], _, _ => rfl
theorem kb_InvalidWitness_init_01 {K : PySem.W.Frag} {mg : Str → Option Value} (T : TX K mg) : KBn K T.fd_InvalidWitness_init ["self", "index"] 1 ["index"] (fun us ws => pick [0, 1] (us ++ ws)) (fun vs zs => pick [0, 1] (vs ++ zs)) :=
  kbn_of T.F_InvalidWitness_init 1 ["index"] [0, 1] fun _ _ _ _ _ _ us ws h1 h2 => match us, ws, h1, h2 with | [_], [_], _, _ => rfl
theorem kb_InvalidNumber_init_01 {K : PySem.W.Frag} {mg : Str → Option Value} (T : TX K mg) : KBn K T.fd_InvalidNumber_init ["self", "name"] 1 ["name"] (fun us ws => pick [0, 1] (us ++ ws)) (fun vs zs => pick [0, 1] (vs ++ zs)) :=
  kbn_of T.F_InvalidNumber_init 1 ["name"] [0, 1] fun _ _ _ _ _ _ us ws h1 h2 => match us, ws, h1, h2 with | [_], [_], _, _ => rfl
theorem kb_InvalidMoves_init_01 {K : PySem.W.Frag} {mg : Str → Option Value} (T : TX K mg) : KBn K T.fd_InvalidMoves_init ["self", "index"] 1 ["index"] (fun us ws => pick [0, 1] (us ++ ws)) (fun vs zs => pick [0, 1] (vs ++ zs)) :=
  kbn_of T.F_InvalidMoves_init 1 ["index"] [0, 1] fun _ _ _ _ _ _ us ws h1 h2 => match us, ws, h1, h2 with | [_], [_], _, _ => rfl
theorem kb_InvalidStrategy_init_01 {K : PySem.W.Frag} {mg : Str → Option Value} (T : TX K mg) : KBn K T.fd_InvalidStrategy_init ["self", "strategy"] 1 ["strategy"] (fun us ws => pick [0, 1] (us ++ ws)) (fun vs zs => pick [0, 1] (vs ++ zs)) :=
  kbn_of T.F_InvalidStrategy_init 1 ["strategy"] [0, 1] fun _ _ _ _ _ _ us ws h1 h2 => match us, ws, h1, h2 with | [_], [_], _, _ => rfl
theorem kb_Mismatch_init_01 {K : PySem.W.Frag} {mg : Str → Option Value} (T : TX K mg) : KBn K T.fd_Mismatch_init ["self", "name"] 1 ["name"] (fun us ws => pick [0, 1] (us ++ ws)) (fun vs zs => pick [0, 1] (vs ++ zs)) :=
  kbn_of T.F_Mismatch_init 1 ["name"] [0, 1] fun _ _ _ _ _ _ us ws h1 h2 => match us, ws, h1, h2 with | [_], [_], _, _ => rfl
theorem kb_TooLarge_init_01 {K : PySem.W.Frag} {mg : Str → Option Value} (T : TX K mg) : KBn K T.fd_TooLarge_init ["self", "limit"] 1 ["limit"] (fun us ws => pick [0, 1] (us ++ ws)) (fun vs zs => pick [0, 1] (vs ++ zs)) :=
  kbn_of T.F_TooLarge_init 1 ["limit"] [0, 1] fun _ _ _ _ _ _ us ws h1 h2 => match us, ws, h1, h2 with | [_], [_], _, _ => rfl
section
variable {P : Program} {w : World} {K : PySem.W.Frag} {mg : Str → Option Value} {base : Heap}
def sp_law_errs : Sp := fun vs H Q _ => ∃ (y : V) (B : Addr → Prop), vs = [y] ∧ Th B H y ∧ ∀ H2, Ex H H2 → Q (.bl true) H2
theorem ok_law_first_errors (T : TX K mg) : CG.FnOkG P w K mg base 3 T.f_law_first_errors T.fd_law_first_errors ["_law_thing"] sp_law_errs := by
  refine CG.okG T.F_law_first_errors sc_law_first_errors (fun vs H Q E h => ?_) (fun cdv A outer s H vs Q E gd hr h => ?_)
  · obtain ⟨y, B, rfl, _⟩ := h
    rfl
  · obtain ⟨y, B, rfl, th, k⟩ := h
    refine ⟨_, (pss_cons (ps_if (pt_not (pt_val (pe_callB (cr_all rfl) (by rfl) T.z_all (by decide +kernel) (pa_cons (pe_lc (own := [("_law_one", 2)]) (g := (gName 2)) rfl sc_law_first_errors.nd (pi_list (pe_lst (pa_cons (CG.pe_newx T.ox_InvalidTable T.i_InvalidTable T.ti_InvalidTable (ok_InvalidTable_init T) (hr.mono (by decide)) T.b_InvalidTable_init pass0 rfl T.m_InvalidTable (pa_cons (pv 0) pa_nil)) (pa_cons (CG.pe_newxk T.ox_InvalidTable T.i_InvalidTable T.ti_InvalidTable (ok_InvalidTable_init T) (hr.mono (by decide)) (kb_InvalidTable_init_01 T) pass0 rfl T.m_InvalidTable (pk_cons (pv 0) pk_nil)) pa_nil)))) (blkOk_by (N := N_law_first_errors) (sc := defScope s_law_first_errors) (by decide +kernel)) (fun _ _ _ _ _ => (pg_name (i := 2) sc_law_first_errors.nd rfl (Or.inl rfl))) (fun _ _ _ _ _ => pts_nil) (fun _ _ _ _ _ => (CG.pe_callG (ok_law_stores T) gd hr rfl T.m_law_stores T.F_law_stores.kp T.b_law_stores .nil pass0 (pa_cons (pv 2) (pa_cons pe_int (pa_cons (CG.pe_xaA K rfl (pv 2) rfl) (pa_cons (pv 0) pa_nil))))))) pa_nil)))) (pss_one (ps_ret pe_bl)) pss_nil) (pss_cons (ps_if (pt_not (pt_val (pe_callB (cr_all rfl) (by rfl) T.z_all (by decide +kernel) (pa_cons (pe_lc (own := [("_law_one", 2)]) (g := (gName 2)) rfl sc_law_first_errors.nd (pi_list (pe_lst (pa_cons (CG.pe_newx T.ox_InvalidTargets T.i_InvalidTargets T.ti_InvalidTargets (ok_InvalidTargets_init T) (hr.mono (by decide)) T.b_InvalidTargets_init pass0 rfl T.m_InvalidTargets (pa_cons (pv 0) pa_nil)) (pa_cons (CG.pe_newxk T.ox_InvalidTargets T.i_InvalidTargets T.ti_InvalidTargets (ok_InvalidTargets_init T) (hr.mono (by decide)) (kb_InvalidTargets_init_01 T) pass0 rfl T.m_InvalidTargets (pk_cons (pv 0) pk_nil)) pa_nil)))) (blkOk_by (N := N_law_first_errors) (sc := defScope s_law_first_errors) (by decide +kernel)) (fun _ _ _ _ _ => (pg_name (i := 2) sc_law_first_errors.nd rfl (Or.inl rfl))) (fun _ _ _ _ _ => pts_nil) (fun _ _ _ _ _ => (CG.pe_callG (ok_law_stores T) gd hr rfl T.m_law_stores T.F_law_stores.kp T.b_law_stores .nil pass0 (pa_cons (pv 2) (pa_cons pe_int (pa_cons (CG.pe_xaA K rfl (pv 2) rfl) (pa_cons (pv 0) pa_nil))))))) pa_nil)))) (pss_one (ps_ret pe_bl)) pss_nil) (pss_cons (ps_if (pt_not (pt_val (pe_callB (cr_all rfl) (by rfl) T.z_all (by decide +kernel) (pa_cons (pe_lc (own := [("_law_one", 2)]) (g := (gName 2)) rfl sc_law_first_errors.nd (pi_list (pe_lst (pa_cons (CG.pe_newx T.ox_InvalidSeat T.i_InvalidSeat T.ti_InvalidSeat (ok_InvalidSeat_init T) (hr.mono (by decide)) T.b_InvalidSeat_init pass0 rfl T.m_InvalidSeat (pa_cons (pv 0) pa_nil)) (pa_cons (CG.pe_newxk T.ox_InvalidSeat T.i_InvalidSeat T.ti_InvalidSeat (ok_InvalidSeat_init T) (hr.mono (by decide)) (kb_InvalidSeat_init_01 T) pass0 rfl T.m_InvalidSeat (pk_cons (pv 0) pk_nil)) pa_nil)))) (blkOk_by (N := N_law_first_errors) (sc := defScope s_law_first_errors) (by decide +kernel)) (fun _ _ _ _ _ => (pg_name (i := 2) sc_law_first_errors.nd rfl (Or.inl rfl))) (fun _ _ _ _ _ => pts_nil) (fun _ _ _ _ _ => (CG.pe_callG (ok_law_stores T) gd hr rfl T.m_law_stores T.F_law_stores.kp T.b_law_stores .nil pass0 (pa_cons (pv 2) (pa_cons pe_int (pa_cons (CG.pe_xaA K rfl (pv 2) rfl) (pa_cons (pv 0) pa_nil))))))) pa_nil)))) (pss_one (ps_ret pe_bl)) pss_nil) (pss_cons (ps_if (pt_not (pt_val (pe_callB (cr_all rfl) (by rfl) T.z_all (by decide +kernel) (pa_cons (pe_lc (own := [("_law_one", 2)]) (g := (gName 2)) rfl sc_law_first_errors.nd (pi_list (pe_lst (pa_cons (CG.pe_newx T.ox_InvalidCall T.i_InvalidCall T.ti_InvalidCall (ok_InvalidCall_init T) (hr.mono (by decide)) T.b_InvalidCall_init pass0 rfl T.m_InvalidCall (pa_cons (pv 0) pa_nil)) (pa_cons (CG.pe_newxk T.ox_InvalidCall T.i_InvalidCall T.ti_InvalidCall (ok_InvalidCall_init T) (hr.mono (by decide)) (kb_InvalidCall_init_01 T) pass0 rfl T.m_InvalidCall (pk_cons (pv 0) pk_nil)) pa_nil)))) (blkOk_by (N := N_law_first_errors) (sc := defScope s_law_first_errors) (by decide +kernel)) (fun _ _ _ _ _ => (pg_name (i := 2) sc_law_first_errors.nd rfl (Or.inl rfl))) (fun _ _ _ _ _ => pts_nil) (fun _ _ _ _ _ => (CG.pe_callG (ok_law_stores T) gd hr rfl T.m_law_stores T.F_law_stores.kp T.b_law_stores .nil pass0 (pa_cons (pv 2) (pa_cons pe_int (pa_cons (CG.pe_xaA K rfl (pv 2) rfl) (pa_cons (pv 0) pa_nil))))))) pa_nil)))) (pss_one (ps_ret pe_bl)) pss_nil) (pss_cons (ps_set (i := 1) sc_law_first_errors.nd rfl (Or.inl rfl) (pe_lst (pa_cons (CG.pe_newx T.ox_InvalidDirection T.i_InvalidDirection T.ti_InvalidDirection (ok_InvalidDirection_init T) (hr.mono (by decide)) T.b_InvalidDirection_init pass0 rfl T.m_InvalidDirection (pa_cons (pv 0) pa_nil)) (pa_cons (CG.pe_newxk T.ox_InvalidDirection T.i_InvalidDirection T.ti_InvalidDirection (ok_InvalidDirection_init T) (hr.mono (by decide)) (kb_InvalidDirection_init_01 T) pass0 rfl T.m_InvalidDirection (pk_cons (pv 0) pk_nil)) pa_nil)))) (pss_one (ps_ret (pe_callB (cr_all rfl) (by rfl) T.z_all (by decide +kernel) (pa_cons (pe_lc (own := [("_law_one", 2)]) (g := (gName 2)) rfl sc_law_first_errors.nd (pi_list (pv 1)) (blkOk_by (N := N_law_first_errors) (sc := defScope s_law_first_errors) (by decide +kernel)) (fun _ _ _ _ _ => (pg_name (i := 2) sc_law_first_errors.nd rfl (Or.inl rfl))) (fun _ _ _ _ _ => pts_nil) (fun _ _ _ _ _ => (CG.pe_callG (ok_law_stores T) gd hr rfl T.m_law_stores T.F_law_stores.kp T.b_law_stores .nil pass0 (pa_cons (pv 2) (pa_cons pe_int (pa_cons (CG.pe_xaA K rfl (pv 2) rfl) (pa_cons (pv 0) pa_nil))))))) pa_nil))))))))), ?_⟩
    show tSeq _ _ _ [some y, none, none] _
    refine sitS T (j := 0) (C := T.C_InvalidTable) (f := "rings") rfl (gV := fun vs zs => pick [0, 1] (vs ++ zs)) (fun _ _ => rfl) th fun G1 e1 => ?_
    have E1 := e1
    refine sitS T (j := 1) (C := T.C_InvalidTargets) (f := "index") rfl (gV := fun vs zs => pick [0, 1] (vs ++ zs)) (fun _ _ => rfl) (th.mono E1) fun G2 e2 => ?_
    have E2 := ext E1 e2
    refine sitS T (j := 2) (C := T.C_InvalidSeat) (f := "seat") rfl (gV := fun vs zs => pick [0, 1] (vs ++ zs)) (fun _ _ => rfl) (th.mono E2) fun G3 e3 => ?_
    have E3 := ext E2 e3
    refine sitS T (j := 3) (C := T.C_InvalidCall) (f := "call") rfl (gV := fun vs zs => pick [0, 1] (vs ++ zs)) (fun _ _ => rfl) (th.mono E3) fun G4 e4 => ?_
    have E4 := ext E3 e4
    refine sitQ T (j := 4) (C := T.C_InvalidDirection) (f := "direction") rfl (gV := fun vs zs => pick [0, 1] (vs ++ zs)) (fun _ _ => rfl) (th.mono E4) fun G5 e5 => ?_
    have E5 := ext E4 e5
    exact k _ E5
theorem ok_law_other_errors (T : TX K mg) : CG.FnOkG P w K mg base 3 T.f_law_other_errors T.fd_law_other_errors ["_law_thing"] sp_law_errs := by
  refine CG.okG T.F_law_other_errors sc_law_other_errors (fun vs H Q E h => ?_) (fun cdv A outer s H vs Q E gd hr h => ?_)
  · obtain ⟨y, B, rfl, _⟩ := h
    rfl
  · obtain ⟨y, B, rfl, th, k⟩ := h
    refine ⟨_, (pss_cons (ps_if (pt_not (pt_val (pe_callB (cr_all rfl) (by rfl) T.z_all (by decide +kernel) (pa_cons (pe_lc (own := [("_law_one", 2)]) (g := (gName 2)) rfl sc_law_other_errors.nd (pi_list (pe_lst (pa_cons (CG.pe_newx T.ox_InvalidWitness T.i_InvalidWitness T.ti_InvalidWitness (ok_InvalidWitness_init T) (hr.mono (by decide)) T.b_InvalidWitness_init pass0 rfl T.m_InvalidWitness (pa_cons (pv 0) pa_nil)) (pa_cons (CG.pe_newxk T.ox_InvalidWitness T.i_InvalidWitness T.ti_InvalidWitness (ok_InvalidWitness_init T) (hr.mono (by decide)) (kb_InvalidWitness_init_01 T) pass0 rfl T.m_InvalidWitness (pk_cons (pv 0) pk_nil)) pa_nil)))) (blkOk_by (N := N_law_other_errors) (sc := defScope s_law_other_errors) (by decide +kernel)) (fun _ _ _ _ _ => (pg_name (i := 2) sc_law_other_errors.nd rfl (Or.inl rfl))) (fun _ _ _ _ _ => pts_nil) (fun _ _ _ _ _ => (CG.pe_callG (ok_law_stores T) gd hr rfl T.m_law_stores T.F_law_stores.kp T.b_law_stores .nil pass0 (pa_cons (pv 2) (pa_cons pe_int (pa_cons (CG.pe_xaA K rfl (pv 2) rfl) (pa_cons (pv 0) pa_nil))))))) pa_nil)))) (pss_one (ps_ret pe_bl)) pss_nil) (pss_cons (ps_if (pt_not (pt_val (pe_callB (cr_all rfl) (by rfl) T.z_all (by decide +kernel) (pa_cons (pe_lc (own := [("_law_one", 2)]) (g := (gName 2)) rfl sc_law_other_errors.nd (pi_list (pe_lst (pa_cons (CG.pe_newx T.ox_InvalidNumber T.i_InvalidNumber T.ti_InvalidNumber (ok_InvalidNumber_init T) (hr.mono (by decide)) T.b_InvalidNumber_init pass0 rfl T.m_InvalidNumber (pa_cons (pv 0) pa_nil)) (pa_cons (CG.pe_newxk T.ox_InvalidNumber T.i_InvalidNumber T.ti_InvalidNumber (ok_InvalidNumber_init T) (hr.mono (by decide)) (kb_InvalidNumber_init_01 T) pass0 rfl T.m_InvalidNumber (pk_cons (pv 0) pk_nil)) pa_nil)))) (blkOk_by (N := N_law_other_errors) (sc := defScope s_law_other_errors) (by decide +kernel)) (fun _ _ _ _ _ => (pg_name (i := 2) sc_law_other_errors.nd rfl (Or.inl rfl))) (fun _ _ _ _ _ => pts_nil) (fun _ _ _ _ _ => (CG.pe_callG (ok_law_stores T) gd hr rfl T.m_law_stores T.F_law_stores.kp T.b_law_stores .nil pass0 (pa_cons (pv 2) (pa_cons pe_int (pa_cons (CG.pe_xaA K rfl (pv 2) rfl) (pa_cons (pv 0) pa_nil))))))) pa_nil)))) (pss_one (ps_ret pe_bl)) pss_nil) (pss_cons (ps_if (pt_not (pt_val (pe_callB (cr_all rfl) (by rfl) T.z_all (by decide +kernel) (pa_cons (pe_lc (own := [("_law_one", 2)]) (g := (gName 2)) rfl sc_law_other_errors.nd (pi_list (pe_lst (pa_cons (CG.pe_newx T.ox_InvalidMoves T.i_InvalidMoves T.ti_InvalidMoves (ok_InvalidMoves_init T) (hr.mono (by decide)) T.b_InvalidMoves_init pass0 rfl T.m_InvalidMoves (pa_cons (pv 0) pa_nil)) (pa_cons (CG.pe_newxk T.ox_InvalidMoves T.i_InvalidMoves T.ti_InvalidMoves (ok_InvalidMoves_init T) (hr.mono (by decide)) (kb_InvalidMoves_init_01 T) pass0 rfl T.m_InvalidMoves (pk_cons (pv 0) pk_nil)) pa_nil)))) (blkOk_by (N := N_law_other_errors) (sc := defScope s_law_other_errors) (by decide +kernel)) (fun _ _ _ _ _ => (pg_name (i := 2) sc_law_other_errors.nd rfl (Or.inl rfl))) (fun _ _ _ _ _ => pts_nil) (fun _ _ _ _ _ => (CG.pe_callG (ok_law_stores T) gd hr rfl T.m_law_stores T.F_law_stores.kp T.b_law_stores .nil pass0 (pa_cons (pv 2) (pa_cons pe_int (pa_cons (CG.pe_xaA K rfl (pv 2) rfl) (pa_cons (pv 0) pa_nil))))))) pa_nil)))) (pss_one (ps_ret pe_bl)) pss_nil) (pss_cons (ps_set (i := 1) sc_law_other_errors.nd rfl (Or.inl rfl) (pe_lst (pa_cons (CG.pe_newx T.ox_InvalidStrategy T.i_InvalidStrategy T.ti_InvalidStrategy (ok_InvalidStrategy_init T) (hr.mono (by decide)) T.b_InvalidStrategy_init pass0 rfl T.m_InvalidStrategy (pa_cons (pv 0) pa_nil)) (pa_cons (CG.pe_newxk T.ox_InvalidStrategy T.i_InvalidStrategy T.ti_InvalidStrategy (ok_InvalidStrategy_init T) (hr.mono (by decide)) (kb_InvalidStrategy_init_01 T) pass0 rfl T.m_InvalidStrategy (pk_cons (pv 0) pk_nil)) pa_nil)))) (pss_cons (ps_if (pt_not (pt_val (pe_callB (cr_all rfl) (by rfl) T.z_all (by decide +kernel) (pa_cons (pe_lc (own := [("_law_one", 2)]) (g := (gName 2)) rfl sc_law_other_errors.nd (pi_list (pv 1)) (blkOk_by (N := N_law_other_errors) (sc := defScope s_law_other_errors) (by decide +kernel)) (fun _ _ _ _ _ => (pg_name (i := 2) sc_law_other_errors.nd rfl (Or.inl rfl))) (fun _ _ _ _ _ => pts_nil) (fun _ _ _ _ _ => (CG.pe_callG (ok_law_stores T) gd hr rfl T.m_law_stores T.F_law_stores.kp T.b_law_stores .nil pass0 (pa_cons (pv 2) (pa_cons pe_int (pa_cons (CG.pe_xaA K rfl (pv 2) rfl) (pa_cons (pv 0) pa_nil))))))) pa_nil)))) (pss_one (ps_ret pe_bl)) pss_nil) (pss_cons (ps_if (pt_not (pt_val (pe_callB (cr_all rfl) (by rfl) T.z_all (by decide +kernel) (pa_cons (pe_lc (own := [("_law_one", 2)]) (g := (gName 2)) rfl sc_law_other_errors.nd (pi_list (pe_lst (pa_cons (CG.pe_newx T.ox_Mismatch T.i_Mismatch T.ti_Mismatch (ok_Mismatch_init T) (hr.mono (by decide)) T.b_Mismatch_init pass0 rfl T.m_Mismatch (pa_cons (pv 0) pa_nil)) (pa_cons (CG.pe_newxk T.ox_Mismatch T.i_Mismatch T.ti_Mismatch (ok_Mismatch_init T) (hr.mono (by decide)) (kb_Mismatch_init_01 T) pass0 rfl T.m_Mismatch (pk_cons (pv 0) pk_nil)) pa_nil)))) (blkOk_by (N := N_law_other_errors) (sc := defScope s_law_other_errors) (by decide +kernel)) (fun _ _ _ _ _ => (pg_name (i := 2) sc_law_other_errors.nd rfl (Or.inl rfl))) (fun _ _ _ _ _ => pts_nil) (fun _ _ _ _ _ => (CG.pe_callG (ok_law_stores T) gd hr rfl T.m_law_stores T.F_law_stores.kp T.b_law_stores .nil pass0 (pa_cons (pv 2) (pa_cons pe_int (pa_cons (CG.pe_xaA K rfl (pv 2) rfl) (pa_cons (pv 0) pa_nil))))))) pa_nil)))) (pss_one (ps_ret pe_bl)) pss_nil) (pss_one (ps_ret (pe_callB (cr_all rfl) (by rfl) T.z_all (by decide +kernel) (pa_cons (pe_lc (own := [("_law_one", 2)]) (g := (gName 2)) rfl sc_law_other_errors.nd (pi_list (pe_lst (pa_cons (CG.pe_newx T.ox_TooLarge T.i_TooLarge T.ti_TooLarge (ok_TooLarge_init T) (hr.mono (by decide)) T.b_TooLarge_init pass0 rfl T.m_TooLarge (pa_cons (pv 0) pa_nil)) (pa_cons (CG.pe_newxk T.ox_TooLarge T.i_TooLarge T.ti_TooLarge (ok_TooLarge_init T) (hr.mono (by decide)) (kb_TooLarge_init_01 T) pass0 rfl T.m_TooLarge (pk_cons (pv 0) pk_nil)) pa_nil)))) (blkOk_by (N := N_law_other_errors) (sc := defScope s_law_other_errors) (by decide +kernel)) (fun _ _ _ _ _ => (pg_name (i := 2) sc_law_other_errors.nd rfl (Or.inl rfl))) (fun _ _ _ _ _ => pts_nil) (fun _ _ _ _ _ => (CG.pe_callG (ok_law_stores T) gd hr rfl T.m_law_stores T.F_law_stores.kp T.b_law_stores .nil pass0 (pa_cons (pv 2) (pa_cons pe_int (pa_cons (CG.pe_xaA K rfl (pv 2) rfl) (pa_cons (pv 0) pa_nil))))))) pa_nil)))))))))), ?_⟩
    show tSeq _ _ _ [some y, none, none] _
    refine sitS T (j := 5) (C := T.C_InvalidWitness) (f := "index") rfl (gV := fun vs zs => pick [0, 1] (vs ++ zs)) (fun _ _ => rfl) th fun G1 e1 => ?_
    have E1 := e1
    refine sitS T (j := 6) (C := T.C_InvalidNumber) (f := "name") rfl (gV := fun vs zs => pick [0, 1] (vs ++ zs)) (fun _ _ => rfl) (th.mono E1) fun G2 e2 => ?_
    have E2 := ext E1 e2
    refine sitS T (j := 7) (C := T.C_InvalidMoves) (f := "index") rfl (gV := fun vs zs => pick [0, 1] (vs ++ zs)) (fun _ _ => rfl) (th.mono E2) fun G3 e3 => ?_
    have E3 := ext E2 e3
    refine sitP T (j := 8) (C := T.C_InvalidStrategy) (f := "strategy") rfl (gV := fun vs zs => pick [0, 1] (vs ++ zs)) (fun _ _ => rfl) (th.mono E3) fun G4 o4 e4 => ?_
    have E4 := ext E3 e4
    refine sitS T (j := 9) (C := T.C_Mismatch) (f := "name") rfl (gV := fun vs zs => pick [0, 1] (vs ++ zs)) (fun _ _ => rfl) (th.mono E4) fun G5 e5 => ?_
    have E5 := ext E4 e5
    refine sitR T (j := 10) (C := T.C_TooLarge) (f := "limit") rfl (gV := fun vs zs => pick [0, 1] (vs ++ zs)) (fun _ _ => rfl) (th.mono E5) fun G6 e6 => ?_
    have E6 := ext E5 e6
    exact k _ E6
end

section
variable {P : Program} {w : World} {K : PySem.W.Frag} {mg : Str → Option Value} {base : Heap}
/-- a cut list of ints is one -/
theorem cut_ints (ns : List Int) (lo hi : Option Int) : ∃ ms : List Int, cutV (ns.map V.int ++ [V.int 0]) lo hi = ms.map V.int := by
  refine ⟨((ns ++ [0]).drop (HT.sIx (ns.map V.int ++ [V.int 0]).length 0 lo)).take (HT.sIx (ns.map V.int ++ [V.int 0]).length (ns.map V.int ++ [V.int 0]).length hi - HT.sIx (ns.map V.int ++ [V.int 0]).length 0 lo), ?_⟩
  unfold cutV
  rw [List.map_take, List.map_drop, List.map_append]
  rfl
end
theorem cut_of (ns : List Int) (lo hi : Option Int) : ∃ ms : List Int, cutV (ns.map V.int) lo hi = ms.map V.int ∧ ms.length ≤ ns.length := by
  refine ⟨(ns.drop (HT.sIx (ns.map V.int).length 0 lo)).take (HT.sIx (ns.map V.int).length (ns.map V.int).length hi - HT.sIx (ns.map V.int).length 0 lo), ?_, ?_⟩
  · unfold cutV
    rw [List.map_take, List.map_drop]
  · rw [List.length_take, List.length_drop]
    omega

theorem th_int {B : Addr → Prop} {H : Hp} {i : Int} (h : i.natAbs < 2 ^ 300) : Th B H (.int i) := .inl ⟨_, .int i, sh_int i, (sx_int h).up (by decide) (by decide)⟩
theorem th_str {B : Addr → Prop} {H : Hp} {x : Str} (h : PyData.canLay0 (.str x) = true) (l : (reprText x).length ≤ 2000) : Th B H (.str x) := .inl ⟨.str x, .str x, ⟨h, by simp only [PyData.depth]; omega⟩, ⟨rfl, by rw [PyData.shown_str]; exact Nat.le_trans l (by decide), by simp only [PyData.depth]; omega⟩⟩
theorem th_non {B : Addr → Prop} {H : Hp} : Th B H .non := .inl ⟨_, .non, sh_none, sx_none.up (by decide) (by decide)⟩
theorem th_bl {B : Addr → Prop} {H : Hp} (b : Bool) : Th B H (.bl b) := .inl ⟨_, .bl b, sh_bool b, (sx_bool b).up (by decide) (by decide)⟩
/-- two ints in a tuple -/
theorem two_sx {i j : Int} (hi : i.natAbs < 2 ^ 300) (hj : j.natAbs < 2 ^ 300) : Sh 1 (iT [i, j]) ∧ Sx 1 5000 (iT [i, j]) := by
  refine ⟨sh_ints _, (sx_tuple (n := 0) (c := 2000) fun d hd => ?_).up (by decide) (by show 2 * (2000 + 2) + 3 ≤ 5000; decide)⟩
  obtain ⟨k, hk, rfl⟩ := List.mem_map.mp hd
  simp only [List.mem_cons, List.not_mem_nil, or_false] at hk
  rcases hk with rfl | rfl
  · exact sx_int hi
  · exact sx_int hj
theorem th_two {B : Addr → Prop} {H : Hp} {a : Addr} {i j : Int} (h : H a = some (.tup [.int i, .int j])) (hi : i.natAbs < 2 ^ 300) (hj : j.natAbs < 2 ^ 300) : Th B H (.ref a) :=
  .inl ⟨iT [i, j], Dq.ints h, (two_sx hi hj).1.up (by decide), (two_sx hi hj).2.up (by decide) (by decide)⟩
theorem th_one {B : Addr → Prop} {H : Hp} {a : Addr} {i : Int} (h : H a = some (.lst [.int i])) (b : B a) (hi : i.natAbs < 2 ^ 300) : Th B H (.ref a) := by
  refine .inl ⟨.list [.int i], .lst h b (.cons (.int i) .nil), (sh_list (n := 1) fun d hd => ?_).up (by decide), (sx_list (n := 0) (c := 2000) fun d hd => ?_).up (by decide) (by show 1 * (2000 + 2) + 3 ≤ 100000; decide)⟩
  · rw [List.mem_singleton.mp hd]
    exact sh_int i
  · rw [List.mem_singleton.mp hd]
    exact sx_int hi
theorem th_in {B : Addr → Prop} {H : Hp} {a b : Addr} {i j k : Int} (h : H a = some (.tup [.ref b, .int k])) (hb : H b = some (.tup [.int i, .int j])) (hi : i.natAbs < 2 ^ 300) (hj : j.natAbs < 2 ^ 300) (hk : k.natAbs < 2 ^ 300) : Th B H (.ref a) := by
  refine .inl ⟨.tuple [iT [i, j], .int k], .tup h (.cons (Dq.ints hb) (.cons (.int k) .nil)), (sh_tuple (n := 1) fun d hd => ?_).up (by decide), (sx_tuple (n := 1) (c := 5000) fun d hd => ?_).up (by decide) (by show 2 * (5000 + 2) + 3 ≤ 100000; decide)⟩
  · simp only [List.mem_cons, List.not_mem_nil, or_false] at hd
    rcases hd with rfl | rfl
    · exact (two_sx hi hj).1
    · exact sh_int k
  · simp only [List.mem_cons, List.not_mem_nil, or_false] at hd
    rcases hd with rfl | rfl
    · exact (two_sx hi hj).2
    · exact (sx_int hk).up (by decide) (by decide)
theorem atI_nn {α : Type} {xs : List α} {k : Nat} {v : α} (h : xs[k]? = some v) : atI xs (k : Int) = some v := by
  unfold atI
  rw [Evl.ixN_nat (List.getElem?_eq_some_iff.mp h).1]
  exact h

section
variable {P : Program} {w : World} {K : PySem.W.Frag} {mg : Str → Option Value} {base : Heap}
def sp_law (K : PySem.W.Frag) : Sp := fun vs H Q _ => ∃ (a : Addr) (ns : List Int), vs = [.ref a] ∧ SqL K H a (ns.map V.int) ∧ ns.length ≤ 63 ∧ ∀ H2, Q (.bl true) H2
theorem ok_law (T : TX K mg) : CG.FnOkG P w K mg base 4 T.f_law T.fd_law ["_law_script"] (sp_law K) := by
  refine CG.okG T.F_law sc_law (fun vs H Q E h => ?_) (fun cdv A outer s H vs Q E gd hr h => ?_)
  · obtain ⟨a, ns, rfl, _⟩ := h
    rfl
  · obtain ⟨a, ns, rfl, hS, hlen, k⟩ := h
    refine ⟨_, (pss_cons (ps_for PassesOwn.never rfl (pi_list (pe_slice sl_list (pe_op (r := rCatR K) op_catR (pv 0) (pe_lst (pa_cons pe_int pa_nil))) po_none (po_some pe_int))) (pg_name (i := 1) sc_law.nd rfl (Or.inl rfl)) (pss_cons (ps_set (i := 2) sc_law.nd rfl (Or.inl rfl) (pe_call (ok_law_source T) (hr.mono (by decide)) rfl T.m_law_source T.F_law_source.kp T.b_law_source .nil pass0 (pa_cons (pv 1) pa_nil))) (pss_cons (ps_set (i := 3) sc_law.nd rfl (Or.inl rfl) (pe_op op_sub (pe_op op_mod (pv 1) (pe_op op_add (pe_op op_mulI pe_int (pe_op op_pow pe_int pe_int)) pe_int)) (pe_op op_pow pe_int pe_int))) (pss_cons (ps_set (i := 4) sc_law.nd rfl (Or.inl rfl) (pe_lst (pa_cons (pv 3) (pa_cons pe_str (pa_cons pe_str (pa_cons pe_non (pa_cons pe_bl (pa_cons (pe_tup (pa_cons pe_int (pa_cons pe_int pa_nil))) (pa_cons (pe_lst (pa_cons (pv 3) pa_nil)) (pa_cons (pe_disp (pps_cons pe_str pe_int pps_nil) rfl rfl (by simp) (by decide)) (pa_cons (pe_tup (pa_cons (pe_tup (pa_cons pe_int (pa_cons pe_int pa_nil))) (pa_cons pe_int pa_nil))) (pa_cons (pe_un un_neg pe_int) (pa_cons (pe_op op_pow pe_int pe_int) (pa_cons pe_dnewK pa_nil)))))))))))))) (pss_one (ps_for PassesOwn.never rfl (pi_range1 rfl T.z_range (pa_cons pe_int pa_nil)) (pg_name (i := 5) sc_law.nd rfl (Or.inl rfl)) (pss_cons (ps_set (i := 6) sc_law.nd rfl (Or.inl rfl) (pe_ix ix_list (pv 4) (pe_call (ok_law_take T) (hr.mono (by decide)) rfl T.m_law_take T.F_law_take.kp T.b_law_take .nil pass0 (pa_cons (pv 2) (pa_cons pe_int pa_nil))) (fun _ _ => rfl))) (pss_one (ps_if (PW.pt (pw_or (pt_not (pt_val (CG.pe_callG (ok_law_first_errors T) gd hr rfl T.m_law_first_errors T.F_law_first_errors.kp T.b_law_first_errors .nil pass0 (pa_cons (pv 6) pa_nil)))) (pw_or1 (pt_not (pt_val (CG.pe_callG (ok_law_other_errors T) gd hr rfl T.m_law_other_errors T.F_law_other_errors.kp T.b_law_other_errors .nil pass0 (pa_cons (pv 6) pa_nil))))))) (pss_one (ps_ret pe_bl)) pss_nil))))))))) (pss_one (ps_ret pe_bl))), ?_⟩
    refine ⟨_, rfl, slen rfl, fun b hb => ?_⟩
    have e1 := exn (o := .lst [.int 0]) hb
    refine ⟨a, b, _, _, rfl, rfl, Evl.ex_l e1 hS, SqL.of upd_same, ?_, fun c hc => ?_⟩
    · rw [List.length_map]
      exact Nat.le_trans (Nat.add_le_add_right hlen 1) (by decide)
    refine ⟨_, rfl, c, _, rfl, SqL.of upd_same, fun d hd => ?_⟩
    obtain ⟨ms, em⟩ := cut_ints ns none (some 3)
    have e3 : upd (upd (upd H b (.lst [.int 0])) c (.lst (ns.map V.int ++ [V.int 0]))) d (.lst (cutV (ns.map V.int ++ [V.int 0]) none (some 3))) d = some (.lst (ms.map V.int)) := by rw [upd_same, em]
    refine ⟨d, rfl, ⟨_, SqL.of e3⟩, ?_⟩
    refine for_it (walk_list (xs := ms.map V.int)) (fun i σ H => (∃ y1 y2 y3 y4 y5 y6, σ = [some (.ref a), y1, y2, y3, y4, y5, y6]) ∧ H d = some (.lst (ms.map V.int))) ⟨⟨_, _, _, _, _, _, rfl⟩, e3⟩ (fun i σ H _ p => SqL.of p.2) ?_ ?_
    · rintro i x σ _ H1 hi ⟨⟨y1, y2, y3, y4, y5, y6, rfl⟩, hd1⟩ ⟨rfl, hx⟩
      obtain ⟨n, _, rfl⟩ := map_get hx
      clear e3 e1 hc hb hd hS
      refine ⟨_, rfl, n, rfl, fun H2 s e2 hs src2 => ?_⟩
      have nds : d ≠ s := ne_of_none hd1 hs
      have hd2 := e2 _ _ hd1
      dsimp only [gName]
      refine ⟨_, rfl, _, _, rfl, rfl, ⟨by decide, by decide +kernel⟩, _, _, rfl, rfl, mul_ok (.inl (by decide)), _, _, rfl, rfl, _, _, rfl, rfl, (by show (0 : Int) < _; decide +kernel), _, _, rfl, rfl, ⟨by decide, by decide +kernel⟩, _, _, rfl, rfl, ?_⟩
      dsimp only [gName]
      have fb : (n % (2 * 10 ^ Int.toNat 40 + 1) - 10 ^ Int.toNat 40 : Int).natAbs < 2 ^ 300 := by
        have m0 := Int.emod_nonneg n (show (2 * 10 ^ Int.toNat 40 + 1 : Int) ≠ 0 by decide +kernel)
        have m1 := Int.emod_lt_of_pos n (show (0 : Int) < 2 * 10 ^ Int.toNat 40 + 1 by decide +kernel)
        have p1 : (10 ^ Int.toNat 40 : Int) = 10000000000000000000000000000000000000000 := by decide +kernel
        rw [p1] at m0 m1 ⊢
        have b1 : (10000000000000000000000000000000000000000 : Nat) < 2 ^ 300 := by decide +kernel
        omega
      generalize (n % (2 * 10 ^ Int.toNat 40 + 1) - 10 ^ Int.toNat 40 : Int) = far at fb
      show tSeq _ _ _ [some (.ref a), some (.int n), some (.ref s), some (.int far), y4, y5, y6] _
      refine ⟨_, rfl, slen rfl, ?_⟩
      (intro t1 nt1; generalize hGt1 : upd _ t1 _ = H3; have eH3 := exG hGt1 nt1; have ht1 := atG hGt1; clear hGt1)
      refine ⟨_, rfl, slen rfl, ?_⟩
      (intro l1 nl1; generalize hGl1 : upd _ l1 _ = H4; have eH4 := exG hGl1 nl1; have hl1 := atG hGl1; clear hGl1)
      refine fun dd ndd => ⟨upd_same, [(.inr "b", .int 1)], rfl, by decide, ?_⟩
      show tCons _ _ _ (upd (upd H4 dd (.dK [])) dd (.dK [(.inr "b", .int 1)])) _
      generalize hG : upd (upd H4 dd (.dK [])) dd (.dK [(.inr "b", .int 1)]) = H5
      have eH5 : Ex H4 H5 := fun c o q => by
        rw [← hG, upd_ne (ne_of_none q ndd), upd_ne (ne_of_none q ndd)]
        exact q
      have hdd := atG hG
      clear hG
      refine ⟨slen rfl, ?_⟩
      (intro t2 nt2; generalize hGt2 : upd _ t2 _ = H6; have eH6 := exG hGt2 nt2; have ht2 := atG hGt2; clear hGt2)
      refine ⟨slen rfl, ?_⟩
      (intro t3 nt3; generalize hGt3 : upd _ t3 _ = H7; have eH7 := exG hGt3 nt3; have ht3 := atG hGt3; clear hGt3)
      refine ⟨_, rfl, _, _, rfl, rfl, ⟨by decide, by decide +kernel⟩, fun de nde => ?_⟩
      generalize hG : upd H7 de _ = H8
      have eH8 := exG hG nde
      have hde := atG hG
      clear hG
      refine ⟨slen rfl, ?_⟩
      (intro L nL; generalize hGL : upd _ L _ = H9; have eH9 := exG hGL nL; have hL := atG hGL; clear hGL)
      have u8 := ext eH8 eH9
      have u6 := ext eH7 u8
      have u5 := ext eH6 u6
      have u4 := ext eH5 u5
      have u3 := ext eH4 u4
      have nl1 := (src2.mono eH3).ne nl1
      have T9 : Ex H2 H9 := ext eH3 u3
      have nLs := (src2.mono (ext eH3 (ext eH4 (ext eH5 (ext eH6 (ext eH7 eH8)))))).ne nL
      have all : ∀ v ∈ [V.int far, .str "forward", .str "", .non, .bl true, .ref t1, .ref l1, .ref dd, .ref t3, .int (-1), .int (10 ^ 20), .ref de], Th (· ≠ s) H9 v := fun v hv => by
        simp only [List.mem_cons, List.not_mem_nil, or_false] at hv
        rcases hv with rfl | rfl | rfl | rfl | rfl | rfl | rfl | rfl | rfl | rfl | rfl | rfl
        · exact th_int fb
        · exact th_str (by simp only [PyData.canLay0]; decide +kernel) (by decide +kernel)
        · exact th_str (by simp only [PyData.canLay0]; decide +kernel) (by decide +kernel)
        · exact th_non
        · exact th_bl true
        · exact th_two (u3 _ _ ht1) (by decide) (by decide)
        · exact th_one (u4 _ _ hl1) nl1 fb
        · exact .inr ⟨dd, _, rfl, .inr rfl, u5 _ _ hdd⟩
        · exact th_in (u8 _ _ ht3) (u6 _ _ ht2) (by decide) (by decide) (by decide)
        · exact th_int (by decide)
        · exact th_int (by decide +kernel)
        · exact .inr ⟨de, _, rfl, .inl rfl, eH9 _ _ hde⟩
      have hL : H9 L = some (.lst [V.int far, .str "forward", .str "", .non, .bl true, .ref t1, .ref l1, .ref dd, .ref t3, .int (-1), .int (10 ^ 20), .ref de]) := hL
      have src9 := src2.mono T9
      have hd9 := T9 _ _ hd2
      have l12 : ([V.int far, .str "forward", .str "", .non, .bl true, .ref t1, .ref l1, .ref dd, .ref t3, .int (-1), .int (10 ^ 20), .ref de]).length = 12 := rfl
      generalize [V.int far, .str "forward", .str "", .non, .bl true, .ref t1, .ref l1, .ref dd, .ref t3, .int (-1), .int (10 ^ 20), .ref de] = vs at all hL l12
      clear T9 u8 u6 u5 u4 u3 nL hde eH8 eH9 eH7 eH6 eH5 eH4 eH3 ht1 ht2 ht3 hl1 hdd hd2 src2 nde ndd
      dsimp only [gName]
      refine ⟨4, rfl, by decide, by decide, ?_⟩
      refine for_it walk_range (fun i σ Hx => (∃ y5 y6 : Option V, σ = [some (.ref a), some (.int n), some (.ref s), some (.int far), some (.ref L), y5, y6]) ∧ XB s H9 Hx ∧ Src Hx s) ⟨⟨_, _, rfl⟩, XB.refl, src9⟩ (fun _ _ _ _ _ => True.intro) ?_ ?_
      · rintro i x σ _ Ha hi ⟨⟨y5, y6, rfl⟩, xa, srca⟩ ⟨rfl, rfl⟩
        dsimp only [gName]
        refine ⟨_, rfl, _, rfl, s, 12, rfl, srca, by decide, by decide +kernel, fun r G r0 r1 xb srcg => ?_⟩
        obtain ⟨j, rfl⟩ := Int.eq_ofNat_of_zero_le r0
        have jl : j < vs.length := by omega
        have hj := List.getElem?_eq_getElem jl
        have th := (all _ (List.getElem_mem jl)).xb src9 (xa.trans xb)
        refine ⟨L, _, _, _, rfl, rfl, SqL.of (xb _ _ nLs (xa _ _ nLs hL)), atI_nn hj, ?_⟩
        dsimp only [gName]
        refine ⟨_, rfl, _, _, rfl, th, fun H5 e5 => ⟨_, rfl, itf rfl ?_⟩⟩
        refine ⟨_, rfl, _, _, rfl, th.mono e5, fun H6 e6 => ⟨_, rfl, itf rfl ?_⟩⟩
        exact ⟨⟨_, _, rfl⟩, (xa.trans xb).trans (XB.of (ext e5 e6)), (srcg.mono e5).mono e6⟩
      · rintro σ Hx ⟨⟨y5, y6, rfl⟩, xa, srca⟩
        exact ⟨⟨_, _, _, _, _, _, rfl⟩, xa _ _ nds hd9⟩
    · rintro σ Hx ⟨⟨y1, y2, y3, y4, y5, y6, rfl⟩, hd1⟩
      exact k _
end

theorem all_mk {K : PySem.W.Frag} {h : Heap} {mg : Str → Option Value} (X : K.In h) (G : h.Ns mainGlobals mg)
    {f0 f1 f2 f3 f4 f5 f6 f7 f8 f9 f10 f11 f12 f13 f14 f15 f16 f17 f18 C_InvalidTable C_InvalidTargets C_InvalidSeat C_InvalidCall C_InvalidDirection C_InvalidWitness C_InvalidNumber C_InvalidMoves C_InvalidStrategy C_Mismatch C_TooLarge C_SeatError : Addr}
    {od0 an0 od1 an1 od2 an2 od3 an3 od4 an4 od5 an5 od6 an6 od7 an7 od8 an8 od9 an9 od10 an10 od11 an11 od12 an12 od13 an13 od14 an14 od15 an15 od16 an16 od17 an17 od18 an18 : Option Addr} {sl0 sl1 sl2 sl3 sl4 sl5 sl6 sl7 sl8 sl9 sl10 sl11 sl12 sl13 sl14 sl15 sl16 sl17 sl18 : Array (Option Value)} {oc0 kV0 dc0 pm0 cd0 ct0 oc1 kV1 dc1 pm1 cd1 ct1 oc2 kV2 dc2 pm2 cd2 ct2 oc3 kV3 dc3 pm3 cd3 ct3 oc4 kV4 dc4 pm4 cd4 ct4 oc5 kV5 dc5 pm5 cd5 ct5 oc6 kV6 dc6 pm6 cd6 ct6 oc7 kV7 dc7 pm7 cd7 ct7 oc8 kV8 dc8 pm8 cd8 ct8 oc9 kV9 dc9 pm9 cd9 ct9 oc10 kV10 dc10 pm10 cd10 ct10 oc11 kV11 dc11 pm11 cd11 ct11 oc12 kV12 dc12 pm12 cd12 ct12 oc13 kV13 dc13 pm13 cd13 ct13 oc14 kV14 dc14 pm14 cd14 ct14 oc15 kV15 dc15 pm15 cd15 ct15 oc16 kV16 dc16 pm16 cd16 ct16 oc17 kV17 dc17 pm17 cd17 ct17 oc18 kV18 dc18 pm18 cd18 ct18 : Value}
    {nm_InvalidTable q_InvalidTable : Str} {N_InvalidTable B_InvalidTable : Addr} {bs_InvalidTable sub_InvalidTable : List Value} {sn_InvalidTable : List Str} {ab_InvalidTable : Bool} {col_InvalidTable : Option Bool} {dd_InvalidTable : Option Addr} {m0_InvalidTable m1_InvalidTable m2_InvalidTable m3_InvalidTable m5_InvalidTable : Option Value}
    {nm_InvalidTargets q_InvalidTargets : Str} {N_InvalidTargets B_InvalidTargets : Addr} {bs_InvalidTargets sub_InvalidTargets : List Value} {sn_InvalidTargets : List Str} {ab_InvalidTargets : Bool} {col_InvalidTargets : Option Bool} {dd_InvalidTargets : Option Addr} {m0_InvalidTargets m1_InvalidTargets m2_InvalidTargets m3_InvalidTargets m5_InvalidTargets : Option Value}
    {nm_InvalidSeat q_InvalidSeat : Str} {N_InvalidSeat B_InvalidSeat : Addr} {bs_InvalidSeat sub_InvalidSeat : List Value} {sn_InvalidSeat : List Str} {ab_InvalidSeat : Bool} {col_InvalidSeat : Option Bool} {dd_InvalidSeat : Option Addr} {m0_InvalidSeat m1_InvalidSeat m2_InvalidSeat m3_InvalidSeat m5_InvalidSeat : Option Value}
    {nm_InvalidCall q_InvalidCall : Str} {N_InvalidCall B_InvalidCall : Addr} {bs_InvalidCall sub_InvalidCall : List Value} {sn_InvalidCall : List Str} {ab_InvalidCall : Bool} {col_InvalidCall : Option Bool} {dd_InvalidCall : Option Addr} {m0_InvalidCall m1_InvalidCall m2_InvalidCall m3_InvalidCall m5_InvalidCall : Option Value}
    {nm_InvalidDirection q_InvalidDirection : Str} {N_InvalidDirection B_InvalidDirection : Addr} {bs_InvalidDirection sub_InvalidDirection : List Value} {sn_InvalidDirection : List Str} {ab_InvalidDirection : Bool} {col_InvalidDirection : Option Bool} {dd_InvalidDirection : Option Addr} {m0_InvalidDirection m1_InvalidDirection m2_InvalidDirection m3_InvalidDirection m5_InvalidDirection : Option Value}
    {nm_InvalidWitness q_InvalidWitness : Str} {N_InvalidWitness B_InvalidWitness : Addr} {bs_InvalidWitness sub_InvalidWitness : List Value} {sn_InvalidWitness : List Str} {ab_InvalidWitness : Bool} {col_InvalidWitness : Option Bool} {dd_InvalidWitness : Option Addr} {m0_InvalidWitness m1_InvalidWitness m2_InvalidWitness m3_InvalidWitness m5_InvalidWitness : Option Value}
    {nm_InvalidNumber q_InvalidNumber : Str} {N_InvalidNumber B_InvalidNumber : Addr} {bs_InvalidNumber sub_InvalidNumber : List Value} {sn_InvalidNumber : List Str} {ab_InvalidNumber : Bool} {col_InvalidNumber : Option Bool} {dd_InvalidNumber : Option Addr} {m0_InvalidNumber m1_InvalidNumber m2_InvalidNumber m3_InvalidNumber m5_InvalidNumber : Option Value}
    {nm_InvalidMoves q_InvalidMoves : Str} {N_InvalidMoves B_InvalidMoves : Addr} {bs_InvalidMoves sub_InvalidMoves : List Value} {sn_InvalidMoves : List Str} {ab_InvalidMoves : Bool} {col_InvalidMoves : Option Bool} {dd_InvalidMoves : Option Addr} {m0_InvalidMoves m1_InvalidMoves m2_InvalidMoves m3_InvalidMoves m5_InvalidMoves : Option Value}
    {nm_InvalidStrategy q_InvalidStrategy : Str} {N_InvalidStrategy B_InvalidStrategy : Addr} {bs_InvalidStrategy sub_InvalidStrategy : List Value} {sn_InvalidStrategy : List Str} {ab_InvalidStrategy : Bool} {col_InvalidStrategy : Option Bool} {dd_InvalidStrategy : Option Addr} {m0_InvalidStrategy m1_InvalidStrategy m2_InvalidStrategy m3_InvalidStrategy m5_InvalidStrategy : Option Value}
    {nm_Mismatch q_Mismatch : Str} {N_Mismatch B_Mismatch : Addr} {bs_Mismatch sub_Mismatch : List Value} {sn_Mismatch : List Str} {ab_Mismatch : Bool} {col_Mismatch : Option Bool} {dd_Mismatch : Option Addr} {m0_Mismatch m1_Mismatch m2_Mismatch m3_Mismatch m5_Mismatch : Option Value}
    {nm_TooLarge q_TooLarge : Str} {N_TooLarge B_TooLarge : Addr} {bs_TooLarge sub_TooLarge : List Value} {sn_TooLarge : List Str} {ab_TooLarge : Bool} {col_TooLarge : Option Bool} {dd_TooLarge : Option Addr} {m0_TooLarge m1_TooLarge m2_TooLarge m3_TooLarge m5_TooLarge : Option Value}
    (aC_SeatError : PySem.W.nsIn K mainGlobals "SeatError" = some (some (.ref C_SeatError)))
    (ex_SeatError : PySem.W.subIn K (.ref C_SeatError) (.type "BaseException") = some true)
    (ty_SeatError : PySem.W.typeIn K (.ref C_SeatError) = some (.type "type"))
    (il_SeatError : PySem.W.isClsIn K C_SeatError = true)
    (aC_InvalidTable : PySem.W.nsIn K mainGlobals "InvalidTable" = some (some (.ref C_InvalidTable)))
    (aC_InvalidTargets : PySem.W.nsIn K mainGlobals "InvalidTargets" = some (some (.ref C_InvalidTargets)))
    (aC_InvalidSeat : PySem.W.nsIn K mainGlobals "InvalidSeat" = some (some (.ref C_InvalidSeat)))
    (aC_InvalidCall : PySem.W.nsIn K mainGlobals "InvalidCall" = some (some (.ref C_InvalidCall)))
    (aC_InvalidDirection : PySem.W.nsIn K mainGlobals "InvalidDirection" = some (some (.ref C_InvalidDirection)))
    (aC_InvalidWitness : PySem.W.nsIn K mainGlobals "InvalidWitness" = some (some (.ref C_InvalidWitness)))
    (aC_InvalidNumber : PySem.W.nsIn K mainGlobals "InvalidNumber" = some (some (.ref C_InvalidNumber)))
    (aC_InvalidMoves : PySem.W.nsIn K mainGlobals "InvalidMoves" = some (some (.ref C_InvalidMoves)))
    (aC_InvalidStrategy : PySem.W.nsIn K mainGlobals "InvalidStrategy" = some (some (.ref C_InvalidStrategy)))
    (aC_Mismatch : PySem.W.nsIn K mainGlobals "Mismatch" = some (some (.ref C_Mismatch)))
    (aC_TooLarge : PySem.W.nsIn K mainGlobals "TooLarge" = some (some (.ref C_TooLarge)))
    (a0 : PySem.W.findIn K (.ref C_InvalidTable) "__init__" = some (some (.ref f0)))
    (i0 : PySem.W.isFn K (.ref f0) = true)
    (l0 : K.lookup f0 = some ⟨oc0, od0, .func (PySem.W.fnOf "__init__" "InvalidTable.__init__" (defArgs s_InvalidTable_init) (defBody s_InvalidTable_init) (defScope s_InvalidTable_init) .none kV0 dc0 pm0 an0 cd0 ct0), sl0⟩)
    (c0 : PySem.W.codeIn K cd0 "InvalidTable.__init__" = true)
    (k0 : PySem.W.keepIn K (.ref f0) = true)
    (a1 : PySem.W.findIn K (.ref C_InvalidTargets) "__init__" = some (some (.ref f1)))
    (i1 : PySem.W.isFn K (.ref f1) = true)
    (l1 : K.lookup f1 = some ⟨oc1, od1, .func (PySem.W.fnOf "__init__" "InvalidTargets.__init__" (defArgs s_InvalidTargets_init) (defBody s_InvalidTargets_init) (defScope s_InvalidTargets_init) .none kV1 dc1 pm1 an1 cd1 ct1), sl1⟩)
    (c1 : PySem.W.codeIn K cd1 "InvalidTargets.__init__" = true)
    (k1 : PySem.W.keepIn K (.ref f1) = true)
    (a2 : PySem.W.findIn K (.ref C_InvalidSeat) "__init__" = some (some (.ref f2)))
    (i2 : PySem.W.isFn K (.ref f2) = true)
    (l2 : K.lookup f2 = some ⟨oc2, od2, .func (PySem.W.fnOf "__init__" "InvalidSeat.__init__" (defArgs s_InvalidSeat_init) (defBody s_InvalidSeat_init) (defScope s_InvalidSeat_init) .none kV2 dc2 pm2 an2 cd2 ct2), sl2⟩)
    (c2 : PySem.W.codeIn K cd2 "InvalidSeat.__init__" = true)
    (k2 : PySem.W.keepIn K (.ref f2) = true)
    (a3 : PySem.W.findIn K (.ref C_InvalidCall) "__init__" = some (some (.ref f3)))
    (i3 : PySem.W.isFn K (.ref f3) = true)
    (l3 : K.lookup f3 = some ⟨oc3, od3, .func (PySem.W.fnOf "__init__" "InvalidCall.__init__" (defArgs s_InvalidCall_init) (defBody s_InvalidCall_init) (defScope s_InvalidCall_init) .none kV3 dc3 pm3 an3 cd3 ct3), sl3⟩)
    (c3 : PySem.W.codeIn K cd3 "InvalidCall.__init__" = true)
    (k3 : PySem.W.keepIn K (.ref f3) = true)
    (a4 : PySem.W.findIn K (.ref C_InvalidDirection) "__init__" = some (some (.ref f4)))
    (i4 : PySem.W.isFn K (.ref f4) = true)
    (l4 : K.lookup f4 = some ⟨oc4, od4, .func (PySem.W.fnOf "__init__" "InvalidDirection.__init__" (defArgs s_InvalidDirection_init) (defBody s_InvalidDirection_init) (defScope s_InvalidDirection_init) .none kV4 dc4 pm4 an4 cd4 ct4), sl4⟩)
    (c4 : PySem.W.codeIn K cd4 "InvalidDirection.__init__" = true)
    (k4 : PySem.W.keepIn K (.ref f4) = true)
    (a5 : PySem.W.findIn K (.ref C_InvalidWitness) "__init__" = some (some (.ref f5)))
    (i5 : PySem.W.isFn K (.ref f5) = true)
    (l5 : K.lookup f5 = some ⟨oc5, od5, .func (PySem.W.fnOf "__init__" "InvalidWitness.__init__" (defArgs s_InvalidWitness_init) (defBody s_InvalidWitness_init) (defScope s_InvalidWitness_init) .none kV5 dc5 pm5 an5 cd5 ct5), sl5⟩)
    (c5 : PySem.W.codeIn K cd5 "InvalidWitness.__init__" = true)
    (k5 : PySem.W.keepIn K (.ref f5) = true)
    (a6 : PySem.W.findIn K (.ref C_InvalidNumber) "__init__" = some (some (.ref f6)))
    (i6 : PySem.W.isFn K (.ref f6) = true)
    (l6 : K.lookup f6 = some ⟨oc6, od6, .func (PySem.W.fnOf "__init__" "InvalidNumber.__init__" (defArgs s_InvalidNumber_init) (defBody s_InvalidNumber_init) (defScope s_InvalidNumber_init) .none kV6 dc6 pm6 an6 cd6 ct6), sl6⟩)
    (c6 : PySem.W.codeIn K cd6 "InvalidNumber.__init__" = true)
    (k6 : PySem.W.keepIn K (.ref f6) = true)
    (a7 : PySem.W.findIn K (.ref C_InvalidMoves) "__init__" = some (some (.ref f7)))
    (i7 : PySem.W.isFn K (.ref f7) = true)
    (l7 : K.lookup f7 = some ⟨oc7, od7, .func (PySem.W.fnOf "__init__" "InvalidMoves.__init__" (defArgs s_InvalidMoves_init) (defBody s_InvalidMoves_init) (defScope s_InvalidMoves_init) .none kV7 dc7 pm7 an7 cd7 ct7), sl7⟩)
    (c7 : PySem.W.codeIn K cd7 "InvalidMoves.__init__" = true)
    (k7 : PySem.W.keepIn K (.ref f7) = true)
    (a8 : PySem.W.findIn K (.ref C_InvalidStrategy) "__init__" = some (some (.ref f8)))
    (i8 : PySem.W.isFn K (.ref f8) = true)
    (l8 : K.lookup f8 = some ⟨oc8, od8, .func (PySem.W.fnOf "__init__" "InvalidStrategy.__init__" (defArgs s_InvalidStrategy_init) (defBody s_InvalidStrategy_init) (defScope s_InvalidStrategy_init) .none kV8 dc8 pm8 an8 cd8 ct8), sl8⟩)
    (c8 : PySem.W.codeIn K cd8 "InvalidStrategy.__init__" = true)
    (k8 : PySem.W.keepIn K (.ref f8) = true)
    (a9 : PySem.W.findIn K (.ref C_Mismatch) "__init__" = some (some (.ref f9)))
    (i9 : PySem.W.isFn K (.ref f9) = true)
    (l9 : K.lookup f9 = some ⟨oc9, od9, .func (PySem.W.fnOf "__init__" "Mismatch.__init__" (defArgs s_Mismatch_init) (defBody s_Mismatch_init) (defScope s_Mismatch_init) .none kV9 dc9 pm9 an9 cd9 ct9), sl9⟩)
    (c9 : PySem.W.codeIn K cd9 "Mismatch.__init__" = true)
    (k9 : PySem.W.keepIn K (.ref f9) = true)
    (a10 : PySem.W.findIn K (.ref C_TooLarge) "__init__" = some (some (.ref f10)))
    (i10 : PySem.W.isFn K (.ref f10) = true)
    (l10 : K.lookup f10 = some ⟨oc10, od10, .func (PySem.W.fnOf "__init__" "TooLarge.__init__" (defArgs s_TooLarge_init) (defBody s_TooLarge_init) (defScope s_TooLarge_init) .none kV10 dc10 pm10 an10 cd10 ct10), sl10⟩)
    (c10 : PySem.W.codeIn K cd10 "TooLarge.__init__" = true)
    (k10 : PySem.W.keepIn K (.ref f10) = true)
    (a11 : PySem.W.nsIn K mainGlobals "_law_mixed" = some (some (.ref f11)))
    (l11 : K.lookup f11 = some ⟨oc11, od11, .func (PySem.W.fnOf "_law_mixed" "_law_mixed" (defArgs s_law_mixed) (defBody s_law_mixed) (defScope s_law_mixed) .none kV11 dc11 pm11 an11 cd11 ct11), sl11⟩)
    (c11 : PySem.W.codeIn K cd11 "_law_mixed" = true)
    (k11 : PySem.W.keepIn K (.ref f11) = true)
    (a12 : PySem.W.nsIn K mainGlobals "_law_source" = some (some (.ref f12)))
    (l12 : K.lookup f12 = some ⟨oc12, od12, .func (PySem.W.fnOf "_law_source" "_law_source" (defArgs s_law_source) (defBody s_law_source) (defScope s_law_source) .none kV12 dc12 pm12 an12 cd12 ct12), sl12⟩)
    (c12 : PySem.W.codeIn K cd12 "_law_source" = true)
    (k12 : PySem.W.keepIn K (.ref f12) = true)
    (a13 : PySem.W.nsIn K mainGlobals "_law_take" = some (some (.ref f13)))
    (l13 : K.lookup f13 = some ⟨oc13, od13, .func (PySem.W.fnOf "_law_take" "_law_take" (defArgs s_law_take) (defBody s_law_take) (defScope s_law_take) .none kV13 dc13 pm13 an13 cd13 ct13), sl13⟩)
    (c13 : PySem.W.codeIn K cd13 "_law_take" = true)
    (k13 : PySem.W.keepIn K (.ref f13) = true)
    (a14 : PySem.W.nsIn K mainGlobals "_law_kinds" = some (some (.ref f14)))
    (l14 : K.lookup f14 = some ⟨oc14, od14, .func (PySem.W.fnOf "_law_kinds" "_law_kinds" (defArgs s_law_kinds) (defBody s_law_kinds) (defScope s_law_kinds) .none kV14 dc14 pm14 an14 cd14 ct14), sl14⟩)
    (c14 : PySem.W.codeIn K cd14 "_law_kinds" = true)
    (k14 : PySem.W.keepIn K (.ref f14) = true)
    (a15 : PySem.W.nsIn K mainGlobals "_law_stores" = some (some (.ref f15)))
    (l15 : K.lookup f15 = some ⟨oc15, od15, .func (PySem.W.fnOf "_law_stores" "_law_stores" (defArgs s_law_stores) (defBody s_law_stores) (defScope s_law_stores) .none kV15 dc15 pm15 an15 cd15 ct15), sl15⟩)
    (c15 : PySem.W.codeIn K cd15 "_law_stores" = true)
    (k15 : PySem.W.keepIn K (.ref f15) = true)
    (a16 : PySem.W.nsIn K mainGlobals "_law_first_errors" = some (some (.ref f16)))
    (l16 : K.lookup f16 = some ⟨oc16, od16, .func (PySem.W.fnOf "_law_first_errors" "_law_first_errors" (defArgs s_law_first_errors) (defBody s_law_first_errors) (defScope s_law_first_errors) .none kV16 dc16 pm16 an16 cd16 ct16), sl16⟩)
    (c16 : PySem.W.codeIn K cd16 "_law_first_errors" = true)
    (k16 : PySem.W.keepIn K (.ref f16) = true)
    (a17 : PySem.W.nsIn K mainGlobals "_law_other_errors" = some (some (.ref f17)))
    (l17 : K.lookup f17 = some ⟨oc17, od17, .func (PySem.W.fnOf "_law_other_errors" "_law_other_errors" (defArgs s_law_other_errors) (defBody s_law_other_errors) (defScope s_law_other_errors) .none kV17 dc17 pm17 an17 cd17 ct17), sl17⟩)
    (c17 : PySem.W.codeIn K cd17 "_law_other_errors" = true)
    (k17 : PySem.W.keepIn K (.ref f17) = true)
    (a18 : PySem.W.nsIn K mainGlobals "law" = some (some (.ref f18)))
    (l18 : K.lookup f18 = some ⟨oc18, od18, .func (PySem.W.fnOf "law" "law" (defArgs s_law) (defBody s_law) (defScope s_law) .none kV18 dc18 pm18 an18 cd18 ct18), sl18⟩)
    (c18 : PySem.W.codeIn K cd18 "law" = true)
    (k18 : PySem.W.keepIn K (.ref f18) = true)
    (xl_InvalidTable : K.lookup C_InvalidTable = some (excClassObj nm_InvalidTable q_InvalidTable C_InvalidTable N_InvalidTable bs_InvalidTable [.ref B_InvalidTable, .type "ValueError", .type "Exception", .type "BaseException", .type "object"] true sn_InvalidTable sub_InvalidTable ab_InvalidTable col_InvalidTable dd_InvalidTable m0_InvalidTable m1_InvalidTable m2_InvalidTable m3_InvalidTable m5_InvalidTable "ValueError.__new__"))
    (sa_InvalidTable : PySem.W.findIn K (.ref C_InvalidTable) "__setattr__" = some (some (.builtin "object.__setattr__")))
    (ga_InvalidTable : PySem.W.findIn K (.ref C_InvalidTable) "__getattribute__" = some (some (.builtin "BaseException.__getattribute__")))
    (gg_InvalidTable : PySem.W.findIn K (.ref C_InvalidTable) "__getattr__" = some none)
    (ti_InvalidTable : PySem.W.typeIn K (.ref f0) = some (.type "function"))
    (kc_InvalidTable : PySem.W.keepIn K (.ref C_InvalidTable) = true)
    (ex_InvalidTable : PySem.W.subIn K (.ref C_InvalidTable) (.type "BaseException") = some true)
    (ty_InvalidTable : PySem.W.typeIn K (.ref C_InvalidTable) = some (.type "type"))
    (hd_InvalidTable : PySem.W.hasDictIn K C_InvalidTable = true)
    (il_InvalidTable : PySem.W.isClsIn K C_InvalidTable = true)
    (ss_InvalidTable : PySem.W.subIn K (.ref C_InvalidTable) (.ref C_InvalidTable) = some true)
    (ss_InvalidTable_SeatError : PySem.W.subIn K (.ref C_InvalidTable) (.ref C_SeatError) = some true)
    (n_InvalidTable_rings : PySem.W.findIn K (.ref C_InvalidTable) "rings" = some none)
    (xl_InvalidTargets : K.lookup C_InvalidTargets = some (excClassObj nm_InvalidTargets q_InvalidTargets C_InvalidTargets N_InvalidTargets bs_InvalidTargets [.ref B_InvalidTargets, .type "ValueError", .type "Exception", .type "BaseException", .type "object"] true sn_InvalidTargets sub_InvalidTargets ab_InvalidTargets col_InvalidTargets dd_InvalidTargets m0_InvalidTargets m1_InvalidTargets m2_InvalidTargets m3_InvalidTargets m5_InvalidTargets "ValueError.__new__"))
    (sa_InvalidTargets : PySem.W.findIn K (.ref C_InvalidTargets) "__setattr__" = some (some (.builtin "object.__setattr__")))
    (ga_InvalidTargets : PySem.W.findIn K (.ref C_InvalidTargets) "__getattribute__" = some (some (.builtin "BaseException.__getattribute__")))
    (gg_InvalidTargets : PySem.W.findIn K (.ref C_InvalidTargets) "__getattr__" = some none)
    (ti_InvalidTargets : PySem.W.typeIn K (.ref f1) = some (.type "function"))
    (kc_InvalidTargets : PySem.W.keepIn K (.ref C_InvalidTargets) = true)
    (ex_InvalidTargets : PySem.W.subIn K (.ref C_InvalidTargets) (.type "BaseException") = some true)
    (ty_InvalidTargets : PySem.W.typeIn K (.ref C_InvalidTargets) = some (.type "type"))
    (hd_InvalidTargets : PySem.W.hasDictIn K C_InvalidTargets = true)
    (il_InvalidTargets : PySem.W.isClsIn K C_InvalidTargets = true)
    (ss_InvalidTargets : PySem.W.subIn K (.ref C_InvalidTargets) (.ref C_InvalidTargets) = some true)
    (ss_InvalidTargets_SeatError : PySem.W.subIn K (.ref C_InvalidTargets) (.ref C_SeatError) = some true)
    (n_InvalidTargets_index : PySem.W.findIn K (.ref C_InvalidTargets) "index" = some none)
    (xl_InvalidSeat : K.lookup C_InvalidSeat = some (excClassObj nm_InvalidSeat q_InvalidSeat C_InvalidSeat N_InvalidSeat bs_InvalidSeat [.ref B_InvalidSeat, .type "ValueError", .type "Exception", .type "BaseException", .type "object"] true sn_InvalidSeat sub_InvalidSeat ab_InvalidSeat col_InvalidSeat dd_InvalidSeat m0_InvalidSeat m1_InvalidSeat m2_InvalidSeat m3_InvalidSeat m5_InvalidSeat "ValueError.__new__"))
    (sa_InvalidSeat : PySem.W.findIn K (.ref C_InvalidSeat) "__setattr__" = some (some (.builtin "object.__setattr__")))
    (ga_InvalidSeat : PySem.W.findIn K (.ref C_InvalidSeat) "__getattribute__" = some (some (.builtin "BaseException.__getattribute__")))
    (gg_InvalidSeat : PySem.W.findIn K (.ref C_InvalidSeat) "__getattr__" = some none)
    (ti_InvalidSeat : PySem.W.typeIn K (.ref f2) = some (.type "function"))
    (kc_InvalidSeat : PySem.W.keepIn K (.ref C_InvalidSeat) = true)
    (ex_InvalidSeat : PySem.W.subIn K (.ref C_InvalidSeat) (.type "BaseException") = some true)
    (ty_InvalidSeat : PySem.W.typeIn K (.ref C_InvalidSeat) = some (.type "type"))
    (hd_InvalidSeat : PySem.W.hasDictIn K C_InvalidSeat = true)
    (il_InvalidSeat : PySem.W.isClsIn K C_InvalidSeat = true)
    (ss_InvalidSeat : PySem.W.subIn K (.ref C_InvalidSeat) (.ref C_InvalidSeat) = some true)
    (ss_InvalidSeat_SeatError : PySem.W.subIn K (.ref C_InvalidSeat) (.ref C_SeatError) = some true)
    (n_InvalidSeat_seat : PySem.W.findIn K (.ref C_InvalidSeat) "seat" = some none)
    (xl_InvalidCall : K.lookup C_InvalidCall = some (excClassObj nm_InvalidCall q_InvalidCall C_InvalidCall N_InvalidCall bs_InvalidCall [.ref B_InvalidCall, .type "ValueError", .type "Exception", .type "BaseException", .type "object"] true sn_InvalidCall sub_InvalidCall ab_InvalidCall col_InvalidCall dd_InvalidCall m0_InvalidCall m1_InvalidCall m2_InvalidCall m3_InvalidCall m5_InvalidCall "ValueError.__new__"))
    (sa_InvalidCall : PySem.W.findIn K (.ref C_InvalidCall) "__setattr__" = some (some (.builtin "object.__setattr__")))
    (ga_InvalidCall : PySem.W.findIn K (.ref C_InvalidCall) "__getattribute__" = some (some (.builtin "BaseException.__getattribute__")))
    (gg_InvalidCall : PySem.W.findIn K (.ref C_InvalidCall) "__getattr__" = some none)
    (ti_InvalidCall : PySem.W.typeIn K (.ref f3) = some (.type "function"))
    (kc_InvalidCall : PySem.W.keepIn K (.ref C_InvalidCall) = true)
    (ex_InvalidCall : PySem.W.subIn K (.ref C_InvalidCall) (.type "BaseException") = some true)
    (ty_InvalidCall : PySem.W.typeIn K (.ref C_InvalidCall) = some (.type "type"))
    (hd_InvalidCall : PySem.W.hasDictIn K C_InvalidCall = true)
    (il_InvalidCall : PySem.W.isClsIn K C_InvalidCall = true)
    (ss_InvalidCall : PySem.W.subIn K (.ref C_InvalidCall) (.ref C_InvalidCall) = some true)
    (ss_InvalidCall_SeatError : PySem.W.subIn K (.ref C_InvalidCall) (.ref C_SeatError) = some true)
    (n_InvalidCall_call : PySem.W.findIn K (.ref C_InvalidCall) "call" = some none)
    (xl_InvalidDirection : K.lookup C_InvalidDirection = some (excClassObj nm_InvalidDirection q_InvalidDirection C_InvalidDirection N_InvalidDirection bs_InvalidDirection [.ref B_InvalidDirection, .type "ValueError", .type "Exception", .type "BaseException", .type "object"] true sn_InvalidDirection sub_InvalidDirection ab_InvalidDirection col_InvalidDirection dd_InvalidDirection m0_InvalidDirection m1_InvalidDirection m2_InvalidDirection m3_InvalidDirection m5_InvalidDirection "ValueError.__new__"))
    (sa_InvalidDirection : PySem.W.findIn K (.ref C_InvalidDirection) "__setattr__" = some (some (.builtin "object.__setattr__")))
    (ga_InvalidDirection : PySem.W.findIn K (.ref C_InvalidDirection) "__getattribute__" = some (some (.builtin "BaseException.__getattribute__")))
    (gg_InvalidDirection : PySem.W.findIn K (.ref C_InvalidDirection) "__getattr__" = some none)
    (ti_InvalidDirection : PySem.W.typeIn K (.ref f4) = some (.type "function"))
    (kc_InvalidDirection : PySem.W.keepIn K (.ref C_InvalidDirection) = true)
    (ex_InvalidDirection : PySem.W.subIn K (.ref C_InvalidDirection) (.type "BaseException") = some true)
    (ty_InvalidDirection : PySem.W.typeIn K (.ref C_InvalidDirection) = some (.type "type"))
    (hd_InvalidDirection : PySem.W.hasDictIn K C_InvalidDirection = true)
    (il_InvalidDirection : PySem.W.isClsIn K C_InvalidDirection = true)
    (ss_InvalidDirection : PySem.W.subIn K (.ref C_InvalidDirection) (.ref C_InvalidDirection) = some true)
    (ss_InvalidDirection_SeatError : PySem.W.subIn K (.ref C_InvalidDirection) (.ref C_SeatError) = some true)
    (n_InvalidDirection_direction : PySem.W.findIn K (.ref C_InvalidDirection) "direction" = some none)
    (xl_InvalidWitness : K.lookup C_InvalidWitness = some (excClassObj nm_InvalidWitness q_InvalidWitness C_InvalidWitness N_InvalidWitness bs_InvalidWitness [.ref B_InvalidWitness, .type "ValueError", .type "Exception", .type "BaseException", .type "object"] true sn_InvalidWitness sub_InvalidWitness ab_InvalidWitness col_InvalidWitness dd_InvalidWitness m0_InvalidWitness m1_InvalidWitness m2_InvalidWitness m3_InvalidWitness m5_InvalidWitness "ValueError.__new__"))
    (sa_InvalidWitness : PySem.W.findIn K (.ref C_InvalidWitness) "__setattr__" = some (some (.builtin "object.__setattr__")))
    (ga_InvalidWitness : PySem.W.findIn K (.ref C_InvalidWitness) "__getattribute__" = some (some (.builtin "BaseException.__getattribute__")))
    (gg_InvalidWitness : PySem.W.findIn K (.ref C_InvalidWitness) "__getattr__" = some none)
    (ti_InvalidWitness : PySem.W.typeIn K (.ref f5) = some (.type "function"))
    (kc_InvalidWitness : PySem.W.keepIn K (.ref C_InvalidWitness) = true)
    (ex_InvalidWitness : PySem.W.subIn K (.ref C_InvalidWitness) (.type "BaseException") = some true)
    (ty_InvalidWitness : PySem.W.typeIn K (.ref C_InvalidWitness) = some (.type "type"))
    (hd_InvalidWitness : PySem.W.hasDictIn K C_InvalidWitness = true)
    (il_InvalidWitness : PySem.W.isClsIn K C_InvalidWitness = true)
    (ss_InvalidWitness : PySem.W.subIn K (.ref C_InvalidWitness) (.ref C_InvalidWitness) = some true)
    (ss_InvalidWitness_SeatError : PySem.W.subIn K (.ref C_InvalidWitness) (.ref C_SeatError) = some true)
    (n_InvalidWitness_index : PySem.W.findIn K (.ref C_InvalidWitness) "index" = some none)
    (xl_InvalidNumber : K.lookup C_InvalidNumber = some (excClassObj nm_InvalidNumber q_InvalidNumber C_InvalidNumber N_InvalidNumber bs_InvalidNumber [.ref B_InvalidNumber, .type "ValueError", .type "Exception", .type "BaseException", .type "object"] true sn_InvalidNumber sub_InvalidNumber ab_InvalidNumber col_InvalidNumber dd_InvalidNumber m0_InvalidNumber m1_InvalidNumber m2_InvalidNumber m3_InvalidNumber m5_InvalidNumber "ValueError.__new__"))
    (sa_InvalidNumber : PySem.W.findIn K (.ref C_InvalidNumber) "__setattr__" = some (some (.builtin "object.__setattr__")))
    (ga_InvalidNumber : PySem.W.findIn K (.ref C_InvalidNumber) "__getattribute__" = some (some (.builtin "BaseException.__getattribute__")))
    (gg_InvalidNumber : PySem.W.findIn K (.ref C_InvalidNumber) "__getattr__" = some none)
    (ti_InvalidNumber : PySem.W.typeIn K (.ref f6) = some (.type "function"))
    (kc_InvalidNumber : PySem.W.keepIn K (.ref C_InvalidNumber) = true)
    (ex_InvalidNumber : PySem.W.subIn K (.ref C_InvalidNumber) (.type "BaseException") = some true)
    (ty_InvalidNumber : PySem.W.typeIn K (.ref C_InvalidNumber) = some (.type "type"))
    (hd_InvalidNumber : PySem.W.hasDictIn K C_InvalidNumber = true)
    (il_InvalidNumber : PySem.W.isClsIn K C_InvalidNumber = true)
    (ss_InvalidNumber : PySem.W.subIn K (.ref C_InvalidNumber) (.ref C_InvalidNumber) = some true)
    (ss_InvalidNumber_SeatError : PySem.W.subIn K (.ref C_InvalidNumber) (.ref C_SeatError) = some true)
    (n_InvalidNumber_name : PySem.W.findIn K (.ref C_InvalidNumber) "name" = some none)
    (xl_InvalidMoves : K.lookup C_InvalidMoves = some (excClassObj nm_InvalidMoves q_InvalidMoves C_InvalidMoves N_InvalidMoves bs_InvalidMoves [.ref B_InvalidMoves, .type "ValueError", .type "Exception", .type "BaseException", .type "object"] true sn_InvalidMoves sub_InvalidMoves ab_InvalidMoves col_InvalidMoves dd_InvalidMoves m0_InvalidMoves m1_InvalidMoves m2_InvalidMoves m3_InvalidMoves m5_InvalidMoves "ValueError.__new__"))
    (sa_InvalidMoves : PySem.W.findIn K (.ref C_InvalidMoves) "__setattr__" = some (some (.builtin "object.__setattr__")))
    (ga_InvalidMoves : PySem.W.findIn K (.ref C_InvalidMoves) "__getattribute__" = some (some (.builtin "BaseException.__getattribute__")))
    (gg_InvalidMoves : PySem.W.findIn K (.ref C_InvalidMoves) "__getattr__" = some none)
    (ti_InvalidMoves : PySem.W.typeIn K (.ref f7) = some (.type "function"))
    (kc_InvalidMoves : PySem.W.keepIn K (.ref C_InvalidMoves) = true)
    (ex_InvalidMoves : PySem.W.subIn K (.ref C_InvalidMoves) (.type "BaseException") = some true)
    (ty_InvalidMoves : PySem.W.typeIn K (.ref C_InvalidMoves) = some (.type "type"))
    (hd_InvalidMoves : PySem.W.hasDictIn K C_InvalidMoves = true)
    (il_InvalidMoves : PySem.W.isClsIn K C_InvalidMoves = true)
    (ss_InvalidMoves : PySem.W.subIn K (.ref C_InvalidMoves) (.ref C_InvalidMoves) = some true)
    (ss_InvalidMoves_SeatError : PySem.W.subIn K (.ref C_InvalidMoves) (.ref C_SeatError) = some true)
    (n_InvalidMoves_index : PySem.W.findIn K (.ref C_InvalidMoves) "index" = some none)
    (xl_InvalidStrategy : K.lookup C_InvalidStrategy = some (excClassObj nm_InvalidStrategy q_InvalidStrategy C_InvalidStrategy N_InvalidStrategy bs_InvalidStrategy [.ref B_InvalidStrategy, .type "ValueError", .type "Exception", .type "BaseException", .type "object"] true sn_InvalidStrategy sub_InvalidStrategy ab_InvalidStrategy col_InvalidStrategy dd_InvalidStrategy m0_InvalidStrategy m1_InvalidStrategy m2_InvalidStrategy m3_InvalidStrategy m5_InvalidStrategy "ValueError.__new__"))
    (sa_InvalidStrategy : PySem.W.findIn K (.ref C_InvalidStrategy) "__setattr__" = some (some (.builtin "object.__setattr__")))
    (ga_InvalidStrategy : PySem.W.findIn K (.ref C_InvalidStrategy) "__getattribute__" = some (some (.builtin "BaseException.__getattribute__")))
    (gg_InvalidStrategy : PySem.W.findIn K (.ref C_InvalidStrategy) "__getattr__" = some none)
    (ti_InvalidStrategy : PySem.W.typeIn K (.ref f8) = some (.type "function"))
    (kc_InvalidStrategy : PySem.W.keepIn K (.ref C_InvalidStrategy) = true)
    (ex_InvalidStrategy : PySem.W.subIn K (.ref C_InvalidStrategy) (.type "BaseException") = some true)
    (ty_InvalidStrategy : PySem.W.typeIn K (.ref C_InvalidStrategy) = some (.type "type"))
    (hd_InvalidStrategy : PySem.W.hasDictIn K C_InvalidStrategy = true)
    (il_InvalidStrategy : PySem.W.isClsIn K C_InvalidStrategy = true)
    (ss_InvalidStrategy : PySem.W.subIn K (.ref C_InvalidStrategy) (.ref C_InvalidStrategy) = some true)
    (ss_InvalidStrategy_SeatError : PySem.W.subIn K (.ref C_InvalidStrategy) (.ref C_SeatError) = some true)
    (n_InvalidStrategy_strategy : PySem.W.findIn K (.ref C_InvalidStrategy) "strategy" = some none)
    (xl_Mismatch : K.lookup C_Mismatch = some (excClassObj nm_Mismatch q_Mismatch C_Mismatch N_Mismatch bs_Mismatch [.ref B_Mismatch, .type "ValueError", .type "Exception", .type "BaseException", .type "object"] true sn_Mismatch sub_Mismatch ab_Mismatch col_Mismatch dd_Mismatch m0_Mismatch m1_Mismatch m2_Mismatch m3_Mismatch m5_Mismatch "ValueError.__new__"))
    (sa_Mismatch : PySem.W.findIn K (.ref C_Mismatch) "__setattr__" = some (some (.builtin "object.__setattr__")))
    (ga_Mismatch : PySem.W.findIn K (.ref C_Mismatch) "__getattribute__" = some (some (.builtin "BaseException.__getattribute__")))
    (gg_Mismatch : PySem.W.findIn K (.ref C_Mismatch) "__getattr__" = some none)
    (ti_Mismatch : PySem.W.typeIn K (.ref f9) = some (.type "function"))
    (kc_Mismatch : PySem.W.keepIn K (.ref C_Mismatch) = true)
    (ex_Mismatch : PySem.W.subIn K (.ref C_Mismatch) (.type "BaseException") = some true)
    (ty_Mismatch : PySem.W.typeIn K (.ref C_Mismatch) = some (.type "type"))
    (hd_Mismatch : PySem.W.hasDictIn K C_Mismatch = true)
    (il_Mismatch : PySem.W.isClsIn K C_Mismatch = true)
    (ss_Mismatch : PySem.W.subIn K (.ref C_Mismatch) (.ref C_Mismatch) = some true)
    (ss_Mismatch_SeatError : PySem.W.subIn K (.ref C_Mismatch) (.ref C_SeatError) = some true)
    (n_Mismatch_name : PySem.W.findIn K (.ref C_Mismatch) "name" = some none)
    (xl_TooLarge : K.lookup C_TooLarge = some (excClassObj nm_TooLarge q_TooLarge C_TooLarge N_TooLarge bs_TooLarge [.ref B_TooLarge, .type "ValueError", .type "Exception", .type "BaseException", .type "object"] true sn_TooLarge sub_TooLarge ab_TooLarge col_TooLarge dd_TooLarge m0_TooLarge m1_TooLarge m2_TooLarge m3_TooLarge m5_TooLarge "ValueError.__new__"))
    (sa_TooLarge : PySem.W.findIn K (.ref C_TooLarge) "__setattr__" = some (some (.builtin "object.__setattr__")))
    (ga_TooLarge : PySem.W.findIn K (.ref C_TooLarge) "__getattribute__" = some (some (.builtin "BaseException.__getattribute__")))
    (gg_TooLarge : PySem.W.findIn K (.ref C_TooLarge) "__getattr__" = some none)
    (ti_TooLarge : PySem.W.typeIn K (.ref f10) = some (.type "function"))
    (kc_TooLarge : PySem.W.keepIn K (.ref C_TooLarge) = true)
    (ex_TooLarge : PySem.W.subIn K (.ref C_TooLarge) (.type "BaseException") = some true)
    (ty_TooLarge : PySem.W.typeIn K (.ref C_TooLarge) = some (.type "type"))
    (hd_TooLarge : PySem.W.hasDictIn K C_TooLarge = true)
    (il_TooLarge : PySem.W.isClsIn K C_TooLarge = true)
    (ss_TooLarge : PySem.W.subIn K (.ref C_TooLarge) (.ref C_TooLarge) = some true)
    (ss_TooLarge_SeatError : PySem.W.subIn K (.ref C_TooLarge) (.ref C_SeatError) = some true)
    (n_TooLarge_limit : PySem.W.findIn K (.ref C_TooLarge) "limit" = some none)
    (ig_ : PySem.W.specialIn K (.builtin "object.__class__") "__get__" = some (some (.builtin "getset_descriptor.__get__")))
    (it_ : PySem.W.takesIn K (.builtin "object.__class__") = some true)
    (ic_InvalidTable : PySem.W.findIn K (.ref C_InvalidTable) "__class__" = some (some (.builtin "object.__class__")))
    (im_InvalidTable : PySem.W.mroIn K C_InvalidTable (.type "object") = some true)
    (ic_InvalidTargets : PySem.W.findIn K (.ref C_InvalidTargets) "__class__" = some (some (.builtin "object.__class__")))
    (im_InvalidTargets : PySem.W.mroIn K C_InvalidTargets (.type "object") = some true)
    (ic_InvalidSeat : PySem.W.findIn K (.ref C_InvalidSeat) "__class__" = some (some (.builtin "object.__class__")))
    (im_InvalidSeat : PySem.W.mroIn K C_InvalidSeat (.type "object") = some true)
    (ic_InvalidCall : PySem.W.findIn K (.ref C_InvalidCall) "__class__" = some (some (.builtin "object.__class__")))
    (im_InvalidCall : PySem.W.mroIn K C_InvalidCall (.type "object") = some true)
    (ic_InvalidDirection : PySem.W.findIn K (.ref C_InvalidDirection) "__class__" = some (some (.builtin "object.__class__")))
    (im_InvalidDirection : PySem.W.mroIn K C_InvalidDirection (.type "object") = some true)
    (ic_InvalidWitness : PySem.W.findIn K (.ref C_InvalidWitness) "__class__" = some (some (.builtin "object.__class__")))
    (im_InvalidWitness : PySem.W.mroIn K C_InvalidWitness (.type "object") = some true)
    (ic_InvalidNumber : PySem.W.findIn K (.ref C_InvalidNumber) "__class__" = some (some (.builtin "object.__class__")))
    (im_InvalidNumber : PySem.W.mroIn K C_InvalidNumber (.type "object") = some true)
    (ic_InvalidMoves : PySem.W.findIn K (.ref C_InvalidMoves) "__class__" = some (some (.builtin "object.__class__")))
    (im_InvalidMoves : PySem.W.mroIn K C_InvalidMoves (.type "object") = some true)
    (ic_InvalidStrategy : PySem.W.findIn K (.ref C_InvalidStrategy) "__class__" = some (some (.builtin "object.__class__")))
    (im_InvalidStrategy : PySem.W.mroIn K C_InvalidStrategy (.type "object") = some true)
    (ic_Mismatch : PySem.W.findIn K (.ref C_Mismatch) "__class__" = some (some (.builtin "object.__class__")))
    (im_Mismatch : PySem.W.mroIn K C_Mismatch (.type "object") = some true)
    (ic_TooLarge : PySem.W.findIn K (.ref C_TooLarge) "__class__" = some (some (.builtin "object.__class__")))
    (im_TooLarge : PySem.W.mroIn K C_TooLarge (.type "object") = some true)
    (ki_InvalidTable_InvalidTargets : PySem.W.kitAny K (.ref C_InvalidTable) [.ref C_InvalidTargets] = some false)
    (ki_InvalidTable_InvalidSeat : PySem.W.kitAny K (.ref C_InvalidTable) [.ref C_InvalidSeat] = some false)
    (ki_InvalidTable_InvalidCall : PySem.W.kitAny K (.ref C_InvalidTable) [.ref C_InvalidCall] = some false)
    (ki_InvalidTable_InvalidDirection : PySem.W.kitAny K (.ref C_InvalidTable) [.ref C_InvalidDirection] = some false)
    (ki_InvalidTable_InvalidWitness : PySem.W.kitAny K (.ref C_InvalidTable) [.ref C_InvalidWitness] = some false)
    (ki_InvalidTable_InvalidNumber : PySem.W.kitAny K (.ref C_InvalidTable) [.ref C_InvalidNumber] = some false)
    (ki_InvalidTable_InvalidMoves : PySem.W.kitAny K (.ref C_InvalidTable) [.ref C_InvalidMoves] = some false)
    (ki_InvalidTable_InvalidStrategy : PySem.W.kitAny K (.ref C_InvalidTable) [.ref C_InvalidStrategy] = some false)
    (ki_InvalidTable_Mismatch : PySem.W.kitAny K (.ref C_InvalidTable) [.ref C_Mismatch] = some false)
    (ki_InvalidTable_TooLarge : PySem.W.kitAny K (.ref C_InvalidTable) [.ref C_TooLarge] = some false)
    (ki_InvalidTable_SeatError : PySem.W.kitAny K (.ref C_InvalidTable) [.ref C_SeatError] = some true)
    (ki_InvalidTable_ValueError : PySem.W.kitAny K (.ref C_InvalidTable) [.type "ValueError"] = some true)
    (ki_InvalidTargets_InvalidTable : PySem.W.kitAny K (.ref C_InvalidTargets) [.ref C_InvalidTable] = some false)
    (ki_InvalidTargets_InvalidSeat : PySem.W.kitAny K (.ref C_InvalidTargets) [.ref C_InvalidSeat] = some false)
    (ki_InvalidTargets_InvalidCall : PySem.W.kitAny K (.ref C_InvalidTargets) [.ref C_InvalidCall] = some false)
    (ki_InvalidTargets_InvalidDirection : PySem.W.kitAny K (.ref C_InvalidTargets) [.ref C_InvalidDirection] = some false)
    (ki_InvalidTargets_InvalidWitness : PySem.W.kitAny K (.ref C_InvalidTargets) [.ref C_InvalidWitness] = some false)
    (ki_InvalidTargets_InvalidNumber : PySem.W.kitAny K (.ref C_InvalidTargets) [.ref C_InvalidNumber] = some false)
    (ki_InvalidTargets_InvalidMoves : PySem.W.kitAny K (.ref C_InvalidTargets) [.ref C_InvalidMoves] = some false)
    (ki_InvalidTargets_InvalidStrategy : PySem.W.kitAny K (.ref C_InvalidTargets) [.ref C_InvalidStrategy] = some false)
    (ki_InvalidTargets_Mismatch : PySem.W.kitAny K (.ref C_InvalidTargets) [.ref C_Mismatch] = some false)
    (ki_InvalidTargets_TooLarge : PySem.W.kitAny K (.ref C_InvalidTargets) [.ref C_TooLarge] = some false)
    (ki_InvalidTargets_SeatError : PySem.W.kitAny K (.ref C_InvalidTargets) [.ref C_SeatError] = some true)
    (ki_InvalidTargets_ValueError : PySem.W.kitAny K (.ref C_InvalidTargets) [.type "ValueError"] = some true)
    (ki_InvalidSeat_InvalidTable : PySem.W.kitAny K (.ref C_InvalidSeat) [.ref C_InvalidTable] = some false)
    (ki_InvalidSeat_InvalidTargets : PySem.W.kitAny K (.ref C_InvalidSeat) [.ref C_InvalidTargets] = some false)
    (ki_InvalidSeat_InvalidCall : PySem.W.kitAny K (.ref C_InvalidSeat) [.ref C_InvalidCall] = some false)
    (ki_InvalidSeat_InvalidDirection : PySem.W.kitAny K (.ref C_InvalidSeat) [.ref C_InvalidDirection] = some false)
    (ki_InvalidSeat_InvalidWitness : PySem.W.kitAny K (.ref C_InvalidSeat) [.ref C_InvalidWitness] = some false)
    (ki_InvalidSeat_InvalidNumber : PySem.W.kitAny K (.ref C_InvalidSeat) [.ref C_InvalidNumber] = some false)
    (ki_InvalidSeat_InvalidMoves : PySem.W.kitAny K (.ref C_InvalidSeat) [.ref C_InvalidMoves] = some false)
    (ki_InvalidSeat_InvalidStrategy : PySem.W.kitAny K (.ref C_InvalidSeat) [.ref C_InvalidStrategy] = some false)
    (ki_InvalidSeat_Mismatch : PySem.W.kitAny K (.ref C_InvalidSeat) [.ref C_Mismatch] = some false)
    (ki_InvalidSeat_TooLarge : PySem.W.kitAny K (.ref C_InvalidSeat) [.ref C_TooLarge] = some false)
    (ki_InvalidSeat_SeatError : PySem.W.kitAny K (.ref C_InvalidSeat) [.ref C_SeatError] = some true)
    (ki_InvalidSeat_ValueError : PySem.W.kitAny K (.ref C_InvalidSeat) [.type "ValueError"] = some true)
    (ki_InvalidCall_InvalidTable : PySem.W.kitAny K (.ref C_InvalidCall) [.ref C_InvalidTable] = some false)
    (ki_InvalidCall_InvalidTargets : PySem.W.kitAny K (.ref C_InvalidCall) [.ref C_InvalidTargets] = some false)
    (ki_InvalidCall_InvalidSeat : PySem.W.kitAny K (.ref C_InvalidCall) [.ref C_InvalidSeat] = some false)
    (ki_InvalidCall_InvalidDirection : PySem.W.kitAny K (.ref C_InvalidCall) [.ref C_InvalidDirection] = some false)
    (ki_InvalidCall_InvalidWitness : PySem.W.kitAny K (.ref C_InvalidCall) [.ref C_InvalidWitness] = some false)
    (ki_InvalidCall_InvalidNumber : PySem.W.kitAny K (.ref C_InvalidCall) [.ref C_InvalidNumber] = some false)
    (ki_InvalidCall_InvalidMoves : PySem.W.kitAny K (.ref C_InvalidCall) [.ref C_InvalidMoves] = some false)
    (ki_InvalidCall_InvalidStrategy : PySem.W.kitAny K (.ref C_InvalidCall) [.ref C_InvalidStrategy] = some false)
    (ki_InvalidCall_Mismatch : PySem.W.kitAny K (.ref C_InvalidCall) [.ref C_Mismatch] = some false)
    (ki_InvalidCall_TooLarge : PySem.W.kitAny K (.ref C_InvalidCall) [.ref C_TooLarge] = some false)
    (ki_InvalidCall_SeatError : PySem.W.kitAny K (.ref C_InvalidCall) [.ref C_SeatError] = some true)
    (ki_InvalidCall_ValueError : PySem.W.kitAny K (.ref C_InvalidCall) [.type "ValueError"] = some true)
    (ki_InvalidDirection_InvalidTable : PySem.W.kitAny K (.ref C_InvalidDirection) [.ref C_InvalidTable] = some false)
    (ki_InvalidDirection_InvalidTargets : PySem.W.kitAny K (.ref C_InvalidDirection) [.ref C_InvalidTargets] = some false)
    (ki_InvalidDirection_InvalidSeat : PySem.W.kitAny K (.ref C_InvalidDirection) [.ref C_InvalidSeat] = some false)
    (ki_InvalidDirection_InvalidCall : PySem.W.kitAny K (.ref C_InvalidDirection) [.ref C_InvalidCall] = some false)
    (ki_InvalidDirection_InvalidWitness : PySem.W.kitAny K (.ref C_InvalidDirection) [.ref C_InvalidWitness] = some false)
    (ki_InvalidDirection_InvalidNumber : PySem.W.kitAny K (.ref C_InvalidDirection) [.ref C_InvalidNumber] = some false)
    (ki_InvalidDirection_InvalidMoves : PySem.W.kitAny K (.ref C_InvalidDirection) [.ref C_InvalidMoves] = some false)
    (ki_InvalidDirection_InvalidStrategy : PySem.W.kitAny K (.ref C_InvalidDirection) [.ref C_InvalidStrategy] = some false)
    (ki_InvalidDirection_Mismatch : PySem.W.kitAny K (.ref C_InvalidDirection) [.ref C_Mismatch] = some false)
    (ki_InvalidDirection_TooLarge : PySem.W.kitAny K (.ref C_InvalidDirection) [.ref C_TooLarge] = some false)
    (ki_InvalidDirection_SeatError : PySem.W.kitAny K (.ref C_InvalidDirection) [.ref C_SeatError] = some true)
    (ki_InvalidDirection_ValueError : PySem.W.kitAny K (.ref C_InvalidDirection) [.type "ValueError"] = some true)
    (ki_InvalidWitness_InvalidTable : PySem.W.kitAny K (.ref C_InvalidWitness) [.ref C_InvalidTable] = some false)
    (ki_InvalidWitness_InvalidTargets : PySem.W.kitAny K (.ref C_InvalidWitness) [.ref C_InvalidTargets] = some false)
    (ki_InvalidWitness_InvalidSeat : PySem.W.kitAny K (.ref C_InvalidWitness) [.ref C_InvalidSeat] = some false)
    (ki_InvalidWitness_InvalidCall : PySem.W.kitAny K (.ref C_InvalidWitness) [.ref C_InvalidCall] = some false)
    (ki_InvalidWitness_InvalidDirection : PySem.W.kitAny K (.ref C_InvalidWitness) [.ref C_InvalidDirection] = some false)
    (ki_InvalidWitness_InvalidNumber : PySem.W.kitAny K (.ref C_InvalidWitness) [.ref C_InvalidNumber] = some false)
    (ki_InvalidWitness_InvalidMoves : PySem.W.kitAny K (.ref C_InvalidWitness) [.ref C_InvalidMoves] = some false)
    (ki_InvalidWitness_InvalidStrategy : PySem.W.kitAny K (.ref C_InvalidWitness) [.ref C_InvalidStrategy] = some false)
    (ki_InvalidWitness_Mismatch : PySem.W.kitAny K (.ref C_InvalidWitness) [.ref C_Mismatch] = some false)
    (ki_InvalidWitness_TooLarge : PySem.W.kitAny K (.ref C_InvalidWitness) [.ref C_TooLarge] = some false)
    (ki_InvalidWitness_SeatError : PySem.W.kitAny K (.ref C_InvalidWitness) [.ref C_SeatError] = some true)
    (ki_InvalidWitness_ValueError : PySem.W.kitAny K (.ref C_InvalidWitness) [.type "ValueError"] = some true)
    (ki_InvalidNumber_InvalidTable : PySem.W.kitAny K (.ref C_InvalidNumber) [.ref C_InvalidTable] = some false)
    (ki_InvalidNumber_InvalidTargets : PySem.W.kitAny K (.ref C_InvalidNumber) [.ref C_InvalidTargets] = some false)
    (ki_InvalidNumber_InvalidSeat : PySem.W.kitAny K (.ref C_InvalidNumber) [.ref C_InvalidSeat] = some false)
    (ki_InvalidNumber_InvalidCall : PySem.W.kitAny K (.ref C_InvalidNumber) [.ref C_InvalidCall] = some false)
    (ki_InvalidNumber_InvalidDirection : PySem.W.kitAny K (.ref C_InvalidNumber) [.ref C_InvalidDirection] = some false)
    (ki_InvalidNumber_InvalidWitness : PySem.W.kitAny K (.ref C_InvalidNumber) [.ref C_InvalidWitness] = some false)
    (ki_InvalidNumber_InvalidMoves : PySem.W.kitAny K (.ref C_InvalidNumber) [.ref C_InvalidMoves] = some false)
    (ki_InvalidNumber_InvalidStrategy : PySem.W.kitAny K (.ref C_InvalidNumber) [.ref C_InvalidStrategy] = some false)
    (ki_InvalidNumber_Mismatch : PySem.W.kitAny K (.ref C_InvalidNumber) [.ref C_Mismatch] = some false)
    (ki_InvalidNumber_TooLarge : PySem.W.kitAny K (.ref C_InvalidNumber) [.ref C_TooLarge] = some false)
    (ki_InvalidNumber_SeatError : PySem.W.kitAny K (.ref C_InvalidNumber) [.ref C_SeatError] = some true)
    (ki_InvalidNumber_ValueError : PySem.W.kitAny K (.ref C_InvalidNumber) [.type "ValueError"] = some true)
    (ki_InvalidMoves_InvalidTable : PySem.W.kitAny K (.ref C_InvalidMoves) [.ref C_InvalidTable] = some false)
    (ki_InvalidMoves_InvalidTargets : PySem.W.kitAny K (.ref C_InvalidMoves) [.ref C_InvalidTargets] = some false)
    (ki_InvalidMoves_InvalidSeat : PySem.W.kitAny K (.ref C_InvalidMoves) [.ref C_InvalidSeat] = some false)
    (ki_InvalidMoves_InvalidCall : PySem.W.kitAny K (.ref C_InvalidMoves) [.ref C_InvalidCall] = some false)
    (ki_InvalidMoves_InvalidDirection : PySem.W.kitAny K (.ref C_InvalidMoves) [.ref C_InvalidDirection] = some false)
    (ki_InvalidMoves_InvalidWitness : PySem.W.kitAny K (.ref C_InvalidMoves) [.ref C_InvalidWitness] = some false)
    (ki_InvalidMoves_InvalidNumber : PySem.W.kitAny K (.ref C_InvalidMoves) [.ref C_InvalidNumber] = some false)
    (ki_InvalidMoves_InvalidStrategy : PySem.W.kitAny K (.ref C_InvalidMoves) [.ref C_InvalidStrategy] = some false)
    (ki_InvalidMoves_Mismatch : PySem.W.kitAny K (.ref C_InvalidMoves) [.ref C_Mismatch] = some false)
    (ki_InvalidMoves_TooLarge : PySem.W.kitAny K (.ref C_InvalidMoves) [.ref C_TooLarge] = some false)
    (ki_InvalidMoves_SeatError : PySem.W.kitAny K (.ref C_InvalidMoves) [.ref C_SeatError] = some true)
    (ki_InvalidMoves_ValueError : PySem.W.kitAny K (.ref C_InvalidMoves) [.type "ValueError"] = some true)
    (ki_InvalidStrategy_InvalidTable : PySem.W.kitAny K (.ref C_InvalidStrategy) [.ref C_InvalidTable] = some false)
    (ki_InvalidStrategy_InvalidTargets : PySem.W.kitAny K (.ref C_InvalidStrategy) [.ref C_InvalidTargets] = some false)
    (ki_InvalidStrategy_InvalidSeat : PySem.W.kitAny K (.ref C_InvalidStrategy) [.ref C_InvalidSeat] = some false)
    (ki_InvalidStrategy_InvalidCall : PySem.W.kitAny K (.ref C_InvalidStrategy) [.ref C_InvalidCall] = some false)
    (ki_InvalidStrategy_InvalidDirection : PySem.W.kitAny K (.ref C_InvalidStrategy) [.ref C_InvalidDirection] = some false)
    (ki_InvalidStrategy_InvalidWitness : PySem.W.kitAny K (.ref C_InvalidStrategy) [.ref C_InvalidWitness] = some false)
    (ki_InvalidStrategy_InvalidNumber : PySem.W.kitAny K (.ref C_InvalidStrategy) [.ref C_InvalidNumber] = some false)
    (ki_InvalidStrategy_InvalidMoves : PySem.W.kitAny K (.ref C_InvalidStrategy) [.ref C_InvalidMoves] = some false)
    (ki_InvalidStrategy_Mismatch : PySem.W.kitAny K (.ref C_InvalidStrategy) [.ref C_Mismatch] = some false)
    (ki_InvalidStrategy_TooLarge : PySem.W.kitAny K (.ref C_InvalidStrategy) [.ref C_TooLarge] = some false)
    (ki_InvalidStrategy_SeatError : PySem.W.kitAny K (.ref C_InvalidStrategy) [.ref C_SeatError] = some true)
    (ki_InvalidStrategy_ValueError : PySem.W.kitAny K (.ref C_InvalidStrategy) [.type "ValueError"] = some true)
    (ki_Mismatch_InvalidTable : PySem.W.kitAny K (.ref C_Mismatch) [.ref C_InvalidTable] = some false)
    (ki_Mismatch_InvalidTargets : PySem.W.kitAny K (.ref C_Mismatch) [.ref C_InvalidTargets] = some false)
    (ki_Mismatch_InvalidSeat : PySem.W.kitAny K (.ref C_Mismatch) [.ref C_InvalidSeat] = some false)
    (ki_Mismatch_InvalidCall : PySem.W.kitAny K (.ref C_Mismatch) [.ref C_InvalidCall] = some false)
    (ki_Mismatch_InvalidDirection : PySem.W.kitAny K (.ref C_Mismatch) [.ref C_InvalidDirection] = some false)
    (ki_Mismatch_InvalidWitness : PySem.W.kitAny K (.ref C_Mismatch) [.ref C_InvalidWitness] = some false)
    (ki_Mismatch_InvalidNumber : PySem.W.kitAny K (.ref C_Mismatch) [.ref C_InvalidNumber] = some false)
    (ki_Mismatch_InvalidMoves : PySem.W.kitAny K (.ref C_Mismatch) [.ref C_InvalidMoves] = some false)
    (ki_Mismatch_InvalidStrategy : PySem.W.kitAny K (.ref C_Mismatch) [.ref C_InvalidStrategy] = some false)
    (ki_Mismatch_TooLarge : PySem.W.kitAny K (.ref C_Mismatch) [.ref C_TooLarge] = some false)
    (ki_Mismatch_SeatError : PySem.W.kitAny K (.ref C_Mismatch) [.ref C_SeatError] = some true)
    (ki_Mismatch_ValueError : PySem.W.kitAny K (.ref C_Mismatch) [.type "ValueError"] = some true)
    (ki_TooLarge_InvalidTable : PySem.W.kitAny K (.ref C_TooLarge) [.ref C_InvalidTable] = some false)
    (ki_TooLarge_InvalidTargets : PySem.W.kitAny K (.ref C_TooLarge) [.ref C_InvalidTargets] = some false)
    (ki_TooLarge_InvalidSeat : PySem.W.kitAny K (.ref C_TooLarge) [.ref C_InvalidSeat] = some false)
    (ki_TooLarge_InvalidCall : PySem.W.kitAny K (.ref C_TooLarge) [.ref C_InvalidCall] = some false)
    (ki_TooLarge_InvalidDirection : PySem.W.kitAny K (.ref C_TooLarge) [.ref C_InvalidDirection] = some false)
    (ki_TooLarge_InvalidWitness : PySem.W.kitAny K (.ref C_TooLarge) [.ref C_InvalidWitness] = some false)
    (ki_TooLarge_InvalidNumber : PySem.W.kitAny K (.ref C_TooLarge) [.ref C_InvalidNumber] = some false)
    (ki_TooLarge_InvalidMoves : PySem.W.kitAny K (.ref C_TooLarge) [.ref C_InvalidMoves] = some false)
    (ki_TooLarge_InvalidStrategy : PySem.W.kitAny K (.ref C_TooLarge) [.ref C_InvalidStrategy] = some false)
    (ki_TooLarge_Mismatch : PySem.W.kitAny K (.ref C_TooLarge) [.ref C_Mismatch] = some false)
    (ki_TooLarge_SeatError : PySem.W.kitAny K (.ref C_TooLarge) [.ref C_SeatError] = some true)
    (ki_TooLarge_ValueError : PySem.W.kitAny K (.ref C_TooLarge) [.type "ValueError"] = some true)
    (sysd : PySem.W.typeIn K (.ref sysModules) = some (.type "dict"))
    (z_ValueError : PySem.W.nsIn K mainGlobals "ValueError" = some none)
    (z_all : PySem.W.nsIn K mainGlobals "all" = some none)
    (z_enumerate : PySem.W.nsIn K mainGlobals "enumerate" = some none)
    (z_isinstance : PySem.W.nsIn K mainGlobals "isinstance" = some none)
    (z_range : PySem.W.nsIn K mainGlobals "range" = some none)
    (z_repr : PySem.W.nsIn K mainGlobals "repr" = some none)
    : ∃ T : TX K mg, T.f_law = f18 ∧ T.fd_law = PySem.W.fnOf "law" "law" (defArgs s_law) (defBody s_law) (defScope s_law) .none kV18 dc18 pm18 an18 cd18 ct18 := by
  have F0 := fun_mk (st := s_InvalidTable_init) l0 c0 k0
  have b0 := F0.binds (ps := ["self", "rings"]) fun _ _ _ _ _ _ us hl => match us, hl with | [_, _], _ => rfl
  have F1 := fun_mk (st := s_InvalidTargets_init) l1 c1 k1
  have b1 := F1.binds (ps := ["self", "index"]) fun _ _ _ _ _ _ us hl => match us, hl with | [_, _], _ => rfl
  have F2 := fun_mk (st := s_InvalidSeat_init) l2 c2 k2
  have b2 := F2.binds (ps := ["self", "seat"]) fun _ _ _ _ _ _ us hl => match us, hl with | [_, _], _ => rfl
  have F3 := fun_mk (st := s_InvalidCall_init) l3 c3 k3
  have b3 := F3.binds (ps := ["self", "call"]) fun _ _ _ _ _ _ us hl => match us, hl with | [_, _], _ => rfl
  have F4 := fun_mk (st := s_InvalidDirection_init) l4 c4 k4
  have b4 := F4.binds (ps := ["self", "direction"]) fun _ _ _ _ _ _ us hl => match us, hl with | [_, _], _ => rfl
  have F5 := fun_mk (st := s_InvalidWitness_init) l5 c5 k5
  have b5 := F5.binds (ps := ["self", "index"]) fun _ _ _ _ _ _ us hl => match us, hl with | [_, _], _ => rfl
  have F6 := fun_mk (st := s_InvalidNumber_init) l6 c6 k6
  have b6 := F6.binds (ps := ["self", "name"]) fun _ _ _ _ _ _ us hl => match us, hl with | [_, _], _ => rfl
  have F7 := fun_mk (st := s_InvalidMoves_init) l7 c7 k7
  have b7 := F7.binds (ps := ["self", "index"]) fun _ _ _ _ _ _ us hl => match us, hl with | [_, _], _ => rfl
  have F8 := fun_mk (st := s_InvalidStrategy_init) l8 c8 k8
  have b8 := F8.binds (ps := ["self", "strategy"]) fun _ _ _ _ _ _ us hl => match us, hl with | [_, _], _ => rfl
  have F9 := fun_mk (st := s_Mismatch_init) l9 c9 k9
  have b9 := F9.binds (ps := ["self", "name"]) fun _ _ _ _ _ _ us hl => match us, hl with | [_, _], _ => rfl
  have F10 := fun_mk (st := s_TooLarge_init) l10 c10 k10
  have b10 := F10.binds (ps := ["self", "limit"]) fun _ _ _ _ _ _ us hl => match us, hl with | [_, _], _ => rfl
  have F11 := fun_mk (st := s_law_mixed) l11 c11 k11
  have b11 := F11.binds (ps := ["_law_cell", "_law_draw"]) fun _ _ _ _ _ _ us hl => match us, hl with | [_, _], _ => rfl
  have F12 := fun_mk (st := s_law_source) l12 c12 k12
  have b12 := F12.binds (ps := ["_law_cell"]) fun _ _ _ _ _ _ us hl => match us, hl with | [_], _ => rfl
  have F13 := fun_mk (st := s_law_take) l13 c13 k13
  have b13 := F13.binds (ps := ["_law_source_here", "_law_count"]) fun _ _ _ _ _ _ us hl => match us, hl with | [_, _], _ => rfl
  have F14 := fun_mk (st := s_law_kinds) l14 c14 k14
  have b14 := F14.binds (ps := ["_law_one"]) fun _ _ _ _ _ _ us hl => match us, hl with | [_], _ => rfl
  have F15 := fun_mk (st := s_law_stores) l15 c15 k15
  have b15 := F15.binds (ps := ["_law_one", "_law_place", "_law_stored", "_law_thing"]) fun _ _ _ _ _ _ us hl => match us, hl with | [_, _, _, _], _ => rfl
  have F16 := fun_mk (st := s_law_first_errors) l16 c16 k16
  have b16 := F16.binds (ps := ["_law_thing"]) fun _ _ _ _ _ _ us hl => match us, hl with | [_], _ => rfl
  have F17 := fun_mk (st := s_law_other_errors) l17 c17 k17
  have b17 := F17.binds (ps := ["_law_thing"]) fun _ _ _ _ _ _ us hl => match us, hl with | [_], _ => rfl
  have F18 := fun_mk (st := s_law) l18 c18 k18
  have b18 := F18.binds (ps := ["_law_script"]) fun _ _ _ _ _ _ us hl => match us, hl with | [_], _ => rfl
  exact ⟨{
    f_InvalidTable_init := f0, fd_InvalidTable_init := _, F_InvalidTable_init := F0, b_InvalidTable_init := b0,
    f_InvalidTargets_init := f1, fd_InvalidTargets_init := _, F_InvalidTargets_init := F1, b_InvalidTargets_init := b1,
    f_InvalidSeat_init := f2, fd_InvalidSeat_init := _, F_InvalidSeat_init := F2, b_InvalidSeat_init := b2,
    f_InvalidCall_init := f3, fd_InvalidCall_init := _, F_InvalidCall_init := F3, b_InvalidCall_init := b3,
    f_InvalidDirection_init := f4, fd_InvalidDirection_init := _, F_InvalidDirection_init := F4, b_InvalidDirection_init := b4,
    f_InvalidWitness_init := f5, fd_InvalidWitness_init := _, F_InvalidWitness_init := F5, b_InvalidWitness_init := b5,
    f_InvalidNumber_init := f6, fd_InvalidNumber_init := _, F_InvalidNumber_init := F6, b_InvalidNumber_init := b6,
    f_InvalidMoves_init := f7, fd_InvalidMoves_init := _, F_InvalidMoves_init := F7, b_InvalidMoves_init := b7,
    f_InvalidStrategy_init := f8, fd_InvalidStrategy_init := _, F_InvalidStrategy_init := F8, b_InvalidStrategy_init := b8,
    f_Mismatch_init := f9, fd_Mismatch_init := _, F_Mismatch_init := F9, b_Mismatch_init := b9,
    f_TooLarge_init := f10, fd_TooLarge_init := _, F_TooLarge_init := F10, b_TooLarge_init := b10,
    f_law_mixed := f11, fd_law_mixed := _, F_law_mixed := F11, b_law_mixed := b11, m_law_mixed := PySem.W.mg_of X G a11,
    f_law_source := f12, fd_law_source := _, F_law_source := F12, b_law_source := b12, m_law_source := PySem.W.mg_of X G a12,
    f_law_take := f13, fd_law_take := _, F_law_take := F13, b_law_take := b13, m_law_take := PySem.W.mg_of X G a13,
    f_law_kinds := f14, fd_law_kinds := _, F_law_kinds := F14, b_law_kinds := b14, m_law_kinds := PySem.W.mg_of X G a14,
    f_law_stores := f15, fd_law_stores := _, F_law_stores := F15, b_law_stores := b15, m_law_stores := PySem.W.mg_of X G a15,
    f_law_first_errors := f16, fd_law_first_errors := _, F_law_first_errors := F16, b_law_first_errors := b16, m_law_first_errors := PySem.W.mg_of X G a16,
    f_law_other_errors := f17, fd_law_other_errors := _, F_law_other_errors := F17, b_law_other_errors := b17, m_law_other_errors := PySem.W.mg_of X G a17,
    f_law := f18, fd_law := _, F_law := F18, b_law := b18, m_law := PySem.W.mg_of X G a18,
    C_SeatError := C_SeatError, m_SeatError := PySem.W.mg_of X G aC_SeatError,
    C_InvalidTable := C_InvalidTable, m_InvalidTable := PySem.W.mg_of X G aC_InvalidTable, ox_InvalidTable := ⟨⟨nm_InvalidTable, q_InvalidTable, N_InvalidTable, bs_InvalidTable, _, sn_InvalidTable, sub_InvalidTable, ab_InvalidTable, col_InvalidTable, dd_InvalidTable, m0_InvalidTable, m1_InvalidTable, m2_InvalidTable, m3_InvalidTable, m5_InvalidTable, xl_InvalidTable, by rfl⟩, sa_InvalidTable, ex_InvalidTable, ty_InvalidTable, kc_InvalidTable⟩, xf_InvalidTable := ⟨ga_InvalidTable, gg_InvalidTable, ex_InvalidTable, hd_InvalidTable⟩, i_InvalidTable := a0, ti_InvalidTable := ti_InvalidTable, em_InvalidTable := exm_self ex_InvalidTable il_InvalidTable ty_InvalidTable ss_InvalidTable,
    em_InvalidTable_SeatError := exm_base ex_SeatError il_SeatError ty_SeatError ss_InvalidTable_SeatError,
    n_InvalidTable_rings := n_InvalidTable_rings,
    C_InvalidTargets := C_InvalidTargets, m_InvalidTargets := PySem.W.mg_of X G aC_InvalidTargets, ox_InvalidTargets := ⟨⟨nm_InvalidTargets, q_InvalidTargets, N_InvalidTargets, bs_InvalidTargets, _, sn_InvalidTargets, sub_InvalidTargets, ab_InvalidTargets, col_InvalidTargets, dd_InvalidTargets, m0_InvalidTargets, m1_InvalidTargets, m2_InvalidTargets, m3_InvalidTargets, m5_InvalidTargets, xl_InvalidTargets, by rfl⟩, sa_InvalidTargets, ex_InvalidTargets, ty_InvalidTargets, kc_InvalidTargets⟩, xf_InvalidTargets := ⟨ga_InvalidTargets, gg_InvalidTargets, ex_InvalidTargets, hd_InvalidTargets⟩, i_InvalidTargets := a1, ti_InvalidTargets := ti_InvalidTargets, em_InvalidTargets := exm_self ex_InvalidTargets il_InvalidTargets ty_InvalidTargets ss_InvalidTargets,
    em_InvalidTargets_SeatError := exm_base ex_SeatError il_SeatError ty_SeatError ss_InvalidTargets_SeatError,
    n_InvalidTargets_index := n_InvalidTargets_index,
    C_InvalidSeat := C_InvalidSeat, m_InvalidSeat := PySem.W.mg_of X G aC_InvalidSeat, ox_InvalidSeat := ⟨⟨nm_InvalidSeat, q_InvalidSeat, N_InvalidSeat, bs_InvalidSeat, _, sn_InvalidSeat, sub_InvalidSeat, ab_InvalidSeat, col_InvalidSeat, dd_InvalidSeat, m0_InvalidSeat, m1_InvalidSeat, m2_InvalidSeat, m3_InvalidSeat, m5_InvalidSeat, xl_InvalidSeat, by rfl⟩, sa_InvalidSeat, ex_InvalidSeat, ty_InvalidSeat, kc_InvalidSeat⟩, xf_InvalidSeat := ⟨ga_InvalidSeat, gg_InvalidSeat, ex_InvalidSeat, hd_InvalidSeat⟩, i_InvalidSeat := a2, ti_InvalidSeat := ti_InvalidSeat, em_InvalidSeat := exm_self ex_InvalidSeat il_InvalidSeat ty_InvalidSeat ss_InvalidSeat,
    em_InvalidSeat_SeatError := exm_base ex_SeatError il_SeatError ty_SeatError ss_InvalidSeat_SeatError,
    n_InvalidSeat_seat := n_InvalidSeat_seat,
    C_InvalidCall := C_InvalidCall, m_InvalidCall := PySem.W.mg_of X G aC_InvalidCall, ox_InvalidCall := ⟨⟨nm_InvalidCall, q_InvalidCall, N_InvalidCall, bs_InvalidCall, _, sn_InvalidCall, sub_InvalidCall, ab_InvalidCall, col_InvalidCall, dd_InvalidCall, m0_InvalidCall, m1_InvalidCall, m2_InvalidCall, m3_InvalidCall, m5_InvalidCall, xl_InvalidCall, by rfl⟩, sa_InvalidCall, ex_InvalidCall, ty_InvalidCall, kc_InvalidCall⟩, xf_InvalidCall := ⟨ga_InvalidCall, gg_InvalidCall, ex_InvalidCall, hd_InvalidCall⟩, i_InvalidCall := a3, ti_InvalidCall := ti_InvalidCall, em_InvalidCall := exm_self ex_InvalidCall il_InvalidCall ty_InvalidCall ss_InvalidCall,
    em_InvalidCall_SeatError := exm_base ex_SeatError il_SeatError ty_SeatError ss_InvalidCall_SeatError,
    n_InvalidCall_call := n_InvalidCall_call,
    C_InvalidDirection := C_InvalidDirection, m_InvalidDirection := PySem.W.mg_of X G aC_InvalidDirection, ox_InvalidDirection := ⟨⟨nm_InvalidDirection, q_InvalidDirection, N_InvalidDirection, bs_InvalidDirection, _, sn_InvalidDirection, sub_InvalidDirection, ab_InvalidDirection, col_InvalidDirection, dd_InvalidDirection, m0_InvalidDirection, m1_InvalidDirection, m2_InvalidDirection, m3_InvalidDirection, m5_InvalidDirection, xl_InvalidDirection, by rfl⟩, sa_InvalidDirection, ex_InvalidDirection, ty_InvalidDirection, kc_InvalidDirection⟩, xf_InvalidDirection := ⟨ga_InvalidDirection, gg_InvalidDirection, ex_InvalidDirection, hd_InvalidDirection⟩, i_InvalidDirection := a4, ti_InvalidDirection := ti_InvalidDirection, em_InvalidDirection := exm_self ex_InvalidDirection il_InvalidDirection ty_InvalidDirection ss_InvalidDirection,
    em_InvalidDirection_SeatError := exm_base ex_SeatError il_SeatError ty_SeatError ss_InvalidDirection_SeatError,
    n_InvalidDirection_direction := n_InvalidDirection_direction,
    C_InvalidWitness := C_InvalidWitness, m_InvalidWitness := PySem.W.mg_of X G aC_InvalidWitness, ox_InvalidWitness := ⟨⟨nm_InvalidWitness, q_InvalidWitness, N_InvalidWitness, bs_InvalidWitness, _, sn_InvalidWitness, sub_InvalidWitness, ab_InvalidWitness, col_InvalidWitness, dd_InvalidWitness, m0_InvalidWitness, m1_InvalidWitness, m2_InvalidWitness, m3_InvalidWitness, m5_InvalidWitness, xl_InvalidWitness, by rfl⟩, sa_InvalidWitness, ex_InvalidWitness, ty_InvalidWitness, kc_InvalidWitness⟩, xf_InvalidWitness := ⟨ga_InvalidWitness, gg_InvalidWitness, ex_InvalidWitness, hd_InvalidWitness⟩, i_InvalidWitness := a5, ti_InvalidWitness := ti_InvalidWitness, em_InvalidWitness := exm_self ex_InvalidWitness il_InvalidWitness ty_InvalidWitness ss_InvalidWitness,
    em_InvalidWitness_SeatError := exm_base ex_SeatError il_SeatError ty_SeatError ss_InvalidWitness_SeatError,
    n_InvalidWitness_index := n_InvalidWitness_index,
    C_InvalidNumber := C_InvalidNumber, m_InvalidNumber := PySem.W.mg_of X G aC_InvalidNumber, ox_InvalidNumber := ⟨⟨nm_InvalidNumber, q_InvalidNumber, N_InvalidNumber, bs_InvalidNumber, _, sn_InvalidNumber, sub_InvalidNumber, ab_InvalidNumber, col_InvalidNumber, dd_InvalidNumber, m0_InvalidNumber, m1_InvalidNumber, m2_InvalidNumber, m3_InvalidNumber, m5_InvalidNumber, xl_InvalidNumber, by rfl⟩, sa_InvalidNumber, ex_InvalidNumber, ty_InvalidNumber, kc_InvalidNumber⟩, xf_InvalidNumber := ⟨ga_InvalidNumber, gg_InvalidNumber, ex_InvalidNumber, hd_InvalidNumber⟩, i_InvalidNumber := a6, ti_InvalidNumber := ti_InvalidNumber, em_InvalidNumber := exm_self ex_InvalidNumber il_InvalidNumber ty_InvalidNumber ss_InvalidNumber,
    em_InvalidNumber_SeatError := exm_base ex_SeatError il_SeatError ty_SeatError ss_InvalidNumber_SeatError,
    n_InvalidNumber_name := n_InvalidNumber_name,
    C_InvalidMoves := C_InvalidMoves, m_InvalidMoves := PySem.W.mg_of X G aC_InvalidMoves, ox_InvalidMoves := ⟨⟨nm_InvalidMoves, q_InvalidMoves, N_InvalidMoves, bs_InvalidMoves, _, sn_InvalidMoves, sub_InvalidMoves, ab_InvalidMoves, col_InvalidMoves, dd_InvalidMoves, m0_InvalidMoves, m1_InvalidMoves, m2_InvalidMoves, m3_InvalidMoves, m5_InvalidMoves, xl_InvalidMoves, by rfl⟩, sa_InvalidMoves, ex_InvalidMoves, ty_InvalidMoves, kc_InvalidMoves⟩, xf_InvalidMoves := ⟨ga_InvalidMoves, gg_InvalidMoves, ex_InvalidMoves, hd_InvalidMoves⟩, i_InvalidMoves := a7, ti_InvalidMoves := ti_InvalidMoves, em_InvalidMoves := exm_self ex_InvalidMoves il_InvalidMoves ty_InvalidMoves ss_InvalidMoves,
    em_InvalidMoves_SeatError := exm_base ex_SeatError il_SeatError ty_SeatError ss_InvalidMoves_SeatError,
    n_InvalidMoves_index := n_InvalidMoves_index,
    C_InvalidStrategy := C_InvalidStrategy, m_InvalidStrategy := PySem.W.mg_of X G aC_InvalidStrategy, ox_InvalidStrategy := ⟨⟨nm_InvalidStrategy, q_InvalidStrategy, N_InvalidStrategy, bs_InvalidStrategy, _, sn_InvalidStrategy, sub_InvalidStrategy, ab_InvalidStrategy, col_InvalidStrategy, dd_InvalidStrategy, m0_InvalidStrategy, m1_InvalidStrategy, m2_InvalidStrategy, m3_InvalidStrategy, m5_InvalidStrategy, xl_InvalidStrategy, by rfl⟩, sa_InvalidStrategy, ex_InvalidStrategy, ty_InvalidStrategy, kc_InvalidStrategy⟩, xf_InvalidStrategy := ⟨ga_InvalidStrategy, gg_InvalidStrategy, ex_InvalidStrategy, hd_InvalidStrategy⟩, i_InvalidStrategy := a8, ti_InvalidStrategy := ti_InvalidStrategy, em_InvalidStrategy := exm_self ex_InvalidStrategy il_InvalidStrategy ty_InvalidStrategy ss_InvalidStrategy,
    em_InvalidStrategy_SeatError := exm_base ex_SeatError il_SeatError ty_SeatError ss_InvalidStrategy_SeatError,
    n_InvalidStrategy_strategy := n_InvalidStrategy_strategy,
    C_Mismatch := C_Mismatch, m_Mismatch := PySem.W.mg_of X G aC_Mismatch, ox_Mismatch := ⟨⟨nm_Mismatch, q_Mismatch, N_Mismatch, bs_Mismatch, _, sn_Mismatch, sub_Mismatch, ab_Mismatch, col_Mismatch, dd_Mismatch, m0_Mismatch, m1_Mismatch, m2_Mismatch, m3_Mismatch, m5_Mismatch, xl_Mismatch, by rfl⟩, sa_Mismatch, ex_Mismatch, ty_Mismatch, kc_Mismatch⟩, xf_Mismatch := ⟨ga_Mismatch, gg_Mismatch, ex_Mismatch, hd_Mismatch⟩, i_Mismatch := a9, ti_Mismatch := ti_Mismatch, em_Mismatch := exm_self ex_Mismatch il_Mismatch ty_Mismatch ss_Mismatch,
    em_Mismatch_SeatError := exm_base ex_SeatError il_SeatError ty_SeatError ss_Mismatch_SeatError,
    n_Mismatch_name := n_Mismatch_name,
    C_TooLarge := C_TooLarge, m_TooLarge := PySem.W.mg_of X G aC_TooLarge, ox_TooLarge := ⟨⟨nm_TooLarge, q_TooLarge, N_TooLarge, bs_TooLarge, _, sn_TooLarge, sub_TooLarge, ab_TooLarge, col_TooLarge, dd_TooLarge, m0_TooLarge, m1_TooLarge, m2_TooLarge, m3_TooLarge, m5_TooLarge, xl_TooLarge, by rfl⟩, sa_TooLarge, ex_TooLarge, ty_TooLarge, kc_TooLarge⟩, xf_TooLarge := ⟨ga_TooLarge, gg_TooLarge, ex_TooLarge, hd_TooLarge⟩, i_TooLarge := a10, ti_TooLarge := ti_TooLarge, em_TooLarge := exm_self ex_TooLarge il_TooLarge ty_TooLarge ss_TooLarge,
    em_TooLarge_SeatError := exm_base ex_SeatError il_SeatError ty_SeatError ss_TooLarge_SeatError,
    n_TooLarge_limit := n_TooLarge_limit,
    sysd := sysd,
    xi_InvalidTable := ⟨il_InvalidTable, ga_InvalidTable, gg_InvalidTable, ex_InvalidTable, ic_InvalidTable, ig_, it_, im_InvalidTable⟩,
    xi_InvalidTargets := ⟨il_InvalidTargets, ga_InvalidTargets, gg_InvalidTargets, ex_InvalidTargets, ic_InvalidTargets, ig_, it_, im_InvalidTargets⟩,
    xi_InvalidSeat := ⟨il_InvalidSeat, ga_InvalidSeat, gg_InvalidSeat, ex_InvalidSeat, ic_InvalidSeat, ig_, it_, im_InvalidSeat⟩,
    xi_InvalidCall := ⟨il_InvalidCall, ga_InvalidCall, gg_InvalidCall, ex_InvalidCall, ic_InvalidCall, ig_, it_, im_InvalidCall⟩,
    xi_InvalidDirection := ⟨il_InvalidDirection, ga_InvalidDirection, gg_InvalidDirection, ex_InvalidDirection, ic_InvalidDirection, ig_, it_, im_InvalidDirection⟩,
    xi_InvalidWitness := ⟨il_InvalidWitness, ga_InvalidWitness, gg_InvalidWitness, ex_InvalidWitness, ic_InvalidWitness, ig_, it_, im_InvalidWitness⟩,
    xi_InvalidNumber := ⟨il_InvalidNumber, ga_InvalidNumber, gg_InvalidNumber, ex_InvalidNumber, ic_InvalidNumber, ig_, it_, im_InvalidNumber⟩,
    xi_InvalidMoves := ⟨il_InvalidMoves, ga_InvalidMoves, gg_InvalidMoves, ex_InvalidMoves, ic_InvalidMoves, ig_, it_, im_InvalidMoves⟩,
    xi_InvalidStrategy := ⟨il_InvalidStrategy, ga_InvalidStrategy, gg_InvalidStrategy, ex_InvalidStrategy, ic_InvalidStrategy, ig_, it_, im_InvalidStrategy⟩,
    xi_Mismatch := ⟨il_Mismatch, ga_Mismatch, gg_Mismatch, ex_Mismatch, ic_Mismatch, ig_, it_, im_Mismatch⟩,
    xi_TooLarge := ⟨il_TooLarge, ga_TooLarge, gg_TooLarge, ex_TooLarge, ic_TooLarge, ig_, it_, im_TooLarge⟩,
    ki_InvalidTable_InvalidTargets := ki_InvalidTable_InvalidTargets,
    ki_InvalidTable_InvalidSeat := ki_InvalidTable_InvalidSeat,
    ki_InvalidTable_InvalidCall := ki_InvalidTable_InvalidCall,
    ki_InvalidTable_InvalidDirection := ki_InvalidTable_InvalidDirection,
    ki_InvalidTable_InvalidWitness := ki_InvalidTable_InvalidWitness,
    ki_InvalidTable_InvalidNumber := ki_InvalidTable_InvalidNumber,
    ki_InvalidTable_InvalidMoves := ki_InvalidTable_InvalidMoves,
    ki_InvalidTable_InvalidStrategy := ki_InvalidTable_InvalidStrategy,
    ki_InvalidTable_Mismatch := ki_InvalidTable_Mismatch,
    ki_InvalidTable_TooLarge := ki_InvalidTable_TooLarge,
    ki_InvalidTable_SeatError := ki_InvalidTable_SeatError,
    ki_InvalidTable_ValueError := ki_InvalidTable_ValueError,
    ki_InvalidTargets_InvalidTable := ki_InvalidTargets_InvalidTable,
    ki_InvalidTargets_InvalidSeat := ki_InvalidTargets_InvalidSeat,
    ki_InvalidTargets_InvalidCall := ki_InvalidTargets_InvalidCall,
    ki_InvalidTargets_InvalidDirection := ki_InvalidTargets_InvalidDirection,
    ki_InvalidTargets_InvalidWitness := ki_InvalidTargets_InvalidWitness,
    ki_InvalidTargets_InvalidNumber := ki_InvalidTargets_InvalidNumber,
    ki_InvalidTargets_InvalidMoves := ki_InvalidTargets_InvalidMoves,
    ki_InvalidTargets_InvalidStrategy := ki_InvalidTargets_InvalidStrategy,
    ki_InvalidTargets_Mismatch := ki_InvalidTargets_Mismatch,
    ki_InvalidTargets_TooLarge := ki_InvalidTargets_TooLarge,
    ki_InvalidTargets_SeatError := ki_InvalidTargets_SeatError,
    ki_InvalidTargets_ValueError := ki_InvalidTargets_ValueError,
    ki_InvalidSeat_InvalidTable := ki_InvalidSeat_InvalidTable,
    ki_InvalidSeat_InvalidTargets := ki_InvalidSeat_InvalidTargets,
    ki_InvalidSeat_InvalidCall := ki_InvalidSeat_InvalidCall,
    ki_InvalidSeat_InvalidDirection := ki_InvalidSeat_InvalidDirection,
    ki_InvalidSeat_InvalidWitness := ki_InvalidSeat_InvalidWitness,
    ki_InvalidSeat_InvalidNumber := ki_InvalidSeat_InvalidNumber,
    ki_InvalidSeat_InvalidMoves := ki_InvalidSeat_InvalidMoves,
    ki_InvalidSeat_InvalidStrategy := ki_InvalidSeat_InvalidStrategy,
    ki_InvalidSeat_Mismatch := ki_InvalidSeat_Mismatch,
    ki_InvalidSeat_TooLarge := ki_InvalidSeat_TooLarge,
    ki_InvalidSeat_SeatError := ki_InvalidSeat_SeatError,
    ki_InvalidSeat_ValueError := ki_InvalidSeat_ValueError,
    ki_InvalidCall_InvalidTable := ki_InvalidCall_InvalidTable,
    ki_InvalidCall_InvalidTargets := ki_InvalidCall_InvalidTargets,
    ki_InvalidCall_InvalidSeat := ki_InvalidCall_InvalidSeat,
    ki_InvalidCall_InvalidDirection := ki_InvalidCall_InvalidDirection,
    ki_InvalidCall_InvalidWitness := ki_InvalidCall_InvalidWitness,
    ki_InvalidCall_InvalidNumber := ki_InvalidCall_InvalidNumber,
    ki_InvalidCall_InvalidMoves := ki_InvalidCall_InvalidMoves,
    ki_InvalidCall_InvalidStrategy := ki_InvalidCall_InvalidStrategy,
    ki_InvalidCall_Mismatch := ki_InvalidCall_Mismatch,
    ki_InvalidCall_TooLarge := ki_InvalidCall_TooLarge,
    ki_InvalidCall_SeatError := ki_InvalidCall_SeatError,
    ki_InvalidCall_ValueError := ki_InvalidCall_ValueError,
    ki_InvalidDirection_InvalidTable := ki_InvalidDirection_InvalidTable,
    ki_InvalidDirection_InvalidTargets := ki_InvalidDirection_InvalidTargets,
    ki_InvalidDirection_InvalidSeat := ki_InvalidDirection_InvalidSeat,
    ki_InvalidDirection_InvalidCall := ki_InvalidDirection_InvalidCall,
    ki_InvalidDirection_InvalidWitness := ki_InvalidDirection_InvalidWitness,
    ki_InvalidDirection_InvalidNumber := ki_InvalidDirection_InvalidNumber,
    ki_InvalidDirection_InvalidMoves := ki_InvalidDirection_InvalidMoves,
    ki_InvalidDirection_InvalidStrategy := ki_InvalidDirection_InvalidStrategy,
    ki_InvalidDirection_Mismatch := ki_InvalidDirection_Mismatch,
    ki_InvalidDirection_TooLarge := ki_InvalidDirection_TooLarge,
    ki_InvalidDirection_SeatError := ki_InvalidDirection_SeatError,
    ki_InvalidDirection_ValueError := ki_InvalidDirection_ValueError,
    ki_InvalidWitness_InvalidTable := ki_InvalidWitness_InvalidTable,
    ki_InvalidWitness_InvalidTargets := ki_InvalidWitness_InvalidTargets,
    ki_InvalidWitness_InvalidSeat := ki_InvalidWitness_InvalidSeat,
    ki_InvalidWitness_InvalidCall := ki_InvalidWitness_InvalidCall,
    ki_InvalidWitness_InvalidDirection := ki_InvalidWitness_InvalidDirection,
    ki_InvalidWitness_InvalidNumber := ki_InvalidWitness_InvalidNumber,
    ki_InvalidWitness_InvalidMoves := ki_InvalidWitness_InvalidMoves,
    ki_InvalidWitness_InvalidStrategy := ki_InvalidWitness_InvalidStrategy,
    ki_InvalidWitness_Mismatch := ki_InvalidWitness_Mismatch,
    ki_InvalidWitness_TooLarge := ki_InvalidWitness_TooLarge,
    ki_InvalidWitness_SeatError := ki_InvalidWitness_SeatError,
    ki_InvalidWitness_ValueError := ki_InvalidWitness_ValueError,
    ki_InvalidNumber_InvalidTable := ki_InvalidNumber_InvalidTable,
    ki_InvalidNumber_InvalidTargets := ki_InvalidNumber_InvalidTargets,
    ki_InvalidNumber_InvalidSeat := ki_InvalidNumber_InvalidSeat,
    ki_InvalidNumber_InvalidCall := ki_InvalidNumber_InvalidCall,
    ki_InvalidNumber_InvalidDirection := ki_InvalidNumber_InvalidDirection,
    ki_InvalidNumber_InvalidWitness := ki_InvalidNumber_InvalidWitness,
    ki_InvalidNumber_InvalidMoves := ki_InvalidNumber_InvalidMoves,
    ki_InvalidNumber_InvalidStrategy := ki_InvalidNumber_InvalidStrategy,
    ki_InvalidNumber_Mismatch := ki_InvalidNumber_Mismatch,
    ki_InvalidNumber_TooLarge := ki_InvalidNumber_TooLarge,
    ki_InvalidNumber_SeatError := ki_InvalidNumber_SeatError,
    ki_InvalidNumber_ValueError := ki_InvalidNumber_ValueError,
    ki_InvalidMoves_InvalidTable := ki_InvalidMoves_InvalidTable,
    ki_InvalidMoves_InvalidTargets := ki_InvalidMoves_InvalidTargets,
    ki_InvalidMoves_InvalidSeat := ki_InvalidMoves_InvalidSeat,
    ki_InvalidMoves_InvalidCall := ki_InvalidMoves_InvalidCall,
    ki_InvalidMoves_InvalidDirection := ki_InvalidMoves_InvalidDirection,
    ki_InvalidMoves_InvalidWitness := ki_InvalidMoves_InvalidWitness,
    ki_InvalidMoves_InvalidNumber := ki_InvalidMoves_InvalidNumber,
    ki_InvalidMoves_InvalidStrategy := ki_InvalidMoves_InvalidStrategy,
    ki_InvalidMoves_Mismatch := ki_InvalidMoves_Mismatch,
    ki_InvalidMoves_TooLarge := ki_InvalidMoves_TooLarge,
    ki_InvalidMoves_SeatError := ki_InvalidMoves_SeatError,
    ki_InvalidMoves_ValueError := ki_InvalidMoves_ValueError,
    ki_InvalidStrategy_InvalidTable := ki_InvalidStrategy_InvalidTable,
    ki_InvalidStrategy_InvalidTargets := ki_InvalidStrategy_InvalidTargets,
    ki_InvalidStrategy_InvalidSeat := ki_InvalidStrategy_InvalidSeat,
    ki_InvalidStrategy_InvalidCall := ki_InvalidStrategy_InvalidCall,
    ki_InvalidStrategy_InvalidDirection := ki_InvalidStrategy_InvalidDirection,
    ki_InvalidStrategy_InvalidWitness := ki_InvalidStrategy_InvalidWitness,
    ki_InvalidStrategy_InvalidNumber := ki_InvalidStrategy_InvalidNumber,
    ki_InvalidStrategy_InvalidMoves := ki_InvalidStrategy_InvalidMoves,
    ki_InvalidStrategy_Mismatch := ki_InvalidStrategy_Mismatch,
    ki_InvalidStrategy_TooLarge := ki_InvalidStrategy_TooLarge,
    ki_InvalidStrategy_SeatError := ki_InvalidStrategy_SeatError,
    ki_InvalidStrategy_ValueError := ki_InvalidStrategy_ValueError,
    ki_Mismatch_InvalidTable := ki_Mismatch_InvalidTable,
    ki_Mismatch_InvalidTargets := ki_Mismatch_InvalidTargets,
    ki_Mismatch_InvalidSeat := ki_Mismatch_InvalidSeat,
    ki_Mismatch_InvalidCall := ki_Mismatch_InvalidCall,
    ki_Mismatch_InvalidDirection := ki_Mismatch_InvalidDirection,
    ki_Mismatch_InvalidWitness := ki_Mismatch_InvalidWitness,
    ki_Mismatch_InvalidNumber := ki_Mismatch_InvalidNumber,
    ki_Mismatch_InvalidMoves := ki_Mismatch_InvalidMoves,
    ki_Mismatch_InvalidStrategy := ki_Mismatch_InvalidStrategy,
    ki_Mismatch_TooLarge := ki_Mismatch_TooLarge,
    ki_Mismatch_SeatError := ki_Mismatch_SeatError,
    ki_Mismatch_ValueError := ki_Mismatch_ValueError,
    ki_TooLarge_InvalidTable := ki_TooLarge_InvalidTable,
    ki_TooLarge_InvalidTargets := ki_TooLarge_InvalidTargets,
    ki_TooLarge_InvalidSeat := ki_TooLarge_InvalidSeat,
    ki_TooLarge_InvalidCall := ki_TooLarge_InvalidCall,
    ki_TooLarge_InvalidDirection := ki_TooLarge_InvalidDirection,
    ki_TooLarge_InvalidWitness := ki_TooLarge_InvalidWitness,
    ki_TooLarge_InvalidNumber := ki_TooLarge_InvalidNumber,
    ki_TooLarge_InvalidMoves := ki_TooLarge_InvalidMoves,
    ki_TooLarge_InvalidStrategy := ki_TooLarge_InvalidStrategy,
    ki_TooLarge_Mismatch := ki_TooLarge_Mismatch,
    ki_TooLarge_SeatError := ki_TooLarge_SeatError,
    ki_TooLarge_ValueError := ki_TooLarge_ValueError,
    z_ValueError := PySem.W.mg_none_of X G z_ValueError,
    z_all := PySem.W.mg_none_of X G z_all,
    z_enumerate := PySem.W.mg_none_of X G z_enumerate,
    z_isinstance := PySem.W.mg_none_of X G z_isinstance,
    z_range := PySem.W.mg_none_of X G z_range,
    z_repr := PySem.W.mg_none_of X G z_repr
  }, rfl, rfl⟩
theorem use_mk {K : PySem.W.Frag} {h : Heap} {mg : Str → Option Value} (X : K.In h) (G : h.Ns mainGlobals mg)
    {f0 f1 f2 f3 f4 f5 f6 f7 f8 f9 f10 f11 f12 f13 f14 f15 f16 f17 f18 C_InvalidTable C_InvalidTargets C_InvalidSeat C_InvalidCall C_InvalidDirection C_InvalidWitness C_InvalidNumber C_InvalidMoves C_InvalidStrategy C_Mismatch C_TooLarge C_SeatError : Addr}
    {od0 an0 od1 an1 od2 an2 od3 an3 od4 an4 od5 an5 od6 an6 od7 an7 od8 an8 od9 an9 od10 an10 od11 an11 od12 an12 od13 an13 od14 an14 od15 an15 od16 an16 od17 an17 od18 an18 : Option Addr} {sl0 sl1 sl2 sl3 sl4 sl5 sl6 sl7 sl8 sl9 sl10 sl11 sl12 sl13 sl14 sl15 sl16 sl17 sl18 : Array (Option Value)} {oc0 kV0 dc0 pm0 cd0 ct0 oc1 kV1 dc1 pm1 cd1 ct1 oc2 kV2 dc2 pm2 cd2 ct2 oc3 kV3 dc3 pm3 cd3 ct3 oc4 kV4 dc4 pm4 cd4 ct4 oc5 kV5 dc5 pm5 cd5 ct5 oc6 kV6 dc6 pm6 cd6 ct6 oc7 kV7 dc7 pm7 cd7 ct7 oc8 kV8 dc8 pm8 cd8 ct8 oc9 kV9 dc9 pm9 cd9 ct9 oc10 kV10 dc10 pm10 cd10 ct10 oc11 kV11 dc11 pm11 cd11 ct11 oc12 kV12 dc12 pm12 cd12 ct12 oc13 kV13 dc13 pm13 cd13 ct13 oc14 kV14 dc14 pm14 cd14 ct14 oc15 kV15 dc15 pm15 cd15 ct15 oc16 kV16 dc16 pm16 cd16 ct16 oc17 kV17 dc17 pm17 cd17 ct17 oc18 kV18 dc18 pm18 cd18 ct18 : Value}
    {nm_InvalidTable q_InvalidTable : Str} {N_InvalidTable B_InvalidTable : Addr} {bs_InvalidTable sub_InvalidTable : List Value} {sn_InvalidTable : List Str} {ab_InvalidTable : Bool} {col_InvalidTable : Option Bool} {dd_InvalidTable : Option Addr} {m0_InvalidTable m1_InvalidTable m2_InvalidTable m3_InvalidTable m5_InvalidTable : Option Value}
    {nm_InvalidTargets q_InvalidTargets : Str} {N_InvalidTargets B_InvalidTargets : Addr} {bs_InvalidTargets sub_InvalidTargets : List Value} {sn_InvalidTargets : List Str} {ab_InvalidTargets : Bool} {col_InvalidTargets : Option Bool} {dd_InvalidTargets : Option Addr} {m0_InvalidTargets m1_InvalidTargets m2_InvalidTargets m3_InvalidTargets m5_InvalidTargets : Option Value}
    {nm_InvalidSeat q_InvalidSeat : Str} {N_InvalidSeat B_InvalidSeat : Addr} {bs_InvalidSeat sub_InvalidSeat : List Value} {sn_InvalidSeat : List Str} {ab_InvalidSeat : Bool} {col_InvalidSeat : Option Bool} {dd_InvalidSeat : Option Addr} {m0_InvalidSeat m1_InvalidSeat m2_InvalidSeat m3_InvalidSeat m5_InvalidSeat : Option Value}
    {nm_InvalidCall q_InvalidCall : Str} {N_InvalidCall B_InvalidCall : Addr} {bs_InvalidCall sub_InvalidCall : List Value} {sn_InvalidCall : List Str} {ab_InvalidCall : Bool} {col_InvalidCall : Option Bool} {dd_InvalidCall : Option Addr} {m0_InvalidCall m1_InvalidCall m2_InvalidCall m3_InvalidCall m5_InvalidCall : Option Value}
    {nm_InvalidDirection q_InvalidDirection : Str} {N_InvalidDirection B_InvalidDirection : Addr} {bs_InvalidDirection sub_InvalidDirection : List Value} {sn_InvalidDirection : List Str} {ab_InvalidDirection : Bool} {col_InvalidDirection : Option Bool} {dd_InvalidDirection : Option Addr} {m0_InvalidDirection m1_InvalidDirection m2_InvalidDirection m3_InvalidDirection m5_InvalidDirection : Option Value}
    {nm_InvalidWitness q_InvalidWitness : Str} {N_InvalidWitness B_InvalidWitness : Addr} {bs_InvalidWitness sub_InvalidWitness : List Value} {sn_InvalidWitness : List Str} {ab_InvalidWitness : Bool} {col_InvalidWitness : Option Bool} {dd_InvalidWitness : Option Addr} {m0_InvalidWitness m1_InvalidWitness m2_InvalidWitness m3_InvalidWitness m5_InvalidWitness : Option Value}
    {nm_InvalidNumber q_InvalidNumber : Str} {N_InvalidNumber B_InvalidNumber : Addr} {bs_InvalidNumber sub_InvalidNumber : List Value} {sn_InvalidNumber : List Str} {ab_InvalidNumber : Bool} {col_InvalidNumber : Option Bool} {dd_InvalidNumber : Option Addr} {m0_InvalidNumber m1_InvalidNumber m2_InvalidNumber m3_InvalidNumber m5_InvalidNumber : Option Value}
    {nm_InvalidMoves q_InvalidMoves : Str} {N_InvalidMoves B_InvalidMoves : Addr} {bs_InvalidMoves sub_InvalidMoves : List Value} {sn_InvalidMoves : List Str} {ab_InvalidMoves : Bool} {col_InvalidMoves : Option Bool} {dd_InvalidMoves : Option Addr} {m0_InvalidMoves m1_InvalidMoves m2_InvalidMoves m3_InvalidMoves m5_InvalidMoves : Option Value}
    {nm_InvalidStrategy q_InvalidStrategy : Str} {N_InvalidStrategy B_InvalidStrategy : Addr} {bs_InvalidStrategy sub_InvalidStrategy : List Value} {sn_InvalidStrategy : List Str} {ab_InvalidStrategy : Bool} {col_InvalidStrategy : Option Bool} {dd_InvalidStrategy : Option Addr} {m0_InvalidStrategy m1_InvalidStrategy m2_InvalidStrategy m3_InvalidStrategy m5_InvalidStrategy : Option Value}
    {nm_Mismatch q_Mismatch : Str} {N_Mismatch B_Mismatch : Addr} {bs_Mismatch sub_Mismatch : List Value} {sn_Mismatch : List Str} {ab_Mismatch : Bool} {col_Mismatch : Option Bool} {dd_Mismatch : Option Addr} {m0_Mismatch m1_Mismatch m2_Mismatch m3_Mismatch m5_Mismatch : Option Value}
    {nm_TooLarge q_TooLarge : Str} {N_TooLarge B_TooLarge : Addr} {bs_TooLarge sub_TooLarge : List Value} {sn_TooLarge : List Str} {ab_TooLarge : Bool} {col_TooLarge : Option Bool} {dd_TooLarge : Option Addr} {m0_TooLarge m1_TooLarge m2_TooLarge m3_TooLarge m5_TooLarge : Option Value}
    (aC_SeatError : PySem.W.nsIn K mainGlobals "SeatError" = some (some (.ref C_SeatError)))
    (ex_SeatError : PySem.W.subIn K (.ref C_SeatError) (.type "BaseException") = some true)
    (ty_SeatError : PySem.W.typeIn K (.ref C_SeatError) = some (.type "type"))
    (il_SeatError : PySem.W.isClsIn K C_SeatError = true)
    (aC_InvalidTable : PySem.W.nsIn K mainGlobals "InvalidTable" = some (some (.ref C_InvalidTable)))
    (aC_InvalidTargets : PySem.W.nsIn K mainGlobals "InvalidTargets" = some (some (.ref C_InvalidTargets)))
    (aC_InvalidSeat : PySem.W.nsIn K mainGlobals "InvalidSeat" = some (some (.ref C_InvalidSeat)))
    (aC_InvalidCall : PySem.W.nsIn K mainGlobals "InvalidCall" = some (some (.ref C_InvalidCall)))
    (aC_InvalidDirection : PySem.W.nsIn K mainGlobals "InvalidDirection" = some (some (.ref C_InvalidDirection)))
    (aC_InvalidWitness : PySem.W.nsIn K mainGlobals "InvalidWitness" = some (some (.ref C_InvalidWitness)))
    (aC_InvalidNumber : PySem.W.nsIn K mainGlobals "InvalidNumber" = some (some (.ref C_InvalidNumber)))
    (aC_InvalidMoves : PySem.W.nsIn K mainGlobals "InvalidMoves" = some (some (.ref C_InvalidMoves)))
    (aC_InvalidStrategy : PySem.W.nsIn K mainGlobals "InvalidStrategy" = some (some (.ref C_InvalidStrategy)))
    (aC_Mismatch : PySem.W.nsIn K mainGlobals "Mismatch" = some (some (.ref C_Mismatch)))
    (aC_TooLarge : PySem.W.nsIn K mainGlobals "TooLarge" = some (some (.ref C_TooLarge)))
    (a0 : PySem.W.findIn K (.ref C_InvalidTable) "__init__" = some (some (.ref f0)))
    (i0 : PySem.W.isFn K (.ref f0) = true)
    (l0 : K.lookup f0 = some ⟨oc0, od0, .func (PySem.W.fnOf "__init__" "InvalidTable.__init__" (defArgs s_InvalidTable_init) (defBody s_InvalidTable_init) (defScope s_InvalidTable_init) .none kV0 dc0 pm0 an0 cd0 ct0), sl0⟩)
    (c0 : PySem.W.codeIn K cd0 "InvalidTable.__init__" = true)
    (k0 : PySem.W.keepIn K (.ref f0) = true)
    (a1 : PySem.W.findIn K (.ref C_InvalidTargets) "__init__" = some (some (.ref f1)))
    (i1 : PySem.W.isFn K (.ref f1) = true)
    (l1 : K.lookup f1 = some ⟨oc1, od1, .func (PySem.W.fnOf "__init__" "InvalidTargets.__init__" (defArgs s_InvalidTargets_init) (defBody s_InvalidTargets_init) (defScope s_InvalidTargets_init) .none kV1 dc1 pm1 an1 cd1 ct1), sl1⟩)
    (c1 : PySem.W.codeIn K cd1 "InvalidTargets.__init__" = true)
    (k1 : PySem.W.keepIn K (.ref f1) = true)
    (a2 : PySem.W.findIn K (.ref C_InvalidSeat) "__init__" = some (some (.ref f2)))
    (i2 : PySem.W.isFn K (.ref f2) = true)
    (l2 : K.lookup f2 = some ⟨oc2, od2, .func (PySem.W.fnOf "__init__" "InvalidSeat.__init__" (defArgs s_InvalidSeat_init) (defBody s_InvalidSeat_init) (defScope s_InvalidSeat_init) .none kV2 dc2 pm2 an2 cd2 ct2), sl2⟩)
    (c2 : PySem.W.codeIn K cd2 "InvalidSeat.__init__" = true)
    (k2 : PySem.W.keepIn K (.ref f2) = true)
    (a3 : PySem.W.findIn K (.ref C_InvalidCall) "__init__" = some (some (.ref f3)))
    (i3 : PySem.W.isFn K (.ref f3) = true)
    (l3 : K.lookup f3 = some ⟨oc3, od3, .func (PySem.W.fnOf "__init__" "InvalidCall.__init__" (defArgs s_InvalidCall_init) (defBody s_InvalidCall_init) (defScope s_InvalidCall_init) .none kV3 dc3 pm3 an3 cd3 ct3), sl3⟩)
    (c3 : PySem.W.codeIn K cd3 "InvalidCall.__init__" = true)
    (k3 : PySem.W.keepIn K (.ref f3) = true)
    (a4 : PySem.W.findIn K (.ref C_InvalidDirection) "__init__" = some (some (.ref f4)))
    (i4 : PySem.W.isFn K (.ref f4) = true)
    (l4 : K.lookup f4 = some ⟨oc4, od4, .func (PySem.W.fnOf "__init__" "InvalidDirection.__init__" (defArgs s_InvalidDirection_init) (defBody s_InvalidDirection_init) (defScope s_InvalidDirection_init) .none kV4 dc4 pm4 an4 cd4 ct4), sl4⟩)
    (c4 : PySem.W.codeIn K cd4 "InvalidDirection.__init__" = true)
    (k4 : PySem.W.keepIn K (.ref f4) = true)
    (a5 : PySem.W.findIn K (.ref C_InvalidWitness) "__init__" = some (some (.ref f5)))
    (i5 : PySem.W.isFn K (.ref f5) = true)
    (l5 : K.lookup f5 = some ⟨oc5, od5, .func (PySem.W.fnOf "__init__" "InvalidWitness.__init__" (defArgs s_InvalidWitness_init) (defBody s_InvalidWitness_init) (defScope s_InvalidWitness_init) .none kV5 dc5 pm5 an5 cd5 ct5), sl5⟩)
    (c5 : PySem.W.codeIn K cd5 "InvalidWitness.__init__" = true)
    (k5 : PySem.W.keepIn K (.ref f5) = true)
    (a6 : PySem.W.findIn K (.ref C_InvalidNumber) "__init__" = some (some (.ref f6)))
    (i6 : PySem.W.isFn K (.ref f6) = true)
    (l6 : K.lookup f6 = some ⟨oc6, od6, .func (PySem.W.fnOf "__init__" "InvalidNumber.__init__" (defArgs s_InvalidNumber_init) (defBody s_InvalidNumber_init) (defScope s_InvalidNumber_init) .none kV6 dc6 pm6 an6 cd6 ct6), sl6⟩)
    (c6 : PySem.W.codeIn K cd6 "InvalidNumber.__init__" = true)
    (k6 : PySem.W.keepIn K (.ref f6) = true)
    (a7 : PySem.W.findIn K (.ref C_InvalidMoves) "__init__" = some (some (.ref f7)))
    (i7 : PySem.W.isFn K (.ref f7) = true)
    (l7 : K.lookup f7 = some ⟨oc7, od7, .func (PySem.W.fnOf "__init__" "InvalidMoves.__init__" (defArgs s_InvalidMoves_init) (defBody s_InvalidMoves_init) (defScope s_InvalidMoves_init) .none kV7 dc7 pm7 an7 cd7 ct7), sl7⟩)
    (c7 : PySem.W.codeIn K cd7 "InvalidMoves.__init__" = true)
    (k7 : PySem.W.keepIn K (.ref f7) = true)
    (a8 : PySem.W.findIn K (.ref C_InvalidStrategy) "__init__" = some (some (.ref f8)))
    (i8 : PySem.W.isFn K (.ref f8) = true)
    (l8 : K.lookup f8 = some ⟨oc8, od8, .func (PySem.W.fnOf "__init__" "InvalidStrategy.__init__" (defArgs s_InvalidStrategy_init) (defBody s_InvalidStrategy_init) (defScope s_InvalidStrategy_init) .none kV8 dc8 pm8 an8 cd8 ct8), sl8⟩)
    (c8 : PySem.W.codeIn K cd8 "InvalidStrategy.__init__" = true)
    (k8 : PySem.W.keepIn K (.ref f8) = true)
    (a9 : PySem.W.findIn K (.ref C_Mismatch) "__init__" = some (some (.ref f9)))
    (i9 : PySem.W.isFn K (.ref f9) = true)
    (l9 : K.lookup f9 = some ⟨oc9, od9, .func (PySem.W.fnOf "__init__" "Mismatch.__init__" (defArgs s_Mismatch_init) (defBody s_Mismatch_init) (defScope s_Mismatch_init) .none kV9 dc9 pm9 an9 cd9 ct9), sl9⟩)
    (c9 : PySem.W.codeIn K cd9 "Mismatch.__init__" = true)
    (k9 : PySem.W.keepIn K (.ref f9) = true)
    (a10 : PySem.W.findIn K (.ref C_TooLarge) "__init__" = some (some (.ref f10)))
    (i10 : PySem.W.isFn K (.ref f10) = true)
    (l10 : K.lookup f10 = some ⟨oc10, od10, .func (PySem.W.fnOf "__init__" "TooLarge.__init__" (defArgs s_TooLarge_init) (defBody s_TooLarge_init) (defScope s_TooLarge_init) .none kV10 dc10 pm10 an10 cd10 ct10), sl10⟩)
    (c10 : PySem.W.codeIn K cd10 "TooLarge.__init__" = true)
    (k10 : PySem.W.keepIn K (.ref f10) = true)
    (a11 : PySem.W.nsIn K mainGlobals "_law_mixed" = some (some (.ref f11)))
    (l11 : K.lookup f11 = some ⟨oc11, od11, .func (PySem.W.fnOf "_law_mixed" "_law_mixed" (defArgs s_law_mixed) (defBody s_law_mixed) (defScope s_law_mixed) .none kV11 dc11 pm11 an11 cd11 ct11), sl11⟩)
    (c11 : PySem.W.codeIn K cd11 "_law_mixed" = true)
    (k11 : PySem.W.keepIn K (.ref f11) = true)
    (a12 : PySem.W.nsIn K mainGlobals "_law_source" = some (some (.ref f12)))
    (l12 : K.lookup f12 = some ⟨oc12, od12, .func (PySem.W.fnOf "_law_source" "_law_source" (defArgs s_law_source) (defBody s_law_source) (defScope s_law_source) .none kV12 dc12 pm12 an12 cd12 ct12), sl12⟩)
    (c12 : PySem.W.codeIn K cd12 "_law_source" = true)
    (k12 : PySem.W.keepIn K (.ref f12) = true)
    (a13 : PySem.W.nsIn K mainGlobals "_law_take" = some (some (.ref f13)))
    (l13 : K.lookup f13 = some ⟨oc13, od13, .func (PySem.W.fnOf "_law_take" "_law_take" (defArgs s_law_take) (defBody s_law_take) (defScope s_law_take) .none kV13 dc13 pm13 an13 cd13 ct13), sl13⟩)
    (c13 : PySem.W.codeIn K cd13 "_law_take" = true)
    (k13 : PySem.W.keepIn K (.ref f13) = true)
    (a14 : PySem.W.nsIn K mainGlobals "_law_kinds" = some (some (.ref f14)))
    (l14 : K.lookup f14 = some ⟨oc14, od14, .func (PySem.W.fnOf "_law_kinds" "_law_kinds" (defArgs s_law_kinds) (defBody s_law_kinds) (defScope s_law_kinds) .none kV14 dc14 pm14 an14 cd14 ct14), sl14⟩)
    (c14 : PySem.W.codeIn K cd14 "_law_kinds" = true)
    (k14 : PySem.W.keepIn K (.ref f14) = true)
    (a15 : PySem.W.nsIn K mainGlobals "_law_stores" = some (some (.ref f15)))
    (l15 : K.lookup f15 = some ⟨oc15, od15, .func (PySem.W.fnOf "_law_stores" "_law_stores" (defArgs s_law_stores) (defBody s_law_stores) (defScope s_law_stores) .none kV15 dc15 pm15 an15 cd15 ct15), sl15⟩)
    (c15 : PySem.W.codeIn K cd15 "_law_stores" = true)
    (k15 : PySem.W.keepIn K (.ref f15) = true)
    (a16 : PySem.W.nsIn K mainGlobals "_law_first_errors" = some (some (.ref f16)))
    (l16 : K.lookup f16 = some ⟨oc16, od16, .func (PySem.W.fnOf "_law_first_errors" "_law_first_errors" (defArgs s_law_first_errors) (defBody s_law_first_errors) (defScope s_law_first_errors) .none kV16 dc16 pm16 an16 cd16 ct16), sl16⟩)
    (c16 : PySem.W.codeIn K cd16 "_law_first_errors" = true)
    (k16 : PySem.W.keepIn K (.ref f16) = true)
    (a17 : PySem.W.nsIn K mainGlobals "_law_other_errors" = some (some (.ref f17)))
    (l17 : K.lookup f17 = some ⟨oc17, od17, .func (PySem.W.fnOf "_law_other_errors" "_law_other_errors" (defArgs s_law_other_errors) (defBody s_law_other_errors) (defScope s_law_other_errors) .none kV17 dc17 pm17 an17 cd17 ct17), sl17⟩)
    (c17 : PySem.W.codeIn K cd17 "_law_other_errors" = true)
    (k17 : PySem.W.keepIn K (.ref f17) = true)
    (a18 : PySem.W.nsIn K mainGlobals "law" = some (some (.ref f18)))
    (l18 : K.lookup f18 = some ⟨oc18, od18, .func (PySem.W.fnOf "law" "law" (defArgs s_law) (defBody s_law) (defScope s_law) .none kV18 dc18 pm18 an18 cd18 ct18), sl18⟩)
    (c18 : PySem.W.codeIn K cd18 "law" = true)
    (k18 : PySem.W.keepIn K (.ref f18) = true)
    (xl_InvalidTable : K.lookup C_InvalidTable = some (excClassObj nm_InvalidTable q_InvalidTable C_InvalidTable N_InvalidTable bs_InvalidTable [.ref B_InvalidTable, .type "ValueError", .type "Exception", .type "BaseException", .type "object"] true sn_InvalidTable sub_InvalidTable ab_InvalidTable col_InvalidTable dd_InvalidTable m0_InvalidTable m1_InvalidTable m2_InvalidTable m3_InvalidTable m5_InvalidTable "ValueError.__new__"))
    (sa_InvalidTable : PySem.W.findIn K (.ref C_InvalidTable) "__setattr__" = some (some (.builtin "object.__setattr__")))
    (ga_InvalidTable : PySem.W.findIn K (.ref C_InvalidTable) "__getattribute__" = some (some (.builtin "BaseException.__getattribute__")))
    (gg_InvalidTable : PySem.W.findIn K (.ref C_InvalidTable) "__getattr__" = some none)
    (ti_InvalidTable : PySem.W.typeIn K (.ref f0) = some (.type "function"))
    (kc_InvalidTable : PySem.W.keepIn K (.ref C_InvalidTable) = true)
    (ex_InvalidTable : PySem.W.subIn K (.ref C_InvalidTable) (.type "BaseException") = some true)
    (ty_InvalidTable : PySem.W.typeIn K (.ref C_InvalidTable) = some (.type "type"))
    (hd_InvalidTable : PySem.W.hasDictIn K C_InvalidTable = true)
    (il_InvalidTable : PySem.W.isClsIn K C_InvalidTable = true)
    (ss_InvalidTable : PySem.W.subIn K (.ref C_InvalidTable) (.ref C_InvalidTable) = some true)
    (ss_InvalidTable_SeatError : PySem.W.subIn K (.ref C_InvalidTable) (.ref C_SeatError) = some true)
    (n_InvalidTable_rings : PySem.W.findIn K (.ref C_InvalidTable) "rings" = some none)
    (xl_InvalidTargets : K.lookup C_InvalidTargets = some (excClassObj nm_InvalidTargets q_InvalidTargets C_InvalidTargets N_InvalidTargets bs_InvalidTargets [.ref B_InvalidTargets, .type "ValueError", .type "Exception", .type "BaseException", .type "object"] true sn_InvalidTargets sub_InvalidTargets ab_InvalidTargets col_InvalidTargets dd_InvalidTargets m0_InvalidTargets m1_InvalidTargets m2_InvalidTargets m3_InvalidTargets m5_InvalidTargets "ValueError.__new__"))
    (sa_InvalidTargets : PySem.W.findIn K (.ref C_InvalidTargets) "__setattr__" = some (some (.builtin "object.__setattr__")))
    (ga_InvalidTargets : PySem.W.findIn K (.ref C_InvalidTargets) "__getattribute__" = some (some (.builtin "BaseException.__getattribute__")))
    (gg_InvalidTargets : PySem.W.findIn K (.ref C_InvalidTargets) "__getattr__" = some none)
    (ti_InvalidTargets : PySem.W.typeIn K (.ref f1) = some (.type "function"))
    (kc_InvalidTargets : PySem.W.keepIn K (.ref C_InvalidTargets) = true)
    (ex_InvalidTargets : PySem.W.subIn K (.ref C_InvalidTargets) (.type "BaseException") = some true)
    (ty_InvalidTargets : PySem.W.typeIn K (.ref C_InvalidTargets) = some (.type "type"))
    (hd_InvalidTargets : PySem.W.hasDictIn K C_InvalidTargets = true)
    (il_InvalidTargets : PySem.W.isClsIn K C_InvalidTargets = true)
    (ss_InvalidTargets : PySem.W.subIn K (.ref C_InvalidTargets) (.ref C_InvalidTargets) = some true)
    (ss_InvalidTargets_SeatError : PySem.W.subIn K (.ref C_InvalidTargets) (.ref C_SeatError) = some true)
    (n_InvalidTargets_index : PySem.W.findIn K (.ref C_InvalidTargets) "index" = some none)
    (xl_InvalidSeat : K.lookup C_InvalidSeat = some (excClassObj nm_InvalidSeat q_InvalidSeat C_InvalidSeat N_InvalidSeat bs_InvalidSeat [.ref B_InvalidSeat, .type "ValueError", .type "Exception", .type "BaseException", .type "object"] true sn_InvalidSeat sub_InvalidSeat ab_InvalidSeat col_InvalidSeat dd_InvalidSeat m0_InvalidSeat m1_InvalidSeat m2_InvalidSeat m3_InvalidSeat m5_InvalidSeat "ValueError.__new__"))
    (sa_InvalidSeat : PySem.W.findIn K (.ref C_InvalidSeat) "__setattr__" = some (some (.builtin "object.__setattr__")))
    (ga_InvalidSeat : PySem.W.findIn K (.ref C_InvalidSeat) "__getattribute__" = some (some (.builtin "BaseException.__getattribute__")))
    (gg_InvalidSeat : PySem.W.findIn K (.ref C_InvalidSeat) "__getattr__" = some none)
    (ti_InvalidSeat : PySem.W.typeIn K (.ref f2) = some (.type "function"))
    (kc_InvalidSeat : PySem.W.keepIn K (.ref C_InvalidSeat) = true)
    (ex_InvalidSeat : PySem.W.subIn K (.ref C_InvalidSeat) (.type "BaseException") = some true)
    (ty_InvalidSeat : PySem.W.typeIn K (.ref C_InvalidSeat) = some (.type "type"))
    (hd_InvalidSeat : PySem.W.hasDictIn K C_InvalidSeat = true)
    (il_InvalidSeat : PySem.W.isClsIn K C_InvalidSeat = true)
    (ss_InvalidSeat : PySem.W.subIn K (.ref C_InvalidSeat) (.ref C_InvalidSeat) = some true)
    (ss_InvalidSeat_SeatError : PySem.W.subIn K (.ref C_InvalidSeat) (.ref C_SeatError) = some true)
    (n_InvalidSeat_seat : PySem.W.findIn K (.ref C_InvalidSeat) "seat" = some none)
    (xl_InvalidCall : K.lookup C_InvalidCall = some (excClassObj nm_InvalidCall q_InvalidCall C_InvalidCall N_InvalidCall bs_InvalidCall [.ref B_InvalidCall, .type "ValueError", .type "Exception", .type "BaseException", .type "object"] true sn_InvalidCall sub_InvalidCall ab_InvalidCall col_InvalidCall dd_InvalidCall m0_InvalidCall m1_InvalidCall m2_InvalidCall m3_InvalidCall m5_InvalidCall "ValueError.__new__"))
    (sa_InvalidCall : PySem.W.findIn K (.ref C_InvalidCall) "__setattr__" = some (some (.builtin "object.__setattr__")))
    (ga_InvalidCall : PySem.W.findIn K (.ref C_InvalidCall) "__getattribute__" = some (some (.builtin "BaseException.__getattribute__")))
    (gg_InvalidCall : PySem.W.findIn K (.ref C_InvalidCall) "__getattr__" = some none)
    (ti_InvalidCall : PySem.W.typeIn K (.ref f3) = some (.type "function"))
    (kc_InvalidCall : PySem.W.keepIn K (.ref C_InvalidCall) = true)
    (ex_InvalidCall : PySem.W.subIn K (.ref C_InvalidCall) (.type "BaseException") = some true)
    (ty_InvalidCall : PySem.W.typeIn K (.ref C_InvalidCall) = some (.type "type"))
    (hd_InvalidCall : PySem.W.hasDictIn K C_InvalidCall = true)
    (il_InvalidCall : PySem.W.isClsIn K C_InvalidCall = true)
    (ss_InvalidCall : PySem.W.subIn K (.ref C_InvalidCall) (.ref C_InvalidCall) = some true)
    (ss_InvalidCall_SeatError : PySem.W.subIn K (.ref C_InvalidCall) (.ref C_SeatError) = some true)
    (n_InvalidCall_call : PySem.W.findIn K (.ref C_InvalidCall) "call" = some none)
    (xl_InvalidDirection : K.lookup C_InvalidDirection = some (excClassObj nm_InvalidDirection q_InvalidDirection C_InvalidDirection N_InvalidDirection bs_InvalidDirection [.ref B_InvalidDirection, .type "ValueError", .type "Exception", .type "BaseException", .type "object"] true sn_InvalidDirection sub_InvalidDirection ab_InvalidDirection col_InvalidDirection dd_InvalidDirection m0_InvalidDirection m1_InvalidDirection m2_InvalidDirection m3_InvalidDirection m5_InvalidDirection "ValueError.__new__"))
    (sa_InvalidDirection : PySem.W.findIn K (.ref C_InvalidDirection) "__setattr__" = some (some (.builtin "object.__setattr__")))
    (ga_InvalidDirection : PySem.W.findIn K (.ref C_InvalidDirection) "__getattribute__" = some (some (.builtin "BaseException.__getattribute__")))
    (gg_InvalidDirection : PySem.W.findIn K (.ref C_InvalidDirection) "__getattr__" = some none)
    (ti_InvalidDirection : PySem.W.typeIn K (.ref f4) = some (.type "function"))
    (kc_InvalidDirection : PySem.W.keepIn K (.ref C_InvalidDirection) = true)
    (ex_InvalidDirection : PySem.W.subIn K (.ref C_InvalidDirection) (.type "BaseException") = some true)
    (ty_InvalidDirection : PySem.W.typeIn K (.ref C_InvalidDirection) = some (.type "type"))
    (hd_InvalidDirection : PySem.W.hasDictIn K C_InvalidDirection = true)
    (il_InvalidDirection : PySem.W.isClsIn K C_InvalidDirection = true)
    (ss_InvalidDirection : PySem.W.subIn K (.ref C_InvalidDirection) (.ref C_InvalidDirection) = some true)
    (ss_InvalidDirection_SeatError : PySem.W.subIn K (.ref C_InvalidDirection) (.ref C_SeatError) = some true)
    (n_InvalidDirection_direction : PySem.W.findIn K (.ref C_InvalidDirection) "direction" = some none)
    (xl_InvalidWitness : K.lookup C_InvalidWitness = some (excClassObj nm_InvalidWitness q_InvalidWitness C_InvalidWitness N_InvalidWitness bs_InvalidWitness [.ref B_InvalidWitness, .type "ValueError", .type "Exception", .type "BaseException", .type "object"] true sn_InvalidWitness sub_InvalidWitness ab_InvalidWitness col_InvalidWitness dd_InvalidWitness m0_InvalidWitness m1_InvalidWitness m2_InvalidWitness m3_InvalidWitness m5_InvalidWitness "ValueError.__new__"))
    (sa_InvalidWitness : PySem.W.findIn K (.ref C_InvalidWitness) "__setattr__" = some (some (.builtin "object.__setattr__")))
    (ga_InvalidWitness : PySem.W.findIn K (.ref C_InvalidWitness) "__getattribute__" = some (some (.builtin "BaseException.__getattribute__")))
    (gg_InvalidWitness : PySem.W.findIn K (.ref C_InvalidWitness) "__getattr__" = some none)
    (ti_InvalidWitness : PySem.W.typeIn K (.ref f5) = some (.type "function"))
    (kc_InvalidWitness : PySem.W.keepIn K (.ref C_InvalidWitness) = true)
    (ex_InvalidWitness : PySem.W.subIn K (.ref C_InvalidWitness) (.type "BaseException") = some true)
    (ty_InvalidWitness : PySem.W.typeIn K (.ref C_InvalidWitness) = some (.type "type"))
    (hd_InvalidWitness : PySem.W.hasDictIn K C_InvalidWitness = true)
    (il_InvalidWitness : PySem.W.isClsIn K C_InvalidWitness = true)
    (ss_InvalidWitness : PySem.W.subIn K (.ref C_InvalidWitness) (.ref C_InvalidWitness) = some true)
    (ss_InvalidWitness_SeatError : PySem.W.subIn K (.ref C_InvalidWitness) (.ref C_SeatError) = some true)
    (n_InvalidWitness_index : PySem.W.findIn K (.ref C_InvalidWitness) "index" = some none)
    (xl_InvalidNumber : K.lookup C_InvalidNumber = some (excClassObj nm_InvalidNumber q_InvalidNumber C_InvalidNumber N_InvalidNumber bs_InvalidNumber [.ref B_InvalidNumber, .type "ValueError", .type "Exception", .type "BaseException", .type "object"] true sn_InvalidNumber sub_InvalidNumber ab_InvalidNumber col_InvalidNumber dd_InvalidNumber m0_InvalidNumber m1_InvalidNumber m2_InvalidNumber m3_InvalidNumber m5_InvalidNumber "ValueError.__new__"))
    (sa_InvalidNumber : PySem.W.findIn K (.ref C_InvalidNumber) "__setattr__" = some (some (.builtin "object.__setattr__")))
    (ga_InvalidNumber : PySem.W.findIn K (.ref C_InvalidNumber) "__getattribute__" = some (some (.builtin "BaseException.__getattribute__")))
    (gg_InvalidNumber : PySem.W.findIn K (.ref C_InvalidNumber) "__getattr__" = some none)
    (ti_InvalidNumber : PySem.W.typeIn K (.ref f6) = some (.type "function"))
    (kc_InvalidNumber : PySem.W.keepIn K (.ref C_InvalidNumber) = true)
    (ex_InvalidNumber : PySem.W.subIn K (.ref C_InvalidNumber) (.type "BaseException") = some true)
    (ty_InvalidNumber : PySem.W.typeIn K (.ref C_InvalidNumber) = some (.type "type"))
    (hd_InvalidNumber : PySem.W.hasDictIn K C_InvalidNumber = true)
    (il_InvalidNumber : PySem.W.isClsIn K C_InvalidNumber = true)
    (ss_InvalidNumber : PySem.W.subIn K (.ref C_InvalidNumber) (.ref C_InvalidNumber) = some true)
    (ss_InvalidNumber_SeatError : PySem.W.subIn K (.ref C_InvalidNumber) (.ref C_SeatError) = some true)
    (n_InvalidNumber_name : PySem.W.findIn K (.ref C_InvalidNumber) "name" = some none)
    (xl_InvalidMoves : K.lookup C_InvalidMoves = some (excClassObj nm_InvalidMoves q_InvalidMoves C_InvalidMoves N_InvalidMoves bs_InvalidMoves [.ref B_InvalidMoves, .type "ValueError", .type "Exception", .type "BaseException", .type "object"] true sn_InvalidMoves sub_InvalidMoves ab_InvalidMoves col_InvalidMoves dd_InvalidMoves m0_InvalidMoves m1_InvalidMoves m2_InvalidMoves m3_InvalidMoves m5_InvalidMoves "ValueError.__new__"))
    (sa_InvalidMoves : PySem.W.findIn K (.ref C_InvalidMoves) "__setattr__" = some (some (.builtin "object.__setattr__")))
    (ga_InvalidMoves : PySem.W.findIn K (.ref C_InvalidMoves) "__getattribute__" = some (some (.builtin "BaseException.__getattribute__")))
    (gg_InvalidMoves : PySem.W.findIn K (.ref C_InvalidMoves) "__getattr__" = some none)
    (ti_InvalidMoves : PySem.W.typeIn K (.ref f7) = some (.type "function"))
    (kc_InvalidMoves : PySem.W.keepIn K (.ref C_InvalidMoves) = true)
    (ex_InvalidMoves : PySem.W.subIn K (.ref C_InvalidMoves) (.type "BaseException") = some true)
    (ty_InvalidMoves : PySem.W.typeIn K (.ref C_InvalidMoves) = some (.type "type"))
    (hd_InvalidMoves : PySem.W.hasDictIn K C_InvalidMoves = true)
    (il_InvalidMoves : PySem.W.isClsIn K C_InvalidMoves = true)
    (ss_InvalidMoves : PySem.W.subIn K (.ref C_InvalidMoves) (.ref C_InvalidMoves) = some true)
    (ss_InvalidMoves_SeatError : PySem.W.subIn K (.ref C_InvalidMoves) (.ref C_SeatError) = some true)
    (n_InvalidMoves_index : PySem.W.findIn K (.ref C_InvalidMoves) "index" = some none)
    (xl_InvalidStrategy : K.lookup C_InvalidStrategy = some (excClassObj nm_InvalidStrategy q_InvalidStrategy C_InvalidStrategy N_InvalidStrategy bs_InvalidStrategy [.ref B_InvalidStrategy, .type "ValueError", .type "Exception", .type "BaseException", .type "object"] true sn_InvalidStrategy sub_InvalidStrategy ab_InvalidStrategy col_InvalidStrategy dd_InvalidStrategy m0_InvalidStrategy m1_InvalidStrategy m2_InvalidStrategy m3_InvalidStrategy m5_InvalidStrategy "ValueError.__new__"))
    (sa_InvalidStrategy : PySem.W.findIn K (.ref C_InvalidStrategy) "__setattr__" = some (some (.builtin "object.__setattr__")))
    (ga_InvalidStrategy : PySem.W.findIn K (.ref C_InvalidStrategy) "__getattribute__" = some (some (.builtin "BaseException.__getattribute__")))
    (gg_InvalidStrategy : PySem.W.findIn K (.ref C_InvalidStrategy) "__getattr__" = some none)
    (ti_InvalidStrategy : PySem.W.typeIn K (.ref f8) = some (.type "function"))
    (kc_InvalidStrategy : PySem.W.keepIn K (.ref C_InvalidStrategy) = true)
    (ex_InvalidStrategy : PySem.W.subIn K (.ref C_InvalidStrategy) (.type "BaseException") = some true)
    (ty_InvalidStrategy : PySem.W.typeIn K (.ref C_InvalidStrategy) = some (.type "type"))
    (hd_InvalidStrategy : PySem.W.hasDictIn K C_InvalidStrategy = true)
    (il_InvalidStrategy : PySem.W.isClsIn K C_InvalidStrategy = true)
    (ss_InvalidStrategy : PySem.W.subIn K (.ref C_InvalidStrategy) (.ref C_InvalidStrategy) = some true)
    (ss_InvalidStrategy_SeatError : PySem.W.subIn K (.ref C_InvalidStrategy) (.ref C_SeatError) = some true)
    (n_InvalidStrategy_strategy : PySem.W.findIn K (.ref C_InvalidStrategy) "strategy" = some none)
    (xl_Mismatch : K.lookup C_Mismatch = some (excClassObj nm_Mismatch q_Mismatch C_Mismatch N_Mismatch bs_Mismatch [.ref B_Mismatch, .type "ValueError", .type "Exception", .type "BaseException", .type "object"] true sn_Mismatch sub_Mismatch ab_Mismatch col_Mismatch dd_Mismatch m0_Mismatch m1_Mismatch m2_Mismatch m3_Mismatch m5_Mismatch "ValueError.__new__"))
    (sa_Mismatch : PySem.W.findIn K (.ref C_Mismatch) "__setattr__" = some (some (.builtin "object.__setattr__")))
    (ga_Mismatch : PySem.W.findIn K (.ref C_Mismatch) "__getattribute__" = some (some (.builtin "BaseException.__getattribute__")))
    (gg_Mismatch : PySem.W.findIn K (.ref C_Mismatch) "__getattr__" = some none)
    (ti_Mismatch : PySem.W.typeIn K (.ref f9) = some (.type "function"))
    (kc_Mismatch : PySem.W.keepIn K (.ref C_Mismatch) = true)
    (ex_Mismatch : PySem.W.subIn K (.ref C_Mismatch) (.type "BaseException") = some true)
    (ty_Mismatch : PySem.W.typeIn K (.ref C_Mismatch) = some (.type "type"))
    (hd_Mismatch : PySem.W.hasDictIn K C_Mismatch = true)
    (il_Mismatch : PySem.W.isClsIn K C_Mismatch = true)
    (ss_Mismatch : PySem.W.subIn K (.ref C_Mismatch) (.ref C_Mismatch) = some true)
    (ss_Mismatch_SeatError : PySem.W.subIn K (.ref C_Mismatch) (.ref C_SeatError) = some true)
    (n_Mismatch_name : PySem.W.findIn K (.ref C_Mismatch) "name" = some none)
    (xl_TooLarge : K.lookup C_TooLarge = some (excClassObj nm_TooLarge q_TooLarge C_TooLarge N_TooLarge bs_TooLarge [.ref B_TooLarge, .type "ValueError", .type "Exception", .type "BaseException", .type "object"] true sn_TooLarge sub_TooLarge ab_TooLarge col_TooLarge dd_TooLarge m0_TooLarge m1_TooLarge m2_TooLarge m3_TooLarge m5_TooLarge "ValueError.__new__"))
    (sa_TooLarge : PySem.W.findIn K (.ref C_TooLarge) "__setattr__" = some (some (.builtin "object.__setattr__")))
    (ga_TooLarge : PySem.W.findIn K (.ref C_TooLarge) "__getattribute__" = some (some (.builtin "BaseException.__getattribute__")))
    (gg_TooLarge : PySem.W.findIn K (.ref C_TooLarge) "__getattr__" = some none)
    (ti_TooLarge : PySem.W.typeIn K (.ref f10) = some (.type "function"))
    (kc_TooLarge : PySem.W.keepIn K (.ref C_TooLarge) = true)
    (ex_TooLarge : PySem.W.subIn K (.ref C_TooLarge) (.type "BaseException") = some true)
    (ty_TooLarge : PySem.W.typeIn K (.ref C_TooLarge) = some (.type "type"))
    (hd_TooLarge : PySem.W.hasDictIn K C_TooLarge = true)
    (il_TooLarge : PySem.W.isClsIn K C_TooLarge = true)
    (ss_TooLarge : PySem.W.subIn K (.ref C_TooLarge) (.ref C_TooLarge) = some true)
    (ss_TooLarge_SeatError : PySem.W.subIn K (.ref C_TooLarge) (.ref C_SeatError) = some true)
    (n_TooLarge_limit : PySem.W.findIn K (.ref C_TooLarge) "limit" = some none)
    (ig_ : PySem.W.specialIn K (.builtin "object.__class__") "__get__" = some (some (.builtin "getset_descriptor.__get__")))
    (it_ : PySem.W.takesIn K (.builtin "object.__class__") = some true)
    (ic_InvalidTable : PySem.W.findIn K (.ref C_InvalidTable) "__class__" = some (some (.builtin "object.__class__")))
    (im_InvalidTable : PySem.W.mroIn K C_InvalidTable (.type "object") = some true)
    (ic_InvalidTargets : PySem.W.findIn K (.ref C_InvalidTargets) "__class__" = some (some (.builtin "object.__class__")))
    (im_InvalidTargets : PySem.W.mroIn K C_InvalidTargets (.type "object") = some true)
    (ic_InvalidSeat : PySem.W.findIn K (.ref C_InvalidSeat) "__class__" = some (some (.builtin "object.__class__")))
    (im_InvalidSeat : PySem.W.mroIn K C_InvalidSeat (.type "object") = some true)
    (ic_InvalidCall : PySem.W.findIn K (.ref C_InvalidCall) "__class__" = some (some (.builtin "object.__class__")))
    (im_InvalidCall : PySem.W.mroIn K C_InvalidCall (.type "object") = some true)
    (ic_InvalidDirection : PySem.W.findIn K (.ref C_InvalidDirection) "__class__" = some (some (.builtin "object.__class__")))
    (im_InvalidDirection : PySem.W.mroIn K C_InvalidDirection (.type "object") = some true)
    (ic_InvalidWitness : PySem.W.findIn K (.ref C_InvalidWitness) "__class__" = some (some (.builtin "object.__class__")))
    (im_InvalidWitness : PySem.W.mroIn K C_InvalidWitness (.type "object") = some true)
    (ic_InvalidNumber : PySem.W.findIn K (.ref C_InvalidNumber) "__class__" = some (some (.builtin "object.__class__")))
    (im_InvalidNumber : PySem.W.mroIn K C_InvalidNumber (.type "object") = some true)
    (ic_InvalidMoves : PySem.W.findIn K (.ref C_InvalidMoves) "__class__" = some (some (.builtin "object.__class__")))
    (im_InvalidMoves : PySem.W.mroIn K C_InvalidMoves (.type "object") = some true)
    (ic_InvalidStrategy : PySem.W.findIn K (.ref C_InvalidStrategy) "__class__" = some (some (.builtin "object.__class__")))
    (im_InvalidStrategy : PySem.W.mroIn K C_InvalidStrategy (.type "object") = some true)
    (ic_Mismatch : PySem.W.findIn K (.ref C_Mismatch) "__class__" = some (some (.builtin "object.__class__")))
    (im_Mismatch : PySem.W.mroIn K C_Mismatch (.type "object") = some true)
    (ic_TooLarge : PySem.W.findIn K (.ref C_TooLarge) "__class__" = some (some (.builtin "object.__class__")))
    (im_TooLarge : PySem.W.mroIn K C_TooLarge (.type "object") = some true)
    (ki_InvalidTable_InvalidTargets : PySem.W.kitAny K (.ref C_InvalidTable) [.ref C_InvalidTargets] = some false)
    (ki_InvalidTable_InvalidSeat : PySem.W.kitAny K (.ref C_InvalidTable) [.ref C_InvalidSeat] = some false)
    (ki_InvalidTable_InvalidCall : PySem.W.kitAny K (.ref C_InvalidTable) [.ref C_InvalidCall] = some false)
    (ki_InvalidTable_InvalidDirection : PySem.W.kitAny K (.ref C_InvalidTable) [.ref C_InvalidDirection] = some false)
    (ki_InvalidTable_InvalidWitness : PySem.W.kitAny K (.ref C_InvalidTable) [.ref C_InvalidWitness] = some false)
    (ki_InvalidTable_InvalidNumber : PySem.W.kitAny K (.ref C_InvalidTable) [.ref C_InvalidNumber] = some false)
    (ki_InvalidTable_InvalidMoves : PySem.W.kitAny K (.ref C_InvalidTable) [.ref C_InvalidMoves] = some false)
    (ki_InvalidTable_InvalidStrategy : PySem.W.kitAny K (.ref C_InvalidTable) [.ref C_InvalidStrategy] = some false)
    (ki_InvalidTable_Mismatch : PySem.W.kitAny K (.ref C_InvalidTable) [.ref C_Mismatch] = some false)
    (ki_InvalidTable_TooLarge : PySem.W.kitAny K (.ref C_InvalidTable) [.ref C_TooLarge] = some false)
    (ki_InvalidTable_SeatError : PySem.W.kitAny K (.ref C_InvalidTable) [.ref C_SeatError] = some true)
    (ki_InvalidTable_ValueError : PySem.W.kitAny K (.ref C_InvalidTable) [.type "ValueError"] = some true)
    (ki_InvalidTargets_InvalidTable : PySem.W.kitAny K (.ref C_InvalidTargets) [.ref C_InvalidTable] = some false)
    (ki_InvalidTargets_InvalidSeat : PySem.W.kitAny K (.ref C_InvalidTargets) [.ref C_InvalidSeat] = some false)
    (ki_InvalidTargets_InvalidCall : PySem.W.kitAny K (.ref C_InvalidTargets) [.ref C_InvalidCall] = some false)
    (ki_InvalidTargets_InvalidDirection : PySem.W.kitAny K (.ref C_InvalidTargets) [.ref C_InvalidDirection] = some false)
    (ki_InvalidTargets_InvalidWitness : PySem.W.kitAny K (.ref C_InvalidTargets) [.ref C_InvalidWitness] = some false)
    (ki_InvalidTargets_InvalidNumber : PySem.W.kitAny K (.ref C_InvalidTargets) [.ref C_InvalidNumber] = some false)
    (ki_InvalidTargets_InvalidMoves : PySem.W.kitAny K (.ref C_InvalidTargets) [.ref C_InvalidMoves] = some false)
    (ki_InvalidTargets_InvalidStrategy : PySem.W.kitAny K (.ref C_InvalidTargets) [.ref C_InvalidStrategy] = some false)
    (ki_InvalidTargets_Mismatch : PySem.W.kitAny K (.ref C_InvalidTargets) [.ref C_Mismatch] = some false)
    (ki_InvalidTargets_TooLarge : PySem.W.kitAny K (.ref C_InvalidTargets) [.ref C_TooLarge] = some false)
    (ki_InvalidTargets_SeatError : PySem.W.kitAny K (.ref C_InvalidTargets) [.ref C_SeatError] = some true)
    (ki_InvalidTargets_ValueError : PySem.W.kitAny K (.ref C_InvalidTargets) [.type "ValueError"] = some true)
    (ki_InvalidSeat_InvalidTable : PySem.W.kitAny K (.ref C_InvalidSeat) [.ref C_InvalidTable] = some false)
    (ki_InvalidSeat_InvalidTargets : PySem.W.kitAny K (.ref C_InvalidSeat) [.ref C_InvalidTargets] = some false)
    (ki_InvalidSeat_InvalidCall : PySem.W.kitAny K (.ref C_InvalidSeat) [.ref C_InvalidCall] = some false)
    (ki_InvalidSeat_InvalidDirection : PySem.W.kitAny K (.ref C_InvalidSeat) [.ref C_InvalidDirection] = some false)
    (ki_InvalidSeat_InvalidWitness : PySem.W.kitAny K (.ref C_InvalidSeat) [.ref C_InvalidWitness] = some false)
    (ki_InvalidSeat_InvalidNumber : PySem.W.kitAny K (.ref C_InvalidSeat) [.ref C_InvalidNumber] = some false)
    (ki_InvalidSeat_InvalidMoves : PySem.W.kitAny K (.ref C_InvalidSeat) [.ref C_InvalidMoves] = some false)
    (ki_InvalidSeat_InvalidStrategy : PySem.W.kitAny K (.ref C_InvalidSeat) [.ref C_InvalidStrategy] = some false)
    (ki_InvalidSeat_Mismatch : PySem.W.kitAny K (.ref C_InvalidSeat) [.ref C_Mismatch] = some false)
    (ki_InvalidSeat_TooLarge : PySem.W.kitAny K (.ref C_InvalidSeat) [.ref C_TooLarge] = some false)
    (ki_InvalidSeat_SeatError : PySem.W.kitAny K (.ref C_InvalidSeat) [.ref C_SeatError] = some true)
    (ki_InvalidSeat_ValueError : PySem.W.kitAny K (.ref C_InvalidSeat) [.type "ValueError"] = some true)
    (ki_InvalidCall_InvalidTable : PySem.W.kitAny K (.ref C_InvalidCall) [.ref C_InvalidTable] = some false)
    (ki_InvalidCall_InvalidTargets : PySem.W.kitAny K (.ref C_InvalidCall) [.ref C_InvalidTargets] = some false)
    (ki_InvalidCall_InvalidSeat : PySem.W.kitAny K (.ref C_InvalidCall) [.ref C_InvalidSeat] = some false)
    (ki_InvalidCall_InvalidDirection : PySem.W.kitAny K (.ref C_InvalidCall) [.ref C_InvalidDirection] = some false)
    (ki_InvalidCall_InvalidWitness : PySem.W.kitAny K (.ref C_InvalidCall) [.ref C_InvalidWitness] = some false)
    (ki_InvalidCall_InvalidNumber : PySem.W.kitAny K (.ref C_InvalidCall) [.ref C_InvalidNumber] = some false)
    (ki_InvalidCall_InvalidMoves : PySem.W.kitAny K (.ref C_InvalidCall) [.ref C_InvalidMoves] = some false)
    (ki_InvalidCall_InvalidStrategy : PySem.W.kitAny K (.ref C_InvalidCall) [.ref C_InvalidStrategy] = some false)
    (ki_InvalidCall_Mismatch : PySem.W.kitAny K (.ref C_InvalidCall) [.ref C_Mismatch] = some false)
    (ki_InvalidCall_TooLarge : PySem.W.kitAny K (.ref C_InvalidCall) [.ref C_TooLarge] = some false)
    (ki_InvalidCall_SeatError : PySem.W.kitAny K (.ref C_InvalidCall) [.ref C_SeatError] = some true)
    (ki_InvalidCall_ValueError : PySem.W.kitAny K (.ref C_InvalidCall) [.type "ValueError"] = some true)
    (ki_InvalidDirection_InvalidTable : PySem.W.kitAny K (.ref C_InvalidDirection) [.ref C_InvalidTable] = some false)
    (ki_InvalidDirection_InvalidTargets : PySem.W.kitAny K (.ref C_InvalidDirection) [.ref C_InvalidTargets] = some false)
    (ki_InvalidDirection_InvalidSeat : PySem.W.kitAny K (.ref C_InvalidDirection) [.ref C_InvalidSeat] = some false)
    (ki_InvalidDirection_InvalidCall : PySem.W.kitAny K (.ref C_InvalidDirection) [.ref C_InvalidCall] = some false)
    (ki_InvalidDirection_InvalidWitness : PySem.W.kitAny K (.ref C_InvalidDirection) [.ref C_InvalidWitness] = some false)
    (ki_InvalidDirection_InvalidNumber : PySem.W.kitAny K (.ref C_InvalidDirection) [.ref C_InvalidNumber] = some false)
    (ki_InvalidDirection_InvalidMoves : PySem.W.kitAny K (.ref C_InvalidDirection) [.ref C_InvalidMoves] = some false)
    (ki_InvalidDirection_InvalidStrategy : PySem.W.kitAny K (.ref C_InvalidDirection) [.ref C_InvalidStrategy] = some false)
    (ki_InvalidDirection_Mismatch : PySem.W.kitAny K (.ref C_InvalidDirection) [.ref C_Mismatch] = some false)
    (ki_InvalidDirection_TooLarge : PySem.W.kitAny K (.ref C_InvalidDirection) [.ref C_TooLarge] = some false)
    (ki_InvalidDirection_SeatError : PySem.W.kitAny K (.ref C_InvalidDirection) [.ref C_SeatError] = some true)
    (ki_InvalidDirection_ValueError : PySem.W.kitAny K (.ref C_InvalidDirection) [.type "ValueError"] = some true)
    (ki_InvalidWitness_InvalidTable : PySem.W.kitAny K (.ref C_InvalidWitness) [.ref C_InvalidTable] = some false)
    (ki_InvalidWitness_InvalidTargets : PySem.W.kitAny K (.ref C_InvalidWitness) [.ref C_InvalidTargets] = some false)
    (ki_InvalidWitness_InvalidSeat : PySem.W.kitAny K (.ref C_InvalidWitness) [.ref C_InvalidSeat] = some false)
    (ki_InvalidWitness_InvalidCall : PySem.W.kitAny K (.ref C_InvalidWitness) [.ref C_InvalidCall] = some false)
    (ki_InvalidWitness_InvalidDirection : PySem.W.kitAny K (.ref C_InvalidWitness) [.ref C_InvalidDirection] = some false)
    (ki_InvalidWitness_InvalidNumber : PySem.W.kitAny K (.ref C_InvalidWitness) [.ref C_InvalidNumber] = some false)
    (ki_InvalidWitness_InvalidMoves : PySem.W.kitAny K (.ref C_InvalidWitness) [.ref C_InvalidMoves] = some false)
    (ki_InvalidWitness_InvalidStrategy : PySem.W.kitAny K (.ref C_InvalidWitness) [.ref C_InvalidStrategy] = some false)
    (ki_InvalidWitness_Mismatch : PySem.W.kitAny K (.ref C_InvalidWitness) [.ref C_Mismatch] = some false)
    (ki_InvalidWitness_TooLarge : PySem.W.kitAny K (.ref C_InvalidWitness) [.ref C_TooLarge] = some false)
    (ki_InvalidWitness_SeatError : PySem.W.kitAny K (.ref C_InvalidWitness) [.ref C_SeatError] = some true)
    (ki_InvalidWitness_ValueError : PySem.W.kitAny K (.ref C_InvalidWitness) [.type "ValueError"] = some true)
    (ki_InvalidNumber_InvalidTable : PySem.W.kitAny K (.ref C_InvalidNumber) [.ref C_InvalidTable] = some false)
    (ki_InvalidNumber_InvalidTargets : PySem.W.kitAny K (.ref C_InvalidNumber) [.ref C_InvalidTargets] = some false)
    (ki_InvalidNumber_InvalidSeat : PySem.W.kitAny K (.ref C_InvalidNumber) [.ref C_InvalidSeat] = some false)
    (ki_InvalidNumber_InvalidCall : PySem.W.kitAny K (.ref C_InvalidNumber) [.ref C_InvalidCall] = some false)
    (ki_InvalidNumber_InvalidDirection : PySem.W.kitAny K (.ref C_InvalidNumber) [.ref C_InvalidDirection] = some false)
    (ki_InvalidNumber_InvalidWitness : PySem.W.kitAny K (.ref C_InvalidNumber) [.ref C_InvalidWitness] = some false)
    (ki_InvalidNumber_InvalidMoves : PySem.W.kitAny K (.ref C_InvalidNumber) [.ref C_InvalidMoves] = some false)
    (ki_InvalidNumber_InvalidStrategy : PySem.W.kitAny K (.ref C_InvalidNumber) [.ref C_InvalidStrategy] = some false)
    (ki_InvalidNumber_Mismatch : PySem.W.kitAny K (.ref C_InvalidNumber) [.ref C_Mismatch] = some false)
    (ki_InvalidNumber_TooLarge : PySem.W.kitAny K (.ref C_InvalidNumber) [.ref C_TooLarge] = some false)
    (ki_InvalidNumber_SeatError : PySem.W.kitAny K (.ref C_InvalidNumber) [.ref C_SeatError] = some true)
    (ki_InvalidNumber_ValueError : PySem.W.kitAny K (.ref C_InvalidNumber) [.type "ValueError"] = some true)
    (ki_InvalidMoves_InvalidTable : PySem.W.kitAny K (.ref C_InvalidMoves) [.ref C_InvalidTable] = some false)
    (ki_InvalidMoves_InvalidTargets : PySem.W.kitAny K (.ref C_InvalidMoves) [.ref C_InvalidTargets] = some false)
    (ki_InvalidMoves_InvalidSeat : PySem.W.kitAny K (.ref C_InvalidMoves) [.ref C_InvalidSeat] = some false)
    (ki_InvalidMoves_InvalidCall : PySem.W.kitAny K (.ref C_InvalidMoves) [.ref C_InvalidCall] = some false)
    (ki_InvalidMoves_InvalidDirection : PySem.W.kitAny K (.ref C_InvalidMoves) [.ref C_InvalidDirection] = some false)
    (ki_InvalidMoves_InvalidWitness : PySem.W.kitAny K (.ref C_InvalidMoves) [.ref C_InvalidWitness] = some false)
    (ki_InvalidMoves_InvalidNumber : PySem.W.kitAny K (.ref C_InvalidMoves) [.ref C_InvalidNumber] = some false)
    (ki_InvalidMoves_InvalidStrategy : PySem.W.kitAny K (.ref C_InvalidMoves) [.ref C_InvalidStrategy] = some false)
    (ki_InvalidMoves_Mismatch : PySem.W.kitAny K (.ref C_InvalidMoves) [.ref C_Mismatch] = some false)
    (ki_InvalidMoves_TooLarge : PySem.W.kitAny K (.ref C_InvalidMoves) [.ref C_TooLarge] = some false)
    (ki_InvalidMoves_SeatError : PySem.W.kitAny K (.ref C_InvalidMoves) [.ref C_SeatError] = some true)
    (ki_InvalidMoves_ValueError : PySem.W.kitAny K (.ref C_InvalidMoves) [.type "ValueError"] = some true)
    (ki_InvalidStrategy_InvalidTable : PySem.W.kitAny K (.ref C_InvalidStrategy) [.ref C_InvalidTable] = some false)
    (ki_InvalidStrategy_InvalidTargets : PySem.W.kitAny K (.ref C_InvalidStrategy) [.ref C_InvalidTargets] = some false)
    (ki_InvalidStrategy_InvalidSeat : PySem.W.kitAny K (.ref C_InvalidStrategy) [.ref C_InvalidSeat] = some false)
    (ki_InvalidStrategy_InvalidCall : PySem.W.kitAny K (.ref C_InvalidStrategy) [.ref C_InvalidCall] = some false)
    (ki_InvalidStrategy_InvalidDirection : PySem.W.kitAny K (.ref C_InvalidStrategy) [.ref C_InvalidDirection] = some false)
    (ki_InvalidStrategy_InvalidWitness : PySem.W.kitAny K (.ref C_InvalidStrategy) [.ref C_InvalidWitness] = some false)
    (ki_InvalidStrategy_InvalidNumber : PySem.W.kitAny K (.ref C_InvalidStrategy) [.ref C_InvalidNumber] = some false)
    (ki_InvalidStrategy_InvalidMoves : PySem.W.kitAny K (.ref C_InvalidStrategy) [.ref C_InvalidMoves] = some false)
    (ki_InvalidStrategy_Mismatch : PySem.W.kitAny K (.ref C_InvalidStrategy) [.ref C_Mismatch] = some false)
    (ki_InvalidStrategy_TooLarge : PySem.W.kitAny K (.ref C_InvalidStrategy) [.ref C_TooLarge] = some false)
    (ki_InvalidStrategy_SeatError : PySem.W.kitAny K (.ref C_InvalidStrategy) [.ref C_SeatError] = some true)
    (ki_InvalidStrategy_ValueError : PySem.W.kitAny K (.ref C_InvalidStrategy) [.type "ValueError"] = some true)
    (ki_Mismatch_InvalidTable : PySem.W.kitAny K (.ref C_Mismatch) [.ref C_InvalidTable] = some false)
    (ki_Mismatch_InvalidTargets : PySem.W.kitAny K (.ref C_Mismatch) [.ref C_InvalidTargets] = some false)
    (ki_Mismatch_InvalidSeat : PySem.W.kitAny K (.ref C_Mismatch) [.ref C_InvalidSeat] = some false)
    (ki_Mismatch_InvalidCall : PySem.W.kitAny K (.ref C_Mismatch) [.ref C_InvalidCall] = some false)
    (ki_Mismatch_InvalidDirection : PySem.W.kitAny K (.ref C_Mismatch) [.ref C_InvalidDirection] = some false)
    (ki_Mismatch_InvalidWitness : PySem.W.kitAny K (.ref C_Mismatch) [.ref C_InvalidWitness] = some false)
    (ki_Mismatch_InvalidNumber : PySem.W.kitAny K (.ref C_Mismatch) [.ref C_InvalidNumber] = some false)
    (ki_Mismatch_InvalidMoves : PySem.W.kitAny K (.ref C_Mismatch) [.ref C_InvalidMoves] = some false)
    (ki_Mismatch_InvalidStrategy : PySem.W.kitAny K (.ref C_Mismatch) [.ref C_InvalidStrategy] = some false)
    (ki_Mismatch_TooLarge : PySem.W.kitAny K (.ref C_Mismatch) [.ref C_TooLarge] = some false)
    (ki_Mismatch_SeatError : PySem.W.kitAny K (.ref C_Mismatch) [.ref C_SeatError] = some true)
    (ki_Mismatch_ValueError : PySem.W.kitAny K (.ref C_Mismatch) [.type "ValueError"] = some true)
    (ki_TooLarge_InvalidTable : PySem.W.kitAny K (.ref C_TooLarge) [.ref C_InvalidTable] = some false)
    (ki_TooLarge_InvalidTargets : PySem.W.kitAny K (.ref C_TooLarge) [.ref C_InvalidTargets] = some false)
    (ki_TooLarge_InvalidSeat : PySem.W.kitAny K (.ref C_TooLarge) [.ref C_InvalidSeat] = some false)
    (ki_TooLarge_InvalidCall : PySem.W.kitAny K (.ref C_TooLarge) [.ref C_InvalidCall] = some false)
    (ki_TooLarge_InvalidDirection : PySem.W.kitAny K (.ref C_TooLarge) [.ref C_InvalidDirection] = some false)
    (ki_TooLarge_InvalidWitness : PySem.W.kitAny K (.ref C_TooLarge) [.ref C_InvalidWitness] = some false)
    (ki_TooLarge_InvalidNumber : PySem.W.kitAny K (.ref C_TooLarge) [.ref C_InvalidNumber] = some false)
    (ki_TooLarge_InvalidMoves : PySem.W.kitAny K (.ref C_TooLarge) [.ref C_InvalidMoves] = some false)
    (ki_TooLarge_InvalidStrategy : PySem.W.kitAny K (.ref C_TooLarge) [.ref C_InvalidStrategy] = some false)
    (ki_TooLarge_Mismatch : PySem.W.kitAny K (.ref C_TooLarge) [.ref C_Mismatch] = some false)
    (ki_TooLarge_SeatError : PySem.W.kitAny K (.ref C_TooLarge) [.ref C_SeatError] = some true)
    (ki_TooLarge_ValueError : PySem.W.kitAny K (.ref C_TooLarge) [.type "ValueError"] = some true)
    (sysd : PySem.W.typeIn K (.ref sysModules) = some (.type "dict"))
    (z_ValueError : PySem.W.nsIn K mainGlobals "ValueError" = some none)
    (z_all : PySem.W.nsIn K mainGlobals "all" = some none)
    (z_enumerate : PySem.W.nsIn K mainGlobals "enumerate" = some none)
    (z_isinstance : PySem.W.nsIn K mainGlobals "isinstance" = some none)
    (z_range : PySem.W.nsIn K mainGlobals "range" = some none)
    (z_repr : PySem.W.nsIn K mainGlobals "repr" = some none)
    : ∃ T : TX K mg, mg "law" = some (.ref T.f_law) ∧ ∀ (s : Shared) (v : Value), BindsTo s T.fd_law ⟨[v], []⟩ [("_law_script", v)] := by
  obtain ⟨T, h1, h2⟩ := all_mk X G aC_SeatError ex_SeatError ty_SeatError il_SeatError aC_InvalidTable aC_InvalidTargets aC_InvalidSeat aC_InvalidCall aC_InvalidDirection aC_InvalidWitness aC_InvalidNumber aC_InvalidMoves aC_InvalidStrategy aC_Mismatch aC_TooLarge a0 i0 l0 c0 k0 a1 i1 l1 c1 k1 a2 i2 l2 c2 k2 a3 i3 l3 c3 k3 a4 i4 l4 c4 k4 a5 i5 l5 c5 k5 a6 i6 l6 c6 k6 a7 i7 l7 c7 k7 a8 i8 l8 c8 k8 a9 i9 l9 c9 k9 a10 i10 l10 c10 k10 a11 l11 c11 k11 a12 l12 c12 k12 a13 l13 c13 k13 a14 l14 c14 k14 a15 l15 c15 k15 a16 l16 c16 k16 a17 l17 c17 k17 a18 l18 c18 k18 xl_InvalidTable sa_InvalidTable ga_InvalidTable gg_InvalidTable ti_InvalidTable kc_InvalidTable ex_InvalidTable ty_InvalidTable hd_InvalidTable il_InvalidTable ss_InvalidTable ss_InvalidTable_SeatError n_InvalidTable_rings xl_InvalidTargets sa_InvalidTargets ga_InvalidTargets gg_InvalidTargets ti_InvalidTargets kc_InvalidTargets ex_InvalidTargets ty_InvalidTargets hd_InvalidTargets il_InvalidTargets ss_InvalidTargets ss_InvalidTargets_SeatError n_InvalidTargets_index xl_InvalidSeat sa_InvalidSeat ga_InvalidSeat gg_InvalidSeat ti_InvalidSeat kc_InvalidSeat ex_InvalidSeat ty_InvalidSeat hd_InvalidSeat il_InvalidSeat ss_InvalidSeat ss_InvalidSeat_SeatError n_InvalidSeat_seat xl_InvalidCall sa_InvalidCall ga_InvalidCall gg_InvalidCall ti_InvalidCall kc_InvalidCall ex_InvalidCall ty_InvalidCall hd_InvalidCall il_InvalidCall ss_InvalidCall ss_InvalidCall_SeatError n_InvalidCall_call xl_InvalidDirection sa_InvalidDirection ga_InvalidDirection gg_InvalidDirection ti_InvalidDirection kc_InvalidDirection ex_InvalidDirection ty_InvalidDirection hd_InvalidDirection il_InvalidDirection ss_InvalidDirection ss_InvalidDirection_SeatError n_InvalidDirection_direction xl_InvalidWitness sa_InvalidWitness ga_InvalidWitness gg_InvalidWitness ti_InvalidWitness kc_InvalidWitness ex_InvalidWitness ty_InvalidWitness hd_InvalidWitness il_InvalidWitness ss_InvalidWitness ss_InvalidWitness_SeatError n_InvalidWitness_index xl_InvalidNumber sa_InvalidNumber ga_InvalidNumber gg_InvalidNumber ti_InvalidNumber kc_InvalidNumber ex_InvalidNumber ty_InvalidNumber hd_InvalidNumber il_InvalidNumber ss_InvalidNumber ss_InvalidNumber_SeatError n_InvalidNumber_name xl_InvalidMoves sa_InvalidMoves ga_InvalidMoves gg_InvalidMoves ti_InvalidMoves kc_InvalidMoves ex_InvalidMoves ty_InvalidMoves hd_InvalidMoves il_InvalidMoves ss_InvalidMoves ss_InvalidMoves_SeatError n_InvalidMoves_index xl_InvalidStrategy sa_InvalidStrategy ga_InvalidStrategy gg_InvalidStrategy ti_InvalidStrategy kc_InvalidStrategy ex_InvalidStrategy ty_InvalidStrategy hd_InvalidStrategy il_InvalidStrategy ss_InvalidStrategy ss_InvalidStrategy_SeatError n_InvalidStrategy_strategy xl_Mismatch sa_Mismatch ga_Mismatch gg_Mismatch ti_Mismatch kc_Mismatch ex_Mismatch ty_Mismatch hd_Mismatch il_Mismatch ss_Mismatch ss_Mismatch_SeatError n_Mismatch_name xl_TooLarge sa_TooLarge ga_TooLarge gg_TooLarge ti_TooLarge kc_TooLarge ex_TooLarge ty_TooLarge hd_TooLarge il_TooLarge ss_TooLarge ss_TooLarge_SeatError n_TooLarge_limit ig_ it_ ic_InvalidTable im_InvalidTable ic_InvalidTargets im_InvalidTargets ic_InvalidSeat im_InvalidSeat ic_InvalidCall im_InvalidCall ic_InvalidDirection im_InvalidDirection ic_InvalidWitness im_InvalidWitness ic_InvalidNumber im_InvalidNumber ic_InvalidMoves im_InvalidMoves ic_InvalidStrategy im_InvalidStrategy ic_Mismatch im_Mismatch ic_TooLarge im_TooLarge ki_InvalidTable_InvalidTargets ki_InvalidTable_InvalidSeat ki_InvalidTable_InvalidCall ki_InvalidTable_InvalidDirection ki_InvalidTable_InvalidWitness ki_InvalidTable_InvalidNumber ki_InvalidTable_InvalidMoves ki_InvalidTable_InvalidStrategy ki_InvalidTable_Mismatch ki_InvalidTable_TooLarge ki_InvalidTable_SeatError ki_InvalidTable_ValueError ki_InvalidTargets_InvalidTable ki_InvalidTargets_InvalidSeat ki_InvalidTargets_InvalidCall ki_InvalidTargets_InvalidDirection ki_InvalidTargets_InvalidWitness ki_InvalidTargets_InvalidNumber ki_InvalidTargets_InvalidMoves ki_InvalidTargets_InvalidStrategy ki_InvalidTargets_Mismatch ki_InvalidTargets_TooLarge ki_InvalidTargets_SeatError ki_InvalidTargets_ValueError ki_InvalidSeat_InvalidTable ki_InvalidSeat_InvalidTargets ki_InvalidSeat_InvalidCall ki_InvalidSeat_InvalidDirection ki_InvalidSeat_InvalidWitness ki_InvalidSeat_InvalidNumber ki_InvalidSeat_InvalidMoves ki_InvalidSeat_InvalidStrategy ki_InvalidSeat_Mismatch ki_InvalidSeat_TooLarge ki_InvalidSeat_SeatError ki_InvalidSeat_ValueError ki_InvalidCall_InvalidTable ki_InvalidCall_InvalidTargets ki_InvalidCall_InvalidSeat ki_InvalidCall_InvalidDirection ki_InvalidCall_InvalidWitness ki_InvalidCall_InvalidNumber ki_InvalidCall_InvalidMoves ki_InvalidCall_InvalidStrategy ki_InvalidCall_Mismatch ki_InvalidCall_TooLarge ki_InvalidCall_SeatError ki_InvalidCall_ValueError ki_InvalidDirection_InvalidTable ki_InvalidDirection_InvalidTargets ki_InvalidDirection_InvalidSeat ki_InvalidDirection_InvalidCall ki_InvalidDirection_InvalidWitness ki_InvalidDirection_InvalidNumber ki_InvalidDirection_InvalidMoves ki_InvalidDirection_InvalidStrategy ki_InvalidDirection_Mismatch ki_InvalidDirection_TooLarge ki_InvalidDirection_SeatError ki_InvalidDirection_ValueError ki_InvalidWitness_InvalidTable ki_InvalidWitness_InvalidTargets ki_InvalidWitness_InvalidSeat ki_InvalidWitness_InvalidCall ki_InvalidWitness_InvalidDirection ki_InvalidWitness_InvalidNumber ki_InvalidWitness_InvalidMoves ki_InvalidWitness_InvalidStrategy ki_InvalidWitness_Mismatch ki_InvalidWitness_TooLarge ki_InvalidWitness_SeatError ki_InvalidWitness_ValueError ki_InvalidNumber_InvalidTable ki_InvalidNumber_InvalidTargets ki_InvalidNumber_InvalidSeat ki_InvalidNumber_InvalidCall ki_InvalidNumber_InvalidDirection ki_InvalidNumber_InvalidWitness ki_InvalidNumber_InvalidMoves ki_InvalidNumber_InvalidStrategy ki_InvalidNumber_Mismatch ki_InvalidNumber_TooLarge ki_InvalidNumber_SeatError ki_InvalidNumber_ValueError ki_InvalidMoves_InvalidTable ki_InvalidMoves_InvalidTargets ki_InvalidMoves_InvalidSeat ki_InvalidMoves_InvalidCall ki_InvalidMoves_InvalidDirection ki_InvalidMoves_InvalidWitness ki_InvalidMoves_InvalidNumber ki_InvalidMoves_InvalidStrategy ki_InvalidMoves_Mismatch ki_InvalidMoves_TooLarge ki_InvalidMoves_SeatError ki_InvalidMoves_ValueError ki_InvalidStrategy_InvalidTable ki_InvalidStrategy_InvalidTargets ki_InvalidStrategy_InvalidSeat ki_InvalidStrategy_InvalidCall ki_InvalidStrategy_InvalidDirection ki_InvalidStrategy_InvalidWitness ki_InvalidStrategy_InvalidNumber ki_InvalidStrategy_InvalidMoves ki_InvalidStrategy_Mismatch ki_InvalidStrategy_TooLarge ki_InvalidStrategy_SeatError ki_InvalidStrategy_ValueError ki_Mismatch_InvalidTable ki_Mismatch_InvalidTargets ki_Mismatch_InvalidSeat ki_Mismatch_InvalidCall ki_Mismatch_InvalidDirection ki_Mismatch_InvalidWitness ki_Mismatch_InvalidNumber ki_Mismatch_InvalidMoves ki_Mismatch_InvalidStrategy ki_Mismatch_TooLarge ki_Mismatch_SeatError ki_Mismatch_ValueError ki_TooLarge_InvalidTable ki_TooLarge_InvalidTargets ki_TooLarge_InvalidSeat ki_TooLarge_InvalidCall ki_TooLarge_InvalidDirection ki_TooLarge_InvalidWitness ki_TooLarge_InvalidNumber ki_TooLarge_InvalidMoves ki_TooLarge_InvalidStrategy ki_TooLarge_Mismatch ki_TooLarge_SeatError ki_TooLarge_ValueError sysd z_ValueError z_all z_enumerate z_isinstance z_range z_repr
  exact ⟨T, T.m_law, fun s v => by rw [h2]; exact .of_eq rfl⟩
end CS
open PySem PySem.W PyProof.Rows in
set_option maxRecDepth 100000 in
set_option maxHeartbeats 0 in
theorem PySem.Challenge.cw_calledseats_k04_error_types_holds : PySem.Challenge.rw_calledseats_k04_error_types.Holds := by
  w_on; o_law; x_head; (case hw => w_witness2)
  k_fill
  refine CG.walk_ofG (l := PySem.Challenge.rw_calledseats_k04_error_types) (n := 63) (k := 4) (x := "_law_script") rfl (by decide) rfl ⟨rfl, by decide, by decide⟩ ?F
  case F =>
    intro w mg fa h Y G hmg
    have KX := PySem.W.kIn_of Y
    obtain ⟨T, e1, e2⟩ : ∃ T : CS.TX _ mg, mg "law" = some (.ref T.f_law) ∧ ∀ (s : Shared) (v : Value), BindsTo s T.fd_law ⟨[v], []⟩ [("_law_script", v)] := by
      refine' CS.use_mk KX G ?aC_SeatError ?ex_SeatError ?ty_SeatError ?il_SeatError ?aC_InvalidTable ?aC_InvalidTargets ?aC_InvalidSeat ?aC_InvalidCall ?aC_InvalidDirection ?aC_InvalidWitness ?aC_InvalidNumber ?aC_InvalidMoves ?aC_InvalidStrategy ?aC_Mismatch ?aC_TooLarge ?a0 ?i0 ?l0 ?c0 ?k0 ?a1 ?i1 ?l1 ?c1 ?k1 ?a2 ?i2 ?l2 ?c2 ?k2 ?a3 ?i3 ?l3 ?c3 ?k3 ?a4 ?i4 ?l4 ?c4 ?k4 ?a5 ?i5 ?l5 ?c5 ?k5 ?a6 ?i6 ?l6 ?c6 ?k6 ?a7 ?i7 ?l7 ?c7 ?k7 ?a8 ?i8 ?l8 ?c8 ?k8 ?a9 ?i9 ?l9 ?c9 ?k9 ?a10 ?i10 ?l10 ?c10 ?k10 ?a11 ?l11 ?c11 ?k11 ?a12 ?l12 ?c12 ?k12 ?a13 ?l13 ?c13 ?k13 ?a14 ?l14 ?c14 ?k14 ?a15 ?l15 ?c15 ?k15 ?a16 ?l16 ?c16 ?k16 ?a17 ?l17 ?c17 ?k17 ?a18 ?l18 ?c18 ?k18 ?xl_InvalidTable ?sa_InvalidTable ?ga_InvalidTable ?gg_InvalidTable ?ti_InvalidTable ?kc_InvalidTable ?ex_InvalidTable ?ty_InvalidTable ?hd_InvalidTable ?il_InvalidTable ?ss_InvalidTable ?ss_InvalidTable_SeatError ?n_InvalidTable_rings ?xl_InvalidTargets ?sa_InvalidTargets ?ga_InvalidTargets ?gg_InvalidTargets ?ti_InvalidTargets ?kc_InvalidTargets ?ex_InvalidTargets ?ty_InvalidTargets ?hd_InvalidTargets ?il_InvalidTargets ?ss_InvalidTargets ?ss_InvalidTargets_SeatError ?n_InvalidTargets_index ?xl_InvalidSeat ?sa_InvalidSeat ?ga_InvalidSeat ?gg_InvalidSeat ?ti_InvalidSeat ?kc_InvalidSeat ?ex_InvalidSeat ?ty_InvalidSeat ?hd_InvalidSeat ?il_InvalidSeat ?ss_InvalidSeat ?ss_InvalidSeat_SeatError ?n_InvalidSeat_seat ?xl_InvalidCall ?sa_InvalidCall ?ga_InvalidCall ?gg_InvalidCall ?ti_InvalidCall ?kc_InvalidCall ?ex_InvalidCall ?ty_InvalidCall ?hd_InvalidCall ?il_InvalidCall ?ss_InvalidCall ?ss_InvalidCall_SeatError ?n_InvalidCall_call ?xl_InvalidDirection ?sa_InvalidDirection ?ga_InvalidDirection ?gg_InvalidDirection ?ti_InvalidDirection ?kc_InvalidDirection ?ex_InvalidDirection ?ty_InvalidDirection ?hd_InvalidDirection ?il_InvalidDirection ?ss_InvalidDirection ?ss_InvalidDirection_SeatError ?n_InvalidDirection_direction ?xl_InvalidWitness ?sa_InvalidWitness ?ga_InvalidWitness ?gg_InvalidWitness ?ti_InvalidWitness ?kc_InvalidWitness ?ex_InvalidWitness ?ty_InvalidWitness ?hd_InvalidWitness ?il_InvalidWitness ?ss_InvalidWitness ?ss_InvalidWitness_SeatError ?n_InvalidWitness_index ?xl_InvalidNumber ?sa_InvalidNumber ?ga_InvalidNumber ?gg_InvalidNumber ?ti_InvalidNumber ?kc_InvalidNumber ?ex_InvalidNumber ?ty_InvalidNumber ?hd_InvalidNumber ?il_InvalidNumber ?ss_InvalidNumber ?ss_InvalidNumber_SeatError ?n_InvalidNumber_name ?xl_InvalidMoves ?sa_InvalidMoves ?ga_InvalidMoves ?gg_InvalidMoves ?ti_InvalidMoves ?kc_InvalidMoves ?ex_InvalidMoves ?ty_InvalidMoves ?hd_InvalidMoves ?il_InvalidMoves ?ss_InvalidMoves ?ss_InvalidMoves_SeatError ?n_InvalidMoves_index ?xl_InvalidStrategy ?sa_InvalidStrategy ?ga_InvalidStrategy ?gg_InvalidStrategy ?ti_InvalidStrategy ?kc_InvalidStrategy ?ex_InvalidStrategy ?ty_InvalidStrategy ?hd_InvalidStrategy ?il_InvalidStrategy ?ss_InvalidStrategy ?ss_InvalidStrategy_SeatError ?n_InvalidStrategy_strategy ?xl_Mismatch ?sa_Mismatch ?ga_Mismatch ?gg_Mismatch ?ti_Mismatch ?kc_Mismatch ?ex_Mismatch ?ty_Mismatch ?hd_Mismatch ?il_Mismatch ?ss_Mismatch ?ss_Mismatch_SeatError ?n_Mismatch_name ?xl_TooLarge ?sa_TooLarge ?ga_TooLarge ?gg_TooLarge ?ti_TooLarge ?kc_TooLarge ?ex_TooLarge ?ty_TooLarge ?hd_TooLarge ?il_TooLarge ?ss_TooLarge ?ss_TooLarge_SeatError ?n_TooLarge_limit ?ig_ ?it_ ?ic_InvalidTable ?im_InvalidTable ?ic_InvalidTargets ?im_InvalidTargets ?ic_InvalidSeat ?im_InvalidSeat ?ic_InvalidCall ?im_InvalidCall ?ic_InvalidDirection ?im_InvalidDirection ?ic_InvalidWitness ?im_InvalidWitness ?ic_InvalidNumber ?im_InvalidNumber ?ic_InvalidMoves ?im_InvalidMoves ?ic_InvalidStrategy ?im_InvalidStrategy ?ic_Mismatch ?im_Mismatch ?ic_TooLarge ?im_TooLarge ?ki_InvalidTable_InvalidTargets ?ki_InvalidTable_InvalidSeat ?ki_InvalidTable_InvalidCall ?ki_InvalidTable_InvalidDirection ?ki_InvalidTable_InvalidWitness ?ki_InvalidTable_InvalidNumber ?ki_InvalidTable_InvalidMoves ?ki_InvalidTable_InvalidStrategy ?ki_InvalidTable_Mismatch ?ki_InvalidTable_TooLarge ?ki_InvalidTable_SeatError ?ki_InvalidTable_ValueError ?ki_InvalidTargets_InvalidTable ?ki_InvalidTargets_InvalidSeat ?ki_InvalidTargets_InvalidCall ?ki_InvalidTargets_InvalidDirection ?ki_InvalidTargets_InvalidWitness ?ki_InvalidTargets_InvalidNumber ?ki_InvalidTargets_InvalidMoves ?ki_InvalidTargets_InvalidStrategy ?ki_InvalidTargets_Mismatch ?ki_InvalidTargets_TooLarge ?ki_InvalidTargets_SeatError ?ki_InvalidTargets_ValueError ?ki_InvalidSeat_InvalidTable ?ki_InvalidSeat_InvalidTargets ?ki_InvalidSeat_InvalidCall ?ki_InvalidSeat_InvalidDirection ?ki_InvalidSeat_InvalidWitness ?ki_InvalidSeat_InvalidNumber ?ki_InvalidSeat_InvalidMoves ?ki_InvalidSeat_InvalidStrategy ?ki_InvalidSeat_Mismatch ?ki_InvalidSeat_TooLarge ?ki_InvalidSeat_SeatError ?ki_InvalidSeat_ValueError ?ki_InvalidCall_InvalidTable ?ki_InvalidCall_InvalidTargets ?ki_InvalidCall_InvalidSeat ?ki_InvalidCall_InvalidDirection ?ki_InvalidCall_InvalidWitness ?ki_InvalidCall_InvalidNumber ?ki_InvalidCall_InvalidMoves ?ki_InvalidCall_InvalidStrategy ?ki_InvalidCall_Mismatch ?ki_InvalidCall_TooLarge ?ki_InvalidCall_SeatError ?ki_InvalidCall_ValueError ?ki_InvalidDirection_InvalidTable ?ki_InvalidDirection_InvalidTargets ?ki_InvalidDirection_InvalidSeat ?ki_InvalidDirection_InvalidCall ?ki_InvalidDirection_InvalidWitness ?ki_InvalidDirection_InvalidNumber ?ki_InvalidDirection_InvalidMoves ?ki_InvalidDirection_InvalidStrategy ?ki_InvalidDirection_Mismatch ?ki_InvalidDirection_TooLarge ?ki_InvalidDirection_SeatError ?ki_InvalidDirection_ValueError ?ki_InvalidWitness_InvalidTable ?ki_InvalidWitness_InvalidTargets ?ki_InvalidWitness_InvalidSeat ?ki_InvalidWitness_InvalidCall ?ki_InvalidWitness_InvalidDirection ?ki_InvalidWitness_InvalidNumber ?ki_InvalidWitness_InvalidMoves ?ki_InvalidWitness_InvalidStrategy ?ki_InvalidWitness_Mismatch ?ki_InvalidWitness_TooLarge ?ki_InvalidWitness_SeatError ?ki_InvalidWitness_ValueError ?ki_InvalidNumber_InvalidTable ?ki_InvalidNumber_InvalidTargets ?ki_InvalidNumber_InvalidSeat ?ki_InvalidNumber_InvalidCall ?ki_InvalidNumber_InvalidDirection ?ki_InvalidNumber_InvalidWitness ?ki_InvalidNumber_InvalidMoves ?ki_InvalidNumber_InvalidStrategy ?ki_InvalidNumber_Mismatch ?ki_InvalidNumber_TooLarge ?ki_InvalidNumber_SeatError ?ki_InvalidNumber_ValueError ?ki_InvalidMoves_InvalidTable ?ki_InvalidMoves_InvalidTargets ?ki_InvalidMoves_InvalidSeat ?ki_InvalidMoves_InvalidCall ?ki_InvalidMoves_InvalidDirection ?ki_InvalidMoves_InvalidWitness ?ki_InvalidMoves_InvalidNumber ?ki_InvalidMoves_InvalidStrategy ?ki_InvalidMoves_Mismatch ?ki_InvalidMoves_TooLarge ?ki_InvalidMoves_SeatError ?ki_InvalidMoves_ValueError ?ki_InvalidStrategy_InvalidTable ?ki_InvalidStrategy_InvalidTargets ?ki_InvalidStrategy_InvalidSeat ?ki_InvalidStrategy_InvalidCall ?ki_InvalidStrategy_InvalidDirection ?ki_InvalidStrategy_InvalidWitness ?ki_InvalidStrategy_InvalidNumber ?ki_InvalidStrategy_InvalidMoves ?ki_InvalidStrategy_Mismatch ?ki_InvalidStrategy_TooLarge ?ki_InvalidStrategy_SeatError ?ki_InvalidStrategy_ValueError ?ki_Mismatch_InvalidTable ?ki_Mismatch_InvalidTargets ?ki_Mismatch_InvalidSeat ?ki_Mismatch_InvalidCall ?ki_Mismatch_InvalidDirection ?ki_Mismatch_InvalidWitness ?ki_Mismatch_InvalidNumber ?ki_Mismatch_InvalidMoves ?ki_Mismatch_InvalidStrategy ?ki_Mismatch_TooLarge ?ki_Mismatch_SeatError ?ki_Mismatch_ValueError ?ki_TooLarge_InvalidTable ?ki_TooLarge_InvalidTargets ?ki_TooLarge_InvalidSeat ?ki_TooLarge_InvalidCall ?ki_TooLarge_InvalidDirection ?ki_TooLarge_InvalidWitness ?ki_TooLarge_InvalidNumber ?ki_TooLarge_InvalidMoves ?ki_TooLarge_InvalidStrategy ?ki_TooLarge_Mismatch ?ki_TooLarge_SeatError ?ki_TooLarge_ValueError ?sysd ?z_ValueError ?z_all ?z_enumerate ?z_isinstance ?z_range ?z_repr
      (case aC_SeatError => k_is)
      (case ex_SeatError => k_is)
      (case ty_SeatError => k_is)
      (case il_SeatError => k_is)
      (case aC_InvalidTable => k_is)
      (case aC_InvalidTargets => k_is)
      (case aC_InvalidSeat => k_is)
      (case aC_InvalidCall => k_is)
      (case aC_InvalidDirection => k_is)
      (case aC_InvalidWitness => k_is)
      (case aC_InvalidNumber => k_is)
      (case aC_InvalidMoves => k_is)
      (case aC_InvalidStrategy => k_is)
      (case aC_Mismatch => k_is)
      (case aC_TooLarge => k_is)
      (case a0 => k_is)
      (case i0 => k_is)
      (case l0 => k_is)
      (case c0 => k_is)
      (case k0 => k_is)
      (case a1 => k_is)
      (case i1 => k_is)
      (case l1 => k_is)
      (case c1 => k_is)
      (case k1 => k_is)
      (case a2 => k_is)
      (case i2 => k_is)
      (case l2 => k_is)
      (case c2 => k_is)
      (case k2 => k_is)
      (case a3 => k_is)
      (case i3 => k_is)
      (case l3 => k_is)
      (case c3 => k_is)
      (case k3 => k_is)
      (case a4 => k_is)
      (case i4 => k_is)
      (case l4 => k_is)
      (case c4 => k_is)
      (case k4 => k_is)
      (case a5 => k_is)
      (case i5 => k_is)
      (case l5 => k_is)
      (case c5 => k_is)
      (case k5 => k_is)
      (case a6 => k_is)
      (case i6 => k_is)
      (case l6 => k_is)
      (case c6 => k_is)
      (case k6 => k_is)
      (case a7 => k_is)
      (case i7 => k_is)
      (case l7 => k_is)
      (case c7 => k_is)
      (case k7 => k_is)
      (case a8 => k_is)
      (case i8 => k_is)
      (case l8 => k_is)
      (case c8 => k_is)
      (case k8 => k_is)
      (case a9 => k_is)
      (case i9 => k_is)
      (case l9 => k_is)
      (case c9 => k_is)
      (case k9 => k_is)
      (case a10 => k_is)
      (case i10 => k_is)
      (case l10 => k_is)
      (case c10 => k_is)
      (case k10 => k_is)
      (case a11 => k_is)
      (case l11 => k_is)
      (case c11 => k_is)
      (case k11 => k_is)
      (case a12 => k_is)
      (case l12 => k_is)
      (case c12 => k_is)
      (case k12 => k_is)
      (case a13 => k_is)
      (case l13 => k_is)
      (case c13 => k_is)
      (case k13 => k_is)
      (case a14 => k_is)
      (case l14 => k_is)
      (case c14 => k_is)
      (case k14 => k_is)
      (case a15 => k_is)
      (case l15 => k_is)
      (case c15 => k_is)
      (case k15 => k_is)
      (case a16 => k_is)
      (case l16 => k_is)
      (case c16 => k_is)
      (case k16 => k_is)
      (case a17 => k_is)
      (case l17 => k_is)
      (case c17 => k_is)
      (case k17 => k_is)
      (case a18 => k_is)
      (case l18 => k_is)
      (case c18 => k_is)
      (case k18 => k_is)
      (case xl_InvalidTable => k_is)
      (case sa_InvalidTable => k_is)
      (case ga_InvalidTable => k_is)
      (case gg_InvalidTable => k_is)
      (case ti_InvalidTable => k_is)
      (case kc_InvalidTable => k_is)
      (case ex_InvalidTable => k_is)
      (case ty_InvalidTable => k_is)
      (case hd_InvalidTable => k_is)
      (case il_InvalidTable => k_is)
      (case ss_InvalidTable => k_is)
      (case ss_InvalidTable_SeatError => k_is)
      (case n_InvalidTable_rings => k_is)
      (case xl_InvalidTargets => k_is)
      (case sa_InvalidTargets => k_is)
      (case ga_InvalidTargets => k_is)
      (case gg_InvalidTargets => k_is)
      (case ti_InvalidTargets => k_is)
      (case kc_InvalidTargets => k_is)
      (case ex_InvalidTargets => k_is)
      (case ty_InvalidTargets => k_is)
      (case hd_InvalidTargets => k_is)
      (case il_InvalidTargets => k_is)
      (case ss_InvalidTargets => k_is)
      (case ss_InvalidTargets_SeatError => k_is)
      (case n_InvalidTargets_index => k_is)
      (case xl_InvalidSeat => k_is)
      (case sa_InvalidSeat => k_is)
      (case ga_InvalidSeat => k_is)
      (case gg_InvalidSeat => k_is)
      (case ti_InvalidSeat => k_is)
      (case kc_InvalidSeat => k_is)
      (case ex_InvalidSeat => k_is)
      (case ty_InvalidSeat => k_is)
      (case hd_InvalidSeat => k_is)
      (case il_InvalidSeat => k_is)
      (case ss_InvalidSeat => k_is)
      (case ss_InvalidSeat_SeatError => k_is)
      (case n_InvalidSeat_seat => k_is)
      (case xl_InvalidCall => k_is)
      (case sa_InvalidCall => k_is)
      (case ga_InvalidCall => k_is)
      (case gg_InvalidCall => k_is)
      (case ti_InvalidCall => k_is)
      (case kc_InvalidCall => k_is)
      (case ex_InvalidCall => k_is)
      (case ty_InvalidCall => k_is)
      (case hd_InvalidCall => k_is)
      (case il_InvalidCall => k_is)
      (case ss_InvalidCall => k_is)
      (case ss_InvalidCall_SeatError => k_is)
      (case n_InvalidCall_call => k_is)
      (case xl_InvalidDirection => k_is)
      (case sa_InvalidDirection => k_is)
      (case ga_InvalidDirection => k_is)
      (case gg_InvalidDirection => k_is)
      (case ti_InvalidDirection => k_is)
      (case kc_InvalidDirection => k_is)
      (case ex_InvalidDirection => k_is)
      (case ty_InvalidDirection => k_is)
      (case hd_InvalidDirection => k_is)
      (case il_InvalidDirection => k_is)
      (case ss_InvalidDirection => k_is)
      (case ss_InvalidDirection_SeatError => k_is)
      (case n_InvalidDirection_direction => k_is)
      (case xl_InvalidWitness => k_is)
      (case sa_InvalidWitness => k_is)
      (case ga_InvalidWitness => k_is)
      (case gg_InvalidWitness => k_is)
      (case ti_InvalidWitness => k_is)
      (case kc_InvalidWitness => k_is)
      (case ex_InvalidWitness => k_is)
      (case ty_InvalidWitness => k_is)
      (case hd_InvalidWitness => k_is)
      (case il_InvalidWitness => k_is)
      (case ss_InvalidWitness => k_is)
      (case ss_InvalidWitness_SeatError => k_is)
      (case n_InvalidWitness_index => k_is)
      (case xl_InvalidNumber => k_is)
      (case sa_InvalidNumber => k_is)
      (case ga_InvalidNumber => k_is)
      (case gg_InvalidNumber => k_is)
      (case ti_InvalidNumber => k_is)
      (case kc_InvalidNumber => k_is)
      (case ex_InvalidNumber => k_is)
      (case ty_InvalidNumber => k_is)
      (case hd_InvalidNumber => k_is)
      (case il_InvalidNumber => k_is)
      (case ss_InvalidNumber => k_is)
      (case ss_InvalidNumber_SeatError => k_is)
      (case n_InvalidNumber_name => k_is)
      (case xl_InvalidMoves => k_is)
      (case sa_InvalidMoves => k_is)
      (case ga_InvalidMoves => k_is)
      (case gg_InvalidMoves => k_is)
      (case ti_InvalidMoves => k_is)
      (case kc_InvalidMoves => k_is)
      (case ex_InvalidMoves => k_is)
      (case ty_InvalidMoves => k_is)
      (case hd_InvalidMoves => k_is)
      (case il_InvalidMoves => k_is)
      (case ss_InvalidMoves => k_is)
      (case ss_InvalidMoves_SeatError => k_is)
      (case n_InvalidMoves_index => k_is)
      (case xl_InvalidStrategy => k_is)
      (case sa_InvalidStrategy => k_is)
      (case ga_InvalidStrategy => k_is)
      (case gg_InvalidStrategy => k_is)
      (case ti_InvalidStrategy => k_is)
      (case kc_InvalidStrategy => k_is)
      (case ex_InvalidStrategy => k_is)
      (case ty_InvalidStrategy => k_is)
      (case hd_InvalidStrategy => k_is)
      (case il_InvalidStrategy => k_is)
      (case ss_InvalidStrategy => k_is)
      (case ss_InvalidStrategy_SeatError => k_is)
      (case n_InvalidStrategy_strategy => k_is)
      (case xl_Mismatch => k_is)
      (case sa_Mismatch => k_is)
      (case ga_Mismatch => k_is)
      (case gg_Mismatch => k_is)
      (case ti_Mismatch => k_is)
      (case kc_Mismatch => k_is)
      (case ex_Mismatch => k_is)
      (case ty_Mismatch => k_is)
      (case hd_Mismatch => k_is)
      (case il_Mismatch => k_is)
      (case ss_Mismatch => k_is)
      (case ss_Mismatch_SeatError => k_is)
      (case n_Mismatch_name => k_is)
      (case xl_TooLarge => k_is)
      (case sa_TooLarge => k_is)
      (case ga_TooLarge => k_is)
      (case gg_TooLarge => k_is)
      (case ti_TooLarge => k_is)
      (case kc_TooLarge => k_is)
      (case ex_TooLarge => k_is)
      (case ty_TooLarge => k_is)
      (case hd_TooLarge => k_is)
      (case il_TooLarge => k_is)
      (case ss_TooLarge => k_is)
      (case ss_TooLarge_SeatError => k_is)
      (case n_TooLarge_limit => k_is)
      (case ig_ => k_is)
      (case it_ => k_is)
      (case ic_InvalidTable => k_is)
      (case im_InvalidTable => k_is)
      (case ic_InvalidTargets => k_is)
      (case im_InvalidTargets => k_is)
      (case ic_InvalidSeat => k_is)
      (case im_InvalidSeat => k_is)
      (case ic_InvalidCall => k_is)
      (case im_InvalidCall => k_is)
      (case ic_InvalidDirection => k_is)
      (case im_InvalidDirection => k_is)
      (case ic_InvalidWitness => k_is)
      (case im_InvalidWitness => k_is)
      (case ic_InvalidNumber => k_is)
      (case im_InvalidNumber => k_is)
      (case ic_InvalidMoves => k_is)
      (case im_InvalidMoves => k_is)
      (case ic_InvalidStrategy => k_is)
      (case im_InvalidStrategy => k_is)
      (case ic_Mismatch => k_is)
      (case im_Mismatch => k_is)
      (case ic_TooLarge => k_is)
      (case im_TooLarge => k_is)
      (case ki_InvalidTable_InvalidTargets => kit_is)
      (case ki_InvalidTable_InvalidSeat => kit_is)
      (case ki_InvalidTable_InvalidCall => kit_is)
      (case ki_InvalidTable_InvalidDirection => kit_is)
      (case ki_InvalidTable_InvalidWitness => kit_is)
      (case ki_InvalidTable_InvalidNumber => kit_is)
      (case ki_InvalidTable_InvalidMoves => kit_is)
      (case ki_InvalidTable_InvalidStrategy => kit_is)
      (case ki_InvalidTable_Mismatch => kit_is)
      (case ki_InvalidTable_TooLarge => kit_is)
      (case ki_InvalidTable_SeatError => kit_is)
      (case ki_InvalidTable_ValueError => kit_is)
      (case ki_InvalidTargets_InvalidTable => kit_is)
      (case ki_InvalidTargets_InvalidSeat => kit_is)
      (case ki_InvalidTargets_InvalidCall => kit_is)
      (case ki_InvalidTargets_InvalidDirection => kit_is)
      (case ki_InvalidTargets_InvalidWitness => kit_is)
      (case ki_InvalidTargets_InvalidNumber => kit_is)
      (case ki_InvalidTargets_InvalidMoves => kit_is)
      (case ki_InvalidTargets_InvalidStrategy => kit_is)
      (case ki_InvalidTargets_Mismatch => kit_is)
      (case ki_InvalidTargets_TooLarge => kit_is)
      (case ki_InvalidTargets_SeatError => kit_is)
      (case ki_InvalidTargets_ValueError => kit_is)
      (case ki_InvalidSeat_InvalidTable => kit_is)
      (case ki_InvalidSeat_InvalidTargets => kit_is)
      (case ki_InvalidSeat_InvalidCall => kit_is)
      (case ki_InvalidSeat_InvalidDirection => kit_is)
      (case ki_InvalidSeat_InvalidWitness => kit_is)
      (case ki_InvalidSeat_InvalidNumber => kit_is)
      (case ki_InvalidSeat_InvalidMoves => kit_is)
      (case ki_InvalidSeat_InvalidStrategy => kit_is)
      (case ki_InvalidSeat_Mismatch => kit_is)
      (case ki_InvalidSeat_TooLarge => kit_is)
      (case ki_InvalidSeat_SeatError => kit_is)
      (case ki_InvalidSeat_ValueError => kit_is)
      (case ki_InvalidCall_InvalidTable => kit_is)
      (case ki_InvalidCall_InvalidTargets => kit_is)
      (case ki_InvalidCall_InvalidSeat => kit_is)
      (case ki_InvalidCall_InvalidDirection => kit_is)
      (case ki_InvalidCall_InvalidWitness => kit_is)
      (case ki_InvalidCall_InvalidNumber => kit_is)
      (case ki_InvalidCall_InvalidMoves => kit_is)
      (case ki_InvalidCall_InvalidStrategy => kit_is)
      (case ki_InvalidCall_Mismatch => kit_is)
      (case ki_InvalidCall_TooLarge => kit_is)
      (case ki_InvalidCall_SeatError => kit_is)
      (case ki_InvalidCall_ValueError => kit_is)
      (case ki_InvalidDirection_InvalidTable => kit_is)
      (case ki_InvalidDirection_InvalidTargets => kit_is)
      (case ki_InvalidDirection_InvalidSeat => kit_is)
      (case ki_InvalidDirection_InvalidCall => kit_is)
      (case ki_InvalidDirection_InvalidWitness => kit_is)
      (case ki_InvalidDirection_InvalidNumber => kit_is)
      (case ki_InvalidDirection_InvalidMoves => kit_is)
      (case ki_InvalidDirection_InvalidStrategy => kit_is)
      (case ki_InvalidDirection_Mismatch => kit_is)
      (case ki_InvalidDirection_TooLarge => kit_is)
      (case ki_InvalidDirection_SeatError => kit_is)
      (case ki_InvalidDirection_ValueError => kit_is)
      (case ki_InvalidWitness_InvalidTable => kit_is)
      (case ki_InvalidWitness_InvalidTargets => kit_is)
      (case ki_InvalidWitness_InvalidSeat => kit_is)
      (case ki_InvalidWitness_InvalidCall => kit_is)
      (case ki_InvalidWitness_InvalidDirection => kit_is)
      (case ki_InvalidWitness_InvalidNumber => kit_is)
      (case ki_InvalidWitness_InvalidMoves => kit_is)
      (case ki_InvalidWitness_InvalidStrategy => kit_is)
      (case ki_InvalidWitness_Mismatch => kit_is)
      (case ki_InvalidWitness_TooLarge => kit_is)
      (case ki_InvalidWitness_SeatError => kit_is)
      (case ki_InvalidWitness_ValueError => kit_is)
      (case ki_InvalidNumber_InvalidTable => kit_is)
      (case ki_InvalidNumber_InvalidTargets => kit_is)
      (case ki_InvalidNumber_InvalidSeat => kit_is)
      (case ki_InvalidNumber_InvalidCall => kit_is)
      (case ki_InvalidNumber_InvalidDirection => kit_is)
      (case ki_InvalidNumber_InvalidWitness => kit_is)
      (case ki_InvalidNumber_InvalidMoves => kit_is)
      (case ki_InvalidNumber_InvalidStrategy => kit_is)
      (case ki_InvalidNumber_Mismatch => kit_is)
      (case ki_InvalidNumber_TooLarge => kit_is)
      (case ki_InvalidNumber_SeatError => kit_is)
      (case ki_InvalidNumber_ValueError => kit_is)
      (case ki_InvalidMoves_InvalidTable => kit_is)
      (case ki_InvalidMoves_InvalidTargets => kit_is)
      (case ki_InvalidMoves_InvalidSeat => kit_is)
      (case ki_InvalidMoves_InvalidCall => kit_is)
      (case ki_InvalidMoves_InvalidDirection => kit_is)
      (case ki_InvalidMoves_InvalidWitness => kit_is)
      (case ki_InvalidMoves_InvalidNumber => kit_is)
      (case ki_InvalidMoves_InvalidStrategy => kit_is)
      (case ki_InvalidMoves_Mismatch => kit_is)
      (case ki_InvalidMoves_TooLarge => kit_is)
      (case ki_InvalidMoves_SeatError => kit_is)
      (case ki_InvalidMoves_ValueError => kit_is)
      (case ki_InvalidStrategy_InvalidTable => kit_is)
      (case ki_InvalidStrategy_InvalidTargets => kit_is)
      (case ki_InvalidStrategy_InvalidSeat => kit_is)
      (case ki_InvalidStrategy_InvalidCall => kit_is)
      (case ki_InvalidStrategy_InvalidDirection => kit_is)
      (case ki_InvalidStrategy_InvalidWitness => kit_is)
      (case ki_InvalidStrategy_InvalidNumber => kit_is)
      (case ki_InvalidStrategy_InvalidMoves => kit_is)
      (case ki_InvalidStrategy_Mismatch => kit_is)
      (case ki_InvalidStrategy_TooLarge => kit_is)
      (case ki_InvalidStrategy_SeatError => kit_is)
      (case ki_InvalidStrategy_ValueError => kit_is)
      (case ki_Mismatch_InvalidTable => kit_is)
      (case ki_Mismatch_InvalidTargets => kit_is)
      (case ki_Mismatch_InvalidSeat => kit_is)
      (case ki_Mismatch_InvalidCall => kit_is)
      (case ki_Mismatch_InvalidDirection => kit_is)
      (case ki_Mismatch_InvalidWitness => kit_is)
      (case ki_Mismatch_InvalidNumber => kit_is)
      (case ki_Mismatch_InvalidMoves => kit_is)
      (case ki_Mismatch_InvalidStrategy => kit_is)
      (case ki_Mismatch_TooLarge => kit_is)
      (case ki_Mismatch_SeatError => kit_is)
      (case ki_Mismatch_ValueError => kit_is)
      (case ki_TooLarge_InvalidTable => kit_is)
      (case ki_TooLarge_InvalidTargets => kit_is)
      (case ki_TooLarge_InvalidSeat => kit_is)
      (case ki_TooLarge_InvalidCall => kit_is)
      (case ki_TooLarge_InvalidDirection => kit_is)
      (case ki_TooLarge_InvalidWitness => kit_is)
      (case ki_TooLarge_InvalidNumber => kit_is)
      (case ki_TooLarge_InvalidMoves => kit_is)
      (case ki_TooLarge_InvalidStrategy => kit_is)
      (case ki_TooLarge_Mismatch => kit_is)
      (case ki_TooLarge_SeatError => kit_is)
      (case ki_TooLarge_ValueError => kit_is)
      (case sysd => k_is)
      (case z_ValueError => k_is)
      (case z_all => k_is)
      (case z_enumerate => k_is)
      (case z_isinstance => k_is)
      (case z_range => k_is)
      (case z_repr => k_is)
    have e := hmg.symm.trans e1
    cases e
    exact ⟨_, T.fd_law, CS.sp_law _, KX, e2, fun H a ns hl _ hS => ⟨a, ns, rfl, hS, hl, fun _ => rfl⟩, fun base _ _ => CS.ok_law T⟩
