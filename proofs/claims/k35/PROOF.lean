import PyProof.Rows.All
import Wide.All
import OpenK.AllK
import Wide.FinOn
import HandS.ForMost
import HandS.Zip
import HandS.TupAny
import HandS.TupMul
import HandS.Deep
import HandS.Style
import HandS.SetFor
import HandS.Strs
import HandS.Walk
import HandS.IsInst
import HandS.Conv
import HandS.Wide
import HandS.WideBits
import HandS.Evl
import HandS.MakeKwOnly
import KE.GoesMore
import KE.GoesEnumKw
import KE.KBits
import KE.SortData
import HandS.TupSets
import HandS.DictComp
import HandS.DictTup
import HandS.TupLen
import KE.KDictCopyH
import KE.KDictWalk
import KE.KDictKeyed
import PyProof.WalkInts
import PyProof.SeqI3
import HandS.TryOnly
import HandS.ExcInit
import HandS.ExcField
import HandS.ExcOwn
import HandS.WordsExc
import PySem.Challenge.RW_calledseats_k35_games_by_lists
set_option Elab.async false
set_option linter.all false
set_option maxRecDepth 100000
set_option maxHeartbeats 4000000


namespace CZ
open PySem PySem.Spec PyProof.Rows L2
open PySem.Sem (wp)
/-- one draw of a zip: strict or not -/
def zdraw (b : Bool) (it : Value) : Sem (Option Value) := if b = true then Builtin.SmallTypes.nextOrEnd it else (Builtin.SmallTypes.nextOf it >>= fun x => pure (some x))
/-- a zip object: f0 what it has handed out, b its strictness -/
abbrev ZipO (h : Heap) (z TI TO : Addr) (f0 : Value) (b : Bool) : Prop := h.get? z = some { cls := .type "zip", data := .fields #[f0, .bool false, .bool b, .ref TI, .ref TO] }
abbrev TupO (h : Heap) (T : Addr) (vs : Array Value) : Prop := h.get? T = some { cls := .type "tuple", data := .seq vs }
theorem val_b (b : Bool) : (Value.bool b == Value.bool true) = b := by cases b <;> rfl
section
variable {prog : Program} {w : World} {A : Around} {E : Value → Shared → Prop} {s : Shared} {b : Bool}
theorem zdraw_item {it : Addr} {fp : List Addr} {n i : Nat} {P : Nat → Value → Prop} {St : Nat → Heap → Prop} {Q : Option Value → Shared → Prop} (D : Draws prog w A it fp n P St) (hi : i < n) (st : St i s.heap)
    (hQ : ∀ x h' tk, P i x → St (i + 1) h' → Heap.SameBut it s.heap h' → Q (some x) { s with heap := h', toks := tk }) : wpAny (model prog w) A (zdraw b (.ref it)) Q E s := by
  cases b with
  | false => exact wpAny_bind (m := Builtin.SmallTypes.nextOf (.ref it)) (D.item i s _ _ hi st fun x h' tk p st' sb => wpAny_pure (hQ x h' tk p st' sb))
  | true =>
    show wpAny _ _ (Builtin.SmallTypes.nextOrEnd (.ref it)) _ _ _
    unfold Builtin.SmallTypes.nextOrEnd
    exact wpAny_bind (wpAny_attempt (D.item i s _ _ hi st fun x h' tk p st' sb => wpAny_pure (hQ x h' tk p st' sb)))
theorem zend_strict {it : Addr} {fp : List Addr} {n : Nat} {P : Nat → Value → Prop} {St : Nat → Heap → Prop} {Q : Option Value → Shared → Prop} (D : Draws prog w A it fp n P St) (st : St n s.heap)
    (hQ : ∀ h', Heap.ExtBut it s.heap h' → Q none { s with heap := h' }) : wpAny (model prog w) A (Builtin.SmallTypes.nextOrEnd (.ref it)) Q E s := by
  unfold Builtin.SmallTypes.nextOrEnd
  refine wpAny_bind (wpAny_attempt (D.done s _ _ st fun h' e eb he => ?_))
  obtain ⟨o, ho, hc⟩ := he
  exact wpAny_bind (wpAny_isInstance (T := "StopIteration") (b := true) ⟨o, ho, hc⟩ isSubtype_stop (wpAny_pure (hQ h' eb)))
theorem upd_tup {T : Addr} {vs : Array Value} {x : Value} {k : Nat} {Q : Unit → Shared → Prop} (hT : TupO s.heap T vs) (hz : vs.size ≤ 8)
    (h : ∀ h', TupO h' T (vs.setIfInBounds k x) → Heap.SameBut T s.heap h' → Q () { s with heap := h' }) : wpAny (model prog w) A (updateSeq T (·.setIfInBounds k x)) Q E s := by
  have z8 : (8 : Nat) ≤ sizeLine := by decide
  refine wpAny_updateSeq hT rfl (h _ ?_ (Heap.SameBut.update ..)) (Nat.le_trans hz z8) (by rw [Array.size_setIfInBounds]; exact Nat.le_succ_of_le (Nat.le_trans hz z8))
  unfold TupO
  rw [Heap.get?_update_self _ hT rfl]
  simp [Obj.mapSeq]
theorem iter_zip {z TI TO : Addr} {f0 : Value} {Q : Value → Shared → Prop} (hz : ZipO s.heap z TI TO f0 b) (h : Q (.ref z) s) : wpAny (model prog w) A (pyIter (.ref z)) Q E s := by
  have hT : s.TypeIs (.ref z) "zip" := ⟨_, hz, rfl⟩
  exact wpAny_pyIter_slot hT F.slot_zip_iter (wpAny_call_entry F.slot_zip_iter hT F.entry_zip_iter (wpAny_pure ⟨_, rfl, "zip", _, hT, F.slot_zip_next.lookup, h⟩) (F.args_zip_iter_1 _))
/-- the tuple that was handed out is let go -/
theorem go_zip {elts : List Expr} {x1} {pos : Pos} {z TI TO T : Addr} {Q : Unit → Shared → Prop} (hz : ZipO s.heap z TI TO (rawInt T) b)
    (hQ : ∀ h', ZipO h' z TI TO .none b → Heap.SameBut z s.heap h' → Q () { s with heap := h' }) : wpAny (model prog w) A (letOwnedTupleGo (.Tuple elts x1 pos) (.ref z) (.ref T)) Q E s := by
  unfold letOwnedTupleGo
  refine wpAny_bind (wpAny_load hz ?_)
  show wpAny _ _ (ite _ _ _) Q E s
  rw [if_pos (by simp)]
  exact wpAny_bind (wpAny_rule (wpAny_setField_rec hz (by simp) fun h' hz' hs' => hQ h' hz' hs'))
/-- the StopIteration that a zip ends by -/
theorem stop_it {Q : Fin → Shared → Prop} (hh : A.handled = none) (hE : ∀ h' e, (∀ c o, s.heap.get? c = some o → h'.get? c = some o) → (∃ o, h'.get? e = some o ∧ o.cls = .type "StopIteration") → E (.ref e) { s with heap := h' }) :
    wpAny (model prog w) A (PySem.Builtin.SmallTypes.stopIteration : Sem Fin) Q E s := by
  unfold PySem.Builtin.SmallTypes.stopIteration
  show wpAny _ _ (newExc (.type "StopIteration") [] >>= _) _ _ _
  refine wpAny_bind ?_
  simp only [newExc, newTuple]
  refine wpAny_bind (wpAny_newObj_type ?_ (by size_fits))
  refine wpAny_bind (m := firstArgMember _ _) (wpAny_of_eq (a := Value.none) (by first | rfl | (simp only [firstArgMember]; rfl)) ?_)
  refine wpAny_newObj_type ?_ (by size_fits)
  simp only [raiseNew]
  refine wpAny_bind (wpAny_handled ?_)
  rw [hh]
  exact wpAny_bind (wpAny_pure (wpAny_throw (hE _ _ (fun c o e => Heap.get?_push_of_some _ (Heap.get?_push_of_some _ e)) ⟨_, Heap.get?_push_size _ rfl, rfl⟩)))
end
end CZ

namespace CZ
open PySem PySem.Spec PyProof.Rows L2
open PySem.Sem (wp)
/-- the cells of a zip over 2 iterators lie apart -/
structure Sep2 (z TI TO i1 i2 : Addr) (fp1 fp2 : List Addr) : Prop where
  zTO : z ≠ TO
  zTI : z ≠ TI
  TOTI : TO ≠ TI
  m1 : i1 ∈ fp1
  z1 : z ∉ fp1
  T1 : TO ∉ fp1
  I1 : TI ≠ i1
  s2_1 : i2 ∉ fp1
  m2 : i2 ∈ fp2
  z2 : z ∉ fp2
  T2 : TO ∉ fp2
  I2 : TI ≠ i2
  s1_2 : i1 ∉ fp2
section
variable {prog : Program} {w : World} {A : Around} {E : Value → Shared → Prop} {s : Shared} {b : Bool}
theorem next_item2 {z TI TO i1 i2 : Addr} {fp1 fp2 : List Addr} {n1 n2 i : Nat} {P1 P2 : Nat → Value → Prop} {St1 St2 : Nat → Heap → Prop} {a1 a2 : Value} {Q : Value → Shared → Prop} (S : Sep2 z TI TO i1 i2 fp1 fp2) (D1 : Draws prog w A i1 fp1 n1 P1 St1) (D2 : Draws prog w A i2 fp2 n2 P2 St2)
    (hz : ZipO s.heap z TI TO .none b) (hTI : TupO s.heap TI #[.ref i1, .ref i2]) (hTO : TupO s.heap TO #[a1, a2]) (st1 : St1 i s.heap) (st2 : St2 i s.heap) (hi1 : i < n1) (hi2 : i < n2)
    (hQ : ∀ x1 x2 h' tk, P1 i x1 → P2 i x2 → ZipO h' z TI TO (rawInt s.heap.objs.size) b → TupO h' TO #[x1, x2] → St1 (i + 1) h' → St2 (i + 1) h' → TupO h' s.heap.objs.size #[x1, x2] →
      (∀ c o, c ≠ z → c ≠ TO → c ≠ i1 → c ≠ i2 → s.heap.get? c = some o → h'.get? c = some o) → Q (.ref s.heap.objs.size) { s with heap := h', toks := tk }) :
    wpAny (model prog w) A (Builtin.«zip.__next__» ⟨[.ref z], []⟩) (fun fin s' => ∃ v, fin = .done (.ret v) ∧ Q v s') E s := by
  obtain ⟨hp, g, d, tk0, os⟩ := s
  refine wpAny_bind (m := field (.ref z) 2) (wpAny_field hz rfl (x := .bool b) rfl ?_)
  refine wpAny_bind (m := field (.ref z) 3) (wpAny_field hz rfl (x := .ref TI) rfl ?_)
  refine wpAny_bind (wpAny_seqItems hTI rfl ?_)
  show wpAny _ _ (Builtin.SmallTypes.ownedTupleIsFree (.ref z) >>= _) _ _ _
  rw [val_b]
  refine wpAny_bind ?_
  unfold Builtin.SmallTypes.ownedTupleIsFree
  refine wpAny_bind (wpAny_field hz rfl (x := .none) rfl (wpAny_pure ?_))
  simp only [if_true]
  refine wpAny_bind (wpAny_rule (wpAny_bind (wpAny_field hz rfl (x := .ref TO) rfl ?_)))
  refine wpAny_bind (wpAny_setField_rec hz (by simp) fun g0 hz0 hs0 => wpAny_bind ?_)
  replace hs0 : Heap.SameBut z hp g0 := hs0
  replace hz0 : ZipO g0 z TI TO .ellipsis b := hz0
  have hT0 : TupO g0 TO #[a1, a2] := hs0.extBut _ _ S.zTO.symm hTO
  have t1_0 : St1 i g0 := D1.frame _ _ _ st1 fun c hc o e => hs0.extBut c o (fun q => S.z1 (q ▸ hc)) e
  have t2_0 : St2 i g0 := D2.frame _ _ _ st2 fun c hc o e => hs0.extBut c o (fun q => S.z2 (q ▸ hc)) e
  have k0 : ∀ c o, c ≠ z → c ≠ TO → c ≠ i1 → c ≠ i2 → hp.get? c = some o → g0.get? c = some o := fun c o q0 _ _ _ e => hs0.extBut c o q0 e
  simp only [List.zipIdx_cons, List.zipIdx_nil, List.forIn_cons, List.forIn_nil]
  refine wpAny_bind (wpAny_bind (wpAny_onRaise (m := zdraw b (.ref i1)) (zdraw_item (s := ⟨g0, g, d, tk0, os⟩) D1 hi1 t1_0 fun x1 d1 tk1 p1 n1 hd1 => ?_)))
  replace hd1 : Heap.SameBut i1 g0 d1 := hd1
  have hU1 : TupO d1 TO #[a1, a2] := hd1.extBut _ _ (fun q => S.T1 (q ▸ S.m1)) hT0
  refine wpAny_bind (wpAny_seqItems (s := ⟨d1, g, d, tk1, os⟩) hU1 rfl ?_)
  refine wpAny_bind (upd_tup (s := ⟨d1, g, d, tk1, os⟩) hU1 (by simp) fun g1 hT1 hs1 => ?_)
  replace hs1 : Heap.SameBut TO d1 g1 := hs1
  replace hT1 : TupO g1 TO #[x1, a2] := hT1
  have hz1 : ZipO g1 z TI TO .ellipsis b := hs1.extBut _ _ S.zTO (hd1.extBut _ _ (fun q => S.z1 (q ▸ S.m1)) hz0)
  have t1_1 : St1 (i + 1) g1 := D1.frame _ _ _ n1 fun c hc o e => hs1.extBut c o (fun q => S.T1 (q ▸ hc)) e
  have t2_1 : St2 i g1 := D2.frame _ _ _ t2_0 fun c hc o e => hs1.extBut c o (fun q => S.T2 (q ▸ hc)) (hd1.extBut c o (fun q => S.s1_2 (q ▸ hc)) e)
  have k1 : ∀ c o, c ≠ z → c ≠ TO → c ≠ i1 → c ≠ i2 → hp.get? c = some o → g1.get? c = some o := fun c o qz qT q1 q2 e => hs1.extBut c o qT (hd1.extBut c o q1 (k0 c o qz qT q1 q2 e))
  have e1 : g1.objs.size = g0.objs.size := by rw [hs1.1, hd1.1]
  refine wpAny_bind (wpAny_letGo (wpAny_pure ?_))
  refine wpAny_bind (wpAny_bind (wpAny_onRaise (m := zdraw b (.ref i2)) (zdraw_item (s := ⟨g1, g, d, tk1, os⟩) D2 hi2 t2_1 fun x2 d2 tk2 p2 n2 hd2 => ?_)))
  replace hd2 : Heap.SameBut i2 g1 d2 := hd2
  have hU2 : TupO d2 TO #[x1, a2] := hd2.extBut _ _ (fun q => S.T2 (q ▸ S.m2)) hT1
  refine wpAny_bind (wpAny_seqItems (s := ⟨d2, g, d, tk2, os⟩) hU2 rfl ?_)
  refine wpAny_bind (upd_tup (s := ⟨d2, g, d, tk2, os⟩) hU2 (by simp) fun g2 hT2 hs2 => ?_)
  replace hs2 : Heap.SameBut TO d2 g2 := hs2
  replace hT2 : TupO g2 TO #[x1, x2] := hT2
  have hz2 : ZipO g2 z TI TO .ellipsis b := hs2.extBut _ _ S.zTO (hd2.extBut _ _ (fun q => S.z2 (q ▸ S.m2)) hz1)
  have t1_2 : St1 (i + 1) g2 := D1.frame _ _ _ t1_1 fun c hc o e => hs2.extBut c o (fun q => S.T1 (q ▸ hc)) (hd2.extBut c o (fun q => S.s2_1 (q ▸ hc)) e)
  have t2_2 : St2 (i + 1) g2 := D2.frame _ _ _ n2 fun c hc o e => hs2.extBut c o (fun q => S.T2 (q ▸ hc)) e
  have k2 : ∀ c o, c ≠ z → c ≠ TO → c ≠ i1 → c ≠ i2 → hp.get? c = some o → g2.get? c = some o := fun c o qz qT q1 q2 e => hs2.extBut c o qT (hd2.extBut c o q2 (k1 c o qz qT q1 q2 e))
  have e2 : g2.objs.size = g1.objs.size := by rw [hs2.1, hd2.1]
  refine wpAny_bind (wpAny_letGo (wpAny_pure ?_))
  refine wpAny_pure ?_
  refine wpAny_bind (wpAny_seqItems (s := ⟨g2, g, d, tk2, os⟩) hT2 rfl ?_)
  refine wpAny_bind (wpAny_newTuple ?_)
  have hsz : g2.objs.size = hp.objs.size := by rw [e2, e1, hs0.1]
  have hlt : z < g2.objs.size := Heap.lt_size hz2
  refine wpAny_bind ?_
  unfold Builtin.SmallTypes.ownedTupleHandOut
  have hy : ZipO (g2.push { cls := .type "tuple", data := .seq #[x1, x2] }) z TI TO .ellipsis b := Heap.get?_push_of_some _ hz2
  refine wpAny_bind (wpAny_setField_rec hy (by simp) fun u1 hu1 hv1 => wpAny_setField_rec hu1 (by simp) fun u2 hu2 hv2 => ?_)
  have up : ∀ c o, c ≠ z → g2.get? c = some o → u2.get? c = some o := fun c o q e => hv2.extBut c o q (hv1.extBut c o q (Heap.get?_push_of_some _ e))
  have hN : TupO u2 g2.objs.size #[x1, x2] := hv2.extBut _ _ (Nat.ne_of_gt hlt) (hv1.extBut _ _ (Nat.ne_of_gt hlt) (Heap.get?_push_size _ rfl))
  have hZ : ZipO u2 z TI TO (rawInt g2.objs.size) b := hu2
  rw [hsz] at hN hZ
  refine wpAny_pure ⟨_, rfl, ?_⟩
  show Q (.ref g2.objs.size) ⟨u2, g, d, tk2, os⟩
  rw [hsz]
  exact hQ x1 x2 u2 tk2 p1 p2 hZ (up _ _ S.zTO.symm hT2) (D1.frame _ _ _ t1_2 fun c hc o e => up c o (fun q => S.z1 (q ▸ hc)) e) (D2.frame _ _ _ t2_2 fun c hc o e => up c o (fun q => S.z2 (q ▸ hc)) e) hN fun c o qz qT q1 q2 e => up c o qz (k2 c o qz qT q1 q2 e)
theorem next_end2 {z TI TO i1 i2 : Addr} {fp1 fp2 : List Addr} {n : Nat} {P1 P2 : Nat → Value → Prop} {St1 St2 : Nat → Heap → Prop} {a1 a2 : Value} {Q : Fin → Shared → Prop} (hh : A.handled = none) (S : Sep2 z TI TO i1 i2 fp1 fp2) (D1 : Draws prog w A i1 fp1 n P1 St1) (D2 : Draws prog w A i2 fp2 n P2 St2)
    (hz : ZipO s.heap z TI TO .none b) (hTI : TupO s.heap TI #[.ref i1, .ref i2]) (hTO : TupO s.heap TO #[a1, a2]) (st1 : St1 n s.heap) (st2 : St2 n s.heap)
    (hE : ∀ h' e, (∀ c o, c ≠ z → c ≠ TO → c ≠ i1 → c ≠ i2 → s.heap.get? c = some o → h'.get? c = some o) → (∃ o, h'.get? e = some o ∧ o.cls = .type "StopIteration") → E (.ref e) { s with heap := h' }) :
    wpAny (model prog w) A (Builtin.«zip.__next__» ⟨[.ref z], []⟩) Q E s := by
  obtain ⟨hp, g, d, tk0, os⟩ := s
  refine wpAny_bind (m := field (.ref z) 2) (wpAny_field hz rfl (x := .bool b) rfl ?_)
  refine wpAny_bind (m := field (.ref z) 3) (wpAny_field hz rfl (x := .ref TI) rfl ?_)
  refine wpAny_bind (wpAny_seqItems hTI rfl ?_)
  show wpAny _ _ (Builtin.SmallTypes.ownedTupleIsFree (.ref z) >>= _) _ _ _
  rw [val_b]
  refine wpAny_bind ?_
  unfold Builtin.SmallTypes.ownedTupleIsFree
  refine wpAny_bind (wpAny_field hz rfl (x := .none) rfl (wpAny_pure ?_))
  simp only [if_true]
  refine wpAny_bind (wpAny_rule (wpAny_bind (wpAny_field hz rfl (x := .ref TO) rfl ?_)))
  refine wpAny_bind (wpAny_setField_rec hz (by simp) fun g0 hz0 hs0 => wpAny_bind ?_)
  replace hs0 : Heap.SameBut z hp g0 := hs0
  replace hz0 : ZipO g0 z TI TO .ellipsis b := hz0
  have t1_0 : St1 n g0 := D1.frame _ _ _ st1 fun c hc o e => hs0.extBut c o (fun q => S.z1 (q ▸ hc)) e
  have t2_0 : St2 n g0 := D2.frame _ _ _ st2 fun c hc o e => hs0.extBut c o (fun q => S.z2 (q ▸ hc)) e
  simp only [List.zipIdx_cons, List.zipIdx_nil, List.forIn_cons, List.forIn_nil]
  refine wpAny_bind (wpAny_bind (wpAny_onRaise ?_))
  cases b with
  | false =>
    refine wpAny_bind (m := Builtin.SmallTypes.nextOf (.ref i1)) (D1.done ⟨g0, g, d, tk0, os⟩ _ _ t1_0 fun y e hy he => ?_)
    replace hy : Heap.ExtBut i1 g0 y := hy
    obtain ⟨oe, hoe, hce⟩ := he
    replace hoe : y.get? e = some oe := hoe
    have hzy : ZipO y z TI TO .ellipsis false := hy _ _ (fun q => S.z1 (q ▸ S.m1)) hz0
    have hez : e ≠ z := fun x => by subst x; rw [hzy] at hoe; cases hoe; simp at hce
    refine wpAny_setField_rec (s := ⟨y, g, d, tk0, os⟩) hzy (by simp) fun y2 _ hv => ?_
    replace hv : Heap.SameBut z y y2 := hv
    exact hE y2 e (fun c o qz qT q1 q2 x => hv.extBut c o qz (hy c o q1 (hs0.extBut c o qz x))) ⟨oe, hv.extBut _ _ hez hoe, hce⟩
  | true =>
    refine zend_strict (s := ⟨g0, g, d, tk0, os⟩) D1 t1_0 fun y hy => ?_
    replace hy : Heap.ExtBut i1 g0 y := hy
    have hzy : ZipO y z TI TO .ellipsis true := hy _ _ (fun q => S.z1 (q ▸ S.m1)) hz0
    have t2_1 : St2 n y := D2.frame _ _ _ t2_0 fun c hc o e => hy c o (fun q => S.s1_2 (q ▸ hc)) e
    refine wpAny_bind (wpAny_setField_rec (s := ⟨y, g, d, tk0, os⟩) hzy (by simp) fun y1 _ hv1 => ?_)
    replace hv1 : Heap.SameBut z y y1 := hv1
    have r2_1 : St2 n y1 := D2.frame _ _ _ t2_1 fun c hc o e => hv1.extBut c o (fun q => S.z2 (q ▸ hc)) e
    have k1 : ∀ c o, c ≠ z → c ≠ TO → c ≠ i1 → c ≠ i2 → hp.get? c = some o → y1.get? c = some o := fun c o qz qT q1 q2 e => hv1.extBut c o qz (hy c o q1 (hs0.extBut c o qz e))
    refine wpAny_bind ?_
    refine wpAny_bind ?_
    simp only [List.drop_succ_cons, List.drop_zero, List.zipIdx_cons, List.zipIdx_nil, List.forIn_cons, List.forIn_nil]
    refine wpAny_bind (wpAny_bind (zend_strict (s := ⟨y1, g, d, tk0, os⟩) D2 r2_1 fun y2 hy2 => ?_))
    replace hy2 : Heap.ExtBut i2 y1 y2 := hy2
    have k2 : ∀ c o, c ≠ z → c ≠ TO → c ≠ i1 → c ≠ i2 → hp.get? c = some o → y2.get? c = some o := fun c o qz qT q1 q2 e => hy2 c o q2 (k1 c o qz qT q1 q2 e)
    refine wpAny_pure ?_
    refine wpAny_pure ?_
    exact wpAny_bind (wpAny_rule (stop_it (s := ⟨y2, g, d, tk0, os⟩) hh fun h2 e kk he => hE h2 e (fun c o qz qT q1 q2 x => kk c o (k2 c o qz qT q1 q2 x)) he))
theorem py_item2 {z TI TO i1 i2 : Addr} {fp1 fp2 : List Addr} {n1 n2 i : Nat} {P1 P2 : Nat → Value → Prop} {St1 St2 : Nat → Heap → Prop} {a1 a2 : Value} {Q : Option Value → Shared → Prop} (S : Sep2 z TI TO i1 i2 fp1 fp2) (D1 : Draws prog w A.in1 i1 fp1 n1 P1 St1) (D2 : Draws prog w A.in1 i2 fp2 n2 P2 St2)
    (hz : ZipO s.heap z TI TO .none b) (hTI : TupO s.heap TI #[.ref i1, .ref i2]) (hTO : TupO s.heap TO #[a1, a2]) (st1 : St1 i s.heap) (st2 : St2 i s.heap) (hi1 : i < n1) (hi2 : i < n2)
    (hQ : ∀ x1 x2 h' tk, P1 i x1 → P2 i x2 → ZipO h' z TI TO (rawInt s.heap.objs.size) b → TupO h' TO #[x1, x2] → St1 (i + 1) h' → St2 (i + 1) h' → TupO h' s.heap.objs.size #[x1, x2] →
      (∀ c o, c ≠ z → c ≠ TO → c ≠ i1 → c ≠ i2 → s.heap.get? c = some o → h'.get? c = some o) → Q (some (.ref s.heap.objs.size)) { s with heap := h', toks := tk }) : wpAny (model prog w) A (pyNext (.ref z)) Q E s := by
  have hT : s.TypeIs (.ref z) "zip" := ⟨_, hz, rfl⟩
  unfold pyNext
  refine wpAny_bind (wpAny_attempt (wpAny_callSpecial?_slot (name := Str.ofString "__next__") hT F.slot_zip_next (wpAny_call_entry F.slot_zip_next hT F.entry_zip_next ?_ (F.args_zip_next_1 _))))
  exact next_item2 S D1 D2 hz hTI hTO st1 st2 hi1 hi2 fun x1 x2 h2 tk p1 p2 q1 q2 u1 u2 q3 q4 => wpAny_pure (hQ x1 x2 h2 tk p1 p2 q1 q2 u1 u2 q3 q4)
theorem py_end2 {z TI TO i1 i2 : Addr} {fp1 fp2 : List Addr} {n : Nat} {P1 P2 : Nat → Value → Prop} {St1 St2 : Nat → Heap → Prop} {a1 a2 : Value} {Q : Option Value → Shared → Prop} (hh : A.handled = none) (S : Sep2 z TI TO i1 i2 fp1 fp2) (D1 : Draws prog w A.in1 i1 fp1 n P1 St1) (D2 : Draws prog w A.in1 i2 fp2 n P2 St2)
    (hz : ZipO s.heap z TI TO .none b) (hTI : TupO s.heap TI #[.ref i1, .ref i2]) (hTO : TupO s.heap TO #[a1, a2]) (st1 : St1 n s.heap) (st2 : St2 n s.heap)
    (hQ : ∀ h', (∀ c o, c ≠ z → c ≠ TO → c ≠ i1 → c ≠ i2 → s.heap.get? c = some o → h'.get? c = some o) → Q none { s with heap := h' }) : wpAny (model prog w) A (pyNext (.ref z)) Q E s := by
  have hT : s.TypeIs (.ref z) "zip" := ⟨_, hz, rfl⟩
  unfold pyNext
  refine wpAny_bind (wpAny_attempt (wpAny_callSpecial?_slot (name := Str.ofString "__next__") hT F.slot_zip_next (wpAny_call_entry F.slot_zip_next hT F.entry_zip_next ?_ (F.args_zip_next_1 _))))
  refine next_end2 (A := A.in1) hh S D1 D2 hz hTI hTO st1 st2 fun h2 e kk he => ?_
  obtain ⟨o, ho, hc⟩ := he
  exact wpAny_bind (wpAny_isInstance (T := "StopIteration") (b := true) ⟨o, ho, hc⟩ isSubtype_stop (wpAny_pure (hQ _ kk)))
theorem typeCall_strict2 (v1 v2 x : Value) : checkTypeCall "zip" ⟨[v1, v2], [(Str.ofString "strict", x)]⟩ = pure () := by kernel_rfl
theorem newCall_strict2 (v1 v2 x : Value) : checkBuiltinCall "zip.__new__" ⟨[.type "zip", v1, v2], [(Str.ofString "strict", x)]⟩ = pure () := by kernel_rfl
theorem initArgs_strict2 (obj v1 v2 x : Value) : argsOk "object.__init__" ⟨[obj, v1, v2], [(Str.ofString "strict", x)]⟩ := by unfold argsOk; kernel_rfl
abbrev sT2 (h : Heap) (o1 o2 : Obj) : Heap := (((h.push o1).push o2).push { cls := .type "tuple", data := .seq #[.ref h.objs.size, .ref (h.push o1).objs.size] })
abbrev sO2 (h : Heap) (o1 o2 : Obj) : Heap := (sT2 h o1 o2).push { cls := .type "tuple", data := .seq #[.none, .none] }
abbrev sZ2 (h : Heap) (o1 o2 : Obj) : Heap := (sO2 h o1 o2).push { cls := .type "zip", data := .fields #[.none, .bool false, .bool true, .ref ((h.push o1).push o2).objs.size, .ref (sT2 h o1 o2).objs.size] }
theorem meets_strict2 {v1 v2 : Value} {o1 o2 : Obj} {G1 G2 : Heap → Prop} (B1 : Begins v1 o1 G1) (B2 : Begins v2 o2 G2) :
    Meets (Builtin.«zip.__new__» ⟨[.type "zip", v1, v2], [(Str.ofString "strict", .bool true)]⟩) (fun _ R s => (G1 s.heap ∧ G2 s.heap) ∧ R (.ok (.ret (.ref (sO2 s.heap o1 o2).objs.size))) { s with heap := (sZ2 s.heap o1 o2) }) :=
  .of_wp fun prog w A R s h => by
    obtain ⟨hp, g, d, tk, os⟩ := s
    obtain ⟨⟨h1, h2⟩, h⟩ := h
    have hsub := sub_zip
    have e1 : (Str.ofString "strict" != ("strict" : Str)) = false := by decide +kernel
    have w1 : ∀ {A' : Around} {E : Value → Shared → Prop} {Q : Value → Shared → Prop}, Q (.ref hp.objs.size) ⟨(hp.push o1), g, d, tk, os⟩ → wpAny (model prog w) A' (pyIter v1) Q E ⟨hp, g, d, tk, os⟩ := fun q => B1.iter prog w _ _ ⟨hp, g, d, tk, os⟩ _ (B1.keeps _ _ h1 fun c u e => e) q
    have w2 : ∀ {A' : Around} {E : Value → Shared → Prop} {Q : Value → Shared → Prop}, Q (.ref (hp.push o1).objs.size) ⟨((hp.push o1).push o2), g, d, tk, os⟩ → wpAny (model prog w) A' (pyIter v2) Q E ⟨(hp.push o1), g, d, tk, os⟩ := fun q => B2.iter prog w _ _ ⟨(hp.push o1), g, d, tk, os⟩ _ (B2.keeps _ _ h2 fun c u e => (Heap.get?_push_of_some _ e)) q
    wp_walk using w1, w2
    exact ⟨_, rfl, h⟩
/-- zip(.., strict=True) of 2: its new cells -/
theorem begins_strict2 {v1 v2 : Value} {o1 o2 : Obj} {G1 G2 : Heap → Prop} {Q : Value → Shared → Prop} (B1 : Begins v1 o1 G1) (B2 : Begins v2 o2 G2) (h1 : G1 s.heap) (h2 : G2 s.heap)
    (h : ∀ h', ZipO h' (s.heap.objs.size + 4) (s.heap.objs.size + 2) (s.heap.objs.size + 3) .none true → TupO h' (s.heap.objs.size + 2) #[.ref s.heap.objs.size, .ref (s.heap.objs.size + 1)] → TupO h' (s.heap.objs.size + 3) #[.none, .none] → h'.get? s.heap.objs.size = some o1 → h'.get? (s.heap.objs.size + 1) = some o2 → (∀ c o, s.heap.get? c = some o → h'.get? c = some o) → Q (.ref (s.heap.objs.size + 4)) { s with heap := h' }) :
    wpAny (model prog w) A (call (.type "zip") [v1, v2] [(Str.ofString "strict", .bool true)]) Q E s := by
  refine callType_newKw F.called_zip (by decide) (typeCall_strict2 _ _ _) (newCall_strict2 _ _ _) (fun obj => initArgs_strict2 obj _ _ _) F.entry_zip_new (meets_strict2 B1 B2) ⟨⟨h1, h2⟩, ?_⟩
  have z1 : (s.heap.push o1).objs.size = s.heap.objs.size + 1 := by rw [Heap.size_push]
  have z2 : ((s.heap.push o1).push o2).objs.size = s.heap.objs.size + 2 := by rw [Heap.size_push, z1]
  have z3 : (sT2 s.heap o1 o2).objs.size = s.heap.objs.size + 3 := by rw [Heap.size_push, z2]
  have z4 : (sO2 s.heap o1 o2).objs.size = s.heap.objs.size + 4 := by rw [Heap.size_push, z3]
  have z5 : (sZ2 s.heap o1 o2).objs.size = s.heap.objs.size + 5 := by rw [Heap.size_push, z4]
  have q0 : (sZ2 s.heap o1 o2).get? s.heap.objs.size = some o1 := (Heap.get?_push_of_some _ (Heap.get?_push_of_some _ (Heap.get?_push_of_some _ (Heap.get?_push_of_some _ (Heap.get?_push_size _ B1.free)))))
  have q1 : (sZ2 s.heap o1 o2).get? (s.heap.push o1).objs.size = some o2 := (Heap.get?_push_of_some _ (Heap.get?_push_of_some _ (Heap.get?_push_of_some _ (Heap.get?_push_size _ B2.free))))
  rw [z1] at q1
  have q2 : (sZ2 s.heap o1 o2).get? ((s.heap.push o1).push o2).objs.size = some ({ cls := .type "tuple", data := .seq #[.ref s.heap.objs.size, .ref (s.heap.push o1).objs.size] } : Obj) := (Heap.get?_push_of_some _ (Heap.get?_push_of_some _ (Heap.get?_push_size _ rfl)))
  rw [z2] at q2
  have q3 : (sZ2 s.heap o1 o2).get? (sT2 s.heap o1 o2).objs.size = some ({ cls := .type "tuple", data := .seq #[.none, .none] } : Obj) := (Heap.get?_push_of_some _ (Heap.get?_push_size _ rfl))
  rw [z3] at q3
  have q4 : (sZ2 s.heap o1 o2).get? (sO2 s.heap o1 o2).objs.size = some ({ cls := .type "zip", data := .fields #[.none, .bool false, .bool true, .ref ((s.heap.push o1).push o2).objs.size, .ref (sT2 s.heap o1 o2).objs.size] } : Obj) := (Heap.get?_push_size _ rfl)
  rw [z4] at q4
  rw [z1] at q2
  rw [z3, z2] at q4
  show _ ∧ _
  rw [z4]
  exact ⟨⟨_, q4, rfl⟩, h _ q4 q2 q3 q0 q1 fun c o e => (Heap.get?_push_of_some _ (Heap.get?_push_of_some _ (Heap.get?_push_of_some _ (Heap.get?_push_of_some _ (Heap.get?_push_of_some _ e)))))⟩
end
/-- the cells of a zip over 3 iterators lie apart -/
structure Sep3 (z TI TO i1 i2 i3 : Addr) (fp1 fp2 fp3 : List Addr) : Prop where
  zTO : z ≠ TO
  zTI : z ≠ TI
  TOTI : TO ≠ TI
  m1 : i1 ∈ fp1
  z1 : z ∉ fp1
  T1 : TO ∉ fp1
  I1 : TI ≠ i1
  s2_1 : i2 ∉ fp1
  s3_1 : i3 ∉ fp1
  m2 : i2 ∈ fp2
  z2 : z ∉ fp2
  T2 : TO ∉ fp2
  I2 : TI ≠ i2
  s1_2 : i1 ∉ fp2
  s3_2 : i3 ∉ fp2
  m3 : i3 ∈ fp3
  z3 : z ∉ fp3
  T3 : TO ∉ fp3
  I3 : TI ≠ i3
  s1_3 : i1 ∉ fp3
  s2_3 : i2 ∉ fp3
section
variable {prog : Program} {w : World} {A : Around} {E : Value → Shared → Prop} {s : Shared} {b : Bool}
theorem next_item3 {z TI TO i1 i2 i3 : Addr} {fp1 fp2 fp3 : List Addr} {n1 n2 n3 i : Nat} {P1 P2 P3 : Nat → Value → Prop} {St1 St2 St3 : Nat → Heap → Prop} {a1 a2 a3 : Value} {Q : Value → Shared → Prop} (S : Sep3 z TI TO i1 i2 i3 fp1 fp2 fp3) (D1 : Draws prog w A i1 fp1 n1 P1 St1) (D2 : Draws prog w A i2 fp2 n2 P2 St2) (D3 : Draws prog w A i3 fp3 n3 P3 St3)
    (hz : ZipO s.heap z TI TO .none b) (hTI : TupO s.heap TI #[.ref i1, .ref i2, .ref i3]) (hTO : TupO s.heap TO #[a1, a2, a3]) (st1 : St1 i s.heap) (st2 : St2 i s.heap) (st3 : St3 i s.heap) (hi1 : i < n1) (hi2 : i < n2) (hi3 : i < n3)
    (hQ : ∀ x1 x2 x3 h' tk, P1 i x1 → P2 i x2 → P3 i x3 → ZipO h' z TI TO (rawInt s.heap.objs.size) b → TupO h' TO #[x1, x2, x3] → St1 (i + 1) h' → St2 (i + 1) h' → St3 (i + 1) h' → TupO h' s.heap.objs.size #[x1, x2, x3] →
      (∀ c o, c ≠ z → c ≠ TO → c ≠ i1 → c ≠ i2 → c ≠ i3 → s.heap.get? c = some o → h'.get? c = some o) → Q (.ref s.heap.objs.size) { s with heap := h', toks := tk }) :
    wpAny (model prog w) A (Builtin.«zip.__next__» ⟨[.ref z], []⟩) (fun fin s' => ∃ v, fin = .done (.ret v) ∧ Q v s') E s := by
  obtain ⟨hp, g, d, tk0, os⟩ := s
  refine wpAny_bind (m := field (.ref z) 2) (wpAny_field hz rfl (x := .bool b) rfl ?_)
  refine wpAny_bind (m := field (.ref z) 3) (wpAny_field hz rfl (x := .ref TI) rfl ?_)
  refine wpAny_bind (wpAny_seqItems hTI rfl ?_)
  show wpAny _ _ (Builtin.SmallTypes.ownedTupleIsFree (.ref z) >>= _) _ _ _
  rw [val_b]
  refine wpAny_bind ?_
  unfold Builtin.SmallTypes.ownedTupleIsFree
  refine wpAny_bind (wpAny_field hz rfl (x := .none) rfl (wpAny_pure ?_))
  simp only [if_true]
  refine wpAny_bind (wpAny_rule (wpAny_bind (wpAny_field hz rfl (x := .ref TO) rfl ?_)))
  refine wpAny_bind (wpAny_setField_rec hz (by simp) fun g0 hz0 hs0 => wpAny_bind ?_)
  replace hs0 : Heap.SameBut z hp g0 := hs0
  replace hz0 : ZipO g0 z TI TO .ellipsis b := hz0
  have hT0 : TupO g0 TO #[a1, a2, a3] := hs0.extBut _ _ S.zTO.symm hTO
  have t1_0 : St1 i g0 := D1.frame _ _ _ st1 fun c hc o e => hs0.extBut c o (fun q => S.z1 (q ▸ hc)) e
  have t2_0 : St2 i g0 := D2.frame _ _ _ st2 fun c hc o e => hs0.extBut c o (fun q => S.z2 (q ▸ hc)) e
  have t3_0 : St3 i g0 := D3.frame _ _ _ st3 fun c hc o e => hs0.extBut c o (fun q => S.z3 (q ▸ hc)) e
  have k0 : ∀ c o, c ≠ z → c ≠ TO → c ≠ i1 → c ≠ i2 → c ≠ i3 → hp.get? c = some o → g0.get? c = some o := fun c o q0 _ _ _ _ e => hs0.extBut c o q0 e
  simp only [List.zipIdx_cons, List.zipIdx_nil, List.forIn_cons, List.forIn_nil]
  refine wpAny_bind (wpAny_bind (wpAny_onRaise (m := zdraw b (.ref i1)) (zdraw_item (s := ⟨g0, g, d, tk0, os⟩) D1 hi1 t1_0 fun x1 d1 tk1 p1 n1 hd1 => ?_)))
  replace hd1 : Heap.SameBut i1 g0 d1 := hd1
  have hU1 : TupO d1 TO #[a1, a2, a3] := hd1.extBut _ _ (fun q => S.T1 (q ▸ S.m1)) hT0
  refine wpAny_bind (wpAny_seqItems (s := ⟨d1, g, d, tk1, os⟩) hU1 rfl ?_)
  refine wpAny_bind (upd_tup (s := ⟨d1, g, d, tk1, os⟩) hU1 (by simp) fun g1 hT1 hs1 => ?_)
  replace hs1 : Heap.SameBut TO d1 g1 := hs1
  replace hT1 : TupO g1 TO #[x1, a2, a3] := hT1
  have hz1 : ZipO g1 z TI TO .ellipsis b := hs1.extBut _ _ S.zTO (hd1.extBut _ _ (fun q => S.z1 (q ▸ S.m1)) hz0)
  have t1_1 : St1 (i + 1) g1 := D1.frame _ _ _ n1 fun c hc o e => hs1.extBut c o (fun q => S.T1 (q ▸ hc)) e
  have t2_1 : St2 i g1 := D2.frame _ _ _ t2_0 fun c hc o e => hs1.extBut c o (fun q => S.T2 (q ▸ hc)) (hd1.extBut c o (fun q => S.s1_2 (q ▸ hc)) e)
  have t3_1 : St3 i g1 := D3.frame _ _ _ t3_0 fun c hc o e => hs1.extBut c o (fun q => S.T3 (q ▸ hc)) (hd1.extBut c o (fun q => S.s1_3 (q ▸ hc)) e)
  have k1 : ∀ c o, c ≠ z → c ≠ TO → c ≠ i1 → c ≠ i2 → c ≠ i3 → hp.get? c = some o → g1.get? c = some o := fun c o qz qT q1 q2 q3 e => hs1.extBut c o qT (hd1.extBut c o q1 (k0 c o qz qT q1 q2 q3 e))
  have e1 : g1.objs.size = g0.objs.size := by rw [hs1.1, hd1.1]
  refine wpAny_bind (wpAny_letGo (wpAny_pure ?_))
  refine wpAny_bind (wpAny_bind (wpAny_onRaise (m := zdraw b (.ref i2)) (zdraw_item (s := ⟨g1, g, d, tk1, os⟩) D2 hi2 t2_1 fun x2 d2 tk2 p2 n2 hd2 => ?_)))
  replace hd2 : Heap.SameBut i2 g1 d2 := hd2
  have hU2 : TupO d2 TO #[x1, a2, a3] := hd2.extBut _ _ (fun q => S.T2 (q ▸ S.m2)) hT1
  refine wpAny_bind (wpAny_seqItems (s := ⟨d2, g, d, tk2, os⟩) hU2 rfl ?_)
  refine wpAny_bind (upd_tup (s := ⟨d2, g, d, tk2, os⟩) hU2 (by simp) fun g2 hT2 hs2 => ?_)
  replace hs2 : Heap.SameBut TO d2 g2 := hs2
  replace hT2 : TupO g2 TO #[x1, x2, a3] := hT2
  have hz2 : ZipO g2 z TI TO .ellipsis b := hs2.extBut _ _ S.zTO (hd2.extBut _ _ (fun q => S.z2 (q ▸ S.m2)) hz1)
  have t1_2 : St1 (i + 1) g2 := D1.frame _ _ _ t1_1 fun c hc o e => hs2.extBut c o (fun q => S.T1 (q ▸ hc)) (hd2.extBut c o (fun q => S.s2_1 (q ▸ hc)) e)
  have t2_2 : St2 (i + 1) g2 := D2.frame _ _ _ n2 fun c hc o e => hs2.extBut c o (fun q => S.T2 (q ▸ hc)) e
  have t3_2 : St3 i g2 := D3.frame _ _ _ t3_1 fun c hc o e => hs2.extBut c o (fun q => S.T3 (q ▸ hc)) (hd2.extBut c o (fun q => S.s2_3 (q ▸ hc)) e)
  have k2 : ∀ c o, c ≠ z → c ≠ TO → c ≠ i1 → c ≠ i2 → c ≠ i3 → hp.get? c = some o → g2.get? c = some o := fun c o qz qT q1 q2 q3 e => hs2.extBut c o qT (hd2.extBut c o q2 (k1 c o qz qT q1 q2 q3 e))
  have e2 : g2.objs.size = g1.objs.size := by rw [hs2.1, hd2.1]
  refine wpAny_bind (wpAny_letGo (wpAny_pure ?_))
  refine wpAny_bind (wpAny_bind (wpAny_onRaise (m := zdraw b (.ref i3)) (zdraw_item (s := ⟨g2, g, d, tk2, os⟩) D3 hi3 t3_2 fun x3 d3 tk3 p3 n3 hd3 => ?_)))
  replace hd3 : Heap.SameBut i3 g2 d3 := hd3
  have hU3 : TupO d3 TO #[x1, x2, a3] := hd3.extBut _ _ (fun q => S.T3 (q ▸ S.m3)) hT2
  refine wpAny_bind (wpAny_seqItems (s := ⟨d3, g, d, tk3, os⟩) hU3 rfl ?_)
  refine wpAny_bind (upd_tup (s := ⟨d3, g, d, tk3, os⟩) hU3 (by simp) fun g3 hT3 hs3 => ?_)
  replace hs3 : Heap.SameBut TO d3 g3 := hs3
  replace hT3 : TupO g3 TO #[x1, x2, x3] := hT3
  have hz3 : ZipO g3 z TI TO .ellipsis b := hs3.extBut _ _ S.zTO (hd3.extBut _ _ (fun q => S.z3 (q ▸ S.m3)) hz2)
  have t1_3 : St1 (i + 1) g3 := D1.frame _ _ _ t1_2 fun c hc o e => hs3.extBut c o (fun q => S.T1 (q ▸ hc)) (hd3.extBut c o (fun q => S.s3_1 (q ▸ hc)) e)
  have t2_3 : St2 (i + 1) g3 := D2.frame _ _ _ t2_2 fun c hc o e => hs3.extBut c o (fun q => S.T2 (q ▸ hc)) (hd3.extBut c o (fun q => S.s3_2 (q ▸ hc)) e)
  have t3_3 : St3 (i + 1) g3 := D3.frame _ _ _ n3 fun c hc o e => hs3.extBut c o (fun q => S.T3 (q ▸ hc)) e
  have k3 : ∀ c o, c ≠ z → c ≠ TO → c ≠ i1 → c ≠ i2 → c ≠ i3 → hp.get? c = some o → g3.get? c = some o := fun c o qz qT q1 q2 q3 e => hs3.extBut c o qT (hd3.extBut c o q3 (k2 c o qz qT q1 q2 q3 e))
  have e3 : g3.objs.size = g2.objs.size := by rw [hs3.1, hd3.1]
  refine wpAny_bind (wpAny_letGo (wpAny_pure ?_))
  refine wpAny_pure ?_
  refine wpAny_bind (wpAny_seqItems (s := ⟨g3, g, d, tk3, os⟩) hT3 rfl ?_)
  refine wpAny_bind (wpAny_newTuple ?_)
  have hsz : g3.objs.size = hp.objs.size := by rw [e3, e2, e1, hs0.1]
  have hlt : z < g3.objs.size := Heap.lt_size hz3
  refine wpAny_bind ?_
  unfold Builtin.SmallTypes.ownedTupleHandOut
  have hy : ZipO (g3.push { cls := .type "tuple", data := .seq #[x1, x2, x3] }) z TI TO .ellipsis b := Heap.get?_push_of_some _ hz3
  refine wpAny_bind (wpAny_setField_rec hy (by simp) fun u1 hu1 hv1 => wpAny_setField_rec hu1 (by simp) fun u2 hu2 hv2 => ?_)
  have up : ∀ c o, c ≠ z → g3.get? c = some o → u2.get? c = some o := fun c o q e => hv2.extBut c o q (hv1.extBut c o q (Heap.get?_push_of_some _ e))
  have hN : TupO u2 g3.objs.size #[x1, x2, x3] := hv2.extBut _ _ (Nat.ne_of_gt hlt) (hv1.extBut _ _ (Nat.ne_of_gt hlt) (Heap.get?_push_size _ rfl))
  have hZ : ZipO u2 z TI TO (rawInt g3.objs.size) b := hu2
  rw [hsz] at hN hZ
  refine wpAny_pure ⟨_, rfl, ?_⟩
  show Q (.ref g3.objs.size) ⟨u2, g, d, tk3, os⟩
  rw [hsz]
  exact hQ x1 x2 x3 u2 tk3 p1 p2 p3 hZ (up _ _ S.zTO.symm hT3) (D1.frame _ _ _ t1_3 fun c hc o e => up c o (fun q => S.z1 (q ▸ hc)) e) (D2.frame _ _ _ t2_3 fun c hc o e => up c o (fun q => S.z2 (q ▸ hc)) e) (D3.frame _ _ _ t3_3 fun c hc o e => up c o (fun q => S.z3 (q ▸ hc)) e) hN fun c o qz qT q1 q2 q3 e => up c o qz (k3 c o qz qT q1 q2 q3 e)
theorem next_end3 {z TI TO i1 i2 i3 : Addr} {fp1 fp2 fp3 : List Addr} {n : Nat} {P1 P2 P3 : Nat → Value → Prop} {St1 St2 St3 : Nat → Heap → Prop} {a1 a2 a3 : Value} {Q : Fin → Shared → Prop} (hh : A.handled = none) (S : Sep3 z TI TO i1 i2 i3 fp1 fp2 fp3) (D1 : Draws prog w A i1 fp1 n P1 St1) (D2 : Draws prog w A i2 fp2 n P2 St2) (D3 : Draws prog w A i3 fp3 n P3 St3)
    (hz : ZipO s.heap z TI TO .none b) (hTI : TupO s.heap TI #[.ref i1, .ref i2, .ref i3]) (hTO : TupO s.heap TO #[a1, a2, a3]) (st1 : St1 n s.heap) (st2 : St2 n s.heap) (st3 : St3 n s.heap)
    (hE : ∀ h' e, (∀ c o, c ≠ z → c ≠ TO → c ≠ i1 → c ≠ i2 → c ≠ i3 → s.heap.get? c = some o → h'.get? c = some o) → (∃ o, h'.get? e = some o ∧ o.cls = .type "StopIteration") → E (.ref e) { s with heap := h' }) :
    wpAny (model prog w) A (Builtin.«zip.__next__» ⟨[.ref z], []⟩) Q E s := by
  obtain ⟨hp, g, d, tk0, os⟩ := s
  refine wpAny_bind (m := field (.ref z) 2) (wpAny_field hz rfl (x := .bool b) rfl ?_)
  refine wpAny_bind (m := field (.ref z) 3) (wpAny_field hz rfl (x := .ref TI) rfl ?_)
  refine wpAny_bind (wpAny_seqItems hTI rfl ?_)
  show wpAny _ _ (Builtin.SmallTypes.ownedTupleIsFree (.ref z) >>= _) _ _ _
  rw [val_b]
  refine wpAny_bind ?_
  unfold Builtin.SmallTypes.ownedTupleIsFree
  refine wpAny_bind (wpAny_field hz rfl (x := .none) rfl (wpAny_pure ?_))
  simp only [if_true]
  refine wpAny_bind (wpAny_rule (wpAny_bind (wpAny_field hz rfl (x := .ref TO) rfl ?_)))
  refine wpAny_bind (wpAny_setField_rec hz (by simp) fun g0 hz0 hs0 => wpAny_bind ?_)
  replace hs0 : Heap.SameBut z hp g0 := hs0
  replace hz0 : ZipO g0 z TI TO .ellipsis b := hz0
  have t1_0 : St1 n g0 := D1.frame _ _ _ st1 fun c hc o e => hs0.extBut c o (fun q => S.z1 (q ▸ hc)) e
  have t2_0 : St2 n g0 := D2.frame _ _ _ st2 fun c hc o e => hs0.extBut c o (fun q => S.z2 (q ▸ hc)) e
  have t3_0 : St3 n g0 := D3.frame _ _ _ st3 fun c hc o e => hs0.extBut c o (fun q => S.z3 (q ▸ hc)) e
  simp only [List.zipIdx_cons, List.zipIdx_nil, List.forIn_cons, List.forIn_nil]
  refine wpAny_bind (wpAny_bind (wpAny_onRaise ?_))
  cases b with
  | false =>
    refine wpAny_bind (m := Builtin.SmallTypes.nextOf (.ref i1)) (D1.done ⟨g0, g, d, tk0, os⟩ _ _ t1_0 fun y e hy he => ?_)
    replace hy : Heap.ExtBut i1 g0 y := hy
    obtain ⟨oe, hoe, hce⟩ := he
    replace hoe : y.get? e = some oe := hoe
    have hzy : ZipO y z TI TO .ellipsis false := hy _ _ (fun q => S.z1 (q ▸ S.m1)) hz0
    have hez : e ≠ z := fun x => by subst x; rw [hzy] at hoe; cases hoe; simp at hce
    refine wpAny_setField_rec (s := ⟨y, g, d, tk0, os⟩) hzy (by simp) fun y2 _ hv => ?_
    replace hv : Heap.SameBut z y y2 := hv
    exact hE y2 e (fun c o qz qT q1 q2 q3 x => hv.extBut c o qz (hy c o q1 (hs0.extBut c o qz x))) ⟨oe, hv.extBut _ _ hez hoe, hce⟩
  | true =>
    refine zend_strict (s := ⟨g0, g, d, tk0, os⟩) D1 t1_0 fun y hy => ?_
    replace hy : Heap.ExtBut i1 g0 y := hy
    have hzy : ZipO y z TI TO .ellipsis true := hy _ _ (fun q => S.z1 (q ▸ S.m1)) hz0
    have t2_1 : St2 n y := D2.frame _ _ _ t2_0 fun c hc o e => hy c o (fun q => S.s1_2 (q ▸ hc)) e
    have t3_1 : St3 n y := D3.frame _ _ _ t3_0 fun c hc o e => hy c o (fun q => S.s1_3 (q ▸ hc)) e
    refine wpAny_bind (wpAny_setField_rec (s := ⟨y, g, d, tk0, os⟩) hzy (by simp) fun y1 _ hv1 => ?_)
    replace hv1 : Heap.SameBut z y y1 := hv1
    have r2_1 : St2 n y1 := D2.frame _ _ _ t2_1 fun c hc o e => hv1.extBut c o (fun q => S.z2 (q ▸ hc)) e
    have r3_1 : St3 n y1 := D3.frame _ _ _ t3_1 fun c hc o e => hv1.extBut c o (fun q => S.z3 (q ▸ hc)) e
    have k1 : ∀ c o, c ≠ z → c ≠ TO → c ≠ i1 → c ≠ i2 → c ≠ i3 → hp.get? c = some o → y1.get? c = some o := fun c o qz qT q1 q2 q3 e => hv1.extBut c o qz (hy c o q1 (hs0.extBut c o qz e))
    refine wpAny_bind ?_
    refine wpAny_bind ?_
    simp only [List.drop_succ_cons, List.drop_zero, List.zipIdx_cons, List.zipIdx_nil, List.forIn_cons, List.forIn_nil]
    refine wpAny_bind (wpAny_bind (zend_strict (s := ⟨y1, g, d, tk0, os⟩) D2 r2_1 fun y2 hy2 => ?_))
    replace hy2 : Heap.ExtBut i2 y1 y2 := hy2
    have k2 : ∀ c o, c ≠ z → c ≠ TO → c ≠ i1 → c ≠ i2 → c ≠ i3 → hp.get? c = some o → y2.get? c = some o := fun c o qz qT q1 q2 q3 e => hy2 c o q2 (k1 c o qz qT q1 q2 q3 e)
    have r3_2 : St3 n y2 := D3.frame _ _ _ r3_1 fun c hc o e => hy2 c o (fun q => S.s2_3 (q ▸ hc)) e
    refine wpAny_pure ?_
    refine wpAny_bind (wpAny_bind (zend_strict (s := ⟨y2, g, d, tk0, os⟩) D3 r3_2 fun y3 hy3 => ?_))
    replace hy3 : Heap.ExtBut i3 y2 y3 := hy3
    have k3 : ∀ c o, c ≠ z → c ≠ TO → c ≠ i1 → c ≠ i2 → c ≠ i3 → hp.get? c = some o → y3.get? c = some o := fun c o qz qT q1 q2 q3 e => hy3 c o q3 (k2 c o qz qT q1 q2 q3 e)
    refine wpAny_pure ?_
    refine wpAny_pure ?_
    exact wpAny_bind (wpAny_rule (stop_it (s := ⟨y3, g, d, tk0, os⟩) hh fun h2 e kk he => hE h2 e (fun c o qz qT q1 q2 q3 x => kk c o (k3 c o qz qT q1 q2 q3 x)) he))
theorem py_item3 {z TI TO i1 i2 i3 : Addr} {fp1 fp2 fp3 : List Addr} {n1 n2 n3 i : Nat} {P1 P2 P3 : Nat → Value → Prop} {St1 St2 St3 : Nat → Heap → Prop} {a1 a2 a3 : Value} {Q : Option Value → Shared → Prop} (S : Sep3 z TI TO i1 i2 i3 fp1 fp2 fp3) (D1 : Draws prog w A.in1 i1 fp1 n1 P1 St1) (D2 : Draws prog w A.in1 i2 fp2 n2 P2 St2) (D3 : Draws prog w A.in1 i3 fp3 n3 P3 St3)
    (hz : ZipO s.heap z TI TO .none b) (hTI : TupO s.heap TI #[.ref i1, .ref i2, .ref i3]) (hTO : TupO s.heap TO #[a1, a2, a3]) (st1 : St1 i s.heap) (st2 : St2 i s.heap) (st3 : St3 i s.heap) (hi1 : i < n1) (hi2 : i < n2) (hi3 : i < n3)
    (hQ : ∀ x1 x2 x3 h' tk, P1 i x1 → P2 i x2 → P3 i x3 → ZipO h' z TI TO (rawInt s.heap.objs.size) b → TupO h' TO #[x1, x2, x3] → St1 (i + 1) h' → St2 (i + 1) h' → St3 (i + 1) h' → TupO h' s.heap.objs.size #[x1, x2, x3] →
      (∀ c o, c ≠ z → c ≠ TO → c ≠ i1 → c ≠ i2 → c ≠ i3 → s.heap.get? c = some o → h'.get? c = some o) → Q (some (.ref s.heap.objs.size)) { s with heap := h', toks := tk }) : wpAny (model prog w) A (pyNext (.ref z)) Q E s := by
  have hT : s.TypeIs (.ref z) "zip" := ⟨_, hz, rfl⟩
  unfold pyNext
  refine wpAny_bind (wpAny_attempt (wpAny_callSpecial?_slot (name := Str.ofString "__next__") hT F.slot_zip_next (wpAny_call_entry F.slot_zip_next hT F.entry_zip_next ?_ (F.args_zip_next_1 _))))
  exact next_item3 S D1 D2 D3 hz hTI hTO st1 st2 st3 hi1 hi2 hi3 fun x1 x2 x3 h2 tk p1 p2 p3 q1 q2 u1 u2 u3 q3 q4 => wpAny_pure (hQ x1 x2 x3 h2 tk p1 p2 p3 q1 q2 u1 u2 u3 q3 q4)
theorem py_end3 {z TI TO i1 i2 i3 : Addr} {fp1 fp2 fp3 : List Addr} {n : Nat} {P1 P2 P3 : Nat → Value → Prop} {St1 St2 St3 : Nat → Heap → Prop} {a1 a2 a3 : Value} {Q : Option Value → Shared → Prop} (hh : A.handled = none) (S : Sep3 z TI TO i1 i2 i3 fp1 fp2 fp3) (D1 : Draws prog w A.in1 i1 fp1 n P1 St1) (D2 : Draws prog w A.in1 i2 fp2 n P2 St2) (D3 : Draws prog w A.in1 i3 fp3 n P3 St3)
    (hz : ZipO s.heap z TI TO .none b) (hTI : TupO s.heap TI #[.ref i1, .ref i2, .ref i3]) (hTO : TupO s.heap TO #[a1, a2, a3]) (st1 : St1 n s.heap) (st2 : St2 n s.heap) (st3 : St3 n s.heap)
    (hQ : ∀ h', (∀ c o, c ≠ z → c ≠ TO → c ≠ i1 → c ≠ i2 → c ≠ i3 → s.heap.get? c = some o → h'.get? c = some o) → Q none { s with heap := h' }) : wpAny (model prog w) A (pyNext (.ref z)) Q E s := by
  have hT : s.TypeIs (.ref z) "zip" := ⟨_, hz, rfl⟩
  unfold pyNext
  refine wpAny_bind (wpAny_attempt (wpAny_callSpecial?_slot (name := Str.ofString "__next__") hT F.slot_zip_next (wpAny_call_entry F.slot_zip_next hT F.entry_zip_next ?_ (F.args_zip_next_1 _))))
  refine next_end3 (A := A.in1) hh S D1 D2 D3 hz hTI hTO st1 st2 st3 fun h2 e kk he => ?_
  obtain ⟨o, ho, hc⟩ := he
  exact wpAny_bind (wpAny_isInstance (T := "StopIteration") (b := true) ⟨o, ho, hc⟩ isSubtype_stop (wpAny_pure (hQ _ kk)))
theorem typeCall_strict3 (v1 v2 v3 x : Value) : checkTypeCall "zip" ⟨[v1, v2, v3], [(Str.ofString "strict", x)]⟩ = pure () := by kernel_rfl
theorem newCall_strict3 (v1 v2 v3 x : Value) : checkBuiltinCall "zip.__new__" ⟨[.type "zip", v1, v2, v3], [(Str.ofString "strict", x)]⟩ = pure () := by kernel_rfl
theorem initArgs_strict3 (obj v1 v2 v3 x : Value) : argsOk "object.__init__" ⟨[obj, v1, v2, v3], [(Str.ofString "strict", x)]⟩ := by unfold argsOk; kernel_rfl
abbrev sT3 (h : Heap) (o1 o2 o3 : Obj) : Heap := ((((h.push o1).push o2).push o3).push { cls := .type "tuple", data := .seq #[.ref h.objs.size, .ref (h.push o1).objs.size, .ref ((h.push o1).push o2).objs.size] })
abbrev sO3 (h : Heap) (o1 o2 o3 : Obj) : Heap := (sT3 h o1 o2 o3).push { cls := .type "tuple", data := .seq #[.none, .none, .none] }
abbrev sZ3 (h : Heap) (o1 o2 o3 : Obj) : Heap := (sO3 h o1 o2 o3).push { cls := .type "zip", data := .fields #[.none, .bool false, .bool true, .ref (((h.push o1).push o2).push o3).objs.size, .ref (sT3 h o1 o2 o3).objs.size] }
theorem meets_strict3 {v1 v2 v3 : Value} {o1 o2 o3 : Obj} {G1 G2 G3 : Heap → Prop} (B1 : Begins v1 o1 G1) (B2 : Begins v2 o2 G2) (B3 : Begins v3 o3 G3) :
    Meets (Builtin.«zip.__new__» ⟨[.type "zip", v1, v2, v3], [(Str.ofString "strict", .bool true)]⟩) (fun _ R s => (G1 s.heap ∧ G2 s.heap ∧ G3 s.heap) ∧ R (.ok (.ret (.ref (sO3 s.heap o1 o2 o3).objs.size))) { s with heap := (sZ3 s.heap o1 o2 o3) }) :=
  .of_wp fun prog w A R s h => by
    obtain ⟨hp, g, d, tk, os⟩ := s
    obtain ⟨⟨h1, h2, h3⟩, h⟩ := h
    have hsub := sub_zip
    have e1 : (Str.ofString "strict" != ("strict" : Str)) = false := by decide +kernel
    have w1 : ∀ {A' : Around} {E : Value → Shared → Prop} {Q : Value → Shared → Prop}, Q (.ref hp.objs.size) ⟨(hp.push o1), g, d, tk, os⟩ → wpAny (model prog w) A' (pyIter v1) Q E ⟨hp, g, d, tk, os⟩ := fun q => B1.iter prog w _ _ ⟨hp, g, d, tk, os⟩ _ (B1.keeps _ _ h1 fun c u e => e) q
    have w2 : ∀ {A' : Around} {E : Value → Shared → Prop} {Q : Value → Shared → Prop}, Q (.ref (hp.push o1).objs.size) ⟨((hp.push o1).push o2), g, d, tk, os⟩ → wpAny (model prog w) A' (pyIter v2) Q E ⟨(hp.push o1), g, d, tk, os⟩ := fun q => B2.iter prog w _ _ ⟨(hp.push o1), g, d, tk, os⟩ _ (B2.keeps _ _ h2 fun c u e => (Heap.get?_push_of_some _ e)) q
    have w3 : ∀ {A' : Around} {E : Value → Shared → Prop} {Q : Value → Shared → Prop}, Q (.ref ((hp.push o1).push o2).objs.size) ⟨(((hp.push o1).push o2).push o3), g, d, tk, os⟩ → wpAny (model prog w) A' (pyIter v3) Q E ⟨((hp.push o1).push o2), g, d, tk, os⟩ := fun q => B3.iter prog w _ _ ⟨((hp.push o1).push o2), g, d, tk, os⟩ _ (B3.keeps _ _ h3 fun c u e => (Heap.get?_push_of_some _ (Heap.get?_push_of_some _ e))) q
    wp_walk using w1, w2, w3
    exact ⟨_, rfl, h⟩
/-- zip(.., strict=True) of 3: its new cells -/
theorem begins_strict3 {v1 v2 v3 : Value} {o1 o2 o3 : Obj} {G1 G2 G3 : Heap → Prop} {Q : Value → Shared → Prop} (B1 : Begins v1 o1 G1) (B2 : Begins v2 o2 G2) (B3 : Begins v3 o3 G3) (h1 : G1 s.heap) (h2 : G2 s.heap) (h3 : G3 s.heap)
    (h : ∀ h', ZipO h' (s.heap.objs.size + 5) (s.heap.objs.size + 3) (s.heap.objs.size + 4) .none true → TupO h' (s.heap.objs.size + 3) #[.ref s.heap.objs.size, .ref (s.heap.objs.size + 1), .ref (s.heap.objs.size + 2)] → TupO h' (s.heap.objs.size + 4) #[.none, .none, .none] → h'.get? s.heap.objs.size = some o1 → h'.get? (s.heap.objs.size + 1) = some o2 → h'.get? (s.heap.objs.size + 2) = some o3 → (∀ c o, s.heap.get? c = some o → h'.get? c = some o) → Q (.ref (s.heap.objs.size + 5)) { s with heap := h' }) :
    wpAny (model prog w) A (call (.type "zip") [v1, v2, v3] [(Str.ofString "strict", .bool true)]) Q E s := by
  refine callType_newKw F.called_zip (by decide) (typeCall_strict3 _ _ _ _) (newCall_strict3 _ _ _ _) (fun obj => initArgs_strict3 obj _ _ _ _) F.entry_zip_new (meets_strict3 B1 B2 B3) ⟨⟨h1, h2, h3⟩, ?_⟩
  have z1 : (s.heap.push o1).objs.size = s.heap.objs.size + 1 := by rw [Heap.size_push]
  have z2 : ((s.heap.push o1).push o2).objs.size = s.heap.objs.size + 2 := by rw [Heap.size_push, z1]
  have z3 : (((s.heap.push o1).push o2).push o3).objs.size = s.heap.objs.size + 3 := by rw [Heap.size_push, z2]
  have z4 : (sT3 s.heap o1 o2 o3).objs.size = s.heap.objs.size + 4 := by rw [Heap.size_push, z3]
  have z5 : (sO3 s.heap o1 o2 o3).objs.size = s.heap.objs.size + 5 := by rw [Heap.size_push, z4]
  have z6 : (sZ3 s.heap o1 o2 o3).objs.size = s.heap.objs.size + 6 := by rw [Heap.size_push, z5]
  have q0 : (sZ3 s.heap o1 o2 o3).get? s.heap.objs.size = some o1 := (Heap.get?_push_of_some _ (Heap.get?_push_of_some _ (Heap.get?_push_of_some _ (Heap.get?_push_of_some _ (Heap.get?_push_of_some _ (Heap.get?_push_size _ B1.free))))))
  have q1 : (sZ3 s.heap o1 o2 o3).get? (s.heap.push o1).objs.size = some o2 := (Heap.get?_push_of_some _ (Heap.get?_push_of_some _ (Heap.get?_push_of_some _ (Heap.get?_push_of_some _ (Heap.get?_push_size _ B2.free)))))
  rw [z1] at q1
  have q2 : (sZ3 s.heap o1 o2 o3).get? ((s.heap.push o1).push o2).objs.size = some o3 := (Heap.get?_push_of_some _ (Heap.get?_push_of_some _ (Heap.get?_push_of_some _ (Heap.get?_push_size _ B3.free))))
  rw [z2] at q2
  have q3 : (sZ3 s.heap o1 o2 o3).get? (((s.heap.push o1).push o2).push o3).objs.size = some ({ cls := .type "tuple", data := .seq #[.ref s.heap.objs.size, .ref (s.heap.push o1).objs.size, .ref ((s.heap.push o1).push o2).objs.size] } : Obj) := (Heap.get?_push_of_some _ (Heap.get?_push_of_some _ (Heap.get?_push_size _ rfl)))
  rw [z3] at q3
  have q4 : (sZ3 s.heap o1 o2 o3).get? (sT3 s.heap o1 o2 o3).objs.size = some ({ cls := .type "tuple", data := .seq #[.none, .none, .none] } : Obj) := (Heap.get?_push_of_some _ (Heap.get?_push_size _ rfl))
  rw [z4] at q4
  have q5 : (sZ3 s.heap o1 o2 o3).get? (sO3 s.heap o1 o2 o3).objs.size = some ({ cls := .type "zip", data := .fields #[.none, .bool false, .bool true, .ref (((s.heap.push o1).push o2).push o3).objs.size, .ref (sT3 s.heap o1 o2 o3).objs.size] } : Obj) := (Heap.get?_push_size _ rfl)
  rw [z5] at q5
  rw [z2, z1] at q3
  rw [z4, z3] at q5
  show _ ∧ _
  rw [z5]
  exact ⟨⟨_, q5, rfl⟩, h _ q5 q3 q4 q0 q1 q2 fun c o e => (Heap.get?_push_of_some _ (Heap.get?_push_of_some _ (Heap.get?_push_of_some _ (Heap.get?_push_of_some _ (Heap.get?_push_of_some _ (Heap.get?_push_of_some _ e))))))⟩
end
end CZ

namespace CZ
open PySem PySem.Spec PyProof.Rows L2
/-- a list (false) or a tuple (true) that is read -/
def SqK (K : PySem.W.Frag) (H : Hp) (p : Bool × Addr) (xs : List V) : Prop := if p.1 = true then SqT K H p.2 xs else SqL K H p.2 xs
def SqIt (h : Heap) (it : Addr) (p : Bool × Addr) (i : Nat) : Prop := if p.1 = true then h.IsTupleIter it p.2 i else h.IsListIter it p.2 i
def SeqIs (h : Heap) (p : Bool × Addr) (its : List Value) : Prop := if p.1 = true then h.IsTuple p.2 its.toArray else h.IsList p.2 its.toArray
/-- the iterator's object as it begins -/
def itO (p : Bool × Addr) : Obj := if p.1 = true then { cls := .type "tuple_iterator", data := .fields #[.ref p.2, .int 0 0] } else { cls := .type "list_iterator", data := .fields #[.ref p.2, .int 0 0] }
theorem SqIt.at {h h' : Heap} {it : Addr} {p : Bool × Addr} {i : Nat} (x : SqIt h it p i) (k : ∀ o, h.get? it = some o → h'.get? it = some o) : SqIt h' it p i := by
  obtain ⟨b, a⟩ := p
  cases b
  · exact Heap.IsListIter.at (show h.IsListIter it a i from x) k
  · exact Heap.IsTupleIter.at (show h.IsTupleIter it a i from x) k
theorem SqIt.obj {h : Heap} {it : Addr} {p : Bool × Addr} {i : Nat} (x : SqIt h it p i) : ∃ o, h.get? it = some o ∧ ∀ v, o.data ≠ .cell v := by
  obtain ⟨b, a⟩ := p
  cases b
  · obtain ⟨o, e, _, d⟩ := (show h.IsListIter it a i from x)
    exact ⟨o, e, fun v q => by rw [d] at q; cases q⟩
  · obtain ⟨o, e, _, d⟩ := (show h.IsTupleIter it a i from x)
    exact ⟨o, e, fun v q => by rw [d] at q; cases q⟩
theorem SqIt.begin {h : Heap} {it : Addr} {p : Bool × Addr} (e : h.get? it = some (itO p)) : SqIt h it p 0 := by
  obtain ⟨b, a⟩ := p
  cases b
  · exact ⟨_, e, rfl, rfl⟩
  · exact ⟨_, e, rfl, rfl⟩
theorem begins_of (p : Bool × Addr) (its : List Value) : Begins (.ref p.2) (itO p) (fun h => SeqIs h p its) := by
  obtain ⟨b, a⟩ := p
  cases b
  · exact begins_list a its.toArray
  · exact begins_tuple a its.toArray
theorem draws_of {prog : Program} {w : World} {A : Around} (hh : A.handled = none) (it : Addr) (p : Bool × Addr) (ne : p.2 ≠ it) (its : List Value) :
    Draws prog w A it [it, p.2] its.toArray.size (fun i v => its.toArray[i]? = some v) (fun i h => SqIt h it p i ∧ SeqIs h p its) := by
  obtain ⟨b, a⟩ := p
  cases b
  · exact Draws.list hh it a ne its.toArray
  · exact Draws.tuple hh it a ne its.toArray
section
variable {X : Cx} {pins : List (Addr × Obj)} {σ : L2.St} {H : Hp} {s : Shared} {p : Bool × Addr} {xs ys : List V}
theorem sq_seq (I : Inv X pins σ H s) (h : SqK X.K H p xs) : ∃ its : List Value, Vals xs its ∧ SeqIs s.heap p its ∧ p.2 < s.heap.objs.size := by
  obtain ⟨b, a⟩ := p
  cases b
  · obtain ⟨its, rv, q, _⟩ := I.list (show SqL X.K H a xs from h)
    exact ⟨its, rv, q.isList, q.lt⟩
  · obtain ⟨its, rv, q, _⟩ := I.tuple (show SqT X.K H a xs from h)
    obtain ⟨o, ho, _⟩ := id q
    exact ⟨its, rv, q, Heap.lt_size ho⟩
theorem sq_inj (I : Inv X pins σ H s) (h : SqK X.K H p xs) (h2 : SqK X.K H p ys) : xs = ys := by
  obtain ⟨b, a⟩ := p
  cases b
  · exact I.list_inj (show SqL X.K H a xs from h) h2
  · exact I.tuple_inj (show SqT X.K H a xs from h) h2
end
/-- what a zip of lists and tuples of one length gives -/
def ItZ (K : PySem.W.Frag) (l : List (Bool × Addr)) : It :=
  ⟨fun i H => ∃ vs : List V, Paired (fun p v => ∃ xs, SqK K H p xs ∧ xs[i]? = some v) l vs,
    fun i H v H2 => ∃ (T : Addr) (vs : List V), v = .ref T ∧ H T = none ∧ H2 = upd H T (.tup vs) ∧ Paired (fun p v => ∀ xs, SqK K H p xs → xs[i]? = some v) l vs,
    fun i H => ∀ p ∈ l, ∃ xs, SqK K H p xs ∧ xs.length = i⟩
def YRow (xss : List (List V)) : Nat → Hp → V → Hp → Prop := fun i H v H2 => ∃ (T : Addr) (vs : List V), v = .ref T ∧ H T = none ∧ H2 = upd H T (.tup vs) ∧ Paired (fun (xs : List V) v => xs[i]? = some v) xss vs
theorem pair_go {K : PySem.W.Frag} {H : Hp} {i : Nat} : ∀ {l : List (Bool × Addr)} {xss : List (List V)}, Paired (fun p xs => SqK K H p xs) l xss → (∀ xs ∈ xss, i < xs.length) → ∃ vs, Paired (fun p v => ∃ xs, SqK K H p xs ∧ xs[i]? = some v) l vs
  | _, _, .nil, _ => ⟨[], .nil⟩
  | _, _, .cons (b := xs) r t, h => by
    obtain ⟨vs, q⟩ := pair_go t fun ys hy => h ys (List.mem_cons_of_mem _ hy)
    have hi := h xs List.mem_cons_self
    exact ⟨xs[i] :: vs, .cons ⟨xs, r, List.getElem?_eq_getElem hi⟩ q⟩
theorem pair_row {K : PySem.W.Frag} {H : Hp} {i : Nat} : ∀ {l : List (Bool × Addr)} {xss : List (List V)} {vs : List V}, Paired (fun p xs => SqK K H p xs) l xss → Paired (fun p v => ∀ xs, SqK K H p xs → xs[i]? = some v) l vs → Paired (fun (xs : List V) v => xs[i]? = some v) xss vs
  | _, _, _, .nil, .nil => .nil
  | _, _, _, .cons r t, .cons q u => .cons (q _ r) (pair_row t u)
theorem pair_stop {K : PySem.W.Frag} {H : Hp} {n : Nat} : ∀ {l : List (Bool × Addr)} {xss : List (List V)}, Paired (fun p xs => SqK K H p xs) l xss → (∀ xs ∈ xss, xs.length = n) → ∀ p ∈ l, ∃ xs, SqK K H p xs ∧ xs.length = n
  | _, _, .nil, _, _, hp => nomatch hp
  | _, _, .cons r t, h, p, hp => by
    rcases List.mem_cons.mp hp with e | hp
    · rw [e]
      exact ⟨_, r, h _ List.mem_cons_self⟩
    · exact pair_stop t (fun ys hy => h ys (List.mem_cons_of_mem _ hy)) p hp
theorem walk_rows {K : PySem.W.Frag} {l : List (Bool × Addr)} {xss : List (List V)} {n : Nat} (hn : ∀ xs ∈ xss, xs.length = n) : Walk (ItZ K l) n (fun H => Paired (fun p xs => SqK K H p xs) l xss) (YRow xss) :=
  ⟨fun i H hi q => pair_go q fun xs hx => by rw [hn xs hx]; exact hi, fun H q => pair_stop q hn, fun i H x H2 _ q y => by
    obtain ⟨T, vs, h1, h2, h3, h4⟩ := y
    exact ⟨T, vs, h1, h2, h3, pair_row q h4⟩⟩
/-- the reading of zip(..): which are tuples is told by the flags -/
def iZ (K : PySem.W.Frag) (fl : List Bool) (ta : TA) : TI := fun σ H R => ta σ H fun vs H1 => ∃ l : List Addr, vs = l.map V.ref ∧ l.length = fl.length ∧ (∀ p ∈ fl.zip l, ∃ xs, SqK K H1 p xs) ∧ R (ItZ K (fl.zip l)) H1
theorem nin_new {M a : Nat} (j k : Nat) (h : a < M) (hjk : j ≠ k) : M + j ∉ [M + k, a] := by
  simp only [List.mem_cons, List.mem_nil_iff, or_false, not_or]
  omega
theorem looks_ty {M : Model} {h : Heap} (T : String) (_ : True) : ∃ k, (k = Keeper.frame ∨ k = Keeper.machine ∨ k = Keeper.boundFrame) ∧ PySem.W.Looks M h (keeperOf (.type T)) k := ⟨_, .inr (.inl rfl), PySem.W.Looks.of_pure rfl⟩
end CZ

namespace CZ
open PySem PySem.Spec PyProof.Rows L2
theorem turn_z2 {P : Program} {w : World} {K : PySem.W.Frag} {elts : List Expr} {kk : Nat} {tpos : Pos} {z TI TO i1 i2 : Addr} {p1 p2 : Bool × Addr} {b : Bool} (S : Sep2 z TI TO i1 i2 [i1, p1.2] [i2, p2.2]) (ne1 : p1.2 ≠ i1) (ne2 : p2.2 ≠ i2) :
    Turn P w K (.Tuple elts kk tpos) (ItZ K [p1, p2]) [z, TI, TO, i1, i2] z (fun i h => ZipO h z TI TO .none b ∧ TupO h TI #[.ref i1, .ref i2] ∧ (∃ a1 a2, TupO h TO #[a1, a2]) ∧ SqIt h i1 p1 i ∧ SqIt h i2 p2 i) where
  mem := by simp
  obj := fun i h st c hc => by
    obtain ⟨hz, hTI, ⟨a1, a2, hTO⟩, h1, h2⟩ := st
    have e : c = z ∨ c = TI ∨ c = TO ∨ c = i1 ∨ c = i2 := by simpa using hc
    rcases e with q | q | q | q | q
    · rw [q]; exact ⟨_, hz, fun v q => nomatch q⟩
    · rw [q]; exact ⟨_, hTI, fun v q => nomatch q⟩
    · rw [q]; exact ⟨_, hTO, fun v q => nomatch q⟩
    · rw [q]; exact h1.obj
    · rw [q]; exact h2.obj
  keep := fun i h h2 st k => by
    obtain ⟨hz, hTI, ⟨a1, a2, hTO⟩, h1, h2⟩ := st
    exact ⟨k z (by simp) _ hz, k TI (by simp) _ hTI, ⟨a1, a2, k TO (by simp) _ hTO⟩, h1.at fun o q => k i1 (by simp) o q, h2.at fun o q => k i2 (by simp) o q⟩
  item := by
    intro X hP hw hK hc i pins s σ H E I hf st hg
    subst hP hw hK
    obtain ⟨hz, hTI, ⟨a1, a2, hTO⟩, h1, h2⟩ := st
    obtain ⟨vs, hv⟩ := hg
    cases hv with
    | cons r1 hv1 =>
      rename_i v1 ws1
      obtain ⟨xs1, hq1, hx1⟩ := r1
      obtain ⟨its1, rv1, q1, _⟩ := sq_seq I hq1
      obtain ⟨u1, hu1, ru1⟩ := rv1.get hx1
      have g1 : its1.toArray[i]? = some u1 := by simpa using hu1
      have l1 : i < its1.toArray.size := by have := (List.getElem?_eq_some_iff.mp hu1).1; simpa using this
      cases hv1 with
      | cons r2 hv2 =>
        rename_i v2 ws2
        obtain ⟨xs2, hq2, hx2⟩ := r2
        obtain ⟨its2, rv2, q2, _⟩ := sq_seq I hq2
        obtain ⟨u2, hu2, ru2⟩ := rv2.get hx2
        have g2 : its2.toArray[i]? = some u2 := by simpa using hu2
        have l2 : i < its2.toArray.size := by have := (List.getElem?_eq_some_iff.mp hu2).1; simpa using this
        cases hv2
        have hzl : z < s.heap.objs.size := Heap.lt_size hz
        refine py_item2 S (draws_of (A := X.A.in1) (I.ok.hd hc) i1 p1 ne1 its1) (draws_of (A := X.A.in1) (I.ok.hd hc) i2 p2 ne2 its2) hz hTI hTO ⟨h1, q1⟩ ⟨h2, q2⟩ l1 l2 fun x1 x2 hA tk y1 y2 z2 TO2 n1 n2 hT hk => ?_
        obtain rfl : u1 = x1 := Option.some.inj (g1.symm.trans y1)
        obtain rfl : u2 = x2 := Option.some.inj (g2.symm.trans y2)
        refine ⟨_, rfl, go_zip (s := { s with heap := hA, toks := tk }) z2 fun hB z3 sb => ?_⟩
        replace sb : Heap.SameBut z hA hB := sb
        have hT2 : hB.get? s.heap.objs.size = some { cls := .type "tuple", data := .seq #[u1, u2] } := (sb.2 _ (Nat.ne_of_gt hzl)).trans hT
        have new : ObjOk X.prog X.w (upd H s.heap.objs.size (.tup [v1, v2])) hB s.heap.objs.size (.tup [v1, v2]) := ⟨by show 2 ≤ sizeLine; decide, [u1, u2], (.cons ru1 (.cons ru2 .nil)), ⟨_, hT2, rfl, _, rfl⟩⟩
        have I1 : Inv X pins σ (upd H s.heap.objs.size (.tup [v1, v2])) { s with heap := hB, toks := tk } := I.turnedNew (t' := tk) (ch := [z, TI, TO, i1, i2]) (fun c o hb q => (sb.2 c (fun q => hb (by simp [q]))).trans (hk c o (fun q => hb (by simp [q])) (fun q => hb (by simp [q])) (fun q => hb (by simp [q])) (fun q => hb (by simp [q])) q)) hf (Nat.le_refl _) new
        refine ⟨.ref s.heap.objs.size, _, I1, rfl, ⟨_, _, rfl, I.hok.fresh (Nat.le_refl _), rfl, (.cons (fun l hl => by rw [sq_inj I hl hq1]; exact hx1) (.cons (fun l hl => by rw [sq_inj I hl hq2]; exact hx2) .nil))⟩, ⟨z3, (sb.2 _ S.zTI.symm).trans (hk _ _ S.zTI.symm S.TOTI.symm S.I1 S.I2 hTI), ⟨u1, u2, (sb.2 _ S.zTO.symm).trans TO2⟩, (n1.1.at fun o q => (sb.2 _ (fun q => S.z1 (by rw [← q]; exact S.m1))).trans q), (n2.1.at fun o q => (sb.2 _ (fun q => S.z2 (by rw [← q]; exact S.m2))).trans q)⟩, fun c hcm => ?_⟩
        have hlt : c < s.heap.objs.size := by
          have e : c = z ∨ c = TI ∨ c = TO ∨ c = i1 ∨ c = i2 := by simpa using hcm
          rcases e with q | q | q | q | q
          · rw [q]; exact hzl
          · rw [q]; exact Heap.lt_size hTI
          · rw [q]; exact Heap.lt_size hTO
          · rw [q]; obtain ⟨_, e1, _⟩ := h1.obj; exact Heap.lt_size e1
          · rw [q]; obtain ⟨_, e1, _⟩ := h2.obj; exact Heap.lt_size e1
        rw [upd_ne (Nat.ne_of_lt hlt)]
        exact (hf c hcm).1
  done := by
    intro X hP hw hK hc i pins s σ H E I hf st hg
    subst hP hw hK
    obtain ⟨hz, hTI, ⟨a1, a2, hTO⟩, h1, h2⟩ := st
    obtain ⟨xs1, hq1, hx1⟩ := hg p1 (by simp)
    obtain ⟨its1, rv1, q1, _⟩ := sq_seq I hq1
    have l1 : its1.toArray.size = i := by have := rv1.length; simp; omega
    have D1 := draws_of (prog := X.prog) (w := X.w) (A := X.A.in1) (I.ok.hd hc) i1 p1 ne1 its1
    rw [l1] at D1
    obtain ⟨xs2, hq2, hx2⟩ := hg p2 (by simp)
    obtain ⟨its2, rv2, q2, _⟩ := sq_seq I hq2
    have l2 : its2.toArray.size = i := by have := rv2.length; simp; omega
    have D2 := draws_of (prog := X.prog) (w := X.w) (A := X.A.in1) (I.ok.hd hc) i2 p2 ne2 its2
    rw [l2] at D2
    exact py_end2 (I.ok.hd hc) S D1 D2 hz hTI hTO ⟨h1, q1⟩ ⟨h2, q2⟩ fun h2 hk => ⟨rfl, I.turnedL (t' := s.toks) (ch := [z, TI, TO, i1, i2]) (fun c o hb q => hk c o (fun q => hb (by simp [q])) (fun q => hb (by simp [q])) (fun q => hb (by simp [q])) (fun q => hb (by simp [q])) q) hf⟩
  self := fun A i s Q E st h => iter_zip st.1 h
theorem sep_new2 {M : Nat} {p1 p2 : Bool × Addr} (h1 : p1.2 < M) (h2 : p2.2 < M) : Sep2 (M + 4) (M + 2) (M + 3) M (M + 1) [M, p1.2] [M + 1, p2.2] where
  zTO := by show (M + 4 : Nat) ≠ M + 3; omega
  zTI := by show (M + 4 : Nat) ≠ M + 2; omega
  TOTI := by show (M + 3 : Nat) ≠ M + 2; omega
  m1 := by simp
  z1 := nin_new (a := p1.2) 4 0 h1 (by decide)
  T1 := nin_new (a := p1.2) 3 0 h1 (by decide)
  I1 := by show (M + 2 : Nat) ≠ M; omega
  s2_1 := nin_new (a := p1.2) 1 0 h1 (by decide)
  m2 := by simp
  z2 := nin_new (a := p2.2) 4 1 h2 (by decide)
  T2 := nin_new (a := p2.2) 3 1 h2 (by decide)
  I2 := by show (M + 2 : Nat) ≠ M + 1; omega
  s1_2 := nin_new (a := p2.2) 0 1 h2 (by decide)
theorem pi_z2s {X : Cx} {e1 e2 : Expr} {ta : TA} {p pos tpos : Pos} {elts : List Expr} {kk : Nat} {jj : Nat} {kp kp2 : Pos} {fl : List Bool} (hfl : fl.length = 2) (hg : Gl X "zip") (hm : X.mg "zip" = none) (ha : PA X [e1, e2] ta)
    (hs : starEach [e1, e2] X.env = (false, eval e1 X.env) :: starEach [e2] X.env := by rfl) (hpl : (backTo pos (starEach [e2] X.env)).any (·.1) = false := by rfl) :
    PI X (.Tuple elts kk tpos) (.Call (.Name "zip" p) [e1, e2] [⟨some "strict", .Constant (.bool true) jj kp, kp2⟩] pos) (iZ X.K fl ta) := by
  refine ⟨fun pins s σ H R I h => ?_⟩
  refine wpAny_Call_Name_kw (ld_blt I hg hm PyProof.Rows.boot_zip ?_)
  refine PySem.W.callWith_of (P := fun _ => True) ?_ (fun h _ => looks_ty "zip" True.intro) ?_
  · show ((backTo pos (starEach _ X.env)).any (·.1) || false) = false
    rw [hs, Bool.or_false]
    exact hpl
  have he : backTo pos (starEach [e1, e2] X.env) = (false, eval e1 X.env) :: backTo pos (starEach [e2] X.env) := by rw [hs]; rfl
  rw [he]
  refine PyProof.Rows.evalArgs_kwB rfl ?_
  rw [← he]
  refine thn (ha.run pos pins s σ H _ I h) fun us s0 ⟨vs, H1, I0, r1, q1⟩ => ?_
  refine PyProof.Rows.kws_cons (Constant_bool (PyProof.Rows.kws_nil ⟨True.intro, ?_⟩))
  have I1 := I0
  obtain ⟨l, ev, el, hl, q1⟩ := q1
  subst ev
  obtain ⟨b1, b2, rfl⟩ : ∃ b1 b2 : Bool, fl = [b1, b2] := match fl, hfl with | [_, _], _ => ⟨_, _, rfl⟩
  obtain ⟨c1, c2, rfl⟩ : ∃ c1 c2 : Addr, l = [c1, c2] := match l, el with | [_, _], _ => ⟨_, _, rfl⟩
  cases r1 with
  | cons r_1 rr1 =>
    cases r_1
    cases rr1 with
    | cons r_2 rr2 =>
      cases r_2
      cases rr2
      obtain ⟨xs1, hq1⟩ := hl (b1, c1) (by simp)
      obtain ⟨its1, rv1, g1, lt1⟩ := sq_seq I1 hq1
      obtain ⟨xs2, hq2⟩ := hl (b2, c2) (by simp)
      obtain ⟨its2, rv2, g2, lt2⟩ := sq_seq I1 hq2
      have frs : ∀ c, c ∈ [s0.heap.objs.size + 4, s0.heap.objs.size + 2, s0.heap.objs.size + 3, s0.heap.objs.size, s0.heap.objs.size + 1] → FpOk X pins H1 c := fun c hcm => by
        have e : c = s0.heap.objs.size + 4 ∨ c = s0.heap.objs.size + 2 ∨ c = s0.heap.objs.size + 3 ∨ c = s0.heap.objs.size ∨ c = s0.heap.objs.size + 1 := by simpa using hcm
        have hle : s0.heap.objs.size ≤ c := by
          rcases e with q | q | q | q | q
          · rw [q]; exact Nat.le_add_right _ _
          · rw [q]; exact Nat.le_add_right _ _
          · rw [q]; exact Nat.le_add_right _ _
          · rw [q]; exact Nat.le_refl _
          · rw [q]; exact Nat.le_add_right _ _
        exact I1.fpOk hle (I1.hok.fresh hle)
      refine begins_strict2 (begins_of (b1, c1) its1) (begins_of (b2, c2) its2) g1 g2 fun hA hz hTI hTO y1 y2 kk => iter_zip hz ?_
      have I2 : Inv X pins σ H1 { s0 with heap := hA } := I1.kept (t' := s0.toks) kk
      exact ⟨_, [s0.heap.objs.size + 4, s0.heap.objs.size + 2, s0.heap.objs.size + 3, s0.heap.objs.size, s0.heap.objs.size + 1], _, _, H1, rfl, I2, turn_z2 (sep_new2 lt1 lt2) (Nat.ne_of_lt lt1) (Nat.ne_of_lt (Nat.lt_of_lt_of_le lt2 (Nat.le_add_right _ 1))), ⟨hz, hTI, ⟨_, _, hTO⟩, SqIt.begin y1, SqIt.begin y2⟩, frs, q1⟩
theorem pi_z2 {X : Cx} {e1 e2 : Expr} {ta : TA} {p pos tpos : Pos} {elts : List Expr} {kk : Nat} {fl : List Bool} (hfl : fl.length = 2) (hg : Gl X "zip") (hm : X.mg "zip" = none) (ha : PA X [e1, e2] ta)
    (hs : starEach [e1, e2] X.env = (false, eval e1 X.env) :: starEach [e2] X.env := by rfl) (hpl : (backTo pos (starEach [e2] X.env)).any (·.1) = false := by rfl) :
    PI X (.Tuple elts kk tpos) (.Call (.Name "zip" p) [e1, e2] [] pos) (iZ X.K fl ta) := by
  refine ⟨fun pins s σ H R I h => ?_⟩
  refine Call_ (ld_blt I hg hm PyProof.Rows.boot_zip (PyProof.Rows.callWith_type1 (thn (ha.run pos pins s σ H _ I h) fun us s0 ⟨vs, H1, I1, r1, q1⟩ => ?_) hs hpl))
  obtain ⟨l, ev, el, hl, q1⟩ := q1
  subst ev
  obtain ⟨b1, b2, rfl⟩ : ∃ b1 b2 : Bool, fl = [b1, b2] := match fl, hfl with | [_, _], _ => ⟨_, _, rfl⟩
  obtain ⟨c1, c2, rfl⟩ : ∃ c1 c2 : Addr, l = [c1, c2] := match l, el with | [_, _], _ => ⟨_, _, rfl⟩
  cases r1 with
  | cons r_1 rr1 =>
    cases r_1
    cases rr1 with
    | cons r_2 rr2 =>
      cases r_2
      cases rr2
      obtain ⟨xs1, hq1⟩ := hl (b1, c1) (by simp)
      obtain ⟨its1, rv1, g1, lt1⟩ := sq_seq I1 hq1
      obtain ⟨xs2, hq2⟩ := hl (b2, c2) (by simp)
      obtain ⟨its2, rv2, g2, lt2⟩ := sq_seq I1 hq2
      have frs : ∀ c, c ∈ [s0.heap.objs.size + 4, s0.heap.objs.size + 2, s0.heap.objs.size + 3, s0.heap.objs.size, s0.heap.objs.size + 1] → FpOk X pins H1 c := fun c hcm => by
        have e : c = s0.heap.objs.size + 4 ∨ c = s0.heap.objs.size + 2 ∨ c = s0.heap.objs.size + 3 ∨ c = s0.heap.objs.size ∨ c = s0.heap.objs.size + 1 := by simpa using hcm
        have hle : s0.heap.objs.size ≤ c := by
          rcases e with q | q | q | q | q
          · rw [q]; exact Nat.le_add_right _ _
          · rw [q]; exact Nat.le_add_right _ _
          · rw [q]; exact Nat.le_add_right _ _
          · rw [q]; exact Nat.le_refl _
          · rw [q]; exact Nat.le_add_right _ _
        exact I1.fpOk hle (I1.hok.fresh hle)
      refine zip_begins2 (begins_of (b1, c1) its1) (begins_of (b2, c2) its2) g1 g2 fun hA hz hTI hTO y1 y2 _ kk => iter_zip (b := false) hz ?_
      have I2 : Inv X pins σ H1 { s0 with heap := hA } := I1.kept (t' := s0.toks) kk
      exact ⟨_, [s0.heap.objs.size + 4, s0.heap.objs.size + 2, s0.heap.objs.size + 3, s0.heap.objs.size, s0.heap.objs.size + 1], _, _, H1, rfl, I2, turn_z2 (sep_new2 lt1 lt2) (Nat.ne_of_lt lt1) (Nat.ne_of_lt (Nat.lt_of_lt_of_le lt2 (Nat.le_add_right _ 1))), ⟨hz, hTI, ⟨_, _, hTO⟩, SqIt.begin y1, SqIt.begin y2⟩, frs, q1⟩
theorem turn_z3 {P : Program} {w : World} {K : PySem.W.Frag} {elts : List Expr} {kk : Nat} {tpos : Pos} {z TI TO i1 i2 i3 : Addr} {p1 p2 p3 : Bool × Addr} {b : Bool} (S : Sep3 z TI TO i1 i2 i3 [i1, p1.2] [i2, p2.2] [i3, p3.2]) (ne1 : p1.2 ≠ i1) (ne2 : p2.2 ≠ i2) (ne3 : p3.2 ≠ i3) :
    Turn P w K (.Tuple elts kk tpos) (ItZ K [p1, p2, p3]) [z, TI, TO, i1, i2, i3] z (fun i h => ZipO h z TI TO .none b ∧ TupO h TI #[.ref i1, .ref i2, .ref i3] ∧ (∃ a1 a2 a3, TupO h TO #[a1, a2, a3]) ∧ SqIt h i1 p1 i ∧ SqIt h i2 p2 i ∧ SqIt h i3 p3 i) where
  mem := by simp
  obj := fun i h st c hc => by
    obtain ⟨hz, hTI, ⟨a1, a2, a3, hTO⟩, h1, h2, h3⟩ := st
    have e : c = z ∨ c = TI ∨ c = TO ∨ c = i1 ∨ c = i2 ∨ c = i3 := by simpa using hc
    rcases e with q | q | q | q | q | q
    · rw [q]; exact ⟨_, hz, fun v q => nomatch q⟩
    · rw [q]; exact ⟨_, hTI, fun v q => nomatch q⟩
    · rw [q]; exact ⟨_, hTO, fun v q => nomatch q⟩
    · rw [q]; exact h1.obj
    · rw [q]; exact h2.obj
    · rw [q]; exact h3.obj
  keep := fun i h h2 st k => by
    obtain ⟨hz, hTI, ⟨a1, a2, a3, hTO⟩, h1, h2, h3⟩ := st
    exact ⟨k z (by simp) _ hz, k TI (by simp) _ hTI, ⟨a1, a2, a3, k TO (by simp) _ hTO⟩, h1.at fun o q => k i1 (by simp) o q, h2.at fun o q => k i2 (by simp) o q, h3.at fun o q => k i3 (by simp) o q⟩
  item := by
    intro X hP hw hK hc i pins s σ H E I hf st hg
    subst hP hw hK
    obtain ⟨hz, hTI, ⟨a1, a2, a3, hTO⟩, h1, h2, h3⟩ := st
    obtain ⟨vs, hv⟩ := hg
    cases hv with
    | cons r1 hv1 =>
      rename_i v1 ws1
      obtain ⟨xs1, hq1, hx1⟩ := r1
      obtain ⟨its1, rv1, q1, _⟩ := sq_seq I hq1
      obtain ⟨u1, hu1, ru1⟩ := rv1.get hx1
      have g1 : its1.toArray[i]? = some u1 := by simpa using hu1
      have l1 : i < its1.toArray.size := by have := (List.getElem?_eq_some_iff.mp hu1).1; simpa using this
      cases hv1 with
      | cons r2 hv2 =>
        rename_i v2 ws2
        obtain ⟨xs2, hq2, hx2⟩ := r2
        obtain ⟨its2, rv2, q2, _⟩ := sq_seq I hq2
        obtain ⟨u2, hu2, ru2⟩ := rv2.get hx2
        have g2 : its2.toArray[i]? = some u2 := by simpa using hu2
        have l2 : i < its2.toArray.size := by have := (List.getElem?_eq_some_iff.mp hu2).1; simpa using this
        cases hv2 with
        | cons r3 hv3 =>
          rename_i v3 ws3
          obtain ⟨xs3, hq3, hx3⟩ := r3
          obtain ⟨its3, rv3, q3, _⟩ := sq_seq I hq3
          obtain ⟨u3, hu3, ru3⟩ := rv3.get hx3
          have g3 : its3.toArray[i]? = some u3 := by simpa using hu3
          have l3 : i < its3.toArray.size := by have := (List.getElem?_eq_some_iff.mp hu3).1; simpa using this
          cases hv3
          have hzl : z < s.heap.objs.size := Heap.lt_size hz
          refine py_item3 S (draws_of (A := X.A.in1) (I.ok.hd hc) i1 p1 ne1 its1) (draws_of (A := X.A.in1) (I.ok.hd hc) i2 p2 ne2 its2) (draws_of (A := X.A.in1) (I.ok.hd hc) i3 p3 ne3 its3) hz hTI hTO ⟨h1, q1⟩ ⟨h2, q2⟩ ⟨h3, q3⟩ l1 l2 l3 fun x1 x2 x3 hA tk y1 y2 y3 z2 TO2 n1 n2 n3 hT hk => ?_
          obtain rfl : u1 = x1 := Option.some.inj (g1.symm.trans y1)
          obtain rfl : u2 = x2 := Option.some.inj (g2.symm.trans y2)
          obtain rfl : u3 = x3 := Option.some.inj (g3.symm.trans y3)
          refine ⟨_, rfl, go_zip (s := { s with heap := hA, toks := tk }) z2 fun hB z3 sb => ?_⟩
          replace sb : Heap.SameBut z hA hB := sb
          have hT2 : hB.get? s.heap.objs.size = some { cls := .type "tuple", data := .seq #[u1, u2, u3] } := (sb.2 _ (Nat.ne_of_gt hzl)).trans hT
          have new : ObjOk X.prog X.w (upd H s.heap.objs.size (.tup [v1, v2, v3])) hB s.heap.objs.size (.tup [v1, v2, v3]) := ⟨by show 3 ≤ sizeLine; decide, [u1, u2, u3], (.cons ru1 (.cons ru2 (.cons ru3 .nil))), ⟨_, hT2, rfl, _, rfl⟩⟩
          have I1 : Inv X pins σ (upd H s.heap.objs.size (.tup [v1, v2, v3])) { s with heap := hB, toks := tk } := I.turnedNew (t' := tk) (ch := [z, TI, TO, i1, i2, i3]) (fun c o hb q => (sb.2 c (fun q => hb (by simp [q]))).trans (hk c o (fun q => hb (by simp [q])) (fun q => hb (by simp [q])) (fun q => hb (by simp [q])) (fun q => hb (by simp [q])) (fun q => hb (by simp [q])) q)) hf (Nat.le_refl _) new
          refine ⟨.ref s.heap.objs.size, _, I1, rfl, ⟨_, _, rfl, I.hok.fresh (Nat.le_refl _), rfl, (.cons (fun l hl => by rw [sq_inj I hl hq1]; exact hx1) (.cons (fun l hl => by rw [sq_inj I hl hq2]; exact hx2) (.cons (fun l hl => by rw [sq_inj I hl hq3]; exact hx3) .nil)))⟩, ⟨z3, (sb.2 _ S.zTI.symm).trans (hk _ _ S.zTI.symm S.TOTI.symm S.I1 S.I2 S.I3 hTI), ⟨u1, u2, u3, (sb.2 _ S.zTO.symm).trans TO2⟩, (n1.1.at fun o q => (sb.2 _ (fun q => S.z1 (by rw [← q]; exact S.m1))).trans q), (n2.1.at fun o q => (sb.2 _ (fun q => S.z2 (by rw [← q]; exact S.m2))).trans q), (n3.1.at fun o q => (sb.2 _ (fun q => S.z3 (by rw [← q]; exact S.m3))).trans q)⟩, fun c hcm => ?_⟩
          have hlt : c < s.heap.objs.size := by
            have e : c = z ∨ c = TI ∨ c = TO ∨ c = i1 ∨ c = i2 ∨ c = i3 := by simpa using hcm
            rcases e with q | q | q | q | q | q
            · rw [q]; exact hzl
            · rw [q]; exact Heap.lt_size hTI
            · rw [q]; exact Heap.lt_size hTO
            · rw [q]; obtain ⟨_, e1, _⟩ := h1.obj; exact Heap.lt_size e1
            · rw [q]; obtain ⟨_, e1, _⟩ := h2.obj; exact Heap.lt_size e1
            · rw [q]; obtain ⟨_, e1, _⟩ := h3.obj; exact Heap.lt_size e1
          rw [upd_ne (Nat.ne_of_lt hlt)]
          exact (hf c hcm).1
  done := by
    intro X hP hw hK hc i pins s σ H E I hf st hg
    subst hP hw hK
    obtain ⟨hz, hTI, ⟨a1, a2, a3, hTO⟩, h1, h2, h3⟩ := st
    obtain ⟨xs1, hq1, hx1⟩ := hg p1 (by simp)
    obtain ⟨its1, rv1, q1, _⟩ := sq_seq I hq1
    have l1 : its1.toArray.size = i := by have := rv1.length; simp; omega
    have D1 := draws_of (prog := X.prog) (w := X.w) (A := X.A.in1) (I.ok.hd hc) i1 p1 ne1 its1
    rw [l1] at D1
    obtain ⟨xs2, hq2, hx2⟩ := hg p2 (by simp)
    obtain ⟨its2, rv2, q2, _⟩ := sq_seq I hq2
    have l2 : its2.toArray.size = i := by have := rv2.length; simp; omega
    have D2 := draws_of (prog := X.prog) (w := X.w) (A := X.A.in1) (I.ok.hd hc) i2 p2 ne2 its2
    rw [l2] at D2
    obtain ⟨xs3, hq3, hx3⟩ := hg p3 (by simp)
    obtain ⟨its3, rv3, q3, _⟩ := sq_seq I hq3
    have l3 : its3.toArray.size = i := by have := rv3.length; simp; omega
    have D3 := draws_of (prog := X.prog) (w := X.w) (A := X.A.in1) (I.ok.hd hc) i3 p3 ne3 its3
    rw [l3] at D3
    exact py_end3 (I.ok.hd hc) S D1 D2 D3 hz hTI hTO ⟨h1, q1⟩ ⟨h2, q2⟩ ⟨h3, q3⟩ fun h2 hk => ⟨rfl, I.turnedL (t' := s.toks) (ch := [z, TI, TO, i1, i2, i3]) (fun c o hb q => hk c o (fun q => hb (by simp [q])) (fun q => hb (by simp [q])) (fun q => hb (by simp [q])) (fun q => hb (by simp [q])) (fun q => hb (by simp [q])) q) hf⟩
  self := fun A i s Q E st h => iter_zip st.1 h
theorem sep_new3 {M : Nat} {p1 p2 p3 : Bool × Addr} (h1 : p1.2 < M) (h2 : p2.2 < M) (h3 : p3.2 < M) : Sep3 (M + 5) (M + 3) (M + 4) M (M + 1) (M + 2) [M, p1.2] [M + 1, p2.2] [M + 2, p3.2] where
  zTO := by show (M + 5 : Nat) ≠ M + 4; omega
  zTI := by show (M + 5 : Nat) ≠ M + 3; omega
  TOTI := by show (M + 4 : Nat) ≠ M + 3; omega
  m1 := by simp
  z1 := nin_new (a := p1.2) 5 0 h1 (by decide)
  T1 := nin_new (a := p1.2) 4 0 h1 (by decide)
  I1 := by show (M + 3 : Nat) ≠ M; omega
  s2_1 := nin_new (a := p1.2) 1 0 h1 (by decide)
  s3_1 := nin_new (a := p1.2) 2 0 h1 (by decide)
  m2 := by simp
  z2 := nin_new (a := p2.2) 5 1 h2 (by decide)
  T2 := nin_new (a := p2.2) 4 1 h2 (by decide)
  I2 := by show (M + 3 : Nat) ≠ M + 1; omega
  s1_2 := nin_new (a := p2.2) 0 1 h2 (by decide)
  s3_2 := nin_new (a := p2.2) 2 1 h2 (by decide)
  m3 := by simp
  z3 := nin_new (a := p3.2) 5 2 h3 (by decide)
  T3 := nin_new (a := p3.2) 4 2 h3 (by decide)
  I3 := by show (M + 3 : Nat) ≠ M + 2; omega
  s1_3 := nin_new (a := p3.2) 0 2 h3 (by decide)
  s2_3 := nin_new (a := p3.2) 1 2 h3 (by decide)
theorem pi_z3s {X : Cx} {e1 e2 e3 : Expr} {ta : TA} {p pos tpos : Pos} {elts : List Expr} {kk : Nat} {jj : Nat} {kp kp2 : Pos} {fl : List Bool} (hfl : fl.length = 3) (hg : Gl X "zip") (hm : X.mg "zip" = none) (ha : PA X [e1, e2, e3] ta)
    (hs : starEach [e1, e2, e3] X.env = (false, eval e1 X.env) :: starEach [e2, e3] X.env := by rfl) (hpl : (backTo pos (starEach [e2, e3] X.env)).any (·.1) = false := by rfl) :
    PI X (.Tuple elts kk tpos) (.Call (.Name "zip" p) [e1, e2, e3] [⟨some "strict", .Constant (.bool true) jj kp, kp2⟩] pos) (iZ X.K fl ta) := by
  refine ⟨fun pins s σ H R I h => ?_⟩
  refine wpAny_Call_Name_kw (ld_blt I hg hm PyProof.Rows.boot_zip ?_)
  refine PySem.W.callWith_of (P := fun _ => True) ?_ (fun h _ => looks_ty "zip" True.intro) ?_
  · show ((backTo pos (starEach _ X.env)).any (·.1) || false) = false
    rw [hs, Bool.or_false]
    exact hpl
  have he : backTo pos (starEach [e1, e2, e3] X.env) = (false, eval e1 X.env) :: backTo pos (starEach [e2, e3] X.env) := by rw [hs]; rfl
  rw [he]
  refine PyProof.Rows.evalArgs_kwB rfl ?_
  rw [← he]
  refine thn (ha.run pos pins s σ H _ I h) fun us s0 ⟨vs, H1, I0, r1, q1⟩ => ?_
  refine PyProof.Rows.kws_cons (Constant_bool (PyProof.Rows.kws_nil ⟨True.intro, ?_⟩))
  have I1 := I0
  obtain ⟨l, ev, el, hl, q1⟩ := q1
  subst ev
  obtain ⟨b1, b2, b3, rfl⟩ : ∃ b1 b2 b3 : Bool, fl = [b1, b2, b3] := match fl, hfl with | [_, _, _], _ => ⟨_, _, _, rfl⟩
  obtain ⟨c1, c2, c3, rfl⟩ : ∃ c1 c2 c3 : Addr, l = [c1, c2, c3] := match l, el with | [_, _, _], _ => ⟨_, _, _, rfl⟩
  cases r1 with
  | cons r_1 rr1 =>
    cases r_1
    cases rr1 with
    | cons r_2 rr2 =>
      cases r_2
      cases rr2 with
      | cons r_3 rr3 =>
        cases r_3
        cases rr3
        obtain ⟨xs1, hq1⟩ := hl (b1, c1) (by simp)
        obtain ⟨its1, rv1, g1, lt1⟩ := sq_seq I1 hq1
        obtain ⟨xs2, hq2⟩ := hl (b2, c2) (by simp)
        obtain ⟨its2, rv2, g2, lt2⟩ := sq_seq I1 hq2
        obtain ⟨xs3, hq3⟩ := hl (b3, c3) (by simp)
        obtain ⟨its3, rv3, g3, lt3⟩ := sq_seq I1 hq3
        have frs : ∀ c, c ∈ [s0.heap.objs.size + 5, s0.heap.objs.size + 3, s0.heap.objs.size + 4, s0.heap.objs.size, s0.heap.objs.size + 1, s0.heap.objs.size + 2] → FpOk X pins H1 c := fun c hcm => by
          have e : c = s0.heap.objs.size + 5 ∨ c = s0.heap.objs.size + 3 ∨ c = s0.heap.objs.size + 4 ∨ c = s0.heap.objs.size ∨ c = s0.heap.objs.size + 1 ∨ c = s0.heap.objs.size + 2 := by simpa using hcm
          have hle : s0.heap.objs.size ≤ c := by
            rcases e with q | q | q | q | q | q
            · rw [q]; exact Nat.le_add_right _ _
            · rw [q]; exact Nat.le_add_right _ _
            · rw [q]; exact Nat.le_add_right _ _
            · rw [q]; exact Nat.le_refl _
            · rw [q]; exact Nat.le_add_right _ _
            · rw [q]; exact Nat.le_add_right _ _
          exact I1.fpOk hle (I1.hok.fresh hle)
        refine begins_strict3 (begins_of (b1, c1) its1) (begins_of (b2, c2) its2) (begins_of (b3, c3) its3) g1 g2 g3 fun hA hz hTI hTO y1 y2 y3 kk => iter_zip hz ?_
        have I2 : Inv X pins σ H1 { s0 with heap := hA } := I1.kept (t' := s0.toks) kk
        exact ⟨_, [s0.heap.objs.size + 5, s0.heap.objs.size + 3, s0.heap.objs.size + 4, s0.heap.objs.size, s0.heap.objs.size + 1, s0.heap.objs.size + 2], _, _, H1, rfl, I2, turn_z3 (sep_new3 lt1 lt2 lt3) (Nat.ne_of_lt lt1) (Nat.ne_of_lt (Nat.lt_of_lt_of_le lt2 (Nat.le_add_right _ 1))) (Nat.ne_of_lt (Nat.lt_of_lt_of_le lt3 (Nat.le_add_right _ 2))), ⟨hz, hTI, ⟨_, _, _, hTO⟩, SqIt.begin y1, SqIt.begin y2, SqIt.begin y3⟩, frs, q1⟩
theorem pi_z3 {X : Cx} {e1 e2 e3 : Expr} {ta : TA} {p pos tpos : Pos} {elts : List Expr} {kk : Nat} {fl : List Bool} (hfl : fl.length = 3) (hg : Gl X "zip") (hm : X.mg "zip" = none) (ha : PA X [e1, e2, e3] ta)
    (hs : starEach [e1, e2, e3] X.env = (false, eval e1 X.env) :: starEach [e2, e3] X.env := by rfl) (hpl : (backTo pos (starEach [e2, e3] X.env)).any (·.1) = false := by rfl) :
    PI X (.Tuple elts kk tpos) (.Call (.Name "zip" p) [e1, e2, e3] [] pos) (iZ X.K fl ta) := by
  refine ⟨fun pins s σ H R I h => ?_⟩
  refine Call_ (ld_blt I hg hm PyProof.Rows.boot_zip (PyProof.Rows.callWith_type1 (thn (ha.run pos pins s σ H _ I h) fun us s0 ⟨vs, H1, I1, r1, q1⟩ => ?_) hs hpl))
  obtain ⟨l, ev, el, hl, q1⟩ := q1
  subst ev
  obtain ⟨b1, b2, b3, rfl⟩ : ∃ b1 b2 b3 : Bool, fl = [b1, b2, b3] := match fl, hfl with | [_, _, _], _ => ⟨_, _, _, rfl⟩
  obtain ⟨c1, c2, c3, rfl⟩ : ∃ c1 c2 c3 : Addr, l = [c1, c2, c3] := match l, el with | [_, _, _], _ => ⟨_, _, _, rfl⟩
  cases r1 with
  | cons r_1 rr1 =>
    cases r_1
    cases rr1 with
    | cons r_2 rr2 =>
      cases r_2
      cases rr2 with
      | cons r_3 rr3 =>
        cases r_3
        cases rr3
        obtain ⟨xs1, hq1⟩ := hl (b1, c1) (by simp)
        obtain ⟨its1, rv1, g1, lt1⟩ := sq_seq I1 hq1
        obtain ⟨xs2, hq2⟩ := hl (b2, c2) (by simp)
        obtain ⟨its2, rv2, g2, lt2⟩ := sq_seq I1 hq2
        obtain ⟨xs3, hq3⟩ := hl (b3, c3) (by simp)
        obtain ⟨its3, rv3, g3, lt3⟩ := sq_seq I1 hq3
        have frs : ∀ c, c ∈ [s0.heap.objs.size + 5, s0.heap.objs.size + 3, s0.heap.objs.size + 4, s0.heap.objs.size, s0.heap.objs.size + 1, s0.heap.objs.size + 2] → FpOk X pins H1 c := fun c hcm => by
          have e : c = s0.heap.objs.size + 5 ∨ c = s0.heap.objs.size + 3 ∨ c = s0.heap.objs.size + 4 ∨ c = s0.heap.objs.size ∨ c = s0.heap.objs.size + 1 ∨ c = s0.heap.objs.size + 2 := by simpa using hcm
          have hle : s0.heap.objs.size ≤ c := by
            rcases e with q | q | q | q | q | q
            · rw [q]; exact Nat.le_add_right _ _
            · rw [q]; exact Nat.le_add_right _ _
            · rw [q]; exact Nat.le_add_right _ _
            · rw [q]; exact Nat.le_refl _
            · rw [q]; exact Nat.le_add_right _ _
            · rw [q]; exact Nat.le_add_right _ _
          exact I1.fpOk hle (I1.hok.fresh hle)
        refine zip_begins3 (begins_of (b1, c1) its1) (begins_of (b2, c2) its2) (begins_of (b3, c3) its3) g1 g2 g3 fun hA hz hTI hTO y1 y2 y3 _ kk => iter_zip (b := false) hz ?_
        have I2 : Inv X pins σ H1 { s0 with heap := hA } := I1.kept (t' := s0.toks) kk
        exact ⟨_, [s0.heap.objs.size + 5, s0.heap.objs.size + 3, s0.heap.objs.size + 4, s0.heap.objs.size, s0.heap.objs.size + 1, s0.heap.objs.size + 2], _, _, H1, rfl, I2, turn_z3 (sep_new3 lt1 lt2 lt3) (Nat.ne_of_lt lt1) (Nat.ne_of_lt (Nat.lt_of_lt_of_le lt2 (Nat.le_add_right _ 1))) (Nat.ne_of_lt (Nat.lt_of_lt_of_le lt3 (Nat.le_add_right _ 2))), ⟨hz, hTI, ⟨_, _, _, hTO⟩, SqIt.begin y1, SqIt.begin y2, SqIt.begin y3⟩, frs, q1⟩
end CZ

namespace CS
open PySem PySem.Spec PyProof.Rows L2
/-! ### rules beside the layer's -/
section
variable {X : Cx}
/-- a product, whatever the reason that it fits -/
theorem op_mulI : OpR X (binaryOp .Mult) (rI IntMulOk fun i j => .int (i * j)) := opI fun _ _ _ _ _ _ _ hc q => mul_int q hc
/-- list + list, however each is known -/
def rCatR (K : PySem.W.Frag) : R2 := fun x y H Q => ∃ l b xs zs, x = .ref l ∧ y = .ref b ∧ SqL K H l xs ∧ SqL K H b zs ∧ xs.length + zs.length ≤ sizeLine ∧ ∀ p, H p = none → Q (.ref p) (upd H p (.lst (xs ++ zs)))
theorem op_catR : OpR X (binaryOp .Add) (rCatR X.K) := by
  intro pins s σ H x y v u Q I rx ry h
  obtain ⟨l, b, xs, zs, rfl, rfl, hH, hB, hz, q⟩ := h
  cases rx
  cases ry
  obtain ⟨its, r, p1, _⟩ := I.list hH
  obtain ⟨its2, r2, p2, _⟩ := I.list hB
  obtain ⟨⟨cls, dd, data, sl⟩, ho, hc, n, hd⟩ := id p1.isList
  obtain ⟨⟨cls2, dd2, data2, sl2⟩, ho2, hc2, n2, hd2⟩ := id p2.isList
  simp only at hc hd hc2 hd2
  subst hc hd hc2 hd2
  have l1 := r.length
  have l2 := r2.length
  have ea : its.toArray ++ its2.toArray = (its ++ its2).toArray := by simp
  refine concat_meets ⟨_, ho, rfl⟩ ⟨_, ho2, rfl⟩ noFill_list_add seq_list_add PySem.F.slot_list_add PySem.F.entry_list_add (PySem.F.args_list_add_2 _ _) (list_addW l b its.toArray its2.toArray n n2 dd dd2 sl sl2 (by rw [List.size_toArray, List.size_toArray]; omega)) ⟨ho, ho2, ?_⟩
  rw [ea]
  exact ⟨.ref _, _, I.lnew (t' := s.toks) (r.append r2) (by rw [List.length_append]; omega), rfl, q _ I.fresh⟩
theorem pi_or {tg it : Expr} {w1 w2 : TI} (h1 : PI X tg it w1) (h2 : PI X tg it w2) : PI X tg it (fun σ H R => w1 σ H R ∨ w2 σ H R) :=
  ⟨fun pins s σ H R I h => h.elim (fun z => h1.run pins s σ H R I z) fun z => h2.run pins s σ H R I z⟩
end
/-! ### calls by keywords alone -/
def pick {α : Type} (js : List Nat) (l : List α) : List α := js.filterMap fun j => l[j]?
theorem vals_pick {xs : List V} {us : List Value} (r : Vals xs us) : ∀ js : List Nat, Vals (pick js xs) (pick js us)
  | [] => .nil
  | j :: js => by
    have ih := vals_pick r js
    unfold pick at ih ⊢
    cases e : xs[j]? with
    | none =>
      have e2 := r.none_of e
      rw [List.filterMap_cons_none (by rw [e]), List.filterMap_cons_none (by rw [e2])]
      exact ih
    | some x =>
      obtain ⟨u, e2, ru⟩ := r.get e
      rw [List.filterMap_cons_some (by rw [e]), List.filterMap_cons_some (by rw [e2])]
      exact .cons ru ih
theorem kbn_of {K : PySem.W.Frag} {x qual : Str} {st : Stmt} {f : Addr} {fd : FuncData} {ps : List Str} (F : Fun K x qual st f fd) (n : Nat) (ks : List Str) (js : List Nat)
    (h : ∀ (kV doc pm : Value) (an : Option Addr) (cdv ct : Value) (us ws : List Value), us.length = n → ws.length = ks.length → bindArgs (PySem.W.fnOf x qual (defArgs st) (defBody st) (defScope st) .none kV doc pm an cdv ct) ⟨us, ks.zip ws⟩ = pure (ps.zip (pick js (us ++ ws)))) :
    KBn K fd ps n ks (fun us ws => pick js (us ++ ws)) (fun vs zs => pick js (vs ++ zs)) := by
  obtain ⟨oc, od, kV, doc, pm, an, cdv, ct, osl, rfl, lk, hcd⟩ := F.ex
  exact ⟨fun s us ws _ h1 h2 => .of_eq (h kV doc pm an cdv ct us ws h1 h2), fun r1 r2 => vals_pick (r1.append r2) js⟩
section
variable {X : Cx} {CX : CXT} {k n : Nat} {f C : Addr} {fd : FuncData} {ps ks : List Str} {sp : Sp} {E : XK} {x m : Str} {p pos apos : Pos} {o : Expr} {kws : List Keyword} {ta : TE} {tk : TA} {g : List Value → List Value → List Value} {gV : List V → List V → List V}
theorem run_kw {pins : List (Addr × Obj)} {σ : L2.St} {H : Hp} {s : Shared} {Q : VK} {us ws : List Value} {vs zs : List V} (F : FnOk X.prog X.w X.K X.mg X.base CX k f fd ps sp) (hr : Room k X.A) (hb : KBn X.K fd ps n ks g gV) (hx : Passes CX X E)
    (I : Inv X pins σ H s) (r : Vals vs us) (rz : Vals zs ws) (l1 : vs.length = n) (l2 : zs.length = ks.length) (h : sp (gV vs zs) H Q E) : wpAny (model X.prog X.w) X.A (call (.ref f) us (ks.zip ws)) (EP X pins σ Q) X.xe s := by
  refine wpAny_call (codeAny_mono (F.run X.A X.stack s H ⟨us, ks.zip ws⟩ (g us ws) (gV vs zs) Q E hr I.env0 (hb.to s us ws I.kIn (r.length.symm.trans l1) (rz.length.symm.trans l2)) (hb.rel r rz) h) fun res s2 hq => ?_)
  cases res with
  | error e => exact hx pins σ H s e s2 I hq
  | ok fl =>
    cases fl with
    | ret u => exact I.after hq
    | next => exact False.elim hq
    | brk => exact False.elim hq
    | cont => exact False.elim hq
/-- f(k = v, ..) -/
def tCallKw (m : Nat) (sp : Sp) (gV : List V → List V → List V) (E : XK) (tk : TA) : TE := fun σ H Q => tk σ H fun zs H1 => zs.length = m ∧ sp (gV [] zs) H1 Q E
theorem pe_callKw (F : FnOk X.prog X.w X.K X.mg X.base CX k f fd ps sp) (hr : Room k X.A) (hg : Gl X x) (hm : X.mg x = some (.ref f)) (hk : PySem.W.keepIn X.K (.ref f) = true) (hb : KBn X.K fd ps 0 ks g gV) (hx : Passes CX X E) (hkw : PK X kws tk)
    (hall : (backToKw pos (keywordEach kws X.env)).all (·.1.isSome) = true := by rfl) (hks : (backToKw pos (keywordEach kws X.env)).filterMap (·.1) = ks := by rfl) (hdb : (x == ("__debug__" : Str)) = false := by decide)
    (hpl : ((backTo pos (starEach [] X.env)).any (·.1) || (backToKw pos (keywordEach kws X.env)).any (·.1.isNone)) = false := by rfl) :
    PE X (.Call (.Name x p) [] kws pos) (tCallKw ks.length sp gV E tk) := by
  refine ⟨fun pins s σ H Q I h => ?_⟩
  refine wpAny_Call_Name_kw (ld_glob I hg hm ?_ hdb)
  refine PySem.W.callWith_KW0 (h₀ := X.base) I.ok.mod.kin hk hall (thn (hkw.run pos pins s σ H _ I h) fun ws s2 ⟨zs, H2, I2, rz, l2, q2⟩ => ⟨I2.kIn, ?_⟩) hpl
  rw [hks]
  exact run_kw (us := []) (vs := []) F hr hb hx I2 .nil rz rfl l2 q2
/-- o.m(k = v, ..) -/
def tMethKw (C : Addr) (m : Str) (n : Nat) (sp : Sp) (gV : List V → List V → List V) (E : XK) (ta : TE) (tk : TA) : TE := fun σ H Q => ta σ H fun x H1 => ∃ a dx fs, x = .ref a ∧ H1 a = some (.ins C dx fs) ∧ fs.lookup m = none ∧
  tk σ H1 fun zs H2 => zs.length = n ∧ sp (gV [x] zs) H2 Q E
theorem pe_methKw {pl : Sem Bool} (he : PE X o ta) (c : Cls X.K C) (hm : Meth X.K C m f) (F : FnOk X.prog X.w X.K X.mg X.base CX k f fd ps sp) (hr : Room k X.A) (hb : KBn X.K fd ps 1 ks g gV) (hx : Passes CX X E) (hkw : PK X kws tk)
    (hall : (backToKw pos (keywordEach kws X.env)).all (·.1.isSome) = true := by rfl) (hks : (backToKw pos (keywordEach kws X.env)).filterMap (·.1) = ks := by rfl)
    (hpl : ((backTo pos (starEach [] X.env)).any (·.1) || (backToKw pos (keywordEach kws X.env)).any (·.1.isNone)) = false := by rfl)
    (ht : eval (.Call (.Attribute o m apos) [] kws pos) X.env = (do
      let ov ← eval o X.env
      standAt apos.atName
      let (f, first) ← holding [ov] (getMethod ov m pl)
      callWith pos f first (backTo pos (starEach [] X.env)) (backToKw pos (keywordEach kws X.env))) := by rfl) :
    PE X (.Call (.Attribute o m apos) [] kws pos) (tMethKw C m ks.length sp gV E ta tk) := by
  refine ⟨fun pins s σ H Q I h => ?_⟩
  refine PySem.W.methodCall_KW (pl := pl) (thn (he.run pins s σ H _ I h) fun u s1 ⟨x, H1, I1, rx, a, dx, fs, ex, ea, l, q⟩ => ?_) ht
  subst ex
  obtain rfl : u = Value.ref a := rx
  refine getmeth_ok I1 ea c hm l ?_
  refine PySem.W.callWith_KW0 (first := [.ref a]) (h₀ := X.base) I.ok.mod.kin hm.kp hall (thn (hkw.run pos pins s1 σ H1 _ I1 q) fun ws s2 ⟨zs, H2, I2, rz, l2, q2⟩ => ⟨I2.kIn, ?_⟩) hpl
  rw [hks]
  exact run_kw (us := [.ref a]) (vs := [.ref a]) F hr hb hx I2 (.cons rfl .nil) rz rfl l2 q2
end
/-! ### heaps that grow -/
abbrev Ex (H H2 : Hp) : Prop := Evl.Ex H H2
theorem exr {H : Hp} : Ex H H := fun _ _ h => h
theorem exn {H : Hp} {p : Addr} {o : HO} (h : H p = none) : Ex H (upd H p o) := Evl.Ex.new h
theorem SqK.mono {K : PySem.W.Frag} {H H2 : Hp} {p : Bool × Addr} {xs : List V} (e : Ex H H2) (h : CZ.SqK K H p xs) : CZ.SqK K H2 p xs := by
  obtain ⟨b, a⟩ := p
  cases b
  · exact Evl.ex_l e h
  · exact Evl.ex_t e h
/-- a comprehension whose element and tests leave all that stood: out i is what stands behind i turns -/
theorem lc_out {J : It} {n : Nat} {G : Hp → Prop} {Y : Nat → Hp → V → Hp → Prop} (w : Walk J n G Y) {g : TG} {tt : TT} {te : TE} {vs : List Nat} {σ : L2.St} {H1 : Hp} {D : Addr} {Qd : Hp → Prop} (out : Nat → List V) (h0 : out 0 = []) (hD : H1 D = none)
    (hlen : ∀ i, i < n → (out i).length < sizeLine) (hG : ∀ H, Ex H1 H → G H)
    (hs : ∀ i x H H2 (Nx : Hp → Prop), i < n → Ex H1 H → H D = some (.lst (out i)) → Y i H x H2 →
      (∀ y H5, Ex H H5 → out (i + 1) = out i ++ [y] → ∃ acc, H5 D = some (.lst acc) ∧ acc.length < sizeLine ∧ Nx (upd H5 D (.lst (acc ++ [y])))) → (∀ H4, Ex H H4 → out (i + 1) = out i → Nx H4) →
      g x (wipe σ vs) H2 fun σ2 H3 => wipe σ2 vs = wipe σ vs ∧ tt σ2 H3 fun b H4 => if b = true then te σ2 H4 fun y H5 => ∃ acc, H5 D = some (.lst acc) ∧ acc.length < sizeLine ∧ Nx (upd H5 D (.lst (acc ++ [y]))) else Nx H4)
    (hd : ∀ H, Ex H1 H → H D = some (.lst (out n)) → Qd H) :
    ∃ W : Nat → Nat → Hp → Prop, (∃ m, W 0 m (upd H1 D (.lst []))) ∧ ∀ i m H, W i m H →
      (J.stop i H ∧ Qd H) ∨ (J.go i H ∧ ∃ Nx : Hp → Prop, (∀ H2, Nx H2 → ∃ m2, m2 < m ∧ W (i + 1) m2 H2) ∧ ∀ x H2, J.yld i H x H2 → g x (wipe σ vs) H2 fun σ2 H3 => wipe σ2 vs = wipe σ vs ∧ tt σ2 H3 fun b H4 =>
        if b = true then te σ2 H4 fun y H5 => ∃ acc, H5 D = some (.lst acc) ∧ acc.length < sizeLine ∧ Nx (upd H5 D (.lst (acc ++ [y]))) else Nx H4) := by
  refine lc_it w (fun i H => Ex H1 H ∧ H D = some (.lst (out i))) ⟨exn hD, by rw [upd_same, h0]⟩ (fun i H _ p => hG H p.1) (fun i x H H2 hi p y => ?_) (fun H p => hd H p.1 p.2)
  refine hs i x H H2 _ hi p.1 p.2 y (fun y2 H5 e eo => ⟨out i, e D _ p.2, hlen i hi, fun b o q => ?_, by rw [upd_same, eo]⟩) (fun H4 e eo => ⟨fun b o q => e b o (p.1 b o q), by rw [eo]; exact e D _ p.2⟩)
  rw [upd_ne (ne_of_none q hD)]
  exact e b o (p.1 b o q)
/-- .. whose list is known: vals -/
theorem lc_vals {J : It} {n : Nat} {G : Hp → Prop} {Y : Nat → Hp → V → Hp → Prop} (w : Walk J n G Y) {g : TG} {te : TE} {vs : List Nat} {σ : L2.St} {H1 : Hp} {D : Addr} {Qd : Hp → Prop} (vals : List V) (hn : vals.length = n) (hl : n ≤ 10000000) (hD : H1 D = none)
    (hG : ∀ H, Ex H1 H → G H)
    (hs : ∀ i x H H2 (R : VK), i < n → Ex H1 H → Y i H x H2 → (∀ y H5, Ex H H5 → vals[i]? = some y → R y H5) → g x (wipe σ vs) H2 fun σ2 H3 => wipe σ2 vs = wipe σ vs ∧ te σ2 H3 R)
    (hg : ∀ x σ2 H2 (R R2 : L2.St → Hp → Prop), (∀ σ3 H3, R σ3 H3 → R2 σ3 H3) → g x σ2 H2 R → g x σ2 H2 R2)
    (hd : ∀ H, Ex H1 H → H D = some (.lst vals) → Qd H) :
    ∃ W : Nat → Nat → Hp → Prop, (∃ m, W 0 m (upd H1 D (.lst []))) ∧ ∀ i m H, W i m H →
      (J.stop i H ∧ Qd H) ∨ (J.go i H ∧ ∃ Nx : Hp → Prop, (∀ H2, Nx H2 → ∃ m2, m2 < m ∧ W (i + 1) m2 H2) ∧ ∀ x H2, J.yld i H x H2 → g x (wipe σ vs) H2 fun σ2 H3 => wipe σ2 vs = wipe σ vs ∧ tYes σ2 H3 fun b H4 =>
        if b = true then te σ2 H4 fun y H5 => ∃ acc, H5 D = some (.lst acc) ∧ acc.length < sizeLine ∧ Nx (upd H5 D (.lst (acc ++ [y]))) else Nx H4) := by
  refine lc_out w (fun i => vals.take i) rfl hD (fun i hi => ?_) hG (fun i x H H2 Nx hi e hDi y kA _ => ?_) (fun H e h => hd H e ?_)
  · rw [List.length_take]
    exact Nat.lt_of_le_of_lt (Nat.le_trans (Nat.min_le_right _ _) (by rw [hn]; exact hl)) (by decide)
  · refine hg _ _ _ _ _ (fun σ3 H3 q => ⟨q.1, ?_⟩) (hs i x H H2 (fun y H5 => ∃ acc, H5 D = some (.lst acc) ∧ acc.length < sizeLine ∧ Nx (upd H5 D (.lst (acc ++ [y])))) hi e y fun y2 H5 e5 ev => kA y2 H5 e5 ?_)
    · exact q.2
    · rw [List.take_add_one, ev]
      rfl
  · rw [h, List.take_of_length_le (by rw [hn]; exact Nat.le_refl _)]
theorem gmono_name {i : Nat} : ∀ x σ2 H2 (R R2 : L2.St → Hp → Prop), (∀ σ3 H3, R σ3 H3 → R2 σ3 H3) → gName i x σ2 H2 R → gName i x σ2 H2 R2 := fun _ _ _ _ _ h q => h _ _ q
theorem gmono_nil : ∀ vs σ2 H2 (R R2 : L2.St → Hp → Prop), (∀ σ3 H3, R σ3 H3 → R2 σ3 H3) → gNil vs σ2 H2 R → gNil vs σ2 H2 R2 := fun _ _ _ _ _ h q => ⟨q.1, h _ _ q.2⟩
theorem gmono_cons {t : TG} {u : TGs} (ht : ∀ x σ2 H2 (R R2 : L2.St → Hp → Prop), (∀ σ3 H3, R σ3 H3 → R2 σ3 H3) → t x σ2 H2 R → t x σ2 H2 R2) (hu : ∀ x σ2 H2 (R R2 : L2.St → Hp → Prop), (∀ σ3 H3, R σ3 H3 → R2 σ3 H3) → u x σ2 H2 R → u x σ2 H2 R2) :
    ∀ vs σ2 H2 (R R2 : L2.St → Hp → Prop), (∀ σ3 H3, R σ3 H3 → R2 σ3 H3) → gCons t u vs σ2 H2 R → gCons t u vs σ2 H2 R2 := fun vs σ2 H2 R R2 h q => by
  obtain ⟨v, r, e, q⟩ := q
  exact ⟨v, r, e, ht _ _ _ _ _ (fun σ3 H3 z => hu _ _ _ _ _ h z) q⟩
theorem gmono_tup {K : PySem.W.Frag} {n : Nat} {t : TGs} (ht : ∀ x σ2 H2 (R R2 : L2.St → Hp → Prop), (∀ σ3 H3, R σ3 H3 → R2 σ3 H3) → t x σ2 H2 R → t x σ2 H2 R2) :
    ∀ v σ2 H2 (R R2 : L2.St → Hp → Prop), (∀ σ3 H3, R σ3 H3 → R2 σ3 H3) → gTup K n t v σ2 H2 R → gTup K n t v σ2 H2 R2 := fun v σ2 H2 R R2 h q => by
  obtain ⟨a, xs, e, h1, h2, q⟩ := q
  exact ⟨a, xs, e, h1, h2, ht _ _ _ _ _ h q⟩
/-! ### a list or a tuple walked -/
def ItS (K : PySem.W.Frag) (p : Bool × Addr) : It := if p.1 = true then Itt K p.2 else Itl K p.2
def iSeq (K : PySem.W.Frag) (tl : TE) : TI := fun σ H R => tl σ H fun x H1 => ∃ p : Bool × Addr, x = .ref p.2 ∧ (∃ xs, CZ.SqK K H1 p xs) ∧ R (ItS K p) H1
theorem pi_seq {X : Cx} {tg l : Expr} {tl : TE} (hl : PE X l tl) : PI X tg l (iSeq X.K tl) := by
  refine ⟨fun pins s σ H R I h => ?_⟩
  refine thn (hl.run pins s σ H _ I h) fun v s1 ⟨x, H1, I1, r1, q1⟩ => ?_
  obtain ⟨⟨b, a⟩, ex, ⟨xs, hq⟩, q⟩ := q1
  subst ex
  cases r1
  obtain ⟨its, rv, g, lt⟩ := CZ.sq_seq I1 hq
  have fp : ∀ c ∈ [s1.heap.objs.size], FpOk X pins H1 c := fun c hc => by
    have e : c = s1.heap.objs.size := by simpa using hc
    rw [e]
    exact I1.fpOk (Nat.le_refl _) (I1.hok.fresh (Nat.le_refl _))
  refine (CZ.begins_of (b, a) its).iter _ _ _ _ s1 _ g ?_
  have I2 : Inv X pins σ H1 { s1 with heap := s1.heap.push (CZ.itO (b, a)) } := I1.kept (t' := s1.toks) fun c o e => Heap.get?_push_of_some _ e
  cases b
  · exact ⟨_, [s1.heap.objs.size], _, _, H1, rfl, I2, turn_list a _, ⟨_, Heap.get?_push_size _ rfl, rfl, rfl⟩, fp, q⟩
  · exact ⟨_, [s1.heap.objs.size], _, _, H1, rfl, I2, turn_tuple a _, ⟨_, Heap.get?_push_size _ rfl, rfl, rfl⟩, fp, q⟩
theorem walk_seq {K : PySem.W.Frag} {p : Bool × Addr} {xs : List V} : Walk (ItS K p) xs.length (fun H => CZ.SqK K H p xs) (YAt xs) := by
  obtain ⟨b, a⟩ := p
  cases b
  · exact walk_list
  · exact walk_tup
theorem itt {c : Bool} {A B : Prop} (h : c = true) (a : A) : if c = true then A else B := by rw [if_pos h]; exact a
theorem itf {c : Bool} {A B : Prop} (h : c = false) (b : B) : if c = true then A else B := by rw [h, if_neg Bool.false_ne_true]; exact b
theorem map_get {α : Type} {f : α → V} {l : List α} {i : Nat} {x : V} (h : (l.map f)[i]? = some x) : ∃ n, l[i]? = some n ∧ x = f n := by
  rw [List.getElem?_map] at h
  cases e : l[i]? with
  | none => rw [e] at h; cases h
  | some n => rw [e] at h; exact ⟨n, rfl, (Option.some.inj h).symm⟩
end CS

namespace CE
open PySem PySem.Spec PyProof.Rows L2 CZ
/-! ### enumerate over a list or a tuple -/
theorem enumO_new {v : Value} {oo : Obj} {Hq : Heap → Prop} (bg : Begins v oo Hq) :
    Meets (Builtin.«enumerate.__new__» ⟨[.type "enumerate", v], []⟩) (fun _ R t => Hq t.heap ∧
      R (.ok (.ret (.ref (t.heap.push oo).objs.size))) { t with heap := (t.heap.push oo).push { cls := .type "enumerate", data := .fields #[.none, .bool false, .ref t.heap.objs.size, rawInt 0, .none, .none] } }) :=
  .of_wp fun pg wo Ar R t hyp => by
    obtain ⟨hh, gg, dd, tt, oq⟩ := t
    obtain ⟨start, goal⟩ := hyp
    have es := PySem.sub_enumerate
    have go1 : ∀ {A2 : Around} {E2 : Value → Shared → Prop} {Q2 : Value → Shared → Prop}, Q2 (.ref hh.objs.size) ⟨hh.push oo, gg, dd, tt, oq⟩ → wpAny (model pg wo) A2 (pyIter v) Q2 E2 ⟨hh, gg, dd, tt, oq⟩ :=
      fun z => bg.iter pg wo _ _ ⟨hh, gg, dd, tt, oq⟩ _ start z
    wp_walk using go1
    refine wpAny_stack_any fun stk => wpAny_pure ?_
    split
    · rename_i cc _ _ _ _ _
      cases (cc == Value.type "enumerate")
      all_goals
        wp_walk using go1
        exact ⟨_, rfl, goal⟩
    · wp_walk using go1
      exact ⟨_, rfl, goal⟩
theorem enum_of {pg : Program} {wo : World} {Ar : Around} {Ex1 : Value → Shared → Prop} {t : Shared} {v : Value} {oo : Obj} {Hq : Heap → Prop} {Qe : Value → Shared → Prop} (bg : Begins v oo Hq) (start : Hq t.heap)
    (goal : ∀ hN, IsEnum hN (t.heap.objs.size + 1) t.heap.objs.size 0 .none → hN.get? t.heap.objs.size = some oo → (∀ c ob, t.heap.get? c = some ob → hN.get? c = some ob) → Qe (.ref (t.heap.objs.size + 1)) { t with heap := hN }) :
    wpAny (model pg wo) Ar (call (.type "enumerate") [v]) Qe Ex1 t := by
  refine callType_new F.called_enumerate (by decide) (F.typeCall_enumerate_1 _) (F.newCall_enumerate_1 _) (fun ob => F.args_object_init_2 ob _) F.entry_enumerate_new (enumO_new bg) ⟨start, ?_⟩
  have size1 : (t.heap.push oo).objs.size = t.heap.objs.size + 1 := Heap.size_push ..
  have isE : IsEnum ((t.heap.push oo).push { cls := .type "enumerate", data := .fields #[.none, .bool false, .ref t.heap.objs.size, rawInt 0, .none, .none] }) (t.heap.objs.size + 1) t.heap.objs.size 0 .none := by
    have at1 := Heap.get?_push_size (t.heap.push oo) (o := { cls := .type "enumerate", data := .fields #[.none, .bool false, .ref t.heap.objs.size, rawInt 0, .none, .none] }) rfl
    rw [size1] at at1
    exact at1
  show _ ∧ _
  rw [size1]
  exact ⟨⟨_, isE, rfl⟩, goal _ isE (Heap.get?_push_of_some _ (Heap.get?_push_size _ bg.free)) fun c ob z => Heap.get?_push_of_some _ (Heap.get?_push_of_some _ z)⟩
/-- what stands at p, each item in a new pair -/
def ItE (K : PySem.W.Frag) (p : Bool × Addr) : It :=
  ⟨fun i H => ∃ (xs : List V) (x : V), SqK K H p xs ∧ xs[i]? = some x, fun i H v H2 => ∃ T x, v = .ref T ∧ H T = none ∧ H2 = upd H T (.tup [.int (i : Nat), x]) ∧ ∀ xs, SqK K H p xs → xs[i]? = some x, fun i H => ∃ xs : List V, SqK K H p xs ∧ xs.length = i⟩
theorem turn_e {P : Program} {w : World} {K : PySem.W.Frag} {elts : List Expr} {kk : Nat} {tpos : Pos} {en it : Addr} {p : Bool × Addr} (n1 : p.2 ≠ it) (n2 : en ≠ it) (n3 : en ≠ p.2) :
    Turn P w K (.Tuple elts kk tpos) (ItE K p) [en, it] en (fun i h => (∃ old, IsEnum h en it ((i : Nat) : Int) old) ∧ SqIt h it p i) where
  mem := by simp
  obj := fun i h st c hc => by
    obtain ⟨⟨old, ie⟩, si⟩ := st
    have e : c = en ∨ c = it := by simpa using hc
    rcases e with q | q
    · rw [q]; exact ⟨_, ie, fun v q => nomatch q⟩
    · rw [q]; exact si.obj
  keep := fun i h h2 st k => by
    obtain ⟨⟨old, ie⟩, si⟩ := st
    exact ⟨⟨old, k en (by simp) _ ie⟩, si.at fun o q => k it (by simp) o q⟩
  item := by
    intro X hP hw hK hc i pins s σ H E I hf st hg
    subst hP hw hK
    obtain ⟨⟨old, ie⟩, si⟩ := st
    obtain ⟨xs, x, hq, hx⟩ := hg
    obtain ⟨its, rv, sq, _⟩ := sq_seq I hq
    obtain ⟨u, hu, ru⟩ := rv.get hx
    have gu : its.toArray[i]? = some u := by simpa using hu
    have lu : i < its.toArray.size := by
      have := (List.getElem?_eq_some_iff.mp hu).1
      simpa using this
    have enl : en < s.heap.objs.size := Heap.lt_size ie
    have itl : it < s.heap.objs.size := by
      obtain ⟨_, q, _⟩ := si.obj
      exact Heap.lt_size q
    refine PySem.wpAny_pyNext_enum_itemD (draws_of (A := X.A.in1) (I.ok.hd hc) it p n1 its) ie ⟨si, sq⟩ lu n2 (by simp [n2, n3]) fun x1 hA tk hx1 out ⟨si2, _⟩ hT hsz hk => ?_
    obtain rfl : u = x1 := Option.some.inj (gu.symm.trans hx1)
    refine ⟨_, rfl, wpAny_letOwnedTupleGo_enum (s := { s with heap := hA, toks := tk + 1 }) out fun hB isB sb => ?_⟩
    replace sb : Heap.SameBut en hA hB := sb
    have hT2 : hB.get? s.heap.objs.size = some { cls := .type "tuple", data := .seq #[.int i tk, u] } := (sb.2 _ (Nat.ne_of_gt enl)).trans hT
    have made : ObjOk X.prog X.w (upd H s.heap.objs.size (.tup [.int (i : Nat), x])) hB s.heap.objs.size (.tup [.int (i : Nat), x]) := ⟨by show 2 ≤ sizeLine; decide, [.int i tk, u], .cons ⟨_, rfl⟩ (.cons ru .nil), ⟨_, hT2, rfl, _, rfl⟩⟩
    have I1 : Inv X pins σ (upd H s.heap.objs.size (.tup [.int (i : Nat), x])) { s with heap := hB, toks := tk + 1 } :=
      I.turnedNew (t' := tk + 1) (ch := [en, it]) (fun c ob hb q => (sb.2 c (fun z => hb (by simp [z]))).trans (hk c ob (fun z => hb (by simp [z])) (fun z => hb (by simp [z])) q)) hf (Nat.le_refl _) made
    refine ⟨.ref s.heap.objs.size, _, I1, rfl, ⟨_, x, rfl, I.hok.fresh (Nat.le_refl _), rfl, fun ys hy => by rw [sq_inj I hy hq]; exact hx⟩, ⟨⟨u, ?_⟩, si2.at fun o q => (sb.2 it n2.symm).trans q⟩, fun c hcm => ?_⟩
    · have next : ((i + 1 : Nat) : Int) = (i : Int) + 1 := by omega
      rw [next]
      exact isB
    · have small : c < s.heap.objs.size := by
        have e : c = en ∨ c = it := by simpa using hcm
        rcases e with q | q
        · rw [q]; exact enl
        · rw [q]; exact itl
      rw [upd_ne (Nat.ne_of_lt small)]
      exact (hf c hcm).1
  done := by
    intro X hP hw hK hc i pins s σ H E I hf st hg
    subst hP hw hK
    obtain ⟨⟨old, ie⟩, si⟩ := st
    obtain ⟨xs, hq, hx⟩ := hg
    obtain ⟨its, rv, sq, _⟩ := sq_seq I hq
    have li : its.toArray.size = i := by
      have := rv.length
      simp
      omega
    have dr := draws_of (prog := X.prog) (w := X.w) (A := X.A.in1) (I.ok.hd hc) it p n1 its
    rw [li] at dr
    exact PySem.wpAny_pyNext_enum_endD dr ie ⟨si, sq⟩ fun hA eb => ⟨rfl, I.turnedL (t' := s.toks) (ch := [en, it]) (fun c ob hb q => eb c ob (fun z => hb (by simp [z])) q) hf⟩
  self := fun A i s Q E st h => let ⟨⟨_, ie⟩, _⟩ := st; wpAny_pyIter_enum ie h
theorem walk_e {K : PySem.W.Frag} {p : Bool × Addr} {xs : List V} : Walk (ItE K p) xs.length (fun H => SqK K H p xs) (YPair (fun i => some (.int (i : Nat))) (fun i => xs[i]?)) :=
  ⟨fun i _ hi q => ⟨xs, xs[i], q, by simp [hi]⟩, fun _ q => ⟨xs, q, rfl⟩, fun i H v H2 _ q y => by
    obtain ⟨T, x, h1, h2, h3, h4⟩ := y
    exact ⟨T, _, x, h1, h2, h3, rfl, h4 xs q⟩⟩
/-- enumerate(e), e a list or a tuple -/
def iE (K : PySem.W.Frag) (ta : TA) : TI := fun σ H R => ta σ H fun vs H1 => ∃ p : Bool × Addr, vs = [.ref p.2] ∧ (∃ xs, SqK K H1 p xs) ∧ R (ItE K p) H1
theorem pi_e {X : Cx} {e : Expr} {ta : TA} {po pos tpos : Pos} {elts : List Expr} {kk : Nat} (hg : Gl X "enumerate") (hm : X.mg "enumerate" = none) (ha : PA X [e] ta) (hs : starEach [e] X.env = [(false, eval e X.env)] := by rfl) :
    PI X (.Tuple elts kk tpos) (.Call (.Name "enumerate" po) [e] [] pos) (iE X.K ta) := by
  refine ⟨fun pins s σ H R I h => ?_⟩
  refine Call_ (ld_blt I hg hm boot_enumerate (PyProof.Rows.callWith_type1 (thn (ha.run pos pins s σ H _ I h) fun us s0 ⟨vs, H1, I1, r1, q1⟩ => ?_) hs rfl))
  obtain ⟨p, ev, ⟨xs, hq⟩, q1⟩ := q1
  subst ev
  cases r1 with
  | cons r rr =>
    cases rr
    cases r
    obtain ⟨its, rv, sq, lt⟩ := sq_seq I1 hq
    refine enum_of (begins_of p its) sq fun hN ie io kk2 => wpAny_pyIter_enum ie ?_
    have I2 : Inv X pins σ H1 { s0 with heap := hN } := I1.kept (t' := s0.toks) kk2
    refine ⟨s0.heap.objs.size + 1, [s0.heap.objs.size + 1, s0.heap.objs.size], _, _, H1, rfl, I2, turn_e (Nat.ne_of_lt lt) (Nat.succ_ne_self _) (Nat.ne_of_gt (Nat.lt_succ_of_lt lt)), ⟨⟨.none, ie⟩, SqIt.begin io⟩, fun c hc => ?_, q1⟩
    have le : s0.heap.objs.size ≤ c := by
      have e : c = s0.heap.objs.size + 1 ∨ c = s0.heap.objs.size := by simpa using hc
      rcases e with z | z
      · rw [z]; exact Nat.le_add_right _ _
      · rw [z]; exact Nat.le_refl _
    exact I1.fpOk le (I1.hok.fresh le)
end CE

namespace CL
open PySem PySem.Spec PyProof.Rows L2
/-! ### set(l) of a list of ints -/
section
variable {pg : Program} {wo : World} {Ar : Around} {Ee : Value → Shared → Prop} {t : Shared}
set_option maxRecDepth 100000 in
set_option maxHeartbeats 3200000 in
theorem set_of_list {l : Addr} {its : Array Value} (ns : List Int) {Qe : Value → Shared → Prop} (calm : Ar.handled = none) (isl : t.heap.IsList l its) (intsA : IntsAre its.toList ns) (few : ns.length + 1 < scanBound)
    (goal : ∀ (hN : Heap) (k c : Nat), SetR wo hN t.heap.objs.size (fun j => decide (j ∈ ns)) c → c ≤ ns.length → (∀ b ob, t.heap.get? b = some ob → hN.get? b = some ob) → Qe (.ref t.heap.objs.size) { t with heap := hN, toks := k }) :
    wpAny (model pg wo) Ar (call (.type "set") [.ref l]) Qe Ee t := by
  have len : its.size = ns.length := by
    have z := IntsAre.length intsA
    rw [Array.length_toList] at z
    exact z
  obtain ⟨cc, tail, mro⟩ := PySem.F.called_set.mro
  have made := PySem.F.called_set.made
  have sub := PySem.F.called_set.sub
  refine wpAny_call (codeAny_of_tree ?_)
  show wpAny _ _ (callAny (.type "set") _) _ _ _
  refine wpAny_pure ⟨Code.quiet_builtin _ (by decide +kernel), codeAny_builtin PySem.F.entry_type_call ?_⟩
  rw [Around.under_plain (weight_type_call_type "set" [.ref l] []) rfl]
  have noType := PySem.F.called_set.notType
  have creates := PySem.F.called_set.canCreate
  have checked := PySem.F.typeCall_set_1 (.ref l)
  repeat (any_goals (first | assumption | wp_step))
  refine codeAny_mono (code_set_led1 (.ref l) (E := Ee) (Q₁ := fun ob t1 => ob = .ref t.heap.objs.size ∧ t1 = { t with heap := t.heap.push { cls := .type "set", dict := none, data := .set #[] 0 (.fresh 0 0 (!wo.params.followText "set-order")) } }) ⟨rfl, rfl⟩) fun r t1 hr => ?_
  cases r with
  | error e => exact hr
  | ok fl =>
    cases fl with
    | ret ob =>
      obtain ⟨rfl, rfl⟩ := hr
      have hS : (t.heap.push { cls := .type "set", dict := none, data := .set #[] 0 (.fresh 0 0 (!wo.params.followText "set-order")) }).get? t.heap.objs.size = some { cls := .type "set", dict := none, data := .set #[] 0 (.fresh 0 0 (!wo.params.followText "set-order")) } := Heap.get?_push_size _ rfl
      have tS : Shared.TypeIs { t with heap := t.heap.push { cls := .type "set", dict := none, data := .set #[] 0 (.fresh 0 0 (!wo.params.followText "set-order")) } } (.ref t.heap.objs.size) "set" := ⟨_, hS, rfl⟩
      have ini := PySem.F.called_set.init.lookup
      have bnd := PySem.F.called_set.init.bind (.ref t.heap.objs.size)
      repeat (any_goals (first | assumption | wp_step))
      refine codeAny_mono (codeAny_call_builtin (R := wants (fun r t2 => r = .none ∧ ∃ hN k c, t2 = { t with heap := hN, toks := k } ∧ SetR wo hN t.heap.objs.size (fun j => decide (j ∈ ns)) c ∧ c ≤ ns.length ∧
          (∀ b ob, t.heap.get? b = some ob → hN.get? b = some ob)) Ee) PySem.F.called_set.init.plain PySem.F.entry_set_init (check_set_init_1 tS ?_)) fun r2 t2 hr2 => ?_
      · obtain ⟨ol, hol, hcl, nl, hdl⟩ := id isl
        obtain ⟨ocls, odict, odata, oslots⟩ := ol
        simp only at hcl hdl
        subst hcl
        subst hdl
        have hol2 : (t.heap.push { cls := .type "set", dict := none, data := .set #[] 0 (.fresh 0 0 (!wo.params.followText "set-order")) }).get? l = some { cls := .type "list", dict := odict, data := .seq its nl, slots := oslots } := Heap.get?_push_of_some _ hol
        have s1 := PySem.F.sub_list_set
        have s2 := PySem.F.sub_list_frozenset
        have nd : (Value.type "list" == Value.type "dict") = false := by decide
        have isl2 : (t.heap.push { cls := .type "set", dict := none, data := .set #[] 0 (.fresh 0 0 (!wo.params.followText "set-order")) }).IsList l its := ⟨_, hol2, rfl, nl, rfl⟩
        unfold Builtin.«set.__init__» noKeywords Builtin.Frozenset.updateFrom
        generalize hPI : pyIter = PIt
        wp_walk
        subst hPI
        refine wpAny_pyIter_list isl2 ?_
        refine wpAny_bind (wpAny_runValue ?_)
        have lS : l < t.heap.objs.size := Heap.lt_size hol
        have calm3 : Ar.in1.in1.in1.handled = none := by simp [calm]
        have neI : l ≠ (t.heap.push { cls := .type "set", dict := none, data := .set #[] 0 (.fresh 0 0 (!wo.params.followText "set-order")) }).objs.size := by
          rw [Heap.size_push]
          exact Nat.ne_of_lt (Nat.lt_succ_of_lt lS)
        have notF : t.heap.objs.size ∉ [(t.heap.push { cls := .type "set", dict := none, data := .set #[] 0 (.fresh 0 0 (!wo.params.followText "set-order")) }).objs.size, l] := by
          rw [Heap.size_push]
          simp only [List.mem_cons, List.not_mem_nil, or_false, not_or]
          exact ⟨Nat.ne_of_lt (Nat.lt_succ_self _), Nat.ne_of_gt lS⟩
        have vals : ∀ (i : Nat) (v : Value), its[i]? = some v → ∃ k u, ns[i]? = some k ∧ v = .int k u := fun i v hv => by
          have hi : i < ns.length := by
            rw [← len]
            exact (Array.getElem?_eq_some_iff.mp hv).1
          obtain ⟨u, e⟩ := PyProof.Rows.IntsAre.int_at intsA i v (by rw [Array.getElem?_toList]; exact hv)
          refine ⟨ns[i], u, List.getElem?_eq_getElem hi, ?_⟩
          rw [e, List.getD_eq_getElem?_getD, List.getElem?_eq_getElem hi] <;> rfl
        refine set_update_ints ((Walks.list calm3 _ l neI its).toS) t.heap.objs.size notF ns len few vals (its.size - 0) 0 _ (by omega) (Nat.zero_le _) ⟨⟨_, Heap.get?_push_size _ rfl, rfl, rfl⟩, (isl2.push _)⟩ ?first ?last
        case first =>
          exact ⟨0, Nat.le_refl 0, setR_new_at (Heap.get?_push_of_some _ hS)⟩
        case last =>
          intro t3 c3 mv hc3 hS3
          obtain ⟨hN, g3, d3, k3, os3⟩ := t3
          obtain rfl : g3 = t.gens := mv.gens
          obtain rfl : d3 = t.drawn := mv.drawn
          obtain rfl : os3 = t.os := mv.os
          show wpAny _ _ _ _ _ _
          refine wpAny_pure ?_
          show wpAny _ _ (ret Value.none) _ _ _
          rw [len] at hc3
          refine wpAny_pure ⟨rfl, hN, k3, c3, rfl, hS3, hc3, fun b ob e => ?_⟩
          have b0 : b < t.heap.objs.size := Heap.lt_size e
          have b2 : b ≠ (t.heap.push { cls := .type "set", dict := none, data := .set #[] 0 (.fresh 0 0 (!wo.params.followText "set-order")) }).objs.size := by
            rw [Heap.size_push]
            exact Nat.ne_of_lt (Nat.lt_succ_of_lt b0)
          exact mv.heap b ob (by simp only [List.mem_cons, List.not_mem_nil, or_false, not_or]; exact ⟨Nat.ne_of_lt b0, b2⟩) (Heap.get?_push_of_some _ (Heap.get?_push_of_some _ e))
      · cases r2 with
        | error e => exact hr2
        | ok fl2 =>
          cases fl2 with
          | ret r =>
            obtain ⟨rfl, hN, k, c2, rfl, hS2, hc2, hk2⟩ := hr2
            repeat (any_goals (first | assumption | wp_step))
            exact goal _ _ _ hS2 hc2 hk2
          | _ => exact hr2.elim
    | _ => exact hr.elim
end
/-- set(l), l a list of ints -/
def rSetI (K : PySem.W.Frag) (w : World) : List V → Hp → VK → Prop := fun vs H Q => ∃ (a : Addr) (ns : List Int), vs = [V.ref a] ∧ SqL K H a (ns.map V.int) ∧ ns.length + 1 < scanBound ∧ ∀ p c, H p = none → c ≤ ns.length → Q (.ref p) (upd H p (SetO w p (fun j => decide (j ∈ ns)) c))
theorem call_setI {X : Cx} (hc : X.calm = true) : CallR X (.type "set") (rSetI X.K X.w) := by
  intro pins s σ H vs us Q I r h
  obtain ⟨a, ns, rfl, hl, few, q⟩ := h
  rw [Vals.ref1 r]
  obtain ⟨its, rv, pl, _⟩ := I.list hl
  refine set_of_list ns (I.ok.hd hc) pl.isList (by rw [List.toList_toArray]; exact intsAre_of rv) few fun hN k c new hcl keep => ?_
  exact ⟨.ref _, upd H s.heap.objs.size (SetO X.w s.heap.objs.size (fun j => decide (j ∈ ns)) c), I.laid (t' := k) keep (Nat.le_refl _) (setO_new new), rfl, q _ c (I.hok.fresh (Nat.le_refl _)) hcl⟩
end CL

namespace CS
open PySem PySem.Spec PyProof.Rows L2
/-! ### more rules beside the layer's -/
section
variable {X : Cx}
/-- o.f as a target -/
def gFld (K : PySem.W.Frag) (to : TE) (f : Str) : TG := fun v σ H Q => to σ H fun x H1 => ∃ a C dx fs, x = .ref a ∧ H1 a = some (.ins C dx fs) ∧ Cls K C ∧ NoAttr K C f ∧ fs.length < 1000 ∧ Q σ (upd H1 a (.ins C dx (putF f v fs)))
theorem pg_fld {o : Expr} {f : Str} {pos : Pos} {to : TE} (ho : PE X o to) : PG X (.Attribute o f pos) (gFld X.K to f) := by
  refine ⟨fun pins s σ H v u Q I r h => ?_⟩
  rw [assign_Attribute]
  refine wpAny_bind (wpAny_holding (thn (ho.run pins s σ H _ I h) fun ov s1 ⟨x, H1, I1, r1, a, C, dx, fs, ex, ea, c, n, l, q⟩ => ?_))
  subst ex
  obtain rfl : ov = Value.ref a := r1
  refine wpAny_bind (wpAny_standAt (wpAny_bind (wpAny_holding (setattr_ok I1 ea c n l r fun s3 I3 => ?_))))
  exact wpAny_release ⟨σ, _, I3, q⟩
theorem pe_fldK {e : Expr} {f : Str} {pos : Pos} {ta : TE} (K : PySem.W.Frag) (hk : X.K = K) (he : PE X e ta) (hb : attributeBase e f X.env (eval e X.env) = eval e X.env) : PE X (.Attribute e f pos) (tFld K ta f) := by
  subst hk
  exact pe_fld he hb
def rLenQ (K : PySem.W.Frag) : List V → Hp → VK → Prop := fun xs H Q => ∃ p ys, xs = [.ref p] ∧ (SqL K H p ys ∨ SqT K H p ys) ∧ Q (.int ys.length) H
def rListQ (K : PySem.W.Frag) : List V → Hp → VK → Prop := fun xs H Q => ∃ p ys, xs = [.ref p] ∧ (SqL K H p ys ∨ SqT K H p ys) ∧ ∀ l, H l = none → Q (.ref l) (upd H l (.lst ys))
def rTupleQ (K : PySem.W.Frag) : List V → Hp → VK → Prop := fun xs H Q => ∃ p ys, xs = [.ref p] ∧ ((SqL K H p ys ∧ ∀ l, H l = none → Q (.ref l) (upd H l (.tup ys))) ∨ (SqT K H p ys ∧ Q (.ref p) H))
/-- // by a divisor of either sign -/
def CDivNW (_ j : Int) : Prop := j ≠ 0 ∧ j.natAbs.log2 < 9000
theorem op_fdivNW : OpR X (binaryOp .FloorDiv) (rI CDivNW fun i j => .int (i.fdiv j)) := opI fun _ _ _ _ _ _ _ hc q => floordiv_int hc.1 q (.inl (PyProof.noPylong_of_log2 hc.2))
theorem wide_divN {i j : Int} {b : Nat} (h : j ≠ 0) (hb : j.natAbs < 2 ^ b) (h0 : 0 < b) (h9 : b ≤ 9000) : CDivNW i j := ⟨h, Nat.lt_of_lt_of_le (PySem.Flt.log2_lt_of h0 hb) h9⟩
theorem kit_self {K : PySem.W.Frag} {C : Addr} : PySem.W.kitOne K (.ref C) (.ref C) = some true := by
  unfold PySem.W.kitOne
  rw [if_pos (by simp)]
theorem pe_revLK {e : Expr} {te : TE} {k : Nat} {p1 p2 p3 pos : Pos} (K : PySem.W.Frag) (hk : X.K = K) (he : PE X e te) : PE X (.Subscript e (.Slice none none (some (.UnaryOp .USub (.Constant (.int 1) k p1) p2)) p3) pos) (tRevL K te) := by
  subst hk
  exact pe_revL he
/-- x in s, a list or a tuple of data -/
def rInQ (K : PySem.W.Frag) : R2 := fun x y H Q => ∃ d ds, Dp K H x d ∧ (Dp K H y (.list ds) ∨ Dp K H y (.tuple ds)) ∧ SeqAt.shaped d = true ∧ SeqAt.shaped (.list ds) = true ∧ Q (.bl (ds.any fun z => PyData.eqv z d)) H
def rNotInQ (K : PySem.W.Frag) : R2 := fun x y H Q => ∃ d ds, Dp K H x d ∧ (Dp K H y (.list ds) ∨ Dp K H y (.tuple ds)) ∧ SeqAt.shaped d = true ∧ SeqAt.shaped (.list ds) = true ∧ Q (.bl (!ds.any fun z => PyData.eqv z d)) H
theorem op_inQ (hu : X.A.units + 65 < cLine) : OpR X (compareOp .In) (rInQ X.K) := by
  intro pins s σ H x y v u Q I rx ry h
  obtain ⟨d, ds, hd, he, sd, se, q⟩ := h
  obtain ⟨as, r1⟩ := Dp.reads I d x v hd rx
  rcases he with he | he
  · obtain ⟨bs, r2⟩ := Dp.reads I (.list ds) y u he ry
    exact SeqAt.in_list_reads r2 r1 (SeqAt.canLay_of_shaped se) (SeqAt.canLay_of_shaped sd) (room_in_shaped sd hu) ⟨.bl _, H, I, rfl, q⟩
  · obtain ⟨bs, r2⟩ := Dp.reads I (.tuple ds) y u he ry
    exact SeqAt.in_tuple_reads r2 r1 (SeqAt.canLay_of_shaped se) (SeqAt.canLay_of_shaped sd) (room_in_shaped sd hu) ⟨.bl _, H, I, rfl, q⟩
theorem op_notInQ (hu : X.A.units + 65 < cLine) : OpR X (compareOp .NotIn) (rNotInQ X.K) := by
  intro pins s σ H x y v u Q I rx ry h
  obtain ⟨d, ds, hd, he, sd, se, q⟩ := h
  obtain ⟨as, r1⟩ := Dp.reads I d x v hd rx
  rcases he with he | he
  · obtain ⟨bs, r2⟩ := Dp.reads I (.list ds) y u he ry
    exact SeqAt.notIn_list_reads r2 r1 (SeqAt.canLay_of_shaped se) (SeqAt.canLay_of_shaped sd) (room_in_shaped sd hu) ⟨.bl _, H, I, rfl, q⟩
  · obtain ⟨bs, r2⟩ := Dp.reads I (.tuple ds) y u he ry
    exact SeqAt.notIn_tuple_reads r2 r1 (SeqAt.canLay_of_shaped se) (SeqAt.canLay_of_shaped sd) (room_in_shaped sd hu) ⟨.bl _, H, I, rfl, q⟩
end
end CS

-- dictcomps
namespace CD
open PySem PySem.Spec PyProof.Rows L2
/-- d[key] = v where the key is a tuple, within a comprehension -/
theorem putT {X : Cx} {pins : List (Addr × Obj)} {σ : L2.St} {H : Hp} {s : Shared} {E : Value → Shared → Prop} {D b : Addr} {kvs : List (List L2.Key × V)} {k : List L2.Key} {v : V} {r : Value} {Q : Unit → Shared → Prop} (hu : X.A.units + 1 < cLine)
    (I : Inv X pins σ H s) (hD : H D = some (.dT kvs)) (hz : kvs.length < sizeLine) (hb : H b = some (.tup (k.map kV))) (rv : RelV v r) (h : ∀ s2, Inv X pins σ (upd H D (.dT (putK kvs k v))) s2 → Q () s2) : wpAny (model X.prog X.w) X.A (dictSet D (.ref b) r) Q E s := by
  obtain ⟨z, hd, xs, rel, dd⟩ := dt_of I.hok hD
  have l1 : xs.length ≤ sizeLine := Paired.length rel ▸ z
  have l2 : (putK kvs k v).length ≤ sizeLine := Nat.le_trans (length_putK kvs k v) hz
  have hroom : (tupleKind (mixKind X.prog X.w)).room X.A := Nat.lt_of_succ_lt hu
  refine wpAny_dictSet_heap (hsz := l1) hroom (key_of I.hok hb) dd fun g dg sb => h _ ?_
  obtain ⟨q, es, ep, hq, c2, c3, c4, _, c5⟩ := dg
  refine d_write I (by rw [hD]; exact True.intro) sb ⟨q, hq⟩ ⟨l2, hd, _, (rel.put k hb rv).keeps (fun c ys ec => ?_), q, es, ep, hq, c2, c3, c4, c5⟩
  rw [upd_ne (ne_of ec hD (fun z => nomatch z))]
  exact ec
section
variable {X : Cx}
/-- {k: v for target in iter if ..} where the keys are tuples -/
def tDcT (wi : TI) (g : TG) (tt : TT) (tk tv : TE) (vs : List Nat) : TE := fun σ H Q => wi σ H fun J H1 => ∀ D, H1 D = none → ∃ W : Nat → Nat → Hp → Prop, (∃ m, W 0 m (upd H1 D (.dT []))) ∧ ∀ i m H, W i m H →
  (J.stop i H ∧ Q (.ref D) H) ∨ (J.go i H ∧ ∃ Nx : Hp → Prop, (∀ H', Nx H' → ∃ m', m' < m ∧ W (i + 1) m' H') ∧ ∀ x H', J.yld i H x H' → g x (wipe σ vs) H' fun σ2 H2 => wipe σ2 vs = wipe σ vs ∧ tt σ2 H2 fun b H3 =>
    if b = true then tk σ2 H3 fun y H4 => tv σ2 H4 fun z H5 => ∃ kvs k b, y = .ref b ∧ H5 b = some (.tup (k.map kV)) ∧ H5 D = some (.dT kvs) ∧ kvs.length < sizeLine ∧ Nx (upd H5 D (.dT (putK kvs k z))) else Nx H3)
theorem dcT_run {pins : List (Addr × Obj)} {s : Shared} {σ : L2.St} {H : Hp} {Q : VK} {kx vx tg iter : Expr} {ifs : List Expr} {scope : Scope} {own : List (Str × Nat)} {pos pos' : Pos} {wi : TI} {g : TG} {tt : TT} {tk tv : TE} {use : Option (Value → Sem Unit)} {Qf : Value → Shared → Prop}
    (hu : X.A.units + 1 < cLine) (calm : X.calm = true) (nod : X.N.Nodup) (I : Inv X pins σ H s) (hi : PI X tg iter wi) (ok : BlkOk X.N X.env.scope scope own)
    (gg : ∀ (s : Shared) (H : Hp) (C : Addr) (cl : List (Str × Addr)) (fp : List Addr), PG (X.blk s H scope (compEnvC scope cl C X.env) fp) tg g)
    (gt : ∀ (s : Shared) (H : Hp) (C : Addr) (cl : List (Str × Addr)) (fp : List Addr), PTs (X.blk s H scope (compEnvC scope cl C X.env) fp) ifs tt)
    (gk : ∀ (s : Shared) (H : Hp) (C : Addr) (cl : List (Str × Addr)) (fp : List Addr), PE (X.blk s H scope (compEnvC scope cl C X.env) fp) kx tk)
    (gv : ∀ (s : Shared) (H : Hp) (C : Addr) (cl : List (Str × Addr)) (fp : List Addr), PE (X.blk s H scope (compEnvC scope cl C X.env) fp) vx tv) (fold : ∀ x, foldedSetIterable iter X.env x = pure x)
    (h : tDcT wi g tt tk tv (own.map (·.2)) σ H Q)
    (post : ∀ D C s' m H', Inv X pins σ H' s' → Q (.ref D) H' → s'.heap.Ns C m → FpOk X pins H' C → compPost (model X.prog X.w) X.A X.xe use Qf (.ref D) C (.ok .next) s') :
    wpAny (model X.prog X.w) X.A (comprehension (.DictComp kx vx [⟨tg, iter, ifs, 0⟩] scope pos) scope X.env pos' newDict false (eval iter X.env) use) Qf X.xe s := by
  have hasC : ∀ y ∈ scope.names, y.2 = .free → ∃ c, X.env.cells.lookup y.1 = some c := fun y hy e => I.ok.has _ (ok.free y hy e)
  refine wpAny_comprehension_free (use := use) rfl fold (closure_ok hasC) ok.kind (fun y hy e => by rw [ok.uniq y hy, e]) (thn (hi.run pins s σ H _ I h) fun xv s1 hx => thn hx fun itv s2 h2 => ?_)
  obtain ⟨it, fp, tn, J, H2, rfl, I2, T, at2, free2, q⟩ := h2
  refine wpAny_newObj_type (newEnv_comp ?_)
  generalize eD : s2.heap.objs.size = D
  have newD : H2 D = none := I2.hok.fresh (Nat.le_of_eq eD)
  obtain ⟨W, ⟨m0, w0⟩, turn⟩ := q D newD
  generalize es3 : ({ s2 with heap := s2.heap.push { cls := .type "dict", data := .dict #[] } } : Shared) = s3
  have hp3 : s3.heap = s2.heap.push { cls := .type "dict", data := .dict #[] } := by rw [← es3]
  generalize eH3 : upd H2 D (.dT []) = H3
  have I3 : Inv X pins σ H3 s3 := by
    subst es3 eH3
    refine I2.laid (t' := s2.toks) (fun b o e => Heap.get?_push_of_some _ e) (Nat.le_of_eq eD) ?_
    subst eD
    exact dt_empty s2.heap I2.big
  have low : ∀ b ∈ fp, b < s2.heap.objs.size := fun b hb => let ⟨_, e, _⟩ := T.obj _ _ at2 b hb; Heap.lt_size e
  have free3 : ∀ b ∈ fp, FpOk X pins H3 b ∧ b < s3.heap.objs.size := fun b hb => by
    have lt := low b hb
    refine ⟨⟨?_, (free2 b hb).2⟩, by rw [hp3, Heap.size_push]; exact Nat.lt_succ_of_lt lt⟩
    rw [← eH3, upd_ne (by rw [← eD]; exact Nat.ne_of_lt lt)]
    exact (free2 b hb).1
  have at3 : tn 0 s3.heap := T.keep _ _ _ at2 fun b _ o e => hp3 ▸ Heap.get?_push_of_some _ e
  have I4 := block_start I3 ok nod free3
  generalize eC : s3.heap.objs.size = C at I4
  generalize ecl : cellsFrom (C + 1) scope.names (cloFrom X.env.cells scope.names []) = cl at I4
  have pg := gg s3 H3 C cl fp
  have pt := gt s3 H3 C cl fp
  have pk := gk s3 H3 C cl fp
  have pv := gv s3 H3 C cl fp
  have none3 : ∀ b ∈ fp, H3 b = none := fun b hb => (free3 b hb).1.1
  subst ecl eC
  generalize ece : compEnvC scope (cellsFrom (s3.heap.objs.size + 1) scope.names (cloFrom X.env.cells scope.names [])) s3.heap.objs.size X.env = ce at I4 pg pt pk pv
  have loc : ce.locals = s3.heap.objs.size := by subst ece; rfl
  generalize es4 : ({ s3 with heap := pushCells (s3.heap.push { cls := .type "dict", data := .dict #[] }) scope.names } : Shared) = s4 at I4
  have at4 : tn 0 s4.heap := T.keep _ _ _ at3 fun b _ o e => es4 ▸ pushCells_keeps _ _ _ _ (Heap.get?_push_of_some _ e)
  have wEq : W 0 m0 H3 := eH3 ▸ w0
  have quiet : ∀ {τ : L2.St} {G : Hp} {t : Shared}, Inv (X.blk s3 H3 scope ce fp) [] τ G t → (∀ b ∈ fp, G b = none) → ∀ b ∈ fp, FpOk (X.blk s3 H3 scope ce fp) [] G b := fun {τ G t} J hn b hb =>
    ⟨hn b hb, (J.ok.exf b hb).1, J.ok.exfs b hb, .inl hb, (J.ok.exf b hb).2, fun p hp => absurd (show p ∈ ([] : List (Addr × Obj)) ++ [] from hp) (by simp)⟩
  have run : codeAny (model X.prog X.w) X.A (.compLoop (.DictComp kx vx [⟨tg, iter, ifs, 0⟩] scope pos) 0 (.ref it) (.ref D) ce) (compPost (model X.prog X.w) X.A X.xe use Qf (.ref D) s3.heap.objs.size) s4 := by
    refine compLoop_anyD (fun n t => ∃ i G, Inv (X.blk s3 H3 scope ce fp) [] (wipe σ (own.map (·.2))) G t ∧ tn i t.heap ∧ (∀ b ∈ fp, G b = none) ∧ W i n G) ?_ m0 ⟨0, H3, I4, at4, none3, wEq⟩
    rintro n t5 ⟨i, G5, I5, at5, n5, w5⟩
    rcases turn i n G5 w5 with ⟨stop, qq⟩ | ⟨go, Nx, hNx, step⟩
    · refine thnF (T.done (X.blk s3 H3 scope ce fp) rfl rfl rfl calm i [] t5 _ G5 (fun _ _ => False) I5 (quiet I5 n5) at5 stop) fun r t6 ⟨er, I6⟩ => ?_
      subst er
      have I7 : Inv X pins σ G5 t6 := I3.call' (ch := fp) I6.os I6.base I6.hok I6.bare fun b hb => let z := (free3 b hb).1.2; ⟨z.2.2.1, z.1, z.2.2.2.1, z.2.2.2.2⟩
      have nC : G5 s3.heap.objs.size = none := loc ▸ (show G5 ce.locals = none from I6.free)
      obtain ⟨m, hn, _⟩ := I6.loc
      replace hn : t6.heap.Ns s3.heap.objs.size m := loc ▸ (show t6.heap.Ns ce.locals m from hn)
      exact post D s3.heap.objs.size t6 m G5 I7 qq hn (I3.fpOk (Nat.le_refl _) nC)
    · refine thnF (T.item (X.blk s3 H3 scope ce fp) rfl rfl rfl calm i [] t5 _ G5 (fun _ _ => False) I5 (quiet I5 n5) at5 go) fun r t6 ⟨u, er, h6⟩ => ?_
      subst er
      refine thnF h6 fun _ t7 ⟨x, G7, I7, r7, y7, at7, n7⟩ => ?_
      refine thnF (pg.run _ t7 _ G7 x u _ (I7.pinned (quiet I7 n7) (T.obj _ _ at7)) r7 (step x G7 y7)) fun _ t8 ⟨σ8, G8, I8, hw, q8⟩ => ?_
      refine thnF (pt.run _ t8 σ8 G8 _ I8 q8) fun b t9 ⟨G9, I9, q9⟩ => ?_
      have fin : ∀ {t : Shared} {G : Hp}, Inv (X.blk s3 H3 scope ce fp) ([] ++ pinsAt fp t7.heap) σ8 G t → Nx G → ∃ m, m < n ∧ ∃ j G2, Inv (X.blk s3 H3 scope ce fp) [] (wipe σ (own.map (·.2))) G2 t ∧ tn j t.heap ∧ (∀ b ∈ fp, G2 b = none) ∧ W j m G2 := fun {t G} IG nx => by
        obtain ⟨m2, lt, w2⟩ := hNx G nx
        have stay : ∀ b ∈ fp, ∀ o, t7.heap.get? b = some o → t.heap.get? b = some o ∧ G b = none := fun b hb o e => ⟨(IG.pin (b, o) (List.mem_append_right _ (List.mem_append_right _ (mem_pinsAt hb e)))).1, (IG.pin (b, o) (List.mem_append_right _ (List.mem_append_right _ (mem_pinsAt hb e)))).2.1⟩
        have len : (wipe σ (own.map (·.2))).length = σ8.length := by rw [← hw, wipe_length]
        refine ⟨m2, lt, i + 1, G, (IG.unpinned (pins := [])).weak len (fun j v e => (wipe_some (hw ▸ e)).1), T.keep _ _ _ at7 fun b hb o e => (stay b hb o e).1, fun b hb => ?_, w2⟩
        obtain ⟨o, e, _⟩ := T.obj _ _ at7 b hb
        exact (stay b hb o e).2
      cases b with
      | false =>
        rw [if_neg Bool.false_ne_true] at q9 ⊢
        exact fin I9 q9
      | true =>
        rw [if_pos rfl] at q9 ⊢
        refine thnF (pk.run _ t9 σ8 G9 _ I9 q9) fun z ta ⟨yk, Ga, Ia, ra, qa⟩ => ?_
        refine thnF (pv.run _ ta σ8 Ga _ Ia qa) fun z2 tb ⟨yv, Gb, Ib, rb, kvs, k, bb, ek, hbb, hDb, hz, nx⟩ => ?_
        subst ek
        cases (show z = Value.ref bb from ra)
        exact putT (X := X.blk s3 H3 scope ce fp) hu Ib hDb hz hbb rb fun tc Ic => fin Ic nx
  subst ece
  exact codeAny_compStart_dict run (T.self X.A 0 _ _ _ at4 run)
theorem pe_dcT {kx vx tg iter : Expr} {ifs : List Expr} {scope : Scope} {own : List (Str × Nat)} {pos : Pos} {wi : TI} {g : TG} {tt : TT} {tk tv : TE} (hu : X.A.units + 1 < cLine) (calm : X.calm = true) (nod : X.N.Nodup) (hi : PI X tg iter wi) (ok : BlkOk X.N X.env.scope scope own)
    (gg : ∀ (s : Shared) (H : Hp) (C : Addr) (cl : List (Str × Addr)) (fp : List Addr), PG (X.blk s H scope (compEnvC scope cl C X.env) fp) tg g)
    (gt : ∀ (s : Shared) (H : Hp) (C : Addr) (cl : List (Str × Addr)) (fp : List Addr), PTs (X.blk s H scope (compEnvC scope cl C X.env) fp) ifs tt)
    (gk : ∀ (s : Shared) (H : Hp) (C : Addr) (cl : List (Str × Addr)) (fp : List Addr), PE (X.blk s H scope (compEnvC scope cl C X.env) fp) kx tk)
    (gv : ∀ (s : Shared) (H : Hp) (C : Addr) (cl : List (Str × Addr)) (fp : List Addr), PE (X.blk s H scope (compEnvC scope cl C X.env) fp) vx tv) (fold : ∀ x, foldedSetIterable iter X.env x = pure x := by intro _; rfl) :
    PE X (.DictComp kx vx [⟨tg, iter, ifs, 0⟩] scope pos) (tDcT wi g tt tk tv (own.map (·.2))) := by
  refine ⟨fun pins s σ H Q I h => ?_⟩
  rw [arm_eval_DictComp]
  refine dcT_run hu calm nod I hi ok gg gt gk gv fold h fun D C t m G IG q hn f => ⟨m, hn, fun g2 sb => ?_⟩
  exact ⟨.ref D, G, IG.turned (t' := t.toks) (fun b o hb e => (sb.2 b hb).trans e) f.1 f.2.1 f.2.2.2.1 f.2.2.2.2.1 f.2.2.2.2.2, rfl, q⟩
end
/-- over anything that is walked: the keys and values are known from the start -/
theorem dcT_it {J : It} {n : Nat} {G : Hp → Prop} {Y : Nat → Hp → V → Hp → Prop} (w : Walk J n G Y) {g : TG} {tt : TT} {tk tv : TE} {vs : List Nat} {σ : L2.St} {H1 : Hp} {D : Addr} {Qd : Hp → Prop} (Pv : Nat → Hp → Prop) (h0 : Pv 0 (upd H1 D (.dT []))) (hl : ∀ i H, i ≤ n → Pv i H → G H)
    (hs : ∀ i x H H2, i < n → Pv i H → Y i H x H2 → g x (wipe σ vs) H2 fun σ2 H3 => wipe σ2 vs = wipe σ vs ∧ tt σ2 H3 fun b H4 =>
      if b = true then tk σ2 H4 fun y H5 => tv σ2 H5 fun z H6 => ∃ kvs k b, y = .ref b ∧ H6 b = some (.tup (k.map kV)) ∧ H6 D = some (.dT kvs) ∧ kvs.length < sizeLine ∧ Pv (i + 1) (upd H6 D (.dT (putK kvs k z))) else Pv (i + 1) H4)
    (hd : ∀ H, Pv n H → Qd H) :
    ∃ W : Nat → Nat → Hp → Prop, (∃ m, W 0 m (upd H1 D (.dT []))) ∧ ∀ i m H, W i m H →
      (J.stop i H ∧ Qd H) ∨ (J.go i H ∧ ∃ Nx : Hp → Prop, (∀ H', Nx H' → ∃ m', m' < m ∧ W (i + 1) m' H') ∧ ∀ x H', J.yld i H x H' → g x (wipe σ vs) H' fun σ2 H2 => wipe σ2 vs = wipe σ vs ∧ tt σ2 H2 fun b H3 =>
        if b = true then tk σ2 H3 fun y H4 => tv σ2 H4 fun z H5 => ∃ kvs k b, y = .ref b ∧ H5 b = some (.tup (k.map kV)) ∧ H5 D = some (.dT kvs) ∧ kvs.length < sizeLine ∧ Nx (upd H5 D (.dT (putK kvs k z))) else Nx H3) := by
  refine ⟨fun i m H => m = n - i ∧ i ≤ n ∧ Pv i H, ⟨n, rfl, Nat.zero_le _, h0⟩, ?_⟩
  rintro i m H ⟨rfl, hi, p⟩
  have q := hl i H hi p
  by_cases c : i < n
  · exact .inr ⟨w.goes i H c q, Pv (i + 1), fun H2 p2 => ⟨n - (i + 1), by omega, rfl, c, p2⟩, fun x H2 y => hs i x H H2 c p (w.yields i H x H2 c q y)⟩
  · obtain rfl : i = n := by omega
    exact .inl ⟨w.stops H q, hd H p⟩
/-- kvs with the pairs of more put in -/
def mergeT (kvs more : List (List L2.Key × V)) : List (List L2.Key × V) := more.foldl (fun acc p => putK acc p.1 p.2) kvs
theorem mergeT_len (kvs : List (List L2.Key × V)) : ∀ more : List (List L2.Key × V), (mergeT kvs more).length ≤ kvs.length + more.length := fun more => by
  induction more generalizing kvs with
  | nil => exact Nat.le_refl _
  | cons p r ih =>
    have a := ih (putK kvs p.1 p.2)
    have b := length_putK kvs p.1 p.2
    simp only [mergeT, List.foldl_cons, List.length_cons] at *
    omega
theorem KT.merge {H : Hp} : ∀ {more : List (List L2.Key × V)} {ys : List (List L2.Key × Addr × Value)} {kvs : List (List L2.Key × V)} {xs : List (List L2.Key × Addr × Value)}, KT H more ys → KT H kvs xs → KT H (mergeT kvs more) (storedAllH xs ys)
  | _, _, _, _, .nil, h => h
  | (k, v) :: _, (k2, b, u) :: _, kvs, xs, .cons ⟨e, hb, rv⟩ t, h => by
    obtain rfl : k = k2 := e
    exact KT.merge (kvs := putK kvs k v) (xs := storedH xs k b u) t (h.put k hb rv)
section
variable {X : Cx}
/-- d.update(e), both keyed by tuples -/
def rUpdT : V → List V → Hp → VK → Prop := fun x xs H Q => ∃ (a b : Addr) (kvs more : List (List L2.Key × V)), x = .ref a ∧ xs = [.ref b] ∧ a ≠ b ∧ H a = some (.dT kvs) ∧ H b = some (.dT more) ∧ (kvs ≠ [] ∨ more = []) ∧ kvs.length + more.length ≤ sizeLine ∧ Q .non (upd H a (.dT (mergeT kvs more)))
theorem mt_updT (hu : X.A.units + 1 < cLine) : MtR X "dict.update" rUpdT := by
  intro pins s σ H x xs v us Q I rx rxs h
  obtain ⟨a, b, kvs, more, rfl, rfl, ne, ha, hb, nn, le, q⟩ := h
  cases rx
  cases rxs with
  | cons r1 r2 =>
    cases r1
    cases r2
    obtain ⟨z, hd, xs1, rel, dd⟩ := dt_of I.hok ha
    obtain ⟨z2, hd2, xs2, rel2, dd2⟩ := dt_of I.hok hb
    have l1 : kvs.length = xs1.length := Paired.length rel
    have l2 : more.length = xs2.length := Paired.length rel2
    refine call_update_dictH (tupleKind_room_in1 hu) ne hd2 dd dd2 (nn.imp (fun nn e => nn (List.length_eq_zero_iff.mp (by rw [l1, e]; rfl))) fun e => (by
      have e2 : xs2 = [] := List.length_eq_zero_iff.mp (by rw [← l2, e]; rfl)
      rw [e2]
      exact ⟨(fun x hx => by cases hx), .nil⟩)) (by omega) fun h' dd' _ hs => ?_
    obtain ⟨o, es, ep, hq, h2, h3, h4, _, h5⟩ := dd'
    refine ⟨.non, _, d_write (ob := .dT (mergeT kvs more)) (t' := s.toks) I (by rw [ha]; exact True.intro) hs ⟨o, hq⟩ ⟨Nat.le_trans (mergeT_len kvs more) le, hd, _, (KT.merge rel2 rel).keeps (fun c ys ec => (by rw [upd_ne (ne_of ec ha (fun z => nomatch z))]; exact ec)), o, es, ep, hq, h2, h3, h4, h5⟩, rfl, q⟩
end
end CD

namespace CD
open PySem PySem.Spec PyProof.Rows L2
/-- the view d.values() -/
def valsO (p d : Addr) : HO := .ext fun h => h.IsValuesView p d
theorem DTpget {α β : Type} {F : α → β → Prop} : ∀ {l₁ : List α} {l₂ : List β} {j : Nat} {x : β}, Paired F l₁ l₂ → l₂[j]? = some x → ∃ y, l₁[j]? = some y ∧ F y x
  | _, _, _, _, .nil, h => by simp at h
  | _, _, 0, _, .cons r _, h => ⟨_, rfl, by obtain rfl := Option.some.inj h; exact r⟩
  | _, _, j + 1, _, .cons _ t, h => DTpget (j := j) t h
section
variable {X : Cx}
def rValuesT : V → List V → Hp → VK → Prop := fun x xs H Q => ∃ (a : Addr) (kvs : List (List L2.Key × V)), x = .ref a ∧ xs = [] ∧ H a = some (.dT kvs) ∧ ∀ p, H p = none → Q (.ref p) (upd H p (valsO p a))
theorem mt_valuesT : MtR X "dict.values" rValuesT := by
  intro pins s σ H x xs v us Q I rx rxs h
  obtain ⟨a, kvs, rfl, rfl, ha, q⟩ := h
  cases rx
  cases rxs
  obtain ⟨z, hd, ys, rel, o, es, ep, ho, hx, hdat, _⟩ := dt_of I.hok ha
  have raw : s.heap.DictRaw a es ep := ⟨o, ho, hx, hdat⟩
  refine call_meetsIn PySem.F.slot_dict_values raw.typeIs PySem.F.entry_dict_values (PySem.F.args_dict_values_1 _) (meets_dict_values_raw a hd) ⟨⟨es, ep, raw⟩, ?_⟩
  have new : ObjOk X.prog X.w (upd H s.heap.objs.size (valsO s.heap.objs.size a)) (s.heap.push { cls := .type "dict_values", data := .fields #[.ref a] }) s.heap.objs.size (valsO s.heap.objs.size a) :=
    ⟨⟨_, Heap.get?_push_size _ rfl, rfl, rfl⟩, ⟨_, Heap.get?_push_size _ rfl⟩, fun h1 h2 y k => let ⟨u, hu, r⟩ := y; ⟨u, k u hu, r⟩⟩
  exact ⟨.ref s.heap.objs.size, _, I.laid (t' := s.toks) (fun b u e => Heap.get?_push_of_some _ e) (Nat.le_refl _) new, rfl, q _ (I.hok.fresh (Nat.le_refl _))⟩
/-- max(d.values()), whole numbers -/
def rMaxT : List V → Hp → VK → Prop := fun xs H Q => ∃ (p a : Addr) (kvs : List (List L2.Key × V)) (is : List Int), xs = [.ref p] ∧ H p = some (valsO p a) ∧ H a = some (.dT kvs) ∧ kvs.map (·.2) = is.map V.int ∧ is ≠ [] ∧ ∀ m, m ∈ is → (∀ j ∈ is, j ≤ m) → Q (.int m) H
theorem cr_maxT (calm : X.calm = true) : CallR X (.builtin "max") rMaxT := by
  intro pins s σ H xs us Q I r h
  obtain ⟨p, a, kvs, is, rfl, hp, ha, hv, hne, q⟩ := h
  rw [Vals.ref1 r]
  obtain ⟨z, hd, ys, rel, o, es, ep, ho, hx, hdat, hes, _⟩ := dt_of I.hok ha
  have raw : s.heap.DictRaw a es ep := ⟨o, ho, hx, hdat⟩
  have view : s.heap.IsValuesView p a := (show ObjOk X.prog X.w H s.heap p (valsO p a) from I.hok p _ hp).1
  have l1 : es.size = ys.length := by rw [← Array.length_toList, hes, List.length_map]
  have l2 : kvs.length = ys.length := Paired.length rel
  have l3 : is.length = kvs.length := by
    have := congrArg List.length hv
    rw [List.length_map, List.length_map] at this
    exact this.symm
  have hval : ∀ (i : Nat) (v : Value), (∃ hi : i < es.size, v = es[i].val) → ∃ t, v = Value.int (is.getD i 0) t := fun i v ⟨hi, e⟩ => by
    subst e
    have iy : i < ys.length := by omega
    have e1 : es[i] = entryOfKey (tupleKind (mixKind X.prog X.w)) ys[i] := by
      have : es.toList[i]? = some es[i] := by rw [Array.getElem?_toList, Array.getElem?_eq_getElem hi]
      rw [hes, List.getElem?_map, List.getElem?_eq_getElem iy] at this
      exact (Option.some.inj this).symm
    obtain ⟨y, hy, f1, f2, f3⟩ := DTpget rel (List.getElem?_eq_getElem iy)
    have e2 : (kvs.map (·.2))[i]? = some y.2 := by rw [List.getElem?_map, hy]; rfl
    rw [hv, List.getElem?_map] at e2
    obtain ⟨j, hj, e3⟩ := Option.map_eq_some_iff.mp e2
    rw [← e3] at f3
    obtain ⟨t, f3⟩ := f3
    refine ⟨t, ?_⟩
    rw [e1, List.getD_eq_getElem?_getD, hj]
    exact f3
  refine call_max_walk (wpAny_pyIter_values_raw view raw ?_)
  generalize hI : s.heap.objs.size = it
  have al : a < s.heap.objs.size := Heap.lt_size ho
  generalize hh : s.heap.push { cls := .type "dict_valueiterator", data := .fields #[.ref a, .int 0 0, .int es.size 0, .int ep 0] } = h2
  have keep : ∀ b u, s.heap.get? b = some u → h2.get? b = some u := fun b u e => hh ▸ Heap.get?_push_of_some _ e
  have raw2 : h2.DictRaw a es ep := ⟨o, keep _ _ ho, hx, hdat⟩
  have at2 : h2.get? it = some { cls := .type "dict_valueiterator", data := .fields #[.ref a, .int 0 0, .int es.size 0, .int ep 0] } := by rw [← hh, ← hI]; exact Heap.get?_push_size _ rfl
  have sz2 : h2.objs.size = it + 1 := by rw [← hh, Heap.size_push, hI]
  have nea : a ≠ it := by rw [← hI]; exact Nat.ne_of_lt al
  refine ⟨it, _, _, _, _, _, _, rfl, Walks.rawValues (A := X.A.in1) (I.ok.hd calm) it a nea es ep, ⟨⟨_, at2, rfl, rfl⟩, raw2⟩, fun b hb => ?_, by have := List.length_pos_iff.mpr hne; omega, CmpOf.ints_gt (fun i => is.getD i 0) hval, fun v h3 tk hP hk => ?_⟩
  · show b < h2.objs.size
    rw [sz2]
    rcases List.mem_cons.mp hb with e | hb
    · rw [e]
      exact Nat.lt_succ_self _
    · rw [List.mem_singleton.mp hb, ← hI]
      exact Nat.lt_succ_of_lt al
  · obtain ⟨t, rfl⟩ := hval _ v hP
    obtain ⟨b1, b2⟩ := argBest_gt (fun i => is.getD i 0) (es.size - 1)
    have inb : argBest (fun i j => decide (is.getD i 0 > is.getD j 0)) (es.size - 1) < is.length := by
      have := List.length_pos_iff.mpr hne
      omega
    refine ⟨.int _, H, I.kept (t' := tk) fun b u e => hk b u (fun hm => ?_) (keep b u e), ⟨t, rfl⟩, q _ ?_ fun j hj => ?_⟩
    · have e1 : b = it := List.mem_singleton.mp hm
      have e2 := Heap.lt_size e
      rw [e1, hI] at e2
      exact absurd e2 (Nat.lt_irrefl _)
    · rw [List.getD_eq_getElem?_getD, List.getElem?_eq_getElem inb]
      exact List.getElem_mem inb
    · obtain ⟨i, hi⟩ := List.mem_iff_getElem?.mp hj
      have il := (List.getElem?_eq_some_iff.mp hi).1
      have := b2 i (by omega)
      rw [List.getD_eq_getElem?_getD, hi] at this
      exact this
end
end CD

namespace CD
open PySem PySem.Spec PyProof.Rows L2
/-- a slice's part that may be None -/
def tPartO (t : TE) : TO := fun σ H Q => t σ H fun x H1 => (x = .non ∧ Q none H1) ∨ ∃ i, x = .int i ∧ Q (some i) H1
theorem po_opt {X : Cx} {e : Expr} {te : TE} (h : PE X e te) : PO X (some e) (tPartO te) := by
  refine ⟨fun pins s σ H Q I hw => ?_⟩
  rw [evalPart_some]
  refine thn (h.run pins s σ H _ I hw) fun u s1 ⟨x, H1, I1, r1, q1⟩ => ?_
  rcases q1 with ⟨rfl, q⟩ | ⟨i, rfl, q⟩
  · obtain rfl : u = Value.none := r1
    exact ⟨none, H1, I1, .none, q⟩
  · obtain ⟨t, rfl⟩ := r1
    exact ⟨some i, H1, I1, .int i t, q⟩
end CD

namespace CD
open PySem PySem.Spec PyProof.Rows L2
/-! ### dict(xs) of a list of pairs whose keys are tuples -/
def PrT (H : Hp) (x : V) (kv : List L2.Key × V) : Prop := ∃ p b, x = V.ref p ∧ H p = some (.tup [.ref b, kv.2]) ∧ H b = some (.tup (kv.1.map kV))
section
variable {X : Cx}
def rDictT (K : PySem.W.Frag) : List V → Hp → VK → Prop := fun xs H Q => ∃ (a : Addr) (ps : List V) (kvs : List (List L2.Key × V)), xs = [.ref a] ∧ SqL K H a ps ∧ Paired (PrT H) ps kvs ∧ ∀ d, H d = none → Q (.ref d) (upd H d (.dT (mergeT [] kvs)))
theorem pairs_ofT {pins : List (Addr × Obj)} {σ : L2.St} {H : Hp} {s : Shared} (I : Inv X pins σ H s) : ∀ {ps : List V} {us : List Value} {kvs : List (List L2.Key × V)}, Paired (PrT H) ps kvs → Vals ps us →
    ∃ ys : List (List L2.Key × Addr × Value), KT H kvs ys ∧ ys.length = us.length ∧ ∀ (j : Nat) (y : List L2.Key × Addr × Value), ys[j]? = some y → ∃ p, us[j]? = some (Value.ref p) ∧ s.heap.IsTuple p #[.ref y.2.1, y.2.2]
  | _, _, _, .nil, r => by
    cases r
    exact ⟨[], .nil, rfl, fun j q e => by simp at e⟩
  | _, _, _, .cons (a := x) (b := kv) h t, r => by
    obtain ⟨p, b, rfl, hp, hb⟩ := h
    cases r with
    | cons r1 r2 =>
      cases r1
      obtain ⟨ys, rk, hl, hh⟩ := pairs_ofT I t r2
      obtain ⟨its, rv, ht, _⟩ := I.tuple (SqT.of hp)
      obtain ⟨u, y, ei, ru, ry⟩ := vals2 rv
      subst ei
      cases ru
      refine ⟨(kv.1, b, y) :: ys, .cons ⟨rfl, hb, ry⟩ rk, by rw [List.length_cons, List.length_cons, hl], fun j q e => ?_⟩
      cases j with
      | zero =>
        obtain rfl := Option.some.inj e
        obtain ⟨o, ho, hc, n, hd⟩ := ht
        exact ⟨p, rfl, o, ho, hc, n, hd⟩
      | succ j =>
        obtain ⟨p2, e1, e2⟩ := hh j q (by simpa using e)
        exact ⟨p2, by simpa using e1, e2⟩
theorem call_dictT (hcalm : X.calm = true) (hu : X.A.units + 65 < cLine) : CallR X (.type "dict") (rDictT X.K) := by
  intro pins s σ H xs us Q I r q
  obtain ⟨a, ps, kvs, rfl, hq, hp, q⟩ := q
  obtain ⟨u, rfl, rx⟩ := vals1 r
  cases rx
  obtain ⟨its, rv, pl, hz⟩ := I.list hq
  obtain ⟨ys, rk, hl, hpr⟩ := pairs_ofT I hp rv
  obtain ⟨o, n, ho, hc, hd, hdat⟩ := pl
  let Ts : Nat → Addr := fun j => match its[j]? with
    | some (.ref p) => p
    | _ => 0
  let prs : List (Value × Value) := ys.map fun y => (Value.ref y.2.1, y.2.2)
  have lp : prs.length = its.length := by simp [prs, hl]
  have hTs : ∀ {j : Nat} {p : Addr}, its[j]? = some (.ref p) → Ts j = p := fun {j p} e => by
    show (match its[j]? with | some (.ref p) => p | _ => 0) = p
    rw [e]
  have P := PairArg.list (prog := X.prog) (w := X.w) a its.toArray Ts prs
  have ok : PlainSeq "list" s.heap a its.toArray ∧ PairItems s.heap its.toArray Ts prs := by
    refine ⟨⟨o, n, ho, hc, hd, hdat⟩, by rw [List.size_toArray, lp], fun j k v e => ?_⟩
    have e2 : (ys.map fun y => (Value.ref y.2.1, y.2.2))[j]? = some (k, v) := e
    rw [List.getElem?_map] at e2
    obtain ⟨y, hy, ey⟩ := Option.map_eq_some_iff.mp e2
    obtain ⟨p, h1, h2⟩ := hpr j y hy
    obtain ⟨rfl, rfl⟩ := Prod.mk.inj ey
    rw [hTs h1]
    exact ⟨by simpa using h1, .inl h2⟩
  have hroom : (tupleKind (mixKind X.prog X.w)).room X.A.in1.in1 := by
    show X.A.units + 1 + 1 < cLine
    omega
  have keyed : ∀ x ∈ ys, (tupleKind (mixKind X.prog X.w)).is s.heap x.1 x.2.1 := by
    clear hpr P ok hl lp q hp
    intro x hx
    obtain ⟨i, hi⟩ := List.mem_iff_getElem?.mp hx
    induction rk generalizing i with
    | nil => cases hx
    | cons h t ih =>
      rcases List.mem_cons.mp hx with rfl | hx2
      · obtain ⟨h1, h2, _⟩ := h
        exact key_of I.hok (by rw [← h1]; exact h2)
      · obtain ⟨i2, hi2⟩ := List.mem_iff_getElem?.mp hx2
        exact ih hx2 i2 hi2
  refine call_dict_pairsH (knd := tupleKind (mixKind X.prog X.w)) (ps := ys) P (I.ok.hd hcalm) hroom ok ⟨by simp [prs], fun i key v e => ?_⟩ (fun h' hk x hx => ?_) (by rw [lp, ← rv.length]; exact hz) fun h' tk dd k => ?_
  · have e2 : (ys.map fun y => (Value.ref y.2.1, y.2.2))[i]? = some (key, v) := e
    rw [List.getElem?_map] at e2
    obtain ⟨⟨y1, y2, y3⟩, hy, ey⟩ := Option.map_eq_some_iff.mp e2
    obtain ⟨rfl, rfl⟩ := Prod.mk.inj ey
    exact ⟨y1, y2, hy, rfl⟩
  · exact tupleKind_stays.stays (fun b o vs n e _ => hk b o (Nat.ne_of_lt (Heap.lt_size e)) (by simp) e) (keyed x hx)
  · have hm : (s.heap.objs.size == sysModules) = false := beq_eq_false_iff_ne.mpr (Nat.ne_of_gt I.big)
    have fr : H s.heap.objs.size = none := I.hok.fresh (Nat.le_refl _)
    have hlen : (mergeT [] kvs).length ≤ sizeLine := by
      have h1 := mergeT_len [] kvs
      have h2 : kvs.length = ys.length := Paired.length rk
      rw [List.length_nil, h2, hl] at h1
      have : its.length ≤ sizeLine := by rw [← rv.length]; exact hz
      omega
    obtain ⟨o2, es, ep, hq2, h2, h3, h4, _, h5⟩ := dd
    refine ⟨.ref s.heap.objs.size, upd H s.heap.objs.size (.dT (mergeT [] kvs)), I.laid (t' := tk) (fun b o e => k b o (by simp) e) (Nat.le_refl _) (show ObjOk X.prog X.w _ _ _ (.dT (mergeT [] kvs)) from ⟨hlen, hm, storedAllH [] ys, (KT.merge rk .nil).keeps (fun c zs ec => by rw [upd_ne (ne_of_none ec fr)]; exact ec), o2, es, ep, hq2, h2, h3, h4, h5⟩), rfl, q _ fr⟩
end
end CD

-- dictcomps
namespace CD
open PySem PySem.Spec PyProof.Rows L2
/-! ### d != {} -/
section
variable {prog : Program} {w : World} {A : Around} {E : Value → Shared → Prop} {s : Shared}
theorem same_empty {nm : String} {a b : Addr} {es es2 : Array DictEntry} {ep ep2 : Nat} {Q : Bool → Shared → Prop} (ha : (a == sysModules) = false) (hb : (b == sysModules) = false)
    (da : s.heap.DictRaw a es ep) (db : s.heap.DictRaw b es2 ep2) (h0 : es2.size = 0) (h : Q (es.size == 0) s) : wpAny (model prog w) A (Builtin.Dict.samePairs nm a b) Q E s := by
  obtain ⟨oa, hoa, _, hda⟩ := da
  obtain ⟨ob, hob, _, hdb⟩ := db
  unfold Builtin.Dict.samePairs Builtin.Dict.showsAll
  rw [if_neg (show ¬ (a == sysModules) = true by rw [ha]; exact Bool.false_ne_true), if_neg (show ¬ (b == sysModules) = true by rw [hb]; exact Bool.false_ne_true)]
  refine wpAny_bind (wpAny_pure (wpAny_bind (wpAny_pure ?_)))
  refine wpAny_bind (wpAny_dictEntries hoa hda ?_)
  dsimp only
  refine wpAny_bind (wpAny_dictEntries hob hdb ?_)
  by_cases hsz : es.size = 0
  case neg =>
    rw [if_pos (by simpa [h0] using hsz)]
    have hbf : (es.size == 0) = false := by simpa using hsz
    rw [hbf] at h
    exact wpAny_bind (wpAny_rule (wpAny_pure h))
  case pos =>
    rw [hsz] at h
    rw [if_neg (by rw [hsz, h0]; simp)]
    refine wpAny_bind (wpAny_dictEpoch hoa hda ?_)
    refine wpAny_bind ?_
    rw [Std.Legacy.Range.forIn_eq_forIn_range']
    simp only [Std.Legacy.Range.size, Nat.sub_zero, Nat.add_sub_cancel, Nat.div_one]
    refine wpAny_forIn_list _ (fun rest q s' => s' = s ∧ q = (none, ()) ∧ rest = []) _ ?_ ?_ _ _ ⟨rfl, rfl, by rw [hsz]; rfl⟩
    · rintro x rest q s' ⟨_, _, hr⟩
      cases hr
    · rintro q s' ⟨rfl, rfl, _⟩
      exact wpAny_pure h
end
section
variable {X : Cx}
def rNeE : R2 := fun x y H Q => ∃ (a b : Addr) (kvs : List (List L2.Key × V)), x = .ref a ∧ y = .ref b ∧ H a = some (.dT kvs) ∧ H b = some (.dK []) ∧ Q (.bl (!decide (kvs = []))) H
theorem op_neE (hu : X.A.units + 65 < cLine) : OpR X (compareOp .NotEq) rNeE := by
  intro pins s σ H x y v u Q I rx ry h
  obtain ⟨a, b, kvs, rfl, rfl, ea, eb, q⟩ := h
  obtain rfl : v = Value.ref a := rx
  obtain rfl : u = Value.ref b := ry
  obtain ⟨z, hd, xs, rel, o, es, ep, ho, hx, hdat, hes, hxs, hnod⟩ := dt_of I.hok ea
  have raw : s.heap.DictRaw a es ep := ⟨o, ho, hx, hdat⟩
  obtain ⟨_, yb, vb, rb, db⟩ := (show ObjOk X.prog X.w H s.heap b (.dK []) from I.hok b _ eb)
  have lb : vb = [] := by
    have := rb.length
    cases vb with
    | nil => rfl
    | cons _ _ => cases this
  subst lb
  obtain ⟨ob, es2, ep2, hob, hcb, hdb, hkb, hpb, _⟩ := id db
  have raw2 : s.heap.DictRaw b es2 ep2 := ⟨ob, hob, hcb, hdb⟩
  have h0 : es2.size = 0 := by
    have := hpb.length
    rw [List.length_nil] at this
    rw [← Array.length_toList]
    exact this
  have l1 : es.size = xs.length := by rw [← Array.length_toList, hes, List.length_map]
  have l2 : kvs.length = xs.length := Paired.length rel
  refine wpAny_richCompare_same_room (op := .NotEq) raw.typeIs raw2.typeIs PySem.F.slot_dict_ne (wpAny_call_entry PySem.F.slot_dict_ne raw.typeIs PySem.F.entry_dict_ne ?_ (PySem.F.args_dict_ne_2 _ _)) (by omega)
  show wpAny _ _ (Builtin.Dict.dictSlotArgs "__ne__" ⟨[.ref a, .ref b], []⟩ >>= _) _ _ s
  refine wpAny_bind ?_
  unfold Builtin.Dict.dictSlotArgs
  refine wpAny_bind (wpAny_notOrdered_dict raw.typeIs ?_)
  show wpAny _ _ (pure (Value.ref a, Value.ref b)) _ _ s
  refine wpAny_pure ?_
  refine wpAny_bind (wpAny_isInstance (T := "dict") raw2.typeIs PySem.F.sub_dict_dict ?_)
  simp only [Bool.not_true, Bool.false_eq_true, if_false]
  refine wpAny_bind (wpAny_pure (wpAny_bind (wpAny_pure ?_)))
  refine wpAny_bind (same_empty hd yb raw raw2 h0 ?_)
  refine wpAny_pure ⟨_, rfl, ?_, ?_⟩
  · exact fun x => nomatch x
  · have e : (es.size == 0) = decide (kvs = []) := by
      rw [l1, ← l2]
      cases kvs <;> simp
    rw [e]
    exact fin_bl I q (by simp)
end
end CD

-- dictcomps
namespace CD
open PySem PySem.Spec PyProof.Rows L2
/-! ### for k, v in d.items(): d with tuples for keys -/
section
variable {X : Cx} {pins : List (Addr × Obj)} {σ : L2.St} {H : Hp} {s : Shared} {d : Addr} {o : Obj}
theorem frzT2 {kvs : List (List L2.Key × V)} (I : Inv X pins σ H s) (h : H d = some (.frz o (.dT kvs))) :
    (d == sysModules) = false ∧ s.heap.get? d = some o ∧ o.ExactDict ∧ ∃ (es : Array DictEntry) (ep : Nat), o.data = .dict es ep ∧ es.size = kvs.length ∧
      ∀ (i : Nat) (k : List L2.Key) (v : V), kvs[i]? = some (k, v) → ∃ (en : DictEntry) (q : Addr), es[i]? = some en ∧ en.key = .ref q ∧ H q = some (.tup (k.map kV)) ∧ RelV v en.val := by
  obtain ⟨hd, z, hs, xs, pr, o', es, ep, ho, hx, hdt, he, _⟩ := I.hok d _ h
  rw [hd] at ho
  cases ho
  refine ⟨hs, hd, hx, es, ep, hdt, ?_, fun i k v e => ?_⟩
  · have l1 : es.size = xs.length := size_of_entries he
    have l2 : kvs.length = xs.length := Paired.length pr
    omega
  · obtain ⟨b, hb, e1, e2, e3⟩ := paired_get pr e
    have q := entry_at he i
    rw [hb] at q
    exact ⟨_, b.2.1, q, rfl, e2, e3⟩
end
def Itit (d : Addr) (o : Obj) (kvs : List (List L2.Key × V)) : It :=
  ⟨fun i H => H d = some (.frz o (.dT kvs)) ∧ i < kvs.length, fun i H x H' => ∃ (T q : Addr) (k : List L2.Key) (v : V), kvs[i]? = some (k, v) ∧ x = .ref T ∧ H T = none ∧ H q = some (.tup (k.map kV)) ∧ H' = upd H T (.tup [.ref q, v]), fun i H => H d = some (.frz o (.dT kvs)) ∧ kvs.length ≤ i⟩
theorem walk_itemsT {d : Addr} {o : Obj} {kvs : List (List L2.Key × V)} : Walk (Itit d o kvs) kvs.length (fun H => H d = some (.frz o (.dT kvs)))
    (fun i H x H' => ∃ (T q : Addr) (k : List L2.Key) (v : V), kvs[i]? = some (k, v) ∧ x = .ref T ∧ H T = none ∧ H q = some (.tup (k.map kV)) ∧ H' = upd H T (.tup [.ref q, v])) :=
  ⟨fun _ _ hi q => ⟨q, hi⟩, fun _ q => ⟨q, Nat.le_refl _⟩, fun _ _ _ _ _ _ y => y⟩
theorem turn_itemsT {P : Program} {w : World} {K : PySem.W.Frag} {d : Addr} {o : Obj} {es : Array DictEntry} {ep : Nat} {kvs : List (List L2.Key × V)} {elts : List Expr} {kk : Nat} {tpos : Pos} (it : Addr) (hod : o.data = .dict es ep) :
    Turn P w K (.Tuple elts kk tpos) (Itit d o kvs) [it] it (fun i h => ∃ ok ov, IsItemIter h it d i kvs.length ep ok ov) where
  mem := by simp
  obj := fun i h st b hb => by
    have e : b = it := by simpa using hb
    subst e
    obtain ⟨ok, ov, e⟩ := st
    exact ⟨_, e, fun v z => nomatch z⟩
  keep := fun i h h' st k => let ⟨ok, ov, e⟩ := st; ⟨ok, ov, k it (by simp) _ e⟩
  item := by
    intro X hP hw hK hc i pins s σ H E I hf st hg
    subst hP hw hK
    obtain ⟨hd, hi⟩ := hg
    obtain ⟨hs, hgd, hx, es', ep', hdt, hsz, ent⟩ := frzT2 I hd
    obtain ⟨rfl, rfl⟩ := dict_ep hdt hod
    obtain ⟨⟨k, v⟩, hkv⟩ : ∃ p, kvs[i]? = some p := ⟨kvs[i], List.getElem?_eq_getElem hi⟩
    obtain ⟨en, q, hen, hkey, hq, rv⟩ := ent i k v hkv
    obtain ⟨ok, ov, he⟩ := st
    rw [← hsz] at he
    have hlt : it < s.heap.objs.size := Heap.lt_size he
    have raw : s.heap.DictRaw d es ep := ⟨o, hgd, hx, hod⟩
    have hi2 : i < es.size := by omega
    have een : es[i] = en := Option.some.inj ((Array.getElem?_eq_getElem hi2).symm.trans hen)
    refine wpAny_pyNext_items_item_raw he raw hi2 fun h' ho hT hz hk => ?_
    rw [een, hkey] at ho hT
    refine ⟨_, rfl, wpAny_letOwnedTupleGo_items (s := { s with heap := h' }) ho fun h'' he' sb => ?_⟩
    have hT2 : h''.get? s.heap.objs.size = some { cls := .type "tuple", data := .seq #[.ref q, en.val] } := (sb.2 _ (Nat.ne_of_gt hlt)).trans hT
    have new : ObjOk X.prog X.w (upd H s.heap.objs.size (.tup [.ref q, v])) h'' s.heap.objs.size (.tup [.ref q, v]) :=
      ⟨by show 2 ≤ sizeLine; decide, [.ref q, en.val], .cons rfl (.cons rv .nil), ⟨_, hT2, rfl, _, rfl⟩⟩
    have I1 : Inv X pins σ (upd H s.heap.objs.size (.tup [.ref q, v])) { s with heap := h'' } :=
      I.turnedNew (t' := s.toks) (ch := [it]) (fun b ob hb e => (sb.2 b (by simpa using hb)).trans (hk b ob (by simpa using hb) e)) hf (Nat.le_refl _) new
    refine ⟨.ref s.heap.objs.size, _, I1, rfl, ⟨_, q, k, v, hkv, rfl, I.hok.fresh (Nat.le_refl _), hq, rfl⟩, ⟨.ref q, en.val, ?_⟩, fun b hb => ?_⟩
    · rw [← hsz]; exact he'
    · have e : b = it := by simpa using hb
      rw [e, upd_ne (Nat.ne_of_lt hlt)]
      exact (hf it (by simp)).1
  done := by
    intro X hP hw hK hc i pins s σ H E I hf st hg
    subst hP hw hK
    obtain ⟨hd, hi⟩ := hg
    obtain ⟨f0, f1, f2, f3, f4, f5⟩ := hf it (by simp)
    obtain ⟨hs, hgd, hx, es', ep', hdt, hsz, ent⟩ := frzT2 I hd
    obtain ⟨rfl, rfl⟩ := dict_ep hdt hod
    obtain ⟨ok, ov, he⟩ := st
    rw [← hsz] at he
    have raw : s.heap.DictRaw d es ep := ⟨o, hgd, hx, hod⟩
    exact wpAny_pyNext_items_end_raw (I.ok.hd hc) he raw (by omega) fun h' eb => ⟨rfl, I.turned (t' := s.toks) (fun b ob hb e => eb b ob hb e) f0 f1 f3 f4 f5⟩
  self := fun A i s Q E st h => let ⟨_, _, e⟩ := st; PySem.W.kcp_self e h
def iItemsT (td : TE) : TI := fun σ H R => td σ H fun x H1 => ∃ d o kvs, x = .ref d ∧ H1 d = some (.frz o (.dT kvs)) ∧ R (Itit d o kvs) H1
theorem pi_itemsT {X : Cx} {e : Expr} {td : TE} {apos cpos tpos : Pos} {elts : List Expr} {kk : Nat} (he : PE X e td) (hbase : attributeBase e "items" X.env (eval e X.env) = eval e X.env := by rfl) (hline : (apos.endLine == cpos.line) = true := by rfl) :
    PI X (.Tuple elts kk tpos) (.Call (.Attribute e "items" apos) [] [] cpos) (iItemsT td) := by
  refine ⟨fun pins s σ H R I h => ?_⟩
  refine wpAny_Call_method (T := "dict") (id := "dict.items") hbase rfl hline F.plainAttrs_dict F.slot_dict_items F.type_dict_items (thn (he.run pins s σ H _ I h) fun u s1 ⟨x, H1, I1, rx, d, o, kvs, ex, hd, q⟩ => ?_)
  subst ex
  obtain rfl : u = Value.ref d := rx
  obtain ⟨hs, hgd, hx, es, ep, hdt, hsz, ent⟩ := frzT2 I1 hd
  have raw : s1.heap.DictRaw d es ep := ⟨o, hgd, hx, hdt⟩
  refine ⟨raw.typeIs, ?_, ?_⟩
  · intro a ea
    cases ea
    exact ⟨o, hgd, hx.2.1⟩
  have I2 : Inv X pins σ H1 { s1 with heap := s1.heap.push { cls := .type "dict_items", data := .fields #[.ref d] } } := I1.kept (t' := s1.toks) fun b ob q => Heap.get?_push_of_some _ q
  have fin : wpAny (model X.prog X.w) X.A (pyIter (.ref s1.heap.objs.size)) (PIE X pins σ (.Tuple elts kk tpos) R) X.xe { s1 with heap := s1.heap.push { cls := .type "dict_items", data := .fields #[.ref d] } } := by
    refine wpAny_pyIter_items_raw (d := d) ⟨_, Heap.get?_push_size _ rfl, rfl, rfl⟩ ⟨o, Heap.get?_push_of_some _ hgd, hx, hdt⟩ (pi_one (tk := s1.toks) I2 _ (turn_itemsT _ hdt) ⟨.none, .none, ?_⟩ q)
    rw [← hsz]
    exact Heap.get?_push_size _ rfl
  show wpAny _ _ (callWith cpos (.builtin "dict.items") [.ref d] [] []) _ X.xe s1
  exact method_meetsIn F.slot_dict_items F.entry_dict_items rfl (PySem.evalArgs_none ⟨rfl, raw.typeIs, F.args_dict_items_1 _, _, meets_dict_items_raw d hs, ⟨es, ep, raw⟩, fin⟩)
end CD

/-! ### promises for callers that print nothing yet, and repr -/
namespace CG
open PySem PySem.Spec PyProof.Rows L2
/-- a promise that is kept where nothing is being printed -/
structure FnOkG (P : Program) (w : World) (K : PySem.W.Frag) (mg : Str → Option Value) (base : Heap) (k : Nat) (f : Addr) (fd : FuncData) (ps : List Str) (sp : Sp) : Prop where
  size : ∀ vs H Q E, sp vs H Q E → vs.length = ps.length
  go : ∀ (A : Around) (fr : List Env) (s : Shared) (H : Hp) (as : Args) (us : List Value) (vs : List V) (Q : VK) (E : XK), A.guards = some [] → Room k A → Env0 P w K mg base A fr s H → BindsTo s fd as (ps.zip us) → Vals vs us → sp vs H Q E →
    codeAny (model P w) A (.call (.ref f) as) (CR CX0 fr P w H s Q E) s
theorem FnOkG.of {P : Program} {w : World} {K : PySem.W.Frag} {mg : Str → Option Value} {base : Heap} {k : Nat} {f : Addr} {fd : FuncData} {ps : List Str} {sp : Sp} (F : FnOk P w K mg base CX0 k f fd ps sp) : FnOkG P w K mg base k f fd ps sp :=
  ⟨F.len, fun A fr s H as us vs Q E _ => F.run A fr s H as us vs Q E⟩
section
variable {P : Program} {w : World} {K : PySem.W.Frag} {mg : Str → Option Value} {base : Heap}
/-- a def by its body, where nothing is being printed -/
theorem okG {x qual : Str} {st : Stmt} {f : Addr} {fd : FuncData} {N ps : List Str} {k : Nat} {sp : Sp} (F : Fun K x qual st f fd) (S : FnScope N ps (defScope st)) (len : ∀ vs H Q E, sp vs H Q E → vs.length = ps.length)
    (body : ∀ (cdv : Value) (A : Around) (fr : List Env) (s : Shared) (H : Hp) (vs : List V) (Q : VK) (E : XK), A.guards = some [] → Room k (A.deeper (envOfC qual (defScope st) s.heap.objs.size f cdv)) → sp vs H Q E →
      ∃ t, PSs (cxOf CX0 P w K mg base N qual (defScope st) f cdv A fr s H E).nox (defBody st) t ∧ t { nx := fun _ H' => Q .non H', rt := Q } (start N vs) H) : FnOkG P w K mg base (k + 1) f fd ps sp := by
  obtain ⟨o1, o2, d1, d2, d3, o3, cd, ct, o4, rfl, look, code⟩ := F.ex
  refine ⟨len, fun A fr s H as us vs Q E gd room en bind rel want => ?_⟩
  have kin : K.In s.heap := en.mod.kin.keeps fun b o e => (en.bs b o e).1
  have nolim : s.heap.NoLimit := en.mod.nolimit.keeps fun b o e => (en.bs b o e).1
  have kinds : ∀ y ∈ ps.zip us, (defScope st).names.lookup y.1 = some .local ∨ ((defScope st).names.lookup y.1 = some .cell ∧ ((cellsFrom (s.heap.objs.size + 1) (defScope st).names []).lookup y.1).isSome = true) := fun ⟨n, v⟩ hy =>
    (S.par n (List.of_mem_zip hy).1).imp id fun q => ⟨q, PySem.W.cellsFrom_some _ _ _ (.inl q)⟩
  refine codeAny_call_function room.depth (kin _ _ look) rfl S.co S.gen rfl (PySem.W.codeRec_of kin code) (bind _ _ _ _ ?_)
  refine wpAny_newFunctionEnv_cells S.kind kinds fun env isEnv s1 entry => ?_
  subst isEnv
  refine ⟨nolim.keeps entry.toInCall.keep, codeAny_func ?_⟩
  obtain ⟨t, rule, reading⟩ := body cd A fr s H vs Q E gd (room.deeper _) want
  have start1 : Inv (cxOf CX0 P w K mg base N qual (defScope st) f cd A fr s H E) [] (start N vs) H s1 := inv_start S room.hd en (len _ _ _ _ want) rel entry
  refine wpAny_mono (rule.nox.run [] s1 (start N vs) H _ start1 reading) (fun fl s' out => ?_) fun e s' out => out
  have close : ∀ {τ : L2.St} {H' : Hp} {v : V} {u : Value}, Inv (cxOf CX0 P w K mg base N qual (defScope st) f cd A fr s H E) [] τ H' s' → RelV v u → Q v H' → CE fr P w H s Q u s' :=
    fun {τ H' v u} J rv q => ⟨v, H', J.os, J.bare, J.base, J.hok, rv, q⟩
  match fl, out with
  | .ret u, ⟨_, _, _, J, rv, q⟩ => exact close J rv q
  | .next, ⟨_, _, J, q⟩ => exact close (v := V.non) (u := Value.none) J rfl q
  | .brk, ⟨_, _, _, q⟩ => exact q.elim
  | .cont, ⟨_, _, _, q⟩ => exact q.elim
end
section
variable {X : Cx} {k : Nat} {f : Addr} {fd : FuncData} {ps : List Str} {sp : Sp} {dvs : List V} {ds : List Value} {E : XK} {x : Str} {p pos : Pos} {e : Expr} {es : List Expr} {t : TA}
theorem goG {pins : List (Addr × Obj)} {σ : L2.St} {H : Hp} {s : Shared} {Q : VK} {us : List Value} {vs : List V} (F : FnOkG X.prog X.w X.K X.mg X.base k f fd ps sp) (gd : X.A.guards = some []) (room : Room k X.A) (bind : Binds X.K fd ps ds) (hd : Vals dvs ds) (pass : Passes CX0 X E)
    (I : Inv X pins σ H s) (rel : Vals vs us) (want : sp (vs ++ dvs) H Q E) : wpAny (model X.prog X.w) X.A (call (.ref f) us) (EP X pins σ Q) X.xe s := by
  have both : Vals (vs ++ dvs) (us ++ ds) := rel.append hd
  have size : (us ++ ds).length = ps.length := both.length.symm.trans (F.size _ _ _ _ want)
  refine wpAny_call (codeAny_mono (F.go X.A X.stack s H ⟨us, []⟩ (us ++ ds) (vs ++ dvs) Q E gd room I.env0 (bind s us I.kIn size) both want) fun out s' q => ?_)
  match out, q with
  | .error err, q => exact pass pins σ H s err s' I q
  | .ok (.ret u), q => exact I.after q
/-- the call of a def that wants nothing to be printed -/
theorem pe_callG (F : FnOkG X.prog X.w X.K X.mg X.base k f fd ps sp) (gd : X.A.guards = some []) (room : Room k X.A) (hg : Gl X x) (hm : X.mg x = some (.ref f)) (hk : PySem.W.keepIn X.K (.ref f) = true) (bind : Binds X.K fd ps ds) (hd : Vals dvs ds) (pass : Passes CX0 X E)
    (args : PA X (e :: es) t) (hdb : (x == ("__debug__" : Str)) = false := by decide) (he : starEach (e :: es) X.env = (false, eval e X.env) :: starEach es X.env := by rfl) (hpl : (backTo pos (starEach es X.env)).any (·.1) = false := by rfl) :
    PE X (.Call (.Name x p) (e :: es) [] pos) (tCall sp dvs E t) :=
  ⟨fun pins s σ H Q I h => wpAny_Call_Name_kw (ld_glob I hg hm (PySem.W.callWith_K (h₀ := X.base) I.ok.mod.kin hk (thn (args.run pos pins s σ H _ I h) fun us s1 ⟨vs, H1, I1, r, q⟩ => ⟨I1.kIn, goG F gd room bind hd pass I1 r q⟩) he hpl) hdb)⟩
/-- repr(x) of data that are known -/
def rRepr (K : PySem.W.Frag) : List V → Hp → VK → Prop := fun vs H Q => ∃ (a : Addr) (d : PyData), vs = [V.ref a] ∧ Dp K H (.ref a) d ∧ d.showable = true ∧ d.hasDict = false ∧ d.shown.length ≤ sizeLine ∧ d.depth ≤ 60 ∧ Q (.str d.shown) H
theorem cr_repr (gd : X.A.guards = some []) (hu : X.A.units + 65 < cLine) : CallR X (.builtin "repr") (rRepr X.K) := by
  intro pins s σ H vs us Q I r h
  obtain ⟨a, d, rfl, hd, sh, nd, lz, dp, q⟩ := h
  rw [Vals.ref1 r]
  obtain ⟨as, rd⟩ := Dp.reads I _ (.ref a) _ hd rfl
  refine repr_of_reads' rd sh (fun z => absurd (nd.symm.trans z) (by decide)) gd (by omega) (fun _ _ e => e) (fun h' u tk hk => ?_) lz
  exact ⟨.str d.shown, H, I.kept (t' := tk) hk, ⟨_, rfl⟩, q⟩
end
/-- the law at its script, from a promise of that kind -/
theorem law_callG {P : Program} {w : World} {K : PySem.W.Frag} {mg mb : Str → Option Value} {k : Nat} {fa a : Addr} {fd : FuncData} {x : Str} {sp : Sp} {s₁ : Shared} {us : List Value} {ms : List Int}
    (inK : K.In s₁.heap) (g1 : s₁.heap.Ns mainGlobals mg) (g2 : s₁.heap.Ns builtinsNs mb) (g3 : ∀ x : Str, x ≠ "__name__" → mb x = bootBuiltins x) (g4 : s₁.heap.NoLimit) (g5 : s₁.gens = #[])
    (at_a : s₁.heap.get? a = some { cls := .type "list", data := .seq us.toArray }) (are : IntsAre us ms) (short : ms.length ≤ sizeLine) (room : Room k callerA)
    (F : ∀ base : Heap, K.In base → base.Ns mainGlobals mg → FnOkG P w K mg base k fa fd [x] sp) (bind : ∀ (s : Shared) (u : Value), BindsTo s fd ⟨[u], []⟩ [(x, u)])
    (want : ∀ H : Hp, Only H → SqL K H a (ms.map V.int) → sp [.ref a] H (fun v _ => v = .bl true) fun _ _ _ => False) :
    codeAny (model P w) callerA (.call (.ref fa) ⟨[.ref a], []⟩) (fun r s' => r = .ok (.ret (.bool true)) ∧ OldK s₁.heap s'.heap ∧ s'.os = s₁.os ∧ AllBare s'.gens) s₁ := by
  have vals := vals_ints are
  have many := are.length
  have main : ∀ H : Hp, Only H → SqL K H a (ms.map V.int) → HOk P w H s₁.heap → (∀ b, H b ≠ none → b = a) → (H a ≠ none → K.lookup a = none) →
      codeAny (model P w) callerA (.call (.ref fa) ⟨[.ref a], []⟩) (fun r s' => r = .ok (.ret (.bool true)) ∧ OldK s₁.heap s'.heap ∧ s'.os = s₁.os ∧ AllBare s'.gens) s₁ := by
    intro H only seq hok just out
    have hid : ∀ {b : Addr} {o : Obj} {es : Array DictEntry} {n : Nat}, s₁.heap.get? b = some o → o.data = .dict es n → H b = none := fun {b o es n} e d => Classical.byContradiction fun z => by
      rw [just b z, at_a] at e
      obtain rfl := Option.some.inj e
      exact absurd (show Data.seq us.toArray _ = Data.dict es n from d) (fun z => nomatch z)
    have names : ∀ {b : Addr} {m : Str → Option Value}, s₁.heap.Ns b m → (hidT s₁.heap H).Ns b m := fun {b m} ⟨o, es, n, e, d, r⟩ => ⟨o, es, n, hidT_get e (hid e d), d, r⟩
    have inB : K.In (hidT s₁.heap H) := fun b o e => hidT_get (inK b o e) (Classical.byContradiction fun z => by
      have ba := just b z
      rw [ba] at z e
      rw [out z] at e
      exact absurd e (fun z => nomatch z))
    have known : Mod K mg (hidT s₁.heap H) := ⟨inB, names g1, ⟨mb, names g2, g3⟩, g4.elim fun mc z => ⟨mc, names z.1, z.2⟩⟩
    have entry : Env0 P w K mg (hidT s₁.heap H) callerA [] s₁ H := ⟨rfl, known, fun b o e => of_hidT e, Nat.le_of_eq (hidT_size _ _), trivial, fun b z => (List.not_mem_nil z).elim, hok, .of_eq g5⟩
    refine codeAny_mono ((F _ inB (names g1)).go callerA [] s₁ H ⟨[.ref a], []⟩ [.ref a] [.ref a] _ _ rfl room entry (bind s₁ (.ref a)) (.cons rfl .nil) (want H only seq)) fun r s' h => ?_
    match r, h with
    | .ok (.ret u), ⟨v, H', os, bare, un, hok', rel, (q : v = .bl true)⟩ =>
      subst q
      obtain rfl : u = Value.bool true := rel
      refine ⟨rfl, OldK.of_keep fun b o e => ?_, os, bare⟩
      rcases only b with z | ⟨ob, xs, z⟩
      · exact un.keep b o e z (fun m => (List.not_mem_nil m).elim) (by simp)
      · have e1 := (hok b _ z).1
        have e2 := (hok' b _ (un.frzs b ob _ z)).1
        rw [e] at e1
        rw [Option.some.inj e1]
        exact e2
  cases look : K.lookup a with
  | some o =>
    obtain rfl := Option.some.inj (at_a.symm.trans (inK a o look))
    exact main (fun _ => none) (fun _ => .inl rfl) (.inr ⟨_, us.toArray, _, look, rfl, rfl, rfl, by simpa [many] using short, by simpa using vals⟩) (fun b u z => (nomatch (show (none : Option HO) = some u from z))) (fun b z => (z rfl).elim) fun z => (z rfl).elim
  | none =>
    let O : Obj := { cls := .type "list", data := .seq us.toArray }
    let G : Hp := fun b => if b = a then some (.frz O (.lst (ms.map V.int))) else none
    have gA : G a = some (.frz O (.lst (ms.map V.int))) := if_pos rfl
    have gN : ∀ b, b ≠ a → G b = none := fun b n => if_neg n
    refine main G (fun b => ?_) (.inl (.inr ⟨O, gA⟩)) (fun b u z => ?_) (fun b z => Classical.byContradiction fun n => z (gN b n)) fun _ => look
    · rcases Decidable.em (b = a) with rfl | n
      · exact .inr ⟨_, _, gA⟩
      · exact .inl (gN b n)
    · rcases Decidable.em (b = a) with rfl | n
      · obtain rfl := Option.some.inj (gA.symm.trans z)
        exact ⟨at_a, by rw [List.length_map]; exact short, us, _, vals, at_a⟩
      · exact absurd (gN b n) (by rw [z]; exact fun e => nomatch e)
/-- a law's end, from a promise of that kind -/
theorem walk_ofG {l : PySem.W.OpenLaw} {n k : Nat} {q : Program} {loose : List Str} {XP : (Str → Option Value) → Heap → Prop} {YP : World → Heap → Prop} {d : DefRec} {x : Str}
    (most : l.most = some n) (small : n ≤ sizeLine) (plain : d.params.defaults = []) (room : Room k callerA)
    (F : ∀ (w : World) (mg : Str → Option Value) (fa : Addr) (h : Heap), YP w h → h.Ns mainGlobals mg → mg d.name = some (.ref fa) →
      ∃ (K : PySem.W.Frag) (fd : FuncData) (sp : Sp), K.In h ∧ (∀ (s : Shared) (u : Value), BindsTo s fd ⟨[u], []⟩ [(x, u)]) ∧
        (∀ (H : Hp) (a : Addr) (ms : List Int), ms.length ≤ n → Only H → SqL K H a (ms.map V.int) → sp [.ref a] H (fun v _ => v = .bl true) fun _ _ _ => False) ∧
        ∀ base : Heap, K.In base → base.Ns mainGlobals mg → FnOkG l.prog w K mg base k fa fd [x] sp) :
    PySem.W.WalkO q loose XP YP l.row.toRowW d [] (fun f vs => PySem.call f vs) :=
  Att.attach_call most plain fun w s₀ s₁ mg mb fa o pm cd doc a us ms G Y ho hd hcd named at_a are len gens => by
    obtain ⟨K, fd, sp, inK, bind, want, prom⟩ := F w mg fa _ Y G.T.g named
    exact law_callG inK G.T.g G.T.b G.T.builtins G.T.nolimit gens at_a are (Nat.le_trans len small) room prom bind fun H only seq => want H a ms len only seq
end CG

namespace CZ
open PySem PySem.Spec PyProof.Rows L2
open PySem.Sem (wp)
/-! ### zip(a, b, c), where b ends first -/
section
variable {prog : Program} {w : World} {A : Around} {E : Value → Shared → Prop} {s : Shared}
theorem next_end3v {z TI TO i1 i2 i3 : Addr} {fp1 fp2 fp3 : List Addr} {n1 n : Nat} {P1 P2 : Nat → Value → Prop} {St1 St2 : Nat → Heap → Prop} {a1 a2 a3 : Value} {Q : Fin → Shared → Prop} (S : Sep3 z TI TO i1 i2 i3 fp1 fp2 fp3) (D1 : Draws prog w A i1 fp1 n1 P1 St1) (D2 : Draws prog w A i2 fp2 n P2 St2)
    (hz : ZipO s.heap z TI TO .none false) (hTI : TupO s.heap TI #[.ref i1, .ref i2, .ref i3]) (hTO : TupO s.heap TO #[a1, a2, a3]) (st1 : St1 n s.heap) (st2 : St2 n s.heap) (hi1 : n < n1)
    (hE : ∀ h' tk e, (∀ c o, c ≠ z → c ≠ TO → c ≠ i1 → c ≠ i2 → s.heap.get? c = some o → h'.get? c = some o) → (∃ o, h'.get? e = some o ∧ o.cls = .type "StopIteration") → E (.ref e) { s with heap := h', toks := tk }) :
    wpAny (model prog w) A (Builtin.«zip.__next__» ⟨[.ref z], []⟩) Q E s := by
  obtain ⟨hp, g, d, tk0, os⟩ := s
  refine wpAny_bind (m := field (.ref z) 2) (wpAny_field hz rfl (x := .bool false) rfl ?_)
  refine wpAny_bind (m := field (.ref z) 3) (wpAny_field hz rfl (x := .ref TI) rfl ?_)
  refine wpAny_bind (wpAny_seqItems hTI rfl ?_)
  show wpAny _ _ (Builtin.SmallTypes.ownedTupleIsFree (.ref z) >>= _) _ _ _
  rw [val_b]
  refine wpAny_bind ?_
  unfold Builtin.SmallTypes.ownedTupleIsFree
  refine wpAny_bind (wpAny_field hz rfl (x := .none) rfl (wpAny_pure ?_))
  simp only [if_true]
  refine wpAny_bind (wpAny_rule (wpAny_bind (wpAny_field hz rfl (x := .ref TO) rfl ?_)))
  refine wpAny_bind (wpAny_setField_rec hz (by simp) fun g0 hz0 hs0 => wpAny_bind ?_)
  replace hs0 : Heap.SameBut z hp g0 := hs0
  replace hz0 : ZipO g0 z TI TO .ellipsis false := hz0
  have hT0 : TupO g0 TO #[a1, a2, a3] := hs0.extBut _ _ S.zTO.symm hTO
  have t1_0 : St1 n g0 := D1.frame _ _ _ st1 fun c hc o e => hs0.extBut c o (fun q => S.z1 (q ▸ hc)) e
  have t2_0 : St2 n g0 := D2.frame _ _ _ st2 fun c hc o e => hs0.extBut c o (fun q => S.z2 (q ▸ hc)) e
  have k0 : ∀ c o, c ≠ z → c ≠ TO → c ≠ i1 → c ≠ i2 → hp.get? c = some o → g0.get? c = some o := fun c o q0 _ _ _ e => hs0.extBut c o q0 e
  simp only [List.zipIdx_cons, List.zipIdx_nil, List.forIn_cons, List.forIn_nil]
  refine wpAny_bind (wpAny_bind (wpAny_onRaise (m := zdraw false (.ref i1)) (zdraw_item (s := ⟨g0, g, d, tk0, os⟩) D1 hi1 t1_0 fun x1 d1 tk1 p1 n1 hd1 => ?_)))
  replace hd1 : Heap.SameBut i1 g0 d1 := hd1
  have hU1 : TupO d1 TO #[a1, a2, a3] := hd1.extBut _ _ (fun q => S.T1 (q ▸ S.m1)) hT0
  refine wpAny_bind (wpAny_seqItems (s := ⟨d1, g, d, tk1, os⟩) hU1 rfl ?_)
  refine wpAny_bind (upd_tup (s := ⟨d1, g, d, tk1, os⟩) hU1 (by simp) fun g1 hT1 hs1 => ?_)
  replace hs1 : Heap.SameBut TO d1 g1 := hs1
  have hz1 : ZipO g1 z TI TO .ellipsis false := hs1.extBut _ _ S.zTO (hd1.extBut _ _ (fun q => S.z1 (q ▸ S.m1)) hz0)
  have t2_1 : St2 n g1 := D2.frame _ _ _ t2_0 fun c hc o e => hs1.extBut c o (fun q => S.T2 (q ▸ hc)) (hd1.extBut c o (fun q => S.s1_2 (q ▸ hc)) e)
  have k1 : ∀ c o, c ≠ z → c ≠ TO → c ≠ i1 → c ≠ i2 → hp.get? c = some o → g1.get? c = some o := fun c o qz qT q1 q2 e => hs1.extBut c o qT (hd1.extBut c o q1 (k0 c o qz qT q1 q2 e))
  refine wpAny_bind (wpAny_letGo (wpAny_pure ?_))
  refine wpAny_bind (wpAny_bind (wpAny_onRaise ?_))
  refine wpAny_bind (m := Builtin.SmallTypes.nextOf (.ref i2)) (D2.done ⟨g1, g, d, tk1, os⟩ _ _ t2_1 fun y e hy he => ?_)
  replace hy : Heap.ExtBut i2 g1 y := hy
  obtain ⟨oe, hoe, hce⟩ := he
  replace hoe : y.get? e = some oe := hoe
  have hzy : ZipO y z TI TO .ellipsis false := hy _ _ (fun q => S.z2 (q ▸ S.m2)) hz1
  have hez : e ≠ z := fun x => by subst x; rw [hzy] at hoe; cases hoe; simp at hce
  refine wpAny_setField_rec (s := ⟨y, g, d, tk1, os⟩) hzy (by simp) fun y2 _ hv => ?_
  replace hv : Heap.SameBut z y y2 := hv
  exact hE y2 tk1 e (fun c o qz qT q1 q2 x => hv.extBut c o qz (hy c o q2 (k1 c o qz qT q1 q2 x))) ⟨oe, hv.extBut _ _ hez hoe, hce⟩
theorem py_end3v {z TI TO i1 i2 i3 : Addr} {fp1 fp2 fp3 : List Addr} {n1 n : Nat} {P1 P2 : Nat → Value → Prop} {St1 St2 : Nat → Heap → Prop} {a1 a2 a3 : Value} {Q : Option Value → Shared → Prop} (S : Sep3 z TI TO i1 i2 i3 fp1 fp2 fp3) (D1 : Draws prog w A.in1 i1 fp1 n1 P1 St1) (D2 : Draws prog w A.in1 i2 fp2 n P2 St2)
    (hz : ZipO s.heap z TI TO .none false) (hTI : TupO s.heap TI #[.ref i1, .ref i2, .ref i3]) (hTO : TupO s.heap TO #[a1, a2, a3]) (st1 : St1 n s.heap) (st2 : St2 n s.heap) (hi1 : n < n1)
    (hQ : ∀ h' tk, (∀ c o, c ≠ z → c ≠ TO → c ≠ i1 → c ≠ i2 → s.heap.get? c = some o → h'.get? c = some o) → Q none { s with heap := h', toks := tk }) : wpAny (model prog w) A (pyNext (.ref z)) Q E s := by
  have hT : s.TypeIs (.ref z) "zip" := ⟨_, hz, rfl⟩
  unfold pyNext
  refine wpAny_bind (wpAny_attempt (wpAny_callSpecial?_slot (name := Str.ofString "__next__") hT F.slot_zip_next (wpAny_call_entry F.slot_zip_next hT F.entry_zip_next ?_ (F.args_zip_next_1 _))))
  refine next_end3v (A := A.in1) S D1 D2 hz hTI hTO st1 st2 hi1 fun h2 tk e kk he => ?_
  obtain ⟨o, ho, hc⟩ := he
  exact wpAny_bind (wpAny_isInstance (T := "StopIteration") (b := true) ⟨o, ho, hc⟩ isSubtype_stop (wpAny_pure (hQ _ _ kk)))
end
def ItM3 (K : PySem.W.Frag) (l : List (Bool × Addr)) : It := ⟨(ItZ K l).go, (ItZ K l).yld, fun i H => ∃ p1 p2 p3 xs ys, l = [p1, p2, p3] ∧ SqK K H p1 xs ∧ SqK K H p2 ys ∧ i < xs.length ∧ ys.length = i⟩
theorem turn_z3m {P : Program} {w : World} {K : PySem.W.Frag} {elts : List Expr} {kk : Nat} {tpos : Pos} {z TI TO i1 i2 i3 : Addr} {p1 p2 p3 : Bool × Addr} (S : Sep3 z TI TO i1 i2 i3 [i1, p1.2] [i2, p2.2] [i3, p3.2]) (ne1 : p1.2 ≠ i1) (ne2 : p2.2 ≠ i2) (ne3 : p3.2 ≠ i3) :
    Turn P w K (.Tuple elts kk tpos) (ItM3 K [p1, p2, p3]) [z, TI, TO, i1, i2, i3] z (fun i h => ZipO h z TI TO .none false ∧ TupO h TI #[.ref i1, .ref i2, .ref i3] ∧ (∃ a1 a2 a3, TupO h TO #[a1, a2, a3]) ∧ SqIt h i1 p1 i ∧ SqIt h i2 p2 i ∧ SqIt h i3 p3 i) where
  mem := (turn_z3 (P := P) (w := w) (K := K) (elts := elts) (kk := kk) (tpos := tpos) (b := false) S ne1 ne2 ne3).mem
  obj := (turn_z3 (P := P) (w := w) (K := K) (elts := elts) (kk := kk) (tpos := tpos) (b := false) S ne1 ne2 ne3).obj
  keep := (turn_z3 (P := P) (w := w) (K := K) (elts := elts) (kk := kk) (tpos := tpos) (b := false) S ne1 ne2 ne3).keep
  item := (turn_z3 (P := P) (w := w) (K := K) (elts := elts) (kk := kk) (tpos := tpos) (b := false) S ne1 ne2 ne3).item
  done := by
    intro X hP hw hK hc i pins s σ H E I hf st hg
    subst hP hw hK
    obtain ⟨q1, q2, q3, xs1, xs2, el, hq1, hq2, hx1, hx2⟩ := hg
    injection el with el1 el
    injection el with el2 el
    subst el1 el2
    obtain ⟨hz, hTI, ⟨a1, a2, a3, hTO⟩, h1, h2, h3⟩ := st
    obtain ⟨its1, rv1, q1, _⟩ := sq_seq I hq1
    obtain ⟨its2, rv2, q2, _⟩ := sq_seq I hq2
    have l1 : i < its1.toArray.size := by have := rv1.length; simp; omega
    have l2 : its2.toArray.size = i := by have := rv2.length; simp; omega
    have D1 := draws_of (prog := X.prog) (w := X.w) (A := X.A.in1) (I.ok.hd hc) i1 p1 ne1 its1
    have D2 := draws_of (prog := X.prog) (w := X.w) (A := X.A.in1) (I.ok.hd hc) i2 p2 ne2 its2
    rw [l2] at D2
    exact py_end3v S D1 D2 hz hTI hTO ⟨h1, q1⟩ ⟨h2, q2⟩ l1 fun h2 tk hk => ⟨rfl, I.turnedL (t' := tk) (ch := [z, TI, TO, i1, i2, i3]) (fun c o hb q => hk c o (fun q => hb (by simp [q])) (fun q => hb (by simp [q])) (fun q => hb (by simp [q])) (fun q => hb (by simp [q])) q) hf⟩
  self := (turn_z3 (P := P) (w := w) (K := K) (elts := elts) (kk := kk) (tpos := tpos) (b := false) S ne1 ne2 ne3).self
def iM3 (K : PySem.W.Frag) (fl : List Bool) (ta : TA) : TI := fun σ H R => ta σ H fun vs H1 => ∃ l : List Addr, vs = l.map V.ref ∧ l.length = fl.length ∧ (∀ p ∈ fl.zip l, ∃ xs, SqK K H1 p xs) ∧ R (ItM3 K (fl.zip l)) H1
theorem walk_m3 {K : PySem.W.Frag} {p1 p2 p3 : Bool × Addr} {xs ys zs : List V} {n : Nat} (h1 : n < xs.length) (h2 : ys.length = n) (h3 : n ≤ zs.length) : Walk (ItM3 K [p1, p2, p3]) n (fun H => Paired (fun p xs => SqK K H p xs) [p1, p2, p3] [xs, ys, zs]) (YRow [xs, ys, zs]) :=
  ⟨fun i H hi q => pair_go q fun ws hw => by
      rcases List.mem_cons.mp hw with e | hw
      · rw [e]; omega
      rcases List.mem_cons.mp hw with e | hw
      · rw [e]; omega
      · rw [List.mem_singleton.mp hw]; omega,
    fun H q => by
      cases q with
      | cons r t =>
        cases t with
        | cons r2 t2 => exact ⟨_, _, _, _, _, rfl, r, r2, h1, h2⟩, fun i H x H2 _ q y => by
    obtain ⟨T, vs, g1, g2, g3, g4⟩ := y
    exact ⟨T, vs, g1, g2, g3, pair_row q g4⟩⟩
theorem pi_z3m {X : Cx} {e1 e2 e3 : Expr} {ta : TA} {p pos tpos : Pos} {elts : List Expr} {kk : Nat} {fl : List Bool} (hfl : fl.length = 3) (hg : Gl X "zip") (hm : X.mg "zip" = none) (ha : PA X [e1, e2, e3] ta)
    (hs : starEach [e1, e2, e3] X.env = (false, eval e1 X.env) :: starEach [e2, e3] X.env := by rfl) (hpl : (backTo pos (starEach [e2, e3] X.env)).any (·.1) = false := by rfl) :
    PI X (.Tuple elts kk tpos) (.Call (.Name "zip" p) [e1, e2, e3] [] pos) (iM3 X.K fl ta) := by
  refine ⟨fun pins s σ H R I h => ?_⟩
  refine Call_ (ld_blt I hg hm PyProof.Rows.boot_zip (PyProof.Rows.callWith_type1 (thn (ha.run pos pins s σ H _ I h) fun us s0 ⟨vs, H1, I1, r1, q1⟩ => ?_) hs hpl))
  obtain ⟨l, ev, el, hl, q1⟩ := q1
  subst ev
  obtain ⟨b1, b2, b3, rfl⟩ : ∃ b1 b2 b3 : Bool, fl = [b1, b2, b3] := match fl, hfl with | [_, _, _], _ => ⟨_, _, _, rfl⟩
  obtain ⟨c1, c2, c3, rfl⟩ : ∃ c1 c2 c3 : Addr, l = [c1, c2, c3] := match l, el with | [_, _, _], _ => ⟨_, _, _, rfl⟩
  cases r1 with
  | cons r_1 rr1 =>
    cases r_1
    cases rr1 with
    | cons r_2 rr2 =>
      cases r_2
      cases rr2 with
      | cons r_3 rr3 =>
        cases r_3
        cases rr3
        obtain ⟨xs1, hq1⟩ := hl (b1, c1) (by simp)
        obtain ⟨its1, rv1, g1, lt1⟩ := sq_seq I1 hq1
        obtain ⟨xs2, hq2⟩ := hl (b2, c2) (by simp)
        obtain ⟨its2, rv2, g2, lt2⟩ := sq_seq I1 hq2
        obtain ⟨xs3, hq3⟩ := hl (b3, c3) (by simp)
        obtain ⟨its3, rv3, g3, lt3⟩ := sq_seq I1 hq3
        have frs : ∀ c, c ∈ [s0.heap.objs.size + 5, s0.heap.objs.size + 3, s0.heap.objs.size + 4, s0.heap.objs.size, s0.heap.objs.size + 1, s0.heap.objs.size + 2] → FpOk X pins H1 c := fun c hcm => by
          have e : c = s0.heap.objs.size + 5 ∨ c = s0.heap.objs.size + 3 ∨ c = s0.heap.objs.size + 4 ∨ c = s0.heap.objs.size ∨ c = s0.heap.objs.size + 1 ∨ c = s0.heap.objs.size + 2 := by simpa using hcm
          have hle : s0.heap.objs.size ≤ c := by
            rcases e with q | q | q | q | q | q
            · rw [q]; exact Nat.le_add_right _ _
            · rw [q]; exact Nat.le_add_right _ _
            · rw [q]; exact Nat.le_add_right _ _
            · rw [q]; exact Nat.le_refl _
            · rw [q]; exact Nat.le_add_right _ _
            · rw [q]; exact Nat.le_add_right _ _
          exact I1.fpOk hle (I1.hok.fresh hle)
        refine zip_begins3 (begins_of (b1, c1) its1) (begins_of (b2, c2) its2) (begins_of (b3, c3) its3) g1 g2 g3 fun hA hz hTI hTO y1 y2 y3 _ kk => iter_zip (b := false) hz ?_
        have I2 : Inv X pins σ H1 { s0 with heap := hA } := I1.kept (t' := s0.toks) kk
        exact ⟨_, [s0.heap.objs.size + 5, s0.heap.objs.size + 3, s0.heap.objs.size + 4, s0.heap.objs.size, s0.heap.objs.size + 1, s0.heap.objs.size + 2], _, _, H1, rfl, I2, turn_z3m (sep_new3 lt1 lt2 lt3) (Nat.ne_of_lt lt1) (Nat.ne_of_lt (Nat.lt_of_lt_of_le lt2 (Nat.le_add_right _ 1))) (Nat.ne_of_lt (Nat.lt_of_lt_of_le lt3 (Nat.le_add_right _ 2))), ⟨hz, hTI, ⟨_, _, _, hTO⟩, SqIt.begin y1, SqIt.begin y2, SqIt.begin y3⟩, frs, q1⟩
end CZ

namespace CS
open PySem PySem.Spec PyProof.Rows L2
def top (i : Nat) : Stmt := PySem.Challenge.pw_calledseats_k35_games_by_lists.main.body.getD i (.Pass ⟨0, 0, 0, 0⟩)
abbrev s_wall : Stmt := top 0
abbrev N_wall : List Str := ["k"]
theorem sc_wall : FnScope N_wall ["k"] (defScope s_wall) := ⟨rfl, rfl, rfl, by decide +kernel, rfl, by decide +kernel, by decide +kernel⟩
abbrev s_Mismatch_init : Stmt := inClass (top 10) 0
abbrev N_Mismatch_init : List Str := ["self", "name"]
theorem sc_Mismatch_init : FnScope N_Mismatch_init ["self", "name"] (defScope s_Mismatch_init) := ⟨rfl, rfl, rfl, by decide +kernel, rfl, by decide +kernel, by decide +kernel⟩
abbrev s_is_integer : Stmt := top 13
abbrev N_is_integer : List Str := ["value"]
theorem sc_is_integer : FnScope N_is_integer ["value"] (defScope s_is_integer) := ⟨rfl, rfl, rfl, by decide +kernel, rfl, by decide +kernel, by decide +kernel⟩
abbrev s_is_at_least : Stmt := top 14
abbrev N_is_at_least : List Str := ["value", "low"]
theorem sc_is_at_least : FnScope N_is_at_least ["value", "low"] (defScope s_is_at_least) := ⟨rfl, rfl, rfl, by decide +kernel, rfl, by decide +kernel, by decide +kernel⟩
abbrev s_is_between : Stmt := top 15
abbrev N_is_between : List Str := ["value", "low", "high"]
theorem sc_is_between : FnScope N_is_between ["value", "low", "high"] (defScope s_is_between) := ⟨rfl, rfl, rfl, by decide +kernel, rfl, by decide +kernel, by decide +kernel⟩
abbrev s_greatest_common_divisor : Stmt := top 16
abbrev N_greatest_common_divisor : List Str := ["first", "second"]
theorem sc_greatest_common_divisor : FnScope N_greatest_common_divisor ["first", "second"] (defScope s_greatest_common_divisor) := ⟨rfl, rfl, rfl, by decide +kernel, rfl, by decide +kernel, by decide +kernel⟩
abbrev s_Table_init : Stmt := inClass (top 20) 0
abbrev N_Table_init : List Str := ["self", "rings", "size"]
theorem sc_Table_init : FnScope N_Table_init ["self", "rings"] (defScope s_Table_init) := ⟨rfl, rfl, rfl, by decide +kernel, rfl, by decide +kernel, by decide +kernel⟩
abbrev s_Table_sizes : Stmt := inClass (top 20) 1
abbrev N_Table_sizes : List Str := ["self"]
theorem sc_Table_sizes : FnScope N_Table_sizes ["self"] (defScope s_Table_sizes) := ⟨rfl, rfl, rfl, by decide +kernel, rfl, by decide +kernel, by decide +kernel⟩
abbrev s_Table_count : Stmt := inClass (top 20) 2
abbrev N_Table_count : List Str := ["self", "product", "size"]
theorem sc_Table_count : FnScope N_Table_count ["self"] (defScope s_Table_count) := ⟨rfl, rfl, rfl, by decide +kernel, rfl, by decide +kernel, by decide +kernel⟩
abbrev s_Table_is_seat : Stmt := inClass (top 20) 3
abbrev N_Table_is_seat : List Str := ["self", "value", "place", "size"]
theorem sc_Table_is_seat : FnScope N_Table_is_seat ["self", "value"] (defScope s_Table_is_seat) := ⟨rfl, rfl, rfl, by decide +kernel, rfl, by decide +kernel, by decide +kernel⟩
abbrev s_Table_is_call : Stmt := inClass (top 20) 4
abbrev N_Table_is_call : List Str := ["self", "value", "one"]
theorem sc_Table_is_call : FnScope N_Table_is_call ["self", "value"] (defScope s_Table_is_call) := ⟨rfl, rfl, rfl, by decide +kernel, rfl, by decide +kernel, by decide +kernel⟩
abbrev s_Table_shifted : Stmt := inClass (top 20) 5
abbrev N_Table_shifted : List Str := ["self", "seat", "call", "factor", "place", "one", "size"]
theorem sc_Table_shifted : FnScope N_Table_shifted ["self", "seat", "call", "factor"] (defScope s_Table_shifted) := ⟨rfl, rfl, rfl, by decide +kernel, rfl, by decide +kernel, by decide +kernel⟩
abbrev s_Table_moves : Stmt := inClass (top 20) 6
abbrev N_Table_moves : List Str := ["self", "seat", "call"]
theorem sc_Table_moves : FnScope N_Table_moves ["self", "seat", "call"] (defScope s_Table_moves) := ⟨rfl, rfl, rfl, by decide +kernel, rfl, by decide +kernel, by decide +kernel⟩
abbrev s_Table_step : Stmt := inClass (top 20) 7
abbrev N_Table_step : List Str := ["self", "seat", "call", "direction", "both_seats"]
theorem sc_Table_step : FnScope N_Table_step ["self", "seat", "call", "direction"] (defScope s_Table_step) := ⟨rfl, rfl, rfl, by decide +kernel, rfl, by decide +kernel, by decide +kernel⟩
abbrev s_Table_order : Stmt := inClass (top 20) 8
abbrev N_Table_order : List Str := ["self", "seat", "least", "place", "size", "period"]
theorem sc_Table_order : FnScope N_Table_order ["self", "seat"] (defScope s_Table_order) := ⟨rfl, rfl, rfl, by decide +kernel, rfl, by decide +kernel, by decide +kernel⟩
abbrev s_Table_halves : Stmt := inClass (top 20) 9
abbrev N_Table_halves : List Str := ["self", "seat"]
theorem sc_Table_halves : FnScope N_Table_halves ["self", "seat"] (defScope s_Table_halves) := ⟨rfl, rfl, rfl, by decide +kernel, rfl, by decide +kernel, by decide +kernel⟩
abbrev s_is_direction : Stmt := top 21
abbrev N_is_direction : List Str := ["value"]
theorem sc_is_direction : FnScope N_is_direction ["value"] (defScope s_is_direction) := ⟨rfl, rfl, rfl, by decide +kernel, rfl, by decide +kernel, by decide +kernel⟩
abbrev s_require_table : Stmt := top 22
abbrev N_require_table : List Str := ["table"]
theorem sc_require_table : FnScope N_require_table ["table"] (defScope s_require_table) := ⟨rfl, rfl, rfl, by decide +kernel, rfl, by decide +kernel, by decide +kernel⟩
abbrev s_require_seat : Stmt := top 23
abbrev N_require_seat : List Str := ["table", "seat"]
theorem sc_require_seat : FnScope N_require_seat ["table", "seat"] (defScope s_require_seat) := ⟨rfl, rfl, rfl, by decide +kernel, rfl, by decide +kernel, by decide +kernel⟩
abbrev s_require_call : Stmt := top 24
abbrev N_require_call : List Str := ["table", "call"]
theorem sc_require_call : FnScope N_require_call ["table", "call"] (defScope s_require_call) := ⟨rfl, rfl, rfl, by decide +kernel, rfl, by decide +kernel, by decide +kernel⟩
abbrev s_require_targets : Stmt := top 25
abbrev N_require_targets : List Str := ["table", "targets", "seen", "index", "seat"]
theorem sc_require_targets : FnScope N_require_targets ["table", "targets"] (defScope s_require_targets) := ⟨rfl, rfl, rfl, by decide +kernel, rfl, by decide +kernel, by decide +kernel⟩
abbrev s_require_small : Stmt := top 26
abbrev N_require_small : List Str := ["table"]
theorem sc_require_small : FnScope N_require_small ["table"] (defScope s_require_small) := ⟨rfl, rfl, rfl, by decide +kernel, rfl, by decide +kernel, by decide +kernel⟩
abbrev s_all_seats : Stmt := top 27
abbrev N_all_seats : List Str := ["table", "found", "size", "start", "place"]
theorem sc_all_seats : FnScope N_all_seats ["table"] (defScope s_all_seats) := ⟨rfl, rfl, rfl, by decide +kernel, rfl, by decide +kernel, by decide +kernel⟩
abbrev s_mirror_seat : Stmt := top 29
abbrev N_mirror_seat : List Str := ["table", "seat", "other", "place", "one", "size"]
theorem sc_mirror_seat : FnScope N_mirror_seat ["table", "seat", "other"] (defScope s_mirror_seat) := ⟨rfl, rfl, rfl, by decide +kernel, rfl, by decide +kernel, by decide +kernel⟩
abbrev s_call_to : Stmt := top 30
abbrev N_call_to : List Str := ["table", "seat", "other", "place", "one", "size"]
theorem sc_call_to : FnScope N_call_to ["table", "seat", "other"] (defScope s_call_to) := ⟨rfl, rfl, rfl, by decide +kernel, rfl, by decide +kernel, by decide +kernel⟩
abbrev s_call_counts : Stmt := top 31
abbrev N_call_counts : List Str := ["table", "targets", "found", "missing", "newest", "depth", "target", "seat", "one"]
theorem sc_call_counts : FnScope N_call_counts ["table", "targets"] (defScope s_call_counts) := ⟨rfl, rfl, rfl, by decide +kernel, rfl, by decide +kernel, by decide +kernel⟩
abbrev s_call_from : Stmt := top 32
abbrev N_call_from : List Str := ["table", "counts", "seat", "depth", "closer", "one"]
theorem sc_call_from : FnScope N_call_from ["table", "counts", "seat"] (defScope s_call_from) := ⟨rfl, rfl, rfl, by decide +kernel, rfl, by decide +kernel, by decide +kernel⟩
abbrev s_weighted : Stmt := top 34
abbrev N_weighted : List Str := ["modulus", "weights", "seat", "weight", "place"]
theorem sc_weighted : FnScope N_weighted ["modulus", "weights", "seat"] (defScope s_weighted) := ⟨rfl, rfl, rfl, by decide +kernel, rfl, by decide +kernel, by decide +kernel⟩
abbrev s_is_witness : Stmt := top 35
abbrev N_is_witness : List Str := ["table", "witness", "modulus", "weights", "residue", "weight", "size"]
theorem sc_is_witness : FnScope N_is_witness ["table", "witness"] (defScope s_is_witness) := ⟨rfl, rfl, rfl, by decide +kernel, rfl, by decide +kernel, by decide +kernel⟩
abbrev s_has_residue : Stmt := top 38
abbrev N_has_residue : List Str := ["witness", "seat", "modulus", "weights", "residue"]
theorem sc_has_residue : FnScope N_has_residue ["witness", "seat"] (defScope s_has_residue) := ⟨rfl, rfl, rfl, by decide +kernel, rfl, by decide +kernel, by decide +kernel⟩
abbrev s_direction_off : Stmt := top 39
abbrev N_direction_off : List Str := ["table", "witness", "seat", "call"]
theorem sc_direction_off : FnScope N_direction_off ["table", "witness", "seat", "call"] (defScope s_direction_off) := ⟨rfl, rfl, rfl, by decide +kernel, rfl, by decide +kernel, by decide +kernel⟩
abbrev s_is_layers : Stmt := top 40
abbrev N_is_layers : List Str := ["strategy"]
theorem sc_is_layers : FnScope N_is_layers ["strategy"] (defScope s_is_layers) := ⟨rfl, rfl, rfl, by decide +kernel, rfl, by decide +kernel, by decide +kernel⟩
abbrev s_copied : Stmt := top 41
abbrev N_copied : List Str := ["strategy"]
theorem sc_copied : FnScope N_copied ["strategy"] (defScope s_copied) := ⟨rfl, rfl, rfl, by decide +kernel, rfl, by decide +kernel, by decide +kernel⟩
abbrev s_depths_for : Stmt := top 42
abbrev N_depths_for : List Str := ["table", "targets", "strategy"]
theorem sc_depths_for : FnScope N_depths_for ["table", "targets", "strategy"] (defScope s_depths_for) := ⟨rfl, rfl, rfl, by decide +kernel, rfl, by decide +kernel, by decide +kernel⟩
abbrev s_is_made_for : Stmt := top 43
abbrev N_is_made_for : List Str := ["player", "table", "targets"]
theorem sc_is_made_for : FnScope N_is_made_for ["player", "table", "targets"] (defScope s_is_made_for) := ⟨rfl, rfl, rfl, by decide +kernel, rfl, by decide +kernel, by decide +kernel⟩
abbrev s_is_calls : Stmt := top 44
abbrev N_is_calls : List Str := ["table", "strategy", "call"]
theorem sc_is_calls : FnScope N_is_calls ["table", "strategy"] (defScope s_is_calls) := ⟨rfl, rfl, rfl, by decide +kernel, rfl, by decide +kernel, by decide +kernel⟩
abbrev s_is_directions : Stmt := top 45
abbrev N_is_directions : List Str := ["strategy", "one"]
theorem sc_is_directions : FnScope N_is_directions ["strategy"] (defScope s_is_directions) := ⟨rfl, rfl, rfl, by decide +kernel, rfl, by decide +kernel, by decide +kernel⟩
abbrev s_is_shared_witness : Stmt := top 46
abbrev N_is_shared_witness : List Str := ["table", "targets", "strategy", "target"]
theorem sc_is_shared_witness : FnScope N_is_shared_witness ["table", "targets", "strategy"] (defScope s_is_shared_witness) := ⟨rfl, rfl, rfl, by decide +kernel, rfl, by decide +kernel, by decide +kernel⟩
abbrev s_Caller_init : Stmt := inClass (top 47) 0
abbrev N_Caller_init : List Str := ["self", "table", "targets", "strategy"]
theorem sc_Caller_init : FnScope N_Caller_init ["self", "table", "targets", "strategy"] (defScope s_Caller_init) := ⟨rfl, rfl, rfl, by decide +kernel, rfl, by decide +kernel, by decide +kernel⟩
abbrev s_Caller_call_at : Stmt := inClass (top 47) 1
abbrev N_Caller_call_at : List Str := ["self", "seat", "index", "sizes", "call", "one", "size"]
theorem sc_Caller_call_at : FnScope N_Caller_call_at ["self", "seat", "index"] (defScope s_Caller_call_at) := ⟨rfl, rfl, rfl, by decide +kernel, rfl, by decide +kernel, by decide +kernel⟩
abbrev s_Caller_next_call : Stmt := inClass (top 47) 2
abbrev N_Caller_next_call : List Str := ["self", "seat", "call"]
theorem sc_Caller_next_call : FnScope N_Caller_next_call ["self", "seat"] (defScope s_Caller_next_call) := ⟨rfl, rfl, rfl, by decide +kernel, rfl, by decide +kernel, by decide +kernel⟩
abbrev s_Responder_init : Stmt := inClass (top 48) 0
abbrev N_Responder_init : List Str := ["self", "table", "targets", "strategy"]
theorem sc_Responder_init : FnScope N_Responder_init ["self", "table", "targets", "strategy"] (defScope s_Responder_init) := ⟨rfl, rfl, rfl, by decide +kernel, rfl, by decide +kernel, by decide +kernel⟩
abbrev s_Responder_is_unsafe : Stmt := inClass (top 48) 1
abbrev N_Responder_is_unsafe : List Str := ["self", "seat"]
theorem sc_Responder_is_unsafe : FnScope N_Responder_is_unsafe ["self", "seat"] (defScope s_Responder_is_unsafe) := ⟨rfl, rfl, rfl, by decide +kernel, rfl, by decide +kernel, by decide +kernel⟩
abbrev s_Responder_direction_at : Stmt := inClass (top 48) 2
abbrev N_Responder_direction_at : List Str := ["self", "seat", "call", "index", "above", "ahead", "behind", "one"]
theorem sc_Responder_direction_at : FnScope N_Responder_direction_at ["self", "seat", "call", "index"] (defScope s_Responder_direction_at) := ⟨rfl, rfl, rfl, by decide +kernel, rfl, by decide +kernel, by decide +kernel⟩
abbrev s_Responder_answer : Stmt := inClass (top 48) 3
abbrev N_Responder_answer : List Str := ["self", "seat", "call", "direction"]
theorem sc_Responder_answer : FnScope N_Responder_answer ["self", "seat", "call"] (defScope s_Responder_answer) := ⟨rfl, rfl, rfl, by decide +kernel, rfl, by decide +kernel, by decide +kernel⟩
abbrev s_play : Stmt := top 49
abbrev N_play : List Str := ["table", "targets", "seat", "caller", "responder", "limit", "found", "seats", "call", "direction"]
theorem sc_play : FnScope N_play ["table", "targets", "seat", "caller", "responder", "limit"] (defScope s_play) := ⟨rfl, rfl, rfl, by decide +kernel, rfl, by decide +kernel, by decide +kernel⟩
abbrev s_law_cell_at : Stmt := top 51
abbrev N_law_cell_at : List Str := ["_law_script", "_law_k"]
theorem sc_law_cell_at : FnScope N_law_cell_at ["_law_script", "_law_k"] (defScope s_law_cell_at) := ⟨rfl, rfl, rfl, by decide +kernel, rfl, by decide +kernel, by decide +kernel⟩
abbrev s_law_source : Stmt := top 52
abbrev N_law_source : List Str := ["_law_cell"]
theorem sc_law_source : FnScope N_law_source ["_law_cell"] (defScope s_law_source) := ⟨rfl, rfl, rfl, by decide +kernel, rfl, by decide +kernel, by decide +kernel⟩
abbrev s_law_take : Stmt := top 53
abbrev N_law_take : List Str := ["_law_source_here", "_law_bound", "_law_digit", "_law_mixed"]
theorem sc_law_take : FnScope N_law_take ["_law_source_here", "_law_bound"] (defScope s_law_take) := ⟨rfl, rfl, rfl, by decide +kernel, rfl, by decide +kernel, by decide +kernel⟩
abbrev s_law_pick : Stmt := top 54
abbrev N_law_pick : List Str := ["_law_source_here", "_law_items"]
theorem sc_law_pick : FnScope N_law_pick ["_law_source_here", "_law_items"] (defScope s_law_pick) := ⟨rfl, rfl, rfl, by decide +kernel, rfl, by decide +kernel, by decide +kernel⟩
abbrev s_law_shuffled : Stmt := top 55
abbrev N_law_shuffled : List Str := ["_law_source_here", "_law_items", "_law_pool", "_law_result"]
theorem sc_law_shuffled : FnScope N_law_shuffled ["_law_source_here", "_law_items"] (defScope s_law_shuffled) := ⟨rfl, rfl, rfl, by decide +kernel, rfl, by decide +kernel, by decide +kernel⟩
abbrev s_law_drawn_seat : Stmt := top 56
abbrev N_law_drawn_seat : List Str := ["_law_source_here", "_law_rings", "_law_size"]
theorem sc_law_drawn_seat : FnScope N_law_drawn_seat ["_law_source_here", "_law_rings"] (defScope s_law_drawn_seat) := ⟨rfl, rfl, rfl, by decide +kernel, rfl, by decide +kernel, by decide +kernel⟩
abbrev s_law_moved : Stmt := top 57
abbrev N_law_moved : List Str := ["_law_rings", "_law_spot", "_law_call_in", "_law_sign_here", "_law_one", "_law_other", "_law_size"]
theorem sc_law_moved : FnScope N_law_moved ["_law_rings", "_law_spot", "_law_call_in", "_law_sign_here"] (defScope s_law_moved) := ⟨rfl, rfl, rfl, by decide +kernel, rfl, by decide +kernel, by decide +kernel⟩
abbrev s_law_drawn_call : Stmt := top 58
abbrev N_law_drawn_call : List Str := ["_law_source_here", "_law_rings", "_law_result", "_law_size", "_law_wide"]
theorem sc_law_drawn_call : FnScope N_law_drawn_call ["_law_source_here", "_law_rings"] (defScope s_law_drawn_call) := ⟨rfl, rfl, rfl, by decide +kernel, rfl, by decide +kernel, by decide +kernel⟩
abbrev s_law_goals : Stmt := top 59
abbrev N_law_goals : List Str := ["_law_source_here", "_law_rings", "_law_bound", "_law_result", "_law_k", "_law_spot"]
theorem sc_law_goals : FnScope N_law_goals ["_law_source_here", "_law_rings", "_law_bound"] (defScope s_law_goals) := ⟨rfl, rfl, rfl, by decide +kernel, rfl, by decide +kernel, by decide +kernel⟩
abbrev s_law_list_calls : Stmt := top 60
abbrev N_law_list_calls : List Str := ["_law_source_here", "_law_rings", "_law_bound", "_law_k"]
theorem sc_law_list_calls : FnScope N_law_list_calls ["_law_source_here", "_law_rings", "_law_bound"] (defScope s_law_list_calls) := ⟨rfl, rfl, rfl, by decide +kernel, rfl, by decide +kernel, by decide +kernel⟩
abbrev s_law_list_words : Stmt := top 61
abbrev N_law_list_words : List Str := ["_law_source_here", "_law_bound", "_law_k"]
theorem sc_law_list_words : FnScope N_law_list_words ["_law_source_here", "_law_bound"] (defScope s_law_list_words) := ⟨rfl, rfl, rfl, by decide +kernel, rfl, by decide +kernel, by decide +kernel⟩
abbrev s_law_sign : Stmt := top 62
abbrev N_law_sign : List Str := ["_law_word"]
theorem sc_law_sign : FnScope N_law_sign ["_law_word"] (defScope s_law_sign) := ⟨rfl, rfl, rfl, by decide +kernel, rfl, by decide +kernel, by decide +kernel⟩
abbrev s_law_rings_any : Stmt := top 63
abbrev N_law_rings_any : List Str := ["_law_source_here", "_law_wide", "_law_k"]
theorem sc_law_rings_any : FnScope N_law_rings_any ["_law_source_here"] (defScope s_law_rings_any) := ⟨rfl, rfl, rfl, by decide +kernel, rfl, by decide +kernel, by decide +kernel⟩
abbrev s_law_game : Stmt := top 64
abbrev N_law_game : List Str := ["_law_rings", "_law_goals_here", "_law_spot", "_law_called", "_law_words", "_law_limit_at", "_law_history", "_law_spots", "_law_number", "_law_part", "_law_word", "_law_one", "_law_size"]
theorem sc_law_game : FnScope N_law_game ["_law_rings", "_law_goals_here", "_law_spot", "_law_called", "_law_words", "_law_limit_at"] (defScope s_law_game) := ⟨rfl, rfl, rfl, by decide +kernel, rfl, by decide +kernel, by decide +kernel⟩
abbrev s_law_start : Stmt := top 65
abbrev N_law_start : List Str := ["_law_source_here", "_law_rings", "_law_goals_here", "_law_called", "_law_goal", "_law_near"]
theorem sc_law_start : FnScope N_law_start ["_law_source_here", "_law_rings", "_law_goals_here", "_law_called"] (defScope s_law_start) := ⟨rfl, rfl, rfl, by decide +kernel, rfl, by decide +kernel, by decide +kernel⟩
abbrev s_law_right : Stmt := top 66
abbrev N_law_right : List Str := ["_law_source_here", "_law_rings", "_law_goals_here", "_law_table", "_law_called", "_law_words", "_law_given", "_law_other", "_law_caller", "_law_responder", "_law_spot", "_law_used", "_law_k", "_law_turn", "_law_begin", "_law_limit_at", "_law_due", "_law_kept", "_law_told", "_law_part", "_law_one", "_law_size"]
theorem sc_law_right : FnScope N_law_right ["_law_source_here"] (defScope s_law_right) := ⟨rfl, rfl, rfl, by decide +kernel, rfl, by decide +kernel, by decide +kernel⟩
abbrev s_law_refused : Stmt := top 67
abbrev N_law_refused : List Str := ["_law_table", "_law_goals_here", "_law_spot", "_law_caller", "_law_responder", "e"]
theorem sc_law_refused : FnScope N_law_refused ["_law_table", "_law_goals_here", "_law_spot", "_law_caller", "_law_responder"] (defScope s_law_refused) := ⟨rfl, rfl, rfl, by decide +kernel, rfl, by decide +kernel, by decide +kernel⟩
abbrev s_law_turned_right : Stmt := top 68
abbrev N_law_turned_right : List Str := ["_law_source_here", "_law_rings", "_law_goals_here", "_law_spot", "_law_hop", "_law_table", "_law_more", "_law_others", "_law_way", "_law_words", "_law_caller", "_law_responder", "_law_lot", "_law_told", "_law_one"]
theorem sc_law_turned_right : FnScope N_law_turned_right ["_law_source_here"] (defScope s_law_turned_right) := ⟨rfl, rfl, rfl, by decide +kernel, rfl, by decide +kernel, by decide +kernel⟩
abbrev s_law_witness_right : Stmt := top 69
abbrev N_law_witness_right : List Str := ["_law_source_here", "_law_table", "_law_trio", "_law_witness", "_law_some", "_law_begin", "_law_caller", "_law_responder"]
theorem sc_law_witness_right : FnScope N_law_witness_right ["_law_source_here"] (defScope s_law_witness_right) := ⟨rfl, rfl, rfl, by decide +kernel, rfl, by decide +kernel, by decide +kernel⟩
abbrev s_law : Stmt := top 70
abbrev N_law : List Str := ["_law_script", "_law_cell", "_law_source_here"]
theorem sc_law : FnScope N_law ["_law_script"] (defScope s_law) := ⟨rfl, rfl, rfl, by decide +kernel, rfl, by decide +kernel, by decide +kernel⟩
/-- what the top has written -/
structure TX (K : PySem.W.Frag) (mg : Str → Option Value) where
  f_wall : Addr
  fd_wall : FuncData
  F_wall : Fun K "_wall" "_wall" s_wall f_wall fd_wall
  b_wall : Binds K fd_wall ["k"] []
  m_wall : mg "_wall" = some (.ref f_wall)
  f_Mismatch_init : Addr
  fd_Mismatch_init : FuncData
  F_Mismatch_init : Fun K "__init__" "Mismatch.__init__" s_Mismatch_init f_Mismatch_init fd_Mismatch_init
  b_Mismatch_init : Binds K fd_Mismatch_init ["self", "name"] []
  f_is_integer : Addr
  fd_is_integer : FuncData
  F_is_integer : Fun K "is_integer" "is_integer" s_is_integer f_is_integer fd_is_integer
  b_is_integer : Binds K fd_is_integer ["value"] []
  m_is_integer : mg "is_integer" = some (.ref f_is_integer)
  f_is_at_least : Addr
  fd_is_at_least : FuncData
  F_is_at_least : Fun K "is_at_least" "is_at_least" s_is_at_least f_is_at_least fd_is_at_least
  b_is_at_least : Binds K fd_is_at_least ["value", "low"] []
  m_is_at_least : mg "is_at_least" = some (.ref f_is_at_least)
  f_is_between : Addr
  fd_is_between : FuncData
  F_is_between : Fun K "is_between" "is_between" s_is_between f_is_between fd_is_between
  b_is_between : Binds K fd_is_between ["value", "low", "high"] []
  m_is_between : mg "is_between" = some (.ref f_is_between)
  f_greatest_common_divisor : Addr
  fd_greatest_common_divisor : FuncData
  F_greatest_common_divisor : Fun K "greatest_common_divisor" "greatest_common_divisor" s_greatest_common_divisor f_greatest_common_divisor fd_greatest_common_divisor
  b_greatest_common_divisor : Binds K fd_greatest_common_divisor ["first", "second"] []
  m_greatest_common_divisor : mg "greatest_common_divisor" = some (.ref f_greatest_common_divisor)
  f_Table_init : Addr
  fd_Table_init : FuncData
  F_Table_init : Fun K "__init__" "Table.__init__" s_Table_init f_Table_init fd_Table_init
  b_Table_init : Binds K fd_Table_init ["self", "rings"] []
  f_Table_sizes : Addr
  fd_Table_sizes : FuncData
  F_Table_sizes : Fun K "sizes" "Table.sizes" s_Table_sizes f_Table_sizes fd_Table_sizes
  b_Table_sizes : Binds K fd_Table_sizes ["self"] []
  f_Table_count : Addr
  fd_Table_count : FuncData
  F_Table_count : Fun K "count" "Table.count" s_Table_count f_Table_count fd_Table_count
  b_Table_count : Binds K fd_Table_count ["self"] []
  f_Table_is_seat : Addr
  fd_Table_is_seat : FuncData
  F_Table_is_seat : Fun K "is_seat" "Table.is_seat" s_Table_is_seat f_Table_is_seat fd_Table_is_seat
  b_Table_is_seat : Binds K fd_Table_is_seat ["self", "value"] []
  f_Table_is_call : Addr
  fd_Table_is_call : FuncData
  F_Table_is_call : Fun K "is_call" "Table.is_call" s_Table_is_call f_Table_is_call fd_Table_is_call
  b_Table_is_call : Binds K fd_Table_is_call ["self", "value"] []
  f_Table_shifted : Addr
  fd_Table_shifted : FuncData
  F_Table_shifted : Fun K "shifted" "Table.shifted" s_Table_shifted f_Table_shifted fd_Table_shifted
  b_Table_shifted : Binds K fd_Table_shifted ["self", "seat", "call", "factor"] []
  f_Table_moves : Addr
  fd_Table_moves : FuncData
  F_Table_moves : Fun K "moves" "Table.moves" s_Table_moves f_Table_moves fd_Table_moves
  b_Table_moves : Binds K fd_Table_moves ["self", "seat", "call"] []
  f_Table_step : Addr
  fd_Table_step : FuncData
  F_Table_step : Fun K "step" "Table.step" s_Table_step f_Table_step fd_Table_step
  b_Table_step : Binds K fd_Table_step ["self", "seat", "call", "direction"] []
  f_Table_order : Addr
  fd_Table_order : FuncData
  F_Table_order : Fun K "order" "Table.order" s_Table_order f_Table_order fd_Table_order
  b_Table_order : Binds K fd_Table_order ["self", "seat"] []
  f_Table_halves : Addr
  fd_Table_halves : FuncData
  F_Table_halves : Fun K "halves" "Table.halves" s_Table_halves f_Table_halves fd_Table_halves
  b_Table_halves : Binds K fd_Table_halves ["self", "seat"] []
  f_is_direction : Addr
  fd_is_direction : FuncData
  F_is_direction : Fun K "is_direction" "is_direction" s_is_direction f_is_direction fd_is_direction
  b_is_direction : Binds K fd_is_direction ["value"] []
  m_is_direction : mg "is_direction" = some (.ref f_is_direction)
  f_require_table : Addr
  fd_require_table : FuncData
  F_require_table : Fun K "require_table" "require_table" s_require_table f_require_table fd_require_table
  b_require_table : Binds K fd_require_table ["table"] []
  m_require_table : mg "require_table" = some (.ref f_require_table)
  f_require_seat : Addr
  fd_require_seat : FuncData
  F_require_seat : Fun K "require_seat" "require_seat" s_require_seat f_require_seat fd_require_seat
  b_require_seat : Binds K fd_require_seat ["table", "seat"] []
  m_require_seat : mg "require_seat" = some (.ref f_require_seat)
  f_require_call : Addr
  fd_require_call : FuncData
  F_require_call : Fun K "require_call" "require_call" s_require_call f_require_call fd_require_call
  b_require_call : Binds K fd_require_call ["table", "call"] []
  m_require_call : mg "require_call" = some (.ref f_require_call)
  f_require_targets : Addr
  fd_require_targets : FuncData
  F_require_targets : Fun K "require_targets" "require_targets" s_require_targets f_require_targets fd_require_targets
  b_require_targets : Binds K fd_require_targets ["table", "targets"] []
  m_require_targets : mg "require_targets" = some (.ref f_require_targets)
  f_require_small : Addr
  fd_require_small : FuncData
  F_require_small : Fun K "require_small" "require_small" s_require_small f_require_small fd_require_small
  b_require_small : Binds K fd_require_small ["table"] []
  m_require_small : mg "require_small" = some (.ref f_require_small)
  f_all_seats : Addr
  fd_all_seats : FuncData
  F_all_seats : Fun K "all_seats" "all_seats" s_all_seats f_all_seats fd_all_seats
  b_all_seats : Binds K fd_all_seats ["table"] []
  m_all_seats : mg "all_seats" = some (.ref f_all_seats)
  f_mirror_seat : Addr
  fd_mirror_seat : FuncData
  F_mirror_seat : Fun K "mirror_seat" "mirror_seat" s_mirror_seat f_mirror_seat fd_mirror_seat
  b_mirror_seat : Binds K fd_mirror_seat ["table", "seat", "other"] []
  m_mirror_seat : mg "mirror_seat" = some (.ref f_mirror_seat)
  f_call_to : Addr
  fd_call_to : FuncData
  F_call_to : Fun K "call_to" "call_to" s_call_to f_call_to fd_call_to
  b_call_to : Binds K fd_call_to ["table", "seat", "other"] []
  m_call_to : mg "call_to" = some (.ref f_call_to)
  f_call_counts : Addr
  fd_call_counts : FuncData
  F_call_counts : Fun K "call_counts" "call_counts" s_call_counts f_call_counts fd_call_counts
  b_call_counts : Binds K fd_call_counts ["table", "targets"] []
  m_call_counts : mg "call_counts" = some (.ref f_call_counts)
  f_call_from : Addr
  fd_call_from : FuncData
  F_call_from : Fun K "call_from" "call_from" s_call_from f_call_from fd_call_from
  b_call_from : Binds K fd_call_from ["table", "counts", "seat"] []
  m_call_from : mg "call_from" = some (.ref f_call_from)
  f_weighted : Addr
  fd_weighted : FuncData
  F_weighted : Fun K "weighted" "weighted" s_weighted f_weighted fd_weighted
  b_weighted : Binds K fd_weighted ["modulus", "weights", "seat"] []
  m_weighted : mg "weighted" = some (.ref f_weighted)
  f_is_witness : Addr
  fd_is_witness : FuncData
  F_is_witness : Fun K "is_witness" "is_witness" s_is_witness f_is_witness fd_is_witness
  b_is_witness : Binds K fd_is_witness ["table", "witness"] []
  m_is_witness : mg "is_witness" = some (.ref f_is_witness)
  f_has_residue : Addr
  fd_has_residue : FuncData
  F_has_residue : Fun K "has_residue" "has_residue" s_has_residue f_has_residue fd_has_residue
  b_has_residue : Binds K fd_has_residue ["witness", "seat"] []
  m_has_residue : mg "has_residue" = some (.ref f_has_residue)
  f_direction_off : Addr
  fd_direction_off : FuncData
  F_direction_off : Fun K "direction_off" "direction_off" s_direction_off f_direction_off fd_direction_off
  b_direction_off : Binds K fd_direction_off ["table", "witness", "seat", "call"] []
  m_direction_off : mg "direction_off" = some (.ref f_direction_off)
  f_is_layers : Addr
  fd_is_layers : FuncData
  F_is_layers : Fun K "is_layers" "is_layers" s_is_layers f_is_layers fd_is_layers
  b_is_layers : Binds K fd_is_layers ["strategy"] []
  m_is_layers : mg "is_layers" = some (.ref f_is_layers)
  f_copied : Addr
  fd_copied : FuncData
  F_copied : Fun K "copied" "copied" s_copied f_copied fd_copied
  b_copied : Binds K fd_copied ["strategy"] []
  m_copied : mg "copied" = some (.ref f_copied)
  f_depths_for : Addr
  fd_depths_for : FuncData
  F_depths_for : Fun K "depths_for" "depths_for" s_depths_for f_depths_for fd_depths_for
  b_depths_for : Binds K fd_depths_for ["table", "targets", "strategy"] []
  m_depths_for : mg "depths_for" = some (.ref f_depths_for)
  f_is_made_for : Addr
  fd_is_made_for : FuncData
  F_is_made_for : Fun K "is_made_for" "is_made_for" s_is_made_for f_is_made_for fd_is_made_for
  b_is_made_for : Binds K fd_is_made_for ["player", "table", "targets"] []
  m_is_made_for : mg "is_made_for" = some (.ref f_is_made_for)
  f_is_calls : Addr
  fd_is_calls : FuncData
  F_is_calls : Fun K "is_calls" "is_calls" s_is_calls f_is_calls fd_is_calls
  b_is_calls : Binds K fd_is_calls ["table", "strategy"] []
  m_is_calls : mg "is_calls" = some (.ref f_is_calls)
  f_is_directions : Addr
  fd_is_directions : FuncData
  F_is_directions : Fun K "is_directions" "is_directions" s_is_directions f_is_directions fd_is_directions
  b_is_directions : Binds K fd_is_directions ["strategy"] []
  m_is_directions : mg "is_directions" = some (.ref f_is_directions)
  f_is_shared_witness : Addr
  fd_is_shared_witness : FuncData
  F_is_shared_witness : Fun K "is_shared_witness" "is_shared_witness" s_is_shared_witness f_is_shared_witness fd_is_shared_witness
  b_is_shared_witness : Binds K fd_is_shared_witness ["table", "targets", "strategy"] []
  m_is_shared_witness : mg "is_shared_witness" = some (.ref f_is_shared_witness)
  f_Caller_init : Addr
  fd_Caller_init : FuncData
  F_Caller_init : Fun K "__init__" "Caller.__init__" s_Caller_init f_Caller_init fd_Caller_init
  b_Caller_init : Binds K fd_Caller_init ["self", "table", "targets", "strategy"] []
  f_Caller_call_at : Addr
  fd_Caller_call_at : FuncData
  F_Caller_call_at : Fun K "call_at" "Caller.call_at" s_Caller_call_at f_Caller_call_at fd_Caller_call_at
  b_Caller_call_at : Binds K fd_Caller_call_at ["self", "seat", "index"] []
  f_Caller_next_call : Addr
  fd_Caller_next_call : FuncData
  F_Caller_next_call : Fun K "next_call" "Caller.next_call" s_Caller_next_call f_Caller_next_call fd_Caller_next_call
  b_Caller_next_call : Binds K fd_Caller_next_call ["self", "seat"] []
  f_Responder_init : Addr
  fd_Responder_init : FuncData
  F_Responder_init : Fun K "__init__" "Responder.__init__" s_Responder_init f_Responder_init fd_Responder_init
  b_Responder_init : Binds K fd_Responder_init ["self", "table", "targets", "strategy"] []
  f_Responder_is_unsafe : Addr
  fd_Responder_is_unsafe : FuncData
  F_Responder_is_unsafe : Fun K "is_unsafe" "Responder.is_unsafe" s_Responder_is_unsafe f_Responder_is_unsafe fd_Responder_is_unsafe
  b_Responder_is_unsafe : Binds K fd_Responder_is_unsafe ["self", "seat"] []
  f_Responder_direction_at : Addr
  fd_Responder_direction_at : FuncData
  F_Responder_direction_at : Fun K "direction_at" "Responder.direction_at" s_Responder_direction_at f_Responder_direction_at fd_Responder_direction_at
  b_Responder_direction_at : Binds K fd_Responder_direction_at ["self", "seat", "call", "index"] []
  f_Responder_answer : Addr
  fd_Responder_answer : FuncData
  F_Responder_answer : Fun K "answer" "Responder.answer" s_Responder_answer f_Responder_answer fd_Responder_answer
  b_Responder_answer : Binds K fd_Responder_answer ["self", "seat", "call"] []
  f_play : Addr
  fd_play : FuncData
  F_play : Fun K "play" "play" s_play f_play fd_play
  b_play : Binds K fd_play ["table", "targets", "seat", "caller", "responder", "limit"] []
  m_play : mg "play" = some (.ref f_play)
  f_law_cell_at : Addr
  fd_law_cell_at : FuncData
  F_law_cell_at : Fun K "_law_cell_at" "_law_cell_at" s_law_cell_at f_law_cell_at fd_law_cell_at
  b_law_cell_at : Binds K fd_law_cell_at ["_law_script", "_law_k"] []
  m_law_cell_at : mg "_law_cell_at" = some (.ref f_law_cell_at)
  f_law_source : Addr
  fd_law_source : FuncData
  F_law_source : Fun K "_law_source" "_law_source" s_law_source f_law_source fd_law_source
  b_law_source : Binds K fd_law_source ["_law_cell"] []
  m_law_source : mg "_law_source" = some (.ref f_law_source)
  f_law_take : Addr
  fd_law_take : FuncData
  F_law_take : Fun K "_law_take" "_law_take" s_law_take f_law_take fd_law_take
  b_law_take : Binds K fd_law_take ["_law_source_here", "_law_bound"] []
  m_law_take : mg "_law_take" = some (.ref f_law_take)
  f_law_pick : Addr
  fd_law_pick : FuncData
  F_law_pick : Fun K "_law_pick" "_law_pick" s_law_pick f_law_pick fd_law_pick
  b_law_pick : Binds K fd_law_pick ["_law_source_here", "_law_items"] []
  m_law_pick : mg "_law_pick" = some (.ref f_law_pick)
  f_law_shuffled : Addr
  fd_law_shuffled : FuncData
  F_law_shuffled : Fun K "_law_shuffled" "_law_shuffled" s_law_shuffled f_law_shuffled fd_law_shuffled
  b_law_shuffled : Binds K fd_law_shuffled ["_law_source_here", "_law_items"] []
  m_law_shuffled : mg "_law_shuffled" = some (.ref f_law_shuffled)
  f_law_drawn_seat : Addr
  fd_law_drawn_seat : FuncData
  F_law_drawn_seat : Fun K "_law_drawn_seat" "_law_drawn_seat" s_law_drawn_seat f_law_drawn_seat fd_law_drawn_seat
  b_law_drawn_seat : Binds K fd_law_drawn_seat ["_law_source_here", "_law_rings"] []
  m_law_drawn_seat : mg "_law_drawn_seat" = some (.ref f_law_drawn_seat)
  f_law_moved : Addr
  fd_law_moved : FuncData
  F_law_moved : Fun K "_law_moved" "_law_moved" s_law_moved f_law_moved fd_law_moved
  b_law_moved : Binds K fd_law_moved ["_law_rings", "_law_spot", "_law_call_in", "_law_sign_here"] []
  m_law_moved : mg "_law_moved" = some (.ref f_law_moved)
  f_law_drawn_call : Addr
  fd_law_drawn_call : FuncData
  F_law_drawn_call : Fun K "_law_drawn_call" "_law_drawn_call" s_law_drawn_call f_law_drawn_call fd_law_drawn_call
  b_law_drawn_call : Binds K fd_law_drawn_call ["_law_source_here", "_law_rings"] []
  m_law_drawn_call : mg "_law_drawn_call" = some (.ref f_law_drawn_call)
  f_law_goals : Addr
  fd_law_goals : FuncData
  F_law_goals : Fun K "_law_goals" "_law_goals" s_law_goals f_law_goals fd_law_goals
  b_law_goals : Binds K fd_law_goals ["_law_source_here", "_law_rings", "_law_bound"] []
  m_law_goals : mg "_law_goals" = some (.ref f_law_goals)
  f_law_list_calls : Addr
  fd_law_list_calls : FuncData
  F_law_list_calls : Fun K "_law_list_calls" "_law_list_calls" s_law_list_calls f_law_list_calls fd_law_list_calls
  b_law_list_calls : Binds K fd_law_list_calls ["_law_source_here", "_law_rings", "_law_bound"] []
  m_law_list_calls : mg "_law_list_calls" = some (.ref f_law_list_calls)
  f_law_list_words : Addr
  fd_law_list_words : FuncData
  F_law_list_words : Fun K "_law_list_words" "_law_list_words" s_law_list_words f_law_list_words fd_law_list_words
  b_law_list_words : Binds K fd_law_list_words ["_law_source_here", "_law_bound"] []
  m_law_list_words : mg "_law_list_words" = some (.ref f_law_list_words)
  f_law_sign : Addr
  fd_law_sign : FuncData
  F_law_sign : Fun K "_law_sign" "_law_sign" s_law_sign f_law_sign fd_law_sign
  b_law_sign : Binds K fd_law_sign ["_law_word"] []
  m_law_sign : mg "_law_sign" = some (.ref f_law_sign)
  f_law_rings_any : Addr
  fd_law_rings_any : FuncData
  F_law_rings_any : Fun K "_law_rings_any" "_law_rings_any" s_law_rings_any f_law_rings_any fd_law_rings_any
  b_law_rings_any : Binds K fd_law_rings_any ["_law_source_here"] []
  m_law_rings_any : mg "_law_rings_any" = some (.ref f_law_rings_any)
  f_law_game : Addr
  fd_law_game : FuncData
  F_law_game : Fun K "_law_game" "_law_game" s_law_game f_law_game fd_law_game
  b_law_game : Binds K fd_law_game ["_law_rings", "_law_goals_here", "_law_spot", "_law_called", "_law_words", "_law_limit_at"] []
  m_law_game : mg "_law_game" = some (.ref f_law_game)
  f_law_start : Addr
  fd_law_start : FuncData
  F_law_start : Fun K "_law_start" "_law_start" s_law_start f_law_start fd_law_start
  b_law_start : Binds K fd_law_start ["_law_source_here", "_law_rings", "_law_goals_here", "_law_called"] []
  m_law_start : mg "_law_start" = some (.ref f_law_start)
  f_law_right : Addr
  fd_law_right : FuncData
  F_law_right : Fun K "_law_right" "_law_right" s_law_right f_law_right fd_law_right
  b_law_right : Binds K fd_law_right ["_law_source_here"] []
  m_law_right : mg "_law_right" = some (.ref f_law_right)
  f_law_refused : Addr
  fd_law_refused : FuncData
  F_law_refused : Fun K "_law_refused" "_law_refused" s_law_refused f_law_refused fd_law_refused
  b_law_refused : Binds K fd_law_refused ["_law_table", "_law_goals_here", "_law_spot", "_law_caller", "_law_responder"] []
  m_law_refused : mg "_law_refused" = some (.ref f_law_refused)
  f_law_turned_right : Addr
  fd_law_turned_right : FuncData
  F_law_turned_right : Fun K "_law_turned_right" "_law_turned_right" s_law_turned_right f_law_turned_right fd_law_turned_right
  b_law_turned_right : Binds K fd_law_turned_right ["_law_source_here"] []
  m_law_turned_right : mg "_law_turned_right" = some (.ref f_law_turned_right)
  f_law_witness_right : Addr
  fd_law_witness_right : FuncData
  F_law_witness_right : Fun K "_law_witness_right" "_law_witness_right" s_law_witness_right f_law_witness_right fd_law_witness_right
  b_law_witness_right : Binds K fd_law_witness_right ["_law_source_here"] []
  m_law_witness_right : mg "_law_witness_right" = some (.ref f_law_witness_right)
  f_law : Addr
  fd_law : FuncData
  F_law : Fun K "law" "law" s_law f_law fd_law
  b_law : Binds K fd_law ["_law_script"] []
  m_law : mg "law" = some (.ref f_law)
  C_Mismatch : Addr
  m_Mismatch : mg "Mismatch" = some (.ref C_Mismatch)
  ox_Mismatch : OexC K C_Mismatch
  xf_Mismatch : XfC K C_Mismatch
  i_Mismatch : PySem.W.findIn K (.ref C_Mismatch) "__init__" = some (some (.ref f_Mismatch_init))
  ti_Mismatch : PySem.W.typeIn K (.ref f_Mismatch_init) = some (.type "function")
  em_Mismatch : PySem.W.exmOne K (.ref C_Mismatch) (.ref C_Mismatch) = some true
  n_Mismatch_name : PySem.W.findIn K (.ref C_Mismatch) "name" = some none
  C_Table : Addr
  cl_Table : Cls K C_Table
  m_Table : mg "Table" = some (.ref C_Table)
  M_Table : Mk K C_Table f_Table_init
  me_Table_sizes : Meth K C_Table "sizes" f_Table_sizes
  me_Table_count : Meth K C_Table "count" f_Table_count
  me_Table_is_seat : Meth K C_Table "is_seat" f_Table_is_seat
  me_Table_is_call : Meth K C_Table "is_call" f_Table_is_call
  me_Table_shifted : Meth K C_Table "shifted" f_Table_shifted
  me_Table_moves : Meth K C_Table "moves" f_Table_moves
  me_Table_step : Meth K C_Table "step" f_Table_step
  me_Table_order : Meth K C_Table "order" f_Table_order
  me_Table_halves : Meth K C_Table "halves" f_Table_halves
  n_Table_rings : NoAttr K C_Table "rings"
  ic_Table : PySem.W.findIn K (.ref C_Table) "__class__" = some (some (.builtin "object.__class__"))
  im_Table : PySem.W.mroIn K C_Table (.type "object") = some true
  C_Caller : Addr
  cl_Caller : Cls K C_Caller
  m_Caller : mg "Caller" = some (.ref C_Caller)
  M_Caller : Mk K C_Caller f_Caller_init
  me_Caller_call_at : Meth K C_Caller "call_at" f_Caller_call_at
  me_Caller_next_call : Meth K C_Caller "next_call" f_Caller_next_call
  n_Caller_depths : NoAttr K C_Caller "depths"
  n_Caller_table : NoAttr K C_Caller "table"
  n_Caller_goals : NoAttr K C_Caller "goals"
  n_Caller_strategy : NoAttr K C_Caller "strategy"
  n_Caller_used : NoAttr K C_Caller "used"
  ic_Caller : PySem.W.findIn K (.ref C_Caller) "__class__" = some (some (.builtin "object.__class__"))
  im_Caller : PySem.W.mroIn K C_Caller (.type "object") = some true
  C_Responder : Addr
  cl_Responder : Cls K C_Responder
  m_Responder : mg "Responder" = some (.ref C_Responder)
  M_Responder : Mk K C_Responder f_Responder_init
  me_Responder_is_unsafe : Meth K C_Responder "is_unsafe" f_Responder_is_unsafe
  me_Responder_direction_at : Meth K C_Responder "direction_at" f_Responder_direction_at
  me_Responder_answer : Meth K C_Responder "answer" f_Responder_answer
  n_Responder_depths : NoAttr K C_Responder "depths"
  n_Responder_table : NoAttr K C_Responder "table"
  n_Responder_goals : NoAttr K C_Responder "goals"
  n_Responder_strategy : NoAttr K C_Responder "strategy"
  n_Responder_used : NoAttr K C_Responder "used"
  ic_Responder : PySem.W.findIn K (.ref C_Responder) "__class__" = some (some (.builtin "object.__class__"))
  im_Responder : PySem.W.mroIn K C_Responder (.type "object") = some true
  ig_ : PySem.W.specialIn K (.builtin "object.__class__") "__get__" = some (some (.builtin "getset_descriptor.__get__"))
  it_ : PySem.W.takesIn K (.builtin "object.__class__") = some true
  t_MAX_RINGS : Tok
  c_MAX_RINGS : mg "MAX_RINGS" = some (.int 4 t_MAX_RINGS)
  t_SMALL : Tok
  c_SMALL : mg "SMALL" = some (.int 300 t_SMALL)
  t_LAYERS : Tok
  c_LAYERS : mg "LAYERS" = some (.str "layers" t_LAYERS)
  z_abs : mg "abs" = none
  z_all : mg "all" = none
  z_any : mg "any" = none
  z_bool : mg "bool" = none
  z_enumerate : mg "enumerate" = none
  z_int : mg "int" = none
  z_isinstance : mg "isinstance" = none
  z_len : mg "len" = none
  z_list : mg "list" = none
  z_max : mg "max" = none
  z_range : mg "range" = none
  z_repr : mg "repr" = none
  z_sorted : mg "sorted" = none
  z_str : mg "str" = none
  z_sum : mg "sum" = none
  z_tuple : mg "tuple" = none
  z_zip : mg "zip" = none
/-- not an int (a bool is none) -/
def NotI (K : PySem.W.Frag) (H : Hp) (x : V) : Prop := ∃ t b1 b2, TyX K H x t ∧ PySem.W.kitOne K t (.type "int") = some b1 ∧ PySem.W.kitOne K t (.type "bool") = some b2 ∧ (b1 && !b2) = false
/-- what x is, if an int -/
def IsI (K : PySem.W.Frag) (H : Hp) (x : V) : Option Int → Prop
  | some i => x = .int i
  | none => NotI K H x
def atLeast : Option Int → Int → Bool
  | some i, low => decide (low ≤ i)
  | none, _ => false
def between : Option Int → Int → Int → Bool
  | some i, low, high => decide (low ≤ i) && decide (i ≤ high)
  | none, _, _ => false

section
variable {P : Program} {w : World} {K : PySem.W.Frag} {mg : Str → Option Value} {base : Heap}
def sp_is_integer (K : PySem.W.Frag) : Sp := fun vs H Q _ => ∃ x o, vs = [x] ∧ IsI K H x o ∧ Q (.bl o.isSome) H
theorem ok_is_integer (T : TX K mg) : FnOk P w K mg base CX0 1 T.f_is_integer T.fd_is_integer ["value"] (sp_is_integer K) := by
  refine T.F_is_integer.ok sc_is_integer (fun vs H Q E h => ?_) (fun cdv A outer s H vs Q E hr h => ?_)
  · obtain ⟨x, o, rfl, _⟩ := h
    rfl
  · obtain ⟨x, o, rfl, hx, k⟩ := h
    refine ⟨_, (pss_one (ps_ret (pe_and (pe_callB call_isi (by rfl) T.z_isinstance (by decide +kernel) (pa_cons (pv 0) (pa_cons (pe_bltn (v := .ty "int") rfl T.z_int (by decide +kernel) rfl) pa_nil))) (pe_one (pe_not (pe_callB call_isi (by rfl) T.z_isinstance (by decide +kernel) (pa_cons (pv 0) (pa_cons (pe_bltn (v := .ty "bool") rfl T.z_bool (by decide +kernel) rfl) pa_nil)))))))), ?_⟩
    cases o with
    | some i =>
      cases hx
      exact ⟨_, rfl, _, _, _, _, true, rfl, .ty _, .base (.int i), kit_ty (by decide +kernel), _, rfl, _, rfl, _, _, _, _, false, rfl, .ty _, .base (.int i), kit_ty (by decide +kernel), _, rfl, k⟩
    | none =>
      obtain ⟨t, b1, b2, ht, h1, h2, hb⟩ := hx
      refine ⟨_, rfl, _, _, _, _, b1, rfl, .ty _, ht, h1, _, rfl, ?_⟩
      cases b1 with
      | false => exact k
      | true =>
        refine ⟨_, rfl, _, _, _, _, b2, rfl, .ty _, ht, h2, _, rfl, ?_⟩
        have e : (!b2) = false := hb
        rw [e]
        exact k
def sp_is_at_least (K : PySem.W.Frag) : Sp := fun vs H Q _ => ∃ x o low, vs = [x, .int low] ∧ IsI K H x o ∧ Q (.bl (atLeast o low)) H
theorem ok_is_at_least (T : TX K mg) : FnOk P w K mg base CX0 2 T.f_is_at_least T.fd_is_at_least ["value", "low"] (sp_is_at_least K) := by
  refine T.F_is_at_least.ok sc_is_at_least (fun vs H Q E h => ?_) (fun cdv A outer s H vs Q E hr h => ?_)
  · obtain ⟨x, o, low, rfl, _⟩ := h
    rfl
  · obtain ⟨x, o, low, rfl, hx, k⟩ := h
    refine ⟨_, (pss_one (ps_ret (pe_and (pe_call (ok_is_integer T) hr rfl T.m_is_integer T.F_is_integer.kp T.b_is_integer .nil pass0 (pa_cons (pv 0) pa_nil)) (pe_one (pe_cmpR op_ge (pv 0) (pv 1) (nomark _)))))), ?_⟩
    refine ⟨_, rfl, x, o, rfl, hx, _, rfl, ?_⟩
    cases o with
    | none => exact k
    | some i =>
      cases hx
      exact ⟨_, rfl, _, rfl, _, _, rfl, rfl, k⟩
def sp_is_between (K : PySem.W.Frag) : Sp := fun vs H Q _ => ∃ x o low high, vs = [x, .int low, .int high] ∧ IsI K H x o ∧ Q (.bl (between o low high)) H
theorem ok_is_between (T : TX K mg) : FnOk P w K mg base CX0 2 T.f_is_between T.fd_is_between ["value", "low", "high"] (sp_is_between K) := by
  refine T.F_is_between.ok sc_is_between (fun vs H Q E h => ?_) (fun cdv A outer s H vs Q E hr h => ?_)
  · obtain ⟨x, o, low, high, rfl, _⟩ := h
    rfl
  · obtain ⟨x, o, low, high, rfl, hx, k⟩ := h
    refine ⟨_, (pss_one (ps_ret (pe_and (pe_call (ok_is_integer T) hr rfl T.m_is_integer T.F_is_integer.kp T.b_is_integer .nil pass0 (pa_cons (pv 0) pa_nil)) (pe_one (pe_chain op_le op_le (pv 1) (pv 0) (pv 2)))))), ?_⟩
    refine ⟨_, rfl, x, o, rfl, hx, _, rfl, ?_⟩
    cases o with
    | none => exact k
    | some i =>
      cases hx
      refine ⟨_, rfl, _, rfl, _, _, rfl, rfl, _, rfl, ?_⟩
      refine ite2 (fun c => ?_) (fun c => ?_)
      · have c1 : low ≤ i := of_decide_eq_true c
        refine ⟨_, rfl, _, _, rfl, rfl, ?_⟩
        have e : between (some i) low high = decide (i ≤ high) := by show (decide (low ≤ i) && decide (i ≤ high)) = _; rw [c]; rfl
        rw [e] at k
        exact k
      · have e : between (some i) low high = false := by show (decide (low ≤ i) && decide (i ≤ high)) = _; rw [Bool.eq_false_iff.mpr c]; rfl
        rw [e] at k
        exact k
end

/-- a table of these sizes stands at a -/
def TabAt (C : Addr) (H : Hp) (a : Addr) (ns : List Int) : Prop := ∃ dx t, H a = some (.ins C dx [("rings", .ref t)]) ∧ H t = some (.tup (ns.map V.int))
theorem TabAt.mono {C : Addr} {H H2 : Hp} {a : Addr} {ns : List Int} (e : Ex H H2) (h : TabAt C H a ns) : TabAt C H2 a ns := by
  obtain ⟨dx, t, h1, h2⟩ := h
  exact ⟨dx, t, e _ _ h1, e _ _ h2⟩
/-- a tracked list (false) or tuple (true) -/
def SqH (H : Hp) (p : Bool × Addr) (xs : List V) : Prop := if p.1 = true then H p.2 = some (.tup xs) else H p.2 = some (.lst xs)
theorem SqH.sq {K : PySem.W.Frag} {H : Hp} {p : Bool × Addr} {xs : List V} (h : SqH H p xs) : CZ.SqK K H p xs := by
  obtain ⟨b, a⟩ := p
  cases b
  · exact SqL.of (show H a = some (.lst xs) from h)
  · exact SqT.of (show H a = some (.tup xs) from h)
theorem SqH.mono {H H2 : Hp} {p : Bool × Addr} {xs : List V} (e : Ex H H2) (h : SqH H p xs) : SqH H2 p xs := by
  obtain ⟨b, a⟩ := p
  cases b
  · exact e _ _ (show H a = some (.lst xs) from h)
  · exact e _ _ (show H a = some (.tup xs) from h)
theorem SqH.ty {K : PySem.W.Frag} {H : Hp} {p : Bool × Addr} {xs : List V} (h : SqH H p xs) : TyX K H (.ref p.2) (.type (if p.1 = true then "tuple" else "list")) := by
  obtain ⟨b, a⟩ := p
  cases b
  · exact .base (.lst (show H a = some (.lst xs) from h))
  · exact .base (.tup (show H a = some (.tup xs) from h))
/-- sizes of a table -/
structure SzOk (ns : List Int) : Prop where
  pos : ns ≠ []
  le : ns.length ≤ 4
  one : ∀ n ∈ ns, 1 ≤ n
theorem len_line {α : Type} {l : List α} (h : l.length ≤ 4) : l.length ≤ sizeLine := Nat.le_trans h (by decide)
theorem take_lt {α : Type} {l : List α} (h : l.length ≤ 1000) (i : Nat) : (l.take i).length < sizeLine := by
  rw [List.length_take]
  exact Nat.lt_of_le_of_lt (Nat.le_trans (Nat.min_le_right _ _) h) (by decide)
theorem take_more {α : Type} {l : List α} {i : Nat} {x : α} (h : l[i]? = some x) : l.take (i + 1) = l.take i ++ [x] := by
  rw [List.take_add_one, h]
  rfl
theorem kit_seq {K : PySem.W.Frag} (b : Bool) : PySem.W.kitAny K (.type (if b = true then "tuple" else "list")) [.type "list", .type "tuple"] = some true := by
  cases b
  · exact kitAny_cons (b := true) (kit_ty (by decide +kernel)) (fun h => nomatch h) (fun _ => rfl)
  · exact kitAny_cons (b := false) (kit_ty (by decide +kernel)) (fun _ => kitAny_cons (b := true) (kit_ty (by decide +kernel)) (fun h => nomatch h) (fun _ => rfl)) (fun h => nomatch h)
theorem sq_or {K : PySem.W.Frag} {H : Hp} {b : Bool} {a : Addr} {xs : List V} (h : SqH H (b, a) xs) : SqL K H a xs ∨ SqT K H a xs := by
  cases b
  · exact .inl (SqL.of (show H a = some (.lst xs) from h))
  · exact .inr (SqT.of (show H a = some (.tup xs) from h))
section
variable {P : Program} {w : World} {K : PySem.W.Frag} {mg : Str → Option Value} {base : Heap}
def sp_Table_init (C : Addr) : Sp := fun vs H Q _ => ∃ (p dx : Addr) (q : Bool × Addr) (ns : List Int), vs = [.ref p, .ref q.2] ∧ H p = some (.ins C dx []) ∧ SqH H q (ns.map V.int) ∧ SzOk ns ∧
  ∀ H2, (∀ c o, c ≠ p → H c = some o → H2 c = some o) → (∃ t, H2 p = some (.ins C dx [("rings", .ref t)]) ∧ H2 t = some (.tup (ns.map V.int))) → Q .non H2
theorem ok_Table_init (T : TX K mg) : FnOk P w K mg base CX0 3 T.f_Table_init T.fd_Table_init ["self", "rings"] (sp_Table_init T.C_Table) := by
  refine T.F_Table_init.ok sc_Table_init (fun vs H Q E h => ?_) (fun cdv A outer s H vs Q E hr h => ?_)
  · obtain ⟨p, dx, q, ns, rfl, _⟩ := h
    rfl
  · obtain ⟨p, dx, ⟨b, a⟩, ns, rfl, hp, hq, ok, k⟩ := h
    refine ⟨_, (pss_cons (ps_if (PW.pt (pw_or (pt_not (pt_val (pe_callB call_isiT (by rfl) T.z_isinstance (by decide +kernel) (pa_cons (pv 1) (pa_cons (pe_tup (pa_cons (pe_bltn (v := .ty "list") rfl T.z_list (by decide +kernel) rfl) (pa_cons (pe_bltn (v := .ty "tuple") rfl T.z_tuple (by decide +kernel) rfl) pa_nil))) pa_nil))))) (pw_or1 (pt_not (pt_chain op_le op_le pe_int (pe_callB call_len_seq (by rfl) T.z_len (by decide +kernel) (pa_cons (pv 1) pa_nil)) (pe_glob (v := .int 4) rfl T.c_MAX_RINGS ⟨_, rfl⟩)))))) pss_never pss_nil) (pss_cons (ps_if (pt_not (pt_val (pe_callB (cr_all rfl) (by rfl) T.z_all (by decide +kernel) (pa_cons (pe_lc (own := [("size", 2)]) (g := (gName 2)) rfl sc_Table_init.nd (pi_seq (pv 1)) (blkOk_by (N := N_Table_init) (sc := defScope s_Table_init) (by decide +kernel)) (fun _ _ _ _ _ => (pg_name (i := 2) sc_Table_init.nd rfl (Or.inl rfl))) (fun _ _ _ _ _ => pts_nil) (fun _ _ _ _ _ => (pe_call (ok_is_at_least T) hr rfl T.m_is_at_least T.F_is_at_least.kp T.b_is_at_least .nil pass0 (pa_cons (pv 2) (pa_cons pe_int pa_nil))))) pa_nil)))) pss_never pss_nil) (pss_one (ps_fld (pv 0) (pe_callTy call_tuple_of (by rfl) T.z_tuple (by decide +kernel) (pa_cons (pv 1) pa_nil)) rfl)))), ?_⟩
    refine ⟨_, rfl, by show 2 ≤ sizeLine; decide, fun y hy => ?_⟩
    refine ⟨_, y, _, _, _, true, rfl, upd_same, .cons (.ty _) (.cons (.ty _) .nil), (hq.mono (exn hy)).ty, kit_seq b, _, rfl, iteF ?_⟩
    have q1 := hq.mono (exn (o := .tup [.ty "list", .ty "tuple"]) hy)
    have lp : 1 ≤ ns.length := List.length_pos_iff.mpr ok.pos
    have l4 := ok.le
    refine ⟨_, rfl, a, _, rfl, sq_or q1, _, _, rfl, rfl, _, rfl, itt (decide_eq_true (by rw [List.length_map]; omega)) ?_⟩
    refine ⟨_, _, rfl, rfl, _, rfl, itf ?_ ?_⟩
    · rw [List.length_map, decide_eq_true (by omega)]
      rfl
    · have all1 : (ns.map fun n => atLeast (some n) 1).all id = true := by
        rw [List.all_map, List.all_eq_true]
        exact fun n hn => decide_eq_true (ok.one n hn)
      refine ⟨_, rfl, (b, a), rfl, ⟨_, q1.sq⟩, fun D hD => ?_⟩
      refine lc_vals walk_seq ((ns.map fun n => atLeast (some n) 1).map V.bl) (by simp) (by rw [List.length_map]; omega) hD (fun H3 e => (q1.mono e).sq) ?_ gmono_name ?_
      · intro i x H3 H4 R hi e yy kk
        obtain ⟨rfl, hx⟩ := yy
        obtain ⟨n, hn, rfl⟩ := map_get hx
        exact ⟨rfl, _, rfl, _, some n, 1, rfl, rfl, kk _ _ exr (by simp [hn])⟩
      · intro H3 e hD3
        have hp3 := e _ _ (exn hy _ _ hp)
        have q3 := q1.mono e
        have ex3 : Ex H H3 := fun c o z => e _ _ (exn hy _ _ z)
        refine ⟨D, _, rfl, SqL.of hD3, _, rfl, itf (by rw [all1]; rfl) ?_⟩
        cases b with
        | false =>
          refine ⟨_, rfl, a, _, rfl, .inl ⟨SqL.of q3, fun l hl => ?_⟩⟩
          have npl : p ≠ l := ne_of_none hp3 hl
          refine ⟨_, rfl, p, _, dx, _, rfl, (by rw [upd_ne npl]; exact hp3), T.cl_Table, T.n_Table_rings, (by show 0 < 1000; decide), ?_⟩
          refine k _ (fun c o hc z => ?_) ⟨l, upd_same, by rw [upd_ne npl.symm, upd_same]⟩
          rw [upd_ne hc, upd_ne (ne_of_none (ex3 c o z) hl)]
          exact ex3 c o z
        | true =>
          refine ⟨_, rfl, a, _, rfl, .inr ⟨SqT.of q3, ?_⟩⟩
          refine ⟨_, rfl, p, _, dx, _, rfl, hp3, T.cl_Table, T.n_Table_rings, (by show 0 < 1000; decide), ?_⟩
          have q3 : H3 a = some (.tup (ns.map V.int)) := q3
          refine k _ (fun c o hc z => ?_) ⟨a, upd_same, by rw [upd_ne (ne_of q3 hp3 (by intro z; cases z))]; exact q3⟩
          rw [upd_ne hc]
          exact ex3 c o z
end

theorem TyX.mono {K : PySem.W.Frag} {H H2 : Hp} {x : V} {t : Value} (e : Ex H H2) (h : TyX K H x t) : TyX K H2 x t := by
  cases h with
  | base h =>
    cases h with
    | non => exact .base .non
    | bl x => exact .base (.bl x)
    | int x => exact .base (.int x)
    | str x => exact .base (.str x)
    | flt x => exact .base (.flt x)
    | lst h => exact .base (.lst (e _ _ h))
    | frz h => exact .base (.frz (e _ _ h))
    | tup h => exact .base (.tup (e _ _ h))
    | dK h => exact .base (.dK (e _ _ h))
    | dT h => exact .base (.dT (e _ _ h))
    | ins h a b c d f => exact .base (.ins (e _ _ h) a b c d f)
  | byt b => exact .byt b
  | set h => exact .set (e _ _ h)
  | kList a b => exact .kList a b
  | kTuple a b => exact .kTuple a b
  | kDict a b => exact .kDict a b
  | fTuple h => exact .fTuple (e _ _ h)
  | fDict h => exact .fDict (e _ _ h)
theorem IsI.mono {K : PySem.W.Frag} {H H2 : Hp} {x : V} {o : Option Int} (e : Ex H H2) (h : IsI K H x o) : IsI K H2 x o := by
  cases o with
  | some i => exact h
  | none =>
    obtain ⟨t, b1, b2, ht, r⟩ := h
    exact ⟨t, b1, b2, TyX.mono e ht, r⟩
theorem paired_get {α β : Type} {R : α → β → Prop} : ∀ {l : List α} {m : List β} {i : Nat} {x : α}, Paired R l m → l[i]? = some x → ∃ y, m[i]? = some y ∧ R x y
  | _, _, _, _, .nil, h => by simp at h
  | _, _, 0, _, .cons r _, h => by simp at h; subst h; exact ⟨_, rfl, r⟩
  | _, _, i + 1, x, .cons _ t, h => by
    obtain ⟨y, h1, h2⟩ := paired_get (i := i) (x := x) t (by simpa using h)
    exact ⟨y, by simpa using h1, h2⟩
/-- what an argument is as a tuple: its items, as ints or not -/
def TupA (K : PySem.W.Frag) (H : Hp) (x : V) : Option (List (Option Int)) → Prop
  | some os => ∃ a xs, x = .ref a ∧ H a = some (.tup xs) ∧ xs.length ≤ 1000 ∧ Paired (IsI K H) xs os
  | none => ∃ t, TyX K H x t ∧ PySem.W.kitOne K t (.type "tuple") = some false
theorem paired_ints {K : PySem.W.Frag} {H : Hp} : ∀ ps : List Int, Paired (IsI K H) (ps.map V.int) (ps.map some)
  | [] => .nil
  | p :: ps => .cons rfl (paired_ints ps)
theorem TupA.ints {K : PySem.W.Frag} {H : Hp} {a : Addr} {ps : List Int} (h : H a = some (.tup (ps.map V.int))) (hl : ps.length ≤ 1000) : TupA K H (.ref a) (some (ps.map some)) :=
  ⟨a, _, rfl, h, by rw [List.length_map]; exact hl, paired_ints ps⟩
def isSeatO (ns : List Int) : Option (List (Option Int)) → Bool
  | some os => decide (os.length = ns.length) && (List.zipWith (fun o n => between o 0 (n - 1)) os ns).all id
  | none => false
def isCallO (ns : List Int) : Option (List (Option Int)) → Bool
  | some os => decide (os.length = ns.length) && (os.map Option.isSome).all id
  | none => false
/-- a seat: one place a ring -/
def SeatOk : List Int → List Int → Prop
  | n :: ns, p :: ps => (0 ≤ p ∧ p < n) ∧ SeatOk ns ps
  | [], [] => True
  | _, _ => False
theorem SeatOk.len : ∀ {ns ps : List Int}, SeatOk ns ps → ps.length = ns.length
  | [], [], _ => rfl
  | _ :: _, _ :: _, h => by
    show _ + 1 = _ + 1
    rw [SeatOk.len h.2]
theorem seat_is : ∀ {ns ps : List Int}, SeatOk ns ps → (List.zipWith (fun o n => between o 0 (n - 1)) (ps.map some) ns).all id = true
  | [], [], _ => rfl
  | n :: ns, p :: ps, h => by
    have ih := seat_is h.2
    show (between (some p) 0 (n - 1) && _) = true
    rw [Bool.and_eq_true]
    refine ⟨?_, ih⟩
    show (decide (0 ≤ p) && decide (p ≤ n - 1)) = true
    rw [decide_eq_true h.1.1, decide_eq_true (by have := h.1.2; omega)]
    rfl
theorem isSeat_ok {ns ps : List Int} (h : SeatOk ns ps) : isSeatO ns (some (ps.map some)) = true := by
  show (decide ((ps.map some).length = ns.length) && _) = true
  rw [Bool.and_eq_true]
  exact ⟨decide_eq_true (by rw [List.length_map]; exact h.len), seat_is h⟩
theorem isCall_ok {ns cs : List Int} (h : cs.length = ns.length) : isCallO ns (some (cs.map some)) = true := by
  show (decide ((cs.map some).length = ns.length) && _) = true
  rw [Bool.and_eq_true]
  refine ⟨decide_eq_true (by rw [List.length_map]; exact h), ?_⟩
  rw [List.map_map, List.all_map, List.all_eq_true]
  exact fun _ _ => rfl
/-- a step by a multiple of a call -/
def shiftL : List Int → List Int → List Int → Int → List Int
  | n :: ns, p :: ps, c :: cs, f => (p + f * c) % n :: shiftL ns ps cs f
  | _, _, _, _ => []
theorem shift_len : ∀ {ns ps cs : List Int} {f : Int}, ps.length = ns.length → cs.length = ns.length → (shiftL ns ps cs f).length = ns.length
  | [], _, _, _, _, _ => by simp [shiftL]
  | _ :: ns, p :: ps, c :: cs, f, h1, h2 => by
    have ih := @shift_len ns ps cs f (by simpa using h1) (by simpa using h2)
    show (shiftL ns ps cs f).length + 1 = _ + 1
    rw [ih]
theorem shift_get : ∀ {ns ps cs : List Int} {f : Int} {i : Nat} {n p c : Int}, ns[i]? = some n → ps[i]? = some p → cs[i]? = some c → (shiftL ns ps cs f)[i]? = some ((p + f * c) % n)
  | n :: ns, p :: ps, c :: cs, f, 0, _, _, _, h1, h2, h3 => by
    simp at h1 h2 h3
    subst h1 h2 h3
    rfl
  | n :: ns, p :: ps, c :: cs, f, i + 1, a, b, d, h1, h2, h3 => by
    have ih := @shift_get ns ps cs f i a b d (by simpa using h1) (by simpa using h2) (by simpa using h3)
    show (shiftL ns ps cs f)[i]? = _
    exact ih
  | [], _, _, _, i, _, _, _, h1, _, _ => by simp at h1
  | _ :: _, [], _, _, i, _, _, _, _, h2, _ => by simp at h2
  | _ :: _, _ :: _, [], _, i, _, _, _, _, _, h3 => by simp at h3
theorem mul_ok {i j : Int} (h : (-(2 ^ 64) < i ∧ i < 2 ^ 64) ∨ (-(2 ^ 64) < j ∧ j < 2 ^ 64)) : IntMulOk i j := CMul.ok h
theorem zip_get {α β γ : Type} {f : α → β → γ} {l : List α} {m : List β} {i : Nat} {x : α} {y : β} (h1 : l[i]? = some x) (h2 : m[i]? = some y) : (List.zipWith f l m)[i]? = some (f x y) := by
  rw [List.getElem?_zipWith, h1, h2]
section
variable {P : Program} {w : World} {K : PySem.W.Frag} {mg : Str → Option Value} {base : Heap}
def sp_Table_sizes (C : Addr) : Sp := fun vs H Q _ => ∃ (a dx t : Addr), vs = [.ref a] ∧ H a = some (.ins C dx [("rings", .ref t)]) ∧ Q (.ref t) H
theorem ok_Table_sizes (T : TX K mg) : FnOk P w K mg base CX0 1 T.f_Table_sizes T.fd_Table_sizes ["self"] (sp_Table_sizes T.C_Table) := by
  refine T.F_Table_sizes.ok sc_Table_sizes (fun vs H Q E h => ?_) (fun cdv A outer s H vs Q E hr h => ?_)
  · obtain ⟨a, dx, t, rfl, _⟩ := h
    rfl
  · obtain ⟨a, dx, t, rfl, h1, k⟩ := h
    exact ⟨_, (pss_one (ps_ret (pe_fld (pv 0) rfl))), ⟨_, rfl, a, _, dx, _, _, rfl, h1, T.cl_Table, T.n_Table_rings, rfl, k⟩⟩
def sp_Table_is_seat (K : PySem.W.Frag) (C : Addr) : Sp := fun vs H Q _ => ∃ (a : Addr) (x : V) (ns : List Int) (ot : Option (List (Option Int))), vs = [.ref a, x] ∧ TabAt C H a ns ∧ ns.length ≤ 4 ∧ TupA K H x ot ∧ ∀ H2, Ex H H2 → Q (.bl (isSeatO ns ot)) H2
theorem ok_Table_is_seat (T : TX K mg) : FnOk P w K mg base CX0 3 T.f_Table_is_seat T.fd_Table_is_seat ["self", "value"] (sp_Table_is_seat K T.C_Table) := by
  refine T.F_Table_is_seat.ok sc_Table_is_seat (fun vs H Q E h => ?_) (fun cdv A outer s H vs Q E hr h => ?_)
  · obtain ⟨a, x, ns, ot, rfl, _⟩ := h
    rfl
  · obtain ⟨a, x, ns, ot, rfl, ⟨dx, t, h1, h2⟩, l4, hx, k⟩ := h
    refine ⟨_, (pss_cons (ps_if (PW.pt (pw_or (pt_not (pt_val (pe_callB call_isi (by rfl) T.z_isinstance (by decide +kernel) (pa_cons (pv 1) (pa_cons (pe_bltn (v := .ty "tuple") rfl T.z_tuple (by decide +kernel) rfl) pa_nil))))) (pw_or1 (pt_cmpR op_ne (pe_callB call_len_seq (by rfl) T.z_len (by decide +kernel) (pa_cons (pv 1) pa_nil)) (pe_callB call_len_seq (by rfl) T.z_len (by decide +kernel) (pa_cons (pe_fld (pv 0) rfl) pa_nil)) (nomark _))))) (pss_one (ps_ret pe_bl)) pss_nil) (pss_one (ps_ret (pe_callB (cr_all rfl) (by rfl) T.z_all (by decide +kernel) (pa_cons (pe_lc (own := [("place", 2), ("size", 3)]) (g := (gTup K 2 (gCons (gName 2) (gCons (gName 3) gNil)))) rfl sc_Table_is_seat.nd (CZ.pi_z2s (fl := [true, true]) rfl (by rfl) T.z_zip (pa_cons (pv 1) (pa_cons (pe_fld (pv 0) rfl) pa_nil))) (blkOk_by (N := N_Table_is_seat) (sc := defScope s_Table_is_seat) (by decide +kernel)) (fun _ _ _ _ _ => (pg_tup rfl (pgs_cons (pg_name (i := 2) sc_Table_is_seat.nd rfl (Or.inl rfl)) (pgs_cons (pg_name (i := 3) sc_Table_is_seat.nd rfl (Or.inl rfl)) pgs_nil)))) (fun _ _ _ _ _ => pts_nil) (fun _ _ _ _ _ => (pe_call (ok_is_between T) hr rfl T.m_is_between T.F_is_between.kp T.b_is_between .nil pass0 (pa_cons (pv 2) (pa_cons pe_int (pa_cons (pe_op op_sub (pv 3) pe_int) pa_nil)))))) pa_nil))))), ?_⟩
    cases ot with
    | none =>
      obtain ⟨ty, hty, hk⟩ := hx
      exact ⟨_, rfl, _, _, _, _, false, rfl, .ty _, hty, hk, _, rfl, k _ exr⟩
    | some os =>
      obtain ⟨v, xs, rfl, hv, hl, hp⟩ := hx
      have lo : xs.length = os.length := Paired.length hp
      refine ⟨_, rfl, _, _, _, _, true, rfl, .ty _, .base (.tup hv), kit_ty (by decide +kernel), _, rfl, iteF ?_⟩
      refine ⟨_, rfl, v, _, rfl, .inr (SqT.of hv), _, rfl, a, _, dx, _, _, rfl, h1, T.cl_Table, T.n_Table_rings, rfl, t, _, rfl, .inr (SqT.of h2), rfl, _, rfl, ?_⟩
      by_cases c : os.length = ns.length
      · refine itf ?_ ?_
        · rw [List.length_map, lo, c]
          simp
        · refine ⟨_, rfl, _, rfl, a, _, dx, _, _, rfl, h1, T.cl_Table, T.n_Table_rings, rfl, [v, t], rfl, rfl, ?_, fun D hD => ?_⟩
          · intro p hp2
            rcases List.mem_cons.mp (show p ∈ [(true, v), (true, t)] from hp2) with e | e
            · rw [e]; exact ⟨xs, SqT.of hv⟩
            · rw [List.mem_singleton.mp e]; exact ⟨_, SqT.of h2⟩
          · have lv : (List.zipWith (fun o n => between o 0 (n - 1)) os ns).length = ns.length := by rw [List.length_zipWith, c, Nat.min_self]
            refine lc_vals (CZ.walk_rows (xss := [xs, ns.map V.int]) (n := ns.length) ?_) ((List.zipWith (fun o n => between o 0 (n - 1)) os ns).map V.bl) (by rw [List.length_map, lv]) (by omega) hD (fun H3 e => .cons (SqT.of (e _ _ hv)) (.cons (SqT.of (e _ _ h2)) .nil)) ?_ (gmono_tup (gmono_cons gmono_name (gmono_cons gmono_name gmono_nil))) ?_
            · intro ys hy
              rcases List.mem_cons.mp hy with e | e
              · rw [e, lo, c]
              · rw [List.mem_singleton.mp e, List.length_map]
            · intro i y H3 H4 R hi e yy kk
              obtain ⟨Ta, vs, rfl, hT, rfl, hr2⟩ := yy
              cases hr2 with
              | cons r1 hr2 =>
                cases hr2 with
                | cons r2 hr2 =>
                  cases hr2
                  obtain ⟨n, hn, rfl⟩ := map_get r2
                  obtain ⟨o, ho, hi2⟩ := paired_get hp r1
                  refine ⟨Ta, _, rfl, SqT.of upd_same, rfl, _, _, rfl, _, _, rfl, rfl, rfl, ?_⟩
                  refine ⟨_, rfl, _, rfl, _, _, rfl, rfl, _, o, 0, n - 1, rfl, hi2.mono (fun b u z => exn hT b u (e b u z)), ?_⟩
                  refine kk _ _ (exn hT) ?_
                  rw [List.getElem?_map, zip_get ho hn]
                  rfl
            · intro H3 e hD3
              refine ⟨D, _, rfl, SqL.of hD3, ?_⟩
              have es : isSeatO ns (some os) = (List.zipWith (fun o n => between o 0 (n - 1)) os ns).all id := by
                show (decide _ && _) = _
                rw [decide_eq_true c, Bool.true_and]
              rw [← es]
              exact k _ e
      · refine itt ?_ ?_
        · rw [List.length_map, lo]
          simp
          omega
        · have es : isSeatO ns (some os) = false := by
            show (decide _ && _) = _
            rw [decide_eq_false c, Bool.false_and]
          have := k _ exr
          rw [es] at this
          exact this
end

/-- what an argument is as a text -/
def StrA (K : PySem.W.Frag) (H : Hp) (x : V) : Option Str → Prop
  | some z => x = .str z
  | none => ∃ t, TyX K H x t ∧ PySem.W.kitOne K t (.type "str") = some false
def isDirO : Option Str → Bool
  | some z => decide (z = "forward") || decide (z = "backward")
  | none => false
theorem tup_ge {xs : List V} (h : xs.length ≤ 4) : xs.length ≤ sizeLine := Nat.le_trans h (by decide)
section
variable {P : Program} {w : World} {K : PySem.W.Frag} {mg : Str → Option Value} {base : Heap}
def sp_Table_is_call (K : PySem.W.Frag) (C : Addr) : Sp := fun vs H Q _ => ∃ (a : Addr) (x : V) (ns : List Int) (ot : Option (List (Option Int))), vs = [.ref a, x] ∧ TabAt C H a ns ∧ TupA K H x ot ∧ ∀ H2, Ex H H2 → Q (.bl (isCallO ns ot)) H2
theorem ok_Table_is_call (T : TX K mg) : FnOk P w K mg base CX0 2 T.f_Table_is_call T.fd_Table_is_call ["self", "value"] (sp_Table_is_call K T.C_Table) := by
  refine T.F_Table_is_call.ok sc_Table_is_call (fun vs H Q E h => ?_) (fun cdv A outer s H vs Q E hr h => ?_)
  · obtain ⟨a, x, ns, ot, rfl, _⟩ := h
    rfl
  · obtain ⟨a, x, ns, ot, rfl, ⟨dx, t, h1, h2⟩, hx, k⟩ := h
    refine ⟨_, (pss_one (ps_ret (pe_and (pe_callB call_isi (by rfl) T.z_isinstance (by decide +kernel) (pa_cons (pv 1) (pa_cons (pe_bltn (v := .ty "tuple") rfl T.z_tuple (by decide +kernel) rfl) pa_nil))) (pe_and (pe_cmpR op_eq (pe_callB call_len_seq (by rfl) T.z_len (by decide +kernel) (pa_cons (pv 1) pa_nil)) (pe_callB call_len_seq (by rfl) T.z_len (by decide +kernel) (pa_cons (pe_fld (pv 0) rfl) pa_nil)) (nomark _)) (pe_one (pe_callB (cr_all rfl) (by rfl) T.z_all (by decide +kernel) (pa_cons (pe_lc (own := [("one", 2)]) (g := (gName 2)) rfl sc_Table_is_call.nd (pi_tup (pv 1)) (blkOk_by (N := N_Table_is_call) (sc := defScope s_Table_is_call) (by decide +kernel)) (fun _ _ _ _ _ => (pg_name (i := 2) sc_Table_is_call.nd rfl (Or.inl rfl))) (fun _ _ _ _ _ => pts_nil) (fun _ _ _ _ _ => (pe_call (ok_is_integer T) hr rfl T.m_is_integer T.F_is_integer.kp T.b_is_integer .nil pass0 (pa_cons (pv 2) pa_nil)))) pa_nil))))))), ?_⟩
    cases ot with
    | none =>
      obtain ⟨ty, hty, hk⟩ := hx
      exact ⟨_, rfl, _, _, _, _, false, rfl, .ty _, hty, hk, _, rfl, k _ exr⟩
    | some os =>
      obtain ⟨v, xs, rfl, hv, hl, hp⟩ := hx
      have lo : xs.length = os.length := Paired.length hp
      refine ⟨_, rfl, _, _, _, _, true, rfl, .ty _, .base (.tup hv), kit_ty (by decide +kernel), _, rfl, iteT ?_⟩
      refine ⟨_, rfl, v, _, rfl, .inr (SqT.of hv), _, rfl, a, _, dx, _, _, rfl, h1, T.cl_Table, T.n_Table_rings, rfl, t, _, rfl, .inr (SqT.of h2), rfl, _, rfl, ?_⟩
      by_cases c : os.length = ns.length
      · refine itt ?_ ?_
        · rw [List.length_map, lo, c]
          simp
        · refine ⟨_, rfl, v, rfl, ⟨_, SqT.of hv⟩, fun D hD => ?_⟩
          refine lc_vals walk_tup ((os.map Option.isSome).map V.bl) (by rw [List.length_map, List.length_map, lo]) (by omega) hD (fun H3 e => SqT.of (e _ _ hv)) ?_ gmono_name ?_
          · intro i y H3 H4 R hi e yy kk
            obtain ⟨rfl, hy⟩ := yy
            obtain ⟨o, ho, hi2⟩ := paired_get hp hy
            refine ⟨rfl, _, rfl, _, o, rfl, hi2.mono e, kk _ _ exr ?_⟩
            rw [List.getElem?_map, List.getElem?_map, ho]
            rfl
          · intro H3 e hD3
            refine ⟨D, _, rfl, SqL.of hD3, ?_⟩
            have es : isCallO ns (some os) = (os.map Option.isSome).all id := by
              show (decide _ && _) = _
              rw [decide_eq_true c, Bool.true_and]
            rw [← es]
            exact k _ e
      · refine itf ?_ ?_
        · rw [List.length_map, lo]
          simp
          omega
        · have es : isCallO ns (some os) = false := by
            show (decide _ && _) = _
            rw [decide_eq_false c, Bool.false_and]
          have := k _ exr
          rw [es] at this
          exact this
def sp_Table_shifted (C : Addr) : Sp := fun vs H Q _ => ∃ (a s c : Addr) (f : Int) (ns ps cs : List Int), vs = [.ref a, .ref s, .ref c, .int f] ∧ TabAt C H a ns ∧ SzOk ns ∧ H s = some (.tup (ps.map V.int)) ∧ H c = some (.tup (cs.map V.int)) ∧ ps.length = ns.length ∧ cs.length = ns.length ∧ (f = 1 ∨ f = -1) ∧
  ∀ H2 q, Ex H H2 → H q = none → H2 q = some (.tup ((shiftL ns ps cs f).map V.int)) → Q (.ref q) H2
theorem ok_Table_shifted (T : TX K mg) : FnOk P w K mg base CX0 1 T.f_Table_shifted T.fd_Table_shifted ["self", "seat", "call", "factor"] (sp_Table_shifted T.C_Table) := by
  refine T.F_Table_shifted.ok sc_Table_shifted (fun vs H Q E h => ?_) (fun cdv A outer s H vs Q E hr h => ?_)
  · obtain ⟨a, s, c, f, ns, ps, cs, rfl, _⟩ := h
    rfl
  · obtain ⟨a, s, c, f, ns, ps, cs, rfl, ⟨dx, t, h1, h2⟩, ok, hs, hc, lp, lc, hf, k⟩ := h
    have l4 := ok.le
    refine ⟨_, (pss_one (ps_ret (pe_callTy call_tuple_of (by rfl) T.z_tuple (by decide +kernel) (pa_cons (pe_lc (own := [("place", 4), ("one", 5), ("size", 6)]) (g := (gTup K 3 (gCons (gName 4) (gCons (gName 5) (gCons (gName 6) gNil))))) rfl sc_Table_shifted.nd (CZ.pi_z3s (fl := [true, true, true]) rfl (by rfl) T.z_zip (pa_cons (pv 1) (pa_cons (pv 2) (pa_cons (pe_fld (pv 0) rfl) pa_nil)))) (blkOk_by (N := N_Table_shifted) (sc := defScope s_Table_shifted) (by decide +kernel)) (fun _ _ _ _ _ => (pg_tup rfl (pgs_cons (pg_name (i := 4) sc_Table_shifted.nd rfl (Or.inl rfl)) (pgs_cons (pg_name (i := 5) sc_Table_shifted.nd rfl (Or.inl rfl)) (pgs_cons (pg_name (i := 6) sc_Table_shifted.nd rfl (Or.inl rfl)) pgs_nil))))) (fun _ _ _ _ _ => pts_nil) (fun _ _ _ _ _ => (pe_op op_mod (pe_op op_add (pv 4) (pe_op op_mulI (pv 3) (pv 5))) (pv 6)))) pa_nil)))), ?_⟩
    refine ⟨_, rfl, _, rfl, _, rfl, a, _, dx, _, _, rfl, h1, T.cl_Table, T.n_Table_rings, rfl, [s, c, t], rfl, rfl, ?_, fun D hD => ?_⟩
    · intro p hp2
      have hp3 : p = (true, s) ∨ p = (true, c) ∨ p = (true, t) := by simpa using hp2
      rcases hp3 with e | e | e
      · rw [e]; exact ⟨_, SqT.of hs⟩
      · rw [e]; exact ⟨_, SqT.of hc⟩
      · rw [e]; exact ⟨_, SqT.of h2⟩
    · have ls : (shiftL ns ps cs f).length = ns.length := shift_len lp lc
      refine lc_vals (CZ.walk_rows (xss := [ps.map V.int, cs.map V.int, ns.map V.int]) (n := ns.length) ?_) ((shiftL ns ps cs f).map V.int) (by rw [List.length_map, ls]) (by omega) hD (fun H3 e => .cons (SqT.of (e _ _ hs)) (.cons (SqT.of (e _ _ hc)) (.cons (SqT.of (e _ _ h2)) .nil))) ?_ (gmono_tup (gmono_cons gmono_name (gmono_cons gmono_name (gmono_cons gmono_name gmono_nil)))) ?_
      · intro ys hy
        have hy2 : ys = ps.map V.int ∨ ys = cs.map V.int ∨ ys = ns.map V.int := by simpa using hy
        rcases hy2 with e | e | e
        · rw [e, List.length_map, lp]
        · rw [e, List.length_map, lc]
        · rw [e, List.length_map]
      · intro i y H3 H4 R hi e yy kk
        obtain ⟨Ta, vs, rfl, hT, rfl, hr2⟩ := yy
        cases hr2 with
        | cons r1 hr2 =>
          cases hr2 with
          | cons r2 hr2 =>
            cases hr2 with
            | cons r3 hr2 =>
              cases hr2
              obtain ⟨p, hp, rfl⟩ := map_get r1
              obtain ⟨d, hd, rfl⟩ := map_get r2
              obtain ⟨n, hn, rfl⟩ := map_get r3
              have n1 := ok.one n (List.mem_of_getElem? hn)
              refine ⟨Ta, _, rfl, SqT.of upd_same, rfl, _, _, rfl, _, _, rfl, _, _, rfl, rfl, rfl, ?_⟩
              refine ⟨_, rfl, _, rfl, _, rfl, _, _, rfl, rfl, mul_ok (.inl (by rcases hf with e | e <;> rw [e] <;> decide)), _, _, rfl, rfl, _, rfl, _, _, rfl, rfl, (by show (0 : Int) < n; omega), ?_⟩
              refine kk _ _ (exn hT) ?_
              rw [List.getElem?_map, shift_get hn hp hd]
              rfl
      · intro H3 e hD3
        exact ⟨D, _, rfl, .inl ⟨SqL.of hD3, fun q hq => k _ q (fun b o z => exn hq b o (e b o z)) (Evl.fresh_back e hq) upd_same⟩⟩
def sp_is_direction (K : PySem.W.Frag) : Sp := fun vs H Q _ => ∃ x o, vs = [x] ∧ StrA K H x o ∧ ∀ H2, Ex H H2 → Q (.bl (isDirO o)) H2
theorem ok_is_direction (T : TX K mg) : FnOk P w K mg base CX0 1 T.f_is_direction T.fd_is_direction ["value"] (sp_is_direction K) := by
  refine T.F_is_direction.ok sc_is_direction (fun vs H Q E h => ?_) (fun cdv A outer s H vs Q E hr h => ?_)
  · obtain ⟨x, o, rfl, _⟩ := h
    rfl
  · obtain ⟨x, o, rfl, hx, k⟩ := h
    refine ⟨_, (pss_one (ps_ret (pe_and (pe_callB call_isi (by rfl) T.z_isinstance (by decide +kernel) (pa_cons (pv 0) (pa_cons (pe_bltn (v := .ty "str") rfl T.z_str (by decide +kernel) rfl) pa_nil))) (pe_one (pe_cmpR op_in_seq (pv 0) (pe_tup (pa_cons pe_str (pa_cons pe_str pa_nil))) rfl))))), ?_⟩
    cases o with
    | none =>
      obtain ⟨t, ht, hk⟩ := hx
      exact ⟨_, rfl, _, _, _, _, false, rfl, .ty _, ht, hk, _, rfl, k _ exr⟩
    | some z =>
      cases hx
      refine ⟨_, rfl, _, _, _, _, true, rfl, .ty _, .base (.str z), kit_ty (by decide +kernel), _, rfl, iteT ?_⟩
      refine ⟨_, rfl, by show 2 ≤ sizeLine; decide, fun p hp => ?_⟩
      refine ⟨p, _, rfl, .inr (SqT.of upd_same), rfl, rfl, ?_⟩
      have es : (if false = true then !inV (V.str z) [V.str "forward", V.str "backward"] else inV (V.str z) [V.str "forward", V.str "backward"]) = isDirO (some z) := by
        rw [if_neg Bool.false_ne_true]
        show (eqV (V.str "forward") (V.str z) || (eqV (V.str "backward") (V.str z) || false)) = (decide (z = "forward") || decide (z = "backward"))
        have h1 : eqV (V.str "forward") (V.str z) = decide (z = "forward") := by
          show decide (("forward" : Str) = z) = _
          exact decide_eq_decide.mpr ⟨Eq.symm, Eq.symm⟩
        have h2 : eqV (V.str "backward") (V.str z) = decide (z = "backward") := by
          show decide (("backward" : Str) = z) = _
          exact decide_eq_decide.mpr ⟨Eq.symm, Eq.symm⟩
        rw [h1, h2, Bool.or_false]
      rw [es]
      exact k _ (exn hp)
def sp_require_seat (K : PySem.W.Frag) (C : Addr) : Sp := fun vs H Q _ => ∃ (a : Addr) (x : V) (ns : List Int) (ot : Option (List (Option Int))), vs = [.ref a, x] ∧ TabAt C H a ns ∧ ns.length ≤ 4 ∧ TupA K H x ot ∧ isSeatO ns ot = true ∧ ∀ H2, Ex H H2 → Q .non H2
theorem ok_require_seat (T : TX K mg) : FnOk P w K mg base CX0 4 T.f_require_seat T.fd_require_seat ["table", "seat"] (sp_require_seat K T.C_Table) := by
  refine T.F_require_seat.ok sc_require_seat (fun vs H Q E h => ?_) (fun cdv A outer s H vs Q E hr h => ?_)
  · obtain ⟨a, x, ns, ot, rfl, _⟩ := h
    rfl
  · obtain ⟨a, x, ns, ot, rfl, ht, l4, hx, ok, k⟩ := h
    refine ⟨_, (pss_one (ps_if (pt_not (pt_val (pe_meth (pv 0) T.cl_Table T.me_Table_is_seat (ok_Table_is_seat T) hr T.b_Table_is_seat .nil pass0 (pa_cons (pv 1) pa_nil)))) pss_never pss_nil)), ?_⟩
    obtain ⟨dx, t, h1, h2⟩ := id ht
    refine ⟨_, rfl, a, dx, _, rfl, h1, rfl, _, rfl, a, x, ns, ot, rfl, ht, l4, hx, fun H2 e => ⟨_, rfl, itf (by rw [ok]; rfl) (k _ e)⟩⟩
def sp_require_call (K : PySem.W.Frag) (C : Addr) : Sp := fun vs H Q _ => ∃ (a : Addr) (x : V) (ns : List Int) (ot : Option (List (Option Int))), vs = [.ref a, x] ∧ TabAt C H a ns ∧ TupA K H x ot ∧ isCallO ns ot = true ∧ ∀ H2, Ex H H2 → Q .non H2
theorem ok_require_call (T : TX K mg) : FnOk P w K mg base CX0 3 T.f_require_call T.fd_require_call ["table", "call"] (sp_require_call K T.C_Table) := by
  refine T.F_require_call.ok sc_require_call (fun vs H Q E h => ?_) (fun cdv A outer s H vs Q E hr h => ?_)
  · obtain ⟨a, x, ns, ot, rfl, _⟩ := h
    rfl
  · obtain ⟨a, x, ns, ot, rfl, ht, hx, ok, k⟩ := h
    refine ⟨_, (pss_one (ps_if (pt_not (pt_val (pe_meth (pv 0) T.cl_Table T.me_Table_is_call (ok_Table_is_call T) hr T.b_Table_is_call .nil pass0 (pa_cons (pv 1) pa_nil)))) pss_never pss_nil)), ?_⟩
    obtain ⟨dx, t, h1, h2⟩ := id ht
    refine ⟨_, rfl, a, dx, _, rfl, h1, rfl, _, rfl, a, x, ns, ot, rfl, ht, hx, fun H2 e => ⟨_, rfl, itf (by rw [ok]; rfl) (k _ e)⟩⟩
def sp_Table_moves (C : Addr) : Sp := fun vs H Q _ => ∃ (a s c : Addr) (ns ps cs : List Int), vs = [.ref a, .ref s, .ref c] ∧ TabAt C H a ns ∧ SzOk ns ∧ H s = some (.tup (ps.map V.int)) ∧ H c = some (.tup (cs.map V.int)) ∧ SeatOk ns ps ∧ cs.length = ns.length ∧
  ∀ H2 q f b, Ex H H2 → H q = none → H f = none → H b = none → H2 q = some (.tup [.ref f, .ref b]) → H2 f = some (.tup ((shiftL ns ps cs 1).map V.int)) → H2 b = some (.tup ((shiftL ns ps cs (-1)).map V.int)) → Q (.ref q) H2
theorem ok_Table_moves (T : TX K mg) : FnOk P w K mg base CX0 5 T.f_Table_moves T.fd_Table_moves ["self", "seat", "call"] (sp_Table_moves T.C_Table) := by
  refine T.F_Table_moves.ok sc_Table_moves (fun vs H Q E h => ?_) (fun cdv A outer s H vs Q E hr h => ?_)
  · obtain ⟨a, s, c, ns, ps, cs, rfl, _⟩ := h
    rfl
  · obtain ⟨a, s, c, ns, ps, cs, rfl, ht, ok, hs, hc, sk, lc, k⟩ := h
    have l4 := ok.le
    have lp := sk.len
    refine ⟨_, (pss_cons (ps_expr (pe_call (ok_require_seat T) hr rfl T.m_require_seat T.F_require_seat.kp T.b_require_seat .nil pass0 (pa_cons (pv 0) (pa_cons (pv 1) pa_nil)))) (pss_cons (ps_expr (pe_call (ok_require_call T) (hr.mono (by decide)) rfl T.m_require_call T.F_require_call.kp T.b_require_call .nil pass0 (pa_cons (pv 0) (pa_cons (pv 2) pa_nil)))) (pss_one (ps_ret (pe_tup (pa_cons (pe_meth (pv 0) T.cl_Table T.me_Table_shifted (ok_Table_shifted T) (hr.mono (by decide)) T.b_Table_shifted .nil pass0 (pa_cons (pv 1) (pa_cons (pv 2) (pa_cons pe_int pa_nil)))) (pa_cons (pe_meth (pv 0) T.cl_Table T.me_Table_shifted (ok_Table_shifted T) (hr.mono (by decide)) T.b_Table_shifted .nil pass0 (pa_cons (pv 1) (pa_cons (pv 2) (pa_cons (pe_un un_neg pe_int) pa_nil)))) pa_nil))))))), ?_⟩
    refine ⟨_, rfl, _, rfl, a, _, ns, _, rfl, ht, l4, TupA.ints hs (by omega), isSeat_ok sk, fun H1 e1 => ?_⟩
    refine ⟨_, rfl, _, rfl, a, _, ns, _, rfl, ht.mono e1, TupA.ints (e1 _ _ hc) (by omega), isCall_ok lc, fun H2 e2 => ?_⟩
    have e12 : Ex H H2 := fun b o z => e2 b o (e1 b o z)
    obtain ⟨dx, t, g1, g2⟩ := ht.mono e12
    refine ⟨_, rfl, a, dx, _, rfl, g1, rfl, _, rfl, _, rfl, a, s, c, 1, ns, ps, cs, rfl, ⟨dx, t, g1, g2⟩, ok, e12 _ _ hs, e12 _ _ hc, lp, lc, .inl rfl, fun H3 f e3 nf hf => ?_⟩
    have e13 : Ex H H3 := fun b o z => e3 b o (e12 b o z)
    refine ⟨_, rfl, a, dx, _, rfl, e3 _ _ g1, rfl, _, rfl, _, rfl, _, rfl, a, s, c, -1, ns, ps, cs, rfl, ⟨dx, t, e3 _ _ g1, e3 _ _ g2⟩, ok, e13 _ _ hs, e13 _ _ hc, lp, lc, .inr rfl, fun H4 b e4 nb hb => ?_⟩
    have e14 : Ex H H4 := fun b o z => e4 b o (e13 b o z)
    refine ⟨by show 2 ≤ sizeLine; decide, fun q hq => ?_⟩
    have nfq : f ≠ q := ne_of_none (e4 _ _ hf) hq
    have nbq : b ≠ q := ne_of_none hb hq
    exact k _ q f b (fun c o z => exn hq c o (e14 c o z)) (Evl.fresh_back e14 hq) (Evl.fresh_back e12 nf) (Evl.fresh_back e13 nb) upd_same (by rw [upd_ne nfq]; exact e4 _ _ hf) (by rw [upd_ne nbq]; exact hb)
def sp_Table_step (C : Addr) : Sp := fun vs H Q _ => ∃ (a s c : Addr) (ns ps cs : List Int) (bk : Bool), vs = [.ref a, .ref s, .ref c, .str (if bk = true then "backward" else "forward")] ∧ TabAt C H a ns ∧ SzOk ns ∧ H s = some (.tup (ps.map V.int)) ∧ H c = some (.tup (cs.map V.int)) ∧ SeatOk ns ps ∧ cs.length = ns.length ∧
  ∀ H2 q, Ex H H2 → H q = none → H2 q = some (.tup ((shiftL ns ps cs (if bk = true then -1 else 1)).map V.int)) → Q (.ref q) H2
theorem ok_Table_step (T : TX K mg) : FnOk P w K mg base CX0 6 T.f_Table_step T.fd_Table_step ["self", "seat", "call", "direction"] (sp_Table_step T.C_Table) := by
  refine T.F_Table_step.ok sc_Table_step (fun vs H Q E h => ?_) (fun cdv A outer s H vs Q E hr h => ?_)
  · obtain ⟨a, s, c, ns, ps, cs, bk, rfl, _⟩ := h
    rfl
  · obtain ⟨a, s, c, ns, ps, cs, bk, rfl, ht, ok, hs, hc, sk, lc, k⟩ := h
    refine ⟨_, (pss_cons (ps_set (i := 4) sc_Table_step.nd rfl (Or.inl rfl) (pe_meth (pv 0) T.cl_Table T.me_Table_moves (ok_Table_moves T) hr T.b_Table_moves .nil pass0 (pa_cons (pv 1) (pa_cons (pv 2) pa_nil)))) (pss_cons (ps_if (pt_not (pt_val (pe_call (ok_is_direction T) (hr.mono (by decide)) rfl T.m_is_direction T.F_is_direction.kp T.b_is_direction .nil pass0 (pa_cons (pv 3) pa_nil)))) pss_never pss_nil) (pss_one (ps_ret (pe_ix ix_tup (pv 4) (pe_callTy call_int1 (by rfl) T.z_int (by decide +kernel) (pa_cons (pe_cmpR op_eq (pv 3) pe_str (nomark _)) pa_nil)) (fun _ _ => rfl)))))), ?_⟩
    obtain ⟨dx, t, g1, g2⟩ := id ht
    refine ⟨_, rfl, a, dx, _, rfl, g1, rfl, _, rfl, _, rfl, a, s, c, ns, ps, cs, rfl, ht, ok, hs, hc, sk, lc, fun H1 q f b e1 nq nf nb hq hf hb => ?_⟩
    refine ⟨_, rfl, _, some _, rfl, rfl, fun H2 e2 => ⟨_, rfl, itf ?_ ?_⟩⟩
    · cases bk <;> decide +kernel
    · cases bk with
      | false =>
        refine ⟨_, rfl, _, rfl, rfl, .inr ⟨_, rfl, q, _, _, _, rfl, rfl, SqT.of (e2 _ _ hq), ?_, k _ f (fun c o z => e2 c o (e1 c o z)) nf (e2 _ _ hf)⟩⟩
        have ei : (if decide (V.str (if false = true then "backward" else "forward") = V.str "backward") = true then 1 else 0 : Int) = 0 := by decide +kernel
        rw [ei]
        rfl
      | true =>
        refine ⟨_, rfl, _, rfl, rfl, .inr ⟨_, rfl, q, _, _, _, rfl, rfl, SqT.of (e2 _ _ hq), ?_, k _ b (fun c o z => e2 c o (e1 c o z)) nb (e2 _ _ hb)⟩⟩
        have ei : (if decide (V.str (if true = true then "backward" else "forward") = V.str "backward") = true then 1 else 0 : Int) = 1 := by decide +kernel
        rw [ei]
        rfl
end

/-- all but what is at s stays -/
def XB (s : Addr) (H H2 : Hp) : Prop := ∀ c o, c ≠ s → H c = some o → H2 c = some o
theorem XB.refl {s : Addr} {H : Hp} : XB s H H := fun _ _ _ h => h
theorem XB.trans {s : Addr} {H H1 H2 : Hp} (a : XB s H H1) (b : XB s H1 H2) : XB s H H2 := fun c o n h => b c o n (a c o n h)
theorem XB.upd {s : Addr} {H : Hp} {o : HO} : XB s H (upd H s o) := fun c u n h => by rw [upd_ne n]; exact h
theorem XB.of {s : Addr} {H H2 : Hp} (e : Ex H H2) : XB s H H2 := fun c o _ h => e c o h
theorem XB.back {s : Addr} {H H2 : Hp} (e : XB s H H2) {p : Addr} (hn : p ≠ s) (h : H2 p = none) : H p = none := by
  cases q : H p with
  | none => rfl
  | some o => rw [e p o hn q] at h; cases h
theorem mod_lo {i n : Int} (h : 0 < n) : 0 ≤ i % n := Int.emod_nonneg i (by omega)
theorem mod_hi {i n : Int} (h : 0 < n) : i % n < n := Int.emod_lt_of_pos i h

/-! ### data -/
mutual
theorem eqv_refl : ∀ d : PyData, d.canLay0 = true → PyData.eqv d d = true
  | .none, _ => by simp only [PyData.eqv]
  | .bool b, _ => by simp only [PyData.eqv, beq_self_eq_true]
  | .int i, _ => by simp only [PyData.eqv, beq_self_eq_true]
  | .str x, _ => by simp only [PyData.eqv, beq_self_eq_true]
  | .list xs, h => by
    simp only [PyData.canLay0] at h
    simp only [PyData.eqv]
    exact eqvAll_refl xs h
  | .tuple xs, h => by
    simp only [PyData.canLay0] at h
    simp only [PyData.eqv]
    exact eqvAll_refl xs h
  | .dict _, h => by simp [PyData.canLay0] at h
theorem eqvAll_refl : ∀ ds : List PyData, PyData.canLayAll0 ds = true → PyData.eqvAll ds ds = true
  | [], _ => by simp only [PyData.eqvAll]
  | d :: ds, h => by
    simp only [PyData.canLayAll0, Bool.and_eq_true] at h
    simp only [PyData.eqvAll, Bool.and_eq_true]
    exact ⟨eqv_refl d h.1, eqvAll_refl ds h.2⟩
end
/-- data of a depth below n, in a form that may be laid -/
def Sh (n : Nat) (d : PyData) : Prop := d.canLay0 = true ∧ d.depth ≤ n
theorem Sh.ok {d : PyData} (h : Sh 60 d) : SeqAt.shaped d = true := by
  unfold SeqAt.shaped
  rw [h.1, decide_eq_true (Nat.le_trans h.2 (by decide))]
  rfl
theorem sh_int {n : Nat} (i : Int) : Sh n (.int i) := ⟨by simp only [PyData.canLay0], by simp only [PyData.depth]; omega⟩
theorem sh_bool {n : Nat} (i : Bool) : Sh n (.bool i) := ⟨by simp only [PyData.canLay0], by simp only [PyData.depth]; omega⟩
theorem sh_none {n : Nat} : Sh n .none := ⟨by simp only [PyData.canLay0], by simp only [PyData.depth]; omega⟩
theorem sh_all {n : Nat} : ∀ {ds : List PyData}, (∀ d ∈ ds, Sh n d) → PyData.canLayAll0 ds = true ∧ PyData.depthAll ds ≤ n
  | [], _ => ⟨by simp only [PyData.canLayAll0], by simp only [PyData.depthAll]; omega⟩
  | d :: ds, h => by
    obtain ⟨h1, h2⟩ := h d List.mem_cons_self
    obtain ⟨g1, g2⟩ := sh_all fun x hx => h x (List.mem_cons_of_mem _ hx)
    refine ⟨by simp only [PyData.canLayAll0, h1, g1, Bool.and_self], ?_⟩
    simp only [PyData.depthAll]
    omega
theorem sh_tuple {n : Nat} {ds : List PyData} (h : ∀ d ∈ ds, Sh n d) : Sh (n + 1) (.tuple ds) := by
  obtain ⟨h1, h2⟩ := sh_all h
  exact ⟨by simp only [PyData.canLay0, h1], by simp only [PyData.depth]; omega⟩
theorem sh_list {n : Nat} {ds : List PyData} (h : ∀ d ∈ ds, Sh n d) : Sh (n + 1) (.list ds) := by
  obtain ⟨h1, h2⟩ := sh_all h
  exact ⟨by simp only [PyData.canLay0, h1], by simp only [PyData.depth]; omega⟩
theorem Sh.up {n m : Nat} {d : PyData} (h : Sh n d) (e : n ≤ m) : Sh m d := ⟨h.1, Nat.le_trans h.2 e⟩
/-- a tuple of ints -/
abbrev iT (ns : List Int) : PyData := .tuple (ns.map PyData.int)
theorem sh_ints {n : Nat} (ns : List Int) : Sh (n + 1) (iT ns) := sh_tuple fun d hd => by
  obtain ⟨i, _, rfl⟩ := List.mem_map.mp hd
  exact sh_int i
theorem dpall_ints {K : PySem.W.Frag} {H : Hp} : ∀ ns : List Int, DpAll K H (ns.map V.int) (ns.map PyData.int)
  | [] => .nil
  | n :: ns => .cons (.int n) (dpall_ints ns)
theorem dp_ints {K : PySem.W.Frag} {H : Hp} {a : Addr} {ns : List Int} (h : H a = some (.tup (ns.map V.int))) : Dp K H (.ref a) (iT ns) := .tup (SqT.of h) (dpall_ints ns)
theorem eqvAll_ints : ∀ ns ms : List Int, PyData.eqvAll (ns.map PyData.int) (ms.map PyData.int) = decide (ns = ms)
  | [], [] => by simp [PyData.eqvAll]
  | [], _ :: _ => by simp [PyData.eqvAll]
  | _ :: _, [] => by simp [PyData.eqvAll]
  | n :: ns, m :: ms => by
    have ih := eqvAll_ints ns ms
    simp only [List.map_cons, PyData.eqvAll, PyData.eqv, ih]
    by_cases h : n = m
    · subst h
      simp
    · have : (n == m) = false := by simpa using h
      rw [this]
      simp [h]
theorem eqv_ints (ns ms : List Int) : PyData.eqv (iT ns) (iT ms) = decide (ns = ms) := by
  simp only [PyData.eqv]
  exact eqvAll_ints ns ms
theorem sh_pair {n : Nat} {a b : PyData} (ha : Sh n a) (hb : Sh n b) : Sh (n + 1) (.tuple [a, b]) := sh_tuple fun d hd => by
  rcases List.mem_cons.mp hd with e | e
  · rw [e]; exact ha
  · rw [List.mem_singleton.mp e]; exact hb
theorem eqv_same {d : PyData} (h : Sh 60 d) : (!PyData.eqv d d) = false := by rw [eqv_refl d h.1]; rfl

/-! ### zip's rows, nested comprehensions, lists of tuples of ints -/
theorem yrow2 {xs ys : List V} {i : Nat} {H H2 : Hp} {x : V} (h : CZ.YRow [xs, ys] i H x H2) : ∃ (Ta : Addr) (a b : V), x = .ref Ta ∧ H Ta = none ∧ H2 = upd H Ta (.tup [a, b]) ∧ xs[i]? = some a ∧ ys[i]? = some b := by
  obtain ⟨Ta, vs, rfl, hT, rfl, r⟩ := h
  cases r with
  | cons r1 r =>
    cases r with
    | cons r2 r =>
      cases r
      exact ⟨Ta, _, _, rfl, hT, rfl, r1, r2⟩
theorem yrow3 {xs ys zs : List V} {i : Nat} {H H2 : Hp} {x : V} (h : CZ.YRow [xs, ys, zs] i H x H2) : ∃ (Ta : Addr) (a b c : V), x = .ref Ta ∧ H Ta = none ∧ H2 = upd H Ta (.tup [a, b, c]) ∧ xs[i]? = some a ∧ ys[i]? = some b ∧ zs[i]? = some c := by
  obtain ⟨Ta, vs, rfl, hT, rfl, r⟩ := h
  cases r with
  | cons r1 r =>
    cases r with
    | cons r2 r =>
      cases r with
      | cons r3 r =>
        cases r
        exact ⟨Ta, _, _, _, rfl, hT, rfl, r1, r2, r3⟩
theorem yints2 {xs ys : List Int} {i : Nat} {H H2 : Hp} {x : V} (h : CZ.YRow [xs.map V.int, ys.map V.int] i H x H2) : ∃ (Ta : Addr) (a b : Int), x = .ref Ta ∧ H Ta = none ∧ H2 = upd H Ta (.tup [.int a, .int b]) ∧ xs[i]? = some a ∧ ys[i]? = some b := by
  obtain ⟨Ta, a, b, rfl, hT, rfl, r1, r2⟩ := yrow2 h
  obtain ⟨p, hp, rfl⟩ := map_get r1
  obtain ⟨q, hq, rfl⟩ := map_get r2
  exact ⟨Ta, p, q, rfl, hT, rfl, hp, hq⟩
theorem yints3 {xs ys zs : List Int} {i : Nat} {H H2 : Hp} {x : V} (h : CZ.YRow [xs.map V.int, ys.map V.int, zs.map V.int] i H x H2) : ∃ (Ta : Addr) (a b c : Int), x = .ref Ta ∧ H Ta = none ∧ H2 = upd H Ta (.tup [.int a, .int b, .int c]) ∧ xs[i]? = some a ∧ ys[i]? = some b ∧ zs[i]? = some c := by
  obtain ⟨Ta, a, b, c, rfl, hT, rfl, r1, r2, r3⟩ := yrow3 h
  obtain ⟨p, hp, rfl⟩ := map_get r1
  obtain ⟨q, hq, rfl⟩ := map_get r2
  obtain ⟨r, hr, rfl⟩ := map_get r3
  exact ⟨Ta, p, q, r, rfl, hT, rfl, hp, hq, hr⟩
theorem all2 {K : PySem.W.Frag} {H : Hp} {p q : Bool × Addr} {xs ys : List V} (hp : CZ.SqK K H p xs) (hq : CZ.SqK K H q ys) : ∀ r ∈ [p, q], ∃ zs, CZ.SqK K H r zs := fun r hr => by
  rcases List.mem_cons.mp hr with e | hr
  · rw [e]; exact ⟨_, hp⟩
  · rw [List.mem_singleton.mp hr]; exact ⟨_, hq⟩
theorem all3 {K : PySem.W.Frag} {H : Hp} {p q t : Bool × Addr} {xs ys us : List V} (hp : CZ.SqK K H p xs) (hq : CZ.SqK K H q ys) (ht : CZ.SqK K H t us) : ∀ r ∈ [p, q, t], ∃ zs, CZ.SqK K H r zs := fun r hr => by
  rcases List.mem_cons.mp hr with e | hr
  · rw [e]; exact ⟨_, hp⟩
  · exact all2 hq ht r hr
theorem lens2 {xs ys : List V} {n : Nat} (h1 : xs.length = n) (h2 : ys.length = n) : ∀ zs ∈ [xs, ys], zs.length = n := fun zs hz => by
  rcases List.mem_cons.mp hz with e | hz
  · rw [e]; exact h1
  · rw [List.mem_singleton.mp hz]; exact h2
theorem lens3 {xs ys us : List V} {n : Nat} (h1 : xs.length = n) (h2 : ys.length = n) (h3 : us.length = n) : ∀ zs ∈ [xs, ys, us], zs.length = n := fun zs hz => by
  rcases List.mem_cons.mp hz with e | hz
  · rw [e]; exact h1
  · exact lens2 h2 h3 zs hz
theorem sqT {K : PySem.W.Frag} {H : Hp} {a : Addr} {xs : List V} (h : H a = some (.tup xs)) : CZ.SqK K H (true, a) xs := SqT.of h
theorem sqL {K : PySem.W.Frag} {H : Hp} {a : Addr} {xs : List V} (h : H a = some (.lst xs)) : CZ.SqK K H (false, a) xs := SqL.of h
section
variable {J : It} {n : Nat} {G : Hp → Prop} {Y : Nat → Hp → V → Hp → Prop}
/-- a comprehension of two loops: the outer -/
theorem lc2_it (w : Walk J n G Y) {g g1 : TG} {tt tt1 : TT} {te : TE} {wi1 : TI} {vs vs1 : List Nat} {σ : L2.St} {H1 : Hp} {D : Addr} {Qd : Hp → Prop} (Pv : Nat → Hp → Prop) (h0 : Pv 0 (upd H1 D (.lst []))) (hG : ∀ i H, i ≤ n → Pv i H → G H)
    (hs : ∀ i x H H2, i < n → Pv i H → Y i H x H2 → g x (wipe σ vs) H2 fun σ2 H2 => wipe σ2 vs = wipe σ vs ∧ tt σ2 H2 fun b H3 =>
      if b = true then wi1 σ2 H3 fun J1 H4 => ∃ W1 : Nat → Nat → Hp → Prop, (∃ m, W1 0 m H4) ∧ ∀ j k H, W1 j k H →
        (J1.stop j H ∧ Pv (i + 1) H) ∨ (J1.go j H ∧ ∃ Nx1 : Hp → Prop, (∀ H2, Nx1 H2 → ∃ k2, k2 < k ∧ W1 (j + 1) k2 H2) ∧ ∀ x H2, J1.yld j H x H2 → g1 x (wipe σ2 vs1) H2 fun σ3 H5 => wipe σ3 vs1 = wipe σ2 vs1 ∧ tt1 σ3 H5 fun b H6 =>
          if b = true then te σ3 H6 fun y H7 => ∃ acc, H7 D = some (.lst acc) ∧ acc.length < sizeLine ∧ Nx1 (upd H7 D (.lst (acc ++ [y]))) else Nx1 H6)
      else Pv (i + 1) H3) (hd : ∀ H, Pv n H → Qd H) :
    ∃ W : Nat → Nat → Hp → Prop, (∃ m, W 0 m (upd H1 D (.lst []))) ∧ ∀ i m H, W i m H →
      (J.stop i H ∧ Qd H) ∨ (J.go i H ∧ ∃ Nx : Hp → Prop, (∀ H2, Nx H2 → ∃ m2, m2 < m ∧ W (i + 1) m2 H2) ∧ ∀ x H2, J.yld i H x H2 → g x (wipe σ vs) H2 fun σ2 H2 => wipe σ2 vs = wipe σ vs ∧ tt σ2 H2 fun b H3 =>
        if b = true then wi1 σ2 H3 fun J1 H4 => ∃ W1 : Nat → Nat → Hp → Prop, (∃ m, W1 0 m H4) ∧ ∀ j k H, W1 j k H →
          (J1.stop j H ∧ Nx H) ∨ (J1.go j H ∧ ∃ Nx1 : Hp → Prop, (∀ H2, Nx1 H2 → ∃ k2, k2 < k ∧ W1 (j + 1) k2 H2) ∧ ∀ x H2, J1.yld j H x H2 → g1 x (wipe σ2 vs1) H2 fun σ3 H5 => wipe σ3 vs1 = wipe σ2 vs1 ∧ tt1 σ3 H5 fun b H6 =>
            if b = true then te σ3 H6 fun y H7 => ∃ acc, H7 D = some (.lst acc) ∧ acc.length < sizeLine ∧ Nx1 (upd H7 D (.lst (acc ++ [y]))) else Nx1 H6)
        else Nx H3) := by
  refine ⟨fun i m H => m = n - i ∧ i ≤ n ∧ Pv i H, ⟨n, by simp, Nat.zero_le _, h0⟩, ?_⟩
  rintro i m H ⟨rfl, hi, p⟩
  have q := hG i H hi p
  by_cases hlt : i < n
  · refine .inr ⟨w.goes i H hlt q, Pv (i + 1), fun H2 p2 => ⟨n - (i + 1), by omega, rfl, hlt, p2⟩, fun x H2 y => hs i x H H2 hlt p (w.yields i H x H2 hlt q y)⟩
  · have e : i = n := by omega
    subst e
    exact .inl ⟨w.stops H q, hd H p⟩
/-- .. the inner -/
theorem in_it (w : Walk J n G Y) {g1 : TG} {tt1 : TT} {te : TE} {vs1 : List Nat} {σ2 : L2.St} {H4 : Hp} {D : Addr} {Nx : Hp → Prop} (Pw : Nat → Hp → Prop) (h0 : Pw 0 H4) (hG : ∀ i H, i ≤ n → Pw i H → G H)
    (hs : ∀ j x H H2, j < n → Pw j H → Y j H x H2 → g1 x (wipe σ2 vs1) H2 fun σ3 H5 => wipe σ3 vs1 = wipe σ2 vs1 ∧ tt1 σ3 H5 fun b H6 =>
      if b = true then te σ3 H6 fun y H7 => ∃ acc, H7 D = some (.lst acc) ∧ acc.length < sizeLine ∧ Pw (j + 1) (upd H7 D (.lst (acc ++ [y]))) else Pw (j + 1) H6) (hd : ∀ H, Pw n H → Nx H) :
    ∃ W1 : Nat → Nat → Hp → Prop, (∃ m, W1 0 m H4) ∧ ∀ j k H, W1 j k H →
      (J.stop j H ∧ Nx H) ∨ (J.go j H ∧ ∃ Nx1 : Hp → Prop, (∀ H2, Nx1 H2 → ∃ k2, k2 < k ∧ W1 (j + 1) k2 H2) ∧ ∀ x H2, J.yld j H x H2 → g1 x (wipe σ2 vs1) H2 fun σ3 H5 => wipe σ3 vs1 = wipe σ2 vs1 ∧ tt1 σ3 H5 fun b H6 =>
        if b = true then te σ3 H6 fun y H7 => ∃ acc, H7 D = some (.lst acc) ∧ acc.length < sizeLine ∧ Nx1 (upd H7 D (.lst (acc ++ [y]))) else Nx1 H6) := by
  refine ⟨fun i m H => m = n - i ∧ i ≤ n ∧ Pw i H, ⟨n, by simp, Nat.zero_le _, h0⟩, ?_⟩
  rintro i m H ⟨rfl, hi, p⟩
  have q := hG i H hi p
  by_cases hlt : i < n
  · refine .inr ⟨w.goes i H hlt q, Pw (i + 1), fun H2 p2 => ⟨n - (i + 1), by omega, rfl, hlt, p2⟩, fun x H2 y => hs i x H H2 hlt p (w.yields i H x H2 hlt q y)⟩
  · have e : i = n := by omega
    subst e
    exact .inl ⟨w.stops H q, hd H p⟩
end
/-- refs of tuples of ints -/
def RowsR (H : Hp) (xs : List V) (hss : List (List Int)) : Prop := Paired (fun x hs => ∃ r, x = V.ref r ∧ H r = some (.tup (hs.map V.int))) xs hss
theorem RowsR.mono {H H2 : Hp} (e : Ex H H2) : ∀ {xs : List V} {hss : List (List Int)}, RowsR H xs hss → RowsR H2 xs hss
  | _, _, .nil => .nil
  | _, _, .cons ⟨r, h1, h2⟩ t => .cons ⟨r, h1, e _ _ h2⟩ (RowsR.mono e t)
theorem RowsR.snoc {H : Hp} {r : Addr} {hs : List Int} (h : H r = some (.tup (hs.map V.int))) : ∀ {xs : List V} {hss : List (List Int)}, RowsR H xs hss → RowsR H (xs ++ [.ref r]) (hss ++ [hs])
  | _, _, .nil => .cons ⟨r, rfl, h⟩ .nil
  | _, _, .cons q t => .cons q (RowsR.snoc h t)
theorem RowsR.app {H : Hp} {ys : List V} {kss : List (List Int)} (h : RowsR H ys kss) : ∀ {xs : List V} {hss : List (List Int)}, RowsR H xs hss → RowsR H (xs ++ ys) (hss ++ kss)
  | _, _, .nil => h
  | _, _, .cons q t => .cons q (RowsR.app h t)
theorem RowsR.len {H : Hp} : ∀ {xs : List V} {hss : List (List Int)}, RowsR H xs hss → xs.length = hss.length
  | _, _, .nil => rfl
  | _, _, .cons _ t => by rw [List.length_cons, List.length_cons, RowsR.len t]
theorem RowsR.get {H : Hp} : ∀ {xs : List V} {hss : List (List Int)} {i : Nat} {x : V}, RowsR H xs hss → xs[i]? = some x → ∃ hs r, hss[i]? = some hs ∧ x = V.ref r ∧ H r = some (.tup (hs.map V.int))
  | _, _, _, _, .nil, h => by simp at h
  | _, _, 0, _, .cons ⟨r, e, q⟩ _, h => by
    simp only [List.length_cons, Nat.zero_lt_succ, List.getElem?_eq_getElem, List.getElem_cons_zero, Option.some.injEq] at h
    subst h
    exact ⟨_, r, rfl, e, q⟩
  | _, _, i + 1, _, .cons _ t, h => by
    rw [List.getElem?_cons_succ] at h ⊢
    exact RowsR.get t h
theorem RowsR.dp {K : PySem.W.Frag} {H : Hp} : ∀ {xs : List V} {hss : List (List Int)}, RowsR H xs hss → DpAll K H xs (hss.map iT)
  | _, _, .nil => .nil
  | _, _, .cons ⟨r, e, q⟩ t => by
    subst e
    exact .cons (dp_ints q) (RowsR.dp t)
/-- a list of tuples of ints -/
def RowsAt (H : Hp) (D : Addr) (hss : List (List Int)) : Prop := ∃ xs, H D = some (.lst xs) ∧ RowsR H xs hss
theorem RowsAt.mono {H H2 : Hp} {D : Addr} {hss : List (List Int)} (e : Ex H H2) (h : RowsAt H D hss) : RowsAt H2 D hss := by
  obtain ⟨xs, h1, h2⟩ := h
  exact ⟨xs, e _ _ h1, h2.mono e⟩
theorem RowsAt.dp {K : PySem.W.Frag} {H : Hp} {D : Addr} {hss : List (List Int)} (h : RowsAt H D hss) : Dp K H (.ref D) (.list (hss.map iT)) := by
  obtain ⟨xs, h1, h2⟩ := h
  exact .lst (SqL.of h1) h2.dp
theorem sh_rows {n : Nat} (hss : List (List Int)) : Sh (n + 2) (.list (hss.map iT)) := sh_list fun d hd => by
  obtain ⟨hs, _, rfl⟩ := List.mem_map.mp hd
  exact sh_ints hs
theorem eqvAll_rows : ∀ ns ms : List (List Int), PyData.eqvAll (ns.map iT) (ms.map iT) = decide (ns = ms)
  | [], [] => by simp [PyData.eqvAll]
  | [], _ :: _ => by simp [PyData.eqvAll]
  | _ :: _, [] => by simp [PyData.eqvAll]
  | n :: ns, m :: ms => by
    have ih := eqvAll_rows ns ms
    simp only [List.map_cons, PyData.eqvAll, eqv_ints, ih]
    by_cases h : n = m
    · subst h
      simp
    · simp [h]
theorem eqv_rows (ns ms : List (List Int)) : PyData.eqv (.list (ns.map iT)) (.list (ms.map iT)) = decide (ns = ms) := by
  simp only [PyData.eqv]
  exact eqvAll_rows ns ms
theorem RowsR.upd {H : Hp} {D : Addr} {acc : List V} {o : HO} (hD : H D = some (.lst acc)) : ∀ {xs : List V} {hss : List (List Int)}, RowsR H xs hss → RowsR (upd H D o) xs hss
  | _, _, .nil => .nil
  | _, _, .cons ⟨r, h1, h2⟩ t => .cons ⟨r, h1, by rw [upd_ne (ne_of h2 hD (by intro z; cases z))]; exact h2⟩ (RowsR.upd hD t)
theorem rows_push {H : Hp} {D u : Addr} {hss : List (List Int)} {ks : List Int} (h : RowsAt H D hss) (hu : H u = some (.tup (ks.map V.int))) : ∃ acc, H D = some (.lst acc) ∧ acc.length = hss.length ∧ RowsAt (upd H D (.lst (acc ++ [.ref u]))) D (hss ++ [ks]) := by
  obtain ⟨xs, h1, h2⟩ := h
  refine ⟨xs, h1, h2.len, _, upd_same, ?_⟩
  exact RowsR.snoc (by rw [upd_ne (ne_of hu h1 (by intro z; cases z))]; exact hu) (h2.upd h1)
theorem ex_upd {H H2 : Hp} {D : Addr} {o : HO} (e : Ex H H2) (hD : H D = none) : Ex H (upd H2 D o) := fun c u z => by
  rw [upd_ne (ne_of_none z hD)]
  exact e c u z
theorem ext {H H1 H2 : Hp} (a : Ex H H1) (b : Ex H1 H2) : Ex H H2 := fun c o z => b c o (a c o z)

/-! ### tuple * int, from 1 on -/
theorem u65 {k : Nat} {A : Around} (r : Room k A) : A.units + 65 < cLine := by have := r.un; omega
theorem tuple_mul1 (l : Addr) (items : Array Value) (n : Nat) (dd : Option Addr) (sl : Array (Option Value)) (x : Int) (u : Tok) (c0 : (decide (x < -(2 ^ 63)) || decide (x ≥ 2 ^ 63)) = false) (c1 : (items.isEmpty || x == 1) = true) :
    Meets (Builtin.«tuple.__mul__» ⟨[.ref l, .int x u], []⟩) (fun _ R s => s.heap.get? l = some { cls := .type "tuple", dict := dd, data := .seq items n, slots := sl } ∧ R (.ok (.ret (Value.ref l))) s) :=
  .of_wp fun prog w A R s h => by
    obtain ⟨hp, g, d, tk, os⟩ := s
    obtain ⟨hl, h⟩ := h
    have f1 := AutoSeq1.idx_int
    wp_walk using wpAny_loadPart' hl
    repeat (first
      | (refine wpAny_ite_false (decide_eq_false (by rw [c0]; exact Bool.false_ne_true)) ?_; wp_walk using wpAny_loadPart' hl)
      | (refine wpAny_ite_true (decide_eq_true c1) ?_; wp_walk using wpAny_loadPart' hl))
    exact ⟨_, rfl, h⟩
def rRepA (K : PySem.W.Frag) : R2 := fun x y H Q => ∃ l k xs, x = .ref l ∧ y = .int k ∧ SqT K H l xs ∧ xs ≠ [] ∧ 1 ≤ k ∧ k ≤ 1000 ∧ xs.length ≤ 1000 ∧ (k = 1 → Q (.ref l) H) ∧ ∀ p, H p = none → Q (.ref p) (upd H p (.tup (List.replicate k.toNat xs).flatten))
theorem op_repA {X : Cx} : OpR X (binaryOp .Mult) (rRepA X.K) := by
  intro pins s σ H x y v u Q I rx ry h
  obtain ⟨l, k, xs, ex, ey, hT, hne, h1, h2, hz, q1, q⟩ := h
  by_cases hk : k = 1
  · subst ex ey hk
    cases rx
    obtain ⟨t, rfl⟩ := ry
    obtain ⟨its, r, ⟨⟨cls, dd, data, sl⟩, ho, hc, n, hd⟩, hs⟩ := I.tuple hT
    simp only at hc hd
    subst hc hd
    refine wpAny_binaryOp_repeat_ref (T := "tuple") (U := "int") (by decide) ⟨_, ho, rfl⟩ (fun s2 => typeIs_int s2 1 t) noFill_tuple_mul PySem.F.fills_int_mul PySem.F.slot_int_rmul repeat_tuple PySem.F.slot_int_index.lookup
      (call_meets PySem.F.slot_int_rmul (typeIs_int s 1 t) PySem.F.entry_int_rmul (PySem.F.args_int_rmul_2 _ _) (int_rmul_tuple 1 t l its.toArray n dd sl)
        ⟨ho, rfl, ⟨_, ho, rfl⟩, call_meets PySem.F.slot_tuple_mul ⟨_, ho, rfl⟩ PySem.F.entry_tuple_mul (PySem.F.args_tuple_mul_2 _ _) (tuple_mul1 l its.toArray n dd sl 1 t (by decide) (by simp)) ⟨ho, ?_⟩⟩)
    exact ⟨.ref l, H, I, rfl, q1 rfl⟩
  · exact op_repT pins s σ H x y v u Q I rx ry ⟨l, k, xs, ex, ey, hT, hne, by omega, h2, hz, q⟩
/-- (x,) * k -/
theorem rep_one (x : V) (k : Nat) : (List.replicate k [x]).flatten = List.replicate k x := by
  induction k with
  | zero => rfl
  | succ k ih => rw [List.replicate_succ, List.flatten_cons, ih, List.replicate_succ]; rfl
theorem rep_ints {K : PySem.W.Frag} {H : Hp} {Q : VK} {u : Addr} {x k : Int} (hu : H u = some (.tup [.int x])) (h1 : 1 ≤ k) (h2 : k ≤ 1000) (h : ∀ q H2, Ex H H2 → H2 q = some (.tup ((List.replicate k.toNat x).map V.int)) → Q (.ref q) H2) : rRepA K (.ref u) (.int k) H Q := by
  refine ⟨u, k, [.int x], rfl, rfl, SqT.of hu, (fun z => nomatch z), h1, h2, (by show 1 ≤ 1000; decide), fun e => ?_, fun p hp => ?_⟩
  · subst e
    exact h u H exr hu
  · refine h p _ (exn hp) ?_
    rw [upd_same, rep_one, List.map_replicate]
theorem ne_same {a b : List Int} (h : a = b) : (!PyData.eqv (iT a) (iT b)) = false := by rw [h]; exact eqv_same (sh_ints b)
/-- a comprehension over a tuple of ints, by a value each -/
theorem row_in {hss : List (List Int)} {ps : List Int} (h : ps ∈ hss) : ((hss.map iT).any fun z => PyData.eqv z (iT ps)) = true := by
  rw [List.any_eq_true]
  exact ⟨iT ps, List.mem_map.mpr ⟨ps, h, rfl⟩, by rw [eqv_ints]; simp⟩
/-- a list of ints -/
abbrev iL (ns : List Int) : PyData := .list (ns.map PyData.int)
theorem sh_ilist {n : Nat} (ns : List Int) : Sh (n + 1) (iL ns) := sh_list fun d hd => by
  obtain ⟨i, _, rfl⟩ := List.mem_map.mp hd
  exact sh_int i
theorem dp_ilist {K : PySem.W.Frag} {H : Hp} {a : Addr} {ns : List Int} (h : H a = some (.lst (ns.map V.int))) : Dp K H (.ref a) (iL ns) := .lst (SqL.of h) (dpall_ints ns)
theorem eqv_ilist (ns ms : List Int) : PyData.eqv (iL ns) (iL ms) = decide (ns = ms) := by
  simp only [PyData.eqv]
  exact eqvAll_ints ns ms
theorem dec_bl {a b : Bool} (h : a = b) : (!decide (V.bl a = V.bl b)) = false := by rw [h]; simp
theorem emod_eq_iff {a b n : Int} : a % n = b % n ↔ n ∣ a - b := by
  rw [Int.emod_eq_emod_iff_emod_sub_eq_zero, Int.dvd_iff_emod_eq_zero]
/-- behind an if that changes names alone -/
theorem ifs_cutS {c : TT} {t u : TS} {D : Ends} {σ : L2.St} {H : Hp} (R : L2.St → Prop) (hR : ∀ σ2, R σ2 → D.nx σ2 H) (h : ∀ N : L2.St → Hp → Prop, (∀ σ2, R σ2 → N σ2 H) → tIfS c t u { D with nx := N } σ H) : tIfS c t u D σ H :=
  h D.nx hR

/-- a comprehension that lengthens a row by each of ks -/
theorem lc_rows {J : It} {n : Nat} {G : Hp → Prop} {Y : Nat → Hp → V → Hp → Prop} (w : Walk J n G Y) {g : TG} {te : TE} {vs : List Nat} {σ : L2.St} {H1 : Hp} {D : Addr} {Qd : Hp → Prop} (row ks : List Int) (hn : ks.length = n) (hl : n ≤ 10000000) (hD : H1 D = none)
    (hG : ∀ H, Ex H1 H → G H)
    (hs : ∀ i x H H2 (R : VK), i < n → Ex H1 H → Y i H x H2 → (∀ k v H5, Ex H H5 → ks[i]? = some k → H5 v = some (.tup ((row ++ [k]).map V.int)) → R (.ref v) H5) → g x (wipe σ vs) H2 fun σ2 H3 => wipe σ2 vs = wipe σ vs ∧ te σ2 H3 R)
    (hg : ∀ x σ2 H2 (R R2 : L2.St → Hp → Prop), (∀ σ3 H3, R σ3 H3 → R2 σ3 H3) → g x σ2 H2 R → g x σ2 H2 R2)
    (hd : ∀ H, Ex H1 H → RowsAt H D (ks.map fun k => row ++ [k]) → Qd H) :
    ∃ W : Nat → Nat → Hp → Prop, (∃ m, W 0 m (upd H1 D (.lst []))) ∧ ∀ i m H, W i m H →
      (J.stop i H ∧ Qd H) ∨ (J.go i H ∧ ∃ Nx : Hp → Prop, (∀ H2, Nx H2 → ∃ m2, m2 < m ∧ W (i + 1) m2 H2) ∧ ∀ x H2, J.yld i H x H2 → g x (wipe σ vs) H2 fun σ2 H3 => wipe σ2 vs = wipe σ vs ∧ tYes σ2 H3 fun b H4 =>
        if b = true then te σ2 H4 fun y H5 => ∃ acc, H5 D = some (.lst acc) ∧ acc.length < sizeLine ∧ Nx (upd H5 D (.lst (acc ++ [y]))) else Nx H4) := by
  refine lc_it w (fun i H => Ex H1 H ∧ RowsAt H D ((ks.take i).map fun k => row ++ [k])) ⟨exn hD, _, upd_same, .nil⟩ (fun i H _ p => hG H p.1) (fun i x H H2 hi p y => ?_) (fun H p => hd H p.1 (by have := p.2; rwa [List.take_of_length_le (by rw [hn]; exact Nat.le_refl _)] at this))
  refine hg _ _ _ _ _ (fun σ3 H3 q => ⟨q.1, q.2⟩) (hs i x H H2 (fun y H5 => ∃ acc, H5 D = some (.lst acc) ∧ acc.length < sizeLine ∧ Ex H1 (upd H5 D (.lst (acc ++ [y]))) ∧ RowsAt (upd H5 D (.lst (acc ++ [y]))) D ((ks.take (i + 1)).map fun k => row ++ [k])) hi p.1 y fun k v H5 e hk hv => ?_)
  obtain ⟨acc, h1, h2, h3⟩ := rows_push (p.2.mono e) hv
  refine ⟨acc, h1, ?_, ex_upd (ext p.1 e) hD, ?_⟩
  · rw [h2, List.length_map, List.length_take]
    exact Nat.lt_of_le_of_lt (Nat.le_trans (Nat.min_le_right _ _) (by rw [hn]; exact hl)) (by decide)
  · rw [take_more hk, List.map_append]
    exact h3
/-- row + (k,) -/
theorem cat_row {K : PySem.W.Frag} {H : Hp} {Q : VK} {r u : Addr} {row : List Int} {k : Int} (hr : H r = some (.tup (row.map V.int))) (hu : H u = some (.tup [.int k])) (hl : row.length ≤ 1000) (h : ∀ v H5, Ex H H5 → H5 v = some (.tup ((row ++ [k]).map V.int)) → Q (.ref v) H5) : rCatA K (.ref r) (.ref u) H Q := by
  refine ⟨r, u, row.map V.int, [.int k], rfl, rfl, SqT.of hr, SqT.of hu, ?_, fun z => ?_, fun _ z => (nomatch z), fun _ _ v hv => ?_⟩
  · rw [List.length_map]
    exact Nat.le_trans (show _ + 1 ≤ 1001 by omega) (by decide)
  · have : row = [] := List.map_eq_nil_iff.mp z
    subst this
    exact h u H exr hu
  · refine h v _ (exn hv) ?_
    rw [upd_same, List.map_append]
    rfl
theorem rows_ext {H : Hp} {D E : Addr} {hss kss : List (List Int)} (h1 : RowsAt H D hss) (h2 : RowsAt H E kss) (ne : D ≠ E) : ∃ xs zs, H D = some (.lst xs) ∧ H E = some (.lst zs) ∧ xs.length = hss.length ∧ zs.length = kss.length ∧ RowsAt (upd H D (.lst (xs ++ zs))) D (hss ++ kss) := by
  obtain ⟨xs, a1, a2⟩ := h1
  obtain ⟨zs, b1, b2⟩ := h2
  exact ⟨xs, zs, a1, b1, a2.len, b2.len, _, upd_same, RowsR.app (b2.upd a1) (a2.upd a1)⟩

theorem eqT {i j : Int} (h : decide (V.int i = V.int j) = true) : i = j := V.int.inj (of_decide_eq_true h)
theorem eqF {i j : Int} (h : ¬decide (V.int i = V.int j) = true) : i ≠ j := fun z => h (decide_eq_true (by rw [z]))
/-- behind an if -/
theorem ifs_cutG {c : TT} {t u : TS} {D : Ends} {σ : L2.St} {H : Hp} (R : L2.St → Hp → Prop) (hR : ∀ σ2 H2, R σ2 H2 → D.nx σ2 H2) (h : ∀ N : L2.St → Hp → Prop, (∀ σ2 H2, R σ2 H2 → N σ2 H2) → tIfS c t u { D with nx := N } σ H) : tIfS c t u D σ H :=
  h D.nx hR
theorem exG {H H4 : Hp} {p : Addr} {o : HO} (h : upd H p o = H4) (n : H p = none) : Ex H H4 := h ▸ exn n
theorem atG {H H4 : Hp} {p : Addr} {o : HO} (h : upd H p o = H4) : H4 p = some o := h ▸ upd_same
theorem slen {n : Nat} (h : Nat.ble n 1000 = true) : n ≤ sizeLine := Nat.le_trans (Nat.le_of_ble_eq_true h) (by decide)
/-- a comprehension with a test: what passes, by f -/
theorem lc_filt {α : Type} {J : It} {n : Nat} {G : Hp → Prop} {Y : Nat → Hp → V → Hp → Prop} (w : Walk J n G Y) {g : TG} {tt : TT} {te : TE} {vs : List Nat} {σ : L2.St} {H1 : Hp} {D : Addr} {Qd : Hp → Prop} (xs : List α) (c : α → Bool) (f : α → V) (hn : xs.length = n) (hl : n ≤ 10000000) (hD : H1 D = none)
    (hG : ∀ H, Ex H1 H → G H)
    (hs : ∀ i x a H H2 (R : VK) (S : Hp → Prop), xs[i]? = some a → Ex H1 H → Y i H x H2 → (∀ y H5, Ex H H5 → c a = true → y = f a → R y H5) → (∀ H4, Ex H H4 → c a = false → S H4) → g x (wipe σ vs) H2 fun σ2 H3 => wipe σ2 vs = wipe σ vs ∧ tt σ2 H3 fun b H4 => if b = true then te σ2 H4 R else S H4)
    (hd : ∀ H, Ex H1 H → H D = some (.lst ((xs.filter c).map f)) → Qd H) :
    ∃ W : Nat → Nat → Hp → Prop, (∃ m, W 0 m (upd H1 D (.lst []))) ∧ ∀ i m H, W i m H →
      (J.stop i H ∧ Qd H) ∨ (J.go i H ∧ ∃ Nx : Hp → Prop, (∀ H2, Nx H2 → ∃ m2, m2 < m ∧ W (i + 1) m2 H2) ∧ ∀ x H2, J.yld i H x H2 → g x (wipe σ vs) H2 fun σ2 H3 => wipe σ2 vs = wipe σ vs ∧ tt σ2 H3 fun b H4 =>
        if b = true then te σ2 H4 fun y H5 => ∃ acc, H5 D = some (.lst acc) ∧ acc.length < sizeLine ∧ Nx (upd H5 D (.lst (acc ++ [y]))) else Nx H4) := by
  refine lc_out w (fun i => ((xs.take i).filter c).map f) (by simp) hD (fun i hi => ?_) hG (fun i x H H2 Nx hi e hDi y kA kN => ?_) (fun H e h => hd H e ?_)
  · rw [List.length_map]
    refine Nat.lt_of_le_of_lt (Nat.le_trans (List.length_filter_le _ _) (Nat.le_trans (by rw [List.length_take]; exact Nat.min_le_right _ _) (by rw [hn]; exact hl))) (by decide)
  · obtain ⟨a, ha⟩ : ∃ a, xs[i]? = some a := ⟨xs[i]'(by omega), List.getElem?_eq_getElem (by omega)⟩
    refine hs i x a H H2 _ _ ha e y (fun y2 H5 e5 hc hy => kA y2 H5 e5 ?_) (fun H4 e4 hc => kN H4 e4 ?_)
    · rw [take_more ha, List.filter_append, List.map_append, hy]
      simp [hc]
    · rw [take_more ha, List.filter_append, List.map_append]
      simp [hc]
  · rw [h, List.take_of_length_le (by rw [hn]; exact Nat.le_refl _)]
/-- rows that pass a test -/
theorem RowsR.filt {H : Hp} (c : List Int → Bool) : ∀ {xs : List V} {hss : List (List Int)}, RowsR H xs hss → RowsR H (((xs.zip hss).filter fun z => c z.2).map fun z => z.1) (hss.filter c)
  | _, _, .nil => .nil
  | _, _, .cons (a := x) (b := hs) q t => by
    have ih := RowsR.filt c t
    rw [List.zip_cons_cons]
    cases e : c hs with
    | false =>
      rw [List.filter_cons_of_neg (by simp [e]), List.filter_cons_of_neg (by simp [e])]
      exact ih
    | true =>
      rw [List.filter_cons_of_pos (by simp [e]), List.filter_cons_of_pos (by simp [e])]
      exact .cons q ih
theorem zip_at2 {α β : Type} {l : List α} {m : List β} {i : Nat} {z : α × β} (h : (l.zip m)[i]? = some z) : l[i]? = some z.1 ∧ m[i]? = some z.2 := by
  rw [List.getElem?_zip_eq_some] at h
  exact h
/-- tuple(s), s a list or a tuple -/
theorem tup_of {K : PySem.W.Frag} {H : Hp} {q : Bool × Addr} {xs : List V} {Q : VK} (h : SqH H q xs) (k : ∀ t H2, Ex H H2 → H2 t = some (.tup xs) → Q (.ref t) H2) : (SqL K H q.2 xs ∧ ∀ p, H p = none → Q (.ref p) (upd H p (.tup xs))) ∨ SqT K H q.2 xs ∧ Q (.ref q.2) H := by
  obtain ⟨b, a⟩ := q
  cases b
  · exact .inl ⟨SqL.of (show H a = some (.lst xs) from h), fun p hp => k p _ (exn hp) upd_same⟩
  · exact .inr ⟨SqT.of (show H a = some (.tup xs) from h), k a H exr h⟩
def rTupQ : List V → Hp → VK → Prop := fun vs H Q => ∃ (q : Bool × Addr) (xs : List V), vs = [.ref q.2] ∧ SqH H q xs ∧ ∀ t H2, Ex H H2 → H2 t = some (.tup xs) → Q (.ref t) H2
theorem call_tuple_q {X : Cx} : CallR X (.type "tuple") rTupQ := by
  intro pins s σ H vs us Q I r h
  obtain ⟨q, xs, rfl, hq, k⟩ := h
  exact call_tuple_of pins s σ H _ us Q I r ⟨q.2, xs, rfl, tup_of hq k⟩
theorem SqH.uniq {H : Hp} {q : Bool × Addr} {xs ys : List V} (h1 : SqH H q xs) (h2 : SqH H q ys) : xs = ys := by
  obtain ⟨b, a⟩ := q
  cases b
  · have e : some (HO.lst xs) = some (HO.lst ys) := (show H a = some (.lst xs) from h1).symm.trans (show H a = some (.lst ys) from h2)
    injection e with e
    injection e
  · have e : some (HO.tup xs) = some (HO.tup ys) := (show H a = some (.tup xs) from h1).symm.trans (show H a = some (.tup ys) from h2)
    injection e with e
    injection e
theorem RowsR.monoT {H H2 : Hp} (e : ∀ c xs, H c = some (.tup xs) → H2 c = some (.tup xs)) : ∀ {xs : List V} {hss : List (List Int)}, RowsR H xs hss → RowsR H2 xs hss
  | _, _, .nil => .nil
  | _, _, .cons ⟨r, h1, h2⟩ t => .cons ⟨r, h1, e _ _ h2⟩ (RowsR.monoT e t)

-- exceptions
/-- an error of the class at S is what «except S» names -/
theorem exm_self {K : PySem.W.Frag} {S : Addr} (h1 : PySem.W.subIn K (.ref S) (.type "BaseException") = some true) (h2 : PySem.W.isClsIn K S = true) (h3 : PySem.W.typeIn K (.ref S) = some (.type "type")) (h4 : PySem.W.subIn K (.ref S) (.ref S) = some true) :
    PySem.W.exmOne K (.ref S) (.ref S) = some true := by
  have e1 : (PySem.W.subIn K (.ref S) (.type "BaseException") == some true) = true := by rw [h1] <;> rfl
  have e2 : ((PySem.W.clsIn K S).isSome && PySem.W.typeIn K (.ref S) == some (.type "type")) = true := by
    have h2' : (PySem.W.clsIn K S).isSome = true := h2
    rw [h2', h3] <;> rfl
  show (if (PySem.W.subIn K (.ref S) (.type "BaseException") == some true) = true then (if ((PySem.W.clsIn K S).isSome && PySem.W.typeIn K (.ref S) == some (.type "type")) = true then PySem.W.subIn K (.ref S) (.ref S) else none) else none) = some true
  rw [if_pos e1, if_pos e2]
  exact h4
/-- what the first clause 'except x as n' wishes of an exception of the body that it takes: slot i is n's -/
def wAs1 (K : PySem.W.Frag) (c : Value) (i : Nat) (ts : Addr → Value → Option Addr → TS) (D : Ends) : WX := fun cls d σ H =>
  PySem.W.exmOne K cls c = some true ∧ ∀ a, H a = none → ts a cls d { nx := fun σ' H' => D.nx (σ'.set i none) H', rt := D.rt, bk := fun σ' H' => D.bk (σ'.set i none) H', ct := fun σ' H' => D.ct (σ'.set i none) H' } (σ.set i (some (.ref a))) H
/-- try, where the first clause takes what the body raises; what the other clauses are is all one -/
theorem ps_try_as1 {X : Cx} {x n : Str} {c : Value} {i : Nat} {body suite : List Stmt} {b₀ : Stmt} {np pos pos' : Pos} {hds : List ExceptHandler} {tb : WX → TS} {ts : Addr → Value → Option Addr → TS} (hs : X.stack = X.env :: X.outer) (hf : X.env.frame = some X.env.locals) (hN : X.N.Nodup) (hi : X.N[i]? = some n) (hln : X.env.kindOf n = some .local) (hc : Names X x c)
    (hb : ∀ (W : WX) (pn : List (Addr × Obj)) (xe : Value → Shared → Prop), Takes (X.tr pn xe) W → PassesOwn (model X.prog X.w) X.A X.env xe → PSs (X.tr pn xe) body (tb W))
    (hsu : ∀ (a : Addr) (oe : Obj) (cls : Value) (d : Option Addr) (pn : List (Addr × Obj)), Zc cls d oe → (∃ vs, oe.data = .fields vs) → PSs (X.suite a ((a, oe) :: pn)) (b₀ :: suite) (ts a cls d)) :
    PS X (.Try body (.ExceptHandler (some (.Name x np)) (some n) (b₀ :: suite) pos' :: hds) [] [] pos) (fun D σ H => tb (wAs1 X.K c i ts D) D σ H) := by
  refine ⟨fun pins s σ H D I h => ?_⟩
  have ok := I.ok
  have hfr : X.A.frames = some (X.env :: X.outer) := by rw [ok.frames, hs]
  have hloc : Loc X.env.scope n := .inl hln
  refine wpAny_Try_except ?_
  refine wpAny_mono ((hb (wAs1 X.K c i ts D) (X.pn ++ pins) (fun e s₁ => wpAny (model X.prog X.w) X.A (noteFrame e X.env) (fun _ s₂ => wpAny (model X.prog X.w) X.A (setFlight e none) (fun _ s₃ =>
    wpAny (model X.prog X.w) X.A (handleBy e X.env (.ExceptHandler (some (.Name x np)) (some n) (b₀ :: suite) pos' :: hds)) (SP X pins D) X.xe s₃) X.xe s₂) X.xe s₁) (fun u s' xx => ?_) PassesOwn.looking).run [] s σ H D (I.toTry _) h) (fun f s1 hsp => ?_) (fun e s1 he => he)
  · obtain ⟨a, B, sI, pins', σ', H', cls, d, rfl, J', nb, up, sky, na, os, ag, hb1, hyes⟩ := xx
    have J : Inv X pins σ' H' sI := J'.ofTry ok
    have sky' : Sky B (X.env :: X.outer) a (Zc cls d) X.env.locals s'.heap := by rw [← hs]; exact sky
    show wpAny (model X.prog X.w) X.A (noteFrame (.ref a) X.env) _ _ _
    refine Sky.land Zc.steady hfr hf sky' fun h3 fl3 up3 => ?_
    have J3 : Inv X pins σ' H' { s' with heap := h3 } := J.landed nb fl3.1 (up.trans up3) os ag
    obtain ⟨oe3, vs3, he3, hz3, hd3⟩ := fl3.there
    have notFr : ∀ {h : Heap} {o : Obj} {vs : Array Value}, h.FunFrames B (X.env :: X.outer) → h.get? a = some o → o.data = .fields vs → a ∉ frs (X.env :: X.outer) := fun {h o vs} ff e dd hm => by
      obtain ⟨_, o', e', hnf⟩ := ff.mem hm
      rw [e] at e'; cases e'
      exact hnf _ dd
    have nfr := notFr fl3.2.2.1 he3 hd3
    have nL : a ≠ X.env.locals := fun z => nfr (List.mem_filterMap.mpr ⟨X.env, List.mem_cons_self, by rw [hf, z]⟩)
    have nF : a ∉ X.fs := fun hm => by
      obtain ⟨e, he, q⟩ := List.mem_filterMap.mp hm
      exact nfr (List.mem_filterMap.mpr ⟨e, List.mem_cons_of_mem _ he, q⟩)
    have S3 := J3.suite he3 hd3 na nL nF
    refine wpAny_handleBy_cons (codeAny_handlers_test ?_) (by intro q; cases q)
    have LT : PySem.W.Looks (model X.prog X.w) h3 (typeOf (.ref a)) cls := fun A Q E s k q => wpAny_typeOf_ref (k _ _ he3) (by rw [hz3.1]; exact q)
    have LM := PySem.W.exm_one (M := model X.prog X.w) (J3.kIn) LT hb1
    have test : ∀ {Q : Value → Shared → Prop} {E : Value → Shared → Prop}, Q c { s' with heap := h3 } → wpAny (model X.prog X.w) (X.A.mark (some (.ref a))) (eval (.Name x np) X.env) Q E { s' with heap := h3 } := fun {Q E} q => by
      obtain ⟨hg, hdbg, hm | ⟨hm, hv, hnn⟩⟩ := hc
      · exact ld_glob (X := X.suite a ((a, oe3) :: (X.pn ++ pins))) S3 hg hm q hdbg
      · exact ld_blt (X := X.suite a ((a, oe3) :: (X.pn ++ pins))) S3 hg hm hv q hnn hdbg
    refine test (LM.here ?_)
    refine codeAny_handlers_suite_as ?_
    refine HandSPX.lands_againZ fl3 fun h4 fl4 up4 => ?_
    have J4 : Inv X pins σ' H' { s' with heap := h4 } := J.landed nb fl4.1 ((up.trans up3).trans up4) os ag
    obtain ⟨oe4, vs4, he4, hz4, hd4⟩ := fl4.there
    have S4 := J4.suite he4 hd4 na nL nF
    refine store_ok (X := X.suite a ((a, oe4) :: (X.pn ++ pins))) (v := .ref a) S4 hN hi hloc rfl (fun s5 S5 => ?_) (.inr hln)
    refine wpAny_mono ((hsu a oe4 cls d (X.pn ++ pins) hz4 ⟨_, hd4⟩).run [] s5 _ H' _ S5 (hyes a na)) (fun f s6 hsp => ?_) (fun _ _ z => False.elim z)
    have end_ : ∀ {σ6 : L2.St} {H6 : Hp} {Q : Shared → Prop}, Inv (X.suite a ((a, oe4) :: (X.pn ++ pins))) [] σ6 H6 s6 → (∀ s7, Inv X pins (σ6.set i none) H6 s7 → Q s7) →
        wpAny (model X.prog X.w) X.A (do bindName X.env n .none; unbindBehindTheSuite X.env n pos') (fun _ s7 => Q s7) X.xe s6 := fun {σ6 H6 Q} S6 hq => gone_ok (S6.unsuite ok) hN hi hln hq
    cases f with
    | next =>
      obtain ⟨σ6, H6, S6, q6⟩ := hsp
      exact end_ S6 fun s7 J7 => ⟨_, _, J7, q6⟩
    | brk =>
      obtain ⟨σ6, H6, S6, q6⟩ := hsp
      exact end_ S6 fun s7 J7 => ⟨_, _, J7, q6⟩
    | cont =>
      obtain ⟨σ6, H6, S6, q6⟩ := hsp
      exact end_ S6 fun s7 J7 => ⟨_, _, J7, q6⟩
    | ret u =>
      obtain ⟨v6, σ6, H6, S6, r6, q6⟩ := hsp
      exact end_ S6 fun s7 J7 => ⟨_, _, _, J7, r6, q6⟩
  · cases f with
    | next =>
      obtain ⟨σ', H', J', q⟩ := hsp
      exact wpAny_execs_nil ⟨σ', H', J'.ofTry ok, q⟩
    | brk =>
      obtain ⟨σ', H', J', q⟩ := hsp
      exact ⟨σ', H', J'.ofTry ok, q⟩
    | cont =>
      obtain ⟨σ', H', J', q⟩ := hsp
      exact ⟨σ', H', J'.ofTry ok, q⟩
    | ret u =>
      obtain ⟨v, σ', H', J', r, q⟩ := hsp
      exact ⟨v, σ', H', J'.ofTry ok, r, q⟩

theorem shift_back {f : Int} : ∀ {ns ps cs : List Int}, SeatOk ns ps → cs.length = ns.length → shiftL ns (shiftL ns ps cs f) cs (-f) = ps
  | [], [], [], _, _ => rfl
  | n :: ns, p :: ps, c :: cs, h, l => by
    show ((p + f * c) % n + -f * c) % n :: _ = _
    rw [shift_back h.2 (Nat.succ.inj l), Int.emod_add_emod, Int.neg_mul, Int.add_neg_cancel_right, Int.emod_eq_of_lt h.1.1 h.1.2]
theorem shift_neg {f : Int} : ∀ {ns ps cs : List Int}, shiftL ns ps (cs.map fun c => 0 - c) f = shiftL ns ps cs (-f)
  | [], _, _ => by cases ‹List Int› <;> simp [shiftL]
  | _ :: _, [], _ => by simp [shiftL]
  | _ :: _, _ :: _, [] => by simp [shiftL]
  | n :: ns, p :: ps, c :: cs => by
    show (p + f * (0 - c)) % n :: _ = (p + -f * c) % n :: _
    rw [shift_neg, Int.zero_sub, Int.mul_neg, Int.neg_mul]
theorem shift_comm {f g : Int} : ∀ {ns ps cs ds : List Int}, ps.length = ns.length → cs.length = ns.length → ds.length = ns.length → shiftL ns (shiftL ns ps cs f) ds g = shiftL ns (shiftL ns ps ds g) cs f
  | [], [], [], [], _, _, _ => rfl
  | n :: ns, p :: ps, c :: cs, d :: ds, l1, l2, l3 => by
    show ((p + f * c) % n + g * d) % n :: _ = ((p + g * d) % n + f * c) % n :: _
    rw [shift_comm (Nat.succ.inj l1) (Nat.succ.inj l2) (Nat.succ.inj l3), Int.emod_add_emod, Int.emod_add_emod, Int.add_right_comm]
theorem shift_seat {f : Int} : ∀ {ns ps cs : List Int}, (∀ n ∈ ns, 1 ≤ n) → ps.length = ns.length → cs.length = ns.length → SeatOk ns (shiftL ns ps cs f)
  | [], [], [], _, _, _ => True.intro
  | n :: ns, p :: ps, c :: cs, h, l1, l2 => by
    have n1 := h n List.mem_cons_self
    exact ⟨⟨Int.emod_nonneg _ (by omega), Int.emod_lt_of_pos _ (by omega)⟩, shift_seat (fun m hm => h m (List.mem_cons_of_mem _ hm)) (Nat.succ.inj l1) (Nat.succ.inj l2)⟩
theorem shift_same {f g : Int} : ∀ {ns ps cs : List Int}, ps.length = ns.length → cs.length = ns.length → (shiftL ns ps cs f = shiftL ns ps cs g ↔ ∀ z ∈ cs.zip ns, z.2 ∣ (f - g) * z.1)
  | [], [], [], _, _ => by simp [shiftL]
  | n :: ns, p :: ps, c :: cs, l1, l2 => by
    have e : p + f * c - (p + g * c) = (f - g) * c := by rw [Int.sub_mul]; omega
    show (p + f * c) % n :: _ = (p + g * c) % n :: _ ↔ _
    rw [List.cons.injEq, shift_same (Nat.succ.inj l1) (Nat.succ.inj l2), emod_eq_iff, e, List.zip_cons_cons, List.forall_mem_cons]
theorem shift_zero : ∀ {ns ps cs : List Int}, SeatOk ns ps → cs.length = ns.length → shiftL ns ps cs 0 = ps
  | [], [], [], _, _ => rfl
  | n :: ns, p :: ps, c :: cs, h, l => by
    show (p + 0 * c) % n :: _ = _
    rw [shift_zero h.2 (Nat.succ.inj l), Int.zero_mul, Int.add_zero, Int.emod_eq_of_lt h.1.1 h.1.2]
/-- a call times k -/
theorem shift_times {k : Int} : ∀ {ns ps cs : List Int}, shiftL ns ps (cs.map fun c => c * k) 1 = shiftL ns ps cs k
  | [], _, _ => by cases ‹List Int› <;> simp [shiftL]
  | _ :: _, [], _ => by simp [shiftL]
  | _ :: _, _ :: _, [] => by simp [shiftL]
  | n :: ns, p :: ps, c :: cs => by
    show (p + 1 * (c * k)) % n :: _ = (p + k * c) % n :: _
    rw [shift_times, Int.one_mul, Int.mul_comm c]
theorem zero_seat : ∀ {ns : List Int}, (∀ n ∈ ns, 1 ≤ n) → SeatOk ns (List.replicate ns.length 0)
  | [], _ => True.intro
  | n :: ns, h => ⟨⟨Int.le_refl _, by have := h n List.mem_cons_self; omega⟩, zero_seat fun m hm => h m (List.mem_cons_of_mem _ hm)⟩

/-- Table(..) -/
theorem mk_tab {C a : Addr} {b : Bool} {H : Hp} {ns : List Int} {R : Addr → Hp → Prop} {E : XK} (hq : SqH H (b, a) (ns.map V.int)) (ok : SzOk ns) (k : ∀ x H2, Ex H H2 → H x = none → TabAt C H2 x ns → R x H2) :
    ∀ x dx, H x = none → H dx = none → dx ≠ x → sp_Table_init C [.ref x, .ref a] (upd (upd H dx (.own x)) x (.ins C dx [])) (fun v H2 => v = .non ∧ R x H2) E := by
  intro x dx nx ndx _
  have exB : Ex H (upd (upd H dx (.own x)) x (.ins C dx [])) := fun c o z => by
    rw [upd_ne (ne_of_none z nx), upd_ne (ne_of_none z ndx)]
    exact z
  refine ⟨x, dx, (b, a), ns, rfl, upd_same, hq.mono exB, ok, fun H3 k3 ht3 => ⟨rfl, ?_⟩⟩
  obtain ⟨t, g1, g2⟩ := ht3
  exact k x H3 (fun c o z => k3 c o (ne_of_none z nx) (exB c o z)) nx ⟨dx, t, g1, g2⟩
theorem eqN {i j : Int} (h : ¬(!decide (V.int i = V.int j)) = true) : i = j := by
  by_cases e : i = j
  · exact e
  · exact absurd (by simp [e]) h
/-! ### lists and tuples alike -/
theorem cut_from (xs : List V) (k : Nat) : cutV xs (some (k : Int)) none = xs.drop k := by
  unfold cutV
  rw [HT.sIx_nat, HT.sIx_none]
  by_cases h : k ≤ xs.length
  · rw [Nat.min_eq_left h]
    exact List.take_of_length_le (by rw [List.length_drop]; omega)
  · rw [Nat.min_eq_right (by omega), List.drop_of_length_le (Nat.le_refl _), List.drop_of_length_le (by omega)]
    simp
theorem cut_to (xs : List V) (k : Nat) : cutV xs none (some (k : Int)) = xs.take k := by
  unfold cutV
  rw [HT.sIx_nat, HT.sIx_none, List.drop_zero, Nat.sub_zero]
  by_cases h : k ≤ xs.length
  · rw [Nat.min_eq_left h]
  · rw [Nat.min_eq_right (by omega), List.take_of_length_le (Nat.le_refl _), List.take_of_length_le (by omega)]
theorem cut_whole {xs : List V} {lo hi : Option Int} (h : HT.sIx xs.length 0 lo = 0 ∧ HT.sIx xs.length xs.length hi = xs.length) : cutV xs lo hi = xs := by
  unfold cutV
  rw [h.1, h.2, List.drop_zero, Nat.sub_zero, List.take_of_length_le (Nat.le_refl _)]
def rIxQ (K : PySem.W.Frag) : R2 := fun x y H Q => ∃ (q : Bool × Addr) (xs : List V) (i : Int) (v : V), x = .ref q.2 ∧ y = .int i ∧ CZ.SqK K H q xs ∧ atI xs i = some v ∧ Q v H
theorem ix_q {X : Cx} : IxR X (rIxQ X.K) := by
  intro value slice pins s σ H x y v u Q I rx ry h hsub
  obtain ⟨⟨b, a⟩, xs, i, z, rfl, rfl, hq, hz, q⟩ := h
  cases b
  · exact ix_list value slice pins s σ H _ _ v u Q I rx ry ⟨a, xs, i, z, rfl, rfl, hq, hz, q⟩ hsub
  · exact ix_tup value slice pins s σ H _ _ v u Q I rx ry ⟨a, xs, i, z, rfl, rfl, hq, hz, q⟩ hsub
def rSlQ : V → Option Int → Option Int → Hp → VK → Prop := fun x lo hi H Q => ∃ (q : Bool × Addr) (xs : List V), x = .ref q.2 ∧ SqH H q xs ∧ ∀ p H2, Ex H H2 → SqH H2 (q.1, p) (cutV xs lo hi) → Q (.ref p) H2
theorem sl_q {X : Cx} : SlR X rSlQ := by
  intro pins s σ H x v vl vu lo hi sl Q I rx hs pl pu h
  obtain ⟨⟨b, a⟩, xs, rfl, hq, k⟩ := h
  cases b
  · exact sl_list pins s σ H _ v vl vu lo hi sl Q I rx hs pl pu ⟨a, xs, rfl, SqL.of (show H a = some (.lst xs) from hq), fun p hp => k p _ (exn hp) upd_same⟩
  · exact sl_tupA pins s σ H _ v vl vu lo hi sl Q I rx hs pl pu ⟨a, xs, rfl, SqT.of (show H a = some (.tup xs) from hq), fun hw => k a H exr (by rw [cut_whole hw]; exact hq), fun _ p hp => k p _ (exn hp) upd_same⟩

/-- a list (false) or a tuple (true) of tuples of ints -/
def RowsQ (H : Hp) (q : Bool × Addr) (tss : List (List Int)) : Prop := ∃ xs, SqH H q xs ∧ RowsR H xs tss
theorem RowsQ.mono {H H2 : Hp} {q : Bool × Addr} {tss : List (List Int)} (e : Ex H H2) (h : RowsQ H q tss) : RowsQ H2 q tss := by
  obtain ⟨xs, h1, h2⟩ := h
  exact ⟨xs, h1.mono e, h2.mono e⟩
theorem RowsQ.dp {K : PySem.W.Frag} {H : Hp} {q : Bool × Addr} {tss : List (List Int)} (h : RowsQ H q tss) : Dp K H (.ref q.2) (.list (tss.map iT)) ∨ Dp K H (.ref q.2) (.tuple (tss.map iT)) := by
  obtain ⟨xs, h1, h2⟩ := h
  obtain ⟨b, a⟩ := q
  cases b
  · exact .inl (.lst (SqL.of (show H a = some (.lst xs) from h1)) h2.dp)
  · exact .inr (.tup (SqT.of (show H a = some (.tup xs) from h1)) h2.dp)
theorem any_rows (tss : List (List Int)) (ps : List Int) : ((tss.map iT).any fun z => PyData.eqv z (iT ps)) = decide (ps ∈ tss) := by
  rw [List.any_map, Bool.eq_iff_iff, List.any_eq_true, decide_eq_true_eq]
  constructor
  · rintro ⟨x, hx, h⟩
    have h2 : PyData.eqv (iT x) (iT ps) = true := h
    rw [eqv_ints] at h2
    rw [← of_decide_eq_true h2]
    exact hx
  · intro h
    refine ⟨ps, h, ?_⟩
    show PyData.eqv (iT ps) (iT ps) = true
    rw [eqv_ints]
    simp
abbrev kI (ps : List Int) : List Key := ps.map Sum.inl
theorem kI_map (ps : List Int) : (kI ps).map kV = ps.map V.int := by
  rw [List.map_map]
  rfl
theorem kI_inj {a b : List Int} (h : kI a = kI b) : a = b := by
  induction a generalizing b with
  | nil =>
    cases b with
    | nil => rfl
    | cons y ys => simp at h
  | cons x xs ih =>
    cases b with
    | nil => simp at h
    | cons y ys =>
      simp only [List.map_cons, List.cons.injEq, Sum.inl.injEq] at h
      rw [h.1, ih h.2]
theorem nodup_get {α : Type} {l : List α} (nod : l.Nodup) {i : Nat} {t : α} (ht : l[i]? = some t) : ¬ t ∈ l.take i := by
  intro hm
  obtain ⟨j, hj⟩ := List.getElem?_of_mem hm
  obtain ⟨jl, je⟩ := List.getElem?_eq_some_iff.mp hj
  rw [List.length_take] at jl
  rw [List.getElem_take] at je
  obtain ⟨il, ie⟩ := List.getElem?_eq_some_iff.mp ht
  exact absurd (je.trans ie.symm) (List.pairwise_iff_getElem.mp nod j i (by omega) il (by omega))
theorem put_len {κ : Type} [DecidableEq κ] {kvs : List (κ × V)} {k : κ} {v : V} (h : valV kvs k = none) : (putK kvs k v).length = kvs.length + 1 := by
  rw [putK_new v h, List.length_append]
  rfl
section
variable {P : Program} {w : World} {K : PySem.W.Frag} {mg : Str → Option Value} {base : Heap}
def sp_require_table (C : Addr) : Sp := fun vs H Q _ => ∃ (a : Addr) (ns : List Int), vs = [.ref a] ∧ TabAt C H a ns ∧ Q .non H
theorem ok_require_table (T : TX K mg) : FnOk P w K mg base CX0 5 T.f_require_table T.fd_require_table ["table"] (sp_require_table T.C_Table) := by
  refine T.F_require_table.ok sc_require_table (fun vs H Q E h => ?_) (fun cdv A outer s H vs Q E hr h => ?_)
  · obtain ⟨a, ns, rfl, _⟩ := h
    rfl
  · obtain ⟨a, ns, rfl, ⟨dx, t, h1, h2⟩, k⟩ := h
    refine ⟨_, (pss_one (ps_if (pt_not (pt_val (pe_callB call_isi (by rfl) T.z_isinstance (by decide +kernel) (pa_cons (pv 0) (pa_cons (pe_glob (v := .ref T.C_Table) rfl T.m_Table rfl) pa_nil))))) pss_never pss_nil)), ?_⟩
    exact ⟨_, rfl, _, _, _, _, true, rfl, .own _, .base (.ins h1 T.cl_Table T.ic_Table T.ig_ T.it_ T.im_Table), kit_self, _, rfl, itf rfl k⟩
def sp_require_targets (C : Addr) : Sp := fun vs H Q _ => ∃ (a : Addr) (q : Bool × Addr) (ns : List Int) (tss : List (List Int)), vs = [.ref a, .ref q.2] ∧ TabAt C H a ns ∧ ns.length ≤ 4 ∧ RowsQ H q tss ∧ tss ≠ [] ∧ tss.length ≤ 100000 ∧ (∀ ts ∈ tss, SeatOk ns ts) ∧ tss.Nodup ∧ ∀ H2, Ex H H2 → Q .non H2
theorem ok_require_targets (T : TX K mg) : FnOk P w K mg base CX0 4 T.f_require_targets T.fd_require_targets ["table", "targets"] (sp_require_targets T.C_Table) := by
  refine T.F_require_targets.ok sc_require_targets (fun vs H Q E h => ?_) (fun cdv A outer s H vs Q E hr h => ?_)
  · obtain ⟨a, q, ns, tss, rfl, _⟩ := h
    rfl
  · obtain ⟨a, ⟨b, q⟩, ns, tss, rfl, tab, l4, ⟨xs, hq, rr⟩, ne, lts, sks, nod, k⟩ := h
    refine ⟨_, (pss_cons (ps_if (PW.pt (pw_or (pt_not (pt_val (pe_callB call_isiT (by rfl) T.z_isinstance (by decide +kernel) (pa_cons (pv 1) (pa_cons (pe_tup (pa_cons (pe_bltn (v := .ty "list") rfl T.z_list (by decide +kernel) rfl) (pa_cons (pe_bltn (v := .ty "tuple") rfl T.z_tuple (by decide +kernel) rfl) pa_nil))) pa_nil))))) (pw_or1 (pt_cmpR op_eq (pe_callB call_len_seq (by rfl) T.z_len (by decide +kernel) (pa_cons (pv 1) pa_nil)) pe_int (nomark _))))) pss_never pss_nil) (pss_cons (ps_set (i := 2) sc_require_targets.nd rfl (Or.inl rfl) pe_dnewT) (pss_one (ps_for PassesOwn.never rfl (CE.pi_e rfl T.z_enumerate (pa_cons (pv 1) pa_nil)) (pg_tup rfl (pgs_cons (pg_name (i := 3) sc_require_targets.nd rfl (Or.inl rfl)) (pgs_cons (pg_name (i := 4) sc_require_targets.nd rfl (Or.inl rfl)) pgs_nil))) (pss_cons (ps_if (PW.pt (pw_or (pt_not (pt_val (pe_meth (pv 0) T.cl_Table T.me_Table_is_seat (ok_Table_is_seat T) hr T.b_Table_is_seat .nil pass0 (pa_cons (pv 4) pa_nil)))) (pw_or1 (pt_cmp (pc_din (hu_of hr) (pv 4) (pv 2)))))) pss_never pss_nil) (pss_one (ps_dput (hu_of hr) (pv 2) (pv 4) (pv 3) (by rfl)))))))), ?_⟩
    have lx := rr.len
    (repeat (first | refine ⟨rfl, ?_⟩ | refine ⟨_, rfl, ?_⟩ | refine ⟨_, _, rfl, rfl, ?_⟩ | refine ⟨_, _, rfl, ?_⟩ | refine ⟨slen rfl, ?_⟩ | refine ⟨⟨by decide, by decide +kernel⟩, ?_⟩ | refine ⟨⟨by decide, by decide, by decide⟩, ?_⟩ | refine ⟨(by show (0 : Int) < _; first | decide | assumption | omega), ?_⟩ | refine ⟨mul_ok (by first | exact .inr (by decide) | exact .inl (by decide)), ?_⟩))
    (intro y ny; generalize hGy : upd _ y _ = H1; have eH1 := exG hGy ny; have hy := atG hGy; clear hGy)
    have q1 := hq.mono eH1
    refine ⟨_, y, _, _, _, true, rfl, hy, .cons (.ty _) (.cons (.ty _) .nil), q1.ty, kit_seq b, _, rfl, ?_⟩
    refine ⟨_, rfl, q, _, rfl, sq_or q1, rfl, _, rfl, itf (by rw [dec_int, lx]; simp; exact ne) ?_⟩
    (intro d nd; generalize hGd : upd _ d _ = H2; have eH2 := exG hGd nd; have hd := atG hGd; clear hGd)
    have e2 : Ex H H2 := ext eH1 eH2
    have nd0 : H d = none := Evl.fresh_back eH1 nd
    refine ⟨_, rfl, (b, q), rfl, ⟨_, (hq.mono e2).sq⟩, ?_⟩
    refine for_it (CE.walk_e (xs := xs)) (fun i σ H3 => ∃ (y3 y4 : Option V) (kvs : List (List Key × V)), σ = [some (.ref a), some (.ref q), some (.ref d), y3, y4] ∧ Ex H H3 ∧ H3 d = some (.dT kvs) ∧ kvs.length = i ∧ ∀ ts : List Int, (valV kvs (kI ts)).isSome = true → ts ∈ tss.take i) ⟨_, _, [], rfl, e2, hd, rfl, fun t h => by simp [valV] at h⟩ (fun i σ H2 _ ⟨_, _, _, _, e, _⟩ => (hq.mono e).sq) ?_ ?_
    · rintro i x σ H3 H4 hi ⟨y3, y4, kvs, rfl, e3, hd3, lk, hv⟩ ⟨Ta, x1, x2, rfl, hT, rfl, hx1, hx2⟩
      cases hx1
      obtain ⟨ts, r, ht, rfl, hr0⟩ := rr.get hx2
      have sk := sks ts (List.mem_of_getElem? ht)
      have lt := sk.len
      have e4 : Ex H (upd H3 Ta (.tup [.int (i : Nat), .ref r])) := ext e3 (exn hT)
      have hd4 := exn (o := .tup [.int (i : Nat), .ref r]) hT _ _ hd3
      refine ⟨Ta, _, rfl, SqT.of upd_same, rfl, _, _, rfl, _, _, rfl, rfl, ?_⟩
      generalize upd H3 Ta (.tup [.int (i : Nat), .ref r]) = H4 at e4 hd4
      obtain ⟨dx, t, g1, g2⟩ := tab.mono e4
      refine ⟨_, rfl, a, dx, _, rfl, g1, rfl, _, rfl, a, _, ns, _, rfl, tab.mono e4, l4, TupA.ints (e4 _ _ hr0) (by omega), fun H5 e5 => ?_⟩
      refine ⟨_, rfl, itf (by rw [isSeat_ok sk]; rfl) ?_⟩
      have hno : valV kvs (kI ts) = none := by
        cases hz : valV kvs (kI ts) with
        | none => rfl
        | some v => exact absurd (hv ts (by rw [hz]; rfl)) (nodup_get nod ht)
      have hd5 := e5 _ _ hd4
      have hr5 : H5 r = some (.tup ((kI ts).map kV)) := by rw [kI_map]; exact e5 _ _ (e4 _ _ hr0)
      refine ⟨_, rfl, _, rfl, d, _, rfl, DGet.t hd5 hr5, _, rfl, itf (by rw [hno]; rfl) ?_⟩
      refine ⟨_, rfl, _, rfl, _, rfl, d, _, rfl, DPut.t hd5 hr5 ?_, ?_⟩
      · rw [lk]
        exact Nat.lt_of_lt_of_le (show i < tss.length by omega) (Nat.le_trans lts (by decide))
      · refine ⟨_, _, putK kvs (kI ts) (.int (i : Nat)), rfl, ?_, upd_same, by rw [put_len hno, lk], fun us hu => ?_⟩
        · intro c o z
          rw [upd_ne (ne_of_none z nd0)]
          exact e5 c o (e4 c o z)
        · rw [valV_put] at hu
          rw [take_more ht, List.mem_append]
          by_cases e : us = ts
          · exact .inr (by rw [e]; exact List.mem_cons_self)
          · rw [if_neg (fun z => e (kI_inj z))] at hu
            exact .inl (hv us hu)
    · rintro σ H2 ⟨y3, y4, kvs, rfl, e3, _⟩
      exact k _ e3
end

-- sorts
open PySem.W PySem.Calls in
theorem collect_tuple {prog : Program} {w : World} {A : Around} {E : Value → Shared → Prop} {s : Shared} {l : Addr} {vs : List Value} {Q : List Value → Shared → Prop} (hl : IsTup s.heap l vs.toArray)
    (h : Q vs { s with heap := (s.heap.push (seqObj "list" #[] 0)).update s.heap.objs.size (Obj.mapSeq (· ++ vs.toArray)) }) (hsz : vs.length ≤ sizeLine) :
    wpAny (model prog w) A (collect (.ref l)) Q E s := by
  obtain ⟨o, ho, hc, n, hd⟩ := id hl
  unfold collect
  refine wpAny_bind (wpAny_runValue (codeAny_builtin entry_proto_collect' ?_))
  show wpAny _ _ (do again (.builtin "list.__iadd__" ⟨[← newList [], .ref l], []⟩)) _ _ s
  refine wpAny_bind (wpAny_newList (wpAny_pure ⟨Code.quiet_builtin _ (by decide +kernel), codeAny_builtin entry_list_iadd' ?_⟩))
  show wpAny _ _ (Builtin.List.listExtendWith (.ref s.heap.objs.size) (.ref l) (.ref s.heap.objs.size)) _ _ { s with heap := s.heap.push (seqObj "list" #[] 0) }
  unfold Builtin.List.listExtendWith
  have ho' : (s.heap.push (seqObj "list" #[] 0)).get? l = some o := Heap.get?_push_of_some _ ho
  refine wpAny_bind (wpAny_typeOf (T := "tuple") ⟨o, ho', hc⟩ ?_)
  have ht : (Value.type "tuple" == Value.type "tuple") = true := by rfl
  rw [if_pos (by rw [ht]; simp)]
  refine wpAny_bind (listItems_at ho' hd ?_)
  refine wpAny_bind (listItems_at (xs := #[]) (n := 0) (Heap.get?_push_size _ rfl) rfl ?_)
  rw [if_neg (by simp)]
  refine wpAny_bind (listUpdate_at (xs := #[]) (n := 0) (Heap.get?_push_size _ rfl) rfl ?_ (Nat.zero_le _) (by show (#[] ++ vs.toArray).size ≤ sizeLine + 1; simp only [Array.size_append, List.size_toArray, List.length_nil]; omega))
  refine wpAny_pure ?_
  show wpAny (model prog w) A (do
      let o ← load s.heap.objs.size
      match o.data with
      | .seq xs _ => pure xs.toList
      | _ => unsupported "internal:collect") Q E { s with heap := (s.heap.push (seqObj "list" #[] 0)).update s.heap.objs.size (Obj.mapSeq (· ++ vs.toArray)) }
  refine wpAny_bind (wpAny_load (get?_update_seq (Heap.get?_push_size _ rfl) _) ?_)
  show wpAny _ _ (pure ((#[] : Array Value) ++ vs.toArray).toList) Q E _
  rw [show ((#[] : Array Value) ++ vs.toArray).toList = vs by simp]
  exact wpAny_pure h
open PySem.W PySem.Calls in
theorem sorted_of_tup {prog : Program} {w : World} {A : Around} {E : Value → Shared → Prop} {s : Shared} {l : Addr} {vs : List Value} {Q : Value → Shared → Prop} (hl : IsTup s.heap l vs.toArray) (hL : vs.length ≤ sizeLine)
    (body : ∀ E' : Value → Shared → Prop, wpAny (model prog w) A.in1.in1 (Builtin.«list.sort» ⟨[.ref (s.heap.objs.size + 1)], []⟩) (fun f s' => f = .done (.ret .none) ∧ Q (.ref (s.heap.objs.size + 1)) s') E' { s with heap := copyHeap s.heap vs }) :
    wpAny (model prog w) A (call (.builtin "sorted") [.ref l]) Q E s := by
  refine call_function_entry_kw kind_sorted plain_sorted entry_sorted (args_sorted1 _) ?_
  unfold Builtin.«sorted»
  refine wpAny_bind (m := checkCount "sorted" 1 1 _) (wpAny_pure ?_)
  refine wpAny_bind (collect_tuple hl ?_ hL)
  refine wpAny_bind (wpAny_newList ?_ hL)
  have hsz : ((s.heap.push (seqObj "list" #[] 0)).update s.heap.objs.size (Obj.mapSeq (· ++ vs.toArray))).objs.size = s.heap.objs.size + 1 := by
    rw [Heap.size_update, size_push']
  show wpAny _ _ _ _ _ { s with heap := copyHeap s.heap vs }
  rw [hsz]
  refine wpAny_bind (wpAny_holding (wpAny_call_entry_kw slot_list_sort ⟨_, copyHeap_at s.heap vs, rfl⟩ entry_list_sort ?body (args_list_sort _)))
  case body =>
    show wpAny (model prog w) A.in1.in1 (Builtin.«list.sort» ⟨[.ref (s.heap.objs.size + 1)], []⟩) _ _ _
    refine wpAny_mono (body _) (fun f s' hf => ?_) fun _ _ e => e
    obtain ⟨rfl, hq⟩ := hf
    exact ⟨_, rfl, wpAny_pure ⟨_, rfl, hq⟩⟩
open PySem.W PySem.Calls in
theorem sorted_data_t {prog : Program} {w : World} {A : Around} {E : Value → Shared → Prop} {s : Shared} {β : Type} {vs : List Value} {bs : List β} {enc : β → PyData} {R : Value → β → Prop} {l : Addr} {Q : Value → Shared → Prop} (hl : IsTup s.heap l vs.toArray) (e : EachIs R vs bs) (er : EachIs (fun v b => ∃ as, Reads s.heap v (enc b) as) vs bs) (hal : AllAlike (bs.map enc)) (hk : Sortable (bs.map enc)) (hL : bs.length ≤ sizeLine)
    (hu : ∀ b, b ∈ bs → A.units + 2 + (enc b).depth < cLine) (h : ∀ out, out.length = bs.length → EachIs R out (bs.mergeSort (dataLe false enc)) → Q (.ref (s.heap.objs.size + 1)) { s with heap := sortedAll s.heap vs (List.toArray out) }) :
    wpAny (model prog w) A (call (.builtin "sorted") [.ref l]) Q E s := by
  have er' : EachIs (fun v b => ∃ as, Reads (sortingHeap (copyHeap s.heap vs) (s.heap.objs.size + 1) vs) v (enc b) as) vs bs := er.mono fun _ _ ⟨as, r⟩ => ⟨as, PyProof.Rows.Reads.keeps (fun _ _ => sorting_copy_old) r⟩
  have hL' : vs.length ≤ sizeLine := by rw [e.length]; exact hL
  exact sorted_of_tup hl hL' fun _ => list_sort_vals (s := { s with heap := copyHeap s.heap vs }) (copyHeap_at s.heap vs) (SortsAt.data (s := { s with heap := sortingHeap (copyHeap s.heap vs) (s.heap.objs.size + 1) vs }) (each_map (R := fun v d => ∃ as, Reads (sortingHeap (copyHeap s.heap vs) (s.heap.objs.size + 1) vs) v d as) enc er') hal hk (bound_map hu)) hL' ⟨rfl, h _ (by rw [sortVals_length false rfl]; exact e.length) (sortVals_data false e er' hal)⟩
/-- the order of tuples of ints -/
def leT (a b : List Int) : Bool := PySem.W.dataLe false iT a b
/-- sorted(q), q a list or tuple of tuples of ints -/
def rSortQ (K : PySem.W.Frag) : List V → Hp → VK → Prop := fun vs H Q => ∃ (q : Bool × Addr) (xs : List V) (tss : List (List Int)), vs = [V.ref q.2] ∧ CZ.SqK K H q xs ∧ RowsR H xs tss ∧ (∀ ts ∈ tss, ts ≠ []) ∧
  ∀ (ys : List V) (p : Addr), RowsR H ys (tss.mergeSort leT) → H p = none → Q (.ref p) (upd H p (.lst ys))
open PySem.W in
theorem each_rows {H : Hp} : ∀ {xs : List V} {tss : List (List Int)} {us : List Value}, RowsR H xs tss → Vals xs us → EachIs (fun (u : Value) (ts : List Int) => ∃ t, u = Value.ref t ∧ H t = some (.tup (ts.map V.int))) us tss
  | _, _, _, .nil, .nil => .nil
  | _, _, _, .cons ⟨r, e, h⟩ t, .cons rv tv => by
    subst e
    cases rv
    exact .cons ⟨r, rfl, h⟩ (each_rows t tv)
open PySem.W in
theorem rows_each {H : Hp} : ∀ {us : List Value} {tss : List (List Int)}, EachIs (fun (u : Value) (ts : List Int) => ∃ t, u = Value.ref t ∧ H t = some (.tup (ts.map V.int))) us tss → ∃ ys, RowsR H ys tss ∧ Vals ys us
  | _, _, .nil => ⟨[], .nil, .nil⟩
  | _, _, .cons ⟨t, e, h⟩ r => by
    subst e
    obtain ⟨ys, h1, h2⟩ := rows_each r
    exact ⟨.ref t :: ys, .cons ⟨t, rfl, h⟩ h1, .cons rfl h2⟩
open PySem.W in
theorem each_dp {X : Cx} {pins : List (Addr × Obj)} {σ : L2.St} {H : Hp} {s : Shared} (I : Inv X pins σ H s) : ∀ {us : List Value} {tss : List (List Int)}, EachIs (fun (u : Value) (ts : List Int) => ∃ t, u = Value.ref t ∧ H t = some (.tup (ts.map V.int))) us tss → EachIs (fun v b => ∃ as, Reads s.heap v (iT b) as) us tss
  | _, _, .nil => .nil
  | _, _, .cons ⟨t, e, h⟩ r => by
    subst e
    exact .cons (Dp.reads I _ (.ref t) _ (dp_ints h) rfl) (each_dp I r)
theorem alike_iT (a b : List Int) : PySem.W.alike (iT a) (iT b) = true := by
  show PySem.W.alike (.tuple (a.map .int)) (.tuple (b.map .int)) = true
  rw [PySem.W.alike]
  exact PySem.W.alike_ints a b
theorem cr_sortQ {X : Cx} (hu : X.A.units + 65 < cLine) : CallR X (.builtin "sorted") (rSortQ X.K) := by
  intro pins s σ H vs us Q I r h
  obtain ⟨⟨b, a⟩, xs, tss, rfl, hs, rr, ne, q⟩ := h
  rw [Vals.ref1 r]
  have hk : PySem.W.Sortable (tss.map iT) := .inl fun d hd => by
    obtain ⟨ts, ht, rfl⟩ := List.mem_map.mp hd
    cases ts with
    | nil => exact absurd rfl (ne _ ht)
    | cons x l => exact ⟨_, _, rfl⟩
  have hU : ∀ ts, ts ∈ tss → X.A.units + 2 + (iT ts).depth < cLine := fun ts _ => by
    have e := PySem.W.depth_ints ts
    have : (iT ts).depth = 1 := by
      show PyData.depth (.tuple (ts.map .int)) = 1
      simp only [PyData.depth, e]
    omega
  have fin : ∀ its : List Value, Vals xs its → xs.length ≤ sizeLine → ∀ out, out.length = tss.length → PySem.W.EachIs (fun (u : Value) (ts : List Int) => ∃ t, u = Value.ref t ∧ H t = some (.tup (ts.map V.int))) out (tss.mergeSort (PySem.W.dataLe false iT)) → EP X pins σ Q (.ref (s.heap.objs.size + 1)) { s with heap := sortedAll s.heap its (List.toArray out) } := by
    intro its rv hz out lo eo
    obtain ⟨ys, h1, h2⟩ := rows_each eo
    obtain ⟨ep, he'⟩ := PyProof.Rows.sortedAll_at s.heap its (List.toArray out)
    have hlen : ys.length ≤ sizeLine := by
      rw [h2.length, lo, ← Paired.length rr]
      exact hz
    exact ⟨.ref _, upd H (s.heap.objs.size + 1) (.lst ys), I.laid (t' := s.toks) (fun _ _ => PyProof.Rows.sortedAll_old) (Nat.le_succ _) ⟨hlen, out, ep, h2, he'⟩, rfl, q ys _ h1 (I.hok.fresh (Nat.le_succ _))⟩
  have hal : PySem.W.AllAlike (tss.map iT) := PySem.W.AllAlike.of alike_iT
  cases b with
  | false =>
    obtain ⟨its, rv, hl, hz⟩ := I.list (show SqL X.K H a xs from hs)
    have e := each_rows rr rv
    exact PySem.W.sorted_data (enc := iT) hl.isList e (each_dp I e) hal hk (by rw [← Paired.length rr]; exact hz) hU (fin its rv hz)
  | true =>
    obtain ⟨its, rv, hl, hz⟩ := I.tuple (show SqT X.K H a xs from hs)
    have e := each_rows rr rv
    exact sorted_data_t (enc := iT) hl e (each_dp I e) hal hk (by rw [← Paired.length rr]; exact hz) hU (fin its rv hz)

theorem ifs_ex {c : TT} {t u : TS} {D : Ends} {σ : L2.St} {H : Hp} (h : ∀ N : L2.St → Hp → Prop, (∀ H2, Ex H H2 → N σ H2) → tIfS c t u { D with nx := N } σ H) (hR : ∀ H2, Ex H H2 → D.nx σ H2) : tIfS c t u D σ H :=
  ifs_cutG (fun σ2 H2 => σ2 = σ ∧ Ex H H2) (by rintro σ2 H2 ⟨rfl, e⟩; exact hR H2 e) (fun N hN => h N fun H2 e => hN σ H2 ⟨rfl, e⟩)
theorem sif_ex {c : TT} {t u r : TS} {D : Ends} {σ : L2.St} {H : Hp} (h : ∀ N : L2.St → Hp → Prop, (∀ H2, Ex H H2 → N σ H2) → tIfS c t u { D with nx := N } σ H) (hR : ∀ H2, Ex H H2 → r D σ H2) : tSeq (tIfS c t u) r D σ H :=
  ifs_ex (D := { D with nx := r D }) h hR

theorem lt_pow {a b c : Nat} (h : a < 2 ^ b) (hbc : b ≤ c) : a < 2 ^ c := Nat.lt_of_lt_of_le h (Nat.pow_le_pow_right (by decide) hbc)
def wsum (ws xs : List Int) : Int := (List.zipWith (fun w x => w * x) ws xs).sum
structure WitOk (ns : List Int) (m : Int) (ws : List Int) (r : Int) : Prop where
  m3 : 3 ≤ m
  odd : m % 2 = 1
  r0 : 0 ≤ r
  r1 : r < m
  len : ws.length = ns.length
  w0 : ∀ x ∈ ws, 0 ≤ x ∧ x < m
  fit : ∀ (i : Nat) (x n : Int), ws[i]? = some x → ns[i]? = some n → x * n % m = 0
theorem wsum_cons (w : Int) (ws : List Int) (x : Int) (xs : List Int) : wsum (w :: ws) (x :: xs) = w * x + wsum ws xs := by
  unfold wsum
  rw [List.zipWith_cons_cons, List.sum_cons]
theorem wsum_shiftL {m f : Int} : ∀ {ws ns ps cs : List Int}, ws.length = ns.length → ps.length = ns.length → cs.length = ns.length → (∀ (i : Nat) (x n : Int), ws[i]? = some x → ns[i]? = some n → x * n % m = 0) → m ∣ wsum ws (shiftL ns ps cs f) - (wsum ws ps + f * wsum ws cs)
  | [], [], [], [], _, _, _, _ => by
    show m ∣ 0 - (0 + f * 0)
    simp
  | x :: ws, n :: ns, p :: ps, c :: cs, h1, h2, h3, hf => by
    have ih := wsum_shiftL (m := m) (f := f) (Nat.succ.inj h1) (Nat.succ.inj h2) (Nat.succ.inj h3) fun i x n hx hn => hf (i + 1) x n (by simpa using hx) (by simpa using hn)
    have f0 := Int.dvd_of_emod_eq_zero (hf 0 x n rfl rfl)
    show m ∣ wsum (x :: ws) ((p + f * c) % n :: shiftL ns ps cs f) - _
    rw [wsum_cons, wsum_cons, wsum_cons]
    have e := Int.mul_ediv_add_emod (p + f * c) n
    have d2 : m ∣ x * n * ((p + f * c) / n) := Int.dvd_mul_of_dvd_left f0
    have d3 := Int.dvd_sub ih d2
    refine (congrArg (m ∣ ·) ?_).mp d3
    grind
theorem odd_pow2 {o x : Int} (h : o % 2 = 1) : ∀ k : Nat, o ∣ 2 ^ k * x → o ∣ x
  | 0, d => by simpa using d
  | k + 1, d => by
    refine odd_pow2 h k ?_
    rw [Int.pow_succ, Int.mul_comm ((2 : Int) ^ k), Int.mul_assoc] at d
    obtain ⟨c, hc⟩ := d
    refine ⟨2 ^ k * x - c * (o / 2), ?_⟩
    have e : o = 2 * (o / 2) + 1 := by omega
    generalize o / 2 = q at *
    subst e
    grind
theorem two_moves {ns ws ps cs : List Int} {m r : Int} (w : WitOk ns m ws r) (l1 : ps.length = ns.length) (l2 : cs.length = ns.length) (h1 : wsum ws (shiftL ns ps cs 1) % m = r) (h2 : wsum ws (shiftL ns ps cs (-1)) % m = r) : wsum ws ps % m = r := by
  have a := wsum_shiftL (f := 1) w.len l1 l2 w.fit
  have b := wsum_shiftL (f := -1) w.len l1 l2 w.fit
  have c := emod_eq_iff.mp (h1.trans h2.symm)
  have rm : r % m = r := Int.emod_eq_of_lt w.r0 w.r1
  rw [← rm] at h2 ⊢
  rw [emod_eq_iff] at h2 ⊢
  have d : m ∣ 2 ^ 1 * (wsum ws ps - r) := by
    have := Int.dvd_sub (Int.dvd_add h2 h2) (Int.dvd_add a b)
    have := Int.dvd_add this c
    refine (congrArg (m ∣ ·) ?_).mp this
    grind
  exact odd_pow2 w.odd 1 d

theorem SeatOk.at : ∀ {ns ps : List Int} {i : Nat} {n p : Int}, SeatOk ns ps → ns[i]? = some n → ps[i]? = some p → 0 ≤ p ∧ p < n
  | [], [], _, _, _, _, h, _ => by simp at h
  | n :: ns, p :: ps, 0, _, _, h, h1, h2 => by
    simp at h1 h2
    subst h1 h2
    exact h.1
  | n :: ns, p :: ps, i + 1, _, _, h, h1, h2 => by
    rw [List.getElem?_cons_succ] at h1 h2
    exact SeatOk.at h.2 h1 h2
abbrev MB : Nat := 2 ^ 270
theorem mb_pos : 0 < MB := Nat.pos_of_neZero _
abbrev Vec := Nat → Int
def vf (v : List Int) : Vec := fun i => v.getD i 0
theorem vf_at {v : List Int} {i : Nat} {x : Int} (h : v[i]? = some x) : vf v i = x := by
  unfold vf
  rw [List.getD_eq_getElem?_getD, h]
  rfl
theorem vf_ge {v : List Int} {i : Nat} (h : v.length ≤ i) : vf v i = 0 := by
  unfold vf
  rw [List.getD_eq_getElem?_getD, List.getElem?_eq_none h]
  rfl
theorem mb80 {n : Int} (h0 : 0 ≤ n) (h : n ≤ 10 ^ 80) : n.natAbs < MB := by
  have : (10 : Int) ^ 80 < 2 ^ 270 := by decide +kernel
  have e : ((2 ^ 270 : Nat) : Int) = (2 : Int) ^ 270 := by simp
  show n.natAbs < 2 ^ 270
  omega
abbrev SzC (ns : List Int) : Prop := ∀ n ∈ ns, n ≤ 10 ^ 80
theorem seat_vf {ns ps : List Int} (sk : SeatOk ns ps) (hB : SzC ns) (j : Nat) : 0 ≤ vf ps j ∧ (vf ps j).natAbs < MB ∧ vf ps j ≤ 10 ^ 80 := by
  by_cases hj : j < ps.length
  · have hn : ns[j]? = some (ns[j]'(by rw [← sk.len]; exact hj)) := List.getElem?_eq_getElem _
    have hp : ps[j]? = some ps[j] := List.getElem?_eq_getElem hj
    obtain ⟨a, b⟩ := sk.at hn hp
    rw [vf_at hp]
    have := hB _ (List.mem_of_getElem? hn)
    exact ⟨a, mb80 a (by omega), by omega⟩
  · rw [vf_ge (by omega)]
    exact ⟨Int.le_refl _, mb_pos, by decide⟩

section
variable {P : Program} {w : World} {K : PySem.W.Frag} {mg : Str → Option Value} {base : Heap}
def sp_weighted : Sp := fun vs H Q _ => ∃ (m : Int) (a b : Addr) (ws ps : List Int), vs = [.int m, .ref a, .ref b] ∧ 0 < m ∧ H a = some (.tup (ws.map V.int)) ∧ H b = some (.tup (ps.map V.int)) ∧ ws.length = ps.length ∧ ps.length ≤ 4 ∧ (∀ w ∈ ws, w.natAbs < 2 ^ 5000) ∧ (∀ p ∈ ps, p.natAbs < 2 ^ 5000) ∧ ∀ H2, Ex H H2 → Q (.int (wsum ws ps % m)) H2
theorem ok_weighted (T : TX K mg) : FnOk P w K mg base CX0 1 T.f_weighted T.fd_weighted ["modulus", "weights", "seat"] sp_weighted := by
  refine T.F_weighted.ok sc_weighted (fun vs H Q E h => ?_) (fun cdv A outer s H vs Q E hr h => ?_)
  · obtain ⟨m, a, b, ws, ps, rfl, _⟩ := h
    rfl
  · obtain ⟨m, a, b, ws, ps, rfl, m0, ha, hb, l, l4, bw, bp, k⟩ := h
    refine ⟨_, (pss_one (ps_ret (pe_op op_mod (pe_callB (cr_sum rfl) (by rfl) T.z_sum (by decide +kernel) (pa_cons (pe_lc (own := [("weight", 3), ("place", 4)]) (g := (gTup K 2 (gCons (gName 3) (gCons (gName 4) gNil)))) rfl sc_weighted.nd (CZ.pi_z2s (fl := [true, true]) rfl (by rfl) T.z_zip (pa_cons (pv 1) (pa_cons (pv 2) pa_nil))) (blkOk_by (N := N_weighted) (sc := defScope s_weighted) (by decide +kernel)) (fun _ _ _ _ _ => (pg_tup rfl (pgs_cons (pg_name (i := 3) sc_weighted.nd rfl (Or.inl rfl)) (pgs_cons (pg_name (i := 4) sc_weighted.nd rfl (Or.inl rfl)) pgs_nil)))) (fun _ _ _ _ _ => pts_nil) (fun _ _ _ _ _ => (pe_op op_mulI (pv 3) (pv 4)))) pa_nil)) (pv 0)))), ?_⟩
    refine ⟨_, rfl, _, rfl, [a, b], rfl, rfl, all2 (sqT ha) (sqT hb), fun D hD => ?_⟩
    refine lc_vals (CZ.walk_rows (xss := [ws.map V.int, ps.map V.int]) (n := ps.length) (lens2 (by rw [List.length_map, l]) (by rw [List.length_map]))) ((List.zipWith (fun w x => w * x) ws ps).map V.int) (by rw [List.length_map, List.length_zipWith, l, Nat.min_self]) (by omega) hD (fun H3 e => .cons (sqT (e _ _ ha)) (.cons (sqT (e _ _ hb)) .nil)) ?_ (gmono_tup (gmono_cons gmono_name (gmono_cons gmono_name gmono_nil))) ?_
    · intro j y H6 H7 R hj e yy kk
      obtain ⟨Tb, p, d, rfl, hTb, rfl, hp, hdd⟩ := yints2 yy
      refine ⟨Tb, _, rfl, SqT.of upd_same, rfl, _, _, rfl, _, _, rfl, rfl, ?_⟩
      refine ⟨rfl, _, rfl, _, rfl, _, _, rfl, rfl, (wide_mul (bw p (List.mem_of_getElem? hp)) (bp d (List.mem_of_getElem? hdd)) (by decide) (by decide) (by decide)).ok, ?_⟩
      refine kk _ _ (exn hTb) ?_
      rw [List.getElem?_map, List.getElem?_zipWith, hp, hdd]
      rfl
    · intro H3 e3 hD3
      exact ⟨D, _, rfl, SqL.of hD3, _, rfl, _, _, rfl, rfl, m0, k _ e3⟩
end

/-- a witness stands at wt -/
def WitAt (H : Hp) (wt : Addr) (m : Int) (ws : List Int) (r : Int) : Prop := ∃ wa, H wt = some (.tup [.int m, .ref wa, .int r]) ∧ H wa = some (.tup (ws.map V.int))
theorem WitAt.mono {H H2 : Hp} {wt : Addr} {m r : Int} {ws : List Int} (e : Ex H H2) (h : WitAt H wt m ws r) : WitAt H2 wt m ws r := by
  obtain ⟨wa, h1, h2⟩ := h
  exact ⟨wa, e _ _ h1, e _ _ h2⟩
section
variable {P : Program} {w : World} {K : PySem.W.Frag} {mg : Str → Option Value} {base : Heap}
def sp_is_witness (C : Addr) : Sp := fun vs H Q _ => ∃ (a wt : Addr) (ns ws : List Int) (m r : Int), vs = [.ref a, .ref wt] ∧ TabAt C H a ns ∧ ns.length ≤ 4 ∧ (∀ n ∈ ns, n.natAbs < 2 ^ 5000) ∧ WitAt H wt m ws r ∧ WitOk ns m ws r ∧ m.natAbs < 2 ^ 5000 ∧ ∀ H2, Ex H H2 → Q (.bl true) H2
theorem ok_is_witness (T : TX K mg) : FnOk P w K mg base CX0 3 T.f_is_witness T.fd_is_witness ["table", "witness"] (sp_is_witness T.C_Table) := by
  refine T.F_is_witness.ok sc_is_witness (fun vs H Q E h => ?_) (fun cdv A outer s H vs Q E hr h => ?_)
  · obtain ⟨a, wt, ns, ws, m, r, rfl, _⟩ := h
    rfl
  · obtain ⟨a, wt, ns, ws, m, r, rfl, tab, n4, bn, ⟨wa, hwt, hwa⟩, ok, bm, k⟩ := h
    refine ⟨_, (pss_cons (ps_if (PW.pt (pw_or (pt_not (pt_val (pe_callB call_isi (by rfl) T.z_isinstance (by decide +kernel) (pa_cons (pv 1) (pa_cons (pe_bltn (v := .ty "tuple") rfl T.z_tuple (by decide +kernel) rfl) pa_nil))))) (pw_or1 (pt_cmpR op_ne (pe_callB call_len_seq (by rfl) T.z_len (by decide +kernel) (pa_cons (pv 1) pa_nil)) pe_int (nomark _))))) (pss_one (ps_ret pe_bl)) pss_nil) (pss_cons (ps_asg (pv 1) (pg_tup rfl (pgs_cons (pg_name (i := 2) sc_is_witness.nd rfl (Or.inr rfl)) (pgs_cons (pg_name (i := 3) sc_is_witness.nd rfl (Or.inl rfl)) (pgs_cons (pg_name (i := 4) sc_is_witness.nd rfl (Or.inl rfl)) pgs_nil))))) (pss_cons (ps_if (PW.pt (pw_or (pt_not (pt_val (pe_call (ok_is_at_least T) hr rfl T.m_is_at_least T.F_is_at_least.kp T.b_is_at_least .nil pass0 (pa_cons (pv 2) (pa_cons pe_int pa_nil))))) (pw_or (pt_cmpR op_eq (pe_op op_mod (pv 2) pe_int) pe_int (nomark _)) (pw_or1 (pt_not (pt_val (pe_call (ok_is_between T) hr rfl T.m_is_between T.F_is_between.kp T.b_is_between .nil pass0 (pa_cons (pv 4) (pa_cons pe_int (pa_cons (pe_op op_sub (pv 2) pe_int) pa_nil)))))))))) (pss_one (ps_ret pe_bl)) pss_nil) (pss_cons (ps_if (PW.pt (pw_or (pt_not (pt_val (pe_callB call_isi (by rfl) T.z_isinstance (by decide +kernel) (pa_cons (pv 3) (pa_cons (pe_bltn (v := .ty "tuple") rfl T.z_tuple (by decide +kernel) rfl) pa_nil))))) (pw_or1 (pt_cmpR op_ne (pe_callB call_len_seq (by rfl) T.z_len (by decide +kernel) (pa_cons (pv 3) pa_nil)) (pe_callB call_len_seq (by rfl) T.z_len (by decide +kernel) (pa_cons (pe_meth0 (pv 0) T.cl_Table T.me_Table_sizes (ok_Table_sizes T) (hr.mono (by decide)) T.b_Table_sizes .nil pass0) pa_nil)) (nomark _))))) (pss_one (ps_ret pe_bl)) pss_nil) (pss_cons (ps_if (pt_not (pt_val (pe_callB (cr_all rfl) (by rfl) T.z_all (by decide +kernel) (pa_cons (pe_lc (own := [("weight", 5)]) (g := (gName 5)) rfl sc_is_witness.nd (pi_tup (pv 3)) (blkOk_by (N := N_is_witness) (sc := defScope s_is_witness) (by decide +kernel)) (fun _ _ _ _ _ => (pg_name (i := 5) sc_is_witness.nd rfl (Or.inl rfl))) (fun _ _ _ _ _ => pts_nil) (fun _ _ _ _ _ => (pe_call (ok_is_between T) hr rfl T.m_is_between T.F_is_between.kp T.b_is_between .nil pass0 (pa_cons (pv 5) (pa_cons pe_int (pa_cons (pe_op op_sub (pv 2) pe_int) pa_nil)))))) pa_nil)))) (pss_one (ps_ret pe_bl)) pss_nil) (pss_one (ps_ret (pe_callB (cr_all rfl) (by rfl) T.z_all (by decide +kernel) (pa_cons (pe_lc (own := [("weight", 5), ("size", 6)]) (g := (gTup K 2 (gCons (gName 5) (gCons (gName 6) gNil)))) rfl sc_is_witness.nd (CZ.pi_z2s (fl := [true, true]) rfl (by rfl) T.z_zip (pa_cons (pv 3) (pa_cons (pe_meth0 (pv 0) T.cl_Table T.me_Table_sizes (ok_Table_sizes T) (hr.mono (by decide)) T.b_Table_sizes .nil pass0) pa_nil))) (blkOk_by (N := N_is_witness) (sc := defScope s_is_witness) (by decide +kernel)) (fun _ _ _ _ _ => (pg_tup rfl (pgs_cons (pg_name (i := 5) sc_is_witness.nd rfl (Or.inl rfl)) (pgs_cons (pg_name (i := 6) sc_is_witness.nd rfl (Or.inl rfl)) pgs_nil)))) (fun _ _ _ _ _ => pts_nil) (fun _ _ _ _ _ => (pe_cmpR op_eq (pe_op op_mod (pe_op op_mulI (pv 5) (pv 6)) (pv 2)) pe_int (nomark _)))) pa_nil))))))))), ?_⟩
    have m3 := ok.m3
    have lw := ok.len
    obtain ⟨dx, t, g1, g2⟩ := id tab
    refine ⟨_, rfl, _, _, _, _, true, rfl, .ty _, .base (.tup hwt), kit_ty (by decide +kernel), _, rfl, ?_⟩
    refine ⟨_, rfl, wt, _, rfl, .inr (SqT.of hwt), rfl, _, rfl, ?_⟩
    refine itf rfl ?_
    refine ⟨_, rfl, wt, _, rfl, SqT.of hwt, rfl, _, _, rfl, _, _, rfl, _, _, rfl, rfl, ?_⟩
    refine ⟨_, rfl, _, some m, 3, rfl, rfl, _, rfl, itf (by show (!decide (3 ≤ m)) = false; rw [decide_eq_true m3]; rfl) ?_⟩
    refine ⟨_, rfl, _, _, rfl, rfl, (by show (0 : Int) < 2; decide), rfl, _, rfl, itf (by rw [dec_int]; have := ok.odd; simp; omega) ?_⟩
    refine ⟨_, rfl, _, rfl, _, _, rfl, rfl, _, some r, 0, m - 1, rfl, rfl, _, rfl, itf ?_ ?_⟩
    · show (!(decide (0 ≤ r) && decide (r ≤ m - 1))) = false
      have h1 := ok.r0
      have h2 := ok.r1
      rw [decide_eq_true h1, decide_eq_true (by omega)]
      rfl
    refine ⟨_, rfl, _, _, _, _, true, rfl, .ty _, .base (.tup hwa), kit_ty (by decide +kernel), _, rfl, ?_⟩
    refine ⟨_, rfl, wa, _, rfl, .inr (SqT.of hwa), _, rfl, a, dx, _, rfl, g1, rfl, a, dx, t, rfl, g1, t, _, rfl, .inr (SqT.of g2), rfl, _, rfl, itf (by rw [List.length_map, List.length_map, lw]; simp) ?_⟩
    refine ⟨_, rfl, wa, rfl, ⟨_, SqT.of hwa⟩, fun D hD => ?_⟩
    have all1 : (ws.map fun x => between (some x) 0 (m - 1)).all id = true := by
      rw [List.all_map, List.all_eq_true]
      intro x hx
      obtain ⟨x0, x1⟩ := ok.w0 x hx
      show (decide (0 ≤ x) && decide (x ≤ m - 1)) = true
      rw [decide_eq_true x0, decide_eq_true (by omega)]
      rfl
    refine lc_vals (walk_tup (xs := ws.map V.int)) ((ws.map fun x => between (some x) 0 (m - 1)).map V.bl) (by simp) (by rw [List.length_map]; omega) hD (fun H3 e => SqT.of (e _ _ hwa)) ?_ gmono_name ?_
    · rintro j x _ H1 R hj e1 ⟨rfl, hx⟩ kk
      obtain ⟨z, hz, rfl⟩ := map_get hx
      refine ⟨rfl, _, rfl, _, rfl, _, _, rfl, rfl, _, some z, 0, m - 1, rfl, rfl, kk _ _ exr ?_⟩
      rw [List.getElem?_map, List.getElem?_map, hz]
      rfl
    intro H1 e1 hD1
    refine ⟨D, _, rfl, SqL.of hD1, _, rfl, itf (by rw [all1]; rfl) ?_⟩
    obtain ⟨dx2, t2, g3, g4⟩ := tab.mono e1
    refine ⟨_, rfl, _, rfl, a, dx2, _, rfl, g3, rfl, a, dx2, t2, rfl, g3, [wa, t2], rfl, rfl, all2 (sqT (e1 _ _ hwa)) (sqT g4), fun D2 hD2 => ?_⟩
    refine lc_vals (CZ.walk_rows (xss := [ws.map V.int, ns.map V.int]) (n := ns.length) (lens2 (by rw [List.length_map, lw]) (by rw [List.length_map]))) ((List.replicate ns.length true).map V.bl) (by simp) (by omega) hD2 (fun H3 e => .cons (sqT (e _ _ (e1 _ _ hwa))) (.cons (sqT (e _ _ g4)) .nil)) ?_ (gmono_tup (gmono_cons gmono_name (gmono_cons gmono_name gmono_nil))) ?_
    · intro j y H2 H3 R hj e yy kk
      obtain ⟨Tb, x, n, rfl, hTb, rfl, hx, hn⟩ := yints2 yy
      obtain ⟨x0, x1⟩ := ok.w0 x (List.mem_of_getElem? hx)
      have xb : x.natAbs < 2 ^ 5000 := Nat.lt_of_le_of_lt (by omega) bm
      refine ⟨Tb, _, rfl, SqT.of upd_same, rfl, _, _, rfl, _, _, rfl, rfl, ?_⟩
      refine ⟨rfl, _, rfl, _, rfl, _, _, rfl, rfl, (wide_mul xb (bn n (List.mem_of_getElem? hn)) (by decide) (by decide) (by decide)).ok, _, rfl, _, _, rfl, rfl, (by show (0 : Int) < m; omega), rfl, kk _ _ (exn hTb) ?_⟩
      rw [List.getElem?_map, List.getElem?_replicate, if_pos hj]
      have fz := ok.fit j x n hx hn
      show some (V.bl true) = some (V.bl (decide (V.int (x * n % m) = V.int 0)))
      rw [fz]
      rfl
    · intro H2 e2 hD3
      refine ⟨D2, _, rfl, SqL.of hD3, ?_⟩
      have : (List.replicate ns.length true).all id = true := by simp
      rw [this]
      exact k _ (ext e1 e2)
end

theorem seat_small : ∀ {ns ps : List Int} {N : Nat}, SeatOk ns ps → (∀ n ∈ ns, n.natAbs < N) → ∀ p ∈ ps, p.natAbs < N
  | [], [], _, _, _, p, hp => by cases hp
  | n :: ns, x :: ps, N, h, hn, p, hp => by
    obtain ⟨⟨h0, h1⟩, h2⟩ : (0 ≤ x ∧ x < n) ∧ SeatOk ns ps := h
    rcases List.mem_cons.mp hp with rfl | hp
    · exact Nat.lt_of_le_of_lt (by omega) (hn n List.mem_cons_self)
    · exact seat_small h2 (fun x hx => hn x (List.mem_cons_of_mem _ hx)) p hp
/-- the word by which a seat with this sum ahead is answered -/
def awayW (b : Bool) : Str := if b = true then "backward" else "forward"
section
variable {P : Program} {w : World} {K : PySem.W.Frag} {mg : Str → Option Value} {base : Heap}
def sp_has_residue : Sp := fun vs H Q _ => ∃ (wt s : Addr) (ws ps : List Int) (m r : Int), vs = [.ref wt, .ref s] ∧ WitAt H wt m ws r ∧ 0 < m ∧ H s = some (.tup (ps.map V.int)) ∧ ws.length = ps.length ∧ ps.length ≤ 4 ∧ (∀ w ∈ ws, w.natAbs < 2 ^ 5000) ∧ (∀ p ∈ ps, p.natAbs < 2 ^ 5000) ∧ ∀ H2, Ex H H2 → Q (.bl (decide (wsum ws ps % m = r))) H2
theorem ok_has_residue (T : TX K mg) : FnOk P w K mg base CX0 2 T.f_has_residue T.fd_has_residue ["witness", "seat"] sp_has_residue := by
  refine T.F_has_residue.ok sc_has_residue (fun vs H Q E h => ?_) (fun cdv A outer s H vs Q E hr h => ?_)
  · obtain ⟨wt, s, ws, ps, m, r, rfl, _⟩ := h
    rfl
  · obtain ⟨wt, s, ws, ps, m, r, rfl, ⟨wa, hwt, hwa⟩, m0, hs, l, l4, bw, bp, k⟩ := h
    refine ⟨_, (pss_cons (ps_asg (pv 0) (pg_tup rfl (pgs_cons (pg_name (i := 2) sc_has_residue.nd rfl (Or.inl rfl)) (pgs_cons (pg_name (i := 3) sc_has_residue.nd rfl (Or.inl rfl)) (pgs_cons (pg_name (i := 4) sc_has_residue.nd rfl (Or.inl rfl)) pgs_nil))))) (pss_one (ps_ret (pe_cmpR op_eq (pe_call (ok_weighted T) hr rfl T.m_weighted T.F_weighted.kp T.b_weighted .nil pass0 (pa_cons (pv 2) (pa_cons (pv 3) (pa_cons (pv 1) pa_nil)))) (pv 4) (nomark _))))), ?_⟩
    refine ⟨_, rfl, wt, _, rfl, SqT.of hwt, rfl, _, _, rfl, _, _, rfl, _, _, rfl, rfl, ?_⟩
    refine ⟨_, rfl, _, rfl, _, rfl, m, wa, s, ws, ps, rfl, m0, hwa, hs, l, l4, bw, bp, fun H2 e2 => ?_⟩
    refine ⟨_, rfl, rfl, ?_⟩
    rw [dec_int]
    exact k H2 e2
def sp_direction_off (C : Addr) : Sp := fun vs H Q _ => ∃ (a wt s c : Addr) (ns ws ps cs : List Int) (m r : Int), vs = [.ref a, .ref wt, .ref s, .ref c] ∧ TabAt C H a ns ∧ SzOk ns ∧ (∀ n ∈ ns, n.natAbs < 2 ^ 5000) ∧ WitAt H wt m ws r ∧ WitOk ns m ws r ∧ m.natAbs < 2 ^ 5000 ∧ H s = some (.tup (ps.map V.int)) ∧ SeatOk ns ps ∧ H c = some (.tup (cs.map V.int)) ∧ cs.length = ns.length ∧
  ∀ H2, Ex H H2 → Q (.str (awayW (decide (wsum ws (shiftL ns ps cs 1) % m = r)))) H2
theorem ok_direction_off (T : TX K mg) : FnOk P w K mg base CX0 6 T.f_direction_off T.fd_direction_off ["table", "witness", "seat", "call"] (sp_direction_off T.C_Table) := by
  refine T.F_direction_off.ok sc_direction_off (fun vs H Q E h => ?_) (fun cdv A outer s H vs Q E hr h => ?_)
  · obtain ⟨a, wt, s, c, ns, ws, ps, cs, m, r, rfl, _⟩ := h
    rfl
  · obtain ⟨a, wt, s, c, ns, ws, ps, cs, m, r, rfl, tab, ok, bn, hw, wok, bm, hs, sk, hc, lc, k⟩ := h
    refine ⟨_, (pss_one (ps_ret (pe_ifExp (pt_val (pe_call (ok_has_residue T) (hr.mono (by decide)) rfl T.m_has_residue T.F_has_residue.kp T.b_has_residue .nil pass0 (pa_cons (pv 1) (pa_cons (pe_ix ix_tup (pe_meth (pv 0) T.cl_Table T.me_Table_moves (ok_Table_moves T) hr T.b_Table_moves .nil pass0 (pa_cons (pv 2) (pa_cons (pv 3) pa_nil))) pe_int (fun _ _ => rfl)) pa_nil)))) pe_str pe_str))), ?_⟩
    obtain ⟨dx, t, g1, g2⟩ := id tab
    have m3 := wok.m3
    have sk2 : SeatOk ns (shiftL ns ps cs 1) := shift_seat ok.one sk.len lc
    refine ⟨_, rfl, _, rfl, a, dx, _, rfl, g1, rfl, _, rfl, _, rfl, a, s, c, ns, ps, cs, rfl, tab, ok, hs, hc, sk, lc, fun H1 q f b e1 nq nf nb hq hf hb => ?_⟩
    refine ⟨q, _, _, _, rfl, rfl, SqT.of hq, rfl, wt, f, ws, _, m, r, rfl, hw.mono e1, by omega, hf, by rw [wok.len, sk2.len], by rw [sk2.len]; exact ok.le, fun x hx => ?_, seat_small sk2 bn, fun H2 e2 => ?_⟩
    · obtain ⟨x0, x1⟩ := wok.w0 x hx
      exact Nat.lt_of_le_of_lt (by omega) bm
    · have kk := k H2 (ext e1 e2)
      refine ⟨_, rfl, ?_⟩
      cases hd : decide (wsum ws (shiftL ns ps cs 1) % m = r) with
      | true => rw [hd] at kk; exact kk
      | false => rw [hd] at kk; exact kk
end

open CD
/-- all seats, in ascending order -/
def crossS (hss : List (List Int)) (n : Int) : List (List Int) := hss.flatMap fun hs => (List.range n.toNat).map fun (i : Nat) => hs ++ [(i : Int)]
def allS (ns : List Int) : List (List Int) := ns.foldl crossS [[]]
theorem allS_snoc (ns : List Int) (n : Int) : allS (ns ++ [n]) = crossS (allS ns) n := by
  unfold allS
  rw [List.foldl_append]
  rfl
theorem crossS_snoc (hss : List (List Int)) (hs : List Int) (n : Int) : crossS (hss ++ [hs]) n = crossS hss n ++ (List.range n.toNat).map fun (i : Nat) => hs ++ [(i : Int)] := by
  unfold crossS
  rw [List.flatMap_append]
  simp
theorem crossS_len (n : Int) : ∀ hss : List (List Int), (crossS hss n).length = hss.length * n.toNat
  | [] => by simp [crossS]
  | h :: hss => by
    have ih := crossS_len n hss
    unfold crossS at ih ⊢
    rw [List.flatMap_cons, List.length_append, ih, List.length_map, List.length_range, List.length_cons, Nat.succ_mul, Nat.add_comm]
def prodL (ns : List Int) : Int := ns.foldl (fun p n => p * n) 1
theorem prodS_snoc (ns : List Int) (n : Int) : prodL (ns ++ [n]) = prodL ns * n := by
  unfold prodL
  rw [List.foldl_append]
  rfl
theorem fold_mul (ns : List Int) : ∀ p : Int, ns.foldl (fun p n => p * n) p = p * ns.foldl (fun p n => p * n) 1 := by
  induction ns with
  | nil => intro p; simp
  | cons n ns ih =>
    intro p
    rw [List.foldl_cons, List.foldl_cons, ih (p * n), ih (1 * n), Int.one_mul, Int.mul_assoc]
theorem prodL_cons (n : Int) (ns : List Int) : prodL (n :: ns) = n * prodL ns := by
  unfold prodL
  rw [List.foldl_cons, fold_mul, Int.one_mul]
theorem prodL_pos : ∀ {ns : List Int}, (∀ n ∈ ns, 1 ≤ n) → 1 ≤ prodL ns
  | [], _ => by decide
  | n :: ns, h => by
    rw [prodL_cons]
    exact Int.mul_pos (by have := h n List.mem_cons_self; omega) (by have := prodL_pos (fun m hm => h m (List.mem_cons_of_mem _ hm)); omega)
theorem prodL_take : ∀ {ns : List Int} (i : Nat), (∀ n ∈ ns, 1 ≤ n) → prodL (ns.take i) ≤ prodL ns
  | [], _, _ => by simp
  | n :: ns, 0, h => by
    rw [List.take_zero]
    exact prodL_pos h
  | n :: ns, i + 1, h => by
    rw [List.take_succ_cons, prodL_cons, prodL_cons]
    exact Int.mul_le_mul_of_nonneg_left (prodL_take i fun m hm => h m (List.mem_cons_of_mem _ hm)) (by have := h n List.mem_cons_self; omega)
theorem foldS_len : ∀ (ns : List Int) (hss : List (List Int)), (∀ n ∈ ns, 1 ≤ n) → ((ns.foldl crossS hss).length : Int) = hss.length * prodL ns
  | [], hss, _ => by simp [prodL]
  | n :: ns, hss, h => by
    have n1 := h n List.mem_cons_self
    rw [List.foldl_cons, foldS_len ns _ fun m hm => h m (List.mem_cons_of_mem _ hm), crossS_len, prodL_cons, Int.natCast_mul, Int.toNat_of_nonneg (by omega), Int.mul_assoc]
theorem allS_len {ns : List Int} (h : ∀ n ∈ ns, 1 ≤ n) : ((allS ns).length : Int) = prodL ns := by
  unfold allS
  rw [foldS_len ns _ h]
  simp
theorem mem_foldS : ∀ (ns : List Int) (hss : List (List Int)) (p : List Int), p ∈ ns.foldl crossS hss ↔ ∃ h ∈ hss, ∃ q, SeatOk ns q ∧ p = h ++ q
  | [], hss, p => by
    constructor
    · intro h
      exact ⟨p, h, [], True.intro, by simp⟩
    · rintro ⟨h, hh, q, sk, rfl⟩
      cases q with
      | nil => rw [List.append_nil]; exact hh
      | cons x q => exact sk.elim
  | n :: ns, hss, p => by
    rw [List.foldl_cons, mem_foldS ns]
    constructor
    · rintro ⟨h, hh, q, sk, rfl⟩
      obtain ⟨g, hg, hh⟩ := List.mem_flatMap.mp hh
      obtain ⟨i, hi, rfl⟩ := List.mem_map.mp hh
      have := List.mem_range.mp hi
      exact ⟨g, hg, (i : Int) :: q, ⟨⟨by omega, by omega⟩, sk⟩, by simp⟩
    · rintro ⟨h, hh, q, sk, rfl⟩
      cases q with
      | nil => exact sk.elim
      | cons x q =>
        obtain ⟨⟨x0, x1⟩, sk⟩ : (0 ≤ x ∧ x < n) ∧ SeatOk ns q := sk
        refine ⟨h ++ [x], List.mem_flatMap.mpr ⟨h, hh, List.mem_map.mpr ⟨x.toNat, List.mem_range.mpr (by omega), by rw [Int.toNat_of_nonneg x0]⟩⟩, q, sk, by simp⟩
theorem mem_allS {ns p : List Int} : p ∈ allS ns ↔ SeatOk ns p := by
  unfold allS
  rw [mem_foldS]
  constructor
  · rintro ⟨h, hh, q, sk, rfl⟩
    rw [List.mem_singleton.mp hh]
    exact sk
  · intro sk
    exact ⟨[], List.mem_singleton.mpr rfl, p, sk, rfl⟩
theorem rows_allS {ns : List Int} : ∀ hs ∈ allS ns, hs.length = ns.length := fun hs h => (mem_allS.mp h).len
/-- the seat as far behind p as o is ahead -/
def mirL : List Int → List Int → List Int → List Int
  | n :: ns, p :: ps, o :: os => ((2 * p - o) % n) :: mirL ns ps os
  | _, _, _ => []
theorem mirL_len : ∀ {ns ps os : List Int}, ps.length = ns.length → os.length = ns.length → (mirL ns ps os).length = ns.length
  | [], _, _, _, _ => by cases ‹List Int› <;> cases ‹List Int› <;> rfl
  | n :: ns, p :: ps, o :: os, h1, h2 => by
    simp only [mirL, List.length_cons] at *
    rw [mirL_len (by omega) (by omega)]
theorem mirL_get : ∀ {ns ps os : List Int} {i : Nat} {n p o : Int}, ns[i]? = some n → ps[i]? = some p → os[i]? = some o → (mirL ns ps os)[i]? = some ((2 * p - o) % n)
  | n :: ns, p :: ps, o :: os, 0, _, _, _, h1, h2, h3 => by
    simp at h1 h2 h3
    subst h1 h2 h3
    rfl
  | n :: ns, p :: ps, o :: os, i + 1, _, _, _, h1, h2, h3 => by
    rw [List.getElem?_cons_succ] at h1 h2 h3
    show (mirL ns ps os)[i]? = _
    exact mirL_get h1 h2 h3
  | [], _, _, _, _, _, _, h1, _, _ => by simp at h1
  | _ :: _, [], _, _, _, _, _, _, h1, _ => by simp at h1
  | _ :: _, _ :: _, [], _, _, _, _, _, _, h1 => by simp at h1
theorem mirL_seat : ∀ {ns ps os : List Int}, (∀ n ∈ ns, 1 ≤ n) → ps.length = ns.length → os.length = ns.length → SeatOk ns (mirL ns ps os)
  | [], _, _, _, _, _ => by cases ‹List Int› <;> cases ‹List Int› <;> exact True.intro
  | n :: ns, p :: ps, o :: os, h, h1, h2 => by
    have n1 := h n List.mem_cons_self
    exact ⟨⟨Int.emod_nonneg _ (by omega), Int.emod_lt_of_pos _ (by omega)⟩, mirL_seat (fun m hm => h m (List.mem_cons_of_mem _ hm)) (by simpa using h1) (by simpa using h2)⟩
/-- the call that leads from p to o -/
def toL : List Int → List Int → List Int → List Int
  | n :: ns, p :: ps, o :: os => ((o - p) % n) :: toL ns ps os
  | _, _, _ => []
theorem toL_len : ∀ {ns ps os : List Int}, ps.length = ns.length → os.length = ns.length → (toL ns ps os).length = ns.length
  | [], _, _, _, _ => by cases ‹List Int› <;> cases ‹List Int› <;> rfl
  | n :: ns, p :: ps, o :: os, h1, h2 => by
    simp only [toL, List.length_cons] at *
    rw [toL_len (by omega) (by omega)]
theorem toL_get : ∀ {ns ps os : List Int} {i : Nat} {n p o : Int}, ns[i]? = some n → ps[i]? = some p → os[i]? = some o → (toL ns ps os)[i]? = some ((o - p) % n)
  | n :: ns, p :: ps, o :: os, 0, _, _, _, h1, h2, h3 => by
    simp at h1 h2 h3
    subst h1 h2 h3
    rfl
  | n :: ns, p :: ps, o :: os, i + 1, _, _, _, h1, h2, h3 => by
    rw [List.getElem?_cons_succ] at h1 h2 h3
    show (toL ns ps os)[i]? = _
    exact toL_get h1 h2 h3
  | [], _, _, _, _, _, _, h1, _, _ => by simp at h1
  | _ :: _, [], _, _, _, _, _, _, h1, _ => by simp at h1
  | _ :: _, _ :: _, [], _, _, _, _, _, _, h1 => by simp at h1
/-- the number of a seat in a list of numbers -/
def dep (fs : List (List Int × Nat)) (p : List Int) : Option Nat := (fs.find? fun q => decide (q.1 = p)).map (·.2)
abbrev keysL (fs : List (List Int × Nat)) : List (List Int) := fs.map (·.1)
theorem dep_cons (f : List Int × Nat) (fs : List (List Int × Nat)) (p : List Int) : dep (f :: fs) p = if f.1 = p then some f.2 else dep fs p := by
  unfold dep
  rw [List.find?_cons]
  by_cases c : f.1 = p
  · rw [decide_eq_true c, if_pos c]
    rfl
  · rw [decide_eq_false c, if_neg c]
theorem dep_isSome {fs : List (List Int × Nat)} {p : List Int} : (dep fs p).isSome = decide (p ∈ keysL fs) := by
  induction fs with
  | nil => simp [dep]
  | cons f fs ih =>
    rw [dep_cons]
    by_cases c : f.1 = p
    · rw [if_pos c]
      simp [c]
    · rw [if_neg c, ih]
      have : ¬ p = f.1 := fun z => c z.symm
      simp [this]
/-- the seats that join next -/
def newL (ns : List Int) (fs : List (List Int × Nat)) (miss newest : List (List Int)) : List (List Int) := miss.filter fun s => newest.any fun o => decide (mirL ns s o ∈ keysL fs)
abbrev atD (d : Nat) (ps : List (List Int)) : List (List Int × Nat) := ps.map fun p => (p, d)
def missL (fs : List (List Int × Nat)) (miss : List (List Int)) : List (List Int) := miss.filter fun s => decide (s ∉ keysL fs)
def roundsL (ns : List Int) : Nat → List (List Int × Nat) → List (List Int) → List (List Int) → Nat → List (List Int × Nat)
  | 0, fs, _, _, _ => fs
  | f + 1, fs, miss, newest, d => if newest = [] then fs else
    roundsL ns f (fs ++ atD (d + 1) (newL ns fs miss newest)) (missL (fs ++ atD (d + 1) (newL ns fs miss newest)) miss) (newL ns fs miss newest) (d + 1)
def countsL (ns : List Int) (tss : List (List Int)) : List (List Int × Nat) := roundsL ns ((allS ns).length + 2) (atD 0 tss) (missL (atD 0 tss) (allS ns)) tss 0
theorem crossS_nodup {hss : List (List Int)} (n : Int) (h : hss.Nodup) : (crossS hss n).Nodup := by
  unfold crossS
  unfold List.Nodup at h ⊢
  rw [List.pairwise_flatMap]
  constructor
  · intro hs _
    rw [List.pairwise_map]
    refine List.Pairwise.imp (fun {a b} z e => z ?_) List.nodup_range
    have := (List.append_inj' e rfl).2
    exact Int.ofNat.inj (List.cons.inj this).1
  · refine h.imp fun {a b} z x hx y hy e => z ?_
    obtain ⟨i, _, rfl⟩ := List.mem_map.mp hx
    obtain ⟨j, _, rfl⟩ := List.mem_map.mp hy
    exact (List.append_inj' e rfl).1
theorem allS_nodup (ns : List Int) : (allS ns).Nodup := by
  unfold allS
  have : ∀ (ns : List Int) (hss : List (List Int)), hss.Nodup → (ns.foldl crossS hss).Nodup := fun ns => by
    induction ns with
    | nil => exact fun _ h => h
    | cons n ns ih => exact fun hss h => ih _ (crossS_nodup n h)
  exact this ns _ (by simp)
theorem filter_two {α : Type} {c d : α → Bool} : ∀ {l : List α}, (∀ x ∈ l, c x = true → d x = false) → (l.filter c).length + (l.filter d).length ≤ l.length
  | [], _ => by simp
  | x :: l, h => by
    have ih := filter_two (l := l) fun y hy => h y (List.mem_cons_of_mem _ hy)
    rw [List.filter_cons, List.filter_cons]
    cases hc : c x
    · cases d x <;> simp <;> omega
    · rw [h x List.mem_cons_self hc]
      simp
      omega
theorem newL_sub {ns : List Int} {fs : List (List Int × Nat)} {miss newest : List (List Int)} {p : List Int} (h : p ∈ newL ns fs miss newest) : p ∈ miss := (List.mem_filter.mp h).1
theorem keys_app (fs gs : List (List Int × Nat)) : keysL (fs ++ gs) = keysL fs ++ keysL gs := List.map_append
theorem mem_missL {fs : List (List Int × Nat)} {miss : List (List Int)} {p : List Int} : p ∈ missL fs miss ↔ p ∈ miss ∧ p ∉ keysL fs := by
  unfold missL
  rw [List.mem_filter, decide_eq_true_iff]

/-- a dict of numbers by seats -/
abbrev entK (p : List Int) : List L2.Key := p.map Sum.inl
abbrev entV (q : List Int × Nat) : List L2.Key × V := (entK q.1, V.int (q.2 : Int))
theorem entK_kV (p : List Int) : (entK p).map kV = p.map V.int := by rw [List.map_map]; rfl
theorem entK_inj {p q : List Int} (h : entK p = entK q) : p = q := by
  induction p generalizing q with
  | nil =>
    cases q with
    | nil => rfl
    | cons => cases h
  | cons a p ih =>
    cases q with
    | nil => cases h
    | cons b q =>
      obtain ⟨h1, h2⟩ := List.cons.inj h
      rw [Sum.inl.inj h1, ih h2]
def CntAt (H : Hp) (d : Addr) (fs : List (List Int × Nat)) : Prop := H d = some (.dT (fs.map entV))
theorem CntAt.mono {H H2 : Hp} {d : Addr} {fs : List (List Int × Nat)} (e : Ex H H2) (h : CntAt H d fs) : CntAt H2 d fs := e _ _ h
theorem val_ent (p : List Int) : ∀ fs : List (List Int × Nat), valV (fs.map entV) (entK p) = (dep fs p).map fun d : Nat => V.int (d : Int)
  | [] => rfl
  | f :: fs => by
    rw [List.map_cons]
    by_cases c : f.1 = p
    · rw [valV_pos (show entK f.1 = entK p by rw [c])]
      unfold dep
      rw [List.find?_cons, decide_eq_true c]
      rfl
    · rw [valV_neg (fun z => c (entK_inj z)), val_ent p fs]
      unfold dep
      rw [List.find?_cons, decide_eq_false c]
theorem cnt_get {H : Hp} {d r : Addr} {fs : List (List Int × Nat)} {p : List Int} (h : CntAt H d fs) (hr : H r = some (.tup (p.map V.int))) : DGet H d (.ref r) ((dep fs p).map fun d : Nat => V.int (d : Int)) := by
  rw [← val_ent]
  exact DGet.t h (by rw [entK_kV]; exact hr)
theorem tup_dict {q D : Addr} {H : Hp} {kvs : List (List L2.Key × V)} {ys : List V} {o : HO} (hD : H D = some (.dT kvs)) (h : H q = some (.tup ys)) : upd H D o q = some (.tup ys) := by
  rw [upd_ne (ne_of h hD (by intro z; cases z))]
  exact h
section
variable {P : Program} {w : World} {K : PySem.W.Frag} {mg : Str → Option Value} {base : Heap}
def sp_all_seats (C : Addr) : Sp := fun vs H Q _ => ∃ (a : Addr) (ns : List Int), vs = [.ref a] ∧ TabAt C H a ns ∧ SzOk ns ∧ prodL ns ≤ 300 ∧ ∀ q H2, Ex H H2 → H q = none → RowsAt H2 q (allS ns) → Q (.ref q) H2
theorem ok_all_seats (T : TX K mg) : FnOk P w K mg base CX0 2 T.f_all_seats T.fd_all_seats ["table"] (sp_all_seats T.C_Table) := by
  refine T.F_all_seats.ok sc_all_seats (fun vs H Q E h => ?_) (fun cdv A outer s H vs Q E hr h => ?_)
  · obtain ⟨a, ns, rfl, _⟩ := h
    rfl
  · obtain ⟨a, ns, rfl, ⟨dx, t, h1, h2⟩, ok, pr, k⟩ := h
    have l4 := ok.le
    refine ⟨_, (pss_cons (ps_set (i := 1) sc_all_seats.nd rfl (Or.inl rfl) (pe_lst (pa_cons (pe_tup pa_nil) pa_nil))) (pss_cons (ps_for PassesOwn.never rfl (pi_tup (pe_meth0 (pv 0) T.cl_Table T.me_Table_sizes (ok_Table_sizes T) hr T.b_Table_sizes .nil pass0)) (pg_name (i := 2) sc_all_seats.nd rfl (Or.inr rfl)) (pss_one (ps_setLc2 (own := [("start", 3), ("place", 4)]) (g := (gName 3)) (g1 := (gName 4)) (vs1 := [4]) (i := 1) rfl sc_all_seats.nd rfl rfl (sw_true rfl rfl rfl (by decide +kernel)) (pi_list (pv 1)) (blkOk_by (N := N_all_seats) (sc := defScope s_all_seats) (by decide +kernel)) (by decide) (fun _ _ _ _ _ => (pg_name (i := 3) sc_all_seats.nd rfl (Or.inl rfl))) (fun _ _ _ _ _ => pts_nil) (fun _ _ _ _ _ => (pi_range1 rfl T.z_range (pa_cons (pv 2) pa_nil))) (fun _ _ _ _ _ => (pg_name (i := 4) sc_all_seats.nd rfl (Or.inl rfl))) (fun _ _ _ _ _ => pts_nil) (fun _ _ _ _ _ => (pe_op (r := rCatA K) op_catA (pv 3) (pe_tup (pa_cons (pv 4) pa_nil))))))) (pss_one (ps_ret (pv 1))))), ?_⟩
    refine ⟨by show 0 ≤ sizeLine; decide, fun u hu => ⟨by show 1 ≤ sizeLine; decide, fun f hf => ?_⟩⟩
    have e2 : Ex H (upd (upd H u (.tup [])) f (.lst [.ref u])) := ext (exn hu) (exn hf)
    have f0 : H f = none := Evl.fresh_back (exn hu) hf
    refine ⟨_, rfl, a, dx, _, rfl, e2 _ _ h1, rfl, a, dx, t, rfl, e2 _ _ h1, t, rfl, ⟨_, SqT.of (e2 _ _ h2)⟩, ?_⟩
    refine for_it (walk_tup (xs := ns.map V.int)) (fun i σ H2 => ∃ (f : Addr) (y1 y2 y3 : Option V), σ = [some (.ref a), some (.ref f), y1, y2, y3] ∧ Ex H H2 ∧ H f = none ∧ RowsAt H2 f (allS (ns.take i))) ⟨_, _, _, _, rfl, e2, f0, _, upd_same, .cons ⟨u, rfl, by rw [upd_ne (ne_of_none upd_same hf)]; exact upd_same⟩ .nil⟩ (fun i σ H2 _ ⟨_, _, _, _, _, e, _⟩ => SqT.of (e _ _ h2)) ?_ ?_
    · rintro i x σ _ H4 hi ⟨f, y1, y2, y3, rfl, e4, f0, ra⟩ ⟨rfl, hx⟩
      obtain ⟨n, hn, rfl⟩ := map_get hx
      have n1 := ok.one n (List.mem_of_getElem? hn)
      have ezs := take_more hn
      have o1 : ∀ m ∈ ns.take i, 1 ≤ m := fun m hm => ok.one m (List.mem_of_mem_take hm)
      have len : ((allS (ns.take i)).length : Int) ≤ 300 := by
        rw [allS_len o1]
        exact Int.le_trans (prodL_take i ok.one) pr
      have nb : n ≤ 300 := by
        have a1 : prodL (ns.take (i + 1)) ≤ prodL ns := prodL_take (i + 1) ok.one
        rw [ezs, prodS_snoc] at a1
        have a2 := prodL_pos o1
        have a3 : 1 * n ≤ prodL (ns.take i) * n := Int.mul_le_mul_of_nonneg_right a2 (by omega)
        omega
      have rows : ∀ hs ∈ allS (ns.take i), hs.length ≤ 4 := fun hs hh => by
        rw [rows_allS hs hh, List.length_take]
        omega
      obtain ⟨xs, ra5, rr⟩ := ra
      generalize hh : allS (ns.take i) = hss at rr len rows
      dsimp only [gName]
      refine ⟨_, rfl, f, rfl, ⟨_, SqL.of ra5⟩, fun D hD => ?_⟩
      refine lc2_it (walk_list (xs := xs)) (fun j H => Ex H4 H ∧ RowsAt H D (crossS (hss.take j) n)) ⟨exn hD, _, upd_same, .nil⟩ (fun j H _ q => SqL.of (q.1 _ _ ra5)) ?_ ?_
      · rintro j x _ H5 hj ⟨e5, rb⟩ ⟨rfl, hx⟩
        obtain ⟨hs, r, hhs, rfl, hr4⟩ := rr.get hx
        refine ⟨rfl, ?_⟩
        refine ⟨_, rfl, n, rfl, by omega, by omega, ?_⟩
        refine in_it walk_range (fun l H => Ex H4 H ∧ RowsAt H D (crossS (hss.take j) n ++ (List.range l).map fun (i : Nat) => hs ++ [(i : Int)])) ⟨e5, ?_⟩ (fun l H _ q => True.intro) ?_ ?_
        · rw [List.range_zero, List.map_nil, List.append_nil]
          exact rb
        · rintro l x _ H7 hl ⟨e7, rc⟩ ⟨rfl, hx⟩
          obtain rfl : x = .int (l : Int) := hx.trans (congrArg V.int (Int.zero_add _))
          refine ⟨rfl, ?_⟩
          refine ⟨_, rfl, _, rfl, by show 1 ≤ sizeLine; decide, fun u hu => ?_⟩
          refine cat_row (exn hu _ _ (e7 _ _ hr4)) upd_same (Nat.le_trans (rows hs (List.mem_of_getElem? hhs)) (by decide)) fun v H8 e8 hv => ?_
          have e8' : Ex H7 H8 := ext (exn hu) e8
          obtain ⟨acc, g1, g2, g3⟩ := rows_push (rc.mono e8') hv
          refine ⟨acc, g1, ?_, ex_upd (ext e7 e8') hD, ?_⟩
          · rw [g2, List.length_append, crossS_len, List.length_map, List.length_range, List.length_take]
            have hl2 : l < n.toNat := hl
            have : min j hss.length * n.toNat ≤ 300 * 300 := Nat.mul_le_mul (by omega) (by omega)
            exact Nat.lt_of_le_of_lt (show _ ≤ 90300 by omega) (by decide)
          · rw [List.range_succ, List.map_append, ← List.append_assoc]
            exact g3
        · rintro Hz ⟨ez, rz⟩
          refine ⟨ez, ?_⟩
          rw [take_more hhs, crossS_snoc]
          exact rz
      · rintro Hz ⟨ez, rz⟩
        rw [List.take_of_length_le (by have := Paired.length rr; omega)] at rz
        refine ⟨D, _, _, _, rfl, ext e4 ez, Evl.fresh_back e4 hD, ?_⟩
        rw [ezs, allS_snoc, hh]
        exact rz
    · rintro σ H2 ⟨f, y1, y2, y3, rfl, e, f0, ra⟩
      rw [List.take_of_length_le (by simp)] at ra
      exact ⟨_, rfl, k f H2 e f0 ra⟩
def sp_mirror_seat (C : Addr) : Sp := fun vs H Q _ => ∃ (a s c : Addr) (ns ps os : List Int), vs = [.ref a, .ref s, .ref c] ∧ TabAt C H a ns ∧ SzOk ns ∧ H s = some (.tup (ps.map V.int)) ∧ H c = some (.tup (os.map V.int)) ∧ ps.length = ns.length ∧ os.length = ns.length ∧
  ∀ H2 q, Ex H H2 → H q = none → H2 q = some (.tup ((mirL ns ps os).map V.int)) → Q (.ref q) H2
theorem ok_mirror_seat (T : TX K mg) : FnOk P w K mg base CX0 2 T.f_mirror_seat T.fd_mirror_seat ["table", "seat", "other"] (sp_mirror_seat T.C_Table) := by
  refine T.F_mirror_seat.ok sc_mirror_seat (fun vs H Q E h => ?_) (fun cdv A outer s H vs Q E hr h => ?_)
  · obtain ⟨a, s, c, ns, ps, os, rfl, _⟩ := h
    rfl
  · obtain ⟨a, s, c, ns, ps, os, rfl, ⟨dx, t, h1, h2⟩, ok, hs, hc, lp, lc, k⟩ := h
    have l4 := ok.le
    refine ⟨_, (pss_one (ps_ret (pe_callTy call_tuple_of (by rfl) T.z_tuple (by decide +kernel) (pa_cons (pe_lc (own := [("place", 3), ("one", 4), ("size", 5)]) (g := (gTup K 3 (gCons (gName 3) (gCons (gName 4) (gCons (gName 5) gNil))))) rfl sc_mirror_seat.nd (CZ.pi_z3s (fl := [true, true, true]) rfl (by rfl) T.z_zip (pa_cons (pv 1) (pa_cons (pv 2) (pa_cons (pe_meth0 (pv 0) T.cl_Table T.me_Table_sizes (ok_Table_sizes T) hr T.b_Table_sizes .nil pass0) pa_nil)))) (blkOk_by (N := N_mirror_seat) (sc := defScope s_mirror_seat) (by decide +kernel)) (fun _ _ _ _ _ => (pg_tup rfl (pgs_cons (pg_name (i := 3) sc_mirror_seat.nd rfl (Or.inl rfl)) (pgs_cons (pg_name (i := 4) sc_mirror_seat.nd rfl (Or.inl rfl)) (pgs_cons (pg_name (i := 5) sc_mirror_seat.nd rfl (Or.inl rfl)) pgs_nil))))) (fun _ _ _ _ _ => pts_nil) (fun _ _ _ _ _ => (pe_op op_mod (pe_op op_sub (pe_op op_mulI pe_int (pv 3)) (pv 4)) (pv 5)))) pa_nil)))), ?_⟩
    refine ⟨_, rfl, _, rfl, _, rfl, a, dx, _, rfl, h1, rfl, a, dx, t, rfl, h1, [s, c, t], rfl, rfl, all3 (sqT hs) (sqT hc) (sqT h2), fun D hD => ?_⟩
    have ls : (mirL ns ps os).length = ns.length := mirL_len lp lc
    refine lc_vals (CZ.walk_rows (xss := [ps.map V.int, os.map V.int, ns.map V.int]) (n := ns.length) (lens3 (by rw [List.length_map, lp]) (by rw [List.length_map, lc]) (by rw [List.length_map]))) ((mirL ns ps os).map V.int) (by rw [List.length_map, ls]) (by omega) hD (fun H3 e => .cons (SqT.of (e _ _ hs)) (.cons (SqT.of (e _ _ hc)) (.cons (SqT.of (e _ _ h2)) .nil))) ?_ (gmono_tup (gmono_cons gmono_name (gmono_cons gmono_name (gmono_cons gmono_name gmono_nil)))) ?_
    · intro i y H3 H4 R hi e yy kk
      obtain ⟨Ta, p, d, n, rfl, hT, rfl, hp, hd, hn⟩ := yints3 yy
      have n1 := ok.one n (List.mem_of_getElem? hn)
      refine ⟨Ta, _, rfl, SqT.of upd_same, rfl, _, _, rfl, _, _, rfl, _, _, rfl, rfl, rfl, ?_⟩
      refine ⟨_, rfl, _, _, rfl, rfl, mul_ok (.inl (by decide)), _, rfl, _, _, rfl, rfl, _, rfl, _, _, rfl, rfl, (by show (0 : Int) < n; omega), ?_⟩
      refine kk _ _ (exn hT) ?_
      rw [List.getElem?_map, mirL_get hn hp hd]
      rfl
    · intro H3 e hD3
      exact ⟨D, _, rfl, .inl ⟨SqL.of hD3, fun q hq => k _ q (ext e (exn hq)) (Evl.fresh_back e hq) upd_same⟩⟩
def sp_call_to (C : Addr) : Sp := fun vs H Q _ => ∃ (a s c : Addr) (ns ps os : List Int), vs = [.ref a, .ref s, .ref c] ∧ TabAt C H a ns ∧ SzOk ns ∧ H s = some (.tup (ps.map V.int)) ∧ H c = some (.tup (os.map V.int)) ∧ ps.length = ns.length ∧ os.length = ns.length ∧
  ∀ H2 q, Ex H H2 → H q = none → H2 q = some (.tup ((toL ns ps os).map V.int)) → Q (.ref q) H2
theorem ok_call_to (T : TX K mg) : FnOk P w K mg base CX0 2 T.f_call_to T.fd_call_to ["table", "seat", "other"] (sp_call_to T.C_Table) := by
  refine T.F_call_to.ok sc_call_to (fun vs H Q E h => ?_) (fun cdv A outer s H vs Q E hr h => ?_)
  · obtain ⟨a, s, c, ns, ps, os, rfl, _⟩ := h
    rfl
  · obtain ⟨a, s, c, ns, ps, os, rfl, ⟨dx, t, h1, h2⟩, ok, hs, hc, lp, lc, k⟩ := h
    have l4 := ok.le
    refine ⟨_, (pss_one (ps_ret (pe_callTy call_tuple_of (by rfl) T.z_tuple (by decide +kernel) (pa_cons (pe_lc (own := [("place", 3), ("one", 4), ("size", 5)]) (g := (gTup K 3 (gCons (gName 3) (gCons (gName 4) (gCons (gName 5) gNil))))) rfl sc_call_to.nd (CZ.pi_z3s (fl := [true, true, true]) rfl (by rfl) T.z_zip (pa_cons (pv 1) (pa_cons (pv 2) (pa_cons (pe_meth0 (pv 0) T.cl_Table T.me_Table_sizes (ok_Table_sizes T) hr T.b_Table_sizes .nil pass0) pa_nil)))) (blkOk_by (N := N_call_to) (sc := defScope s_call_to) (by decide +kernel)) (fun _ _ _ _ _ => (pg_tup rfl (pgs_cons (pg_name (i := 3) sc_call_to.nd rfl (Or.inl rfl)) (pgs_cons (pg_name (i := 4) sc_call_to.nd rfl (Or.inl rfl)) (pgs_cons (pg_name (i := 5) sc_call_to.nd rfl (Or.inl rfl)) pgs_nil))))) (fun _ _ _ _ _ => pts_nil) (fun _ _ _ _ _ => (pe_op op_mod (pe_op op_sub (pv 4) (pv 3)) (pv 5)))) pa_nil)))), ?_⟩
    refine ⟨_, rfl, _, rfl, _, rfl, a, dx, _, rfl, h1, rfl, a, dx, t, rfl, h1, [s, c, t], rfl, rfl, all3 (sqT hs) (sqT hc) (sqT h2), fun D hD => ?_⟩
    have ls : (toL ns ps os).length = ns.length := toL_len lp lc
    refine lc_vals (CZ.walk_rows (xss := [ps.map V.int, os.map V.int, ns.map V.int]) (n := ns.length) (lens3 (by rw [List.length_map, lp]) (by rw [List.length_map, lc]) (by rw [List.length_map]))) ((toL ns ps os).map V.int) (by rw [List.length_map, ls]) (by omega) hD (fun H3 e => .cons (SqT.of (e _ _ hs)) (.cons (SqT.of (e _ _ hc)) (.cons (SqT.of (e _ _ h2)) .nil))) ?_ (gmono_tup (gmono_cons gmono_name (gmono_cons gmono_name (gmono_cons gmono_name gmono_nil)))) ?_
    · intro i y H3 H4 R hi e yy kk
      obtain ⟨Ta, p, d, n, rfl, hT, rfl, hp, hd, hn⟩ := yints3 yy
      have n1 := ok.one n (List.mem_of_getElem? hn)
      refine ⟨Ta, _, rfl, SqT.of upd_same, rfl, _, _, rfl, _, _, rfl, _, _, rfl, rfl, rfl, ?_⟩
      refine ⟨_, rfl, _, rfl, _, _, rfl, rfl, _, rfl, _, _, rfl, rfl, (by show (0 : Int) < n; omega), ?_⟩
      refine kk _ _ (exn hT) ?_
      rw [List.getElem?_map, toL_get hn hp hd]
      rfl
    · intro H3 e hD3
      exact ⟨D, _, rfl, .inl ⟨SqL.of hD3, fun q hq => k _ q (ext e (exn hq)) (Evl.fresh_back e hq) upd_same⟩⟩
end

theorem keys_atD (d : Nat) (ps : List (List Int)) : keysL (atD d ps) = ps := by
  unfold keysL atD
  rw [List.map_map]
  exact List.map_id _
theorem atD_snoc (d : Nat) (ps : List (List Int)) (p : List Int) : atD d (ps ++ [p]) = atD d ps ++ [(p, d)] := List.map_append
theorem dep_none {fs : List (List Int × Nat)} {p : List Int} (h : p ∉ keysL fs) : dep fs p = none := by
  have := dep_isSome (fs := fs) (p := p)
  rw [decide_eq_false h] at this
  exact Option.isSome_eq_false_iff.mp this |> Option.isNone_iff_eq_none.mp
theorem SqH.either {K : PySem.W.Frag} {H : Hp} : ∀ {q : Bool × Addr} {xs : List V}, SqH H q xs → SqL K H q.2 xs ∨ SqT K H q.2 xs
  | (false, _), _, h => .inl (SqL.of h)
  | (true, _), _, h => .inr (SqT.of h)
theorem eqv_ne' {css : List (List Int)} (ne : css ≠ []) : (!PyData.eqv (.list (css.map iT)) (.list (([] : List (List Int)).map iT))) = true := by
  cases css with
  | nil => exact absurd rfl ne
  | cons c r => simp [PyData.eqv, PyData.eqvAll]
theorem nodup_take {α : Type} {l : List α} (nod : l.Nodup) {i : Nat} {x : α} (h : l[i]? = some x) : x ∉ l.take i := fun z => by
  obtain ⟨j, hj⟩ := List.mem_iff_getElem?.mp z
  have jl : j < i := by
    have := (List.getElem?_eq_some_iff.mp hj).1
    rw [List.length_take] at this
    omega
  rw [List.getElem?_take_of_lt jl] at hj
  exact absurd ((List.getElem?_inj (List.getElem?_eq_some_iff.mp hj).1 nod).mp (hj.trans h.symm)) (by omega)
theorem merge_new {e : Nat} : ∀ {nw : List (List Int)} {fs : List (List Int × Nat)}, (∀ p ∈ nw, p ∉ keysL fs) → nw.Nodup → CD.mergeT (fs.map entV) ((atD e nw).map entV) = (fs ++ atD e nw).map entV
  | [], fs, _, _ => by simp [CD.mergeT]
  | p :: nw, fs, h, nod => by
    have hp := h p List.mem_cons_self
    show CD.mergeT (putK (fs.map entV) (entK p) (V.int (e : Int))) ((atD e nw).map entV) = _
    rw [putK_new _ (by rw [val_ent, dep_none hp]; rfl), show fs.map entV ++ [(entK p, V.int (e : Int))] = (fs ++ [(p, e)]).map entV by rw [List.map_append]; rfl, merge_new ?_ (List.nodup_cons.mp nod).2]
    · rw [List.append_assoc]
      rfl
    · intro r hr z
      rw [keys_app] at z
      rcases List.mem_append.mp z with z | z
      · exact h r (List.mem_cons_of_mem _ hr) z
      · have : r = p := List.mem_singleton.mp z
        exact (List.nodup_cons.mp nod).1 (this ▸ hr)
section
variable {P : Program} {w : World} {K : PySem.W.Frag} {mg : Str → Option Value} {base : Heap}
def sp_call_counts (C : Addr) : Sp := fun vs H Q _ => ∃ (a : Addr) (q : Bool × Addr) (ns : List Int) (tss : List (List Int)), vs = [.ref a, .ref q.2] ∧ TabAt C H a ns ∧ SzOk ns ∧ prodL ns ≤ 300 ∧ RowsQ H q tss ∧ tss ≠ [] ∧ tss.length ≤ 1000 ∧ (∀ ts ∈ tss, SeatOk ns ts) ∧ tss.Nodup ∧
  ∀ d H2, Ex H H2 → H d = none → CntAt H2 d (countsL ns tss) → Q (.ref d) H2
theorem ok_call_counts (T : TX K mg) : FnOk P w K mg base CX0 3 T.f_call_counts T.fd_call_counts ["table", "targets"] (sp_call_counts T.C_Table) := by
  refine T.F_call_counts.ok sc_call_counts (fun vs H Q E h => ?_) (fun cdv A outer s H vs Q E hr h => ?_)
  · obtain ⟨a, q, ns, tss, rfl, _⟩ := h
    rfl
  · obtain ⟨a, q, ns, tss, rfl, tab, ok, pr, ⟨xs, hq, rr⟩, ne, lt, sks, nod, k⟩ := h
    refine ⟨_, (pss_cons (ps_set (i := 2) sc_call_counts.nd rfl (Or.inr rfl) (CD.pe_dcT (own := [("target", 6)]) (g := (gName 6)) (hu_of hr) rfl sc_call_counts.nd (pi_seq (pv 1)) (blkOk_by (N := N_call_counts) (sc := defScope s_call_counts) (by decide +kernel)) (fun _ _ _ _ _ => (pg_name (i := 6) sc_call_counts.nd rfl (Or.inl rfl))) (fun _ _ _ _ _ => pts_nil) (fun _ _ _ _ _ => (pv 6)) (fun _ _ _ _ _ => pe_int))) (pss_cons (ps_setLc (own := [("seat", 7)]) (g := (gName 7)) (i := 3) rfl sc_call_counts.nd rfl rfl (sw_true rfl rfl rfl (by decide +kernel)) (pi_list (pe_call (ok_all_seats T) hr rfl T.m_all_seats T.F_all_seats.kp T.b_all_seats .nil pass0 (pa_cons (pv 0) pa_nil))) (blkOk_by (N := N_call_counts) (sc := defScope s_call_counts) (by decide +kernel)) (fun _ _ _ _ _ => (pg_name (i := 7) sc_call_counts.nd rfl (Or.inl rfl))) (fun _ _ _ _ _ => (pts_one (pt_cmp (pc_dnotin (hu_of hr) (pv 7) (pv 2))))) (fun _ _ _ _ _ => (pv 7))) (pss_cons (ps_asg (pe_tup (pa_cons (pe_callTy call_list_of (by rfl) T.z_list (by decide +kernel) (pa_cons (pv 1) pa_nil)) (pa_cons pe_int pa_nil))) (pg_tup rfl (pgs_cons (pg_name (i := 4) sc_call_counts.nd rfl (Or.inr rfl)) (pgs_cons (pg_name (i := 5) sc_call_counts.nd rfl (Or.inr rfl)) pgs_nil)))) (pss_cons (ps_while PassesOwn.never (pt_cmpR (r := rNeD K) (op_neD hr.units) (pv 4) (pe_lst pa_nil) (nomark _)) (pss_cons (ps_aug (i := 5) sc_call_counts.nd rfl (Or.inr rfl) pe_int ip_add) (pss_cons (ps_set (i := 4) sc_call_counts.nd rfl (Or.inr rfl) (pe_lc (own := [("seat", 7)]) (g := (gName 7)) rfl sc_call_counts.nd (pi_list (pv 3)) (blkOk_by (N := N_call_counts) (sc := defScope s_call_counts) (by decide +kernel)) (fun _ _ _ _ _ => (pg_name (i := 7) sc_call_counts.nd rfl (Or.inr rfl))) (fun _ _ _ _ _ => (pts_one (pt_val (pe_callB (r := rAny K) (cr_any rfl) (by rfl) T.z_any (by decide +kernel) (pa_cons (pe_lc (wi := iList K _) (own := [("one", 8)]) (g := (gName 8)) rfl sc_call_counts.nd (pi_list (pv 4)) (blkOk_by (N := N_call_counts) rfl) (fun _ _ _ _ _ => (pg_name (i := 8) sc_call_counts.nd rfl (Or.inl rfl))) (fun _ _ _ _ _ => pts_nil) (fun _ _ _ _ _ => (pe_cmp (pc_din (hu_of hr) (pe_call (ok_mirror_seat T) hr rfl T.m_mirror_seat T.F_mirror_seat.kp T.b_mirror_seat .nil pass0 (pa_cons (pv 0) (pa_cons (pv 7) (pa_cons (pv 8) pa_nil)))) (pv 2))))) pa_nil))))) (fun _ _ _ _ _ => (pv 7)))) (pss_cons (ps_expr (pe_bm PySem.F.plainAttrs_dict PySem.F.slot_dict_update PySem.F.type_dict_update (CD.mt_updT (hu_of hr)) (pv 2) (pa_cons (CD.pe_dcT (own := [("seat", 7)]) (g := (gName 7)) (hu_of hr) rfl sc_call_counts.nd (pi_list (pv 4)) (blkOk_by (N := N_call_counts) (sc := defScope s_call_counts) (by decide +kernel)) (fun _ _ _ _ _ => (pg_name (i := 7) sc_call_counts.nd rfl (Or.inl rfl))) (fun _ _ _ _ _ => pts_nil) (fun _ _ _ _ _ => (pv 7)) (fun _ _ _ _ _ => (pv 5))) pa_nil))) (pss_one (ps_setLc (own := [("seat", 7)]) (g := (gName 7)) (i := 3) rfl sc_call_counts.nd rfl rfl (sw_true rfl rfl rfl (by decide +kernel)) (pi_list (pv 3)) (blkOk_by (N := N_call_counts) (sc := defScope s_call_counts) (by decide +kernel)) (fun _ _ _ _ _ => (pg_name (i := 7) sc_call_counts.nd rfl (Or.inl rfl))) (fun _ _ _ _ _ => (pts_one (pt_cmp (pc_dnotin (hu_of hr) (pv 7) (pv 2))))) (fun _ _ _ _ _ => (pv 7)))))))) (pss_one (ps_ret (pv 2))))))), ?_⟩
    have lx : xs.length = tss.length := Paired.length rr
    -- found
    refine ⟨_, rfl, q, rfl, ⟨_, hq.sq⟩, fun D hD => ?_⟩
    refine CD.dcT_it (walk_seq (xs := xs)) (fun i Hx => Ex H Hx ∧ CntAt Hx D (atD 0 (tss.take i))) ⟨exn hD, upd_same⟩ (fun i Hx _ p => (hq.mono p.1).sq) ?_ ?_
    · rintro i x _ Hx hi ⟨ex, hc⟩ ⟨rfl, hx⟩
      obtain ⟨ts, r, hts, rfl, hr2⟩ := rr.get hx
      have hn : ts ∉ tss.take i := fun z => by
        obtain ⟨j, hj⟩ := List.mem_iff_getElem?.mp z
        have jl : j < i := by
          have := (List.getElem?_eq_some_iff.mp hj).1
          rw [List.length_take] at this
          omega
        rw [List.getElem?_take_of_lt jl] at hj
        exact absurd ((List.getElem?_inj (List.getElem?_eq_some_iff.mp hj).1 nod).mp (hj.trans hts.symm)) (by omega)
      refine ⟨rfl, _, rfl, _, entK ts, r, rfl, by rw [entK_kV]; exact ex _ _ hr2, hc, ?_, ex_upd ex hD, ?_⟩
      · rw [List.length_map, List.length_map, List.length_take]
        exact Nat.lt_of_le_of_lt (show _ ≤ 1000 by omega) (by decide)
      · show upd _ _ _ _ = _
        rw [upd_same, putK_new _ (by rw [val_ent, dep_none (by rw [keys_atD]; exact hn)]; rfl), take_more hts, atD_snoc, List.map_append]
        rfl
    rintro H1 ⟨e1, hc1⟩
    rw [List.take_of_length_le (by omega)] at hc1
    dsimp only [gName]
    -- missing
    refine ⟨_, rfl, a, ns, rfl, tab.mono e1, ok, pr, fun sl H2 e2 nsl ⟨ys, hsl, rs⟩ => ⟨sl, rfl, ⟨_, SqL.of hsl⟩, fun D2 hD2 => ?_⟩⟩
    have ly : ys.length = (allS ns).length := Paired.length rs
    have lA : (allS ns).length ≤ 300 := by have := allS_len ok.one; omega
    have hc2 := hc1.mono e2
    refine lc_filt (walk_list (xs := ys)) (ys.zip (allS ns)) (fun z => decide (z.2 ∉ keysL (atD 0 tss))) (fun z => z.1) (by rw [List.length_zip]; omega) (by omega) hD2 (fun Hx ex => SqL.of (ex _ _ hsl)) ?_ ?_
    · rintro i x ⟨z1, z2⟩ _ Hx R S hz ex ⟨rfl, hx⟩ kR kS
      obtain ⟨hz1, hz2⟩ := zip_at2 hz
      obtain ⟨p, r, hp, rfl, hr2⟩ := rs.get hx
      obtain rfl : p = z2 := Option.some.inj (hp.symm.trans hz2)
      obtain rfl : V.ref r = z1 := Option.some.inj (hx.symm.trans hz1)
      refine ⟨rfl, _, rfl, _, rfl, D, _, rfl, cnt_get (hc2.mono ex) (ex _ _ hr2), _, rfl, ?_⟩
      rw [Option.isSome_map, dep_isSome]
      by_cases c : p ∈ keysL (atD 0 tss)
      · exact itf (by rw [decide_eq_true c]; rfl) (kS _ exr (decide_eq_false (not_not_intro c)))
      · exact itt (by rw [decide_eq_false c]; rfl) ⟨_, rfl, kR _ _ exr (decide_eq_true c) rfl⟩
    intro H3 e3 hD3
    have rm : RowsR H3 (((ys.zip (allS ns)).filter fun z => decide (z.2 ∉ keysL (atD 0 tss))).map fun z => z.1) (missL (atD 0 tss) (allS ns)) := RowsR.filt (fun s => decide (s ∉ keysL (atD 0 tss))) (rs.mono e3)
    generalize (((ys.zip (allS ns)).filter fun z => decide (z.2 ∉ keysL (atD 0 tss))).map fun z => z.1) = zs at hD3 rm
    dsimp only [gName]
    -- newest, depth
    have E3 : Ex H H3 := ext e1 (ext e2 e3)
    have hq3 := hq.mono E3
    refine ⟨_, rfl, q.2, xs, rfl, hq3.either, fun nl hnl => ?_⟩
    generalize hG4 : upd H3 nl _ = H4
    have e4 := exG hG4 hnl
    have hnl4 := atG hG4
    clear hG4
    refine ⟨slen rfl, ?_⟩
    (intro tp ntp; generalize hGtp : upd _ tp _ = H5; have eH5 := exG hGtp ntp; have htp := atG hGtp; clear hGtp)
    refine ⟨tp, _, rfl, SqT.of htp, rfl, _, _, rfl, _, _, rfl, rfl, ?_⟩
    have E5 : Ex H H5 := ext E3 (ext e4 eH5)
    have E35 : Ex H3 H5 := ext e4 eH5
    refine ⟨fun m σ Hx => ∃ (fs : List (List Int × Nat)) (miss newest : List (List Int)) (d : Nat) (ml nl : Addr) (zs ws : List V), σ = [some (.ref a), some (.ref q.2), some (.ref D), some (.ref ml), some (.ref nl), some (.int (d : Int)), none, none, none] ∧ Ex H Hx ∧ CntAt Hx D fs ∧ Hx ml = some (.lst zs) ∧ RowsR Hx zs miss ∧ Hx nl = some (.lst ws) ∧ RowsR Hx ws newest ∧ roundsL ns m fs miss newest d = countsL ns tss ∧
        miss.length + (if newest = [] then 0 else 1) < m ∧ (∀ p ∈ miss, SeatOk ns p) ∧ (∀ p ∈ newest, SeatOk ns p) ∧ fs ≠ [] ∧ fs.length + miss.length ≤ 1300 ∧ (∀ p ∈ miss, p ∉ keysL fs) ∧ miss.Nodup ∧ newest.length ≤ 1300,
      ⟨(allS ns).length + 2, atD 0 tss, missL (atD 0 tss) (allS ns), tss, 0, D2, nl, zs, xs, rfl, E5, hc2.mono (ext e3 E35), E35 _ _ hD3, rm.mono E35, eH5 _ _ hnl4, rr.mono E5, rfl, ?_, fun p hp => mem_allS.mp (mem_missL.mp hp).1, sks, ?_, ?_, fun p hp => (mem_missL.mp hp).2, (allS_nodup ns).filter _, by omega⟩, ?_⟩
    · rw [if_neg ne]
      have : (missL (atD 0 tss) (allS ns)).length ≤ (allS ns).length := List.length_filter_le _ _
      omega
    · intro z
      exact ne (List.map_eq_nil_iff.mp z)
    · have : (missL (atD 0 tss) (allS ns)).length ≤ (allS ns).length := List.length_filter_le _ _
      rw [List.length_map]
      omega
    clear hc1 hc2 hD3 rm hnl4
    rintro m σ Hx ⟨fs, miss, newest, d, ml, nl, zs, ws, rfl, ex, hcx, hml, rz, hnl, rw', eqR, mlt, okm, okn, fne, flen, disj, mnod, nlen⟩
    refine ⟨_, rfl, slen rfl, ?_⟩
    (intro el nel; generalize hGel : upd _ el _ = H6; have eH6 := exG hGel nel; have hel := atG hGel; clear hGel)
    have shR : ∀ rows : List (List Int), Sh 60 (.list (rows.map iT)) := fun rows => sh_rows (n := 58) rows
    refine ⟨_, _, .lst (SqL.of (eH6 _ _ hnl)) (rw'.mono eH6).dp, .lst (SqL.of hel) (RowsR.dp (hss := []) .nil), (shR newest).ok, (shR []).ok, _, rfl, ?_⟩
    have ex6 := ext ex eH6
    by_cases c : newest = []
    · subst c
      refine itf (by rw [eqv_refl _ (shR []).1]; rfl) ?_
      obtain ⟨m, rfl⟩ : ∃ m', m = m' + 1 := ⟨m - 1, by omega⟩
      rw [roundsL, if_pos rfl] at eqR
      exact ⟨_, rfl, k D H6 ex6 hD (eqR ▸ hcx.mono eH6)⟩
    refine itt (eqv_ne' c) ⟨_, fun _ _ h => h, ?_⟩
    obtain ⟨m, rfl⟩ : ∃ m', m = m' + 1 := ⟨m - 1, by omega⟩
    rw [roundsL, if_neg c] at eqR
    rw [if_neg c] at mlt
    refine ⟨_, rfl, _, _, rfl, rfl, ?_⟩
    dsimp only [gName]
    -- newest
    have hml6 := eH6 _ _ hml
    have rz6 := rz.mono eH6
    have hnl6 := eH6 _ _ hnl
    have rw6 := rw'.mono eH6
    have hcx6 := hcx.mono eH6
    have lz : zs.length = miss.length := Paired.length rz
    have lw : ws.length = newest.length := Paired.length rw'
    refine ⟨_, rfl, ml, rfl, ⟨_, SqL.of hml6⟩, fun D3 hD3 => ?_⟩
    refine lc_filt (walk_list (xs := zs)) (zs.zip miss) (fun z => newest.any fun o => decide (mirL ns z.2 o ∈ keysL fs)) (fun z => z.1) (by rw [List.length_zip]; omega) (by omega) hD3 (fun Hy ey => SqL.of (ey _ _ hml6)) ?_ ?_
    · rintro i x ⟨z1, z2⟩ _ Hy R S hz ey ⟨rfl, hx⟩ kR kS
      obtain ⟨hz1, hz2⟩ := zip_at2 hz
      obtain ⟨p, r, hp, rfl, hr2⟩ := rz6.get hx
      obtain rfl : p = z2 := Option.some.inj (hp.symm.trans hz2)
      obtain rfl : V.ref r = z1 := Option.some.inj (hx.symm.trans hz1)
      have skp := okm p (List.mem_of_getElem? hp)
      refine ⟨rfl, ?_⟩
      refine ⟨_, rfl, nl, rfl, ⟨_, SqL.of (ey _ _ hnl6)⟩, fun D4 hD4 => ?_⟩
      refine lc_vals (walk_list (xs := ws)) ((newest.map fun o => decide (mirL ns p o ∈ keysL fs)).map V.bl) (by rw [List.length_map, List.length_map, lw]) (by omega) hD4 (fun Hz ez => SqL.of (ez _ _ (ey _ _ hnl6))) ?_ gmono_name ?_
      · rintro j x _ Hz R2 hj ez ⟨rfl, hx2⟩ kk
        obtain ⟨o, ro, ho, rfl, hro⟩ := rw6.get hx2
        have sko := okn o (List.mem_of_getElem? ho)
        have Ez := ext ey ez
        refine ⟨rfl, _, rfl, _, rfl, _, rfl, a, r, ro, ns, p, o, rfl, (tab.mono ex6).mono Ez, ok, Ez _ _ hr2, Ez _ _ hro, skp.len, sko.len, fun Hw qm ew nqm hqm => ?_⟩
        refine ⟨_, rfl, D, _, rfl, cnt_get (hcx6.mono (ext Ez ew)) hqm, ?_⟩
        rw [Option.isSome_map, dep_isSome]
        refine kk _ _ ew ?_
        rw [List.getElem?_map, List.getElem?_map, ho]
        rfl
      intro Hz ez hD4z
      refine ⟨D4, _, rfl, SqL.of hD4z, _, rfl, ?_⟩
      have ea : (newest.map fun o => decide (mirL ns p o ∈ keysL fs)).any id = newest.any fun o => decide (mirL ns p o ∈ keysL fs) := by rw [List.any_map]; rfl
      rw [ea]
      cases ca : newest.any fun o => decide (mirL ns p o ∈ keysL fs)
      · exact itf rfl (kS _ ez ca)
      · exact itt rfl ⟨_, rfl, kR _ _ ez ca rfl⟩
    intro H7 e7 hD37
    have rn : RowsR H7 (((zs.zip miss).filter fun z => newest.any fun o => decide (mirL ns z.2 o ∈ keysL fs)).map fun z => z.1) (newL ns fs miss newest) := RowsR.filt (fun s => newest.any fun o => decide (mirL ns s o ∈ keysL fs)) (rz6.mono e7)
    generalize (((zs.zip miss).filter fun z => newest.any fun o => decide (mirL ns z.2 o ∈ keysL fs)).map fun z => z.1) = us at hD37 rn
    have nws : ∀ p ∈ newL ns fs miss newest, p ∈ miss := fun p hp => newL_sub hp
    have nwn : (newL ns fs miss newest).Nodup := mnod.filter _
    have nwl : (newL ns fs miss newest).length + (missL (fs ++ atD (d + 1) (newL ns fs miss newest)) miss).length ≤ miss.length := filter_two fun p hp hc => decide_eq_false (not_not_intro (by
      rw [keys_app, keys_atD]
      exact List.mem_append_right _ (List.mem_filter.mpr ⟨hp, hc⟩)))
    have nw0 : newL ns fs miss newest = [] ∨ 0 < (newL ns fs miss newest).length := by
      cases newL ns fs miss newest with
      | nil => exact .inl rfl
      | cons => exact .inr (by simp)
    generalize newL ns fs miss newest = nw at rn nws nwn nwl nw0 eqR
    have hml7 := e7 _ _ hml6
    have rz7 := rz6.mono e7
    have hcx7 := hcx6.mono e7
    have lu : us.length = nw.length := Paired.length rn
    dsimp only [gName]
    -- update
    refine ⟨_, rfl, .inr (.inr (.inl ⟨rfl, .inr ⟨_, hcx7⟩⟩)), ?_⟩
    refine ⟨_, rfl, D3, rfl, ⟨_, SqL.of hD37⟩, fun D5 hD5 => ?_⟩
    refine CD.dcT_it (walk_list (xs := us)) (fun i Hy => Ex H7 Hy ∧ CntAt Hy D5 (atD (d + 1) (nw.take i))) ⟨exn hD5, upd_same⟩ (fun i Hy _ p => SqL.of (p.1 _ _ hD37)) ?_ ?_
    · rintro i x _ Hy hi ⟨ey, hc⟩ ⟨rfl, hx⟩
      obtain ⟨p, r, hp, rfl, hr2⟩ := rn.get hx
      have hn : p ∉ nw.take i := nodup_take nwn hp
      refine ⟨rfl, _, rfl, _, rfl, _, entK p, r, rfl, by rw [entK_kV]; exact ey _ _ hr2, hc, ?_, ex_upd ey hD5, ?_⟩
      · rw [List.length_map, List.length_map, List.length_take]
        exact Nat.lt_of_le_of_lt (show _ ≤ 1300 by omega) (by decide)
      · show upd _ _ _ _ = _
        rw [upd_same, putK_new _ (by rw [val_ent, dep_none (by rw [keys_atD]; exact hn)]; rfl), take_more hp, atD_snoc, List.map_append]
        rfl
    rintro H8 ⟨e8, hc8⟩
    rw [List.take_of_length_le (by omega)] at hc8
    have hcx8 := hcx7.mono e8
    have nD5 : D ≠ D5 := ne_of_none hcx7 hD5
    refine ⟨D, D5, _, _, rfl, rfl, nD5, hcx8, hc8, (.inl fun z => fne (List.map_eq_nil_iff.mp z)), ?_, ?_⟩
    · rw [List.length_map, List.length_map, List.length_map]
      exact Nat.le_trans (show _ ≤ 2600 by omega) (by decide)
    rw [merge_new (fun p hp z => disj p (nws p hp) z) nwn]
    generalize hG9 : upd H8 D _ = H9
    have hc9 : CntAt H9 D (fs ++ atD (d + 1) nw) := by rw [← hG9]; exact upd_same
    have tp9 : ∀ c zs, H8 c = some (.tup zs) → H9 c = some (.tup zs) := fun c zs z => hG9 ▸ tup_dict hcx8 z
    have ls9 : ∀ c zs, H8 c = some (.lst zs) → H9 c = some (.lst zs) := fun c zs z => by
      rw [← hG9, upd_ne (ne_of z hcx8 (by intro z; cases z))]
      exact z
    have ex9 : Ex H H9 := hG9 ▸ ex_upd (ext ex6 (ext e7 e8)) hD
    clear hG9
    have hml9 := ls9 _ _ (e8 _ _ hml7)
    have rz9 := (rz7.mono e8).monoT tp9
    have hD39 := ls9 _ _ (e8 _ _ hD37)
    have rn9 := (rn.mono e8).monoT tp9
    dsimp only [gName]
    -- missing
    refine ⟨_, rfl, ml, rfl, ⟨_, SqL.of hml9⟩, fun D6 hD6 => ?_⟩
    refine lc_filt (walk_list (xs := zs)) (zs.zip miss) (fun z => decide (z.2 ∉ keysL (fs ++ atD (d + 1) nw))) (fun z => z.1) (by rw [List.length_zip]; omega) (by omega) hD6 (fun Hy ey => SqL.of (ey _ _ hml9)) ?_ ?_
    · rintro i x ⟨z1, z2⟩ _ Hy R S hz ey ⟨rfl, hx⟩ kR kS
      obtain ⟨hz1, hz2⟩ := zip_at2 hz
      obtain ⟨p, r, hp, rfl, hr2⟩ := rz9.get hx
      obtain rfl : p = z2 := Option.some.inj (hp.symm.trans hz2)
      obtain rfl : V.ref r = z1 := Option.some.inj (hx.symm.trans hz1)
      refine ⟨rfl, _, rfl, _, rfl, D, _, rfl, cnt_get (hc9.mono ey) (ey _ _ hr2), _, rfl, ?_⟩
      rw [Option.isSome_map, dep_isSome]
      by_cases c : p ∈ keysL (fs ++ atD (d + 1) nw)
      · exact itf (by rw [decide_eq_true c]; rfl) (kS _ exr (decide_eq_false (not_not_intro c)))
      · exact itt (by rw [decide_eq_false c]; rfl) ⟨_, rfl, kR _ _ exr (decide_eq_true c) rfl⟩
    intro Ha ea hDa
    have ra : RowsR Ha (((zs.zip miss).filter fun z => decide (z.2 ∉ keysL (fs ++ atD (d + 1) nw))).map fun z => z.1) (missL (fs ++ atD (d + 1) nw) miss) := RowsR.filt (fun s => decide (s ∉ keysL (fs ++ atD (d + 1) nw))) (rz9.mono ea)
    refine ⟨m, Nat.lt_succ_self m, fs ++ atD (d + 1) nw, missL (fs ++ atD (d + 1) nw) miss, nw, d + 1, D6, D3, _, us, rfl, ext ex9 ea, hc9.mono ea, hDa, ra, ea _ _ hD39, rn9.mono ea, eqR, ?_, fun p hp => okm p (mem_missL.mp hp).1, fun p hp => okm p (nws p hp), (fun z => fne (List.append_eq_nil_iff.mp z).1), ?_, fun p hp => (mem_missL.mp hp).2, mnod.filter _, ?_⟩
    · rcases nw0 with z | z
      · rw [if_pos z]
        omega
      · rw [if_neg (fun e => by rw [e] at z; cases z)]
        omega
    · rw [List.length_append, List.length_map]
      omega
    · omega
end

section
variable {P : Program} {w : World} {K : PySem.W.Frag} {mg : Str → Option Value} {base : Heap}
def sp_Table_count (C : Addr) : Sp := fun vs H Q _ => ∃ (a : Addr) (ns : List Int), vs = [.ref a] ∧ TabAt C H a ns ∧ SzOk ns ∧ prodL ns ≤ 10 ^ 9 ∧ Q (.int (prodL ns)) H
theorem ok_Table_count (T : TX K mg) : FnOk P w K mg base CX0 1 T.f_Table_count T.fd_Table_count ["self"] (sp_Table_count T.C_Table) := by
  refine T.F_Table_count.ok sc_Table_count (fun vs H Q E h => ?_) (fun cdv A outer s H vs Q E hr h => ?_)
  · obtain ⟨a, ns, rfl, _⟩ := h
    rfl
  · obtain ⟨a, ns, rfl, ⟨dx, t, h1, h2⟩, ok, hB, k⟩ := h
    refine ⟨_, (pss_cons (ps_set (i := 1) sc_Table_count.nd rfl (Or.inl rfl) pe_int) (pss_cons (ps_for PassesOwn.never rfl (pi_tup (pe_fld (pv 0) rfl)) (pg_name (i := 2) sc_Table_count.nd rfl (Or.inl rfl)) (pss_one (ps_set (i := 1) sc_Table_count.nd rfl (Or.inl rfl) (pe_op op_mulI (pv 1) (pv 2))))) (pss_one (ps_ret (pv 1))))), ?_⟩
    refine ⟨_, rfl, a, _, dx, _, _, rfl, h1, T.cl_Table, T.n_Table_rings, rfl, t, rfl, ⟨_, SqT.of h2⟩, ?_⟩
    refine for_it (walk_tup (xs := ns.map V.int)) (fun i σ H2 => ∃ y : Option V, σ = [some (.ref a), some (.int (prodL (ns.take i))), y] ∧ H2 = H) ⟨none, rfl, rfl⟩ (fun i σ H2 _ ⟨_, _, e⟩ => by rw [e]; exact SqT.of h2) ?_ ?_
    · rintro i x σ H2 H3 hi ⟨y, rfl, rfl⟩ ⟨rfl, hx⟩
      obtain ⟨n, hn, rfl⟩ := map_get hx
      have b1 : 1 ≤ prodL (ns.take i) := prodL_pos fun m hm => ok.one m (List.mem_of_mem_take hm)
      have b2 : prodL (ns.take i) ≤ 10 ^ 9 := Int.le_trans (prodL_take i ok.one) hB
      refine ⟨_, rfl, _, rfl, _, _, rfl, rfl, mul_ok (.inl ⟨by omega, by omega⟩), some (.int n), ?_, rfl⟩
      rw [take_more hn, prodS_snoc]
      rfl
    · rintro σ H2 ⟨y, rfl, rfl⟩
      rw [List.length_map, List.take_length]
      exact ⟨_, rfl, k⟩
def sp_require_small (C : Addr) : Sp := fun vs H Q _ => ∃ (a : Addr) (ns : List Int), vs = [.ref a] ∧ TabAt C H a ns ∧ SzOk ns ∧ prodL ns ≤ 300 ∧ Q .non H
theorem ok_require_small (T : TX K mg) : FnOk P w K mg base CX0 2 T.f_require_small T.fd_require_small ["table"] (sp_require_small T.C_Table) := by
  refine T.F_require_small.ok sc_require_small (fun vs H Q E h => ?_) (fun cdv A outer s H vs Q E hr h => ?_)
  · obtain ⟨a, ns, rfl, _⟩ := h
    rfl
  · obtain ⟨a, ns, rfl, tab, ok, hB, k⟩ := h
    obtain ⟨dx, t, h1, h2⟩ := id tab
    refine ⟨_, (pss_one (ps_if (pt_cmpR op_gt (pe_meth0 (pv 0) T.cl_Table T.me_Table_count (ok_Table_count T) hr T.b_Table_count .nil pass0) (pe_glob (v := .int 300) rfl T.c_SMALL ⟨_, rfl⟩) (nomark _)) pss_never pss_nil)), ?_⟩
    refine ⟨_, rfl, a, dx, _, rfl, h1, rfl, a, ns, rfl, tab, ok, Int.le_trans hB (by decide), ?_⟩
    refine ⟨_, _, rfl, rfl, _, rfl, itf (decide_eq_false (by show ¬ (300 : Int) < prodL ns; omega)) k⟩
end

/-- the list of words -/
abbrev wordsV (ws : List Bool) : List V := ws.map fun b => V.str (awayW b)
theorem notStr_lst {K : PySem.W.Frag} {H : Hp} {a : Addr} {xs : List V} (h : H a = some (.lst xs)) : StrA K H (.ref a) none := ⟨_, .base (.lst h), kit_ty (by decide +kernel)⟩
theorem notStr_tup {K : PySem.W.Frag} {H : Hp} {a : Addr} {xs : List V} (h : H a = some (.tup xs)) : StrA K H (.ref a) none := ⟨_, .base (.tup h), kit_ty (by decide +kernel)⟩
theorem eqv_ne {css : List (List Int)} (ne : css ≠ []) : (!PyData.eqv (.list (css.map iT)) (.list (([] : List (List Int)).map iT))) = true := by
  cases css with
  | nil => exact absurd rfl ne
  | cons c r => simp [PyData.eqv, PyData.eqvAll]
theorem iteT' {c : Bool} {A B : Prop} (hc : c = true) (h : A) : if c = true then A else B := by
  rw [if_pos hc]
  exact h
abbrev wordsD (ws : List Bool) : List PyData := ws.map fun b => PyData.str (awayW b)
theorem dp_words {K : PySem.W.Frag} {H : Hp} : ∀ ws : List Bool, DpAll K H (wordsV ws) (wordsD ws)
  | [] => .nil
  | b :: ws => .cons (.str _) (dp_words ws)
theorem sh_words (ws : List Bool) : Sh 60 (.list (wordsD ws)) := sh_list (n := 59) fun d hd => by
  obtain ⟨b, _, rfl⟩ := List.mem_map.mp hd
  cases b <;> exact ⟨by simp only [PyData.canLay0]; decide +kernel, by simp only [PyData.depth]; omega⟩
theorem eqv_neW {ws : List Bool} (ne : ws ≠ []) : (!PyData.eqv (.list (wordsD ws)) (.list (wordsD []))) = true := by
  cases ws with
  | nil => exact absurd rfl ne
  | cons c r => simp [PyData.eqv, PyData.eqvAll]
section
variable {P : Program} {w : World} {K : PySem.W.Frag} {mg : Str → Option Value} {base : Heap}
def sp_is_layers (K : PySem.W.Frag) : Sp := fun vs H Q _ => ∃ x, vs = [x] ∧ ((StrA K H x none ∧ Q (.bl false) H) ∨ (x = .str "layers" ∧ Q (.bl true) H))
theorem ok_is_layers (T : TX K mg) : FnOk P w K mg base CX0 1 T.f_is_layers T.fd_is_layers ["strategy"] (sp_is_layers K) := by
  refine T.F_is_layers.ok sc_is_layers (fun vs H Q E h => ?_) (fun cdv A outer s H vs Q E hr h => ?_)
  · obtain ⟨x, rfl, _⟩ := h
    rfl
  · obtain ⟨x, rfl, h⟩ := h
    refine ⟨_, (pss_one (ps_ret (pe_and (pe_callB call_isi (by rfl) T.z_isinstance (by decide +kernel) (pa_cons (pv 0) (pa_cons (pe_bltn (v := .ty "str") rfl T.z_str (by decide +kernel) rfl) pa_nil))) (pe_one (pe_cmpR op_eq (pv 0) (pe_glob (v := .str "layers") rfl T.c_LAYERS ⟨_, rfl⟩) (nomark _)))))), ?_⟩
    rcases h with ⟨⟨t, ht, hk⟩, k⟩ | ⟨rfl, k⟩
    · exact ⟨_, rfl, _, _, _, _, false, rfl, .ty _, ht, hk, _, rfl, k⟩
    · exact ⟨_, rfl, _, _, _, _, true, rfl, .ty _, .base (.str _), kit_ty (by decide +kernel), _, rfl, iteT ⟨_, rfl, rfl, k⟩⟩
def sp_copied : Sp := fun vs H Q _ => ∃ (x : V) (S : Hp → V → Prop), vs = [x] ∧ ((∃ (q : Bool × Addr) (xs : List V), x = .ref q.2 ∧ SqH H q xs ∧ ∀ p H2, Ex H H2 → (q.1 = false → H p = none) → SqH H2 (q.1, p) xs → S H2 (.ref p)) ∨ ∃ s : Str, x = .str s ∧ S H x) ∧ ∀ y H2, Ex H H2 → S H2 y → Q y H2
theorem ok_copied (T : TX K mg) : FnOk P w K mg base CX0 1 T.f_copied T.fd_copied ["strategy"] sp_copied := by
  refine T.F_copied.ok sc_copied (fun vs H Q E h => ?_) (fun cdv A outer s H vs Q E hr h => ?_)
  · obtain ⟨x, S, rfl, _⟩ := h
    rfl
  · refine ⟨_, (pss_one (ps_ret (pe_ifExp (pt_val (pe_callB call_isi (by rfl) T.z_isinstance (by decide +kernel) (pa_cons (pv 0) (pa_cons (pe_bltn (v := .ty "list") rfl T.z_list (by decide +kernel) rfl) pa_nil)))) (pe_callTy call_list_of (by rfl) T.z_list (by decide +kernel) (pa_cons (pv 0) pa_nil)) (pv 0)))), ?_⟩
    obtain ⟨x, S, rfl, h, kk⟩ := h
    rcases h with ⟨⟨b, a⟩, xs, rfl, hq, k⟩ | ⟨s, rfl, k⟩
    · cases b with
      | false =>
        have hq : H a = some (.lst xs) := hq
        refine ⟨_, rfl, _, _, _, _, true, rfl, .ty _, .base (.lst hq), kit_ty (by decide +kernel), _, rfl, itt rfl ?_⟩
        exact ⟨_, rfl, a, _, rfl, .inl (SqL.of hq), fun p hp => kk _ _ (exn hp) (k p _ (exn hp) (fun _ => hp) upd_same)⟩
      | true =>
        have hq : H a = some (.tup xs) := hq
        refine ⟨_, rfl, _, _, _, _, false, rfl, .ty _, .base (.tup hq), kit_ty (by decide +kernel), _, rfl, itf rfl ?_⟩
        exact ⟨_, rfl, kk _ _ exr (k a H exr (fun z => by cases z) hq)⟩
    · refine ⟨_, rfl, _, _, _, _, false, rfl, .ty _, .base (.str _), kit_ty (by decide +kernel), _, rfl, itf rfl ?_⟩
      exact ⟨_, rfl, kk _ _ exr k⟩
def sp_depths_for (K : PySem.W.Frag) (C : Addr) : Sp := fun vs H Q _ => ∃ (t g x : V) (S : Hp → V → Prop), vs = [t, g, x] ∧ ((StrA K H x none ∧ S H .non) ∨ ∃ (a : Addr) (q : Bool × Addr) (ns : List Int) (tss : List (List Int)), x = .str "layers" ∧ t = .ref a ∧ g = .ref q.2 ∧ TabAt C H a ns ∧ SzOk ns ∧ prodL ns ≤ 300 ∧ RowsQ H q tss ∧ tss ≠ [] ∧ tss.length ≤ 1000 ∧ (∀ ts ∈ tss, SeatOk ns ts) ∧ tss.Nodup ∧
  ∀ d H2, Ex H H2 → H d = none → CntAt H2 d (countsL ns tss) → S H2 (.ref d)) ∧ ∀ y H2, Ex H H2 → S H2 y → Q y H2
theorem ok_depths_for (T : TX K mg) : FnOk P w K mg base CX0 4 T.f_depths_for T.fd_depths_for ["table", "targets", "strategy"] (sp_depths_for K T.C_Table) := by
  refine T.F_depths_for.ok sc_depths_for (fun vs H Q E h => ?_) (fun cdv A outer s H vs Q E hr h => ?_)
  · obtain ⟨t, g, x, S, rfl, _⟩ := h
    rfl
  · obtain ⟨t, g, x, S, rfl, h, kk⟩ := h
    refine ⟨_, (pss_cons (ps_if (pt_not (pt_val (pe_call (ok_is_layers T) (hr.mono (by decide)) rfl T.m_is_layers T.F_is_layers.kp T.b_is_layers .nil pass0 (pa_cons (pv 2) pa_nil)))) (pss_one (ps_ret pe_non)) pss_nil) (pss_cons (ps_expr (pe_call (ok_require_small T) (hr.mono (by decide)) rfl T.m_require_small T.F_require_small.kp T.b_require_small .nil pass0 (pa_cons (pv 0) pa_nil))) (pss_one (ps_ret (pe_call (ok_call_counts T) hr rfl T.m_call_counts T.F_call_counts.kp T.b_call_counts .nil pass0 (pa_cons (pv 0) (pa_cons (pv 1) pa_nil))))))), ?_⟩
    rcases h with ⟨hx, k⟩ | ⟨a, q, ns, tss, rfl, rfl, rfl, tab, ok, pr, hq, ne, lt, sks, nod, k⟩
    · exact ⟨_, rfl, x, rfl, .inl ⟨hx, _, rfl, itt rfl (kk _ _ exr k)⟩⟩
    · refine ⟨_, rfl, _, rfl, .inr ⟨rfl, _, rfl, itf rfl ?_⟩⟩
      refine ⟨_, rfl, a, ns, rfl, tab, ok, pr, ?_⟩
      exact ⟨_, rfl, _, rfl, a, q, ns, tss, rfl, tab, ok, pr, hq, ne, lt, sks, nod, fun d H2 e n c => kk _ _ e (k d H2 e n c)⟩
def sp_is_calls (C : Addr) : Sp := fun vs H Q _ => ∃ (a l : Addr) (ns : List Int) (css : List (List Int)), vs = [.ref a, .ref l] ∧ TabAt C H a ns ∧ ns.length ≤ 4 ∧ RowsAt H l css ∧ css ≠ [] ∧ css.length ≤ 100000 ∧ (∀ cs ∈ css, cs.length = ns.length) ∧ ∀ H2, Ex H H2 → Q (.bl true) H2
theorem ok_is_calls (T : TX K mg) : FnOk P w K mg base CX0 3 T.f_is_calls T.fd_is_calls ["table", "strategy"] (sp_is_calls T.C_Table) := by
  refine T.F_is_calls.ok sc_is_calls (fun vs H Q E h => ?_) (fun cdv A outer s H vs Q E hr h => ?_)
  · obtain ⟨a, l, ns, css, rfl, _⟩ := h
    rfl
  · obtain ⟨a, l, ns, css, rfl, tab, l4, ⟨xs, hl, rr⟩, ne, lc, hc, k⟩ := h
    refine ⟨_, (pss_one (ps_ret (pe_and (pe_callB call_isi (by rfl) T.z_isinstance (by decide +kernel) (pa_cons (pv 1) (pa_cons (pe_bltn (v := .ty "list") rfl T.z_list (by decide +kernel) rfl) pa_nil))) (pe_and (pe_cmpR (r := rNeD K) (op_neD hr.units) (pv 1) (pe_lst pa_nil) (nomark _)) (pe_one (pe_callB (cr_all rfl) (by rfl) T.z_all (by decide +kernel) (pa_cons (pe_lc (own := [("call", 2)]) (g := (gName 2)) rfl sc_is_calls.nd (pi_list (pv 1)) (blkOk_by (N := N_is_calls) (sc := defScope s_is_calls) (by decide +kernel)) (fun _ _ _ _ _ => (pg_name (i := 2) sc_is_calls.nd rfl (Or.inl rfl))) (fun _ _ _ _ _ => pts_nil) (fun _ _ _ _ _ => (pe_meth (pv 0) T.cl_Table T.me_Table_is_call (ok_Table_is_call T) hr T.b_Table_is_call .nil pass0 (pa_cons (pv 2) pa_nil)))) pa_nil))))))), ?_⟩
    refine ⟨_, rfl, _, _, _, _, true, rfl, .ty _, .base (.lst hl), kit_ty (by decide +kernel), _, rfl, iteT ?_⟩
    refine ⟨_, rfl, slen rfl, ?_⟩
    (intro el nel; generalize hGel : upd _ el _ = H1; have eH1 := exG hGel nel; have hel := atG hGel; clear hGel)
    have shR : ∀ rows : List (List Int), Sh 60 (.list (rows.map iT)) := fun rows => sh_list (n := 59) fun d hd => by
      obtain ⟨r, _, rfl⟩ := List.mem_map.mp hd
      exact (sh_ints (n := 58) r)
    refine ⟨_, _, .lst (SqL.of (eH1 _ _ hl)) (rr.mono eH1).dp, .lst (SqL.of hel) (RowsR.dp (hss := []) .nil), (shR css).ok, (shR []).ok, _, rfl, ?_⟩
    have lx : xs.length = css.length := Paired.length rr
    refine iteT' (eqv_ne ne) ?_
    refine ⟨_, rfl, l, rfl, ⟨_, SqL.of (eH1 _ _ hl)⟩, fun D hD => ?_⟩
    refine lc_vals (walk_list (xs := xs)) ((List.replicate css.length true).map V.bl) (by simp [lx]) (by omega) hD (fun H3 e => SqL.of (e _ _ (eH1 _ _ hl))) ?_ gmono_name ?_
    · rintro j x _ H2 R hj e2 ⟨rfl, hx⟩ kk
      obtain ⟨cs, r, hcs, rfl, hr2⟩ := rr.get hx
      have E2 := ext eH1 e2
      obtain ⟨dx, t, g1, g2⟩ := tab.mono E2
      have lcs := hc cs (List.mem_of_getElem? hcs)
      refine ⟨rfl, _, rfl, a, dx, _, rfl, g1, rfl, _, rfl, a, _, ns, _, rfl, ⟨dx, t, g1, g2⟩, TupA.ints (E2 _ _ hr2) (by omega), fun H3 e3 => kk _ _ e3 ?_⟩
      rw [isCall_ok lcs, List.getElem?_map, List.getElem?_replicate, if_pos (by rw [← lx]; exact hj)]
      rfl
    · intro H2 e2 hD2
      refine ⟨D, _, rfl, SqL.of hD2, ?_⟩
      have : (List.replicate css.length true).all id = true := by simp
      rw [this]
      exact k _ (ext eH1 e2)
def sp_is_directions : Sp := fun vs H Q _ => ∃ (l : Addr), vs = [.ref l] ∧ ((∃ xs, H l = some (.tup xs) ∧ Q (.bl false) H) ∨ ∃ ws : List Bool, H l = some (.lst (wordsV ws)) ∧ ws ≠ [] ∧ ws.length ≤ 100000 ∧ ∀ H2, Ex H H2 → Q (.bl true) H2)
theorem ok_is_directions (T : TX K mg) : FnOk P w K mg base CX0 2 T.f_is_directions T.fd_is_directions ["strategy"] sp_is_directions := by
  refine T.F_is_directions.ok sc_is_directions (fun vs H Q E h => ?_) (fun cdv A outer s H vs Q E hr h => ?_)
  · obtain ⟨l, rfl, _⟩ := h
    rfl
  · obtain ⟨l, rfl, h⟩ := h
    refine ⟨_, (pss_one (ps_ret (pe_and (pe_callB call_isi (by rfl) T.z_isinstance (by decide +kernel) (pa_cons (pv 0) (pa_cons (pe_bltn (v := .ty "list") rfl T.z_list (by decide +kernel) rfl) pa_nil))) (pe_and (pe_cmpR (r := rNeD K) (op_neD hr.units) (pv 0) (pe_lst pa_nil) (nomark _)) (pe_one (pe_callB (cr_all rfl) (by rfl) T.z_all (by decide +kernel) (pa_cons (pe_lc (own := [("one", 1)]) (g := (gName 1)) rfl sc_is_directions.nd (pi_list (pv 0)) (blkOk_by (N := N_is_directions) (sc := defScope s_is_directions) (by decide +kernel)) (fun _ _ _ _ _ => (pg_name (i := 1) sc_is_directions.nd rfl (Or.inl rfl))) (fun _ _ _ _ _ => pts_nil) (fun _ _ _ _ _ => (pe_call (ok_is_direction T) hr rfl T.m_is_direction T.F_is_direction.kp T.b_is_direction .nil pass0 (pa_cons (pv 1) pa_nil)))) pa_nil))))))), ?_⟩
    rcases h with ⟨xs, hl, k⟩ | ⟨ws, hl, ne, lw, k⟩
    · exact ⟨_, rfl, _, _, _, _, false, rfl, .ty _, .base (.tup hl), kit_ty (by decide +kernel), _, rfl, k⟩
    · refine ⟨_, rfl, _, _, _, _, true, rfl, .ty _, .base (.lst hl), kit_ty (by decide +kernel), _, rfl, iteT ?_⟩
      refine ⟨_, rfl, slen rfl, ?_⟩
      (intro el nel; generalize hGel : upd _ el _ = H1; have eH1 := exG hGel nel; have hel := atG hGel; clear hGel)
      refine ⟨_, _, .lst (SqL.of (eH1 _ _ hl)) (dp_words ws), .lst (SqL.of hel) .nil, (sh_words ws).ok, (sh_words []).ok, _, rfl, ?_⟩
      refine iteT' (eqv_neW ne) ?_
      refine ⟨_, rfl, l, rfl, ⟨_, SqL.of (eH1 _ _ hl)⟩, fun D hD => ?_⟩
      refine lc_vals (walk_list (xs := wordsV ws)) ((List.replicate ws.length true).map V.bl) (by simp) (by simp; omega) hD (fun H3 e => SqL.of (e _ _ (eH1 _ _ hl))) ?_ gmono_name ?_
      · rintro j x _ H2 R hj e2 ⟨rfl, hx⟩ kk
        obtain ⟨b, hb, rfl⟩ : ∃ b, ws[j]? = some b ∧ V.str (awayW b) = x := by
          rw [List.getElem?_map] at hx
          cases hb : ws[j]? with
          | none => rw [hb] at hx; cases hx
          | some b => rw [hb] at hx; exact ⟨b, rfl, Option.some.inj hx⟩
        have jl : j < ws.length := (List.getElem?_eq_some_iff.mp hb).1
        refine ⟨rfl, _, rfl, _, some (awayW b), rfl, rfl, fun H3 e3 => kk _ _ e3 ?_⟩
        rw [List.getElem?_map, List.getElem?_replicate, if_pos jl]
        cases b <;> rfl
      · intro H2 e2 hD2
        refine ⟨D, _, rfl, SqL.of hD2, ?_⟩
        have : (List.replicate ws.length true).all id = true := by simp
        rw [this]
        exact k _ (ext eH1 e2)
def sp_is_shared_witness (C : Addr) : Sp := fun vs H Q _ => ∃ (a wt : Addr) (q : Bool × Addr) (ns ws : List Int) (tss : List (List Int)) (m r : Int), vs = [.ref a, .ref q.2, .ref wt] ∧ TabAt C H a ns ∧ SzOk ns ∧ (∀ n ∈ ns, n.natAbs < 2 ^ 5000) ∧ RowsQ H q tss ∧ tss.length ≤ 100000 ∧ (∀ ts ∈ tss, SeatOk ns ts) ∧ WitAt H wt m ws r ∧ WitOk ns m ws r ∧ m.natAbs < 2 ^ 5000 ∧ (∀ t ∈ tss, wsum ws t % m = r) ∧ ∀ H2, Ex H H2 → Q (.bl true) H2
theorem ok_is_shared_witness (T : TX K mg) : FnOk P w K mg base CX0 4 T.f_is_shared_witness T.fd_is_shared_witness ["table", "targets", "strategy"] (sp_is_shared_witness T.C_Table) := by
  refine T.F_is_shared_witness.ok sc_is_shared_witness (fun vs H Q E h => ?_) (fun cdv A outer s H vs Q E hr h => ?_)
  · obtain ⟨a, wt, q, ns, ws, tss, m, r, rfl, _⟩ := h
    rfl
  · obtain ⟨a, wt, q, ns, ws, tss, m, r, rfl, tab, ok, bn, ⟨xs, hq, rr⟩, lt, sks, hw, wok, bm, ht, k⟩ := h
    refine ⟨_, (pss_one (ps_ret (pe_and (pe_call (ok_is_witness T) hr rfl T.m_is_witness T.F_is_witness.kp T.b_is_witness .nil pass0 (pa_cons (pv 0) (pa_cons (pv 2) pa_nil))) (pe_one (pe_callB (cr_all rfl) (by rfl) T.z_all (by decide +kernel) (pa_cons (pe_lc (own := [("target", 3)]) (g := (gName 3)) rfl sc_is_shared_witness.nd (pi_seq (pv 1)) (blkOk_by (N := N_is_shared_witness) (sc := defScope s_is_shared_witness) (by decide +kernel)) (fun _ _ _ _ _ => (pg_name (i := 3) sc_is_shared_witness.nd rfl (Or.inl rfl))) (fun _ _ _ _ _ => pts_nil) (fun _ _ _ _ _ => (pe_call (ok_has_residue T) (hr.mono (by decide)) rfl T.m_has_residue T.F_has_residue.kp T.b_has_residue .nil pass0 (pa_cons (pv 2) (pa_cons (pv 3) pa_nil))))) pa_nil)))))), ?_⟩
    have m3 := wok.m3
    have bw : ∀ x ∈ ws, x.natAbs < 2 ^ 5000 := fun x hx => by
      obtain ⟨x0, x1⟩ := wok.w0 x hx
      exact Nat.lt_of_le_of_lt (by omega) bm
    have lx : xs.length = tss.length := Paired.length rr
    refine ⟨_, rfl, _, rfl, a, wt, ns, ws, m, r, rfl, tab, ok.le, bn, hw, wok, bm, fun H1 e1 => ⟨_, rfl, iteT ?_⟩⟩
    have hq1 := hq.mono e1
    refine ⟨_, rfl, q, rfl, ⟨_, hq1.sq⟩, fun D hD => ?_⟩
    refine lc_vals (walk_seq (xs := xs)) ((List.replicate tss.length true).map V.bl) (by simp [lx]) (by omega) hD (fun H3 e => (hq1.mono e).sq) ?_ gmono_name ?_
    · rintro j x _ H2 R hj e2 ⟨rfl, hx⟩ kk
      obtain ⟨ts, rf, hts, rfl, hr2⟩ := rr.get hx
      have E2 := ext e1 e2
      have sk := sks ts (List.mem_of_getElem? hts)
      refine ⟨rfl, _, rfl, _, rfl, wt, rf, ws, ts, m, r, rfl, hw.mono E2, by omega, E2 _ _ hr2, by rw [wok.len, sk.len], by rw [sk.len]; exact ok.le, bw, seat_small sk bn, fun H3 e3 => kk _ _ e3 ?_⟩
      rw [decide_eq_true (ht ts (List.mem_of_getElem? hts)), List.getElem?_map, List.getElem?_replicate, if_pos (by rw [← lx]; exact hj)]
      rfl
    · intro H2 e2 hD2
      refine ⟨D, _, rfl, SqL.of hD2, ?_⟩
      have : (List.replicate tss.length true).all id = true := by simp
      rw [this]
      exact k _ (ext e1 e2)
end

/-- all but instances stays -/
def XI (H H2 : Hp) : Prop := ∀ c o, (∀ C dx fs, o ≠ .ins C dx fs) → H c = some o → H2 c = some o
theorem XI.of {H H2 : Hp} (e : Ex H H2) : XI H H2 := fun c o _ h => e c o h
theorem XI.tup {H H2 : Hp} (x : XI H H2) {c : Addr} {xs : List V} (h : H c = some (.tup xs)) : H2 c = some (.tup xs) := x _ _ (fun _ _ _ z => by cases z) h
theorem XI.lst {H H2 : Hp} (x : XI H H2) {c : Addr} {xs : List V} (h : H c = some (.lst xs)) : H2 c = some (.lst xs) := x _ _ (fun _ _ _ z => by cases z) h
theorem XI.cnt {H H2 : Hp} (x : XI H H2) {c : Addr} {fs : List (List Int × Nat)} (h : CntAt H c fs) : CntAt H2 c fs := x _ _ (fun _ _ _ z => by cases z) h
theorem XI.rows {H H2 : Hp} (x : XI H H2) {xs : List V} {tss : List (List Int)} (h : RowsR H xs tss) : RowsR H2 xs tss := h.monoT fun _ _ z => x.tup z
theorem XI.rowsAt {H H2 : Hp} (x : XI H H2) {c : Addr} {tss : List (List Int)} (h : RowsAt H c tss) : RowsAt H2 c tss := by
  obtain ⟨xs, h1, h2⟩ := h
  exact ⟨xs, x.lst h1, x.rows h2⟩
theorem XI.wit {H H2 : Hp} (x : XI H H2) {c : Addr} {m r : Int} {ws : List Int} (h : WitAt H c m ws r) : WitAt H2 c m ws r := by
  obtain ⟨wa, h1, h2⟩ := h
  exact ⟨wa, x.tup h1, x.tup h2⟩
/-- how a caller calls -/
inductive CSt
  | calls (css : List (List Int))
  | lay (fs : List (List Int × Nat))
def CSt.At (H : Hp) : CSt → V → Prop
  | .calls css, st => ∃ l, st = .ref l ∧ RowsAt H l css
  | .lay _, st => st = .str "layers"
def CSt.Dp (H : Hp) : CSt → V → Prop
  | .calls _, dv => dv = .non
  | .lay fs, dv => ∃ d, dv = .ref d ∧ CntAt H d fs
def CSt.Ok (ns : List Int) (tss : List (List Int)) : CSt → Prop
  | .calls css => css ≠ [] ∧ css.length ≤ 100000 ∧ ∀ cs ∈ css, cs.length = ns.length
  | .lay fs => fs = countsL ns tss ∧ prodL ns ≤ 300
theorem CSt.At.xi {H H2 : Hp} (x : XI H H2) : ∀ {cs : CSt} {st : V}, cs.At H st → cs.At H2 st
  | .calls _, _, ⟨l, e, h⟩ => ⟨l, e, x.rowsAt h⟩
  | .lay _, _, h => h
theorem CSt.Dp.xi {H H2 : Hp} (x : XI H H2) : ∀ {cs : CSt} {st : V}, cs.Dp H st → cs.Dp H2 st
  | .calls _, _, h => h
  | .lay _, _, ⟨l, e, h⟩ => ⟨l, e, x.cnt h⟩
def CallerAt (CC C : Addr) (H : Hp) (p : Addr) (ns : List Int) (tss : List (List Int)) (cs : CSt) : Prop := ∃ (dx a g : Addr) (st dv : V) (u : Nat) (gs : List V), H p = some (.ins CC dx [("table", .ref a), ("goals", .ref g), ("strategy", st), ("used", .int (u : Int)), ("depths", dv)]) ∧ TabAt C H a ns ∧ H g = some (.tup gs) ∧ RowsR H gs tss ∧ cs.At H st ∧ cs.Dp H dv
theorem CallerAt.mono {CC C p : Addr} {H H2 : Hp} {ns : List Int} {tss : List (List Int)} {cs : CSt} (e : Ex H H2) (h : CallerAt CC C H p ns tss cs) : CallerAt CC C H2 p ns tss cs := by
  obtain ⟨dx, a, g, st, dv, u, gs, h1, h2, h3, h4, h5, h6⟩ := h
  exact ⟨dx, a, g, st, dv, u, gs, e _ _ h1, h2.mono e, e _ _ h3, h4.mono e, h5.xi (XI.of e), h6.xi (XI.of e)⟩
/-- how a responder answers -/
inductive RS
  | words (bs : List Bool)
  | wit (m : Int) (ws : List Int) (r : Int)
  | lay (fs : List (List Int × Nat))
def RS.At (H : Hp) : RS → V → Prop
  | .words bs, st => ∃ l, st = .ref l ∧ H l = some (.lst (wordsV bs))
  | .wit m ws r, st => ∃ l, st = .ref l ∧ WitAt H l m ws r
  | .lay _, st => st = .str "layers"
def RS.Dp (H : Hp) : RS → V → Prop
  | .words _, dv => dv = .non
  | .wit _ _ _, dv => dv = .non
  | .lay fs, dv => ∃ d, dv = .ref d ∧ CntAt H d fs
def RS.Ok (ns : List Int) (tss : List (List Int)) : RS → Prop
  | .words bs => bs ≠ [] ∧ bs.length ≤ 100000
  | .wit m ws r => WitOk ns m ws r ∧ m.natAbs < 2 ^ 5000 ∧ ∀ t ∈ tss, wsum ws t % m = r
  | .lay fs => fs = countsL ns tss ∧ prodL ns ≤ 300
theorem RS.At.xi {H H2 : Hp} (x : XI H H2) : ∀ {rs : RS} {st : V}, rs.At H st → rs.At H2 st
  | .words _, _, ⟨l, e, h⟩ => ⟨l, e, x.lst h⟩
  | .wit _ _ _, _, ⟨l, e, h⟩ => ⟨l, e, x.wit h⟩
  | .lay _, _, h => h
theorem RS.Dp.xi {H H2 : Hp} (x : XI H H2) : ∀ {rs : RS} {st : V}, rs.Dp H st → rs.Dp H2 st
  | .words _, _, h => h
  | .wit _ _ _, _, h => h
  | .lay _, _, ⟨l, e, h⟩ => ⟨l, e, x.cnt h⟩
def RespAt (CR C : Addr) (H : Hp) (p : Addr) (ns : List Int) (tss : List (List Int)) (rs : RS) : Prop := ∃ (dx a g : Addr) (st dv : V) (u : Nat) (gs : List V), H p = some (.ins CR dx [("table", .ref a), ("goals", .ref g), ("strategy", st), ("used", .int (u : Int)), ("depths", dv)]) ∧ TabAt C H a ns ∧ H g = some (.tup gs) ∧ RowsR H gs tss ∧ rs.At H st ∧ rs.Dp H dv
theorem RespAt.mono {CC C p : Addr} {H H2 : Hp} {ns : List Int} {tss : List (List Int)} {rs : RS} (e : Ex H H2) (h : RespAt CC C H p ns tss rs) : RespAt CC C H2 p ns tss rs := by
  obtain ⟨dx, a, g, st, dv, u, gs, h1, h2, h3, h4, h5, h6⟩ := h
  exact ⟨dx, a, g, st, dv, u, gs, e _ _ h1, h2.mono e, e _ _ h3, h4.mono e, h5.xi (XI.of e), h6.xi (XI.of e)⟩
/-- .. whose next call is the u-th -/
def CallerU (CC C : Addr) (H : Hp) (p : Addr) (ns : List Int) (tss : List (List Int)) (cs : CSt) (u : Nat) : Prop := ∃ (dx a g : Addr) (st dv : V) (gs : List V), H p = some (.ins CC dx [("table", .ref a), ("goals", .ref g), ("strategy", st), ("used", .int (u : Int)), ("depths", dv)]) ∧ TabAt C H a ns ∧ H g = some (.tup gs) ∧ RowsR H gs tss ∧ cs.At H st ∧ cs.Dp H dv
theorem CallerU.at {CC C p : Addr} {H : Hp} {ns : List Int} {tss : List (List Int)} {cs : CSt} {u : Nat} (h : CallerU CC C H p ns tss cs u) : CallerAt CC C H p ns tss cs := by
  obtain ⟨dx, a, g, st, dv, gs, h1, h2, h3, h4, h5, h6⟩ := h
  exact ⟨dx, a, g, st, dv, u, gs, h1, h2, h3, h4, h5, h6⟩
theorem CallerU.mono {CC C p : Addr} {H H2 : Hp} {ns : List Int} {tss : List (List Int)} {cs : CSt} {u : Nat} (e : Ex H H2) (h : CallerU CC C H p ns tss cs u) : CallerU CC C H2 p ns tss cs u := by
  obtain ⟨dx, a, g, st, dv, gs, h1, h2, h3, h4, h5, h6⟩ := h
  exact ⟨dx, a, g, st, dv, gs, e _ _ h1, h2.mono e, e _ _ h3, h4.mono e, h5.xi (XI.of e), h6.xi (XI.of e)⟩
def RespU (CR C : Addr) (H : Hp) (p : Addr) (ns : List Int) (tss : List (List Int)) (rs : RS) (u : Nat) : Prop := ∃ (dx a g : Addr) (st dv : V) (gs : List V), H p = some (.ins CR dx [("table", .ref a), ("goals", .ref g), ("strategy", st), ("used", .int (u : Int)), ("depths", dv)]) ∧ TabAt C H a ns ∧ H g = some (.tup gs) ∧ RowsR H gs tss ∧ rs.At H st ∧ rs.Dp H dv
theorem RespU.at {CC C p : Addr} {H : Hp} {ns : List Int} {tss : List (List Int)} {rs : RS} {u : Nat} (h : RespU CC C H p ns tss rs u) : RespAt CC C H p ns tss rs := by
  obtain ⟨dx, a, g, st, dv, gs, h1, h2, h3, h4, h5, h6⟩ := h
  exact ⟨dx, a, g, st, dv, u, gs, h1, h2, h3, h4, h5, h6⟩
theorem RespU.mono {CC C p : Addr} {H H2 : Hp} {ns : List Int} {tss : List (List Int)} {rs : RS} {u : Nat} (e : Ex H H2) (h : RespU CC C H p ns tss rs u) : RespU CC C H2 p ns tss rs u := by
  obtain ⟨dx, a, g, st, dv, gs, h1, h2, h3, h4, h5, h6⟩ := h
  exact ⟨dx, a, g, st, dv, gs, e _ _ h1, h2.mono e, e _ _ h3, h4.mono e, h5.xi (XI.of e), h6.xi (XI.of e)⟩
/-- .. whose strategy is not the list at m -/
def RespO (CR C : Addr) (H : Hp) (p : Addr) (ns : List Int) (tss : List (List Int)) (rs : RS) (u : Nat) (m : Addr) : Prop := ∃ (dx a g : Addr) (st dv : V) (gs : List V), H p = some (.ins CR dx [("table", .ref a), ("goals", .ref g), ("strategy", st), ("used", .int (u : Int)), ("depths", dv)]) ∧ TabAt C H a ns ∧ H g = some (.tup gs) ∧ RowsR H gs tss ∧ rs.At H st ∧ rs.Dp H dv ∧ st ≠ .ref m
theorem RespO.mono {CR C p m : Addr} {H H2 : Hp} {ns : List Int} {tss : List (List Int)} {rs : RS} {u : Nat} (e : Ex H H2) (h : RespO CR C H p ns tss rs u m) : RespO CR C H2 p ns tss rs u m := by
  obtain ⟨dx, a, g, st, dv, gs, h1, h2, h3, h4, h5, h6, h7⟩ := h
  exact ⟨dx, a, g, st, dv, gs, e _ _ h1, h2.mono e, e _ _ h3, h4.mono e, h5.xi (XI.of e), h6.xi (XI.of e), h7⟩
/-- the list at m changes -/
theorem RespO.cut {CR C p m : Addr} {H H2 : Hp} {ns : List Int} {tss : List (List Int)} {rs : RS} {u : Nat} {zs : List V} (hm : H m = some (.lst zs)) (e : ∀ c o, c ≠ m → H c = some o → H2 c = some o) (h : RespO CR C H p ns tss rs u m) : RespU CR C H2 p ns tss rs u := by
  obtain ⟨dx, a, g, st, dv, gs, h1, ⟨dt, t, t1, t2⟩, h3, h4, h5, h6, h7⟩ := h
  have tp : ∀ {c : Addr} {xs : List V}, H c = some (.tup xs) → H2 c = some (.tup xs) := fun z => e _ _ (ne_of z hm (by intro z; cases z)) z
  refine ⟨dx, a, g, st, dv, gs, e _ _ (ne_of h1 hm (by intro z; cases z)) h1, ⟨dt, t, e _ _ (ne_of t1 hm (by intro z; cases z)) t1, tp t2⟩, tp h3, h4.monoT fun _ _ z => tp z, ?_, ?_⟩
  · cases rs with
    | words bs =>
      obtain ⟨l, rfl, h⟩ := h5
      exact ⟨l, rfl, e _ _ (fun z => h7 (by rw [z])) h⟩
    | wit m ws r =>
      obtain ⟨l, e1, wa, q1, q2⟩ := h5
      exact ⟨l, e1, wa, tp q1, tp q2⟩
    | lay fs => exact h5
  · cases rs with
    | words bs => exact h6
    | wit m ws r => exact h6
    | lay fs =>
      obtain ⟨d, e1, q⟩ := h6
      exact ⟨d, e1, e _ _ (ne_of q hm (by intro z; cases z)) q⟩
def CallerO (CC C : Addr) (H : Hp) (p : Addr) (ns : List Int) (tss : List (List Int)) (cs : CSt) (u : Nat) (m : Addr) : Prop := ∃ (dx a g : Addr) (st dv : V) (gs : List V), H p = some (.ins CC dx [("table", .ref a), ("goals", .ref g), ("strategy", st), ("used", .int (u : Int)), ("depths", dv)]) ∧ TabAt C H a ns ∧ H g = some (.tup gs) ∧ RowsR H gs tss ∧ cs.At H st ∧ cs.Dp H dv ∧ st ≠ .ref m
theorem CallerO.mono {CC C p m : Addr} {H H2 : Hp} {ns : List Int} {tss : List (List Int)} {cs : CSt} {u : Nat} (e : Ex H H2) (h : CallerO CC C H p ns tss cs u m) : CallerO CC C H2 p ns tss cs u m := by
  obtain ⟨dx, a, g, st, dv, gs, h1, h2, h3, h4, h5, h6, h7⟩ := h
  exact ⟨dx, a, g, st, dv, gs, e _ _ h1, h2.mono e, e _ _ h3, h4.mono e, h5.xi (XI.of e), h6.xi (XI.of e), h7⟩
theorem CallerO.cut {CC C p m : Addr} {H H2 : Hp} {ns : List Int} {tss : List (List Int)} {cs : CSt} {u : Nat} {zs : List V} (hm : H m = some (.lst zs)) (e : ∀ c o, c ≠ m → H c = some o → H2 c = some o) (h : CallerO CC C H p ns tss cs u m) : CallerU CC C H2 p ns tss cs u := by
  obtain ⟨dx, a, g, st, dv, gs, h1, ⟨dt, t, t1, t2⟩, h3, h4, h5, h6, h7⟩ := h
  have tp : ∀ {c : Addr} {xs : List V}, H c = some (.tup xs) → H2 c = some (.tup xs) := fun z => e _ _ (ne_of z hm (by intro z; cases z)) z
  refine ⟨dx, a, g, st, dv, gs, e _ _ (ne_of h1 hm (by intro z; cases z)) h1, ⟨dt, t, e _ _ (ne_of t1 hm (by intro z; cases z)) t1, tp t2⟩, tp h3, h4.monoT fun _ _ z => tp z, ?_, ?_⟩
  · cases cs with
    | calls css =>
      obtain ⟨l, rfl, xs, q1, q2⟩ := h5
      exact ⟨l, rfl, xs, e _ _ (fun z => h7 (by rw [z])) q1, q2.monoT fun _ _ z => tp z⟩
    | lay fs => exact h5
  · cases cs with
    | calls css => exact h6
    | lay fs =>
      obtain ⟨d, e1, q⟩ := h6
      exact ⟨d, e1, e _ _ (ne_of q hm (by intro z; cases z)) q⟩
section
variable {P : Program} {w : World} {K : PySem.W.Frag} {mg : Str → Option Value} {base : Heap}
def sp_Caller_init (CC C : Addr) : Sp := fun vs H Q _ => ∃ (p dx a : Addr) (x : V) (q : Bool × Addr) (ns : List Int) (tss : List (List Int)) (cs : CSt) (H0 : Hp), vs = [.ref p, .ref a, .ref q.2, x] ∧ H p = some (.ins CC dx []) ∧ H0 p = none ∧ Ex H0 H ∧ TabAt C H0 a ns ∧ SzOk ns ∧ RowsQ H0 q tss ∧ tss ≠ [] ∧ tss.length ≤ 1000 ∧ (∀ ts ∈ tss, SeatOk ns ts) ∧ tss.Nodup ∧
  (∀ n ∈ ns, n.natAbs < 2 ^ 5000) ∧ cs.At H0 x ∧ cs.Ok ns tss ∧ ∀ H2, Ex H0 H2 → (∀ m zs, H0 m = some (.lst zs) → CallerO CC C H2 p ns tss cs 0 m) → CallerU CC C H2 p ns tss cs 0 → Q .non H2
theorem ok_Caller_init (T : TX K mg) : FnOk P w K mg base CX0 6 T.f_Caller_init T.fd_Caller_init ["self", "table", "targets", "strategy"] (sp_Caller_init T.C_Caller T.C_Table) := by
  refine T.F_Caller_init.ok sc_Caller_init (fun vs H Q E h => ?_) (fun cdv A outer s H vs Q E hr h => ?_)
  · obtain ⟨p, dx, a, x, q, ns, tss, cs, H0, rfl, _⟩ := h
    rfl
  · obtain ⟨p, dx, a, x, q, ns, tss, cs, H0, rfl, hp, np, e0, tab, ok, hq, ne, lt, sks, nod, bn, hl, hrs, k⟩ := h
    refine ⟨_, (pss_cons (ps_expr (pe_call (ok_require_table T) hr rfl T.m_require_table T.F_require_table.kp T.b_require_table .nil pass0 (pa_cons (pv 1) pa_nil))) (pss_cons (ps_expr (pe_call (ok_require_targets T) (hr.mono (by decide)) rfl T.m_require_targets T.F_require_targets.kp T.b_require_targets .nil pass0 (pa_cons (pv 1) (pa_cons (pv 2) pa_nil)))) (pss_cons (ps_if (PW.pt (pw_and (pt_not (pt_val (pe_call (ok_is_layers T) (hr.mono (by decide)) rfl T.m_is_layers T.F_is_layers.kp T.b_is_layers .nil pass0 (pa_cons (pv 3) pa_nil)))) (pw_and1 (pt_not (pt_val (pe_call (ok_is_calls T) (hr.mono (by decide)) rfl T.m_is_calls T.F_is_calls.kp T.b_is_calls .nil pass0 (pa_cons (pv 1) (pa_cons (pv 3) pa_nil)))))))) pss_never pss_nil) (pss_cons (ps_asg (pe_tup (pa_cons (pv 1) (pa_cons (pe_callTy call_tuple_q (by rfl) T.z_tuple (by decide +kernel) (pa_cons (pv 2) pa_nil)) (pa_cons (pe_call (ok_copied T) (hr.mono (by decide)) rfl T.m_copied T.F_copied.kp T.b_copied .nil pass0 (pa_cons (pv 3) pa_nil)) (pa_cons pe_int pa_nil))))) (pg_tup rfl (pgs_cons (pg_fld (pv 0)) (pgs_cons (pg_fld (pv 0)) (pgs_cons (pg_fld (pv 0)) (pgs_cons (pg_fld (pv 0)) pgs_nil)))))) (pss_one (ps_fld (pv 0) (pe_call (ok_depths_for T) (hr.mono (by decide)) rfl T.m_depths_for T.F_depths_for.kp T.b_depths_for .nil pass0 (pa_cons (pv 1) (pa_cons (pv 2) (pa_cons (pv 3) pa_nil)))) rfl)))))), ?_⟩
    have l4 := ok.le
    refine ⟨_, rfl, a, ns, rfl, tab.mono e0, ?_⟩
    refine ⟨_, rfl, _, rfl, a, q, ns, tss, rfl, tab.mono e0, l4, hq.mono e0, ne, by omega, sks, nod, fun H1 e1 => ?_⟩
    have E1 := ext e0 e1
    dsimp only
    refine sif_ex (fun N hN => ?_) (fun H3 e3 => ?_)
    · have hl1 := hl.xi (XI.of E1)
      cases cs with
      | calls css =>
        obtain ⟨l, rfl, hrow⟩ := hl1
        obtain ⟨xs, hx1, hx2⟩ := id hrow
        refine ⟨_, rfl, _, rfl, .inl ⟨notStr_lst hx1, _, rfl, itt rfl ?_⟩⟩
        exact ⟨_, rfl, _, rfl, a, l, ns, css, rfl, tab.mono E1, l4, hrow, hrs.1, hrs.2.1, hrs.2.2, fun H3 e3 => ⟨_, rfl, itf rfl (hN _ e3)⟩⟩
      | lay fs =>
        obtain rfl : x = .str "layers" := hl1
        exact ⟨_, rfl, _, rfl, .inr ⟨rfl, _, rfl, itf rfl (hN _ exr)⟩⟩
    have E3 := ext E1 e3
    have hp3 := e3 _ _ (e1 _ _ hp)
    obtain ⟨gs, hq1, hq2⟩ := hq.mono E3
    refine ⟨_, rfl, _, rfl, q, _, rfl, hq1, fun g H4 e4 hg => ?_⟩
    have E4 := ext E3 e4
    refine ⟨_, rfl, x, fun H2 y => cs.At H2 y ∧ ∀ m zs, H0 m = some (.lst zs) → y ≠ .ref m, rfl, ?_, fun stv H5 e5 ⟨hst, hno⟩ => ?_⟩
    · have hl4 := hl.xi (XI.of E4)
      cases cs with
      | calls css =>
        obtain ⟨l, rfl, xs, hx1, hx2⟩ := hl4
        exact .inl ⟨(false, l), xs, rfl, hx1, fun p H2 e2 nf h2 => ⟨⟨p, rfl, xs, h2, hx2.mono e2⟩, fun m zs hm z => by
          injection z with z
          exact absurd (nf rfl) (by rw [z, E4 _ _ hm]; intro q; cases q)⟩⟩
      | lay fs =>
        obtain rfl : x = .str "layers" := hl4
        exact .inr ⟨_, rfl, rfl, fun m zs _ z => by cases z⟩
    (repeat (first | refine ⟨rfl, ?_⟩ | refine ⟨_, rfl, ?_⟩ | refine ⟨_, _, rfl, rfl, ?_⟩ | refine ⟨_, _, rfl, ?_⟩ | refine ⟨slen rfl, ?_⟩ | refine ⟨⟨by decide, by decide +kernel⟩, ?_⟩ | refine ⟨⟨by decide, by decide, by decide⟩, ?_⟩ | refine ⟨(by show (0 : Int) < _; first | decide | assumption | omega), ?_⟩ | refine ⟨mul_ok (by first | exact .inr (by decide) | exact .inl (by decide)), ?_⟩))
    (intro tp ntp; generalize hGtp : upd _ tp _ = H6; have eH6 := exG hGtp ntp; have htp := atG hGtp; clear hGtp)
    have E6 : Ex H3 H6 := ext e4 (ext e5 eH6)
    have hp6 := E6 _ _ hp3
    refine ⟨tp, _, rfl, SqT.of htp, rfl, ?_⟩
    refine ⟨_, _, rfl, _, rfl, p, T.C_Caller, dx, [], rfl, hp6, T.cl_Caller, T.n_Caller_table, (by decide), ?_⟩
    refine ⟨_, _, rfl, _, rfl, p, T.C_Caller, dx, _, rfl, upd_same, T.cl_Caller, T.n_Caller_goals, (by show 1 < 1000; decide), ?_⟩
    refine ⟨_, _, rfl, _, rfl, p, T.C_Caller, dx, _, rfl, upd_same, T.cl_Caller, T.n_Caller_strategy, (by show 2 < 1000; decide), ?_⟩
    refine ⟨_, _, rfl, _, rfl, p, T.C_Caller, dx, _, rfl, upd_same, T.cl_Caller, T.n_Caller_used, (by show 3 < 1000; decide), ?_⟩
    refine ⟨rfl, ?_⟩
    generalize hG7 : upd (upd (upd (upd H6 p _) p _) p _) p _ = H7
    have hp7 : H7 p = some (.ins T.C_Caller dx [("table", .ref a), ("goals", .ref g), ("strategy", stv), ("used", .int 0)]) := by rw [← hG7]; exact upd_same
    have X7 : ∀ c o, c ≠ p → H6 c = some o → H7 c = some o := fun c o n z => by rw [← hG7, upd_ne n, upd_ne n, upd_ne n, upd_ne n]; exact z
    clear hG7
    have XI7 : XI H6 H7 := fun c o n z => X7 c o (ne_of z hp6 (n _ _ _)) z
    have E7 : Ex H0 H7 := fun c o z => X7 c o (ne_of_none z np) (E6 _ _ (E3 c o z))
    refine ⟨_, rfl, _, rfl, _, rfl, _, _, _, fun H2 y => cs.Dp H2 y, rfl, ?_, fun dv H8 e8 hdv => ?_⟩
    · have hl7 := hl.xi (XI.of E7)
      cases cs with
      | calls css =>
        obtain ⟨l, rfl, xs, hx1, hx2⟩ := hl7
        exact .inl ⟨notStr_lst hx1, rfl⟩
      | lay fs =>
        obtain rfl : x = .str "layers" := hl7
        obtain ⟨rfl, pr⟩ := hrs
        exact .inr ⟨a, q, ns, tss, rfl, rfl, rfl, tab.mono E7, ok, pr, hq.mono E7, ne, lt, sks, nod, fun d H2 _ _ c => ⟨d, rfl, c⟩⟩
    have E8 := ext E7 e8
    have hp8 := e8 _ _ hp7
    refine ⟨_, rfl, p, T.C_Caller, dx, _, rfl, hp8, T.cl_Caller, T.n_Caller_depths, (by show 4 < 1000; decide), ?_⟩
    generalize hGa : upd H8 p _ = Ha
    have hpa : Ha p = some (.ins T.C_Caller dx [("table", .ref a), ("goals", .ref g), ("strategy", stv), ("used", .int 0), ("depths", dv)]) := by rw [← hGa]; exact upd_same
    have XIa : XI H8 Ha := fun c o n z => by rw [← hGa, upd_ne (ne_of z hp8 (n _ _ _))]; exact z
    have Ea : Ex H0 Ha := fun c o z => by rw [← hGa, upd_ne (ne_of_none z np)]; exact E8 c o z
    clear hGa
    have XI6a : XI H6 Ha := fun c o n z => XIa c o n (e8 _ _ (XI7 c o n z))
    have hrow : RowsR Ha gs tss := by
      obtain ⟨ys, hy1, hy2⟩ := hq
      obtain rfl : gs = ys := SqH.uniq hq1 (hy1.mono E3)
      exact hy2.mono Ea
    have h1a := tab.mono Ea
    have h2a := XI6a.tup (eH6 _ _ (e5 _ _ hg))
    have h3a := hst.xi (fun c o n z => XI6a c o n (eH6 _ _ z))
    have h4a := hdv.xi XIa
    exact k _ Ea (fun m zs hm => ⟨dx, a, g, stv, dv, gs, hpa, h1a, h2a, hrow, h3a, h4a, hno m zs hm⟩) ⟨dx, a, g, stv, dv, gs, hpa, h1a, h2a, hrow, h3a, h4a⟩
def sp_Responder_init (CC C : Addr) : Sp := fun vs H Q _ => ∃ (p dx a : Addr) (x : V) (q : Bool × Addr) (ns : List Int) (tss : List (List Int)) (rs : RS) (H0 : Hp), vs = [.ref p, .ref a, .ref q.2, x] ∧ H p = some (.ins CC dx []) ∧ H0 p = none ∧ Ex H0 H ∧ TabAt C H0 a ns ∧ SzOk ns ∧ RowsQ H0 q tss ∧ tss ≠ [] ∧ tss.length ≤ 1000 ∧ (∀ ts ∈ tss, SeatOk ns ts) ∧ tss.Nodup ∧
  (∀ n ∈ ns, n.natAbs < 2 ^ 5000) ∧ rs.At H0 x ∧ rs.Ok ns tss ∧ ∀ H2, Ex H0 H2 → (∀ m zs, H0 m = some (.lst zs) → RespO CC C H2 p ns tss rs 0 m) → RespU CC C H2 p ns tss rs 0 → Q .non H2
theorem ok_Responder_init (T : TX K mg) : FnOk P w K mg base CX0 6 T.f_Responder_init T.fd_Responder_init ["self", "table", "targets", "strategy"] (sp_Responder_init T.C_Responder T.C_Table) := by
  refine T.F_Responder_init.ok sc_Responder_init (fun vs H Q E h => ?_) (fun cdv A outer s H vs Q E hr h => ?_)
  · obtain ⟨p, dx, a, x, q, ns, tss, rs, H0, rfl, _⟩ := h
    rfl
  · obtain ⟨p, dx, a, x, q, ns, tss, rs, H0, rfl, hp, np, e0, tab, ok, hq, ne, lt, sks, nod, bn, hl, hrs, k⟩ := h
    refine ⟨_, (pss_cons (ps_expr (pe_call (ok_require_table T) hr rfl T.m_require_table T.F_require_table.kp T.b_require_table .nil pass0 (pa_cons (pv 1) pa_nil))) (pss_cons (ps_expr (pe_call (ok_require_targets T) (hr.mono (by decide)) rfl T.m_require_targets T.F_require_targets.kp T.b_require_targets .nil pass0 (pa_cons (pv 1) (pa_cons (pv 2) pa_nil)))) (pss_cons (ps_if (PW.pt (pw_and (pt_not (pt_val (pe_call (ok_is_layers T) (hr.mono (by decide)) rfl T.m_is_layers T.F_is_layers.kp T.b_is_layers .nil pass0 (pa_cons (pv 3) pa_nil)))) (pw_and (pt_not (pt_val (pe_call (ok_is_directions T) (hr.mono (by decide)) rfl T.m_is_directions T.F_is_directions.kp T.b_is_directions .nil pass0 (pa_cons (pv 3) pa_nil)))) (pw_and1 (pt_not (pt_val (pe_call (ok_is_shared_witness T) (hr.mono (by decide)) rfl T.m_is_shared_witness T.F_is_shared_witness.kp T.b_is_shared_witness .nil pass0 (pa_cons (pv 1) (pa_cons (pv 2) (pa_cons (pv 3) pa_nil)))))))))) pss_never pss_nil) (pss_cons (ps_asg (pe_tup (pa_cons (pv 1) (pa_cons (pe_callTy call_tuple_q (by rfl) T.z_tuple (by decide +kernel) (pa_cons (pv 2) pa_nil)) (pa_cons (pe_call (ok_copied T) (hr.mono (by decide)) rfl T.m_copied T.F_copied.kp T.b_copied .nil pass0 (pa_cons (pv 3) pa_nil)) (pa_cons pe_int pa_nil))))) (pg_tup rfl (pgs_cons (pg_fld (pv 0)) (pgs_cons (pg_fld (pv 0)) (pgs_cons (pg_fld (pv 0)) (pgs_cons (pg_fld (pv 0)) pgs_nil)))))) (pss_one (ps_fld (pv 0) (pe_call (ok_depths_for T) (hr.mono (by decide)) rfl T.m_depths_for T.F_depths_for.kp T.b_depths_for .nil pass0 (pa_cons (pv 1) (pa_cons (pv 2) (pa_cons (pv 3) pa_nil)))) rfl)))))), ?_⟩
    have l4 := ok.le
    refine ⟨_, rfl, a, ns, rfl, tab.mono e0, ?_⟩
    refine ⟨_, rfl, _, rfl, a, q, ns, tss, rfl, tab.mono e0, l4, hq.mono e0, ne, by omega, sks, nod, fun H1 e1 => ?_⟩
    have E1 := ext e0 e1
    dsimp only
    refine sif_ex (fun N hN => ?_) (fun H3 e3 => ?_)
    · have hl1 := hl.xi (XI.of E1)
      cases rs with
      | words bs =>
        obtain ⟨l, rfl, h1⟩ := hl1
        refine ⟨_, rfl, _, rfl, .inl ⟨notStr_lst h1, _, rfl, itt rfl ?_⟩⟩
        exact ⟨_, rfl, l, rfl, .inr ⟨bs, h1, hrs.1, hrs.2, fun H3 e3 => ⟨_, rfl, itf rfl (hN _ e3)⟩⟩⟩
      | wit m ws r =>
        obtain ⟨l, rfl, hw⟩ := hl1
        obtain ⟨wa, hw1, hw2⟩ := id hw
        refine ⟨_, rfl, _, rfl, .inl ⟨notStr_tup hw1, _, rfl, itt rfl ?_⟩⟩
        refine ⟨_, rfl, l, rfl, .inl ⟨_, hw1, _, rfl, itt rfl ?_⟩⟩
        exact ⟨_, rfl, _, rfl, _, rfl, a, l, q, ns, ws, tss, m, r, rfl, tab.mono E1, ok, bn, hq.mono E1, by omega, sks, hw, hrs.1, hrs.2.1, hrs.2.2, fun H3 e3 => ⟨_, rfl, itf rfl (hN _ e3)⟩⟩
      | lay fs =>
        obtain rfl : x = .str "layers" := hl1
        exact ⟨_, rfl, _, rfl, .inr ⟨rfl, _, rfl, itf rfl (hN _ exr)⟩⟩
    have E3 := ext E1 e3
    have hp3 := e3 _ _ (e1 _ _ hp)
    obtain ⟨gs, hq1, hq2⟩ := hq.mono E3
    refine ⟨_, rfl, _, rfl, q, _, rfl, hq1, fun g H4 e4 hg => ?_⟩
    have E4 := ext E3 e4
    refine ⟨_, rfl, x, fun H2 y => rs.At H2 y ∧ ∀ m zs, H0 m = some (.lst zs) → y ≠ .ref m, rfl, ?_, fun stv H5 e5 ⟨hst, hno⟩ => ?_⟩
    · have hl4 := hl.xi (XI.of E4)
      cases rs with
      | words bs =>
        obtain ⟨l, rfl, h1⟩ := hl4
        exact .inl ⟨(false, l), _, rfl, h1, fun p H2 e2 nf h2 => ⟨⟨p, rfl, h2⟩, fun m zs hm z => by
          injection z with z
          exact absurd (nf rfl) (by rw [z, E4 _ _ hm]; intro q; cases q)⟩⟩
      | wit m ws r =>
        obtain ⟨l, rfl, wa, hw1, hw2⟩ := hl4
        exact .inl ⟨(true, l), _, rfl, hw1, fun p H2 e2 _ h2 => ⟨⟨p, rfl, wa, h2, e2 _ _ hw2⟩, fun m zs hm z => by
          injection z with z
          have h2 : H2 p = some (.tup _) := h2
          have h3 := e2 _ _ (E4 _ _ hm)
          rw [← z, h2] at h3
          cases h3⟩⟩
      | lay fs =>
        obtain rfl : x = .str "layers" := hl4
        exact .inr ⟨_, rfl, rfl, fun m zs _ z => by cases z⟩
    (repeat (first | refine ⟨rfl, ?_⟩ | refine ⟨_, rfl, ?_⟩ | refine ⟨_, _, rfl, rfl, ?_⟩ | refine ⟨_, _, rfl, ?_⟩ | refine ⟨slen rfl, ?_⟩ | refine ⟨⟨by decide, by decide +kernel⟩, ?_⟩ | refine ⟨⟨by decide, by decide, by decide⟩, ?_⟩ | refine ⟨(by show (0 : Int) < _; first | decide | assumption | omega), ?_⟩ | refine ⟨mul_ok (by first | exact .inr (by decide) | exact .inl (by decide)), ?_⟩))
    (intro tp ntp; generalize hGtp : upd _ tp _ = H6; have eH6 := exG hGtp ntp; have htp := atG hGtp; clear hGtp)
    have E6 : Ex H3 H6 := ext e4 (ext e5 eH6)
    have hp6 := E6 _ _ hp3
    refine ⟨tp, _, rfl, SqT.of htp, rfl, ?_⟩
    refine ⟨_, _, rfl, _, rfl, p, T.C_Responder, dx, [], rfl, hp6, T.cl_Responder, T.n_Responder_table, (by decide), ?_⟩
    refine ⟨_, _, rfl, _, rfl, p, T.C_Responder, dx, _, rfl, upd_same, T.cl_Responder, T.n_Responder_goals, (by show 1 < 1000; decide), ?_⟩
    refine ⟨_, _, rfl, _, rfl, p, T.C_Responder, dx, _, rfl, upd_same, T.cl_Responder, T.n_Responder_strategy, (by show 2 < 1000; decide), ?_⟩
    refine ⟨_, _, rfl, _, rfl, p, T.C_Responder, dx, _, rfl, upd_same, T.cl_Responder, T.n_Responder_used, (by show 3 < 1000; decide), ?_⟩
    refine ⟨rfl, ?_⟩
    generalize hG7 : upd (upd (upd (upd H6 p _) p _) p _) p _ = H7
    have hp7 : H7 p = some (.ins T.C_Responder dx [("table", .ref a), ("goals", .ref g), ("strategy", stv), ("used", .int 0)]) := by rw [← hG7]; exact upd_same
    have X7 : ∀ c o, c ≠ p → H6 c = some o → H7 c = some o := fun c o n z => by rw [← hG7, upd_ne n, upd_ne n, upd_ne n, upd_ne n]; exact z
    clear hG7
    have XI7 : XI H6 H7 := fun c o n z => X7 c o (ne_of z hp6 (n _ _ _)) z
    have E7 : Ex H0 H7 := fun c o z => X7 c o (ne_of_none z np) (E6 _ _ (E3 c o z))
    refine ⟨_, rfl, _, rfl, _, rfl, _, _, _, fun H2 y => rs.Dp H2 y, rfl, ?_, fun dv H8 e8 hdv => ?_⟩
    · have hl7 := hl.xi (XI.of E7)
      cases rs with
      | words bs =>
        obtain ⟨l, rfl, h1⟩ := hl7
        exact .inl ⟨notStr_lst h1, rfl⟩
      | wit m ws r =>
        obtain ⟨l, rfl, wa, hw1, hw2⟩ := hl7
        exact .inl ⟨notStr_tup hw1, rfl⟩
      | lay fs =>
        obtain rfl : x = .str "layers" := hl7
        obtain ⟨rfl, pr⟩ := hrs
        exact .inr ⟨a, q, ns, tss, rfl, rfl, rfl, tab.mono E7, ok, pr, hq.mono E7, ne, lt, sks, nod, fun d H2 _ _ c => ⟨d, rfl, c⟩⟩
    have E8 := ext E7 e8
    have hp8 := e8 _ _ hp7
    refine ⟨_, rfl, p, T.C_Responder, dx, _, rfl, hp8, T.cl_Responder, T.n_Responder_depths, (by show 4 < 1000; decide), ?_⟩
    generalize hGa : upd H8 p _ = Ha
    have hpa : Ha p = some (.ins T.C_Responder dx [("table", .ref a), ("goals", .ref g), ("strategy", stv), ("used", .int 0), ("depths", dv)]) := by rw [← hGa]; exact upd_same
    have XIa : XI H8 Ha := fun c o n z => by rw [← hGa, upd_ne (ne_of z hp8 (n _ _ _))]; exact z
    have Ea : Ex H0 Ha := fun c o z => by rw [← hGa, upd_ne (ne_of_none z np)]; exact E8 c o z
    clear hGa
    have XI6a : XI H6 Ha := fun c o n z => XIa c o n (e8 _ _ (XI7 c o n z))
    have hrow : RowsR Ha gs tss := by
      obtain ⟨ys, hy1, hy2⟩ := hq
      obtain rfl : gs = ys := SqH.uniq hq1 (hy1.mono E3)
      exact hy2.mono Ea
    have h1a := tab.mono Ea
    have h2a := XI6a.tup (eH6 _ _ (e5 _ _ hg))
    have h3a := hst.xi (fun c o n z => XI6a c o n (eH6 _ _ z))
    have h4a := hdv.xi XIa
    exact k _ Ea (fun m zs hm => ⟨dx, a, g, stv, dv, gs, hpa, h1a, h2a, hrow, h3a, h4a, hno m zs hm⟩) ⟨dx, a, g, stv, dv, gs, hpa, h1a, h2a, hrow, h3a, h4a⟩
end
theorem mk_caller {CC C a : Addr} {x : V} {bq : Bool} {g : Addr} {H : Hp} {ns : List Int} {tss : List (List Int)} {cs : CSt} {R : Addr → Hp → Prop} {E : XK} (tab : TabAt C H a ns) (ok : SzOk ns) (hq : RowsQ H (bq, g) tss) (ne : tss ≠ []) (lt : tss.length ≤ 1000) (sks : ∀ ts ∈ tss, SeatOk ns ts) (nod : tss.Nodup)
    (bn : ∀ n ∈ ns, n.natAbs < 2 ^ 5000) (hl : cs.At H x) (hcs : cs.Ok ns tss) (k : ∀ y H2, Ex H H2 → H y = none → (∀ m zs, H m = some (.lst zs) → CallerO CC C H2 y ns tss cs 0 m) → CallerU CC C H2 y ns tss cs 0 → R y H2) :
    ∀ y dx, H y = none → H dx = none → dx ≠ y → sp_Caller_init CC C [.ref y, .ref a, .ref g, x] (upd (upd H dx (.own y)) y (.ins CC dx [])) (fun v H2 => v = .non ∧ R y H2) E := by
  intro y dx nx ndx _
  have exB : Ex H (upd (upd H dx (.own y)) y (.ins CC dx [])) := fun c o z => by
    rw [upd_ne (ne_of_none z nx), upd_ne (ne_of_none z ndx)]
    exact z
  exact ⟨y, dx, a, x, (bq, g), ns, tss, cs, H, rfl, upd_same, nx, exB, tab, ok, hq, ne, lt, sks, nod, bn, hl, hcs, fun H2 e2 ro ra => ⟨rfl, k y H2 e2 nx ro ra⟩⟩
theorem mk_resp {CR C a : Addr} {x : V} {bq : Bool} {g : Addr} {H : Hp} {ns : List Int} {tss : List (List Int)} {rs : RS} {R : Addr → Hp → Prop} {E : XK} (tab : TabAt C H a ns) (ok : SzOk ns) (hq : RowsQ H (bq, g) tss) (ne : tss ≠ []) (lt : tss.length ≤ 1000) (sks : ∀ ts ∈ tss, SeatOk ns ts) (nod : tss.Nodup)
    (bn : ∀ n ∈ ns, n.natAbs < 2 ^ 5000) (hl : rs.At H x) (hrs : rs.Ok ns tss) (k : ∀ y H2, Ex H H2 → H y = none → (∀ m zs, H m = some (.lst zs) → RespO CR C H2 y ns tss rs 0 m) → RespU CR C H2 y ns tss rs 0 → R y H2) :
    ∀ y dx, H y = none → H dx = none → dx ≠ y → sp_Responder_init CR C [.ref y, .ref a, .ref g, x] (upd (upd H dx (.own y)) y (.ins CR dx [])) (fun v H2 => v = .non ∧ R y H2) E := by
  intro y dx nx ndx _
  have exB : Ex H (upd (upd H dx (.own y)) y (.ins CR dx [])) := fun c o z => by
    rw [upd_ne (ne_of_none z nx), upd_ne (ne_of_none z ndx)]
    exact z
  exact ⟨y, dx, a, x, (bq, g), ns, tss, rs, H, rfl, upd_same, nx, exB, tab, ok, hq, ne, lt, sks, nod, bn, hl, hrs, fun H2 e2 ro ra => ⟨rfl, k y H2 e2 nx ro ra⟩⟩

def closerL (fs : List (List Int × Nat)) (d : Nat) : List (List Int) := (fs.filter fun q => decide (q.2 < d)).map (·.1)
def fromL (ns : List Int) (fs : List (List Int × Nat)) (p : List Int) (d : Nat) : List (List Int) := ((closerL fs d).filter fun o => decide ((dep fs (mirL ns p o)).getD d < d)).map fun o => toL ns p o
theorem closer_snoc (fs : List (List Int × Nat)) (q : List Int × Nat) (d : Nat) : closerL (fs ++ [q]) d = if q.2 < d then closerL fs d ++ [q.1] else closerL fs d := by
  unfold closerL
  rw [List.filter_append, List.map_append]
  by_cases c : q.2 < d
  · rw [if_pos c]
    simp [c]
  · rw [if_neg c]
    simp [c]
theorem dep_mem {fs : List (List Int × Nat)} (nod : (keysL fs).Nodup) {q : List Int × Nat} (h : q ∈ fs) : dep fs q.1 = some q.2 := by
  induction fs with
  | nil => cases h
  | cons f fs ih =>
    rw [dep_cons]
    rcases List.mem_cons.mp h with rfl | h
    · rw [if_pos rfl]
    · have nf : f.1 ≠ q.1 := fun z => (List.nodup_cons.mp nod).1 (by show f.1 ∈ _; rw [z]; exact List.mem_map_of_mem h)
      rw [if_neg nf, ih (List.nodup_cons.mp nod).2 h]
theorem Ex.back {H H2 : Hp} {d : Addr} {u v : HO} (hd : H d = some u) (e : Ex (upd H d v) H2) : Ex H (upd H2 d u) := fun c o z => by
  by_cases cd : c = d
  · subst cd
    rw [upd_same]
    exact hd.symm.trans z
  · rw [upd_ne cd]
    exact e _ _ (by rw [upd_ne cd]; exact z)
theorem tup_pshL {q D : Addr} {H : Hp} {xs ys : List V} {o : HO} (hD : H D = some (.lst xs)) (h : H q = some (.tup ys)) : upd H D o q = some (.tup ys) := by
  rw [upd_ne (ne_of h hD (by intro z; cases z))]
  exact h
theorem getD_int (o : Option Nat) (d : Nat) : (o.map fun d : Nat => V.int (d : Int)).getD (V.int (d : Int)) = V.int ((o.getD d : Nat) : Int) := by cases o <;> rfl
section
variable {P : Program} {w : World} {K : PySem.W.Frag} {mg : Str → Option Value} {base : Heap}
def sp_call_from (C : Addr) : Sp := fun vs H Q _ => ∃ (a D s : Addr) (ns p c : List Int) (fs : List (List Int × Nat)) (d : Nat) (rest : List (List Int)), vs = [.ref a, .ref D, .ref s] ∧ TabAt C H a ns ∧ SzOk ns ∧ CntAt H D fs ∧ fs.length ≤ 1000 ∧ (keysL fs).Nodup ∧ (∀ q ∈ keysL fs, SeatOk ns q) ∧ H s = some (.tup (p.map V.int)) ∧ SeatOk ns p ∧ dep fs p = some d ∧ fromL ns fs p d = c :: rest ∧
  ∀ q H2, Ex H H2 → H2 q = some (.tup (c.map V.int)) → Q (.ref q) H2
theorem ok_call_from (T : TX K mg) : FnOk P w K mg base CX0 3 T.f_call_from T.fd_call_from ["table", "counts", "seat"] (sp_call_from T.C_Table) := by
  refine T.F_call_from.ok sc_call_from (fun vs H Q E h => ?_) (fun cdv A outer s H vs Q E hr h => ?_)
  · obtain ⟨a, D, s, ns, p, c, fs, d, rest, rfl, _⟩ := h
    rfl
  · obtain ⟨a, D, s, ns, p, c, fs, d, rest, rfl, tab, ok, hD, lf, nod, sks, hs, sk, hdp, hfr, k⟩ := h
    refine ⟨_, (pss_cons (ps_set (i := 3) sc_call_from.nd rfl (Or.inr rfl) (pe_dget (hu_of hr) (pv 1) (pv 2) (fun _ _ => rfl))) (pss_cons (ps_lock (ps_setLc (own := [("one", 5)]) (g := (gName 5)) (i := 4) rfl sc_call_from.nd rfl rfl (sw_true rfl rfl rfl (by decide +kernel)) (pi_keys (pv 1)) (blkOk_by (N := N_call_from) (sc := defScope s_call_from) (by decide +kernel)) (fun _ _ _ _ _ => (pg_name (i := 5) sc_call_from.nd rfl (Or.inl rfl))) (fun _ _ _ _ _ => (pts_one (pt_cmpR op_lt (pe_dget (hu_of hr) (pv 1) (pv 5) (fun _ _ => rfl)) (pv 3) (nomark _)))) (fun _ _ _ _ _ => (pv 5)))) (pss_one (ps_ret (pe_ix ix_list (pe_lc (own := [("one", 5)]) (g := (gName 5)) rfl sc_call_from.nd (pi_list (pv 4)) (blkOk_by (N := N_call_from) (sc := defScope s_call_from) (by decide +kernel)) (fun _ _ _ _ _ => (pg_name (i := 5) sc_call_from.nd rfl (Or.inl rfl))) (fun _ _ _ _ _ => (pts_one (pt_cmpR op_lt (pe_dget2 (hu_of hr) (pv 1) (pe_call (ok_mirror_seat T) hr rfl T.m_mirror_seat T.F_mirror_seat.kp T.b_mirror_seat .nil pass0 (pa_cons (pv 0) (pa_cons (pv 2) (pa_cons (pv 5) pa_nil)))) (pv 3) ⟨rfl, rfl, rfl, rfl⟩) (pv 3) (nomark _)))) (fun _ _ _ _ _ => (pe_call (ok_call_to T) hr rfl T.m_call_to T.F_call_to.kp T.b_call_to .nil pass0 (pa_cons (pv 0) (pa_cons (pv 2) (pa_cons (pv 5) pa_nil)))))) pe_int (fun _ _ => rfl)))))), ?_⟩
    refine ⟨_, rfl, _, rfl, D, V.int (d : Int), rfl, ?_, ?_⟩
    · have := cnt_get hD hs
      rw [hdp] at this
      exact this
    dsimp only [gName]
    refine ⟨D, _, hD, True.intro, fun od => ?_⟩
    generalize hG1 : upd H D _ = H1
    have hD1 : H1 D = some (.frz od (.dT (fs.map entV))) := by rw [← hG1]; exact upd_same
    have tp1 : ∀ c zs, H c = some (.tup zs) → H1 c = some (.tup zs) := fun c zs z => hG1 ▸ tup_dict hD z
    refine ⟨_, rfl, D, od, rfl, .inr ⟨_, hD1, fun L hL => ?_⟩⟩
    refine lc_it walk_keysT (fun i Hx => ∃ zs, Hx L = some (.lst zs) ∧ RowsR Hx zs (closerL (fs.take i) d) ∧ Ex H1 Hx) ⟨[], upd_same, .nil, exn hL⟩ (fun i Hx _ ⟨_, _, _, e⟩ => e _ _ hD1) ?_ ?_
    · rintro i x _ Hx hi ⟨zs, hLx, rz, ex⟩ ⟨rfl, kk, vv, qa, hkv, rfl, hqa⟩
      rw [List.getElem?_map] at hkv
      obtain ⟨f, hf, ef⟩ := Option.map_eq_some_iff.mp hkv
      obtain ⟨rfl, rfl⟩ := Prod.mk.inj ef
      rw [entK_kV] at hqa
      have hg : DGet Hx D (.ref qa) (some (V.int (f.2 : Int))) := by
        refine .inr ⟨_, entK f.1, qa, .inr ⟨od, ex _ _ hD1⟩, rfl, by rw [entK_kV]; exact hqa, ?_⟩
        rw [val_ent, dep_mem nod (List.mem_of_getElem? hf)]
        rfl
      refine ⟨rfl, _, rfl, _, rfl, D, _, rfl, hg, _, rfl, _, _, rfl, rfl, _, rfl, ?_⟩
      by_cases cc : f.2 < d
      · refine itt (decide_eq_true (by omega)) ⟨_, rfl, zs, hLx, ?_, zs ++ [.ref qa], upd_same, ?_, ex_upd ex hL⟩
        · rw [Paired.length rz]
          exact Nat.lt_of_le_of_lt (Nat.le_trans (show _ ≤ (fs.take i).length by unfold closerL; rw [List.length_map]; exact List.length_filter_le _ _) (show _ ≤ 1000 by rw [List.length_take]; omega)) (by decide)
        · rw [take_more hf, closer_snoc, if_pos cc]
          exact RowsR.snoc (tup_pshL hLx hqa) (rz.monoT fun c zs z => tup_pshL hLx z)
      · refine itf (decide_eq_false (by omega)) ⟨zs, hLx, ?_, ex⟩
        rw [take_more hf, closer_snoc, if_neg cc]
        exact rz
    rintro H2 ⟨zs, hL2, rz, e2⟩
    rw [List.take_of_length_le (by simp)] at rz
    refine ⟨e2 _ _ hD1, ?_⟩
    have e3 : Ex H (upd H2 D (.dT (fs.map entV))) := by subst hG1; exact Ex.back hD e2
    generalize hG3 : upd H2 D _ = H3 at e3
    have nLD : L ≠ D := (ne_of_none hD1 hL).symm
    have hL3 : H3 L = some (.lst zs) := by rw [← hG3, upd_ne nLD]; exact hL2
    have rz3 : RowsR H3 zs (closerL fs d) := rz.monoT fun c zs z => by
      rw [← hG3, upd_ne (ne_of z (e2 _ _ hD1) (by intro z; cases z))]
      exact z
    clear hG3
    have lz : zs.length = (closerL fs d).length := Paired.length rz
    have lc : (closerL fs d).length ≤ 1000 := by
      unfold closerL
      rw [List.length_map]
      exact Nat.le_trans (List.length_filter_le _ _) lf
    have skc : ∀ o ∈ closerL fs d, SeatOk ns o := fun o ho => by
      obtain ⟨q, hq, rfl⟩ := List.mem_map.mp ho
      exact sks _ (List.mem_map_of_mem (List.mem_filter.mp hq).1)
    dsimp only [gName]
    generalize hcl : closerL fs d = cl at *
    refine ⟨_, rfl, L, rfl, ⟨_, SqL.of hL3⟩, fun M hM => ?_⟩
    refine lc_it (walk_list (xs := zs)) (fun i Hx => ∃ us, Hx M = some (.lst us) ∧ RowsR Hx us (((cl.take i).filter fun o => decide ((dep fs (mirL ns p o)).getD d < d)).map fun o => toL ns p o) ∧ Ex H3 Hx) ⟨[], upd_same, .nil, exn hM⟩ (fun i Hx _ ⟨_, _, _, e⟩ => SqL.of (e _ _ hL3)) ?_ ?_
    · rintro i x _ Hx hi ⟨us, hMx, ru, ex⟩ ⟨rfl, hx⟩
      obtain ⟨o, ro, ho, rfl, hro⟩ := rz3.get hx
      have sko := skc o (List.mem_of_getElem? ho)
      have Ex3 := ext e3 ex
      have hDx : CntAt Hx D fs := Ex3 _ _ hD
      refine ⟨rfl, _, rfl, D, rfl, .inr ⟨_, .inl hDx⟩, _, rfl, _, rfl, _, rfl, a, s, ro, ns, p, o, rfl, tab.mono Ex3, ok, Ex3 _ _ hs, ex _ _ hro, sk.len, sko.len, fun Hy qm ey nqm hqm => ?_⟩
      refine ⟨_, rfl, _, cnt_get (hDx.mono ey) hqm, ?_⟩
      rw [getD_int]
      refine ⟨_, rfl, _, _, rfl, rfl, _, rfl, ?_⟩
      have Exy := ext ex ey
      have ll : us.length ≤ 1000 := by
        rw [Paired.length ru, List.length_map]
        refine Nat.le_trans (List.length_filter_le _ _) ?_
        rw [List.length_take]
        omega
      by_cases cc : (dep fs (mirL ns p o)).getD d < d
      · refine itt (decide_eq_true (by omega)) ?_
        refine ⟨_, rfl, _, rfl, _, rfl, a, s, ro, ns, p, o, rfl, tab.mono (ext e3 Exy), ok, ext e3 Exy _ _ hs, Exy _ _ hro, sk.len, sko.len, fun Hw qt ew nqt hqt => ?_⟩
        have hMw := ew _ _ (ey _ _ hMx)
        refine ⟨us, hMw, Nat.lt_of_le_of_lt ll (by decide), us ++ [.ref qt], upd_same, ?_, ex_upd (ext Exy ew) hM⟩
        rw [take_more ho, List.filter_append, List.map_append, show [o].filter (fun o => decide ((dep fs (mirL ns p o)).getD d < d)) = [o] by simp [cc]]
        exact RowsR.snoc (tup_pshL hMw hqt) ((ru.mono (ext ey ew)).monoT fun c zs z => tup_pshL hMw z)
      · refine itf (decide_eq_false (by omega)) ⟨us, ey _ _ hMx, ?_, Exy⟩
        rw [take_more ho, List.filter_append, List.map_append, show [o].filter (fun o => decide ((dep fs (mirL ns p o)).getD d < d)) = [] by simp [cc], List.map_nil, List.append_nil]
        exact ru.mono ey
    rintro Hz ⟨us, hMz, ru, ez⟩
    rw [List.take_of_length_le (by omega)] at ru
    have efr : ((cl.filter fun o => decide ((dep fs (mirL ns p o)).getD d < d)).map fun o => toL ns p o) = c :: rest := by rw [← hfr, fromL, hcl]
    rw [efr] at ru
    obtain ⟨u0, us', rfl⟩ : ∃ u0 us', us = u0 :: us' := by
      cases ru with
      | cons _ _ => exact ⟨_, _, rfl⟩
    obtain ⟨c0, rc, hc0, rfl, hrc⟩ := ru.get (i := 0) rfl
    obtain rfl : c = c0 := Option.some.inj hc0
    exact ⟨M, _, _, _, rfl, rfl, SqL.of hMz, (L2.atI_nat rfl : atI (V.ref rc :: us') ((0 : Nat) : Int) = some (V.ref rc)), k rc Hz (ext e3 ez) hrc⟩
end

/-- what a list of numbers keeps while it grows -/
structure GoodL (ns : List Int) (fs : List (List Int × Nat)) (d : Nat) : Prop where
  nod : (keysL fs).Nodup
  seat : ∀ q ∈ fs, SeatOk ns q.1
  le : ∀ q ∈ fs, q.2 ≤ d
  both : ∀ q ∈ fs, 0 < q.2 → ∃ o e e', (o, e) ∈ fs ∧ (mirL ns q.1 o, e') ∈ fs ∧ e < q.2 ∧ e' < q.2
theorem mem_keys {fs : List (List Int × Nat)} {p : List Int} (h : p ∈ keysL fs) : ∃ e, (p, e) ∈ fs := by
  obtain ⟨q, hq, rfl⟩ := List.mem_map.mp h
  exact ⟨q.2, hq⟩
theorem mem_atD {d : Nat} {ps : List (List Int)} {q : List Int × Nat} (h : q ∈ atD d ps) : q.1 ∈ ps ∧ q.2 = d := by
  obtain ⟨p, hp, rfl⟩ := List.mem_map.mp h
  exact ⟨hp, rfl⟩
theorem GoodL.step {ns : List Int} {fs : List (List Int × Nat)} {d : Nat} {miss newest : List (List Int)} (g : GoodL ns fs d) (okm : ∀ p ∈ miss, SeatOk ns p) (disj : ∀ p ∈ miss, p ∉ keysL fs) (mnod : miss.Nodup) (sub : ∀ p ∈ newest, p ∈ keysL fs) :
    GoodL ns (fs ++ atD (d + 1) (newL ns fs miss newest)) (d + 1) where
  nod := by
    rw [keys_app, keys_atD, List.nodup_append]
    refine ⟨g.nod, mnod.filter _, fun a ha b hb e => ?_⟩
    exact disj b (newL_sub hb) (e ▸ ha)
  seat := fun q hq => by
    rcases List.mem_append.mp hq with hq | hq
    · exact g.seat q hq
    · exact okm _ (newL_sub (mem_atD hq).1)
  le := fun q hq => by
    rcases List.mem_append.mp hq with hq | hq
    · exact Nat.le_succ_of_le (g.le q hq)
    · exact Nat.le_of_eq (mem_atD hq).2
  both := fun q hq h0 => by
    rcases List.mem_append.mp hq with hq | hq
    · obtain ⟨o, e, e', h1, h2, h3, h4⟩ := g.both q hq h0
      exact ⟨o, e, e', List.mem_append_left _ h1, List.mem_append_left _ h2, h3, h4⟩
    · obtain ⟨hm, he⟩ := mem_atD hq
      obtain ⟨_, hc⟩ := List.mem_filter.mp hm
      obtain ⟨o, ho, hk⟩ := List.any_eq_true.mp hc
      obtain ⟨e, h1⟩ := mem_keys (sub o ho)
      obtain ⟨e', h2⟩ := mem_keys (of_decide_eq_true hk)
      have a1 := g.le _ h1
      have a2 := g.le _ h2
      exact ⟨o, e, e', List.mem_append_left _ h1, List.mem_append_left _ h2, by rw [he]; exact Nat.lt_succ_of_le a1, by rw [he]; exact Nat.lt_succ_of_le a2⟩
theorem rounds_good {ns : List Int} : ∀ (f : Nat) {fs : List (List Int × Nat)} {miss newest : List (List Int)} {d : Nat}, GoodL ns fs d → (∀ p ∈ miss, SeatOk ns p) → (∀ p ∈ miss, p ∉ keysL fs) → miss.Nodup → (∀ p ∈ newest, p ∈ keysL fs) → ∃ d', GoodL ns (roundsL ns f fs miss newest d) d'
  | 0, fs, miss, newest, d, g, _, _, _, _ => ⟨d, g⟩
  | f + 1, fs, miss, newest, d, g, okm, disj, mnod, sub => by
    rw [roundsL]
    by_cases c : newest = []
    · rw [if_pos c]
      exact ⟨d, g⟩
    rw [if_neg c]
    refine rounds_good f (g.step okm disj mnod sub) (fun p hp => okm p (mem_missL.mp hp).1) (fun p hp => (mem_missL.mp hp).2) (mnod.filter _) fun p hp => ?_
    rw [keys_app, keys_atD]
    exact List.mem_append_right _ hp
theorem counts_good {ns : List Int} {tss : List (List Int)} (sks : ∀ t ∈ tss, SeatOk ns t) (nod : tss.Nodup) : ∃ d, GoodL ns (countsL ns tss) d := by
  refine rounds_good _ ⟨by rw [keys_atD]; exact nod, fun q hq => sks _ (mem_atD hq).1, fun q hq => Nat.le_of_eq (mem_atD hq).2, fun q hq h0 => absurd (mem_atD hq).2 (by omega)⟩ (fun p hp => mem_allS.mp (mem_missL.mp hp).1) (fun p hp => (mem_missL.mp hp).2) ((allS_nodup ns).filter _) fun p hp => ?_
  rw [keys_atD]
  exact hp
theorem GoodL.len {ns : List Int} {fs : List (List Int × Nat)} {d : Nat} (g : GoodL ns fs d) : fs.length ≤ (allS ns).length := by
  rw [← List.length_map (f := (·.1))]
  exact List.Nodup.length_le_of_subset g.nod fun p hp => by
    obtain ⟨e, he⟩ := mem_keys hp
    exact mem_allS.mpr (g.seat _ he)
theorem mem_dep {fs : List (List Int × Nat)} {p : List Int} {d : Nat} (h : dep fs p = some d) : (p, d) ∈ fs := by
  induction fs with
  | nil => cases h
  | cons f fs ih =>
    rw [dep_cons] at h
    by_cases c : f.1 = p
    · rw [if_pos c] at h
      obtain rfl := Option.some.inj h
      rw [← c]
      exact List.mem_cons_self
    · rw [if_neg c] at h
      exact List.mem_cons_of_mem _ (ih h)
theorem mirL_inv : ∀ {ns ps os : List Int}, SeatOk ns os → ps.length = ns.length → mirL ns ps (mirL ns ps os) = os
  | [], _, [], _, _ => by cases ‹List Int› <;> rfl
  | n :: ns, p :: ps, o :: os, h, l => by
    obtain ⟨⟨o0, o1⟩, h2⟩ : (0 ≤ o ∧ o < n) ∧ SeatOk ns os := h
    show ((2 * p - (2 * p - o) % n) % n) :: _ = _
    rw [mirL_inv h2 (by simpa using l)]
    congr 1
    rw [Int.sub_emod, Int.emod_emod, ← Int.sub_emod, show 2 * p - (2 * p - o) = o by omega, Int.emod_eq_of_lt o0 o1]
/-- from a seat with a positive number there is a call to smaller ones -/
theorem GoodL.from {ns : List Int} {fs : List (List Int × Nat)} {d e : Nat} {p : List Int} (g : GoodL ns fs d) (h : dep fs p = some e) (h0 : 0 < e) : ∃ c rest, fromL ns fs p e = c :: rest := by
  obtain ⟨o, e1, e2, m1, m2, l1, l2⟩ := g.both _ (mem_dep h) h0
  have hm : toL ns p o ∈ fromL ns fs p e := by
    unfold fromL
    refine List.mem_map.mpr ⟨o, List.mem_filter.mpr ⟨?_, decide_eq_true ?_⟩, rfl⟩
    · unfold closerL
      exact List.mem_map.mpr ⟨(o, e1), List.mem_filter.mpr ⟨m1, decide_eq_true l1⟩, rfl⟩
    · rw [dep_mem g.nod m2]
      exact l2
  cases hf : fromL ns fs p e with
  | nil => rw [hf] at hm; cases hm
  | cons c rest => exact ⟨c, rest, rfl⟩
/-- the greatest number -/
def topL (fs : List (List Int × Nat)) : Nat := fs.foldl (fun m q => max m q.2) 0
theorem fold_top : ∀ (fs : List (List Int × Nat)) (m : Nat), m ≤ fs.foldl (fun m q => max m q.2) m ∧ (∀ q ∈ fs, q.2 ≤ fs.foldl (fun m q => max m q.2) m) ∧ (fs.foldl (fun m q => max m q.2) m = m ∨ ∃ q ∈ fs, q.2 = fs.foldl (fun m q => max m q.2) m)
  | [], m => ⟨Nat.le_refl _, (fun q h => absurd h List.not_mem_nil), Or.inl rfl⟩
  | f :: fs, m => by
    obtain ⟨h1, h2, h3⟩ := fold_top fs (max m f.2)
    rw [List.foldl_cons]
    refine ⟨by omega, fun q hq => ?_, ?_⟩
    · rcases List.mem_cons.mp hq with rfl | hq
      · omega
      · exact h2 q hq
    · rcases h3 with h3 | ⟨q, hq, h3⟩
      · rw [h3]
        by_cases c : f.2 ≤ m
        · exact .inl (by omega)
        · exact .inr ⟨f, List.mem_cons_self, by omega⟩
      · exact .inr ⟨q, List.mem_cons_of_mem _ hq, h3⟩
theorem top_is {fs : List (List Int × Nat)} (ne : fs ≠ []) {m : Int} (h1 : m ∈ fs.map fun q => (q.2 : Int)) (h2 : ∀ j ∈ fs.map (fun q => (q.2 : Int)), j ≤ m) : m = topL fs := by
  obtain ⟨a, b, c⟩ := fold_top fs 0
  obtain ⟨q, hq, rfl⟩ := List.mem_map.mp h1
  have b1 := b q hq
  have : topL fs ≤ q.2 := by
    rcases c with c | ⟨r, hr, c⟩
    · unfold topL
      omega
    · have := h2 _ (List.mem_map_of_mem hr)
      unfold topL
      omega
  unfold topL at this ⊢
  omega
theorem rounds_pre {ns : List Int} : ∀ (f : Nat) (fs : List (List Int × Nat)) (miss newest : List (List Int)) (d : Nat), ∃ gs, roundsL ns f fs miss newest d = fs ++ gs
  | 0, fs, _, _, _ => ⟨[], by rw [List.append_nil]; rfl⟩
  | f + 1, fs, miss, newest, d => by
    rw [roundsL]
    by_cases c : newest = []
    · rw [if_pos c]
      exact ⟨[], (List.append_nil _).symm⟩
    rw [if_neg c]
    obtain ⟨gs, h⟩ := rounds_pre f (fs ++ atD (d + 1) (newL ns fs miss newest)) (missL (fs ++ atD (d + 1) (newL ns fs miss newest)) miss) (newL ns fs miss newest) (d + 1)
    exact ⟨_, by rw [h, List.append_assoc]⟩
theorem counts_ne {ns : List Int} {tss : List (List Int)} (ne : tss ≠ []) : countsL ns tss ≠ [] := by
  obtain ⟨gs, h⟩ := rounds_pre ((allS ns).length + 2) (atD 0 tss) (missL (atD 0 tss) (allS ns)) tss 0 (ns := ns)
  intro z
  rw [countsL, h] at z
  exact ne (List.map_eq_nil_iff.mp (List.append_eq_nil_iff.mp z).1)

-- dictcomps
/-- a call within the rings -/
def modL (ns cs : List Int) : List Int := List.zipWith (fun c n => c % n) cs ns
def CSt.call (ns p : List Int) (i : Nat) : CSt → List Int
  | .calls css => modL ns (css.getD (i % css.length) [])
  | .lay fs => if (dep fs p).getD 0 = 0 then List.replicate ns.length 0 else (fromL ns fs p ((dep fs p).getD 0)).headD []
def unsafeB (ps : List Int) : RS → Bool
  | .words _ => false
  | .wit m ws r => decide (wsum ws ps % m = r)
  | .lay _ => false
def dirAt (ns ps cs : List Int) (i : Nat) : RS → Bool
  | .words bs => bs.getD (i % bs.length) false
  | .wit m ws r => decide (wsum ws (shiftL ns ps cs 1) % m = r)
  | .lay fs => decide ((dep fs (shiftL ns ps cs 1)).getD (topL fs + 1) < (dep fs (shiftL ns ps cs (-1))).getD (topL fs + 1))
theorem emod_nat {i n : Nat} : ((i : Int) % (n : Int)) = ((i % n : Nat) : Int) := rfl
section
variable {P : Program} {w : World} {K : PySem.W.Frag} {mg : Str → Option Value} {base : Heap}
def sp_Caller_call_at (CC C : Addr) : Sp := fun vs H Q _ => ∃ (p s : Addr) (i : Nat) (ns ps : List Int) (tss : List (List Int)) (cs : CSt), vs = [.ref p, .ref s, .int (i : Int)] ∧ CallerAt CC C H p ns tss cs ∧ SzOk ns ∧ (∀ ts ∈ tss, SeatOk ns ts) ∧ tss.Nodup ∧ cs.Ok ns tss ∧ H s = some (.tup (ps.map V.int)) ∧ SeatOk ns ps ∧ ∀ q H2, Ex H H2 → H2 q = some (.tup ((cs.call ns ps i).map V.int)) → Q (.ref q) H2
theorem ok_Caller_call_at (T : TX K mg) : FnOk P w K mg base CX0 4 T.f_Caller_call_at T.fd_Caller_call_at ["self", "seat", "index"] (sp_Caller_call_at T.C_Caller T.C_Table) := by
  refine T.F_Caller_call_at.ok sc_Caller_call_at (fun vs H Q E h => ?_) (fun cdv A outer s H vs Q E hr h => ?_)
  · obtain ⟨p, s, i, ns, ps, tss, cs, rfl, _⟩ := h
    rfl
  · obtain ⟨p, s, i, ns, ps, tss, cs, rfl, ⟨dx, a, g, st, dv, u, gs, h1, tab, h3, h4, hst, hdv⟩, ok, sks, nodt, hok, hs, sk, k⟩ := h
    obtain ⟨dt, t, g1, g2⟩ := id tab
    refine ⟨_, (pss_cons (ps_set (i := 3) sc_Caller_call_at.nd rfl (Or.inl rfl) (pe_meth0 (pe_fld (pv 0) rfl) T.cl_Table T.me_Table_sizes (ok_Table_sizes T) (hr.mono (by decide)) T.b_Table_sizes .nil pass0)) (pss_cons (ps_if (pt_cmpR op_isN (pe_fld (pv 0) rfl) pe_non (nomark _)) (pss_cons (ps_set (i := 4) sc_Caller_call_at.nd rfl (Or.inl rfl) (pe_ix ix_list (pe_fld (pv 0) rfl) (pe_op op_mod (pv 2) (pe_callB call_len_seq (by rfl) T.z_len (by decide +kernel) (pa_cons (pe_fld (pv 0) rfl) pa_nil))) (fun _ _ => rfl))) (pss_one (ps_ret (pe_callTy call_tuple_of (by rfl) T.z_tuple (by decide +kernel) (pa_cons (pe_lc (own := [("one", 5), ("size", 6)]) (g := (gTup K 2 (gCons (gName 5) (gCons (gName 6) gNil)))) rfl sc_Caller_call_at.nd (CZ.pi_z2s (fl := [true, true]) rfl (by rfl) T.z_zip (pa_cons (pv 4) (pa_cons (pv 3) pa_nil))) (blkOk_by (N := N_Caller_call_at) (sc := defScope s_Caller_call_at) (by decide +kernel)) (fun _ _ _ _ _ => (pg_tup rfl (pgs_cons (pg_name (i := 5) sc_Caller_call_at.nd rfl (Or.inl rfl)) (pgs_cons (pg_name (i := 6) sc_Caller_call_at.nd rfl (Or.inl rfl)) pgs_nil)))) (fun _ _ _ _ _ => pts_nil) (fun _ _ _ _ _ => (pe_op op_mod (pv 5) (pv 6)))) pa_nil))))) pss_nil) (pss_cons (ps_if (pt_cmpR (r := rEqD K) (op_eqD hr.units) (pe_dget2 (hu_of hr) (pe_fld (pv 0) rfl) (pv 1) pe_int ⟨rfl, rfl, rfl, rfl⟩) pe_int (nomark _)) (pss_one (ps_ret (pe_op (r := rRepA K) op_repA (pe_tup (pa_cons pe_int pa_nil)) (pe_callB call_len_seq (by rfl) T.z_len (by decide +kernel) (pa_cons (pv 3) pa_nil))))) pss_nil) (pss_one (ps_ret (pe_call (ok_call_from T) hr rfl T.m_call_from T.F_call_from.kp T.b_call_from .nil pass0 (pa_cons (pe_fld (pv 0) rfl) (pa_cons (pe_fld (pv 0) rfl) (pa_cons (pv 1) pa_nil))))))))), ?_⟩
    have l4 := ok.le
    have n1 : 1 ≤ ns.length := Nat.pos_of_ne_zero fun z => ok.pos (List.length_eq_zero_iff.mp z)
    refine ⟨_, rfl, p, T.C_Caller, dx, _, _, rfl, h1, T.cl_Caller, T.n_Caller_table, rfl, a, dt, _, rfl, g1, rfl, a, dt, t, rfl, g1, ?_⟩
    dsimp only [gName]
    cases cs with
    | calls css =>
      obtain ⟨st, rfl, xs, h5, h6⟩ := hst
      obtain rfl : dv = .non := hdv
      obtain ⟨ne, _, hcc⟩ := hok
      have lp : 0 < css.length := List.length_pos_iff.mpr ne
      have lx : xs.length = css.length := Paired.length h6
      have il : i % css.length < css.length := Nat.mod_lt _ lp
      obtain ⟨x0, hx0⟩ : ∃ x0, xs[i % css.length]? = some x0 := ⟨_, List.getElem?_eq_getElem (by omega)⟩
      obtain ⟨cs, rf, hcs, rfl, hrf⟩ := h6.get hx0
      have lcs := hcc cs (List.mem_of_getElem? hcs)
      have ec : CSt.call ns ps i (.calls css) = modL ns cs := by
        show modL ns (css.getD (i % css.length) []) = _
        rw [List.getD_eq_getElem?_getD, hcs]
        rfl
      rw [ec] at k
      refine ⟨_, rfl, p, T.C_Caller, dx, _, _, rfl, h1, T.cl_Caller, T.n_Caller_depths, rfl, rfl, _, rfl, itt rfl ?_⟩
      have hat : atI xs ((i : Int) % (xs.length : Int)) = some (.ref rf) := by
        rw [lx]
        exact L2.atI_nat hx0
      refine ⟨_, rfl, p, T.C_Caller, dx, _, _, rfl, h1, T.cl_Caller, T.n_Caller_strategy, rfl, _, rfl, _, rfl, p, T.C_Caller, dx, _, _, rfl, h1, T.cl_Caller, T.n_Caller_strategy, rfl, st, _, rfl, .inl (SqL.of h5), _, _, rfl, rfl, (by show (0 : Int) < (xs.length : Int); omega), st, _, _, _, rfl, rfl, SqL.of h5, hat, ?_⟩
      refine ⟨_, rfl, _, rfl, [rf, t], rfl, rfl, all2 (sqT hrf) (sqT g2), fun D hD => ?_⟩
      have lm : (modL ns cs).length = ns.length := by
        unfold modL
        rw [List.length_zipWith]
        omega
      refine lc_vals (CZ.walk_rows (xss := [cs.map V.int, ns.map V.int]) (n := ns.length) (lens2 (by rw [List.length_map, lcs]) (by rw [List.length_map]))) ((modL ns cs).map V.int) (by rw [List.length_map, lm]) (by omega) hD (fun H3 e => .cons (sqT (e _ _ hrf)) (.cons (sqT (e _ _ g2)) .nil)) ?_ (gmono_tup (gmono_cons gmono_name (gmono_cons gmono_name gmono_nil))) ?_
      · intro j y H6 H7 R hj e yy kk
        obtain ⟨Tb, c, n, rfl, hTb, rfl, hp, hdd⟩ := yints2 yy
        have n1 := ok.one n (List.mem_of_getElem? hdd)
        refine ⟨Tb, _, rfl, SqT.of upd_same, rfl, _, _, rfl, _, _, rfl, rfl, ?_⟩
        refine ⟨rfl, _, rfl, _, rfl, _, _, rfl, rfl, (by show (0 : Int) < n; omega), ?_⟩
        refine kk _ _ (exn hTb) ?_
        unfold modL
        rw [List.getElem?_map, List.getElem?_zipWith, hp, hdd]
        rfl
      · intro H3 e hD3
        exact ⟨D, _, rfl, .inl ⟨SqL.of hD3, fun q hq => k q _ (ext e (exn hq)) upd_same⟩⟩
    | lay fs =>
      obtain ⟨D, rfl, hD⟩ := hdv
      obtain ⟨ef, pr⟩ := hok
      obtain ⟨dd, gd⟩ := counts_good sks nodt
      rw [← ef] at gd
      have k : ∀ q H2, Ex H H2 → H2 q = some (.tup ((if (dep fs ps).getD 0 = 0 then List.replicate ns.length 0 else (fromL ns fs ps ((dep fs ps).getD 0)).headD []).map V.int)) → Q (.ref q) H2 := k
      refine ⟨_, rfl, p, T.C_Caller, dx, _, _, rfl, h1, T.cl_Caller, T.n_Caller_depths, rfl, rfl, _, rfl, itf rfl ?_⟩
      refine ⟨_, rfl, p, T.C_Caller, dx, _, _, rfl, h1, T.cl_Caller, T.n_Caller_depths, rfl, D, rfl, .inr ⟨_, .inl hD⟩, _, rfl, _, cnt_get hD hs, ?_⟩
      have eg : ((dep fs ps).map fun d : Nat => V.int (d : Int)).getD (V.int 0) = V.int (((dep fs ps).getD 0 : Nat) : Int) := getD_int _ 0
      rw [eg]
      refine ⟨_, _, .int _, .int _, (sh_int (n := 60) _).ok, (sh_int (n := 60) _).ok, _, rfl, ?_⟩
      by_cases c : (dep fs ps).getD 0 = 0
      · refine itt (by rw [c]; exact eqv_refl _ (sh_int (n := 60) _).1) ?_
        simp only [if_pos c] at k
        (repeat (first | refine ⟨rfl, ?_⟩ | refine ⟨_, rfl, ?_⟩ | refine ⟨_, _, rfl, rfl, ?_⟩ | refine ⟨_, _, rfl, ?_⟩ | refine ⟨slen rfl, ?_⟩ | refine ⟨⟨by decide, by decide +kernel⟩, ?_⟩ | refine ⟨⟨by decide, by decide, by decide⟩, ?_⟩ | refine ⟨(by show (0 : Int) < _; first | decide | assumption | omega), ?_⟩ | refine ⟨mul_ok (by first | exact .inr (by decide) | exact .inl (by decide)), ?_⟩))
        (intro u0 nu0; generalize hGu0 : upd _ u0 _ = H1; have eH1 := exG hGu0 nu0; have hu0 := atG hGu0; clear hGu0)
        refine ⟨_, rfl, t, _, rfl, .inr (SqT.of (eH1 _ _ g2)), ?_⟩
        rw [List.length_map]
        exact rep_ints hu0 (by omega) (by omega) fun q H2 e2 hq => k q H2 (ext eH1 e2) hq
      · refine itf ?_ ?_
        · simp [PyData.eqv]
          omega
        simp only [if_neg c] at k
        obtain ⟨e, he⟩ : ∃ e, dep fs ps = some e := by
          cases hx : dep fs ps with
          | none => rw [hx] at c; exact absurd rfl c
          | some e => exact ⟨e, rfl⟩
        rw [he] at k c
        have e0 : 0 < e := Nat.pos_of_ne_zero c
        obtain ⟨c1, rest, hfr⟩ := gd.from he e0
        have k : ∀ q H2, Ex H H2 → H2 q = some (.tup ((fromL ns fs ps e).headD [] |>.map V.int)) → Q (.ref q) H2 := k
        rw [hfr] at k
        have lA : fs.length ≤ 1000 := by
          have := gd.len
          have := allS_len ok.one
          omega
        exact ⟨_, rfl, p, T.C_Caller, dx, _, _, rfl, h1, T.cl_Caller, T.n_Caller_table, rfl, _, rfl, p, T.C_Caller, dx, _, _, rfl, h1, T.cl_Caller, T.n_Caller_depths, rfl, _, rfl, a, D, s, ns, ps, c1, fs, e, rest, rfl, tab, ok, hD, lA, gd.nod, fun q hq => (by obtain ⟨e, he⟩ := mem_keys hq; exact gd.seat _ he), hs, sk, he, hfr, fun q H2 e2 hq => k q H2 e2 hq⟩
def sp_Responder_is_unsafe (CR C : Addr) : Sp := fun vs H Q _ => ∃ (p s : Addr) (ns ps : List Int) (tss : List (List Int)) (rs : RS), vs = [.ref p, .ref s] ∧ RespAt CR C H p ns tss rs ∧ SzOk ns ∧ (∀ n ∈ ns, n.natAbs < 2 ^ 5000) ∧ rs.Ok ns tss ∧ H s = some (.tup (ps.map V.int)) ∧ SeatOk ns ps ∧ ∀ H2, Ex H H2 → Q (.bl (unsafeB ps rs)) H2
theorem ok_Responder_is_unsafe (T : TX K mg) : FnOk P w K mg base CX0 3 T.f_Responder_is_unsafe T.fd_Responder_is_unsafe ["self", "seat"] (sp_Responder_is_unsafe T.C_Responder T.C_Table) := by
  refine T.F_Responder_is_unsafe.ok sc_Responder_is_unsafe (fun vs H Q E h => ?_) (fun cdv A outer s H vs Q E hr h => ?_)
  · obtain ⟨p, s, ns, ps, tss, rs, rfl, _⟩ := h
    rfl
  · obtain ⟨p, s, ns, ps, tss, rs, rfl, ⟨dx, a, g, st, dv, u, gs, h1, tab, h3, h4, hst, hdv⟩, ok, bn, hrs, hs, sk, k⟩ := h
    refine ⟨_, (pss_one (ps_ret (pe_and (pe_callB call_isi (by rfl) T.z_isinstance (by decide +kernel) (pa_cons (pe_fld (pv 0) rfl) (pa_cons (pe_bltn (v := .ty "tuple") rfl T.z_tuple (by decide +kernel) rfl) pa_nil))) (pe_one (pe_call (ok_has_residue T) hr rfl T.m_has_residue T.F_has_residue.kp T.b_has_residue .nil pass0 (pa_cons (pe_fld (pv 0) rfl) (pa_cons (pv 1) pa_nil))))))), ?_⟩
    cases rs with
    | words bs =>
      obtain ⟨st, rfl, h5⟩ := hst
      exact ⟨_, rfl, p, T.C_Responder, dx, _, _, rfl, h1, T.cl_Responder, T.n_Responder_strategy, rfl, _, _, _, _, false, rfl, .ty _, .base (.lst h5), kit_ty (by decide +kernel), _, rfl, k H exr⟩
    | wit m ws r =>
      obtain ⟨wk, bm, _⟩ := hrs
      have m3 := wk.m3
      obtain ⟨st, rfl, h5⟩ := hst
      obtain ⟨wa, hw1, hw2⟩ := id h5
      refine ⟨_, rfl, p, T.C_Responder, dx, _, _, rfl, h1, T.cl_Responder, T.n_Responder_strategy, rfl, _, _, _, _, true, rfl, .ty _, .base (.tup hw1), kit_ty (by decide +kernel), _, rfl, iteT ?_⟩
      refine ⟨_, rfl, p, T.C_Responder, dx, _, _, rfl, h1, T.cl_Responder, T.n_Responder_strategy, rfl, _, rfl, st, s, ws, ps, m, r, rfl, h5, by omega, hs, by rw [wk.len, sk.len], by rw [sk.len]; exact ok.le, fun x hx => ?_, seat_small sk bn, fun H2 e2 => k H2 e2⟩
      obtain ⟨x0, x1⟩ := wk.w0 x hx
      exact Nat.lt_of_le_of_lt (by omega) bm
    | lay fs =>
      obtain rfl : st = .str "layers" := hst
      exact ⟨_, rfl, p, T.C_Responder, dx, _, _, rfl, h1, T.cl_Responder, T.n_Responder_strategy, rfl, _, _, _, _, false, rfl, .ty _, .base (.str _), kit_ty (by decide +kernel), _, rfl, k H exr⟩
def sp_Responder_direction_at (CR C : Addr) : Sp := fun vs H Q _ => ∃ (p s c : Addr) (i : Nat) (ns ps cs : List Int) (tss : List (List Int)) (rs : RS), vs = [.ref p, .ref s, .ref c, .int (i : Int)] ∧ RespAt CR C H p ns tss rs ∧ SzOk ns ∧ (∀ n ∈ ns, n.natAbs < 2 ^ 5000) ∧ rs.Ok ns tss ∧ tss ≠ [] ∧ H s = some (.tup (ps.map V.int)) ∧ SeatOk ns ps ∧ H c = some (.tup (cs.map V.int)) ∧ cs.length = ns.length ∧ ∀ H2, Ex H H2 → Q (.str (awayW (dirAt ns ps cs i rs))) H2
theorem ok_Responder_direction_at (T : TX K mg) : FnOk P w K mg base CX0 7 T.f_Responder_direction_at T.fd_Responder_direction_at ["self", "seat", "call", "index"] (sp_Responder_direction_at T.C_Responder T.C_Table) := by
  refine T.F_Responder_direction_at.ok sc_Responder_direction_at (fun vs H Q E h => ?_) (fun cdv A outer s H vs Q E hr h => ?_)
  · obtain ⟨p, s, c, i, ns, ps, cs, tss, rs, rfl, _⟩ := h
    rfl
  · obtain ⟨p, s, c, i, ns, ps, cs, tss, rs, rfl, ⟨dx, a, g, st, dv, u, gs, h1, tab, h3, h4, hst, hdv⟩, ok, bn, hrs, tne, hs, sk, hc, lc, k⟩ := h
    refine ⟨_, (pss_cons (ps_if (pt_val (pe_callB call_isi (by rfl) T.z_isinstance (by decide +kernel) (pa_cons (pe_fld (pv 0) rfl) (pa_cons (pe_bltn (v := .ty "tuple") rfl T.z_tuple (by decide +kernel) rfl) pa_nil)))) (pss_one (ps_ret (pe_call (ok_direction_off T) hr rfl T.m_direction_off T.F_direction_off.kp T.b_direction_off .nil pass0 (pa_cons (pe_fld (pv 0) rfl) (pa_cons (pe_fld (pv 0) rfl) (pa_cons (pv 1) (pa_cons (pv 2) pa_nil))))))) pss_nil) (pss_cons (ps_if (pt_cmpR op_isN (pe_fld (pv 0) rfl) pe_non (nomark _)) (pss_one (ps_ret (pe_ix ix_list (pe_fld (pv 0) rfl) (pe_op op_mod (pv 3) (pe_callB call_len_seq (by rfl) T.z_len (by decide +kernel) (pa_cons (pe_fld (pv 0) rfl) pa_nil))) (fun _ _ => rfl)))) pss_nil) (pss_cons (ps_set (i := 4) sc_Responder_direction_at.nd rfl (Or.inr rfl) (pe_op op_add (pe_callB (CD.cr_maxT rfl) (by rfl) T.z_max (by decide +kernel) (pa_cons (pe_bm0 PySem.F.plainAttrs_dict PySem.F.slot_dict_values PySem.F.type_dict_values CD.mt_valuesT (pe_fld (pv 0) rfl)) pa_nil)) pe_int)) (pss_cons (ps_asg (pe_lc (own := [("one", 7)]) (g := (gName 7)) rfl sc_Responder_direction_at.nd (pi_tup (pe_meth (pe_fld (pv 0) rfl) T.cl_Table T.me_Table_moves (ok_Table_moves T) (hr.mono (by decide)) T.b_Table_moves .nil pass0 (pa_cons (pv 1) (pa_cons (pv 2) pa_nil)))) (blkOk_by (N := N_Responder_direction_at) (sc := defScope s_Responder_direction_at) (by decide +kernel)) (fun _ _ _ _ _ => (pg_name (i := 7) sc_Responder_direction_at.nd rfl (Or.inl rfl))) (fun _ _ _ _ _ => pts_nil) (fun _ _ _ _ _ => (pe_dget2 (hu_of hr) (pe_fldK K rfl (pv 0) rfl) (pv 7) (pv 4) ⟨rfl, rfl, rfl, rfl⟩))) (pg_lst rfl (pgs_cons (pg_name (i := 5) sc_Responder_direction_at.nd rfl (Or.inl rfl)) (pgs_cons (pg_name (i := 6) sc_Responder_direction_at.nd rfl (Or.inl rfl)) pgs_nil)))) (pss_one (ps_ret (pe_ifExp (pt_cmpR op_gt (pv 6) (pv 5) (nomark _)) pe_str pe_str))))))), ?_⟩
    cases rs with
    | words bs =>
      obtain ⟨st, rfl, h5⟩ := hst
      obtain rfl : dv = .non := hdv
      refine ⟨_, rfl, p, T.C_Responder, dx, _, _, rfl, h1, T.cl_Responder, T.n_Responder_strategy, rfl, _, _, _, _, false, rfl, .ty _, .base (.lst h5), kit_ty (by decide +kernel), _, rfl, itf rfl ?_⟩
      have h5 : H st = some (.lst (wordsV bs)) := h5
      have lp : 0 < bs.length := List.length_pos_iff.mpr hrs.1
      have il : i % bs.length < bs.length := Nat.mod_lt _ lp
      have lw : (wordsV bs).length = bs.length := List.length_map _
      have hat : atI (wordsV bs) ((i : Int) % ((wordsV bs).length : Int)) = some (.str (awayW (dirAt ns ps cs i (.words bs)))) := by
        rw [lw]
        show atI (wordsV bs) ((i % bs.length : Nat) : Int) = _
        refine L2.atI_nat ?_
        rw [List.getElem?_map, List.getElem?_eq_getElem il]
        show some _ = some (V.str (awayW (bs.getD (i % bs.length) false)))
        rw [List.getD_eq_getElem?_getD, List.getElem?_eq_getElem il]
        rfl
      show tSeq _ _ _ _ _
      refine ⟨_, rfl, p, T.C_Responder, dx, _, _, rfl, h1, T.cl_Responder, T.n_Responder_depths, rfl, rfl, _, rfl, itt rfl ?_⟩
      exact ⟨_, rfl, p, T.C_Responder, dx, _, _, rfl, h1, T.cl_Responder, T.n_Responder_strategy, rfl, _, rfl, _, rfl, p, T.C_Responder, dx, _, _, rfl, h1, T.cl_Responder, T.n_Responder_strategy, rfl, st, _, rfl, .inl (SqL.of h5), _, _, rfl, rfl, (by show (0 : Int) < ((wordsV bs).length : Int); omega), st, _, _, _, rfl, rfl, SqL.of h5, hat, k H exr⟩
    | wit m ws r =>
      obtain ⟨wk, bm, _⟩ := hrs
      obtain ⟨st, rfl, h5⟩ := hst
      obtain ⟨wa, hw1, hw2⟩ := id h5
      refine ⟨_, rfl, p, T.C_Responder, dx, _, _, rfl, h1, T.cl_Responder, T.n_Responder_strategy, rfl, _, _, _, _, true, rfl, .ty _, .base (.tup hw1), kit_ty (by decide +kernel), _, rfl, itt rfl ?_⟩
      exact ⟨_, rfl, p, T.C_Responder, dx, _, _, rfl, h1, T.cl_Responder, T.n_Responder_table, rfl, _, rfl, p, T.C_Responder, dx, _, _, rfl, h1, T.cl_Responder, T.n_Responder_strategy, rfl, _, rfl, _, rfl, a, st, s, c, ns, ws, ps, cs, m, r, rfl, tab, ok, bn, h5, wk, bm, hs, sk, hc, lc, fun H2 e2 => k H2 e2⟩
    | lay fs =>
      obtain rfl : st = .str "layers" := hst
      obtain ⟨D, rfl, hD⟩ := hdv
      refine ⟨_, rfl, p, T.C_Responder, dx, _, _, rfl, h1, T.cl_Responder, T.n_Responder_strategy, rfl, _, _, _, _, false, rfl, .ty _, .base (.str _), kit_ty (by decide +kernel), _, rfl, itf rfl ?_⟩
      show tSeq _ _ _ _ _
      refine ⟨_, rfl, p, T.C_Responder, dx, _, _, rfl, h1, T.cl_Responder, T.n_Responder_depths, rfl, rfl, _, rfl, itf rfl ?_⟩
      show tSeq _ _ _ _ _
      refine ⟨_, rfl, p, T.C_Responder, dx, _, _, rfl, h1, T.cl_Responder, T.n_Responder_depths, rfl, .inr (.inr (.inl ⟨rfl, .inr ⟨_, hD⟩⟩)), D, _, rfl, rfl, hD, fun vv hvv => ?_⟩
      generalize hG1 : upd H vv _ = H1
      have e1 := exG hG1 hvv
      have hv1 := atG hG1
      clear hG1
      obtain ⟨ef, pr⟩ := hrs
      have fne : fs ≠ [] := fun z => by
        rw [z] at ef
        exact counts_ne tne ef.symm
      refine ⟨vv, D, _, fs.map fun q => (q.2 : Int), rfl, hv1, e1 _ _ hD, by rw [List.map_map, List.map_map]; rfl, (fun z => fne (List.map_eq_nil_iff.mp z)), fun m hm1 hm2 => ?_⟩
      obtain rfl := top_is fne hm1 hm2
      refine ⟨_, _, rfl, rfl, ?_⟩
      dsimp only [gName]
      have h11 := e1 _ _ h1
      have tab1 := tab.mono e1
      obtain ⟨dt, t, g1, g2⟩ := id tab1
      refine ⟨_, rfl, p, T.C_Responder, dx, _, _, rfl, h11, T.cl_Responder, T.n_Responder_table, rfl, a, dt, _, rfl, g1, rfl, _, rfl, _, rfl, a, s, c, ns, ps, cs, rfl, tab1, ok, e1 _ _ hs, e1 _ _ hc, sk, lc, fun H2 qq f b e2 nq nf nb hq hf hb => ?_⟩
      refine ⟨qq, rfl, ⟨_, SqT.of hq⟩, fun M hM => ?_⟩
      have E2 := ext e1 e2
      have h12 := E2 _ _ h1
      have hD2 : CntAt H2 D fs := E2 _ _ hD
      generalize hA : shiftL ns ps cs 1 = pa at hf
      generalize hB : shiftL ns ps cs (-1) = pb at hb
      refine lc_vals (walk_tup (xs := [V.ref f, V.ref b])) [V.int (((dep fs pa).getD (topL fs + 1) : Nat) : Int), V.int (((dep fs pb).getD (topL fs + 1) : Nat) : Int)] rfl (Nat.le_of_ble_eq_true rfl) hM (fun H3 e => SqT.of (e _ _ hq)) ?_ gmono_name ?_
      · rintro j x _ H3 R hj e3 ⟨rfl, hx⟩ kk
        obtain ⟨r, pp, rfl, hr, hj2⟩ : ∃ (r : Addr) (pp : List Int), x = .ref r ∧ H3 r = some (.tup (pp.map V.int)) ∧ [V.int (((dep fs pa).getD (topL fs + 1) : Nat) : Int), V.int (((dep fs pb).getD (topL fs + 1) : Nat) : Int)][j]? = some (V.int (((dep fs pp).getD (topL fs + 1) : Nat) : Int)) := by
          match j, hj, hx with
          | 0, _, hx => exact ⟨f, pa, (Option.some.inj hx).symm, e3 _ _ hf, rfl⟩
          | 1, _, hx => exact ⟨b, pb, (Option.some.inj hx).symm, e3 _ _ hb, rfl⟩
        refine ⟨rfl, _, rfl, p, T.C_Responder, dx, _, _, rfl, e3 _ _ h12, T.cl_Responder, T.n_Responder_depths, rfl, D, rfl, .inr ⟨_, .inl (hD2.mono e3)⟩, _, rfl, _, rfl, _, cnt_get (hD2.mono e3) hr, kk _ _ exr ?_⟩
        rw [hj2, ← getD_int]
        rfl
      intro H3 e3 hM3
      refine ⟨M, _, rfl, SqL.of hM3, rfl, _, _, rfl, _, _, rfl, rfl, ?_⟩
      dsimp only [gName]
      refine ⟨_, rfl, _, rfl, _, _, rfl, rfl, _, rfl, ?_⟩
      have kk := k H3 (ext E2 e3)
      have ed : dirAt ns ps cs i (.lay fs) = decide ((dep fs pa).getD (topL fs + 1) < (dep fs pb).getD (topL fs + 1)) := by
        rw [← hA, ← hB]
        rfl
      rw [ed] at kk
      by_cases c : (dep fs pa).getD (topL fs + 1) < (dep fs pb).getD (topL fs + 1)
      · rw [decide_eq_true c] at kk
        exact itt (decide_eq_true (by omega)) kk
      · rw [decide_eq_false c] at kk
        exact itf (decide_eq_false (by omega)) kk
end

section
variable {P : Program} {w : World} {K : PySem.W.Frag} {mg : Str → Option Value} {base : Heap}
def sp_Responder_answer (CR C : Addr) : Sp := fun vs H Q _ => ∃ (p s c : Addr) (ns ps cs : List Int) (tss : List (List Int)) (rs : RS) (u : Nat), vs = [.ref p, .ref s, .ref c] ∧ RespU CR C H p ns tss rs u ∧ SzOk ns ∧ (∀ n ∈ ns, n.natAbs < 2 ^ 5000) ∧ rs.Ok ns tss ∧ tss ≠ [] ∧ H s = some (.tup (ps.map V.int)) ∧ SeatOk ns ps ∧ H c = some (.tup (cs.map V.int)) ∧ cs.length = ns.length ∧ unsafeB ps rs = false ∧ ∀ H2, XB p H H2 → (∀ m, RespO CR C H p ns tss rs u m → RespO CR C H2 p ns tss rs (u + 1) m) → RespU CR C H2 p ns tss rs (u + 1) → Q (.str (awayW (dirAt ns ps cs u rs))) H2
theorem ok_Responder_answer (T : TX K mg) : FnOk P w K mg base CX0 8 T.f_Responder_answer T.fd_Responder_answer ["self", "seat", "call"] (sp_Responder_answer T.C_Responder T.C_Table) := by
  refine T.F_Responder_answer.ok sc_Responder_answer (fun vs H Q E h => ?_) (fun cdv A outer s H vs Q E hr h => ?_)
  · obtain ⟨p, s, c, ns, ps, cs, tss, rs, u, rfl, _⟩ := h
    rfl
  · obtain ⟨p, s, c, ns, ps, cs, tss, rs, u, rfl, hrp, ok, bn, hrs, tne, hs, sk, hc, lc, un, k⟩ := h
    obtain ⟨dx, a, g, st, dv, gs, h1, tab, h3, h4, h5, h6⟩ := id hrp
    refine ⟨_, (pss_cons (ps_expr (pe_call (ok_require_seat T) (hr.mono (by decide)) rfl T.m_require_seat T.F_require_seat.kp T.b_require_seat .nil pass0 (pa_cons (pe_fld (pv 0) rfl) (pa_cons (pv 1) pa_nil)))) (pss_cons (ps_if (pt_val (pe_meth (pv 0) T.cl_Responder T.me_Responder_is_unsafe (ok_Responder_is_unsafe T) (hr.mono (by decide)) T.b_Responder_is_unsafe .nil pass0 (pa_cons (pv 1) pa_nil))) pss_never pss_nil) (pss_cons (ps_expr (pe_call (ok_require_call T) (hr.mono (by decide)) rfl T.m_require_call T.F_require_call.kp T.b_require_call .nil pass0 (pa_cons (pe_fld (pv 0) rfl) (pa_cons (pv 2) pa_nil)))) (pss_cons (ps_set (i := 3) sc_Responder_answer.nd rfl (Or.inl rfl) (pe_meth (pv 0) T.cl_Responder T.me_Responder_direction_at (ok_Responder_direction_at T) hr T.b_Responder_direction_at .nil pass0 (pa_cons (pv 1) (pa_cons (pv 2) (pa_cons (pe_fld (pv 0) rfl) pa_nil))))) (pss_cons (ps_fldaug (pv 0) pe_int in_add) (pss_one (ps_ret (pv 3)))))))), ?_⟩
    have l4 := ok.le
    have lp := sk.len
    refine ⟨_, rfl, p, T.C_Responder, dx, _, _, rfl, h1, T.cl_Responder, T.n_Responder_table, rfl, _, rfl, a, _, ns, _, rfl, tab, l4, TupA.ints hs (by omega), isSeat_ok sk, fun H1 e1 => ?_⟩
    refine ⟨_, rfl, p, dx, _, rfl, e1 _ _ h1, rfl, _, rfl, p, s, ns, ps, tss, rs, rfl, hrp.at.mono e1, ok, bn, hrs, e1 _ _ hs, sk, fun H2 e2 => ⟨_, rfl, itf un ?_⟩⟩
    have E2 := ext e1 e2
    refine ⟨_, rfl, p, T.C_Responder, dx, _, _, rfl, E2 _ _ h1, T.cl_Responder, T.n_Responder_table, rfl, _, rfl, a, _, ns, _, rfl, tab.mono E2, TupA.ints (E2 _ _ hc) (by omega), isCall_ok lc, fun H3 e3 => ?_⟩
    have E3 := ext E2 e3
    refine ⟨_, rfl, p, dx, _, rfl, E3 _ _ h1, rfl, _, rfl, _, rfl, _, rfl, p, T.C_Responder, dx, _, _, rfl, E3 _ _ h1, T.cl_Responder, T.n_Responder_used, rfl, p, s, c, u, ns, ps, cs, tss, rs, rfl, hrp.at.mono E3, ok, bn, hrs, tne, E3 _ _ hs, sk, E3 _ _ hc, lc, fun H4 e4 => ?_⟩
    have E4 := ext E3 e4
    have h14 := E4 _ _ h1
    refine ⟨_, rfl, p, T.C_Responder, dx, _, _, rfl, h14, T.cl_Responder, T.n_Responder_used, rfl, ?_⟩
    refine ⟨_, _, rfl, rfl, dx, _, h14, (by show 5 < 1000; decide), _, rfl, ?_⟩
    have own : ∀ m, RespO T.C_Responder T.C_Table H p ns tss rs u m → st ≠ .ref m := fun m ⟨dx', a', g', st', dv', gs', z1, _, _, _, _, _, z7⟩ => by
      rw [h1] at z1
      injection z1 with z1
      injection z1 with _ _ z3
      simp only [List.cons.injEq, Prod.mk.injEq] at z3
      rw [z3.2.2.1.2]
      exact z7
    have xbp : XB p H (upd H4 p (.ins T.C_Responder dx [("table", .ref a), ("goals", .ref g), ("strategy", st), ("used", .int ((u + 1 : Nat) : Int)), ("depths", dv)])) := fun c o n z => by rw [upd_ne n]; exact E4 _ _ z
    refine k _ xbp (fun m hm => ?_) ?_
    · have hst := own m hm
      generalize hG : upd H4 p _ = H5
      have hp5 : H5 p = some (.ins T.C_Responder dx [("table", .ref a), ("goals", .ref g), ("strategy", st), ("used", .int ((u + 1 : Nat) : Int)), ("depths", dv)]) := by rw [← hG]; exact upd_same
      have x5 : XI H4 H5 := fun c o n z => by rw [← hG, upd_ne (ne_of z h14 (n _ _ _))]; exact z
      obtain ⟨dt, t, g1, g2⟩ := tab.mono E4
      have na : a ≠ p := ne_of g1 h14 (fun z => by
        injection z with z1 z2 z3
        exact absurd (congrArg List.length z3) (by simp))
      have g15 : H5 a = some (.ins T.C_Table dt [("rings", .ref t)]) := by rw [← hG, upd_ne na]; exact g1
      exact ⟨dx, a, g, st, dv, gs, hp5, ⟨dt, t, g15, x5.tup g2⟩, x5.tup (E4 _ _ h3), x5.rows (h4.mono E4), h5.xi (fun c o n z => x5 c o n (E4 _ _ z)), h6.xi (fun c o n z => x5 c o n (E4 _ _ z)), hst⟩
    · generalize hG : upd H4 p _ = H5
      have hp5 : H5 p = some (.ins T.C_Responder dx [("table", .ref a), ("goals", .ref g), ("strategy", st), ("used", .int ((u + 1 : Nat) : Int)), ("depths", dv)]) := by rw [← hG]; exact upd_same
      have x5 : XI H4 H5 := fun c o n z => by rw [← hG, upd_ne (ne_of z h14 (n _ _ _))]; exact z
      obtain ⟨dt, t, g1, g2⟩ := tab.mono E4
      have na : a ≠ p := ne_of g1 h14 (fun z => by
        injection z with z1 z2 z3
        exact absurd (congrArg List.length z3) (by simp))
      have g15 : H5 a = some (.ins T.C_Table dt [("rings", .ref t)]) := by rw [← hG, upd_ne na]; exact g1
      exact ⟨dx, a, g, st, dv, gs, hp5, ⟨dt, t, g15, x5.tup g2⟩, x5.tup (E4 _ _ h3), x5.rows (h4.mono E4), h5.xi (fun c o n z => x5 c o n (E4 _ _ z)), h6.xi (fun c o n z => x5 c o n (E4 _ _ z))⟩
def sp_Caller_next_call (CC C : Addr) : Sp := fun vs H Q _ => ∃ (p s : Addr) (ns ps : List Int) (tss : List (List Int)) (cs : CSt) (u : Nat), vs = [.ref p, .ref s] ∧ CallerU CC C H p ns tss cs u ∧ SzOk ns ∧ (∀ ts ∈ tss, SeatOk ns ts) ∧ tss.Nodup ∧ cs.Ok ns tss ∧ H s = some (.tup (ps.map V.int)) ∧ SeatOk ns ps ∧
  ∀ q H2, XB p H H2 → CallerU CC C H2 p ns tss cs (u + 1) → H2 q = some (.tup ((cs.call ns ps u).map V.int)) → Q (.ref q) H2
theorem ok_Caller_next_call (T : TX K mg) : FnOk P w K mg base CX0 5 T.f_Caller_next_call T.fd_Caller_next_call ["self", "seat"] (sp_Caller_next_call T.C_Caller T.C_Table) := by
  refine T.F_Caller_next_call.ok sc_Caller_next_call (fun vs H Q E h => ?_) (fun cdv A outer s H vs Q E hr h => ?_)
  · obtain ⟨p, s, ns, ps, tss, cs, u, rfl, _⟩ := h
    rfl
  · obtain ⟨p, s, ns, ps, tss, cs, u, rfl, hcl, ok, sks, nod, hcs, hs, sk, k⟩ := h
    obtain ⟨dx, a, g, st, dv, gs, h1, tab, h3, h4, h5, h6⟩ := id hcl
    refine ⟨_, (pss_cons (ps_expr (pe_call (ok_require_seat T) hr rfl T.m_require_seat T.F_require_seat.kp T.b_require_seat .nil pass0 (pa_cons (pe_fld (pv 0) rfl) (pa_cons (pv 1) pa_nil)))) (pss_cons (ps_set (i := 2) sc_Caller_next_call.nd rfl (Or.inl rfl) (pe_meth (pv 0) T.cl_Caller T.me_Caller_call_at (ok_Caller_call_at T) hr T.b_Caller_call_at .nil pass0 (pa_cons (pv 1) (pa_cons (pe_fld (pv 0) rfl) pa_nil)))) (pss_cons (ps_fldaug (pv 0) pe_int in_add) (pss_one (ps_ret (pv 2)))))), ?_⟩
    have l4 := ok.le
    have lp := sk.len
    refine ⟨_, rfl, p, T.C_Caller, dx, _, _, rfl, h1, T.cl_Caller, T.n_Caller_table, rfl, _, rfl, a, _, ns, _, rfl, tab, l4, TupA.ints hs (by omega), isSeat_ok sk, fun H1 e1 => ?_⟩
    refine ⟨_, rfl, p, dx, _, rfl, e1 _ _ h1, rfl, _, rfl, _, rfl, p, T.C_Caller, dx, _, _, rfl, e1 _ _ h1, T.cl_Caller, T.n_Caller_used, rfl, p, s, u, ns, ps, tss, cs, rfl, hcl.at.mono e1, ok, sks, nod, hcs, e1 _ _ hs, sk, fun q H4 e4 hq => ?_⟩
    have E4 := ext e1 e4
    have h14 := E4 _ _ h1
    refine ⟨_, rfl, p, T.C_Caller, dx, _, _, rfl, h14, T.cl_Caller, T.n_Caller_used, rfl, ?_⟩
    refine ⟨_, _, rfl, rfl, dx, _, h14, (by show 5 < 1000; decide), _, rfl, ?_⟩
    generalize hG : upd H4 p _ = H5
    have hp5 : H5 p = some (.ins T.C_Caller dx [("table", .ref a), ("goals", .ref g), ("strategy", st), ("used", .int ((u + 1 : Nat) : Int)), ("depths", dv)]) := by rw [← hG]; exact upd_same
    have x5 : XI H4 H5 := fun c o n z => by rw [← hG, upd_ne (ne_of z h14 (n _ _ _))]; exact z
    have xp : XB p H4 H5 := fun c o n z => by rw [← hG, upd_ne n]; exact z
    clear hG
    obtain ⟨dt, t, g1, g2⟩ := tab.mono E4
    have na : a ≠ p := ne_of g1 h14 (fun z => by
      injection z with z1 z2 z3
      exact absurd (congrArg List.length z3) (by simp))
    refine k q _ (fun c o n z => xp c o n (E4 _ _ z)) ⟨dx, a, g, st, dv, gs, hp5, ⟨dt, t, xp _ _ na g1, x5.tup g2⟩, x5.tup (E4 _ _ h3), x5.rows (h4.mono E4), h5.xi (fun c o n z => x5 c o n (E4 _ _ z)), h6.xi (fun c o n z => x5 c o n (E4 _ _ z))⟩ (x5.tup hq)
end

/-! ### the orders of sorted: tuples of ints, pairs of an int and a tuple -/
theorem ltT_is (a b : List Int) : PySem.W.dataLt (iT a) (iT b) = decide (a < b) := by
  show PySem.W.dataLt (.tuple (a.map .int)) (.tuple (b.map .int)) = _
  rw [PySem.W.dataLt_tuple]
  exact PySem.W.dataLt_ints a b
theorem leT_is (a b : List Int) : leT a b = decide (a ≤ b) := by
  show (!PySem.W.dataLt (iT b) (iT a)) = _
  rw [ltT_is]
  by_cases h : b < a
  · have h' : ¬ a ≤ b := fun r => List.not_lt.mpr r h
    simp [h, h']
  · have h' : a ≤ b := List.not_lt.mp h
    simp [h, h']
theorem leT_trans (a b c : List Int) (h1 : leT a b = true) (h2 : leT b c = true) : leT a c = true := by
  rw [leT_is] at *
  exact decide_eq_true (List.le_trans (of_decide_eq_true h1) (of_decide_eq_true h2))
theorem leT_total (a b : List Int) : (leT a b || leT b a) = true := by
  rw [leT_is, leT_is, Bool.or_eq_true, decide_eq_true_iff, decide_eq_true_iff]
  exact List.le_total a b
theorem leT_anti {a b : List Int} (h1 : leT a b = true) (h2 : leT b a = true) : a = b := by
  rw [leT_is] at *
  exact List.le_antisymm (of_decide_eq_true h1) (of_decide_eq_true h2)
theorem sortT_same {l m : List (List Int)} (h : l.Perm m) : l.mergeSort leT = m.mergeSort leT :=
  List.Perm.eq_of_pairwise (le := fun a b => leT a b = true) (fun a b _ _ h1 h2 => leT_anti h1 h2) (List.pairwise_mergeSort leT_trans leT_total l) (List.pairwise_mergeSort leT_trans leT_total m) (((List.mergeSort_perm l leT).trans h).trans (List.mergeSort_perm m leT).symm)
/-- other targets do not -/
theorem sort_other {A B : List (List Int)} (h : A.mergeSort leT = B.mergeSort leT) : A.Perm B :=
  ((List.mergeSort_perm A leT).symm.trans (h ▸ .refl _)).trans (List.mergeSort_perm B leT)
section
variable {P : Program} {w : World} {K : PySem.W.Frag} {mg : Str → Option Value} {base : Heap}
def sp_is_made_for (K : PySem.W.Frag) (C : Addr) : Sp := fun vs H Q _ => ∃ (p a CP dx ap g : Addr) (v1 v2 v3 : V) (q : Bool × Addr) (ns : List Int) (gs : List V) (gss tss : List (List Int)), vs = [.ref p, .ref a, .ref q.2] ∧ H p = some (.ins CP dx [("table", .ref ap), ("goals", .ref g), ("strategy", v1), ("used", v2), ("depths", v3)]) ∧ Cls K CP ∧ NoAttr K CP "table" ∧ NoAttr K CP "goals" ∧ TabAt C H ap ns ∧ TabAt C H a ns ∧ SzOk ns ∧ H g = some (.tup gs) ∧ RowsR H gs gss ∧ RowsQ H q tss ∧ (∀ ts ∈ tss, SeatOk ns ts) ∧ (∀ ts ∈ gss, SeatOk ns ts) ∧ ∀ H2, Ex H H2 → Q (.bl (decide (gss.mergeSort leT = tss.mergeSort leT))) H2
theorem ok_is_made_for (T : TX K mg) : FnOk P w K mg base CX0 2 T.f_is_made_for T.fd_is_made_for ["player", "table", "targets"] (sp_is_made_for K T.C_Table) := by
  refine T.F_is_made_for.ok sc_is_made_for (fun vs H Q E h => ?_) (fun cdv A outer s H vs Q E hr h => ?_)
  · obtain ⟨p, a, CP, dx, ap, g, v1, v2, v3, q, ns, gs, gss, tss, rfl, _⟩ := h
    rfl
  · obtain ⟨p, a, CP, dx, ap, g, v1, v2, v3, q, ns, gs, gss, tss, rfl, h1, cl, n1, n2, ⟨dt, t, g1, g2⟩, ⟨dt2, t2, g3, g4⟩, ok, hg, rg, ⟨xs, hq, rx⟩, sks, skg, k⟩ := h
    refine ⟨_, (pss_one (ps_ret (pe_and (pe_cmpR (r := rEqD K) (op_eqD hr.units) (pe_meth0 (pe_fld (pv 0) rfl) T.cl_Table T.me_Table_sizes (ok_Table_sizes T) hr T.b_Table_sizes .nil pass0) (pe_meth0 (pv 1) T.cl_Table T.me_Table_sizes (ok_Table_sizes T) hr T.b_Table_sizes .nil pass0) (nomark _)) (pe_one (pe_cmpR (r := rEqD K) (op_eqD hr.units) (pe_callB (r := rSortQ K) (cr_sortQ (u65 hr)) (by rfl) T.z_sorted (by decide +kernel) (pa_cons (pe_fld (pv 0) rfl) pa_nil)) (pe_callB (r := rSortQ K) (cr_sortQ (u65 hr)) (by rfl) T.z_sorted (by decide +kernel) (pa_cons (pv 2) pa_nil)) (nomark _)))))), ?_⟩
    have ne : ∀ ts ∈ tss, ts ≠ [] := fun ts ht z => by
      have := (sks ts ht).len
      rw [z] at this
      exact ok.pos (List.length_eq_zero_iff.mp this.symm)
    have neg : ∀ ts ∈ gss, ts ≠ [] := fun ts ht z => by
      have := (skg ts ht).len
      rw [z] at this
      exact ok.pos (List.length_eq_zero_iff.mp this.symm)
    refine ⟨_, rfl, p, CP, dx, _, _, rfl, h1, cl, n1, rfl, ap, dt, _, rfl, g1, rfl, ap, dt, t, rfl, g1, ?_⟩
    refine ⟨_, rfl, a, dt2, _, rfl, g3, rfl, a, dt2, t2, rfl, g3, ?_⟩
    refine ⟨_, _, dp_ints g2, dp_ints g4, (sh_ints (n := 59) _).ok, (sh_ints (n := 59) _).ok, _, rfl, ?_⟩
    refine iteT' (by rw [eqv_ints]; simp) ?_
    refine ⟨_, rfl, p, CP, dx, _, _, rfl, h1, cl, n2, rfl, (true, g), _, gss, rfl, sqT hg, rg, neg, fun ys y r1 ny => ?_⟩
    have e1 := exn (o := HO.lst ys) ny
    have hy : upd H y (HO.lst ys) y = some (.lst ys) := upd_same
    have r1 := r1.mono e1
    generalize upd H y (HO.lst ys) = H1 at e1 hy r1
    refine ⟨_, rfl, q, _, tss, rfl, (hq.mono e1).sq, rx.mono e1, ne, fun zs z r2 nz => ?_⟩
    have e2 := exn (o := HO.lst zs) nz
    have hz : upd H1 z (HO.lst zs) z = some (.lst zs) := upd_same
    have r2 := r2.mono e2
    have hy := e2 _ _ hy
    have r1 := r1.mono e2
    generalize upd H1 z (HO.lst zs) = H2 at e2 hz r2 hy r1
    refine ⟨_, _, .lst (SqL.of hy) r1.dp, .lst (SqL.of hz) r2.dp, (sh_rows (n := 58) _).ok, (sh_rows (n := 58) _).ok, ?_⟩
    rw [eqv_rows]
    exact k H2 (ext e1 e2)
end

/-- the course of a game: what is called and answered, and the seats -/
def course (ns : List Int) (tss : List (List Int)) (cs : CSt) (rs : RS) : Nat → Nat → List Int → List (List Int × Bool) × List (List Int)
  | _, 0, p => ([], [p])
  | i, k + 1, p => if p ∈ tss then ([], [p]) else
    ((cs.call ns p i, dirAt ns p (cs.call ns p i) i rs) :: (course ns tss cs rs (i + 1) k (shiftL ns p (cs.call ns p i) (if dirAt ns p (cs.call ns p i) i rs = true then -1 else 1))).1,
      p :: (course ns tss cs rs (i + 1) k (shiftL ns p (cs.call ns p i) (if dirAt ns p (cs.call ns p i) i rs = true then -1 else 1))).2)
/-- a list of moves -/
def MvsR (H : Hp) (xs : List V) (ms : List (List Int × Bool)) : Prop := Paired (fun x m => ∃ r c, x = V.ref r ∧ H r = some (.tup [.ref c, .str (awayW m.2)]) ∧ H c = some (.tup (m.1.map V.int))) xs ms
theorem MvsR.mono {H H2 : Hp} (e : Ex H H2) : ∀ {xs : List V} {ms : List (List Int × Bool)}, MvsR H xs ms → MvsR H2 xs ms
  | _, _, .nil => .nil
  | _, _, .cons ⟨r, c, h1, h2, h3⟩ t => .cons ⟨r, c, h1, e _ _ h2, e _ _ h3⟩ (MvsR.mono e t)
theorem MvsR.snoc {H : Hp} {r c : Addr} {m : List Int × Bool} (h2 : H r = some (.tup [.ref c, .str (awayW m.2)])) (h3 : H c = some (.tup (m.1.map V.int))) : ∀ {xs : List V} {ms : List (List Int × Bool)}, MvsR H xs ms → MvsR H (xs ++ [.ref r]) (ms ++ [m])
  | _, _, .nil => .cons ⟨r, c, rfl, h2, h3⟩ .nil
  | _, _, .cons q t => .cons q (MvsR.snoc h2 h3 t)
theorem TabAt.pushL {C a D : Addr} {H : Hp} {ns : List Int} {xs : List V} {o : HO} (hD : H D = some (.lst xs)) (h : TabAt C H a ns) : TabAt C (upd H D o) a ns := by
  obtain ⟨dx, t, h1, h2⟩ := h
  exact ⟨dx, t, by rw [upd_ne (ne_of h1 hD (by intro z; cases z))]; exact h1, by rw [upd_ne (ne_of h2 hD (by intro z; cases z))]; exact h2⟩
theorem MvsR.monoT {H H2 : Hp} (e : ∀ c xs, H c = some (.tup xs) → H2 c = some (.tup xs)) : ∀ {xs : List V} {ms : List (List Int × Bool)}, MvsR H xs ms → MvsR H2 xs ms
  | _, _, .nil => .nil
  | _, _, .cons ⟨r, c, h1, h2, h3⟩ t => .cons ⟨r, c, h1, e _ _ h2, e _ _ h3⟩ (MvsR.monoT e t)
theorem notin_rows {K : PySem.W.Frag} {H : Hp} {r : Addr} {q : Bool × Addr} {ps : List Int} {tss : List (List Int)} {Q : VK} (hx : H r = some (.tup (ps.map V.int))) (hq : RowsQ H q tss) (k : Q (.bl (!decide (ps ∈ tss))) H) : rNotInQ K (.ref r) (.ref q.2) H Q :=
  ⟨_, _, dp_ints hx, hq.dp, (sh_ints (n := 59) _).ok, (sh_rows (n := 58) _).ok, by rw [any_rows]; exact k⟩
theorem in_rows {K : PySem.W.Frag} {H : Hp} {r : Addr} {q : Bool × Addr} {ps : List Int} {tss : List (List Int)} {Q : VK} (hx : H r = some (.tup (ps.map V.int))) (hq : RowsQ H q tss) (k : Q (.bl (decide (ps ∈ tss))) H) : rInQ K (.ref r) (.ref q.2) H Q :=
  ⟨_, _, dp_ints hx, hq.dp, (sh_ints (n := 59) _).ok, (sh_rows (n := 58) _).ok, by rw [any_rows]; exact k⟩
theorem course_stop {ns : List Int} {tss : List (List Int)} {cs : CSt} {rs : RS} {i k : Nat} {p : List Int} (h : p ∈ tss ∨ k = 0) : course ns tss cs rs i k p = ([], [p]) := by
  cases k with
  | zero => rfl
  | succ k =>
    rcases h with h | h
    · unfold course
      rw [if_pos h]
    · cases h
theorem CSt.call_len {ns p : List Int} {tss : List (List Int)} (sks : ∀ ts ∈ tss, SeatOk ns ts) (nodt : tss.Nodup) (sk : SeatOk ns p) (i : Nat) : ∀ {cs : CSt}, cs.Ok ns tss → (cs.call ns p i).length = ns.length
  | .calls css, ⟨ne, _, hcc⟩ => by
    have lp : 0 < css.length := List.length_pos_iff.mpr ne
    have il : i % css.length < css.length := Nat.mod_lt _ lp
    show (modL ns (css.getD (i % css.length) [])).length = _
    unfold modL
    rw [List.getD_eq_getElem?_getD, List.getElem?_eq_getElem il, List.length_zipWith]
    have := hcc _ (List.getElem_mem il)
    show min (css[i % css.length]).length ns.length = ns.length
    omega
  | .lay fs, ⟨ef, _⟩ => by
    show (if (dep fs p).getD 0 = 0 then List.replicate ns.length 0 else (fromL ns fs p ((dep fs p).getD 0)).headD []).length = _
    by_cases c : (dep fs p).getD 0 = 0
    · rw [if_pos c, List.length_replicate]
    · rw [if_neg c]
      obtain ⟨d, gd⟩ := counts_good sks nodt
      rw [← ef] at gd
      obtain ⟨e, he⟩ : ∃ e, dep fs p = some e := by
        cases hx : dep fs p with
        | none => rw [hx] at c; exact absurd rfl c
        | some e => exact ⟨e, rfl⟩
      rw [he] at c ⊢
      obtain ⟨c1, rest, hfr⟩ := gd.from he (Nat.pos_of_ne_zero c)
      show ((fromL ns fs p e).headD []).length = _
      rw [hfr]
      have hm : c1 ∈ fromL ns fs p e := by rw [hfr]; exact List.mem_cons_self
      obtain ⟨o, ho, rfl⟩ := List.mem_map.mp hm
      obtain ⟨q, hq, rfl⟩ := List.mem_map.mp (List.mem_filter.mp ho).1
      exact toL_len sk.len (gd.seat _ (List.mem_filter.mp hq).1).len
section
variable {P : Program} {w : World} {K : PySem.W.Frag} {mg : Str → Option Value} {base : Heap}
def sp_play (CC CR C : Addr) : Sp := fun vs H Q _ => ∃ (a s cl rp : Addr) (q : Bool × Addr) (lim : Nat) (ns ps : List Int) (tss g1 g2 : List (List Int)) (cs : CSt) (rs : RS), vs = [.ref a, .ref q.2, .ref s, .ref cl, .ref rp, .int (lim : Int)] ∧ TabAt C H a ns ∧ SzOk ns ∧ (∀ n ∈ ns, n.natAbs < 2 ^ 5000) ∧ RowsQ H q tss ∧ tss ≠ [] ∧ tss.length ≤ 1000 ∧ (∀ ts ∈ tss, SeatOk ns ts) ∧ tss.Nodup ∧ H s = some (.tup (ps.map V.int)) ∧ SeatOk ns ps ∧
  CallerAt CC C H cl ns g1 cs ∧ cs.Ok ns g1 ∧ g1.Perm tss ∧ RespAt CR C H rp ns g2 rs ∧ rs.Ok ns g2 ∧ g2.Perm tss ∧ lim ≤ 1000 ∧ (ps ∉ tss → unsafeB ps rs = false) ∧
  ∀ (t f h : Addr) (xs ys : List V) H2, Ex H H2 → H2 t = some (.tup [.ref f, .ref h, .str (if decide ((course ns tss cs rs 0 lim ps).2.getLastD [] ∈ tss) = true then "reached" else "open")]) → H2 f = some (.lst xs) → MvsR H2 xs (course ns tss cs rs 0 lim ps).1 → H2 h = some (.lst ys) → RowsR H2 ys (course ns tss cs rs 0 lim ps).2 → H f = none → H h = none → Q (.ref t) H2
theorem ok_play (T : TX K mg) : FnOk P w K mg base CX0 8 T.f_play T.fd_play ["table", "targets", "seat", "caller", "responder", "limit"] (sp_play T.C_Caller T.C_Responder T.C_Table) := by
  refine T.F_play.ok sc_play (fun vs H Q E h => ?_) (fun cdv A outer s H vs Q E hr h => ?_)
  · obtain ⟨a, s, cl, rp, q, lim, ns, ps, tss, g1, g2, cs, rs, rfl, _⟩ := h
    rfl
  · obtain ⟨a, s, cl, rp, q, lim, ns, ps, tss, g1, g2, cs, rs, rfl, tab, ok, bn, hq, ne, lt, sks, nod, hs, sk, hcl, hcs, pm1, hrp, hrs, pm2, ll, hun, k⟩ := h
    have sk1 : ∀ t ∈ g1, SeatOk ns t := fun t ht => sks t (pm1.mem_iff.mp ht)
    have sk2 : ∀ t ∈ g2, SeatOk ns t := fun t ht => sks t (pm2.mem_iff.mp ht)
    have nd1 : g1.Nodup := pm1.nodup_iff.mpr nod
    have nd2 : g2.Nodup := pm2.nodup_iff.mpr nod
    have ne2 : g2 ≠ [] := fun z => ne (by rw [z] at pm2; exact List.nil_perm.mp pm2)
    refine ⟨_, (pss_cons (ps_expr (pe_call (ok_require_table T) (hr.mono (by decide)) rfl T.m_require_table T.F_require_table.kp T.b_require_table .nil pass0 (pa_cons (pv 0) pa_nil))) (pss_cons (ps_expr (pe_call (ok_require_targets T) (hr.mono (by decide)) rfl T.m_require_targets T.F_require_targets.kp T.b_require_targets .nil pass0 (pa_cons (pv 0) (pa_cons (pv 1) pa_nil)))) (pss_cons (ps_expr (pe_call (ok_require_seat T) (hr.mono (by decide)) rfl T.m_require_seat T.F_require_seat.kp T.b_require_seat .nil pass0 (pa_cons (pv 0) (pa_cons (pv 2) pa_nil)))) (pss_cons (ps_if (PW.pt (pw_or (pt_not (pt_val (pe_callB call_isi (by rfl) T.z_isinstance (by decide +kernel) (pa_cons (pv 3) (pa_cons (pe_glob (v := .ref T.C_Caller) rfl T.m_Caller rfl) pa_nil))))) (pw_or1 (pt_not (pt_val (pe_call (ok_is_made_for T) (hr.mono (by decide)) rfl T.m_is_made_for T.F_is_made_for.kp T.b_is_made_for .nil pass0 (pa_cons (pv 3) (pa_cons (pv 0) (pa_cons (pv 1) pa_nil))))))))) pss_never pss_nil) (pss_cons (ps_if (PW.pt (pw_or (pt_not (pt_val (pe_callB call_isi (by rfl) T.z_isinstance (by decide +kernel) (pa_cons (pv 4) (pa_cons (pe_glob (v := .ref T.C_Responder) rfl T.m_Responder rfl) pa_nil))))) (pw_or1 (pt_not (pt_val (pe_call (ok_is_made_for T) (hr.mono (by decide)) rfl T.m_is_made_for T.F_is_made_for.kp T.b_is_made_for .nil pass0 (pa_cons (pv 4) (pa_cons (pv 0) (pa_cons (pv 1) pa_nil))))))))) pss_never pss_nil) (pss_cons (ps_if (pt_not (pt_val (pe_call (ok_is_at_least T) (hr.mono (by decide)) rfl T.m_is_at_least T.F_is_at_least.kp T.b_is_at_least .nil pass0 (pa_cons (pv 5) (pa_cons pe_int pa_nil))))) pss_never pss_nil) (pss_cons (ps_if (PW.pt (pw_and (pt_cmpR (r := rNotInQ K) (op_notInQ (u65 hr)) (pv 2) (pv 1) rfl) (pw_and1 (pt_val (pe_meth (pv 4) T.cl_Responder T.me_Responder_is_unsafe (ok_Responder_is_unsafe T) (hr.mono (by decide)) T.b_Responder_is_unsafe .nil pass0 (pa_cons (pv 2) pa_nil)))))) pss_never pss_nil) (pss_cons (ps_par (i := 6) (j := 7) rfl sc_play.nd rfl rfl (by decide) rfl rfl (pa_cons (pe_lst pa_nil) (pa_cons (pe_lst (pa_cons (pv 2) pa_nil)) pa_nil)) (by rfl)) (pss_cons (ps_while PassesOwn.never (PW.pt (pw_and (pt_cmpR (r := rNotInQ K) (op_notInQ (u65 hr)) (pe_ix ix_list (pv 7) (pe_un un_neg pe_int) (fun _ _ => rfl)) (pv 1) rfl) (pw_and1 (pt_cmpR op_lt (pe_callB call_len_seq (by rfl) T.z_len (by decide +kernel) (pa_cons (pv 6) pa_nil)) (pv 5) (nomark _))))) (pss_cons (ps_set (i := 8) sc_play.nd rfl (Or.inl rfl) (pe_meth (pv 3) T.cl_Caller T.me_Caller_call_at (ok_Caller_call_at T) (hr.mono (by decide)) T.b_Caller_call_at .nil pass0 (pa_cons (pe_ix ix_list (pv 7) (pe_un un_neg pe_int) (fun _ _ => rfl)) (pa_cons (pe_callB call_len_seq (by rfl) T.z_len (by decide +kernel) (pa_cons (pv 6) pa_nil)) pa_nil)))) (pss_cons (ps_set (i := 9) sc_play.nd rfl (Or.inl rfl) (pe_meth (pv 4) T.cl_Responder T.me_Responder_direction_at (ok_Responder_direction_at T) hr T.b_Responder_direction_at .nil pass0 (pa_cons (pe_ix ix_list (pv 7) (pe_un un_neg pe_int) (fun _ _ => rfl)) (pa_cons (pv 8) (pa_cons (pe_callB call_len_seq (by rfl) T.z_len (by decide +kernel) (pa_cons (pv 6) pa_nil)) pa_nil))))) (pss_cons (ps_expr (pe_bm PySem.F.plainAttrs_list PySem.F.slot_list_append PySem.F.type_list_append mt_append (pv 6) (pa_cons (pe_tup (pa_cons (pv 8) (pa_cons (pv 9) pa_nil))) pa_nil))) (pss_one (ps_expr (pe_bm PySem.F.plainAttrs_list PySem.F.slot_list_append PySem.F.type_list_append mt_append (pv 7) (pa_cons (pe_meth (pv 0) T.cl_Table T.me_Table_step (ok_Table_step T) (hr.mono (by decide)) T.b_Table_step .nil pass0 (pa_cons (pe_ix ix_list (pv 7) (pe_un un_neg pe_int) (fun _ _ => rfl)) (pa_cons (pv 8) (pa_cons (pv 9) pa_nil)))) pa_nil)))))))) (pss_one (ps_ret (pe_tup (pa_cons (pv 6) (pa_cons (pv 7) (pa_cons (pe_ifExp (pt_cmpR (r := rInQ K) (op_inQ (u65 hr)) (pe_ix ix_list (pv 7) (pe_un un_neg pe_int) (fun _ _ => rfl)) (pv 1) rfl) pe_str pe_str) pa_nil))))))))))))))), ?_⟩
    have l4 := ok.le
    have lp := sk.len
    refine ⟨_, rfl, a, ns, rfl, tab, ?_⟩
    refine ⟨_, rfl, _, rfl, a, q, ns, tss, rfl, tab, l4, hq, ne, by omega, sks, nod, fun H1 e1 => ?_⟩
    refine ⟨_, rfl, _, rfl, a, _, ns, _, rfl, tab.mono e1, l4, TupA.ints (e1 _ _ hs) (by omega), isSeat_ok sk, fun H2 e2 => ?_⟩
    have E2 := ext e1 e2
    dsimp only
    refine sif_ex (fun N hN => ?_) (fun H3 e3 => ?_)
    · obtain ⟨dx, ap, g, st, dv, u, gs, h1, h2, h3, h4, h5, h6⟩ := hcl.mono E2
      refine ⟨_, rfl, _, _, _, _, true, rfl, .own _, .base (.ins h1 T.cl_Caller T.ic_Caller T.ig_ T.it_ T.im_Caller), kit_self, _, rfl, itf rfl ?_⟩
      exact ⟨_, rfl, _, rfl, _, rfl, cl, a, T.C_Caller, dx, ap, g, _, _, _, q, ns, gs, g1, tss, rfl, h1, T.cl_Caller, T.n_Caller_table, T.n_Caller_goals, h2, tab.mono E2, ok, h3, h4, hq.mono E2, sks, sk1, fun H3 e3 => by
        rw [decide_eq_true (sortT_same pm1)]
        exact ⟨_, rfl, itf rfl (hN _ e3)⟩⟩
    have E3 := ext E2 e3
    refine sif_ex (fun N hN => ?_) (fun H4 e4 => ?_)
    · obtain ⟨dx, ap, g, st, dv, u, gs, h1, h2, h3, h4, h5, h6⟩ := hrp.mono E3
      refine ⟨_, rfl, _, _, _, _, true, rfl, .own _, .base (.ins h1 T.cl_Responder T.ic_Responder T.ig_ T.it_ T.im_Responder), kit_self, _, rfl, itf rfl ?_⟩
      exact ⟨_, rfl, _, rfl, _, rfl, rp, a, T.C_Responder, dx, ap, g, _, _, _, q, ns, gs, g2, tss, rfl, h1, T.cl_Responder, T.n_Responder_table, T.n_Responder_goals, h2, tab.mono E3, ok, h3, h4, hq.mono E3, sks, sk2, fun H3 e3 => by
        rw [decide_eq_true (sortT_same pm2)]
        exact ⟨_, rfl, itf rfl (hN _ e3)⟩⟩
    have E4 := ext E3 e4
    refine ⟨_, rfl, _, some (lim : Int), 0, rfl, rfl, _, rfl, itf (by show (!decide ((0 : Int) ≤ (lim : Int))) = false; simp) ?_⟩
    dsimp only [tNext]
    refine sif_ex (fun N hN => ?_) (fun H5 e5 => ?_)
    · refine ⟨_, rfl, _, rfl, notin_rows (E4 _ _ hs) (hq.mono E4) ⟨_, rfl, ?_⟩⟩
      by_cases c : ps ∈ tss
      · exact itf (by simp [c]) (hN _ exr)
      · refine itt (by simp [c]) ?_
        obtain ⟨dx, ap, g, st, dv, u, gs, h1, h2, h3, h4, h5, h6⟩ := id (hrp.mono E4)
        refine ⟨_, rfl, rp, dx, _, rfl, h1, rfl, _, rfl, rp, s, ns, ps, g2, rs, rfl, hrp.mono E4, ok, bn, hrs, E4 _ _ hs, sk, fun H5 e5 => ⟨_, rfl, itf (hun c) (hN _ e5)⟩⟩
    have E5 := ext E4 e5
    refine ⟨slen rfl, ?_⟩
    (intro f nf; generalize hGf : upd _ f _ = H6; have eH6 := exG hGf nf; have hf := atG hGf; clear hGf)
    refine ⟨_, rfl, slen rfl, ?_⟩
    (intro hl nhl; generalize hGhl : upd _ hl _ = H7; have eH7 := exG hGhl nhl; have hhl := atG hGhl; clear hGhl)
    refine ⟨_, _, rfl, ?_⟩
    have E7 : Ex H H7 := ext E5 (ext eH6 eH7)
    have nf0 : H f = none := Evl.fresh_back E5 nf
    have nh0 : H hl = none := Evl.fresh_back (ext E5 eH6) nhl
    have nfh : f ≠ hl := ne_of_none hf nhl
    refine ⟨fun m σ Hx => ∃ (i : Nat) (p : List Int) (rl : Addr) (xs ys : List V) (ms : List (List Int × Bool)) (hs : List (List Int)) (y8 y9 : Option V), σ = [some (.ref a), some (.ref q.2), some (.ref s), some (.ref cl), some (.ref rp), some (.int (lim : Int)), some (.ref f), some (.ref hl), y8, y9] ∧ Ex H Hx ∧ Hx f = some (.lst xs) ∧ MvsR Hx xs ms ∧ ms.length = i ∧ Hx hl = some (.lst (ys ++ [.ref rl])) ∧ RowsR Hx ys hs ∧ Hx rl = some (.tup (p.map V.int)) ∧ hs.length = i ∧ SeatOk ns p ∧ i ≤ lim ∧ ms ++ (course ns tss cs rs i (lim - i) p).1 = (course ns tss cs rs 0 lim ps).1 ∧ hs ++ (course ns tss cs rs i (lim - i) p).2 = (course ns tss cs rs 0 lim ps).2 ∧ m = lim - i,
      ⟨lim, 0, ps, s, [], [], [], [], _, _, rfl, E7, eH7 _ _ hf, .nil, rfl, hhl, .nil, E7 _ _ hs, rfl, sk, by omega, rfl, rfl, rfl⟩, ?_⟩
    rintro m σ Hx ⟨i, p, rl, xs, ys, ms, hs', y8, y9, rfl, ex, hfx, mr, lm, hhx, rr, hrl, lh, skp, il, c1, c2, rfl⟩
    have lxs : xs.length = i := (Paired.length mr).trans lm
    refine ⟨_, rfl, _, rfl, hl, _, _, _, rfl, rfl, SqL.of hhx, L2.atI_last _ _, _, rfl, notin_rows hrl (hq.mono ex) ⟨_, rfl, ?_⟩⟩
    by_cases c : p ∈ tss
    · refine itf (by simp [c]) ?_
      refine ⟨_, rfl, _, rfl, _, rfl, _, rfl, hl, _, _, _, rfl, rfl, SqL.of hhx, L2.atI_last _ _, _, rfl, in_rows hrl (hq.mono ex) ⟨_, rfl, ?_⟩⟩
      rw [course_stop (.inl c), List.append_nil] at c1
      rw [course_stop (.inl c)] at c2
      have cl : (course ns tss cs rs 0 lim ps).2.getLastD [] = p := by rw [← c2]; simp
      rw [← c1, ← c2] at k
      rw [← c2] at cl
      rw [cl] at k
      have rr2 := RowsR.snoc hrl rr
      rw [decide_eq_true c] at k
      refine itt (decide_eq_true c) ?_
      refine ⟨slen rfl, ?_⟩
      (intro t nt; generalize hGt : upd _ t _ = Hz; have eHz := exG hGt nt; have ht := atG hGt; clear hGt)
      exact k t f hl xs _ _ (ext ex eHz) ht (eHz _ _ hfx) (mr.mono eHz) (eHz _ _ hhx) (rr2.mono eHz) nf0 nh0
    refine itt (by simp [c]) ?_
    refine ⟨_, rfl, f, _, rfl, .inl (SqL.of hfx), _, rfl, _, _, rfl, rfl, _, rfl, ?_⟩
    by_cases c3 : i = lim
    · refine itf (by rw [lxs, c3]; simp) ?_
      refine ⟨_, rfl, _, rfl, _, rfl, _, rfl, hl, _, _, _, rfl, rfl, SqL.of hhx, L2.atI_last _ _, _, rfl, in_rows hrl (hq.mono ex) ⟨_, rfl, ?_⟩⟩
      rw [course_stop (.inr (by omega)), List.append_nil] at c1
      rw [course_stop (.inr (by omega))] at c2
      have cl : (course ns tss cs rs 0 lim ps).2.getLastD [] = p := by rw [← c2]; simp
      rw [← c1, ← c2] at k
      rw [← c2] at cl
      rw [cl] at k
      have rr2 := RowsR.snoc hrl rr
      rw [decide_eq_false c] at k
      refine itf (decide_eq_false c) ?_
      refine ⟨slen rfl, ?_⟩
      (intro t nt; generalize hGt : upd _ t _ = Hz; have eHz := exG hGt nt; have ht := atG hGt; clear hGt)
      exact k t f hl xs _ _ (ext ex eHz) ht (eHz _ _ hfx) (mr.mono eHz) (eHz _ _ hhx) (rr2.mono eHz) nf0 nh0
    refine itt (by rw [lxs]; simp; omega) ⟨_, fun _ _ h => h, ?_⟩
    obtain ⟨dc, ac, gc, stc, dvc, uc, gsc, hc1, _⟩ := id (hcl.mono ex)
    refine ⟨_, rfl, cl, dc, _, rfl, hc1, rfl, _, rfl, _, rfl, hl, _, _, _, rfl, rfl, SqL.of hhx, L2.atI_last _ _, _, rfl, f, _, rfl, .inl (SqL.of hfx), cl, rl, i, ns, p, g1, cs, (by rw [lxs]; rfl), hcl.mono ex, ok, sk1, nd1, hcs, hrl, skp, fun cc Ha ea hcc' => ?_⟩
    have exa := ext ex ea
    obtain ⟨dr, ar, gr, str, dvr, ur, gsr, hr1, _⟩ := id (hrp.mono exa)
    have lcc := CSt.call_len sk1 nd1 skp i hcs
    generalize hcA : cs.call ns p i = cA at hcc' lcc
    have hha := ea _ _ hhx
    have hfa := ea _ _ hfx
    have hrla := ea _ _ hrl
    refine ⟨_, rfl, rp, dr, _, rfl, hr1, rfl, _, rfl, _, rfl, hl, _, _, _, rfl, rfl, SqL.of hha, L2.atI_last _ _, _, rfl, _, rfl, f, _, rfl, .inl (SqL.of hfa), rp, rl, cc, i, ns, p, cA, g2, rs, (by rw [lxs]; rfl), hrp.mono exa, ok, bn, hrs, ne2, hrla, skp, hcc', lcc, fun Hb eb => ?_⟩
    generalize hbA : dirAt ns p cA i rs = bA
    have exb := ext exa eb
    have hfb := eb _ _ hfa
    dsimp only [gName]
    -- found.append
    refine ⟨_, rfl, .inl ⟨rfl, _, SqL.of hfb⟩, _, rfl, _, rfl, slen rfl, ?_⟩
    (intro mv nmv; generalize hGmv : upd _ mv _ = Hc; have eHc := exG hGmv nmv; have hmv := atG hGmv; clear hGmv)
    have hfc := eHc _ _ hfb
    refine ⟨f, _, _, rfl, rfl, hfc, ?_, ?_⟩
    · rw [lxs]
      exact Nat.lt_of_le_of_lt (show i ≤ 1000 by omega) (by decide)
    have E1c : Ex Hx Hc := ext ea (ext eb eHc)
    have exc := ext ex E1c
    generalize hHd : upd Hc f _ = Hd
    have hfd : Hd f = some (.lst (xs ++ [.ref mv])) := by rw [← hHd, upd_same]
    have tpd : ∀ c zs, Hc c = some (.tup zs) → Hd c = some (.tup zs) := fun c zs z => hHd ▸ tup_pshL hfc z
    have exd : Ex H Hd := hHd ▸ ex_upd exc nf0
    have hhd : Hd hl = some (.lst (ys ++ [.ref rl])) := by rw [← hHd, upd_ne nfh.symm]; exact E1c _ _ hhx
    clear hHd
    have mrd : MvsR Hd (xs ++ [.ref mv]) (ms ++ [(cA, bA)]) := MvsR.snoc (tpd _ _ hmv) (tpd _ _ (eHc _ _ (eb _ _ hcc'))) ((mr.mono E1c).monoT tpd)
    have rrd := (rr.mono E1c).monoT tpd
    have hrld := tpd _ _ (E1c _ _ hrl)
    have hccd := tpd _ _ (eHc _ _ (eb _ _ hcc'))
    -- seats.append
    obtain ⟨dt, t0, gt1, gt2⟩ := id (tab.mono exd)
    refine ⟨_, rfl, .inl ⟨rfl, _, SqL.of hhd⟩, ?_⟩
    refine ⟨_, rfl, a, dt, _, rfl, gt1, rfl, _, rfl, _, rfl, hl, _, _, _, rfl, rfl, SqL.of hhd, L2.atI_last _ _, _, rfl, _, rfl, a, rl, cc, ns, p, cA, bA, rfl, tab.mono exd, ok, hrld, hccd, skp, lcc, fun He z ee nz hz => ?_⟩
    have hhe := ee _ _ hhd
    have lys : ys.length = i := (Paired.length rr).trans lh
    refine ⟨hl, _, _, rfl, rfl, hhe, ?_, ?_⟩
    · rw [List.length_append, lys]
      exact Nat.lt_of_le_of_lt (show i + 1 ≤ 1001 by omega) (by decide)
    have step : course ns tss cs rs i (lim - i) p = ((cA, bA) :: (course ns tss cs rs (i + 1) (lim - (i + 1)) (shiftL ns p cA (if bA = true then -1 else 1))).1, p :: (course ns tss cs rs (i + 1) (lim - (i + 1)) (shiftL ns p cA (if bA = true then -1 else 1))).2) := by
      rw [show lim - i = (lim - (i + 1)) + 1 by omega, course, if_neg c, hcA, hbA]
    rw [step] at c1 c2
    have sk2 : SeatOk ns (shiftL ns p cA (if bA = true then -1 else 1)) := shift_seat ok.one skp.len lcc
    have tpe : ∀ c zs, He c = some (.tup zs) → upd He hl (.lst ((ys ++ [.ref rl]) ++ [.ref z])) c = some (.tup zs) := fun c zs z => tup_pshL hhe z
    refine ⟨lim - (i + 1), by omega, i + 1, _, z, xs ++ [.ref mv], ys ++ [.ref rl], ms ++ [(cA, bA)], hs' ++ [p], _, _, rfl, ex_upd (ext exd ee) nh0, ?_, (mrd.mono ee).monoT tpe, by rw [List.length_append, lm]; rfl, upd_same, RowsR.snoc (tpe _ _ (ee _ _ hrld)) ((rrd.mono ee).monoT tpe), tpe _ _ hz, by rw [List.length_append, lh]; rfl, sk2, by omega, ?_, ?_, rfl⟩
    · rw [upd_ne nfh]
      exact ee _ _ hfd
    · rw [← c1, List.append_assoc]
      rfl
    · rw [← c2, List.append_assoc]
      rfl
end

/-- an exception with one field -/
def sp_exi (C : Addr) (f : Str) : Sp := fun vs H Q _ => ∃ (a : Addr) (x : V), vs = [.ref a, x] ∧ H a = some (exo a C none) ∧ ∀ dx, H dx = none → dx ≠ a → Q .non (upd (upd H dx (exd dx [(f, x)])) a (exo a C (some dx)))
theorem exc_made {H : Hp} {a C : Addr} {f : Str} {x : V} {E E1 : XK} (na : H a = none) (k : ∀ d H2, Ex H H2 → H2 d = some (.xd [(f, x)]) → E (.ref C) (some d) H2) :
    sp_exi C f [.ref a, x] (upd H a (exo a C none)) (fun v H2 => v = .non ∧ ∃ (d : Addr) (fs : List (Str × V)), H2 a = some (exo a C (some d)) ∧ H2 d = some (exd d fs) ∧ H d = none ∧ E (.ref C) (some d) (upd (del H2 a) d (.xd fs))) E1 := by
  refine ⟨a, x, rfl, upd_same, fun dx hd ne => ⟨rfl, dx, _, upd_same, by rw [upd_ne ne, upd_same], by rw [upd_ne ne] at hd; exact hd, k _ _ (fun c o hc => ?_) upd_same⟩⟩
  have ca : c ≠ a := ne_of_none hc na
  have cd : c ≠ dx := ne_of_none hc (by rw [upd_ne ne] at hd; exact hd)
  rw [upd_ne cd, del_ne ca, upd_ne ca, upd_ne cd, upd_ne ca]
  exact hc

section
variable {P : Program} {w : World} {K : PySem.W.Frag} {mg : Str → Option Value} {base : Heap}
theorem ok_Mismatch_init (T : TX K mg) : FnOk P w K mg base CX0 1 T.f_Mismatch_init T.fd_Mismatch_init ["self", "name"] (sp_exi T.C_Mismatch "name") := by
  refine T.F_Mismatch_init.ok sc_Mismatch_init (fun vs H Q E h => ?_) (fun cdv A outer s H vs Q E hr h => ?_)
  · obtain ⟨a, x, rfl, _⟩ := h
    rfl
  · obtain ⟨a, x, rfl, ha, k⟩ := h
    refine ⟨_, (pss_one (ps_ost (pv 0) (pv 1))), ?_⟩
    exact ⟨_, rfl, _, rfl, a, _, rfl, T.ox_Mismatch, T.n_Mismatch_name, .inl ⟨ha, fun dx n ne => k dx n ne⟩⟩
def spX_play (CC CR C CM : Addr) : Sp := fun vs H Q E => ∃ (a s cl rp : Addr) (q : Bool × Addr) (lim : Nat) (ns ps : List Int) (tss g1 g2 : List (List Int)) (cs : CSt) (rs : RS), vs = [.ref a, .ref q.2, .ref s, .ref cl, .ref rp, .int (lim : Int)] ∧ TabAt C H a ns ∧ SzOk ns ∧ (∀ n ∈ ns, n.natAbs < 2 ^ 5000) ∧ RowsQ H q tss ∧ tss ≠ [] ∧ tss.length ≤ 1000 ∧ (∀ ts ∈ tss, SeatOk ns ts) ∧ tss.Nodup ∧ H s = some (.tup (ps.map V.int)) ∧ SeatOk ns ps ∧
  (∀ t ∈ g1, SeatOk ns t) ∧ (∀ t ∈ g2, SeatOk ns t) ∧ CallerAt CC C H cl ns g1 cs ∧ cs.Ok ns g1 ∧ RespAt CR C H rp ns g2 rs ∧ rs.Ok ns g2 ∧ lim ≤ 1000 ∧ (ps ∉ tss → unsafeB ps rs = false) ∧ (¬ g1.Perm tss → ∀ d H2, Ex H H2 → H2 d = some (.xd [("name", .str "caller")]) → E (.ref CM) (some d) H2) ∧ (g1.Perm tss → ¬ g2.Perm tss → ∀ d H2, Ex H H2 → H2 d = some (.xd [("name", .str "responder")]) → E (.ref CM) (some d) H2) ∧
  (g1.Perm tss → g2.Perm tss → ∀ (t f h : Addr) (xs ys : List V) H2, Ex H H2 → H2 t = some (.tup [.ref f, .ref h, .str (if decide ((course ns tss cs rs 0 lim ps).2.getLastD [] ∈ tss) = true then "reached" else "open")]) → H2 f = some (.lst xs) → MvsR H2 xs (course ns tss cs rs 0 lim ps).1 → H2 h = some (.lst ys) → RowsR H2 ys (course ns tss cs rs 0 lim ps).2 → H f = none → H h = none → Q (.ref t) H2)
theorem okX_play (T : TX K mg) : FnOk P w K mg base (L2.CX P w) 8 T.f_play T.fd_play ["table", "targets", "seat", "caller", "responder", "limit"] (spX_play T.C_Caller T.C_Responder T.C_Table T.C_Mismatch) := by
  refine T.F_play.okX sc_play (fun vs H Q E h => ?_) (fun cdv A outer s H vs Q E hr h => ?_)
  · obtain ⟨a, s, cl, rp, q, lim, ns, ps, tss, g1, g2, cs, rs, rfl, _⟩ := h
    rfl
  · obtain ⟨a, s, cl, rp, q, lim, ns, ps, tss, g1, g2, cs, rs, rfl, tab, ok, bn, hq, ne, lt, sks, nod, hs, sk, sk1, sk2, hcl, hcs, hrp, hrs, ll, hun, kE1, kE2, k⟩ := h
    refine ⟨_, (pss_cons (ps_expr (pe_call (ok_require_table T) (hr.mono (by decide)) rfl T.m_require_table T.F_require_table.kp T.b_require_table .nil pass0 (pa_cons (pv 0) pa_nil))) (pss_cons (ps_expr (pe_call (ok_require_targets T) (hr.mono (by decide)) rfl T.m_require_targets T.F_require_targets.kp T.b_require_targets .nil pass0 (pa_cons (pv 0) (pa_cons (pv 1) pa_nil)))) (pss_cons (ps_expr (pe_call (ok_require_seat T) (hr.mono (by decide)) rfl T.m_require_seat T.F_require_seat.kp T.b_require_seat .nil pass0 (pa_cons (pv 0) (pa_cons (pv 2) pa_nil)))) (pss_cons (ps_if (PW.pt (pw_or (pt_not (pt_val (pe_callB call_isi (by rfl) T.z_isinstance (by decide +kernel) (pa_cons (pv 3) (pa_cons (pe_glob (v := .ref T.C_Caller) rfl T.m_Caller rfl) pa_nil))))) (pw_or1 (pt_not (pt_val (pe_call (ok_is_made_for T) (hr.mono (by decide)) rfl T.m_is_made_for T.F_is_made_for.kp T.b_is_made_for .nil pass0 (pa_cons (pv 3) (pa_cons (pv 0) (pa_cons (pv 1) pa_nil))))))))) (pss_one (ps_raise rfl (takes_of rfl rfl rfl rfl) (pmk_oex T.ox_Mismatch T.i_Mismatch T.ti_Mismatch (ok_Mismatch_init T) (hr.mono (by decide)) T.b_Mismatch_init .nil pass0 rfl T.m_Mismatch (pa_cons pe_str pa_nil)))) pss_nil) (pss_cons (ps_if (PW.pt (pw_or (pt_not (pt_val (pe_callB call_isi (by rfl) T.z_isinstance (by decide +kernel) (pa_cons (pv 4) (pa_cons (pe_glob (v := .ref T.C_Responder) rfl T.m_Responder rfl) pa_nil))))) (pw_or1 (pt_not (pt_val (pe_call (ok_is_made_for T) (hr.mono (by decide)) rfl T.m_is_made_for T.F_is_made_for.kp T.b_is_made_for .nil pass0 (pa_cons (pv 4) (pa_cons (pv 0) (pa_cons (pv 1) pa_nil))))))))) (pss_one (ps_raise rfl (takes_of rfl rfl rfl rfl) (pmk_oex T.ox_Mismatch T.i_Mismatch T.ti_Mismatch (ok_Mismatch_init T) (hr.mono (by decide)) T.b_Mismatch_init .nil pass0 rfl T.m_Mismatch (pa_cons pe_str pa_nil)))) pss_nil) (pss_cons (ps_if (pt_not (pt_val (pe_call (ok_is_at_least T) (hr.mono (by decide)) rfl T.m_is_at_least T.F_is_at_least.kp T.b_is_at_least .nil pass0 (pa_cons (pv 5) (pa_cons pe_int pa_nil))))) pss_never pss_nil) (pss_cons (ps_if (PW.pt (pw_and (pt_cmpR (r := rNotInQ K) (op_notInQ (u65 hr)) (pv 2) (pv 1) rfl) (pw_and1 (pt_val (pe_meth (pv 4) T.cl_Responder T.me_Responder_is_unsafe (ok_Responder_is_unsafe T) (hr.mono (by decide)) T.b_Responder_is_unsafe .nil pass0 (pa_cons (pv 2) pa_nil)))))) pss_never pss_nil) (pss_cons (ps_par (i := 6) (j := 7) rfl sc_play.nd rfl rfl (by decide) rfl rfl (pa_cons (pe_lst pa_nil) (pa_cons (pe_lst (pa_cons (pv 2) pa_nil)) pa_nil)) (by rfl)) (pss_cons (ps_while (passes_of rfl) (PW.pt (pw_and (pt_cmpR (r := rNotInQ K) (op_notInQ (u65 hr)) (pe_ix ix_list (pv 7) (pe_un un_neg pe_int) (fun _ _ => rfl)) (pv 1) rfl) (pw_and1 (pt_cmpR op_lt (pe_callB call_len_seq (by rfl) T.z_len (by decide +kernel) (pa_cons (pv 6) pa_nil)) (pv 5) (nomark _))))) (pss_cons (ps_set (i := 8) sc_play.nd rfl (Or.inl rfl) (pe_meth (pv 3) T.cl_Caller T.me_Caller_call_at (ok_Caller_call_at T) (hr.mono (by decide)) T.b_Caller_call_at .nil pass0 (pa_cons (pe_ix ix_list (pv 7) (pe_un un_neg pe_int) (fun _ _ => rfl)) (pa_cons (pe_callB call_len_seq (by rfl) T.z_len (by decide +kernel) (pa_cons (pv 6) pa_nil)) pa_nil)))) (pss_cons (ps_set (i := 9) sc_play.nd rfl (Or.inl rfl) (pe_meth (pv 4) T.cl_Responder T.me_Responder_direction_at (ok_Responder_direction_at T) hr T.b_Responder_direction_at .nil pass0 (pa_cons (pe_ix ix_list (pv 7) (pe_un un_neg pe_int) (fun _ _ => rfl)) (pa_cons (pv 8) (pa_cons (pe_callB call_len_seq (by rfl) T.z_len (by decide +kernel) (pa_cons (pv 6) pa_nil)) pa_nil))))) (pss_cons (ps_expr (pe_bm PySem.F.plainAttrs_list PySem.F.slot_list_append PySem.F.type_list_append mt_append (pv 6) (pa_cons (pe_tup (pa_cons (pv 8) (pa_cons (pv 9) pa_nil))) pa_nil))) (pss_one (ps_expr (pe_bm PySem.F.plainAttrs_list PySem.F.slot_list_append PySem.F.type_list_append mt_append (pv 7) (pa_cons (pe_meth (pv 0) T.cl_Table T.me_Table_step (ok_Table_step T) (hr.mono (by decide)) T.b_Table_step .nil pass0 (pa_cons (pe_ix ix_list (pv 7) (pe_un un_neg pe_int) (fun _ _ => rfl)) (pa_cons (pv 8) (pa_cons (pv 9) pa_nil)))) pa_nil)))))))) (pss_one (ps_ret (pe_tup (pa_cons (pv 6) (pa_cons (pv 7) (pa_cons (pe_ifExp (pt_cmpR (r := rInQ K) (op_inQ (u65 hr)) (pe_ix ix_list (pv 7) (pe_un un_neg pe_int) (fun _ _ => rfl)) (pv 1) rfl) pe_str pe_str) pa_nil))))))))))))))), ?_⟩
    have l4 := ok.le
    have lp := sk.len
    refine ⟨_, rfl, a, ns, rfl, tab, ?_⟩
    refine ⟨_, rfl, _, rfl, a, q, ns, tss, rfl, tab, l4, hq, ne, by omega, sks, nod, fun H1 e1 => ?_⟩
    refine ⟨_, rfl, _, rfl, a, _, ns, _, rfl, tab.mono e1, l4, TupA.ints (e1 _ _ hs) (by omega), isSeat_ok sk, fun H2 e2 => ?_⟩
    have E2 := ext e1 e2
    dsimp only
    by_cases pm1 : g1.Perm tss
    rotate_left
    · obtain ⟨dx, ap, g, st, dv, u, gs, h1, h2, h3, h4, h5, h6⟩ := hcl.mono E2
      refine ⟨_, rfl, _, _, _, _, true, rfl, .own _, .base (.ins h1 T.cl_Caller T.ic_Caller T.ig_ T.it_ T.im_Caller), kit_self, _, rfl, itf rfl ?_⟩
      refine ⟨_, rfl, _, rfl, _, rfl, cl, a, T.C_Caller, dx, ap, g, _, _, _, q, ns, gs, g1, tss, rfl, h1, T.cl_Caller, T.n_Caller_table, T.n_Caller_goals, h2, tab.mono E2, ok, h3, h4, hq.mono E2, sks, sk1, fun H3 e3 => ?_⟩
      rw [decide_eq_false (fun z => pm1 (sort_other z))]
      refine ⟨_, rfl, itt rfl ?_⟩
      refine ⟨by show 1 ≤ 1000; decide, fun ea na => ?_⟩
      exact exc_made na fun d H4 e4 hd => kE1 pm1 d H4 (ext E2 (ext e3 e4)) hd
    refine sif_ex (fun N hN => ?_) (fun H3 e3 => ?_)
    · obtain ⟨dx, ap, g, st, dv, u, gs, h1, h2, h3, h4, h5, h6⟩ := hcl.mono E2
      refine ⟨_, rfl, _, _, _, _, true, rfl, .own _, .base (.ins h1 T.cl_Caller T.ic_Caller T.ig_ T.it_ T.im_Caller), kit_self, _, rfl, itf rfl ?_⟩
      exact ⟨_, rfl, _, rfl, _, rfl, cl, a, T.C_Caller, dx, ap, g, _, _, _, q, ns, gs, g1, tss, rfl, h1, T.cl_Caller, T.n_Caller_table, T.n_Caller_goals, h2, tab.mono E2, ok, h3, h4, hq.mono E2, sks, sk1, fun H3 e3 => by
        rw [decide_eq_true (sortT_same pm1)]
        exact ⟨_, rfl, itf rfl (hN _ e3)⟩⟩
    have E3 := ext E2 e3
    by_cases pm2 : g2.Perm tss
    rotate_left
    · obtain ⟨dx, ap, g, st, dv, u, gs, h1, h2, h3, h4, h5, h6⟩ := hrp.mono E3
      refine ⟨_, rfl, _, _, _, _, true, rfl, .own _, .base (.ins h1 T.cl_Responder T.ic_Responder T.ig_ T.it_ T.im_Responder), kit_self, _, rfl, itf rfl ?_⟩
      refine ⟨_, rfl, _, rfl, _, rfl, rp, a, T.C_Responder, dx, ap, g, _, _, _, q, ns, gs, g2, tss, rfl, h1, T.cl_Responder, T.n_Responder_table, T.n_Responder_goals, h2, tab.mono E3, ok, h3, h4, hq.mono E3, sks, sk2, fun H4 e4 => ?_⟩
      rw [decide_eq_false (fun z => pm2 (sort_other z))]
      refine ⟨_, rfl, itt rfl ?_⟩
      refine ⟨by show 1 ≤ 1000; decide, fun ea na => ?_⟩
      exact exc_made na fun d H5 e5 hd => kE2 pm1 pm2 d H5 (ext E3 (ext e4 e5)) hd
    have k := k pm1 pm2
    have nd1 : g1.Nodup := pm1.nodup_iff.mpr nod
    have nd2 : g2.Nodup := pm2.nodup_iff.mpr nod
    have ne2 : g2 ≠ [] := fun z => ne (by rw [z] at pm2; exact List.nil_perm.mp pm2)
    refine sif_ex (fun N hN => ?_) (fun H4 e4 => ?_)
    · obtain ⟨dx, ap, g, st, dv, u, gs, h1, h2, h3, h4, h5, h6⟩ := hrp.mono E3
      refine ⟨_, rfl, _, _, _, _, true, rfl, .own _, .base (.ins h1 T.cl_Responder T.ic_Responder T.ig_ T.it_ T.im_Responder), kit_self, _, rfl, itf rfl ?_⟩
      exact ⟨_, rfl, _, rfl, _, rfl, rp, a, T.C_Responder, dx, ap, g, _, _, _, q, ns, gs, g2, tss, rfl, h1, T.cl_Responder, T.n_Responder_table, T.n_Responder_goals, h2, tab.mono E3, ok, h3, h4, hq.mono E3, sks, sk2, fun H3 e3 => by
        rw [decide_eq_true (sortT_same pm2)]
        exact ⟨_, rfl, itf rfl (hN _ e3)⟩⟩
    have E4 := ext E3 e4
    refine ⟨_, rfl, _, some (lim : Int), 0, rfl, rfl, _, rfl, itf (by show (!decide ((0 : Int) ≤ (lim : Int))) = false; simp) ?_⟩
    dsimp only [tNext]
    refine sif_ex (fun N hN => ?_) (fun H5 e5 => ?_)
    · refine ⟨_, rfl, _, rfl, notin_rows (E4 _ _ hs) (hq.mono E4) ⟨_, rfl, ?_⟩⟩
      by_cases c : ps ∈ tss
      · exact itf (by simp [c]) (hN _ exr)
      · refine itt (by simp [c]) ?_
        obtain ⟨dx, ap, g, st, dv, u, gs, h1, h2, h3, h4, h5, h6⟩ := id (hrp.mono E4)
        refine ⟨_, rfl, rp, dx, _, rfl, h1, rfl, _, rfl, rp, s, ns, ps, g2, rs, rfl, hrp.mono E4, ok, bn, hrs, E4 _ _ hs, sk, fun H5 e5 => ⟨_, rfl, itf (hun c) (hN _ e5)⟩⟩
    have E5 := ext E4 e5
    refine ⟨slen rfl, ?_⟩
    (intro f nf; generalize hGf : upd _ f _ = H6; have eH6 := exG hGf nf; have hf := atG hGf; clear hGf)
    refine ⟨_, rfl, slen rfl, ?_⟩
    (intro hl nhl; generalize hGhl : upd _ hl _ = H7; have eH7 := exG hGhl nhl; have hhl := atG hGhl; clear hGhl)
    refine ⟨_, _, rfl, ?_⟩
    have E7 : Ex H H7 := ext E5 (ext eH6 eH7)
    have nf0 : H f = none := Evl.fresh_back E5 nf
    have nh0 : H hl = none := Evl.fresh_back (ext E5 eH6) nhl
    have nfh : f ≠ hl := ne_of_none hf nhl
    refine ⟨fun m σ Hx => ∃ (i : Nat) (p : List Int) (rl : Addr) (xs ys : List V) (ms : List (List Int × Bool)) (hs : List (List Int)) (y8 y9 : Option V), σ = [some (.ref a), some (.ref q.2), some (.ref s), some (.ref cl), some (.ref rp), some (.int (lim : Int)), some (.ref f), some (.ref hl), y8, y9] ∧ Ex H Hx ∧ Hx f = some (.lst xs) ∧ MvsR Hx xs ms ∧ ms.length = i ∧ Hx hl = some (.lst (ys ++ [.ref rl])) ∧ RowsR Hx ys hs ∧ Hx rl = some (.tup (p.map V.int)) ∧ hs.length = i ∧ SeatOk ns p ∧ i ≤ lim ∧ ms ++ (course ns tss cs rs i (lim - i) p).1 = (course ns tss cs rs 0 lim ps).1 ∧ hs ++ (course ns tss cs rs i (lim - i) p).2 = (course ns tss cs rs 0 lim ps).2 ∧ m = lim - i,
      ⟨lim, 0, ps, s, [], [], [], [], _, _, rfl, E7, eH7 _ _ hf, .nil, rfl, hhl, .nil, E7 _ _ hs, rfl, sk, by omega, rfl, rfl, rfl⟩, ?_⟩
    rintro m σ Hx ⟨i, p, rl, xs, ys, ms, hs', y8, y9, rfl, ex, hfx, mr, lm, hhx, rr, hrl, lh, skp, il, c1, c2, rfl⟩
    have lxs : xs.length = i := (Paired.length mr).trans lm
    refine ⟨_, rfl, _, rfl, hl, _, _, _, rfl, rfl, SqL.of hhx, L2.atI_last _ _, _, rfl, notin_rows hrl (hq.mono ex) ⟨_, rfl, ?_⟩⟩
    by_cases c : p ∈ tss
    · refine itf (by simp [c]) ?_
      refine ⟨_, rfl, _, rfl, _, rfl, _, rfl, hl, _, _, _, rfl, rfl, SqL.of hhx, L2.atI_last _ _, _, rfl, in_rows hrl (hq.mono ex) ⟨_, rfl, ?_⟩⟩
      rw [course_stop (.inl c), List.append_nil] at c1
      rw [course_stop (.inl c)] at c2
      have cl : (course ns tss cs rs 0 lim ps).2.getLastD [] = p := by rw [← c2]; simp
      rw [← c1, ← c2] at k
      rw [← c2] at cl
      rw [cl] at k
      have rr2 := RowsR.snoc hrl rr
      rw [decide_eq_true c] at k
      refine itt (decide_eq_true c) ?_
      refine ⟨slen rfl, ?_⟩
      (intro t nt; generalize hGt : upd _ t _ = Hz; have eHz := exG hGt nt; have ht := atG hGt; clear hGt)
      exact k t f hl xs _ _ (ext ex eHz) ht (eHz _ _ hfx) (mr.mono eHz) (eHz _ _ hhx) (rr2.mono eHz) nf0 nh0
    refine itt (by simp [c]) ?_
    refine ⟨_, rfl, f, _, rfl, .inl (SqL.of hfx), _, rfl, _, _, rfl, rfl, _, rfl, ?_⟩
    by_cases c3 : i = lim
    · refine itf (by rw [lxs, c3]; simp) ?_
      refine ⟨_, rfl, _, rfl, _, rfl, _, rfl, hl, _, _, _, rfl, rfl, SqL.of hhx, L2.atI_last _ _, _, rfl, in_rows hrl (hq.mono ex) ⟨_, rfl, ?_⟩⟩
      rw [course_stop (.inr (by omega)), List.append_nil] at c1
      rw [course_stop (.inr (by omega))] at c2
      have cl : (course ns tss cs rs 0 lim ps).2.getLastD [] = p := by rw [← c2]; simp
      rw [← c1, ← c2] at k
      rw [← c2] at cl
      rw [cl] at k
      have rr2 := RowsR.snoc hrl rr
      rw [decide_eq_false c] at k
      refine itf (decide_eq_false c) ?_
      refine ⟨slen rfl, ?_⟩
      (intro t nt; generalize hGt : upd _ t _ = Hz; have eHz := exG hGt nt; have ht := atG hGt; clear hGt)
      exact k t f hl xs _ _ (ext ex eHz) ht (eHz _ _ hfx) (mr.mono eHz) (eHz _ _ hhx) (rr2.mono eHz) nf0 nh0
    refine itt (by rw [lxs]; simp; omega) ⟨_, fun _ _ h => h, ?_⟩
    obtain ⟨dc, ac, gc, stc, dvc, uc, gsc, hc1, _⟩ := id (hcl.mono ex)
    refine ⟨_, rfl, cl, dc, _, rfl, hc1, rfl, _, rfl, _, rfl, hl, _, _, _, rfl, rfl, SqL.of hhx, L2.atI_last _ _, _, rfl, f, _, rfl, .inl (SqL.of hfx), cl, rl, i, ns, p, g1, cs, (by rw [lxs]; rfl), hcl.mono ex, ok, sk1, nd1, hcs, hrl, skp, fun cc Ha ea hcc' => ?_⟩
    have exa := ext ex ea
    obtain ⟨dr, ar, gr, str, dvr, ur, gsr, hr1, _⟩ := id (hrp.mono exa)
    have lcc := CSt.call_len sk1 nd1 skp i hcs
    generalize hcA : cs.call ns p i = cA at hcc' lcc
    have hha := ea _ _ hhx
    have hfa := ea _ _ hfx
    have hrla := ea _ _ hrl
    refine ⟨_, rfl, rp, dr, _, rfl, hr1, rfl, _, rfl, _, rfl, hl, _, _, _, rfl, rfl, SqL.of hha, L2.atI_last _ _, _, rfl, _, rfl, f, _, rfl, .inl (SqL.of hfa), rp, rl, cc, i, ns, p, cA, g2, rs, (by rw [lxs]; rfl), hrp.mono exa, ok, bn, hrs, ne2, hrla, skp, hcc', lcc, fun Hb eb => ?_⟩
    generalize hbA : dirAt ns p cA i rs = bA
    have exb := ext exa eb
    have hfb := eb _ _ hfa
    dsimp only [gName]
    -- found.append
    refine ⟨_, rfl, .inl ⟨rfl, _, SqL.of hfb⟩, _, rfl, _, rfl, slen rfl, ?_⟩
    (intro mv nmv; generalize hGmv : upd _ mv _ = Hc; have eHc := exG hGmv nmv; have hmv := atG hGmv; clear hGmv)
    have hfc := eHc _ _ hfb
    refine ⟨f, _, _, rfl, rfl, hfc, ?_, ?_⟩
    · rw [lxs]
      exact Nat.lt_of_le_of_lt (show i ≤ 1000 by omega) (by decide)
    have E1c : Ex Hx Hc := ext ea (ext eb eHc)
    have exc := ext ex E1c
    generalize hHd : upd Hc f _ = Hd
    have hfd : Hd f = some (.lst (xs ++ [.ref mv])) := by rw [← hHd, upd_same]
    have tpd : ∀ c zs, Hc c = some (.tup zs) → Hd c = some (.tup zs) := fun c zs z => hHd ▸ tup_pshL hfc z
    have exd : Ex H Hd := hHd ▸ ex_upd exc nf0
    have hhd : Hd hl = some (.lst (ys ++ [.ref rl])) := by rw [← hHd, upd_ne nfh.symm]; exact E1c _ _ hhx
    clear hHd
    have mrd : MvsR Hd (xs ++ [.ref mv]) (ms ++ [(cA, bA)]) := MvsR.snoc (tpd _ _ hmv) (tpd _ _ (eHc _ _ (eb _ _ hcc'))) ((mr.mono E1c).monoT tpd)
    have rrd := (rr.mono E1c).monoT tpd
    have hrld := tpd _ _ (E1c _ _ hrl)
    have hccd := tpd _ _ (eHc _ _ (eb _ _ hcc'))
    -- seats.append
    obtain ⟨dt, t0, gt1, gt2⟩ := id (tab.mono exd)
    refine ⟨_, rfl, .inl ⟨rfl, _, SqL.of hhd⟩, ?_⟩
    refine ⟨_, rfl, a, dt, _, rfl, gt1, rfl, _, rfl, _, rfl, hl, _, _, _, rfl, rfl, SqL.of hhd, L2.atI_last _ _, _, rfl, _, rfl, a, rl, cc, ns, p, cA, bA, rfl, tab.mono exd, ok, hrld, hccd, skp, lcc, fun He z ee nz hz => ?_⟩
    have hhe := ee _ _ hhd
    have lys : ys.length = i := (Paired.length rr).trans lh
    refine ⟨hl, _, _, rfl, rfl, hhe, ?_, ?_⟩
    · rw [List.length_append, lys]
      exact Nat.lt_of_le_of_lt (show i + 1 ≤ 1001 by omega) (by decide)
    have step : course ns tss cs rs i (lim - i) p = ((cA, bA) :: (course ns tss cs rs (i + 1) (lim - (i + 1)) (shiftL ns p cA (if bA = true then -1 else 1))).1, p :: (course ns tss cs rs (i + 1) (lim - (i + 1)) (shiftL ns p cA (if bA = true then -1 else 1))).2) := by
      rw [show lim - i = (lim - (i + 1)) + 1 by omega, course, if_neg c, hcA, hbA]
    rw [step] at c1 c2
    have sk2 : SeatOk ns (shiftL ns p cA (if bA = true then -1 else 1)) := shift_seat ok.one skp.len lcc
    have tpe : ∀ c zs, He c = some (.tup zs) → upd He hl (.lst ((ys ++ [.ref rl]) ++ [.ref z])) c = some (.tup zs) := fun c zs z => tup_pshL hhe z
    refine ⟨lim - (i + 1), by omega, i + 1, _, z, xs ++ [.ref mv], ys ++ [.ref rl], ms ++ [(cA, bA)], hs' ++ [p], _, _, rfl, ex_upd (ext exd ee) nh0, ?_, (mrd.mono ee).monoT tpe, by rw [List.length_append, lm]; rfl, upd_same, RowsR.snoc (tpe _ _ (ee _ _ hrld)) ((rrd.mono ee).monoT tpe), tpe _ _ hz, by rw [List.length_append, lh]; rfl, sk2, by omega, ?_, ?_, rfl⟩
    · rw [upd_ne nfh]
      exact ee _ _ hfd
    · rw [← c1, List.append_assoc]
      rfl
    · rw [← c2, List.append_assoc]
      rfl
end


theorem at_ex {xs : List Int} {r : Int} (h0 : 0 ≤ r) (h1 : r < xs.length) : ∃ v, v ∈ xs ∧ atI (xs.map V.int) r = some (.int v) := by
  obtain ⟨j, rfl⟩ : ∃ j : Nat, r = (j : Int) := ⟨r.toNat, by omega⟩
  have hj : j < xs.length := by omega
  refine ⟨xs[j], List.getElem_mem hj, atI_nat ?_⟩
  rw [List.getElem?_map, List.getElem?_eq_getElem hj]
  rfl
/-- a source of draws stands at s -/
def Src (H : Hp) (s : Addr) : Prop := ∃ a b c : Int, H s = some (.lst [.int a, .int b, .int c])
theorem Src.mono {s : Addr} {H H2 : Hp} (e : Ex H H2) (h : Src H s) : Src H2 s := by
  obtain ⟨a, b, c, h⟩ := h
  exact ⟨a, b, c, e _ _ h⟩
theorem Src.ne {s p : Addr} {H : Hp} (h : Src H s) (hp : H p = none) : p ≠ s := by
  obtain ⟨a, b, c, h⟩ := h
  exact (ne_of_none h hp).symm
theorem Src.new {s p : Addr} {H : Hp} {o : HO} (h : Src H s) (hp : H p = none) : Src (upd H p o) s := Src.mono (exn hp) h
theorem XB.src {s : Addr} {H H2 H3 : Hp} (xb : XB s H H2) (e : Ex H2 H3) : XB s H H3 := xb.trans (XB.of e)
theorem XB.app {s D : Addr} {H H2 : Hp} {o : HO} (xb : XB s H H2) (hD : H D = none) : XB s H (L2.upd H2 D o) := fun c u n z => by
  rw [upd_ne (ne_of_none z hD)]
  exact xb c u n z
theorem Src.app {s D : Addr} {H : Hp} {o : HO} (h : Src H s) (n : D ≠ s) : Src (upd H D o) s := by
  obtain ⟨a, b, c, z⟩ := h
  exact ⟨a, b, c, by rw [upd_ne n.symm]; exact z⟩
theorem atI_nat {α : Type} {xs : List α} {r : Int} (r0 : 0 ≤ r) (r1 : r < xs.length) : ∃ v, atI xs r = some v ∧ v ∈ xs := by
  have h : r.toNat < xs.length := by omega
  refine ⟨xs[r.toNat], ?_, List.getElem_mem h⟩
  unfold atI ixN
  rw [if_pos r0, if_pos r1]
  show xs[r.toNat]? = _
  rw [List.getElem?_eq_getElem h]
theorem SeatOk.snoc : ∀ {ns ps : List Int} {n p : Int}, SeatOk ns ps → 0 ≤ p → p < n → SeatOk (ns ++ [n]) (ps ++ [p])
  | [], [], _, _, _, h0, h1 => ⟨⟨h0, h1⟩, True.intro⟩
  | _ :: _, _ :: _, _, _, h, h0, h1 => ⟨h.1, SeatOk.snoc h.2 h0 h1⟩
theorem tup_xb {s q : Addr} {H H2 : Hp} {xs : List V} (src : Src H s) (h : H q = some (.tup xs)) (xb : XB s H H2) : H2 q = some (.tup xs) := by
  obtain ⟨a, b, c, z⟩ := src
  exact xb _ _ (ne_of h z (by intro q; cases q)) h
theorem TabAt.xb {C s a : Addr} {H H2 : Hp} {ns : List Int} (src : Src H s) (xb : XB s H H2) (h : TabAt C H a ns) : TabAt C H2 a ns := by
  obtain ⟨dx, t, h1, h2⟩ := h
  obtain ⟨x, y, c, z⟩ := src
  exact ⟨dx, t, xb _ _ (ne_of h1 z (by intro q; cases q)) h1, xb _ _ (ne_of h2 z (by intro q; cases q)) h2⟩
theorem WitAt.xb {s wt : Addr} {H H2 : Hp} {m r : Int} {ws : List Int} (h : WitAt H wt m ws r) (src : Src H s) (xb : XB s H H2) : WitAt H2 wt m ws r := by
  obtain ⟨wa, h1, h2⟩ := h
  exact ⟨wa, tup_xb src h1 xb, tup_xb src h2 xb⟩
theorem ifs_xb {s : Addr} {c : TT} {t u : TS} {D : Ends} {σ : L2.St} {H : Hp} (h : ∀ N : L2.St → Hp → Prop, (∀ H2, XB s H H2 → Src H2 s → N σ H2) → tIfS c t u { D with nx := N } σ H) (hR : ∀ H2, XB s H H2 → Src H2 s → D.nx σ H2) : tIfS c t u D σ H :=
  ifs_cutG (fun σ2 H2 => σ2 = σ ∧ XB s H H2 ∧ Src H2 s) (by rintro σ2 H2 ⟨rfl, e, z⟩; exact hR H2 e z) (fun N hN => h N fun H2 e z => hN σ H2 ⟨rfl, e, z⟩)
theorem sif_xb {s : Addr} {c : TT} {t u r : TS} {D : Ends} {σ : L2.St} {H : Hp} (h : ∀ N : L2.St → Hp → Prop, (∀ H2, XB s H H2 → Src H2 s → N σ H2) → tIfS c t u { D with nx := N } σ H) (hR : ∀ H2, XB s H H2 → Src H2 s → r D σ H2) : tSeq (tIfS c t u) r D σ H :=
  ifs_xb (D := { D with nx := r D }) h hR
theorem sif_cut {c : TT} {t u r : TS} {D : Ends} {σ : L2.St} {H : Hp} (R : L2.St → Hp → Prop) (h : ∀ N : L2.St → Hp → Prop, (∀ σ2 H2, R σ2 H2 → N σ2 H2) → tIfS c t u { D with nx := N } σ H) (hR : ∀ σ2 H2, R σ2 H2 → r D σ2 H2) : tSeq (tIfS c t u) r D σ H :=
  ifs_cutG (D := { D with nx := r D }) R hR h
section
variable {P : Program} {w : World} {K : PySem.W.Frag} {mg : Str → Option Value} {base : Heap}
def sp_law_cell_at (K : PySem.W.Frag) : Sp := fun vs H Q _ => ∃ (a : Addr) (ns : List Int) (k : Int), vs = [.ref a, .int k] ∧ SqL K H a (ns.map V.int) ∧ 0 ≤ k ∧ ∀ i : Int, Q (.int i) H
theorem ok_law_cell_at (T : TX K mg) : FnOk P w K mg base CX0 1 T.f_law_cell_at T.fd_law_cell_at ["_law_script", "_law_k"] (sp_law_cell_at K) := by
  refine T.F_law_cell_at.ok sc_law_cell_at (fun vs H Q E h => ?_) (fun cdv A outer s H vs Q E hr h => ?_)
  · obtain ⟨a, ns, k, rfl, _⟩ := h
    rfl
  · obtain ⟨a, ns, j, rfl, hl, h0, k⟩ := h
    refine ⟨_, (pss_cons (ps_if (pt_cmpR op_lt (pv 1) (pe_callB call_len_seq (by rfl) T.z_len (by decide +kernel) (pa_cons (pv 0) pa_nil)) (nomark _)) (pss_one (ps_ret (pe_ix ix_list (pv 0) (pv 1) (fun _ _ => rfl)))) pss_nil) (pss_one (ps_ret pe_int))), ?_⟩
    refine ⟨_, rfl, _, rfl, a, _, rfl, .inl hl, _, _, rfl, rfl, _, rfl, ?_⟩
    refine ite2 (fun h => ?_) (fun _ => k 0)
    rw [List.length_map] at h
    have hj : j < ns.length := of_decide_eq_true h
    obtain ⟨v, _, gv⟩ := at_ex (xs := ns) h0 hj
    exact ⟨_, rfl, _, rfl, a, _, _, _, rfl, rfl, hl, gv, k v⟩
def sp_law_source : Sp := fun vs H Q _ => ∃ c : Int, vs = [.int c] ∧ ∀ H2 s, Ex H H2 → H s = none → Src H2 s → Q (.ref s) H2
theorem ok_law_source (T : TX K mg) : FnOk P w K mg base CX0 1 T.f_law_source T.fd_law_source ["_law_cell"] sp_law_source := by
  refine T.F_law_source.ok sc_law_source (fun vs H Q E h => ?_) (fun cdv A outer s H vs Q E hr h => ?_)
  · obtain ⟨c, rfl, _⟩ := h
    rfl
  · obtain ⟨c, rfl, k⟩ := h
    refine ⟨_, (pss_one (ps_ret (pe_lst (pa_cons (pe_op op_mulI (pv 0) (pe_callTy call_int1 (by rfl) T.z_int (by decide +kernel) (pa_cons (pe_cmpR op_ge (pv 0) (pe_op op_pow pe_int pe_int) (nomark _)) pa_nil))) (pa_cons (pe_op op_mod (pe_callTy call_int1 (by rfl) T.z_int (by decide +kernel) (pa_cons (pv 0) pa_nil)) pe_int) (pa_cons pe_int pa_nil)))))), ?_⟩
    refine ⟨_, rfl, _, rfl, _, _, rfl, rfl, ⟨by decide, by decide, by decide⟩, _, _, rfl, rfl, .inr ⟨_, rfl, _, _, rfl, rfl, mul_ok (.inr ?_), ?_⟩⟩
    · split <;> decide
    refine ⟨_, rfl, .inl ⟨_, rfl, _, _, rfl, rfl, (by show (0 : Int) < _; decide), by show 3 ≤ sizeLine; decide, fun s hs => k _ s (exn hs) hs ⟨_, _, 0, upd_same⟩⟩⟩
def sp_law_take : Sp := fun vs H Q _ => ∃ (s : Addr) (n : Int), vs = [.ref s, .int n] ∧ Src H s ∧ 0 < n ∧ n.natAbs < 2 ^ 8000 ∧ ∀ r H2, 0 ≤ r → r < n → XB s H H2 → Src H2 s → Q (.int r) H2
theorem ok_law_take (T : TX K mg) : FnOk P w K mg base CX0 1 T.f_law_take T.fd_law_take ["_law_source_here", "_law_bound"] sp_law_take := by
  refine T.F_law_take.ok sc_law_take (fun vs H Q E h => ?_) (fun cdv A outer s H vs Q E hr h => ?_)
  · obtain ⟨s, n, rfl, _⟩ := h
    rfl
  · obtain ⟨s, n, rfl, ⟨a, b, c, hs⟩, n0, n8, k⟩ := h
    refine ⟨_, (pss_cons (ps_if (pt_cmpR op_gt (pe_ix ix_list (pv 0) pe_int (fun _ _ => rfl)) pe_int (nomark _)) (pss_cons (ps_set (i := 2) sc_law_take.nd rfl (Or.inl rfl) (pe_op op_mod (pe_callTy call_int1 (by rfl) T.z_int (by decide +kernel) (pa_cons (pe_ix ix_list (pv 0) pe_int (fun _ _ => rfl)) pa_nil)) (pv 1))) (pss_cons (ps_asg (pe_op op_fdivW (pe_ix ix_list (pv 0) pe_int (fun _ _ => rfl)) (pv 1)) (pg_sub (pv 0) pe_int set_list)) (pss_one (ps_ret (pv 2))))) pss_nil) (pss_cons (ps_asg (pe_op op_add (pe_ix ix_list (pv 0) pe_int (fun _ _ => rfl)) pe_int) (pg_sub (pv 0) pe_int set_list)) (pss_cons (ps_set (i := 3) sc_law_take.nd rfl (Or.inl rfl) (pe_op op_mod (pe_callTy call_int1 (by rfl) T.z_int (by decide +kernel) (pa_cons (pe_op op_mulI (pe_op op_add (pe_op op_add (pe_ix ix_list (pv 0) pe_int (fun _ _ => rfl)) (pe_op op_mulI pe_int (pe_ix ix_list (pv 0) pe_int (fun _ _ => rfl)))) pe_int) pe_int) pa_nil)) pe_int)) (pss_cons (ps_set (i := 3) sc_law_take.nd rfl (Or.inl rfl) (pe_op op_mod (pe_callTy call_int1 (by rfl) T.z_int (by decide +kernel) (pa_cons (pe_op op_mulI (pv 3) (pe_op op_add (pe_op op_fdivW (pv 3) pe_int) pe_int)) pa_nil)) pe_int)) (pss_one (ps_ret (pe_op op_mod (pe_callTy call_int1 (by rfl) T.z_int (by decide +kernel) (pa_cons (pe_op op_fdivW (pe_op op_mod (pe_callTy call_int1 (by rfl) T.z_int (by decide +kernel) (pa_cons (pe_op op_mulI (pv 3) (pe_op op_add (pe_op op_fdivW (pv 3) pe_int) pe_int)) pa_nil)) pe_int) pe_int) pa_nil)) (pv 1)))))))), ?_⟩
    refine ⟨_, rfl, s, _, _, _, rfl, rfl, SqL.of hs, rfl, _, _, rfl, rfl, _, rfl, ?_⟩
    refine ite2 (fun _ => ?_) (fun _ => ?_)
    · refine ⟨_, rfl, s, _, _, _, rfl, rfl, SqL.of hs, rfl, .inl ⟨_, rfl, _, rfl, _, _, rfl, rfl, n0, ?_⟩⟩
      refine ⟨_, rfl, s, _, _, _, rfl, rfl, SqL.of hs, rfl, _, rfl, _, _, rfl, rfl, wide_div n0 n8 (by decide) (by decide), _, rfl, s, _, _, 0, rfl, rfl, hs, rfl, ?_⟩
      exact ⟨_, rfl, k _ _ (mod_lo n0) (mod_hi n0) XB.upd ⟨_, _, _, upd_same⟩⟩
    · refine ⟨_, rfl, s, _, _, _, rfl, rfl, SqL.of hs, rfl, _, _, rfl, rfl, _, rfl, s, _, _, 2, rfl, rfl, hs, rfl, ?_⟩
      have xb0 : XB s H (upd H s (.lst [.int a, .int b, .int (c + 1)])) := XB.upd
      have hs1 : upd H s (.lst [.int a, .int b, .int (c + 1)]) s = some (.lst [.int a, .int b, .int (c + 1)]) := upd_same
      show tSeq _ _ _ _ (upd H s (.lst [.int a, .int b, .int (c + 1)]))
      generalize upd H s (.lst [.int a, .int b, .int (c + 1)]) = H1 at xb0 hs1
      refine ⟨_, rfl, s, _, _, _, rfl, rfl, SqL.of hs1, rfl, _, rfl, s, _, _, _, rfl, rfl, SqL.of hs1, rfl, _, _, rfl, rfl, mul_ok (.inl (by decide)), _, _, rfl, rfl, _, _, rfl, rfl, _, _, rfl, rfl, mul_ok (.inr (by decide)), .inl ⟨_, rfl, _, _, rfl, rfl, (by show (0 : Int) < _; decide), ?_⟩⟩
      have q1 := mod_lo (i := (b + 32452843 * (c + 1) + 1) * 48271) (n := 2147483647) (by decide)
      have q2 := mod_hi (i := (b + 32452843 * (c + 1) + 1) * 48271) (n := 2147483647) (by decide)
      dsimp only [gName]
      generalize (b + 32452843 * (c + 1) + 1) * 48271 % 2147483647 = x1 at q1 q2
      refine ⟨_, rfl, _, rfl, _, _, rfl, rfl, ⟨by decide, by decide +kernel⟩, _, _, rfl, rfl, _, _, rfl, rfl, mul_ok (.inl (by omega)), .inl ⟨_, rfl, _, _, rfl, rfl, (by show (0 : Int) < _; decide), ?_⟩⟩
      have q3 := mod_lo (i := x1 * (x1 / 1021 + 69621)) (n := 2147483629) (by decide)
      have q4 := mod_hi (i := x1 * (x1 / 1021 + 69621)) (n := 2147483629) (by decide)
      dsimp only [gName]
      generalize x1 * (x1 / 1021 + 69621) % 2147483629 = x2 at q3 q4
      refine ⟨_, rfl, _, rfl, _, _, rfl, rfl, ⟨by decide, by decide +kernel⟩, _, _, rfl, rfl, _, _, rfl, rfl, mul_ok (.inl (by omega)), .inl ⟨_, rfl, _, _, rfl, rfl, (by show (0 : Int) < _; decide), _, _, rfl, rfl, ⟨by decide, by decide +kernel⟩, .inl ⟨_, rfl, _, rfl, _, _, rfl, rfl, n0, ?_⟩⟩⟩
      exact k _ _ (mod_lo n0) (mod_hi n0) xb0 ⟨_, _, _, hs1⟩
def sp_law_pick : Sp := fun vs H Q _ => ∃ (s q : Addr) (ns : List Int), vs = [.ref s, .ref q] ∧ Src H s ∧ H q = some (.lst (ns.map V.int)) ∧ q ≠ s ∧ ns ≠ [] ∧ ns.length ≤ 1000 ∧ ∀ r H2, r ∈ ns → XB s H H2 → Src H2 s → Q (.int r) H2
theorem ok_law_pick (T : TX K mg) : FnOk P w K mg base CX0 2 T.f_law_pick T.fd_law_pick ["_law_source_here", "_law_items"] sp_law_pick := by
  refine T.F_law_pick.ok sc_law_pick (fun vs H Q E h => ?_) (fun cdv A outer s H vs Q E hr h => ?_)
  · obtain ⟨s, q, ns, rfl, _⟩ := h
    rfl
  · obtain ⟨s, q, ns, rfl, hs, hq, nq, ne, l, k⟩ := h
    refine ⟨_, (pss_one (ps_ret (pe_ix ix_list (pv 1) (pe_call (ok_law_take T) hr rfl T.m_law_take T.F_law_take.kp T.b_law_take .nil pass0 (pa_cons (pv 0) (pa_cons (pe_callB call_len_seq (by rfl) T.z_len (by decide +kernel) (pa_cons (pv 1) pa_nil)) pa_nil))) (fun _ _ => rfl)))), ?_⟩
    have lp : 0 < ns.length := List.length_pos_iff.mpr ne
    refine ⟨_, rfl, _, rfl, _, rfl, q, _, rfl, .inl (SqL.of hq), s, _, rfl, hs, by rw [List.length_map]; omega, ?_, fun r H2 r0 r1 xb src => ?_⟩
    · rw [List.length_map]
      exact Nat.lt_of_le_of_lt (show ((ns.length : Int)).natAbs ≤ 1000 by omega) (by decide +kernel)
    · rw [List.length_map] at r1
      obtain ⟨v, hm, gv⟩ := at_ex (xs := ns) r0 r1
      exact ⟨q, _, _, _, rfl, rfl, SqL.of (xb _ _ nq hq), gv, k v H2 hm xb src⟩
def sp_law_drawn_seat : Sp := fun vs H Q _ => ∃ (s l : Addr) (ns : List Int), vs = [.ref s, .ref l] ∧ Src H s ∧ H l = some (.tup (ns.map V.int)) ∧ SzOk ns ∧ (∀ n ∈ ns, n.natAbs < 2 ^ 5000) ∧
  ∀ (q : Addr) (ps : List Int) H2, H q = none → H2 q = some (.tup (ps.map V.int)) → SeatOk ns ps → XB s H H2 → Src H2 s → Q (.ref q) H2
theorem ok_law_drawn_seat (T : TX K mg) : FnOk P w K mg base CX0 2 T.f_law_drawn_seat T.fd_law_drawn_seat ["_law_source_here", "_law_rings"] sp_law_drawn_seat := by
  refine T.F_law_drawn_seat.ok sc_law_drawn_seat (fun vs H Q E h => ?_) (fun cdv A outer s H vs Q E hr h => ?_)
  · obtain ⟨s, l, ns, rfl, _⟩ := h
    rfl
  · obtain ⟨s, l, ns, rfl, hs, hl, ok, bn, k⟩ := h
    refine ⟨_, (pss_one (ps_ret (pe_callTy call_tuple_of (by rfl) T.z_tuple (by decide +kernel) (pa_cons (pe_lc (own := [("_law_size", 2)]) (g := (gName 2)) rfl sc_law_drawn_seat.nd (pi_tup (pv 1)) (blkOk_by (N := N_law_drawn_seat) (sc := defScope s_law_drawn_seat) (by decide +kernel)) (fun _ _ _ _ _ => (pg_name (i := 2) sc_law_drawn_seat.nd rfl (Or.inl rfl))) (fun _ _ _ _ _ => pts_nil) (fun _ _ _ _ _ => (pe_call (ok_law_take T) hr rfl T.m_law_take T.F_law_take.kp T.b_law_take .nil pass0 (pa_cons (pv 0) (pa_cons (pv 2) pa_nil))))) pa_nil)))), ?_⟩
    refine ⟨_, rfl, l, rfl, ⟨_, SqT.of hl⟩, fun D hD => ?_⟩
    have nD : D ≠ s := hs.ne hD
    refine lc_it (walk_tup (xs := ns.map V.int)) (fun i H2 => ∃ ps : List Int, H2 D = some (.lst (ps.map V.int)) ∧ SeatOk (ns.take i) ps ∧ XB s H H2 ∧ Src H2 s) ⟨[], upd_same, True.intro, XB.of (exn hD), hs.new hD⟩ (fun i H2 _ ⟨ps, _, _, xb, _⟩ => SqT.of (tup_xb hs hl xb)) ?_ ?_
    · rintro i x _ H2 hi ⟨ps, hD2, sk, xb, src⟩ ⟨rfl, hx⟩
      obtain ⟨n, hn, rfl⟩ := map_get hx
      have n1 := ok.one n (List.mem_of_getElem? hn)
      refine ⟨rfl, _, rfl, _, rfl, s, n, rfl, src, by omega, lt_pow (bn n (List.mem_of_getElem? hn)) (by decide), fun r H4 r0 r1 xb4 src4 => ?_⟩
      refine ⟨ps.map V.int, xb4 _ _ nD hD2, ?_, ps ++ [r], ?_, ?_, (xb.trans xb4).app hD, src4.app nD⟩
      · have hl4 := ok.le
        have := sk.len
        rw [List.length_take] at this
        rw [List.length_map]
        exact Nat.lt_of_le_of_lt (show ps.length ≤ 4 by omega) (by decide)
      · rw [upd_same, List.map_append]
        rfl
      · rw [take_more hn]
        exact sk.snoc r0 r1
    · rintro H2 ⟨ps, hD2, sk, xb, src⟩
      refine ⟨D, _, rfl, .inl ⟨SqL.of hD2, fun q hq => ?_⟩⟩
      rw [List.length_map, List.take_length] at sk
      have nq := src.ne hq
      exact k q ps _ (xb.back nq hq) upd_same sk (xb.trans (XB.of (exn hq))) (src.new hq)
def sp_law_moved : Sp := fun vs H Q _ => ∃ (t s c : Addr) (f : Int) (ns ps cs : List Int), vs = [.ref t, .ref s, .ref c, .int f] ∧ H t = some (.tup (ns.map V.int)) ∧ SzOk ns ∧ H s = some (.tup (ps.map V.int)) ∧ H c = some (.tup (cs.map V.int)) ∧ ps.length = ns.length ∧ cs.length = ns.length ∧ (f = 1 ∨ f = -1) ∧
  ∀ H2 q, Ex H H2 → H q = none → H2 q = some (.tup ((shiftL ns ps cs f).map V.int)) → Q (.ref q) H2
theorem ok_law_moved (T : TX K mg) : FnOk P w K mg base CX0 1 T.f_law_moved T.fd_law_moved ["_law_rings", "_law_spot", "_law_call_in", "_law_sign_here"] sp_law_moved := by
  refine T.F_law_moved.ok sc_law_moved (fun vs H Q E h => ?_) (fun cdv A outer s H vs Q E hr h => ?_)
  · obtain ⟨t, s, c, f, ns, ps, cs, rfl, _⟩ := h
    rfl
  · obtain ⟨t, s, c, f, ns, ps, cs, rfl, ht, ok, hs, hc, lp, lc, hf, k⟩ := h
    have l4 := ok.le
    refine ⟨_, (pss_one (ps_ret (pe_callTy call_tuple_of (by rfl) T.z_tuple (by decide +kernel) (pa_cons (pe_lc (own := [("_law_one", 4), ("_law_other", 5), ("_law_size", 6)]) (g := (gTup K 3 (gCons (gName 4) (gCons (gName 5) (gCons (gName 6) gNil))))) rfl sc_law_moved.nd (CZ.pi_z3 (fl := [true, true, true]) rfl (by rfl) T.z_zip (pa_cons (pv 1) (pa_cons (pv 2) (pa_cons (pv 0) pa_nil)))) (blkOk_by (N := N_law_moved) (sc := defScope s_law_moved) (by decide +kernel)) (fun _ _ _ _ _ => (pg_tup rfl (pgs_cons (pg_name (i := 4) sc_law_moved.nd rfl (Or.inl rfl)) (pgs_cons (pg_name (i := 5) sc_law_moved.nd rfl (Or.inl rfl)) (pgs_cons (pg_name (i := 6) sc_law_moved.nd rfl (Or.inl rfl)) pgs_nil))))) (fun _ _ _ _ _ => pts_nil) (fun _ _ _ _ _ => (pe_op op_mod (pe_callTy call_int1 (by rfl) T.z_int (by decide +kernel) (pa_cons (pe_op op_add (pv 4) (pe_op op_mulI (pv 3) (pv 5))) pa_nil)) (pv 6)))) pa_nil)))), ?_⟩
    refine ⟨_, rfl, _, rfl, _, rfl, [s, c, t], rfl, rfl, all3 (sqT hs) (sqT hc) (sqT ht), fun D hD => ?_⟩
    have ls : (shiftL ns ps cs f).length = ns.length := shift_len lp lc
    refine lc_vals (CZ.walk_rows (xss := [ps.map V.int, cs.map V.int, ns.map V.int]) (n := ns.length) (lens3 (by rw [List.length_map, lp]) (by rw [List.length_map, lc]) (by rw [List.length_map]))) ((shiftL ns ps cs f).map V.int) (by rw [List.length_map, ls]) (by omega) hD (fun H3 e => .cons (SqT.of (e _ _ hs)) (.cons (SqT.of (e _ _ hc)) (.cons (SqT.of (e _ _ ht)) .nil))) ?_ (gmono_tup (gmono_cons gmono_name (gmono_cons gmono_name (gmono_cons gmono_name gmono_nil)))) ?_
    · intro i y H3 H4 R hi e yy kk
      obtain ⟨Ta, p, d, n, rfl, hT, rfl, hp, hd, hn⟩ := yints3 yy
      have n1 := ok.one n (List.mem_of_getElem? hn)
      refine ⟨Ta, _, rfl, SqT.of upd_same, rfl, _, _, rfl, _, _, rfl, _, _, rfl, rfl, rfl, ?_⟩
      refine ⟨_, rfl, _, rfl, _, rfl, _, _, rfl, rfl, mul_ok (.inl (by rcases hf with e | e <;> rw [e] <;> decide)), _, _, rfl, rfl, .inl ⟨_, rfl, _, rfl, _, _, rfl, rfl, (by show (0 : Int) < n; omega), ?_⟩⟩
      refine kk _ _ (exn hT) ?_
      rw [List.getElem?_map, shift_get hn hp hd]
      rfl
    · intro H3 e hD3
      exact ⟨D, _, rfl, .inl ⟨SqL.of hD3, fun q hq => k _ q (fun b o z => exn hq b o (e b o z)) (Evl.fresh_back e hq) upd_same⟩⟩
end

section
variable {P : Program} {w : World} {K : PySem.W.Frag} {mg : Str → Option Value} {base : Heap}
def sp_law_pickV : Sp := fun vs H Q _ => ∃ (s q : Addr) (xs : List V), vs = [.ref s, .ref q] ∧ Src H s ∧ H q = some (.lst xs) ∧ q ≠ s ∧ xs ≠ [] ∧ xs.length ≤ 1000 ∧ ∀ (i : Nat) x H2, xs[i]? = some x → XB s H H2 → Src H2 s → Q x H2
theorem ok_law_pickV (T : TX K mg) : FnOk P w K mg base CX0 2 T.f_law_pick T.fd_law_pick ["_law_source_here", "_law_items"] sp_law_pickV := by
  refine T.F_law_pick.ok sc_law_pick (fun vs H Q E h => ?_) (fun cdv A outer s H vs Q E hr h => ?_)
  · obtain ⟨s, q, xs, rfl, _⟩ := h
    rfl
  · obtain ⟨s, q, xs, rfl, hs, hq, nq, ne, l, k⟩ := h
    refine ⟨_, (pss_one (ps_ret (pe_ix ix_list (pv 1) (pe_call (ok_law_take T) hr rfl T.m_law_take T.F_law_take.kp T.b_law_take .nil pass0 (pa_cons (pv 0) (pa_cons (pe_callB call_len_seq (by rfl) T.z_len (by decide +kernel) (pa_cons (pv 1) pa_nil)) pa_nil))) (fun _ _ => rfl)))), ?_⟩
    have lp : 0 < xs.length := List.length_pos_iff.mpr ne
    refine ⟨_, rfl, _, rfl, _, rfl, q, _, rfl, .inl (SqL.of hq), s, _, rfl, hs, by omega, Nat.lt_of_le_of_lt (show ((xs.length : Int)).natAbs ≤ 1000 by omega) (by decide +kernel), fun r H2 r0 r1 xb src => ?_⟩
    obtain ⟨j, rfl⟩ : ∃ j : Nat, r = (j : Int) := ⟨r.toNat, by omega⟩
    have hj : xs[j]? = some xs[j] := List.getElem?_eq_getElem (by omega)
    exact ⟨q, _, _, _, rfl, rfl, SqL.of (xb _ _ nq hq), L2.atI_nat hj, k j _ H2 hj xb src⟩
end

theorem wsum_snoc : ∀ {ws ps : List Int} {x p : Int}, ws.length = ps.length → wsum (ws ++ [x]) (ps ++ [p]) = wsum ws ps + x * p
  | [], [], x, p, _ => by
    show x * p + 0 = 0 + x * p
    omega
  | w :: ws, q :: ps, x, p, h => by
    have ih := wsum_snoc (ws := ws) (ps := ps) (x := x) (p := p) (Nat.succ.inj h)
    rw [List.cons_append, List.cons_append, wsum_cons, wsum_cons, ih]
    omega
section
variable {P : Program} {w : World} {K : PySem.W.Frag} {mg : Str → Option Value} {base : Heap}
def sp_law_sign : Sp := fun vs H Q _ => ∃ b : Bool, vs = [.str (awayW b)] ∧ ∀ H2, Ex H H2 → Q (.int (if b = true then -1 else 1)) H2
theorem ok_law_sign (T : TX K mg) : FnOk P w K mg base CX0 1 T.f_law_sign T.fd_law_sign ["_law_word"] sp_law_sign := by
  refine T.F_law_sign.ok sc_law_sign (fun vs H Q E h => ?_) (fun cdv A outer s H vs Q E hr h => ?_)
  · obtain ⟨b, rfl, _⟩ := h
    rfl
  · obtain ⟨b, rfl, k⟩ := h
    refine ⟨_, (pss_one (ps_ret (pe_ix ix_list (pe_lst (pa_cons pe_int (pa_cons (pe_un un_neg pe_int) pa_nil))) (pe_callTy call_int1 (by rfl) T.z_int (by decide +kernel) (pa_cons (pe_cmpR op_eq (pv 0) pe_str (nomark _)) pa_nil)) (fun _ _ => rfl)))), ?_⟩
    refine ⟨_, rfl, slen rfl, ?_⟩
    (intro dl ndl; generalize hGdl : upd _ dl _ = H2; have eH2 := exG hGdl ndl; have hdl := atG hGdl; clear hGdl)
    refine ⟨_, rfl, rfl, .inr ⟨_, rfl, dl, _, _, _, rfl, rfl, SqL.of hdl, ?_, k H2 eH2⟩⟩
    cases b <;> rfl
def sp_law_drawn_call : Sp := fun vs H Q _ => ∃ (s l : Addr) (ns : List Int), vs = [.ref s, .ref l] ∧ Src H s ∧ H l = some (.tup (ns.map V.int)) ∧ SzOk ns ∧ (∀ n ∈ ns, n.natAbs < 2 ^ 300) ∧
  ∀ (q : Addr) (cs : List Int) H2, H2 q = some (.tup (cs.map V.int)) → cs.length = ns.length → (∀ c ∈ cs, c.natAbs < 2 ^ 302) → XB s H H2 → Src H2 s → Q (.ref q) H2
theorem ok_law_drawn_call (T : TX K mg) : FnOk P w K mg base CX0 3 T.f_law_drawn_call T.fd_law_drawn_call ["_law_source_here", "_law_rings"] sp_law_drawn_call := by
  refine T.F_law_drawn_call.ok sc_law_drawn_call (fun vs H Q E h => ?_) (fun cdv A outer s H vs Q E hr h => ?_)
  · obtain ⟨s, l, ns, rfl, _⟩ := h
    rfl
  · obtain ⟨s, l, ns, rfl, hs, hl, ok, bn, k⟩ := h
    refine ⟨_, (pss_cons (ps_set (i := 2) sc_law_drawn_call.nd rfl (Or.inl rfl) (pe_lst pa_nil)) (pss_cons (ps_for PassesOwn.never rfl (pi_tup (pv 1)) (pg_name (i := 3) sc_law_drawn_call.nd rfl (Or.inl rfl)) (pss_cons (ps_set (i := 4) sc_law_drawn_call.nd rfl (Or.inl rfl) (pe_call (ok_law_pick T) hr rfl T.m_law_pick T.F_law_pick.kp T.b_law_pick .nil pass0 (pa_cons (pv 0) (pa_cons (pe_lst (pa_cons (pv 3) (pa_cons (pe_op op_mulI pe_int (pv 3)) (pa_cons (pe_op op_pow pe_int pe_int) pa_nil)))) pa_nil)))) (pss_one (ps_expr (pe_bm PySem.F.plainAttrs_list PySem.F.slot_list_append PySem.F.type_list_append mt_append (pv 2) (pa_cons (pe_op op_sub (pe_call (ok_law_take T) (hr.mono (by decide)) rfl T.m_law_take T.F_law_take.kp T.b_law_take .nil pass0 (pa_cons (pv 0) (pa_cons (pe_op op_add (pe_op op_mulI pe_int (pv 4)) pe_int) pa_nil))) (pv 4)) pa_nil)))))) (pss_one (ps_ret (pe_callTy call_tuple_of (by rfl) T.z_tuple (by decide +kernel) (pa_cons (pv 2) pa_nil)))))), ?_⟩
    refine ⟨slen rfl, ?_⟩
    (intro D nD; generalize hGD : upd _ D _ = H1; have eH1 := exG hGD nD; have hD := atG hGD; clear hGD)
    have nD0 : D ≠ s := hs.ne nD
    refine ⟨_, rfl, l, rfl, ⟨_, SqT.of (eH1 _ _ hl)⟩, ?_⟩
    refine for_it (walk_tup (xs := ns.map V.int)) (fun i σ H2 => ∃ (y3 y4 : Option V) (cs : List Int), σ = [some (.ref s), some (.ref l), some (.ref D), y3, y4] ∧ H2 D = some (.lst (cs.map V.int)) ∧ cs.length = i ∧ (∀ c ∈ cs, c.natAbs < 2 ^ 302) ∧ XB s H H2 ∧ Src H2 s) ⟨_, _, [], rfl, hD, rfl, (fun c hc => by cases hc), XB.of eH1, hs.mono eH1⟩ (fun i σ H2 _ ⟨_, _, _, _, _, _, _, xb, _⟩ => SqT.of (tup_xb hs hl xb)) ?_ ?_
    · rintro i x σ _ H2 hi ⟨y3, y4, cs, rfl, hD2, lc, bc, xb, src⟩ ⟨rfl, hx⟩
      obtain ⟨n, hn, rfl⟩ := map_get hx
      have n1 := ok.one n (List.mem_of_getElem? hn)
      have nb := bn n (List.mem_of_getElem? hn)
      have hi4 : i < 4 := by
        have := ok.le
        rw [List.length_map] at hi
        omega
      refine ⟨_, rfl, _, rfl, _, rfl, _, _, rfl, rfl, mul_ok (.inl (by decide)), _, _, rfl, rfl, ⟨by decide, by decide, by decide⟩, slen rfl, ?_⟩
      (intro wl nwl; generalize hGwl : upd _ wl _ = H3; have eH3 := exG hGwl nwl; have hwl := atG hGwl; clear hGwl)
      refine ⟨s, wl, [n, 3 * n, 10 ^ (20 : Int).toNat], rfl, src.mono eH3, hwl, src.ne nwl, by simp, by simp, fun wd H4 hw xb4 src4 => ?_⟩
      have wb : 0 < wd ∧ wd.natAbs < 2 ^ 302 := by
        have e20 : (10 : Int) ^ (20 : Int).toNat = 100000000000000000000 := by decide
        have e300 : (2 : Nat) ^ 302 = 4 * 2 ^ 300 := by decide +kernel
        have g : 100000000000000000000 < (2 : Nat) ^ 300 := by decide +kernel
        generalize (2 : Nat) ^ 300 = G at nb e300 g
        rw [e300]
        rw [e20] at hw
        simp only [List.mem_cons, List.not_mem_nil, or_false] at hw
        rcases hw with rfl | rfl | rfl <;> omega
      have xbD : XB s H2 H4 := (XB.of eH3).trans xb4
      have hD4 := xbD _ _ nD0 hD2
      refine ⟨_, rfl, .inl ⟨rfl, _, SqL.of hD4⟩, _, rfl, _, rfl, _, _, rfl, rfl, mul_ok (.inl (by decide)), _, _, rfl, rfl, s, _, rfl, src4, by omega, ?_, fun r H5 r0 r1 xb5 src5 => ?_⟩
      · have e8 : (2 : Nat) ^ 302 * 4 ≤ 2 ^ 8000 := by decide +kernel
        generalize (2 : Nat) ^ 302 = G at wb e8
        generalize (2 : Nat) ^ 8000 = G2 at e8
        show (2 * wd + 1).natAbs < G2
        omega
      refine ⟨_, rfl, _, _, rfl, rfl, ?_⟩
      refine ⟨D, _, _, rfl, rfl, xb5 _ _ nD0 hD4, ?_, ?_⟩
      · rw [List.length_map]
        exact Nat.lt_of_le_of_lt (show cs.length ≤ 4 by omega) (by decide)
      refine ⟨_, _, cs ++ [r - wd], rfl, ?_, by rw [List.length_append, lc]; rfl, fun c hc => ?_, ((xb.trans xbD).trans xb5).app nD, src5.app nD0⟩
      · rw [upd_same, List.map_append]
        rfl
      · rcases List.mem_append.mp hc with hc | hc
        · exact bc c hc
        · rw [List.mem_singleton.mp hc]
          generalize (2 : Nat) ^ 302 = G at wb
          omega
    · rintro σ H2 ⟨y3, y4, cs, rfl, hD2, lc, bc, xb, src⟩
      rw [List.length_map] at lc
      refine ⟨_, rfl, D, _, rfl, .inl ⟨SqL.of hD2, ?_⟩⟩
      (intro q nq; generalize hGq : upd _ q _ = H3; have eH3 := exG hGq nq; have hq := atG hGq; clear hGq)
      exact k q cs _ hq lc bc (xb.trans (XB.of eH3)) (src.mono eH3)
end

theorem RowsR.xb3 {s : Addr} {H H2 : Hp} {xs : List V} {tss : List (List Int)} (h : RowsR H xs tss) (src : Src H s) (xb : XB s H H2) : RowsR H2 xs tss := h.monoT fun _ _ z => tup_xb src z xb
section
variable {P : Program} {w : World} {K : PySem.W.Frag} {mg : Str → Option Value} {base : Heap}
def sp_law_list_calls : Sp := fun vs H Q _ => ∃ (s l : Addr) (ns : List Int) (b : Int), vs = [.ref s, .ref l, .int b] ∧ Src H s ∧ H l = some (.tup (ns.map V.int)) ∧ SzOk ns ∧ (∀ n ∈ ns, n.natAbs < 2 ^ 300) ∧ 1 ≤ b ∧ b ≤ 100 ∧
  ∀ (q : Addr) (css : List (List Int)) H2, RowsAt H2 q css → H q = none → q ≠ s → css ≠ [] → css.length ≤ 100 → (∀ c ∈ css, c.length = ns.length ∧ ∀ x ∈ c, x.natAbs < 2 ^ 302) → XB s H H2 → Src H2 s → Q (.ref q) H2
theorem ok_law_list_calls (T : TX K mg) : FnOk P w K mg base CX0 4 T.f_law_list_calls T.fd_law_list_calls ["_law_source_here", "_law_rings", "_law_bound"] sp_law_list_calls := by
  refine T.F_law_list_calls.ok sc_law_list_calls (fun vs H Q E h => ?_) (fun cdv A outer s H vs Q E hr h => ?_)
  · obtain ⟨s, l, ns, b, rfl, _⟩ := h
    rfl
  · obtain ⟨s, l, ns, b, rfl, hs, hl, ok, bn, b1, b2, k⟩ := h
    refine ⟨_, (pss_one (ps_ret (pe_lc (own := [("_law_k", 3)]) (g := (gName 3)) rfl sc_law_list_calls.nd (pi_range1 rfl T.z_range (pa_cons (pe_op op_add pe_int (pe_call (ok_law_take T) (hr.mono (by decide)) rfl T.m_law_take T.F_law_take.kp T.b_law_take .nil pass0 (pa_cons (pv 0) (pa_cons (pv 2) pa_nil)))) pa_nil)) (blkOk_by (N := N_law_list_calls) (sc := defScope s_law_list_calls) (by decide +kernel)) (fun _ _ _ _ _ => (pg_name (i := 3) sc_law_list_calls.nd rfl (Or.inl rfl))) (fun _ _ _ _ _ => pts_nil) (fun _ _ _ _ _ => (pe_call (ok_law_drawn_call T) hr rfl T.m_law_drawn_call T.F_law_drawn_call.kp T.b_law_drawn_call .nil pass0 (pa_cons (pv 0) (pa_cons (pv 1) pa_nil))))))), ?_⟩
    refine ⟨_, rfl, _, rfl, s, b, rfl, hs, by omega, Nat.lt_of_le_of_lt (show b.natAbs ≤ 100 by omega) (by decide +kernel), fun r H1 r0 r1 xb1 src1 => ?_⟩
    refine ⟨_, _, rfl, rfl, _, rfl, by omega, by omega, fun D hD => ?_⟩
    obtain ⟨n, hn, n1, n2⟩ : ∃ n : Nat, (1 + r) = (n : Int) ∧ 1 ≤ n ∧ n ≤ 100 := ⟨(1 + r).toNat, by omega, by omega, by omega⟩
    have Ds : D ≠ s := src1.ne hD
    have nD : H D = none := XB.back xb1 Ds hD
    rw [hn]
    refine lc_it walk_range (fun i Hx => ∃ css, RowsAt Hx D css ∧ css.length = i ∧ (∀ c ∈ css, c.length = ns.length ∧ ∀ x ∈ c, x.natAbs < 2 ^ 302) ∧ XB s H Hx ∧ Src Hx s) ⟨[], ⟨_, upd_same, .nil⟩, rfl, (fun c hc => by cases hc), xb1.trans (XB.of (exn hD)), src1.mono (exn hD)⟩ (fun _ _ _ _ => True.intro) ?_ ?_
    · rintro i x _ Hx hi ⟨css, ra, lc, hc, xb, src⟩ ⟨rfl, hx⟩
      have hi2 : i < n := by simpa using hi
      refine ⟨rfl, _, rfl, _, rfl, s, l, ns, rfl, src, tup_xb hs hl xb, ok, bn, fun q cs Hy hq lcs bcs xby srcy => ?_⟩
      obtain ⟨zs, z1, z2⟩ := ra
      have z1y := xby _ _ Ds z1
      have z2y := z2.xb3 src xby
      refine ⟨zs, z1y, ?_, css ++ [cs], ⟨zs ++ [.ref q], upd_same, RowsR.snoc (tup_pshL z1y hq) (z2y.monoT fun c zs z => tup_pshL z1y z)⟩, by rw [List.length_append, lc]; rfl, fun c hc2 => ?_, (xb.trans xby).app nD, srcy.app Ds⟩
      · rw [Paired.length z2, lc]
        exact Nat.lt_of_le_of_lt (show i ≤ 100 by omega) (by decide)
      · rcases List.mem_append.mp hc2 with hc2 | hc2
        · exact hc c hc2
        · rw [List.mem_singleton.mp hc2]
          exact ⟨lcs, bcs⟩
    · rintro Hx ⟨css, ra, lc, hc, xb, src⟩
      have lc : css.length = n := by simpa using lc
      exact k D css Hx ra nD Ds (fun z => by rw [z] at lc; simp at lc; omega) (by omega) hc xb src
end

theorem paired_erase {α β : Type} {R : α → β → Prop} : ∀ {xs : List α} {ys : List β} (k : Nat), Paired R xs ys → Paired R (xs.eraseIdx k) (ys.eraseIdx k)
  | _, _, _, .nil => .nil
  | _, _, 0, .cons _ t => t
  | _, _, k + 1, .cons h t => .cons h (paired_erase k t)
theorem erase_perm {α : Type} : ∀ {l : List α} {k : Nat} (h : k < l.length), (l[k] :: l.eraseIdx k).Perm l
  | a :: l, 0, _ => .refl _
  | a :: l, k + 1, h => by
    have h2 : k < l.length := by simpa using h
    show ((l[k]) :: a :: l.eraseIdx k).Perm (a :: l)
    exact (List.Perm.swap a _ _).trans ((erase_perm h2).cons a)
theorem seqIx {r : Int} {n : Nat} (h0 : 0 ≤ r) (h1 : r < n) (hn : n < 2 ^ 62) : seqIndex? r n = some r.toNat := by
  unfold seqIndex?
  rw [if_neg (show ¬ r < 0 by omega)]
  dsimp only
  rw [if_pos (by rw [Bool.and_eq_true, decide_eq_true_iff, decide_eq_true_iff]; omega)]

section
variable {P : Program} {w : World} {K : PySem.W.Frag} {mg : Str → Option Value} {base : Heap}
def sp_law_goals : Sp := fun vs H Q _ => ∃ (s l : Addr) (ns : List Int) (b : Int), vs = [.ref s, .ref l, .int b] ∧ Src H s ∧ H l = some (.tup (ns.map V.int)) ∧ SzOk ns ∧ (∀ n ∈ ns, n.natAbs < 2 ^ 5000) ∧ 1 ≤ b ∧ b ≤ 100 ∧
  ∀ (q : Addr) (tss : List (List Int)) H2, RowsAt H2 q tss → H q = none → q ≠ s → tss ≠ [] → (tss.length : Int) ≤ b → (∀ t ∈ tss, SeatOk ns t) → tss.Nodup → XB s H H2 → Src H2 s → Q (.ref q) H2
theorem ok_law_goals (T : TX K mg) : FnOk P w K mg base CX0 3 T.f_law_goals T.fd_law_goals ["_law_source_here", "_law_rings", "_law_bound"] sp_law_goals := by
  refine T.F_law_goals.ok sc_law_goals (fun vs H Q E h => ?_) (fun cdv A outer s H vs Q E hr h => ?_)
  · obtain ⟨s, l, ns, b, rfl, _⟩ := h
    rfl
  · obtain ⟨s, l, ns, b, rfl, hs, hl, ok, bn, b1, b2, k⟩ := h
    refine ⟨_, (pss_cons (ps_set (i := 3) sc_law_goals.nd rfl (Or.inl rfl) (pe_lst pa_nil)) (pss_cons (ps_for PassesOwn.never rfl (pi_range1 rfl T.z_range (pa_cons (pe_op op_add pe_int (pe_call (ok_law_take T) (hr.mono (by decide)) rfl T.m_law_take T.F_law_take.kp T.b_law_take .nil pass0 (pa_cons (pv 0) (pa_cons (pv 2) pa_nil)))) pa_nil)) (pg_name (i := 4) sc_law_goals.nd rfl (Or.inl rfl)) (pss_cons (ps_set (i := 5) sc_law_goals.nd rfl (Or.inl rfl) (pe_call (ok_law_drawn_seat T) hr rfl T.m_law_drawn_seat T.F_law_drawn_seat.kp T.b_law_drawn_seat .nil pass0 (pa_cons (pv 0) (pa_cons (pv 1) pa_nil)))) (pss_one (ps_if (pt_cmpR (r := rNotInD K) (op_notInD (u65 hr)) (pv 5) (pv 3) rfl) (pss_one (ps_expr (pe_bm PySem.F.plainAttrs_list PySem.F.slot_list_append PySem.F.type_list_append mt_append (pv 3) (pa_cons (pv 5) pa_nil)))) pss_nil)))) (pss_one (ps_ret (pv 3))))), ?_⟩
    refine ⟨slen rfl, ?_⟩
    (intro f nf; generalize hGf : upd _ f _ = H1; have eH1 := exG hGf nf; have hf := atG hGf; clear hGf)
    have fs : f ≠ s := hs.ne nf
    dsimp only [gName]
    refine ⟨_, rfl, _, rfl, s, b, rfl, hs.mono eH1, by omega, Nat.lt_of_le_of_lt (show b.natAbs ≤ 100 by omega) (by decide +kernel), fun r H2 r0 r1 xb2 src2 => ?_⟩
    refine ⟨_, _, rfl, rfl, _, rfl, by omega, by omega, ?_⟩
    refine for_it walk_range (fun i σ Hx => ∃ (y4 y5 : Option V) (tss : List (List Int)), σ = [some (.ref s), some (.ref l), some (.int b), some (.ref f), y4, y5] ∧ RowsAt Hx f tss ∧ tss.length ≤ i ∧ (1 ≤ i → tss ≠ []) ∧ (∀ t ∈ tss, SeatOk ns t) ∧ tss.Nodup ∧ XB s H Hx ∧ Src Hx s) ⟨_, _, [], rfl, ⟨[], xb2 _ _ fs hf, .nil⟩, Nat.le_refl _, (fun z => by omega), (fun t ht => nomatch ht), .nil, (XB.of eH1).trans xb2, src2⟩ (fun _ _ _ _ _ => True.intro) ?_ ?_
    · rintro i x σ _ Hx hi ⟨y4, y5, tss, rfl, ra, lt, ne, sks, nod, xbx, srcx⟩ ⟨rfl, hx⟩
      obtain rfl : x = .int (i : Int) := hx.trans (congrArg V.int (Int.zero_add _))
      have hi2 : i < (1 + r).toNat := hi
      dsimp only [gName]
      refine ⟨_, rfl, _, rfl, s, l, ns, rfl, srcx, tup_xb hs hl xbx, ok, bn, fun q ps Hy nq hq sk xby srcy => ?_⟩
      obtain ⟨zs, z1, z2⟩ := ra
      have z1y := xby _ _ fs z1
      have z2y := z2.monoT fun _ _ z => tup_xb srcx z xby
      dsimp only [gName]
      refine ⟨_, rfl, _, rfl, iT ps, tss.map iT, dp_ints hq, .lst (SqL.of z1y) z2y.dp, (sh_ints (n := 59) _).ok, (sh_rows (n := 58) _).ok, ?_⟩
      rw [any_rows]
      refine ⟨_, rfl, ?_⟩
      by_cases c : ps ∈ tss
      · exact itf (by rw [decide_eq_true c]; rfl) ⟨_, _, tss, rfl, ⟨zs, z1y, z2y⟩, by omega, fun _ z => (by rw [z] at c; cases c), sks, nod, xbx.trans xby, srcy⟩
      · refine itt (by rw [decide_eq_false c]; rfl) ⟨_, rfl, .inl ⟨rfl, _, SqL.of z1y⟩, _, rfl, f, _, _, rfl, rfl, z1y, ?_, ?_⟩
        · rw [Paired.length z2]
          exact Nat.lt_of_le_of_lt (show tss.length ≤ 1000 by omega) (by decide)
        refine ⟨_, _, tss ++ [ps], rfl, ⟨zs ++ [.ref q], upd_same, RowsR.snoc (tup_pshL z1y hq) (z2y.monoT fun c zs z => tup_pshL z1y z)⟩, by rw [List.length_append]; show tss.length + 1 ≤ i + 1; omega, fun _ => by simp, fun t ht => ?_, ?_, (xbx.trans xby).app nf, srcy.app fs⟩
        · rcases List.mem_append.mp ht with h | h
          · exact sks t h
          · rw [List.mem_singleton.mp h]
            exact sk
        · rw [List.nodup_append]
          exact ⟨nod, by simp, fun a ha b hb z => c (by rw [List.mem_singleton.mp hb] at z; exact z ▸ ha)⟩
    · rintro σ Hx ⟨y4, y5, tss, rfl, ra, lt, ne, sks, nod, xbx, srcx⟩
      have lt2 : tss.length ≤ (1 + r).toNat := lt
      exact ⟨_, rfl, k f tss Hx ra nf fs (ne (by show 1 ≤ (1 + r).toNat; omega)) (by omega) sks nod xbx srcx⟩
def sp_law_list_words : Sp := fun vs H Q _ => ∃ (s : Addr) (b : Int), vs = [.ref s, .int b] ∧ Src H s ∧ 1 ≤ b ∧ b ≤ 100 ∧
  ∀ (q : Addr) (bs : List Bool) H2, H2 q = some (.lst (bs.map fun b => V.str (awayW b))) → H q = none → q ≠ s → bs ≠ [] → (bs.length : Int) ≤ b → XB s H H2 → Src H2 s → Q (.ref q) H2
theorem ok_law_list_words (T : TX K mg) : FnOk P w K mg base CX0 3 T.f_law_list_words T.fd_law_list_words ["_law_source_here", "_law_bound"] sp_law_list_words := by
  refine T.F_law_list_words.ok sc_law_list_words (fun vs H Q E h => ?_) (fun cdv A outer s H vs Q E hr h => ?_)
  · obtain ⟨s, b, rfl, _⟩ := h
    rfl
  · obtain ⟨s, b, rfl, hs, b1, b2, k⟩ := h
    refine ⟨_, (pss_one (ps_ret (pe_lc (own := [("_law_k", 2)]) (g := (gName 2)) rfl sc_law_list_words.nd (pi_range1 rfl T.z_range (pa_cons (pe_op op_add pe_int (pe_call (ok_law_take T) (hr.mono (by decide)) rfl T.m_law_take T.F_law_take.kp T.b_law_take .nil pass0 (pa_cons (pv 0) (pa_cons (pv 1) pa_nil)))) pa_nil)) (blkOk_by (N := N_law_list_words) (sc := defScope s_law_list_words) (by decide +kernel)) (fun _ _ _ _ _ => (pg_name (i := 2) sc_law_list_words.nd rfl (Or.inl rfl))) (fun _ _ _ _ _ => pts_nil) (fun _ _ _ _ _ => (pe_call (ok_law_pickV T) (hr.mono (by decide)) rfl T.m_law_pick T.F_law_pick.kp T.b_law_pick .nil pass0 (pa_cons (pv 0) (pa_cons (pe_lst (pa_cons pe_str (pa_cons pe_str pa_nil))) pa_nil))))))), ?_⟩
    refine ⟨_, rfl, _, rfl, s, b, rfl, hs, by omega, Nat.lt_of_le_of_lt (show b.natAbs ≤ 100 by omega) (by decide +kernel), fun r H1 r0 r1 xb1 src1 => ?_⟩
    refine ⟨_, _, rfl, rfl, _, rfl, by omega, by omega, fun D hD => ?_⟩
    have Ds : D ≠ s := src1.ne hD
    have nD : H D = none := XB.back xb1 Ds hD
    refine lc_it walk_range (fun i Hx => ∃ bs : List Bool, Hx D = some (.lst (bs.map fun b => V.str (awayW b))) ∧ bs.length = i ∧ XB s H Hx ∧ Src Hx s) ⟨[], upd_same, rfl, xb1.trans (XB.of (exn hD)), src1.mono (exn hD)⟩ (fun _ _ _ _ => True.intro) ?_ ?_
    · rintro i x _ Hx hi ⟨bs, hbs, lb, xb, src⟩ ⟨rfl, hx⟩
      have hi2 : i < (1 + r).toNat := hi
      refine ⟨rfl, _, rfl, slen rfl, ?_⟩
      (intro al nal; generalize hGal : upd _ al _ = Hy; have eHy := exG hGal nal; have hal := atG hGal; clear hGal)
      refine ⟨s, al, [V.str "forward", V.str "backward"], rfl, src.mono eHy, hal, src.ne nal, by simp, by simp, fun j y Hz hj xbz srcz => ?_⟩
      have hbz := xbz _ _ Ds (eHy _ _ hbs)
      obtain ⟨c, rfl⟩ : ∃ c : Bool, y = V.str (awayW c) := by
        match j, hj with
        | 0, hj =>
          cases hj
          exact ⟨false, rfl⟩
        | 1, hj =>
          cases hj
          exact ⟨true, rfl⟩
      refine ⟨_, hbz, ?_, bs ++ [c], by rw [upd_same, List.map_append]; rfl, by rw [List.length_append, lb]; rfl, (xb.trans ((XB.of eHy).trans xbz)).app nD, srcz.app Ds⟩
      rw [List.length_map, lb]
      exact Nat.lt_of_le_of_lt (show i ≤ 100 by omega) (by decide)
    · rintro Hx ⟨bs, hbs, lb, xb, src⟩
      have lb2 : bs.length = (1 + r).toNat := lb
      exact k D bs Hx hbs nD Ds (fun z => by rw [z] at lb2; simp at lb2; omega) (by omega) xb src
def sp_law_rings_any : Sp := fun vs H Q _ => ∃ (s : Addr), vs = [.ref s] ∧ Src H s ∧
  ∀ (q : Addr) (ns : List Int) H2, H2 q = some (.tup (ns.map V.int)) → H q = none → SzOk ns → (∀ n ∈ ns, n ≤ 10 ^ 30) → XB s H H2 → Src H2 s → Q (.ref q) H2
theorem ok_law_rings_any (T : TX K mg) : FnOk P w K mg base CX0 3 T.f_law_rings_any T.fd_law_rings_any ["_law_source_here"] sp_law_rings_any := by
  refine T.F_law_rings_any.ok sc_law_rings_any (fun vs H Q E h => ?_) (fun cdv A outer s H vs Q E hr h => ?_)
  · obtain ⟨s, rfl, _⟩ := h
    rfl
  · obtain ⟨s, rfl, hs, k⟩ := h
    refine ⟨_, (pss_cons (ps_set (i := 1) sc_law_rings_any.nd rfl (Or.inr rfl) (pe_call (ok_law_pick T) hr rfl T.m_law_pick T.F_law_pick.kp T.b_law_pick .nil pass0 (pa_cons (pv 0) (pa_cons (pe_lst (pa_cons pe_int (pa_cons pe_int (pa_cons pe_int (pa_cons (pe_op op_pow pe_int pe_int) pa_nil))))) pa_nil)))) (pss_one (ps_ret (pe_callTy call_tuple_of (by rfl) T.z_tuple (by decide +kernel) (pa_cons (pe_lc (own := [("_law_k", 2)]) (g := (gName 2)) rfl sc_law_rings_any.nd (pi_range1 rfl T.z_range (pa_cons (pe_op op_add pe_int (pe_call (ok_law_take T) (hr.mono (by decide)) rfl T.m_law_take T.F_law_take.kp T.b_law_take .nil pass0 (pa_cons (pv 0) (pa_cons pe_int pa_nil)))) pa_nil)) (blkOk_by (N := N_law_rings_any) (sc := defScope s_law_rings_any) (by decide +kernel)) (fun _ _ _ _ _ => (pg_name (i := 2) sc_law_rings_any.nd rfl (Or.inl rfl))) (fun _ _ _ _ _ => pts_nil) (fun _ _ _ _ _ => (pe_op op_add pe_int (pe_call (ok_law_take T) (hr.mono (by decide)) rfl T.m_law_take T.F_law_take.kp T.b_law_take .nil pass0 (pa_cons (pv 0) (pa_cons (pv 1) pa_nil)))))) pa_nil))))), ?_⟩
    (repeat (first | refine ⟨rfl, ?_⟩ | refine ⟨_, rfl, ?_⟩ | refine ⟨_, _, rfl, rfl, ?_⟩ | refine ⟨_, _, rfl, ?_⟩ | refine ⟨slen rfl, ?_⟩ | refine ⟨⟨by decide, by decide +kernel⟩, ?_⟩ | refine ⟨⟨by decide, by decide, by decide⟩, ?_⟩ | refine ⟨(by show (0 : Int) < _; first | decide | assumption | omega), ?_⟩ | refine ⟨mul_ok (by first | exact .inr (by decide) | exact .inl (by decide)), ?_⟩))
    (intro al nal; generalize hGal : upd _ al _ = H1; have eH1 := exG hGal nal; have hal := atG hGal; clear hGal)
    refine ⟨s, al, [3, 6, 40, 10 ^ (30 : Int).toNat], rfl, hs.mono eH1, hal, hs.ne nal, by simp, by simp, fun wd H2 hM xb2 src2 => ?_⟩
    have wb : 3 ≤ wd ∧ wd ≤ 10 ^ 30 := by
      simp only [List.mem_cons, List.not_mem_nil, or_false] at hM
      rcases hM with rfl | rfl | rfl | rfl
      all_goals decide
    dsimp only [gName]
    have xb02 : XB s H H2 := (XB.of eH1).trans xb2
    refine ⟨_, rfl, s, 4, rfl, src2, by decide, by decide +kernel, fun r H3 r0 r1 xb3 src3 => ?_⟩
    refine ⟨_, _, rfl, rfl, _, rfl, by omega, by omega, fun D hD => ?_⟩
    have Ds : D ≠ s := src3.ne hD
    have nD : H D = none := XB.back (xb02.trans xb3) Ds hD
    refine lc_it walk_range (fun i Hx => ∃ ns : List Int, Hx D = some (.lst (ns.map V.int)) ∧ ns.length = i ∧ (∀ n ∈ ns, 1 ≤ n ∧ n ≤ 10 ^ 30) ∧ XB s H Hx ∧ Src Hx s) ⟨[], upd_same, rfl, (fun n hn => nomatch hn), (xb02.trans xb3).trans (XB.of (exn hD)), src3.mono (exn hD)⟩ (fun _ _ _ _ => True.intro) ?_ ?_
    · rintro i x _ Hx hi ⟨ns, hns, ln, nb, xb, src⟩ ⟨rfl, hx⟩
      have hi2 : i < (1 + r).toNat := hi
      refine ⟨rfl, _, rfl, _, rfl, s, wd, rfl, src, by omega, Nat.lt_of_le_of_lt (show wd.natAbs ≤ 10 ^ 30 by omega) (by decide +kernel), fun r2 Hy r20 r21 xby srcy => ?_⟩
      refine ⟨_, _, rfl, rfl, _, xby _ _ Ds hns, ?_, ns ++ [1 + r2], by rw [upd_same, List.map_append]; rfl, by rw [List.length_append, ln]; rfl, fun n hn => ?_, (xb.trans xby).app nD, srcy.app Ds⟩
      · rw [List.length_map, ln]
        exact Nat.lt_of_le_of_lt (show i ≤ 100 by omega) (by decide)
      · rcases List.mem_append.mp hn with h | h
        · exact nb n h
        · rw [List.mem_singleton.mp h]
          omega
    · rintro Hx ⟨ns, hns, ln, nb, xb, src⟩
      have ln2 : ns.length = (1 + r).toNat := ln
      refine ⟨D, _, rfl, .inl ⟨SqL.of hns, fun q hq => ?_⟩⟩
      have nq := src.ne hq
      exact k q ns _ upd_same (xb.back nq hq) ⟨fun z => by rw [z] at ln2; simp at ln2; omega, by omega, fun n hn => (nb n hn).1⟩ (fun n hn => (nb n hn).2) (xb.trans (XB.of (exn hq))) (src.new hq)
/-- of items that are data, whatever is drawn -/
def DataIn (K : PySem.W.Frag) (s : Addr) (H : Hp) (xs : List V) : Prop := ∀ H2, XB s H H2 → ∀ ys : List V, (∀ y ∈ ys, y ∈ xs) → ∃ ds, DpAll K H2 ys ds ∧ ∀ d ∈ ds, Sh 59 d
theorem DataIn.ints {K : PySem.W.Frag} {s : Addr} {H : Hp} (is : List Int) : DataIn K s H (is.map V.int) := fun H2 _ ys => by
  induction ys with
  | nil => exact fun _ => ⟨[], .nil, fun d hd => nomatch hd⟩
  | cons y ys ih =>
    intro h
    obtain ⟨ds, h1, h2⟩ := ih fun z hz => h z (List.mem_cons_of_mem _ hz)
    obtain ⟨i, _, e⟩ := List.mem_map.mp (h y List.mem_cons_self)
    subst e
    exact ⟨.int i :: ds, .cons (.int i) h1, fun d hd => by
      rcases List.mem_cons.mp hd with rfl | hd
      · exact sh_int _
      · exact h2 d hd⟩
theorem DataIn.rows {K : PySem.W.Frag} {s : Addr} {H : Hp} {xs : List V} {tss : List (List Int)} (src : Src H s) (rr : RowsR H xs tss) : DataIn K s H xs := fun H2 xb ys => by
  induction ys with
  | nil => exact fun _ => ⟨[], .nil, fun d hd => nomatch hd⟩
  | cons y ys ih =>
    intro h
    obtain ⟨ds, h1, h2⟩ := ih fun z hz => h z (List.mem_cons_of_mem _ hz)
    obtain ⟨i, hi⟩ := List.mem_iff_getElem?.mp (h y List.mem_cons_self)
    obtain ⟨p, r, hp, e, hr⟩ := rr.get hi
    subst e
    exact ⟨iT p :: ds, .cons (dp_ints (tup_xb src hr xb)) h1, fun d hd => by
      rcases List.mem_cons.mp hd with rfl | hd
      · exact sh_ints _
      · exact h2 d hd⟩
theorem DataIn.ne {K : PySem.W.Frag} {H : Hp} {ys : List V} {ds : List PyData} (h : DpAll K H ys ds) : (!PyData.eqv (.list ds) (.list [])) = decide (ys ≠ []) := by
  cases h with
  | nil => simp [PyData.eqv, PyData.eqvAll]
  | cons _ _ => simp [PyData.eqv, PyData.eqvAll]
def sp_law_shuffled (K : PySem.W.Frag) : Sp := fun vs H Q _ => ∃ (s l : Addr) (xs : List V), vs = [.ref s, .ref l] ∧ Src H s ∧ H l = some (.lst xs) ∧ l ≠ s ∧ xs.length ≤ 1000 ∧ DataIn K s H xs ∧
  ∀ (q : Addr) (ys : List V) H2, H q = none → H2 q = some (.lst ys) → ys.Perm xs → XB s H H2 → Src H2 s → Q (.ref q) H2
theorem ok_law_shuffled (T : TX K mg) : FnOk P w K mg base CX0 2 T.f_law_shuffled T.fd_law_shuffled ["_law_source_here", "_law_items"] (sp_law_shuffled K) := by
  refine T.F_law_shuffled.ok sc_law_shuffled (fun vs H Q E h => ?_) (fun cdv A outer s H vs Q E hr h => ?_)
  · obtain ⟨s, l, is, rfl, _⟩ := h
    rfl
  · obtain ⟨s, l, xs, rfl, hs, hl, nls, ll, hdt, k⟩ := h
    refine ⟨_, (pss_cons (ps_par (i := 2) (j := 3) rfl sc_law_shuffled.nd rfl rfl (by decide) rfl rfl (pa_cons (pe_callTy call_list_of (by rfl) T.z_list (by decide +kernel) (pa_cons (pv 1) pa_nil)) (pa_cons (pe_lst pa_nil) pa_nil)) (by rfl)) (pss_cons (ps_while PassesOwn.never (pt_cmpR (r := rNeD K) (op_neD hr.units) (pv 2) (pe_lst pa_nil) (nomark _)) (pss_one (ps_expr (pe_bm PySem.F.plainAttrs_list PySem.F.slot_list_append PySem.F.type_list_append mt_append (pv 3) (pa_cons (pe_bm PySem.F.plainAttrs_list PySem.F.slot_list_pop PySem.F.type_list_pop mt_popAt (pv 2) (pa_cons (pe_call (ok_law_take T) hr rfl T.m_law_take T.F_law_take.kp T.b_law_take .nil pass0 (pa_cons (pv 0) (pa_cons (pe_callB call_len_seq (by rfl) T.z_len (by decide +kernel) (pa_cons (pv 2) pa_nil)) pa_nil))) pa_nil)) pa_nil))))) (pss_one (ps_ret (pv 3))))), ?_⟩
    refine ⟨_, rfl, l, xs, rfl, .inl (SqL.of hl), fun pl hpl => ?_⟩
    generalize hG : upd H pl _ = H1
    have e1 := exG hG hpl
    have hp1 := atG hG
    clear hG
    refine ⟨slen rfl, ?_⟩
    (intro f nf; generalize hGf : upd _ f _ = H2; have eH2 := exG hGf nf; have hf := atG hGf; clear hGf)
    have nf0 : H f = none := Evl.fresh_back e1 nf
    have E2 := ext e1 eH2
    have nfs : f ≠ s := hs.ne nf0
    have nps : pl ≠ s := hs.ne hpl
    have npf : pl ≠ f := ne_of_none hp1 nf
    refine ⟨_, _, rfl, ?_⟩
    dsimp only
    refine ⟨fun m σ Hx => ∃ ys fs : List V, σ = [some (.ref s), some (.ref l), some (.ref pl), some (.ref f)] ∧ Hx pl = some (.lst ys) ∧ Hx f = some (.lst fs) ∧ (ys ++ fs).Perm xs ∧ XB s H Hx ∧ Src Hx s ∧ m = ys.length,
      ⟨_, xs, [], rfl, eH2 _ _ hp1, hf, by rw [List.append_nil], XB.of E2, hs.mono E2, rfl⟩, ?_⟩
    rintro m σ Hx ⟨ys, fs, rfl, hpx, hfx, pm, xbx, srcx, rfl⟩
    have lall : ys.length + fs.length = xs.length := by
      rw [← List.length_append]
      exact pm.length_eq
    refine ⟨_, rfl, slen rfl, ?_⟩
    (intro el nel; generalize hGel : upd _ el _ = H3; have eH3 := exG hGel nel; have hel := atG hGel; clear hGel)
    have xb3 := xbx.trans (XB.of eH3)
    obtain ⟨ds, hd1, hd2⟩ := hdt H3 xb3 ys fun y hy => pm.mem_iff.mp (List.mem_append_left _ hy)
    refine ⟨.list ds, .list [], .lst (SqL.of (eH3 _ _ hpx)) hd1, .lst (SqL.of hel) .nil, (sh_list hd2).ok, (sh_list (n := 59) (ds := []) (fun d hd => nomatch hd)).ok, _, rfl, ?_⟩
    rw [DataIn.ne hd1]
    by_cases c : ys = []
    · subst c
      exact itf (by simp) ⟨_, rfl, k f fs _ nf0 (eH3 _ _ hfx) pm xb3 (srcx.mono eH3)⟩
    refine itt (decide_eq_true c) ⟨_, fun _ _ h => h, ?_⟩
    have apos := List.length_pos_iff.mpr c
    have hf3 := eH3 _ _ hfx
    have hp3 := eH3 _ _ hpx
    have src3 := srcx.mono eH3
    refine ⟨_, rfl, .inl ⟨rfl, _, SqL.of hf3⟩, _, rfl, .inl ⟨rfl, _, SqL.of hp3⟩, _, rfl, _, rfl, pl, ys, rfl, .inl (SqL.of hp3), s, (ys.length : Int), rfl, src3, by omega, Nat.lt_of_le_of_lt (show _ ≤ 1000 by omega) (by decide +kernel), fun r2 H4 r20 r21 xb4 src4 => ?_⟩
    have hp4 := xb4 _ _ nps hp3
    have hf4 := xb4 _ _ nfs hf3
    have ily : r2.toNat < ys.length := by omega
    refine ⟨pl, ys, r2, r2.toNat, ys[r2.toNat], rfl, rfl, hp4, by omega, by omega, seqIx r20 r21 (Nat.lt_of_le_of_lt (show ys.length ≤ 1000 by omega) (by decide)), List.getElem?_eq_getElem ily, ?_⟩
    have hf5 : upd H4 pl (.lst (ys.eraseIdx r2.toNat)) f = some (.lst fs) := by
      rw [upd_ne (Ne.symm npf)]
      exact hf4
    refine ⟨f, _, _, rfl, rfl, hf5, ?_, ?_⟩
    · exact Nat.lt_of_le_of_lt (show fs.length ≤ 1000 by omega) (by decide)
    refine ⟨(ys.eraseIdx r2.toNat).length, by rw [List.length_eraseIdx_of_lt ily]; omega, ys.eraseIdx r2.toNat, fs ++ [ys[r2.toNat]], rfl, ?_, upd_same, ?_, ((xb3.trans xb4).app hpl).app nf0, (src4.app nps).app nfs, rfl⟩
    · rw [upd_ne npf, upd_same]
    · refine List.Perm.trans ?_ pm
      rw [← List.append_assoc]
      refine List.Perm.trans (List.perm_append_comm) ?_
      show ((ys[r2.toNat] :: ys.eraseIdx r2.toNat) ++ fs).Perm _
      exact (erase_perm ily).append_right fs
end

theorem modL_len {ns c : List Int} (h : c.length = ns.length) : (modL ns c).length = ns.length := by
  unfold modL
  rw [List.length_zipWith]
  omega
theorem ix_mod {α : Type} {xs : List α} {vs : List V} (i : Nat) (ne : xs ≠ []) (l : vs.length = xs.length) : ∃ (x : α) (v : V), xs[i % xs.length]? = some x ∧ vs[i % xs.length]? = some v ∧ L2.atI vs (((i % xs.length : Nat) : Int)) = some v := by
  have lp : 0 < xs.length := List.length_pos_iff.mpr ne
  have il : i % xs.length < xs.length := Nat.mod_lt _ lp
  exact ⟨xs[i % xs.length], vs[i % xs.length]'(by omega), List.getElem?_eq_getElem il, List.getElem?_eq_getElem (by omega), L2.atI_nat (List.getElem?_eq_getElem (by omega))⟩
theorem notin_rowsD {K : PySem.W.Frag} {H : Hp} {r g : Addr} {ps : List Int} {tss : List (List Int)} {Q : VK} (hx : H r = some (.tup (ps.map V.int))) (hq : RowsAt H g tss) (k : Q (.bl (!decide (ps ∈ tss))) H) : rNotInD K (.ref r) (.ref g) H Q := by
  obtain ⟨xs, h1, h2⟩ := hq
  exact ⟨iT ps, tss.map iT, dp_ints hx, .lst (SqL.of h1) h2.dp, (sh_ints (n := 59) _).ok, (sh_rows (n := 58) _).ok, by rw [any_rows]; exact k⟩
theorem in_rowsD {K : PySem.W.Frag} {H : Hp} {r g : Addr} {ps : List Int} {tss : List (List Int)} {Q : VK} (hx : H r = some (.tup (ps.map V.int))) (hq : RowsAt H g tss) (k : Q (.bl (decide (ps ∈ tss))) H) : rInD K (.ref r) (.ref g) H Q := by
  obtain ⟨xs, h1, h2⟩ := hq
  exact ⟨iT ps, tss.map iT, dp_ints hx, .lst (SqL.of h1) h2.dp, (sh_ints (n := 59) _).ok, (sh_rows (n := 58) _).ok, by rw [any_rows]; exact k⟩
section
variable {P : Program} {w : World} {K : PySem.W.Frag} {mg : Str → Option Value} {base : Heap}
def sp_law_game : Sp := fun vs H Q _ => ∃ (t g s cl wl : Addr) (lim : Nat) (ns ps : List Int) (tss css : List (List Int)) (bs : List Bool), vs = [.ref t, .ref g, .ref s, .ref cl, .ref wl, .int (lim : Int)] ∧ H t = some (.tup (ns.map V.int)) ∧ SzOk ns ∧ RowsAt H g tss ∧ H s = some (.tup (ps.map V.int)) ∧ SeatOk ns ps ∧ RowsAt H cl css ∧ css ≠ [] ∧ css.length ≤ 1000 ∧ (∀ c ∈ css, c.length = ns.length) ∧ H wl = some (.lst (wordsV bs)) ∧ bs ≠ [] ∧ bs.length ≤ 1000 ∧ lim ≤ 1000 ∧
  ∀ (r f h : Addr) (xs ys : List V) H2, Ex H H2 → H2 r = some (.tup [.ref f, .ref h, .str (if decide ((course ns tss (.calls css) (.words bs) 0 lim ps).2.getLastD [] ∈ tss) = true then "reached" else "open")]) → H2 f = some (.lst xs) → MvsR H2 xs (course ns tss (.calls css) (.words bs) 0 lim ps).1 → H2 h = some (.lst ys) → RowsR H2 ys (course ns tss (.calls css) (.words bs) 0 lim ps).2 → H f = none → H h = none → Q (.ref r) H2
theorem ok_law_game (T : TX K mg) : FnOk P w K mg base CX0 2 T.f_law_game T.fd_law_game ["_law_rings", "_law_goals_here", "_law_spot", "_law_called", "_law_words", "_law_limit_at"] sp_law_game := by
  refine T.F_law_game.ok sc_law_game (fun vs H Q E h => ?_) (fun cdv A outer s H vs Q E hr h => ?_)
  · obtain ⟨t, g, s, cl, wl, lim, ns, ps, tss, css, bs, rfl, _⟩ := h
    rfl
  · obtain ⟨t, g, s, cl, wl, lim, ns, ps, tss, css, bs, rfl, htq, ok, hq, hs, sk, hcl, cne, lcs, ccc, hwl, bne, lbs, ll, k⟩ := h
    refine ⟨_, (pss_cons (ps_par (i := 6) (j := 7) rfl sc_law_game.nd rfl rfl (by decide) rfl rfl (pa_cons (pe_lst pa_nil) (pa_cons (pe_lst (pa_cons (pv 2) pa_nil)) pa_nil)) (by rfl)) (pss_cons (ps_while PassesOwn.never (PW.pt (pw_and (pt_cmpR (r := rNotInD K) (op_notInD (u65 hr)) (pe_ix ix_list (pv 7) (pe_un un_neg pe_int) (fun _ _ => rfl)) (pv 1) rfl) (pw_and1 (pt_cmpR op_lt (pe_callB call_len_seq (by rfl) T.z_len (by decide +kernel) (pa_cons (pv 6) pa_nil)) (pv 5) (nomark _))))) (pss_cons (ps_set (i := 8) sc_law_game.nd rfl (Or.inl rfl) (pe_callB call_len_seq (by rfl) T.z_len (by decide +kernel) (pa_cons (pv 6) pa_nil))) (pss_cons (ps_set (i := 9) sc_law_game.nd rfl (Or.inl rfl) (pe_callTy call_tuple_of (by rfl) T.z_tuple (by decide +kernel) (pa_cons (pe_lc (own := [("_law_one", 11), ("_law_size", 12)]) (g := (gTup K 2 (gCons (gName 11) (gCons (gName 12) gNil)))) rfl sc_law_game.nd (CZ.pi_z2 (fl := [true, true]) rfl (by rfl) T.z_zip (pa_cons (pe_ix ix_list (pv 3) (pe_op op_mod (pe_callTy call_int1 (by rfl) T.z_int (by decide +kernel) (pa_cons (pv 8) pa_nil)) (pe_callB call_len_seq (by rfl) T.z_len (by decide +kernel) (pa_cons (pv 3) pa_nil))) (fun _ _ => rfl)) (pa_cons (pv 0) pa_nil))) (blkOk_by (N := N_law_game) (sc := defScope s_law_game) (by decide +kernel)) (fun _ _ _ _ _ => (pg_tup rfl (pgs_cons (pg_name (i := 11) sc_law_game.nd rfl (Or.inl rfl)) (pgs_cons (pg_name (i := 12) sc_law_game.nd rfl (Or.inl rfl)) pgs_nil)))) (fun _ _ _ _ _ => pts_nil) (fun _ _ _ _ _ => (pe_op op_mod (pe_callTy call_int1 (by rfl) T.z_int (by decide +kernel) (pa_cons (pv 11) pa_nil)) (pv 12)))) pa_nil))) (pss_cons (ps_set (i := 10) sc_law_game.nd rfl (Or.inl rfl) (pe_ix ix_list (pv 4) (pe_op op_mod (pe_callTy call_int1 (by rfl) T.z_int (by decide +kernel) (pa_cons (pv 8) pa_nil)) (pe_callB call_len_seq (by rfl) T.z_len (by decide +kernel) (pa_cons (pv 4) pa_nil))) (fun _ _ => rfl))) (pss_cons (ps_expr (pe_bm PySem.F.plainAttrs_list PySem.F.slot_list_append PySem.F.type_list_append mt_append (pv 6) (pa_cons (pe_tup (pa_cons (pv 9) (pa_cons (pv 10) pa_nil))) pa_nil))) (pss_one (ps_expr (pe_bm PySem.F.plainAttrs_list PySem.F.slot_list_append PySem.F.type_list_append mt_append (pv 7) (pa_cons (pe_call (ok_law_moved T) hr rfl T.m_law_moved T.F_law_moved.kp T.b_law_moved .nil pass0 (pa_cons (pv 0) (pa_cons (pe_ix ix_list (pv 7) (pe_un un_neg pe_int) (fun _ _ => rfl)) (pa_cons (pv 9) (pa_cons (pe_call (ok_law_sign T) hr rfl T.m_law_sign T.F_law_sign.kp T.b_law_sign .nil pass0 (pa_cons (pv 10) pa_nil)) pa_nil))))) pa_nil))))))))) (pss_one (ps_ret (pe_tup (pa_cons (pv 6) (pa_cons (pv 7) (pa_cons (pe_ix ix_list (pe_lst (pa_cons pe_str (pa_cons pe_str pa_nil))) (pe_callTy call_int1 (by rfl) T.z_int (by decide +kernel) (pa_cons (pe_cmpR (r := rInD K) (op_inD (u65 hr)) (pe_ix ix_list (pv 7) (pe_un un_neg pe_int) (fun _ _ => rfl)) (pv 1) rfl) pa_nil)) (fun _ _ => rfl)) pa_nil)))))))), ?_⟩
    have l4 := ok.le
    have lp := sk.len
    refine ⟨slen rfl, ?_⟩
    (intro f nf; generalize hGf : upd _ f _ = H6; have eH6 := exG hGf nf; have hf := atG hGf; clear hGf)
    refine ⟨_, rfl, slen rfl, ?_⟩
    (intro hl nhl; generalize hGhl : upd _ hl _ = H7; have eH7 := exG hGhl nhl; have hhl := atG hGhl; clear hGhl)
    refine ⟨_, _, rfl, ?_⟩
    have E7 : Ex H H7 := ext eH6 eH7
    have nf0 : H f = none := nf
    have nh0 : H hl = none := Evl.fresh_back eH6 nhl
    have nfh : f ≠ hl := ne_of_none hf nhl
    refine ⟨fun m σ Hx => ∃ (i : Nat) (p : List Int) (rl : Addr) (xs ys : List V) (ms : List (List Int × Bool)) (hs : List (List Int)) (y8 y9 y10 y11 y12 : Option V), σ = [some (.ref t), some (.ref g), some (.ref s), some (.ref cl), some (.ref wl), some (.int (lim : Int)), some (.ref f), some (.ref hl), y8, y9, y10, y11, y12] ∧ Ex H Hx ∧ Hx f = some (.lst xs) ∧ MvsR Hx xs ms ∧ ms.length = i ∧ Hx hl = some (.lst (ys ++ [.ref rl])) ∧ RowsR Hx ys hs ∧ Hx rl = some (.tup (p.map V.int)) ∧ hs.length = i ∧ SeatOk ns p ∧ i ≤ lim ∧ ms ++ (course ns tss (.calls css) (.words bs) i (lim - i) p).1 = (course ns tss (.calls css) (.words bs) 0 lim ps).1 ∧ hs ++ (course ns tss (.calls css) (.words bs) i (lim - i) p).2 = (course ns tss (.calls css) (.words bs) 0 lim ps).2 ∧ m = lim - i,
      ⟨lim, 0, ps, s, [], [], [], [], _, _, _, _, _, rfl, E7, eH7 _ _ hf, .nil, rfl, hhl, .nil, E7 _ _ hs, rfl, sk, by omega, rfl, rfl, rfl⟩, ?_⟩
    rintro m σ Hx ⟨i, p, rl, xs, ys, ms, hs', y8, y9, y10, y11, y12, rfl, ex, hfx, mr, lm, hhx, rr, hrl, lh, skp, il, c1, c2, rfl⟩
    have lxs : xs.length = i := (Paired.length mr).trans lm
    have hqx : RowsAt Hx g tss := hq.mono ex
    have fin : ∀ (b : Bool), b = decide (p ∈ tss) → course ns tss (.calls css) (.words bs) i (lim - i) p = ([], [p]) → ∀ (r : Addr) H2, Ex Hx H2 → H2 r = some (.tup [.ref f, .ref hl, .str (if b = true then "reached" else "open")]) → Q (.ref r) H2 := by
      intro b hb hc r H2 e2 hr2
      rw [hc, List.append_nil] at c1
      rw [hc] at c2
      have cl : (course ns tss (.calls css) (.words bs) 0 lim ps).2.getLastD [] = p := by rw [← c2]; simp
      rw [← c1, ← c2] at k
      rw [← c2] at cl
      rw [cl, ← hb] at k
      exact k r f hl xs _ _ (ext ex e2) hr2 (e2 _ _ hfx) (mr.mono e2) (e2 _ _ hhx) ((RowsR.snoc hrl rr).mono e2) nf0 nh0
    refine ⟨_, rfl, _, rfl, hl, _, _, _, rfl, rfl, SqL.of hhx, L2.atI_last _ _, _, rfl, notin_rowsD hrl hqx ⟨_, rfl, ?_⟩⟩
    by_cases c : p ∈ tss
    · refine itf (by simp [c]) ?_
      have fin := fin true (decide_eq_true c).symm (course_stop (.inl c))
      refine ⟨_, rfl, _, rfl, slen rfl, ?_⟩
      (intro ol nol; generalize hGol : upd _ ol _ = Hy; have eHy := exG hGol nol; have hol := atG hGol; clear hGol)
      refine ⟨_, rfl, _, rfl, hl, _, _, _, rfl, rfl, SqL.of (eHy _ _ hhx), L2.atI_last _ _, _, rfl, in_rowsD (eHy _ _ hrl) (hqx.mono eHy) (.inr ⟨_, rfl, ol, _, _, .str "reached", rfl, rfl, SqL.of hol, by rw [decide_eq_true c]; rfl, ?_⟩)⟩
      refine ⟨slen rfl, ?_⟩
      (intro rt nrt; generalize hGrt : upd _ rt _ = Hz; have eHz := exG hGrt nrt; have hrt := atG hGrt; clear hGrt)
      exact fin rt Hz (ext eHy eHz) hrt
    refine itt (by simp [c]) ?_
    refine ⟨_, rfl, f, _, rfl, .inl (SqL.of hfx), _, rfl, _, _, rfl, rfl, _, rfl, ?_⟩
    by_cases c3 : i = lim
    · refine itf (by rw [lxs, c3]; simp) ?_
      have fin := fin false (decide_eq_false c).symm (course_stop (.inr (by omega)))
      refine ⟨_, rfl, _, rfl, slen rfl, ?_⟩
      (intro ol nol; generalize hGol : upd _ ol _ = Hy; have eHy := exG hGol nol; have hol := atG hGol; clear hGol)
      refine ⟨_, rfl, _, rfl, hl, _, _, _, rfl, rfl, SqL.of (eHy _ _ hhx), L2.atI_last _ _, _, rfl, in_rowsD (eHy _ _ hrl) (hqx.mono eHy) (.inr ⟨_, rfl, ol, _, _, .str "open", rfl, rfl, SqL.of hol, by rw [decide_eq_false c]; rfl, ?_⟩)⟩
      refine ⟨slen rfl, ?_⟩
      (intro rt nrt; generalize hGrt : upd _ rt _ = Hz; have eHz := exG hGrt nrt; have hrt := atG hGrt; clear hGrt)
      exact fin rt Hz (ext eHy eHz) hrt
    refine itt (by rw [lxs]; simp; omega) ⟨_, fun _ _ h => h, ?_⟩
    obtain ⟨czs, hcz, rcz⟩ := hcl.mono ex
    have lcz : czs.length = css.length := rcz.len
    obtain ⟨c0, v0, hc0, hv0, hat⟩ := ix_mod i cne lcz
    obtain ⟨c0', q0, hc0', rfl, hq0⟩ := rcz.get hv0
    obtain rfl : c0' = c0 := Option.some.inj (hc0'.symm.trans hc0)
    have lc0 := ccc c0' (List.mem_of_getElem? hc0)
    have eix : ∀ n : Nat, n = css.length → ((xs.length : Nat) : Int) % (n : Int) = ((i % css.length : Nat) : Int) := fun n hn => by
      rw [lxs, hn]
      rfl
    refine ⟨_, rfl, f, _, rfl, .inl (SqL.of hfx), ?_⟩
    dsimp only [gName]
    show tSeq _ _ _ [_, _, _, _, _, _, _, _, _, _, _, _, _] _
    have cpos : (0 : Int) < (czs.length : Int) := by
      have := List.length_pos_iff.mpr cne
      omega
    refine ⟨_, rfl, _, rfl, .inl ⟨_, rfl, _, rfl, cl, _, rfl, .inl (SqL.of hcz), _, _, rfl, rfl, cpos, cl, _, _, _, rfl, rfl, SqL.of hcz, by rw [eix _ lcz]; exact hat, _, rfl, [q0, t], rfl, rfl, all2 (sqT hq0) (sqT (ex _ _ htq)), fun D2 hD2 => ?_⟩⟩
    have lmm := modL_len (ns := ns) lc0
    refine lc_vals (CZ.walk_rows (xss := [c0'.map V.int, ns.map V.int]) (n := ns.length) (lens2 (by rw [List.length_map, lc0]) (by rw [List.length_map]))) ((modL ns c0').map V.int) (by rw [List.length_map, lmm]) (by omega) hD2 (fun H3 e => .cons (sqT (e _ _ hq0)) (.cons (sqT (e _ _ (ex _ _ htq))) .nil)) ?_ (gmono_tup (gmono_cons gmono_name (gmono_cons gmono_name gmono_nil))) ?_
    · intro j y H6 H7 R hj e yy kk
      obtain ⟨Tb, c, n, rfl, hTb, rfl, hp, hdd⟩ := yints2 yy
      have n1 := ok.one n (List.mem_of_getElem? hdd)
      refine ⟨Tb, _, rfl, SqT.of upd_same, rfl, _, _, rfl, _, _, rfl, rfl, ?_⟩
      refine ⟨rfl, _, rfl, .inl ⟨_, rfl, _, rfl, _, _, rfl, rfl, (by show (0 : Int) < n; omega), ?_⟩⟩
      refine kk _ _ (exn hTb) ?_
      unfold modL
      rw [List.getElem?_map, List.getElem?_zipWith, hp, hdd]
      rfl
    intro Ha ea hD2a
    refine ⟨D2, _, rfl, .inl ⟨SqL.of hD2a, ?_⟩⟩
    (intro pt npt; generalize hGpt : upd _ pt _ = Hb; have eHb := exG hGpt npt; have hpt := atG hGpt; clear hGpt)
    have hpt : Hb pt = some (.tup ((modL ns c0').map V.int)) := hpt
    dsimp only [gName]
    show tSeq _ _ _ [_, _, _, _, _, _, _, _, _, _, _, _, _] _
    have E1b : Ex Hx Hb := ext ea eHb
    have hwb := E1b _ _ (ex _ _ hwl)
    obtain ⟨w0, v1, hw0, hv1, hat1⟩ := ix_mod (vs := wordsV bs) i bne (by rw [List.length_map])
    have hv1b : v1 = .str (awayW w0) := by
      rw [List.getElem?_map, hw0] at hv1
      exact (Option.some.inj hv1).symm
    subst hv1b
    have wpos : (0 : Int) < ((wordsV bs).length : Int) := by
      have := List.length_pos_iff.mpr bne
      rw [List.length_map]
      omega
    have eix2 : ((xs.length : Nat) : Int) % (((wordsV bs).length : Nat) : Int) = ((i % bs.length : Nat) : Int) := by
      rw [lxs, List.length_map]
      rfl
    refine ⟨_, rfl, _, rfl, .inl ⟨_, rfl, _, rfl, wl, _, rfl, .inl (SqL.of hwb), _, _, rfl, rfl, wpos, wl, _, _, _, rfl, rfl, SqL.of hwb, by rw [eix2]; exact hat1, ?_⟩⟩
    dsimp only [gName]
    show tSeq _ _ _ [_, _, _, _, _, _, _, _, _, _, _, _, _] _
    have hcall : (CSt.calls css).call ns p i = modL ns c0' := by
      show modL ns (css.getD (i % css.length) []) = _
      rw [List.getD_eq_getElem?_getD, hc0]
      rfl
    have hdir : dirAt ns p (modL ns c0') i (.words bs) = w0 := by
      show bs.getD (i % bs.length) false = _
      rw [List.getD_eq_getElem?_getD, hw0]
      rfl
    have hfb := E1b _ _ hfx
    refine ⟨_, rfl, .inl ⟨rfl, _, SqL.of hfb⟩, _, rfl, _, rfl, slen rfl, ?_⟩
    (intro mv nmv; generalize hGmv : upd _ mv _ = Hc; have eHc := exG hGmv nmv; have hmv := atG hGmv; clear hGmv)
    have hfc := eHc _ _ hfb
    refine ⟨f, _, _, rfl, rfl, hfc, ?_, ?_⟩
    · rw [lxs]
      exact Nat.lt_of_le_of_lt (show i ≤ 1000 by omega) (by decide)
    have E1c : Ex Hx Hc := ext E1b eHc
    have exc := ext ex E1c
    generalize hHd : upd Hc f _ = Hd
    have hfd : Hd f = some (.lst (xs ++ [.ref mv])) := by rw [← hHd, upd_same]
    have tpd : ∀ c zs, Hc c = some (.tup zs) → Hd c = some (.tup zs) := fun c zs z => hHd ▸ tup_pshL hfc z
    have exd : Ex H Hd := hHd ▸ ex_upd exc nf0
    have hhd : Hd hl = some (.lst (ys ++ [.ref rl])) := by rw [← hHd, upd_ne nfh.symm]; exact E1c _ _ hhx
    clear hHd
    have mrd : MvsR Hd (xs ++ [.ref mv]) (ms ++ [(modL ns c0', w0)]) := MvsR.snoc (tpd _ _ hmv) (tpd _ _ (eHc _ _ hpt)) ((mr.mono E1c).monoT tpd)
    have rrd := (rr.mono E1c).monoT tpd
    have hrld := tpd _ _ (E1c _ _ hrl)
    have hccd := tpd _ _ (eHc _ _ hpt)
    refine ⟨_, rfl, .inl ⟨rfl, _, SqL.of hhd⟩, ?_⟩
    refine ⟨_, rfl, _, rfl, _, rfl, hl, _, _, _, rfl, rfl, SqL.of hhd, L2.atI_last _ _, _, rfl, _, rfl, w0, rfl, fun H8 e8 => ?_⟩
    refine ⟨t, rl, pt, if w0 = true then -1 else 1, ns, p, modL ns c0', rfl, e8 _ _ (exd _ _ htq), ok, e8 _ _ hrld, e8 _ _ hccd, skp.len, lmm, by cases w0 <;> simp, fun He z ee nz hz => ?_⟩
    replace ee := ext e8 ee
    have hhe := ee _ _ hhd
    have lys : ys.length = i := (Paired.length rr).trans lh
    refine ⟨hl, _, _, rfl, rfl, hhe, ?_, ?_⟩
    · rw [List.length_append, lys]
      exact Nat.lt_of_le_of_lt (show i + 1 ≤ 1001 by omega) (by decide)
    have step : course ns tss (.calls css) (.words bs) i (lim - i) p = ((modL ns c0', w0) :: (course ns tss (.calls css) (.words bs) (i + 1) (lim - (i + 1)) (shiftL ns p (modL ns c0') (if w0 = true then -1 else 1))).1, p :: (course ns tss (.calls css) (.words bs) (i + 1) (lim - (i + 1)) (shiftL ns p (modL ns c0') (if w0 = true then -1 else 1))).2) := by
      rw [show lim - i = (lim - (i + 1)) + 1 by omega, course, if_neg c, hcall, hdir]
    rw [step] at c1 c2
    have sk2 : SeatOk ns (shiftL ns p (modL ns c0') (if w0 = true then -1 else 1)) := shift_seat ok.one skp.len lmm
    have tpe : ∀ c zs, He c = some (.tup zs) → upd He hl (.lst ((ys ++ [.ref rl]) ++ [.ref z])) c = some (.tup zs) := fun c zs z => tup_pshL hhe z
    refine ⟨lim - (i + 1), by omega, i + 1, _, z, xs ++ [.ref mv], ys ++ [.ref rl], ms ++ [(modL ns c0', w0)], hs' ++ [p], _, _, _, _, _, rfl, ex_upd (ext exd ee) nh0, ?_, (mrd.mono ee).monoT tpe, by rw [List.length_append, lm]; rfl, upd_same, RowsR.snoc (tpe _ _ (ee _ _ hrld)) ((rrd.mono ee).monoT tpe), tpe _ _ hz, by rw [List.length_append, lh]; rfl, sk2, by omega, ?_, ?_, rfl⟩
    · rw [upd_ne nfh]
      exact ee _ _ hfd
    · rw [← c1, List.append_assoc]
      rfl
    · rw [← c2, List.append_assoc]
      rfl
end

theorem rows_head {H : Hp} {ys : List V} {p : List Int} {pss : List (List Int)} (h : RowsR H ys (p :: pss)) : ∃ r ys', ys = V.ref r :: ys' ∧ H r = some (.tup (p.map V.int)) := by
  cases h with
  | cons q t =>
    obtain ⟨r, e, h2⟩ := q
    subst e
    exact ⟨r, _, rfl, h2⟩
section
variable {P : Program} {w : World} {K : PySem.W.Frag} {mg : Str → Option Value} {base : Heap}
def sp_law_start : Sp := fun vs H Q _ => ∃ (s t g cl : Addr) (ns : List Int) (tss css : List (List Int)), vs = [.ref s, .ref t, .ref g, .ref cl] ∧ Src H s ∧ H t = some (.tup (ns.map V.int)) ∧ SzOk ns ∧ (∀ n ∈ ns, n.natAbs < 2 ^ 5000) ∧ RowsAt H g tss ∧ g ≠ s ∧ tss ≠ [] ∧ tss.length ≤ 1000 ∧ (∀ t ∈ tss, SeatOk ns t) ∧ RowsAt H cl css ∧ cl ≠ s ∧ css ≠ [] ∧ (∀ c ∈ css, c.length = ns.length) ∧
  ∀ (q : Addr) (ps : List Int) H2, H2 q = some (.tup (ps.map V.int)) → SeatOk ns ps → XB s H H2 → Src H2 s → Q (.ref q) H2
theorem ok_law_start (T : TX K mg) : FnOk P w K mg base CX0 3 T.f_law_start T.fd_law_start ["_law_source_here", "_law_rings", "_law_goals_here", "_law_called"] sp_law_start := by
  refine T.F_law_start.ok sc_law_start (fun vs H Q E h => ?_) (fun cdv A outer s H vs Q E hr h => ?_)
  · obtain ⟨s, t, g, cl, ns, tss, css, rfl, _⟩ := h
    rfl
  · obtain ⟨s, t, g, cl, ns, tss, css, rfl, src, ht, ok, bn, hg, ngs, tne, lt, sks, hcl, ncs, cne, ccc, k⟩ := h
    refine ⟨_, (pss_cons (ps_set (i := 4) sc_law_start.nd rfl (Or.inl rfl) (pe_call (ok_law_pickV T) (hr.mono (by decide)) rfl T.m_law_pick T.F_law_pick.kp T.b_law_pick .nil pass0 (pa_cons (pv 0) (pa_cons (pv 2) pa_nil)))) (pss_cons (ps_set (i := 5) sc_law_start.nd rfl (Or.inl rfl) (pe_call (ok_law_moved T) (hr.mono (by decide)) rfl T.m_law_moved T.F_law_moved.kp T.b_law_moved .nil pass0 (pa_cons (pv 1) (pa_cons (pv 4) (pa_cons (pe_ix ix_list (pv 3) pe_int (fun _ _ => rfl)) (pa_cons (pe_call (ok_law_pick T) hr rfl T.m_law_pick T.F_law_pick.kp T.b_law_pick .nil pass0 (pa_cons (pv 0) (pa_cons (pe_lst (pa_cons pe_int (pa_cons (pe_un un_neg pe_int) pa_nil))) pa_nil))) pa_nil)))))) (pss_one (ps_ret (pe_call (ok_law_pickV T) (hr.mono (by decide)) rfl T.m_law_pick T.F_law_pick.kp T.b_law_pick .nil pass0 (pa_cons (pv 0) (pa_cons (pe_lst (pa_cons (pe_call (ok_law_drawn_seat T) hr rfl T.m_law_drawn_seat T.F_law_drawn_seat.kp T.b_law_drawn_seat .nil pass0 (pa_cons (pv 0) (pa_cons (pv 1) pa_nil))) (pa_cons (pv 4) (pa_cons (pv 5) pa_nil)))) pa_nil))))))), ?_⟩
    obtain ⟨gs, hg1, rg⟩ := id hg
    have lg := rg.len
    refine ⟨_, rfl, _, rfl, s, g, gs, rfl, src, hg1, ngs, (fun z => tne (by rw [z] at lg; exact List.eq_nil_of_length_eq_zero lg.symm)), by omega, fun i x H2 hx xb2 src2 => ?_⟩
    obtain ⟨p, q, hp, rfl, hq⟩ := rg.get hx
    have skp := sks p (List.mem_of_getElem? hp)
    have hq2 := tup_xb src hq xb2
    have ht2 := tup_xb src ht xb2
    obtain ⟨c0, cr, rfl⟩ : ∃ c0 cr, css = c0 :: cr := match css, cne with | c0 :: cr, _ => ⟨c0, cr, rfl⟩
    have hcl2 : RowsAt H2 cl (c0 :: cr) := by
      obtain ⟨cs, h1, h2⟩ := hcl
      exact ⟨cs, xb2 _ _ ncs h1, h2.monoT fun _ _ z => tup_xb src z xb2⟩
    have lc0 := ccc c0 List.mem_cons_self
    dsimp only [gName]
    obtain ⟨cz, hcz, rcz⟩ := id hcl2
    obtain ⟨q0, cz', rfl, hq0⟩ := rows_head rcz
    show tSeq _ _ _ [_, _, _, _, _, _] _
    refine ⟨_, rfl, _, rfl, _, rfl, cl, _, _, _, rfl, rfl, SqL.of hcz, (L2.atI_nat (show (V.ref q0 :: cz')[0]? = some (V.ref q0) from rfl)), _, rfl, _, rfl, slen rfl, ?_⟩
    (intro pl npl; generalize hGpl : upd _ pl _ = H3; have eH3 := exG hGpl npl; have hpl := atG hGpl; clear hGpl)
    have src3 := src2.mono eH3
    have npl0 := src2.ne npl
    refine ⟨s, pl, [1, -1], rfl, src3, hpl, npl0, by simp, by simp, fun r H4 hr4 xb4 src4 => ?_⟩
    have X24 : XB s H2 H4 := (XB.of eH3).trans xb4
    have ht4 := tup_xb src2 ht2 X24
    have hq4 := tup_xb src2 hq2 X24
    have hq04 := tup_xb src2 hq0 X24
    refine ⟨t, q, q0, r, ns, p, c0, rfl, ht4, ok, hq4, hq04, skp.len, lc0, by simpa using hr4, fun H5 nr e5 nnr hnr => ?_⟩
    have sk5 : SeatOk ns (shiftL ns p c0 r) := shift_seat ok.one skp.len lc0
    have src5 := src4.mono e5
    dsimp only [gName]
    show tRet _ _ [_, _, _, _, _, _] _
    refine ⟨_, rfl, _, rfl, _, rfl, s, t, ns, rfl, src5, e5 _ _ ht4, ok, bn, fun dr ds H6 ndr hdr skd xb6 src6 => ?_⟩
    refine ⟨_, rfl, _, rfl, slen rfl, ?_⟩
    (intro ll nll; generalize hGll : upd _ ll _ = H7; have eH7 := exG hGll nll; have hll := atG hGll; clear hGll)
    have src7 := src6.mono eH7
    refine ⟨s, ll, _, rfl, src7, hll, src6.ne nll, by simp, by simp, fun i x H8 hx xb8 src8 => ?_⟩
    have X58 : XB s H5 H8 := xb6.trans ((XB.of eH7).trans xb8)
    have X08 : XB s H H8 := xb2.trans (X24.trans ((XB.of e5).trans X58))
    match i, hx with
    | 0, hx =>
      obtain rfl := Option.some.inj hx
      exact k dr ds H8 (tup_xb src6 hdr ((XB.of eH7).trans xb8)) skd X08 src8
    | 1, hx =>
      obtain rfl := Option.some.inj hx
      exact k q p H8 (tup_xb src5 (e5 _ _ hq4) X58) skp X08 src8
    | 2, hx =>
      obtain rfl := Option.some.inj hx
      exact k nr _ H8 (tup_xb src5 hnr X58) sk5 X08 src8
    | i + 3, hx => cases hx
end
section
variable {P : Program} {w : World} {K : PySem.W.Frag} {mg : Str → Option Value} {base : Heap}
def sp_law_refused (CC CR C : Addr) : Sp := fun vs H Q _ => ∃ (a s cl rp : Addr) (q : Bool × Addr) (ns ps : List Int) (tss g1 g2 : List (List Int)) (cs : CSt) (rs : RS), vs = [.ref a, .ref q.2, .ref s, .ref cl, .ref rp] ∧ TabAt C H a ns ∧ SzOk ns ∧ (∀ n ∈ ns, n.natAbs < 2 ^ 5000) ∧ RowsQ H q tss ∧ tss ≠ [] ∧ tss.length ≤ 1000 ∧ (∀ ts ∈ tss, SeatOk ns ts) ∧ tss.Nodup ∧ H s = some (.tup (ps.map V.int)) ∧ SeatOk ns ps ∧ (∀ t ∈ g1, SeatOk ns t) ∧ (∀ t ∈ g2, SeatOk ns t) ∧
  CallerAt CC C H cl ns g1 cs ∧ cs.Ok ns g1 ∧ RespAt CR C H rp ns g2 rs ∧ rs.Ok ns g2 ∧ (ps ∉ tss → unsafeB ps rs = false) ∧
  (¬ g1.Perm tss → ∀ H2, Ex H H2 → Q (.str "caller") H2) ∧ (g1.Perm tss → ¬ g2.Perm tss → ∀ H2, Ex H H2 → Q (.str "responder") H2) ∧ (g1.Perm tss → g2.Perm tss → ∀ H2, Ex H H2 → Q .non H2)
theorem ok_law_refused (T : TX K mg) : FnOk P w K mg base CX0 9 T.f_law_refused T.fd_law_refused ["_law_table", "_law_goals_here", "_law_spot", "_law_caller", "_law_responder"] (sp_law_refused T.C_Caller T.C_Responder T.C_Table) := by
  refine T.F_law_refused.ok sc_law_refused (fun vs H Q E h => ?_) (fun cdv A outer s H vs Q E hr h => ?_)
  · obtain ⟨a, s, cl, rp, q, ns, ps, tss, g1, g2, cs, rs, rfl, _⟩ := h
    rfl
  · obtain ⟨a, s, cl, rp, q, ns, ps, tss, g1, g2, cs, rs, rfl, tab, ok, bn, hq, ne, lt, sks, nod, hs, sk, sk1, sk2, hcl, hcs, hrp, hrs, hun, k1, k2, k3⟩ := h
    refine ⟨_, (pss_cons (ps_try_as1 (i := 5) rfl rfl sc_law_refused.nd rfl rfl ⟨rfl, by decide, Or.inl T.m_Mismatch⟩ (fun W pn xe tk _ => pss_one (ps_expr (by exact (pe_callS (okX_play T) (hr.mono (by decide)) rfl T.m_play T.F_play.kp T.b_play (fun σ => passAt tk σ) (pa_cons (pv 0) (pa_cons (pv 1) (pa_cons (pv 2) (pa_cons (pv 3) (pa_cons (pv 4) (pa_cons pe_int pa_nil)))))))))) (fun a oe cls d pn hz hf => pss_one (ps_ret (by exact (pe_xf T.xf_Mismatch T.n_Mismatch_name hz hf (pv 5)))))) (pss_one (ps_ret pe_non))), ?_⟩
    refine ⟨_, rfl, _, rfl, _, rfl, _, rfl, _, rfl, a, s, cl, rp, q, 5, ns, ps, tss, g1, g2, cs, rs, rfl, tab, ok, bn, hq, ne, lt, sks, nod, hs, sk, sk1, sk2, hcl, hcs, hrp, hrs, by decide, hun, fun n1 dd H2 e2 hdd => ⟨T.em_Mismatch, fun ea na => ?_⟩, fun p1 n2 dd H2 e2 hdd => ⟨T.em_Mismatch, fun ea na => ?_⟩, fun p1 p2 _ _ _ _ _ H2 e2 _ _ _ _ _ _ _ => ?_⟩
    · exact ⟨_, rfl, rfl, rfl, dd, _, _, rfl, hdd, rfl, k1 n1 _ e2⟩
    · exact ⟨_, rfl, rfl, rfl, dd, _, _, rfl, hdd, rfl, k2 p1 n2 _ e2⟩
    · exact k3 p1 p2 _ e2
end

theorem tab_xbs {C s a : Addr} {H H2 : Hp} {ns : List Int} (src : Src H s) (xb : XB s H H2) (h : TabAt C H a ns) : TabAt C H2 a ns := by
  obtain ⟨dx, t, h1, h2⟩ := h
  obtain ⟨u, v, w, hs⟩ := src
  exact ⟨dx, t, xb _ _ (ne_of h1 hs (by intro z; cases z)) h1, xb _ _ (ne_of h2 hs (by intro z; cases z)) h2⟩
theorem RespU.ins {CR C p : Addr} {H : Hp} {ns : List Int} {tss : List (List Int)} {rs : RS} {u : Nat} (h : RespU CR C H p ns tss rs u) : ∃ dx fs, H p = some (.ins CR dx fs) ∧ fs.lookup ("answer" : Str) = none := by
  obtain ⟨dx, a, g, st, dv, gs, h1, _⟩ := h
  exact ⟨dx, _, h1, rfl⟩
theorem CallerU.ins {CC C p : Addr} {H : Hp} {ns : List Int} {tss : List (List Int)} {cs : CSt} {u : Nat} (h : CallerU CC C H p ns tss cs u) : ∃ dx fs, H p = some (.ins CC dx fs) ∧ fs.lookup ("next_call" : Str) = none := by
  obtain ⟨dx, a, g, st, dv, gs, h1, _⟩ := h
  exact ⟨dx, _, h1, rfl⟩
theorem XB.tabR {p C a : Addr} {H H2 : Hp} {ns : List Int} {CR : Addr} {dx : Addr} {fs : List (Str × V)} (hp : H p = some (.ins CR dx fs)) (l : fs.length = 5) (xb : XB p H H2) (h : TabAt C H a ns) : TabAt C H2 a ns := by
  obtain ⟨dt, t, h1, h2⟩ := h
  have na : a ≠ p := ne_of h1 hp fun z => by
    injection z with _ _ z3
    rw [← z3] at l
    simp at l
  exact ⟨dt, t, xb _ _ na h1, xb _ _ (ne_of h2 hp (by intro z; cases z)) h2⟩
theorem XB.xi {p CR dx : Addr} {fs : List (Str × V)} {H H2 : Hp} (hp : H p = some (.ins CR dx fs)) (xb : XB p H H2) : XI H H2 := fun c o n z => xb c o (ne_of z hp (n _ _ _)) z
theorem RespU.xb {CR C p m CP dx : Addr} {H H2 : Hp} {ns : List Int} {tss : List (List Int)} {rs : RS} {u : Nat} {fs : List (Str × V)} (n : p ≠ m) (hm : H m = some (.ins CP dx fs)) (l : fs.length = 5) (xb : XB m H H2) (h : RespU CR C H p ns tss rs u) : RespU CR C H2 p ns tss rs u := by
  obtain ⟨dz, a, g, st, dv, us, z1, z2, z3, z4, z5, z6⟩ := h
  have xi := xb.xi hm
  exact ⟨dz, a, g, st, dv, us, xb _ _ n z1, XB.tabR hm l xb z2, xi.tup z3, xi.rows z4, z5.xi xi, z6.xi xi⟩
theorem CallerU.xb {CR C p m CP dx : Addr} {H H2 : Hp} {ns : List Int} {tss : List (List Int)} {cs : CSt} {u : Nat} {fs : List (Str × V)} (n : p ≠ m) (hm : H m = some (.ins CP dx fs)) (l : fs.length = 5) (xb : XB m H H2) (h : CallerU CR C H p ns tss cs u) : CallerU CR C H2 p ns tss cs u := by
  obtain ⟨dz, a, g, st, dv, us, z1, z2, z3, z4, z5, z6⟩ := h
  have xi := xb.xi hm
  exact ⟨dz, a, g, st, dv, us, xb _ _ n z1, XB.tabR hm l xb z2, xi.tup z3, xi.rows z4, z5.xi xi, z6.xi xi⟩
theorem dpall_pair {α : Type} {K : PySem.W.Frag} {H : Hp} {R : V → α → Prop} {f : α → PyData} (h : ∀ x a, R x a → Dp K H x (f a)) : ∀ {xs : List V} {as : List α}, Paired R xs as → DpAll K H xs (as.map f)
  | _, _, .nil => .nil
  | _, _, .cons q t => .cons (h _ _ q) (dpall_pair h t)
def gameD (g : List (List Int × Bool) × List (List Int)) (o : Str) : PyData := .tuple [.list (g.1.map fun m => .tuple [iT m.1, .str (awayW m.2)]), .list (g.2.map iT), .str o]
theorem game_dp {K : PySem.W.Frag} {H : Hp} {t f h : Addr} {xs ys : List V} {g : List (List Int × Bool) × List (List Int)} {o : Str} (h1 : H t = some (.tup [.ref f, .ref h, .str o])) (h2 : H f = some (.lst xs)) (h3 : MvsR H xs g.1) (h4 : H h = some (.lst ys)) (h5 : RowsR H ys g.2) : Dp K H (.ref t) (gameD g o) :=
  .tup (SqT.of h1) (.cons (.lst (SqL.of h2) (dpall_pair (fun x m ⟨r, c, e, q1, q2⟩ => by
    subst e
    exact .tup (SqT.of q1) (.cons (dp_ints q2) (.cons (.str _) .nil))) h3)) (.cons (.lst (SqL.of h4) (dpall_pair (fun x m ⟨r, e, q⟩ => by
    subst e
    exact dp_ints q) h5)) (.cons (.str _) .nil)))
theorem game_sh {k : Nat} (g : List (List Int × Bool) × List (List Int)) {o : Str} (ho : PyData.strOk o = true) : Sh (k + 4) (gameD g o) := by
  have shS : ∀ {n : Nat} {z : Str}, PyData.strOk z = true → Sh n (.str z) := fun hz => ⟨by simp only [PyData.canLay0, hz], by simp only [PyData.depth]; omega⟩
  refine sh_tuple (n := k + 3) fun d hd => ?_
  simp only [List.mem_cons, List.not_mem_nil, or_false] at hd
  rcases hd with rfl | rfl | rfl
  · refine sh_list (n := k + 2) fun e he => ?_
    obtain ⟨m, _, rfl⟩ := List.mem_map.mp he
    refine sh_tuple (n := k + 1) fun e he => ?_
    simp only [List.mem_cons, List.not_mem_nil, or_false] at he
    rcases he with rfl | rfl
    · exact sh_ints (n := k) _
    · exact shS (by cases m.2 <;> decide +kernel)
  · refine sh_list (n := k + 2) fun e he => ?_
    obtain ⟨m, _, rfl⟩ := List.mem_map.mp he
    exact sh_ints (n := k + 1) _
  · exact shS ho
theorem rows_xb {s q : Addr} {H H2 : Hp} {tss : List (List Int)} (src : Src H s) (n : q ≠ s) (xb : XB s H H2) (h : RowsAt H q tss) : RowsAt H2 q tss := by
  obtain ⟨xs, h1, h2⟩ := h
  exact ⟨xs, xb _ _ n h1, h2.monoT fun _ _ z => tup_xb src z xb⟩
theorem rows_src {H : Hp} {h s : Addr} {r : List (List Int)} (ne : r ≠ []) (hh : RowsAt H h r) (src : Src H s) : h ≠ s := fun z => by
  obtain ⟨ys, h1, h2⟩ := hh
  obtain ⟨a, b, c, h3⟩ := src
  cases h2 with
  | nil => exact ne rfl
  | cons q t =>
    obtain ⟨r, e, h2⟩ := q
    subst e
    rw [z, h3] at h1
    cases h1
theorem words_src {H : Hp} {h s : Addr} {bs : List Bool} (ne : bs ≠ []) (hh : H h = some (.lst (wordsV bs))) (src : Src H s) : h ≠ s := fun z => by
  obtain ⟨a, b, c, h3⟩ := src
  cases bs with
  | nil => exact ne rfl
  | cons q t =>
    rw [z, h3] at hh
    cases hh
theorem CallerU.src {CC C p s : Addr} {H H2 : Hp} {ns : List Int} {tss : List (List Int)} {cs : CSt} {u : Nat} (src : Src H s) (xb : XB s H H2) (ok : cs.Ok ns tss) (h : CallerU CC C H p ns tss cs u) : CallerU CC C H2 p ns tss cs u := by
  obtain ⟨dx, a, g, st, dv, gs, h1, h2, h3, h4, h5, h6⟩ := h
  obtain ⟨x, y, z, hs⟩ := id src
  refine ⟨dx, a, g, st, dv, gs, xb _ _ (ne_of h1 hs (by intro z; cases z)) h1, tab_xbs src xb h2, tup_xb src h3 xb, h4.xb3 src xb, ?_, ?_⟩
  · cases cs with
    | calls css =>
      obtain ⟨l, e, h⟩ := h5
      exact ⟨l, e, rows_xb src (rows_src ok.1 h src) xb h⟩
    | lay fs => exact h5
  · cases cs with
    | calls css => exact h6
    | lay fs =>
      obtain ⟨d, e, q⟩ := h6
      exact ⟨d, e, xb _ _ (ne_of q hs (by intro z; cases z)) q⟩
theorem RespU.src {CC C p s : Addr} {H H2 : Hp} {ns : List Int} {tss : List (List Int)} {rs : RS} {u : Nat} (src : Src H s) (xb : XB s H H2) (ok : rs.Ok ns tss) (h : RespU CC C H p ns tss rs u) : RespU CC C H2 p ns tss rs u := by
  obtain ⟨dx, a, g, st, dv, gs, h1, h2, h3, h4, h5, h6⟩ := h
  obtain ⟨x, y, z, hs⟩ := id src
  refine ⟨dx, a, g, st, dv, gs, xb _ _ (ne_of h1 hs (by intro z; cases z)) h1, tab_xbs src xb h2, tup_xb src h3 xb, h4.xb3 src xb, ?_, ?_⟩
  · cases rs with
    | words bs =>
      obtain ⟨l, e, h⟩ := h5
      exact ⟨l, e, xb _ _ (words_src ok.1 h src) h⟩
    | wit m ws r =>
      obtain ⟨l, e, wa, q1, q2⟩ := h5
      exact ⟨l, e, wa, tup_xb src q1 xb, tup_xb src q2 xb⟩
    | lay fs => exact h5
  · cases rs with
    | words bs => exact h6
    | wit m ws r => exact h6
    | lay fs =>
      obtain ⟨d, e, q⟩ := h6
      exact ⟨d, e, xb _ _ (ne_of q hs (by intro z; cases z)) q⟩

/-! ### data that repr shows, and how long the text is -/
def Shw (c : Nat) (d : PyData) : Prop := d.showable = true ∧ d.hasDict = false ∧ d.shown.length ≤ c
theorem Shw.up {c e : Nat} {d : PyData} (h : Shw c d) (l : c ≤ e) : Shw e d := ⟨h.1, h.2.1, Nat.le_trans h.2.2 l⟩
theorem shw_int {i : Int} (h : i.natAbs < 10 ^ 12) : Shw 13 (.int i) := by
  refine ⟨?_, rfl, PyData.shown_int_le h⟩
  show decide (i.natAbs.log2 < 1920) = true
  refine decide_eq_true ?_
  have : i.natAbs.log2 < 40 := by
    by_cases z : i.natAbs = 0
    · rw [z]
      decide
    · exact (Nat.log2_lt z).mpr (Nat.lt_of_lt_of_le h (by decide))
  omega
theorem shw_all {c : Nat} : ∀ {ds : List PyData}, (∀ d ∈ ds, Shw c d) → PyData.showableAll ds = true ∧ PyData.hasDictAll ds = false ∧ ((PyData.shownAll ds).map (·.length)).sum ≤ ds.length * c ∧ (PyData.shownAll ds).length = ds.length
  | [], _ => ⟨rfl, rfl, by simp [PyData.shownAll], rfl⟩
  | d :: ds, h => by
    obtain ⟨a, b, e⟩ := h d List.mem_cons_self
    obtain ⟨a2, b2, e2, l2⟩ := shw_all fun x hx => h x (List.mem_cons_of_mem _ hx)
    refine ⟨by simp only [PyData.showableAll, a, a2, Bool.and_true], by simp only [PyData.hasDictAll, b, b2, Bool.or_false], ?_, by simp only [PyData.shownAll, List.length_cons, l2]⟩
    simp only [PyData.shownAll, List.map_cons, List.sum_cons, List.length_cons, Nat.succ_mul]
    omega
theorem shw_tuple {c : Nat} {ds : List PyData} (h : ∀ d ∈ ds, Shw c d) : Shw (ds.length * (c + 2) + 3) (.tuple ds) := by
  obtain ⟨a, b, e, l⟩ := shw_all h
  refine ⟨by simpa only [PyData.showable] using a, by simpa only [PyData.hasDict] using b, ?_⟩
  have := tupleText_len_le (PyData.shownAll ds)
  simp only [PyData.shown, Nat.mul_add] at *
  omega
theorem shw_list {c : Nat} {ds : List PyData} (h : ∀ d ∈ ds, Shw c d) : Shw (ds.length * (c + 2) + 3) (.list ds) := by
  obtain ⟨a, b, e, l⟩ := shw_all h
  refine ⟨by simpa only [PyData.showable] using a, by simpa only [PyData.hasDict] using b, ?_⟩
  have := listText_len_le (PyData.shownAll ds)
  simp only [PyData.shown, Nat.mul_add] at *
  omega
theorem shw_ints {ps : List Int} (h : ∀ x ∈ ps, x.natAbs < 10 ^ 12) : Shw (ps.length * 15 + 3) (iT ps) := by
  have := shw_tuple (c := 13) (ds := ps.map PyData.int) fun d hd => by
    obtain ⟨i, hi, rfl⟩ := List.mem_map.mp hd
    exact shw_int (h i hi)
  rw [List.length_map] at this
  exact this
theorem shw_big {i : Int} (h : i.natAbs.log2 < 1920) : Shw 1921 (.int i) := ⟨decide_eq_true h, rfl, int_text_len_1921 h⟩

/-- a caller's own list is neither of two lists -/
theorem CallerO.two {CC C p m m2 : Addr} {H H2 : Hp} {ns : List Int} {tss : List (List Int)} {cs : CSt} {u : Nat} {zs : List V} (hm : H m = some (.lst zs)) (e : ∀ c o, c ≠ m → H c = some o → H2 c = some o) (h : CallerO CC C H p ns tss cs u m) (h2 : CallerO CC C H p ns tss cs u m2) : CallerO CC C H2 p ns tss cs u m2 := by
  obtain ⟨dx, a, g, st, dv, gs, z1, z2, z3, z4, z5, z6⟩ := CallerO.cut hm e h
  obtain ⟨dx', a', g', st', dv', gs', y1, y2, y3, y4, y5, y6, y7⟩ := h2
  have hy := e _ _ (ne_of y1 hm (by intro z; cases z)) y1
  rw [z1] at hy
  injection hy with hy
  injection hy with _ _ hy
  simp only [List.cons.injEq, Prod.mk.injEq] at hy
  exact ⟨dx, a, g, st, dv, gs, z1, z2, z3, z4, z5, z6, by rw [hy.2.2.1.2]; exact y7⟩
theorem RespO.two {CC C p m m2 : Addr} {H H2 : Hp} {ns : List Int} {tss : List (List Int)} {cs : RS} {u : Nat} {zs : List V} (hm : H m = some (.lst zs)) (e : ∀ c o, c ≠ m → H c = some o → H2 c = some o) (h : RespO CC C H p ns tss cs u m) (h2 : RespO CC C H p ns tss cs u m2) : RespO CC C H2 p ns tss cs u m2 := by
  obtain ⟨dx, a, g, st, dv, gs, z1, z2, z3, z4, z5, z6⟩ := RespO.cut hm e h
  obtain ⟨dx', a', g', st', dv', gs', y1, y2, y3, y4, y5, y6, y7⟩ := h2
  have hy := e _ _ (ne_of y1 hm (by intro z; cases z)) y1
  rw [z1] at hy
  injection hy with hy
  injection hy with _ _ hy
  simp only [List.cons.injEq, Prod.mk.injEq] at hy
  exact ⟨dx, a, g, st, dv, gs, z1, z2, z3, z4, z5, z6, by rw [hy.2.2.1.2]; exact y7⟩
/-! ### the course of a game, its size -/
theorem course_perm {ns : List Int} {t1 t2 : List (List Int)} {cs : CSt} {rs : RS} (h : ∀ p, p ∈ t1 ↔ p ∈ t2) : ∀ (k i : Nat) (p : List Int), course ns t1 cs rs i k p = course ns t2 cs rs i k p
  | 0, _, _ => rfl
  | k + 1, i, p => by
    unfold course
    by_cases c : p ∈ t2
    · rw [if_pos c, if_pos ((h p).mpr c)]
    · rw [if_neg c, if_neg (fun z => c ((h p).mp z)), course_perm h k]
theorem modL_seat : ∀ {ns c : List Int}, (∀ n ∈ ns, 1 ≤ n) → c.length = ns.length → SeatOk ns (modL ns c)
  | [], [], _, _ => True.intro
  | n :: ns, c :: cs, h, l => by
    have n1 := h n List.mem_cons_self
    exact ⟨⟨Int.emod_nonneg _ (by omega), Int.emod_lt_of_pos _ (by omega)⟩, modL_seat (fun m hm => h m (List.mem_cons_of_mem _ hm)) (Nat.succ.inj l)⟩
theorem course_size {ns : List Int} {tss css : List (List Int)} {rs : RS} (ok : SzOk ns) (cne : css ≠ []) (cc : ∀ c ∈ css, c.length = ns.length) : ∀ (k i : Nat) (p : List Int), SeatOk ns p →
    (course ns tss (.calls css) rs i k p).1.length ≤ k ∧ (course ns tss (.calls css) rs i k p).2.length ≤ k + 1 ∧ (∀ m ∈ (course ns tss (.calls css) rs i k p).1, SeatOk ns m.1) ∧ ∀ q ∈ (course ns tss (.calls css) rs i k p).2, SeatOk ns q
  | 0, i, p, sk => ⟨Nat.le_refl _, Nat.le_refl _, fun m hm => (by cases hm), fun q hq => by rw [List.mem_singleton.mp hq]; exact sk⟩
  | k + 1, i, p, sk => by
    unfold course
    by_cases c : p ∈ tss
    · rw [if_pos c]
      exact ⟨Nat.zero_le _, by simp, fun m hm => (by cases hm), fun q hq => by rw [List.mem_singleton.mp hq]; exact sk⟩
    · rw [if_neg c]
      obtain ⟨x, _, hx, _⟩ := (⟨css[i % css.length]'(Nat.mod_lt _ (List.length_pos_iff.mpr cne)), True.intro, List.getElem?_eq_getElem _, True.intro⟩ : ∃ x, True ∧ css[i % css.length]? = some x ∧ True)
      have e : (CSt.calls css).call ns p i = modL ns x := by
        show modL ns (css.getD (i % css.length) []) = _
        rw [List.getD_eq_getElem?_getD, hx]
        rfl
      have sm := modL_seat ok.one (cc x (List.mem_of_getElem? hx))
      rw [e]
      obtain ⟨h1, h2, h3, h4⟩ := course_size (tss := tss) (rs := rs) ok cne cc k (i + 1) _ (shift_seat (f := if dirAt ns p (modL ns x) i rs = true then -1 else 1) ok.one sk.len (modL_len (cc x (List.mem_of_getElem? hx))))
      refine ⟨Nat.succ_le_succ h1, Nat.succ_le_succ h2, fun m hm => ?_, fun q hq => ?_⟩
      · rcases List.mem_cons.mp hm with rfl | hm
        · exact sm
        · exact h3 m hm
      · rcases List.mem_cons.mp hq with rfl | hq
        · exact sk
        · exact h4 q hq
theorem seat_300 {ns p : List Int} (sk : SeatOk ns p) (bn : ∀ n ∈ ns, n.natAbs < 2 ^ 300) : ∀ x ∈ p, x.natAbs < 2 ^ 300 := by
  induction ns generalizing p with
  | nil =>
    cases p with
    | nil => exact fun x h => nomatch h
    | cons a b => cases sk
  | cons n ns ih =>
    cases p with
    | nil => cases sk
    | cons a b =>
      intro x hx
      have hn := bn n List.mem_cons_self
      rcases List.mem_cons.mp hx with rfl | hx
      · have := sk.1
        exact Nat.lt_of_le_of_lt (by omega) hn
      · exact ih sk.2 (fun m hm => bn m (List.mem_cons_of_mem _ hm)) x hx
theorem shw_seat {p : List Int} (l : p.length ≤ 4) (h : ∀ x ∈ p, x.natAbs < 2 ^ 300) : Shw 8000 (iT p) := by
  have := shw_tuple (c := 1921) (ds := p.map PyData.int) fun d hd => by
    obtain ⟨i, hi, rfl⟩ := List.mem_map.mp hd
    refine shw_big ?_
    by_cases z : i.natAbs = 0
    · rw [z]
      decide
    · exact Nat.lt_of_lt_of_le ((Nat.log2_lt z).mpr (h i hi)) (by decide)
  rw [List.length_map] at this
  exact this.up (by omega)
theorem shw_away (b : Bool) : Shw 20 (.str (awayW b)) := ⟨rfl, rfl, by cases b <;> (rw [PyData.shown_str]; decide +kernel)⟩
theorem game_shw {ns : List Int} {g : List (List Int × Bool) × List (List Int)} {o : Str} (l4 : ns.length ≤ 4) (bn : ∀ n ∈ ns, n.natAbs < 2 ^ 300) (h1 : g.1.length ≤ 40) (h2 : g.2.length ≤ 41) (h3 : ∀ m ∈ g.1, SeatOk ns m.1) (h4 : ∀ q ∈ g.2, SeatOk ns q) (ho : Shw 20 (.str o)) : Shw 2000000 (gameD g o) := by
  have a : Shw 1000000 (.list (g.1.map fun m => .tuple [iT m.1, .str (awayW m.2)])) := by
    refine (shw_list (c := 17000) fun d hd => ?_).up (by rw [List.length_map]; omega)
    obtain ⟨m, hm, rfl⟩ := List.mem_map.mp hd
    refine (shw_tuple (c := 8000) fun e he => ?_).up (by simp)
    simp only [List.mem_cons, List.not_mem_nil, or_false] at he
    rcases he with rfl | rfl
    · exact shw_seat (by rw [(h3 m hm).len]; exact l4) (seat_300 (h3 m hm) bn)
    · exact (shw_away m.2).up (by decide)
  have b : Shw 400000 (.list (g.2.map iT)) := by
    refine (shw_list (c := 8000) fun d hd => ?_).up (by rw [List.length_map]; omega)
    obtain ⟨q, hq, rfl⟩ := List.mem_map.mp hd
    exact shw_seat (by rw [(h4 q hq).len]; exact l4) (seat_300 (h4 q hq) bn)
  obtain ⟨a1, a2, a3⟩ := a
  obtain ⟨b1, b2, b3⟩ := b
  obtain ⟨o1, o2, o3⟩ := ho
  refine ⟨?_, ?_, ?_⟩
  · simp only [gameD, PyData.showable, PyData.showableAll] at *
    simp [a1, b1, o1]
  · simp only [gameD, PyData.hasDict, PyData.hasDictAll] at *
    simp [a2, b2, o2]
  · have := tupleText_len_le (PyData.shownAll [.list (g.1.map fun m => .tuple [iT m.1, .str (awayW m.2)]), .list (g.2.map iT), .str o])
    show (PyData.shown (.tuple _)).length ≤ _
    simp only [PyData.shown, PyData.shownAll, List.map_cons, List.map_nil, List.sum_cons, List.sum_nil, List.length_cons, List.length_nil] at *
    omega
theorem course_two {ns : List Int} {tss : List (List Int)} {cs : CSt} {rs : RS} : ∀ (k i : Nat) (p : List Int), (course ns tss cs rs i k p).2.length = (course ns tss cs rs i k p).1.length + 1
  | 0, _, _ => rfl
  | k + 1, i, p => by
    unfold course
    by_cases c : p ∈ tss
    · rw [if_pos c]
      rfl
    · rw [if_neg c]
      show (_ :: _).length = (_ :: _).length + 1
      rw [List.length_cons, List.length_cons, course_two k]

theorem paired_perm {α β : Type} {R : α → β → Prop} {xs ys : List α} (p : ys.Perm xs) : ∀ {as : List β}, Paired R xs as → ∃ bs, Paired R ys bs ∧ bs.Perm as := by
  induction p with
  | nil => exact fun h => ⟨_, h, .refl _⟩
  | cons x _ ih =>
    intro as h
    cases h with
    | cons q t =>
      obtain ⟨bs, h1, h2⟩ := ih t
      exact ⟨_ :: bs, .cons q h1, h2.cons _⟩
  | swap x y l =>
    intro as h
    cases h with
    | cons q t =>
      cases t with
      | cons q2 t2 => exact ⟨_, .cons q2 (.cons q t2), List.Perm.swap _ _ _⟩
  | trans _ _ ih1 ih2 =>
    intro as h
    obtain ⟨bs, h1, h2⟩ := ih2 h
    obtain ⟨cs, h3, h4⟩ := ih1 h1
    exact ⟨cs, h3, h4.trans h2⟩

theorem rows_rev {H : Hp} : ∀ {xs : List V} {tss : List (List Int)}, RowsR H xs tss → RowsR H xs.reverse tss.reverse
  | _, _, .nil => .nil
  | _, _, .cons ⟨r, e, h⟩ t => by
    rw [List.reverse_cons, List.reverse_cons, e]
    exact RowsR.snoc h (rows_rev t)
/-- the scene of the games -/
structure Sc (CC CR C s rt bd g cl wl mv on sp : Addr) (ns : List Int) (tss g2 css : List (List Int)) (bs : List Bool) (p : List Int) (u v : Nat) (H : Hp) : Prop where
  src : Src H s
  hr : H rt = some (.tup (ns.map V.int))
  tab : TabAt C H bd ns
  hg : RowsAt H g tss
  hc : RowsAt H cl css
  hw : H wl = some (.lst (wordsV bs))
  mv : CallerU CC C H mv ns tss (.calls css) u
  on : RespU CR C H on ns g2 (.words bs) v
  sp : H sp = some (.tup (p.map V.int))
theorem Sc.mono {CC CR C s rt bd g cl wl mv on sp : Addr} {ns : List Int} {tss g2 css : List (List Int)} {bs : List Bool} {p : List Int} {u v : Nat} {H H2 : Hp} (e : Ex H H2) (h : Sc CC CR C s rt bd g cl wl mv on sp ns tss g2 css bs p u v H) : Sc CC CR C s rt bd g cl wl mv on sp ns tss g2 css bs p u v H2 :=
  ⟨h.src.mono e, e _ _ h.hr, h.tab.mono e, h.hg.mono e, h.hc.mono e, e _ _ h.hw, h.mv.mono e, h.on.mono e, e _ _ h.sp⟩
theorem Sc.drawn {CC CR C s rt bd g cl wl mv on sp : Addr} {ns : List Int} {tss g2 css : List (List Int)} {bs : List Bool} {p : List Int} {u v : Nat} {H H2 : Hp} (tne : tss ≠ []) (cne : css ≠ []) (bne : bs ≠ []) (okC : (CSt.calls css).Ok ns tss) (okW : (RS.words bs).Ok ns g2) (xb : XB s H H2) (src2 : Src H2 s) (h : Sc CC CR C s rt bd g cl wl mv on sp ns tss g2 css bs p u v H) : Sc CC CR C s rt bd g cl wl mv on sp ns tss g2 css bs p u v H2 :=
  ⟨src2, tup_xb h.src h.hr xb, tab_xbs h.src xb h.tab, rows_xb h.src (rows_src tne h.hg h.src) xb h.hg, rows_xb h.src (rows_src cne h.hc h.src) xb h.hc, xb _ _ (words_src bne h.hw h.src) h.hw, h.mv.src h.src xb okC, h.on.src h.src xb okW, tup_xb h.src h.sp xb⟩
theorem CallerU.ins5 {CC C p : Addr} {H : Hp} {ns : List Int} {tss : List (List Int)} {cs : CSt} {u : Nat} (h : CallerU CC C H p ns tss cs u) : ∃ dx fs, H p = some (.ins CC dx fs) ∧ fs.lookup ("next_call" : Str) = none ∧ fs.length = 5 := by
  obtain ⟨dx, a, g, st, dv, gs, h1, _⟩ := h
  exact ⟨dx, _, h1, rfl, rfl⟩
theorem RespU.ins5 {CR C p : Addr} {H : Hp} {ns : List Int} {tss : List (List Int)} {rs : RS} {u : Nat} (h : RespU CR C H p ns tss rs u) : ∃ dx fs, H p = some (.ins CR dx fs) ∧ fs.lookup ("answer" : Str) = none ∧ fs.length = 5 := by
  obtain ⟨dx, a, g, st, dv, gs, h1, _⟩ := h
  exact ⟨dx, _, h1, rfl, rfl⟩
theorem Sc.call {CC CR C s rt bd g cl wl mv on sp : Addr} {ns : List Int} {tss g2 css : List (List Int)} {bs : List Bool} {p : List Int} {u v u2 : Nat} {H H2 : Hp} (n : on ≠ mv) (xb : XB mv H H2) (c2 : CallerU CC C H2 mv ns tss (.calls css) u2) (h : Sc CC CR C s rt bd g cl wl mv on sp ns tss g2 css bs p u v H) : Sc CC CR C s rt bd g cl wl mv on sp ns tss g2 css bs p u2 v H2 := by
  obtain ⟨dx, fs, h1, _, l5⟩ := h.mv.ins5
  have xi := xb.xi h1
  obtain ⟨a, b, c, hs⟩ := h.src
  exact ⟨⟨a, b, c, xi.lst hs⟩, xi.tup h.hr, XB.tabR h1 l5 xb h.tab, xi.rowsAt h.hg, xi.rowsAt h.hc, xi.lst h.hw, c2, RespU.xb n h1 l5 xb h.on, xi.tup h.sp⟩
theorem Sc.answer {CC CR C s rt bd g cl wl mv on sp : Addr} {ns : List Int} {tss g2 css : List (List Int)} {bs : List Bool} {p : List Int} {u v v2 : Nat} {H H2 : Hp} (n : mv ≠ on) (xb : XB on H H2) (c2 : RespU CR C H2 on ns g2 (.words bs) v2) (h : Sc CC CR C s rt bd g cl wl mv on sp ns tss g2 css bs p u v H) : Sc CC CR C s rt bd g cl wl mv on sp ns tss g2 css bs p u v2 H2 := by
  obtain ⟨dx, fs, h1, _, l5⟩ := h.on.ins5
  have xi := xb.xi h1
  obtain ⟨a, b, c, hs⟩ := h.src
  exact ⟨⟨a, b, c, xi.lst hs⟩, xi.tup h.hr, XB.tabR h1 l5 xb h.tab, xi.rowsAt h.hg, xi.rowsAt h.hc, xi.lst h.hw, CallerU.xb n h1 l5 xb h.mv, c2, xi.tup h.sp⟩
section
variable {P : Program} {w : World} {K : PySem.W.Frag} {mg : Str → Option Value} {base : Heap}
def sp_law_right : Sp := fun vs H Q _ => ∃ (s : Addr), vs = [.ref s] ∧ Src H s ∧ ∀ H2, XB s H H2 → Src H2 s → Q (.bl true) H2
theorem ok_law_right (T : TX K mg) : CG.FnOkG P w K mg base 9 T.f_law_right T.fd_law_right ["_law_source_here"] sp_law_right := by
  refine CG.okG T.F_law_right sc_law_right (fun vs H Q E h => ?_) (fun cdv A outer s H vs Q E gd hr h => ?_)
  · obtain ⟨s, rfl, _⟩ := h
    rfl
  · obtain ⟨s, rfl, hs, k⟩ := h
    refine ⟨_, (pss_cons (ps_set (i := 1) sc_law_right.nd rfl (Or.inl rfl) (pe_call (ok_law_rings_any T) (hr.mono (by decide)) rfl T.m_law_rings_any T.F_law_rings_any.kp T.b_law_rings_any .nil pass0 (pa_cons (pv 0) pa_nil))) (pss_cons (ps_set (i := 2) sc_law_right.nd rfl (Or.inl rfl) (pe_call (ok_law_goals T) (hr.mono (by decide)) rfl T.m_law_goals T.F_law_goals.kp T.b_law_goals .nil pass0 (pa_cons (pv 0) (pa_cons (pv 1) (pa_cons pe_int pa_nil))))) (pss_cons (ps_par3 (i := 3) (j := 4) (l := 5) rfl sc_law_right.nd rfl rfl rfl (by decide) (by decide) (by decide) rfl rfl rfl (pa_cons (pe_make T.M_Table (ok_Table_init T) (hr.mono (by decide)) rfl T.m_Table T.b_Table_init .nil pass0 (pa_cons (pv 1) pa_nil)) (pa_cons (pe_call (ok_law_list_calls T) (hr.mono (by decide)) rfl T.m_law_list_calls T.F_law_list_calls.kp T.b_law_list_calls .nil pass0 (pa_cons (pv 0) (pa_cons (pv 1) (pa_cons pe_int pa_nil)))) (pa_cons (pe_call (ok_law_list_words T) (hr.mono (by decide)) rfl T.m_law_list_words T.F_law_list_words.kp T.b_law_list_words .nil pass0 (pa_cons (pv 0) (pa_cons pe_int pa_nil))) pa_nil))) (by rfl)) (pss_cons (ps_par (i := 6) (j := 7) rfl sc_law_right.nd rfl rfl (by decide) rfl rfl (pa_cons (pe_callTy call_list_of (by rfl) T.z_list (by decide +kernel) (pa_cons (pv 2) pa_nil)) (pa_cons (pe_revLK K rfl (pv 2)) pa_nil)) (by rfl)) (pss_cons (ps_par (i := 8) (j := 9) rfl sc_law_right.nd rfl rfl (by decide) rfl rfl (pa_cons (pe_make T.M_Caller (ok_Caller_init T) (hr.mono (by decide)) rfl T.m_Caller T.b_Caller_init .nil pass0 (pa_cons (pv 3) (pa_cons (pv 6) (pa_cons (pv 4) pa_nil)))) (pa_cons (pe_make T.M_Responder (ok_Responder_init T) (hr.mono (by decide)) rfl T.m_Responder T.b_Responder_init .nil pass0 (pa_cons (pe_make T.M_Table (ok_Table_init T) (hr.mono (by decide)) rfl T.m_Table T.b_Table_init .nil pass0 (pa_cons (pe_callTy call_list_of (by rfl) T.z_list (by decide +kernel) (pa_cons (pv 1) pa_nil)) pa_nil)) (pa_cons (pv 7) (pa_cons (pv 5) pa_nil)))) pa_nil)) (by rfl)) (pss_cons (ps_expr (pe_bm0 PySem.F.plainAttrs_list PySem.F.slot_list_clear PySem.F.type_list_clear mt_clear (pv 6))) (pss_cons (ps_expr (pe_bm PySem.F.plainAttrs_list PySem.F.slot_list_append PySem.F.type_list_append mt_append (pv 7) (pa_cons (pe_ix ix_list (pv 2) pe_int (fun _ _ => rfl)) pa_nil))) (pss_cons (ps_set (i := 10) sc_law_right.nd rfl (Or.inl rfl) (pe_call (ok_law_drawn_seat T) (hr.mono (by decide)) rfl T.m_law_drawn_seat T.F_law_drawn_seat.kp T.b_law_drawn_seat .nil pass0 (pa_cons (pv 0) (pa_cons (pv 1) pa_nil)))) (pss_cons (ps_set (i := 11) sc_law_right.nd rfl (Or.inl rfl) (pe_call (ok_law_take T) (hr.mono (by decide)) rfl T.m_law_take T.F_law_take.kp T.b_law_take .nil pass0 (pa_cons (pv 0) (pa_cons pe_int pa_nil)))) (pss_cons (ps_for PassesOwn.never rfl (pi_range1 rfl T.z_range (pa_cons (pv 11) pa_nil)) (pg_name (i := 12) sc_law_right.nd rfl (Or.inl rfl)) (pss_cons (ps_expr (pe_meth (pv 8) T.cl_Caller T.me_Caller_next_call (ok_Caller_next_call T) (hr.mono (by decide)) T.b_Caller_next_call .nil pass0 (pa_cons (pv 10) pa_nil))) (pss_one (ps_expr (pe_meth (pv 9) T.cl_Responder T.me_Responder_answer (ok_Responder_answer T) hr T.b_Responder_answer .nil pass0 (pa_cons (pv 10) (pa_cons (pe_ix ix_list (pv 4) pe_int (fun _ _ => rfl)) pa_nil))))))) (pss_cons (ps_for PassesOwn.never rfl (pi_range1 rfl T.z_range (pa_cons pe_int pa_nil)) (pg_name (i := 13) sc_law_right.nd rfl (Or.inl rfl)) (pss_cons (ps_par (i := 14) (j := 15) rfl sc_law_right.nd rfl rfl (by decide) rfl rfl (pa_cons (pe_call (ok_law_start T) (hr.mono (by decide)) rfl T.m_law_start T.F_law_start.kp T.b_law_start .nil pass0 (pa_cons (pv 0) (pa_cons (pv 1) (pa_cons (pv 2) (pa_cons (pv 4) pa_nil))))) (pa_cons (pe_call (ok_law_take T) (hr.mono (by decide)) rfl T.m_law_take T.F_law_take.kp T.b_law_take .nil pass0 (pa_cons (pv 0) (pa_cons pe_int pa_nil))) pa_nil)) (by rfl)) (pss_cons (ps_set (i := 16) sc_law_right.nd rfl (Or.inl rfl) (pe_call (ok_law_game T) (hr.mono (by decide)) rfl T.m_law_game T.F_law_game.kp T.b_law_game .nil pass0 (pa_cons (pv 1) (pa_cons (pv 2) (pa_cons (pv 14) (pa_cons (pv 4) (pa_cons (pv 5) (pa_cons (pv 15) pa_nil)))))))) (pss_cons (ps_set (i := 17) sc_law_right.nd rfl (Or.inl rfl) (pe_callB (CG.cr_repr gd (u65 hr)) (by rfl) T.z_repr (by decide +kernel) (pa_cons (pv 16) pa_nil))) (pss_cons (ps_set (i := 18) sc_law_right.nd rfl (Or.inl rfl) (pe_call (ok_play T) hr rfl T.m_play T.F_play.kp T.b_play .nil pass0 (pa_cons (pv 3) (pa_cons (pe_call (ok_law_shuffled T) (hr.mono (by decide)) rfl T.m_law_shuffled T.F_law_shuffled.kp T.b_law_shuffled .nil pass0 (pa_cons (pv 0) (pa_cons (pv 2) pa_nil))) (pa_cons (pv 14) (pa_cons (pv 8) (pa_cons (pv 9) (pa_cons (pv 15) pa_nil)))))))) (pss_cons (ps_if (pt_cmpR op_ne (pe_callB (CG.cr_repr gd (u65 hr)) (by rfl) T.z_repr (by decide +kernel) (pa_cons (pv 18) pa_nil)) (pv 17) (nomark _)) (pss_one (ps_ret pe_bl)) pss_nil) (pss_cons (ps_expr (pe_bm0 PySem.F.plainAttrs_list PySem.F.slot_list_clear PySem.F.type_list_clear mt_clear (pe_ix ix_tup (pv 18) pe_int (fun _ _ => rfl)))) (pss_cons (ps_expr (pe_bm PySem.F.plainAttrs_list PySem.F.slot_list_append PySem.F.type_list_append mt_append (pe_ix ix_tup (pv 18) pe_int (fun _ _ => rfl)) (pa_cons pe_non pa_nil))) (pss_one (ps_if (pt_cmpR (r := rNeD K) (op_neD hr.units) (pe_call (ok_play T) hr rfl T.m_play T.F_play.kp T.b_play .nil pass0 (pa_cons (pv 3) (pa_cons (pv 2) (pa_cons (pv 14) (pa_cons (pv 8) (pa_cons (pv 9) (pa_cons (pv 15) pa_nil))))))) (pv 16) (nomark _)) (pss_one (ps_ret pe_bl)) pss_nil)))))))))) (pss_cons (ps_set (i := 19) sc_law_right.nd rfl (Or.inl rfl) (pe_callTy call_tuple_of (by rfl) T.z_tuple (by decide +kernel) (pa_cons (pe_lc (own := [("_law_one", 20), ("_law_size", 21)]) (g := (gTup K 2 (gCons (gName 20) (gCons (gName 21) gNil)))) rfl sc_law_right.nd (CZ.pi_z2 (fl := [true, true]) rfl (by rfl) T.z_zip (pa_cons (pe_ix ix_list (pv 4) (pe_op op_mod (pe_callTy call_int1 (by rfl) T.z_int (by decide +kernel) (pa_cons (pv 11) pa_nil)) (pe_callB call_len_seq (by rfl) T.z_len (by decide +kernel) (pa_cons (pv 4) pa_nil))) (fun _ _ => rfl)) (pa_cons (pv 1) pa_nil))) (blkOk_by (N := N_law_right) (sc := defScope s_law_right) (by decide +kernel)) (fun _ _ _ _ _ => (pg_tup rfl (pgs_cons (pg_name (i := 20) sc_law_right.nd rfl (Or.inl rfl)) (pgs_cons (pg_name (i := 21) sc_law_right.nd rfl (Or.inl rfl)) pgs_nil)))) (fun _ _ _ _ _ => pts_nil) (fun _ _ _ _ _ => (pe_op op_mod (pe_callTy call_int1 (by rfl) T.z_int (by decide +kernel) (pa_cons (pv 20) pa_nil)) (pv 21)))) pa_nil))) (pss_one (ps_ret (pe_and (pe_cmpR (r := rEqD K) (op_eqD hr.units) (pe_meth (pv 8) T.cl_Caller T.me_Caller_next_call (ok_Caller_next_call T) (hr.mono (by decide)) T.b_Caller_next_call .nil pass0 (pa_cons (pv 10) pa_nil)) (pv 19) (nomark _)) (pe_one (pe_cmpR op_eq (pe_meth (pv 9) T.cl_Responder T.me_Responder_answer (ok_Responder_answer T) hr T.b_Responder_answer .nil pass0 (pa_cons (pv 10) (pa_cons (pe_ix ix_list (pv 4) pe_int (fun _ _ => rfl)) pa_nil))) (pe_ix ix_list (pv 5) (pe_op op_mod (pe_callTy call_int1 (by rfl) T.z_int (by decide +kernel) (pa_cons (pv 11) pa_nil)) (pe_callB call_len_seq (by rfl) T.z_len (by decide +kernel) (pa_cons (pv 5) pa_nil))) (fun _ _ => rfl)) (nomark _)))))))))))))))))), ?_⟩
    refine ⟨_, rfl, s, rfl, hs, fun rt ns H1 hrt nrt ok b30 xb1 src1 => ?_⟩
    have bn3 : ∀ n ∈ ns, n.natAbs < 2 ^ 300 := fun n hn => by
      have h1 := ok.one n hn
      have h2 := b30 n hn
      exact Nat.lt_of_le_of_lt (show n.natAbs ≤ 10 ^ 30 by omega) (by decide +kernel)
    have bn : ∀ n ∈ ns, n.natAbs < 2 ^ 5000 := fun n hn => Nat.lt_of_lt_of_le (bn3 n hn) (Nat.pow_le_pow_right (by decide) (by decide))
    dsimp only [gName]
    refine ⟨_, rfl, _, rfl, s, rt, ns, 12, rfl, src1, hrt, ok, bn, by decide, by decide, fun g tss H2 hg ng ngs tne lt sks nod xb2 src2 => ?_⟩
    have lt : tss.length ≤ 12 := by omega
    have hr2 := tup_xb src1 hrt xb2
    have l4 := ok.le
    dsimp only [gName]
    refine ⟨_, rfl, ?_⟩
    refine mk_tab (b := true) (ns := ns) (show SqH H2 (true, rt) _ from hr2) ok fun bd H3 e3 nbd tab3 => ?_
    have src3 := src2.mono e3
    refine ⟨_, rfl, _, rfl, s, rt, ns, 6, rfl, src3, e3 _ _ hr2, ok, bn3, by decide, by decide, fun cl css H4 hcl ncl ncs cne clt ccc xb4 src4 => ?_⟩
    refine ⟨_, rfl, s, 6, rfl, src4, by decide, by decide, fun wl bs H5 hwl nwl nws bne blt xb5 src5 => ⟨_, _, _, rfl, ?_⟩⟩
    have X35 : XB s H3 H5 := xb4.trans xb5
    have hr5 := tup_xb src3 (e3 _ _ hr2) X35
    have tab5 := tab_xbs src3 X35 tab3
    have hg5 : RowsAt H5 g tss := rows_xb src3 ngs X35 (hg.mono e3)
    have hcl5 : RowsAt H5 cl css := rows_xb src4 ncs xb5 hcl
    have X05 : XB s H H5 := xb1.trans (xb2.trans ((XB.of e3).trans X35))
    have okC : (CSt.calls css).Ok ns tss := ⟨cne, by omega, fun c hc => (ccc c hc).1⟩
    have okW : (RS.words bs).Ok ns tss.reverse := ⟨bne, by omega⟩
    clear tab3 hr2 hrt hg hcl xb1 xb2 xb4 xb5 X35 src1 src2 src3 src4 e3 hs
    dsimp only [gName]
    show tSeq _ _ _ [_, _, _, _, _, _, _, _, _, _, _, _, _, _, _, _, _, _, _, _, _, _] _
    obtain ⟨gs, hgs, rgs⟩ := id hg5
    have lgs : gs.length = tss.length := rgs.len
    refine ⟨_, rfl, g, gs, rfl, .inl (SqL.of hgs), ?_⟩
    (intro gv ngv; generalize hGgv : upd _ gv _ = H6; have eH6 := exG hGgv ngv; have hgv := atG hGgv; clear hGgv)
    refine ⟨_, rfl, g, gs, rfl, SqL.of (eH6 _ _ hgs), ?_⟩
    (intro ot not; generalize hGot : upd _ ot _ = H7; have eH7 := exG hGot not; have hot := atG hGot; clear hGot)
    refine ⟨_, _, rfl, ?_⟩
    dsimp only [gName]
    show tSeq _ _ _ [_, _, _, _, _, _, _, _, _, _, _, _, _, _, _, _, _, _, _, _, _, _] _
    have E57 := ext eH6 eH7
    have rq1 : RowsQ H7 (false, gv) tss := ⟨gs, eH7 _ _ hgv, rgs.mono E57⟩
    have rq2 : RowsQ H7 (false, ot) tss.reverse := ⟨gs.reverse, hot, rows_rev (rgs.mono E57)⟩
    refine ⟨_, rfl, _, rfl, _, rfl, ?_⟩
    refine mk_caller (bq := false) (cs := .calls css) (tab5.mono E57) ok rq1 tne (by omega) sks nod bn ⟨cl, rfl, hcl5.mono E57⟩ okC fun mv H8 e8 nmv omv umv => ?_
    refine ⟨_, rfl, rt, _, rfl, .inr (SqT.of ((ext E57 e8) _ _ hr5)), ?_⟩
    (intro rl nrl; generalize hGrl : upd _ rl _ = H9; have eH9 := exG hGrl nrl; have hrl := atG hGrl; clear hGrl)
    refine mk_tab (b := false) (ns := ns) (show SqH H9 (false, rl) _ from hrl) ok fun bd2 Ha ea nbd2 taba => ?_
    have E7a : Ex H7 Ha := ext e8 (ext eH9 ea)
    have E5a : Ex H5 Ha := ext E57 E7a
    refine ⟨_, rfl, _, rfl, ?_⟩
    refine mk_resp (bq := false) (rs := .words bs) taba ok (rq2.mono E7a) (by simpa using tne) (by rw [List.length_reverse]; omega) (fun t ht => sks t (List.mem_reverse.mp ht)) ((List.reverse_perm tss).nodup_iff.mpr nod) bn ⟨wl, rfl, E5a _ _ hwl⟩ okW fun on Hb eb non oon uon => ?_
    refine ⟨_, _, rfl, ?_⟩
    dsimp only [gName]
    show tSeq _ _ _ [_, _, _, _, _, _, _, _, _, _, _, _, _, _, _, _, _, _, _, _, _, _] _
    have E7b := ext E7a eb
    have ocg := (omv gv _ (eH7 _ _ hgv)).mono (ext eH9 (ext ea eb))
    have oco := (omv ot _ hot).mono (ext eH9 (ext ea eb))
    have org := oon gv _ (E7a _ _ (eH7 _ _ hgv))
    have oro := oon ot _ (E7a _ _ hot)
    have hgvb := E7b _ _ (eH7 _ _ hgv)
    have hotb := E7b _ _ hot
    have ngo : gv ≠ ot := ne_of_none hgv not
    have nsg : gv ≠ s := src5.ne ngv
    have nso : ot ≠ s := (src5.mono eH6).ne not
    have E5b := ext E57 E7b
    refine ⟨_, rfl, .inl ⟨rfl, _, SqL.of hgvb⟩, gv, _, rfl, rfl, hgvb, ?_⟩
    generalize hGc : upd Hb gv _ = Hc
    have X1 : XB gv Hb Hc := fun c o n z => by rw [← hGc, upd_ne n]; exact z
    have ex1 : Ex H5 Hc := fun c o z => X1 _ _ (ne_of_none z ngv) (E5b _ _ z)
    clear hGc
    have oco := CallerO.two hgvb X1 ocg oco
    have oro := RespO.two hgvb X1 org oro
    have hotc := X1 _ _ ngo.symm hotb
    have hgc := ex1 _ _ hgs
    dsimp only [tNext]
    obtain ⟨t0, tr, rfl⟩ : ∃ t0 tr, tss = t0 :: tr := match tss, tne with | t0 :: tr, _ => ⟨t0, tr, rfl⟩
    obtain ⟨q0, gs', rfl, hq0⟩ := rows_head rgs
    refine ⟨_, rfl, .inl ⟨rfl, _, SqL.of hotc⟩, _, rfl, g, _, _, _, rfl, rfl, SqL.of hgc, (L2.atI_nat (show (V.ref q0 :: gs')[0]? = some (V.ref q0) from rfl)), ot, _, _, rfl, rfl, hotc, ?_, ?_⟩
    · rw [List.length_reverse]
      exact Nat.lt_of_lt_of_le (show _ < 13 by omega) (by decide)
    generalize hGd : upd Hc ot _ = Hd
    have X2 : XB ot Hc Hd := fun c o n z => by rw [← hGd, upd_ne n]; exact z
    clear hGd
    have ex2 : Ex H5 Hd := fun c o z => X2 _ _ (ne_of_none z (Evl.fresh_back eH6 not)) (ex1 _ _ z)
    have cmv := CallerO.cut hotc X2 oco
    have cron := RespO.cut hotc X2 oro
    have src := src5.mono ex2
    have umv' := umv.mono (ext eH9 ea)
    clear oco oro ocg org omv oon umv uon X1 X2 hotc hgc hgvb hotb E7b E5b ex1
    dsimp only [tNext]
    have hrd := ex2 _ _ hr5
    have n7 : ∀ y, H7 y = none → y ≠ s ∧ H y = none := fun y hy => by
      have ny := (src5.mono E57).ne hy
      exact ⟨ny, (X05.trans (XB.of E57)).back ny hy⟩
    have nmvH := (n7 mv nmv).2
    have nonH : H on = none := (n7 on (Evl.fresh_back E7a non)).2
    have nom : on ≠ mv := by
      obtain ⟨dx, fs, h1, _⟩ := umv'.ins5
      exact ((ne_of_none h1 non)).symm
    have hrd' := hrd
    refine ⟨_, rfl, _, rfl, s, rt, ns, rfl, src, hrd, ok, bn, fun sp p He nsp hsp skp xbe srce => ?_⟩
    dsimp only [gName]
    show tSeq _ _ _ [_, _, _, _, _, _, _, _, _, _, _, _, _, _, _, _, _, _, _, _, _, _] _
    refine ⟨_, rfl, s, 5, rfl, srce, by decide, by decide +kernel, fun used Hf us0 us5 xbf srcf => ?_⟩
    have okCc := okC
    have sc0 : Sc T.C_Caller T.C_Responder T.C_Table s rt bd g cl wl mv on sp ns (t0 :: tr) (t0 :: tr).reverse css bs p 0 0 He :=
      ⟨srce, tup_xb src hrd xbe, tab_xbs src xbe (tab5.mono ex2), rows_xb src ngs xbe (hg5.mono ex2), rows_xb src ncs xbe (hcl5.mono ex2), xbe _ _ nws (ex2 _ _ hwl), cmv.src src xbe okC, cron.src src xbe okW, hsp⟩
    have sc : Sc T.C_Caller T.C_Responder T.C_Table s rt bd g cl wl mv on sp ns (t0 :: tr) (t0 :: tr).reverse css bs p 0 0 Hf := sc0.drawn tne cne bne okC okW xbf srcf
    have X0f : XB s H Hf := X05.trans ((XB.of ex2).trans (xbe.trans xbf))
    clear sc0 cmv cron hrd' hrd src srce srcf xbe xbf hg5 hcl5 tab5 hwl hr5 hgs rgs lgs rq1 rq2 taba src5 ex2
    dsimp only [gName]
    show tSeq _ _ _ [_, _, _, _, _, _, _, _, _, _, _, _, _, _, _, _, _, _, _, _, _, _] _
    obtain ⟨c0, cr, rfl⟩ : ∃ c0 cr, css = c0 :: cr := match css, cne with | c0 :: cr, _ => ⟨c0, cr, rfl⟩
    have lc0 := (ccc c0 List.mem_cons_self).1
    have sk2 : ∀ t ∈ (t0 :: tr).reverse, SeatOk ns t := fun t ht => sks t (List.mem_reverse.mp ht)
    have ccc1 : ∀ c ∈ c0 :: cr, c.length = ns.length := fun c hc => (ccc c hc).1
    refine ⟨_, rfl, used, rfl, by omega, by omega, ?_⟩
    refine for_it walk_range (fun i σ Hx => (∃ y12 y13 y14 y15 y16 y17 y18 y19 y20 y21 : Option V, σ = [some (.ref s), some (.ref rt), some (.ref g), some (.ref bd), some (.ref cl), some (.ref wl), some (.ref gv), some (.ref ot), some (.ref mv), some (.ref on), some (.ref sp), some (.int used), y12, y13, y14, y15, y16, y17, y18, y19, y20, y21]) ∧ Sc T.C_Caller T.C_Responder T.C_Table s rt bd g cl wl mv on sp ns (t0 :: tr) (t0 :: tr).reverse (c0 :: cr) bs p i i Hx ∧ XB s H Hx) ⟨⟨_, _, _, _, _, _, _, _, _, _, rfl⟩, sc, X0f⟩ (fun _ _ _ _ _ => True.intro) ?_ ?_
    · rintro i x σ _ Hx hi ⟨⟨y12, y13, y14, y15, y16, y17, y18, y19, y20, y21, rfl⟩, sc, xb⟩ ⟨rfl, rfl⟩
      dsimp only [gName]
      obtain ⟨dx, fs, h1, hfs, l5⟩ := sc.mv.ins5
      refine ⟨_, rfl, mv, dx, _, rfl, h1, hfs, _, rfl, mv, sp, ns, p, _, .calls (c0 :: cr), i, rfl, sc.mv, ok, sks, nod, okC, sc.sp, skp, fun q1 Hj xbj c2j hq1 => ?_⟩
      have scj := sc.call nom xbj c2j
      obtain ⟨dx2, fs2, h2, hfs2, l52⟩ := scj.on.ins5
      obtain ⟨cz, hcz, rcz⟩ := scj.hc
      obtain ⟨qz, cz', rfl, hqz⟩ := rows_head rcz
      refine ⟨_, rfl, on, dx2, _, rfl, h2, hfs2, _, rfl, _, rfl, cl, _, _, _, rfl, rfl, SqL.of hcz, L2.atI_nat (show (V.ref qz :: cz')[0]? = some (V.ref qz) from rfl), on, sp, qz, ns, p, c0, _, .words bs, i, rfl, scj.on, ok, bn, okW, (by simp), scj.sp, skp, hqz, lc0, rfl, fun Hk xbk _ r2k => ?_⟩
      exact ⟨⟨_, _, _, _, _, _, _, _, _, _, rfl⟩, scj.answer nom.symm xbk r2k, fun c o nc z => xbk _ _ (ne_of_none z nonH) (xbj _ _ (ne_of_none z nmvH) (xb c o nc z))⟩
    rintro σ Hu ⟨⟨y12, y13, y14, y15, y16, y17, y18, y19, y20, y21, rfl⟩, scu, xbu⟩
    clear sc X0f
    replace scu : Sc T.C_Caller T.C_Responder T.C_Table s rt bd g cl wl mv on sp ns (t0 :: tr) (t0 :: tr).reverse (c0 :: cr) bs p used.toNat used.toNat Hu := scu
    show tSeq _ _ _ _ _
    refine ⟨3, rfl, by decide, by decide, ?_⟩
    refine for_it walk_range (fun i σ Hx => (∃ y12 y13 y14 y15 y16 y17 y18 y19 y20 y21 : Option V, σ = [some (.ref s), some (.ref rt), some (.ref g), some (.ref bd), some (.ref cl), some (.ref wl), some (.ref gv), some (.ref ot), some (.ref mv), some (.ref on), some (.ref sp), some (.int used), y12, y13, y14, y15, y16, y17, y18, y19, y20, y21]) ∧ Sc T.C_Caller T.C_Responder T.C_Table s rt bd g cl wl mv on sp ns (t0 :: tr) (t0 :: tr).reverse (c0 :: cr) bs p used.toNat used.toNat Hx ∧ XB s H Hx) ⟨⟨_, _, _, _, _, _, _, _, _, _, rfl⟩, scu, xbu⟩ (fun _ _ _ _ _ => True.intro) ?_ ?_
    · rintro i x σ _ Hx hi ⟨⟨y12, y13, y14, y15, y16, y17, y18, y19, y20, y21, rfl⟩, sc, xb⟩ ⟨rfl, rfl⟩
      clear scu xbu
      dsimp only [gName]
      show tSeq _ _ _ [_, _, _, _, _, _, _, _, _, _, _, _, _, _, _, _, _, _, _, _, _, _] _
      refine ⟨_, rfl, _, rfl, _, rfl, _, rfl, s, rt, g, cl, ns, t0 :: tr, c0 :: cr, rfl, sc.src, sc.hr, ok, bn, sc.hg, ngs, tne, by omega, sks, sc.hc, ncs, cne, ccc1, fun bg pb H2 hbg skb xb2 src2 => ?_⟩
      refine ⟨_, rfl, s, 41, rfl, src2, by decide, by decide +kernel, fun liz H3 lz0 lz1 xb3 src3 => ⟨_, _, rfl, ?_⟩⟩
      obtain ⟨lim, rfl⟩ : ∃ n : Nat, liz = (n : Int) := ⟨liz.toNat, by omega⟩
      have sc3 := (sc.drawn tne cne bne okC okW xb2 src2).drawn tne cne bne okC okW xb3 src3
      have hbg3 := tup_xb src2 hbg xb3
      have X03 : XB s H H3 := xb.trans (xb2.trans xb3)
      clear sc xb xb2 src2 hbg
      dsimp only [gName]
      show tSeq _ _ _ [_, _, _, _, _, _, _, _, _, _, _, _, _, _, _, _, _, _, _, _, _, _] _
      refine ⟨_, rfl, _, rfl, _, rfl, _, rfl, _, rfl, _, rfl, rt, g, bg, cl, wl, lim, ns, pb, t0 :: tr, c0 :: cr, bs, rfl, sc3.hr, ok, sc3.hg, hbg3, skb, sc3.hc, cne, by omega, ccc1, sc3.hw, bne, by omega, by omega, fun r f hz xs yl H4 e4 hr4 hf4 hm4 hh4 hs4 nf nh => ?_⟩
      have size := course_size (tss := t0 :: tr) (rs := .words bs) ok cne ccc1 lim 0 pb skb
      have cperm : ∀ t2 : List (List Int), t2.Perm (t0 :: tr) → course ns t2 (.calls (c0 :: cr)) (.words bs) 0 lim pb = course ns (t0 :: tr) (.calls (c0 :: cr)) (.words bs) 0 lim pb := fun t2 h => course_perm (fun q => h.mem_iff) _ _ _
      generalize hcg : course ns (t0 :: tr) (.calls (c0 :: cr)) (.words bs) 0 lim pb = cg at *
      have ho : Shw 20 (.str (if decide (cg.2.getLastD [] ∈ t0 :: tr) = true then ("reached" : Str) else "open")) ∧ PyData.strOk (if decide (cg.2.getLastD [] ∈ t0 :: tr) = true then ("reached" : Str) else "open") = true := by
        by_cases c : cg.2.getLastD [] ∈ t0 :: tr
        · rw [decide_eq_true c]
          exact ⟨⟨rfl, rfl, by rw [PyData.shown_str]; decide +kernel⟩, by decide +kernel⟩
        · rw [decide_eq_false c]
          exact ⟨⟨rfl, rfl, by rw [PyData.shown_str]; decide +kernel⟩, by decide +kernel⟩
      have hout : ∀ t2 : List (List Int), t2.Perm (t0 :: tr) → (if decide (cg.2.getLastD [] ∈ t2) = true then ("reached" : Str) else "open") = (if decide (cg.2.getLastD [] ∈ t0 :: tr) = true then ("reached" : Str) else "open") := fun t2 h => by
        rw [show decide (cg.2.getLastD [] ∈ t2) = decide (cg.2.getLastD [] ∈ t0 :: tr) from decide_eq_decide.mpr h.mem_iff]
      generalize (if decide (cg.2.getLastD [] ∈ t0 :: tr) = true then ("reached" : Str) else "open") = o at *
      have shw := game_shw (g := cg) l4 bn3 (by omega) (by omega) size.2.2.1 size.2.2.2 ho.1
      have sh := game_sh (k := 50) cg ho.2
      have dp60 : (gameD cg o).depth ≤ 60 := Nat.le_trans sh.2 (by decide)
      dsimp only [gName]
      show tSeq _ _ _ [_, _, _, _, _, _, _, _, _, _, _, _, _, _, _, _, _, _, _, _, _, _] _
      refine ⟨_, rfl, r, gameD cg o, rfl, game_dp hr4 hf4 hm4 hh4 hs4, shw.1, shw.2.1, Nat.le_trans shw.2.2 (by decide), dp60, ?_⟩
      dsimp only [gName]
      show tSeq _ _ _ [_, _, _, _, _, _, _, _, _, _, _, _, _, _, _, _, _, _, _, _, _, _] _
      have sc4 := sc3.mono e4
      have hbg4 := e4 _ _ hbg3
      have nfs : f ≠ s := sc3.src.ne nf
      have nhs : hz ≠ s := sc3.src.ne nh
      obtain ⟨gs4, hgs4, rgs4⟩ := id sc4.hg
      have lgs4 : gs4.length = (t0 :: tr).length := rgs4.len
      refine ⟨_, rfl, _, rfl, _, rfl, s, g, gs4, rfl, sc4.src, hgs4, ngs, by omega, DataIn.rows sc4.src rgs4, fun sh5 ys5 H5 nsh hsh pm5 xb5 src5 => ?_⟩
      have sc5 := sc4.drawn tne cne bne okC okW xb5 src5
      have hbg5 := tup_xb sc4.src hbg4 xb5
      have tx5 : ∀ c zs, H4 c = some (.tup zs) → H5 c = some (.tup zs) := fun c zs z => tup_xb sc4.src z xb5
      have hr5 := tx5 _ _ hr4
      have hf5 := xb5 _ _ nfs hf4
      have hh5 := xb5 _ _ nhs hh4
      have hm5 := hm4.monoT tx5
      have hs5 := hs4.monoT tx5
      obtain ⟨tz, rtz, ptz⟩ := paired_perm pm5 (rgs4.monoT tx5)
      have X05 : XB s H H5 := X03.trans ((XB.of e4).trans xb5)
      clear sc4 hr4 hf4 hm4 hh4 hs4 rgs4 hgs4 X03 sc3 hbg4 hbg3
      have tzne : tz ≠ [] := fun z => by
        rw [z] at ptz
        exact absurd (List.nil_perm.mp ptz) (by simp)
      have ltz := ptz.length_eq
      refine ⟨_, rfl, _, rfl, _, rfl, _, rfl, bd, bg, mv, on, (false, sh5), lim, ns, pb, tz, t0 :: tr, (t0 :: tr).reverse, .calls (c0 :: cr), .words bs, rfl, sc5.tab, ok, bn, ⟨ys5, hsh, rtz⟩, tzne, by omega, (fun t ht => sks t (ptz.mem_iff.mp ht)), ptz.nodup_iff.mpr nod, hbg5, skb, sc5.mv.at, okC, ptz.symm, sc5.on.at, okW, ((List.reverse_perm _).trans ptz.symm), by omega, (fun _ => rfl), fun t2 f2 h2 xs2 ys2 H6 e6 ht2 hf2 hm2 hh2 hs2 nf2 nh2 => ?_⟩
      rw [cperm tz ptz] at ht2 hm2 hs2
      rw [hout tz ptz] at ht2
      dsimp only [gName]
      show tSeq _ _ _ [_, _, _, _, _, _, _, _, _, _, _, _, _, _, _, _, _, _, _, _, _, _] _
      refine ⟨_, rfl, t2, gameD cg o, rfl, game_dp ht2 hf2 hm2 hh2 hs2, shw.1, shw.2.1, Nat.le_trans shw.2.2 (by decide), dp60, _, rfl, rfl, _, rfl, itf (by simp) ?_⟩
      dsimp only [tNext]
      have n5 : ∀ y, H5 y = none → H y = none := fun y hy => X05.back (sc5.src.ne hy) hy
      refine ⟨_, rfl, t2, _, _, _, rfl, rfl, SqT.of ht2, rfl, .inl ⟨rfl, _, SqL.of hf2⟩, f2, _, rfl, rfl, hf2, ?_⟩
      have nfh2 : f2 ≠ h2 := fun z => by
        subst z
        rw [hf2] at hh2
        have := hs2
        injection hh2 with hh2
        injection hh2 with hh2
        subst hh2
        have h1 := Paired.length hm2
        have h2 := hs2.len
        have h3 := course_two (ns := ns) (tss := t0 :: tr) (cs := .calls (c0 :: cr)) (rs := .words bs) lim 0 pb
        rw [hcg] at h3
        omega
      generalize hG7 : upd H6 f2 _ = H7
      have ht7 : H7 t2 = some (.tup [.ref f2, .ref h2, .str o]) := by rw [← hG7]; exact tup_pshL hf2 ht2
      have hh7 : H7 h2 = some (.lst ys2) := by rw [← hG7, upd_ne nfh2.symm]; exact hh2
      have E57 : Ex H5 H7 := by rw [← hG7]; exact ex_upd e6 nf2
      clear hG7
      dsimp only [tNext]
      refine ⟨_, rfl, t2, _, _, _, rfl, rfl, SqT.of ht7, rfl, .inl ⟨rfl, _, SqL.of hh7⟩, h2, _, _, rfl, rfl, hh7, ?_, ?_⟩
      · have h1 := hs2.len
        have h2 := size.2.1
        exact Nat.lt_of_le_of_lt (show _ ≤ 50 by omega) (by decide)
      generalize hG8 : upd H7 h2 _ = H8
      have E58 : Ex H5 H8 := by rw [← hG8]; exact ex_upd E57 nh2
      clear hG8
      dsimp only [tNext]
      have sc8 := sc5.mono E58
      refine ⟨_, rfl, _, rfl, _, rfl, _, rfl, _, rfl, _, rfl, bd, bg, mv, on, (false, g), lim, ns, pb, t0 :: tr, t0 :: tr, (t0 :: tr).reverse, .calls (c0 :: cr), .words bs, rfl, sc8.tab, ok, bn, sc8.hg, tne, by omega, sks, nod, E58 _ _ hbg5, skb, sc8.mv.at, okC, List.Perm.refl _, sc8.on.at, okW, List.reverse_perm _, by omega, (fun _ => rfl), fun t3 f3 h3 xs3 ys3 H9 e9 ht3 hf3 hm3 hh3 hs3 nf3 nh3 => ?_⟩
      rw [cperm _ (List.Perm.refl _)] at ht3 hm3 hs3
      rw [hout _ (List.Perm.refl _)] at ht3
      have E59 := ext E58 e9
      refine ⟨_, rfl, _, _, game_dp ht3 hf3 hm3 hh3 hs3, game_dp (E59 _ _ hr5) (E59 _ _ hf5) (hm5.mono E59) (E59 _ _ hh5) (hs5.mono E59), (sh.up (by decide)).ok, (sh.up (by decide)).ok, _, rfl, itf ?_ ?_⟩
      · rw [eqv_refl _ sh.1]
        rfl
      exact ⟨⟨_, _, _, _, _, _, _, _, _, _, rfl⟩, sc5.mono E59, X05.trans (XB.of E59)⟩
    rintro σ Hu ⟨⟨y12, y13, y14, y15, y16, y17, y18, y19, y20, y21, rfl⟩, sc, xb⟩
    clear scu xbu
    dsimp only
    obtain ⟨cn, hcn⟩ : ∃ cn : Nat, used = (cn : Int) := ⟨used.toNat, by omega⟩
    have hct : used.toNat = cn := by omega
    rw [hct] at sc
    obtain ⟨czs, hcz, rcz⟩ := id sc.hc
    have lcz : czs.length = (c0 :: cr).length := rcz.len
    obtain ⟨c1, v1, hc1, hv1, hat⟩ := ix_mod cn cne lcz
    obtain ⟨c1', q1, hc1', rfl, hq1⟩ := rcz.get hv1
    obtain rfl : c1' = c1 := Option.some.inj (hc1'.symm.trans hc1)
    have lc1 := ccc1 c1' (List.mem_of_getElem? hc1)
    have cpos : (0 : Int) < (czs.length : Int) := by
      have := List.length_pos_iff.mpr cne
      omega
    have eix : used % (czs.length : Int) = ((cn % (c0 :: cr).length : Nat) : Int) := by
      rw [hcn, lcz]
      rfl
    refine ⟨_, rfl, _, rfl, .inl ⟨_, rfl, _, rfl, cl, _, rfl, .inl (SqL.of hcz), _, _, rfl, rfl, cpos, cl, _, _, _, rfl, rfl, SqL.of hcz, by rw [eix]; exact hat, _, rfl, [q1, rt], rfl, rfl, all2 (sqT hq1) (sqT sc.hr), fun D2 hD2 => ?_⟩⟩
    have lmm := modL_len (ns := ns) lc1
    refine lc_vals (CZ.walk_rows (xss := [c1'.map V.int, ns.map V.int]) (n := ns.length) (lens2 (by rw [List.length_map, lc1]) (by rw [List.length_map]))) ((modL ns c1').map V.int) (by rw [List.length_map, lmm]) (by omega) hD2 (fun H3 e => .cons (sqT (e _ _ hq1)) (.cons (sqT (e _ _ sc.hr)) .nil)) ?_ (gmono_tup (gmono_cons gmono_name (gmono_cons gmono_name gmono_nil))) ?_
    · intro j y H6 H7 R hj e yy kk
      obtain ⟨Tb, c, n, rfl, hTb, rfl, hp, hdd⟩ := yints2 yy
      have n1 := ok.one n (List.mem_of_getElem? hdd)
      refine ⟨Tb, _, rfl, SqT.of upd_same, rfl, _, _, rfl, _, _, rfl, rfl, ?_⟩
      refine ⟨rfl, _, rfl, .inl ⟨_, rfl, _, rfl, _, _, rfl, rfl, (by show (0 : Int) < n; omega), ?_⟩⟩
      refine kk _ _ (exn hTb) ?_
      unfold modL
      rw [List.getElem?_map, List.getElem?_zipWith, hp, hdd]
      rfl
    intro Ha ea hD2a
    refine ⟨D2, _, rfl, .inl ⟨SqL.of hD2a, ?_⟩⟩
    (intro pt npt; generalize hGpt : upd _ pt _ = Hb; have eHb := exG hGpt npt; have hpt := atG hGpt; clear hGpt)
    have hpt : Hb pt = some (.tup ((modL ns c1').map V.int)) := hpt
    dsimp only [gName]
    have Eb := ext ea eHb
    have scb := sc.mono Eb
    show tRet _ _ [_, _, _, _, _, _, _, _, _, _, _, _, _, _, _, _, _, _, _, _, _, _] _
    obtain ⟨dx, fs, h1, hfs, l5⟩ := scb.mv.ins5
    refine ⟨_, rfl, mv, dx, _, rfl, h1, hfs, _, rfl, mv, sp, ns, p, _, .calls (c0 :: cr), cn, rfl, scb.mv, ok, sks, nod, okC, scb.sp, skp, fun qa Hj xbj c2j hqa => ?_⟩
    have hcall : (CSt.calls (c0 :: cr)).call ns p cn = modL ns c1' := by
      show modL ns ((c0 :: cr).getD (cn % (c0 :: cr).length) []) = _
      rw [List.getD_eq_getElem?_getD, hc1]
      rfl
    rw [hcall] at hqa
    have xj := xbj.xi h1
    refine ⟨_, rfl, _, _, dp_ints hqa, dp_ints (xj.tup hpt), (sh_ints (n := 59) _).ok, (sh_ints (n := 59) _).ok, _, rfl, itt (eqv_refl _ (sh_ints (n := 59) _).1) ?_⟩
    have scj := scb.call nom xbj c2j
    obtain ⟨dx2, fs2, h2, hfs2, l52⟩ := scj.on.ins5
    obtain ⟨cz, hcz2, rcz2⟩ := scj.hc
    obtain ⟨qz, cz', rfl, hqz⟩ := rows_head rcz2
    refine ⟨_, rfl, on, dx2, _, rfl, h2, hfs2, _, rfl, _, rfl, cl, _, _, _, rfl, rfl, SqL.of hcz2, L2.atI_nat (show (V.ref qz :: cz')[0]? = some (V.ref qz) from rfl), on, sp, qz, ns, p, c0, _, .words bs, cn, rfl, scj.on, ok, bn, okW, (by simp), scj.sp, skp, hqz, lc0, rfl, fun Hk xbk _ r2k => ?_⟩
    have sck := scj.answer nom.symm xbk r2k
    obtain ⟨w0, v2, hw0, hv2, hat2⟩ := ix_mod (vs := wordsV bs) cn bne (by rw [List.length_map])
    have hv2b : v2 = .str (awayW w0) := by
      rw [List.getElem?_map, hw0] at hv2
      exact (Option.some.inj hv2).symm
    subst hv2b
    have ew : dirAt ns p c0 cn (.words bs) = w0 := by
      show bs.getD (cn % bs.length) false = w0
      rw [List.getD_eq_getElem?_getD, hw0]
      rfl
    rw [ew]
    have wpos : (0 : Int) < ((wordsV bs).length : Int) := by
      have := List.length_pos_iff.mpr bne
      rw [List.length_map]
      omega
    have eix2 : used % (((wordsV bs).length : Nat) : Int) = ((cn % bs.length : Nat) : Int) := by
      rw [hcn, List.length_map]
      rfl
    refine ⟨_, rfl, _, rfl, .inl ⟨_, rfl, _, rfl, wl, _, rfl, .inl (SqL.of sck.hw), _, _, rfl, rfl, wpos, wl, _, _, _, rfl, rfl, SqL.of sck.hw, by rw [eix2]; exact hat2, ?_⟩⟩
    refine ⟨rfl, ?_⟩
    rw [show (decide _ : Bool) = true from decide_eq_true rfl]
    exact k Hk (fun c o nc z => xbk _ _ (ne_of_none z nonH) (xbj _ _ (ne_of_none z nmvH) (Eb _ _ (xb c o nc z)))) sck.src
end

/-! ### comprehensions of new tuples -/
theorem paired_mono {α : Type} {P Q : V → α → Prop} (h : ∀ v a, P v a → Q v a) : ∀ {xs : List V} {as : List α}, Paired P xs as → Paired Q xs as
  | _, _, .nil => .nil
  | _, _, .cons q t => .cons (h _ _ q) (paired_mono h t)
theorem paired_snoc {α : Type} {P : V → α → Prop} {v : V} {a : α} (h : P v a) : ∀ {xs : List V} {as : List α}, Paired P xs as → Paired P (xs ++ [v]) (as ++ [a])
  | _, _, .nil => .cons h .nil
  | _, _, .cons q t => .cons q (paired_snoc h t)
theorem lc_new {α : Type} (Pd : Hp → V → α → Prop) (mono : ∀ (H H2 : Hp) (v : V) (a : α), (∀ c xs, H c = some (.tup xs) → H2 c = some (.tup xs)) → Pd H v a → Pd H2 v a)
    {J : It} {n : Nat} {G : Hp → Prop} {Y : Nat → Hp → V → Hp → Prop} (w : Walk J n G Y) {g : TG} {te : TE} {vs : List Nat} {σ : L2.St} {H1 : Hp} {D : Addr} {Qd : Hp → Prop} (as : List α) (hn : as.length = n) (hl : n ≤ 10000000) (hD : H1 D = none)
    (hG : ∀ H, Ex H1 H → G H)
    (hs : ∀ i x a H H2 (R : VK), as[i]? = some a → Ex H1 H → Y i H x H2 → (∀ v H5, Ex H H5 → Pd H5 v a → R v H5) → g x (wipe σ vs) H2 fun σ2 H3 => wipe σ2 vs = wipe σ vs ∧ te σ2 H3 R)
    (hg : ∀ x σ2 H2 (R R2 : L2.St → Hp → Prop), (∀ σ3 H3, R σ3 H3 → R2 σ3 H3) → g x σ2 H2 R → g x σ2 H2 R2)
    (hd : ∀ H xs, Ex H1 H → H D = some (.lst xs) → Paired (Pd H) xs as → Qd H) :
    ∃ W : Nat → Nat → Hp → Prop, (∃ m, W 0 m (upd H1 D (.lst []))) ∧ ∀ i m H, W i m H →
      (J.stop i H ∧ Qd H) ∨ (J.go i H ∧ ∃ Nx : Hp → Prop, (∀ H2, Nx H2 → ∃ m2, m2 < m ∧ W (i + 1) m2 H2) ∧ ∀ x H2, J.yld i H x H2 → g x (wipe σ vs) H2 fun σ2 H3 => wipe σ2 vs = wipe σ vs ∧ tYes σ2 H3 fun b H4 =>
        if b = true then te σ2 H4 fun y H5 => ∃ acc, H5 D = some (.lst acc) ∧ acc.length < sizeLine ∧ Nx (upd H5 D (.lst (acc ++ [y]))) else Nx H4) := by
  refine lc_it w (fun i H => Ex H1 H ∧ ∃ xs, H D = some (.lst xs) ∧ Paired (Pd H) xs (as.take i)) ⟨exn hD, [], upd_same, .nil⟩ (fun i H _ p => hG H p.1) (fun i x H H2 hi p y => ?_) (fun H p => ?_)
  · obtain ⟨a, ha⟩ : ∃ a, as[i]? = some a := ⟨_, List.getElem?_eq_getElem (by omega)⟩
    refine hg _ _ _ _ _ (fun σ3 H3 q => ⟨q.1, q.2⟩) (hs i x a H H2 (fun y H5 => ∃ acc, H5 D = some (.lst acc) ∧ acc.length < sizeLine ∧ Ex H1 (upd H5 D (.lst (acc ++ [y]))) ∧ ∃ xs, upd H5 D (.lst (acc ++ [y])) D = some (.lst xs) ∧ Paired (Pd (upd H5 D (.lst (acc ++ [y])))) xs (as.take (i + 1))) ha p.1 y fun v H5 e hv => ?_)
    obtain ⟨p1, xs, p2, p3⟩ := p
    have tp : ∀ c zs, H5 c = some (.tup zs) → upd H5 D (.lst (xs ++ [v])) c = some (.tup zs) := fun c zs z => by
      rw [upd_ne (ne_of z (e _ _ p2) (by intro q; cases q))]
      exact z
    refine ⟨xs, e _ _ p2, ?_, ex_upd (ext p1 e) hD, xs ++ [v], upd_same, ?_⟩
    · rw [Paired.length p3, List.length_take]
      exact Nat.lt_of_le_of_lt (Nat.le_trans (Nat.min_le_right _ _) (by rw [hn]; exact hl)) (by decide)
    · rw [take_more ha]
      refine paired_snoc (mono _ _ _ _ tp hv) (paired_mono (fun v a q => mono _ _ _ _ tp (mono _ _ _ _ (fun c zs z => e _ _ z) q)) p3)
  · obtain ⟨p1, xs, p2, p3⟩ := p
    rw [List.take_of_length_le (by omega)] at p3
    exact hd H xs p1 p2 p3
def PdRow (H : Hp) (x : V) (hs : List Int) : Prop := ∃ r, x = V.ref r ∧ H r = some (.tup (hs.map V.int))
theorem pdrow_mono (H H2 : Hp) (v : V) (a : List Int) (e : ∀ c xs, H c = some (.tup xs) → H2 c = some (.tup xs)) (h : PdRow H v a) : PdRow H2 v a := by
  obtain ⟨r, h1, h2⟩ := h
  exact ⟨r, h1, e _ _ h2⟩

/-- a comprehension of new objects with a test -/
theorem lc_newF {α : Type} (Pd : Hp → V → α → Prop) (mono : ∀ (H H2 : Hp) (v : V) (a : α), (∀ c xs, H c = some (.tup xs) → H2 c = some (.tup xs)) → Pd H v a → Pd H2 v a)
    {J : It} {n : Nat} {G : Hp → Prop} {Y : Nat → Hp → V → Hp → Prop} (w : Walk J n G Y) {g : TG} {tt : TT} {te : TE} {vs : List Nat} {σ : L2.St} {H1 : Hp} {D : Addr} {Qd : Hp → Prop} (as : List α) (c : α → Bool) (hn : as.length = n) (hl : n ≤ 10000000) (hD : H1 D = none)
    (hG : ∀ H, Ex H1 H → G H)
    (hs : ∀ i x a H H2 (R : VK) (S : Hp → Prop), as[i]? = some a → Ex H1 H → Y i H x H2 → (∀ v H5, Ex H H5 → c a = true → Pd H5 v a → R v H5) → (∀ H4, Ex H H4 → c a = false → S H4) → g x (wipe σ vs) H2 fun σ2 H3 => wipe σ2 vs = wipe σ vs ∧ tt σ2 H3 fun b H4 => if b = true then te σ2 H4 R else S H4)
    (hd : ∀ H xs, Ex H1 H → H D = some (.lst xs) → Paired (Pd H) xs (as.filter c) → Qd H) :
    ∃ W : Nat → Nat → Hp → Prop, (∃ m, W 0 m (upd H1 D (.lst []))) ∧ ∀ i m H, W i m H →
      (J.stop i H ∧ Qd H) ∨ (J.go i H ∧ ∃ Nx : Hp → Prop, (∀ H2, Nx H2 → ∃ m2, m2 < m ∧ W (i + 1) m2 H2) ∧ ∀ x H2, J.yld i H x H2 → g x (wipe σ vs) H2 fun σ2 H3 => wipe σ2 vs = wipe σ vs ∧ tt σ2 H3 fun b H4 =>
        if b = true then te σ2 H4 fun y H5 => ∃ acc, H5 D = some (.lst acc) ∧ acc.length < sizeLine ∧ Nx (upd H5 D (.lst (acc ++ [y]))) else Nx H4) := by
  refine lc_it w (fun i H => Ex H1 H ∧ ∃ xs, H D = some (.lst xs) ∧ Paired (Pd H) xs ((as.take i).filter c)) ⟨exn hD, [], upd_same, .nil⟩ (fun i H _ p => hG H p.1) (fun i x H H2 hi p y => ?_) (fun H p => ?_)
  · obtain ⟨a, ha⟩ : ∃ a, as[i]? = some a := ⟨as[i]'(by omega), List.getElem?_eq_getElem (by omega)⟩
    obtain ⟨p1, xs, p2, p3⟩ := p
    refine hs i x a H H2 _ (fun H3 => Ex H1 H3 ∧ ∃ xs, H3 D = some (.lst xs) ∧ Paired (Pd H3) xs ((as.take (i + 1)).filter c)) ha p1 y (fun v H5 e hc hv => ?_) (fun H4 e hc => ?_)
    · have tp : ∀ c zs, H5 c = some (.tup zs) → upd H5 D (.lst (xs ++ [v])) c = some (.tup zs) := fun c zs z => by
        rw [upd_ne (ne_of z (e _ _ p2) (by intro q; cases q))]
        exact z
      refine ⟨xs, e _ _ p2, ?_, ex_upd (ext p1 e) hD, xs ++ [v], upd_same, ?_⟩
      · rw [Paired.length p3]
        refine Nat.lt_of_le_of_lt (Nat.le_trans (List.length_filter_le _ _) ?_) (show 10000000 < sizeLine by decide)
        rw [List.length_take]
        omega
      · rw [take_more ha, List.filter_append, show [a].filter c = [a] by simp [hc]]
        exact paired_snoc (mono _ _ _ _ tp hv) (paired_mono (fun v a q => mono _ _ _ _ tp (mono _ _ _ _ (fun c zs z => e _ _ z) q)) p3)
    · refine ⟨ext p1 e, xs, e _ _ p2, ?_⟩
      rw [take_more ha, List.filter_append, show [a].filter c = [] by simp [hc], List.append_nil]
      exact paired_mono (fun v a q => mono _ _ _ _ (fun c zs z => e _ _ z) q) p3
  · obtain ⟨p1, xs, p2, p3⟩ := p
    rw [List.take_of_length_le (by omega)] at p3
    exact hd H xs p1 p2 p3
/-- .. of new objects of any kind, beside the list itself -/
theorem lc_newG {α : Type} {D : Addr} (Pd : Hp → V → α → Prop) (mono : ∀ (H H2 : Hp) (v : V) (a : α) (ys : List V), H D = some (.lst ys) → (∀ c o, c ≠ D → H c = some o → H2 c = some o) → Pd H v a → Pd H2 v a)
    {J : It} {n : Nat} {G : Hp → Prop} {Y : Nat → Hp → V → Hp → Prop} (w : Walk J n G Y) {g : TG} {tt : TT} {te : TE} {vs : List Nat} {σ : L2.St} {H1 : Hp} {Qd : Hp → Prop} (as : List α) (c : α → Bool) (hn : as.length = n) (hl : n ≤ 10000000) (hD : H1 D = none)
    (hG : ∀ H, Ex H1 H → G H)
    (hs : ∀ i x a H H2 (R : VK) (S : Hp → Prop), as[i]? = some a → Ex H1 H → (∃ ys, H D = some (.lst ys)) → Y i H x H2 → (∀ v H5, Ex H H5 → c a = true → Pd H5 v a → R v H5) → (∀ H4, Ex H H4 → c a = false → S H4) → g x (wipe σ vs) H2 fun σ2 H3 => wipe σ2 vs = wipe σ vs ∧ tt σ2 H3 fun b H4 => if b = true then te σ2 H4 R else S H4)
    (hd : ∀ H xs, Ex H1 H → H D = some (.lst xs) → Paired (Pd H) xs (as.filter c) → Qd H) :
    ∃ W : Nat → Nat → Hp → Prop, (∃ m, W 0 m (upd H1 D (.lst []))) ∧ ∀ i m H, W i m H →
      (J.stop i H ∧ Qd H) ∨ (J.go i H ∧ ∃ Nx : Hp → Prop, (∀ H2, Nx H2 → ∃ m2, m2 < m ∧ W (i + 1) m2 H2) ∧ ∀ x H2, J.yld i H x H2 → g x (wipe σ vs) H2 fun σ2 H3 => wipe σ2 vs = wipe σ vs ∧ tt σ2 H3 fun b H4 =>
        if b = true then te σ2 H4 fun y H5 => ∃ acc, H5 D = some (.lst acc) ∧ acc.length < sizeLine ∧ Nx (upd H5 D (.lst (acc ++ [y]))) else Nx H4) := by
  refine lc_it w (fun i H => Ex H1 H ∧ ∃ xs, H D = some (.lst xs) ∧ Paired (Pd H) xs ((as.take i).filter c)) ⟨exn hD, [], upd_same, .nil⟩ (fun i H _ p => hG H p.1) (fun i x H H2 hi p y => ?_) (fun H p => ?_)
  · obtain ⟨a, ha⟩ : ∃ a, as[i]? = some a := ⟨as[i]'(by omega), List.getElem?_eq_getElem (by omega)⟩
    obtain ⟨p1, xs, p2, p3⟩ := p
    refine hs i x a H H2 _ (fun H3 => Ex H1 H3 ∧ ∃ xs, H3 D = some (.lst xs) ∧ Paired (Pd H3) xs ((as.take (i + 1)).filter c)) ha p1 ⟨xs, p2⟩ y (fun v H5 e hc hv => ?_) (fun H4 e hc => ?_)
    · have tp : ∀ c o, c ≠ D → H5 c = some o → upd H5 D (.lst (xs ++ [v])) c = some o := fun c o n z => by
        rw [upd_ne n]
        exact z
      refine ⟨xs, e _ _ p2, ?_, ex_upd (ext p1 e) hD, xs ++ [v], upd_same, ?_⟩
      · rw [Paired.length p3]
        refine Nat.lt_of_le_of_lt (Nat.le_trans (List.length_filter_le _ _) ?_) (show 10000000 < sizeLine by decide)
        rw [List.length_take]
        omega
      · rw [take_more ha, List.filter_append, show [a].filter c = [a] by simp [hc]]
        exact paired_snoc (mono _ _ _ _ _ (e _ _ p2) tp hv) (paired_mono (fun v a q => mono _ _ _ _ _ (e _ _ p2) tp (mono _ _ _ _ _ p2 (fun c o _ z => e _ _ z) q)) p3)
    · refine ⟨ext p1 e, xs, e _ _ p2, ?_⟩
      rw [take_more ha, List.filter_append, show [a].filter c = [] by simp [hc], List.append_nil]
      exact paired_mono (fun v a q => mono _ _ _ _ _ p2 (fun c o _ z => e _ _ z) q) p3
  · obtain ⟨p1, xs, p2, p3⟩ := p
    rw [List.take_of_length_le (by omega)] at p3
    exact hd H xs p1 p2 p3
/-- a new list of tuples of ints -/
def PdRows (D : Addr) (H : Hp) (v : V) (row : List (List Int)) : Prop := ∃ a, v = V.ref a ∧ a ≠ D ∧ RowsAt H a row
theorem pdrows_mono {D : Addr} (H H2 : Hp) (v : V) (row : List (List Int)) (ys : List V) (hD : H D = some (.lst ys)) (e : ∀ c o, c ≠ D → H c = some o → H2 c = some o) (h : PdRows D H v row) : PdRows D H2 v row := by
  obtain ⟨a, h1, h2, xs, h3, h4⟩ := h
  exact ⟨a, h1, h2, xs, e _ _ h2 h3, paired_mono (fun v hs ⟨r, q1, q2⟩ => ⟨r, q1, e _ _ (ne_of q2 hD (by intro z; cases z)) q2⟩) h4⟩

theorem le_prod {ns : List Int} (one : ∀ n ∈ ns, 1 ≤ n) : ∀ n ∈ ns, n ≤ prodL ns := by
  induction ns with
  | nil => exact fun _ h => nomatch h
  | cons a l ih =>
    intro n hn
    have a1 := one a List.mem_cons_self
    have l1 := prodL_pos fun x hx => one x (List.mem_cons_of_mem a hx)
    rw [prodL_cons]
    rcases List.mem_cons.mp hn with rfl | hn
    · have := Int.mul_le_mul_of_nonneg_left l1 (show 0 ≤ n by omega)
      omega
    · have h1 := ih (fun x hx => one x (List.mem_cons_of_mem a hx)) n hn
      have := Int.mul_le_mul_of_nonneg_right a1 (show 0 ≤ prodL l by omega)
      omega

/-- the reading t makes these rows (tuples) -/
def RowsT (t : TA) (rows : List (List Int)) : Prop := ∀ (σ : L2.St) (H : Hp) (Q : List V → Hp → Prop), (∀ xs H2, Ex H H2 → RowsR H2 xs rows → Q xs H2) → t σ H Q
theorem RowsT.nil : RowsT tNil [] := fun σ H Q k => k [] H exr .nil
theorem RowsT.cons {te : TE} {t : TA} {ks : List Int} {rows : List (List Int)} (h1 : ∀ (σ : L2.St) (H : Hp) (Q : VK), ((ks.map V.int).length ≤ sizeLine ∧ ∀ p, H p = none → Q (.ref p) (upd H p (.tup (ks.map V.int)))) → te σ H Q) (l : ks.length ≤ 1000) (h2 : RowsT t rows) : RowsT (tCons te t) (ks :: rows) := fun σ H Q k => by
  refine h1 σ H _ ⟨by rw [List.length_map]; exact Nat.le_trans l (by decide), fun p hp => h2 σ _ _ fun xs H2 e lr => k _ H2 (ext (exn hp) e) (.cons ⟨p, rfl, e _ _ upd_same⟩ lr)⟩
theorem rows_dsp {t : TA} {rows : List (List Int)} (h : RowsT t rows) (l : rows.length ≤ 1000) {σ : L2.St} {H : Hp} {Q : VK} (k : ∀ q xs H2, Ex H H2 → H q = none → H2 q = some (.lst xs) → RowsR H2 xs rows → Q (.ref q) H2) : tLst t σ H Q :=
  h σ H _ fun xs H2 e lr => ⟨by rw [lr.len]; exact Nat.le_trans l (by decide), fun p hp => k p xs _ (ext e (exn hp)) (Evl.fresh_back e hp) upd_same (lr.mono (exn hp))⟩
/-- a way: None is by layers -/
def csW (ns : List Int) (tss : List (List Int)) : Option (List Int) → CSt
  | none => .lay (countsL ns tss)
  | some c => .calls [c]
def rsW (ns : List Int) (tss : List (List Int)) : Option Bool → RS
  | none => .lay (countsL ns tss)
  | some b => .words [b]
theorem csW_ok {ns : List Int} {tss : List (List Int)} {o : Option (List Int)} (pr : prodL ns ≤ 300) (h : ∀ c, o = some c → c.length = ns.length) : (csW ns tss o).Ok ns tss := by
  cases o with
  | none => exact ⟨rfl, pr⟩
  | some c => exact ⟨by simp, by simp, fun x hx => by rw [List.mem_singleton.mp hx]; exact h c rfl⟩
theorem rsW_ok {ns : List Int} {tss : List (List Int)} {o : Option Bool} (pr : prodL ns ≤ 300) : (rsW ns tss o).Ok ns tss := by
  cases o with
  | none => exact ⟨rfl, pr⟩
  | some c => exact ⟨by simp, by simp⟩
theorem csW_at {ns : List Int} {t1 t2 : List (List Int)} {o : Option (List Int)} {H : Hp} {x : V} (h : (csW ns t1 o).At H x) : (csW ns t2 o).At H x := by
  cases o with
  | none => exact h
  | some c => exact h
theorem rsW_at {ns : List Int} {t1 t2 : List (List Int)} {o : Option Bool} {H : Hp} {x : V} (h : (rsW ns t1 o).At H x) : (rsW ns t2 o).At H x := by
  cases o with
  | none => exact h
  | some c => exact h
theorem rsW_safe (ns : List Int) (tss : List (List Int)) (o : Option Bool) (p : List Int) : unsafeB p (rsW ns tss o) = false := by
  cases o <;> rfl
/-- other targets: at least one, no permutation -/
structure LotOk (ns : List Int) (tss lot : List (List Int)) : Prop where
  ne : lot ≠ []
  len : lot.length ≤ 5
  seat : ∀ t ∈ lot, SeatOk ns t
  nod : lot.Nodup
  off : lot.length ≠ tss.length
theorem LotOk.perm {ns : List Int} {tss lot t2 : List (List Int)} (h : LotOk ns tss lot) (p : t2.Perm tss) : ¬ lot.Perm t2 := fun z => h.off (by rw [z.length_eq, p.length_eq])
theorem LotOk.tail {ns : List Int} {t0 : List Int} {tr : List (List Int)} (ne : tr ≠ []) (l : (t0 :: tr).length ≤ 4) (sk : ∀ t ∈ t0 :: tr, SeatOk ns t) (nd : (t0 :: tr).Nodup) : LotOk ns (t0 :: tr) tr :=
  ⟨ne, by simp at l; omega, fun t ht => sk t (List.mem_cons_of_mem _ ht), (List.nodup_cons.mp nd).2, by simp⟩
theorem LotOk.snoc {ns : List Int} {tss : List (List Int)} {q : List Int} (hq : q ∉ tss) (sq : SeatOk ns q) (l : tss.length ≤ 4) (sk : ∀ t ∈ tss, SeatOk ns t) (nd : tss.Nodup) : LotOk ns tss (tss ++ [q]) :=
  ⟨by simp, by simp; omega, fun t ht => by
    rcases List.mem_append.mp ht with ht | ht
    · exact sk t ht
    · rw [List.mem_singleton.mp ht]
      exact sq, List.nodup_append.mpr ⟨nd, by simp, fun a ha b hb z => hq (by rw [List.mem_singleton.mp hb] at z; exact z ▸ ha)⟩, by simp⟩
/-- the lists of other targets, which are not the source -/
def LotsR (s : Addr) (H : Hp) (xs : List V) (lots : List (List (List Int))) : Prop := Paired (fun v lot => ∃ a, v = .ref a ∧ RowsAt H a lot ∧ a ≠ s) xs lots
theorem LotsR.xb {s : Addr} {H H2 : Hp} {xs : List V} {lots : List (List (List Int))} (src : Src H s) (xb : XB s H H2) (h : LotsR s H xs lots) : LotsR s H2 xs lots := paired_mono (fun v lot ⟨a, e, ra, na⟩ => ⟨a, e, rows_xb src na xb ra, na⟩) h
theorem LotsR.mono {s : Addr} {H H2 : Hp} {xs : List V} {lots : List (List (List Int))} (e : Ex H H2) (h : LotsR s H xs lots) : LotsR s H2 xs lots := paired_mono (fun v lot ⟨a, e1, ra, na⟩ => ⟨a, e1, ra.mono e, na⟩) h
/-- a list of other targets that is neither D nor s -/
def PdLot (D s : Addr) (H : Hp) (v : V) (lot : List (List Int)) : Prop := ∃ a, v = .ref a ∧ RowsAt H a lot ∧ a ≠ D ∧ a ≠ s
theorem pdlot_mono {D s : Addr} (H H2 : Hp) (v : V) (g : List (List Int)) (zs : List V) (hD : H D = some (.lst zs)) (e : ∀ c o, c ≠ D → H c = some o → H2 c = some o) (q : PdLot D s H v g) : PdLot D s H2 v g := by
  obtain ⟨a, q1, ⟨xs, h1, h2⟩, nD, ns⟩ := q
  exact ⟨a, q1, ⟨xs, e _ _ nD h1, h2.monoT fun _ _ z => e _ _ (ne_of z hD (by intro z; cases z)) z⟩, nD, ns⟩
theorem lots_of {D s : Addr} {H : Hp} {xs : List V} {lots : List (List (List Int))} (h : Paired (PdLot D s H) xs lots) : LotsR s H xs lots := paired_mono (fun v lot ⟨a, e, ra, _, na⟩ => ⟨a, e, ra, na⟩) h
theorem paired_app {α : Type} {P : V → α → Prop} : ∀ {xs ys : List V} {as bs : List α}, Paired P xs as → Paired P ys bs → Paired P (xs ++ ys) (as ++ bs)
  | _, _, _, _, .nil, h => h
  | _, _, _, _, .cons q t, h => .cons q (paired_app t h)
/-- the scene of the turned targets -/
structure Tn (C s rt bd g sp oth : Addr) (ns p : List Int) (tss : List (List Int)) (os : List V) (lots : List (List (List Int))) (H : Hp) : Prop where
  src : Src H s
  hr : H rt = some (.tup (ns.map V.int))
  tab : TabAt C H bd ns
  hg : RowsAt H g tss
  sp : H sp = some (.tup (p.map V.int))
  ho : H oth = some (.lst os)
  rl : LotsR s H os lots
theorem Tn.mono {C s rt bd g sp oth : Addr} {ns p : List Int} {tss : List (List Int)} {os : List V} {lots : List (List (List Int))} {H H2 : Hp} (e : Ex H H2) (h : Tn C s rt bd g sp oth ns p tss os lots H) : Tn C s rt bd g sp oth ns p tss os lots H2 :=
  ⟨h.src.mono e, e _ _ h.hr, h.tab.mono e, h.hg.mono e, e _ _ h.sp, e _ _ h.ho, h.rl.mono e⟩
theorem Tn.xb {C s rt bd g sp oth : Addr} {ns p : List Int} {tss : List (List Int)} {os : List V} {lots : List (List (List Int))} {H H2 : Hp} (ng : g ≠ s) (no : oth ≠ s) (xb : XB s H H2) (src2 : Src H2 s) (h : Tn C s rt bd g sp oth ns p tss os lots H) : Tn C s rt bd g sp oth ns p tss os lots H2 :=
  ⟨src2, tup_xb h.src h.hr xb, tab_xbs h.src xb h.tab, rows_xb h.src ng xb h.hg, tup_xb h.src h.sp xb, xb _ _ no h.ho, h.rl.xb h.src xb⟩
theorem csW_xb {ns : List Int} {tss : List (List Int)} {o : Option (List Int)} {s : Addr} {H H2 : Hp} {x : V} (src : Src H s) (xb : XB s H H2) (h : (csW ns tss o).At H x) : (csW ns tss o).At H2 x := by
  cases o with
  | none => exact h
  | some c =>
    obtain ⟨l, e, h⟩ := h
    exact ⟨l, e, rows_xb src (rows_src (by simp) h src) xb h⟩
theorem rsW_xb {ns : List Int} {tss : List (List Int)} {o : Option Bool} {s : Addr} {H H2 : Hp} {x : V} (src : Src H s) (xb : XB s H H2) (h : (rsW ns tss o).At H x) : (rsW ns tss o).At H2 x := by
  cases o with
  | none => exact h
  | some c =>
    obtain ⟨l, e, h⟩ := h
    exact ⟨l, e, xb _ _ (words_src (by simp) h src) h⟩
/-- a way at x -/
def WayAt (H : Hp) (ns : List Int) (tss : List (List Int)) (x : V) : Prop := ∃ (w : Addr) (a b : V) (cw : Option (List Int)) (rw : Option Bool), x = .ref w ∧ H w = some (.tup [a, b]) ∧ (csW ns tss cw).At H a ∧ (rsW ns tss rw).At H b ∧ ∀ c, cw = some c → c.length = ns.length
theorem WayAt.xb {ns : List Int} {tss : List (List Int)} {s : Addr} {H H2 : Hp} {x : V} (src : Src H s) (xb : XB s H H2) (h : WayAt H ns tss x) : WayAt H2 ns tss x := by
  obtain ⟨w, a, b, cw, rw, e, h1, h2, h3, h4⟩ := h
  exact ⟨w, a, b, cw, rw, e, tup_xb src h1 xb, csW_xb src xb h2, rsW_xb src xb h3, h4⟩
theorem shS35 {n : Nat} {z : Str} (hz : PyData.strOk z = true) : Sh n (.str z) := ⟨by simp only [PyData.canLay0, hz], by simp only [PyData.depth]; omega⟩

section
variable {P : Program} {w : World} {K : PySem.W.Frag} {mg : Str → Option Value} {base : Heap}
def sp_law_turned_right : Sp := fun vs H Q _ => ∃ (s : Addr), vs = [.ref s] ∧ Src H s ∧ ∀ H2, XB s H H2 → Src H2 s → Q (.bl true) H2
theorem ok_law_turned_right (T : TX K mg) : FnOk P w K mg base CX0 10 T.f_law_turned_right T.fd_law_turned_right ["_law_source_here"] sp_law_turned_right := by
  refine T.F_law_turned_right.ok sc_law_turned_right (fun vs H Q E h => ?_) (fun cdv A outer s H vs Q E hr h => ?_)
  · obtain ⟨s, rfl, _⟩ := h
    rfl
  · obtain ⟨s, rfl, hs, k⟩ := h
    refine ⟨_, (pss_cons (ps_set (i := 1) sc_law_turned_right.nd rfl (Or.inl rfl) (pe_call (ok_law_pickV T) (hr.mono (by decide)) rfl T.m_law_pick T.F_law_pick.kp T.b_law_pick .nil pass0 (pa_cons (pv 0) (pa_cons (pe_lst (pa_cons (pe_tup (pa_cons pe_int pa_nil)) (pa_cons (pe_tup (pa_cons pe_int pa_nil)) (pa_cons (pe_tup (pa_cons pe_int pa_nil)) (pa_cons (pe_tup (pa_cons pe_int (pa_cons pe_int pa_nil))) (pa_cons (pe_tup (pa_cons pe_int (pa_cons pe_int pa_nil))) (pa_cons (pe_tup (pa_cons pe_int (pa_cons pe_int pa_nil))) (pa_cons (pe_tup (pa_cons pe_int pa_nil)) (pa_cons (pe_tup (pa_cons pe_int (pa_cons pe_int pa_nil))) pa_nil))))))))) pa_nil)))) (pss_cons (ps_asg (pe_tup (pa_cons (pe_call (ok_law_goals T) (hr.mono (by decide)) rfl T.m_law_goals T.F_law_goals.kp T.b_law_goals .nil pass0 (pa_cons (pv 0) (pa_cons (pv 1) (pa_cons pe_int pa_nil)))) (pa_cons (pe_call (ok_law_drawn_seat T) (hr.mono (by decide)) rfl T.m_law_drawn_seat T.F_law_drawn_seat.kp T.b_law_drawn_seat .nil pass0 (pa_cons (pv 0) (pa_cons (pv 1) pa_nil))) (pa_cons (pe_call (ok_law_drawn_call T) (hr.mono (by decide)) rfl T.m_law_drawn_call T.F_law_drawn_call.kp T.b_law_drawn_call .nil pass0 (pa_cons (pv 0) (pa_cons (pv 1) pa_nil))) pa_nil)))) (pg_tup rfl (pgs_cons (pg_name (i := 2) sc_law_turned_right.nd rfl (Or.inr rfl)) (pgs_cons (pg_name (i := 3) sc_law_turned_right.nd rfl (Or.inl rfl)) (pgs_cons (pg_name (i := 4) sc_law_turned_right.nd rfl (Or.inl rfl)) pgs_nil))))) (pss_cons (ps_par (i := 5) (j := 6) rfl sc_law_turned_right.nd rfl rfl (by decide) rfl rfl (pa_cons (pe_make T.M_Table (ok_Table_init T) (hr.mono (by decide)) rfl T.m_Table T.b_Table_init .nil pass0 (pa_cons (pv 1) pa_nil)) (pa_cons (pe_lc (own := [("_law_one", 14)]) (g := (gName 14)) rfl sc_law_turned_right.nd (pi_tup (pe_tup (pa_cons (pv 3) (pa_cons (pe_op (r := rRepA K) op_repA (pe_tup (pa_cons pe_int pa_nil)) (pe_callB call_len_seq (by rfl) T.z_len (by decide +kernel) (pa_cons (pv 1) pa_nil))) (pa_cons (pe_op (r := rRepA K) op_repA (pe_tup (pa_cons pe_int pa_nil)) (pe_callB call_len_seq (by rfl) T.z_len (by decide +kernel) (pa_cons (pv 1) pa_nil))) pa_nil))))) (blkOk_by (N := N_law_turned_right) (sc := defScope s_law_turned_right) (by decide +kernel)) (fun _ _ _ _ _ => (pg_name (i := 14) sc_law_turned_right.nd rfl (Or.inl rfl))) (fun _ _ _ _ _ => (pts_one (pt_cmpR (r := rNotInD K) (op_notInD (u65 hr)) (pv 14) (pv 2) rfl))) (fun _ _ _ _ _ => (pv 14))) pa_nil)) (by rfl)) (pss_cons (ps_set (i := 7) sc_law_turned_right.nd rfl (Or.inl rfl) (pe_op (r := rCatR K) op_catR (pe_op op_rep (pe_lst (pa_cons (pe_slice sl_list (pv 2) (po_some pe_int) po_none) pa_nil)) (pe_callTy call_int1 (by rfl) T.z_int (by decide +kernel) (pa_cons (pe_cmpR op_gt (pe_callB call_len_seq (by rfl) T.z_len (by decide +kernel) (pa_cons (pv 2) pa_nil)) pe_int (nomark _)) pa_nil))) (pe_lc (own := [("_law_one", 14)]) (g := (gName 14)) rfl sc_law_turned_right.nd (pi_list (pe_slice sl_list (pv 6) po_none (po_some pe_int))) (blkOk_by (N := N_law_turned_right) (sc := defScope s_law_turned_right) (by decide +kernel)) (fun _ _ _ _ _ => (pg_name (i := 14) sc_law_turned_right.nd rfl (Or.inl rfl))) (fun _ _ _ _ _ => pts_nil) (fun _ _ _ _ _ => (pe_op (r := rCatR K) op_catR (pv 2) (pe_lst (pa_cons (pv 14) pa_nil))))))) (pss_cons (ps_for PassesOwn.never rfl (pi_list (pe_lst (pa_cons (pe_tup (pa_cons pe_str (pa_cons pe_str pa_nil))) (pa_cons (pe_tup (pa_cons pe_str (pa_cons (pe_lst (pa_cons pe_str pa_nil)) pa_nil))) (pa_cons (pe_tup (pa_cons (pe_lst (pa_cons (pv 4) pa_nil)) (pa_cons pe_str pa_nil))) (pa_cons (pe_tup (pa_cons (pe_lst (pa_cons (pv 4) pa_nil)) (pa_cons (pe_lst (pa_cons pe_str pa_nil)) pa_nil))) pa_nil)))))) (pg_tup rfl (pgs_cons (pg_name (i := 8) sc_law_turned_right.nd rfl (Or.inl rfl)) (pgs_cons (pg_name (i := 9) sc_law_turned_right.nd rfl (Or.inl rfl)) pgs_nil))) (pss_cons (ps_set (i := 10) sc_law_turned_right.nd rfl (Or.inl rfl) (pe_make T.M_Caller (ok_Caller_init T) (hr.mono (by decide)) rfl T.m_Caller T.b_Caller_init .nil pass0 (pa_cons (pe_make T.M_Table (ok_Table_init T) (hr.mono (by decide)) rfl T.m_Table T.b_Table_init .nil pass0 (pa_cons (pe_callTy call_list_of (by rfl) T.z_list (by decide +kernel) (pa_cons (pv 1) pa_nil)) pa_nil)) (pa_cons (pe_call (ok_law_shuffled T) (hr.mono (by decide)) rfl T.m_law_shuffled T.F_law_shuffled.kp T.b_law_shuffled .nil pass0 (pa_cons (pv 0) (pa_cons (pv 2) pa_nil))) (pa_cons (pv 8) pa_nil))))) (pss_cons (ps_set (i := 11) sc_law_turned_right.nd rfl (Or.inl rfl) (pe_make T.M_Responder (ok_Responder_init T) (hr.mono (by decide)) rfl T.m_Responder T.b_Responder_init .nil pass0 (pa_cons (pe_make T.M_Table (ok_Table_init T) (hr.mono (by decide)) rfl T.m_Table T.b_Table_init .nil pass0 (pa_cons (pv 1) pa_nil)) (pa_cons (pe_callTy call_tuple_of (by rfl) T.z_tuple (by decide +kernel) (pa_cons (pe_revLK K rfl (pv 2)) pa_nil)) (pa_cons (pv 9) pa_nil))))) (pss_cons (ps_if (pt_cmpR op_notN (pe_call (ok_law_refused T) hr rfl T.m_law_refused T.F_law_refused.kp T.b_law_refused .nil pass0 (pa_cons (pv 5) (pa_cons (pe_call (ok_law_shuffled T) (hr.mono (by decide)) rfl T.m_law_shuffled T.F_law_shuffled.kp T.b_law_shuffled .nil pass0 (pa_cons (pv 0) (pa_cons (pv 2) pa_nil))) (pa_cons (pv 3) (pa_cons (pv 10) (pa_cons (pv 11) pa_nil)))))) pe_non (nomark _)) (pss_one (ps_ret pe_bl)) pss_nil) (pss_one (ps_for PassesOwn.never rfl (pi_list (pv 7)) (pg_name (i := 12) sc_law_turned_right.nd rfl (Or.inl rfl)) (pss_cons (ps_if (pt_cmpR (r := rNeD K) (op_neD hr.units) (pe_call (ok_law_refused T) hr rfl T.m_law_refused T.F_law_refused.kp T.b_law_refused .nil pass0 (pa_cons (pv 5) (pa_cons (pv 2) (pa_cons (pv 3) (pa_cons (pe_make T.M_Caller (ok_Caller_init T) (hr.mono (by decide)) rfl T.m_Caller T.b_Caller_init .nil pass0 (pa_cons (pv 5) (pa_cons (pv 12) (pa_cons (pv 8) pa_nil)))) (pa_cons (pv 11) pa_nil)))))) pe_str (nomark _)) (pss_one (ps_ret pe_bl)) pss_nil) (pss_one (ps_if (pt_cmpR (r := rNeD K) (op_neD hr.units) (pe_call (ok_law_refused T) hr rfl T.m_law_refused T.F_law_refused.kp T.b_law_refused .nil pass0 (pa_cons (pv 5) (pa_cons (pv 2) (pa_cons (pv 3) (pa_cons (pv 10) (pa_cons (pe_make T.M_Responder (ok_Responder_init T) (hr.mono (by decide)) rfl T.m_Responder T.b_Responder_init .nil pass0 (pa_cons (pv 5) (pa_cons (pv 12) (pa_cons (pv 9) pa_nil)))) pa_nil)))))) pe_str (nomark _)) (pss_one (ps_ret pe_bl)) pss_nil))))))))) (pss_cons (ps_set (i := 13) sc_law_turned_right.nd rfl (Or.inl rfl) (pe_call (ok_play T) (hr.mono (by decide)) rfl T.m_play T.F_play.kp T.b_play .nil pass0 (pa_cons (pe_make T.M_Table (ok_Table_init T) (hr.mono (by decide)) rfl T.m_Table T.b_Table_init .nil pass0 (pa_cons (pe_lst (pa_cons pe_int pa_nil)) pa_nil)) (pa_cons (pe_lst (pa_cons (pe_tup (pa_cons pe_int pa_nil)) (pa_cons (pe_tup (pa_cons pe_int pa_nil)) pa_nil))) (pa_cons (pe_tup (pa_cons pe_int pa_nil)) (pa_cons (pe_make T.M_Caller (ok_Caller_init T) (hr.mono (by decide)) rfl T.m_Caller T.b_Caller_init .nil pass0 (pa_cons (pe_make T.M_Table (ok_Table_init T) (hr.mono (by decide)) rfl T.m_Table T.b_Table_init .nil pass0 (pa_cons (pe_lst (pa_cons pe_int pa_nil)) pa_nil)) (pa_cons (pe_lst (pa_cons (pe_tup (pa_cons pe_int pa_nil)) (pa_cons (pe_tup (pa_cons pe_int pa_nil)) pa_nil))) (pa_cons pe_str pa_nil)))) (pa_cons (pe_make T.M_Responder (ok_Responder_init T) (hr.mono (by decide)) rfl T.m_Responder T.b_Responder_init .nil pass0 (pa_cons (pe_make T.M_Table (ok_Table_init T) (hr.mono (by decide)) rfl T.m_Table T.b_Table_init .nil pass0 (pa_cons (pe_lst (pa_cons pe_int pa_nil)) pa_nil)) (pa_cons (pe_lst (pa_cons (pe_tup (pa_cons pe_int pa_nil)) (pa_cons (pe_tup (pa_cons pe_int pa_nil)) pa_nil))) (pa_cons (pe_lst (pa_cons pe_str pa_nil)) pa_nil)))) (pa_cons pe_int pa_nil)))))))) (pss_one (ps_ret (pe_and (pe_cmpR op_eq (pe_callB call_len_seq (by rfl) T.z_len (by decide +kernel) (pa_cons (pe_ix ix_tup (pv 13) pe_int (fun _ _ => rfl)) pa_nil)) pe_int (nomark _)) (pe_one (pe_cmpR op_eq (pe_ix ix_tup (pv 13) pe_int (fun _ _ => rfl)) pe_str (nomark _)))))))))))), ?_⟩
    refine ⟨_, rfl, ?_⟩
    refine rows_dsp (rows := [[3], [9], [15], [5, 3], [3, 3], [7, 2], [12], [4, 6]]) (by repeat (first | exact RowsT.nil | refine RowsT.cons (fun _ _ _ h => h) (by decide) ?_)) (by decide) fun pl xs H1 e1 npl hpl rpl => ?_
    have src1 := hs.mono e1
    refine ⟨s, pl, xs, rfl, src1, hpl, hs.ne npl, (fun z => by rw [z] at rpl; cases rpl), (by rw [rpl.len]; decide), fun i x H2 hx xb2 src2 => ?_⟩
    obtain ⟨ns, rt, hns, rfl, hrt0⟩ := rpl.get hx
    have hrt := tup_xb src1 hrt0 xb2
    have X02 : XB s H H2 := (XB.of e1).trans xb2
    have good : SzOk ns ∧ prodL ns ≤ 300 ∧ ns.length ≤ 2 ∧ SeatOk ns (List.replicate (ns.length : Int).toNat 0) ∧ SeatOk ns (List.replicate (ns.length : Int).toNat 1) := by
      have hm := List.mem_of_getElem? hns
      simp only [List.mem_cons, List.not_mem_nil, or_false] at hm
      rcases hm with rfl | rfl | rfl | rfl | rfl | rfl | rfl | rfl <;> exact ⟨⟨by decide, by decide, by decide⟩, by decide, by decide, by simp [SeatOk, List.replicate], by simp [SeatOk, List.replicate]⟩
    obtain ⟨sz, pr, l2, sk0, sk1⟩ := good
    have n300 : ∀ n ∈ ns, n.natAbs < 2 ^ 300 := fun n hn => by
      have h1 := le_prod sz.one n hn
      have h2 := sz.one n hn
      exact Nat.lt_of_le_of_lt (show n.natAbs ≤ 300 by omega) (by decide +kernel)
    have bn : ∀ n ∈ ns, n.natAbs < 2 ^ 5000 := fun n hn => Nat.lt_of_lt_of_le (n300 n hn) (Nat.pow_le_pow_right (by decide) (by decide))
    clear hx hns hrt0 rpl hpl npl e1 src1 xb2
    dsimp only [gName]
    refine ⟨_, rfl, _, rfl, s, rt, ns, 4, rfl, src2, hrt, sz, bn, by decide, by decide, fun g tss H3 hg ng ngs tne lt sks nod xb3 src3 => ?_⟩
    have hr3 := tup_xb src2 hrt xb3
    refine ⟨_, rfl, _, rfl, s, rt, ns, rfl, src3, hr3, sz, bn, fun sp p H4 nsp hsp skp xb4 src4 => ?_⟩
    have hr4 := tup_xb src3 hr3 xb4
    refine ⟨_, rfl, _, rfl, s, rt, ns, rfl, src4, hr4, sz, n300, fun hp hop H5 hhp lh bh xb5 src5 => ⟨slen rfl, fun tq ntq => ?_⟩⟩
    have hg5 : RowsAt H5 g tss := rows_xb src4 ngs xb5 (rows_xb src3 ngs xb4 hg)
    have hr5 := tup_xb src4 hr4 xb5
    have hs5 := tup_xb src4 hsp xb5
    have X05 : XB s H H5 := X02.trans (xb3.trans (xb4.trans xb5))
    generalize hG : upd H5 tq _ = H6
    have htq : H6 tq = some (.tup [.ref g, .ref sp, .ref hp]) := by rw [← hG, upd_same]
    have e6 : Ex H5 H6 := by rw [← hG]; exact exn ntq
    clear hG
    refine ⟨tq, _, rfl, SqT.of htq, rfl, _, _, rfl, _, _, rfl, _, _, rfl, rfl, ?_⟩
    have src6 := src5.mono e6
    have hg6 := hg5.mono e6
    have hr6 := e6 _ _ hr5
    have hs6 := e6 _ _ hs5
    have hh6 := e6 _ _ hhp
    have X06 := X05.trans (XB.of e6)
    clear xb3 xb4 xb5 src2 src3 src4 src5 hr3 hr4 hr5 hg hg5 hsp hs5 hhp X02 X05 htq e6 hrt hs
    dsimp only [gName]
    refine ⟨_, rfl, ?_⟩
    refine mk_tab (b := true) (ns := ns) (show SqH H6 (true, rt) _ from hr6) sz fun bd H7 e7 nbd tab7 => ?_
    refine ⟨_, rfl, slen rfl, ?_⟩
    (intro u0 nu0; generalize hGu0 : upd _ u0 _ = H8; have eH8 := exG hGu0 nu0; have hu0 := atG hGu0; clear hGu0)
    have E68 := ext e7 eH8
    have l1 : (1 : Int) ≤ (ns.length : Int) := by
      have := List.length_pos_iff.mpr sz.pos
      omega
    refine ⟨_, rfl, rt, _, rfl, .inr (SqT.of (E68 _ _ hr6)), ?_⟩
    rw [List.length_map]
    refine rep_ints (x := 0) hu0 l1 (by omega) fun z0 H9 e9 hz0 => ?_
    refine ⟨slen rfl, ?_⟩
    (intro u1 nu1; generalize hGu1 : upd _ u1 _ = H10; have eH10 := exG hGu1 nu1; have hu1 := atG hGu1; clear hGu1)
    have E610 := ext E68 (ext e9 eH10)
    refine ⟨_, rfl, rt, _, rfl, .inr (SqT.of (E610 _ _ hr6)), ?_⟩
    rw [List.length_map]
    refine rep_ints (x := 1) hu1 l1 (by omega) fun z1 H11 e11 hz1 => ?_
    refine ⟨slen rfl, ?_⟩
    (intro tr ntr; generalize hGtr : upd _ tr _ = H12; have eH12 := exG hGtr ntr; have htr := atG hGtr; clear hGtr)
    have E612 := ext E610 (ext e11 eH12)
    have hz0' := eH12 _ _ (e11 _ _ (eH10 _ _ hz0))
    have hz1' := eH12 _ _ hz1
    refine ⟨tr, rfl, ⟨_, SqT.of htr⟩, fun D hD => ?_⟩
    have hcand : ∀ a ∈ ([(sp, p), (z0, List.replicate (ns.length : Int).toNat 0), (z1, List.replicate (ns.length : Int).toNat 1)] : List (Addr × List Int)), H12 a.1 = some (.tup (a.2.map V.int)) ∧ SeatOk ns a.2 := fun a ha => by
      simp only [List.mem_cons, List.not_mem_nil, or_false] at ha
      rcases ha with rfl | rfl | rfl
      · exact ⟨E612 _ _ hs6, skp⟩
      · exact ⟨hz0', sk0⟩
      · exact ⟨hz1', sk1⟩
    generalize hcd : ([(sp, p), (z0, List.replicate (ns.length : Int).toNat 0), (z1, List.replicate (ns.length : Int).toNat 1)] : List (Addr × List Int)) = cand at hcand
    have hcv : [V.ref sp, V.ref z0, V.ref z1] = cand.map fun a => V.ref a.1 := by rw [← hcd]; rfl
    have lcd : cand.length = 3 := by rw [← hcd]; rfl
    rw [hcv] at htr
    refine lc_filt (walk_tup (xs := cand.map fun a => V.ref a.1)) cand (fun a => decide (a.2 ∉ tss)) (fun a => V.ref a.1) (by simp) (by simp [lcd]) hD (fun Hx e => SqT.of (e _ _ htr)) ?_ ?_
    · rintro i x a Ha _ R S ha ea ⟨rfl, hx⟩ kk ks
      rw [List.getElem?_map, ha] at hx
      obtain rfl := Option.some.inj hx
      have hq := (hcand a (List.mem_of_getElem? ha)).1
      refine ⟨rfl, _, rfl, _, rfl, notin_rowsD (ea _ _ hq) (hg6.mono (ext E612 ea)) ?_⟩
      refine ⟨_, rfl, ?_⟩
      by_cases c : a.2 ∈ tss
      · rw [decide_eq_true c]
        exact ks _ exr (by simp [c])
      · rw [decide_eq_false c]
        exact ⟨_, rfl, kk _ _ exr (by simp [c]) rfl⟩
    intro H13 e13 hD13
    have E613 := ext E612 e13
    have hmr : RowsR H13 ((cand.filter fun a => decide (a.2 ∉ tss)).map fun a => V.ref a.1) ((cand.filter fun a => decide (a.2 ∉ tss)).map fun a => a.2) := by
      clear hcd hcv htr lcd hD13
      have h2 : ∀ a ∈ cand, H13 a.1 = some (.tup (a.2.map V.int)) := fun a ha => e13 _ _ (hcand a ha).1
      clear hcand
      induction cand with
      | nil => exact .nil
      | cons a l ih =>
        have ih := ih fun b hb => h2 b (List.mem_cons_of_mem _ hb)
        by_cases c : a.2 ∈ tss
        · rw [List.filter_cons_of_neg (by simp [c])]
          exact ih
        · rw [List.filter_cons_of_pos (by simp [c])]
          exact .cons ⟨_, rfl, h2 a List.mem_cons_self⟩ ih
    have hmo : ∀ q ∈ (cand.filter fun a => decide (a.2 ∉ tss)).map (fun a => a.2), q ∉ tss ∧ SeatOk ns q := fun q hq => by
      obtain ⟨a, ha, rfl⟩ := List.mem_map.mp hq
      obtain ⟨h1, h2⟩ := List.mem_filter.mp ha
      exact ⟨of_decide_eq_true h2, (hcand a h1).2⟩
    generalize hml : (cand.filter fun a => decide (a.2 ∉ tss)).map (fun a => a.2) = mo at hmr hmo
    generalize (cand.filter fun a => decide (a.2 ∉ tss)).map (fun a => V.ref a.1) = mv at hmr hD13
    clear htr hml hcand hcd hcv lcd cand
    have src13 := src6.mono E613
    have tab13 := tab7.mono (ext eH8 (ext e9 (ext eH10 (ext e11 (ext eH12 e13)))))
    have hg13 := hg6.mono E613
    have hr13 := E613 _ _ hr6
    have hs13 := E613 _ _ hs6
    have hh13 := E613 _ _ hh6
    have X13 := X06.trans (XB.of E613)
    have nD6 : H6 D = none := Evl.fresh_back E612 hD
    have nDs : D ≠ s := src6.ne nD6
    clear e7 eH8 e9 eH10 e11 eH12 e13 hu0 hu1 hz0 hz1 hz0' hz1' tab7 src6 hg6 hr6 hs6 hh6 X06 E613 E612 E610 E68 hD nD6
    dsimp only [gName]
    refine ⟨_, _, rfl, ?_⟩
    unfold tNoPart
    obtain ⟨gs, hgs, rgs⟩ := id hg13
    have lgs : gs.length = tss.length := rgs.len
    refine ⟨_, rfl, _, rfl, g, gs, rfl, SqL.of hgs, ?_⟩
    (intro gt ngt; generalize hGgt : upd _ gt _ = H14; have eH14 := exG hGgt ngt; have hgt := atG hGgt; clear hGgt)
    refine ⟨slen rfl, ?_⟩
    (intro gl ngl; generalize hGgl : upd _ gl _ = H15; have eH15 := exG hGgl ngl; have hgl := atG hGgl; clear hGgl)
    have E15 := ext eH14 eH15
    refine ⟨_, rfl, g, gs, rfl, .inl (SqL.of (E15 _ _ hgs)), _, _, rfl, rfl, .inr ⟨_, rfl, gl, _, _, rfl, rfl, hgl, ?_⟩⟩
    obtain ⟨t0, tr, rfl⟩ : ∃ t0 tr, tss = t0 :: tr := match tss, tne with | t0 :: tr, _ => ⟨t0, tr, rfl⟩
    obtain ⟨q0, gs', rfl, hq0⟩ := rows_head rgs
    have lg' : gs'.length = tr.length := Nat.succ.inj lgs
    have hgt2 : H15 gt = some (.lst gs') := by
      refine (eH15 _ _ hgt).trans ?_
      rw [show ((1 : Int)) = ((1 : Nat) : Int) from rfl, cut_from]
      rfl
    have rtr : RowsR H15 gs' tr := by
      cases rgs with
      | cons _ t => exact RowsR.mono E15 t
    obtain ⟨kk, la, hk, hk2, lotA, okA⟩ : ∃ (kk : Int) (la : List (List (List Int))), (if decide ((1 : Int) < (((V.ref q0 :: gs').length : Nat) : Int)) = true then (1 : Int) else 0) = kk ∧ (0 ≤ kk ∧ kk ≤ 1 ∧ la.length ≤ 1) ∧ LotsR s H15 (List.replicate kk.toNat [V.ref gt]).flatten la ∧ ∀ lot ∈ la, LotOk ns (t0 :: tr) lot := by
      by_cases c : tr = []
      · subst c
        cases gs' with
        | cons _ _ => simp at lg'
        | nil => exact ⟨0, [], rfl, ⟨by decide, by decide, by decide⟩, .nil, fun _ h => nomatch h⟩
      · have l0 : 0 < tr.length := List.length_pos_iff.mpr c
        refine ⟨1, [tr], if_pos (decide_eq_true ?_), ⟨by decide, by decide, Nat.le_refl _⟩, .cons ⟨gt, rfl, ⟨gs', hgt2, rtr⟩, src13.ne ngt⟩ .nil, fun lot h => ?_⟩
        · rw [List.length_cons]
          omega
        · rw [List.mem_singleton.mp h]
          exact LotOk.tail c (by omega) sks nod
    rw [hk]
    refine ⟨by omega, by omega, ?_, ?_⟩
    · rw [List.length_singleton, Nat.one_mul]
      exact Nat.le_trans (show kk.toNat ≤ 1 by omega) (by decide)
    (intro rl nrl; generalize hGrl : upd _ rl _ = H16; have eH16 := exG hGrl nrl; have hrl := atG hGrl; clear hGrl)
    have E16 := ext E15 eH16
    refine ⟨_, rfl, _, rfl, D, _, rfl, SqL.of (E16 _ _ hD13), ?_⟩
    (intro mt nmt; generalize hGmt : upd _ mt _ = H17; have eH17 := exG hGmt nmt; have hmt := atG hGmt; clear hGmt)
    have E17 := ext E16 eH17
    have e23 : cutV mv none (some 1) = mv.take 1 := by
      rw [show ((1 : Int)) = ((1 : Nat) : Int) from rfl, cut_to]
    have hmt2 : H17 mt = some (.lst (mv.take 1)) := by rw [← e23]; exact hmt
    have rmt : RowsR H17 (mv.take 1) (mo.take 1) := by
      cases hmr with
      | nil => exact .nil
      | cons q t =>
        obtain ⟨r, e1, e2⟩ := q
        exact .cons ⟨r, e1, E17 _ _ e2⟩ .nil
    refine ⟨mt, rfl, ⟨_, SqL.of hmt2⟩, fun B hB => ?_⟩
    refine lc_newG (PdLot B s) pdlot_mono (walk_list (xs := mv.take 1)) ((mo.take 1).map fun q => (t0 :: tr) ++ [q]) (fun _ => true) (by rw [List.length_map, rmt.len]) (by rw [List.length_take]; omega) hB (fun Hx ex => SqL.of (ex _ _ hmt2)) ?_ ?_
    · rintro i x a Ha _ R S ha ea ⟨zB, hzB⟩ ⟨rfl, hx⟩ kk _
      rw [List.getElem?_map] at ha
      obtain ⟨q, r, hq, rfl, hr⟩ := rmt.get hx
      rw [hq] at ha
      obtain rfl := Option.some.inj ha
      have hgx := (ext E17 ea) _ _ hgs
      refine ⟨rfl, ?_⟩
      unfold tYes
      dsimp only
      rw [if_pos rfl]
      refine ⟨_, rfl, _, rfl, slen rfl, ?_⟩
      (intro ol nol; generalize hGol : upd _ ol _ = Hb; have eHb := exG hGol nol; have hol := atG hGol; clear hGol)
      refine ⟨g, ol, V.ref q0 :: gs', [V.ref r], rfl, rfl, SqL.of (eHb _ _ hgx), SqL.of hol, ?_, ?_⟩
      · rw [List.length_cons, List.length_singleton]
        rw [List.length_cons] at lt
        exact Nat.le_trans (show _ ≤ 5 by omega) (by decide)
      (intro nl nnl; generalize hGnl : upd _ nl _ = Hc; have eHc := exG hGnl nnl; have hnl := atG hGnl; clear hGnl)
      have Eac := ext eHb eHc
      have E6c : Ex H13 Hc := ext E17 (ext ea Eac)
      refine kk _ _ Eac rfl ⟨nl, rfl, ⟨_, hnl, RowsR.snoc (Eac _ _ (ea _ _ hr)) (rgs.mono E6c)⟩, ?_, ?_⟩
      · exact (ne_of_none (eHb _ _ hzB) nnl).symm
      · exact (src13.mono (ext E17 (ext ea eHb))).ne nnl
    intro H18 ls e18 hls pls
    rw [show ((mo.take 1).map fun q => (t0 :: tr) ++ [q]).filter (fun _ => true) = (mo.take 1).map fun q => (t0 :: tr) ++ [q] from List.filter_eq_self.mpr fun _ _ => rfl] at pls
    have E18 := ext E17 e18
    refine ⟨rl, B, _, ls, rfl, rfl, SqL.of ((ext eH17 e18) _ _ hrl), SqL.of hls, ?_, ?_⟩
    · have h1 : ls.length ≤ 1 := by
        rw [Paired.length pls, List.length_map, List.length_take]
        omega
      have h2 : (List.replicate kk.toNat [V.ref gt]).flatten.length ≤ 1 := by
        rw [Paired.length lotA]
        exact hk2.2.2
      exact Nat.le_trans (show _ ≤ 2 by omega) (by decide)
    (intro oth noth; generalize hGoth : upd _ oth _ = H19; have eH19 := exG hGoth noth; have hoth := atG hGoth; clear hGoth)
    have E19 := ext E18 eH19
    have rlots : LotsR s H19 ((List.replicate kk.toNat [V.ref gt]).flatten ++ ls) (la ++ (mo.take 1).map fun q => (t0 :: tr) ++ [q]) :=
      paired_app (LotsR.mono (ext eH16 (ext eH17 (ext e18 eH19))) lotA) (LotsR.mono eH19 (lots_of pls))
    have okL : ∀ lot ∈ la ++ (mo.take 1).map fun q => (t0 :: tr) ++ [q], LotOk ns (t0 :: tr) lot := fun lot h => by
      rcases List.mem_append.mp h with h | h
      · exact okA lot h
      · obtain ⟨q, hq, rfl⟩ := List.mem_map.mp h
        obtain ⟨h1, h2⟩ := hmo q (List.mem_of_mem_take hq)
        exact LotOk.snoc h1 h2 (by omega) sks nod
    have lts : (la ++ (mo.take 1).map fun q => (t0 :: tr) ++ [q]).length ≤ 2 := by
      rw [List.length_append, List.length_map, List.length_take]
      omega
    have los := Paired.length rlots
    generalize (List.replicate kk.toNat [V.ref gt]).flatten ++ ls = os at *
    generalize (la ++ (mo.take 1).map fun q => (t0 :: tr) ++ [q]) = lots at *
    have tn : Tn T.C_Table s rt bd g sp oth ns p (t0 :: tr) os lots H19 := ⟨src13.mono E19, E19 _ _ hr13, tab13.mono E19, hg13.mono E19, E19 _ _ hs13, hoth, rlots⟩
    have nos : oth ≠ s := (src13.mono E18).ne noth
    have hh19 := E19 _ _ hh13
    have X19 := X13.trans (XB.of E19)
    clear rlots hoth noth eH19 pls E18 e18 hls hmt hmt2 rmt E17 eH17 eH16 E16 lotA okA hk hk2 rtr hgt hgt2 hq0 hgs rgs lgs eH14 eH15 E15 hgl src13 tab13 hg13 hr13 hs13 hh13 X13 hD13 hmr hmo E19
    dsimp only [gName]
    refine ⟨slen rfl, ?_⟩
    (intro w0 nw0; generalize hGw0 : upd _ w0 _ = Ha; have eHa := exG hGw0 nw0; have hw0 := atG hGw0; clear hGw0)
    refine ⟨slen rfl, ?_⟩
    (intro b1 nb1; generalize hGb1 : upd _ b1 _ = Hb; have eHb := exG hGb1 nb1; have hb1 := atG hGb1; clear hGb1)
    refine ⟨slen rfl, ?_⟩
    (intro w1 nw1; generalize hGw1 : upd _ w1 _ = Hc; have eHc := exG hGw1 nw1; have hw1 := atG hGw1; clear hGw1)
    refine ⟨_, rfl, slen rfl, ?_⟩
    (intro c2 nc2; generalize hGc2 : upd _ c2 _ = Hd; have eHd := exG hGc2 nc2; have hc2 := atG hGc2; clear hGc2)
    refine ⟨slen rfl, ?_⟩
    (intro w2 nw2; generalize hGw2 : upd _ w2 _ = He; have eHe := exG hGw2 nw2; have hw2 := atG hGw2; clear hGw2)
    refine ⟨_, rfl, slen rfl, ?_⟩
    (intro c3 nc3; generalize hGc3 : upd _ c3 _ = Hf; have eHf := exG hGc3 nc3; have hc3 := atG hGc3; clear hGc3)
    refine ⟨slen rfl, ?_⟩
    (intro b3 nb3; generalize hGb3 : upd _ b3 _ = Hg; have eHg := exG hGb3 nb3; have hb3 := atG hGb3; clear hGb3)
    refine ⟨slen rfl, ?_⟩
    (intro w3 nw3; generalize hGw3 : upd _ w3 _ = Hh; have eHh := exG hGw3 nw3; have hw3 := atG hGw3; clear hGw3)
    refine ⟨slen rfl, ?_⟩
    (intro wl nwl; generalize hGwl : upd _ wl _ = Hi; have eHi := exG hGwl nwl; have hwl := atG hGwl; clear hGwl)
    have Egi := ext eHh eHi
    have Efi := ext eHg Egi
    have Eei := ext eHf Efi
    have Edi := ext eHe Eei
    have Eci := ext eHd Edi
    have Ebi := ext eHc Eci
    have Eai := ext eHb Ebi
    have E0i := ext eHa Eai
    have hhi := E0i _ _ hh19
    have ways : ∀ (i : Nat) (x : V), ([V.ref w0, V.ref w1, V.ref w2, V.ref w3] : List V)[i]? = some x → WayAt Hi ns (t0 :: tr) x := by
      intro i x hx
      match i, hx with
      | 0, hx => exact ⟨w0, _, _, none, none, (Option.some.inj hx).symm, Eai _ _ hw0, rfl, rfl, fun _ z => by cases z⟩
      | 1, hx => exact ⟨w1, _, _, none, some true, (Option.some.inj hx).symm, Eci _ _ hw1, rfl, ⟨b1, rfl, Ebi _ _ hb1⟩, fun _ z => by cases z⟩
      | 2, hx => exact ⟨w2, _, _, some hop, none, (Option.some.inj hx).symm, Eei _ _ hw2, ⟨c2, rfl, ⟨_, Edi _ _ hc2, .cons ⟨hp, rfl, hhi⟩ .nil⟩⟩, rfl, fun _ z => by cases z; exact lh⟩
      | 3, hx => exact ⟨w3, _, _, some hop, some false, (Option.some.inj hx).symm, eHi _ _ hw3, ⟨c3, rfl, ⟨_, Efi _ _ hc3, .cons ⟨hp, rfl, hhi⟩ .nil⟩⟩, ⟨b3, rfl, Egi _ _ hb3⟩, fun _ z => by cases z; exact lh⟩
      | i + 4, hx => cases hx
    have tni := tn.mono E0i
    have Xi := X19.trans (XB.of E0i)
    have nws : wl ≠ s := (tn.src.mono (ext eHa (ext eHb (ext eHc (ext eHd (ext eHe (ext eHf (ext eHg eHh)))))))).ne nwl
    clear tn X19 E0i Eai Ebi Eci Edi Eei Efi Egi eHa eHb eHc eHd eHe eHf eHg eHh eHi hw0 hw1 hw2 hw3 hb1 hb3 hc2 hc3 hh19 bh
    generalize ([V.ref w0, V.ref w1, V.ref w2, V.ref w3] : List V) = wys at *
    refine ⟨wl, rfl, ⟨_, SqL.of hwl⟩, ?_⟩
    refine for_it (walk_list (xs := wys)) (fun i σ Hx => (∃ y8 y9 y10 y11 y12 y13 y14 : Option V, σ = [some (.ref s), some (.ref rt), some (.ref g), some (.ref sp), some (.ref hp), some (.ref bd), some (.ref D), some (.ref oth), y8, y9, y10, y11, y12, y13, y14]) ∧ XB s H Hx ∧ Hx wl = some (.lst wys) ∧ (∀ (i : Nat) (x : V), wys[i]? = some x → WayAt Hx ns (t0 :: tr) x) ∧ Tn T.C_Table s rt bd g sp oth ns p (t0 :: tr) os lots Hx) ⟨⟨_, _, _, _, _, _, _, rfl⟩, Xi, hwl, ways, tni⟩ (fun i σ Hx _ q => SqL.of q.2.2.1) ?_ ?_
    · rintro i x σ _ Hx hi ⟨⟨y8, y9, y10, y11, y12, y13, y14, rfl⟩, xb, hwx, ways, tn⟩ ⟨rfl, hx⟩
      obtain ⟨w, a, b, cw, rw, rfl, hw, hcw, hrw, hl⟩ := ways i x hx
      refine ⟨w, _, rfl, SqT.of hw, rfl, _, _, rfl, _, _, rfl, rfl, ?_⟩
      have ways' := ways
      clear tni ways Xi hwl
      dsimp only [gName]
      obtain ⟨gs, hgs, rgs⟩ := id tn.hg
      have lgs : gs.length = (t0 :: tr).length := rgs.len
      refine ⟨_, rfl, rt, _, rfl, .inr (SqT.of tn.hr), ?_⟩
      (intro tl ntl; generalize hGtl : upd _ tl _ = H1; have eH1 := exG hGtl ntl; have htl := atG hGtl; clear hGtl)
      refine mk_tab (b := false) (ns := ns) (show SqH H1 (false, tl) _ from htl) sz fun bd1 H2 e2 nbd1 tab2 => ?_
      have tn2 := tn.mono (ext eH1 e2)
      refine ⟨_, rfl, _, rfl, s, g, gs, rfl, tn2.src, (ext eH1 e2) _ _ hgs, ngs, by omega, DataIn.rows tn2.src (rgs.mono (ext eH1 e2)), fun sh ys H3 nsh hsh pm xb3 src3 => ?_⟩
      have tn3 := tn2.xb ngs nos xb3 src3
      have tab3 := tab_xbs tn2.src xb3 tab2
      have rg3 := (rgs.mono (ext eH1 e2)).monoT fun _ _ z => tup_xb tn2.src z xb3
      obtain ⟨tz, rtz, ptz⟩ := paired_perm pm rg3
      have hgs3 := xb3 _ _ ngs ((ext eH1 e2) _ _ hgs)
      have tzne : tz ≠ [] := fun z => by
        rw [z] at ptz
        exact absurd (List.nil_perm.mp ptz) (by simp)
      have ltz := ptz.length_eq
      have xH3 : XB s Hx H3 := (XB.of (ext eH1 e2)).trans xb3
      have hcw3 := csW_xb tn.src xH3 hcw
      have hrw3 := rsW_xb tn.src xH3 hrw
      have skz : ∀ t ∈ tz, SeatOk ns t := fun t ht => sks t (ptz.mem_iff.mp ht)
      have nodz : tz.Nodup := ptz.nodup_iff.mpr nod
      have okz : (csW ns tz cw).Ok ns tz := csW_ok pr hl
      refine ⟨_, rfl, ?_⟩
      refine mk_caller (bq := false) (cs := csW ns tz cw) tab3 sz ⟨ys, hsh, rtz⟩ tzne (by omega) skz nodz bn (csW_at hcw3) okz fun cl H4 e4 ncl _ hcl => ?_
      have tn4 := tn3.mono e4
      dsimp only [gName]
      refine ⟨_, rfl, ?_⟩
      refine mk_tab (b := true) (ns := ns) (show SqH H4 (true, rt) _ from tn4.hr) sz fun bd2 H5 e5 nbd2 tab5 => ?_
      have E35 := ext e4 e5
      refine ⟨_, rfl, g, gs, rfl, SqL.of (E35 _ _ hgs3), ?_⟩
      (intro rv nrv; generalize hGrv : upd _ rv _ = H6; have eH6 := exG hGrv nrv; have hrv := atG hGrv; clear hGrv)
      refine ⟨rv, gs.reverse, rfl, .inl ⟨SqL.of hrv, ?_⟩⟩
      (intro rq nrq; generalize hGrq : upd _ rq _ = H7; have eH7 := exG hGrq nrq; have hrq := atG hGrq; clear hGrq)
      have E37 := ext E35 (ext eH6 eH7)
      have rq7 : RowsQ H7 (true, rq) (t0 :: tr).reverse := ⟨gs.reverse, hrq, rows_rev (rg3.mono E37)⟩
      refine ⟨_, rfl, ?_⟩
      have okr : (rsW ns (t0 :: tr).reverse rw).Ok ns (t0 :: tr).reverse := rsW_ok pr
      have prv : (t0 :: tr).reverse.Perm (t0 :: tr) := List.reverse_perm _
      refine mk_resp (bq := true) (rs := rsW ns (t0 :: tr).reverse rw) (tab5.mono (ext eH6 eH7)) sz rq7 (by simp) (by rw [List.length_reverse]; omega) (fun t ht => sks t (List.mem_reverse.mp ht)) (prv.nodup_iff.mpr nod) bn (rsW_at (hrw3.xi (XI.of E37))) okr fun rp H8 e8 nrp _ hrp => ?_
      have E48 := ext e5 (ext eH6 (ext eH7 e8))
      have tn8 := tn4.mono E48
      have hcl8 := hcl.mono E48
      have rg8 := rg3.mono (ext e4 E48)
      have hgs8 := (ext e4 E48) _ _ hgs3
      dsimp only [gName]
      refine ⟨_, rfl, _, rfl, _, rfl, s, g, gs, rfl, tn8.src, hgs8, ngs, by omega, DataIn.rows tn8.src rg8, fun sh2 ys2 H9 nsh2 hsh2 pm2 xb9 src9 => ?_⟩
      have tn9 := tn8.xb ngs nos xb9 src9
      obtain ⟨tz2, rtz2, ptz2⟩ := paired_perm pm2 (rg8.monoT fun _ _ z => tup_xb tn8.src z xb9)
      have tzne2 : tz2 ≠ [] := fun z => by
        rw [z] at ptz2
        exact absurd (List.nil_perm.mp ptz2) (by simp)
      have ltz2 := ptz2.length_eq
      have hcl9 := hcl8.src tn8.src xb9 okz
      have hrp9 := hrp.src tn8.src xb9 okr
      have hgs9 := xb9 _ _ ngs hgs8
      have xH9 : XB s Hx H9 := xH3.trans ((XB.of (ext e4 E48)).trans xb9)
      refine ⟨_, rfl, _, rfl, _, rfl, bd, sp, cl, rp, (false, sh2), ns, p, tz2, tz, (t0 :: tr).reverse, csW ns tz cw, rsW ns (t0 :: tr).reverse rw, rfl, tn9.tab, sz, bn, ⟨ys2, hsh2, rtz2⟩, tzne2, by omega, (fun t ht => sks t (ptz2.mem_iff.mp ht)), ptz2.nodup_iff.mpr nod, tn9.sp, skp, skz, (fun t ht => sks t (List.mem_reverse.mp ht)), hcl9.at, okz, hrp9.at, okr, (fun _ => rsW_safe _ _ _ _), (fun n _ _ => absurd (ptz.trans ptz2.symm) n), (fun _ n => absurd (prv.trans ptz2.symm) n), fun _ _ H10 e10 => ?_⟩
      refine ⟨rfl, _, rfl, itf rfl ?_⟩
      have tn10 := tn9.mono e10
      have hcl10 := hcl9.mono e10
      have hrp10 := hrp9.mono e10
      have hrw10 := rsW_xb tn.src (xH9.trans (XB.of e10)) hrw
      have hcw10 := csW_xb tn.src (xH9.trans (XB.of e10)) hcw
      have xH10 : XB s H H10 := xb.trans (xH9.trans (XB.of e10))
      have hwx10 := (xH9.trans (XB.of e10)) _ _ nws hwx
      have ways10 : ∀ (i : Nat) (x : V), wys[i]? = some x → WayAt H10 ns (t0 :: tr) x := fun i x h => (ways' i x h).xb tn.src (xH9.trans (XB.of e10))
      clear xH9 xH3 tn9 tn8 tn4 tn3 tn2 tn hcl8 hcl9 hcl hrp hrp9 hrw hcw hrw3 hcw3 hgs hgs3 hgs8 hgs9 rgs rg8 rg3 rtz2 hsh2 pm2 ptz2 tzne2 ltz2 rq7 hrq hrv eH6 eH7 E37 E35 e5 tab5 e8 e4 E48 tab3 tab2 eH1 e2 hsh rtz pm e10 htl xb9 src9 xb3 src3 xb hwx hw
      dsimp only [tNext]
      refine ⟨_, rfl, oth, rfl, ⟨_, SqL.of tn10.ho⟩, ?_⟩
      refine for_it (walk_list (xs := os)) (fun i σ Hy => (∃ y12 y13 y14 : Option V, σ = [some (.ref s), some (.ref rt), some (.ref g), some (.ref sp), some (.ref hp), some (.ref bd), some (.ref D), some (.ref oth), some a, some b, some (.ref cl), some (.ref rp), y12, y13, y14]) ∧ Ex H10 Hy) ⟨⟨_, _, _, rfl⟩, exr⟩ (fun i σ Hy _ q => SqL.of (q.2 _ _ tn10.ho)) ?_ ?_
      · rintro i x σ _ Hy hi ⟨⟨y12, y13, y14, rfl⟩, ey⟩ ⟨rfl, hx⟩
        have tny := tn10.mono ey
        obtain ⟨lot, hlot, al, rfl, hal, _⟩ := paired_get tny.rl hx
        have okl := okL lot (List.mem_of_getElem? hlot)
        have hcly := hcl10.mono ey
        have hrpy := hrp10.mono ey
        have hcwy := hcw10.xi (XI.of ey)
        have hrwy := hrw10.xi (XI.of ey)
        dsimp only [gName]
        have okc : (csW ns lot cw).Ok ns lot := csW_ok pr hl
        refine ⟨_, rfl, _, rfl, _, rfl, _, rfl, _, rfl, _, rfl, ?_⟩
        refine mk_caller (bq := false) (cs := csW ns lot cw) tny.tab sz hal okl.ne (by have := okl.len; omega) okl.seat okl.nod bn (csW_at hcwy) okc fun c2 Hz ez nc2 _ hc2 => ?_
        have hn : ¬ lot.Perm (t0 :: tr) := okl.perm (List.Perm.refl _)
        refine ⟨_, rfl, bd, sp, c2, rp, (false, g), ns, p, t0 :: tr, lot, (t0 :: tr).reverse, csW ns lot cw, rsW ns (t0 :: tr).reverse rw, rfl, tny.tab.mono ez, sz, bn, tny.hg.mono ez, tne, by omega, sks, nod, ez _ _ tny.sp, skp, okl.seat, (fun t ht => sks t (List.mem_reverse.mp ht)), hc2.at, okc, (hrpy.mono ez).at, okr, (fun _ => rsW_safe _ _ _ _), (fun _ H10 e10 => ?_), (fun q _ => absurd q hn), (fun q _ => absurd q hn)⟩
        refine ⟨.str "caller", .str "caller", .str _, .str _, (shS35 (n := 60) (by decide +kernel)).ok, (shS35 (n := 60) (by decide +kernel)).ok, _, rfl, itf (by decide +kernel) ?_⟩
        dsimp only [tNext]
        have tnq := tny.mono (ext ez e10)
        have E1q := ext ez e10
        refine ⟨_, rfl, _, rfl, _, rfl, _, rfl, _, rfl, _, rfl, _, rfl, ?_⟩
        have okq : (rsW ns lot rw).Ok ns lot := rsW_ok pr
        refine mk_resp (bq := false) (rs := rsW ns lot rw) tnq.tab sz (hal.mono E1q) okl.ne (by have := okl.len; omega) okl.seat okl.nod bn (rsW_at (hrwy.xi (XI.of E1q))) okq fun r2 Hw ew nr2 _ hr2 => ?_
        have tnw := tnq.mono ew
        have hn2 : ¬ lot.Perm (t0 :: tr) := okl.perm (List.Perm.refl _)
        refine ⟨bd, sp, cl, r2, (false, g), ns, p, t0 :: tr, tz, lot, csW ns tz cw, rsW ns lot rw, rfl, tnw.tab, sz, bn, tnw.hg, tne, by omega, sks, nod, tnw.sp, skp, skz, okl.seat, (hcly.mono (ext E1q ew)).at, okz, hr2.at, okq, (fun _ => rsW_safe _ _ _ _), (fun n _ _ => absurd ptz n), (fun _ _ H11 e11 => ?_), (fun _ q => absurd q hn2)⟩
        refine ⟨.str "responder", .str "responder", .str _, .str _, (shS35 (n := 60) (by decide +kernel)).ok, (shS35 (n := 60) (by decide +kernel)).ok, _, rfl, itf (by decide +kernel) ?_⟩
        exact ⟨⟨_, _, _, rfl⟩, ext ey (ext E1q (ext ew e11))⟩
      rintro σ Hy ⟨⟨y12, y13, y14, rfl⟩, ey⟩
      exact ⟨⟨_, _, _, _, _, _, _, rfl⟩, xH10.trans (XB.of ey), ey _ _ hwx10, fun i x h => (ways10 i x h).xb tn10.src (XB.of ey), tn10.mono ey⟩
    rintro σ Hx ⟨⟨y8, y9, y10, y11, y12, y13, y14, rfl⟩, xb, hwx, ways, tn⟩
    clear hwl ways hwx tni nos nws okL los lts nwl
    dsimp only [tNext]
    have sz4 : SzOk [4] := ⟨by decide, by decide, by decide⟩
    have bn4 : ∀ n ∈ ([4] : List Int), n.natAbs < 2 ^ 5000 := fun n hn => by
      rw [List.mem_singleton.mp hn]
      exact Nat.lt_of_lt_of_le (show (4 : Nat) < 2 ^ 3 by decide) (Nat.pow_le_pow_right (by decide) (by decide))
    have sk4 : ∀ t ∈ ([[0], [2]] : List (List Int)), SeatOk [4] t := fun t ht => by
      simp only [List.mem_cons, List.not_mem_nil, or_false] at ht
      rcases ht with rfl | rfl <;> simp [SeatOk]
    have pm4 : ([[2], [0]] : List (List Int)).Perm [[0], [2]] := List.Perm.swap _ _ _
    refine ⟨slen rfl, ?_⟩
    (intro la4 nla4; generalize hGla4 : upd _ la4 _ = H1; have eH1 := exG hGla4 nla4; have hla4 := atG hGla4; clear hGla4)
    refine mk_tab (b := false) (ns := [4]) (show SqH H1 (false, la4) _ from hla4) sz4 fun b4 H2 e2 nb4 tab2 => ?_
    refine rows_dsp (rows := [[0], [2]]) (by repeat (first | exact RowsT.nil | refine RowsT.cons (fun _ _ _ h => h) (by decide) ?_)) (by decide) fun g4 xs4 H3 e3 ng4 hg4 rg4 => ?_
    refine ⟨slen rfl, ?_⟩
    (intro s4 ns4; generalize hGs4 : upd _ s4 _ = H4; have eH4 := exG hGs4 ns4; have hs4 := atG hGs4; clear hGs4)
    refine ⟨slen rfl, ?_⟩
    (intro lb4 nlb4; generalize hGlb4 : upd _ lb4 _ = H5; have eH5 := exG hGlb4 nlb4; have hlb4 := atG hGlb4; clear hGlb4)
    refine mk_tab (b := false) (ns := [4]) (show SqH H5 (false, lb4) _ from hlb4) sz4 fun bb4 H6 e6 nbb4 tab6 => ?_
    refine rows_dsp (rows := [[2], [0]]) (by repeat (first | exact RowsT.nil | refine RowsT.cons (fun _ _ _ h => h) (by decide) ?_)) (by decide) fun gb4 ys4 H7 e7 ngb4 hgb4 rgb4 => ?_
    have okc4 : (CSt.lay (countsL [4] [[2], [0]])).Ok [4] [[2], [0]] := ⟨rfl, by decide⟩
    refine mk_caller (bq := false) (cs := .lay (countsL [4] [[2], [0]])) (tab6.mono e7) sz4 ⟨ys4, hgb4, rgb4⟩ (by simp) (by decide) (fun t ht => sk4 t (pm4.mem_iff.mp ht)) (by decide) bn4 rfl okc4 fun c4 H8 e8 nc4 _ hc4 => ?_
    refine ⟨slen rfl, ?_⟩
    (intro lc4 nlc4; generalize hGlc4 : upd _ lc4 _ = H9; have eH9 := exG hGlc4 nlc4; have hlc4 := atG hGlc4; clear hGlc4)
    refine mk_tab (b := false) (ns := [4]) (show SqH H9 (false, lc4) _ from hlc4) sz4 fun bc4 H10 e10 nbc4 tab10 => ?_
    refine rows_dsp (rows := [[0], [2]]) (by repeat (first | exact RowsT.nil | refine RowsT.cons (fun _ _ _ h => h) (by decide) ?_)) (by decide) fun gc4 zs4 H11 e11 ngc4 hgc4 rgc4 => ?_
    refine ⟨slen rfl, ?_⟩
    (intro wf4 nwf4; generalize hGwf4 : upd _ wf4 _ = H12; have eH12 := exG hGwf4 nwf4; have hwf4 := atG hGwf4; clear hGwf4)
    have okr4 : (RS.words [false]).Ok [4] [[0], [2]] := ⟨by simp, by simp⟩
    refine mk_resp (bq := false) (rs := .words [false]) (tab10.mono (ext e11 eH12)) sz4 (RowsQ.mono eH12 (q := (false, gc4)) ⟨zs4, hgc4, rgc4⟩) (by simp) (by decide) sk4 (by decide) bn4 ⟨wf4, rfl, hwf4⟩ okr4 fun r4 H13 e13 nr4 _ hr4 => ?_
    have E48 := ext eH5 (ext e6 (ext e7 e8))
    have E813 := ext eH9 (ext e10 (ext e11 (ext eH12 e13)))
    have E413 := ext E48 E813
    have E313 := ext eH4 E413
    refine ⟨b4, s4, c4, r4, (false, g4), 5, [4], [1], [[0], [2]], [[2], [0]], [[0], [2]], .lay (countsL [4] [[2], [0]]), .words [false], rfl, tab2.mono (ext e3 E313), sz4, bn4, RowsQ.mono E313 (q := (false, g4)) ⟨xs4, hg4, rg4⟩, (by simp), (by decide), sk4, (by decide), E413 _ _ hs4, (by simp [SeatOk]), (hc4.mono E813).at, okc4, pm4, hr4.at, okr4, List.Perm.refl _, (by decide), (fun _ => rfl), fun t f h xs ys Hq eq ht hf hm hh hs nf nh => ?_⟩
    have c1 : (course [4] [[0], [2]] (.lay (countsL [4] [[2], [0]])) (.words [false]) 0 5 [1]).1.length = 1 := by decide +kernel
    have c2 : decide ((course [4] [[0], [2]] (.lay (countsL [4] [[2], [0]])) (.words [false]) 0 5 [1]).2.getLastD [] ∈ ([[0], [2]] : List (List Int))) = true := by decide +kernel
    rw [c2] at ht
    have lx : xs.length = 1 := (Paired.length hm).trans c1
    dsimp only [gName]
    refine ⟨_, rfl, t, _, _, _, rfl, rfl, SqT.of ht, rfl, f, _, rfl, .inl (SqL.of hf), ?_⟩
    refine ⟨rfl, _, rfl, itt (by rw [lx]; rfl) ?_⟩
    refine ⟨_, rfl, t, _, _, _, rfl, rfl, SqT.of ht, rfl, rfl, ?_⟩
    refine (congrArg (fun b => Q (V.bl b) Hq) (decide_eq_true rfl)).mpr (k Hq ?_ ?_)
    · exact xb.trans ((XB.of (ext eH1 (ext e2 (ext e3 E313)))).trans (XB.of eq))
    · exact tn.src.mono (ext (ext eH1 (ext e2 (ext e3 E313))) eq)
def sp_law_witness_right : Sp := fun vs H Q _ => ∃ (s : Addr), vs = [.ref s] ∧ Src H s ∧ ∀ H2, XB s H H2 → Src H2 s → Q (.bl true) H2
theorem ok_law_witness_right (T : TX K mg) : FnOk P w K mg base CX0 10 T.f_law_witness_right T.fd_law_witness_right ["_law_source_here"] sp_law_witness_right := by
  refine T.F_law_witness_right.ok sc_law_witness_right (fun vs H Q E h => ?_) (fun cdv A outer s H vs Q E hr h => ?_)
  · obtain ⟨s, rfl, _⟩ := h
    rfl
  · obtain ⟨s, rfl, hs, k⟩ := h
    refine ⟨_, (pss_cons (ps_par3 (i := 1) (j := 2) (l := 3) rfl sc_law_witness_right.nd rfl rfl rfl (by decide) (by decide) (by decide) rfl rfl rfl (pa_cons (pe_make T.M_Table (ok_Table_init T) (hr.mono (by decide)) rfl T.m_Table T.b_Table_init .nil pass0 (pa_cons (pe_lst (pa_cons pe_int (pa_cons pe_int pa_nil))) pa_nil)) (pa_cons (pe_lst (pa_cons (pe_tup (pa_cons pe_int (pa_cons pe_int pa_nil))) (pa_cons (pe_tup (pa_cons pe_int (pa_cons pe_int pa_nil))) (pa_cons (pe_tup (pa_cons pe_int (pa_cons pe_int pa_nil))) pa_nil)))) (pa_cons (pe_tup (pa_cons pe_int (pa_cons (pe_tup (pa_cons pe_int (pa_cons pe_int pa_nil))) (pa_cons pe_int pa_nil)))) pa_nil))) (by rfl)) (pss_cons (ps_par (i := 4) (j := 5) rfl sc_law_witness_right.nd rfl rfl (by decide) rfl rfl (pa_cons (pe_call (ok_law_shuffled T) (hr.mono (by decide)) rfl T.m_law_shuffled T.F_law_shuffled.kp T.b_law_shuffled .nil pass0 (pa_cons (pv 0) (pa_cons (pv 2) pa_nil))) (pa_cons (pe_tup (pa_cons (pe_call (ok_law_pick T) (hr.mono (by decide)) rfl T.m_law_pick T.F_law_pick.kp T.b_law_pick .nil pass0 (pa_cons (pv 0) (pa_cons (pe_lst (pa_cons pe_int (pa_cons pe_int (pa_cons pe_int (pa_cons pe_int (pa_cons pe_int (pa_cons pe_int pa_nil))))))) pa_nil))) (pa_cons (pe_call (ok_law_take T) (hr.mono (by decide)) rfl T.m_law_take T.F_law_take.kp T.b_law_take .nil pass0 (pa_cons (pv 0) (pa_cons pe_int pa_nil))) pa_nil))) pa_nil)) (by rfl)) (pss_cons (ps_par (i := 6) (j := 7) rfl sc_law_witness_right.nd rfl rfl (by decide) rfl rfl (pa_cons (pe_make T.M_Caller (ok_Caller_init T) (hr.mono (by decide)) rfl T.m_Caller T.b_Caller_init .nil pass0 (pa_cons (pe_make T.M_Table (ok_Table_init T) (hr.mono (by decide)) rfl T.m_Table T.b_Table_init .nil pass0 (pa_cons (pe_tup (pa_cons pe_int (pa_cons pe_int pa_nil))) pa_nil)) (pa_cons (pe_revLK K rfl (pv 4)) (pa_cons (pe_lst (pa_cons (pe_tup (pa_cons pe_int (pa_cons pe_int pa_nil))) pa_nil)) pa_nil)))) (pa_cons (pe_make T.M_Responder (ok_Responder_init T) (hr.mono (by decide)) rfl T.m_Responder T.b_Responder_init .nil pass0 (pa_cons (pe_make T.M_Table (ok_Table_init T) (hr.mono (by decide)) rfl T.m_Table T.b_Table_init .nil pass0 (pa_cons (pe_tup (pa_cons pe_int (pa_cons pe_int pa_nil))) pa_nil)) (pa_cons (pv 4) (pa_cons (pv 3) pa_nil)))) pa_nil)) (by rfl)) (pss_cons (ps_if (pt_cmpR (r := rNeD K) (op_neD hr.units) (pe_ix ix_tup (pe_call (ok_play T) (hr.mono (by decide)) rfl T.m_play T.F_play.kp T.b_play .nil pass0 (pa_cons (pv 1) (pa_cons (pv 2) (pa_cons (pv 5) (pa_cons (pv 6) (pa_cons (pv 7) (pa_cons pe_int pa_nil))))))) pe_int (fun _ _ => rfl)) pe_str (nomark _)) (pss_one (ps_ret pe_bl)) pss_nil) (pss_one (ps_ret (pe_cmpR (r := rEqD K) (op_eqD hr.units) (pe_call (ok_law_refused T) hr rfl T.m_law_refused T.F_law_refused.kp T.b_law_refused .nil pass0 (pa_cons (pv 1) (pa_cons (pv 2) (pa_cons (pv 5) (pa_cons (pv 6) (pa_cons (pe_make T.M_Responder (ok_Responder_init T) (hr.mono (by decide)) rfl T.m_Responder T.b_Responder_init .nil pass0 (pa_cons (pv 1) (pa_cons (pe_slice sl_list (pv 4) (po_some pe_int) po_none) (pa_cons (pv 3) pa_nil)))) pa_nil)))))) pe_str (nomark _)))))))), ?_⟩
    have sz : SzOk [9, 4] := ⟨by decide, by decide, by decide⟩
    have bn : ∀ n ∈ ([9, 4] : List Int), n.natAbs < 2 ^ 5000 := fun n hn => by
      refine Nat.lt_of_lt_of_le (show n.natAbs < 2 ^ 4 by simp at hn; rcases hn with rfl | rfl <;> decide) (Nat.pow_le_pow_right (by decide) (by decide))
    have sks : ∀ t ∈ ([[2, 0], [5, 3], [8, 1]] : List (List Int)), SeatOk [9, 4] t := fun t ht => by
      simp only [List.mem_cons, List.not_mem_nil, or_false] at ht
      rcases ht with rfl | rfl | rfl <;> simp [SeatOk]
    have nod : ([[2, 0], [5, 3], [8, 1]] : List (List Int)).Nodup := by decide
    refine ⟨slen rfl, ?_⟩
    (intro l1 nl1; generalize hGl1 : upd _ l1 _ = H1; have eH1 := exG hGl1 nl1; have hl1 := atG hGl1; clear hGl1)
    refine mk_tab (b := false) (ns := [9, 4]) (show SqH H1 (false, l1) _ from hl1) sz fun bd H2 e2 nbd tab2 => ?_
    refine rows_dsp (rows := [[2, 0], [5, 3], [8, 1]]) (by repeat (first | exact RowsT.nil | refine RowsT.cons (fun _ _ _ h => h) (by decide) ?_)) (by decide) fun g gs H3 e3 ng hgs rgs => ?_
    refine ⟨slen rfl, ?_⟩
    (intro wa nwa; generalize hGwa : upd _ wa _ = H4; have eH4 := exG hGwa nwa; have hwa := atG hGwa; clear hGwa)
    refine ⟨slen rfl, ?_⟩
    (intro wt nwt; generalize hGwt : upd _ wt _ = H5; have eH5 := exG hGwt nwt; have hwt := atG hGwt; clear hGwt)
    refine ⟨_, _, _, rfl, ?_⟩
    have src5 := hs.mono (ext eH1 (ext e2 (ext e3 (ext eH4 eH5))))
    have ngs : g ≠ s := (hs.mono (ext eH1 e2)).ne ng
    have hgs5 := (ext eH4 eH5) _ _ hgs
    have rgs5 := rgs.mono (ext eH4 eH5)
    have wit5 : WitAt H5 wt 3 [1, 0] 2 := ⟨wa, hwt, eH5 _ _ hwa⟩
    have tab5 := tab2.mono (ext e3 (ext eH4 eH5))
    refine ⟨_, rfl, _, rfl, s, g, gs, rfl, src5, hgs5, ngs, by rw [rgs.len]; decide, DataIn.rows src5 rgs5, fun sh ys H6 nsh hsh pm xb6 src6 => ?_⟩
    obtain ⟨tz, rtz, ptz⟩ := paired_perm pm (rgs5.monoT fun _ _ z => tup_xb src5 z xb6)
    refine ⟨_, rfl, slen rfl, ?_⟩
    (intro pl npl; generalize hGpl : upd _ pl _ = H7; have eH7 := exG hGpl npl; have hpl := atG hGpl; clear hGpl)
    have src7 := src6.mono eH7
    refine ⟨s, pl, [0, 1, 3, 4, 6, 7], rfl, src7, hpl, src6.ne npl, by simp, by simp, fun x H8 hx xb8 src8 => ?_⟩
    refine ⟨_, rfl, s, 4, rfl, src8, by decide, by decide +kernel, fun y H9 y0 y1 xb9 src9 => ?_⟩
    refine ⟨slen rfl, ?_⟩
    (intro st nst; generalize hGst : upd _ st _ = H10; have eH10 := exG hGst nst; have hst := atG hGst; clear hGst)
    refine ⟨_, _, rfl, ?_⟩
    have src10 := src9.mono eH10
    have X510 : XB s H5 H10 := xb6.trans ((XB.of eH7).trans (xb8.trans (xb9.trans (XB.of eH10))))
    have X610 : XB s H6 H10 := (XB.of eH7).trans (xb8.trans (xb9.trans (XB.of eH10)))
    have nshs : sh ≠ s := src5.ne nsh
    have hsh10 := X610 _ _ nshs hsh
    have rtz10 : RowsR H10 ys tz := RowsR.monoT (H := H6) (fun _ _ z => tup_xb src6 z X610) rtz
    have hgs10 := X510 _ _ ngs hgs5
    have rgs10 := rgs5.monoT fun _ _ z => tup_xb src5 z X510
    have tab10 := tab_xbs src5 X510 tab5
    have wit10 : WitAt H10 wt 3 [1, 0] 2 := ⟨wa, tup_xb src5 hwt X510, tup_xb src5 (eH5 _ _ hwa) X510⟩
    have X10 : XB s H H10 := (XB.of (ext eH1 (ext e2 (ext e3 (ext eH4 eH5))))).trans X510
    clear src5 hgs5 rgs5 tab5 wit5 hgs rgs hwa hwt tab2 e2 e3 eH1 eH4 eH5 xb6 src6 rtz hsh src7 xb8 src8 xb9 eH7 hpl X610 X510 eH10 src9 hs
    have sky : SeatOk [9, 4] [x, y] ∧ unsafeB [x, y] (.wit 3 [1, 0] 2) = false ∧ (course [9, 4] [[2, 0], [5, 3], [8, 1]] (.calls [[1, 1]]) (.wit 3 [1, 0] 2) 0 6 [x, y]).2.getLastD [] ∉ ([[2, 0], [5, 3], [8, 1]] : List (List Int)) := by
      have hy : y ∈ ([0, 1, 2, 3] : List Int) := by
        simp only [List.mem_cons, List.not_mem_nil, or_false]
        omega
      have key : ∀ x ∈ ([0, 1, 3, 4, 6, 7] : List Int), ∀ y ∈ ([0, 1, 2, 3] : List Int), ((0 ≤ x ∧ x < 9) ∧ (0 ≤ y ∧ y < 4)) ∧ unsafeB [x, y] (.wit 3 [1, 0] 2) = false ∧ (course [9, 4] [[2, 0], [5, 3], [8, 1]] (.calls [[1, 1]]) (.wit 3 [1, 0] 2) 0 6 [x, y]).2.getLastD [] ∉ ([[2, 0], [5, 3], [8, 1]] : List (List Int)) := by decide +kernel
      obtain ⟨⟨h1, h2⟩, h3, h4⟩ := key x hx y hy
      exact ⟨⟨h1, h2, True.intro⟩, h3, h4⟩
    obtain ⟨skp, uns, last⟩ := sky
    obtain ⟨t0, tr, rfl⟩ : ∃ t0 tr, tz = t0 :: tr := match tz, ptz.length_eq with | t0 :: tr, _ => ⟨t0, tr, rfl⟩
    have ltz := ptz.length_eq
    have skz : ∀ t ∈ t0 :: tr, SeatOk [9, 4] t := fun t ht => sks t (ptz.mem_iff.mp ht)
    have nodz : (t0 :: tr).Nodup := ptz.nodup_iff.mpr nod
    have wok : WitOk [9, 4] 3 [1, 0] 2 := ⟨by decide, by decide, by decide, by decide, by decide, by decide, fun i a b ha hb => by
      match i, ha, hb with
      | 0, ha, hb => simp at ha hb; subst ha hb; decide
      | 1, ha, hb => simp at ha hb; subst ha hb; decide
      | i + 2, ha, hb => simp at ha⟩
    have res : ∀ t ∈ t0 :: tr, wsum [1, 0] t % 3 = 2 := fun t ht => (show ∀ t ∈ ([[2, 0], [5, 3], [8, 1]] : List (List Int)), wsum [1, 0] t % 3 = 2 by decide) t (ptz.mem_iff.mp ht)
    have okC : (CSt.calls [[1, 1]]).Ok [9, 4] (t0 :: tr).reverse := ⟨by simp, by simp, by simp⟩
    have okR : (RS.wit 3 [1, 0] 2).Ok [9, 4] (t0 :: tr) := ⟨wok, by decide, res⟩
    have prv : (t0 :: tr).reverse.Perm [[2, 0], [5, 3], [8, 1]] := (List.reverse_perm _).trans ptz
    dsimp only [gName]
    refine ⟨slen rfl, ?_⟩
    (intro tA ntA; generalize hGtA : upd _ tA _ = Ha; have eHa := exG hGtA ntA; have htA := atG hGtA; clear hGtA)
    refine mk_tab (b := true) (ns := [9, 4]) (show SqH Ha (true, tA) _ from htA) sz fun ba Hb eb nba tabb => ?_
    refine ⟨_, rfl, sh, ys, rfl, SqL.of ((ext eHa eb) _ _ hsh10), ?_⟩
    (intro rv nrv; generalize hGrv : upd _ rv _ = Hc; have eHc := exG hGrv nrv; have hrv := atG hGrv; clear hGrv)
    refine ⟨slen rfl, ?_⟩
    (intro c1 nc1; generalize hGc1 : upd _ c1 _ = Hd; have eHd := exG hGc1 nc1; have hc1 := atG hGc1; clear hGc1)
    refine ⟨slen rfl, ?_⟩
    (intro cc ncc; generalize hGcc : upd _ cc _ = He; have eHe := exG hGcc ncc; have hcc := atG hGcc; clear hGcc)
    have E10e := ext eHa (ext eb (ext eHc (ext eHd eHe)))
    refine mk_caller (bq := false) (cs := .calls [[1, 1]]) (tabb.mono (ext eHc (ext eHd eHe))) sz (RowsQ.mono (ext eHd eHe) (q := (false, rv)) ⟨_, hrv, rows_rev (rtz10.mono (ext eHa (ext eb eHc)))⟩) (by simp) (by rw [List.length_reverse, ltz]; decide) (fun t ht => skz t (List.mem_reverse.mp ht)) ((List.reverse_perm _).nodup_iff.mpr nodz) bn ⟨cc, rfl, ⟨_, hcc, .cons ⟨c1, rfl, eHe _ _ hc1⟩ .nil⟩⟩ okC fun cl Hf ef ncl _ hcl => ?_
    refine ⟨slen rfl, ?_⟩
    (intro tB ntB; generalize hGtB : upd _ tB _ = Hg; have eHg := exG hGtB ntB; have htB := atG hGtB; clear hGtB)
    refine mk_tab (b := true) (ns := [9, 4]) (show SqH Hg (true, tB) _ from htB) sz fun bb Hh eh nbb tabh => ?_
    have E10h := ext E10e (ext ef (ext eHg eh))
    refine ⟨_, rfl, _, rfl, ?_⟩
    refine mk_resp (bq := false) (rs := .wit 3 [1, 0] 2) tabh sz ⟨ys, E10h _ _ hsh10, rtz10.mono E10h⟩ (by simp) (by rw [ltz]; decide) skz nodz bn ⟨wt, rfl, wit10.mono E10h⟩ okR fun rp Hi ei nrp _ hrp => ?_
    refine ⟨_, _, rfl, ?_⟩
    have E10i := ext E10h ei
    have hcli := hcl.mono (ext eHg (ext eh ei))
    dsimp only [gName]
    refine ⟨_, rfl, _, rfl, _, rfl, _, rfl, _, rfl, bd, st, cl, rp, (false, g), 6, [9, 4], [x, y], [[2, 0], [5, 3], [8, 1]], (t0 :: tr).reverse, t0 :: tr, .calls [[1, 1]], .wit 3 [1, 0] 2, rfl, tab10.mono E10i, sz, bn, ⟨gs, E10i _ _ hgs10, rgs10.mono E10i⟩, by simp, by decide, sks, nod, E10i _ _ hst, skp, hcli.at, okC, prv, hrp.at, okR, ptz, by decide, fun _ => uns, fun t f h xs yl Hq eq ht hf hm hh hss nf nh => ?_⟩
    rw [decide_eq_false last] at ht
    refine ⟨t, _, _, _, rfl, rfl, SqT.of ht, rfl, ?_⟩
    refine ⟨.str "open", .str "open", .str _, .str _, (shS35 (n := 60) (by decide +kernel)).ok, (shS35 (n := 60) (by decide +kernel)).ok, _, rfl, itf (by decide +kernel) ?_⟩
    dsimp only [tNext]
    have E10q := ext E10i eq
    unfold tNoPart
    refine ⟨_, rfl, _, rfl, _, rfl, _, rfl, _, rfl, _, rfl, _, rfl, sh, ys, rfl, SqL.of (E10q _ _ hsh10), ?_⟩
    (intro lt nlt; generalize hGlt : upd _ lt _ = Hr; have eHr := exG hGlt nlt; have hlt := atG hGlt; clear hGlt)
    have E10r := ext E10q eHr
    have hlt2 : Hr lt = some (.lst (ys.drop 1)) := by
      refine hlt.trans ?_
      rw [show ((1 : Int)) = ((1 : Nat) : Int) from rfl, cut_from]
    have rlt : RowsR Hr (ys.drop 1) tr := by
      have h := rtz10.mono E10r
      cases h with
      | cons _ t => exact t
    have ltr : tr.length = 2 := by
      have := ltz
      simp only [List.length_cons, List.length_nil] at this
      omega
    have okR2 : (RS.wit 3 [1, 0] 2).Ok [9, 4] tr := ⟨wok, by decide, fun t ht => res t (List.mem_cons_of_mem _ ht)⟩
    refine ⟨_, rfl, ?_⟩
    refine mk_resp (bq := false) (rs := .wit 3 [1, 0] 2) (tab10.mono E10r) sz ⟨_, hlt2, rlt⟩ (fun z => by rw [z] at ltr; cases ltr) (by rw [ltr]; decide) (fun t ht => skz t (List.mem_cons_of_mem _ ht)) (List.nodup_cons.mp nodz).2 bn ⟨wt, rfl, wit10.mono E10r⟩ okR2 fun r2 Hs es nr2 _ hr2 => ?_
    have E10s := ext E10r es
    have hcls := hcli.mono (ext eq (ext eHr es))
    refine ⟨bd, st, cl, r2, (false, g), [9, 4], [x, y], [[2, 0], [5, 3], [8, 1]], (t0 :: tr).reverse, tr, .calls [[1, 1]], .wit 3 [1, 0] 2, rfl, tab10.mono E10s, sz, bn, ⟨gs, E10s _ _ hgs10, rgs10.mono E10s⟩, by simp, by decide, sks, nod, E10s _ _ hst, skp, (fun t ht => skz t (List.mem_reverse.mp ht)), (fun t ht => skz t (List.mem_cons_of_mem _ ht)), hcls.at, okC, hr2.at, okR2, fun _ => uns, (fun n _ _ => absurd prv n), (fun _ _ Ht et => ?_), (fun _ q => absurd q.length_eq (by rw [ltr]; decide))⟩
    refine ⟨.str "responder", .str "responder", .str _, .str _, (shS35 (n := 60) (by decide +kernel)).ok, (shS35 (n := 60) (by decide +kernel)).ok, ?_⟩
    exact k Ht (X10.trans (XB.of (ext E10s et))) (src10.mono (ext E10s et))
end

/-- a cut list of ints is one -/
theorem cut_map (ns : List Int) (lo hi : Option Int) : ∃ ms : List Int, cutV (ns.map V.int) lo hi = ms.map V.int := by
  refine ⟨(ns.drop (HT.sIx (ns.map V.int).length 0 lo)).take (HT.sIx (ns.map V.int).length (ns.map V.int).length hi - HT.sIx (ns.map V.int).length 0 lo), ?_⟩
  unfold cutV
  rw [List.map_take, List.map_drop]
theorem cut_len (xs : List V) (lo hi : Option Int) : (cutV xs lo hi).length ≤ xs.length := by
  unfold cutV
  rw [List.length_take, List.length_drop]
  omega
section
variable {P : Program} {w : World} {K : PySem.W.Frag} {mg : Str → Option Value} {base : Heap}
def sp_law (K : PySem.W.Frag) : Sp := fun vs H Q _ => ∃ (a : Addr) (ns : List Int), vs = [.ref a] ∧ SqL K H a (ns.map V.int) ∧ ns.length ≤ 63 ∧ ∀ H2, Q (.bl true) H2
theorem ok_law (T : TX K mg) : CG.FnOkG P w K mg base 11 T.f_law T.fd_law ["_law_script"] (sp_law K) := by
  refine CG.okG T.F_law sc_law (fun vs H Q E h => ?_) (fun cdv A outer s H vs Q E gd hr h => ?_)
  · obtain ⟨a, ns, rfl, _⟩ := h
    rfl
  · obtain ⟨a, ns, rfl, hS, hlen, k⟩ := h
    refine ⟨_, (pss_cons (ps_for PassesOwn.never rfl (pi_list (pe_op (r := rCatR K) op_catR (pe_lst (pa_cons (pe_call (ok_law_cell_at T) (hr.mono (by decide)) rfl T.m_law_cell_at T.F_law_cell_at.kp T.b_law_cell_at .nil pass0 (pa_cons (pv 0) (pa_cons pe_int pa_nil))) pa_nil)) (pe_slice sl_list (pv 0) (po_some pe_int) (po_some pe_int)))) (pg_name (i := 1) sc_law.nd rfl (Or.inl rfl)) (pss_cons (ps_set (i := 2) sc_law.nd rfl (Or.inl rfl) (pe_call (ok_law_source T) (hr.mono (by decide)) rfl T.m_law_source T.F_law_source.kp T.b_law_source .nil pass0 (pa_cons (pv 1) pa_nil))) (pss_one (ps_if (PW.pt (pw_or (pt_not (pt_val (CG.pe_callG (ok_law_right T) gd (hr.mono (by decide)) rfl T.m_law_right T.F_law_right.kp T.b_law_right .nil pass0 (pa_cons (pv 2) pa_nil)))) (pw_or (pt_not (pt_val (pe_call (ok_law_turned_right T) hr rfl T.m_law_turned_right T.F_law_turned_right.kp T.b_law_turned_right .nil pass0 (pa_cons (pv 2) pa_nil)))) (pw_or1 (pt_not (pt_val (pe_call (ok_law_witness_right T) hr rfl T.m_law_witness_right T.F_law_witness_right.kp T.b_law_witness_right .nil pass0 (pa_cons (pv 2) pa_nil)))))))) (pss_one (ps_ret pe_bl)) pss_nil)))) (pss_one (ps_ret pe_bl))), ?_⟩
    refine ⟨_, rfl, a, ns, 0, rfl, hS, by decide, fun i0 => ⟨by show 1 ≤ sizeLine; decide, fun b hb => ?_⟩⟩
    have e1 := exn (o := .lst [.int i0]) hb
    refine ⟨_, rfl, 1, rfl, 5, rfl, a, _, rfl, Evl.ex_l e1 hS, fun c hc => ?_⟩
    obtain ⟨ms, em⟩ := cut_map ns (some 1) (some 5)
    have ml : (ms.map V.int).length ≤ 63 := by
      rw [← em]
      exact Nat.le_trans (cut_len _ _ _) (by rw [List.length_map]; exact hlen)
    rw [em] at *
    refine ⟨b, c, _, _, rfl, rfl, SqL.of (exn hc _ _ upd_same), SqL.of upd_same, ?_, fun d hd => ?_⟩
    · exact Nat.le_trans (show 1 + _ ≤ 64 by omega) (by decide)
    refine ⟨d, rfl, ⟨_, SqL.of upd_same⟩, ?_⟩
    refine for_it (walk_list (xs := (i0 :: ms).map V.int)) (fun i σ H => (∃ y1 y2, σ = [some (.ref a), y1, y2]) ∧ H d = some (.lst ((i0 :: ms).map V.int))) ⟨⟨_, _, rfl⟩, upd_same⟩ (fun i σ H _ p => SqL.of p.2) ?_ (fun σ H ⟨⟨y1, y2, e⟩, _⟩ => k _)
    rintro i x σ _ H1 hi ⟨⟨y1, y2, rfl⟩, hd1⟩ ⟨rfl, hx⟩
    obtain ⟨n, _, rfl⟩ := map_get hx
    refine ⟨_, rfl, _, rfl, fun H2 s e2 hs src => ?_⟩
    have nd : d ≠ s := ne_of_none hd1 hs
    have hd2 := e2 _ _ hd1
    dsimp only [gName]
    refine ⟨_, rfl, s, rfl, src, fun H3 xb3 src3 => ⟨_, rfl, itf rfl ?_⟩⟩
    refine ⟨_, rfl, s, rfl, src3, fun H4 xb4 src4 => ⟨_, rfl, itf rfl ?_⟩⟩
    refine ⟨_, rfl, s, rfl, src4, fun H5 xb5 src5 => ⟨_, rfl, itf rfl ?_⟩⟩
    exact ⟨⟨_, _, rfl⟩, xb5 _ _ nd (xb4 _ _ nd (xb3 _ _ nd hd2))⟩
end

theorem all_mk {K : PySem.W.Frag} {h : Heap} {mg : Str → Option Value} (X : K.In h) (G : h.Ns mainGlobals mg)
    {f0 f1 f2 f3 f4 f5 f6 f7 f8 f9 f10 f11 f12 f13 f14 f15 f16 f17 f18 f19 f20 f21 f22 f23 f24 f25 f26 f27 f28 f29 f30 f31 f32 f33 f34 f35 f36 f37 f38 f39 f40 f41 f42 f43 f44 f45 f46 f47 f48 f49 f50 f51 f52 f53 f54 f55 f56 f57 f58 f59 f60 f61 f62 f63 f64 f65 C_Mismatch C_Table C_Caller C_Responder : Addr}
    {od0 an0 od1 an1 od2 an2 od3 an3 od4 an4 od5 an5 od6 an6 od7 an7 od8 an8 od9 an9 od10 an10 od11 an11 od12 an12 od13 an13 od14 an14 od15 an15 od16 an16 od17 an17 od18 an18 od19 an19 od20 an20 od21 an21 od22 an22 od23 an23 od24 an24 od25 an25 od26 an26 od27 an27 od28 an28 od29 an29 od30 an30 od31 an31 od32 an32 od33 an33 od34 an34 od35 an35 od36 an36 od37 an37 od38 an38 od39 an39 od40 an40 od41 an41 od42 an42 od43 an43 od44 an44 od45 an45 od46 an46 od47 an47 od48 an48 od49 an49 od50 an50 od51 an51 od52 an52 od53 an53 od54 an54 od55 an55 od56 an56 od57 an57 od58 an58 od59 an59 od60 an60 od61 an61 od62 an62 od63 an63 od64 an64 od65 an65 : Option Addr} {sl0 sl1 sl2 sl3 sl4 sl5 sl6 sl7 sl8 sl9 sl10 sl11 sl12 sl13 sl14 sl15 sl16 sl17 sl18 sl19 sl20 sl21 sl22 sl23 sl24 sl25 sl26 sl27 sl28 sl29 sl30 sl31 sl32 sl33 sl34 sl35 sl36 sl37 sl38 sl39 sl40 sl41 sl42 sl43 sl44 sl45 sl46 sl47 sl48 sl49 sl50 sl51 sl52 sl53 sl54 sl55 sl56 sl57 sl58 sl59 sl60 sl61 sl62 sl63 sl64 sl65 : Array (Option Value)} {oc0 kV0 dc0 pm0 cd0 ct0 oc1 kV1 dc1 pm1 cd1 ct1 oc2 kV2 dc2 pm2 cd2 ct2 oc3 kV3 dc3 pm3 cd3 ct3 oc4 kV4 dc4 pm4 cd4 ct4 oc5 kV5 dc5 pm5 cd5 ct5 oc6 kV6 dc6 pm6 cd6 ct6 oc7 kV7 dc7 pm7 cd7 ct7 oc8 kV8 dc8 pm8 cd8 ct8 oc9 kV9 dc9 pm9 cd9 ct9 oc10 kV10 dc10 pm10 cd10 ct10 oc11 kV11 dc11 pm11 cd11 ct11 oc12 kV12 dc12 pm12 cd12 ct12 oc13 kV13 dc13 pm13 cd13 ct13 oc14 kV14 dc14 pm14 cd14 ct14 oc15 kV15 dc15 pm15 cd15 ct15 oc16 kV16 dc16 pm16 cd16 ct16 oc17 kV17 dc17 pm17 cd17 ct17 oc18 kV18 dc18 pm18 cd18 ct18 oc19 kV19 dc19 pm19 cd19 ct19 oc20 kV20 dc20 pm20 cd20 ct20 oc21 kV21 dc21 pm21 cd21 ct21 oc22 kV22 dc22 pm22 cd22 ct22 oc23 kV23 dc23 pm23 cd23 ct23 oc24 kV24 dc24 pm24 cd24 ct24 oc25 kV25 dc25 pm25 cd25 ct25 oc26 kV26 dc26 pm26 cd26 ct26 oc27 kV27 dc27 pm27 cd27 ct27 oc28 kV28 dc28 pm28 cd28 ct28 oc29 kV29 dc29 pm29 cd29 ct29 oc30 kV30 dc30 pm30 cd30 ct30 oc31 kV31 dc31 pm31 cd31 ct31 oc32 kV32 dc32 pm32 cd32 ct32 oc33 kV33 dc33 pm33 cd33 ct33 oc34 kV34 dc34 pm34 cd34 ct34 oc35 kV35 dc35 pm35 cd35 ct35 oc36 kV36 dc36 pm36 cd36 ct36 oc37 kV37 dc37 pm37 cd37 ct37 oc38 kV38 dc38 pm38 cd38 ct38 oc39 kV39 dc39 pm39 cd39 ct39 oc40 kV40 dc40 pm40 cd40 ct40 oc41 kV41 dc41 pm41 cd41 ct41 oc42 kV42 dc42 pm42 cd42 ct42 oc43 kV43 dc43 pm43 cd43 ct43 oc44 kV44 dc44 pm44 cd44 ct44 oc45 kV45 dc45 pm45 cd45 ct45 oc46 kV46 dc46 pm46 cd46 ct46 oc47 kV47 dc47 pm47 cd47 ct47 oc48 kV48 dc48 pm48 cd48 ct48 oc49 kV49 dc49 pm49 cd49 ct49 oc50 kV50 dc50 pm50 cd50 ct50 oc51 kV51 dc51 pm51 cd51 ct51 oc52 kV52 dc52 pm52 cd52 ct52 oc53 kV53 dc53 pm53 cd53 ct53 oc54 kV54 dc54 pm54 cd54 ct54 oc55 kV55 dc55 pm55 cd55 ct55 oc56 kV56 dc56 pm56 cd56 ct56 oc57 kV57 dc57 pm57 cd57 ct57 oc58 kV58 dc58 pm58 cd58 ct58 oc59 kV59 dc59 pm59 cd59 ct59 oc60 kV60 dc60 pm60 cd60 ct60 oc61 kV61 dc61 pm61 cd61 ct61 oc62 kV62 dc62 pm62 cd62 ct62 oc63 kV63 dc63 pm63 cd63 ct63 oc64 kV64 dc64 pm64 cd64 ct64 oc65 kV65 dc65 pm65 cd65 ct65 : Value}
    {nm_Mismatch q_Mismatch : Str} {N_Mismatch B_Mismatch : Addr} {bs_Mismatch sub_Mismatch : List Value} {sn_Mismatch : List Str} {ab_Mismatch : Bool} {col_Mismatch : Option Bool} {dd_Mismatch : Option Addr} {m0_Mismatch m1_Mismatch m2_Mismatch m3_Mismatch m5_Mismatch : Option Value}
    {t_MAX_RINGS t_SMALL t_LAYERS : Tok}
    (aC_Mismatch : PySem.W.nsIn K mainGlobals "Mismatch" = some (some (.ref C_Mismatch)))
    (aC_Table : PySem.W.nsIn K mainGlobals "Table" = some (some (.ref C_Table)))
    (aC_Caller : PySem.W.nsIn K mainGlobals "Caller" = some (some (.ref C_Caller)))
    (aC_Responder : PySem.W.nsIn K mainGlobals "Responder" = some (some (.ref C_Responder)))
    (a0 : PySem.W.nsIn K mainGlobals "_wall" = some (some (.ref f0)))
    (l0 : K.lookup f0 = some ⟨oc0, od0, .func (PySem.W.fnOf "_wall" "_wall" (defArgs s_wall) (defBody s_wall) (defScope s_wall) .none kV0 dc0 pm0 an0 cd0 ct0), sl0⟩)
    (c0 : PySem.W.codeIn K cd0 "_wall" = true)
    (k0 : PySem.W.keepIn K (.ref f0) = true)
    (a1 : PySem.W.findIn K (.ref C_Mismatch) "__init__" = some (some (.ref f1)))
    (i1 : PySem.W.isFn K (.ref f1) = true)
    (l1 : K.lookup f1 = some ⟨oc1, od1, .func (PySem.W.fnOf "__init__" "Mismatch.__init__" (defArgs s_Mismatch_init) (defBody s_Mismatch_init) (defScope s_Mismatch_init) .none kV1 dc1 pm1 an1 cd1 ct1), sl1⟩)
    (c1 : PySem.W.codeIn K cd1 "Mismatch.__init__" = true)
    (k1 : PySem.W.keepIn K (.ref f1) = true)
    (a2 : PySem.W.nsIn K mainGlobals "is_integer" = some (some (.ref f2)))
    (l2 : K.lookup f2 = some ⟨oc2, od2, .func (PySem.W.fnOf "is_integer" "is_integer" (defArgs s_is_integer) (defBody s_is_integer) (defScope s_is_integer) .none kV2 dc2 pm2 an2 cd2 ct2), sl2⟩)
    (c2 : PySem.W.codeIn K cd2 "is_integer" = true)
    (k2 : PySem.W.keepIn K (.ref f2) = true)
    (a3 : PySem.W.nsIn K mainGlobals "is_at_least" = some (some (.ref f3)))
    (l3 : K.lookup f3 = some ⟨oc3, od3, .func (PySem.W.fnOf "is_at_least" "is_at_least" (defArgs s_is_at_least) (defBody s_is_at_least) (defScope s_is_at_least) .none kV3 dc3 pm3 an3 cd3 ct3), sl3⟩)
    (c3 : PySem.W.codeIn K cd3 "is_at_least" = true)
    (k3 : PySem.W.keepIn K (.ref f3) = true)
    (a4 : PySem.W.nsIn K mainGlobals "is_between" = some (some (.ref f4)))
    (l4 : K.lookup f4 = some ⟨oc4, od4, .func (PySem.W.fnOf "is_between" "is_between" (defArgs s_is_between) (defBody s_is_between) (defScope s_is_between) .none kV4 dc4 pm4 an4 cd4 ct4), sl4⟩)
    (c4 : PySem.W.codeIn K cd4 "is_between" = true)
    (k4 : PySem.W.keepIn K (.ref f4) = true)
    (a5 : PySem.W.nsIn K mainGlobals "greatest_common_divisor" = some (some (.ref f5)))
    (l5 : K.lookup f5 = some ⟨oc5, od5, .func (PySem.W.fnOf "greatest_common_divisor" "greatest_common_divisor" (defArgs s_greatest_common_divisor) (defBody s_greatest_common_divisor) (defScope s_greatest_common_divisor) .none kV5 dc5 pm5 an5 cd5 ct5), sl5⟩)
    (c5 : PySem.W.codeIn K cd5 "greatest_common_divisor" = true)
    (k5 : PySem.W.keepIn K (.ref f5) = true)
    (a6 : PySem.W.findIn K (.ref C_Table) "__init__" = some (some (.ref f6)))
    (i6 : PySem.W.isFn K (.ref f6) = true)
    (l6 : K.lookup f6 = some ⟨oc6, od6, .func (PySem.W.fnOf "__init__" "Table.__init__" (defArgs s_Table_init) (defBody s_Table_init) (defScope s_Table_init) .none kV6 dc6 pm6 an6 cd6 ct6), sl6⟩)
    (c6 : PySem.W.codeIn K cd6 "Table.__init__" = true)
    (k6 : PySem.W.keepIn K (.ref f6) = true)
    (a7 : PySem.W.findIn K (.ref C_Table) "sizes" = some (some (.ref f7)))
    (i7 : PySem.W.isFn K (.ref f7) = true)
    (l7 : K.lookup f7 = some ⟨oc7, od7, .func (PySem.W.fnOf "sizes" "Table.sizes" (defArgs s_Table_sizes) (defBody s_Table_sizes) (defScope s_Table_sizes) .none kV7 dc7 pm7 an7 cd7 ct7), sl7⟩)
    (c7 : PySem.W.codeIn K cd7 "Table.sizes" = true)
    (k7 : PySem.W.keepIn K (.ref f7) = true)
    (a8 : PySem.W.findIn K (.ref C_Table) "count" = some (some (.ref f8)))
    (i8 : PySem.W.isFn K (.ref f8) = true)
    (l8 : K.lookup f8 = some ⟨oc8, od8, .func (PySem.W.fnOf "count" "Table.count" (defArgs s_Table_count) (defBody s_Table_count) (defScope s_Table_count) .none kV8 dc8 pm8 an8 cd8 ct8), sl8⟩)
    (c8 : PySem.W.codeIn K cd8 "Table.count" = true)
    (k8 : PySem.W.keepIn K (.ref f8) = true)
    (a9 : PySem.W.findIn K (.ref C_Table) "is_seat" = some (some (.ref f9)))
    (i9 : PySem.W.isFn K (.ref f9) = true)
    (l9 : K.lookup f9 = some ⟨oc9, od9, .func (PySem.W.fnOf "is_seat" "Table.is_seat" (defArgs s_Table_is_seat) (defBody s_Table_is_seat) (defScope s_Table_is_seat) .none kV9 dc9 pm9 an9 cd9 ct9), sl9⟩)
    (c9 : PySem.W.codeIn K cd9 "Table.is_seat" = true)
    (k9 : PySem.W.keepIn K (.ref f9) = true)
    (a10 : PySem.W.findIn K (.ref C_Table) "is_call" = some (some (.ref f10)))
    (i10 : PySem.W.isFn K (.ref f10) = true)
    (l10 : K.lookup f10 = some ⟨oc10, od10, .func (PySem.W.fnOf "is_call" "Table.is_call" (defArgs s_Table_is_call) (defBody s_Table_is_call) (defScope s_Table_is_call) .none kV10 dc10 pm10 an10 cd10 ct10), sl10⟩)
    (c10 : PySem.W.codeIn K cd10 "Table.is_call" = true)
    (k10 : PySem.W.keepIn K (.ref f10) = true)
    (a11 : PySem.W.findIn K (.ref C_Table) "shifted" = some (some (.ref f11)))
    (i11 : PySem.W.isFn K (.ref f11) = true)
    (l11 : K.lookup f11 = some ⟨oc11, od11, .func (PySem.W.fnOf "shifted" "Table.shifted" (defArgs s_Table_shifted) (defBody s_Table_shifted) (defScope s_Table_shifted) .none kV11 dc11 pm11 an11 cd11 ct11), sl11⟩)
    (c11 : PySem.W.codeIn K cd11 "Table.shifted" = true)
    (k11 : PySem.W.keepIn K (.ref f11) = true)
    (a12 : PySem.W.findIn K (.ref C_Table) "moves" = some (some (.ref f12)))
    (i12 : PySem.W.isFn K (.ref f12) = true)
    (l12 : K.lookup f12 = some ⟨oc12, od12, .func (PySem.W.fnOf "moves" "Table.moves" (defArgs s_Table_moves) (defBody s_Table_moves) (defScope s_Table_moves) .none kV12 dc12 pm12 an12 cd12 ct12), sl12⟩)
    (c12 : PySem.W.codeIn K cd12 "Table.moves" = true)
    (k12 : PySem.W.keepIn K (.ref f12) = true)
    (a13 : PySem.W.findIn K (.ref C_Table) "step" = some (some (.ref f13)))
    (i13 : PySem.W.isFn K (.ref f13) = true)
    (l13 : K.lookup f13 = some ⟨oc13, od13, .func (PySem.W.fnOf "step" "Table.step" (defArgs s_Table_step) (defBody s_Table_step) (defScope s_Table_step) .none kV13 dc13 pm13 an13 cd13 ct13), sl13⟩)
    (c13 : PySem.W.codeIn K cd13 "Table.step" = true)
    (k13 : PySem.W.keepIn K (.ref f13) = true)
    (a14 : PySem.W.findIn K (.ref C_Table) "order" = some (some (.ref f14)))
    (i14 : PySem.W.isFn K (.ref f14) = true)
    (l14 : K.lookup f14 = some ⟨oc14, od14, .func (PySem.W.fnOf "order" "Table.order" (defArgs s_Table_order) (defBody s_Table_order) (defScope s_Table_order) .none kV14 dc14 pm14 an14 cd14 ct14), sl14⟩)
    (c14 : PySem.W.codeIn K cd14 "Table.order" = true)
    (k14 : PySem.W.keepIn K (.ref f14) = true)
    (a15 : PySem.W.findIn K (.ref C_Table) "halves" = some (some (.ref f15)))
    (i15 : PySem.W.isFn K (.ref f15) = true)
    (l15 : K.lookup f15 = some ⟨oc15, od15, .func (PySem.W.fnOf "halves" "Table.halves" (defArgs s_Table_halves) (defBody s_Table_halves) (defScope s_Table_halves) .none kV15 dc15 pm15 an15 cd15 ct15), sl15⟩)
    (c15 : PySem.W.codeIn K cd15 "Table.halves" = true)
    (k15 : PySem.W.keepIn K (.ref f15) = true)
    (a16 : PySem.W.nsIn K mainGlobals "is_direction" = some (some (.ref f16)))
    (l16 : K.lookup f16 = some ⟨oc16, od16, .func (PySem.W.fnOf "is_direction" "is_direction" (defArgs s_is_direction) (defBody s_is_direction) (defScope s_is_direction) .none kV16 dc16 pm16 an16 cd16 ct16), sl16⟩)
    (c16 : PySem.W.codeIn K cd16 "is_direction" = true)
    (k16 : PySem.W.keepIn K (.ref f16) = true)
    (a17 : PySem.W.nsIn K mainGlobals "require_table" = some (some (.ref f17)))
    (l17 : K.lookup f17 = some ⟨oc17, od17, .func (PySem.W.fnOf "require_table" "require_table" (defArgs s_require_table) (defBody s_require_table) (defScope s_require_table) .none kV17 dc17 pm17 an17 cd17 ct17), sl17⟩)
    (c17 : PySem.W.codeIn K cd17 "require_table" = true)
    (k17 : PySem.W.keepIn K (.ref f17) = true)
    (a18 : PySem.W.nsIn K mainGlobals "require_seat" = some (some (.ref f18)))
    (l18 : K.lookup f18 = some ⟨oc18, od18, .func (PySem.W.fnOf "require_seat" "require_seat" (defArgs s_require_seat) (defBody s_require_seat) (defScope s_require_seat) .none kV18 dc18 pm18 an18 cd18 ct18), sl18⟩)
    (c18 : PySem.W.codeIn K cd18 "require_seat" = true)
    (k18 : PySem.W.keepIn K (.ref f18) = true)
    (a19 : PySem.W.nsIn K mainGlobals "require_call" = some (some (.ref f19)))
    (l19 : K.lookup f19 = some ⟨oc19, od19, .func (PySem.W.fnOf "require_call" "require_call" (defArgs s_require_call) (defBody s_require_call) (defScope s_require_call) .none kV19 dc19 pm19 an19 cd19 ct19), sl19⟩)
    (c19 : PySem.W.codeIn K cd19 "require_call" = true)
    (k19 : PySem.W.keepIn K (.ref f19) = true)
    (a20 : PySem.W.nsIn K mainGlobals "require_targets" = some (some (.ref f20)))
    (l20 : K.lookup f20 = some ⟨oc20, od20, .func (PySem.W.fnOf "require_targets" "require_targets" (defArgs s_require_targets) (defBody s_require_targets) (defScope s_require_targets) .none kV20 dc20 pm20 an20 cd20 ct20), sl20⟩)
    (c20 : PySem.W.codeIn K cd20 "require_targets" = true)
    (k20 : PySem.W.keepIn K (.ref f20) = true)
    (a21 : PySem.W.nsIn K mainGlobals "require_small" = some (some (.ref f21)))
    (l21 : K.lookup f21 = some ⟨oc21, od21, .func (PySem.W.fnOf "require_small" "require_small" (defArgs s_require_small) (defBody s_require_small) (defScope s_require_small) .none kV21 dc21 pm21 an21 cd21 ct21), sl21⟩)
    (c21 : PySem.W.codeIn K cd21 "require_small" = true)
    (k21 : PySem.W.keepIn K (.ref f21) = true)
    (a22 : PySem.W.nsIn K mainGlobals "all_seats" = some (some (.ref f22)))
    (l22 : K.lookup f22 = some ⟨oc22, od22, .func (PySem.W.fnOf "all_seats" "all_seats" (defArgs s_all_seats) (defBody s_all_seats) (defScope s_all_seats) .none kV22 dc22 pm22 an22 cd22 ct22), sl22⟩)
    (c22 : PySem.W.codeIn K cd22 "all_seats" = true)
    (k22 : PySem.W.keepIn K (.ref f22) = true)
    (a23 : PySem.W.nsIn K mainGlobals "mirror_seat" = some (some (.ref f23)))
    (l23 : K.lookup f23 = some ⟨oc23, od23, .func (PySem.W.fnOf "mirror_seat" "mirror_seat" (defArgs s_mirror_seat) (defBody s_mirror_seat) (defScope s_mirror_seat) .none kV23 dc23 pm23 an23 cd23 ct23), sl23⟩)
    (c23 : PySem.W.codeIn K cd23 "mirror_seat" = true)
    (k23 : PySem.W.keepIn K (.ref f23) = true)
    (a24 : PySem.W.nsIn K mainGlobals "call_to" = some (some (.ref f24)))
    (l24 : K.lookup f24 = some ⟨oc24, od24, .func (PySem.W.fnOf "call_to" "call_to" (defArgs s_call_to) (defBody s_call_to) (defScope s_call_to) .none kV24 dc24 pm24 an24 cd24 ct24), sl24⟩)
    (c24 : PySem.W.codeIn K cd24 "call_to" = true)
    (k24 : PySem.W.keepIn K (.ref f24) = true)
    (a25 : PySem.W.nsIn K mainGlobals "call_counts" = some (some (.ref f25)))
    (l25 : K.lookup f25 = some ⟨oc25, od25, .func (PySem.W.fnOf "call_counts" "call_counts" (defArgs s_call_counts) (defBody s_call_counts) (defScope s_call_counts) .none kV25 dc25 pm25 an25 cd25 ct25), sl25⟩)
    (c25 : PySem.W.codeIn K cd25 "call_counts" = true)
    (k25 : PySem.W.keepIn K (.ref f25) = true)
    (a26 : PySem.W.nsIn K mainGlobals "call_from" = some (some (.ref f26)))
    (l26 : K.lookup f26 = some ⟨oc26, od26, .func (PySem.W.fnOf "call_from" "call_from" (defArgs s_call_from) (defBody s_call_from) (defScope s_call_from) .none kV26 dc26 pm26 an26 cd26 ct26), sl26⟩)
    (c26 : PySem.W.codeIn K cd26 "call_from" = true)
    (k26 : PySem.W.keepIn K (.ref f26) = true)
    (a27 : PySem.W.nsIn K mainGlobals "weighted" = some (some (.ref f27)))
    (l27 : K.lookup f27 = some ⟨oc27, od27, .func (PySem.W.fnOf "weighted" "weighted" (defArgs s_weighted) (defBody s_weighted) (defScope s_weighted) .none kV27 dc27 pm27 an27 cd27 ct27), sl27⟩)
    (c27 : PySem.W.codeIn K cd27 "weighted" = true)
    (k27 : PySem.W.keepIn K (.ref f27) = true)
    (a28 : PySem.W.nsIn K mainGlobals "is_witness" = some (some (.ref f28)))
    (l28 : K.lookup f28 = some ⟨oc28, od28, .func (PySem.W.fnOf "is_witness" "is_witness" (defArgs s_is_witness) (defBody s_is_witness) (defScope s_is_witness) .none kV28 dc28 pm28 an28 cd28 ct28), sl28⟩)
    (c28 : PySem.W.codeIn K cd28 "is_witness" = true)
    (k28 : PySem.W.keepIn K (.ref f28) = true)
    (a29 : PySem.W.nsIn K mainGlobals "has_residue" = some (some (.ref f29)))
    (l29 : K.lookup f29 = some ⟨oc29, od29, .func (PySem.W.fnOf "has_residue" "has_residue" (defArgs s_has_residue) (defBody s_has_residue) (defScope s_has_residue) .none kV29 dc29 pm29 an29 cd29 ct29), sl29⟩)
    (c29 : PySem.W.codeIn K cd29 "has_residue" = true)
    (k29 : PySem.W.keepIn K (.ref f29) = true)
    (a30 : PySem.W.nsIn K mainGlobals "direction_off" = some (some (.ref f30)))
    (l30 : K.lookup f30 = some ⟨oc30, od30, .func (PySem.W.fnOf "direction_off" "direction_off" (defArgs s_direction_off) (defBody s_direction_off) (defScope s_direction_off) .none kV30 dc30 pm30 an30 cd30 ct30), sl30⟩)
    (c30 : PySem.W.codeIn K cd30 "direction_off" = true)
    (k30 : PySem.W.keepIn K (.ref f30) = true)
    (a31 : PySem.W.nsIn K mainGlobals "is_layers" = some (some (.ref f31)))
    (l31 : K.lookup f31 = some ⟨oc31, od31, .func (PySem.W.fnOf "is_layers" "is_layers" (defArgs s_is_layers) (defBody s_is_layers) (defScope s_is_layers) .none kV31 dc31 pm31 an31 cd31 ct31), sl31⟩)
    (c31 : PySem.W.codeIn K cd31 "is_layers" = true)
    (k31 : PySem.W.keepIn K (.ref f31) = true)
    (a32 : PySem.W.nsIn K mainGlobals "copied" = some (some (.ref f32)))
    (l32 : K.lookup f32 = some ⟨oc32, od32, .func (PySem.W.fnOf "copied" "copied" (defArgs s_copied) (defBody s_copied) (defScope s_copied) .none kV32 dc32 pm32 an32 cd32 ct32), sl32⟩)
    (c32 : PySem.W.codeIn K cd32 "copied" = true)
    (k32 : PySem.W.keepIn K (.ref f32) = true)
    (a33 : PySem.W.nsIn K mainGlobals "depths_for" = some (some (.ref f33)))
    (l33 : K.lookup f33 = some ⟨oc33, od33, .func (PySem.W.fnOf "depths_for" "depths_for" (defArgs s_depths_for) (defBody s_depths_for) (defScope s_depths_for) .none kV33 dc33 pm33 an33 cd33 ct33), sl33⟩)
    (c33 : PySem.W.codeIn K cd33 "depths_for" = true)
    (k33 : PySem.W.keepIn K (.ref f33) = true)
    (a34 : PySem.W.nsIn K mainGlobals "is_made_for" = some (some (.ref f34)))
    (l34 : K.lookup f34 = some ⟨oc34, od34, .func (PySem.W.fnOf "is_made_for" "is_made_for" (defArgs s_is_made_for) (defBody s_is_made_for) (defScope s_is_made_for) .none kV34 dc34 pm34 an34 cd34 ct34), sl34⟩)
    (c34 : PySem.W.codeIn K cd34 "is_made_for" = true)
    (k34 : PySem.W.keepIn K (.ref f34) = true)
    (a35 : PySem.W.nsIn K mainGlobals "is_calls" = some (some (.ref f35)))
    (l35 : K.lookup f35 = some ⟨oc35, od35, .func (PySem.W.fnOf "is_calls" "is_calls" (defArgs s_is_calls) (defBody s_is_calls) (defScope s_is_calls) .none kV35 dc35 pm35 an35 cd35 ct35), sl35⟩)
    (c35 : PySem.W.codeIn K cd35 "is_calls" = true)
    (k35 : PySem.W.keepIn K (.ref f35) = true)
    (a36 : PySem.W.nsIn K mainGlobals "is_directions" = some (some (.ref f36)))
    (l36 : K.lookup f36 = some ⟨oc36, od36, .func (PySem.W.fnOf "is_directions" "is_directions" (defArgs s_is_directions) (defBody s_is_directions) (defScope s_is_directions) .none kV36 dc36 pm36 an36 cd36 ct36), sl36⟩)
    (c36 : PySem.W.codeIn K cd36 "is_directions" = true)
    (k36 : PySem.W.keepIn K (.ref f36) = true)
    (a37 : PySem.W.nsIn K mainGlobals "is_shared_witness" = some (some (.ref f37)))
    (l37 : K.lookup f37 = some ⟨oc37, od37, .func (PySem.W.fnOf "is_shared_witness" "is_shared_witness" (defArgs s_is_shared_witness) (defBody s_is_shared_witness) (defScope s_is_shared_witness) .none kV37 dc37 pm37 an37 cd37 ct37), sl37⟩)
    (c37 : PySem.W.codeIn K cd37 "is_shared_witness" = true)
    (k37 : PySem.W.keepIn K (.ref f37) = true)
    (a38 : PySem.W.findIn K (.ref C_Caller) "__init__" = some (some (.ref f38)))
    (i38 : PySem.W.isFn K (.ref f38) = true)
    (l38 : K.lookup f38 = some ⟨oc38, od38, .func (PySem.W.fnOf "__init__" "Caller.__init__" (defArgs s_Caller_init) (defBody s_Caller_init) (defScope s_Caller_init) .none kV38 dc38 pm38 an38 cd38 ct38), sl38⟩)
    (c38 : PySem.W.codeIn K cd38 "Caller.__init__" = true)
    (k38 : PySem.W.keepIn K (.ref f38) = true)
    (a39 : PySem.W.findIn K (.ref C_Caller) "call_at" = some (some (.ref f39)))
    (i39 : PySem.W.isFn K (.ref f39) = true)
    (l39 : K.lookup f39 = some ⟨oc39, od39, .func (PySem.W.fnOf "call_at" "Caller.call_at" (defArgs s_Caller_call_at) (defBody s_Caller_call_at) (defScope s_Caller_call_at) .none kV39 dc39 pm39 an39 cd39 ct39), sl39⟩)
    (c39 : PySem.W.codeIn K cd39 "Caller.call_at" = true)
    (k39 : PySem.W.keepIn K (.ref f39) = true)
    (a40 : PySem.W.findIn K (.ref C_Caller) "next_call" = some (some (.ref f40)))
    (i40 : PySem.W.isFn K (.ref f40) = true)
    (l40 : K.lookup f40 = some ⟨oc40, od40, .func (PySem.W.fnOf "next_call" "Caller.next_call" (defArgs s_Caller_next_call) (defBody s_Caller_next_call) (defScope s_Caller_next_call) .none kV40 dc40 pm40 an40 cd40 ct40), sl40⟩)
    (c40 : PySem.W.codeIn K cd40 "Caller.next_call" = true)
    (k40 : PySem.W.keepIn K (.ref f40) = true)
    (a41 : PySem.W.findIn K (.ref C_Responder) "__init__" = some (some (.ref f41)))
    (i41 : PySem.W.isFn K (.ref f41) = true)
    (l41 : K.lookup f41 = some ⟨oc41, od41, .func (PySem.W.fnOf "__init__" "Responder.__init__" (defArgs s_Responder_init) (defBody s_Responder_init) (defScope s_Responder_init) .none kV41 dc41 pm41 an41 cd41 ct41), sl41⟩)
    (c41 : PySem.W.codeIn K cd41 "Responder.__init__" = true)
    (k41 : PySem.W.keepIn K (.ref f41) = true)
    (a42 : PySem.W.findIn K (.ref C_Responder) "is_unsafe" = some (some (.ref f42)))
    (i42 : PySem.W.isFn K (.ref f42) = true)
    (l42 : K.lookup f42 = some ⟨oc42, od42, .func (PySem.W.fnOf "is_unsafe" "Responder.is_unsafe" (defArgs s_Responder_is_unsafe) (defBody s_Responder_is_unsafe) (defScope s_Responder_is_unsafe) .none kV42 dc42 pm42 an42 cd42 ct42), sl42⟩)
    (c42 : PySem.W.codeIn K cd42 "Responder.is_unsafe" = true)
    (k42 : PySem.W.keepIn K (.ref f42) = true)
    (a43 : PySem.W.findIn K (.ref C_Responder) "direction_at" = some (some (.ref f43)))
    (i43 : PySem.W.isFn K (.ref f43) = true)
    (l43 : K.lookup f43 = some ⟨oc43, od43, .func (PySem.W.fnOf "direction_at" "Responder.direction_at" (defArgs s_Responder_direction_at) (defBody s_Responder_direction_at) (defScope s_Responder_direction_at) .none kV43 dc43 pm43 an43 cd43 ct43), sl43⟩)
    (c43 : PySem.W.codeIn K cd43 "Responder.direction_at" = true)
    (k43 : PySem.W.keepIn K (.ref f43) = true)
    (a44 : PySem.W.findIn K (.ref C_Responder) "answer" = some (some (.ref f44)))
    (i44 : PySem.W.isFn K (.ref f44) = true)
    (l44 : K.lookup f44 = some ⟨oc44, od44, .func (PySem.W.fnOf "answer" "Responder.answer" (defArgs s_Responder_answer) (defBody s_Responder_answer) (defScope s_Responder_answer) .none kV44 dc44 pm44 an44 cd44 ct44), sl44⟩)
    (c44 : PySem.W.codeIn K cd44 "Responder.answer" = true)
    (k44 : PySem.W.keepIn K (.ref f44) = true)
    (a45 : PySem.W.nsIn K mainGlobals "play" = some (some (.ref f45)))
    (l45 : K.lookup f45 = some ⟨oc45, od45, .func (PySem.W.fnOf "play" "play" (defArgs s_play) (defBody s_play) (defScope s_play) .none kV45 dc45 pm45 an45 cd45 ct45), sl45⟩)
    (c45 : PySem.W.codeIn K cd45 "play" = true)
    (k45 : PySem.W.keepIn K (.ref f45) = true)
    (a46 : PySem.W.nsIn K mainGlobals "_law_cell_at" = some (some (.ref f46)))
    (l46 : K.lookup f46 = some ⟨oc46, od46, .func (PySem.W.fnOf "_law_cell_at" "_law_cell_at" (defArgs s_law_cell_at) (defBody s_law_cell_at) (defScope s_law_cell_at) .none kV46 dc46 pm46 an46 cd46 ct46), sl46⟩)
    (c46 : PySem.W.codeIn K cd46 "_law_cell_at" = true)
    (k46 : PySem.W.keepIn K (.ref f46) = true)
    (a47 : PySem.W.nsIn K mainGlobals "_law_source" = some (some (.ref f47)))
    (l47 : K.lookup f47 = some ⟨oc47, od47, .func (PySem.W.fnOf "_law_source" "_law_source" (defArgs s_law_source) (defBody s_law_source) (defScope s_law_source) .none kV47 dc47 pm47 an47 cd47 ct47), sl47⟩)
    (c47 : PySem.W.codeIn K cd47 "_law_source" = true)
    (k47 : PySem.W.keepIn K (.ref f47) = true)
    (a48 : PySem.W.nsIn K mainGlobals "_law_take" = some (some (.ref f48)))
    (l48 : K.lookup f48 = some ⟨oc48, od48, .func (PySem.W.fnOf "_law_take" "_law_take" (defArgs s_law_take) (defBody s_law_take) (defScope s_law_take) .none kV48 dc48 pm48 an48 cd48 ct48), sl48⟩)
    (c48 : PySem.W.codeIn K cd48 "_law_take" = true)
    (k48 : PySem.W.keepIn K (.ref f48) = true)
    (a49 : PySem.W.nsIn K mainGlobals "_law_pick" = some (some (.ref f49)))
    (l49 : K.lookup f49 = some ⟨oc49, od49, .func (PySem.W.fnOf "_law_pick" "_law_pick" (defArgs s_law_pick) (defBody s_law_pick) (defScope s_law_pick) .none kV49 dc49 pm49 an49 cd49 ct49), sl49⟩)
    (c49 : PySem.W.codeIn K cd49 "_law_pick" = true)
    (k49 : PySem.W.keepIn K (.ref f49) = true)
    (a50 : PySem.W.nsIn K mainGlobals "_law_shuffled" = some (some (.ref f50)))
    (l50 : K.lookup f50 = some ⟨oc50, od50, .func (PySem.W.fnOf "_law_shuffled" "_law_shuffled" (defArgs s_law_shuffled) (defBody s_law_shuffled) (defScope s_law_shuffled) .none kV50 dc50 pm50 an50 cd50 ct50), sl50⟩)
    (c50 : PySem.W.codeIn K cd50 "_law_shuffled" = true)
    (k50 : PySem.W.keepIn K (.ref f50) = true)
    (a51 : PySem.W.nsIn K mainGlobals "_law_drawn_seat" = some (some (.ref f51)))
    (l51 : K.lookup f51 = some ⟨oc51, od51, .func (PySem.W.fnOf "_law_drawn_seat" "_law_drawn_seat" (defArgs s_law_drawn_seat) (defBody s_law_drawn_seat) (defScope s_law_drawn_seat) .none kV51 dc51 pm51 an51 cd51 ct51), sl51⟩)
    (c51 : PySem.W.codeIn K cd51 "_law_drawn_seat" = true)
    (k51 : PySem.W.keepIn K (.ref f51) = true)
    (a52 : PySem.W.nsIn K mainGlobals "_law_moved" = some (some (.ref f52)))
    (l52 : K.lookup f52 = some ⟨oc52, od52, .func (PySem.W.fnOf "_law_moved" "_law_moved" (defArgs s_law_moved) (defBody s_law_moved) (defScope s_law_moved) .none kV52 dc52 pm52 an52 cd52 ct52), sl52⟩)
    (c52 : PySem.W.codeIn K cd52 "_law_moved" = true)
    (k52 : PySem.W.keepIn K (.ref f52) = true)
    (a53 : PySem.W.nsIn K mainGlobals "_law_drawn_call" = some (some (.ref f53)))
    (l53 : K.lookup f53 = some ⟨oc53, od53, .func (PySem.W.fnOf "_law_drawn_call" "_law_drawn_call" (defArgs s_law_drawn_call) (defBody s_law_drawn_call) (defScope s_law_drawn_call) .none kV53 dc53 pm53 an53 cd53 ct53), sl53⟩)
    (c53 : PySem.W.codeIn K cd53 "_law_drawn_call" = true)
    (k53 : PySem.W.keepIn K (.ref f53) = true)
    (a54 : PySem.W.nsIn K mainGlobals "_law_goals" = some (some (.ref f54)))
    (l54 : K.lookup f54 = some ⟨oc54, od54, .func (PySem.W.fnOf "_law_goals" "_law_goals" (defArgs s_law_goals) (defBody s_law_goals) (defScope s_law_goals) .none kV54 dc54 pm54 an54 cd54 ct54), sl54⟩)
    (c54 : PySem.W.codeIn K cd54 "_law_goals" = true)
    (k54 : PySem.W.keepIn K (.ref f54) = true)
    (a55 : PySem.W.nsIn K mainGlobals "_law_list_calls" = some (some (.ref f55)))
    (l55 : K.lookup f55 = some ⟨oc55, od55, .func (PySem.W.fnOf "_law_list_calls" "_law_list_calls" (defArgs s_law_list_calls) (defBody s_law_list_calls) (defScope s_law_list_calls) .none kV55 dc55 pm55 an55 cd55 ct55), sl55⟩)
    (c55 : PySem.W.codeIn K cd55 "_law_list_calls" = true)
    (k55 : PySem.W.keepIn K (.ref f55) = true)
    (a56 : PySem.W.nsIn K mainGlobals "_law_list_words" = some (some (.ref f56)))
    (l56 : K.lookup f56 = some ⟨oc56, od56, .func (PySem.W.fnOf "_law_list_words" "_law_list_words" (defArgs s_law_list_words) (defBody s_law_list_words) (defScope s_law_list_words) .none kV56 dc56 pm56 an56 cd56 ct56), sl56⟩)
    (c56 : PySem.W.codeIn K cd56 "_law_list_words" = true)
    (k56 : PySem.W.keepIn K (.ref f56) = true)
    (a57 : PySem.W.nsIn K mainGlobals "_law_sign" = some (some (.ref f57)))
    (l57 : K.lookup f57 = some ⟨oc57, od57, .func (PySem.W.fnOf "_law_sign" "_law_sign" (defArgs s_law_sign) (defBody s_law_sign) (defScope s_law_sign) .none kV57 dc57 pm57 an57 cd57 ct57), sl57⟩)
    (c57 : PySem.W.codeIn K cd57 "_law_sign" = true)
    (k57 : PySem.W.keepIn K (.ref f57) = true)
    (a58 : PySem.W.nsIn K mainGlobals "_law_rings_any" = some (some (.ref f58)))
    (l58 : K.lookup f58 = some ⟨oc58, od58, .func (PySem.W.fnOf "_law_rings_any" "_law_rings_any" (defArgs s_law_rings_any) (defBody s_law_rings_any) (defScope s_law_rings_any) .none kV58 dc58 pm58 an58 cd58 ct58), sl58⟩)
    (c58 : PySem.W.codeIn K cd58 "_law_rings_any" = true)
    (k58 : PySem.W.keepIn K (.ref f58) = true)
    (a59 : PySem.W.nsIn K mainGlobals "_law_game" = some (some (.ref f59)))
    (l59 : K.lookup f59 = some ⟨oc59, od59, .func (PySem.W.fnOf "_law_game" "_law_game" (defArgs s_law_game) (defBody s_law_game) (defScope s_law_game) .none kV59 dc59 pm59 an59 cd59 ct59), sl59⟩)
    (c59 : PySem.W.codeIn K cd59 "_law_game" = true)
    (k59 : PySem.W.keepIn K (.ref f59) = true)
    (a60 : PySem.W.nsIn K mainGlobals "_law_start" = some (some (.ref f60)))
    (l60 : K.lookup f60 = some ⟨oc60, od60, .func (PySem.W.fnOf "_law_start" "_law_start" (defArgs s_law_start) (defBody s_law_start) (defScope s_law_start) .none kV60 dc60 pm60 an60 cd60 ct60), sl60⟩)
    (c60 : PySem.W.codeIn K cd60 "_law_start" = true)
    (k60 : PySem.W.keepIn K (.ref f60) = true)
    (a61 : PySem.W.nsIn K mainGlobals "_law_right" = some (some (.ref f61)))
    (l61 : K.lookup f61 = some ⟨oc61, od61, .func (PySem.W.fnOf "_law_right" "_law_right" (defArgs s_law_right) (defBody s_law_right) (defScope s_law_right) .none kV61 dc61 pm61 an61 cd61 ct61), sl61⟩)
    (c61 : PySem.W.codeIn K cd61 "_law_right" = true)
    (k61 : PySem.W.keepIn K (.ref f61) = true)
    (a62 : PySem.W.nsIn K mainGlobals "_law_refused" = some (some (.ref f62)))
    (l62 : K.lookup f62 = some ⟨oc62, od62, .func (PySem.W.fnOf "_law_refused" "_law_refused" (defArgs s_law_refused) (defBody s_law_refused) (defScope s_law_refused) .none kV62 dc62 pm62 an62 cd62 ct62), sl62⟩)
    (c62 : PySem.W.codeIn K cd62 "_law_refused" = true)
    (k62 : PySem.W.keepIn K (.ref f62) = true)
    (a63 : PySem.W.nsIn K mainGlobals "_law_turned_right" = some (some (.ref f63)))
    (l63 : K.lookup f63 = some ⟨oc63, od63, .func (PySem.W.fnOf "_law_turned_right" "_law_turned_right" (defArgs s_law_turned_right) (defBody s_law_turned_right) (defScope s_law_turned_right) .none kV63 dc63 pm63 an63 cd63 ct63), sl63⟩)
    (c63 : PySem.W.codeIn K cd63 "_law_turned_right" = true)
    (k63 : PySem.W.keepIn K (.ref f63) = true)
    (a64 : PySem.W.nsIn K mainGlobals "_law_witness_right" = some (some (.ref f64)))
    (l64 : K.lookup f64 = some ⟨oc64, od64, .func (PySem.W.fnOf "_law_witness_right" "_law_witness_right" (defArgs s_law_witness_right) (defBody s_law_witness_right) (defScope s_law_witness_right) .none kV64 dc64 pm64 an64 cd64 ct64), sl64⟩)
    (c64 : PySem.W.codeIn K cd64 "_law_witness_right" = true)
    (k64 : PySem.W.keepIn K (.ref f64) = true)
    (a65 : PySem.W.nsIn K mainGlobals "law" = some (some (.ref f65)))
    (l65 : K.lookup f65 = some ⟨oc65, od65, .func (PySem.W.fnOf "law" "law" (defArgs s_law) (defBody s_law) (defScope s_law) .none kV65 dc65 pm65 an65 cd65 ct65), sl65⟩)
    (c65 : PySem.W.codeIn K cd65 "law" = true)
    (k65 : PySem.W.keepIn K (.ref f65) = true)
    (xl_Mismatch : K.lookup C_Mismatch = some (excClassObj nm_Mismatch q_Mismatch C_Mismatch N_Mismatch bs_Mismatch [.ref B_Mismatch, .type "ValueError", .type "Exception", .type "BaseException", .type "object"] true sn_Mismatch sub_Mismatch ab_Mismatch col_Mismatch dd_Mismatch m0_Mismatch m1_Mismatch m2_Mismatch m3_Mismatch m5_Mismatch "ValueError.__new__"))
    (sa_Mismatch : PySem.W.findIn K (.ref C_Mismatch) "__setattr__" = some (some (.builtin "object.__setattr__")))
    (ga_Mismatch : PySem.W.findIn K (.ref C_Mismatch) "__getattribute__" = some (some (.builtin "BaseException.__getattribute__")))
    (gg_Mismatch : PySem.W.findIn K (.ref C_Mismatch) "__getattr__" = some none)
    (ti_Mismatch : PySem.W.typeIn K (.ref f1) = some (.type "function"))
    (kc_Mismatch : PySem.W.keepIn K (.ref C_Mismatch) = true)
    (ex_Mismatch : PySem.W.subIn K (.ref C_Mismatch) (.type "BaseException") = some true)
    (ty_Mismatch : PySem.W.typeIn K (.ref C_Mismatch) = some (.type "type"))
    (hd_Mismatch : PySem.W.hasDictIn K C_Mismatch = true)
    (il_Mismatch : PySem.W.isClsIn K C_Mismatch = true)
    (ss_Mismatch : PySem.W.subIn K (.ref C_Mismatch) (.ref C_Mismatch) = some true)
    (n_Mismatch_name : PySem.W.findIn K (.ref C_Mismatch) "name" = some none)
    (pg_Table : PySem.W.plainGet K C_Table Str.empty = true)
    (hd_Table : PySem.W.hasDictIn K C_Table = true)
    (po_Table : PySem.W.plainOver K C_Table = true)
    (sa_Table : PySem.W.findIn K (.ref C_Table) "__setattr__" = some (some (.builtin "object.__setattr__")))
    (mk_Table : PySem.W.makesIn K C_Table = true)
    (kc_Table : PySem.W.keepIn K (.ref C_Table) = true)
    (n_Table_rings : PySem.W.findIn K (.ref C_Table) "rings" = some none)
    (ic_Table : PySem.W.findIn K (.ref C_Table) "__class__" = some (some (.builtin "object.__class__")))
    (im_Table : PySem.W.mroIn K C_Table (.type "object") = some true)
    (pg_Caller : PySem.W.plainGet K C_Caller Str.empty = true)
    (hd_Caller : PySem.W.hasDictIn K C_Caller = true)
    (po_Caller : PySem.W.plainOver K C_Caller = true)
    (sa_Caller : PySem.W.findIn K (.ref C_Caller) "__setattr__" = some (some (.builtin "object.__setattr__")))
    (mk_Caller : PySem.W.makesIn K C_Caller = true)
    (kc_Caller : PySem.W.keepIn K (.ref C_Caller) = true)
    (n_Caller_depths : PySem.W.findIn K (.ref C_Caller) "depths" = some none)
    (n_Caller_table : PySem.W.findIn K (.ref C_Caller) "table" = some none)
    (n_Caller_goals : PySem.W.findIn K (.ref C_Caller) "goals" = some none)
    (n_Caller_strategy : PySem.W.findIn K (.ref C_Caller) "strategy" = some none)
    (n_Caller_used : PySem.W.findIn K (.ref C_Caller) "used" = some none)
    (ic_Caller : PySem.W.findIn K (.ref C_Caller) "__class__" = some (some (.builtin "object.__class__")))
    (im_Caller : PySem.W.mroIn K C_Caller (.type "object") = some true)
    (pg_Responder : PySem.W.plainGet K C_Responder Str.empty = true)
    (hd_Responder : PySem.W.hasDictIn K C_Responder = true)
    (po_Responder : PySem.W.plainOver K C_Responder = true)
    (sa_Responder : PySem.W.findIn K (.ref C_Responder) "__setattr__" = some (some (.builtin "object.__setattr__")))
    (mk_Responder : PySem.W.makesIn K C_Responder = true)
    (kc_Responder : PySem.W.keepIn K (.ref C_Responder) = true)
    (n_Responder_depths : PySem.W.findIn K (.ref C_Responder) "depths" = some none)
    (n_Responder_table : PySem.W.findIn K (.ref C_Responder) "table" = some none)
    (n_Responder_goals : PySem.W.findIn K (.ref C_Responder) "goals" = some none)
    (n_Responder_strategy : PySem.W.findIn K (.ref C_Responder) "strategy" = some none)
    (n_Responder_used : PySem.W.findIn K (.ref C_Responder) "used" = some none)
    (ic_Responder : PySem.W.findIn K (.ref C_Responder) "__class__" = some (some (.builtin "object.__class__")))
    (im_Responder : PySem.W.mroIn K C_Responder (.type "object") = some true)
    (ig_ : PySem.W.specialIn K (.builtin "object.__class__") "__get__" = some (some (.builtin "getset_descriptor.__get__")))
    (it_ : PySem.W.takesIn K (.builtin "object.__class__") = some true)
    (v_MAX_RINGS : PySem.W.nsIn K mainGlobals "MAX_RINGS" = some (some (.int 4 t_MAX_RINGS)))
    (v_SMALL : PySem.W.nsIn K mainGlobals "SMALL" = some (some (.int 300 t_SMALL)))
    (v_LAYERS : PySem.W.nsIn K mainGlobals "LAYERS" = some (some (.str "layers" t_LAYERS)))
    (z_abs : PySem.W.nsIn K mainGlobals "abs" = some none)
    (z_all : PySem.W.nsIn K mainGlobals "all" = some none)
    (z_any : PySem.W.nsIn K mainGlobals "any" = some none)
    (z_bool : PySem.W.nsIn K mainGlobals "bool" = some none)
    (z_enumerate : PySem.W.nsIn K mainGlobals "enumerate" = some none)
    (z_int : PySem.W.nsIn K mainGlobals "int" = some none)
    (z_isinstance : PySem.W.nsIn K mainGlobals "isinstance" = some none)
    (z_len : PySem.W.nsIn K mainGlobals "len" = some none)
    (z_list : PySem.W.nsIn K mainGlobals "list" = some none)
    (z_max : PySem.W.nsIn K mainGlobals "max" = some none)
    (z_range : PySem.W.nsIn K mainGlobals "range" = some none)
    (z_repr : PySem.W.nsIn K mainGlobals "repr" = some none)
    (z_sorted : PySem.W.nsIn K mainGlobals "sorted" = some none)
    (z_str : PySem.W.nsIn K mainGlobals "str" = some none)
    (z_sum : PySem.W.nsIn K mainGlobals "sum" = some none)
    (z_tuple : PySem.W.nsIn K mainGlobals "tuple" = some none)
    (z_zip : PySem.W.nsIn K mainGlobals "zip" = some none)
    : ∃ T : TX K mg, T.f_law = f65 ∧ T.fd_law = PySem.W.fnOf "law" "law" (defArgs s_law) (defBody s_law) (defScope s_law) .none kV65 dc65 pm65 an65 cd65 ct65 := by
  have F0 := fun_mk (st := s_wall) l0 c0 k0
  have b0 := F0.binds (ps := ["k"]) fun _ _ _ _ _ _ us hl => match us, hl with | [_], _ => rfl
  have F1 := fun_mk (st := s_Mismatch_init) l1 c1 k1
  have b1 := F1.binds (ps := ["self", "name"]) fun _ _ _ _ _ _ us hl => match us, hl with | [_, _], _ => rfl
  have F2 := fun_mk (st := s_is_integer) l2 c2 k2
  have b2 := F2.binds (ps := ["value"]) fun _ _ _ _ _ _ us hl => match us, hl with | [_], _ => rfl
  have F3 := fun_mk (st := s_is_at_least) l3 c3 k3
  have b3 := F3.binds (ps := ["value", "low"]) fun _ _ _ _ _ _ us hl => match us, hl with | [_, _], _ => rfl
  have F4 := fun_mk (st := s_is_between) l4 c4 k4
  have b4 := F4.binds (ps := ["value", "low", "high"]) fun _ _ _ _ _ _ us hl => match us, hl with | [_, _, _], _ => rfl
  have F5 := fun_mk (st := s_greatest_common_divisor) l5 c5 k5
  have b5 := F5.binds (ps := ["first", "second"]) fun _ _ _ _ _ _ us hl => match us, hl with | [_, _], _ => rfl
  have F6 := fun_mk (st := s_Table_init) l6 c6 k6
  have b6 := F6.binds (ps := ["self", "rings"]) fun _ _ _ _ _ _ us hl => match us, hl with | [_, _], _ => rfl
  have F7 := fun_mk (st := s_Table_sizes) l7 c7 k7
  have b7 := F7.binds (ps := ["self"]) fun _ _ _ _ _ _ us hl => match us, hl with | [_], _ => rfl
  have F8 := fun_mk (st := s_Table_count) l8 c8 k8
  have b8 := F8.binds (ps := ["self"]) fun _ _ _ _ _ _ us hl => match us, hl with | [_], _ => rfl
  have F9 := fun_mk (st := s_Table_is_seat) l9 c9 k9
  have b9 := F9.binds (ps := ["self", "value"]) fun _ _ _ _ _ _ us hl => match us, hl with | [_, _], _ => rfl
  have F10 := fun_mk (st := s_Table_is_call) l10 c10 k10
  have b10 := F10.binds (ps := ["self", "value"]) fun _ _ _ _ _ _ us hl => match us, hl with | [_, _], _ => rfl
  have F11 := fun_mk (st := s_Table_shifted) l11 c11 k11
  have b11 := F11.binds (ps := ["self", "seat", "call", "factor"]) fun _ _ _ _ _ _ us hl => match us, hl with | [_, _, _, _], _ => rfl
  have F12 := fun_mk (st := s_Table_moves) l12 c12 k12
  have b12 := F12.binds (ps := ["self", "seat", "call"]) fun _ _ _ _ _ _ us hl => match us, hl with | [_, _, _], _ => rfl
  have F13 := fun_mk (st := s_Table_step) l13 c13 k13
  have b13 := F13.binds (ps := ["self", "seat", "call", "direction"]) fun _ _ _ _ _ _ us hl => match us, hl with | [_, _, _, _], _ => rfl
  have F14 := fun_mk (st := s_Table_order) l14 c14 k14
  have b14 := F14.binds (ps := ["self", "seat"]) fun _ _ _ _ _ _ us hl => match us, hl with | [_, _], _ => rfl
  have F15 := fun_mk (st := s_Table_halves) l15 c15 k15
  have b15 := F15.binds (ps := ["self", "seat"]) fun _ _ _ _ _ _ us hl => match us, hl with | [_, _], _ => rfl
  have F16 := fun_mk (st := s_is_direction) l16 c16 k16
  have b16 := F16.binds (ps := ["value"]) fun _ _ _ _ _ _ us hl => match us, hl with | [_], _ => rfl
  have F17 := fun_mk (st := s_require_table) l17 c17 k17
  have b17 := F17.binds (ps := ["table"]) fun _ _ _ _ _ _ us hl => match us, hl with | [_], _ => rfl
  have F18 := fun_mk (st := s_require_seat) l18 c18 k18
  have b18 := F18.binds (ps := ["table", "seat"]) fun _ _ _ _ _ _ us hl => match us, hl with | [_, _], _ => rfl
  have F19 := fun_mk (st := s_require_call) l19 c19 k19
  have b19 := F19.binds (ps := ["table", "call"]) fun _ _ _ _ _ _ us hl => match us, hl with | [_, _], _ => rfl
  have F20 := fun_mk (st := s_require_targets) l20 c20 k20
  have b20 := F20.binds (ps := ["table", "targets"]) fun _ _ _ _ _ _ us hl => match us, hl with | [_, _], _ => rfl
  have F21 := fun_mk (st := s_require_small) l21 c21 k21
  have b21 := F21.binds (ps := ["table"]) fun _ _ _ _ _ _ us hl => match us, hl with | [_], _ => rfl
  have F22 := fun_mk (st := s_all_seats) l22 c22 k22
  have b22 := F22.binds (ps := ["table"]) fun _ _ _ _ _ _ us hl => match us, hl with | [_], _ => rfl
  have F23 := fun_mk (st := s_mirror_seat) l23 c23 k23
  have b23 := F23.binds (ps := ["table", "seat", "other"]) fun _ _ _ _ _ _ us hl => match us, hl with | [_, _, _], _ => rfl
  have F24 := fun_mk (st := s_call_to) l24 c24 k24
  have b24 := F24.binds (ps := ["table", "seat", "other"]) fun _ _ _ _ _ _ us hl => match us, hl with | [_, _, _], _ => rfl
  have F25 := fun_mk (st := s_call_counts) l25 c25 k25
  have b25 := F25.binds (ps := ["table", "targets"]) fun _ _ _ _ _ _ us hl => match us, hl with | [_, _], _ => rfl
  have F26 := fun_mk (st := s_call_from) l26 c26 k26
  have b26 := F26.binds (ps := ["table", "counts", "seat"]) fun _ _ _ _ _ _ us hl => match us, hl with | [_, _, _], _ => rfl
  have F27 := fun_mk (st := s_weighted) l27 c27 k27
  have b27 := F27.binds (ps := ["modulus", "weights", "seat"]) fun _ _ _ _ _ _ us hl => match us, hl with | [_, _, _], _ => rfl
  have F28 := fun_mk (st := s_is_witness) l28 c28 k28
  have b28 := F28.binds (ps := ["table", "witness"]) fun _ _ _ _ _ _ us hl => match us, hl with | [_, _], _ => rfl
  have F29 := fun_mk (st := s_has_residue) l29 c29 k29
  have b29 := F29.binds (ps := ["witness", "seat"]) fun _ _ _ _ _ _ us hl => match us, hl with | [_, _], _ => rfl
  have F30 := fun_mk (st := s_direction_off) l30 c30 k30
  have b30 := F30.binds (ps := ["table", "witness", "seat", "call"]) fun _ _ _ _ _ _ us hl => match us, hl with | [_, _, _, _], _ => rfl
  have F31 := fun_mk (st := s_is_layers) l31 c31 k31
  have b31 := F31.binds (ps := ["strategy"]) fun _ _ _ _ _ _ us hl => match us, hl with | [_], _ => rfl
  have F32 := fun_mk (st := s_copied) l32 c32 k32
  have b32 := F32.binds (ps := ["strategy"]) fun _ _ _ _ _ _ us hl => match us, hl with | [_], _ => rfl
  have F33 := fun_mk (st := s_depths_for) l33 c33 k33
  have b33 := F33.binds (ps := ["table", "targets", "strategy"]) fun _ _ _ _ _ _ us hl => match us, hl with | [_, _, _], _ => rfl
  have F34 := fun_mk (st := s_is_made_for) l34 c34 k34
  have b34 := F34.binds (ps := ["player", "table", "targets"]) fun _ _ _ _ _ _ us hl => match us, hl with | [_, _, _], _ => rfl
  have F35 := fun_mk (st := s_is_calls) l35 c35 k35
  have b35 := F35.binds (ps := ["table", "strategy"]) fun _ _ _ _ _ _ us hl => match us, hl with | [_, _], _ => rfl
  have F36 := fun_mk (st := s_is_directions) l36 c36 k36
  have b36 := F36.binds (ps := ["strategy"]) fun _ _ _ _ _ _ us hl => match us, hl with | [_], _ => rfl
  have F37 := fun_mk (st := s_is_shared_witness) l37 c37 k37
  have b37 := F37.binds (ps := ["table", "targets", "strategy"]) fun _ _ _ _ _ _ us hl => match us, hl with | [_, _, _], _ => rfl
  have F38 := fun_mk (st := s_Caller_init) l38 c38 k38
  have b38 := F38.binds (ps := ["self", "table", "targets", "strategy"]) fun _ _ _ _ _ _ us hl => match us, hl with | [_, _, _, _], _ => rfl
  have F39 := fun_mk (st := s_Caller_call_at) l39 c39 k39
  have b39 := F39.binds (ps := ["self", "seat", "index"]) fun _ _ _ _ _ _ us hl => match us, hl with | [_, _, _], _ => rfl
  have F40 := fun_mk (st := s_Caller_next_call) l40 c40 k40
  have b40 := F40.binds (ps := ["self", "seat"]) fun _ _ _ _ _ _ us hl => match us, hl with | [_, _], _ => rfl
  have F41 := fun_mk (st := s_Responder_init) l41 c41 k41
  have b41 := F41.binds (ps := ["self", "table", "targets", "strategy"]) fun _ _ _ _ _ _ us hl => match us, hl with | [_, _, _, _], _ => rfl
  have F42 := fun_mk (st := s_Responder_is_unsafe) l42 c42 k42
  have b42 := F42.binds (ps := ["self", "seat"]) fun _ _ _ _ _ _ us hl => match us, hl with | [_, _], _ => rfl
  have F43 := fun_mk (st := s_Responder_direction_at) l43 c43 k43
  have b43 := F43.binds (ps := ["self", "seat", "call", "index"]) fun _ _ _ _ _ _ us hl => match us, hl with | [_, _, _, _], _ => rfl
  have F44 := fun_mk (st := s_Responder_answer) l44 c44 k44
  have b44 := F44.binds (ps := ["self", "seat", "call"]) fun _ _ _ _ _ _ us hl => match us, hl with | [_, _, _], _ => rfl
  have F45 := fun_mk (st := s_play) l45 c45 k45
  have b45 := F45.binds (ps := ["table", "targets", "seat", "caller", "responder", "limit"]) fun _ _ _ _ _ _ us hl => match us, hl with | [_, _, _, _, _, _], _ => rfl
  have F46 := fun_mk (st := s_law_cell_at) l46 c46 k46
  have b46 := F46.binds (ps := ["_law_script", "_law_k"]) fun _ _ _ _ _ _ us hl => match us, hl with | [_, _], _ => rfl
  have F47 := fun_mk (st := s_law_source) l47 c47 k47
  have b47 := F47.binds (ps := ["_law_cell"]) fun _ _ _ _ _ _ us hl => match us, hl with | [_], _ => rfl
  have F48 := fun_mk (st := s_law_take) l48 c48 k48
  have b48 := F48.binds (ps := ["_law_source_here", "_law_bound"]) fun _ _ _ _ _ _ us hl => match us, hl with | [_, _], _ => rfl
  have F49 := fun_mk (st := s_law_pick) l49 c49 k49
  have b49 := F49.binds (ps := ["_law_source_here", "_law_items"]) fun _ _ _ _ _ _ us hl => match us, hl with | [_, _], _ => rfl
  have F50 := fun_mk (st := s_law_shuffled) l50 c50 k50
  have b50 := F50.binds (ps := ["_law_source_here", "_law_items"]) fun _ _ _ _ _ _ us hl => match us, hl with | [_, _], _ => rfl
  have F51 := fun_mk (st := s_law_drawn_seat) l51 c51 k51
  have b51 := F51.binds (ps := ["_law_source_here", "_law_rings"]) fun _ _ _ _ _ _ us hl => match us, hl with | [_, _], _ => rfl
  have F52 := fun_mk (st := s_law_moved) l52 c52 k52
  have b52 := F52.binds (ps := ["_law_rings", "_law_spot", "_law_call_in", "_law_sign_here"]) fun _ _ _ _ _ _ us hl => match us, hl with | [_, _, _, _], _ => rfl
  have F53 := fun_mk (st := s_law_drawn_call) l53 c53 k53
  have b53 := F53.binds (ps := ["_law_source_here", "_law_rings"]) fun _ _ _ _ _ _ us hl => match us, hl with | [_, _], _ => rfl
  have F54 := fun_mk (st := s_law_goals) l54 c54 k54
  have b54 := F54.binds (ps := ["_law_source_here", "_law_rings", "_law_bound"]) fun _ _ _ _ _ _ us hl => match us, hl with | [_, _, _], _ => rfl
  have F55 := fun_mk (st := s_law_list_calls) l55 c55 k55
  have b55 := F55.binds (ps := ["_law_source_here", "_law_rings", "_law_bound"]) fun _ _ _ _ _ _ us hl => match us, hl with | [_, _, _], _ => rfl
  have F56 := fun_mk (st := s_law_list_words) l56 c56 k56
  have b56 := F56.binds (ps := ["_law_source_here", "_law_bound"]) fun _ _ _ _ _ _ us hl => match us, hl with | [_, _], _ => rfl
  have F57 := fun_mk (st := s_law_sign) l57 c57 k57
  have b57 := F57.binds (ps := ["_law_word"]) fun _ _ _ _ _ _ us hl => match us, hl with | [_], _ => rfl
  have F58 := fun_mk (st := s_law_rings_any) l58 c58 k58
  have b58 := F58.binds (ps := ["_law_source_here"]) fun _ _ _ _ _ _ us hl => match us, hl with | [_], _ => rfl
  have F59 := fun_mk (st := s_law_game) l59 c59 k59
  have b59 := F59.binds (ps := ["_law_rings", "_law_goals_here", "_law_spot", "_law_called", "_law_words", "_law_limit_at"]) fun _ _ _ _ _ _ us hl => match us, hl with | [_, _, _, _, _, _], _ => rfl
  have F60 := fun_mk (st := s_law_start) l60 c60 k60
  have b60 := F60.binds (ps := ["_law_source_here", "_law_rings", "_law_goals_here", "_law_called"]) fun _ _ _ _ _ _ us hl => match us, hl with | [_, _, _, _], _ => rfl
  have F61 := fun_mk (st := s_law_right) l61 c61 k61
  have b61 := F61.binds (ps := ["_law_source_here"]) fun _ _ _ _ _ _ us hl => match us, hl with | [_], _ => rfl
  have F62 := fun_mk (st := s_law_refused) l62 c62 k62
  have b62 := F62.binds (ps := ["_law_table", "_law_goals_here", "_law_spot", "_law_caller", "_law_responder"]) fun _ _ _ _ _ _ us hl => match us, hl with | [_, _, _, _, _], _ => rfl
  have F63 := fun_mk (st := s_law_turned_right) l63 c63 k63
  have b63 := F63.binds (ps := ["_law_source_here"]) fun _ _ _ _ _ _ us hl => match us, hl with | [_], _ => rfl
  have F64 := fun_mk (st := s_law_witness_right) l64 c64 k64
  have b64 := F64.binds (ps := ["_law_source_here"]) fun _ _ _ _ _ _ us hl => match us, hl with | [_], _ => rfl
  have F65 := fun_mk (st := s_law) l65 c65 k65
  have b65 := F65.binds (ps := ["_law_script"]) fun _ _ _ _ _ _ us hl => match us, hl with | [_], _ => rfl
  exact ⟨{
    f_wall := f0, fd_wall := _, F_wall := F0, b_wall := b0, m_wall := PySem.W.mg_of X G a0,
    f_Mismatch_init := f1, fd_Mismatch_init := _, F_Mismatch_init := F1, b_Mismatch_init := b1,
    f_is_integer := f2, fd_is_integer := _, F_is_integer := F2, b_is_integer := b2, m_is_integer := PySem.W.mg_of X G a2,
    f_is_at_least := f3, fd_is_at_least := _, F_is_at_least := F3, b_is_at_least := b3, m_is_at_least := PySem.W.mg_of X G a3,
    f_is_between := f4, fd_is_between := _, F_is_between := F4, b_is_between := b4, m_is_between := PySem.W.mg_of X G a4,
    f_greatest_common_divisor := f5, fd_greatest_common_divisor := _, F_greatest_common_divisor := F5, b_greatest_common_divisor := b5, m_greatest_common_divisor := PySem.W.mg_of X G a5,
    f_Table_init := f6, fd_Table_init := _, F_Table_init := F6, b_Table_init := b6,
    f_Table_sizes := f7, fd_Table_sizes := _, F_Table_sizes := F7, b_Table_sizes := b7,
    f_Table_count := f8, fd_Table_count := _, F_Table_count := F8, b_Table_count := b8,
    f_Table_is_seat := f9, fd_Table_is_seat := _, F_Table_is_seat := F9, b_Table_is_seat := b9,
    f_Table_is_call := f10, fd_Table_is_call := _, F_Table_is_call := F10, b_Table_is_call := b10,
    f_Table_shifted := f11, fd_Table_shifted := _, F_Table_shifted := F11, b_Table_shifted := b11,
    f_Table_moves := f12, fd_Table_moves := _, F_Table_moves := F12, b_Table_moves := b12,
    f_Table_step := f13, fd_Table_step := _, F_Table_step := F13, b_Table_step := b13,
    f_Table_order := f14, fd_Table_order := _, F_Table_order := F14, b_Table_order := b14,
    f_Table_halves := f15, fd_Table_halves := _, F_Table_halves := F15, b_Table_halves := b15,
    f_is_direction := f16, fd_is_direction := _, F_is_direction := F16, b_is_direction := b16, m_is_direction := PySem.W.mg_of X G a16,
    f_require_table := f17, fd_require_table := _, F_require_table := F17, b_require_table := b17, m_require_table := PySem.W.mg_of X G a17,
    f_require_seat := f18, fd_require_seat := _, F_require_seat := F18, b_require_seat := b18, m_require_seat := PySem.W.mg_of X G a18,
    f_require_call := f19, fd_require_call := _, F_require_call := F19, b_require_call := b19, m_require_call := PySem.W.mg_of X G a19,
    f_require_targets := f20, fd_require_targets := _, F_require_targets := F20, b_require_targets := b20, m_require_targets := PySem.W.mg_of X G a20,
    f_require_small := f21, fd_require_small := _, F_require_small := F21, b_require_small := b21, m_require_small := PySem.W.mg_of X G a21,
    f_all_seats := f22, fd_all_seats := _, F_all_seats := F22, b_all_seats := b22, m_all_seats := PySem.W.mg_of X G a22,
    f_mirror_seat := f23, fd_mirror_seat := _, F_mirror_seat := F23, b_mirror_seat := b23, m_mirror_seat := PySem.W.mg_of X G a23,
    f_call_to := f24, fd_call_to := _, F_call_to := F24, b_call_to := b24, m_call_to := PySem.W.mg_of X G a24,
    f_call_counts := f25, fd_call_counts := _, F_call_counts := F25, b_call_counts := b25, m_call_counts := PySem.W.mg_of X G a25,
    f_call_from := f26, fd_call_from := _, F_call_from := F26, b_call_from := b26, m_call_from := PySem.W.mg_of X G a26,
    f_weighted := f27, fd_weighted := _, F_weighted := F27, b_weighted := b27, m_weighted := PySem.W.mg_of X G a27,
    f_is_witness := f28, fd_is_witness := _, F_is_witness := F28, b_is_witness := b28, m_is_witness := PySem.W.mg_of X G a28,
    f_has_residue := f29, fd_has_residue := _, F_has_residue := F29, b_has_residue := b29, m_has_residue := PySem.W.mg_of X G a29,
    f_direction_off := f30, fd_direction_off := _, F_direction_off := F30, b_direction_off := b30, m_direction_off := PySem.W.mg_of X G a30,
    f_is_layers := f31, fd_is_layers := _, F_is_layers := F31, b_is_layers := b31, m_is_layers := PySem.W.mg_of X G a31,
    f_copied := f32, fd_copied := _, F_copied := F32, b_copied := b32, m_copied := PySem.W.mg_of X G a32,
    f_depths_for := f33, fd_depths_for := _, F_depths_for := F33, b_depths_for := b33, m_depths_for := PySem.W.mg_of X G a33,
    f_is_made_for := f34, fd_is_made_for := _, F_is_made_for := F34, b_is_made_for := b34, m_is_made_for := PySem.W.mg_of X G a34,
    f_is_calls := f35, fd_is_calls := _, F_is_calls := F35, b_is_calls := b35, m_is_calls := PySem.W.mg_of X G a35,
    f_is_directions := f36, fd_is_directions := _, F_is_directions := F36, b_is_directions := b36, m_is_directions := PySem.W.mg_of X G a36,
    f_is_shared_witness := f37, fd_is_shared_witness := _, F_is_shared_witness := F37, b_is_shared_witness := b37, m_is_shared_witness := PySem.W.mg_of X G a37,
    f_Caller_init := f38, fd_Caller_init := _, F_Caller_init := F38, b_Caller_init := b38,
    f_Caller_call_at := f39, fd_Caller_call_at := _, F_Caller_call_at := F39, b_Caller_call_at := b39,
    f_Caller_next_call := f40, fd_Caller_next_call := _, F_Caller_next_call := F40, b_Caller_next_call := b40,
    f_Responder_init := f41, fd_Responder_init := _, F_Responder_init := F41, b_Responder_init := b41,
    f_Responder_is_unsafe := f42, fd_Responder_is_unsafe := _, F_Responder_is_unsafe := F42, b_Responder_is_unsafe := b42,
    f_Responder_direction_at := f43, fd_Responder_direction_at := _, F_Responder_direction_at := F43, b_Responder_direction_at := b43,
    f_Responder_answer := f44, fd_Responder_answer := _, F_Responder_answer := F44, b_Responder_answer := b44,
    f_play := f45, fd_play := _, F_play := F45, b_play := b45, m_play := PySem.W.mg_of X G a45,
    f_law_cell_at := f46, fd_law_cell_at := _, F_law_cell_at := F46, b_law_cell_at := b46, m_law_cell_at := PySem.W.mg_of X G a46,
    f_law_source := f47, fd_law_source := _, F_law_source := F47, b_law_source := b47, m_law_source := PySem.W.mg_of X G a47,
    f_law_take := f48, fd_law_take := _, F_law_take := F48, b_law_take := b48, m_law_take := PySem.W.mg_of X G a48,
    f_law_pick := f49, fd_law_pick := _, F_law_pick := F49, b_law_pick := b49, m_law_pick := PySem.W.mg_of X G a49,
    f_law_shuffled := f50, fd_law_shuffled := _, F_law_shuffled := F50, b_law_shuffled := b50, m_law_shuffled := PySem.W.mg_of X G a50,
    f_law_drawn_seat := f51, fd_law_drawn_seat := _, F_law_drawn_seat := F51, b_law_drawn_seat := b51, m_law_drawn_seat := PySem.W.mg_of X G a51,
    f_law_moved := f52, fd_law_moved := _, F_law_moved := F52, b_law_moved := b52, m_law_moved := PySem.W.mg_of X G a52,
    f_law_drawn_call := f53, fd_law_drawn_call := _, F_law_drawn_call := F53, b_law_drawn_call := b53, m_law_drawn_call := PySem.W.mg_of X G a53,
    f_law_goals := f54, fd_law_goals := _, F_law_goals := F54, b_law_goals := b54, m_law_goals := PySem.W.mg_of X G a54,
    f_law_list_calls := f55, fd_law_list_calls := _, F_law_list_calls := F55, b_law_list_calls := b55, m_law_list_calls := PySem.W.mg_of X G a55,
    f_law_list_words := f56, fd_law_list_words := _, F_law_list_words := F56, b_law_list_words := b56, m_law_list_words := PySem.W.mg_of X G a56,
    f_law_sign := f57, fd_law_sign := _, F_law_sign := F57, b_law_sign := b57, m_law_sign := PySem.W.mg_of X G a57,
    f_law_rings_any := f58, fd_law_rings_any := _, F_law_rings_any := F58, b_law_rings_any := b58, m_law_rings_any := PySem.W.mg_of X G a58,
    f_law_game := f59, fd_law_game := _, F_law_game := F59, b_law_game := b59, m_law_game := PySem.W.mg_of X G a59,
    f_law_start := f60, fd_law_start := _, F_law_start := F60, b_law_start := b60, m_law_start := PySem.W.mg_of X G a60,
    f_law_right := f61, fd_law_right := _, F_law_right := F61, b_law_right := b61, m_law_right := PySem.W.mg_of X G a61,
    f_law_refused := f62, fd_law_refused := _, F_law_refused := F62, b_law_refused := b62, m_law_refused := PySem.W.mg_of X G a62,
    f_law_turned_right := f63, fd_law_turned_right := _, F_law_turned_right := F63, b_law_turned_right := b63, m_law_turned_right := PySem.W.mg_of X G a63,
    f_law_witness_right := f64, fd_law_witness_right := _, F_law_witness_right := F64, b_law_witness_right := b64, m_law_witness_right := PySem.W.mg_of X G a64,
    f_law := f65, fd_law := _, F_law := F65, b_law := b65, m_law := PySem.W.mg_of X G a65,
    C_Mismatch := C_Mismatch, m_Mismatch := PySem.W.mg_of X G aC_Mismatch, ox_Mismatch := ⟨⟨nm_Mismatch, q_Mismatch, N_Mismatch, bs_Mismatch, _, sn_Mismatch, sub_Mismatch, ab_Mismatch, col_Mismatch, dd_Mismatch, m0_Mismatch, m1_Mismatch, m2_Mismatch, m3_Mismatch, m5_Mismatch, xl_Mismatch, by rfl⟩, sa_Mismatch, ex_Mismatch, ty_Mismatch, kc_Mismatch⟩, xf_Mismatch := ⟨ga_Mismatch, gg_Mismatch, ex_Mismatch, hd_Mismatch⟩, i_Mismatch := a1, ti_Mismatch := ti_Mismatch, em_Mismatch := exm_self ex_Mismatch il_Mismatch ty_Mismatch ss_Mismatch,
    n_Mismatch_name := n_Mismatch_name,
    C_Table := C_Table, cl_Table := ⟨pg_Table, hd_Table, po_Table, sa_Table⟩, m_Table := PySem.W.mg_of X G aC_Table,
    M_Table := ⟨mk_Table, a6, i6, kc_Table⟩,
    me_Table_sizes := ⟨a7, i7, k7⟩,
    me_Table_count := ⟨a8, i8, k8⟩,
    me_Table_is_seat := ⟨a9, i9, k9⟩,
    me_Table_is_call := ⟨a10, i10, k10⟩,
    me_Table_shifted := ⟨a11, i11, k11⟩,
    me_Table_moves := ⟨a12, i12, k12⟩,
    me_Table_step := ⟨a13, i13, k13⟩,
    me_Table_order := ⟨a14, i14, k14⟩,
    me_Table_halves := ⟨a15, i15, k15⟩,
    n_Table_rings := n_Table_rings,
    ic_Table := ic_Table,
    im_Table := im_Table,
    C_Caller := C_Caller, cl_Caller := ⟨pg_Caller, hd_Caller, po_Caller, sa_Caller⟩, m_Caller := PySem.W.mg_of X G aC_Caller,
    M_Caller := ⟨mk_Caller, a38, i38, kc_Caller⟩,
    me_Caller_call_at := ⟨a39, i39, k39⟩,
    me_Caller_next_call := ⟨a40, i40, k40⟩,
    n_Caller_depths := n_Caller_depths,
    n_Caller_table := n_Caller_table,
    n_Caller_goals := n_Caller_goals,
    n_Caller_strategy := n_Caller_strategy,
    n_Caller_used := n_Caller_used,
    ic_Caller := ic_Caller,
    im_Caller := im_Caller,
    C_Responder := C_Responder, cl_Responder := ⟨pg_Responder, hd_Responder, po_Responder, sa_Responder⟩, m_Responder := PySem.W.mg_of X G aC_Responder,
    M_Responder := ⟨mk_Responder, a41, i41, kc_Responder⟩,
    me_Responder_is_unsafe := ⟨a42, i42, k42⟩,
    me_Responder_direction_at := ⟨a43, i43, k43⟩,
    me_Responder_answer := ⟨a44, i44, k44⟩,
    n_Responder_depths := n_Responder_depths,
    n_Responder_table := n_Responder_table,
    n_Responder_goals := n_Responder_goals,
    n_Responder_strategy := n_Responder_strategy,
    n_Responder_used := n_Responder_used,
    ic_Responder := ic_Responder,
    im_Responder := im_Responder,
    ig_ := ig_,
    it_ := it_,
    t_MAX_RINGS := _, c_MAX_RINGS := PySem.W.mg_of X G v_MAX_RINGS,
    t_SMALL := _, c_SMALL := PySem.W.mg_of X G v_SMALL,
    t_LAYERS := _, c_LAYERS := PySem.W.mg_of X G v_LAYERS,
    z_abs := PySem.W.mg_none_of X G z_abs,
    z_all := PySem.W.mg_none_of X G z_all,
    z_any := PySem.W.mg_none_of X G z_any,
    z_bool := PySem.W.mg_none_of X G z_bool,
    z_enumerate := PySem.W.mg_none_of X G z_enumerate,
    z_int := PySem.W.mg_none_of X G z_int,
    z_isinstance := PySem.W.mg_none_of X G z_isinstance,
    z_len := PySem.W.mg_none_of X G z_len,
    z_list := PySem.W.mg_none_of X G z_list,
    z_max := PySem.W.mg_none_of X G z_max,
    z_range := PySem.W.mg_none_of X G z_range,
    z_repr := PySem.W.mg_none_of X G z_repr,
    z_sorted := PySem.W.mg_none_of X G z_sorted,
    z_str := PySem.W.mg_none_of X G z_str,
    z_sum := PySem.W.mg_none_of X G z_sum,
    z_tuple := PySem.W.mg_none_of X G z_tuple,
    z_zip := PySem.W.mg_none_of X G z_zip
  }, rfl, rfl⟩
theorem use_mk {K : PySem.W.Frag} {h : Heap} {mg : Str → Option Value} (X : K.In h) (G : h.Ns mainGlobals mg)
    {f0 f1 f2 f3 f4 f5 f6 f7 f8 f9 f10 f11 f12 f13 f14 f15 f16 f17 f18 f19 f20 f21 f22 f23 f24 f25 f26 f27 f28 f29 f30 f31 f32 f33 f34 f35 f36 f37 f38 f39 f40 f41 f42 f43 f44 f45 f46 f47 f48 f49 f50 f51 f52 f53 f54 f55 f56 f57 f58 f59 f60 f61 f62 f63 f64 f65 C_Mismatch C_Table C_Caller C_Responder : Addr}
    {od0 an0 od1 an1 od2 an2 od3 an3 od4 an4 od5 an5 od6 an6 od7 an7 od8 an8 od9 an9 od10 an10 od11 an11 od12 an12 od13 an13 od14 an14 od15 an15 od16 an16 od17 an17 od18 an18 od19 an19 od20 an20 od21 an21 od22 an22 od23 an23 od24 an24 od25 an25 od26 an26 od27 an27 od28 an28 od29 an29 od30 an30 od31 an31 od32 an32 od33 an33 od34 an34 od35 an35 od36 an36 od37 an37 od38 an38 od39 an39 od40 an40 od41 an41 od42 an42 od43 an43 od44 an44 od45 an45 od46 an46 od47 an47 od48 an48 od49 an49 od50 an50 od51 an51 od52 an52 od53 an53 od54 an54 od55 an55 od56 an56 od57 an57 od58 an58 od59 an59 od60 an60 od61 an61 od62 an62 od63 an63 od64 an64 od65 an65 : Option Addr} {sl0 sl1 sl2 sl3 sl4 sl5 sl6 sl7 sl8 sl9 sl10 sl11 sl12 sl13 sl14 sl15 sl16 sl17 sl18 sl19 sl20 sl21 sl22 sl23 sl24 sl25 sl26 sl27 sl28 sl29 sl30 sl31 sl32 sl33 sl34 sl35 sl36 sl37 sl38 sl39 sl40 sl41 sl42 sl43 sl44 sl45 sl46 sl47 sl48 sl49 sl50 sl51 sl52 sl53 sl54 sl55 sl56 sl57 sl58 sl59 sl60 sl61 sl62 sl63 sl64 sl65 : Array (Option Value)} {oc0 kV0 dc0 pm0 cd0 ct0 oc1 kV1 dc1 pm1 cd1 ct1 oc2 kV2 dc2 pm2 cd2 ct2 oc3 kV3 dc3 pm3 cd3 ct3 oc4 kV4 dc4 pm4 cd4 ct4 oc5 kV5 dc5 pm5 cd5 ct5 oc6 kV6 dc6 pm6 cd6 ct6 oc7 kV7 dc7 pm7 cd7 ct7 oc8 kV8 dc8 pm8 cd8 ct8 oc9 kV9 dc9 pm9 cd9 ct9 oc10 kV10 dc10 pm10 cd10 ct10 oc11 kV11 dc11 pm11 cd11 ct11 oc12 kV12 dc12 pm12 cd12 ct12 oc13 kV13 dc13 pm13 cd13 ct13 oc14 kV14 dc14 pm14 cd14 ct14 oc15 kV15 dc15 pm15 cd15 ct15 oc16 kV16 dc16 pm16 cd16 ct16 oc17 kV17 dc17 pm17 cd17 ct17 oc18 kV18 dc18 pm18 cd18 ct18 oc19 kV19 dc19 pm19 cd19 ct19 oc20 kV20 dc20 pm20 cd20 ct20 oc21 kV21 dc21 pm21 cd21 ct21 oc22 kV22 dc22 pm22 cd22 ct22 oc23 kV23 dc23 pm23 cd23 ct23 oc24 kV24 dc24 pm24 cd24 ct24 oc25 kV25 dc25 pm25 cd25 ct25 oc26 kV26 dc26 pm26 cd26 ct26 oc27 kV27 dc27 pm27 cd27 ct27 oc28 kV28 dc28 pm28 cd28 ct28 oc29 kV29 dc29 pm29 cd29 ct29 oc30 kV30 dc30 pm30 cd30 ct30 oc31 kV31 dc31 pm31 cd31 ct31 oc32 kV32 dc32 pm32 cd32 ct32 oc33 kV33 dc33 pm33 cd33 ct33 oc34 kV34 dc34 pm34 cd34 ct34 oc35 kV35 dc35 pm35 cd35 ct35 oc36 kV36 dc36 pm36 cd36 ct36 oc37 kV37 dc37 pm37 cd37 ct37 oc38 kV38 dc38 pm38 cd38 ct38 oc39 kV39 dc39 pm39 cd39 ct39 oc40 kV40 dc40 pm40 cd40 ct40 oc41 kV41 dc41 pm41 cd41 ct41 oc42 kV42 dc42 pm42 cd42 ct42 oc43 kV43 dc43 pm43 cd43 ct43 oc44 kV44 dc44 pm44 cd44 ct44 oc45 kV45 dc45 pm45 cd45 ct45 oc46 kV46 dc46 pm46 cd46 ct46 oc47 kV47 dc47 pm47 cd47 ct47 oc48 kV48 dc48 pm48 cd48 ct48 oc49 kV49 dc49 pm49 cd49 ct49 oc50 kV50 dc50 pm50 cd50 ct50 oc51 kV51 dc51 pm51 cd51 ct51 oc52 kV52 dc52 pm52 cd52 ct52 oc53 kV53 dc53 pm53 cd53 ct53 oc54 kV54 dc54 pm54 cd54 ct54 oc55 kV55 dc55 pm55 cd55 ct55 oc56 kV56 dc56 pm56 cd56 ct56 oc57 kV57 dc57 pm57 cd57 ct57 oc58 kV58 dc58 pm58 cd58 ct58 oc59 kV59 dc59 pm59 cd59 ct59 oc60 kV60 dc60 pm60 cd60 ct60 oc61 kV61 dc61 pm61 cd61 ct61 oc62 kV62 dc62 pm62 cd62 ct62 oc63 kV63 dc63 pm63 cd63 ct63 oc64 kV64 dc64 pm64 cd64 ct64 oc65 kV65 dc65 pm65 cd65 ct65 : Value}
    {nm_Mismatch q_Mismatch : Str} {N_Mismatch B_Mismatch : Addr} {bs_Mismatch sub_Mismatch : List Value} {sn_Mismatch : List Str} {ab_Mismatch : Bool} {col_Mismatch : Option Bool} {dd_Mismatch : Option Addr} {m0_Mismatch m1_Mismatch m2_Mismatch m3_Mismatch m5_Mismatch : Option Value}
    {t_MAX_RINGS t_SMALL t_LAYERS : Tok}
    (aC_Mismatch : PySem.W.nsIn K mainGlobals "Mismatch" = some (some (.ref C_Mismatch)))
    (aC_Table : PySem.W.nsIn K mainGlobals "Table" = some (some (.ref C_Table)))
    (aC_Caller : PySem.W.nsIn K mainGlobals "Caller" = some (some (.ref C_Caller)))
    (aC_Responder : PySem.W.nsIn K mainGlobals "Responder" = some (some (.ref C_Responder)))
    (a0 : PySem.W.nsIn K mainGlobals "_wall" = some (some (.ref f0)))
    (l0 : K.lookup f0 = some ⟨oc0, od0, .func (PySem.W.fnOf "_wall" "_wall" (defArgs s_wall) (defBody s_wall) (defScope s_wall) .none kV0 dc0 pm0 an0 cd0 ct0), sl0⟩)
    (c0 : PySem.W.codeIn K cd0 "_wall" = true)
    (k0 : PySem.W.keepIn K (.ref f0) = true)
    (a1 : PySem.W.findIn K (.ref C_Mismatch) "__init__" = some (some (.ref f1)))
    (i1 : PySem.W.isFn K (.ref f1) = true)
    (l1 : K.lookup f1 = some ⟨oc1, od1, .func (PySem.W.fnOf "__init__" "Mismatch.__init__" (defArgs s_Mismatch_init) (defBody s_Mismatch_init) (defScope s_Mismatch_init) .none kV1 dc1 pm1 an1 cd1 ct1), sl1⟩)
    (c1 : PySem.W.codeIn K cd1 "Mismatch.__init__" = true)
    (k1 : PySem.W.keepIn K (.ref f1) = true)
    (a2 : PySem.W.nsIn K mainGlobals "is_integer" = some (some (.ref f2)))
    (l2 : K.lookup f2 = some ⟨oc2, od2, .func (PySem.W.fnOf "is_integer" "is_integer" (defArgs s_is_integer) (defBody s_is_integer) (defScope s_is_integer) .none kV2 dc2 pm2 an2 cd2 ct2), sl2⟩)
    (c2 : PySem.W.codeIn K cd2 "is_integer" = true)
    (k2 : PySem.W.keepIn K (.ref f2) = true)
    (a3 : PySem.W.nsIn K mainGlobals "is_at_least" = some (some (.ref f3)))
    (l3 : K.lookup f3 = some ⟨oc3, od3, .func (PySem.W.fnOf "is_at_least" "is_at_least" (defArgs s_is_at_least) (defBody s_is_at_least) (defScope s_is_at_least) .none kV3 dc3 pm3 an3 cd3 ct3), sl3⟩)
    (c3 : PySem.W.codeIn K cd3 "is_at_least" = true)
    (k3 : PySem.W.keepIn K (.ref f3) = true)
    (a4 : PySem.W.nsIn K mainGlobals "is_between" = some (some (.ref f4)))
    (l4 : K.lookup f4 = some ⟨oc4, od4, .func (PySem.W.fnOf "is_between" "is_between" (defArgs s_is_between) (defBody s_is_between) (defScope s_is_between) .none kV4 dc4 pm4 an4 cd4 ct4), sl4⟩)
    (c4 : PySem.W.codeIn K cd4 "is_between" = true)
    (k4 : PySem.W.keepIn K (.ref f4) = true)
    (a5 : PySem.W.nsIn K mainGlobals "greatest_common_divisor" = some (some (.ref f5)))
    (l5 : K.lookup f5 = some ⟨oc5, od5, .func (PySem.W.fnOf "greatest_common_divisor" "greatest_common_divisor" (defArgs s_greatest_common_divisor) (defBody s_greatest_common_divisor) (defScope s_greatest_common_divisor) .none kV5 dc5 pm5 an5 cd5 ct5), sl5⟩)
    (c5 : PySem.W.codeIn K cd5 "greatest_common_divisor" = true)
    (k5 : PySem.W.keepIn K (.ref f5) = true)
    (a6 : PySem.W.findIn K (.ref C_Table) "__init__" = some (some (.ref f6)))
    (i6 : PySem.W.isFn K (.ref f6) = true)
    (l6 : K.lookup f6 = some ⟨oc6, od6, .func (PySem.W.fnOf "__init__" "Table.__init__" (defArgs s_Table_init) (defBody s_Table_init) (defScope s_Table_init) .none kV6 dc6 pm6 an6 cd6 ct6), sl6⟩)
    (c6 : PySem.W.codeIn K cd6 "Table.__init__" = true)
    (k6 : PySem.W.keepIn K (.ref f6) = true)
    (a7 : PySem.W.findIn K (.ref C_Table) "sizes" = some (some (.ref f7)))
    (i7 : PySem.W.isFn K (.ref f7) = true)
    (l7 : K.lookup f7 = some ⟨oc7, od7, .func (PySem.W.fnOf "sizes" "Table.sizes" (defArgs s_Table_sizes) (defBody s_Table_sizes) (defScope s_Table_sizes) .none kV7 dc7 pm7 an7 cd7 ct7), sl7⟩)
    (c7 : PySem.W.codeIn K cd7 "Table.sizes" = true)
    (k7 : PySem.W.keepIn K (.ref f7) = true)
    (a8 : PySem.W.findIn K (.ref C_Table) "count" = some (some (.ref f8)))
    (i8 : PySem.W.isFn K (.ref f8) = true)
    (l8 : K.lookup f8 = some ⟨oc8, od8, .func (PySem.W.fnOf "count" "Table.count" (defArgs s_Table_count) (defBody s_Table_count) (defScope s_Table_count) .none kV8 dc8 pm8 an8 cd8 ct8), sl8⟩)
    (c8 : PySem.W.codeIn K cd8 "Table.count" = true)
    (k8 : PySem.W.keepIn K (.ref f8) = true)
    (a9 : PySem.W.findIn K (.ref C_Table) "is_seat" = some (some (.ref f9)))
    (i9 : PySem.W.isFn K (.ref f9) = true)
    (l9 : K.lookup f9 = some ⟨oc9, od9, .func (PySem.W.fnOf "is_seat" "Table.is_seat" (defArgs s_Table_is_seat) (defBody s_Table_is_seat) (defScope s_Table_is_seat) .none kV9 dc9 pm9 an9 cd9 ct9), sl9⟩)
    (c9 : PySem.W.codeIn K cd9 "Table.is_seat" = true)
    (k9 : PySem.W.keepIn K (.ref f9) = true)
    (a10 : PySem.W.findIn K (.ref C_Table) "is_call" = some (some (.ref f10)))
    (i10 : PySem.W.isFn K (.ref f10) = true)
    (l10 : K.lookup f10 = some ⟨oc10, od10, .func (PySem.W.fnOf "is_call" "Table.is_call" (defArgs s_Table_is_call) (defBody s_Table_is_call) (defScope s_Table_is_call) .none kV10 dc10 pm10 an10 cd10 ct10), sl10⟩)
    (c10 : PySem.W.codeIn K cd10 "Table.is_call" = true)
    (k10 : PySem.W.keepIn K (.ref f10) = true)
    (a11 : PySem.W.findIn K (.ref C_Table) "shifted" = some (some (.ref f11)))
    (i11 : PySem.W.isFn K (.ref f11) = true)
    (l11 : K.lookup f11 = some ⟨oc11, od11, .func (PySem.W.fnOf "shifted" "Table.shifted" (defArgs s_Table_shifted) (defBody s_Table_shifted) (defScope s_Table_shifted) .none kV11 dc11 pm11 an11 cd11 ct11), sl11⟩)
    (c11 : PySem.W.codeIn K cd11 "Table.shifted" = true)
    (k11 : PySem.W.keepIn K (.ref f11) = true)
    (a12 : PySem.W.findIn K (.ref C_Table) "moves" = some (some (.ref f12)))
    (i12 : PySem.W.isFn K (.ref f12) = true)
    (l12 : K.lookup f12 = some ⟨oc12, od12, .func (PySem.W.fnOf "moves" "Table.moves" (defArgs s_Table_moves) (defBody s_Table_moves) (defScope s_Table_moves) .none kV12 dc12 pm12 an12 cd12 ct12), sl12⟩)
    (c12 : PySem.W.codeIn K cd12 "Table.moves" = true)
    (k12 : PySem.W.keepIn K (.ref f12) = true)
    (a13 : PySem.W.findIn K (.ref C_Table) "step" = some (some (.ref f13)))
    (i13 : PySem.W.isFn K (.ref f13) = true)
    (l13 : K.lookup f13 = some ⟨oc13, od13, .func (PySem.W.fnOf "step" "Table.step" (defArgs s_Table_step) (defBody s_Table_step) (defScope s_Table_step) .none kV13 dc13 pm13 an13 cd13 ct13), sl13⟩)
    (c13 : PySem.W.codeIn K cd13 "Table.step" = true)
    (k13 : PySem.W.keepIn K (.ref f13) = true)
    (a14 : PySem.W.findIn K (.ref C_Table) "order" = some (some (.ref f14)))
    (i14 : PySem.W.isFn K (.ref f14) = true)
    (l14 : K.lookup f14 = some ⟨oc14, od14, .func (PySem.W.fnOf "order" "Table.order" (defArgs s_Table_order) (defBody s_Table_order) (defScope s_Table_order) .none kV14 dc14 pm14 an14 cd14 ct14), sl14⟩)
    (c14 : PySem.W.codeIn K cd14 "Table.order" = true)
    (k14 : PySem.W.keepIn K (.ref f14) = true)
    (a15 : PySem.W.findIn K (.ref C_Table) "halves" = some (some (.ref f15)))
    (i15 : PySem.W.isFn K (.ref f15) = true)
    (l15 : K.lookup f15 = some ⟨oc15, od15, .func (PySem.W.fnOf "halves" "Table.halves" (defArgs s_Table_halves) (defBody s_Table_halves) (defScope s_Table_halves) .none kV15 dc15 pm15 an15 cd15 ct15), sl15⟩)
    (c15 : PySem.W.codeIn K cd15 "Table.halves" = true)
    (k15 : PySem.W.keepIn K (.ref f15) = true)
    (a16 : PySem.W.nsIn K mainGlobals "is_direction" = some (some (.ref f16)))
    (l16 : K.lookup f16 = some ⟨oc16, od16, .func (PySem.W.fnOf "is_direction" "is_direction" (defArgs s_is_direction) (defBody s_is_direction) (defScope s_is_direction) .none kV16 dc16 pm16 an16 cd16 ct16), sl16⟩)
    (c16 : PySem.W.codeIn K cd16 "is_direction" = true)
    (k16 : PySem.W.keepIn K (.ref f16) = true)
    (a17 : PySem.W.nsIn K mainGlobals "require_table" = some (some (.ref f17)))
    (l17 : K.lookup f17 = some ⟨oc17, od17, .func (PySem.W.fnOf "require_table" "require_table" (defArgs s_require_table) (defBody s_require_table) (defScope s_require_table) .none kV17 dc17 pm17 an17 cd17 ct17), sl17⟩)
    (c17 : PySem.W.codeIn K cd17 "require_table" = true)
    (k17 : PySem.W.keepIn K (.ref f17) = true)
    (a18 : PySem.W.nsIn K mainGlobals "require_seat" = some (some (.ref f18)))
    (l18 : K.lookup f18 = some ⟨oc18, od18, .func (PySem.W.fnOf "require_seat" "require_seat" (defArgs s_require_seat) (defBody s_require_seat) (defScope s_require_seat) .none kV18 dc18 pm18 an18 cd18 ct18), sl18⟩)
    (c18 : PySem.W.codeIn K cd18 "require_seat" = true)
    (k18 : PySem.W.keepIn K (.ref f18) = true)
    (a19 : PySem.W.nsIn K mainGlobals "require_call" = some (some (.ref f19)))
    (l19 : K.lookup f19 = some ⟨oc19, od19, .func (PySem.W.fnOf "require_call" "require_call" (defArgs s_require_call) (defBody s_require_call) (defScope s_require_call) .none kV19 dc19 pm19 an19 cd19 ct19), sl19⟩)
    (c19 : PySem.W.codeIn K cd19 "require_call" = true)
    (k19 : PySem.W.keepIn K (.ref f19) = true)
    (a20 : PySem.W.nsIn K mainGlobals "require_targets" = some (some (.ref f20)))
    (l20 : K.lookup f20 = some ⟨oc20, od20, .func (PySem.W.fnOf "require_targets" "require_targets" (defArgs s_require_targets) (defBody s_require_targets) (defScope s_require_targets) .none kV20 dc20 pm20 an20 cd20 ct20), sl20⟩)
    (c20 : PySem.W.codeIn K cd20 "require_targets" = true)
    (k20 : PySem.W.keepIn K (.ref f20) = true)
    (a21 : PySem.W.nsIn K mainGlobals "require_small" = some (some (.ref f21)))
    (l21 : K.lookup f21 = some ⟨oc21, od21, .func (PySem.W.fnOf "require_small" "require_small" (defArgs s_require_small) (defBody s_require_small) (defScope s_require_small) .none kV21 dc21 pm21 an21 cd21 ct21), sl21⟩)
    (c21 : PySem.W.codeIn K cd21 "require_small" = true)
    (k21 : PySem.W.keepIn K (.ref f21) = true)
    (a22 : PySem.W.nsIn K mainGlobals "all_seats" = some (some (.ref f22)))
    (l22 : K.lookup f22 = some ⟨oc22, od22, .func (PySem.W.fnOf "all_seats" "all_seats" (defArgs s_all_seats) (defBody s_all_seats) (defScope s_all_seats) .none kV22 dc22 pm22 an22 cd22 ct22), sl22⟩)
    (c22 : PySem.W.codeIn K cd22 "all_seats" = true)
    (k22 : PySem.W.keepIn K (.ref f22) = true)
    (a23 : PySem.W.nsIn K mainGlobals "mirror_seat" = some (some (.ref f23)))
    (l23 : K.lookup f23 = some ⟨oc23, od23, .func (PySem.W.fnOf "mirror_seat" "mirror_seat" (defArgs s_mirror_seat) (defBody s_mirror_seat) (defScope s_mirror_seat) .none kV23 dc23 pm23 an23 cd23 ct23), sl23⟩)
    (c23 : PySem.W.codeIn K cd23 "mirror_seat" = true)
    (k23 : PySem.W.keepIn K (.ref f23) = true)
    (a24 : PySem.W.nsIn K mainGlobals "call_to" = some (some (.ref f24)))
    (l24 : K.lookup f24 = some ⟨oc24, od24, .func (PySem.W.fnOf "call_to" "call_to" (defArgs s_call_to) (defBody s_call_to) (defScope s_call_to) .none kV24 dc24 pm24 an24 cd24 ct24), sl24⟩)
    (c24 : PySem.W.codeIn K cd24 "call_to" = true)
    (k24 : PySem.W.keepIn K (.ref f24) = true)
    (a25 : PySem.W.nsIn K mainGlobals "call_counts" = some (some (.ref f25)))
    (l25 : K.lookup f25 = some ⟨oc25, od25, .func (PySem.W.fnOf "call_counts" "call_counts" (defArgs s_call_counts) (defBody s_call_counts) (defScope s_call_counts) .none kV25 dc25 pm25 an25 cd25 ct25), sl25⟩)
    (c25 : PySem.W.codeIn K cd25 "call_counts" = true)
    (k25 : PySem.W.keepIn K (.ref f25) = true)
    (a26 : PySem.W.nsIn K mainGlobals "call_from" = some (some (.ref f26)))
    (l26 : K.lookup f26 = some ⟨oc26, od26, .func (PySem.W.fnOf "call_from" "call_from" (defArgs s_call_from) (defBody s_call_from) (defScope s_call_from) .none kV26 dc26 pm26 an26 cd26 ct26), sl26⟩)
    (c26 : PySem.W.codeIn K cd26 "call_from" = true)
    (k26 : PySem.W.keepIn K (.ref f26) = true)
    (a27 : PySem.W.nsIn K mainGlobals "weighted" = some (some (.ref f27)))
    (l27 : K.lookup f27 = some ⟨oc27, od27, .func (PySem.W.fnOf "weighted" "weighted" (defArgs s_weighted) (defBody s_weighted) (defScope s_weighted) .none kV27 dc27 pm27 an27 cd27 ct27), sl27⟩)
    (c27 : PySem.W.codeIn K cd27 "weighted" = true)
    (k27 : PySem.W.keepIn K (.ref f27) = true)
    (a28 : PySem.W.nsIn K mainGlobals "is_witness" = some (some (.ref f28)))
    (l28 : K.lookup f28 = some ⟨oc28, od28, .func (PySem.W.fnOf "is_witness" "is_witness" (defArgs s_is_witness) (defBody s_is_witness) (defScope s_is_witness) .none kV28 dc28 pm28 an28 cd28 ct28), sl28⟩)
    (c28 : PySem.W.codeIn K cd28 "is_witness" = true)
    (k28 : PySem.W.keepIn K (.ref f28) = true)
    (a29 : PySem.W.nsIn K mainGlobals "has_residue" = some (some (.ref f29)))
    (l29 : K.lookup f29 = some ⟨oc29, od29, .func (PySem.W.fnOf "has_residue" "has_residue" (defArgs s_has_residue) (defBody s_has_residue) (defScope s_has_residue) .none kV29 dc29 pm29 an29 cd29 ct29), sl29⟩)
    (c29 : PySem.W.codeIn K cd29 "has_residue" = true)
    (k29 : PySem.W.keepIn K (.ref f29) = true)
    (a30 : PySem.W.nsIn K mainGlobals "direction_off" = some (some (.ref f30)))
    (l30 : K.lookup f30 = some ⟨oc30, od30, .func (PySem.W.fnOf "direction_off" "direction_off" (defArgs s_direction_off) (defBody s_direction_off) (defScope s_direction_off) .none kV30 dc30 pm30 an30 cd30 ct30), sl30⟩)
    (c30 : PySem.W.codeIn K cd30 "direction_off" = true)
    (k30 : PySem.W.keepIn K (.ref f30) = true)
    (a31 : PySem.W.nsIn K mainGlobals "is_layers" = some (some (.ref f31)))
    (l31 : K.lookup f31 = some ⟨oc31, od31, .func (PySem.W.fnOf "is_layers" "is_layers" (defArgs s_is_layers) (defBody s_is_layers) (defScope s_is_layers) .none kV31 dc31 pm31 an31 cd31 ct31), sl31⟩)
    (c31 : PySem.W.codeIn K cd31 "is_layers" = true)
    (k31 : PySem.W.keepIn K (.ref f31) = true)
    (a32 : PySem.W.nsIn K mainGlobals "copied" = some (some (.ref f32)))
    (l32 : K.lookup f32 = some ⟨oc32, od32, .func (PySem.W.fnOf "copied" "copied" (defArgs s_copied) (defBody s_copied) (defScope s_copied) .none kV32 dc32 pm32 an32 cd32 ct32), sl32⟩)
    (c32 : PySem.W.codeIn K cd32 "copied" = true)
    (k32 : PySem.W.keepIn K (.ref f32) = true)
    (a33 : PySem.W.nsIn K mainGlobals "depths_for" = some (some (.ref f33)))
    (l33 : K.lookup f33 = some ⟨oc33, od33, .func (PySem.W.fnOf "depths_for" "depths_for" (defArgs s_depths_for) (defBody s_depths_for) (defScope s_depths_for) .none kV33 dc33 pm33 an33 cd33 ct33), sl33⟩)
    (c33 : PySem.W.codeIn K cd33 "depths_for" = true)
    (k33 : PySem.W.keepIn K (.ref f33) = true)
    (a34 : PySem.W.nsIn K mainGlobals "is_made_for" = some (some (.ref f34)))
    (l34 : K.lookup f34 = some ⟨oc34, od34, .func (PySem.W.fnOf "is_made_for" "is_made_for" (defArgs s_is_made_for) (defBody s_is_made_for) (defScope s_is_made_for) .none kV34 dc34 pm34 an34 cd34 ct34), sl34⟩)
    (c34 : PySem.W.codeIn K cd34 "is_made_for" = true)
    (k34 : PySem.W.keepIn K (.ref f34) = true)
    (a35 : PySem.W.nsIn K mainGlobals "is_calls" = some (some (.ref f35)))
    (l35 : K.lookup f35 = some ⟨oc35, od35, .func (PySem.W.fnOf "is_calls" "is_calls" (defArgs s_is_calls) (defBody s_is_calls) (defScope s_is_calls) .none kV35 dc35 pm35 an35 cd35 ct35), sl35⟩)
    (c35 : PySem.W.codeIn K cd35 "is_calls" = true)
    (k35 : PySem.W.keepIn K (.ref f35) = true)
    (a36 : PySem.W.nsIn K mainGlobals "is_directions" = some (some (.ref f36)))
    (l36 : K.lookup f36 = some ⟨oc36, od36, .func (PySem.W.fnOf "is_directions" "is_directions" (defArgs s_is_directions) (defBody s_is_directions) (defScope s_is_directions) .none kV36 dc36 pm36 an36 cd36 ct36), sl36⟩)
    (c36 : PySem.W.codeIn K cd36 "is_directions" = true)
    (k36 : PySem.W.keepIn K (.ref f36) = true)
    (a37 : PySem.W.nsIn K mainGlobals "is_shared_witness" = some (some (.ref f37)))
    (l37 : K.lookup f37 = some ⟨oc37, od37, .func (PySem.W.fnOf "is_shared_witness" "is_shared_witness" (defArgs s_is_shared_witness) (defBody s_is_shared_witness) (defScope s_is_shared_witness) .none kV37 dc37 pm37 an37 cd37 ct37), sl37⟩)
    (c37 : PySem.W.codeIn K cd37 "is_shared_witness" = true)
    (k37 : PySem.W.keepIn K (.ref f37) = true)
    (a38 : PySem.W.findIn K (.ref C_Caller) "__init__" = some (some (.ref f38)))
    (i38 : PySem.W.isFn K (.ref f38) = true)
    (l38 : K.lookup f38 = some ⟨oc38, od38, .func (PySem.W.fnOf "__init__" "Caller.__init__" (defArgs s_Caller_init) (defBody s_Caller_init) (defScope s_Caller_init) .none kV38 dc38 pm38 an38 cd38 ct38), sl38⟩)
    (c38 : PySem.W.codeIn K cd38 "Caller.__init__" = true)
    (k38 : PySem.W.keepIn K (.ref f38) = true)
    (a39 : PySem.W.findIn K (.ref C_Caller) "call_at" = some (some (.ref f39)))
    (i39 : PySem.W.isFn K (.ref f39) = true)
    (l39 : K.lookup f39 = some ⟨oc39, od39, .func (PySem.W.fnOf "call_at" "Caller.call_at" (defArgs s_Caller_call_at) (defBody s_Caller_call_at) (defScope s_Caller_call_at) .none kV39 dc39 pm39 an39 cd39 ct39), sl39⟩)
    (c39 : PySem.W.codeIn K cd39 "Caller.call_at" = true)
    (k39 : PySem.W.keepIn K (.ref f39) = true)
    (a40 : PySem.W.findIn K (.ref C_Caller) "next_call" = some (some (.ref f40)))
    (i40 : PySem.W.isFn K (.ref f40) = true)
    (l40 : K.lookup f40 = some ⟨oc40, od40, .func (PySem.W.fnOf "next_call" "Caller.next_call" (defArgs s_Caller_next_call) (defBody s_Caller_next_call) (defScope s_Caller_next_call) .none kV40 dc40 pm40 an40 cd40 ct40), sl40⟩)
    (c40 : PySem.W.codeIn K cd40 "Caller.next_call" = true)
    (k40 : PySem.W.keepIn K (.ref f40) = true)
    (a41 : PySem.W.findIn K (.ref C_Responder) "__init__" = some (some (.ref f41)))
    (i41 : PySem.W.isFn K (.ref f41) = true)
    (l41 : K.lookup f41 = some ⟨oc41, od41, .func (PySem.W.fnOf "__init__" "Responder.__init__" (defArgs s_Responder_init) (defBody s_Responder_init) (defScope s_Responder_init) .none kV41 dc41 pm41 an41 cd41 ct41), sl41⟩)
    (c41 : PySem.W.codeIn K cd41 "Responder.__init__" = true)
    (k41 : PySem.W.keepIn K (.ref f41) = true)
    (a42 : PySem.W.findIn K (.ref C_Responder) "is_unsafe" = some (some (.ref f42)))
    (i42 : PySem.W.isFn K (.ref f42) = true)
    (l42 : K.lookup f42 = some ⟨oc42, od42, .func (PySem.W.fnOf "is_unsafe" "Responder.is_unsafe" (defArgs s_Responder_is_unsafe) (defBody s_Responder_is_unsafe) (defScope s_Responder_is_unsafe) .none kV42 dc42 pm42 an42 cd42 ct42), sl42⟩)
    (c42 : PySem.W.codeIn K cd42 "Responder.is_unsafe" = true)
    (k42 : PySem.W.keepIn K (.ref f42) = true)
    (a43 : PySem.W.findIn K (.ref C_Responder) "direction_at" = some (some (.ref f43)))
    (i43 : PySem.W.isFn K (.ref f43) = true)
    (l43 : K.lookup f43 = some ⟨oc43, od43, .func (PySem.W.fnOf "direction_at" "Responder.direction_at" (defArgs s_Responder_direction_at) (defBody s_Responder_direction_at) (defScope s_Responder_direction_at) .none kV43 dc43 pm43 an43 cd43 ct43), sl43⟩)
    (c43 : PySem.W.codeIn K cd43 "Responder.direction_at" = true)
    (k43 : PySem.W.keepIn K (.ref f43) = true)
    (a44 : PySem.W.findIn K (.ref C_Responder) "answer" = some (some (.ref f44)))
    (i44 : PySem.W.isFn K (.ref f44) = true)
    (l44 : K.lookup f44 = some ⟨oc44, od44, .func (PySem.W.fnOf "answer" "Responder.answer" (defArgs s_Responder_answer) (defBody s_Responder_answer) (defScope s_Responder_answer) .none kV44 dc44 pm44 an44 cd44 ct44), sl44⟩)
    (c44 : PySem.W.codeIn K cd44 "Responder.answer" = true)
    (k44 : PySem.W.keepIn K (.ref f44) = true)
    (a45 : PySem.W.nsIn K mainGlobals "play" = some (some (.ref f45)))
    (l45 : K.lookup f45 = some ⟨oc45, od45, .func (PySem.W.fnOf "play" "play" (defArgs s_play) (defBody s_play) (defScope s_play) .none kV45 dc45 pm45 an45 cd45 ct45), sl45⟩)
    (c45 : PySem.W.codeIn K cd45 "play" = true)
    (k45 : PySem.W.keepIn K (.ref f45) = true)
    (a46 : PySem.W.nsIn K mainGlobals "_law_cell_at" = some (some (.ref f46)))
    (l46 : K.lookup f46 = some ⟨oc46, od46, .func (PySem.W.fnOf "_law_cell_at" "_law_cell_at" (defArgs s_law_cell_at) (defBody s_law_cell_at) (defScope s_law_cell_at) .none kV46 dc46 pm46 an46 cd46 ct46), sl46⟩)
    (c46 : PySem.W.codeIn K cd46 "_law_cell_at" = true)
    (k46 : PySem.W.keepIn K (.ref f46) = true)
    (a47 : PySem.W.nsIn K mainGlobals "_law_source" = some (some (.ref f47)))
    (l47 : K.lookup f47 = some ⟨oc47, od47, .func (PySem.W.fnOf "_law_source" "_law_source" (defArgs s_law_source) (defBody s_law_source) (defScope s_law_source) .none kV47 dc47 pm47 an47 cd47 ct47), sl47⟩)
    (c47 : PySem.W.codeIn K cd47 "_law_source" = true)
    (k47 : PySem.W.keepIn K (.ref f47) = true)
    (a48 : PySem.W.nsIn K mainGlobals "_law_take" = some (some (.ref f48)))
    (l48 : K.lookup f48 = some ⟨oc48, od48, .func (PySem.W.fnOf "_law_take" "_law_take" (defArgs s_law_take) (defBody s_law_take) (defScope s_law_take) .none kV48 dc48 pm48 an48 cd48 ct48), sl48⟩)
    (c48 : PySem.W.codeIn K cd48 "_law_take" = true)
    (k48 : PySem.W.keepIn K (.ref f48) = true)
    (a49 : PySem.W.nsIn K mainGlobals "_law_pick" = some (some (.ref f49)))
    (l49 : K.lookup f49 = some ⟨oc49, od49, .func (PySem.W.fnOf "_law_pick" "_law_pick" (defArgs s_law_pick) (defBody s_law_pick) (defScope s_law_pick) .none kV49 dc49 pm49 an49 cd49 ct49), sl49⟩)
    (c49 : PySem.W.codeIn K cd49 "_law_pick" = true)
    (k49 : PySem.W.keepIn K (.ref f49) = true)
    (a50 : PySem.W.nsIn K mainGlobals "_law_shuffled" = some (some (.ref f50)))
    (l50 : K.lookup f50 = some ⟨oc50, od50, .func (PySem.W.fnOf "_law_shuffled" "_law_shuffled" (defArgs s_law_shuffled) (defBody s_law_shuffled) (defScope s_law_shuffled) .none kV50 dc50 pm50 an50 cd50 ct50), sl50⟩)
    (c50 : PySem.W.codeIn K cd50 "_law_shuffled" = true)
    (k50 : PySem.W.keepIn K (.ref f50) = true)
    (a51 : PySem.W.nsIn K mainGlobals "_law_drawn_seat" = some (some (.ref f51)))
    (l51 : K.lookup f51 = some ⟨oc51, od51, .func (PySem.W.fnOf "_law_drawn_seat" "_law_drawn_seat" (defArgs s_law_drawn_seat) (defBody s_law_drawn_seat) (defScope s_law_drawn_seat) .none kV51 dc51 pm51 an51 cd51 ct51), sl51⟩)
    (c51 : PySem.W.codeIn K cd51 "_law_drawn_seat" = true)
    (k51 : PySem.W.keepIn K (.ref f51) = true)
    (a52 : PySem.W.nsIn K mainGlobals "_law_moved" = some (some (.ref f52)))
    (l52 : K.lookup f52 = some ⟨oc52, od52, .func (PySem.W.fnOf "_law_moved" "_law_moved" (defArgs s_law_moved) (defBody s_law_moved) (defScope s_law_moved) .none kV52 dc52 pm52 an52 cd52 ct52), sl52⟩)
    (c52 : PySem.W.codeIn K cd52 "_law_moved" = true)
    (k52 : PySem.W.keepIn K (.ref f52) = true)
    (a53 : PySem.W.nsIn K mainGlobals "_law_drawn_call" = some (some (.ref f53)))
    (l53 : K.lookup f53 = some ⟨oc53, od53, .func (PySem.W.fnOf "_law_drawn_call" "_law_drawn_call" (defArgs s_law_drawn_call) (defBody s_law_drawn_call) (defScope s_law_drawn_call) .none kV53 dc53 pm53 an53 cd53 ct53), sl53⟩)
    (c53 : PySem.W.codeIn K cd53 "_law_drawn_call" = true)
    (k53 : PySem.W.keepIn K (.ref f53) = true)
    (a54 : PySem.W.nsIn K mainGlobals "_law_goals" = some (some (.ref f54)))
    (l54 : K.lookup f54 = some ⟨oc54, od54, .func (PySem.W.fnOf "_law_goals" "_law_goals" (defArgs s_law_goals) (defBody s_law_goals) (defScope s_law_goals) .none kV54 dc54 pm54 an54 cd54 ct54), sl54⟩)
    (c54 : PySem.W.codeIn K cd54 "_law_goals" = true)
    (k54 : PySem.W.keepIn K (.ref f54) = true)
    (a55 : PySem.W.nsIn K mainGlobals "_law_list_calls" = some (some (.ref f55)))
    (l55 : K.lookup f55 = some ⟨oc55, od55, .func (PySem.W.fnOf "_law_list_calls" "_law_list_calls" (defArgs s_law_list_calls) (defBody s_law_list_calls) (defScope s_law_list_calls) .none kV55 dc55 pm55 an55 cd55 ct55), sl55⟩)
    (c55 : PySem.W.codeIn K cd55 "_law_list_calls" = true)
    (k55 : PySem.W.keepIn K (.ref f55) = true)
    (a56 : PySem.W.nsIn K mainGlobals "_law_list_words" = some (some (.ref f56)))
    (l56 : K.lookup f56 = some ⟨oc56, od56, .func (PySem.W.fnOf "_law_list_words" "_law_list_words" (defArgs s_law_list_words) (defBody s_law_list_words) (defScope s_law_list_words) .none kV56 dc56 pm56 an56 cd56 ct56), sl56⟩)
    (c56 : PySem.W.codeIn K cd56 "_law_list_words" = true)
    (k56 : PySem.W.keepIn K (.ref f56) = true)
    (a57 : PySem.W.nsIn K mainGlobals "_law_sign" = some (some (.ref f57)))
    (l57 : K.lookup f57 = some ⟨oc57, od57, .func (PySem.W.fnOf "_law_sign" "_law_sign" (defArgs s_law_sign) (defBody s_law_sign) (defScope s_law_sign) .none kV57 dc57 pm57 an57 cd57 ct57), sl57⟩)
    (c57 : PySem.W.codeIn K cd57 "_law_sign" = true)
    (k57 : PySem.W.keepIn K (.ref f57) = true)
    (a58 : PySem.W.nsIn K mainGlobals "_law_rings_any" = some (some (.ref f58)))
    (l58 : K.lookup f58 = some ⟨oc58, od58, .func (PySem.W.fnOf "_law_rings_any" "_law_rings_any" (defArgs s_law_rings_any) (defBody s_law_rings_any) (defScope s_law_rings_any) .none kV58 dc58 pm58 an58 cd58 ct58), sl58⟩)
    (c58 : PySem.W.codeIn K cd58 "_law_rings_any" = true)
    (k58 : PySem.W.keepIn K (.ref f58) = true)
    (a59 : PySem.W.nsIn K mainGlobals "_law_game" = some (some (.ref f59)))
    (l59 : K.lookup f59 = some ⟨oc59, od59, .func (PySem.W.fnOf "_law_game" "_law_game" (defArgs s_law_game) (defBody s_law_game) (defScope s_law_game) .none kV59 dc59 pm59 an59 cd59 ct59), sl59⟩)
    (c59 : PySem.W.codeIn K cd59 "_law_game" = true)
    (k59 : PySem.W.keepIn K (.ref f59) = true)
    (a60 : PySem.W.nsIn K mainGlobals "_law_start" = some (some (.ref f60)))
    (l60 : K.lookup f60 = some ⟨oc60, od60, .func (PySem.W.fnOf "_law_start" "_law_start" (defArgs s_law_start) (defBody s_law_start) (defScope s_law_start) .none kV60 dc60 pm60 an60 cd60 ct60), sl60⟩)
    (c60 : PySem.W.codeIn K cd60 "_law_start" = true)
    (k60 : PySem.W.keepIn K (.ref f60) = true)
    (a61 : PySem.W.nsIn K mainGlobals "_law_right" = some (some (.ref f61)))
    (l61 : K.lookup f61 = some ⟨oc61, od61, .func (PySem.W.fnOf "_law_right" "_law_right" (defArgs s_law_right) (defBody s_law_right) (defScope s_law_right) .none kV61 dc61 pm61 an61 cd61 ct61), sl61⟩)
    (c61 : PySem.W.codeIn K cd61 "_law_right" = true)
    (k61 : PySem.W.keepIn K (.ref f61) = true)
    (a62 : PySem.W.nsIn K mainGlobals "_law_refused" = some (some (.ref f62)))
    (l62 : K.lookup f62 = some ⟨oc62, od62, .func (PySem.W.fnOf "_law_refused" "_law_refused" (defArgs s_law_refused) (defBody s_law_refused) (defScope s_law_refused) .none kV62 dc62 pm62 an62 cd62 ct62), sl62⟩)
    (c62 : PySem.W.codeIn K cd62 "_law_refused" = true)
    (k62 : PySem.W.keepIn K (.ref f62) = true)
    (a63 : PySem.W.nsIn K mainGlobals "_law_turned_right" = some (some (.ref f63)))
    (l63 : K.lookup f63 = some ⟨oc63, od63, .func (PySem.W.fnOf "_law_turned_right" "_law_turned_right" (defArgs s_law_turned_right) (defBody s_law_turned_right) (defScope s_law_turned_right) .none kV63 dc63 pm63 an63 cd63 ct63), sl63⟩)
    (c63 : PySem.W.codeIn K cd63 "_law_turned_right" = true)
    (k63 : PySem.W.keepIn K (.ref f63) = true)
    (a64 : PySem.W.nsIn K mainGlobals "_law_witness_right" = some (some (.ref f64)))
    (l64 : K.lookup f64 = some ⟨oc64, od64, .func (PySem.W.fnOf "_law_witness_right" "_law_witness_right" (defArgs s_law_witness_right) (defBody s_law_witness_right) (defScope s_law_witness_right) .none kV64 dc64 pm64 an64 cd64 ct64), sl64⟩)
    (c64 : PySem.W.codeIn K cd64 "_law_witness_right" = true)
    (k64 : PySem.W.keepIn K (.ref f64) = true)
    (a65 : PySem.W.nsIn K mainGlobals "law" = some (some (.ref f65)))
    (l65 : K.lookup f65 = some ⟨oc65, od65, .func (PySem.W.fnOf "law" "law" (defArgs s_law) (defBody s_law) (defScope s_law) .none kV65 dc65 pm65 an65 cd65 ct65), sl65⟩)
    (c65 : PySem.W.codeIn K cd65 "law" = true)
    (k65 : PySem.W.keepIn K (.ref f65) = true)
    (xl_Mismatch : K.lookup C_Mismatch = some (excClassObj nm_Mismatch q_Mismatch C_Mismatch N_Mismatch bs_Mismatch [.ref B_Mismatch, .type "ValueError", .type "Exception", .type "BaseException", .type "object"] true sn_Mismatch sub_Mismatch ab_Mismatch col_Mismatch dd_Mismatch m0_Mismatch m1_Mismatch m2_Mismatch m3_Mismatch m5_Mismatch "ValueError.__new__"))
    (sa_Mismatch : PySem.W.findIn K (.ref C_Mismatch) "__setattr__" = some (some (.builtin "object.__setattr__")))
    (ga_Mismatch : PySem.W.findIn K (.ref C_Mismatch) "__getattribute__" = some (some (.builtin "BaseException.__getattribute__")))
    (gg_Mismatch : PySem.W.findIn K (.ref C_Mismatch) "__getattr__" = some none)
    (ti_Mismatch : PySem.W.typeIn K (.ref f1) = some (.type "function"))
    (kc_Mismatch : PySem.W.keepIn K (.ref C_Mismatch) = true)
    (ex_Mismatch : PySem.W.subIn K (.ref C_Mismatch) (.type "BaseException") = some true)
    (ty_Mismatch : PySem.W.typeIn K (.ref C_Mismatch) = some (.type "type"))
    (hd_Mismatch : PySem.W.hasDictIn K C_Mismatch = true)
    (il_Mismatch : PySem.W.isClsIn K C_Mismatch = true)
    (ss_Mismatch : PySem.W.subIn K (.ref C_Mismatch) (.ref C_Mismatch) = some true)
    (n_Mismatch_name : PySem.W.findIn K (.ref C_Mismatch) "name" = some none)
    (pg_Table : PySem.W.plainGet K C_Table Str.empty = true)
    (hd_Table : PySem.W.hasDictIn K C_Table = true)
    (po_Table : PySem.W.plainOver K C_Table = true)
    (sa_Table : PySem.W.findIn K (.ref C_Table) "__setattr__" = some (some (.builtin "object.__setattr__")))
    (mk_Table : PySem.W.makesIn K C_Table = true)
    (kc_Table : PySem.W.keepIn K (.ref C_Table) = true)
    (n_Table_rings : PySem.W.findIn K (.ref C_Table) "rings" = some none)
    (ic_Table : PySem.W.findIn K (.ref C_Table) "__class__" = some (some (.builtin "object.__class__")))
    (im_Table : PySem.W.mroIn K C_Table (.type "object") = some true)
    (pg_Caller : PySem.W.plainGet K C_Caller Str.empty = true)
    (hd_Caller : PySem.W.hasDictIn K C_Caller = true)
    (po_Caller : PySem.W.plainOver K C_Caller = true)
    (sa_Caller : PySem.W.findIn K (.ref C_Caller) "__setattr__" = some (some (.builtin "object.__setattr__")))
    (mk_Caller : PySem.W.makesIn K C_Caller = true)
    (kc_Caller : PySem.W.keepIn K (.ref C_Caller) = true)
    (n_Caller_depths : PySem.W.findIn K (.ref C_Caller) "depths" = some none)
    (n_Caller_table : PySem.W.findIn K (.ref C_Caller) "table" = some none)
    (n_Caller_goals : PySem.W.findIn K (.ref C_Caller) "goals" = some none)
    (n_Caller_strategy : PySem.W.findIn K (.ref C_Caller) "strategy" = some none)
    (n_Caller_used : PySem.W.findIn K (.ref C_Caller) "used" = some none)
    (ic_Caller : PySem.W.findIn K (.ref C_Caller) "__class__" = some (some (.builtin "object.__class__")))
    (im_Caller : PySem.W.mroIn K C_Caller (.type "object") = some true)
    (pg_Responder : PySem.W.plainGet K C_Responder Str.empty = true)
    (hd_Responder : PySem.W.hasDictIn K C_Responder = true)
    (po_Responder : PySem.W.plainOver K C_Responder = true)
    (sa_Responder : PySem.W.findIn K (.ref C_Responder) "__setattr__" = some (some (.builtin "object.__setattr__")))
    (mk_Responder : PySem.W.makesIn K C_Responder = true)
    (kc_Responder : PySem.W.keepIn K (.ref C_Responder) = true)
    (n_Responder_depths : PySem.W.findIn K (.ref C_Responder) "depths" = some none)
    (n_Responder_table : PySem.W.findIn K (.ref C_Responder) "table" = some none)
    (n_Responder_goals : PySem.W.findIn K (.ref C_Responder) "goals" = some none)
    (n_Responder_strategy : PySem.W.findIn K (.ref C_Responder) "strategy" = some none)
    (n_Responder_used : PySem.W.findIn K (.ref C_Responder) "used" = some none)
    (ic_Responder : PySem.W.findIn K (.ref C_Responder) "__class__" = some (some (.builtin "object.__class__")))
    (im_Responder : PySem.W.mroIn K C_Responder (.type "object") = some true)
    (ig_ : PySem.W.specialIn K (.builtin "object.__class__") "__get__" = some (some (.builtin "getset_descriptor.__get__")))
    (it_ : PySem.W.takesIn K (.builtin "object.__class__") = some true)
    (v_MAX_RINGS : PySem.W.nsIn K mainGlobals "MAX_RINGS" = some (some (.int 4 t_MAX_RINGS)))
    (v_SMALL : PySem.W.nsIn K mainGlobals "SMALL" = some (some (.int 300 t_SMALL)))
    (v_LAYERS : PySem.W.nsIn K mainGlobals "LAYERS" = some (some (.str "layers" t_LAYERS)))
    (z_abs : PySem.W.nsIn K mainGlobals "abs" = some none)
    (z_all : PySem.W.nsIn K mainGlobals "all" = some none)
    (z_any : PySem.W.nsIn K mainGlobals "any" = some none)
    (z_bool : PySem.W.nsIn K mainGlobals "bool" = some none)
    (z_enumerate : PySem.W.nsIn K mainGlobals "enumerate" = some none)
    (z_int : PySem.W.nsIn K mainGlobals "int" = some none)
    (z_isinstance : PySem.W.nsIn K mainGlobals "isinstance" = some none)
    (z_len : PySem.W.nsIn K mainGlobals "len" = some none)
    (z_list : PySem.W.nsIn K mainGlobals "list" = some none)
    (z_max : PySem.W.nsIn K mainGlobals "max" = some none)
    (z_range : PySem.W.nsIn K mainGlobals "range" = some none)
    (z_repr : PySem.W.nsIn K mainGlobals "repr" = some none)
    (z_sorted : PySem.W.nsIn K mainGlobals "sorted" = some none)
    (z_str : PySem.W.nsIn K mainGlobals "str" = some none)
    (z_sum : PySem.W.nsIn K mainGlobals "sum" = some none)
    (z_tuple : PySem.W.nsIn K mainGlobals "tuple" = some none)
    (z_zip : PySem.W.nsIn K mainGlobals "zip" = some none)
    : ∃ T : TX K mg, mg "law" = some (.ref T.f_law) ∧ ∀ (s : Shared) (v : Value), BindsTo s T.fd_law ⟨[v], []⟩ [("_law_script", v)] := by
  obtain ⟨T, h1, h2⟩ := all_mk X G aC_Mismatch aC_Table aC_Caller aC_Responder a0 l0 c0 k0 a1 i1 l1 c1 k1 a2 l2 c2 k2 a3 l3 c3 k3 a4 l4 c4 k4 a5 l5 c5 k5 a6 i6 l6 c6 k6 a7 i7 l7 c7 k7 a8 i8 l8 c8 k8 a9 i9 l9 c9 k9 a10 i10 l10 c10 k10 a11 i11 l11 c11 k11 a12 i12 l12 c12 k12 a13 i13 l13 c13 k13 a14 i14 l14 c14 k14 a15 i15 l15 c15 k15 a16 l16 c16 k16 a17 l17 c17 k17 a18 l18 c18 k18 a19 l19 c19 k19 a20 l20 c20 k20 a21 l21 c21 k21 a22 l22 c22 k22 a23 l23 c23 k23 a24 l24 c24 k24 a25 l25 c25 k25 a26 l26 c26 k26 a27 l27 c27 k27 a28 l28 c28 k28 a29 l29 c29 k29 a30 l30 c30 k30 a31 l31 c31 k31 a32 l32 c32 k32 a33 l33 c33 k33 a34 l34 c34 k34 a35 l35 c35 k35 a36 l36 c36 k36 a37 l37 c37 k37 a38 i38 l38 c38 k38 a39 i39 l39 c39 k39 a40 i40 l40 c40 k40 a41 i41 l41 c41 k41 a42 i42 l42 c42 k42 a43 i43 l43 c43 k43 a44 i44 l44 c44 k44 a45 l45 c45 k45 a46 l46 c46 k46 a47 l47 c47 k47 a48 l48 c48 k48 a49 l49 c49 k49 a50 l50 c50 k50 a51 l51 c51 k51 a52 l52 c52 k52 a53 l53 c53 k53 a54 l54 c54 k54 a55 l55 c55 k55 a56 l56 c56 k56 a57 l57 c57 k57 a58 l58 c58 k58 a59 l59 c59 k59 a60 l60 c60 k60 a61 l61 c61 k61 a62 l62 c62 k62 a63 l63 c63 k63 a64 l64 c64 k64 a65 l65 c65 k65 xl_Mismatch sa_Mismatch ga_Mismatch gg_Mismatch ti_Mismatch kc_Mismatch ex_Mismatch ty_Mismatch hd_Mismatch il_Mismatch ss_Mismatch n_Mismatch_name pg_Table hd_Table po_Table sa_Table mk_Table kc_Table n_Table_rings ic_Table im_Table pg_Caller hd_Caller po_Caller sa_Caller mk_Caller kc_Caller n_Caller_depths n_Caller_table n_Caller_goals n_Caller_strategy n_Caller_used ic_Caller im_Caller pg_Responder hd_Responder po_Responder sa_Responder mk_Responder kc_Responder n_Responder_depths n_Responder_table n_Responder_goals n_Responder_strategy n_Responder_used ic_Responder im_Responder ig_ it_ v_MAX_RINGS v_SMALL v_LAYERS z_abs z_all z_any z_bool z_enumerate z_int z_isinstance z_len z_list z_max z_range z_repr z_sorted z_str z_sum z_tuple z_zip
  exact ⟨T, T.m_law, fun s v => by rw [h2]; exact .of_eq rfl⟩
end CS
open PySem PySem.W PyProof.Rows in
set_option maxRecDepth 100000 in
set_option maxHeartbeats 0 in
theorem PySem.Challenge.cw_calledseats_k35_games_by_lists_holds : PySem.Challenge.rw_calledseats_k35_games_by_lists.Holds := by
  w_on; o_law; k_head; (case hw => w_witness2)
  k_fill
  refine CG.walk_ofG (l := PySem.Challenge.rw_calledseats_k35_games_by_lists) (n := 63) (k := 11) (x := "_law_script") rfl (by decide) rfl ⟨rfl, by decide, by decide⟩ ?F
  case F =>
    intro w mg fa h Y G hmg
    have KX := PySem.W.kIn_of Y
    obtain ⟨T, e1, e2⟩ : ∃ T : CS.TX _ mg, mg "law" = some (.ref T.f_law) ∧ ∀ (s : Shared) (v : Value), BindsTo s T.fd_law ⟨[v], []⟩ [("_law_script", v)] := by
      refine' CS.use_mk KX G ?aC_Mismatch ?aC_Table ?aC_Caller ?aC_Responder ?a0 ?l0 ?c0 ?k0 ?a1 ?i1 ?l1 ?c1 ?k1 ?a2 ?l2 ?c2 ?k2 ?a3 ?l3 ?c3 ?k3 ?a4 ?l4 ?c4 ?k4 ?a5 ?l5 ?c5 ?k5 ?a6 ?i6 ?l6 ?c6 ?k6 ?a7 ?i7 ?l7 ?c7 ?k7 ?a8 ?i8 ?l8 ?c8 ?k8 ?a9 ?i9 ?l9 ?c9 ?k9 ?a10 ?i10 ?l10 ?c10 ?k10 ?a11 ?i11 ?l11 ?c11 ?k11 ?a12 ?i12 ?l12 ?c12 ?k12 ?a13 ?i13 ?l13 ?c13 ?k13 ?a14 ?i14 ?l14 ?c14 ?k14 ?a15 ?i15 ?l15 ?c15 ?k15 ?a16 ?l16 ?c16 ?k16 ?a17 ?l17 ?c17 ?k17 ?a18 ?l18 ?c18 ?k18 ?a19 ?l19 ?c19 ?k19 ?a20 ?l20 ?c20 ?k20 ?a21 ?l21 ?c21 ?k21 ?a22 ?l22 ?c22 ?k22 ?a23 ?l23 ?c23 ?k23 ?a24 ?l24 ?c24 ?k24 ?a25 ?l25 ?c25 ?k25 ?a26 ?l26 ?c26 ?k26 ?a27 ?l27 ?c27 ?k27 ?a28 ?l28 ?c28 ?k28 ?a29 ?l29 ?c29 ?k29 ?a30 ?l30 ?c30 ?k30 ?a31 ?l31 ?c31 ?k31 ?a32 ?l32 ?c32 ?k32 ?a33 ?l33 ?c33 ?k33 ?a34 ?l34 ?c34 ?k34 ?a35 ?l35 ?c35 ?k35 ?a36 ?l36 ?c36 ?k36 ?a37 ?l37 ?c37 ?k37 ?a38 ?i38 ?l38 ?c38 ?k38 ?a39 ?i39 ?l39 ?c39 ?k39 ?a40 ?i40 ?l40 ?c40 ?k40 ?a41 ?i41 ?l41 ?c41 ?k41 ?a42 ?i42 ?l42 ?c42 ?k42 ?a43 ?i43 ?l43 ?c43 ?k43 ?a44 ?i44 ?l44 ?c44 ?k44 ?a45 ?l45 ?c45 ?k45 ?a46 ?l46 ?c46 ?k46 ?a47 ?l47 ?c47 ?k47 ?a48 ?l48 ?c48 ?k48 ?a49 ?l49 ?c49 ?k49 ?a50 ?l50 ?c50 ?k50 ?a51 ?l51 ?c51 ?k51 ?a52 ?l52 ?c52 ?k52 ?a53 ?l53 ?c53 ?k53 ?a54 ?l54 ?c54 ?k54 ?a55 ?l55 ?c55 ?k55 ?a56 ?l56 ?c56 ?k56 ?a57 ?l57 ?c57 ?k57 ?a58 ?l58 ?c58 ?k58 ?a59 ?l59 ?c59 ?k59 ?a60 ?l60 ?c60 ?k60 ?a61 ?l61 ?c61 ?k61 ?a62 ?l62 ?c62 ?k62 ?a63 ?l63 ?c63 ?k63 ?a64 ?l64 ?c64 ?k64 ?a65 ?l65 ?c65 ?k65 ?xl_Mismatch ?sa_Mismatch ?ga_Mismatch ?gg_Mismatch ?ti_Mismatch ?kc_Mismatch ?ex_Mismatch ?ty_Mismatch ?hd_Mismatch ?il_Mismatch ?ss_Mismatch ?n_Mismatch_name ?pg_Table ?hd_Table ?po_Table ?sa_Table ?mk_Table ?kc_Table ?n_Table_rings ?ic_Table ?im_Table ?pg_Caller ?hd_Caller ?po_Caller ?sa_Caller ?mk_Caller ?kc_Caller ?n_Caller_depths ?n_Caller_table ?n_Caller_goals ?n_Caller_strategy ?n_Caller_used ?ic_Caller ?im_Caller ?pg_Responder ?hd_Responder ?po_Responder ?sa_Responder ?mk_Responder ?kc_Responder ?n_Responder_depths ?n_Responder_table ?n_Responder_goals ?n_Responder_strategy ?n_Responder_used ?ic_Responder ?im_Responder ?ig_ ?it_ ?v_MAX_RINGS ?v_SMALL ?v_LAYERS ?z_abs ?z_all ?z_any ?z_bool ?z_enumerate ?z_int ?z_isinstance ?z_len ?z_list ?z_max ?z_range ?z_repr ?z_sorted ?z_str ?z_sum ?z_tuple ?z_zip
      (case aC_Mismatch => k_is)
      (case aC_Table => k_is)
      (case aC_Caller => k_is)
      (case aC_Responder => k_is)
      (case a0 => k_is)
      (case l0 => k_is)
      (case c0 => k_is)
      (case k0 => k_is)
      (case a1 => k_is)
      (case i1 => k_is)
      (case l1 => k_is)
      (case c1 => k_is)
      (case k1 => k_is)
      (case a2 => k_is)
      (case l2 => k_is)
      (case c2 => k_is)
      (case k2 => k_is)
      (case a3 => k_is)
      (case l3 => k_is)
      (case c3 => k_is)
      (case k3 => k_is)
      (case a4 => k_is)
      (case l4 => k_is)
      (case c4 => k_is)
      (case k4 => k_is)
      (case a5 => k_is)
      (case l5 => k_is)
      (case c5 => k_is)
      (case k5 => k_is)
      (case a6 => k_is)
      (case i6 => k_is)
      (case l6 => k_is)
      (case c6 => k_is)
      (case k6 => k_is)
      (case a7 => k_is)
      (case i7 => k_is)
      (case l7 => k_is)
      (case c7 => k_is)
      (case k7 => k_is)
      (case a8 => k_is)
      (case i8 => k_is)
      (case l8 => k_is)
      (case c8 => k_is)
      (case k8 => k_is)
      (case a9 => k_is)
      (case i9 => k_is)
      (case l9 => k_is)
      (case c9 => k_is)
      (case k9 => k_is)
      (case a10 => k_is)
      (case i10 => k_is)
      (case l10 => k_is)
      (case c10 => k_is)
      (case k10 => k_is)
      (case a11 => k_is)
      (case i11 => k_is)
      (case l11 => k_is)
      (case c11 => k_is)
      (case k11 => k_is)
      (case a12 => k_is)
      (case i12 => k_is)
      (case l12 => k_is)
      (case c12 => k_is)
      (case k12 => k_is)
      (case a13 => k_is)
      (case i13 => k_is)
      (case l13 => k_is)
      (case c13 => k_is)
      (case k13 => k_is)
      (case a14 => k_is)
      (case i14 => k_is)
      (case l14 => k_is)
      (case c14 => k_is)
      (case k14 => k_is)
      (case a15 => k_is)
      (case i15 => k_is)
      (case l15 => k_is)
      (case c15 => k_is)
      (case k15 => k_is)
      (case a16 => k_is)
      (case l16 => k_is)
      (case c16 => k_is)
      (case k16 => k_is)
      (case a17 => k_is)
      (case l17 => k_is)
      (case c17 => k_is)
      (case k17 => k_is)
      (case a18 => k_is)
      (case l18 => k_is)
      (case c18 => k_is)
      (case k18 => k_is)
      (case a19 => k_is)
      (case l19 => k_is)
      (case c19 => k_is)
      (case k19 => k_is)
      (case a20 => k_is)
      (case l20 => k_is)
      (case c20 => k_is)
      (case k20 => k_is)
      (case a21 => k_is)
      (case l21 => k_is)
      (case c21 => k_is)
      (case k21 => k_is)
      (case a22 => k_is)
      (case l22 => k_is)
      (case c22 => k_is)
      (case k22 => k_is)
      (case a23 => k_is)
      (case l23 => k_is)
      (case c23 => k_is)
      (case k23 => k_is)
      (case a24 => k_is)
      (case l24 => k_is)
      (case c24 => k_is)
      (case k24 => k_is)
      (case a25 => k_is)
      (case l25 => k_is)
      (case c25 => k_is)
      (case k25 => k_is)
      (case a26 => k_is)
      (case l26 => k_is)
      (case c26 => k_is)
      (case k26 => k_is)
      (case a27 => k_is)
      (case l27 => k_is)
      (case c27 => k_is)
      (case k27 => k_is)
      (case a28 => k_is)
      (case l28 => k_is)
      (case c28 => k_is)
      (case k28 => k_is)
      (case a29 => k_is)
      (case l29 => k_is)
      (case c29 => k_is)
      (case k29 => k_is)
      (case a30 => k_is)
      (case l30 => k_is)
      (case c30 => k_is)
      (case k30 => k_is)
      (case a31 => k_is)
      (case l31 => k_is)
      (case c31 => k_is)
      (case k31 => k_is)
      (case a32 => k_is)
      (case l32 => k_is)
      (case c32 => k_is)
      (case k32 => k_is)
      (case a33 => k_is)
      (case l33 => k_is)
      (case c33 => k_is)
      (case k33 => k_is)
      (case a34 => k_is)
      (case l34 => k_is)
      (case c34 => k_is)
      (case k34 => k_is)
      (case a35 => k_is)
      (case l35 => k_is)
      (case c35 => k_is)
      (case k35 => k_is)
      (case a36 => k_is)
      (case l36 => k_is)
      (case c36 => k_is)
      (case k36 => k_is)
      (case a37 => k_is)
      (case l37 => k_is)
      (case c37 => k_is)
      (case k37 => k_is)
      (case a38 => k_is)
      (case i38 => k_is)
      (case l38 => k_is)
      (case c38 => k_is)
      (case k38 => k_is)
      (case a39 => k_is)
      (case i39 => k_is)
      (case l39 => k_is)
      (case c39 => k_is)
      (case k39 => k_is)
      (case a40 => k_is)
      (case i40 => k_is)
      (case l40 => k_is)
      (case c40 => k_is)
      (case k40 => k_is)
      (case a41 => k_is)
      (case i41 => k_is)
      (case l41 => k_is)
      (case c41 => k_is)
      (case k41 => k_is)
      (case a42 => k_is)
      (case i42 => k_is)
      (case l42 => k_is)
      (case c42 => k_is)
      (case k42 => k_is)
      (case a43 => k_is)
      (case i43 => k_is)
      (case l43 => k_is)
      (case c43 => k_is)
      (case k43 => k_is)
      (case a44 => k_is)
      (case i44 => k_is)
      (case l44 => k_is)
      (case c44 => k_is)
      (case k44 => k_is)
      (case a45 => k_is)
      (case l45 => k_is)
      (case c45 => k_is)
      (case k45 => k_is)
      (case a46 => k_is)
      (case l46 => k_is)
      (case c46 => k_is)
      (case k46 => k_is)
      (case a47 => k_is)
      (case l47 => k_is)
      (case c47 => k_is)
      (case k47 => k_is)
      (case a48 => k_is)
      (case l48 => k_is)
      (case c48 => k_is)
      (case k48 => k_is)
      (case a49 => k_is)
      (case l49 => k_is)
      (case c49 => k_is)
      (case k49 => k_is)
      (case a50 => k_is)
      (case l50 => k_is)
      (case c50 => k_is)
      (case k50 => k_is)
      (case a51 => k_is)
      (case l51 => k_is)
      (case c51 => k_is)
      (case k51 => k_is)
      (case a52 => k_is)
      (case l52 => k_is)
      (case c52 => k_is)
      (case k52 => k_is)
      (case a53 => k_is)
      (case l53 => k_is)
      (case c53 => k_is)
      (case k53 => k_is)
      (case a54 => k_is)
      (case l54 => k_is)
      (case c54 => k_is)
      (case k54 => k_is)
      (case a55 => k_is)
      (case l55 => k_is)
      (case c55 => k_is)
      (case k55 => k_is)
      (case a56 => k_is)
      (case l56 => k_is)
      (case c56 => k_is)
      (case k56 => k_is)
      (case a57 => k_is)
      (case l57 => k_is)
      (case c57 => k_is)
      (case k57 => k_is)
      (case a58 => k_is)
      (case l58 => k_is)
      (case c58 => k_is)
      (case k58 => k_is)
      (case a59 => k_is)
      (case l59 => k_is)
      (case c59 => k_is)
      (case k59 => k_is)
      (case a60 => k_is)
      (case l60 => k_is)
      (case c60 => k_is)
      (case k60 => k_is)
      (case a61 => k_is)
      (case l61 => k_is)
      (case c61 => k_is)
      (case k61 => k_is)
      (case a62 => k_is)
      (case l62 => k_is)
      (case c62 => k_is)
      (case k62 => k_is)
      (case a63 => k_is)
      (case l63 => k_is)
      (case c63 => k_is)
      (case k63 => k_is)
      (case a64 => k_is)
      (case l64 => k_is)
      (case c64 => k_is)
      (case k64 => k_is)
      (case a65 => k_is)
      (case l65 => k_is)
      (case c65 => k_is)
      (case k65 => k_is)
      (case xl_Mismatch => k_is)
      (case sa_Mismatch => k_is)
      (case ga_Mismatch => k_is)
      (case gg_Mismatch => k_is)
      (case ti_Mismatch => k_is)
      (case kc_Mismatch => k_is)
      (case ex_Mismatch => k_is)
      (case ty_Mismatch => k_is)
      (case hd_Mismatch => k_is)
      (case il_Mismatch => k_is)
      (case ss_Mismatch => k_is)
      (case n_Mismatch_name => k_is)
      (case pg_Table => k_is)
      (case hd_Table => k_is)
      (case po_Table => k_is)
      (case sa_Table => k_is)
      (case mk_Table => k_is)
      (case kc_Table => k_is)
      (case n_Table_rings => k_is)
      (case ic_Table => k_is)
      (case im_Table => k_is)
      (case pg_Caller => k_is)
      (case hd_Caller => k_is)
      (case po_Caller => k_is)
      (case sa_Caller => k_is)
      (case mk_Caller => k_is)
      (case kc_Caller => k_is)
      (case n_Caller_depths => k_is)
      (case n_Caller_table => k_is)
      (case n_Caller_goals => k_is)
      (case n_Caller_strategy => k_is)
      (case n_Caller_used => k_is)
      (case ic_Caller => k_is)
      (case im_Caller => k_is)
      (case pg_Responder => k_is)
      (case hd_Responder => k_is)
      (case po_Responder => k_is)
      (case sa_Responder => k_is)
      (case mk_Responder => k_is)
      (case kc_Responder => k_is)
      (case n_Responder_depths => k_is)
      (case n_Responder_table => k_is)
      (case n_Responder_goals => k_is)
      (case n_Responder_strategy => k_is)
      (case n_Responder_used => k_is)
      (case ic_Responder => k_is)
      (case im_Responder => k_is)
      (case ig_ => k_is)
      (case it_ => k_is)
      (case v_MAX_RINGS => k_is)
      (case v_SMALL => k_is)
      (case v_LAYERS => k_is)
      (case z_abs => k_is)
      (case z_all => k_is)
      (case z_any => k_is)
      (case z_bool => k_is)
      (case z_enumerate => k_is)
      (case z_int => k_is)
      (case z_isinstance => k_is)
      (case z_len => k_is)
      (case z_list => k_is)
      (case z_max => k_is)
      (case z_range => k_is)
      (case z_repr => k_is)
      (case z_sorted => k_is)
      (case z_str => k_is)
      (case z_sum => k_is)
      (case z_tuple => k_is)
      (case z_zip => k_is)
    have e := hmg.symm.trans e1
    cases e
    exact ⟨_, T.fd_law, CS.sp_law _, KX, e2, fun H a ns hl _ hS => ⟨a, ns, rfl, hS, hl, fun _ => rfl⟩, fun base _ _ => CS.ok_law T⟩
