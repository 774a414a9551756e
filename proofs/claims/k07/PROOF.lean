import PyProof.Rows.All
import Wide.All
import OpenK.AllK
import Wide.FinOn
import HandS.ForMost
import KE.GoesEnumKw
import KE.KDictZip
import HandS.Flow
import HandS.Wide
import HandS.WideBits
import HandS.IsInst
import HandS.Defaults
import HandS.StrMore
import HandS.Conv
import HandS.Style
import HandS.TupMul
import HandS.SortInts
import HandS.WideMore
import HandS.Codes
import PySem.Challenge.RW_masklanes_k07_one_lane_of_two
set_option Elab.async false
set_option linter.all false
set_option maxRecDepth 100000
set_option maxHeartbeats 4000000
/-! ZS: zip(.., strict=True) of two iterators of any kind. -/
namespace PySem
open Sem (wp)
/-- a zip's record: what it has handed out, whether that was met again, whether it is strict -/
abbrev IsZipS (h : Heap) (z TI TO : Addr) (f0 : Value) (f1 : Bool) : Prop := h.get? z = some { cls := .type "zip", data := .fields #[f0, .bool f1, .bool true, .ref TI, .ref TO] }

section
variable {prog : Program} {w : World} {A : Around} {E : Value → Shared → Prop} {s : Shared}
theorem Draws.itemE {it : Addr} {fp : List Addr} {n i : Nat} {P : Nat → Value → Prop} {St : Nat → Heap → Prop} {Q : Option Value → Shared → Prop} (D : Draws prog w A it fp n P St) (hi : i < n) (st : St i s.heap)
    (hQ : ∀ x h' tk, P i x → St (i + 1) h' → Heap.SameBut it s.heap h' → Q (some x) { s with heap := h', toks := tk }) : wpAny (model prog w) A (Builtin.SmallTypes.nextOrEnd (.ref it)) Q E s := by
  unfold Builtin.SmallTypes.nextOrEnd
  refine wpAny_bind (wpAny_attempt (D.item i s _ _ hi st fun x h' tk p st' sb => ?_))
  exact wpAny_pure (hQ x h' tk p st' sb)
theorem Draws.doneE {it : Addr} {fp : List Addr} {n : Nat} {P : Nat → Value → Prop} {St : Nat → Heap → Prop} {Q : Option Value → Shared → Prop} (D : Draws prog w A it fp n P St) (st : St n s.heap)
    (hQ : ∀ h', Heap.ExtBut it s.heap h' → Q none { s with heap := h' }) : wpAny (model prog w) A (Builtin.SmallTypes.nextOrEnd (.ref it)) Q E s := by
  unfold Builtin.SmallTypes.nextOrEnd
  refine wpAny_bind (wpAny_attempt (D.done s _ _ st fun h' e ex he => ?_))
  obtain ⟨o, ho, hc⟩ := he
  refine wpAny_bind (wpAny_isInstance (T := "StopIteration") (b := true) ⟨o, ho, hc⟩ isSubtype_stop ?_)
  exact wpAny_pure (hQ _ ex)
end

section
variable {prog : Program} {w : World} {A : Around} {E : Value → Shared → Prop} {s : Shared} {z TI TO i1 i2 : Addr} {fp1 fp2 : List Addr} {n i : Nat} {P1 P2 : Nat → Value → Prop} {St1 St2 : Nat → Heap → Prop} {a1 a2 : Value} {f1 : Bool}

theorem free_none {Q : Bool → Shared → Prop} (hz : IsZipS s.heap z TI TO .none f1) (h : Q true s) : wpAny (model prog w) A (Builtin.SmallTypes.ownedTupleIsFree (.ref z)) Q E s := by
  unfold Builtin.SmallTypes.ownedTupleIsFree
  exact wpAny_bind (wpAny_field hz rfl (x := .none) rfl (wpAny_pure h))
theorem look_dead {a : Addr} {Q : Option Obj → Shared → Prop} (ho : s.heap.get? a = none) (h : Q none s) : wpAny (model prog w) A (loadIfAlive a) Q E s := by
  have h' : Q (s.heap.get? a) s := by rw [ho]; exact h
  exact fun _ _ _ => h'
theorem free_dead {T : Addr} {Q : Bool → Shared → Prop} (hz : IsZipS s.heap z TI TO (rawInt T) f1) (hT : s.heap.get? T = none) (h : Q true s) : wpAny (model prog w) A (Builtin.SmallTypes.ownedTupleIsFree (.ref z)) Q E s := by
  unfold Builtin.SmallTypes.ownedTupleIsFree
  refine wpAny_bind (wpAny_field hz rfl (x := rawInt T) rfl ?_)
  show wpAny _ _ (loadIfAlive ((T : Int).toNat) >>= _) _ _ _
  rw [Int.toNat_natCast]
  refine wpAny_bind (look_dead hT ?_)
  simp only [Option.isNone_none, if_true]
  exact wpAny_pure h
/-- the tuple it has handed out is free -/
theorem zipS_next_item {f0 : Value} {Q : Value → Shared → Prop} (hfr : ∀ {E : Value → Shared → Prop} {Q : Bool → Shared → Prop}, Q true s → wpAny (model prog w) A (Builtin.SmallTypes.ownedTupleIsFree (.ref z)) Q E s)
    (S : ZipSep2 z TI TO i1 i2 fp1 fp2) (D1 : Draws prog w A i1 fp1 n P1 St1) (D2 : Draws prog w A i2 fp2 n P2 St2)
    (hz : IsZipS s.heap z TI TO f0 f1) (hTI : IsTupOf2 s.heap TI (.ref i1) (.ref i2)) (hTO : IsTupOf2 s.heap TO a1 a2) (st1 : St1 i s.heap) (st2 : St2 i s.heap) (hlt : i < n)
    (hQ : ∀ x1 x2 h' tk, P1 i x1 → P2 i x2 → IsZipS h' z TI TO (rawInt s.heap.objs.size) false → IsTupOf2 h' TO x1 x2 → St1 (i + 1) h' → St2 (i + 1) h' → IsTupOf2 h' s.heap.objs.size x1 x2 → h'.objs.size = s.heap.objs.size + 1 →
      (∀ c o, c ≠ z → c ≠ TO → c ≠ i1 → c ≠ i2 → s.heap.get? c = some o → h'.get? c = some o) → Q (.ref s.heap.objs.size) { s with heap := h', toks := tk }) :
    wpAny (model prog w) A (Builtin.«zip.__next__» ⟨[.ref z], []⟩) (fun fin s' => ∃ v, fin = .done (.ret v) ∧ Q v s') E s := by
  obtain ⟨hp, g, d, tk0, os⟩ := s
  show wpAny _ _ (field (.ref z) 2 >>= _) _ _ _
  refine wpAny_bind (wpAny_field hz rfl (x := .bool true) rfl ?_)
  show wpAny _ _ (field (.ref z) 3 >>= _) _ _ _
  refine wpAny_bind (wpAny_field hz rfl (x := .ref TI) rfl ?_)
  refine wpAny_bind (wpAny_seqItems hTI rfl ?_)
  show wpAny _ _ (Builtin.SmallTypes.ownedTupleIsFree (.ref z) >>= _) _ _ _
  refine wpAny_bind (hfr ?_)
  simp only [if_true]
  refine wpAny_bind (wpAny_rule ?_)
  refine wpAny_bind (wpAny_field hz rfl (x := .ref TO) rfl ?_)
  refine wpAny_bind (wpAny_setField_rec hz (by simp) fun g0 hz0 hs0 => ?_)
  replace hz0 : IsZipS g0 z TI TO .ellipsis f1 := hz0
  replace hs0 : Heap.SameBut z hp g0 := hs0
  refine wpAny_bind ?_
  simp only [List.zipIdx_cons, List.zipIdx_nil, List.forIn_cons, List.forIn_nil]
  refine wpAny_bind (wpAny_bind (wpAny_onRaise ?_))
  show wpAny _ _ (Builtin.SmallTypes.nextOrEnd (.ref i1)) _ _ ⟨g0, g, d, tk0, os⟩
  refine D1.itemE (i := i) hlt (D1.over st1 hs0 S.zf1) fun x1 p1 tk1 hx1 sn1 hp1 => ?_
  replace hp1 : Heap.SameBut i1 g0 p1 := hp1
  have hU1 : IsTupOf2 p1 TO a1 a2 := hp1.extBut _ _ S.Ti1 (hs0.extBut _ _ S.TOz hTO)
  refine wpAny_bind (wpAny_seqItems (s := ⟨p1, g, d, tk1, os⟩) hU1 rfl ?_)
  refine wpAny_bind (updateSeq_IsTupOf2 (s := ⟨p1, g, d, tk1, os⟩) hU1 fun g1 hT1 hs1 => ?_)
  replace hT1 : IsTupOf2 g1 TO x1 a2 := hT1
  replace hs1 : Heap.SameBut TO p1 g1 := hs1
  refine wpAny_bind (wpAny_letGo (wpAny_pure ?_))
  refine wpAny_bind (wpAny_bind (wpAny_onRaise ?_))
  show wpAny _ _ (Builtin.SmallTypes.nextOrEnd (.ref i2)) _ _ ⟨g1, g, d, tk1, os⟩
  refine D2.itemE (i := i) hlt (D2.over (D2.over (D2.over st2 hs0 S.zf2) hp1 S.sep1_2) hs1 S.Tf2) fun x2 p2 tk2 hx2 sn2 hp2 => ?_
  replace hp2 : Heap.SameBut i2 g1 p2 := hp2
  have hU2 : IsTupOf2 p2 TO x1 a2 := hp2.extBut _ _ S.Ti2 hT1
  refine wpAny_bind (wpAny_seqItems (s := ⟨p2, g, d, tk2, os⟩) hU2 rfl ?_)
  refine wpAny_bind (updateSeq_IsTupOf2 (s := ⟨p2, g, d, tk2, os⟩) hU2 fun g2 hT2 hs2 => ?_)
  replace hT2 : IsTupOf2 g2 TO x1 x2 := hT2
  replace hs2 : Heap.SameBut TO p2 g2 := hs2
  refine wpAny_bind (wpAny_letGo (wpAny_pure (wpAny_pure ?_)))
  refine wpAny_bind (wpAny_seqItems (s := ⟨g2, g, d, tk2, os⟩) hT2 rfl ?_)
  refine wpAny_bind (wpAny_newTuple ?_)
  have hsz : g2.objs.size = hp.objs.size := by rw [hs2.1, hp2.1, hs1.1, hp1.1, hs0.1]
  have hzz : IsZipS g2 z TI TO .ellipsis f1 := (hs2.extBut _ _ S.TOz.symm (hp2.extBut _ _ S.zi2 (hs1.extBut _ _ S.TOz.symm (hp1.extBut _ _ S.zi1 hz0))))
  have hkk : ∀ c o, c ≠ z → c ≠ TO → c ≠ i1 → c ≠ i2 → hp.get? c = some o → g2.get? c = some o := fun c o cz cT c1 c2 e =>
    (hs2.extBut _ _ cT (hp2.extBut _ _ c2 (hs1.extBut _ _ cT (hp1.extBut _ _ c1 (hs0.extBut _ _ cz e)))))
  have hj1 : St1 (i + 1) g2 := (D1.over (D1.over (D1.over sn1 hs1 S.Tf1) hp2 S.sep2_1) hs2 S.Tf1)
  have hj2 : St2 (i + 1) g2 := (D2.over sn2 hs2 S.Tf2)
  have hzlt : z < g2.objs.size := Heap.lt_size hzz
  show wpAny _ _ (Builtin.SmallTypes.ownedTupleHandOut (.ref z) (.ref g2.objs.size) >>= _) _ _ ⟨g2.push { cls := .type "tuple", data := .seq #[x1, x2] }, g, d, tk2, os⟩
  refine wpAny_bind ?_
  unfold Builtin.SmallTypes.ownedTupleHandOut
  have hz6 : IsZipS (g2.push { cls := .type "tuple", data := .seq #[x1, x2] }) z TI TO .ellipsis f1 := Heap.get?_push_of_some _ hzz
  refine wpAny_bind (wpAny_setField_rec hz6 (by simp) fun h7 hz7 hs7 => ?_)
  replace hz7 : IsZipS h7 z TI TO (rawInt g2.objs.size) f1 := hz7
  refine wpAny_setField_rec hz7 (by simp) fun h8 hz8 hs8 => ?_
  replace hz8 : IsZipS h8 z TI TO (rawInt g2.objs.size) false := hz8
  replace hs7 : Heap.SameBut z (g2.push { cls := .type "tuple", data := .seq #[x1, x2] }) h7 := hs7
  replace hs8 : Heap.SameBut z h7 h8 := hs8
  have up : ∀ c o, c ≠ z → g2.get? c = some o → h8.get? c = some o := fun c o c1 e => hs8.extBut _ _ c1 (hs7.extBut _ _ c1 (Heap.get?_push_of_some _ e))
  have hT8 : IsTupOf2 h8 g2.objs.size x1 x2 := hs8.extBut _ _ (Nat.ne_of_gt hzlt) (hs7.extBut _ _ (Nat.ne_of_gt hzlt) (Heap.get?_push_size _ rfl))
  have hz9 : h8.objs.size = g2.objs.size + 1 := by rw [hs8.1, hs7.1, Heap.size_push]
  rw [hsz] at hz8 hT8 hz9
  refine wpAny_pure ⟨_, rfl, ?_⟩
  show Q (.ref g2.objs.size) ⟨h8, g, d, tk2, os⟩
  rw [hsz]
  exact hQ x1 x2 h8 tk2 hx1 hx2 hz8 (up _ _ S.TOz hT2) (D1.frame _ _ _ hj1 fun b hb o e => up b o (fun q => S.zf1 (q ▸ hb)) e) (D2.frame _ _ _ hj2 fun b hb o e => up b o (fun q => S.zf2 (q ▸ hb)) e) hT8 hz9 fun c o cz cT c1 c2 e => up c o cz (hkk c o cz cT c1 c2 e)

theorem zipS_next_end {f0 : Value} {Q : Fin → Shared → Prop} (hh : A.handled = none) (hfr : ∀ {E : Value → Shared → Prop} {Q : Bool → Shared → Prop}, Q true s → wpAny (model prog w) A (Builtin.SmallTypes.ownedTupleIsFree (.ref z)) Q E s)
    (S : ZipSep2 z TI TO i1 i2 fp1 fp2) (D1 : Draws prog w A i1 fp1 n P1 St1) (D2 : Draws prog w A i2 fp2 n P2 St2)
    (hz : IsZipS s.heap z TI TO f0 f1) (hTI : IsTupOf2 s.heap TI (.ref i1) (.ref i2)) (hTO : IsTupOf2 s.heap TO a1 a2) (st1 : St1 n s.heap) (st2 : St2 n s.heap)
    (hE : ∀ h' tk e, (∀ c o, c ≠ z → c ≠ TO → c ≠ i1 → c ≠ i2 → s.heap.get? c = some o → h'.get? c = some o) → (∃ o, h'.get? e = some o ∧ o.cls = .type "StopIteration") → E (.ref e) { s with heap := h', toks := tk }) :
    wpAny (model prog w) A (Builtin.«zip.__next__» ⟨[.ref z], []⟩) Q E s := by
  obtain ⟨hp, g, d, tk0, os⟩ := s
  show wpAny _ _ (field (.ref z) 2 >>= _) _ _ _
  refine wpAny_bind (wpAny_field hz rfl (x := .bool true) rfl ?_)
  show wpAny _ _ (field (.ref z) 3 >>= _) _ _ _
  refine wpAny_bind (wpAny_field hz rfl (x := .ref TI) rfl ?_)
  refine wpAny_bind (wpAny_seqItems hTI rfl ?_)
  show wpAny _ _ (Builtin.SmallTypes.ownedTupleIsFree (.ref z) >>= _) _ _ _
  refine wpAny_bind (hfr ?_)
  simp only [if_true]
  refine wpAny_bind (wpAny_rule ?_)
  refine wpAny_bind (wpAny_field hz rfl (x := .ref TO) rfl ?_)
  refine wpAny_bind (wpAny_setField_rec hz (by simp) fun g0 hz0 hs0 => ?_)
  replace hz0 : IsZipS g0 z TI TO .ellipsis f1 := hz0
  replace hs0 : Heap.SameBut z hp g0 := hs0
  refine wpAny_bind ?_
  simp only [List.zipIdx_cons, List.zipIdx_nil, List.forIn_cons, List.forIn_nil]
  refine wpAny_bind (wpAny_bind (wpAny_onRaise ?_))
  show wpAny _ _ (Builtin.SmallTypes.nextOrEnd (.ref i1)) _ _ ⟨g0, g, d, tk0, os⟩
  refine D1.doneE (D1.over st1 hs0 S.zf1) fun q1 hq1 => ?_
  replace hq1 : Heap.ExtBut i1 g0 q1 := hq1
  have hzq : IsZipS q1 z TI TO .ellipsis f1 := hq1 _ _ S.zi1 hz0
  refine wpAny_bind (wpAny_setField_rec (s := ⟨q1, g, d, tk0, os⟩) hzq (by simp) fun q2 _ hq2 => ?_)
  replace hq2 : Heap.SameBut z q1 q2 := hq2
  have st2' : St2 n q2 := D2.frame _ _ _ st2 fun b hb o e => by
    have bz : b ≠ z := fun q => S.zf2 (q ▸ hb)
    have b1 : b ≠ i1 := fun q => S.sep1_2 (q ▸ hb)
    exact hq2.extBut _ _ bz (hq1 _ _ b1 (hs0.extBut _ _ bz e))
  refine wpAny_bind ?_
  refine wpAny_bind ?_
  simp only [List.drop_succ_cons, List.drop_zero, List.zipIdx_cons, List.zipIdx_nil, List.forIn_cons, List.forIn_nil]
  refine wpAny_bind (wpAny_bind ?_)
  refine D2.doneE st2' fun q3 hq3 => ?_
  replace hq3 : Heap.ExtBut i2 q2 q3 := hq3
  simp only [Option.isSome_none, Bool.false_eq_true, if_false]
  refine wpAny_pure (wpAny_pure ?_)
  refine wpAny_bind (wpAny_rule ?_)
  show wpAny _ _ (newExc (.type "StopIteration") [] >>= _) _ _ _
  refine wpAny_bind ?_
  simp only [newExc, newTuple]
  refine wpAny_bind (wpAny_newObj_type ?_ (by size_fits))
  refine wpAny_bind (m := firstArgMember _ _) (wpAny_of_eq (a := Value.none) (by first | rfl | (simp only [firstArgMember]; rfl)) ?_)
  refine wpAny_newObj_type ?_ (by size_fits)
  simp only [raiseNew]
  refine wpAny_bind (wpAny_handled ?_)
  rw [hh]
  refine wpAny_bind (wpAny_pure (wpAny_throw ?_))
  exact hE _ _ _ (fun c o cz cT c1 c2 e => Heap.get?_push_of_some _ (Heap.get?_push_of_some _ (hq3 _ _ c2 (hq2.extBut _ _ cz (hq1 _ _ c1 (hs0.extBut _ _ cz e)))))) ⟨_, Heap.get?_push_size _ rfl, rfl⟩

theorem tupleHeld_zipS {T : Addr} {f : Bool} {oT : Obj} {Q : Bool → Shared → Prop} (hz : IsZipS s.heap z TI TO (rawInt T) f) (hT : s.heap.get? T = some oT)
    (h : ∀ h', IsZipS h' z TI TO (rawInt T) true → Heap.SameBut z s.heap h' → Q false { s with heap := h' }) : wpAny (model prog w) A (Builtin.SmallTypes.ownedTupleIsFree (.ref z)) Q E s := by
  unfold Builtin.SmallTypes.ownedTupleIsFree
  refine wpAny_bind (wpAny_field hz rfl (x := rawInt T) rfl ?_)
  show wpAny _ _ (loadIfAlive ((T : Int).toNat) >>= _) _ _ _
  rw [Int.toNat_natCast]
  refine wpAny_bind (PySem.W.kdx_alive hT ?_)
  simp only [Option.isNone_some, Bool.false_eq_true, if_false]
  refine wpAny_bind (wpAny_field hz rfl (x := .bool f) rfl ?_)
  cases f with
  | true =>
    rw [if_neg (show ¬ ((Value.bool true != Value.bool true) = true) from Bool.false_ne_true)]
    exact wpAny_pure (h s.heap hz (Heap.SameBut.refl _ _))
  | false =>
    rw [if_pos (show (Value.bool false != Value.bool true) = true from rfl)]
    exact wpAny_bind (wpAny_setField_rec hz (by simp) fun h1 hz1 hs1 => wpAny_pure (h h1 hz1 hs1))

/-- the tuple T that it has handed out is still held -/
theorem zipS_next_itemH {T : Addr} {oT : Obj} {Q : Value → Shared → Prop} (S : ZipSep2 z TI TO i1 i2 fp1 fp2) (D1 : Draws prog w A i1 fp1 n P1 St1) (D2 : Draws prog w A i2 fp2 n P2 St2)
    (hz : IsZipS s.heap z TI TO (rawInt T) f1) (hT : s.heap.get? T = some oT) (hTI : IsTupOf2 s.heap TI (.ref i1) (.ref i2)) (st1 : St1 i s.heap) (st2 : St2 i s.heap) (hlt : i < n)
    (hQ : ∀ x1 x2 h' tk, P1 i x1 → P2 i x2 → IsZipS h' z TI TO (rawInt T) true → St1 (i + 1) h' → St2 (i + 1) h' → IsTupOf2 h' s.heap.objs.size x1 x2 → h'.objs.size = s.heap.objs.size + 1 →
      (∀ c o, c ≠ z → c ≠ i1 → c ≠ i2 → s.heap.get? c = some o → h'.get? c = some o) → Q (.ref s.heap.objs.size) { s with heap := h', toks := tk }) :
    wpAny (model prog w) A (Builtin.«zip.__next__» ⟨[.ref z], []⟩) (fun fin s' => ∃ v, fin = .done (.ret v) ∧ Q v s') E s := by
  obtain ⟨hp, g, d, tk0, os⟩ := s
  show wpAny _ _ (field (.ref z) 2 >>= _) _ _ _
  refine wpAny_bind (wpAny_field hz rfl (x := .bool true) rfl ?_)
  show wpAny _ _ (field (.ref z) 3 >>= _) _ _ _
  refine wpAny_bind (wpAny_field hz rfl (x := .ref TI) rfl ?_)
  refine wpAny_bind (wpAny_seqItems hTI rfl ?_)
  show wpAny _ _ (Builtin.SmallTypes.ownedTupleIsFree (.ref z) >>= _) _ _ _
  refine wpAny_bind (tupleHeld_zipS hz hT fun g0 hz0 hs0 => ?_)
  replace hs0 : Heap.SameBut z hp g0 := hs0
  simp only [Bool.false_eq_true, if_false]
  refine wpAny_bind ?_
  rw [← Array.forIn_toList]
  simp only [List.forIn_cons, List.forIn_nil]
  refine wpAny_bind (wpAny_bind (wpAny_holding ?_))
  show wpAny _ _ (Builtin.SmallTypes.nextOrEnd (.ref i1)) _ _ ⟨g0, g, d, tk0, os⟩
  refine D1.itemE (i := i) hlt (D1.over st1 hs0 S.zf1) fun x1 p1 tk1 hx1 sn1 hp1 => wpAny_pure ?_
  replace hp1 : Heap.SameBut i1 g0 p1 := hp1
  refine wpAny_bind (wpAny_bind (wpAny_holding ?_))
  show wpAny _ _ (Builtin.SmallTypes.nextOrEnd (.ref i2)) _ _ ⟨p1, g, d, tk1, os⟩
  refine D2.itemE (i := i) hlt (D2.over (D2.over st2 hs0 S.zf2) hp1 S.sep1_2) fun x2 p2 tk2 hx2 sn2 hp2 => wpAny_pure (wpAny_pure ?_)
  replace hp2 : Heap.SameBut i2 p1 p2 := hp2
  show wpAny _ _ (newTuple [x1, x2] >>= _) _ _ ⟨p2, g, d, tk2, os⟩
  refine wpAny_bind (wpAny_newTuple ?_)
  have hsz : p2.objs.size = hp.objs.size := by rw [hp2.1, hp1.1, hs0.1]
  have hzz : IsZipS p2 z TI TO (rawInt T) true := hp2.extBut _ _ S.zi2 (hp1.extBut _ _ S.zi1 hz0)
  refine wpAny_pure ⟨_, rfl, ?_⟩
  show Q (.ref p2.objs.size) ⟨p2.push { cls := .type "tuple", data := .seq #[x1, x2] }, g, d, tk2, os⟩
  have hT8 : IsTupOf2 (p2.push { cls := .type "tuple", data := .seq #[x1, x2] }) p2.objs.size x1 x2 := Heap.get?_push_size _ rfl
  have hz9 : (p2.push { cls := .type "tuple", data := .seq #[x1, x2] }).objs.size = p2.objs.size + 1 := Heap.size_push ..
  rw [hsz] at hT8 hz9 ⊢
  exact hQ x1 x2 _ tk2 hx1 hx2 (Heap.get?_push_of_some _ hzz) (D1.frame _ _ _ (D1.over sn1 hp2 S.sep2_1) fun b hb o e => Heap.get?_push_of_some _ e) (D2.frame _ _ _ sn2 fun b hb o e => Heap.get?_push_of_some _ e) hT8 hz9
    fun c o cz c1 c2 e => Heap.get?_push_of_some _ (hp2.extBut _ _ c2 (hp1.extBut _ _ c1 (hs0.extBut _ _ cz e)))
theorem zipS_next_endH {T : Addr} {oT : Obj} {Q : Fin → Shared → Prop} (hh : A.handled = none) (S : ZipSep2 z TI TO i1 i2 fp1 fp2) (D1 : Draws prog w A i1 fp1 n P1 St1) (D2 : Draws prog w A i2 fp2 n P2 St2)
    (hz : IsZipS s.heap z TI TO (rawInt T) f1) (hT : s.heap.get? T = some oT) (hTI : IsTupOf2 s.heap TI (.ref i1) (.ref i2)) (st1 : St1 n s.heap) (st2 : St2 n s.heap)
    (hE : ∀ h' tk e, (∀ c o, c ≠ z → c ≠ TO → c ≠ i1 → c ≠ i2 → s.heap.get? c = some o → h'.get? c = some o) → (∃ o, h'.get? e = some o ∧ o.cls = .type "StopIteration") → E (.ref e) { s with heap := h', toks := tk }) :
    wpAny (model prog w) A (Builtin.«zip.__next__» ⟨[.ref z], []⟩) Q E s := by
  obtain ⟨hp, g, d, tk0, os⟩ := s
  show wpAny _ _ (field (.ref z) 2 >>= _) _ _ _
  refine wpAny_bind (wpAny_field hz rfl (x := .bool true) rfl ?_)
  show wpAny _ _ (field (.ref z) 3 >>= _) _ _ _
  refine wpAny_bind (wpAny_field hz rfl (x := .ref TI) rfl ?_)
  refine wpAny_bind (wpAny_seqItems hTI rfl ?_)
  show wpAny _ _ (Builtin.SmallTypes.ownedTupleIsFree (.ref z) >>= _) _ _ _
  refine wpAny_bind (tupleHeld_zipS hz hT fun g0 hz0 hs0 => ?_)
  replace hs0 : Heap.SameBut z hp g0 := hs0
  simp only [Bool.false_eq_true, if_false]
  refine wpAny_bind ?_
  rw [← Array.forIn_toList]
  simp only [List.forIn_cons, List.forIn_nil]
  refine wpAny_bind (wpAny_bind (wpAny_holding ?_))
  show wpAny _ _ (Builtin.SmallTypes.nextOrEnd (.ref i1)) _ _ ⟨g0, g, d, tk0, os⟩
  refine D1.doneE (D1.over st1 hs0 S.zf1) fun q1 hq1 => ?_
  replace hq1 : Heap.ExtBut i1 g0 q1 := hq1
  have st2' : St2 n q1 := D2.frame _ _ _ st2 fun b hb o e => by
    have bz : b ≠ z := fun q => S.zf2 (q ▸ hb)
    have b1 : b ≠ i1 := fun q => S.sep1_2 (q ▸ hb)
    exact hq1 _ _ b1 (hs0.extBut _ _ bz e)
  refine wpAny_bind ?_
  refine wpAny_bind ?_
  simp only [List.drop_succ_cons, List.drop_zero, List.zipIdx_cons, List.zipIdx_nil, List.forIn_cons, List.forIn_nil]
  refine wpAny_bind (wpAny_bind ?_)
  refine D2.doneE st2' fun q3 hq3 => ?_
  replace hq3 : Heap.ExtBut i2 q1 q3 := hq3
  simp only [Option.isSome_none, Bool.false_eq_true, if_false]
  refine wpAny_pure (wpAny_pure ?_)
  refine wpAny_bind (wpAny_rule ?_)
  show wpAny _ _ (newExc (.type "StopIteration") [] >>= _) _ _ _
  refine wpAny_bind ?_
  simp only [newExc, newTuple]
  refine wpAny_bind (wpAny_newObj_type ?_ (by size_fits))
  refine wpAny_bind (m := firstArgMember _ _) (wpAny_of_eq (a := Value.none) (by first | rfl | (simp only [firstArgMember]; rfl)) ?_)
  refine wpAny_newObj_type ?_ (by size_fits)
  simp only [raiseNew]
  refine wpAny_bind (wpAny_handled ?_)
  rw [hh]
  refine wpAny_bind (wpAny_pure (wpAny_throw ?_))
  exact hE _ _ _ (fun c o cz cT c1 c2 e => Heap.get?_push_of_some _ (Heap.get?_push_of_some _ (hq3 _ _ c2 (hq1 _ _ c1 (hs0.extBut _ _ cz e))))) ⟨_, Heap.get?_push_size _ rfl, rfl⟩
end

/-! ### zip(v1, v2, strict=True) begins -/
namespace F
theorem typeCall_zip_strict (a b c : Value) : checkTypeCall "zip" ⟨[a, b], [(Str.ofString "strict", c)]⟩ = pure () := by kernel_rfl
theorem newCall_zip_strict (a b c : Value) : checkBuiltinCall "zip.__new__" ⟨[.type "zip", a, b], [(Str.ofString "strict", c)]⟩ = pure () := by kernel_rfl
theorem args_object_init_strict (obj a b c : Value) : argsOk "object.__init__" ⟨[obj, a, b], [(Str.ofString "strict", c)]⟩ := by unfold argsOk; kernel_rfl
end F
abbrev gzS2 (h : Heap) (o1 o2 : Obj) : Heap := (gzO2 h o1 o2).push { cls := .type "zip", data := .fields #[.none, .bool false, .bool true, .ref ((h.push o1).push o2).objs.size, .ref (gzT2 h o1 o2).objs.size] }
theorem meets_zip_newS2 {v1 v2 : Value} {o1 o2 : Obj} {H1 H2 : Heap → Prop} (B1 : Begins v1 o1 H1) (B2 : Begins v2 o2 H2) :
    Meets (Builtin.«zip.__new__» ⟨[.type "zip", v1, v2], [(Str.ofString "strict", .bool true)]⟩) (fun _ R s => (H1 s.heap ∧ H2 s.heap) ∧
      R (.ok (.ret (.ref (gzO2 s.heap o1 o2).objs.size))) { s with heap := gzS2 s.heap o1 o2 }) :=
  .of_wp fun prog w A R s h => by
    obtain ⟨hp, g, d, tk, os⟩ := s; obtain ⟨⟨h1, h2⟩, h⟩ := h
    have hsub := sub_zip
    have q1 : ∀ {A' : Around} {E : Value → Shared → Prop} {Q : Value → Shared → Prop}, Q (.ref hp.objs.size) ⟨(hp.push o1), g, d, tk, os⟩ → wpAny (model prog w) A' (pyIter v1) Q E ⟨hp, g, d, tk, os⟩ :=
      fun q => B1.iter prog w _ _ ⟨hp, g, d, tk, os⟩ _ (B1.keeps _ _ h1 fun b o' e => e) q
    have q2 : ∀ {A' : Around} {E : Value → Shared → Prop} {Q : Value → Shared → Prop}, Q (.ref (hp.push o1).objs.size) ⟨((hp.push o1).push o2), g, d, tk, os⟩ → wpAny (model prog w) A' (pyIter v2) Q E ⟨(hp.push o1), g, d, tk, os⟩ :=
      fun q => B2.iter prog w _ _ ⟨(hp.push o1), g, d, tk, os⟩ _ (B2.keeps _ _ h2 fun b o' e => (Heap.get?_push_of_some _ e)) q
    have e1 : (Str.ofString "strict" != ("strict" : Str)) = false := by decide +kernel
    wp_walk using q1, q2
    exact ⟨_, rfl, h⟩
end PySem
namespace PySem
section
variable {M : Model} {A : Around} {E : Value → Shared → Prop} {s : Shared} {env : Env}
theorem callWith_typeKw {pos : Pos} {T : String} {e : Expr} {rest : List Expr} {kws : List Keyword} {Q : Value → Shared → Prop} (hall : (backToKw pos (keywordEach kws env)).all (·.1.isSome) = true)
    (h : wpAny M A (spliced (backTo pos (starEach (e :: rest) env))) (fun vs s₁ => wpAny M A (evalAll ((backToKw pos (keywordEach kws env)).map (·.2)))
      (fun ks s₂ => wpAny M A (call (.type T) vs (((backToKw pos (keywordEach kws env)).filterMap (·.1)).zip ks)) Q E s₂) E s₁) E s)
    (hplain : ((backTo pos (starEach (e :: rest) env)).any (·.1) || (backToKw pos (keywordEach kws env)).any (·.1.isNone)) = false := by rfl) (he : starEach (e :: rest) env = (false, eval e env) :: starEach rest env := by rfl) :
    wpAny M A (callWith pos (.type T) [] (backTo pos (starEach (e :: rest) env)) (backToKw pos (keywordEach kws env))) Q E s := by
  unfold callWith
  refine wpAny_bind (wpAny_holding (PyProof.Rows.evalArgs_kw2 hall (wpAny_mono h (fun vs s₁ h₁ => wpAny_mono h₁ (fun ks s₂ h₂ => wpAny_bind (wpAny_standAt ?_)) fun _ _ x => x) fun _ _ x => x) he))
  simp only [hplain]
  refine wpAny_bind (wpAny_pure ?_)
  exact wpAny_bind (wpAny_mono h₂ (fun r s₂ hr => wpAny_bind (wpAny_holding (wpAny_point (wpAny_pure hr)))) fun _ _ x => x)
end
section
variable {prog : Program} {w : World} {A : Around} {E : Value → Shared → Prop} {s : Shared}
/-- zip of 2, strict: its 5 new cells -/
theorem zip_begins2S {v1 v2 : Value} {o1 o2 : Obj} {H1 H2 : Heap → Prop} {Q : Value → Shared → Prop} (B1 : Begins v1 o1 H1) (B2 : Begins v2 o2 H2) (h1 : H1 s.heap) (h2 : H2 s.heap)
    (h : ∀ h', IsZipS h' (s.heap.objs.size + 4) (s.heap.objs.size + 2) (s.heap.objs.size + 3) .none false → IsTupOf2 h' (s.heap.objs.size + 2) (.ref s.heap.objs.size) (.ref (s.heap.objs.size + 1)) →
      IsTupOf2 h' (s.heap.objs.size + 3) .none .none → h'.get? s.heap.objs.size = some o1 → h'.get? (s.heap.objs.size + 1) = some o2 → h'.objs.size = s.heap.objs.size + 5 →
      (∀ c o, s.heap.get? c = some o → h'.get? c = some o) → Q (.ref (s.heap.objs.size + 4)) { s with heap := h' }) :
    wpAny (model prog w) A (call (.type "zip") [v1, v2] [(Str.ofString "strict", .bool true)]) Q E s := by
  refine callType_newKw F.called_zip (by decide) (F.typeCall_zip_strict _ _ _) (F.newCall_zip_strict _ _ _) (fun obj => F.args_object_init_strict obj _ _ _) F.entry_zip_new
    (meets_zip_newS2 B1 B2) ⟨⟨h1, h2⟩, ?_⟩
  have z1 : (s.heap.push o1).objs.size = s.heap.objs.size + 1 := by rw [Heap.size_push]
  have z2 : ((s.heap.push o1).push o2).objs.size = s.heap.objs.size + 2 := by rw [Heap.size_push, z1]
  have zT : (gzT2 s.heap o1 o2).objs.size = s.heap.objs.size + 3 := by rw [Heap.size_push, z2]
  have zO : (gzO2 s.heap o1 o2).objs.size = s.heap.objs.size + 4 := by rw [Heap.size_push, zT]
  have zZ : (gzS2 s.heap o1 o2).objs.size = s.heap.objs.size + 5 := by rw [Heap.size_push, zO]
  have gZ : (gzS2 s.heap o1 o2).get? (gzO2 s.heap o1 o2).objs.size = some { cls := .type "zip", data := .fields #[.none, .bool false, .bool true, .ref ((s.heap.push o1).push o2).objs.size, .ref (gzT2 s.heap o1 o2).objs.size] } := Heap.get?_push_size _ rfl
  have gO : (gzS2 s.heap o1 o2).get? (gzT2 s.heap o1 o2).objs.size = some { cls := .type "tuple", data := .seq #[.none, .none] } := Heap.get?_push_of_some _ (Heap.get?_push_size _ rfl)
  have gT : (gzS2 s.heap o1 o2).get? ((s.heap.push o1).push o2).objs.size = some { cls := .type "tuple", data := .seq #[.ref s.heap.objs.size, .ref (s.heap.push o1).objs.size] } := Heap.get?_push_of_some _ (Heap.get?_push_of_some _ (Heap.get?_push_size _ rfl))
  have g1 : (gzS2 s.heap o1 o2).get? s.heap.objs.size = some o1 := Heap.get?_push_of_some _ (Heap.get?_push_of_some _ (Heap.get?_push_of_some _ (Heap.get?_push_of_some _ (Heap.get?_push_size _ B1.free))))
  have g2 : (gzS2 s.heap o1 o2).get? (s.heap.push o1).objs.size = some o2 := Heap.get?_push_of_some _ (Heap.get?_push_of_some _ (Heap.get?_push_of_some _ (Heap.get?_push_size _ B2.free)))
  rw [zO, zT, z2] at gZ
  rw [zT] at gO
  rw [z2, z1] at gT
  rw [z1] at g2
  show _ ∧ _
  rw [zO]
  exact ⟨⟨_, gZ, rfl⟩, h _ gZ gT gO g1 g2 zZ fun c o e => Heap.get?_push_of_some _ (Heap.get?_push_of_some _ (Heap.get?_push_of_some _ (Heap.get?_push_of_some _ (Heap.get?_push_of_some _ e))))⟩
theorem pyIter_zipS {z TI TO : Addr} {f0 : Value} {f1 : Bool} {Q : Value → Shared → Prop} (hz : IsZipS s.heap z TI TO f0 f1) (h : Q (.ref z) s) : wpAny (model prog w) A (pyIter (.ref z)) Q E s := by
  have hT : s.TypeIs (.ref z) "zip" := ⟨_, hz, rfl⟩
  refine wpAny_pyIter_slot hT F.slot_zip_iter (wpAny_call_entry F.slot_zip_iter hT F.entry_zip_iter ?_ (F.args_zip_iter_1 _))
  show wpAny _ _ (ret (.ref z)) _ _ s
  exact wpAny_pure ⟨_, rfl, "zip", _, hT, F.slot_zip_next.lookup, h⟩
theorem letGo_zipS {elts : List Expr} {x1} {pos : Pos} {z TI TO T : Addr} {f1 : Bool} {Q : Unit → Shared → Prop} (hz : IsZipS s.heap z TI TO (rawInt T) f1)
    (hQ : ∀ h', IsZipS h' z TI TO .none f1 → Heap.SameBut z s.heap h' → Q () { s with heap := h' }) :
    wpAny (model prog w) A (letOwnedTupleGo (.Tuple elts x1 pos) (.ref z) (.ref T)) Q E s := by
  unfold letOwnedTupleGo
  refine wpAny_bind (wpAny_load hz ?_)
  show wpAny _ _ (if (["enumerate", "zip", "dict_itemiterator", "dict_reverseitemiterator", "odict_iterator", "itertools.zip_longest", "itertools.pairwise"].contains "zip" &&
      (#[rawInt T, .bool f1, .bool true, .ref TI, .ref TO] : Array Value)[0]? == some (rawInt T)) = true then _ else _) Q E s
  rw [if_pos (by simp)]
  refine wpAny_bind (wpAny_rule ?_)
  show wpAny _ _ (setField (.ref z) 0 .none) Q E s
  exact wpAny_setField_rec hz (by simp) fun h' hz' hs' => hQ h' hz' hs'
end
section
variable {prog : Program} {w : World} {A : Around} {E : Value → Shared → Prop} {s : Shared} {z TI TO i1 i2 : Addr} {fp1 fp2 : List Addr} {n i : Nat} {P1 P2 : Nat → Value → Prop} {St1 St2 : Nat → Heap → Prop} {a1 a2 : Value} {f1 : Bool}
theorem pyNext_zipS_item {Q : Option Value → Shared → Prop} (S : ZipSep2 z TI TO i1 i2 fp1 fp2) (D1 : Draws prog w A.in1 i1 fp1 n P1 St1) (D2 : Draws prog w A.in1 i2 fp2 n P2 St2)
    (hz : IsZipS s.heap z TI TO .none f1) (hTI : IsTupOf2 s.heap TI (.ref i1) (.ref i2)) (hTO : IsTupOf2 s.heap TO a1 a2) (st1 : St1 i s.heap) (st2 : St2 i s.heap) (hlt : i < n)
    (hQ : ∀ x1 x2 h' tk, P1 i x1 → P2 i x2 → IsZipS h' z TI TO (rawInt s.heap.objs.size) false → IsTupOf2 h' TO x1 x2 → St1 (i + 1) h' → St2 (i + 1) h' → IsTupOf2 h' s.heap.objs.size x1 x2 → h'.objs.size = s.heap.objs.size + 1 →
      (∀ c o, c ≠ z → c ≠ TO → c ≠ i1 → c ≠ i2 → s.heap.get? c = some o → h'.get? c = some o) → Q (some (.ref s.heap.objs.size)) { s with heap := h', toks := tk }) :
    wpAny (model prog w) A (pyNext (.ref z)) Q E s := by
  have hT : s.TypeIs (.ref z) "zip" := ⟨_, hz, rfl⟩
  unfold pyNext
  exact wpAny_bind (wpAny_attempt (wpAny_callSpecial?_slot (name := Str.ofString "__next__") hT F.slot_zip_next
    (wpAny_call_entry F.slot_zip_next hT F.entry_zip_next
      (zipS_next_item (free_none hz) S D1 D2 hz hTI hTO st1 st2 hlt fun x1 x2 h' tk y1 y2 b1 b2 d1 d2 b5 b6 b7 => wpAny_pure (hQ x1 x2 h' tk y1 y2 b1 b2 d1 d2 b5 b6 b7)) (F.args_zip_next_1 _))))
theorem pyNext_zipS_end {Q : Option Value → Shared → Prop} (hh : A.handled = none) (S : ZipSep2 z TI TO i1 i2 fp1 fp2) (D1 : Draws prog w A.in1 i1 fp1 n P1 St1) (D2 : Draws prog w A.in1 i2 fp2 n P2 St2)
    (hz : IsZipS s.heap z TI TO .none f1) (hTI : IsTupOf2 s.heap TI (.ref i1) (.ref i2)) (hTO : IsTupOf2 s.heap TO a1 a2) (st1 : St1 n s.heap) (st2 : St2 n s.heap)
    (hQ : ∀ h' tk, (∀ c o, c ≠ z → c ≠ TO → c ≠ i1 → c ≠ i2 → s.heap.get? c = some o → h'.get? c = some o) → Q none { s with heap := h', toks := tk }) : wpAny (model prog w) A (pyNext (.ref z)) Q E s := by
  have hT : s.TypeIs (.ref z) "zip" := ⟨_, hz, rfl⟩
  unfold pyNext
  refine wpAny_bind (wpAny_attempt (wpAny_callSpecial?_slot (name := Str.ofString "__next__") hT F.slot_zip_next
    (wpAny_call_entry F.slot_zip_next hT F.entry_zip_next (zipS_next_end (A := A.in1) hh (free_none hz) S D1 D2 hz hTI hTO st1 st2 fun h' tk e hk he => ?_) (F.args_zip_next_1 _))))
  obtain ⟨o, ho, hc⟩ := he
  refine wpAny_bind (wpAny_isInstance (T := "StopIteration") (b := true) ⟨o, ho, hc⟩ isSubtype_stop ?_)
  exact wpAny_pure (hQ _ _ hk)
end
end PySem

namespace MA
open PySem PySem.Spec PyProof.Rows L2

/-! ### sequences: lists, tuples, texts -/
inductive Sk where
  | lst (a : Addr) | tup (a : Addr) | str (z : Str)
def signs (z : Str) : List V := z.cps.toList.map fun c => V.str ⟨#[c]⟩
def Sk.v : Sk → V
  | .lst a => .ref a | .tup a => .ref a | .str z => .str z
def Sk.has (K : PySem.W.Frag) (H : Hp) (xs : List V) : Sk → Prop
  | .lst a => SqL K H a xs | .tup a => SqT K H a xs | .str z => xs = signs z
def Sk.adr : Sk → Option Addr
  | .lst a => some a | .tup a => some a | .str _ => none
def Sk.iter (it : Addr) (i : Nat) (h : Heap) : Sk → Prop
  | .lst a => h.IsListIter it a i | .tup a => h.IsTupleIter it a i | .str z => ∃ t, h.IsStrIter it (strIterType z) z t i
theorem Sk.iter_obj {k : Sk} {it : Addr} {i : Nat} {h : Heap} (x : k.iter it i h) : ∃ o, h.get? it = some o ∧ ∀ v, o.data ≠ .cell v := by
  cases k with
  | lst a => obtain ⟨o, e, _, d⟩ := x; exact ⟨o, e, fun v q => by rw [d] at q; cases q⟩
  | tup a => obtain ⟨o, e, _, d⟩ := x; exact ⟨o, e, fun v q => by rw [d] at q; cases q⟩
  | str z => obtain ⟨t, o, e, _, d⟩ := x; exact ⟨o, e, fun v q => by rw [d] at q; cases q⟩
theorem Sk.iter_at {k : Sk} {it : Addr} {i : Nat} {h h' : Heap} (x : k.iter it i h) (e : ∀ o, h.get? it = some o → h'.get? it = some o) : k.iter it i h' := by
  cases k with
  | lst a => obtain ⟨o, q, r⟩ := x; exact ⟨o, e o q, r⟩
  | tup a => obtain ⟨o, q, r⟩ := x; exact ⟨o, e o q, r⟩
  | str z => obtain ⟨t, o, q, r⟩ := x; exact ⟨t, o, e o q, r⟩
section
variable {X : Cx} {pins : List (Addr × Obj)} {σ : L2.St} {H : Hp} {s : Shared} {A : Around} {k : Sk} {xs : List V}
theorem Sk.draws (I : Inv X pins σ H s) (hh : A.handled = none) (hk : k.has X.K H xs) {it : Addr} {i : Nat} (hne : ∀ a, k.adr = some a → a ≠ it) (hit : k.iter it i s.heap) :
    ∃ (fp : List Addr) (P : Nat → Value → Prop) (St : Nat → Heap → Prop), Draws X.prog X.w A it fp xs.length P St ∧ St i s.heap ∧ it ∈ fp ∧ (∀ b ∈ fp, b = it ∨ k.adr = some b) ∧ (∀ j u, P j u → ∃ y, xs[j]? = some y ∧ RelV y u) ∧
      ∀ j h, St j h → k.iter it j h := by
  cases k with
  | lst a =>
    obtain ⟨its, rv, p, hz⟩ := I.list hk
    have D := Draws.list (prog := X.prog) (w := X.w) hh it a (hne a rfl) its.toArray
    have e : its.toArray.size = xs.length := by rw [List.size_toArray, rv.length]
    rw [e] at D
    refine ⟨_, _, _, D, ⟨hit, p.isList⟩, by simp, fun b hb => ?_, fun j u hu => ?_, fun j h st => st.1⟩
    · have e' : b = it ∨ b = a := by simpa using hb
      exact e'.imp id fun q => by rw [q]; rfl
    · have hu' : its[j]? = some u := by simpa using hu
      cases q : xs[j]? with
      | none => rw [rv.none_of q] at hu'; cases hu'
      | some y =>
        obtain ⟨u2, e2, r2⟩ := rv.get q
        rw [e2] at hu'; cases hu'
        exact ⟨y, rfl, r2⟩
  | tup a =>
    obtain ⟨its, rv, p, hz⟩ := I.tuple hk
    have D := Draws.tuple (prog := X.prog) (w := X.w) hh it a (hne a rfl) its.toArray
    have e : its.toArray.size = xs.length := by rw [List.size_toArray, rv.length]
    rw [e] at D
    refine ⟨_, _, _, D, ⟨hit, p⟩, by simp, fun b hb => ?_, fun j u hu => ?_, fun j h st => st.1⟩
    · have e' : b = it ∨ b = a := by simpa using hb
      exact e'.imp id fun q => by rw [q]; rfl
    · have hu' : its[j]? = some u := by simpa using hu
      cases q : xs[j]? with
      | none => rw [rv.none_of q] at hu'; cases hu'
      | some y =>
        obtain ⟨u2, e2, r2⟩ := rv.get q
        rw [e2] at hu'; cases hu'
        exact ⟨y, rfl, r2⟩
  | str z =>
    cases hk
    obtain ⟨t, hit⟩ := hit
    have D := Draws.text (prog := X.prog) (w := X.w) hh it z t
    have e : z.cps.size = (signs z).length := by simp [signs]
    rw [e] at D
    refine ⟨_, _, _, D, hit, by simp, fun b hb => ?_, fun j u hu => ?_, fun j h st => ⟨t, st⟩⟩
    · have e' : b = it := by simpa using hb
      exact .inl e'
    · obtain ⟨c, u2, hc, rfl⟩ := hu
      refine ⟨.str ⟨#[c]⟩, ?_, _, rfl⟩
      have hc' : z.cps.toList[j]? = some c := by simpa using hc
      simp only [signs, List.getElem?_map, hc', Option.map_some]
theorem Sk.begins (I : Inv X pins σ H s) (hk : k.has X.K H xs) {u : Value} (r : RelV k.v u) :
    ∃ (o : Obj) (Hc : Heap → Prop), Begins u o Hc ∧ Hc s.heap ∧ (∀ it h, h.get? it = some o → k.iter it 0 h) ∧ ∀ a, k.adr = some a → a < s.heap.objs.size := by
  cases k with
  | lst a =>
    cases (show u = Value.ref a from r)
    obtain ⟨its, rv, p, hz⟩ := I.list hk
    exact ⟨_, _, begins_list a its.toArray, p.isList, fun it h e => ⟨_, e, rfl, rfl⟩, fun b e => by cases e; exact p.lt⟩
  | tup a =>
    cases (show u = Value.ref a from r)
    obtain ⟨its, rv, p, hz⟩ := I.tuple hk
    exact ⟨_, _, begins_tuple a its.toArray, p, fun it h e => ⟨_, e, rfl, rfl⟩, fun b e => by cases e; exact p.lt⟩
  | str z =>
    obtain ⟨t, rfl⟩ := (show ∃ t, u = Value.str z t from r)
    exact ⟨_, _, begins_text z t, trivial, fun it h e => ⟨t, _, e, rfl, rfl⟩, fun b e => by cases e⟩
end

/-! ### zip(a, b, strict=True) -/
/-- n turns, G holding all along, Y telling what a turn brings -/
def Itg (G : Hp → Prop) (n : Nat) (Y : Nat → Hp → V → Hp → Prop) : It := ⟨fun i H => G H ∧ i < n, Y, fun i H => G H ∧ n ≤ i⟩
def yPair (xs ys : List V) : Nat → Hp → V → Hp → Prop := fun i H v H' => ∃ T x y, v = .ref T ∧ H T = none ∧ H' = upd H T (.tup [x, y]) ∧ xs[i]? = some x ∧ ys[i]? = some y
def ItZ (K : PySem.W.Frag) (k1 k2 : Sk) (xs ys : List V) : It := Itg (fun H => k1.has K H xs ∧ k2.has K H ys) xs.length (yPair xs ys)
/-- the cells of a zip, made at N -/
theorem sepN {N : Nat} {k1 k2 : Sk} (h1 : ∀ a, k1.adr = some a → a < N) (h2 : ∀ a, k2.adr = some a → a < N) {fp1 fp2 : List Addr} (m1 : N ∈ fp1) (m2 : (N + 1) ∈ fp2) (f1 : ∀ b ∈ fp1, b = N ∨ k1.adr = some b) (f2 : ∀ b ∈ fp2, b = N + 1 ∨ k2.adr = some b) :
    ZipSep2 (N + 4) (N + 2) (N + 3) N (N + 1) fp1 fp2 := by
  have g1 : ∀ b ∈ fp1, @Eq Nat b N ∨ @LT.lt Nat _ b N := fun b hb => (f1 b hb).imp id (h1 b)
  have g2 : ∀ b ∈ fp2, @Eq Nat b (N + 1) ∨ @LT.lt Nat _ b N := fun b hb => (f2 b hb).imp id (h2 b)
  have ne : ∀ {a b : Nat}, a ≠ b → @Ne Addr a b := fun h => h
  refine ⟨ne (by omega), ne (by omega), ne (by omega), ne (by omega), m1, fun q => ?_, fun q => ?_, ne (by omega), m2, fun q => ?_, fun q => ?_, fun q => ?_, fun q => ?_⟩
  · have := g1 _ q; omega
  · have := g1 _ q; omega
  · have := g2 _ q; omega
  · have := g2 _ q; omega
  · have := g2 _ q; omega
  · have := g1 _ q; omega
theorem turn_zipS {P : Program} {w : World} {K : PySem.W.Frag} {elts : List Expr} {kk : Nat} {tpos : Pos} {N : Nat} {k1 k2 : Sk} {xs ys : List V} (hl : xs.length = ys.length) (h1 : ∀ a, k1.adr = some a → a < N) (h2 : ∀ a, k2.adr = some a → a < N) :
    Turn P w K (.Tuple elts kk tpos) (ItZ K k1 k2 xs ys) [N + 4, N + 2, N + 3, N, N + 1] (N + 4)
      (fun i h => i ≤ xs.length ∧ (∃ f, IsZipS h (N + 4) (N + 2) (N + 3) .none f) ∧ IsTupOf2 h (N + 2) (.ref N) (.ref (N + 1)) ∧ (∃ x y, IsTupOf2 h (N + 3) x y) ∧ k1.iter N i h ∧ k2.iter (N + 1) i h) where
  mem := by simp
  obj := fun i h st c hc => by
    obtain ⟨_, ⟨f, hz⟩, hTI, ⟨x, y, hTO⟩, q1, q2⟩ := st
    have e' : c = N + 4 ∨ c = N + 2 ∨ c = N + 3 ∨ c = N ∨ c = N + 1 := by simpa using hc
    rcases e' with q | q | q | q | q
    · rw [q]; exact ⟨_, hz, fun v q => nomatch q⟩
    · rw [q]; exact ⟨_, hTI, fun v q => nomatch q⟩
    · rw [q]; exact ⟨_, hTO, fun v q => nomatch q⟩
    · rw [q]; exact Sk.iter_obj q1
    · rw [q]; exact Sk.iter_obj q2
  keep := fun i h h' st k => by
    obtain ⟨hi, ⟨f, hz⟩, hTI, ⟨x, y, hTO⟩, q1, q2⟩ := st
    exact ⟨hi, ⟨f, k _ (by simp) _ hz⟩, k _ (by simp) _ hTI, ⟨x, y, k _ (by simp) _ hTO⟩, Sk.iter_at q1 fun o q => k _ (by simp) o q, Sk.iter_at q2 fun o q => k _ (by simp) o q⟩
  item := by
    intro X hP hw hK hc i pins s σ H E I hf st hg
    subst hP hw hK
    obtain ⟨hi, ⟨f, hz⟩, hTI, ⟨x0, y0, hTO⟩, q1, q2⟩ := st
    obtain ⟨⟨g1, g2⟩, hlt⟩ := hg
    have hh : X.A.in1.handled = none := I.ok.hd hc
    obtain ⟨fp1, P1, St1, D1, s1, m1, b1, r1, t1⟩ := Sk.draws (A := X.A.in1) I hh g1 (fun a e => Nat.ne_of_lt (h1 a e)) q1
    obtain ⟨fp2, P2, St2, D2, s2, m2, b2, r2, t2⟩ := Sk.draws (A := X.A.in1) I hh g2 (fun a e => Nat.ne_of_lt (Nat.lt_succ_of_lt (h2 a e))) q2
    rw [← hl] at D2
    have S := sepN h1 h2 m1 m2 b1 b2
    have hzl : N + 4 < s.heap.objs.size := Heap.lt_size hz
    refine pyNext_zipS_item S D1 D2 hz hTI hTO s1 s2 hlt fun u1 u2 h' tk p1 p2 z' TO' h1' h2' hT hsz hk => ?_
    obtain ⟨x, hx, rx⟩ := r1 i u1 p1
    obtain ⟨y, hy, ry⟩ := r2 i u2 p2
    refine ⟨_, rfl, letGo_zipS (s := { s with heap := h', toks := tk }) z' fun h'' z'' sb => ?_⟩
    have hT2 : h''.get? s.heap.objs.size = some { cls := .type "tuple", data := .seq #[u1, u2] } := (sb.2 _ (Nat.ne_of_gt hzl)).trans hT
    have new : ObjOk X.prog X.w (upd H s.heap.objs.size (.tup [x, y])) h'' s.heap.objs.size (.tup [x, y]) :=
      ⟨by show 2 ≤ sizeLine; decide, [u1, u2], .cons rx (.cons ry .nil), ⟨_, hT2, rfl, _, rfl⟩⟩
    have I1 : Inv X pins σ (upd H s.heap.objs.size (.tup [x, y])) { s with heap := h'', toks := tk } :=
      I.turnedNew (t' := tk) (ch := [N + 4, N + 2, N + 3, N, N + 1]) (fun c o hb q => (sb.2 c (fun q' => hb (by simp [q']))).trans (hk c o (fun q' => hb (by simp [q'])) (fun q' => hb (by simp [q'])) (fun q' => hb (by simp [q'])) (fun q' => hb (by simp [q'])) q)) hf (Nat.le_refl _) new
    refine ⟨.ref s.heap.objs.size, _, I1, rfl, ⟨_, x, y, rfl, I.hok.fresh (Nat.le_refl _), rfl, hx, hy⟩, ⟨hlt, ⟨_, z''⟩, ?_, ⟨u1, u2, ?_⟩, ?_, ?_⟩, fun c hcm => ?_⟩
    · exact (sb.2 _ S.TIz).trans (hk _ _ S.TIz S.TITO S.TIi1 S.TIi2 hTI)
    · exact (sb.2 _ S.TOz).trans TO'
    · exact Sk.iter_at (t1 _ _ h1') fun o q => (sb.2 _ S.zi1.symm).trans q
    · exact Sk.iter_at (t2 _ _ h2') fun o q => (sb.2 _ S.zi2.symm).trans q
    · have e' : c = N + 4 ∨ c = N + 2 ∨ c = N + 3 ∨ c = N ∨ c = N + 1 := by simpa using hcm
      have hlt : @LT.lt Nat _ c s.heap.objs.size := by rcases e' with q | q | q | q | q <;> (rw [q]; omega)
      rw [upd_ne (Nat.ne_of_lt hlt)]
      exact (hf c hcm).1
  done := by
    intro X hP hw hK hc i pins s σ H E I hf st hg
    subst hP hw hK
    obtain ⟨hi, ⟨f, hz⟩, hTI, ⟨x0, y0, hTO⟩, q1, q2⟩ := st
    obtain ⟨⟨g1, g2⟩, hge⟩ := hg
    have ei : i = xs.length := Nat.le_antisymm hi hge
    subst ei
    have hh : X.A.in1.handled = none := I.ok.hd hc
    obtain ⟨fp1, P1, St1, D1, s1, m1, b1, r1, t1⟩ := Sk.draws (A := X.A.in1) I hh g1 (fun a e => Nat.ne_of_lt (h1 a e)) q1
    obtain ⟨fp2, P2, St2, D2, s2, m2, b2, r2, t2⟩ := Sk.draws (A := X.A.in1) I hh g2 (fun a e => Nat.ne_of_lt (Nat.lt_succ_of_lt (h2 a e))) q2
    rw [← hl] at D2
    have S := sepN h1 h2 m1 m2 b1 b2
    exact pyNext_zipS_end (I.ok.hd hc) S D1 D2 hz hTI hTO s1 s2 fun h' tk hk => ⟨rfl, I.turnedL (t' := tk) (ch := [N + 4, N + 2, N + 3, N, N + 1]) (fun c o hb q =>
      hk c o (fun q' => hb (by simp [q'])) (fun q' => hb (by simp [q'])) (fun q' => hb (by simp [q'])) (fun q' => hb (by simp [q'])) q) hf⟩
  self := fun A i s Q E st h => by
    obtain ⟨_, ⟨f, hz⟩, _⟩ := st
    exact pyIter_zipS hz h
/-- zip(a, b, strict=True), both of one length -/
def iZipS (K : PySem.W.Frag) (ta tk : TA) : TI := fun σ H R => ta σ H fun vs H1 => tk σ H1 fun zs H2 => ∃ (k1 k2 : Sk) (xs ys : List V), vs = [k1.v, k2.v] ∧ zs = [.bl true] ∧ k1.has K H2 xs ∧ k2.has K H2 ys ∧ xs.length = ys.length ∧ R (ItZ K k1 k2 xs ys) H2
theorem pi_zipS {X : Cx} {e e2 : Expr} {kws : List Keyword} {ta tk : TA} {p pos tpos : Pos} {elts : List Expr} {kk : Nat} (hg : Gl X "zip") (hm : X.mg "zip" = none) (ha : PA X [e, e2] ta) (hkw : PK X kws tk)
    (hall : (backToKw pos (keywordEach kws X.env)).all (·.1.isSome) = true := by rfl) (hks : (backToKw pos (keywordEach kws X.env)).filterMap (·.1) = [Str.ofString "strict"] := by rfl)
    (he : starEach [e, e2] X.env = (false, eval e X.env) :: starEach [e2] X.env := by rfl)
    (hpl : ((backTo pos (starEach [e, e2] X.env)).any (·.1) || (backToKw pos (keywordEach kws X.env)).any (·.1.isNone)) = false := by rfl) :
    PI X (.Tuple elts kk tpos) (.Call (.Name "zip" p) [e, e2] kws pos) (iZipS X.K ta tk) := by
  refine ⟨fun pins s σ H R I h => ?_⟩
  refine wpAny_Call_Name_kw (ld_blt I hg hm PyProof.Rows.boot_zip ?_)
  refine callWith_typeKw hall (thn (ha.run pos pins s σ H _ I h) fun us s1 ⟨vs, H1, I1, r1, q1⟩ => thn (hkw.run pos pins s1 σ H1 _ I1 q1) fun ws s2 ⟨zs, H2, I2, r2, q2⟩ => ?_) hpl he
  obtain ⟨k1, k2, xs, ys, rfl, rfl, g1, g2, hl, q⟩ := q2
  rw [hks]
  cases r1 with
  | cons ra rr =>
    cases rr with
    | cons rb rr =>
      cases rr
      cases r2 with
      | cons rc rr =>
        cases rr
        cases rc
        obtain ⟨o1, Hc1, B1, c1, i1, l1⟩ := Sk.begins I2 g1 ra
        obtain ⟨o2, Hc2, B2, c2, i2, l2⟩ := Sk.begins I2 g2 rb
        refine zip_begins2S B1 B2 c1 c2 fun h' hz hTI hTO h1 h2 hsz hk => pyIter_zipS hz ?_
        have I3 : Inv X pins σ H2 { s2 with heap := h' } := I2.kept (t' := s2.toks) hk
        refine ⟨s2.heap.objs.size + 4, [s2.heap.objs.size + 4, s2.heap.objs.size + 2, s2.heap.objs.size + 3, s2.heap.objs.size, s2.heap.objs.size + 1], _, _, H2, rfl, I3, turn_zipS hl l1 l2, ⟨Nat.zero_le _, ⟨_, hz⟩, hTI, ⟨_, _, hTO⟩, i1 _ _ h1, i2 _ _ h2⟩, fun c hcm => ?_, q⟩
        have e' : c = s2.heap.objs.size + 4 ∨ c = s2.heap.objs.size + 2 ∨ c = s2.heap.objs.size + 3 ∨ c = s2.heap.objs.size ∨ c = s2.heap.objs.size + 1 := by simpa using hcm
        have hle : @LE.le Nat _ s2.heap.objs.size c := by rcases e' with q | q | q | q | q <;> (rw [q]; omega)
        exact I2.fpOk hle (I2.hok.fresh hle)
end MA
namespace PySem
/-- iter(v) is the object at it, in the heap nh -/
structure Beg (v : Value) (H : Heap → Prop) (it : Heap → Addr) (nh : Heap → Heap) : Prop where
  iter : ∀ (prog : Program) (w : World) (A : Around) (E : Value → Shared → Prop) (s : Shared) (Q : Value → Shared → Prop), H s.heap → Q (.ref (it s.heap)) { s with heap := nh s.heap } → wpAny (model prog w) A (pyIter v) Q E s
theorem meets_enumerate_newG {v : Value} {H : Heap → Prop} {it : Heap → Addr} {nh : Heap → Heap} (B : Beg v H it nh) :
    Meets (Builtin.«enumerate.__new__» ⟨[.type "enumerate", v], []⟩) (fun _ R s => H s.heap ∧
      R (.ok (.ret (.ref (nh s.heap).objs.size))) { s with heap := (nh s.heap).push { cls := .type "enumerate", data := .fields #[.none, .bool false, .ref (it s.heap), rawInt 0, .none, .none] } }) :=
  .of_wp fun prog w A R s h => by
    obtain ⟨hp, g, d, tk, os⟩ := s; obtain ⟨h1, h⟩ := h
    have hsub := sub_enumerate
    have q1 : ∀ {A' : Around} {E : Value → Shared → Prop} {Q : Value → Shared → Prop}, Q (.ref (it hp)) ⟨nh hp, g, d, tk, os⟩ → wpAny (model prog w) A' (pyIter v) Q E ⟨hp, g, d, tk, os⟩ :=
      fun q => B.iter prog w _ _ ⟨hp, g, d, tk, os⟩ _ h1 q
    wp_walk using q1
    refine wpAny_stack_any fun st => wpAny_pure ?_
    split
    · rename_i c _ _ _ _ _
      cases (c == Value.type "enumerate")
      · wp_walk using q1
        exact ⟨_, rfl, h⟩
      · wp_walk using q1
        exact ⟨_, rfl, h⟩
    · wp_walk using q1
      exact ⟨_, rfl, h⟩
section
variable {prog : Program} {w : World} {A : Around} {E : Value → Shared → Prop} {s : Shared}
theorem enum_beg {v : Value} {H : Heap → Prop} {it : Heap → Addr} {nh : Heap → Heap} {Q : Value → Shared → Prop} (B : Beg v H it nh) (h1 : H s.heap)
    (h : ∀ h', IsEnum h' (nh s.heap).objs.size (it s.heap) 0 .none → h'.objs.size = (nh s.heap).objs.size + 1 →
      (∀ b o, (nh s.heap).get? b = some o → h'.get? b = some o) → Q (.ref (nh s.heap).objs.size) { s with heap := h' }) :
    wpAny (model prog w) A (call (.type "enumerate") [v]) Q E s := by
  refine callType_new F.called_enumerate (by decide) (F.typeCall_enumerate_1 _) (F.newCall_enumerate_1 _) (fun obj => F.args_object_init_2 obj _) F.entry_enumerate_new
    (meets_enumerate_newG B) ⟨h1, ?_⟩
  have he : IsEnum ((nh s.heap).push { cls := .type "enumerate", data := .fields #[.none, .bool false, .ref (it s.heap), rawInt 0, .none, .none] }) (nh s.heap).objs.size (it s.heap) 0 .none := Heap.get?_push_size _ rfl
  exact ⟨⟨_, he, rfl⟩, h _ he (Heap.size_push ..) fun b o x => Heap.get?_push_of_some _ x⟩

/-- one turn of enumerate, whatever it walks: what the inner next leaves, and then the enumerate's own cells -/
theorem enumerate_next_itemG {e it : Addr} {i : Nat} {old : Value} {Q : Value → Shared → Prop} (he : IsEnum s.heap e it i old)
    (hin : wpAny (model prog w) A (Builtin.SmallTypes.nextOf (.ref it)) (fun x s1 => ∃ h1 tk, s1 = { s with heap := h1, toks := tk } ∧ IsEnum h1 e it i old ∧
      ∀ h', IsEnumOut h' e it ((i : Int) + 1) x h1.objs.size → h'.get? h1.objs.size = some { cls := .type "tuple", data := .seq #[.int i tk, x] } → h'.objs.size = h1.objs.size + 1 →
        (∀ b o, b ≠ e → h1.get? b = some o → h'.get? b = some o) → Q (.ref h1.objs.size) { s with heap := h', toks := tk + 1 }) E s) :
    wpAny (model prog w) A (Builtin.«enumerate.__next__» ⟨[.ref e], []⟩) (fun fin s' => ∃ v, fin = .done (.ret v) ∧ Q v s') E s := by
  obtain ⟨hp, g, d, tk0, os⟩ := s
  show wpAny _ _ (field (.ref e) 2 >>= _) _ _ _
  refine wpAny_bind (wpAny_field he rfl (x := .ref it) rfl ?_)
  refine wpAny_bind (wpAny_mono hin (fun x s1 h1 => ?_) fun _ _ q => q)
  obtain ⟨h1, tk, rfl, he1, hQ⟩ := h1
  show wpAny _ _ (field (.ref e) 3 >>= _) _ _ ⟨h1, g, d, tk, os⟩
  refine wpAny_bind (wpAny_field he1 rfl (x := rawInt i) rfl ?_)
  show wpAny _ _ (field (.ref e) 4 >>= _) _ _ ⟨h1, g, d, tk, os⟩
  refine wpAny_bind (wpAny_field he1 rfl (x := .none) rfl ?_)
  show wpAny _ _ (mkInt i >>= _) _ _ ⟨h1, g, d, tk, os⟩
  refine wpAny_bind (wpAny_mkInt ?_)
  show wpAny _ _ (setField (.ref e) 3 (rawInt ((i : Int) + 1)) >>= _) _ _ ⟨h1, g, d, tk + 1, os⟩
  refine wpAny_bind (wpAny_setField_rec he1 (by simp) fun h2 he2 hs2 => ?_)
  replace hs2 : Heap.SameBut e h1 h2 := hs2
  replace he2 : IsEnum h2 e it ((i : Int) + 1) old := he2
  show wpAny _ _ (setField (.ref e) 4 .none >>= _) _ _ ⟨h2, g, d, tk + 1, os⟩
  refine wpAny_bind (wpAny_setField_rec he2 (by simp) fun h3 he3 hs3 => ?_)
  replace hs3 : Heap.SameBut e h2 h3 := hs3
  replace he3 : IsEnum h3 e it ((i : Int) + 1) old := he3
  show wpAny _ _ (newTuple [.int i tk, x] >>= _) _ _ ⟨h3, g, d, tk + 1, os⟩
  refine wpAny_bind (wpAny_newTuple ?_)
  have he4 : IsEnum (h3.push { cls := .type "tuple", data := .seq #[.int i tk, x] }) e it ((i : Int) + 1) old := Heap.get?_push_of_some _ he3
  generalize hh4 : h3.push { cls := .type "tuple", data := .seq #[.int i tk, x] } = h4 at he4
  have hsz : h3.objs.size = h1.objs.size := by rw [hs3.1, hs2.1]
  have hel : e < h1.objs.size := Heap.lt_size he1
  have ht4 : h4.get? h1.objs.size = some { cls := .type "tuple", data := .seq #[.int i tk, x] } := by rw [← hh4, ← hsz]; exact Heap.get?_push_size _ rfl
  have hz4 : h4.objs.size = h1.objs.size + 1 := by rw [← hh4, Heap.size_push, hsz]
  have hk4 : ∀ b o, b ≠ e → h1.get? b = some o → h4.get? b = some o := fun b o hbe hb => by
    rw [← hh4]; exact Heap.get?_push_of_some _ (hs3.extBut b o hbe (hs2.extBut b o hbe hb))
  show wpAny _ _ (Builtin.SmallTypes.ownedTupleIsFree (.ref e) >>= _) _ _ ⟨h4, g, d, tk + 1, os⟩
  rw [hsz]
  refine wpAny_bind ?_
  unfold Builtin.SmallTypes.ownedTupleIsFree
  refine wpAny_bind (wpAny_field he4 rfl (x := .none) rfl (wpAny_pure ?_))
  simp only [if_true]
  refine wpAny_bind (wpAny_rule ?_)
  refine wpAny_bind (wpAny_field he4 rfl (x := old) rfl ?_)
  refine wpAny_bind (wpAny_setField_rec he4 (by simp) fun h5 he5 hs5 => ?_)
  replace hs5 : Heap.SameBut e h4 h5 := hs5
  replace he5 : IsEnum h5 e it ((i : Int) + 1) x := he5
  show wpAny _ _ (Builtin.SmallTypes.ownedTupleHandOut (.ref e) (.ref h1.objs.size) >>= _) _ _ ⟨h5, g, d, tk + 1, os⟩
  refine wpAny_bind ?_
  unfold Builtin.SmallTypes.ownedTupleHandOut
  refine wpAny_bind (wpAny_setField_rec he5 (by simp) fun h6 he6 hs6 => ?_)
  replace hs6 : Heap.SameBut e h5 h6 := hs6
  replace he6 : IsEnumOut h6 e it ((i : Int) + 1) x h1.objs.size := he6
  refine wpAny_setField_rec he6 (by simp) fun h7 he7 hs7 => ?_
  replace hs7 : Heap.SameBut e h6 h7 := hs7
  replace he7 : IsEnumOut h7 e it ((i : Int) + 1) x h1.objs.size := he7
  refine wpAny_bind (wpAny_letGo (wpAny_pure ⟨_, rfl, hQ h7 he7 ?_ ?_ ?_⟩))
  · exact hs7.extBut _ _ (Nat.ne_of_gt hel) (hs6.extBut _ _ (Nat.ne_of_gt hel) (hs5.extBut _ _ (Nat.ne_of_gt hel) ht4))
  · rw [hs7.1, hs6.1, hs5.1, hz4]
  · exact fun b o hbe hb => hs7.extBut b o hbe (hs6.extBut b o hbe (hs5.extBut b o hbe (hk4 b o hbe hb)))
theorem pyNext_enum_itemG {e it : Addr} {i : Nat} {old : Value} {Q : Option Value → Shared → Prop} (he : IsEnum s.heap e it i old)
    (hin : wpAny (model prog w) A.in1 (Builtin.SmallTypes.nextOf (.ref it)) (fun x s1 => ∃ h1 tk, s1 = { s with heap := h1, toks := tk } ∧ IsEnum h1 e it i old ∧
      ∀ h', IsEnumOut h' e it ((i : Int) + 1) x h1.objs.size → h'.get? h1.objs.size = some { cls := .type "tuple", data := .seq #[.int i tk, x] } → h'.objs.size = h1.objs.size + 1 →
        (∀ b o, b ≠ e → h1.get? b = some o → h'.get? b = some o) → Q (some (.ref h1.objs.size)) { s with heap := h', toks := tk + 1 }) (fun _ _ => False) s) :
    wpAny (model prog w) A (pyNext (.ref e)) Q E s := by
  have hT : s.TypeIs (.ref e) "enumerate" := ⟨_, he, rfl⟩
  unfold pyNext
  refine wpAny_bind (wpAny_attempt (wpAny_callSpecial?_slot (name := Str.ofString "__next__") hT F.slot_enumerate_next
    (wpAny_call_entry F.slot_enumerate_next hT F.entry_enumerate_next
      (enumerate_next_itemG he (wpAny_mono hin (fun x s1 h1 => ?_) fun _ _ q => q.elim)) (F.args_enumerate_next_1 _))))
  obtain ⟨h1, tk, e1, e2, q⟩ := h1
  exact ⟨h1, tk, e1, e2, fun h' a b c d => wpAny_pure (q h' a b c d)⟩
theorem pyNext_enum_endG {e it : Addr} {i : Int} {old : Value} {Q : Option Value → Shared → Prop} (he : IsEnum s.heap e it i old)
    (hin : wpAny (model prog w) A.in1 (Builtin.SmallTypes.nextOf (.ref it)) (fun _ _ => False) (fun x s1 => (∃ a o, x = .ref a ∧ s1.heap.get? a = some o ∧ o.cls = .type "StopIteration") ∧ Q none s1) s) :
    wpAny (model prog w) A (pyNext (.ref e)) Q E s := by
  have hT : s.TypeIs (.ref e) "enumerate" := ⟨_, he, rfl⟩
  unfold pyNext
  refine wpAny_bind (wpAny_attempt (wpAny_callSpecial?_slot (name := Str.ofString "__next__") hT F.slot_enumerate_next
    (wpAny_call_entry F.slot_enumerate_next hT F.entry_enumerate_next ?_ (F.args_enumerate_next_1 _))))
  show wpAny _ _ (field (.ref e) 2 >>= _) _ _ _
  refine wpAny_bind (wpAny_field he rfl (x := .ref it) rfl ?_)
  refine wpAny_bind (wpAny_mono hin (fun _ _ q => q.elim) fun x s1 q => ?_)
  obtain ⟨⟨a, o, rfl, ho, hc⟩, q⟩ := q
  refine wpAny_bind (wpAny_isInstance (T := "StopIteration") (b := true) ⟨o, ho, hc⟩ isSubtype_stop ?_)
  exact wpAny_pure q
end
end PySem

namespace MA
open PySem PySem.Spec PyProof.Rows L2
/-! ### enumerate(a sequence) -/
def yEnum (xs : List V) : Nat → Hp → V → Hp → Prop := fun i H v H' => ∃ T x, v = .ref T ∧ H T = none ∧ H' = upd H T (.tup [.int (i : Nat), x]) ∧ xs[i]? = some x
def ItE (K : PySem.W.Frag) (k : Sk) (xs : List V) : It := Itg (fun H => k.has K H xs) xs.length (yEnum xs)
theorem turn_enumS {P : Program} {w : World} {K : PySem.W.Frag} {elts : List Expr} {kk : Nat} {tpos : Pos} {N : Nat} {k : Sk} {xs : List V} (h1 : ∀ a, k.adr = some a → a < N) :
    Turn P w K (.Tuple elts kk tpos) (ItE K k xs) [N + 1, N] (N + 1) (fun i h => i ≤ xs.length ∧ (∃ old, IsEnum h (N + 1) N ((i : Nat) : Int) old) ∧ k.iter N i h) where
  mem := by simp
  obj := fun i h st c hc => by
    obtain ⟨_, ⟨old, he⟩, q1⟩ := st
    have e' : c = N + 1 ∨ c = N := by simpa using hc
    rcases e' with q | q
    · rw [q]; exact ⟨_, he, fun v q => nomatch q⟩
    · rw [q]; exact Sk.iter_obj q1
  keep := fun i h h' st k => by
    obtain ⟨hi, ⟨old, he⟩, q1⟩ := st
    exact ⟨hi, ⟨old, k _ (by simp) _ he⟩, Sk.iter_at q1 fun o q => k _ (by simp) o q⟩
  item := by
    intro X hP hw hK hc i pins s σ H E I hf st hg
    subst hP hw hK
    obtain ⟨hi, ⟨old, he⟩, q1⟩ := st
    obtain ⟨g1, hlt⟩ := hg
    have hh : X.A.in1.handled = none := I.ok.hd hc
    obtain ⟨fp1, P1, St1, D1, s1, m1, b1, r1, t1⟩ := Sk.draws (A := X.A.in1) I hh g1 (fun a e => Nat.ne_of_lt (h1 a e)) q1
    have hel : N + 1 < s.heap.objs.size := Heap.lt_size he
    refine pyNext_enum_itemG he (D1.item i s _ _ hlt s1 fun u h2 tk p1 st1 sb => ⟨h2, tk, rfl, (sb.2 _ (Nat.succ_ne_self _)).trans he, fun h' ho hT hsz hk => ?_⟩)
    obtain ⟨x, hx, rx⟩ := r1 i u p1
    have hz2 : h2.objs.size = s.heap.objs.size := sb.1
    rw [hz2] at ho hT hsz ⊢
    refine ⟨_, rfl, wpAny_letOwnedTupleGo_enum (s := { s with heap := h', toks := tk + 1 }) ho fun h'' he' sb' => ?_⟩
    have hT2 : h''.get? s.heap.objs.size = some { cls := .type "tuple", data := .seq #[.int i tk, u] } := (sb'.2 _ (Nat.ne_of_gt hel)).trans hT
    have new : ObjOk X.prog X.w (upd H s.heap.objs.size (.tup [.int (i : Nat), x])) h'' s.heap.objs.size (.tup [.int (i : Nat), x]) :=
      ⟨by show 2 ≤ sizeLine; decide, [.int i tk, u], .cons ⟨_, rfl⟩ (.cons rx .nil), ⟨_, hT2, rfl, _, rfl⟩⟩
    have I1 : Inv X pins σ (upd H s.heap.objs.size (.tup [.int (i : Nat), x])) { s with heap := h'', toks := tk + 1 } :=
      I.turnedNew (ch := [N + 1, N]) (fun b ob hb q => (sb'.2 b (fun z => hb (by simp [z]))).trans (hk b ob (fun z => hb (by simp [z])) ((sb.2 b (fun z => hb (by simp [z]))).trans q))) hf (Nat.le_refl _) new
    refine ⟨.ref s.heap.objs.size, _, I1, rfl, ⟨_, x, rfl, I.hok.fresh (Nat.le_refl _), rfl, hx⟩, ⟨hlt, ⟨u, ?_⟩, Sk.iter_at (t1 _ _ st1) fun o q => (sb'.2 _ (Nat.ne_of_lt (Nat.lt_succ_self _))).trans (hk _ _ (Nat.ne_of_lt (Nat.lt_succ_self _)) q)⟩, fun b hb => ?_⟩
    · have e1 : ((i + 1 : Nat) : Int) = (i : Int) + 1 := by omega
      rw [e1]; exact he'
    · have e' : b = N + 1 ∨ b = N := by simpa using hb
      have hb' : @LT.lt Nat _ b s.heap.objs.size := by rcases e' with q | q <;> (rw [q]; omega)
      rw [upd_ne (Nat.ne_of_lt hb')]
      exact (hf b hb).1
  done := by
    intro X hP hw hK hc i pins s σ H E I hf st hg
    subst hP hw hK
    obtain ⟨hi, ⟨old, he⟩, q1⟩ := st
    obtain ⟨g1, hge⟩ := hg
    have ei : i = xs.length := Nat.le_antisymm hi hge
    subst ei
    have hh : X.A.in1.handled = none := I.ok.hd hc
    obtain ⟨fp1, P1, St1, D1, s1, m1, b1, r1, t1⟩ := Sk.draws (A := X.A.in1) I hh g1 (fun a e => Nat.ne_of_lt (h1 a e)) q1
    refine pyNext_enum_endG he (D1.done s _ _ s1 fun h' ev ex he' => ?_)
    obtain ⟨o, ho, hcl⟩ := he'
    exact ⟨⟨ev, o, rfl, ho, hcl⟩, rfl, I.turnedL (t' := s.toks) (ch := [N + 1, N]) (fun c ob hb q => ex c ob (fun q' => hb (by simp [q'])) q) hf⟩
  self := fun A i s Q E st h => by
    obtain ⟨_, ⟨_, he⟩, _⟩ := st
    exact wpAny_pyIter_enum he h
theorem beg_of {v : Value} {o : Obj} {H : Heap → Prop} (B : Begins v o H) : Beg v H (fun h => h.objs.size) (fun h => h.push o) := ⟨fun prog w A E s Q h q => B.iter prog w A E s Q h q⟩
def iEnumS (K : PySem.W.Frag) (ta : TA) : TI := fun σ H R => ta σ H fun vs H1 => ∃ (k : Sk) (xs : List V), vs = [k.v] ∧ k.has K H1 xs ∧ R (ItE K k xs) H1
theorem pi_enumS {X : Cx} {e : Expr} {ta : TA} {p pos tpos : Pos} {elts : List Expr} {kk : Nat} (hg : Gl X "enumerate") (hm : X.mg "enumerate" = none) (ha : PA X [e] ta) (hs : starEach [e] X.env = [(false, eval e X.env)] := by rfl) :
    PI X (.Tuple elts kk tpos) (.Call (.Name "enumerate" p) [e] [] pos) (iEnumS X.K ta) := by
  refine ⟨fun pins s σ H R I h => ?_⟩
  refine Call_ (ld_blt I hg hm boot_enumerate (PyProof.Rows.callWith_type1 (thn (ha.run pos pins s σ H _ I h) fun us s1 ⟨vs, H1, I1, r1, q1⟩ => ?_) hs rfl))
  obtain ⟨k, xs, rfl, g1, q⟩ := q1
  cases r1 with
  | cons r rr =>
    cases rr
    obtain ⟨o1, Hc1, B1, c1, i1, l1⟩ := Sk.begins I1 g1 r
    refine enum_beg (beg_of B1) c1 fun h' he hsz hk => ?_
    have ez : (s1.heap.push o1).objs.size = s1.heap.objs.size + 1 := Heap.size_push ..
    simp only [ez] at he hsz ⊢
    refine wpAny_pyIter_enum (s := { s1 with heap := h' }) he ?_
    have hkk : ∀ b u, s1.heap.get? b = some u → h'.get? b = some u := fun b o x => hk b o (Heap.get?_push_of_some _ x)
    have I2 : Inv X pins σ H1 { s1 with heap := h' } := I1.kept (t' := s1.toks) hkk
    refine ⟨s1.heap.objs.size + 1, [s1.heap.objs.size + 1, s1.heap.objs.size], _, _, H1, rfl, I2, turn_enumS l1, ⟨Nat.zero_le _, ⟨.none, he⟩, i1 _ _ (hk _ _ (Heap.get?_push_size _ B1.free))⟩, fun b hb => ?_, q⟩
    have e' : b = s1.heap.objs.size + 1 ∨ b = s1.heap.objs.size := by simpa using hb
    have hle : @LE.le Nat _ s1.heap.objs.size b := by rcases e' with q | q <;> (rw [q]; omega)
    exact I1.fpOk hle (I1.hok.fresh hle)
end MA
namespace PySem
section
variable {prog : Program} {w : World} {A : Around} {E : Value → Shared → Prop} {s : Shared} {z TI TO i1 i2 : Addr} {fp1 fp2 : List Addr} {n i : Nat} {P1 P2 : Nat → Value → Prop} {St1 St2 : Nat → Heap → Prop} {a1 a2 f0 : Value} {f1 : Bool}
abbrev OutOr (f0 : Value) : Prop := f0 = .none ∨ ∃ T : Addr, f0 = rawInt T
theorem nextOf_zipS_item {Q : Value → Shared → Prop} (S : ZipSep2 z TI TO i1 i2 fp1 fp2) (D1 : Draws prog w A.in1 i1 fp1 n P1 St1) (D2 : Draws prog w A.in1 i2 fp2 n P2 St2)
    (hz : IsZipS s.heap z TI TO f0 f1) (hf : OutOr f0) (hTI : IsTupOf2 s.heap TI (.ref i1) (.ref i2)) (hTO : IsTupOf2 s.heap TO a1 a2) (st1 : St1 i s.heap) (st2 : St2 i s.heap) (hlt : i < n)
    (hQ : ∀ x1 x2 h' tk, P1 i x1 → P2 i x2 → (∃ f0 f1, OutOr f0 ∧ IsZipS h' z TI TO f0 f1) → (∃ b1 b2, IsTupOf2 h' TO b1 b2) → St1 (i + 1) h' → St2 (i + 1) h' → IsTupOf2 h' s.heap.objs.size x1 x2 → h'.objs.size = s.heap.objs.size + 1 →
      (∀ c o, c ≠ z → c ≠ TO → c ≠ i1 → c ≠ i2 → s.heap.get? c = some o → h'.get? c = some o) → Q (.ref s.heap.objs.size) { s with heap := h', toks := tk }) :
    wpAny (model prog w) A (Builtin.SmallTypes.nextOf (.ref z)) Q E s := by
  have hT : s.TypeIs (.ref z) "zip" := ⟨_, hz, rfl⟩
  have free : (∀ {E : Value → Shared → Prop} {Q : Bool → Shared → Prop}, Q true s → wpAny (model prog w) A.in1 (Builtin.SmallTypes.ownedTupleIsFree (.ref z)) Q E s) → wpAny (model prog w) A (Builtin.SmallTypes.nextOf (.ref z)) Q E s := fun hfr => by
    unfold Builtin.SmallTypes.nextOf
    exact wpAny_bind (wpAny_callSpecial?_slot (name := Str.ofString "__next__") hT F.slot_zip_next
      (wpAny_call_entry F.slot_zip_next hT F.entry_zip_next
        (zipS_next_item hfr S D1 D2 hz hTI hTO st1 st2 hlt fun x1 x2 h' tk y1 y2 b1 b2 d1 d2 b5 b6 b7 => wpAny_pure (hQ x1 x2 h' tk y1 y2 ⟨_, _, .inr ⟨_, rfl⟩, b1⟩ ⟨_, _, b2⟩ d1 d2 b5 b6 b7)) (F.args_zip_next_1 _)))
  rcases hf with rfl | ⟨T, rfl⟩
  · exact free (free_none hz)
  · cases hx : s.heap.get? T with
    | none => exact free (free_dead hz hx)
    | some oT =>
      unfold Builtin.SmallTypes.nextOf
      exact wpAny_bind (wpAny_callSpecial?_slot (name := Str.ofString "__next__") hT F.slot_zip_next
        (wpAny_call_entry F.slot_zip_next hT F.entry_zip_next
          (zipS_next_itemH S D1 D2 hz hx hTI st1 st2 hlt fun x1 x2 h' tk y1 y2 b1 d1 d2 b5 b6 b7 => wpAny_pure (hQ x1 x2 h' tk y1 y2 ⟨_, _, .inr ⟨_, rfl⟩, b1⟩ ⟨_, _, b7 _ _ S.TOz S.Ti1 S.Ti2 hTO⟩ d1 d2 b5 b6 (fun c o c1 c2 c3 c4 e => b7 c o c1 c3 c4 e))) (F.args_zip_next_1 _)))
theorem nextOf_zipS_end {Q : Value → Shared → Prop} (hh : A.handled = none) (S : ZipSep2 z TI TO i1 i2 fp1 fp2) (D1 : Draws prog w A.in1 i1 fp1 n P1 St1) (D2 : Draws prog w A.in1 i2 fp2 n P2 St2)
    (hz : IsZipS s.heap z TI TO f0 f1) (hf : OutOr f0) (hTI : IsTupOf2 s.heap TI (.ref i1) (.ref i2)) (hTO : IsTupOf2 s.heap TO a1 a2) (st1 : St1 n s.heap) (st2 : St2 n s.heap)
    (hE : ∀ h' tk e, (∀ c o, c ≠ z → c ≠ TO → c ≠ i1 → c ≠ i2 → s.heap.get? c = some o → h'.get? c = some o) → (∃ o, h'.get? e = some o ∧ o.cls = .type "StopIteration") → E (.ref e) { s with heap := h', toks := tk }) :
    wpAny (model prog w) A (Builtin.SmallTypes.nextOf (.ref z)) Q E s := by
  have hT : s.TypeIs (.ref z) "zip" := ⟨_, hz, rfl⟩
  have free : (∀ {E : Value → Shared → Prop} {Q : Bool → Shared → Prop}, Q true s → wpAny (model prog w) A.in1 (Builtin.SmallTypes.ownedTupleIsFree (.ref z)) Q E s) → wpAny (model prog w) A (Builtin.SmallTypes.nextOf (.ref z)) Q E s := fun hfr => by
    unfold Builtin.SmallTypes.nextOf
    exact wpAny_bind (wpAny_callSpecial?_slot (name := Str.ofString "__next__") hT F.slot_zip_next
      (wpAny_call_entry F.slot_zip_next hT F.entry_zip_next (zipS_next_end (A := A.in1) hh hfr S D1 D2 hz hTI hTO st1 st2 hE) (F.args_zip_next_1 _)))
  rcases hf with rfl | ⟨T, rfl⟩
  · exact free (free_none hz)
  · cases hx : s.heap.get? T with
    | none => exact free (free_dead hz hx)
    | some oT =>
      unfold Builtin.SmallTypes.nextOf
      exact wpAny_bind (wpAny_callSpecial?_slot (name := Str.ofString "__next__") hT F.slot_zip_next
        (wpAny_call_entry F.slot_zip_next hT F.entry_zip_next (zipS_next_endH (A := A.in1) hh S D1 D2 hz hx hTI st1 st2 hE) (F.args_zip_next_1 _)))
end
end PySem

namespace MA
open PySem PySem.Spec PyProof.Rows L2
def yEnumZip (xs ys : List V) : Nat → Hp → V → Hp → Prop := fun i H v H' => ∃ T T2 x y, v = .ref T2 ∧ H T = none ∧ upd H T (.tup [x, y]) T2 = none ∧ H' = upd (upd H T (.tup [x, y])) T2 (.tup [.int (i : Nat), .ref T]) ∧ xs[i]? = some x ∧ ys[i]? = some y
def ItEZ (K : PySem.W.Frag) (k1 k2 : Sk) (xs ys : List V) : It := Itg (fun H => k1.has K H xs ∧ k2.has K H ys) xs.length (yEnumZip xs ys)
theorem turn_enumZipS {P : Program} {w : World} {K : PySem.W.Frag} {elts : List Expr} {kk : Nat} {tpos : Pos} {N : Nat} {k1 k2 : Sk} {xs ys : List V} (hl : xs.length = ys.length) (h1 : ∀ a, k1.adr = some a → a < N) (h2 : ∀ a, k2.adr = some a → a < N) :
    Turn P w K (.Tuple elts kk tpos) (ItEZ K k1 k2 xs ys) [N + 5, N + 4, N + 2, N + 3, N, N + 1] (N + 5)
      (fun i h => i ≤ xs.length ∧ (∃ old, IsEnum h (N + 5) (N + 4) ((i : Nat) : Int) old) ∧ (∃ f0 f1, OutOr f0 ∧ IsZipS h (N + 4) (N + 2) (N + 3) f0 f1) ∧ IsTupOf2 h (N + 2) (.ref N) (.ref (N + 1)) ∧ (∃ x y, IsTupOf2 h (N + 3) x y) ∧ k1.iter N i h ∧ k2.iter (N + 1) i h) where
  mem := by simp
  obj := fun i h st c hc => by
    obtain ⟨_, ⟨old, he⟩, ⟨f0, f1, _, hz⟩, hTI, ⟨x, y, hTO⟩, q1, q2⟩ := st
    have e' : c = N + 5 ∨ c = N + 4 ∨ c = N + 2 ∨ c = N + 3 ∨ c = N ∨ c = N + 1 := by simpa using hc
    rcases e' with q | q | q | q | q | q
    · rw [q]; exact ⟨_, he, fun v q => nomatch q⟩
    · rw [q]; exact ⟨_, hz, fun v q => nomatch q⟩
    · rw [q]; exact ⟨_, hTI, fun v q => nomatch q⟩
    · rw [q]; exact ⟨_, hTO, fun v q => nomatch q⟩
    · rw [q]; exact Sk.iter_obj q1
    · rw [q]; exact Sk.iter_obj q2
  keep := fun i h h' st k => by
    obtain ⟨hi, ⟨old, he⟩, ⟨f0, f1, o0, hz⟩, hTI, ⟨x, y, hTO⟩, q1, q2⟩ := st
    exact ⟨hi, ⟨old, k _ (by simp) _ he⟩, ⟨f0, f1, o0, k _ (by simp) _ hz⟩, k _ (by simp) _ hTI, ⟨x, y, k _ (by simp) _ hTO⟩, Sk.iter_at q1 fun o q => k _ (by simp) o q, Sk.iter_at q2 fun o q => k _ (by simp) o q⟩
  item := by
    intro X hP hw hK hc i pins s σ H E I hf st hg
    subst hP hw hK
    obtain ⟨hi, ⟨old, he⟩, ⟨f0, f1, o0, hz⟩, hTI, ⟨x0, y0, hTO⟩, q1, q2⟩ := st
    obtain ⟨⟨g1, g2⟩, hlt⟩ := hg
    have hh : X.A.in1.in1.handled = none := I.ok.hd hc
    obtain ⟨fp1, P1, St1, D1, s1, m1, b1, r1, t1⟩ := Sk.draws (A := X.A.in1.in1) I hh g1 (fun a e => Nat.ne_of_lt (h1 a e)) q1
    obtain ⟨fp2, P2, St2, D2, s2, m2, b2, r2, t2⟩ := Sk.draws (A := X.A.in1.in1) I hh g2 (fun a e => Nat.ne_of_lt (Nat.lt_succ_of_lt (h2 a e))) q2
    rw [← hl] at D2
    have S := sepN h1 h2 m1 m2 b1 b2
    have hel : N + 5 < s.heap.objs.size := Heap.lt_size he
    have ne : ∀ {a b : Nat}, a ≠ b → @Ne Addr a b := fun h => h
    refine pyNext_enum_itemG he (nextOf_zipS_item S D1 D2 hz o0 hTI hTO s1 s2 hlt fun u1 u2 h2' tk p1 p2 z' TO' h1' hj2 hTz hszz hkz => ⟨h2', tk, rfl, hkz _ _ (ne (by omega)) (ne (by omega)) (ne (by omega)) (ne (by omega)) he, fun h' ho hT hsz hk => ?_⟩)
    obtain ⟨x, hx, rx⟩ := r1 i u1 p1
    obtain ⟨y, hy, ry⟩ := r2 i u2 p2
    rw [hszz] at ho hT hsz ⊢
    refine ⟨_, rfl, wpAny_letOwnedTupleGo_enum (s := { s with heap := h', toks := tk + 1 }) ho fun h'' he' sb' => ?_⟩
    -- the zip's tuple
    have newz : ObjOk X.prog X.w (upd H s.heap.objs.size (.tup [x, y])) h2' s.heap.objs.size (.tup [x, y]) :=
      ⟨by show 2 ≤ sizeLine; decide, [u1, u2], .cons rx (.cons ry .nil), ⟨_, hTz, rfl, _, rfl⟩⟩
    have I1 : Inv X pins σ (upd H s.heap.objs.size (.tup [x, y])) { s with heap := h2', toks := tk } :=
      I.turnedNew (t' := tk) (ch := [N + 4, N + 3, N, N + 1]) (fun c o hb q => hkz c o (fun q' => hb (by simp [q'])) (fun q' => hb (by simp [q'])) (fun q' => hb (by simp [q'])) (fun q' => hb (by simp [q'])) q)
        (fun b hb => hf b (by have e' : b = N + 4 ∨ b = N + 3 ∨ b = N ∨ b = N + 1 := by simpa using hb
                              rcases e' with q | q | q | q <;> (rw [q]; simp))) (Nat.le_refl _) newz
    -- the enumerate's
    have hT2 : h''.get? (s.heap.objs.size + 1) = some { cls := .type "tuple", data := .seq #[.int i tk, .ref s.heap.objs.size] } := (sb'.2 _ (ne (by omega))).trans hT
    have new2 : ObjOk X.prog X.w (upd (upd H s.heap.objs.size (.tup [x, y])) (s.heap.objs.size + 1) (.tup [.int (i : Nat), .ref s.heap.objs.size])) h'' (s.heap.objs.size + 1) (.tup [.int (i : Nat), .ref s.heap.objs.size]) :=
      ⟨by show 2 ≤ sizeLine; decide, [.int i tk, .ref s.heap.objs.size], .cons ⟨_, rfl⟩ (.cons rfl .nil), ⟨_, hT2, rfl, _, rfl⟩⟩
    have I2 : Inv X pins σ (upd (upd H s.heap.objs.size (.tup [x, y])) (s.heap.objs.size + 1) (.tup [.int (i : Nat), .ref s.heap.objs.size])) { s with heap := h'', toks := tk + 1 } :=
      I1.turnedNew (t' := tk + 1) (ch := [N + 5]) (fun c o hb q => (sb'.2 c (fun z => hb (by simp [z]))).trans (hk c o (fun z => hb (by simp [z])) q))
        (fun b hb => by
          have e' : b = N + 5 := by simpa using hb
          subst e'
          obtain ⟨f0', rest⟩ := hf (N + 5) (by simp)
          exact ⟨by rw [upd_ne (ne (by omega))]; exact f0', rest⟩) (by show h2'.objs.size ≤ s.heap.objs.size + 1; rw [hszz]; exact Nat.le_refl _) new2
    have kp : ∀ c o, c ≠ N + 5 → h2'.get? c = some o → h''.get? c = some o := fun c o c1 q => (sb'.2 c c1).trans (hk c o c1 q)
    have fr2 : upd H s.heap.objs.size (.tup [x, y]) (s.heap.objs.size + 1) = none := by
      have hk1 : HOk X.prog X.w (upd H s.heap.objs.size (.tup [x, y])) h2' := I1.hok
      exact hk1.fresh (Nat.le_of_eq hszz)
    obtain ⟨f0', f1', o0', hz'⟩ := z'
    obtain ⟨b1', b2', hTO'⟩ := TO'
    refine ⟨.ref (s.heap.objs.size + 1), _, I2, rfl, ⟨_, _, x, y, rfl, I.hok.fresh (Nat.le_refl _), fr2, rfl, hx, hy⟩, ⟨hlt, ⟨.ref s.heap.objs.size, ?_⟩, ⟨f0', f1', o0', kp _ _ (ne (by omega)) hz'⟩, kp _ _ (ne (by omega)) (hkz _ _ S.TIz S.TITO S.TIi1 S.TIi2 hTI), ⟨_, _, kp _ _ (ne (by omega)) hTO'⟩,
      Sk.iter_at (t1 _ _ h1') fun o q => kp _ _ (ne (by omega)) q, Sk.iter_at (t2 _ _ hj2) fun o q => kp _ _ (ne (by omega)) q⟩, fun c hcm => ?_⟩
    · have e1 : ((i + 1 : Nat) : Int) = (i : Int) + 1 := by omega
      rw [e1]; exact he'
    · have e' : c = N + 5 ∨ c = N + 4 ∨ c = N + 2 ∨ c = N + 3 ∨ c = N ∨ c = N + 1 := by simpa using hcm
      have hlt : @LT.lt Nat _ c s.heap.objs.size := by rcases e' with q | q | q | q | q | q <;> (rw [q]; omega)
      rw [upd_ne (ne (by omega)), upd_ne (ne (by omega))]
      exact (hf c hcm).1
  done := by
    intro X hP hw hK hc i pins s σ H E I hf st hg
    subst hP hw hK
    obtain ⟨hi, ⟨old, he⟩, ⟨f0, f1, o0, hz⟩, hTI, ⟨x0, y0, hTO⟩, q1, q2⟩ := st
    obtain ⟨⟨g1, g2⟩, hge⟩ := hg
    have ei : i = xs.length := Nat.le_antisymm hi hge
    subst ei
    have hh : X.A.in1.in1.handled = none := I.ok.hd hc
    obtain ⟨fp1, P1, St1, D1, s1, m1, b1, r1, t1⟩ := Sk.draws (A := X.A.in1.in1) I hh g1 (fun a e => Nat.ne_of_lt (h1 a e)) q1
    obtain ⟨fp2, P2, St2, D2, s2, m2, b2, r2, t2⟩ := Sk.draws (A := X.A.in1.in1) I hh g2 (fun a e => Nat.ne_of_lt (Nat.lt_succ_of_lt (h2 a e))) q2
    rw [← hl] at D2
    have S := sepN h1 h2 m1 m2 b1 b2
    refine pyNext_enum_endG he (nextOf_zipS_end (A := X.A.in1) (I.ok.hd hc) S D1 D2 hz o0 hTI hTO s1 s2 fun h' tk ev hk he' => ?_)
    obtain ⟨o, ho, hcl⟩ := he'
    exact ⟨⟨ev, o, rfl, ho, hcl⟩, rfl, I.turnedL (t' := tk) (ch := [N + 5, N + 4, N + 2, N + 3, N, N + 1]) (fun c o hb q =>
      hk c o (fun q' => hb (by simp [q'])) (fun q' => hb (by simp [q'])) (fun q' => hb (by simp [q'])) (fun q' => hb (by simp [q'])) q) hf⟩
  self := fun A i s Q E st h => by
    obtain ⟨_, ⟨_, he⟩, _⟩ := st
    exact wpAny_pyIter_enum he h
theorem beg_zipS {z TI TO : Addr} {f0 : Value} {f1 : Bool} : Beg (.ref z) (fun h => IsZipS h z TI TO f0 f1) (fun _ => z) (fun h => h) := ⟨fun prog w A E s Q h q => pyIter_zipS h q⟩
/-- enumerate(zip(a, b, strict=True)) -/
theorem pi_enumZipS {X : Cx} {e e2 : Expr} {kws : List Keyword} {ta tk : TA} {p p2 pos pos2 tpos : Pos} {elts : List Expr} {kk : Nat} (hgE : Gl X "enumerate") (hmE : X.mg "enumerate" = none) (hg : Gl X "zip") (hm : X.mg "zip" = none) (ha : PA X [e, e2] ta) (hkw : PK X kws tk)
    (hs : starEach [.Call (.Name "zip" p2) [e, e2] kws pos2] X.env = [(false, eval (.Call (.Name "zip" p2) [e, e2] kws pos2) X.env)] := by rfl)
    (hall : (backToKw pos2 (keywordEach kws X.env)).all (·.1.isSome) = true := by rfl) (hks : (backToKw pos2 (keywordEach kws X.env)).filterMap (·.1) = [Str.ofString "strict"] := by rfl)
    (he : starEach [e, e2] X.env = (false, eval e X.env) :: starEach [e2] X.env := by rfl)
    (hpl : ((backTo pos2 (starEach [e, e2] X.env)).any (·.1) || (backToKw pos2 (keywordEach kws X.env)).any (·.1.isNone)) = false := by rfl) :
    PI X (.Tuple elts kk tpos) (.Call (.Name "enumerate" p) [.Call (.Name "zip" p2) [e, e2] kws pos2] [] pos) (fun σ H R => ta σ H fun vs H1 => tk σ H1 fun zs H2 => ∃ (k1 k2 : Sk) (xs ys : List V), vs = [k1.v, k2.v] ∧ zs = [.bl true] ∧ k1.has X.K H2 xs ∧ k2.has X.K H2 ys ∧ xs.length = ys.length ∧ R (ItEZ X.K k1 k2 xs ys) H2) := by
  refine ⟨fun pins s σ H R I h => ?_⟩
  refine Call_ (ld_blt I hgE hmE boot_enumerate (PyProof.Rows.callWith_type1 ?_ hs rfl))
  rw [hs]
  show wpAny _ _ (spliced [(false, eval (.Call (.Name "zip" p2) [e, e2] kws pos2) X.env)]) _ _ s
  refine Calls.spliced_cons (wpAny_Call_Name_kw (ld_blt I hg hm PyProof.Rows.boot_zip ?_))
  refine callWith_typeKw hall (thn (ha.run pos2 pins s σ H _ I h) fun us s1 ⟨vs, H1, I1, r1, q1⟩ => thn (hkw.run pos2 pins s1 σ H1 _ I1 q1) fun ws s2 ⟨zs, H2, I2, r2, q2⟩ => ?_) hpl he
  obtain ⟨k1, k2, xs, ys, rfl, rfl, g1, g2, hl, q⟩ := q2
  rw [hks]
  cases r1 with
  | cons ra rr =>
    cases rr with
    | cons rb rr =>
      cases rr
      cases r2 with
      | cons rc rr =>
        cases rr
        cases rc
        obtain ⟨o1, Hc1, B1, c1, i1, l1⟩ := Sk.begins I2 g1 ra
        obtain ⟨o2, Hc2, B2, c2, i2, l2⟩ := Sk.begins I2 g2 rb
        refine zip_begins2S B1 B2 c1 c2 fun h' hz hTI hTO h1 h2 hsz hk => ?_
        refine Calls.spliced_nil ?_
        refine enum_beg (s := { s2 with heap := h' }) beg_zipS hz fun h'' he' hsz' hk' => ?_
        simp only [hsz] at he' hsz' ⊢
        refine wpAny_pyIter_enum (s := { s2 with heap := h'' }) he' ?_
        have hkk : ∀ b u, s2.heap.get? b = some u → h''.get? b = some u := fun b o x => hk' b o (hk b o x)
        have I3 : Inv X pins σ H2 { s2 with heap := h'' } := I2.kept (t' := s2.toks) hkk
        refine ⟨s2.heap.objs.size + 5, [s2.heap.objs.size + 5, s2.heap.objs.size + 4, s2.heap.objs.size + 2, s2.heap.objs.size + 3, s2.heap.objs.size, s2.heap.objs.size + 1], _, _, H2, rfl, I3, turn_enumZipS hl l1 l2,
          ⟨Nat.zero_le _, ⟨_, he'⟩, ⟨_, _, .inl rfl, hk' _ _ hz⟩, hk' _ _ hTI, ⟨_, _, hk' _ _ hTO⟩, i1 _ _ (hk' _ _ h1), i2 _ _ (hk' _ _ h2)⟩, fun c hcm => ?_, q⟩
        have e' : c = s2.heap.objs.size + 5 ∨ c = s2.heap.objs.size + 4 ∨ c = s2.heap.objs.size + 2 ∨ c = s2.heap.objs.size + 3 ∨ c = s2.heap.objs.size ∨ c = s2.heap.objs.size + 1 := by simpa using hcm
        have hle : @LE.le Nat _ s2.heap.objs.size c := by rcases e' with q | q | q | q | q | q <;> (rw [q]; omega)
        exact I2.fpOk hle (I2.hok.fresh hle)
end MA
/-! MA: one rule for each operation, whatever the kinds of its operands. -/
namespace MA
open PySem PySem.Spec PyProof.Rows L2

section ops
variable {X : Cx}
def rAddS : R2 := fun x y H Q => ∃ i j, x = .str i ∧ y = .str j ∧ i.length + j.length ≤ sizeLine ∧ Q (.str (i ++ j)) H
def rAddU (K : PySem.W.Frag) : R2 := fun x y H Q => (rI0 fun i j => .int (i + j)) x y H Q ∨ rAddS x y H Q ∨ rCat x y H Q ∨ rCatT K x y H Q
theorem u_add : OpR X (binaryOp .Add) (rAddU X.K) := op_add.or (OpR.or (r := rAddS) op_add_str (op_cat.or op_catT))
def rSubU : R2 := rI0 fun i j => .int (i - j)
theorem u_sub : OpR X (binaryOp .Sub) rSubU := op_sub
def rRepS : R2 := fun x y H Q => ∃ i n, x = .str i ∧ y = .int n ∧ MulOk i n ∧ Q (.str (Txt.mul i n)) H
theorem op_rep_str : OpR X (binaryOp .Mult) rRepS := by
  intro pins s σ H x y v u Q I rx ry h
  obtain ⟨i, n, rfl, rfl, h1, q⟩ := h
  obtain ⟨t, rfl⟩ := rx
  obtain ⟨t', rfl⟩ := ry
  exact SB.mul h1 fun t2 k => ⟨.str _, H, I.tok _, ⟨_, rfl⟩, q⟩
def rMulU (K : PySem.W.Frag) : R2 := fun x y H Q => (rI CMul fun i j => .int (i * j)) x y H Q ∨ (rI CMulX fun i j => .int (i * j)) x y H Q ∨ rRepS x y H Q ∨ rRep x y H Q ∨ rRepT K x y H Q
theorem u_mul : OpR X (binaryOp .Mult) (rMulU X.K) := op_mul.or (op_mulX.or (op_rep_str.or (op_rep.or op_repT)))
def rFdivU : R2 := rI CDivW fun i j => .int (i / j)
theorem u_fdiv : OpR X (binaryOp .FloorDiv) rFdivU := op_fdivW
def rModU : R2 := rI (fun _ j => 0 < j) fun i j => .int (i % j)
theorem u_mod : OpR X (binaryOp .Mod) rModU := op_mod
def rPowU : R2 := rI CPow fun i j => .int (i ^ j.toNat)
theorem u_pow : OpR X (binaryOp .Pow) rPowU := op_pow
def rShlU : R2 := rI CShl fun i j => .int (i * 2 ^ j.toNat)
theorem u_shl : OpR X (binaryOp .LShift) rShlU := op_shlW
def rShrU : R2 := rI (fun _ j => 0 ≤ j) fun i j => .int (i / 2 ^ j.toNat)
theorem u_shr : OpR X (binaryOp .RShift) rShrU := op_shr
def rAndU : R2 := rI0 fun i j => .int (Builtin.bitAnd i j)
theorem u_and : OpR X (binaryOp .BitAnd) rAndU := op_and
def rOrU : R2 := rI0 fun i j => .int (Builtin.bitOr i j)
theorem u_or : OpR X (binaryOp .BitOr) rOrU := op_or
def rXorU : R2 := rI0 fun i j => .int (Builtin.bitXor i j)
theorem u_xor : OpR X (binaryOp .BitXor) rXorU := op_xor
def rEqU (K : PySem.W.Frag) : R2 := fun x y H Q => rEq x y H Q ∨ rEqD K x y H Q
theorem u_eq (hu : X.A.units + 64 < cLine) : OpR X (compareOp .Eq) (rEqU X.K) := op_eq.or (op_eqD hu)
def rNeU (K : PySem.W.Frag) : R2 := fun x y H Q => rNe x y H Q ∨ rNeD K x y H Q
theorem u_ne (hu : X.A.units + 64 < cLine) : OpR X (compareOp .NotEq) (rNeU X.K) := op_ne.or (op_neD hu)
def rLtS : R2 := fun x y H Q => ∃ i j, x = .str i ∧ y = .str j ∧ Q (.bl (decide (i.cps.toList < j.cps.toList))) H
def rLtU (K : PySem.W.Frag) : R2 := fun x y H Q => (rI0 fun i j => .bl (decide (i < j))) x y H Q ∨ rLtS x y H Q ∨ rLtT K x y H Q
theorem u_lt (hu : X.A.units + 64 < cLine) : OpR X (compareOp .Lt) (rLtU X.K) := op_lt.or (OpR.or (r := rLtS) op_lt_str (op_ltT (by omega)))
def rLeS : R2 := fun x y H Q => ∃ i j, x = .str i ∧ y = .str j ∧ Q (.bl (!decide (j.cps.toList < i.cps.toList))) H
def rLeU : R2 := fun x y H Q => (rI0 fun i j => .bl (decide (i ≤ j))) x y H Q ∨ rLeS x y H Q
theorem u_le (hu : X.A.units + 64 < cLine) : OpR X (compareOp .LtE) rLeU := op_le.or (r' := rLeS) op_le_str
def rGtU : R2 := rI0 fun i j => .bl (decide (j < i))
theorem u_gt (hu : X.A.units + 64 < cLine) : OpR X (compareOp .Gt) rGtU := op_gt
def rGeU : R2 := rI0 fun i j => .bl (decide (j ≤ i))
theorem u_ge (hu : X.A.units + 64 < cLine) : OpR X (compareOp .GtE) rGeU := op_ge
def rInSg : R2 := fun x y H Q => ∃ (c : Nat) (z : Str), x = .str ⟨#[c]⟩ ∧ y = .str z ∧ Q (.bl (decide (c ∈ z.cps.toList))) H
def rInU (K : PySem.W.Frag) : R2 := fun x y H Q => rIn K false x y H Q ∨ rInSg x y H Q
theorem u_in (hu : X.A.units + 64 < cLine) : OpR X (compareOp .In) (rInU X.K) := op_in_seq.or (r' := rInSg) op_in_sign
def rNiSg : R2 := fun x y H Q => ∃ (c : Nat) (z : Str), x = .str ⟨#[c]⟩ ∧ y = .str z ∧ Q (.bl (!decide (c ∈ z.cps.toList))) H
def rNiU (K : PySem.W.Frag) : R2 := fun x y H Q => rIn K true x y H Q ∨ rNiSg x y H Q
theorem u_notin (hu : X.A.units + 64 < cLine) : OpR X (compareOp .NotIn) (rNiU X.K) := op_notIn_seq.or (r' := rNiSg) op_notIn_sign
def rIsNn : R2 := fun x y H Q => y = .non ∧ Q (.bl (decide (x = .non))) H
def rIsU : R2 := fun x y H Q => rIsNn x y H Q ∨ rIsB x y H Q
theorem u_is (hu : X.A.units + 64 < cLine) : OpR X (compareOp .Is) rIsU := OpR.or (r := rIsNn) op_isN op_isBl
def rNotNn : R2 := fun x y H Q => y = .non ∧ Q (.bl (!decide (x = .non))) H
def rIsntU : R2 := fun x y H Q => rNotNn x y H Q ∨ rNotB x y H Q
theorem u_isnot (hu : X.A.units + 64 < cLine) : OpR X (compareOp .IsNot) rIsntU := OpR.or (r := rNotNn) op_notN op_notBl
/-! slices -/
def rSlU (K : PySem.W.Frag) : V → Option Int → Option Int → Hp → VK → Prop := fun x lo hi H Q => rSlS x lo hi H Q ∨ rSlL K x lo hi H Q ∨ rSlT K x lo hi H Q
theorem u_sl : SlR X (rSlU X.K) := SlR.or sl_str (SlR.or sl_list sl_tup)
/-! in place -/
def ipAddS : TIp := fun x y H Q => ∃ i j, x = .str i ∧ y = .str j ∧ i.length + j.length ≤ sizeLine ∧ Q (.str (i ++ j)) H
/-! len -/
def rLenU (K : PySem.W.Frag) : List V → Hp → VK → Prop := fun xs H Q => ∃ x n, xs = [x] ∧ LenV K x H n ∧ Q (.int n) H
theorem u_len : CallR X (.builtin "len") (rLenU X.K) := call_len
end ops

/-! ### what is walked: a value that is a list, a tuple, a text -/
/-- a value's iterator, by the value -/
def ItV (X : Cx) (tg : Expr) (r : V → Hp → (It → Hp → Prop) → Prop) : Prop := ∀ (pins : List (Addr × Obj)) (s : Shared) (σ : L2.St) (H : Hp) (x : V) (u : Value) (R : It → Hp → Prop), Inv X pins σ H s → RelV x u → r x H R →
  wpAny (model X.prog X.w) X.A (pyIter u) (PIE X pins σ tg R) X.xe s
theorem pi_of {X : Cx} {tg e : Expr} {te : TE} {r : V → Hp → (It → Hp → Prop) → Prop} (he : PE X e te) (h : ItV X tg r) : PI X tg e (fun σ H R => te σ H fun x H1 => r x H1 R) :=
  ⟨fun pins s σ H R I q => thn (he.run pins s σ H _ I q) fun v s1 ⟨x, H1, I1, r1, q1⟩ => h pins s1 σ H1 x v R I1 r1 q1⟩
def ySeq (xs : List V) : Nat → Hp → V → Hp → Prop := fun i H x H' => H' = H ∧ xs[i]? = some x
/-- a sequence's items, the sequence staying as it is -/
def ItQ (K : PySem.W.Frag) (k : Sk) (xs : List V) : It := Itg (fun H => k.has K H xs) xs.length (ySeq xs)
theorem Turn.weaken {P : Program} {w : World} {K : PySem.W.Frag} {tg : Expr} {J J' : It} {fp : List Addr} {it : Addr} {tn : Nat → Heap → Prop} (T : Turn P w K tg J fp it tn) (hg : ∀ i H, J'.go i H → J.go i H) (hy : ∀ i H x H', J'.go i H → J.yld i H x H' → J'.yld i H x H') (hs : ∀ i H, J'.stop i H → J.stop i H) :
    Turn P w K tg J' fp it tn where
  mem := T.mem
  obj := T.obj
  keep := T.keep
  item := fun X hP hw hK hc i pins s σ H E I hf st g => wpAny_mono (T.item X hP hw hK hc i pins s σ H E I hf st (hg i H g)) (fun r s1 ⟨u, e, h⟩ => ⟨u, e, wpAny_mono h (fun _ s2 ⟨x, H', I2, rx, y, t, f⟩ => ⟨x, H', I2, rx, hy i H x H' g y, t, f⟩) fun _ _ z => z⟩) fun _ _ z => z
  done := fun X hP hw hK hc i pins s σ H E I hf st g => T.done X hP hw hK hc i pins s σ H E I hf st (hs i H g)
  self := T.self
/-- the reading of what is walked, given its value -/
def rSeqIt (K : PySem.W.Frag) : V → Hp → (It → Hp → Prop) → Prop := fun x H R => ∃ (k : Sk) (xs : List V), x = k.v ∧ k.has K H xs ∧ R (ItQ K k xs) H
theorem PIE.mono {X : Cx} {pins : List (Addr × Obj)} {σ : L2.St} {tg : Expr} {R : It → Hp → Prop} {itv : Value} {s2 : Shared} {J' : It → It → Hp → Prop} (h : PIE X pins σ tg R itv s2) {R' : It → Hp → Prop}
    (hR : ∀ J H, R J H → ∃ J', R' J' H ∧ (∀ i H, J'.go i H → J.go i H) ∧ (∀ i H x H', J'.go i H → J.yld i H x H' → J'.yld i H x H') ∧ (∀ i H, J'.stop i H → J.stop i H)) : PIE X pins σ tg R' itv s2 := by
  obtain ⟨it, fp, tn, J, H', e, I, T, t0, f, q⟩ := h
  obtain ⟨J', q', a, b, c⟩ := hR J H' q
  exact ⟨it, fp, tn, J', H', e, I, Turn.weaken T a b c, t0, f, q'⟩
theorem pi_seq {X : Cx} {tg e : Expr} {te : TE} (he : PE X e te) : PI X tg e (fun σ H R => te σ H fun x H1 => rSeqIt X.K x H1 R) := by
  refine pi_of he fun pins s σ H x u R I r h => ?_
  obtain ⟨k, xs, rfl, g, q⟩ := h
  cases k with
  | lst a =>
    cases (show u = Value.ref a from r)
    obtain ⟨its, rv, p, hz⟩ := I.list g
    refine wpAny_pyIter_list p.isList ?_
    have J0 : PIE X pins σ tg (fun J H => J = Itl X.K a ∧ R (ItQ X.K (.lst a) xs) H) (.ref s.heap.objs.size) { s with heap := s.heap.push { cls := .type "list_iterator", data := .fields #[.ref a, .int 0 0] } } :=
      pi_one (tk := s.toks) I _ (turn_list a _) ⟨_, Heap.get?_push_size _ rfl, rfl, rfl⟩ ⟨rfl, q⟩
    refine PIE.mono (J' := fun _ _ _ => True) J0 fun J H ⟨ej, q⟩ => ⟨_, q, ?_, ?_, ?_⟩
    · subst ej
      exact fun i H ⟨g, hi⟩ => ⟨xs, xs[i], g, by simp [hi]⟩
    · subst ej
      exact fun i H x H' ⟨g, hi⟩ ⟨e, y⟩ => ⟨e, y xs g⟩
    · subst ej
      exact fun i H ⟨g, hi⟩ => ⟨xs, g, hi⟩
  | tup a =>
    cases (show u = Value.ref a from r)
    obtain ⟨its, rv, p, hz⟩ := I.tuple g
    refine wpAny_pyIter_tuple (show s.heap.IsTuple a its.toArray from p) ?_
    have J0 : PIE X pins σ tg (fun J H => J = Itt X.K a ∧ R (ItQ X.K (.tup a) xs) H) (.ref s.heap.objs.size) { s with heap := s.heap.push { cls := .type "tuple_iterator", data := .fields #[.ref a, .int 0 0] } } :=
      pi_one (tk := s.toks) I _ (turn_tuple a _) ⟨_, Heap.get?_push_size _ rfl, rfl, rfl⟩ ⟨rfl, q⟩
    refine PIE.mono (J' := fun _ _ _ => True) J0 fun J H ⟨ej, q⟩ => ⟨_, q, ?_, ?_, ?_⟩
    · subst ej
      exact fun i H ⟨g, hi⟩ => ⟨xs, xs[i], g, by simp [hi]⟩
    · subst ej
      exact fun i H x H' ⟨g, hi⟩ ⟨e, y⟩ => ⟨e, y xs g⟩
    · subst ej
      exact fun i H ⟨g, hi⟩ => ⟨xs, g, hi⟩
  | str z =>
    cases g
    obtain ⟨t, rfl⟩ := (show ∃ t, u = Value.str z t from r)
    have fin : ∀ {itv s2}, PIE X pins σ tg (fun J H => J = Its z ∧ R (ItQ X.K (.str z) (signs z)) H) itv s2 → PIE X pins σ tg R itv s2 := fun J0 => by
      have el : (signs z).length = z.cps.size := by simp [signs]
      refine PIE.mono (J' := fun _ _ _ => True) J0 fun J H ⟨ej, q⟩ => ⟨_, q, ?_, ?_, ?_⟩
      · subst ej
        exact fun i H ⟨g, hi⟩ => by rw [el] at hi; exact hi
      · subst ej
        refine fun i H x H' ⟨g, hi⟩ ⟨e, c, hc, ex⟩ => ⟨e, ?_⟩
        have hc' : z.cps.toList[i]? = some c := by simpa using hc
        simp only [signs, List.getElem?_map, hc', Option.map_some, ex]
      · subst ej
        exact fun i H ⟨g, hi⟩ => by rw [el] at hi; exact hi
    cases ha : z.cps.all (· < 128)
    · exact wpAny_pyIter_wide ha (fin (pi_one (tk := s.toks) I _ (turn_str _ z t "str_iterator" (.inr rfl)) ⟨_, Heap.get?_push_size _ rfl, rfl, rfl⟩ ⟨rfl, q⟩))
    · exact wpAny_pyIter_ascii ha (fin (pi_one (tk := s.toks) I _ (turn_str _ z t "str_ascii_iterator" (.inl rfl)) ⟨_, Heap.get?_push_size _ rfl, rfl, rfl⟩ ⟨rfl, q⟩))
end MA
/-! MB: calls and methods, one rule each; the readings' names. -/
namespace MA
open PySem PySem.Spec PyProof.Rows L2

section calls
variable {X : Cx}
def rAbs : List V → Hp → VK → Prop := fun xs H Q => ∃ i, xs = [.int i] ∧ Q (.int (if i < 0 then -i else i)) H
def rDivmod : List V → Hp → VK → Prop := fun xs H Q => ∃ i j, xs = [.int i, .int j] ∧ CDivP i j ∧ ∀ p, H p = none → Q (.ref p) (upd H p (.tup [.int (i / j), .int (i % j)]))
def rIntU : List V → Hp → VK → Prop := fun xs H Q => ((∃ i, xs = [.int i] ∧ Q (.int i) H) ∨ ∃ k, xs = [.bl k] ∧ Q (.int (if k then 1 else 0)) H) ∨ ∃ a n, xs = [.str a] ∧ PySem.intText? a = some n ∧ a.length ≤ 640 ∧ Q (.int n) H
theorem u_int : CallR X (.type "int") rIntU := call_int1.or call_int_str
def rMin2 : List V → Hp → VK → Prop := fun xs H Q => ∃ i j, xs = [.int i, .int j] ∧ Q (.int (if j < i then j else i)) H
def rMax2 : List V → Hp → VK → Prop := fun xs H Q => ∃ i j, xs = [.int i, .int j] ∧ Q (.int (if j > i then j else i)) H
def rMinU (K : PySem.W.Frag) : List V → Hp → VK → Prop := fun xs H Q => rMin2 xs H Q ∨ rMin K xs H Q
theorem u_min (hc : X.calm = true) : CallR X (.builtin "min") (rMinU X.K) := CallR.or (r := rMin2) (call_min2 hc) (cr_min hc)
def rMaxU (K : PySem.W.Frag) : List V → Hp → VK → Prop := fun xs H Q => rMax2 xs H Q ∨ rMax K xs H Q
theorem u_max (hc : X.calm = true) : CallR X (.builtin "max") (rMaxU X.K) := CallR.or (r := rMax2) (call_max2 hc) (cr_max hc)
def rIsiU (K : PySem.W.Frag) : List V → Hp → VK → Prop := fun xs H Q => rIsi K xs H Q ∨ rIsiT K xs H Q
theorem u_isi : CallR X (.builtin "isinstance") (rIsiU X.K) := call_isi.or call_isiT
def rBool1 : List V → Hp → VK → Prop := fun xs H Q => (∃ i, xs = [.int i] ∧ Q (.bl (i != 0)) H) ∨ ∃ k, xs = [.bl k] ∧ Q (.bl k) H
/-! list(x): a list, a tuple, a text -/
def rListStr : List V → Hp → VK → Prop := fun xs H Q => ∃ z, xs = [.str z] ∧ z.length ≤ sizeLine ∧ ∀ l, H l = none → Q (.ref l) (upd H l (.lst (signs z)))
theorem call_listStr (hc : X.calm = true) : CallR X (.type "list") rListStr := by
  intro pins s σ H xs us Q I r h
  obtain ⟨z, rfl, hz, q⟩ := h
  cases r with
  | cons r1 rr =>
    cases rr
    obtain ⟨t, rfl⟩ := r1
    refine call_list_str (I.ok.hd hc) z t (hn := hz) fun h' tk acc c kp hS hacc => ?_
    refine ⟨.ref s.heap.objs.size, _, I.laid (t' := tk) kp (Nat.le_refl _) (show ObjOk X.prog X.w _ h' _ (.lst (signs z)) from ⟨?_, acc.toList, c, ?_, by simpa using hS⟩), rfl, q _ (I.hok.fresh (Nat.le_refl _))⟩
    · have : (signs z).length = z.length := by simp [signs, Str.length]
      rw [this]; exact hz
    · have hn : acc.toList.length = z.cps.toList.length := by simpa using hacc.1
      have hv : ∀ (l : List Nat) (us : List Value), us.length = l.length → (∀ (j : Nat) (u : Value), us[j]? = some u → ∃ c, l[j]? = some c ∧ ∃ t, u = .str ⟨#[c]⟩ t) → Vals (l.map fun c => V.str ⟨#[c]⟩) us := by
        intro l
        induction l with
        | nil => intro us e _; cases us with | nil => exact .nil | cons a b => simp at e
        | cons a l ih =>
          intro us e hu
          cases us with
          | nil => simp at e
          | cons u us =>
            obtain ⟨c, hc, t, rfl⟩ := hu 0 u rfl
            have ec : a = c := Option.some.inj hc
            subst ec
            exact .cons ⟨t, rfl⟩ (ih us (by simpa using e) fun j u h => hu (j + 1) u (by simpa using h))
      refine hv _ _ hn fun j u hu => ?_
      obtain ⟨c, t', hc, rfl⟩ := hacc.2 j u (by simpa using hu)
      exact ⟨c, by simpa using hc, t', rfl⟩
def rListU (K : PySem.W.Frag) : List V → Hp → VK → Prop := fun xs H Q => (∃ p ys, xs = [.ref p] ∧ (SqL K H p ys ∨ SqT K H p ys) ∧ ∀ l, H l = none → Q (.ref l) (upd H l (.lst ys))) ∨ rListStr xs H Q
theorem u_list (hc : X.calm = true) : CallR X (.type "list") (rListU X.K) := call_list_of.or (call_listStr hc)
/-! tuple(x): a list, a tuple -/
def rTupleU (K : PySem.W.Frag) : List V → Hp → VK → Prop := fun xs H Q => ∃ p ys, xs = [.ref p] ∧ ((SqL K H p ys ∧ ∀ l, H l = none → Q (.ref l) (upd H l (.tup ys))) ∨ (SqT K H p ys ∧ Q (.ref p) H))
theorem u_tuple (hc : X.calm = true) : CallR X (.type "tuple") (rTupleU X.K) := call_tuple_of
/-! methods -/
def rJoin (K : PySem.W.Frag) : V → List V → Hp → VK → Prop := fun x xs H Q => ∃ a p, ∃ ys : List Str, x = .str a ∧ xs = [.ref p] ∧ (SqL K H p (ys.map V.str) ∨ SqT K H p (ys.map V.str)) ∧
    (ys.map (·.length)).sum + ys.length * a.length ≤ 16777216 ∧ Q (.str (Txt.join a ys)) H
def rStartsw : V → List V → Hp → VK → Prop := fun x xs H Q => ∃ a b, x = .str a ∧ xs = [.str b] ∧ Q (.bl (Txt.startswith a b)) H
def rUpper : V → List V → Hp → VK → Prop := fun x xs H Q => ∃ a, x = .str a ∧ xs = [] ∧ a.length ≤ 5592405 ∧ Q (.str (Txt.upper a)) H
def rCount : V → List V → Hp → VK → Prop := fun x xs H Q => ∃ a b, x = .str a ∧ xs = [.str b] ∧ Q (.int (Txt.count a b)) H
def rStripC : V → List V → Hp → VK → Prop := fun x xs H Q => ∃ a b, x = .str a ∧ xs = [.str b] ∧ a.length ≤ sizeLine ∧ Q (.str (Txt.stripChars a b)) H
def rStripU : V → List V → Hp → VK → Prop := rStripC
theorem u_strip : MtR X "str.strip" rStripU := mt_stripChars
def rRstripU : V → List V → Hp → VK → Prop := fun x xs H Q => ∃ a b, x = .str a ∧ xs = [.str b] ∧ a.length ≤ sizeLine ∧ Q (.str (Txt.rstripChars a b)) H
theorem u_rstrip : MtR X "str.rstrip" rRstripU := mt_rstripChars
/-! in place -/
def ipAddU (K : PySem.W.Frag) : TIp := fun x y H Q => (rI0 fun i j => .int (i + j)) x y H Q ∨ rAddS x y H Q
theorem u_ipadd : PIp X .Add (ipAddU X.K) := OpR.or (f := inplaceOp .Add) (r' := rAddS) iop_add iop_add_str
def ipSubU : TIp := rI0 fun i j => .int (i - j)
theorem u_ipsub : PIp X .Sub ipSubU := iop_sub
def ipMulU (K : PySem.W.Frag) : TIp := rI CMul fun i j => .int (i * j)
theorem u_ipmul : PIp X .Mult (ipMulU X.K) := iop_mul
def ipFdivU : TIp := rI CDivW fun i j => .int (i / j)
theorem u_ipfdiv : PIp X .FloorDiv ipFdivU := iop_fdivW
def ipShlU : TIp := rI CShl fun i j => .int (i * 2 ^ j.toNat)
theorem u_ipshl : PIp X .LShift ipShlU := iop_shlW
def ipShrU : TIp := rI (fun _ j => 0 ≤ j) fun i j => .int (i / 2 ^ j.toNat)
theorem u_ipshr : PIp X .RShift ipShrU := iop_shr
def ipOrU : TIp := rI0 fun i j => .int (Builtin.bitOr i j)
theorem u_ipor : PIp X .BitOr ipOrU := iop_or
def ipAndU : TIp := rI0 fun i j => .int (Builtin.bitAnd i j)
theorem u_ipand : PIp X .BitAnd ipAndU := iop_and
def rNegU : V → Hp → VK → Prop := rU fun i => .int (-i)
def rInvU : V → Hp → VK → Prop := rU fun i => .int (Builtin.bitNot i)
/-! truth of a value -/
def tTrth (K : PySem.W.Frag) (ta : TE) : TT := fun σ H Q => ta σ H fun x H' => ∃ k, TruV K x H' k ∧ Q k H'
theorem pt_tru {a : Expr} {ta : TE} (ha : PE X a ta) (he : ∀ whole, isTrue a X.env whole = (do let v ← whole; standAt a.pos; holding [v] (truthy v)) := by intro _; rfl) : PT X a (tTrth X.K ta) := pt_truth ha he
/-! what is walked -/
def iSeq (K : PySem.W.Frag) (te : TE) : TI := fun σ H R => te σ H fun x H1 => rSeqIt K x H1 R
def iEnumZipS (K : PySem.W.Frag) (ta tk : TA) : TI := fun σ H R => ta σ H fun vs H1 => tk σ H1 fun zs H2 => ∃ (k1 k2 : Sk) (xs ys : List V), vs = [k1.v, k2.v] ∧ zs = [.bl true] ∧ k1.has K H2 xs ∧ k2.has K H2 ys ∧ xs.length = ys.length ∧ R (ItEZ K k1 k2 xs ys) H2
end calls

/-! ### what is known of the heap: G stays, L may change -/
structure Now (G : Hp) (L : List (Addr × HO)) (H : Hp) : Prop where
  ex : ∀ a o, G a = some o → H a = some o
  mu : ∀ p ∈ L, H p.1 = some p.2
  ap : ∀ p ∈ L, G p.1 = none
  nd : (L.map (·.1)).Nodup
def Ex (G G' : Hp) : Prop := ∀ a o, G a = some o → G' a = some o
theorem Ex.refl (G : Hp) : Ex G G := fun _ _ h => h
theorem Ex.trans {G G1 G2 : Hp} (a : Ex G G1) (b : Ex G1 G2) : Ex G G2 := fun x o h => b x o (a x o h)
theorem Ex.new {G : Hp} {p : Addr} {o : HO} (h : G p = none) : Ex G (upd G p o) := fun a u e => by rw [upd_ne (ne_of_none e h)]; exact e
section now
variable {G H : Hp} {L : List (Addr × HO)} {p a b : Addr} {o o' u : HO} {q : Addr × HO}
theorem Now.fr (n : Now G L H) (h : H p = none) : G p = none := by
  cases e : G p with
  | none => rfl
  | some x => rw [n.ex p x e] at h; cases h
theorem Now.frL (n : Now G L H) (h : H p = none) : p ∉ L.map (·.1) := fun hm => by
  obtain ⟨x, hx, rfl⟩ := List.mem_map.mp hm
  rw [n.mu x hx] at h; cases h
theorem Now.new (n : Now G L H) (h : H p = none) : Now G L (upd H p o) where
  ex := fun a u e => by rw [upd_ne (ne_of_none (n.ex a u e) h)]; exact n.ex a u e
  mu := fun x hx => by rw [upd_ne (ne_of_none (n.mu x hx) h)]; exact n.mu x hx
  ap := n.ap
  nd := n.nd
theorem Now.newG (n : Now G L H) (h : H p = none) : Now (upd G p o) L (upd H p o) where
  ex := fun a u e => by
    by_cases ha : a = p
    · subst ha; rw [upd_same] at e ⊢; exact e
    · rw [upd_ne ha] at e ⊢; exact n.ex a u e
  mu := fun x hx => by rw [upd_ne (ne_of_none (n.mu x hx) h)]; exact n.mu x hx
  ap := fun x hx => by rw [upd_ne (ne_of_none (n.mu x hx) h)]; exact n.ap x hx
  nd := n.nd
theorem Now.newL (n : Now G L H) (h : H p = none) : Now G ((p, o) :: L) (upd H p o) where
  ex := (n.new h).ex
  mu := fun x hx => by
    rcases List.mem_cons.mp hx with e | hx
    · rw [e]; exact upd_same
    · exact (n.new h).mu x hx
  ap := fun x hx => by
    rcases List.mem_cons.mp hx with e | hx
    · rw [e]; exact n.fr h
    · exact n.ap x hx
  nd := by
    show (p :: L.map (·.1)).Nodup
    exact List.nodup_cons.mpr ⟨n.frL h, n.nd⟩
theorem Now.get0 (n : Now G ((a, o) :: L) H) : H a = some o := n.mu (a, o) (List.mem_cons_self ..)
theorem Now.get1 (n : Now G (q :: (a, o) :: L) H) : H a = some o := n.mu (a, o) (List.mem_cons_of_mem _ (List.mem_cons_self ..))
theorem Now.get2 {q' : Addr × HO} (n : Now G (q :: q' :: (a, o) :: L) H) : H a = some o := n.mu (a, o) (List.mem_cons_of_mem _ (List.mem_cons_of_mem _ (List.mem_cons_self ..)))
theorem Now.perm {L' : List (Addr × HO)} (n : Now G L H) (h : L.Perm L') : Now G L' H where
  ex := n.ex
  mu := fun x hx => n.mu x (h.mem_iff.mpr hx)
  ap := fun x hx => n.ap x (h.mem_iff.mpr hx)
  nd := (h.map _).nodup_iff.mp n.nd
theorem Now.swap {q' : Addr × HO} (n : Now G (q :: q' :: L) H) : Now G (q' :: q :: L) H := n.perm (List.Perm.swap _ _ _)
theorem Now.drop (n : Now G (q :: L) H) : Now G L H where
  ex := n.ex
  mu := fun x hx => n.mu x (List.mem_cons_of_mem _ hx)
  ap := fun x hx => n.ap x (List.mem_cons_of_mem _ hx)
  nd := (List.nodup_cons.mp n.nd).2
theorem Now.set0 (n : Now G ((a, o) :: L) H) : Now G ((a, o') :: L) (upd H a o') where
  ex := fun b u e => by
    have : b ≠ a := fun z => by subst z; rw [n.ap (b, o) (List.mem_cons_self ..)] at e; cases e
    rw [upd_ne this]; exact n.ex b u e
  mu := fun x hx => by
    rcases List.mem_cons.mp hx with e | hx
    · rw [e]; exact upd_same
    · have : x.1 ≠ a := fun z => (List.nodup_cons.mp n.nd).1 (z ▸ List.mem_map.mpr ⟨x, hx, rfl⟩)
      rw [upd_ne this]; exact n.mu x (List.mem_cons_of_mem _ hx)
  ap := fun x hx => by
    rcases List.mem_cons.mp hx with e | hx
    · rw [e]; exact n.ap (a, o) (List.mem_cons_self ..)
    · exact n.ap x (List.mem_cons_of_mem _ hx)
  nd := n.nd
theorem Now.set1 (n : Now G (q :: (a, o) :: L) H) : Now G (q :: (a, o') :: L) (upd H a o') := (n.swap.set0).swap
theorem Now.freeze (n : Now G ((a, o) :: L) H) : Now (upd G a o) L H where
  ex := fun b u e => by
    by_cases hb : b = a
    · subst hb; rw [upd_same] at e; rw [n.get0]; exact e
    · rw [upd_ne hb] at e; exact n.ex b u e
  mu := n.drop.mu
  ap := fun x hx => by
    have : x.1 ≠ a := fun z => (List.nodup_cons.mp n.nd).1 (z ▸ List.mem_map.mpr ⟨x, hx, rfl⟩)
    rw [upd_ne this]; exact n.drop.ap x hx
  nd := n.drop.nd
theorem Now.exf (n : Now G ((a, o) :: L) H) : Ex G (upd G a o) := Ex.new (n.ap _ (List.mem_cons_self ..))
theorem Now.exn (n : Now G L H) (h : H p = none) : Ex G (upd G p o) := Ex.new (n.fr h)
end now
end MA
/-! MC: readings, step by step. -/
namespace MA
open PySem PySem.Spec PyProof.Rows L2
def partK (QO : Option Int → Hp → Prop) (x : V) (H : Hp) : Prop := ∃ i, x = .int i ∧ QO (some i) H
def lstK (Q : VK) (xs : List V) (H : Hp) : Prop := xs.length ≤ sizeLine ∧ ∀ p, H p = none → Q (.ref p) (upd H p (.lst xs))
def tupK (Q : VK) (xs : List V) (H : Hp) : Prop := xs.length ≤ sizeLine ∧ ∀ p, H p = none → Q (.ref p) (upd H p (.tup xs))
section w
variable {K : PySem.W.Frag} {σ : L2.St} {G H : Hp} {L : List (Addr × HO)} {Q : VK} {QA : List V → Hp → Prop} {QB : Bool → Hp → Prop} {QO : Option Int → Hp → Prop} {v x y z : V} {i : Nat} {ta tb tc te tr' : TE} {t1 t2 : TT} {tt : TA} {D : Ends} {ts tu : TS} {g : TG} {r r2 : R2} {a p : Addr} {xs ys : List V}
theorem w_var (h : σ[i]? = some (some v)) (q : Q v H) : tVar i σ H Q := ⟨v, h, q⟩
theorem w_c (q : Q v H) : tC v σ H Q := q
theorem w_op (h : ta σ H fun x H1 => tb σ H1 fun y H2 => r x y H2 Q) : tOp r ta tb σ H Q := h
theorem w_un {r : V → Hp → VK → Prop} (h : ta σ H fun x H1 => r x H1 Q) : tUn r ta σ H Q := h
theorem w_nil (q : QA [] H) : tNil σ H QA := q
theorem w_cons (h : ta σ H fun x H1 => tt σ H1 fun xs H2 => QA (x :: xs) H2) : tCons ta tt σ H QA := h
theorem w_cb {r : List V → Hp → VK → Prop} (h : tt σ H fun vs H1 => r vs H1 Q) : tCB r tt σ H Q := h
theorem w_call {sp : Sp} {dvs : List V} {E : XK} (h : tt σ H fun vs H1 => sp (vs ++ dvs) H1 Q E) : tCall sp dvs E tt σ H Q := h
theorem w_bm {T : String} {r : V → List V → Hp → VK → Prop} (h : ta σ H fun x H1 => tyV K T x H1 ∧ tt σ H1 fun xs H2 => r x xs H2 Q) : tBM K T r ta tt σ H Q := h
theorem w_bm0 {T : String} {r : V → List V → Hp → VK → Prop} (h : ta σ H fun x H1 => tyV K T x H1 ∧ r x [] H1 Q) : tBM0 K T r ta σ H Q := h
theorem w_if (h : t1 σ H fun c H1 => if c = true then ta σ H1 Q else tb σ H1 Q) : tIf t1 ta tb σ H Q := h
theorem w_test (h : te σ H fun x H' => ∃ k, x = .bl k ∧ QB k H') : tTest te σ H QB := h
theorem w_trth (h : te σ H fun x H' => ∃ k, TruV K x H' k ∧ QB k H') : tTrth K te σ H QB := h
theorem w_not (h : t1 σ H fun c H1 => QB (!c) H1) : tNot t1 σ H QB := h
theorem w_and (h : t1 σ H fun c H1 => if c = true then t2 σ H1 QB else QB false H1) : tAnd t1 t2 σ H QB := h
theorem w_or (h : t1 σ H fun c H1 => if c = true then QB true H1 else t2 σ H1 QB) : tOr t1 t2 σ H QB := h
theorem w_andT (h : ta σ H fun x H1 => ∃ k, TruV K x H1 k ∧ if k = true then tb σ H1 Q else Q x H1) : tAndT K ta tb σ H Q := h
theorem w_orT (h : ta σ H fun x H1 => ∃ k, TruV K x H1 k ∧ if k = true then Q x H1 else tb σ H1 Q) : tOrT K ta tb σ H Q := h
theorem w_notT (h : ta σ H fun x H1 => ∃ k, TruV K x H1 k ∧ Q (.bl (!k)) H1) : tNotT K ta σ H Q := h
theorem w_chain (h : ta σ H fun x H1 => tb σ H1 fun y H2 => r x y H2 fun z H3 => ∃ k, z = .bl k ∧ (if k = true then tc σ H3 fun w' H4 => r2 y w' H4 Q else Q (.bl false) H3)) : tChain r r2 ta tb tc σ H Q := h
theorem w_sl {r : V → Option Int → Option Int → Hp → VK → Prop} {tl th : TO} (h : te σ H fun x H1 => tl σ H1 fun l H2 => th σ H2 fun u H3 => r x l u H3 Q) : tSl r te tl th σ H Q := h
theorem w_nopart (q : QO none H) : tNoPart σ H QO := q
theorem w_part (h : te σ H (partK QO)) : tPart te σ H QO := h
theorem w_part1 {j : Int} (q : QO (some j) H) : partK QO (.int j) H := ⟨j, rfl, q⟩
theorem w_lst (h : tt σ H (lstK Q)) : tLst tt σ H Q := h
theorem w_tup (h : tt σ H (tupK Q)) : tTup tt σ H Q := h
theorem w_yes (q : QB true H) : tYes σ H QB := q
/-- statements -/
theorem w_seq (h : ts { D with nx := tu D } σ H) : tSeq ts tu D σ H := h
theorem w_next (q : D.nx σ H) : tNext D σ H := q
theorem w_asg (h : te σ H fun x H1 => g x σ H1 D.nx) : tAsg te g D σ H := h
theorem w_par {i j : Nat} (h : tt σ H fun vs H1 => ∃ v w, vs = [v, w] ∧ D.nx ((σ.set i (some v)).set j (some w)) H1) : tPar i j tt D σ H := h
theorem w_par3 {i j l : Nat} (h : tt σ H fun vs H1 => ∃ u v w, vs = [u, v, w] ∧ D.nx (((σ.set i (some u)).set j (some v)).set l (some w)) H1) : tPar3 i j l tt D σ H := h
theorem w_ret (h : te σ H D.rt) : tRet te D σ H := h
theorem w_drop (h : te σ H fun _ H1 => D.nx σ H1) : tDrop te D σ H := h
theorem w_ifs (h : t1 σ H fun b H1 => if b = true then ts D σ H1 else tu D σ H1) : tIfS t1 ts tu D σ H := h
theorem w_aug {ti : TIp} (hx : σ[i]? = some (some x)) (h : te σ H fun y H1 => ti x y H1 fun z H2 => D.nx (σ.set i (some z)) H2) : tAug i te ti D σ H := ⟨x, hx, h⟩
/-- targets -/
theorem w_gname {QS : L2.St → Hp → Prop} (q : QS (σ.set i (some v)) H) : gName i v σ H QS := q
theorem w_gsub {QS : L2.St → Hp → Prop} {ts : TSet} (h : ta σ H fun o H1 => tb σ H1 fun i H2 => ts o i v H2 fun H3 => QS σ H3) : gSub ta tb ts v σ H QS := h
theorem w_gtup {QS : L2.St → Hp → Prop} {n : Nat} {t : TGs} (h : SqT K H a xs) (hn : xs.length = n) (q : t xs σ H QS) : gTup K n t (.ref a) σ H QS := ⟨a, xs, rfl, h, hn, q⟩
theorem w_gnil {QS : L2.St → Hp → Prop} (q : QS σ H) : gNil [] σ H QS := ⟨rfl, q⟩
theorem w_gcons {QS : L2.St → Hp → Prop} {t : TG} {u : TGs} {r : List V} (q : t v σ H fun σ' H' => u r σ' H' QS) : gCons t u (v :: r) σ H QS := ⟨v, r, rfl, q⟩
/-- tests on truths -/
theorem w_bl {b : Bool} {QB : Bool → Prop} (q : QB b) : ∃ k, V.bl b = .bl k ∧ QB k := ⟨b, rfl, q⟩
theorem w_tbl {b : Bool} {QB : Bool → Prop} (q : QB b) : ∃ k, TruV K (.bl b) H k ∧ QB k := ⟨b, rfl, q⟩
theorem w_ite {b : Bool} {A B : Prop} (h1 : b = true → A) (h2 : b = false → B) : if b = true then A else B := by
  cases b with
  | true => exact h1 rfl
  | false => exact h2 rfl
theorem w_iteT {b : Bool} {A B : Prop} (h : b = true) (q : A) : if b = true then A else B := by rw [if_pos h]; exact q
theorem w_iteF {b : Bool} {A B : Prop} (h : b = false) (q : B) : if b = true then A else B := by rw [h]; exact q
/-- new objects -/
theorem w_lstL (n : Now G L H) (hz : xs.length ≤ 100000) (q : ∀ p H', Now G ((p, .lst xs) :: L) H' → H p = none → Q (.ref p) H') : lstK Q xs H :=
  ⟨Nat.le_trans hz (by decide), fun p hp => q p _ (n.newL hp) hp⟩
/-- operations by the kinds of their operands -/
theorem w_addI {i j : Int} (q : Q (.int (i + j)) H) : rAddU K (.int i) (.int j) H Q := .inl ⟨i, j, rfl, rfl, q⟩
theorem w_addS {i j : Str} (h : i.length + j.length ≤ sizeLine) (q : Q (.str (i ++ j)) H) : rAddU K (.str i) (.str j) H Q := .inr (.inl ⟨i, j, rfl, rfl, h, q⟩)
theorem w_subI {i j : Int} (q : Q (.int (i - j)) H) : rSubU (.int i) (.int j) H Q := ⟨i, j, rfl, rfl, q⟩
theorem w_mulI {i j : Int} (h : (-(2 ^ 64) < i ∧ i < 2 ^ 64) ∨ (-(2 ^ 64) < j ∧ j < 2 ^ 64)) (q : Q (.int (i * j)) H) : rMulU K (.int i) (.int j) H Q := .inl ⟨i, j, rfl, rfl, h, q⟩
theorem log_small {j : Int} (h0 : 0 < j) (h : j < 1267650600228229401496703205376) : j.natAbs.log2 < 9000 := by
  have e : (j.natAbs : Int) = j := by omega
  have h1 : j.natAbs < 2 ^ 100 := by omega
  have h2 : j.natAbs ≠ 0 := by omega
  have := (Nat.log2_lt h2).mpr h1
  omega
theorem w_fdivI {i j : Int} (h0 : 0 < j) (h1 : j < 1267650600228229401496703205376) (q : Q (.int (i / j)) H) : rFdivU (.int i) (.int j) H Q := ⟨i, j, rfl, rfl, ⟨h0, log_small h0 h1⟩, q⟩
theorem w_modI {i j : Int} (h0 : 0 < j) (q : Q (.int (i % j)) H) : rModU (.int i) (.int j) H Q := ⟨i, j, rfl, rfl, h0, q⟩
theorem w_powI {i j : Int} (h : 0 ≤ j ∧ j ≤ 1000000 ∧ i.natAbs < 2 ^ 64) (q : Q (.int (i ^ j.toNat)) H) : rPowU (.int i) (.int j) H Q := ⟨i, j, rfl, rfl, h, q⟩
theorem bits1 : Builtin.Int.intBits 1 = 1 := by decide
theorem w_shl1 {j : Int} (h0 : 0 ≤ j) (h1 : j ≤ 1000000) (q : Q (.int (2 ^ j.toNat)) H) : rShlU (.int 1) (.int j) H Q := by
  refine ⟨1, j, rfl, rfl, ⟨h0, ?_⟩, by show Q (.int (1 * 2 ^ j.toNat)) H; rw [Int.one_mul]; exact q⟩
  rw [bits1]
  omega
theorem w_shrI {i j : Int} (h0 : 0 ≤ j) (q : Q (.int (i / 2 ^ j.toNat)) H) : rShrU (.int i) (.int j) H Q := ⟨i, j, rfl, rfl, h0, q⟩
theorem w_gtI {i j : Int} (q : Q (.bl (decide (j < i))) H) : rGtU (.int i) (.int j) H Q := ⟨i, j, rfl, rfl, q⟩
theorem w_geI {i j : Int} (q : Q (.bl (decide (j ≤ i))) H) : rGeU (.int i) (.int j) H Q := ⟨i, j, rfl, rfl, q⟩
theorem w_ltI {i j : Int} (q : Q (.bl (decide (i < j))) H) : rLtU K (.int i) (.int j) H Q := .inl ⟨i, j, rfl, rfl, q⟩
theorem w_leI {i j : Int} (q : Q (.bl (decide (i ≤ j))) H) : rLeU (.int i) (.int j) H Q := .inl ⟨i, j, rfl, rfl, q⟩
theorem w_eqI {i j : Int} (q : Q (.bl (decide (i = j))) H) : rEqU K (.int i) (.int j) H Q := .inl ⟨rfl, by rw [show decide (V.int i = V.int j) = decide (i = j) by simp]; exact q⟩
theorem w_neI {i j : Int} (q : Q (.bl (!decide (i = j))) H) : rNeU K (.int i) (.int j) H Q := .inl ⟨rfl, by rw [show decide (V.int i = V.int j) = decide (i = j) by simp]; exact q⟩
theorem w_eqS {i j : Str} (q : Q (.bl (decide (i = j))) H) : rEqU K (.str i) (.str j) H Q := .inl ⟨rfl, by rw [show decide (V.str i = V.str j) = decide (i = j) by simp]; exact q⟩
theorem w_neS {i j : Str} (q : Q (.bl (!decide (i = j))) H) : rNeU K (.str i) (.str j) H Q := .inl ⟨rfl, by rw [show decide (V.str i = V.str j) = decide (i = j) by simp]; exact q⟩
theorem w_eqB {i j : Bool} (q : Q (.bl (decide (i = j))) H) : rEqU K (.bl i) (.bl j) H Q := .inl ⟨rfl, by rw [show decide (V.bl i = V.bl j) = decide (i = j) by simp]; exact q⟩
theorem w_neB {i j : Bool} (q : Q (.bl (!decide (i = j))) H) : rNeU K (.bl i) (.bl j) H Q := .inl ⟨rfl, by rw [show decide (V.bl i = V.bl j) = decide (i = j) by simp]; exact q⟩
theorem w_eqV (h : scal x y = true) (q : Q (.bl (decide (x = y))) H) : rEqU K x y H Q := .inl ⟨h, q⟩
theorem w_neV (h : scal x y = true) (q : Q (.bl (!decide (x = y))) H) : rNeU K x y H Q := .inl ⟨h, q⟩
theorem w_isN (q : Q (.bl (decide (x = .non))) H) : rIsU x .non H Q := .inl ⟨rfl, q⟩
theorem w_isntN (q : Q (.bl (!decide (x = .non))) H) : rIsntU x .non H Q := .inl ⟨rfl, q⟩
theorem w_ixL {j : Int} (h : SqL K H a xs) (ha : atI xs j = some v) (q : Q v H) : rIx K (.ref a) (.int j) H Q := .inl ⟨a, xs, j, v, rfl, rfl, h, ha, q⟩
theorem w_ixT {j : Int} (h : SqT K H a xs) (ha : atI xs j = some v) (q : Q v H) : rIx K (.ref a) (.int j) H Q := .inr (.inl ⟨a, xs, j, v, rfl, rfl, h, ha, q⟩)
theorem w_ixS {j : Int} {z : Str} {c : Nat} (h : z.length ≤ sizeLine) (ha : atI z.cps.toList j = some c) (q : Q (.str ⟨#[c]⟩) H) : rIx K (.str z) (.int j) H Q := .inr (.inr ⟨z, j, c, rfl, rfl, h, ha, q⟩)
theorem w_abs {j : Int} (q : Q (.int (if j < 0 then -j else j)) H) : rAbs [.int j] H Q := ⟨j, rfl, q⟩
theorem w_intI {j : Int} (q : Q (.int j) H) : rIntU [.int j] H Q := .inl (.inl ⟨j, rfl, q⟩)
theorem w_intB {k : Bool} (q : Q (.int (if k then 1 else 0)) H) : rIntU [.bl k] H Q := .inl (.inr ⟨k, rfl, q⟩)
theorem w_intS {s : Str} {j : Int} (h : PySem.intText? s = some j) (hl : s.length ≤ 640) (q : Q (.int j) H) : rIntU [.str s] H Q := .inr ⟨s, j, rfl, h, hl, q⟩
theorem w_min2 {i j : Int} (q : Q (.int (if j < i then j else i)) H) : rMinU K [.int i, .int j] H Q := .inl ⟨i, j, rfl, q⟩
theorem w_max2 {i j : Int} (q : Q (.int (if j > i then j else i)) H) : rMaxU K [.int i, .int j] H Q := .inl ⟨i, j, rfl, q⟩
theorem w_lenL (h : SqL K H a xs) (q : Q (.int (xs.length : Nat)) H) : rLenU K [.ref a] H Q := ⟨_, _, rfl, .inl ⟨xs, h, rfl⟩, q⟩
theorem w_lenT (h : SqT K H a xs) (q : Q (.int (xs.length : Nat)) H) : rLenU K [.ref a] H Q := ⟨_, _, rfl, .inr ⟨xs, h, rfl⟩, q⟩
theorem w_lenS {z : Str} (h : z.length ≤ sizeLine) (q : Q (.int (z.length : Nat)) H) : rLenU K [.str z] H Q := ⟨_, _, rfl, ⟨h, rfl⟩, q⟩
theorem w_setL0 {j : Int} {k : Nat} (n : Now G ((a, .lst xs) :: L) H) (hj : ixN xs.length j = some k) {QH : Hp → Prop} (q : ∀ H', Now G ((a, .lst (xs.set k v)) :: L) H' → QH H') : rSetL (.ref a) (.int j) v H QH :=
  ⟨a, xs, j, k, rfl, rfl, n.get0, hj, q _ n.set0⟩
theorem w_setL1 {j : Int} {k : Nat} {e : Addr × HO} (n : Now G (e :: (a, .lst xs) :: L) H) (hj : ixN xs.length j = some k) {QH : Hp → Prop} (q : ∀ H', Now G (e :: (a, .lst (xs.set k v)) :: L) H' → QH H') : rSetL (.ref a) (.int j) v H QH :=
  ⟨a, xs, j, k, rfl, rfl, n.get1, hj, q _ n.set1⟩
theorem w_divmod {i j : Int} (n : Now G L H) (h0 : 0 < j) (h1 : j < 2 ^ 30) (q : ∀ p H', Now G L H' → H' p = some (.tup [.int (i / j), .int (i % j)]) → Q (.ref p) H') : rDivmod [.int i, .int j] H Q :=
  ⟨i, j, rfl, ⟨h0, PyProof.noPylong_small (by omega)⟩, fun p hp => q p _ (n.new hp) upd_same⟩
theorem sqT (h : H a = some (.tup xs)) : SqT K H a xs := .inl (.inl h)
theorem sqL (h : H a = some (.lst xs)) : SqL K H a xs := .inl (.inl h)
end w

/-! ### loops -/
theorem for_g {G : Hp → Prop} {n : Nat} {Y : Nat → Hp → V → Hp → Prop} {g : TG} {tb : TS} {D : Ends} {σ : L2.St} {H : Hp} (Pv : Nat → L2.St → Hp → Prop) (h0 : Pv 0 σ H) (hG : ∀ i σ H, Pv i σ H → G H)
    (hs : ∀ i x σ H H', i < n → Pv i σ H → Y i H x H' → g x σ H' fun σ2 H2 => tb { D with nx := Pv (i + 1), ct := Pv (i + 1), bk := D.nx } σ2 H2) (hd : ∀ σ H, Pv n σ H → D.nx σ H) :
    ∃ W : Nat → Nat → L2.St → Hp → Prop, (∃ m, W 0 m σ H) ∧ ∀ i m σ H, W i m σ H →
      ((Itg G n Y).stop i H ∧ D.nx σ H) ∨ ((Itg G n Y).go i H ∧ ∃ N : L2.St → Hp → Prop, (∀ σ' H', N σ' H' → ∃ m', m' < m ∧ W (i + 1) m' σ' H') ∧ ∀ x H', (Itg G n Y).yld i H x H' → g x σ H' fun σ2 H2 => tb { D with nx := N, ct := N, bk := D.nx } σ2 H2) := by
  refine ⟨fun i m σ H => m = n - i ∧ i ≤ n ∧ Pv i σ H, ⟨n, by simp, Nat.zero_le _, h0⟩, ?_⟩
  rintro i m σ H ⟨rfl, hi, p⟩
  by_cases hlt : i < n
  · exact .inr ⟨⟨hG i σ H p, hlt⟩, Pv (i + 1), fun σ' H' p' => ⟨n - (i + 1), by omega, rfl, hlt, p'⟩, fun x H' y => hs i x σ H H' hlt p y⟩
  · have e : i = n := by omega
    subst e
    exact .inl ⟨⟨hG i σ H p, Nat.le_refl _⟩, hd σ H p⟩
/-- a comprehension over n turns: Pv says what list stands at D -/
theorem lc_g {G : Hp → Prop} {n : Nat} {Y : Nat → Hp → V → Hp → Prop} {g : TG} {tt : TT} {te : TE} {vs : List Nat} {σ : L2.St} {D : Addr} {H0 : Hp} {Q : VK} (Pv : Nat → Hp → Prop) (h0 : Pv 0 (upd H0 D (.lst []))) (hG : ∀ i H, Pv i H → G H)
    (hs : ∀ i x H H', i < n → Pv i H → Y i H x H' → g x (wipe σ vs) H' fun σ2 H2 => wipe σ2 vs = wipe σ vs ∧ tt σ2 H2 fun b H3 => if b = true then te σ2 H3 fun y H4 => ∃ acc, H4 D = some (.lst acc) ∧ acc.length < sizeLine ∧ Pv (i + 1) (upd H4 D (.lst (acc ++ [y]))) else Pv (i + 1) H3)
    (hd : ∀ H, Pv n H → Q (.ref D) H) :
    ∃ W : Nat → Nat → Hp → Prop, (∃ m, W 0 m (upd H0 D (.lst []))) ∧ ∀ i m H, W i m H →
      ((Itg G n Y).stop i H ∧ Q (.ref D) H) ∨ ((Itg G n Y).go i H ∧ ∃ Nx : Hp → Prop, (∀ H', Nx H' → ∃ m', m' < m ∧ W (i + 1) m' H') ∧ ∀ x H', (Itg G n Y).yld i H x H' → g x (wipe σ vs) H' fun σ2 H2 => wipe σ2 vs = wipe σ vs ∧ tt σ2 H2 fun b H3 =>
        if b = true then te σ2 H3 fun y H4 => ∃ acc, H4 D = some (.lst acc) ∧ acc.length < sizeLine ∧ Nx (upd H4 D (.lst (acc ++ [y]))) else Nx H3) := by
  refine ⟨fun i m H => m = n - i ∧ i ≤ n ∧ Pv i H, ⟨n, by simp, Nat.zero_le _, h0⟩, ?_⟩
  rintro i m H ⟨rfl, hi, p⟩
  by_cases hlt : i < n
  · exact .inr ⟨⟨hG i H p, hlt⟩, Pv (i + 1), fun H' p' => ⟨n - (i + 1), by omega, rfl, hlt, p'⟩, fun x H' y => hs i x H H' hlt p y⟩
  · have e : i = n := by omega
    subst e
    exact .inl ⟨⟨hG i H p, Nat.le_refl _⟩, hd H p⟩
/-- range, as n turns -/
theorem Itr_g (lo : Int) (n : Nat) : Itr lo n = Itg (fun _ => True) n (fun i H x H' => H' = H ∧ x = .int (lo + i)) := by
  unfold Itr Itg
  congr 1
  · funext i H; simp
  · funext i H; simp

/-! ### comprehensions over the ledger -/
theorem Now.weak {G G' H : Hp} {L : List (Addr × HO)} (e : Ex G G') (n : Now G' L H) : Now G L H where
  ex := fun a o h => n.ex a o (e a o h)
  mu := n.mu
  ap := fun p hp => by
    cases h : G p.1 with
    | none => rfl
    | some u => rw [← e _ _ h]; exact n.ap p hp
  nd := n.nd
def lcK (J : It) (g : TG) (tt : TT) (te : TE) (vs : List Nat) (σ : L2.St) (Q : VK) (H : Hp) : Prop := ∀ D, H D = none → ∃ W : Nat → Nat → Hp → Prop, (∃ m, W 0 m (upd H D (.lst []))) ∧ ∀ i m H, W i m H →
  (J.stop i H ∧ Q (.ref D) H) ∨ (J.go i H ∧ ∃ Nx : Hp → Prop, (∀ H', Nx H' → ∃ m', m' < m ∧ W (i + 1) m' H') ∧ ∀ x H', J.yld i H x H' → g x (wipe σ vs) H' fun σ2 H2 => wipe σ2 vs = wipe σ vs ∧ tt σ2 H2 fun b H3 =>
    if b = true then te σ2 H3 fun y H4 => ∃ acc, H4 D = some (.lst acc) ∧ acc.length < sizeLine ∧ Nx (upd H4 D (.lst (acc ++ [y]))) else Nx H3)
def forK (J : It) (g : TG) (tb : TS) (D : Ends) (σ : L2.St) (H : Hp) : Prop := ∃ W : Nat → Nat → L2.St → Hp → Prop, (∃ m, W 0 m σ H) ∧ ∀ i m σ H, W i m σ H →
  (J.stop i H ∧ D.nx σ H) ∨ (J.go i H ∧ ∃ N : L2.St → Hp → Prop, (∀ σ' H', N σ' H' → ∃ m', m' < m ∧ W (i + 1) m' σ' H') ∧ ∀ x H', J.yld i H x H' → g x σ H' fun σ2 H2 => tb { D with nx := N, ct := N, bk := D.nx } σ2 H2)
theorem for_k {G : Hp → Prop} {n : Nat} {Y : Nat → Hp → V → Hp → Prop} {g : TG} {tb : TS} {D : Ends} {σ : L2.St} {H : Hp} (Pv : Nat → L2.St → Hp → Prop) (h0 : Pv 0 σ H) (hG : ∀ i σ H, Pv i σ H → G H)
    (hs : ∀ i x σ H H', i < n → Pv i σ H → Y i H x H' → g x σ H' fun σ2 H2 => tb { D with nx := Pv (i + 1), ct := Pv (i + 1), bk := D.nx } σ2 H2) (hd : ∀ σ H, Pv n σ H → D.nx σ H) : forK (Itg G n Y) g tb D σ H := for_g Pv h0 hG hs hd
abbrev LP := Nat → List V → Hp → List (Addr × HO) → Prop
def LcP (P : LP) (D : Addr) (i : Nat) (H : Hp) : Prop := ∃ acc G L, P i acc G L ∧ Now G ((D, .lst acc) :: L) H
theorem LcP.add {P : LP} {D : Addr} {i : Nat} {acc : List V} {y : V} {G H : Hp} {L : List (Addr × HO)} (n : Now G ((D, .lst acc) :: L) H) (hl : acc.length < 100000) (p : P (i + 1) (acc ++ [y]) G L) :
    ∃ acc, H D = some (.lst acc) ∧ acc.length < sizeLine ∧ LcP P D (i + 1) (upd H D (.lst (acc ++ [y]))) := ⟨acc, n.get0, Nat.lt_of_lt_of_le hl (by decide), acc ++ [y], G, L, p, n.set0⟩
theorem lc_now {Gp : Hp → Prop} {m : Nat} {Y : Nat → Hp → V → Hp → Prop} {g : TG} {tt : TT} {te : TE} {vs : List Nat} {σ : L2.St} {G H : Hp} {L : List (Addr × HO)} {Q : VK} (n : Now G L H) (P : LP) (p0 : P 0 [] G L)
    (hG : ∀ i acc G L H, P i acc G L → Now G L H → Gp H)
    (hs : ∀ D i x H H' acc G L, i < m → P i acc G L → Now G ((D, .lst acc) :: L) H → Y i H x H' → g x (wipe σ vs) H' fun σ2 H2 => wipe σ2 vs = wipe σ vs ∧ tt σ2 H2 fun b H3 => if b = true then te σ2 H3 fun y H4 => ∃ acc, H4 D = some (.lst acc) ∧ acc.length < sizeLine ∧ LcP P D (i + 1) (upd H4 D (.lst (acc ++ [y]))) else LcP P D (i + 1) H3)
    (hd : ∀ D H acc G L, P m acc G L → Now G ((D, .lst acc) :: L) H → Q (.ref D) H) :
    lcK (Itg Gp m Y) g tt te vs σ Q H := fun D hD =>
  lc_g (LcP P D) ⟨[], G, L, p0, n.newL hD⟩ (fun i H ⟨acc, G, L, p, n⟩ => hG i acc G L H p n.drop) (fun i x H H' hi ⟨acc, G, L, p, n⟩ y => hs D i x H H' acc G L hi p n y) (fun H ⟨acc, G, L, p, n⟩ => hd D H acc G L p n)
section w2
variable {K : PySem.W.Frag} {σ : L2.St} {G H : Hp} {L : List (Addr × HO)} {Q : VK} {v x y : V} {i : Nat} {xs : List V}
theorem w_lc {wi : TI} {g : TG} {tt : TT} {te : TE} {vs : List Nat} (h : wi σ H fun J H1 => lcK J g tt te vs σ Q H1) : tLc wi g tt te vs σ H Q := h
def rngK (R : It → Hp → Prop) (vs : List V) (H : Hp) : Prop := ∃ j : Int, vs = [.int j] ∧ -(2 ^ 62) ≤ j ∧ j < 2 ^ 62 ∧ R (Itr 0 j.toNat) H
theorem w_rng1 {tt : TA} {R : It → Hp → Prop} (h : tt σ H (rngK R)) : iRng1 tt σ H R := h
theorem w_rngI {R : It → Hp → Prop} {j : Int} (h1 : -(2 ^ 62) ≤ j) (h2 : j < 2 ^ 62) (q : R (Itg (fun _ => True) j.toNat (fun i H x H' => H' = H ∧ x = .int (0 + (i : Nat)))) H) : rngK R [.int j] H :=
  ⟨j, rfl, h1, h2, by rw [Itr_g]; exact q⟩
def rngK2 (R : It → Hp → Prop) (vs : List V) (H : Hp) : Prop := ∃ i j : Int, vs = [.int i, .int j] ∧ (-(2 ^ 62) ≤ i ∧ i < 2 ^ 62 ∧ -(2 ^ 62) ≤ j ∧ j < 2 ^ 62) ∧ R (Itr i (j - i).toNat) H
theorem w_rng2 {tt : TA} {R : It → Hp → Prop} (h : tt σ H (rngK2 R)) : iRng2 tt σ H R := h
theorem w_rngI2 {R : It → Hp → Prop} {i j : Int} (h1 : -(2 ^ 62) ≤ i ∧ i < 2 ^ 62 ∧ -(2 ^ 62) ≤ j ∧ j < 2 ^ 62) (q : R (Itg (fun _ => True) (j - i).toNat (fun k H x H' => H' = H ∧ x = .int (i + (k : Nat)))) H) : rngK2 R [.int i, .int j] H :=
  ⟨i, j, rfl, h1, by rw [Itr_g]; exact q⟩
def enumK (K : PySem.W.Frag) (R : It → Hp → Prop) (vs : List V) (H : Hp) : Prop := ∃ (k : Sk) (xs : List V), vs = [k.v] ∧ k.has K H xs ∧ R (ItE K k xs) H
theorem w_enum {tt : TA} {R : It → Hp → Prop} (h : tt σ H (enumK K R)) : iEnumS K tt σ H R := h
theorem w_enumI {R : It → Hp → Prop} (k : Sk) (xs : List V) (h : k.has K H xs) (q : R (ItE K k xs) H) : enumK K R [k.v] H := ⟨k, xs, rfl, h, q⟩
def seqK (K : PySem.W.Frag) (R : It → Hp → Prop) (x : V) (H : Hp) : Prop := rSeqIt K x H R
theorem w_seqIt {te : TE} {R : It → Hp → Prop} (h : te σ H (seqK K R)) : iSeq K te σ H R := h
theorem w_seqI {R : It → Hp → Prop} (k : Sk) (xs : List V) (h : k.has K H xs) (q : R (ItQ K k xs) H) : seqK K R k.v H := ⟨k, xs, rfl, h, q⟩
def zipK (K : PySem.W.Frag) (R : It → Hp → Prop) (vs zs : List V) (H : Hp) : Prop := ∃ (k1 k2 : Sk) (xs ys : List V), vs = [k1.v, k2.v] ∧ zs = [.bl true] ∧ k1.has K H xs ∧ k2.has K H ys ∧ xs.length = ys.length ∧ R (ItZ K k1 k2 xs ys) H
theorem w_zip {ta tk : TA} {R : It → Hp → Prop} (h : ta σ H fun vs H1 => tk σ H1 fun zs H2 => zipK K R vs zs H2) : iZipS K ta tk σ H R := h
theorem w_zipI {R : It → Hp → Prop} (k1 k2 : Sk) (xs ys : List V) (h1 : k1.has K H xs) (h2 : k2.has K H ys) (hl : xs.length = ys.length) (q : R (ItZ K k1 k2 xs ys) H) : zipK K R [k1.v, k2.v] [.bl true] H := ⟨k1, k2, xs, ys, rfl, rfl, h1, h2, hl, q⟩
def ezipK (K : PySem.W.Frag) (R : It → Hp → Prop) (vs zs : List V) (H : Hp) : Prop := ∃ (k1 k2 : Sk) (xs ys : List V), vs = [k1.v, k2.v] ∧ zs = [.bl true] ∧ k1.has K H xs ∧ k2.has K H ys ∧ xs.length = ys.length ∧ R (ItEZ K k1 k2 xs ys) H
theorem w_ezip {ta tk : TA} {R : It → Hp → Prop} (h : ta σ H fun vs H1 => tk σ H1 fun zs H2 => ezipK K R vs zs H2) : iEnumZipS K ta tk σ H R := h
theorem w_ezipI {R : It → Hp → Prop} (k1 k2 : Sk) (xs ys : List V) (h1 : k1.has K H xs) (h2 : k2.has K H ys) (hl : xs.length = ys.length) (q : R (ItEZ K k1 k2 xs ys) H) : ezipK K R [k1.v, k2.v] [.bl true] H := ⟨k1, k2, xs, ys, rfl, rfl, h1, h2, hl, q⟩
theorem w_lstG (n : Now G L H) (hz : xs.length ≤ 100000) (q : ∀ p G' H', Ex G G' → G' p = some (.lst xs) → Now G' L H' → Q (.ref p) H') : lstK Q xs H :=
  ⟨Nat.le_trans hz (by decide), fun p hp => q p _ _ (n.exn hp) upd_same (n.newG hp)⟩
theorem w_tupG (n : Now G L H) (hz : xs.length ≤ 100000) (q : ∀ p G' H', Ex G G' → G' p = some (.tup xs) → Now G' L H' → Q (.ref p) H') : tupK Q xs H :=
  ⟨Nat.le_trans hz (by decide), fun p hp => q p _ _ (n.exn hp) upd_same (n.newG hp)⟩
theorem w_for {wi : TI} {g : TG} {tb : TS} {D : Ends} (h : wi σ H fun J H1 => forK J g tb D σ H1) : tFor wi g tb D σ H := h
end w2
end MA
/-! MD: texts by their signs. -/
namespace MA
open PySem PySem.Spec PyProof.Rows L2 SX
section t
variable {K : PySem.W.Frag} {σ : L2.St} {G H : Hp} {L : List (Addr × HO)} {Q : VK} {a p : Addr}
abbrev sg (c : Nat) : V := .str (S [c])
theorem signs_S (l : List Nat) : signs (S l) = l.map sg := rfl
theorem sz {n : Nat} (h : n ≤ 100000) : n ≤ sizeLine := Nat.le_trans h (by decide)
theorem w_addT {l m : List Nat} (h : l.length + m.length ≤ 100000) (q : Q (.str (S (l ++ m))) H) : rAddU K (.str (S l)) (.str (S m)) H Q :=
  w_addS (by rw [S_len, S_len]; exact sz h) (by rw [S_cat]; exact q)
theorem sIx_take (n : Nat) (k : Int) (h : 0 ≤ k) : HT.sIx n n (some k) = min k.toNat n := by
  obtain ⟨j, rfl⟩ : ∃ j : Nat, k = j := ⟨k.toNat, by omega⟩
  exact HT.sIx_nat n n j
theorem sIx_drop (n : Nat) (k : Int) (h : 0 ≤ k) : HT.sIx n 0 (some k) = min k.toNat n := by
  obtain ⟨j, rfl⟩ : ∃ j : Nat, k = j := ⟨k.toNat, by omega⟩
  exact HT.sIx_nat n 0 j
theorem cut_take (l : List Nat) {k : Int} (h : 0 ≤ k) : cutS (S l) none (some k) = S (l.take k.toNat) := by
  unfold cutS
  rw [S_len, sIx_take _ _ h]
  show (⟨((l.drop 0).take (min k.toNat l.length - 0)).toArray⟩ : Str) = _
  rw [List.drop_zero, Nat.sub_zero]
  congr 2
  rw [List.take_eq_take_iff]
  omega
theorem cut_drop (l : List Nat) {k : Int} (h : 0 ≤ k) : cutS (S l) (some k) none = S (l.drop k.toNat) := by
  unfold cutS
  rw [S_len, sIx_drop _ _ h]
  show (⟨((l.drop (min k.toNat l.length)).take (l.length - min k.toNat l.length)).toArray⟩ : Str) = _
  congr 2
  by_cases hk : k.toNat ≤ l.length
  · rw [Nat.min_eq_left hk]
    apply List.take_of_length_le
    rw [List.length_drop]
    omega
  · rw [Nat.min_eq_right (by omega), List.drop_length, List.take_nil, List.drop_of_length_le (by omega)]
theorem w_slTake {l : List Nat} {k : Int} (hl : l.length ≤ 100000) (h : 0 ≤ k) (q : Q (.str (S (l.take k.toNat))) H) : rSlU K (.str (S l)) none (some k) H Q :=
  .inl ⟨S l, rfl, by rw [S_len]; exact sz hl, by rw [cut_take l h]; exact q⟩
theorem w_slDrop {l : List Nat} {k : Int} (hl : l.length ≤ 100000) (h : 0 ≤ k) (q : Q (.str (S (l.drop k.toNat))) H) : rSlU K (.str (S l)) (some k) none H Q :=
  .inl ⟨S l, rfl, by rw [S_len]; exact sz hl, by rw [cut_drop l h]; exact q⟩
theorem w_lenT' {l : List Nat} (h : l.length ≤ 100000) (q : Q (.int (l.length : Nat)) H) : rLenU K [.str (S l)] H Q := w_lenS (by rw [S_len]; exact sz h) (by rw [S_len]; exact q)
theorem w_ixSg {l : List Nat} {j : Int} {c : Nat} (h : l.length ≤ 100000) (ha : atI l j = some c) (q : Q (sg c) H) : rIx K (.str (S l)) (.int j) H Q := w_ixS (by rw [S_len]; exact sz h) ha q
theorem eqT (l m : List Nat) : decide (S l = S m) = decide (l = m) := by
  by_cases h : l = m
  · subst h; simp
  · rw [decide_eq_false h, decide_eq_false fun e => h (S_inj e)]
theorem w_eqT {l m : List Nat} (q : Q (.bl (decide (l = m))) H) : rEqU K (.str (S l)) (.str (S m)) H Q := w_eqS (by rw [eqT]; exact q)
theorem w_neT {l m : List Nat} (q : Q (.bl (!decide (l = m))) H) : rNeU K (.str (S l)) (.str (S m)) H Q := w_neS (by rw [eqT]; exact q)
theorem eqSg (c d : Nat) : decide (([c] : List Nat) = [d]) = decide (c = d) := by simp
/-- ''.join of signs -/
theorem join_nil : ∀ ls : List (List Nat), Txt.join (S []) (ls.map S) = S ls.flatten := by
  intro ls
  rw [TL.join_eq]
  apply TL.ext_tl
  rw [TL.tl_join, List.map_map]
  have e : (TL.tl ∘ S) = id := by funext l; rfl
  rw [e, List.map_id]
  show TL.joinL [] ls = ls.flatten
  induction ls with
  | nil => rfl
  | cons p r ih =>
    cases r with
    | nil => show p = [p].flatten; simp
    | cons q r => show p ++ ([] ++ TL.joinL [] (q :: r)) = _; rw [ih]; simp
theorem sum_len (l : List Nat) : ((l.map fun c => S [c]).map (·.length)).sum = l.length := by
  induction l with
  | nil => rfl
  | cons c l ih => simp only [List.map_cons, List.sum_cons, ih, List.length_cons, S_len]; simp; omega
theorem flat1 (l : List Nat) : (l.map fun c => [c]).flatten = l := by
  induction l with
  | nil => rfl
  | cons c l ih => rw [List.map_cons, List.flatten_cons, ih]; rfl
theorem w_joinSg {l : List Nat} (h : SqL K H p (l.map sg)) (hl : l.length ≤ 100000) (q : Q (.str (S l)) H) : rJoin K (.str (S [])) [.ref p] H Q := by
  refine ⟨S [], p, l.map fun c => S [c], rfl, rfl, .inl ?_, ?_, ?_⟩
  · rw [List.map_map]; exact h
  · rw [sum_len, List.length_map, S_len]
    show l.length + l.length * 0 ≤ _
    omega
  · have e := join_nil (l.map fun c => [c])
    rw [List.map_map] at e
    have e2 : (S ∘ fun c => [c]) = fun c : Nat => S [c] := rfl
    rw [e2] at e
    rw [e]
    rw [flat1]
    exact q
theorem tyV_str {s : Str} : tyV K "str" (.str s) H := rfl
theorem w_tys {s : Str} {B : Prop} (q : B) : tyV K "str" (.str s) H ∧ B := ⟨rfl, q⟩
theorem w_tyl {xs : List V} {B : Prop} (h : H a = some (.lst xs)) (q : B) : tyV K "list" (.ref a) H ∧ B := ⟨.inl ⟨rfl, _, .inl (.inl h)⟩, q⟩
theorem w_append0 {xs : List V} {v : V} (n : Now G ((a, .lst xs) :: L) H) (h : xs.length < 100000) (q : ∀ H', Now G ((a, .lst (xs ++ [v])) :: L) H' → Q .non H') : rAppend (.ref a) [v] H Q :=
  ⟨a, xs, v, rfl, rfl, n.get0, Nat.lt_of_lt_of_le h (by decide), q _ n.set0⟩
theorem w_append1 {e : Addr × HO} {xs : List V} {v : V} (n : Now G (e :: (a, .lst xs) :: L) H) (h : xs.length < 100000) (q : ∀ H', Now G (e :: (a, .lst (xs ++ [v])) :: L) H' → Q .non H') : rAppend (.ref a) [v] H Q :=
  ⟨a, xs, v, rfl, rfl, n.get1, Nat.lt_of_lt_of_le h (by decide), q _ n.set1⟩
/-- list(text) -/
theorem w_listS {l : List Nat} (n : Now G L H) (hl : l.length ≤ 100000) (q : ∀ p H', Now G ((p, .lst (l.map sg)) :: L) H' → H p = none → Q (.ref p) H') : rListU K [.str (S l)] H Q :=
  .inr ⟨S l, rfl, by rw [S_len]; exact sz hl, fun p hp => q p _ (n.newL hp) hp⟩
/-- in a pair of texts made here -/
theorem w_in2 {x u v : List Nat} (n : Now G L H) {p : Addr} (hp : H p = some (.tup [.str (S u), .str (S v)])) (q : Q (.bl (decide (u = x) || decide (v = x))) H) : rInU K (.str (S x)) (.ref p) H Q := by
  refine .inl ⟨p, _, rfl, .inr (sqT hp), rfl, rfl, ?_⟩
  have e : inV (.str (S x)) [.str (S u), .str (S v)] = (decide (u = x) || decide (v = x)) := by
    show ((S u == S x) || ((S v == S x) || false)) = _
    rw [Bool.or_false, S_beq_eq, S_beq_eq]
  show Q (.bl (if false = true then _ else _)) H
  rw [if_neg Bool.false_ne_true, e]
  exact q
theorem w_inSg {c : Nat} {l : List Nat} (q : Q (.bl (decide (c ∈ l))) H) : rInU K (.str (S [c])) (.str (S l)) H Q := .inr ⟨c, S l, rfl, rfl, q⟩
end t
end MA
namespace MA
open PySem PySem.Spec PyProof.Rows L2 SX
local macro_rules | `(tactic| walk_at "s") => `(tactic| (first
  | with_reducible refine w_seq ?_ | with_reducible refine w_asg ?_ | with_reducible refine w_ret ?_ | with_reducible refine w_drop ?_ | with_reducible refine w_ifs ?_ | with_reducible refine w_next ?_ | with_reducible refine w_par ?_ | with_reducible refine w_for ?_
  | with_reducible refine w_op ?_ | ((with_reducible refine w_var (v := ?v) ?h ?_); (case h => exact rfl)) | with_reducible refine w_c ?_ | with_reducible refine w_cons ?_ | with_reducible refine w_nil ?_ | with_reducible refine w_cb ?_ | with_reducible refine w_call ?_ | with_reducible refine w_lst ?_ | with_reducible refine w_tup ?_
  | with_reducible refine w_test ?_ | with_reducible refine w_bl ?_ | with_reducible refine w_tbl ?_ | with_reducible refine w_trth ?_ | with_reducible refine w_if ?_ | with_reducible refine w_not ?_ | with_reducible refine w_and ?_ | with_reducible refine w_or ?_ | with_reducible refine w_andT ?_ | with_reducible refine w_orT ?_ | with_reducible refine w_notT ?_ | with_reducible refine w_chain ?_
  | with_reducible refine w_sl ?_ | with_reducible refine w_nopart ?_ | with_reducible refine w_part ?_ | with_reducible refine w_part1 ?_ | with_reducible refine w_bm ?_ | with_reducible refine w_bm0 ?_ | with_reducible refine w_yes ?_ | with_reducible refine w_lc ?_ | with_reducible refine w_rng1 ?_ | with_reducible refine w_rng2 ?_ | with_reducible refine w_enum ?_ | with_reducible refine w_seqIt ?_ | with_reducible refine w_zip ?_ | with_reducible refine w_ezip ?_ | with_reducible refine w_tys ?_
  | with_reducible refine w_addI ?_ | with_reducible refine w_subI ?_ | with_reducible refine w_gtI ?_ | with_reducible refine w_geI ?_ | with_reducible refine w_ltI ?_ | with_reducible refine w_leI ?_ | with_reducible refine w_eqI ?_ | with_reducible refine w_neI ?_
  | with_reducible refine w_eqT ?_ | with_reducible refine w_neT ?_ | with_reducible refine w_isN ?_ | with_reducible refine w_isntN ?_ | with_reducible refine w_min2 ?_ | with_reducible refine w_max2 ?_ | with_reducible refine w_eqB ?_ | with_reducible refine w_neB ?_
  | with_reducible refine w_abs ?_ | with_reducible refine w_intB ?_ | with_reducible refine w_intI ?_ | with_reducible refine w_gname ?_ | with_reducible refine w_gsub ?_ | with_reducible refine w_gcons ?_ | with_reducible refine w_gnil ?_
  | ((with_reducible refine w_modI ?h ?_); (case h => omega)) | ((with_reducible refine w_fdivI ?h1 ?h2 ?_); (case h1 => omega); (case h2 => omega)) | ((with_reducible refine w_shl1 ?h1 ?h2 ?_); (case h1 => omega); (case h2 => omega))
  | ((with_reducible refine w_rngI ?h1 ?h2 ?_); (case h1 => omega); (case h2 => omega))
  | ((with_reducible refine w_ixL (v := ?v) (xs := ?xs) ?h1 ?h2 ?_); (case h1 => exact sqL (Now.get0 (by assumption))); (case h2 => exact rfl))))
/-- a box that numbers are drawn from -/
def Bx (c : Nat) (o : HO) : Prop := ∃ x y z : Int, o = .lst [.int x, .int y, .int z] ∧ 0 ≤ x ∧ 0 ≤ y ∧ y < 2 ^ 62 ∧ 0 ≤ z ∧ z ≤ (c : Int)
theorem Bx.mono {c c' : Nat} {o : HO} (h : Bx c o) (e : c ≤ c') : Bx c' o := by
  obtain ⟨x, y, z, e1, a, b, d, f, g⟩ := h
  exact ⟨x, y, z, e1, a, b, d, f, by omega⟩
def sp_take (K : PySem.W.Frag) : Sp := fun vs H Q _ => ∃ (G : Hp) (L : List (Addr × HO)) (b : Addr) (o : HO) (c : Nat) (m : Int), vs = [.ref b, .int m] ∧ Now G ((b, o) :: L) H ∧ Bx c o ∧ c < 2 ^ 40 ∧ 0 < m ∧ m < 2 ^ 30 ∧
  ∀ (r : Int) (o' : HO) (H' : Hp), 0 ≤ r → r < m → Bx (c + 1) o' → Now G ((b, o') :: L) H' → Q (.int r) H'
/- _law_box(_law_script, _law_k): 0 _law_script, 1 _law_k, 2 _law_cell -/
def rd_box (K : PySem.W.Frag) : TS := (tSeq (tAsg (tIf (tTest (tOp (rLtU K) (tVar 1) (tCB (rLenU K) (tCons (tVar 0) tNil)))) (tOp (rIx K) (tVar 0) (tVar 1)) (tC (.int 0))) (gName 2))
  (tRet (tLst (tCons (tOp (rMulU K) (tCB rAbs (tCons (tVar 2) tNil)) (tCB rIntU (tCons (tOp rGeU (tCB rAbs (tCons (tVar 2) tNil)) (tOp rPowU (tC (.int 10)) (tC (.int 18)))) tNil))) (tCons (tOp (rAddU K) (tOp (rAddU K) (tOp rModU (tVar 2) (tC (.int 2305843009213693951))) (tOp (rMulU K) (tC (.int 39373)) (tVar 1))) (tC (.int 17))) (tCons (tC (.int 0)) tNil))))))
/- _law_take(_law_box_here, _law_many): 0 _law_box_here, 1 _law_many, 2 _law_found, 3 _law_once, 4 _law_twice -/
def rd_take (K : PySem.W.Frag) : TS := (tSeq (tIfS (tTest (tOp rGtU (tOp (rIx K) (tVar 0) (tC (.int 0))) (tC (.int 0)))) (tSeq (tAsg (tCB rDivmod (tCons (tOp (rIx K) (tVar 0) (tC (.int 0))) (tCons (tVar 1) tNil))) (gTup K 2 (gCons (gSub (tVar 0) (tC (.int 0)) rSetL) (gCons (gName 2) gNil))))
  (tRet (tVar 2))) tNext)
  (tSeq (tAsg (tOp (rAddU K) (tOp (rIx K) (tVar 0) (tC (.int 2))) (tC (.int 1))) (gSub (tVar 0) (tC (.int 2)) rSetL))
  (tSeq (tAsg (tOp rModU (tOp (rMulU K) (tOp (rAddU K) (tOp (rIx K) (tVar 0) (tC (.int 1))) (tOp (rMulU K) (tC (.int 48271)) (tOp (rIx K) (tVar 0) (tC (.int 2))))) (tOp (rAddU K) (tC (.int 39373)) (tOp (rIx K) (tVar 0) (tC (.int 2))))) (tC (.int 2147483647))) (gName 3))
  (tSeq (tAsg (tOp rModU (tOp (rMulU K) (tOp (rAddU K) (tOp (rAddU K) (tVar 3) (tOp (rIx K) (tVar 0) (tC (.int 2)))) (tOp rFdivU (tOp (rIx K) (tVar 0) (tC (.int 1))) (tC (.int 1000003)))) (tOp (rAddU K) (tOp rModU (tVar 3) (tC (.int 40009))) (tC (.int 7)))) (tC (.int 2147483629))) (gName 4))
  (tRet (tOp rModU (tOp rFdivU (tOp rModU (tOp (rAddU K) (tOp (rMulU K) (tVar 4) (tC (.int 48271))) (tVar 3)) (tC (.int 2147483587))) (tC (.int 64))) (tVar 1)))))))
theorem ln_take {K : PySem.W.Frag} {vs : List V} {H : Hp} {Q : VK} {E : XK} (h : sp_take K vs H Q E) : vs.length = 2 := by
  obtain ⟨G, L, b, o, c, m, rfl, _⟩ := h; rfl
theorem ok_rd_take {K : PySem.W.Frag} {vs : List V} {H : Hp} {Q : VK} {E : XK} (h : sp_take K vs H Q E) : rd_take K { nx := fun _ H' => Q .non H', rt := Q } (start ["a", "b", "c", "d", "e"] vs) H := by
  obtain ⟨G, L, b, o, c, m, rfl, n, ⟨x, y, z, rfl, hx, hy, hy', hz, hzc⟩, hc, hm, hm', q⟩ := h
  show rd_take K _ [some (.ref b), some (.int m), none, none, none] H
  unfold rd_take
  repeat walk_at "s"
  refine w_ite (fun e => ?_) (fun e => ?_)
  · have hx0 : 0 < x := of_decide_eq_true e
    repeat walk_at "s"
    refine w_divmod n hm hm' fun p H1 n1 hp => ?_
    refine w_gtup (sqT hp) rfl ?_
    repeat walk_at "s"
    refine w_setL0 n1 rfl fun H2 n2 => ?_
    repeat walk_at "s"
    refine q _ _ _ (Int.emod_nonneg _ (by omega)) (Int.emod_lt_of_pos _ hm) ⟨x / m, y, z, rfl, Int.ediv_nonneg hx (by omega), hy, hy', hz, by omega⟩ n2
  · repeat walk_at "s"
    refine w_setL0 n rfl fun H2 n2 => ?_
    repeat walk_at "s"
    refine w_mulI (.inl ⟨by omega, by omega⟩) ?_
    repeat walk_at "s"
    refine w_mulI (.inr ⟨by omega, by omega⟩) ?_
    repeat walk_at "s"
    generalize ((y + 48271 * (z + 1)) * (39373 + (z + 1))) % 2147483647 = u
    refine w_mulI (.inr ⟨by omega, by omega⟩) ?_
    repeat walk_at "s"
    generalize (u + (z + 1) + y / 1000003) * (u % 40009 + 7) % 2147483629 = u2
    refine w_mulI (.inr ⟨by omega, by omega⟩) ?_
    repeat walk_at "s"
    refine q _ _ _ (Int.emod_nonneg _ (by omega)) (Int.emod_lt_of_pos _ hm) ⟨x, y, z + 1, rfl, hx, hy, hy', by omega, by omega⟩ n2
/-! the box of a cell -/
def sp_box (K : PySem.W.Frag) : Sp := fun vs H Q _ => ∃ (G : Hp) (L : List (Addr × HO)) (a : Addr) (ns : List Int) (k : Int), vs = [.ref a, .int k] ∧ Now G L H ∧ SqL K H a (ns.map V.int) ∧ 0 ≤ k ∧ k < 64 ∧
  ∀ (b : Addr) (o : HO) (H' : Hp), Bx 0 o → Now G ((b, o) :: L) H' → (∀ a o, H a = some o → H' a = some o) → Q (.ref b) H'
theorem ln_box {K : PySem.W.Frag} {vs : List V} {H : Hp} {Q : VK} {E : XK} (h : sp_box K vs H Q E) : vs.length = 2 := by
  obtain ⟨G, L, a, ns, k, rfl, _⟩ := h; rfl
theorem ok_rd_box {K : PySem.W.Frag} {vs : List V} {H : Hp} {Q : VK} {E : XK} (h : sp_box K vs H Q E) : rd_box K { nx := fun _ H' => Q .non H', rt := Q } (start ["a", "b", "c"] vs) H := by
  obtain ⟨G, L, a, ns, k, rfl, n, hS, hk, hk', q⟩ := h
  show rd_box K _ [some (.ref a), some (.int k), none] H
  have fin : ∀ w : Int, ∀ nx : L2.St → Hp → Prop, tRet (tLst (tCons (tOp (rMulU K) (tCB rAbs (tCons (tVar 2) tNil)) (tCB rIntU (tCons (tOp rGeU (tCB rAbs (tCons (tVar 2) tNil)) (tOp rPowU (tC (.int 10)) (tC (.int 18)))) tNil))) (tCons (tOp (rAddU K) (tOp (rAddU K) (tOp rModU (tVar 2) (tC (.int 2305843009213693951))) (tOp (rMulU K) (tC (.int 39373)) (tVar 1))) (tC (.int 17))) (tCons (tC (.int 0)) tNil)))) { nx := nx, rt := Q } [some (.ref a), some (.int k), some (.int w)] H := fun w nx => by
    repeat walk_at "s"
    refine w_powI ⟨by decide, by decide, by decide⟩ ?_
    repeat walk_at "s"
    refine w_mulI (.inr ⟨by split <;> omega, by split <;> omega⟩) ?_
    repeat walk_at "s"
    refine w_mulI (.inl ⟨by omega, by omega⟩) ?_
    repeat walk_at "s"
    refine ⟨by show 3 ≤ sizeLine; decide, fun p hp => ?_⟩
    refine q p _ _ ⟨_, _, _, rfl, Int.mul_nonneg (by split <;> omega) (by split <;> omega), ?_, ?_, by decide, by decide⟩ (n.newL hp) fun a o e => by rw [upd_ne (ne_of_none e hp)]; exact e
    · have := Int.emod_nonneg w (show (2305843009213693951 : Int) ≠ 0 by decide); omega
    · have := Int.emod_lt_of_pos w (show (0 : Int) < 2305843009213693951 by decide); omega
  unfold rd_box
  repeat walk_at "s"
  refine w_lenL hS ?_
  repeat walk_at "s"
  refine w_ite (fun e => ?_) (fun e => ?_)
  · have hl : k < (ns.map V.int).length := of_decide_eq_true e
    rw [List.length_map] at hl
    repeat walk_at "s"
    refine w_ixL hS (v := .int (ns.getD k.toNat 0)) ?_ ?_
    · refine at_of (j := k.toNat) (by omega) ?_
      rw [List.getElem?_map, List.getD_eq_getElem?_getD, List.getElem?_eq_getElem (by omega)]
      rfl
    · exact fin _ _
  · walk_at "s"
    walk_at "s"
    exact fin _ _

/-- a lane's signs -/
def Ln (l : List Nat) : Prop := ∀ c ∈ l, c = 48 ∨ c = 49 ∨ c = 45
theorem Ln.nil : Ln [] := fun _ h => nomatch h
theorem Ln.snoc {l : List Nat} {c : Nat} (h : Ln l) (hc : c = 48 ∨ c = 49 ∨ c = 45) : Ln (l ++ [c]) := fun d hd => by
  rcases List.mem_append.mp hd with h' | h'
  · exact h d h'
  · rw [List.mem_singleton.mp h']; exact hc
theorem Ln.set {l : List Nat} {c k : Nat} (h : Ln l) (hc : c = 48 ∨ c = 49 ∨ c = 45) : Ln (l.set k c) := fun d hd => by
  rcases List.mem_or_eq_of_mem_set hd with h' | h'
  · exact h d h'
  · rw [h']; exact hc
theorem map_set {l : List Nat} {c k : Nat} : (l.map sg).set k (sg c) = (l.set k c).map sg := by
  rw [List.map_set]
theorem ix_lt {n : Nat} {j : Int} (h0 : 0 ≤ j) (h : j < n) : ixN n j = some j.toNat := by
  unfold ixN
  rw [if_pos h0, if_pos h]
/-- one of the written signs -/
theorem at4 {r : Int} (h0 : 0 ≤ r) (h : r < 4) : ∃ c, (c = 48 ∨ c = 49 ∨ c = 45) ∧ atI [sg 48, sg 49, sg 45, sg 45] r = some (sg c) := by
  have : r = 0 ∨ r = 1 ∨ r = 2 ∨ r = 3 := by omega
  rcases this with rfl | rfl | rfl | rfl
  · exact ⟨48, .inl rfl, rfl⟩
  · exact ⟨49, .inr (.inl rfl), rfl⟩
  · exact ⟨45, .inr (.inr rfl), rfl⟩
  · exact ⟨45, .inr (.inr rfl), rfl⟩
theorem at3 {r : Int} (h0 : 0 ≤ r) (h : r < 3) : ∃ c, (c = 48 ∨ c = 49 ∨ c = 45) ∧ atI [sg 48, sg 49, sg 45] r = some (sg c) := by
  have : r = 0 ∨ r = 1 ∨ r = 2 := by omega
  rcases this with rfl | rfl | rfl
  · exact ⟨48, .inl rfl, rfl⟩
  · exact ⟨49, .inr (.inl rfl), rfl⟩
  · exact ⟨45, .inr (.inr rfl), rfl⟩
theorem at2 {r : Int} (h0 : 0 ≤ r) (h : r < 2) : ∃ c, (c = 48 ∨ c = 49) ∧ atI [sg 48, sg 49] r = some (sg c) := by
  have : r = 0 ∨ r = 1 := by omega
  rcases this with rfl | rfl
  · exact ⟨48, .inl rfl, rfl⟩
  · exact ⟨49, .inr rfl, rfl⟩
section
variable {K : PySem.W.Frag} {σ : L2.St} {G H : Hp} {L : List (Addr × HO)} {Q : VK} {b : Addr} {o : HO} {c : Nat} {m : Int} {E : XK}
/-- a draw -/
theorem w_take (n : Now G ((b, o) :: L) H) (hb : Bx c o) (hc : c < 2 ^ 40) (h0 : 0 < m) (h1 : m < 2 ^ 30) (q : ∀ (r : Int) (o' : HO) (H' : Hp), 0 ≤ r → r < m → Bx (c + 1) o' → Now G ((b, o') :: L) H' → Q (.int r) H') :
    sp_take K ([.ref b, .int m] ++ []) H Q E := ⟨G, L, b, o, c, m, rfl, n, hb, hc, h0, h1, q⟩
end
def sp_lane (K : PySem.W.Frag) : Sp := fun vs H Q _ => ∃ (G : Hp) (L : List (Addr × HO)) (b : Addr) (o : HO) (c : Nat) (m : Int) (l : List Nat), vs = [.ref b, .int m, .str (S l)] ∧ Now G ((b, o) :: L) H ∧ Bx c o ∧ c < 2 ^ 39 ∧ 1 ≤ m ∧ m ≤ 14 ∧
  (l = [] ∨ ((l.length : Int) = m ∧ Ln l)) ∧ ∀ (l' : List Nat) (o' : HO) (H' : Hp), (l'.length : Int) = m → Ln l' → Bx (c + 30) o' → Now G ((b, o') :: L) H' → Q (.str (S l')) H'
/- _law_lane(_law_box_here, _law_size, _law_other): 0 _law_box_here, 1 _law_size, 2 _law_other, 3 _law_signs, 4 _law_turn, 5 _law_k -/
def rd_lane (K : PySem.W.Frag) : TS := (tSeq (tAsg (tLc (iRng1 (tCons (tVar 1) tNil)) (gName 5) tYes (tOp (rIx K) (tLst (tCons (tC (.str (SX.S [48]))) (tCons (tC (.str (SX.S [49]))) (tCons (tC (.str (SX.S [45]))) (tCons (tC (.str (SX.S [45]))) tNil))))) (tCall (sp_take K) [] E0 (tCons (tVar 0) (tCons (tC (.int 4)) tNil)))) [5]) (gName 3))
  (tSeq (tIfS (tAnd (tTest (tOp (rNeU K) (tVar 2) (tC (.str (SX.S []))))) (tTest (tOp (rEqU K) (tCall (sp_take K) [] E0 (tCons (tVar 0) (tCons (tC (.int 2)) tNil))) (tC (.int 0))))) (tSeq (tAsg (tCB (rListU K) (tCons (tVar 2) tNil)) (gName 3))
  (tFor (iRng1 (tCons (tOp (rAddU K) (tC (.int 1)) (tCall (sp_take K) [] E0 (tCons (tVar 0) (tCons (tC (.int 2)) tNil)))) tNil)) (gName 4) (tAsg (tOp (rIx K) (tLst (tCons (tC (.str (SX.S [48]))) (tCons (tC (.str (SX.S [49]))) (tCons (tC (.str (SX.S [45]))) tNil)))) (tCall (sp_take K) [] E0 (tCons (tVar 0) (tCons (tC (.int 3)) tNil)))) (gSub (tVar 3) (tCall (sp_take K) [] E0 (tCons (tVar 0) (tCons (tVar 1) tNil))) rSetL)))) tNext)
  (tRet (tBM K "str" (rJoin K) (tC (.str (SX.S []))) (tCons (tVar 3) tNil)))))
theorem ln_lane {K : PySem.W.Frag} {vs : List V} {H : Hp} {Q : VK} {E : XK} (h : sp_lane K vs H Q E) : vs.length = 3 := by
  obtain ⟨G, L, b, o, c, m, l, rfl, _⟩ := h; rfl
theorem ok_rd_lane {K : PySem.W.Frag} {vs : List V} {H : Hp} {Q : VK} {E : XK} (h : sp_lane K vs H Q E) : rd_lane K { nx := fun _ H' => Q .non H', rt := Q } (start ["a", "b", "c", "d", "e", "f"] vs) H := by
  obtain ⟨G, L, b, o, c, m, l, rfl, n, hb, hc, hm, hm', hl, q⟩ := h
  show rd_lane K _ [some (.ref b), some (.int m), some (.str (S l)), none, none, none] H
  unfold rd_lane
  repeat walk_at "s"
  refine lc_now n (fun i acc G' L' => ∃ (ls : List Nat) (o' : HO), acc = ls.map sg ∧ ls.length = i ∧ Ln ls ∧ Bx (c + i) o' ∧ G' = G ∧ L' = (b, o') :: L) ⟨[], o, rfl, rfl, Ln.nil, hb, rfl, rfl⟩ (fun _ _ _ _ _ _ _ => trivial) ?_ ?_
  · rintro D i x H1 H2 acc G' L' hi ⟨ls, o', rfl, hli, hln, hbx, rfl, rfl⟩ n1 ⟨rfl, rfl⟩
    repeat walk_at "s"
    refine ⟨rfl, ?_⟩
    repeat walk_at "s"
    refine w_iteT rfl ?_
    repeat walk_at "s"
    refine w_lstG n1 (by decide) fun p G1 H3 e1 hp n2 => ?_
    repeat walk_at "s"
    refine w_take n2.swap hbx (by omega) (by decide) (by decide) fun r o2 H4 r0 r1 hb2 n3 => ?_
    obtain ⟨cc, hcc, hat⟩ := at4 r0 r1
    refine w_ixL (sqL (n3.ex _ _ hp)) hat ?_
    exact LcP.add (n3.swap.weak e1) (by rw [List.length_map]; omega) ⟨ls ++ [cc], o2, by rw [List.map_append]; rfl, by rw [List.length_append, hli]; rfl, hln.snoc hcc, hb2, rfl, rfl⟩
  · rintro D H1 acc G' L' ⟨ls, o', rfl, hli, hln, hbx, rfl, rfl⟩ n1
    have hlm : (ls.length : Int) = m := by omega
    -- ''.join(signs)
    have fin : ∀ (ls : List Nat) (o' : HO) (D : Addr) (H1 : Hp) (L' : List (Addr × HO)) (u v : Option V), (ls.length : Int) = m → Ln ls → Bx (c + 30) o' → Now G' ((D, .lst (ls.map sg)) :: (b, o') :: L) H1 →
        tRet (tBM K "str" (rJoin K) (tC (V.str (S []))) (tCons (tVar 3) tNil)) { nx := fun _ H' => Q .non H', rt := Q } [some (.ref b), some (.int m), some (.str (S l)), some (.ref D), u, v] H1 := fun ls o' D H1 L' u v hlm hln hbx n1 => by
      repeat walk_at "s"
      refine w_joinSg (sqL n1.get0) (by omega) ?_
      exact q ls o' H1 hlm hln hbx n1.drop
    repeat walk_at "s"
    refine w_ite (fun e => ?_) (fun e => ?_)
    · rcases hl with rfl | ⟨hl, hll⟩
      · simp at e
      · repeat walk_at "s"
        refine w_take n1.swap hbx (by omega) (by decide) (by decide) fun r o2 H4 r0 r1 hb2 n3 => ?_
        repeat walk_at "s"
        refine w_ite (fun e2 => ?_) (fun e2 => ?_)
        · repeat walk_at "s"
          refine w_listS n3.swap.drop (by omega) fun D2 H5 n4 _ => ?_
          repeat walk_at "s"
          refine w_take n4.swap hb2 (by omega) (by decide) (by decide) fun r3 o3 H6 r30 r31 hb3 n5 => ?_
          repeat walk_at "s"
          refine for_k (fun i σ H => ∃ (ls' : List Nat) (o' : HO) (u : Option V), σ = [some (.ref b), some (.int m), some (.str (S l)), some (.ref D2), u, none] ∧ (ls'.length : Int) = m ∧ Ln ls' ∧ Bx (c + m.toNat + 2 + 2 * i) o' ∧ Now G' ((D2, .lst (ls'.map sg)) :: (b, o') :: L) H)
            ⟨l, o3, none, rfl, hl, hll, hb3, n5.swap⟩ (fun _ _ _ _ => trivial) ?_ ?_
          · rintro i x σ H7 H8 hi ⟨ls', o4, u, rfl, hl4, hln4, hb4, n6⟩ ⟨rfl, rfl⟩
            repeat walk_at "s"
            refine w_lstG n6 (by decide) fun p G1 H9 e1 hp n7 => ?_
            repeat walk_at "s"
            refine w_take n7.swap hb4 (by omega) (by decide) (by decide) fun r5 o5 H10 r50 r51 hb5 n8 => ?_
            obtain ⟨cc, hcc, hat⟩ := at3 r50 r51
            refine w_ixL (sqL (n8.ex _ _ hp)) hat ?_
            repeat walk_at "s"
            refine w_take n8 hb5 (by omega) (by omega) (by omega) fun r6 o6 H11 r60 r61 hb6 n9 => ?_
            refine w_setL0 n9.swap (ix_lt r60 (by rw [List.length_map]; omega)) fun H12 n10 => ?_
            rw [map_set] at n10
            exact ⟨ls'.set r6.toNat cc, o6, _, rfl, by rw [List.length_set]; exact hl4, hln4.set hcc, hb6.mono (by omega), n10.weak e1⟩
          · rintro σ H7 ⟨ls', o4, u, rfl, hl4, hln4, hb4, n6⟩
            exact fin ls' o4 D2 H7 L u none hl4 hln4 (hb4.mono (by omega)) n6
        · walk_at "s"
          exact fin ls o2 D H4 L none none hlm hln (hb2.mono (by omega)) n3.swap
    · refine w_iteF rfl ?_
      walk_at "s"
      exact fin ls o' D H1 L none none hlm hln (hbx.mono (by omega)) n1

/-! PA: lanes as lists of signs, in plain Lean. -/
/-- the places at which two lanes differ -/
def unl (l m : List Nat) : List Nat := (List.range l.length).filter fun k => decide (l[k]? ≠ m[k]?)
def oneOf (l m : List Nat) : Option (List Nat) := match unl l m with
  | [p] => if l[p]? = some 45 ∨ m[p]? = some 45 then none else some (l.take p ++ 45 :: l.drop (p + 1))
  | _ => none
/-- whether a lane takes bits -/
def tk (b : Nat → Nat) (l : List Nat) : Bool := (List.range l.length).all fun k => decide (l[k]? = some 45) || decide (l[k]? = some (48 + b k))
theorem unl_comm {l m : List Nat} (h : l.length = m.length) : unl m l = unl l m := by
  unfold unl
  rw [h]
  apply List.filter_congr
  intro k _
  rw [decide_eq_decide]
  exact ⟨fun q e => q e.symm, fun q e => q e.symm⟩
theorem unl_self (l : List Nat) : unl l l = [] := by
  unfold unl
  simp
theorem unl_one {l m : List Nat} {p : Nat} (e : unl l m = [p]) : p < l.length ∧ l[p]? ≠ m[p]? ∧ ∀ k, k < l.length → k ≠ p → l[k]? = m[k]? := by
  have hp : p ∈ unl l m := by rw [e]; exact List.mem_singleton.mpr rfl
  unfold unl at hp
  rw [List.mem_filter, List.mem_range] at hp
  refine ⟨hp.1, of_decide_eq_true hp.2, fun k hk hkp => ?_⟩
  apply Classical.byContradiction
  intro hne
  have : k ∈ unl l m := by
    unfold unl
    rw [List.mem_filter, List.mem_range]
    exact ⟨hk, decide_eq_true hne⟩
  rw [e] at this
  exact hkp (List.mem_singleton.mp this)
theorem get_put {l : List Nat} {p c k : Nat} (hp : p < l.length) : (l.take p ++ c :: l.drop (p + 1))[k]? = if k = p then some c else l[k]? := by
  rw [show l.take p ++ c :: l.drop (p + 1) = l.set p c from (List.set_eq_take_append_cons_drop ..).trans (if_pos hp) |>.symm]
  rw [List.getElem?_set]
  by_cases e : p = k
  · subst e; simp [hp]
  · rw [if_neg e, if_neg (fun h => e h.symm)]
theorem len_put {l : List Nat} {p c : Nat} (hp : p < l.length) : (l.take p ++ c :: l.drop (p + 1)).length = l.length := by
  rw [List.length_append, List.length_cons, List.length_take, List.length_drop]
  omega
theorem oneOf_some {l m f : List Nat} (e : oneOf l m = some f) : ∃ p, unl l m = [p] ∧ l[p]? ≠ some 45 ∧ m[p]? ≠ some 45 ∧ f = l.take p ++ 45 :: l.drop (p + 1) := by
  unfold oneOf at e
  split at e
  · rename_i p h
    split at e
    · cases e
    · rename_i hn
      rw [not_or] at hn
      exact ⟨p, h, hn.1, hn.2, (Option.some.inj e).symm⟩
  · cases e
theorem oneOf_len {l m f : List Nat} (e : oneOf l m = some f) : f.length = l.length := by
  obtain ⟨p, h, _, _, rfl⟩ := oneOf_some e
  exact len_put (unl_one h).1
theorem oneOf_comm {l m : List Nat} (h : l.length = m.length) : oneOf m l = oneOf l m := by
  have hu := unl_comm h
  unfold oneOf
  rw [hu]
  cases hx : unl l m with
  | nil => rfl
  | cons p r =>
    cases r with
    | cons _ _ => rfl
    | nil =>
      show (if m[p]? = some 45 ∨ l[p]? = some 45 then none else some (m.take p ++ 45 :: m.drop (p + 1))) = if l[p]? = some 45 ∨ m[p]? = some 45 then none else some (l.take p ++ 45 :: l.drop (p + 1))
      obtain ⟨hp, _, hk⟩ := unl_one hx
      by_cases hc : l[p]? = some 45 ∨ m[p]? = some 45
      · rw [if_pos hc, if_pos hc.symm]
      · rw [if_neg hc, if_neg (fun z => hc z.symm)]
        congr 1
        apply List.ext_getElem?
        intro k
        rw [get_put (by omega), get_put hp]
        by_cases e : k = p
        · rw [if_pos e, if_pos e]
        · rw [if_neg e, if_neg e]
          by_cases hkl : k < l.length
          · exact (hk k hkl e).symm
          · rw [List.getElem?_eq_none (by omega), List.getElem?_eq_none (by omega)]
theorem oneOf_self (l : List Nat) : oneOf l l = none := by
  unfold oneOf
  rw [unl_self]
theorem tk_iff {b : Nat → Nat} {l : List Nat} : tk b l = true ↔ ∀ k, k < l.length → l[k]? = some 45 ∨ l[k]? = some (48 + b k) := by
  unfold tk
  rw [List.all_eq_true]
  constructor
  · intro h k hk
    have := h k (List.mem_range.mpr hk)
    rw [Bool.or_eq_true, decide_eq_true_eq, decide_eq_true_eq] at this
    exact this
  · intro h k hk
    rw [Bool.or_eq_true, decide_eq_true_eq, decide_eq_true_eq]
    exact h k (List.mem_range.mp hk)
theorem tk_one {l m f : List Nat} {b : Nat → Nat} (h : l.length = m.length) (hl : ∀ c ∈ l, c = 48 ∨ c = 49 ∨ c = 45) (hm : ∀ c ∈ m, c = 48 ∨ c = 49 ∨ c = 45) (hb : ∀ k, b k = 0 ∨ b k = 1) (e : oneOf l m = some f) :
    tk b f = (tk b l || tk b m) := by
  obtain ⟨p, hu, n1, n2, rfl⟩ := oneOf_some e
  obtain ⟨hp, hne, hk⟩ := unl_one hu
  have hpm : p < m.length := by omega
  have e1 : l[p]? = some l[p] := List.getElem?_eq_getElem hp
  have e2 : m[p]? = some m[p] := List.getElem?_eq_getElem hpm
  have c1 := hl _ (List.getElem_mem hp)
  have c2 := hm _ (List.getElem_mem hpm)
  rw [e1] at n1 hne
  rw [e2] at n2 hne
  have d1 : l[p] ≠ 45 := fun z => n1 (by rw [z])
  have d2 : m[p] ≠ 45 := fun z => n2 (by rw [z])
  have d3 : l[p] ≠ m[p] := fun z => hne (by rw [z])
  rw [Bool.eq_iff_iff, Bool.or_eq_true, tk_iff, tk_iff, tk_iff]
  rw [len_put hp]
  constructor
  · intro hf
    have rest : ∀ k, k < l.length → k ≠ p → l[k]? = some 45 ∨ l[k]? = some (48 + b k) := fun k hkl hkp => by
      have := hf k hkl
      rw [get_put hp, if_neg hkp] at this
      exact this
    have hbp := hb p
    by_cases hx : l[p] = 48 + b p
    · left
      intro k hkl
      by_cases hkp : k = p
      · subst hkp; right; rw [e1, hx]
      · exact rest k hkl hkp
    · right
      intro k hkl
      by_cases hkp : k = p
      · subst hkp; right; rw [e2]; congr 1; omega
      · rw [← hk k (by omega) hkp]; exact rest k (by omega) hkp
  · intro hf k hkl
    rw [get_put hp]
    by_cases hkp : k = p
    · rw [if_pos hkp]; exact .inl rfl
    · rw [if_neg hkp]
      rcases hf with hf | hf
      · exact hf k hkl
      · rw [hk k hkl hkp]; exact hf k (by omega)

theorem pow_small {k : Nat} (h : k ≤ 64) : (0 : Int) < 2 ^ k ∧ (2 : Int) ^ k ≤ 18446744073709551616 := by
  have h1 : (2 : Nat) ^ k ≤ 2 ^ 64 := Nat.pow_le_pow_right (by decide) h
  have h2 : 0 < (2 : Nat) ^ k := Nat.pow_pos (by decide)
  have e : ((2 ^ k : Nat) : Int) = (2 : Int) ^ k := by push_cast; rfl
  have h3 : ((2 ^ 64 : Nat)) = 18446744073709551616 := by decide
  omega
theorem pow_16 {k : Nat} (h : k ≤ 16) : (0 : Int) < 2 ^ k ∧ (2 : Int) ^ k ≤ 65536 := by
  have h1 : (2 : Nat) ^ k ≤ 2 ^ 16 := Nat.pow_le_pow_right (by decide) h
  have h2 : 0 < (2 : Nat) ^ k := Nat.pow_pos (by decide)
  have e : ((2 ^ k : Nat) : Int) = (2 : Int) ^ k := by push_cast; rfl
  have h3 : ((2 ^ 16 : Nat)) = 65536 := by decide
  omega
theorem range_snoc {α : Type} (F : Nat → α) (i : Nat) : (List.range (i + 1)).map F = (List.range i).map F ++ [F i] := by
  rw [List.range_succ, List.map_append]; rfl
def optV : Option (List Nat) → V
  | none => .non
  | some l => .str (S l)
/-- the bit of a number at a place of a width -/
def bitA (w n : Int) (k : Nat) : Nat := (n / 2 ^ (w - 1 - k).toNat % 2).toNat
theorem bitA_01 (w n : Int) (k : Nat) : bitA w n k = 0 ∨ bitA w n k = 1 := by
  unfold bitA
  have := Int.emod_nonneg (n / 2 ^ (w - 1 - (k : Int)).toNat) (show (2 : Int) ≠ 0 by decide)
  have := Int.emod_lt_of_pos (n / 2 ^ (w - 1 - (k : Int)).toNat) (show (0 : Int) < 2 by decide)
  omega
theorem bitA_int (w n : Int) (k : Nat) : ((bitA w n k : Nat) : Int) = n / 2 ^ (w - 1 - k).toNat % 2 := by
  unfold bitA
  exact Int.toNat_of_nonneg (Int.emod_nonneg _ (by decide))
theorem int48 : PySem.intText? (S [48]) = some 0 := by decide +kernel
theorem int49 : PySem.intText? (S [49]) = some 1 := by decide +kernel
theorem get_of {l : List Nat} {i : Nat} {x : V} (h : (l.map sg)[i]? = some x) : ∃ c, l[i]? = some c ∧ x = sg c := by
  rw [List.getElem?_map] at h
  cases e : l[i]? with
  | none => rw [e] at h; cases h
  | some c => rw [e] at h; exact ⟨c, rfl, (Option.some.inj h).symm⟩
/-! ### takes -/
def sp_takes (K : PySem.W.Frag) : Sp := fun vs H Q _ => ∃ (G : Hp) (L : List (Addr × HO)) (l : List Nat) (w n : Int), vs = [.str (S l), .int w, .int n] ∧ Now G L H ∧ Ln l ∧ (l.length : Int) = w ∧ w ≤ 14 ∧
  ∀ H', Now G L H' → Q (.bl (tk (bitA w n) l)) H'
/- _law_takes(_law_lane_here, _law_size, _law_number): 0 _law_lane_here, 1 _law_size, 2 _law_number, 3 _law_k, 4 _law_sign -/
def rd_takes (K : PySem.W.Frag) : TS := (tRet (tCB (rAll K) (tCons (tLc (iEnumS K (tCons (tVar 0) tNil)) (gTup K 2 (gCons (gName 3) (gCons (gName 4) gNil))) tYes (tOrT K (tOp (rEqU K) (tVar 4) (tC (.str (SX.S [45])))) (tOp (rEqU K) (tCB rIntU (tCons (tVar 4) tNil)) (tOp rModU (tOp rFdivU (tVar 2) (tOp rShlU (tC (.int 1)) (tOp rSubU (tOp rSubU (tVar 1) (tC (.int 1))) (tVar 3)))) (tC (.int 2))))) [3, 4]) tNil)))
theorem ln_takes {K : PySem.W.Frag} {vs : List V} {H : Hp} {Q : VK} {E : XK} (h : sp_takes K vs H Q E) : vs.length = 3 := by
  obtain ⟨G, L, l, w, n, rfl, _⟩ := h; rfl
theorem ok_rd_takes {K : PySem.W.Frag} {vs : List V} {H : Hp} {Q : VK} {E : XK} (h : sp_takes K vs H Q E) : rd_takes K { nx := fun _ H' => Q .non H', rt := Q } (start ["a", "b", "c", "d", "e"] vs) H := by
  obtain ⟨G, L, l, w, n, rfl, nw, hln, hlw, hw, q⟩ := h
  show rd_takes K _ [some (.str (S l)), some (.int w), some (.int n), none, none] H
  unfold rd_takes
  repeat walk_at "s"
  refine w_enumI (.str (S l)) _ rfl ?_
  refine lc_now nw (fun i acc G' L' => acc = ((List.range i).map fun k => decide (l[k]? = some 45) || decide (l[k]? = some (48 + bitA w n k))).map V.bl ∧ G' = G ∧ L' = L) ⟨rfl, rfl, rfl⟩ (fun _ _ _ _ _ _ _ => rfl) ?_ ?_
  · rintro D i x H1 H2 acc G' L' hi ⟨rfl, rfl, rfl⟩ n1 ⟨T, x', rfl, hT, rfl, hx⟩
    rw [signs_S] at hx
    obtain ⟨c, hc, rfl⟩ := get_of hx
    have hil : i < l.length := by rw [signs_S, List.length_map] at hi; exact hi
    have n2 := n1.new (o := .tup [.int (i : Nat), sg c]) hT
    refine w_gtup (sqT upd_same) rfl ?_
    repeat walk_at "s"
    refine ⟨rfl, ?_⟩
    repeat walk_at "s"
    refine w_iteT rfl ?_
    repeat walk_at "s"
    have hcc := hln c (List.mem_of_getElem? hc)
    have add : ∀ (H3 : Hp) (b : Bool), Now G' ((D, .lst (((List.range i).map fun k => decide (l[k]? = some 45) || decide (l[k]? = some (48 + bitA w n k))).map V.bl)) :: L') H3 → b = (decide (l[i]? = some 45) || decide (l[i]? = some (48 + bitA w n i))) →
        ∃ acc, H3 D = some (.lst acc) ∧ acc.length < sizeLine ∧ LcP (fun i acc G'' L'' => acc = ((List.range i).map fun k => decide (l[k]? = some 45) || decide (l[k]? = some (48 + bitA w n k))).map V.bl ∧ G'' = G' ∧ L'' = L') D (i + 1) (upd H3 D (.lst (acc ++ [.bl b]))) := fun H3 b n3 e => by
      refine LcP.add n3 (by rw [List.length_map, List.length_map, List.length_range]; omega) ⟨?_, rfl, rfl⟩
      rw [range_snoc, List.map_append, e]
      rfl
    refine w_ite (fun e => ?_) (fun e => ?_)
    · refine add _ _ n2 ?_
      rw [e, hc]
      have : c = 45 := by simpa using e
      subst this
      simp
    · have hne : c ≠ 45 := by simpa using e
      repeat walk_at "s"
      refine w_intS (j := ((c - 48 : Nat) : Int)) ?_ (by rw [S_len]; exact Nat.le_of_ble_eq_true rfl) ?_
      · rcases hcc with rfl | rfl | rfl
        · exact int48
        · exact int49
        · exact absurd rfl hne
      repeat walk_at "s"
      have hp := pow_small (k := (w - 1 - (i : Int)).toNat) (by omega)
      refine w_fdivI hp.1 (by omega) ?_
      repeat walk_at "s"
      refine add _ _ n2 ?_
      rw [hc, ← bitA_int]
      have hb := bitA_01 w n i
      have h1 : decide (some c = some 45) = false := by simpa using hne
      rw [h1, Bool.false_or]
      rcases hcc with rfl | rfl | rfl
      · rcases hb with hb | hb <;> rw [hb] <;> decide
      · rcases hb with hb | hb <;> rw [hb] <;> decide
      · exact absurd rfl hne
  · rintro D H1 acc G' L' ⟨rfl, rfl, rfl⟩ n1
    repeat walk_at "s"
    refine ⟨D, _, rfl, sqL n1.get0, ?_⟩
    have e : (List.map (fun k => decide (l[k]? = some 45) || decide (l[k]? = some (48 + bitA w n k))) (List.range (signs (S l)).length)).all id = tk (bitA w n) l := by
      rw [signs_S, List.length_map, List.all_map]
      rfl
    rw [e]
    exact q H1 n1.drop

theorem fr_yes {p : Nat → Bool} {i : Nat} (h : p i = true) : (List.range (i + 1)).filter p = (List.range i).filter p ++ [i] := by
  rw [List.range_succ, List.filter_append, List.filter_cons, if_pos h]; rfl
theorem fr_no {p : Nat → Bool} {i : Nat} (h : p i = false) : (List.range (i + 1)).filter p = (List.range i).filter p := by
  rw [List.range_succ, List.filter_append, List.filter_cons, h]; simp
theorem fr_len {p : Nat → Bool} {i : Nat} : ((List.range i).filter p).length ≤ i := by
  have := List.length_filter_le p (List.range i)
  rw [List.length_range] at this
  exact this
abbrev nums (l : List Nat) : List V := l.map fun k => V.int (k : Nat)
theorem at_get {l : List Nat} {p : Nat} {c : Nat} (h : l[p]? = some c) : atI l (p : Int) = some c := atI_nat h
section
variable {K : PySem.W.Frag} {G H : Hp} {L : List (Addr × HO)} {Q : VK} {D : Addr}
/-- lane[:p] + '-' + lane[p + 1:], the place p the first of a list -/
theorem w_put {l : List Nat} {p : Nat} {σ : L2.St} (hσ0 : σ[0]? = some (some (.str (S l)))) (hσ2 : σ[2]? = some (some (.ref D))) (n : Now G ((D, .lst (nums [p])) :: L) H) (hl : l.length ≤ 14) (hp : p < l.length) (q : Q (.str (S (l.take p ++ 45 :: l.drop (p + 1)))) H) :
    tOp (rAddU K) (tOp (rAddU K) (tSl (rSlU K) (tVar 0) tNoPart (tPart (tOp (rIx K) (tVar 2) (tC (.int 0))))) (tC (.str (S [45])))) (tSl (rSlU K) (tVar 0) (tPart (tOp (rAddU K) (tOp (rIx K) (tVar 2) (tC (.int 0))) (tC (.int 1)))) tNoPart) σ H Q := by
  refine w_op (w_op (w_sl (w_var hσ0 (w_nopart (w_part (w_op (w_var hσ2 (w_c ?_))))))))
  repeat walk_at "s"
  refine w_slTake (by omega) (by omega) ?_
  repeat walk_at "s"
  refine w_addT (by rw [List.length_take]; simp; omega) ?_
  refine w_sl (w_var hσ0 (w_part (w_op (w_op (w_var hσ2 (w_c ?_))))))
  repeat walk_at "s"
  refine w_slDrop (by omega) (by omega) ?_
  repeat walk_at "s"
  refine w_addT (by rw [List.length_append, List.length_take, List.length_drop]; simp; omega) ?_
  have e1 : ((p : Int)).toNat = p := by omega
  have e2 : ((p : Int) + 1).toNat = p + 1 := by omega
  rw [e1, e2, List.append_assoc]
  exact q
end
/-! ### due, one_of -/
def spOne (K : PySem.W.Frag) : Sp := fun vs H Q _ => ∃ (G : Hp) (L : List (Addr × HO)) (l m : List Nat), vs = [.str (S l), .str (S m)] ∧ Now G L H ∧ l.length = m.length ∧ l.length ≤ 14 ∧ ∀ H', Now G L H' → Q (optV (oneOf l m)) H'
def sp_due := spOne
def sp_one_of := spOne
theorem unl_lt {l m : List Nat} {p : Nat} (e : unl l m = [p]) : p < l.length := (unl_one e).1
/- one_of(lane, other): 0 lane, 1 other, 2 places, 3 place, 4 one, 5 two -/
def rd_one_of (K : PySem.W.Frag) : TS := (tSeq (tAsg (tLc (iEnumZipS K (tCons (tVar 0) (tCons (tVar 1) tNil)) (tCons (tC (.bl true)) tNil)) (gTup K 2 (gCons (gName 3) (gCons (gTup K 2 (gCons (gName 4) (gCons (gName 5) gNil))) gNil))) (tTest (tOp (rNeU K) (tVar 4) (tVar 5))) (tVar 3) [3, 4, 5]) (gName 2))
  (tSeq (tIfS (tOr (tTest (tOp (rNeU K) (tCB (rLenU K) (tCons (tVar 2) tNil)) (tC (.int 1)))) (tTest (tOp (rInU K) (tC (.str (SX.S [45]))) (tTup (tCons (tOp (rIx K) (tVar 0) (tOp (rIx K) (tVar 2) (tC (.int 0)))) (tCons (tOp (rIx K) (tVar 1) (tOp (rIx K) (tVar 2) (tC (.int 0)))) tNil)))))) (tRet (tC .non)) tNext)
  (tRet (tOp (rAddU K) (tOp (rAddU K) (tSl (rSlU K) (tVar 0) tNoPart (tPart (tOp (rIx K) (tVar 2) (tC (.int 0))))) (tC (.str (SX.S [45])))) (tSl (rSlU K) (tVar 0) (tPart (tOp (rAddU K) (tOp (rIx K) (tVar 2) (tC (.int 0))) (tC (.int 1)))) tNoPart)))))
/- _law_due(_law_lane_here, _law_other): 0 _law_lane_here, 1 _law_other, 2 _law_unlike, 3 _law_k, 4 _law_sign -/
def rd_due (K : PySem.W.Frag) : TS := (tSeq (tAsg (tLc (iEnumS K (tCons (tVar 0) tNil)) (gTup K 2 (gCons (gName 3) (gCons (gName 4) gNil))) (tTest (tOp (rNeU K) (tVar 4) (tOp (rIx K) (tVar 1) (tVar 3)))) (tVar 3) [3, 4]) (gName 2))
  (tSeq (tIfS (tOr (tTest (tOp (rNeU K) (tCB (rLenU K) (tCons (tVar 2) tNil)) (tC (.int 1)))) (tTest (tOp (rInU K) (tC (.str (SX.S [45]))) (tOp (rAddU K) (tOp (rIx K) (tVar 0) (tOp (rIx K) (tVar 2) (tC (.int 0)))) (tOp (rIx K) (tVar 1) (tOp (rIx K) (tVar 2) (tC (.int 0)))))))) (tRet (tC .non)) tNext)
  (tRet (tOp (rAddU K) (tOp (rAddU K) (tSl (rSlU K) (tVar 0) tNoPart (tPart (tOp (rIx K) (tVar 2) (tC (.int 0))))) (tC (.str (SX.S [45])))) (tSl (rSlU K) (tVar 0) (tPart (tOp (rAddU K) (tOp (rIx K) (tVar 2) (tC (.int 0))) (tC (.int 1)))) tNoPart)))))
theorem ln_due {K : PySem.W.Frag} {vs : List V} {H : Hp} {Q : VK} {E : XK} (h : sp_due K vs H Q E) : vs.length = 2 := by
  obtain ⟨G, L, l, m, rfl, _⟩ := h; rfl
theorem ln_one_of {K : PySem.W.Frag} {vs : List V} {H : Hp} {Q : VK} {E : XK} (h : sp_one_of K vs H Q E) : vs.length = 2 := by
  obtain ⟨G, L, l, m, rfl, _⟩ := h; rfl
theorem ok_rd_due {K : PySem.W.Frag} {vs : List V} {H : Hp} {Q : VK} {E : XK} (h : sp_due K vs H Q E) : rd_due K { nx := fun _ H' => Q .non H', rt := Q } (start ["a", "b", "c", "d", "e"] vs) H := by
  obtain ⟨G, L, l, m, rfl, nw, hlm, hl, q⟩ := h
  show rd_due K _ [some (.str (S l)), some (.str (S m)), none, none, none] H
  unfold rd_due
  repeat walk_at "s"
  refine w_enumI (.str (S l)) _ rfl ?_
  refine lc_now nw (fun i acc G' L' => acc = nums ((List.range i).filter fun k => decide (l[k]? ≠ m[k]?)) ∧ G' = G ∧ L' = L) ⟨rfl, rfl, rfl⟩ (fun _ _ _ _ _ _ _ => rfl) ?_ ?_
  · rintro D i x H1 H2 acc G' L' hi ⟨rfl, rfl, rfl⟩ n1 ⟨T, x', rfl, hT, rfl, hx⟩
    rw [signs_S] at hx
    obtain ⟨c, hc, rfl⟩ := get_of hx
    have hil : i < l.length := by rw [signs_S, List.length_map] at hi; exact hi
    have n2 := n1.new (o := .tup [.int (i : Nat), sg c]) hT
    have hm : m[i]? = some m[i] := List.getElem?_eq_getElem (by omega)
    refine w_gtup (sqT upd_same) rfl ?_
    repeat walk_at "s"
    refine ⟨rfl, ?_⟩
    repeat walk_at "s"
    refine w_ixSg (by omega) (at_get hm) ?_
    repeat walk_at "s"
    refine w_ite (fun e => ?_) (fun e => ?_)
    · repeat walk_at "s"
      refine LcP.add n2 (by rw [List.length_map]; exact Nat.lt_of_le_of_lt fr_len (by omega)) ⟨?_, rfl, rfl⟩
      rw [fr_yes (by rw [hc, hm]; simpa using e)]
      simp [nums]
    · refine ⟨_, _, _, ⟨?_, rfl, rfl⟩, n2⟩
      rw [fr_no (by rw [hc, hm]; simpa using e)]
  · rintro D H1 acc G' L' ⟨rfl, rfl, rfl⟩ n1
    have eu : (List.range (signs (S l)).length).filter (fun k => decide (l[k]? ≠ m[k]?)) = unl l m := by rw [signs_S, List.length_map]; rfl
    rw [eu] at n1
    repeat walk_at "s"
    refine w_lenL (sqL n1.get0) ?_
    repeat walk_at "s"
    cases hu : unl l m with
    | nil =>
      rw [hu] at n1
      refine w_iteT rfl (w_iteT rfl ?_)
      repeat walk_at "s"
      have e : oneOf l m = none := by unfold oneOf; rw [hu]
      have := q H1 n1.drop
      rw [e] at this
      exact this
    | cons p r =>
      rw [hu] at n1
      cases r with
      | cons p2 r2 =>
        refine w_iteT ?_ (w_iteT rfl ?_)
        · rw [List.length_map, List.length_cons, List.length_cons]
          have : ¬ (((r2.length + 1 + 1 : Nat) : Int) = 1) := by omega
          rw [decide_eq_false this]; rfl
        repeat walk_at "s"
        have e : oneOf l m = none := by unfold oneOf; rw [hu]
        have := q H1 n1.drop
        rw [e] at this
        exact this
      | nil =>
        have hp := unl_lt hu
        have c1 : l[p]? = some l[p] := List.getElem?_eq_getElem hp
        have c2 : m[p]? = some m[p] := List.getElem?_eq_getElem (by omega)
        refine w_iteF rfl ?_
        repeat walk_at "s"
        refine w_ixSg (by omega) (at_get c1) ?_
        repeat walk_at "s"
        refine w_ixSg (by omega) (at_get c2) ?_
        refine w_addT (by simp) ?_
        refine w_inSg ?_
        repeat walk_at "s"
        refine w_ite (fun e => ?_) (fun e => ?_)
        · repeat walk_at "s"
          have e2 : l[p]? = some 45 ∨ m[p]? = some 45 := by
            rw [c1, c2]
            have : 45 = l[p] ∨ 45 = m[p] := by simpa using e
            exact this.imp (fun z => by rw [← z]) (fun z => by rw [← z])
          have e : oneOf l m = none := by unfold oneOf; rw [hu]; exact if_pos e2
          have := q H1 n1.drop
          rw [e] at this
          exact this
        · repeat (first | (with_reducible refine w_next ?_) | (with_reducible refine w_ret ?_))
          refine w_put rfl rfl n1 hl hp ?_
          have e2 : ¬ (l[p]? = some 45 ∨ m[p]? = some 45) := by
            rw [c1, c2]
            have : ¬ (45 = l[p] ∨ 45 = m[p]) := by simpa using e
            exact fun z => this (z.imp (fun z => (Option.some.inj z).symm) (fun z => (Option.some.inj z).symm))
          have e : oneOf l m = some (l.take p ++ 45 :: l.drop (p + 1)) := by unfold oneOf; rw [hu]; exact if_neg e2
          have := q H1 n1.drop
          rw [e] at this
          exact this

theorem ok_rd_one_of {K : PySem.W.Frag} {vs : List V} {H : Hp} {Q : VK} {E : XK} (h : sp_one_of K vs H Q E) : rd_one_of K { nx := fun _ H' => Q .non H', rt := Q } (start ["a", "b", "c", "d", "e", "f"] vs) H := by
  obtain ⟨G, L, l, m, rfl, nw, hlm, hl, q⟩ := h
  show rd_one_of K _ [some (.str (S l)), some (.str (S m)), none, none, none, none] H
  unfold rd_one_of
  repeat walk_at "s"
  refine w_ezipI (.str (S l)) (.str (S m)) _ _ rfl rfl (by rw [signs_S, signs_S, List.length_map, List.length_map]; exact hlm) ?_
  refine lc_now nw (fun i acc G' L' => acc = nums ((List.range i).filter fun k => decide (l[k]? ≠ m[k]?)) ∧ G' = G ∧ L' = L) ⟨rfl, rfl, rfl⟩ (fun _ _ _ _ _ _ _ => ⟨rfl, rfl⟩) ?_ ?_
  · rintro D i x H1 H2 acc G' L' hi ⟨rfl, rfl, rfl⟩ n1 ⟨T, T2, x', y', rfl, hT, hT2, rfl, hx, hy⟩
    rw [signs_S] at hx hy
    obtain ⟨c, hc, rfl⟩ := get_of hx
    obtain ⟨d, hd, rfl⟩ := get_of hy
    have hil : i < l.length := by rw [signs_S, List.length_map] at hi; exact hi
    have n2 := (n1.newG (o := .tup [sg c, sg d]) hT).new (o := .tup [.int (i : Nat), .ref T]) hT2
    refine w_gtup (sqT upd_same) rfl ?_
    repeat walk_at "s"
    refine w_gtup (sqT (n2.ex _ _ upd_same)) rfl ?_
    repeat walk_at "s"
    refine ⟨rfl, ?_⟩
    repeat walk_at "s"
    refine w_ite (fun e => ?_) (fun e => ?_)
    · repeat walk_at "s"
      refine LcP.add (n2.weak (n1.exn hT)) (by rw [List.length_map]; exact Nat.lt_of_le_of_lt fr_len (by omega)) ⟨?_, rfl, rfl⟩
      rw [fr_yes (by rw [hc, hd]; simpa using e)]
      simp [nums]
    · refine ⟨_, _, _, ⟨?_, rfl, rfl⟩, n2.weak (n1.exn hT)⟩
      rw [fr_no (by rw [hc, hd]; simpa using e)]
  · rintro D H1 acc G' L' ⟨rfl, rfl, rfl⟩ n1
    have eu : (List.range (signs (S l)).length).filter (fun k => decide (l[k]? ≠ m[k]?)) = unl l m := by rw [signs_S, List.length_map]; rfl
    rw [eu] at n1
    repeat walk_at "s"
    refine w_lenL (sqL n1.get0) ?_
    repeat walk_at "s"
    cases hu : unl l m with
    | nil =>
      rw [hu] at n1
      refine w_iteT rfl (w_iteT rfl ?_)
      repeat walk_at "s"
      have e : oneOf l m = none := by unfold oneOf; rw [hu]
      have := q H1 n1.drop
      rw [e] at this
      exact this
    | cons p r =>
      rw [hu] at n1
      cases r with
      | cons p2 r2 =>
        refine w_iteT ?_ (w_iteT rfl ?_)
        · rw [List.length_map, List.length_cons, List.length_cons]
          have : ¬ (((r2.length + 1 + 1 : Nat) : Int) = 1) := by omega
          rw [decide_eq_false this]; rfl
        repeat walk_at "s"
        have e : oneOf l m = none := by unfold oneOf; rw [hu]
        have := q H1 n1.drop
        rw [e] at this
        exact this
      | nil =>
        have hp := unl_lt hu
        have c1 : l[p]? = some l[p] := List.getElem?_eq_getElem hp
        have c2 : m[p]? = some m[p] := List.getElem?_eq_getElem (by omega)
        refine w_iteF rfl ?_
        repeat walk_at "s"
        refine w_ixSg (by omega) (at_get c1) ?_
        repeat walk_at "s"
        refine w_ixSg (by omega) (at_get c2) ?_
        repeat walk_at "s"
        refine w_tupG n1 (Nat.le_of_ble_eq_true rfl) fun T G1 H2 e1 hT n2 => ?_
        refine w_in2 n2 (n2.ex _ _ hT) ?_
        repeat walk_at "s"
        refine w_ite (fun e => ?_) (fun e => ?_)
        · repeat walk_at "s"
          have e2 : l[p]? = some 45 ∨ m[p]? = some 45 := by
            rw [c1, c2]
            have : l[p] = 45 ∨ m[p] = 45 := by simpa using e
            exact this.imp (fun z => by rw [z]) (fun z => by rw [z])
          have e : oneOf l m = none := by unfold oneOf; rw [hu]; exact if_pos e2
          have := q H2 (n2.weak e1).drop
          rw [e] at this
          exact this
        · repeat (first | (with_reducible refine w_next ?_) | (with_reducible refine w_ret ?_))
          refine w_put rfl rfl n2 hl hp ?_
          have e2 : ¬ (l[p]? = some 45 ∨ m[p]? = some 45) := by
            rw [c1, c2]
            have : ¬ (l[p] = 45 ∨ m[p] = 45) := by simpa using e
            exact fun z => this (z.imp (fun z => Option.some.inj z) (fun z => Option.some.inj z))
          have e : oneOf l m = some (l.take p ++ 45 :: l.drop (p + 1)) := by unfold oneOf; rw [hu]; exact if_neg e2
          have := q H2 (n2.weak e1).drop
          rw [e] at this
          exact this
/-! ### pairs -/
def sp_pair_right (K : PySem.W.Frag) : Sp := fun vs H Q _ => ∃ (G : Hp) (L : List (Addr × HO)) (l m : List Nat) (w : Int), vs = [.str (S l), .str (S m), .int w] ∧ Now G L H ∧ Ln l ∧ Ln m ∧ (l.length : Int) = w ∧ (m.length : Int) = w ∧ w ≤ 14 ∧
  ∀ H', Now G L H' → Q (.bl true) H'
/- _law_pair_right(_law_lane_here, _law_other, _law_size): 0 _law_lane_here, 1 _law_other, 2 _law_size, 3 _law_found, 4 _law_due_here, 5 _law_number, 6 _law_both -/
def rd_pair_right (K : PySem.W.Frag) : TS := (tSeq (tPar 3 4 (tCons (tCall (sp_one_of K) [] E0 (tCons (tVar 0) (tCons (tVar 1) tNil))) (tCons (tCall (sp_due K) [] E0 (tCons (tVar 0) (tCons (tVar 1) tNil))) tNil)))
  (tSeq (tIfS (tOr (tTest (tOp (rNeU K) (tVar 3) (tVar 4))) (tOr (tTest (tOp (rNeU K) (tCall (sp_one_of K) [] E0 (tCons (tVar 1) (tCons (tVar 0) tNil))) (tVar 4))) (tTest (tOp rIsntU (tCall (sp_one_of K) [] E0 (tCons (tVar 0) (tCons (tVar 0) tNil))) (tC .non))))) (tRet (tC (.bl false))) tNext)
  (tSeq (tIfS (tOr (tTest (tOp rIsU (tVar 4) (tC .non))) (tTest (tOp rGtU (tVar 2) (tC (.int 8))))) (tRet (tC (.bl true))) tNext)
  (tSeq (tFor (iRng1 (tCons (tOp rShlU (tC (.int 1)) (tVar 2)) tNil)) (gName 5) (tSeq (tAsg (tOrT K (tCall (sp_takes K) [] E0 (tCons (tVar 0) (tCons (tVar 2) (tCons (tVar 5) tNil)))) (tCall (sp_takes K) [] E0 (tCons (tVar 1) (tCons (tVar 2) (tCons (tVar 5) tNil))))) (gName 6))
  (tIfS (tTest (tOp (rNeU K) (tCall (sp_takes K) [] E0 (tCons (tVar 3) (tCons (tVar 2) (tCons (tVar 5) tNil)))) (tVar 6))) (tRet (tC (.bl false))) tNext)))
  (tRet (tC (.bl true)))))))
theorem ln_pair_right {K : PySem.W.Frag} {vs : List V} {H : Hp} {Q : VK} {E : XK} (h : sp_pair_right K vs H Q E) : vs.length = 3 := by
  obtain ⟨G, L, l, m, w, rfl, _⟩ := h; rfl
theorem scal_opt (a b : Option (List Nat)) : scal (optV a) (optV b) = true := by cases a <;> cases b <;> rfl
theorem ok_rd_pair_right {K : PySem.W.Frag} {vs : List V} {H : Hp} {Q : VK} {E : XK} (h : sp_pair_right K vs H Q E) : rd_pair_right K { nx := fun _ H' => Q .non H', rt := Q } (start ["a", "b", "c", "d", "e", "f", "g"] vs) H := by
  obtain ⟨G, L, l, m, w, rfl, nw, hl, hm, hlw, hmw, hw, q⟩ := h
  have hlm : l.length = m.length := by omega
  show rd_pair_right K _ [some (.str (S l)), some (.str (S m)), some (.int w), none, none, none, none] H
  unfold rd_pair_right
  repeat walk_at "s"
  refine ⟨G, L, l, m, rfl, nw, hlm, by omega, fun H1 n1 => ?_⟩
  repeat walk_at "s"
  refine ⟨G, L, l, m, rfl, n1, hlm, by omega, fun H2 n2 => ?_⟩
  repeat walk_at "s"
  refine ⟨_, _, rfl, ?_⟩
  repeat walk_at "s"
  refine w_neV (scal_opt _ _) ?_
  rw [decide_eq_true rfl]
  repeat walk_at "s"
  refine w_iteF rfl ?_
  repeat walk_at "s"
  refine ⟨G, L, m, l, rfl, n2, hlm.symm, by omega, fun H3 n3 => ?_⟩
  rw [oneOf_comm hlm]
  repeat walk_at "s"
  refine w_neV (scal_opt _ _) ?_
  rw [decide_eq_true rfl]
  repeat walk_at "s"
  refine w_iteF rfl ?_
  repeat walk_at "s"
  refine ⟨G, L, l, l, rfl, n3, rfl, by omega, fun H4 n4 => ?_⟩
  rw [oneOf_self]
  repeat walk_at "s"
  refine w_iteF rfl ?_
  repeat walk_at "s"
  cases ho : oneOf l m with
  | none =>
    refine w_iteT rfl (w_iteT rfl ?_)
    repeat walk_at "s"
    exact q H4 n4
  | some f =>
    have hf := oneOf_len ho
    have hfl : Ln f := by
      obtain ⟨p, hu, _, _, rfl⟩ := oneOf_some ho
      intro c hc
      rcases List.mem_append.mp hc with h | h
      · exact hl c (List.mem_of_mem_take h)
      · rcases List.mem_cons.mp h with h | h
        · exact .inr (.inr h)
        · exact hl c (List.mem_of_mem_drop h)
    refine w_iteF rfl ?_
    repeat walk_at "s"
    refine w_ite (fun e => ?_) (fun e => ?_)
    · repeat walk_at "s"
      exact q H4 n4
    · have hw8 : w ≤ 8 := by simpa using e
      have hp := pow_16 (k := w.toNat) (by omega)
      repeat walk_at "s"
      refine for_k (fun i σ H => ∃ u v, σ = [some (.str (S l)), some (.str (S m)), some (.int w), some (.str (S f)), some (.str (S f)), u, v] ∧ Now G L H) ⟨_, _, rfl, n4⟩ (fun _ _ _ _ => trivial) ?_ ?_
      · rintro i x σ H5 H6 hi ⟨u, v, rfl, n5⟩ ⟨rfl, rfl⟩
        repeat walk_at "s"
        refine ⟨G, L, l, w, _, rfl, n5, hl, hlw, by omega, fun H7 n7 => ?_⟩
        repeat walk_at "s"
        refine w_ite (fun e => ?_) (fun e => ?_)
        · repeat walk_at "s"
          refine ⟨G, L, f, w, _, rfl, n7, hfl, by omega, by omega, fun H8 n8 => ?_⟩
          repeat walk_at "s"
          refine w_iteF ?_ ?_
          · rw [tk_one hlm hl hm (bitA_01 _ _) ho, e]; rfl
          · exact ⟨_, _, rfl, n8⟩
        · repeat walk_at "s"
          refine ⟨G, L, m, w, _, rfl, n7, hm, hmw, by omega, fun H8 n8 => ?_⟩
          repeat walk_at "s"
          refine ⟨G, L, f, w, _, rfl, n8, hfl, by omega, by omega, fun H9 n9 => ?_⟩
          repeat walk_at "s"
          refine w_iteF ?_ ?_
          · rw [tk_one hlm hl hm (bitA_01 _ _) ho, e, Bool.false_or]; simp
          · exact ⟨_, _, rfl, n9⟩
      · rintro σ H5 ⟨u, v, rfl, n5⟩
        repeat walk_at "s"
        exact q H5 n5

/-! ### right -/
def flipK : List (Key × V) := mergeK [] [(.inr (S [48]), sg 49), (.inr (S [49]), sg 48)]
theorem flip_val {c d : Nat} (hc : c = 48 ∨ c = 49 ∨ c = 45) (hd : d = 48 ∨ d = 49) : ∃ e, (e = 48 ∨ e = 49 ∨ e = 45) ∧ (valV flipK (.inr (S [c]))).getD (sg d) = sg e := by
  rcases hc with rfl | rfl | rfl
  · have e : valV flipK (.inr (S [48])) = some (sg 49) := by decide +kernel
    rw [e]
    exact ⟨49, .inr (.inl rfl), rfl⟩
  · have e : valV flipK (.inr (S [49])) = some (sg 48) := by decide +kernel
    rw [e]
    exact ⟨48, .inl rfl, rfl⟩
  · have e : valV flipK (.inr (S [45])) = none := by decide +kernel
    rw [e]
    exact ⟨d, hd.imp id .inl, rfl⟩
section
variable {K : PySem.W.Frag} {σ : L2.St} {G H : Hp} {L : List (Addr × HO)} {Q : VK}
/-- {"0": "1", "1": "0"}.get(x, ..) -/
theorem w_flip {ty tx : TE} (n : Now G L H) (q : ∀ p G' H', Ex G G' → G' p = some (.dK flipK) → Now G' L H' → ty σ H' fun y H2 => tx σ H2 fun z H3 => ∃ o, DGet H3 p y o ∧ Q (o.getD z) H3) :
    tDGet2 (tDisp [((tC (.str (S [48]))), (tC (.str (S [49])))), ((tC (.str (S [49]))), (tC (.str (S [48]))))]) ty tx σ H Q := by
  intro p hp
  refine ⟨upd_same, [(.inr (S [48]), sg 49), (.inr (S [49]), sg 48)], rfl, by decide, ?_⟩
  rw [upd_upd]
  exact ⟨p, rfl, .inl ⟨_, .inl upd_same⟩, q p _ _ (n.exn hp) upd_same (n.newG hp)⟩
end
theorem at_sg {l : List Nat} {j : Int} (h0 : 0 ≤ j) (h : j < l.length) : atI (l.map sg) j = some (sg (l[j.toNat]'(by omega))) :=
  at_of (j := j.toNat) (by omega) (by rw [List.getElem?_map, List.getElem?_eq_getElem (by omega)]; rfl)
def sp_right (K : PySem.W.Frag) : Sp := fun vs H Q _ => ∃ (G : Hp) (L : List (Addr × HO)) (b : Addr) (o : HO) (c : Nat), vs = [.ref b] ∧ Now G ((b, o) :: L) H ∧ Bx c o ∧ c ≤ 100 ∧ ∀ (o' : HO) (H' : Hp), Now G ((b, o') :: L) H' → Q (.bl true) H'
/- _law_right(_law_box_here): 0 _law_box_here, 1 _law_size, 2 _law_lane_here, 3 _law_turn, 4 _law_signs, 5 _law_at -/
def rd_right (K : PySem.W.Frag) : TS := (tSeq (tFor (iSeq K (tTup (tCons (tOp (rAddU K) (tC (.int 1)) (tCall (sp_take K) [] E0 (tCons (tVar 0) (tCons (tC (.int 8)) tNil)))) (tCons (tC (.int 14)) tNil)))) (gName 1) (tSeq (tAsg (tCall (sp_lane K) [] E0 (tCons (tVar 0) (tCons (tVar 1) (tCons (tC (.str (SX.S []))) tNil)))) (gName 2))
  (tFor (iRng1 (tCons (tC (.int 40)) tNil)) (gName 3) (tSeq (tPar 4 5 (tCons (tCB (rListU K) (tCons (tVar 2) tNil)) (tCons (tCall (sp_take K) [] E0 (tCons (tVar 0) (tCons (tVar 1) tNil))) tNil)))
  (tSeq (tAsg (tDGet2 (tDisp [((tC (.str (SX.S [48]))), (tC (.str (SX.S [49])))), ((tC (.str (SX.S [49]))), (tC (.str (SX.S [48]))))]) (tOp (rIx K) (tVar 4) (tVar 5)) (tOp (rIx K) (tLst (tCons (tC (.str (SX.S [48]))) (tCons (tC (.str (SX.S [49]))) tNil))) (tCall (sp_take K) [] E0 (tCons (tVar 0) (tCons (tC (.int 2)) tNil))))) (gSub (tVar 4) (tVar 5) rSetL))
  (tSeq (tIfS (tTest (tOp (rEqU K) (tCall (sp_take K) [] E0 (tCons (tVar 0) (tCons (tC (.int 4)) tNil))) (tC (.int 0)))) (tAsg (tOp (rIx K) (tLst (tCons (tC (.str (SX.S [48]))) (tCons (tC (.str (SX.S [49]))) (tCons (tC (.str (SX.S [45]))) tNil)))) (tCall (sp_take K) [] E0 (tCons (tVar 0) (tCons (tC (.int 3)) tNil)))) (gSub (tVar 4) (tCall (sp_take K) [] E0 (tCons (tVar 0) (tCons (tVar 1) tNil))) rSetL)) tNext)
  (tSeq (tIfS (tNot (tTrth K (tCall (sp_pair_right K) [] E0 (tCons (tVar 2) (tCons (tBM K "str" (rJoin K) (tC (.str (SX.S []))) (tCons (tVar 4) tNil)) (tCons (tVar 1) tNil)))))) (tRet (tC (.bl false))) tNext)
  (tAsg (tBM K "str" (rJoin K) (tC (.str (SX.S []))) (tCons (tVar 4) tNil)) (gName 2)))))))))
  (tRet (tC (.bl true))))
theorem ln_right {K : PySem.W.Frag} {vs : List V} {H : Hp} {Q : VK} {E : XK} (h : sp_right K vs H Q E) : vs.length = 1 := by
  obtain ⟨G, L, b, o, c, rfl, _⟩ := h; rfl
theorem ok_rd_right {K : PySem.W.Frag} {vs : List V} {H : Hp} {Q : VK} {E : XK} (h : sp_right K vs H Q E) : rd_right K { nx := fun _ H' => Q .non H', rt := Q } (start ["a", "b", "c", "d", "e", "f"] vs) H := by
  obtain ⟨G, L, b, o, c, rfl, nw, hb, hc, q⟩ := h
  show rd_right K _ [some (.ref b), none, none, none, none, none] H
  unfold rd_right
  repeat walk_at "s"
  refine w_take nw hb (by omega) (by decide) (by decide) fun r o1 H1 r0 r1 hb1 n1 => ?_
  repeat walk_at "s"
  refine w_tupG n1 (Nat.le_of_ble_eq_true rfl) fun T G1 H2 e1 hT n2 => ?_
  refine w_seqI (.tup T) [.int (1 + r), .int 14] (sqT (n2.ex _ _ hT)) ?_
  refine for_k (fun i σ H => ∃ (o' : HO) (x1 x2 x3 x4 x5 : Option V), σ = [some (.ref b), x1, x2, x3, x4, x5] ∧ Bx (c + 1 + 400 * i) o' ∧ Now G1 ((b, o') :: L) H) ⟨o1, _, _, _, _, _, rfl, hb1, n2⟩ (fun i σ H ⟨_, _, _, _, _, _, _, _, n⟩ => sqT (n.ex _ _ hT)) ?_ ?_
  · rintro i x σ H3 H4 hi ⟨o3, x1, x2, x3, x4, x5, rfl, hb3, n3⟩ ⟨rfl, hx⟩
    have hi2 : i < 2 := hi
    obtain ⟨w, rfl, hw1, hw2⟩ : ∃ w, x = .int w ∧ 1 ≤ w ∧ w ≤ 14 := by
      have : i = 0 ∨ i = 1 := by omega
      rcases this with rfl | rfl
      · exact ⟨1 + r, (Option.some.inj hx).symm, by omega, by omega⟩
      · exact ⟨14, (Option.some.inj hx).symm, by omega, by omega⟩
    repeat walk_at "s"
    refine ⟨G1, L, b, o3, _, w, [], rfl, n3, hb3, by omega, hw1, hw2, .inl rfl, fun l o4 H5 hl4 hln4 hb4 n4 => ?_⟩
    repeat walk_at "s"
    refine for_k (fun j σ H => ∃ (o' : HO) (l : List Nat) (y3 y4 y5 : Option V), σ = [some (.ref b), some (.int w), some (.str (S l)), y3, y4, y5] ∧ (l.length : Int) = w ∧ Ln l ∧ Bx (c + 1 + 400 * i + 30 + 5 * j) o' ∧ Now G1 ((b, o') :: L) H) ⟨o4, l, _, _, _, rfl, hl4, hln4, hb4, n4⟩ (fun _ _ _ _ => trivial) ?_ ?_
    · rintro j y σ H6 H7 hj ⟨o5, l5, y3, y4, y5, rfl, hl5, hln5, hb5, n5⟩ ⟨rfl, rfl⟩
      have hj' : j < 40 := hj
      repeat walk_at "s"
      refine w_listS n5 (by omega) fun p H8 n6 _ => ?_
      repeat walk_at "s"
      refine w_take n6.swap hb5 (by omega) (by omega) (by omega) fun r7 o7 H9 r70 r71 hb7 n7 => ?_
      repeat walk_at "s"
      refine ⟨_, _, rfl, ?_⟩
      repeat walk_at "s"
      refine w_flip n7 fun d G2 H10 e2 hd n8 => ?_
      repeat walk_at "s"
      have hlt : r7.toNat < l5.length := by omega
      refine w_ixL (sqL n8.get1) (at_sg r70 (by omega)) ?_
      repeat walk_at "s"
      refine w_lstG n8 (Nat.le_of_ble_eq_true rfl) fun p2 G3 H11 e3 hp2 n9 => ?_
      repeat walk_at "s"
      refine w_take n9 hb7 (by omega) (by decide) (by decide) fun r8 o8 H12 r80 r81 hb8 n10 => ?_
      obtain ⟨cc, hcc, hat⟩ := at2 r80 r81
      refine w_ixL (sqL (n10.ex _ _ hp2)) hat ?_
      obtain ⟨ee, hee, heq⟩ := flip_val (hln5 _ (List.getElem_mem hlt)) hcc
      refine ⟨_, DGet.k (k := .inr (S [l5[r7.toNat]])) (n10.ex _ _ (e3 _ _ hd)), ?_⟩
      have heq' : (valV flipK (Sum.inr (S [l5[r7.toNat]]))).getD (sg cc) = sg ee := heq
      rw [heq']
      repeat walk_at "s"
      refine w_setL1 n10 (ix_lt r70 (by rw [List.length_map]; omega)) fun H13 n11 => ?_
      rw [map_set] at n11
      have n12 := (n11.weak e3).weak e2
      repeat walk_at "s"
      refine w_take n12 hb8 (by omega) (by decide) (by decide) fun r9 o9 H14 r90 r91 hb9 n13 => ?_
      repeat walk_at "s"
      -- what follows, of any signs
      have fin : ∀ (D : Ends), (∀ σ H, (∃ (o' : HO) (l : List Nat) (y3 y4 y5 : Option V), σ = [some (.ref b), some (.int w), some (.str (S l)), y3, y4, y5] ∧ (l.length : Int) = w ∧ Ln l ∧ Bx (c + 1 + 400 * i + 30 + 5 * (j + 1)) o' ∧ Now G1 ((b, o') :: L) H) → D.nx σ H) → ∀ (ls : List Nat) (o' : HO) (H : Hp), (ls.length : Int) = w → Ln ls → Bx (c + 1 + 400 * i + 30 + 5 * (j + 1)) o' → Now G1 ((b, o') :: (p, .lst (ls.map sg)) :: L) H →
          tSeq (tIfS (tNot (tTrth K (tCall (sp_pair_right K) [] E0 (tCons (tVar 2) (tCons (tBM K "str" (rJoin K) (tC (.str (SX.S []))) (tCons (tVar 4) tNil)) (tCons (tVar 1) tNil)))))) (tRet (tC (.bl false))) tNext)
            (tAsg (tBM K "str" (rJoin K) (tC (.str (SX.S []))) (tCons (tVar 4) tNil)) (gName 2))
            D
            [some (.ref b), some (.int w), some (.str (S l5)), some (.int (0 + (j : Nat))), some (.ref p), some (.int r7)] H := fun D hD ls o' H hls hln hbx n => by
        repeat walk_at "s"
        refine w_joinSg (sqL n.get1) (by omega) ?_
        repeat walk_at "s"
        refine ⟨G1, _, l5, ls, w, rfl, n, hln5, hln, hl5, hls, hw2, fun H' n' => ?_⟩
        repeat walk_at "s"
        refine w_iteF rfl ?_
        repeat walk_at "s"
        refine w_joinSg (sqL n'.get1) (by omega) ?_
        exact hD _ _ ⟨o', ls, _, _, _, rfl, hls, hln, hbx, n'.swap.drop⟩
      refine w_ite (fun e => ?_) (fun e => ?_)
      · repeat walk_at "s"
        refine w_lstG n13 (Nat.le_of_ble_eq_true rfl) fun p4 G4 H15 e4 hp4 n14 => ?_
        repeat walk_at "s"
        refine w_take n14 hb9 (by omega) (by decide) (by decide) fun r10 o10 H16 r100 r101 hb10 n15 => ?_
        obtain ⟨c2, hc2, hat2⟩ := at3 r100 r101
        refine w_ixL (sqL (n15.ex _ _ hp4)) hat2 ?_
        repeat walk_at "s"
        refine w_take n15 hb10 (by omega) (by omega) (by omega) fun r11 o11 H17 r110 r111 hb11 n16 => ?_
        refine w_setL1 n16 (ix_lt r110 (by rw [List.length_map, List.length_set]; omega)) fun H18 n17 => ?_
        rw [map_set] at n17
        exact fin _ (fun σ H h => h) _ _ _ (by rw [List.length_set, List.length_set]; exact hl5) ((hln5.set hee).set hc2) (hb11.mono (by omega)) (n17.weak e4)
      · walk_at "s"
        exact fin _ (fun σ H h => h) _ _ _ (by rw [List.length_set]; exact hl5) (hln5.set hee) (hb9.mono (by omega)) n13
    · rintro σ H6 ⟨o5, l5, y3, y4, y5, rfl, hl5, hln5, hb5, n5⟩
      exact ⟨o5, _, _, _, _, _, rfl, hb5.mono (by omega), n5⟩
  · rintro σ H3 ⟨o3, x1, x2, x3, x4, x5, rfl, hb3, n3⟩
    repeat walk_at "s"
    exact q o3 H3 (n3.weak e1)
/-! ### the law -/
def sp_law (K : PySem.W.Frag) : Sp := fun vs H Q _ => ∃ (a : Addr) (ns : List Int), vs = [.ref a] ∧ SqL K H a (ns.map V.int) ∧ ns.length ≤ 63 ∧ ∀ H', Q (.bl true) H'
theorem ln_law {K : PySem.W.Frag} {vs : List V} {H : Hp} {Q : VK} {E : XK} (h : sp_law K vs H Q E) : vs.length = 1 := by
  obtain ⟨a, ns, rfl, _⟩ := h; rfl
theorem now0 (H : Hp) : Now H [] H := ⟨fun _ _ h => h, fun _ h => (nomatch h), fun _ h => (nomatch h), List.nodup_nil⟩
theorem sq_ex {K : PySem.W.Frag} {G H : Hp} {a : Addr} {xs : List V} (e : Ex G H) (h : SqL K G a xs) : SqL K H a xs := by
  rcases h with (h | ⟨o, h⟩) | h
  · exact .inl (.inl (e _ _ h))
  · exact .inl (.inr ⟨o, e _ _ h⟩)
  · exact .inr h
theorem st_ex {K : PySem.W.Frag} {G H : Hp} {a : Addr} {xs : List V} (e : Ex G H) (h : SqT K G a xs) : SqT K H a xs := by
  rcases h with (h | ⟨o, h⟩) | h
  · exact .inl (.inl (e _ _ h))
  · exact .inl (.inr ⟨o, e _ _ h⟩)
  · exact .inr h
/- law(_law_script): 0 _law_script, 1 _law_k -/
def rd_law (K : PySem.W.Frag) : TS := (tRet (tCB (rAll K) (tCons (tLc (iRng1 (tCons (tOp (rAddU K) (tC (.int 1)) (tCB (rMinU K) (tCons (tC (.int 3)) (tCons (tCB (rLenU K) (tCons (tVar 0) tNil)) tNil)))) tNil)) (gName 1) tYes (tCall (sp_right K) [] E0 (tCons (tCall (sp_box K) [] E0 (tCons (tVar 0) (tCons (tVar 1) tNil))) tNil)) [1]) tNil)))
theorem ok_rd_law {K : PySem.W.Frag} {vs : List V} {H : Hp} {Q : VK} {E : XK} (h : sp_law K vs H Q E) : rd_law K { nx := fun _ H' => Q .non H', rt := Q } (start ["a", "b"] vs) H := by
  obtain ⟨a, ns, rfl, hS, hl, q⟩ := h
  show rd_law K _ [some (.ref a), none] H
  unfold rd_law
  repeat walk_at "s"
  refine w_lenL hS ?_
  repeat walk_at "s"
  have hm : ((if ((ns.map V.int).length : Int) < 3 then ((ns.map V.int).length : Int) else 3)) ≤ 3 ∧ 0 ≤ ((if ((ns.map V.int).length : Int) < 3 then ((ns.map V.int).length : Int) else 3)) := by split <;> omega
  refine lc_now (now0 H) (fun i acc G' L' => acc = ((List.range i).map fun _ => true).map V.bl ∧ G' = H ∧ L' = []) ⟨rfl, rfl, rfl⟩ (fun _ _ _ _ _ _ _ => trivial) ?_ ?_
  · rintro D i x H1 H2 acc G' L' hi ⟨rfl, rfl, rfl⟩ n1 ⟨rfl, rfl⟩
    have hi5 : i < 5 := by omega
    repeat walk_at "s"
    refine ⟨rfl, ?_⟩
    repeat walk_at "s"
    refine w_iteT rfl ?_
    repeat walk_at "s"
    refine ⟨_, _, a, ns, _, rfl, n1, sq_ex (fun a o h => n1.ex a o h) hS, by omega, by omega, fun b o H3 hb n2 _ => ?_⟩
    repeat walk_at "s"
    refine ⟨_, _, b, o, 0, rfl, n2, hb, by omega, fun o' H4 n3 => ?_⟩
    refine LcP.add n3.drop (by rw [List.length_map, List.length_map, List.length_range]; omega) ⟨?_, rfl, rfl⟩
    rw [range_snoc, List.map_append]
    rfl
  · rintro D H1 acc G' L' ⟨rfl, rfl, rfl⟩ n1
    repeat walk_at "s"
    refine ⟨D, _, rfl, sqL n1.get0, ?_⟩
    have e : ∀ n : Nat, ((List.range n).map fun _ => true).all id = true := fun n => by simp
    rw [e]
    exact q H1

/-! ### the text -/
def topS (i : Nat) : Stmt := PySem.Challenge.pw_masklanes_k07_one_lane_of_two.main.body.getD i (.Pass ⟨0, 0, 0, 0⟩)
abbrev st_one_of : Stmt := topS 2
theorem sc_one_of : FnScope ["lane", "other", "places", "place", "one", "two"] ["lane", "other"] (defScope st_one_of) := ⟨rfl, rfl, rfl, by decide +kernel, rfl, by decide +kernel, by decide +kernel⟩
abbrev st_box : Stmt := topS 4
theorem sc_box : FnScope ["_law_script", "_law_k", "_law_cell"] ["_law_script", "_law_k"] (defScope st_box) := ⟨rfl, rfl, rfl, by decide +kernel, rfl, by decide +kernel, by decide +kernel⟩
abbrev st_take : Stmt := topS 5
theorem sc_take : FnScope ["_law_box_here", "_law_many", "_law_found", "_law_once", "_law_twice"] ["_law_box_here", "_law_many"] (defScope st_take) := ⟨rfl, rfl, rfl, by decide +kernel, rfl, by decide +kernel, by decide +kernel⟩
abbrev st_lane : Stmt := topS 6
theorem sc_lane : FnScope ["_law_box_here", "_law_size", "_law_other", "_law_signs", "_law_turn", "_law_k"] ["_law_box_here", "_law_size", "_law_other"] (defScope st_lane) := ⟨rfl, rfl, rfl, by decide +kernel, rfl, by decide +kernel, by decide +kernel⟩
abbrev st_takes : Stmt := topS 7
theorem sc_takes : FnScope ["_law_lane_here", "_law_size", "_law_number", "_law_k", "_law_sign"] ["_law_lane_here", "_law_size", "_law_number"] (defScope st_takes) := ⟨rfl, rfl, rfl, by decide +kernel, rfl, by decide +kernel, by decide +kernel⟩
abbrev st_due : Stmt := topS 8
theorem sc_due : FnScope ["_law_lane_here", "_law_other", "_law_unlike", "_law_k", "_law_sign"] ["_law_lane_here", "_law_other"] (defScope st_due) := ⟨rfl, rfl, rfl, by decide +kernel, rfl, by decide +kernel, by decide +kernel⟩
abbrev st_pair_right : Stmt := topS 9
theorem sc_pair_right : FnScope ["_law_lane_here", "_law_other", "_law_size", "_law_found", "_law_due_here", "_law_number", "_law_both"] ["_law_lane_here", "_law_other", "_law_size"] (defScope st_pair_right) := ⟨rfl, rfl, rfl, by decide +kernel, rfl, by decide +kernel, by decide +kernel⟩
abbrev st_right : Stmt := topS 10
theorem sc_right : FnScope ["_law_box_here", "_law_size", "_law_lane_here", "_law_turn", "_law_signs", "_law_at"] ["_law_box_here"] (defScope st_right) := ⟨rfl, rfl, rfl, by decide +kernel, rfl, by decide +kernel, by decide +kernel⟩
abbrev st_law : Stmt := topS 11
theorem sc_law : FnScope ["_law_script", "_law_k"] ["_law_script"] (defScope st_law) := ⟨rfl, rfl, rfl, by decide +kernel, rfl, by decide +kernel, by decide +kernel⟩
/-- what the top has left -/
structure Txt (K : PySem.W.Frag) (mg : Str → Option Value) where
  f_one_of : Addr
  fd_one_of : FuncData
  F_one_of : Fun K "one_of" "one_of" st_one_of f_one_of fd_one_of
  b_one_of : Binds K fd_one_of ["lane", "other"] []
  g_one_of : mg "one_of" = some (.ref f_one_of)
  f_box : Addr
  fd_box : FuncData
  F_box : Fun K "_law_box" "_law_box" st_box f_box fd_box
  b_box : Binds K fd_box ["_law_script", "_law_k"] []
  g_box : mg "_law_box" = some (.ref f_box)
  f_take : Addr
  fd_take : FuncData
  F_take : Fun K "_law_take" "_law_take" st_take f_take fd_take
  b_take : Binds K fd_take ["_law_box_here", "_law_many"] []
  g_take : mg "_law_take" = some (.ref f_take)
  f_lane : Addr
  fd_lane : FuncData
  F_lane : Fun K "_law_lane" "_law_lane" st_lane f_lane fd_lane
  b_lane : Binds K fd_lane ["_law_box_here", "_law_size", "_law_other"] []
  g_lane : mg "_law_lane" = some (.ref f_lane)
  f_takes : Addr
  fd_takes : FuncData
  F_takes : Fun K "_law_takes" "_law_takes" st_takes f_takes fd_takes
  b_takes : Binds K fd_takes ["_law_lane_here", "_law_size", "_law_number"] []
  g_takes : mg "_law_takes" = some (.ref f_takes)
  f_due : Addr
  fd_due : FuncData
  F_due : Fun K "_law_due" "_law_due" st_due f_due fd_due
  b_due : Binds K fd_due ["_law_lane_here", "_law_other"] []
  g_due : mg "_law_due" = some (.ref f_due)
  f_pair_right : Addr
  fd_pair_right : FuncData
  F_pair_right : Fun K "_law_pair_right" "_law_pair_right" st_pair_right f_pair_right fd_pair_right
  b_pair_right : Binds K fd_pair_right ["_law_lane_here", "_law_other", "_law_size"] []
  g_pair_right : mg "_law_pair_right" = some (.ref f_pair_right)
  f_right : Addr
  fd_right : FuncData
  F_right : Fun K "_law_right" "_law_right" st_right f_right fd_right
  b_right : Binds K fd_right ["_law_box_here"] []
  g_right : mg "_law_right" = some (.ref f_right)
  f_law : Addr
  fd_law : FuncData
  F_law : Fun K "law" "law" st_law f_law fd_law
  b_law : Binds K fd_law ["_law_script"] []
  g_law : mg "law" = some (.ref f_law)
  v_ANY : Value
  c_ANY : mg "ANY" = some v_ANY
  r_ANY : RelV (.str (SX.S [45])) v_ANY
  z_abs : mg "abs" = none
  z_all : mg "all" = none
  z_divmod : mg "divmod" = none
  z_enumerate : mg "enumerate" = none
  z_int : mg "int" = none
  z_len : mg "len" = none
  z_list : mg "list" = none
  z_min : mg "min" = none
  z_range : mg "range" = none
  z_zip : mg "zip" = none
section
variable {P : Program} {w : World} {K : PySem.W.Frag} {mg : Str → Option Value} {base : Heap}
theorem dv_one_of (T : Txt K mg) {f : Addr} {cdv : Value} {A : Around} {outer : List Env} {s : Shared} {H : Hp} {E : XK} (hr : Room 0 (A.deeper (envOfC "one_of" (defScope st_one_of) s.heap.objs.size f cdv))) :
    PSs (cxOf CX0 P w K mg base ["lane", "other", "places", "place", "one", "two"] "one_of" (defScope st_one_of) f cdv A outer s H E).nox (defBody st_one_of) (rd_one_of K) :=
  (pss_cons (ps_setLc (i := 2) (own := [("place", 3), ("one", 4), ("two", 5)]) rfl sc_one_of.nd rfl rfl (sw_true rfl rfl rfl (by decide +kernel)) (pi_enumZipS (by rfl) T.z_enumerate (by rfl) T.z_zip (pa_cons (pv 0) (pa_cons (pv 1) pa_nil)) (pk_cons pe_bl pk_nil)) (blkOk_by (own := [("place", 3), ("one", 4), ("two", 5)]) (by kernel_rfl)) (fun _ _ _ _ _ => (pg_tup rfl (pgs_cons (pg_name (i := 3) sc_one_of.nd rfl (by first | exact .inl rfl | exact .inr rfl)) (pgs_cons (pg_tup rfl (pgs_cons (pg_name (i := 4) sc_one_of.nd rfl (by first | exact .inl rfl | exact .inr rfl)) (pgs_cons (pg_name (i := 5) sc_one_of.nd rfl (by first | exact .inl rfl | exact .inr rfl)) pgs_nil))) pgs_nil)))) (fun _ _ _ _ _ => (pts_one (pt_cmpR (u_ne hr.units) (pv 4) (pv 5) (nomark _)))) (fun _ _ _ _ _ => (pv 3)))
  (pss_cons (ps_if (PW.pt (pw_or (pt_cmpR (u_ne hr.units) (pe_callB u_len (by rfl) T.z_len (by decide +kernel) (pa_cons (pv 2) pa_nil)) pe_int (nomark _)) (pw_or1 (pt_cmpR (u_in hr.units) (pe_glob (v := (.str (SX.S [45]))) (by rfl) T.c_ANY T.r_ANY) (pe_tup (pa_cons (pe_ix ix_seq (pv 0) (pe_ix ix_seq (pv 2) pe_int (fun _ _ => rfl)) (fun _ _ => rfl)) (pa_cons (pe_ix ix_seq (pv 1) (pe_ix ix_seq (pv 2) pe_int (fun _ _ => rfl)) (fun _ _ => rfl)) pa_nil))) (by rfl))))) (pss_one (ps_ret pe_non)) pss_nil)
  (pss_one (ps_ret (pe_op u_add (pe_op u_add (pe_slice u_sl (pv 0) po_none (po_some (pe_ix ix_seq (pv 2) pe_int (fun _ _ => rfl)))) (pe_glob (v := (.str (SX.S [45]))) (by rfl) T.c_ANY T.r_ANY)) (pe_slice u_sl (pv 0) (po_some (pe_op u_add (pe_ix ix_seq (pv 2) pe_int (fun _ _ => rfl)) pe_int)) po_none))))))
theorem ok_one_of (T : Txt K mg) : FnOk P w K mg base CX0 1 T.f_one_of T.fd_one_of ["lane", "other"] (sp_one_of K) := by
  refine T.F_one_of.ok sc_one_of (fun vs H Q E h => ln_one_of h) (fun cdv A outer s H vs Q E hr h => ⟨_, dv_one_of T hr, ok_rd_one_of h⟩)
theorem dv_box (T : Txt K mg) {f : Addr} {cdv : Value} {A : Around} {outer : List Env} {s : Shared} {H : Hp} {E : XK} (hr : Room 0 (A.deeper (envOfC "_law_box" (defScope st_box) s.heap.objs.size f cdv))) :
    PSs (cxOf CX0 P w K mg base ["_law_script", "_law_k", "_law_cell"] "_law_box" (defScope st_box) f cdv A outer s H E).nox (defBody st_box) (rd_box K) :=
  (pss_cons (ps_set (i := 2) sc_box.nd rfl (by first | exact Or.inl rfl | exact Or.inr rfl) (pe_ifExp (pt_cmpR (u_lt hr.units) (pv 1) (pe_callB u_len (by rfl) T.z_len (by decide +kernel) (pa_cons (pv 0) pa_nil)) (nomark _)) (pe_ix ix_seq (pv 0) (pv 1) (fun _ _ => rfl)) pe_int))
  (pss_one (ps_ret (pe_lst (pa_cons (pe_op u_mul (pe_callB call_abs (by rfl) T.z_abs (by decide +kernel) (pa_cons (pv 2) pa_nil)) (pe_callTy u_int (by rfl) T.z_int (by decide +kernel) (pa_cons (pe_cmpR (u_ge hr.units) (pe_callB call_abs (by rfl) T.z_abs (by decide +kernel) (pa_cons (pv 2) pa_nil)) (pe_op u_pow pe_int pe_int) (nomark _)) pa_nil))) (pa_cons (pe_op u_add (pe_op u_add (pe_op u_mod (pv 2) pe_int) (pe_op u_mul pe_int (pv 1))) pe_int) (pa_cons pe_int pa_nil)))))))
theorem ok_box (T : Txt K mg) : FnOk P w K mg base CX0 1 T.f_box T.fd_box ["_law_script", "_law_k"] (sp_box K) := by
  refine T.F_box.ok sc_box (fun vs H Q E h => ln_box h) (fun cdv A outer s H vs Q E hr h => ⟨_, dv_box T hr, ok_rd_box h⟩)
theorem dv_take (T : Txt K mg) {f : Addr} {cdv : Value} {A : Around} {outer : List Env} {s : Shared} {H : Hp} {E : XK} (hr : Room 0 (A.deeper (envOfC "_law_take" (defScope st_take) s.heap.objs.size f cdv))) :
    PSs (cxOf CX0 P w K mg base ["_law_box_here", "_law_many", "_law_found", "_law_once", "_law_twice"] "_law_take" (defScope st_take) f cdv A outer s H E).nox (defBody st_take) (rd_take K) :=
  (pss_cons (ps_if (pt_cmpR (u_gt hr.units) (pe_ix ix_seq (pv 0) pe_int (fun _ _ => rfl)) pe_int (nomark _)) (pss_cons (ps_asg (pe_callB call_divmodW (by rfl) T.z_divmod (by decide +kernel) (pa_cons (pe_ix ix_seq (pv 0) pe_int (fun _ _ => rfl)) (pa_cons (pv 1) pa_nil))) (pg_tup rfl (pgs_cons (pg_sub (pv 0) pe_int set_list) (pgs_cons (pg_name (i := 2) sc_take.nd rfl (by first | exact .inl rfl | exact .inr rfl)) pgs_nil))))
  (pss_one (ps_ret (pv 2)))) pss_nil)
  (pss_cons (ps_asg (pe_op u_add (pe_ix ix_seq (pv 0) pe_int (fun _ _ => rfl)) pe_int) (pg_sub (pv 0) pe_int set_list))
  (pss_cons (ps_set (i := 3) sc_take.nd rfl (by first | exact Or.inl rfl | exact Or.inr rfl) (pe_op u_mod (pe_op u_mul (pe_op u_add (pe_ix ix_seq (pv 0) pe_int (fun _ _ => rfl)) (pe_op u_mul pe_int (pe_ix ix_seq (pv 0) pe_int (fun _ _ => rfl)))) (pe_op u_add pe_int (pe_ix ix_seq (pv 0) pe_int (fun _ _ => rfl)))) pe_int))
  (pss_cons (ps_set (i := 4) sc_take.nd rfl (by first | exact Or.inl rfl | exact Or.inr rfl) (pe_op u_mod (pe_op u_mul (pe_op u_add (pe_op u_add (pv 3) (pe_ix ix_seq (pv 0) pe_int (fun _ _ => rfl))) (pe_op u_fdiv (pe_ix ix_seq (pv 0) pe_int (fun _ _ => rfl)) pe_int)) (pe_op u_add (pe_op u_mod (pv 3) pe_int) pe_int)) pe_int))
  (pss_one (ps_ret (pe_op u_mod (pe_op u_fdiv (pe_op u_mod (pe_op u_add (pe_op u_mul (pv 4) pe_int) (pv 3)) pe_int) pe_int) (pv 1))))))))
theorem ok_take (T : Txt K mg) : FnOk P w K mg base CX0 1 T.f_take T.fd_take ["_law_box_here", "_law_many"] (sp_take K) := by
  refine T.F_take.ok sc_take (fun vs H Q E h => ln_take h) (fun cdv A outer s H vs Q E hr h => ⟨_, dv_take T hr, ok_rd_take h⟩)
theorem dv_lane (T : Txt K mg) {f : Addr} {cdv : Value} {A : Around} {outer : List Env} {s : Shared} {H : Hp} {E : XK} (G_take : FnOk P w K mg base CX0 1 T.f_take T.fd_take ["_law_box_here", "_law_many"] (sp_take K)) (hr : Room 1 (A.deeper (envOfC "_law_lane" (defScope st_lane) s.heap.objs.size f cdv))) :
    PSs (cxOf CX0 P w K mg base ["_law_box_here", "_law_size", "_law_other", "_law_signs", "_law_turn", "_law_k"] "_law_lane" (defScope st_lane) f cdv A outer s H E).nox (defBody st_lane) (rd_lane K) :=
  (pss_cons (ps_setLc (i := 3) (own := [("_law_k", 5)]) rfl sc_lane.nd rfl rfl (sw_true rfl rfl rfl (by decide +kernel)) (pi_range1 (by rfl) T.z_range (pa_cons (pv 1) pa_nil)) (blkOk_by (own := [("_law_k", 5)]) (by kernel_rfl)) (fun _ _ _ _ _ => (pg_name (i := 5) sc_lane.nd rfl (by first | exact .inl rfl | exact .inr rfl))) (fun _ _ _ _ _ => pts_nil) (fun _ _ _ _ _ => (pe_ix ix_seq (pe_lst (pa_cons pe_str (pa_cons pe_str (pa_cons pe_str (pa_cons pe_str pa_nil))))) (pe_call G_take (hr.mono (by decide)) (by rfl) T.g_take T.F_take.kp T.b_take .nil pass0 (pa_cons (pv 0) (pa_cons pe_int pa_nil))) (fun _ _ => rfl))))
  (pss_cons (ps_if (PW.pt (pw_and (pt_cmpR (u_ne hr.units) (pv 2) pe_str (nomark _)) (pw_and1 (pt_cmpR (u_eq hr.units) (pe_call G_take (hr.mono (by decide)) (by rfl) T.g_take T.F_take.kp T.b_take .nil pass0 (pa_cons (pv 0) (pa_cons pe_int pa_nil))) pe_int (nomark _))))) (pss_cons (ps_set (i := 3) sc_lane.nd rfl (by first | exact Or.inl rfl | exact Or.inr rfl) (pe_callTy (u_list rfl) (by rfl) T.z_list (by decide +kernel) (pa_cons (pv 2) pa_nil)))
  (pss_one (ps_for PassesOwn.never rfl (pi_range1 (by rfl) T.z_range (pa_cons (pe_op u_add pe_int (pe_call G_take (hr.mono (by decide)) (by rfl) T.g_take T.F_take.kp T.b_take .nil pass0 (pa_cons (pv 0) (pa_cons pe_int pa_nil)))) pa_nil)) (pg_name (i := 4) sc_lane.nd rfl (by first | exact .inl rfl | exact .inr rfl)) (pss_one (ps_asg (pe_ix ix_seq (pe_lst (pa_cons pe_str (pa_cons pe_str (pa_cons pe_str pa_nil)))) (pe_call G_take (hr.mono (by decide)) (by rfl) T.g_take T.F_take.kp T.b_take .nil pass0 (pa_cons (pv 0) (pa_cons pe_int pa_nil))) (fun _ _ => rfl)) (pg_sub (pv 3) (pe_call G_take (hr.mono (by decide)) (by rfl) T.g_take T.F_take.kp T.b_take .nil pass0 (pa_cons (pv 0) (pa_cons (pv 1) pa_nil))) set_list)))))) pss_nil)
  (pss_one (ps_ret (pe_bm PySem.F.plainAttrs_str PySem.F.slot_str_join PySem.F.type_str_join mt_join pe_str (pa_cons (pv 3) pa_nil))))))
theorem ok_lane (T : Txt K mg) (G_take : FnOk P w K mg base CX0 1 T.f_take T.fd_take ["_law_box_here", "_law_many"] (sp_take K)) : FnOk P w K mg base CX0 2 T.f_lane T.fd_lane ["_law_box_here", "_law_size", "_law_other"] (sp_lane K) := by
  refine T.F_lane.ok sc_lane (fun vs H Q E h => ln_lane h) (fun cdv A outer s H vs Q E hr h => ⟨_, dv_lane T G_take hr, ok_rd_lane h⟩)
theorem dv_takes (T : Txt K mg) {f : Addr} {cdv : Value} {A : Around} {outer : List Env} {s : Shared} {H : Hp} {E : XK} (hr : Room 0 (A.deeper (envOfC "_law_takes" (defScope st_takes) s.heap.objs.size f cdv))) :
    PSs (cxOf CX0 P w K mg base ["_law_lane_here", "_law_size", "_law_number", "_law_k", "_law_sign"] "_law_takes" (defScope st_takes) f cdv A outer s H E).nox (defBody st_takes) (rd_takes K) :=
  (pss_one (ps_ret (pe_callB (cr_all rfl) (by rfl) T.z_all (by decide +kernel) (pa_cons (pe_lc (own := [("_law_k", 3), ("_law_sign", 4)]) rfl sc_takes.nd (pi_enumS (by rfl) T.z_enumerate (pa_cons (pv 0) pa_nil)) (blkOk_by (own := [("_law_k", 3), ("_law_sign", 4)]) (by kernel_rfl)) (fun _ _ _ _ _ => (pg_tup rfl (pgs_cons (pg_name (i := 3) sc_takes.nd rfl (by first | exact .inl rfl | exact .inr rfl)) (pgs_cons (pg_name (i := 4) sc_takes.nd rfl (by first | exact .inl rfl | exact .inr rfl)) pgs_nil)))) (fun _ _ _ _ _ => pts_nil) (fun _ _ _ _ _ => (pe_orT (pe_cmpR (u_eq hr.units) (pv 4) pe_str (nomark _)) (pe_one (pe_cmpR (u_eq hr.units) (pe_callTy u_int (by rfl) T.z_int (by decide +kernel) (pa_cons (pv 4) pa_nil)) (pe_op u_mod (pe_op u_fdiv (pv 2) (pe_op u_shl pe_int (pe_op u_sub (pe_op u_sub (pv 1) pe_int) (pv 3)))) pe_int) (nomark _)))))) pa_nil))))
theorem ok_takes (T : Txt K mg) : FnOk P w K mg base CX0 1 T.f_takes T.fd_takes ["_law_lane_here", "_law_size", "_law_number"] (sp_takes K) := by
  refine T.F_takes.ok sc_takes (fun vs H Q E h => ln_takes h) (fun cdv A outer s H vs Q E hr h => ⟨_, dv_takes T hr, ok_rd_takes h⟩)
theorem dv_due (T : Txt K mg) {f : Addr} {cdv : Value} {A : Around} {outer : List Env} {s : Shared} {H : Hp} {E : XK} (hr : Room 0 (A.deeper (envOfC "_law_due" (defScope st_due) s.heap.objs.size f cdv))) :
    PSs (cxOf CX0 P w K mg base ["_law_lane_here", "_law_other", "_law_unlike", "_law_k", "_law_sign"] "_law_due" (defScope st_due) f cdv A outer s H E).nox (defBody st_due) (rd_due K) :=
  (pss_cons (ps_setLc (i := 2) (own := [("_law_k", 3), ("_law_sign", 4)]) rfl sc_due.nd rfl rfl (sw_true rfl rfl rfl (by decide +kernel)) (pi_enumS (by rfl) T.z_enumerate (pa_cons (pv 0) pa_nil)) (blkOk_by (own := [("_law_k", 3), ("_law_sign", 4)]) (by kernel_rfl)) (fun _ _ _ _ _ => (pg_tup rfl (pgs_cons (pg_name (i := 3) sc_due.nd rfl (by first | exact .inl rfl | exact .inr rfl)) (pgs_cons (pg_name (i := 4) sc_due.nd rfl (by first | exact .inl rfl | exact .inr rfl)) pgs_nil)))) (fun _ _ _ _ _ => (pts_one (pt_cmpR (u_ne hr.units) (pv 4) (pe_ix ix_seq (pv 1) (pv 3) (fun _ _ => rfl)) (nomark _)))) (fun _ _ _ _ _ => (pv 3)))
  (pss_cons (ps_if (PW.pt (pw_or (pt_cmpR (u_ne hr.units) (pe_callB u_len (by rfl) T.z_len (by decide +kernel) (pa_cons (pv 2) pa_nil)) pe_int (nomark _)) (pw_or1 (pt_cmpR (u_in hr.units) pe_str (pe_op u_add (pe_ix ix_seq (pv 0) (pe_ix ix_seq (pv 2) pe_int (fun _ _ => rfl)) (fun _ _ => rfl)) (pe_ix ix_seq (pv 1) (pe_ix ix_seq (pv 2) pe_int (fun _ _ => rfl)) (fun _ _ => rfl))) (by rfl))))) (pss_one (ps_ret pe_non)) pss_nil)
  (pss_one (ps_ret (pe_op u_add (pe_op u_add (pe_slice u_sl (pv 0) po_none (po_some (pe_ix ix_seq (pv 2) pe_int (fun _ _ => rfl)))) pe_str) (pe_slice u_sl (pv 0) (po_some (pe_op u_add (pe_ix ix_seq (pv 2) pe_int (fun _ _ => rfl)) pe_int)) po_none))))))
theorem ok_due (T : Txt K mg) : FnOk P w K mg base CX0 1 T.f_due T.fd_due ["_law_lane_here", "_law_other"] (sp_due K) := by
  refine T.F_due.ok sc_due (fun vs H Q E h => ln_due h) (fun cdv A outer s H vs Q E hr h => ⟨_, dv_due T hr, ok_rd_due h⟩)
theorem dv_pair_right (T : Txt K mg) {f : Addr} {cdv : Value} {A : Around} {outer : List Env} {s : Shared} {H : Hp} {E : XK} (G_due : FnOk P w K mg base CX0 1 T.f_due T.fd_due ["_law_lane_here", "_law_other"] (sp_due K)) (G_takes : FnOk P w K mg base CX0 1 T.f_takes T.fd_takes ["_law_lane_here", "_law_size", "_law_number"] (sp_takes K)) (G_one_of : FnOk P w K mg base CX0 1 T.f_one_of T.fd_one_of ["lane", "other"] (sp_one_of K)) (hr : Room 1 (A.deeper (envOfC "_law_pair_right" (defScope st_pair_right) s.heap.objs.size f cdv))) :
    PSs (cxOf CX0 P w K mg base ["_law_lane_here", "_law_other", "_law_size", "_law_found", "_law_due_here", "_law_number", "_law_both"] "_law_pair_right" (defScope st_pair_right) f cdv A outer s H E).nox (defBody st_pair_right) (rd_pair_right K) :=
  (pss_cons (ps_par (i := 3) (j := 4) (by rfl) sc_pair_right.nd rfl rfl (by decide) rfl rfl (pa_cons (pe_call G_one_of (hr.mono (by decide)) (by rfl) T.g_one_of T.F_one_of.kp T.b_one_of .nil pass0 (pa_cons (pv 0) (pa_cons (pv 1) pa_nil))) (pa_cons (pe_call G_due (hr.mono (by decide)) (by rfl) T.g_due T.F_due.kp T.b_due .nil pass0 (pa_cons (pv 0) (pa_cons (pv 1) pa_nil))) pa_nil)) (by rfl))
  (pss_cons (ps_if (PW.pt (pw_or (pt_cmpR (u_ne hr.units) (pv 3) (pv 4) (nomark _)) (pw_or (pt_cmpR (u_ne hr.units) (pe_call G_one_of (hr.mono (by decide)) (by rfl) T.g_one_of T.F_one_of.kp T.b_one_of .nil pass0 (pa_cons (pv 1) (pa_cons (pv 0) pa_nil))) (pv 4) (nomark _)) (pw_or1 (pt_cmpR (u_isnot hr.units) (pe_call G_one_of (hr.mono (by decide)) (by rfl) T.g_one_of T.F_one_of.kp T.b_one_of .nil pass0 (pa_cons (pv 0) (pa_cons (pv 0) pa_nil))) pe_non (nomark _)))))) (pss_one (ps_ret pe_bl)) pss_nil)
  (pss_cons (ps_if (PW.pt (pw_or (pt_cmpR (u_is hr.units) (pv 4) pe_non (nomark _)) (pw_or1 (pt_cmpR (u_gt hr.units) (pv 2) pe_int (nomark _))))) (pss_one (ps_ret pe_bl)) pss_nil)
  (pss_cons (ps_for PassesOwn.never rfl (pi_range1 (by rfl) T.z_range (pa_cons (pe_op u_shl pe_int (pv 2)) pa_nil)) (pg_name (i := 5) sc_pair_right.nd rfl (by first | exact .inl rfl | exact .inr rfl)) (pss_cons (ps_set (i := 6) sc_pair_right.nd rfl (by first | exact Or.inl rfl | exact Or.inr rfl) (pe_orT (pe_call G_takes (hr.mono (by decide)) (by rfl) T.g_takes T.F_takes.kp T.b_takes .nil pass0 (pa_cons (pv 0) (pa_cons (pv 2) (pa_cons (pv 5) pa_nil)))) (pe_one (pe_call G_takes (hr.mono (by decide)) (by rfl) T.g_takes T.F_takes.kp T.b_takes .nil pass0 (pa_cons (pv 1) (pa_cons (pv 2) (pa_cons (pv 5) pa_nil)))))))
  (pss_one (ps_if (pt_cmpR (u_ne hr.units) (pe_call G_takes (hr.mono (by decide)) (by rfl) T.g_takes T.F_takes.kp T.b_takes .nil pass0 (pa_cons (pv 3) (pa_cons (pv 2) (pa_cons (pv 5) pa_nil)))) (pv 6) (nomark _)) (pss_one (ps_ret pe_bl)) pss_nil))))
  (pss_one (ps_ret pe_bl))))))
theorem ok_pair_right (T : Txt K mg) (G_due : FnOk P w K mg base CX0 1 T.f_due T.fd_due ["_law_lane_here", "_law_other"] (sp_due K)) (G_takes : FnOk P w K mg base CX0 1 T.f_takes T.fd_takes ["_law_lane_here", "_law_size", "_law_number"] (sp_takes K)) (G_one_of : FnOk P w K mg base CX0 1 T.f_one_of T.fd_one_of ["lane", "other"] (sp_one_of K)) : FnOk P w K mg base CX0 2 T.f_pair_right T.fd_pair_right ["_law_lane_here", "_law_other", "_law_size"] (sp_pair_right K) := by
  refine T.F_pair_right.ok sc_pair_right (fun vs H Q E h => ln_pair_right h) (fun cdv A outer s H vs Q E hr h => ⟨_, dv_pair_right T G_due G_takes G_one_of hr, ok_rd_pair_right h⟩)
theorem dv_right (T : Txt K mg) {f : Addr} {cdv : Value} {A : Around} {outer : List Env} {s : Shared} {H : Hp} {E : XK} (G_lane : FnOk P w K mg base CX0 2 T.f_lane T.fd_lane ["_law_box_here", "_law_size", "_law_other"] (sp_lane K)) (G_pair_right : FnOk P w K mg base CX0 2 T.f_pair_right T.fd_pair_right ["_law_lane_here", "_law_other", "_law_size"] (sp_pair_right K)) (G_take : FnOk P w K mg base CX0 1 T.f_take T.fd_take ["_law_box_here", "_law_many"] (sp_take K)) (hr : Room 2 (A.deeper (envOfC "_law_right" (defScope st_right) s.heap.objs.size f cdv))) :
    PSs (cxOf CX0 P w K mg base ["_law_box_here", "_law_size", "_law_lane_here", "_law_turn", "_law_signs", "_law_at"] "_law_right" (defScope st_right) f cdv A outer s H E).nox (defBody st_right) (rd_right K) :=
  (pss_cons (ps_for PassesOwn.never rfl (pi_seq (pe_tup (pa_cons (pe_op u_add pe_int (pe_call G_take (hr.mono (by decide)) (by rfl) T.g_take T.F_take.kp T.b_take .nil pass0 (pa_cons (pv 0) (pa_cons pe_int pa_nil)))) (pa_cons pe_int pa_nil)))) (pg_name (i := 1) sc_right.nd rfl (by first | exact .inl rfl | exact .inr rfl)) (pss_cons (ps_set (i := 2) sc_right.nd rfl (by first | exact Or.inl rfl | exact Or.inr rfl) (pe_call G_lane (hr.mono (by decide)) (by rfl) T.g_lane T.F_lane.kp T.b_lane .nil pass0 (pa_cons (pv 0) (pa_cons (pv 1) (pa_cons pe_str pa_nil)))))
  (pss_one (ps_for PassesOwn.never rfl (pi_range1 (by rfl) T.z_range (pa_cons pe_int pa_nil)) (pg_name (i := 3) sc_right.nd rfl (by first | exact .inl rfl | exact .inr rfl)) (pss_cons (ps_par (i := 4) (j := 5) (by rfl) sc_right.nd rfl rfl (by decide) rfl rfl (pa_cons (pe_callTy (u_list rfl) (by rfl) T.z_list (by decide +kernel) (pa_cons (pv 2) pa_nil)) (pa_cons (pe_call G_take (hr.mono (by decide)) (by rfl) T.g_take T.F_take.kp T.b_take .nil pass0 (pa_cons (pv 0) (pa_cons (pv 1) pa_nil))) pa_nil)) (by rfl))
  (pss_cons (ps_asg (pe_dget2 (hu_of hr) (pe_disp (pps_cons pe_str pe_str (pps_cons pe_str pe_str pps_nil)) (by rfl) (by rfl) (fun z => nomatch z) (by show 2 ≤ 15; decide)) (pe_ix ix_seq (pv 4) (pv 5) (fun _ _ => rfl)) (pe_ix ix_seq (pe_lst (pa_cons pe_str (pa_cons pe_str pa_nil))) (pe_call G_take (hr.mono (by decide)) (by rfl) T.g_take T.F_take.kp T.b_take .nil pass0 (pa_cons (pv 0) (pa_cons pe_int pa_nil))) (fun _ _ => rfl)) ⟨rfl, rfl, rfl, rfl⟩) (pg_sub (pv 4) (pv 5) set_list))
  (pss_cons (ps_if (pt_cmpR (u_eq hr.units) (pe_call G_take (hr.mono (by decide)) (by rfl) T.g_take T.F_take.kp T.b_take .nil pass0 (pa_cons (pv 0) (pa_cons pe_int pa_nil))) pe_int (nomark _)) (pss_one (ps_asg (pe_ix ix_seq (pe_lst (pa_cons pe_str (pa_cons pe_str (pa_cons pe_str pa_nil)))) (pe_call G_take (hr.mono (by decide)) (by rfl) T.g_take T.F_take.kp T.b_take .nil pass0 (pa_cons (pv 0) (pa_cons pe_int pa_nil))) (fun _ _ => rfl)) (pg_sub (pv 4) (pe_call G_take (hr.mono (by decide)) (by rfl) T.g_take T.F_take.kp T.b_take .nil pass0 (pa_cons (pv 0) (pa_cons (pv 1) pa_nil))) set_list))) pss_nil)
  (pss_cons (ps_if (pt_not (pt_tru (pe_call G_pair_right (hr.mono (by decide)) (by rfl) T.g_pair_right T.F_pair_right.kp T.b_pair_right .nil pass0 (pa_cons (pv 2) (pa_cons (pe_bm PySem.F.plainAttrs_str PySem.F.slot_str_join PySem.F.type_str_join mt_join pe_str (pa_cons (pv 4) pa_nil)) (pa_cons (pv 1) pa_nil)))))) (pss_one (ps_ret pe_bl)) pss_nil)
  (pss_one (ps_set (i := 2) sc_right.nd rfl (by first | exact Or.inl rfl | exact Or.inr rfl) (pe_bm PySem.F.plainAttrs_str PySem.F.slot_str_join PySem.F.type_str_join mt_join pe_str (pa_cons (pv 4) pa_nil))))))))))))
  (pss_one (ps_ret pe_bl)))
theorem ok_right (T : Txt K mg) (G_lane : FnOk P w K mg base CX0 2 T.f_lane T.fd_lane ["_law_box_here", "_law_size", "_law_other"] (sp_lane K)) (G_pair_right : FnOk P w K mg base CX0 2 T.f_pair_right T.fd_pair_right ["_law_lane_here", "_law_other", "_law_size"] (sp_pair_right K)) (G_take : FnOk P w K mg base CX0 1 T.f_take T.fd_take ["_law_box_here", "_law_many"] (sp_take K)) : FnOk P w K mg base CX0 3 T.f_right T.fd_right ["_law_box_here"] (sp_right K) := by
  refine T.F_right.ok sc_right (fun vs H Q E h => ln_right h) (fun cdv A outer s H vs Q E hr h => ⟨_, dv_right T G_lane G_pair_right G_take hr, ok_rd_right h⟩)
theorem dv_law (T : Txt K mg) {f : Addr} {cdv : Value} {A : Around} {outer : List Env} {s : Shared} {H : Hp} {E : XK} (G_box : FnOk P w K mg base CX0 1 T.f_box T.fd_box ["_law_script", "_law_k"] (sp_box K)) (G_right : FnOk P w K mg base CX0 3 T.f_right T.fd_right ["_law_box_here"] (sp_right K)) (hr : Room 3 (A.deeper (envOfC "law" (defScope st_law) s.heap.objs.size f cdv))) :
    PSs (cxOf CX0 P w K mg base ["_law_script", "_law_k"] "law" (defScope st_law) f cdv A outer s H E).nox (defBody st_law) (rd_law K) :=
  (pss_one (ps_ret (pe_callB (cr_all rfl) (by rfl) T.z_all (by decide +kernel) (pa_cons (pe_lc (own := [("_law_k", 1)]) rfl sc_law.nd (pi_range1 (by rfl) T.z_range (pa_cons (pe_op u_add pe_int (pe_callB (u_min rfl) (by rfl) T.z_min (by decide +kernel) (pa_cons pe_int (pa_cons (pe_callB u_len (by rfl) T.z_len (by decide +kernel) (pa_cons (pv 0) pa_nil)) pa_nil)))) pa_nil)) (blkOk_by (own := [("_law_k", 1)]) (by kernel_rfl)) (fun _ _ _ _ _ => (pg_name (i := 1) sc_law.nd rfl (by first | exact .inl rfl | exact .inr rfl))) (fun _ _ _ _ _ => pts_nil) (fun _ _ _ _ _ => (pe_call G_right (hr.mono (by decide)) (by rfl) T.g_right T.F_right.kp T.b_right .nil pass0 (pa_cons (pe_call G_box (hr.mono (by decide)) (by rfl) T.g_box T.F_box.kp T.b_box .nil pass0 (pa_cons (pv 0) (pa_cons (pv 1) pa_nil))) pa_nil)))) pa_nil))))
theorem ok_law (T : Txt K mg) (G_box : FnOk P w K mg base CX0 1 T.f_box T.fd_box ["_law_script", "_law_k"] (sp_box K)) (G_right : FnOk P w K mg base CX0 3 T.f_right T.fd_right ["_law_box_here"] (sp_right K)) : FnOk P w K mg base CX0 4 T.f_law T.fd_law ["_law_script"] (sp_law K) := by
  refine T.F_law.ok sc_law (fun vs H Q E h => ln_law h) (fun cdv A outer s H vs Q E hr h => ⟨_, dv_law T G_box G_right hr, ok_rd_law h⟩)
theorem ok_all (T : Txt K mg) : FnOk P w K mg base CX0 4 T.f_law T.fd_law ["_law_script"] (sp_law K) := by
  have G_box := ok_box (P := P) (w := w) (base := base) T
  have G_take := ok_take (P := P) (w := w) (base := base) T
  have G_lane := ok_lane (P := P) (w := w) (base := base) T G_take
  have G_due := ok_due (P := P) (w := w) (base := base) T
  have G_takes := ok_takes (P := P) (w := w) (base := base) T
  have G_one_of := ok_one_of (P := P) (w := w) (base := base) T
  have G_pair_right := ok_pair_right (P := P) (w := w) (base := base) T G_due G_takes G_one_of
  have G_right := ok_right (P := P) (w := w) (base := base) T G_lane G_pair_right G_take
  have G_law := ok_law (P := P) (w := w) (base := base) T G_box G_right
  exact G_law
end
theorem all_mk {l : PySem.W.OpenLaw} {w : World} {K : PySem.W.Frag} {h : Heap} {mg : Str → Option Value} {fa : Addr} (X : K.In h) (G : h.Ns mainGlobals mg) (hfa : mg "law" = some (.ref fa))
    {f_one_of : Addr} {od_one_of an_one_of : Option Addr} {sl_one_of : Array (Option Value)} {oc_one_of kV_one_of dc_one_of pm_one_of cd_one_of ct_one_of : Value}
    (a_one_of : PySem.W.nsIn K mainGlobals "one_of" = some (some (.ref f_one_of))) (l_one_of : K.lookup f_one_of = some ⟨oc_one_of, od_one_of, .func (PySem.W.fnOf "one_of" "one_of" (defArgs st_one_of) (defBody st_one_of) (defScope st_one_of) .none kV_one_of dc_one_of pm_one_of an_one_of cd_one_of ct_one_of), sl_one_of⟩) (c_one_of : PySem.W.codeIn K cd_one_of "one_of" = true) (k_one_of : PySem.W.keepIn K (.ref f_one_of) = true)
    {f_box : Addr} {od_box an_box : Option Addr} {sl_box : Array (Option Value)} {oc_box kV_box dc_box pm_box cd_box ct_box : Value}
    (a_box : PySem.W.nsIn K mainGlobals "_law_box" = some (some (.ref f_box))) (l_box : K.lookup f_box = some ⟨oc_box, od_box, .func (PySem.W.fnOf "_law_box" "_law_box" (defArgs st_box) (defBody st_box) (defScope st_box) .none kV_box dc_box pm_box an_box cd_box ct_box), sl_box⟩) (c_box : PySem.W.codeIn K cd_box "_law_box" = true) (k_box : PySem.W.keepIn K (.ref f_box) = true)
    {f_take : Addr} {od_take an_take : Option Addr} {sl_take : Array (Option Value)} {oc_take kV_take dc_take pm_take cd_take ct_take : Value}
    (a_take : PySem.W.nsIn K mainGlobals "_law_take" = some (some (.ref f_take))) (l_take : K.lookup f_take = some ⟨oc_take, od_take, .func (PySem.W.fnOf "_law_take" "_law_take" (defArgs st_take) (defBody st_take) (defScope st_take) .none kV_take dc_take pm_take an_take cd_take ct_take), sl_take⟩) (c_take : PySem.W.codeIn K cd_take "_law_take" = true) (k_take : PySem.W.keepIn K (.ref f_take) = true)
    {f_lane : Addr} {od_lane an_lane : Option Addr} {sl_lane : Array (Option Value)} {oc_lane kV_lane dc_lane pm_lane cd_lane ct_lane : Value}
    (a_lane : PySem.W.nsIn K mainGlobals "_law_lane" = some (some (.ref f_lane))) (l_lane : K.lookup f_lane = some ⟨oc_lane, od_lane, .func (PySem.W.fnOf "_law_lane" "_law_lane" (defArgs st_lane) (defBody st_lane) (defScope st_lane) .none kV_lane dc_lane pm_lane an_lane cd_lane ct_lane), sl_lane⟩) (c_lane : PySem.W.codeIn K cd_lane "_law_lane" = true) (k_lane : PySem.W.keepIn K (.ref f_lane) = true)
    {f_takes : Addr} {od_takes an_takes : Option Addr} {sl_takes : Array (Option Value)} {oc_takes kV_takes dc_takes pm_takes cd_takes ct_takes : Value}
    (a_takes : PySem.W.nsIn K mainGlobals "_law_takes" = some (some (.ref f_takes))) (l_takes : K.lookup f_takes = some ⟨oc_takes, od_takes, .func (PySem.W.fnOf "_law_takes" "_law_takes" (defArgs st_takes) (defBody st_takes) (defScope st_takes) .none kV_takes dc_takes pm_takes an_takes cd_takes ct_takes), sl_takes⟩) (c_takes : PySem.W.codeIn K cd_takes "_law_takes" = true) (k_takes : PySem.W.keepIn K (.ref f_takes) = true)
    {f_due : Addr} {od_due an_due : Option Addr} {sl_due : Array (Option Value)} {oc_due kV_due dc_due pm_due cd_due ct_due : Value}
    (a_due : PySem.W.nsIn K mainGlobals "_law_due" = some (some (.ref f_due))) (l_due : K.lookup f_due = some ⟨oc_due, od_due, .func (PySem.W.fnOf "_law_due" "_law_due" (defArgs st_due) (defBody st_due) (defScope st_due) .none kV_due dc_due pm_due an_due cd_due ct_due), sl_due⟩) (c_due : PySem.W.codeIn K cd_due "_law_due" = true) (k_due : PySem.W.keepIn K (.ref f_due) = true)
    {f_pair_right : Addr} {od_pair_right an_pair_right : Option Addr} {sl_pair_right : Array (Option Value)} {oc_pair_right kV_pair_right dc_pair_right pm_pair_right cd_pair_right ct_pair_right : Value}
    (a_pair_right : PySem.W.nsIn K mainGlobals "_law_pair_right" = some (some (.ref f_pair_right))) (l_pair_right : K.lookup f_pair_right = some ⟨oc_pair_right, od_pair_right, .func (PySem.W.fnOf "_law_pair_right" "_law_pair_right" (defArgs st_pair_right) (defBody st_pair_right) (defScope st_pair_right) .none kV_pair_right dc_pair_right pm_pair_right an_pair_right cd_pair_right ct_pair_right), sl_pair_right⟩) (c_pair_right : PySem.W.codeIn K cd_pair_right "_law_pair_right" = true) (k_pair_right : PySem.W.keepIn K (.ref f_pair_right) = true)
    {f_right : Addr} {od_right an_right : Option Addr} {sl_right : Array (Option Value)} {oc_right kV_right dc_right pm_right cd_right ct_right : Value}
    (a_right : PySem.W.nsIn K mainGlobals "_law_right" = some (some (.ref f_right))) (l_right : K.lookup f_right = some ⟨oc_right, od_right, .func (PySem.W.fnOf "_law_right" "_law_right" (defArgs st_right) (defBody st_right) (defScope st_right) .none kV_right dc_right pm_right an_right cd_right ct_right), sl_right⟩) (c_right : PySem.W.codeIn K cd_right "_law_right" = true) (k_right : PySem.W.keepIn K (.ref f_right) = true)
    {f_law : Addr} {od_law an_law : Option Addr} {sl_law : Array (Option Value)} {oc_law kV_law dc_law pm_law cd_law ct_law : Value}
    (a_law : PySem.W.nsIn K mainGlobals "law" = some (some (.ref f_law))) (l_law : K.lookup f_law = some ⟨oc_law, od_law, .func (PySem.W.fnOf "law" "law" (defArgs st_law) (defBody st_law) (defScope st_law) .none kV_law dc_law pm_law an_law cd_law ct_law), sl_law⟩) (c_law : PySem.W.codeIn K cd_law "law" = true) (k_law : PySem.W.keepIn K (.ref f_law) = true)
    {v_ANY : Value} (c_ANY : PySem.W.nsIn K mainGlobals "ANY" = some (some v_ANY)) (r_ANY : RelV (.str (SX.S [45])) v_ANY)
    (z_abs : PySem.W.nsIn K mainGlobals "abs" = some none)
    (z_all : PySem.W.nsIn K mainGlobals "all" = some none)
    (z_divmod : PySem.W.nsIn K mainGlobals "divmod" = some none)
    (z_enumerate : PySem.W.nsIn K mainGlobals "enumerate" = some none)
    (z_int : PySem.W.nsIn K mainGlobals "int" = some none)
    (z_len : PySem.W.nsIn K mainGlobals "len" = some none)
    (z_list : PySem.W.nsIn K mainGlobals "list" = some none)
    (z_min : PySem.W.nsIn K mainGlobals "min" = some none)
    (z_range : PySem.W.nsIn K mainGlobals "range" = some none)
    (z_zip : PySem.W.nsIn K mainGlobals "zip" = some none)
    : ∃ fd : FuncData, (∀ (s : Shared) (v : Value), BindsTo s fd ⟨[v], []⟩ [("_law_script", v)]) ∧ ∀ base : Heap, K.In base → base.Ns mainGlobals mg → FnOk l.prog w K mg base CX0 4 fa fd ["_law_script"] (sp_law K) := by
  have e := hfa.symm.trans (PySem.W.mg_of X G a_law)
  cases e
  have F_one_of := fun_mk (st := st_one_of) l_one_of c_one_of k_one_of
  have b_one_of := F_one_of.binds (ps := ["lane", "other"]) fun _ _ _ _ _ _ us hl => match us, hl with | [_, _], _ => rfl
  have F_box := fun_mk (st := st_box) l_box c_box k_box
  have b_box := F_box.binds (ps := ["_law_script", "_law_k"]) fun _ _ _ _ _ _ us hl => match us, hl with | [_, _], _ => rfl
  have F_take := fun_mk (st := st_take) l_take c_take k_take
  have b_take := F_take.binds (ps := ["_law_box_here", "_law_many"]) fun _ _ _ _ _ _ us hl => match us, hl with | [_, _], _ => rfl
  have F_lane := fun_mk (st := st_lane) l_lane c_lane k_lane
  have b_lane := F_lane.binds (ps := ["_law_box_here", "_law_size", "_law_other"]) fun _ _ _ _ _ _ us hl => match us, hl with | [_, _, _], _ => rfl
  have F_takes := fun_mk (st := st_takes) l_takes c_takes k_takes
  have b_takes := F_takes.binds (ps := ["_law_lane_here", "_law_size", "_law_number"]) fun _ _ _ _ _ _ us hl => match us, hl with | [_, _, _], _ => rfl
  have F_due := fun_mk (st := st_due) l_due c_due k_due
  have b_due := F_due.binds (ps := ["_law_lane_here", "_law_other"]) fun _ _ _ _ _ _ us hl => match us, hl with | [_, _], _ => rfl
  have F_pair_right := fun_mk (st := st_pair_right) l_pair_right c_pair_right k_pair_right
  have b_pair_right := F_pair_right.binds (ps := ["_law_lane_here", "_law_other", "_law_size"]) fun _ _ _ _ _ _ us hl => match us, hl with | [_, _, _], _ => rfl
  have F_right := fun_mk (st := st_right) l_right c_right k_right
  have b_right := F_right.binds (ps := ["_law_box_here"]) fun _ _ _ _ _ _ us hl => match us, hl with | [_], _ => rfl
  have F_law := fun_mk (st := st_law) l_law c_law k_law
  have b_law := F_law.binds (ps := ["_law_script"]) fun _ _ _ _ _ _ us hl => match us, hl with | [_], _ => rfl
  refine ⟨PySem.W.fnOf "law" "law" (defArgs st_law) (defBody st_law) (defScope st_law) .none kV_law dc_law pm_law an_law cd_law ct_law, fun s v => .of_eq rfl, fun base _ _ => ok_all (P := l.prog) (w := w) (base := base) ({
    f_one_of := f_one_of, fd_one_of := _, F_one_of := F_one_of, b_one_of := b_one_of, g_one_of := PySem.W.mg_of X G a_one_of,
    f_box := f_box, fd_box := _, F_box := F_box, b_box := b_box, g_box := PySem.W.mg_of X G a_box,
    f_take := f_take, fd_take := _, F_take := F_take, b_take := b_take, g_take := PySem.W.mg_of X G a_take,
    f_lane := f_lane, fd_lane := _, F_lane := F_lane, b_lane := b_lane, g_lane := PySem.W.mg_of X G a_lane,
    f_takes := f_takes, fd_takes := _, F_takes := F_takes, b_takes := b_takes, g_takes := PySem.W.mg_of X G a_takes,
    f_due := f_due, fd_due := _, F_due := F_due, b_due := b_due, g_due := PySem.W.mg_of X G a_due,
    f_pair_right := f_pair_right, fd_pair_right := _, F_pair_right := F_pair_right, b_pair_right := b_pair_right, g_pair_right := PySem.W.mg_of X G a_pair_right,
    f_right := f_right, fd_right := _, F_right := F_right, b_right := b_right, g_right := PySem.W.mg_of X G a_right,
    f_law := fa, fd_law := _, F_law := F_law, b_law := b_law, g_law := PySem.W.mg_of X G a_law,
    v_ANY := v_ANY, c_ANY := PySem.W.mg_of X G c_ANY, r_ANY := r_ANY,
    z_abs := PySem.W.mg_none_of X G z_abs, z_all := PySem.W.mg_none_of X G z_all, z_divmod := PySem.W.mg_none_of X G z_divmod, z_enumerate := PySem.W.mg_none_of X G z_enumerate, z_int := PySem.W.mg_none_of X G z_int, z_len := PySem.W.mg_none_of X G z_len, z_list := PySem.W.mg_none_of X G z_list, z_min := PySem.W.mg_none_of X G z_min, z_range := PySem.W.mg_none_of X G z_range, z_zip := PySem.W.mg_none_of X G z_zip } : Txt K mg)⟩
end MA
open PySem PySem.W PyProof.Rows
set_option maxHeartbeats 0 in
theorem PySem.Challenge.cw_masklanes_k07_one_lane_of_two_holds : PySem.Challenge.rw_masklanes_k07_one_lane_of_two.Holds := by
  w_on; o_law; k_head; (case hw => w_witness2)
  k_fill
  refine L2.walk_of (l := PySem.Challenge.rw_masklanes_k07_one_lane_of_two) (n := 63) (k := 4) (x := "_law_script") (CX := fun _ => L2.CX0) (sp := fun w => MA.sp_law _) rfl (by decide) rfl ⟨rfl, by decide, by decide⟩ (fun w h Y => PySem.W.kIn_of Y) ?F (fun _ _ a ns hl _ hS => ⟨a, ns, rfl, hS, hl, fun _ => rfl⟩) (fun _ _ _ _ _ h => h)
  case F =>
    intro w mg fa h KX G hmg
    refine' MA.all_mk KX G hmg ?a_one_of ?l_one_of ?c_one_of ?k_one_of ?a_box ?l_box ?c_box ?k_box ?a_take ?l_take ?c_take ?k_take ?a_lane ?l_lane ?c_lane ?k_lane ?a_takes ?l_takes ?c_takes ?k_takes ?a_due ?l_due ?c_due ?k_due ?a_pair_right ?l_pair_right ?c_pair_right ?k_pair_right ?a_right ?l_right ?c_right ?k_right ?a_law ?l_law ?c_law ?k_law ?c_ANY ?r_ANY ?z_abs ?z_all ?z_divmod ?z_enumerate ?z_int ?z_len ?z_list ?z_min ?z_range ?z_zip
    (case a_one_of => k_is)
    (case l_one_of => k_is)
    (case c_one_of => k_is)
    (case k_one_of => k_is)
    (case a_box => k_is)
    (case l_box => k_is)
    (case c_box => k_is)
    (case k_box => k_is)
    (case a_take => k_is)
    (case l_take => k_is)
    (case c_take => k_is)
    (case k_take => k_is)
    (case a_lane => k_is)
    (case l_lane => k_is)
    (case c_lane => k_is)
    (case k_lane => k_is)
    (case a_takes => k_is)
    (case l_takes => k_is)
    (case c_takes => k_is)
    (case k_takes => k_is)
    (case a_due => k_is)
    (case l_due => k_is)
    (case c_due => k_is)
    (case k_due => k_is)
    (case a_pair_right => k_is)
    (case l_pair_right => k_is)
    (case c_pair_right => k_is)
    (case k_pair_right => k_is)
    (case a_right => k_is)
    (case l_right => k_is)
    (case c_right => k_is)
    (case k_right => k_is)
    (case a_law => k_is)
    (case l_law => k_is)
    (case c_law => k_is)
    (case k_law => k_is)
    (case c_ANY => k_is)
    (case r_ANY => exact ⟨_, rfl⟩)
    (case z_abs => k_is)
    (case z_all => k_is)
    (case z_divmod => k_is)
    (case z_enumerate => k_is)
    (case z_int => k_is)
    (case z_len => k_is)
    (case z_list => k_is)
    (case z_min => k_is)
    (case z_range => k_is)
    (case z_zip => k_is)
