import PyProof.Rows.All
import Wide.All
import OpenK.AllK
import Wide.FinOn
import HandS.ForMost
import KE.GoesEnumKw
import KE.KDictZip
import HandS.Flow
import HandS.Wide
import HandS.WideBits
import HandS.IsInst
import HandS.Defaults
import HandS.StrMore
import HandS.Conv
import HandS.Style
import HandS.TupMul
import HandS.SortInts
import HandS.WideMore
import HandS.Codes
import HandS.Deep
import HandS.More
import PySem.Challenge.RW_masklanes_k06_less_another_lane
set_option Elab.async false
set_option linter.all false
set_option maxRecDepth 100000
set_option maxHeartbeats 4000000
/-! ZS: zip(.., strict=True) of two iterators of any kind. -/
namespace PySem
open Sem (wp)
/-- a zip's record: what it has handed out, whether that was met again, whether it is strict -/
abbrev IsZipS (h : Heap) (z TI TO : Addr) (f0 : Value) (f1 : Bool) : Prop := h.get? z = some { cls := .type "zip", data := .fields #[f0, .bool f1, .bool true, .ref TI, .ref TO] }

section
variable {prog : Program} {w : World} {A : Around} {E : Value → Shared → Prop} {s : Shared}
theorem Draws.itemE {it : Addr} {fp : List Addr} {n i : Nat} {P : Nat → Value → Prop} {St : Nat → Heap → Prop} {Q : Option Value → Shared → Prop} (D : Draws prog w A it fp n P St) (hi : i < n) (st : St i s.heap)
    (hQ : ∀ x h' tk, P i x → St (i + 1) h' → Heap.SameBut it s.heap h' → Q (some x) { s with heap := h', toks := tk }) : wpAny (model prog w) A (Builtin.SmallTypes.nextOrEnd (.ref it)) Q E s := by
  unfold Builtin.SmallTypes.nextOrEnd
  refine wpAny_bind (wpAny_attempt (D.item i s _ _ hi st fun x h' tk p st' sb => ?_))
  exact wpAny_pure (hQ x h' tk p st' sb)
theorem Draws.doneE {it : Addr} {fp : List Addr} {n : Nat} {P : Nat → Value → Prop} {St : Nat → Heap → Prop} {Q : Option Value → Shared → Prop} (D : Draws prog w A it fp n P St) (st : St n s.heap)
    (hQ : ∀ h', Heap.ExtBut it s.heap h' → Q none { s with heap := h' }) : wpAny (model prog w) A (Builtin.SmallTypes.nextOrEnd (.ref it)) Q E s := by
  unfold Builtin.SmallTypes.nextOrEnd
  refine wpAny_bind (wpAny_attempt (D.done s _ _ st fun h' e ex he => ?_))
  obtain ⟨o, ho, hc⟩ := he
  refine wpAny_bind (wpAny_isInstance (T := "StopIteration") (b := true) ⟨o, ho, hc⟩ isSubtype_stop ?_)
  exact wpAny_pure (hQ _ ex)
end

section
variable {prog : Program} {w : World} {A : Around} {E : Value → Shared → Prop} {s : Shared} {z TI TO i1 i2 : Addr} {fp1 fp2 : List Addr} {n i : Nat} {P1 P2 : Nat → Value → Prop} {St1 St2 : Nat → Heap → Prop} {a1 a2 : Value} {f1 : Bool}

theorem free_none {Q : Bool → Shared → Prop} (hz : IsZipS s.heap z TI TO .none f1) (h : Q true s) : wpAny (model prog w) A (Builtin.SmallTypes.ownedTupleIsFree (.ref z)) Q E s := by
  unfold Builtin.SmallTypes.ownedTupleIsFree
  exact wpAny_bind (wpAny_field hz rfl (x := .none) rfl (wpAny_pure h))
theorem look_dead {a : Addr} {Q : Option Obj → Shared → Prop} (ho : s.heap.get? a = none) (h : Q none s) : wpAny (model prog w) A (loadIfAlive a) Q E s := by
  have h' : Q (s.heap.get? a) s := by rw [ho]; exact h
  exact fun _ _ _ => h'
theorem free_dead {T : Addr} {Q : Bool → Shared → Prop} (hz : IsZipS s.heap z TI TO (rawInt T) f1) (hT : s.heap.get? T = none) (h : Q true s) : wpAny (model prog w) A (Builtin.SmallTypes.ownedTupleIsFree (.ref z)) Q E s := by
  unfold Builtin.SmallTypes.ownedTupleIsFree
  refine wpAny_bind (wpAny_field hz rfl (x := rawInt T) rfl ?_)
  show wpAny _ _ (loadIfAlive ((T : Int).toNat) >>= _) _ _ _
  rw [Int.toNat_natCast]
  refine wpAny_bind (look_dead hT ?_)
  simp only [Option.isNone_none, if_true]
  exact wpAny_pure h
/-- the tuple it has handed out is free -/
theorem zipS_next_item {f0 : Value} {Q : Value → Shared → Prop} (hfr : ∀ {E : Value → Shared → Prop} {Q : Bool → Shared → Prop}, Q true s → wpAny (model prog w) A (Builtin.SmallTypes.ownedTupleIsFree (.ref z)) Q E s)
    (S : ZipSep2 z TI TO i1 i2 fp1 fp2) (D1 : Draws prog w A i1 fp1 n P1 St1) (D2 : Draws prog w A i2 fp2 n P2 St2)
    (hz : IsZipS s.heap z TI TO f0 f1) (hTI : IsTupOf2 s.heap TI (.ref i1) (.ref i2)) (hTO : IsTupOf2 s.heap TO a1 a2) (st1 : St1 i s.heap) (st2 : St2 i s.heap) (hlt : i < n)
    (hQ : ∀ x1 x2 h' tk, P1 i x1 → P2 i x2 → IsZipS h' z TI TO (rawInt s.heap.objs.size) false → IsTupOf2 h' TO x1 x2 → St1 (i + 1) h' → St2 (i + 1) h' → IsTupOf2 h' s.heap.objs.size x1 x2 → h'.objs.size = s.heap.objs.size + 1 →
      (∀ c o, c ≠ z → c ≠ TO → c ≠ i1 → c ≠ i2 → s.heap.get? c = some o → h'.get? c = some o) → Q (.ref s.heap.objs.size) { s with heap := h', toks := tk }) :
    wpAny (model prog w) A (Builtin.«zip.__next__» ⟨[.ref z], []⟩) (fun fin s' => ∃ v, fin = .done (.ret v) ∧ Q v s') E s := by
  obtain ⟨hp, g, d, tk0, os⟩ := s
  show wpAny _ _ (field (.ref z) 2 >>= _) _ _ _
  refine wpAny_bind (wpAny_field hz rfl (x := .bool true) rfl ?_)
  show wpAny _ _ (field (.ref z) 3 >>= _) _ _ _
  refine wpAny_bind (wpAny_field hz rfl (x := .ref TI) rfl ?_)
  refine wpAny_bind (wpAny_seqItems hTI rfl ?_)
  show wpAny _ _ (Builtin.SmallTypes.ownedTupleIsFree (.ref z) >>= _) _ _ _
  refine wpAny_bind (hfr ?_)
  simp only [if_true]
  refine wpAny_bind (wpAny_rule ?_)
  refine wpAny_bind (wpAny_field hz rfl (x := .ref TO) rfl ?_)
  refine wpAny_bind (wpAny_setField_rec hz (by simp) fun g0 hz0 hs0 => ?_)
  replace hz0 : IsZipS g0 z TI TO .ellipsis f1 := hz0
  replace hs0 : Heap.SameBut z hp g0 := hs0
  refine wpAny_bind ?_
  simp only [List.zipIdx_cons, List.zipIdx_nil, List.forIn_cons, List.forIn_nil]
  refine wpAny_bind (wpAny_bind (wpAny_onRaise ?_))
  show wpAny _ _ (Builtin.SmallTypes.nextOrEnd (.ref i1)) _ _ ⟨g0, g, d, tk0, os⟩
  refine D1.itemE (i := i) hlt (D1.over st1 hs0 S.zf1) fun x1 p1 tk1 hx1 sn1 hp1 => ?_
  replace hp1 : Heap.SameBut i1 g0 p1 := hp1
  have hU1 : IsTupOf2 p1 TO a1 a2 := hp1.extBut _ _ S.Ti1 (hs0.extBut _ _ S.TOz hTO)
  refine wpAny_bind (wpAny_seqItems (s := ⟨p1, g, d, tk1, os⟩) hU1 rfl ?_)
  refine wpAny_bind (updateSeq_IsTupOf2 (s := ⟨p1, g, d, tk1, os⟩) hU1 fun g1 hT1 hs1 => ?_)
  replace hT1 : IsTupOf2 g1 TO x1 a2 := hT1
  replace hs1 : Heap.SameBut TO p1 g1 := hs1
  refine wpAny_bind (wpAny_letGo (wpAny_pure ?_))
  refine wpAny_bind (wpAny_bind (wpAny_onRaise ?_))
  show wpAny _ _ (Builtin.SmallTypes.nextOrEnd (.ref i2)) _ _ ⟨g1, g, d, tk1, os⟩
  refine D2.itemE (i := i) hlt (D2.over (D2.over (D2.over st2 hs0 S.zf2) hp1 S.sep1_2) hs1 S.Tf2) fun x2 p2 tk2 hx2 sn2 hp2 => ?_
  replace hp2 : Heap.SameBut i2 g1 p2 := hp2
  have hU2 : IsTupOf2 p2 TO x1 a2 := hp2.extBut _ _ S.Ti2 hT1
  refine wpAny_bind (wpAny_seqItems (s := ⟨p2, g, d, tk2, os⟩) hU2 rfl ?_)
  refine wpAny_bind (updateSeq_IsTupOf2 (s := ⟨p2, g, d, tk2, os⟩) hU2 fun g2 hT2 hs2 => ?_)
  replace hT2 : IsTupOf2 g2 TO x1 x2 := hT2
  replace hs2 : Heap.SameBut TO p2 g2 := hs2
  refine wpAny_bind (wpAny_letGo (wpAny_pure (wpAny_pure ?_)))
  refine wpAny_bind (wpAny_seqItems (s := ⟨g2, g, d, tk2, os⟩) hT2 rfl ?_)
  refine wpAny_bind (wpAny_newTuple ?_)
  have hsz : g2.objs.size = hp.objs.size := by rw [hs2.1, hp2.1, hs1.1, hp1.1, hs0.1]
  have hzz : IsZipS g2 z TI TO .ellipsis f1 := (hs2.extBut _ _ S.TOz.symm (hp2.extBut _ _ S.zi2 (hs1.extBut _ _ S.TOz.symm (hp1.extBut _ _ S.zi1 hz0))))
  have hkk : ∀ c o, c ≠ z → c ≠ TO → c ≠ i1 → c ≠ i2 → hp.get? c = some o → g2.get? c = some o := fun c o cz cT c1 c2 e =>
    (hs2.extBut _ _ cT (hp2.extBut _ _ c2 (hs1.extBut _ _ cT (hp1.extBut _ _ c1 (hs0.extBut _ _ cz e)))))
  have hj1 : St1 (i + 1) g2 := (D1.over (D1.over (D1.over sn1 hs1 S.Tf1) hp2 S.sep2_1) hs2 S.Tf1)
  have hj2 : St2 (i + 1) g2 := (D2.over sn2 hs2 S.Tf2)
  have hzlt : z < g2.objs.size := Heap.lt_size hzz
  show wpAny _ _ (Builtin.SmallTypes.ownedTupleHandOut (.ref z) (.ref g2.objs.size) >>= _) _ _ ⟨g2.push { cls := .type "tuple", data := .seq #[x1, x2] }, g, d, tk2, os⟩
  refine wpAny_bind ?_
  unfold Builtin.SmallTypes.ownedTupleHandOut
  have hz6 : IsZipS (g2.push { cls := .type "tuple", data := .seq #[x1, x2] }) z TI TO .ellipsis f1 := Heap.get?_push_of_some _ hzz
  refine wpAny_bind (wpAny_setField_rec hz6 (by simp) fun h7 hz7 hs7 => ?_)
  replace hz7 : IsZipS h7 z TI TO (rawInt g2.objs.size) f1 := hz7
  refine wpAny_setField_rec hz7 (by simp) fun h8 hz8 hs8 => ?_
  replace hz8 : IsZipS h8 z TI TO (rawInt g2.objs.size) false := hz8
  replace hs7 : Heap.SameBut z (g2.push { cls := .type "tuple", data := .seq #[x1, x2] }) h7 := hs7
  replace hs8 : Heap.SameBut z h7 h8 := hs8
  have up : ∀ c o, c ≠ z → g2.get? c = some o → h8.get? c = some o := fun c o c1 e => hs8.extBut _ _ c1 (hs7.extBut _ _ c1 (Heap.get?_push_of_some _ e))
  have hT8 : IsTupOf2 h8 g2.objs.size x1 x2 := hs8.extBut _ _ (Nat.ne_of_gt hzlt) (hs7.extBut _ _ (Nat.ne_of_gt hzlt) (Heap.get?_push_size _ rfl))
  have hz9 : h8.objs.size = g2.objs.size + 1 := by rw [hs8.1, hs7.1, Heap.size_push]
  rw [hsz] at hz8 hT8 hz9
  refine wpAny_pure ⟨_, rfl, ?_⟩
  show Q (.ref g2.objs.size) ⟨h8, g, d, tk2, os⟩
  rw [hsz]
  exact hQ x1 x2 h8 tk2 hx1 hx2 hz8 (up _ _ S.TOz hT2) (D1.frame _ _ _ hj1 fun b hb o e => up b o (fun q => S.zf1 (q ▸ hb)) e) (D2.frame _ _ _ hj2 fun b hb o e => up b o (fun q => S.zf2 (q ▸ hb)) e) hT8 hz9 fun c o cz cT c1 c2 e => up c o cz (hkk c o cz cT c1 c2 e)

theorem zipS_next_end {f0 : Value} {Q : Fin → Shared → Prop} (hh : A.handled = none) (hfr : ∀ {E : Value → Shared → Prop} {Q : Bool → Shared → Prop}, Q true s → wpAny (model prog w) A (Builtin.SmallTypes.ownedTupleIsFree (.ref z)) Q E s)
    (S : ZipSep2 z TI TO i1 i2 fp1 fp2) (D1 : Draws prog w A i1 fp1 n P1 St1) (D2 : Draws prog w A i2 fp2 n P2 St2)
    (hz : IsZipS s.heap z TI TO f0 f1) (hTI : IsTupOf2 s.heap TI (.ref i1) (.ref i2)) (hTO : IsTupOf2 s.heap TO a1 a2) (st1 : St1 n s.heap) (st2 : St2 n s.heap)
    (hE : ∀ h' tk e, (∀ c o, c ≠ z → c ≠ TO → c ≠ i1 → c ≠ i2 → s.heap.get? c = some o → h'.get? c = some o) → (∃ o, h'.get? e = some o ∧ o.cls = .type "StopIteration") → E (.ref e) { s with heap := h', toks := tk }) :
    wpAny (model prog w) A (Builtin.«zip.__next__» ⟨[.ref z], []⟩) Q E s := by
  obtain ⟨hp, g, d, tk0, os⟩ := s
  show wpAny _ _ (field (.ref z) 2 >>= _) _ _ _
  refine wpAny_bind (wpAny_field hz rfl (x := .bool true) rfl ?_)
  show wpAny _ _ (field (.ref z) 3 >>= _) _ _ _
  refine wpAny_bind (wpAny_field hz rfl (x := .ref TI) rfl ?_)
  refine wpAny_bind (wpAny_seqItems hTI rfl ?_)
  show wpAny _ _ (Builtin.SmallTypes.ownedTupleIsFree (.ref z) >>= _) _ _ _
  refine wpAny_bind (hfr ?_)
  simp only [if_true]
  refine wpAny_bind (wpAny_rule ?_)
  refine wpAny_bind (wpAny_field hz rfl (x := .ref TO) rfl ?_)
  refine wpAny_bind (wpAny_setField_rec hz (by simp) fun g0 hz0 hs0 => ?_)
  replace hz0 : IsZipS g0 z TI TO .ellipsis f1 := hz0
  replace hs0 : Heap.SameBut z hp g0 := hs0
  refine wpAny_bind ?_
  simp only [List.zipIdx_cons, List.zipIdx_nil, List.forIn_cons, List.forIn_nil]
  refine wpAny_bind (wpAny_bind (wpAny_onRaise ?_))
  show wpAny _ _ (Builtin.SmallTypes.nextOrEnd (.ref i1)) _ _ ⟨g0, g, d, tk0, os⟩
  refine D1.doneE (D1.over st1 hs0 S.zf1) fun q1 hq1 => ?_
  replace hq1 : Heap.ExtBut i1 g0 q1 := hq1
  have hzq : IsZipS q1 z TI TO .ellipsis f1 := hq1 _ _ S.zi1 hz0
  refine wpAny_bind (wpAny_setField_rec (s := ⟨q1, g, d, tk0, os⟩) hzq (by simp) fun q2 _ hq2 => ?_)
  replace hq2 : Heap.SameBut z q1 q2 := hq2
  have st2' : St2 n q2 := D2.frame _ _ _ st2 fun b hb o e => by
    have bz : b ≠ z := fun q => S.zf2 (q ▸ hb)
    have b1 : b ≠ i1 := fun q => S.sep1_2 (q ▸ hb)
    exact hq2.extBut _ _ bz (hq1 _ _ b1 (hs0.extBut _ _ bz e))
  refine wpAny_bind ?_
  refine wpAny_bind ?_
  simp only [List.drop_succ_cons, List.drop_zero, List.zipIdx_cons, List.zipIdx_nil, List.forIn_cons, List.forIn_nil]
  refine wpAny_bind (wpAny_bind ?_)
  refine D2.doneE st2' fun q3 hq3 => ?_
  replace hq3 : Heap.ExtBut i2 q2 q3 := hq3
  simp only [Option.isSome_none, Bool.false_eq_true, if_false]
  refine wpAny_pure (wpAny_pure ?_)
  refine wpAny_bind (wpAny_rule ?_)
  show wpAny _ _ (newExc (.type "StopIteration") [] >>= _) _ _ _
  refine wpAny_bind ?_
  simp only [newExc, newTuple]
  refine wpAny_bind (wpAny_newObj_type ?_ (by size_fits))
  refine wpAny_bind (m := firstArgMember _ _) (wpAny_of_eq (a := Value.none) (by first | rfl | (simp only [firstArgMember]; rfl)) ?_)
  refine wpAny_newObj_type ?_ (by size_fits)
  simp only [raiseNew]
  refine wpAny_bind (wpAny_handled ?_)
  rw [hh]
  refine wpAny_bind (wpAny_pure (wpAny_throw ?_))
  exact hE _ _ _ (fun c o cz cT c1 c2 e => Heap.get?_push_of_some _ (Heap.get?_push_of_some _ (hq3 _ _ c2 (hq2.extBut _ _ cz (hq1 _ _ c1 (hs0.extBut _ _ cz e)))))) ⟨_, Heap.get?_push_size _ rfl, rfl⟩

theorem tupleHeld_zipS {T : Addr} {f : Bool} {oT : Obj} {Q : Bool → Shared → Prop} (hz : IsZipS s.heap z TI TO (rawInt T) f) (hT : s.heap.get? T = some oT)
    (h : ∀ h', IsZipS h' z TI TO (rawInt T) true → Heap.SameBut z s.heap h' → Q false { s with heap := h' }) : wpAny (model prog w) A (Builtin.SmallTypes.ownedTupleIsFree (.ref z)) Q E s := by
  unfold Builtin.SmallTypes.ownedTupleIsFree
  refine wpAny_bind (wpAny_field hz rfl (x := rawInt T) rfl ?_)
  show wpAny _ _ (loadIfAlive ((T : Int).toNat) >>= _) _ _ _
  rw [Int.toNat_natCast]
  refine wpAny_bind (PySem.W.kdx_alive hT ?_)
  simp only [Option.isNone_some, Bool.false_eq_true, if_false]
  refine wpAny_bind (wpAny_field hz rfl (x := .bool f) rfl ?_)
  cases f with
  | true =>
    rw [if_neg (show ¬ ((Value.bool true != Value.bool true) = true) from Bool.false_ne_true)]
    exact wpAny_pure (h s.heap hz (Heap.SameBut.refl _ _))
  | false =>
    rw [if_pos (show (Value.bool false != Value.bool true) = true from rfl)]
    exact wpAny_bind (wpAny_setField_rec hz (by simp) fun h1 hz1 hs1 => wpAny_pure (h h1 hz1 hs1))

/-- the tuple T that it has handed out is still held -/
theorem zipS_next_itemH {T : Addr} {oT : Obj} {Q : Value → Shared → Prop} (S : ZipSep2 z TI TO i1 i2 fp1 fp2) (D1 : Draws prog w A i1 fp1 n P1 St1) (D2 : Draws prog w A i2 fp2 n P2 St2)
    (hz : IsZipS s.heap z TI TO (rawInt T) f1) (hT : s.heap.get? T = some oT) (hTI : IsTupOf2 s.heap TI (.ref i1) (.ref i2)) (st1 : St1 i s.heap) (st2 : St2 i s.heap) (hlt : i < n)
    (hQ : ∀ x1 x2 h' tk, P1 i x1 → P2 i x2 → IsZipS h' z TI TO (rawInt T) true → St1 (i + 1) h' → St2 (i + 1) h' → IsTupOf2 h' s.heap.objs.size x1 x2 → h'.objs.size = s.heap.objs.size + 1 →
      (∀ c o, c ≠ z → c ≠ i1 → c ≠ i2 → s.heap.get? c = some o → h'.get? c = some o) → Q (.ref s.heap.objs.size) { s with heap := h', toks := tk }) :
    wpAny (model prog w) A (Builtin.«zip.__next__» ⟨[.ref z], []⟩) (fun fin s' => ∃ v, fin = .done (.ret v) ∧ Q v s') E s := by
  obtain ⟨hp, g, d, tk0, os⟩ := s
  show wpAny _ _ (field (.ref z) 2 >>= _) _ _ _
  refine wpAny_bind (wpAny_field hz rfl (x := .bool true) rfl ?_)
  show wpAny _ _ (field (.ref z) 3 >>= _) _ _ _
  refine wpAny_bind (wpAny_field hz rfl (x := .ref TI) rfl ?_)
  refine wpAny_bind (wpAny_seqItems hTI rfl ?_)
  show wpAny _ _ (Builtin.SmallTypes.ownedTupleIsFree (.ref z) >>= _) _ _ _
  refine wpAny_bind (tupleHeld_zipS hz hT fun g0 hz0 hs0 => ?_)
  replace hs0 : Heap.SameBut z hp g0 := hs0
  simp only [Bool.false_eq_true, if_false]
  refine wpAny_bind ?_
  rw [← Array.forIn_toList]
  simp only [List.forIn_cons, List.forIn_nil]
  refine wpAny_bind (wpAny_bind (wpAny_holding ?_))
  show wpAny _ _ (Builtin.SmallTypes.nextOrEnd (.ref i1)) _ _ ⟨g0, g, d, tk0, os⟩
  refine D1.itemE (i := i) hlt (D1.over st1 hs0 S.zf1) fun x1 p1 tk1 hx1 sn1 hp1 => wpAny_pure ?_
  replace hp1 : Heap.SameBut i1 g0 p1 := hp1
  refine wpAny_bind (wpAny_bind (wpAny_holding ?_))
  show wpAny _ _ (Builtin.SmallTypes.nextOrEnd (.ref i2)) _ _ ⟨p1, g, d, tk1, os⟩
  refine D2.itemE (i := i) hlt (D2.over (D2.over st2 hs0 S.zf2) hp1 S.sep1_2) fun x2 p2 tk2 hx2 sn2 hp2 => wpAny_pure (wpAny_pure ?_)
  replace hp2 : Heap.SameBut i2 p1 p2 := hp2
  show wpAny _ _ (newTuple [x1, x2] >>= _) _ _ ⟨p2, g, d, tk2, os⟩
  refine wpAny_bind (wpAny_newTuple ?_)
  have hsz : p2.objs.size = hp.objs.size := by rw [hp2.1, hp1.1, hs0.1]
  have hzz : IsZipS p2 z TI TO (rawInt T) true := hp2.extBut _ _ S.zi2 (hp1.extBut _ _ S.zi1 hz0)
  refine wpAny_pure ⟨_, rfl, ?_⟩
  show Q (.ref p2.objs.size) ⟨p2.push { cls := .type "tuple", data := .seq #[x1, x2] }, g, d, tk2, os⟩
  have hT8 : IsTupOf2 (p2.push { cls := .type "tuple", data := .seq #[x1, x2] }) p2.objs.size x1 x2 := Heap.get?_push_size _ rfl
  have hz9 : (p2.push { cls := .type "tuple", data := .seq #[x1, x2] }).objs.size = p2.objs.size + 1 := Heap.size_push ..
  rw [hsz] at hT8 hz9 ⊢
  exact hQ x1 x2 _ tk2 hx1 hx2 (Heap.get?_push_of_some _ hzz) (D1.frame _ _ _ (D1.over sn1 hp2 S.sep2_1) fun b hb o e => Heap.get?_push_of_some _ e) (D2.frame _ _ _ sn2 fun b hb o e => Heap.get?_push_of_some _ e) hT8 hz9
    fun c o cz c1 c2 e => Heap.get?_push_of_some _ (hp2.extBut _ _ c2 (hp1.extBut _ _ c1 (hs0.extBut _ _ cz e)))
theorem zipS_next_endH {T : Addr} {oT : Obj} {Q : Fin → Shared → Prop} (hh : A.handled = none) (S : ZipSep2 z TI TO i1 i2 fp1 fp2) (D1 : Draws prog w A i1 fp1 n P1 St1) (D2 : Draws prog w A i2 fp2 n P2 St2)
    (hz : IsZipS s.heap z TI TO (rawInt T) f1) (hT : s.heap.get? T = some oT) (hTI : IsTupOf2 s.heap TI (.ref i1) (.ref i2)) (st1 : St1 n s.heap) (st2 : St2 n s.heap)
    (hE : ∀ h' tk e, (∀ c o, c ≠ z → c ≠ TO → c ≠ i1 → c ≠ i2 → s.heap.get? c = some o → h'.get? c = some o) → (∃ o, h'.get? e = some o ∧ o.cls = .type "StopIteration") → E (.ref e) { s with heap := h', toks := tk }) :
    wpAny (model prog w) A (Builtin.«zip.__next__» ⟨[.ref z], []⟩) Q E s := by
  obtain ⟨hp, g, d, tk0, os⟩ := s
  show wpAny _ _ (field (.ref z) 2 >>= _) _ _ _
  refine wpAny_bind (wpAny_field hz rfl (x := .bool true) rfl ?_)
  show wpAny _ _ (field (.ref z) 3 >>= _) _ _ _
  refine wpAny_bind (wpAny_field hz rfl (x := .ref TI) rfl ?_)
  refine wpAny_bind (wpAny_seqItems hTI rfl ?_)
  show wpAny _ _ (Builtin.SmallTypes.ownedTupleIsFree (.ref z) >>= _) _ _ _
  refine wpAny_bind (tupleHeld_zipS hz hT fun g0 hz0 hs0 => ?_)
  replace hs0 : Heap.SameBut z hp g0 := hs0
  simp only [Bool.false_eq_true, if_false]
  refine wpAny_bind ?_
  rw [← Array.forIn_toList]
  simp only [List.forIn_cons, List.forIn_nil]
  refine wpAny_bind (wpAny_bind (wpAny_holding ?_))
  show wpAny _ _ (Builtin.SmallTypes.nextOrEnd (.ref i1)) _ _ ⟨g0, g, d, tk0, os⟩
  refine D1.doneE (D1.over st1 hs0 S.zf1) fun q1 hq1 => ?_
  replace hq1 : Heap.ExtBut i1 g0 q1 := hq1
  have st2' : St2 n q1 := D2.frame _ _ _ st2 fun b hb o e => by
    have bz : b ≠ z := fun q => S.zf2 (q ▸ hb)
    have b1 : b ≠ i1 := fun q => S.sep1_2 (q ▸ hb)
    exact hq1 _ _ b1 (hs0.extBut _ _ bz e)
  refine wpAny_bind ?_
  refine wpAny_bind ?_
  simp only [List.drop_succ_cons, List.drop_zero, List.zipIdx_cons, List.zipIdx_nil, List.forIn_cons, List.forIn_nil]
  refine wpAny_bind (wpAny_bind ?_)
  refine D2.doneE st2' fun q3 hq3 => ?_
  replace hq3 : Heap.ExtBut i2 q1 q3 := hq3
  simp only [Option.isSome_none, Bool.false_eq_true, if_false]
  refine wpAny_pure (wpAny_pure ?_)
  refine wpAny_bind (wpAny_rule ?_)
  show wpAny _ _ (newExc (.type "StopIteration") [] >>= _) _ _ _
  refine wpAny_bind ?_
  simp only [newExc, newTuple]
  refine wpAny_bind (wpAny_newObj_type ?_ (by size_fits))
  refine wpAny_bind (m := firstArgMember _ _) (wpAny_of_eq (a := Value.none) (by first | rfl | (simp only [firstArgMember]; rfl)) ?_)
  refine wpAny_newObj_type ?_ (by size_fits)
  simp only [raiseNew]
  refine wpAny_bind (wpAny_handled ?_)
  rw [hh]
  refine wpAny_bind (wpAny_pure (wpAny_throw ?_))
  exact hE _ _ _ (fun c o cz cT c1 c2 e => Heap.get?_push_of_some _ (Heap.get?_push_of_some _ (hq3 _ _ c2 (hq1 _ _ c1 (hs0.extBut _ _ cz e))))) ⟨_, Heap.get?_push_size _ rfl, rfl⟩
end

/-! ### zip(v1, v2, strict=True) begins -/
namespace F
theorem typeCall_zip_strict (a b c : Value) : checkTypeCall "zip" ⟨[a, b], [(Str.ofString "strict", c)]⟩ = pure () := by kernel_rfl
theorem newCall_zip_strict (a b c : Value) : checkBuiltinCall "zip.__new__" ⟨[.type "zip", a, b], [(Str.ofString "strict", c)]⟩ = pure () := by kernel_rfl
theorem args_object_init_strict (obj a b c : Value) : argsOk "object.__init__" ⟨[obj, a, b], [(Str.ofString "strict", c)]⟩ := by unfold argsOk; kernel_rfl
end F
abbrev gzS2 (h : Heap) (o1 o2 : Obj) : Heap := (gzO2 h o1 o2).push { cls := .type "zip", data := .fields #[.none, .bool false, .bool true, .ref ((h.push o1).push o2).objs.size, .ref (gzT2 h o1 o2).objs.size] }
theorem meets_zip_newS2 {v1 v2 : Value} {o1 o2 : Obj} {H1 H2 : Heap → Prop} (B1 : Begins v1 o1 H1) (B2 : Begins v2 o2 H2) :
    Meets (Builtin.«zip.__new__» ⟨[.type "zip", v1, v2], [(Str.ofString "strict", .bool true)]⟩) (fun _ R s => (H1 s.heap ∧ H2 s.heap) ∧
      R (.ok (.ret (.ref (gzO2 s.heap o1 o2).objs.size))) { s with heap := gzS2 s.heap o1 o2 }) :=
  .of_wp fun prog w A R s h => by
    obtain ⟨hp, g, d, tk, os⟩ := s; obtain ⟨⟨h1, h2⟩, h⟩ := h
    have hsub := sub_zip
    have q1 : ∀ {A' : Around} {E : Value → Shared → Prop} {Q : Value → Shared → Prop}, Q (.ref hp.objs.size) ⟨(hp.push o1), g, d, tk, os⟩ → wpAny (model prog w) A' (pyIter v1) Q E ⟨hp, g, d, tk, os⟩ :=
      fun q => B1.iter prog w _ _ ⟨hp, g, d, tk, os⟩ _ (B1.keeps _ _ h1 fun b o' e => e) q
    have q2 : ∀ {A' : Around} {E : Value → Shared → Prop} {Q : Value → Shared → Prop}, Q (.ref (hp.push o1).objs.size) ⟨((hp.push o1).push o2), g, d, tk, os⟩ → wpAny (model prog w) A' (pyIter v2) Q E ⟨(hp.push o1), g, d, tk, os⟩ :=
      fun q => B2.iter prog w _ _ ⟨(hp.push o1), g, d, tk, os⟩ _ (B2.keeps _ _ h2 fun b o' e => (Heap.get?_push_of_some _ e)) q
    have e1 : (Str.ofString "strict" != ("strict" : Str)) = false := by decide +kernel
    wp_walk using q1, q2
    exact ⟨_, rfl, h⟩
end PySem
namespace PySem
section
variable {M : Model} {A : Around} {E : Value → Shared → Prop} {s : Shared} {env : Env}
theorem callWith_typeKw {pos : Pos} {T : String} {e : Expr} {rest : List Expr} {kws : List Keyword} {Q : Value → Shared → Prop} (hall : (backToKw pos (keywordEach kws env)).all (·.1.isSome) = true)
    (h : wpAny M A (spliced (backTo pos (starEach (e :: rest) env))) (fun vs s₁ => wpAny M A (evalAll ((backToKw pos (keywordEach kws env)).map (·.2)))
      (fun ks s₂ => wpAny M A (call (.type T) vs (((backToKw pos (keywordEach kws env)).filterMap (·.1)).zip ks)) Q E s₂) E s₁) E s)
    (hplain : ((backTo pos (starEach (e :: rest) env)).any (·.1) || (backToKw pos (keywordEach kws env)).any (·.1.isNone)) = false := by rfl) (he : starEach (e :: rest) env = (false, eval e env) :: starEach rest env := by rfl) :
    wpAny M A (callWith pos (.type T) [] (backTo pos (starEach (e :: rest) env)) (backToKw pos (keywordEach kws env))) Q E s := by
  unfold callWith
  refine wpAny_bind (wpAny_holding (PyProof.Rows.evalArgs_kw2 hall (wpAny_mono h (fun vs s₁ h₁ => wpAny_mono h₁ (fun ks s₂ h₂ => wpAny_bind (wpAny_standAt ?_)) fun _ _ x => x) fun _ _ x => x) he))
  simp only [hplain]
  refine wpAny_bind (wpAny_pure ?_)
  exact wpAny_bind (wpAny_mono h₂ (fun r s₂ hr => wpAny_bind (wpAny_holding (wpAny_point (wpAny_pure hr)))) fun _ _ x => x)
end
section
variable {prog : Program} {w : World} {A : Around} {E : Value → Shared → Prop} {s : Shared}
/-- zip of 2, strict: its 5 new cells -/
theorem zip_begins2S {v1 v2 : Value} {o1 o2 : Obj} {H1 H2 : Heap → Prop} {Q : Value → Shared → Prop} (B1 : Begins v1 o1 H1) (B2 : Begins v2 o2 H2) (h1 : H1 s.heap) (h2 : H2 s.heap)
    (h : ∀ h', IsZipS h' (s.heap.objs.size + 4) (s.heap.objs.size + 2) (s.heap.objs.size + 3) .none false → IsTupOf2 h' (s.heap.objs.size + 2) (.ref s.heap.objs.size) (.ref (s.heap.objs.size + 1)) →
      IsTupOf2 h' (s.heap.objs.size + 3) .none .none → h'.get? s.heap.objs.size = some o1 → h'.get? (s.heap.objs.size + 1) = some o2 → h'.objs.size = s.heap.objs.size + 5 →
      (∀ c o, s.heap.get? c = some o → h'.get? c = some o) → Q (.ref (s.heap.objs.size + 4)) { s with heap := h' }) :
    wpAny (model prog w) A (call (.type "zip") [v1, v2] [(Str.ofString "strict", .bool true)]) Q E s := by
  refine callType_newKw F.called_zip (by decide) (F.typeCall_zip_strict _ _ _) (F.newCall_zip_strict _ _ _) (fun obj => F.args_object_init_strict obj _ _ _) F.entry_zip_new
    (meets_zip_newS2 B1 B2) ⟨⟨h1, h2⟩, ?_⟩
  have z1 : (s.heap.push o1).objs.size = s.heap.objs.size + 1 := by rw [Heap.size_push]
  have z2 : ((s.heap.push o1).push o2).objs.size = s.heap.objs.size + 2 := by rw [Heap.size_push, z1]
  have zT : (gzT2 s.heap o1 o2).objs.size = s.heap.objs.size + 3 := by rw [Heap.size_push, z2]
  have zO : (gzO2 s.heap o1 o2).objs.size = s.heap.objs.size + 4 := by rw [Heap.size_push, zT]
  have zZ : (gzS2 s.heap o1 o2).objs.size = s.heap.objs.size + 5 := by rw [Heap.size_push, zO]
  have gZ : (gzS2 s.heap o1 o2).get? (gzO2 s.heap o1 o2).objs.size = some { cls := .type "zip", data := .fields #[.none, .bool false, .bool true, .ref ((s.heap.push o1).push o2).objs.size, .ref (gzT2 s.heap o1 o2).objs.size] } := Heap.get?_push_size _ rfl
  have gO : (gzS2 s.heap o1 o2).get? (gzT2 s.heap o1 o2).objs.size = some { cls := .type "tuple", data := .seq #[.none, .none] } := Heap.get?_push_of_some _ (Heap.get?_push_size _ rfl)
  have gT : (gzS2 s.heap o1 o2).get? ((s.heap.push o1).push o2).objs.size = some { cls := .type "tuple", data := .seq #[.ref s.heap.objs.size, .ref (s.heap.push o1).objs.size] } := Heap.get?_push_of_some _ (Heap.get?_push_of_some _ (Heap.get?_push_size _ rfl))
  have g1 : (gzS2 s.heap o1 o2).get? s.heap.objs.size = some o1 := Heap.get?_push_of_some _ (Heap.get?_push_of_some _ (Heap.get?_push_of_some _ (Heap.get?_push_of_some _ (Heap.get?_push_size _ B1.free))))
  have g2 : (gzS2 s.heap o1 o2).get? (s.heap.push o1).objs.size = some o2 := Heap.get?_push_of_some _ (Heap.get?_push_of_some _ (Heap.get?_push_of_some _ (Heap.get?_push_size _ B2.free)))
  rw [zO, zT, z2] at gZ
  rw [zT] at gO
  rw [z2, z1] at gT
  rw [z1] at g2
  show _ ∧ _
  rw [zO]
  exact ⟨⟨_, gZ, rfl⟩, h _ gZ gT gO g1 g2 zZ fun c o e => Heap.get?_push_of_some _ (Heap.get?_push_of_some _ (Heap.get?_push_of_some _ (Heap.get?_push_of_some _ (Heap.get?_push_of_some _ e))))⟩
theorem pyIter_zipS {z TI TO : Addr} {f0 : Value} {f1 : Bool} {Q : Value → Shared → Prop} (hz : IsZipS s.heap z TI TO f0 f1) (h : Q (.ref z) s) : wpAny (model prog w) A (pyIter (.ref z)) Q E s := by
  have hT : s.TypeIs (.ref z) "zip" := ⟨_, hz, rfl⟩
  refine wpAny_pyIter_slot hT F.slot_zip_iter (wpAny_call_entry F.slot_zip_iter hT F.entry_zip_iter ?_ (F.args_zip_iter_1 _))
  show wpAny _ _ (ret (.ref z)) _ _ s
  exact wpAny_pure ⟨_, rfl, "zip", _, hT, F.slot_zip_next.lookup, h⟩
theorem letGo_zipS {elts : List Expr} {x1} {pos : Pos} {z TI TO T : Addr} {f1 : Bool} {Q : Unit → Shared → Prop} (hz : IsZipS s.heap z TI TO (rawInt T) f1)
    (hQ : ∀ h', IsZipS h' z TI TO .none f1 → Heap.SameBut z s.heap h' → Q () { s with heap := h' }) :
    wpAny (model prog w) A (letOwnedTupleGo (.Tuple elts x1 pos) (.ref z) (.ref T)) Q E s := by
  unfold letOwnedTupleGo
  refine wpAny_bind (wpAny_load hz ?_)
  show wpAny _ _ (if (["enumerate", "zip", "dict_itemiterator", "dict_reverseitemiterator", "odict_iterator", "itertools.zip_longest", "itertools.pairwise"].contains "zip" &&
      (#[rawInt T, .bool f1, .bool true, .ref TI, .ref TO] : Array Value)[0]? == some (rawInt T)) = true then _ else _) Q E s
  rw [if_pos (by simp)]
  refine wpAny_bind (wpAny_rule ?_)
  show wpAny _ _ (setField (.ref z) 0 .none) Q E s
  exact wpAny_setField_rec hz (by simp) fun h' hz' hs' => hQ h' hz' hs'
end
section
variable {prog : Program} {w : World} {A : Around} {E : Value → Shared → Prop} {s : Shared} {z TI TO i1 i2 : Addr} {fp1 fp2 : List Addr} {n i : Nat} {P1 P2 : Nat → Value → Prop} {St1 St2 : Nat → Heap → Prop} {a1 a2 : Value} {f1 : Bool}
theorem pyNext_zipS_item {Q : Option Value → Shared → Prop} (S : ZipSep2 z TI TO i1 i2 fp1 fp2) (D1 : Draws prog w A.in1 i1 fp1 n P1 St1) (D2 : Draws prog w A.in1 i2 fp2 n P2 St2)
    (hz : IsZipS s.heap z TI TO .none f1) (hTI : IsTupOf2 s.heap TI (.ref i1) (.ref i2)) (hTO : IsTupOf2 s.heap TO a1 a2) (st1 : St1 i s.heap) (st2 : St2 i s.heap) (hlt : i < n)
    (hQ : ∀ x1 x2 h' tk, P1 i x1 → P2 i x2 → IsZipS h' z TI TO (rawInt s.heap.objs.size) false → IsTupOf2 h' TO x1 x2 → St1 (i + 1) h' → St2 (i + 1) h' → IsTupOf2 h' s.heap.objs.size x1 x2 → h'.objs.size = s.heap.objs.size + 1 →
      (∀ c o, c ≠ z → c ≠ TO → c ≠ i1 → c ≠ i2 → s.heap.get? c = some o → h'.get? c = some o) → Q (some (.ref s.heap.objs.size)) { s with heap := h', toks := tk }) :
    wpAny (model prog w) A (pyNext (.ref z)) Q E s := by
  have hT : s.TypeIs (.ref z) "zip" := ⟨_, hz, rfl⟩
  unfold pyNext
  exact wpAny_bind (wpAny_attempt (wpAny_callSpecial?_slot (name := Str.ofString "__next__") hT F.slot_zip_next
    (wpAny_call_entry F.slot_zip_next hT F.entry_zip_next
      (zipS_next_item (free_none hz) S D1 D2 hz hTI hTO st1 st2 hlt fun x1 x2 h' tk y1 y2 b1 b2 d1 d2 b5 b6 b7 => wpAny_pure (hQ x1 x2 h' tk y1 y2 b1 b2 d1 d2 b5 b6 b7)) (F.args_zip_next_1 _))))
theorem pyNext_zipS_end {Q : Option Value → Shared → Prop} (hh : A.handled = none) (S : ZipSep2 z TI TO i1 i2 fp1 fp2) (D1 : Draws prog w A.in1 i1 fp1 n P1 St1) (D2 : Draws prog w A.in1 i2 fp2 n P2 St2)
    (hz : IsZipS s.heap z TI TO .none f1) (hTI : IsTupOf2 s.heap TI (.ref i1) (.ref i2)) (hTO : IsTupOf2 s.heap TO a1 a2) (st1 : St1 n s.heap) (st2 : St2 n s.heap)
    (hQ : ∀ h' tk, (∀ c o, c ≠ z → c ≠ TO → c ≠ i1 → c ≠ i2 → s.heap.get? c = some o → h'.get? c = some o) → Q none { s with heap := h', toks := tk }) : wpAny (model prog w) A (pyNext (.ref z)) Q E s := by
  have hT : s.TypeIs (.ref z) "zip" := ⟨_, hz, rfl⟩
  unfold pyNext
  refine wpAny_bind (wpAny_attempt (wpAny_callSpecial?_slot (name := Str.ofString "__next__") hT F.slot_zip_next
    (wpAny_call_entry F.slot_zip_next hT F.entry_zip_next (zipS_next_end (A := A.in1) hh (free_none hz) S D1 D2 hz hTI hTO st1 st2 fun h' tk e hk he => ?_) (F.args_zip_next_1 _))))
  obtain ⟨o, ho, hc⟩ := he
  refine wpAny_bind (wpAny_isInstance (T := "StopIteration") (b := true) ⟨o, ho, hc⟩ isSubtype_stop ?_)
  exact wpAny_pure (hQ _ _ hk)
end
end PySem

namespace MA
open PySem PySem.Spec PyProof.Rows L2

/-! ### sequences: lists, tuples, texts -/
inductive Sk where
  | lst (a : Addr) | tup (a : Addr) | str (z : Str)
def signs (z : Str) : List V := z.cps.toList.map fun c => V.str ⟨#[c]⟩
def Sk.v : Sk → V
  | .lst a => .ref a | .tup a => .ref a | .str z => .str z
def Sk.has (K : PySem.W.Frag) (H : Hp) (xs : List V) : Sk → Prop
  | .lst a => SqL K H a xs | .tup a => SqT K H a xs | .str z => xs = signs z
def Sk.adr : Sk → Option Addr
  | .lst a => some a | .tup a => some a | .str _ => none
def Sk.iter (it : Addr) (i : Nat) (h : Heap) : Sk → Prop
  | .lst a => h.IsListIter it a i | .tup a => h.IsTupleIter it a i | .str z => ∃ t, h.IsStrIter it (strIterType z) z t i
theorem Sk.iter_obj {k : Sk} {it : Addr} {i : Nat} {h : Heap} (x : k.iter it i h) : ∃ o, h.get? it = some o ∧ ∀ v, o.data ≠ .cell v := by
  cases k with
  | lst a => obtain ⟨o, e, _, d⟩ := x; exact ⟨o, e, fun v q => by rw [d] at q; cases q⟩
  | tup a => obtain ⟨o, e, _, d⟩ := x; exact ⟨o, e, fun v q => by rw [d] at q; cases q⟩
  | str z => obtain ⟨t, o, e, _, d⟩ := x; exact ⟨o, e, fun v q => by rw [d] at q; cases q⟩
theorem Sk.iter_at {k : Sk} {it : Addr} {i : Nat} {h h' : Heap} (x : k.iter it i h) (e : ∀ o, h.get? it = some o → h'.get? it = some o) : k.iter it i h' := by
  cases k with
  | lst a => obtain ⟨o, q, r⟩ := x; exact ⟨o, e o q, r⟩
  | tup a => obtain ⟨o, q, r⟩ := x; exact ⟨o, e o q, r⟩
  | str z => obtain ⟨t, o, q, r⟩ := x; exact ⟨t, o, e o q, r⟩
section
variable {X : Cx} {pins : List (Addr × Obj)} {σ : L2.St} {H : Hp} {s : Shared} {A : Around} {k : Sk} {xs : List V}
theorem Sk.draws (I : Inv X pins σ H s) (hh : A.handled = none) (hk : k.has X.K H xs) {it : Addr} {i : Nat} (hne : ∀ a, k.adr = some a → a ≠ it) (hit : k.iter it i s.heap) :
    ∃ (fp : List Addr) (P : Nat → Value → Prop) (St : Nat → Heap → Prop), Draws X.prog X.w A it fp xs.length P St ∧ St i s.heap ∧ it ∈ fp ∧ (∀ b ∈ fp, b = it ∨ k.adr = some b) ∧ (∀ j u, P j u → ∃ y, xs[j]? = some y ∧ RelV y u) ∧
      ∀ j h, St j h → k.iter it j h := by
  cases k with
  | lst a =>
    obtain ⟨its, rv, p, hz⟩ := I.list hk
    have D := Draws.list (prog := X.prog) (w := X.w) hh it a (hne a rfl) its.toArray
    have e : its.toArray.size = xs.length := by rw [List.size_toArray, rv.length]
    rw [e] at D
    refine ⟨_, _, _, D, ⟨hit, p.isList⟩, by simp, fun b hb => ?_, fun j u hu => ?_, fun j h st => st.1⟩
    · have e' : b = it ∨ b = a := by simpa using hb
      exact e'.imp id fun q => by rw [q]; rfl
    · have hu' : its[j]? = some u := by simpa using hu
      cases q : xs[j]? with
      | none => rw [rv.none_of q] at hu'; cases hu'
      | some y =>
        obtain ⟨u2, e2, r2⟩ := rv.get q
        rw [e2] at hu'; cases hu'
        exact ⟨y, rfl, r2⟩
  | tup a =>
    obtain ⟨its, rv, p, hz⟩ := I.tuple hk
    have D := Draws.tuple (prog := X.prog) (w := X.w) hh it a (hne a rfl) its.toArray
    have e : its.toArray.size = xs.length := by rw [List.size_toArray, rv.length]
    rw [e] at D
    refine ⟨_, _, _, D, ⟨hit, p⟩, by simp, fun b hb => ?_, fun j u hu => ?_, fun j h st => st.1⟩
    · have e' : b = it ∨ b = a := by simpa using hb
      exact e'.imp id fun q => by rw [q]; rfl
    · have hu' : its[j]? = some u := by simpa using hu
      cases q : xs[j]? with
      | none => rw [rv.none_of q] at hu'; cases hu'
      | some y =>
        obtain ⟨u2, e2, r2⟩ := rv.get q
        rw [e2] at hu'; cases hu'
        exact ⟨y, rfl, r2⟩
  | str z =>
    cases hk
    obtain ⟨t, hit⟩ := hit
    have D := Draws.text (prog := X.prog) (w := X.w) hh it z t
    have e : z.cps.size = (signs z).length := by simp [signs]
    rw [e] at D
    refine ⟨_, _, _, D, hit, by simp, fun b hb => ?_, fun j u hu => ?_, fun j h st => ⟨t, st⟩⟩
    · have e' : b = it := by simpa using hb
      exact .inl e'
    · obtain ⟨c, u2, hc, rfl⟩ := hu
      refine ⟨.str ⟨#[c]⟩, ?_, _, rfl⟩
      have hc' : z.cps.toList[j]? = some c := by simpa using hc
      simp only [signs, List.getElem?_map, hc', Option.map_some]
theorem Sk.begins (I : Inv X pins σ H s) (hk : k.has X.K H xs) {u : Value} (r : RelV k.v u) :
    ∃ (o : Obj) (Hc : Heap → Prop), Begins u o Hc ∧ Hc s.heap ∧ (∀ it h, h.get? it = some o → k.iter it 0 h) ∧ ∀ a, k.adr = some a → a < s.heap.objs.size := by
  cases k with
  | lst a =>
    cases (show u = Value.ref a from r)
    obtain ⟨its, rv, p, hz⟩ := I.list hk
    exact ⟨_, _, begins_list a its.toArray, p.isList, fun it h e => ⟨_, e, rfl, rfl⟩, fun b e => by cases e; exact p.lt⟩
  | tup a =>
    cases (show u = Value.ref a from r)
    obtain ⟨its, rv, p, hz⟩ := I.tuple hk
    exact ⟨_, _, begins_tuple a its.toArray, p, fun it h e => ⟨_, e, rfl, rfl⟩, fun b e => by cases e; exact p.lt⟩
  | str z =>
    obtain ⟨t, rfl⟩ := (show ∃ t, u = Value.str z t from r)
    exact ⟨_, _, begins_text z t, trivial, fun it h e => ⟨t, _, e, rfl, rfl⟩, fun b e => by cases e⟩
end

/-! ### zip(a, b, strict=True) -/
/-- n turns, G holding all along, Y telling what a turn brings -/
def Itg (G : Hp → Prop) (n : Nat) (Y : Nat → Hp → V → Hp → Prop) : It := ⟨fun i H => G H ∧ i < n, Y, fun i H => G H ∧ n ≤ i⟩
def yPair (xs ys : List V) : Nat → Hp → V → Hp → Prop := fun i H v H' => ∃ T x y, v = .ref T ∧ H T = none ∧ H' = upd H T (.tup [x, y]) ∧ xs[i]? = some x ∧ ys[i]? = some y
def ItZ (K : PySem.W.Frag) (k1 k2 : Sk) (xs ys : List V) : It := Itg (fun H => k1.has K H xs ∧ k2.has K H ys) xs.length (yPair xs ys)
/-- the cells of a zip, made at N -/
theorem sepN {N : Nat} {k1 k2 : Sk} (h1 : ∀ a, k1.adr = some a → a < N) (h2 : ∀ a, k2.adr = some a → a < N) {fp1 fp2 : List Addr} (m1 : N ∈ fp1) (m2 : (N + 1) ∈ fp2) (f1 : ∀ b ∈ fp1, b = N ∨ k1.adr = some b) (f2 : ∀ b ∈ fp2, b = N + 1 ∨ k2.adr = some b) :
    ZipSep2 (N + 4) (N + 2) (N + 3) N (N + 1) fp1 fp2 := by
  have g1 : ∀ b ∈ fp1, @Eq Nat b N ∨ @LT.lt Nat _ b N := fun b hb => (f1 b hb).imp id (h1 b)
  have g2 : ∀ b ∈ fp2, @Eq Nat b (N + 1) ∨ @LT.lt Nat _ b N := fun b hb => (f2 b hb).imp id (h2 b)
  have ne : ∀ {a b : Nat}, a ≠ b → @Ne Addr a b := fun h => h
  refine ⟨ne (by omega), ne (by omega), ne (by omega), ne (by omega), m1, fun q => ?_, fun q => ?_, ne (by omega), m2, fun q => ?_, fun q => ?_, fun q => ?_, fun q => ?_⟩
  · have := g1 _ q; omega
  · have := g1 _ q; omega
  · have := g2 _ q; omega
  · have := g2 _ q; omega
  · have := g2 _ q; omega
  · have := g1 _ q; omega
theorem turn_zipS {P : Program} {w : World} {K : PySem.W.Frag} {elts : List Expr} {kk : Nat} {tpos : Pos} {N : Nat} {k1 k2 : Sk} {xs ys : List V} (hl : xs.length = ys.length) (h1 : ∀ a, k1.adr = some a → a < N) (h2 : ∀ a, k2.adr = some a → a < N) :
    Turn P w K (.Tuple elts kk tpos) (ItZ K k1 k2 xs ys) [N + 4, N + 2, N + 3, N, N + 1] (N + 4)
      (fun i h => i ≤ xs.length ∧ (∃ f, IsZipS h (N + 4) (N + 2) (N + 3) .none f) ∧ IsTupOf2 h (N + 2) (.ref N) (.ref (N + 1)) ∧ (∃ x y, IsTupOf2 h (N + 3) x y) ∧ k1.iter N i h ∧ k2.iter (N + 1) i h) where
  mem := by simp
  obj := fun i h st c hc => by
    obtain ⟨_, ⟨f, hz⟩, hTI, ⟨x, y, hTO⟩, q1, q2⟩ := st
    have e' : c = N + 4 ∨ c = N + 2 ∨ c = N + 3 ∨ c = N ∨ c = N + 1 := by simpa using hc
    rcases e' with q | q | q | q | q
    · rw [q]; exact ⟨_, hz, fun v q => nomatch q⟩
    · rw [q]; exact ⟨_, hTI, fun v q => nomatch q⟩
    · rw [q]; exact ⟨_, hTO, fun v q => nomatch q⟩
    · rw [q]; exact Sk.iter_obj q1
    · rw [q]; exact Sk.iter_obj q2
  keep := fun i h h' st k => by
    obtain ⟨hi, ⟨f, hz⟩, hTI, ⟨x, y, hTO⟩, q1, q2⟩ := st
    exact ⟨hi, ⟨f, k _ (by simp) _ hz⟩, k _ (by simp) _ hTI, ⟨x, y, k _ (by simp) _ hTO⟩, Sk.iter_at q1 fun o q => k _ (by simp) o q, Sk.iter_at q2 fun o q => k _ (by simp) o q⟩
  item := by
    intro X hP hw hK hc i pins s σ H E I hf st hg
    subst hP hw hK
    obtain ⟨hi, ⟨f, hz⟩, hTI, ⟨x0, y0, hTO⟩, q1, q2⟩ := st
    obtain ⟨⟨g1, g2⟩, hlt⟩ := hg
    have hh : X.A.in1.handled = none := I.ok.hd hc
    obtain ⟨fp1, P1, St1, D1, s1, m1, b1, r1, t1⟩ := Sk.draws (A := X.A.in1) I hh g1 (fun a e => Nat.ne_of_lt (h1 a e)) q1
    obtain ⟨fp2, P2, St2, D2, s2, m2, b2, r2, t2⟩ := Sk.draws (A := X.A.in1) I hh g2 (fun a e => Nat.ne_of_lt (Nat.lt_succ_of_lt (h2 a e))) q2
    rw [← hl] at D2
    have S := sepN h1 h2 m1 m2 b1 b2
    have hzl : N + 4 < s.heap.objs.size := Heap.lt_size hz
    refine pyNext_zipS_item S D1 D2 hz hTI hTO s1 s2 hlt fun u1 u2 h' tk p1 p2 z' TO' h1' h2' hT hsz hk => ?_
    obtain ⟨x, hx, rx⟩ := r1 i u1 p1
    obtain ⟨y, hy, ry⟩ := r2 i u2 p2
    refine ⟨_, rfl, letGo_zipS (s := { s with heap := h', toks := tk }) z' fun h'' z'' sb => ?_⟩
    have hT2 : h''.get? s.heap.objs.size = some { cls := .type "tuple", data := .seq #[u1, u2] } := (sb.2 _ (Nat.ne_of_gt hzl)).trans hT
    have new : ObjOk X.prog X.w (upd H s.heap.objs.size (.tup [x, y])) h'' s.heap.objs.size (.tup [x, y]) :=
      ⟨by show 2 ≤ sizeLine; decide, [u1, u2], .cons rx (.cons ry .nil), ⟨_, hT2, rfl, _, rfl⟩⟩
    have I1 : Inv X pins σ (upd H s.heap.objs.size (.tup [x, y])) { s with heap := h'', toks := tk } :=
      I.turnedNew (t' := tk) (ch := [N + 4, N + 2, N + 3, N, N + 1]) (fun c o hb q => (sb.2 c (fun q' => hb (by simp [q']))).trans (hk c o (fun q' => hb (by simp [q'])) (fun q' => hb (by simp [q'])) (fun q' => hb (by simp [q'])) (fun q' => hb (by simp [q'])) q)) hf (Nat.le_refl _) new
    refine ⟨.ref s.heap.objs.size, _, I1, rfl, ⟨_, x, y, rfl, I.hok.fresh (Nat.le_refl _), rfl, hx, hy⟩, ⟨hlt, ⟨_, z''⟩, ?_, ⟨u1, u2, ?_⟩, ?_, ?_⟩, fun c hcm => ?_⟩
    · exact (sb.2 _ S.TIz).trans (hk _ _ S.TIz S.TITO S.TIi1 S.TIi2 hTI)
    · exact (sb.2 _ S.TOz).trans TO'
    · exact Sk.iter_at (t1 _ _ h1') fun o q => (sb.2 _ S.zi1.symm).trans q
    · exact Sk.iter_at (t2 _ _ h2') fun o q => (sb.2 _ S.zi2.symm).trans q
    · have e' : c = N + 4 ∨ c = N + 2 ∨ c = N + 3 ∨ c = N ∨ c = N + 1 := by simpa using hcm
      have hlt : @LT.lt Nat _ c s.heap.objs.size := by rcases e' with q | q | q | q | q <;> (rw [q]; omega)
      rw [upd_ne (Nat.ne_of_lt hlt)]
      exact (hf c hcm).1
  done := by
    intro X hP hw hK hc i pins s σ H E I hf st hg
    subst hP hw hK
    obtain ⟨hi, ⟨f, hz⟩, hTI, ⟨x0, y0, hTO⟩, q1, q2⟩ := st
    obtain ⟨⟨g1, g2⟩, hge⟩ := hg
    have ei : i = xs.length := Nat.le_antisymm hi hge
    subst ei
    have hh : X.A.in1.handled = none := I.ok.hd hc
    obtain ⟨fp1, P1, St1, D1, s1, m1, b1, r1, t1⟩ := Sk.draws (A := X.A.in1) I hh g1 (fun a e => Nat.ne_of_lt (h1 a e)) q1
    obtain ⟨fp2, P2, St2, D2, s2, m2, b2, r2, t2⟩ := Sk.draws (A := X.A.in1) I hh g2 (fun a e => Nat.ne_of_lt (Nat.lt_succ_of_lt (h2 a e))) q2
    rw [← hl] at D2
    have S := sepN h1 h2 m1 m2 b1 b2
    exact pyNext_zipS_end (I.ok.hd hc) S D1 D2 hz hTI hTO s1 s2 fun h' tk hk => ⟨rfl, I.turnedL (t' := tk) (ch := [N + 4, N + 2, N + 3, N, N + 1]) (fun c o hb q =>
      hk c o (fun q' => hb (by simp [q'])) (fun q' => hb (by simp [q'])) (fun q' => hb (by simp [q'])) (fun q' => hb (by simp [q'])) q) hf⟩
  self := fun A i s Q E st h => by
    obtain ⟨_, ⟨f, hz⟩, _⟩ := st
    exact pyIter_zipS hz h
/-- zip(a, b, strict=True), both of one length -/
def iZipS (K : PySem.W.Frag) (ta tk : TA) : TI := fun σ H R => ta σ H fun vs H1 => tk σ H1 fun zs H2 => ∃ (k1 k2 : Sk) (xs ys : List V), vs = [k1.v, k2.v] ∧ zs = [.bl true] ∧ k1.has K H2 xs ∧ k2.has K H2 ys ∧ xs.length = ys.length ∧ R (ItZ K k1 k2 xs ys) H2
theorem pi_zipS {X : Cx} {e e2 : Expr} {kws : List Keyword} {ta tk : TA} {p pos tpos : Pos} {elts : List Expr} {kk : Nat} (hg : Gl X "zip") (hm : X.mg "zip" = none) (ha : PA X [e, e2] ta) (hkw : PK X kws tk)
    (hall : (backToKw pos (keywordEach kws X.env)).all (·.1.isSome) = true := by rfl) (hks : (backToKw pos (keywordEach kws X.env)).filterMap (·.1) = [Str.ofString "strict"] := by rfl)
    (he : starEach [e, e2] X.env = (false, eval e X.env) :: starEach [e2] X.env := by rfl)
    (hpl : ((backTo pos (starEach [e, e2] X.env)).any (·.1) || (backToKw pos (keywordEach kws X.env)).any (·.1.isNone)) = false := by rfl) :
    PI X (.Tuple elts kk tpos) (.Call (.Name "zip" p) [e, e2] kws pos) (iZipS X.K ta tk) := by
  refine ⟨fun pins s σ H R I h => ?_⟩
  refine wpAny_Call_Name_kw (ld_blt I hg hm PyProof.Rows.boot_zip ?_)
  refine callWith_typeKw hall (thn (ha.run pos pins s σ H _ I h) fun us s1 ⟨vs, H1, I1, r1, q1⟩ => thn (hkw.run pos pins s1 σ H1 _ I1 q1) fun ws s2 ⟨zs, H2, I2, r2, q2⟩ => ?_) hpl he
  obtain ⟨k1, k2, xs, ys, rfl, rfl, g1, g2, hl, q⟩ := q2
  rw [hks]
  cases r1 with
  | cons ra rr =>
    cases rr with
    | cons rb rr =>
      cases rr
      cases r2 with
      | cons rc rr =>
        cases rr
        cases rc
        obtain ⟨o1, Hc1, B1, c1, i1, l1⟩ := Sk.begins I2 g1 ra
        obtain ⟨o2, Hc2, B2, c2, i2, l2⟩ := Sk.begins I2 g2 rb
        refine zip_begins2S B1 B2 c1 c2 fun h' hz hTI hTO h1 h2 hsz hk => pyIter_zipS hz ?_
        have I3 : Inv X pins σ H2 { s2 with heap := h' } := I2.kept (t' := s2.toks) hk
        refine ⟨s2.heap.objs.size + 4, [s2.heap.objs.size + 4, s2.heap.objs.size + 2, s2.heap.objs.size + 3, s2.heap.objs.size, s2.heap.objs.size + 1], _, _, H2, rfl, I3, turn_zipS hl l1 l2, ⟨Nat.zero_le _, ⟨_, hz⟩, hTI, ⟨_, _, hTO⟩, i1 _ _ h1, i2 _ _ h2⟩, fun c hcm => ?_, q⟩
        have e' : c = s2.heap.objs.size + 4 ∨ c = s2.heap.objs.size + 2 ∨ c = s2.heap.objs.size + 3 ∨ c = s2.heap.objs.size ∨ c = s2.heap.objs.size + 1 := by simpa using hcm
        have hle : @LE.le Nat _ s2.heap.objs.size c := by rcases e' with q | q | q | q | q <;> (rw [q]; omega)
        exact I2.fpOk hle (I2.hok.fresh hle)
end MA
namespace PySem
/-- iter(v) is the object at it, in the heap nh -/
structure Beg (v : Value) (H : Heap → Prop) (it : Heap → Addr) (nh : Heap → Heap) : Prop where
  iter : ∀ (prog : Program) (w : World) (A : Around) (E : Value → Shared → Prop) (s : Shared) (Q : Value → Shared → Prop), H s.heap → Q (.ref (it s.heap)) { s with heap := nh s.heap } → wpAny (model prog w) A (pyIter v) Q E s
theorem meets_enumerate_newG {v : Value} {H : Heap → Prop} {it : Heap → Addr} {nh : Heap → Heap} (B : Beg v H it nh) :
    Meets (Builtin.«enumerate.__new__» ⟨[.type "enumerate", v], []⟩) (fun _ R s => H s.heap ∧
      R (.ok (.ret (.ref (nh s.heap).objs.size))) { s with heap := (nh s.heap).push { cls := .type "enumerate", data := .fields #[.none, .bool false, .ref (it s.heap), rawInt 0, .none, .none] } }) :=
  .of_wp fun prog w A R s h => by
    obtain ⟨hp, g, d, tk, os⟩ := s; obtain ⟨h1, h⟩ := h
    have hsub := sub_enumerate
    have q1 : ∀ {A' : Around} {E : Value → Shared → Prop} {Q : Value → Shared → Prop}, Q (.ref (it hp)) ⟨nh hp, g, d, tk, os⟩ → wpAny (model prog w) A' (pyIter v) Q E ⟨hp, g, d, tk, os⟩ :=
      fun q => B.iter prog w _ _ ⟨hp, g, d, tk, os⟩ _ h1 q
    wp_walk using q1
    refine wpAny_stack_any fun st => wpAny_pure ?_
    split
    · rename_i c _ _ _ _ _
      cases (c == Value.type "enumerate")
      · wp_walk using q1
        exact ⟨_, rfl, h⟩
      · wp_walk using q1
        exact ⟨_, rfl, h⟩
    · wp_walk using q1
      exact ⟨_, rfl, h⟩
section
variable {prog : Program} {w : World} {A : Around} {E : Value → Shared → Prop} {s : Shared}
theorem enum_beg {v : Value} {H : Heap → Prop} {it : Heap → Addr} {nh : Heap → Heap} {Q : Value → Shared → Prop} (B : Beg v H it nh) (h1 : H s.heap)
    (h : ∀ h', IsEnum h' (nh s.heap).objs.size (it s.heap) 0 .none → h'.objs.size = (nh s.heap).objs.size + 1 →
      (∀ b o, (nh s.heap).get? b = some o → h'.get? b = some o) → Q (.ref (nh s.heap).objs.size) { s with heap := h' }) :
    wpAny (model prog w) A (call (.type "enumerate") [v]) Q E s := by
  refine callType_new F.called_enumerate (by decide) (F.typeCall_enumerate_1 _) (F.newCall_enumerate_1 _) (fun obj => F.args_object_init_2 obj _) F.entry_enumerate_new
    (meets_enumerate_newG B) ⟨h1, ?_⟩
  have he : IsEnum ((nh s.heap).push { cls := .type "enumerate", data := .fields #[.none, .bool false, .ref (it s.heap), rawInt 0, .none, .none] }) (nh s.heap).objs.size (it s.heap) 0 .none := Heap.get?_push_size _ rfl
  exact ⟨⟨_, he, rfl⟩, h _ he (Heap.size_push ..) fun b o x => Heap.get?_push_of_some _ x⟩

/-- one turn of enumerate, whatever it walks: what the inner next leaves, and then the enumerate's own cells -/
theorem enumerate_next_itemG {e it : Addr} {i : Nat} {old : Value} {Q : Value → Shared → Prop} (he : IsEnum s.heap e it i old)
    (hin : wpAny (model prog w) A (Builtin.SmallTypes.nextOf (.ref it)) (fun x s1 => ∃ h1 tk, s1 = { s with heap := h1, toks := tk } ∧ IsEnum h1 e it i old ∧
      ∀ h', IsEnumOut h' e it ((i : Int) + 1) x h1.objs.size → h'.get? h1.objs.size = some { cls := .type "tuple", data := .seq #[.int i tk, x] } → h'.objs.size = h1.objs.size + 1 →
        (∀ b o, b ≠ e → h1.get? b = some o → h'.get? b = some o) → Q (.ref h1.objs.size) { s with heap := h', toks := tk + 1 }) E s) :
    wpAny (model prog w) A (Builtin.«enumerate.__next__» ⟨[.ref e], []⟩) (fun fin s' => ∃ v, fin = .done (.ret v) ∧ Q v s') E s := by
  obtain ⟨hp, g, d, tk0, os⟩ := s
  show wpAny _ _ (field (.ref e) 2 >>= _) _ _ _
  refine wpAny_bind (wpAny_field he rfl (x := .ref it) rfl ?_)
  refine wpAny_bind (wpAny_mono hin (fun x s1 h1 => ?_) fun _ _ q => q)
  obtain ⟨h1, tk, rfl, he1, hQ⟩ := h1
  show wpAny _ _ (field (.ref e) 3 >>= _) _ _ ⟨h1, g, d, tk, os⟩
  refine wpAny_bind (wpAny_field he1 rfl (x := rawInt i) rfl ?_)
  show wpAny _ _ (field (.ref e) 4 >>= _) _ _ ⟨h1, g, d, tk, os⟩
  refine wpAny_bind (wpAny_field he1 rfl (x := .none) rfl ?_)
  show wpAny _ _ (mkInt i >>= _) _ _ ⟨h1, g, d, tk, os⟩
  refine wpAny_bind (wpAny_mkInt ?_)
  show wpAny _ _ (setField (.ref e) 3 (rawInt ((i : Int) + 1)) >>= _) _ _ ⟨h1, g, d, tk + 1, os⟩
  refine wpAny_bind (wpAny_setField_rec he1 (by simp) fun h2 he2 hs2 => ?_)
  replace hs2 : Heap.SameBut e h1 h2 := hs2
  replace he2 : IsEnum h2 e it ((i : Int) + 1) old := he2
  show wpAny _ _ (setField (.ref e) 4 .none >>= _) _ _ ⟨h2, g, d, tk + 1, os⟩
  refine wpAny_bind (wpAny_setField_rec he2 (by simp) fun h3 he3 hs3 => ?_)
  replace hs3 : Heap.SameBut e h2 h3 := hs3
  replace he3 : IsEnum h3 e it ((i : Int) + 1) old := he3
  show wpAny _ _ (newTuple [.int i tk, x] >>= _) _ _ ⟨h3, g, d, tk + 1, os⟩
  refine wpAny_bind (wpAny_newTuple ?_)
  have he4 : IsEnum (h3.push { cls := .type "tuple", data := .seq #[.int i tk, x] }) e it ((i : Int) + 1) old := Heap.get?_push_of_some _ he3
  generalize hh4 : h3.push { cls := .type "tuple", data := .seq #[.int i tk, x] } = h4 at he4
  have hsz : h3.objs.size = h1.objs.size := by rw [hs3.1, hs2.1]
  have hel : e < h1.objs.size := Heap.lt_size he1
  have ht4 : h4.get? h1.objs.size = some { cls := .type "tuple", data := .seq #[.int i tk, x] } := by rw [← hh4, ← hsz]; exact Heap.get?_push_size _ rfl
  have hz4 : h4.objs.size = h1.objs.size + 1 := by rw [← hh4, Heap.size_push, hsz]
  have hk4 : ∀ b o, b ≠ e → h1.get? b = some o → h4.get? b = some o := fun b o hbe hb => by
    rw [← hh4]; exact Heap.get?_push_of_some _ (hs3.extBut b o hbe (hs2.extBut b o hbe hb))
  show wpAny _ _ (Builtin.SmallTypes.ownedTupleIsFree (.ref e) >>= _) _ _ ⟨h4, g, d, tk + 1, os⟩
  rw [hsz]
  refine wpAny_bind ?_
  unfold Builtin.SmallTypes.ownedTupleIsFree
  refine wpAny_bind (wpAny_field he4 rfl (x := .none) rfl (wpAny_pure ?_))
  simp only [if_true]
  refine wpAny_bind (wpAny_rule ?_)
  refine wpAny_bind (wpAny_field he4 rfl (x := old) rfl ?_)
  refine wpAny_bind (wpAny_setField_rec he4 (by simp) fun h5 he5 hs5 => ?_)
  replace hs5 : Heap.SameBut e h4 h5 := hs5
  replace he5 : IsEnum h5 e it ((i : Int) + 1) x := he5
  show wpAny _ _ (Builtin.SmallTypes.ownedTupleHandOut (.ref e) (.ref h1.objs.size) >>= _) _ _ ⟨h5, g, d, tk + 1, os⟩
  refine wpAny_bind ?_
  unfold Builtin.SmallTypes.ownedTupleHandOut
  refine wpAny_bind (wpAny_setField_rec he5 (by simp) fun h6 he6 hs6 => ?_)
  replace hs6 : Heap.SameBut e h5 h6 := hs6
  replace he6 : IsEnumOut h6 e it ((i : Int) + 1) x h1.objs.size := he6
  refine wpAny_setField_rec he6 (by simp) fun h7 he7 hs7 => ?_
  replace hs7 : Heap.SameBut e h6 h7 := hs7
  replace he7 : IsEnumOut h7 e it ((i : Int) + 1) x h1.objs.size := he7
  refine wpAny_bind (wpAny_letGo (wpAny_pure ⟨_, rfl, hQ h7 he7 ?_ ?_ ?_⟩))
  · exact hs7.extBut _ _ (Nat.ne_of_gt hel) (hs6.extBut _ _ (Nat.ne_of_gt hel) (hs5.extBut _ _ (Nat.ne_of_gt hel) ht4))
  · rw [hs7.1, hs6.1, hs5.1, hz4]
  · exact fun b o hbe hb => hs7.extBut b o hbe (hs6.extBut b o hbe (hs5.extBut b o hbe (hk4 b o hbe hb)))
theorem pyNext_enum_itemG {e it : Addr} {i : Nat} {old : Value} {Q : Option Value → Shared → Prop} (he : IsEnum s.heap e it i old)
    (hin : wpAny (model prog w) A.in1 (Builtin.SmallTypes.nextOf (.ref it)) (fun x s1 => ∃ h1 tk, s1 = { s with heap := h1, toks := tk } ∧ IsEnum h1 e it i old ∧
      ∀ h', IsEnumOut h' e it ((i : Int) + 1) x h1.objs.size → h'.get? h1.objs.size = some { cls := .type "tuple", data := .seq #[.int i tk, x] } → h'.objs.size = h1.objs.size + 1 →
        (∀ b o, b ≠ e → h1.get? b = some o → h'.get? b = some o) → Q (some (.ref h1.objs.size)) { s with heap := h', toks := tk + 1 }) (fun _ _ => False) s) :
    wpAny (model prog w) A (pyNext (.ref e)) Q E s := by
  have hT : s.TypeIs (.ref e) "enumerate" := ⟨_, he, rfl⟩
  unfold pyNext
  refine wpAny_bind (wpAny_attempt (wpAny_callSpecial?_slot (name := Str.ofString "__next__") hT F.slot_enumerate_next
    (wpAny_call_entry F.slot_enumerate_next hT F.entry_enumerate_next
      (enumerate_next_itemG he (wpAny_mono hin (fun x s1 h1 => ?_) fun _ _ q => q.elim)) (F.args_enumerate_next_1 _))))
  obtain ⟨h1, tk, e1, e2, q⟩ := h1
  exact ⟨h1, tk, e1, e2, fun h' a b c d => wpAny_pure (q h' a b c d)⟩
theorem pyNext_enum_endG {e it : Addr} {i : Int} {old : Value} {Q : Option Value → Shared → Prop} (he : IsEnum s.heap e it i old)
    (hin : wpAny (model prog w) A.in1 (Builtin.SmallTypes.nextOf (.ref it)) (fun _ _ => False) (fun x s1 => (∃ a o, x = .ref a ∧ s1.heap.get? a = some o ∧ o.cls = .type "StopIteration") ∧ Q none s1) s) :
    wpAny (model prog w) A (pyNext (.ref e)) Q E s := by
  have hT : s.TypeIs (.ref e) "enumerate" := ⟨_, he, rfl⟩
  unfold pyNext
  refine wpAny_bind (wpAny_attempt (wpAny_callSpecial?_slot (name := Str.ofString "__next__") hT F.slot_enumerate_next
    (wpAny_call_entry F.slot_enumerate_next hT F.entry_enumerate_next ?_ (F.args_enumerate_next_1 _))))
  show wpAny _ _ (field (.ref e) 2 >>= _) _ _ _
  refine wpAny_bind (wpAny_field he rfl (x := .ref it) rfl ?_)
  refine wpAny_bind (wpAny_mono hin (fun _ _ q => q.elim) fun x s1 q => ?_)
  obtain ⟨⟨a, o, rfl, ho, hc⟩, q⟩ := q
  refine wpAny_bind (wpAny_isInstance (T := "StopIteration") (b := true) ⟨o, ho, hc⟩ isSubtype_stop ?_)
  exact wpAny_pure q
end
end PySem

namespace MA
open PySem PySem.Spec PyProof.Rows L2
/-! ### enumerate(a sequence) -/
def yEnum (xs : List V) : Nat → Hp → V → Hp → Prop := fun i H v H' => ∃ T x, v = .ref T ∧ H T = none ∧ H' = upd H T (.tup [.int (i : Nat), x]) ∧ xs[i]? = some x
def ItE (K : PySem.W.Frag) (k : Sk) (xs : List V) : It := Itg (fun H => k.has K H xs) xs.length (yEnum xs)
theorem turn_enumS {P : Program} {w : World} {K : PySem.W.Frag} {elts : List Expr} {kk : Nat} {tpos : Pos} {N : Nat} {k : Sk} {xs : List V} (h1 : ∀ a, k.adr = some a → a < N) :
    Turn P w K (.Tuple elts kk tpos) (ItE K k xs) [N + 1, N] (N + 1) (fun i h => i ≤ xs.length ∧ (∃ old, IsEnum h (N + 1) N ((i : Nat) : Int) old) ∧ k.iter N i h) where
  mem := by simp
  obj := fun i h st c hc => by
    obtain ⟨_, ⟨old, he⟩, q1⟩ := st
    have e' : c = N + 1 ∨ c = N := by simpa using hc
    rcases e' with q | q
    · rw [q]; exact ⟨_, he, fun v q => nomatch q⟩
    · rw [q]; exact Sk.iter_obj q1
  keep := fun i h h' st k => by
    obtain ⟨hi, ⟨old, he⟩, q1⟩ := st
    exact ⟨hi, ⟨old, k _ (by simp) _ he⟩, Sk.iter_at q1 fun o q => k _ (by simp) o q⟩
  item := by
    intro X hP hw hK hc i pins s σ H E I hf st hg
    subst hP hw hK
    obtain ⟨hi, ⟨old, he⟩, q1⟩ := st
    obtain ⟨g1, hlt⟩ := hg
    have hh : X.A.in1.handled = none := I.ok.hd hc
    obtain ⟨fp1, P1, St1, D1, s1, m1, b1, r1, t1⟩ := Sk.draws (A := X.A.in1) I hh g1 (fun a e => Nat.ne_of_lt (h1 a e)) q1
    have hel : N + 1 < s.heap.objs.size := Heap.lt_size he
    refine pyNext_enum_itemG he (D1.item i s _ _ hlt s1 fun u h2 tk p1 st1 sb => ⟨h2, tk, rfl, (sb.2 _ (Nat.succ_ne_self _)).trans he, fun h' ho hT hsz hk => ?_⟩)
    obtain ⟨x, hx, rx⟩ := r1 i u p1
    have hz2 : h2.objs.size = s.heap.objs.size := sb.1
    rw [hz2] at ho hT hsz ⊢
    refine ⟨_, rfl, wpAny_letOwnedTupleGo_enum (s := { s with heap := h', toks := tk + 1 }) ho fun h'' he' sb' => ?_⟩
    have hT2 : h''.get? s.heap.objs.size = some { cls := .type "tuple", data := .seq #[.int i tk, u] } := (sb'.2 _ (Nat.ne_of_gt hel)).trans hT
    have new : ObjOk X.prog X.w (upd H s.heap.objs.size (.tup [.int (i : Nat), x])) h'' s.heap.objs.size (.tup [.int (i : Nat), x]) :=
      ⟨by show 2 ≤ sizeLine; decide, [.int i tk, u], .cons ⟨_, rfl⟩ (.cons rx .nil), ⟨_, hT2, rfl, _, rfl⟩⟩
    have I1 : Inv X pins σ (upd H s.heap.objs.size (.tup [.int (i : Nat), x])) { s with heap := h'', toks := tk + 1 } :=
      I.turnedNew (ch := [N + 1, N]) (fun b ob hb q => (sb'.2 b (fun z => hb (by simp [z]))).trans (hk b ob (fun z => hb (by simp [z])) ((sb.2 b (fun z => hb (by simp [z]))).trans q))) hf (Nat.le_refl _) new
    refine ⟨.ref s.heap.objs.size, _, I1, rfl, ⟨_, x, rfl, I.hok.fresh (Nat.le_refl _), rfl, hx⟩, ⟨hlt, ⟨u, ?_⟩, Sk.iter_at (t1 _ _ st1) fun o q => (sb'.2 _ (Nat.ne_of_lt (Nat.lt_succ_self _))).trans (hk _ _ (Nat.ne_of_lt (Nat.lt_succ_self _)) q)⟩, fun b hb => ?_⟩
    · have e1 : ((i + 1 : Nat) : Int) = (i : Int) + 1 := by omega
      rw [e1]; exact he'
    · have e' : b = N + 1 ∨ b = N := by simpa using hb
      have hb' : @LT.lt Nat _ b s.heap.objs.size := by rcases e' with q | q <;> (rw [q]; omega)
      rw [upd_ne (Nat.ne_of_lt hb')]
      exact (hf b hb).1
  done := by
    intro X hP hw hK hc i pins s σ H E I hf st hg
    subst hP hw hK
    obtain ⟨hi, ⟨old, he⟩, q1⟩ := st
    obtain ⟨g1, hge⟩ := hg
    have ei : i = xs.length := Nat.le_antisymm hi hge
    subst ei
    have hh : X.A.in1.handled = none := I.ok.hd hc
    obtain ⟨fp1, P1, St1, D1, s1, m1, b1, r1, t1⟩ := Sk.draws (A := X.A.in1) I hh g1 (fun a e => Nat.ne_of_lt (h1 a e)) q1
    refine pyNext_enum_endG he (D1.done s _ _ s1 fun h' ev ex he' => ?_)
    obtain ⟨o, ho, hcl⟩ := he'
    exact ⟨⟨ev, o, rfl, ho, hcl⟩, rfl, I.turnedL (t' := s.toks) (ch := [N + 1, N]) (fun c ob hb q => ex c ob (fun q' => hb (by simp [q'])) q) hf⟩
  self := fun A i s Q E st h => by
    obtain ⟨_, ⟨_, he⟩, _⟩ := st
    exact wpAny_pyIter_enum he h
theorem beg_of {v : Value} {o : Obj} {H : Heap → Prop} (B : Begins v o H) : Beg v H (fun h => h.objs.size) (fun h => h.push o) := ⟨fun prog w A E s Q h q => B.iter prog w A E s Q h q⟩
def iEnumS (K : PySem.W.Frag) (ta : TA) : TI := fun σ H R => ta σ H fun vs H1 => ∃ (k : Sk) (xs : List V), vs = [k.v] ∧ k.has K H1 xs ∧ R (ItE K k xs) H1
theorem pi_enumS {X : Cx} {e : Expr} {ta : TA} {p pos tpos : Pos} {elts : List Expr} {kk : Nat} (hg : Gl X "enumerate") (hm : X.mg "enumerate" = none) (ha : PA X [e] ta) (hs : starEach [e] X.env = [(false, eval e X.env)] := by rfl) :
    PI X (.Tuple elts kk tpos) (.Call (.Name "enumerate" p) [e] [] pos) (iEnumS X.K ta) := by
  refine ⟨fun pins s σ H R I h => ?_⟩
  refine Call_ (ld_blt I hg hm boot_enumerate (PyProof.Rows.callWith_type1 (thn (ha.run pos pins s σ H _ I h) fun us s1 ⟨vs, H1, I1, r1, q1⟩ => ?_) hs rfl))
  obtain ⟨k, xs, rfl, g1, q⟩ := q1
  cases r1 with
  | cons r rr =>
    cases rr
    obtain ⟨o1, Hc1, B1, c1, i1, l1⟩ := Sk.begins I1 g1 r
    refine enum_beg (beg_of B1) c1 fun h' he hsz hk => ?_
    have ez : (s1.heap.push o1).objs.size = s1.heap.objs.size + 1 := Heap.size_push ..
    simp only [ez] at he hsz ⊢
    refine wpAny_pyIter_enum (s := { s1 with heap := h' }) he ?_
    have hkk : ∀ b u, s1.heap.get? b = some u → h'.get? b = some u := fun b o x => hk b o (Heap.get?_push_of_some _ x)
    have I2 : Inv X pins σ H1 { s1 with heap := h' } := I1.kept (t' := s1.toks) hkk
    refine ⟨s1.heap.objs.size + 1, [s1.heap.objs.size + 1, s1.heap.objs.size], _, _, H1, rfl, I2, turn_enumS l1, ⟨Nat.zero_le _, ⟨.none, he⟩, i1 _ _ (hk _ _ (Heap.get?_push_size _ B1.free))⟩, fun b hb => ?_, q⟩
    have e' : b = s1.heap.objs.size + 1 ∨ b = s1.heap.objs.size := by simpa using hb
    have hle : @LE.le Nat _ s1.heap.objs.size b := by rcases e' with q | q <;> (rw [q]; omega)
    exact I1.fpOk hle (I1.hok.fresh hle)
end MA
namespace PySem
section
variable {prog : Program} {w : World} {A : Around} {E : Value → Shared → Prop} {s : Shared} {z TI TO i1 i2 : Addr} {fp1 fp2 : List Addr} {n i : Nat} {P1 P2 : Nat → Value → Prop} {St1 St2 : Nat → Heap → Prop} {a1 a2 f0 : Value} {f1 : Bool}
abbrev OutOr (f0 : Value) : Prop := f0 = .none ∨ ∃ T : Addr, f0 = rawInt T
theorem nextOf_zipS_item {Q : Value → Shared → Prop} (S : ZipSep2 z TI TO i1 i2 fp1 fp2) (D1 : Draws prog w A.in1 i1 fp1 n P1 St1) (D2 : Draws prog w A.in1 i2 fp2 n P2 St2)
    (hz : IsZipS s.heap z TI TO f0 f1) (hf : OutOr f0) (hTI : IsTupOf2 s.heap TI (.ref i1) (.ref i2)) (hTO : IsTupOf2 s.heap TO a1 a2) (st1 : St1 i s.heap) (st2 : St2 i s.heap) (hlt : i < n)
    (hQ : ∀ x1 x2 h' tk, P1 i x1 → P2 i x2 → (∃ f0 f1, OutOr f0 ∧ IsZipS h' z TI TO f0 f1) → (∃ b1 b2, IsTupOf2 h' TO b1 b2) → St1 (i + 1) h' → St2 (i + 1) h' → IsTupOf2 h' s.heap.objs.size x1 x2 → h'.objs.size = s.heap.objs.size + 1 →
      (∀ c o, c ≠ z → c ≠ TO → c ≠ i1 → c ≠ i2 → s.heap.get? c = some o → h'.get? c = some o) → Q (.ref s.heap.objs.size) { s with heap := h', toks := tk }) :
    wpAny (model prog w) A (Builtin.SmallTypes.nextOf (.ref z)) Q E s := by
  have hT : s.TypeIs (.ref z) "zip" := ⟨_, hz, rfl⟩
  have free : (∀ {E : Value → Shared → Prop} {Q : Bool → Shared → Prop}, Q true s → wpAny (model prog w) A.in1 (Builtin.SmallTypes.ownedTupleIsFree (.ref z)) Q E s) → wpAny (model prog w) A (Builtin.SmallTypes.nextOf (.ref z)) Q E s := fun hfr => by
    unfold Builtin.SmallTypes.nextOf
    exact wpAny_bind (wpAny_callSpecial?_slot (name := Str.ofString "__next__") hT F.slot_zip_next
      (wpAny_call_entry F.slot_zip_next hT F.entry_zip_next
        (zipS_next_item hfr S D1 D2 hz hTI hTO st1 st2 hlt fun x1 x2 h' tk y1 y2 b1 b2 d1 d2 b5 b6 b7 => wpAny_pure (hQ x1 x2 h' tk y1 y2 ⟨_, _, .inr ⟨_, rfl⟩, b1⟩ ⟨_, _, b2⟩ d1 d2 b5 b6 b7)) (F.args_zip_next_1 _)))
  rcases hf with rfl | ⟨T, rfl⟩
  · exact free (free_none hz)
  · cases hx : s.heap.get? T with
    | none => exact free (free_dead hz hx)
    | some oT =>
      unfold Builtin.SmallTypes.nextOf
      exact wpAny_bind (wpAny_callSpecial?_slot (name := Str.ofString "__next__") hT F.slot_zip_next
        (wpAny_call_entry F.slot_zip_next hT F.entry_zip_next
          (zipS_next_itemH S D1 D2 hz hx hTI st1 st2 hlt fun x1 x2 h' tk y1 y2 b1 d1 d2 b5 b6 b7 => wpAny_pure (hQ x1 x2 h' tk y1 y2 ⟨_, _, .inr ⟨_, rfl⟩, b1⟩ ⟨_, _, b7 _ _ S.TOz S.Ti1 S.Ti2 hTO⟩ d1 d2 b5 b6 (fun c o c1 c2 c3 c4 e => b7 c o c1 c3 c4 e))) (F.args_zip_next_1 _)))
theorem nextOf_zipS_end {Q : Value → Shared → Prop} (hh : A.handled = none) (S : ZipSep2 z TI TO i1 i2 fp1 fp2) (D1 : Draws prog w A.in1 i1 fp1 n P1 St1) (D2 : Draws prog w A.in1 i2 fp2 n P2 St2)
    (hz : IsZipS s.heap z TI TO f0 f1) (hf : OutOr f0) (hTI : IsTupOf2 s.heap TI (.ref i1) (.ref i2)) (hTO : IsTupOf2 s.heap TO a1 a2) (st1 : St1 n s.heap) (st2 : St2 n s.heap)
    (hE : ∀ h' tk e, (∀ c o, c ≠ z → c ≠ TO → c ≠ i1 → c ≠ i2 → s.heap.get? c = some o → h'.get? c = some o) → (∃ o, h'.get? e = some o ∧ o.cls = .type "StopIteration") → E (.ref e) { s with heap := h', toks := tk }) :
    wpAny (model prog w) A (Builtin.SmallTypes.nextOf (.ref z)) Q E s := by
  have hT : s.TypeIs (.ref z) "zip" := ⟨_, hz, rfl⟩
  have free : (∀ {E : Value → Shared → Prop} {Q : Bool → Shared → Prop}, Q true s → wpAny (model prog w) A.in1 (Builtin.SmallTypes.ownedTupleIsFree (.ref z)) Q E s) → wpAny (model prog w) A (Builtin.SmallTypes.nextOf (.ref z)) Q E s := fun hfr => by
    unfold Builtin.SmallTypes.nextOf
    exact wpAny_bind (wpAny_callSpecial?_slot (name := Str.ofString "__next__") hT F.slot_zip_next
      (wpAny_call_entry F.slot_zip_next hT F.entry_zip_next (zipS_next_end (A := A.in1) hh hfr S D1 D2 hz hTI hTO st1 st2 hE) (F.args_zip_next_1 _)))
  rcases hf with rfl | ⟨T, rfl⟩
  · exact free (free_none hz)
  · cases hx : s.heap.get? T with
    | none => exact free (free_dead hz hx)
    | some oT =>
      unfold Builtin.SmallTypes.nextOf
      exact wpAny_bind (wpAny_callSpecial?_slot (name := Str.ofString "__next__") hT F.slot_zip_next
        (wpAny_call_entry F.slot_zip_next hT F.entry_zip_next (zipS_next_endH (A := A.in1) hh S D1 D2 hz hx hTI st1 st2 hE) (F.args_zip_next_1 _)))
end
end PySem

namespace MA
open PySem PySem.Spec PyProof.Rows L2
def yEnumZip (xs ys : List V) : Nat → Hp → V → Hp → Prop := fun i H v H' => ∃ T T2 x y, v = .ref T2 ∧ H T = none ∧ upd H T (.tup [x, y]) T2 = none ∧ H' = upd (upd H T (.tup [x, y])) T2 (.tup [.int (i : Nat), .ref T]) ∧ xs[i]? = some x ∧ ys[i]? = some y
def ItEZ (K : PySem.W.Frag) (k1 k2 : Sk) (xs ys : List V) : It := Itg (fun H => k1.has K H xs ∧ k2.has K H ys) xs.length (yEnumZip xs ys)
theorem turn_enumZipS {P : Program} {w : World} {K : PySem.W.Frag} {elts : List Expr} {kk : Nat} {tpos : Pos} {N : Nat} {k1 k2 : Sk} {xs ys : List V} (hl : xs.length = ys.length) (h1 : ∀ a, k1.adr = some a → a < N) (h2 : ∀ a, k2.adr = some a → a < N) :
    Turn P w K (.Tuple elts kk tpos) (ItEZ K k1 k2 xs ys) [N + 5, N + 4, N + 2, N + 3, N, N + 1] (N + 5)
      (fun i h => i ≤ xs.length ∧ (∃ old, IsEnum h (N + 5) (N + 4) ((i : Nat) : Int) old) ∧ (∃ f0 f1, OutOr f0 ∧ IsZipS h (N + 4) (N + 2) (N + 3) f0 f1) ∧ IsTupOf2 h (N + 2) (.ref N) (.ref (N + 1)) ∧ (∃ x y, IsTupOf2 h (N + 3) x y) ∧ k1.iter N i h ∧ k2.iter (N + 1) i h) where
  mem := by simp
  obj := fun i h st c hc => by
    obtain ⟨_, ⟨old, he⟩, ⟨f0, f1, _, hz⟩, hTI, ⟨x, y, hTO⟩, q1, q2⟩ := st
    have e' : c = N + 5 ∨ c = N + 4 ∨ c = N + 2 ∨ c = N + 3 ∨ c = N ∨ c = N + 1 := by simpa using hc
    rcases e' with q | q | q | q | q | q
    · rw [q]; exact ⟨_, he, fun v q => nomatch q⟩
    · rw [q]; exact ⟨_, hz, fun v q => nomatch q⟩
    · rw [q]; exact ⟨_, hTI, fun v q => nomatch q⟩
    · rw [q]; exact ⟨_, hTO, fun v q => nomatch q⟩
    · rw [q]; exact Sk.iter_obj q1
    · rw [q]; exact Sk.iter_obj q2
  keep := fun i h h' st k => by
    obtain ⟨hi, ⟨old, he⟩, ⟨f0, f1, o0, hz⟩, hTI, ⟨x, y, hTO⟩, q1, q2⟩ := st
    exact ⟨hi, ⟨old, k _ (by simp) _ he⟩, ⟨f0, f1, o0, k _ (by simp) _ hz⟩, k _ (by simp) _ hTI, ⟨x, y, k _ (by simp) _ hTO⟩, Sk.iter_at q1 fun o q => k _ (by simp) o q, Sk.iter_at q2 fun o q => k _ (by simp) o q⟩
  item := by
    intro X hP hw hK hc i pins s σ H E I hf st hg
    subst hP hw hK
    obtain ⟨hi, ⟨old, he⟩, ⟨f0, f1, o0, hz⟩, hTI, ⟨x0, y0, hTO⟩, q1, q2⟩ := st
    obtain ⟨⟨g1, g2⟩, hlt⟩ := hg
    have hh : X.A.in1.in1.handled = none := I.ok.hd hc
    obtain ⟨fp1, P1, St1, D1, s1, m1, b1, r1, t1⟩ := Sk.draws (A := X.A.in1.in1) I hh g1 (fun a e => Nat.ne_of_lt (h1 a e)) q1
    obtain ⟨fp2, P2, St2, D2, s2, m2, b2, r2, t2⟩ := Sk.draws (A := X.A.in1.in1) I hh g2 (fun a e => Nat.ne_of_lt (Nat.lt_succ_of_lt (h2 a e))) q2
    rw [← hl] at D2
    have S := sepN h1 h2 m1 m2 b1 b2
    have hel : N + 5 < s.heap.objs.size := Heap.lt_size he
    have ne : ∀ {a b : Nat}, a ≠ b → @Ne Addr a b := fun h => h
    refine pyNext_enum_itemG he (nextOf_zipS_item S D1 D2 hz o0 hTI hTO s1 s2 hlt fun u1 u2 h2' tk p1 p2 z' TO' h1' hj2 hTz hszz hkz => ⟨h2', tk, rfl, hkz _ _ (ne (by omega)) (ne (by omega)) (ne (by omega)) (ne (by omega)) he, fun h' ho hT hsz hk => ?_⟩)
    obtain ⟨x, hx, rx⟩ := r1 i u1 p1
    obtain ⟨y, hy, ry⟩ := r2 i u2 p2
    rw [hszz] at ho hT hsz ⊢
    refine ⟨_, rfl, wpAny_letOwnedTupleGo_enum (s := { s with heap := h', toks := tk + 1 }) ho fun h'' he' sb' => ?_⟩
    -- the zip's tuple
    have newz : ObjOk X.prog X.w (upd H s.heap.objs.size (.tup [x, y])) h2' s.heap.objs.size (.tup [x, y]) :=
      ⟨by show 2 ≤ sizeLine; decide, [u1, u2], .cons rx (.cons ry .nil), ⟨_, hTz, rfl, _, rfl⟩⟩
    have I1 : Inv X pins σ (upd H s.heap.objs.size (.tup [x, y])) { s with heap := h2', toks := tk } :=
      I.turnedNew (t' := tk) (ch := [N + 4, N + 3, N, N + 1]) (fun c o hb q => hkz c o (fun q' => hb (by simp [q'])) (fun q' => hb (by simp [q'])) (fun q' => hb (by simp [q'])) (fun q' => hb (by simp [q'])) q)
        (fun b hb => hf b (by have e' : b = N + 4 ∨ b = N + 3 ∨ b = N ∨ b = N + 1 := by simpa using hb
                              rcases e' with q | q | q | q <;> (rw [q]; simp))) (Nat.le_refl _) newz
    -- the enumerate's
    have hT2 : h''.get? (s.heap.objs.size + 1) = some { cls := .type "tuple", data := .seq #[.int i tk, .ref s.heap.objs.size] } := (sb'.2 _ (ne (by omega))).trans hT
    have new2 : ObjOk X.prog X.w (upd (upd H s.heap.objs.size (.tup [x, y])) (s.heap.objs.size + 1) (.tup [.int (i : Nat), .ref s.heap.objs.size])) h'' (s.heap.objs.size + 1) (.tup [.int (i : Nat), .ref s.heap.objs.size]) :=
      ⟨by show 2 ≤ sizeLine; decide, [.int i tk, .ref s.heap.objs.size], .cons ⟨_, rfl⟩ (.cons rfl .nil), ⟨_, hT2, rfl, _, rfl⟩⟩
    have I2 : Inv X pins σ (upd (upd H s.heap.objs.size (.tup [x, y])) (s.heap.objs.size + 1) (.tup [.int (i : Nat), .ref s.heap.objs.size])) { s with heap := h'', toks := tk + 1 } :=
      I1.turnedNew (t' := tk + 1) (ch := [N + 5]) (fun c o hb q => (sb'.2 c (fun z => hb (by simp [z]))).trans (hk c o (fun z => hb (by simp [z])) q))
        (fun b hb => by
          have e' : b = N + 5 := by simpa using hb
          subst e'
          obtain ⟨f0', rest⟩ := hf (N + 5) (by simp)
          exact ⟨by rw [upd_ne (ne (by omega))]; exact f0', rest⟩) (by show h2'.objs.size ≤ s.heap.objs.size + 1; rw [hszz]; exact Nat.le_refl _) new2
    have kp : ∀ c o, c ≠ N + 5 → h2'.get? c = some o → h''.get? c = some o := fun c o c1 q => (sb'.2 c c1).trans (hk c o c1 q)
    have fr2 : upd H s.heap.objs.size (.tup [x, y]) (s.heap.objs.size + 1) = none := by
      have hk1 : HOk X.prog X.w (upd H s.heap.objs.size (.tup [x, y])) h2' := I1.hok
      exact hk1.fresh (Nat.le_of_eq hszz)
    obtain ⟨f0', f1', o0', hz'⟩ := z'
    obtain ⟨b1', b2', hTO'⟩ := TO'
    refine ⟨.ref (s.heap.objs.size + 1), _, I2, rfl, ⟨_, _, x, y, rfl, I.hok.fresh (Nat.le_refl _), fr2, rfl, hx, hy⟩, ⟨hlt, ⟨.ref s.heap.objs.size, ?_⟩, ⟨f0', f1', o0', kp _ _ (ne (by omega)) hz'⟩, kp _ _ (ne (by omega)) (hkz _ _ S.TIz S.TITO S.TIi1 S.TIi2 hTI), ⟨_, _, kp _ _ (ne (by omega)) hTO'⟩,
      Sk.iter_at (t1 _ _ h1') fun o q => kp _ _ (ne (by omega)) q, Sk.iter_at (t2 _ _ hj2) fun o q => kp _ _ (ne (by omega)) q⟩, fun c hcm => ?_⟩
    · have e1 : ((i + 1 : Nat) : Int) = (i : Int) + 1 := by omega
      rw [e1]; exact he'
    · have e' : c = N + 5 ∨ c = N + 4 ∨ c = N + 2 ∨ c = N + 3 ∨ c = N ∨ c = N + 1 := by simpa using hcm
      have hlt : @LT.lt Nat _ c s.heap.objs.size := by rcases e' with q | q | q | q | q | q <;> (rw [q]; omega)
      rw [upd_ne (ne (by omega)), upd_ne (ne (by omega))]
      exact (hf c hcm).1
  done := by
    intro X hP hw hK hc i pins s σ H E I hf st hg
    subst hP hw hK
    obtain ⟨hi, ⟨old, he⟩, ⟨f0, f1, o0, hz⟩, hTI, ⟨x0, y0, hTO⟩, q1, q2⟩ := st
    obtain ⟨⟨g1, g2⟩, hge⟩ := hg
    have ei : i = xs.length := Nat.le_antisymm hi hge
    subst ei
    have hh : X.A.in1.in1.handled = none := I.ok.hd hc
    obtain ⟨fp1, P1, St1, D1, s1, m1, b1, r1, t1⟩ := Sk.draws (A := X.A.in1.in1) I hh g1 (fun a e => Nat.ne_of_lt (h1 a e)) q1
    obtain ⟨fp2, P2, St2, D2, s2, m2, b2, r2, t2⟩ := Sk.draws (A := X.A.in1.in1) I hh g2 (fun a e => Nat.ne_of_lt (Nat.lt_succ_of_lt (h2 a e))) q2
    rw [← hl] at D2
    have S := sepN h1 h2 m1 m2 b1 b2
    refine pyNext_enum_endG he (nextOf_zipS_end (A := X.A.in1) (I.ok.hd hc) S D1 D2 hz o0 hTI hTO s1 s2 fun h' tk ev hk he' => ?_)
    obtain ⟨o, ho, hcl⟩ := he'
    exact ⟨⟨ev, o, rfl, ho, hcl⟩, rfl, I.turnedL (t' := tk) (ch := [N + 5, N + 4, N + 2, N + 3, N, N + 1]) (fun c o hb q =>
      hk c o (fun q' => hb (by simp [q'])) (fun q' => hb (by simp [q'])) (fun q' => hb (by simp [q'])) (fun q' => hb (by simp [q'])) q) hf⟩
  self := fun A i s Q E st h => by
    obtain ⟨_, ⟨_, he⟩, _⟩ := st
    exact wpAny_pyIter_enum he h
theorem beg_zipS {z TI TO : Addr} {f0 : Value} {f1 : Bool} : Beg (.ref z) (fun h => IsZipS h z TI TO f0 f1) (fun _ => z) (fun h => h) := ⟨fun prog w A E s Q h q => pyIter_zipS h q⟩
/-- enumerate(zip(a, b, strict=True)) -/
theorem pi_enumZipS {X : Cx} {e e2 : Expr} {kws : List Keyword} {ta tk : TA} {p p2 pos pos2 tpos : Pos} {elts : List Expr} {kk : Nat} (hgE : Gl X "enumerate") (hmE : X.mg "enumerate" = none) (hg : Gl X "zip") (hm : X.mg "zip" = none) (ha : PA X [e, e2] ta) (hkw : PK X kws tk)
    (hs : starEach [.Call (.Name "zip" p2) [e, e2] kws pos2] X.env = [(false, eval (.Call (.Name "zip" p2) [e, e2] kws pos2) X.env)] := by rfl)
    (hall : (backToKw pos2 (keywordEach kws X.env)).all (·.1.isSome) = true := by rfl) (hks : (backToKw pos2 (keywordEach kws X.env)).filterMap (·.1) = [Str.ofString "strict"] := by rfl)
    (he : starEach [e, e2] X.env = (false, eval e X.env) :: starEach [e2] X.env := by rfl)
    (hpl : ((backTo pos2 (starEach [e, e2] X.env)).any (·.1) || (backToKw pos2 (keywordEach kws X.env)).any (·.1.isNone)) = false := by rfl) :
    PI X (.Tuple elts kk tpos) (.Call (.Name "enumerate" p) [.Call (.Name "zip" p2) [e, e2] kws pos2] [] pos) (fun σ H R => ta σ H fun vs H1 => tk σ H1 fun zs H2 => ∃ (k1 k2 : Sk) (xs ys : List V), vs = [k1.v, k2.v] ∧ zs = [.bl true] ∧ k1.has X.K H2 xs ∧ k2.has X.K H2 ys ∧ xs.length = ys.length ∧ R (ItEZ X.K k1 k2 xs ys) H2) := by
  refine ⟨fun pins s σ H R I h => ?_⟩
  refine Call_ (ld_blt I hgE hmE boot_enumerate (PyProof.Rows.callWith_type1 ?_ hs rfl))
  rw [hs]
  show wpAny _ _ (spliced [(false, eval (.Call (.Name "zip" p2) [e, e2] kws pos2) X.env)]) _ _ s
  refine Calls.spliced_cons (wpAny_Call_Name_kw (ld_blt I hg hm PyProof.Rows.boot_zip ?_))
  refine callWith_typeKw hall (thn (ha.run pos2 pins s σ H _ I h) fun us s1 ⟨vs, H1, I1, r1, q1⟩ => thn (hkw.run pos2 pins s1 σ H1 _ I1 q1) fun ws s2 ⟨zs, H2, I2, r2, q2⟩ => ?_) hpl he
  obtain ⟨k1, k2, xs, ys, rfl, rfl, g1, g2, hl, q⟩ := q2
  rw [hks]
  cases r1 with
  | cons ra rr =>
    cases rr with
    | cons rb rr =>
      cases rr
      cases r2 with
      | cons rc rr =>
        cases rr
        cases rc
        obtain ⟨o1, Hc1, B1, c1, i1, l1⟩ := Sk.begins I2 g1 ra
        obtain ⟨o2, Hc2, B2, c2, i2, l2⟩ := Sk.begins I2 g2 rb
        refine zip_begins2S B1 B2 c1 c2 fun h' hz hTI hTO h1 h2 hsz hk => ?_
        refine Calls.spliced_nil ?_
        refine enum_beg (s := { s2 with heap := h' }) beg_zipS hz fun h'' he' hsz' hk' => ?_
        simp only [hsz] at he' hsz' ⊢
        refine wpAny_pyIter_enum (s := { s2 with heap := h'' }) he' ?_
        have hkk : ∀ b u, s2.heap.get? b = some u → h''.get? b = some u := fun b o x => hk' b o (hk b o x)
        have I3 : Inv X pins σ H2 { s2 with heap := h'' } := I2.kept (t' := s2.toks) hkk
        refine ⟨s2.heap.objs.size + 5, [s2.heap.objs.size + 5, s2.heap.objs.size + 4, s2.heap.objs.size + 2, s2.heap.objs.size + 3, s2.heap.objs.size, s2.heap.objs.size + 1], _, _, H2, rfl, I3, turn_enumZipS hl l1 l2,
          ⟨Nat.zero_le _, ⟨_, he'⟩, ⟨_, _, .inl rfl, hk' _ _ hz⟩, hk' _ _ hTI, ⟨_, _, hk' _ _ hTO⟩, i1 _ _ (hk' _ _ h1), i2 _ _ (hk' _ _ h2)⟩, fun c hcm => ?_, q⟩
        have e' : c = s2.heap.objs.size + 5 ∨ c = s2.heap.objs.size + 4 ∨ c = s2.heap.objs.size + 2 ∨ c = s2.heap.objs.size + 3 ∨ c = s2.heap.objs.size ∨ c = s2.heap.objs.size + 1 := by simpa using hcm
        have hle : @LE.le Nat _ s2.heap.objs.size c := by rcases e' with q | q | q | q | q | q <;> (rw [q]; omega)
        exact I2.fpOk hle (I2.hok.fresh hle)
end MA
namespace MA
open PySem PySem.Spec PyProof.Rows L2
/-! ### zip(a, b), as far as the shorter goes -/
def ItZN (K : PySem.W.Frag) (k1 k2 : Sk) (xs ys : List V) : It := Itg (fun H => k1.has K H xs ∧ k2.has K H ys) (min xs.length ys.length) (yPair xs ys)
theorem turn_zipN {P : Program} {w : World} {K : PySem.W.Frag} {elts : List Expr} {kk : Nat} {tpos : Pos} {N : Nat} {k1 k2 : Sk} {xs ys : List V} (h1 : ∀ a, k1.adr = some a → a < N) (h2 : ∀ a, k2.adr = some a → a < N) :
    Turn P w K (.Tuple elts kk tpos) (ItZN K k1 k2 xs ys) [N + 4, N + 2, N + 3, N, N + 1] (N + 4)
      (fun i h => i ≤ min xs.length ys.length ∧ IsZip h (N + 4) (N + 2) (N + 3) .none ∧ IsTupOf2 h (N + 2) (.ref N) (.ref (N + 1)) ∧ (∃ x y, IsTupOf2 h (N + 3) x y) ∧ k1.iter N i h ∧ k2.iter (N + 1) i h) where
  mem := by simp
  obj := fun i h st c hc => by
    obtain ⟨_, hz, hTI, ⟨x, y, hTO⟩, q1, q2⟩ := st
    have e' : c = N + 4 ∨ c = N + 2 ∨ c = N + 3 ∨ c = N ∨ c = N + 1 := by simpa using hc
    rcases e' with q | q | q | q | q
    · rw [q]; exact ⟨_, hz, fun v q => nomatch q⟩
    · rw [q]; exact ⟨_, hTI, fun v q => nomatch q⟩
    · rw [q]; exact ⟨_, hTO, fun v q => nomatch q⟩
    · rw [q]; exact Sk.iter_obj q1
    · rw [q]; exact Sk.iter_obj q2
  keep := fun i h h' st k => by
    obtain ⟨hi, hz, hTI, ⟨x, y, hTO⟩, q1, q2⟩ := st
    exact ⟨hi, k _ (by simp) _ hz, k _ (by simp) _ hTI, ⟨x, y, k _ (by simp) _ hTO⟩, Sk.iter_at q1 fun o q => k _ (by simp) o q, Sk.iter_at q2 fun o q => k _ (by simp) o q⟩
  item := by
    intro X hP hw hK hc i pins s σ H E I hf st hg
    subst hP hw hK
    obtain ⟨hi, hz, hTI, ⟨x0, y0, hTO⟩, q1, q2⟩ := st
    obtain ⟨⟨g1, g2⟩, hlt⟩ := hg
    have hh : X.A.in1.handled = none := I.ok.hd hc
    obtain ⟨fp1, P1, St1, D1, s1, m1, b1, r1, t1⟩ := Sk.draws (A := X.A.in1) I hh g1 (fun a e => Nat.ne_of_lt (h1 a e)) q1
    obtain ⟨fp2, P2, St2, D2, s2, m2, b2, r2, t2⟩ := Sk.draws (A := X.A.in1) I hh g2 (fun a e => Nat.ne_of_lt (Nat.lt_succ_of_lt (h2 a e))) q2
    have S := sepN h1 h2 m1 m2 b1 b2
    have hzl : N + 4 < s.heap.objs.size := Heap.lt_size hz
    have l1 : i < xs.length := by omega
    have l2 : i < ys.length := by omega
    refine wpAny_pyNext_zipD2_item S D1 D2 hz hTI hTO s1 s2 l1 l2 fun u1 u2 h' tk p1 p2 z' TO' h1' h2' hT hsz hk => ?_
    obtain ⟨x, hx, rx⟩ := r1 i u1 p1
    obtain ⟨y, hy, ry⟩ := r2 i u2 p2
    refine ⟨_, rfl, wpAny_letOwnedTupleGo_zip (s := { s with heap := h', toks := tk }) z' fun h'' z'' sb => ?_⟩
    have hT2 : h''.get? s.heap.objs.size = some { cls := .type "tuple", data := .seq #[u1, u2] } := (sb.2 _ (Nat.ne_of_gt hzl)).trans hT
    have new : ObjOk X.prog X.w (upd H s.heap.objs.size (.tup [x, y])) h'' s.heap.objs.size (.tup [x, y]) :=
      ⟨by show 2 ≤ sizeLine; decide, [u1, u2], .cons rx (.cons ry .nil), ⟨_, hT2, rfl, _, rfl⟩⟩
    have I1 : Inv X pins σ (upd H s.heap.objs.size (.tup [x, y])) { s with heap := h'', toks := tk } :=
      I.turnedNew (t' := tk) (ch := [N + 4, N + 2, N + 3, N, N + 1]) (fun c o hb q => (sb.2 c (fun q' => hb (by simp [q']))).trans (hk c o (fun q' => hb (by simp [q'])) (fun q' => hb (by simp [q'])) (fun q' => hb (by simp [q'])) (fun q' => hb (by simp [q'])) q)) hf (Nat.le_refl _) new
    refine ⟨.ref s.heap.objs.size, _, I1, rfl, ⟨_, x, y, rfl, I.hok.fresh (Nat.le_refl _), rfl, hx, hy⟩, ⟨hlt, z'', ?_, ⟨u1, u2, ?_⟩, ?_, ?_⟩, fun c hcm => ?_⟩
    · exact (sb.2 _ S.TIz).trans (hk _ _ S.TIz S.TITO S.TIi1 S.TIi2 hTI)
    · exact (sb.2 _ S.TOz).trans TO'
    · exact Sk.iter_at (t1 _ _ h1') fun o q => (sb.2 _ S.zi1.symm).trans q
    · exact Sk.iter_at (t2 _ _ h2') fun o q => (sb.2 _ S.zi2.symm).trans q
    · have e' : c = N + 4 ∨ c = N + 2 ∨ c = N + 3 ∨ c = N ∨ c = N + 1 := by simpa using hcm
      have hlt : @LT.lt Nat _ c s.heap.objs.size := by rcases e' with q | q | q | q | q <;> (rw [q]; omega)
      rw [upd_ne (Nat.ne_of_lt hlt)]
      exact (hf c hcm).1
  done := by
    intro X hP hw hK hc i pins s σ H E I hf st hg
    subst hP hw hK
    obtain ⟨hi, hz, hTI, ⟨x0, y0, hTO⟩, q1, q2⟩ := st
    obtain ⟨⟨g1, g2⟩, hge⟩ := hg
    have hh : X.A.in1.handled = none := I.ok.hd hc
    obtain ⟨fp1, P1, St1, D1, s1, m1, b1, r1, t1⟩ := Sk.draws (A := X.A.in1) I hh g1 (fun a e => Nat.ne_of_lt (h1 a e)) q1
    obtain ⟨fp2, P2, St2, D2, s2, m2, b2, r2, t2⟩ := Sk.draws (A := X.A.in1) I hh g2 (fun a e => Nat.ne_of_lt (Nat.lt_succ_of_lt (h2 a e))) q2
    have S := sepN h1 h2 m1 m2 b1 b2
    exact wpAny_pyNext_zipD2_end S D1 D2 hz hTI hTO s1 s2 (by omega) (by omega) (by omega) fun h' tk hk => ⟨rfl, I.turnedL (t' := tk) (ch := [N + 4, N + 2, N + 3, N, N + 1]) (fun c o hb q =>
      hk c o (fun q' => hb (by simp [q'])) (fun q' => hb (by simp [q'])) (fun q' => hb (by simp [q'])) (fun q' => hb (by simp [q'])) q) hf⟩
  self := fun A i s Q E st h => by
    obtain ⟨_, hz, _⟩ := st
    exact wpAny_pyIter_zip hz h
def zipNK (K : PySem.W.Frag) (R : It → Hp → Prop) (vs : List V) (H : Hp) : Prop := ∃ (k1 k2 : Sk) (xs ys : List V), vs = [k1.v, k2.v] ∧ k1.has K H xs ∧ k2.has K H ys ∧ R (ItZN K k1 k2 xs ys) H
def iZipN (K : PySem.W.Frag) (ta : TA) : TI := fun σ H R => ta σ H (zipNK K R)
theorem pi_zipN {X : Cx} {e e2 : Expr} {ta : TA} {p pos tpos : Pos} {elts : List Expr} {kk : Nat} (hg : Gl X "zip") (hm : X.mg "zip" = none) (ha : PA X [e, e2] ta)
    (hs : starEach [e, e2] X.env = (false, eval e X.env) :: starEach [e2] X.env := by rfl) (hpl : (backTo pos (starEach [e2] X.env)).any (·.1) = false := by rfl) :
    PI X (.Tuple elts kk tpos) (.Call (.Name "zip" p) [e, e2] [] pos) (iZipN X.K ta) := by
  refine ⟨fun pins s σ H R I h => ?_⟩
  refine Call_ (ld_blt I hg hm PyProof.Rows.boot_zip (PyProof.Rows.callWith_type1 (thn (ha.run pos pins s σ H _ I h) fun us s2 ⟨vs, H2, I2, r1, q1⟩ => ?_) hs hpl))
  obtain ⟨k1, k2, xs, ys, rfl, g1, g2, q⟩ := q1
  cases r1 with
  | cons ra rr =>
    cases rr with
    | cons rb rr =>
      cases rr
      obtain ⟨o1, Hc1, B1, c1, i1, l1⟩ := Sk.begins I2 g1 ra
      obtain ⟨o2, Hc2, B2, c2, i2, l2⟩ := Sk.begins I2 g2 rb
      refine zip_begins2 B1 B2 c1 c2 fun h' hz hTI hTO h1 h2 hsz hk => wpAny_pyIter_zip hz ?_
      have I3 : Inv X pins σ H2 { s2 with heap := h' } := I2.kept (t' := s2.toks) hk
      refine ⟨s2.heap.objs.size + 4, [s2.heap.objs.size + 4, s2.heap.objs.size + 2, s2.heap.objs.size + 3, s2.heap.objs.size, s2.heap.objs.size + 1], _, _, H2, rfl, I3, turn_zipN l1 l2, ⟨Nat.zero_le _, hz, hTI, ⟨_, _, hTO⟩, i1 _ _ h1, i2 _ _ h2⟩, fun c hcm => ?_, q⟩
      have e' : c = s2.heap.objs.size + 4 ∨ c = s2.heap.objs.size + 2 ∨ c = s2.heap.objs.size + 3 ∨ c = s2.heap.objs.size ∨ c = s2.heap.objs.size + 1 := by simpa using hcm
      have hle : @LE.le Nat _ s2.heap.objs.size c := by rcases e' with q | q | q | q | q <;> (rw [q]; omega)
      exact I2.fpOk hle (I2.hok.fresh hle)
section
variable {K : PySem.W.Frag} {σ : L2.St} {H : Hp}
theorem w_zipN {tt : TA} {R : It → Hp → Prop} (h : tt σ H (zipNK K R)) : iZipN K tt σ H R := h
theorem w_zipNI {R : It → Hp → Prop} (k1 k2 : Sk) (xs ys : List V) (h1 : k1.has K H xs) (h2 : k2.has K H ys) (q : R (ItZN K k1 k2 xs ys) H) : zipNK K R [k1.v, k2.v] H := ⟨k1, k2, xs, ys, rfl, h1, h2, q⟩
end
end MA
/-! MA: one rule for each operation, whatever the kinds of its operands. -/
namespace MA
open PySem PySem.Spec PyProof.Rows L2

section ops
variable {X : Cx}
def rAddS : R2 := fun x y H Q => ∃ i j, x = .str i ∧ y = .str j ∧ i.length + j.length ≤ sizeLine ∧ Q (.str (i ++ j)) H
def rAddU (K : PySem.W.Frag) : R2 := fun x y H Q => (rI0 fun i j => .int (i + j)) x y H Q ∨ rAddS x y H Q ∨ rCat x y H Q ∨ rCatT K x y H Q
theorem u_add : OpR X (binaryOp .Add) (rAddU X.K) := op_add.or (OpR.or (r := rAddS) op_add_str (op_cat.or op_catT))
def rSubU : R2 := rI0 fun i j => .int (i - j)
theorem u_sub : OpR X (binaryOp .Sub) rSubU := op_sub
def rRepS : R2 := fun x y H Q => ∃ i n, x = .str i ∧ y = .int n ∧ MulOk i n ∧ Q (.str (Txt.mul i n)) H
theorem op_rep_str : OpR X (binaryOp .Mult) rRepS := by
  intro pins s σ H x y v u Q I rx ry h
  obtain ⟨i, n, rfl, rfl, h1, q⟩ := h
  obtain ⟨t, rfl⟩ := rx
  obtain ⟨t', rfl⟩ := ry
  exact SB.mul h1 fun t2 k => ⟨.str _, H, I.tok _, ⟨_, rfl⟩, q⟩
def rMulU (K : PySem.W.Frag) : R2 := fun x y H Q => (rI CMul fun i j => .int (i * j)) x y H Q ∨ (rI CMulX fun i j => .int (i * j)) x y H Q ∨ rRepS x y H Q ∨ rRep x y H Q ∨ rRepT K x y H Q
theorem u_mul : OpR X (binaryOp .Mult) (rMulU X.K) := op_mul.or (op_mulX.or (op_rep_str.or (op_rep.or op_repT)))
def rFdivU : R2 := rI CDivW fun i j => .int (i / j)
theorem u_fdiv : OpR X (binaryOp .FloorDiv) rFdivU := op_fdivW
def rModU : R2 := rI (fun _ j => 0 < j) fun i j => .int (i % j)
theorem u_mod : OpR X (binaryOp .Mod) rModU := op_mod
def rPowU : R2 := rI CPow fun i j => .int (i ^ j.toNat)
theorem u_pow : OpR X (binaryOp .Pow) rPowU := op_pow
def rShlU : R2 := rI CShl fun i j => .int (i * 2 ^ j.toNat)
theorem u_shl : OpR X (binaryOp .LShift) rShlU := op_shlW
def rShrU : R2 := rI (fun _ j => 0 ≤ j) fun i j => .int (i / 2 ^ j.toNat)
theorem u_shr : OpR X (binaryOp .RShift) rShrU := op_shr
def rAndU : R2 := rI0 fun i j => .int (Builtin.bitAnd i j)
theorem u_and : OpR X (binaryOp .BitAnd) rAndU := op_and
def rOrU : R2 := rI0 fun i j => .int (Builtin.bitOr i j)
theorem u_or : OpR X (binaryOp .BitOr) rOrU := op_or
def rXorU : R2 := rI0 fun i j => .int (Builtin.bitXor i j)
theorem u_xor : OpR X (binaryOp .BitXor) rXorU := op_xor
def rEqU (K : PySem.W.Frag) : R2 := fun x y H Q => rEq x y H Q ∨ rEqD K x y H Q
theorem u_eq (hu : X.A.units + 64 < cLine) : OpR X (compareOp .Eq) (rEqU X.K) := op_eq.or (op_eqD hu)
def rNeU (K : PySem.W.Frag) : R2 := fun x y H Q => rNe x y H Q ∨ rNeD K x y H Q
theorem u_ne (hu : X.A.units + 64 < cLine) : OpR X (compareOp .NotEq) (rNeU X.K) := op_ne.or (op_neD hu)
def rLtS : R2 := fun x y H Q => ∃ i j, x = .str i ∧ y = .str j ∧ Q (.bl (decide (i.cps.toList < j.cps.toList))) H
def rLtU (K : PySem.W.Frag) : R2 := fun x y H Q => (rI0 fun i j => .bl (decide (i < j))) x y H Q ∨ rLtS x y H Q ∨ rLtT K x y H Q
theorem u_lt (hu : X.A.units + 64 < cLine) : OpR X (compareOp .Lt) (rLtU X.K) := op_lt.or (OpR.or (r := rLtS) op_lt_str (op_ltT (by omega)))
def rLeS : R2 := fun x y H Q => ∃ i j, x = .str i ∧ y = .str j ∧ Q (.bl (!decide (j.cps.toList < i.cps.toList))) H
def rLeU : R2 := fun x y H Q => (rI0 fun i j => .bl (decide (i ≤ j))) x y H Q ∨ rLeS x y H Q
theorem u_le (hu : X.A.units + 64 < cLine) : OpR X (compareOp .LtE) rLeU := op_le.or (r' := rLeS) op_le_str
def rGtU : R2 := rI0 fun i j => .bl (decide (j < i))
theorem u_gt (hu : X.A.units + 64 < cLine) : OpR X (compareOp .Gt) rGtU := op_gt
def rGeU : R2 := rI0 fun i j => .bl (decide (j ≤ i))
theorem u_ge (hu : X.A.units + 64 < cLine) : OpR X (compareOp .GtE) rGeU := op_ge
def rInSg : R2 := fun x y H Q => ∃ (c : Nat) (z : Str), x = .str ⟨#[c]⟩ ∧ y = .str z ∧ Q (.bl (decide (c ∈ z.cps.toList))) H
def rInU (K : PySem.W.Frag) : R2 := fun x y H Q => rIn K false x y H Q ∨ rInSg x y H Q
theorem u_in (hu : X.A.units + 64 < cLine) : OpR X (compareOp .In) (rInU X.K) := op_in_seq.or (r' := rInSg) op_in_sign
def rNiSg : R2 := fun x y H Q => ∃ (c : Nat) (z : Str), x = .str ⟨#[c]⟩ ∧ y = .str z ∧ Q (.bl (!decide (c ∈ z.cps.toList))) H
def rNiU (K : PySem.W.Frag) : R2 := fun x y H Q => rIn K true x y H Q ∨ rNiSg x y H Q
theorem u_notin (hu : X.A.units + 64 < cLine) : OpR X (compareOp .NotIn) (rNiU X.K) := op_notIn_seq.or (r' := rNiSg) op_notIn_sign
def rIsNn : R2 := fun x y H Q => y = .non ∧ Q (.bl (decide (x = .non))) H
def rIsU : R2 := fun x y H Q => rIsNn x y H Q ∨ rIsB x y H Q
theorem u_is (hu : X.A.units + 64 < cLine) : OpR X (compareOp .Is) rIsU := OpR.or (r := rIsNn) op_isN op_isBl
def rNotNn : R2 := fun x y H Q => y = .non ∧ Q (.bl (!decide (x = .non))) H
def rIsntU : R2 := fun x y H Q => rNotNn x y H Q ∨ rNotB x y H Q
theorem u_isnot (hu : X.A.units + 64 < cLine) : OpR X (compareOp .IsNot) rIsntU := OpR.or (r := rNotNn) op_notN op_notBl
/-! slices -/
def rSlU (K : PySem.W.Frag) : V → Option Int → Option Int → Hp → VK → Prop := fun x lo hi H Q => rSlS x lo hi H Q ∨ rSlL K x lo hi H Q ∨ rSlT K x lo hi H Q
theorem u_sl : SlR X (rSlU X.K) := SlR.or sl_str (SlR.or sl_list sl_tup)
/-! in place -/
def ipAddS : TIp := fun x y H Q => ∃ i j, x = .str i ∧ y = .str j ∧ i.length + j.length ≤ sizeLine ∧ Q (.str (i ++ j)) H
/-! len -/
def rLenU (K : PySem.W.Frag) : List V → Hp → VK → Prop := fun xs H Q => ∃ x n, xs = [x] ∧ LenV K x H n ∧ Q (.int n) H
theorem u_len : CallR X (.builtin "len") (rLenU X.K) := call_len
end ops

/-! ### what is walked: a value that is a list, a tuple, a text -/
/-- a value's iterator, by the value -/
def ItV (X : Cx) (tg : Expr) (r : V → Hp → (It → Hp → Prop) → Prop) : Prop := ∀ (pins : List (Addr × Obj)) (s : Shared) (σ : L2.St) (H : Hp) (x : V) (u : Value) (R : It → Hp → Prop), Inv X pins σ H s → RelV x u → r x H R →
  wpAny (model X.prog X.w) X.A (pyIter u) (PIE X pins σ tg R) X.xe s
theorem pi_of {X : Cx} {tg e : Expr} {te : TE} {r : V → Hp → (It → Hp → Prop) → Prop} (he : PE X e te) (h : ItV X tg r) : PI X tg e (fun σ H R => te σ H fun x H1 => r x H1 R) :=
  ⟨fun pins s σ H R I q => thn (he.run pins s σ H _ I q) fun v s1 ⟨x, H1, I1, r1, q1⟩ => h pins s1 σ H1 x v R I1 r1 q1⟩
def ySeq (xs : List V) : Nat → Hp → V → Hp → Prop := fun i H x H' => H' = H ∧ xs[i]? = some x
/-- a sequence's items, the sequence staying as it is -/
def ItQ (K : PySem.W.Frag) (k : Sk) (xs : List V) : It := Itg (fun H => k.has K H xs) xs.length (ySeq xs)
theorem Turn.weaken {P : Program} {w : World} {K : PySem.W.Frag} {tg : Expr} {J J' : It} {fp : List Addr} {it : Addr} {tn : Nat → Heap → Prop} (T : Turn P w K tg J fp it tn) (hg : ∀ i H, J'.go i H → J.go i H) (hy : ∀ i H x H', J'.go i H → J.yld i H x H' → J'.yld i H x H') (hs : ∀ i H, J'.stop i H → J.stop i H) :
    Turn P w K tg J' fp it tn where
  mem := T.mem
  obj := T.obj
  keep := T.keep
  item := fun X hP hw hK hc i pins s σ H E I hf st g => wpAny_mono (T.item X hP hw hK hc i pins s σ H E I hf st (hg i H g)) (fun r s1 ⟨u, e, h⟩ => ⟨u, e, wpAny_mono h (fun _ s2 ⟨x, H', I2, rx, y, t, f⟩ => ⟨x, H', I2, rx, hy i H x H' g y, t, f⟩) fun _ _ z => z⟩) fun _ _ z => z
  done := fun X hP hw hK hc i pins s σ H E I hf st g => T.done X hP hw hK hc i pins s σ H E I hf st (hs i H g)
  self := T.self
/-- the reading of what is walked, given its value -/
def rSeqIt (K : PySem.W.Frag) : V → Hp → (It → Hp → Prop) → Prop := fun x H R => ∃ (k : Sk) (xs : List V), x = k.v ∧ k.has K H xs ∧ R (ItQ K k xs) H
theorem PIE.mono {X : Cx} {pins : List (Addr × Obj)} {σ : L2.St} {tg : Expr} {R : It → Hp → Prop} {itv : Value} {s2 : Shared} {J' : It → It → Hp → Prop} (h : PIE X pins σ tg R itv s2) {R' : It → Hp → Prop}
    (hR : ∀ J H, R J H → ∃ J', R' J' H ∧ (∀ i H, J'.go i H → J.go i H) ∧ (∀ i H x H', J'.go i H → J.yld i H x H' → J'.yld i H x H') ∧ (∀ i H, J'.stop i H → J.stop i H)) : PIE X pins σ tg R' itv s2 := by
  obtain ⟨it, fp, tn, J, H', e, I, T, t0, f, q⟩ := h
  obtain ⟨J', q', a, b, c⟩ := hR J H' q
  exact ⟨it, fp, tn, J', H', e, I, Turn.weaken T a b c, t0, f, q'⟩
theorem pi_seq {X : Cx} {tg e : Expr} {te : TE} (he : PE X e te) : PI X tg e (fun σ H R => te σ H fun x H1 => rSeqIt X.K x H1 R) := by
  refine pi_of he fun pins s σ H x u R I r h => ?_
  obtain ⟨k, xs, rfl, g, q⟩ := h
  cases k with
  | lst a =>
    cases (show u = Value.ref a from r)
    obtain ⟨its, rv, p, hz⟩ := I.list g
    refine wpAny_pyIter_list p.isList ?_
    have J0 : PIE X pins σ tg (fun J H => J = Itl X.K a ∧ R (ItQ X.K (.lst a) xs) H) (.ref s.heap.objs.size) { s with heap := s.heap.push { cls := .type "list_iterator", data := .fields #[.ref a, .int 0 0] } } :=
      pi_one (tk := s.toks) I _ (turn_list a _) ⟨_, Heap.get?_push_size _ rfl, rfl, rfl⟩ ⟨rfl, q⟩
    refine PIE.mono (J' := fun _ _ _ => True) J0 fun J H ⟨ej, q⟩ => ⟨_, q, ?_, ?_, ?_⟩
    · subst ej
      exact fun i H ⟨g, hi⟩ => ⟨xs, xs[i], g, by simp [hi]⟩
    · subst ej
      exact fun i H x H' ⟨g, hi⟩ ⟨e, y⟩ => ⟨e, y xs g⟩
    · subst ej
      exact fun i H ⟨g, hi⟩ => ⟨xs, g, hi⟩
  | tup a =>
    cases (show u = Value.ref a from r)
    obtain ⟨its, rv, p, hz⟩ := I.tuple g
    refine wpAny_pyIter_tuple (show s.heap.IsTuple a its.toArray from p) ?_
    have J0 : PIE X pins σ tg (fun J H => J = Itt X.K a ∧ R (ItQ X.K (.tup a) xs) H) (.ref s.heap.objs.size) { s with heap := s.heap.push { cls := .type "tuple_iterator", data := .fields #[.ref a, .int 0 0] } } :=
      pi_one (tk := s.toks) I _ (turn_tuple a _) ⟨_, Heap.get?_push_size _ rfl, rfl, rfl⟩ ⟨rfl, q⟩
    refine PIE.mono (J' := fun _ _ _ => True) J0 fun J H ⟨ej, q⟩ => ⟨_, q, ?_, ?_, ?_⟩
    · subst ej
      exact fun i H ⟨g, hi⟩ => ⟨xs, xs[i], g, by simp [hi]⟩
    · subst ej
      exact fun i H x H' ⟨g, hi⟩ ⟨e, y⟩ => ⟨e, y xs g⟩
    · subst ej
      exact fun i H ⟨g, hi⟩ => ⟨xs, g, hi⟩
  | str z =>
    cases g
    obtain ⟨t, rfl⟩ := (show ∃ t, u = Value.str z t from r)
    have fin : ∀ {itv s2}, PIE X pins σ tg (fun J H => J = Its z ∧ R (ItQ X.K (.str z) (signs z)) H) itv s2 → PIE X pins σ tg R itv s2 := fun J0 => by
      have el : (signs z).length = z.cps.size := by simp [signs]
      refine PIE.mono (J' := fun _ _ _ => True) J0 fun J H ⟨ej, q⟩ => ⟨_, q, ?_, ?_, ?_⟩
      · subst ej
        exact fun i H ⟨g, hi⟩ => by rw [el] at hi; exact hi
      · subst ej
        refine fun i H x H' ⟨g, hi⟩ ⟨e, c, hc, ex⟩ => ⟨e, ?_⟩
        have hc' : z.cps.toList[i]? = some c := by simpa using hc
        simp only [signs, List.getElem?_map, hc', Option.map_some, ex]
      · subst ej
        exact fun i H ⟨g, hi⟩ => by rw [el] at hi; exact hi
    cases ha : z.cps.all (· < 128)
    · exact wpAny_pyIter_wide ha (fin (pi_one (tk := s.toks) I _ (turn_str _ z t "str_iterator" (.inr rfl)) ⟨_, Heap.get?_push_size _ rfl, rfl, rfl⟩ ⟨rfl, q⟩))
    · exact wpAny_pyIter_ascii ha (fin (pi_one (tk := s.toks) I _ (turn_str _ z t "str_ascii_iterator" (.inl rfl)) ⟨_, Heap.get?_push_size _ rfl, rfl, rfl⟩ ⟨rfl, q⟩))
end MA
/-! MB: calls and methods, one rule each; the readings' names. -/
namespace MA
open PySem PySem.Spec PyProof.Rows L2

section calls
variable {X : Cx}
def rAbs : List V → Hp → VK → Prop := fun xs H Q => ∃ i, xs = [.int i] ∧ Q (.int (if i < 0 then -i else i)) H
def rDivmod : List V → Hp → VK → Prop := fun xs H Q => ∃ i j, xs = [.int i, .int j] ∧ CDivP i j ∧ ∀ p, H p = none → Q (.ref p) (upd H p (.tup [.int (i / j), .int (i % j)]))
def rIntU : List V → Hp → VK → Prop := fun xs H Q => ((∃ i, xs = [.int i] ∧ Q (.int i) H) ∨ ∃ k, xs = [.bl k] ∧ Q (.int (if k then 1 else 0)) H) ∨ ∃ a n, xs = [.str a] ∧ PySem.intText? a = some n ∧ a.length ≤ 640 ∧ Q (.int n) H
theorem u_int : CallR X (.type "int") rIntU := call_int1.or call_int_str
def rMin2 : List V → Hp → VK → Prop := fun xs H Q => ∃ i j, xs = [.int i, .int j] ∧ Q (.int (if j < i then j else i)) H
def rMax2 : List V → Hp → VK → Prop := fun xs H Q => ∃ i j, xs = [.int i, .int j] ∧ Q (.int (if j > i then j else i)) H
def rMinU (K : PySem.W.Frag) : List V → Hp → VK → Prop := fun xs H Q => rMin2 xs H Q ∨ rMin K xs H Q
theorem u_min (hc : X.calm = true) : CallR X (.builtin "min") (rMinU X.K) := CallR.or (r := rMin2) (call_min2 hc) (cr_min hc)
def rMaxU (K : PySem.W.Frag) : List V → Hp → VK → Prop := fun xs H Q => rMax2 xs H Q ∨ rMax K xs H Q
theorem u_max (hc : X.calm = true) : CallR X (.builtin "max") (rMaxU X.K) := CallR.or (r := rMax2) (call_max2 hc) (cr_max hc)
def rIsiU (K : PySem.W.Frag) : List V → Hp → VK → Prop := fun xs H Q => rIsi K xs H Q ∨ rIsiT K xs H Q
theorem u_isi : CallR X (.builtin "isinstance") (rIsiU X.K) := call_isi.or call_isiT
def rBool1 : List V → Hp → VK → Prop := fun xs H Q => (∃ i, xs = [.int i] ∧ Q (.bl (i != 0)) H) ∨ ∃ k, xs = [.bl k] ∧ Q (.bl k) H
/-! list(x): a list, a tuple, a text -/
def rListStr : List V → Hp → VK → Prop := fun xs H Q => ∃ z, xs = [.str z] ∧ z.length ≤ sizeLine ∧ ∀ l, H l = none → Q (.ref l) (upd H l (.lst (signs z)))
theorem call_listStr (hc : X.calm = true) : CallR X (.type "list") rListStr := by
  intro pins s σ H xs us Q I r h
  obtain ⟨z, rfl, hz, q⟩ := h
  cases r with
  | cons r1 rr =>
    cases rr
    obtain ⟨t, rfl⟩ := r1
    refine call_list_str (I.ok.hd hc) z t (hn := hz) fun h' tk acc c kp hS hacc => ?_
    refine ⟨.ref s.heap.objs.size, _, I.laid (t' := tk) kp (Nat.le_refl _) (show ObjOk X.prog X.w _ h' _ (.lst (signs z)) from ⟨?_, acc.toList, c, ?_, by simpa using hS⟩), rfl, q _ (I.hok.fresh (Nat.le_refl _))⟩
    · have : (signs z).length = z.length := by simp [signs, Str.length]
      rw [this]; exact hz
    · have hn : acc.toList.length = z.cps.toList.length := by simpa using hacc.1
      have hv : ∀ (l : List Nat) (us : List Value), us.length = l.length → (∀ (j : Nat) (u : Value), us[j]? = some u → ∃ c, l[j]? = some c ∧ ∃ t, u = .str ⟨#[c]⟩ t) → Vals (l.map fun c => V.str ⟨#[c]⟩) us := by
        intro l
        induction l with
        | nil => intro us e _; cases us with | nil => exact .nil | cons a b => simp at e
        | cons a l ih =>
          intro us e hu
          cases us with
          | nil => simp at e
          | cons u us =>
            obtain ⟨c, hc, t, rfl⟩ := hu 0 u rfl
            have ec : a = c := Option.some.inj hc
            subst ec
            exact .cons ⟨t, rfl⟩ (ih us (by simpa using e) fun j u h => hu (j + 1) u (by simpa using h))
      refine hv _ _ hn fun j u hu => ?_
      obtain ⟨c, t', hc, rfl⟩ := hacc.2 j u (by simpa using hu)
      exact ⟨c, by simpa using hc, t', rfl⟩
def rListU (K : PySem.W.Frag) : List V → Hp → VK → Prop := fun xs H Q => (∃ p ys, xs = [.ref p] ∧ (SqL K H p ys ∨ SqT K H p ys) ∧ ∀ l, H l = none → Q (.ref l) (upd H l (.lst ys))) ∨ rListStr xs H Q
theorem u_list (hc : X.calm = true) : CallR X (.type "list") (rListU X.K) := call_list_of.or (call_listStr hc)
/-! tuple(x): a list, a tuple -/
def rTupleU (K : PySem.W.Frag) : List V → Hp → VK → Prop := fun xs H Q => ∃ p ys, xs = [.ref p] ∧ ((SqL K H p ys ∧ ∀ l, H l = none → Q (.ref l) (upd H l (.tup ys))) ∨ (SqT K H p ys ∧ Q (.ref p) H))
theorem u_tuple (hc : X.calm = true) : CallR X (.type "tuple") (rTupleU X.K) := call_tuple_of
/-! methods -/
def rJoin (K : PySem.W.Frag) : V → List V → Hp → VK → Prop := fun x xs H Q => ∃ a p, ∃ ys : List Str, x = .str a ∧ xs = [.ref p] ∧ (SqL K H p (ys.map V.str) ∨ SqT K H p (ys.map V.str)) ∧
    (ys.map (·.length)).sum + ys.length * a.length ≤ 16777216 ∧ Q (.str (Txt.join a ys)) H
def rStartsw : V → List V → Hp → VK → Prop := fun x xs H Q => ∃ a b, x = .str a ∧ xs = [.str b] ∧ Q (.bl (Txt.startswith a b)) H
def rUpper : V → List V → Hp → VK → Prop := fun x xs H Q => ∃ a, x = .str a ∧ xs = [] ∧ a.length ≤ 5592405 ∧ Q (.str (Txt.upper a)) H
def rCount : V → List V → Hp → VK → Prop := fun x xs H Q => ∃ a b, x = .str a ∧ xs = [.str b] ∧ Q (.int (Txt.count a b)) H
def rStripC : V → List V → Hp → VK → Prop := fun x xs H Q => ∃ a b, x = .str a ∧ xs = [.str b] ∧ a.length ≤ sizeLine ∧ Q (.str (Txt.stripChars a b)) H
def rStripU : V → List V → Hp → VK → Prop := rStripC
theorem u_strip : MtR X "str.strip" rStripU := mt_stripChars
def rRstripU : V → List V → Hp → VK → Prop := fun x xs H Q => ∃ a b, x = .str a ∧ xs = [.str b] ∧ a.length ≤ sizeLine ∧ Q (.str (Txt.rstripChars a b)) H
theorem u_rstrip : MtR X "str.rstrip" rRstripU := mt_rstripChars
/-! in place -/
def ipAddU (K : PySem.W.Frag) : TIp := fun x y H Q => (rI0 fun i j => .int (i + j)) x y H Q ∨ rAddS x y H Q
theorem u_ipadd : PIp X .Add (ipAddU X.K) := OpR.or (f := inplaceOp .Add) (r' := rAddS) iop_add iop_add_str
def ipSubU : TIp := rI0 fun i j => .int (i - j)
theorem u_ipsub : PIp X .Sub ipSubU := iop_sub
def ipMulU (K : PySem.W.Frag) : TIp := rI CMul fun i j => .int (i * j)
theorem u_ipmul : PIp X .Mult (ipMulU X.K) := iop_mul
def ipFdivU : TIp := rI CDivW fun i j => .int (i / j)
theorem u_ipfdiv : PIp X .FloorDiv ipFdivU := iop_fdivW
def ipShlU : TIp := rI CShl fun i j => .int (i * 2 ^ j.toNat)
theorem u_ipshl : PIp X .LShift ipShlU := iop_shlW
def ipShrU : TIp := rI (fun _ j => 0 ≤ j) fun i j => .int (i / 2 ^ j.toNat)
theorem u_ipshr : PIp X .RShift ipShrU := iop_shr
def ipOrU : TIp := rI0 fun i j => .int (Builtin.bitOr i j)
theorem u_ipor : PIp X .BitOr ipOrU := iop_or
def ipAndU : TIp := rI0 fun i j => .int (Builtin.bitAnd i j)
theorem u_ipand : PIp X .BitAnd ipAndU := iop_and
def rNegU : V → Hp → VK → Prop := rU fun i => .int (-i)
def rInvU : V → Hp → VK → Prop := rU fun i => .int (Builtin.bitNot i)
/-! truth of a value -/
def tTrth (K : PySem.W.Frag) (ta : TE) : TT := fun σ H Q => ta σ H fun x H' => ∃ k, TruV K x H' k ∧ Q k H'
theorem pt_tru {a : Expr} {ta : TE} (ha : PE X a ta) (he : ∀ whole, isTrue a X.env whole = (do let v ← whole; standAt a.pos; holding [v] (truthy v)) := by intro _; rfl) : PT X a (tTrth X.K ta) := pt_truth ha he
/-! what is walked -/
def iSeq (K : PySem.W.Frag) (te : TE) : TI := fun σ H R => te σ H fun x H1 => rSeqIt K x H1 R
def iEnumZipS (K : PySem.W.Frag) (ta tk : TA) : TI := fun σ H R => ta σ H fun vs H1 => tk σ H1 fun zs H2 => ∃ (k1 k2 : Sk) (xs ys : List V), vs = [k1.v, k2.v] ∧ zs = [.bl true] ∧ k1.has K H2 xs ∧ k2.has K H2 ys ∧ xs.length = ys.length ∧ R (ItEZ K k1 k2 xs ys) H2
end calls

/-! ### what is known of the heap: G stays, L may change -/
structure Now (G : Hp) (L : List (Addr × HO)) (H : Hp) : Prop where
  ex : ∀ a o, G a = some o → H a = some o
  mu : ∀ p ∈ L, H p.1 = some p.2
  ap : ∀ p ∈ L, G p.1 = none
  nd : (L.map (·.1)).Nodup
def Ex (G G' : Hp) : Prop := ∀ a o, G a = some o → G' a = some o
theorem Ex.refl (G : Hp) : Ex G G := fun _ _ h => h
theorem Ex.trans {G G1 G2 : Hp} (a : Ex G G1) (b : Ex G1 G2) : Ex G G2 := fun x o h => b x o (a x o h)
theorem Ex.new {G : Hp} {p : Addr} {o : HO} (h : G p = none) : Ex G (upd G p o) := fun a u e => by rw [upd_ne (ne_of_none e h)]; exact e
section now
variable {G H : Hp} {L : List (Addr × HO)} {p a b : Addr} {o o' u : HO} {q : Addr × HO}
theorem Now.fr (n : Now G L H) (h : H p = none) : G p = none := by
  cases e : G p with
  | none => rfl
  | some x => rw [n.ex p x e] at h; cases h
theorem Now.frL (n : Now G L H) (h : H p = none) : p ∉ L.map (·.1) := fun hm => by
  obtain ⟨x, hx, rfl⟩ := List.mem_map.mp hm
  rw [n.mu x hx] at h; cases h
theorem Now.new (n : Now G L H) (h : H p = none) : Now G L (upd H p o) where
  ex := fun a u e => by rw [upd_ne (ne_of_none (n.ex a u e) h)]; exact n.ex a u e
  mu := fun x hx => by rw [upd_ne (ne_of_none (n.mu x hx) h)]; exact n.mu x hx
  ap := n.ap
  nd := n.nd
theorem Now.newG (n : Now G L H) (h : H p = none) : Now (upd G p o) L (upd H p o) where
  ex := fun a u e => by
    by_cases ha : a = p
    · subst ha; rw [upd_same] at e ⊢; exact e
    · rw [upd_ne ha] at e ⊢; exact n.ex a u e
  mu := fun x hx => by rw [upd_ne (ne_of_none (n.mu x hx) h)]; exact n.mu x hx
  ap := fun x hx => by rw [upd_ne (ne_of_none (n.mu x hx) h)]; exact n.ap x hx
  nd := n.nd
theorem Now.newL (n : Now G L H) (h : H p = none) : Now G ((p, o) :: L) (upd H p o) where
  ex := (n.new h).ex
  mu := fun x hx => by
    rcases List.mem_cons.mp hx with e | hx
    · rw [e]; exact upd_same
    · exact (n.new h).mu x hx
  ap := fun x hx => by
    rcases List.mem_cons.mp hx with e | hx
    · rw [e]; exact n.fr h
    · exact n.ap x hx
  nd := by
    show (p :: L.map (·.1)).Nodup
    exact List.nodup_cons.mpr ⟨n.frL h, n.nd⟩
theorem Now.get0 (n : Now G ((a, o) :: L) H) : H a = some o := n.mu (a, o) (List.mem_cons_self ..)
theorem Now.get1 (n : Now G (q :: (a, o) :: L) H) : H a = some o := n.mu (a, o) (List.mem_cons_of_mem _ (List.mem_cons_self ..))
theorem Now.get2 {q' : Addr × HO} (n : Now G (q :: q' :: (a, o) :: L) H) : H a = some o := n.mu (a, o) (List.mem_cons_of_mem _ (List.mem_cons_of_mem _ (List.mem_cons_self ..)))
theorem Now.perm {L' : List (Addr × HO)} (n : Now G L H) (h : L.Perm L') : Now G L' H where
  ex := n.ex
  mu := fun x hx => n.mu x (h.mem_iff.mpr hx)
  ap := fun x hx => n.ap x (h.mem_iff.mpr hx)
  nd := (h.map _).nodup_iff.mp n.nd
theorem Now.swap {q' : Addr × HO} (n : Now G (q :: q' :: L) H) : Now G (q' :: q :: L) H := n.perm (List.Perm.swap _ _ _)
theorem Now.drop (n : Now G (q :: L) H) : Now G L H where
  ex := n.ex
  mu := fun x hx => n.mu x (List.mem_cons_of_mem _ hx)
  ap := fun x hx => n.ap x (List.mem_cons_of_mem _ hx)
  nd := (List.nodup_cons.mp n.nd).2
theorem Now.set0 (n : Now G ((a, o) :: L) H) : Now G ((a, o') :: L) (upd H a o') where
  ex := fun b u e => by
    have : b ≠ a := fun z => by subst z; rw [n.ap (b, o) (List.mem_cons_self ..)] at e; cases e
    rw [upd_ne this]; exact n.ex b u e
  mu := fun x hx => by
    rcases List.mem_cons.mp hx with e | hx
    · rw [e]; exact upd_same
    · have : x.1 ≠ a := fun z => (List.nodup_cons.mp n.nd).1 (z ▸ List.mem_map.mpr ⟨x, hx, rfl⟩)
      rw [upd_ne this]; exact n.mu x (List.mem_cons_of_mem _ hx)
  ap := fun x hx => by
    rcases List.mem_cons.mp hx with e | hx
    · rw [e]; exact n.ap (a, o) (List.mem_cons_self ..)
    · exact n.ap x (List.mem_cons_of_mem _ hx)
  nd := n.nd
theorem Now.set1 (n : Now G (q :: (a, o) :: L) H) : Now G (q :: (a, o') :: L) (upd H a o') := (n.swap.set0).swap
theorem Now.freeze (n : Now G ((a, o) :: L) H) : Now (upd G a o) L H where
  ex := fun b u e => by
    by_cases hb : b = a
    · subst hb; rw [upd_same] at e; rw [n.get0]; exact e
    · rw [upd_ne hb] at e; exact n.ex b u e
  mu := n.drop.mu
  ap := fun x hx => by
    have : x.1 ≠ a := fun z => (List.nodup_cons.mp n.nd).1 (z ▸ List.mem_map.mpr ⟨x, hx, rfl⟩)
    rw [upd_ne this]; exact n.drop.ap x hx
  nd := n.drop.nd
theorem Now.exf (n : Now G ((a, o) :: L) H) : Ex G (upd G a o) := Ex.new (n.ap _ (List.mem_cons_self ..))
theorem Now.exn (n : Now G L H) (h : H p = none) : Ex G (upd G p o) := Ex.new (n.fr h)
end now
end MA
/-! MC: readings, step by step. -/
namespace MA
open PySem PySem.Spec PyProof.Rows L2
def partK (QO : Option Int → Hp → Prop) (x : V) (H : Hp) : Prop := ∃ i, x = .int i ∧ QO (some i) H
def lstK (Q : VK) (xs : List V) (H : Hp) : Prop := xs.length ≤ sizeLine ∧ ∀ p, H p = none → Q (.ref p) (upd H p (.lst xs))
def tupK (Q : VK) (xs : List V) (H : Hp) : Prop := xs.length ≤ sizeLine ∧ ∀ p, H p = none → Q (.ref p) (upd H p (.tup xs))
section w
variable {K : PySem.W.Frag} {σ : L2.St} {G H : Hp} {L : List (Addr × HO)} {Q : VK} {QA : List V → Hp → Prop} {QB : Bool → Hp → Prop} {QO : Option Int → Hp → Prop} {v x y z : V} {i : Nat} {ta tb tc te tr' : TE} {t1 t2 : TT} {tt : TA} {D : Ends} {ts tu : TS} {g : TG} {r r2 : R2} {a p : Addr} {xs ys : List V}
theorem w_var (h : σ[i]? = some (some v)) (q : Q v H) : tVar i σ H Q := ⟨v, h, q⟩
theorem w_c (q : Q v H) : tC v σ H Q := q
theorem w_op (h : ta σ H fun x H1 => tb σ H1 fun y H2 => r x y H2 Q) : tOp r ta tb σ H Q := h
theorem w_un {r : V → Hp → VK → Prop} (h : ta σ H fun x H1 => r x H1 Q) : tUn r ta σ H Q := h
theorem w_nil (q : QA [] H) : tNil σ H QA := q
theorem w_cons (h : ta σ H fun x H1 => tt σ H1 fun xs H2 => QA (x :: xs) H2) : tCons ta tt σ H QA := h
theorem w_cb {r : List V → Hp → VK → Prop} (h : tt σ H fun vs H1 => r vs H1 Q) : tCB r tt σ H Q := h
theorem w_call {sp : Sp} {dvs : List V} {E : XK} (h : tt σ H fun vs H1 => sp (vs ++ dvs) H1 Q E) : tCall sp dvs E tt σ H Q := h
theorem w_bm {T : String} {r : V → List V → Hp → VK → Prop} (h : ta σ H fun x H1 => tyV K T x H1 ∧ tt σ H1 fun xs H2 => r x xs H2 Q) : tBM K T r ta tt σ H Q := h
theorem w_bm0 {T : String} {r : V → List V → Hp → VK → Prop} (h : ta σ H fun x H1 => tyV K T x H1 ∧ r x [] H1 Q) : tBM0 K T r ta σ H Q := h
theorem w_if (h : t1 σ H fun c H1 => if c = true then ta σ H1 Q else tb σ H1 Q) : tIf t1 ta tb σ H Q := h
theorem w_test (h : te σ H fun x H' => ∃ k, x = .bl k ∧ QB k H') : tTest te σ H QB := h
theorem w_trth (h : te σ H fun x H' => ∃ k, TruV K x H' k ∧ QB k H') : tTrth K te σ H QB := h
theorem w_not (h : t1 σ H fun c H1 => QB (!c) H1) : tNot t1 σ H QB := h
theorem w_and (h : t1 σ H fun c H1 => if c = true then t2 σ H1 QB else QB false H1) : tAnd t1 t2 σ H QB := h
theorem w_or (h : t1 σ H fun c H1 => if c = true then QB true H1 else t2 σ H1 QB) : tOr t1 t2 σ H QB := h
theorem w_andT (h : ta σ H fun x H1 => ∃ k, TruV K x H1 k ∧ if k = true then tb σ H1 Q else Q x H1) : tAndT K ta tb σ H Q := h
theorem w_orT (h : ta σ H fun x H1 => ∃ k, TruV K x H1 k ∧ if k = true then Q x H1 else tb σ H1 Q) : tOrT K ta tb σ H Q := h
theorem w_notT (h : ta σ H fun x H1 => ∃ k, TruV K x H1 k ∧ Q (.bl (!k)) H1) : tNotT K ta σ H Q := h
theorem w_chain (h : ta σ H fun x H1 => tb σ H1 fun y H2 => r x y H2 fun z H3 => ∃ k, z = .bl k ∧ (if k = true then tc σ H3 fun w' H4 => r2 y w' H4 Q else Q (.bl false) H3)) : tChain r r2 ta tb tc σ H Q := h
theorem w_sl {r : V → Option Int → Option Int → Hp → VK → Prop} {tl th : TO} (h : te σ H fun x H1 => tl σ H1 fun l H2 => th σ H2 fun u H3 => r x l u H3 Q) : tSl r te tl th σ H Q := h
theorem w_nopart (q : QO none H) : tNoPart σ H QO := q
theorem w_part (h : te σ H (partK QO)) : tPart te σ H QO := h
theorem w_part1 {j : Int} (q : QO (some j) H) : partK QO (.int j) H := ⟨j, rfl, q⟩
theorem w_lst (h : tt σ H (lstK Q)) : tLst tt σ H Q := h
theorem w_tup (h : tt σ H (tupK Q)) : tTup tt σ H Q := h
theorem w_yes (q : QB true H) : tYes σ H QB := q
/-- statements -/
theorem w_seq (h : ts { D with nx := tu D } σ H) : tSeq ts tu D σ H := h
theorem w_next (q : D.nx σ H) : tNext D σ H := q
theorem w_asg (h : te σ H fun x H1 => g x σ H1 D.nx) : tAsg te g D σ H := h
theorem w_par {i j : Nat} (h : tt σ H fun vs H1 => ∃ v w, vs = [v, w] ∧ D.nx ((σ.set i (some v)).set j (some w)) H1) : tPar i j tt D σ H := h
theorem w_par3 {i j l : Nat} (h : tt σ H fun vs H1 => ∃ u v w, vs = [u, v, w] ∧ D.nx (((σ.set i (some u)).set j (some v)).set l (some w)) H1) : tPar3 i j l tt D σ H := h
theorem w_ret (h : te σ H D.rt) : tRet te D σ H := h
theorem w_drop (h : te σ H fun _ H1 => D.nx σ H1) : tDrop te D σ H := h
theorem w_ifs (h : t1 σ H fun b H1 => if b = true then ts D σ H1 else tu D σ H1) : tIfS t1 ts tu D σ H := h
theorem w_aug {ti : TIp} (hx : σ[i]? = some (some x)) (h : te σ H fun y H1 => ti x y H1 fun z H2 => D.nx (σ.set i (some z)) H2) : tAug i te ti D σ H := ⟨x, hx, h⟩
/-- targets -/
theorem w_gname {QS : L2.St → Hp → Prop} (q : QS (σ.set i (some v)) H) : gName i v σ H QS := q
theorem w_gsub {QS : L2.St → Hp → Prop} {ts : TSet} (h : ta σ H fun o H1 => tb σ H1 fun i H2 => ts o i v H2 fun H3 => QS σ H3) : gSub ta tb ts v σ H QS := h
theorem w_gtup {QS : L2.St → Hp → Prop} {n : Nat} {t : TGs} (h : SqT K H a xs) (hn : xs.length = n) (q : t xs σ H QS) : gTup K n t (.ref a) σ H QS := ⟨a, xs, rfl, h, hn, q⟩
theorem w_gnil {QS : L2.St → Hp → Prop} (q : QS σ H) : gNil [] σ H QS := ⟨rfl, q⟩
theorem w_gcons {QS : L2.St → Hp → Prop} {t : TG} {u : TGs} {r : List V} (q : t v σ H fun σ' H' => u r σ' H' QS) : gCons t u (v :: r) σ H QS := ⟨v, r, rfl, q⟩
/-- tests on truths -/
theorem w_bl {b : Bool} {QB : Bool → Prop} (q : QB b) : ∃ k, V.bl b = .bl k ∧ QB k := ⟨b, rfl, q⟩
theorem w_tbl {b : Bool} {QB : Bool → Prop} (q : QB b) : ∃ k, TruV K (.bl b) H k ∧ QB k := ⟨b, rfl, q⟩
theorem w_ite {b : Bool} {A B : Prop} (h1 : b = true → A) (h2 : b = false → B) : if b = true then A else B := by
  cases b with
  | true => exact h1 rfl
  | false => exact h2 rfl
theorem w_iteT {b : Bool} {A B : Prop} (h : b = true) (q : A) : if b = true then A else B := by rw [if_pos h]; exact q
theorem w_iteF {b : Bool} {A B : Prop} (h : b = false) (q : B) : if b = true then A else B := by rw [h]; exact q
/-- new objects -/
theorem w_lstL (n : Now G L H) (hz : xs.length ≤ 100000) (q : ∀ p H', Now G ((p, .lst xs) :: L) H' → H p = none → Q (.ref p) H') : lstK Q xs H :=
  ⟨Nat.le_trans hz (by decide), fun p hp => q p _ (n.newL hp) hp⟩
/-- operations by the kinds of their operands -/
theorem w_addI {i j : Int} (q : Q (.int (i + j)) H) : rAddU K (.int i) (.int j) H Q := .inl ⟨i, j, rfl, rfl, q⟩
theorem w_addS {i j : Str} (h : i.length + j.length ≤ sizeLine) (q : Q (.str (i ++ j)) H) : rAddU K (.str i) (.str j) H Q := .inr (.inl ⟨i, j, rfl, rfl, h, q⟩)
theorem w_subI {i j : Int} (q : Q (.int (i - j)) H) : rSubU (.int i) (.int j) H Q := ⟨i, j, rfl, rfl, q⟩
theorem w_mulI {i j : Int} (h : (-(2 ^ 64) < i ∧ i < 2 ^ 64) ∨ (-(2 ^ 64) < j ∧ j < 2 ^ 64)) (q : Q (.int (i * j)) H) : rMulU K (.int i) (.int j) H Q := .inl ⟨i, j, rfl, rfl, h, q⟩
theorem log_small {j : Int} (h0 : 0 < j) (h : j < 1267650600228229401496703205376) : j.natAbs.log2 < 9000 := by
  have e : (j.natAbs : Int) = j := by omega
  have h1 : j.natAbs < 2 ^ 100 := by omega
  have h2 : j.natAbs ≠ 0 := by omega
  have := (Nat.log2_lt h2).mpr h1
  omega
theorem w_fdivI {i j : Int} (h0 : 0 < j) (h1 : j < 1267650600228229401496703205376) (q : Q (.int (i / j)) H) : rFdivU (.int i) (.int j) H Q := ⟨i, j, rfl, rfl, ⟨h0, log_small h0 h1⟩, q⟩
theorem w_modI {i j : Int} (h0 : 0 < j) (q : Q (.int (i % j)) H) : rModU (.int i) (.int j) H Q := ⟨i, j, rfl, rfl, h0, q⟩
theorem w_powI {i j : Int} (h : 0 ≤ j ∧ j ≤ 1000000 ∧ i.natAbs < 2 ^ 64) (q : Q (.int (i ^ j.toNat)) H) : rPowU (.int i) (.int j) H Q := ⟨i, j, rfl, rfl, h, q⟩
theorem bits1 : Builtin.Int.intBits 1 = 1 := by decide
theorem w_shl1 {j : Int} (h0 : 0 ≤ j) (h1 : j ≤ 1000000) (q : Q (.int (2 ^ j.toNat)) H) : rShlU (.int 1) (.int j) H Q := by
  refine ⟨1, j, rfl, rfl, ⟨h0, ?_⟩, by show Q (.int (1 * 2 ^ j.toNat)) H; rw [Int.one_mul]; exact q⟩
  rw [bits1]
  omega
theorem w_shrI {i j : Int} (h0 : 0 ≤ j) (q : Q (.int (i / 2 ^ j.toNat)) H) : rShrU (.int i) (.int j) H Q := ⟨i, j, rfl, rfl, h0, q⟩
theorem w_gtI {i j : Int} (q : Q (.bl (decide (j < i))) H) : rGtU (.int i) (.int j) H Q := ⟨i, j, rfl, rfl, q⟩
theorem w_geI {i j : Int} (q : Q (.bl (decide (j ≤ i))) H) : rGeU (.int i) (.int j) H Q := ⟨i, j, rfl, rfl, q⟩
theorem w_ltI {i j : Int} (q : Q (.bl (decide (i < j))) H) : rLtU K (.int i) (.int j) H Q := .inl ⟨i, j, rfl, rfl, q⟩
theorem w_leI {i j : Int} (q : Q (.bl (decide (i ≤ j))) H) : rLeU (.int i) (.int j) H Q := .inl ⟨i, j, rfl, rfl, q⟩
theorem w_eqI {i j : Int} (q : Q (.bl (decide (i = j))) H) : rEqU K (.int i) (.int j) H Q := .inl ⟨rfl, by rw [show decide (V.int i = V.int j) = decide (i = j) by simp]; exact q⟩
theorem w_neI {i j : Int} (q : Q (.bl (!decide (i = j))) H) : rNeU K (.int i) (.int j) H Q := .inl ⟨rfl, by rw [show decide (V.int i = V.int j) = decide (i = j) by simp]; exact q⟩
theorem w_eqS {i j : Str} (q : Q (.bl (decide (i = j))) H) : rEqU K (.str i) (.str j) H Q := .inl ⟨rfl, by rw [show decide (V.str i = V.str j) = decide (i = j) by simp]; exact q⟩
theorem w_neS {i j : Str} (q : Q (.bl (!decide (i = j))) H) : rNeU K (.str i) (.str j) H Q := .inl ⟨rfl, by rw [show decide (V.str i = V.str j) = decide (i = j) by simp]; exact q⟩
theorem w_eqB {i j : Bool} (q : Q (.bl (decide (i = j))) H) : rEqU K (.bl i) (.bl j) H Q := .inl ⟨rfl, by rw [show decide (V.bl i = V.bl j) = decide (i = j) by simp]; exact q⟩
theorem w_neB {i j : Bool} (q : Q (.bl (!decide (i = j))) H) : rNeU K (.bl i) (.bl j) H Q := .inl ⟨rfl, by rw [show decide (V.bl i = V.bl j) = decide (i = j) by simp]; exact q⟩
theorem w_eqV (h : scal x y = true) (q : Q (.bl (decide (x = y))) H) : rEqU K x y H Q := .inl ⟨h, q⟩
theorem w_neV (h : scal x y = true) (q : Q (.bl (!decide (x = y))) H) : rNeU K x y H Q := .inl ⟨h, q⟩
theorem w_isN (q : Q (.bl (decide (x = .non))) H) : rIsU x .non H Q := .inl ⟨rfl, q⟩
theorem w_isntN (q : Q (.bl (!decide (x = .non))) H) : rIsntU x .non H Q := .inl ⟨rfl, q⟩
theorem w_ixL {j : Int} (h : SqL K H a xs) (ha : atI xs j = some v) (q : Q v H) : rIx K (.ref a) (.int j) H Q := .inl ⟨a, xs, j, v, rfl, rfl, h, ha, q⟩
theorem w_ixT {j : Int} (h : SqT K H a xs) (ha : atI xs j = some v) (q : Q v H) : rIx K (.ref a) (.int j) H Q := .inr (.inl ⟨a, xs, j, v, rfl, rfl, h, ha, q⟩)
theorem w_ixS {j : Int} {z : Str} {c : Nat} (h : z.length ≤ sizeLine) (ha : atI z.cps.toList j = some c) (q : Q (.str ⟨#[c]⟩) H) : rIx K (.str z) (.int j) H Q := .inr (.inr ⟨z, j, c, rfl, rfl, h, ha, q⟩)
theorem w_abs {j : Int} (q : Q (.int (if j < 0 then -j else j)) H) : rAbs [.int j] H Q := ⟨j, rfl, q⟩
theorem w_intI {j : Int} (q : Q (.int j) H) : rIntU [.int j] H Q := .inl (.inl ⟨j, rfl, q⟩)
theorem w_intB {k : Bool} (q : Q (.int (if k then 1 else 0)) H) : rIntU [.bl k] H Q := .inl (.inr ⟨k, rfl, q⟩)
theorem w_intS {s : Str} {j : Int} (h : PySem.intText? s = some j) (hl : s.length ≤ 640) (q : Q (.int j) H) : rIntU [.str s] H Q := .inr ⟨s, j, rfl, h, hl, q⟩
theorem w_min2 {i j : Int} (q : Q (.int (if j < i then j else i)) H) : rMinU K [.int i, .int j] H Q := .inl ⟨i, j, rfl, q⟩
theorem w_max2 {i j : Int} (q : Q (.int (if j > i then j else i)) H) : rMaxU K [.int i, .int j] H Q := .inl ⟨i, j, rfl, q⟩
theorem w_lenL (h : SqL K H a xs) (q : Q (.int (xs.length : Nat)) H) : rLenU K [.ref a] H Q := ⟨_, _, rfl, .inl ⟨xs, h, rfl⟩, q⟩
theorem w_lenT (h : SqT K H a xs) (q : Q (.int (xs.length : Nat)) H) : rLenU K [.ref a] H Q := ⟨_, _, rfl, .inr ⟨xs, h, rfl⟩, q⟩
theorem w_lenS {z : Str} (h : z.length ≤ sizeLine) (q : Q (.int (z.length : Nat)) H) : rLenU K [.str z] H Q := ⟨_, _, rfl, ⟨h, rfl⟩, q⟩
theorem w_setL0 {j : Int} {k : Nat} (n : Now G ((a, .lst xs) :: L) H) (hj : ixN xs.length j = some k) {QH : Hp → Prop} (q : ∀ H', Now G ((a, .lst (xs.set k v)) :: L) H' → QH H') : rSetL (.ref a) (.int j) v H QH :=
  ⟨a, xs, j, k, rfl, rfl, n.get0, hj, q _ n.set0⟩
theorem w_setL1 {j : Int} {k : Nat} {e : Addr × HO} (n : Now G (e :: (a, .lst xs) :: L) H) (hj : ixN xs.length j = some k) {QH : Hp → Prop} (q : ∀ H', Now G (e :: (a, .lst (xs.set k v)) :: L) H' → QH H') : rSetL (.ref a) (.int j) v H QH :=
  ⟨a, xs, j, k, rfl, rfl, n.get1, hj, q _ n.set1⟩
theorem w_divmod {i j : Int} (n : Now G L H) (h0 : 0 < j) (h1 : j < 2 ^ 30) (q : ∀ p H', Now G L H' → H' p = some (.tup [.int (i / j), .int (i % j)]) → Q (.ref p) H') : rDivmod [.int i, .int j] H Q :=
  ⟨i, j, rfl, ⟨h0, PyProof.noPylong_small (by omega)⟩, fun p hp => q p _ (n.new hp) upd_same⟩
theorem sqT (h : H a = some (.tup xs)) : SqT K H a xs := .inl (.inl h)
theorem sqL (h : H a = some (.lst xs)) : SqL K H a xs := .inl (.inl h)
end w

/-! ### loops -/
theorem for_g {G : Hp → Prop} {n : Nat} {Y : Nat → Hp → V → Hp → Prop} {g : TG} {tb : TS} {D : Ends} {σ : L2.St} {H : Hp} (Pv : Nat → L2.St → Hp → Prop) (h0 : Pv 0 σ H) (hG : ∀ i σ H, Pv i σ H → G H)
    (hs : ∀ i x σ H H', i < n → Pv i σ H → Y i H x H' → g x σ H' fun σ2 H2 => tb { D with nx := Pv (i + 1), ct := Pv (i + 1), bk := D.nx } σ2 H2) (hd : ∀ σ H, Pv n σ H → D.nx σ H) :
    ∃ W : Nat → Nat → L2.St → Hp → Prop, (∃ m, W 0 m σ H) ∧ ∀ i m σ H, W i m σ H →
      ((Itg G n Y).stop i H ∧ D.nx σ H) ∨ ((Itg G n Y).go i H ∧ ∃ N : L2.St → Hp → Prop, (∀ σ' H', N σ' H' → ∃ m', m' < m ∧ W (i + 1) m' σ' H') ∧ ∀ x H', (Itg G n Y).yld i H x H' → g x σ H' fun σ2 H2 => tb { D with nx := N, ct := N, bk := D.nx } σ2 H2) := by
  refine ⟨fun i m σ H => m = n - i ∧ i ≤ n ∧ Pv i σ H, ⟨n, by simp, Nat.zero_le _, h0⟩, ?_⟩
  rintro i m σ H ⟨rfl, hi, p⟩
  by_cases hlt : i < n
  · exact .inr ⟨⟨hG i σ H p, hlt⟩, Pv (i + 1), fun σ' H' p' => ⟨n - (i + 1), by omega, rfl, hlt, p'⟩, fun x H' y => hs i x σ H H' hlt p y⟩
  · have e : i = n := by omega
    subst e
    exact .inl ⟨⟨hG i σ H p, Nat.le_refl _⟩, hd σ H p⟩
/-- a comprehension over n turns: Pv says what list stands at D -/
theorem lc_g {G : Hp → Prop} {n : Nat} {Y : Nat → Hp → V → Hp → Prop} {g : TG} {tt : TT} {te : TE} {vs : List Nat} {σ : L2.St} {D : Addr} {H0 : Hp} {Q : VK} (Pv : Nat → Hp → Prop) (h0 : Pv 0 (upd H0 D (.lst []))) (hG : ∀ i H, Pv i H → G H)
    (hs : ∀ i x H H', i < n → Pv i H → Y i H x H' → g x (wipe σ vs) H' fun σ2 H2 => wipe σ2 vs = wipe σ vs ∧ tt σ2 H2 fun b H3 => if b = true then te σ2 H3 fun y H4 => ∃ acc, H4 D = some (.lst acc) ∧ acc.length < sizeLine ∧ Pv (i + 1) (upd H4 D (.lst (acc ++ [y]))) else Pv (i + 1) H3)
    (hd : ∀ H, Pv n H → Q (.ref D) H) :
    ∃ W : Nat → Nat → Hp → Prop, (∃ m, W 0 m (upd H0 D (.lst []))) ∧ ∀ i m H, W i m H →
      ((Itg G n Y).stop i H ∧ Q (.ref D) H) ∨ ((Itg G n Y).go i H ∧ ∃ Nx : Hp → Prop, (∀ H', Nx H' → ∃ m', m' < m ∧ W (i + 1) m' H') ∧ ∀ x H', (Itg G n Y).yld i H x H' → g x (wipe σ vs) H' fun σ2 H2 => wipe σ2 vs = wipe σ vs ∧ tt σ2 H2 fun b H3 =>
        if b = true then te σ2 H3 fun y H4 => ∃ acc, H4 D = some (.lst acc) ∧ acc.length < sizeLine ∧ Nx (upd H4 D (.lst (acc ++ [y]))) else Nx H3) := by
  refine ⟨fun i m H => m = n - i ∧ i ≤ n ∧ Pv i H, ⟨n, by simp, Nat.zero_le _, h0⟩, ?_⟩
  rintro i m H ⟨rfl, hi, p⟩
  by_cases hlt : i < n
  · exact .inr ⟨⟨hG i H p, hlt⟩, Pv (i + 1), fun H' p' => ⟨n - (i + 1), by omega, rfl, hlt, p'⟩, fun x H' y => hs i x H H' hlt p y⟩
  · have e : i = n := by omega
    subst e
    exact .inl ⟨⟨hG i H p, Nat.le_refl _⟩, hd H p⟩
/-- range, as n turns -/
theorem Itr_g (lo : Int) (n : Nat) : Itr lo n = Itg (fun _ => True) n (fun i H x H' => H' = H ∧ x = .int (lo + i)) := by
  unfold Itr Itg
  congr 1
  · funext i H; simp
  · funext i H; simp

/-! ### comprehensions over the ledger -/
theorem Now.weak {G G' H : Hp} {L : List (Addr × HO)} (e : Ex G G') (n : Now G' L H) : Now G L H where
  ex := fun a o h => n.ex a o (e a o h)
  mu := n.mu
  ap := fun p hp => by
    cases h : G p.1 with
    | none => rfl
    | some u => rw [← e _ _ h]; exact n.ap p hp
  nd := n.nd
def lcK (J : It) (g : TG) (tt : TT) (te : TE) (vs : List Nat) (σ : L2.St) (Q : VK) (H : Hp) : Prop := ∀ D, H D = none → ∃ W : Nat → Nat → Hp → Prop, (∃ m, W 0 m (upd H D (.lst []))) ∧ ∀ i m H, W i m H →
  (J.stop i H ∧ Q (.ref D) H) ∨ (J.go i H ∧ ∃ Nx : Hp → Prop, (∀ H', Nx H' → ∃ m', m' < m ∧ W (i + 1) m' H') ∧ ∀ x H', J.yld i H x H' → g x (wipe σ vs) H' fun σ2 H2 => wipe σ2 vs = wipe σ vs ∧ tt σ2 H2 fun b H3 =>
    if b = true then te σ2 H3 fun y H4 => ∃ acc, H4 D = some (.lst acc) ∧ acc.length < sizeLine ∧ Nx (upd H4 D (.lst (acc ++ [y]))) else Nx H3)
def forK (J : It) (g : TG) (tb : TS) (D : Ends) (σ : L2.St) (H : Hp) : Prop := ∃ W : Nat → Nat → L2.St → Hp → Prop, (∃ m, W 0 m σ H) ∧ ∀ i m σ H, W i m σ H →
  (J.stop i H ∧ D.nx σ H) ∨ (J.go i H ∧ ∃ N : L2.St → Hp → Prop, (∀ σ' H', N σ' H' → ∃ m', m' < m ∧ W (i + 1) m' σ' H') ∧ ∀ x H', J.yld i H x H' → g x σ H' fun σ2 H2 => tb { D with nx := N, ct := N, bk := D.nx } σ2 H2)
theorem for_k {G : Hp → Prop} {n : Nat} {Y : Nat → Hp → V → Hp → Prop} {g : TG} {tb : TS} {D : Ends} {σ : L2.St} {H : Hp} (Pv : Nat → L2.St → Hp → Prop) (h0 : Pv 0 σ H) (hG : ∀ i σ H, Pv i σ H → G H)
    (hs : ∀ i x σ H H', i < n → Pv i σ H → Y i H x H' → g x σ H' fun σ2 H2 => tb { D with nx := Pv (i + 1), ct := Pv (i + 1), bk := D.nx } σ2 H2) (hd : ∀ σ H, Pv n σ H → D.nx σ H) : forK (Itg G n Y) g tb D σ H := for_g Pv h0 hG hs hd
abbrev LP := Nat → List V → Hp → List (Addr × HO) → Prop
def LcP (P : LP) (D : Addr) (i : Nat) (H : Hp) : Prop := ∃ acc G L, P i acc G L ∧ Now G ((D, .lst acc) :: L) H
theorem LcP.add {P : LP} {D : Addr} {i : Nat} {acc : List V} {y : V} {G H : Hp} {L : List (Addr × HO)} (n : Now G ((D, .lst acc) :: L) H) (hl : acc.length < 100000) (p : P (i + 1) (acc ++ [y]) G L) :
    ∃ acc, H D = some (.lst acc) ∧ acc.length < sizeLine ∧ LcP P D (i + 1) (upd H D (.lst (acc ++ [y]))) := ⟨acc, n.get0, Nat.lt_of_lt_of_le hl (by decide), acc ++ [y], G, L, p, n.set0⟩
theorem lc_now {Gp : Hp → Prop} {m : Nat} {Y : Nat → Hp → V → Hp → Prop} {g : TG} {tt : TT} {te : TE} {vs : List Nat} {σ : L2.St} {G H : Hp} {L : List (Addr × HO)} {Q : VK} (n : Now G L H) (P : LP) (p0 : P 0 [] G L)
    (hG : ∀ i acc G L H, P i acc G L → Now G L H → Gp H)
    (hs : ∀ D i x H H' acc G L, i < m → P i acc G L → Now G ((D, .lst acc) :: L) H → Y i H x H' → g x (wipe σ vs) H' fun σ2 H2 => wipe σ2 vs = wipe σ vs ∧ tt σ2 H2 fun b H3 => if b = true then te σ2 H3 fun y H4 => ∃ acc, H4 D = some (.lst acc) ∧ acc.length < sizeLine ∧ LcP P D (i + 1) (upd H4 D (.lst (acc ++ [y]))) else LcP P D (i + 1) H3)
    (hd : ∀ D H acc G L, P m acc G L → Now G ((D, .lst acc) :: L) H → Q (.ref D) H) :
    lcK (Itg Gp m Y) g tt te vs σ Q H := fun D hD =>
  lc_g (LcP P D) ⟨[], G, L, p0, n.newL hD⟩ (fun i H ⟨acc, G, L, p, n⟩ => hG i acc G L H p n.drop) (fun i x H H' hi ⟨acc, G, L, p, n⟩ y => hs D i x H H' acc G L hi p n y) (fun H ⟨acc, G, L, p, n⟩ => hd D H acc G L p n)
section w2
variable {K : PySem.W.Frag} {σ : L2.St} {G H : Hp} {L : List (Addr × HO)} {Q : VK} {v x y : V} {i : Nat} {xs : List V}
theorem w_lc {wi : TI} {g : TG} {tt : TT} {te : TE} {vs : List Nat} (h : wi σ H fun J H1 => lcK J g tt te vs σ Q H1) : tLc wi g tt te vs σ H Q := h
def rngK (R : It → Hp → Prop) (vs : List V) (H : Hp) : Prop := ∃ j : Int, vs = [.int j] ∧ -(2 ^ 62) ≤ j ∧ j < 2 ^ 62 ∧ R (Itr 0 j.toNat) H
theorem w_rng1 {tt : TA} {R : It → Hp → Prop} (h : tt σ H (rngK R)) : iRng1 tt σ H R := h
theorem w_rngI {R : It → Hp → Prop} {j : Int} (h1 : -(2 ^ 62) ≤ j) (h2 : j < 2 ^ 62) (q : R (Itg (fun _ => True) j.toNat (fun i H x H' => H' = H ∧ x = .int (0 + (i : Nat)))) H) : rngK R [.int j] H :=
  ⟨j, rfl, h1, h2, by rw [Itr_g]; exact q⟩
def rngK2 (R : It → Hp → Prop) (vs : List V) (H : Hp) : Prop := ∃ i j : Int, vs = [.int i, .int j] ∧ (-(2 ^ 62) ≤ i ∧ i < 2 ^ 62 ∧ -(2 ^ 62) ≤ j ∧ j < 2 ^ 62) ∧ R (Itr i (j - i).toNat) H
theorem w_rng2 {tt : TA} {R : It → Hp → Prop} (h : tt σ H (rngK2 R)) : iRng2 tt σ H R := h
theorem w_rngI2 {R : It → Hp → Prop} {i j : Int} (h1 : -(2 ^ 62) ≤ i ∧ i < 2 ^ 62 ∧ -(2 ^ 62) ≤ j ∧ j < 2 ^ 62) (q : R (Itg (fun _ => True) (j - i).toNat (fun k H x H' => H' = H ∧ x = .int (i + (k : Nat)))) H) : rngK2 R [.int i, .int j] H :=
  ⟨i, j, rfl, h1, by rw [Itr_g]; exact q⟩
def enumK (K : PySem.W.Frag) (R : It → Hp → Prop) (vs : List V) (H : Hp) : Prop := ∃ (k : Sk) (xs : List V), vs = [k.v] ∧ k.has K H xs ∧ R (ItE K k xs) H
theorem w_enum {tt : TA} {R : It → Hp → Prop} (h : tt σ H (enumK K R)) : iEnumS K tt σ H R := h
theorem w_enumI {R : It → Hp → Prop} (k : Sk) (xs : List V) (h : k.has K H xs) (q : R (ItE K k xs) H) : enumK K R [k.v] H := ⟨k, xs, rfl, h, q⟩
def seqK (K : PySem.W.Frag) (R : It → Hp → Prop) (x : V) (H : Hp) : Prop := rSeqIt K x H R
theorem w_seqIt {te : TE} {R : It → Hp → Prop} (h : te σ H (seqK K R)) : iSeq K te σ H R := h
theorem w_seqI {R : It → Hp → Prop} (k : Sk) (xs : List V) (h : k.has K H xs) (q : R (ItQ K k xs) H) : seqK K R k.v H := ⟨k, xs, rfl, h, q⟩
def zipK (K : PySem.W.Frag) (R : It → Hp → Prop) (vs zs : List V) (H : Hp) : Prop := ∃ (k1 k2 : Sk) (xs ys : List V), vs = [k1.v, k2.v] ∧ zs = [.bl true] ∧ k1.has K H xs ∧ k2.has K H ys ∧ xs.length = ys.length ∧ R (ItZ K k1 k2 xs ys) H
theorem w_zip {ta tk : TA} {R : It → Hp → Prop} (h : ta σ H fun vs H1 => tk σ H1 fun zs H2 => zipK K R vs zs H2) : iZipS K ta tk σ H R := h
theorem w_zipI {R : It → Hp → Prop} (k1 k2 : Sk) (xs ys : List V) (h1 : k1.has K H xs) (h2 : k2.has K H ys) (hl : xs.length = ys.length) (q : R (ItZ K k1 k2 xs ys) H) : zipK K R [k1.v, k2.v] [.bl true] H := ⟨k1, k2, xs, ys, rfl, rfl, h1, h2, hl, q⟩
def ezipK (K : PySem.W.Frag) (R : It → Hp → Prop) (vs zs : List V) (H : Hp) : Prop := ∃ (k1 k2 : Sk) (xs ys : List V), vs = [k1.v, k2.v] ∧ zs = [.bl true] ∧ k1.has K H xs ∧ k2.has K H ys ∧ xs.length = ys.length ∧ R (ItEZ K k1 k2 xs ys) H
theorem w_ezip {ta tk : TA} {R : It → Hp → Prop} (h : ta σ H fun vs H1 => tk σ H1 fun zs H2 => ezipK K R vs zs H2) : iEnumZipS K ta tk σ H R := h
theorem w_ezipI {R : It → Hp → Prop} (k1 k2 : Sk) (xs ys : List V) (h1 : k1.has K H xs) (h2 : k2.has K H ys) (hl : xs.length = ys.length) (q : R (ItEZ K k1 k2 xs ys) H) : ezipK K R [k1.v, k2.v] [.bl true] H := ⟨k1, k2, xs, ys, rfl, rfl, h1, h2, hl, q⟩
theorem w_lstG (n : Now G L H) (hz : xs.length ≤ 100000) (q : ∀ p G' H', Ex G G' → G' p = some (.lst xs) → Now G' L H' → Q (.ref p) H') : lstK Q xs H :=
  ⟨Nat.le_trans hz (by decide), fun p hp => q p _ _ (n.exn hp) upd_same (n.newG hp)⟩
theorem w_tupG (n : Now G L H) (hz : xs.length ≤ 100000) (q : ∀ p G' H', Ex G G' → G' p = some (.tup xs) → Now G' L H' → Q (.ref p) H') : tupK Q xs H :=
  ⟨Nat.le_trans hz (by decide), fun p hp => q p _ _ (n.exn hp) upd_same (n.newG hp)⟩
theorem w_for {wi : TI} {g : TG} {tb : TS} {D : Ends} (h : wi σ H fun J H1 => forK J g tb D σ H1) : tFor wi g tb D σ H := h
end w2
end MA
/-! MD: texts by their signs. -/
namespace MA
open PySem PySem.Spec PyProof.Rows L2 SX
section t
variable {K : PySem.W.Frag} {σ : L2.St} {G H : Hp} {L : List (Addr × HO)} {Q : VK} {a p : Addr}
abbrev sg (c : Nat) : V := .str (S [c])
theorem signs_S (l : List Nat) : signs (S l) = l.map sg := rfl
theorem sz {n : Nat} (h : n ≤ 100000) : n ≤ sizeLine := Nat.le_trans h (by decide)
theorem w_addT {l m : List Nat} (h : l.length + m.length ≤ 100000) (q : Q (.str (S (l ++ m))) H) : rAddU K (.str (S l)) (.str (S m)) H Q :=
  w_addS (by rw [S_len, S_len]; exact sz h) (by rw [S_cat]; exact q)
theorem sIx_take (n : Nat) (k : Int) (h : 0 ≤ k) : HT.sIx n n (some k) = min k.toNat n := by
  obtain ⟨j, rfl⟩ : ∃ j : Nat, k = j := ⟨k.toNat, by omega⟩
  exact HT.sIx_nat n n j
theorem sIx_drop (n : Nat) (k : Int) (h : 0 ≤ k) : HT.sIx n 0 (some k) = min k.toNat n := by
  obtain ⟨j, rfl⟩ : ∃ j : Nat, k = j := ⟨k.toNat, by omega⟩
  exact HT.sIx_nat n 0 j
theorem cut_take (l : List Nat) {k : Int} (h : 0 ≤ k) : cutS (S l) none (some k) = S (l.take k.toNat) := by
  unfold cutS
  rw [S_len, sIx_take _ _ h]
  show (⟨((l.drop 0).take (min k.toNat l.length - 0)).toArray⟩ : Str) = _
  rw [List.drop_zero, Nat.sub_zero]
  congr 2
  rw [List.take_eq_take_iff]
  omega
theorem cut_drop (l : List Nat) {k : Int} (h : 0 ≤ k) : cutS (S l) (some k) none = S (l.drop k.toNat) := by
  unfold cutS
  rw [S_len, sIx_drop _ _ h]
  show (⟨((l.drop (min k.toNat l.length)).take (l.length - min k.toNat l.length)).toArray⟩ : Str) = _
  congr 2
  by_cases hk : k.toNat ≤ l.length
  · rw [Nat.min_eq_left hk]
    apply List.take_of_length_le
    rw [List.length_drop]
    omega
  · rw [Nat.min_eq_right (by omega), List.drop_length, List.take_nil, List.drop_of_length_le (by omega)]
theorem w_slTake {l : List Nat} {k : Int} (hl : l.length ≤ 100000) (h : 0 ≤ k) (q : Q (.str (S (l.take k.toNat))) H) : rSlU K (.str (S l)) none (some k) H Q :=
  .inl ⟨S l, rfl, by rw [S_len]; exact sz hl, by rw [cut_take l h]; exact q⟩
theorem w_slDrop {l : List Nat} {k : Int} (hl : l.length ≤ 100000) (h : 0 ≤ k) (q : Q (.str (S (l.drop k.toNat))) H) : rSlU K (.str (S l)) (some k) none H Q :=
  .inl ⟨S l, rfl, by rw [S_len]; exact sz hl, by rw [cut_drop l h]; exact q⟩
theorem w_lenT' {l : List Nat} (h : l.length ≤ 100000) (q : Q (.int (l.length : Nat)) H) : rLenU K [.str (S l)] H Q := w_lenS (by rw [S_len]; exact sz h) (by rw [S_len]; exact q)
theorem w_ixSg {l : List Nat} {j : Int} {c : Nat} (h : l.length ≤ 100000) (ha : atI l j = some c) (q : Q (sg c) H) : rIx K (.str (S l)) (.int j) H Q := w_ixS (by rw [S_len]; exact sz h) ha q
theorem eqT (l m : List Nat) : decide (S l = S m) = decide (l = m) := by
  by_cases h : l = m
  · subst h; simp
  · rw [decide_eq_false h, decide_eq_false fun e => h (S_inj e)]
theorem w_eqT {l m : List Nat} (q : Q (.bl (decide (l = m))) H) : rEqU K (.str (S l)) (.str (S m)) H Q := w_eqS (by rw [eqT]; exact q)
theorem w_neT {l m : List Nat} (q : Q (.bl (!decide (l = m))) H) : rNeU K (.str (S l)) (.str (S m)) H Q := w_neS (by rw [eqT]; exact q)
theorem eqSg (c d : Nat) : decide (([c] : List Nat) = [d]) = decide (c = d) := by simp
/-- ''.join of signs -/
theorem join_nil : ∀ ls : List (List Nat), Txt.join (S []) (ls.map S) = S ls.flatten := by
  intro ls
  rw [TL.join_eq]
  apply TL.ext_tl
  rw [TL.tl_join, List.map_map]
  have e : (TL.tl ∘ S) = id := by funext l; rfl
  rw [e, List.map_id]
  show TL.joinL [] ls = ls.flatten
  induction ls with
  | nil => rfl
  | cons p r ih =>
    cases r with
    | nil => show p = [p].flatten; simp
    | cons q r => show p ++ ([] ++ TL.joinL [] (q :: r)) = _; rw [ih]; simp
theorem sum_len (l : List Nat) : ((l.map fun c => S [c]).map (·.length)).sum = l.length := by
  induction l with
  | nil => rfl
  | cons c l ih => simp only [List.map_cons, List.sum_cons, ih, List.length_cons, S_len]; simp; omega
theorem flat1 (l : List Nat) : (l.map fun c => [c]).flatten = l := by
  induction l with
  | nil => rfl
  | cons c l ih => rw [List.map_cons, List.flatten_cons, ih]; rfl
theorem w_joinSg {l : List Nat} (h : SqL K H p (l.map sg)) (hl : l.length ≤ 100000) (q : Q (.str (S l)) H) : rJoin K (.str (S [])) [.ref p] H Q := by
  refine ⟨S [], p, l.map fun c => S [c], rfl, rfl, .inl ?_, ?_, ?_⟩
  · rw [List.map_map]; exact h
  · rw [sum_len, List.length_map, S_len]
    show l.length + l.length * 0 ≤ _
    omega
  · have e := join_nil (l.map fun c => [c])
    rw [List.map_map] at e
    have e2 : (S ∘ fun c => [c]) = fun c : Nat => S [c] := rfl
    rw [e2] at e
    rw [e]
    rw [flat1]
    exact q
theorem tyV_str {s : Str} : tyV K "str" (.str s) H := rfl
theorem w_tys {s : Str} {B : Prop} (q : B) : tyV K "str" (.str s) H ∧ B := ⟨rfl, q⟩
theorem w_tyl {xs : List V} {B : Prop} (h : H a = some (.lst xs)) (q : B) : tyV K "list" (.ref a) H ∧ B := ⟨.inl ⟨rfl, _, .inl (.inl h)⟩, q⟩
theorem w_append0 {xs : List V} {v : V} (n : Now G ((a, .lst xs) :: L) H) (h : xs.length < 100000) (q : ∀ H', Now G ((a, .lst (xs ++ [v])) :: L) H' → Q .non H') : rAppend (.ref a) [v] H Q :=
  ⟨a, xs, v, rfl, rfl, n.get0, Nat.lt_of_lt_of_le h (by decide), q _ n.set0⟩
theorem w_append1 {e : Addr × HO} {xs : List V} {v : V} (n : Now G (e :: (a, .lst xs) :: L) H) (h : xs.length < 100000) (q : ∀ H', Now G (e :: (a, .lst (xs ++ [v])) :: L) H' → Q .non H') : rAppend (.ref a) [v] H Q :=
  ⟨a, xs, v, rfl, rfl, n.get1, Nat.lt_of_lt_of_le h (by decide), q _ n.set1⟩
/-- list(text) -/
theorem w_listS {l : List Nat} (n : Now G L H) (hl : l.length ≤ 100000) (q : ∀ p H', Now G ((p, .lst (l.map sg)) :: L) H' → H p = none → Q (.ref p) H') : rListU K [.str (S l)] H Q :=
  .inr ⟨S l, rfl, by rw [S_len]; exact sz hl, fun p hp => q p _ (n.newL hp) hp⟩
/-- in a pair of texts made here -/
theorem w_in2 {x u v : List Nat} (n : Now G L H) {p : Addr} (hp : H p = some (.tup [.str (S u), .str (S v)])) (q : Q (.bl (decide (u = x) || decide (v = x))) H) : rInU K (.str (S x)) (.ref p) H Q := by
  refine .inl ⟨p, _, rfl, .inr (sqT hp), rfl, rfl, ?_⟩
  have e : inV (.str (S x)) [.str (S u), .str (S v)] = (decide (u = x) || decide (v = x)) := by
    show ((S u == S x) || ((S v == S x) || false)) = _
    rw [Bool.or_false, S_beq_eq, S_beq_eq]
  show Q (.bl (if false = true then _ else _)) H
  rw [if_neg Bool.false_ne_true, e]
  exact q
theorem w_inSg {c : Nat} {l : List Nat} (q : Q (.bl (decide (c ∈ l))) H) : rInU K (.str (S [c])) (.str (S l)) H Q := .inr ⟨c, S l, rfl, rfl, q⟩
end t
end MA
/-! ME: data at any depth; the kinds of things. -/
namespace MA
open PySem PySem.Spec PyProof.Rows L2 SX
theorem rd_ex {G H : Hp} {a : Addr} {u : HO} (e : Ex G H) (h : Rd G a u) : Rd H a u := by
  rcases h with h | ⟨o, h⟩
  · exact .inl (e _ _ h)
  · exact .inr ⟨o, e _ _ h⟩
theorem sq_ex {K : PySem.W.Frag} {G H : Hp} {a : Addr} {xs : List V} (e : Ex G H) (h : SqL K G a xs) : SqL K H a xs := h.imp (rd_ex e) id
theorem st_ex {K : PySem.W.Frag} {G H : Hp} {a : Addr} {xs : List V} (e : Ex G H) (h : SqT K G a xs) : SqT K H a xs := h.imp (rd_ex e) id
theorem Now.Ex {G H : Hp} {L : List (Addr × HO)} (n : Now G L H) : Ex G H := n.ex
mutual
theorem dp_ex {K : PySem.W.Frag} {G H : Hp} (e : Ex G H) : ∀ (d : PyData) (v : V), Dp K G v d → Dp K H v d
  | .none, _, .non => .non
  | .bool b, _, .bl _ => .bl b
  | .int i, _, .int _ => .int i
  | .str x, _, .str _ => .str x
  | .list ds, _, .lst h hs => .lst (sq_ex e h) (dps_ex e ds _ hs)
  | .tuple ds, _, .tup h hs => .tup (st_ex e h) (dps_ex e ds _ hs)
theorem dps_ex {K : PySem.W.Frag} {G H : Hp} (e : Ex G H) : ∀ (ds : List PyData) (vs : List V), DpAll K G vs ds → DpAll K H vs ds
  | [], _, .nil => .nil
  | d :: ds, _, .cons h hs => .cons (dp_ex e d _ h) (dps_ex e ds _ hs)
end
theorem _root_.L2.Dp.ex {K : PySem.W.Frag} {G H : Hp} {v : V} {d : PyData} (h : Dp K G v d) (e : Ex G H) : Dp K H v d := dp_ex e d v h
theorem _root_.L2.DpAll.ex {K : PySem.W.Frag} {G H : Hp} {v : List V} {d : List PyData} (h : DpAll K G v d) (e : Ex G H) : DpAll K H v d := dps_ex e d v h
theorem _root_.L2.DpAll.len {K : PySem.W.Frag} {G : Hp} : ∀ {vs : List V} {ds : List PyData}, DpAll K G vs ds → vs.length = ds.length
  | _, _, .nil => rfl
  | _, _, .cons _ h => congrArg Nat.succ h.len
theorem _root_.L2.DpAll.get {K : PySem.W.Frag} {G : Hp} : ∀ {vs : List V} {ds : List PyData} {i : Nat} {x : V}, DpAll K G vs ds → vs[i]? = some x → ∃ d, ds[i]? = some d ∧ Dp K G x d
  | _, _, i, _, .nil, h => by simp at h
  | _, _, 0, _, .cons h _, e => by simp at e; subst e; exact ⟨_, rfl, h⟩
  | _, _, i + 1, _, .cons _ h, e => by
    obtain ⟨d, q1, q2⟩ := h.get (i := i) (by simpa using e)
    exact ⟨d, by simpa using q1, q2⟩
theorem dps_map {K : PySem.W.Frag} {G : Hp} {α : Type} {f : α → V} {g : α → PyData} (h : ∀ a, Dp K G (f a) (g a)) : ∀ l : List α, DpAll K G (l.map f) (l.map g)
  | [] => .nil
  | a :: l => .cons (h a) (dps_map h l)
/-- data of at most a depth, lists not too long -/
inductive Dn : Nat → PyData → Prop
  | non (n : Nat) : Dn n .none
  | bl (n : Nat) (b : Bool) : Dn n (.bool b)
  | int (n : Nat) (i : Int) : Dn n (.int i)
  | str (n : Nat) (x : Str) : Dn n (.str x)
  | lst {n : Nat} {ds : List PyData} (h : ∀ d ∈ ds, Dn n d) (hl : ds.length < 100000) : Dn (n + 1) (.list ds)
  | tup {n : Nat} {ds : List PyData} (h : ∀ d ∈ ds, Dn n d) (hl : ds.length < 100000) : Dn (n + 1) (.tuple ds)
/-! ### kinds -/
def tys : List String := ["NoneType", "bool", "int", "str", "list", "tuple"]
def isa (t c : String) : Bool := t == c || (t == "bool" && c == "int")
theorem kb_all : ∀ t ∈ tys, ∀ c ∈ tys, kitB t c = some (isa t c) := by decide +kernel
def tyN : PyData → String
  | .none => "NoneType" | .bool _ => "bool" | .int _ => "int" | .str _ => "str" | .list _ => "list" | .tuple _ => "tuple" | .dict _ => "dict"
section
variable {K : PySem.W.Frag} {H : Hp} {Q : VK} {x : V} {d : PyData} {a p : Addr} {xs : List V}
theorem tyX_lst (h : SqL K H a xs) : TyX K H (.ref a) (.type "list") := by
  rcases h with (h | ⟨o, h⟩) | ⟨o, its, n, h, c, _⟩
  · exact .base (.lst h)
  · exact .base (.frz h)
  · exact .kList h c
theorem tyX_tup (h : SqT K H a xs) : TyX K H (.ref a) (.type "tuple") := by
  rcases h with (h | ⟨o, h⟩) | ⟨o, its, n, h, c, _⟩
  · exact .base (.tup h)
  · exact .fTuple h
  · exact .kTuple h c
theorem tyX_dp (h : Dp K H x d) : TyX K H x (.type (tyN d)) := by
  cases h with
  | non => exact .base .non
  | bl b => exact .base (.bl b)
  | int i => exact .base (.int i)
  | str z => exact .base (.str z)
  | lst h _ => exact tyX_lst h
  | tup h _ => exact tyX_tup h
theorem tyN_mem (h : Dp K H x d) : tyN d ∈ tys := by
  cases h <;> simp [tyN, tys]
theorem w_isi {c : String} (h : Dp K H x d) (hc : c ∈ tys) (q : Q (.bl (isa (tyN d) c)) H) : rIsiU K [x, .ty c] H Q :=
  .inl ⟨x, .ty c, _, .type c, _, rfl, .ty c, tyX_dp h, kit_ty (kb_all _ (tyN_mem h) c hc), q⟩
theorem w_isi2 {c1 c2 : String} (h : Dp K H x d) (h1 : c1 ∈ tys) (h2 : c2 ∈ tys) (hp : H p = some (.tup [.ty c1, .ty c2])) (q : Q (.bl (isa (tyN d) c1 || isa (tyN d) c2)) H) : rIsiU K [x, .ref p] H Q := by
  refine .inr ⟨x, p, _, _, [.type c1, .type c2], _, rfl, hp, .cons (.ty c1) (.cons (.ty c2) .nil), tyX_dp h, ?_, q⟩
  refine kitAny_cons (kit_ty (kb_all _ (tyN_mem h) c1 h1)) (fun e => ?_) (fun e => by rw [e]; rfl)
  refine kitAny_cons (kit_ty (kb_all _ (tyN_mem h) c2 h2)) (fun e2 => ?_) (fun e2 => by rw [e2, Bool.or_true])
  rw [e, e2]
  exact kitAny_nil
end
end MA
/-! MF: == of data, in, += -/
namespace MA
open PySem PySem.Spec PyProof.Rows L2 SX
/-- data with no truths (or with truths and no numbers), texts of true signs, at most a depth -/
inductive Pn (k : Bool) : Nat → PyData → Prop
  | non (n : Nat) : Pn k n .none
  | bl (n : Nat) (b : Bool) (h : k = true) : Pn k n (.bool b)
  | int (n : Nat) (i : Int) (h : k = false) : Pn k n (.int i)
  | str (n : Nat) (x : Str) (h : x.cps.all (· < 0x110000) = true) : Pn k n (.str x)
  | lst {n : Nat} {ds : List PyData} (h : ∀ d ∈ ds, Pn k n d) : Pn k (n + 1) (.list ds)
  | tup {n : Nat} {ds : List PyData} (h : ∀ d ∈ ds, Pn k n d) : Pn k (n + 1) (.tuple ds)
theorem eqv_all {p : PyData → Prop} (hp : ∀ d e, p d → p e → (PyData.eqv d e = true ↔ d = e)) : ∀ (ds es : List PyData), (∀ d ∈ ds, p d) → (∀ e ∈ es, p e) → (PyData.eqvAll ds es = true ↔ ds = es)
  | [], [], _, _ => by simp [PyData.eqvAll]
  | [], _ :: _, _, _ => by simp [PyData.eqvAll]
  | _ :: _, [], _, _ => by simp [PyData.eqvAll]
  | d :: ds, e :: es, h1, h2 => by
    rw [PyData.eqvAll, Bool.and_eq_true, hp d e (h1 _ (List.mem_cons_self ..)) (h2 _ (List.mem_cons_self ..)), eqv_all hp ds es (fun x hx => h1 x (List.mem_cons_of_mem _ hx)) (fun x hx => h2 x (List.mem_cons_of_mem _ hx)), List.cons.injEq]
theorem str_beq (x y : Str) : (x == y) = true ↔ x = y := by
  have e : x = S x.cps.toList := by cases x; simp [S]
  have e2 : y = S y.cps.toList := by cases y; simp [S]
  rw [e, e2, S_beq_eq, decide_eq_true_eq]
  exact ⟨fun h => by rw [h], fun h => S_inj h⟩
theorem eqv_iff {k : Bool} (n : Nat) : ∀ (d e : PyData), Pn k n d → Pn k n e → (PyData.eqv d e = true ↔ d = e) := by
  induction n with
  | zero =>
    intro d e hd he
    cases hd <;> cases he <;> simp_all [PyData.eqv, str_beq]
  | succ n ih =>
    intro d e hd he
    cases hd with
    | lst h1 =>
      cases he with
      | lst h2 => rw [PyData.eqv, PyData.list.injEq]; exact eqv_all ih _ _ h1 h2
      | _ => simp [PyData.eqv]
    | tup h1 =>
      cases he with
      | tup h2 => rw [PyData.eqv, PyData.tuple.injEq]; exact eqv_all ih _ _ h1 h2
      | _ => simp [PyData.eqv]
    | _ => cases he <;> simp_all [PyData.eqv, str_beq]
theorem lay_all : ∀ ds : List PyData, (∀ d ∈ ds, d.canLay0 = true) → PyData.canLayAll0 ds = true
  | [], _ => by simp [PyData.canLayAll0]
  | d :: ds, h => by rw [PyData.canLayAll0, h d (List.mem_cons_self ..), lay_all ds fun x hx => h x (List.mem_cons_of_mem _ hx)]; rfl
theorem dep_all {n : Nat} : ∀ ds : List PyData, (∀ d ∈ ds, d.depth ≤ n) → PyData.depthAll ds ≤ n
  | [], _ => by simp [PyData.depthAll]
  | d :: ds, h => by
    rw [PyData.depthAll]
    have h1 := h d (List.mem_cons_self ..)
    have h2 := dep_all ds fun x hx => h x (List.mem_cons_of_mem _ hx)
    omega
theorem Pn.lay {k : Bool} {n : Nat} {d : PyData} (h : Pn k n d) : d.canLay0 = true := by
  induction h with
  | str n x h => rw [PyData.canLay0]; exact h
  | lst h ih => rw [PyData.canLay0]; exact lay_all _ ih
  | tup h ih => rw [PyData.canLay0]; exact lay_all _ ih
  | _ => simp [PyData.canLay0]
theorem Pn.dep {k : Bool} {n : Nat} {d : PyData} (h : Pn k n d) : d.depth ≤ n := by
  induction h with
  | lst h ih => rw [PyData.depth]; have := dep_all _ ih; omega
  | tup h ih => rw [PyData.depth]; have := dep_all _ ih; omega
  | _ => simp [PyData.depth]
theorem Pn.shaped {k : Bool} {n : Nat} {d : PyData} (h : Pn k n d) (hn : n ≤ 64) : SeqAt.shaped d = true := by
  show (d.canLay0 && decide (d.depth ≤ 64)) = true
  rw [h.lay, Bool.true_and]
  exact decide_eq_true (Nat.le_trans h.dep hn)
theorem fr_yes {p : Nat → Bool} {i : Nat} (h : p i = true) : (List.range (i + 1)).filter p = (List.range i).filter p ++ [i] := by
  rw [List.range_succ, List.filter_append, List.filter_cons, if_pos h]; rfl
theorem fr_no {p : Nat → Bool} {i : Nat} (h : p i = false) : (List.range (i + 1)).filter p = (List.range i).filter p := by
  rw [List.range_succ, List.filter_append, List.filter_cons, h]; simp
theorem fr_len {p : Nat → Bool} {i : Nat} : ((List.range i).filter p).length ≤ i := by
  have := List.length_filter_le p (List.range i)
  rw [List.length_range] at this
  exact this
theorem at_get {l : List Nat} {p : Nat} {c : Nat} (h : l[p]? = some c) : atI l (p : Int) = some c := atI_nat h
theorem take_snoc {α : Type} {xs : List α} {i : Nat} {a : α} (h : xs[i]? = some a) : xs.take (i + 1) = xs.take i ++ [a] := by
  rw [List.take_succ, h]; rfl
theorem w_seqH {ts tu : TS} {D : Ends} {σ : L2.St} {H : Hp} (N : L2.St → Hp → Prop) (h2 : ∀ σ' H', N σ' H' → tu D σ' H') (h1 : ∀ R : L2.St → Hp → Prop, (∀ σ' H', N σ' H' → R σ' H') → ts { D with nx := R } σ H) : tSeq ts tu D σ H := h1 _ h2
abbrev nums (l : List Nat) : List V := l.map fun k => V.int (k : Nat)
abbrev numD (l : List Nat) : PyData := .list (l.map fun k => PyData.int (k : Nat))
section
variable {K : PySem.W.Frag} {σ : L2.St} {G H : Hp} {L : List (Addr × HO)} {Q : VK} {x y : V} {d e : PyData} {a b p : Addr}
theorem w_eqD {k : Bool} {n : Nat} (t : Bool) (hx : Dp K H x d) (hy : Dp K H y e) (pd : Pn k n d) (pe : Pn k n e) (hn : n ≤ 64) (ht : t = true ↔ d = e) (q : Q (.bl t) H) : rEqU K x y H Q := by
  refine .inr ⟨d, e, hx, hy, pd.shaped hn, pe.shaped hn, ?_⟩
  have : PyData.eqv d e = t := by rw [Bool.eq_iff_iff, ht]; exact eqv_iff n d e pd pe
  rw [this]; exact q
theorem w_neD {k : Bool} {n : Nat} (t : Bool) (hx : Dp K H x d) (hy : Dp K H y e) (pd : Pn k n d) (pe : Pn k n e) (hn : n ≤ 64) (ht : t = true ↔ d = e) (q : Q (.bl (!t)) H) : rNeU K x y H Q := by
  refine .inr ⟨d, e, hx, hy, pd.shaped hn, pe.shaped hn, ?_⟩
  have : PyData.eqv d e = t := by rw [Bool.eq_iff_iff, ht]; exact eqv_iff n d e pd pe
  rw [this]; exact q
theorem dp_nums {l : List Nat} (h : SqL K H a (nums l)) : Dp K H (.ref a) (numD l) := .lst h (dps_map (fun _ => .int _) l)
theorem pn_nums (l : List Nat) : Pn false 1 (numD l) := .lst fun d hd => by
  obtain ⟨k, _, rfl⟩ := List.mem_map.mp hd
  exact .int _ _ rfl
theorem numD_inj {l m : List Nat} : numD l = numD m ↔ l = m := by
  constructor
  · intro h
    have := PyData.list.inj h
    exact List.map_inj_right (fun x y h => by have := PyData.int.inj h; omega) |>.mp this
  · rintro rfl; rfl
theorem w_eqNums {l m : List Nat} (h1 : SqL K H a (nums l)) (h2 : SqL K H b (nums m)) (q : Q (.bl (decide (l = m))) H) : rEqU K (.ref a) (.ref b) H Q :=
  w_eqD _ (dp_nums h1) (dp_nums h2) (pn_nums l) (pn_nums m) (by decide) (by rw [decide_eq_true_eq, numD_inj]) q
theorem w_neNums {l m : List Nat} (h1 : SqL K H a (nums l)) (h2 : SqL K H b (nums m)) (q : Q (.bl (!decide (l = m))) H) : rNeU K (.ref a) (.ref b) H Q :=
  w_neD _ (dp_nums h1) (dp_nums h2) (pn_nums l) (pn_nums m) (by decide) (by rw [decide_eq_true_eq, numD_inj]) q
theorem flat_nums (l : List Nat) : (nums l).all flatV = true := by
  rw [List.all_eq_true]
  intro x hx
  obtain ⟨k, _, rfl⟩ := List.mem_map.mp hx
  rfl
theorem inV_nums (n : Nat) (l : List Nat) : inV (.int (n : Nat)) (nums l) = decide (n ∈ l) := by
  unfold inV
  rw [Bool.eq_iff_iff, List.any_eq_true, decide_eq_true_eq]
  constructor
  · rintro ⟨x, hx, e⟩
    obtain ⟨k, hk, rfl⟩ := List.mem_map.mp hx
    have : ((k : Int) == (n : Int)) = true := e
    rw [beq_iff_eq] at this
    have : k = n := by omega
    exact this ▸ hk
  · intro h
    exact ⟨.int (n : Nat), List.mem_map.mpr ⟨n, h, rfl⟩, by show ((n : Int) == (n : Int)) = true; exact beq_self_eq_true _⟩
theorem w_inNum {n : Nat} {l : List Nat} (h : SqL K H a (nums l)) (q : Q (.bl (decide (n ∈ l))) H) : rInU K (.int (n : Nat)) (.ref a) H Q :=
  .inl ⟨a, _, rfl, .inl h, rfl, flat_nums l, by rw [if_neg Bool.false_ne_true, inV_nums]; exact q⟩
theorem w_notin2 {x u v : List Nat} (n : Now G L H) {p : Addr} (hp : H p = some (.tup [.str (S u), .str (S v)])) (q : Q (.bl (!(decide (u = x) || decide (v = x)))) H) : rNiU K (.str (S x)) (.ref p) H Q := by
  refine .inl ⟨p, _, rfl, .inr (sqT hp), rfl, rfl, ?_⟩
  have e : inV (.str (S x)) [.str (S u), .str (S v)] = (decide (u = x) || decide (v = x)) := by
    show ((S u == S x) || ((S v == S x) || false)) = _
    rw [Bool.or_false, S_beq_eq, S_beq_eq]
  show Q (.bl (if true = true then _ else _)) H
  rw [if_pos rfl, e]
  exact q
theorem w_notinSg {c : Nat} {l : List Nat} (q : Q (.bl (!decide (c ∈ l))) H) : rNiU K (.str (S [c])) (.str (S l)) H Q := .inr ⟨c, S l, rfl, rfl, q⟩
theorem w_ipaddI {i j : Int} (q : Q (.int (i + j)) H) : ipAddU K (.int i) (.int j) H Q := .inl ⟨i, j, rfl, rfl, q⟩
theorem w_ipaddT {l m : List Nat} (h : l.length + m.length ≤ 100000) (q : Q (.str (S (l ++ m))) H) : ipAddU K (.str (S l)) (.str (S m)) H Q :=
  .inr ⟨_, _, rfl, rfl, by rw [S_len, S_len]; exact sz h, by rw [S_cat]; exact q⟩
end
end MA
/-! MG: a dict of the module's top, by texts; a list back in the ledger. -/
namespace MA
open PySem PySem.Spec PyProof.Rows L2 SX
def KD (K : PySem.W.Frag) (w : World) (a : Addr) (kvs : List (List Nat × V)) : Prop := ∀ kv ∈ kvs, KDct K w a (S kv.1) kv.2
def tKD (kvs : List (List Nat × V)) (ty : TE) : TE := fun σ H Q => ty σ H fun y H1 => ∃ kv ∈ kvs, y = .str (S kv.1) ∧ Q kv.2 H1
theorem pe_kd {X : Cx} {nm : Str} {a : Addr} {kvs : List (List Nat × V)} {i : Expr} {p pos : Pos} {ty : TE} (hg : Gl X nm) (hm : X.mg nm = some (.ref a)) (D : KD X.K X.w a kvs) (hi : PE X i ty) (hs : NoSl i) (hd : (nm == ("__debug__" : Str)) = false := by decide) : PE X (.Subscript (.Name nm p) i pos) (tKD kvs ty) := by
  have hp := pe_glob (v := .ref a) (pos := p) hg hm rfl hd
  refine ⟨fun pins s σ H Q I h => ?_⟩
  exact Subscript_ (binT (R := fun x y H2 => x = .ref a ∧ ∃ kv ∈ kvs, y = .str (S kv.1) ∧ Q kv.2 H2) hp hi I (by
    show ty σ H fun y H2 => V.ref a = .ref a ∧ ∃ kv ∈ kvs, y = .str (S kv.1) ∧ Q kv.2 H2
    have e : (fun (y : V) (H2 : Hp) => V.ref a = .ref a ∧ ∃ kv ∈ kvs, y = .str (S kv.1) ∧ Q kv.2 H2) = fun y H2 => ∃ kv ∈ kvs, y = .str (S kv.1) ∧ Q kv.2 H2 := by
      funext y H2
      exact propext ⟨fun h => h.2, fun h => ⟨rfl, h⟩⟩
    rw [e]
    exact h) fun v u s2 x y H2 I2 rx ry q => by
      obtain ⟨rfl, kv, hm2, rfl, q⟩ := q
      exact ix_kdict (.Name nm p) i pins s2 σ H2 _ _ v u Q I2 rx ry ⟨a, _, kv.2, rfl, rfl, D kv hm2, q⟩ (hs _ _))
section
variable {G H : Hp} {L : List (Addr × HO)} {p : Addr} {o : HO}
theorem Now.thaw (n : Now (upd G p o) L H) (h : G p = none) : Now G ((p, o) :: L) H where
  ex := fun a u e => n.ex a u (by rw [upd_ne (ne_of_none e h)]; exact e)
  mu := fun x hx => by
    rcases List.mem_cons.mp hx with e | hx
    · rw [e]; exact n.ex _ _ upd_same
    · exact n.mu x hx
  ap := fun x hx => by
    rcases List.mem_cons.mp hx with e | hx
    · rw [e]; exact h
    · have h1 := n.ap x hx
      by_cases hp : x.1 = p
      · rw [hp]; exact h
      · rw [upd_ne hp] at h1; exact h1
  nd := by
    show (p :: L.map (·.1)).Nodup
    refine List.nodup_cons.mpr ⟨fun hm => ?_, n.nd⟩
    obtain ⟨x, hx, rfl⟩ := List.mem_map.mp hm
    have := n.ap x hx
    rw [upd_same] at this
    cases this
end
theorem rep_fold (c : Nat) : ∀ (n : Nat) (acc : Array Nat), (List.replicate n #[c]).foldl (· ++ ·) acc = acc ++ (List.replicate n c).toArray
  | 0, acc => by simp
  | n + 1, acc => by
    rw [List.replicate_succ, List.foldl_cons, rep_fold c n, List.replicate_succ]
    apply Array.ext'
    simp
theorem mul1 (c : Nat) {j : Int} (h : 1 ≤ j) : Txt.mul (S [c]) j = S (List.replicate j.toNat c) := by
  unfold Txt.mul
  rw [if_neg (by omega)]
  by_cases h1 : j = 1
  · subst h1; rfl
  · have e : (j == 1 || (S [c]).length == 0) = false := by
      rw [Bool.or_eq_false_iff]
      exact ⟨beq_eq_false_iff_ne.mpr h1, rfl⟩
    rw [e, if_neg Bool.false_ne_true]
    show (⟨(List.replicate j.toNat #[c]).foldl (· ++ ·) #[]⟩ : Str) = _
    rw [rep_fold]
    simp [S]
theorem w_rep1 {K : PySem.W.Frag} {H : Hp} {Q : VK} {c : Nat} {j : Int} (h0 : 1 ≤ j) (h1 : j ≤ 1000) (q : Q (.str (S (List.replicate j.toNat c))) H) : rMulU K (.str (S [c])) (.int j) H Q := by
  refine .inr (.inr (.inl ⟨S [c], j, rfl, rfl, ⟨?_, fun _ _ => ?_, fun _ _ => ?_⟩, by rw [mul1 c h0]; exact q⟩))
  · rw [Bool.or_eq_false_iff]
    exact ⟨decide_eq_false (by omega), decide_eq_false (by omega)⟩
  · have e : ((S [c]).length : Int) = 1 := rfl
    rw [e]
    have : (1 : Int) ≤ (2 ^ 63 - 1) / j := by
      rw [Int.le_ediv_iff_mul_le (by omega)]
      omega
    omega
  · have e : (S [c]).length * j.toNat = j.toNat := by show 1 * j.toNat = _; omega
    rw [e]
    exact decide_eq_false (show ¬ j.toNat > 16777216 by omega)
end MA
namespace MA
open PySem PySem.Spec PyProof.Rows L2 SX
local macro_rules | `(tactic| walk_at "s") => `(tactic| (first
  | with_reducible refine w_seq ?_ | with_reducible refine w_asg ?_ | with_reducible refine w_ret ?_ | with_reducible refine w_drop ?_ | with_reducible refine w_ifs ?_ | with_reducible refine w_next ?_ | with_reducible refine w_par ?_ | with_reducible refine w_for ?_
  | with_reducible refine w_op ?_ | ((with_reducible refine w_var (v := ?v) ?h ?_); (case h => exact rfl)) | with_reducible refine w_c ?_ | with_reducible refine w_cons ?_ | with_reducible refine w_nil ?_ | with_reducible refine w_cb ?_ | with_reducible refine w_call ?_ | with_reducible refine w_lst ?_ | with_reducible refine w_tup ?_
  | with_reducible refine w_test ?_ | with_reducible refine w_bl ?_ | with_reducible refine w_tbl ?_ | with_reducible refine w_trth ?_ | with_reducible refine w_if ?_ | with_reducible refine w_not ?_ | with_reducible refine w_and ?_ | with_reducible refine w_or ?_ | with_reducible refine w_andT ?_ | with_reducible refine w_orT ?_ | with_reducible refine w_notT ?_ | with_reducible refine w_chain ?_
  | with_reducible refine w_sl ?_ | with_reducible refine w_nopart ?_ | with_reducible refine w_part ?_ | with_reducible refine w_part1 ?_ | with_reducible refine w_bm ?_ | with_reducible refine w_bm0 ?_ | with_reducible refine w_yes ?_ | with_reducible refine w_lc ?_ | with_reducible refine w_rng1 ?_ | with_reducible refine w_rng2 ?_ | with_reducible refine w_enum ?_ | with_reducible refine w_seqIt ?_ | with_reducible refine w_zip ?_ | with_reducible refine w_zipN ?_ | with_reducible refine w_ezip ?_ | with_reducible refine w_tys ?_
  | with_reducible refine w_addI ?_ | with_reducible refine w_subI ?_ | with_reducible refine w_gtI ?_ | with_reducible refine w_geI ?_ | with_reducible refine w_ltI ?_ | with_reducible refine w_leI ?_ | with_reducible refine w_eqI ?_ | with_reducible refine w_neI ?_
  | with_reducible refine w_eqT ?_ | with_reducible refine w_neT ?_ | with_reducible refine w_isN ?_ | with_reducible refine w_isntN ?_ | with_reducible refine w_min2 ?_ | with_reducible refine w_max2 ?_ | with_reducible refine w_eqB ?_ | with_reducible refine w_neB ?_
  | with_reducible refine w_abs ?_ | with_reducible refine w_intB ?_ | with_reducible refine w_intI ?_ | with_reducible refine w_gname ?_ | with_reducible refine w_gsub ?_ | with_reducible refine w_gcons ?_ | with_reducible refine w_gnil ?_
  | ((with_reducible refine w_modI ?h ?_); (case h => omega)) | ((with_reducible refine w_fdivI ?h1 ?h2 ?_); (case h1 => omega); (case h2 => omega)) | ((with_reducible refine w_shl1 ?h1 ?h2 ?_); (case h1 => omega); (case h2 => omega))
  | ((with_reducible refine w_rngI ?h1 ?h2 ?_); (case h1 => omega); (case h2 => omega))
  | ((with_reducible refine w_ixL (v := ?v) (xs := ?xs) ?h1 ?h2 ?_); (case h1 => exact sqL (Now.get0 (by assumption))); (case h2 => exact rfl))
  | ((with_reducible refine w_aug (x := ?x) ?h ?_); (case h => exact rfl)) | with_reducible refine w_ipaddI ?_))
/-- a box that numbers are drawn from -/
def Bx (c : Nat) (o : HO) : Prop := ∃ x y z : Int, o = .lst [.int x, .int y, .int z] ∧ 0 ≤ x ∧ 0 ≤ y ∧ y < 2 ^ 62 ∧ 0 ≤ z ∧ z ≤ (c : Int)
theorem Bx.mono {c c' : Nat} {o : HO} (h : Bx c o) (e : c ≤ c') : Bx c' o := by
  obtain ⟨x, y, z, e1, a, b, d, f, g⟩ := h
  exact ⟨x, y, z, e1, a, b, d, f, by omega⟩
def sp_take (K : PySem.W.Frag) : Sp := fun vs H Q _ => ∃ (G : Hp) (L : List (Addr × HO)) (b : Addr) (o : HO) (c : Nat) (m : Int), vs = [.ref b, .int m] ∧ Now G ((b, o) :: L) H ∧ Bx c o ∧ c < 2 ^ 40 ∧ 0 < m ∧ m < 2 ^ 30 ∧
  ∀ (r : Int) (o' : HO) (H' : Hp), 0 ≤ r → r < m → Bx (c + 1) o' → Now G ((b, o') :: L) H' → Q (.int r) H'
/- _law_box(_law_script, _law_k): 0 _law_script, 1 _law_k, 2 _law_cell -/
def rd_box (K : PySem.W.Frag) : TS := (tSeq (tAsg (tIf (tTest (tOp (rLtU K) (tVar 1) (tCB (rLenU K) (tCons (tVar 0) tNil)))) (tOp (rIx K) (tVar 0) (tVar 1)) (tC (.int 0))) (gName 2))
  (tRet (tLst (tCons (tOp (rMulU K) (tCB rAbs (tCons (tVar 2) tNil)) (tCB rIntU (tCons (tOp rGeU (tCB rAbs (tCons (tVar 2) tNil)) (tOp rPowU (tC (.int 10)) (tC (.int 18)))) tNil))) (tCons (tOp (rAddU K) (tOp (rAddU K) (tOp rModU (tVar 2) (tC (.int 2305843009213693951))) (tOp (rMulU K) (tC (.int 39373)) (tVar 1))) (tC (.int 17))) (tCons (tC (.int 0)) tNil))))))
/- _law_take(_law_box_here, _law_many): 0 _law_box_here, 1 _law_many, 2 _law_found, 3 _law_once, 4 _law_twice -/
def rd_take (K : PySem.W.Frag) : TS := (tSeq (tIfS (tTest (tOp rGtU (tOp (rIx K) (tVar 0) (tC (.int 0))) (tC (.int 0)))) (tSeq (tAsg (tCB rDivmod (tCons (tOp (rIx K) (tVar 0) (tC (.int 0))) (tCons (tVar 1) tNil))) (gTup K 2 (gCons (gSub (tVar 0) (tC (.int 0)) rSetL) (gCons (gName 2) gNil))))
  (tRet (tVar 2))) tNext)
  (tSeq (tAsg (tOp (rAddU K) (tOp (rIx K) (tVar 0) (tC (.int 2))) (tC (.int 1))) (gSub (tVar 0) (tC (.int 2)) rSetL))
  (tSeq (tAsg (tOp rModU (tOp (rMulU K) (tOp (rAddU K) (tOp (rIx K) (tVar 0) (tC (.int 1))) (tOp (rMulU K) (tC (.int 48271)) (tOp (rIx K) (tVar 0) (tC (.int 2))))) (tOp (rAddU K) (tC (.int 39373)) (tOp (rIx K) (tVar 0) (tC (.int 2))))) (tC (.int 2147483647))) (gName 3))
  (tSeq (tAsg (tOp rModU (tOp (rMulU K) (tOp (rAddU K) (tOp (rAddU K) (tVar 3) (tOp (rIx K) (tVar 0) (tC (.int 2)))) (tOp rFdivU (tOp (rIx K) (tVar 0) (tC (.int 1))) (tC (.int 1000003)))) (tOp (rAddU K) (tOp rModU (tVar 3) (tC (.int 40009))) (tC (.int 7)))) (tC (.int 2147483629))) (gName 4))
  (tRet (tOp rModU (tOp rFdivU (tOp rModU (tOp (rAddU K) (tOp (rMulU K) (tVar 4) (tC (.int 48271))) (tVar 3)) (tC (.int 2147483587))) (tC (.int 64))) (tVar 1)))))))
theorem ln_take {K : PySem.W.Frag} {vs : List V} {H : Hp} {Q : VK} {E : XK} (h : sp_take K vs H Q E) : vs.length = 2 := by
  obtain ⟨G, L, b, o, c, m, rfl, _⟩ := h; rfl
theorem ok_rd_take {K : PySem.W.Frag} {vs : List V} {H : Hp} {Q : VK} {E : XK} (h : sp_take K vs H Q E) : rd_take K { nx := fun _ H' => Q .non H', rt := Q } (start ["a", "b", "c", "d", "e"] vs) H := by
  obtain ⟨G, L, b, o, c, m, rfl, n, ⟨x, y, z, rfl, hx, hy, hy', hz, hzc⟩, hc, hm, hm', q⟩ := h
  show rd_take K _ [some (.ref b), some (.int m), none, none, none] H
  unfold rd_take
  repeat walk_at "s"
  refine w_ite (fun e => ?_) (fun e => ?_)
  · have hx0 : 0 < x := of_decide_eq_true e
    repeat walk_at "s"
    refine w_divmod n hm hm' fun p H1 n1 hp => ?_
    refine w_gtup (sqT hp) rfl ?_
    repeat walk_at "s"
    refine w_setL0 n1 rfl fun H2 n2 => ?_
    repeat walk_at "s"
    refine q _ _ _ (Int.emod_nonneg _ (by omega)) (Int.emod_lt_of_pos _ hm) ⟨x / m, y, z, rfl, Int.ediv_nonneg hx (by omega), hy, hy', hz, by omega⟩ n2
  · repeat walk_at "s"
    refine w_setL0 n rfl fun H2 n2 => ?_
    repeat walk_at "s"
    refine w_mulI (.inl ⟨by omega, by omega⟩) ?_
    repeat walk_at "s"
    refine w_mulI (.inr ⟨by omega, by omega⟩) ?_
    repeat walk_at "s"
    generalize ((y + 48271 * (z + 1)) * (39373 + (z + 1))) % 2147483647 = u
    refine w_mulI (.inr ⟨by omega, by omega⟩) ?_
    repeat walk_at "s"
    generalize (u + (z + 1) + y / 1000003) * (u % 40009 + 7) % 2147483629 = u2
    refine w_mulI (.inr ⟨by omega, by omega⟩) ?_
    repeat walk_at "s"
    refine q _ _ _ (Int.emod_nonneg _ (by omega)) (Int.emod_lt_of_pos _ hm) ⟨x, y, z + 1, rfl, hx, hy, hy', by omega, by omega⟩ n2
/-! the box of a cell -/
def sp_box (K : PySem.W.Frag) : Sp := fun vs H Q _ => ∃ (G : Hp) (L : List (Addr × HO)) (a : Addr) (ns : List Int) (k : Int), vs = [.ref a, .int k] ∧ Now G L H ∧ SqL K H a (ns.map V.int) ∧ 0 ≤ k ∧ k < 64 ∧
  ∀ (b : Addr) (o : HO) (H' : Hp), Bx 0 o → Now G ((b, o) :: L) H' → (∀ a o, H a = some o → H' a = some o) → Q (.ref b) H'
theorem ln_box {K : PySem.W.Frag} {vs : List V} {H : Hp} {Q : VK} {E : XK} (h : sp_box K vs H Q E) : vs.length = 2 := by
  obtain ⟨G, L, a, ns, k, rfl, _⟩ := h; rfl
theorem ok_rd_box {K : PySem.W.Frag} {vs : List V} {H : Hp} {Q : VK} {E : XK} (h : sp_box K vs H Q E) : rd_box K { nx := fun _ H' => Q .non H', rt := Q } (start ["a", "b", "c"] vs) H := by
  obtain ⟨G, L, a, ns, k, rfl, n, hS, hk, hk', q⟩ := h
  show rd_box K _ [some (.ref a), some (.int k), none] H
  have fin : ∀ w : Int, ∀ nx : L2.St → Hp → Prop, tRet (tLst (tCons (tOp (rMulU K) (tCB rAbs (tCons (tVar 2) tNil)) (tCB rIntU (tCons (tOp rGeU (tCB rAbs (tCons (tVar 2) tNil)) (tOp rPowU (tC (.int 10)) (tC (.int 18)))) tNil))) (tCons (tOp (rAddU K) (tOp (rAddU K) (tOp rModU (tVar 2) (tC (.int 2305843009213693951))) (tOp (rMulU K) (tC (.int 39373)) (tVar 1))) (tC (.int 17))) (tCons (tC (.int 0)) tNil)))) { nx := nx, rt := Q } [some (.ref a), some (.int k), some (.int w)] H := fun w nx => by
    repeat walk_at "s"
    refine w_powI ⟨by decide, by decide, by decide⟩ ?_
    repeat walk_at "s"
    refine w_mulI (.inr ⟨by split <;> omega, by split <;> omega⟩) ?_
    repeat walk_at "s"
    refine w_mulI (.inl ⟨by omega, by omega⟩) ?_
    repeat walk_at "s"
    refine ⟨by show 3 ≤ sizeLine; decide, fun p hp => ?_⟩
    refine q p _ _ ⟨_, _, _, rfl, Int.mul_nonneg (by split <;> omega) (by split <;> omega), ?_, ?_, by decide, by decide⟩ (n.newL hp) fun a o e => by rw [upd_ne (ne_of_none e hp)]; exact e
    · have := Int.emod_nonneg w (show (2305843009213693951 : Int) ≠ 0 by decide); omega
    · have := Int.emod_lt_of_pos w (show (0 : Int) < 2305843009213693951 by decide); omega
  unfold rd_box
  repeat walk_at "s"
  refine w_lenL hS ?_
  repeat walk_at "s"
  refine w_ite (fun e => ?_) (fun e => ?_)
  · have hl : k < (ns.map V.int).length := of_decide_eq_true e
    rw [List.length_map] at hl
    repeat walk_at "s"
    refine w_ixL hS (v := .int (ns.getD k.toNat 0)) ?_ ?_
    · refine at_of (j := k.toNat) (by omega) ?_
      rw [List.getElem?_map, List.getD_eq_getElem?_getD, List.getElem?_eq_getElem (by omega)]
      rfl
    · exact fin _ _
  · walk_at "s"
    walk_at "s"
    exact fin _ _

/-- a lane's signs -/
def Ln (l : List Nat) : Prop := ∀ c ∈ l, c = 48 ∨ c = 49 ∨ c = 45
theorem Ln.nil : Ln [] := fun _ h => nomatch h
theorem Ln.snoc {l : List Nat} {c : Nat} (h : Ln l) (hc : c = 48 ∨ c = 49 ∨ c = 45) : Ln (l ++ [c]) := fun d hd => by
  rcases List.mem_append.mp hd with h' | h'
  · exact h d h'
  · rw [List.mem_singleton.mp h']; exact hc
theorem Ln.set {l : List Nat} {c k : Nat} (h : Ln l) (hc : c = 48 ∨ c = 49 ∨ c = 45) : Ln (l.set k c) := fun d hd => by
  rcases List.mem_or_eq_of_mem_set hd with h' | h'
  · exact h d h'
  · rw [h']; exact hc
theorem map_set {l : List Nat} {c k : Nat} : (l.map sg).set k (sg c) = (l.set k c).map sg := by
  rw [List.map_set]
theorem ix_lt {n : Nat} {j : Int} (h0 : 0 ≤ j) (h : j < n) : ixN n j = some j.toNat := by
  unfold ixN
  rw [if_pos h0, if_pos h]
/-- one of the written signs -/
theorem at4 {r : Int} (h0 : 0 ≤ r) (h : r < 4) : ∃ c, (c = 48 ∨ c = 49 ∨ c = 45) ∧ atI [sg 48, sg 49, sg 45, sg 45] r = some (sg c) := by
  have : r = 0 ∨ r = 1 ∨ r = 2 ∨ r = 3 := by omega
  rcases this with rfl | rfl | rfl | rfl
  · exact ⟨48, .inl rfl, rfl⟩
  · exact ⟨49, .inr (.inl rfl), rfl⟩
  · exact ⟨45, .inr (.inr rfl), rfl⟩
  · exact ⟨45, .inr (.inr rfl), rfl⟩
theorem at3 {r : Int} (h0 : 0 ≤ r) (h : r < 3) : ∃ c, (c = 48 ∨ c = 49 ∨ c = 45) ∧ atI [sg 48, sg 49, sg 45] r = some (sg c) := by
  have : r = 0 ∨ r = 1 ∨ r = 2 := by omega
  rcases this with rfl | rfl | rfl
  · exact ⟨48, .inl rfl, rfl⟩
  · exact ⟨49, .inr (.inl rfl), rfl⟩
  · exact ⟨45, .inr (.inr rfl), rfl⟩
theorem at2 {r : Int} (h0 : 0 ≤ r) (h : r < 2) : ∃ c, (c = 48 ∨ c = 49) ∧ atI [sg 48, sg 49] r = some (sg c) := by
  have : r = 0 ∨ r = 1 := by omega
  rcases this with rfl | rfl
  · exact ⟨48, .inl rfl, rfl⟩
  · exact ⟨49, .inr rfl, rfl⟩
section
variable {K : PySem.W.Frag} {σ : L2.St} {G H : Hp} {L : List (Addr × HO)} {Q : VK} {b : Addr} {o : HO} {c : Nat} {m : Int} {E : XK}
/-- a draw -/
theorem w_take (n : Now G ((b, o) :: L) H) (hb : Bx c o) (hc : c < 2 ^ 40) (h0 : 0 < m) (h1 : m < 2 ^ 30) (q : ∀ (r : Int) (o' : HO) (H' : Hp), 0 ≤ r → r < m → Bx (c + 1) o' → Now G ((b, o') :: L) H' → Q (.int r) H') :
    sp_take K ([.ref b, .int m] ++ []) H Q E := ⟨G, L, b, o, c, m, rfl, n, hb, hc, h0, h1, q⟩
end
def sp_lane (K : PySem.W.Frag) : Sp := fun vs H Q _ => ∃ (G : Hp) (L : List (Addr × HO)) (b : Addr) (o : HO) (c : Nat) (m : Int) (l : List Nat), vs = [.ref b, .int m, .str (S l)] ∧ Now G ((b, o) :: L) H ∧ Bx c o ∧ c < 2 ^ 39 ∧ 1 ≤ m ∧ m ≤ 14 ∧
  (l = [] ∨ ((l.length : Int) = m ∧ Ln l)) ∧ ∀ (l' : List Nat) (o' : HO) (H' : Hp), (l'.length : Int) = m → Ln l' → Bx (c + 30) o' → Now G ((b, o') :: L) H' → Q (.str (S l')) H'
/- _law_lane(_law_box_here, _law_size, _law_other): 0 _law_box_here, 1 _law_size, 2 _law_other, 3 _law_signs, 4 _law_turn, 5 _law_k -/
def rd_lane (K : PySem.W.Frag) : TS := (tSeq (tAsg (tLc (iRng1 (tCons (tVar 1) tNil)) (gName 5) tYes (tOp (rIx K) (tLst (tCons (tC (.str (SX.S [48]))) (tCons (tC (.str (SX.S [49]))) (tCons (tC (.str (SX.S [45]))) (tCons (tC (.str (SX.S [45]))) tNil))))) (tCall (sp_take K) [] E0 (tCons (tVar 0) (tCons (tC (.int 4)) tNil)))) [5]) (gName 3))
  (tSeq (tIfS (tAnd (tTest (tOp (rNeU K) (tVar 2) (tC (.str (SX.S []))))) (tTest (tOp (rEqU K) (tCall (sp_take K) [] E0 (tCons (tVar 0) (tCons (tC (.int 2)) tNil))) (tC (.int 0))))) (tSeq (tAsg (tCB (rListU K) (tCons (tVar 2) tNil)) (gName 3))
  (tFor (iRng1 (tCons (tOp (rAddU K) (tC (.int 1)) (tCall (sp_take K) [] E0 (tCons (tVar 0) (tCons (tC (.int 2)) tNil)))) tNil)) (gName 4) (tAsg (tOp (rIx K) (tLst (tCons (tC (.str (SX.S [48]))) (tCons (tC (.str (SX.S [49]))) (tCons (tC (.str (SX.S [45]))) tNil)))) (tCall (sp_take K) [] E0 (tCons (tVar 0) (tCons (tC (.int 3)) tNil)))) (gSub (tVar 3) (tCall (sp_take K) [] E0 (tCons (tVar 0) (tCons (tVar 1) tNil))) rSetL)))) tNext)
  (tRet (tBM K "str" (rJoin K) (tC (.str (SX.S []))) (tCons (tVar 3) tNil)))))
theorem ln_lane {K : PySem.W.Frag} {vs : List V} {H : Hp} {Q : VK} {E : XK} (h : sp_lane K vs H Q E) : vs.length = 3 := by
  obtain ⟨G, L, b, o, c, m, l, rfl, _⟩ := h; rfl
theorem ok_rd_lane {K : PySem.W.Frag} {vs : List V} {H : Hp} {Q : VK} {E : XK} (h : sp_lane K vs H Q E) : rd_lane K { nx := fun _ H' => Q .non H', rt := Q } (start ["a", "b", "c", "d", "e", "f"] vs) H := by
  obtain ⟨G, L, b, o, c, m, l, rfl, n, hb, hc, hm, hm', hl, q⟩ := h
  show rd_lane K _ [some (.ref b), some (.int m), some (.str (S l)), none, none, none] H
  unfold rd_lane
  repeat walk_at "s"
  refine lc_now n (fun i acc G' L' => ∃ (ls : List Nat) (o' : HO), acc = ls.map sg ∧ ls.length = i ∧ Ln ls ∧ Bx (c + i) o' ∧ G' = G ∧ L' = (b, o') :: L) ⟨[], o, rfl, rfl, Ln.nil, hb, rfl, rfl⟩ (fun _ _ _ _ _ _ _ => trivial) ?_ ?_
  · rintro D i x H1 H2 acc G' L' hi ⟨ls, o', rfl, hli, hln, hbx, rfl, rfl⟩ n1 ⟨rfl, rfl⟩
    repeat walk_at "s"
    refine ⟨rfl, ?_⟩
    repeat walk_at "s"
    refine w_iteT rfl ?_
    repeat walk_at "s"
    refine w_lstG n1 (by decide) fun p G1 H3 e1 hp n2 => ?_
    repeat walk_at "s"
    refine w_take n2.swap hbx (by omega) (by decide) (by decide) fun r o2 H4 r0 r1 hb2 n3 => ?_
    obtain ⟨cc, hcc, hat⟩ := at4 r0 r1
    refine w_ixL (sqL (n3.ex _ _ hp)) hat ?_
    exact LcP.add (n3.swap.weak e1) (by rw [List.length_map]; omega) ⟨ls ++ [cc], o2, by rw [List.map_append]; rfl, by rw [List.length_append, hli]; rfl, hln.snoc hcc, hb2, rfl, rfl⟩
  · rintro D H1 acc G' L' ⟨ls, o', rfl, hli, hln, hbx, rfl, rfl⟩ n1
    have hlm : (ls.length : Int) = m := by omega
    -- ''.join(signs)
    have fin : ∀ (ls : List Nat) (o' : HO) (D : Addr) (H1 : Hp) (L' : List (Addr × HO)) (u v : Option V), (ls.length : Int) = m → Ln ls → Bx (c + 30) o' → Now G' ((D, .lst (ls.map sg)) :: (b, o') :: L) H1 →
        tRet (tBM K "str" (rJoin K) (tC (V.str (S []))) (tCons (tVar 3) tNil)) { nx := fun _ H' => Q .non H', rt := Q } [some (.ref b), some (.int m), some (.str (S l)), some (.ref D), u, v] H1 := fun ls o' D H1 L' u v hlm hln hbx n1 => by
      repeat walk_at "s"
      refine w_joinSg (sqL n1.get0) (by omega) ?_
      exact q ls o' H1 hlm hln hbx n1.drop
    repeat walk_at "s"
    refine w_ite (fun e => ?_) (fun e => ?_)
    · rcases hl with rfl | ⟨hl, hll⟩
      · simp at e
      · repeat walk_at "s"
        refine w_take n1.swap hbx (by omega) (by decide) (by decide) fun r o2 H4 r0 r1 hb2 n3 => ?_
        repeat walk_at "s"
        refine w_ite (fun e2 => ?_) (fun e2 => ?_)
        · repeat walk_at "s"
          refine w_listS n3.swap.drop (by omega) fun D2 H5 n4 _ => ?_
          repeat walk_at "s"
          refine w_take n4.swap hb2 (by omega) (by decide) (by decide) fun r3 o3 H6 r30 r31 hb3 n5 => ?_
          repeat walk_at "s"
          refine for_k (fun i σ H => ∃ (ls' : List Nat) (o' : HO) (u : Option V), σ = [some (.ref b), some (.int m), some (.str (S l)), some (.ref D2), u, none] ∧ (ls'.length : Int) = m ∧ Ln ls' ∧ Bx (c + m.toNat + 2 + 2 * i) o' ∧ Now G' ((D2, .lst (ls'.map sg)) :: (b, o') :: L) H)
            ⟨l, o3, none, rfl, hl, hll, hb3, n5.swap⟩ (fun _ _ _ _ => trivial) ?_ ?_
          · rintro i x σ H7 H8 hi ⟨ls', o4, u, rfl, hl4, hln4, hb4, n6⟩ ⟨rfl, rfl⟩
            repeat walk_at "s"
            refine w_lstG n6 (by decide) fun p G1 H9 e1 hp n7 => ?_
            repeat walk_at "s"
            refine w_take n7.swap hb4 (by omega) (by decide) (by decide) fun r5 o5 H10 r50 r51 hb5 n8 => ?_
            obtain ⟨cc, hcc, hat⟩ := at3 r50 r51
            refine w_ixL (sqL (n8.ex _ _ hp)) hat ?_
            repeat walk_at "s"
            refine w_take n8 hb5 (by omega) (by omega) (by omega) fun r6 o6 H11 r60 r61 hb6 n9 => ?_
            refine w_setL0 n9.swap (ix_lt r60 (by rw [List.length_map]; omega)) fun H12 n10 => ?_
            rw [map_set] at n10
            exact ⟨ls'.set r6.toNat cc, o6, _, rfl, by rw [List.length_set]; exact hl4, hln4.set hcc, hb6.mono (by omega), n10.weak e1⟩
          · rintro σ H7 ⟨ls', o4, u, rfl, hl4, hln4, hb4, n6⟩
            exact fin ls' o4 D2 H7 L u none hl4 hln4 (hb4.mono (by omega)) n6
        · walk_at "s"
          exact fin ls o2 D H4 L none none hlm hln (hb2.mono (by omega)) n3.swap
    · refine w_iteF rfl ?_
      walk_at "s"
      exact fin ls o' D H1 L none none hlm hln (hbx.mono (by omega)) n1

/-! PA: lanes as lists of signs, in plain Lean. -/
/-- the places at which two lanes differ -/
def unl (l m : List Nat) : List Nat := (List.range l.length).filter fun k => decide (l[k]? ≠ m[k]?)
def oneOf (l m : List Nat) : Option (List Nat) := match unl l m with
  | [p] => if l[p]? = some 45 ∨ m[p]? = some 45 then none else some (l.take p ++ 45 :: l.drop (p + 1))
  | _ => none
/-- whether a lane takes bits -/
def tk (b : Nat → Nat) (l : List Nat) : Bool := (List.range l.length).all fun k => decide (l[k]? = some 45) || decide (l[k]? = some (48 + b k))
theorem unl_comm {l m : List Nat} (h : l.length = m.length) : unl m l = unl l m := by
  unfold unl
  rw [h]
  apply List.filter_congr
  intro k _
  rw [decide_eq_decide]
  exact ⟨fun q e => q e.symm, fun q e => q e.symm⟩
theorem unl_self (l : List Nat) : unl l l = [] := by
  unfold unl
  simp
theorem unl_one {l m : List Nat} {p : Nat} (e : unl l m = [p]) : p < l.length ∧ l[p]? ≠ m[p]? ∧ ∀ k, k < l.length → k ≠ p → l[k]? = m[k]? := by
  have hp : p ∈ unl l m := by rw [e]; exact List.mem_singleton.mpr rfl
  unfold unl at hp
  rw [List.mem_filter, List.mem_range] at hp
  refine ⟨hp.1, of_decide_eq_true hp.2, fun k hk hkp => ?_⟩
  apply Classical.byContradiction
  intro hne
  have : k ∈ unl l m := by
    unfold unl
    rw [List.mem_filter, List.mem_range]
    exact ⟨hk, decide_eq_true hne⟩
  rw [e] at this
  exact hkp (List.mem_singleton.mp this)
theorem get_put {l : List Nat} {p c k : Nat} (hp : p < l.length) : (l.take p ++ c :: l.drop (p + 1))[k]? = if k = p then some c else l[k]? := by
  rw [show l.take p ++ c :: l.drop (p + 1) = l.set p c from (List.set_eq_take_append_cons_drop ..).trans (if_pos hp) |>.symm]
  rw [List.getElem?_set]
  by_cases e : p = k
  · subst e; simp [hp]
  · rw [if_neg e, if_neg (fun h => e h.symm)]
theorem len_put {l : List Nat} {p c : Nat} (hp : p < l.length) : (l.take p ++ c :: l.drop (p + 1)).length = l.length := by
  rw [List.length_append, List.length_cons, List.length_take, List.length_drop]
  omega
theorem oneOf_some {l m f : List Nat} (e : oneOf l m = some f) : ∃ p, unl l m = [p] ∧ l[p]? ≠ some 45 ∧ m[p]? ≠ some 45 ∧ f = l.take p ++ 45 :: l.drop (p + 1) := by
  unfold oneOf at e
  split at e
  · rename_i p h
    split at e
    · cases e
    · rename_i hn
      rw [not_or] at hn
      exact ⟨p, h, hn.1, hn.2, (Option.some.inj e).symm⟩
  · cases e
theorem oneOf_len {l m f : List Nat} (e : oneOf l m = some f) : f.length = l.length := by
  obtain ⟨p, h, _, _, rfl⟩ := oneOf_some e
  exact len_put (unl_one h).1
theorem oneOf_comm {l m : List Nat} (h : l.length = m.length) : oneOf m l = oneOf l m := by
  have hu := unl_comm h
  unfold oneOf
  rw [hu]
  cases hx : unl l m with
  | nil => rfl
  | cons p r =>
    cases r with
    | cons _ _ => rfl
    | nil =>
      show (if m[p]? = some 45 ∨ l[p]? = some 45 then none else some (m.take p ++ 45 :: m.drop (p + 1))) = if l[p]? = some 45 ∨ m[p]? = some 45 then none else some (l.take p ++ 45 :: l.drop (p + 1))
      obtain ⟨hp, _, hk⟩ := unl_one hx
      by_cases hc : l[p]? = some 45 ∨ m[p]? = some 45
      · rw [if_pos hc, if_pos hc.symm]
      · rw [if_neg hc, if_neg (fun z => hc z.symm)]
        congr 1
        apply List.ext_getElem?
        intro k
        rw [get_put (by omega), get_put hp]
        by_cases e : k = p
        · rw [if_pos e, if_pos e]
        · rw [if_neg e, if_neg e]
          by_cases hkl : k < l.length
          · exact (hk k hkl e).symm
          · rw [List.getElem?_eq_none (by omega), List.getElem?_eq_none (by omega)]
theorem oneOf_self (l : List Nat) : oneOf l l = none := by
  unfold oneOf
  rw [unl_self]
theorem tk_iff {b : Nat → Nat} {l : List Nat} : tk b l = true ↔ ∀ k, k < l.length → l[k]? = some 45 ∨ l[k]? = some (48 + b k) := by
  unfold tk
  rw [List.all_eq_true]
  constructor
  · intro h k hk
    have := h k (List.mem_range.mpr hk)
    rw [Bool.or_eq_true, decide_eq_true_eq, decide_eq_true_eq] at this
    exact this
  · intro h k hk
    rw [Bool.or_eq_true, decide_eq_true_eq, decide_eq_true_eq]
    exact h k (List.mem_range.mp hk)
theorem tk_one {l m f : List Nat} {b : Nat → Nat} (h : l.length = m.length) (hl : ∀ c ∈ l, c = 48 ∨ c = 49 ∨ c = 45) (hm : ∀ c ∈ m, c = 48 ∨ c = 49 ∨ c = 45) (hb : ∀ k, b k = 0 ∨ b k = 1) (e : oneOf l m = some f) :
    tk b f = (tk b l || tk b m) := by
  obtain ⟨p, hu, n1, n2, rfl⟩ := oneOf_some e
  obtain ⟨hp, hne, hk⟩ := unl_one hu
  have hpm : p < m.length := by omega
  have e1 : l[p]? = some l[p] := List.getElem?_eq_getElem hp
  have e2 : m[p]? = some m[p] := List.getElem?_eq_getElem hpm
  have c1 := hl _ (List.getElem_mem hp)
  have c2 := hm _ (List.getElem_mem hpm)
  rw [e1] at n1 hne
  rw [e2] at n2 hne
  have d1 : l[p] ≠ 45 := fun z => n1 (by rw [z])
  have d2 : m[p] ≠ 45 := fun z => n2 (by rw [z])
  have d3 : l[p] ≠ m[p] := fun z => hne (by rw [z])
  rw [Bool.eq_iff_iff, Bool.or_eq_true, tk_iff, tk_iff, tk_iff]
  rw [len_put hp]
  constructor
  · intro hf
    have rest : ∀ k, k < l.length → k ≠ p → l[k]? = some 45 ∨ l[k]? = some (48 + b k) := fun k hkl hkp => by
      have := hf k hkl
      rw [get_put hp, if_neg hkp] at this
      exact this
    have hbp := hb p
    by_cases hx : l[p] = 48 + b p
    · left
      intro k hkl
      by_cases hkp : k = p
      · subst hkp; right; rw [e1, hx]
      · exact rest k hkl hkp
    · right
      intro k hkl
      by_cases hkp : k = p
      · subst hkp; right; rw [e2]; congr 1; omega
      · rw [← hk k (by omega) hkp]; exact rest k (by omega) hkp
  · intro hf k hkl
    rw [get_put hp]
    by_cases hkp : k = p
    · rw [if_pos hkp]; exact .inl rfl
    · rw [if_neg hkp]
      rcases hf with hf | hf
      · exact hf k hkl
      · rw [hk k hkl hkp]; exact hf k (by omega)

theorem pow_small {k : Nat} (h : k ≤ 64) : (0 : Int) < 2 ^ k ∧ (2 : Int) ^ k ≤ 18446744073709551616 := by
  have h1 : (2 : Nat) ^ k ≤ 2 ^ 64 := Nat.pow_le_pow_right (by decide) h
  have h2 : 0 < (2 : Nat) ^ k := Nat.pow_pos (by decide)
  have e : ((2 ^ k : Nat) : Int) = (2 : Int) ^ k := by push_cast; rfl
  have h3 : ((2 ^ 64 : Nat)) = 18446744073709551616 := by decide
  omega
theorem pow_16 {k : Nat} (h : k ≤ 16) : (0 : Int) < 2 ^ k ∧ (2 : Int) ^ k ≤ 65536 := by
  have h1 : (2 : Nat) ^ k ≤ 2 ^ 16 := Nat.pow_le_pow_right (by decide) h
  have h2 : 0 < (2 : Nat) ^ k := Nat.pow_pos (by decide)
  have e : ((2 ^ k : Nat) : Int) = (2 : Int) ^ k := by push_cast; rfl
  have h3 : ((2 ^ 16 : Nat)) = 65536 := by decide
  omega
theorem range_snoc {α : Type} (F : Nat → α) (i : Nat) : (List.range (i + 1)).map F = (List.range i).map F ++ [F i] := by
  rw [List.range_succ, List.map_append]; rfl
def optV : Option (List Nat) → V
  | none => .non
  | some l => .str (S l)
/-- the bit of a number at a place of a width -/
def bitA (w n : Int) (k : Nat) : Nat := (n / 2 ^ (w - 1 - k).toNat % 2).toNat
theorem bitA_01 (w n : Int) (k : Nat) : bitA w n k = 0 ∨ bitA w n k = 1 := by
  unfold bitA
  have := Int.emod_nonneg (n / 2 ^ (w - 1 - (k : Int)).toNat) (show (2 : Int) ≠ 0 by decide)
  have := Int.emod_lt_of_pos (n / 2 ^ (w - 1 - (k : Int)).toNat) (show (0 : Int) < 2 by decide)
  omega
theorem bitA_int (w n : Int) (k : Nat) : ((bitA w n k : Nat) : Int) = n / 2 ^ (w - 1 - k).toNat % 2 := by
  unfold bitA
  exact Int.toNat_of_nonneg (Int.emod_nonneg _ (by decide))
theorem int48 : PySem.intText? (S [48]) = some 0 := by decide +kernel
theorem int49 : PySem.intText? (S [49]) = some 1 := by decide +kernel
theorem get_of {l : List Nat} {i : Nat} {x : V} (h : (l.map sg)[i]? = some x) : ∃ c, l[i]? = some c ∧ x = sg c := by
  rw [List.getElem?_map] at h
  cases e : l[i]? with
  | none => rw [e] at h; cases h
  | some c => rw [e] at h; exact ⟨c, rfl, (Option.some.inj h).symm⟩
/-! ### takes -/
def sp_takes (K : PySem.W.Frag) : Sp := fun vs H Q _ => ∃ (G : Hp) (L : List (Addr × HO)) (l : List Nat) (w n : Int), vs = [.str (S l), .int w, .int n] ∧ Now G L H ∧ Ln l ∧ (l.length : Int) = w ∧ w ≤ 14 ∧
  ∀ H', Now G L H' → Q (.bl (tk (bitA w n) l)) H'
/- _law_takes(_law_lane_here, _law_size, _law_number): 0 _law_lane_here, 1 _law_size, 2 _law_number, 3 _law_k, 4 _law_sign -/
def rd_takes (K : PySem.W.Frag) : TS := (tRet (tCB (rAll K) (tCons (tLc (iEnumS K (tCons (tVar 0) tNil)) (gTup K 2 (gCons (gName 3) (gCons (gName 4) gNil))) tYes (tOrT K (tOp (rEqU K) (tVar 4) (tC (.str (SX.S [45])))) (tOp (rEqU K) (tCB rIntU (tCons (tVar 4) tNil)) (tOp rModU (tOp rFdivU (tVar 2) (tOp rShlU (tC (.int 1)) (tOp rSubU (tOp rSubU (tVar 1) (tC (.int 1))) (tVar 3)))) (tC (.int 2))))) [3, 4]) tNil)))
theorem ln_takes {K : PySem.W.Frag} {vs : List V} {H : Hp} {Q : VK} {E : XK} (h : sp_takes K vs H Q E) : vs.length = 3 := by
  obtain ⟨G, L, l, w, n, rfl, _⟩ := h; rfl
theorem ok_rd_takes {K : PySem.W.Frag} {vs : List V} {H : Hp} {Q : VK} {E : XK} (h : sp_takes K vs H Q E) : rd_takes K { nx := fun _ H' => Q .non H', rt := Q } (start ["a", "b", "c", "d", "e"] vs) H := by
  obtain ⟨G, L, l, w, n, rfl, nw, hln, hlw, hw, q⟩ := h
  show rd_takes K _ [some (.str (S l)), some (.int w), some (.int n), none, none] H
  unfold rd_takes
  repeat walk_at "s"
  refine w_enumI (.str (S l)) _ rfl ?_
  refine lc_now nw (fun i acc G' L' => acc = ((List.range i).map fun k => decide (l[k]? = some 45) || decide (l[k]? = some (48 + bitA w n k))).map V.bl ∧ G' = G ∧ L' = L) ⟨rfl, rfl, rfl⟩ (fun _ _ _ _ _ _ _ => rfl) ?_ ?_
  · rintro D i x H1 H2 acc G' L' hi ⟨rfl, rfl, rfl⟩ n1 ⟨T, x', rfl, hT, rfl, hx⟩
    rw [signs_S] at hx
    obtain ⟨c, hc, rfl⟩ := get_of hx
    have hil : i < l.length := by rw [signs_S, List.length_map] at hi; exact hi
    have n2 := n1.new (o := .tup [.int (i : Nat), sg c]) hT
    refine w_gtup (sqT upd_same) rfl ?_
    repeat walk_at "s"
    refine ⟨rfl, ?_⟩
    repeat walk_at "s"
    refine w_iteT rfl ?_
    repeat walk_at "s"
    have hcc := hln c (List.mem_of_getElem? hc)
    have add : ∀ (H3 : Hp) (b : Bool), Now G' ((D, .lst (((List.range i).map fun k => decide (l[k]? = some 45) || decide (l[k]? = some (48 + bitA w n k))).map V.bl)) :: L') H3 → b = (decide (l[i]? = some 45) || decide (l[i]? = some (48 + bitA w n i))) →
        ∃ acc, H3 D = some (.lst acc) ∧ acc.length < sizeLine ∧ LcP (fun i acc G'' L'' => acc = ((List.range i).map fun k => decide (l[k]? = some 45) || decide (l[k]? = some (48 + bitA w n k))).map V.bl ∧ G'' = G' ∧ L'' = L') D (i + 1) (upd H3 D (.lst (acc ++ [.bl b]))) := fun H3 b n3 e => by
      refine LcP.add n3 (by rw [List.length_map, List.length_map, List.length_range]; omega) ⟨?_, rfl, rfl⟩
      rw [range_snoc, List.map_append, e]
      rfl
    refine w_ite (fun e => ?_) (fun e => ?_)
    · refine add _ _ n2 ?_
      rw [e, hc]
      have : c = 45 := by simpa using e
      subst this
      simp
    · have hne : c ≠ 45 := by simpa using e
      repeat walk_at "s"
      refine w_intS (j := ((c - 48 : Nat) : Int)) ?_ (by rw [S_len]; exact Nat.le_of_ble_eq_true rfl) ?_
      · rcases hcc with rfl | rfl | rfl
        · exact int48
        · exact int49
        · exact absurd rfl hne
      repeat walk_at "s"
      have hp := pow_small (k := (w - 1 - (i : Int)).toNat) (by omega)
      refine w_fdivI hp.1 (by omega) ?_
      repeat walk_at "s"
      refine add _ _ n2 ?_
      rw [hc, ← bitA_int]
      have hb := bitA_01 w n i
      have h1 : decide (some c = some 45) = false := by simpa using hne
      rw [h1, Bool.false_or]
      rcases hcc with rfl | rfl | rfl
      · rcases hb with hb | hb <;> rw [hb] <;> decide
      · rcases hb with hb | hb <;> rw [hb] <;> decide
      · exact absurd rfl hne
  · rintro D H1 acc G' L' ⟨rfl, rfl, rfl⟩ n1
    repeat walk_at "s"
    refine ⟨D, _, rfl, sqL n1.get0, ?_⟩
    have e : (List.map (fun k => decide (l[k]? = some 45) || decide (l[k]? = some (48 + bitA w n k))) (List.range (signs (S l)).length)).all id = tk (bitA w n) l := by
      rw [signs_S, List.length_map, List.all_map]
      rfl
    rw [e]
    exact q H1 n1.drop

theorem scal_opt (a b : Option (List Nat)) : scal (optV a) (optV b) = true := by cases a <;> cases b <;> rfl
theorem at_sg {l : List Nat} {j : Int} (h0 : 0 ≤ j) (h : j < l.length) : atI (l.map sg) j = some (sg (l[j.toNat]'(by omega))) :=
  at_of (j := j.toNat) (by omega) (by rw [List.getElem?_map, List.getElem?_eq_getElem (by omega)]; rfl)
def sp_law (K : PySem.W.Frag) : Sp := fun vs H Q _ => ∃ (a : Addr) (ns : List Int), vs = [.ref a] ∧ SqL K H a (ns.map V.int) ∧ ns.length ≤ 63 ∧ ∀ H', Q (.bl true) H'
theorem ln_law {K : PySem.W.Frag} {vs : List V} {H : Hp} {Q : VK} {E : XK} (h : sp_law K vs H Q E) : vs.length = 1 := by
  obtain ⟨a, ns, rfl, _⟩ := h; rfl
theorem now0 (H : Hp) : Now H [] H := ⟨fun _ _ h => h, fun _ h => (nomatch h), fun _ h => (nomatch h), List.nodup_nil⟩

/-! PB: what two lanes have in common, in plain Lean. -/
def okp (a b : Nat) : Bool := decide (a = 45) || decide (b = 45) || decide (a = b)
def mix (a b : Nat) : Nat := if a = 45 then b else a
def cmn (l m : List Nat) : Option (List Nat) := if (l.zip m).all (fun p => okp p.1 p.2) then some (List.zipWith mix l m) else none
def wth (l m : List Nat) : Bool := (l.zip m).all fun p => decide (45 = p.2) || decide (p.1 = p.2)
/-- bits that a number writes in a width -/
def bitN (w n k : Nat) : Nat := n / 2 ^ (w - 1 - k) % 2
theorem zip_get {l m : List Nat} {k : Nat} (h : l.length = m.length) (hk : k < l.length) : (l.zip m)[k]? = some (l[k], m[k]'(by omega)) := by
  rw [List.getElem?_eq_getElem (by rw [List.length_zip]; omega), List.getElem_zip]
theorem all_zip {l m : List Nat} {f : Nat → Nat → Bool} (h : l.length = m.length) : (l.zip m).all (fun p => f p.1 p.2) = true ↔ ∀ k (hk : k < l.length), f l[k] (m[k]'(by omega)) = true := by
  rw [List.all_eq_true]
  constructor
  · intro ha k hk
    exact ha (l[k], m[k]'(by omega)) (List.mem_of_getElem? (zip_get h hk))
  · intro ha p hp
    obtain ⟨k, hk⟩ := List.getElem?_of_mem hp
    have hkl : k < l.length := by
      have := (List.getElem?_eq_some_iff.mp hk).1
      rw [List.length_zip] at this
      omega
    rw [zip_get h hkl] at hk
    cases hk
    exact ha k hkl
theorem okp_comm (a b : Nat) : okp a b = okp b a := by
  unfold okp
  rw [Bool.or_comm (decide (a = 45))]
  congr 1
  rw [decide_eq_decide]
  exact eq_comm
theorem cmn_comm {l m : List Nat} (h : l.length = m.length) : cmn m l = cmn l m := by
  unfold cmn
  have e : (m.zip l).all (fun p => okp p.1 p.2) = (l.zip m).all (fun p => okp p.1 p.2) := by
    rw [Bool.eq_iff_iff, all_zip h.symm, all_zip h]
    constructor
    · intro ha k hk
      rw [okp_comm]; exact ha k (by omega)
    · intro ha k hk
      rw [okp_comm]; exact ha k (by omega)
  rw [e]
  cases hc : (l.zip m).all (fun p => okp p.1 p.2) with
  | false => rfl
  | true =>
    rw [if_pos rfl, if_pos rfl]
    congr 1
    rw [all_zip h] at hc
    apply List.ext_getElem
    · rw [List.length_zipWith, List.length_zipWith]; omega
    · intro k h1 h2
      rw [List.getElem_zipWith, List.getElem_zipWith]
      rw [List.length_zipWith] at h1
      have hk := hc k (by omega)
      unfold okp at hk
      unfold mix
      simp only [Bool.or_eq_true, decide_eq_true_eq] at hk
      split <;> split <;> omega
theorem cmn_len {l m f : List Nat} (h : l.length = m.length) (e : cmn l m = some f) : f.length = l.length := by
  unfold cmn at e
  split at e
  · cases e; rw [List.length_zipWith]; omega
  · cases e
theorem cmn_ln {l m f : List Nat} (hl : ∀ c ∈ l, c = 48 ∨ c = 49 ∨ c = 45) (hm : ∀ c ∈ m, c = 48 ∨ c = 49 ∨ c = 45) (e : cmn l m = some f) : ∀ c ∈ f, c = 48 ∨ c = 49 ∨ c = 45 := by
  unfold cmn at e
  split at e
  · cases e
    intro c hc
    obtain ⟨k, hk, rfl⟩ := List.getElem_of_mem hc
    rw [List.getElem_zipWith]
    unfold mix
    split
    · exact hm _ (List.getElem_mem _)
    · exact hl _ (List.getElem_mem _)
  · cases e
theorem tk_get {b : Nat → Nat} {l : List Nat} : tk b l = true ↔ ∀ k (hk : k < l.length), l[k] = 45 ∨ l[k] = 48 + b k := by
  rw [tk_iff]
  constructor
  · intro h k hk
    have := h k hk
    rw [List.getElem?_eq_getElem hk] at this
    exact this.imp Option.some.inj Option.some.inj
  · intro h k hk
    rw [List.getElem?_eq_getElem hk]
    exact (h k hk).imp (fun z => by rw [z]) (fun z => by rw [z])
theorem tk_cmn {l m f : List Nat} {b : Nat → Nat} (h : l.length = m.length) (e : cmn l m = some f) : tk b f = (tk b l && tk b m) := by
  have hfl := cmn_len h e
  unfold cmn at e
  split at e
  · rename_i hc
    cases e
    rw [all_zip h] at hc
    rw [Bool.eq_iff_iff, Bool.and_eq_true, tk_get, tk_get, tk_get]
    constructor
    · intro hf
      refine ⟨fun k hk => ?_, fun k hk => ?_⟩
      · have h1 := hf k (by omega)
        rw [List.getElem_zipWith] at h1
        unfold mix at h1
        split at h1 <;> omega
      · have h1 := hf k (by omega)
        have h2 := hc k (by omega)
        rw [List.getElem_zipWith] at h1
        unfold mix at h1
        unfold okp at h2
        simp only [Bool.or_eq_true, decide_eq_true_eq] at h2
        split at h1 <;> omega
    · intro ⟨h1, h2⟩ k hk
      rw [List.getElem_zipWith]
      have a := h1 k (by omega)
      have b := h2 k (by omega)
      unfold mix
      split <;> omega
  · cases e
theorem cmn_none {l m : List Nat} {b : Nat → Nat} (h : l.length = m.length) (e : cmn l m = none) : (tk b l && tk b m) = false := by
  cases hb : (tk b l && tk b m) with
  | false => rfl
  | true =>
    rw [Bool.and_eq_true, tk_get, tk_get] at hb
    have : (l.zip m).all (fun p => okp p.1 p.2) = true := by
      rw [all_zip h]
      intro k hk
      have a := hb.1 k hk
      have b := hb.2 k (by omega)
      unfold okp
      simp only [Bool.or_eq_true, decide_eq_true_eq]
      omega
    unfold cmn at e
    rw [if_pos this] at e
    cases e
theorem wth_tk {l m : List Nat} {b : Nat → Nat} (h : l.length = m.length) (e : wth l m = true) (ht : tk b l = true) : tk b m = true := by
  unfold wth at e
  rw [all_zip (f := fun a b => decide (45 = b) || decide (a = b)) h] at e
  rw [tk_get] at ht ⊢
  intro k hk
  have h1 := e k (by omega)
  have h2 := ht k (by omega)
  simp only [Bool.or_eq_true, decide_eq_true_eq] at h1
  omega
/-- every choice of bits is a number's -/
theorem num_of : ∀ (w : Nat) (f : Nat → Nat), (∀ k, f k = 0 ∨ f k = 1) → ∃ n, n < 2 ^ w ∧ ∀ k, k < w → bitN w n k = f k
  | 0, f, _ => ⟨0, by decide, fun k hk => by omega⟩
  | w + 1, f, hf => by
    obtain ⟨n, hn, hb⟩ := num_of w f hf
    have h2 : 2 ^ (w + 1) = 2 * 2 ^ w := by rw [Nat.pow_succ, Nat.mul_comm]
    refine ⟨2 * n + f w, by have := hf w; omega, fun k hk => ?_⟩
    by_cases hkw : k = w
    · subst hkw
      unfold bitN
      rw [show k + 1 - 1 - k = 0 by omega, Nat.pow_zero, Nat.div_one]
      have := hf k
      omega
    · have hk' : k < w := by omega
      rw [← hb k hk']
      unfold bitN
      rw [show w + 1 - 1 - k = (w - 1 - k) + 1 by omega, Nat.pow_succ, Nat.mul_comm _ 2, ← Nat.div_div_eq_div_mul]
      congr 2
      have := hf w
      omega
theorem wth_false {l m : List Nat} (h : l.length = m.length) (hl : ∀ c ∈ l, c = 48 ∨ c = 49 ∨ c = 45) (hm : ∀ c ∈ m, c = 48 ∨ c = 49 ∨ c = 45) (e : wth l m = false) : ∃ n, n < 2 ^ l.length ∧ tk (bitN l.length n) l = true ∧ tk (bitN l.length n) m = false := by
  have : ∃ k, ∃ hk : k < l.length, m[k]'(by omega) ≠ 45 ∧ l[k] ≠ m[k]'(by omega) := by
    apply Classical.byContradiction
    intro hn
    have : wth l m = true := by
      unfold wth
      rw [all_zip (f := fun a b => decide (45 = b) || decide (a = b)) h]
      intro k hk
      simp only [Bool.or_eq_true, decide_eq_true_eq]
      apply Classical.byContradiction
      intro hx
      rw [not_or] at hx
      exact hn ⟨k, hk, fun z => hx.1 z.symm, hx.2⟩
    rw [this] at e
    cases e
  obtain ⟨k, hk, h1, h2⟩ := this
  have hmk := hm _ (List.getElem_mem (show k < m.length by omega))
  let f : Nat → Nat := fun j => if j = k ∧ l[k] = 45 then 49 - m[k]'(by omega) else if l[j]? = some 49 then 1 else 0
  have hf : ∀ j, f j = 0 ∨ f j = 1 := by
    intro j
    show (if j = k ∧ l[k] = 45 then 49 - m[k]'(by omega) else if l[j]? = some 49 then 1 else 0) = 0 ∨ (if j = k ∧ l[k] = 45 then 49 - m[k]'(by omega) else if l[j]? = some 49 then 1 else 0) = 1
    split
    · omega
    · split <;> omega
  obtain ⟨n, hn, hb⟩ := num_of l.length f hf
  refine ⟨n, hn, ?_, ?_⟩
  · rw [tk_get]
    intro j hj
    rw [hb j hj]
    have hlj := hl _ (List.getElem_mem hj)
    show l[j] = 45 ∨ l[j] = 48 + (if j = k ∧ l[k] = 45 then 49 - m[k]'(by omega) else if l[j]? = some 49 then 1 else 0)
    by_cases h45 : l[j] = 45
    · exact .inl h45
    · right
      have hne : ¬ (j = k ∧ l[k] = 45) := fun z => by
        obtain ⟨rfl, z⟩ := z
        exact h45 z
      rw [if_neg hne, List.getElem?_eq_getElem hj]
      by_cases h49 : l[j] = 49
      · rw [if_pos (by rw [h49]), h49]
      · rw [if_neg (fun z => h49 (Option.some.inj z))]; omega
  · cases hx : tk (bitN l.length n) m with
    | false => rfl
    | true =>
      rw [tk_get] at hx
      have := hx k (by omega)
      rw [hb k hk] at this
      have hlk := hl _ (List.getElem_mem hk)
      have this2 : m[k]'(by omega) = 48 + (if k = k ∧ l[k] = 45 then 49 - m[k]'(by omega) else if l[k]? = some 49 then 1 else 0) := this.resolve_left h1
      by_cases h45 : l[k] = 45
      · rw [if_pos ⟨rfl, h45⟩] at this2
        omega
      · rw [if_neg (fun z => h45 z.2), List.getElem?_eq_getElem hk] at this2
        by_cases h49 : l[k] = 49
        · rw [if_pos (by rw [h49])] at this2; omega
        · rw [if_neg (fun z => h49 (Option.some.inj z))] at this2; omega
/-- the numbers that a lane takes -/
def nms (l : List Nat) : List Nat := (List.range (2 ^ l.length)).filter fun n => tk (bitN l.length n) l
theorem nms_some {l : List Nat} (hl : ∀ c ∈ l, c = 48 ∨ c = 49 ∨ c = 45) : nms l ≠ [] := by
  obtain ⟨n, hn, hb⟩ := num_of l.length (fun j => if l[j]? = some 49 then 1 else 0) (fun j => by
    show (if l[j]? = some 49 then 1 else 0) = 0 ∨ (if l[j]? = some 49 then 1 else 0) = 1
    split <;> omega)
  intro e
  have : n ∈ nms l := by
    unfold nms
    rw [List.mem_filter, List.mem_range]
    refine ⟨hn, ?_⟩
    rw [tk_get]
    intro j hj
    rw [hb j hj]
    have hlj := hl _ (List.getElem_mem hj)
    show l[j] = 45 ∨ l[j] = 48 + (if l[j]? = some 49 then 1 else 0)
    rw [List.getElem?_eq_getElem hj]
    by_cases h49 : l[j] = 49
    · rw [if_pos (by rw [h49]), h49]; exact .inr rfl
    · rw [if_neg (fun z => h49 (Option.some.inj z))]; omega
  rw [e] at this
  cases this
/-- those of the one that are the other's -/
def both (l m : List Nat) : List Nat := (nms l).filter fun n => decide (n ∈ nms m)
theorem both_eq {l m : List Nat} (h : l.length = m.length) : both l m = (List.range (2 ^ l.length)).filter fun n => tk (bitN l.length n) l && tk (bitN l.length n) m := by
  unfold both nms
  rw [List.filter_filter]
  apply List.filter_congr
  intro n hn
  rw [← h]
  have hn' := List.mem_range.mp hn
  rw [Bool.and_comm]
  congr 1
  rw [Bool.eq_iff_iff, decide_eq_true_eq, List.mem_filter, List.mem_range]
  exact ⟨fun z => z.2, fun z => ⟨hn', z⟩⟩
theorem both_cmn {l m f : List Nat} (h : l.length = m.length) (e : cmn l m = some f) : nms f = both l m := by
  rw [both_eq h]
  unfold nms
  rw [cmn_len h e]
  apply List.filter_congr
  intro n _
  exact tk_cmn h e
theorem both_none {l m : List Nat} (h : l.length = m.length) (e : cmn l m = none) : both l m = [] := by
  rw [both_eq h, List.filter_eq_nil_iff]
  intro n _
  rw [cmn_none h e]
  exact Bool.false_ne_true
theorem both_wth {l m : List Nat} (h : l.length = m.length) (hl : ∀ c ∈ l, c = 48 ∨ c = 49 ∨ c = 45) (hm : ∀ c ∈ m, c = 48 ∨ c = 49 ∨ c = 45) : decide (both l m = nms l) = wth l m := by
  cases hw : wth l m with
  | true =>
    apply decide_eq_true
    unfold both
    rw [List.filter_eq_self]
    intro n hn
    unfold nms at hn ⊢
    rw [List.mem_filter, List.mem_range] at hn
    rw [decide_eq_true_eq, List.mem_filter, List.mem_range, ← h]
    exact ⟨hn.1, wth_tk h hw hn.2⟩
  | false =>
    apply decide_eq_false
    intro e
    obtain ⟨n, hn, h1, h2⟩ := wth_false h hl hm hw
    have : n ∈ nms l := by
      unfold nms
      rw [List.mem_filter, List.mem_range]
      exact ⟨hn, h1⟩
    rw [← e] at this
    unfold both nms at this
    rw [List.mem_filter, decide_eq_true_eq, List.mem_filter, ← h] at this
    have t2 := (List.mem_filter.mp this.2).2
    rw [h2] at t2
    exact absurd t2 Bool.false_ne_true
theorem both_comm {l m : List Nat} (h : l.length = m.length) : both m l = both l m := by
  rw [both_eq h, both_eq h.symm, h]
  apply List.filter_congr
  intro n _
  rw [Bool.and_comm]

theorem bitA_nat (W n : Nat) : bitA (W : Int) (n : Int) = bitN W n := by
  funext k
  unfold bitA bitN
  have e : ((W : Int) - 1 - (k : Int)).toNat = W - 1 - k := by omega
  rw [e]
  have e2 : ((n : Int) / 2 ^ (W - 1 - k) % 2) = ((n / 2 ^ (W - 1 - k) % 2 : Nat) : Int) := by push_cast; rfl
  rw [e2]
  rfl
theorem zw_get {l m : List Nat} {i c d : Nat} (hc : l[i]? = some c) (hd : m[i]? = some d) : (List.zipWith mix l m)[i]? = some (mix c d) := by
  rw [List.getElem?_zipWith, hc, hd]
theorem zp_get {l m : List Nat} {i c d : Nat} (hc : l[i]? = some c) (hd : m[i]? = some d) : (l.zip m)[i]? = some (c, d) := by
  rw [List.zip, List.getElem?_zipWith, hc, hd]
/-! ### common, within -/
def sp_common (K : PySem.W.Frag) : Sp := fun vs H Q _ => ∃ (G : Hp) (L : List (Addr × HO)) (l m : List Nat), vs = [.str (S l), .str (S m)] ∧ Now G L H ∧ l.length = m.length ∧ l.length ≤ 1000 ∧ ∀ H', Now G L H' → Q (optV (cmn l m)) H'
def sp_within (K : PySem.W.Frag) : Sp := fun vs H Q _ => ∃ (G : Hp) (L : List (Addr × HO)) (l m : List Nat), vs = [.str (S l), .str (S m)] ∧ Now G L H ∧ l.length = m.length ∧ l.length ≤ 1000 ∧ ∀ H', Now G L H' → Q (.bl (wth l m)) H'
/- common(lane, other): 0 lane, 1 other, 2 found, 3 one, 4 two -/
def rd_common (K : PySem.W.Frag) : TS := (tSeq (tAsg (tC (.str (SX.S []))) (gName 2))
  (tSeq (tFor (iZipS K (tCons (tVar 0) (tCons (tVar 1) tNil)) (tCons (tC (.bl true)) tNil)) (gTup K 2 (gCons (gName 3) (gCons (gName 4) gNil))) (tSeq (tIfS (tAnd (tTest (tOp (rNiU K) (tC (.str (SX.S [45]))) (tTup (tCons (tVar 3) (tCons (tVar 4) tNil))))) (tTest (tOp (rNeU K) (tVar 3) (tVar 4)))) (tRet (tC .non)) tNext)
  (tAug 2 (tIf (tTest (tOp (rEqU K) (tVar 3) (tC (.str (SX.S [45]))))) (tVar 4) (tVar 3)) (ipAddU K))))
  (tRet (tVar 2))))
/- within(lane, other): 0 lane, 1 other, 2 one, 3 two -/
def rd_within (K : PySem.W.Frag) : TS := (tRet (tCB (rAll K) (tCons (tLc (iZipS K (tCons (tVar 0) (tCons (tVar 1) tNil)) (tCons (tC (.bl true)) tNil)) (gTup K 2 (gCons (gName 2) (gCons (gName 3) gNil))) tYes (tOp (rInU K) (tVar 3) (tTup (tCons (tC (.str (SX.S [45]))) (tCons (tVar 2) tNil)))) [2, 3]) tNil)))
theorem ln_common {K : PySem.W.Frag} {vs : List V} {H : Hp} {Q : VK} {E : XK} (h : sp_common K vs H Q E) : vs.length = 2 := by
  obtain ⟨G, L, l, m, rfl, _⟩ := h; rfl
theorem ln_within {K : PySem.W.Frag} {vs : List V} {H : Hp} {Q : VK} {E : XK} (h : sp_within K vs H Q E) : vs.length = 2 := by
  obtain ⟨G, L, l, m, rfl, _⟩ := h; rfl
theorem cmn_all {l m : List Nat} (h : ((l.zip m).all fun p => okp p.1 p.2) = true) : cmn l m = some (List.zipWith mix l m) := by unfold cmn; rw [if_pos h]
theorem cmn_not {l m : List Nat} {i c d : Nat} (hc : l[i]? = some c) (hd : m[i]? = some d) (h : okp c d = false) : cmn l m = none := by
  unfold cmn
  rw [if_neg]
  intro ha
  rw [List.all_eq_true] at ha
  have := ha (c, d) (List.mem_of_getElem? (zp_get hc hd))
  rw [h] at this
  cases this
theorem ok_rd_common {K : PySem.W.Frag} {vs : List V} {H : Hp} {Q : VK} {E : XK} (h : sp_common K vs H Q E) : rd_common K { nx := fun _ H' => Q .non H', rt := Q } (start ["a", "b", "c", "d", "e"] vs) H := by
  obtain ⟨G, L, l, m, rfl, nw, hlm, hl, q⟩ := h
  show rd_common K _ [some (.str (S l)), some (.str (S m)), none, none, none] H
  unfold rd_common
  repeat walk_at "s"
  refine w_zipI (.str (S l)) (.str (S m)) _ _ rfl rfl (by rw [signs_S, signs_S, List.length_map, List.length_map]; exact hlm) ?_
  refine for_k (fun i σ H => ∃ y3 y4, σ = [some (.str (S l)), some (.str (S m)), some (.str (S ((List.zipWith mix l m).take i))), y3, y4] ∧ Now G L H ∧ (((l.zip m).take i).all fun p => okp p.1 p.2) = true) ⟨_, _, rfl, nw, rfl⟩ (fun _ _ _ _ => ⟨rfl, rfl⟩) ?_ ?_
  · rintro i x σ H1 H2 hi ⟨y3, y4, rfl, n1, hall⟩ ⟨T, x', y', rfl, hT, rfl, hx, hy⟩
    rw [signs_S] at hx hy
    obtain ⟨c, hc, rfl⟩ := get_of hx
    obtain ⟨d, hd, rfl⟩ := get_of hy
    have hil : i < l.length := by rw [signs_S, List.length_map] at hi; exact hi
    have n2 := n1.new (o := .tup [sg c, sg d]) hT
    refine w_gtup (sqT upd_same) rfl ?_
    refine w_gcons (w_gname (w_gcons (w_gname (w_gnil ?_))))
    refine w_seqH (fun σ' H' => σ' = [some (.str (S l)), some (.str (S m)), some (.str (S ((List.zipWith mix l m).take i))), some (sg c), some (sg d)] ∧ Now G L H' ∧ okp c d = true) ?_ ?_
    · rintro σ' H' ⟨rfl, n3, hok⟩
      have hall' : (((l.zip m).take (i + 1)).all fun p => okp p.1 p.2) = true := by
        rw [take_snoc (zp_get hc hd), List.all_append, hall]
        show (true && (okp c d && true)) = true
        rw [hok]; rfl
      have hlen : ((List.zipWith mix l m).take i).length ≤ 1000 := by rw [List.length_take, List.length_zipWith]; omega
      repeat walk_at "s"
      refine w_ite (fun e => ?_) (fun e => ?_)
      · repeat walk_at "s"
        refine w_ipaddT (by simp; omega) ?_
        refine ⟨some (sg c), some (sg d), ?_, n3, hall'⟩
        rw [take_snoc (zw_get hc hd)]
        have : c = 45 := by simpa using e
        unfold mix
        rw [if_pos this]
        rfl
      · repeat walk_at "s"
        refine w_ipaddT (by simp; omega) ?_
        refine ⟨some (sg c), some (sg d), ?_, n3, hall'⟩
        rw [take_snoc (zw_get hc hd)]
        have : ¬ c = 45 := by simpa using e
        unfold mix
        rw [if_neg this]
        rfl
    · intro R hR
      repeat walk_at "s"
      refine w_tupG n2 (Nat.le_of_ble_eq_true rfl) fun T2 G2 H3 e2 hT2 n3 => ?_
      refine w_notin2 n3 (n3.ex _ _ hT2) ?_
      repeat walk_at "s"
      refine w_ite (fun e => ?_) (fun e => ?_)
      · repeat walk_at "s"
        have hcd : ¬ c = 45 ∧ ¬ d = 45 := by simpa using e
        refine w_ite (fun e3 => ?_) (fun e3 => ?_)
        · repeat walk_at "s"
          have hne : ¬ c = d := by simpa using e3
          have := q _ (n3.weak e2)
          rw [cmn_not hc hd (by unfold okp; simp [hcd.1, hcd.2, hne])] at this
          exact this
        · have hne : c = d := by simpa using e3
          exact hR _ _ ⟨rfl, n3.weak e2, by unfold okp; simp [hne]⟩
      · refine w_iteF rfl ?_
        refine hR _ _ ⟨rfl, n3.weak e2, ?_⟩
        have : c = 45 ∨ d = 45 := by
          have e' : ¬ c = 45 → d = 45 := by simpa using e
          exact (Decidable.em (c = 45)).imp id e'
        unfold okp
        rcases this with h | h <;> simp [h]
  · rintro σ H1 ⟨y3, y4, rfl, n1, hall⟩
    repeat walk_at "s"
    have e1 : (signs (S l)).length = l.length := by rw [signs_S, List.length_map]
    have e2 : (l.zip m).take (signs (S l)).length = l.zip m := by rw [e1, List.take_of_length_le]; rw [List.length_zip]; omega
    have e3 : (List.zipWith mix l m).take (signs (S l)).length = List.zipWith mix l m := by rw [e1, List.take_of_length_le]; rw [List.length_zipWith]; omega
    rw [e2] at hall
    rw [e3]
    have := q _ n1
    rw [cmn_all hall] at this
    exact this
theorem ok_rd_within {K : PySem.W.Frag} {vs : List V} {H : Hp} {Q : VK} {E : XK} (h : sp_within K vs H Q E) : rd_within K { nx := fun _ H' => Q .non H', rt := Q } (start ["a", "b", "c", "d"] vs) H := by
  obtain ⟨G, L, l, m, rfl, nw, hlm, hl, q⟩ := h
  show rd_within K _ [some (.str (S l)), some (.str (S m)), none, none] H
  unfold rd_within
  repeat walk_at "s"
  refine w_zipI (.str (S l)) (.str (S m)) _ _ rfl rfl (by rw [signs_S, signs_S, List.length_map, List.length_map]; exact hlm) ?_
  refine lc_now nw (fun i acc G' L' => acc = (((l.zip m).take i).map fun p => decide (45 = p.2) || decide (p.1 = p.2)).map V.bl ∧ G' = G ∧ L' = L) ⟨rfl, rfl, rfl⟩ (fun _ _ _ _ _ _ _ => ⟨rfl, rfl⟩) ?_ ?_
  · rintro D i x H1 H2 acc G' L' hi ⟨rfl, rfl, rfl⟩ n1 ⟨T, x', y', rfl, hT, rfl, hx, hy⟩
    rw [signs_S] at hx hy
    obtain ⟨c, hc, rfl⟩ := get_of hx
    obtain ⟨d, hd, rfl⟩ := get_of hy
    have hil : i < l.length := by rw [signs_S, List.length_map] at hi; exact hi
    have n2 := n1.new (o := .tup [sg c, sg d]) hT
    refine w_gtup (sqT upd_same) rfl ?_
    repeat walk_at "s"
    refine ⟨rfl, ?_⟩
    repeat walk_at "s"
    refine w_iteT rfl ?_
    repeat walk_at "s"
    refine w_tupG n2 (Nat.le_of_ble_eq_true rfl) fun T2 G2 H3 e2 hT2 n3 => ?_
    refine w_in2 n3 (n3.ex _ _ hT2) ?_
    refine LcP.add (n3.weak e2) (by rw [List.length_map, List.length_map, List.length_take, List.length_zip]; omega) ⟨?_, rfl, rfl⟩
    rw [take_snoc (zp_get hc hd), List.map_append, List.map_append, eqSg, eqSg]
    rfl
  · rintro D H1 acc G' L' ⟨rfl, rfl, rfl⟩ n1
    repeat walk_at "s"
    refine ⟨D, _, rfl, sqL n1.get0, ?_⟩
    have e1 : (signs (S l)).length = l.length := by rw [signs_S, List.length_map]
    have e2 : (l.zip m).take (signs (S l)).length = l.zip m := by rw [e1, List.take_of_length_le]; rw [List.length_zip]; omega
    have e : (List.map (fun p : Nat × Nat => decide (45 = p.2) || decide (p.1 = p.2)) ((l.zip m).take (signs (S l)).length)).all id = wth l m := by
      rw [e2, List.all_map]
      rfl
    rw [e]
    exact q H1 n1.drop

/-! ### the same, kind by kind -/
def srSame (K : PySem.W.Frag) : Nat → Sp
  | 0 => fun _ _ _ _ => False
  | n + 1 => fun vs H Q _ => ∃ (G : Hp) (L : List (Addr × HO)) (x y : V) (d : PyData), vs = [x, y] ∧ Now G L H ∧ Dp K G x d ∧ Dp K G y d ∧ Dn n d ∧ ∀ H', Now G L H' → Q (.bl true) H'
def sr_same (K : PySem.W.Frag) (n : Nat) : Sp := srSame K n
def sp_same (K : PySem.W.Frag) : Sp := sr_same K 6
/- _law_same(_law_found, _law_due): 0 _law_found, 1 _law_due, 2 _law_one, 3 _law_other -/
def rd_same (K : PySem.W.Frag) (n : Nat) : TS := (tSeq (tIfS (tTrth K (tCB (rIsiU K) (tCons (tVar 1) (tCons (tTup (tCons (tC (.ty "list")) (tCons (tC (.ty "tuple")) tNil))) tNil)))) (tSeq (tIfS (tOr (tTest (tOp (rNeU K) (tCB (rIsiU K) (tCons (tVar 0) (tCons (tC (.ty "list")) tNil))) (tCB (rIsiU K) (tCons (tVar 1) (tCons (tC (.ty "list")) tNil))))) (tTest (tOp (rNeU K) (tCB (rIsiU K) (tCons (tVar 0) (tCons (tC (.ty "tuple")) tNil))) (tCB (rIsiU K) (tCons (tVar 1) (tCons (tC (.ty "tuple")) tNil)))))) (tRet (tC (.bl false))) tNext)
  (tRet (tAndT K (tOp (rEqU K) (tCB (rLenU K) (tCons (tVar 0) tNil)) (tCB (rLenU K) (tCons (tVar 1) tNil))) (tCB (rAll K) (tCons (tLc (iZipN K (tCons (tVar 0) (tCons (tVar 1) tNil))) (gTup K 2 (gCons (gName 2) (gCons (gName 3) gNil))) tYes (tCall (sr_same K n) [] E0 (tCons (tVar 2) (tCons (tVar 3) tNil))) [2, 3]) tNil))))) tNext)
  (tSeq (tIfS (tOr (tTest (tOp rIsU (tVar 1) (tC .non))) (tTrth K (tCB (rIsiU K) (tCons (tVar 1) (tCons (tTup (tCons (tC (.ty "bool")) (tCons (tC (.ty "str")) tNil))) tNil))))) (tRet (tAndT K (tOp (rEqU K) (tVar 0) (tVar 1)) (tAndT K (tOp (rEqU K) (tCB (rIsiU K) (tCons (tVar 0) (tCons (tC (.ty "bool")) tNil))) (tCB (rIsiU K) (tCons (tVar 1) (tCons (tC (.ty "bool")) tNil)))) (tOp (rEqU K) (tOp rIsU (tVar 0) (tC .non)) (tOp rIsU (tVar 1) (tC .non)))))) tNext)
  (tRet (tAndT K (tCB (rIsiU K) (tCons (tVar 0) (tCons (tC (.ty "int")) tNil))) (tAndT K (tNotT K (tCB (rIsiU K) (tCons (tVar 0) (tCons (tC (.ty "bool")) tNil)))) (tOp (rEqU K) (tVar 0) (tVar 1)))))))
theorem ln_same {K : PySem.W.Frag} {n : Nat} {vs : List V} {H : Hp} {Q : VK} {E : XK} (h : sr_same K (n + 1) vs H Q E) : vs.length = 2 := by
  obtain ⟨G, L, x, y, d, rfl, _⟩ := h; rfl
theorem len_dp {K : PySem.W.Frag} {H : Hp} {Q : VK} {x : V} {ds : List PyData} (h : Dp K H x (.list ds) ∨ Dp K H x (.tuple ds)) (q : Q (.int (ds.length : Nat)) H) : rLenU K [x] H Q := by
  rcases h with h | h
  · cases h with
    | lst h hs => rw [← hs.len] at q; exact w_lenL h q
  · cases h with
    | tup h hs => rw [← hs.len] at q; exact w_lenT h q
theorem sk_dp {K : PySem.W.Frag} {G : Hp} {x : V} {ds : List PyData} (h : Dp K G x (.list ds) ∨ Dp K G x (.tuple ds)) : ∃ (k : Sk) (xs : List V), x = k.v ∧ (∀ H, Ex G H → k.has K H xs) ∧ DpAll K G xs ds := by
  rcases h with h | h
  · cases h with
    | @lst a xs _ h hs => exact ⟨.lst a, xs, rfl, fun H e => sq_ex e h, hs⟩
  · cases h with
    | @tup a xs _ h hs => exact ⟨.tup a, xs, rfl, fun H e => st_ex e h, hs⟩
theorem ok_rd_same {K : PySem.W.Frag} {n : Nat} {vs : List V} {H : Hp} {Q : VK} {E : XK} (h : sr_same K (n + 1) vs H Q E) : rd_same K n { nx := fun _ H' => Q .non H', rt := Q } (start ["a", "b", "c", "d"] vs) H := by
  obtain ⟨G, L, x, y, d, rfl, nw, hx, hy, hd, q⟩ := h
  show rd_same K n _ [some x, some y, none, none] H
  unfold rd_same
  repeat walk_at "s"
  refine w_tupG nw (Nat.le_of_ble_eq_true rfl) fun T G1 H1 e1 hT n1 => ?_
  repeat walk_at "s"
  have hx1 := hx.ex (e1.trans n1.Ex)
  have hy1 := hy.ex (e1.trans n1.Ex)
  refine w_isi2 hy1 (by decide) (by decide) (n1.ex _ _ hT) ?_
  repeat walk_at "s"
  refine w_ite (fun e => ?_) (fun e => ?_)
  · have hds : ∃ ds m, (d = .list ds ∨ d = .tuple ds) ∧ n = m + 1 ∧ (∀ d ∈ ds, Dn m d) ∧ ds.length < 100000 := by
      cases hd with
      | @lst m ds h hl => exact ⟨ds, m, .inl rfl, rfl, h, hl⟩
      | @tup m ds h hl => exact ⟨ds, m, .inr rfl, rfl, h, hl⟩
      | non => exact absurd e (by simp [tyN, isa])
      | bl => exact absurd e (by simp [tyN, isa])
      | int => exact absurd e (by simp [tyN, isa])
      | str => exact absurd e (by simp [tyN, isa])
    obtain ⟨ds, m, hdd, rfl, hall, hlen⟩ := hds
    repeat walk_at "s"
    refine w_isi hx1 (by decide) ?_
    repeat walk_at "s"
    refine w_isi hy1 (by decide) ?_
    repeat walk_at "s"
    refine w_iteF (by simp) ?_
    repeat walk_at "s"
    refine w_isi hx1 (by decide) ?_
    repeat walk_at "s"
    refine w_isi hy1 (by decide) ?_
    repeat walk_at "s"
    refine w_iteF (by simp) ?_
    repeat walk_at "s"
    have cx : Dp K H1 x (.list ds) ∨ Dp K H1 x (.tuple ds) := hdd.elim (fun z => .inl (z ▸ hx1)) (fun z => .inr (z ▸ hx1))
    have cy : Dp K H1 y (.list ds) ∨ Dp K H1 y (.tuple ds) := hdd.elim (fun z => .inl (z ▸ hy1)) (fun z => .inr (z ▸ hy1))
    have gx : Dp K G x (.list ds) ∨ Dp K G x (.tuple ds) := hdd.elim (fun z => .inl (z ▸ hx)) (fun z => .inr (z ▸ hx))
    have gy : Dp K G y (.list ds) ∨ Dp K G y (.tuple ds) := hdd.elim (fun z => .inl (z ▸ hy)) (fun z => .inr (z ▸ hy))
    refine len_dp cx ?_
    repeat walk_at "s"
    refine len_dp cy ?_
    repeat walk_at "s"
    refine w_iteT (by simp) ?_
    repeat walk_at "s"
    obtain ⟨k1, xs, rfl, kx, dx⟩ := sk_dp gx
    obtain ⟨k2, ys, rfl, ky, dy⟩ := sk_dp gy
    have hl1 := dx.len
    have hl2 := dy.len
    refine w_zipNI k1 k2 xs ys (kx _ (e1.trans n1.Ex)) (ky _ (e1.trans n1.Ex)) ?_
    refine lc_now (n1.weak e1) (fun i acc G' L' => acc = ((List.range i).map fun _ => true).map V.bl ∧ G' = G ∧ L' = L) ⟨rfl, rfl, rfl⟩ (fun _ _ _ _ H h n => by obtain ⟨_, rfl, rfl⟩ := h; exact ⟨kx _ n.Ex, ky _ n.Ex⟩) ?_ ?_
    · rintro D i z H2 H3 acc G' L' hi ⟨rfl, rfl, rfl⟩ n2 ⟨T2, x', y', rfl, hT2, rfl, hx', hy'⟩
      have n3 := n2.new (o := .tup [x', y']) hT2
      refine w_gtup (sqT upd_same) rfl ?_
      repeat walk_at "s"
      refine ⟨rfl, ?_⟩
      repeat walk_at "s"
      refine w_iteT rfl ?_
      repeat walk_at "s"
      obtain ⟨d1, hd1, px⟩ := dx.get hx'
      obtain ⟨d2, hd2, py⟩ := dy.get hy'
      rw [hd1] at hd2
      cases hd2
      refine ⟨_, _, x', y', d1, rfl, n3, px, py, hall d1 (List.mem_of_getElem? hd1), fun H4 n4 => ?_⟩
      refine LcP.add n4 (by rw [List.length_map, List.length_map, List.length_range]; omega) ⟨?_, rfl, rfl⟩
      rw [range_snoc, List.map_append]
      rfl
    · rintro D H2 acc G' L' ⟨rfl, rfl, rfl⟩ n2
      repeat walk_at "s"
      refine ⟨D, _, rfl, sqL n2.get0, ?_⟩
      have e : ∀ n : Nat, ((List.range n).map fun _ => true).all id = true := fun n => by simp
      rw [e]
      exact q H2 n2.drop
  · repeat walk_at "s"
    cases hx with
    | lst _ _ => exact absurd e (by simp [tyN, isa])
    | tup _ _ => exact absurd e (by simp [tyN, isa])
    | non =>
      cases hy
      refine w_iteT rfl (w_iteT rfl ?_)
      repeat walk_at "s"
      refine w_eqV rfl ?_
      repeat walk_at "s"
      refine w_iteT rfl ?_
      repeat walk_at "s"
      refine w_isi hx1 (by decide) ?_
      repeat walk_at "s"
      refine w_isi hy1 (by decide) ?_
      repeat walk_at "s"
      refine w_iteT rfl ?_
      repeat walk_at "s"
      exact q _ (n1.weak e1)
    | bl b =>
      cases hy
      refine w_iteF rfl ?_
      repeat walk_at "s"
      refine w_tupG n1 (Nat.le_of_ble_eq_true rfl) fun T2 G2 H2 e2 hT2 n2 => ?_
      repeat walk_at "s"
      refine w_isi2 (d := .bool b) (.bl b) (by decide) (by decide) (n2.ex _ _ hT2) ?_
      repeat walk_at "s"
      refine w_iteT rfl ?_
      repeat walk_at "s"
      refine w_iteT (by simp) ?_
      repeat walk_at "s"
      refine w_isi (d := .bool b) (.bl b) (by decide) ?_
      repeat walk_at "s"
      refine w_isi (d := .bool b) (.bl b) (by decide) ?_
      repeat walk_at "s"
      refine w_iteT rfl ?_
      repeat walk_at "s"
      have : decide (decide (V.bl b = V.non) = decide (V.bl b = V.non)) = true := by simp
      rw [this]
      exact q _ ((n2.weak e2).weak e1)
    | str s =>
      cases hy
      refine w_iteF rfl ?_
      repeat walk_at "s"
      refine w_tupG n1 (Nat.le_of_ble_eq_true rfl) fun T2 G2 H2 e2 hT2 n2 => ?_
      repeat walk_at "s"
      refine w_isi2 (d := .str s) (.str s) (by decide) (by decide) (n2.ex _ _ hT2) ?_
      repeat walk_at "s"
      refine w_iteT rfl ?_
      repeat walk_at "s"
      refine w_iteT (by simp) ?_
      repeat walk_at "s"
      refine w_isi (d := .str s) (.str s) (by decide) ?_
      repeat walk_at "s"
      refine w_isi (d := .str s) (.str s) (by decide) ?_
      repeat walk_at "s"
      refine w_iteT rfl ?_
      repeat walk_at "s"
      have : decide (decide (V.str s = V.non) = decide (V.str s = V.non)) = true := by simp
      rw [this]
      exact q _ ((n2.weak e2).weak e1)
    | int j =>
      cases hy
      refine w_iteF rfl ?_
      repeat walk_at "s"
      refine w_tupG n1 (Nat.le_of_ble_eq_true rfl) fun T2 G2 H2 e2 hT2 n2 => ?_
      repeat walk_at "s"
      refine w_isi2 (d := .int j) (.int j) (by decide) (by decide) (n2.ex _ _ hT2) ?_
      repeat walk_at "s"
      refine w_iteF rfl ?_
      repeat walk_at "s"
      refine w_isi (d := .int j) (.int j) (by decide) ?_
      repeat walk_at "s"
      refine w_iteT rfl ?_
      repeat walk_at "s"
      refine w_isi (d := .int j) (.int j) (by decide) ?_
      repeat walk_at "s"
      refine w_iteT rfl ?_
      repeat walk_at "s"
      rw [decide_eq_true rfl]
      exact q _ ((n2.weak e2).weak e1)

/-! PC: a lane less another, in plain Lean. -/
def plc (l m : List Nat) (k : Nat) : Bool := decide (l[k]? = some 45) && !decide (m[k]? = some 45)
def flp (c : Nat) : Nat := if c = 48 then 49 else 48
def cut (l m : List Nat) (p : Nat) : List Nat := (List.zipWith mix l m).take p ++ flp (m[p]?.getD 0) :: l.drop (p + 1)
def les (l m : List Nat) : List (List Nat) := if (cmn l m).isNone then [l] else ((List.range l.length).filter (plc l m)).map (cut l m)
def hr (l m : List Nat) (i : Nat) : List Nat := (List.zipWith mix l m).take i ++ l.drop i
section
variable {l m : List Nat} {i k p c d : Nat} {b : Nat → Nat}
theorem zw_len (h : l.length = m.length) : (List.zipWith mix l m).length = l.length := by rw [List.length_zipWith]; omega
theorem hr_take (h : l.length = m.length) (hi : i ≤ l.length) : (hr l m i).take i = (List.zipWith mix l m).take i := by
  unfold hr
  have e : ((List.zipWith mix l m).take i).length = i := by rw [List.length_take, zw_len h]; omega
  rw [List.take_append_of_le_length (by omega), List.take_of_length_le (by omega)]
theorem hr_drop (h : l.length = m.length) (hi : i ≤ l.length) : (hr l m i).drop (i + 1) = l.drop (i + 1) := by
  unfold hr
  have e : ((List.zipWith mix l m).take i).length = i := by rw [List.length_take, zw_len h]; omega
  rw [List.drop_append, List.drop_of_length_le (by omega), e, List.nil_append, List.drop_drop]
  congr 1
  omega
theorem hr_len (h : l.length = m.length) (hi : i ≤ l.length) : (hr l m i).length = l.length := by
  unfold hr
  rw [List.length_append, List.length_take, zw_len h, List.length_drop]; omega
theorem hr_zero : hr l m 0 = l := by unfold hr; simp
theorem drop_get (hc : l[i]? = some c) : l.drop i = c :: l.drop (i + 1) := by
  have hlt := (List.getElem?_eq_some_iff.mp hc).1
  rw [List.drop_eq_getElem_cons hlt]
  congr 1
  exact (List.getElem?_eq_some_iff.mp hc).2
theorem hr_next (hc : l[i]? = some c) (hd : m[i]? = some d) : hr l m (i + 1) = (List.zipWith mix l m).take i ++ mix c d :: l.drop (i + 1) := by
  unfold hr
  have e : (List.zipWith mix l m)[i]? = some (mix c d) := by rw [List.getElem?_zipWith, hc, hd]
  rw [List.take_succ, e, Option.toList_some, List.append_assoc]
  rfl
theorem hr_same (hc : l[i]? = some c) (hd : m[i]? = some d) (e : mix c d = c) : hr l m (i + 1) = hr l m i := by
  rw [hr_next hc hd, e]
  unfold hr
  rw [drop_get hc]
theorem cut_len (h : l.length = m.length) (hp : p < l.length) : (cut l m p).length = l.length := by
  unfold cut
  rw [List.length_append, List.length_take, zw_len h, List.length_cons, List.length_drop]; omega
theorem cut_get (h : l.length = m.length) (hp : p < l.length) (hk : k < l.length) : (cut l m p)[k]? = some (if k < p then mix l[k] (m[k]'(by omega)) else if k = p then flp (m[p]'(by omega)) else l[k]) := by
  have e : ((List.zipWith mix l m).take p).length = p := by rw [List.length_take, zw_len h]; omega
  unfold cut
  by_cases h1 : k < p
  · rw [List.getElem?_append_left (by omega), if_pos h1, List.getElem?_take, if_pos h1, List.getElem?_zipWith, List.getElem?_eq_getElem hk, List.getElem?_eq_getElem (show k < m.length by omega)]
  · rw [List.getElem?_append_right (by omega), e, if_neg h1]
    by_cases h2 : k = p
    · subst h2
      rw [if_pos rfl, Nat.sub_self, List.getElem?_cons_zero, List.getElem?_eq_getElem (show k < m.length by omega)]
      rfl
    · rw [if_neg h2, show k - p = (k - p - 1) + 1 by omega, List.getElem?_cons_succ, List.getElem?_drop, show p + 1 + (k - p - 1) = k by omega, List.getElem?_eq_getElem hk]
theorem plc_iff (h : l.length = m.length) (hk : k < l.length) : plc l m k = true ↔ l[k] = 45 ∧ m[k]'(by omega) ≠ 45 := by
  unfold plc
  rw [List.getElem?_eq_getElem hk, List.getElem?_eq_getElem (show k < m.length by omega)]
  simp
def ag (b : Nat → Nat) (l m : List Nat) (q : Nat) : Bool := !plc l m q || decide (m[q]? = some (48 + b q))
theorem ag_iff (h : l.length = m.length) (hk : k < l.length) : ag b l m k = true ↔ (l[k] = 45 → m[k]'(by omega) ≠ 45 → m[k]'(by omega) = 48 + b k) := by
  unfold ag
  rw [Bool.or_eq_true, Bool.not_eq_true', decide_eq_true_eq, List.getElem?_eq_getElem (show k < m.length by omega)]
  constructor
  · rintro (h1 | h1) h2 h3
    · rw [(plc_iff h hk).mpr ⟨h2, h3⟩] at h1; cases h1
    · exact Option.some.inj h1
  · intro h1
    cases hp : plc l m k with
    | false => exact .inl rfl
    | true =>
      obtain ⟨h2, h3⟩ := (plc_iff h hk).mp hp
      exact .inr (by rw [h1 h2 h3])
theorem cut_tk (h : l.length = m.length) (hm : ∀ c ∈ m, c = 48 ∨ c = 49 ∨ c = 45) (hb : ∀ k, b k = 0 ∨ b k = 1) (hp : p < l.length) (hpl : plc l m p = true) : tk b (cut l m p) = (tk b l && (List.range p).all (ag b l m) && !ag b l m p) := by
  have hcl := cut_len h hp
  have hpm : p < m.length := by omega
  obtain ⟨hp1, hp2⟩ := (plc_iff h hp).mp hpl
  rw [Bool.eq_iff_iff, Bool.and_eq_true, Bool.and_eq_true, tk_iff, tk_get, List.all_eq_true, Bool.not_eq_true']
  have hmp := hm _ (List.getElem_mem hpm)
  have hbp := hb p
  constructor
  · intro hc
    have hc' : ∀ k (hk : k < l.length), (if k < p then mix l[k] (m[k]'(by omega)) else if k = p then flp (m[p]'(by omega)) else l[k]) = 45 ∨ (if k < p then mix l[k] (m[k]'(by omega)) else if k = p then flp (m[p]'(by omega)) else l[k]) = 48 + b k := by
      intro k hk
      have := hc k (by omega)
      rw [cut_get h hp hk] at this
      exact this.imp Option.some.inj Option.some.inj
    refine ⟨⟨fun k hk => ?_, fun q hq => ?_⟩, ?_⟩
    · have h1 := hc' k hk
      by_cases k1 : k < p
      · rw [if_pos k1] at h1
        unfold mix at h1
        split at h1 <;> omega
      · rw [if_neg k1] at h1
        by_cases k2 : k = p
        · subst k2; exact .inl hp1
        · rw [if_neg k2] at h1; exact h1
    · have hq' := List.mem_range.mp hq
      rw [ag_iff h (by omega)]
      intro h2 h3
      have h1 := hc' q (by omega)
      rw [if_pos hq'] at h1
      unfold mix at h1
      rw [if_pos h2] at h1
      omega
    · have h1 := hc' p hp
      rw [if_neg (Nat.lt_irrefl p), if_pos rfl] at h1
      cases e : ag b l m p with
      | false => rfl
      | true =>
        have h2 := (ag_iff h hp).mp e hp1 hp2
        unfold flp at h1
        split at h1 <;> omega
  · rintro ⟨⟨hl1, hall⟩, hno⟩ k hk
    have hk' : k < l.length := by omega
    rw [cut_get h hp hk']
    have goal : (if k < p then mix l[k] (m[k]'(by omega)) else if k = p then flp (m[p]'(by omega)) else l[k]) = 45 ∨ (if k < p then mix l[k] (m[k]'(by omega)) else if k = p then flp (m[p]'(by omega)) else l[k]) = 48 + b k := by
      have h1 := hl1 k hk'
      by_cases k1 : k < p
      · rw [if_pos k1]
        have h2 := hall k (List.mem_range.mpr k1)
        rw [ag_iff h hk'] at h2
        unfold mix
        split
        · rename_i h3
          by_cases h4 : m[k]'(by omega) = 45
          · exact .inl h4
          · exact .inr (h2 h3 h4)
        · exact h1
      · rw [if_neg k1]
        by_cases k2 : k = p
        · subst k2
          rw [if_pos rfl]
          right
          have hne : ¬ m[k] = 48 + b k := fun e => by
            have : ag b l m k = true := (ag_iff h hp).mpr fun _ _ => e
            rw [this] at hno; cases hno
          unfold flp
          split <;> omega
        · rw [if_neg k2]; exact h1
    exact goal.imp (fun z => by rw [z]) (fun z => by rw [z])
theorem cnt_step (h : l.length = m.length) (hm : ∀ c ∈ m, c = 48 ∨ c = 49 ∨ c = 45) (hb : ∀ k, b k = 0 ∨ b k = 1) (hl : tk b l = true) : ∀ i, i ≤ l.length → ((List.range i).filter fun p => plc l m p && tk b (cut l m p)).length = if (List.range i).all (ag b l m) = true then 0 else 1
  | 0, _ => rfl
  | i + 1, hi => by
    have ih := cnt_step h hm hb hl i (by omega)
    rw [List.range_succ, List.filter_append, List.length_append, ih, List.all_append, List.all_cons, List.all_nil, Bool.and_true, List.filter_cons]
    cases hp : plc l m i with
    | false =>
      have : ag b l m i = true := by unfold ag; rw [hp]; rfl
      rw [this, Bool.and_true, Bool.false_and]
      rfl
    | true =>
      rw [cut_tk h hm hb (by omega) hp, hl, Bool.true_and, Bool.true_and]
      cases ha : (List.range i).all (ag b l m) <;> cases hg : ag b l m i <;> rfl
theorem les_count (h : l.length = m.length) (hl : ∀ c ∈ l, c = 48 ∨ c = 49 ∨ c = 45) (hm : ∀ c ∈ m, c = 48 ∨ c = 49 ∨ c = 45) (hb : ∀ k, b k = 0 ∨ b k = 1) : ((les l m).filter fun x => tk b x).length = if (tk b l && !tk b m) = true then 1 else 0 := by
  unfold les
  cases hc : cmn l m with
  | none =>
    have := cmn_none (b := b) h hc
    show ([l].filter fun x => tk b x).length = _
    rw [List.filter_cons]
    cases h1 : tk b l with
    | false => rfl
    | true =>
      rw [h1, Bool.true_and] at this
      rw [this]; rfl
  | some f =>
    have e : ((((List.range l.length).filter (plc l m)).map (cut l m)).filter fun x => tk b x).length = ((List.range l.length).filter fun p => plc l m p && tk b (cut l m p)).length := by
      rw [List.filter_map, List.length_map, List.filter_filter]
      congr 1
      apply List.filter_congr
      intro p _
      show (tk b (cut l m p) && plc l m p) = _
      rw [Bool.and_comm]
    show ((((List.range l.length).filter (plc l m)).map (cut l m)).filter fun x => tk b x).length = _
    rw [e]
    cases h1 : tk b l with
    | false =>
      rw [Bool.false_and]
      show _ = 0
      rw [List.length_eq_zero_iff, List.filter_eq_nil_iff]
      intro p hp
      have hp' := List.mem_range.mp hp
      intro hh
      rw [Bool.and_eq_true] at hh
      rw [cut_tk h hm hb hp' hh.1, h1, Bool.false_and, Bool.false_and] at hh
      exact absurd hh.2 Bool.false_ne_true
    | true =>
      rw [cnt_step h hm hb h1 _ (Nat.le_refl _), Bool.true_and]
      have e2 : (List.range l.length).all (ag b l m) = tk b m := by
        unfold cmn at hc
        split at hc
        · rename_i hok
          rw [all_zip h] at hok
          rw [Bool.eq_iff_iff, List.all_eq_true, tk_get]
          rw [tk_get] at h1
          constructor
          · intro ha k hk
            have hk' : k < l.length := by omega
            have q1 := ha k (List.mem_range.mpr hk')
            rw [ag_iff h hk'] at q1
            have q2 := hok k hk'
            have q3 := h1 k hk'
            unfold okp at q2
            simp only [Bool.or_eq_true, decide_eq_true_eq] at q2
            omega
          · intro ha q hq
            have hq' := List.mem_range.mp hq
            rw [ag_iff h hq']
            have := ha q (by omega)
            intro _ h3
            omega
        · cases hc
      rw [e2]
      cases tk b m <;> rfl
theorem les_len (h : l.length = m.length) : ∀ x ∈ les l m, x.length = l.length := by
  intro x hx
  unfold les at hx
  split at hx
  · rw [List.mem_singleton.mp hx]
  · obtain ⟨p, hp, rfl⟩ := List.mem_map.mp hx
    exact cut_len h (List.mem_range.mp (List.mem_filter.mp hp).1)
theorem cut_ln (h : l.length = m.length) (hl : ∀ c ∈ l, c = 48 ∨ c = 49 ∨ c = 45) (hm : ∀ c ∈ m, c = 48 ∨ c = 49 ∨ c = 45) (hp : p < l.length) : ∀ c ∈ cut l m p, c = 48 ∨ c = 49 ∨ c = 45 := by
  intro c hc
  obtain ⟨k, hk⟩ := List.getElem?_of_mem hc
  have hk' : k < l.length := by
    have := (List.getElem?_eq_some_iff.mp hk).1
    rw [cut_len h hp] at this; exact this
  rw [cut_get h hp hk'] at hk
  have e := Option.some.inj hk
  have q1 := hl _ (List.getElem_mem hk')
  have q2 := hm _ (List.getElem_mem (show k < m.length by omega))
  subst e
  split
  · unfold mix
    split <;> assumption
  · split
    · unfold flp
      split <;> simp
    · exact q1
theorem les_ln (h : l.length = m.length) (hl : ∀ c ∈ l, c = 48 ∨ c = 49 ∨ c = 45) (hm : ∀ c ∈ m, c = 48 ∨ c = 49 ∨ c = 45) : ∀ x ∈ les l m, ∀ c ∈ x, c = 48 ∨ c = 49 ∨ c = 45 := by
  intro x hx
  unfold les at hx
  split at hx
  · rw [List.mem_singleton.mp hx]; exact hl
  · obtain ⟨p, hp, rfl⟩ := List.mem_map.mp hx
    exact cut_ln h hl hm (List.mem_range.mp (List.mem_filter.mp hp).1)
theorem les_size (h : l.length = m.length) : (les l m).length ≤ l.length + 1 := by
  unfold les
  split
  · simp
  · rw [List.length_map]
    have := List.length_filter_le (plc l m) (List.range l.length)
    rw [List.length_range] at this
    omega
theorem les_self : les l l = [] := by
  unfold les
  have e : cmn l l = some (List.zipWith mix l l) := by
    unfold cmn
    rw [if_pos]
    rw [all_zip rfl]
    intro k hk
    unfold okp
    simp
  rw [e]
  show ((List.range l.length).filter (plc l l)).map (cut l l) = []
  rw [List.map_eq_nil_iff, List.filter_eq_nil_iff]
  intro k _
  unfold plc
  cases decide (l[k]? = some 45) <;> simp
end

abbrev txs (xs : List (List Nat)) : List V := xs.map fun x => V.str (S x)
/-! ### less, due -/
def spLess (K : PySem.W.Frag) : Sp := fun vs H Q _ => ∃ (G : Hp) (L : List (Addr × HO)) (l m : List Nat), vs = [.str (S l), .str (S m)] ∧ Now G L H ∧ l.length = m.length ∧ l.length ≤ 1000 ∧ Ln l ∧ Ln m ∧
  ∀ (p : Addr) (H' : Hp), Now G ((p, .lst (txs (les l m))) :: L) H' → Q (.ref p) H'
def sp_less (K : PySem.W.Frag) : Sp := spLess K
/- less(lane, other): 0 lane, 1 other, 2 found, 3 here, 4 place, 5 one, 6 two -/
def rd_less (K : PySem.W.Frag) : TS := (tSeq (tIfS (tTest (tOp rIsU (tCall (sp_common K) [] E0 (tCons (tVar 0) (tCons (tVar 1) tNil))) (tC .non))) (tRet (tLst (tCons (tVar 0) tNil))) tNext)
  (tSeq (tPar 2 3 (tCons (tLst tNil) (tCons (tVar 0) tNil)))
  (tSeq (tFor (iEnumZipS K (tCons (tVar 0) (tCons (tVar 1) tNil)) (tCons (tC (.bl true)) tNil)) (gTup K 2 (gCons (gName 4) (gCons (gTup K 2 (gCons (gName 5) (gCons (gName 6) gNil))) gNil))) (tIfS (tAnd (tTest (tOp (rEqU K) (tVar 5) (tC (.str (SX.S [45]))))) (tTest (tOp (rNeU K) (tVar 6) (tC (.str (SX.S [45])))))) (tSeq (tDrop (tBM K "list" rAppend (tVar 2) (tCons (tOp (rAddU K) (tOp (rAddU K) (tSl (rSlU K) (tVar 3) tNoPart (tPart (tVar 4))) (tKD [([48], (.str (SX.S [49]))), ([49], (.str (SX.S [48])))] (tVar 6))) (tSl (rSlU K) (tVar 3) (tPart (tOp (rAddU K) (tVar 4) (tC (.int 1)))) tNoPart)) tNil)))
  (tAsg (tOp (rAddU K) (tOp (rAddU K) (tSl (rSlU K) (tVar 3) tNoPart (tPart (tVar 4))) (tVar 6)) (tSl (rSlU K) (tVar 3) (tPart (tOp (rAddU K) (tVar 4) (tC (.int 1)))) tNoPart)) (gName 3))) tNext))
  (tRet (tVar 2)))))
theorem ln_less {K : PySem.W.Frag} {vs : List V} {H : Hp} {Q : VK} {E : XK} (h : sp_less K vs H Q E) : vs.length = 2 := by
  obtain ⟨G, L, l, m, rfl, _⟩ := h; rfl
theorem les_none {l m : List Nat} (h : cmn l m = none) : les l m = [l] := by unfold les; rw [h]; rfl
theorem les_some {l m f : List Nat} (h : cmn l m = some f) : les l m = ((List.range l.length).filter (plc l m)).map (cut l m) := by unfold les; rw [h]; rfl
theorem w_here {K : PySem.W.Frag} {H : Hp} {Q : VK} {l m : List Nat} {i : Nat} {v : Nat} (hlm : l.length = m.length) (hl : l.length ≤ 1000) (hi : i < l.length) {σ : L2.St} {tm : TE} (h3 : σ[3]? = some (some (.str (S (hr l m i))))) (h4 : σ[4]? = some (some (.int ((i : Nat) : Int)))) (hm : ∀ Q' : VK, Q' (sg v) H → tm σ H Q')
    (q : Q (.str (S ((List.zipWith mix l m).take i ++ v :: l.drop (i + 1)))) H) :
    tOp (rAddU K) (tOp (rAddU K) (tSl (rSlU K) (tVar 3) tNoPart (tPart (tVar 4))) tm) (tSl (rSlU K) (tVar 3) (tPart (tOp (rAddU K) (tVar 4) (tC (.int 1)))) tNoPart) σ H Q := by
  have hlen := hr_len hlm (Nat.le_of_lt hi)
  refine w_op (w_op (w_sl (w_var h3 (w_nopart (w_part (w_var h4 (w_part1 ?_)))))))
  refine w_slTake (by omega) (by omega) ?_
  refine hm _ ?_
  refine w_addT (by rw [List.length_take]; simp; omega) ?_
  refine w_sl (w_var h3 (w_part (w_op (w_var h4 (w_c (w_addI (w_part1 ?_)))))))
  refine w_nopart ?_
  refine w_slDrop (by omega) (by omega) ?_
  refine w_addT (by rw [List.length_append, List.length_take, List.length_drop]; simp; omega) ?_
  have e1 : ((i : Int)).toNat = i := by omega
  have e2 : ((i : Int) + 1).toNat = i + 1 := by omega
  rw [e1, e2, hr_take hlm (Nat.le_of_lt hi), hr_drop hlm (Nat.le_of_lt hi), List.append_assoc]
  exact q
theorem ok_rd_less {K : PySem.W.Frag} {vs : List V} {H : Hp} {Q : VK} {E : XK} (h : sp_less K vs H Q E) : rd_less K { nx := fun _ H' => Q .non H', rt := Q } (start ["a", "b", "c", "d", "e", "f", "g"] vs) H := by
  obtain ⟨G, L, l, m, rfl, nw, hlm, hl, hln, hmn, q⟩ := h
  show rd_less K _ [some (.str (S l)), some (.str (S m)), none, none, none, none, none] H
  unfold rd_less
  repeat walk_at "s"
  refine ⟨G, L, l, m, rfl, nw, hlm, hl, fun H1 n1 => ?_⟩
  cases hc : cmn l m with
  | none =>
    repeat walk_at "s"
    refine w_iteT rfl ?_
    repeat walk_at "s"
    refine w_lstL n1 (Nat.le_of_ble_eq_true rfl) fun p H2 n2 _ => ?_
    refine q p H2 ?_
    rw [les_none hc]
    exact n2
  | some f =>
    rw [les_some hc] at q
    repeat walk_at "s"
    refine w_iteF rfl ?_
    repeat walk_at "s"
    refine w_lstL n1 (Nat.le_of_ble_eq_true rfl) fun D H2 n2 _ => ?_
    repeat walk_at "s"
    refine ⟨_, _, rfl, ?_⟩
    repeat walk_at "s"
    refine w_ezipI (.str (S l)) (.str (S m)) _ _ rfl rfl (by rw [signs_S, signs_S, List.length_map, List.length_map]; exact hlm) ?_
    refine for_k (fun i σ H => ∃ y4 y5 y6, σ = [some (.str (S l)), some (.str (S m)), some (.ref D), some (.str (S (hr l m i))), y4, y5, y6] ∧ Now G ((D, .lst (txs (((List.range i).filter (plc l m)).map (cut l m)))) :: L) H) ⟨none, none, none, by rw [hr_zero]; rfl, n2⟩ (fun _ _ _ _ => ⟨rfl, rfl⟩) ?_ ?_
    · rintro i x σ H3 H4 hi ⟨y4, y5, y6, rfl, n3⟩ ⟨T, T2, x', y', rfl, hT, hT2, rfl, hx, hy⟩
      rw [signs_S] at hx hy
      obtain ⟨c, hc', rfl⟩ := get_of hx
      obtain ⟨d, hd', rfl⟩ := get_of hy
      have hil : i < l.length := by rw [signs_S, List.length_map] at hi; exact hi
      have n4 := (n3.newG (o := .tup [sg c, sg d]) hT).new (o := .tup [.int (i : Nat), .ref T]) hT2
      have eg := n3.exn (o := .tup [sg c, sg d]) hT
      refine w_gtup (sqT upd_same) rfl ?_
      refine w_gcons (w_gname (w_gcons ?_))
      refine w_gtup (sqT (n4.ex _ _ upd_same)) rfl ?_
      repeat walk_at "s"
      refine w_ite (fun e => ?_) (fun e => ?_)
      · have c45 : c = 45 := by simpa using e
        repeat walk_at "s"
        refine w_ite (fun e2 => ?_) (fun e2 => ?_)
        · have d45 : ¬ d = 45 := by simpa using e2
          have hpl : plc l m i = true := by unfold plc; rw [hc', hd', c45]; simpa using d45
          have hdd := hmn d (List.mem_of_getElem? hd')
          refine w_seq ?_
          refine w_drop (w_bm (w_var rfl ?_))
          refine w_tyl n4.get0 ?_
          refine w_cons ?_
          refine w_here (v := flp d) hlm hl hil rfl rfl (fun Q' hq => ?_) ?_
          · refine w_var (v := sg d) rfl ?_
            have : d = 48 ∨ d = 49 := by omega
            rcases this with rfl | rfl
            · exact ⟨([48], .str (S [49])), List.mem_cons_self .., rfl, hq⟩
            · exact ⟨([49], .str (S [48])), List.mem_cons_of_mem _ (List.mem_cons_self ..), rfl, hq⟩
          refine w_nil ?_
          have hsz : (txs (((List.range i).filter (plc l m)).map (cut l m))).length < 100000 := by
            rw [List.length_map, List.length_map]
            exact Nat.lt_of_le_of_lt fr_len (by omega)
          refine w_append0 n4 hsz fun H5 n5 => ?_
          dsimp only
          refine w_asg ?_
          refine w_here (v := d) hlm hl hil rfl rfl (fun Q' hq => w_var (v := sg d) rfl hq) ?_
          refine w_gname ?_
          refine ⟨some (.int (i : Nat)), some (sg c), some (sg d), ?_, ?_⟩
          · rw [hr_next hc' hd', c45]
            rfl
          · have n6 := n5.weak eg
            rw [fr_yes hpl, List.map_append]
            have ec : (List.zipWith mix l m).take i ++ flp d :: l.drop (i + 1) = cut l m i := by unfold cut; rw [hd']; rfl
            rw [ec] at n6
            simpa [txs] using n6
        · have d45 : d = 45 := by simpa using e2
          have hpl : plc l m i = false := by unfold plc; rw [hc', hd', d45]; simp
          refine ⟨some (.int (i : Nat)), some (sg c), some (sg d), ?_, ?_⟩
          · rw [hr_same hc' hd' (by unfold mix; rw [if_pos c45]; omega)]; rfl
          · rw [fr_no hpl]; exact n4.weak eg
      · have c45 : ¬ c = 45 := by simpa using e
        have hpl : plc l m i = false := by unfold plc; rw [hc', hd']; simp [c45]
        refine w_iteF rfl ?_
        refine ⟨some (.int (i : Nat)), some (sg c), some (sg d), ?_, ?_⟩
        · rw [hr_same hc' hd' (by unfold mix; rw [if_neg c45])]; rfl
        · rw [fr_no hpl]; exact n4.weak eg
    · rintro σ H3 ⟨y4, y5, y6, rfl, n3⟩
      repeat walk_at "s"
      have e1 : (signs (S l)).length = l.length := by rw [signs_S, List.length_map]
      rw [e1] at n3
      exact q D H3 n3

def sp_due (K : PySem.W.Frag) : Sp := spLess K
/- _law_due(_law_lane_here, _law_other): 0 _law_lane_here, 1 _law_other, 2 _law_places, 3 _law_found, 4 _law_at, 5 _law_signs, 6 _law_k, 7 _law_sign, 8 _law_sign_two -/
def rd_due (K : PySem.W.Frag) : TS := (tSeq (tIfS (tTrth K (tCB (rAny K) (tCons (tLc (iZipN K (tCons (tVar 0) (tCons (tVar 1) tNil))) (gTup K 2 (gCons (gName 7) (gCons (gName 8) gNil))) tYes (tAndT K (tOp (rNiU K) (tVar 7) (tTup (tCons (tC (.str (SX.S [45]))) (tCons (tVar 8) tNil)))) (tOp (rNeU K) (tVar 8) (tC (.str (SX.S [45]))))) [7, 8]) tNil))) (tRet (tLst (tCons (tVar 0) tNil))) tNext)
  (tSeq (tAsg (tLc (iEnumS K (tCons (tVar 0) tNil)) (gTup K 2 (gCons (gName 6) (gCons (gName 7) gNil))) (tAnd (tTest (tOp (rEqU K) (tVar 7) (tC (.str (SX.S [45]))))) (tTest (tOp (rNeU K) (tOp (rIx K) (tVar 1) (tVar 6)) (tC (.str (SX.S [45])))))) (tVar 6) [6, 7]) (gName 2))
  (tSeq (tAsg (tLst tNil) (gName 3))
  (tSeq (tFor (iSeq K (tVar 2)) (gName 4) (tSeq (tAsg (tCB (rListU K) (tCons (tVar 0) tNil)) (gName 5))
  (tSeq (tFor (iSeq K (tVar 2)) (gName 6) (tAsg (tIf (tTest (tOp (rLtU K) (tVar 6) (tVar 4))) (tOp (rIx K) (tVar 1) (tVar 6)) (tOp (rIx K) (tVar 5) (tVar 6))) (gSub (tVar 5) (tVar 6) rSetL)))
  (tSeq (tAsg (tOp (rIx K) (tLst (tCons (tC (.str (SX.S [49]))) (tCons (tC (.str (SX.S [48]))) tNil))) (tCB rIntU (tCons (tOp (rIx K) (tVar 1) (tVar 4)) tNil))) (gSub (tVar 5) (tVar 4) rSetL))
  (tDrop (tBM K "list" rAppend (tVar 3) (tCons (tBM K "str" (rJoin K) (tC (.str (SX.S []))) (tCons (tVar 5) tNil)) tNil)))))))
  (tRet (tVar 3))))))
theorem ln_due {K : PySem.W.Frag} {vs : List V} {H : Hp} {Q : VK} {E : XK} (h : sp_due K vs H Q E) : vs.length = 2 := by
  obtain ⟨G, L, l, m, rfl, _⟩ := h; rfl
theorem cut_ext {l m xs : List Nat} {at' d : Nat} (h : l.length = m.length) (hat : at' < l.length) (hd : m[at']? = some d) (hx : xs.length = l.length)
    (hc : ∀ k, k < l.length → xs[k]? = if k ∈ (List.range l.length).filter (plc l m) ∧ k < at' then m[k]? else l[k]?) : xs.set at' (flp d) = cut l m at' := by
  apply List.ext_getElem?
  intro k
  by_cases hk : k < l.length
  · have hkm : k < m.length := by omega
    rw [cut_get h hat hk, List.getElem?_set]
    have hdm : m[at']'(by omega) = d := (List.getElem?_eq_some_iff.mp hd).2
    by_cases h1 : at' = k
    · subst h1
      rw [if_pos rfl, if_pos (by omega), if_neg (Nat.lt_irrefl _), if_pos rfl, hdm]
    · rw [if_neg h1, hc k hk]
      by_cases h2 : k < at'
      · rw [if_pos h2]
        by_cases hp : plc l m k = true
        · rw [if_pos ⟨List.mem_filter.mpr ⟨List.mem_range.mpr hk, hp⟩, h2⟩, List.getElem?_eq_getElem hkm]
          have := (plc_iff h hk).mp hp
          unfold mix
          rw [if_pos this.1]
        · rw [if_neg (fun z => hp (List.mem_filter.mp z.1).2), List.getElem?_eq_getElem hk]
          unfold mix
          by_cases h45 : l[k] = 45
          · rw [if_pos h45]
            have : m[k] = 45 := Classical.byContradiction fun z => hp ((plc_iff h hk).mpr ⟨h45, z⟩)
            rw [h45, this]
          · rw [if_neg h45]
      · rw [if_neg h2, if_neg (fun z : k = at' => h1 z.symm), if_neg (fun z : k ∈ (List.range l.length).filter (plc l m) ∧ k < at' => h2 z.2), List.getElem?_eq_getElem hk]
  · rw [List.getElem?_eq_none (by rw [List.length_set]; omega), List.getElem?_eq_none (by rw [cut_len h hat]; omega)]
theorem num_of_map {l : List Nat} {i : Nat} {x : V} (h : (nums l)[i]? = some x) : ∃ k, l[i]? = some k ∧ x = .int (k : Nat) := by
  rw [List.getElem?_map] at h
  cases e : l[i]? with
  | none => rw [e] at h; cases h
  | some c => rw [e] at h; exact ⟨c, rfl, (Option.some.inj h).symm⟩
theorem flp_at {d : Nat} (h : d = 48 ∨ d = 49) : atI [sg 49, sg 48] ((d - 48 : Nat) : Int) = some (sg (flp d)) := by
  rcases h with rfl | rfl <;> rfl
theorem ok_rd_due {K : PySem.W.Frag} {vs : List V} {H : Hp} {Q : VK} {E : XK} (h : sp_due K vs H Q E) : rd_due K { nx := fun _ H' => Q .non H', rt := Q } (start ["a", "b", "c", "d", "e", "f", "g", "h", "i"] vs) H := by
  obtain ⟨G, L, l, m, rfl, nw, hlm, hl, hln, hmn, q⟩ := h
  show rd_due K _ [some (.str (S l)), some (.str (S m)), none, none, none, none, none, none, none] H
  unfold rd_due
  have e0 : min (signs (S l)).length (signs (S m)).length = l.length := by rw [signs_S, signs_S, List.length_map, List.length_map]; omega
  repeat walk_at "s"
  refine w_zipNI (.str (S l)) (.str (S m)) _ _ rfl rfl ?_
  refine lc_now nw (fun i acc G' L' => acc = (((l.zip m).take i).map fun p => !okp p.1 p.2).map V.bl ∧ G' = G ∧ L' = L) ⟨rfl, rfl, rfl⟩ (fun _ _ _ _ _ _ _ => ⟨rfl, rfl⟩) ?_ ?_
  · rintro D i x H1 H2 acc G' L' hi ⟨rfl, rfl, rfl⟩ n1 ⟨T, x', y', rfl, hT, rfl, hx, hy⟩
    rw [signs_S] at hx hy
    obtain ⟨c, hc, rfl⟩ := get_of hx
    obtain ⟨d, hd, rfl⟩ := get_of hy
    have n2 := n1.new (o := .tup [sg c, sg d]) hT
    have hsz : ((((l.zip m).take i).map fun p => !okp p.1 p.2).map V.bl).length < 100000 := by rw [List.length_map, List.length_map, List.length_take, List.length_zip]; omega
    refine w_gtup (sqT upd_same) rfl ?_
    repeat walk_at "s"
    refine ⟨rfl, ?_⟩
    repeat walk_at "s"
    refine w_iteT rfl ?_
    repeat walk_at "s"
    refine w_tupG n2 (Nat.le_of_ble_eq_true rfl) fun T2 G2 H3 e2 hT2 n3 => ?_
    refine w_notin2 n3 (n3.ex _ _ hT2) ?_
    repeat walk_at "s"
    refine w_ite (fun e => ?_) (fun e => ?_)
    · repeat walk_at "s"
      refine LcP.add (n3.weak e2) hsz ⟨?_, rfl, rfl⟩
      rw [take_snoc (zp_get hc hd), List.map_append, List.map_append]
      congr 1
      have h1 : ¬ 45 = c ∧ ¬ d = c := by simpa using e
      show [V.bl (!decide ([d] = [45]))] = [V.bl (!okp c d)]
      rw [eqSg]
      congr 2
      unfold okp
      have a1 : decide (c = 45) = false := decide_eq_false fun z => h1.1 z.symm
      have a2 : decide (c = d) = false := decide_eq_false fun z => h1.2 z.symm
      rw [a1, a2, Bool.false_or, Bool.or_false]
    · refine LcP.add (n3.weak e2) hsz ⟨?_, rfl, rfl⟩
      rw [take_snoc (zp_get hc hd), List.map_append, List.map_append, e]
      congr 1
      have h1 : ¬ 45 = c → d = c := by simpa using e
      show [V.bl false] = [V.bl (!okp c d)]
      congr 2
      unfold okp
      by_cases h2 : c = 45
      · simp [h2]
      · have := h1 (fun z => h2 z.symm)
        simp [this]
  · rintro D H1 acc G' L' ⟨rfl, rfl, rfl⟩ n1
    repeat walk_at "s"
    refine ⟨D, _, rfl, sqL n1.get0, ?_⟩
    have e1 : (l.zip m).take (min (signs (S l)).length (signs (S m)).length) = l.zip m := by rw [e0, List.take_of_length_le]; rw [List.length_zip]; omega
    have e2 : (((l.zip m).take (min (signs (S l)).length (signs (S m)).length)).map fun p => !okp p.1 p.2).any id = !((l.zip m).all fun p => okp p.1 p.2) := by
      rw [e1, List.any_map, List.not_all_eq_any_not]; rfl
    rw [e2]
    replace n1 := n1.drop
    repeat walk_at "s"
    cases hok : (l.zip m).all (fun p => okp p.1 p.2) with
    | false =>
      have hc : cmn l m = none := by unfold cmn; rw [if_neg (by rw [hok]; exact Bool.false_ne_true)]
      rw [les_none hc] at q
      refine w_iteT rfl ?_
      repeat walk_at "s"
      refine w_lstL n1 (Nat.le_of_ble_eq_true rfl) fun p H2 n2 _ => ?_
      exact q p H2 n2
    | true =>
      rw [les_some (cmn_all hok)] at q
      refine w_iteF rfl ?_
      repeat walk_at "s"
      refine w_enumI (.str (S l)) _ rfl ?_
      refine lc_now n1 (fun i acc G'' L'' => acc = nums ((List.range i).filter (plc l m)) ∧ G'' = G' ∧ L'' = L') ⟨rfl, rfl, rfl⟩ (fun _ _ _ _ _ _ _ => rfl) ?_ ?_
      · rintro D i x H2 H3 acc G'' L'' hi ⟨rfl, rfl, rfl⟩ n2 ⟨T, x', rfl, hT, rfl, hx⟩
        rw [signs_S] at hx
        obtain ⟨c, hc, rfl⟩ := get_of hx
        have hil : i < l.length := by rw [signs_S, List.length_map] at hi; exact hi
        have hd : m[i]? = some m[i] := List.getElem?_eq_getElem (by omega)
        have n3 := n2.new (o := .tup [.int (i : Nat), sg c]) hT
        refine w_gtup (sqT upd_same) rfl ?_
        repeat walk_at "s"
        refine ⟨rfl, ?_⟩
        repeat walk_at "s"
        refine w_ite (fun e => ?_) (fun e => ?_)
        · have c45 : c = 45 := by simpa using e
          repeat walk_at "s"
          refine w_ixSg (by omega) (at_get hd) ?_
          repeat walk_at "s"
          refine w_ite (fun e2 => ?_) (fun e2 => ?_)
          · have d45 : ¬ m[i] = 45 := by simpa using e2
            have hpl : plc l m i = true := by unfold plc; rw [hc, hd, c45]; simpa using d45
            repeat walk_at "s"
            refine LcP.add n3 (by rw [List.length_map]; exact Nat.lt_of_le_of_lt fr_len (by omega)) ⟨?_, rfl, rfl⟩
            rw [fr_yes hpl]
            simp [nums]
          · have d45 : m[i] = 45 := by simpa using e2
            have hpl : plc l m i = false := by unfold plc; rw [hc, hd, d45]; simp
            refine ⟨_, _, _, ⟨?_, rfl, rfl⟩, n3⟩
            rw [fr_no hpl]
        · have c45 : ¬ c = 45 := by simpa using e
          have hpl : plc l m i = false := by unfold plc; rw [hc, hd]; simp [c45]
          refine w_iteF rfl ?_
          refine ⟨_, _, _, ⟨?_, rfl, rfl⟩, n3⟩
          rw [fr_no hpl]
      · rintro D2 H2 acc G'' L'' ⟨rfl, rfl, rfl⟩ n2
        have e3 : (signs (S l)).length = l.length := by rw [signs_S, List.length_map]
        rw [e3] at n2
        have n3 := n2.freeze
        have ef := n2.exf
        have g2 : (upd G'' D2 (.lst (nums ((List.range l.length).filter (plc l m))))) D2 = some (.lst (nums ((List.range l.length).filter (plc l m)))) := upd_same
        generalize upd G'' D2 (.lst (nums ((List.range l.length).filter (plc l m)))) = G2 at n3 ef g2
        have hPl : ((List.range l.length).filter (plc l m)).length ≤ l.length := fr_len
        have hPm : ∀ k ∈ (List.range l.length).filter (plc l m), k < l.length ∧ plc l m k = true := fun k hk => ⟨List.mem_range.mp (List.mem_filter.mp hk).1, (List.mem_filter.mp hk).2⟩
        have hcut := fun at' d hat hd xs hx => cut_ext (l := l) (m := m) (xs := xs) (at' := at') (d := d) hlm hat hd hx
        generalize hP : (List.range l.length).filter (plc l m) = P at g2 q hPl hPm hcut
        repeat walk_at "s"
        refine w_lstL n3 (Nat.le_of_ble_eq_true rfl) fun D3 H3 n4 _ => ?_
        repeat walk_at "s"
        refine w_seqI (.lst D2) (nums P) (sqL (n4.ex _ _ g2)) ?_
        refine for_k (fun j σ H => ∃ y4 y5 y6, σ = [some (.str (S l)), some (.str (S m)), some (.ref D2), some (.ref D3), y4, y5, y6, none, none] ∧ Now G2 ((D3, .lst (txs ((P.take j).map (cut l m)))) :: L'') H) ⟨_, _, _, rfl, n4⟩ (fun _ _ _ ⟨_, _, _, _, n⟩ => sqL (n.ex _ _ g2)) ?_ ?_
        · rintro j x σ H4 H5 hj ⟨y4, y5, y6, rfl, n5⟩ ⟨rfl, hx⟩
          obtain ⟨a, ha, rfl⟩ := num_of_map hx
          obtain ⟨hal, hapl⟩ := hPm a (List.mem_of_getElem? ha)
          have ham : m[a]? = some m[a] := List.getElem?_eq_getElem (by omega)
          have hplc := (plc_iff hlm hal).mp hapl
          have hmd : m[a] = 48 ∨ m[a] = 49 := by
            have := hmn _ (List.getElem_mem (show a < m.length by omega))
            omega
          repeat walk_at "s"
          refine w_listS n5 (by omega) fun p5 H6 n6 _ => ?_
          repeat walk_at "s"
          refine w_seqI (.lst D2) (nums P) (sqL (n6.ex _ _ g2)) ?_
          refine for_k (fun i σ H => ∃ (y6 : Option V) (xs : List Nat), σ = [some (.str (S l)), some (.str (S m)), some (.ref D2), some (.ref D3), some (.int (a : Nat)), some (.ref p5), y6, none, none] ∧ xs.length = l.length ∧ (∀ k, k < l.length → xs[k]? = if k ∈ P.take i ∧ k < a then m[k]? else l[k]?) ∧ Now G2 ((p5, .lst (xs.map sg)) :: (D3, .lst (txs ((P.take j).map (cut l m)))) :: L'') H) ⟨_, l, rfl, rfl, fun k hk => by simp, n6⟩ (fun _ _ _ ⟨_, _, _, _, _, n⟩ => sqL (n.ex _ _ g2)) ?_ ?_
          · rintro i x σ H7 H8 hi ⟨y6, xs, rfl, hxl, hxs, n7⟩ ⟨rfl, hx⟩
            obtain ⟨k, hk, rfl⟩ := num_of_map hx
            obtain ⟨hkl, hkpl⟩ := hPm k (List.mem_of_getElem? hk)
            have hkm : m[k]? = some m[k] := List.getElem?_eq_getElem (by omega)
            repeat walk_at "s"
            refine w_ite (fun e => ?_) (fun e => ?_)
            · have hka : k < a := by have := of_decide_eq_true e; omega
              repeat walk_at "s"
              refine w_ixSg (by omega) (at_get hkm) ?_
              repeat walk_at "s"
              refine w_setL0 n7 (ix_lt (by omega) (by rw [List.length_map]; omega)) fun H9 n8 => ?_
              rw [map_set] at n8
              refine ⟨_, xs.set k m[k], rfl, by rw [List.length_set]; exact hxl, fun q hq => ?_, n8⟩
              rw [List.getElem?_set, take_snoc hk, hxl]
              by_cases h1 : k = q
              · subst h1
                rw [if_pos rfl, if_pos hq, if_pos ⟨List.mem_append_right _ (List.mem_singleton.mpr rfl), hka⟩, hkm]
              · rw [if_neg h1, hxs q hq]
                have e4 : (q ∈ P.take i ++ [k] ∧ q < a) ↔ (q ∈ P.take i ∧ q < a) := by
                  rw [List.mem_append, List.mem_singleton]
                  exact ⟨fun z => ⟨z.1.resolve_right fun y => h1 y.symm, z.2⟩, fun z => ⟨.inl z.1, z.2⟩⟩
                simp only [e4]
            · have hka : ¬ k < a := by have := of_decide_eq_false e; omega
              have hxk : xs[k]? = some xs[k] := List.getElem?_eq_getElem (by omega)
              repeat walk_at "s"
              refine w_ixL (v := sg xs[k]) (sqL n7.get0) (atI_nat (by rw [List.getElem?_map, hxk]; rfl)) ?_
              repeat walk_at "s"
              refine w_setL0 n7 (ix_lt (by omega) (by rw [List.length_map]; omega)) fun H9 n8 => ?_
              rw [map_set] at n8
              have e5 : xs.set ((k : Int)).toNat xs[k] = xs := by
                rw [show ((k : Int)).toNat = k by omega]
                exact List.set_getElem_self _
              rw [e5] at n8
              refine ⟨_, xs, rfl, hxl, fun q hq => ?_, n8⟩
              rw [take_snoc hk, hxs q hq]
              have e4 : (q ∈ P.take i ++ [k] ∧ q < a) ↔ (q ∈ P.take i ∧ q < a) := by
                rw [List.mem_append, List.mem_singleton]
                exact ⟨fun z => ⟨z.1.resolve_right fun y => hka (by rw [← y]; exact z.2), z.2⟩, fun z => ⟨.inl z.1, z.2⟩⟩
              simp only [e4]
          · rintro σ H7 ⟨y6, xs, rfl, hxl, hxs, n7⟩
            have e6 : P.take (nums P).length = P := by rw [List.length_map, List.take_length]
            rw [e6] at hxs
            repeat walk_at "s"
            refine w_lstG n7 (Nat.le_of_ble_eq_true rfl) fun p6 G3 H8 e7 hp6 n8 => ?_
            repeat walk_at "s"
            refine w_ixSg (by omega) (at_get ham) ?_
            repeat walk_at "s"
            refine w_intS (j := ((m[a] - 48 : Nat) : Int)) ?_ (by rw [S_len]; exact Nat.le_of_ble_eq_true rfl) ?_
            · rcases hmd with h | h
              · rw [h]; exact int48
              · rw [h]; exact int49
            refine w_ixL (sqL (n8.ex _ _ hp6)) (flp_at hmd) ?_
            repeat walk_at "s"
            refine w_setL0 n8 (ix_lt (by omega) (by rw [List.length_map]; omega)) fun H9 n9 => ?_
            rw [map_set, show ((a : Int)).toNat = a by omega, hcut a m[a] hal ham xs hxl hxs] at n9
            replace n9 := n9.weak e7
            repeat walk_at "s"
            refine w_tyl n9.get1 ?_
            repeat walk_at "s"
            refine w_joinSg (sqL n9.get0) (by rw [cut_len hlm hal]; omega) ?_
            repeat walk_at "s"
            refine w_append1 n9 (by rw [List.length_map, List.length_map, List.length_take]; omega) fun H10 n10 => ?_
            refine ⟨_, _, _, rfl, ?_⟩
            rw [take_snoc ha, List.map_append]
            have n11 := n10.drop
            simpa [txs] using n11
        · rintro σ H4 ⟨y4, y5, y6, rfl, n5⟩
          repeat walk_at "s"
          rw [List.length_map, List.take_length] at n5
          exact q D3 H4 (n5.weak ef)
/-! ### pair_right -/
theorem dp_txs {K : PySem.W.Frag} {G : Hp} {a : Addr} {xs : List (List Nat)} (h : SqL K G a (txs xs)) : Dp K G (.ref a) (.list (xs.map fun x => PyData.str (S x))) := .lst h (dps_map (fun _ => .str _) xs)
theorem dn_txs {xs : List (List Nat)} (h : xs.length < 100000) : Dn 5 (.list (xs.map fun x => PyData.str (S x))) := .lst (fun d hd => by
  obtain ⟨x, _, rfl⟩ := List.mem_map.mp hd
  exact .str _ _) (by rw [List.length_map]; exact h)
theorem bitN_01 (w n k : Nat) : bitN w n k = 0 ∨ bitN w n k = 1 := Nat.mod_two_eq_zero_or_one _
def sp_pair_right (K : PySem.W.Frag) : Sp := fun vs H Q _ => ∃ (G : Hp) (L : List (Addr × HO)) (l m : List Nat) (w : Int), vs = [.str (S l), .str (S m), .int w] ∧ Now G L H ∧ Ln l ∧ Ln m ∧ (l.length : Int) = w ∧ (m.length : Int) = w ∧ w ≤ 14 ∧
  ∀ H', Now G L H' → Q (.bl true) H'
/- _law_pair_right(_law_lane_here, _law_other, _law_size): 0 _law_lane_here, 1 _law_other, 2 _law_size, 3 _law_found, 4 _law_due_here, 5 _law_counts, 6 _law_number, 7 _law_many, 8 _law_due_here_here, 9 _law_one -/
def rd_pair_right (K : PySem.W.Frag) : TS := (tSeq (tAsg (tTup (tCons (tCall (sp_less K) [] E0 (tCons (tVar 0) (tCons (tVar 1) tNil))) (tCons (tCall (sp_due K) [] E0 (tCons (tVar 0) (tCons (tVar 1) tNil))) tNil))) (gTup K 2 (gCons (gName 3) (gCons (gName 4) gNil))))
  (tSeq (tIfS (tNot (tTrth K (tCall (sp_same K) [] E0 (tCons (tVar 3) (tCons (tVar 4) tNil))))) (tRet (tC (.bl false))) tNext)
  (tSeq (tAsg (tLc (iRng1 (tCons (tOp rShlU (tC (.int 1)) (tVar 2)) tNil)) (gName 6) tYes (tCB (rLenU K) (tCons (tLc (iSeq K (tVar 3)) (gName 9) (tTrth K (tCall (sp_takes K) [] E0 (tCons (tVar 9) (tCons (tVar 2) (tCons (tVar 6) tNil))))) (tVar 9) [9]) tNil)) [6]) (gName 5))
  (tSeq (tFor (iEnumS K (tCons (tVar 5) tNil)) (gTup K 2 (gCons (gName 6) (gCons (gName 7) gNil))) (tSeq (tAsg (tAndT K (tCall (sp_takes K) [] E0 (tCons (tVar 0) (tCons (tVar 2) (tCons (tVar 6) tNil)))) (tNotT K (tCall (sp_takes K) [] E0 (tCons (tVar 1) (tCons (tVar 2) (tCons (tVar 6) tNil)))))) (gName 8))
  (tIfS (tTest (tOp (rNeU K) (tVar 7) (tCB rIntU (tCons (tVar 8) tNil)))) (tRet (tC (.bl false))) tNext)))
  (tSeq (tDrop (tBM K "list" rAppend (tVar 3) (tCons (tC (.str (SX.S []))) tNil)))
  (tRet (tCall (sp_same K) [] E0 (tCons (tCall (sp_less K) [] E0 (tCons (tVar 0) (tCons (tVar 1) tNil))) (tCons (tVar 4) tNil)))))))))
theorem ln_pair_right {K : PySem.W.Frag} {vs : List V} {H : Hp} {Q : VK} {E : XK} (h : sp_pair_right K vs H Q E) : vs.length = 3 := by
  obtain ⟨G, L, l, m, w, rfl, _⟩ := h; rfl
theorem ok_rd_pair_right {K : PySem.W.Frag} {vs : List V} {H : Hp} {Q : VK} {E : XK} (h : sp_pair_right K vs H Q E) : rd_pair_right K { nx := fun _ H' => Q .non H', rt := Q } (start ["a", "b", "c", "d", "e", "f", "g", "h", "i", "j"] vs) H := by
  obtain ⟨G, L, l, m, w, rfl, nw, hl, hm, hlw, hmw, hw, q⟩ := h
  have hlm : l.length = m.length := by omega
  show rd_pair_right K _ [some (.str (S l)), some (.str (S m)), some (.int w), none, none, none, none, none, none, none] H
  have hp := pow_16 (k := w.toNat) (by omega)
  have hpe : ((2 : Int) ^ w.toNat).toNat = 2 ^ l.length := by
    have e : w.toNat = l.length := by omega
    rw [e]
    have e2 : ((2 ^ l.length : Nat) : Int) = (2 : Int) ^ l.length := by push_cast; rfl
    rw [← e2]; rfl
  have h2p : 2 ^ l.length ≤ 65536 := by omega
  have hls := les_size (l := l) (m := m) hlm
  unfold rd_pair_right
  repeat walk_at "s"
  refine ⟨G, L, l, m, rfl, nw, hlm, by omega, hl, hm, fun p1 H1 n1 => ?_⟩
  repeat walk_at "s"
  refine ⟨G, _, l, m, rfl, n1, hlm, by omega, hl, hm, fun p2 H2 n2 => ?_⟩
  repeat walk_at "s"
  have n3 := n2.freeze
  have e1 := n2.exf
  have g2 : (upd G p2 (.lst (txs (les l m)))) p2 = some (.lst (txs (les l m))) := upd_same
  generalize upd G p2 (.lst (txs (les l m))) = G1 at n3 e1 g2
  refine w_tupG n3 (Nat.le_of_ble_eq_true rfl) fun T G2 H3 e2 hT n4 => ?_
  refine w_gtup (sqT (n4.ex _ _ hT)) rfl ?_
  have g22 : G2 p2 = some (.lst (txs (les l m))) := e2 _ _ g2
  have g21 : G2 p1 = none := n4.ap _ (List.mem_cons_self ..)
  have n5 := n4.freeze
  have e3 := n4.exf
  obtain ⟨G3, hG3⟩ : ∃ G3, G3 = upd G2 p1 (.lst (txs (les l m))) := ⟨_, rfl⟩
  rw [← hG3] at n5 e3
  have g31 : G3 p1 = some (.lst (txs (les l m))) := by rw [hG3]; exact upd_same
  have g32 : G3 p2 = some (.lst (txs (les l m))) := e3 _ _ g22
  repeat walk_at "s"
  refine ⟨G3, L, .ref p1, .ref p2, _, rfl, n5, dp_txs (sqL g31), dp_txs (sqL g32), dn_txs (by omega), fun H4 n6 => ?_⟩
  repeat walk_at "s"
  refine w_iteF rfl ?_
  repeat walk_at "s"
  refine lc_now n6 (fun i acc G' L' => acc = nums ((List.range i).map fun n => ((les l m).filter fun x => tk (bitN l.length n) x).length) ∧ G' = G3 ∧ L' = L) ⟨rfl, rfl, rfl⟩ (fun _ _ _ _ _ _ _ => trivial) ?_ ?_
  · rintro D i x H5 H6 acc G' L' hi ⟨rfl, rfl, rfl⟩ n7 ⟨rfl, rfl⟩
    have hi2 : i < 65536 := by omega
    repeat walk_at "s"
    refine ⟨rfl, ?_⟩
    repeat walk_at "s"
    refine w_iteT rfl ?_
    repeat walk_at "s"
    refine w_seqI (.lst p1) (txs (les l m)) (sqL (n7.ex _ _ g31)) ?_
    refine lc_now n7 (fun j acc2 G'' L'' => acc2 = txs (((les l m).take j).filter fun x => tk (bitN l.length i) x) ∧ G'' = G' ∧ L'' = (D, .lst (nums ((List.range i).map fun n => ((les l m).filter fun x => tk (bitN l.length n) x).length))) :: L') ⟨rfl, rfl, rfl⟩ (fun _ _ _ _ H h n => by obtain ⟨_, rfl, rfl⟩ := h; exact sqL (n.ex _ _ g31)) ?_ ?_
    · rintro D2 j x H7 H8 acc2 G'' L'' hj ⟨rfl, rfl, rfl⟩ n8 ⟨rfl, hx⟩
      obtain ⟨z, hz, rfl⟩ : ∃ z, (les l m)[j]? = some z ∧ x = .str (S z) := by
        rw [List.getElem?_map] at hx
        cases e : (les l m)[j]? with
        | none => rw [e] at hx; cases hx
        | some c => rw [e] at hx; exact ⟨c, rfl, (Option.some.inj hx).symm⟩
      have hzm := List.mem_of_getElem? hz
      have hzl := les_len hlm z hzm
      repeat walk_at "s"
      refine ⟨rfl, ?_⟩
      repeat walk_at "s"
      refine ⟨_, _, z, w, _, rfl, n8, les_ln hlm hl hm z hzm, by omega, hw, fun H9 n9 => ?_⟩
      have eb : bitA w (0 + ((i : Nat) : Int)) = bitN l.length i := by rw [Int.zero_add, ← hlw]; exact bitA_nat _ _
      rw [eb]
      repeat walk_at "s"
      refine w_ite (fun e => ?_) (fun e => ?_)
      · repeat walk_at "s"
        refine LcP.add n9 ?_ ⟨?_, rfl, rfl⟩
        · rw [List.length_map]
          refine Nat.lt_of_le_of_lt (List.length_filter_le _ _) ?_
          rw [List.length_take]; omega
        rw [take_snoc hz, List.filter_append, List.filter_cons, if_pos e]
        simp [txs]
      · refine ⟨_, _, _, ⟨?_, rfl, rfl⟩, n9⟩
        rw [take_snoc hz, List.filter_append, List.filter_cons, e]
        simp
    · rintro D2 H7 acc2 G'' L'' ⟨rfl, rfl, rfl⟩ n8
      repeat walk_at "s"
      refine w_lenL (sqL n8.get0) ?_
      refine LcP.add n8.drop (by rw [List.length_map, List.length_map, List.length_range]; omega) ⟨?_, rfl, rfl⟩
      rw [List.length_map, List.length_map, List.take_length, range_snoc]
      simp [nums]
  · rintro D H5 acc G' L' ⟨rfl, rfl, rfl⟩ n7
    rw [hpe] at n7
    have n8 := n7.freeze
    have e4 := n7.exf
    have g4 : (upd G' D (.lst (nums ((List.range (2 ^ l.length)).map fun n => ((les l m).filter fun x => tk (bitN l.length n) x).length)))) D = some (.lst (nums ((List.range (2 ^ l.length)).map fun n => ((les l m).filter fun x => tk (bitN l.length n) x).length))) := upd_same
    generalize upd G' D (.lst (nums ((List.range (2 ^ l.length)).map fun n => ((les l m).filter fun x => tk (bitN l.length n) x).length))) = G4 at n8 e4 g4
    repeat walk_at "s"
    refine w_enumI (.lst D) _ (sqL (n8.ex _ _ g4)) ?_
    refine for_k (fun i σ H => ∃ y6 y7 y8, σ = [some (.str (S l)), some (.str (S m)), some (.int w), some (.ref p1), some (.ref p2), some (.ref D), y6, y7, y8, none] ∧ Now G4 L' H) ⟨_, _, _, rfl, n8⟩ (fun _ _ _ ⟨_, _, _, _, n⟩ => sqL (n.ex _ _ g4)) ?_ ?_
    · rintro i x σ H6 H7 hi ⟨y6, y7, y8, rfl, n9⟩ ⟨T2, x', rfl, hT2, rfl, hx⟩
      obtain ⟨k, hk, rfl⟩ := num_of_map hx
      have hki : k = ((les l m).filter fun x => tk (bitN l.length i) x).length := by
        rw [List.getElem?_map] at hk
        cases e : (List.range (2 ^ l.length))[i]? with
        | none => rw [e] at hk; cases hk
        | some c =>
          rw [e] at hk
          have hc := List.getElem?_eq_some_iff.mp e
          have : c = i := by rw [← hc.2, List.getElem_range]
          subst this
          exact (Option.some.inj hk).symm
      rw [les_count hlm hl hm (bitN_01 _ _)] at hki
      have n10 := n9.new (o := .tup [.int (i : Nat), .int (k : Nat)]) hT2
      have eb : bitA w ((i : Nat) : Int) = bitN l.length i := by rw [← hlw]; exact bitA_nat _ _
      refine w_gtup (sqT upd_same) rfl ?_
      repeat walk_at "s"
      refine ⟨_, _, l, w, _, rfl, n10, hl, hlw, hw, fun H8 n11 => ?_⟩
      rw [eb]
      repeat walk_at "s"
      refine w_ite (fun e => ?_) (fun e => ?_)
      · repeat walk_at "s"
        refine ⟨_, _, m, w, _, rfl, n11, hm, hmw, hw, fun H9 n12 => ?_⟩
        rw [eb]
        repeat walk_at "s"
        refine w_iteF ?_ ⟨_, _, _, rfl, n12⟩
        rw [hki, e, Bool.true_and]
        cases tk (bitN l.length i) m <;> rfl
      · repeat walk_at "s"
        refine w_iteF ?_ ⟨_, _, _, rfl, n11⟩
        rw [hki, e]
        rfl
    · rintro σ H6 ⟨y6, y7, y8, rfl, n9⟩
      have n10 := n9.weak e4
      rw [hG3] at n10
      have n11 := n10.thaw g21
      repeat walk_at "s"
      refine w_tyl n11.get0 ?_
      repeat walk_at "s"
      refine w_append0 n11 (by rw [List.length_map]; omega) fun H7 n12 => ?_
      repeat walk_at "s"
      refine ⟨G2, _, l, m, rfl, n12, hlm, by omega, hl, hm, fun p9 H8 n13 => ?_⟩
      repeat walk_at "s"
      refine ⟨_, _, .ref p9, .ref p2, _, rfl, n13.freeze, dp_txs (sqL upd_same), dp_txs (sqL (n13.exf _ _ g22)), dn_txs (by omega), fun H9 n14 => ?_⟩
      exact q H9 ((n14.weak n13.exf).drop.weak (e1.trans e2))
def sp_right (K : PySem.W.Frag) : Sp := fun vs H Q _ => ∃ (G : Hp) (L : List (Addr × HO)) (b : Addr) (o : HO) (c : Nat), vs = [.ref b] ∧ Now G ((b, o) :: L) H ∧ Bx c o ∧ c ≤ 100 ∧ ∀ (o' : HO) (H' : Hp), Now G ((b, o') :: L) H' → Q (.bl true) H'
/- _law_right(_law_box_here): 0 _law_box_here, 1 _law_size, 2 _law_lane_here, 3 _law_turn, 4 _law_other, 5 _law_wide -/
def rd_right (K : PySem.W.Frag) : TS := (tSeq (tAsg (tOp (rAddU K) (tC (.int 1)) (tCall (sp_take K) [] E0 (tCons (tVar 0) (tCons (tC (.int 8)) tNil)))) (gName 1))
  (tSeq (tAsg (tOp (rIx K) (tLst (tCons (tOp (rMulU K) (tC (.str (SX.S [45]))) (tVar 1)) (tCons (tCall (sp_lane K) [] E0 (tCons (tVar 0) (tCons (tVar 1) (tCons (tC (.str (SX.S []))) tNil)))) tNil))) (tCall (sp_take K) [] E0 (tCons (tVar 0) (tCons (tC (.int 2)) tNil)))) (gName 2))
  (tSeq (tFor (iRng1 (tCons (tC (.int 12)) tNil)) (gName 3) (tSeq (tAsg (tCall (sp_lane K) [] E0 (tCons (tVar 0) (tCons (tVar 1) (tCons (tVar 2) tNil)))) (gName 4))
  (tSeq (tIfS (tOr (tNot (tTrth K (tCall (sp_pair_right K) [] E0 (tCons (tVar 2) (tCons (tVar 4) (tCons (tVar 1) tNil)))))) (tNot (tTrth K (tCall (sp_pair_right K) [] E0 (tCons (tVar 4) (tCons (tVar 2) (tCons (tVar 1) tNil))))))) (tRet (tC (.bl false))) tNext)
  (tAsg (tOp (rIx K) (tLst (tCons (tVar 4) (tCons (tOp (rMulU K) (tC (.str (SX.S [45]))) (tVar 1)) (tCons (tVar 2) tNil)))) (tCall (sp_take K) [] E0 (tCons (tVar 0) (tCons (tC (.int 3)) tNil)))) (gName 2)))))
  (tSeq (tAsg (tCall (sp_lane K) [] E0 (tCons (tVar 0) (tCons (tC (.int 14)) (tCons (tC (.str (SX.S []))) tNil)))) (gName 5))
  (tSeq (tAsg (tCall (sp_lane K) [] E0 (tCons (tVar 0) (tCons (tC (.int 14)) (tCons (tVar 5) tNil)))) (gName 4))
  (tRet (tAndT K (tCall (sp_same K) [] E0 (tCons (tCall (sp_less K) [] E0 (tCons (tVar 5) (tCons (tVar 4) tNil))) (tCons (tCall (sp_due K) [] E0 (tCons (tVar 5) (tCons (tVar 4) tNil))) tNil))) (tAndT K (tOp (rEqU K) (tCall (sp_less K) [] E0 (tCons (tVar 5) (tCons (tVar 5) tNil))) (tLst tNil)) (tOp (rEqU K) (tCall (sp_less K) [] E0 (tCons (tVar 2) (tCons (tVar 2) tNil))) (tLst tNil))))))))))
theorem ln_right {K : PySem.W.Frag} {vs : List V} {H : Hp} {Q : VK} {E : XK} (h : sp_right K vs H Q E) : vs.length = 1 := by
  obtain ⟨G, L, b, o, c, rfl, _⟩ := h; rfl
theorem Ln.rep (n : Nat) : Ln (List.replicate n 45) := fun c hc => .inr (.inr (List.eq_of_mem_replicate hc))
theorem ok_rd_right {K : PySem.W.Frag} {vs : List V} {H : Hp} {Q : VK} {E : XK} (h : sp_right K vs H Q E) : rd_right K { nx := fun _ H' => Q .non H', rt := Q } (start ["a", "b", "c", "d", "e", "f"] vs) H := by
  obtain ⟨G, L, b, o, c, rfl, nw, hb, hc, q⟩ := h
  show rd_right K _ [some (.ref b), none, none, none, none, none] H
  unfold rd_right
  repeat walk_at "s"
  refine w_take nw hb (by omega) (by decide) (by decide) fun r o1 H1 r0 r1 hb1 n1 => ?_
  repeat walk_at "s"
  refine w_rep1 (by omega) (by omega) ?_
  repeat walk_at "s"
  refine ⟨G, L, b, o1, _, _, [], rfl, n1, hb1, by omega, by omega, by omega, .inl rfl, fun l o2 H2 hl hln hb2 n2 => ?_⟩
  repeat walk_at "s"
  refine w_lstG n2 (Nat.le_of_ble_eq_true rfl) fun p3 G3 H3 e3 hp3 n3 => ?_
  repeat walk_at "s"
  refine w_take n3 hb2 (by omega) (by decide) (by decide) fun r4 o4 H4 r40 r41 hb4 n4 => ?_
  have hrep : ((List.replicate (1 + r).toNat 45).length : Int) = 1 + r := by rw [List.length_replicate]; omega
  obtain ⟨l4, hl4, hln4, hat⟩ : ∃ l4 : List Nat, (l4.length : Int) = 1 + r ∧ Ln l4 ∧ atI [V.str (S (List.replicate (1 + r).toNat 45)), V.str (S l)] r4 = some (V.str (S l4)) := by
    have : r4 = 0 ∨ r4 = 1 := by omega
    rcases this with rfl | rfl
    · exact ⟨_, hrep, Ln.rep _, rfl⟩
    · exact ⟨l, hl, hln, rfl⟩
  refine w_ixL (sqL (n4.ex _ _ hp3)) hat ?_
  replace n4 := n4.weak e3
  repeat walk_at "s"
  refine for_k (fun i σ H => ∃ (o' : HO) (l : List Nat) (y3 y4 : Option V), σ = [some (.ref b), some (.int (1 + r)), some (.str (S l)), y3, y4, none] ∧ (l.length : Int) = 1 + r ∧ Ln l ∧ Bx (c + 32 + 31 * i) o' ∧ Now G ((b, o') :: L) H) ⟨o4, l4, _, _, rfl, hl4, hln4, hb4.mono (by omega), n4⟩ (fun _ _ _ _ => trivial) ?_ ?_
  · rintro i x σ H5 H6 hi ⟨o5, l5, y3, y4, rfl, hl5, hln5, hb5, n5⟩ ⟨rfl, rfl⟩
    have hi' : i < 12 := hi
    repeat walk_at "s"
    refine ⟨G, L, b, o5, _, _, l5, rfl, n5, hb5, by omega, by omega, by omega, .inr ⟨hl5, hln5⟩, fun m o6 H6 hm hmn hb6 n6 => ?_⟩
    repeat walk_at "s"
    refine ⟨_, _, l5, m, _, rfl, n6, hln5, hmn, hl5, hm, by omega, fun H7 n7 => ?_⟩
    repeat walk_at "s"
    refine w_iteF rfl ?_
    repeat walk_at "s"
    refine ⟨_, _, m, l5, _, rfl, n7, hmn, hln5, hm, hl5, by omega, fun H8 n8 => ?_⟩
    repeat walk_at "s"
    refine w_iteF rfl ?_
    repeat walk_at "s"
    refine w_rep1 (by omega) (by omega) ?_
    repeat walk_at "s"
    refine w_lstG n8 (Nat.le_of_ble_eq_true rfl) fun p9 G9 H9 e9 hp9 n9 => ?_
    repeat walk_at "s"
    refine w_take n9 hb6 (by omega) (by decide) (by decide) fun r10 o10 H10 r100 r101 hb10 n10 => ?_
    obtain ⟨l11, hl11, hln11, hat11⟩ : ∃ l11 : List Nat, (l11.length : Int) = 1 + r ∧ Ln l11 ∧ atI [V.str (S m), V.str (S (List.replicate (1 + r).toNat 45)), V.str (S l5)] r10 = some (V.str (S l11)) := by
      have : r10 = 0 ∨ r10 = 1 ∨ r10 = 2 := by omega
      rcases this with rfl | rfl | rfl
      · exact ⟨m, hm, hmn, rfl⟩
      · exact ⟨_, hrep, Ln.rep _, rfl⟩
      · exact ⟨l5, hl5, hln5, rfl⟩
    refine w_ixL (sqL (n10.ex _ _ hp9)) hat11 ?_
    repeat walk_at "s"
    exact ⟨o10, l11, _, _, rfl, hl11, hln11, hb10.mono (by omega), n10.weak e9⟩
  · rintro σ H5 ⟨o5, l5, y3, y4, rfl, hl5, hln5, hb5, n5⟩
    repeat walk_at "s"
    refine ⟨G, L, b, o5, _, 14, [], rfl, n5, hb5, by omega, by decide, by decide, .inl rfl, fun l6 o6 H6 hl6 hln6 hb6 n6 => ?_⟩
    repeat walk_at "s"
    refine ⟨G, L, b, o6, _, 14, l6, rfl, n6, hb6, by omega, by decide, by decide, .inr ⟨hl6, hln6⟩, fun m o7 H7 hm hmn hb7 n7 => ?_⟩
    have hlm : l6.length = m.length := by omega
    have hls := les_size (l := l6) (m := m) hlm
    repeat walk_at "s"
    refine ⟨G, _, l6, m, rfl, n7, hlm, by omega, hln6, hmn, fun p8 H8 n8 => ?_⟩
    repeat walk_at "s"
    refine ⟨_, _, l6, m, rfl, n8.freeze, hlm, by omega, hln6, hmn, fun p9 H9 n9 => ?_⟩
    repeat walk_at "s"
    refine ⟨_, _, .ref p8, .ref p9, _, rfl, n9.freeze, dp_txs (sqL (n9.exf _ _ upd_same)), dp_txs (sqL upd_same), dn_txs (by omega), fun H10 n10 => ?_⟩
    replace n10 := (n10.weak n9.exf).weak n8.exf
    repeat walk_at "s"
    refine w_iteT rfl ?_
    repeat walk_at "s"
    refine ⟨G, _, l6, l6, rfl, n10, rfl, by omega, hln6, hln6, fun p11 H11 n11 => ?_⟩
    rw [les_self] at n11
    repeat walk_at "s"
    refine w_lstG n11 (Nat.le_of_ble_eq_true rfl) fun p12 G12 H12 e12 hp12 n12 => ?_
    refine w_eqNums (l := []) (m := []) (sqL n12.get0) (sqL (n12.ex _ _ hp12)) ?_
    repeat walk_at "s"
    refine w_iteT rfl ?_
    repeat walk_at "s"
    refine ⟨G12, _, l5, l5, rfl, n12, rfl, by omega, hln5, hln5, fun p13 H13 n13 => ?_⟩
    rw [les_self] at n13
    repeat walk_at "s"
    refine w_lstG n13 (Nat.le_of_ble_eq_true rfl) fun p14 G14 H14 e14 hp14 n14 => ?_
    refine w_eqNums (l := []) (m := []) (sqL n14.get0) (sqL (n14.ex _ _ hp14)) ?_
    exact q o7 H14 ((n14.drop.drop.weak e14).weak e12)
/-! ### the law -/
/- law(_law_script): 0 _law_script, 1 _law_k -/
def rd_law (K : PySem.W.Frag) : TS := (tRet (tCB (rAll K) (tCons (tLc (iRng1 (tCons (tOp (rAddU K) (tC (.int 1)) (tCB (rMinU K) (tCons (tC (.int 3)) (tCons (tCB (rLenU K) (tCons (tVar 0) tNil)) tNil)))) tNil)) (gName 1) tYes (tCall (sp_right K) [] E0 (tCons (tCall (sp_box K) [] E0 (tCons (tVar 0) (tCons (tVar 1) tNil))) tNil)) [1]) tNil)))
theorem ok_rd_law {K : PySem.W.Frag} {vs : List V} {H : Hp} {Q : VK} {E : XK} (h : sp_law K vs H Q E) : rd_law K { nx := fun _ H' => Q .non H', rt := Q } (start ["a", "b"] vs) H := by
  obtain ⟨a, ns, rfl, hS, hl, q⟩ := h
  show rd_law K _ [some (.ref a), none] H
  unfold rd_law
  repeat walk_at "s"
  refine w_lenL hS ?_
  repeat walk_at "s"
  have hm : ((if ((ns.map V.int).length : Int) < 3 then ((ns.map V.int).length : Int) else 3)) ≤ 3 ∧ 0 ≤ ((if ((ns.map V.int).length : Int) < 3 then ((ns.map V.int).length : Int) else 3)) := by split <;> omega
  refine lc_now (now0 H) (fun i acc G' L' => acc = ((List.range i).map fun _ => true).map V.bl ∧ G' = H ∧ L' = []) ⟨rfl, rfl, rfl⟩ (fun _ _ _ _ _ _ _ => trivial) ?_ ?_
  · rintro D i x H1 H2 acc G' L' hi ⟨rfl, rfl, rfl⟩ n1 ⟨rfl, rfl⟩
    have hi5 : i < 5 := by omega
    repeat walk_at "s"
    refine ⟨rfl, ?_⟩
    repeat walk_at "s"
    refine w_iteT rfl ?_
    repeat walk_at "s"
    refine ⟨_, _, a, ns, _, rfl, n1, sq_ex (fun a o h => n1.ex a o h) hS, by omega, by omega, fun b o H3 hb n2 _ => ?_⟩
    repeat walk_at "s"
    refine ⟨_, _, b, o, 0, rfl, n2, hb, by omega, fun o' H4 n3 => ?_⟩
    refine LcP.add n3.drop (by rw [List.length_map, List.length_map, List.length_range]; omega) ⟨?_, rfl, rfl⟩
    rw [range_snoc, List.map_append]
    rfl
  · rintro D H1 acc G' L' ⟨rfl, rfl, rfl⟩ n1
    repeat walk_at "s"
    refine ⟨D, _, rfl, sqL n1.get0, ?_⟩
    have e : ∀ n : Nat, ((List.range n).map fun _ => true).all id = true := fun n => by simp
    rw [e]
    exact q H1

/-! ### the text -/
def topS (i : Nat) : Stmt := PySem.Challenge.pw_masklanes_k06_less_another_lane.main.body.getD i (.Pass ⟨0, 0, 0, 0⟩)
abbrev st_common : Stmt := topS 3
theorem sc_common : FnScope ["lane", "other", "found", "one", "two"] ["lane", "other"] (defScope st_common) := ⟨rfl, rfl, rfl, by decide +kernel, rfl, by decide +kernel, by decide +kernel⟩
abbrev st_less : Stmt := topS 4
theorem sc_less : FnScope ["lane", "other", "found", "here", "place", "one", "two"] ["lane", "other"] (defScope st_less) := ⟨rfl, rfl, rfl, by decide +kernel, rfl, by decide +kernel, by decide +kernel⟩
abbrev st_box : Stmt := topS 6
theorem sc_box : FnScope ["_law_script", "_law_k", "_law_cell"] ["_law_script", "_law_k"] (defScope st_box) := ⟨rfl, rfl, rfl, by decide +kernel, rfl, by decide +kernel, by decide +kernel⟩
abbrev st_take : Stmt := topS 7
theorem sc_take : FnScope ["_law_box_here", "_law_many", "_law_found", "_law_once", "_law_twice"] ["_law_box_here", "_law_many"] (defScope st_take) := ⟨rfl, rfl, rfl, by decide +kernel, rfl, by decide +kernel, by decide +kernel⟩
abbrev st_lane : Stmt := topS 8
theorem sc_lane : FnScope ["_law_box_here", "_law_size", "_law_other", "_law_signs", "_law_turn", "_law_k"] ["_law_box_here", "_law_size", "_law_other"] (defScope st_lane) := ⟨rfl, rfl, rfl, by decide +kernel, rfl, by decide +kernel, by decide +kernel⟩
abbrev st_takes : Stmt := topS 9
theorem sc_takes : FnScope ["_law_lane_here", "_law_size", "_law_number", "_law_k", "_law_sign"] ["_law_lane_here", "_law_size", "_law_number"] (defScope st_takes) := ⟨rfl, rfl, rfl, by decide +kernel, rfl, by decide +kernel, by decide +kernel⟩
abbrev st_same : Stmt := topS 10
theorem sc_same : FnScope ["_law_found", "_law_due_here", "_law_one", "_law_other"] ["_law_found", "_law_due_here"] (defScope st_same) := ⟨rfl, rfl, rfl, by decide +kernel, rfl, by decide +kernel, by decide +kernel⟩
abbrev st_due : Stmt := topS 11
theorem sc_due : FnScope ["_law_lane_here", "_law_other", "_law_places", "_law_found", "_law_at", "_law_signs", "_law_k", "_law_sign", "_law_sign_two"] ["_law_lane_here", "_law_other"] (defScope st_due) := ⟨rfl, rfl, rfl, by decide +kernel, rfl, by decide +kernel, by decide +kernel⟩
abbrev st_pair_right : Stmt := topS 12
theorem sc_pair_right : FnScope ["_law_lane_here", "_law_other", "_law_size", "_law_found", "_law_due_here", "_law_counts", "_law_number", "_law_many", "_law_due_here_here", "_law_one"] ["_law_lane_here", "_law_other", "_law_size"] (defScope st_pair_right) := ⟨rfl, rfl, rfl, by decide +kernel, rfl, by decide +kernel, by decide +kernel⟩
abbrev st_right : Stmt := topS 13
theorem sc_right : FnScope ["_law_box_here", "_law_size", "_law_lane_here", "_law_turn", "_law_other", "_law_wide"] ["_law_box_here"] (defScope st_right) := ⟨rfl, rfl, rfl, by decide +kernel, rfl, by decide +kernel, by decide +kernel⟩
abbrev st_law : Stmt := topS 14
theorem sc_law : FnScope ["_law_script", "_law_k"] ["_law_script"] (defScope st_law) := ⟨rfl, rfl, rfl, by decide +kernel, rfl, by decide +kernel, by decide +kernel⟩
/-- what the top has left -/
structure Txt (w : World) (K : PySem.W.Frag) (mg : Str → Option Value) where
  f_common : Addr
  fd_common : FuncData
  F_common : Fun K "common" "common" st_common f_common fd_common
  b_common : Binds K fd_common ["lane", "other"] []
  g_common : mg "common" = some (.ref f_common)
  f_less : Addr
  fd_less : FuncData
  F_less : Fun K "less" "less" st_less f_less fd_less
  b_less : Binds K fd_less ["lane", "other"] []
  g_less : mg "less" = some (.ref f_less)
  f_box : Addr
  fd_box : FuncData
  F_box : Fun K "_law_box" "_law_box" st_box f_box fd_box
  b_box : Binds K fd_box ["_law_script", "_law_k"] []
  g_box : mg "_law_box" = some (.ref f_box)
  f_take : Addr
  fd_take : FuncData
  F_take : Fun K "_law_take" "_law_take" st_take f_take fd_take
  b_take : Binds K fd_take ["_law_box_here", "_law_many"] []
  g_take : mg "_law_take" = some (.ref f_take)
  f_lane : Addr
  fd_lane : FuncData
  F_lane : Fun K "_law_lane" "_law_lane" st_lane f_lane fd_lane
  b_lane : Binds K fd_lane ["_law_box_here", "_law_size", "_law_other"] []
  g_lane : mg "_law_lane" = some (.ref f_lane)
  f_takes : Addr
  fd_takes : FuncData
  F_takes : Fun K "_law_takes" "_law_takes" st_takes f_takes fd_takes
  b_takes : Binds K fd_takes ["_law_lane_here", "_law_size", "_law_number"] []
  g_takes : mg "_law_takes" = some (.ref f_takes)
  f_same : Addr
  fd_same : FuncData
  F_same : Fun K "_law_same" "_law_same" st_same f_same fd_same
  b_same : Binds K fd_same ["_law_found", "_law_due_here"] []
  g_same : mg "_law_same" = some (.ref f_same)
  f_due : Addr
  fd_due : FuncData
  F_due : Fun K "_law_due" "_law_due" st_due f_due fd_due
  b_due : Binds K fd_due ["_law_lane_here", "_law_other"] []
  g_due : mg "_law_due" = some (.ref f_due)
  f_pair_right : Addr
  fd_pair_right : FuncData
  F_pair_right : Fun K "_law_pair_right" "_law_pair_right" st_pair_right f_pair_right fd_pair_right
  b_pair_right : Binds K fd_pair_right ["_law_lane_here", "_law_other", "_law_size"] []
  g_pair_right : mg "_law_pair_right" = some (.ref f_pair_right)
  f_right : Addr
  fd_right : FuncData
  F_right : Fun K "_law_right" "_law_right" st_right f_right fd_right
  b_right : Binds K fd_right ["_law_box_here"] []
  g_right : mg "_law_right" = some (.ref f_right)
  f_law : Addr
  fd_law : FuncData
  F_law : Fun K "law" "law" st_law f_law fd_law
  b_law : Binds K fd_law ["_law_script"] []
  g_law : mg "law" = some (.ref f_law)
  v_ANY : Value
  c_ANY : mg "ANY" = some v_ANY
  r_ANY : RelV (.str (SX.S [45])) v_ANY
  a_OTHER_BIT : Addr
  c_OTHER_BIT : mg "OTHER_BIT" = some (.ref a_OTHER_BIT)
  d_OTHER_BIT : KD K w a_OTHER_BIT [([48], (.str (SX.S [49]))), ([49], (.str (SX.S [48])))]
  z_abs : mg "abs" = none
  z_all : mg "all" = none
  z_any : mg "any" = none
  z_bool : mg "bool" = none
  z_divmod : mg "divmod" = none
  z_enumerate : mg "enumerate" = none
  z_int : mg "int" = none
  z_isinstance : mg "isinstance" = none
  z_len : mg "len" = none
  z_list : mg "list" = none
  z_min : mg "min" = none
  z_range : mg "range" = none
  z_str : mg "str" = none
  z_tuple : mg "tuple" = none
  z_zip : mg "zip" = none
section
variable {P : Program} {w : World} {K : PySem.W.Frag} {mg : Str → Option Value} {base : Heap}
theorem dv_common (T : Txt w K mg) {f : Addr} {cdv : Value} {A : Around} {outer : List Env} {s : Shared} {H : Hp} {E : XK} (hr : Room 0 (A.deeper (envOfC "common" (defScope st_common) s.heap.objs.size f cdv))) :
    PSs (cxOf CX0 P w K mg base ["lane", "other", "found", "one", "two"] "common" (defScope st_common) f cdv A outer s H E).nox (defBody st_common) (rd_common K) :=
  (pss_cons (ps_set (i := 2) sc_common.nd rfl (by first | exact Or.inl rfl | exact Or.inr rfl) pe_str)
  (pss_cons (ps_for PassesOwn.never rfl (pi_zipS (by rfl) T.z_zip (pa_cons (pv 0) (pa_cons (pv 1) pa_nil)) (pk_cons pe_bl pk_nil)) (pg_tup rfl (pgs_cons (pg_name (i := 3) sc_common.nd rfl (by first | exact .inl rfl | exact .inr rfl)) (pgs_cons (pg_name (i := 4) sc_common.nd rfl (by first | exact .inl rfl | exact .inr rfl)) pgs_nil))) (pss_cons (ps_if (PW.pt (pw_and (pt_cmpR (u_notin hr.units) (pe_glob (v := (.str (SX.S [45]))) (by rfl) T.c_ANY T.r_ANY) (pe_tup (pa_cons (pv 3) (pa_cons (pv 4) pa_nil))) (by rfl)) (pw_and1 (pt_cmpR (u_ne hr.units) (pv 3) (pv 4) (nomark _))))) (pss_one (ps_ret pe_non)) pss_nil)
  (pss_one (ps_aug (i := 2) sc_common.nd rfl (by first | exact Or.inl rfl | exact Or.inr rfl) (pe_ifExp (pt_cmpR (u_eq hr.units) (pv 3) (pe_glob (v := (.str (SX.S [45]))) (by rfl) T.c_ANY T.r_ANY) (nomark _)) (pv 4) (pv 3)) u_ipadd))))
  (pss_one (ps_ret (pv 2)))))
theorem ok_common (T : Txt w K mg) : FnOk P w K mg base CX0 1 T.f_common T.fd_common ["lane", "other"] (sp_common K) := by
  refine T.F_common.ok sc_common (fun vs H Q E h => ln_common h) (fun cdv A outer s H vs Q E hr h => ⟨_, dv_common T hr, ok_rd_common h⟩)
theorem dv_less (T : Txt w K mg) {f : Addr} {cdv : Value} {A : Around} {outer : List Env} {s : Shared} {H : Hp} {E : XK} (G_common : FnOk P w K mg base CX0 1 T.f_common T.fd_common ["lane", "other"] (sp_common K)) (hr : Room 1 (A.deeper (envOfC "less" (defScope st_less) s.heap.objs.size f cdv))) :
    PSs (cxOf CX0 P w K mg base ["lane", "other", "found", "here", "place", "one", "two"] "less" (defScope st_less) f cdv A outer s H E).nox (defBody st_less) (rd_less K) :=
  (pss_cons (ps_if (pt_cmpR (u_is hr.units) (pe_call G_common (hr.mono (by decide)) (by rfl) T.g_common T.F_common.kp T.b_common .nil pass0 (pa_cons (pv 0) (pa_cons (pv 1) pa_nil))) pe_non (nomark _)) (pss_one (ps_ret (pe_lst (pa_cons (pv 0) pa_nil)))) pss_nil)
  (pss_cons (ps_par (i := 2) (j := 3) (by rfl) sc_less.nd rfl rfl (by decide) rfl rfl (pa_cons (pe_lst pa_nil) (pa_cons (pv 0) pa_nil)) (by rfl))
  (pss_cons (ps_for PassesOwn.never rfl (pi_enumZipS (by rfl) T.z_enumerate (by rfl) T.z_zip (pa_cons (pv 0) (pa_cons (pv 1) pa_nil)) (pk_cons pe_bl pk_nil)) (pg_tup rfl (pgs_cons (pg_name (i := 4) sc_less.nd rfl (by first | exact .inl rfl | exact .inr rfl)) (pgs_cons (pg_tup rfl (pgs_cons (pg_name (i := 5) sc_less.nd rfl (by first | exact .inl rfl | exact .inr rfl)) (pgs_cons (pg_name (i := 6) sc_less.nd rfl (by first | exact .inl rfl | exact .inr rfl)) pgs_nil))) pgs_nil))) (pss_one (ps_if (PW.pt (pw_and (pt_cmpR (u_eq hr.units) (pv 5) (pe_glob (v := (.str (SX.S [45]))) (by rfl) T.c_ANY T.r_ANY) (nomark _)) (pw_and1 (pt_cmpR (u_ne hr.units) (pv 6) (pe_glob (v := (.str (SX.S [45]))) (by rfl) T.c_ANY T.r_ANY) (nomark _))))) (pss_cons (ps_expr (pe_bm PySem.F.plainAttrs_list PySem.F.slot_list_append PySem.F.type_list_append mt_append (pv 2) (pa_cons (pe_op u_add (pe_op u_add (pe_slice u_sl (pv 3) po_none (po_some (pv 4))) (pe_kd (by rfl) T.c_OTHER_BIT T.d_OTHER_BIT (pv 6) (fun _ _ => rfl))) (pe_slice u_sl (pv 3) (po_some (pe_op u_add (pv 4) pe_int)) po_none)) pa_nil)))
  (pss_one (ps_set (i := 3) sc_less.nd rfl (by first | exact Or.inl rfl | exact Or.inr rfl) (pe_op u_add (pe_op u_add (pe_slice u_sl (pv 3) po_none (po_some (pv 4))) (pv 6)) (pe_slice u_sl (pv 3) (po_some (pe_op u_add (pv 4) pe_int)) po_none))))) pss_nil)))
  (pss_one (ps_ret (pv 2))))))
theorem ok_less (T : Txt w K mg) (G_common : FnOk P w K mg base CX0 1 T.f_common T.fd_common ["lane", "other"] (sp_common K)) : FnOk P w K mg base CX0 2 T.f_less T.fd_less ["lane", "other"] (sp_less K) := by
  refine T.F_less.ok sc_less (fun vs H Q E h => ln_less h) (fun cdv A outer s H vs Q E hr h => ⟨_, dv_less T G_common hr, ok_rd_less h⟩)
theorem dv_box (T : Txt w K mg) {f : Addr} {cdv : Value} {A : Around} {outer : List Env} {s : Shared} {H : Hp} {E : XK} (hr : Room 0 (A.deeper (envOfC "_law_box" (defScope st_box) s.heap.objs.size f cdv))) :
    PSs (cxOf CX0 P w K mg base ["_law_script", "_law_k", "_law_cell"] "_law_box" (defScope st_box) f cdv A outer s H E).nox (defBody st_box) (rd_box K) :=
  (pss_cons (ps_set (i := 2) sc_box.nd rfl (by first | exact Or.inl rfl | exact Or.inr rfl) (pe_ifExp (pt_cmpR (u_lt hr.units) (pv 1) (pe_callB u_len (by rfl) T.z_len (by decide +kernel) (pa_cons (pv 0) pa_nil)) (nomark _)) (pe_ix ix_seq (pv 0) (pv 1) (fun _ _ => rfl)) pe_int))
  (pss_one (ps_ret (pe_lst (pa_cons (pe_op u_mul (pe_callB call_abs (by rfl) T.z_abs (by decide +kernel) (pa_cons (pv 2) pa_nil)) (pe_callTy u_int (by rfl) T.z_int (by decide +kernel) (pa_cons (pe_cmpR (u_ge hr.units) (pe_callB call_abs (by rfl) T.z_abs (by decide +kernel) (pa_cons (pv 2) pa_nil)) (pe_op u_pow pe_int pe_int) (nomark _)) pa_nil))) (pa_cons (pe_op u_add (pe_op u_add (pe_op u_mod (pv 2) pe_int) (pe_op u_mul pe_int (pv 1))) pe_int) (pa_cons pe_int pa_nil)))))))
theorem ok_box (T : Txt w K mg) : FnOk P w K mg base CX0 1 T.f_box T.fd_box ["_law_script", "_law_k"] (sp_box K) := by
  refine T.F_box.ok sc_box (fun vs H Q E h => ln_box h) (fun cdv A outer s H vs Q E hr h => ⟨_, dv_box T hr, ok_rd_box h⟩)
theorem dv_take (T : Txt w K mg) {f : Addr} {cdv : Value} {A : Around} {outer : List Env} {s : Shared} {H : Hp} {E : XK} (hr : Room 0 (A.deeper (envOfC "_law_take" (defScope st_take) s.heap.objs.size f cdv))) :
    PSs (cxOf CX0 P w K mg base ["_law_box_here", "_law_many", "_law_found", "_law_once", "_law_twice"] "_law_take" (defScope st_take) f cdv A outer s H E).nox (defBody st_take) (rd_take K) :=
  (pss_cons (ps_if (pt_cmpR (u_gt hr.units) (pe_ix ix_seq (pv 0) pe_int (fun _ _ => rfl)) pe_int (nomark _)) (pss_cons (ps_asg (pe_callB call_divmodW (by rfl) T.z_divmod (by decide +kernel) (pa_cons (pe_ix ix_seq (pv 0) pe_int (fun _ _ => rfl)) (pa_cons (pv 1) pa_nil))) (pg_tup rfl (pgs_cons (pg_sub (pv 0) pe_int set_list) (pgs_cons (pg_name (i := 2) sc_take.nd rfl (by first | exact .inl rfl | exact .inr rfl)) pgs_nil))))
  (pss_one (ps_ret (pv 2)))) pss_nil)
  (pss_cons (ps_asg (pe_op u_add (pe_ix ix_seq (pv 0) pe_int (fun _ _ => rfl)) pe_int) (pg_sub (pv 0) pe_int set_list))
  (pss_cons (ps_set (i := 3) sc_take.nd rfl (by first | exact Or.inl rfl | exact Or.inr rfl) (pe_op u_mod (pe_op u_mul (pe_op u_add (pe_ix ix_seq (pv 0) pe_int (fun _ _ => rfl)) (pe_op u_mul pe_int (pe_ix ix_seq (pv 0) pe_int (fun _ _ => rfl)))) (pe_op u_add pe_int (pe_ix ix_seq (pv 0) pe_int (fun _ _ => rfl)))) pe_int))
  (pss_cons (ps_set (i := 4) sc_take.nd rfl (by first | exact Or.inl rfl | exact Or.inr rfl) (pe_op u_mod (pe_op u_mul (pe_op u_add (pe_op u_add (pv 3) (pe_ix ix_seq (pv 0) pe_int (fun _ _ => rfl))) (pe_op u_fdiv (pe_ix ix_seq (pv 0) pe_int (fun _ _ => rfl)) pe_int)) (pe_op u_add (pe_op u_mod (pv 3) pe_int) pe_int)) pe_int))
  (pss_one (ps_ret (pe_op u_mod (pe_op u_fdiv (pe_op u_mod (pe_op u_add (pe_op u_mul (pv 4) pe_int) (pv 3)) pe_int) pe_int) (pv 1))))))))
theorem ok_take (T : Txt w K mg) : FnOk P w K mg base CX0 1 T.f_take T.fd_take ["_law_box_here", "_law_many"] (sp_take K) := by
  refine T.F_take.ok sc_take (fun vs H Q E h => ln_take h) (fun cdv A outer s H vs Q E hr h => ⟨_, dv_take T hr, ok_rd_take h⟩)
theorem dv_lane (T : Txt w K mg) {f : Addr} {cdv : Value} {A : Around} {outer : List Env} {s : Shared} {H : Hp} {E : XK} (G_take : FnOk P w K mg base CX0 1 T.f_take T.fd_take ["_law_box_here", "_law_many"] (sp_take K)) (hr : Room 1 (A.deeper (envOfC "_law_lane" (defScope st_lane) s.heap.objs.size f cdv))) :
    PSs (cxOf CX0 P w K mg base ["_law_box_here", "_law_size", "_law_other", "_law_signs", "_law_turn", "_law_k"] "_law_lane" (defScope st_lane) f cdv A outer s H E).nox (defBody st_lane) (rd_lane K) :=
  (pss_cons (ps_setLc (i := 3) (own := [("_law_k", 5)]) rfl sc_lane.nd rfl rfl (sw_true rfl rfl rfl (by decide +kernel)) (pi_range1 (by rfl) T.z_range (pa_cons (pv 1) pa_nil)) (blkOk_by (own := [("_law_k", 5)]) (by kernel_rfl)) (fun _ _ _ _ _ => (pg_name (i := 5) sc_lane.nd rfl (by first | exact .inl rfl | exact .inr rfl))) (fun _ _ _ _ _ => pts_nil) (fun _ _ _ _ _ => (pe_ix ix_seq (pe_lst (pa_cons pe_str (pa_cons pe_str (pa_cons pe_str (pa_cons pe_str pa_nil))))) (pe_call G_take (hr.mono (by decide)) (by rfl) T.g_take T.F_take.kp T.b_take .nil pass0 (pa_cons (pv 0) (pa_cons pe_int pa_nil))) (fun _ _ => rfl))))
  (pss_cons (ps_if (PW.pt (pw_and (pt_cmpR (u_ne hr.units) (pv 2) pe_str (nomark _)) (pw_and1 (pt_cmpR (u_eq hr.units) (pe_call G_take (hr.mono (by decide)) (by rfl) T.g_take T.F_take.kp T.b_take .nil pass0 (pa_cons (pv 0) (pa_cons pe_int pa_nil))) pe_int (nomark _))))) (pss_cons (ps_set (i := 3) sc_lane.nd rfl (by first | exact Or.inl rfl | exact Or.inr rfl) (pe_callTy (u_list rfl) (by rfl) T.z_list (by decide +kernel) (pa_cons (pv 2) pa_nil)))
  (pss_one (ps_for PassesOwn.never rfl (pi_range1 (by rfl) T.z_range (pa_cons (pe_op u_add pe_int (pe_call G_take (hr.mono (by decide)) (by rfl) T.g_take T.F_take.kp T.b_take .nil pass0 (pa_cons (pv 0) (pa_cons pe_int pa_nil)))) pa_nil)) (pg_name (i := 4) sc_lane.nd rfl (by first | exact .inl rfl | exact .inr rfl)) (pss_one (ps_asg (pe_ix ix_seq (pe_lst (pa_cons pe_str (pa_cons pe_str (pa_cons pe_str pa_nil)))) (pe_call G_take (hr.mono (by decide)) (by rfl) T.g_take T.F_take.kp T.b_take .nil pass0 (pa_cons (pv 0) (pa_cons pe_int pa_nil))) (fun _ _ => rfl)) (pg_sub (pv 3) (pe_call G_take (hr.mono (by decide)) (by rfl) T.g_take T.F_take.kp T.b_take .nil pass0 (pa_cons (pv 0) (pa_cons (pv 1) pa_nil))) set_list)))))) pss_nil)
  (pss_one (ps_ret (pe_bm PySem.F.plainAttrs_str PySem.F.slot_str_join PySem.F.type_str_join mt_join pe_str (pa_cons (pv 3) pa_nil))))))
theorem ok_lane (T : Txt w K mg) (G_take : FnOk P w K mg base CX0 1 T.f_take T.fd_take ["_law_box_here", "_law_many"] (sp_take K)) : FnOk P w K mg base CX0 2 T.f_lane T.fd_lane ["_law_box_here", "_law_size", "_law_other"] (sp_lane K) := by
  refine T.F_lane.ok sc_lane (fun vs H Q E h => ln_lane h) (fun cdv A outer s H vs Q E hr h => ⟨_, dv_lane T G_take hr, ok_rd_lane h⟩)
theorem dv_takes (T : Txt w K mg) {f : Addr} {cdv : Value} {A : Around} {outer : List Env} {s : Shared} {H : Hp} {E : XK} (hr : Room 0 (A.deeper (envOfC "_law_takes" (defScope st_takes) s.heap.objs.size f cdv))) :
    PSs (cxOf CX0 P w K mg base ["_law_lane_here", "_law_size", "_law_number", "_law_k", "_law_sign"] "_law_takes" (defScope st_takes) f cdv A outer s H E).nox (defBody st_takes) (rd_takes K) :=
  (pss_one (ps_ret (pe_callB (cr_all rfl) (by rfl) T.z_all (by decide +kernel) (pa_cons (pe_lc (own := [("_law_k", 3), ("_law_sign", 4)]) rfl sc_takes.nd (pi_enumS (by rfl) T.z_enumerate (pa_cons (pv 0) pa_nil)) (blkOk_by (own := [("_law_k", 3), ("_law_sign", 4)]) (by kernel_rfl)) (fun _ _ _ _ _ => (pg_tup rfl (pgs_cons (pg_name (i := 3) sc_takes.nd rfl (by first | exact .inl rfl | exact .inr rfl)) (pgs_cons (pg_name (i := 4) sc_takes.nd rfl (by first | exact .inl rfl | exact .inr rfl)) pgs_nil)))) (fun _ _ _ _ _ => pts_nil) (fun _ _ _ _ _ => (pe_orT (pe_cmpR (u_eq hr.units) (pv 4) pe_str (nomark _)) (pe_one (pe_cmpR (u_eq hr.units) (pe_callTy u_int (by rfl) T.z_int (by decide +kernel) (pa_cons (pv 4) pa_nil)) (pe_op u_mod (pe_op u_fdiv (pv 2) (pe_op u_shl pe_int (pe_op u_sub (pe_op u_sub (pv 1) pe_int) (pv 3)))) pe_int) (nomark _)))))) pa_nil))))
theorem ok_takes (T : Txt w K mg) : FnOk P w K mg base CX0 1 T.f_takes T.fd_takes ["_law_lane_here", "_law_size", "_law_number"] (sp_takes K) := by
  refine T.F_takes.ok sc_takes (fun vs H Q E h => ln_takes h) (fun cdv A outer s H vs Q E hr h => ⟨_, dv_takes T hr, ok_rd_takes h⟩)
theorem dv_same (T : Txt w K mg) {n : Nat} {f : Addr} {cdv : Value} {A : Around} {outer : List Env} {s : Shared} {H : Hp} {E : XK} (G_same : FnOk P w K mg base CX0 n T.f_same T.fd_same ["_law_found", "_law_due_here"] (sr_same K n)) (hr : Room n (A.deeper (envOfC "_law_same" (defScope st_same) s.heap.objs.size f cdv))) :
    PSs (cxOf CX0 P w K mg base ["_law_found", "_law_due_here", "_law_one", "_law_other"] "_law_same" (defScope st_same) f cdv A outer s H E).nox (defBody st_same) (rd_same K n) :=
  (pss_cons (ps_if (pt_tru (pe_callB u_isi (by rfl) T.z_isinstance (by decide +kernel) (pa_cons (pv 1) (pa_cons (pe_tup (pa_cons (pe_bltn (v := .ty "list") (by rfl) T.z_list (by decide +kernel) rfl) (pa_cons (pe_bltn (v := .ty "tuple") (by rfl) T.z_tuple (by decide +kernel) rfl) pa_nil))) pa_nil)))) (pss_cons (ps_if (PW.pt (pw_or (pt_cmpR (u_ne hr.units) (pe_callB u_isi (by rfl) T.z_isinstance (by decide +kernel) (pa_cons (pv 0) (pa_cons (pe_bltn (v := .ty "list") (by rfl) T.z_list (by decide +kernel) rfl) pa_nil))) (pe_callB u_isi (by rfl) T.z_isinstance (by decide +kernel) (pa_cons (pv 1) (pa_cons (pe_bltn (v := .ty "list") (by rfl) T.z_list (by decide +kernel) rfl) pa_nil))) (nomark _)) (pw_or1 (pt_cmpR (u_ne hr.units) (pe_callB u_isi (by rfl) T.z_isinstance (by decide +kernel) (pa_cons (pv 0) (pa_cons (pe_bltn (v := .ty "tuple") (by rfl) T.z_tuple (by decide +kernel) rfl) pa_nil))) (pe_callB u_isi (by rfl) T.z_isinstance (by decide +kernel) (pa_cons (pv 1) (pa_cons (pe_bltn (v := .ty "tuple") (by rfl) T.z_tuple (by decide +kernel) rfl) pa_nil))) (nomark _))))) (pss_one (ps_ret pe_bl)) pss_nil)
  (pss_one (ps_ret (pe_andT (pe_cmpR (u_eq hr.units) (pe_callB u_len (by rfl) T.z_len (by decide +kernel) (pa_cons (pv 0) pa_nil)) (pe_callB u_len (by rfl) T.z_len (by decide +kernel) (pa_cons (pv 1) pa_nil)) (nomark _)) (pe_one (pe_callB (cr_all rfl) (by rfl) T.z_all (by decide +kernel) (pa_cons (pe_lc (own := [("_law_one", 2), ("_law_other", 3)]) rfl sc_same.nd (pi_zipN (by rfl) T.z_zip (pa_cons (pv 0) (pa_cons (pv 1) pa_nil))) (blkOk_by (own := [("_law_one", 2), ("_law_other", 3)]) (by kernel_rfl)) (fun _ _ _ _ _ => (pg_tup rfl (pgs_cons (pg_name (i := 2) sc_same.nd rfl (by first | exact .inl rfl | exact .inr rfl)) (pgs_cons (pg_name (i := 3) sc_same.nd rfl (by first | exact .inl rfl | exact .inr rfl)) pgs_nil)))) (fun _ _ _ _ _ => pts_nil) (fun _ _ _ _ _ => (pe_call G_same hr (by rfl) T.g_same T.F_same.kp T.b_same .nil pass0 (pa_cons (pv 2) (pa_cons (pv 3) pa_nil))))) pa_nil))))))) pss_nil)
  (pss_cons (ps_if (PW.pt (pw_or (pt_cmpR (u_is hr.units) (pv 1) pe_non (nomark _)) (pw_or1 (pt_tru (pe_callB u_isi (by rfl) T.z_isinstance (by decide +kernel) (pa_cons (pv 1) (pa_cons (pe_tup (pa_cons (pe_bltn (v := .ty "bool") (by rfl) T.z_bool (by decide +kernel) rfl) (pa_cons (pe_bltn (v := .ty "str") (by rfl) T.z_str (by decide +kernel) rfl) pa_nil))) pa_nil))))))) (pss_one (ps_ret (pe_andT (pe_cmpR (u_eq hr.units) (pv 0) (pv 1) (nomark _)) (pe_andT (pe_cmpR (u_eq hr.units) (pe_callB u_isi (by rfl) T.z_isinstance (by decide +kernel) (pa_cons (pv 0) (pa_cons (pe_bltn (v := .ty "bool") (by rfl) T.z_bool (by decide +kernel) rfl) pa_nil))) (pe_callB u_isi (by rfl) T.z_isinstance (by decide +kernel) (pa_cons (pv 1) (pa_cons (pe_bltn (v := .ty "bool") (by rfl) T.z_bool (by decide +kernel) rfl) pa_nil))) (nomark _)) (pe_one (pe_cmpR (u_eq hr.units) (pe_cmpR (u_is hr.units) (pv 0) pe_non (nomark _)) (pe_cmpR (u_is hr.units) (pv 1) pe_non (nomark _)) (nomark _))))))) pss_nil)
  (pss_one (ps_ret (pe_andT (pe_callB u_isi (by rfl) T.z_isinstance (by decide +kernel) (pa_cons (pv 0) (pa_cons (pe_bltn (v := .ty "int") (by rfl) T.z_int (by decide +kernel) rfl) pa_nil))) (pe_andT (pe_notT (pe_callB u_isi (by rfl) T.z_isinstance (by decide +kernel) (pa_cons (pv 0) (pa_cons (pe_bltn (v := .ty "bool") (by rfl) T.z_bool (by decide +kernel) rfl) pa_nil)))) (pe_one (pe_cmpR (u_eq hr.units) (pv 0) (pv 1) (nomark _)))))))))
theorem okn_same (T : Txt w K mg) : ∀ n : Nat, FnOk P w K mg base CX0 n T.f_same T.fd_same ["_law_found", "_law_due_here"] (sr_same K n)
  | 0 => ⟨fun _ _ _ _ h => (show False from h).elim, fun _ _ _ _ _ _ _ _ _ _ _ _ _ h => (show False from h).elim⟩
  | n + 1 => T.F_same.ok sc_same (fun vs H Q E h => ln_same h) (fun cdv A outer s H vs Q E hr h => ⟨_, dv_same T (okn_same T n) hr, ok_rd_same h⟩)
theorem ok_same (T : Txt w K mg) : FnOk P w K mg base CX0 6 T.f_same T.fd_same ["_law_found", "_law_due_here"] (sp_same K) := okn_same T 6
theorem dv_due (T : Txt w K mg) {f : Addr} {cdv : Value} {A : Around} {outer : List Env} {s : Shared} {H : Hp} {E : XK} (hr : Room 0 (A.deeper (envOfC "_law_due" (defScope st_due) s.heap.objs.size f cdv))) :
    PSs (cxOf CX0 P w K mg base ["_law_lane_here", "_law_other", "_law_places", "_law_found", "_law_at", "_law_signs", "_law_k", "_law_sign", "_law_sign_two"] "_law_due" (defScope st_due) f cdv A outer s H E).nox (defBody st_due) (rd_due K) :=
  (pss_cons (ps_if (pt_tru (pe_callB (cr_any rfl) (by rfl) T.z_any (by decide +kernel) (pa_cons (pe_lc (own := [("_law_sign", 7), ("_law_sign_two", 8)]) rfl sc_due.nd (pi_zipN (by rfl) T.z_zip (pa_cons (pv 0) (pa_cons (pv 1) pa_nil))) (blkOk_by (own := [("_law_sign", 7), ("_law_sign_two", 8)]) (by kernel_rfl)) (fun _ _ _ _ _ => (pg_tup rfl (pgs_cons (pg_name (i := 7) sc_due.nd rfl (by first | exact .inl rfl | exact .inr rfl)) (pgs_cons (pg_name (i := 8) sc_due.nd rfl (by first | exact .inl rfl | exact .inr rfl)) pgs_nil)))) (fun _ _ _ _ _ => pts_nil) (fun _ _ _ _ _ => (pe_andT (pe_cmpR (u_notin hr.units) (pv 7) (pe_tup (pa_cons pe_str (pa_cons (pv 8) pa_nil))) (by rfl)) (pe_one (pe_cmpR (u_ne hr.units) (pv 8) pe_str (nomark _)))))) pa_nil))) (pss_one (ps_ret (pe_lst (pa_cons (pv 0) pa_nil)))) pss_nil)
  (pss_cons (ps_setLc (i := 2) (own := [("_law_k", 6), ("_law_sign", 7)]) rfl sc_due.nd rfl rfl (sw_true rfl rfl rfl (by decide +kernel)) (pi_enumS (by rfl) T.z_enumerate (pa_cons (pv 0) pa_nil)) (blkOk_by (own := [("_law_k", 6), ("_law_sign", 7)]) (by kernel_rfl)) (fun _ _ _ _ _ => (pg_tup rfl (pgs_cons (pg_name (i := 6) sc_due.nd rfl (by first | exact .inl rfl | exact .inr rfl)) (pgs_cons (pg_name (i := 7) sc_due.nd rfl (by first | exact .inl rfl | exact .inr rfl)) pgs_nil)))) (fun _ _ _ _ _ => (pts_one (PW.pt (pw_and (pt_cmpR (u_eq hr.units) (pv 7) pe_str (nomark _)) (pw_and1 (pt_cmpR (u_ne hr.units) (pe_ix ix_seq (pv 1) (pv 6) (fun _ _ => rfl)) pe_str (nomark _))))))) (fun _ _ _ _ _ => (pv 6)))
  (pss_cons (ps_set (i := 3) sc_due.nd rfl (by first | exact Or.inl rfl | exact Or.inr rfl) (pe_lst pa_nil))
  (pss_cons (ps_for PassesOwn.never rfl (pi_seq (pv 2)) (pg_name (i := 4) sc_due.nd rfl (by first | exact .inl rfl | exact .inr rfl)) (pss_cons (ps_set (i := 5) sc_due.nd rfl (by first | exact Or.inl rfl | exact Or.inr rfl) (pe_callTy (u_list rfl) (by rfl) T.z_list (by decide +kernel) (pa_cons (pv 0) pa_nil)))
  (pss_cons (ps_for PassesOwn.never rfl (pi_seq (pv 2)) (pg_name (i := 6) sc_due.nd rfl (by first | exact .inl rfl | exact .inr rfl)) (pss_one (ps_asg (pe_ifExp (pt_cmpR (u_lt hr.units) (pv 6) (pv 4) (nomark _)) (pe_ix ix_seq (pv 1) (pv 6) (fun _ _ => rfl)) (pe_ix ix_seq (pv 5) (pv 6) (fun _ _ => rfl))) (pg_sub (pv 5) (pv 6) set_list))))
  (pss_cons (ps_asg (pe_ix ix_seq (pe_lst (pa_cons pe_str (pa_cons pe_str pa_nil))) (pe_callTy u_int (by rfl) T.z_int (by decide +kernel) (pa_cons (pe_ix ix_seq (pv 1) (pv 4) (fun _ _ => rfl)) pa_nil)) (fun _ _ => rfl)) (pg_sub (pv 5) (pv 4) set_list))
  (pss_one (ps_expr (pe_bm PySem.F.plainAttrs_list PySem.F.slot_list_append PySem.F.type_list_append mt_append (pv 3) (pa_cons (pe_bm PySem.F.plainAttrs_str PySem.F.slot_str_join PySem.F.type_str_join mt_join pe_str (pa_cons (pv 5) pa_nil)) pa_nil))))))))
  (pss_one (ps_ret (pv 3)))))))
theorem ok_due (T : Txt w K mg) : FnOk P w K mg base CX0 1 T.f_due T.fd_due ["_law_lane_here", "_law_other"] (sp_due K) := by
  refine T.F_due.ok sc_due (fun vs H Q E h => ln_due h) (fun cdv A outer s H vs Q E hr h => ⟨_, dv_due T hr, ok_rd_due h⟩)
theorem dv_pair_right (T : Txt w K mg) {f : Addr} {cdv : Value} {A : Around} {outer : List Env} {s : Shared} {H : Hp} {E : XK} (G_due : FnOk P w K mg base CX0 1 T.f_due T.fd_due ["_law_lane_here", "_law_other"] (sp_due K)) (G_same : FnOk P w K mg base CX0 6 T.f_same T.fd_same ["_law_found", "_law_due_here"] (sp_same K)) (G_takes : FnOk P w K mg base CX0 1 T.f_takes T.fd_takes ["_law_lane_here", "_law_size", "_law_number"] (sp_takes K)) (G_less : FnOk P w K mg base CX0 2 T.f_less T.fd_less ["lane", "other"] (sp_less K)) (hr : Room 6 (A.deeper (envOfC "_law_pair_right" (defScope st_pair_right) s.heap.objs.size f cdv))) :
    PSs (cxOf CX0 P w K mg base ["_law_lane_here", "_law_other", "_law_size", "_law_found", "_law_due_here", "_law_counts", "_law_number", "_law_many", "_law_due_here_here", "_law_one"] "_law_pair_right" (defScope st_pair_right) f cdv A outer s H E).nox (defBody st_pair_right) (rd_pair_right K) :=
  (pss_cons (ps_asg (pe_tup (pa_cons (pe_call G_less (hr.mono (by decide)) (by rfl) T.g_less T.F_less.kp T.b_less .nil pass0 (pa_cons (pv 0) (pa_cons (pv 1) pa_nil))) (pa_cons (pe_call G_due (hr.mono (by decide)) (by rfl) T.g_due T.F_due.kp T.b_due .nil pass0 (pa_cons (pv 0) (pa_cons (pv 1) pa_nil))) pa_nil))) (pg_tup rfl (pgs_cons (pg_name (i := 3) sc_pair_right.nd rfl (by first | exact .inl rfl | exact .inr rfl)) (pgs_cons (pg_name (i := 4) sc_pair_right.nd rfl (by first | exact .inl rfl | exact .inr rfl)) pgs_nil))))
  (pss_cons (ps_if (pt_not (pt_tru (pe_call G_same (hr.mono (by decide)) (by rfl) T.g_same T.F_same.kp T.b_same .nil pass0 (pa_cons (pv 3) (pa_cons (pv 4) pa_nil))))) (pss_one (ps_ret pe_bl)) pss_nil)
  (pss_cons (ps_setLc (i := 5) (own := [("_law_number", 6)]) rfl sc_pair_right.nd rfl rfl (sw_true rfl rfl rfl (by decide +kernel)) (pi_range1 (by rfl) T.z_range (pa_cons (pe_op u_shl pe_int (pv 2)) pa_nil)) (blkOk_by (own := [("_law_number", 6)]) (by kernel_rfl)) (fun _ _ _ _ _ => (pg_name (i := 6) sc_pair_right.nd rfl (by first | exact .inl rfl | exact .inr rfl))) (fun _ _ _ _ _ => pts_nil) (fun _ _ _ _ _ => (pe_callB u_len (by rfl) T.z_len (by decide +kernel) (pa_cons (pe_lc (own := [("_law_one", 9)]) rfl sc_pair_right.nd (pi_seq (pv 3)) (blkOk_by (own := [("_law_one", 9)]) (by kernel_rfl)) (fun _ _ _ _ _ => (pg_name (i := 9) sc_pair_right.nd rfl (by first | exact .inl rfl | exact .inr rfl))) (fun _ _ _ _ _ => (pts_one (pt_tru (pe_call G_takes (hr.mono (by decide)) (by rfl) T.g_takes T.F_takes.kp T.b_takes .nil pass0 (pa_cons (pv 9) (pa_cons (pv 2) (pa_cons (pv 6) pa_nil))))))) (fun _ _ _ _ _ => (pv 9))) pa_nil))))
  (pss_cons (ps_for PassesOwn.never rfl (pi_enumS (by rfl) T.z_enumerate (pa_cons (pv 5) pa_nil)) (pg_tup rfl (pgs_cons (pg_name (i := 6) sc_pair_right.nd rfl (by first | exact .inl rfl | exact .inr rfl)) (pgs_cons (pg_name (i := 7) sc_pair_right.nd rfl (by first | exact .inl rfl | exact .inr rfl)) pgs_nil))) (pss_cons (ps_set (i := 8) sc_pair_right.nd rfl (by first | exact Or.inl rfl | exact Or.inr rfl) (pe_andT (pe_call G_takes (hr.mono (by decide)) (by rfl) T.g_takes T.F_takes.kp T.b_takes .nil pass0 (pa_cons (pv 0) (pa_cons (pv 2) (pa_cons (pv 6) pa_nil)))) (pe_one (pe_notT (pe_call G_takes (hr.mono (by decide)) (by rfl) T.g_takes T.F_takes.kp T.b_takes .nil pass0 (pa_cons (pv 1) (pa_cons (pv 2) (pa_cons (pv 6) pa_nil))))))))
  (pss_one (ps_if (pt_cmpR (u_ne hr.units) (pv 7) (pe_callTy u_int (by rfl) T.z_int (by decide +kernel) (pa_cons (pv 8) pa_nil)) (nomark _)) (pss_one (ps_ret pe_bl)) pss_nil))))
  (pss_cons (ps_expr (pe_bm PySem.F.plainAttrs_list PySem.F.slot_list_append PySem.F.type_list_append mt_append (pv 3) (pa_cons pe_str pa_nil)))
  (pss_one (ps_ret (pe_call G_same (hr.mono (by decide)) (by rfl) T.g_same T.F_same.kp T.b_same .nil pass0 (pa_cons (pe_call G_less (hr.mono (by decide)) (by rfl) T.g_less T.F_less.kp T.b_less .nil pass0 (pa_cons (pv 0) (pa_cons (pv 1) pa_nil))) (pa_cons (pv 4) pa_nil))))))))))
theorem ok_pair_right (T : Txt w K mg) (G_due : FnOk P w K mg base CX0 1 T.f_due T.fd_due ["_law_lane_here", "_law_other"] (sp_due K)) (G_same : FnOk P w K mg base CX0 6 T.f_same T.fd_same ["_law_found", "_law_due_here"] (sp_same K)) (G_takes : FnOk P w K mg base CX0 1 T.f_takes T.fd_takes ["_law_lane_here", "_law_size", "_law_number"] (sp_takes K)) (G_less : FnOk P w K mg base CX0 2 T.f_less T.fd_less ["lane", "other"] (sp_less K)) : FnOk P w K mg base CX0 7 T.f_pair_right T.fd_pair_right ["_law_lane_here", "_law_other", "_law_size"] (sp_pair_right K) := by
  refine T.F_pair_right.ok sc_pair_right (fun vs H Q E h => ln_pair_right h) (fun cdv A outer s H vs Q E hr h => ⟨_, dv_pair_right T G_due G_same G_takes G_less hr, ok_rd_pair_right h⟩)
theorem dv_right (T : Txt w K mg) {f : Addr} {cdv : Value} {A : Around} {outer : List Env} {s : Shared} {H : Hp} {E : XK} (G_due : FnOk P w K mg base CX0 1 T.f_due T.fd_due ["_law_lane_here", "_law_other"] (sp_due K)) (G_lane : FnOk P w K mg base CX0 2 T.f_lane T.fd_lane ["_law_box_here", "_law_size", "_law_other"] (sp_lane K)) (G_pair_right : FnOk P w K mg base CX0 7 T.f_pair_right T.fd_pair_right ["_law_lane_here", "_law_other", "_law_size"] (sp_pair_right K)) (G_same : FnOk P w K mg base CX0 6 T.f_same T.fd_same ["_law_found", "_law_due_here"] (sp_same K)) (G_take : FnOk P w K mg base CX0 1 T.f_take T.fd_take ["_law_box_here", "_law_many"] (sp_take K)) (G_less : FnOk P w K mg base CX0 2 T.f_less T.fd_less ["lane", "other"] (sp_less K)) (hr : Room 7 (A.deeper (envOfC "_law_right" (defScope st_right) s.heap.objs.size f cdv))) :
    PSs (cxOf CX0 P w K mg base ["_law_box_here", "_law_size", "_law_lane_here", "_law_turn", "_law_other", "_law_wide"] "_law_right" (defScope st_right) f cdv A outer s H E).nox (defBody st_right) (rd_right K) :=
  (pss_cons (ps_set (i := 1) sc_right.nd rfl (by first | exact Or.inl rfl | exact Or.inr rfl) (pe_op u_add pe_int (pe_call G_take (hr.mono (by decide)) (by rfl) T.g_take T.F_take.kp T.b_take .nil pass0 (pa_cons (pv 0) (pa_cons pe_int pa_nil)))))
  (pss_cons (ps_set (i := 2) sc_right.nd rfl (by first | exact Or.inl rfl | exact Or.inr rfl) (pe_ix ix_seq (pe_lst (pa_cons (pe_op u_mul pe_str (pv 1)) (pa_cons (pe_call G_lane (hr.mono (by decide)) (by rfl) T.g_lane T.F_lane.kp T.b_lane .nil pass0 (pa_cons (pv 0) (pa_cons (pv 1) (pa_cons pe_str pa_nil)))) pa_nil))) (pe_call G_take (hr.mono (by decide)) (by rfl) T.g_take T.F_take.kp T.b_take .nil pass0 (pa_cons (pv 0) (pa_cons pe_int pa_nil))) (fun _ _ => rfl)))
  (pss_cons (ps_for PassesOwn.never rfl (pi_range1 (by rfl) T.z_range (pa_cons pe_int pa_nil)) (pg_name (i := 3) sc_right.nd rfl (by first | exact .inl rfl | exact .inr rfl)) (pss_cons (ps_set (i := 4) sc_right.nd rfl (by first | exact Or.inl rfl | exact Or.inr rfl) (pe_call G_lane (hr.mono (by decide)) (by rfl) T.g_lane T.F_lane.kp T.b_lane .nil pass0 (pa_cons (pv 0) (pa_cons (pv 1) (pa_cons (pv 2) pa_nil)))))
  (pss_cons (ps_if (PW.pt (pw_or (pt_not (pt_tru (pe_call G_pair_right (hr.mono (by decide)) (by rfl) T.g_pair_right T.F_pair_right.kp T.b_pair_right .nil pass0 (pa_cons (pv 2) (pa_cons (pv 4) (pa_cons (pv 1) pa_nil)))))) (pw_or1 (pt_not (pt_tru (pe_call G_pair_right (hr.mono (by decide)) (by rfl) T.g_pair_right T.F_pair_right.kp T.b_pair_right .nil pass0 (pa_cons (pv 4) (pa_cons (pv 2) (pa_cons (pv 1) pa_nil))))))))) (pss_one (ps_ret pe_bl)) pss_nil)
  (pss_one (ps_set (i := 2) sc_right.nd rfl (by first | exact Or.inl rfl | exact Or.inr rfl) (pe_ix ix_seq (pe_lst (pa_cons (pv 4) (pa_cons (pe_op u_mul pe_str (pv 1)) (pa_cons (pv 2) pa_nil)))) (pe_call G_take (hr.mono (by decide)) (by rfl) T.g_take T.F_take.kp T.b_take .nil pass0 (pa_cons (pv 0) (pa_cons pe_int pa_nil))) (fun _ _ => rfl)))))))
  (pss_cons (ps_set (i := 5) sc_right.nd rfl (by first | exact Or.inl rfl | exact Or.inr rfl) (pe_call G_lane (hr.mono (by decide)) (by rfl) T.g_lane T.F_lane.kp T.b_lane .nil pass0 (pa_cons (pv 0) (pa_cons pe_int (pa_cons pe_str pa_nil)))))
  (pss_cons (ps_set (i := 4) sc_right.nd rfl (by first | exact Or.inl rfl | exact Or.inr rfl) (pe_call G_lane (hr.mono (by decide)) (by rfl) T.g_lane T.F_lane.kp T.b_lane .nil pass0 (pa_cons (pv 0) (pa_cons pe_int (pa_cons (pv 5) pa_nil)))))
  (pss_one (ps_ret (pe_andT (pe_call G_same (hr.mono (by decide)) (by rfl) T.g_same T.F_same.kp T.b_same .nil pass0 (pa_cons (pe_call G_less (hr.mono (by decide)) (by rfl) T.g_less T.F_less.kp T.b_less .nil pass0 (pa_cons (pv 5) (pa_cons (pv 4) pa_nil))) (pa_cons (pe_call G_due (hr.mono (by decide)) (by rfl) T.g_due T.F_due.kp T.b_due .nil pass0 (pa_cons (pv 5) (pa_cons (pv 4) pa_nil))) pa_nil))) (pe_andT (pe_cmpR (u_eq hr.units) (pe_call G_less (hr.mono (by decide)) (by rfl) T.g_less T.F_less.kp T.b_less .nil pass0 (pa_cons (pv 5) (pa_cons (pv 5) pa_nil))) (pe_lst pa_nil) (nomark _)) (pe_one (pe_cmpR (u_eq hr.units) (pe_call G_less (hr.mono (by decide)) (by rfl) T.g_less T.F_less.kp T.b_less .nil pass0 (pa_cons (pv 2) (pa_cons (pv 2) pa_nil))) (pe_lst pa_nil) (nomark _))))))))))))
theorem ok_right (T : Txt w K mg) (G_due : FnOk P w K mg base CX0 1 T.f_due T.fd_due ["_law_lane_here", "_law_other"] (sp_due K)) (G_lane : FnOk P w K mg base CX0 2 T.f_lane T.fd_lane ["_law_box_here", "_law_size", "_law_other"] (sp_lane K)) (G_pair_right : FnOk P w K mg base CX0 7 T.f_pair_right T.fd_pair_right ["_law_lane_here", "_law_other", "_law_size"] (sp_pair_right K)) (G_same : FnOk P w K mg base CX0 6 T.f_same T.fd_same ["_law_found", "_law_due_here"] (sp_same K)) (G_take : FnOk P w K mg base CX0 1 T.f_take T.fd_take ["_law_box_here", "_law_many"] (sp_take K)) (G_less : FnOk P w K mg base CX0 2 T.f_less T.fd_less ["lane", "other"] (sp_less K)) : FnOk P w K mg base CX0 8 T.f_right T.fd_right ["_law_box_here"] (sp_right K) := by
  refine T.F_right.ok sc_right (fun vs H Q E h => ln_right h) (fun cdv A outer s H vs Q E hr h => ⟨_, dv_right T G_due G_lane G_pair_right G_same G_take G_less hr, ok_rd_right h⟩)
theorem dv_law (T : Txt w K mg) {f : Addr} {cdv : Value} {A : Around} {outer : List Env} {s : Shared} {H : Hp} {E : XK} (G_box : FnOk P w K mg base CX0 1 T.f_box T.fd_box ["_law_script", "_law_k"] (sp_box K)) (G_right : FnOk P w K mg base CX0 8 T.f_right T.fd_right ["_law_box_here"] (sp_right K)) (hr : Room 8 (A.deeper (envOfC "law" (defScope st_law) s.heap.objs.size f cdv))) :
    PSs (cxOf CX0 P w K mg base ["_law_script", "_law_k"] "law" (defScope st_law) f cdv A outer s H E).nox (defBody st_law) (rd_law K) :=
  (pss_one (ps_ret (pe_callB (cr_all rfl) (by rfl) T.z_all (by decide +kernel) (pa_cons (pe_lc (own := [("_law_k", 1)]) rfl sc_law.nd (pi_range1 (by rfl) T.z_range (pa_cons (pe_op u_add pe_int (pe_callB (u_min rfl) (by rfl) T.z_min (by decide +kernel) (pa_cons pe_int (pa_cons (pe_callB u_len (by rfl) T.z_len (by decide +kernel) (pa_cons (pv 0) pa_nil)) pa_nil)))) pa_nil)) (blkOk_by (own := [("_law_k", 1)]) (by kernel_rfl)) (fun _ _ _ _ _ => (pg_name (i := 1) sc_law.nd rfl (by first | exact .inl rfl | exact .inr rfl))) (fun _ _ _ _ _ => pts_nil) (fun _ _ _ _ _ => (pe_call G_right (hr.mono (by decide)) (by rfl) T.g_right T.F_right.kp T.b_right .nil pass0 (pa_cons (pe_call G_box (hr.mono (by decide)) (by rfl) T.g_box T.F_box.kp T.b_box .nil pass0 (pa_cons (pv 0) (pa_cons (pv 1) pa_nil))) pa_nil)))) pa_nil))))
theorem ok_law (T : Txt w K mg) (G_box : FnOk P w K mg base CX0 1 T.f_box T.fd_box ["_law_script", "_law_k"] (sp_box K)) (G_right : FnOk P w K mg base CX0 8 T.f_right T.fd_right ["_law_box_here"] (sp_right K)) : FnOk P w K mg base CX0 9 T.f_law T.fd_law ["_law_script"] (sp_law K) := by
  refine T.F_law.ok sc_law (fun vs H Q E h => ln_law h) (fun cdv A outer s H vs Q E hr h => ⟨_, dv_law T G_box G_right hr, ok_rd_law h⟩)
theorem ok_all (T : Txt w K mg) : FnOk P w K mg base CX0 9 T.f_law T.fd_law ["_law_script"] (sp_law K) := by
  have G_box := ok_box (P := P) (w := w) (base := base) T
  have G_due := ok_due (P := P) (w := w) (base := base) T
  have G_take := ok_take (P := P) (w := w) (base := base) T
  have G_lane := ok_lane (P := P) (w := w) (base := base) T G_take
  have G_same := ok_same (P := P) (w := w) (base := base) T
  have G_takes := ok_takes (P := P) (w := w) (base := base) T
  have G_common := ok_common (P := P) (w := w) (base := base) T
  have G_less := ok_less (P := P) (w := w) (base := base) T G_common
  have G_pair_right := ok_pair_right (P := P) (w := w) (base := base) T G_due G_same G_takes G_less
  have G_right := ok_right (P := P) (w := w) (base := base) T G_due G_lane G_pair_right G_same G_take G_less
  have G_law := ok_law (P := P) (w := w) (base := base) T G_box G_right
  exact G_law
end
theorem all_mk {l : PySem.W.OpenLaw} {w : World} {K : PySem.W.Frag} {h : Heap} {mg : Str → Option Value} {fa : Addr} (X : K.In h) (G : h.Ns mainGlobals mg) (hfa : mg "law" = some (.ref fa))
    {f_common : Addr} {od_common an_common : Option Addr} {sl_common : Array (Option Value)} {oc_common kV_common dc_common pm_common cd_common ct_common : Value}
    (a_common : PySem.W.nsIn K mainGlobals "common" = some (some (.ref f_common))) (l_common : K.lookup f_common = some ⟨oc_common, od_common, .func (PySem.W.fnOf "common" "common" (defArgs st_common) (defBody st_common) (defScope st_common) .none kV_common dc_common pm_common an_common cd_common ct_common), sl_common⟩) (c_common : PySem.W.codeIn K cd_common "common" = true) (k_common : PySem.W.keepIn K (.ref f_common) = true)
    {f_less : Addr} {od_less an_less : Option Addr} {sl_less : Array (Option Value)} {oc_less kV_less dc_less pm_less cd_less ct_less : Value}
    (a_less : PySem.W.nsIn K mainGlobals "less" = some (some (.ref f_less))) (l_less : K.lookup f_less = some ⟨oc_less, od_less, .func (PySem.W.fnOf "less" "less" (defArgs st_less) (defBody st_less) (defScope st_less) .none kV_less dc_less pm_less an_less cd_less ct_less), sl_less⟩) (c_less : PySem.W.codeIn K cd_less "less" = true) (k_less : PySem.W.keepIn K (.ref f_less) = true)
    {f_box : Addr} {od_box an_box : Option Addr} {sl_box : Array (Option Value)} {oc_box kV_box dc_box pm_box cd_box ct_box : Value}
    (a_box : PySem.W.nsIn K mainGlobals "_law_box" = some (some (.ref f_box))) (l_box : K.lookup f_box = some ⟨oc_box, od_box, .func (PySem.W.fnOf "_law_box" "_law_box" (defArgs st_box) (defBody st_box) (defScope st_box) .none kV_box dc_box pm_box an_box cd_box ct_box), sl_box⟩) (c_box : PySem.W.codeIn K cd_box "_law_box" = true) (k_box : PySem.W.keepIn K (.ref f_box) = true)
    {f_take : Addr} {od_take an_take : Option Addr} {sl_take : Array (Option Value)} {oc_take kV_take dc_take pm_take cd_take ct_take : Value}
    (a_take : PySem.W.nsIn K mainGlobals "_law_take" = some (some (.ref f_take))) (l_take : K.lookup f_take = some ⟨oc_take, od_take, .func (PySem.W.fnOf "_law_take" "_law_take" (defArgs st_take) (defBody st_take) (defScope st_take) .none kV_take dc_take pm_take an_take cd_take ct_take), sl_take⟩) (c_take : PySem.W.codeIn K cd_take "_law_take" = true) (k_take : PySem.W.keepIn K (.ref f_take) = true)
    {f_lane : Addr} {od_lane an_lane : Option Addr} {sl_lane : Array (Option Value)} {oc_lane kV_lane dc_lane pm_lane cd_lane ct_lane : Value}
    (a_lane : PySem.W.nsIn K mainGlobals "_law_lane" = some (some (.ref f_lane))) (l_lane : K.lookup f_lane = some ⟨oc_lane, od_lane, .func (PySem.W.fnOf "_law_lane" "_law_lane" (defArgs st_lane) (defBody st_lane) (defScope st_lane) .none kV_lane dc_lane pm_lane an_lane cd_lane ct_lane), sl_lane⟩) (c_lane : PySem.W.codeIn K cd_lane "_law_lane" = true) (k_lane : PySem.W.keepIn K (.ref f_lane) = true)
    {f_takes : Addr} {od_takes an_takes : Option Addr} {sl_takes : Array (Option Value)} {oc_takes kV_takes dc_takes pm_takes cd_takes ct_takes : Value}
    (a_takes : PySem.W.nsIn K mainGlobals "_law_takes" = some (some (.ref f_takes))) (l_takes : K.lookup f_takes = some ⟨oc_takes, od_takes, .func (PySem.W.fnOf "_law_takes" "_law_takes" (defArgs st_takes) (defBody st_takes) (defScope st_takes) .none kV_takes dc_takes pm_takes an_takes cd_takes ct_takes), sl_takes⟩) (c_takes : PySem.W.codeIn K cd_takes "_law_takes" = true) (k_takes : PySem.W.keepIn K (.ref f_takes) = true)
    {f_same : Addr} {od_same an_same : Option Addr} {sl_same : Array (Option Value)} {oc_same kV_same dc_same pm_same cd_same ct_same : Value}
    (a_same : PySem.W.nsIn K mainGlobals "_law_same" = some (some (.ref f_same))) (l_same : K.lookup f_same = some ⟨oc_same, od_same, .func (PySem.W.fnOf "_law_same" "_law_same" (defArgs st_same) (defBody st_same) (defScope st_same) .none kV_same dc_same pm_same an_same cd_same ct_same), sl_same⟩) (c_same : PySem.W.codeIn K cd_same "_law_same" = true) (k_same : PySem.W.keepIn K (.ref f_same) = true)
    {f_due : Addr} {od_due an_due : Option Addr} {sl_due : Array (Option Value)} {oc_due kV_due dc_due pm_due cd_due ct_due : Value}
    (a_due : PySem.W.nsIn K mainGlobals "_law_due" = some (some (.ref f_due))) (l_due : K.lookup f_due = some ⟨oc_due, od_due, .func (PySem.W.fnOf "_law_due" "_law_due" (defArgs st_due) (defBody st_due) (defScope st_due) .none kV_due dc_due pm_due an_due cd_due ct_due), sl_due⟩) (c_due : PySem.W.codeIn K cd_due "_law_due" = true) (k_due : PySem.W.keepIn K (.ref f_due) = true)
    {f_pair_right : Addr} {od_pair_right an_pair_right : Option Addr} {sl_pair_right : Array (Option Value)} {oc_pair_right kV_pair_right dc_pair_right pm_pair_right cd_pair_right ct_pair_right : Value}
    (a_pair_right : PySem.W.nsIn K mainGlobals "_law_pair_right" = some (some (.ref f_pair_right))) (l_pair_right : K.lookup f_pair_right = some ⟨oc_pair_right, od_pair_right, .func (PySem.W.fnOf "_law_pair_right" "_law_pair_right" (defArgs st_pair_right) (defBody st_pair_right) (defScope st_pair_right) .none kV_pair_right dc_pair_right pm_pair_right an_pair_right cd_pair_right ct_pair_right), sl_pair_right⟩) (c_pair_right : PySem.W.codeIn K cd_pair_right "_law_pair_right" = true) (k_pair_right : PySem.W.keepIn K (.ref f_pair_right) = true)
    {f_right : Addr} {od_right an_right : Option Addr} {sl_right : Array (Option Value)} {oc_right kV_right dc_right pm_right cd_right ct_right : Value}
    (a_right : PySem.W.nsIn K mainGlobals "_law_right" = some (some (.ref f_right))) (l_right : K.lookup f_right = some ⟨oc_right, od_right, .func (PySem.W.fnOf "_law_right" "_law_right" (defArgs st_right) (defBody st_right) (defScope st_right) .none kV_right dc_right pm_right an_right cd_right ct_right), sl_right⟩) (c_right : PySem.W.codeIn K cd_right "_law_right" = true) (k_right : PySem.W.keepIn K (.ref f_right) = true)
    {f_law : Addr} {od_law an_law : Option Addr} {sl_law : Array (Option Value)} {oc_law kV_law dc_law pm_law cd_law ct_law : Value}
    (a_law : PySem.W.nsIn K mainGlobals "law" = some (some (.ref f_law))) (l_law : K.lookup f_law = some ⟨oc_law, od_law, .func (PySem.W.fnOf "law" "law" (defArgs st_law) (defBody st_law) (defScope st_law) .none kV_law dc_law pm_law an_law cd_law ct_law), sl_law⟩) (c_law : PySem.W.codeIn K cd_law "law" = true) (k_law : PySem.W.keepIn K (.ref f_law) = true)
    {v_ANY : Value} (c_ANY : PySem.W.nsIn K mainGlobals "ANY" = some (some v_ANY)) (r_ANY : RelV (.str (SX.S [45])) v_ANY)
    {a_OTHER_BIT : Addr} {es_OTHER_BIT : Array DictEntry} {n_OTHER_BIT : Nat} (c_OTHER_BIT : PySem.W.nsIn K mainGlobals "OTHER_BIT" = some (some (.ref a_OTHER_BIT))) (l_OTHER_BIT : K.lookup a_OTHER_BIT = some ⟨.type "dict", none, .dict es_OTHER_BIT n_OTHER_BIT, #[]⟩) (k_OTHER_BIT : PySem.W.KeysLit w.params es_OTHER_BIT.toList)
    {u_OTHER_BIT_0 : Value} (q_OTHER_BIT_0 : PySem.W.nsIn K a_OTHER_BIT "0" = some (some u_OTHER_BIT_0)) (r_OTHER_BIT_0 : RelV (.str (SX.S [49])) u_OTHER_BIT_0)
    {u_OTHER_BIT_1 : Value} (q_OTHER_BIT_1 : PySem.W.nsIn K a_OTHER_BIT "1" = some (some u_OTHER_BIT_1)) (r_OTHER_BIT_1 : RelV (.str (SX.S [48])) u_OTHER_BIT_1)
    (z_abs : PySem.W.nsIn K mainGlobals "abs" = some none)
    (z_all : PySem.W.nsIn K mainGlobals "all" = some none)
    (z_any : PySem.W.nsIn K mainGlobals "any" = some none)
    (z_bool : PySem.W.nsIn K mainGlobals "bool" = some none)
    (z_divmod : PySem.W.nsIn K mainGlobals "divmod" = some none)
    (z_enumerate : PySem.W.nsIn K mainGlobals "enumerate" = some none)
    (z_int : PySem.W.nsIn K mainGlobals "int" = some none)
    (z_isinstance : PySem.W.nsIn K mainGlobals "isinstance" = some none)
    (z_len : PySem.W.nsIn K mainGlobals "len" = some none)
    (z_list : PySem.W.nsIn K mainGlobals "list" = some none)
    (z_min : PySem.W.nsIn K mainGlobals "min" = some none)
    (z_range : PySem.W.nsIn K mainGlobals "range" = some none)
    (z_str : PySem.W.nsIn K mainGlobals "str" = some none)
    (z_tuple : PySem.W.nsIn K mainGlobals "tuple" = some none)
    (z_zip : PySem.W.nsIn K mainGlobals "zip" = some none)
    : ∃ fd : FuncData, (∀ (s : Shared) (v : Value), BindsTo s fd ⟨[v], []⟩ [("_law_script", v)]) ∧ ∀ base : Heap, K.In base → base.Ns mainGlobals mg → FnOk l.prog w K mg base CX0 9 fa fd ["_law_script"] (sp_law K) := by
  have e := hfa.symm.trans (PySem.W.mg_of X G a_law)
  cases e
  have F_common := fun_mk (st := st_common) l_common c_common k_common
  have b_common := F_common.binds (ps := ["lane", "other"]) fun _ _ _ _ _ _ us hl => match us, hl with | [_, _], _ => rfl
  have F_less := fun_mk (st := st_less) l_less c_less k_less
  have b_less := F_less.binds (ps := ["lane", "other"]) fun _ _ _ _ _ _ us hl => match us, hl with | [_, _], _ => rfl
  have F_box := fun_mk (st := st_box) l_box c_box k_box
  have b_box := F_box.binds (ps := ["_law_script", "_law_k"]) fun _ _ _ _ _ _ us hl => match us, hl with | [_, _], _ => rfl
  have F_take := fun_mk (st := st_take) l_take c_take k_take
  have b_take := F_take.binds (ps := ["_law_box_here", "_law_many"]) fun _ _ _ _ _ _ us hl => match us, hl with | [_, _], _ => rfl
  have F_lane := fun_mk (st := st_lane) l_lane c_lane k_lane
  have b_lane := F_lane.binds (ps := ["_law_box_here", "_law_size", "_law_other"]) fun _ _ _ _ _ _ us hl => match us, hl with | [_, _, _], _ => rfl
  have F_takes := fun_mk (st := st_takes) l_takes c_takes k_takes
  have b_takes := F_takes.binds (ps := ["_law_lane_here", "_law_size", "_law_number"]) fun _ _ _ _ _ _ us hl => match us, hl with | [_, _, _], _ => rfl
  have F_same := fun_mk (st := st_same) l_same c_same k_same
  have b_same := F_same.binds (ps := ["_law_found", "_law_due_here"]) fun _ _ _ _ _ _ us hl => match us, hl with | [_, _], _ => rfl
  have F_due := fun_mk (st := st_due) l_due c_due k_due
  have b_due := F_due.binds (ps := ["_law_lane_here", "_law_other"]) fun _ _ _ _ _ _ us hl => match us, hl with | [_, _], _ => rfl
  have F_pair_right := fun_mk (st := st_pair_right) l_pair_right c_pair_right k_pair_right
  have b_pair_right := F_pair_right.binds (ps := ["_law_lane_here", "_law_other", "_law_size"]) fun _ _ _ _ _ _ us hl => match us, hl with | [_, _, _], _ => rfl
  have F_right := fun_mk (st := st_right) l_right c_right k_right
  have b_right := F_right.binds (ps := ["_law_box_here"]) fun _ _ _ _ _ _ us hl => match us, hl with | [_], _ => rfl
  have F_law := fun_mk (st := st_law) l_law c_law k_law
  have b_law := F_law.binds (ps := ["_law_script"]) fun _ _ _ _ _ _ us hl => match us, hl with | [_], _ => rfl
  have d_OTHER_BIT : KD K w a_OTHER_BIT [([48], (.str (SX.S [49]))), ([49], (.str (SX.S [48])))] := by
    intro kv hkv
    simp only [List.mem_cons, List.mem_nil_iff, or_false] at hkv
    rcases hkv with rfl | rfl
    · exact ⟨_, _, _, l_OTHER_BIT, k_OTHER_BIT, q_OTHER_BIT_0, r_OTHER_BIT_0⟩
    · exact ⟨_, _, _, l_OTHER_BIT, k_OTHER_BIT, q_OTHER_BIT_1, r_OTHER_BIT_1⟩
  refine ⟨PySem.W.fnOf "law" "law" (defArgs st_law) (defBody st_law) (defScope st_law) .none kV_law dc_law pm_law an_law cd_law ct_law, fun s v => .of_eq rfl, fun base _ _ => ok_all (P := l.prog) (w := w) (base := base) ({
    f_common := f_common, fd_common := _, F_common := F_common, b_common := b_common, g_common := PySem.W.mg_of X G a_common,
    f_less := f_less, fd_less := _, F_less := F_less, b_less := b_less, g_less := PySem.W.mg_of X G a_less,
    f_box := f_box, fd_box := _, F_box := F_box, b_box := b_box, g_box := PySem.W.mg_of X G a_box,
    f_take := f_take, fd_take := _, F_take := F_take, b_take := b_take, g_take := PySem.W.mg_of X G a_take,
    f_lane := f_lane, fd_lane := _, F_lane := F_lane, b_lane := b_lane, g_lane := PySem.W.mg_of X G a_lane,
    f_takes := f_takes, fd_takes := _, F_takes := F_takes, b_takes := b_takes, g_takes := PySem.W.mg_of X G a_takes,
    f_same := f_same, fd_same := _, F_same := F_same, b_same := b_same, g_same := PySem.W.mg_of X G a_same,
    f_due := f_due, fd_due := _, F_due := F_due, b_due := b_due, g_due := PySem.W.mg_of X G a_due,
    f_pair_right := f_pair_right, fd_pair_right := _, F_pair_right := F_pair_right, b_pair_right := b_pair_right, g_pair_right := PySem.W.mg_of X G a_pair_right,
    f_right := f_right, fd_right := _, F_right := F_right, b_right := b_right, g_right := PySem.W.mg_of X G a_right,
    f_law := fa, fd_law := _, F_law := F_law, b_law := b_law, g_law := PySem.W.mg_of X G a_law,
    v_ANY := v_ANY, c_ANY := PySem.W.mg_of X G c_ANY, r_ANY := r_ANY,
    a_OTHER_BIT := a_OTHER_BIT, c_OTHER_BIT := PySem.W.mg_of X G c_OTHER_BIT, d_OTHER_BIT := d_OTHER_BIT,
    z_abs := PySem.W.mg_none_of X G z_abs, z_all := PySem.W.mg_none_of X G z_all, z_any := PySem.W.mg_none_of X G z_any, z_bool := PySem.W.mg_none_of X G z_bool, z_divmod := PySem.W.mg_none_of X G z_divmod, z_enumerate := PySem.W.mg_none_of X G z_enumerate, z_int := PySem.W.mg_none_of X G z_int, z_isinstance := PySem.W.mg_none_of X G z_isinstance, z_len := PySem.W.mg_none_of X G z_len, z_list := PySem.W.mg_none_of X G z_list, z_min := PySem.W.mg_none_of X G z_min, z_range := PySem.W.mg_none_of X G z_range, z_str := PySem.W.mg_none_of X G z_str, z_tuple := PySem.W.mg_none_of X G z_tuple, z_zip := PySem.W.mg_none_of X G z_zip } : Txt w K mg)⟩
end MA
open PySem PySem.W PyProof.Rows
set_option maxHeartbeats 0 in
theorem PySem.Challenge.cw_masklanes_k06_less_another_lane_holds : PySem.Challenge.rw_masklanes_k06_less_another_lane.Holds := by
  w_on; o_law; k_head; (case hw => w_witness2)
  k_fill
  refine L2.walk_of (l := PySem.Challenge.rw_masklanes_k06_less_another_lane) (n := 63) (k := 9) (x := "_law_script") (CX := fun _ => L2.CX0) (sp := fun w => MA.sp_law _) rfl (by decide) rfl ⟨rfl, by decide, by decide⟩ (fun w h Y => PySem.W.kIn_of Y) ?F (fun _ _ a ns hl _ hS => ⟨a, ns, rfl, hS, hl, fun _ => rfl⟩) (fun _ _ _ _ _ h => h)
  case F =>
    intro w mg fa h KX G hmg
    refine' MA.all_mk KX G hmg ?a_common ?l_common ?c_common ?k_common ?a_less ?l_less ?c_less ?k_less ?a_box ?l_box ?c_box ?k_box ?a_take ?l_take ?c_take ?k_take ?a_lane ?l_lane ?c_lane ?k_lane ?a_takes ?l_takes ?c_takes ?k_takes ?a_same ?l_same ?c_same ?k_same ?a_due ?l_due ?c_due ?k_due ?a_pair_right ?l_pair_right ?c_pair_right ?k_pair_right ?a_right ?l_right ?c_right ?k_right ?a_law ?l_law ?c_law ?k_law ?c_ANY ?r_ANY ?c_OTHER_BIT ?l_OTHER_BIT ?k_OTHER_BIT ?q_OTHER_BIT_0 ?r_OTHER_BIT_0 ?q_OTHER_BIT_1 ?r_OTHER_BIT_1 ?z_abs ?z_all ?z_any ?z_bool ?z_divmod ?z_enumerate ?z_int ?z_isinstance ?z_len ?z_list ?z_min ?z_range ?z_str ?z_tuple ?z_zip
    (case a_common => k_is)
    (case l_common => k_is)
    (case c_common => k_is)
    (case k_common => k_is)
    (case a_less => k_is)
    (case l_less => k_is)
    (case c_less => k_is)
    (case k_less => k_is)
    (case a_box => k_is)
    (case l_box => k_is)
    (case c_box => k_is)
    (case k_box => k_is)
    (case a_take => k_is)
    (case l_take => k_is)
    (case c_take => k_is)
    (case k_take => k_is)
    (case a_lane => k_is)
    (case l_lane => k_is)
    (case c_lane => k_is)
    (case k_lane => k_is)
    (case a_takes => k_is)
    (case l_takes => k_is)
    (case c_takes => k_is)
    (case k_takes => k_is)
    (case a_same => k_is)
    (case l_same => k_is)
    (case c_same => k_is)
    (case k_same => k_is)
    (case a_due => k_is)
    (case l_due => k_is)
    (case c_due => k_is)
    (case k_due => k_is)
    (case a_pair_right => k_is)
    (case l_pair_right => k_is)
    (case c_pair_right => k_is)
    (case k_pair_right => k_is)
    (case a_right => k_is)
    (case l_right => k_is)
    (case c_right => k_is)
    (case k_right => k_is)
    (case a_law => k_is)
    (case l_law => k_is)
    (case c_law => k_is)
    (case k_law => k_is)
    (case c_ANY => k_is)
    (case r_ANY => exact ⟨_, rfl⟩)
    (case c_OTHER_BIT => k_is)
    (case l_OTHER_BIT => k_is)
    (case k_OTHER_BIT => (repeat (first | exact trivial | refine ⟨⟨_, _, rfl, rfl⟩, ?_⟩)))
    (case q_OTHER_BIT_0 => k_is)
    (case r_OTHER_BIT_0 => exact ⟨_, rfl⟩)
    (case q_OTHER_BIT_1 => k_is)
    (case r_OTHER_BIT_1 => exact ⟨_, rfl⟩)
    (case z_abs => k_is)
    (case z_all => k_is)
    (case z_any => k_is)
    (case z_bool => k_is)
    (case z_divmod => k_is)
    (case z_enumerate => k_is)
    (case z_int => k_is)
    (case z_isinstance => k_is)
    (case z_len => k_is)
    (case z_list => k_is)
    (case z_min => k_is)
    (case z_range => k_is)
    (case z_str => k_is)
    (case z_tuple => k_is)
    (case z_zip => k_is)
