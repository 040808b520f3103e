/- Part 6 of what the row of RecordPuts leans on: a library of walks, the pure functions, the walks of the functions. -/
import Derived.Test.YtfcaekghpkpjdaaProg
import Derived.Test.YtfcaekghpkpjdaaQRecordPutse
/- Walks, printed by a program of this session. -/
namespace Go.Proofs.Ytfcaekghpkpjdaa.K
open Go Go.RowKit Go.Proofs
set_option linter.unusedVariables false
set_option maxRecDepth 100000
set_option maxHeartbeats 4000000
namespace FRa
theorem ti9 : TI Try.prog 9 (S []) 1 16 := by unfold TI; kernel_rfl
theorem fa104_0 : FA Try.prog 104 0 0 := fa Try.underlying104 rfl ti9 rfl rfl
theorem ti3 : TI Try.prog 3 (.int .i64 0) 1 8 := by unfold TI; kernel_rfl
theorem fa104_1 : FA Try.prog 104 1 1 := fa Try.underlying104 rfl ti3 rfl rfl
theorem ti37 : TI Try.prog 37 (.slice none 0 0) 1 24 := by unfold TI; kernel_rfl
theorem fa39_1 : FA Try.prog 39 1 1 := fa Try.underlying39 rfl ti37 rfl rfl
theorem sc3 : Sca Try.prog 3 := sca Try.underlying3 rfl
theorem sc37 : Sca Try.prog 37 := sca Try.underlying37 rfl
theorem sc9 : Sca Try.prog 9 := sca Try.underlying9 rfl
theorem ti104 : TI Try.prog 104 (.agg #[S [], .int .i64 0]) 2 24 := by unfold TI; kernel_rfl
theorem sz104 : ∀ w, (sizeOf 104).run Try.prog w = .ok 2 w := fun w => ti104.size w
theorem ti5 : TI Try.prog 5 (.int .u8 0) 1 1 := by unfold TI; kernel_rfl
end FRa
open FRa
theorem derrickref01_there.walk (a1 : Str) (a2 : Int) (a3 : Int)  (w : World)  (res : Bool) (h : derrickref01_there a1 a2 a3 = res) :
  Ret Try.prog 65 ([S a1, .int .i64 a2, .int .i64 a3] : List Value).toArray w fun v w' => v = .bool res ∧ Ext w w' := by
 unfold derrickref01_there at h
 refine enterX Try.func65 rfl Try.ntmps65 rfl (fun R hR => ?_)
 have hB := Below.refl w.heap.size w
 refine X.seq fun M4 hM5 => ?_
 refine X.region ?_
 refine XO.do rfl (D.asn (v := .bool false) rfl rfl ?_)
 refine XO.nil ?_
 refine hM5 _ _ ?_
 refine X.seq fun M6 hM7 => ?_
 refine X.region ?_
 refine XO.do rfl (D.mv (v := .int .i64 a2) rfl rfl ?_)
 refine XO.do rfl (D.geq rfl rfl rfl ?_)
 refine XO.do rfl (D.mv (v := .bool (decide (0 ≤ a2))) rfl rfl ?_)
 by_cases c8 : 0 ≤ a2
 ·rw [if_pos c8] at h
  refine XO.do (wantG (j := 2) (b := true) rfl (decide_eq_true c8) rfl) (D.mv (v := .int .i64 a2) rfl rfl ?_)
  refine XO.do (wantG (j := 2) (b := true) rfl (decide_eq_true c8) rfl) (D.mv (v := S a1) rfl rfl ?_)
  refine XO.do (wantG (j := 2) (b := true) rfl (decide_eq_true c8) rfl) (D.lenS Try.underlying9 rfl rfl ?_)
  refine XO.do (wantG (j := 2) (b := true) rfl (decide_eq_true c8) rfl) (D.leq rfl rfl rfl ?_)
  refine XO.do rfl (D.pick true (v := .bool (decide (a2 ≤ (a1.length : Int)))) (congrArg Value.bool (decide_eq_true c8)) rfl rfl ?_)
  refine XO.do rfl (D.mv (v := .bool (decide (a2 ≤ (a1.length : Int)))) rfl rfl ?_)
  by_cases c9 : a2 ≤ (a1.length : Int)
  ·rw [if_pos c9] at h
   refine XO.do (wantG (j := 8) (b := true) rfl (decide_eq_true c9) rfl) (D.mv (v := .int .i64 a3) rfl rfl ?_)
   refine XO.do (wantG (j := 8) (b := true) rfl (decide_eq_true c9) rfl) (D.geq rfl rfl rfl ?_)
   refine XO.do rfl (D.pick true (v := .bool (decide (0 ≤ a3))) (congrArg Value.bool (decide_eq_true c9)) rfl rfl ?_)
   refine XO.do rfl (D.mv (v := .bool (decide (0 ≤ a3))) rfl rfl ?_)
   by_cases c10 : 0 ≤ a3
   ·rw [if_pos c10] at h
    refine XO.do (wantG (j := 12) (b := true) rfl (decide_eq_true c10) rfl) (D.mv (v := .int .i64 a3) rfl rfl ?_)
    refine XO.do (wantG (j := 12) (b := true) rfl (decide_eq_true c10) rfl) (D.mv (v := S a1) rfl rfl ?_)
    refine XO.do (wantG (j := 12) (b := true) rfl (decide_eq_true c10) rfl) (D.lenS Try.underlying9 rfl rfl ?_)
    refine XO.do (wantG (j := 12) (b := true) rfl (decide_eq_true c10) rfl) (D.leq rfl rfl rfl ?_)
    refine XO.do rfl (D.pick true (v := .bool (decide (a3 ≤ (a1.length : Int)))) (congrArg Value.bool (decide_eq_true c10)) rfl rfl ?_)
    refine XO.do rfl (D.mv (v := .bool (decide (a3 ≤ (a1.length : Int)))) rfl rfl ?_)
    by_cases c11 : a3 ≤ (a1.length : Int)
    ·rw [if_pos c11] at h
     refine XO.do (wantG (j := 18) (b := true) rfl (decide_eq_true c11) rfl) (D.mv (v := .int .i64 a2) rfl rfl ?_)
     refine XO.do (wantG (j := 18) (b := true) rfl (decide_eq_true c11) rfl) (D.mv (v := .int .i64 a3) rfl rfl ?_)
     refine XO.do (wantG (j := 18) (b := true) rfl (decide_eq_true c11) rfl) (D.add rfl rfl rfl ?_)
     refine XO.do (wantG (j := 18) (b := true) rfl (decide_eq_true c11) rfl) (D.mv (v := S a1) rfl rfl ?_)
     refine XO.do (wantG (j := 18) (b := true) rfl (decide_eq_true c11) rfl) (D.lenS Try.underlying9 rfl rfl ?_)
     refine XO.do (wantG (j := 18) (b := true) rfl (decide_eq_true c11) rfl) (D.leq rfl rfl rfl ?_)
     refine XO.do rfl (D.pick true (v := .bool (decide ((w64 (a2 + a3)) ≤ (a1.length : Int)))) (congrArg Value.bool (decide_eq_true c11)) rfl rfl ?_)
     refine XO.do rfl (D.asn (v := .bool (decide ((w64 (a2 + a3)) ≤ (a1.length : Int)))) rfl rfl ?_)
     refine XO.nil ?_
     refine hM7 _ _ ?_
     refine X.ret ?_
     subst h
     exact hR _ _ _ (ret1 (v := .bool (decide ((w64 (a2 + a3)) ≤ (a1.length : Int)))) rfl rfl) ⟨rfl, ext_of_below hB⟩
    ·rw [if_neg c11] at h
     refine XO.off (wantG0 (j := 18) (b := true) rfl (decide_eq_false c11) rfl) rfl rfl ?_
     refine XO.off (wantG0 (j := 18) (b := true) rfl (decide_eq_false c11) rfl) rfl rfl ?_
     refine XO.off (wantG0 (j := 18) (b := true) rfl (decide_eq_false c11) rfl) rfl rfl ?_
     refine XO.off (wantG0 (j := 18) (b := true) rfl (decide_eq_false c11) rfl) rfl rfl ?_
     refine XO.off (wantG0 (j := 18) (b := true) rfl (decide_eq_false c11) rfl) rfl rfl ?_
     refine XO.off (wantG0 (j := 18) (b := true) rfl (decide_eq_false c11) rfl) rfl rfl ?_
     refine XO.do rfl (D.pick false (v := .bool false) (congrArg Value.bool (decide_eq_false c11)) rfl rfl ?_)
     refine XO.do rfl (D.asn (v := .bool false) rfl rfl ?_)
     refine XO.nil ?_
     refine hM7 _ _ ?_
     refine X.ret ?_
     subst h
     exact hR _ _ _ (ret1 (v := .bool false) rfl rfl) ⟨rfl, ext_of_below hB⟩
   ·rw [if_neg c10] at h
    refine XO.off (wantG0 (j := 12) (b := true) rfl (decide_eq_false c10) rfl) rfl rfl ?_
    refine XO.off (wantG0 (j := 12) (b := true) rfl (decide_eq_false c10) rfl) rfl rfl ?_
    refine XO.off (wantG0 (j := 12) (b := true) rfl (decide_eq_false c10) rfl) rfl rfl ?_
    refine XO.off (wantG0 (j := 12) (b := true) rfl (decide_eq_false c10) rfl) rfl rfl ?_
    refine XO.do rfl (D.pick false (v := .bool false) (congrArg Value.bool (decide_eq_false c10)) rfl rfl ?_)
    refine XO.do rfl (D.mv (v := .bool false) rfl rfl ?_)
    refine XO.off (wantG0 (j := 18) (b := true) rfl (rfl) rfl) rfl rfl ?_
    refine XO.off (wantG0 (j := 18) (b := true) rfl (rfl) rfl) rfl rfl ?_
    refine XO.off (wantG0 (j := 18) (b := true) rfl (rfl) rfl) rfl rfl ?_
    refine XO.off (wantG0 (j := 18) (b := true) rfl (rfl) rfl) rfl rfl ?_
    refine XO.off (wantG0 (j := 18) (b := true) rfl (rfl) rfl) rfl rfl ?_
    refine XO.off (wantG0 (j := 18) (b := true) rfl (rfl) rfl) rfl rfl ?_
    refine XO.do rfl (D.pick false (v := .bool false) (congrArg Value.bool (rfl)) rfl rfl ?_)
    refine XO.do rfl (D.asn (v := .bool false) rfl rfl ?_)
    refine XO.nil ?_
    refine hM7 _ _ ?_
    refine X.ret ?_
    subst h
    exact hR _ _ _ (ret1 (v := .bool false) rfl rfl) ⟨rfl, ext_of_below hB⟩
  ·rw [if_neg c9] at h
   refine XO.off (wantG0 (j := 8) (b := true) rfl (decide_eq_false c9) rfl) rfl rfl ?_
   refine XO.off (wantG0 (j := 8) (b := true) rfl (decide_eq_false c9) rfl) rfl rfl ?_
   refine XO.do rfl (D.pick false (v := .bool false) (congrArg Value.bool (decide_eq_false c9)) rfl rfl ?_)
   refine XO.do rfl (D.mv (v := .bool false) rfl rfl ?_)
   refine XO.off (wantG0 (j := 12) (b := true) rfl (rfl) rfl) rfl rfl ?_
   refine XO.off (wantG0 (j := 12) (b := true) rfl (rfl) rfl) rfl rfl ?_
   refine XO.off (wantG0 (j := 12) (b := true) rfl (rfl) rfl) rfl rfl ?_
   refine XO.off (wantG0 (j := 12) (b := true) rfl (rfl) rfl) rfl rfl ?_
   refine XO.do rfl (D.pick false (v := .bool false) (congrArg Value.bool (rfl)) rfl rfl ?_)
   refine XO.do rfl (D.mv (v := .bool false) rfl rfl ?_)
   refine XO.off (wantG0 (j := 18) (b := true) rfl (rfl) rfl) rfl rfl ?_
   refine XO.off (wantG0 (j := 18) (b := true) rfl (rfl) rfl) rfl rfl ?_
   refine XO.off (wantG0 (j := 18) (b := true) rfl (rfl) rfl) rfl rfl ?_
   refine XO.off (wantG0 (j := 18) (b := true) rfl (rfl) rfl) rfl rfl ?_
   refine XO.off (wantG0 (j := 18) (b := true) rfl (rfl) rfl) rfl rfl ?_
   refine XO.off (wantG0 (j := 18) (b := true) rfl (rfl) rfl) rfl rfl ?_
   refine XO.do rfl (D.pick false (v := .bool false) (congrArg Value.bool (rfl)) rfl rfl ?_)
   refine XO.do rfl (D.asn (v := .bool false) rfl rfl ?_)
   refine XO.nil ?_
   refine hM7 _ _ ?_
   refine X.ret ?_
   subst h
   exact hR _ _ _ (ret1 (v := .bool false) rfl rfl) ⟨rfl, ext_of_below hB⟩
 ·rw [if_neg c8] at h
  refine XO.off (wantG0 (j := 2) (b := true) rfl (decide_eq_false c8) rfl) rfl rfl ?_
  refine XO.off (wantG0 (j := 2) (b := true) rfl (decide_eq_false c8) rfl) rfl rfl ?_
  refine XO.off (wantG0 (j := 2) (b := true) rfl (decide_eq_false c8) rfl) rfl rfl ?_
  refine XO.off (wantG0 (j := 2) (b := true) rfl (decide_eq_false c8) rfl) rfl rfl ?_
  refine XO.do rfl (D.pick false (v := .bool false) (congrArg Value.bool (decide_eq_false c8)) rfl rfl ?_)
  refine XO.do rfl (D.mv (v := .bool false) rfl rfl ?_)
  refine XO.off (wantG0 (j := 8) (b := true) rfl (rfl) rfl) rfl rfl ?_
  refine XO.off (wantG0 (j := 8) (b := true) rfl (rfl) rfl) rfl rfl ?_
  refine XO.do rfl (D.pick false (v := .bool false) (congrArg Value.bool (rfl)) rfl rfl ?_)
  refine XO.do rfl (D.mv (v := .bool false) rfl rfl ?_)
  refine XO.off (wantG0 (j := 12) (b := true) rfl (rfl) rfl) rfl rfl ?_
  refine XO.off (wantG0 (j := 12) (b := true) rfl (rfl) rfl) rfl rfl ?_
  refine XO.off (wantG0 (j := 12) (b := true) rfl (rfl) rfl) rfl rfl ?_
  refine XO.off (wantG0 (j := 12) (b := true) rfl (rfl) rfl) rfl rfl ?_
  refine XO.do rfl (D.pick false (v := .bool false) (congrArg Value.bool (rfl)) rfl rfl ?_)
  refine XO.do rfl (D.mv (v := .bool false) rfl rfl ?_)
  refine XO.off (wantG0 (j := 18) (b := true) rfl (rfl) rfl) rfl rfl ?_
  refine XO.off (wantG0 (j := 18) (b := true) rfl (rfl) rfl) rfl rfl ?_
  refine XO.off (wantG0 (j := 18) (b := true) rfl (rfl) rfl) rfl rfl ?_
  refine XO.off (wantG0 (j := 18) (b := true) rfl (rfl) rfl) rfl rfl ?_
  refine XO.off (wantG0 (j := 18) (b := true) rfl (rfl) rfl) rfl rfl ?_
  refine XO.off (wantG0 (j := 18) (b := true) rfl (rfl) rfl) rfl rfl ?_
  refine XO.do rfl (D.pick false (v := .bool false) (congrArg Value.bool (rfl)) rfl rfl ?_)
  refine XO.do rfl (D.asn (v := .bool false) rfl rfl ?_)
  refine XO.nil ?_
  refine hM7 _ _ ?_
  refine X.ret ?_
  subst h
  exact hR _ _ _ (ret1 (v := .bool false) rfl rfl) ⟨rfl, ext_of_below hB⟩
theorem derrickref01_there.ok (a1 : Str) (a2 : Int) (a3 : Int)  (w : World)  :
  Ret Try.prog 65 ([S a1, .int .i64 a2, .int .i64 a3] : List Value).toArray w fun v w' => v = .bool (derrickref01_there a1 a2 a3) ∧ Ext w w' := derrickref01_there.walk a1 a2 a3  w  _ rfl
theorem derrickref01_Put16.walk (a1 : Int)  (w : World)  (res : Str) (h : derrickref01_Put16 a1 = res) :
  Ret Try.prog 34 ([.int .u16 a1] : List Value).toArray w fun v w' => v = S res ∧ Ext w w' := by
 unfold derrickref01_Put16 at h
 refine enterX Try.func34 rfl Try.ntmps34 rfl (fun R hR => ?_)
 have hB := Below.refl w.heap.size w
 refine X.seq fun M2 hM3 => ?_
 refine X.region ?_
 refine XO.do rfl (D.asn (v := S []) rfl rfl ?_)
 refine XO.nil ?_
 refine hM3 _ _ ?_
 refine X.seq fun M4 hM5 => ?_
 refine X.region ?_
 refine XO.do rfl (D.mv (v := .int .u16 a1) rfl rfl ?_)
 refine XO.do rfl (D.quo rfl rfl (by decide) rfl ?_)
 refine XO.do rfl (D.conv Try.underlying22 Try.underlying5 rfl rfl ?_)
 refine XO.do rfl (D.mv (v := .int .u16 a1) rfl rfl ?_)
 refine XO.do rfl (D.rem rfl rfl (by decide) rfl ?_)
 refine XO.do rfl (D.conv Try.underlying22 Try.underlying5 rfl rfl ?_)
 refine XO.do rfl (D.buildR (vs := [.int .u8 (w8 (w16 (Int.tdiv a1 256))), .int .u8 (w8 (Int.tmod a1 256))]) (cs := [.int .u8 (w8 (w16 (Int.tdiv a1 256))), .int .u8 (w8 (Int.tmod a1 256))]) Try.underlying62 ti5 rfl rfl rfl rfl rfl rfl rfl ?_)
 intro b6 w7 hb8 H9 e10 zb6
 have H9o : Own (eInt .u8) 5 w7 b6 (some ⟨b6, 0, none⟩) 2 ([w8 (w16 (Int.tdiv a1 256)), w8 (Int.tmod a1 256)] : List Int) := Blk.own (E := (eInt .u8)) (show Blk _ _ (flat (eInt .u8) [w8 (w16 (Int.tdiv a1 256)), w8 (Int.tmod a1 256)]) _ from H9) (Nat.le_refl _) (by simp)
 have g11 : w.heap.size ≤ b6 := Nat.le_trans hB.size (Nat.le_of_eq hb8.symm)
 clear hb8 H9
 have bs11 : b6 ≤ w7.heap.size := Nat.le_of_lt zb6
 replace hB := below_ext hB e10
 clear e10
 refine XO.do rfl (D.strOf (m := 0) Try.underlying62 Try.underlying5 Try.underlying9 H9o.row rfl rfl ?_)
 refine XO.do rfl (D.asn (v := S (strOf [w8 (w16 (Int.tdiv a1 256)), w8 (Int.tmod a1 256)])) rfl rfl ?_)
 refine XO.nil ?_
 refine hM5 _ _ ?_
 refine X.ret ?_
 subst h
 exact hR _ _ _ (ret1 (v := S (strOf [w8 (w16 (Int.tdiv a1 256)), w8 (Int.tmod a1 256)])) rfl rfl) ⟨rfl, ext_of_below hB⟩
theorem derrickref01_Put16.ok (a1 : Int)  (w : World)  :
  Ret Try.prog 34 ([.int .u16 a1] : List Value).toArray w fun v w' => v = S (derrickref01_Put16 a1) ∧ Ext w w' := derrickref01_Put16.walk a1  w  _ rfl
theorem derrickref02_low.walk (a1 : Int)  (w : World)  (res : Int) (h : derrickref02_low a1 = res) :
  Ret Try.prog 82 ([.int .u8 a1] : List Value).toArray w fun v w' => v = .int .u8 res ∧ Ext w w' := by
 unfold derrickref02_low at h
 refine enterX Try.func82 rfl Try.ntmps82 rfl (fun R hR => ?_)
 have hB := Below.refl w.heap.size w
 refine X.seq fun M2 hM3 => ?_
 refine X.region ?_
 refine XO.do rfl (D.asn (v := .int .u8 0) rfl rfl ?_)
 refine XO.nil ?_
 refine hM3 _ _ ?_
 refine X.seq fun M14 hM15 => ?_
 refine X.cut (fun f19 w18 => ∃ x17 : Bool, f19 0 = .int .u8 a1 ∧ f19 8 = .bool x17 ∧ Below w.heap.size w w18 ∧ derrickref02_low.j1 a1 x17 = res) ?_ ?_
 ·refine X.region ?_
  refine XO.do rfl (D.mv (v := .int .u8 a1) rfl rfl ?_)
  refine XO.do rfl (D.geq rfl rfl rfl ?_)
  refine XO.do rfl (D.mv (v := .bool (decide (65 ≤ a1))) rfl rfl ?_)
  by_cases c27 : 65 ≤ a1
  ·rw [if_pos c27] at h
   refine XO.do (wantG (j := 2) (b := true) rfl (decide_eq_true c27) rfl) (D.mv (v := .int .u8 a1) rfl rfl ?_)
   refine XO.do (wantG (j := 2) (b := true) rfl (decide_eq_true c27) rfl) (D.leq rfl rfl rfl ?_)
   refine XO.do rfl (D.pick true (v := .bool (decide (a1 ≤ 90))) (congrArg Value.bool (decide_eq_true c27)) rfl rfl ?_)
   refine XO.nil ?_
   exact ⟨(decide (a1 ≤ 90)), rfl, rfl, hB, h⟩
  ·rw [if_neg c27] at h
   refine XO.off (wantG0 (j := 2) (b := true) rfl (decide_eq_false c27) rfl) rfl rfl ?_
   refine XO.off (wantG0 (j := 2) (b := true) rfl (decide_eq_false c27) rfl) rfl rfl ?_
   refine XO.do rfl (D.pick false (v := .bool false) (congrArg Value.bool (decide_eq_false c27)) rfl rfl ?_)
   refine XO.nil ?_
   exact ⟨false, rfl, rfl, hB, h⟩
 ·intro f19 w18 hI
  obtain ⟨x17, s20, s21, hB, h⟩ := hI
  refine X.fr (d := 0) s20 ?_
  refine X.fr (d := 8) s21 ?_
  unfold derrickref02_low.j1 at h
  by_cases c22 : x17 = true
  ·rw [if_pos c22] at h
   refine X.condT (congrArg Value.bool (c22)) ?_
   refine X.seq fun M23 hM24 => ?_
   refine X.region ?_
   refine XO.do rfl (D.mv (v := .int .u8 a1) rfl rfl ?_)
   refine XO.do rfl (D.add rfl rfl rfl ?_)
   refine XO.do rfl (D.asn (v := .int .u8 (w8 (a1 + 32))) rfl rfl ?_)
   refine XO.nil ?_
   refine hM24 _ _ ?_
   refine X.ret ?_
   subst h
   exact hR _ _ _ (ret1 (v := .int .u8 (w8 (a1 + 32))) rfl rfl) ⟨rfl, ext_of_below hB⟩
  ·rw [if_neg c22] at h
   refine X.condF (congrArg Value.bool ((Bool.eq_false_iff.2 c22))) ?_
   refine X.skip ?_
   refine hM15 _ _ ?_
   refine X.seq fun M25 hM26 => ?_
   refine X.region ?_
   refine XO.do rfl (D.mv (v := .int .u8 a1) rfl rfl ?_)
   refine XO.do rfl (D.asn (v := .int .u8 a1) rfl rfl ?_)
   refine XO.nil ?_
   refine hM26 _ _ ?_
   refine X.ret ?_
   subst h
   exact hR _ _ _ (ret1 (v := .int .u8 a1) rfl rfl) ⟨rfl, ext_of_below hB⟩
theorem derrickref02_low.ok (a1 : Int)  (w : World)  :
  Ret Try.prog 82 ([.int .u8 a1] : List Value).toArray w fun v w' => v = .int .u8 (derrickref02_low a1) ∧ Ext w w' := derrickref02_low.walk a1  w  _ rfl
theorem derrickref02_Labels.walk (kf : Nat) (a1 : Str)  (w : World)  (res : List Str × Int) (h : derrickref02_Labels.f kf a1 = some res) :
  Ret Try.prog 71 ([S a1] : List Value).toArray w fun v w' => ∃ (A1 : Option Addr) (k1 : Nat), v = .tuple #[.slice A1 res.1.length k1, .int .i64 res.2] ∧ Row eStr w' A1 k1 res.1 ∧ (∀ y, blkOf A1 = some y → w.heap.size ≤ y) ∧ Ext w w' := by
 unfold derrickref02_Labels.f at h
 refine enterX Try.func71 rfl Try.ntmps71 rfl (fun R hR => ?_)
 have hB := Below.refl w.heap.size w
 refine X.seq fun M2 hM3 => ?_
 refine X.region ?_
 refine XO.do rfl (D.asn (v := .slice none 0 0) rfl rfl ?_)
 refine XO.do rfl (D.asn (v := .int .i64 0) rfl rfl ?_)
 refine XO.nil ?_
 refine hM3 _ _ ?_
 refine X.seq fun M4 hM5 => ?_
 refine X.region ?_
 refine XO.do rfl (D.asn (v := .slice none 0 0) rfl rfl ?_)
 refine XO.nil ?_
 refine hM5 _ _ ?_
 refine X.seq fun M6 hM7 => ?_
 refine X.region ?_
 refine XO.do rfl (D.asn (v := .int .i64 0) rfl rfl ?_)
 refine XO.nil ?_
 refine hM7 _ _ ?_
 refine X.seq fun M300 hM301 => ?_
 refine X.block ?_
 have H502 : Own eStr 9 w w.heap.size none 0 [] := Own.nil _ _ _ _
 have bs503 : w.heap.size ≤ w.heap.size := Nat.le_refl _
 have hB503 : w.heap.size ≤ w.heap.size := hB.size
 refine X.loop (fun kq617 => fun f506 w505 => ∃ A495 : Option Addr, ∃ k496 : Nat, ∃ l497 : List Str, ∃ B498 : Nat, ∃ x501 : Int, f506 0 = S a1 ∧ f506 4 = .slice A495 l497.length k496 ∧ f506 5 = .int .i64 x501 ∧ Below w.heap.size w w505 ∧ Own eStr 9 w505 B498 A495 k496 l497 ∧ B498 ≤ w505.heap.size ∧ w.heap.size ≤ B498 ∧ derrickref02_Labels.l1 a1 kq617 l497 x501 = some res) kf ?_ ?_
 ·exact ⟨none, 0, ([] : List Str), w.heap.size, 0, rfl, rfl, rfl, hB, H502, bs503, hB503, h⟩
 ·intro kq617 f506 w505 hI
  obtain ⟨A495, k496, l497, B498, x501, s507, s508, s509, hB, H499, bs500, hg500, h⟩ := hI
  cases kq617 with
  | zero => exact absurd h (by rw [derrickref02_Labels.l1.eq_1]; simp)
  | succ kf494 =>
   rw [derrickref02_Labels.l1.eq_2] at h
   refine X.fr (d := 0) s507 ?_
   refine X.fr (d := 4) s508 ?_
   refine X.fr (d := 5) s509 ?_
   refine X.seq fun M524 hM525 => ?_
   refine X.cut (fun f531 w530 => ∃ x529 : Bool, f531 0 = S a1 ∧ f531 4 = .slice A495 l497.length k496 ∧ f531 5 = .int .i64 x501 ∧ f531 16 = .bool x529 ∧ Below w.heap.size w w530 ∧ Own eStr 9 w530 B498 A495 k496 l497 ∧ B498 ≤ w530.heap.size ∧ derrickref02_Labels.j2 x501 a1 l497 (derrickref02_Labels.l1 a1 kf494) x529 = some res) ?_ ?_
   ·refine X.region ?_
    refine XO.do rfl (D.mv (v := .int .i64 x501) rfl rfl ?_)
    refine XO.do rfl (D.mv (v := S a1) rfl rfl ?_)
    refine XO.do rfl (D.lenS Try.underlying9 rfl rfl ?_)
    refine XO.do rfl (D.lss rfl rfl rfl ?_)
    refine XO.do rfl (D.mv (v := .bool (decide (x501 < (a1.length : Int)))) rfl rfl ?_)
    by_cases c615 : x501 < (a1.length : Int)
    ·rw [if_pos c615] at h
     refine XO.do (wantG (j := 4) (b := true) rfl (decide_eq_true c615) rfl) (D.mv (v := S a1) rfl rfl ?_)
     refine XO.do (wantG (j := 4) (b := true) rfl (decide_eq_true c615) rfl) (D.mv (v := .int .i64 x501) rfl rfl ?_)
     rcases (Classical.em (0 ≤ x501)).symm with c616 | c616
     ·rw [if_neg c616] at h; cases h
     rw [if_pos c616] at h
     refine XO.do (wantG (j := 4) (b := true) rfl (decide_eq_true c615) rfl) (D.indexS (i := x501) Try.underlying9 rfl rfl c616 c615 rfl ?_)
     refine XO.do (wantG (j := 4) (b := true) rfl (decide_eq_true c615) rfl) (D.neq rfl rfl rfl ?_)
     refine XO.do rfl (D.pick true (v := .bool ((bt a1 x501) != 0)) (congrArg Value.bool (decide_eq_true c615)) rfl rfl ?_)
     refine XO.nil ?_
     exact ⟨((bt a1 x501) != 0), rfl, rfl, rfl, rfl, hB, H499, bs500, h⟩
    ·rw [if_neg c615] at h
     refine XO.off (wantG0 (j := 4) (b := true) rfl (decide_eq_false c615) rfl) rfl rfl ?_
     refine XO.off (wantG0 (j := 4) (b := true) rfl (decide_eq_false c615) rfl) rfl rfl ?_
     refine XO.off (wantG0 (j := 4) (b := true) rfl (decide_eq_false c615) rfl) rfl rfl ?_
     refine XO.off (wantG0 (j := 4) (b := true) rfl (decide_eq_false c615) rfl) rfl rfl ?_
     refine XO.do rfl (D.pick false (v := .bool false) (congrArg Value.bool (decide_eq_false c615)) rfl rfl ?_)
     refine XO.nil ?_
     exact ⟨false, rfl, rfl, rfl, rfl, hB, H499, bs500, h⟩
   ·intro f531 w530 hI
    obtain ⟨x529, s532, s533, s534, s535, hB, H528, bs500, h⟩ := hI
    refine X.fr (d := 0) s532 ?_
    refine X.fr (d := 4) s533 ?_
    refine X.fr (d := 5) s534 ?_
    refine X.fr (d := 16) s535 ?_
    unfold derrickref02_Labels.j2 at h
    by_cases c536 : x529 = true
    ·rw [if_pos c536] at h
     refine X.condT (congrArg Value.bool (c536)) ?_
     refine X.skip ?_
     refine hM525 _ _ ?_
     refine X.block ?_
     refine X.seq fun M537 hM538 => ?_
     refine X.region ?_
     refine XO.do rfl (D.mv (v := S a1) rfl rfl ?_)
     refine XO.do rfl (D.mv (v := .int .i64 x501) rfl rfl ?_)
     rcases (Classical.em (0 ≤ x501)).symm with c539 | c539
     ·rw [if_neg c539] at h; cases h
     rw [if_pos c539] at h
     rcases (Classical.em (x501 < (a1.length : Int))).symm with c540 | c540
     ·rw [if_neg c540] at h; cases h
     rw [if_pos c540] at h
     refine XO.do rfl (D.indexS (i := x501) Try.underlying9 rfl rfl c539 c540 rfl ?_)
     refine XO.do rfl (D.conv Try.underlying5 Try.underlying3 rfl rfl ?_)
     refine XO.do rfl (D.asn (v := .int .i64 (w64 (bt a1 x501))) rfl rfl ?_)
     refine XO.nil ?_
     refine hM538 _ _ ?_
     refine X.seq fun M555 hM556 => ?_
     refine X.cut (fun f561 w560 => ∃ x559 : Bool, f561 0 = S a1 ∧ f561 4 = .slice A495 l497.length k496 ∧ f561 5 = .int .i64 x501 ∧ f561 6 = .int .i64 (w64 (bt a1 x501)) ∧ f561 31 = .bool x559 ∧ Below w.heap.size w w560 ∧ Own eStr 9 w560 B498 A495 k496 l497 ∧ B498 ≤ w560.heap.size ∧ derrickref02_Labels.j3 x501 a1 l497 (derrickref02_Labels.l1 a1 kf494) x559 = some res) ?_ ?_
     ·refine X.region ?_
      refine XO.do rfl (D.mv (v := .int .i64 (w64 (bt a1 x501))) rfl rfl ?_)
      refine XO.do rfl (D.gtr rfl rfl rfl ?_)
      refine XO.do rfl (D.mv (v := .bool (decide (63 < (w64 (bt a1 x501))))) rfl rfl ?_)
      by_cases c588 : 63 < (w64 (bt a1 x501))
      ·rw [if_pos c588] at h
       refine XO.off (wantG0 (j := 2) (b := false) rfl (decide_eq_true c588) rfl) rfl rfl ?_
       refine XO.off (wantG0 (j := 2) (b := false) rfl (decide_eq_true c588) rfl) rfl rfl ?_
       refine XO.off (wantG0 (j := 2) (b := false) rfl (decide_eq_true c588) rfl) rfl rfl ?_
       refine XO.off (wantG0 (j := 2) (b := false) rfl (decide_eq_true c588) rfl) rfl rfl ?_
       refine XO.off (wantG0 (j := 2) (b := false) rfl (decide_eq_true c588) rfl) rfl rfl ?_
       refine XO.off (wantG0 (j := 2) (b := false) rfl (decide_eq_true c588) rfl) rfl rfl ?_
       refine XO.off (wantG0 (j := 2) (b := false) rfl (decide_eq_true c588) rfl) rfl rfl ?_
       refine XO.do rfl (D.pick true (v := .bool true) (congrArg Value.bool (decide_eq_true c588)) rfl rfl ?_)
       refine XO.nil ?_
       exact ⟨true, rfl, rfl, rfl, rfl, rfl, hB, H528, bs500, h⟩
      ·rw [if_neg c588] at h
       refine XO.do (wantG (j := 2) (b := false) rfl (decide_eq_false c588) rfl) (D.mv (v := .int .i64 x501) rfl rfl ?_)
       refine XO.do (wantG (j := 2) (b := false) rfl (decide_eq_false c588) rfl) (D.add rfl rfl rfl ?_)
       refine XO.do (wantG (j := 2) (b := false) rfl (decide_eq_false c588) rfl) (D.mv (v := .int .i64 (w64 (bt a1 x501))) rfl rfl ?_)
       refine XO.do (wantG (j := 2) (b := false) rfl (decide_eq_false c588) rfl) (D.add rfl rfl rfl ?_)
       refine XO.do (wantG (j := 2) (b := false) rfl (decide_eq_false c588) rfl) (D.mv (v := S a1) rfl rfl ?_)
       refine XO.do (wantG (j := 2) (b := false) rfl (decide_eq_false c588) rfl) (D.lenS Try.underlying9 rfl rfl ?_)
       refine XO.do (wantG (j := 2) (b := false) rfl (decide_eq_false c588) rfl) (D.gtr rfl rfl rfl ?_)
       refine XO.do rfl (D.pick false (v := .bool (decide ((a1.length : Int) < (w64 ((w64 (x501 + 1)) + (w64 (bt a1 x501))))))) (congrArg Value.bool (decide_eq_false c588)) rfl rfl ?_)
       refine XO.nil ?_
       exact ⟨(decide ((a1.length : Int) < (w64 ((w64 (x501 + 1)) + (w64 (bt a1 x501)))))), rfl, rfl, rfl, rfl, rfl, hB, H528, bs500, h⟩
     ·intro f561 w560 hI
      obtain ⟨x559, s562, s563, s564, s565, s566, hB, H558, bs500, h⟩ := hI
      refine X.fr (d := 0) s562 ?_
      refine X.fr (d := 4) s563 ?_
      refine X.fr (d := 5) s564 ?_
      refine X.fr (d := 6) s565 ?_
      refine X.fr (d := 31) s566 ?_
      unfold derrickref02_Labels.j3 at h
      by_cases c567 : x559 = true
      ·rw [if_pos c567] at h
       refine X.condT (congrArg Value.bool (c567)) ?_
       refine X.seq fun M568 hM569 => ?_
       refine X.region ?_
       refine XO.do rfl (D.asn (v := .slice none 0 0) rfl rfl ?_)
       refine XO.do rfl (D.asn (v := .int .i64 2) rfl rfl ?_)
       refine XO.nil ?_
       refine hM569 _ _ ?_
       refine X.ret ?_
       injection h with h
       subst h
       exact hR _ _ _ (ret2 (v := .slice none 0 0) (v' := .int .i64 2) rfl rfl rfl) ⟨none, 0, rfl, (Row.nil _ _ none 0 (by decide)), (fun y hy => by simp [blkOf] at hy), ext_of_below hB⟩
      ·rw [if_neg c567] at h
       refine X.condF (congrArg Value.bool ((Bool.eq_false_iff.2 c567))) ?_
       refine X.skip ?_
       refine hM556 _ _ ?_
       refine X.seq fun M570 hM571 => ?_
       refine X.region ?_
       refine XO.do rfl (D.mv (v := .slice A495 l497.length k496) rfl rfl ?_)
       refine XO.do rfl (D.mv (v := S a1) rfl rfl ?_)
       refine XO.do rfl (D.mv (v := .int .i64 x501) rfl rfl ?_)
       refine XO.do rfl (D.add rfl rfl rfl ?_)
       refine XO.do rfl (D.mv (v := .int .i64 x501) rfl rfl ?_)
       refine XO.do rfl (D.add rfl rfl rfl ?_)
       refine XO.do rfl (D.mv (v := .int .i64 (w64 (bt a1 x501))) rfl rfl ?_)
       refine XO.do rfl (D.add rfl rfl rfl ?_)
       rcases (Classical.em (0 ≤ w64 (x501 + 1))).symm with c572 | c572
       ·rw [if_neg c572] at h; cases h
       rw [if_pos c572] at h
       rcases (Classical.em (w64 (x501 + 1) ≤ w64 ((w64 (x501 + 1)) + (w64 (bt a1 x501))))).symm with c573 | c573
       ·rw [if_neg c573] at h; cases h
       rw [if_pos c573] at h
       rcases (Classical.em (w64 ((w64 (x501 + 1)) + (w64 (bt a1 x501))) ≤ (a1.length : Int))).symm with c574 | c574
       ·rw [if_neg c574] at h; cases h
       rw [if_pos c574] at h
       refine XO.do rfl (D.sliceS (i := w64 (x501 + 1)) (j := w64 ((w64 (x501 + 1)) + (w64 (bt a1 x501)))) Try.underlying9 rfl rfl rfl c572 c573 c574 rfl ?_)
       refine XO.do rfl (D.buildR (vs := [S ((a1.drop (w64 (x501 + 1)).toNat).take ((w64 ((w64 (x501 + 1)) + (w64 (bt a1 x501)))).toNat - (w64 (x501 + 1)).toNat))]) (cs := [S ((a1.drop (w64 (x501 + 1)).toNat).take ((w64 ((w64 (x501 + 1)) + (w64 (bt a1 x501)))).toNat - (w64 (x501 + 1)).toNat))]) Try.underlying94 ti9 rfl rfl rfl rfl rfl rfl rfl ?_)
       intro b575 w576 hb577 H578 e579 zb575
       have H578o : Own eStr 9 w576 b575 (some ⟨b575, 0, none⟩) 1 ([(a1.drop (w64 (x501 + 1)).toNat).take ((w64 ((w64 (x501 + 1)) + (w64 (bt a1 x501)))).toNat - (w64 (x501 + 1)).toNat)] : List Str) := Blk.own (E := eStr) (show Blk _ _ (flat eStr [(a1.drop (w64 (x501 + 1)).toNat).take ((w64 ((w64 (x501 + 1)) + (w64 (bt a1 x501)))).toNat - (w64 (x501 + 1)).toNat)]) _ from H578) (Nat.le_refl _) (by simp)
       have ne_500_580 : ∀ x y, MO A495 x → MO (some ⟨b575, 0, none⟩) y → x ≠ y := ne_of (MO.lt H558 (Nat.le_of_eq hb577.symm)) (MO.ge H578o)
       have g580 : w.heap.size ≤ b575 := Nat.le_trans hB.size (Nat.le_of_eq hb577.symm)
       clear hb577 H578
       have bs580 : b575 ≤ w576.heap.size := Nat.le_of_lt zb575
       replace hB := below_ext hB e579
       replace H558 := H558.ext e579
       replace bs500 := Nat.le_trans bs500 (World.grownBy.size e579)
       clear e579
       rcases (Classical.em ((l497.length + 1) * 16 ≤ 140737488355328)).symm with c581 | c581
       ·rw [if_neg c581] at h; cases h
       rw [if_pos c581] at h
       refine XO.do rfl (D.append (xs := l497) (ys := [(a1.drop (w64 (x501 + 1)).toNat).take ((w64 ((w64 (x501 + 1)) + (w64 (bt a1 x501)))).toNat - (w64 (x501 + 1)).toNat)]) (m := 1) Try.underlying94 ti9 rfl H558 H578o.row bs500 (by first | omega | (simp at *; omega)) (by first | exact c581 | omega | (simp at *; omega)) rfl rfl rfl rfl ?_)
       intro A582 k583 w584 H585 e586 ha587
       have ne_500_580n := ne_app ha587 ne_500_580 (MO.lt H578o (Nat.le_refl _))
       replace hB := below_own hB e586 (fun x hx => Nat.le_trans hg500 (MO.ge H558 x hx))
       replace H578o := H578o.gr e586 (sepO (ne_flip ne_500_580))
       replace bs580 := Nat.le_trans bs580 (World.grownBy.size e586)
       replace bs500 := Nat.le_trans bs500 (World.grownBy.size e586)
       replace ne_500_580 := ne_500_580n
       clear e586 ha587 H558
       refine XO.do rfl (D.asn (v := .slice A582 (l497 ++ [(a1.drop (w64 (x501 + 1)).toNat).take ((w64 ((w64 (x501 + 1)) + (w64 (bt a1 x501)))).toNat - (w64 (x501 + 1)).toNat)]).length k583) rfl rfl ?_)
       refine XO.nil ?_
       refine hM571 _ _ ?_
       refine X.region ?_
       refine XO.do rfl (D.mv (v := .int .i64 x501) rfl rfl ?_)
       refine XO.do rfl (D.add rfl rfl rfl ?_)
       refine XO.do rfl (D.mv (v := .int .i64 (w64 (bt a1 x501))) rfl rfl ?_)
       refine XO.do rfl (D.add rfl rfl rfl ?_)
       refine XO.do rfl (D.asn (v := .int .i64 (w64 ((w64 (x501 + 1)) + (w64 (bt a1 x501))))) rfl rfl ?_)
       refine XO.nil ?_
       exact ⟨kf494, Nat.lt_succ_self _, A582, k583, l497 ++ [(a1.drop (w64 (x501 + 1)).toNat).take ((w64 ((w64 (x501 + 1)) + (w64 (bt a1 x501)))).toNat - (w64 (x501 + 1)).toNat)], B498, w64 ((w64 (x501 + 1)) + (w64 (bt a1 x501))), rfl, rfl, rfl, hB, H585, bs500, hg500, h⟩
    ·rw [if_neg c536] at h
     refine X.condF (congrArg Value.bool ((Bool.eq_false_iff.2 c536))) ?_
     refine X.exit rfl ?_
     refine hM301 _ _ ?_
     refine X.seq fun M594 hM595 => ?_
     refine X.seq fun M596 hM597 => ?_
     refine X.region ?_
     refine XO.do rfl (D.mv (v := .int .i64 x501) rfl rfl ?_)
     refine XO.do rfl (D.mv (v := S a1) rfl rfl ?_)
     refine XO.do rfl (D.lenS Try.underlying9 rfl rfl ?_)
     refine XO.do rfl (D.sub rfl rfl rfl ?_)
     refine XO.do rfl (D.neq rfl rfl rfl ?_)
     refine XO.nil ?_
     refine hM597 _ _ ?_
     by_cases c598 : x501 = (w64 ((a1.length : Int) - 1))
     ·rw [if_pos c598] at h
      refine X.condF (congrArg Value.bool ((congrArg (!·) (beq_iff_eq.2 c598)))) ?_
      refine X.skip ?_
      refine hM595 _ _ ?_
      refine X.seq fun M604 hM605 => ?_
      refine X.seq fun M606 hM607 => ?_
      refine X.region ?_
      refine XO.do rfl (D.mv (v := S a1) rfl rfl ?_)
      refine XO.do rfl (D.lenS Try.underlying9 rfl rfl ?_)
      refine XO.do rfl (D.gtr rfl rfl rfl ?_)
      refine XO.nil ?_
      refine hM607 _ _ ?_
      by_cases c608 : 255 < (a1.length : Int)
      ·rw [if_pos c608] at h
       refine X.condT (congrArg Value.bool (decide_eq_true c608)) ?_
       refine X.seq fun M609 hM610 => ?_
       refine X.region ?_
       refine XO.do rfl (D.asn (v := .slice none 0 0) rfl rfl ?_)
       refine XO.do rfl (D.asn (v := .int .i64 3) rfl rfl ?_)
       refine XO.nil ?_
       refine hM610 _ _ ?_
       refine X.ret ?_
       injection h with h
       subst h
       exact hR _ _ _ (ret2 (v := .slice none 0 0) (v' := .int .i64 3) rfl rfl rfl) ⟨none, 0, rfl, (Row.nil _ _ none 0 (by decide)), (fun y hy => by simp [blkOf] at hy), ext_of_below hB⟩
      ·rw [if_neg c608] at h
       refine X.condF (congrArg Value.bool (decide_eq_false c608)) ?_
       refine X.skip ?_
       refine hM605 _ _ ?_
       refine X.seq fun M611 hM612 => ?_
       refine X.region ?_
       refine XO.do rfl (D.mv (v := .slice A495 l497.length k496) rfl rfl ?_)
       refine XO.do rfl (D.asn (v := .slice A495 l497.length k496) rfl rfl ?_)
       refine XO.do rfl (D.asn (v := .int .i64 0) rfl rfl ?_)
       refine XO.nil ?_
       refine hM612 _ _ ?_
       refine X.ret ?_
       injection h with h
       subst h
       exact hR _ _ _ (ret2 (v := .slice A495 l497.length k496) (v' := .int .i64 0) rfl rfl rfl) ⟨A495, k496, rfl, H528.row, (fun y hy => Nat.le_trans hg500 (MO.ge H528 y hy)), ext_of_below hB⟩
     ·rw [if_neg c598] at h
      refine X.condT (congrArg Value.bool ((congrArg (!·) (beq_eq_false_iff_ne.2 c598)))) ?_
      refine X.seq fun M613 hM614 => ?_
      refine X.region ?_
      refine XO.do rfl (D.asn (v := .slice none 0 0) rfl rfl ?_)
      refine XO.do rfl (D.asn (v := .int .i64 2) rfl rfl ?_)
      refine XO.nil ?_
      refine hM614 _ _ ?_
      refine X.ret ?_
      injection h with h
      subst h
      exact hR _ _ _ (ret2 (v := .slice none 0 0) (v' := .int .i64 2) rfl rfl rfl) ⟨none, 0, rfl, (Row.nil _ _ none 0 (by decide)), (fun y hy => by simp [blkOf] at hy), ext_of_below hB⟩
theorem derrickref02_Labels.ok (a1 : Str)  (w : World)  (hp : derrickref02_Labels.pre a1) :
  Ret Try.prog 71 ([S a1] : List Value).toArray w fun v w' => ∃ (A1 : Option Addr) (k1 : Nat), v = .tuple #[.slice A1 ((derrickref02_Labels a1).1).length k1, .int .i64 ((derrickref02_Labels a1).2)] ∧ Row eStr w' A1 k1 ((derrickref02_Labels a1).1) ∧ (∀ y, blkOf A1 = some y → w.heap.size ≤ y) ∧ Ext w w' := by
 obtain ⟨kf, h⟩ := derrickref02_Labels.eq a1 hp
 exact derrickref02_Labels.walk kf a1  w  _ h
theorem derrickref03_known.walk (kf : Nat) (a1 : RPack) (a6 : Str) (A2 : Option Addr) (k3 : Nat) (w : World) (H4 : Row ePlace w A2 k3 a1.l) (res : Int) (h : derrickref03_known.f kf a1 a6 = some res) :
  Ret Try.prog 57 ([.agg #[S a1.s, .slice A2 a1.l.length k3], S a6] : List Value).toArray w fun v w' => v = .int .i64 res ∧ Ext w w' := by
 unfold derrickref03_known.f at h
 refine enterX Try.func57 rfl Try.ntmps57 rfl (fun R hR => ?_)
 have hB := Below.refl w.heap.size w
 refine X.seq fun M7 hM8 => ?_
 refine X.region ?_
 refine XO.do rfl (D.box (v := .agg #[S a1.s, .slice A2 a1.l.length k3]) (cs := [S a1.s, .slice A2 a1.l.length k3]) rfl rfl rfl ?_)
 intro b9 w10 hb11 H12 e13 _
 have g14 : w.heap.size ≤ b9 := Nat.le_trans hB.size (Nat.le_of_eq hb11.symm)
 clear hb11
 replace hB := below_ext hB e13
 clear e13
 refine XO.do rfl (D.asn (v := .int .i64 0) rfl rfl ?_)
 refine XO.nil ?_
 refine hM8 _ _ ?_
 refine X.seq fun M119 hM120 => ?_
 refine X.seq fun M121 hM122 => ?_
 refine X.region ?_
 refine XO.do rfl (D.asn (v := .int .i64 0) rfl rfl ?_)
 refine XO.nil ?_
 refine hM122 _ _ ?_
 refine X.block ?_
 refine X.loop (fun kq225 => fun f180 w179 => ∃ x177 : Int, f180 1 = S a6 ∧ f180 2 = pt b9 0 ∧ f180 5 = .int .i64 x177 ∧ Below w.heap.size w w179 ∧ Blk w179 b9 [S a1.s, .slice A2 a1.l.length k3] 39 ∧ derrickref03_known.l1 a1 a6 kq225 x177 = some res) kf ?_ ?_
 ·exact ⟨0, rfl, rfl, rfl, hB, H12, h⟩
 ·intro kq225 f180 w179 hI
  obtain ⟨x177, s181, s182, s183, hB, H176, h⟩ := hI
  cases kq225 with
  | zero => exact absurd h (by rw [derrickref03_known.l1.eq_1]; simp)
  | succ kf175 =>
   rw [derrickref03_known.l1.eq_2] at h
   refine X.fr (d := 1) s181 ?_
   refine X.fr (d := 2) s182 ?_
   refine X.fr (d := 5) s183 ?_
   refine X.seq fun M188 hM189 => ?_
   refine X.seq fun M190 hM191 => ?_
   refine X.region ?_
   refine XO.do rfl (D.mv (v := .int .i64 x177) rfl rfl ?_)
   refine XO.do rfl (D.fieldAddr (o' := 1) fa39_1 rfl rfl rfl ?_)
   refine XO.do rfl (D.load (j := 1) (v := .slice A2 a1.l.length k3) sc37 H176.cs rfl rfl rfl rfl ?_)
   refine XO.do rfl (D.lenR (A := A2) (c := k3) (m := a1.l.length) Try.underlying37 rfl rfl ?_)
   refine XO.do rfl (D.lss rfl rfl rfl ?_)
   refine XO.nil ?_
   refine hM191 _ _ ?_
   by_cases c192 : x177 < (a1.l.length : Int)
   ·rw [if_pos c192] at h
    refine X.condT (congrArg Value.bool (decide_eq_true c192)) ?_
    refine X.skip ?_
    refine hM189 _ _ ?_
    refine X.seq fun M207 hM208 => ?_
    refine X.block ?_
    refine X.seq fun M209 hM210 => ?_
    refine X.region ?_
    refine XO.do rfl (D.fieldAddr (o' := 1) fa39_1 rfl rfl rfl ?_)
    refine XO.do rfl (D.load (j := 1) (v := .slice A2 a1.l.length k3) sc37 H176.cs rfl rfl rfl rfl ?_)
    refine XO.do rfl (D.mv (v := .int .i64 x177) rfl rfl ?_)
    rcases (Classical.em (0 ≤ x177)).symm with c211 | c211
    ·rw [if_neg c211] at h; cases h
    rw [if_pos c211] at h
    refine XO.do rfl (D.indexR (i := x177) Try.underlying37 sz104 (H4.below hB) rfl rfl c211 c192 rfl ?_)
    intro b212 o213 _ H214
    refine XO.do rfl (D.fieldAddr (o' := o213) fa104_0 rfl rfl rfl ?_)
    refine XO.do rfl (D.load (j := 0) (v := S ((rd a1.l x177).nm)) sc9 H214 rfl rfl rfl rfl ?_)
    refine XO.do rfl (D.mv (v := S a6) rfl rfl ?_)
    refine XO.do rfl (D.eqlS rfl rfl rfl ?_)
    refine XO.nil ?_
    refine hM210 _ _ ?_
    by_cases c216 : ((rd a1.l x177).nm) = a6
    ·rw [if_pos c216] at h
     refine X.condT (congrArg Value.bool (beq_iff_eq.2 c216)) ?_
     refine X.seq fun M217 hM218 => ?_
     refine X.region ?_
     refine XO.do rfl (D.fieldAddr (o' := 1) fa39_1 rfl rfl rfl ?_)
     refine XO.do rfl (D.load (j := 1) (v := .slice A2 a1.l.length k3) sc37 H176.cs rfl rfl rfl rfl ?_)
     refine XO.do rfl (D.mv (v := .int .i64 x177) rfl rfl ?_)
     refine XO.do rfl (D.indexR (i := x177) Try.underlying37 sz104 (H4.below hB) rfl rfl c211 c192 rfl ?_)
     intro b219 o220 _ H221
     refine XO.do rfl (D.fieldAddr (o' := o220 + 1) fa104_1 rfl rfl rfl ?_)
     refine XO.do rfl (D.load (j := 1) (v := .int .i64 ((rd a1.l x177).at_)) sc3 H221 rfl rfl rfl rfl ?_)
     refine XO.do rfl (D.asn (v := .int .i64 ((rd a1.l x177).at_)) rfl rfl ?_)
     refine XO.nil ?_
     refine hM218 _ _ ?_
     refine X.ret ?_
     injection h with h
     subst h
     exact hR _ _ _ (ret1 (v := .int .i64 ((rd a1.l x177).at_)) rfl rfl) ⟨rfl, ext_of_below hB⟩
    ·rw [if_neg c216] at h
     refine X.condF (congrArg Value.bool (beq_eq_false_iff_ne.2 c216)) ?_
     refine X.skip ?_
     refine hM208 _ _ ?_
     refine X.region ?_
     refine XO.do rfl (D.mv (v := .int .i64 x177) rfl rfl ?_)
     refine XO.do rfl (D.add rfl rfl rfl ?_)
     refine XO.do rfl (D.asn (v := .int .i64 (w64 (x177 + 1))) rfl rfl ?_)
     refine XO.nil ?_
     exact ⟨kf175, Nat.lt_succ_self _, w64 (x177 + 1), rfl, rfl, rfl, hB, H176, h⟩
   ·rw [if_neg c192] at h
    refine X.condF (congrArg Value.bool (decide_eq_false c192)) ?_
    refine X.exit rfl ?_
    refine hM120 _ _ ?_
    refine X.seq fun M223 hM224 => ?_
    refine X.region ?_
    refine XO.do rfl (D.asn (v := .int .i64 (-1)) rfl rfl ?_)
    refine XO.nil ?_
    refine hM224 _ _ ?_
    refine X.ret ?_
    injection h with h
    subst h
    exact hR _ _ _ (ret1 (v := .int .i64 (-1)) rfl rfl) ⟨rfl, ext_of_below hB⟩
theorem derrickref03_known.ok (a1 : RPack) (a6 : Str) (A2 : Option Addr) (k3 : Nat) (w : World) (H4 : Row ePlace w A2 k3 a1.l) (hp : derrickref03_known.pre a1 a6) :
  Ret Try.prog 57 ([.agg #[S a1.s, .slice A2 a1.l.length k3], S a6] : List Value).toArray w fun v w' => v = .int .i64 (derrickref03_known a1 a6) ∧ Ext w w' := by
 obtain ⟨kf, h⟩ := derrickref03_known.eq a1 a6 hp
 exact derrickref03_known.walk kf a1 a6 A2 k3 w H4 _ h
theorem derrickref03_ends.walk (kf : Nat) (a1 : Str)  (w : World)  (res : Bool) (h : derrickref03_ends.f kf a1 = some res) :
  Ret Try.prog 69 ([S a1] : List Value).toArray w fun v w' => v = .bool res ∧ Ext w w' := by
 unfold derrickref03_ends.f at h
 refine enterX Try.func69 rfl Try.ntmps69 rfl (fun R hR => ?_)
 have hB := Below.refl w.heap.size w
 refine X.seq fun M2 hM3 => ?_
 refine X.region ?_
 refine XO.do rfl (D.asn (v := .bool false) rfl rfl ?_)
 refine XO.nil ?_
 refine hM3 _ _ ?_
 refine X.seq fun M4 hM5 => ?_
 refine X.region ?_
 refine XO.do rfl (D.asn (v := .int .i64 0) rfl rfl ?_)
 refine XO.nil ?_
 refine hM5 _ _ ?_
 refine X.seq fun M69 hM70 => ?_
 refine X.block ?_
 refine X.loop (fun kq135 => fun f107 w106 => ∃ x104 : Int, f107 0 = S a1 ∧ f107 3 = .int .i64 x104 ∧ Below w.heap.size w w106 ∧ derrickref03_ends.l1 a1 kq135 x104 = some res) kf ?_ ?_
 ·exact ⟨0, rfl, rfl, hB, h⟩
 ·intro kq135 f107 w106 hI
  obtain ⟨x104, s108, s109, hB, h⟩ := hI
  cases kq135 with
  | zero => exact absurd h (by rw [derrickref03_ends.l1.eq_1]; simp)
  | succ kf103 =>
   rw [derrickref03_ends.l1.eq_2] at h
   refine X.fr (d := 0) s108 ?_
   refine X.fr (d := 3) s109 ?_
   refine X.seq fun M114 hM115 => ?_
   refine X.seq fun M116 hM117 => ?_
   refine X.region ?_
   refine XO.do rfl (D.mv (v := .int .i64 x104) rfl rfl ?_)
   refine XO.do rfl (D.mv (v := S a1) rfl rfl ?_)
   refine XO.do rfl (D.lenS Try.underlying9 rfl rfl ?_)
   refine XO.do rfl (D.lss rfl rfl rfl ?_)
   refine XO.nil ?_
   refine hM117 _ _ ?_
   by_cases c118 : x104 < (a1.length : Int)
   ·rw [if_pos c118] at h
    refine X.condT (congrArg Value.bool (decide_eq_true c118)) ?_
    refine X.skip ?_
    refine hM115 _ _ ?_
    refine X.block ?_
    refine X.seq fun M125 hM126 => ?_
    refine X.seq fun M127 hM128 => ?_
    refine X.region ?_
    refine XO.do rfl (D.mv (v := S a1) rfl rfl ?_)
    refine XO.do rfl (D.mv (v := .int .i64 x104) rfl rfl ?_)
    rcases (Classical.em (0 ≤ x104)).symm with c129 | c129
    ·rw [if_neg c129] at h; cases h
    rw [if_pos c129] at h
    refine XO.do rfl (D.indexS (i := x104) Try.underlying9 rfl rfl c129 c118 rfl ?_)
    refine XO.do rfl (D.eql rfl rfl rfl ?_)
    refine XO.nil ?_
    refine hM128 _ _ ?_
    by_cases c130 : (bt a1 x104) = 0
    ·rw [if_pos c130] at h
     refine X.condT (congrArg Value.bool (beq_iff_eq.2 c130)) ?_
     refine X.seq fun M131 hM132 => ?_
     refine X.region ?_
     refine XO.do rfl (D.mv (v := .int .i64 x104) rfl rfl ?_)
     refine XO.do rfl (D.mv (v := S a1) rfl rfl ?_)
     refine XO.do rfl (D.lenS Try.underlying9 rfl rfl ?_)
     refine XO.do rfl (D.sub rfl rfl rfl ?_)
     refine XO.do rfl (D.eql rfl rfl rfl ?_)
     refine XO.do rfl (D.asn (v := .bool (x104 == (w64 ((a1.length : Int) - 1)))) rfl rfl ?_)
     refine XO.nil ?_
     refine hM132 _ _ ?_
     refine X.ret ?_
     injection h with h
     subst h
     exact hR _ _ _ (ret1 (v := .bool (x104 == (w64 ((a1.length : Int) - 1)))) rfl rfl) ⟨rfl, ext_of_below hB⟩
    ·rw [if_neg c130] at h
     refine X.condF (congrArg Value.bool (beq_eq_false_iff_ne.2 c130)) ?_
     refine X.skip ?_
     refine hM126 _ _ ?_
     refine X.region ?_
     refine XO.do rfl (D.mv (v := .int .i64 x104) rfl rfl ?_)
     refine XO.do rfl (D.add rfl rfl rfl ?_)
     refine XO.do rfl (D.mv (v := S a1) rfl rfl ?_)
     refine XO.do rfl (D.mv (v := .int .i64 x104) rfl rfl ?_)
     refine XO.do rfl (D.indexS (i := x104) Try.underlying9 rfl rfl c129 c118 rfl ?_)
     refine XO.do rfl (D.conv Try.underlying5 Try.underlying3 rfl rfl ?_)
     refine XO.do rfl (D.add rfl rfl rfl ?_)
     refine XO.do rfl (D.asn (v := .int .i64 (w64 ((w64 (x104 + 1)) + (w64 (bt a1 x104))))) rfl rfl ?_)
     refine XO.nil ?_
     exact ⟨kf103, Nat.lt_succ_self _, w64 ((w64 (x104 + 1)) + (w64 (bt a1 x104))), rfl, rfl, hB, h⟩
   ·rw [if_neg c118] at h
    refine X.condF (congrArg Value.bool (decide_eq_false c118)) ?_
    refine X.exit rfl ?_
    refine hM70 _ _ ?_
    refine X.seq fun M133 hM134 => ?_
    refine X.region ?_
    refine XO.do rfl (D.asn (v := .bool false) rfl rfl ?_)
    refine XO.nil ?_
    refine hM134 _ _ ?_
    refine X.ret ?_
    injection h with h
    subst h
    exact hR _ _ _ (ret1 (v := .bool false) rfl rfl) ⟨rfl, ext_of_below hB⟩
theorem derrickref03_ends.ok (a1 : Str)  (w : World)  (hp : derrickref03_ends.pre a1) :
  Ret Try.prog 69 ([S a1] : List Value).toArray w fun v w' => v = .bool (derrickref03_ends a1) ∧ Ext w w' := by
 obtain ⟨kf, h⟩ := derrickref03_ends.eq a1 hp
 exact derrickref03_ends.walk kf a1  w  _ h
theorem derrickref03_labels.walk (kf : Nat) (a1 : Str) (a2 : Int)  (w : World)  (res : Str × Int) (h : derrickref03_labels.f kf a1 a2 = some res) :
  Ret Try.prog 68 ([S a1, .int .i64 a2] : List Value).toArray w fun v w' => v = .tuple #[S res.1, .int .i64 res.2] ∧ Ext w w' := by
 unfold derrickref03_labels.f at h
 refine enterX Try.func68 rfl Try.ntmps68 rfl (fun R hR => ?_)
 have hB := Below.refl w.heap.size w
 refine X.seq fun M3 hM4 => ?_
 refine X.region ?_
 refine XO.do rfl (D.asn (v := S []) rfl rfl ?_)
 refine XO.do rfl (D.asn (v := .int .i64 0) rfl rfl ?_)
 refine XO.nil ?_
 refine hM4 _ _ ?_
 refine X.seq fun M5 hM6 => ?_
 refine X.region ?_
 refine XO.do rfl (D.mv (v := .int .i64 a2) rfl rfl ?_)
 refine XO.do rfl (D.asn (v := .int .i64 a2) rfl rfl ?_)
 refine XO.nil ?_
 refine hM6 _ _ ?_
 refine X.seq fun M179 hM180 => ?_
 refine X.block ?_
 refine X.loop (fun kq352 => fun f271 w270 => ∃ x268 : Int, f271 0 = S a1 ∧ f271 1 = .int .i64 x268 ∧ f271 6 = .int .i64 a2 ∧ Below w.heap.size w w270 ∧ derrickref03_labels.l1 a1 a2 kq352 x268 = some res) kf ?_ ?_
 ·exact ⟨a2, rfl, rfl, rfl, hB, h⟩
 ·intro kq352 f271 w270 hI
  obtain ⟨x268, s272, s273, s274, hB, h⟩ := hI
  cases kq352 with
  | zero => exact absurd h (by rw [derrickref03_labels.l1.eq_1]; simp)
  | succ kf267 =>
   rw [derrickref03_labels.l1.eq_2] at h
   refine X.fr (d := 0) s272 ?_
   refine X.fr (d := 1) s273 ?_
   refine X.fr (d := 6) s274 ?_
   refine X.seq fun M286 hM287 => ?_
   refine X.cut (fun f291 w290 => ∃ x289 : Bool, f291 0 = S a1 ∧ f291 1 = .int .i64 x268 ∧ f291 6 = .int .i64 a2 ∧ f291 16 = .bool x289 ∧ Below w.heap.size w w290 ∧ derrickref03_labels.j2 x268 a1 a2 (derrickref03_labels.l1 a1 a2 kf267) x289 = some res) ?_ ?_
   ·refine X.region ?_
    refine XO.do rfl (D.mv (v := .int .i64 x268) rfl rfl ?_)
    refine XO.do rfl (D.geq rfl rfl rfl ?_)
    refine XO.do rfl (D.mv (v := .bool (decide (0 ≤ x268))) rfl rfl ?_)
    by_cases c351 : 0 ≤ x268
    ·rw [if_pos c351] at h
     refine XO.do (wantG (j := 2) (b := true) rfl (decide_eq_true c351) rfl) (D.mv (v := .int .i64 x268) rfl rfl ?_)
     refine XO.do (wantG (j := 2) (b := true) rfl (decide_eq_true c351) rfl) (D.mv (v := S a1) rfl rfl ?_)
     refine XO.do (wantG (j := 2) (b := true) rfl (decide_eq_true c351) rfl) (D.lenS Try.underlying9 rfl rfl ?_)
     refine XO.do (wantG (j := 2) (b := true) rfl (decide_eq_true c351) rfl) (D.lss rfl rfl rfl ?_)
     refine XO.do rfl (D.pick true (v := .bool (decide (x268 < (a1.length : Int)))) (congrArg Value.bool (decide_eq_true c351)) rfl rfl ?_)
     refine XO.nil ?_
     exact ⟨(decide (x268 < (a1.length : Int))), rfl, rfl, rfl, rfl, hB, h⟩
    ·rw [if_neg c351] at h
     refine XO.off (wantG0 (j := 2) (b := true) rfl (decide_eq_false c351) rfl) rfl rfl ?_
     refine XO.off (wantG0 (j := 2) (b := true) rfl (decide_eq_false c351) rfl) rfl rfl ?_
     refine XO.off (wantG0 (j := 2) (b := true) rfl (decide_eq_false c351) rfl) rfl rfl ?_
     refine XO.off (wantG0 (j := 2) (b := true) rfl (decide_eq_false c351) rfl) rfl rfl ?_
     refine XO.do rfl (D.pick false (v := .bool false) (congrArg Value.bool (decide_eq_false c351)) rfl rfl ?_)
     refine XO.nil ?_
     exact ⟨false, rfl, rfl, rfl, rfl, hB, h⟩
   ·intro f291 w290 hI
    obtain ⟨x289, s292, s293, s294, s295, hB, h⟩ := hI
    refine X.fr (d := 0) s292 ?_
    refine X.fr (d := 1) s293 ?_
    refine X.fr (d := 6) s294 ?_
    refine X.fr (d := 16) s295 ?_
    unfold derrickref03_labels.j2 at h
    by_cases c296 : x289 = true
    ·rw [if_pos c296] at h
     refine X.condT (congrArg Value.bool (c296)) ?_
     refine X.skip ?_
     refine hM287 _ _ ?_
     refine X.block ?_
     refine X.seq fun M297 hM298 => ?_
     refine X.region ?_
     refine XO.do rfl (D.mv (v := S a1) rfl rfl ?_)
     refine XO.do rfl (D.mv (v := .int .i64 x268) rfl rfl ?_)
     rcases (Classical.em (0 ≤ x268)).symm with c299 | c299
     ·rw [if_neg c299] at h; cases h
     rw [if_pos c299] at h
     rcases (Classical.em (x268 < (a1.length : Int))).symm with c300 | c300
     ·rw [if_neg c300] at h; cases h
     rw [if_pos c300] at h
     refine XO.do rfl (D.indexS (i := x268) Try.underlying9 rfl rfl c299 c300 rfl ?_)
     refine XO.do rfl (D.conv Try.underlying5 Try.underlying3 rfl rfl ?_)
     refine XO.do rfl (D.asn (v := .int .i64 (w64 (bt a1 x268))) rfl rfl ?_)
     refine XO.nil ?_
     refine hM298 _ _ ?_
     refine X.seq fun M309 hM310 => ?_
     refine X.seq fun M311 hM312 => ?_
     refine X.region ?_
     refine XO.do rfl (D.mv (v := .int .i64 (w64 (bt a1 x268))) rfl rfl ?_)
     refine XO.do rfl (D.geq rfl rfl rfl ?_)
     refine XO.nil ?_
     refine hM312 _ _ ?_
     by_cases c313 : 192 ≤ (w64 (bt a1 x268))
     ·rw [if_pos c313] at h
      refine X.condT (congrArg Value.bool (decide_eq_true c313)) ?_
      refine X.seq fun M314 hM315 => ?_
      refine X.region ?_
      refine XO.do rfl (D.mv (v := S a1) rfl rfl ?_)
      refine XO.do rfl (D.mv (v := .int .i64 a2) rfl rfl ?_)
      refine XO.do rfl (D.mv (v := .int .i64 x268) rfl rfl ?_)
      rcases (Classical.em (0 ≤ a2)).symm with c316 | c316
      ·rw [if_neg c316] at h; cases h
      rw [if_pos c316] at h
      rcases (Classical.em (a2 ≤ x268)).symm with c317 | c317
      ·rw [if_neg c317] at h; cases h
      rw [if_pos c317] at h
      rcases (Classical.em (x268 ≤ (a1.length : Int))).symm with c318 | c318
      ·rw [if_neg c318] at h; cases h
      rw [if_pos c318] at h
      refine XO.do rfl (D.sliceS (i := a2) (j := x268) Try.underlying9 rfl rfl rfl c316 c317 c318 rfl ?_)
      refine XO.do rfl (D.mv (v := .int .i64 x268) rfl rfl ?_)
      refine XO.do rfl (D.asn (v := S ((a1.drop a2.toNat).take (x268.toNat - a2.toNat))) rfl rfl ?_)
      refine XO.do rfl (D.asn (v := .int .i64 x268) rfl rfl ?_)
      refine XO.nil ?_
      refine hM315 _ _ ?_
      refine X.ret ?_
      injection h with h
      subst h
      exact hR _ _ _ (ret2 (v := S ((a1.drop a2.toNat).take (x268.toNat - a2.toNat))) (v' := .int .i64 x268) rfl rfl rfl) ⟨rfl, ext_of_below hB⟩
     ·rw [if_neg c313] at h
      refine X.condF (congrArg Value.bool (decide_eq_false c313)) ?_
      refine X.skip ?_
      refine hM310 _ _ ?_
      refine X.seq fun M324 hM325 => ?_
      refine X.seq fun M326 hM327 => ?_
      refine X.region ?_
      refine XO.do rfl (D.mv (v := .int .i64 (w64 (bt a1 x268))) rfl rfl ?_)
      refine XO.do rfl (D.gtr rfl rfl rfl ?_)
      refine XO.nil ?_
      refine hM327 _ _ ?_
      by_cases c328 : 63 < (w64 (bt a1 x268))
      ·rw [if_pos c328] at h
       refine X.condT (congrArg Value.bool (decide_eq_true c328)) ?_
       refine X.seq fun M329 hM330 => ?_
       refine X.region ?_
       refine XO.do rfl (D.asn (v := S []) rfl rfl ?_)
       refine XO.do rfl (D.asn (v := .int .i64 (-1)) rfl rfl ?_)
       refine XO.nil ?_
       refine hM330 _ _ ?_
       refine X.ret ?_
       injection h with h
       subst h
       exact hR _ _ _ (ret2 (v := S []) (v' := .int .i64 (-1)) rfl rfl rfl) ⟨rfl, ext_of_below hB⟩
      ·rw [if_neg c328] at h
       refine X.condF (congrArg Value.bool (decide_eq_false c328)) ?_
       refine X.skip ?_
       refine hM325 _ _ ?_
       refine X.seq fun M339 hM340 => ?_
       refine X.seq fun M341 hM342 => ?_
       refine X.region ?_
       refine XO.do rfl (D.mv (v := .int .i64 (w64 (bt a1 x268))) rfl rfl ?_)
       refine XO.do rfl (D.eql rfl rfl rfl ?_)
       refine XO.nil ?_
       refine hM342 _ _ ?_
       by_cases c343 : (w64 (bt a1 x268)) = 0
       ·rw [if_pos c343] at h
        refine X.condT (congrArg Value.bool (beq_iff_eq.2 c343)) ?_
        refine X.seq fun M344 hM345 => ?_
        refine X.region ?_
        refine XO.do rfl (D.mv (v := S a1) rfl rfl ?_)
        refine XO.do rfl (D.mv (v := .int .i64 a2) rfl rfl ?_)
        refine XO.do rfl (D.mv (v := .int .i64 x268) rfl rfl ?_)
        refine XO.do rfl (D.add rfl rfl rfl ?_)
        rcases (Classical.em (0 ≤ a2)).symm with c346 | c346
        ·rw [if_neg c346] at h; cases h
        rw [if_pos c346] at h
        rcases (Classical.em (a2 ≤ w64 (x268 + 1))).symm with c347 | c347
        ·rw [if_neg c347] at h; cases h
        rw [if_pos c347] at h
        rcases (Classical.em (w64 (x268 + 1) ≤ (a1.length : Int))).symm with c348 | c348
        ·rw [if_neg c348] at h; cases h
        rw [if_pos c348] at h
        refine XO.do rfl (D.sliceS (i := a2) (j := w64 (x268 + 1)) Try.underlying9 rfl rfl rfl c346 c347 c348 rfl ?_)
        refine XO.do rfl (D.mv (v := .int .i64 x268) rfl rfl ?_)
        refine XO.do rfl (D.add rfl rfl rfl ?_)
        refine XO.do rfl (D.asn (v := S ((a1.drop a2.toNat).take ((w64 (x268 + 1)).toNat - a2.toNat))) rfl rfl ?_)
        refine XO.do rfl (D.asn (v := .int .i64 (w64 (x268 + 1))) rfl rfl ?_)
        refine XO.nil ?_
        refine hM345 _ _ ?_
        refine X.ret ?_
        injection h with h
        subst h
        exact hR _ _ _ (ret2 (v := S ((a1.drop a2.toNat).take ((w64 (x268 + 1)).toNat - a2.toNat))) (v' := .int .i64 (w64 (x268 + 1))) rfl rfl rfl) ⟨rfl, ext_of_below hB⟩
       ·rw [if_neg c343] at h
        refine X.condF (congrArg Value.bool (beq_eq_false_iff_ne.2 c343)) ?_
        refine X.skip ?_
        refine hM340 _ _ ?_
        refine X.region ?_
        refine XO.do rfl (D.mv (v := .int .i64 x268) rfl rfl ?_)
        refine XO.do rfl (D.add rfl rfl rfl ?_)
        refine XO.do rfl (D.mv (v := .int .i64 (w64 (bt a1 x268))) rfl rfl ?_)
        refine XO.do rfl (D.add rfl rfl rfl ?_)
        refine XO.do rfl (D.asn (v := .int .i64 (w64 ((w64 (x268 + 1)) + (w64 (bt a1 x268))))) rfl rfl ?_)
        refine XO.nil ?_
        exact ⟨kf267, Nat.lt_succ_self _, w64 ((w64 (x268 + 1)) + (w64 (bt a1 x268))), rfl, rfl, rfl, hB, h⟩
    ·rw [if_neg c296] at h
     refine X.condF (congrArg Value.bool ((Bool.eq_false_iff.2 c296))) ?_
     refine X.exit rfl ?_
     refine hM180 _ _ ?_
     refine X.seq fun M349 hM350 => ?_
     refine X.region ?_
     refine XO.do rfl (D.asn (v := S []) rfl rfl ?_)
     refine XO.do rfl (D.asn (v := .int .i64 (-1)) rfl rfl ?_)
     refine XO.nil ?_
     refine hM350 _ _ ?_
     refine X.ret ?_
     injection h with h
     subst h
     exact hR _ _ _ (ret2 (v := S []) (v' := .int .i64 (-1)) rfl rfl rfl) ⟨rfl, ext_of_below hB⟩
theorem derrickref03_labels.ok (a1 : Str) (a2 : Int)  (w : World)  (hp : derrickref03_labels.pre a1 a2) :
  Ret Try.prog 68 ([S a1, .int .i64 a2] : List Value).toArray w fun v w' => v = .tuple #[S ((derrickref03_labels a1 a2).1), .int .i64 ((derrickref03_labels a1 a2).2)] ∧ Ext w w' := by
 obtain ⟨kf, h⟩ := derrickref03_labels.eq a1 a2 hp
 exact derrickref03_labels.walk kf a1 a2  w  _ h
theorem derrickref04_texts.walk (kf : Nat) (a1 : Str)  (w : World)  (res : Bool) (h : derrickref04_texts.f kf a1 = some res) :
  Ret Try.prog 72 ([S a1] : List Value).toArray w fun v w' => v = .bool res ∧ Ext w w' := by
 unfold derrickref04_texts.f at h
 refine enterX Try.func72 rfl Try.ntmps72 rfl (fun R hR => ?_)
 have hB := Below.refl w.heap.size w
 refine X.seq fun M2 hM3 => ?_
 refine X.region ?_
 refine XO.do rfl (D.asn (v := .bool false) rfl rfl ?_)
 refine XO.nil ?_
 refine hM3 _ _ ?_
 refine X.seq fun M9 hM10 => ?_
 refine X.seq fun M11 hM12 => ?_
 refine X.region ?_
 refine XO.do rfl (D.mv (v := S a1) rfl rfl ?_)
 refine XO.do rfl (D.eqlS rfl rfl rfl ?_)
 refine XO.nil ?_
 refine hM12 _ _ ?_
 by_cases c13 : a1 = ([] : Str)
 ·rw [if_pos c13] at h
  refine X.condT (congrArg Value.bool (beq_iff_eq.2 c13)) ?_
  refine X.seq fun M14 hM15 => ?_
  refine X.region ?_
  refine XO.do rfl (D.asn (v := .bool false) rfl rfl ?_)
  refine XO.nil ?_
  refine hM15 _ _ ?_
  refine X.ret ?_
  injection h with h
  subst h
  exact hR _ _ _ (ret1 (v := .bool false) rfl rfl) ⟨rfl, ext_of_below hB⟩
 ·rw [if_neg c13] at h
  refine X.condF (congrArg Value.bool (beq_eq_false_iff_ne.2 c13)) ?_
  refine X.skip ?_
  refine hM10 _ _ ?_
  refine X.seq fun M82 hM83 => ?_
  refine X.block ?_
  refine X.loop (fun kq151 => fun f121 w120 => ∃ x118 : Str, f121 0 = S x118 ∧ Below w.heap.size w w120 ∧ derrickref04_texts.l1 kq151 x118 = some res) kf ?_ ?_
  ·exact ⟨a1, rfl, hB, h⟩
  ·intro kq151 f121 w120 hI
   obtain ⟨x118, s122, hB, h⟩ := hI
   cases kq151 with
   | zero => exact absurd h (by rw [derrickref04_texts.l1.eq_1]; simp)
   | succ kf117 =>
    rw [derrickref04_texts.l1.eq_2] at h
    refine X.fr (d := 0) s122 ?_
    refine X.seq fun M127 hM128 => ?_
    refine X.seq fun M129 hM130 => ?_
    refine X.region ?_
    refine XO.do rfl (D.mv (v := S x118) rfl rfl ?_)
    refine XO.do rfl (D.neqS rfl rfl rfl ?_)
    refine XO.nil ?_
    refine hM130 _ _ ?_
    by_cases c131 : x118 = ([] : Str)
    ·rw [if_pos c131] at h
     refine X.condF (congrArg Value.bool ((congrArg (!·) (beq_iff_eq.2 c131)))) ?_
     refine X.exit rfl ?_
     refine hM83 _ _ ?_
     refine X.seq fun M132 hM133 => ?_
     refine X.region ?_
     refine XO.do rfl (D.asn (v := .bool true) rfl rfl ?_)
     refine XO.nil ?_
     refine hM133 _ _ ?_
     refine X.ret ?_
     injection h with h
     subst h
     exact hR _ _ _ (ret1 (v := .bool true) rfl rfl) ⟨rfl, ext_of_below hB⟩
    ·rw [if_neg c131] at h
     refine X.condT (congrArg Value.bool ((congrArg (!·) (beq_eq_false_iff_ne.2 c131)))) ?_
     refine X.skip ?_
     refine hM128 _ _ ?_
     refine X.block ?_
     refine X.seq fun M134 hM135 => ?_
     refine X.region ?_
     refine XO.do rfl (D.mv (v := S x118) rfl rfl ?_)
     rcases (Classical.em (0 < (x118.length : Int))).symm with c136 | c136
     ·rw [if_neg c136] at h; cases h
     rw [if_pos c136] at h
     refine XO.do rfl (D.indexS (i := (0 : Int)) Try.underlying9 rfl rfl (by first | decide | simp | omega) c136 rfl ?_)
     refine XO.do rfl (D.conv Try.underlying5 Try.underlying3 rfl rfl ?_)
     refine XO.do rfl (D.add rfl rfl rfl ?_)
     refine XO.do rfl (D.asn (v := .int .i64 (w64 (1 + (w64 (bt x118 0))))) rfl rfl ?_)
     refine XO.nil ?_
     refine hM135 _ _ ?_
     refine X.seq fun M142 hM143 => ?_
     refine X.seq fun M144 hM145 => ?_
     refine X.region ?_
     refine XO.do rfl (D.mv (v := .int .i64 (w64 (1 + (w64 (bt x118 0))))) rfl rfl ?_)
     refine XO.do rfl (D.mv (v := S x118) rfl rfl ?_)
     refine XO.do rfl (D.lenS Try.underlying9 rfl rfl ?_)
     refine XO.do rfl (D.gtr rfl rfl rfl ?_)
     refine XO.nil ?_
     refine hM145 _ _ ?_
     by_cases c146 : (x118.length : Int) < (w64 (1 + (w64 (bt x118 0))))
     ·rw [if_pos c146] at h
      refine X.condT (congrArg Value.bool (decide_eq_true c146)) ?_
      refine X.seq fun M147 hM148 => ?_
      refine X.region ?_
      refine XO.do rfl (D.asn (v := .bool false) rfl rfl ?_)
      refine XO.nil ?_
      refine hM148 _ _ ?_
      refine X.ret ?_
      injection h with h
      subst h
      exact hR _ _ _ (ret1 (v := .bool false) rfl rfl) ⟨rfl, ext_of_below hB⟩
     ·rw [if_neg c146] at h
      refine X.condF (congrArg Value.bool (decide_eq_false c146)) ?_
      refine X.skip ?_
      refine hM143 _ _ ?_
      refine X.region ?_
      refine XO.do rfl (D.mv (v := S x118) rfl rfl ?_)
      refine XO.do rfl (D.mv (v := .int .i64 (w64 (1 + (w64 (bt x118 0))))) rfl rfl ?_)
      rcases (Classical.em (0 ≤ w64 (1 + (w64 (bt x118 0))))).symm with c149 | c149
      ·rw [if_neg c149] at h; cases h
      rw [if_pos c149] at h
      rcases (Classical.em (w64 (1 + (w64 (bt x118 0))) ≤ (x118.length : Int))).symm with c150 | c150
      ·rw [if_neg c150] at h; cases h
      rw [if_pos c150] at h
      refine XO.do rfl (D.sliceSlo (i := w64 (1 + (w64 (bt x118 0)))) Try.underlying9 rfl rfl c149 c150 rfl ?_)
      refine XO.do rfl (D.asn (v := S (x118.drop (w64 (1 + (w64 (bt x118 0)))).toNat)) rfl rfl ?_)
      refine XO.nil ?_
      exact ⟨kf117, Nat.lt_succ_self _, x118.drop (w64 (1 + (w64 (bt x118 0)))).toNat, rfl, hB, h⟩
theorem derrickref04_texts.ok (a1 : Str)  (w : World)  (hp : derrickref04_texts.pre a1) :
  Ret Try.prog 72 ([S a1] : List Value).toArray w fun v w' => v = .bool (derrickref04_texts a1) ∧ Ext w w' := by
 obtain ⟨kf, h⟩ := derrickref04_texts.eq a1 hp
 exact derrickref04_texts.walk kf a1  w  _ h
end Go.Proofs.Ytfcaekghpkpjdaa.K

/- Walks, printed by a program of this session. -/
namespace Go.Proofs.Ytfcaekghpkpjdaa.K
open Go Go.RowKit Go.Proofs
set_option linter.unusedVariables false
set_option maxRecDepth 100000
set_option maxHeartbeats 4000000
namespace FRb
theorem ti39 : TI Try.prog 39 (.agg #[S [], .slice none 0 0]) 2 40 := by unfold TI; kernel_rfl
theorem ag39 : Agg Try.prog 39 2 := agg Try.underlying39 rfl ti39
theorem ti9 : TI Try.prog 9 (S []) 1 16 := by unfold TI; kernel_rfl
theorem ti37 : TI Try.prog 37 (.slice none 0 0) 1 24 := by unfold TI; kernel_rfl
theorem bld39 : BuildIs Try.prog 39 #[(0, 1), (1, 1)] (Value.cells (.agg #[S [], .slice none 0 0])) := buildIs Try.underlying39 ti39 (fun w => by simp [ti37.size, ti9.size])
theorem cf34 : Callable Try.prog 34 := callable Try.func34 (by kernel_rfl) rfl
theorem cf65 : Callable Try.prog 65 := callable Try.func65 (by kernel_rfl) rfl
theorem cf82 : Callable Try.prog 82 := callable Try.func82 (by kernel_rfl) rfl
theorem fa39_0 : FA Try.prog 39 0 0 := fa Try.underlying39 rfl ti9 rfl rfl
theorem fa39_1 : FA Try.prog 39 1 1 := fa Try.underlying39 rfl ti37 rfl rfl
theorem mixed0 : Try.prog.follows .mixedOrders = true := by kernel_rfl
theorem sc37 : Sca Try.prog 37 := sca Try.underlying37 rfl
theorem sc9 : Sca Try.prog 9 := sca Try.underlying9 rfl
theorem sz39 : ∀ w, (sizeOf 39).run Try.prog w = .ok 2 w := fun w => ti39.size w
theorem ti5 : TI Try.prog 5 (.int .u8 0) 1 1 := by unfold TI; kernel_rfl
end FRb
open FRb
theorem derrickref01_Put32.walk (a1 : Int)  (w : World)  (res : Str) (h : derrickref01_Put32.f a1 = some res) :
  Ret Try.prog 39 ([.int .u32 a1] : List Value).toArray w fun v w' => v = S res ∧ Ext w w' := by
 unfold derrickref01_Put32.f at h
 refine enterX Try.func39 rfl Try.ntmps39 rfl (fun R hR => ?_)
 have hB := Below.refl w.heap.size w
 refine X.seq fun M2 hM3 => ?_
 refine X.region ?_
 refine XO.do rfl (D.asn (v := S []) rfl rfl ?_)
 refine XO.nil ?_
 refine hM3 _ _ ?_
 refine X.seq fun M4 hM5 => ?_
 refine X.region ?_
 refine XO.do rfl (D.mv (v := .int .u32 a1) rfl rfl ?_)
 refine XO.do rfl (D.quo rfl rfl (by decide) rfl ?_)
 refine XO.do rfl (D.conv Try.underlying23 Try.underlying22 rfl rfl ?_)
 obtain ⟨r9, q10, h⟩ := lt_elim h
 have hc8 := derrickref01_Put16.ok (w16 (w32 (Int.tdiv a1 65536))) w 
 rw [q10] at hc8
 clear q10
 refine XO.do rfl (D.call (vs := [.int .u16 (w16 (w32 (Int.tdiv a1 65536)))]) cf34 hc8 rfl rfl ?_)
 rintro _ w6 ⟨rfl, e7⟩
 clear hc8
 replace hB := below_ext hB e7
 clear e7
 refine XO.do rfl (D.mv (v := .int .u32 a1) rfl rfl ?_)
 refine XO.do rfl (D.rem rfl rfl (by decide) rfl ?_)
 refine XO.do rfl (D.conv Try.underlying23 Try.underlying22 rfl rfl ?_)
 obtain ⟨r14, q15, h⟩ := lt_elim h
 have hc13 := derrickref01_Put16.ok (w16 (Int.tmod a1 65536)) w6 
 rw [q15] at hc13
 clear q15
 refine XO.do rfl (D.call (vs := [.int .u16 (w16 (Int.tmod a1 65536))]) cf34 hc13 rfl rfl ?_)
 rintro _ w11 ⟨rfl, e12⟩
 clear hc13
 replace hB := below_ext hB e12
 clear e12
 rcases (Classical.em (r9.length + r14.length ≤ 9223372036854775807)).symm with c16 | c16
 ·rw [if_neg c16] at h; cases h
 rw [if_pos c16] at h
 refine XO.do rfl (D.addS rfl rfl c16 rfl ?_)
 refine XO.do rfl (D.asn (v := S (r9 ++ r14)) rfl rfl ?_)
 refine XO.nil ?_
 refine hM5 _ _ ?_
 refine X.ret ?_
 injection h with h
 subst h
 exact hR _ _ _ (ret1 (v := S (r9 ++ r14)) rfl rfl) ⟨rfl, ext_of_below hB⟩
theorem derrickref01_Put32.ok (a1 : Int)  (w : World)  (hp : derrickref01_Put32.pre a1) :
  Ret Try.prog 39 ([.int .u32 a1] : List Value).toArray w fun v w' => v = S (derrickref01_Put32 a1) ∧ Ext w w' := by
 have h := derrickref01_Put32.eq a1 hp
 exact derrickref01_Put32.walk  a1  w  _ h
theorem derrickref01_U16.walk (a1 : Str) (a2 : Int)  (w : World)  (res : Int × Int × Int) (h : derrickref01_U16.f a1 a2 = some res) :
  Ret Try.prog 48 ([S a1, .int .i64 a2] : List Value).toArray w fun v w' => v = .tuple #[.int .u16 res.1, .int .i64 res.2.1, .int .i64 res.2.2] ∧ Ext w w' := by
 unfold derrickref01_U16.f at h
 refine enterX Try.func48 rfl Try.ntmps48 rfl (fun R hR => ?_)
 have hB := Below.refl w.heap.size w
 refine X.seq fun M3 hM4 => ?_
 refine X.region ?_
 refine XO.do rfl (D.asn (v := .int .u16 0) rfl rfl ?_)
 refine XO.do rfl (D.asn (v := .int .i64 0) rfl rfl ?_)
 refine XO.do rfl (D.asn (v := .int .i64 0) rfl rfl ?_)
 refine XO.nil ?_
 refine hM4 _ _ ?_
 refine X.seq fun M15 hM16 => ?_
 refine X.seq fun M17 hM18 => ?_
 refine X.region ?_
 refine XO.do rfl (D.mv (v := S a1) rfl rfl ?_)
 refine XO.do rfl (D.mv (v := .int .i64 a2) rfl rfl ?_)
 obtain ⟨r22, q23, h⟩ := lt_elim h
 have hc21 := derrickref01_there.ok a1 a2 2 w 
 rw [q23] at hc21
 clear q23
 refine XO.do rfl (D.call (vs := [S a1, .int .i64 a2, .int .i64 2]) cf65 hc21 rfl rfl ?_)
 rintro _ w19 ⟨rfl, e20⟩
 clear hc21
 replace hB := below_ext hB e20
 clear e20
 refine XO.do rfl (D.not r22 rfl rfl ?_)
 refine XO.nil ?_
 refine hM18 _ _ ?_
 by_cases c24 : r22 = true
 ·rw [if_pos c24] at h
  refine X.condF (congrArg Value.bool ((congrArg (!·) (c24)))) ?_
  refine X.skip ?_
  refine hM16 _ _ ?_
  refine X.seq fun M25 hM26 => ?_
  refine X.tree mixed0 [0, 0, 3, 7, 15, 0, 0, 64, 224, 480, 1023, 0, 2048, 2047, 16383, 32767] (.q 0 (.q 1 (.q 2 (.q 3 (.q 4 (.q 5 (.q 6 (.q 7 (.q 8 (.q 9 (.q 10 (.q 11 (.q 12 (.q 13 (.q 14 (.q 15 .nil)))))))))))))))) (fun w' => Below w.heap.size w w') (fun w' => Below w.heap.size w w') (by decide +kernel) (fun w' hx _ => below_ext hB hx) (fun a b hC hx => by have hB := hC; exact below_ext hB hx) (fun a hC => by have hB := hC; exact hB) ?_
  refine QT.do (v := S a1) rfl (by decide +kernel) rfl rfl rfl (fun w' hJ => by have hB := hJ; exact D.mv (v := S a1) rfl rfl ⟨rfl, Ext.refl _⟩) ?_
  refine QT.do (v := .int .i64 a2) rfl (by decide +kernel) rfl rfl rfl (fun w' hJ => by have hB := hJ; exact D.mv (v := .int .i64 a2) rfl rfl ⟨rfl, Ext.refl _⟩) ?_
  rcases (Classical.em (0 ≤ a2)).symm with c27 | c27
  ·rw [if_neg c27] at h; cases h
  rw [if_pos c27] at h
  rcases (Classical.em (a2 < (a1.length : Int))).symm with c28 | c28
  ·rw [if_neg c28] at h; cases h
  rw [if_pos c28] at h
  refine QT.do (v := .int .u8 (bt a1 a2)) rfl (by decide +kernel) rfl rfl rfl (fun w' hJ => by have hB := hJ; exact D.indexS (i := a2) Try.underlying9 rfl rfl c27 c28 rfl ⟨rfl, Ext.refl _⟩) ?_
  refine QT.do (v := .int .u16 (w16 (bt a1 a2))) rfl (by decide +kernel) rfl rfl rfl (fun w' hJ => by have hB := hJ; exact D.conv Try.underlying5 Try.underlying22 rfl rfl ⟨rfl, Ext.refl _⟩) ?_
  refine QT.do (v := .int .u16 (w16 (256 * (w16 (bt a1 a2))))) rfl (by decide +kernel) rfl rfl rfl (fun w' hJ => by have hB := hJ; exact D.mul rfl rfl rfl ⟨rfl, Ext.refl _⟩) ?_
  refine QT.do (v := S a1) rfl (by decide +kernel) rfl rfl rfl (fun w' hJ => by have hB := hJ; exact D.mv (v := S a1) rfl rfl ⟨rfl, Ext.refl _⟩) ?_
  refine QT.do (v := .int .i64 a2) rfl (by decide +kernel) rfl rfl rfl (fun w' hJ => by have hB := hJ; exact D.mv (v := .int .i64 a2) rfl rfl ⟨rfl, Ext.refl _⟩) ?_
  refine QT.do (v := .int .i64 (w64 (a2 + 1))) rfl (by decide +kernel) rfl rfl rfl (fun w' hJ => by have hB := hJ; exact D.add rfl rfl rfl ⟨rfl, Ext.refl _⟩) ?_
  rcases (Classical.em (0 ≤ w64 (a2 + 1))).symm with c29 | c29
  ·rw [if_neg c29] at h; cases h
  rw [if_pos c29] at h
  rcases (Classical.em (w64 (a2 + 1) < (a1.length : Int))).symm with c30 | c30
  ·rw [if_neg c30] at h; cases h
  rw [if_pos c30] at h
  refine QT.do (v := .int .u8 (bt a1 (w64 (a2 + 1)))) rfl (by decide +kernel) rfl rfl rfl (fun w' hJ => by have hB := hJ; exact D.indexS (i := w64 (a2 + 1)) Try.underlying9 rfl rfl c29 c30 rfl ⟨rfl, Ext.refl _⟩) ?_
  refine QT.do (v := .int .u16 (w16 (bt a1 (w64 (a2 + 1))))) rfl (by decide +kernel) rfl rfl rfl (fun w' hJ => by have hB := hJ; exact D.conv Try.underlying5 Try.underlying22 rfl rfl ⟨rfl, Ext.refl _⟩) ?_
  refine QT.do (v := .int .u16 (w16 ((w16 (256 * (w16 (bt a1 a2)))) + (w16 (bt a1 (w64 (a2 + 1))))))) rfl (by decide +kernel) rfl rfl rfl (fun w' hJ => by have hB := hJ; exact D.add rfl rfl rfl ⟨rfl, Ext.refl _⟩) ?_
  refine QT.do (v := .int .i64 a2) rfl (by decide +kernel) rfl rfl rfl (fun w' hJ => by have hB := hJ; exact D.mv (v := .int .i64 a2) rfl rfl ⟨rfl, Ext.refl _⟩) ?_
  refine QT.do (v := .int .i64 (w64 (a2 + 2))) rfl (by decide +kernel) rfl rfl rfl (fun w' hJ => by have hB := hJ; exact D.add rfl rfl rfl ⟨rfl, Ext.refl _⟩) ?_
  refine QT.do (v := .int .u16 (w16 ((w16 (256 * (w16 (bt a1 a2)))) + (w16 (bt a1 (w64 (a2 + 1))))))) rfl (by decide +kernel) rfl rfl rfl (fun w' hJ => by have hB := hJ; exact D.asn (v := .int .u16 (w16 ((w16 (256 * (w16 (bt a1 a2)))) + (w16 (bt a1 (w64 (a2 + 1))))))) rfl rfl ⟨rfl, Ext.refl _⟩) ?_
  refine QT.do (v := .int .i64 (w64 (a2 + 2))) rfl (by decide +kernel) rfl rfl rfl (fun w' hJ => by have hB := hJ; exact D.asn (v := .int .i64 (w64 (a2 + 2))) rfl rfl ⟨rfl, Ext.refl _⟩) ?_
  refine QT.do (v := .int .i64 0) rfl (by decide +kernel) rfl rfl rfl (fun w' hJ => by have hB := hJ; exact D.asn (v := .int .i64 0) rfl rfl ⟨rfl, Ext.refl _⟩) ?_
  refine QT.nil fun w31 hC => ?_
  have hB := hC
  refine hM26 _ _ ?_
  refine X.ret ?_
  injection h with h
  subst h
  exact hR _ _ _ (ret3 (v := .int .u16 (w16 ((w16 (256 * (w16 (bt a1 a2)))) + (w16 (bt a1 (w64 (a2 + 1))))))) (v' := .int .i64 (w64 (a2 + 2))) (v'' := .int .i64 0) rfl rfl rfl rfl) ⟨rfl, ext_of_below hB⟩
 ·rw [if_neg c24] at h
  refine X.condT (congrArg Value.bool ((congrArg (!·) ((Bool.eq_false_iff.2 c24))))) ?_
  refine X.seq fun M32 hM33 => ?_
  refine X.region ?_
  refine XO.do rfl (D.asn (v := .int .u16 0) rfl rfl ?_)
  refine XO.do rfl (D.asn (v := .int .i64 0) rfl rfl ?_)
  refine XO.do rfl (D.asn (v := .int .i64 2) rfl rfl ?_)
  refine XO.nil ?_
  refine hM33 _ _ ?_
  refine X.ret ?_
  injection h with h
  subst h
  exact hR _ _ _ (ret3 (v := .int .u16 0) (v' := .int .i64 0) (v'' := .int .i64 2) rfl rfl rfl rfl) ⟨rfl, ext_of_below hB⟩
theorem derrickref01_U16.ok (a1 : Str) (a2 : Int)  (w : World)  (hp : derrickref01_U16.pre a1 a2) :
  Ret Try.prog 48 ([S a1, .int .i64 a2] : List Value).toArray w fun v w' => v = .tuple #[.int .u16 ((derrickref01_U16 a1 a2).1), .int .i64 ((derrickref01_U16 a1 a2).2.1), .int .i64 ((derrickref01_U16 a1 a2).2.2)] ∧ Ext w w' := by
 have h := derrickref01_U16.eq a1 a2 hp
 exact derrickref01_U16.walk  a1 a2  w  _ h
theorem derrickref01_Some.walk (kf : Nat) (a1 : Str) (a2 : Int) (a3 : Int)  (w : World)  (res : Str × Int × Int) (h : derrickref01_Some.f kf a1 a2 a3 = some res) :
  Ret Try.prog 66 ([S a1, .int .i64 a2, .int .i64 a3] : List Value).toArray w fun v w' => v = .tuple #[S res.1, .int .i64 res.2.1, .int .i64 res.2.2] ∧ Ext w w' := by
 unfold derrickref01_Some.f at h
 refine enterX Try.func66 rfl Try.ntmps66 rfl (fun R hR => ?_)
 have hB := Below.refl w.heap.size w
 refine X.seq fun M4 hM5 => ?_
 refine X.region ?_
 refine XO.do rfl (D.asn (v := S []) rfl rfl ?_)
 refine XO.do rfl (D.asn (v := .int .i64 0) rfl rfl ?_)
 refine XO.do rfl (D.asn (v := .int .i64 0) rfl rfl ?_)
 refine XO.nil ?_
 refine hM5 _ _ ?_
 refine X.seq fun M17 hM18 => ?_
 refine X.seq fun M19 hM20 => ?_
 refine X.region ?_
 refine XO.do rfl (D.mv (v := S a1) rfl rfl ?_)
 refine XO.do rfl (D.mv (v := .int .i64 a2) rfl rfl ?_)
 refine XO.do rfl (D.mv (v := .int .i64 a3) rfl rfl ?_)
 obtain ⟨r24, q25, h⟩ := lt_elim h
 have hc23 := derrickref01_there.ok a1 a2 a3 w 
 rw [q25] at hc23
 clear q25
 refine XO.do rfl (D.call (vs := [S a1, .int .i64 a2, .int .i64 a3]) cf65 hc23 rfl rfl ?_)
 rintro _ w21 ⟨rfl, e22⟩
 clear hc23
 replace hB := below_ext hB e22
 clear e22
 refine XO.do rfl (D.not r24 rfl rfl ?_)
 refine XO.nil ?_
 refine hM20 _ _ ?_
 by_cases c26 : r24 = true
 ·rw [if_pos c26] at h
  refine X.condF (congrArg Value.bool ((congrArg (!·) (c26)))) ?_
  refine X.skip ?_
  refine hM18 _ _ ?_
  refine X.seq fun M27 hM28 => ?_
  refine X.region ?_
  refine XO.do rfl (D.asn (v := .slice none 0 0) rfl rfl ?_)
  refine XO.nil ?_
  refine hM28 _ _ ?_
  refine X.seq fun M216 hM217 => ?_
  refine X.seq fun M218 hM219 => ?_
  refine X.region ?_
  refine XO.do rfl (D.asn (v := .int .i64 0) rfl rfl ?_)
  refine XO.nil ?_
  refine hM219 _ _ ?_
  refine X.block ?_
  have H352 : Own (eInt .u8) 5 w21 w21.heap.size none 0 [] := Own.nil _ _ _ _
  have bs353 : w21.heap.size ≤ w21.heap.size := Nat.le_refl _
  have hB353 : w.heap.size ≤ w21.heap.size := hB.size
  refine X.loop (fun kq405 => fun f356 w355 => ∃ A345 : Option Addr, ∃ k346 : Nat, ∃ l347 : List Int, ∃ B348 : Nat, ∃ x351 : Int, f356 0 = S a1 ∧ f356 1 = .int .i64 a2 ∧ f356 2 = .int .i64 a3 ∧ f356 9 = .slice A345 l347.length k346 ∧ f356 10 = .int .i64 x351 ∧ Below w.heap.size w w355 ∧ Own (eInt .u8) 5 w355 B348 A345 k346 l347 ∧ B348 ≤ w355.heap.size ∧ w.heap.size ≤ B348 ∧ derrickref01_Some.l1 a3 a2 a1 kq405 l347 x351 = some res) kf ?_ ?_
  ·exact ⟨none, 0, ([] : List Int), w21.heap.size, 0, rfl, rfl, rfl, rfl, rfl, hB, H352, bs353, hB353, h⟩
  ·intro kq405 f356 w355 hI
   obtain ⟨A345, k346, l347, B348, x351, s357, s358, s359, s360, s361, hB, H349, bs350, hg350, h⟩ := hI
   cases kq405 with
   | zero => exact absurd h (by rw [derrickref01_Some.l1.eq_1]; simp)
   | succ kf344 =>
    rw [derrickref01_Some.l1.eq_2] at h
    refine X.fr (d := 0) s357 ?_
    refine X.fr (d := 1) s358 ?_
    refine X.fr (d := 2) s359 ?_
    refine X.fr (d := 9) s360 ?_
    refine X.fr (d := 10) s361 ?_
    refine X.seq fun M366 hM367 => ?_
    refine X.seq fun M368 hM369 => ?_
    refine X.region ?_
    refine XO.do rfl (D.mv (v := .int .i64 x351) rfl rfl ?_)
    refine XO.do rfl (D.mv (v := .int .i64 a3) rfl rfl ?_)
    refine XO.do rfl (D.lss rfl rfl rfl ?_)
    refine XO.nil ?_
    refine hM369 _ _ ?_
    by_cases c370 : x351 < a3
    ·rw [if_pos c370] at h
     refine X.condT (congrArg Value.bool (decide_eq_true c370)) ?_
     refine X.skip ?_
     refine hM367 _ _ ?_
     refine X.seq fun M386 hM387 => ?_
     refine X.block ?_
     refine X.region ?_
     refine XO.do rfl (D.mv (v := .slice A345 l347.length k346) rfl rfl ?_)
     refine XO.do rfl (D.mv (v := S a1) rfl rfl ?_)
     refine XO.do rfl (D.mv (v := .int .i64 a2) rfl rfl ?_)
     refine XO.do rfl (D.mv (v := .int .i64 x351) rfl rfl ?_)
     refine XO.do rfl (D.add rfl rfl rfl ?_)
     rcases (Classical.em (0 ≤ w64 (a2 + x351))).symm with c388 | c388
     ·rw [if_neg c388] at h; cases h
     rw [if_pos c388] at h
     rcases (Classical.em (w64 (a2 + x351) < (a1.length : Int))).symm with c389 | c389
     ·rw [if_neg c389] at h; cases h
     rw [if_pos c389] at h
     refine XO.do rfl (D.indexS (i := w64 (a2 + x351)) Try.underlying9 rfl rfl c388 c389 rfl ?_)
     refine XO.do rfl (D.buildR (vs := [.int .u8 (bt a1 (w64 (a2 + x351)))]) (cs := [.int .u8 (bt a1 (w64 (a2 + x351)))]) Try.underlying62 ti5 rfl rfl rfl rfl rfl rfl rfl ?_)
     intro b390 w391 hb392 H393 e394 zb390
     have H393o : Own (eInt .u8) 5 w391 b390 (some ⟨b390, 0, none⟩) 1 ([bt a1 (w64 (a2 + x351))] : List Int) := Blk.own (E := (eInt .u8)) (show Blk _ _ (flat (eInt .u8) [bt a1 (w64 (a2 + x351))]) _ from H393) (Nat.le_refl _) (by simp)
     have ne_350_395 : ∀ x y, MO A345 x → MO (some ⟨b390, 0, none⟩) y → x ≠ y := ne_of (MO.lt H349 (Nat.le_of_eq hb392.symm)) (MO.ge H393o)
     have g395 : w.heap.size ≤ b390 := Nat.le_trans hB.size (Nat.le_of_eq hb392.symm)
     clear hb392 H393
     have bs395 : b390 ≤ w391.heap.size := Nat.le_of_lt zb390
     replace hB := below_ext hB e394
     replace H349 := H349.ext e394
     replace bs350 := Nat.le_trans bs350 (World.grownBy.size e394)
     clear e394
     rcases (Classical.em ((l347.length + 1) * 1 ≤ 140737488355328)).symm with c396 | c396
     ·rw [if_neg c396] at h; cases h
     rw [if_pos c396] at h
     refine XO.do rfl (D.append (xs := l347) (ys := [bt a1 (w64 (a2 + x351))]) (m := 1) Try.underlying62 ti5 rfl H349 H393o.row bs350 (by first | omega | (simp at *; omega)) (by first | exact c396 | omega | (simp at *; omega)) rfl rfl rfl rfl ?_)
     intro A397 k398 w399 H400 e401 ha402
     have ne_350_395n := ne_app ha402 ne_350_395 (MO.lt H393o (Nat.le_refl _))
     replace hB := below_own hB e401 (fun x hx => Nat.le_trans hg350 (MO.ge H349 x hx))
     replace H393o := H393o.gr e401 (sepO (ne_flip ne_350_395))
     replace bs395 := Nat.le_trans bs395 (World.grownBy.size e401)
     replace bs350 := Nat.le_trans bs350 (World.grownBy.size e401)
     replace ne_350_395 := ne_350_395n
     clear e401 ha402 H349
     refine XO.do rfl (D.asn (v := .slice A397 (l347 ++ [bt a1 (w64 (a2 + x351))]).length k398) rfl rfl ?_)
     refine XO.nil ?_
     refine hM387 _ _ ?_
     refine X.region ?_
     refine XO.do rfl (D.mv (v := .int .i64 x351) rfl rfl ?_)
     refine XO.do rfl (D.add rfl rfl rfl ?_)
     refine XO.do rfl (D.asn (v := .int .i64 (w64 (x351 + 1))) rfl rfl ?_)
     refine XO.nil ?_
     exact ⟨kf344, Nat.lt_succ_self _, A397, k398, l347 ++ [bt a1 (w64 (a2 + x351))], B348, w64 (x351 + 1), rfl, rfl, rfl, rfl, rfl, hB, H400, bs350, hg350, h⟩
    ·rw [if_neg c370] at h
     refine X.condF (congrArg Value.bool (decide_eq_false c370)) ?_
     refine X.exit rfl ?_
     refine hM217 _ _ ?_
     refine X.seq fun M403 hM404 => ?_
     refine X.region ?_
     refine XO.do rfl (D.mv (v := .slice A345 l347.length k346) rfl rfl ?_)
     refine XO.do rfl (D.strOf (m := 0) Try.underlying62 Try.underlying5 Try.underlying9 H349.row rfl rfl ?_)
     refine XO.do rfl (D.mv (v := .int .i64 a2) rfl rfl ?_)
     refine XO.do rfl (D.mv (v := .int .i64 a3) rfl rfl ?_)
     refine XO.do rfl (D.add rfl rfl rfl ?_)
     refine XO.do rfl (D.asn (v := S (strOf l347)) rfl rfl ?_)
     refine XO.do rfl (D.asn (v := .int .i64 (w64 (a2 + a3))) rfl rfl ?_)
     refine XO.do rfl (D.asn (v := .int .i64 0) rfl rfl ?_)
     refine XO.nil ?_
     refine hM404 _ _ ?_
     refine X.ret ?_
     injection h with h
     subst h
     exact hR _ _ _ (ret3 (v := S (strOf l347)) (v' := .int .i64 (w64 (a2 + a3))) (v'' := .int .i64 0) rfl rfl rfl rfl) ⟨rfl, ext_of_below hB⟩
 ·rw [if_neg c26] at h
  refine X.condT (congrArg Value.bool ((congrArg (!·) ((Bool.eq_false_iff.2 c26))))) ?_
  refine X.seq fun M406 hM407 => ?_
  refine X.region ?_
  refine XO.do rfl (D.asn (v := S []) rfl rfl ?_)
  refine XO.do rfl (D.asn (v := .int .i64 0) rfl rfl ?_)
  refine XO.do rfl (D.asn (v := .int .i64 2) rfl rfl ?_)
  refine XO.nil ?_
  refine hM407 _ _ ?_
  refine X.ret ?_
  injection h with h
  subst h
  exact hR _ _ _ (ret3 (v := S []) (v' := .int .i64 0) (v'' := .int .i64 2) rfl rfl rfl rfl) ⟨rfl, ext_of_below hB⟩
theorem derrickref01_Some.ok (a1 : Str) (a2 : Int) (a3 : Int)  (w : World)  (hp : derrickref01_Some.pre a1 a2 a3) :
  Ret Try.prog 66 ([S a1, .int .i64 a2, .int .i64 a3] : List Value).toArray w fun v w' => v = .tuple #[S ((derrickref01_Some a1 a2 a3).1), .int .i64 ((derrickref01_Some a1 a2 a3).2.1), .int .i64 ((derrickref01_Some a1 a2 a3).2.2)] ∧ Ext w w' := by
 obtain ⟨kf, h⟩ := derrickref01_Some.eq a1 a2 a3 hp
 exact derrickref01_Some.walk kf a1 a2 a3  w  _ h
theorem derrickref02_Fold.walk (kf : Nat) (a1 : Str)  (w : World)  (res : Str) (h : derrickref02_Fold.f kf a1 = some res) :
  Ret Try.prog 70 ([S a1] : List Value).toArray w fun v w' => v = S res ∧ Ext w w' := by
 unfold derrickref02_Fold.f at h
 refine enterX Try.func70 rfl Try.ntmps70 rfl (fun R hR => ?_)
 have hB := Below.refl w.heap.size w
 refine X.seq fun M2 hM3 => ?_
 refine X.region ?_
 refine XO.do rfl (D.asn (v := S []) rfl rfl ?_)
 refine XO.nil ?_
 refine hM3 _ _ ?_
 refine X.seq fun M4 hM5 => ?_
 refine X.region ?_
 refine XO.do rfl (D.asn (v := .slice none 0 0) rfl rfl ?_)
 refine XO.nil ?_
 refine hM5 _ _ ?_
 refine X.seq fun M208 hM209 => ?_
 refine X.seq fun M210 hM211 => ?_
 refine X.region ?_
 refine XO.do rfl (D.asn (v := .int .i64 0) rfl rfl ?_)
 refine XO.nil ?_
 refine hM211 _ _ ?_
 refine X.block ?_
 have H354 : Own (eInt .u8) 5 w w.heap.size none 0 [] := Own.nil _ _ _ _
 have bs355 : w.heap.size ≤ w.heap.size := Nat.le_refl _
 have hB355 : w.heap.size ≤ w.heap.size := hB.size
 refine X.loop (fun kq413 => fun f358 w357 => ∃ A347 : Option Addr, ∃ k348 : Nat, ∃ l349 : List Int, ∃ B350 : Nat, ∃ x353 : Int, f358 0 = S a1 ∧ f358 3 = .slice A347 l349.length k348 ∧ f358 4 = .int .i64 x353 ∧ Below w.heap.size w w357 ∧ Own (eInt .u8) 5 w357 B350 A347 k348 l349 ∧ B350 ≤ w357.heap.size ∧ w.heap.size ≤ B350 ∧ derrickref02_Fold.l1 a1 kq413 l349 x353 = some res) kf ?_ ?_
 ·exact ⟨none, 0, ([] : List Int), w.heap.size, 0, rfl, rfl, rfl, hB, H354, bs355, hB355, h⟩
 ·intro kq413 f358 w357 hI
  obtain ⟨A347, k348, l349, B350, x353, s359, s360, s361, hB, H351, bs352, hg352, h⟩ := hI
  cases kq413 with
  | zero => exact absurd h (by rw [derrickref02_Fold.l1.eq_1]; simp)
  | succ kf346 =>
   rw [derrickref02_Fold.l1.eq_2] at h
   refine X.fr (d := 0) s359 ?_
   refine X.fr (d := 3) s360 ?_
   refine X.fr (d := 4) s361 ?_
   refine X.seq fun M366 hM367 => ?_
   refine X.seq fun M368 hM369 => ?_
   refine X.region ?_
   refine XO.do rfl (D.mv (v := .int .i64 x353) rfl rfl ?_)
   refine XO.do rfl (D.mv (v := S a1) rfl rfl ?_)
   refine XO.do rfl (D.lenS Try.underlying9 rfl rfl ?_)
   refine XO.do rfl (D.lss rfl rfl rfl ?_)
   refine XO.nil ?_
   refine hM369 _ _ ?_
   by_cases c370 : x353 < (a1.length : Int)
   ·rw [if_pos c370] at h
    refine X.condT (congrArg Value.bool (decide_eq_true c370)) ?_
    refine X.skip ?_
    refine hM367 _ _ ?_
    refine X.seq fun M390 hM391 => ?_
    refine X.block ?_
    refine X.region ?_
    refine XO.do rfl (D.mv (v := .slice A347 l349.length k348) rfl rfl ?_)
    refine XO.do rfl (D.mv (v := S a1) rfl rfl ?_)
    refine XO.do rfl (D.mv (v := .int .i64 x353) rfl rfl ?_)
    rcases (Classical.em (0 ≤ x353)).symm with c392 | c392
    ·rw [if_neg c392] at h; cases h
    rw [if_pos c392] at h
    refine XO.do rfl (D.indexS (i := x353) Try.underlying9 rfl rfl c392 c370 rfl ?_)
    obtain ⟨r396, q397, h⟩ := lt_elim h
    have hc395 := derrickref02_low.ok (bt a1 x353) w357 
    rw [q397] at hc395
    clear q397
    refine XO.do rfl (D.call (vs := [.int .u8 (bt a1 x353)]) cf82 hc395 rfl rfl ?_)
    rintro _ w393 ⟨rfl, e394⟩
    clear hc395
    replace hB := below_ext hB e394
    replace H351 := H351.ext e394
    replace bs352 := Nat.le_trans bs352 (World.grownBy.size e394)
    clear e394
    refine XO.do rfl (D.buildR (vs := [.int .u8 r396]) (cs := [.int .u8 r396]) Try.underlying62 ti5 rfl rfl rfl rfl rfl rfl rfl ?_)
    intro b398 w399 hb400 H401 e402 zb398
    have H401o : Own (eInt .u8) 5 w399 b398 (some ⟨b398, 0, none⟩) 1 ([r396] : List Int) := Blk.own (E := (eInt .u8)) (show Blk _ _ (flat (eInt .u8) [r396]) _ from H401) (Nat.le_refl _) (by simp)
    have ne_352_403 : ∀ x y, MO A347 x → MO (some ⟨b398, 0, none⟩) y → x ≠ y := ne_of (MO.lt H351 (Nat.le_of_eq hb400.symm)) (MO.ge H401o)
    have g403 : w.heap.size ≤ b398 := Nat.le_trans hB.size (Nat.le_of_eq hb400.symm)
    clear hb400 H401
    have bs403 : b398 ≤ w399.heap.size := Nat.le_of_lt zb398
    replace hB := below_ext hB e402
    replace H351 := H351.ext e402
    replace bs352 := Nat.le_trans bs352 (World.grownBy.size e402)
    clear e402
    rcases (Classical.em ((l349.length + 1) * 1 ≤ 140737488355328)).symm with c404 | c404
    ·rw [if_neg c404] at h; cases h
    rw [if_pos c404] at h
    refine XO.do rfl (D.append (xs := l349) (ys := [r396]) (m := 1) Try.underlying62 ti5 rfl H351 H401o.row bs352 (by first | omega | (simp at *; omega)) (by first | exact c404 | omega | (simp at *; omega)) rfl rfl rfl rfl ?_)
    intro A405 k406 w407 H408 e409 ha410
    have ne_352_403n := ne_app ha410 ne_352_403 (MO.lt H401o (Nat.le_refl _))
    replace hB := below_own hB e409 (fun x hx => Nat.le_trans hg352 (MO.ge H351 x hx))
    replace H401o := H401o.gr e409 (sepO (ne_flip ne_352_403))
    replace bs403 := Nat.le_trans bs403 (World.grownBy.size e409)
    replace bs352 := Nat.le_trans bs352 (World.grownBy.size e409)
    replace ne_352_403 := ne_352_403n
    clear e409 ha410 H351
    refine XO.do rfl (D.asn (v := .slice A405 (l349 ++ [r396]).length k406) rfl rfl ?_)
    refine XO.nil ?_
    refine hM391 _ _ ?_
    refine X.region ?_
    refine XO.do rfl (D.mv (v := .int .i64 x353) rfl rfl ?_)
    refine XO.do rfl (D.add rfl rfl rfl ?_)
    refine XO.do rfl (D.asn (v := .int .i64 (w64 (x353 + 1))) rfl rfl ?_)
    refine XO.nil ?_
    exact ⟨kf346, Nat.lt_succ_self _, A405, k406, l349 ++ [r396], B350, w64 (x353 + 1), rfl, rfl, rfl, hB, H408, bs352, hg352, h⟩
   ·rw [if_neg c370] at h
    refine X.condF (congrArg Value.bool (decide_eq_false c370)) ?_
    refine X.exit rfl ?_
    refine hM209 _ _ ?_
    refine X.seq fun M411 hM412 => ?_
    refine X.region ?_
    refine XO.do rfl (D.mv (v := .slice A347 l349.length k348) rfl rfl ?_)
    refine XO.do rfl (D.strOf (m := 0) Try.underlying62 Try.underlying5 Try.underlying9 H351.row rfl rfl ?_)
    refine XO.do rfl (D.asn (v := S (strOf l349)) rfl rfl ?_)
    refine XO.nil ?_
    refine hM412 _ _ ?_
    refine X.ret ?_
    injection h with h
    subst h
    exact hR _ _ _ (ret1 (v := S (strOf l349)) rfl rfl) ⟨rfl, ext_of_below hB⟩
theorem derrickref02_Fold.ok (a1 : Str)  (w : World)  (hp : derrickref02_Fold.pre a1) :
  Ret Try.prog 70 ([S a1] : List Value).toArray w fun v w' => v = S (derrickref02_Fold a1) ∧ Ext w w' := by
 obtain ⟨kf, h⟩ := derrickref02_Fold.eq a1 hp
 exact derrickref02_Fold.walk kf a1  w  _ h
theorem derrickref03_Add.walk (a1 : RPack) (a6 : Str) (A2 : Option Addr) (k3 : Nat) (w : World) (H4 : Row ePlace w A2 k3 a1.l) (res : RPack) (h : derrickref03_Add.f a1 a6 = some res) :
  Ret Try.prog 33 ([.agg #[S a1.s, .slice A2 a1.l.length k3], S a6] : List Value).toArray w fun v w' => ∃ (A1 : Option Addr) (k1 : Nat), v = .agg #[S res.s, .slice A1 res.l.length k1] ∧ Row ePlace w' A1 k1 res.l ∧ (∀ y, MR A1 res.l y → w.heap.size ≤ y ∨ MR A2 a1.l y) ∧ Ext w w' := by
 unfold derrickref03_Add.f at h
 refine enterX Try.func33 rfl Try.ntmps33 rfl (fun R hR => ?_)
 have hB := Below.refl w.heap.size w
 refine X.seq fun M7 hM8 => ?_
 refine X.region ?_
 refine XO.do rfl (D.box (v := .agg #[S a1.s, .slice A2 a1.l.length k3]) (cs := [S a1.s, .slice A2 a1.l.length k3]) rfl rfl rfl ?_)
 intro b9 w10 hb11 H12 e13 _
 have g14 : w.heap.size ≤ b9 := Nat.le_trans hB.size (Nat.le_of_eq hb11.symm)
 clear hb11
 replace hB := below_ext hB e13
 clear e13
 refine XO.do rfl (D.alloc ti39 (cs := [S [], .slice none 0 0]) rfl rfl ?_)
 intro b15 w17 hb18 H19 e20 _
 have lt_14_21 : ∀ x, MB b9 x → x < b15 := (MB.lt H12 (Nat.le_of_eq hb18.symm))
 have g21 : w.heap.size ≤ b15 := Nat.le_trans hB.size (Nat.le_of_eq hb18.symm)
 clear hb18
 replace hB := below_ext hB e20
 replace H12 := H12.ext e20
 clear e20
 refine XO.nil ?_
 refine hM8 _ _ ?_
 refine X.seq fun M22 hM23 => ?_
 refine X.region ?_
 refine XO.do rfl (D.fieldAddr (o' := 0) fa39_0 rfl rfl rfl ?_)
 refine XO.do rfl (D.load (j := 0) (v := S a1.s) sc9 H12.cs rfl rfl rfl rfl ?_)
 refine XO.do rfl (D.mv (v := S a6) rfl rfl ?_)
 rcases (Classical.em (a1.s.length + a6.length ≤ 9223372036854775807)).symm with c24 | c24
 ·rw [if_neg c24] at h; cases h
 rw [if_pos c24] at h
 refine XO.do rfl (D.addS rfl rfl c24 rfl ?_)
 refine XO.do rfl (D.fieldAddr (o' := 1) fa39_1 rfl rfl rfl ?_)
 refine XO.do rfl (D.load (j := 1) (v := .slice A2 a1.l.length k3) sc37 H12.cs rfl rfl rfl rfl ?_)
 refine XO.do rfl (D.build (vs := [(0, S (a1.s ++ a6)), (1, .slice A2 a1.l.length k3)]) (cs := [S (a1.s ++ a6), .slice A2 a1.l.length k3]) bld39 rfl rfl rfl ?_)
 refine XO.do rfl (D.store (v := .agg #[S (a1.s ++ a6), .slice A2 a1.l.length k3]) (us := [S (a1.s ++ a6), .slice A2 a1.l.length k3]) sz39 H19 rfl rfl rfl rfl rfl rfl ?_)
 intro w25 H26 e27
 replace hB := below_blk hB e27 g21
 replace H12 := H12.gr e27 (sepB (ne_of lt_14_21 (MB.ge b15)))
 clear e27
 refine XO.nil ?_
 refine hM23 _ _ ?_
 refine X.ret ?_
 injection h with h
 subst h
 exact hR _ _ _ (retC ag39 H26 rfl rfl rfl) ⟨A2, k3, rfl, (H4.below hB), (fun y hy => (.inr hy)), ext_of_below hB⟩
theorem derrickref03_Add.ok (a1 : RPack) (a6 : Str) (A2 : Option Addr) (k3 : Nat) (w : World) (H4 : Row ePlace w A2 k3 a1.l) (hp : derrickref03_Add.pre a1 a6) :
  Ret Try.prog 33 ([.agg #[S a1.s, .slice A2 a1.l.length k3], S a6] : List Value).toArray w fun v w' => ∃ (A1 : Option Addr) (k1 : Nat), v = .agg #[S ((derrickref03_Add a1 a6).s), .slice A1 ((derrickref03_Add a1 a6).l).length k1] ∧ Row ePlace w' A1 k1 ((derrickref03_Add a1 a6).l) ∧ (∀ y, MR A1 ((derrickref03_Add a1 a6).l) y → w.heap.size ≤ y ∨ MR A2 a1.l y) ∧ Ext w w' := by
 have h := derrickref03_Add.eq a1 a6 hp
 exact derrickref03_Add.walk  a1 a6 A2 k3 w H4 _ h
end Go.Proofs.Ytfcaekghpkpjdaa.K

/- Walks, printed by a program of this session. -/
namespace Go.Proofs.Ytfcaekghpkpjdaa.K
open Go Go.RowKit Go.Proofs
set_option linter.unusedVariables false
set_option maxRecDepth 100000
set_option maxHeartbeats 4000000
namespace FRc
theorem cf48 : Callable Try.prog 48 := callable Try.func48 (by kernel_rfl) rfl
theorem cf65 : Callable Try.prog 65 := callable Try.func65 (by kernel_rfl) rfl
theorem cf68 : Callable Try.prog 68 := callable Try.func68 (by kernel_rfl) rfl
theorem cf69 : Callable Try.prog 69 := callable Try.func69 (by kernel_rfl) rfl
theorem cf70 : Callable Try.prog 70 := callable Try.func70 (by kernel_rfl) rfl
theorem cf71 : Callable Try.prog 71 := callable Try.func71 (by kernel_rfl) rfl
end FRc
open FRc
theorem derrickref01_U32.walk (a1 : Str) (a2 : Int)  (w : World)  (res : Int × Int × Int) (h : derrickref01_U32.f a1 a2 = some res) :
  Ret Try.prog 47 ([S a1, .int .i64 a2] : List Value).toArray w fun v w' => v = .tuple #[.int .u32 res.1, .int .i64 res.2.1, .int .i64 res.2.2] ∧ Ext w w' := by
 unfold derrickref01_U32.f at h
 refine enterX Try.func47 rfl Try.ntmps47 rfl (fun R hR => ?_)
 have hB := Below.refl w.heap.size w
 refine X.seq fun M3 hM4 => ?_
 refine X.region ?_
 refine XO.do rfl (D.asn (v := .int .u32 0) rfl rfl ?_)
 refine XO.do rfl (D.asn (v := .int .i64 0) rfl rfl ?_)
 refine XO.do rfl (D.asn (v := .int .i64 0) rfl rfl ?_)
 refine XO.nil ?_
 refine hM4 _ _ ?_
 refine X.seq fun M15 hM16 => ?_
 refine X.seq fun M17 hM18 => ?_
 refine X.region ?_
 refine XO.do rfl (D.mv (v := S a1) rfl rfl ?_)
 refine XO.do rfl (D.mv (v := .int .i64 a2) rfl rfl ?_)
 obtain ⟨r22, q23, h⟩ := lt_elim h
 have hc21 := derrickref01_there.ok a1 a2 4 w 
 rw [q23] at hc21
 clear q23
 refine XO.do rfl (D.call (vs := [S a1, .int .i64 a2, .int .i64 4]) cf65 hc21 rfl rfl ?_)
 rintro _ w19 ⟨rfl, e20⟩
 clear hc21
 replace hB := below_ext hB e20
 clear e20
 refine XO.do rfl (D.not r22 rfl rfl ?_)
 refine XO.nil ?_
 refine hM18 _ _ ?_
 by_cases c24 : r22 = true
 ·rw [if_pos c24] at h
  refine X.condF (congrArg Value.bool ((congrArg (!·) (c24)))) ?_
  refine X.skip ?_
  refine hM16 _ _ ?_
  refine X.seq fun M25 hM26 => ?_
  refine X.region ?_
  refine XO.do rfl (D.mv (v := S a1) rfl rfl ?_)
  refine XO.do rfl (D.mv (v := .int .i64 a2) rfl rfl ?_)
  rcases (Classical.em (derrickref01_U16.pre a1 a2)).symm with c27 | c27
  ·rw [if_neg c27] at h; cases h
  rw [if_pos c27] at h
  obtain ⟨r31, q32, h⟩ := lt_elim h
  have hc30 := derrickref01_U16.ok a1 a2 w19 c27 
  rw [q32] at hc30
  clear q32
  refine XO.do rfl (D.call (vs := [S a1, .int .i64 a2]) cf48 hc30 rfl rfl ?_)
  rintro _ w28 ⟨rfl, e29⟩
  clear hc30
  replace hB := below_ext hB e29
  clear e29
  refine XO.do rfl (D.mv (v := .tuple #[.int .u16 r31.1, .int .i64 r31.2.1, .int .i64 r31.2.2]) rfl rfl ?_)
  refine XO.do rfl (D.extract (v := .int .u16 r31.1) rfl rfl rfl ?_)
  refine XO.do rfl (D.extract (v := .int .i64 r31.2.1) rfl rfl rfl ?_)
  refine XO.do rfl (D.extract (v := .int .i64 r31.2.2) rfl rfl rfl ?_)
  refine XO.do rfl (D.asn (v := .int .u16 r31.1) rfl rfl ?_)
  refine XO.do rfl (D.asn (v := .int .i64 r31.2.1) rfl rfl ?_)
  refine XO.do rfl (D.asn (v := .int .i64 r31.2.2) rfl rfl ?_)
  refine XO.nil ?_
  refine hM26 _ _ ?_
  refine X.seq fun M33 hM34 => ?_
  refine X.region ?_
  refine XO.do rfl (D.mv (v := S a1) rfl rfl ?_)
  refine XO.do rfl (D.mv (v := .int .i64 r31.2.1) rfl rfl ?_)
  rcases (Classical.em (derrickref01_U16.pre a1 r31.2.1)).symm with c35 | c35
  ·rw [if_neg c35] at h; cases h
  rw [if_pos c35] at h
  obtain ⟨r39, q40, h⟩ := lt_elim h
  have hc38 := derrickref01_U16.ok a1 r31.2.1 w28 c35 
  rw [q40] at hc38
  clear q40
  refine XO.do rfl (D.call (vs := [S a1, .int .i64 r31.2.1]) cf48 hc38 rfl rfl ?_)
  rintro _ w36 ⟨rfl, e37⟩
  clear hc38
  replace hB := below_ext hB e37
  clear e37
  refine XO.do rfl (D.mv (v := .tuple #[.int .u16 r39.1, .int .i64 r39.2.1, .int .i64 r39.2.2]) rfl rfl ?_)
  refine XO.do rfl (D.extract (v := .int .u16 r39.1) rfl rfl rfl ?_)
  refine XO.do rfl (D.extract (v := .int .i64 r39.2.1) rfl rfl rfl ?_)
  refine XO.do rfl (D.extract (v := .int .i64 r39.2.2) rfl rfl rfl ?_)
  refine XO.do rfl (D.asn (v := .int .u16 r39.1) rfl rfl ?_)
  refine XO.do rfl (D.asn (v := .int .i64 r39.2.1) rfl rfl ?_)
  refine XO.do rfl (D.asn (v := .int .i64 r39.2.2) rfl rfl ?_)
  refine XO.nil ?_
  refine hM34 _ _ ?_
  refine X.seq fun M41 hM42 => ?_
  refine X.region ?_
  refine XO.do rfl (D.mv (v := .int .u16 r31.1) rfl rfl ?_)
  refine XO.do rfl (D.conv Try.underlying22 Try.underlying23 rfl rfl ?_)
  refine XO.do rfl (D.mul rfl rfl rfl ?_)
  refine XO.do rfl (D.mv (v := .int .u16 r39.1) rfl rfl ?_)
  refine XO.do rfl (D.conv Try.underlying22 Try.underlying23 rfl rfl ?_)
  refine XO.do rfl (D.add rfl rfl rfl ?_)
  refine XO.do rfl (D.mv (v := .int .i64 r39.2.1) rfl rfl ?_)
  refine XO.do rfl (D.asn (v := .int .u32 (w32 ((w32 (65536 * (w32 r31.1))) + (w32 r39.1)))) rfl rfl ?_)
  refine XO.do rfl (D.asn (v := .int .i64 r39.2.1) rfl rfl ?_)
  refine XO.do rfl (D.asn (v := .int .i64 0) rfl rfl ?_)
  refine XO.nil ?_
  refine hM42 _ _ ?_
  refine X.ret ?_
  injection h with h
  subst h
  exact hR _ _ _ (ret3 (v := .int .u32 (w32 ((w32 (65536 * (w32 r31.1))) + (w32 r39.1)))) (v' := .int .i64 r39.2.1) (v'' := .int .i64 0) rfl rfl rfl rfl) ⟨rfl, ext_of_below hB⟩
 ·rw [if_neg c24] at h
  refine X.condT (congrArg Value.bool ((congrArg (!·) ((Bool.eq_false_iff.2 c24))))) ?_
  refine X.seq fun M43 hM44 => ?_
  refine X.region ?_
  refine XO.do rfl (D.asn (v := .int .u32 0) rfl rfl ?_)
  refine XO.do rfl (D.asn (v := .int .i64 0) rfl rfl ?_)
  refine XO.do rfl (D.asn (v := .int .i64 2) rfl rfl ?_)
  refine XO.nil ?_
  refine hM44 _ _ ?_
  refine X.ret ?_
  injection h with h
  subst h
  exact hR _ _ _ (ret3 (v := .int .u32 0) (v' := .int .i64 0) (v'' := .int .i64 2) rfl rfl rfl rfl) ⟨rfl, ext_of_below hB⟩
theorem derrickref01_U32.ok (a1 : Str) (a2 : Int)  (w : World)  (hp : derrickref01_U32.pre a1 a2) :
  Ret Try.prog 47 ([S a1, .int .i64 a2] : List Value).toArray w fun v w' => v = .tuple #[.int .u32 ((derrickref01_U32 a1 a2).1), .int .i64 ((derrickref01_U32 a1 a2).2.1), .int .i64 ((derrickref01_U32 a1 a2).2.2)] ∧ Ext w w' := by
 have h := derrickref01_U32.eq a1 a2 hp
 exact derrickref01_U32.walk  a1 a2  w  _ h
theorem derrickref02_May.walk (a1 : Str)  (w : World)  (res : Bool) (h : derrickref02_May.f a1 = some res) :
  Ret Try.prog 51 ([S a1] : List Value).toArray w fun v w' => v = .bool res ∧ Ext w w' := by
 unfold derrickref02_May.f at h
 refine enterX Try.func51 rfl Try.ntmps51 rfl (fun R hR => ?_)
 have hB := Below.refl w.heap.size w
 refine X.seq fun M2 hM3 => ?_
 refine X.region ?_
 refine XO.do rfl (D.asn (v := .bool false) rfl rfl ?_)
 refine XO.nil ?_
 refine hM3 _ _ ?_
 refine X.seq fun M4 hM5 => ?_
 refine X.region ?_
 refine XO.do rfl (D.mv (v := S a1) rfl rfl ?_)
 rcases (Classical.em (derrickref02_Labels.pre a1)).symm with c6 | c6
 ·rw [if_neg c6] at h; cases h
 rw [if_pos c6] at h
 obtain ⟨r10, q11, h⟩ := lt_elim h
 have hc9 := derrickref02_Labels.ok a1 w c6 
 rw [q11] at hc9
 clear q11
 refine XO.do rfl (D.call (vs := [S a1]) cf71 hc9 rfl rfl ?_)
 rintro _ w7 ⟨A12, k13, rfl, H14, g15, e8⟩
 clear hc9
 have z16 : ∀ y, blkOf A12 = some y → w.heap.size ≤ y := fun y hy => Nat.le_trans hB.size (g15 y hy)
 replace hB := below_ext hB e8
 clear e8
 refine XO.do rfl (D.mv (v := .tuple #[.slice A12 r10.1.length k13, .int .i64 r10.2]) rfl rfl ?_)
 refine XO.do rfl (D.extract (v := .slice A12 r10.1.length k13) rfl rfl rfl ?_)
 refine XO.do rfl (D.extract (v := .int .i64 r10.2) rfl rfl rfl ?_)
 refine XO.do rfl (D.asn (v := .slice A12 r10.1.length k13) rfl rfl ?_)
 refine XO.do rfl (D.asn (v := .int .i64 r10.2) rfl rfl ?_)
 refine XO.nil ?_
 refine hM5 _ _ ?_
 refine X.seq fun M17 hM18 => ?_
 refine X.region ?_
 refine XO.do rfl (D.mv (v := .int .i64 r10.2) rfl rfl ?_)
 refine XO.do rfl (D.eql rfl rfl rfl ?_)
 refine XO.do rfl (D.mv (v := .bool (r10.2 == 0)) rfl rfl ?_)
 by_cases c19 : r10.2 = 0
 ·rw [if_pos c19] at h
  refine XO.do (wantG (j := 2) (b := true) rfl (beq_iff_eq.2 c19) rfl) (D.mv (v := S a1) rfl rfl ?_)
  rcases (Classical.em (derrickref02_Fold.pre a1)).symm with c20 | c20
  ·rw [if_neg c20] at h; cases h
  rw [if_pos c20] at h
  obtain ⟨r24, q25, h⟩ := lt_elim h
  have hc23 := derrickref02_Fold.ok a1 w7 c20 
  rw [q25] at hc23
  clear q25
  refine XO.do (wantG (j := 2) (b := true) rfl (beq_iff_eq.2 c19) rfl) (D.call (vs := [S a1]) cf70 hc23 rfl rfl ?_)
  rintro _ w21 ⟨rfl, e22⟩
  clear hc23
  replace hB := below_ext hB e22
  replace H14 := H14.ext e22
  clear e22
  refine XO.do (wantG (j := 2) (b := true) rfl (beq_iff_eq.2 c19) rfl) (D.mv (v := S a1) rfl rfl ?_)
  refine XO.do (wantG (j := 2) (b := true) rfl (beq_iff_eq.2 c19) rfl) (D.eqlS rfl rfl rfl ?_)
  refine XO.do rfl (D.pick true (v := .bool (r24 == a1)) (congrArg Value.bool (beq_iff_eq.2 c19)) rfl rfl ?_)
  refine XO.do rfl (D.asn (v := .bool (r24 == a1)) rfl rfl ?_)
  refine XO.nil ?_
  refine hM18 _ _ ?_
  refine X.ret ?_
  injection h with h
  subst h
  exact hR _ _ _ (ret1 (v := .bool (r24 == a1)) rfl rfl) ⟨rfl, ext_of_below hB⟩
 ·rw [if_neg c19] at h
  refine XO.off (wantG0 (j := 2) (b := true) rfl (beq_eq_false_iff_ne.2 c19) rfl) rfl rfl ?_
  refine XO.off (wantG0 (j := 2) (b := true) rfl (beq_eq_false_iff_ne.2 c19) rfl) rfl rfl ?_
  refine XO.off (wantG0 (j := 2) (b := true) rfl (beq_eq_false_iff_ne.2 c19) rfl) rfl rfl ?_
  refine XO.off (wantG0 (j := 2) (b := true) rfl (beq_eq_false_iff_ne.2 c19) rfl) rfl rfl ?_
  refine XO.do rfl (D.pick false (v := .bool false) (congrArg Value.bool (beq_eq_false_iff_ne.2 c19)) rfl rfl ?_)
  refine XO.do rfl (D.asn (v := .bool false) rfl rfl ?_)
  refine XO.nil ?_
  refine hM18 _ _ ?_
  refine X.ret ?_
  injection h with h
  subst h
  exact hR _ _ _ (ret1 (v := .bool false) rfl rfl) ⟨rfl, ext_of_below hB⟩
theorem derrickref02_May.ok (a1 : Str)  (w : World)  (hp : derrickref02_May.pre a1) :
  Ret Try.prog 51 ([S a1] : List Value).toArray w fun v w' => v = .bool (derrickref02_May a1) ∧ Ext w w' := by
 have h := derrickref02_May.eq a1 hp
 exact derrickref02_May.walk  a1  w  _ h
theorem derrickref03_Take.walk (kf : Nat) (a1 : Str) (a2 : Int)  (w : World)  (res : Str × Int × Int) (h : derrickref03_Take.f kf a1 a2 = some res) :
  Ret Try.prog 50 ([S a1, .int .i64 a2] : List Value).toArray w fun v w' => v = .tuple #[S res.1, .int .i64 res.2.1, .int .i64 res.2.2] ∧ Ext w w' := by
 unfold derrickref03_Take.f at h
 refine enterX Try.func50 rfl Try.ntmps50 rfl (fun R hR => ?_)
 have hB := Below.refl w.heap.size w
 refine X.seq fun M3 hM4 => ?_
 refine X.region ?_
 refine XO.do rfl (D.asn (v := S []) rfl rfl ?_)
 refine XO.do rfl (D.asn (v := .int .i64 0) rfl rfl ?_)
 refine XO.do rfl (D.asn (v := .int .i64 0) rfl rfl ?_)
 refine XO.nil ?_
 refine hM4 _ _ ?_
 refine X.seq fun M5 hM6 => ?_
 refine X.region ?_
 refine XO.do rfl (D.asn (v := S []) rfl rfl ?_)
 refine XO.nil ?_
 refine hM6 _ _ ?_
 refine X.seq fun M7 hM8 => ?_
 refine X.region ?_
 refine XO.do rfl (D.asn (v := .int .i64 (-1)) rfl rfl ?_)
 refine XO.nil ?_
 refine hM8 _ _ ?_
 refine X.cut (fun f339 w338 => ∃ x336 : Str, ∃ x337 : Int, f339 7 = S x336 ∧ f339 8 = .int .i64 x337 ∧ Below w.heap.size w w338 ∧ derrickref03_Take.j1 x336 x337 = some res) ?_ ?_
 ·refine X.block ?_
  refine X.loop (fun kq688 => fun f534 w533 => ∃ x529 : Int, ∃ x530 : Str, ∃ x531 : Int, f534 0 = S a1 ∧ f534 1 = .int .i64 x529 ∧ f534 7 = S x530 ∧ f534 8 = .int .i64 x531 ∧ Below w.heap.size w w533 ∧ derrickref03_Take.l2 a1 kq688 x529 x530 x531 = some res) kf ?_ ?_
  ·exact ⟨a2, [], (-1), rfl, rfl, rfl, rfl, hB, h⟩
  ·intro kq688 f534 w533 hI
   obtain ⟨x529, x530, x531, s535, s536, s537, s538, hB, h⟩ := hI
   cases kq688 with
   | zero => exact absurd h (by rw [derrickref03_Take.l2.eq_1]; simp)
   | succ kf528 =>
    rw [derrickref03_Take.l2.eq_2] at h
    refine X.fr (d := 0) s535 ?_
    refine X.fr (d := 1) s536 ?_
    refine X.fr (d := 7) s537 ?_
    refine X.fr (d := 8) s538 ?_
    refine X.block ?_
    refine X.seq fun M540 hM541 => ?_
    refine X.region ?_
    refine XO.do rfl (D.mv (v := S a1) rfl rfl ?_)
    refine XO.do rfl (D.mv (v := .int .i64 x529) rfl rfl ?_)
    rcases (Classical.em (derrickref03_labels.pre a1 x529)).symm with c542 | c542
    ·rw [if_neg c542] at h; cases h
    rw [if_pos c542] at h
    obtain ⟨r546, q547, h⟩ := lt_elim h
    have hc545 := derrickref03_labels.ok a1 x529 w533 c542 
    rw [q547] at hc545
    clear q547
    refine XO.do rfl (D.call (vs := [S a1, .int .i64 x529]) cf68 hc545 rfl rfl ?_)
    rintro _ w543 ⟨rfl, e544⟩
    clear hc545
    replace hB := below_ext hB e544
    clear e544
    refine XO.do rfl (D.mv (v := .tuple #[S r546.1, .int .i64 r546.2]) rfl rfl ?_)
    refine XO.do rfl (D.extract (v := S r546.1) rfl rfl rfl ?_)
    refine XO.do rfl (D.extract (v := .int .i64 r546.2) rfl rfl rfl ?_)
    refine XO.do rfl (D.asn (v := S r546.1) rfl rfl ?_)
    refine XO.do rfl (D.asn (v := .int .i64 r546.2) rfl rfl ?_)
    refine XO.nil ?_
    refine hM541 _ _ ?_
    refine X.seq fun M553 hM554 => ?_
    refine X.seq fun M555 hM556 => ?_
    refine X.region ?_
    refine XO.do rfl (D.mv (v := .int .i64 r546.2) rfl rfl ?_)
    refine XO.do rfl (D.lss rfl rfl rfl ?_)
    refine XO.nil ?_
    refine hM556 _ _ ?_
    by_cases c557 : r546.2 < 0
    ·rw [if_pos c557] at h
     refine X.condT (congrArg Value.bool (decide_eq_true c557)) ?_
     refine X.seq fun M558 hM559 => ?_
     refine X.region ?_
     refine XO.do rfl (D.asn (v := S []) rfl rfl ?_)
     refine XO.do rfl (D.asn (v := .int .i64 0) rfl rfl ?_)
     refine XO.do rfl (D.asn (v := .int .i64 2) rfl rfl ?_)
     refine XO.nil ?_
     refine hM559 _ _ ?_
     refine X.ret ?_
     injection h with h
     subst h
     exact hR _ _ _ (ret3 (v := S []) (v' := .int .i64 0) (v'' := .int .i64 2) rfl rfl rfl rfl) ⟨rfl, ext_of_below hB⟩
    ·rw [if_neg c557] at h
     refine X.condF (congrArg Value.bool (decide_eq_false c557)) ?_
     refine X.skip ?_
     refine hM554 _ _ ?_
     refine X.seq fun M560 hM561 => ?_
     refine X.region ?_
     refine XO.do rfl (D.mv (v := S x530) rfl rfl ?_)
     refine XO.do rfl (D.mv (v := S r546.1) rfl rfl ?_)
     rcases (Classical.em (x530.length + r546.1.length ≤ 9223372036854775807)).symm with c562 | c562
     ·rw [if_neg c562] at h; cases h
     rw [if_pos c562] at h
     refine XO.do rfl (D.addS rfl rfl c562 rfl ?_)
     refine XO.do rfl (D.asn (v := S (x530 ++ r546.1)) rfl rfl ?_)
     refine XO.nil ?_
     refine hM561 _ _ ?_
     refine X.seq fun M598 hM599 => ?_
     refine X.cut (fun f612 w611 => ∃ x610 : Bool, f612 0 = S a1 ∧ f612 1 = .int .i64 x529 ∧ f612 7 = S (x530 ++ r546.1) ∧ f612 8 = .int .i64 x531 ∧ f612 10 = .int .i64 r546.2 ∧ f612 39 = .bool x610 ∧ Below w.heap.size w w611 ∧ derrickref03_Take.j3 x531 x530 r546 a1 (derrickref03_Take.l2 a1 kf528) x529 x610 = some res) ?_ ?_
     ·refine X.region ?_
      refine XO.do rfl (D.mv (v := S r546.1) rfl rfl ?_)
      refine XO.do rfl (D.neqS rfl rfl rfl ?_)
      refine XO.do rfl (D.mv (v := .bool (!(r546.1 == ([] : Str)))) rfl rfl ?_)
      by_cases c678 : r546.1 = ([] : Str)
      ·rw [if_pos c678] at h
       refine XO.off (wantG0 (j := 2) (b := true) rfl ((congrArg (!·) (beq_iff_eq.2 c678))) rfl) rfl rfl ?_
       refine XO.off (wantG0 (j := 2) (b := true) rfl ((congrArg (!·) (beq_iff_eq.2 c678))) rfl) rfl rfl ?_
       refine XO.off (wantG0 (j := 2) (b := true) rfl ((congrArg (!·) (beq_iff_eq.2 c678))) rfl) rfl rfl ?_
       refine XO.off (wantG0 (j := 2) (b := true) rfl ((congrArg (!·) (beq_iff_eq.2 c678))) rfl) rfl rfl ?_
       refine XO.off (wantG0 (j := 2) (b := true) rfl ((congrArg (!·) (beq_iff_eq.2 c678))) rfl) rfl rfl ?_
       refine XO.off (wantG0 (j := 2) (b := true) rfl ((congrArg (!·) (beq_iff_eq.2 c678))) rfl) rfl rfl ?_
       refine XO.do rfl (D.pick false (v := .bool false) (congrArg Value.bool ((congrArg (!·) (beq_iff_eq.2 c678)))) rfl rfl ?_)
       refine XO.do rfl (D.mv (v := .bool false) rfl rfl ?_)
       refine XO.off (wantG0 (j := 10) (b := true) rfl (rfl) rfl) rfl rfl ?_
       refine XO.off (wantG0 (j := 10) (b := true) rfl (rfl) rfl) rfl rfl ?_
       refine XO.do rfl (D.pick false (v := .bool false) (congrArg Value.bool (rfl)) rfl rfl ?_)
       refine XO.nil ?_
       exact ⟨false, rfl, rfl, rfl, rfl, rfl, rfl, hB, h⟩
      ·rw [if_neg c678] at h
       refine XO.do (wantG (j := 2) (b := true) rfl ((congrArg (!·) (beq_eq_false_iff_ne.2 c678))) rfl) (D.mv (v := S r546.1) rfl rfl ?_)
       refine XO.do (wantG (j := 2) (b := true) rfl ((congrArg (!·) (beq_eq_false_iff_ne.2 c678))) rfl) (D.mv (v := S r546.1) rfl rfl ?_)
       refine XO.do (wantG (j := 2) (b := true) rfl ((congrArg (!·) (beq_eq_false_iff_ne.2 c678))) rfl) (D.lenS Try.underlying9 rfl rfl ?_)
       refine XO.do (wantG (j := 2) (b := true) rfl ((congrArg (!·) (beq_eq_false_iff_ne.2 c678))) rfl) (D.sub rfl rfl rfl ?_)
       rcases (Classical.em (0 ≤ w64 ((r546.1.length : Int) - 1))).symm with c679 | c679
       ·rw [if_neg c679] at h; cases h
       rw [if_pos c679] at h
       rcases (Classical.em (w64 ((r546.1.length : Int) - 1) < (r546.1.length : Int))).symm with c680 | c680
       ·rw [if_neg c680] at h; cases h
       rw [if_pos c680] at h
       refine XO.do (wantG (j := 2) (b := true) rfl ((congrArg (!·) (beq_eq_false_iff_ne.2 c678))) rfl) (D.indexS (i := w64 ((r546.1.length : Int) - 1)) Try.underlying9 rfl rfl c679 c680 rfl ?_)
       refine XO.do (wantG (j := 2) (b := true) rfl ((congrArg (!·) (beq_eq_false_iff_ne.2 c678))) rfl) (D.eql rfl rfl rfl ?_)
       refine XO.do rfl (D.pick true (v := .bool ((bt r546.1 (w64 ((r546.1.length : Int) - 1))) == 0)) (congrArg Value.bool ((congrArg (!·) (beq_eq_false_iff_ne.2 c678)))) rfl rfl ?_)
       refine XO.do rfl (D.mv (v := .bool ((bt r546.1 (w64 ((r546.1.length : Int) - 1))) == 0)) rfl rfl ?_)
       by_cases c681 : (bt r546.1 (w64 ((r546.1.length : Int) - 1))) = 0
       ·rw [if_pos c681] at h
        refine XO.do (wantG (j := 10) (b := true) rfl (beq_iff_eq.2 c681) rfl) (D.mv (v := S r546.1) rfl rfl ?_)
        rcases (Classical.em (derrickref03_ends.pre r546.1)).symm with c682 | c682
        ·rw [if_neg c682] at h; cases h
        rw [if_pos c682] at h
        obtain ⟨r686, q687, h⟩ := lt_elim h
        have hc685 := derrickref03_ends.ok r546.1 w543 c682 
        rw [q687] at hc685
        clear q687
        refine XO.do (wantG (j := 10) (b := true) rfl (beq_iff_eq.2 c681) rfl) (D.call (vs := [S r546.1]) cf69 hc685 rfl rfl ?_)
        rintro _ w683 ⟨rfl, e684⟩
        clear hc685
        replace hB := below_ext hB e684
        clear e684
        refine XO.do rfl (D.pick true (v := .bool r686) (congrArg Value.bool (beq_iff_eq.2 c681)) rfl rfl ?_)
        refine XO.nil ?_
        exact ⟨r686, rfl, rfl, rfl, rfl, rfl, rfl, hB, h⟩
       ·rw [if_neg c681] at h
        refine XO.off (wantG0 (j := 10) (b := true) rfl (beq_eq_false_iff_ne.2 c681) rfl) rfl rfl ?_
        refine XO.off (wantG0 (j := 10) (b := true) rfl (beq_eq_false_iff_ne.2 c681) rfl) rfl rfl ?_
        refine XO.do rfl (D.pick false (v := .bool false) (congrArg Value.bool (beq_eq_false_iff_ne.2 c681)) rfl rfl ?_)
        refine XO.nil ?_
        exact ⟨false, rfl, rfl, rfl, rfl, rfl, rfl, hB, h⟩
     ·intro f612 w611 hI
      obtain ⟨x610, s613, s614, s615, s616, s617, s618, hB, h⟩ := hI
      refine X.fr (d := 0) s613 ?_
      refine X.fr (d := 1) s614 ?_
      refine X.fr (d := 7) s615 ?_
      refine X.fr (d := 8) s616 ?_
      refine X.fr (d := 10) s617 ?_
      refine X.fr (d := 39) s618 ?_
      unfold derrickref03_Take.j3 at h
      by_cases c619 : x610 = true
      ·rw [if_pos c619] at h
       refine X.condT (congrArg Value.bool (c619)) ?_
       refine X.seq fun M620 hM621 => ?_
       refine X.seq fun M622 hM623 => ?_
       refine X.region ?_
       refine XO.do rfl (D.mv (v := .int .i64 x531) rfl rfl ?_)
       refine XO.do rfl (D.lss rfl rfl rfl ?_)
       refine XO.nil ?_
       refine hM623 _ _ ?_
       by_cases c624 : x531 < 0
       ·rw [if_pos c624] at h
        refine X.condT (congrArg Value.bool (decide_eq_true c624)) ?_
        refine X.region ?_
        refine XO.do rfl (D.mv (v := .int .i64 r546.2) rfl rfl ?_)
        refine XO.do rfl (D.asn (v := .int .i64 r546.2) rfl rfl ?_)
        refine XO.nil ?_
        refine hM621 _ _ ?_
        refine X.exit rfl ?_
        exact ⟨x530 ++ r546.1, r546.2, rfl, rfl, hB, h⟩
       ·rw [if_neg c624] at h
        refine X.condF (congrArg Value.bool (decide_eq_false c624)) ?_
        refine X.skip ?_
        refine hM621 _ _ ?_
        refine X.exit rfl ?_
        exact ⟨x530 ++ r546.1, x531, rfl, rfl, hB, h⟩
      ·rw [if_neg c619] at h
       refine X.condF (congrArg Value.bool ((Bool.eq_false_iff.2 c619))) ?_
       refine X.skip ?_
       refine hM599 _ _ ?_
       refine X.seq fun M625 hM626 => ?_
       refine X.region ?_
       refine XO.do rfl (D.mv (v := S a1) rfl rfl ?_)
       refine XO.do rfl (D.mv (v := .int .i64 r546.2) rfl rfl ?_)
       rcases (Classical.em (derrickref01_U16.pre a1 r546.2)).symm with c627 | c627
       ·rw [if_neg c627] at h; cases h
       rw [if_pos c627] at h
       obtain ⟨r631, q632, h⟩ := lt_elim h
       have hc630 := derrickref01_U16.ok a1 r546.2 w611 c627 
       rw [q632] at hc630
       clear q632
       refine XO.do rfl (D.call (vs := [S a1, .int .i64 r546.2]) cf48 hc630 rfl rfl ?_)
       rintro _ w628 ⟨rfl, e629⟩
       clear hc630
       replace hB := below_ext hB e629
       clear e629
       refine XO.do rfl (D.mv (v := .tuple #[.int .u16 r631.1, .int .i64 r631.2.1, .int .i64 r631.2.2]) rfl rfl ?_)
       refine XO.do rfl (D.extract (v := .int .u16 r631.1) rfl rfl rfl ?_)
       refine XO.do rfl (D.extract (v := .int .i64 r631.2.1) rfl rfl rfl ?_)
       refine XO.do rfl (D.extract (v := .int .i64 r631.2.2) rfl rfl rfl ?_)
       refine XO.do rfl (D.asn (v := .int .u16 r631.1) rfl rfl ?_)
       refine XO.do rfl (D.asn (v := .int .i64 r631.2.1) rfl rfl ?_)
       refine XO.do rfl (D.asn (v := .int .i64 r631.2.2) rfl rfl ?_)
       refine XO.nil ?_
       refine hM626 _ _ ?_
       refine X.seq fun M633 hM634 => ?_
       refine X.region ?_
       refine XO.do rfl (D.mv (v := .int .u16 r631.1) rfl rfl ?_)
       refine XO.do rfl (D.conv Try.underlying22 Try.underlying3 rfl rfl ?_)
       refine XO.do rfl (D.rem rfl rfl (by decide) rfl ?_)
       refine XO.do rfl (D.asn (v := .int .i64 (Int.tmod (w64 r631.1) 16384)) rfl rfl ?_)
       refine XO.nil ?_
       refine hM634 _ _ ?_
       refine X.seq fun M649 hM650 => ?_
       refine X.cut (fun f654 w653 => ∃ x652 : Bool, f654 0 = S a1 ∧ f654 7 = S (x530 ++ r546.1) ∧ f654 8 = .int .i64 x531 ∧ f654 12 = .int .i64 r631.2.1 ∧ f654 14 = .int .i64 (Int.tmod (w64 r631.1) 16384) ∧ f654 59 = .bool x652 ∧ Below w.heap.size w w653 ∧ derrickref03_Take.j4 x531 (derrickref03_Take.l2 a1 kf528) r631 x530 r546 x652 = some res) ?_ ?_
       ·refine X.region ?_
        refine XO.do rfl (D.mv (v := .int .i64 r631.2.2) rfl rfl ?_)
        refine XO.do rfl (D.neq rfl rfl rfl ?_)
        refine XO.do rfl (D.mv (v := .bool (r631.2.2 != 0)) rfl rfl ?_)
        by_cases c677 : r631.2.2 = 0
        ·rw [if_pos c677] at h
         refine XO.do (wantG (j := 2) (b := false) rfl ((congrArg (!·) (beq_iff_eq.2 c677))) rfl) (D.mv (v := .int .i64 (Int.tmod (w64 r631.1) 16384)) rfl rfl ?_)
         refine XO.do (wantG (j := 2) (b := false) rfl ((congrArg (!·) (beq_iff_eq.2 c677))) rfl) (D.mv (v := .int .i64 x529) rfl rfl ?_)
         refine XO.do (wantG (j := 2) (b := false) rfl ((congrArg (!·) (beq_iff_eq.2 c677))) rfl) (D.geq rfl rfl rfl ?_)
         refine XO.do rfl (D.pick false (v := .bool (decide (x529 ≤ (Int.tmod (w64 r631.1) 16384)))) (congrArg Value.bool ((congrArg (!·) (beq_iff_eq.2 c677)))) rfl rfl ?_)
         refine XO.nil ?_
         exact ⟨(decide (x529 ≤ (Int.tmod (w64 r631.1) 16384))), rfl, rfl, rfl, rfl, rfl, rfl, hB, h⟩
        ·rw [if_neg c677] at h
         refine XO.off (wantG0 (j := 2) (b := false) rfl ((congrArg (!·) (beq_eq_false_iff_ne.2 c677))) rfl) rfl rfl ?_
         refine XO.off (wantG0 (j := 2) (b := false) rfl ((congrArg (!·) (beq_eq_false_iff_ne.2 c677))) rfl) rfl rfl ?_
         refine XO.off (wantG0 (j := 2) (b := false) rfl ((congrArg (!·) (beq_eq_false_iff_ne.2 c677))) rfl) rfl rfl ?_
         refine XO.do rfl (D.pick true (v := .bool true) (congrArg Value.bool ((congrArg (!·) (beq_eq_false_iff_ne.2 c677)))) rfl rfl ?_)
         refine XO.nil ?_
         exact ⟨true, rfl, rfl, rfl, rfl, rfl, rfl, hB, h⟩
       ·intro f654 w653 hI
        obtain ⟨x652, s655, s656, s657, s658, s659, s660, hB, h⟩ := hI
        refine X.fr (d := 0) s655 ?_
        refine X.fr (d := 7) s656 ?_
        refine X.fr (d := 8) s657 ?_
        refine X.fr (d := 12) s658 ?_
        refine X.fr (d := 14) s659 ?_
        refine X.fr (d := 59) s660 ?_
        unfold derrickref03_Take.j4 at h
        by_cases c661 : x652 = true
        ·rw [if_pos c661] at h
         refine X.condT (congrArg Value.bool (c661)) ?_
         refine X.seq fun M662 hM663 => ?_
         refine X.region ?_
         refine XO.do rfl (D.asn (v := S []) rfl rfl ?_)
         refine XO.do rfl (D.asn (v := .int .i64 0) rfl rfl ?_)
         refine XO.do rfl (D.asn (v := .int .i64 2) rfl rfl ?_)
         refine XO.nil ?_
         refine hM663 _ _ ?_
         refine X.ret ?_
         injection h with h
         subst h
         exact hR _ _ _ (ret3 (v := S []) (v' := .int .i64 0) (v'' := .int .i64 2) rfl rfl rfl rfl) ⟨rfl, ext_of_below hB⟩
        ·rw [if_neg c661] at h
         refine X.condF (congrArg Value.bool ((Bool.eq_false_iff.2 c661))) ?_
         refine X.skip ?_
         refine hM650 _ _ ?_
         refine X.cut (fun f669 w668 => ∃ x667 : Int, f669 0 = S a1 ∧ f669 7 = S (x530 ++ r546.1) ∧ f669 8 = .int .i64 x667 ∧ f669 14 = .int .i64 (Int.tmod (w64 r631.1) 16384) ∧ Below w.heap.size w w668 ∧ derrickref03_Take.j5 (derrickref03_Take.l2 a1 kf528) r631 x530 r546 x667 = some res) ?_ ?_
         ·refine X.seq fun M674 hM675 => ?_
          refine X.region ?_
          refine XO.do rfl (D.mv (v := .int .i64 x531) rfl rfl ?_)
          refine XO.do rfl (D.lss rfl rfl rfl ?_)
          refine XO.nil ?_
          refine hM675 _ _ ?_
          by_cases c676 : x531 < 0
          ·rw [if_pos c676] at h
           refine X.condT (congrArg Value.bool (decide_eq_true c676)) ?_
           refine X.region ?_
           refine XO.do rfl (D.mv (v := .int .i64 r631.2.1) rfl rfl ?_)
           refine XO.do rfl (D.asn (v := .int .i64 r631.2.1) rfl rfl ?_)
           refine XO.nil ?_
           exact ⟨r631.2.1, rfl, rfl, rfl, rfl, hB, h⟩
          ·rw [if_neg c676] at h
           refine X.condF (congrArg Value.bool (decide_eq_false c676)) ?_
           refine X.skip ?_
           exact ⟨x531, rfl, rfl, rfl, rfl, hB, h⟩
         ·intro f669 w668 hI
          obtain ⟨x667, s670, s671, s672, s673, hB, h⟩ := hI
          refine X.fr (d := 0) s670 ?_
          refine X.fr (d := 7) s671 ?_
          refine X.fr (d := 8) s672 ?_
          refine X.fr (d := 14) s673 ?_
          unfold derrickref03_Take.j5 at h
          refine X.region ?_
          refine XO.do rfl (D.mv (v := .int .i64 (Int.tmod (w64 r631.1) 16384)) rfl rfl ?_)
          refine XO.do rfl (D.asn (v := .int .i64 (Int.tmod (w64 r631.1) 16384)) rfl rfl ?_)
          refine XO.nil ?_
          exact ⟨kf528, Nat.lt_succ_self _, Int.tmod (w64 r631.1) 16384, x530 ++ r546.1, x667, rfl, rfl, rfl, rfl, hB, h⟩
 ·intro f339 w338 hI
  obtain ⟨x336, x337, s340, s341, hB, h⟩ := hI
  refine X.fr (d := 7) s340 ?_
  refine X.fr (d := 8) s341 ?_
  unfold derrickref03_Take.j1 at h
  refine X.seq fun M347 hM348 => ?_
  refine X.seq fun M349 hM350 => ?_
  refine X.region ?_
  refine XO.do rfl (D.mv (v := S x336) rfl rfl ?_)
  refine XO.do rfl (D.lenS Try.underlying9 rfl rfl ?_)
  refine XO.do rfl (D.gtr rfl rfl rfl ?_)
  refine XO.nil ?_
  refine hM350 _ _ ?_
  by_cases c351 : 255 < (x336.length : Int)
  ·rw [if_pos c351] at h
   refine X.condT (congrArg Value.bool (decide_eq_true c351)) ?_
   refine X.seq fun M352 hM353 => ?_
   refine X.region ?_
   refine XO.do rfl (D.asn (v := S []) rfl rfl ?_)
   refine XO.do rfl (D.asn (v := .int .i64 0) rfl rfl ?_)
   refine XO.do rfl (D.asn (v := .int .i64 2) rfl rfl ?_)
   refine XO.nil ?_
   refine hM353 _ _ ?_
   refine X.ret ?_
   injection h with h
   subst h
   exact hR _ _ _ (ret3 (v := S []) (v' := .int .i64 0) (v'' := .int .i64 2) rfl rfl rfl rfl) ⟨rfl, ext_of_below hB⟩
  ·rw [if_neg c351] at h
   refine X.condF (congrArg Value.bool (decide_eq_false c351)) ?_
   refine X.skip ?_
   refine hM348 _ _ ?_
   refine X.seq fun M354 hM355 => ?_
   refine X.region ?_
   refine XO.do rfl (D.mv (v := S x336) rfl rfl ?_)
   rcases (Classical.em (derrickref02_Fold.pre x336)).symm with c356 | c356
   ·rw [if_neg c356] at h; cases h
   rw [if_pos c356] at h
   obtain ⟨r360, q361, h⟩ := lt_elim h
   have hc359 := derrickref02_Fold.ok x336 w338 c356 
   rw [q361] at hc359
   clear q361
   refine XO.do rfl (D.call (vs := [S x336]) cf70 hc359 rfl rfl ?_)
   rintro _ w357 ⟨rfl, e358⟩
   clear hc359
   replace hB := below_ext hB e358
   clear e358
   refine XO.do rfl (D.mv (v := .int .i64 x337) rfl rfl ?_)
   refine XO.do rfl (D.asn (v := S r360) rfl rfl ?_)
   refine XO.do rfl (D.asn (v := .int .i64 x337) rfl rfl ?_)
   refine XO.do rfl (D.asn (v := .int .i64 0) rfl rfl ?_)
   refine XO.nil ?_
   refine hM355 _ _ ?_
   refine X.ret ?_
   injection h with h
   subst h
   exact hR _ _ _ (ret3 (v := S r360) (v' := .int .i64 x337) (v'' := .int .i64 0) rfl rfl rfl rfl) ⟨rfl, ext_of_below hB⟩
theorem derrickref03_Take.ok (a1 : Str) (a2 : Int)  (w : World)  (hp : derrickref03_Take.pre a1 a2) :
  Ret Try.prog 50 ([S a1, .int .i64 a2] : List Value).toArray w fun v w' => v = .tuple #[S ((derrickref03_Take a1 a2).1), .int .i64 ((derrickref03_Take a1 a2).2.1), .int .i64 ((derrickref03_Take a1 a2).2.2)] ∧ Ext w w' := by
 obtain ⟨kf, h⟩ := derrickref03_Take.eq a1 a2 hp
 exact derrickref03_Take.walk kf a1 a2  w  _ h
end Go.Proofs.Ytfcaekghpkpjdaa.K

/- Walks, printed by a program of this session. -/
namespace Go.Proofs.Ytfcaekghpkpjdaa.K
open Go Go.RowKit Go.Proofs
set_option linter.unusedVariables false
set_option maxRecDepth 100000
set_option maxHeartbeats 4000000
namespace FRd
theorem ti39 : TI Try.prog 39 (.agg #[S [], .slice none 0 0]) 2 40 := by unfold TI; kernel_rfl
theorem ag39 : Agg Try.prog 39 2 := agg Try.underlying39 rfl ti39
theorem ti104 : TI Try.prog 104 (.agg #[S [], .int .i64 0]) 2 24 := by unfold TI; kernel_rfl
theorem ti9 : TI Try.prog 9 (S []) 1 16 := by unfold TI; kernel_rfl
theorem ti3 : TI Try.prog 3 (.int .i64 0) 1 8 := by unfold TI; kernel_rfl
theorem bld104 : BuildIs Try.prog 104 #[(0, 1), (1, 1)] (Value.cells (.agg #[S [], .int .i64 0])) := buildIs Try.underlying104 ti104 (fun w => by simp [ti3.size, ti9.size])
theorem ti37 : TI Try.prog 37 (.slice none 0 0) 1 24 := by unfold TI; kernel_rfl
theorem bld39 : BuildIs Try.prog 39 #[(0, 1), (1, 1)] (Value.cells (.agg #[S [], .slice none 0 0])) := buildIs Try.underlying39 ti39 (fun w => by simp [ti37.size, ti9.size])
theorem cf33 : Callable Try.prog 33 := callable Try.func33 (by kernel_rfl) rfl
theorem cf34 : Callable Try.prog 34 := callable Try.func34 (by kernel_rfl) rfl
theorem cf50 : Callable Try.prog 50 := callable Try.func50 (by kernel_rfl) rfl
theorem cf51 : Callable Try.prog 51 := callable Try.func51 (by kernel_rfl) rfl
theorem cf57 : Callable Try.prog 57 := callable Try.func57 (by kernel_rfl) rfl
theorem fa39_0 : FA Try.prog 39 0 0 := fa Try.underlying39 rfl ti9 rfl rfl
theorem fa39_1 : FA Try.prog 39 1 1 := fa Try.underlying39 rfl ti37 rfl rfl
theorem mixed0 : Try.prog.follows .mixedOrders = true := by kernel_rfl
theorem sc37 : Sca Try.prog 37 := sca Try.underlying37 rfl
theorem sc9 : Sca Try.prog 9 := sca Try.underlying9 rfl
theorem sz37 : ∀ w, (sizeOf 37).run Try.prog w = .ok 1 w := fun w => ti37.size w
theorem sz39 : ∀ w, (sizeOf 39).run Try.prog w = .ok 2 w := fun w => ti39.size w
theorem sz9 : ∀ w, (sizeOf 9).run Try.prog w = .ok 1 w := fun w => ti9.size w
end FRd
open FRd
theorem derrickref03_Name.walk (kf : Nat) (a1 : RPack) (a6 : Str) (A2 : Option Addr) (k3 : Nat) (w : World) (H4 : Row ePlace w A2 k3 a1.l) (res : RPack × Int) (h : derrickref03_Name.f kf a1 a6 = some res) :
  Ret Try.prog 32 ([.agg #[S a1.s, .slice A2 a1.l.length k3], S a6] : List Value).toArray w fun v w' => ∃ (A1 : Option Addr) (k1 : Nat), v = .tuple #[.agg #[S res.1.s, .slice A1 res.1.l.length k1], .int .i64 res.2] ∧ Row ePlace w' A1 k1 res.1.l ∧ (∀ y, MR A1 res.1.l y → w.heap.size ≤ y ∨ MR A2 a1.l y) ∧ Ext w w' := by
 unfold derrickref03_Name.f at h
 refine enterX Try.func32 rfl Try.ntmps32 rfl (fun R hR => ?_)
 have hB := Below.refl w.heap.size w
 refine X.seq fun M7 hM8 => ?_
 refine X.region ?_
 refine XO.do rfl (D.box (v := .agg #[S a1.s, .slice A2 a1.l.length k3]) (cs := [S a1.s, .slice A2 a1.l.length k3]) rfl rfl rfl ?_)
 intro b9 w10 hb11 H12 e13 _
 have g14 : w.heap.size ≤ b9 := Nat.le_trans hB.size (Nat.le_of_eq hb11.symm)
 clear hb11
 replace hB := below_ext hB e13
 clear e13
 refine XO.do rfl (D.alloc ti39 (cs := [S [], .slice none 0 0]) rfl rfl ?_)
 intro b15 w17 hb18 H19 e20 _
 have lt_14_21 : ∀ x, MB b9 x → x < b15 := (MB.lt H12 (Nat.le_of_eq hb18.symm))
 have g21 : w.heap.size ≤ b15 := Nat.le_trans hB.size (Nat.le_of_eq hb18.symm)
 clear hb18
 replace hB := below_ext hB e20
 replace H12 := H12.ext e20
 clear e20
 refine XO.do rfl (D.asn (v := .int .i64 0) rfl rfl ?_)
 refine XO.nil ?_
 refine hM8 _ _ ?_
 refine X.seq fun M36 hM37 => ?_
 refine X.seq fun M38 hM39 => ?_
 refine X.region ?_
 refine XO.do rfl (D.mv (v := S a6) rfl rfl ?_)
 rcases (Classical.em (derrickref02_May.pre a6)).symm with c40 | c40
 ·rw [if_neg c40] at h; cases h
 rw [if_pos c40] at h
 obtain ⟨r44, q45, h⟩ := lt_elim h
 have hc43 := derrickref02_May.ok a6 w17 c40 
 rw [q45] at hc43
 clear q45
 refine XO.do rfl (D.call (vs := [S a6]) cf51 hc43 rfl rfl ?_)
 rintro _ w41 ⟨rfl, e42⟩
 clear hc43
 replace hB := below_ext hB e42
 replace H12 := H12.ext e42
 replace H19 := H19.ext e42
 clear e42
 refine XO.do rfl (D.not r44 rfl rfl ?_)
 refine XO.nil ?_
 refine hM39 _ _ ?_
 by_cases c46 : r44 = true
 ·rw [if_pos c46] at h
  refine X.condF (congrArg Value.bool ((congrArg (!·) (c46)))) ?_
  refine X.skip ?_
  refine hM37 _ _ ?_
  refine X.cut (fun f204 w203 => ∃ b194 : Nat, ∃ A195 : Option Addr, ∃ k196 : Nat, ∃ l197 : List Place, ∃ B198 : Nat, f204 1 = S a6 ∧ f204 4 = pt b15 0 ∧ f204 6 = pt b194 0 ∧ Below w.heap.size w w203 ∧ Blk w203 b15 [S [], .slice none 0 0] 39 ∧ Own ePlace 104 w203 B198 A195 k196 l197 ∧ B198 ≤ w203.heap.size ∧ w.heap.size ≤ B198 ∧ Blk w203 b194 [S a1.s, .slice A195 l197.length k196] 39 ∧ w.heap.size ≤ b194 ∧ (∀ x, MB b15 x → x < B198) ∧ (∀ x, MB b15 x → x < b194) ∧ (∀ x y, MO A195 x → MB b15 y → x ≠ y) ∧ (∀ x y, MO A195 x → MB b194 y → x ≠ y) ∧ derrickref03_Name.j1 a6 a1 kf l197 = some res) ?_ ?_
  ·refine X.tree mixed0 [0, 1, 0, 0, 8, 28, 63, 0, 255] (.q 0 (.q 1 (.q 3 (.q 4 (.alt 2 (.alt 5 (.q 6 (.alt 7 (.alt 8 .nil .nil) .nil)) (.alt 7 (.alt 5 (.q 6 (.alt 8 .nil .nil)) .nil) .nil)) (.alt 7 (.alt 2 (.alt 5 (.q 6 (.alt 8 .nil .nil)) .nil) .nil) .nil)))))) (fun w' => Below w.heap.size w w' ∧ Blk w' b9 [S a1.s, .slice A2 a1.l.length k3] 39 ∧ Blk w' b15 [S [], .slice none 0 0] 39) (fun w' => Below w.heap.size w w' ∧ Blk w' b9 [S a1.s, .slice A2 a1.l.length k3] 39 ∧ Blk w' b15 [S [], .slice none 0 0] 39) (by decide +kernel) (fun w' hx _ => ⟨below_ext hB hx, H12.ext hx, H19.ext hx⟩) (fun a b hC hx => by obtain ⟨hB, H12, H19⟩ := hC; exact ⟨below_ext hB hx, H12.ext hx, H19.ext hx⟩) (fun a hC => by obtain ⟨hB, H12, H19⟩ := hC; exact ⟨hB, H12, H19⟩) ?_
   refine QT.late (v := pt b9 0) rfl rfl rfl rfl (fun w' hJ => by obtain ⟨hB, H12, H19⟩ := hJ; exact D.fieldAddr (o' := 0) fa39_0 rfl rfl rfl ⟨rfl, Ext.refl _⟩) ?_
   refine QT.late (v := S a1.s) rfl rfl rfl rfl (fun w' hJ => by obtain ⟨hB, H12, H19⟩ := hJ; exact D.load (j := 0) (v := S a1.s) sc9 H12.cs rfl rfl rfl rfl ⟨rfl, Ext.refl _⟩) ?_
   refine QT.late (v := pt b9 1) rfl rfl rfl rfl (fun w' hJ => by obtain ⟨hB, H12, H19⟩ := hJ; exact D.fieldAddr (o' := 1) fa39_1 rfl rfl rfl ⟨rfl, Ext.refl _⟩) ?_
   refine QT.late (v := .slice A2 a1.l.length k3) rfl rfl rfl rfl (fun w' hJ => by obtain ⟨hB, H12, H19⟩ := hJ; exact D.load (j := 1) (v := .slice A2 a1.l.length k3) sc37 H12.cs rfl rfl rfl rfl ⟨rfl, Ext.refl _⟩) ?_
   refine QT.eff rfl rfl (fun w1523 hC => ?_) ?_
   ·obtain ⟨hB, H12, H19⟩ := hC
    refine D.buildR (vs := []) (cs := []) Try.underlying37 ti104 rfl rfl rfl rfl rfl rfl rfl ?_
    intro b1524 w1525 hb1526 H1527 e1528 zb1524
    have H1527o : Own ePlace 104 w1525 b1524 (some ⟨b1524, 0, none⟩) 0 ([] : List Place) := Blk.own (E := ePlace) (show Blk _ _ (flat ePlace []) _ from H1527) (Nat.le_refl _) (by simp)
    have lt_14_1529 : ∀ x, MB b9 x → x < b1524 := (MB.lt H12 (Nat.le_of_eq hb1526.symm))
    have lt_21_1529 : ∀ x, MB b15 x → x < b1524 := (MB.lt H19 (Nat.le_of_eq hb1526.symm))
    have g1529 : w.heap.size ≤ b1524 := Nat.le_trans hB.size (Nat.le_of_eq hb1526.symm)
    clear hb1526 H1527
    have bs1529 : b1524 ≤ w1525.heap.size := Nat.le_of_lt zb1524
    replace hB := below_ext hB e1528
    replace H12 := H12.ext e1528
    replace H19 := H19.ext e1528
    clear e1528
    refine ⟨_, rfl, (fun w' => Below w.heap.size w w' ∧ Blk w' b9 [S a1.s, .slice A2 a1.l.length k3] 39 ∧ Blk w' b15 [S [], .slice none 0 0] 39 ∧ Own ePlace 104 w' b1524 (some ⟨b1524, 0, none⟩) 0 [] ∧ b1524 ≤ w'.heap.size), ⟨hB, H12, H19, H1527o, bs1529⟩, (fun a b hC hx => by obtain ⟨hB, H12, H19, H1527o, bs1529⟩ := hC; exact ⟨below_ext hB hx, H12.ext hx, H19.ext hx, H1527o.ext hx, Nat.le_trans bs1529 (World.grownBy.size hx)⟩), (fun a hC => by obtain ⟨hB, H12, H19, H1527o, bs1529⟩ := hC; exact ⟨hB, H12, H19⟩), ?_⟩
    refine QT.eff rfl rfl (fun w1530 hC => ?_) ?_
    ·obtain ⟨hB, H12, H19, H1527o, bs1529⟩ := hC
     rcases (Classical.em ((0 + a1.l.length) * 24 ≤ 140737488355328)).symm with c1531 | c1531
     ·rw [if_neg c1531] at h; cases h
     rw [if_pos c1531] at h
     refine D.append (xs := []) (ys := a1.l) (m := a1.l.length) Try.underlying37 ti104 rfl H1527o (H4.below hB) bs1529 (by first | omega | (simp at *; omega)) (by first | exact c1531 | omega | (simp at *; omega)) rfl rfl rfl rfl ?_
     intro A1532 k1533 w1534 H1535 e1536 ha1537
     replace hB := below_own hB e1536 (fun x hx => Nat.le_trans g1529 (MO.ge H1527o x hx))
     replace H12 := H12.gr e1536 (sepO (ne_of lt_14_1529 (MO.ge H1527o)))
     replace H19 := H19.gr e1536 (sepO (ne_of lt_21_1529 (MO.ge H1527o)))
     replace bs1529 := Nat.le_trans bs1529 (World.grownBy.size e1536)
     clear e1536 ha1537 H1527o
     refine ⟨_, rfl, (fun w' => Below w.heap.size w w' ∧ Blk w' b9 [S a1.s, .slice A2 a1.l.length k3] 39 ∧ Blk w' b15 [S [], .slice none 0 0] 39 ∧ Own ePlace 104 w' b1524 A1532 k1533 ([] ++ a1.l) ∧ b1524 ≤ w'.heap.size), ⟨hB, H12, H19, H1535, bs1529⟩, (fun a b hC hx => by obtain ⟨hB, H12, H19, H1535, bs1529⟩ := hC; exact ⟨below_ext hB hx, H12.ext hx, H19.ext hx, H1535.ext hx, Nat.le_trans bs1529 (World.grownBy.size hx)⟩), (fun a hC => by obtain ⟨hB, H12, H19, H1535, bs1529⟩ := hC; exact ⟨hB, H12, H19⟩), ?_⟩
     refine QT.late (v := .agg #[S a1.s, .slice A1532 ([] ++ a1.l).length k1533]) rfl rfl rfl rfl (fun w' hJ => by obtain ⟨hB, H12, H19⟩ := hJ; exact D.build (vs := [(0, S a1.s), (1, .slice A1532 ([] ++ a1.l).length k1533)]) (cs := [S a1.s, .slice A1532 ([] ++ a1.l).length k1533]) bld39 rfl rfl rfl ⟨rfl, Ext.refl _⟩) ?_
     refine QT.eff rfl rfl (fun w1538 hC => ?_) QT.nomore
     obtain ⟨hB, H12, H19, H1535, bs1529⟩ := hC
     refine D.alloc ti39 (cs := [S [], .slice none 0 0]) rfl rfl ?_
     intro b1539 w1540 hb1541 H1542 e1543 _
     have lt_14_1544 : ∀ x, MB b9 x → x < b1539 := (MB.lt H12 (Nat.le_of_eq hb1541.symm))
     have lt_21_1544 : ∀ x, MB b15 x → x < b1539 := (MB.lt H19 (Nat.le_of_eq hb1541.symm))
     have ne_1529_1544 : ∀ x y, MO A1532 x → MB b1539 y → x ≠ y := ne_of (MO.lt H1535 (Nat.le_of_eq hb1541.symm)) (MB.ge b1539)
     have g1544 : w.heap.size ≤ b1539 := Nat.le_trans hB.size (Nat.le_of_eq hb1541.symm)
     clear hb1541
     replace hB := below_ext hB e1543
     replace H12 := H12.ext e1543
     replace H19 := H19.ext e1543
     replace H1535 := H1535.ext e1543
     replace bs1529 := Nat.le_trans bs1529 (World.grownBy.size e1543)
     clear e1543
     refine ⟨_, rfl, (fun w' => Below w.heap.size w w' ∧ Blk w' b9 [S a1.s, .slice A2 a1.l.length k3] 39 ∧ Blk w' b15 [S [], .slice none 0 0] 39 ∧ Own ePlace 104 w' b1524 A1532 k1533 ([] ++ a1.l) ∧ b1524 ≤ w'.heap.size ∧ Blk w' b1539 [S [], .slice none 0 0] 39), ⟨hB, H12, H19, H1535, bs1529, H1542⟩, (fun a b hC hx => by obtain ⟨hB, H12, H19, H1535, bs1529, H1542⟩ := hC; exact ⟨below_ext hB hx, H12.ext hx, H19.ext hx, H1535.ext hx, Nat.le_trans bs1529 (World.grownBy.size hx), H1542.ext hx⟩), (fun a hC => by obtain ⟨hB, H12, H19, H1535, bs1529, H1542⟩ := hC; exact ⟨hB, H12, H19⟩), ?_⟩
     refine QT.eff rfl rfl (fun w1545 hC => ?_) QT.nomore
     obtain ⟨hB, H12, H19, H1535, bs1529, H1542⟩ := hC
     refine D.store (v := .agg #[S a1.s, .slice A1532 ([] ++ a1.l).length k1533]) (us := [S a1.s, .slice A1532 ([] ++ a1.l).length k1533]) sz39 H1542 rfl rfl rfl rfl rfl rfl ?_
     intro w1546 H1547 e1548
     replace hB := below_blk hB e1548 g1544
     replace H12 := H12.gr e1548 (sepB (ne_of lt_14_1544 (MB.ge b1539)))
     replace H19 := H19.gr e1548 (sepB (ne_of lt_21_1544 (MB.ge b1539)))
     replace H1535 := H1535.gr e1548 (sepB ne_1529_1544)
     replace bs1529 := Nat.le_trans bs1529 (World.grownBy.size e1548)
     clear e1548
     refine ⟨undef, rfl, (fun w' => Below w.heap.size w w' ∧ Blk w' b9 [S a1.s, .slice A2 a1.l.length k3] 39 ∧ Blk w' b15 [S [], .slice none 0 0] 39 ∧ Own ePlace 104 w' b1524 A1532 k1533 ([] ++ a1.l) ∧ b1524 ≤ w'.heap.size ∧ Blk w' b1539 [S a1.s, .slice A1532 ([] ++ a1.l).length k1533] 39), ⟨hB, H12, H19, H1535, bs1529, H1547⟩, (fun a b hC hx => by obtain ⟨hB, H12, H19, H1535, bs1529, H1547⟩ := hC; exact ⟨below_ext hB hx, H12.ext hx, H19.ext hx, H1535.ext hx, Nat.le_trans bs1529 (World.grownBy.size hx), H1547.ext hx⟩), (fun a hC => by obtain ⟨hB, H12, H19, H1535, bs1529, H1547⟩ := hC; exact ⟨hB, H12, H19⟩), ?_⟩
     refine QT.nil fun w1549 hC => ?_
     obtain ⟨hB, H12, H19, H1535, bs1529, H1547⟩ := hC
     exact ⟨b1539, A1532, k1533, ([] ++ a1.l : List Place), b1524, rfl, rfl, rfl, hB, H19, H1535, bs1529, g1529, H1547, g1544, lt_21_1529, lt_21_1544, (ne_flip (ne_of lt_21_1529 (MO.ge H1535))), ne_1529_1544, h⟩
    refine QT.eff rfl rfl (fun w1550 hC => ?_) ?_
    ·obtain ⟨hB, H12, H19, H1527o, bs1529⟩ := hC
     refine D.alloc ti39 (cs := [S [], .slice none 0 0]) rfl rfl ?_
     intro b1551 w1552 hb1553 H1554 e1555 _
     have lt_14_1556 : ∀ x, MB b9 x → x < b1551 := (MB.lt H12 (Nat.le_of_eq hb1553.symm))
     have lt_21_1556 : ∀ x, MB b15 x → x < b1551 := (MB.lt H19 (Nat.le_of_eq hb1553.symm))
     have ne_1529_1556 : ∀ x y, MO (some ⟨b1524, 0, none⟩) x → MB b1551 y → x ≠ y := ne_of (MO.lt H1527o (Nat.le_of_eq hb1553.symm)) (MB.ge b1551)
     have g1556 : w.heap.size ≤ b1551 := Nat.le_trans hB.size (Nat.le_of_eq hb1553.symm)
     clear hb1553
     replace hB := below_ext hB e1555
     replace H12 := H12.ext e1555
     replace H19 := H19.ext e1555
     replace H1527o := H1527o.ext e1555
     replace bs1529 := Nat.le_trans bs1529 (World.grownBy.size e1555)
     clear e1555
     refine ⟨_, rfl, (fun w' => Below w.heap.size w w' ∧ Blk w' b9 [S a1.s, .slice A2 a1.l.length k3] 39 ∧ Blk w' b15 [S [], .slice none 0 0] 39 ∧ Own ePlace 104 w' b1524 (some ⟨b1524, 0, none⟩) 0 [] ∧ b1524 ≤ w'.heap.size ∧ Blk w' b1551 [S [], .slice none 0 0] 39), ⟨hB, H12, H19, H1527o, bs1529, H1554⟩, (fun a b hC hx => by obtain ⟨hB, H12, H19, H1527o, bs1529, H1554⟩ := hC; exact ⟨below_ext hB hx, H12.ext hx, H19.ext hx, H1527o.ext hx, Nat.le_trans bs1529 (World.grownBy.size hx), H1554.ext hx⟩), (fun a hC => by obtain ⟨hB, H12, H19, H1527o, bs1529, H1554⟩ := hC; exact ⟨hB, H12, H19⟩), ?_⟩
     refine QT.eff rfl rfl (fun w1557 hC => ?_) QT.nomore
     obtain ⟨hB, H12, H19, H1527o, bs1529, H1554⟩ := hC
     rcases (Classical.em ((0 + a1.l.length) * 24 ≤ 140737488355328)).symm with c1558 | c1558
     ·rw [if_neg c1558] at h; cases h
     rw [if_pos c1558] at h
     refine D.append (xs := []) (ys := a1.l) (m := a1.l.length) Try.underlying37 ti104 rfl H1527o (H4.below hB) bs1529 (by first | omega | (simp at *; omega)) (by first | exact c1558 | omega | (simp at *; omega)) rfl rfl rfl rfl ?_
     intro A1559 k1560 w1561 H1562 e1563 ha1564
     have ne_1529_1556n := ne_app ha1564 ne_1529_1556 (MB.lt H1554 (Nat.le_refl _))
     replace hB := below_own hB e1563 (fun x hx => Nat.le_trans g1529 (MO.ge H1527o x hx))
     replace H12 := H12.gr e1563 (sepO (ne_of lt_14_1529 (MO.ge H1527o)))
     replace H19 := H19.gr e1563 (sepO (ne_of lt_21_1529 (MO.ge H1527o)))
     replace H1554 := H1554.gr e1563 (sepO (ne_flip ne_1529_1556))
     replace bs1529 := Nat.le_trans bs1529 (World.grownBy.size e1563)
     replace ne_1529_1556 := ne_1529_1556n
     clear e1563 ha1564 H1527o
     refine ⟨_, rfl, (fun w' => Below w.heap.size w w' ∧ Blk w' b9 [S a1.s, .slice A2 a1.l.length k3] 39 ∧ Blk w' b15 [S [], .slice none 0 0] 39 ∧ Own ePlace 104 w' b1524 A1559 k1560 ([] ++ a1.l) ∧ b1524 ≤ w'.heap.size ∧ Blk w' b1551 [S [], .slice none 0 0] 39), ⟨hB, H12, H19, H1562, bs1529, H1554⟩, (fun a b hC hx => by obtain ⟨hB, H12, H19, H1562, bs1529, H1554⟩ := hC; exact ⟨below_ext hB hx, H12.ext hx, H19.ext hx, H1562.ext hx, Nat.le_trans bs1529 (World.grownBy.size hx), H1554.ext hx⟩), (fun a hC => by obtain ⟨hB, H12, H19, H1562, bs1529, H1554⟩ := hC; exact ⟨hB, H12, H19⟩), ?_⟩
     refine QT.do (v := .agg #[S a1.s, .slice A1559 ([] ++ a1.l).length k1560]) rfl (by decide +kernel) rfl rfl rfl (fun w' hJ => by obtain ⟨hB, H12, H19, H1562, bs1529, H1554⟩ := hJ; exact D.build (vs := [(0, S a1.s), (1, .slice A1559 ([] ++ a1.l).length k1560)]) (cs := [S a1.s, .slice A1559 ([] ++ a1.l).length k1560]) bld39 rfl rfl rfl ⟨rfl, Ext.refl _⟩) ?_
     refine QT.eff rfl rfl (fun w1565 hC => ?_) QT.nomore
     obtain ⟨hB, H12, H19, H1562, bs1529, H1554⟩ := hC
     refine D.store (v := .agg #[S a1.s, .slice A1559 ([] ++ a1.l).length k1560]) (us := [S a1.s, .slice A1559 ([] ++ a1.l).length k1560]) sz39 H1554 rfl rfl rfl rfl rfl rfl ?_
     intro w1566 H1567 e1568
     replace hB := below_blk hB e1568 g1556
     replace H12 := H12.gr e1568 (sepB (ne_of lt_14_1556 (MB.ge b1551)))
     replace H19 := H19.gr e1568 (sepB (ne_of lt_21_1556 (MB.ge b1551)))
     replace H1562 := H1562.gr e1568 (sepB ne_1529_1556)
     replace bs1529 := Nat.le_trans bs1529 (World.grownBy.size e1568)
     clear e1568
     refine ⟨undef, rfl, (fun w' => Below w.heap.size w w' ∧ Blk w' b9 [S a1.s, .slice A2 a1.l.length k3] 39 ∧ Blk w' b15 [S [], .slice none 0 0] 39 ∧ Own ePlace 104 w' b1524 A1559 k1560 ([] ++ a1.l) ∧ b1524 ≤ w'.heap.size ∧ Blk w' b1551 [S a1.s, .slice A1559 ([] ++ a1.l).length k1560] 39), ⟨hB, H12, H19, H1562, bs1529, H1567⟩, (fun a b hC hx => by obtain ⟨hB, H12, H19, H1562, bs1529, H1567⟩ := hC; exact ⟨below_ext hB hx, H12.ext hx, H19.ext hx, H1562.ext hx, Nat.le_trans bs1529 (World.grownBy.size hx), H1567.ext hx⟩), (fun a hC => by obtain ⟨hB, H12, H19, H1562, bs1529, H1567⟩ := hC; exact ⟨hB, H12, H19⟩), ?_⟩
     refine QT.nil fun w1569 hC => ?_
     obtain ⟨hB, H12, H19, H1562, bs1529, H1567⟩ := hC
     exact ⟨b1551, A1559, k1560, ([] ++ a1.l : List Place), b1524, rfl, rfl, rfl, hB, H19, H1562, bs1529, g1529, H1567, g1556, lt_21_1529, lt_21_1556, (ne_flip (ne_of lt_21_1529 (MO.ge H1562))), ne_1529_1556, h⟩
    exact QT.nomore
   refine QT.eff rfl rfl (fun w1570 hC => ?_) ?_
   ·obtain ⟨hB, H12, H19⟩ := hC
    refine D.alloc ti39 (cs := [S [], .slice none 0 0]) rfl rfl ?_
    intro b1571 w1572 hb1573 H1574 e1575 _
    have lt_14_1576 : ∀ x, MB b9 x → x < b1571 := (MB.lt H12 (Nat.le_of_eq hb1573.symm))
    have lt_21_1576 : ∀ x, MB b15 x → x < b1571 := (MB.lt H19 (Nat.le_of_eq hb1573.symm))
    have g1576 : w.heap.size ≤ b1571 := Nat.le_trans hB.size (Nat.le_of_eq hb1573.symm)
    clear hb1573
    replace hB := below_ext hB e1575
    replace H12 := H12.ext e1575
    replace H19 := H19.ext e1575
    clear e1575
    refine ⟨_, rfl, (fun w' => Below w.heap.size w w' ∧ Blk w' b9 [S a1.s, .slice A2 a1.l.length k3] 39 ∧ Blk w' b15 [S [], .slice none 0 0] 39 ∧ Blk w' b1571 [S [], .slice none 0 0] 39), ⟨hB, H12, H19, H1574⟩, (fun a b hC hx => by obtain ⟨hB, H12, H19, H1574⟩ := hC; exact ⟨below_ext hB hx, H12.ext hx, H19.ext hx, H1574.ext hx⟩), (fun a hC => by obtain ⟨hB, H12, H19, H1574⟩ := hC; exact ⟨hB, H12, H19⟩), ?_⟩
    refine QT.eff rfl rfl (fun w1577 hC => ?_) QT.nomore
    obtain ⟨hB, H12, H19, H1574⟩ := hC
    refine D.buildR (vs := []) (cs := []) Try.underlying37 ti104 rfl rfl rfl rfl rfl rfl rfl ?_
    intro b1578 w1579 hb1580 H1581 e1582 zb1578
    have H1581o : Own ePlace 104 w1579 b1578 (some ⟨b1578, 0, none⟩) 0 ([] : List Place) := Blk.own (E := ePlace) (show Blk _ _ (flat ePlace []) _ from H1581) (Nat.le_refl _) (by simp)
    have lt_14_1583 : ∀ x, MB b9 x → x < b1578 := (MB.lt H12 (Nat.le_of_eq hb1580.symm))
    have lt_21_1583 : ∀ x, MB b15 x → x < b1578 := (MB.lt H19 (Nat.le_of_eq hb1580.symm))
    have lt_1576_1583 : ∀ x, MB b1571 x → x < b1578 := (MB.lt H1574 (Nat.le_of_eq hb1580.symm))
    have g1583 : w.heap.size ≤ b1578 := Nat.le_trans hB.size (Nat.le_of_eq hb1580.symm)
    clear hb1580 H1581
    have bs1583 : b1578 ≤ w1579.heap.size := Nat.le_of_lt zb1578
    replace hB := below_ext hB e1582
    replace H12 := H12.ext e1582
    replace H19 := H19.ext e1582
    replace H1574 := H1574.ext e1582
    clear e1582
    refine ⟨_, rfl, (fun w' => Below w.heap.size w w' ∧ Blk w' b9 [S a1.s, .slice A2 a1.l.length k3] 39 ∧ Blk w' b15 [S [], .slice none 0 0] 39 ∧ Blk w' b1571 [S [], .slice none 0 0] 39 ∧ Own ePlace 104 w' b1578 (some ⟨b1578, 0, none⟩) 0 [] ∧ b1578 ≤ w'.heap.size), ⟨hB, H12, H19, H1574, H1581o, bs1583⟩, (fun a b hC hx => by obtain ⟨hB, H12, H19, H1574, H1581o, bs1583⟩ := hC; exact ⟨below_ext hB hx, H12.ext hx, H19.ext hx, H1574.ext hx, H1581o.ext hx, Nat.le_trans bs1583 (World.grownBy.size hx)⟩), (fun a hC => by obtain ⟨hB, H12, H19, H1574, H1581o, bs1583⟩ := hC; exact ⟨hB, H12, H19⟩), ?_⟩
    refine QT.eff rfl rfl (fun w1584 hC => ?_) QT.nomore
    obtain ⟨hB, H12, H19, H1574, H1581o, bs1583⟩ := hC
    rcases (Classical.em ((0 + a1.l.length) * 24 ≤ 140737488355328)).symm with c1585 | c1585
    ·rw [if_neg c1585] at h; cases h
    rw [if_pos c1585] at h
    refine D.append (xs := []) (ys := a1.l) (m := a1.l.length) Try.underlying37 ti104 rfl H1581o (H4.below hB) bs1583 (by first | omega | (simp at *; omega)) (by first | exact c1585 | omega | (simp at *; omega)) rfl rfl rfl rfl ?_
    intro A1586 k1587 w1588 H1589 e1590 ha1591
    replace hB := below_own hB e1590 (fun x hx => Nat.le_trans g1583 (MO.ge H1581o x hx))
    replace H12 := H12.gr e1590 (sepO (ne_of lt_14_1583 (MO.ge H1581o)))
    replace H19 := H19.gr e1590 (sepO (ne_of lt_21_1583 (MO.ge H1581o)))
    replace H1574 := H1574.gr e1590 (sepO (ne_of lt_1576_1583 (MO.ge H1581o)))
    replace bs1583 := Nat.le_trans bs1583 (World.grownBy.size e1590)
    clear e1590 ha1591 H1581o
    refine ⟨_, rfl, (fun w' => Below w.heap.size w w' ∧ Blk w' b9 [S a1.s, .slice A2 a1.l.length k3] 39 ∧ Blk w' b15 [S [], .slice none 0 0] 39 ∧ Blk w' b1571 [S [], .slice none 0 0] 39 ∧ Own ePlace 104 w' b1578 A1586 k1587 ([] ++ a1.l) ∧ b1578 ≤ w'.heap.size), ⟨hB, H12, H19, H1574, H1589, bs1583⟩, (fun a b hC hx => by obtain ⟨hB, H12, H19, H1574, H1589, bs1583⟩ := hC; exact ⟨below_ext hB hx, H12.ext hx, H19.ext hx, H1574.ext hx, H1589.ext hx, Nat.le_trans bs1583 (World.grownBy.size hx)⟩), (fun a hC => by obtain ⟨hB, H12, H19, H1574, H1589, bs1583⟩ := hC; exact ⟨hB, H12, H19⟩), ?_⟩
    refine QT.do (v := .agg #[S a1.s, .slice A1586 ([] ++ a1.l).length k1587]) rfl (by decide +kernel) rfl rfl rfl (fun w' hJ => by obtain ⟨hB, H12, H19, H1574, H1589, bs1583⟩ := hJ; exact D.build (vs := [(0, S a1.s), (1, .slice A1586 ([] ++ a1.l).length k1587)]) (cs := [S a1.s, .slice A1586 ([] ++ a1.l).length k1587]) bld39 rfl rfl rfl ⟨rfl, Ext.refl _⟩) ?_
    refine QT.eff rfl rfl (fun w1592 hC => ?_) QT.nomore
    obtain ⟨hB, H12, H19, H1574, H1589, bs1583⟩ := hC
    refine D.store (v := .agg #[S a1.s, .slice A1586 ([] ++ a1.l).length k1587]) (us := [S a1.s, .slice A1586 ([] ++ a1.l).length k1587]) sz39 H1574 rfl rfl rfl rfl rfl rfl ?_
    intro w1593 H1594 e1595
    replace hB := below_blk hB e1595 g1576
    replace H12 := H12.gr e1595 (sepB (ne_of lt_14_1576 (MB.ge b1571)))
    replace H19 := H19.gr e1595 (sepB (ne_of lt_21_1576 (MB.ge b1571)))
    replace H1589 := H1589.gr e1595 (sepB (ne_flip (ne_of lt_1576_1583 (MO.ge H1589))))
    replace bs1583 := Nat.le_trans bs1583 (World.grownBy.size e1595)
    clear e1595
    refine ⟨undef, rfl, (fun w' => Below w.heap.size w w' ∧ Blk w' b9 [S a1.s, .slice A2 a1.l.length k3] 39 ∧ Blk w' b15 [S [], .slice none 0 0] 39 ∧ Blk w' b1571 [S a1.s, .slice A1586 ([] ++ a1.l).length k1587] 39 ∧ Own ePlace 104 w' b1578 A1586 k1587 ([] ++ a1.l) ∧ b1578 ≤ w'.heap.size), ⟨hB, H12, H19, H1594, H1589, bs1583⟩, (fun a b hC hx => by obtain ⟨hB, H12, H19, H1594, H1589, bs1583⟩ := hC; exact ⟨below_ext hB hx, H12.ext hx, H19.ext hx, H1594.ext hx, H1589.ext hx, Nat.le_trans bs1583 (World.grownBy.size hx)⟩), (fun a hC => by obtain ⟨hB, H12, H19, H1594, H1589, bs1583⟩ := hC; exact ⟨hB, H12, H19⟩), ?_⟩
    refine QT.nil fun w1596 hC => ?_
    obtain ⟨hB, H12, H19, H1594, H1589, bs1583⟩ := hC
    exact ⟨b1571, A1586, k1587, ([] ++ a1.l : List Place), b1578, rfl, rfl, rfl, hB, H19, H1589, bs1583, g1583, H1594, g1576, lt_21_1583, lt_21_1576, (ne_flip (ne_of lt_21_1583 (MO.ge H1589))), (ne_flip (ne_of lt_1576_1583 (MO.ge H1589))), h⟩
   exact QT.nomore
  ·intro f204 w203 hI
   obtain ⟨b194, A195, k196, l197, B198, s205, s206, s207, hB, H193, H199, bs200, hg200, H201, hg202, pr21_200, pr21_202, pr200_21, pr200_202, h⟩ := hI
   refine X.fr (d := 1) s205 ?_
   refine X.fr (d := 4) s206 ?_
   refine X.fr (d := 6) s207 ?_
   unfold derrickref03_Name.j1 at h
   refine X.seq fun M821 hM822 => ?_
   refine X.block ?_
   refine X.loop (fun kq1451 => fun f1245 w1244 => ∃ x1233 : Str, ∃ x1235 : Str, ∃ A1236 : Option Addr, ∃ k1237 : Nat, ∃ l1238 : List Place, ∃ B1239 : Nat, f1245 1 = S x1233 ∧ f1245 4 = pt b15 0 ∧ f1245 6 = pt b194 0 ∧ Below w.heap.size w w1244 ∧ Blk w1244 b15 [S [], .slice none 0 0] 39 ∧ Own ePlace 104 w1244 B1239 A1236 k1237 l1238 ∧ B1239 ≤ w1244.heap.size ∧ w.heap.size ≤ B1239 ∧ Blk w1244 b194 [S x1235, .slice A1236 l1238.length k1237] 39 ∧ (∀ x, MB b15 x → x < B1239) ∧ (∀ x, MB b15 x → x < b194) ∧ (∀ x y, MO A1236 x → MB b15 y → x ≠ y) ∧ (∀ x y, MO A1236 x → MB b194 y → x ≠ y) ∧ derrickref03_Name.l2 kq1451 x1233 x1235 l1238 = some res) kf ?_ ?_
   ·exact ⟨a6, a1.s, A195, k196, l197, B198, rfl, rfl, rfl, hB, H193, H199, bs200, hg200, H201, pr21_200, pr21_202, pr200_21, pr200_202, h⟩
   ·intro kq1451 f1245 w1244 hI
    obtain ⟨x1233, x1235, A1236, k1237, l1238, B1239, s1246, s1247, s1248, hB, H1234, H1240, bs1241, hg1241, H1242, pr21_1241, pr21_202, pr1241_21, pr1241_202, h⟩ := hI
    cases kq1451 with
    | zero => exact absurd h (by rw [derrickref03_Name.l2.eq_1]; simp)
    | succ kf1232 =>
     rw [derrickref03_Name.l2.eq_2] at h
     refine X.fr (d := 1) s1246 ?_
     refine X.fr (d := 4) s1247 ?_
     refine X.fr (d := 6) s1248 ?_
     refine X.seq fun M1253 hM1254 => ?_
     refine X.seq fun M1255 hM1256 => ?_
     refine X.region ?_
     refine XO.do rfl (D.mv (v := S x1233) rfl rfl ?_)
     refine XO.do rfl (D.neqS rfl rfl rfl ?_)
     refine XO.nil ?_
     refine hM1256 _ _ ?_
     by_cases c1257 : x1233 = ([0] : Str)
     ·rw [if_pos c1257] at h
      refine X.condF (congrArg Value.bool ((congrArg (!·) (beq_iff_eq.2 c1257)))) ?_
      refine X.exit rfl ?_
      refine hM822 _ _ ?_
      refine X.seq fun M1258 hM1259 => ?_
      refine X.region ?_
      refine XO.do rfl (D.loadA (j := 0) (us := [S x1235, .slice A1236 l1238.length k1237]) ag39 H1242.cs rfl rfl rfl rfl rfl ?_)
      rcases (Classical.em (derrickref03_Add.pre (⟨x1235, l1238⟩ : RPack) ([0] : Str))).symm with c1260 | c1260
      ·rw [if_neg c1260] at h; cases h
      rw [if_pos c1260] at h
      obtain ⟨r1264, q1265, h⟩ := lt_elim h
      have hc1263 := derrickref03_Add.ok (⟨x1235, l1238⟩ : RPack) ([0] : Str) A1236 k1237 w1244 H1240.row c1260 
      rw [q1265] at hc1263
      clear q1265
      refine XO.do rfl (D.call (vs := [.agg #[S x1235, .slice A1236 l1238.length k1237], S [0]]) cf33 hc1263 rfl rfl ?_)
      rintro _ w1261 ⟨A1266, k1267, rfl, H1268, g1269, e1262⟩
      clear hc1263
      have og1270 : (∀ y, MR A1266 r1264.l y → w.heap.size ≤ y ∨ MR A2 a1.l y) := fun y hy => (g1269 y hy).elim (fun h => .inl (Nat.le_trans hB.size h)) (fun h => .inl (Nat.le_trans hg1241 (MO.ge H1240 y h.1)))
      have nf1270_21 : ∀ x y, MR A1266 r1264.l x → MB b15 y → x ≠ y := fun x y hx hy => (g1269 x hx).elim (fun h e => Nat.lt_irrefl _ (Nat.lt_of_lt_of_le ((MB.lt H1234 (Nat.le_refl _)) y hy) (e ▸ h))) (fun h => pr1241_21 x y h.1 hy)
      have nf1270_202 : ∀ x y, MR A1266 r1264.l x → MB b194 y → x ≠ y := fun x y hx hy => (g1269 x hx).elim (fun h e => Nat.lt_irrefl _ (Nat.lt_of_lt_of_le ((MB.lt H1242 (Nat.le_refl _)) y hy) (e ▸ h))) (fun h => pr1241_202 x y h.1 hy)
      replace hB := below_ext hB e1262
      replace H1234 := H1234.ext e1262
      replace H1240 := H1240.ext e1262
      replace bs1241 := Nat.le_trans bs1241 (World.grownBy.size e1262)
      replace H1242 := H1242.ext e1262
      clear e1262
      refine XO.do rfl (D.store (v := .agg #[S r1264.s, .slice A1266 r1264.l.length k1267]) (us := [S r1264.s, .slice A1266 r1264.l.length k1267]) sz39 H1234 rfl rfl rfl rfl rfl rfl ?_)
      intro w1271 H1272 e1273
      replace hB := below_blk hB e1273 g21
      replace H1240 := H1240.gr e1273 (sepB pr1241_21)
      replace bs1241 := Nat.le_trans bs1241 (World.grownBy.size e1273)
      replace H1242 := H1242.gr e1273 (sepB (ne_flip (ne_of pr21_202 (MB.ge b194))))
      replace H1268 := H1268.gr e1273 (sepB nf1270_21)
      clear e1273
      refine XO.do rfl (D.asn (v := .int .i64 0) rfl rfl ?_)
      refine XO.nil ?_
      refine hM1259 _ _ ?_
      refine X.ret ?_
      injection h with h
      subst h
      exact hR _ _ _ (retCT ag39 H1272 rfl rfl rfl rfl) ⟨A1266, k1267, rfl, H1268, (fun y hy => og1270 y hy), ext_of_below hB⟩
     ·rw [if_neg c1257] at h
      refine X.condT (congrArg Value.bool ((congrArg (!·) (beq_eq_false_iff_ne.2 c1257)))) ?_
      refine X.skip ?_
      refine hM1254 _ _ ?_
      refine X.block ?_
      refine X.seq fun M1274 hM1275 => ?_
      refine X.region ?_
      refine XO.do rfl (D.loadA (j := 0) (us := [S x1235, .slice A1236 l1238.length k1237]) ag39 H1242.cs rfl rfl rfl rfl rfl ?_)
      refine XO.do rfl (D.mv (v := S x1233) rfl rfl ?_)
      rcases (Classical.em (derrickref03_known.pre (⟨x1235, l1238⟩ : RPack) x1233)).symm with c1276 | c1276
      ·rw [if_neg c1276] at h; cases h
      rw [if_pos c1276] at h
      obtain ⟨r1280, q1281, h⟩ := lt_elim h
      have hc1279 := derrickref03_known.ok (⟨x1235, l1238⟩ : RPack) x1233 A1236 k1237 w1244 H1240.row c1276 
      rw [q1281] at hc1279
      clear q1281
      refine XO.do rfl (D.call (vs := [.agg #[S x1235, .slice A1236 l1238.length k1237], S x1233]) cf57 hc1279 rfl rfl ?_)
      rintro _ w1277 ⟨rfl, e1278⟩
      clear hc1279
      replace hB := below_ext hB e1278
      replace H1234 := H1234.ext e1278
      replace H1240 := H1240.ext e1278
      replace bs1241 := Nat.le_trans bs1241 (World.grownBy.size e1278)
      replace H1242 := H1242.ext e1278
      clear e1278
      refine XO.do rfl (D.asn (v := .int .i64 r1280) rfl rfl ?_)
      refine XO.nil ?_
      refine hM1275 _ _ ?_
      refine X.seq fun M1330 hM1331 => ?_
      refine X.seq fun M1332 hM1333 => ?_
      refine X.region ?_
      refine XO.do rfl (D.mv (v := .int .i64 r1280) rfl rfl ?_)
      refine XO.do rfl (D.geq rfl rfl rfl ?_)
      refine XO.nil ?_
      refine hM1333 _ _ ?_
      by_cases c1334 : 0 ≤ r1280
      ·rw [if_pos c1334] at h
       refine X.condT (congrArg Value.bool (decide_eq_true c1334)) ?_
       refine X.seq fun M1335 hM1336 => ?_
       refine X.tree mixed0 [0, 0, 2, 6, 14, 31, 63, 127] (.q 0 (.q 1 (.q 2 (.q 3 (.q 4 (.alt 5 (.alt 6 (.q 7 .nil) .nil) .nil)))))) (fun w' => Below w.heap.size w w' ∧ Own ePlace 104 w' B1239 A1236 k1237 l1238 ∧ B1239 ≤ w'.heap.size ∧ Blk w' b194 [S x1235, .slice A1236 l1238.length k1237] 39) (fun w' => Below w.heap.size w w' ∧ Blk w' b15 [S [], .slice none 0 0] 39 ∧ Own ePlace 104 w' B1239 A1236 k1237 l1238 ∧ B1239 ≤ w'.heap.size ∧ Blk w' b194 [S x1235, .slice A1236 l1238.length k1237] 39) (by decide +kernel) (fun w' hx _ => ⟨below_ext hB hx, H1234.ext hx, H1240.ext hx, Nat.le_trans bs1241 (World.grownBy.size hx), H1242.ext hx⟩) (fun a b hC hx => by obtain ⟨hB, H1234, H1240, bs1241, H1242⟩ := hC; exact ⟨below_ext hB hx, H1234.ext hx, H1240.ext hx, Nat.le_trans bs1241 (World.grownBy.size hx), H1242.ext hx⟩) (fun a hC => by obtain ⟨hB, H1234, H1240, bs1241, H1242⟩ := hC; exact ⟨hB, H1240, bs1241, H1242⟩) ?_
       refine QT.do (v := .agg #[S x1235, .slice A1236 l1238.length k1237]) rfl (by decide +kernel) rfl rfl rfl (fun w' hJ => by obtain ⟨hB, H1234, H1240, bs1241, H1242⟩ := hJ; exact D.loadA (j := 0) (us := [S x1235, .slice A1236 l1238.length k1237]) ag39 H1242.cs rfl rfl rfl rfl rfl ⟨rfl, Ext.refl _⟩) ?_
       refine QT.do (v := .int .i64 r1280) rfl (by decide +kernel) rfl rfl rfl (fun w' hJ => by obtain ⟨hB, H1234, H1240, bs1241, H1242⟩ := hJ; exact D.mv (v := .int .i64 r1280) rfl rfl ⟨rfl, Ext.refl _⟩) ?_
       refine QT.do (v := .int .i64 (w64 (49152 + r1280))) rfl (by decide +kernel) rfl rfl rfl (fun w' hJ => by obtain ⟨hB, H1234, H1240, bs1241, H1242⟩ := hJ; exact D.add rfl rfl rfl ⟨rfl, Ext.refl _⟩) ?_
       refine QT.do (v := .int .u16 (w16 (w64 (49152 + r1280)))) rfl (by decide +kernel) rfl rfl rfl (fun w' hJ => by obtain ⟨hB, H1234, H1240, bs1241, H1242⟩ := hJ; exact D.conv Try.underlying3 Try.underlying22 rfl rfl ⟨rfl, Ext.refl _⟩) ?_
       obtain ⟨r1361, q1362, h⟩ := lt_elim h
       refine QT.do (v := S r1361) rfl (by decide +kernel) rfl rfl rfl (fun w' hJ => by obtain ⟨hB, H1234, H1240, bs1241, H1242⟩ := hJ; have hc := derrickref01_Put16.ok (w16 (w64 (49152 + r1280))) w'; rw [q1362] at hc; refine D.call (vs := [.int .u16 (w16 (w64 (49152 + r1280)))]) cf34 hc rfl rfl ?_; rintro _ w2 ⟨rfl, e2⟩; exact ⟨rfl, e2⟩) ?_
       refine QT.eff rfl rfl (fun w1363 hC => ?_) QT.nomore
       obtain ⟨hB, H1234, H1240, bs1241, H1242⟩ := hC
       rcases (Classical.em (derrickref03_Add.pre (⟨x1235, l1238⟩ : RPack) r1361)).symm with c1364 | c1364
       ·rw [if_neg c1364] at h; cases h
       rw [if_pos c1364] at h
       obtain ⟨r1368, q1369, h⟩ := lt_elim h
       have hc1367 := derrickref03_Add.ok (⟨x1235, l1238⟩ : RPack) r1361 A1236 k1237 w1363 H1240.row c1364 
       rw [q1369] at hc1367
       clear q1369
       refine D.call (vs := [.agg #[S x1235, .slice A1236 l1238.length k1237], S r1361]) cf33 hc1367 rfl rfl ?_
       rintro _ w1365 ⟨A1370, k1371, rfl, H1372, g1373, e1366⟩
       clear hc1367
       have og1374 : (∀ y, MR A1370 r1368.l y → w.heap.size ≤ y ∨ MR A2 a1.l y) := fun y hy => (g1373 y hy).elim (fun h => .inl (Nat.le_trans hB.size h)) (fun h => .inl (Nat.le_trans hg1241 (MO.ge H1240 y h.1)))
       have nf1374_21 : ∀ x y, MR A1370 r1368.l x → MB b15 y → x ≠ y := fun x y hx hy => (g1373 x hx).elim (fun h e => Nat.lt_irrefl _ (Nat.lt_of_lt_of_le ((MB.lt H1234 (Nat.le_refl _)) y hy) (e ▸ h))) (fun h => pr1241_21 x y h.1 hy)
       have nf1374_202 : ∀ x y, MR A1370 r1368.l x → MB b194 y → x ≠ y := fun x y hx hy => (g1373 x hx).elim (fun h e => Nat.lt_irrefl _ (Nat.lt_of_lt_of_le ((MB.lt H1242 (Nat.le_refl _)) y hy) (e ▸ h))) (fun h => pr1241_202 x y h.1 hy)
       replace hB := below_ext hB e1366
       replace H1234 := H1234.ext e1366
       replace H1240 := H1240.ext e1366
       replace bs1241 := Nat.le_trans bs1241 (World.grownBy.size e1366)
       replace H1242 := H1242.ext e1366
       clear e1366
       refine ⟨_, rfl, (fun w' => Below w.heap.size w w' ∧ Blk w' b15 [S [], .slice none 0 0] 39 ∧ Own ePlace 104 w' B1239 A1236 k1237 l1238 ∧ B1239 ≤ w'.heap.size ∧ Blk w' b194 [S x1235, .slice A1236 l1238.length k1237] 39 ∧ Row ePlace w' A1370 k1371 r1368.l), ⟨hB, H1234, H1240, bs1241, H1242, H1372⟩, (fun a b hC hx => by obtain ⟨hB, H1234, H1240, bs1241, H1242, H1372⟩ := hC; exact ⟨below_ext hB hx, H1234.ext hx, H1240.ext hx, Nat.le_trans bs1241 (World.grownBy.size hx), H1242.ext hx, H1372.ext hx⟩), (fun a hC => by obtain ⟨hB, H1234, H1240, bs1241, H1242, H1372⟩ := hC; exact ⟨hB, H1240, bs1241, H1242⟩), ?_⟩
       refine QT.eff rfl rfl (fun w1375 hC => ?_) QT.nomore
       obtain ⟨hB, H1234, H1240, bs1241, H1242, H1372⟩ := hC
       refine D.store (v := .agg #[S r1368.s, .slice A1370 r1368.l.length k1371]) (us := [S r1368.s, .slice A1370 r1368.l.length k1371]) sz39 H1234 rfl rfl rfl rfl rfl rfl ?_
       intro w1376 H1377 e1378
       replace hB := below_blk hB e1378 g21
       replace H1240 := H1240.gr e1378 (sepB pr1241_21)
       replace bs1241 := Nat.le_trans bs1241 (World.grownBy.size e1378)
       replace H1242 := H1242.gr e1378 (sepB (ne_flip (ne_of pr21_202 (MB.ge b194))))
       replace H1372 := H1372.gr e1378 (sepB nf1374_21)
       clear e1378
       refine ⟨undef, rfl, (fun w' => Below w.heap.size w w' ∧ Blk w' b15 [S r1368.s, .slice A1370 r1368.l.length k1371] 39 ∧ Own ePlace 104 w' B1239 A1236 k1237 l1238 ∧ B1239 ≤ w'.heap.size ∧ Blk w' b194 [S x1235, .slice A1236 l1238.length k1237] 39 ∧ Row ePlace w' A1370 k1371 r1368.l), ⟨hB, H1377, H1240, bs1241, H1242, H1372⟩, (fun a b hC hx => by obtain ⟨hB, H1377, H1240, bs1241, H1242, H1372⟩ := hC; exact ⟨below_ext hB hx, H1377.ext hx, H1240.ext hx, Nat.le_trans bs1241 (World.grownBy.size hx), H1242.ext hx, H1372.ext hx⟩), (fun a hC => by obtain ⟨hB, H1377, H1240, bs1241, H1242, H1372⟩ := hC; exact ⟨hB, H1240, bs1241, H1242⟩), ?_⟩
       refine QT.do (v := .int .i64 0) rfl (by decide +kernel) rfl rfl rfl (fun w' hJ => by obtain ⟨hB, H1377, H1240, bs1241, H1242, H1372⟩ := hJ; exact D.asn (v := .int .i64 0) rfl rfl ⟨rfl, Ext.refl _⟩) ?_
       refine QT.nil fun w1379 hC => ?_
       obtain ⟨hB, H1377, H1240, bs1241, H1242, H1372⟩ := hC
       refine hM1336 _ _ ?_
       refine X.ret ?_
       injection h with h
       subst h
       exact hR _ _ _ (retCT ag39 H1377 rfl rfl rfl rfl) ⟨A1370, k1371, rfl, H1372, (fun y hy => og1374 y hy), ext_of_below hB⟩
      ·rw [if_neg c1334] at h
       refine X.condF (congrArg Value.bool (decide_eq_false c1334)) ?_
       refine X.skip ?_
       refine hM1331 _ _ ?_
       refine X.cut (fun f1408 w1407 => ∃ A1400 : Option Addr, ∃ k1401 : Nat, ∃ l1402 : List Place, ∃ B1403 : Nat, f1408 1 = S x1233 ∧ f1408 4 = pt b15 0 ∧ f1408 6 = pt b194 0 ∧ Below w.heap.size w w1407 ∧ Blk w1407 b15 [S [], .slice none 0 0] 39 ∧ Own ePlace 104 w1407 B1403 A1400 k1401 l1402 ∧ B1403 ≤ w1407.heap.size ∧ w.heap.size ≤ B1403 ∧ Blk w1407 b194 [S x1235, .slice A1400 l1402.length k1401] 39 ∧ (∀ x, MB b15 x → x < B1403) ∧ (∀ x, MB b15 x → x < b194) ∧ (∀ x y, MO A1400 x → MB b15 y → x ≠ y) ∧ (∀ x y, MO A1400 x → MB b194 y → x ≠ y) ∧ derrickref03_Name.j3 x1233 x1235 (derrickref03_Name.l2 kf1232) l1402 = some res) ?_ ?_
       ·refine X.seq fun M1432 hM1433 => ?_
        refine X.region ?_
        refine XO.do rfl (D.fieldAddr (o' := 0) fa39_0 rfl rfl rfl ?_)
        refine XO.do rfl (D.load (j := 0) (v := S x1235) sc9 H1242.cs rfl rfl rfl rfl ?_)
        refine XO.do rfl (D.lenS Try.underlying9 rfl rfl ?_)
        refine XO.do rfl (D.lss rfl rfl rfl ?_)
        refine XO.nil ?_
        refine hM1433 _ _ ?_
        by_cases c1434 : (x1235.length : Int) < 16384
        ·rw [if_pos c1434] at h
         refine X.condT (congrArg Value.bool (decide_eq_true c1434)) ?_
         refine X.region ?_
         refine XO.do rfl (D.fieldAddr (o' := 1) fa39_1 rfl rfl rfl ?_)
         refine XO.do rfl (D.load (j := 1) (v := .slice A1236 l1238.length k1237) sc37 H1242.cs rfl rfl rfl rfl ?_)
         refine XO.do rfl (D.mv (v := S x1233) rfl rfl ?_)
         refine XO.do rfl (D.fieldAddr (o' := 0) fa39_0 rfl rfl rfl ?_)
         refine XO.do rfl (D.load (j := 0) (v := S x1235) sc9 H1242.cs rfl rfl rfl rfl ?_)
         refine XO.do rfl (D.lenS Try.underlying9 rfl rfl ?_)
         refine XO.do rfl (D.build (vs := [(0, S x1233), (1, .int .i64 (x1235.length : Int))]) (cs := [S x1233, .int .i64 (x1235.length : Int)]) bld104 rfl rfl rfl ?_)
         refine XO.do rfl (D.buildR (vs := [.agg #[S x1233, .int .i64 (x1235.length : Int)]]) (cs := [S x1233, .int .i64 (x1235.length : Int)]) Try.underlying37 ti104 rfl rfl rfl rfl rfl rfl rfl ?_)
         intro b1435 w1436 hb1437 H1438 e1439 zb1435
         have H1438o : Own ePlace 104 w1436 b1435 (some ⟨b1435, 0, none⟩) 1 ([(⟨x1233, (x1235.length : Int)⟩ : Place)] : List Place) := Blk.own (E := ePlace) (show Blk _ _ (flat ePlace [(⟨x1233, (x1235.length : Int)⟩ : Place)]) _ from H1438) (Nat.le_refl _) (by simp)
         have lt_21_1440 : ∀ x, MB b15 x → x < b1435 := (MB.lt H1234 (Nat.le_of_eq hb1437.symm))
         have ne_1241_1440 : ∀ x y, MO A1236 x → MO (some ⟨b1435, 0, none⟩) y → x ≠ y := ne_of (MO.lt H1240 (Nat.le_of_eq hb1437.symm)) (MO.ge H1438o)
         have lt_202_1440 : ∀ x, MB b194 x → x < b1435 := (MB.lt H1242 (Nat.le_of_eq hb1437.symm))
         have g1440 : w.heap.size ≤ b1435 := Nat.le_trans hB.size (Nat.le_of_eq hb1437.symm)
         clear hb1437 H1438
         have bs1440 : b1435 ≤ w1436.heap.size := Nat.le_of_lt zb1435
         replace hB := below_ext hB e1439
         replace H1234 := H1234.ext e1439
         replace H1240 := H1240.ext e1439
         replace bs1241 := Nat.le_trans bs1241 (World.grownBy.size e1439)
         replace H1242 := H1242.ext e1439
         clear e1439
         rcases (Classical.em ((l1238.length + 1) * 24 ≤ 140737488355328)).symm with c1441 | c1441
         ·rw [if_neg c1441] at h; cases h
         rw [if_pos c1441] at h
         refine XO.do rfl (D.append (xs := l1238) (ys := [(⟨x1233, (x1235.length : Int)⟩ : Place)]) (m := 1) Try.underlying37 ti104 rfl H1240 H1438o.row bs1241 (by first | omega | (simp at *; omega)) (by first | exact c1441 | omega | (simp at *; omega)) rfl rfl rfl rfl ?_)
         intro A1442 k1443 w1444 H1445 e1446 ha1447
         have pr1241_21n := ne_app ha1447 pr1241_21 (MB.lt H1234 (Nat.le_refl _))
         have pr1241_202n := ne_app ha1447 pr1241_202 (MB.lt H1242 (Nat.le_refl _))
         have ne_1241_1440n := ne_app ha1447 ne_1241_1440 (MO.lt H1438o (Nat.le_refl _))
         replace hB := below_own hB e1446 (fun x hx => Nat.le_trans hg1241 (MO.ge H1240 x hx))
         replace H1234 := H1234.gr e1446 (sepO (ne_of pr21_1241 (MO.ge H1240)))
         replace H1242 := H1242.gr e1446 (sepO (ne_flip pr1241_202))
         replace H1438o := H1438o.gr e1446 (sepO (ne_flip ne_1241_1440))
         replace bs1440 := Nat.le_trans bs1440 (World.grownBy.size e1446)
         replace bs1241 := Nat.le_trans bs1241 (World.grownBy.size e1446)
         replace pr1241_21 := pr1241_21n
         replace pr1241_202 := pr1241_202n
         replace ne_1241_1440 := ne_1241_1440n
         clear e1446 ha1447 H1240
         refine XO.do rfl (D.fieldAddr (o' := 1) fa39_1 rfl rfl rfl ?_)
         refine XO.do rfl (D.store (v := .slice A1442 (l1238 ++ [(⟨x1233, (x1235.length : Int)⟩ : Place)]).length k1443) (us := [S x1235, .slice A1442 (l1238 ++ [(⟨x1233, (x1235.length : Int)⟩ : Place)]).length k1443]) sz37 H1242 rfl rfl rfl rfl rfl rfl ?_)
         intro w1448 H1449 e1450
         replace hB := below_blk hB e1450 hg202
         replace H1234 := H1234.gr e1450 (sepB (ne_of pr21_202 (MB.ge b194)))
         replace H1445 := H1445.gr e1450 (sepB pr1241_202)
         replace bs1241 := Nat.le_trans bs1241 (World.grownBy.size e1450)
         replace H1438o := H1438o.gr e1450 (sepB (ne_flip (ne_of lt_202_1440 (MO.ge H1438o))))
         replace bs1440 := Nat.le_trans bs1440 (World.grownBy.size e1450)
         clear e1450
         refine XO.nil ?_
         exact ⟨A1442, k1443, l1238 ++ [(⟨x1233, (x1235.length : Int)⟩ : Place)], B1239, rfl, rfl, rfl, hB, H1234, H1445, bs1241, hg1241, H1449, pr21_1241, pr21_202, pr1241_21, pr1241_202, h⟩
        ·rw [if_neg c1434] at h
         refine X.condF (congrArg Value.bool (decide_eq_false c1434)) ?_
         refine X.skip ?_
         exact ⟨A1236, k1237, l1238, B1239, rfl, rfl, rfl, hB, H1234, H1240, bs1241, hg1241, H1242, pr21_1241, pr21_202, pr1241_21, pr1241_202, h⟩
       ·intro f1408 w1407 hI
        obtain ⟨A1400, k1401, l1402, B1403, s1409, s1410, s1411, hB, H1399, H1404, bs1405, hg1405, H1406, pr21_1405, pr21_202, pr1405_21, pr1405_202, h⟩ := hI
        refine X.fr (d := 1) s1409 ?_
        refine X.fr (d := 4) s1410 ?_
        refine X.fr (d := 6) s1411 ?_
        unfold derrickref03_Name.j3 at h
        refine X.seq fun M1412 hM1413 => ?_
        refine X.region ?_
        refine XO.do rfl (D.mv (v := S x1233) rfl rfl ?_)
        rcases (Classical.em (0 < (x1233.length : Int))).symm with c1414 | c1414
        ·rw [if_neg c1414] at h; cases h
        rw [if_pos c1414] at h
        refine XO.do rfl (D.indexS (i := (0 : Int)) Try.underlying9 rfl rfl (by first | decide | simp | omega) c1414 rfl ?_)
        refine XO.do rfl (D.conv Try.underlying5 Try.underlying3 rfl rfl ?_)
        refine XO.do rfl (D.add rfl rfl rfl ?_)
        refine XO.do rfl (D.asn (v := .int .i64 (w64 (1 + (w64 (bt x1233 0))))) rfl rfl ?_)
        refine XO.nil ?_
        refine hM1413 _ _ ?_
        refine X.seq fun M1415 hM1416 => ?_
        refine X.tree mixed0 [0, 1, 0, 0, 12, 31, 63, 127] (.q 0 (.q 1 (.q 2 (.q 3 (.q 4 (.q 5 (.q 6 (.alt 7 .nil .nil)))))))) (fun w' => Below w.heap.size w w' ∧ Blk w' b15 [S [], .slice none 0 0] 39 ∧ Own ePlace 104 w' B1403 A1400 k1401 l1402 ∧ B1403 ≤ w'.heap.size) (fun w' => Below w.heap.size w w' ∧ Blk w' b15 [S [], .slice none 0 0] 39 ∧ Own ePlace 104 w' B1403 A1400 k1401 l1402 ∧ B1403 ≤ w'.heap.size ∧ Blk w' b194 [S x1235, .slice A1400 l1402.length k1401] 39) (by decide +kernel) (fun w' hx _ => ⟨below_ext hB hx, H1399.ext hx, H1404.ext hx, Nat.le_trans bs1405 (World.grownBy.size hx), H1406.ext hx⟩) (fun a b hC hx => by obtain ⟨hB, H1399, H1404, bs1405, H1406⟩ := hC; exact ⟨below_ext hB hx, H1399.ext hx, H1404.ext hx, Nat.le_trans bs1405 (World.grownBy.size hx), H1406.ext hx⟩) (fun a hC => by obtain ⟨hB, H1399, H1404, bs1405, H1406⟩ := hC; exact ⟨hB, H1399, H1404, bs1405⟩) ?_
        refine QT.do (v := pt b194 0) rfl (by decide +kernel) rfl rfl rfl (fun w' hJ => by obtain ⟨hB, H1399, H1404, bs1405, H1406⟩ := hJ; exact D.fieldAddr (o' := 0) fa39_0 rfl rfl rfl ⟨rfl, Ext.refl _⟩) ?_
        refine QT.do (v := S x1235) rfl (by decide +kernel) rfl rfl rfl (fun w' hJ => by obtain ⟨hB, H1399, H1404, bs1405, H1406⟩ := hJ; exact D.load (j := 0) (v := S x1235) sc9 H1406.cs rfl rfl rfl rfl ⟨rfl, Ext.refl _⟩) ?_
        refine QT.do (v := S x1233) rfl (by decide +kernel) rfl rfl rfl (fun w' hJ => by obtain ⟨hB, H1399, H1404, bs1405, H1406⟩ := hJ; exact D.mv (v := S x1233) rfl rfl ⟨rfl, Ext.refl _⟩) ?_
        refine QT.do (v := .int .i64 (w64 (1 + (w64 (bt x1233 0))))) rfl (by decide +kernel) rfl rfl rfl (fun w' hJ => by obtain ⟨hB, H1399, H1404, bs1405, H1406⟩ := hJ; exact D.mv (v := .int .i64 (w64 (1 + (w64 (bt x1233 0))))) rfl rfl ⟨rfl, Ext.refl _⟩) ?_
        rcases (Classical.em (0 ≤ w64 (1 + (w64 (bt x1233 0))))).symm with c1424 | c1424
        ·rw [if_neg c1424] at h; cases h
        rw [if_pos c1424] at h
        rcases (Classical.em (w64 (1 + (w64 (bt x1233 0))) ≤ (x1233.length : Int))).symm with c1425 | c1425
        ·rw [if_neg c1425] at h; cases h
        rw [if_pos c1425] at h
        refine QT.do (v := S (x1233.take (w64 (1 + (w64 (bt x1233 0)))).toNat)) rfl (by decide +kernel) rfl rfl rfl (fun w' hJ => by obtain ⟨hB, H1399, H1404, bs1405, H1406⟩ := hJ; exact D.sliceShi (j := w64 (1 + (w64 (bt x1233 0)))) Try.underlying9 rfl rfl c1424 c1425 rfl ⟨rfl, Ext.refl _⟩) ?_
        rcases (Classical.em (x1235.length + (x1233.take (w64 (1 + (w64 (bt x1233 0)))).toNat).length ≤ 9223372036854775807)).symm with c1426 | c1426
        ·rw [if_neg c1426] at h; cases h
        rw [if_pos c1426] at h
        refine QT.do (v := S (x1235 ++ (x1233.take (w64 (1 + (w64 (bt x1233 0)))).toNat))) rfl (by decide +kernel) rfl rfl rfl (fun w' hJ => by obtain ⟨hB, H1399, H1404, bs1405, H1406⟩ := hJ; exact D.addS rfl rfl c1426 rfl ⟨rfl, Ext.refl _⟩) ?_
        refine QT.do (v := pt b194 0) rfl (by decide +kernel) rfl rfl rfl (fun w' hJ => by obtain ⟨hB, H1399, H1404, bs1405, H1406⟩ := hJ; exact D.fieldAddr (o' := 0) fa39_0 rfl rfl rfl ⟨rfl, Ext.refl _⟩) ?_
        refine QT.eff rfl rfl (fun w1427 hC => ?_) QT.nomore
        obtain ⟨hB, H1399, H1404, bs1405, H1406⟩ := hC
        refine D.store (v := S (x1235 ++ (x1233.take (w64 (1 + (w64 (bt x1233 0)))).toNat))) (us := [S (x1235 ++ (x1233.take (w64 (1 + (w64 (bt x1233 0)))).toNat)), .slice A1400 l1402.length k1401]) sz9 H1406 rfl rfl rfl rfl rfl rfl ?_
        intro w1428 H1429 e1430
        replace hB := below_blk hB e1430 hg202
        replace H1399 := H1399.gr e1430 (sepB (ne_of pr21_202 (MB.ge b194)))
        replace H1404 := H1404.gr e1430 (sepB pr1405_202)
        replace bs1405 := Nat.le_trans bs1405 (World.grownBy.size e1430)
        clear e1430
        refine ⟨undef, rfl, (fun w' => Below w.heap.size w w' ∧ Blk w' b15 [S [], .slice none 0 0] 39 ∧ Own ePlace 104 w' B1403 A1400 k1401 l1402 ∧ B1403 ≤ w'.heap.size ∧ Blk w' b194 [S (x1235 ++ (x1233.take (w64 (1 + (w64 (bt x1233 0)))).toNat)), .slice A1400 l1402.length k1401] 39), ⟨hB, H1399, H1404, bs1405, H1429⟩, (fun a b hC hx => by obtain ⟨hB, H1399, H1404, bs1405, H1429⟩ := hC; exact ⟨below_ext hB hx, H1399.ext hx, H1404.ext hx, Nat.le_trans bs1405 (World.grownBy.size hx), H1429.ext hx⟩), (fun a hC => by obtain ⟨hB, H1399, H1404, bs1405, H1429⟩ := hC; exact ⟨hB, H1399, H1404, bs1405⟩), ?_⟩
        refine QT.nil fun w1431 hC => ?_
        obtain ⟨hB, H1399, H1404, bs1405, H1429⟩ := hC
        refine hM1416 _ _ ?_
        refine X.region ?_
        refine XO.do rfl (D.mv (v := S x1233) rfl rfl ?_)
        refine XO.do rfl (D.mv (v := .int .i64 (w64 (1 + (w64 (bt x1233 0))))) rfl rfl ?_)
        refine XO.do rfl (D.sliceSlo (i := w64 (1 + (w64 (bt x1233 0)))) Try.underlying9 rfl rfl c1424 c1425 rfl ?_)
        refine XO.do rfl (D.asn (v := S (x1233.drop (w64 (1 + (w64 (bt x1233 0)))).toNat)) rfl rfl ?_)
        refine XO.nil ?_
        exact ⟨kf1232, Nat.lt_succ_self _, x1233.drop (w64 (1 + (w64 (bt x1233 0)))).toNat, x1235 ++ (x1233.take (w64 (1 + (w64 (bt x1233 0)))).toNat), A1400, k1401, l1402, B1403, rfl, rfl, rfl, hB, H1399, H1404, bs1405, hg1405, H1429, pr21_1405, pr21_202, pr1405_21, pr1405_202, h⟩
 ·rw [if_neg c46] at h
  refine X.condT (congrArg Value.bool ((congrArg (!·) ((Bool.eq_false_iff.2 c46))))) ?_
  refine X.seq fun M1597 hM1598 => ?_
  refine X.region ?_
  refine XO.do rfl (D.loadA (j := 0) (us := [S a1.s, .slice A2 a1.l.length k3]) ag39 H12.cs rfl rfl rfl rfl rfl ?_)
  refine XO.do rfl (D.store (v := .agg #[S a1.s, .slice A2 a1.l.length k3]) (us := [S a1.s, .slice A2 a1.l.length k3]) sz39 H19 rfl rfl rfl rfl rfl rfl ?_)
  intro w1599 H1600 e1601
  replace hB := below_blk hB e1601 g21
  replace H12 := H12.gr e1601 (sepB (ne_of lt_14_21 (MB.ge b15)))
  clear e1601
  refine XO.do rfl (D.asn (v := .int .i64 1) rfl rfl ?_)
  refine XO.nil ?_
  refine hM1598 _ _ ?_
  refine X.ret ?_
  injection h with h
  subst h
  exact hR _ _ _ (retCT ag39 H1600 rfl rfl rfl rfl) ⟨A2, k3, rfl, (H4.below hB), (fun y hy => (.inr hy)), ext_of_below hB⟩
theorem derrickref03_Name.ok (a1 : RPack) (a6 : Str) (A2 : Option Addr) (k3 : Nat) (w : World) (H4 : Row ePlace w A2 k3 a1.l) (hp : derrickref03_Name.pre a1 a6) :
  Ret Try.prog 32 ([.agg #[S a1.s, .slice A2 a1.l.length k3], S a6] : List Value).toArray w fun v w' => ∃ (A1 : Option Addr) (k1 : Nat), v = .tuple #[.agg #[S ((derrickref03_Name a1 a6).1.s), .slice A1 ((derrickref03_Name a1 a6).1.l).length k1], .int .i64 ((derrickref03_Name a1 a6).2)] ∧ Row ePlace w' A1 k1 ((derrickref03_Name a1 a6).1.l) ∧ (∀ y, MR A1 ((derrickref03_Name a1 a6).1.l) y → w.heap.size ≤ y ∨ MR A2 a1.l y) ∧ Ext w w' := by
 obtain ⟨kf, h⟩ := derrickref03_Name.eq a1 a6 hp
 exact derrickref03_Name.walk kf a1 a6 A2 k3 w H4 _ h
theorem derrickref04_size.walk (kf : Nat) (a1 : Str)  (w : World)  (res : Int) (h : derrickref04_size.f kf a1 = some res) :
  Ret Try.prog 59 ([S a1] : List Value).toArray w fun v w' => v = .int .i64 res ∧ Ext w w' := by
 unfold derrickref04_size.f at h
 refine enterX Try.func59 rfl Try.ntmps59 rfl (fun R hR => ?_)
 have hB := Below.refl w.heap.size w
 refine X.seq fun M2 hM3 => ?_
 refine X.region ?_
 refine XO.do rfl (D.asn (v := .int .i64 0) rfl rfl ?_)
 refine XO.nil ?_
 refine hM3 _ _ ?_
 refine X.seq fun M121 hM122 => ?_
 refine X.seq fun M123 hM124 => ?_
 refine X.region ?_
 refine XO.do rfl (D.asn (v := .int .i64 1) rfl rfl ?_)
 refine XO.nil ?_
 refine hM124 _ _ ?_
 refine X.block ?_
 refine X.loop (fun kq241 => fun f187 w186 => ∃ x184 : Int, f187 0 = S a1 ∧ f187 3 = .int .i64 x184 ∧ Below w.heap.size w w186 ∧ derrickref04_size.l1 a1 kq241 x184 = some res) kf ?_ ?_
 ·exact ⟨1, rfl, rfl, hB, h⟩
 ·intro kq241 f187 w186 hI
  obtain ⟨x184, s188, s189, hB, h⟩ := hI
  cases kq241 with
  | zero => exact absurd h (by rw [derrickref04_size.l1.eq_1]; simp)
  | succ kf183 =>
   rw [derrickref04_size.l1.eq_2] at h
   refine X.fr (d := 0) s188 ?_
   refine X.fr (d := 3) s189 ?_
   refine X.seq fun M200 hM201 => ?_
   refine X.cut (fun f205 w204 => ∃ x203 : Bool, f205 0 = S a1 ∧ f205 3 = .int .i64 x184 ∧ f205 11 = .bool x203 ∧ Below w.heap.size w w204 ∧ derrickref04_size.j2 x184 a1 (derrickref04_size.l1 a1 kf183) x203 = some res) ?_ ?_
   ·refine X.region ?_
    refine XO.do rfl (D.mv (v := .int .i64 x184) rfl rfl ?_)
    refine XO.do rfl (D.mv (v := S a1) rfl rfl ?_)
    refine XO.do rfl (D.lenS Try.underlying9 rfl rfl ?_)
    refine XO.do rfl (D.leq rfl rfl rfl ?_)
    refine XO.do rfl (D.mv (v := .bool (decide (x184 ≤ (a1.length : Int)))) rfl rfl ?_)
    by_cases c240 : x184 ≤ (a1.length : Int)
    ·rw [if_pos c240] at h
     refine XO.do (wantG (j := 4) (b := true) rfl (decide_eq_true c240) rfl) (D.mv (v := .int .i64 x184) rfl rfl ?_)
     refine XO.do (wantG (j := 4) (b := true) rfl (decide_eq_true c240) rfl) (D.leq rfl rfl rfl ?_)
     refine XO.do rfl (D.pick true (v := .bool (decide (x184 ≤ 255))) (congrArg Value.bool (decide_eq_true c240)) rfl rfl ?_)
     refine XO.nil ?_
     exact ⟨(decide (x184 ≤ 255)), rfl, rfl, rfl, hB, h⟩
    ·rw [if_neg c240] at h
     refine XO.off (wantG0 (j := 4) (b := true) rfl (decide_eq_false c240) rfl) rfl rfl ?_
     refine XO.off (wantG0 (j := 4) (b := true) rfl (decide_eq_false c240) rfl) rfl rfl ?_
     refine XO.do rfl (D.pick false (v := .bool false) (congrArg Value.bool (decide_eq_false c240)) rfl rfl ?_)
     refine XO.nil ?_
     exact ⟨false, rfl, rfl, rfl, hB, h⟩
   ·intro f205 w204 hI
    obtain ⟨x203, s206, s207, s208, hB, h⟩ := hI
    refine X.fr (d := 0) s206 ?_
    refine X.fr (d := 3) s207 ?_
    refine X.fr (d := 11) s208 ?_
    unfold derrickref04_size.j2 at h
    by_cases c209 : x203 = true
    ·rw [if_pos c209] at h
     refine X.condT (congrArg Value.bool (c209)) ?_
     refine X.skip ?_
     refine hM201 _ _ ?_
     refine X.seq fun M223 hM224 => ?_
     refine X.block ?_
     refine X.seq fun M225 hM226 => ?_
     refine X.region ?_
     refine XO.do rfl (D.mv (v := S a1) rfl rfl ?_)
     refine XO.do rfl (D.mv (v := .int .i64 x184) rfl rfl ?_)
     rcases (Classical.em (0 ≤ x184)).symm with c227 | c227
     ·rw [if_neg c227] at h; cases h
     rw [if_pos c227] at h
     rcases (Classical.em (x184 ≤ (a1.length : Int))).symm with c228 | c228
     ·rw [if_neg c228] at h; cases h
     rw [if_pos c228] at h
     refine XO.do rfl (D.sliceShi (j := x184) Try.underlying9 rfl rfl c227 c228 rfl ?_)
     rcases (Classical.em (derrickref02_May.pre (a1.take x184.toNat))).symm with c229 | c229
     ·rw [if_neg c229] at h; cases h
     rw [if_pos c229] at h
     obtain ⟨r233, q234, h⟩ := lt_elim h
     have hc232 := derrickref02_May.ok (a1.take x184.toNat) w204 c229 
     rw [q234] at hc232
     clear q234
     refine XO.do rfl (D.call (vs := [S (a1.take x184.toNat)]) cf51 hc232 rfl rfl ?_)
     rintro _ w230 ⟨rfl, e231⟩
     clear hc232
     replace hB := below_ext hB e231
     clear e231
     refine XO.nil ?_
     refine hM226 _ _ ?_
     by_cases c235 : r233 = true
     ·rw [if_pos c235] at h
      refine X.condT (congrArg Value.bool (c235)) ?_
      refine X.seq fun M236 hM237 => ?_
      refine X.region ?_
      refine XO.do rfl (D.mv (v := .int .i64 x184) rfl rfl ?_)
      refine XO.do rfl (D.asn (v := .int .i64 x184) rfl rfl ?_)
      refine XO.nil ?_
      refine hM237 _ _ ?_
      refine X.ret ?_
      injection h with h
      subst h
      exact hR _ _ _ (ret1 (v := .int .i64 x184) rfl rfl) ⟨rfl, ext_of_below hB⟩
     ·rw [if_neg c235] at h
      refine X.condF (congrArg Value.bool ((Bool.eq_false_iff.2 c235))) ?_
      refine X.skip ?_
      refine hM224 _ _ ?_
      refine X.region ?_
      refine XO.do rfl (D.mv (v := .int .i64 x184) rfl rfl ?_)
      refine XO.do rfl (D.add rfl rfl rfl ?_)
      refine XO.do rfl (D.asn (v := .int .i64 (w64 (x184 + 1))) rfl rfl ?_)
      refine XO.nil ?_
      exact ⟨kf183, Nat.lt_succ_self _, w64 (x184 + 1), rfl, rfl, hB, h⟩
    ·rw [if_neg c209] at h
     refine X.condF (congrArg Value.bool ((Bool.eq_false_iff.2 c209))) ?_
     refine X.exit rfl ?_
     refine hM122 _ _ ?_
     refine X.seq fun M238 hM239 => ?_
     refine X.region ?_
     refine XO.do rfl (D.asn (v := .int .i64 0) rfl rfl ?_)
     refine XO.nil ?_
     refine hM239 _ _ ?_
     refine X.ret ?_
     injection h with h
     subst h
     exact hR _ _ _ (ret1 (v := .int .i64 0) rfl rfl) ⟨rfl, ext_of_below hB⟩
theorem derrickref04_size.ok (a1 : Str)  (w : World)  (hp : derrickref04_size.pre a1) :
  Ret Try.prog 59 ([S a1] : List Value).toArray w fun v w' => v = .int .i64 (derrickref04_size a1) ∧ Ext w w' := by
 obtain ⟨kf, h⟩ := derrickref04_size.eq a1 hp
 exact derrickref04_size.walk kf a1  w  _ h
theorem derrickref04_names.walk (kf : Nat) (a1 : Str) (a2 : Int) (a3 : Int) (a4 : Int)  (w : World)  (res : Str × Int) (h : derrickref04_names.f kf a1 a2 a3 a4 = some res) :
  Ret Try.prog 67 ([S a1, .int .i64 a2, .int .i64 a3, .int .i64 a4] : List Value).toArray w fun v w' => v = .tuple #[S res.1, .int .i64 res.2] ∧ Ext w w' := by
 unfold derrickref04_names.f at h
 refine enterX Try.func67 rfl Try.ntmps67 rfl (fun R hR => ?_)
 have hB := Below.refl w.heap.size w
 refine X.seq fun M5 hM6 => ?_
 refine X.region ?_
 refine XO.do rfl (D.asn (v := S []) rfl rfl ?_)
 refine XO.do rfl (D.asn (v := .int .i64 0) rfl rfl ?_)
 refine XO.nil ?_
 refine hM6 _ _ ?_
 refine X.seq fun M7 hM8 => ?_
 refine X.region ?_
 refine XO.do rfl (D.asn (v := S []) rfl rfl ?_)
 refine XO.nil ?_
 refine hM8 _ _ ?_
 refine X.seq fun M248 hM249 => ?_
 refine X.seq fun M250 hM251 => ?_
 refine X.region ?_
 refine XO.do rfl (D.asn (v := .int .i64 0) rfl rfl ?_)
 refine XO.nil ?_
 refine hM251 _ _ ?_
 refine X.block ?_
 refine X.loop (fun kq490 => fun f380 w379 => ∃ x375 : Int, ∃ x376 : Str, ∃ x377 : Int, f380 0 = S a1 ∧ f380 1 = .int .i64 x375 ∧ f380 2 = .int .i64 a3 ∧ f380 3 = .int .i64 a4 ∧ f380 10 = S x376 ∧ f380 11 = .int .i64 x377 ∧ Below w.heap.size w w379 ∧ derrickref04_names.l1 a4 a1 a3 kq490 x375 x376 x377 = some res) kf ?_ ?_
 ·exact ⟨a2, [], 0, rfl, rfl, rfl, rfl, rfl, rfl, hB, h⟩
 ·intro kq490 f380 w379 hI
  obtain ⟨x375, x376, x377, s381, s382, s383, s384, s385, s386, hB, h⟩ := hI
  cases kq490 with
  | zero => exact absurd h (by rw [derrickref04_names.l1.eq_1]; simp)
  | succ kf374 =>
   rw [derrickref04_names.l1.eq_2] at h
   refine X.fr (d := 0) s381 ?_
   refine X.fr (d := 1) s382 ?_
   refine X.fr (d := 2) s383 ?_
   refine X.fr (d := 3) s384 ?_
   refine X.fr (d := 10) s385 ?_
   refine X.fr (d := 11) s386 ?_
   refine X.seq fun M391 hM392 => ?_
   refine X.seq fun M393 hM394 => ?_
   refine X.region ?_
   refine XO.do rfl (D.mv (v := .int .i64 x377) rfl rfl ?_)
   refine XO.do rfl (D.mv (v := .int .i64 a4) rfl rfl ?_)
   refine XO.do rfl (D.lss rfl rfl rfl ?_)
   refine XO.nil ?_
   refine hM394 _ _ ?_
   by_cases c395 : x377 < a4
   ·rw [if_pos c395] at h
    refine X.condT (congrArg Value.bool (decide_eq_true c395)) ?_
    refine X.skip ?_
    refine hM392 _ _ ?_
    refine X.seq fun M441 hM442 => ?_
    refine X.block ?_
    refine X.seq fun M443 hM444 => ?_
    refine X.region ?_
    refine XO.do rfl (D.mv (v := S a1) rfl rfl ?_)
    refine XO.do rfl (D.mv (v := .int .i64 x375) rfl rfl ?_)
    rcases (Classical.em (derrickref03_Take.pre a1 x375)).symm with c445 | c445
    ·rw [if_neg c445] at h; cases h
    rw [if_pos c445] at h
    obtain ⟨r449, q450, h⟩ := lt_elim h
    have hc448 := derrickref03_Take.ok a1 x375 w379 c445 
    rw [q450] at hc448
    clear q450
    refine XO.do rfl (D.call (vs := [S a1, .int .i64 x375]) cf50 hc448 rfl rfl ?_)
    rintro _ w446 ⟨rfl, e447⟩
    clear hc448
    replace hB := below_ext hB e447
    clear e447
    refine XO.do rfl (D.mv (v := .tuple #[S r449.1, .int .i64 r449.2.1, .int .i64 r449.2.2]) rfl rfl ?_)
    refine XO.do rfl (D.extract (v := S r449.1) rfl rfl rfl ?_)
    refine XO.do rfl (D.extract (v := .int .i64 r449.2.1) rfl rfl rfl ?_)
    refine XO.do rfl (D.extract (v := .int .i64 r449.2.2) rfl rfl rfl ?_)
    refine XO.do rfl (D.asn (v := S r449.1) rfl rfl ?_)
    refine XO.do rfl (D.asn (v := .int .i64 r449.2.1) rfl rfl ?_)
    refine XO.do rfl (D.asn (v := .int .i64 r449.2.2) rfl rfl ?_)
    refine XO.nil ?_
    refine hM444 _ _ ?_
    refine X.seq fun M467 hM468 => ?_
    refine X.cut (fun f472 w471 => ∃ x470 : Bool, f472 0 = S a1 ∧ f472 2 = .int .i64 a3 ∧ f472 3 = .int .i64 a4 ∧ f472 10 = S x376 ∧ f472 11 = .int .i64 x377 ∧ f472 12 = S r449.1 ∧ f472 13 = .int .i64 r449.2.1 ∧ f472 33 = .bool x470 ∧ Below w.heap.size w w471 ∧ derrickref04_names.j2 x376 r449 (derrickref04_names.l1 a4 a1 a3 kf374) x377 x470 = some res) ?_ ?_
    ·refine X.region ?_
     refine XO.do rfl (D.mv (v := .int .i64 r449.2.2) rfl rfl ?_)
     refine XO.do rfl (D.neq rfl rfl rfl ?_)
     refine XO.do rfl (D.mv (v := .bool (r449.2.2 != 0)) rfl rfl ?_)
     by_cases c487 : r449.2.2 = 0
     ·rw [if_pos c487] at h
      refine XO.do (wantG (j := 2) (b := false) rfl ((congrArg (!·) (beq_iff_eq.2 c487))) rfl) (D.mv (v := .int .i64 r449.2.1) rfl rfl ?_)
      refine XO.do (wantG (j := 2) (b := false) rfl ((congrArg (!·) (beq_iff_eq.2 c487))) rfl) (D.mv (v := .int .i64 a3) rfl rfl ?_)
      refine XO.do (wantG (j := 2) (b := false) rfl ((congrArg (!·) (beq_iff_eq.2 c487))) rfl) (D.gtr rfl rfl rfl ?_)
      refine XO.do rfl (D.pick false (v := .bool (decide (a3 < r449.2.1))) (congrArg Value.bool ((congrArg (!·) (beq_iff_eq.2 c487)))) rfl rfl ?_)
      refine XO.nil ?_
      exact ⟨(decide (a3 < r449.2.1)), rfl, rfl, rfl, rfl, rfl, rfl, rfl, rfl, hB, h⟩
     ·rw [if_neg c487] at h
      refine XO.off (wantG0 (j := 2) (b := false) rfl ((congrArg (!·) (beq_eq_false_iff_ne.2 c487))) rfl) rfl rfl ?_
      refine XO.off (wantG0 (j := 2) (b := false) rfl ((congrArg (!·) (beq_eq_false_iff_ne.2 c487))) rfl) rfl rfl ?_
      refine XO.off (wantG0 (j := 2) (b := false) rfl ((congrArg (!·) (beq_eq_false_iff_ne.2 c487))) rfl) rfl rfl ?_
      refine XO.do rfl (D.pick true (v := .bool true) (congrArg Value.bool ((congrArg (!·) (beq_eq_false_iff_ne.2 c487)))) rfl rfl ?_)
      refine XO.nil ?_
      exact ⟨true, rfl, rfl, rfl, rfl, rfl, rfl, rfl, rfl, hB, h⟩
    ·intro f472 w471 hI
     obtain ⟨x470, s473, s474, s475, s476, s477, s478, s479, s480, hB, h⟩ := hI
     refine X.fr (d := 0) s473 ?_
     refine X.fr (d := 2) s474 ?_
     refine X.fr (d := 3) s475 ?_
     refine X.fr (d := 10) s476 ?_
     refine X.fr (d := 11) s477 ?_
     refine X.fr (d := 12) s478 ?_
     refine X.fr (d := 13) s479 ?_
     refine X.fr (d := 33) s480 ?_
     unfold derrickref04_names.j2 at h
     by_cases c481 : x470 = true
     ·rw [if_pos c481] at h
      refine X.condT (congrArg Value.bool (c481)) ?_
      refine X.seq fun M482 hM483 => ?_
      refine X.region ?_
      refine XO.do rfl (D.asn (v := S []) rfl rfl ?_)
      refine XO.do rfl (D.asn (v := .int .i64 0) rfl rfl ?_)
      refine XO.nil ?_
      refine hM483 _ _ ?_
      refine X.ret ?_
      injection h with h
      subst h
      exact hR _ _ _ (ret2 (v := S []) (v' := .int .i64 0) rfl rfl rfl) ⟨rfl, ext_of_below hB⟩
     ·rw [if_neg c481] at h
      refine X.condF (congrArg Value.bool ((Bool.eq_false_iff.2 c481))) ?_
      refine X.skip ?_
      refine hM468 _ _ ?_
      refine X.seq fun M484 hM485 => ?_
      refine X.region ?_
      refine XO.do rfl (D.mv (v := S x376) rfl rfl ?_)
      refine XO.do rfl (D.mv (v := S r449.1) rfl rfl ?_)
      rcases (Classical.em (x376.length + r449.1.length ≤ 9223372036854775807)).symm with c486 | c486
      ·rw [if_neg c486] at h; cases h
      rw [if_pos c486] at h
      refine XO.do rfl (D.addS rfl rfl c486 rfl ?_)
      refine XO.do rfl (D.asn (v := S (x376 ++ r449.1)) rfl rfl ?_)
      refine XO.nil ?_
      refine hM485 _ _ ?_
      refine X.region ?_
      refine XO.do rfl (D.mv (v := .int .i64 r449.2.1) rfl rfl ?_)
      refine XO.do rfl (D.asn (v := .int .i64 r449.2.1) rfl rfl ?_)
      refine XO.nil ?_
      refine hM442 _ _ ?_
      refine X.region ?_
      refine XO.do rfl (D.mv (v := .int .i64 x377) rfl rfl ?_)
      refine XO.do rfl (D.add rfl rfl rfl ?_)
      refine XO.do rfl (D.asn (v := .int .i64 (w64 (x377 + 1))) rfl rfl ?_)
      refine XO.nil ?_
      exact ⟨kf374, Nat.lt_succ_self _, r449.2.1, x376 ++ r449.1, w64 (x377 + 1), rfl, rfl, rfl, rfl, rfl, rfl, hB, h⟩
   ·rw [if_neg c395] at h
    refine X.condF (congrArg Value.bool (decide_eq_false c395)) ?_
    refine X.exit rfl ?_
    refine hM249 _ _ ?_
    refine X.seq fun M488 hM489 => ?_
    refine X.region ?_
    refine XO.do rfl (D.mv (v := S x376) rfl rfl ?_)
    refine XO.do rfl (D.mv (v := .int .i64 x375) rfl rfl ?_)
    refine XO.do rfl (D.asn (v := S x376) rfl rfl ?_)
    refine XO.do rfl (D.asn (v := .int .i64 x375) rfl rfl ?_)
    refine XO.nil ?_
    refine hM489 _ _ ?_
    refine X.ret ?_
    injection h with h
    subst h
    exact hR _ _ _ (ret2 (v := S x376) (v' := .int .i64 x375) rfl rfl rfl) ⟨rfl, ext_of_below hB⟩
theorem derrickref04_names.ok (a1 : Str) (a2 : Int) (a3 : Int) (a4 : Int)  (w : World)  (hp : derrickref04_names.pre a1 a2 a3 a4) :
  Ret Try.prog 67 ([S a1, .int .i64 a2, .int .i64 a3, .int .i64 a4] : List Value).toArray w fun v w' => v = .tuple #[S ((derrickref04_names a1 a2 a3 a4).1), .int .i64 ((derrickref04_names a1 a2 a3 a4).2)] ∧ Ext w w' := by
 obtain ⟨kf, h⟩ := derrickref04_names.eq a1 a2 a3 a4 hp
 exact derrickref04_names.walk kf a1 a2 a3 a4  w  _ h
end Go.Proofs.Ytfcaekghpkpjdaa.K
