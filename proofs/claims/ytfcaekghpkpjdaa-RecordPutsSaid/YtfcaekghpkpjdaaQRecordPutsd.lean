/- Part 4 of what the row of RecordPuts leans on: a library of walks, the pure functions, the walks of the functions. -/
import Derived.Test.YtfcaekghpkpjdaaProg
import Derived.RangeFuncRecord
import Derived.RangeFuncLeaves
import Derived.Lib.BufferWrite
import Derived.Test.YtfcaekghpkpjdaaQRecordPutsc
/- Walks, printed by a program of this session. -/
namespace Go.Proofs.Ytfcaekghpkpjdaa.K
open Go Go.RowKit Go.Proofs
set_option linter.unusedVariables false
set_option maxRecDepth 100000
set_option maxHeartbeats 4000000
namespace FA3
theorem cf56 : Callable Try.prog 56 := callable Try.func56 (by kernel_rfl) rfl
theorem cf62 : Callable Try.prog 62 := callable Try.func62 (by kernel_rfl) rfl
theorem cf63 : Callable Try.prog 63 := callable Try.func63 (by kernel_rfl) rfl
theorem cf84 : Callable Try.prog 84 := callable Try.func84 (by kernel_rfl) rfl
end FA3
open FA3
theorem octet_Put16.walk (a1 : Int)  (w : World)  (res : Str) (h : octet_Put16 a1 = res) :
  Ret Try.prog 31 ([.int .u16 a1] : List Value).toArray w fun v w' => v = S res ∧ Ext w w' := by
 unfold octet_Put16 at h
 refine enterX Try.func31 rfl Try.ntmps31 rfl (fun R hR => ?_)
 have hB := Below.refl w.heap.size w
 refine X.seq fun M2 hM3 => ?_
 refine X.region ?_
 refine XO.do rfl (D.asn (v := S []) rfl rfl ?_)
 refine XO.nil ?_
 refine hM3 _ _ ?_
 refine X.seq fun M4 hM5 => ?_
 refine X.region ?_
 refine XO.do rfl (D.mv (v := .int .u16 a1) rfl rfl ?_)
 refine XO.do rfl (D.conv Try.underlying22 Try.underlying23 rfl rfl ?_)
 obtain ⟨r9, q10, h⟩ := lt_elim h
 have hc8 := octet_bytes.ok (w32 a1) 2 w (Or.inl rfl) 
 rw [q10] at hc8
 clear q10
 refine XO.do rfl (D.call (vs := [.int .u32 (w32 a1), .int .i64 2]) cf56 hc8 rfl rfl ?_)
 rintro _ w6 ⟨rfl, e7⟩
 clear hc8
 replace hB := below_ext hB e7
 clear e7
 refine XO.do rfl (D.asn (v := S r9) rfl rfl ?_)
 refine XO.nil ?_
 refine hM5 _ _ ?_
 refine X.ret ?_
 subst h
 exact hR _ _ _ (ret1 (v := S r9) rfl rfl) ⟨rfl, ext_of_below hB⟩
theorem octet_Put16.ok (a1 : Int)  (w : World)  :
  Ret Try.prog 31 ([.int .u16 a1] : List Value).toArray w fun v w' => v = S (octet_Put16 a1) ∧ Ext w w' := octet_Put16.walk a1  w  _ rfl
theorem octet_Put32.walk (a1 : Int)  (w : World)  (res : Str) (h : octet_Put32 a1 = res) :
  Ret Try.prog 35 ([.int .u32 a1] : List Value).toArray w fun v w' => v = S res ∧ Ext w w' := by
 unfold octet_Put32 at h
 refine enterX Try.func35 rfl Try.ntmps35 rfl (fun R hR => ?_)
 have hB := Below.refl w.heap.size w
 refine X.seq fun M2 hM3 => ?_
 refine X.region ?_
 refine XO.do rfl (D.asn (v := S []) rfl rfl ?_)
 refine XO.nil ?_
 refine hM3 _ _ ?_
 refine X.seq fun M4 hM5 => ?_
 refine X.region ?_
 refine XO.do rfl (D.mv (v := .int .u32 a1) rfl rfl ?_)
 obtain ⟨r9, q10, h⟩ := lt_elim h
 have hc8 := octet_bytes.ok a1 4 w (Or.inr rfl) 
 rw [q10] at hc8
 clear q10
 refine XO.do rfl (D.call (vs := [.int .u32 a1, .int .i64 4]) cf56 hc8 rfl rfl ?_)
 rintro _ w6 ⟨rfl, e7⟩
 clear hc8
 replace hB := below_ext hB e7
 clear e7
 refine XO.do rfl (D.asn (v := S r9) rfl rfl ?_)
 refine XO.nil ?_
 refine hM5 _ _ ?_
 refine X.ret ?_
 subst h
 exact hR _ _ _ (ret1 (v := S r9) rfl rfl) ⟨rfl, ext_of_below hB⟩
theorem octet_Put32.ok (a1 : Int)  (w : World)  :
  Ret Try.prog 35 ([.int .u32 a1] : List Value).toArray w fun v w' => v = S (octet_Put32 a1) ∧ Ext w w' := octet_Put32.walk a1  w  _ rfl
theorem octet_U8.walk (a1 : Str) (a2 : Int)  (w : World)  (res : Int × Int × Int) (h : octet_U8.f a1 a2 = some res) :
  Ret Try.prog 77 ([S a1, .int .i64 a2] : List Value).toArray w fun v w' => v = .tuple #[.int .u8 res.1, .int .i64 res.2.1, .int .i64 res.2.2] ∧ Ext w w' := by
 unfold octet_U8.f at h
 refine enterX Try.func77 rfl Try.ntmps77 rfl (fun R hR => ?_)
 have hB := Below.refl w.heap.size w
 refine X.seq fun M3 hM4 => ?_
 refine X.region ?_
 refine XO.do rfl (D.asn (v := .int .u8 0) rfl rfl ?_)
 refine XO.do rfl (D.asn (v := .int .i64 0) rfl rfl ?_)
 refine XO.do rfl (D.asn (v := .int .i64 0) rfl rfl ?_)
 refine XO.nil ?_
 refine hM4 _ _ ?_
 refine X.seq fun M5 hM6 => ?_
 refine X.region ?_
 refine XO.do rfl (D.mv (v := S a1) rfl rfl ?_)
 refine XO.do rfl (D.mv (v := .int .i64 a2) rfl rfl ?_)
 rcases (Classical.em (octet_number_uint8.pre a1 a2 1)).symm with c7 | c7
 ·rw [if_neg c7] at h; cases h
 rw [if_pos c7] at h
 obtain ⟨r11, q12, h⟩ := lt_elim h
 have hc10 := octet_number_uint8.ok a1 a2 1 w c7 
 rw [q12] at hc10
 clear q12
 refine XO.do rfl (D.call (vs := [S a1, .int .i64 a2, .int .i64 1]) cf84 hc10 rfl rfl ?_)
 rintro _ w8 ⟨rfl, e9⟩
 clear hc10
 replace hB := below_ext hB e9
 clear e9
 refine XO.do rfl (D.extract (v := .int .u8 r11.1) rfl rfl rfl ?_)
 refine XO.do rfl (D.extract (v := .int .i64 r11.2.1) rfl rfl rfl ?_)
 refine XO.do rfl (D.extract (v := .int .i64 r11.2.2) rfl rfl rfl ?_)
 refine XO.do rfl (D.asn (v := .int .u8 r11.1) rfl rfl ?_)
 refine XO.do rfl (D.asn (v := .int .i64 r11.2.1) rfl rfl ?_)
 refine XO.do rfl (D.asn (v := .int .i64 r11.2.2) rfl rfl ?_)
 refine XO.nil ?_
 refine hM6 _ _ ?_
 refine X.ret ?_
 injection h with h
 subst h
 exact hR _ _ _ (ret3 (v := .int .u8 r11.1) (v' := .int .i64 r11.2.1) (v'' := .int .i64 r11.2.2) rfl rfl rfl rfl) ⟨rfl, ext_of_below hB⟩
theorem octet_U8.ok (a1 : Str) (a2 : Int)  (w : World)  (hp : octet_U8.pre a1 a2) :
  Ret Try.prog 77 ([S a1, .int .i64 a2] : List Value).toArray w fun v w' => v = .tuple #[.int .u8 ((octet_U8 a1 a2).1), .int .i64 ((octet_U8 a1 a2).2.1), .int .i64 ((octet_U8 a1 a2).2.2)] ∧ Ext w w' := by
 have h := octet_U8.eq a1 a2 hp
 exact octet_U8.walk  a1 a2  w  _ h
theorem octet_U16.walk (a1 : Str) (a2 : Int)  (w : World)  (res : Int × Int × Int) (h : octet_U16.f a1 a2 = some res) :
  Ret Try.prog 45 ([S a1, .int .i64 a2] : List Value).toArray w fun v w' => v = .tuple #[.int .u16 res.1, .int .i64 res.2.1, .int .i64 res.2.2] ∧ Ext w w' := by
 unfold octet_U16.f at h
 refine enterX Try.func45 rfl Try.ntmps45 rfl (fun R hR => ?_)
 have hB := Below.refl w.heap.size w
 refine X.seq fun M3 hM4 => ?_
 refine X.region ?_
 refine XO.do rfl (D.asn (v := .int .u16 0) rfl rfl ?_)
 refine XO.do rfl (D.asn (v := .int .i64 0) rfl rfl ?_)
 refine XO.do rfl (D.asn (v := .int .i64 0) rfl rfl ?_)
 refine XO.nil ?_
 refine hM4 _ _ ?_
 refine X.seq fun M5 hM6 => ?_
 refine X.region ?_
 refine XO.do rfl (D.mv (v := S a1) rfl rfl ?_)
 refine XO.do rfl (D.mv (v := .int .i64 a2) rfl rfl ?_)
 rcases (Classical.em (octet_number_uint16.pre a1 a2 2)).symm with c7 | c7
 ·rw [if_neg c7] at h; cases h
 rw [if_pos c7] at h
 obtain ⟨r11, q12, h⟩ := lt_elim h
 have hc10 := octet_number_uint16.ok a1 a2 2 w c7 
 rw [q12] at hc10
 clear q12
 refine XO.do rfl (D.call (vs := [S a1, .int .i64 a2, .int .i64 2]) cf63 hc10 rfl rfl ?_)
 rintro _ w8 ⟨rfl, e9⟩
 clear hc10
 replace hB := below_ext hB e9
 clear e9
 refine XO.do rfl (D.extract (v := .int .u16 r11.1) rfl rfl rfl ?_)
 refine XO.do rfl (D.extract (v := .int .i64 r11.2.1) rfl rfl rfl ?_)
 refine XO.do rfl (D.extract (v := .int .i64 r11.2.2) rfl rfl rfl ?_)
 refine XO.do rfl (D.asn (v := .int .u16 r11.1) rfl rfl ?_)
 refine XO.do rfl (D.asn (v := .int .i64 r11.2.1) rfl rfl ?_)
 refine XO.do rfl (D.asn (v := .int .i64 r11.2.2) rfl rfl ?_)
 refine XO.nil ?_
 refine hM6 _ _ ?_
 refine X.ret ?_
 injection h with h
 subst h
 exact hR _ _ _ (ret3 (v := .int .u16 r11.1) (v' := .int .i64 r11.2.1) (v'' := .int .i64 r11.2.2) rfl rfl rfl rfl) ⟨rfl, ext_of_below hB⟩
theorem octet_U16.ok (a1 : Str) (a2 : Int)  (w : World)  (hp : octet_U16.pre a1 a2) :
  Ret Try.prog 45 ([S a1, .int .i64 a2] : List Value).toArray w fun v w' => v = .tuple #[.int .u16 ((octet_U16 a1 a2).1), .int .i64 ((octet_U16 a1 a2).2.1), .int .i64 ((octet_U16 a1 a2).2.2)] ∧ Ext w w' := by
 have h := octet_U16.eq a1 a2 hp
 exact octet_U16.walk  a1 a2  w  _ h
theorem octet_U32.walk (a1 : Str) (a2 : Int)  (w : World)  (res : Int × Int × Int) (h : octet_U32.f a1 a2 = some res) :
  Ret Try.prog 43 ([S a1, .int .i64 a2] : List Value).toArray w fun v w' => v = .tuple #[.int .u32 res.1, .int .i64 res.2.1, .int .i64 res.2.2] ∧ Ext w w' := by
 unfold octet_U32.f at h
 refine enterX Try.func43 rfl Try.ntmps43 rfl (fun R hR => ?_)
 have hB := Below.refl w.heap.size w
 refine X.seq fun M3 hM4 => ?_
 refine X.region ?_
 refine XO.do rfl (D.asn (v := .int .u32 0) rfl rfl ?_)
 refine XO.do rfl (D.asn (v := .int .i64 0) rfl rfl ?_)
 refine XO.do rfl (D.asn (v := .int .i64 0) rfl rfl ?_)
 refine XO.nil ?_
 refine hM4 _ _ ?_
 refine X.seq fun M5 hM6 => ?_
 refine X.region ?_
 refine XO.do rfl (D.mv (v := S a1) rfl rfl ?_)
 refine XO.do rfl (D.mv (v := .int .i64 a2) rfl rfl ?_)
 rcases (Classical.em (octet_number_uint32.pre a1 a2 4)).symm with c7 | c7
 ·rw [if_neg c7] at h; cases h
 rw [if_pos c7] at h
 obtain ⟨r11, q12, h⟩ := lt_elim h
 have hc10 := octet_number_uint32.ok a1 a2 4 w c7 
 rw [q12] at hc10
 clear q12
 refine XO.do rfl (D.call (vs := [S a1, .int .i64 a2, .int .i64 4]) cf62 hc10 rfl rfl ?_)
 rintro _ w8 ⟨rfl, e9⟩
 clear hc10
 replace hB := below_ext hB e9
 clear e9
 refine XO.do rfl (D.extract (v := .int .u32 r11.1) rfl rfl rfl ?_)
 refine XO.do rfl (D.extract (v := .int .i64 r11.2.1) rfl rfl rfl ?_)
 refine XO.do rfl (D.extract (v := .int .i64 r11.2.2) rfl rfl rfl ?_)
 refine XO.do rfl (D.asn (v := .int .u32 r11.1) rfl rfl ?_)
 refine XO.do rfl (D.asn (v := .int .i64 r11.2.1) rfl rfl ?_)
 refine XO.do rfl (D.asn (v := .int .i64 r11.2.2) rfl rfl ?_)
 refine XO.nil ?_
 refine hM6 _ _ ?_
 refine X.ret ?_
 injection h with h
 subst h
 exact hR _ _ _ (ret3 (v := .int .u32 r11.1) (v' := .int .i64 r11.2.1) (v'' := .int .i64 r11.2.2) rfl rfl rfl rfl) ⟨rfl, ext_of_below hB⟩
theorem octet_U32.ok (a1 : Str) (a2 : Int)  (w : World)  (hp : octet_U32.pre a1 a2) :
  Ret Try.prog 43 ([S a1, .int .i64 a2] : List Value).toArray w fun v w' => v = .tuple #[.int .u32 ((octet_U32 a1 a2).1), .int .i64 ((octet_U32 a1 a2).2.1), .int .i64 ((octet_U32 a1 a2).2.2)] ∧ Ext w w' := by
 have h := octet_U32.eq a1 a2 hp
 exact octet_U32.walk  a1 a2  w  _ h
end Go.Proofs.Ytfcaekghpkpjdaa.K

/- Walks, printed by a program of this session. -/
namespace Go.Proofs.Ytfcaekghpkpjdaa.K
open Go Go.RowKit Go.Proofs
set_option linter.unusedVariables false
set_option maxRecDepth 100000
set_option maxHeartbeats 4000000
namespace FB1
theorem sc5 : Sca Try.prog 5 := sca Try.underlying5 rfl
theorem ti5 : TI Try.prog 5 (.int .u8 0) 1 1 := by unfold TI; kernel_rfl
theorem sz5 : ∀ w, (sizeOf 5).run Try.prog w = .ok 1 w := fun w => ti5.size w
end FB1
open FB1
theorem name_Fold.walk (kf : Nat) (a1 : Str)  (w : World)  (res : Str) (h : name_Fold.f kf a1 = some res) :
  Ret Try.prog 54 ([S a1] : List Value).toArray w fun v w' => v = S res ∧ Ext w w' := by
 unfold name_Fold.f at h
 refine enterX Try.func54 rfl Try.ntmps54 rfl (fun R hR => ?_)
 have hB := Below.refl w.heap.size w
 refine X.seq fun M2 hM3 => ?_
 refine X.region ?_
 refine XO.do rfl (D.asn (v := S []) rfl rfl ?_)
 refine XO.nil ?_
 refine hM3 _ _ ?_
 refine X.seq fun M4 hM5 => ?_
 refine X.region ?_
 refine XO.do rfl (D.mv (v := S a1) rfl rfl ?_)
 rcases (Classical.em (a1.length ≤ 9223372036854775807)).symm with c6 | c6
 ·rw [if_neg c6] at h; cases h
 rw [if_pos c6] at h
 refine XO.do rfl (D.bytesOf c6 rfl rfl ?_)
 intro b7 k8 w9 hb10 H11 e12
 have g13 : w.heap.size ≤ b7 := Nat.le_trans hB.size (Nat.le_of_eq hb10.symm)
 replace hB := below_ext hB e12
 clear e12 hb10
 refine XO.do rfl (D.asn (v := .slice (some ⟨b7, 0, none⟩) (bytesI a1).length k8) rfl rfl ?_)
 refine XO.nil ?_
 refine hM5 _ _ ?_
 refine X.seq fun M281 hM282 => ?_
 refine X.seq fun M283 hM284 => ?_
 refine X.region ?_
 refine XO.do rfl (D.mv (v := .slice (some ⟨b7, 0, none⟩) (bytesI a1).length k8) rfl rfl ?_)
 refine XO.do rfl (D.lenR (A := (some ⟨b7, 0, none⟩)) (c := k8) (m := (bytesI a1).length) Try.underlying62 rfl rfl ?_)
 refine XO.do rfl (D.mv (v := .int .i64 0) rfl rfl ?_)
 refine XO.nil ?_
 refine hM284 _ _ ?_
 refine X.block ?_
 refine X.loop (fun kq551 => fun f468 w467 => ∃ l462 : List Int, ∃ x465 : Int, f468 3 = .slice (some ⟨b7, 0, none⟩) l462.length k8 ∧ f468 8 = .slice (some ⟨b7, 0, none⟩) l462.length k8 ∧ f468 9 = .int .i64 ((bytesI a1).length : Int) ∧ f468 10 = .int .i64 x465 ∧ Below w.heap.size w w467 ∧ OwnC w467 b7 k8 l462 ∧ name_Fold.l1 a1 kq551 l462 x465 = some res) kf ?_ ?_
 ·exact ⟨bytesI a1, 0, rfl, rfl, rfl, rfl, hB, H11, h⟩
 ·intro kq551 f468 w467 hI
  obtain ⟨l462, x465, s469, s470, s471, s472, hB, H463, h⟩ := hI
  cases kq551 with
  | zero => exact absurd h (by rw [name_Fold.l1.eq_1]; simp)
  | succ kf461 =>
   rw [name_Fold.l1.eq_2] at h
   refine X.fr (d := 3) s469 ?_
   refine X.fr (d := 8) s470 ?_
   refine X.fr (d := 9) s471 ?_
   refine X.fr (d := 10) s472 ?_
   refine X.seq fun M474 hM475 => ?_
   refine X.region ?_
   refine XO.do rfl (D.lss rfl rfl rfl ?_)
   refine XO.nil ?_
   refine hM475 _ _ ?_
   refine X.seq fun M477 hM478 => ?_
   by_cases c479 : x465 < ((bytesI a1).length : Int)
   ·rw [if_pos c479] at h
    refine X.condT (congrArg Value.bool (decide_eq_true c479)) ?_
    refine X.skip ?_
    refine hM478 _ _ ?_
    refine X.cut (fun f514 w513 => ∃ l510 : List Int, f514 3 = .slice (some ⟨b7, 0, none⟩) l510.length k8 ∧ f514 8 = .slice (some ⟨b7, 0, none⟩) l510.length k8 ∧ f514 9 = .int .i64 ((bytesI a1).length : Int) ∧ f514 10 = .int .i64 x465 ∧ Below w.heap.size w w513 ∧ OwnC w513 b7 k8 l510 ∧ name_Fold.j2 (name_Fold.l1 a1 kf461) x465 l510 = some res) ?_ ?_
    ·refine X.block ?_
     refine X.seq fun M519 hM520 => ?_
     refine X.region ?_
     refine XO.do rfl (D.mv (v := .int .i64 x465) rfl rfl ?_)
     rcases (Classical.em (0 ≤ x465)).symm with c521 | c521
     ·rw [if_neg c521] at h; cases h
     rw [if_pos c521] at h
     rcases (Classical.em (x465 < (l462.length : Int))).symm with c522 | c522
     ·rw [if_neg c522] at h; cases h
     rw [if_pos c522] at h
     refine XO.do rfl (D.indexR (i := x465) Try.underlying62 sz5 H463.row rfl rfl c521 c522 rfl ?_)
     intro b523 o524 _ H525
     refine XO.do rfl (D.load (j := 0) (v := .int .u8 (rd l462 x465)) sc5 H525 rfl rfl rfl rfl ?_)
     refine XO.do rfl (D.asn (v := .int .i64 x465) rfl rfl ?_)
     refine XO.do rfl (D.asn (v := .int .u8 (rd l462 x465)) rfl rfl ?_)
     refine XO.nil ?_
     refine hM520 _ _ ?_
     refine X.cut (fun f531 w530 => ∃ x529 : Bool, f531 3 = .slice (some ⟨b7, 0, none⟩) l462.length k8 ∧ f531 4 = .int .i64 x465 ∧ f531 5 = .int .u8 (rd l462 x465) ∧ f531 8 = .slice (some ⟨b7, 0, none⟩) l462.length k8 ∧ f531 9 = .int .i64 ((bytesI a1).length : Int) ∧ f531 10 = .int .i64 x465 ∧ f531 20 = .bool x529 ∧ Below w.heap.size w w530 ∧ OwnC w530 b7 k8 l462 ∧ name_Fold.j3 (name_Fold.l1 a1 kf461) x465 l462 x529 = some res) ?_ ?_
     ·refine X.region ?_
      refine XO.do rfl (D.mv (v := .int .u8 (rd l462 x465)) rfl rfl ?_)
      refine XO.do rfl (D.geq rfl rfl rfl ?_)
      refine XO.do rfl (D.mv (v := .bool (decide (65 ≤ (rd l462 x465)))) rfl rfl ?_)
      by_cases c548 : 65 ≤ (rd l462 x465)
      ·rw [if_pos c548] at h
       refine XO.do (wantG (j := 2) (b := true) rfl (decide_eq_true c548) rfl) (D.mv (v := .int .u8 (rd l462 x465)) rfl rfl ?_)
       refine XO.do (wantG (j := 2) (b := true) rfl (decide_eq_true c548) rfl) (D.leq rfl rfl rfl ?_)
       refine XO.do rfl (D.pick true (v := .bool (decide ((rd l462 x465) ≤ 90))) (congrArg Value.bool (decide_eq_true c548)) rfl rfl ?_)
       refine XO.nil ?_
       exact ⟨(decide ((rd l462 x465) ≤ 90)), rfl, rfl, rfl, rfl, rfl, rfl, rfl, hB, H463, h⟩
      ·rw [if_neg c548] at h
       refine XO.off (wantG0 (j := 2) (b := true) rfl (decide_eq_false c548) rfl) rfl rfl ?_
       refine XO.off (wantG0 (j := 2) (b := true) rfl (decide_eq_false c548) rfl) rfl rfl ?_
       refine XO.do rfl (D.pick false (v := .bool false) (congrArg Value.bool (decide_eq_false c548)) rfl rfl ?_)
       refine XO.nil ?_
       exact ⟨false, rfl, rfl, rfl, rfl, rfl, rfl, rfl, hB, H463, h⟩
     ·intro f531 w530 hI
      obtain ⟨x529, s532, s533, s534, s535, s536, s537, s538, hB, H528, h⟩ := hI
      refine X.fr (d := 3) s532 ?_
      refine X.fr (d := 4) s533 ?_
      refine X.fr (d := 5) s534 ?_
      refine X.fr (d := 8) s535 ?_
      refine X.fr (d := 9) s536 ?_
      refine X.fr (d := 10) s537 ?_
      refine X.fr (d := 20) s538 ?_
      unfold name_Fold.j3 at h
      by_cases c539 : x529 = true
      ·rw [if_pos c539] at h
       refine X.condT (congrArg Value.bool (c539)) ?_
       refine X.region ?_
       refine XO.do rfl (D.mv (v := .slice (some ⟨b7, 0, none⟩) l462.length k8) rfl rfl ?_)
       refine XO.do rfl (D.mv (v := .int .i64 x465) rfl rfl ?_)
       refine XO.do rfl (D.mv (v := .int .u8 (rd l462 x465)) rfl rfl ?_)
       refine XO.do rfl (D.add rfl rfl rfl ?_)
       refine XO.do rfl (D.indexC (i := x465) Try.underlying62 sz5 H528 rfl rfl c521 c522 rfl ?_)
       intro o541 ho543 H542
       refine XO.do rfl (D.storeC (z := w8 ((rd l462 x465) + 32)) sz5 H528 ho543 c521 c522 rfl rfl ?_)
       intro w545 H546 e547
       replace hB := below_blk hB e547 g13
       clear e547 H528
       refine XO.fr (d := 3) (v := .slice (some ⟨b7, 0, none⟩) ((l462).set x465.toNat (w8 ((rd l462 x465) + 32))).length k8) (slSet rfl) ?_
       refine XO.fr (d := 8) (v := .slice (some ⟨b7, 0, none⟩) ((l462).set x465.toNat (w8 ((rd l462 x465) + 32))).length k8) (slSet rfl) ?_
       refine XO.fr (d := 21) (v := .slice (some ⟨b7, 0, none⟩) ((l462).set x465.toNat (w8 ((rd l462 x465) + 32))).length k8) (slSet rfl) ?_
       refine XO.nil ?_
       exact ⟨(l462).set x465.toNat (w8 ((rd l462 x465) + 32)), rfl, rfl, rfl, rfl, hB, H546, h⟩
      ·rw [if_neg c539] at h
       refine X.condF (congrArg Value.bool ((Bool.eq_false_iff.2 c539))) ?_
       refine X.skip ?_
       exact ⟨l462, rfl, rfl, rfl, rfl, hB, H528, h⟩
    ·intro f514 w513 hI
     obtain ⟨l510, s515, s516, s517, s518, hB, H511, h⟩ := hI
     refine X.fr (d := 3) s515 ?_
     refine X.fr (d := 8) s516 ?_
     refine X.fr (d := 9) s517 ?_
     refine X.fr (d := 10) s518 ?_
     unfold name_Fold.j2 at h
     refine X.region ?_
     refine XO.do rfl (D.add rfl rfl rfl ?_)
     refine XO.do rfl (D.mv (v := .int .i64 (w64 (x465 + 1))) rfl rfl ?_)
     refine XO.nil ?_
     exact ⟨kf461, Nat.lt_succ_self _, l510, w64 (x465 + 1), rfl, rfl, rfl, rfl, hB, H511, h⟩
   ·rw [if_neg c479] at h
    refine X.condF (congrArg Value.bool (decide_eq_false c479)) ?_
    refine X.exit rfl ?_
    refine hM282 _ _ ?_
    refine X.seq fun M549 hM550 => ?_
    refine X.region ?_
    refine XO.do rfl (D.mv (v := .slice (some ⟨b7, 0, none⟩) l462.length k8) rfl rfl ?_)
    refine XO.do rfl (D.strOf (m := 0) Try.underlying62 Try.underlying5 Try.underlying9 H463.row rfl rfl ?_)
    refine XO.do rfl (D.asn (v := S (strOf l462)) rfl rfl ?_)
    refine XO.nil ?_
    refine hM550 _ _ ?_
    refine X.ret ?_
    injection h with h
    subst h
    exact hR _ _ _ (ret1 (v := S (strOf l462)) rfl rfl) ⟨rfl, ext_of_below hB⟩
theorem name_Fold.ok (a1 : Str)  (w : World)  (hp : name_Fold.pre a1) :
  Ret Try.prog 54 ([S a1] : List Value).toArray w fun v w' => v = S (name_Fold a1) ∧ Ext w w' := by
 obtain ⟨kf, h⟩ := name_Fold.eq a1 hp
 exact name_Fold.walk kf a1  w  _ h
end Go.Proofs.Ytfcaekghpkpjdaa.K

/- A range over a function: the statement, the rounds, the end of the function that holds it. -/
namespace Go.Proofs.Ytfcaekghpkpjdaa.K
open Go Go.RowKit Go.Proofs
set_option linter.unusedVariables false
section
variable {P : Program} {n : Nat} {f : Fr} {w : World} {K : Fr → World → Prop} {d : Nat} {ty : TypeId} {pos : String} {af : Array Edge} {g : Option (Nat × Bool)}
def NoPost : Post := fun _ _ _ => False
def rp (P : Program) (l : Nat) (R : Ending → World → Prop) : Post
 | .normal, _, w => ∃ v w', (Instr.endRound l none).run P w = .ok v w' ∧ R (.returned v) w'
 | _, _, _ => False
/-- A round, out of the walks of its assignments and its body. -/
theorem roundR {l gf : Nat} {tmps : Array Value} {asg bd : Code} {R : Ending → World → Prop} (ht : Is ⟨tmps, []⟩ n f)
  (h : wpR (some l) P n asg (andThen (fun f₁ w₁ => ∃ w₂, (Instr.beginRound l).run P w₁ = .ok () w₂ ∧ wpR (some l) P n bd (rp P l R) f₁ w₂) NoPost) f w) : RoundIn (FR none) 0 P l gf tmps asg bd w R := by
 refine roundIn_of_wpIn trivial (Code.wpIn_mono ?_ (h _ ht))
 rintro e a' w' ⟨f', hf', hd, q⟩
 cases e with
 | normal =>
  obtain ⟨w₂, h1, h2⟩ := q
  refine ⟨w₂, h1, Code.wpIn_mono ?_ (h2 a' hf')⟩
  rintro e a2 w3 ⟨f2, _, _, q⟩
  cases e with
  | normal => exact q
  | _ => exact q.elim
 | _ => exact q.elim
theorem D.yield {x : Operand} {args : List Operand} {ats : Array TypeId} {vs : List Value} {l : Nat} {r : Loop} (hl : w.heap[l]? = some (.loop r)) (hs : vs.toArray.size = r.params.size) (hx : evF f x = .func (.yield l) #[] #[]) (ha : args.map (evF f) = vs) (hd : Nat.ble (d + 1) n = true)
  (h : RoundIn (FR none) 0 P l r.fn ((r.params.zip vs.toArray).foldl (fun tmps (t, a) => tmps.setIfInBounds t a) r.tmps) r.assign r.body w fun e w' => ∃ v, e = .returned v ∧ K (upd f d v) w') :
  Does P n ⟨some d, .call ⟨.value x, args.toArray, ats⟩, ty, pos, af, g⟩ f w K := by
 refine .inr (.inr (.inr ⟨l, r.fn, _, r.assign, r.body, w, ?_, RoundIn.mono h fun e w' ⟨v, he, hv⟩ => ⟨v, he, d, rfl, hd, hv⟩⟩))
 have : (args.toArray.map (evF f)) = vs.toArray := by rw [← ha]; simp
 have hy := run_yield (P := P) (args := vs.toArray) hl hs
 simp [execOp, resolve, this, hx, Deferred.ofValue, invoke, -List.map_toArray]
 simpa using hy
/-- The statement. -/
theorem rangeR {a : Act} {go : Operand} {ps : Array Tmp} {asg bd : Code} {Q : Exit → Act → World → Prop} {gf : Nat} {lb : Array Value} (hg : a.eval go = .func (.func gf) #[] lb) (hc : Callable P gf)
  (h : ∀ fn, Calls P gf (#[.func (.yield (w.heap.size + 1)) #[] #[]] ++ lb) ((w.alloc (.deferred (some []))).alloc (.loop { state := .ready, pending := none, fn, tmps := a.tmps, params := ps, assign := asg, body := bd, defers := w.heap.size })) fun e w3 => ∃ v, e = .returned v ∧
   ∃ w4, (Instr.endLoop (w.heap.size + 1)).run P w3 = .ok none w4 ∧ Q .normal { a with defers := { target := .collected w.heap.size, args := #[] } :: a.defers } w4) : (Code.rangeFunc go ps asg bd).wpIn (FR none) 0 P Q a w := by
 refine wpIn_rangeFunc ?_
 intro fn _
 obtain ⟨W1, hW1⟩ : ∃ W1, (w.alloc (.deferred (some []))).alloc (.loop { state := .ready, pending := none, fn, tmps := a.tmps, params := ps, assign := asg, body := bd, defers := w.heap.size }) = W1 := ⟨_, rfl⟩
 have h1 := h fn
 rw [hW1] at h1
 refine ⟨w.heap.size + 1, [{ target := .collected w.heap.size, args := #[] }], W1, { target := .fn (.func gf) lb, args := #[.func (.yield (w.heap.size + 1)) #[] #[]] }, W1, gf, #[.func (.yield (w.heap.size + 1)) #[] #[]] ++ lb, W1, ?_, ?_, fun _ _ => trivial, ?_, fun hh => (by cases hh), ?_⟩
 ·rw [← hW1]; exact run_enterLoop_outer fn a.tmps ps asg bd
 ·simp only [resolve, hg]
  simp [go_sem]
 ·simp [invoke, go_sem, hc _ _]
 ·refine CallsIn.mono (callsIn_FR (ro := none) h1) ?_
  rintro e w' ⟨v, rfl, w4, h1, h2⟩
  exact ⟨none, w4, h1, h2⟩
def mark (D : Nat) : List Deferred := [{ target := .collected D, args := #[] }]
def finM (P : Program) (n : Nat) (fn : Func) (R : Value → World → Prop) (D : Nat) : Post
 | .normal, f, w | .ret, f, w => w.heap[D]? = some (.deferred (some [])) ∧ ∃ v, RetV P n fn f (w.putObj D (.deferred none)) v ∧ R v (w.putObj D (.deferred none))
 | _, _, _ => False
theorem run_take {D : Nat} (h : w.heap[D]? = some (.deferred (some []))) : (Instr.takeDeferred D).run P w = .ok [] (w.putObj D (.deferred none)) := run_takeDeferred h
theorem enterM {gn : Nat} {fn : Func} {c : Code} {args : List Value} {R : Value → World → Prop} (hf : P.funcs[gn]? = some fn) (hb : fn.body = some c) (hn : fn.ntmps = n) (hl : Nat.ble args.length n = true)
  (h : ∀ a, Is a n (ini args 0 f0) → a.defers = [] → c.wpIn (FR none) 0 P (fun e a' w' => ∃ D f', Is a' n f' ∧ a'.defers = mark D ∧ finM P n fn R D e f' w') a w) : Ret P gn args.toArray w R := by
 refine (callsIn_wide (n := 0)).1 (callsIn_of_wp_marks hf hb trivial ?_)
 rw [hn]
 refine Code.wpIn_mono ?_ (h _ (Is.ofArgs (Nat.le_of_ble_eq_true hl)) rfl)
 rintro e a w' ⟨D, f', hf', hd, q⟩
 have key : (w'.heap[D]? = some (.deferred (some [])) ∧ ∃ v, RetV P n fn f' (w'.putObj D (.deferred none)) v ∧ R v (w'.putObj D (.deferred none))) → LeavesInM Fence.wide 0 P fn a.tmps (fun e w' => ∃ v, e = .returned v ∧ R v w') a.defers .returning w' := by
  rintro ⟨h1, v, h2, h3⟩
  rw [hd]
  refine ⟨by simp, .inl ⟨D, _, rfl, run_take h1, ?_⟩⟩
  exact ⟨v, h2 a hf', v, rfl, h3⟩
 cases e with
 | normal => exact key q
 | ret => exact key q
 | _ => exact q.elim
/-- A first part that has no such statement. -/
theorem seqA {x y : Code} {Q : Exit → Act → World → Prop} {a : Act} (M : Fr → World → Prop) (ha : Is a n f) (hx : X P n x M [] (fun _ _ => False) f w) (hy : ∀ f' w' a', M f' w' → Is a' n f' → a'.defers = a.defers → y.wpIn (FR none) 0 P Q a' w') : (Code.seq x y).wpIn (FR none) 0 P Q a w := by
 refine wpIn_seq (Code.wpIn_mono ?_ (hx a ha))
 rintro e a' w' ⟨f', hf', hd, q⟩
 cases e with
 | normal => exact hy f' w' a' q hf' hd
 | exit j => exact q.elim
 | _ => exact q.elim
end
end Go.Proofs.Ytfcaekghpkpjdaa.K

/- name.Labels: the range over its labels. -/
namespace Go.Proofs.Ytfcaekghpkpjdaa.K
open Go Go.RowKit Go.Proofs
set_option linter.unusedVariables false
set_option maxRecDepth 100000
def MC (b : Nat) (M : Nat → Prop) (x : Nat) : Prop := MB b x ∨ M x
theorem gm_blkC {w w1 w2 : World} {b : Nat} {M : Nat → Prop} (h : GrM w w1 (MC b M)) (k : w1.grownBy w2 (some b)) : GrM w w2 (MC b M) :=
 h.step (GrM.of_grown (M := MB b) k (by intro x e; injection e with e; exact e.symm)) (fun x hx => .inl (.inl hx))
def rfOf : Code → Option (Code × Code)
 | .rangeFunc _ _ a b => some (a, b)
 | .seq x y => match rfOf x with
  | some p => some p
  | none => rfOf y
 | .block _ c => rfOf c
 | _ => none
noncomputable def rfL : Code × Code := ((Try.f53.body.bind rfOf).getD (.skip, .skip))
noncomputable def recL (fn : Nat) (tmps : Array Value) (D : Nat) : Loop := { state := .ready, pending := none, fn, tmps, params := #[11, 12], assign := rfL.1, body := rfL.2, defers := D }
def isY (w : World) (M : Nat → Prop) (l : Nat) (s : YSt) : Prop := ∃ (fn : Nat) (tmps : Array Value) (f : Fr) (base : Nat) (A : Option Go.Addr) (c : Nat),
 w.heap[l]? = some (.loop (recL fn tmps s.D)) ∧ Is ⟨tmps, []⟩ 26 f ∧ f 4 = pt s.b4 0 ∧ f 5 = pt s.b5 0 ∧ w.heap[s.D]? = some (.deferred (some [])) ∧ Blk w s.b4 [.slice A s.ls.length c] 94 ∧ Own eStr 9 w base A c s.ls ∧ Blk w s.b5 [S s.left] 9 ∧
 base ≤ w.heap.size ∧ s.b5 < base ∧ M = fun x => x = l ∨ x = s.D ∨ x = s.b4 ∨ x = s.b5 ∨ MO A x
noncomputable def okY : OK YSt where
 is := isY
 lt' := by
  rintro w M l s ⟨fn, tmps, f, base, A, c, h1, h2, h3, h4, h5, h6, h7, h8, h9, h10, rfl⟩ x hx
  rcases hx with rfl | rfl | rfl | rfl | hx
  ·exact (Array.getElem?_eq_some_iff.1 h1).1
  ·exact (Array.getElem?_eq_some_iff.1 h5).1
  ·exact h6.lt
  ·exact h8.lt
  ·exact (h7.base x hx).2
 gm' := by
  rintro w w' M l s M' ⟨fn, tmps, f, base, A, c, h1, h2, h3, h4, h5, h6, h7, h8, h9, h10, rfl⟩ k hne
  exact ⟨fn, tmps, f, base, A, c, (k.block _ (Array.getElem?_eq_some_iff.1 h1).1 (hne _ (.inl rfl))).trans h1, h2, h3, h4, (k.block _ (Array.getElem?_eq_some_iff.1 h5).1 (hne _ (.inr (.inl rfl)))).trans h5,
   h6.gm k (fun x e => hne x (.inr (.inr (.inl e)))), h7.gm k (fun x e => hne x (.inr (.inr (.inr (.inr e))))), h8.gm k (fun x e => hne x (.inr (.inr (.inr (.inl e))))), Nat.le_trans h9 k.size, h10, rfl⟩
def YRet (P : Program) (l : Nat) (vs : Array Value) (w : World) (R : Value → World → Prop) : Prop := ∃ r : Loop, w.heap[l]? = some (.loop r) ∧ vs.size = r.params.size ∧
 RoundIn (FR none) 0 P l r.fn ((r.params.zip vs).foldl (fun tmps (t, a) => tmps.setIfInBounds t a) r.tmps) r.assign r.body w fun e w' => ∃ v, e = .returned v ∧ R v w'
theorem D.yieldO {P : Program} {n : Nat} {f : Fr} {w : World} {K : Fr → World → Prop} {d : Nat} {ty : TypeId} {pos : String} {af : Array Edge} {g : Option (Nat × Bool)} {x : Operand} {args : List Operand} {ats : Array TypeId} {vs : List Value} {l : Nat} {R : Value → World → Prop}
  (hc : YRet P l vs.toArray w R) (hx : evF f x = .func (.yield l) #[] #[]) (ha : args.map (evF f) = vs) (hd : Nat.ble (d + 1) n = true) (k : ∀ v w', R v w' → K (upd f d v) w') : Does P n ⟨some d, .call ⟨.value x, args.toArray, ats⟩, ty, pos, af, g⟩ f w K := by
 obtain ⟨r, h1, h2, h3⟩ := hc
 exact D.yield h1 h2 hx ha hd (RoundIn.mono h3 fun e w' ⟨v, he, hv⟩ => ⟨v, he, k v w' hv⟩)
theorem tiStr : TI Try.prog 9 (S []) 1 16 := by unfold TI; kernel_rfl
theorem tiStrs : TI Try.prog 94 (.slice none 0 0) 1 24 := by unfold TI; kernel_rfl
theorem putObj_gr (w : World) (l : Nat) (o : Obj) : w.grownBy (w.putObj l o) (some l) := ⟨rfl, rfl, rfl, by simp, fun k _ hk => World.putObj_heap_other (fun e => hk (by rw [e]))⟩
theorem own_ne_obj {α : Type} {E : En α} {T : TypeId} {w : World} {base c l : Nat} {A : Option Go.Addr} {xs : List α} {o : Obj} (ho : Own E T w base A c xs) (hl : w.heap[l]? = some o) (hn : ∀ cur e z, o ≠ .cells cur e z) : ∀ x, MO A x → x ≠ l := by
 intro x hx e
 subst e
 rcases ho.2 with ⟨h, _⟩ | ⟨gb, cap, cur, h, _, hg, _⟩
 ·injection h with h1 h2 h3; subst h1; simp [MO, blkOf] at hx
 ·injection h with h1 h2 h3
  subst h1
  simp only [MO, blkOf, Option.map_some, Option.some.injEq] at hx
  subst hx
  rw [hg] at hl; injection hl with hl; exact hn _ _ _ hl.symm
theorem blk_ne_obj {w : World} {b l : Nat} {cs : List Value} {T : TypeId} {o : Obj} (hb : Blk w b cs T) (hl : w.heap[l]? = some o) (hn : ∀ cur e z, o ≠ .cells cur e z) : b ≠ l := by
 intro e; subst e
 have hb' : w.heap[b]? = _ := hb
 rw [hb'] at hl; injection hl with hl; exact hn _ _ _ hl.symm
theorem blk_ne_blk {w : World} {b l : Nat} {cs cs' : List Value} {T T' : TypeId} (hb : Blk w b cs T) (hl : Blk w l cs' T') (hT : T ≠ T') : b ≠ l := by
 intro e; subst e
 have hb' : w.heap[b]? = _ := hb
 have hl' : w.heap[b]? = _ := hl
 rw [hb'] at hl'; injection hl' with hl'; injection hl' with _ h; exact hT h
theorem yStep.ok (s : YSt) (label rest : Str) (M : Nat → Prop) (l : Nat) (w : World) (h : okY.is w M l s) (hp : yStep.pre s label rest) :
  YRet Try.prog l ([S label, S rest] : List Value).toArray w fun v w' => ∃ M' : Nat → Prop, v = .bool (yStep s label rest).1 ∧ okY.is w' M' l (yStep s label rest).2 ∧ (∀ x, M' x → M x ∨ w.heap.size ≤ x) ∧ GrM w w' M := by
 obtain ⟨fn, tmps, f, base, A, c, h1, h2, h3, h4, h5, h6, h7, h8, h9, h10, rfl⟩ := h
 refine ⟨_, h1, rfl, ?_⟩
 have ht : Is ⟨((#[11, 12] : Array Nat).zip ([S label, S rest] : List Value).toArray).foldl (fun tmps (t, a) => tmps.setIfInBounds t a) tmps, []⟩ 26 (upd (upd f 11 (S label)) 12 (S rest)) :=
  by
   have hh : Is ⟨(tmps.setIfInBounds 11 (S label)).setIfInBounds 12 (S rest), []⟩ 26 (upd (upd f 11 (S label)) 12 (S rest)) := (h2.put (d := 11) rfl (S label)).put (d := 12) rfl (S rest)
   have e : (#[11, 12] : Array Nat).zip ([S label, S rest] : List Value).toArray = #[(11, S label), (12, S rest)] := by simp
   rw [e]
   simpa using hh
 refine roundR (n := 26) ht ?_
 refine W.seq ?_
 refine W.region ?_
 refine O.does rfl (D.asn (v := S label) rfl rfl ?_)
 refine O.nil ?_
 refine W.region ?_
 refine O.does rfl (D.asn (v := S rest) rfl rfl ?_)
 refine O.nil ?_
 have hbr := run_beginRound (P := Try.prog) h1 rfl
 refine ⟨_, hbr, ?_⟩
 obtain ⟨W1, hW1⟩ : ∃ W1, w.putObj l (.loop { recL fn tmps s.D with state := .busy }) = W1 := ⟨_, rfl⟩
 rw [hW1]
 have hgr : w.grownBy W1 (some l) := by rw [← hW1]; exact putObj_gr _ _ _
 have hl1 : W1.heap[l]? = some (.loop { recL fn tmps s.D with state := .busy }) := by rw [← hW1]; exact World.putObj_heap_same (Array.getElem?_eq_some_iff.1 h1).1
 have hD1 : W1.heap[s.D]? = some (.deferred (some [])) := (hgr.block _ (Array.getElem?_eq_some_iff.1 h5).1 (by intro e; injection e with e; rw [e] at h5; rw [h1] at h5; cases h5)).trans h5
 replace h6 := h6.grown hgr (by intro e; injection e with e; exact blk_ne_obj h6 h1 (by intro _ _ _ e; cases e) e)
 replace h8 := h8.grown hgr (by intro e; injection e with e; exact blk_ne_obj h8 h1 (by intro _ _ _ e; cases e) e)
 replace h7 := h7.gr hgr (by intro x hx e; injection e with e; exact own_ne_obj h7 h1 (by intro _ _ _ e; cases e) x hx e)
 have hB : GrM w W1 (fun x => x = l ∨ x = s.D ∨ x = s.b4 ∨ x = s.b5 ∨ MO A x) := GrM.of_grown hgr (by intro x e; injection e with e; exact .inl e.symm)
 have hbs : base ≤ W1.heap.size := Nat.le_trans h9 hB.size
 refine W.block ?_
 refine W.seq ?_
 refine W.region ?_
 refine O.does rfl (D.load (j := 0) (v := .slice A s.ls.length c) (sca Try.underlying94 rfl) h6.cs h3 rfl rfl rfl ?_)
 refine O.does rfl (D.mv (v := S label) rfl rfl ?_)
 refine O.does rfl (D.buildR (vs := [S label]) (cs := [S label]) Try.underlying94 tiStr rfl rfl rfl rfl rfl rfl rfl ?_)
 intro b2 w2 hb2 H2 e2 _
 replace h6 := h6.ext e2
 replace h7 := h7.ext e2
 replace h8 := h8.ext e2
 replace hB := gm_ext hB e2
 replace hbs := Nat.le_trans hbs (World.grownBy.size e2)
 have hr : Row eStr w2 (some ⟨b2, 0, none⟩) 1 [label] := Blk.row1 (E := eStr) H2
 unfold yStep.pre at hp
 refine O.does rfl (D.append (E := eStr) (xs := s.ls) (ys := [label]) (m := 1) Try.underlying94 tiStr rfl h7 hr hbs (by simp; omega) (by simp; omega) rfl rfl rfl rfl ?_)
 intro A' c' w3 ho3 e3 hat
 have hl2 : w2.heap[l]? = some (.loop { recL fn tmps s.D with state := .busy }) := (e2.block _ (Array.getElem?_eq_some_iff.1 hl1).1 (by simp)).trans hl1
 have hD2 : w2.heap[s.D]? = some (.deferred (some [])) := (e2.block _ (Array.getElem?_eq_some_iff.1 hD1).1 (by simp)).trans hD1
 have hl3 : w3.heap[l]? = some (.loop { recL fn tmps s.D with state := .busy }) := (e3.block _ (Array.getElem?_eq_some_iff.1 hl2).1 (fun e => own_ne_obj h7 hl2 (by intro _ _ _ e; cases e) _ e.symm rfl)).trans hl2
 have hD3 : w3.heap[s.D]? = some (.deferred (some [])) := (e3.block _ (Array.getElem?_eq_some_iff.1 hD2).1 (fun e => own_ne_obj h7 hD2 (by intro _ _ _ e; cases e) _ e.symm rfl)).trans hD2
 have h63 := h6.grown e3 (fun e => own_blk_ne h7 h6 (by decide) _ e.symm rfl)
 have h83 := h8.grown e3 (fun e => by have := (h7.base _ e.symm).1; omega)
 replace hB := hB.step (GrM.of_grown (M := MO A) e3 (fun x e => e)) (fun x hx => .inl (.inr (.inr (.inr (.inr hx)))))
 have hws : w.heap.size ≤ w2.heap.size := Nat.le_trans hgr.size (World.grownBy.size e2)
 refine O.does rfl (D.store (v := .slice A' (s.ls ++ [label]).length c') (us := [.slice A' (s.ls ++ [label]).length c']) (fun w => tiStrs.size w) h63 h3 rfl rfl rfl rfl rfl ?_)
 intro w4 H4 e4
 have hl4 : w4.heap[l]? = some (.loop { recL fn tmps s.D with state := .busy }) := (e4.block _ (Array.getElem?_eq_some_iff.1 hl3).1 (by intro e; injection e with e; exact blk_ne_obj h63 hl3 (by intro _ _ _ e; cases e) e.symm)).trans hl3
 have hD4 : w4.heap[s.D]? = some (.deferred (some [])) := (e4.block _ (Array.getElem?_eq_some_iff.1 hD3).1 (by intro e; injection e with e; exact blk_ne_obj h63 hD3 (by intro _ _ _ e; cases e) e.symm)).trans hD3
 have h84 := h83.grown e4 (by intro e; injection e with e; exact blk_ne_blk h63 h83 (by decide) e.symm)
 have ho4 := ho3.gr e4 (fun x hx e => by injection e with e; exact own_blk_ne ho3 h63 (by decide) x hx e)
 replace hB := hB.step (GrM.of_grown (M := fun x => x = s.b4) e4 (fun x e => by injection e with e; exact e.symm)) (fun x hx => .inl (.inr (.inr (.inl hx))))
 refine O.nil ?_
 refine W.region ?_
 refine O.does rfl (D.mv (v := S rest) rfl rfl ?_)
 refine O.does rfl (D.store (v := S rest) (us := [S rest]) (fun w => tiStr.size w) h84 h4 rfl rfl rfl rfl rfl ?_)
 intro w5 H5 e5
 have hl5 : w5.heap[l]? = some (.loop { recL fn tmps s.D with state := .busy }) := (e5.block _ (Array.getElem?_eq_some_iff.1 hl4).1 (by intro e; injection e with e; exact blk_ne_obj h84 hl4 (by intro _ _ _ e; cases e) e.symm)).trans hl4
 have hD5 : w5.heap[s.D]? = some (.deferred (some [])) := (e5.block _ (Array.getElem?_eq_some_iff.1 hD4).1 (by intro e; injection e with e; exact blk_ne_obj h84 hD4 (by intro _ _ _ e; cases e) e.symm)).trans hD4
 have h65 := H4.grown e5 (by intro e; injection e with e; exact blk_ne_blk H4 h84 (by decide) e)
 have ho5 := ho4.gr e5 (fun x hx e => by injection e with e; have := (ho4.base x hx).1; omega)
 replace hB := hB.step (GrM.of_grown (M := fun x => x = s.b5) e5 (fun x e => by injection e with e; exact e.symm)) (fun x hx => .inl (.inr (.inr (.inr (.inl hx)))))
 refine O.nil ?_
 have hend := run_endRound (P := Try.prog) none hl5
 obtain ⟨w6, hw6⟩ : ∃ w6, w5.putObj l (.loop (recL fn tmps s.D)) = w6 := ⟨_, rfl⟩
 have hg6 : w5.grownBy w6 (some l) := by rw [← hw6]; exact putObj_gr _ _ _
 have hl6 : w6.heap[l]? = some (.loop (recL fn tmps s.D)) := by rw [← hw6]; exact World.putObj_heap_same (Array.getElem?_eq_some_iff.1 hl5).1
 have hD6 : w6.heap[s.D]? = some (.deferred (some [])) := (hg6.block _ (Array.getElem?_eq_some_iff.1 hD5).1 (by intro e; injection e with e; rw [e] at hD5; rw [hl5] at hD5; cases hD5)).trans hD5
 have h66 := h65.grown hg6 (by intro e; injection e with e; exact blk_ne_obj h65 hl5 (by intro _ _ _ e; cases e) e)
 have h86 := H5.grown hg6 (by intro e; injection e with e; exact blk_ne_obj H5 hl5 (by intro _ _ _ e; cases e) e)
 have ho6 := ho5.gr hg6 (fun x hx e => by injection e with e; exact own_ne_obj ho5 hl5 (by intro _ _ _ e; cases e) x hx e)
 replace hB := hB.step (GrM.of_grown (M := fun x => x = l) hg6 (fun x e => by injection e with e; exact e.symm)) (fun x hx => .inl (.inl hx))
 refine ⟨.bool true, w6, by rw [← hw6]; exact hend, .bool true, rfl, (fun x => x = l ∨ x = s.D ∨ x = s.b4 ∨ x = s.b5 ∨ MO A' x), rfl, ?_, ?_, hB⟩
 ·exact ⟨fn, tmps, f, base, A', c', hl6, h2, h3, h4, hD6, h66, ho6, h86, Nat.le_trans h9 hB.size, h10, rfl⟩
 ·rintro x (h | h | h | h | h)
  ·exact .inl (.inl h)
  ·exact .inl (.inr (.inl h))
  ·exact .inl (.inr (.inr (.inl h)))
  ·exact .inl (.inr (.inr (.inr (.inl h))))
  ·rcases hat with e | e
   ·exact .inl (.inr (.inr (.inr (.inr (by unfold MO at h ⊢; rw [← e]; exact h)))))
   ·unfold MO at h; rw [e] at h; injection h with h; exact .inr (by rw [← h]; exact hws)
end Go.Proofs.Ytfcaekghpkpjdaa.K

/- Walks, printed by a program of this session. -/
namespace Go.Proofs.Ytfcaekghpkpjdaa.K
open Go Go.RowKit Go.Proofs
set_option linter.unusedVariables false
set_option maxRecDepth 100000
set_option maxHeartbeats 4000000
namespace FB2
theorem mixed0 : Try.prog.follows .mixedOrders = true := by kernel_rfl
theorem sc9 : Sca Try.prog 9 := sca Try.underlying9 rfl
theorem ti9 : TI Try.prog 9 (S []) 1 16 := by unfold TI; kernel_rfl
theorem sz9 : ∀ w, (sizeOf 9).run Try.prog w = .ok 1 w := fun w => ti9.size w
end FB2
open FB2
theorem name_each_1.walk (kf : Nat) (a4 : YSt) (a8 : Str) (M1 : Nat → Prop) (l2 : Nat) (b3 : Nat) (w : World) (H5 : okY.is w M1 l2 a4) (H9 : Blk w b3 [S a8] 9) (S11 : ∀ x y, M1 x → MB b3 y → x ≠ y) (res : YSt) (h : name_each_1.f kf a4 a8 = some res) :
  Ret Try.prog 83 ([.func (.yield l2) #[] #[], pt b3 0] : List Value).toArray w fun v w' => ∃ (M' : Nat → Prop), v = .tuple #[] ∧ okY.is w' M' l2 res ∧ (∀ x, M' x → (MC b3 M1) x ∨ w.heap.size ≤ x) ∧ GrM w w' (MC b3 M1) := by
 unfold name_each_1.f at h
 refine enterX Try.func83 rfl Try.ntmps83 rfl (fun R hR => ?_)
 have hB := GrM.refl w (MC b3 M1)
 refine X.block ?_
 refine X.loop (fun kq462 => fun f321 w320 => ∃ M315 : Nat → Prop, ∃ x316 : YSt, ∃ x317 : Str, f321 0 = .func (.yield l2) #[] #[] ∧ f321 1 = pt b3 0 ∧ GrM w w320 (MC b3 M1) ∧ okY.is w320 M315 l2 x316 ∧ (∀ x, M315 x → (MC b3 M1) x ∨ w.heap.size ≤ x) ∧ Blk w320 b3 [S x317] 9 ∧ (∀ x y, M315 x → MB b3 y → x ≠ y) ∧ name_each_1.l1 kq462 x316 x317 = some res) kf ?_ ?_
 ·exact ⟨M1, a4, a8, rfl, rfl, hB, H5, (fun x hx => .inl (.inr hx)), H9, S11, h⟩
 ·intro kq462 f321 w320 hI
  obtain ⟨M315, x316, x317, s322, s323, hB, H314, hg7, H318, pr7_10, h⟩ := hI
  cases kq462 with
  | zero => exact absurd h (by rw [name_each_1.l1.eq_1]; simp)
  | succ kf313 =>
   rw [name_each_1.l1.eq_2] at h
   refine X.fr (d := 0) s322 ?_
   refine X.fr (d := 1) s323 ?_
   refine X.seq fun M351 hM352 => ?_
   refine X.cut (fun f365 w364 => ∃ x363 : Bool, f365 0 = .func (.yield l2) #[] #[] ∧ f365 1 = pt b3 0 ∧ f365 23 = .bool x363 ∧ GrM w w364 (MC b3 M1) ∧ okY.is w364 M315 l2 x316 ∧ Blk w364 b3 [S x317] 9 ∧ (∀ x y, M315 x → MB b3 y → x ≠ y) ∧ name_each_1.j2 x317 x316 (name_each_1.l1 kf313) x363 = some res) ?_ ?_
   ·refine X.tree mixed0 [0, 1, 3, 7, 15, 31, 63, 127, 255, 511, 1023, 2047, 4095, 8191, 16383, 32767, 8191, 73727, 262143, 524287] (.q 0 (.q 1 (.q 2 (.q 3 (.q 4 (.q 5 (.q 6 (.q 7 (.q 8 (.q 9 (.q 10 (.q 11 (.q 12 (.q 13 (.q 14 (.q 15 (.q 16 (.q 17 (.q 18 (.q 19 .nil)))))))))))))))))))) (fun w' => GrM w w' (MC b3 M1) ∧ okY.is w' M315 l2 x316 ∧ Blk w' b3 [S x317] 9) (fun w' => GrM w w' (MC b3 M1) ∧ okY.is w' M315 l2 x316 ∧ Blk w' b3 [S x317] 9) (by decide +kernel) (fun w' hx _ => ⟨gm_ext hB hx, H314.ext hx, H318.ext hx⟩) (fun a b hC hx => by obtain ⟨hB, H314, H318⟩ := hC; exact ⟨gm_ext hB hx, H314.ext hx, H318.ext hx⟩) (fun a hC => by obtain ⟨hB, H314, H318⟩ := hC; exact ⟨hB, H314, H318⟩) ?_
    refine QT.do (v := S x317) rfl (by decide +kernel) rfl rfl rfl (fun w' hJ => by obtain ⟨hB, H314, H318⟩ := hJ; exact D.load (j := 0) (v := S x317) sc9 H318.cs rfl rfl rfl rfl ⟨rfl, Ext.refl _⟩) ?_
    refine QT.do (v := .bool (!(x317 == ([] : Str)))) rfl (by decide +kernel) rfl rfl rfl (fun w' hJ => by obtain ⟨hB, H314, H318⟩ := hJ; exact D.neqS rfl rfl rfl ⟨rfl, Ext.refl _⟩) ?_
    refine QT.do (v := .bool (!(x317 == ([] : Str)))) rfl (by decide +kernel) rfl rfl rfl (fun w' hJ => by obtain ⟨hB, H314, H318⟩ := hJ; exact D.mv (v := .bool (!(x317 == ([] : Str)))) rfl rfl ⟨rfl, Ext.refl _⟩) ?_
    by_cases c454 : x317 = ([] : Str)
    ·rw [if_pos c454] at h
     refine QT.off rfl (wantG0 (j := 2) (b := true) rfl ((congrArg (!·) (beq_iff_eq.2 c454))) rfl) rfl rfl ?_
     refine QT.off rfl (wantG0 (j := 2) (b := true) rfl ((congrArg (!·) (beq_iff_eq.2 c454))) rfl) rfl rfl ?_
     refine QT.off rfl (wantG0 (j := 2) (b := true) rfl ((congrArg (!·) (beq_iff_eq.2 c454))) rfl) rfl rfl ?_
     refine QT.do (v := .bool false) rfl (by decide +kernel) rfl rfl rfl (fun w' hJ => by obtain ⟨hB, H314, H318⟩ := hJ; exact D.pick false (v := .bool false) (congrArg Value.bool ((congrArg (!·) (beq_iff_eq.2 c454)))) rfl rfl ⟨rfl, Ext.refl _⟩) ?_
     refine QT.do (v := .bool false) rfl (by decide +kernel) rfl rfl rfl (fun w' hJ => by obtain ⟨hB, H314, H318⟩ := hJ; exact D.mv (v := .bool false) rfl rfl ⟨rfl, Ext.refl _⟩) ?_
     refine QT.off rfl (wantG0 (j := 7) (b := true) rfl (rfl) rfl) rfl rfl ?_
     refine QT.off rfl (wantG0 (j := 7) (b := true) rfl (rfl) rfl) rfl rfl ?_
     refine QT.off rfl (wantG0 (j := 7) (b := true) rfl (rfl) rfl) rfl rfl ?_
     refine QT.do (v := .bool false) rfl (by decide +kernel) rfl rfl rfl (fun w' hJ => by obtain ⟨hB, H314, H318⟩ := hJ; exact D.pick false (v := .bool false) (congrArg Value.bool (rfl)) rfl rfl ⟨rfl, Ext.refl _⟩) ?_
     refine QT.do (v := .bool false) rfl (by decide +kernel) rfl rfl rfl (fun w' hJ => by obtain ⟨hB, H314, H318⟩ := hJ; exact D.mv (v := .bool false) rfl rfl ⟨rfl, Ext.refl _⟩) ?_
     refine QT.off rfl (wantG0 (j := 12) (b := true) rfl (rfl) rfl) rfl rfl ?_
     refine QT.off rfl (wantG0 (j := 12) (b := true) rfl (rfl) rfl) rfl rfl ?_
     refine QT.off rfl (wantG0 (j := 12) (b := true) rfl (rfl) rfl) rfl rfl ?_
     refine QT.off rfl (wantG0 (j := 12) (b := true) rfl (rfl) rfl) rfl rfl ?_
     refine QT.off rfl (wantG0 (j := 12) (b := true) rfl (rfl) rfl) rfl rfl ?_
     refine QT.off rfl (wantG0 (j := 12) (b := true) rfl (rfl) rfl) rfl rfl ?_
     refine QT.do (v := .bool false) rfl (by decide +kernel) rfl rfl rfl (fun w' hJ => by obtain ⟨hB, H314, H318⟩ := hJ; exact D.pick false (v := .bool false) (congrArg Value.bool (rfl)) rfl rfl ⟨rfl, Ext.refl _⟩) ?_
     refine QT.nil fun w455 hC => ?_
     obtain ⟨hB, H314, H318⟩ := hC
     exact ⟨false, rfl, rfl, rfl, hB, H314, H318, pr7_10, h⟩
    ·rw [if_neg c454] at h
     refine QT.do (v := S x317) rfl (by decide +kernel) (wantG (j := 2) (b := true) rfl ((congrArg (!·) (beq_eq_false_iff_ne.2 c454))) rfl) rfl rfl (fun w' hJ => by obtain ⟨hB, H314, H318⟩ := hJ; exact D.load (j := 0) (v := S x317) sc9 H318.cs rfl rfl rfl rfl ⟨rfl, Ext.refl _⟩) ?_
     rcases (Classical.em (0 < (x317.length : Int))).symm with c456 | c456
     ·rw [if_neg c456] at h; cases h
     rw [if_pos c456] at h
     refine QT.do (v := .int .u8 (bt x317 0)) rfl (by decide +kernel) (wantG (j := 2) (b := true) rfl ((congrArg (!·) (beq_eq_false_iff_ne.2 c454))) rfl) rfl rfl (fun w' hJ => by obtain ⟨hB, H314, H318⟩ := hJ; exact D.indexS (i := (0 : Int)) Try.underlying9 rfl rfl (by first | decide | simp | omega) c456 rfl ⟨rfl, Ext.refl _⟩) ?_
     refine QT.do (v := .bool (decide (0 < (bt x317 0)))) rfl (by decide +kernel) (wantG (j := 2) (b := true) rfl ((congrArg (!·) (beq_eq_false_iff_ne.2 c454))) rfl) rfl rfl (fun w' hJ => by obtain ⟨hB, H314, H318⟩ := hJ; exact D.gtr rfl rfl rfl ⟨rfl, Ext.refl _⟩) ?_
     refine QT.do (v := .bool (decide (0 < (bt x317 0)))) rfl (by decide +kernel) rfl rfl rfl (fun w' hJ => by obtain ⟨hB, H314, H318⟩ := hJ; exact D.pick true (v := .bool (decide (0 < (bt x317 0)))) (congrArg Value.bool ((congrArg (!·) (beq_eq_false_iff_ne.2 c454)))) rfl rfl ⟨rfl, Ext.refl _⟩) ?_
     refine QT.do (v := .bool (decide (0 < (bt x317 0)))) rfl (by decide +kernel) rfl rfl rfl (fun w' hJ => by obtain ⟨hB, H314, H318⟩ := hJ; exact D.mv (v := .bool (decide (0 < (bt x317 0)))) rfl rfl ⟨rfl, Ext.refl _⟩) ?_
     by_cases c457 : 0 < (bt x317 0)
     ·rw [if_pos c457] at h
      refine QT.do (v := S x317) rfl (by decide +kernel) (wantG (j := 7) (b := true) rfl (decide_eq_true c457) rfl) rfl rfl (fun w' hJ => by obtain ⟨hB, H314, H318⟩ := hJ; exact D.load (j := 0) (v := S x317) sc9 H318.cs rfl rfl rfl rfl ⟨rfl, Ext.refl _⟩) ?_
      refine QT.do (v := .int .u8 (bt x317 0)) rfl (by decide +kernel) (wantG (j := 7) (b := true) rfl (decide_eq_true c457) rfl) rfl rfl (fun w' hJ => by obtain ⟨hB, H314, H318⟩ := hJ; exact D.indexS (i := (0 : Int)) Try.underlying9 rfl rfl (by first | decide | simp | omega) c456 rfl ⟨rfl, Ext.refl _⟩) ?_
      refine QT.do (v := .bool (decide ((bt x317 0) ≤ 63))) rfl (by decide +kernel) (wantG (j := 7) (b := true) rfl (decide_eq_true c457) rfl) rfl rfl (fun w' hJ => by obtain ⟨hB, H314, H318⟩ := hJ; exact D.leq rfl rfl rfl ⟨rfl, Ext.refl _⟩) ?_
      refine QT.do (v := .bool (decide ((bt x317 0) ≤ 63))) rfl (by decide +kernel) rfl rfl rfl (fun w' hJ => by obtain ⟨hB, H314, H318⟩ := hJ; exact D.pick true (v := .bool (decide ((bt x317 0) ≤ 63))) (congrArg Value.bool (decide_eq_true c457)) rfl rfl ⟨rfl, Ext.refl _⟩) ?_
      refine QT.do (v := .bool (decide ((bt x317 0) ≤ 63))) rfl (by decide +kernel) rfl rfl rfl (fun w' hJ => by obtain ⟨hB, H314, H318⟩ := hJ; exact D.mv (v := .bool (decide ((bt x317 0) ≤ 63))) rfl rfl ⟨rfl, Ext.refl _⟩) ?_
      by_cases c458 : (bt x317 0) ≤ 63
      ·rw [if_pos c458] at h
       refine QT.do (v := S x317) rfl (by decide +kernel) (wantG (j := 12) (b := true) rfl (decide_eq_true c458) rfl) rfl rfl (fun w' hJ => by obtain ⟨hB, H314, H318⟩ := hJ; exact D.load (j := 0) (v := S x317) sc9 H318.cs rfl rfl rfl rfl ⟨rfl, Ext.refl _⟩) ?_
       refine QT.do (v := .int .u8 (bt x317 0)) rfl (by decide +kernel) (wantG (j := 12) (b := true) rfl (decide_eq_true c458) rfl) rfl rfl (fun w' hJ => by obtain ⟨hB, H314, H318⟩ := hJ; exact D.indexS (i := (0 : Int)) Try.underlying9 rfl rfl (by first | decide | simp | omega) c456 rfl ⟨rfl, Ext.refl _⟩) ?_
       refine QT.do (v := .int .i64 (w64 (bt x317 0))) rfl (by decide +kernel) (wantG (j := 12) (b := true) rfl (decide_eq_true c458) rfl) rfl rfl (fun w' hJ => by obtain ⟨hB, H314, H318⟩ := hJ; exact D.conv Try.underlying5 Try.underlying3 rfl rfl ⟨rfl, Ext.refl _⟩) ?_
       refine QT.do (v := S x317) rfl (by decide +kernel) (wantG (j := 12) (b := true) rfl (decide_eq_true c458) rfl) rfl rfl (fun w' hJ => by obtain ⟨hB, H314, H318⟩ := hJ; exact D.load (j := 0) (v := S x317) sc9 H318.cs rfl rfl rfl rfl ⟨rfl, Ext.refl _⟩) ?_
       refine QT.do (v := .int .i64 (x317.length : Int)) rfl (by decide +kernel) (wantG (j := 12) (b := true) rfl (decide_eq_true c458) rfl) rfl rfl (fun w' hJ => by obtain ⟨hB, H314, H318⟩ := hJ; exact D.lenS Try.underlying9 rfl rfl ⟨rfl, Ext.refl _⟩) ?_
       refine QT.do (v := .bool (decide ((w64 (bt x317 0)) < (x317.length : Int)))) rfl (by decide +kernel) (wantG (j := 12) (b := true) rfl (decide_eq_true c458) rfl) rfl rfl (fun w' hJ => by obtain ⟨hB, H314, H318⟩ := hJ; exact D.lss rfl rfl rfl ⟨rfl, Ext.refl _⟩) ?_
       refine QT.do (v := .bool (decide ((w64 (bt x317 0)) < (x317.length : Int)))) rfl (by decide +kernel) rfl rfl rfl (fun w' hJ => by obtain ⟨hB, H314, H318⟩ := hJ; exact D.pick true (v := .bool (decide ((w64 (bt x317 0)) < (x317.length : Int)))) (congrArg Value.bool (decide_eq_true c458)) rfl rfl ⟨rfl, Ext.refl _⟩) ?_
       refine QT.nil fun w459 hC => ?_
       obtain ⟨hB, H314, H318⟩ := hC
       exact ⟨(decide ((w64 (bt x317 0)) < (x317.length : Int))), rfl, rfl, rfl, hB, H314, H318, pr7_10, h⟩
      ·rw [if_neg c458] at h
       refine QT.off rfl (wantG0 (j := 12) (b := true) rfl (decide_eq_false c458) rfl) rfl rfl ?_
       refine QT.off rfl (wantG0 (j := 12) (b := true) rfl (decide_eq_false c458) rfl) rfl rfl ?_
       refine QT.off rfl (wantG0 (j := 12) (b := true) rfl (decide_eq_false c458) rfl) rfl rfl ?_
       refine QT.off rfl (wantG0 (j := 12) (b := true) rfl (decide_eq_false c458) rfl) rfl rfl ?_
       refine QT.off rfl (wantG0 (j := 12) (b := true) rfl (decide_eq_false c458) rfl) rfl rfl ?_
       refine QT.off rfl (wantG0 (j := 12) (b := true) rfl (decide_eq_false c458) rfl) rfl rfl ?_
       refine QT.do (v := .bool false) rfl (by decide +kernel) rfl rfl rfl (fun w' hJ => by obtain ⟨hB, H314, H318⟩ := hJ; exact D.pick false (v := .bool false) (congrArg Value.bool (decide_eq_false c458)) rfl rfl ⟨rfl, Ext.refl _⟩) ?_
       refine QT.nil fun w460 hC => ?_
       obtain ⟨hB, H314, H318⟩ := hC
       exact ⟨false, rfl, rfl, rfl, hB, H314, H318, pr7_10, h⟩
     ·rw [if_neg c457] at h
      refine QT.off rfl (wantG0 (j := 7) (b := true) rfl (decide_eq_false c457) rfl) rfl rfl ?_
      refine QT.off rfl (wantG0 (j := 7) (b := true) rfl (decide_eq_false c457) rfl) rfl rfl ?_
      refine QT.off rfl (wantG0 (j := 7) (b := true) rfl (decide_eq_false c457) rfl) rfl rfl ?_
      refine QT.do (v := .bool false) rfl (by decide +kernel) rfl rfl rfl (fun w' hJ => by obtain ⟨hB, H314, H318⟩ := hJ; exact D.pick false (v := .bool false) (congrArg Value.bool (decide_eq_false c457)) rfl rfl ⟨rfl, Ext.refl _⟩) ?_
      refine QT.do (v := .bool false) rfl (by decide +kernel) rfl rfl rfl (fun w' hJ => by obtain ⟨hB, H314, H318⟩ := hJ; exact D.mv (v := .bool false) rfl rfl ⟨rfl, Ext.refl _⟩) ?_
      refine QT.off rfl (wantG0 (j := 12) (b := true) rfl (rfl) rfl) rfl rfl ?_
      refine QT.off rfl (wantG0 (j := 12) (b := true) rfl (rfl) rfl) rfl rfl ?_
      refine QT.off rfl (wantG0 (j := 12) (b := true) rfl (rfl) rfl) rfl rfl ?_
      refine QT.off rfl (wantG0 (j := 12) (b := true) rfl (rfl) rfl) rfl rfl ?_
      refine QT.off rfl (wantG0 (j := 12) (b := true) rfl (rfl) rfl) rfl rfl ?_
      refine QT.off rfl (wantG0 (j := 12) (b := true) rfl (rfl) rfl) rfl rfl ?_
      refine QT.do (v := .bool false) rfl (by decide +kernel) rfl rfl rfl (fun w' hJ => by obtain ⟨hB, H314, H318⟩ := hJ; exact D.pick false (v := .bool false) (congrArg Value.bool (rfl)) rfl rfl ⟨rfl, Ext.refl _⟩) ?_
      refine QT.nil fun w461 hC => ?_
      obtain ⟨hB, H314, H318⟩ := hC
      exact ⟨false, rfl, rfl, rfl, hB, H314, H318, pr7_10, h⟩
   ·intro f365 w364 hI
    obtain ⟨x363, s366, s367, s368, hB, H361, H362, pr7_10, h⟩ := hI
    refine X.fr (d := 0) s366 ?_
    refine X.fr (d := 1) s367 ?_
    refine X.fr (d := 23) s368 ?_
    unfold name_each_1.j2 at h
    by_cases c369 : x363 = true
    ·rw [if_pos c369] at h
     refine X.condT (congrArg Value.bool (c369)) ?_
     refine X.skip ?_
     refine hM352 _ _ ?_
     refine X.block ?_
     refine X.seq fun M370 hM371 => ?_
     refine X.region ?_
     refine XO.do rfl (D.load (j := 0) (v := S x317) sc9 H362.cs rfl rfl rfl rfl ?_)
     rcases (Classical.em (0 < (x317.length : Int))).symm with c372 | c372
     ·rw [if_neg c372] at h; cases h
     rw [if_pos c372] at h
     refine XO.do rfl (D.indexS (i := (0 : Int)) Try.underlying9 rfl rfl (by first | decide | simp | omega) c372 rfl ?_)
     refine XO.do rfl (D.conv Try.underlying5 Try.underlying3 rfl rfl ?_)
     refine XO.do rfl (D.add rfl rfl rfl ?_)
     refine XO.do rfl (D.asn (v := .int .i64 (w64 (1 + (w64 (bt x317 0))))) rfl rfl ?_)
     refine XO.nil ?_
     refine hM371 _ _ ?_
     refine X.seq fun M411 hM412 => ?_
     refine X.seq fun M413 hM414 => ?_
     refine X.tree mixed0 [0, 0, 0, 6, 0, 0, 48, 127, 255] (.q 0 (.q 1 (.q 2 (.q 3 (.q 4 (.q 5 (.q 6 (.alt 7 (.q 8 .nil) .nil)))))))) (fun w' => GrM w w' (MC b3 M1) ∧ Blk w' b3 [S x317] 9) (fun w' => GrM w w' (MC b3 M1) ∧ okY.is w' M315 l2 x316 ∧ Blk w' b3 [S x317] 9) (by decide +kernel) (fun w' hx _ => ⟨gm_ext hB hx, H361.ext hx, H362.ext hx⟩) (fun a b hC hx => by obtain ⟨hB, H361, H362⟩ := hC; exact ⟨gm_ext hB hx, H361.ext hx, H362.ext hx⟩) (fun a hC => by obtain ⟨hB, H361, H362⟩ := hC; exact ⟨hB, H362⟩) ?_
     refine QT.do (v := .func (.yield l2) #[] #[]) rfl (by decide +kernel) rfl rfl rfl (fun w' hJ => by obtain ⟨hB, H361, H362⟩ := hJ; exact D.mv (v := .func (.yield l2) #[] #[]) rfl rfl ⟨rfl, Ext.refl _⟩) ?_
     refine QT.do (v := S x317) rfl (by decide +kernel) rfl rfl rfl (fun w' hJ => by obtain ⟨hB, H361, H362⟩ := hJ; exact D.load (j := 0) (v := S x317) sc9 H362.cs rfl rfl rfl rfl ⟨rfl, Ext.refl _⟩) ?_
     refine QT.do (v := .int .i64 (w64 (1 + (w64 (bt x317 0))))) rfl (by decide +kernel) rfl rfl rfl (fun w' hJ => by obtain ⟨hB, H361, H362⟩ := hJ; exact D.mv (v := .int .i64 (w64 (1 + (w64 (bt x317 0))))) rfl rfl ⟨rfl, Ext.refl _⟩) ?_
     rcases (Classical.em (1 ≤ w64 (1 + (w64 (bt x317 0))))).symm with c432 | c432
     ·rw [if_neg c432] at h; cases h
     rw [if_pos c432] at h
     rcases (Classical.em (w64 (1 + (w64 (bt x317 0))) ≤ (x317.length : Int))).symm with c433 | c433
     ·rw [if_neg c433] at h; cases h
     rw [if_pos c433] at h
     refine QT.do (v := S ((x317.drop (1 : Int).toNat).take ((w64 (1 + (w64 (bt x317 0)))).toNat - (1 : Int).toNat))) rfl (by decide +kernel) rfl rfl rfl (fun w' hJ => by obtain ⟨hB, H361, H362⟩ := hJ; exact D.sliceS (i := (1 : Int)) (j := w64 (1 + (w64 (bt x317 0)))) Try.underlying9 rfl rfl rfl (by first | decide | simp | omega) c432 c433 rfl ⟨rfl, Ext.refl _⟩) ?_
     refine QT.do (v := S x317) rfl (by decide +kernel) rfl rfl rfl (fun w' hJ => by obtain ⟨hB, H361, H362⟩ := hJ; exact D.load (j := 0) (v := S x317) sc9 H362.cs rfl rfl rfl rfl ⟨rfl, Ext.refl _⟩) ?_
     refine QT.do (v := .int .i64 (w64 (1 + (w64 (bt x317 0))))) rfl (by decide +kernel) rfl rfl rfl (fun w' hJ => by obtain ⟨hB, H361, H362⟩ := hJ; exact D.mv (v := .int .i64 (w64 (1 + (w64 (bt x317 0))))) rfl rfl ⟨rfl, Ext.refl _⟩) ?_
     rcases (Classical.em (0 ≤ w64 (1 + (w64 (bt x317 0))))).symm with c434 | c434
     ·rw [if_neg c434] at h; cases h
     rw [if_pos c434] at h
     refine QT.do (v := S (x317.drop (w64 (1 + (w64 (bt x317 0)))).toNat)) rfl (by decide +kernel) rfl rfl rfl (fun w' hJ => by obtain ⟨hB, H361, H362⟩ := hJ; exact D.sliceSlo (i := w64 (1 + (w64 (bt x317 0)))) Try.underlying9 rfl rfl c434 c433 rfl ⟨rfl, Ext.refl _⟩) ?_
     refine QT.eff rfl rfl (fun w435 hC => ?_) QT.nomore
     obtain ⟨hB, H361, H362⟩ := hC
     rcases (Classical.em (yStep.pre x316 ((x317.drop (1 : Int).toNat).take ((w64 (1 + (w64 (bt x317 0)))).toNat - (1 : Int).toNat)) (x317.drop (w64 (1 + (w64 (bt x317 0)))).toNat))).symm with c436 | c436
     ·rw [if_neg c436] at h; cases h
     rw [if_pos c436] at h
     obtain ⟨r440, q441, h⟩ := lt_elim h
     have hc439 := yStep.ok x316 ((x317.drop (1 : Int).toNat).take ((w64 (1 + (w64 (bt x317 0)))).toNat - (1 : Int).toNat)) (x317.drop (w64 (1 + (w64 (bt x317 0)))).toNat) M315 l2 w435 H361 c436 
     rw [q441] at hc439
     clear q441
     refine D.yieldO (vs := [S ((x317.drop (1 : Int).toNat).take ((w64 (1 + (w64 (bt x317 0)))).toNat - (1 : Int).toNat)), S (x317.drop (w64 (1 + (w64 (bt x317 0)))).toNat)])  hc439 rfl rfl rfl ?_
     rintro _ w442 ⟨M445, rfl, H443, u446, e444⟩
     clear hc439
     have pr7_10n := ne_sub u446 pr7_10 (MB.lt H362 (Nat.le_refl _))
     have v324n := sub_sub u446 hg7 hB.size
     replace hB := hB.step e444 hg7
     replace H362 := H362.gm e444 (sepM (ne_flip pr7_10))
     replace pr7_10 := pr7_10n
     clear e444 u446 H361
     have v447 := v324n
     clear v324n
     refine ⟨_, rfl, (fun w' => GrM w w' (MC b3 M1) ∧ okY.is w' M445 l2 r440.2 ∧ Blk w' b3 [S x317] 9), ⟨hB, H443, H362⟩, (fun a b hC hx => by obtain ⟨hB, H443, H362⟩ := hC; exact ⟨gm_ext hB hx, H443.ext hx, H362.ext hx⟩), (fun a hC => by obtain ⟨hB, H443, H362⟩ := hC; exact ⟨hB, H362⟩), ?_⟩
     refine QT.do (v := .bool (!r440.1)) rfl (by decide +kernel) rfl rfl rfl (fun w' hJ => by obtain ⟨hB, H443, H362⟩ := hJ; exact D.not r440.1 rfl rfl ⟨rfl, Ext.refl _⟩) ?_
     refine QT.nil fun w449 hC => ?_
     obtain ⟨hB, H443, H362⟩ := hC
     refine hM414 _ _ ?_
     by_cases c450 : r440.1 = true
     ·rw [if_pos c450] at h
      refine X.condF (congrArg Value.bool ((congrArg (!·) (c450)))) ?_
      refine X.skip ?_
      refine hM412 _ _ ?_
      refine X.region ?_
      refine XO.do rfl (D.load (j := 0) (v := S x317) sc9 H362.cs rfl rfl rfl rfl ?_)
      refine XO.do rfl (D.mv (v := .int .i64 (w64 (1 + (w64 (bt x317 0))))) rfl rfl ?_)
      refine XO.do rfl (D.sliceSlo (i := w64 (1 + (w64 (bt x317 0)))) Try.underlying9 rfl rfl c434 c433 rfl ?_)
      refine XO.do rfl (D.store (v := S (x317.drop (w64 (1 + (w64 (bt x317 0)))).toNat)) (us := [S (x317.drop (w64 (1 + (w64 (bt x317 0)))).toNat)]) sz9 H362 rfl rfl rfl rfl rfl rfl ?_)
      intro w451 H452 e453
      replace hB := gm_blkC hB e453
      replace H443 := H443.gr e453 (sepB pr7_10)
      clear e453
      refine XO.nil ?_
      exact ⟨kf313, Nat.lt_succ_self _, M445, r440.2, x317.drop (w64 (1 + (w64 (bt x317 0)))).toNat, rfl, rfl, hB, H443, v447, H452, pr7_10, h⟩
     ·rw [if_neg c450] at h
      refine X.condT (congrArg Value.bool ((congrArg (!·) ((Bool.eq_false_iff.2 c450))))) ?_
      refine X.ret ?_
      injection h with h
      subst h
      exact hR _ _ _ (ret0 rfl) ⟨M445, rfl, H443, v447, hB⟩
    ·rw [if_neg c369] at h
     refine X.condF (congrArg Value.bool ((Bool.eq_false_iff.2 c369))) ?_
     refine X.exit rfl ?_
     injection h with h
     subst h
     exact hR _ _ _ (ret0 rfl) ⟨M315, rfl, H361, hg7, hB⟩
theorem name_each_1.ok (a4 : YSt) (a8 : Str) (M1 : Nat → Prop) (l2 : Nat) (b3 : Nat) (w : World) (H5 : okY.is w M1 l2 a4) (H9 : Blk w b3 [S a8] 9) (S11 : ∀ x y, M1 x → MB b3 y → x ≠ y) (hp : name_each_1.pre a4 a8) :
  Ret Try.prog 83 ([.func (.yield l2) #[] #[], pt b3 0] : List Value).toArray w fun v w' => ∃ (M' : Nat → Prop), v = .tuple #[] ∧ okY.is w' M' l2 (name_each_1 a4 a8) ∧ (∀ x, M' x → (MC b3 M1) x ∨ w.heap.size ≤ x) ∧ GrM w w' (MC b3 M1) := by
 obtain ⟨kf, h⟩ := name_each_1.eq a4 a8 hp
 exact name_each_1.walk kf a4 a8 M1 l2 b3 w H5 H9 S11 _ h
end Go.Proofs.Ytfcaekghpkpjdaa.K

/- name.each, name.Labels: what they hand back. -/
namespace Go.Proofs.Ytfcaekghpkpjdaa.K
open Go Go.RowKit Go.Proofs
set_option linter.unusedVariables false
set_option maxRecDepth 100000
set_option maxHeartbeats 4000000
theorem putObj_below {w0 w : World} {D : Nat} {o : Obj} (h : Below w0.heap.size w0 w) (hD : w0.heap.size ≤ D) : Below w0.heap.size w0 (w.putObj D o) := below_blk h (putObj_gr w D o) hD
theorem each_ok (n : Str) (w : World) : Ret Try.prog 73 ([S n] : List Value).toArray w fun v w' => ∃ b, v = .func (.func 83) #[] #[pt b 0] ∧ Blk w' b [S n] 9 ∧ w.heap.size ≤ b ∧ Ext w w' := by
 refine enterX Try.func73 rfl Try.ntmps73 rfl (fun R hR => ?_)
 refine X.seq fun M hM => ?_
 refine X.region ?_
 refine XO.do rfl (D.box (v := S n) (cs := [S n]) rfl rfl rfl ?_)
 intro b w2 hb H en _
 refine XO.do rfl (D.asn (v := .nilFunc) rfl rfl ?_)
 refine XO.nil ?_
 refine hM _ _ ?_
 refine X.seq fun M hM => ?_
 refine X.region ?_
 refine XO.do rfl (D.makeFunc (vs := [pt b 0]) rfl rfl ?_)
 refine XO.do rfl (D.asn (v := .func (.func 83) #[] #[pt b 0]) rfl rfl ?_)
 refine XO.nil ?_
 refine hM _ _ ?_
 refine X.ret ?_
 exact hR _ _ _ (ret1 (v := .func (.func 83) #[] #[pt b 0]) rfl rfl) ⟨b, rfl, H, Nat.le_of_eq hb.symm, en⟩
theorem name_Labels.ok (n : Str) (w : World) (hp : name_Labels.pre n) : Ret Try.prog 53 ([S n] : List Value).toArray w fun v w' => ∃ (A1 : Option Go.Addr) (k1 : Nat), v = .tuple #[.slice A1 (name_Labels n).1.length k1, .int .i64 (name_Labels n).2] ∧ Row eStr w' A1 k1 (name_Labels n).1 ∧ (∀ y, blkOf A1 = some y → w.heap.size ≤ y) ∧ Ext w w' := by
 refine enterM (n := 26) Try.func53 rfl Try.ntmps53 rfl (fun a ha had => ?_)
 have hB := Below.refl w.heap.size w
 refine seqA (fun f' w' => f' 0 = S n ∧ w' = w) ha ?_ ?_
 ·refine X.region ?_
  refine XO.do rfl (D.asn (v := .slice none 0 0) rfl rfl ?_)
  refine XO.do rfl (D.asn (v := .int .i64 0) rfl rfl ?_)
  exact XO.nil ⟨rfl, rfl⟩
 rintro f1 w1 a1 ⟨h0, rfl⟩ ha1 hd1
 refine seqA (fun f' w' => ∃ b4, f' 0 = S n ∧ f' 4 = pt b4 0 ∧ Blk w' b4 [.slice none 0 0] 94 ∧ w1.heap.size ≤ b4 ∧ Below w1.heap.size w1 w') ha1 ?_ ?_
 ·refine X.region ?_
  refine XO.do rfl (D.alloc tiStrs (cs := [.slice none 0 0]) rfl rfl ?_)
  intro b4 w2 hb H en _
  exact XO.nil ⟨b4, h0, rfl, H, Nat.le_of_eq hb.symm, below_ext hB en⟩
 rintro f2 w2 a2 ⟨b4, h0, h4, H4, g4, hB2⟩ ha2 hd2
 refine seqA (fun f' w' => ∃ b5, f' 0 = S n ∧ f' 4 = pt b4 0 ∧ f' 5 = pt b5 0 ∧ Blk w' b4 [.slice none 0 0] 94 ∧ Blk w' b5 [S n] 9 ∧ w1.heap.size ≤ b5 ∧ Below w1.heap.size w1 w') ha2 ?_ ?_
 ·refine X.region ?_
  refine XO.do rfl (D.mv (v := S n) h0 rfl ?_)
  refine XO.do rfl (D.alloc tiStr (cs := [S []]) rfl rfl ?_)
  intro b5 w3 hb H5 en _
  refine XO.do rfl (D.store (v := S n) (us := [S n]) (fun w => tiStr.size w) H5 rfl rfl rfl rfl rfl rfl ?_)
  intro w4 H5' e4
  have hs := hB2.size
  have g5 : w1.heap.size ≤ b5 := Nat.le_trans hs (Nat.le_of_eq hb.symm)
  exact XO.nil ⟨b5, h0, h4, rfl, (H4.ext en).grown e4 (by intro e; injection e with e; exact blk_ne_blk (H4.ext en) H5 (by decide) e), H5', g5, below_blk (below_ext hB2 en) e4 g5⟩
 rintro f3 w3 a3 ⟨b5, h0, h4, h5, H4, H5, g5, hB3⟩ ha3 hd3
 refine wpIn_seq ?_
 refine seqA (fun f' w' => ∃ b, f' 0 = S n ∧ f' 4 = pt b4 0 ∧ f' 5 = pt b5 0 ∧ f' 10 = .func (.func 83) #[] #[pt b 0] ∧ Blk w' b4 [.slice none 0 0] 94 ∧ Blk w' b5 [S n] 9 ∧ Blk w' b [S n] 9 ∧ b5 < b ∧ w1.heap.size ≤ b ∧ Below w1.heap.size w1 w') ha3 ?_ ?_
 ·refine X.region ?_
  refine XO.do rfl (D.mv (v := S n) h0 rfl ?_)
  refine XO.do rfl (D.call (vs := [S n]) (callable Try.func73 (by kernel_rfl) rfl) (each_ok n w3) rfl rfl ?_)
  rintro _ w4 ⟨b, rfl, Hb, gb, en⟩
  have := H5.lt
  exact XO.nil ⟨b, h0, h4, h5, rfl, H4.ext en, H5.ext en, Hb, by omega, Nat.le_trans hB3.size gb, below_ext hB3 en⟩
 rintro f4 w4 a4 ⟨b, h0, h4, h5, h10, H4, H5, Hb, hb5, gb, hB4⟩ ha4 hd4
 refine wpIn_block ?_
 refine rangeR (gf := 83) (lb := #[pt b 0]) (by rw [ha4.eval]; exact h10) (callable Try.func83 (by kernel_rfl) rfl) ?_
 intro fn
 obtain ⟨W0, hW0⟩ : ∃ W0, w4.alloc (.deferred (some [])) = W0 := ⟨_, rfl⟩
 rw [hW0]
 have e0 : Ext w4 W0 := by rw [← hW0]; exact Ext.alloc _ _
 have hD0 : W0.heap[w4.heap.size]? = some (.deferred (some [])) := by rw [← hW0]; exact heap_alloc_new _ _
 have hs0 : W0.heap.size = w4.heap.size + 1 := by rw [← hW0]; simp
 obtain ⟨W1, hW1⟩ : ∃ W1, W0.alloc (.loop (recL fn a4.tmps w4.heap.size)) = W1 := ⟨_, rfl⟩
 have e1 : Ext W0 W1 := by rw [← hW1]; exact Ext.alloc _ _
 have hl1 : W1.heap[w4.heap.size + 1]? = some (.loop (recL fn a4.tmps w4.heap.size)) := by rw [← hW1, ← hs0]; exact heap_alloc_new _ _
 have hD1 : W1.heap[w4.heap.size]? = some (.deferred (some [])) := (e1.block _ (by omega) (by simp)).trans hD0
 have hs1 : W1.heap.size = w4.heap.size + 2 := by rw [← hW1]; simp [hs0]
 have hB1 : Below w1.heap.size w1 W1 := below_ext (below_ext hB4 e0) e1
 have hY : okY.is W1 (fun x => x = w4.heap.size + 1 ∨ x = w4.heap.size ∨ x = b4 ∨ x = b5 ∨ MO none x) (w4.heap.size + 1) ⟨w4.heap.size, b4, b5, [], n⟩ :=
  ⟨fn, a4.tmps, f4, W1.heap.size, none, 0, hl1, ⟨ha4.size, ha4.get⟩, h4, h5, hD1, (H4.ext e0).ext e1, Own.nil _ _ _ _, (H5.ext e0).ext e1, Nat.le_refl _, ((H5.ext e0).ext e1).lt, rfl⟩
 have hb4 := Hb.lt
 have hYs : ∀ x y, (fun x => x = w4.heap.size + 1 ∨ x = w4.heap.size ∨ x = b4 ∨ x = b5 ∨ MO none x) x → MB b y → x ≠ y := by
  rintro x y hx hy e
  have hy' : y = b := hy
  subst hy'
  subst e
  rcases hx with h | h | h | h | h
  ·omega
  ·omega
  ·exact blk_ne_blk Hb H4 (by decide) h
  ·omega
  ·simp [MO, blkOf] at h
 have hcall := name_each_1.ok ⟨w4.heap.size, b4, b5, [], n⟩ n _ (w4.heap.size + 1) b W1 hY ((Hb.ext e0).ext e1) hYs (by unfold name_each_1.pre; unfold name_Labels.pre at hp; simpa using hp)
 show Calls _ _ _ (W0.alloc (.loop (recL fn a4.tmps w4.heap.size))) _
 rw [hW1]
 refine Calls.mono hcall ?_
 rintro e w5 ⟨v, rfl, M', rfl, hY5, hsub, hg⟩
 refine ⟨_, rfl, ?_⟩
 have hg4 : w1.heap.size ≤ w4.heap.size := hB4.size
 have hB5 : Below w1.heap.size w1 w5 := below_gm hB1 hg (by
  rintro x (h | h | h | h | h | h)
  ·rw [show x = b from h]; exact gb
  ·omega
  ·omega
  ·omega
  ·omega
  ·simp [MO, blkOf] at h)
 have hres : name_each_1 ⟨w4.heap.size, b4, b5, [], n⟩ n = ⟨w4.heap.size, b4, b5, (split n).1, (split n).2⟩ := by
  unfold name_each_1; rw [eachN_split _ _ _ rfl]; simp [split]
 rw [hres] at hY5
 obtain ⟨fn', tmps', f', base, A, c, q1, q2, q3, q4, q5, q6, q7, q8, q9, q10, q11⟩ := hY5
 simp only at q1 q3 q4 q5 q6 q7 q8 q10
 have hend := run_endLoop (P := Try.prog) q1 (by simp [recL])
 obtain ⟨w6, hw6⟩ : ∃ w6, w5.putObj (w4.heap.size + 1) (.loop { recL fn' tmps' w4.heap.size with state := .exhausted }) = w6 := ⟨_, rfl⟩
 refine ⟨w6, by rw [← hw6]; exact hend, ?_⟩
 have hg6 : w5.grownBy w6 (some (w4.heap.size + 1)) := by rw [← hw6]; exact putObj_gr _ _ _
 have hD6 : w6.heap[w4.heap.size]? = some (.deferred (some [])) := (hg6.block _ (Array.getElem?_eq_some_iff.1 q5).1 (by intro e; injection e with e; omega)).trans q5
 have H46 := q6.grown hg6 (by intro e; injection e with e; exact blk_ne_obj q6 q1 (by intro _ _ _ e; cases e) e)
 have H56 := q8.grown hg6 (by intro e; injection e with e; exact blk_ne_obj q8 q1 (by intro _ _ _ e; cases e) e)
 have ho6 := q7.gr hg6 (fun x hx e => by injection e with e; exact own_ne_obj q7 q1 (by intro _ _ _ e; cases e) x hx e)
 have hB6 : Below w1.heap.size w1 w6 := below_blk hB5 hg6 (by omega)
 have hB7 : Below w1.heap.size w1 (w6.putObj w4.heap.size (.deferred none)) := putObj_below hB6 hg4
 have ho7 : Own eStr 9 (w6.putObj w4.heap.size (.deferred none)) base A c (split n).1 := ho6.gr (putObj_gr _ _ _) (fun x hx e => by injection e with e; exact own_ne_obj ho6 hD6 (by intro _ _ _ e; cases e) x hx e)
 have hge : ∀ y, blkOf A = some y → w1.heap.size ≤ y := fun y hy => by
  have h1 := (q7.base y hy).1
  omega
 let FIN : Cont := fun f w => w.heap[w4.heap.size]? = some (.deferred (some [])) ∧ ∃ v, RetV Try.prog 26 Try.f53 f (w.putObj w4.heap.size (.deferred none)) v ∧
  ∃ (A1 : Option Go.Addr) (k1 : Nat), v = .tuple #[.slice A1 (name_Labels n).1.length k1, .int .i64 (name_Labels n).2] ∧ Row eStr (w.putObj w4.heap.size (.deferred none)) A1 k1 (name_Labels n).1 ∧ (∀ y, blkOf A1 = some y → w1.heap.size ≤ y) ∧ Ext w1 (w.putObj w4.heap.size (.deferred none))
 refine Code.wpIn_mono ?_ ((?_ : X Try.prog 26 _ FIN [] FIN f4 w6) _ (⟨ha4.size, ha4.get⟩ : Is { a4 with defers := { target := .collected w4.heap.size, args := #[] } :: a4.defers } 26 f4))
 ·rintro e a' w' ⟨f', hf', hd, q⟩
  have hd' : a'.defers = mark w4.heap.size := by rw [hd]; simp only [hd4, hd3, hd2, hd1, had]; rfl
  cases e with
  | normal => exact ⟨_, f', hf', hd', q⟩
  | ret => exact ⟨_, f', hf', hd', q⟩
  | exit j => exact q.elim
  | _ => exact q.elim
 refine X.seq fun M hM => ?_
 refine X.block ?_
 refine X.seq fun M2 hM2 => ?_
 refine X.region ?_
 refine XO.do rfl (D.load (j := 0) (v := S (split n).2) (sca Try.underlying9 rfl) H56.cs h5 rfl rfl rfl ?_)
 refine XO.do rfl (D.neqS (a := (split n).2) (b := [0]) rfl rfl rfl ?_)
 refine XO.do rfl (D.asn (v := .bool (!((split n).2 == [0]))) rfl rfl ?_)
 refine XO.nil ?_
 refine hM2 _ _ ?_
 by_cases hl : (split n).2 = [0]
 ·refine X.condF (congrArg Value.bool (by rw [hl]; rfl)) ?_
  refine X.seq fun M3 hM3 => ?_
  refine X.region ?_
  refine XO.do rfl (D.mv (v := S n) h0 rfl ?_)
  refine XO.do rfl (D.lenS (a := n) Try.underlying9 rfl rfl ?_)
  refine XO.do rfl (D.gtr rfl rfl rfl ?_)
  refine XO.do rfl (D.asn (v := .bool (decide ((255 : Int) < (n.length : Int)))) rfl rfl ?_)
  refine XO.nil ?_
  refine hM3 _ _ ?_
  by_cases h255 : (255 : Int) < (n.length : Int)
  ·refine X.condT (congrArg Value.bool (decide_eq_true h255)) ?_
   refine X.seq fun M3 hM3 => ?_
   refine X.region ?_
   refine XO.do rfl (D.asn (v := .slice none 0 0) rfl rfl ?_)
   refine XO.do rfl (D.asn (v := .int .i64 3) rfl rfl ?_)
   refine XO.nil ?_
   refine hM3 _ _ ?_
   refine X.ret ?_
   have hr : name_Labels n = ([], 3) := by unfold name_Labels; rw [if_pos hl, if_pos (by omega)]
   refine ⟨hD6, .tuple #[.slice none 0 0, .int .i64 3], ret2 (v := .slice none 0 0) (v' := .int .i64 3) rfl rfl rfl, none, 0, by rw [hr]; rfl, by rw [hr]; exact Row.nil _ _ none 0 (by decide), (fun y hy => by simp [blkOf] at hy), ext_of_below hB7⟩
  ·refine X.condF (congrArg Value.bool (decide_eq_false h255)) ?_
   refine X.skip ?_
   refine hM _ _ ?_
   refine X.seq fun M3 hM3 => ?_
   refine X.region ?_
   refine XO.do rfl (D.load (j := 0) (v := .slice A (split n).1.length c) (sca Try.underlying94 rfl) H46.cs h4 rfl rfl rfl ?_)
   refine XO.do rfl (D.asn (v := .slice A (split n).1.length c) rfl rfl ?_)
   refine XO.do rfl (D.asn (v := .int .i64 0) rfl rfl ?_)
   refine XO.nil ?_
   refine hM3 _ _ ?_
   refine X.ret ?_
   have hr : name_Labels n = ((split n).1, 0) := by unfold name_Labels; rw [if_pos hl, if_neg (by omega)]
   refine ⟨hD6, .tuple #[.slice A (split n).1.length c, .int .i64 0], ret2 (v := .slice A (split n).1.length c) (v' := .int .i64 0) rfl rfl rfl, A, c, by rw [hr], by rw [hr]; exact ho7.row, hge, ext_of_below hB7⟩
 ·refine X.condT (congrArg Value.bool (by rw [beq_eq_false_iff_ne.2 hl]; rfl)) ?_
  refine X.seq fun M3 hM3 => ?_
  refine X.region ?_
  refine XO.do rfl (D.asn (v := .slice none 0 0) rfl rfl ?_)
  refine XO.do rfl (D.asn (v := .int .i64 2) rfl rfl ?_)
  refine XO.nil ?_
  refine hM3 _ _ ?_
  refine X.ret ?_
  have hr : name_Labels n = ([], 2) := by unfold name_Labels; rw [if_neg hl]
  refine ⟨hD6, .tuple #[.slice none 0 0, .int .i64 2], ret2 (v := .slice none 0 0) (v' := .int .i64 2) rfl rfl rfl, none, 0, by rw [hr]; rfl, by rw [hr]; exact Row.nil _ _ none 0 (by decide), (fun y hy => by simp [blkOf] at hy), ext_of_below hB7⟩
end Go.Proofs.Ytfcaekghpkpjdaa.K

/- Walks, printed by a program of this session. -/
namespace Go.Proofs.Ytfcaekghpkpjdaa.K
open Go Go.RowKit Go.Proofs
set_option linter.unusedVariables false
set_option maxRecDepth 100000
set_option maxHeartbeats 4000000
namespace FB3
theorem cf53 : Callable Try.prog 53 := callable Try.func53 (by kernel_rfl) rfl
theorem cf54 : Callable Try.prog 54 := callable Try.func54 (by kernel_rfl) rfl
end FB3
open FB3
theorem name_May.walk (a1 : Str)  (w : World)  (res : Bool) (h : name_May.f a1 = some res) :
  Ret Try.prog 27 ([S a1] : List Value).toArray w fun v w' => v = .bool res ∧ Ext w w' := by
 unfold name_May.f at h
 refine enterX Try.func27 rfl Try.ntmps27 rfl (fun R hR => ?_)
 have hB := Below.refl w.heap.size w
 refine X.seq fun M2 hM3 => ?_
 refine X.region ?_
 refine XO.do rfl (D.asn (v := .bool false) rfl rfl ?_)
 refine XO.nil ?_
 refine hM3 _ _ ?_
 refine X.seq fun M4 hM5 => ?_
 refine X.region ?_
 refine XO.do rfl (D.mv (v := S a1) rfl rfl ?_)
 rcases (Classical.em (name_Labels.pre a1)).symm with c6 | c6
 ·rw [if_neg c6] at h; cases h
 rw [if_pos c6] at h
 obtain ⟨r10, q11, h⟩ := lt_elim h
 have hc9 := name_Labels.ok a1 w c6 
 rw [q11] at hc9
 clear q11
 refine XO.do rfl (D.call (vs := [S a1]) cf53 hc9 rfl rfl ?_)
 rintro _ w7 ⟨A12, k13, rfl, H14, g15, e8⟩
 clear hc9
 have z16 : ∀ y, blkOf A12 = some y → w.heap.size ≤ y := fun y hy => Nat.le_trans hB.size (g15 y hy)
 replace hB := below_ext hB e8
 clear e8
 refine XO.do rfl (D.mv (v := .tuple #[.slice A12 r10.1.length k13, .int .i64 r10.2]) rfl rfl ?_)
 refine XO.do rfl (D.extract (v := .slice A12 r10.1.length k13) rfl rfl rfl ?_)
 refine XO.do rfl (D.extract (v := .int .i64 r10.2) rfl rfl rfl ?_)
 refine XO.do rfl (D.asn (v := .slice A12 r10.1.length k13) rfl rfl ?_)
 refine XO.do rfl (D.asn (v := .int .i64 r10.2) rfl rfl ?_)
 refine XO.nil ?_
 refine hM5 _ _ ?_
 refine X.seq fun M17 hM18 => ?_
 refine X.region ?_
 refine XO.do rfl (D.mv (v := .int .i64 r10.2) rfl rfl ?_)
 refine XO.do rfl (D.eql rfl rfl rfl ?_)
 refine XO.do rfl (D.mv (v := .bool (r10.2 == 0)) rfl rfl ?_)
 by_cases c19 : r10.2 = 0
 ·rw [if_pos c19] at h
  refine XO.do (wantG (j := 2) (b := true) rfl (beq_iff_eq.2 c19) rfl) (D.mv (v := S a1) rfl rfl ?_)
  rcases (Classical.em (name_Fold.pre a1)).symm with c20 | c20
  ·rw [if_neg c20] at h; cases h
  rw [if_pos c20] at h
  obtain ⟨r24, q25, h⟩ := lt_elim h
  have hc23 := name_Fold.ok a1 w7 c20 
  rw [q25] at hc23
  clear q25
  refine XO.do (wantG (j := 2) (b := true) rfl (beq_iff_eq.2 c19) rfl) (D.call (vs := [S a1]) cf54 hc23 rfl rfl ?_)
  rintro _ w21 ⟨rfl, e22⟩
  clear hc23
  replace hB := below_ext hB e22
  replace H14 := H14.ext e22
  clear e22
  refine XO.do (wantG (j := 2) (b := true) rfl (beq_iff_eq.2 c19) rfl) (D.mv (v := S a1) rfl rfl ?_)
  refine XO.do (wantG (j := 2) (b := true) rfl (beq_iff_eq.2 c19) rfl) (D.eqlS rfl rfl rfl ?_)
  refine XO.do rfl (D.pick true (v := .bool (r24 == a1)) (congrArg Value.bool (beq_iff_eq.2 c19)) rfl rfl ?_)
  refine XO.do rfl (D.asn (v := .bool (r24 == a1)) rfl rfl ?_)
  refine XO.nil ?_
  refine hM18 _ _ ?_
  refine X.ret ?_
  injection h with h
  subst h
  exact hR _ _ _ (ret1 (v := .bool (r24 == a1)) rfl rfl) ⟨rfl, ext_of_below hB⟩
 ·rw [if_neg c19] at h
  refine XO.off (wantG0 (j := 2) (b := true) rfl (beq_eq_false_iff_ne.2 c19) rfl) rfl rfl ?_
  refine XO.off (wantG0 (j := 2) (b := true) rfl (beq_eq_false_iff_ne.2 c19) rfl) rfl rfl ?_
  refine XO.off (wantG0 (j := 2) (b := true) rfl (beq_eq_false_iff_ne.2 c19) rfl) rfl rfl ?_
  refine XO.off (wantG0 (j := 2) (b := true) rfl (beq_eq_false_iff_ne.2 c19) rfl) rfl rfl ?_
  refine XO.do rfl (D.pick false (v := .bool false) (congrArg Value.bool (beq_eq_false_iff_ne.2 c19)) rfl rfl ?_)
  refine XO.do rfl (D.asn (v := .bool false) rfl rfl ?_)
  refine XO.nil ?_
  refine hM18 _ _ ?_
  refine X.ret ?_
  injection h with h
  subst h
  exact hR _ _ _ (ret1 (v := .bool false) rfl rfl) ⟨rfl, ext_of_below hB⟩
theorem name_May.ok (a1 : Str)  (w : World)  (hp : name_May.pre a1) :
  Ret Try.prog 27 ([S a1] : List Value).toArray w fun v w' => v = .bool (name_May a1) ∧ Ext w w' := by
 have h := name_May.eq a1 hp
 exact name_May.walk  a1  w  _ h
end Go.Proofs.Ytfcaekghpkpjdaa.K

/- Walks, printed by a program of this session. -/
namespace Go.Proofs.Ytfcaekghpkpjdaa.K
open Go Go.RowKit Go.Proofs
set_option linter.unusedVariables false
set_option maxRecDepth 100000
set_option maxHeartbeats 4000000
namespace FC1
theorem cf27 : Callable Try.prog 27 := callable Try.func27 (by kernel_rfl) rfl
end FC1
open FC1
theorem rdata_whole.walk (kf : Nat) (a1 : Str)  (w : World)  (res : Int) (h : rdata_whole.f kf a1 = some res) :
  Ret Try.prog 74 ([S a1] : List Value).toArray w fun v w' => v = .int .i64 res ∧ Ext w w' := by
 unfold rdata_whole.f at h
 refine enterX Try.func74 rfl Try.ntmps74 rfl (fun R hR => ?_)
 have hB := Below.refl w.heap.size w
 refine X.seq fun M2 hM3 => ?_
 refine X.region ?_
 refine XO.do rfl (D.asn (v := .int .i64 0) rfl rfl ?_)
 refine XO.nil ?_
 refine hM3 _ _ ?_
 refine X.seq fun M4 hM5 => ?_
 refine X.region ?_
 refine XO.do rfl (D.asn (v := .int .i64 0) rfl rfl ?_)
 refine XO.nil ?_
 refine hM5 _ _ ?_
 refine X.seq fun M77 hM78 => ?_
 refine X.block ?_
 refine X.loop (fun kq205 => fun f119 w118 => ∃ x116 : Int, f119 0 = S a1 ∧ f119 3 = .int .i64 x116 ∧ Below w.heap.size w w118 ∧ rdata_whole.l1 a1 kq205 x116 = some res) kf ?_ ?_
 ·exact ⟨0, rfl, rfl, hB, h⟩
 ·intro kq205 f119 w118 hI
  obtain ⟨x116, s120, s121, hB, h⟩ := hI
  cases kq205 with
  | zero => exact absurd h (by rw [rdata_whole.l1.eq_1]; simp)
  | succ kf115 =>
   rw [rdata_whole.l1.eq_2] at h
   refine X.fr (d := 0) s120 ?_
   refine X.fr (d := 3) s121 ?_
   refine X.seq fun M134 hM135 => ?_
   refine X.cut (fun f140 w139 => ∃ x138 : Bool, f140 0 = S a1 ∧ f140 3 = .int .i64 x116 ∧ f140 13 = .bool x138 ∧ Below w.heap.size w w139 ∧ rdata_whole.j2 x116 a1 (rdata_whole.l1 a1 kf115) x138 = some res) ?_ ?_
   ·refine X.region ?_
    refine XO.do rfl (D.mv (v := .int .i64 x116) rfl rfl ?_)
    refine XO.do rfl (D.mv (v := S a1) rfl rfl ?_)
    refine XO.do rfl (D.lenS Try.underlying9 rfl rfl ?_)
    refine XO.do rfl (D.lss rfl rfl rfl ?_)
    refine XO.do rfl (D.mv (v := .bool (decide (x116 < (a1.length : Int)))) rfl rfl ?_)
    by_cases c203 : x116 < (a1.length : Int)
    ·rw [if_pos c203] at h
     refine XO.do (wantG (j := 4) (b := true) rfl (decide_eq_true c203) rfl) (D.mv (v := S a1) rfl rfl ?_)
     refine XO.do (wantG (j := 4) (b := true) rfl (decide_eq_true c203) rfl) (D.mv (v := .int .i64 x116) rfl rfl ?_)
     rcases (Classical.em (0 ≤ x116)).symm with c204 | c204
     ·rw [if_neg c204] at h; cases h
     rw [if_pos c204] at h
     refine XO.do (wantG (j := 4) (b := true) rfl (decide_eq_true c203) rfl) (D.indexS (i := x116) Try.underlying9 rfl rfl c204 c203 rfl ?_)
     refine XO.do (wantG (j := 4) (b := true) rfl (decide_eq_true c203) rfl) (D.gtr rfl rfl rfl ?_)
     refine XO.do rfl (D.pick true (v := .bool (decide (0 < (bt a1 x116)))) (congrArg Value.bool (decide_eq_true c203)) rfl rfl ?_)
     refine XO.nil ?_
     exact ⟨(decide (0 < (bt a1 x116))), rfl, rfl, rfl, hB, h⟩
    ·rw [if_neg c203] at h
     refine XO.off (wantG0 (j := 4) (b := true) rfl (decide_eq_false c203) rfl) rfl rfl ?_
     refine XO.off (wantG0 (j := 4) (b := true) rfl (decide_eq_false c203) rfl) rfl rfl ?_
     refine XO.off (wantG0 (j := 4) (b := true) rfl (decide_eq_false c203) rfl) rfl rfl ?_
     refine XO.off (wantG0 (j := 4) (b := true) rfl (decide_eq_false c203) rfl) rfl rfl ?_
     refine XO.do rfl (D.pick false (v := .bool false) (congrArg Value.bool (decide_eq_false c203)) rfl rfl ?_)
     refine XO.nil ?_
     exact ⟨false, rfl, rfl, rfl, hB, h⟩
   ·intro f140 w139 hI
    obtain ⟨x138, s141, s142, s143, hB, h⟩ := hI
    refine X.fr (d := 0) s141 ?_
    refine X.fr (d := 3) s142 ?_
    refine X.fr (d := 13) s143 ?_
    unfold rdata_whole.j2 at h
    by_cases c144 : x138 = true
    ·rw [if_pos c144] at h
     refine X.condT (congrArg Value.bool (c144)) ?_
     refine X.skip ?_
     refine hM135 _ _ ?_
     refine X.block ?_
     refine X.region ?_
     refine XO.do rfl (D.mv (v := .int .i64 x116) rfl rfl ?_)
     refine XO.do rfl (D.mv (v := S a1) rfl rfl ?_)
     refine XO.do rfl (D.mv (v := .int .i64 x116) rfl rfl ?_)
     rcases (Classical.em (0 ≤ x116)).symm with c145 | c145
     ·rw [if_neg c145] at h; cases h
     rw [if_pos c145] at h
     rcases (Classical.em (x116 < (a1.length : Int))).symm with c146 | c146
     ·rw [if_neg c146] at h; cases h
     rw [if_pos c146] at h
     refine XO.do rfl (D.indexS (i := x116) Try.underlying9 rfl rfl c145 c146 rfl ?_)
     refine XO.do rfl (D.conv Try.underlying5 Try.underlying3 rfl rfl ?_)
     refine XO.do rfl (D.add rfl rfl rfl ?_)
     refine XO.do rfl (D.add rfl rfl rfl ?_)
     refine XO.do rfl (D.asn (v := .int .i64 (w64 (x116 + (w64 (1 + (w64 (bt a1 x116))))))) rfl rfl ?_)
     refine XO.nil ?_
     exact ⟨kf115, Nat.lt_succ_self _, w64 (x116 + (w64 (1 + (w64 (bt a1 x116))))), rfl, rfl, hB, h⟩
    ·rw [if_neg c144] at h
     refine X.condF (congrArg Value.bool ((Bool.eq_false_iff.2 c144))) ?_
     refine X.exit rfl ?_
     refine hM78 _ _ ?_
     refine X.seq fun M173 hM174 => ?_
     refine X.cut (fun f186 w185 => ∃ x184 : Bool, f186 3 = .int .i64 x116 ∧ f186 32 = .bool x184 ∧ Below w.heap.size w w185 ∧ rdata_whole.j3 x116 x184 = some res) ?_ ?_
     ·refine X.region ?_
      refine XO.do rfl (D.mv (v := .int .i64 x116) rfl rfl ?_)
      refine XO.do rfl (D.mv (v := S a1) rfl rfl ?_)
      refine XO.do rfl (D.lenS Try.underlying9 rfl rfl ?_)
      refine XO.do rfl (D.geq rfl rfl rfl ?_)
      refine XO.do rfl (D.mv (v := .bool (decide ((a1.length : Int) ≤ x116))) rfl rfl ?_)
      by_cases c194 : (a1.length : Int) ≤ x116
      ·rw [if_pos c194] at h
       refine XO.off (wantG0 (j := 4) (b := false) rfl (decide_eq_true c194) rfl) rfl rfl ?_
       refine XO.off (wantG0 (j := 4) (b := false) rfl (decide_eq_true c194) rfl) rfl rfl ?_
       refine XO.off (wantG0 (j := 4) (b := false) rfl (decide_eq_true c194) rfl) rfl rfl ?_
       refine XO.off (wantG0 (j := 4) (b := false) rfl (decide_eq_true c194) rfl) rfl rfl ?_
       refine XO.off (wantG0 (j := 4) (b := false) rfl (decide_eq_true c194) rfl) rfl rfl ?_
       refine XO.off (wantG0 (j := 4) (b := false) rfl (decide_eq_true c194) rfl) rfl rfl ?_
       refine XO.do rfl (D.pick true (v := .bool true) (congrArg Value.bool (decide_eq_true c194)) rfl rfl ?_)
       refine XO.nil ?_
       exact ⟨true, rfl, rfl, hB, h⟩
      ·rw [if_neg c194] at h
       refine XO.do (wantG (j := 4) (b := false) rfl (decide_eq_false c194) rfl) (D.mv (v := S a1) rfl rfl ?_)
       refine XO.do (wantG (j := 4) (b := false) rfl (decide_eq_false c194) rfl) (D.mv (v := .int .i64 x116) rfl rfl ?_)
       refine XO.do (wantG (j := 4) (b := false) rfl (decide_eq_false c194) rfl) (D.add rfl rfl rfl ?_)
       rcases (Classical.em (0 ≤ w64 (x116 + 1))).symm with c195 | c195
       ·rw [if_neg c195] at h; cases h
       rw [if_pos c195] at h
       rcases (Classical.em (w64 (x116 + 1) ≤ (a1.length : Int))).symm with c196 | c196
       ·rw [if_neg c196] at h; cases h
       rw [if_pos c196] at h
       refine XO.do (wantG (j := 4) (b := false) rfl (decide_eq_false c194) rfl) (D.sliceShi (j := w64 (x116 + 1)) Try.underlying9 rfl rfl c195 c196 rfl ?_)
       rcases (Classical.em (name_May.pre (a1.take (w64 (x116 + 1)).toNat))).symm with c197 | c197
       ·rw [if_neg c197] at h; cases h
       rw [if_pos c197] at h
       obtain ⟨r201, q202, h⟩ := lt_elim h
       have hc200 := name_May.ok (a1.take (w64 (x116 + 1)).toNat) w139 c197 
       rw [q202] at hc200
       clear q202
       refine XO.do (wantG (j := 4) (b := false) rfl (decide_eq_false c194) rfl) (D.call (vs := [S (a1.take (w64 (x116 + 1)).toNat)]) cf27 hc200 rfl rfl ?_)
       rintro _ w198 ⟨rfl, e199⟩
       clear hc200
       replace hB := below_ext hB e199
       clear e199
       refine XO.do (wantG (j := 4) (b := false) rfl (decide_eq_false c194) rfl) (D.not r201 rfl rfl ?_)
       refine XO.do rfl (D.pick false (v := .bool (!r201)) (congrArg Value.bool (decide_eq_false c194)) rfl rfl ?_)
       refine XO.nil ?_
       exact ⟨(!r201), rfl, rfl, hB, h⟩
     ·intro f186 w185 hI
      obtain ⟨x184, s187, s188, hB, h⟩ := hI
      refine X.fr (d := 3) s187 ?_
      refine X.fr (d := 32) s188 ?_
      unfold rdata_whole.j3 at h
      by_cases c189 : x184 = true
      ·rw [if_pos c189] at h
       refine X.condT (congrArg Value.bool (c189)) ?_
       refine X.seq fun M190 hM191 => ?_
       refine X.region ?_
       refine XO.do rfl (D.asn (v := .int .i64 0) rfl rfl ?_)
       refine XO.nil ?_
       refine hM191 _ _ ?_
       refine X.ret ?_
       injection h with h
       subst h
       exact hR _ _ _ (ret1 (v := .int .i64 0) rfl rfl) ⟨rfl, ext_of_below hB⟩
      ·rw [if_neg c189] at h
       refine X.condF (congrArg Value.bool ((Bool.eq_false_iff.2 c189))) ?_
       refine X.skip ?_
       refine hM174 _ _ ?_
       refine X.seq fun M192 hM193 => ?_
       refine X.region ?_
       refine XO.do rfl (D.mv (v := .int .i64 x116) rfl rfl ?_)
       refine XO.do rfl (D.add rfl rfl rfl ?_)
       refine XO.do rfl (D.asn (v := .int .i64 (w64 (x116 + 1))) rfl rfl ?_)
       refine XO.nil ?_
       refine hM193 _ _ ?_
       refine X.ret ?_
       injection h with h
       subst h
       exact hR _ _ _ (ret1 (v := .int .i64 (w64 (x116 + 1))) rfl rfl) ⟨rfl, ext_of_below hB⟩
theorem rdata_whole.ok (a1 : Str)  (w : World)  (hp : rdata_whole.pre a1) :
  Ret Try.prog 74 ([S a1] : List Value).toArray w fun v w' => v = .int .i64 (rdata_whole a1) ∧ Ext w w' := by
 obtain ⟨kf, h⟩ := rdata_whole.eq a1 hp
 exact rdata_whole.walk kf a1  w  _ h
theorem rdata_strings.walk (kf : Nat) (a1 : Str)  (w : World)  (res : Bool) (h : rdata_strings.f kf a1 = some res) :
  Ret Try.prog 75 ([S a1] : List Value).toArray w fun v w' => v = .bool res ∧ Ext w w' := by
 unfold rdata_strings.f at h
 refine enterX Try.func75 rfl Try.ntmps75 rfl (fun R hR => ?_)
 have hB := Below.refl w.heap.size w
 refine X.seq fun M2 hM3 => ?_
 refine X.region ?_
 refine XO.do rfl (D.asn (v := .bool false) rfl rfl ?_)
 refine XO.nil ?_
 refine hM3 _ _ ?_
 refine X.seq fun M4 hM5 => ?_
 refine X.region ?_
 refine XO.do rfl (D.asn (v := .int .i64 0) rfl rfl ?_)
 refine XO.nil ?_
 refine hM5 _ _ ?_
 refine X.seq fun M43 hM44 => ?_
 refine X.block ?_
 refine X.loop (fun kq84 => fun f68 w67 => ∃ x65 : Int, f68 0 = S a1 ∧ f68 3 = .int .i64 x65 ∧ Below w.heap.size w w67 ∧ rdata_strings.l1 a1 kq84 x65 = some res) kf ?_ ?_
 ·exact ⟨0, rfl, rfl, hB, h⟩
 ·intro kq84 f68 w67 hI
  obtain ⟨x65, s69, s70, hB, h⟩ := hI
  cases kq84 with
  | zero => exact absurd h (by rw [rdata_strings.l1.eq_1]; simp)
  | succ kf64 =>
   rw [rdata_strings.l1.eq_2] at h
   refine X.fr (d := 0) s69 ?_
   refine X.fr (d := 3) s70 ?_
   refine X.seq fun M75 hM76 => ?_
   refine X.seq fun M77 hM78 => ?_
   refine X.region ?_
   refine XO.do rfl (D.mv (v := .int .i64 x65) rfl rfl ?_)
   refine XO.do rfl (D.mv (v := S a1) rfl rfl ?_)
   refine XO.do rfl (D.lenS Try.underlying9 rfl rfl ?_)
   refine XO.do rfl (D.lss rfl rfl rfl ?_)
   refine XO.nil ?_
   refine hM78 _ _ ?_
   by_cases c79 : x65 < (a1.length : Int)
   ·rw [if_pos c79] at h
    refine X.condT (congrArg Value.bool (decide_eq_true c79)) ?_
    refine X.skip ?_
    refine hM76 _ _ ?_
    refine X.block ?_
    refine X.region ?_
    refine XO.do rfl (D.mv (v := .int .i64 x65) rfl rfl ?_)
    refine XO.do rfl (D.mv (v := S a1) rfl rfl ?_)
    refine XO.do rfl (D.mv (v := .int .i64 x65) rfl rfl ?_)
    rcases (Classical.em (0 ≤ x65)).symm with c80 | c80
    ·rw [if_neg c80] at h; cases h
    rw [if_pos c80] at h
    refine XO.do rfl (D.indexS (i := x65) Try.underlying9 rfl rfl c80 c79 rfl ?_)
    refine XO.do rfl (D.conv Try.underlying5 Try.underlying3 rfl rfl ?_)
    refine XO.do rfl (D.add rfl rfl rfl ?_)
    refine XO.do rfl (D.add rfl rfl rfl ?_)
    refine XO.do rfl (D.asn (v := .int .i64 (w64 (x65 + (w64 (1 + (w64 (bt a1 x65))))))) rfl rfl ?_)
    refine XO.nil ?_
    exact ⟨kf64, Nat.lt_succ_self _, w64 (x65 + (w64 (1 + (w64 (bt a1 x65))))), rfl, rfl, hB, h⟩
   ·rw [if_neg c79] at h
    refine X.condF (congrArg Value.bool (decide_eq_false c79)) ?_
    refine X.exit rfl ?_
    refine hM44 _ _ ?_
    refine X.seq fun M81 hM82 => ?_
    refine X.region ?_
    refine XO.do rfl (D.mv (v := S a1) rfl rfl ?_)
    refine XO.do rfl (D.neqS rfl rfl rfl ?_)
    refine XO.do rfl (D.mv (v := .bool (!(a1 == ([] : Str)))) rfl rfl ?_)
    by_cases c83 : a1 = ([] : Str)
    ·rw [if_pos c83] at h
     refine XO.off (wantG0 (j := 2) (b := true) rfl ((congrArg (!·) (beq_iff_eq.2 c83))) rfl) rfl rfl ?_
     refine XO.off (wantG0 (j := 2) (b := true) rfl ((congrArg (!·) (beq_iff_eq.2 c83))) rfl) rfl rfl ?_
     refine XO.off (wantG0 (j := 2) (b := true) rfl ((congrArg (!·) (beq_iff_eq.2 c83))) rfl) rfl rfl ?_
     refine XO.off (wantG0 (j := 2) (b := true) rfl ((congrArg (!·) (beq_iff_eq.2 c83))) rfl) rfl rfl ?_
     refine XO.do rfl (D.pick false (v := .bool false) (congrArg Value.bool ((congrArg (!·) (beq_iff_eq.2 c83)))) rfl rfl ?_)
     refine XO.do rfl (D.asn (v := .bool false) rfl rfl ?_)
     refine XO.nil ?_
     refine hM82 _ _ ?_
     refine X.ret ?_
     injection h with h
     subst h
     exact hR _ _ _ (ret1 (v := .bool false) rfl rfl) ⟨rfl, ext_of_below hB⟩
    ·rw [if_neg c83] at h
     refine XO.do (wantG (j := 2) (b := true) rfl ((congrArg (!·) (beq_eq_false_iff_ne.2 c83))) rfl) (D.mv (v := .int .i64 x65) rfl rfl ?_)
     refine XO.do (wantG (j := 2) (b := true) rfl ((congrArg (!·) (beq_eq_false_iff_ne.2 c83))) rfl) (D.mv (v := S a1) rfl rfl ?_)
     refine XO.do (wantG (j := 2) (b := true) rfl ((congrArg (!·) (beq_eq_false_iff_ne.2 c83))) rfl) (D.lenS Try.underlying9 rfl rfl ?_)
     refine XO.do (wantG (j := 2) (b := true) rfl ((congrArg (!·) (beq_eq_false_iff_ne.2 c83))) rfl) (D.eql rfl rfl rfl ?_)
     refine XO.do rfl (D.pick true (v := .bool (x65 == (a1.length : Int))) (congrArg Value.bool ((congrArg (!·) (beq_eq_false_iff_ne.2 c83)))) rfl rfl ?_)
     refine XO.do rfl (D.asn (v := .bool (x65 == (a1.length : Int))) rfl rfl ?_)
     refine XO.nil ?_
     refine hM82 _ _ ?_
     refine X.ret ?_
     injection h with h
     subst h
     exact hR _ _ _ (ret1 (v := .bool (x65 == (a1.length : Int))) rfl rfl) ⟨rfl, ext_of_below hB⟩
theorem rdata_strings.ok (a1 : Str)  (w : World)  (hp : rdata_strings.pre a1) :
  Ret Try.prog 75 ([S a1] : List Value).toArray w fun v w' => v = .bool (rdata_strings a1) ∧ Ext w w' := by
 obtain ⟨kf, h⟩ := rdata_strings.eq a1 hp
 exact rdata_strings.walk kf a1  w  _ h
end Go.Proofs.Ytfcaekghpkpjdaa.K

/- rdata.layouts, rdata.layout: a map literal. -/
namespace Go.Proofs.Ytfcaekghpkpjdaa.K
open Go Go.RowKit Go.Proofs
set_option linter.unusedVariables false
set_option maxRecDepth 100000
set_option maxHeartbeats 4000000
structure MI (w0 w : World) (b : Nat) (m : List (Int × Value)) : Prop where
 map : MapIs w b (m.map fun p => (Value.int .u16 p.1, p.2))
 rows : ∀ p ∈ m, ∃ (A : Option Go.Addr) (c : Nat) (xs : List Int), p.2 = .slice A xs.length c ∧ Row (eInt .i64) w A c xs ∧ (∀ y, blkOf A = some y → w0.heap.size ≤ y ∧ y ≠ b) ∧ List.lookup p.1 layTab = some xs
 ge : w0.heap.size ≤ b
 below : Below w0.heap.size w0 w
theorem MI.ext {w0 w w' : World} {b : Nat} {m : List (Int × Value)} (h : MI w0 w b m) (e : Ext w w') : MI w0 w' b m :=
 ⟨h.map.gr e (by simp), fun p hp => by obtain ⟨A, c, xs, h1, h2, h3, h4⟩ := h.rows p hp; exact ⟨A, c, xs, h1, h2.ext e, h3, h4⟩, h.ge, below_ext h.below e⟩
theorem MI.add {w0 w w' : World} {b bi k : Nat} {T : TypeId} {m : List (Int × Value)} {xs : List Int} {key : Int} (h : MI w0 w b m) (H : Blk w bi (flat (eInt .i64) xs) T) (hbi : w0.heap.size ≤ bi) (hne : bi ≠ b) (hl : xs.length ≤ 9223372036854775807)
  (ht : List.lookup key layTab = some xs) (hm : MapIs w' b ((m ++ [(key, (.slice (some ⟨bi, 0, none⟩) xs.length xs.length : Value))]).map fun p => (Value.int .u16 p.1, p.2))) (hc : Chg w w' b) : MI w0 w' b (m ++ [(key, .slice (some ⟨bi, 0, none⟩) xs.length xs.length)]) := by
 refine ⟨hm, fun p hp => ?_, h.ge, below_blk h.below hc h.ge⟩
 rcases List.mem_append.1 hp with hp | hp
 ·obtain ⟨A, c, xs, h1, h2, h3, h4⟩ := h.rows p hp
  exact ⟨A, c, xs, h1, h2.gr hc (fun x hx e => by injection e with e; exact (h3 x hx.1).2 e), h3, h4⟩
 ·simp only [List.mem_singleton] at hp
  subst hp
  have hr : Row (eInt .i64) w (some ⟨bi, 0, none⟩) xs.length xs := ⟨Nat.le_refl _, hl, .inr ⟨bi, 0, rfl, H.cs⟩⟩
  have hb : ∀ y, blkOf (some (⟨bi, 0, none⟩ : Go.Addr)) = some y → w0.heap.size ≤ y ∧ y ≠ b := by
   intro y hy; simp only [blkOf, Option.map_some, Option.some.injEq] at hy; subst hy; exact ⟨hbi, hne⟩
  exact ⟨_, _, xs, rfl, hr.gr hc (fun x hx e => by injection e with e; exact (hb x hx.1).2 e), hb, ht⟩
theorem tiInt : TI Try.prog 3 (.int .i64 0) 1 8 := by unfold TI; kernel_rfl
theorem tiInts : TI Try.prog 105 (.slice none 0 0) 1 24 := by unfold TI; kernel_rfl
theorem layouts_ok (w : World) : Ret Try.prog 76 ([] : List Value).toArray w fun v w' => ∃ b m, v = .map (some b) ∧ MI w w' b m ∧ m.map (·.1) = layTab.map (·.1) := by
 refine enterX Try.func76 rfl Try.ntmps76 rfl (fun R hR => ?_)
 have hB := Below.refl w.heap.size w
 refine X.seq fun M hM => ?_
 refine X.region ?_
 refine XO.do rfl (D.asn (v := .map none) rfl rfl ?_)
 refine XO.nil ?_
 refine hM _ _ ?_
 refine X.seq fun M hM => ?_
 refine X.region ?_
 refine XO.do rfl (D.makeMap (kt := 22) (et := 105) rfl ?_)
 intro b w1 hb hm0 e0
 have h0 : MI w w1 b [] := ⟨hm0, by simp, Nat.le_of_eq hb.symm, below_ext hB e0⟩
 have hlt0 : b < w1.heap.size := hm0.lt
 refine XO.do rfl (D.buildR (vs := [I (4)]) (cs := [I (4)]) Try.underlying105 tiInt rfl rfl rfl rfl rfl rfl rfl ?_)
 intro b1 u1 hb1 H1 e1 _
 have g1 := h0.ext e1
 refine XO.do rfl (D.insertNew (ev := fun v : Value => v) (keyInt .u16) (k := 1) (m := []) (v := .slice (some ⟨b1, 0, none⟩) 1 1) Try.underlying126 Try.underlying22 g1.map rfl rfl rfl rfl ?_)
 intro v1 m1 c1
 have h1 : MI w v1 b ([] ++ [(1, .slice (some ⟨b1, 0, none⟩) 1 1)]) := MI.add (k := 0) (xs := [(4 : Int)]) g1 H1 (by have := h0.below.size; omega) (by omega) (by decide) rfl m1 c1
 have hlt1 : b < v1.heap.size := h1.map.lt
 refine XO.do rfl (D.buildR (vs := [I (16)]) (cs := [I (16)]) Try.underlying105 tiInt rfl rfl rfl rfl rfl rfl rfl ?_)
 intro b2 u2 hb2 H2 e2 _
 have g2 := h1.ext e2
 refine XO.do rfl (D.insertNew (ev := fun v : Value => v) (keyInt .u16) (k := 28) (m := [(1, Value.slice (some ⟨b1, 0, none⟩) 1 1)]) (v := .slice (some ⟨b2, 0, none⟩) 1 1) Try.underlying126 Try.underlying22 g2.map rfl rfl rfl rfl ?_)
 intro v2 m2 c2
 have h2 : MI w v2 b ([(1, Value.slice (some ⟨b1, 0, none⟩) 1 1)] ++ [(28, .slice (some ⟨b2, 0, none⟩) 1 1)]) := MI.add (k := 0) (xs := [(16 : Int)]) g2 H2 (by have := h1.below.size; omega) (by omega) (by decide) rfl m2 c2
 have hlt2 : b < v2.heap.size := h2.map.lt
 refine XO.do rfl (D.buildR (vs := [I (-1)]) (cs := [I (-1)]) Try.underlying105 tiInt rfl rfl rfl rfl rfl rfl rfl ?_)
 intro b3 u3 hb3 H3 e3 _
 have g3 := h2.ext e3
 refine XO.do rfl (D.insertNew (ev := fun v : Value => v) (keyInt .u16) (k := 2) (m := [(1, Value.slice (some ⟨b1, 0, none⟩) 1 1), (28, Value.slice (some ⟨b2, 0, none⟩) 1 1)]) (v := .slice (some ⟨b3, 0, none⟩) 1 1) Try.underlying126 Try.underlying22 g3.map rfl rfl rfl rfl ?_)
 intro v3 m3 c3
 have h3 : MI w v3 b ([(1, Value.slice (some ⟨b1, 0, none⟩) 1 1), (28, Value.slice (some ⟨b2, 0, none⟩) 1 1)] ++ [(2, .slice (some ⟨b3, 0, none⟩) 1 1)]) := MI.add (k := 0) (xs := [(-1 : Int)]) g3 H3 (by have := h2.below.size; omega) (by omega) (by decide) rfl m3 c3
 have hlt3 : b < v3.heap.size := h3.map.lt
 refine XO.do rfl (D.buildR (vs := [I (-1)]) (cs := [I (-1)]) Try.underlying105 tiInt rfl rfl rfl rfl rfl rfl rfl ?_)
 intro b4 u4 hb4 H4 e4 _
 have g4 := h3.ext e4
 refine XO.do rfl (D.insertNew (ev := fun v : Value => v) (keyInt .u16) (k := 5) (m := [(1, Value.slice (some ⟨b1, 0, none⟩) 1 1), (28, Value.slice (some ⟨b2, 0, none⟩) 1 1), (2, Value.slice (some ⟨b3, 0, none⟩) 1 1)]) (v := .slice (some ⟨b4, 0, none⟩) 1 1) Try.underlying126 Try.underlying22 g4.map rfl rfl rfl rfl ?_)
 intro v4 m4 c4
 have h4 : MI w v4 b ([(1, Value.slice (some ⟨b1, 0, none⟩) 1 1), (28, Value.slice (some ⟨b2, 0, none⟩) 1 1), (2, Value.slice (some ⟨b3, 0, none⟩) 1 1)] ++ [(5, .slice (some ⟨b4, 0, none⟩) 1 1)]) := MI.add (k := 0) (xs := [(-1 : Int)]) g4 H4 (by have := h3.below.size; omega) (by omega) (by decide) rfl m4 c4
 have hlt4 : b < v4.heap.size := h4.map.lt
 refine XO.do rfl (D.buildR (vs := [I (-1)]) (cs := [I (-1)]) Try.underlying105 tiInt rfl rfl rfl rfl rfl rfl rfl ?_)
 intro b5 u5 hb5 H5 e5 _
 have g5 := h4.ext e5
 refine XO.do rfl (D.insertNew (ev := fun v : Value => v) (keyInt .u16) (k := 12) (m := [(1, Value.slice (some ⟨b1, 0, none⟩) 1 1), (28, Value.slice (some ⟨b2, 0, none⟩) 1 1), (2, Value.slice (some ⟨b3, 0, none⟩) 1 1), (5, Value.slice (some ⟨b4, 0, none⟩) 1 1)]) (v := .slice (some ⟨b5, 0, none⟩) 1 1) Try.underlying126 Try.underlying22 g5.map rfl rfl rfl rfl ?_)
 intro v5 m5 c5
 have h5 : MI w v5 b ([(1, Value.slice (some ⟨b1, 0, none⟩) 1 1), (28, Value.slice (some ⟨b2, 0, none⟩) 1 1), (2, Value.slice (some ⟨b3, 0, none⟩) 1 1), (5, Value.slice (some ⟨b4, 0, none⟩) 1 1)] ++ [(12, .slice (some ⟨b5, 0, none⟩) 1 1)]) := MI.add (k := 0) (xs := [(-1 : Int)]) g5 H5 (by have := h4.below.size; omega) (by omega) (by decide) rfl m5 c5
 have hlt5 : b < v5.heap.size := h5.map.lt
 refine XO.do rfl (D.buildR (vs := [I (2), I (-1)]) (cs := [I (2), I (-1)]) Try.underlying105 tiInt rfl rfl rfl rfl rfl rfl rfl ?_)
 intro b6 u6 hb6 H6 e6 _
 have g6 := h5.ext e6
 refine XO.do rfl (D.insertNew (ev := fun v : Value => v) (keyInt .u16) (k := 15) (m := [(1, Value.slice (some ⟨b1, 0, none⟩) 1 1), (28, Value.slice (some ⟨b2, 0, none⟩) 1 1), (2, Value.slice (some ⟨b3, 0, none⟩) 1 1), (5, Value.slice (some ⟨b4, 0, none⟩) 1 1), (12, Value.slice (some ⟨b5, 0, none⟩) 1 1)]) (v := .slice (some ⟨b6, 0, none⟩) 2 2) Try.underlying126 Try.underlying22 g6.map rfl rfl rfl rfl ?_)
 intro v6 m6 c6
 have h6 : MI w v6 b ([(1, Value.slice (some ⟨b1, 0, none⟩) 1 1), (28, Value.slice (some ⟨b2, 0, none⟩) 1 1), (2, Value.slice (some ⟨b3, 0, none⟩) 1 1), (5, Value.slice (some ⟨b4, 0, none⟩) 1 1), (12, Value.slice (some ⟨b5, 0, none⟩) 1 1)] ++ [(15, .slice (some ⟨b6, 0, none⟩) 2 2)]) := MI.add (k := 0) (xs := [(2 : Int), (-1 : Int)]) g6 H6 (by have := h5.below.size; omega) (by omega) (by decide) rfl m6 c6
 have hlt6 : b < v6.heap.size := h6.map.lt
 refine XO.do rfl (D.buildR (vs := [I (-1), I (-1), I (20)]) (cs := [I (-1), I (-1), I (20)]) Try.underlying105 tiInt rfl rfl rfl rfl rfl rfl rfl ?_)
 intro b7 u7 hb7 H7 e7 _
 have g7 := h6.ext e7
 refine XO.do rfl (D.insertNew (ev := fun v : Value => v) (keyInt .u16) (k := 6) (m := [(1, Value.slice (some ⟨b1, 0, none⟩) 1 1), (28, Value.slice (some ⟨b2, 0, none⟩) 1 1), (2, Value.slice (some ⟨b3, 0, none⟩) 1 1), (5, Value.slice (some ⟨b4, 0, none⟩) 1 1), (12, Value.slice (some ⟨b5, 0, none⟩) 1 1), (15, Value.slice (some ⟨b6, 0, none⟩) 2 2)]) (v := .slice (some ⟨b7, 0, none⟩) 3 3) Try.underlying126 Try.underlying22 g7.map rfl rfl rfl rfl ?_)
 intro v7 m7 c7
 have h7 : MI w v7 b ([(1, Value.slice (some ⟨b1, 0, none⟩) 1 1), (28, Value.slice (some ⟨b2, 0, none⟩) 1 1), (2, Value.slice (some ⟨b3, 0, none⟩) 1 1), (5, Value.slice (some ⟨b4, 0, none⟩) 1 1), (12, Value.slice (some ⟨b5, 0, none⟩) 1 1), (15, Value.slice (some ⟨b6, 0, none⟩) 2 2)] ++ [(6, .slice (some ⟨b7, 0, none⟩) 3 3)]) := MI.add (k := 0) (xs := [(-1 : Int), (-1 : Int), (20 : Int)]) g7 H7 (by have := h6.below.size; omega) (by omega) (by decide) rfl m7 c7
 have hlt7 : b < v7.heap.size := h7.map.lt
 refine XO.do rfl (D.buildR (vs := [I (-2)]) (cs := [I (-2)]) Try.underlying105 tiInt rfl rfl rfl rfl rfl rfl rfl ?_)
 intro b8 u8 hb8 H8 e8 _
 have g8 := h7.ext e8
 refine XO.do rfl (D.insertNew (ev := fun v : Value => v) (keyInt .u16) (k := 16) (m := [(1, Value.slice (some ⟨b1, 0, none⟩) 1 1), (28, Value.slice (some ⟨b2, 0, none⟩) 1 1), (2, Value.slice (some ⟨b3, 0, none⟩) 1 1), (5, Value.slice (some ⟨b4, 0, none⟩) 1 1), (12, Value.slice (some ⟨b5, 0, none⟩) 1 1), (15, Value.slice (some ⟨b6, 0, none⟩) 2 2), (6, Value.slice (some ⟨b7, 0, none⟩) 3 3)]) (v := .slice (some ⟨b8, 0, none⟩) 1 1) Try.underlying126 Try.underlying22 g8.map rfl rfl rfl rfl ?_)
 intro v8 m8 c8
 have h8 : MI w v8 b ([(1, Value.slice (some ⟨b1, 0, none⟩) 1 1), (28, Value.slice (some ⟨b2, 0, none⟩) 1 1), (2, Value.slice (some ⟨b3, 0, none⟩) 1 1), (5, Value.slice (some ⟨b4, 0, none⟩) 1 1), (12, Value.slice (some ⟨b5, 0, none⟩) 1 1), (15, Value.slice (some ⟨b6, 0, none⟩) 2 2), (6, Value.slice (some ⟨b7, 0, none⟩) 3 3)] ++ [(16, .slice (some ⟨b8, 0, none⟩) 1 1)]) := MI.add (k := 0) (xs := [(-2 : Int)]) g8 H8 (by have := h7.below.size; omega) (by omega) (by decide) rfl m8 c8
 have hlt8 : b < v8.heap.size := h8.map.lt
 refine XO.do rfl (D.mv (v := .map (some b)) rfl rfl ?_)
 refine XO.do rfl (D.asn (v := .map (some b)) rfl rfl ?_)
 refine XO.nil ?_
 refine hM _ _ ?_
 refine X.ret ?_
 exact hR _ _ _ (ret1 (v := .map (some b)) rfl rfl) ⟨b, _, rfl, h8, rfl⟩
theorem lookup_mem {m : List (Int × Value)} {k : Int} {v : Value} (h : List.lookup k m = some v) : (k, v) ∈ m := by
 induction m with
 | nil => cases h
 | cons p m ih =>
  obtain ⟨a, b⟩ := p
  simp only [List.lookup] at h
  split at h
  ·rename_i he
   injection h with h
   subst h
   rw [beq_iff_eq.1 he]; simp
  ·exact List.mem_cons_of_mem _ (ih h)
theorem lookup_none {α β : Type} {k : Int} : ∀ (m : List (Int × α)) (m' : List (Int × β)), m.map (·.1) = m'.map (·.1) → List.lookup k m = none → List.lookup k m' = none := by
 intro m
 induction m with
 | nil => intro m' h _; cases m' with
  | nil => rfl
  | cons _ _ => simp at h
 | cons p m ih =>
  intro m' h hn
  cases m' with
  | nil => simp at h
  | cons p' m' =>
   simp only [List.map_cons, List.cons.injEq] at h
   obtain ⟨a, x⟩ := p
   obtain ⟨a', x'⟩ := p'
   obtain ⟨h1, h2⟩ := h
   simp only at h1
   subst h1
   simp only [List.lookup] at hn ⊢
   split at hn
   ·cases hn
   ·exact ih m' h2 hn
theorem rdata_layout.ok (k : Int) (w : World) : Ret Try.prog 58 ([.int .u16 k] : List Value).toArray w fun v w' => ∃ (A1 : Option Go.Addr) (k1 : Nat), v = .slice A1 (rdata_layout k).length k1 ∧ Row (eInt .i64) w' A1 k1 (rdata_layout k) ∧ (∀ y, blkOf A1 = some y → w.heap.size ≤ y) ∧ Ext w w' := by
 refine enterX Try.func58 rfl Try.ntmps58 rfl (fun R hR => ?_)
 refine X.seq fun M hM => ?_
 refine X.region ?_
 refine XO.do rfl (D.asn (v := .slice none 0 0) rfl rfl ?_)
 refine XO.nil ?_
 refine hM _ _ ?_
 refine X.seq fun M hM => ?_
 refine X.region ?_
 refine XO.do rfl (D.call (vs := []) (callable Try.func76 (by kernel_rfl) rfl) (layouts_ok w) rfl rfl ?_)
 rintro _ w1 ⟨b, m, rfl, hI, hkeys⟩
 refine XO.do rfl (D.mv (v := .int .u16 k) rfl rfl ?_)
 refine XO.do rfl (D.lookupM (ev := fun v : Value => v) (keyInt .u16) (k := k) (m := m) Try.underlying126 Try.underlying22 tiInts hI.map rfl rfl rfl ?_)
 have hid : (List.lookup k m).map (fun v : Value => v) = List.lookup k m := by cases List.lookup k m <;> rfl
 rw [hid]
 cases hl : List.lookup k m with
 | none =>
  have hr : rdata_layout k = [-3] := by unfold rdata_layout; rw [lookup_none m layTab hkeys hl]; rfl
  refine XO.do rfl (D.mv (v := .tuple #[.slice none 0 0, .bool false]) rfl rfl ?_)
  refine XO.do rfl (D.extract (v := .slice none 0 0) rfl rfl rfl ?_)
  refine XO.do rfl (D.extract (v := .bool false) rfl rfl rfl ?_)
  refine XO.do rfl (D.asn (v := .slice none 0 0) rfl rfl ?_)
  refine XO.do rfl (D.asn (v := .bool false) rfl rfl ?_)
  refine XO.nil ?_
  refine hM _ _ ?_
  refine X.seq fun M hM => ?_
  refine X.seq fun M2 hM2 => ?_
  refine X.region ?_
  refine XO.do rfl (D.mv (v := .bool false) rfl rfl ?_)
  refine XO.do rfl (D.not false rfl rfl ?_)
  refine XO.nil ?_
  refine hM2 _ _ ?_
  refine X.condT rfl ?_
  refine X.seq fun M3 hM3 => ?_
  refine X.region ?_
  refine XO.do rfl (D.buildR (vs := [I (-3)]) (cs := [I (-3)]) Try.underlying105 tiInt rfl rfl rfl rfl rfl rfl rfl ?_)
  intro bi w2 hb H en _
  refine XO.do rfl (D.asn (v := .slice (some ⟨bi, 0, none⟩) 1 1) rfl rfl ?_)
  refine XO.nil ?_
  refine hM3 _ _ ?_
  refine X.ret ?_
  have hr1 : Row (eInt .i64) w2 (some ⟨bi, 0, none⟩) 1 [-3] := ⟨Nat.le_refl _, by decide, .inr ⟨bi, 0, rfl, H.cs⟩⟩
  exact hR _ _ _ (ret1 (v := .slice (some ⟨bi, 0, none⟩) 1 1) rfl rfl) ⟨some ⟨bi, 0, none⟩, 1, by rw [hr]; rfl, by rw [hr]; exact hr1, (fun y hy => by simp only [blkOf, Option.map_some, Option.some.injEq] at hy; subst hy; rw [hb]; exact hI.below.size), ext_of_below (below_ext hI.below en)⟩
 | some v =>
  obtain ⟨A, c, xs, h1, h2, h3, h4⟩ := hI.rows _ (lookup_mem hl)
  simp only at h1 h4
  subst h1
  have hr : rdata_layout k = xs := by unfold rdata_layout; rw [h4]; rfl
  refine XO.do rfl (D.mv (v := .tuple #[.slice A xs.length c, .bool true]) rfl rfl ?_)
  refine XO.do rfl (D.extract (v := .slice A xs.length c) rfl rfl rfl ?_)
  refine XO.do rfl (D.extract (v := .bool true) rfl rfl rfl ?_)
  refine XO.do rfl (D.asn (v := .slice A xs.length c) rfl rfl ?_)
  refine XO.do rfl (D.asn (v := .bool true) rfl rfl ?_)
  refine XO.nil ?_
  refine hM _ _ ?_
  refine X.seq fun M hM => ?_
  refine X.seq fun M2 hM2 => ?_
  refine X.region ?_
  refine XO.do rfl (D.mv (v := .bool true) rfl rfl ?_)
  refine XO.do rfl (D.not true rfl rfl ?_)
  refine XO.nil ?_
  refine hM2 _ _ ?_
  refine X.condF rfl ?_
  refine X.skip ?_
  refine hM _ _ ?_
  refine X.seq fun M3 hM3 => ?_
  refine X.region ?_
  refine XO.do rfl (D.mv (v := .slice A xs.length c) rfl rfl ?_)
  refine XO.do rfl (D.asn (v := .slice A xs.length c) rfl rfl ?_)
  refine XO.nil ?_
  refine hM3 _ _ ?_
  refine X.ret ?_
  exact hR _ _ _ (ret1 (v := .slice A xs.length c) rfl rfl) ⟨A, c, by rw [hr], by rw [hr]; exact h2, fun y hy => (h3 y hy).1, ext_of_below hI.below⟩
end Go.Proofs.Ytfcaekghpkpjdaa.K

/- Walks, printed by a program of this session. -/
namespace Go.Proofs.Ytfcaekghpkpjdaa.K
open Go Go.RowKit Go.Proofs
set_option linter.unusedVariables false
set_option maxRecDepth 100000
set_option maxHeartbeats 4000000
namespace FC2
theorem cf58 : Callable Try.prog 58 := callable Try.func58 (by kernel_rfl) rfl
theorem cf74 : Callable Try.prog 74 := callable Try.func74 (by kernel_rfl) rfl
theorem cf75 : Callable Try.prog 75 := callable Try.func75 (by kernel_rfl) rfl
theorem sc3 : Sca Try.prog 3 := sca Try.underlying3 rfl
theorem ti3 : TI Try.prog 3 (.int .i64 0) 1 8 := by unfold TI; kernel_rfl
theorem sz3 : ∀ w, (sizeOf 3).run Try.prog w = .ok 1 w := fun w => ti3.size w
theorem ti9 : TI Try.prog 9 (S []) 1 16 := by unfold TI; kernel_rfl
end FC2
open FC2
theorem rdata_cut.walk (kf : Nat) (a1 : Int) (a2 : Str)  (w : World)  (res : List Str × Bool) (h : rdata_cut.f kf a1 a2 = some res) :
  Ret Try.prog 55 ([.int .u16 a1, S a2] : List Value).toArray w fun v w' => ∃ (A1 : Option Addr) (k1 : Nat), v = .tuple #[.slice A1 res.1.length k1, .bool res.2] ∧ Row eStr w' A1 k1 res.1 ∧ (∀ y, blkOf A1 = some y → w.heap.size ≤ y) ∧ Ext w w' := by
 unfold rdata_cut.f at h
 refine enterX Try.func55 rfl Try.ntmps55 rfl (fun R hR => ?_)
 have hB := Below.refl w.heap.size w
 refine X.seq fun M3 hM4 => ?_
 refine X.region ?_
 refine XO.do rfl (D.asn (v := .slice none 0 0) rfl rfl ?_)
 refine XO.do rfl (D.asn (v := .bool false) rfl rfl ?_)
 refine XO.nil ?_
 refine hM4 _ _ ?_
 refine X.seq fun M5 hM6 => ?_
 refine X.region ?_
 refine XO.do rfl (D.asn (v := .slice none 0 0) rfl rfl ?_)
 refine XO.nil ?_
 refine hM6 _ _ ?_
 refine X.seq fun M1065 hM1066 => ?_
 refine X.seq fun M1067 hM1068 => ?_
 refine X.region ?_
 refine XO.do rfl (D.mv (v := .int .u16 a1) rfl rfl ?_)
 obtain ⟨r1072, q1073, h⟩ := lt_elim h
 have hc1071 := rdata_layout.ok a1 w 
 rw [q1073] at hc1071
 clear q1073
 refine XO.do rfl (D.call (vs := [.int .u16 a1]) cf58 hc1071 rfl rfl ?_)
 rintro _ w1069 ⟨A1074, k1075, rfl, H1076, g1077, e1070⟩
 clear hc1071
 have z1078 : ∀ y, blkOf A1074 = some y → w.heap.size ≤ y := fun y hy => Nat.le_trans hB.size (g1077 y hy)
 replace hB := below_ext hB e1070
 clear e1070
 refine XO.do rfl (D.lenR (A := A1074) (c := k1075) (m := r1072.length) Try.underlying105 rfl rfl ?_)
 refine XO.do rfl (D.mv (v := .int .i64 0) rfl rfl ?_)
 refine XO.nil ?_
 refine hM1068 _ _ ?_
 refine X.block ?_
 have H1785 : Own eStr 9 w1069 w1069.heap.size none 0 [] := Own.nil _ _ _ _
 have lt_1078_1786 : ∀ x, MR A1074 r1072 x → x < w1069.heap.size := (MR.lt H1076 (Nat.le_refl _))
 have bs1786 : w1069.heap.size ≤ w1069.heap.size := Nat.le_refl _
 have hB1786 : w.heap.size ≤ w1069.heap.size := hB.size
 refine X.loop (fun kq2126 => fun f1789 w1788 => ∃ x1776 : Str, ∃ A1777 : Option Addr, ∃ k1778 : Nat, ∃ l1779 : List Str, ∃ B1780 : Nat, ∃ x1784 : Int, f1789 1 = S x1776 ∧ f1789 6 = .slice A1777 l1779.length k1778 ∧ f1789 11 = .slice A1074 r1072.length k1075 ∧ f1789 12 = .int .i64 (r1072.length : Int) ∧ f1789 13 = .int .i64 x1784 ∧ Below w.heap.size w w1788 ∧ Own eStr 9 w1788 B1780 A1777 k1778 l1779 ∧ B1780 ≤ w1788.heap.size ∧ w.heap.size ≤ B1780 ∧ Row (eInt .i64) w1788 A1074 k1075 r1072 ∧ (∀ x y, MO A1777 x → MR A1074 r1072 y → x ≠ y) ∧ (∀ x, MR A1074 r1072 x → x < B1780) ∧ rdata_cut.l1 r1072 kq2126 x1776 l1779 x1784 = some res) kf ?_ ?_
 ·exact ⟨a2, none, 0, ([] : List Str), w1069.heap.size, 0, rfl, rfl, rfl, rfl, rfl, hB, H1785, bs1786, hB1786, H1076, (ne_flip (ne_of lt_1078_1786 (MO.ge H1785))), lt_1078_1786, h⟩
 ·intro kq2126 f1789 w1788 hI
  obtain ⟨x1776, A1777, k1778, l1779, B1780, x1784, s1790, s1791, s1792, s1793, s1794, hB, H1781, bs1782, hg1782, H1783, pr1782_1078, pr1078_1782, h⟩ := hI
  cases kq2126 with
  | zero => exact absurd h (by rw [rdata_cut.l1.eq_1]; simp)
  | succ kf1775 =>
   rw [rdata_cut.l1.eq_2] at h
   refine X.fr (d := 1) s1790 ?_
   refine X.fr (d := 6) s1791 ?_
   refine X.fr (d := 11) s1792 ?_
   refine X.fr (d := 12) s1793 ?_
   refine X.fr (d := 13) s1794 ?_
   refine X.seq fun M1796 hM1797 => ?_
   refine X.region ?_
   refine XO.do rfl (D.lss rfl rfl rfl ?_)
   refine XO.nil ?_
   refine hM1797 _ _ ?_
   refine X.seq fun M1799 hM1800 => ?_
   by_cases c1801 : x1784 < (r1072.length : Int)
   ·rw [if_pos c1801] at h
    refine X.condT (congrArg Value.bool (decide_eq_true c1801)) ?_
    refine X.skip ?_
    refine hM1800 _ _ ?_
    refine X.seq fun M1962 hM1963 => ?_
    refine X.block ?_
    refine X.seq fun M1964 hM1965 => ?_
    refine X.region ?_
    rcases (Classical.em (0 ≤ x1784)).symm with c1966 | c1966
    ·rw [if_neg c1966] at h; cases h
    rw [if_pos c1966] at h
    refine XO.do rfl (D.indexR (i := x1784) Try.underlying105 sz3 H1783 rfl rfl c1966 c1801 rfl ?_)
    intro b1967 o1968 _ H1969
    refine XO.do rfl (D.load (j := 0) (v := .int .i64 (rd r1072 x1784)) sc3 H1969 rfl rfl rfl rfl ?_)
    refine XO.do rfl (D.asn (v := .int .i64 (rd r1072 x1784)) rfl rfl ?_)
    refine XO.nil ?_
    refine hM1965 _ _ ?_
    refine X.seq fun M1971 hM1972 => ?_
    refine X.region ?_
    refine XO.do rfl (D.mv (v := .int .i64 (rd r1072 x1784)) rfl rfl ?_)
    refine XO.do rfl (D.asn (v := .int .i64 (rd r1072 x1784)) rfl rfl ?_)
    refine XO.nil ?_
    refine hM1972 _ _ ?_
    refine X.cut (fun f2016 w2015 => ∃ x2013 : Int, f2016 1 = S x1776 ∧ f2016 6 = .slice A1777 l1779.length k1778 ∧ f2016 8 = .int .i64 (rd r1072 x1784) ∧ f2016 9 = .int .i64 x2013 ∧ f2016 11 = .slice A1074 r1072.length k1075 ∧ f2016 12 = .int .i64 (r1072.length : Int) ∧ f2016 13 = .int .i64 x1784 ∧ Below w.heap.size w w2015 ∧ Own eStr 9 w2015 B1780 A1777 k1778 l1779 ∧ B1780 ≤ w2015.heap.size ∧ Row (eInt .i64) w2015 A1074 k1075 r1072 ∧ (∀ x y, MO A1777 x → MR A1074 r1072 y → x ≠ y) ∧ (∀ x, MR A1074 r1072 x → x < B1780) ∧ rdata_cut.j2 x1776 l1779 (rdata_cut.l1 r1072 kf1775) x1784 r1072 x2013 = some res) ?_ ?_
    ·refine X.block ?_
     refine X.seq fun M2085 hM2086 => ?_
     refine X.region ?_
     refine XO.do rfl (D.mv (v := .int .i64 (rd r1072 x1784)) rfl rfl ?_)
     refine XO.do rfl (D.eql rfl rfl rfl ?_)
     refine XO.do rfl (D.asn (v := .bool ((rd r1072 x1784) == (-1))) rfl rfl ?_)
     refine XO.nil ?_
     refine hM2086 _ _ ?_
     by_cases c2087 : (rd r1072 x1784) = (-1)
     ·rw [if_pos c2087] at h
      refine X.condT (congrArg Value.bool (beq_iff_eq.2 c2087)) ?_
      refine X.region ?_
      refine XO.do rfl (D.mv (v := S x1776) rfl rfl ?_)
      rcases (Classical.em (rdata_whole.pre x1776)).symm with c2088 | c2088
      ·rw [if_neg c2088] at h; cases h
      rw [if_pos c2088] at h
      obtain ⟨r2092, q2093, h⟩ := lt_elim h
      have hc2091 := rdata_whole.ok x1776 w1788 c2088 
      rw [q2093] at hc2091
      clear q2093
      refine XO.do rfl (D.call (vs := [S x1776]) cf74 hc2091 rfl rfl ?_)
      rintro _ w2089 ⟨rfl, e2090⟩
      clear hc2091
      replace hB := below_ext hB e2090
      replace H1781 := H1781.ext e2090
      replace bs1782 := Nat.le_trans bs1782 (World.grownBy.size e2090)
      replace H1783 := H1783.ext e2090
      replace H1969 := H1969.ext e2090
      clear e2090
      refine XO.do rfl (D.asn (v := .int .i64 r2092) rfl rfl ?_)
      refine XO.nil ?_
      exact ⟨r2092, rfl, rfl, rfl, rfl, rfl, rfl, rfl, hB, H1781, bs1782, H1783, pr1782_1078, pr1078_1782, h⟩
     ·rw [if_neg c2087] at h
      refine X.condF (congrArg Value.bool (beq_eq_false_iff_ne.2 c2087)) ?_
      refine X.cut (fun f2106 w2105 => ∃ x2104 : Bool, f2106 1 = S x1776 ∧ f2106 6 = .slice A1777 l1779.length k1778 ∧ f2106 8 = .int .i64 (rd r1072 x1784) ∧ f2106 9 = .int .i64 (rd r1072 x1784) ∧ f2106 11 = .slice A1074 r1072.length k1075 ∧ f2106 12 = .int .i64 (r1072.length : Int) ∧ f2106 13 = .int .i64 x1784 ∧ f2106 23 = .bool x2104 ∧ Below w.heap.size w w2105 ∧ Own eStr 9 w2105 B1780 A1777 k1778 l1779 ∧ B1780 ≤ w2105.heap.size ∧ Row (eInt .i64) w2105 A1074 k1075 r1072 ∧ (∀ x y, MO A1777 x → MR A1074 r1072 y → x ≠ y) ∧ (∀ x, MR A1074 r1072 x → x < B1780) ∧ rdata_cut.j4 x1776 l1779 (rdata_cut.l1 r1072 kf1775) x1784 r1072 x2104 = some res) ?_ ?_
      ·refine X.region ?_
       refine XO.do rfl (D.mv (v := .int .i64 (rd r1072 x1784)) rfl rfl ?_)
       refine XO.do rfl (D.eql rfl rfl rfl ?_)
       refine XO.do rfl (D.mv (v := .bool ((rd r1072 x1784) == (-2))) rfl rfl ?_)
       by_cases c2116 : (rd r1072 x1784) = (-2)
       ·rw [if_pos c2116] at h
        refine XO.do (wantG (j := 2) (b := true) rfl (beq_iff_eq.2 c2116) rfl) (D.mv (v := S x1776) rfl rfl ?_)
        rcases (Classical.em (rdata_strings.pre x1776)).symm with c2117 | c2117
        ·rw [if_neg c2117] at h; cases h
        rw [if_pos c2117] at h
        obtain ⟨r2121, q2122, h⟩ := lt_elim h
        have hc2120 := rdata_strings.ok x1776 w1788 c2117 
        rw [q2122] at hc2120
        clear q2122
        refine XO.do (wantG (j := 2) (b := true) rfl (beq_iff_eq.2 c2116) rfl) (D.call (vs := [S x1776]) cf75 hc2120 rfl rfl ?_)
        rintro _ w2118 ⟨rfl, e2119⟩
        clear hc2120
        replace hB := below_ext hB e2119
        replace H1781 := H1781.ext e2119
        replace bs1782 := Nat.le_trans bs1782 (World.grownBy.size e2119)
        replace H1783 := H1783.ext e2119
        replace H1969 := H1969.ext e2119
        clear e2119
        refine XO.do rfl (D.pick true (v := .bool r2121) (congrArg Value.bool (beq_iff_eq.2 c2116)) rfl rfl ?_)
        refine XO.do rfl (D.mv (v := .bool r2121) rfl rfl ?_)
        by_cases c2123 : r2121 = true
        ·rw [if_pos c2123] at h
         refine XO.off (wantG0 (j := 6) (b := false) rfl (c2123) rfl) rfl rfl ?_
         refine XO.off (wantG0 (j := 6) (b := false) rfl (c2123) rfl) rfl rfl ?_
         refine XO.do rfl (D.pick true (v := .bool true) (congrArg Value.bool (c2123)) rfl rfl ?_)
         refine XO.do rfl (D.asn (v := .bool true) rfl rfl ?_)
         refine XO.nil ?_
         exact ⟨true, rfl, rfl, rfl, rfl, rfl, rfl, rfl, rfl, hB, H1781, bs1782, H1783, pr1782_1078, pr1078_1782, h⟩
        ·rw [if_neg c2123] at h
         refine XO.do (wantG (j := 6) (b := false) rfl ((Bool.eq_false_iff.2 c2123)) rfl) (D.mv (v := .int .i64 (rd r1072 x1784)) rfl rfl ?_)
         refine XO.do (wantG (j := 6) (b := false) rfl ((Bool.eq_false_iff.2 c2123)) rfl) (D.eql rfl rfl rfl ?_)
         refine XO.do rfl (D.pick false (v := .bool ((rd r1072 x1784) == (-3))) (congrArg Value.bool ((Bool.eq_false_iff.2 c2123))) rfl rfl ?_)
         refine XO.do rfl (D.asn (v := .bool ((rd r1072 x1784) == (-3))) rfl rfl ?_)
         refine XO.nil ?_
         exact ⟨((rd r1072 x1784) == (-3)), rfl, rfl, rfl, rfl, rfl, rfl, rfl, rfl, hB, H1781, bs1782, H1783, pr1782_1078, pr1078_1782, h⟩
       ·rw [if_neg c2116] at h
        refine XO.off (wantG0 (j := 2) (b := true) rfl (beq_eq_false_iff_ne.2 c2116) rfl) rfl rfl ?_
        refine XO.off (wantG0 (j := 2) (b := true) rfl (beq_eq_false_iff_ne.2 c2116) rfl) rfl rfl ?_
        refine XO.do rfl (D.pick false (v := .bool false) (congrArg Value.bool (beq_eq_false_iff_ne.2 c2116)) rfl rfl ?_)
        refine XO.do rfl (D.mv (v := .bool false) rfl rfl ?_)
        refine XO.do (wantG (j := 6) (b := false) rfl (rfl) rfl) (D.mv (v := .int .i64 (rd r1072 x1784)) rfl rfl ?_)
        refine XO.do (wantG (j := 6) (b := false) rfl (rfl) rfl) (D.eql rfl rfl rfl ?_)
        refine XO.do rfl (D.pick false (v := .bool ((rd r1072 x1784) == (-3))) (congrArg Value.bool (rfl)) rfl rfl ?_)
        refine XO.do rfl (D.asn (v := .bool ((rd r1072 x1784) == (-3))) rfl rfl ?_)
        refine XO.nil ?_
        exact ⟨((rd r1072 x1784) == (-3)), rfl, rfl, rfl, rfl, rfl, rfl, rfl, rfl, hB, H1781, bs1782, H1783, pr1782_1078, pr1078_1782, h⟩
      ·intro f2106 w2105 hI
       obtain ⟨x2104, s2107, s2108, s2109, s2110, s2111, s2112, s2113, s2114, hB, H2102, bs1782, H2103, pr1782_1078, pr1078_1782, h⟩ := hI
       refine X.fr (d := 1) s2107 ?_
       refine X.fr (d := 6) s2108 ?_
       refine X.fr (d := 8) s2109 ?_
       refine X.fr (d := 9) s2110 ?_
       refine X.fr (d := 11) s2111 ?_
       refine X.fr (d := 12) s2112 ?_
       refine X.fr (d := 13) s2113 ?_
       refine X.fr (d := 23) s2114 ?_
       unfold rdata_cut.j4 at h
       by_cases c2115 : x2104 = true
       ·rw [if_pos c2115] at h
        refine X.condT (congrArg Value.bool (c2115)) ?_
        refine X.region ?_
        refine XO.do rfl (D.mv (v := S x1776) rfl rfl ?_)
        refine XO.do rfl (D.lenS Try.underlying9 rfl rfl ?_)
        refine XO.do rfl (D.asn (v := .int .i64 (x1776.length : Int)) rfl rfl ?_)
        refine XO.nil ?_
        exact ⟨(x1776.length : Int), rfl, rfl, rfl, rfl, rfl, rfl, rfl, hB, H2102, bs1782, H2103, pr1782_1078, pr1078_1782, h⟩
       ·rw [if_neg c2115] at h
        refine X.condF (congrArg Value.bool ((Bool.eq_false_iff.2 c2115))) ?_
        refine X.skip ?_
        exact ⟨(rd r1072 x1784), rfl, rfl, rfl, rfl, rfl, rfl, rfl, hB, H2102, bs1782, H2103, pr1782_1078, pr1078_1782, h⟩
    ·intro f2016 w2015 hI
     obtain ⟨x2013, s2017, s2018, s2019, s2020, s2021, s2022, s2023, hB, H2012, bs1782, H2014, pr1782_1078, pr1078_1782, h⟩ := hI
     refine X.fr (d := 1) s2017 ?_
     refine X.fr (d := 6) s2018 ?_
     refine X.fr (d := 8) s2019 ?_
     refine X.fr (d := 9) s2020 ?_
     refine X.fr (d := 11) s2021 ?_
     refine X.fr (d := 12) s2022 ?_
     refine X.fr (d := 13) s2023 ?_
     unfold rdata_cut.j2 at h
     refine X.seq fun M2045 hM2046 => ?_
     refine X.cut (fun f2054 w2053 => ∃ x2052 : Bool, f2054 1 = S x1776 ∧ f2054 6 = .slice A1777 l1779.length k1778 ∧ f2054 9 = .int .i64 x2013 ∧ f2054 11 = .slice A1074 r1072.length k1075 ∧ f2054 12 = .int .i64 (r1072.length : Int) ∧ f2054 13 = .int .i64 x1784 ∧ f2054 51 = .bool x2052 ∧ Below w.heap.size w w2053 ∧ Own eStr 9 w2053 B1780 A1777 k1778 l1779 ∧ B1780 ≤ w2053.heap.size ∧ Row (eInt .i64) w2053 A1074 k1075 r1072 ∧ (∀ x y, MO A1777 x → MR A1074 r1072 y → x ≠ y) ∧ (∀ x, MR A1074 r1072 x → x < B1780) ∧ rdata_cut.j3 x2013 x1776 l1779 (rdata_cut.l1 r1072 kf1775) x1784 x2052 = some res) ?_ ?_
     ·refine X.region ?_
      refine XO.do rfl (D.mv (v := .int .i64 x2013) rfl rfl ?_)
      refine XO.do rfl (D.lss rfl rfl rfl ?_)
      refine XO.do rfl (D.mv (v := .bool (decide (x2013 < 0))) rfl rfl ?_)
      by_cases c2082 : x2013 < 0
      ·rw [if_pos c2082] at h
       refine XO.off (wantG0 (j := 2) (b := false) rfl (decide_eq_true c2082) rfl) rfl rfl ?_
       refine XO.off (wantG0 (j := 2) (b := false) rfl (decide_eq_true c2082) rfl) rfl rfl ?_
       refine XO.off (wantG0 (j := 2) (b := false) rfl (decide_eq_true c2082) rfl) rfl rfl ?_
       refine XO.off (wantG0 (j := 2) (b := false) rfl (decide_eq_true c2082) rfl) rfl rfl ?_
       refine XO.do rfl (D.pick true (v := .bool true) (congrArg Value.bool (decide_eq_true c2082)) rfl rfl ?_)
       refine XO.do rfl (D.mv (v := .bool true) rfl rfl ?_)
       refine XO.off (wantG0 (j := 8) (b := false) rfl (rfl) rfl) rfl rfl ?_
       refine XO.off (wantG0 (j := 8) (b := false) rfl (rfl) rfl) rfl rfl ?_
       refine XO.off (wantG0 (j := 8) (b := false) rfl (rfl) rfl) rfl rfl ?_
       refine XO.off (wantU (j := 11) (b := true) rfl rfl) rfl rfl ?_
       refine XO.off (wantU (j := 11) (b := true) rfl rfl) rfl rfl ?_
       refine XO.off (wantG0 (j := 8) (b := false) rfl (rfl) rfl) rfl rfl ?_
       refine XO.do rfl (D.pick true (v := .bool true) (congrArg Value.bool (rfl)) rfl rfl ?_)
       refine XO.nil ?_
       exact ⟨true, rfl, rfl, rfl, rfl, rfl, rfl, rfl, hB, H2012, bs1782, H2014, pr1782_1078, pr1078_1782, h⟩
      ·rw [if_neg c2082] at h
       refine XO.do (wantG (j := 2) (b := false) rfl (decide_eq_false c2082) rfl) (D.mv (v := .int .i64 x2013) rfl rfl ?_)
       refine XO.do (wantG (j := 2) (b := false) rfl (decide_eq_false c2082) rfl) (D.mv (v := S x1776) rfl rfl ?_)
       refine XO.do (wantG (j := 2) (b := false) rfl (decide_eq_false c2082) rfl) (D.lenS Try.underlying9 rfl rfl ?_)
       refine XO.do (wantG (j := 2) (b := false) rfl (decide_eq_false c2082) rfl) (D.gtr rfl rfl rfl ?_)
       refine XO.do rfl (D.pick false (v := .bool (decide ((x1776.length : Int) < x2013))) (congrArg Value.bool (decide_eq_false c2082)) rfl rfl ?_)
       refine XO.do rfl (D.mv (v := .bool (decide ((x1776.length : Int) < x2013))) rfl rfl ?_)
       by_cases c2083 : (x1776.length : Int) < x2013
       ·rw [if_pos c2083] at h
        refine XO.off (wantG0 (j := 8) (b := false) rfl (decide_eq_true c2083) rfl) rfl rfl ?_
        refine XO.off (wantG0 (j := 8) (b := false) rfl (decide_eq_true c2083) rfl) rfl rfl ?_
        refine XO.off (wantG0 (j := 8) (b := false) rfl (decide_eq_true c2083) rfl) rfl rfl ?_
        refine XO.off (wantU (j := 11) (b := true) rfl rfl) rfl rfl ?_
        refine XO.off (wantU (j := 11) (b := true) rfl rfl) rfl rfl ?_
        refine XO.off (wantG0 (j := 8) (b := false) rfl (decide_eq_true c2083) rfl) rfl rfl ?_
        refine XO.do rfl (D.pick true (v := .bool true) (congrArg Value.bool (decide_eq_true c2083)) rfl rfl ?_)
        refine XO.nil ?_
        exact ⟨true, rfl, rfl, rfl, rfl, rfl, rfl, rfl, hB, H2012, bs1782, H2014, pr1782_1078, pr1078_1782, h⟩
       ·rw [if_neg c2083] at h
        refine XO.do (wantG (j := 8) (b := false) rfl (decide_eq_false c2083) rfl) (D.mv (v := .int .i64 (rd r1072 x1784)) rfl rfl ?_)
        refine XO.do (wantG (j := 8) (b := false) rfl (decide_eq_false c2083) rfl) (D.eql rfl rfl rfl ?_)
        refine XO.do (wantG (j := 8) (b := false) rfl (decide_eq_false c2083) rfl) (D.mv (v := .bool ((rd r1072 x1784) == (-1))) rfl rfl ?_)
        by_cases c2084 : (rd r1072 x1784) = (-1)
        ·rw [if_pos c2084] at h
         refine XO.do (wantG (j := 11) (b := true) rfl (beq_iff_eq.2 c2084) rfl) (D.mv (v := .int .i64 x2013) rfl rfl ?_)
         refine XO.do (wantG (j := 11) (b := true) rfl (beq_iff_eq.2 c2084) rfl) (D.eql rfl rfl rfl ?_)
         refine XO.do (wantG (j := 8) (b := false) rfl (decide_eq_false c2083) rfl) (D.pick true (v := .bool (x2013 == 0)) (congrArg Value.bool (beq_iff_eq.2 c2084)) rfl rfl ?_)
         refine XO.do rfl (D.pick false (v := .bool (x2013 == 0)) (congrArg Value.bool (decide_eq_false c2083)) rfl rfl ?_)
         refine XO.nil ?_
         exact ⟨(x2013 == 0), rfl, rfl, rfl, rfl, rfl, rfl, rfl, hB, H2012, bs1782, H2014, pr1782_1078, pr1078_1782, h⟩
        ·rw [if_neg c2084] at h
         refine XO.off (wantG0 (j := 11) (b := true) rfl (beq_eq_false_iff_ne.2 c2084) rfl) rfl rfl ?_
         refine XO.off (wantG0 (j := 11) (b := true) rfl (beq_eq_false_iff_ne.2 c2084) rfl) rfl rfl ?_
         refine XO.do (wantG (j := 8) (b := false) rfl (decide_eq_false c2083) rfl) (D.pick false (v := .bool false) (congrArg Value.bool (beq_eq_false_iff_ne.2 c2084)) rfl rfl ?_)
         refine XO.do rfl (D.pick false (v := .bool false) (congrArg Value.bool (decide_eq_false c2083)) rfl rfl ?_)
         refine XO.nil ?_
         exact ⟨false, rfl, rfl, rfl, rfl, rfl, rfl, rfl, hB, H2012, bs1782, H2014, pr1782_1078, pr1078_1782, h⟩
     ·intro f2054 w2053 hI
      obtain ⟨x2052, s2055, s2056, s2057, s2058, s2059, s2060, s2061, hB, H2050, bs1782, H2051, pr1782_1078, pr1078_1782, h⟩ := hI
      refine X.fr (d := 1) s2055 ?_
      refine X.fr (d := 6) s2056 ?_
      refine X.fr (d := 9) s2057 ?_
      refine X.fr (d := 11) s2058 ?_
      refine X.fr (d := 12) s2059 ?_
      refine X.fr (d := 13) s2060 ?_
      refine X.fr (d := 51) s2061 ?_
      unfold rdata_cut.j3 at h
      by_cases c2062 : x2052 = true
      ·rw [if_pos c2062] at h
       refine X.condT (congrArg Value.bool (c2062)) ?_
       refine X.seq fun M2063 hM2064 => ?_
       refine X.region ?_
       refine XO.do rfl (D.asn (v := .slice none 0 0) rfl rfl ?_)
       refine XO.do rfl (D.asn (v := .bool false) rfl rfl ?_)
       refine XO.nil ?_
       refine hM2064 _ _ ?_
       refine X.ret ?_
       injection h with h
       subst h
       exact hR _ _ _ (ret2 (v := .slice none 0 0) (v' := .bool false) rfl rfl rfl) ⟨none, 0, rfl, (Row.nil _ _ none 0 (by decide)), (fun y hy => by simp [blkOf] at hy), ext_of_below hB⟩
      ·rw [if_neg c2062] at h
       refine X.condF (congrArg Value.bool ((Bool.eq_false_iff.2 c2062))) ?_
       refine X.skip ?_
       refine hM2046 _ _ ?_
       refine X.seq fun M2065 hM2066 => ?_
       refine X.region ?_
       refine XO.do rfl (D.mv (v := .slice A1777 l1779.length k1778) rfl rfl ?_)
       refine XO.do rfl (D.mv (v := S x1776) rfl rfl ?_)
       refine XO.do rfl (D.mv (v := .int .i64 x2013) rfl rfl ?_)
       rcases (Classical.em (0 ≤ x2013)).symm with c2067 | c2067
       ·rw [if_neg c2067] at h; cases h
       rw [if_pos c2067] at h
       rcases (Classical.em (x2013 ≤ (x1776.length : Int))).symm with c2068 | c2068
       ·rw [if_neg c2068] at h; cases h
       rw [if_pos c2068] at h
       refine XO.do rfl (D.sliceShi (j := x2013) Try.underlying9 rfl rfl c2067 c2068 rfl ?_)
       refine XO.do rfl (D.buildR (vs := [S (x1776.take x2013.toNat)]) (cs := [S (x1776.take x2013.toNat)]) Try.underlying94 ti9 rfl rfl rfl rfl rfl rfl rfl ?_)
       intro b2069 w2070 hb2071 H2072 e2073 zb2069
       have H2072o : Own eStr 9 w2070 b2069 (some ⟨b2069, 0, none⟩) 1 ([x1776.take x2013.toNat] : List Str) := Blk.own (E := eStr) (show Blk _ _ (flat eStr [x1776.take x2013.toNat]) _ from H2072) (Nat.le_refl _) (by simp)
       have ne_1782_2074 : ∀ x y, MO A1777 x → MO (some ⟨b2069, 0, none⟩) y → x ≠ y := ne_of (MO.lt H2050 (Nat.le_of_eq hb2071.symm)) (MO.ge H2072o)
       have lt_1078_2074 : ∀ x, MR A1074 r1072 x → x < b2069 := (MR.lt H2051 (Nat.le_of_eq hb2071.symm))
       have g2074 : w.heap.size ≤ b2069 := Nat.le_trans hB.size (Nat.le_of_eq hb2071.symm)
       clear hb2071 H2072
       have bs2074 : b2069 ≤ w2070.heap.size := Nat.le_of_lt zb2069
       replace hB := below_ext hB e2073
       replace H2050 := H2050.ext e2073
       replace bs1782 := Nat.le_trans bs1782 (World.grownBy.size e2073)
       replace H2051 := H2051.ext e2073
       clear e2073
       rcases (Classical.em ((l1779.length + 1) * 16 ≤ 140737488355328)).symm with c2075 | c2075
       ·rw [if_neg c2075] at h; cases h
       rw [if_pos c2075] at h
       refine XO.do rfl (D.append (xs := l1779) (ys := [x1776.take x2013.toNat]) (m := 1) Try.underlying94 ti9 rfl H2050 H2072o.row bs1782 (by first | omega | (simp at *; omega)) (by first | exact c2075 | omega | (simp at *; omega)) rfl rfl rfl rfl ?_)
       intro A2076 k2077 w2078 H2079 e2080 ha2081
       have pr1782_1078n := ne_app ha2081 pr1782_1078 (MR.lt H2051 (Nat.le_refl _))
       have ne_1782_2074n := ne_app ha2081 ne_1782_2074 (MO.lt H2072o (Nat.le_refl _))
       replace hB := below_own hB e2080 (fun x hx => Nat.le_trans hg1782 (MO.ge H2050 x hx))
       replace H2051 := H2051.gr e2080 (sepO (ne_of pr1078_1782 (MO.ge H2050)))
       replace H2072o := H2072o.gr e2080 (sepO (ne_flip ne_1782_2074))
       replace bs2074 := Nat.le_trans bs2074 (World.grownBy.size e2080)
       replace bs1782 := Nat.le_trans bs1782 (World.grownBy.size e2080)
       replace pr1782_1078 := pr1782_1078n
       replace ne_1782_2074 := ne_1782_2074n
       clear e2080 ha2081 H2050
       refine XO.do rfl (D.asn (v := .slice A2076 (l1779 ++ [x1776.take x2013.toNat]).length k2077) rfl rfl ?_)
       refine XO.nil ?_
       refine hM2066 _ _ ?_
       refine X.region ?_
       refine XO.do rfl (D.mv (v := S x1776) rfl rfl ?_)
       refine XO.do rfl (D.mv (v := .int .i64 x2013) rfl rfl ?_)
       refine XO.do rfl (D.sliceSlo (i := x2013) Try.underlying9 rfl rfl c2067 c2068 rfl ?_)
       refine XO.do rfl (D.asn (v := S (x1776.drop x2013.toNat)) rfl rfl ?_)
       refine XO.nil ?_
       refine hM1963 _ _ ?_
       refine X.region ?_
       refine XO.do rfl (D.add rfl rfl rfl ?_)
       refine XO.do rfl (D.mv (v := .int .i64 (w64 (x1784 + 1))) rfl rfl ?_)
       refine XO.nil ?_
       exact ⟨kf1775, Nat.lt_succ_self _, x1776.drop x2013.toNat, A2076, k2077, l1779 ++ [x1776.take x2013.toNat], B1780, w64 (x1784 + 1), rfl, rfl, rfl, rfl, rfl, hB, H2079, bs1782, hg1782, H2051, pr1782_1078, pr1078_1782, h⟩
   ·rw [if_neg c1801] at h
    refine X.condF (congrArg Value.bool (decide_eq_false c1801)) ?_
    refine X.exit rfl ?_
    refine hM1066 _ _ ?_
    refine X.seq fun M2124 hM2125 => ?_
    refine X.region ?_
    refine XO.do rfl (D.mv (v := .slice A1777 l1779.length k1778) rfl rfl ?_)
    refine XO.do rfl (D.mv (v := S x1776) rfl rfl ?_)
    refine XO.do rfl (D.eqlS rfl rfl rfl ?_)
    refine XO.do rfl (D.asn (v := .slice A1777 l1779.length k1778) rfl rfl ?_)
    refine XO.do rfl (D.asn (v := .bool (x1776 == ([] : Str))) rfl rfl ?_)
    refine XO.nil ?_
    refine hM2125 _ _ ?_
    refine X.ret ?_
    injection h with h
    subst h
    exact hR _ _ _ (ret2 (v := .slice A1777 l1779.length k1778) (v' := .bool (x1776 == ([] : Str))) rfl rfl rfl) ⟨A1777, k1778, rfl, H1781.row, (fun y hy => Nat.le_trans hg1782 (MO.ge H1781 y hy)), ext_of_below hB⟩
theorem rdata_cut.ok (a1 : Int) (a2 : Str)  (w : World)  (hp : rdata_cut.pre a1 a2) :
  Ret Try.prog 55 ([.int .u16 a1, S a2] : List Value).toArray w fun v w' => ∃ (A1 : Option Addr) (k1 : Nat), v = .tuple #[.slice A1 ((rdata_cut a1 a2).1).length k1, .bool ((rdata_cut a1 a2).2)] ∧ Row eStr w' A1 k1 ((rdata_cut a1 a2).1) ∧ (∀ y, blkOf A1 = some y → w.heap.size ≤ y) ∧ Ext w w' := by
 obtain ⟨kf, h⟩ := rdata_cut.eq a1 a2 hp
 exact rdata_cut.walk kf a1 a2  w  _ h
end Go.Proofs.Ytfcaekghpkpjdaa.K

/- Walks, printed by a program of this session. -/
namespace Go.Proofs.Ytfcaekghpkpjdaa.K
open Go Go.RowKit Go.Proofs
set_option linter.unusedVariables false
set_option maxRecDepth 100000
set_option maxHeartbeats 4000000
namespace FC3
theorem cf55 : Callable Try.prog 55 := callable Try.func55 (by kernel_rfl) rfl
end FC3
open FC3
theorem rdata_May.walk (a1 : Int) (a2 : Str)  (w : World)  (res : Bool) (h : rdata_May.f a1 a2 = some res) :
  Ret Try.prog 28 ([.int .u16 a1, S a2] : List Value).toArray w fun v w' => v = .bool res ∧ Ext w w' := by
 unfold rdata_May.f at h
 refine enterX Try.func28 rfl Try.ntmps28 rfl (fun R hR => ?_)
 have hB := Below.refl w.heap.size w
 refine X.seq fun M3 hM4 => ?_
 refine X.region ?_
 refine XO.do rfl (D.asn (v := .bool false) rfl rfl ?_)
 refine XO.nil ?_
 refine hM4 _ _ ?_
 refine X.seq fun M5 hM6 => ?_
 refine X.region ?_
 refine XO.do rfl (D.mv (v := .int .u16 a1) rfl rfl ?_)
 refine XO.do rfl (D.mv (v := S a2) rfl rfl ?_)
 rcases (Classical.em (rdata_cut.pre a1 a2)).symm with c7 | c7
 ·rw [if_neg c7] at h; cases h
 rw [if_pos c7] at h
 obtain ⟨r11, q12, h⟩ := lt_elim h
 have hc10 := rdata_cut.ok a1 a2 w c7 
 rw [q12] at hc10
 clear q12
 refine XO.do rfl (D.call (vs := [.int .u16 a1, S a2]) cf55 hc10 rfl rfl ?_)
 rintro _ w8 ⟨A13, k14, rfl, H15, g16, e9⟩
 clear hc10
 have z17 : ∀ y, blkOf A13 = some y → w.heap.size ≤ y := fun y hy => Nat.le_trans hB.size (g16 y hy)
 replace hB := below_ext hB e9
 clear e9
 refine XO.do rfl (D.mv (v := .tuple #[.slice A13 r11.1.length k14, .bool r11.2]) rfl rfl ?_)
 refine XO.do rfl (D.extract (v := .slice A13 r11.1.length k14) rfl rfl rfl ?_)
 refine XO.do rfl (D.extract (v := .bool r11.2) rfl rfl rfl ?_)
 refine XO.do rfl (D.asn (v := .slice A13 r11.1.length k14) rfl rfl ?_)
 refine XO.do rfl (D.asn (v := .bool r11.2) rfl rfl ?_)
 refine XO.nil ?_
 refine hM6 _ _ ?_
 refine X.seq fun M18 hM19 => ?_
 refine X.region ?_
 refine XO.do rfl (D.mv (v := .bool r11.2) rfl rfl ?_)
 refine XO.do rfl (D.mv (v := .bool r11.2) rfl rfl ?_)
 by_cases c20 : r11.2 = true
 ·rw [if_pos c20] at h
  refine XO.do (wantG (j := 1) (b := true) rfl (c20) rfl) (D.mv (v := S a2) rfl rfl ?_)
  refine XO.do (wantG (j := 1) (b := true) rfl (c20) rfl) (D.lenS Try.underlying9 rfl rfl ?_)
  refine XO.do (wantG (j := 1) (b := true) rfl (c20) rfl) (D.leq rfl rfl rfl ?_)
  refine XO.do rfl (D.pick true (v := .bool (decide ((a2.length : Int) ≤ 65535))) (congrArg Value.bool (c20)) rfl rfl ?_)
  refine XO.do rfl (D.asn (v := .bool (decide ((a2.length : Int) ≤ 65535))) rfl rfl ?_)
  refine XO.nil ?_
  refine hM19 _ _ ?_
  refine X.ret ?_
  injection h with h
  subst h
  exact hR _ _ _ (ret1 (v := .bool (decide ((a2.length : Int) ≤ 65535))) rfl rfl) ⟨rfl, ext_of_below hB⟩
 ·rw [if_neg c20] at h
  refine XO.off (wantG0 (j := 1) (b := true) rfl ((Bool.eq_false_iff.2 c20)) rfl) rfl rfl ?_
  refine XO.off (wantG0 (j := 1) (b := true) rfl ((Bool.eq_false_iff.2 c20)) rfl) rfl rfl ?_
  refine XO.off (wantG0 (j := 1) (b := true) rfl ((Bool.eq_false_iff.2 c20)) rfl) rfl rfl ?_
  refine XO.do rfl (D.pick false (v := .bool false) (congrArg Value.bool ((Bool.eq_false_iff.2 c20))) rfl rfl ?_)
  refine XO.do rfl (D.asn (v := .bool false) rfl rfl ?_)
  refine XO.nil ?_
  refine hM19 _ _ ?_
  refine X.ret ?_
  injection h with h
  subst h
  exact hR _ _ _ (ret1 (v := .bool false) rfl rfl) ⟨rfl, ext_of_below hB⟩
theorem rdata_May.ok (a1 : Int) (a2 : Str)  (w : World)  (hp : rdata_May.pre a1 a2) :
  Ret Try.prog 28 ([.int .u16 a1, S a2] : List Value).toArray w fun v w' => v = .bool (rdata_May a1 a2) ∧ Ext w w' := by
 have h := rdata_May.eq a1 a2 hp
 exact rdata_May.walk  a1 a2  w  _ h
end Go.Proofs.Ytfcaekghpkpjdaa.K

/- Walks, printed by a program of this session. -/
namespace Go.Proofs.Ytfcaekghpkpjdaa.K
open Go Go.RowKit Go.Proofs
set_option linter.unusedVariables false
set_option maxRecDepth 100000
set_option maxHeartbeats 4000000
namespace FE1
theorem ti25 : TI Try.prog 25 (.agg #[S [], .int .u16 0, .int .u16 0, .int .u32 0, S []]) 5 40 := by unfold TI; kernel_rfl
theorem ag25 : Agg Try.prog 25 5 := agg Try.underlying25 rfl ti25
theorem ti30 : TI Try.prog 30 (.agg #[S [], .int .u16 0, .int .u16 0]) 3 24 := by unfold TI; kernel_rfl
theorem ag30 : Agg Try.prog 30 3 := agg Try.underlying30 rfl ti30
theorem ti9 : TI Try.prog 9 (S []) 1 16 := by unfold TI; kernel_rfl
theorem ti22 : TI Try.prog 22 (.int .u16 0) 1 2 := by unfold TI; kernel_rfl
theorem bld30 : BuildIs Try.prog 30 #[(0, 1), (1, 1), (2, 1)] (Value.cells (.agg #[S [], .int .u16 0, .int .u16 0])) := buildIs Try.underlying30 ti30 (fun w => by simp [ti22.size, ti9.size])
theorem cf27 : Callable Try.prog 27 := callable Try.func27 (by kernel_rfl) rfl
theorem cf28 : Callable Try.prog 28 := callable Try.func28 (by kernel_rfl) rfl
theorem fa25_0 : FA Try.prog 25 0 0 := fa Try.underlying25 rfl ti9 rfl rfl
theorem fa25_1 : FA Try.prog 25 1 1 := fa Try.underlying25 rfl ti22 rfl rfl
theorem fa25_2 : FA Try.prog 25 2 2 := fa Try.underlying25 rfl ti22 rfl rfl
theorem ti23 : TI Try.prog 23 (.int .u32 0) 1 4 := by unfold TI; kernel_rfl
theorem fa25_3 : FA Try.prog 25 3 3 := fa Try.underlying25 rfl ti23 rfl rfl
theorem fa25_4 : FA Try.prog 25 4 4 := fa Try.underlying25 rfl ti9 rfl rfl
theorem fa30_0 : FA Try.prog 30 0 0 := fa Try.underlying30 rfl ti9 rfl rfl
theorem sc22 : Sca Try.prog 22 := sca Try.underlying22 rfl
theorem sc23 : Sca Try.prog 23 := sca Try.underlying23 rfl
theorem sc9 : Sca Try.prog 9 := sca Try.underlying9 rfl
theorem sz23 : ∀ w, (sizeOf 23).run Try.prog w = .ok 1 w := fun w => ti23.size w
theorem sz30 : ∀ w, (sizeOf 30).run Try.prog w = .ok 3 w := fun w => ti30.size w
end FE1
open FE1
theorem record_May.walk (a1 : RR)  (w : World)  (res : Bool) (h : record_May.f a1 = some res) :
  Ret Try.prog 11 ([.agg #[S a1.name, .int .u16 a1.ty, .int .u16 a1.cls, .int .u32 a1.ttl, S a1.data]] : List Value).toArray w fun v w' => v = .bool res ∧ Ext w w' := by
 unfold record_May.f at h
 refine enterX Try.func11 rfl Try.ntmps11 rfl (fun R hR => ?_)
 have hB := Below.refl w.heap.size w
 refine X.seq fun M2 hM3 => ?_
 refine X.region ?_
 refine XO.do rfl (D.box (v := .agg #[S a1.name, .int .u16 a1.ty, .int .u16 a1.cls, .int .u32 a1.ttl, S a1.data]) (cs := [S a1.name, .int .u16 a1.ty, .int .u16 a1.cls, .int .u32 a1.ttl, S a1.data]) rfl rfl rfl ?_)
 intro b4 w5 hb6 H7 e8 _
 have g9 : w.heap.size ≤ b4 := Nat.le_trans hB.size (Nat.le_of_eq hb6.symm)
 clear hb6
 replace hB := below_ext hB e8
 clear e8
 refine XO.do rfl (D.asn (v := .bool false) rfl rfl ?_)
 refine XO.nil ?_
 refine hM3 _ _ ?_
 refine X.seq fun M10 hM11 => ?_
 refine X.region ?_
 refine XO.do rfl (D.fieldAddr (o' := 0) fa25_0 rfl rfl rfl ?_)
 refine XO.do rfl (D.load (j := 0) (v := S a1.name) sc9 H7.cs rfl rfl rfl rfl ?_)
 rcases (Classical.em (name_May.pre a1.name)).symm with c12 | c12
 ·rw [if_neg c12] at h; cases h
 rw [if_pos c12] at h
 obtain ⟨r16, q17, h⟩ := lt_elim h
 have hc15 := name_May.ok a1.name w5 c12 
 rw [q17] at hc15
 clear q17
 refine XO.do rfl (D.call (vs := [S a1.name]) cf27 hc15 rfl rfl ?_)
 rintro _ w13 ⟨rfl, e14⟩
 clear hc15
 replace hB := below_ext hB e14
 replace H7 := H7.ext e14
 clear e14
 refine XO.do rfl (D.mv (v := .bool r16) rfl rfl ?_)
 by_cases c18 : r16 = true
 ·rw [if_pos c18] at h
  refine XO.do (wantG (j := 3) (b := true) rfl (c18) rfl) (D.fieldAddr (o' := 1) fa25_1 rfl rfl rfl ?_)
  refine XO.do (wantG (j := 3) (b := true) rfl (c18) rfl) (D.load (j := 1) (v := .int .u16 a1.ty) sc22 H7.cs rfl rfl rfl rfl ?_)
  refine XO.do (wantG (j := 3) (b := true) rfl (c18) rfl) (D.fieldAddr (o' := 4) fa25_4 rfl rfl rfl ?_)
  refine XO.do (wantG (j := 3) (b := true) rfl (c18) rfl) (D.load (j := 4) (v := S a1.data) sc9 H7.cs rfl rfl rfl rfl ?_)
  rcases (Classical.em (rdata_May.pre a1.ty a1.data)).symm with c19 | c19
  ·rw [if_neg c19] at h; cases h
  rw [if_pos c19] at h
  obtain ⟨r23, q24, h⟩ := lt_elim h
  have hc22 := rdata_May.ok a1.ty a1.data w13 c19 
  rw [q24] at hc22
  clear q24
  refine XO.do (wantG (j := 3) (b := true) rfl (c18) rfl) (D.call (vs := [.int .u16 a1.ty, S a1.data]) cf28 hc22 rfl rfl ?_)
  rintro _ w20 ⟨rfl, e21⟩
  clear hc22
  replace hB := below_ext hB e21
  replace H7 := H7.ext e21
  clear e21
  refine XO.do rfl (D.pick true (v := .bool r23) (congrArg Value.bool (c18)) rfl rfl ?_)
  refine XO.do rfl (D.asn (v := .bool r23) rfl rfl ?_)
  refine XO.nil ?_
  refine hM11 _ _ ?_
  refine X.ret ?_
  injection h with h
  subst h
  exact hR _ _ _ (ret1 (v := .bool r23) rfl rfl) ⟨rfl, ext_of_below hB⟩
 ·rw [if_neg c18] at h
  refine XO.off (wantG0 (j := 3) (b := true) rfl ((Bool.eq_false_iff.2 c18)) rfl) rfl rfl ?_
  refine XO.off (wantG0 (j := 3) (b := true) rfl ((Bool.eq_false_iff.2 c18)) rfl) rfl rfl ?_
  refine XO.off (wantG0 (j := 3) (b := true) rfl ((Bool.eq_false_iff.2 c18)) rfl) rfl rfl ?_
  refine XO.off (wantG0 (j := 3) (b := true) rfl ((Bool.eq_false_iff.2 c18)) rfl) rfl rfl ?_
  refine XO.off (wantG0 (j := 3) (b := true) rfl ((Bool.eq_false_iff.2 c18)) rfl) rfl rfl ?_
  refine XO.do rfl (D.pick false (v := .bool false) (congrArg Value.bool ((Bool.eq_false_iff.2 c18))) rfl rfl ?_)
  refine XO.do rfl (D.asn (v := .bool false) rfl rfl ?_)
  refine XO.nil ?_
  refine hM11 _ _ ?_
  refine X.ret ?_
  injection h with h
  subst h
  exact hR _ _ _ (ret1 (v := .bool false) rfl rfl) ⟨rfl, ext_of_below hB⟩
theorem record_May.ok (a1 : RR)  (w : World)  (hp : record_May.pre a1) :
  Ret Try.prog 11 ([.agg #[S a1.name, .int .u16 a1.ty, .int .u16 a1.cls, .int .u32 a1.ttl, S a1.data]] : List Value).toArray w fun v w' => v = .bool (record_May a1) ∧ Ext w w' := by
 have h := record_May.eq a1 hp
 exact record_May.walk  a1  w  _ h
theorem record_MayQ.walk (a1 : Question)  (w : World)  (res : Bool) (h : record_MayQ.f a1 = some res) :
  Ret Try.prog 23 ([.agg #[S a1.name, .int .u16 a1.ty, .int .u16 a1.cls]] : List Value).toArray w fun v w' => v = .bool res ∧ Ext w w' := by
 unfold record_MayQ.f at h
 refine enterX Try.func23 rfl Try.ntmps23 rfl (fun R hR => ?_)
 have hB := Below.refl w.heap.size w
 refine X.seq fun M2 hM3 => ?_
 refine X.region ?_
 refine XO.do rfl (D.box (v := .agg #[S a1.name, .int .u16 a1.ty, .int .u16 a1.cls]) (cs := [S a1.name, .int .u16 a1.ty, .int .u16 a1.cls]) rfl rfl rfl ?_)
 intro b4 w5 hb6 H7 e8 _
 have g9 : w.heap.size ≤ b4 := Nat.le_trans hB.size (Nat.le_of_eq hb6.symm)
 clear hb6
 replace hB := below_ext hB e8
 clear e8
 refine XO.do rfl (D.asn (v := .bool false) rfl rfl ?_)
 refine XO.nil ?_
 refine hM3 _ _ ?_
 refine X.seq fun M10 hM11 => ?_
 refine X.region ?_
 refine XO.do rfl (D.fieldAddr (o' := 0) fa30_0 rfl rfl rfl ?_)
 refine XO.do rfl (D.load (j := 0) (v := S a1.name) sc9 H7.cs rfl rfl rfl rfl ?_)
 rcases (Classical.em (name_May.pre a1.name)).symm with c12 | c12
 ·rw [if_neg c12] at h; cases h
 rw [if_pos c12] at h
 obtain ⟨r16, q17, h⟩ := lt_elim h
 have hc15 := name_May.ok a1.name w5 c12 
 rw [q17] at hc15
 clear q17
 refine XO.do rfl (D.call (vs := [S a1.name]) cf27 hc15 rfl rfl ?_)
 rintro _ w13 ⟨rfl, e14⟩
 clear hc15
 replace hB := below_ext hB e14
 replace H7 := H7.ext e14
 clear e14
 refine XO.do rfl (D.asn (v := .bool r16) rfl rfl ?_)
 refine XO.nil ?_
 refine hM11 _ _ ?_
 refine X.ret ?_
 injection h with h
 subst h
 exact hR _ _ _ (ret1 (v := .bool r16) rfl rfl) ⟨rfl, ext_of_below hB⟩
theorem record_MayQ.ok (a1 : Question)  (w : World)  (hp : record_MayQ.pre a1) :
  Ret Try.prog 23 ([.agg #[S a1.name, .int .u16 a1.ty, .int .u16 a1.cls]] : List Value).toArray w fun v w' => v = .bool (record_MayQ a1) ∧ Ext w w' := by
 have h := record_MayQ.eq a1 hp
 exact record_MayQ.walk  a1  w  _ h
theorem record_Key.walk (a1 : RR)  (w : World)  (res : Question) (h : record_Key a1 = res) :
  Ret Try.prog 10 ([.agg #[S a1.name, .int .u16 a1.ty, .int .u16 a1.cls, .int .u32 a1.ttl, S a1.data]] : List Value).toArray w fun v w' => v = .agg #[S res.name, .int .u16 res.ty, .int .u16 res.cls] ∧ Ext w w' := by
 unfold record_Key at h
 refine enterX Try.func10 rfl Try.ntmps10 rfl (fun R hR => ?_)
 have hB := Below.refl w.heap.size w
 refine X.seq fun M2 hM3 => ?_
 refine X.region ?_
 refine XO.do rfl (D.box (v := .agg #[S a1.name, .int .u16 a1.ty, .int .u16 a1.cls, .int .u32 a1.ttl, S a1.data]) (cs := [S a1.name, .int .u16 a1.ty, .int .u16 a1.cls, .int .u32 a1.ttl, S a1.data]) rfl rfl rfl ?_)
 intro b4 w5 hb6 H7 e8 _
 have g9 : w.heap.size ≤ b4 := Nat.le_trans hB.size (Nat.le_of_eq hb6.symm)
 clear hb6
 replace hB := below_ext hB e8
 clear e8
 refine XO.do rfl (D.alloc ti30 (cs := [S [], .int .u16 0, .int .u16 0]) rfl rfl ?_)
 intro b10 w11 hb12 H13 e14 _
 have lt_9_15 : ∀ x, MB b4 x → x < b10 := (MB.lt H7 (Nat.le_of_eq hb12.symm))
 have g15 : w.heap.size ≤ b10 := Nat.le_trans hB.size (Nat.le_of_eq hb12.symm)
 clear hb12
 replace hB := below_ext hB e14
 replace H7 := H7.ext e14
 clear e14
 refine XO.nil ?_
 refine hM3 _ _ ?_
 refine X.seq fun M16 hM17 => ?_
 refine X.region ?_
 refine XO.do rfl (D.fieldAddr (o' := 0) fa25_0 rfl rfl rfl ?_)
 refine XO.do rfl (D.load (j := 0) (v := S a1.name) sc9 H7.cs rfl rfl rfl rfl ?_)
 refine XO.do rfl (D.fieldAddr (o' := 1) fa25_1 rfl rfl rfl ?_)
 refine XO.do rfl (D.load (j := 1) (v := .int .u16 a1.ty) sc22 H7.cs rfl rfl rfl rfl ?_)
 refine XO.do rfl (D.fieldAddr (o' := 2) fa25_2 rfl rfl rfl ?_)
 refine XO.do rfl (D.load (j := 2) (v := .int .u16 a1.cls) sc22 H7.cs rfl rfl rfl rfl ?_)
 refine XO.do rfl (D.build (vs := [(0, S a1.name), (1, .int .u16 a1.ty), (2, .int .u16 a1.cls)]) (cs := [S a1.name, .int .u16 a1.ty, .int .u16 a1.cls]) bld30 rfl rfl rfl ?_)
 refine XO.do rfl (D.store (v := .agg #[S a1.name, .int .u16 a1.ty, .int .u16 a1.cls]) (us := [S a1.name, .int .u16 a1.ty, .int .u16 a1.cls]) sz30 H13 rfl rfl rfl rfl rfl rfl ?_)
 intro w18 H19 e20
 replace hB := below_blk hB e20 g15
 replace H7 := H7.gr e20 (sepB (ne_of lt_9_15 (MB.ge b10)))
 clear e20
 refine XO.nil ?_
 refine hM17 _ _ ?_
 refine X.ret ?_
 subst h
 exact hR _ _ _ (retC ag30 H19 rfl rfl rfl) ⟨rfl, ext_of_below hB⟩
theorem record_Key.ok (a1 : RR)  (w : World)  :
  Ret Try.prog 10 ([.agg #[S a1.name, .int .u16 a1.ty, .int .u16 a1.cls, .int .u32 a1.ttl, S a1.data]] : List Value).toArray w fun v w' => v = .agg #[S ((record_Key a1).name), .int .u16 ((record_Key a1).ty), .int .u16 ((record_Key a1).cls)] ∧ Ext w w' := record_Key.walk a1  w  _ rfl
theorem record_Same.walk (a1 : RR) (a2 : RR)  (w : World)  (res : Bool) (h : record_Same a1 a2 = res) :
  Ret Try.prog 9 ([.agg #[S a1.name, .int .u16 a1.ty, .int .u16 a1.cls, .int .u32 a1.ttl, S a1.data], .agg #[S a2.name, .int .u16 a2.ty, .int .u16 a2.cls, .int .u32 a2.ttl, S a2.data]] : List Value).toArray w fun v w' => v = .bool res ∧ Ext w w' := by
 unfold record_Same at h
 refine enterX Try.func9 rfl Try.ntmps9 rfl (fun R hR => ?_)
 have hB := Below.refl w.heap.size w
 refine X.seq fun M3 hM4 => ?_
 refine X.region ?_
 refine XO.do rfl (D.box (v := .agg #[S a1.name, .int .u16 a1.ty, .int .u16 a1.cls, .int .u32 a1.ttl, S a1.data]) (cs := [S a1.name, .int .u16 a1.ty, .int .u16 a1.cls, .int .u32 a1.ttl, S a1.data]) rfl rfl rfl ?_)
 intro b5 w6 hb7 H8 e9 _
 have g10 : w.heap.size ≤ b5 := Nat.le_trans hB.size (Nat.le_of_eq hb7.symm)
 clear hb7
 replace hB := below_ext hB e9
 clear e9
 refine XO.do rfl (D.box (v := .agg #[S a2.name, .int .u16 a2.ty, .int .u16 a2.cls, .int .u32 a2.ttl, S a2.data]) (cs := [S a2.name, .int .u16 a2.ty, .int .u16 a2.cls, .int .u32 a2.ttl, S a2.data]) rfl rfl rfl ?_)
 intro b11 w12 hb13 H14 e15 _
 have lt_10_16 : ∀ x, MB b5 x → x < b11 := (MB.lt H8 (Nat.le_of_eq hb13.symm))
 have g16 : w.heap.size ≤ b11 := Nat.le_trans hB.size (Nat.le_of_eq hb13.symm)
 clear hb13
 replace hB := below_ext hB e15
 replace H8 := H8.ext e15
 clear e15
 refine XO.do rfl (D.asn (v := .bool false) rfl rfl ?_)
 refine XO.nil ?_
 refine hM4 _ _ ?_
 refine X.seq fun M17 hM18 => ?_
 refine X.region ?_
 refine XO.do rfl (D.fieldAddr (o' := 3) fa25_3 rfl rfl rfl ?_)
 refine XO.do rfl (D.load (j := 3) (v := .int .u32 a2.ttl) sc23 H14.cs rfl rfl rfl rfl ?_)
 refine XO.do rfl (D.fieldAddr (o' := 3) fa25_3 rfl rfl rfl ?_)
 refine XO.do rfl (D.store (v := .int .u32 a2.ttl) (us := [S a1.name, .int .u16 a1.ty, .int .u16 a1.cls, .int .u32 a2.ttl, S a1.data]) sz23 H8 rfl rfl rfl rfl rfl rfl ?_)
 intro w19 H20 e21
 replace hB := below_blk hB e21 g10
 replace H14 := H14.gr e21 (sepB (ne_flip (ne_of lt_10_16 (MB.ge b11))))
 clear e21
 refine XO.nil ?_
 refine hM18 _ _ ?_
 refine X.seq fun M22 hM23 => ?_
 refine X.region ?_
 refine XO.do rfl (D.loadA (j := 0) (us := [S a1.name, .int .u16 a1.ty, .int .u16 a1.cls, .int .u32 a2.ttl, S a1.data]) ag25 H20.cs rfl rfl rfl rfl rfl ?_)
 refine XO.do rfl (D.loadA (j := 0) (us := [S a2.name, .int .u16 a2.ty, .int .u16 a2.cls, .int .u32 a2.ttl, S a2.data]) ag25 H14.cs rfl rfl rfl rfl rfl ?_)
 refine XO.do rfl (D.eqSt (eqRR (⟨a1.name, a1.ty, a1.cls, a2.ttl, a1.data⟩ : RR) a2) rfl rfl rfl ?_)
 refine XO.do rfl (D.asn (v := .bool (decide ((⟨a1.name, a1.ty, a1.cls, a2.ttl, a1.data⟩ : RR) = a2))) rfl rfl ?_)
 refine XO.nil ?_
 refine hM23 _ _ ?_
 refine X.ret ?_
 subst h
 exact hR _ _ _ (ret1 (v := .bool (decide ((⟨a1.name, a1.ty, a1.cls, a2.ttl, a1.data⟩ : RR) = a2))) rfl rfl) ⟨rfl, ext_of_below hB⟩
theorem record_Same.ok (a1 : RR) (a2 : RR)  (w : World)  :
  Ret Try.prog 9 ([.agg #[S a1.name, .int .u16 a1.ty, .int .u16 a1.cls, .int .u32 a1.ttl, S a1.data], .agg #[S a2.name, .int .u16 a2.ty, .int .u16 a2.cls, .int .u32 a2.ttl, S a2.data]] : List Value).toArray w fun v w' => v = .bool (record_Same a1 a2) ∧ Ext w w' := record_Same.walk a1 a2  w  _ rfl
end Go.Proofs.Ytfcaekghpkpjdaa.K

/- wire.Pack: what its methods do. -/
namespace Go.Proofs.Ytfcaekghpkpjdaa.K
open Go Go.RowKit Go.Proofs
set_option linter.unusedVariables false
set_option maxRecDepth 100000
set_option maxHeartbeats 4000000
def keyMap (m : List (Str × Int)) : List (Value × Value) := m.map fun p => (S p.1, Value.int .i64 p.2)
def isPack (w : World) (M : Nat → Prop) (b : Nat) (st : Pack) : Prop := ∃ (A : Option Go.Addr) (c mb : Nat), Blk w b [.slice A st.s.length c, .map (some mb)] 66 ∧ Own eB 5 w 0 A c st.s ∧ MapIs w mb (keyMap st.known) ∧ M = fun x => x = b ∨ x = mb ∨ MO A x
theorem MapIs.ne_blk {w : World} {b mb : Nat} {cs : List Value} {T : TypeId} {m : List (Value × Value)} (h : MapIs w mb m) (hb : Blk w b cs T) : mb ≠ b := by
 obtain ⟨es, cl, h, _⟩ := h
 intro e; exact blk_ne_obj hb h (by intro _ _ _ e; cases e) e.symm
theorem MapIs.ne_own {α : Type} {E : En α} {T : TypeId} {w : World} {base c mb : Nat} {A : Option Go.Addr} {xs : List α} {m : List (Value × Value)} (h : MapIs w mb m) (ho : Own E T w base A c xs) : ∀ x, MO A x → x ≠ mb := by
 obtain ⟨es, cl, h, _⟩ := h
 exact own_ne_obj ho h (by intro _ _ _ e; cases e)
noncomputable def okPack : OK Pack where
 is := isPack
 lt' := by
  rintro w M b st ⟨A, c, mb, h1, h2, h3, rfl⟩ x (rfl | rfl | hx)
  ·exact h1.lt
  ·exact h3.lt
  ·exact (h2.base x hx).2
 gm' := by
  rintro w w' M b st M' ⟨A, c, mb, h1, h2, h3, rfl⟩ k hne
  exact ⟨A, c, mb, h1.gm k (fun x e => hne x (.inl e)), h2.gm k (fun x e => hne x (.inr (.inr e))), h3.gm k (hne _ (.inr (.inl rfl))), rfl⟩
theorem bldPack : BuildIs Try.prog 66 #[(0, 1), (1, 1)] (Value.cells (.agg #[.slice none 0 0, .map none])) := buildIs Try.underlying66 (by unfold TI; kernel_rfl : TI Try.prog 66 (.agg #[.slice none 0 0, .map none]) 2 32) (fun w => by simp [(by unfold TI; kernel_rfl : TI Try.prog 64 (.agg #[.slice none 0 0]) 1 24).size, (by unfold TI; kernel_rfl : TI Try.prog 61 (.map none) 1 8).size])
theorem wire_New.ok (w : World) : Ret Try.prog 12 ([] : List Value).toArray w fun v w' => ∃ (M' : Nat → Prop) (b : Nat), v = pt b 0 ∧ okPack.is w' M' b wire_New ∧ (∀ y, M' y → w.heap.size ≤ y) ∧ Ext w w' := by
 refine enterX Try.func12 rfl Try.ntmps12 rfl (fun R hR => ?_)
 refine X.seq fun M hM => ?_
 refine X.region ?_
 refine XO.do rfl (D.asn (v := .pointer none) rfl rfl ?_)
 refine XO.nil ?_
 refine hM _ _ ?_
 refine X.seq fun M hM => ?_
 refine X.region ?_
 refine XO.do rfl (D.makeMap (kt := 9) (et := 3) rfl ?_)
 intro mb w1 hmb hm e1
 refine XO.do rfl (D.build (vs := [(1, .map (some mb))]) (cs := [.slice none 0 0, .map (some mb)]) bldPack rfl rfl rfl ?_)
 refine XO.do rfl (D.box (v := .agg #[.slice none 0 0, .map (some mb)]) (cs := [.slice none 0 0, .map (some mb)]) rfl rfl rfl ?_)
 intro b w2 hb H e2 _
 refine XO.do rfl (D.asn (v := pt b 0) rfl rfl ?_)
 refine XO.nil ?_
 refine hM _ _ ?_
 refine X.ret ?_
 have hs := World.grownBy.size e1
 exact hR _ _ _ (ret1 (v := pt b 0) rfl rfl) ⟨fun x => x = b ∨ x = mb ∨ MO none x, b, rfl, ⟨none, 0, mb, H, Own.nil _ _ _ _, hm.gr e2 (by simp), rfl⟩, by
  rintro y (h | h | h)
  ·omega
  ·omega
  ·simp [MO, blkOf] at h, e1.trans e2⟩
theorem tiText : TI Try.prog 64 (.agg #[.slice none 0 0]) 1 24 := by unfold TI; kernel_rfl
theorem faP0 : FA Try.prog 66 0 0 := fa Try.underlying66 rfl tiText rfl rfl
theorem tiMapSI : TI Try.prog 61 (.map none) 1 8 := by unfold TI; kernel_rfl
theorem faP1 : FA Try.prog 66 1 1 := fa Try.underlying66 rfl tiMapSI rfl rfl
theorem faT0 : FA Try.prog 64 0 0 := fa Try.underlying64 rfl ti_sl8 rfl rfl
/-- A pack whose bytes grow: the row first, then the block. -/
theorem pack_add {w w3 w4 : World} {b c c' mb : Nat} {A A' : Option Go.Addr} {st : Pack} {s : Str} (h1 : Blk w b [.slice A st.s.length c, .map (some mb)] 66) (h2 : Own eB 5 w 0 A c st.s) (h3 : MapIs w mb (keyMap st.known))
  (ho : Own eB 5 w3 0 A' c' (st.s ++ s)) (e3 : w.grownBy w3 (blkOf A)) (hat : ∀ x, MO A' x → MO A x ∨ w.heap.size ≤ x) (H4 : Blk w4 b [.slice A' (st.s ++ s).length c', .map (some mb)] 66) (e4 : Chg w3 w4 b) (hb3 : Blk w3 b [.slice A st.s.length c, .map (some mb)] 66) :
  ∃ M' : Nat → Prop, okPack.is w4 M' b (wire_Pack_Add st s) ∧ (∀ x, M' x → (x = b ∨ x = mb ∨ MO A x) ∨ w.heap.size ≤ x) ∧ GrM w w4 (fun x => x = b ∨ x = mb ∨ MO A x) := by
 have h33 := h3.gr e3 (fun e => h3.ne_own h2 _ e.symm rfl)
 refine ⟨fun x => x = b ∨ x = mb ∨ MO A' x, ⟨A', c', mb, H4, ho.gr e4 (fun x hx e => by injection e with e; exact own_blk_ne ho hb3 (by decide) x hx e), h33.gr e4 (by intro e; injection e with e; exact h33.ne_blk hb3 e), rfl⟩, ?_, ?_⟩
 ·rintro x (h | h | h)
  ·exact .inl (.inl h)
  ·exact .inl (.inr (.inl h))
  ·exact (hat x h).imp (fun h => .inr (.inr h)) id
 ·exact (GrM.of_grown (M := fun x => x = b ∨ x = mb ∨ MO A x) e3 (fun x e => .inr (.inr e))).step (GrM.of_grown (M := fun x => x = b) e4 (fun x e => by injection e with e; exact e.symm)) (fun x hx => .inl (.inl hx))
theorem run_append_str' {w : World} {A : Option Go.Addr} {c : Nat} {xs s : Str} {ty : TypeId} (ho : Own eB 5 w 0 A c xs) (hl : xs.length + s.length ≤ 140737488355328) :
  ∃ A' c' w', (Builtin.append_ #[62, 9] ty #[.slice A xs.length c, S s]).run Try.prog w = .ok (.slice A' (xs ++ s).length c') w' ∧ Own eB 5 w' 0 A' c' (xs ++ s) ∧ w.grownBy w' (blkOf A) ∧ (∀ x, MO A' x → MO A x ∨ w.heap.size ≤ x) := by
 obtain ⟨A', c', w', h1, h2, h3⟩ := run_append_str (ty := ty) ho hl (Nat.zero_le _)
 refine ⟨A', c', w', h1, h2, h3, ?_⟩
 obtain ⟨i, hi1, hi2, hi3, hi4⟩ := ti_u8.get
 have hsz : (⟨⟨s⟩⟩ : ByteArray).size = s.length := rfl
 rcases ho.2 with ⟨e, e'⟩ | ⟨gb, cap, cur, e, hb, hg, hnc, hcm, hcs, htake⟩
 ·injection e with e1 e2 e3
  subst e1 e3
  have hx : xs = [] := List.eq_nil_of_length_eq_zero e'
  subst hx
  obtain ⟨A2, c2, w2, q1, q2, q3⟩ := run_append_str (s := s) (ty := ty) (Own.nil eB 5 w w.heap.size) hl (Nat.le_refl _)
  have hq := h1.symm.trans q1
  injection hq with hq1 hq2
  injection hq1 with hA _ _
  subst hA
  intro x hx
  exact .inr (q2.base x hx).1
 ·injection e with e1 e2 e3
  subst e1 e3
  have hcs2 : cur.size = c := by simpa [eB] using hcs
  by_cases hroom : xs.length + s.length ≤ c
  ·have hr := Lib.run_append_room_string (P := Try.prog) w 62 9 ty 5 i Try.underlying62 Try.underlying9 hi1 hi3 gb xs.length c cur hg ⟨⟨s⟩⟩ hroom (by rw [hsz]; omega)
   have hq := h1.symm.trans hr
   injection hq with hq1 hq2
   injection hq1 with hA _ _
   subst hA
   exact fun x hx => .inl hx
  ·have hr := Lib.run_append_grow_string (P := Try.prog) w 62 9 ty 5 i (.int .u8 0) Try.underlying62 Try.underlying9 hi1 hi2 ⟨gb, 0, none⟩ xs.length c (flat eB xs) (by rw [flat_len, hi3]; rfl) (fun j v hv => ho.cells (g := gb) rfl j v hv) ⟨⟨s⟩⟩ (by rw [hsz]; omega) (by rw [hsz]; omega) (by rw [hi4, hsz]; exact growslice_fits (by omega) (by omega))
   have hq := h1.symm.trans hr
   injection hq with hq1 hq2
   injection hq1 with hA _ _
   subst hA
   intro x hx
   simp only [MO, blkOf, Option.map_some, Option.some.injEq] at hx
   exact .inr (Nat.le_of_eq hx)
theorem wire_Pack_Add.ok (st : Pack) (s : Str) (M : Nat → Prop) (b : Nat) (w : World) (H : okPack.is w M b st) (hp : wire_Pack_Add.pre st s) :
  Ret Try.prog 30 ([pt b 0, S s] : List Value).toArray w fun v w' => ∃ M' : Nat → Prop, v = .tuple #[] ∧ okPack.is w' M' b (wire_Pack_Add st s) ∧ (∀ x, M' x → M x ∨ w.heap.size ≤ x) ∧ GrM w w' M := by
 obtain ⟨A, c, mb, h1, h2, h3, rfl⟩ := H
 unfold wire_Pack_Add.pre at hp
 refine enterX Try.func30 rfl Try.ntmps30 rfl (fun R hR => ?_)
 refine X.seq fun M hM => ?_
 refine X.region ?_
 refine XO.do rfl (D.mv (v := pt b 0) rfl rfl ?_)
 refine XO.do rfl (D.neqPnil (p := some ⟨b, 0, none⟩) Try.underlying35 rfl rfl rfl ?_)
 refine XO.nil ?_
 refine hM _ _ ?_
 refine X.condT rfl ?_
 refine X.region ?_
 refine XO.do rfl (D.mv (v := pt b 0) rfl rfl ?_)
 refine XO.do rfl (D.mv (v := pt b 0) rfl rfl ?_)
 refine XO.do rfl (D.nilCheck rfl rfl ?_)
 refine XO.do rfl (D.fieldAddr (o' := 0) faP0 rfl rfl rfl ?_)
 refine XO.do rfl (D.fieldAddr (o' := 0) faT0 rfl rfl rfl ?_)
 refine XO.do rfl (D.load (j := 0) (v := .slice A st.s.length c) sc_sl8 h1.cs rfl rfl rfl rfl ?_)
 refine XO.do rfl (D.mv (v := S s) rfl rfl ?_)
 obtain ⟨A', c', w3, hrun, ho3, e3, hat⟩ := run_append_str' (ty := 62) (s := s) h2 (by omega)
 refine XO.do rfl (D.builtinR (vs := [.slice A st.s.length c, S s]) (u := .slice A' (st.s ++ s).length c') (w' := w3) rfl (fun cs => by simp only [builtin, Sem.run_bind, hrun, Result.andThen_ok, Sem.run_pure]) rfl ?_)
 have hb3 := h1.gr e3 (fun x hx e => by cases hx; exact own_blk_ne h2 h1 (by decide) _ e.symm rfl)
 refine XO.do rfl (D.nilCheck rfl rfl ?_)
 refine XO.do rfl (D.fieldAddr (o' := 0) faP0 rfl rfl rfl ?_)
 refine XO.do rfl (D.fieldAddr (o' := 0) faT0 rfl rfl rfl ?_)
 refine XO.do rfl (D.store (v := .slice A' (st.s ++ s).length c') (us := [.slice A' (st.s ++ s).length c', .map (some mb)]) (fun w => ti_sl8.size w) hb3 rfl rfl rfl rfl rfl rfl ?_)
 intro w4 H4 e4
 refine XO.nil ?_
 obtain ⟨M', q1, q2, q3⟩ := pack_add h1 h2 h3 ho3 e3 hat H4 e4 hb3
 exact hR _ _ _ (ret0 rfl) ⟨M', rfl, q1, q2, q3⟩
theorem flat_bytesI (s : Str) : flat (eInt .u8) (bytesI s) = flat eB s := by
 induction s with
 | nil => rfl
 | cons a s ih => simp only [bytesI, List.map_cons, flat, List.flatMap_cons] at ih ⊢; rw [ih]; rfl
theorem rowB {w : World} {A : Option Go.Addr} {c : Nat} {s : Str} (h : Row eB w A c s) : Row (eInt .u8) w A c (bytesI s) := by
 refine ⟨by simpa [bytesI] using h.1, h.2.1, ?_⟩
 rcases h.2.2 with rfl | ⟨b, o, e, hc⟩
 ·exact .inl rfl
 ·exact .inr ⟨b, o, e, by rw [flat_bytesI]; exact hc⟩
theorem strOf_bytesI (s : Str) : strOf (bytesI s) = s := by
 simp only [strOf, bytesI, List.map_map]
 induction s with
 | nil => rfl
 | cons a s ih => simp only [List.map_cons, ih]; congr 1; simp
theorem wire_Pack_Len.ok (st : Pack) (M : Nat → Prop) (b : Nat) (w : World) (H : okPack.is w M b st) :
  Ret Try.prog 26 ([pt b 0] : List Value).toArray w fun v w' => v = .int .i64 (wire_Pack_Len st) ∧ Ext w w' := by
 obtain ⟨A, c, mb, h1, h2, h3, rfl⟩ := H
 refine enterX Try.func26 rfl Try.ntmps26 rfl (fun R hR => ?_)
 refine X.seq fun M hM => ?_
 refine X.region ?_
 refine XO.do rfl (D.asn (v := I 0) rfl rfl ?_)
 refine XO.nil ?_
 refine hM _ _ ?_
 refine X.seq fun M hM => ?_
 refine X.seq fun M2 hM2 => ?_
 refine X.region ?_
 refine XO.do rfl (D.mv (v := pt b 0) rfl rfl ?_)
 refine XO.do rfl (D.eqlPnil (p := some ⟨b, 0, none⟩) Try.underlying35 rfl rfl rfl ?_)
 refine XO.nil ?_
 refine hM2 _ _ ?_
 refine X.condF rfl ?_
 refine X.skip ?_
 refine hM _ _ ?_
 refine X.seq fun M3 hM3 => ?_
 refine X.region ?_
 refine XO.do rfl (D.mv (v := pt b 0) rfl rfl ?_)
 refine XO.do rfl (D.nilCheck rfl rfl ?_)
 refine XO.do rfl (D.fieldAddr (o' := 0) faP0 rfl rfl rfl ?_)
 refine XO.do rfl (D.fieldAddr (o' := 0) faT0 rfl rfl rfl ?_)
 refine XO.do rfl (D.load (j := 0) (v := .slice A st.s.length c) sc_sl8 h1.cs rfl rfl rfl rfl ?_)
 refine XO.do rfl (D.lenR (A := A) (c := c) (m := st.s.length) Try.underlying62 rfl rfl ?_)
 refine XO.do rfl (D.asn (v := I st.s.length) rfl rfl ?_)
 refine XO.nil ?_
 refine hM3 _ _ ?_
 refine X.ret ?_
 exact hR _ _ _ (ret1 (v := I st.s.length) rfl rfl) ⟨rfl, Ext.refl _⟩
theorem wire_Pack_Out.ok (st : Pack) (M : Nat → Prop) (b : Nat) (w : World) (H : okPack.is w M b st) :
  Ret Try.prog 17 ([pt b 0] : List Value).toArray w fun v w' => v = S (wire_Pack_Out st) ∧ Ext w w' := by
 obtain ⟨A, c, mb, h1, h2, h3, rfl⟩ := H
 refine enterX Try.func17 rfl Try.ntmps17 rfl (fun R hR => ?_)
 refine X.seq fun M hM => ?_
 refine X.region ?_
 refine XO.do rfl (D.asn (v := S []) rfl rfl ?_)
 refine XO.nil ?_
 refine hM _ _ ?_
 refine X.seq fun M hM => ?_
 refine X.seq fun M2 hM2 => ?_
 refine X.region ?_
 refine XO.do rfl (D.mv (v := pt b 0) rfl rfl ?_)
 refine XO.do rfl (D.eqlPnil (p := some ⟨b, 0, none⟩) Try.underlying35 rfl rfl rfl ?_)
 refine XO.nil ?_
 refine hM2 _ _ ?_
 refine X.condF rfl ?_
 refine X.skip ?_
 refine hM _ _ ?_
 refine X.seq fun M3 hM3 => ?_
 refine X.region ?_
 refine XO.do rfl (D.mv (v := pt b 0) rfl rfl ?_)
 refine XO.do rfl (D.nilCheck rfl rfl ?_)
 refine XO.do rfl (D.fieldAddr (o' := 0) faP0 rfl rfl rfl ?_)
 refine XO.do rfl (D.fieldAddr (o' := 0) faT0 rfl rfl rfl ?_)
 have hlen : (bytesI st.s).length = st.s.length := by simp [bytesI]
 have h1' : Blk w b [.slice A (bytesI st.s).length c, .map (some mb)] 66 := by rw [hlen]; exact h1
 refine XO.do rfl (D.load (j := 0) (v := .slice A (bytesI st.s).length c) sc_sl8 h1'.cs rfl rfl rfl rfl ?_)
 refine XO.do rfl (D.strOf (m := 0) Try.underlying62 Try.underlying5 Try.underlying9 (rowB h2.row) rfl rfl ?_)
 refine XO.do rfl (D.asn (v := S (strOf (bytesI st.s))) rfl rfl ?_)
 refine XO.nil ?_
 refine hM3 _ _ ?_
 refine X.ret ?_
 exact hR _ _ _ (ret1 (v := S (strOf (bytesI st.s))) rfl rfl) ⟨by rw [strOf_bytesI]; rfl, Ext.refl _⟩
theorem wire_Pack_Mark.ok (st : Pack) (M : Nat → Prop) (b : Nat) (w : World) (H : okPack.is w M b st) (hp : wire_Pack_Mark.pre st) :
  Ret Try.prog 36 ([pt b 0] : List Value).toArray w fun v w' => ∃ M' : Nat → Prop, v = .int .i64 (wire_Pack_Mark st).1 ∧ okPack.is w' M' b (wire_Pack_Mark st).2 ∧ (∀ x, M' x → M x ∨ w.heap.size ≤ x) ∧ GrM w w' M := by
 have hl2 : (octet_Put16 0).length = 2 := by decide
 unfold wire_Pack_Mark.pre at hp
 refine enterX Try.func36 rfl Try.ntmps36 rfl (fun R hR => ?_)
 refine X.seq fun M hM => ?_
 refine X.region ?_
 refine XO.do rfl (D.asn (v := I 0) rfl rfl ?_)
 refine XO.nil ?_
 refine hM _ _ ?_
 refine X.seq fun M hM => ?_
 refine X.region ?_
 refine XO.do rfl (D.mv (v := pt b 0) rfl rfl ?_)
 refine XO.do rfl (D.call (vs := [.int .u16 0]) (callable Try.func31 (by kernel_rfl) rfl) (octet_Put16.ok 0 w) rfl rfl ?_)
 rintro _ w1 ⟨rfl, e1⟩
 have H1 := H.ext e1
 refine XO.do rfl (D.call (vs := [pt b 0, S (octet_Put16 0)]) (callable Try.func30 (by kernel_rfl) rfl) (wire_Pack_Add.ok st (octet_Put16 0) _ b w1 H1 (by unfold wire_Pack_Add.pre; omega)) rfl rfl ?_)
 rintro _ w2 ⟨M', rfl, H2, hs, hg⟩
 refine XO.nil ?_
 refine hM _ _ ?_
 refine X.seq fun M hM => ?_
 refine X.region ?_
 refine XO.do rfl (D.mv (v := pt b 0) rfl rfl ?_)
 refine XO.do rfl (D.call (vs := [pt b 0]) (callable Try.func26 (by kernel_rfl) rfl) (wire_Pack_Len.ok _ _ b w2 H2) rfl rfl ?_)
 rintro _ w3 ⟨rfl, e3⟩
 refine XO.do rfl (D.asn (v := .int .i64 (wire_Pack_Mark st).1) rfl rfl ?_)
 refine XO.nil ?_
 refine hM _ _ ?_
 refine X.ret ?_
 have hsz := World.grownBy.size e1
 exact hR _ _ _ (ret1 (v := .int .i64 (wire_Pack_Mark st).1) rfl rfl) ⟨M', rfl, H2.ext e3, fun x hx => (hs x hx).imp id (fun h => Nat.le_trans hsz h), gm_ext ((GrM.ext e1 _).step hg (fun x hx => .inl hx)) e3⟩
/-- A new name in a pack's map. -/
theorem pack_known {w w' : World} {b c mb : Nat} {A : Option Go.Addr} {st : Pack} {k : Str} {v : Int} (h1 : Blk w b [.slice A st.s.length c, .map (some mb)] 66) (h2 : Own eB 5 w 0 A c st.s) (h3 : MapIs w mb (keyMap st.known))
  (hm : MapIs w' mb (keyMap (st.known ++ [(k, v)]))) (hc : Chg w w' mb) : okPack.is w' (fun x => x = b ∨ x = mb ∨ MO A x) b { st with known := st.known ++ [(k, v)] } :=
 ⟨A, c, mb, h1.gr hc (fun x hx e => by injection e with e; exact h3.ne_blk h1 (by rw [← e]; exact hx)), h2.gr hc (fun x hx e => by injection e with e; exact h3.ne_own h2 x hx e), hm, rfl⟩
theorem wire_Pack_Name.ok (st : Pack) (n : Str) (M : Nat → Prop) (b : Nat) (w : World) (H : okPack.is w M b st) (hp : wire_Pack_Name.pre st n) :
  Ret Try.prog 29 ([pt b 0, S n] : List Value).toArray w fun v w' => ∃ M' : Nat → Prop, v = .int .i64 (wire_Pack_Name st n).1 ∧ okPack.is w' M' b (wire_Pack_Name st n).2 ∧ (∀ x, M' x → M x ∨ w.heap.size ≤ x) ∧ GrM w w' M := by
 obtain ⟨hp1, hp2⟩ := hp
 refine enterX Try.func29 rfl Try.ntmps29 rfl (fun R hR => ?_)
 refine X.seq fun M1 hM => ?_
 refine X.region ?_
 refine XO.do rfl (D.asn (v := .int .i64 0) rfl rfl ?_)
 refine XO.nil ?_
 refine hM _ _ ?_
 refine X.seq fun M1 hM => ?_
 refine X.seq fun M2 hM2 => ?_
 refine X.region ?_
 refine XO.do rfl (D.mv (v := pt b 0) rfl rfl ?_)
 refine XO.do rfl (D.eqlPnil (p := some ⟨b, 0, none⟩) Try.underlying35 rfl rfl rfl ?_)
 refine XO.do rfl (D.mv (v := .bool false) rfl rfl ?_)
 refine XO.do (wantG (j := 2) (b := false) rfl rfl rfl) (D.mv (v := S n) rfl rfl ?_)
 refine XO.do (wantG (j := 2) (b := false) rfl rfl rfl) (D.call (vs := [S n]) (callable Try.func27 (by kernel_rfl) rfl) (name_May.ok n w hp1) rfl rfl ?_)
 rintro _ w1 ⟨rfl, e1⟩
 refine XO.do (wantG (j := 2) (b := false) rfl rfl rfl) (D.not (name_May n) rfl rfl ?_)
 refine XO.do rfl (D.pick false (v := .bool (!(name_May n))) rfl rfl rfl ?_)
 refine XO.nil ?_
 refine hM2 _ _ ?_
 have H1 := H.ext e1
 have hB1 : GrM w w1 M := GrM.ext e1 M
 cases hmay : name_May n with
 | false =>
  have hr : wire_Pack_Name st n = (1, st) := by unfold wire_Pack_Name; rw [hmay]; rfl
  refine X.condT rfl ?_
  refine X.seq fun M3 hM3 => ?_
  refine X.region ?_
  refine XO.do rfl (D.asn (v := .int .i64 1) rfl rfl ?_)
  refine XO.nil ?_
  refine hM3 _ _ ?_
  refine X.ret ?_
  exact hR _ _ _ (ret1 (v := .int .i64 1) rfl rfl) ⟨M, by rw [hr], by rw [hr]; exact H1, fun x hx => .inl hx, hB1⟩
 | true =>
  have hr : wire_Pack_Name st n = (0, nameLoop (n.length + 1) st n) := by unfold wire_Pack_Name; rw [hmay]; rfl
  rw [hr] at hR
  obtain ⟨hsp, hlen⟩ := may_split hmay
  obtain ⟨fin, hfin⟩ : ∃ fin, nameLoop (n.length + 1) st n = fin := ⟨_, rfl⟩
  rw [hfin] at hR
  refine X.condF rfl ?_
  refine X.skip ?_
  refine hM _ _ ?_
  refine X.cut (fun f2 w2 => ∃ st2 M2, f2 0 = pt b 0 ∧ f2 1 = S [0] ∧ okPack.is w2 M2 b st2 ∧ (∀ x, M2 x → M x ∨ w.heap.size ≤ x) ∧ GrM w w2 M ∧ wire_Pack_Add st2 [0] = fin ∧ st2.s.length ≤ 20000000000) ?_ ?_
  ·refine X.block ?_
   refine X.loop (fun k f2 w2 => ∃ st2 M2 n2, f2 0 = pt b 0 ∧ f2 1 = S n2 ∧ okPack.is w2 M2 b st2 ∧ (∀ x, M2 x → M x ∨ w.heap.size ≤ x) ∧ GrM w w2 M ∧ (splitN k n2).2 = [0] ∧ n2.length ≤ 255 ∧ st2.s.length + n2.length ≤ st.s.length + 255 ∧ nameLoop k st2 n2 = fin) (n.length + 1) ?_ ?_
   ·exact ⟨st, M, n, rfl, rfl, H1, fun x hx => .inl hx, hB1, hsp, hlen, by omega, hfin⟩
   rintro k f2 w2 ⟨st2, M2, n2, s0, s1, H2, hsub, hB, hspl, hl2, hsum, hnl⟩
   refine X.fr (d := 0) s0 ?_
   refine X.fr (d := 1) s1 ?_
   refine X.seq fun M4 hM4 => ?_
   refine X.seq fun M5 hM5 => ?_
   refine X.region ?_
   refine XO.do rfl (D.mv (v := S n2) rfl rfl ?_)
   refine XO.do rfl (D.neqS (a := n2) (b := [0]) rfl rfl rfl ?_)
   refine XO.nil ?_
   refine hM5 _ _ ?_
   by_cases hn2 : n2 = [0]
   ·refine X.condF (congrArg Value.bool (by rw [hn2]; rfl)) ?_
    refine X.exit rfl ?_
    refine ⟨st2, M2, rfl, by rw [← hn2]; rfl, H2, hsub, hB, ?_, by omega⟩
    cases k with
    | zero => rw [← hn2]; exact hnl
    | succ k => rw [nameLoop, if_pos hn2, hn2] at hnl; exact hnl
   cases k with
   | zero => exact absurd hspl hn2
   | succ k =>
   obtain ⟨c, t, rfl, hc1, hc2, hc3, hspl'⟩ := split_step hspl hn2
   rw [nameLoop, if_neg hn2] at hnl
   refine X.condT (congrArg Value.bool (by rw [beq_eq_false_iff_ne.2 hn2]; rfl)) ?_
   refine X.skip ?_
   refine hM4 _ _ ?_
   refine X.block ?_
   have H2c := H2
   obtain ⟨A, cc, mb, q1, q2, q3, hMeq⟩ := H2c
   refine X.seq fun M6 hM6 => ?_
   refine X.seq fun M7 hM7 => ?_
   refine X.region ?_
   refine XO.do rfl (D.mv (v := pt b 0) rfl rfl ?_)
   refine XO.do rfl (D.nilCheck rfl rfl ?_)
   refine XO.do rfl (D.fieldAddr (o' := 1) faP1 rfl rfl rfl ?_)
   refine XO.do rfl (D.load (j := 1) (v := .map (some mb)) (sca Try.underlying61 rfl) q1.cs rfl rfl rfl rfl ?_)
   refine XO.do rfl (D.mv (v := S (c :: t)) rfl rfl ?_)
   refine XO.do rfl (D.lookupM (ek := S) (ev := fun x => Value.int .i64 x) keyStr (k := c :: t) (m := st2.known) Try.underlying61 Try.underlying9 tiInt q3 rfl rfl rfl ?_)
   have hbt : bt (c :: t) 0 = (c.toNat : Int) := rfl
   cases hlk : List.lookup (c :: t) st2.known with
   | some a =>
    rw [hlk] at hnl
    simp only [Option.map_some, Option.getD_some, Option.isSome_some]
    refine XO.do rfl (D.mv (v := .tuple #[.int .i64 a, .bool true]) rfl rfl ?_)
    refine XO.do rfl (D.extract (v := .int .i64 a) rfl rfl rfl ?_)
    refine XO.do rfl (D.extract (v := .bool true) rfl rfl rfl ?_)
    refine XO.do rfl (D.asn (v := .int .i64 a) rfl rfl ?_)
    refine XO.do rfl (D.asn (v := .bool true) rfl rfl ?_)
    refine XO.nil ?_
    refine hM7 _ _ ?_
    refine X.seq fun M8 hM8 => ?_
    refine X.region ?_
    refine XO.do rfl (D.mv (v := .bool true) rfl rfl ?_)
    refine XO.nil ?_
    refine hM8 _ _ ?_
    refine X.condT rfl ?_
    refine X.seq fun M8 hM8 => ?_
    refine X.region ?_
    refine XO.do rfl (D.mv (v := pt b 0) rfl rfl ?_)
    refine XO.do rfl (D.mv (v := .int .i64 a) rfl rfl ?_)
    refine XO.do rfl (D.or rfl rfl rfl ?_)
    refine XO.do rfl (D.conv Try.underlying3 Try.underlying22 rfl rfl ?_)
    refine XO.do rfl (D.call (vs := [.int .u16 (w16 (bOr .i64 49152 a))]) (callable Try.func31 (by kernel_rfl) rfl) (octet_Put16.ok _ w2) rfl rfl ?_)
    rintro _ w3 ⟨rfl, e3⟩
    have hl16 : (octet_Put16 (w16 (bOr .i64 49152 a))).length = 2 := rfl
    refine XO.do rfl (D.call (vs := [pt b 0, S (octet_Put16 (w16 (bOr .i64 49152 a)))]) (callable Try.func30 (by kernel_rfl) rfl) (wire_Pack_Add.ok st2 (octet_Put16 (w16 (bOr .i64 49152 a))) _ b w3 (H2.ext e3) (by unfold wire_Pack_Add.pre; omega)) rfl rfl ?_)
    rintro _ w4 ⟨M3', rfl, H3, hs3, hg3⟩
    refine XO.nil ?_
    refine hM8 _ _ ?_
    refine X.seq fun M8 hM8 => ?_
    refine X.region ?_
    refine XO.do rfl (D.asn (v := .int .i64 0) rfl rfl ?_)
    refine XO.nil ?_
    refine hM8 _ _ ?_
    refine X.ret ?_
    simp only at hnl
    have hBx := gm_ext hB e3
    exact hR _ _ _ (ret1 (v := .int .i64 0) rfl rfl) ⟨M3', rfl, by rw [← hnl]; exact H3, sub_sub hs3 hsub hBx.size, hBx.step hg3 hsub⟩
   | none =>
    rw [hlk] at hnl
    simp only [Option.map_none, Option.getD_none, Option.isSome_none]
    simp only at hnl
    refine XO.do rfl (D.mv (v := .tuple #[.int .i64 0, .bool false]) rfl rfl ?_)
    refine XO.do rfl (D.extract (v := .int .i64 0) rfl rfl rfl ?_)
    refine XO.do rfl (D.extract (v := .bool false) rfl rfl rfl ?_)
    refine XO.do rfl (D.asn (v := .int .i64 0) rfl rfl ?_)
    refine XO.do rfl (D.asn (v := .bool false) rfl rfl ?_)
    refine XO.nil ?_
    refine hM7 _ _ ?_
    refine X.seq fun M8 hM8 => ?_
    refine X.region ?_
    refine XO.do rfl (D.mv (v := .bool false) rfl rfl ?_)
    refine XO.nil ?_
    refine hM8 _ _ ?_
    refine X.condF rfl ?_
    refine X.skip ?_
    refine hM6 _ _ ?_
    refine X.cut (fun f3 w3 => f3 0 = pt b 0 ∧ f3 1 = S (c :: t) ∧ okPack.is w3 M2 b (if st2.s.length < 16384 then { st2 with known := st2.known ++ [(c :: t, (st2.s.length : Int))] } else st2) ∧ GrM w w3 M) ?_ ?_
    ·refine X.seq fun M8 hM8 => ?_
     refine X.region ?_
     refine XO.do rfl (D.mv (v := pt b 0) rfl rfl ?_)
     refine XO.do rfl (D.nilCheck rfl rfl ?_)
     refine XO.do rfl (D.fieldAddr (o' := 0) faP0 rfl rfl rfl ?_)
     refine XO.do rfl (D.fieldAddr (o' := 0) faT0 rfl rfl rfl ?_)
     refine XO.do rfl (D.load (j := 0) (v := .slice A st2.s.length cc) sc_sl8 q1.cs rfl rfl rfl rfl ?_)
     refine XO.do rfl (D.lenR (A := A) (c := cc) (m := st2.s.length) Try.underlying62 rfl rfl ?_)
     refine XO.do rfl (D.asn (v := I st2.s.length) rfl rfl ?_)
     refine XO.nil ?_
     refine hM8 _ _ ?_
     refine X.seq fun M8 hM8 => ?_
     refine X.region ?_
     refine XO.do rfl (D.mv (v := I st2.s.length) rfl rfl ?_)
     refine XO.do rfl (D.lss rfl rfl rfl ?_)
     refine XO.nil ?_
     refine hM8 _ _ ?_
     by_cases hfar : st2.s.length < 16384
     ·refine X.condT (congrArg Value.bool (decide_eq_true (by omega))) ?_
      refine X.region ?_
      refine XO.do rfl (D.mv (v := pt b 0) rfl rfl ?_)
      refine XO.do rfl (D.nilCheck rfl rfl ?_)
      refine XO.do rfl (D.fieldAddr (o' := 1) faP1 rfl rfl rfl ?_)
      refine XO.do rfl (D.load (j := 1) (v := .map (some mb)) (sca Try.underlying61 rfl) q1.cs rfl rfl rfl rfl ?_)
      refine XO.do rfl (D.mv (v := S (c :: t)) rfl rfl ?_)
      refine XO.do rfl (D.mv (v := I st2.s.length) rfl rfl ?_)
      refine XO.do rfl (D.mapNew (ek := S) (ev := fun x => Value.int .i64 x) keyStr (k := c :: t) (m := st2.known) (v := (st2.s.length : Int)) Try.underlying61 Try.underlying9 q3 hlk rfl rfl rfl ?_)
      intro w3 hm3 hc3
      refine XO.nil ?_
      refine ⟨rfl, rfl, ?_, hB.step (GrM.of_grown (M := M2) hc3 (fun x e => by injection e with e; rw [hMeq]; exact .inr (.inl e.symm))) hsub⟩
      rw [if_pos hfar, hMeq]
      exact pack_known q1 q2 q3 hm3 hc3
     ·refine X.condF (congrArg Value.bool (decide_eq_false (by omega))) ?_
      refine X.skip ?_
      refine ⟨rfl, rfl, ?_, hB⟩
      rw [if_neg hfar]; exact H2
    ·rintro f3 w3 ⟨s0', s1', H3, hB3⟩
     obtain ⟨st3, hst3⟩ : ∃ st3, (if st2.s.length < 16384 then { st2 with known := st2.known ++ [(c :: t, (st2.s.length : Int))] } else st2) = st3 := ⟨_, rfl⟩
     rw [hst3] at H3 hnl
     have hs3 : st3.s = st2.s := by rw [← hst3]; split <;> rfl
     refine X.fr (d := 0) s0' ?_
     refine X.fr (d := 1) s1' ?_
     refine X.seq fun M8 hM8 => ?_
     refine X.region ?_
     refine XO.do rfl (D.mv (v := S (c :: t)) rfl rfl ?_)
     refine XO.do rfl (D.indexS (i := 0) Try.underlying9 rfl rfl (by decide) (by simp) rfl ?_)
     refine XO.do rfl (D.conv Try.underlying5 Try.underlying3 rfl rfl ?_)
     refine XO.do rfl (D.add rfl rfl rfl ?_)
     have hct := c.toNat_lt
     have hsz : w64 (1 + w64 (bt (c :: t) 0)) = ((1 + c.toNat : Nat) : Int) := by rw [hbt, w64_id (x := (c.toNat : Int)) (by omega) (by omega), w64_id (by omega) (by omega)]; omega
     refine XO.do rfl (D.asn (v := I ((1 + c.toNat : Nat) : Int)) (congrArg (Value.int .i64) hsz) rfl ?_)
     refine XO.nil ?_
     refine hM8 _ _ ?_
     refine X.seq fun M8 hM8 => ?_
     refine X.region ?_
     refine XO.do rfl (D.mv (v := pt b 0) rfl rfl ?_)
     refine XO.do rfl (D.mv (v := S (c :: t)) rfl rfl ?_)
     refine XO.do rfl (D.mv (v := I ((1 + c.toNat : Nat) : Int)) rfl rfl ?_)
     refine XO.do rfl (D.sliceShi (j := ((1 + c.toNat : Nat) : Int)) Try.underlying9 rfl rfl (by omega) (by simp; omega) rfl ?_)
     rw [show ((1 + c.toNat : Nat) : Int).toNat = 1 + c.toNat by omega]
     have htl : ((c :: t).take (1 + c.toNat)).length = 1 + c.toNat := by simp; omega
     refine XO.do rfl (D.call (vs := [pt b 0, S ((c :: t).take (1 + c.toNat))]) (callable Try.func30 (by kernel_rfl) rfl) (wire_Pack_Add.ok st3 ((c :: t).take (1 + c.toNat)) _ b w3 H3 (by unfold wire_Pack_Add.pre; rw [hs3, htl]; omega)) rfl rfl ?_)
     rintro _ w4 ⟨M3', rfl, H4, hs4, hg4⟩
     refine XO.nil ?_
     refine hM8 _ _ ?_
     refine X.region ?_
     refine XO.do rfl (D.mv (v := S (c :: t)) rfl rfl ?_)
     refine XO.do rfl (D.mv (v := I ((1 + c.toNat : Nat) : Int)) rfl rfl ?_)
     refine XO.do rfl (D.sliceSlo (i := ((1 + c.toNat : Nat) : Int)) Try.underlying9 rfl rfl (by omega) (by simp; omega) rfl ?_)
     rw [show ((1 + c.toNat : Nat) : Int).toNat = 1 + c.toNat by omega]
     refine XO.do rfl (D.asn (v := S ((c :: t).drop (1 + c.toNat))) rfl rfl ?_)
     refine XO.nil ?_
     have hdl : ((c :: t).drop (1 + c.toNat)).length + (1 + c.toNat) = (c :: t).length := by simp; omega
     refine ⟨k, Nat.lt_succ_self _, wire_Pack_Add st3 ((c :: t).take (1 + c.toNat)), M3', (c :: t).drop (1 + c.toNat), rfl, rfl, H4, sub_sub hs4 hsub hB3.size, hB3.step hg4 hsub, hspl', by omega, ?_, hnl⟩
     simp only [wire_Pack_Add, List.length_append, hs3, htl]
     omega
  ·rintro f2 w2 ⟨st2, M2, s0, s1, H2, hsub, hB, hf, hl⟩
   refine X.fr (d := 0) s0 ?_
   refine X.fr (d := 1) s1 ?_
   refine X.seq fun M3 hM3 => ?_
   refine X.region ?_
   refine XO.do rfl (D.mv (v := pt b 0) rfl rfl ?_)
   refine XO.do rfl (D.mv (v := S [0]) rfl rfl ?_)
   refine XO.do rfl (D.call (vs := [pt b 0, S [0]]) (callable Try.func30 (by kernel_rfl) rfl) (wire_Pack_Add.ok st2 [0] _ b w2 H2 (by unfold wire_Pack_Add.pre; simp; omega)) rfl rfl ?_)
   rintro _ w3 ⟨M3', rfl, H3, hs3, hg3⟩
   refine XO.nil ?_
   refine hM3 _ _ ?_
   refine X.seq fun M3 hM3 => ?_
   refine X.region ?_
   refine XO.do rfl (D.asn (v := .int .i64 0) rfl rfl ?_)
   refine XO.nil ?_
   refine hM3 _ _ ?_
   refine X.ret ?_
   exact hR _ _ _ (ret1 (v := .int .i64 0) rfl rfl) ⟨M3', rfl, by rw [← hf]; exact H3, sub_sub hs3 hsub hB.size, hB.step hg3 hsub⟩
end Go.Proofs.Ytfcaekghpkpjdaa.K

/- Parts of slices. -/
namespace Go.Proofs.Ytfcaekghpkpjdaa.K
open Go Go.RowKit Go.Proofs
set_option linter.unusedVariables false
section
variable {P : Program} {n : Nat} {f : Fr} {w : World} {K : Fr → World → Prop} {d : Nat} {ty : TypeId} {pos : String} {af : Array Edge} {g : Option (Nat × Bool)} {α : Type} {E : En α}
theorem add_none (a : Go.Addr) : a.add 0 = a := by cases a; simp [Addr.add]
def dropA (A : Option Go.Addr) (c k sz : Nat) : Option Go.Addr := if c = k then A else A.map (·.add (k * sz))
/-- x[lo:] -/
theorem D.sliceRlo {t e : TypeId} {x y : Operand} {A : Option Go.Addr} {c : Nat} {xs : List α} {kd : IntKind} {i : Int} (ht : P.underlying t = some (.slice e)) (hs : ∀ w, (sizeOf e).run P w = .ok E.sz w) (hr : Row E w A c xs) (hx : evF f x = .slice A xs.length c) (hy : evF f y = .int kd i) (h0 : 0 ≤ i) (h1 : i ≤ xs.length) (hd : Nat.ble (d + 1) n = true)
  (k : Row E w (dropA A c i.toNat E.sz) (c - i.toNat) (xs.drop i.toNat) → K (upd f d (.slice (dropA A c i.toNat E.sz) (xs.drop i.toNat).length (c - i.toNat))) w) : Does P n ⟨some d, .slice t x (some y) none none, ty, pos, af, g⟩ f w K := by
 have hc := hr.1
 obtain ⟨m, rfl⟩ := Int.eq_ofNat_of_zero_le h0
 have hm : m ≤ xs.length := by omega
 have hk := hr.drop m hm
 refine D.val rfl hd ?_ (k (by simpa [dropA] using hk))
 simp [execOp, hx, hy, Instr.sliceAt, Instr.slice, Instr.sliceBounds, Instr.sliceBound, asIntOf, run_underlying ht, hs w, dropA, hm]
/-- x[:hi] -/
theorem D.sliceRhi {t e : TypeId} {x y : Operand} {A : Option Go.Addr} {c : Nat} {xs : List α} {kd : IntKind} {i : Int} (ht : P.underlying t = some (.slice e)) (hs : ∀ w, (sizeOf e).run P w = .ok E.sz w) (hr : Row E w A c xs) (hx : evF f x = .slice A xs.length c) (hy : evF f y = .int kd i) (h0 : 0 ≤ i) (h1 : i ≤ xs.length) (hd : Nat.ble (d + 1) n = true)
  (k : Row E w A c (xs.take i.toNat) → K (upd f d (.slice A (xs.take i.toNat).length c)) w) : Does P n ⟨some d, .slice t x none (some y) none, ty, pos, af, g⟩ f w K := by
 have hc := hr.1
 obtain ⟨m, rfl⟩ := Int.eq_ofNat_of_zero_le h0
 have hm : m ≤ xs.length := by omega
 have hmc : m ≤ c := by omega
 have hk := hr.take m c hmc (Nat.le_refl _)
 have hmin : Min.min m xs.length = m := Nat.min_eq_left hm
 refine D.val rfl hd ?_ (k (by simpa using hk))
 cases A <;> simp [execOp, hx, hy, Instr.sliceAt, Instr.slice, Instr.sliceBounds, Instr.sliceBound, asIntOf, run_underlying ht, hs w, hmc, hmin, add_none]
/-- x[:k:k] -/
theorem D.sliceRcap {t e : TypeId} {x y z : Operand} {A : Option Go.Addr} {c : Nat} {xs : List α} {kd kd' : IntKind} {i : Int} (ht : P.underlying t = some (.slice e)) (hs : ∀ w, (sizeOf e).run P w = .ok E.sz w) (hr : Row E w A c xs) (hx : evF f x = .slice A xs.length c) (hy : evF f y = .int kd i) (hz : evF f z = .int kd' i) (h0 : 0 ≤ i) (h1 : i ≤ xs.length) (hd : Nat.ble (d + 1) n = true)
  (k : Row E w A i.toNat (xs.take i.toNat) → K (upd f d (.slice A (xs.take i.toNat).length i.toNat)) w) : Does P n ⟨some d, .slice t x none (some y) (some z), ty, pos, af, g⟩ f w K := by
 have hc := hr.1
 obtain ⟨m, rfl⟩ := Int.eq_ofNat_of_zero_le h0
 have hm : m ≤ xs.length := by omega
 have hmc : m ≤ c := by omega
 have hk := hr.take m m (Nat.le_refl _) hmc
 have hmin : Min.min m xs.length = m := Nat.min_eq_left hm
 refine D.val rfl hd ?_ (k (by simpa using hk))
 cases A <;> simp [execOp, hx, hy, hz, Instr.sliceAt, Instr.slice, Instr.sliceBounds, Instr.sliceBound, asIntOf, run_underlying ht, hs w, hmc, hmin, add_none]
end
end Go.Proofs.Ytfcaekghpkpjdaa.K

/- wire.Close. -/
namespace Go.Proofs.Ytfcaekghpkpjdaa.K
open Go Go.RowKit Go.Proofs
set_option linter.unusedVariables false
set_option maxRecDepth 100000
set_option maxHeartbeats 4000000
theorem splice {α : Type} (L B : List α) (o n : Nat) (h : o + B.length ≤ n) (hn : n ≤ L.length) : (L.take o ++ B ++ L.drop (o + B.length)).take n = (L.take n).take o ++ B ++ (L.take n).drop (o + B.length) := by
 have e1 : (L.take o ++ B).length = o + B.length := by simp; omega
 rw [List.take_append, e1, List.take_of_length_le (by rw [e1]; exact h), List.take_take, Nat.min_eq_left (by omega), List.drop_take]
theorem own_copy {w : World} {gb c o dCap : Nat} {s t : Str} {ty : TypeId} (ho : Own eB 5 w 0 (some ⟨gb, 0, none⟩) c s) (hle : o + t.length ≤ s.length) :
  ∃ w', (Builtin.copy_ #[62, 9] ty #[.slice (some ⟨gb, o, none⟩) t.length dCap, S t]).run Try.prog w = .ok (goInt t.length) w' ∧ Own eB 5 w' 0 (some ⟨gb, 0, none⟩) c (s.take o ++ t ++ s.drop (o + t.length)) ∧ w.grownBy w' (some gb) := by
 rcases ho.2 with ⟨e, _⟩ | ⟨gb', cap, cur, e, hb, hg, hnc, hcm, hcs, htake⟩
 ·injection e with e; cases e
 injection e with e1 e2 e3
 injection e1 with e1
 injection e1 with e1
 subst e1 e3
 have hcs' : cur.size = c := by simpa [eB] using hcs
 have hsz : (⟨⟨t⟩⟩ : ByteArray).size = t.length := rfl
 have hlen : (s.take o ++ t ++ s.drop (o + t.length)).length = s.length := by simp; omega
 have hr := Lib.run_copy_row_string (P := Try.prog) w 62 9 ty 5 gb o t.length dCap ⟨⟨t⟩⟩ cur 5 Try.underlying62 (by obtain ⟨i, q1, _, q3, _⟩ := ti_u8.get; rw [q1]; simp [q3]) hg (Nat.le_refl _) (by rw [hsz]; omega)
 refine ⟨_, hr, ?_, ⟨rfl, rfl, rfl, by simp [World.setRow], fun k _ hk => setRow_other w gb k _ (fun e => hk (by simp [e]))⟩⟩
 refine ⟨flat_len eB _, .inr ⟨gb, c, _, by rw [hlen], hb, setRow_heap w gb cur _ 5 (0, 0) hg, by rw [hlen]; exact hnc, hcm, ?_, ?_⟩⟩
 ·have h1 : (Lib.byteCells t).length = t.length := by simp [Lib.byteCells]
  simp [h1, hsz, hcs', eB]
  omega
 ·have h1 : (Lib.byteCells t).length = t.length := by simp [Lib.byteCells]
  have e1 : cur.toList.take s.length = flat eB s := by simpa [eB] using htake
  have e2 : flat eB (s.take o ++ t ++ s.drop (o + t.length)) = (flat eB s).take o ++ Lib.byteCells t ++ (flat eB s).drop (o + t.length) := by
   have a1 := flat_take eB s o
   have a2 := flat_drop eB s (o + t.length)
   rw [flat_append, flat_append, flat_eB t]
   have hz : eB.sz = 1 := rfl
   rw [hz, Nat.mul_one] at a1 a2
   rw [← a1, ← a2]
  rw [e2, hlen, ← e1, show eB.sz = 1 from rfl, Nat.mul_one, List.toList_toArray]
  have h1' : (Lib.byteCells (⟨⟨t⟩⟩ : ByteArray).data.toList).length = t.length := h1
  have := splice cur.toList (Lib.byteCells (⟨⟨t⟩⟩ : ByteArray).data.toList) o s.length (by rw [h1']; omega) (by simp [hcs']; omega)
  rw [h1'] at this
  exact this
theorem D.sliceLH {P : Program} {n : Nat} {f : Fr} {w : World} {K : Fr → World → Prop} {d : Nat} {ty : TypeId} {pos : String} {af : Array Edge} {g : Option (Nat × Bool)} {t e gb m c : Nat} {x lo hi : Operand} {i j : Int} (ht : P.underlying t = some (.slice e)) (hs : ∀ w, (sizeOf e).run P w = .ok 1 w) (hx : evF f x = .slice (some ⟨gb, 0, none⟩) m c) (hlo : evF f lo = .int .i64 i) (hhi : evF f hi = .int .i64 j)
  (h0 : 0 ≤ i) (h1 : i ≤ j) (h2 : j ≤ c) (h3 : i < c) (hd : Nat.ble (d + 1) n = true) (k : K (upd f d (.slice (some ⟨gb, i.toNat, none⟩) (j.toNat - i.toNat) (c - i.toNat))) w) : Does P n ⟨some d, .slice t x (some lo) (some hi) none, ty, pos, af, g⟩ f w K := by
 obtain ⟨i', rfl⟩ := Int.eq_ofNat_of_zero_le h0
 obtain ⟨j', rfl⟩ := Int.eq_ofNat_of_zero_le (Int.le_trans h0 h1)
 have q1 : i' ≤ j' := by omega
 have q2 : j' ≤ c := by omega
 have q3 : ¬ c = i' := by omega
 exact D.val (v := .slice (some ⟨gb, i', none⟩) (j' - i') (c - i')) (w' := w) rfl hd (by simp [execOp, hx, hlo, hhi, Instr.sliceAt, Instr.slice, Instr.sliceBounds, Instr.sliceBound, asIntOf, run_underlying ht, hs w, q1, q2, q3, Addr.add_lit]) (by simpa using k)
theorem wire_Pack_Close.ok (st : Pack) (a : Int) (M : Nat → Prop) (b : Nat) (w : World) (H : okPack.is w M b st) (hp : wire_Pack_Close.pre st a) :
  Ret Try.prog 38 ([pt b 0, .int .i64 a] : List Value).toArray w fun v w' => ∃ M' : Nat → Prop, v = .int .i64 (wire_Pack_Close st a).1 ∧ okPack.is w' M' b (wire_Pack_Close st a).2 ∧ (∀ x, M' x → M x ∨ w.heap.size ≤ x) ∧ GrM w w' M := by
 unfold wire_Pack_Close.pre at hp
 refine enterX Try.func38 rfl Try.ntmps38 rfl (fun R hR => ?_)
 refine X.seq fun M1 hM => ?_
 refine X.region ?_
 refine XO.do rfl (D.asn (v := .int .i64 0) rfl rfl ?_)
 refine XO.nil ?_
 refine hM _ _ ?_
 have bad : (a < 2 ∨ (st.s.length : Int) < a) → wire_Pack_Close st a = (1, st) := fun h => if_pos h
 refine X.cut (fun f2 w2 => f2 0 = pt b 0 ∧ f2 1 = .int .i64 a ∧ okPack.is w2 M b st ∧ Ext w w2 ∧ 2 ≤ a ∧ a ≤ st.s.length) ?_ ?_
 ·refine X.seq fun M2 hM2 => ?_
  refine X.region ?_
  refine XO.do rfl (D.mv (v := .int .i64 a) rfl rfl ?_)
  refine XO.do rfl (D.lss rfl rfl rfl ?_)
  refine XO.do rfl (D.mv (v := .bool (decide (a < 2))) rfl rfl ?_)
  by_cases h2 : a < 2
  ·refine XO.off (wantG0 (j := 2) (b := false) rfl (decide_eq_true h2) rfl) rfl rfl ?_
   refine XO.off (wantG0 (j := 2) (b := false) rfl (decide_eq_true h2) rfl) rfl rfl ?_
   refine XO.off (wantG0 (j := 2) (b := false) rfl (decide_eq_true h2) rfl) rfl rfl ?_
   refine XO.off (wantG0 (j := 2) (b := false) rfl (decide_eq_true h2) rfl) rfl rfl ?_
   refine XO.do rfl (D.pick true (v := .bool true) (congrArg Value.bool (decide_eq_true h2)) rfl rfl ?_)
   refine XO.nil ?_
   refine hM2 _ _ ?_
   refine X.condT rfl ?_
   refine X.seq fun M3 hM3 => ?_
   refine X.region ?_
   refine XO.do rfl (D.asn (v := .int .i64 1) rfl rfl ?_)
   refine XO.nil ?_
   refine hM3 _ _ ?_
   refine X.ret ?_
   exact hR _ _ _ (ret1 (v := .int .i64 1) rfl rfl) ⟨M, by rw [bad (.inl h2)], by rw [bad (.inl h2)]; exact H, fun x hx => .inl hx, GrM.refl _ _⟩
  ·have hf := decide_eq_false h2
   refine XO.do (wantG (j := 2) (b := false) rfl hf rfl) (D.mv (v := .int .i64 a) rfl rfl ?_)
   refine XO.do (wantG (j := 2) (b := false) rfl hf rfl) (D.mv (v := pt b 0) rfl rfl ?_)
   refine XO.do (wantG (j := 2) (b := false) rfl hf rfl) (D.call (vs := [pt b 0]) (callable Try.func26 (by kernel_rfl) rfl) (wire_Pack_Len.ok st _ b w H) rfl rfl ?_)
   rintro _ w1 ⟨rfl, e1⟩
   refine XO.do (wantG (j := 2) (b := false) rfl hf rfl) (D.gtr rfl rfl rfl ?_)
   refine XO.do rfl (D.pick false (v := .bool (decide (wire_Pack_Len st < a))) (congrArg Value.bool hf) rfl rfl ?_)
   refine XO.nil ?_
   refine hM2 _ _ ?_
   by_cases h3 : wire_Pack_Len st < a
   ·have h3' : (st.s.length : Int) < a := h3
    refine X.condT (congrArg Value.bool (decide_eq_true h3)) ?_
    refine X.seq fun M3 hM3 => ?_
    refine X.region ?_
    refine XO.do rfl (D.asn (v := .int .i64 1) rfl rfl ?_)
    refine XO.nil ?_
    refine hM3 _ _ ?_
    refine X.ret ?_
    exact hR _ _ _ (ret1 (v := .int .i64 1) rfl rfl) ⟨M, by rw [bad (.inr h3')], by rw [bad (.inr h3')]; exact H.ext e1, fun x hx => .inl hx, GrM.ext e1 _⟩
   ·refine X.condF (congrArg Value.bool (decide_eq_false h3)) ?_
    refine X.skip ?_
    have h3' : ¬ (st.s.length : Int) < a := h3
    exact ⟨rfl, rfl, H.ext e1, e1, by omega, by omega⟩
 rintro f2 w2 ⟨s0, s1, H2, e2, ha1, ha2⟩
 obtain ⟨A, c, mb, h1, h2, h3, rfl⟩ := H2
 have hne : st.s ≠ [] := by intro e; rw [e] at ha2; simp at ha2; omega
 obtain ⟨gb, rfl⟩ := h2.at_ hne
 have hcap := h2.row.1
 have hcl : wire_Pack_Close st a = (0, { st with s := st.s.take (a.toNat - 2) ++ octet_Put16 (w16 (w64 ((st.s.length : Int) - a))) ++ st.s.drop a.toNat }) := if_neg (by omega)
 refine X.fr (d := 0) s0 ?_
 refine X.fr (d := 1) s1 ?_
 have h1c := h1.cs
 have ew : w64 (a - 2) = a - 2 := w64_id (by omega) (by omega)
 refine X.seq fun M3 hM3 => ?_
 refine X.tree mixedK [0, 1, 3, 7, 15, 0, 32, 0, 255, 0, 512, 1536, 3584, 7680, 15872, 0, 65024, 130560, 261632, 524287] (.q 0 (.q 1 (.q 2 (.q 3 (.q 4 (.q 5 (.q 6 (.q 7 (.q 8 (.q 9 (.q 10 (.q 11 (.q 12 (.q 13 (.q 14 (.q 15 (.q 16 (.q 17 (.q 18 (.alt 19 .nil .nil)))))))))))))))))))) (fun w' => True) (fun w' => Ext w2 w') (by decide +kernel) (fun w' hx _ => hx) (fun p q hC hx => hC.trans hx) (fun p hC => trivial) ?_
 refine QT.do (v := pt b 0) rfl (by decide +kernel) rfl rfl rfl (fun w' hJ => D.mv rfl rfl ⟨rfl, Ext.refl _⟩) ?_
 refine QT.do (v := pt b 0) rfl (by decide +kernel) rfl rfl rfl (fun w' hJ => D.nilCheck rfl rfl ⟨rfl, Ext.refl _⟩) ?_
 refine QT.do (v := pt b 0) rfl (by decide +kernel) rfl rfl rfl (fun w' hJ => D.fieldAddr (o' := 0) faP0 rfl rfl rfl ⟨rfl, Ext.refl _⟩) ?_
 refine QT.do (v := pt b 0) rfl (by decide +kernel) rfl rfl rfl (fun w' hJ => D.fieldAddr (o' := 0) faT0 rfl rfl rfl ⟨rfl, Ext.refl _⟩) ?_
 refine QT.do (v := .slice (some ⟨gb, 0, none⟩) st.s.length c) rfl (by decide +kernel) rfl rfl rfl (fun w' hJ => D.load (j := 0) sc_sl8 (h1c.ext hJ) rfl rfl rfl rfl ⟨rfl, Ext.refl _⟩) ?_
 refine QT.do (v := .int .i64 a) rfl (by decide +kernel) rfl rfl rfl (fun w' hJ => D.mv rfl rfl ⟨rfl, Ext.refl _⟩) ?_
 refine QT.do (v := .int .i64 (w64 (a - 2))) rfl (by decide +kernel) rfl rfl rfl (fun w' hJ => D.sub rfl rfl rfl ⟨rfl, Ext.refl _⟩) ?_
 refine QT.do (v := .int .i64 a) rfl (by decide +kernel) rfl rfl rfl (fun w' hJ => D.mv rfl rfl ⟨rfl, Ext.refl _⟩) ?_
 refine QT.do (v := .slice (some ⟨gb, (w64 (a - 2)).toNat, none⟩) (a.toNat - (w64 (a - 2)).toNat) (c - (w64 (a - 2)).toNat)) rfl (by decide +kernel) rfl rfl rfl (fun w' hJ => D.sliceLH Try.underlying62 (fun w => ti_u8.size w) rfl rfl rfl (by omega) (by omega) (by omega) (by omega) rfl ⟨rfl, Ext.refl _⟩) ?_
 refine QT.do (v := pt b 0) rfl (by decide +kernel) rfl rfl rfl (fun w' hJ => D.mv rfl rfl ⟨rfl, Ext.refl _⟩) ?_
 refine QT.do (v := pt b 0) rfl (by decide +kernel) rfl rfl rfl (fun w' hJ => D.nilCheck rfl rfl ⟨rfl, Ext.refl _⟩) ?_
 refine QT.do (v := pt b 0) rfl (by decide +kernel) rfl rfl rfl (fun w' hJ => D.fieldAddr (o' := 0) faP0 rfl rfl rfl ⟨rfl, Ext.refl _⟩) ?_
 refine QT.do (v := pt b 0) rfl (by decide +kernel) rfl rfl rfl (fun w' hJ => D.fieldAddr (o' := 0) faT0 rfl rfl rfl ⟨rfl, Ext.refl _⟩) ?_
 refine QT.do (v := .slice (some ⟨gb, 0, none⟩) st.s.length c) rfl (by decide +kernel) rfl rfl rfl (fun w' hJ => D.load (j := 0) sc_sl8 (h1c.ext hJ) rfl rfl rfl rfl ⟨rfl, Ext.refl _⟩) ?_
 refine QT.do (v := I st.s.length) rfl (by decide +kernel) rfl rfl rfl (fun w' hJ => D.lenR (A := some ⟨gb, 0, none⟩) (c := c) (m := st.s.length) Try.underlying62 rfl rfl ⟨rfl, Ext.refl _⟩) ?_
 refine QT.do (v := .int .i64 a) rfl (by decide +kernel) rfl rfl rfl (fun w' hJ => D.mv rfl rfl ⟨rfl, Ext.refl _⟩) ?_
 refine QT.do (v := .int .i64 (w64 ((st.s.length : Int) - a))) rfl (by decide +kernel) rfl rfl rfl (fun w' hJ => D.sub rfl rfl rfl ⟨rfl, Ext.refl _⟩) ?_
 refine QT.do (v := .int .u16 (w16 (w64 ((st.s.length : Int) - a)))) rfl (by decide +kernel) rfl rfl rfl (fun w' hJ => D.conv Try.underlying3 Try.underlying22 rfl rfl ⟨rfl, Ext.refl _⟩) ?_
 refine QT.do (v := S (octet_Put16 (w16 (w64 ((st.s.length : Int) - a))))) rfl (by decide +kernel) rfl rfl rfl (fun w' hJ => D.call (vs := [.int .u16 (w16 (w64 ((st.s.length : Int) - a)))]) (callable Try.func31 (by kernel_rfl) rfl) (octet_Put16.ok _ w') rfl rfl (by rintro _ w3 ⟨rfl, e3⟩; exact ⟨rfl, e3⟩)) ?_
 refine QT.eff rfl rfl (fun w3 hC => ?_) QT.nomore
 have h1' := h1.ext hC
 have h2' := h2.ext hC
 have h3' := h3.gr hC (by simp)
 obtain ⟨t, ht⟩ : ∃ t, octet_Put16 (w16 (w64 ((st.s.length : Int) - a))) = t := ⟨_, rfl⟩
 have htl : t.length = 2 := by rw [← ht]; rfl
 obtain ⟨w4, hrun, ho4, e4⟩ := own_copy (ty := 3) (t := t) (o := (w64 (a - 2)).toNat) (dCap := c - (w64 (a - 2)).toNat) h2' (by rw [htl, ew]; omega)
 rw [ht]
 rw [ht] at hcl
 refine D.builtinR (vs := [.slice (some ⟨gb, (w64 (a - 2)).toNat, none⟩) (a.toNat - (w64 (a - 2)).toNat) (c - (w64 (a - 2)).toNat), S t]) (u := goInt t.length) (w' := w4) rfl (fun cs => by
  rw [show a.toNat - (w64 (a - 2)).toNat = t.length by rw [htl, ew]; omega]
  simp only [builtin, Sem.run_bind, hrun, Result.andThen_ok, Sem.run_pure]) rfl ?_
 have hs' : (st.s.take (w64 (a - 2)).toNat ++ t ++ st.s.drop ((w64 (a - 2)).toNat + t.length)) = (wire_Pack_Close st a).2.s := by
  rw [hcl, htl, ew]
  simp only
  rw [show (a - 2).toNat = a.toNat - 2 by omega, show a.toNat - 2 + 2 = a.toNat by omega]
 rw [hs'] at ho4
 have hlen : (wire_Pack_Close st a).2.s.length = st.s.length := by rw [← hs']; simp [htl, ew]; omega
 have hb4 : Blk w4 b [.slice (some ⟨gb, 0, none⟩) (wire_Pack_Close st a).2.s.length c, .map (some mb)] 66 := by
  rw [hlen]; exact h1'.grown e4 (by intro e; injection e with e; exact own_blk_ne h2' h1' (by decide) gb rfl e.symm)
 have hm4 : MapIs w4 mb (keyMap (wire_Pack_Close st a).2.known) := by
  rw [hcl]; exact h3'.gr e4 (by intro e; injection e with e; exact h3'.ne_own h2' gb rfl e.symm)
 have hOK : okPack.is w4 (fun x => x = b ∨ x = mb ∨ MO (some ⟨gb, 0, none⟩) x) b (wire_Pack_Close st a).2 := ⟨some ⟨gb, 0, none⟩, c, mb, hb4, ho4, hm4, rfl⟩
 have hG : GrM w w4 (fun x => x = b ∨ x = mb ∨ MO (some ⟨gb, 0, none⟩) x) := (GrM.ext (e2.trans hC) _).step (GrM.of_grown (M := MO (some ⟨gb, 0, none⟩)) e4 (fun x e => e)) (fun x hx => .inl (.inr (.inr hx)))
 refine ⟨_, rfl, (fun w' => okPack.is w' (fun x => x = b ∨ x = mb ∨ MO (some ⟨gb, 0, none⟩) x) b (wire_Pack_Close st a).2 ∧ GrM w w' (fun x => x = b ∨ x = mb ∨ MO (some ⟨gb, 0, none⟩) x) ∧ True), ⟨hOK, hG, trivial⟩, (fun p q hp hx => ⟨hp.1.ext hx, gm_ext hp.2.1 hx, trivial⟩), ?_, ?_⟩
 ·exact fun _ _ => trivial
 refine QT.nil fun w5 hC5 => ?_
 refine hM3 _ _ ?_
 refine X.seq fun M4 hM4 => ?_
 refine X.region ?_
 refine XO.do rfl (D.asn (v := .int .i64 0) rfl rfl ?_)
 refine XO.nil ?_
 refine hM4 _ _ ?_
 refine X.ret ?_
 exact hR _ _ _ (ret1 (v := .int .i64 0) rfl rfl) ⟨_, by rw [hcl], hC5.1, fun x hx => .inl hx, hC5.2.1⟩
end Go.Proofs.Ytfcaekghpkpjdaa.K
