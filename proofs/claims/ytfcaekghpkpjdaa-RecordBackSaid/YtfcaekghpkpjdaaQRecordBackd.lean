/- Part 4 of what the row of RecordBack leans on: a library of walks, the pure functions, the walks of the functions. -/
import Derived.Test.YtfcaekghpkpjdaaProg
import Derived.Lib.BufferWrite
import Derived.Test.YtfcaekghpkpjdaaQRecordBackc
/- Walks, printed by a program of this session. -/
namespace Go.Proofs.Ytfcaekghpkpjdaa.K
open Go Go.RowKit Go.Proofs
set_option linter.unusedVariables false
set_option maxRecDepth 100000
set_option maxHeartbeats 4000000
namespace FC3
theorem cf55 : Callable Try.prog 55 := callable Try.func55 (by kernel_rfl) rfl
end FC3
open FC3

theorem rdata_May.walk (a1 : Int) (a2 : Str)  (w : World)  (res : Bool) (h : rdata_May.f a1 a2 = some res) :
    Ret Try.prog 28 ([.int .u16 a1, S a2] : List Value).toArray w fun v w' => v = .bool res ∧ Ext w w' := by
  unfold rdata_May.f at h
  refine enterX Try.func28 rfl Try.ntmps28 rfl (fun R hR => ?_)
  have hB := Below.refl w.heap.size w
  refine X.seq fun M3 hM4 => ?_
  refine X.region ?_
  refine XO.do rfl (D.asn (v := .bool false) rfl rfl ?_)
  refine XO.nil ?_
  refine hM4 _ _ ?_
  refine X.seq fun M5 hM6 => ?_
  refine X.region ?_
  refine XO.do rfl (D.mv (v := .int .u16 a1) rfl rfl ?_)
  refine XO.do rfl (D.mv (v := S a2) rfl rfl ?_)
  rcases (Classical.em (rdata_cut.pre a1 a2)).symm with c7 | c7
  · rw [if_neg c7] at h; cases h
  rw [if_pos c7] at h
  obtain ⟨r11, q12, h⟩ := lt_elim h
  have hc10 := rdata_cut.ok a1 a2 w c7 
  rw [q12] at hc10
  clear q12
  refine XO.do rfl (D.call (vs := [.int .u16 a1, S a2]) cf55 hc10 rfl rfl ?_)
  rintro _ w8 ⟨A13, k14, rfl, H15, g16, e9⟩
  clear hc10
  have z17 : ∀ y, blkOf A13 = some y → w.heap.size ≤ y := fun y hy => Nat.le_trans hB.size (g16 y hy)
  replace hB := below_ext hB e9
  clear e9
  refine XO.do rfl (D.mv (v := .tuple #[.slice A13 r11.1.length k14, .bool r11.2]) rfl rfl ?_)
  refine XO.do rfl (D.extract (v := .slice A13 r11.1.length k14) rfl rfl rfl ?_)
  refine XO.do rfl (D.extract (v := .bool r11.2) rfl rfl rfl ?_)
  refine XO.do rfl (D.asn (v := .slice A13 r11.1.length k14) rfl rfl ?_)
  refine XO.do rfl (D.asn (v := .bool r11.2) rfl rfl ?_)
  refine XO.nil ?_
  refine hM6 _ _ ?_
  refine X.seq fun M18 hM19 => ?_
  refine X.region ?_
  refine XO.do rfl (D.mv (v := .bool r11.2) rfl rfl ?_)
  refine XO.do rfl (D.mv (v := .bool r11.2) rfl rfl ?_)
  by_cases c20 : r11.2 = true
  · rw [if_pos c20] at h
    refine XO.do (wantG (j := 1) (b := true) rfl (c20) rfl) (D.mv (v := S a2) rfl rfl ?_)
    refine XO.do (wantG (j := 1) (b := true) rfl (c20) rfl) (D.lenS Try.underlying9 rfl rfl ?_)
    refine XO.do (wantG (j := 1) (b := true) rfl (c20) rfl) (D.leq rfl rfl rfl ?_)
    refine XO.do rfl (D.pick true (v := .bool (decide ((a2.length : Int) ≤ 65535))) (congrArg Value.bool (c20)) rfl rfl ?_)
    refine XO.do rfl (D.asn (v := .bool (decide ((a2.length : Int) ≤ 65535))) rfl rfl ?_)
    refine XO.nil ?_
    refine hM19 _ _ ?_
    refine X.ret ?_
    injection h with h
    subst h
    exact hR _ _ _ (ret1 (v := .bool (decide ((a2.length : Int) ≤ 65535))) rfl rfl) ⟨rfl, ext_of_below hB⟩
  · rw [if_neg c20] at h
    refine XO.off (wantG0 (j := 1) (b := true) rfl ((Bool.eq_false_iff.2 c20)) rfl) rfl rfl ?_
    refine XO.off (wantG0 (j := 1) (b := true) rfl ((Bool.eq_false_iff.2 c20)) rfl) rfl rfl ?_
    refine XO.off (wantG0 (j := 1) (b := true) rfl ((Bool.eq_false_iff.2 c20)) rfl) rfl rfl ?_
    refine XO.do rfl (D.pick false (v := .bool false) (congrArg Value.bool ((Bool.eq_false_iff.2 c20))) rfl rfl ?_)
    refine XO.do rfl (D.asn (v := .bool false) rfl rfl ?_)
    refine XO.nil ?_
    refine hM19 _ _ ?_
    refine X.ret ?_
    injection h with h
    subst h
    exact hR _ _ _ (ret1 (v := .bool false) rfl rfl) ⟨rfl, ext_of_below hB⟩
theorem rdata_May.ok (a1 : Int) (a2 : Str)  (w : World)  (hp : rdata_May.pre a1 a2) :
    Ret Try.prog 28 ([.int .u16 a1, S a2] : List Value).toArray w fun v w' => v = .bool (rdata_May a1 a2) ∧ Ext w w' := by
  have h := rdata_May.eq a1 a2 hp
  exact rdata_May.walk  a1 a2  w  _ h
end Go.Proofs.Ytfcaekghpkpjdaa.K

/- Walks, printed by a program of this session. -/
namespace Go.Proofs.Ytfcaekghpkpjdaa.K
open Go Go.RowKit Go.Proofs
set_option linter.unusedVariables false
set_option maxRecDepth 100000
set_option maxHeartbeats 4000000
namespace FE1
theorem ti25 : TI Try.prog 25 (.agg #[S [], .int .u16 0, .int .u16 0, .int .u32 0, S []]) 5 40 := by unfold TI; kernel_rfl
theorem ag25 : Agg Try.prog 25 5 := agg Try.underlying25 rfl ti25
theorem ti30 : TI Try.prog 30 (.agg #[S [], .int .u16 0, .int .u16 0]) 3 24 := by unfold TI; kernel_rfl
theorem ag30 : Agg Try.prog 30 3 := agg Try.underlying30 rfl ti30
theorem ti9 : TI Try.prog 9 (S []) 1 16 := by unfold TI; kernel_rfl
theorem ti22 : TI Try.prog 22 (.int .u16 0) 1 2 := by unfold TI; kernel_rfl
theorem bld30 : BuildIs Try.prog 30 #[(0, 1), (1, 1), (2, 1)] (Value.cells (.agg #[S [], .int .u16 0, .int .u16 0])) := buildIs Try.underlying30 ti30 (fun w => by simp [ti22.size, ti9.size])
theorem cf27 : Callable Try.prog 27 := callable Try.func27 (by kernel_rfl) rfl
theorem cf28 : Callable Try.prog 28 := callable Try.func28 (by kernel_rfl) rfl
theorem fa25_0 : FA Try.prog 25 0 0 := fa Try.underlying25 rfl ti9 rfl rfl
theorem fa25_1 : FA Try.prog 25 1 1 := fa Try.underlying25 rfl ti22 rfl rfl
theorem fa25_2 : FA Try.prog 25 2 2 := fa Try.underlying25 rfl ti22 rfl rfl
theorem ti23 : TI Try.prog 23 (.int .u32 0) 1 4 := by unfold TI; kernel_rfl
theorem fa25_3 : FA Try.prog 25 3 3 := fa Try.underlying25 rfl ti23 rfl rfl
theorem fa25_4 : FA Try.prog 25 4 4 := fa Try.underlying25 rfl ti9 rfl rfl
theorem fa30_0 : FA Try.prog 30 0 0 := fa Try.underlying30 rfl ti9 rfl rfl
theorem sc22 : Sca Try.prog 22 := sca Try.underlying22 rfl
theorem sc23 : Sca Try.prog 23 := sca Try.underlying23 rfl
theorem sc9 : Sca Try.prog 9 := sca Try.underlying9 rfl
theorem sz23 : ∀ w, (sizeOf 23).run Try.prog w = .ok 1 w := fun w => ti23.size w
theorem sz30 : ∀ w, (sizeOf 30).run Try.prog w = .ok 3 w := fun w => ti30.size w
end FE1
open FE1

theorem record_May.walk (a1 : RR)  (w : World)  (res : Bool) (h : record_May.f a1 = some res) :
    Ret Try.prog 11 ([.agg #[S a1.name, .int .u16 a1.ty, .int .u16 a1.cls, .int .u32 a1.ttl, S a1.data]] : List Value).toArray w fun v w' => v = .bool res ∧ Ext w w' := by
  unfold record_May.f at h
  refine enterX Try.func11 rfl Try.ntmps11 rfl (fun R hR => ?_)
  have hB := Below.refl w.heap.size w
  refine X.seq fun M2 hM3 => ?_
  refine X.region ?_
  refine XO.do rfl (D.box (v := .agg #[S a1.name, .int .u16 a1.ty, .int .u16 a1.cls, .int .u32 a1.ttl, S a1.data]) (cs := [S a1.name, .int .u16 a1.ty, .int .u16 a1.cls, .int .u32 a1.ttl, S a1.data]) rfl rfl rfl ?_)
  intro b4 w5 hb6 H7 e8 _
  have g9 : w.heap.size ≤ b4 := Nat.le_trans hB.size (Nat.le_of_eq hb6.symm)
  clear hb6
  replace hB := below_ext hB e8
  clear e8
  refine XO.do rfl (D.asn (v := .bool false) rfl rfl ?_)
  refine XO.nil ?_
  refine hM3 _ _ ?_
  refine X.seq fun M10 hM11 => ?_
  refine X.region ?_
  refine XO.do rfl (D.fieldAddr (o' := 0) fa25_0 rfl rfl rfl ?_)
  refine XO.do rfl (D.load (j := 0) (v := S a1.name) sc9 H7.cs rfl rfl rfl rfl ?_)
  rcases (Classical.em (name_May.pre a1.name)).symm with c12 | c12
  · rw [if_neg c12] at h; cases h
  rw [if_pos c12] at h
  obtain ⟨r16, q17, h⟩ := lt_elim h
  have hc15 := name_May.ok a1.name w5 c12 
  rw [q17] at hc15
  clear q17
  refine XO.do rfl (D.call (vs := [S a1.name]) cf27 hc15 rfl rfl ?_)
  rintro _ w13 ⟨rfl, e14⟩
  clear hc15
  replace hB := below_ext hB e14
  replace H7 := H7.ext e14
  clear e14
  refine XO.do rfl (D.mv (v := .bool r16) rfl rfl ?_)
  by_cases c18 : r16 = true
  · rw [if_pos c18] at h
    refine XO.do (wantG (j := 3) (b := true) rfl (c18) rfl) (D.fieldAddr (o' := 1) fa25_1 rfl rfl rfl ?_)
    refine XO.do (wantG (j := 3) (b := true) rfl (c18) rfl) (D.load (j := 1) (v := .int .u16 a1.ty) sc22 H7.cs rfl rfl rfl rfl ?_)
    refine XO.do (wantG (j := 3) (b := true) rfl (c18) rfl) (D.fieldAddr (o' := 4) fa25_4 rfl rfl rfl ?_)
    refine XO.do (wantG (j := 3) (b := true) rfl (c18) rfl) (D.load (j := 4) (v := S a1.data) sc9 H7.cs rfl rfl rfl rfl ?_)
    rcases (Classical.em (rdata_May.pre a1.ty a1.data)).symm with c19 | c19
    · rw [if_neg c19] at h; cases h
    rw [if_pos c19] at h
    obtain ⟨r23, q24, h⟩ := lt_elim h
    have hc22 := rdata_May.ok a1.ty a1.data w13 c19 
    rw [q24] at hc22
    clear q24
    refine XO.do (wantG (j := 3) (b := true) rfl (c18) rfl) (D.call (vs := [.int .u16 a1.ty, S a1.data]) cf28 hc22 rfl rfl ?_)
    rintro _ w20 ⟨rfl, e21⟩
    clear hc22
    replace hB := below_ext hB e21
    replace H7 := H7.ext e21
    clear e21
    refine XO.do rfl (D.pick true (v := .bool r23) (congrArg Value.bool (c18)) rfl rfl ?_)
    refine XO.do rfl (D.asn (v := .bool r23) rfl rfl ?_)
    refine XO.nil ?_
    refine hM11 _ _ ?_
    refine X.ret ?_
    injection h with h
    subst h
    exact hR _ _ _ (ret1 (v := .bool r23) rfl rfl) ⟨rfl, ext_of_below hB⟩
  · rw [if_neg c18] at h
    refine XO.off (wantG0 (j := 3) (b := true) rfl ((Bool.eq_false_iff.2 c18)) rfl) rfl rfl ?_
    refine XO.off (wantG0 (j := 3) (b := true) rfl ((Bool.eq_false_iff.2 c18)) rfl) rfl rfl ?_
    refine XO.off (wantG0 (j := 3) (b := true) rfl ((Bool.eq_false_iff.2 c18)) rfl) rfl rfl ?_
    refine XO.off (wantG0 (j := 3) (b := true) rfl ((Bool.eq_false_iff.2 c18)) rfl) rfl rfl ?_
    refine XO.off (wantG0 (j := 3) (b := true) rfl ((Bool.eq_false_iff.2 c18)) rfl) rfl rfl ?_
    refine XO.do rfl (D.pick false (v := .bool false) (congrArg Value.bool ((Bool.eq_false_iff.2 c18))) rfl rfl ?_)
    refine XO.do rfl (D.asn (v := .bool false) rfl rfl ?_)
    refine XO.nil ?_
    refine hM11 _ _ ?_
    refine X.ret ?_
    injection h with h
    subst h
    exact hR _ _ _ (ret1 (v := .bool false) rfl rfl) ⟨rfl, ext_of_below hB⟩
theorem record_May.ok (a1 : RR)  (w : World)  (hp : record_May.pre a1) :
    Ret Try.prog 11 ([.agg #[S a1.name, .int .u16 a1.ty, .int .u16 a1.cls, .int .u32 a1.ttl, S a1.data]] : List Value).toArray w fun v w' => v = .bool (record_May a1) ∧ Ext w w' := by
  have h := record_May.eq a1 hp
  exact record_May.walk  a1  w  _ h

theorem record_MayQ.walk (a1 : Question)  (w : World)  (res : Bool) (h : record_MayQ.f a1 = some res) :
    Ret Try.prog 23 ([.agg #[S a1.name, .int .u16 a1.ty, .int .u16 a1.cls]] : List Value).toArray w fun v w' => v = .bool res ∧ Ext w w' := by
  unfold record_MayQ.f at h
  refine enterX Try.func23 rfl Try.ntmps23 rfl (fun R hR => ?_)
  have hB := Below.refl w.heap.size w
  refine X.seq fun M2 hM3 => ?_
  refine X.region ?_
  refine XO.do rfl (D.box (v := .agg #[S a1.name, .int .u16 a1.ty, .int .u16 a1.cls]) (cs := [S a1.name, .int .u16 a1.ty, .int .u16 a1.cls]) rfl rfl rfl ?_)
  intro b4 w5 hb6 H7 e8 _
  have g9 : w.heap.size ≤ b4 := Nat.le_trans hB.size (Nat.le_of_eq hb6.symm)
  clear hb6
  replace hB := below_ext hB e8
  clear e8
  refine XO.do rfl (D.asn (v := .bool false) rfl rfl ?_)
  refine XO.nil ?_
  refine hM3 _ _ ?_
  refine X.seq fun M10 hM11 => ?_
  refine X.region ?_
  refine XO.do rfl (D.fieldAddr (o' := 0) fa30_0 rfl rfl rfl ?_)
  refine XO.do rfl (D.load (j := 0) (v := S a1.name) sc9 H7.cs rfl rfl rfl rfl ?_)
  rcases (Classical.em (name_May.pre a1.name)).symm with c12 | c12
  · rw [if_neg c12] at h; cases h
  rw [if_pos c12] at h
  obtain ⟨r16, q17, h⟩ := lt_elim h
  have hc15 := name_May.ok a1.name w5 c12 
  rw [q17] at hc15
  clear q17
  refine XO.do rfl (D.call (vs := [S a1.name]) cf27 hc15 rfl rfl ?_)
  rintro _ w13 ⟨rfl, e14⟩
  clear hc15
  replace hB := below_ext hB e14
  replace H7 := H7.ext e14
  clear e14
  refine XO.do rfl (D.asn (v := .bool r16) rfl rfl ?_)
  refine XO.nil ?_
  refine hM11 _ _ ?_
  refine X.ret ?_
  injection h with h
  subst h
  exact hR _ _ _ (ret1 (v := .bool r16) rfl rfl) ⟨rfl, ext_of_below hB⟩
theorem record_MayQ.ok (a1 : Question)  (w : World)  (hp : record_MayQ.pre a1) :
    Ret Try.prog 23 ([.agg #[S a1.name, .int .u16 a1.ty, .int .u16 a1.cls]] : List Value).toArray w fun v w' => v = .bool (record_MayQ a1) ∧ Ext w w' := by
  have h := record_MayQ.eq a1 hp
  exact record_MayQ.walk  a1  w  _ h

theorem record_Key.walk (a1 : RR)  (w : World)  (res : Question) (h : record_Key a1 = res) :
    Ret Try.prog 10 ([.agg #[S a1.name, .int .u16 a1.ty, .int .u16 a1.cls, .int .u32 a1.ttl, S a1.data]] : List Value).toArray w fun v w' => v = .agg #[S res.name, .int .u16 res.ty, .int .u16 res.cls] ∧ Ext w w' := by
  unfold record_Key at h
  refine enterX Try.func10 rfl Try.ntmps10 rfl (fun R hR => ?_)
  have hB := Below.refl w.heap.size w
  refine X.seq fun M2 hM3 => ?_
  refine X.region ?_
  refine XO.do rfl (D.box (v := .agg #[S a1.name, .int .u16 a1.ty, .int .u16 a1.cls, .int .u32 a1.ttl, S a1.data]) (cs := [S a1.name, .int .u16 a1.ty, .int .u16 a1.cls, .int .u32 a1.ttl, S a1.data]) rfl rfl rfl ?_)
  intro b4 w5 hb6 H7 e8 _
  have g9 : w.heap.size ≤ b4 := Nat.le_trans hB.size (Nat.le_of_eq hb6.symm)
  clear hb6
  replace hB := below_ext hB e8
  clear e8
  refine XO.do rfl (D.alloc ti30 (cs := [S [], .int .u16 0, .int .u16 0]) rfl rfl ?_)
  intro b10 w11 hb12 H13 e14 _
  have lt_9_15 : ∀ x, MB b4 x → x < b10 := (MB.lt H7 (Nat.le_of_eq hb12.symm))
  have g15 : w.heap.size ≤ b10 := Nat.le_trans hB.size (Nat.le_of_eq hb12.symm)
  clear hb12
  replace hB := below_ext hB e14
  replace H7 := H7.ext e14
  clear e14
  refine XO.nil ?_
  refine hM3 _ _ ?_
  refine X.seq fun M16 hM17 => ?_
  refine X.region ?_
  refine XO.do rfl (D.fieldAddr (o' := 0) fa25_0 rfl rfl rfl ?_)
  refine XO.do rfl (D.load (j := 0) (v := S a1.name) sc9 H7.cs rfl rfl rfl rfl ?_)
  refine XO.do rfl (D.fieldAddr (o' := 1) fa25_1 rfl rfl rfl ?_)
  refine XO.do rfl (D.load (j := 1) (v := .int .u16 a1.ty) sc22 H7.cs rfl rfl rfl rfl ?_)
  refine XO.do rfl (D.fieldAddr (o' := 2) fa25_2 rfl rfl rfl ?_)
  refine XO.do rfl (D.load (j := 2) (v := .int .u16 a1.cls) sc22 H7.cs rfl rfl rfl rfl ?_)
  refine XO.do rfl (D.build (vs := [(0, S a1.name), (1, .int .u16 a1.ty), (2, .int .u16 a1.cls)]) (cs := [S a1.name, .int .u16 a1.ty, .int .u16 a1.cls]) bld30 rfl rfl rfl ?_)
  refine XO.do rfl (D.store (v := .agg #[S a1.name, .int .u16 a1.ty, .int .u16 a1.cls]) (us := [S a1.name, .int .u16 a1.ty, .int .u16 a1.cls]) sz30 H13 rfl rfl rfl rfl rfl rfl ?_)
  intro w18 H19 e20
  replace hB := below_blk hB e20 g15
  replace H7 := H7.gr e20 (sepB (ne_of lt_9_15 (MB.ge b10)))
  clear e20
  refine XO.nil ?_
  refine hM17 _ _ ?_
  refine X.ret ?_
  subst h
  exact hR _ _ _ (retC ag30 H19 rfl rfl rfl) ⟨rfl, ext_of_below hB⟩
theorem record_Key.ok (a1 : RR)  (w : World)  :
    Ret Try.prog 10 ([.agg #[S a1.name, .int .u16 a1.ty, .int .u16 a1.cls, .int .u32 a1.ttl, S a1.data]] : List Value).toArray w fun v w' => v = .agg #[S ((record_Key a1).name), .int .u16 ((record_Key a1).ty), .int .u16 ((record_Key a1).cls)] ∧ Ext w w' := record_Key.walk a1  w  _ rfl

theorem record_Same.walk (a1 : RR) (a2 : RR)  (w : World)  (res : Bool) (h : record_Same a1 a2 = res) :
    Ret Try.prog 9 ([.agg #[S a1.name, .int .u16 a1.ty, .int .u16 a1.cls, .int .u32 a1.ttl, S a1.data], .agg #[S a2.name, .int .u16 a2.ty, .int .u16 a2.cls, .int .u32 a2.ttl, S a2.data]] : List Value).toArray w fun v w' => v = .bool res ∧ Ext w w' := by
  unfold record_Same at h
  refine enterX Try.func9 rfl Try.ntmps9 rfl (fun R hR => ?_)
  have hB := Below.refl w.heap.size w
  refine X.seq fun M3 hM4 => ?_
  refine X.region ?_
  refine XO.do rfl (D.box (v := .agg #[S a1.name, .int .u16 a1.ty, .int .u16 a1.cls, .int .u32 a1.ttl, S a1.data]) (cs := [S a1.name, .int .u16 a1.ty, .int .u16 a1.cls, .int .u32 a1.ttl, S a1.data]) rfl rfl rfl ?_)
  intro b5 w6 hb7 H8 e9 _
  have g10 : w.heap.size ≤ b5 := Nat.le_trans hB.size (Nat.le_of_eq hb7.symm)
  clear hb7
  replace hB := below_ext hB e9
  clear e9
  refine XO.do rfl (D.box (v := .agg #[S a2.name, .int .u16 a2.ty, .int .u16 a2.cls, .int .u32 a2.ttl, S a2.data]) (cs := [S a2.name, .int .u16 a2.ty, .int .u16 a2.cls, .int .u32 a2.ttl, S a2.data]) rfl rfl rfl ?_)
  intro b11 w12 hb13 H14 e15 _
  have lt_10_16 : ∀ x, MB b5 x → x < b11 := (MB.lt H8 (Nat.le_of_eq hb13.symm))
  have g16 : w.heap.size ≤ b11 := Nat.le_trans hB.size (Nat.le_of_eq hb13.symm)
  clear hb13
  replace hB := below_ext hB e15
  replace H8 := H8.ext e15
  clear e15
  refine XO.do rfl (D.asn (v := .bool false) rfl rfl ?_)
  refine XO.nil ?_
  refine hM4 _ _ ?_
  refine X.seq fun M17 hM18 => ?_
  refine X.region ?_
  refine XO.do rfl (D.fieldAddr (o' := 3) fa25_3 rfl rfl rfl ?_)
  refine XO.do rfl (D.load (j := 3) (v := .int .u32 a2.ttl) sc23 H14.cs rfl rfl rfl rfl ?_)
  refine XO.do rfl (D.fieldAddr (o' := 3) fa25_3 rfl rfl rfl ?_)
  refine XO.do rfl (D.store (v := .int .u32 a2.ttl) (us := [S a1.name, .int .u16 a1.ty, .int .u16 a1.cls, .int .u32 a2.ttl, S a1.data]) sz23 H8 rfl rfl rfl rfl rfl rfl ?_)
  intro w19 H20 e21
  replace hB := below_blk hB e21 g10
  replace H14 := H14.gr e21 (sepB (ne_flip (ne_of lt_10_16 (MB.ge b11))))
  clear e21
  refine XO.nil ?_
  refine hM18 _ _ ?_
  refine X.seq fun M22 hM23 => ?_
  refine X.region ?_
  refine XO.do rfl (D.loadA (j := 0) (us := [S a1.name, .int .u16 a1.ty, .int .u16 a1.cls, .int .u32 a2.ttl, S a1.data]) ag25 H20.cs rfl rfl rfl rfl rfl ?_)
  refine XO.do rfl (D.loadA (j := 0) (us := [S a2.name, .int .u16 a2.ty, .int .u16 a2.cls, .int .u32 a2.ttl, S a2.data]) ag25 H14.cs rfl rfl rfl rfl rfl ?_)
  refine XO.do rfl (D.eqSt (eqRR (⟨a1.name, a1.ty, a1.cls, a2.ttl, a1.data⟩ : RR) a2) rfl rfl rfl ?_)
  refine XO.do rfl (D.asn (v := .bool (decide ((⟨a1.name, a1.ty, a1.cls, a2.ttl, a1.data⟩ : RR) = a2))) rfl rfl ?_)
  refine XO.nil ?_
  refine hM23 _ _ ?_
  refine X.ret ?_
  subst h
  exact hR _ _ _ (ret1 (v := .bool (decide ((⟨a1.name, a1.ty, a1.cls, a2.ttl, a1.data⟩ : RR) = a2))) rfl rfl) ⟨rfl, ext_of_below hB⟩
theorem record_Same.ok (a1 : RR) (a2 : RR)  (w : World)  :
    Ret Try.prog 9 ([.agg #[S a1.name, .int .u16 a1.ty, .int .u16 a1.cls, .int .u32 a1.ttl, S a1.data], .agg #[S a2.name, .int .u16 a2.ty, .int .u16 a2.cls, .int .u32 a2.ttl, S a2.data]] : List Value).toArray w fun v w' => v = .bool (record_Same a1 a2) ∧ Ext w w' := record_Same.walk a1 a2  w  _ rfl
end Go.Proofs.Ytfcaekghpkpjdaa.K

/- wire.Pack: what its methods do. -/
namespace Go.Proofs.Ytfcaekghpkpjdaa.K
open Go Go.RowKit Go.Proofs
set_option linter.unusedVariables false
set_option maxRecDepth 100000
set_option maxHeartbeats 4000000
def keyMap (m : List (Str × Int)) : List (Value × Value) := m.map fun p => (S p.1, Value.int .i64 p.2)
def isPack (w : World) (M : Nat → Prop) (b : Nat) (st : Pack) : Prop := ∃ (A : Option Go.Addr) (c mb : Nat), Blk w b [.slice A st.s.length c, .map (some mb)] 66 ∧ Own eB 5 w 0 A c st.s ∧ MapIs w mb (keyMap st.known) ∧ M = fun x => x = b ∨ x = mb ∨ MO A x
theorem MapIs.ne_blk {w : World} {b mb : Nat} {cs : List Value} {T : TypeId} {m : List (Value × Value)} (h : MapIs w mb m) (hb : Blk w b cs T) : mb ≠ b := by
  obtain ⟨es, cl, h, _⟩ := h
  intro e; exact blk_ne_obj hb h (by intro _ _ _ e; cases e) e.symm
theorem MapIs.ne_own {α : Type} {E : En α} {T : TypeId} {w : World} {base c mb : Nat} {A : Option Go.Addr} {xs : List α} {m : List (Value × Value)} (h : MapIs w mb m) (ho : Own E T w base A c xs) : ∀ x, MO A x → x ≠ mb := by
  obtain ⟨es, cl, h, _⟩ := h
  exact own_ne_obj ho h (by intro _ _ _ e; cases e)
noncomputable def okPack : OK Pack where
  is := isPack
  lt' := by
    rintro w M b st ⟨A, c, mb, h1, h2, h3, rfl⟩ x (rfl | rfl | hx)
    · exact h1.lt
    · exact h3.lt
    · exact (h2.base x hx).2
  gm' := by
    rintro w w' M b st M' ⟨A, c, mb, h1, h2, h3, rfl⟩ k hne
    exact ⟨A, c, mb, h1.gm k (fun x e => hne x (.inl e)), h2.gm k (fun x e => hne x (.inr (.inr e))), h3.gm k (hne _ (.inr (.inl rfl))), rfl⟩
theorem bldPack : BuildIs Try.prog 66 #[(0, 1), (1, 1)] (Value.cells (.agg #[.slice none 0 0, .map none])) := buildIs Try.underlying66 (by unfold TI; kernel_rfl : TI Try.prog 66 (.agg #[.slice none 0 0, .map none]) 2 32) (fun w => by simp [(by unfold TI; kernel_rfl : TI Try.prog 64 (.agg #[.slice none 0 0]) 1 24).size, (by unfold TI; kernel_rfl : TI Try.prog 61 (.map none) 1 8).size])
theorem wire_New.ok (w : World) : Ret Try.prog 12 ([] : List Value).toArray w fun v w' => ∃ (M' : Nat → Prop) (b : Nat), v = pt b 0 ∧ okPack.is w' M' b wire_New ∧ (∀ y, M' y → w.heap.size ≤ y) ∧ Ext w w' := by
  refine enterX Try.func12 rfl Try.ntmps12 rfl (fun R hR => ?_)
  refine X.seq fun M hM => ?_
  refine X.region ?_
  refine XO.do rfl (D.asn (v := .pointer none) rfl rfl ?_)
  refine XO.nil ?_
  refine hM _ _ ?_
  refine X.seq fun M hM => ?_
  refine X.region ?_
  refine XO.do rfl (D.makeMap (kt := 9) (et := 3) rfl ?_)
  intro mb w1 hmb hm e1
  refine XO.do rfl (D.build (vs := [(1, .map (some mb))]) (cs := [.slice none 0 0, .map (some mb)]) bldPack rfl rfl rfl ?_)
  refine XO.do rfl (D.box (v := .agg #[.slice none 0 0, .map (some mb)]) (cs := [.slice none 0 0, .map (some mb)]) rfl rfl rfl ?_)
  intro b w2 hb H e2 _
  refine XO.do rfl (D.asn (v := pt b 0) rfl rfl ?_)
  refine XO.nil ?_
  refine hM _ _ ?_
  refine X.ret ?_
  have hs := World.grownBy.size e1
  exact hR _ _ _ (ret1 (v := pt b 0) rfl rfl) ⟨fun x => x = b ∨ x = mb ∨ MO none x, b, rfl, ⟨none, 0, mb, H, Own.nil _ _ _ _, hm.gr e2 (by simp), rfl⟩, by
    rintro y (h | h | h)
    · omega
    · omega
    · simp [MO, blkOf] at h, e1.trans e2⟩
theorem tiText : TI Try.prog 64 (.agg #[.slice none 0 0]) 1 24 := by unfold TI; kernel_rfl
theorem faP0 : FA Try.prog 66 0 0 := fa Try.underlying66 rfl tiText rfl rfl
theorem tiMapSI : TI Try.prog 61 (.map none) 1 8 := by unfold TI; kernel_rfl
theorem faP1 : FA Try.prog 66 1 1 := fa Try.underlying66 rfl tiMapSI rfl rfl
theorem faT0 : FA Try.prog 64 0 0 := fa Try.underlying64 rfl ti_sl8 rfl rfl
/-- A pack whose bytes grow: the row first, then the block. -/
theorem pack_add {w w3 w4 : World} {b c c' mb : Nat} {A A' : Option Go.Addr} {st : Pack} {s : Str} (h1 : Blk w b [.slice A st.s.length c, .map (some mb)] 66) (h2 : Own eB 5 w 0 A c st.s) (h3 : MapIs w mb (keyMap st.known))
    (ho : Own eB 5 w3 0 A' c' (st.s ++ s)) (e3 : w.grownBy w3 (blkOf A)) (hat : ∀ x, MO A' x → MO A x ∨ w.heap.size ≤ x) (H4 : Blk w4 b [.slice A' (st.s ++ s).length c', .map (some mb)] 66) (e4 : Chg w3 w4 b) (hb3 : Blk w3 b [.slice A st.s.length c, .map (some mb)] 66) :
    ∃ M' : Nat → Prop, okPack.is w4 M' b (wire_Pack_Add st s) ∧ (∀ x, M' x → (x = b ∨ x = mb ∨ MO A x) ∨ w.heap.size ≤ x) ∧ GrM w w4 (fun x => x = b ∨ x = mb ∨ MO A x) := by
  have h33 := h3.gr e3 (fun e => h3.ne_own h2 _ e.symm rfl)
  refine ⟨fun x => x = b ∨ x = mb ∨ MO A' x, ⟨A', c', mb, H4, ho.gr e4 (fun x hx e => by injection e with e; exact own_blk_ne ho hb3 (by decide) x hx e), h33.gr e4 (by intro e; injection e with e; exact h33.ne_blk hb3 e), rfl⟩, ?_, ?_⟩
  · rintro x (h | h | h)
    · exact .inl (.inl h)
    · exact .inl (.inr (.inl h))
    · exact (hat x h).imp (fun h => .inr (.inr h)) id
  · exact (GrM.of_grown (M := fun x => x = b ∨ x = mb ∨ MO A x) e3 (fun x e => .inr (.inr e))).step (GrM.of_grown (M := fun x => x = b) e4 (fun x e => by injection e with e; exact e.symm)) (fun x hx => .inl (.inl hx))
theorem run_append_str' {w : World} {A : Option Go.Addr} {c : Nat} {xs s : Str} {ty : TypeId} (ho : Own eB 5 w 0 A c xs) (hl : xs.length + s.length ≤ 140737488355328) :
    ∃ A' c' w', (Builtin.append_ #[62, 9] ty #[.slice A xs.length c, S s]).run Try.prog w = .ok (.slice A' (xs ++ s).length c') w' ∧ Own eB 5 w' 0 A' c' (xs ++ s) ∧ w.grownBy w' (blkOf A) ∧ (∀ x, MO A' x → MO A x ∨ w.heap.size ≤ x) := by
  obtain ⟨A', c', w', h1, h2, h3⟩ := run_append_str (ty := ty) ho hl (Nat.zero_le _)
  refine ⟨A', c', w', h1, h2, h3, ?_⟩
  obtain ⟨i, hi1, hi2, hi3, hi4⟩ := ti_u8.get
  have hsz : (⟨⟨s⟩⟩ : ByteArray).size = s.length := rfl
  rcases ho.2 with ⟨e, e'⟩ | ⟨gb, cap, cur, e, hb, hg, hnc, hcm, hcs, htake⟩
  · injection e with e1 e2 e3
    subst e1 e3
    have hx : xs = [] := List.eq_nil_of_length_eq_zero e'
    subst hx
    obtain ⟨A2, c2, w2, q1, q2, q3⟩ := run_append_str (s := s) (ty := ty) (Own.nil eB 5 w w.heap.size) hl (Nat.le_refl _)
    have hq := h1.symm.trans q1
    injection hq with hq1 hq2
    injection hq1 with hA _ _
    subst hA
    intro x hx
    exact .inr (q2.base x hx).1
  · injection e with e1 e2 e3
    subst e1 e3
    have hcs2 : cur.size = c := by simpa [eB] using hcs
    by_cases hroom : xs.length + s.length ≤ c
    · have hr := Lib.run_append_room_string (P := Try.prog) w 62 9 ty 5 i Try.underlying62 Try.underlying9 hi1 hi3 gb xs.length c cur hg ⟨⟨s⟩⟩ hroom (by rw [hsz]; omega)
      have hq := h1.symm.trans hr
      injection hq with hq1 hq2
      injection hq1 with hA _ _
      subst hA
      exact fun x hx => .inl hx
    · have hr := Lib.run_append_grow_string (P := Try.prog) w 62 9 ty 5 i (.int .u8 0) Try.underlying62 Try.underlying9 hi1 hi2 ⟨gb, 0, none⟩ xs.length c (flat eB xs) (by rw [flat_len, hi3]; rfl) (fun j v hv => ho.cells (g := gb) rfl j v hv) ⟨⟨s⟩⟩ (by rw [hsz]; omega) (by rw [hsz]; omega) (by rw [hi4, hsz]; exact growslice_fits (by omega) (by omega))
      have hq := h1.symm.trans hr
      injection hq with hq1 hq2
      injection hq1 with hA _ _
      subst hA
      intro x hx
      simp only [MO, blkOf, Option.map_some, Option.some.injEq] at hx
      exact .inr (Nat.le_of_eq hx)
theorem wire_Pack_Add.ok (st : Pack) (s : Str) (M : Nat → Prop) (b : Nat) (w : World) (H : okPack.is w M b st) (hp : wire_Pack_Add.pre st s) :
    Ret Try.prog 30 ([pt b 0, S s] : List Value).toArray w fun v w' => ∃ M' : Nat → Prop, v = .tuple #[] ∧ okPack.is w' M' b (wire_Pack_Add st s) ∧ (∀ x, M' x → M x ∨ w.heap.size ≤ x) ∧ GrM w w' M := by
  obtain ⟨A, c, mb, h1, h2, h3, rfl⟩ := H
  unfold wire_Pack_Add.pre at hp
  refine enterX Try.func30 rfl Try.ntmps30 rfl (fun R hR => ?_)
  refine X.seq fun M hM => ?_
  refine X.region ?_
  refine XO.do rfl (D.mv (v := pt b 0) rfl rfl ?_)
  refine XO.do rfl (D.neqPnil (p := some ⟨b, 0, none⟩) Try.underlying35 rfl rfl rfl ?_)
  refine XO.nil ?_
  refine hM _ _ ?_
  refine X.condT rfl ?_
  refine X.region ?_
  refine XO.do rfl (D.mv (v := pt b 0) rfl rfl ?_)
  refine XO.do rfl (D.mv (v := pt b 0) rfl rfl ?_)
  refine XO.do rfl (D.nilCheck rfl rfl ?_)
  refine XO.do rfl (D.fieldAddr (o' := 0) faP0 rfl rfl rfl ?_)
  refine XO.do rfl (D.fieldAddr (o' := 0) faT0 rfl rfl rfl ?_)
  refine XO.do rfl (D.load (j := 0) (v := .slice A st.s.length c) sc_sl8 h1.cs rfl rfl rfl rfl ?_)
  refine XO.do rfl (D.mv (v := S s) rfl rfl ?_)
  obtain ⟨A', c', w3, hrun, ho3, e3, hat⟩ := run_append_str' (ty := 62) (s := s) h2 (by omega)
  refine XO.do rfl (D.builtinR (vs := [.slice A st.s.length c, S s]) (u := .slice A' (st.s ++ s).length c') (w' := w3) rfl (fun cs => by simp only [builtin, Sem.run_bind, hrun, Result.andThen_ok, Sem.run_pure]) rfl ?_)
  have hb3 := h1.gr e3 (fun x hx e => by cases hx; exact own_blk_ne h2 h1 (by decide) _ e.symm rfl)
  refine XO.do rfl (D.nilCheck rfl rfl ?_)
  refine XO.do rfl (D.fieldAddr (o' := 0) faP0 rfl rfl rfl ?_)
  refine XO.do rfl (D.fieldAddr (o' := 0) faT0 rfl rfl rfl ?_)
  refine XO.do rfl (D.store (v := .slice A' (st.s ++ s).length c') (us := [.slice A' (st.s ++ s).length c', .map (some mb)]) (fun w => ti_sl8.size w) hb3 rfl rfl rfl rfl rfl rfl ?_)
  intro w4 H4 e4
  refine XO.nil ?_
  obtain ⟨M', q1, q2, q3⟩ := pack_add h1 h2 h3 ho3 e3 hat H4 e4 hb3
  exact hR _ _ _ (ret0 rfl) ⟨M', rfl, q1, q2, q3⟩
theorem flat_bytesI (s : Str) : flat (eInt .u8) (bytesI s) = flat eB s := by
  induction s with
  | nil => rfl
  | cons a s ih => simp only [bytesI, List.map_cons, flat, List.flatMap_cons] at ih ⊢; rw [ih]; rfl
theorem rowB {w : World} {A : Option Go.Addr} {c : Nat} {s : Str} (h : Row eB w A c s) : Row (eInt .u8) w A c (bytesI s) := by
  refine ⟨by simpa [bytesI] using h.1, h.2.1, ?_⟩
  rcases h.2.2 with rfl | ⟨b, o, e, hc⟩
  · exact .inl rfl
  · exact .inr ⟨b, o, e, by rw [flat_bytesI]; exact hc⟩
theorem strOf_bytesI (s : Str) : strOf (bytesI s) = s := by
  simp only [strOf, bytesI, List.map_map]
  induction s with
  | nil => rfl
  | cons a s ih => simp only [List.map_cons, ih]; congr 1; simp
theorem wire_Pack_Len.ok (st : Pack) (M : Nat → Prop) (b : Nat) (w : World) (H : okPack.is w M b st) :
    Ret Try.prog 26 ([pt b 0] : List Value).toArray w fun v w' => v = .int .i64 (wire_Pack_Len st) ∧ Ext w w' := by
  obtain ⟨A, c, mb, h1, h2, h3, rfl⟩ := H
  refine enterX Try.func26 rfl Try.ntmps26 rfl (fun R hR => ?_)
  refine X.seq fun M hM => ?_
  refine X.region ?_
  refine XO.do rfl (D.asn (v := I 0) rfl rfl ?_)
  refine XO.nil ?_
  refine hM _ _ ?_
  refine X.seq fun M hM => ?_
  refine X.seq fun M2 hM2 => ?_
  refine X.region ?_
  refine XO.do rfl (D.mv (v := pt b 0) rfl rfl ?_)
  refine XO.do rfl (D.eqlPnil (p := some ⟨b, 0, none⟩) Try.underlying35 rfl rfl rfl ?_)
  refine XO.nil ?_
  refine hM2 _ _ ?_
  refine X.condF rfl ?_
  refine X.skip ?_
  refine hM _ _ ?_
  refine X.seq fun M3 hM3 => ?_
  refine X.region ?_
  refine XO.do rfl (D.mv (v := pt b 0) rfl rfl ?_)
  refine XO.do rfl (D.nilCheck rfl rfl ?_)
  refine XO.do rfl (D.fieldAddr (o' := 0) faP0 rfl rfl rfl ?_)
  refine XO.do rfl (D.fieldAddr (o' := 0) faT0 rfl rfl rfl ?_)
  refine XO.do rfl (D.load (j := 0) (v := .slice A st.s.length c) sc_sl8 h1.cs rfl rfl rfl rfl ?_)
  refine XO.do rfl (D.lenR (A := A) (c := c) (m := st.s.length) Try.underlying62 rfl rfl ?_)
  refine XO.do rfl (D.asn (v := I st.s.length) rfl rfl ?_)
  refine XO.nil ?_
  refine hM3 _ _ ?_
  refine X.ret ?_
  exact hR _ _ _ (ret1 (v := I st.s.length) rfl rfl) ⟨rfl, Ext.refl _⟩
theorem wire_Pack_Out.ok (st : Pack) (M : Nat → Prop) (b : Nat) (w : World) (H : okPack.is w M b st) :
    Ret Try.prog 17 ([pt b 0] : List Value).toArray w fun v w' => v = S (wire_Pack_Out st) ∧ Ext w w' := by
  obtain ⟨A, c, mb, h1, h2, h3, rfl⟩ := H
  refine enterX Try.func17 rfl Try.ntmps17 rfl (fun R hR => ?_)
  refine X.seq fun M hM => ?_
  refine X.region ?_
  refine XO.do rfl (D.asn (v := S []) rfl rfl ?_)
  refine XO.nil ?_
  refine hM _ _ ?_
  refine X.seq fun M hM => ?_
  refine X.seq fun M2 hM2 => ?_
  refine X.region ?_
  refine XO.do rfl (D.mv (v := pt b 0) rfl rfl ?_)
  refine XO.do rfl (D.eqlPnil (p := some ⟨b, 0, none⟩) Try.underlying35 rfl rfl rfl ?_)
  refine XO.nil ?_
  refine hM2 _ _ ?_
  refine X.condF rfl ?_
  refine X.skip ?_
  refine hM _ _ ?_
  refine X.seq fun M3 hM3 => ?_
  refine X.region ?_
  refine XO.do rfl (D.mv (v := pt b 0) rfl rfl ?_)
  refine XO.do rfl (D.nilCheck rfl rfl ?_)
  refine XO.do rfl (D.fieldAddr (o' := 0) faP0 rfl rfl rfl ?_)
  refine XO.do rfl (D.fieldAddr (o' := 0) faT0 rfl rfl rfl ?_)
  have hlen : (bytesI st.s).length = st.s.length := by simp [bytesI]
  have h1' : Blk w b [.slice A (bytesI st.s).length c, .map (some mb)] 66 := by rw [hlen]; exact h1
  refine XO.do rfl (D.load (j := 0) (v := .slice A (bytesI st.s).length c) sc_sl8 h1'.cs rfl rfl rfl rfl ?_)
  refine XO.do rfl (D.strOf (m := 0) Try.underlying62 Try.underlying5 Try.underlying9 (rowB h2.row) rfl rfl ?_)
  refine XO.do rfl (D.asn (v := S (strOf (bytesI st.s))) rfl rfl ?_)
  refine XO.nil ?_
  refine hM3 _ _ ?_
  refine X.ret ?_
  exact hR _ _ _ (ret1 (v := S (strOf (bytesI st.s))) rfl rfl) ⟨by rw [strOf_bytesI]; rfl, Ext.refl _⟩
theorem wire_Pack_Mark.ok (st : Pack) (M : Nat → Prop) (b : Nat) (w : World) (H : okPack.is w M b st) (hp : wire_Pack_Mark.pre st) :
    Ret Try.prog 36 ([pt b 0] : List Value).toArray w fun v w' => ∃ M' : Nat → Prop, v = .int .i64 (wire_Pack_Mark st).1 ∧ okPack.is w' M' b (wire_Pack_Mark st).2 ∧ (∀ x, M' x → M x ∨ w.heap.size ≤ x) ∧ GrM w w' M := by
  have hl2 : (octet_Put16 0).length = 2 := by decide
  unfold wire_Pack_Mark.pre at hp
  refine enterX Try.func36 rfl Try.ntmps36 rfl (fun R hR => ?_)
  refine X.seq fun M hM => ?_
  refine X.region ?_
  refine XO.do rfl (D.asn (v := I 0) rfl rfl ?_)
  refine XO.nil ?_
  refine hM _ _ ?_
  refine X.seq fun M hM => ?_
  refine X.region ?_
  refine XO.do rfl (D.mv (v := pt b 0) rfl rfl ?_)
  refine XO.do rfl (D.call (vs := [.int .u16 0]) (callable Try.func31 (by kernel_rfl) rfl) (octet_Put16.ok 0 w) rfl rfl ?_)
  rintro _ w1 ⟨rfl, e1⟩
  have H1 := H.ext e1
  refine XO.do rfl (D.call (vs := [pt b 0, S (octet_Put16 0)]) (callable Try.func30 (by kernel_rfl) rfl) (wire_Pack_Add.ok st (octet_Put16 0) _ b w1 H1 (by unfold wire_Pack_Add.pre; omega)) rfl rfl ?_)
  rintro _ w2 ⟨M', rfl, H2, hs, hg⟩
  refine XO.nil ?_
  refine hM _ _ ?_
  refine X.seq fun M hM => ?_
  refine X.region ?_
  refine XO.do rfl (D.mv (v := pt b 0) rfl rfl ?_)
  refine XO.do rfl (D.call (vs := [pt b 0]) (callable Try.func26 (by kernel_rfl) rfl) (wire_Pack_Len.ok _ _ b w2 H2) rfl rfl ?_)
  rintro _ w3 ⟨rfl, e3⟩
  refine XO.do rfl (D.asn (v := .int .i64 (wire_Pack_Mark st).1) rfl rfl ?_)
  refine XO.nil ?_
  refine hM _ _ ?_
  refine X.ret ?_
  have hsz := World.grownBy.size e1
  exact hR _ _ _ (ret1 (v := .int .i64 (wire_Pack_Mark st).1) rfl rfl) ⟨M', rfl, H2.ext e3, fun x hx => (hs x hx).imp id (fun h => Nat.le_trans hsz h), gm_ext ((GrM.ext e1 _).step hg (fun x hx => .inl hx)) e3⟩
/-- A new name in a pack's map. -/
theorem pack_known {w w' : World} {b c mb : Nat} {A : Option Go.Addr} {st : Pack} {k : Str} {v : Int} (h1 : Blk w b [.slice A st.s.length c, .map (some mb)] 66) (h2 : Own eB 5 w 0 A c st.s) (h3 : MapIs w mb (keyMap st.known))
    (hm : MapIs w' mb (keyMap (st.known ++ [(k, v)]))) (hc : Chg w w' mb) : okPack.is w' (fun x => x = b ∨ x = mb ∨ MO A x) b { st with known := st.known ++ [(k, v)] } :=
  ⟨A, c, mb, h1.gr hc (fun x hx e => by injection e with e; exact h3.ne_blk h1 (by rw [← e]; exact hx)), h2.gr hc (fun x hx e => by injection e with e; exact h3.ne_own h2 x hx e), hm, rfl⟩
theorem wire_Pack_Name.ok (st : Pack) (n : Str) (M : Nat → Prop) (b : Nat) (w : World) (H : okPack.is w M b st) (hp : wire_Pack_Name.pre st n) :
    Ret Try.prog 29 ([pt b 0, S n] : List Value).toArray w fun v w' => ∃ M' : Nat → Prop, v = .int .i64 (wire_Pack_Name st n).1 ∧ okPack.is w' M' b (wire_Pack_Name st n).2 ∧ (∀ x, M' x → M x ∨ w.heap.size ≤ x) ∧ GrM w w' M := by
  obtain ⟨hp1, hp2⟩ := hp
  refine enterX Try.func29 rfl Try.ntmps29 rfl (fun R hR => ?_)
  refine X.seq fun M1 hM => ?_
  refine X.region ?_
  refine XO.do rfl (D.asn (v := .int .i64 0) rfl rfl ?_)
  refine XO.nil ?_
  refine hM _ _ ?_
  refine X.seq fun M1 hM => ?_
  refine X.seq fun M2 hM2 => ?_
  refine X.region ?_
  refine XO.do rfl (D.mv (v := pt b 0) rfl rfl ?_)
  refine XO.do rfl (D.eqlPnil (p := some ⟨b, 0, none⟩) Try.underlying35 rfl rfl rfl ?_)
  refine XO.do rfl (D.mv (v := .bool false) rfl rfl ?_)
  refine XO.do (wantG (j := 2) (b := false) rfl rfl rfl) (D.mv (v := S n) rfl rfl ?_)
  refine XO.do (wantG (j := 2) (b := false) rfl rfl rfl) (D.call (vs := [S n]) (callable Try.func27 (by kernel_rfl) rfl) (name_May.ok n w hp1) rfl rfl ?_)
  rintro _ w1 ⟨rfl, e1⟩
  refine XO.do (wantG (j := 2) (b := false) rfl rfl rfl) (D.not (name_May n) rfl rfl ?_)
  refine XO.do rfl (D.pick false (v := .bool (!(name_May n))) rfl rfl rfl ?_)
  refine XO.nil ?_
  refine hM2 _ _ ?_
  have H1 := H.ext e1
  have hB1 : GrM w w1 M := GrM.ext e1 M
  cases hmay : name_May n with
  | false =>
    have hr : wire_Pack_Name st n = (1, st) := by unfold wire_Pack_Name; rw [hmay]; rfl
    refine X.condT rfl ?_
    refine X.seq fun M3 hM3 => ?_
    refine X.region ?_
    refine XO.do rfl (D.asn (v := .int .i64 1) rfl rfl ?_)
    refine XO.nil ?_
    refine hM3 _ _ ?_
    refine X.ret ?_
    exact hR _ _ _ (ret1 (v := .int .i64 1) rfl rfl) ⟨M, by rw [hr], by rw [hr]; exact H1, fun x hx => .inl hx, hB1⟩
  | true =>
    have hr : wire_Pack_Name st n = (0, nameLoop (n.length + 1) st n) := by unfold wire_Pack_Name; rw [hmay]; rfl
    rw [hr] at hR
    obtain ⟨hsp, hlen⟩ := may_split hmay
    obtain ⟨fin, hfin⟩ : ∃ fin, nameLoop (n.length + 1) st n = fin := ⟨_, rfl⟩
    rw [hfin] at hR
    refine X.condF rfl ?_
    refine X.skip ?_
    refine hM _ _ ?_
    refine X.cut (fun f2 w2 => ∃ st2 M2, f2 0 = pt b 0 ∧ f2 1 = S [0] ∧ okPack.is w2 M2 b st2 ∧ (∀ x, M2 x → M x ∨ w.heap.size ≤ x) ∧ GrM w w2 M ∧ wire_Pack_Add st2 [0] = fin ∧ st2.s.length ≤ 20000000000) ?_ ?_
    · refine X.block ?_
      refine X.loop (fun k f2 w2 => ∃ st2 M2 n2, f2 0 = pt b 0 ∧ f2 1 = S n2 ∧ okPack.is w2 M2 b st2 ∧ (∀ x, M2 x → M x ∨ w.heap.size ≤ x) ∧ GrM w w2 M ∧ (splitN k n2).2 = [0] ∧ n2.length ≤ 255 ∧ st2.s.length + n2.length ≤ st.s.length + 255 ∧ nameLoop k st2 n2 = fin) (n.length + 1) ?_ ?_
      · exact ⟨st, M, n, rfl, rfl, H1, fun x hx => .inl hx, hB1, hsp, hlen, by omega, hfin⟩
      rintro k f2 w2 ⟨st2, M2, n2, s0, s1, H2, hsub, hB, hspl, hl2, hsum, hnl⟩
      refine X.fr (d := 0) s0 ?_
      refine X.fr (d := 1) s1 ?_
      refine X.seq fun M4 hM4 => ?_
      refine X.seq fun M5 hM5 => ?_
      refine X.region ?_
      refine XO.do rfl (D.mv (v := S n2) rfl rfl ?_)
      refine XO.do rfl (D.neqS (a := n2) (b := [0]) rfl rfl rfl ?_)
      refine XO.nil ?_
      refine hM5 _ _ ?_
      by_cases hn2 : n2 = [0]
      · refine X.condF (congrArg Value.bool (by rw [hn2]; rfl)) ?_
        refine X.exit rfl ?_
        refine ⟨st2, M2, rfl, by rw [← hn2]; rfl, H2, hsub, hB, ?_, by omega⟩
        cases k with
        | zero => rw [← hn2]; exact hnl
        | succ k => rw [nameLoop, if_pos hn2, hn2] at hnl; exact hnl
      cases k with
      | zero => exact absurd hspl hn2
      | succ k =>
      obtain ⟨c, t, rfl, hc1, hc2, hc3, hspl'⟩ := split_step hspl hn2
      rw [nameLoop, if_neg hn2] at hnl
      refine X.condT (congrArg Value.bool (by rw [beq_eq_false_iff_ne.2 hn2]; rfl)) ?_
      refine X.skip ?_
      refine hM4 _ _ ?_
      refine X.block ?_
      have H2c := H2
      obtain ⟨A, cc, mb, q1, q2, q3, hMeq⟩ := H2c
      refine X.seq fun M6 hM6 => ?_
      refine X.seq fun M7 hM7 => ?_
      refine X.region ?_
      refine XO.do rfl (D.mv (v := pt b 0) rfl rfl ?_)
      refine XO.do rfl (D.nilCheck rfl rfl ?_)
      refine XO.do rfl (D.fieldAddr (o' := 1) faP1 rfl rfl rfl ?_)
      refine XO.do rfl (D.load (j := 1) (v := .map (some mb)) (sca Try.underlying61 rfl) q1.cs rfl rfl rfl rfl ?_)
      refine XO.do rfl (D.mv (v := S (c :: t)) rfl rfl ?_)
      refine XO.do rfl (D.lookupM (ek := S) (ev := fun x => Value.int .i64 x) keyStr (k := c :: t) (m := st2.known) Try.underlying61 Try.underlying9 tiInt q3 rfl rfl rfl ?_)
      have hbt : bt (c :: t) 0 = (c.toNat : Int) := rfl
      cases hlk : List.lookup (c :: t) st2.known with
      | some a =>
        rw [hlk] at hnl
        simp only [Option.map_some, Option.getD_some, Option.isSome_some]
        refine XO.do rfl (D.mv (v := .tuple #[.int .i64 a, .bool true]) rfl rfl ?_)
        refine XO.do rfl (D.extract (v := .int .i64 a) rfl rfl rfl ?_)
        refine XO.do rfl (D.extract (v := .bool true) rfl rfl rfl ?_)
        refine XO.do rfl (D.asn (v := .int .i64 a) rfl rfl ?_)
        refine XO.do rfl (D.asn (v := .bool true) rfl rfl ?_)
        refine XO.nil ?_
        refine hM7 _ _ ?_
        refine X.seq fun M8 hM8 => ?_
        refine X.region ?_
        refine XO.do rfl (D.mv (v := .bool true) rfl rfl ?_)
        refine XO.nil ?_
        refine hM8 _ _ ?_
        refine X.condT rfl ?_
        refine X.seq fun M8 hM8 => ?_
        refine X.region ?_
        refine XO.do rfl (D.mv (v := pt b 0) rfl rfl ?_)
        refine XO.do rfl (D.mv (v := .int .i64 a) rfl rfl ?_)
        refine XO.do rfl (D.or rfl rfl rfl ?_)
        refine XO.do rfl (D.conv Try.underlying3 Try.underlying22 rfl rfl ?_)
        refine XO.do rfl (D.call (vs := [.int .u16 (w16 (bOr .i64 49152 a))]) (callable Try.func31 (by kernel_rfl) rfl) (octet_Put16.ok _ w2) rfl rfl ?_)
        rintro _ w3 ⟨rfl, e3⟩
        have hl16 : (octet_Put16 (w16 (bOr .i64 49152 a))).length = 2 := rfl
        refine XO.do rfl (D.call (vs := [pt b 0, S (octet_Put16 (w16 (bOr .i64 49152 a)))]) (callable Try.func30 (by kernel_rfl) rfl) (wire_Pack_Add.ok st2 (octet_Put16 (w16 (bOr .i64 49152 a))) _ b w3 (H2.ext e3) (by unfold wire_Pack_Add.pre; omega)) rfl rfl ?_)
        rintro _ w4 ⟨M3', rfl, H3, hs3, hg3⟩
        refine XO.nil ?_
        refine hM8 _ _ ?_
        refine X.seq fun M8 hM8 => ?_
        refine X.region ?_
        refine XO.do rfl (D.asn (v := .int .i64 0) rfl rfl ?_)
        refine XO.nil ?_
        refine hM8 _ _ ?_
        refine X.ret ?_
        simp only at hnl
        have hBx := gm_ext hB e3
        exact hR _ _ _ (ret1 (v := .int .i64 0) rfl rfl) ⟨M3', rfl, by rw [← hnl]; exact H3, sub_sub hs3 hsub hBx.size, hBx.step hg3 hsub⟩
      | none =>
        rw [hlk] at hnl
        simp only [Option.map_none, Option.getD_none, Option.isSome_none]
        simp only at hnl
        refine XO.do rfl (D.mv (v := .tuple #[.int .i64 0, .bool false]) rfl rfl ?_)
        refine XO.do rfl (D.extract (v := .int .i64 0) rfl rfl rfl ?_)
        refine XO.do rfl (D.extract (v := .bool false) rfl rfl rfl ?_)
        refine XO.do rfl (D.asn (v := .int .i64 0) rfl rfl ?_)
        refine XO.do rfl (D.asn (v := .bool false) rfl rfl ?_)
        refine XO.nil ?_
        refine hM7 _ _ ?_
        refine X.seq fun M8 hM8 => ?_
        refine X.region ?_
        refine XO.do rfl (D.mv (v := .bool false) rfl rfl ?_)
        refine XO.nil ?_
        refine hM8 _ _ ?_
        refine X.condF rfl ?_
        refine X.skip ?_
        refine hM6 _ _ ?_
        refine X.cut (fun f3 w3 => f3 0 = pt b 0 ∧ f3 1 = S (c :: t) ∧ okPack.is w3 M2 b (if st2.s.length < 16384 then { st2 with known := st2.known ++ [(c :: t, (st2.s.length : Int))] } else st2) ∧ GrM w w3 M) ?_ ?_
        · refine X.seq fun M8 hM8 => ?_
          refine X.region ?_
          refine XO.do rfl (D.mv (v := pt b 0) rfl rfl ?_)
          refine XO.do rfl (D.nilCheck rfl rfl ?_)
          refine XO.do rfl (D.fieldAddr (o' := 0) faP0 rfl rfl rfl ?_)
          refine XO.do rfl (D.fieldAddr (o' := 0) faT0 rfl rfl rfl ?_)
          refine XO.do rfl (D.load (j := 0) (v := .slice A st2.s.length cc) sc_sl8 q1.cs rfl rfl rfl rfl ?_)
          refine XO.do rfl (D.lenR (A := A) (c := cc) (m := st2.s.length) Try.underlying62 rfl rfl ?_)
          refine XO.do rfl (D.asn (v := I st2.s.length) rfl rfl ?_)
          refine XO.nil ?_
          refine hM8 _ _ ?_
          refine X.seq fun M8 hM8 => ?_
          refine X.region ?_
          refine XO.do rfl (D.mv (v := I st2.s.length) rfl rfl ?_)
          refine XO.do rfl (D.lss rfl rfl rfl ?_)
          refine XO.nil ?_
          refine hM8 _ _ ?_
          by_cases hfar : st2.s.length < 16384
          · refine X.condT (congrArg Value.bool (decide_eq_true (by omega))) ?_
            refine X.region ?_
            refine XO.do rfl (D.mv (v := pt b 0) rfl rfl ?_)
            refine XO.do rfl (D.nilCheck rfl rfl ?_)
            refine XO.do rfl (D.fieldAddr (o' := 1) faP1 rfl rfl rfl ?_)
            refine XO.do rfl (D.load (j := 1) (v := .map (some mb)) (sca Try.underlying61 rfl) q1.cs rfl rfl rfl rfl ?_)
            refine XO.do rfl (D.mv (v := S (c :: t)) rfl rfl ?_)
            refine XO.do rfl (D.mv (v := I st2.s.length) rfl rfl ?_)
            refine XO.do rfl (D.mapNew (ek := S) (ev := fun x => Value.int .i64 x) keyStr (k := c :: t) (m := st2.known) (v := (st2.s.length : Int)) Try.underlying61 Try.underlying9 q3 hlk rfl rfl rfl ?_)
            intro w3 hm3 hc3
            refine XO.nil ?_
            refine ⟨rfl, rfl, ?_, hB.step (GrM.of_grown (M := M2) hc3 (fun x e => by injection e with e; rw [hMeq]; exact .inr (.inl e.symm))) hsub⟩
            rw [if_pos hfar, hMeq]
            exact pack_known q1 q2 q3 hm3 hc3
          · refine X.condF (congrArg Value.bool (decide_eq_false (by omega))) ?_
            refine X.skip ?_
            refine ⟨rfl, rfl, ?_, hB⟩
            rw [if_neg hfar]; exact H2
        · rintro f3 w3 ⟨s0', s1', H3, hB3⟩
          obtain ⟨st3, hst3⟩ : ∃ st3, (if st2.s.length < 16384 then { st2 with known := st2.known ++ [(c :: t, (st2.s.length : Int))] } else st2) = st3 := ⟨_, rfl⟩
          rw [hst3] at H3 hnl
          have hs3 : st3.s = st2.s := by rw [← hst3]; split <;> rfl
          refine X.fr (d := 0) s0' ?_
          refine X.fr (d := 1) s1' ?_
          refine X.seq fun M8 hM8 => ?_
          refine X.region ?_
          refine XO.do rfl (D.mv (v := S (c :: t)) rfl rfl ?_)
          refine XO.do rfl (D.indexS (i := 0) Try.underlying9 rfl rfl (by decide) (by simp) rfl ?_)
          refine XO.do rfl (D.conv Try.underlying5 Try.underlying3 rfl rfl ?_)
          refine XO.do rfl (D.add rfl rfl rfl ?_)
          have hct := c.toNat_lt
          have hsz : w64 (1 + w64 (bt (c :: t) 0)) = ((1 + c.toNat : Nat) : Int) := by rw [hbt, w64_id (x := (c.toNat : Int)) (by omega) (by omega), w64_id (by omega) (by omega)]; omega
          refine XO.do rfl (D.asn (v := I ((1 + c.toNat : Nat) : Int)) (congrArg (Value.int .i64) hsz) rfl ?_)
          refine XO.nil ?_
          refine hM8 _ _ ?_
          refine X.seq fun M8 hM8 => ?_
          refine X.region ?_
          refine XO.do rfl (D.mv (v := pt b 0) rfl rfl ?_)
          refine XO.do rfl (D.mv (v := S (c :: t)) rfl rfl ?_)
          refine XO.do rfl (D.mv (v := I ((1 + c.toNat : Nat) : Int)) rfl rfl ?_)
          refine XO.do rfl (D.sliceShi (j := ((1 + c.toNat : Nat) : Int)) Try.underlying9 rfl rfl (by omega) (by simp; omega) rfl ?_)
          rw [show ((1 + c.toNat : Nat) : Int).toNat = 1 + c.toNat by omega]
          have htl : ((c :: t).take (1 + c.toNat)).length = 1 + c.toNat := by simp; omega
          refine XO.do rfl (D.call (vs := [pt b 0, S ((c :: t).take (1 + c.toNat))]) (callable Try.func30 (by kernel_rfl) rfl) (wire_Pack_Add.ok st3 ((c :: t).take (1 + c.toNat)) _ b w3 H3 (by unfold wire_Pack_Add.pre; rw [hs3, htl]; omega)) rfl rfl ?_)
          rintro _ w4 ⟨M3', rfl, H4, hs4, hg4⟩
          refine XO.nil ?_
          refine hM8 _ _ ?_
          refine X.region ?_
          refine XO.do rfl (D.mv (v := S (c :: t)) rfl rfl ?_)
          refine XO.do rfl (D.mv (v := I ((1 + c.toNat : Nat) : Int)) rfl rfl ?_)
          refine XO.do rfl (D.sliceSlo (i := ((1 + c.toNat : Nat) : Int)) Try.underlying9 rfl rfl (by omega) (by simp; omega) rfl ?_)
          rw [show ((1 + c.toNat : Nat) : Int).toNat = 1 + c.toNat by omega]
          refine XO.do rfl (D.asn (v := S ((c :: t).drop (1 + c.toNat))) rfl rfl ?_)
          refine XO.nil ?_
          have hdl : ((c :: t).drop (1 + c.toNat)).length + (1 + c.toNat) = (c :: t).length := by simp; omega
          refine ⟨k, Nat.lt_succ_self _, wire_Pack_Add st3 ((c :: t).take (1 + c.toNat)), M3', (c :: t).drop (1 + c.toNat), rfl, rfl, H4, sub_sub hs4 hsub hB3.size, hB3.step hg4 hsub, hspl', by omega, ?_, hnl⟩
          simp only [wire_Pack_Add, List.length_append, hs3, htl]
          omega
    · rintro f2 w2 ⟨st2, M2, s0, s1, H2, hsub, hB, hf, hl⟩
      refine X.fr (d := 0) s0 ?_
      refine X.fr (d := 1) s1 ?_
      refine X.seq fun M3 hM3 => ?_
      refine X.region ?_
      refine XO.do rfl (D.mv (v := pt b 0) rfl rfl ?_)
      refine XO.do rfl (D.mv (v := S [0]) rfl rfl ?_)
      refine XO.do rfl (D.call (vs := [pt b 0, S [0]]) (callable Try.func30 (by kernel_rfl) rfl) (wire_Pack_Add.ok st2 [0] _ b w2 H2 (by unfold wire_Pack_Add.pre; simp; omega)) rfl rfl ?_)
      rintro _ w3 ⟨M3', rfl, H3, hs3, hg3⟩
      refine XO.nil ?_
      refine hM3 _ _ ?_
      refine X.seq fun M3 hM3 => ?_
      refine X.region ?_
      refine XO.do rfl (D.asn (v := .int .i64 0) rfl rfl ?_)
      refine XO.nil ?_
      refine hM3 _ _ ?_
      refine X.ret ?_
      exact hR _ _ _ (ret1 (v := .int .i64 0) rfl rfl) ⟨M3', rfl, by rw [← hf]; exact H3, sub_sub hs3 hsub hB.size, hB.step hg3 hsub⟩
end Go.Proofs.Ytfcaekghpkpjdaa.K

/- Parts of slices. -/
namespace Go.Proofs.Ytfcaekghpkpjdaa.K
open Go Go.RowKit Go.Proofs
set_option linter.unusedVariables false
section
variable {P : Program} {n : Nat} {f : Fr} {w : World} {K : Fr → World → Prop} {d : Nat} {ty : TypeId} {pos : String} {af : Array Edge} {g : Option (Nat × Bool)} {α : Type} {E : En α}
theorem add_none (a : Go.Addr) : a.add 0 = a := by cases a; simp [Addr.add]
def dropA (A : Option Go.Addr) (c k sz : Nat) : Option Go.Addr := if c = k then A else A.map (·.add (k * sz))
/-- x[lo:] -/
theorem D.sliceRlo {t e : TypeId} {x y : Operand} {A : Option Go.Addr} {c : Nat} {xs : List α} {kd : IntKind} {i : Int} (ht : P.underlying t = some (.slice e)) (hs : ∀ w, (sizeOf e).run P w = .ok E.sz w) (hr : Row E w A c xs) (hx : evF f x = .slice A xs.length c) (hy : evF f y = .int kd i) (h0 : 0 ≤ i) (h1 : i ≤ xs.length) (hd : Nat.ble (d + 1) n = true)
    (k : Row E w (dropA A c i.toNat E.sz) (c - i.toNat) (xs.drop i.toNat) → K (upd f d (.slice (dropA A c i.toNat E.sz) (xs.drop i.toNat).length (c - i.toNat))) w) : Does P n ⟨some d, .slice t x (some y) none none, ty, pos, af, g⟩ f w K := by
  have hc := hr.1
  obtain ⟨m, rfl⟩ := Int.eq_ofNat_of_zero_le h0
  have hm : m ≤ xs.length := by omega
  have hk := hr.drop m hm
  refine D.val rfl hd ?_ (k (by simpa [dropA] using hk))
  simp [execOp, hx, hy, Instr.sliceAt, Instr.slice, Instr.sliceBounds, Instr.sliceBound, asIntOf, run_underlying ht, hs w, dropA, hm]
/-- x[:hi] -/
theorem D.sliceRhi {t e : TypeId} {x y : Operand} {A : Option Go.Addr} {c : Nat} {xs : List α} {kd : IntKind} {i : Int} (ht : P.underlying t = some (.slice e)) (hs : ∀ w, (sizeOf e).run P w = .ok E.sz w) (hr : Row E w A c xs) (hx : evF f x = .slice A xs.length c) (hy : evF f y = .int kd i) (h0 : 0 ≤ i) (h1 : i ≤ xs.length) (hd : Nat.ble (d + 1) n = true)
    (k : Row E w A c (xs.take i.toNat) → K (upd f d (.slice A (xs.take i.toNat).length c)) w) : Does P n ⟨some d, .slice t x none (some y) none, ty, pos, af, g⟩ f w K := by
  have hc := hr.1
  obtain ⟨m, rfl⟩ := Int.eq_ofNat_of_zero_le h0
  have hm : m ≤ xs.length := by omega
  have hmc : m ≤ c := by omega
  have hk := hr.take m c hmc (Nat.le_refl _)
  have hmin : Min.min m xs.length = m := Nat.min_eq_left hm
  refine D.val rfl hd ?_ (k (by simpa using hk))
  cases A <;> simp [execOp, hx, hy, Instr.sliceAt, Instr.slice, Instr.sliceBounds, Instr.sliceBound, asIntOf, run_underlying ht, hs w, hmc, hmin, add_none]
/-- x[:k:k] -/
theorem D.sliceRcap {t e : TypeId} {x y z : Operand} {A : Option Go.Addr} {c : Nat} {xs : List α} {kd kd' : IntKind} {i : Int} (ht : P.underlying t = some (.slice e)) (hs : ∀ w, (sizeOf e).run P w = .ok E.sz w) (hr : Row E w A c xs) (hx : evF f x = .slice A xs.length c) (hy : evF f y = .int kd i) (hz : evF f z = .int kd' i) (h0 : 0 ≤ i) (h1 : i ≤ xs.length) (hd : Nat.ble (d + 1) n = true)
    (k : Row E w A i.toNat (xs.take i.toNat) → K (upd f d (.slice A (xs.take i.toNat).length i.toNat)) w) : Does P n ⟨some d, .slice t x none (some y) (some z), ty, pos, af, g⟩ f w K := by
  have hc := hr.1
  obtain ⟨m, rfl⟩ := Int.eq_ofNat_of_zero_le h0
  have hm : m ≤ xs.length := by omega
  have hmc : m ≤ c := by omega
  have hk := hr.take m m (Nat.le_refl _) hmc
  have hmin : Min.min m xs.length = m := Nat.min_eq_left hm
  refine D.val rfl hd ?_ (k (by simpa using hk))
  cases A <;> simp [execOp, hx, hy, hz, Instr.sliceAt, Instr.slice, Instr.sliceBounds, Instr.sliceBound, asIntOf, run_underlying ht, hs w, hmc, hmin, add_none]
end
end Go.Proofs.Ytfcaekghpkpjdaa.K

/- wire.Close. -/
namespace Go.Proofs.Ytfcaekghpkpjdaa.K
open Go Go.RowKit Go.Proofs
set_option linter.unusedVariables false
set_option maxRecDepth 100000
set_option maxHeartbeats 4000000
theorem splice {α : Type} (L B : List α) (o n : Nat) (h : o + B.length ≤ n) (hn : n ≤ L.length) : (L.take o ++ B ++ L.drop (o + B.length)).take n = (L.take n).take o ++ B ++ (L.take n).drop (o + B.length) := by
  have e1 : (L.take o ++ B).length = o + B.length := by simp; omega
  rw [List.take_append, e1, List.take_of_length_le (by rw [e1]; exact h), List.take_take, Nat.min_eq_left (by omega), List.drop_take]
theorem own_copy {w : World} {gb c o dCap : Nat} {s t : Str} {ty : TypeId} (ho : Own eB 5 w 0 (some ⟨gb, 0, none⟩) c s) (hle : o + t.length ≤ s.length) :
    ∃ w', (Builtin.copy_ #[62, 9] ty #[.slice (some ⟨gb, o, none⟩) t.length dCap, S t]).run Try.prog w = .ok (goInt t.length) w' ∧ Own eB 5 w' 0 (some ⟨gb, 0, none⟩) c (s.take o ++ t ++ s.drop (o + t.length)) ∧ w.grownBy w' (some gb) := by
  rcases ho.2 with ⟨e, _⟩ | ⟨gb', cap, cur, e, hb, hg, hnc, hcm, hcs, htake⟩
  · injection e with e; cases e
  injection e with e1 e2 e3
  injection e1 with e1
  injection e1 with e1
  subst e1 e3
  have hcs' : cur.size = c := by simpa [eB] using hcs
  have hsz : (⟨⟨t⟩⟩ : ByteArray).size = t.length := rfl
  have hlen : (s.take o ++ t ++ s.drop (o + t.length)).length = s.length := by simp; omega
  have hr := Lib.run_copy_row_string (P := Try.prog) w 62 9 ty 5 gb o t.length dCap ⟨⟨t⟩⟩ cur 5 Try.underlying62 (by obtain ⟨i, q1, _, q3, _⟩ := ti_u8.get; rw [q1]; simp [q3]) hg (Nat.le_refl _) (by rw [hsz]; omega)
  refine ⟨_, hr, ?_, ⟨rfl, rfl, rfl, by simp [World.setRow], fun k _ hk => setRow_other w gb k _ (fun e => hk (by simp [e]))⟩⟩
  refine ⟨flat_len eB _, .inr ⟨gb, c, _, by rw [hlen], hb, setRow_heap w gb cur _ 5 (0, 0) hg, by rw [hlen]; exact hnc, hcm, ?_, ?_⟩⟩
  · have h1 : (Lib.byteCells t).length = t.length := by simp [Lib.byteCells]
    simp [h1, hsz, hcs', eB]
    omega
  · have h1 : (Lib.byteCells t).length = t.length := by simp [Lib.byteCells]
    have e1 : cur.toList.take s.length = flat eB s := by simpa [eB] using htake
    have e2 : flat eB (s.take o ++ t ++ s.drop (o + t.length)) = (flat eB s).take o ++ Lib.byteCells t ++ (flat eB s).drop (o + t.length) := by
      have a1 := flat_take eB s o
      have a2 := flat_drop eB s (o + t.length)
      rw [flat_append, flat_append, flat_eB t]
      have hz : eB.sz = 1 := rfl
      rw [hz, Nat.mul_one] at a1 a2
      rw [← a1, ← a2]
    rw [e2, hlen, ← e1, show eB.sz = 1 from rfl, Nat.mul_one, List.toList_toArray]
    have h1' : (Lib.byteCells (⟨⟨t⟩⟩ : ByteArray).data.toList).length = t.length := h1
    have := splice cur.toList (Lib.byteCells (⟨⟨t⟩⟩ : ByteArray).data.toList) o s.length (by rw [h1']; omega) (by simp [hcs']; omega)
    rw [h1'] at this
    exact this
theorem D.sliceLH {P : Program} {n : Nat} {f : Fr} {w : World} {K : Fr → World → Prop} {d : Nat} {ty : TypeId} {pos : String} {af : Array Edge} {g : Option (Nat × Bool)} {t e gb m c : Nat} {x lo hi : Operand} {i j : Int} (ht : P.underlying t = some (.slice e)) (hs : ∀ w, (sizeOf e).run P w = .ok 1 w) (hx : evF f x = .slice (some ⟨gb, 0, none⟩) m c) (hlo : evF f lo = .int .i64 i) (hhi : evF f hi = .int .i64 j)
    (h0 : 0 ≤ i) (h1 : i ≤ j) (h2 : j ≤ c) (h3 : i < c) (hd : Nat.ble (d + 1) n = true) (k : K (upd f d (.slice (some ⟨gb, i.toNat, none⟩) (j.toNat - i.toNat) (c - i.toNat))) w) : Does P n ⟨some d, .slice t x (some lo) (some hi) none, ty, pos, af, g⟩ f w K := by
  obtain ⟨i', rfl⟩ := Int.eq_ofNat_of_zero_le h0
  obtain ⟨j', rfl⟩ := Int.eq_ofNat_of_zero_le (Int.le_trans h0 h1)
  have q1 : i' ≤ j' := by omega
  have q2 : j' ≤ c := by omega
  have q3 : ¬ c = i' := by omega
  exact D.val (v := .slice (some ⟨gb, i', none⟩) (j' - i') (c - i')) (w' := w) rfl hd (by simp [execOp, hx, hlo, hhi, Instr.sliceAt, Instr.slice, Instr.sliceBounds, Instr.sliceBound, asIntOf, run_underlying ht, hs w, q1, q2, q3, Addr.add_lit]) (by simpa using k)
theorem wire_Pack_Close.ok (st : Pack) (a : Int) (M : Nat → Prop) (b : Nat) (w : World) (H : okPack.is w M b st) (hp : wire_Pack_Close.pre st a) :
    Ret Try.prog 38 ([pt b 0, .int .i64 a] : List Value).toArray w fun v w' => ∃ M' : Nat → Prop, v = .int .i64 (wire_Pack_Close st a).1 ∧ okPack.is w' M' b (wire_Pack_Close st a).2 ∧ (∀ x, M' x → M x ∨ w.heap.size ≤ x) ∧ GrM w w' M := by
  unfold wire_Pack_Close.pre at hp
  refine enterX Try.func38 rfl Try.ntmps38 rfl (fun R hR => ?_)
  refine X.seq fun M1 hM => ?_
  refine X.region ?_
  refine XO.do rfl (D.asn (v := .int .i64 0) rfl rfl ?_)
  refine XO.nil ?_
  refine hM _ _ ?_
  have bad : (a < 2 ∨ (st.s.length : Int) < a) → wire_Pack_Close st a = (1, st) := fun h => if_pos h
  refine X.cut (fun f2 w2 => f2 0 = pt b 0 ∧ f2 1 = .int .i64 a ∧ okPack.is w2 M b st ∧ Ext w w2 ∧ 2 ≤ a ∧ a ≤ st.s.length) ?_ ?_
  · refine X.seq fun M2 hM2 => ?_
    refine X.region ?_
    refine XO.do rfl (D.mv (v := .int .i64 a) rfl rfl ?_)
    refine XO.do rfl (D.lss rfl rfl rfl ?_)
    refine XO.do rfl (D.mv (v := .bool (decide (a < 2))) rfl rfl ?_)
    by_cases h2 : a < 2
    · refine XO.off (wantG0 (j := 2) (b := false) rfl (decide_eq_true h2) rfl) rfl rfl ?_
      refine XO.off (wantG0 (j := 2) (b := false) rfl (decide_eq_true h2) rfl) rfl rfl ?_
      refine XO.off (wantG0 (j := 2) (b := false) rfl (decide_eq_true h2) rfl) rfl rfl ?_
      refine XO.off (wantG0 (j := 2) (b := false) rfl (decide_eq_true h2) rfl) rfl rfl ?_
      refine XO.do rfl (D.pick true (v := .bool true) (congrArg Value.bool (decide_eq_true h2)) rfl rfl ?_)
      refine XO.nil ?_
      refine hM2 _ _ ?_
      refine X.condT rfl ?_
      refine X.seq fun M3 hM3 => ?_
      refine X.region ?_
      refine XO.do rfl (D.asn (v := .int .i64 1) rfl rfl ?_)
      refine XO.nil ?_
      refine hM3 _ _ ?_
      refine X.ret ?_
      exact hR _ _ _ (ret1 (v := .int .i64 1) rfl rfl) ⟨M, by rw [bad (.inl h2)], by rw [bad (.inl h2)]; exact H, fun x hx => .inl hx, GrM.refl _ _⟩
    · have hf := decide_eq_false h2
      refine XO.do (wantG (j := 2) (b := false) rfl hf rfl) (D.mv (v := .int .i64 a) rfl rfl ?_)
      refine XO.do (wantG (j := 2) (b := false) rfl hf rfl) (D.mv (v := pt b 0) rfl rfl ?_)
      refine XO.do (wantG (j := 2) (b := false) rfl hf rfl) (D.call (vs := [pt b 0]) (callable Try.func26 (by kernel_rfl) rfl) (wire_Pack_Len.ok st _ b w H) rfl rfl ?_)
      rintro _ w1 ⟨rfl, e1⟩
      refine XO.do (wantG (j := 2) (b := false) rfl hf rfl) (D.gtr rfl rfl rfl ?_)
      refine XO.do rfl (D.pick false (v := .bool (decide (wire_Pack_Len st < a))) (congrArg Value.bool hf) rfl rfl ?_)
      refine XO.nil ?_
      refine hM2 _ _ ?_
      by_cases h3 : wire_Pack_Len st < a
      · have h3' : (st.s.length : Int) < a := h3
        refine X.condT (congrArg Value.bool (decide_eq_true h3)) ?_
        refine X.seq fun M3 hM3 => ?_
        refine X.region ?_
        refine XO.do rfl (D.asn (v := .int .i64 1) rfl rfl ?_)
        refine XO.nil ?_
        refine hM3 _ _ ?_
        refine X.ret ?_
        exact hR _ _ _ (ret1 (v := .int .i64 1) rfl rfl) ⟨M, by rw [bad (.inr h3')], by rw [bad (.inr h3')]; exact H.ext e1, fun x hx => .inl hx, GrM.ext e1 _⟩
      · refine X.condF (congrArg Value.bool (decide_eq_false h3)) ?_
        refine X.skip ?_
        have h3' : ¬ (st.s.length : Int) < a := h3
        exact ⟨rfl, rfl, H.ext e1, e1, by omega, by omega⟩
  rintro f2 w2 ⟨s0, s1, H2, e2, ha1, ha2⟩
  obtain ⟨A, c, mb, h1, h2, h3, rfl⟩ := H2
  have hne : st.s ≠ [] := by intro e; rw [e] at ha2; simp at ha2; omega
  obtain ⟨gb, rfl⟩ := h2.at_ hne
  have hcap := h2.row.1
  have hcl : wire_Pack_Close st a = (0, { st with s := st.s.take (a.toNat - 2) ++ octet_Put16 (w16 (w64 ((st.s.length : Int) - a))) ++ st.s.drop a.toNat }) := if_neg (by omega)
  refine X.fr (d := 0) s0 ?_
  refine X.fr (d := 1) s1 ?_
  have h1c := h1.cs
  have ew : w64 (a - 2) = a - 2 := w64_id (by omega) (by omega)
  refine X.seq fun M3 hM3 => ?_
  refine X.tree mixedK [0, 1, 3, 7, 15, 0, 32, 0, 255, 0, 512, 1536, 3584, 7680, 15872, 0, 65024, 130560, 261632, 524287] (.q 0 (.q 1 (.q 2 (.q 3 (.q 4 (.q 5 (.q 6 (.q 7 (.q 8 (.q 9 (.q 10 (.q 11 (.q 12 (.q 13 (.q 14 (.q 15 (.q 16 (.q 17 (.q 18 (.alt 19 .nil .nil)))))))))))))))))))) (fun w' => True) (fun w' => Ext w2 w') (by decide +kernel) (fun w' hx _ => hx) (fun p q hC hx => hC.trans hx) (fun p hC => trivial) ?_
  refine QT.do (v := pt b 0) rfl (by decide +kernel) rfl rfl rfl (fun w' hJ => D.mv rfl rfl ⟨rfl, Ext.refl _⟩) ?_
  refine QT.do (v := pt b 0) rfl (by decide +kernel) rfl rfl rfl (fun w' hJ => D.nilCheck rfl rfl ⟨rfl, Ext.refl _⟩) ?_
  refine QT.do (v := pt b 0) rfl (by decide +kernel) rfl rfl rfl (fun w' hJ => D.fieldAddr (o' := 0) faP0 rfl rfl rfl ⟨rfl, Ext.refl _⟩) ?_
  refine QT.do (v := pt b 0) rfl (by decide +kernel) rfl rfl rfl (fun w' hJ => D.fieldAddr (o' := 0) faT0 rfl rfl rfl ⟨rfl, Ext.refl _⟩) ?_
  refine QT.do (v := .slice (some ⟨gb, 0, none⟩) st.s.length c) rfl (by decide +kernel) rfl rfl rfl (fun w' hJ => D.load (j := 0) sc_sl8 (h1c.ext hJ) rfl rfl rfl rfl ⟨rfl, Ext.refl _⟩) ?_
  refine QT.do (v := .int .i64 a) rfl (by decide +kernel) rfl rfl rfl (fun w' hJ => D.mv rfl rfl ⟨rfl, Ext.refl _⟩) ?_
  refine QT.do (v := .int .i64 (w64 (a - 2))) rfl (by decide +kernel) rfl rfl rfl (fun w' hJ => D.sub rfl rfl rfl ⟨rfl, Ext.refl _⟩) ?_
  refine QT.do (v := .int .i64 a) rfl (by decide +kernel) rfl rfl rfl (fun w' hJ => D.mv rfl rfl ⟨rfl, Ext.refl _⟩) ?_
  refine QT.do (v := .slice (some ⟨gb, (w64 (a - 2)).toNat, none⟩) (a.toNat - (w64 (a - 2)).toNat) (c - (w64 (a - 2)).toNat)) rfl (by decide +kernel) rfl rfl rfl (fun w' hJ => D.sliceLH Try.underlying62 (fun w => ti_u8.size w) rfl rfl rfl (by omega) (by omega) (by omega) (by omega) rfl ⟨rfl, Ext.refl _⟩) ?_
  refine QT.do (v := pt b 0) rfl (by decide +kernel) rfl rfl rfl (fun w' hJ => D.mv rfl rfl ⟨rfl, Ext.refl _⟩) ?_
  refine QT.do (v := pt b 0) rfl (by decide +kernel) rfl rfl rfl (fun w' hJ => D.nilCheck rfl rfl ⟨rfl, Ext.refl _⟩) ?_
  refine QT.do (v := pt b 0) rfl (by decide +kernel) rfl rfl rfl (fun w' hJ => D.fieldAddr (o' := 0) faP0 rfl rfl rfl ⟨rfl, Ext.refl _⟩) ?_
  refine QT.do (v := pt b 0) rfl (by decide +kernel) rfl rfl rfl (fun w' hJ => D.fieldAddr (o' := 0) faT0 rfl rfl rfl ⟨rfl, Ext.refl _⟩) ?_
  refine QT.do (v := .slice (some ⟨gb, 0, none⟩) st.s.length c) rfl (by decide +kernel) rfl rfl rfl (fun w' hJ => D.load (j := 0) sc_sl8 (h1c.ext hJ) rfl rfl rfl rfl ⟨rfl, Ext.refl _⟩) ?_
  refine QT.do (v := I st.s.length) rfl (by decide +kernel) rfl rfl rfl (fun w' hJ => D.lenR (A := some ⟨gb, 0, none⟩) (c := c) (m := st.s.length) Try.underlying62 rfl rfl ⟨rfl, Ext.refl _⟩) ?_
  refine QT.do (v := .int .i64 a) rfl (by decide +kernel) rfl rfl rfl (fun w' hJ => D.mv rfl rfl ⟨rfl, Ext.refl _⟩) ?_
  refine QT.do (v := .int .i64 (w64 ((st.s.length : Int) - a))) rfl (by decide +kernel) rfl rfl rfl (fun w' hJ => D.sub rfl rfl rfl ⟨rfl, Ext.refl _⟩) ?_
  refine QT.do (v := .int .u16 (w16 (w64 ((st.s.length : Int) - a)))) rfl (by decide +kernel) rfl rfl rfl (fun w' hJ => D.conv Try.underlying3 Try.underlying22 rfl rfl ⟨rfl, Ext.refl _⟩) ?_
  refine QT.do (v := S (octet_Put16 (w16 (w64 ((st.s.length : Int) - a))))) rfl (by decide +kernel) rfl rfl rfl (fun w' hJ => D.call (vs := [.int .u16 (w16 (w64 ((st.s.length : Int) - a)))]) (callable Try.func31 (by kernel_rfl) rfl) (octet_Put16.ok _ w') rfl rfl (by rintro _ w3 ⟨rfl, e3⟩; exact ⟨rfl, e3⟩)) ?_
  refine QT.eff rfl rfl (fun w3 hC => ?_) QT.nomore
  have h1' := h1.ext hC
  have h2' := h2.ext hC
  have h3' := h3.gr hC (by simp)
  obtain ⟨t, ht⟩ : ∃ t, octet_Put16 (w16 (w64 ((st.s.length : Int) - a))) = t := ⟨_, rfl⟩
  have htl : t.length = 2 := by rw [← ht]; rfl
  obtain ⟨w4, hrun, ho4, e4⟩ := own_copy (ty := 3) (t := t) (o := (w64 (a - 2)).toNat) (dCap := c - (w64 (a - 2)).toNat) h2' (by rw [htl, ew]; omega)
  rw [ht]
  rw [ht] at hcl
  refine D.builtinR (vs := [.slice (some ⟨gb, (w64 (a - 2)).toNat, none⟩) (a.toNat - (w64 (a - 2)).toNat) (c - (w64 (a - 2)).toNat), S t]) (u := goInt t.length) (w' := w4) rfl (fun cs => by
    rw [show a.toNat - (w64 (a - 2)).toNat = t.length by rw [htl, ew]; omega]
    simp only [builtin, Sem.run_bind, hrun, Result.andThen_ok, Sem.run_pure]) rfl ?_
  have hs' : (st.s.take (w64 (a - 2)).toNat ++ t ++ st.s.drop ((w64 (a - 2)).toNat + t.length)) = (wire_Pack_Close st a).2.s := by
    rw [hcl, htl, ew]
    simp only
    rw [show (a - 2).toNat = a.toNat - 2 by omega, show a.toNat - 2 + 2 = a.toNat by omega]
  rw [hs'] at ho4
  have hlen : (wire_Pack_Close st a).2.s.length = st.s.length := by rw [← hs']; simp [htl, ew]; omega
  have hb4 : Blk w4 b [.slice (some ⟨gb, 0, none⟩) (wire_Pack_Close st a).2.s.length c, .map (some mb)] 66 := by
    rw [hlen]; exact h1'.grown e4 (by intro e; injection e with e; exact own_blk_ne h2' h1' (by decide) gb rfl e.symm)
  have hm4 : MapIs w4 mb (keyMap (wire_Pack_Close st a).2.known) := by
    rw [hcl]; exact h3'.gr e4 (by intro e; injection e with e; exact h3'.ne_own h2' gb rfl e.symm)
  have hOK : okPack.is w4 (fun x => x = b ∨ x = mb ∨ MO (some ⟨gb, 0, none⟩) x) b (wire_Pack_Close st a).2 := ⟨some ⟨gb, 0, none⟩, c, mb, hb4, ho4, hm4, rfl⟩
  have hG : GrM w w4 (fun x => x = b ∨ x = mb ∨ MO (some ⟨gb, 0, none⟩) x) := (GrM.ext (e2.trans hC) _).step (GrM.of_grown (M := MO (some ⟨gb, 0, none⟩)) e4 (fun x e => e)) (fun x hx => .inl (.inr (.inr hx)))
  refine ⟨_, rfl, (fun w' => okPack.is w' (fun x => x = b ∨ x = mb ∨ MO (some ⟨gb, 0, none⟩) x) b (wire_Pack_Close st a).2 ∧ GrM w w' (fun x => x = b ∨ x = mb ∨ MO (some ⟨gb, 0, none⟩) x) ∧ True), ⟨hOK, hG, trivial⟩, (fun p q hp hx => ⟨hp.1.ext hx, gm_ext hp.2.1 hx, trivial⟩), ?_, ?_⟩
  · exact fun _ _ => trivial
  refine QT.nil fun w5 hC5 => ?_
  refine hM3 _ _ ?_
  refine X.seq fun M4 hM4 => ?_
  refine X.region ?_
  refine XO.do rfl (D.asn (v := .int .i64 0) rfl rfl ?_)
  refine XO.nil ?_
  refine hM4 _ _ ?_
  refine X.ret ?_
  exact hR _ _ _ (ret1 (v := .int .i64 0) rfl rfl) ⟨_, by rw [hcl], hC5.1, fun x hx => .inl hx, hC5.2.1⟩
end Go.Proofs.Ytfcaekghpkpjdaa.K

/- Walks, printed by a program of this session. -/
namespace Go.Proofs.Ytfcaekghpkpjdaa.K
open Go Go.RowKit Go.Proofs
set_option linter.unusedVariables false
set_option maxRecDepth 100000
set_option maxHeartbeats 4000000
namespace FD1
theorem cf28 : Callable Try.prog 28 := callable Try.func28 (by kernel_rfl) rfl
theorem cf29 : Callable Try.prog 29 := callable Try.func29 (by kernel_rfl) rfl
theorem cf30 : Callable Try.prog 30 := callable Try.func30 (by kernel_rfl) rfl
theorem cf55 : Callable Try.prog 55 := callable Try.func55 (by kernel_rfl) rfl
theorem cf58 : Callable Try.prog 58 := callable Try.func58 (by kernel_rfl) rfl
theorem sc3 : Sca Try.prog 3 := sca Try.underlying3 rfl
theorem sc9 : Sca Try.prog 9 := sca Try.underlying9 rfl
theorem ti3 : TI Try.prog 3 (.int .i64 0) 1 8 := by unfold TI; kernel_rfl
theorem sz3 : ∀ w, (sizeOf 3).run Try.prog w = .ok 1 w := fun w => ti3.size w
theorem ti9 : TI Try.prog 9 (S []) 1 16 := by unfold TI; kernel_rfl
theorem sz9 : ∀ w, (sizeOf 9).run Try.prog w = .ok 1 w := fun w => ti9.size w
end FD1
open FD1

theorem rdata_Put.walk (kf : Nat) (a3 : Pack) (a7 : Int) (a8 : Str) (M2 : Nat → Prop) (b2 : Nat) (w : World) (H4 : okPack.is w M2 b2 a3) (res : Int × Pack) (h : rdata_Put.f kf a3 a7 a8 = some res) :
    Ret Try.prog 37 ([pt b2 0, .int .u16 a7, S a8] : List Value).toArray w fun v w' => ∃ (M' : Nat → Prop), v = .int .i64 res.1 ∧ okPack.is w' M' b2 res.2 ∧ (∀ x, M' x → M2 x ∨ w.heap.size ≤ x) ∧ GrM w w' M2 := by
  unfold rdata_Put.f at h
  refine enterX Try.func37 rfl Try.ntmps37 rfl (fun R hR => ?_)
  have hB := GrM.refl w M2
  refine X.seq fun M9 hM10 => ?_
  refine X.region ?_
  refine XO.do rfl (D.asn (v := .int .i64 0) rfl rfl ?_)
  refine XO.nil ?_
  refine hM10 _ _ ?_
  refine X.seq fun M28 hM29 => ?_
  refine X.seq fun M36 hM37 => ?_
  refine X.region ?_
  refine XO.do rfl (D.mv (v := pt b2 0) rfl rfl ?_)
  refine XO.do rfl (D.eqlPnil (p := some ⟨b2, 0, none⟩) Try.underlying35 rfl rfl rfl ?_)
  refine XO.do rfl (D.mv (v := .bool false) rfl rfl ?_)
  refine XO.do (wantG (j := 2) (b := false) rfl (rfl) rfl) (D.mv (v := .int .u16 a7) rfl rfl ?_)
  refine XO.do (wantG (j := 2) (b := false) rfl (rfl) rfl) (D.mv (v := S a8) rfl rfl ?_)
  rcases (Classical.em (rdata_May.pre a7 a8)).symm with c38 | c38
  · rw [if_neg c38] at h; cases h
  rw [if_pos c38] at h
  obtain ⟨r42, q43, h⟩ := lt_elim h
  have hc41 := rdata_May.ok a7 a8 w c38 
  rw [q43] at hc41
  clear q43
  refine XO.do (wantG (j := 2) (b := false) rfl (rfl) rfl) (D.call (vs := [.int .u16 a7, S a8]) cf28 hc41 rfl rfl ?_)
  rintro _ w39 ⟨rfl, e40⟩
  clear hc41
  replace hB := gm_ext hB e40
  replace H4 := H4.ext e40
  clear e40
  refine XO.do (wantG (j := 2) (b := false) rfl (rfl) rfl) (D.not r42 rfl rfl ?_)
  refine XO.do rfl (D.pick false (v := .bool (!r42)) (congrArg Value.bool (rfl)) rfl rfl ?_)
  refine XO.nil ?_
  refine hM37 _ _ ?_
  by_cases c44 : r42 = true
  · rw [if_pos c44] at h
    refine X.condF (congrArg Value.bool ((congrArg (!·) (c44)))) ?_
    refine X.skip ?_
    refine hM29 _ _ ?_
    refine X.seq fun M45 hM46 => ?_
    refine X.region ?_
    refine XO.do rfl (D.mv (v := .int .u16 a7) rfl rfl ?_)
    refine XO.do rfl (D.mv (v := S a8) rfl rfl ?_)
    rcases (Classical.em (rdata_cut.pre a7 a8)).symm with c47 | c47
    · rw [if_neg c47] at h; cases h
    rw [if_pos c47] at h
    obtain ⟨r51, q52, h⟩ := lt_elim h
    have hc50 := rdata_cut.ok a7 a8 w39 c47 
    rw [q52] at hc50
    clear q52
    refine XO.do rfl (D.call (vs := [.int .u16 a7, S a8]) cf55 hc50 rfl rfl ?_)
    rintro _ w48 ⟨A53, k54, rfl, H55, g56, e49⟩
    clear hc50
    have ne_6_57 : ∀ x y, M2 x → MR A53 r51.1 y → x ≠ y := ne_of (lt_le H4.lt (Nat.le_refl _)) (fun y hy => g56 y hy.1)
    have z57 : ∀ y, blkOf A53 = some y → w.heap.size ≤ y := fun y hy => Nat.le_trans hB.size (g56 y hy)
    replace hB := gm_ext hB e49
    replace H4 := H4.ext e49
    clear e49
    refine XO.do rfl (D.mv (v := .tuple #[.slice A53 r51.1.length k54, .bool r51.2]) rfl rfl ?_)
    refine XO.do rfl (D.extract (v := .slice A53 r51.1.length k54) rfl rfl rfl ?_)
    refine XO.do rfl (D.extract (v := .bool r51.2) rfl rfl rfl ?_)
    refine XO.do rfl (D.asn (v := .slice A53 r51.1.length k54) rfl rfl ?_)
    refine XO.do rfl (D.asn (v := .bool r51.2) rfl rfl ?_)
    refine XO.nil ?_
    refine hM46 _ _ ?_
    refine X.seq fun M338 hM339 => ?_
    refine X.seq fun M340 hM341 => ?_
    refine X.region ?_
    refine XO.do rfl (D.mv (v := .int .u16 a7) rfl rfl ?_)
    obtain ⟨r345, q346, h⟩ := lt_elim h
    have hc344 := rdata_layout.ok a7 w48 
    rw [q346] at hc344
    clear q346
    refine XO.do rfl (D.call (vs := [.int .u16 a7]) cf58 hc344 rfl rfl ?_)
    rintro _ w342 ⟨A347, k348, rfl, H349, g350, e343⟩
    clear hc344
    have ne_6_351 : ∀ x y, M2 x → MR A347 r345 y → x ≠ y := ne_of (lt_le H4.lt (Nat.le_refl _)) (fun y hy => g350 y hy.1)
    have z351 : ∀ y, blkOf A347 = some y → w.heap.size ≤ y := fun y hy => Nat.le_trans hB.size (g350 y hy)
    replace hB := gm_ext hB e343
    replace H4 := H4.ext e343
    replace H55 := H55.ext e343
    clear e343
    refine XO.do rfl (D.lenR (A := A347) (c := k348) (m := r345.length) Try.underlying105 rfl rfl ?_)
    refine XO.do rfl (D.mv (v := .int .i64 0) rfl rfl ?_)
    refine XO.nil ?_
    refine hM341 _ _ ?_
    refine X.block ?_
    refine X.loop (fun kq621 => fun f500 w499 => ∃ M493 : Nat → Prop, ∃ x494 : Pack, ∃ x497 : Int, f500 0 = pt b2 0 ∧ f500 7 = .slice A53 r51.1.length k54 ∧ f500 26 = .slice A347 r345.length k348 ∧ f500 27 = .int .i64 (r345.length : Int) ∧ f500 28 = .int .i64 x497 ∧ GrM w w499 M2 ∧ okPack.is w499 M493 b2 x494 ∧ (∀ x, M493 x → M2 x ∨ w.heap.size ≤ x) ∧ Row eStr w499 A53 k54 r51.1 ∧ Row (eInt .i64) w499 A347 k348 r345 ∧ (∀ x y, M493 x → MR A53 r51.1 y → x ≠ y) ∧ (∀ x y, M493 x → MR A347 r345 y → x ≠ y) ∧ rdata_Put.l1 r345 r51 kq621 x494 x497 = some res) kf ?_ ?_
    · exact ⟨M2, a3, 0, rfl, rfl, rfl, rfl, rfl, hB, H4, (fun x hx => .inl hx), H55, H349, ne_6_57, ne_6_351, h⟩
    · intro kq621 f500 w499 hI
      obtain ⟨M493, x494, x497, s501, s502, s503, s504, s505, hB, H492, hg6, H495, H496, pr6_57, pr6_351, h⟩ := hI
      cases kq621 with
      | zero => exact absurd h (by rw [rdata_Put.l1.eq_1]; simp)
      | succ kf491 =>
        rw [rdata_Put.l1.eq_2] at h
        refine X.fr (d := 0) s501 ?_
        refine X.fr (d := 7) s502 ?_
        refine X.fr (d := 26) s503 ?_
        refine X.fr (d := 27) s504 ?_
        refine X.fr (d := 28) s505 ?_
        refine X.seq fun M508 hM509 => ?_
        refine X.region ?_
        refine XO.do rfl (D.lss rfl rfl rfl ?_)
        refine XO.nil ?_
        refine hM509 _ _ ?_
        refine X.seq fun M511 hM512 => ?_
        by_cases c513 : x497 < (r345.length : Int)
        · rw [if_pos c513] at h
          refine X.condT (congrArg Value.bool (decide_eq_true c513)) ?_
          refine X.skip ?_
          refine hM512 _ _ ?_
          refine X.cut (fun f566 w565 => ∃ M561 : Nat → Prop, ∃ x562 : Pack, f566 0 = pt b2 0 ∧ f566 7 = .slice A53 r51.1.length k54 ∧ f566 26 = .slice A347 r345.length k348 ∧ f566 27 = .int .i64 (r345.length : Int) ∧ f566 28 = .int .i64 x497 ∧ GrM w w565 M2 ∧ okPack.is w565 M561 b2 x562 ∧ (∀ x, M561 x → M2 x ∨ w.heap.size ≤ x) ∧ Row eStr w565 A53 k54 r51.1 ∧ Row (eInt .i64) w565 A347 k348 r345 ∧ (∀ x y, M561 x → MR A53 r51.1 y → x ≠ y) ∧ (∀ x y, M561 x → MR A347 r345 y → x ≠ y) ∧ rdata_Put.j2 (rdata_Put.l1 r345 r51 kf491) x497 x562 = some res) ?_ ?_
          · refine X.block ?_
            refine X.seq fun M573 hM574 => ?_
            refine X.region ?_
            refine XO.do rfl (D.mv (v := .int .i64 x497) rfl rfl ?_)
            rcases (Classical.em (0 ≤ x497)).symm with c575 | c575
            · rw [if_neg c575] at h; cases h
            rw [if_pos c575] at h
            refine XO.do rfl (D.indexR (i := x497) Try.underlying105 sz3 H496 rfl rfl c575 c513 rfl ?_)
            intro b576 o577 _ H578
            refine XO.do rfl (D.load (j := 0) (v := .int .i64 (rd r345 x497)) sc3 H578 rfl rfl rfl rfl ?_)
            refine XO.do rfl (D.asn (v := .int .i64 x497) rfl rfl ?_)
            refine XO.do rfl (D.asn (v := .int .i64 (rd r345 x497)) rfl rfl ?_)
            refine XO.nil ?_
            refine hM574 _ _ ?_
            refine X.seq fun M580 hM581 => ?_
            refine X.region ?_
            refine XO.do rfl (D.mv (v := .int .i64 (rd r345 x497)) rfl rfl ?_)
            refine XO.do rfl (D.eql rfl rfl rfl ?_)
            refine XO.nil ?_
            refine hM581 _ _ ?_
            by_cases c582 : (rd r345 x497) = (-1)
            · rw [if_pos c582] at h
              refine X.condT (congrArg Value.bool (beq_iff_eq.2 c582)) ?_
              refine X.region ?_
              refine XO.do rfl (D.mv (v := pt b2 0) rfl rfl ?_)
              refine XO.do rfl (D.mv (v := .slice A53 r51.1.length k54) rfl rfl ?_)
              refine XO.do rfl (D.mv (v := .int .i64 x497) rfl rfl ?_)
              rcases (Classical.em (x497 < (r51.1.length : Int))).symm with c583 | c583
              · rw [if_neg c583] at h; cases h
              rw [if_pos c583] at h
              refine XO.do rfl (D.indexR (i := x497) Try.underlying94 sz9 H495 rfl rfl c575 c583 rfl ?_)
              intro b584 o585 _ H586
              refine XO.do rfl (D.load (j := 0) (v := S (rd r51.1 x497)) sc9 H586 rfl rfl rfl rfl ?_)
              rcases (Classical.em (wire_Pack_Name.pre x494 (rd r51.1 x497))).symm with c588 | c588
              · rw [if_neg c588] at h; cases h
              rw [if_pos c588] at h
              obtain ⟨r592, q593, h⟩ := lt_elim h
              have hc591 := wire_Pack_Name.ok x494 (rd r51.1 x497) M493 b2 w499 H492 c588 
              rw [q593] at hc591
              clear q593
              refine XO.do rfl (D.call (vs := [pt b2 0, S (rd r51.1 x497)]) cf29 hc591 rfl rfl ?_)
              rintro _ w594 ⟨M597, rfl, H595, u598, e596⟩
              clear hc591
              have pr6_57n := ne_sub u598 pr6_57 (MR.lt H495 (Nat.le_refl _))
              have pr6_351n := ne_sub u598 pr6_351 (MR.lt H496 (Nat.le_refl _))
              have v506n := sub_sub u598 hg6 hB.size
              replace hB := hB.step e596 hg6
              replace H495 := H495.gm e596 (sepM (ne_flip pr6_57))
              replace H496 := H496.gm e596 (sepM (ne_flip pr6_351))
              replace pr6_57 := pr6_57n
              replace pr6_351 := pr6_351n
              clear e596 u598 H492
              have v599 := v506n
              clear v506n
              refine XO.nil ?_
              exact ⟨M597, r592.2, rfl, rfl, rfl, rfl, rfl, hB, H595, v599, H495, H496, pr6_57, pr6_351, h⟩
            · rw [if_neg c582] at h
              refine X.condF (congrArg Value.bool (beq_eq_false_iff_ne.2 c582)) ?_
              refine X.region ?_
              refine XO.do rfl (D.mv (v := pt b2 0) rfl rfl ?_)
              refine XO.do rfl (D.mv (v := .slice A53 r51.1.length k54) rfl rfl ?_)
              refine XO.do rfl (D.mv (v := .int .i64 x497) rfl rfl ?_)
              rcases (Classical.em (x497 < (r51.1.length : Int))).symm with c601 | c601
              · rw [if_neg c601] at h; cases h
              rw [if_pos c601] at h
              refine XO.do rfl (D.indexR (i := x497) Try.underlying94 sz9 H495 rfl rfl c575 c601 rfl ?_)
              intro b602 o603 _ H604
              refine XO.do rfl (D.load (j := 0) (v := S (rd r51.1 x497)) sc9 H604 rfl rfl rfl rfl ?_)
              rcases (Classical.em (wire_Pack_Add.pre x494 (rd r51.1 x497))).symm with c606 | c606
              · rw [if_neg c606] at h; cases h
              rw [if_pos c606] at h
              obtain ⟨r610, q611, h⟩ := lt_elim h
              have hc609 := wire_Pack_Add.ok x494 (rd r51.1 x497) M493 b2 w499 H492 c606 
              rw [q611] at hc609
              clear q611
              refine XO.do rfl (D.call (vs := [pt b2 0, S (rd r51.1 x497)]) cf30 hc609 rfl rfl ?_)
              rintro _ w612 ⟨M615, rfl, H613, u616, e614⟩
              clear hc609
              have pr6_57n := ne_sub u616 pr6_57 (MR.lt H495 (Nat.le_refl _))
              have pr6_351n := ne_sub u616 pr6_351 (MR.lt H496 (Nat.le_refl _))
              have v506n := sub_sub u616 hg6 hB.size
              replace hB := hB.step e614 hg6
              replace H495 := H495.gm e614 (sepM (ne_flip pr6_57))
              replace H496 := H496.gm e614 (sepM (ne_flip pr6_351))
              replace pr6_57 := pr6_57n
              replace pr6_351 := pr6_351n
              clear e614 u616 H492
              have v617 := v506n
              clear v506n
              refine XO.nil ?_
              exact ⟨M615, r610, rfl, rfl, rfl, rfl, rfl, hB, H613, v617, H495, H496, pr6_57, pr6_351, h⟩
          · intro f566 w565 hI
            obtain ⟨M561, x562, s567, s568, s569, s570, s571, hB, H560, hg6, H563, H564, pr6_57, pr6_351, h⟩ := hI
            refine X.fr (d := 0) s567 ?_
            refine X.fr (d := 7) s568 ?_
            refine X.fr (d := 26) s569 ?_
            refine X.fr (d := 27) s570 ?_
            refine X.fr (d := 28) s571 ?_
            unfold rdata_Put.j2 at h
            refine X.region ?_
            refine XO.do rfl (D.add rfl rfl rfl ?_)
            refine XO.do rfl (D.mv (v := .int .i64 (w64 (x497 + 1))) rfl rfl ?_)
            refine XO.nil ?_
            exact ⟨kf491, Nat.lt_succ_self _, M561, x562, w64 (x497 + 1), rfl, rfl, rfl, rfl, rfl, hB, H560, hg6, H563, H564, pr6_57, pr6_351, h⟩
        · rw [if_neg c513] at h
          refine X.condF (congrArg Value.bool (decide_eq_false c513)) ?_
          refine X.exit rfl ?_
          refine hM339 _ _ ?_
          refine X.seq fun M619 hM620 => ?_
          refine X.region ?_
          refine XO.do rfl (D.asn (v := .int .i64 0) rfl rfl ?_)
          refine XO.nil ?_
          refine hM620 _ _ ?_
          refine X.ret ?_
          injection h with h
          subst h
          exact hR _ _ _ (ret1 (v := .int .i64 0) rfl rfl) ⟨M493, rfl, H492, hg6, hB⟩
  · rw [if_neg c44] at h
    refine X.condT (congrArg Value.bool ((congrArg (!·) ((Bool.eq_false_iff.2 c44))))) ?_
    refine X.seq fun M622 hM623 => ?_
    refine X.region ?_
    refine XO.do rfl (D.asn (v := .int .i64 1) rfl rfl ?_)
    refine XO.nil ?_
    refine hM623 _ _ ?_
    refine X.ret ?_
    injection h with h
    subst h
    exact hR _ _ _ (ret1 (v := .int .i64 1) rfl rfl) ⟨M2, rfl, H4, (fun x hx => .inl hx), hB⟩
theorem rdata_Put.ok (a3 : Pack) (a7 : Int) (a8 : Str) (M2 : Nat → Prop) (b2 : Nat) (w : World) (H4 : okPack.is w M2 b2 a3) (hp : rdata_Put.pre a3 a7 a8) :
    Ret Try.prog 37 ([pt b2 0, .int .u16 a7, S a8] : List Value).toArray w fun v w' => ∃ (M' : Nat → Prop), v = .int .i64 ((rdata_Put a3 a7 a8).1) ∧ okPack.is w' M' b2 ((rdata_Put a3 a7 a8).2) ∧ (∀ x, M' x → M2 x ∨ w.heap.size ≤ x) ∧ GrM w w' M2 := by
  obtain ⟨kf, h⟩ := rdata_Put.eq a3 a7 a8 hp
  exact rdata_Put.walk kf a3 a7 a8 M2 b2 w H4 _ h
end Go.Proofs.Ytfcaekghpkpjdaa.K

/- Walks, printed by a program of this session. -/
namespace Go.Proofs.Ytfcaekghpkpjdaa.K
open Go Go.RowKit Go.Proofs
set_option linter.unusedVariables false
set_option maxRecDepth 100000
set_option maxHeartbeats 4000000
namespace FE4
theorem ti25 : TI Try.prog 25 (.agg #[S [], .int .u16 0, .int .u16 0, .int .u32 0, S []]) 5 40 := by unfold TI; kernel_rfl
theorem ag25 : Agg Try.prog 25 5 := agg Try.underlying25 rfl ti25
theorem ti30 : TI Try.prog 30 (.agg #[S [], .int .u16 0, .int .u16 0]) 3 24 := by unfold TI; kernel_rfl
theorem ag30 : Agg Try.prog 30 3 := agg Try.underlying30 rfl ti30
theorem cf11 : Callable Try.prog 11 := callable Try.func11 (by kernel_rfl) rfl
theorem cf23 : Callable Try.prog 23 := callable Try.func23 (by kernel_rfl) rfl
theorem cf29 : Callable Try.prog 29 := callable Try.func29 (by kernel_rfl) rfl
theorem cf30 : Callable Try.prog 30 := callable Try.func30 (by kernel_rfl) rfl
theorem cf31 : Callable Try.prog 31 := callable Try.func31 (by kernel_rfl) rfl
theorem cf35 : Callable Try.prog 35 := callable Try.func35 (by kernel_rfl) rfl
theorem cf36 : Callable Try.prog 36 := callable Try.func36 (by kernel_rfl) rfl
theorem cf37 : Callable Try.prog 37 := callable Try.func37 (by kernel_rfl) rfl
theorem cf38 : Callable Try.prog 38 := callable Try.func38 (by kernel_rfl) rfl
theorem ti9 : TI Try.prog 9 (S []) 1 16 := by unfold TI; kernel_rfl
theorem fa25_0 : FA Try.prog 25 0 0 := fa Try.underlying25 rfl ti9 rfl rfl
theorem ti22 : TI Try.prog 22 (.int .u16 0) 1 2 := by unfold TI; kernel_rfl
theorem fa25_1 : FA Try.prog 25 1 1 := fa Try.underlying25 rfl ti22 rfl rfl
theorem fa25_2 : FA Try.prog 25 2 2 := fa Try.underlying25 rfl ti22 rfl rfl
theorem ti23 : TI Try.prog 23 (.int .u32 0) 1 4 := by unfold TI; kernel_rfl
theorem fa25_3 : FA Try.prog 25 3 3 := fa Try.underlying25 rfl ti23 rfl rfl
theorem fa25_4 : FA Try.prog 25 4 4 := fa Try.underlying25 rfl ti9 rfl rfl
theorem fa30_0 : FA Try.prog 30 0 0 := fa Try.underlying30 rfl ti9 rfl rfl
theorem fa30_1 : FA Try.prog 30 1 1 := fa Try.underlying30 rfl ti22 rfl rfl
theorem fa30_2 : FA Try.prog 30 2 2 := fa Try.underlying30 rfl ti22 rfl rfl
theorem mixed0 : Try.prog.follows .mixedOrders = true := by kernel_rfl
theorem sc22 : Sca Try.prog 22 := sca Try.underlying22 rfl
theorem sc23 : Sca Try.prog 23 := sca Try.underlying23 rfl
theorem sc9 : Sca Try.prog 9 := sca Try.underlying9 rfl
end FE4
open FE4

theorem record_PutQ.walk (a3 : Pack) (a7 : Question) (M2 : Nat → Prop) (b2 : Nat) (w : World) (H4 : okPack.is w M2 b2 a3) (res : Int × Pack) (h : record_PutQ.f a3 a7 = some res) :
    Ret Try.prog 13 ([pt b2 0, .agg #[S a7.name, .int .u16 a7.ty, .int .u16 a7.cls]] : List Value).toArray w fun v w' => ∃ (M' : Nat → Prop), v = .int .i64 res.1 ∧ okPack.is w' M' b2 res.2 ∧ (∀ x, M' x → M2 x ∨ w.heap.size ≤ x) ∧ GrM w w' M2 := by
  unfold record_PutQ.f at h
  refine enterX Try.func13 rfl Try.ntmps13 rfl (fun R hR => ?_)
  have hB := GrM.refl w M2
  refine X.seq fun M8 hM9 => ?_
  refine X.region ?_
  refine XO.do rfl (D.box (v := .agg #[S a7.name, .int .u16 a7.ty, .int .u16 a7.cls]) (cs := [S a7.name, .int .u16 a7.ty, .int .u16 a7.cls]) rfl rfl rfl ?_)
  intro b10 w11 hb12 H13 e14 _
  have ne_6_15 : ∀ x y, M2 x → MB b10 y → x ≠ y := ne_of (lt_le H4.lt (Nat.le_of_eq hb12.symm)) (MB.ge b10)
  have g15 : w.heap.size ≤ b10 := Nat.le_trans hB.size (Nat.le_of_eq hb12.symm)
  clear hb12
  replace hB := gm_ext hB e14
  replace H4 := H4.ext e14
  clear e14
  refine XO.do rfl (D.asn (v := .int .i64 0) rfl rfl ?_)
  refine XO.nil ?_
  refine hM9 _ _ ?_
  refine X.seq fun M33 hM34 => ?_
  refine X.seq fun M41 hM42 => ?_
  refine X.region ?_
  refine XO.do rfl (D.mv (v := pt b2 0) rfl rfl ?_)
  refine XO.do rfl (D.eqlPnil (p := some ⟨b2, 0, none⟩) Try.underlying35 rfl rfl rfl ?_)
  refine XO.do rfl (D.mv (v := .bool false) rfl rfl ?_)
  refine XO.do (wantG (j := 2) (b := false) rfl (rfl) rfl) (D.loadA (j := 0) (us := [S a7.name, .int .u16 a7.ty, .int .u16 a7.cls]) ag30 H13.cs rfl rfl rfl rfl rfl ?_)
  rcases (Classical.em (record_MayQ.pre a7)).symm with c43 | c43
  · rw [if_neg c43] at h; cases h
  rw [if_pos c43] at h
  obtain ⟨r47, q48, h⟩ := lt_elim h
  have hc46 := record_MayQ.ok a7 w11 c43 
  rw [q48] at hc46
  clear q48
  refine XO.do (wantG (j := 2) (b := false) rfl (rfl) rfl) (D.call (vs := [.agg #[S a7.name, .int .u16 a7.ty, .int .u16 a7.cls]]) cf23 hc46 rfl rfl ?_)
  rintro _ w44 ⟨rfl, e45⟩
  clear hc46
  replace hB := gm_ext hB e45
  replace H4 := H4.ext e45
  replace H13 := H13.ext e45
  clear e45
  refine XO.do (wantG (j := 2) (b := false) rfl (rfl) rfl) (D.not r47 rfl rfl ?_)
  refine XO.do rfl (D.pick false (v := .bool (!r47)) (congrArg Value.bool (rfl)) rfl rfl ?_)
  refine XO.nil ?_
  refine hM42 _ _ ?_
  by_cases c49 : r47 = true
  · rw [if_pos c49] at h
    refine X.condF (congrArg Value.bool ((congrArg (!·) (c49)))) ?_
    refine X.skip ?_
    refine hM34 _ _ ?_
    refine X.seq fun M50 hM51 => ?_
    refine X.region ?_
    refine XO.do rfl (D.mv (v := pt b2 0) rfl rfl ?_)
    refine XO.do rfl (D.fieldAddr (o' := 0) fa30_0 rfl rfl rfl ?_)
    refine XO.do rfl (D.load (j := 0) (v := S a7.name) sc9 H13.cs rfl rfl rfl rfl ?_)
    rcases (Classical.em (wire_Pack_Name.pre a3 a7.name)).symm with c52 | c52
    · rw [if_neg c52] at h; cases h
    rw [if_pos c52] at h
    obtain ⟨r56, q57, h⟩ := lt_elim h
    have hc55 := wire_Pack_Name.ok a3 a7.name M2 b2 w44 H4 c52 
    rw [q57] at hc55
    clear q57
    refine XO.do rfl (D.call (vs := [pt b2 0, S a7.name]) cf29 hc55 rfl rfl ?_)
    rintro _ w58 ⟨M61, rfl, H59, u62, e60⟩
    clear hc55
    have ne_6_15n := ne_sub u62 ne_6_15 (MB.lt H13 (Nat.le_refl _))
    have v5n := sub_sub u62 (fun x hx => .inl hx) hB.size
    replace hB := hB.step e60 (fun x hx => .inl hx)
    replace H13 := H13.gm e60 (sepM (ne_flip ne_6_15))
    replace ne_6_15 := ne_6_15n
    clear e60 u62 H4
    have v63 := v5n
    clear v5n
    refine XO.nil ?_
    refine hM51 _ _ ?_
    refine X.seq fun M65 hM66 => ?_
    refine X.tree mixed0 [0, 0, 2, 6, 0, 16, 62, 126, 255] (.q 0 (.q 1 (.q 2 (.q 3 (.q 4 (.q 5 (.q 6 (.q 7 (.alt 8 .nil .nil))))))))) (fun w' => GrM w w' M2 ∧ Blk w' b10 [S a7.name, .int .u16 a7.ty, .int .u16 a7.cls] 30) (fun w' => GrM w w' M2 ∧ okPack.is w' M61 b2 r56.2 ∧ Blk w' b10 [S a7.name, .int .u16 a7.ty, .int .u16 a7.cls] 30) (by decide +kernel) (fun w' hx _ => ⟨gm_ext hB hx, H59.ext hx, H13.ext hx⟩) (fun a b hC hx => by obtain ⟨hB, H59, H13⟩ := hC; exact ⟨gm_ext hB hx, H59.ext hx, H13.ext hx⟩) (fun a hC => by obtain ⟨hB, H59, H13⟩ := hC; exact ⟨hB, H13⟩) ?_
    refine QT.do (v := pt b2 0) rfl (by decide +kernel) rfl rfl rfl (fun w' hJ => by obtain ⟨hB, H59, H13⟩ := hJ; exact D.mv (v := pt b2 0) rfl rfl ⟨rfl, Ext.refl _⟩) ?_
    refine QT.do (v := pt b10 1) rfl (by decide +kernel) rfl rfl rfl (fun w' hJ => by obtain ⟨hB, H59, H13⟩ := hJ; exact D.fieldAddr (o' := 1) fa30_1 rfl rfl rfl ⟨rfl, Ext.refl _⟩) ?_
    refine QT.do (v := .int .u16 a7.ty) rfl (by decide +kernel) rfl rfl rfl (fun w' hJ => by obtain ⟨hB, H59, H13⟩ := hJ; exact D.load (j := 1) (v := .int .u16 a7.ty) sc22 H13.cs rfl rfl rfl rfl ⟨rfl, Ext.refl _⟩) ?_
    obtain ⟨r95, q96, h⟩ := lt_elim h
    refine QT.do (v := S r95) rfl (by decide +kernel) rfl rfl rfl (fun w' hJ => by obtain ⟨hB, H59, H13⟩ := hJ; have hc := octet_Put16.ok a7.ty w'; rw [q96] at hc; refine D.call (vs := [.int .u16 a7.ty]) cf31 hc rfl rfl ?_; rintro _ w2 ⟨rfl, e2⟩; exact ⟨rfl, e2⟩) ?_
    refine QT.do (v := pt b10 2) rfl (by decide +kernel) rfl rfl rfl (fun w' hJ => by obtain ⟨hB, H59, H13⟩ := hJ; exact D.fieldAddr (o' := 2) fa30_2 rfl rfl rfl ⟨rfl, Ext.refl _⟩) ?_
    refine QT.do (v := .int .u16 a7.cls) rfl (by decide +kernel) rfl rfl rfl (fun w' hJ => by obtain ⟨hB, H59, H13⟩ := hJ; exact D.load (j := 2) (v := .int .u16 a7.cls) sc22 H13.cs rfl rfl rfl rfl ⟨rfl, Ext.refl _⟩) ?_
    obtain ⟨r100, q101, h⟩ := lt_elim h
    refine QT.do (v := S r100) rfl (by decide +kernel) rfl rfl rfl (fun w' hJ => by obtain ⟨hB, H59, H13⟩ := hJ; have hc := octet_Put16.ok a7.cls w'; rw [q101] at hc; refine D.call (vs := [.int .u16 a7.cls]) cf31 hc rfl rfl ?_; rintro _ w2 ⟨rfl, e2⟩; exact ⟨rfl, e2⟩) ?_
    rcases (Classical.em (r95.length + r100.length ≤ 9223372036854775807)).symm with c102 | c102
    · rw [if_neg c102] at h; cases h
    rw [if_pos c102] at h
    refine QT.do (v := S (r95 ++ r100)) rfl (by decide +kernel) rfl rfl rfl (fun w' hJ => by obtain ⟨hB, H59, H13⟩ := hJ; exact D.addS rfl rfl c102 rfl ⟨rfl, Ext.refl _⟩) ?_
    refine QT.eff rfl rfl (fun w103 hC => ?_) QT.nomore
    obtain ⟨hB, H59, H13⟩ := hC
    rcases (Classical.em (wire_Pack_Add.pre r56.2 (r95 ++ r100))).symm with c104 | c104
    · rw [if_neg c104] at h; cases h
    rw [if_pos c104] at h
    obtain ⟨r108, q109, h⟩ := lt_elim h
    have hc107 := wire_Pack_Add.ok r56.2 (r95 ++ r100) M61 b2 w103 H59 c104 
    rw [q109] at hc107
    clear q109
    refine D.call (vs := [pt b2 0, S (r95 ++ r100)]) cf30 hc107 rfl rfl ?_
    rintro _ w110 ⟨M113, rfl, H111, u114, e112⟩
    clear hc107
    have ne_6_15n := ne_sub u114 ne_6_15 (MB.lt H13 (Nat.le_refl _))
    have v64n := sub_sub u114 v63 hB.size
    replace hB := hB.step e112 v63
    replace H13 := H13.gm e112 (sepM (ne_flip ne_6_15))
    replace ne_6_15 := ne_6_15n
    clear e112 u114 H59
    have v115 := v64n
    clear v64n
    refine ⟨_, rfl, (fun w' => GrM w w' M2 ∧ okPack.is w' M113 b2 r108 ∧ Blk w' b10 [S a7.name, .int .u16 a7.ty, .int .u16 a7.cls] 30), ⟨hB, H111, H13⟩, (fun a b hC hx => by obtain ⟨hB, H111, H13⟩ := hC; exact ⟨gm_ext hB hx, H111.ext hx, H13.ext hx⟩), (fun a hC => by obtain ⟨hB, H111, H13⟩ := hC; exact ⟨hB, H13⟩), ?_⟩
    refine QT.nil fun w117 hC => ?_
    obtain ⟨hB, H111, H13⟩ := hC
    refine hM66 _ _ ?_
    refine X.seq fun M118 hM119 => ?_
    refine X.region ?_
    refine XO.do rfl (D.asn (v := .int .i64 0) rfl rfl ?_)
    refine XO.nil ?_
    refine hM119 _ _ ?_
    refine X.ret ?_
    injection h with h
    subst h
    exact hR _ _ _ (ret1 (v := .int .i64 0) rfl rfl) ⟨M113, rfl, H111, v115, hB⟩
  · rw [if_neg c49] at h
    refine X.condT (congrArg Value.bool ((congrArg (!·) ((Bool.eq_false_iff.2 c49))))) ?_
    refine X.seq fun M120 hM121 => ?_
    refine X.region ?_
    refine XO.do rfl (D.asn (v := .int .i64 1) rfl rfl ?_)
    refine XO.nil ?_
    refine hM121 _ _ ?_
    refine X.ret ?_
    injection h with h
    subst h
    exact hR _ _ _ (ret1 (v := .int .i64 1) rfl rfl) ⟨M2, rfl, H4, (fun x hx => .inl hx), hB⟩
theorem record_PutQ.ok (a3 : Pack) (a7 : Question) (M2 : Nat → Prop) (b2 : Nat) (w : World) (H4 : okPack.is w M2 b2 a3) (hp : record_PutQ.pre a3 a7) :
    Ret Try.prog 13 ([pt b2 0, .agg #[S a7.name, .int .u16 a7.ty, .int .u16 a7.cls]] : List Value).toArray w fun v w' => ∃ (M' : Nat → Prop), v = .int .i64 ((record_PutQ a3 a7).1) ∧ okPack.is w' M' b2 ((record_PutQ a3 a7).2) ∧ (∀ x, M' x → M2 x ∨ w.heap.size ≤ x) ∧ GrM w w' M2 := by
  have h := record_PutQ.eq a3 a7 hp
  exact record_PutQ.walk  a3 a7 M2 b2 w H4 _ h

theorem record_Put.walk (a3 : Pack) (a7 : RR) (M2 : Nat → Prop) (b2 : Nat) (w : World) (H4 : okPack.is w M2 b2 a3) (res : Int × Pack) (h : record_Put.f a3 a7 = some res) :
    Ret Try.prog 15 ([pt b2 0, .agg #[S a7.name, .int .u16 a7.ty, .int .u16 a7.cls, .int .u32 a7.ttl, S a7.data]] : List Value).toArray w fun v w' => ∃ (M' : Nat → Prop), v = .int .i64 res.1 ∧ okPack.is w' M' b2 res.2 ∧ (∀ x, M' x → M2 x ∨ w.heap.size ≤ x) ∧ GrM w w' M2 := by
  unfold record_Put.f at h
  refine enterX Try.func15 rfl Try.ntmps15 rfl (fun R hR => ?_)
  have hB := GrM.refl w M2
  refine X.seq fun M8 hM9 => ?_
  refine X.region ?_
  refine XO.do rfl (D.box (v := .agg #[S a7.name, .int .u16 a7.ty, .int .u16 a7.cls, .int .u32 a7.ttl, S a7.data]) (cs := [S a7.name, .int .u16 a7.ty, .int .u16 a7.cls, .int .u32 a7.ttl, S a7.data]) rfl rfl rfl ?_)
  intro b10 w11 hb12 H13 e14 _
  have ne_6_15 : ∀ x y, M2 x → MB b10 y → x ≠ y := ne_of (lt_le H4.lt (Nat.le_of_eq hb12.symm)) (MB.ge b10)
  have g15 : w.heap.size ≤ b10 := Nat.le_trans hB.size (Nat.le_of_eq hb12.symm)
  clear hb12
  replace hB := gm_ext hB e14
  replace H4 := H4.ext e14
  clear e14
  refine XO.do rfl (D.asn (v := .int .i64 0) rfl rfl ?_)
  refine XO.nil ?_
  refine hM9 _ _ ?_
  refine X.seq fun M33 hM34 => ?_
  refine X.seq fun M41 hM42 => ?_
  refine X.region ?_
  refine XO.do rfl (D.mv (v := pt b2 0) rfl rfl ?_)
  refine XO.do rfl (D.eqlPnil (p := some ⟨b2, 0, none⟩) Try.underlying35 rfl rfl rfl ?_)
  refine XO.do rfl (D.mv (v := .bool false) rfl rfl ?_)
  refine XO.do (wantG (j := 2) (b := false) rfl (rfl) rfl) (D.loadA (j := 0) (us := [S a7.name, .int .u16 a7.ty, .int .u16 a7.cls, .int .u32 a7.ttl, S a7.data]) ag25 H13.cs rfl rfl rfl rfl rfl ?_)
  rcases (Classical.em (record_May.pre a7)).symm with c43 | c43
  · rw [if_neg c43] at h; cases h
  rw [if_pos c43] at h
  obtain ⟨r47, q48, h⟩ := lt_elim h
  have hc46 := record_May.ok a7 w11 c43 
  rw [q48] at hc46
  clear q48
  refine XO.do (wantG (j := 2) (b := false) rfl (rfl) rfl) (D.call (vs := [.agg #[S a7.name, .int .u16 a7.ty, .int .u16 a7.cls, .int .u32 a7.ttl, S a7.data]]) cf11 hc46 rfl rfl ?_)
  rintro _ w44 ⟨rfl, e45⟩
  clear hc46
  replace hB := gm_ext hB e45
  replace H4 := H4.ext e45
  replace H13 := H13.ext e45
  clear e45
  refine XO.do (wantG (j := 2) (b := false) rfl (rfl) rfl) (D.not r47 rfl rfl ?_)
  refine XO.do rfl (D.pick false (v := .bool (!r47)) (congrArg Value.bool (rfl)) rfl rfl ?_)
  refine XO.nil ?_
  refine hM42 _ _ ?_
  by_cases c49 : r47 = true
  · rw [if_pos c49] at h
    refine X.condF (congrArg Value.bool ((congrArg (!·) (c49)))) ?_
    refine X.skip ?_
    refine hM34 _ _ ?_
    refine X.seq fun M50 hM51 => ?_
    refine X.region ?_
    refine XO.do rfl (D.mv (v := pt b2 0) rfl rfl ?_)
    refine XO.do rfl (D.fieldAddr (o' := 0) fa25_0 rfl rfl rfl ?_)
    refine XO.do rfl (D.load (j := 0) (v := S a7.name) sc9 H13.cs rfl rfl rfl rfl ?_)
    rcases (Classical.em (wire_Pack_Name.pre a3 a7.name)).symm with c52 | c52
    · rw [if_neg c52] at h; cases h
    rw [if_pos c52] at h
    obtain ⟨r56, q57, h⟩ := lt_elim h
    have hc55 := wire_Pack_Name.ok a3 a7.name M2 b2 w44 H4 c52 
    rw [q57] at hc55
    clear q57
    refine XO.do rfl (D.call (vs := [pt b2 0, S a7.name]) cf29 hc55 rfl rfl ?_)
    rintro _ w58 ⟨M61, rfl, H59, u62, e60⟩
    clear hc55
    have ne_6_15n := ne_sub u62 ne_6_15 (MB.lt H13 (Nat.le_refl _))
    have v5n := sub_sub u62 (fun x hx => .inl hx) hB.size
    replace hB := hB.step e60 (fun x hx => .inl hx)
    replace H13 := H13.gm e60 (sepM (ne_flip ne_6_15))
    replace ne_6_15 := ne_6_15n
    clear e60 u62 H4
    have v63 := v5n
    clear v5n
    refine XO.nil ?_
    refine hM51 _ _ ?_
    refine X.seq fun M65 hM66 => ?_
    refine X.tree mixed0 [0, 0, 2, 6, 0, 16, 62, 126, 0, 256, 894, 2046, 4095] (.q 0 (.q 1 (.q 2 (.q 3 (.q 4 (.q 5 (.q 6 (.q 7 (.q 8 (.q 9 (.q 10 (.q 11 (.alt 12 .nil .nil))))))))))))) (fun w' => GrM w w' M2 ∧ Blk w' b10 [S a7.name, .int .u16 a7.ty, .int .u16 a7.cls, .int .u32 a7.ttl, S a7.data] 25) (fun w' => GrM w w' M2 ∧ okPack.is w' M61 b2 r56.2 ∧ Blk w' b10 [S a7.name, .int .u16 a7.ty, .int .u16 a7.cls, .int .u32 a7.ttl, S a7.data] 25) (by decide +kernel) (fun w' hx _ => ⟨gm_ext hB hx, H59.ext hx, H13.ext hx⟩) (fun a b hC hx => by obtain ⟨hB, H59, H13⟩ := hC; exact ⟨gm_ext hB hx, H59.ext hx, H13.ext hx⟩) (fun a hC => by obtain ⟨hB, H59, H13⟩ := hC; exact ⟨hB, H13⟩) ?_
    refine QT.do (v := pt b2 0) rfl (by decide +kernel) rfl rfl rfl (fun w' hJ => by obtain ⟨hB, H59, H13⟩ := hJ; exact D.mv (v := pt b2 0) rfl rfl ⟨rfl, Ext.refl _⟩) ?_
    refine QT.do (v := pt b10 1) rfl (by decide +kernel) rfl rfl rfl (fun w' hJ => by obtain ⟨hB, H59, H13⟩ := hJ; exact D.fieldAddr (o' := 1) fa25_1 rfl rfl rfl ⟨rfl, Ext.refl _⟩) ?_
    refine QT.do (v := .int .u16 a7.ty) rfl (by decide +kernel) rfl rfl rfl (fun w' hJ => by obtain ⟨hB, H59, H13⟩ := hJ; exact D.load (j := 1) (v := .int .u16 a7.ty) sc22 H13.cs rfl rfl rfl rfl ⟨rfl, Ext.refl _⟩) ?_
    obtain ⟨r101, q102, h⟩ := lt_elim h
    refine QT.do (v := S r101) rfl (by decide +kernel) rfl rfl rfl (fun w' hJ => by obtain ⟨hB, H59, H13⟩ := hJ; have hc := octet_Put16.ok a7.ty w'; rw [q102] at hc; refine D.call (vs := [.int .u16 a7.ty]) cf31 hc rfl rfl ?_; rintro _ w2 ⟨rfl, e2⟩; exact ⟨rfl, e2⟩) ?_
    refine QT.do (v := pt b10 2) rfl (by decide +kernel) rfl rfl rfl (fun w' hJ => by obtain ⟨hB, H59, H13⟩ := hJ; exact D.fieldAddr (o' := 2) fa25_2 rfl rfl rfl ⟨rfl, Ext.refl _⟩) ?_
    refine QT.do (v := .int .u16 a7.cls) rfl (by decide +kernel) rfl rfl rfl (fun w' hJ => by obtain ⟨hB, H59, H13⟩ := hJ; exact D.load (j := 2) (v := .int .u16 a7.cls) sc22 H13.cs rfl rfl rfl rfl ⟨rfl, Ext.refl _⟩) ?_
    obtain ⟨r106, q107, h⟩ := lt_elim h
    refine QT.do (v := S r106) rfl (by decide +kernel) rfl rfl rfl (fun w' hJ => by obtain ⟨hB, H59, H13⟩ := hJ; have hc := octet_Put16.ok a7.cls w'; rw [q107] at hc; refine D.call (vs := [.int .u16 a7.cls]) cf31 hc rfl rfl ?_; rintro _ w2 ⟨rfl, e2⟩; exact ⟨rfl, e2⟩) ?_
    rcases (Classical.em (r101.length + r106.length ≤ 9223372036854775807)).symm with c108 | c108
    · rw [if_neg c108] at h; cases h
    rw [if_pos c108] at h
    refine QT.do (v := S (r101 ++ r106)) rfl (by decide +kernel) rfl rfl rfl (fun w' hJ => by obtain ⟨hB, H59, H13⟩ := hJ; exact D.addS rfl rfl c108 rfl ⟨rfl, Ext.refl _⟩) ?_
    refine QT.do (v := pt b10 3) rfl (by decide +kernel) rfl rfl rfl (fun w' hJ => by obtain ⟨hB, H59, H13⟩ := hJ; exact D.fieldAddr (o' := 3) fa25_3 rfl rfl rfl ⟨rfl, Ext.refl _⟩) ?_
    refine QT.do (v := .int .u32 a7.ttl) rfl (by decide +kernel) rfl rfl rfl (fun w' hJ => by obtain ⟨hB, H59, H13⟩ := hJ; exact D.load (j := 3) (v := .int .u32 a7.ttl) sc23 H13.cs rfl rfl rfl rfl ⟨rfl, Ext.refl _⟩) ?_
    obtain ⟨r112, q113, h⟩ := lt_elim h
    refine QT.do (v := S r112) rfl (by decide +kernel) rfl rfl rfl (fun w' hJ => by obtain ⟨hB, H59, H13⟩ := hJ; have hc := octet_Put32.ok a7.ttl w'; rw [q113] at hc; refine D.call (vs := [.int .u32 a7.ttl]) cf35 hc rfl rfl ?_; rintro _ w2 ⟨rfl, e2⟩; exact ⟨rfl, e2⟩) ?_
    rcases (Classical.em ((r101 ++ r106).length + r112.length ≤ 9223372036854775807)).symm with c114 | c114
    · rw [if_neg c114] at h; cases h
    rw [if_pos c114] at h
    refine QT.do (v := S ((r101 ++ r106) ++ r112)) rfl (by decide +kernel) rfl rfl rfl (fun w' hJ => by obtain ⟨hB, H59, H13⟩ := hJ; exact D.addS rfl rfl c114 rfl ⟨rfl, Ext.refl _⟩) ?_
    refine QT.eff rfl rfl (fun w115 hC => ?_) QT.nomore
    obtain ⟨hB, H59, H13⟩ := hC
    rcases (Classical.em (wire_Pack_Add.pre r56.2 ((r101 ++ r106) ++ r112))).symm with c116 | c116
    · rw [if_neg c116] at h; cases h
    rw [if_pos c116] at h
    obtain ⟨r120, q121, h⟩ := lt_elim h
    have hc119 := wire_Pack_Add.ok r56.2 ((r101 ++ r106) ++ r112) M61 b2 w115 H59 c116 
    rw [q121] at hc119
    clear q121
    refine D.call (vs := [pt b2 0, S ((r101 ++ r106) ++ r112)]) cf30 hc119 rfl rfl ?_
    rintro _ w122 ⟨M125, rfl, H123, u126, e124⟩
    clear hc119
    have ne_6_15n := ne_sub u126 ne_6_15 (MB.lt H13 (Nat.le_refl _))
    have v64n := sub_sub u126 v63 hB.size
    replace hB := hB.step e124 v63
    replace H13 := H13.gm e124 (sepM (ne_flip ne_6_15))
    replace ne_6_15 := ne_6_15n
    clear e124 u126 H59
    have v127 := v64n
    clear v64n
    refine ⟨_, rfl, (fun w' => GrM w w' M2 ∧ okPack.is w' M125 b2 r120 ∧ Blk w' b10 [S a7.name, .int .u16 a7.ty, .int .u16 a7.cls, .int .u32 a7.ttl, S a7.data] 25), ⟨hB, H123, H13⟩, (fun a b hC hx => by obtain ⟨hB, H123, H13⟩ := hC; exact ⟨gm_ext hB hx, H123.ext hx, H13.ext hx⟩), (fun a hC => by obtain ⟨hB, H123, H13⟩ := hC; exact ⟨hB, H13⟩), ?_⟩
    refine QT.nil fun w129 hC => ?_
    obtain ⟨hB, H123, H13⟩ := hC
    refine hM66 _ _ ?_
    refine X.seq fun M130 hM131 => ?_
    refine X.region ?_
    refine XO.do rfl (D.mv (v := pt b2 0) rfl rfl ?_)
    rcases (Classical.em (wire_Pack_Mark.pre r120)).symm with c132 | c132
    · rw [if_neg c132] at h; cases h
    rw [if_pos c132] at h
    obtain ⟨r136, q137, h⟩ := lt_elim h
    have hc135 := wire_Pack_Mark.ok r120 M125 b2 w129 H123 c132 
    rw [q137] at hc135
    clear q137
    refine XO.do rfl (D.call (vs := [pt b2 0]) cf36 hc135 rfl rfl ?_)
    rintro _ w138 ⟨M141, rfl, H139, u142, e140⟩
    clear hc135
    have ne_6_15n := ne_sub u142 ne_6_15 (MB.lt H13 (Nat.le_refl _))
    have v128n := sub_sub u142 v127 hB.size
    replace hB := hB.step e140 v127
    replace H13 := H13.gm e140 (sepM (ne_flip ne_6_15))
    replace ne_6_15 := ne_6_15n
    clear e140 u142 H123
    have v143 := v128n
    clear v128n
    refine XO.do rfl (D.asn (v := .int .i64 r136.1) rfl rfl ?_)
    refine XO.nil ?_
    refine hM131 _ _ ?_
    refine X.seq fun M145 hM146 => ?_
    refine X.region ?_
    refine XO.do rfl (D.mv (v := pt b2 0) rfl rfl ?_)
    refine XO.do rfl (D.fieldAddr (o' := 1) fa25_1 rfl rfl rfl ?_)
    refine XO.do rfl (D.load (j := 1) (v := .int .u16 a7.ty) sc22 H13.cs rfl rfl rfl rfl ?_)
    refine XO.do rfl (D.fieldAddr (o' := 4) fa25_4 rfl rfl rfl ?_)
    refine XO.do rfl (D.load (j := 4) (v := S a7.data) sc9 H13.cs rfl rfl rfl rfl ?_)
    rcases (Classical.em (rdata_Put.pre r136.2 a7.ty a7.data)).symm with c147 | c147
    · rw [if_neg c147] at h; cases h
    rw [if_pos c147] at h
    obtain ⟨r151, q152, h⟩ := lt_elim h
    have hc150 := rdata_Put.ok r136.2 a7.ty a7.data M141 b2 w138 H139 c147 
    rw [q152] at hc150
    clear q152
    refine XO.do rfl (D.call (vs := [pt b2 0, .int .u16 a7.ty, S a7.data]) cf37 hc150 rfl rfl ?_)
    rintro _ w153 ⟨M156, rfl, H154, u157, e155⟩
    clear hc150
    have ne_6_15n := ne_sub u157 ne_6_15 (MB.lt H13 (Nat.le_refl _))
    have v144n := sub_sub u157 v143 hB.size
    replace hB := hB.step e155 v143
    replace H13 := H13.gm e155 (sepM (ne_flip ne_6_15))
    replace ne_6_15 := ne_6_15n
    clear e155 u157 H139
    have v158 := v144n
    clear v144n
    refine XO.nil ?_
    refine hM146 _ _ ?_
    refine X.seq fun M160 hM161 => ?_
    refine X.region ?_
    refine XO.do rfl (D.mv (v := pt b2 0) rfl rfl ?_)
    refine XO.do rfl (D.mv (v := .int .i64 r136.1) rfl rfl ?_)
    rcases (Classical.em (wire_Pack_Close.pre r151.2 r136.1)).symm with c162 | c162
    · rw [if_neg c162] at h; cases h
    rw [if_pos c162] at h
    obtain ⟨r166, q167, h⟩ := lt_elim h
    have hc165 := wire_Pack_Close.ok r151.2 r136.1 M156 b2 w153 H154 c162 
    rw [q167] at hc165
    clear q167
    refine XO.do rfl (D.call (vs := [pt b2 0, .int .i64 r136.1]) cf38 hc165 rfl rfl ?_)
    rintro _ w168 ⟨M171, rfl, H169, u172, e170⟩
    clear hc165
    have ne_6_15n := ne_sub u172 ne_6_15 (MB.lt H13 (Nat.le_refl _))
    have v159n := sub_sub u172 v158 hB.size
    replace hB := hB.step e170 v158
    replace H13 := H13.gm e170 (sepM (ne_flip ne_6_15))
    replace ne_6_15 := ne_6_15n
    clear e170 u172 H154
    have v173 := v159n
    clear v159n
    refine XO.do rfl (D.asn (v := .int .i64 r166.1) rfl rfl ?_)
    refine XO.nil ?_
    refine hM161 _ _ ?_
    refine X.ret ?_
    injection h with h
    subst h
    exact hR _ _ _ (ret1 (v := .int .i64 r166.1) rfl rfl) ⟨M171, rfl, H169, v173, hB⟩
  · rw [if_neg c49] at h
    refine X.condT (congrArg Value.bool ((congrArg (!·) ((Bool.eq_false_iff.2 c49))))) ?_
    refine X.seq fun M175 hM176 => ?_
    refine X.region ?_
    refine XO.do rfl (D.asn (v := .int .i64 1) rfl rfl ?_)
    refine XO.nil ?_
    refine hM176 _ _ ?_
    refine X.ret ?_
    injection h with h
    subst h
    exact hR _ _ _ (ret1 (v := .int .i64 1) rfl rfl) ⟨M2, rfl, H4, (fun x hx => .inl hx), hB⟩
theorem record_Put.ok (a3 : Pack) (a7 : RR) (M2 : Nat → Prop) (b2 : Nat) (w : World) (H4 : okPack.is w M2 b2 a3) (hp : record_Put.pre a3 a7) :
    Ret Try.prog 15 ([pt b2 0, .agg #[S a7.name, .int .u16 a7.ty, .int .u16 a7.cls, .int .u32 a7.ttl, S a7.data]] : List Value).toArray w fun v w' => ∃ (M' : Nat → Prop), v = .int .i64 ((record_Put a3 a7).1) ∧ okPack.is w' M' b2 ((record_Put a3 a7).2) ∧ (∀ x, M' x → M2 x ∨ w.heap.size ≤ x) ∧ GrM w w' M2 := by
  have h := record_Put.eq a3 a7 hp
  exact record_Put.walk  a3 a7 M2 b2 w H4 _ h
end Go.Proofs.Ytfcaekghpkpjdaa.K

/- Walks, printed by a program of this session. -/
namespace Go.Proofs.Ytfcaekghpkpjdaa.K
open Go Go.RowKit Go.Proofs
set_option linter.unusedVariables false
set_option maxRecDepth 100000
set_option maxHeartbeats 4000000
namespace FC4
theorem cf45 : Callable Try.prog 45 := callable Try.func45 (by kernel_rfl) rfl
theorem cf54 : Callable Try.prog 54 := callable Try.func54 (by kernel_rfl) rfl
theorem cf64 : Callable Try.prog 64 := callable Try.func64 (by kernel_rfl) rfl
theorem cf77 : Callable Try.prog 77 := callable Try.func77 (by kernel_rfl) rfl
theorem cf78 : Callable Try.prog 78 := callable Try.func78 (by kernel_rfl) rfl
theorem cf79 : Callable Try.prog 79 := callable Try.func79 (by kernel_rfl) rfl
theorem cf80 : Callable Try.prog 80 := callable Try.func80 (by kernel_rfl) rfl
theorem cf81 : Callable Try.prog 81 := callable Try.func81 (by kernel_rfl) rfl
theorem ti130 : TI Try.prog 130 (.agg #[.pointer none, .slice none 0 0]) 2 32 := by unfold TI; kernel_rfl
end FC4
open FC4

theorem wire_Take.walk (kf : Nat) (a1 : Str) (a2 : Int)  (w : World)  (res : Str × Int × Int) (h : wire_Take.f kf a1 a2 = some res) :
    Ret Try.prog 61 ([S a1, .int .i64 a2] : List Value).toArray w fun v w' => v = .tuple #[S res.1, .int .i64 res.2.1, .int .i64 res.2.2] ∧ Ext w w' := by
  unfold wire_Take.f at h
  refine enterX Try.func61 rfl Try.ntmps61 rfl (fun R hR => ?_)
  have hB := Below.refl w.heap.size w
  refine X.seq fun M3 hM4 => ?_
  refine X.region ?_
  refine XO.do rfl (D.asn (v := S []) rfl rfl ?_)
  refine XO.do rfl (D.asn (v := .int .i64 0) rfl rfl ?_)
  refine XO.do rfl (D.asn (v := .int .i64 0) rfl rfl ?_)
  refine XO.nil ?_
  refine hM4 _ _ ?_
  refine X.seq fun M5 hM6 => ?_
  refine X.region ?_
  refine XO.do rfl (D.alloc ti130 (cs := [.pointer none, .slice none 0 0]) rfl rfl ?_)
  intro b7 w8 hb9 H10 e11 _
  have g12 : w.heap.size ≤ b7 := Nat.le_trans hB.size (Nat.le_of_eq hb9.symm)
  clear hb9
  replace hB := below_ext hB e11
  clear e11
  have H13 := BObj.new H10 g12
  clear H10
  refine XO.nil ?_
  refine hM6 _ _ ?_
  refine X.seq fun M15 hM16 => ?_
  refine X.region ?_
  refine XO.do rfl (D.mv (v := .int .i64 a2) rfl rfl ?_)
  refine XO.do rfl (D.asn (v := .int .i64 a2) rfl rfl ?_)
  refine XO.do rfl (D.asn (v := .int .i64 (-1)) rfl rfl ?_)
  refine XO.nil ?_
  refine hM16 _ _ ?_
  refine X.block ?_
  refine X.loop (fun kq658 => fun f350 w349 => ∃ x343 : Int, ∃ x345 : Str, ∃ x346 : Int, ∃ x347 : Int, f350 0 = S a1 ∧ f350 1 = .int .i64 x343 ∧ f350 7 = pt b7 0 ∧ f350 8 = .int .i64 x346 ∧ f350 9 = .int .i64 x347 ∧ Below w.heap.size w w349 ∧ BObj w349 w.heap.size b7 x345 ∧ wire_Take.l1 a1 kq658 x343 x345 x346 x347 = some res) kf ?_ ?_
  · exact ⟨a2, ([] : Str), a2, (-1), rfl, rfl, rfl, rfl, rfl, hB, H13, h⟩
  · intro kq658 f350 w349 hI
    obtain ⟨x343, x345, x346, x347, s351, s352, s353, s354, s355, hB, H344, h⟩ := hI
    cases kq658 with
    | zero => exact absurd h (by rw [wire_Take.l1.eq_1]; simp)
    | succ kf342 =>
      rw [wire_Take.l1.eq_2] at h
      refine X.fr (d := 0) s351 ?_
      refine X.fr (d := 1) s352 ?_
      refine X.fr (d := 7) s353 ?_
      refine X.fr (d := 8) s354 ?_
      refine X.fr (d := 9) s355 ?_
      refine X.block ?_
      refine X.seq fun M357 hM358 => ?_
      refine X.region ?_
      refine XO.do rfl (D.mv (v := S a1) rfl rfl ?_)
      refine XO.do rfl (D.mv (v := .int .i64 x343) rfl rfl ?_)
      rcases (Classical.em (octet_U8.pre a1 x343)).symm with c359 | c359
      · rw [if_neg c359] at h; cases h
      rw [if_pos c359] at h
      obtain ⟨r363, q364, h⟩ := lt_elim h
      have hc362 := octet_U8.ok a1 x343 w349 c359 
      rw [q364] at hc362
      clear q364
      refine XO.do rfl (D.call (vs := [S a1, .int .i64 x343]) cf77 hc362 rfl rfl ?_)
      rintro _ w360 ⟨rfl, e361⟩
      clear hc362
      replace hB := below_ext hB e361
      replace H344 := H344.ext e361
      clear e361
      refine XO.do rfl (D.mv (v := .tuple #[.int .u8 r363.1, .int .i64 r363.2.1, .int .i64 r363.2.2]) rfl rfl ?_)
      refine XO.do rfl (D.extract (v := .int .u8 r363.1) rfl rfl rfl ?_)
      refine XO.do rfl (D.extract (v := .int .i64 r363.2.1) rfl rfl rfl ?_)
      refine XO.do rfl (D.extract (v := .int .i64 r363.2.2) rfl rfl rfl ?_)
      refine XO.do rfl (D.asn (v := .int .u8 r363.1) rfl rfl ?_)
      refine XO.do rfl (D.asn (v := .int .i64 r363.2.1) rfl rfl ?_)
      refine XO.do rfl (D.asn (v := .int .i64 r363.2.2) rfl rfl ?_)
      refine XO.nil ?_
      refine hM358 _ _ ?_
      refine X.seq fun M461 hM462 => ?_
      refine X.block ?_
      refine X.cut (fun f468 w467 => ∃ x466 : Bool, f468 0 = S a1 ∧ f468 1 = .int .i64 x343 ∧ f468 7 = pt b7 0 ∧ f468 8 = .int .i64 x346 ∧ f468 9 = .int .i64 x347 ∧ f468 10 = .int .u8 r363.1 ∧ f468 11 = .int .i64 r363.2.1 ∧ f468 26 = .bool x466 ∧ Below w.heap.size w w467 ∧ BObj w467 w.heap.size b7 x345 ∧ wire_Take.j2 r363 a1 x343 x347 (wire_Take.l1 a1 kf342) x345 x346 x466 = some res) ?_ ?_
      · refine X.region ?_
        refine XO.do rfl (D.mv (v := .int .i64 r363.2.2) rfl rfl ?_)
        refine XO.do rfl (D.neq rfl rfl rfl ?_)
        refine XO.do rfl (D.mv (v := .bool (r363.2.2 != 0)) rfl rfl ?_)
        by_cases c656 : r363.2.2 = 0
        · rw [if_pos c656] at h
          refine XO.do (wantG (j := 2) (b := false) rfl ((congrArg (!·) (beq_iff_eq.2 c656))) rfl) (D.mv (v := .int .u8 r363.1) rfl rfl ?_)
          refine XO.do (wantG (j := 2) (b := false) rfl ((congrArg (!·) (beq_iff_eq.2 c656))) rfl) (D.gtr rfl rfl rfl ?_)
          refine XO.do (wantG (j := 2) (b := false) rfl ((congrArg (!·) (beq_iff_eq.2 c656))) rfl) (D.mv (v := .bool (decide (63 < r363.1))) rfl rfl ?_)
          by_cases c657 : 63 < r363.1
          · rw [if_pos c657] at h
            refine XO.do (wantG (j := 5) (b := true) rfl (decide_eq_true c657) rfl) (D.mv (v := .int .u8 r363.1) rfl rfl ?_)
            refine XO.do (wantG (j := 5) (b := true) rfl (decide_eq_true c657) rfl) (D.lss rfl rfl rfl ?_)
            refine XO.do (wantG (j := 2) (b := false) rfl ((congrArg (!·) (beq_iff_eq.2 c656))) rfl) (D.pick true (v := .bool (decide (r363.1 < 192))) (congrArg Value.bool (decide_eq_true c657)) rfl rfl ?_)
            refine XO.do rfl (D.pick false (v := .bool (decide (r363.1 < 192))) (congrArg Value.bool ((congrArg (!·) (beq_iff_eq.2 c656)))) rfl rfl ?_)
            refine XO.do rfl (D.asn (v := .bool (decide (r363.1 < 192))) rfl rfl ?_)
            refine XO.nil ?_
            exact ⟨(decide (r363.1 < 192)), rfl, rfl, rfl, rfl, rfl, rfl, rfl, rfl, hB, H344, h⟩
          · rw [if_neg c657] at h
            refine XO.off (wantG0 (j := 5) (b := true) rfl (decide_eq_false c657) rfl) rfl rfl ?_
            refine XO.off (wantG0 (j := 5) (b := true) rfl (decide_eq_false c657) rfl) rfl rfl ?_
            refine XO.do (wantG (j := 2) (b := false) rfl ((congrArg (!·) (beq_iff_eq.2 c656))) rfl) (D.pick false (v := .bool false) (congrArg Value.bool (decide_eq_false c657)) rfl rfl ?_)
            refine XO.do rfl (D.pick false (v := .bool false) (congrArg Value.bool ((congrArg (!·) (beq_iff_eq.2 c656)))) rfl rfl ?_)
            refine XO.do rfl (D.asn (v := .bool false) rfl rfl ?_)
            refine XO.nil ?_
            exact ⟨false, rfl, rfl, rfl, rfl, rfl, rfl, rfl, rfl, hB, H344, h⟩
        · rw [if_neg c656] at h
          refine XO.off (wantG0 (j := 2) (b := false) rfl ((congrArg (!·) (beq_eq_false_iff_ne.2 c656))) rfl) rfl rfl ?_
          refine XO.off (wantG0 (j := 2) (b := false) rfl ((congrArg (!·) (beq_eq_false_iff_ne.2 c656))) rfl) rfl rfl ?_
          refine XO.off (wantG0 (j := 2) (b := false) rfl ((congrArg (!·) (beq_eq_false_iff_ne.2 c656))) rfl) rfl rfl ?_
          refine XO.off (wantU (j := 5) (b := true) rfl rfl) rfl rfl ?_
          refine XO.off (wantU (j := 5) (b := true) rfl rfl) rfl rfl ?_
          refine XO.off (wantG0 (j := 2) (b := false) rfl ((congrArg (!·) (beq_eq_false_iff_ne.2 c656))) rfl) rfl rfl ?_
          refine XO.do rfl (D.pick true (v := .bool true) (congrArg Value.bool ((congrArg (!·) (beq_eq_false_iff_ne.2 c656)))) rfl rfl ?_)
          refine XO.do rfl (D.asn (v := .bool true) rfl rfl ?_)
          refine XO.nil ?_
          exact ⟨true, rfl, rfl, rfl, rfl, rfl, rfl, rfl, rfl, hB, H344, h⟩
      · intro f468 w467 hI
        obtain ⟨x466, s469, s470, s471, s472, s473, s474, s475, s476, hB, H465, h⟩ := hI
        refine X.fr (d := 0) s469 ?_
        refine X.fr (d := 1) s470 ?_
        refine X.fr (d := 7) s471 ?_
        refine X.fr (d := 8) s472 ?_
        refine X.fr (d := 9) s473 ?_
        refine X.fr (d := 10) s474 ?_
        refine X.fr (d := 11) s475 ?_
        refine X.fr (d := 26) s476 ?_
        unfold wire_Take.j2 at h
        by_cases c477 : x466 = true
        · rw [if_pos c477] at h
          refine X.condT (congrArg Value.bool (c477)) ?_
          refine X.seq fun M478 hM479 => ?_
          refine X.region ?_
          refine XO.do rfl (D.asn (v := S []) rfl rfl ?_)
          refine XO.do rfl (D.asn (v := .int .i64 0) rfl rfl ?_)
          refine XO.do rfl (D.asn (v := .int .i64 2) rfl rfl ?_)
          refine XO.nil ?_
          refine hM479 _ _ ?_
          refine X.ret ?_
          injection h with h
          subst h
          exact hR _ _ _ (ret3 (v := S []) (v' := .int .i64 0) (v'' := .int .i64 2) rfl rfl rfl rfl) ⟨rfl, ext_of_below hB⟩
        · rw [if_neg c477] at h
          refine X.condF (congrArg Value.bool ((Bool.eq_false_iff.2 c477))) ?_
          refine X.seq fun M480 hM481 => ?_
          refine X.region ?_
          refine XO.do rfl (D.mv (v := .int .u8 r363.1) rfl rfl ?_)
          refine XO.do rfl (D.geq rfl rfl rfl ?_)
          refine XO.do rfl (D.asn (v := .bool (decide (192 ≤ r363.1))) rfl rfl ?_)
          refine XO.nil ?_
          refine hM481 _ _ ?_
          by_cases c482 : 192 ≤ r363.1
          · rw [if_pos c482] at h
            refine X.condT (congrArg Value.bool (decide_eq_true c482)) ?_
            refine X.seq fun M483 hM484 => ?_
            refine X.region ?_
            refine XO.do rfl (D.mv (v := S a1) rfl rfl ?_)
            refine XO.do rfl (D.mv (v := .int .i64 x343) rfl rfl ?_)
            rcases (Classical.em (octet_U16.pre a1 x343)).symm with c485 | c485
            · rw [if_neg c485] at h; cases h
            rw [if_pos c485] at h
            obtain ⟨r489, q490, h⟩ := lt_elim h
            have hc488 := octet_U16.ok a1 x343 w467 c485 
            rw [q490] at hc488
            clear q490
            refine XO.do rfl (D.call (vs := [S a1, .int .i64 x343]) cf45 hc488 rfl rfl ?_)
            rintro _ w486 ⟨rfl, e487⟩
            clear hc488
            replace hB := below_ext hB e487
            replace H465 := H465.ext e487
            clear e487
            refine XO.do rfl (D.mv (v := .tuple #[.int .u16 r489.1, .int .i64 r489.2.1, .int .i64 r489.2.2]) rfl rfl ?_)
            refine XO.do rfl (D.extract (v := .int .u16 r489.1) rfl rfl rfl ?_)
            refine XO.do rfl (D.extract (v := .int .i64 r489.2.1) rfl rfl rfl ?_)
            refine XO.do rfl (D.extract (v := .int .i64 r489.2.2) rfl rfl rfl ?_)
            refine XO.do rfl (D.asn (v := .int .u16 r489.1) rfl rfl ?_)
            refine XO.do rfl (D.asn (v := .int .i64 r489.2.1) rfl rfl ?_)
            refine XO.do rfl (D.asn (v := .int .i64 r489.2.2) rfl rfl ?_)
            refine XO.nil ?_
            refine hM484 _ _ ?_
            refine X.seq fun M522 hM523 => ?_
            refine X.seq fun M524 hM525 => ?_
            refine X.region ?_
            refine XO.do rfl (D.mv (v := .int .u16 r489.1) rfl rfl ?_)
            refine XO.do rfl (D.conv Try.underlying22 Try.underlying3 rfl rfl ?_)
            refine XO.do rfl (D.andNot rfl rfl rfl ?_)
            refine XO.do rfl (D.asn (v := .int .i64 (bAndNot .i64 (w64 r489.1) 49152)) rfl rfl ?_)
            refine XO.nil ?_
            refine hM525 _ _ ?_
            refine X.cut (fun f530 w529 => ∃ x528 : Bool, f530 0 = S a1 ∧ f530 7 = pt b7 0 ∧ f530 9 = .int .i64 x347 ∧ f530 14 = .int .i64 r489.2.1 ∧ f530 16 = .int .i64 (bAndNot .i64 (w64 r489.1) 49152) ∧ f530 56 = .bool x528 ∧ Below w.heap.size w w529 ∧ BObj w529 w.heap.size b7 x345 ∧ wire_Take.j3 x347 (wire_Take.l1 a1 kf342) r489 x345 x528 = some res) ?_ ?_
            · refine X.region ?_
              refine XO.do rfl (D.mv (v := .int .i64 r489.2.2) rfl rfl ?_)
              refine XO.do rfl (D.eql rfl rfl rfl ?_)
              refine XO.do rfl (D.mv (v := .bool (r489.2.2 == 0)) rfl rfl ?_)
              by_cases c556 : r489.2.2 = 0
              · rw [if_pos c556] at h
                refine XO.do (wantG (j := 2) (b := true) rfl (beq_iff_eq.2 c556) rfl) (D.mv (v := .int .i64 (bAndNot .i64 (w64 r489.1) 49152)) rfl rfl ?_)
                refine XO.do (wantG (j := 2) (b := true) rfl (beq_iff_eq.2 c556) rfl) (D.mv (v := .int .i64 x346) rfl rfl ?_)
                refine XO.do (wantG (j := 2) (b := true) rfl (beq_iff_eq.2 c556) rfl) (D.lss rfl rfl rfl ?_)
                refine XO.do rfl (D.pick true (v := .bool (decide ((bAndNot .i64 (w64 r489.1) 49152) < x346))) (congrArg Value.bool (beq_iff_eq.2 c556)) rfl rfl ?_)
                refine XO.nil ?_
                exact ⟨(decide ((bAndNot .i64 (w64 r489.1) 49152) < x346)), rfl, rfl, rfl, rfl, rfl, rfl, hB, H465, h⟩
              · rw [if_neg c556] at h
                refine XO.off (wantG0 (j := 2) (b := true) rfl (beq_eq_false_iff_ne.2 c556) rfl) rfl rfl ?_
                refine XO.off (wantG0 (j := 2) (b := true) rfl (beq_eq_false_iff_ne.2 c556) rfl) rfl rfl ?_
                refine XO.off (wantG0 (j := 2) (b := true) rfl (beq_eq_false_iff_ne.2 c556) rfl) rfl rfl ?_
                refine XO.do rfl (D.pick false (v := .bool false) (congrArg Value.bool (beq_eq_false_iff_ne.2 c556)) rfl rfl ?_)
                refine XO.nil ?_
                exact ⟨false, rfl, rfl, rfl, rfl, rfl, rfl, hB, H465, h⟩
            · intro f530 w529 hI
              obtain ⟨x528, s531, s532, s533, s534, s535, s536, hB, H527, h⟩ := hI
              refine X.fr (d := 0) s531 ?_
              refine X.fr (d := 7) s532 ?_
              refine X.fr (d := 9) s533 ?_
              refine X.fr (d := 14) s534 ?_
              refine X.fr (d := 16) s535 ?_
              refine X.fr (d := 56) s536 ?_
              unfold wire_Take.j3 at h
              by_cases c537 : x528 = true
              · rw [if_pos c537] at h
                refine X.condT (congrArg Value.bool (c537)) ?_
                refine X.cut (fun f544 w543 => ∃ x542 : Int, f544 0 = S a1 ∧ f544 7 = pt b7 0 ∧ f544 9 = .int .i64 x542 ∧ f544 16 = .int .i64 (bAndNot .i64 (w64 r489.1) 49152) ∧ Below w.heap.size w w543 ∧ BObj w543 w.heap.size b7 x345 ∧ wire_Take.j4 (wire_Take.l1 a1 kf342) r489 x345 x542 = some res) ?_ ?_
                · refine X.seq fun M551 hM552 => ?_
                  refine X.region ?_
                  refine XO.do rfl (D.mv (v := .int .i64 x347) rfl rfl ?_)
                  refine XO.do rfl (D.lss rfl rfl rfl ?_)
                  refine XO.nil ?_
                  refine hM552 _ _ ?_
                  by_cases c553 : x347 < 0
                  · rw [if_pos c553] at h
                    refine X.condT (congrArg Value.bool (decide_eq_true c553)) ?_
                    refine X.region ?_
                    refine XO.do rfl (D.mv (v := .int .i64 r489.2.1) rfl rfl ?_)
                    refine XO.do rfl (D.asn (v := .int .i64 r489.2.1) rfl rfl ?_)
                    refine XO.nil ?_
                    exact ⟨r489.2.1, rfl, rfl, rfl, rfl, hB, H527, h⟩
                  · rw [if_neg c553] at h
                    refine X.condF (congrArg Value.bool (decide_eq_false c553)) ?_
                    refine X.skip ?_
                    exact ⟨x347, rfl, rfl, rfl, rfl, hB, H527, h⟩
                · intro f544 w543 hI
                  obtain ⟨x542, s545, s546, s547, s548, hB, H541, h⟩ := hI
                  refine X.fr (d := 0) s545 ?_
                  refine X.fr (d := 7) s546 ?_
                  refine X.fr (d := 9) s547 ?_
                  refine X.fr (d := 16) s548 ?_
                  unfold wire_Take.j4 at h
                  refine X.seq fun M549 hM550 => ?_
                  refine X.region ?_
                  refine XO.do rfl (D.mv (v := .int .i64 (bAndNot .i64 (w64 r489.1) 49152)) rfl rfl ?_)
                  refine XO.do rfl (D.mv (v := .int .i64 (bAndNot .i64 (w64 r489.1) 49152)) rfl rfl ?_)
                  refine XO.do rfl (D.asn (v := .int .i64 (bAndNot .i64 (w64 r489.1) 49152)) rfl rfl ?_)
                  refine XO.do rfl (D.asn (v := .int .i64 (bAndNot .i64 (w64 r489.1) 49152)) rfl rfl ?_)
                  refine XO.nil ?_
                  refine hM550 _ _ ?_
                  refine X.exit rfl ?_
                  exact ⟨kf342, Nat.lt_succ_self _, bAndNot .i64 (w64 r489.1) 49152, x345, bAndNot .i64 (w64 r489.1) 49152, x542, rfl, rfl, rfl, rfl, rfl, hB, H541, h⟩
              · rw [if_neg c537] at h
                refine X.condF (congrArg Value.bool ((Bool.eq_false_iff.2 c537))) ?_
                refine X.skip ?_
                refine hM523 _ _ ?_
                refine X.seq fun M554 hM555 => ?_
                refine X.region ?_
                refine XO.do rfl (D.asn (v := S []) rfl rfl ?_)
                refine XO.do rfl (D.asn (v := .int .i64 0) rfl rfl ?_)
                refine XO.do rfl (D.asn (v := .int .i64 2) rfl rfl ?_)
                refine XO.nil ?_
                refine hM555 _ _ ?_
                refine X.ret ?_
                injection h with h
                subst h
                exact hR _ _ _ (ret3 (v := S []) (v' := .int .i64 0) (v'' := .int .i64 2) rfl rfl rfl rfl) ⟨rfl, ext_of_below hB⟩
          · rw [if_neg c482] at h
            refine X.condF (congrArg Value.bool (decide_eq_false c482)) ?_
            refine X.skip ?_
            refine hM462 _ _ ?_
            refine X.seq fun M557 hM558 => ?_
            refine X.region ?_
            refine XO.do rfl (D.mv (v := S a1) rfl rfl ?_)
            refine XO.do rfl (D.mv (v := .int .i64 r363.2.1) rfl rfl ?_)
            refine XO.do rfl (D.mv (v := .int .u8 r363.1) rfl rfl ?_)
            refine XO.do rfl (D.conv Try.underlying5 Try.underlying3 rfl rfl ?_)
            rcases (Classical.em (octet_Some.pre a1 r363.2.1 (w64 r363.1))).symm with c559 | c559
            · rw [if_neg c559] at h; cases h
            rw [if_pos c559] at h
            obtain ⟨r563, q564, h⟩ := lt_elim h
            have hc562 := octet_Some.ok a1 r363.2.1 (w64 r363.1) w467 c559 
            rw [q564] at hc562
            clear q564
            refine XO.do rfl (D.call (vs := [S a1, .int .i64 r363.2.1, .int .i64 (w64 r363.1)]) cf64 hc562 rfl rfl ?_)
            rintro _ w560 ⟨rfl, e561⟩
            clear hc562
            replace hB := below_ext hB e561
            replace H465 := H465.ext e561
            clear e561
            refine XO.do rfl (D.mv (v := .tuple #[S r563.1, .int .i64 r563.2.1, .int .i64 r563.2.2]) rfl rfl ?_)
            refine XO.do rfl (D.extract (v := S r563.1) rfl rfl rfl ?_)
            refine XO.do rfl (D.extract (v := .int .i64 r563.2.1) rfl rfl rfl ?_)
            refine XO.do rfl (D.extract (v := .int .i64 r563.2.2) rfl rfl rfl ?_)
            refine XO.do rfl (D.asn (v := S r563.1) rfl rfl ?_)
            refine XO.do rfl (D.asn (v := .int .i64 r563.2.1) rfl rfl ?_)
            refine XO.do rfl (D.asn (v := .int .i64 r563.2.2) rfl rfl ?_)
            refine XO.nil ?_
            refine hM558 _ _ ?_
            refine X.seq fun M586 hM587 => ?_
            refine X.cut (fun f594 w593 => ∃ x592 : Bool, f594 0 = S a1 ∧ f594 7 = pt b7 0 ∧ f594 8 = .int .i64 x346 ∧ f594 9 = .int .i64 x347 ∧ f594 10 = .int .u8 r363.1 ∧ f594 11 = .int .i64 r563.2.1 ∧ f594 17 = S r563.1 ∧ f594 80 = .bool x592 ∧ Below w.heap.size w w593 ∧ BObj w593 w.heap.size b7 x345 ∧ wire_Take.j5 r363 x345 r563 (wire_Take.l1 a1 kf342) x346 x347 x592 = some res) ?_ ?_
            · refine X.region ?_
              refine XO.do rfl (D.mv (v := .int .i64 r563.2.2) rfl rfl ?_)
              refine XO.do rfl (D.neq rfl rfl rfl ?_)
              refine XO.do rfl (D.mv (v := .bool (r563.2.2 != 0)) rfl rfl ?_)
              by_cases c653 : r563.2.2 = 0
              · rw [if_pos c653] at h
                refine XO.do (wantG (j := 2) (b := false) rfl ((congrArg (!·) (beq_iff_eq.2 c653))) rfl) (D.call (vs := [pt b7 0]) cf78 (bLen_ok w560 _ _ _ H465) rfl rfl ?_)
                rintro _ w654 ⟨rfl, e655⟩
                replace hB := below_ext hB e655
                replace H465 := H465.ext e655
                clear e655
                refine XO.do (wantG (j := 2) (b := false) rfl ((congrArg (!·) (beq_iff_eq.2 c653))) rfl) (D.add rfl rfl rfl ?_)
                refine XO.do (wantG (j := 2) (b := false) rfl ((congrArg (!·) (beq_iff_eq.2 c653))) rfl) (D.mv (v := S r563.1) rfl rfl ?_)
                refine XO.do (wantG (j := 2) (b := false) rfl ((congrArg (!·) (beq_iff_eq.2 c653))) rfl) (D.lenS Try.underlying9 rfl rfl ?_)
                refine XO.do (wantG (j := 2) (b := false) rfl ((congrArg (!·) (beq_iff_eq.2 c653))) rfl) (D.add rfl rfl rfl ?_)
                refine XO.do (wantG (j := 2) (b := false) rfl ((congrArg (!·) (beq_iff_eq.2 c653))) rfl) (D.gtr rfl rfl rfl ?_)
                refine XO.do rfl (D.pick false (v := .bool (decide (255 < (w64 ((w64 ((x345.length : Int) + 1)) + (r563.1.length : Int)))))) (congrArg Value.bool ((congrArg (!·) (beq_iff_eq.2 c653)))) rfl rfl ?_)
                refine XO.nil ?_
                exact ⟨(decide (255 < (w64 ((w64 ((x345.length : Int) + 1)) + (r563.1.length : Int))))), rfl, rfl, rfl, rfl, rfl, rfl, rfl, rfl, hB, H465, h⟩
              · rw [if_neg c653] at h
                refine XO.off (wantG0 (j := 2) (b := false) rfl ((congrArg (!·) (beq_eq_false_iff_ne.2 c653))) rfl) rfl rfl ?_
                refine XO.off (wantG0 (j := 2) (b := false) rfl ((congrArg (!·) (beq_eq_false_iff_ne.2 c653))) rfl) rfl rfl ?_
                refine XO.off (wantG0 (j := 2) (b := false) rfl ((congrArg (!·) (beq_eq_false_iff_ne.2 c653))) rfl) rfl rfl ?_
                refine XO.off (wantG0 (j := 2) (b := false) rfl ((congrArg (!·) (beq_eq_false_iff_ne.2 c653))) rfl) rfl rfl ?_
                refine XO.off (wantG0 (j := 2) (b := false) rfl ((congrArg (!·) (beq_eq_false_iff_ne.2 c653))) rfl) rfl rfl ?_
                refine XO.off (wantG0 (j := 2) (b := false) rfl ((congrArg (!·) (beq_eq_false_iff_ne.2 c653))) rfl) rfl rfl ?_
                refine XO.do rfl (D.pick true (v := .bool true) (congrArg Value.bool ((congrArg (!·) (beq_eq_false_iff_ne.2 c653)))) rfl rfl ?_)
                refine XO.nil ?_
                exact ⟨true, rfl, rfl, rfl, rfl, rfl, rfl, rfl, rfl, hB, H465, h⟩
            · intro f594 w593 hI
              obtain ⟨x592, s595, s596, s597, s598, s599, s600, s601, s602, hB, H591, h⟩ := hI
              refine X.fr (d := 0) s595 ?_
              refine X.fr (d := 7) s596 ?_
              refine X.fr (d := 8) s597 ?_
              refine X.fr (d := 9) s598 ?_
              refine X.fr (d := 10) s599 ?_
              refine X.fr (d := 11) s600 ?_
              refine X.fr (d := 17) s601 ?_
              refine X.fr (d := 80) s602 ?_
              unfold wire_Take.j5 at h
              by_cases c603 : x592 = true
              · rw [if_pos c603] at h
                refine X.condT (congrArg Value.bool (c603)) ?_
                refine X.seq fun M604 hM605 => ?_
                refine X.region ?_
                refine XO.do rfl (D.asn (v := S []) rfl rfl ?_)
                refine XO.do rfl (D.asn (v := .int .i64 0) rfl rfl ?_)
                refine XO.do rfl (D.asn (v := .int .i64 2) rfl rfl ?_)
                refine XO.nil ?_
                refine hM605 _ _ ?_
                refine X.ret ?_
                injection h with h
                subst h
                exact hR _ _ _ (ret3 (v := S []) (v' := .int .i64 0) (v'' := .int .i64 2) rfl rfl rfl rfl) ⟨rfl, ext_of_below hB⟩
              · rw [if_neg c603] at h
                refine X.condF (congrArg Value.bool ((Bool.eq_false_iff.2 c603))) ?_
                refine X.skip ?_
                refine hM587 _ _ ?_
                refine X.seq fun M606 hM607 => ?_
                refine X.region ?_
                refine XO.do rfl (D.mv (v := .int .u8 r363.1) rfl rfl ?_)
                rcases (Classical.em (0 ≤ r363.1)).symm with c608 | c608
                · rw [if_neg c608] at h; cases h
                rw [if_pos c608] at h
                rcases (Classical.em (r363.1 < 256)).symm with c609 | c609
                · rw [if_neg c609] at h; cases h
                rw [if_pos c609] at h
                rcases (Classical.em (x345.length + 1 ≤ 140737488355328)).symm with c610 | c610
                · rw [if_neg c610] at h; cases h
                rw [if_pos c610] at h
                refine XO.do rfl (D.call (vs := [pt b7 0, .int .u8 r363.1]) cf79 (bWriteByteI_ok w593 _ _ _ r363.1 H591 c608 c609 c610 hB.size) rfl rfl ?_)
                rintro _ w611 ⟨rfl, H612, e613⟩
                replace hB := hB.trans e613
                clear e613 H591
                refine XO.nil ?_
                refine hM607 _ _ ?_
                refine X.seq fun M614 hM615 => ?_
                refine X.region ?_
                refine XO.do rfl (D.mv (v := S r563.1) rfl rfl ?_)
                rcases (Classical.em (name_Fold.pre r563.1)).symm with c616 | c616
                · rw [if_neg c616] at h; cases h
                rw [if_pos c616] at h
                obtain ⟨r620, q621, h⟩ := lt_elim h
                have hc619 := name_Fold.ok r563.1 w611 c616 
                rw [q621] at hc619
                clear q621
                refine XO.do rfl (D.call (vs := [S r563.1]) cf54 hc619 rfl rfl ?_)
                rintro _ w617 ⟨rfl, e618⟩
                clear hc619
                replace hB := below_ext hB e618
                replace H612 := H612.ext e618
                clear e618
                rcases (Classical.em ((x345 ++ [UInt8.ofNat r363.1.toNat]).length + r620.length ≤ 140737488355328)).symm with c622 | c622
                · rw [if_neg c622] at h; cases h
                rw [if_pos c622] at h
                refine XO.do rfl (D.call (vs := [pt b7 0, S r620]) cf80 (bWriteString_ok w617 _ _ _ r620 H612 c622 hB.size) rfl rfl ?_)
                rintro _ w623 ⟨rfl, H624, e625⟩
                replace hB := hB.trans e625
                clear e625 H612
                refine XO.nil ?_
                refine hM615 _ _ ?_
                refine X.seq fun M626 hM627 => ?_
                refine X.region ?_
                refine XO.do rfl (D.mv (v := .int .i64 r563.2.1) rfl rfl ?_)
                refine XO.do rfl (D.asn (v := .int .i64 r563.2.1) rfl rfl ?_)
                refine XO.nil ?_
                refine hM627 _ _ ?_
                refine X.seq fun M631 hM632 => ?_
                refine X.seq fun M633 hM634 => ?_
                refine X.region ?_
                refine XO.do rfl (D.mv (v := .int .u8 r363.1) rfl rfl ?_)
                refine XO.do rfl (D.gtr rfl rfl rfl ?_)
                refine XO.nil ?_
                refine hM634 _ _ ?_
                by_cases c635 : 0 < r363.1
                · rw [if_pos c635] at h
                  refine X.condT (congrArg Value.bool (decide_eq_true c635)) ?_
                  refine X.exit rfl ?_
                  exact ⟨kf342, Nat.lt_succ_self _, r563.2.1, (x345 ++ [UInt8.ofNat r363.1.toNat]) ++ r620, x346, x347, rfl, rfl, rfl, rfl, rfl, hB, H624, h⟩
                · rw [if_neg c635] at h
                  refine X.condF (congrArg Value.bool (decide_eq_false c635)) ?_
                  refine X.skip ?_
                  refine hM632 _ _ ?_
                  refine X.cut (fun f642 w641 => ∃ x640 : Int, f642 7 = pt b7 0 ∧ f642 9 = .int .i64 x640 ∧ Below w.heap.size w w641 ∧ BObj w641 w.heap.size b7 ((x345 ++ [UInt8.ofNat r363.1.toNat]) ++ r620) ∧ wire_Take.j6 x345 r363 r620 x640 = some res) ?_ ?_
                  · refine X.seq fun M650 hM651 => ?_
                    refine X.region ?_
                    refine XO.do rfl (D.mv (v := .int .i64 x347) rfl rfl ?_)
                    refine XO.do rfl (D.lss rfl rfl rfl ?_)
                    refine XO.nil ?_
                    refine hM651 _ _ ?_
                    by_cases c652 : x347 < 0
                    · rw [if_pos c652] at h
                      refine X.condT (congrArg Value.bool (decide_eq_true c652)) ?_
                      refine X.region ?_
                      refine XO.do rfl (D.mv (v := .int .i64 r563.2.1) rfl rfl ?_)
                      refine XO.do rfl (D.asn (v := .int .i64 r563.2.1) rfl rfl ?_)
                      refine XO.nil ?_
                      exact ⟨r563.2.1, rfl, rfl, hB, H624, h⟩
                    · rw [if_neg c652] at h
                      refine X.condF (congrArg Value.bool (decide_eq_false c652)) ?_
                      refine X.skip ?_
                      exact ⟨x347, rfl, rfl, hB, H624, h⟩
                  · intro f642 w641 hI
                    obtain ⟨x640, s643, s644, hB, H639, h⟩ := hI
                    refine X.fr (d := 7) s643 ?_
                    refine X.fr (d := 9) s644 ?_
                    unfold wire_Take.j6 at h
                    refine X.seq fun M645 hM646 => ?_
                    refine X.region ?_
                    rcases (Classical.em (((x345 ++ [UInt8.ofNat r363.1.toNat]) ++ r620) ≠ [])).symm with c647 | c647
                    · rw [if_neg c647] at h; cases h
                    rw [if_pos c647] at h
                    refine XO.do rfl (D.call (vs := [pt b7 0]) cf81 (bString_ok w641 _ _ _ H639 c647 hB.size) rfl rfl ?_)
                    rintro _ w648 ⟨rfl, e649⟩
                    replace hB := hB.trans e649
                    clear e649 H639
                    refine XO.do rfl (D.mv (v := .int .i64 x640) rfl rfl ?_)
                    refine XO.do rfl (D.asn (v := S ((x345 ++ [UInt8.ofNat r363.1.toNat]) ++ r620)) rfl rfl ?_)
                    refine XO.do rfl (D.asn (v := .int .i64 x640) rfl rfl ?_)
                    refine XO.do rfl (D.asn (v := .int .i64 0) rfl rfl ?_)
                    refine XO.nil ?_
                    refine hM646 _ _ ?_
                    refine X.ret ?_
                    injection h with h
                    subst h
                    exact hR _ _ _ (ret3 (v := S ((x345 ++ [UInt8.ofNat r363.1.toNat]) ++ r620)) (v' := .int .i64 x640) (v'' := .int .i64 0) rfl rfl rfl rfl) ⟨rfl, ext_of_below hB⟩
theorem wire_Take.ok (a1 : Str) (a2 : Int)  (w : World)  (hp : wire_Take.pre a1 a2) :
    Ret Try.prog 61 ([S a1, .int .i64 a2] : List Value).toArray w fun v w' => v = .tuple #[S ((wire_Take a1 a2).1), .int .i64 ((wire_Take a1 a2).2.1), .int .i64 ((wire_Take a1 a2).2.2)] ∧ Ext w w' := by
  obtain ⟨kf, h⟩ := wire_Take.eq a1 a2 hp
  exact wire_Take.walk kf a1 a2  w  _ h
end Go.Proofs.Ytfcaekghpkpjdaa.K

/- Walks, printed by a program of this session. -/
namespace Go.Proofs.Ytfcaekghpkpjdaa.K
open Go Go.RowKit Go.Proofs
set_option linter.unusedVariables false
set_option maxRecDepth 100000
set_option maxHeartbeats 4000000
namespace FD2
theorem cf28 : Callable Try.prog 28 := callable Try.func28 (by kernel_rfl) rfl
theorem cf58 : Callable Try.prog 58 := callable Try.func58 (by kernel_rfl) rfl
theorem cf61 : Callable Try.prog 61 := callable Try.func61 (by kernel_rfl) rfl
theorem cf64 : Callable Try.prog 64 := callable Try.func64 (by kernel_rfl) rfl
theorem sc3 : Sca Try.prog 3 := sca Try.underlying3 rfl
theorem ti3 : TI Try.prog 3 (.int .i64 0) 1 8 := by unfold TI; kernel_rfl
theorem sz3 : ∀ w, (sizeOf 3).run Try.prog w = .ok 1 w := fun w => ti3.size w
end FD2
open FD2

theorem rdata_Take.walk (kf : Nat) (a1 : Str) (a2 : Int) (a3 : Int) (a4 : Int)  (w : World)  (res : Str × Int) (h : rdata_Take.f kf a1 a2 a3 a4 = some res) :
    Ret Try.prog 46 ([S a1, .int .i64 a2, .int .i64 a3, .int .u16 a4] : List Value).toArray w fun v w' => v = .tuple #[S res.1, .int .i64 res.2] ∧ Ext w w' := by
  unfold rdata_Take.f at h
  refine enterX Try.func46 rfl Try.ntmps46 rfl (fun R hR => ?_)
  have hB := Below.refl w.heap.size w
  refine X.seq fun M5 hM6 => ?_
  refine X.region ?_
  refine XO.do rfl (D.asn (v := S []) rfl rfl ?_)
  refine XO.do rfl (D.asn (v := .int .i64 0) rfl rfl ?_)
  refine XO.nil ?_
  refine hM6 _ _ ?_
  refine X.seq fun M20 hM21 => ?_
  refine X.seq fun M22 hM23 => ?_
  refine X.region ?_
  refine XO.do rfl (D.mv (v := S a1) rfl rfl ?_)
  refine XO.do rfl (D.mv (v := .int .i64 a2) rfl rfl ?_)
  refine XO.do rfl (D.mv (v := .int .i64 a3) rfl rfl ?_)
  rcases (Classical.em (octet_Some.pre a1 a2 a3)).symm with c24 | c24
  · rw [if_neg c24] at h; cases h
  rw [if_pos c24] at h
  obtain ⟨r28, q29, h⟩ := lt_elim h
  have hc27 := octet_Some.ok a1 a2 a3 w c24 
  rw [q29] at hc27
  clear q29
  refine XO.do rfl (D.call (vs := [S a1, .int .i64 a2, .int .i64 a3]) cf64 hc27 rfl rfl ?_)
  rintro _ w25 ⟨rfl, e26⟩
  clear hc27
  replace hB := below_ext hB e26
  clear e26
  refine XO.do rfl (D.mv (v := .tuple #[S r28.1, .int .i64 r28.2.1, .int .i64 r28.2.2]) rfl rfl ?_)
  refine XO.do rfl (D.extract (v := S r28.1) rfl rfl rfl ?_)
  refine XO.do rfl (D.extract (v := .int .i64 r28.2.1) rfl rfl rfl ?_)
  refine XO.do rfl (D.extract (v := .int .i64 r28.2.2) rfl rfl rfl ?_)
  refine XO.do rfl (D.asn (v := S r28.1) rfl rfl ?_)
  refine XO.do rfl (D.asn (v := .int .i64 r28.2.1) rfl rfl ?_)
  refine XO.do rfl (D.asn (v := .int .i64 r28.2.2) rfl rfl ?_)
  refine XO.nil ?_
  refine hM23 _ _ ?_
  refine X.seq fun M30 hM31 => ?_
  refine X.region ?_
  refine XO.do rfl (D.mv (v := .int .i64 r28.2.2) rfl rfl ?_)
  refine XO.do rfl (D.neq rfl rfl rfl ?_)
  refine XO.nil ?_
  refine hM31 _ _ ?_
  by_cases c32 : r28.2.2 = 0
  · rw [if_pos c32] at h
    refine X.condF (congrArg Value.bool ((congrArg (!·) (beq_iff_eq.2 c32)))) ?_
    refine X.skip ?_
    refine hM21 _ _ ?_
    refine X.seq fun M33 hM34 => ?_
    refine X.region ?_
    refine XO.do rfl (D.mv (v := .int .i64 a2) rfl rfl ?_)
    refine XO.do rfl (D.mv (v := .int .i64 a3) rfl rfl ?_)
    refine XO.do rfl (D.add rfl rfl rfl ?_)
    refine XO.do rfl (D.asn (v := .int .i64 (w64 (a2 + a3))) rfl rfl ?_)
    refine XO.nil ?_
    refine hM34 _ _ ?_
    refine X.seq fun M35 hM36 => ?_
    refine X.region ?_
    refine XO.do rfl (D.asn (v := S []) rfl rfl ?_)
    refine XO.nil ?_
    refine hM36 _ _ ?_
    refine X.seq fun M1008 hM1009 => ?_
    refine X.seq fun M1010 hM1011 => ?_
    refine X.region ?_
    refine XO.do rfl (D.mv (v := .int .u16 a4) rfl rfl ?_)
    obtain ⟨r1015, q1016, h⟩ := lt_elim h
    have hc1014 := rdata_layout.ok a4 w25 
    rw [q1016] at hc1014
    clear q1016
    refine XO.do rfl (D.call (vs := [.int .u16 a4]) cf58 hc1014 rfl rfl ?_)
    rintro _ w1012 ⟨A1017, k1018, rfl, H1019, g1020, e1013⟩
    clear hc1014
    have z1021 : ∀ y, blkOf A1017 = some y → w.heap.size ≤ y := fun y hy => Nat.le_trans hB.size (g1020 y hy)
    replace hB := below_ext hB e1013
    clear e1013
    refine XO.do rfl (D.lenR (A := A1017) (c := k1018) (m := r1015.length) Try.underlying105 rfl rfl ?_)
    refine XO.do rfl (D.mv (v := .int .i64 0) rfl rfl ?_)
    refine XO.nil ?_
    refine hM1011 _ _ ?_
    refine X.block ?_
    refine X.loop (fun kq2025 => fun f1512 w1511 => ∃ x1506 : Int, ∃ x1507 : Str, ∃ x1509 : Int, f1512 0 = S a1 ∧ f1512 1 = .int .i64 x1506 ∧ f1512 3 = .int .u16 a4 ∧ f1512 13 = .int .i64 (w64 (a2 + a3)) ∧ f1512 14 = S x1507 ∧ f1512 39 = .slice A1017 r1015.length k1018 ∧ f1512 40 = .int .i64 (r1015.length : Int) ∧ f1512 41 = .int .i64 x1509 ∧ Below w.heap.size w w1511 ∧ Row (eInt .i64) w1511 A1017 k1018 r1015 ∧ rdata_Take.l1 r1015 a1 a2 a3 a4 kq2025 x1506 x1507 x1509 = some res) kf ?_ ?_
    · exact ⟨a2, [], 0, rfl, rfl, rfl, rfl, rfl, rfl, rfl, rfl, hB, H1019, h⟩
    · intro kq2025 f1512 w1511 hI
      obtain ⟨x1506, x1507, x1509, s1513, s1514, s1515, s1516, s1517, s1518, s1519, s1520, hB, H1508, h⟩ := hI
      cases kq2025 with
      | zero => exact absurd h (by rw [rdata_Take.l1.eq_1]; simp)
      | succ kf1505 =>
        rw [rdata_Take.l1.eq_2] at h
        refine X.fr (d := 0) s1513 ?_
        refine X.fr (d := 1) s1514 ?_
        refine X.fr (d := 3) s1515 ?_
        refine X.fr (d := 13) s1516 ?_
        refine X.fr (d := 14) s1517 ?_
        refine X.fr (d := 39) s1518 ?_
        refine X.fr (d := 40) s1519 ?_
        refine X.fr (d := 41) s1520 ?_
        refine X.seq fun M1522 hM1523 => ?_
        refine X.region ?_
        refine XO.do rfl (D.lss rfl rfl rfl ?_)
        refine XO.nil ?_
        refine hM1523 _ _ ?_
        refine X.seq fun M1525 hM1526 => ?_
        by_cases c1527 : x1509 < (r1015.length : Int)
        · rw [if_pos c1527] at h
          refine X.condT (congrArg Value.bool (decide_eq_true c1527)) ?_
          refine X.skip ?_
          refine hM1526 _ _ ?_
          refine X.cut (fun f1750 w1749 => ∃ x1746 : Int, ∃ x1747 : Str, f1750 0 = S a1 ∧ f1750 1 = .int .i64 x1746 ∧ f1750 3 = .int .u16 a4 ∧ f1750 13 = .int .i64 (w64 (a2 + a3)) ∧ f1750 14 = S x1747 ∧ f1750 39 = .slice A1017 r1015.length k1018 ∧ f1750 40 = .int .i64 (r1015.length : Int) ∧ f1750 41 = .int .i64 x1509 ∧ Below w.heap.size w w1749 ∧ Row (eInt .i64) w1749 A1017 k1018 r1015 ∧ rdata_Take.j2 (rdata_Take.l1 r1015 a1 a2 a3 a4 kf1505) x1509 x1746 x1747 = some res) ?_ ?_
          · refine X.block ?_
            refine X.seq fun M1759 hM1760 => ?_
            refine X.region ?_
            rcases (Classical.em (0 ≤ x1509)).symm with c1761 | c1761
            · rw [if_neg c1761] at h; cases h
            rw [if_pos c1761] at h
            refine XO.do rfl (D.indexR (i := x1509) Try.underlying105 sz3 H1508 rfl rfl c1761 c1527 rfl ?_)
            intro b1762 o1763 _ H1764
            refine XO.do rfl (D.load (j := 0) (v := .int .i64 (rd r1015 x1509)) sc3 H1764 rfl rfl rfl rfl ?_)
            refine XO.do rfl (D.asn (v := .int .i64 (rd r1015 x1509)) rfl rfl ?_)
            refine XO.nil ?_
            refine hM1760 _ _ ?_
            refine X.seq fun M1766 hM1767 => ?_
            refine X.region ?_
            refine XO.do rfl (D.mv (v := .int .i64 (rd r1015 x1509)) rfl rfl ?_)
            refine XO.do rfl (D.asn (v := .int .i64 (rd r1015 x1509)) rfl rfl ?_)
            refine XO.nil ?_
            refine hM1767 _ _ ?_
            refine X.cut (fun f1789 w1788 => ∃ x1786 : Int, f1789 0 = S a1 ∧ f1789 1 = .int .i64 x1506 ∧ f1789 3 = .int .u16 a4 ∧ f1789 13 = .int .i64 (w64 (a2 + a3)) ∧ f1789 14 = S x1507 ∧ f1789 16 = .int .i64 (rd r1015 x1509) ∧ f1789 17 = .int .i64 x1786 ∧ f1789 39 = .slice A1017 r1015.length k1018 ∧ f1789 40 = .int .i64 (r1015.length : Int) ∧ f1789 41 = .int .i64 x1509 ∧ Below w.heap.size w w1788 ∧ Row (eInt .i64) w1788 A1017 k1018 r1015 ∧ rdata_Take.j3 r1015 x1509 a1 x1506 x1507 (rdata_Take.l1 r1015 a1 a2 a3 a4 kf1505) a2 a3 x1786 = some res) ?_ ?_
            · refine X.cut (fun f1963 w1962 => ∃ x1961 : Bool, f1963 0 = S a1 ∧ f1963 1 = .int .i64 x1506 ∧ f1963 3 = .int .u16 a4 ∧ f1963 13 = .int .i64 (w64 (a2 + a3)) ∧ f1963 14 = S x1507 ∧ f1963 16 = .int .i64 (rd r1015 x1509) ∧ f1963 17 = .int .i64 (rd r1015 x1509) ∧ f1963 39 = .slice A1017 r1015.length k1018 ∧ f1963 40 = .int .i64 (r1015.length : Int) ∧ f1963 41 = .int .i64 x1509 ∧ f1963 51 = .bool x1961 ∧ Below w.heap.size w w1962 ∧ Row (eInt .i64) w1962 A1017 k1018 r1015 ∧ rdata_Take.j6 r1015 x1509 a1 x1506 x1507 (rdata_Take.l1 r1015 a1 a2 a3 a4 kf1505) a2 a3 x1961 = some res) ?_ ?_
              · refine X.region ?_
                refine XO.do rfl (D.mv (v := .int .i64 (rd r1015 x1509)) rfl rfl ?_)
                refine XO.do rfl (D.eql rfl rfl rfl ?_)
                refine XO.do rfl (D.mv (v := .bool ((rd r1015 x1509) == (-2))) rfl rfl ?_)
                by_cases c1976 : (rd r1015 x1509) = (-2)
                · rw [if_pos c1976] at h
                  refine XO.off (wantG0 (j := 2) (b := false) rfl (beq_iff_eq.2 c1976) rfl) rfl rfl ?_
                  refine XO.off (wantG0 (j := 2) (b := false) rfl (beq_iff_eq.2 c1976) rfl) rfl rfl ?_
                  refine XO.do rfl (D.pick true (v := .bool true) (congrArg Value.bool (beq_iff_eq.2 c1976)) rfl rfl ?_)
                  refine XO.nil ?_
                  exact ⟨true, rfl, rfl, rfl, rfl, rfl, rfl, rfl, rfl, rfl, rfl, rfl, hB, H1508, h⟩
                · rw [if_neg c1976] at h
                  refine XO.do (wantG (j := 2) (b := false) rfl (beq_eq_false_iff_ne.2 c1976) rfl) (D.mv (v := .int .i64 (rd r1015 x1509)) rfl rfl ?_)
                  refine XO.do (wantG (j := 2) (b := false) rfl (beq_eq_false_iff_ne.2 c1976) rfl) (D.eql rfl rfl rfl ?_)
                  refine XO.do rfl (D.pick false (v := .bool ((rd r1015 x1509) == (-3))) (congrArg Value.bool (beq_eq_false_iff_ne.2 c1976)) rfl rfl ?_)
                  refine XO.nil ?_
                  exact ⟨((rd r1015 x1509) == (-3)), rfl, rfl, rfl, rfl, rfl, rfl, rfl, rfl, rfl, rfl, rfl, hB, H1508, h⟩
              · intro f1963 w1962 hI
                obtain ⟨x1961, s1964, s1965, s1966, s1967, s1968, s1969, s1970, s1971, s1972, s1973, s1974, hB, H1960, h⟩ := hI
                refine X.fr (d := 0) s1964 ?_
                refine X.fr (d := 1) s1965 ?_
                refine X.fr (d := 3) s1966 ?_
                refine X.fr (d := 13) s1967 ?_
                refine X.fr (d := 14) s1968 ?_
                refine X.fr (d := 16) s1969 ?_
                refine X.fr (d := 17) s1970 ?_
                refine X.fr (d := 39) s1971 ?_
                refine X.fr (d := 40) s1972 ?_
                refine X.fr (d := 41) s1973 ?_
                refine X.fr (d := 51) s1974 ?_
                unfold rdata_Take.j6 at h
                by_cases c1975 : x1961 = true
                · rw [if_pos c1975] at h
                  refine X.condT (congrArg Value.bool (c1975)) ?_
                  refine X.region ?_
                  refine XO.do rfl (D.mv (v := .int .i64 (w64 (a2 + a3))) rfl rfl ?_)
                  refine XO.do rfl (D.mv (v := .int .i64 x1506) rfl rfl ?_)
                  refine XO.do rfl (D.sub rfl rfl rfl ?_)
                  refine XO.do rfl (D.asn (v := .int .i64 (w64 ((w64 (a2 + a3)) - x1506))) rfl rfl ?_)
                  refine XO.nil ?_
                  exact ⟨w64 ((w64 (a2 + a3)) - x1506), rfl, rfl, rfl, rfl, rfl, rfl, rfl, rfl, rfl, rfl, hB, H1960, h⟩
                · rw [if_neg c1975] at h
                  refine X.condF (congrArg Value.bool ((Bool.eq_false_iff.2 c1975))) ?_
                  refine X.skip ?_
                  exact ⟨(rd r1015 x1509), rfl, rfl, rfl, rfl, rfl, rfl, rfl, rfl, rfl, rfl, hB, H1960, h⟩
            · intro f1789 w1788 hI
              obtain ⟨x1786, s1790, s1791, s1792, s1793, s1794, s1795, s1796, s1797, s1798, s1799, hB, H1787, h⟩ := hI
              refine X.fr (d := 0) s1790 ?_
              refine X.fr (d := 1) s1791 ?_
              refine X.fr (d := 3) s1792 ?_
              refine X.fr (d := 13) s1793 ?_
              refine X.fr (d := 14) s1794 ?_
              refine X.fr (d := 16) s1795 ?_
              refine X.fr (d := 17) s1796 ?_
              refine X.fr (d := 39) s1797 ?_
              refine X.fr (d := 40) s1798 ?_
              refine X.fr (d := 41) s1799 ?_
              unfold rdata_Take.j3 at h
              refine X.seq fun M1854 hM1855 => ?_
              refine X.seq fun M1856 hM1857 => ?_
              refine X.region ?_
              refine XO.do rfl (D.mv (v := .int .i64 (rd r1015 x1509)) rfl rfl ?_)
              refine XO.do rfl (D.eql rfl rfl rfl ?_)
              refine XO.nil ?_
              refine hM1857 _ _ ?_
              by_cases c1858 : (rd r1015 x1509) = (-1)
              · rw [if_pos c1858] at h
                refine X.condT (congrArg Value.bool (beq_iff_eq.2 c1858)) ?_
                refine X.seq fun M1859 hM1860 => ?_
                refine X.region ?_
                refine XO.do rfl (D.mv (v := S a1) rfl rfl ?_)
                refine XO.do rfl (D.mv (v := .int .i64 x1506) rfl rfl ?_)
                rcases (Classical.em (wire_Take.pre a1 x1506)).symm with c1861 | c1861
                · rw [if_neg c1861] at h; cases h
                rw [if_pos c1861] at h
                obtain ⟨r1865, q1866, h⟩ := lt_elim h
                have hc1864 := wire_Take.ok a1 x1506 w1788 c1861 
                rw [q1866] at hc1864
                clear q1866
                refine XO.do rfl (D.call (vs := [S a1, .int .i64 x1506]) cf61 hc1864 rfl rfl ?_)
                rintro _ w1862 ⟨rfl, e1863⟩
                clear hc1864
                replace hB := below_ext hB e1863
                replace H1787 := H1787.ext e1863
                clear e1863
                refine XO.do rfl (D.mv (v := .tuple #[S r1865.1, .int .i64 r1865.2.1, .int .i64 r1865.2.2]) rfl rfl ?_)
                refine XO.do rfl (D.extract (v := S r1865.1) rfl rfl rfl ?_)
                refine XO.do rfl (D.extract (v := .int .i64 r1865.2.1) rfl rfl rfl ?_)
                refine XO.do rfl (D.extract (v := .int .i64 r1865.2.2) rfl rfl rfl ?_)
                refine XO.do rfl (D.asn (v := S r1865.1) rfl rfl ?_)
                refine XO.do rfl (D.asn (v := .int .i64 r1865.2.1) rfl rfl ?_)
                refine XO.do rfl (D.asn (v := .int .i64 r1865.2.2) rfl rfl ?_)
                refine XO.nil ?_
                refine hM1860 _ _ ?_
                refine X.seq fun M1886 hM1887 => ?_
                refine X.cut (fun f1892 w1891 => ∃ x1890 : Bool, f1892 0 = S a1 ∧ f1892 3 = .int .u16 a4 ∧ f1892 13 = .int .i64 (w64 (a2 + a3)) ∧ f1892 14 = S x1507 ∧ f1892 18 = S r1865.1 ∧ f1892 19 = .int .i64 r1865.2.1 ∧ f1892 39 = .slice A1017 r1015.length k1018 ∧ f1892 40 = .int .i64 (r1015.length : Int) ∧ f1892 41 = .int .i64 x1509 ∧ f1892 70 = .bool x1890 ∧ Below w.heap.size w w1891 ∧ Row (eInt .i64) w1891 A1017 k1018 r1015 ∧ rdata_Take.j4 x1507 r1865 (rdata_Take.l1 r1015 a1 a2 a3 a4 kf1505) x1509 x1890 = some res) ?_ ?_
                · refine X.region ?_
                  refine XO.do rfl (D.mv (v := .int .i64 r1865.2.2) rfl rfl ?_)
                  refine XO.do rfl (D.neq rfl rfl rfl ?_)
                  refine XO.do rfl (D.mv (v := .bool (r1865.2.2 != 0)) rfl rfl ?_)
                  by_cases c1909 : r1865.2.2 = 0
                  · rw [if_pos c1909] at h
                    refine XO.do (wantG (j := 2) (b := false) rfl ((congrArg (!·) (beq_iff_eq.2 c1909))) rfl) (D.mv (v := .int .i64 r1865.2.1) rfl rfl ?_)
                    refine XO.do (wantG (j := 2) (b := false) rfl ((congrArg (!·) (beq_iff_eq.2 c1909))) rfl) (D.mv (v := .int .i64 (w64 (a2 + a3))) rfl rfl ?_)
                    refine XO.do (wantG (j := 2) (b := false) rfl ((congrArg (!·) (beq_iff_eq.2 c1909))) rfl) (D.gtr rfl rfl rfl ?_)
                    refine XO.do rfl (D.pick false (v := .bool (decide ((w64 (a2 + a3)) < r1865.2.1))) (congrArg Value.bool ((congrArg (!·) (beq_iff_eq.2 c1909)))) rfl rfl ?_)
                    refine XO.nil ?_
                    exact ⟨(decide ((w64 (a2 + a3)) < r1865.2.1)), rfl, rfl, rfl, rfl, rfl, rfl, rfl, rfl, rfl, rfl, hB, H1787, h⟩
                  · rw [if_neg c1909] at h
                    refine XO.off (wantG0 (j := 2) (b := false) rfl ((congrArg (!·) (beq_eq_false_iff_ne.2 c1909))) rfl) rfl rfl ?_
                    refine XO.off (wantG0 (j := 2) (b := false) rfl ((congrArg (!·) (beq_eq_false_iff_ne.2 c1909))) rfl) rfl rfl ?_
                    refine XO.off (wantG0 (j := 2) (b := false) rfl ((congrArg (!·) (beq_eq_false_iff_ne.2 c1909))) rfl) rfl rfl ?_
                    refine XO.do rfl (D.pick true (v := .bool true) (congrArg Value.bool ((congrArg (!·) (beq_eq_false_iff_ne.2 c1909)))) rfl rfl ?_)
                    refine XO.nil ?_
                    exact ⟨true, rfl, rfl, rfl, rfl, rfl, rfl, rfl, rfl, rfl, rfl, hB, H1787, h⟩
                · intro f1892 w1891 hI
                  obtain ⟨x1890, s1893, s1894, s1895, s1896, s1897, s1898, s1899, s1900, s1901, s1902, hB, H1889, h⟩ := hI
                  refine X.fr (d := 0) s1893 ?_
                  refine X.fr (d := 3) s1894 ?_
                  refine X.fr (d := 13) s1895 ?_
                  refine X.fr (d := 14) s1896 ?_
                  refine X.fr (d := 18) s1897 ?_
                  refine X.fr (d := 19) s1898 ?_
                  refine X.fr (d := 39) s1899 ?_
                  refine X.fr (d := 40) s1900 ?_
                  refine X.fr (d := 41) s1901 ?_
                  refine X.fr (d := 70) s1902 ?_
                  unfold rdata_Take.j4 at h
                  by_cases c1903 : x1890 = true
                  · rw [if_pos c1903] at h
                    refine X.condT (congrArg Value.bool (c1903)) ?_
                    refine X.seq fun M1904 hM1905 => ?_
                    refine X.region ?_
                    refine XO.do rfl (D.asn (v := S []) rfl rfl ?_)
                    refine XO.do rfl (D.asn (v := .int .i64 2) rfl rfl ?_)
                    refine XO.nil ?_
                    refine hM1905 _ _ ?_
                    refine X.ret ?_
                    injection h with h
                    subst h
                    exact hR _ _ _ (ret2 (v := S []) (v' := .int .i64 2) rfl rfl rfl) ⟨rfl, ext_of_below hB⟩
                  · rw [if_neg c1903] at h
                    refine X.condF (congrArg Value.bool ((Bool.eq_false_iff.2 c1903))) ?_
                    refine X.skip ?_
                    refine hM1887 _ _ ?_
                    refine X.seq fun M1906 hM1907 => ?_
                    refine X.region ?_
                    refine XO.do rfl (D.mv (v := S x1507) rfl rfl ?_)
                    refine XO.do rfl (D.mv (v := S r1865.1) rfl rfl ?_)
                    rcases (Classical.em (x1507.length + r1865.1.length ≤ 9223372036854775807)).symm with c1908 | c1908
                    · rw [if_neg c1908] at h; cases h
                    rw [if_pos c1908] at h
                    refine XO.do rfl (D.addS rfl rfl c1908 rfl ?_)
                    refine XO.do rfl (D.mv (v := .int .i64 r1865.2.1) rfl rfl ?_)
                    refine XO.do rfl (D.asn (v := S (x1507 ++ r1865.1)) rfl rfl ?_)
                    refine XO.do rfl (D.asn (v := .int .i64 r1865.2.1) rfl rfl ?_)
                    refine XO.nil ?_
                    refine hM1907 _ _ ?_
                    refine X.exit rfl ?_
                    exact ⟨r1865.2.1, x1507 ++ r1865.1, rfl, rfl, rfl, rfl, rfl, rfl, rfl, rfl, hB, H1889, h⟩
              · rw [if_neg c1858] at h
                refine X.condF (congrArg Value.bool (beq_eq_false_iff_ne.2 c1858)) ?_
                refine X.skip ?_
                refine hM1855 _ _ ?_
                refine X.seq fun M1910 hM1911 => ?_
                refine X.region ?_
                refine XO.do rfl (D.mv (v := S a1) rfl rfl ?_)
                refine XO.do rfl (D.mv (v := .int .i64 x1506) rfl rfl ?_)
                refine XO.do rfl (D.mv (v := .int .i64 x1786) rfl rfl ?_)
                rcases (Classical.em (octet_Some.pre a1 x1506 x1786)).symm with c1912 | c1912
                · rw [if_neg c1912] at h; cases h
                rw [if_pos c1912] at h
                obtain ⟨r1916, q1917, h⟩ := lt_elim h
                have hc1915 := octet_Some.ok a1 x1506 x1786 w1788 c1912 
                rw [q1917] at hc1915
                clear q1917
                refine XO.do rfl (D.call (vs := [S a1, .int .i64 x1506, .int .i64 x1786]) cf64 hc1915 rfl rfl ?_)
                rintro _ w1913 ⟨rfl, e1914⟩
                clear hc1915
                replace hB := below_ext hB e1914
                replace H1787 := H1787.ext e1914
                clear e1914
                refine XO.do rfl (D.mv (v := .tuple #[S r1916.1, .int .i64 r1916.2.1, .int .i64 r1916.2.2]) rfl rfl ?_)
                refine XO.do rfl (D.extract (v := S r1916.1) rfl rfl rfl ?_)
                refine XO.do rfl (D.extract (v := .int .i64 r1916.2.1) rfl rfl rfl ?_)
                refine XO.do rfl (D.extract (v := .int .i64 r1916.2.2) rfl rfl rfl ?_)
                refine XO.do rfl (D.asn (v := S r1916.1) rfl rfl ?_)
                refine XO.do rfl (D.asn (v := .int .i64 r1916.2.1) rfl rfl ?_)
                refine XO.do rfl (D.asn (v := .int .i64 r1916.2.2) rfl rfl ?_)
                refine XO.nil ?_
                refine hM1911 _ _ ?_
                refine X.seq fun M1937 hM1938 => ?_
                refine X.cut (fun f1943 w1942 => ∃ x1941 : Bool, f1943 0 = S a1 ∧ f1943 3 = .int .u16 a4 ∧ f1943 13 = .int .i64 (w64 (a2 + a3)) ∧ f1943 14 = S x1507 ∧ f1943 21 = S r1916.1 ∧ f1943 22 = .int .i64 r1916.2.1 ∧ f1943 39 = .slice A1017 r1015.length k1018 ∧ f1943 40 = .int .i64 (r1015.length : Int) ∧ f1943 41 = .int .i64 x1509 ∧ f1943 89 = .bool x1941 ∧ Below w.heap.size w w1942 ∧ Row (eInt .i64) w1942 A1017 k1018 r1015 ∧ rdata_Take.j5 x1507 r1916 (rdata_Take.l1 r1015 a1 a2 a3 a4 kf1505) x1509 x1941 = some res) ?_ ?_
                · refine X.region ?_
                  refine XO.do rfl (D.mv (v := .int .i64 r1916.2.2) rfl rfl ?_)
                  refine XO.do rfl (D.neq rfl rfl rfl ?_)
                  refine XO.do rfl (D.mv (v := .bool (r1916.2.2 != 0)) rfl rfl ?_)
                  by_cases c1958 : r1916.2.2 = 0
                  · rw [if_pos c1958] at h
                    refine XO.do (wantG (j := 2) (b := false) rfl ((congrArg (!·) (beq_iff_eq.2 c1958))) rfl) (D.mv (v := .int .i64 r1916.2.1) rfl rfl ?_)
                    refine XO.do (wantG (j := 2) (b := false) rfl ((congrArg (!·) (beq_iff_eq.2 c1958))) rfl) (D.mv (v := .int .i64 (w64 (a2 + a3))) rfl rfl ?_)
                    refine XO.do (wantG (j := 2) (b := false) rfl ((congrArg (!·) (beq_iff_eq.2 c1958))) rfl) (D.gtr rfl rfl rfl ?_)
                    refine XO.do rfl (D.pick false (v := .bool (decide ((w64 (a2 + a3)) < r1916.2.1))) (congrArg Value.bool ((congrArg (!·) (beq_iff_eq.2 c1958)))) rfl rfl ?_)
                    refine XO.nil ?_
                    exact ⟨(decide ((w64 (a2 + a3)) < r1916.2.1)), rfl, rfl, rfl, rfl, rfl, rfl, rfl, rfl, rfl, rfl, hB, H1787, h⟩
                  · rw [if_neg c1958] at h
                    refine XO.off (wantG0 (j := 2) (b := false) rfl ((congrArg (!·) (beq_eq_false_iff_ne.2 c1958))) rfl) rfl rfl ?_
                    refine XO.off (wantG0 (j := 2) (b := false) rfl ((congrArg (!·) (beq_eq_false_iff_ne.2 c1958))) rfl) rfl rfl ?_
                    refine XO.off (wantG0 (j := 2) (b := false) rfl ((congrArg (!·) (beq_eq_false_iff_ne.2 c1958))) rfl) rfl rfl ?_
                    refine XO.do rfl (D.pick true (v := .bool true) (congrArg Value.bool ((congrArg (!·) (beq_eq_false_iff_ne.2 c1958)))) rfl rfl ?_)
                    refine XO.nil ?_
                    exact ⟨true, rfl, rfl, rfl, rfl, rfl, rfl, rfl, rfl, rfl, rfl, hB, H1787, h⟩
                · intro f1943 w1942 hI
                  obtain ⟨x1941, s1944, s1945, s1946, s1947, s1948, s1949, s1950, s1951, s1952, s1953, hB, H1940, h⟩ := hI
                  refine X.fr (d := 0) s1944 ?_
                  refine X.fr (d := 3) s1945 ?_
                  refine X.fr (d := 13) s1946 ?_
                  refine X.fr (d := 14) s1947 ?_
                  refine X.fr (d := 21) s1948 ?_
                  refine X.fr (d := 22) s1949 ?_
                  refine X.fr (d := 39) s1950 ?_
                  refine X.fr (d := 40) s1951 ?_
                  refine X.fr (d := 41) s1952 ?_
                  refine X.fr (d := 89) s1953 ?_
                  unfold rdata_Take.j5 at h
                  by_cases c1954 : x1941 = true
                  · rw [if_pos c1954] at h
                    refine X.condT (congrArg Value.bool (c1954)) ?_
                    refine X.seq fun M1955 hM1956 => ?_
                    refine X.region ?_
                    refine XO.do rfl (D.asn (v := S []) rfl rfl ?_)
                    refine XO.do rfl (D.asn (v := .int .i64 2) rfl rfl ?_)
                    refine XO.nil ?_
                    refine hM1956 _ _ ?_
                    refine X.ret ?_
                    injection h with h
                    subst h
                    exact hR _ _ _ (ret2 (v := S []) (v' := .int .i64 2) rfl rfl rfl) ⟨rfl, ext_of_below hB⟩
                  · rw [if_neg c1954] at h
                    refine X.condF (congrArg Value.bool ((Bool.eq_false_iff.2 c1954))) ?_
                    refine X.skip ?_
                    refine hM1938 _ _ ?_
                    refine X.region ?_
                    refine XO.do rfl (D.mv (v := S x1507) rfl rfl ?_)
                    refine XO.do rfl (D.mv (v := S r1916.1) rfl rfl ?_)
                    rcases (Classical.em (x1507.length + r1916.1.length ≤ 9223372036854775807)).symm with c1957 | c1957
                    · rw [if_neg c1957] at h; cases h
                    rw [if_pos c1957] at h
                    refine XO.do rfl (D.addS rfl rfl c1957 rfl ?_)
                    refine XO.do rfl (D.mv (v := .int .i64 r1916.2.1) rfl rfl ?_)
                    refine XO.do rfl (D.asn (v := S (x1507 ++ r1916.1)) rfl rfl ?_)
                    refine XO.do rfl (D.asn (v := .int .i64 r1916.2.1) rfl rfl ?_)
                    refine XO.nil ?_
                    exact ⟨r1916.2.1, x1507 ++ r1916.1, rfl, rfl, rfl, rfl, rfl, rfl, rfl, rfl, hB, H1940, h⟩
          · intro f1750 w1749 hI
            obtain ⟨x1746, x1747, s1751, s1752, s1753, s1754, s1755, s1756, s1757, s1758, hB, H1748, h⟩ := hI
            refine X.fr (d := 0) s1751 ?_
            refine X.fr (d := 1) s1752 ?_
            refine X.fr (d := 3) s1753 ?_
            refine X.fr (d := 13) s1754 ?_
            refine X.fr (d := 14) s1755 ?_
            refine X.fr (d := 39) s1756 ?_
            refine X.fr (d := 40) s1757 ?_
            refine X.fr (d := 41) s1758 ?_
            unfold rdata_Take.j2 at h
            refine X.region ?_
            refine XO.do rfl (D.add rfl rfl rfl ?_)
            refine XO.do rfl (D.mv (v := .int .i64 (w64 (x1509 + 1))) rfl rfl ?_)
            refine XO.nil ?_
            exact ⟨kf1505, Nat.lt_succ_self _, x1746, x1747, w64 (x1509 + 1), rfl, rfl, rfl, rfl, rfl, rfl, rfl, rfl, hB, H1748, h⟩
        · rw [if_neg c1527] at h
          refine X.condF (congrArg Value.bool (decide_eq_false c1527)) ?_
          refine X.exit rfl ?_
          refine hM1009 _ _ ?_
          refine X.seq fun M1999 hM2000 => ?_
          refine X.cut (fun f2010 w2009 => ∃ x2008 : Bool, f2010 14 = S x1507 ∧ f2010 103 = .bool x2008 ∧ Below w.heap.size w w2009 ∧ rdata_Take.j7 x1507 x2008 = some res) ?_ ?_
          · refine X.region ?_
            refine XO.do rfl (D.mv (v := .int .i64 x1506) rfl rfl ?_)
            refine XO.do rfl (D.mv (v := .int .i64 (w64 (a2 + a3))) rfl rfl ?_)
            refine XO.do rfl (D.neq rfl rfl rfl ?_)
            refine XO.do rfl (D.mv (v := .bool (x1506 != (w64 (a2 + a3)))) rfl rfl ?_)
            by_cases c2018 : x1506 = (w64 (a2 + a3))
            · rw [if_pos c2018] at h
              refine XO.do (wantG (j := 3) (b := false) rfl ((congrArg (!·) (beq_iff_eq.2 c2018))) rfl) (D.mv (v := .int .u16 a4) rfl rfl ?_)
              refine XO.do (wantG (j := 3) (b := false) rfl ((congrArg (!·) (beq_iff_eq.2 c2018))) rfl) (D.mv (v := S x1507) rfl rfl ?_)
              rcases (Classical.em (rdata_May.pre a4 x1507)).symm with c2019 | c2019
              · rw [if_neg c2019] at h; cases h
              rw [if_pos c2019] at h
              obtain ⟨r2023, q2024, h⟩ := lt_elim h
              have hc2022 := rdata_May.ok a4 x1507 w1511 c2019 
              rw [q2024] at hc2022
              clear q2024
              refine XO.do (wantG (j := 3) (b := false) rfl ((congrArg (!·) (beq_iff_eq.2 c2018))) rfl) (D.call (vs := [.int .u16 a4, S x1507]) cf28 hc2022 rfl rfl ?_)
              rintro _ w2020 ⟨rfl, e2021⟩
              clear hc2022
              replace hB := below_ext hB e2021
              replace H1508 := H1508.ext e2021
              clear e2021
              refine XO.do (wantG (j := 3) (b := false) rfl ((congrArg (!·) (beq_iff_eq.2 c2018))) rfl) (D.not r2023 rfl rfl ?_)
              refine XO.do rfl (D.pick false (v := .bool (!r2023)) (congrArg Value.bool ((congrArg (!·) (beq_iff_eq.2 c2018)))) rfl rfl ?_)
              refine XO.nil ?_
              exact ⟨(!r2023), rfl, rfl, hB, h⟩
            · rw [if_neg c2018] at h
              refine XO.off (wantG0 (j := 3) (b := false) rfl ((congrArg (!·) (beq_eq_false_iff_ne.2 c2018))) rfl) rfl rfl ?_
              refine XO.off (wantG0 (j := 3) (b := false) rfl ((congrArg (!·) (beq_eq_false_iff_ne.2 c2018))) rfl) rfl rfl ?_
              refine XO.off (wantG0 (j := 3) (b := false) rfl ((congrArg (!·) (beq_eq_false_iff_ne.2 c2018))) rfl) rfl rfl ?_
              refine XO.off (wantG0 (j := 3) (b := false) rfl ((congrArg (!·) (beq_eq_false_iff_ne.2 c2018))) rfl) rfl rfl ?_
              refine XO.do rfl (D.pick true (v := .bool true) (congrArg Value.bool ((congrArg (!·) (beq_eq_false_iff_ne.2 c2018)))) rfl rfl ?_)
              refine XO.nil ?_
              exact ⟨true, rfl, rfl, hB, h⟩
          · intro f2010 w2009 hI
            obtain ⟨x2008, s2011, s2012, hB, h⟩ := hI
            refine X.fr (d := 14) s2011 ?_
            refine X.fr (d := 103) s2012 ?_
            unfold rdata_Take.j7 at h
            by_cases c2013 : x2008 = true
            · rw [if_pos c2013] at h
              refine X.condT (congrArg Value.bool (c2013)) ?_
              refine X.seq fun M2014 hM2015 => ?_
              refine X.region ?_
              refine XO.do rfl (D.asn (v := S []) rfl rfl ?_)
              refine XO.do rfl (D.asn (v := .int .i64 2) rfl rfl ?_)
              refine XO.nil ?_
              refine hM2015 _ _ ?_
              refine X.ret ?_
              injection h with h
              subst h
              exact hR _ _ _ (ret2 (v := S []) (v' := .int .i64 2) rfl rfl rfl) ⟨rfl, ext_of_below hB⟩
            · rw [if_neg c2013] at h
              refine X.condF (congrArg Value.bool ((Bool.eq_false_iff.2 c2013))) ?_
              refine X.skip ?_
              refine hM2000 _ _ ?_
              refine X.seq fun M2016 hM2017 => ?_
              refine X.region ?_
              refine XO.do rfl (D.mv (v := S x1507) rfl rfl ?_)
              refine XO.do rfl (D.asn (v := S x1507) rfl rfl ?_)
              refine XO.do rfl (D.asn (v := .int .i64 0) rfl rfl ?_)
              refine XO.nil ?_
              refine hM2017 _ _ ?_
              refine X.ret ?_
              injection h with h
              subst h
              exact hR _ _ _ (ret2 (v := S x1507) (v' := .int .i64 0) rfl rfl rfl) ⟨rfl, ext_of_below hB⟩
  · rw [if_neg c32] at h
    refine X.condT (congrArg Value.bool ((congrArg (!·) (beq_eq_false_iff_ne.2 c32)))) ?_
    refine X.seq fun M2026 hM2027 => ?_
    refine X.region ?_
    refine XO.do rfl (D.mv (v := .int .i64 r28.2.2) rfl rfl ?_)
    refine XO.do rfl (D.asn (v := S []) rfl rfl ?_)
    refine XO.do rfl (D.asn (v := .int .i64 r28.2.2) rfl rfl ?_)
    refine XO.nil ?_
    refine hM2027 _ _ ?_
    refine X.ret ?_
    injection h with h
    subst h
    exact hR _ _ _ (ret2 (v := S []) (v' := .int .i64 r28.2.2) rfl rfl rfl) ⟨rfl, ext_of_below hB⟩
theorem rdata_Take.ok (a1 : Str) (a2 : Int) (a3 : Int) (a4 : Int)  (w : World)  (hp : rdata_Take.pre a1 a2 a3 a4) :
    Ret Try.prog 46 ([S a1, .int .i64 a2, .int .i64 a3, .int .u16 a4] : List Value).toArray w fun v w' => v = .tuple #[S ((rdata_Take a1 a2 a3 a4).1), .int .i64 ((rdata_Take a1 a2 a3 a4).2)] ∧ Ext w w' := by
  obtain ⟨kf, h⟩ := rdata_Take.eq a1 a2 a3 a4 hp
  exact rdata_Take.walk kf a1 a2 a3 a4  w  _ h
end Go.Proofs.Ytfcaekghpkpjdaa.K

/- Walks, printed by a program of this session. -/
namespace Go.Proofs.Ytfcaekghpkpjdaa.K
open Go Go.RowKit Go.Proofs
set_option linter.unusedVariables false
set_option maxRecDepth 100000
set_option maxHeartbeats 4000000
namespace FE2
theorem cf43 : Callable Try.prog 43 := callable Try.func43 (by kernel_rfl) rfl
theorem cf45 : Callable Try.prog 45 := callable Try.func45 (by kernel_rfl) rfl
theorem cf61 : Callable Try.prog 61 := callable Try.func61 (by kernel_rfl) rfl
theorem ti9 : TI Try.prog 9 (S []) 1 16 := by unfold TI; kernel_rfl
theorem fa78_0 : FA Try.prog 78 0 0 := fa Try.underlying78 rfl ti9 rfl rfl
theorem ti3 : TI Try.prog 3 (.int .i64 0) 1 8 := by unfold TI; kernel_rfl
theorem fa78_1 : FA Try.prog 78 1 1 := fa Try.underlying78 rfl ti3 rfl rfl
theorem ti4 : TI Try.prog 4 (.bool false) 1 1 := by unfold TI; kernel_rfl
theorem fa78_2 : FA Try.prog 78 2 2 := fa Try.underlying78 rfl ti4 rfl rfl
theorem mixed0 : Try.prog.follows .mixedOrders = true := by kernel_rfl
theorem sc3 : Sca Try.prog 3 := sca Try.underlying3 rfl
theorem sc4 : Sca Try.prog 4 := sca Try.underlying4 rfl
theorem sc9 : Sca Try.prog 9 := sca Try.underlying9 rfl
theorem sz3 : ∀ w, (sizeOf 3).run Try.prog w = .ok 1 w := fun w => ti3.size w
theorem sz4 : ∀ w, (sizeOf 4).run Try.prog w = .ok 1 w := fun w => ti4.size w
end FE2
open FE2

theorem record_take_string.walk (a2 : Rd) (b1 : Nat) (w : World) (H3 : Blk w b1 [S a2.s, .int .i64 a2.at_, .bool a2.bad] 78) (res : Str × Rd) (h : record_take_string.f a2 = some res) :
    Ret Try.prog 60 ([pt b1 0, .func (.func 61) #[] #[]] : List Value).toArray w fun v w' => v = S res.1 ∧ Blk w' b1 [S res.2.s, .int .i64 res.2.at_, .bool res.2.bad] 78 ∧ GrM w w' (MB b1) := by
  unfold record_take_string.f at h
  refine enterX Try.func60 rfl Try.ntmps60 rfl (fun R hR => ?_)
  have hB := GrM.refl w (MB b1)
  refine X.seq fun M5 hM6 => ?_
  refine X.region ?_
  refine XO.do rfl (D.asn (v := S []) rfl rfl ?_)
  refine XO.nil ?_
  refine hM6 _ _ ?_
  refine X.seq fun M7 hM8 => ?_
  refine X.tree mixed0 [0, 0, 2, 6, 14, 0, 32, 96, 224, 511, 1023, 2047, 2047, 2047, 4095, 24575, 65535] (.q 0 (.q 1 (.q 2 (.q 3 (.q 4 (.q 5 (.q 6 (.q 7 (.q 8 (.q 9 (.q 10 (.q 11 (.q 12 (.q 13 (.q 14 (.q 15 (.q 16 .nil))))))))))))))))) (fun w' => GrM w w' (MB b1) ∧ Blk w' b1 [S a2.s, .int .i64 a2.at_, .bool a2.bad] 78) (fun w' => GrM w w' (MB b1) ∧ Blk w' b1 [S a2.s, .int .i64 a2.at_, .bool a2.bad] 78) (by decide +kernel) (fun w' hx _ => ⟨gm_ext hB hx, H3.ext hx⟩) (fun a b hC hx => by obtain ⟨hB, H3⟩ := hC; exact ⟨gm_ext hB hx, H3.ext hx⟩) (fun a hC => by obtain ⟨hB, H3⟩ := hC; exact ⟨hB, H3⟩) ?_
  refine QT.do (v := .func (.func 61) #[] #[]) rfl (by decide +kernel) rfl rfl rfl (fun w' hJ => by obtain ⟨hB, H3⟩ := hJ; exact D.mv (v := .func (.func 61) #[] #[]) rfl rfl ⟨rfl, Ext.refl _⟩) ?_
  refine QT.do (v := pt b1 0) rfl (by decide +kernel) rfl rfl rfl (fun w' hJ => by obtain ⟨hB, H3⟩ := hJ; exact D.mv (v := pt b1 0) rfl rfl ⟨rfl, Ext.refl _⟩) ?_
  refine QT.do (v := pt b1 0) rfl (by decide +kernel) rfl rfl rfl (fun w' hJ => by obtain ⟨hB, H3⟩ := hJ; exact D.nilCheck rfl rfl ⟨rfl, Ext.refl _⟩) ?_
  refine QT.do (v := pt b1 0) rfl (by decide +kernel) rfl rfl rfl (fun w' hJ => by obtain ⟨hB, H3⟩ := hJ; exact D.fieldAddr (o' := 0) fa78_0 rfl rfl rfl ⟨rfl, Ext.refl _⟩) ?_
  refine QT.do (v := S a2.s) rfl (by decide +kernel) rfl rfl rfl (fun w' hJ => by obtain ⟨hB, H3⟩ := hJ; exact D.load (j := 0) (v := S a2.s) sc9 H3.cs rfl rfl rfl rfl ⟨rfl, Ext.refl _⟩) ?_
  refine QT.do (v := pt b1 0) rfl (by decide +kernel) rfl rfl rfl (fun w' hJ => by obtain ⟨hB, H3⟩ := hJ; exact D.mv (v := pt b1 0) rfl rfl ⟨rfl, Ext.refl _⟩) ?_
  refine QT.do (v := pt b1 0) rfl (by decide +kernel) rfl rfl rfl (fun w' hJ => by obtain ⟨hB, H3⟩ := hJ; exact D.nilCheck rfl rfl ⟨rfl, Ext.refl _⟩) ?_
  refine QT.do (v := pt b1 1) rfl (by decide +kernel) rfl rfl rfl (fun w' hJ => by obtain ⟨hB, H3⟩ := hJ; exact D.fieldAddr (o' := 1) fa78_1 rfl rfl rfl ⟨rfl, Ext.refl _⟩) ?_
  refine QT.do (v := .int .i64 a2.at_) rfl (by decide +kernel) rfl rfl rfl (fun w' hJ => by obtain ⟨hB, H3⟩ := hJ; exact D.load (j := 1) (v := .int .i64 a2.at_) sc3 H3.cs rfl rfl rfl rfl ⟨rfl, Ext.refl _⟩) ?_
  rcases (Classical.em (wire_Take.pre a2.s a2.at_)).symm with c9 | c9
  · rw [if_neg c9] at h; cases h
  rw [if_pos c9] at h
  obtain ⟨r13, q14, h⟩ := lt_elim h
  refine QT.do (v := .tuple #[S r13.1, .int .i64 r13.2.1, .int .i64 r13.2.2]) rfl (by decide +kernel) rfl rfl rfl (fun w' hJ => by obtain ⟨hB, H3⟩ := hJ; have hc := wire_Take.ok a2.s a2.at_ w' c9; rw [q14] at hc; refine D.callV (cap := []) (vs := [S a2.s, .int .i64 a2.at_]) cf61 hc rfl rfl rfl ?_; rintro _ w2 ⟨rfl, e2⟩; exact ⟨rfl, e2⟩) ?_
  refine QT.do (v := .tuple #[S r13.1, .int .i64 r13.2.1, .int .i64 r13.2.2]) rfl (by decide +kernel) rfl rfl rfl (fun w' hJ => by obtain ⟨hB, H3⟩ := hJ; exact D.mv (v := .tuple #[S r13.1, .int .i64 r13.2.1, .int .i64 r13.2.2]) rfl rfl ⟨rfl, Ext.refl _⟩) ?_
  refine QT.do (v := S r13.1) rfl (by decide +kernel) rfl rfl rfl (fun w' hJ => by obtain ⟨hB, H3⟩ := hJ; exact D.extract (v := S r13.1) rfl rfl rfl ⟨rfl, Ext.refl _⟩) ?_
  refine QT.do (v := .int .i64 r13.2.1) rfl (by decide +kernel) rfl rfl rfl (fun w' hJ => by obtain ⟨hB, H3⟩ := hJ; exact D.extract (v := .int .i64 r13.2.1) rfl rfl rfl ⟨rfl, Ext.refl _⟩) ?_
  refine QT.do (v := .int .i64 r13.2.2) rfl (by decide +kernel) rfl rfl rfl (fun w' hJ => by obtain ⟨hB, H3⟩ := hJ; exact D.extract (v := .int .i64 r13.2.2) rfl rfl rfl ⟨rfl, Ext.refl _⟩) ?_
  refine QT.do (v := S r13.1) rfl (by decide +kernel) rfl rfl rfl (fun w' hJ => by obtain ⟨hB, H3⟩ := hJ; exact D.asn (v := S r13.1) rfl rfl ⟨rfl, Ext.refl _⟩) ?_
  refine QT.do (v := .int .i64 r13.2.1) rfl (by decide +kernel) rfl rfl rfl (fun w' hJ => by obtain ⟨hB, H3⟩ := hJ; exact D.asn (v := .int .i64 r13.2.1) rfl rfl ⟨rfl, Ext.refl _⟩) ?_
  refine QT.do (v := .int .i64 r13.2.2) rfl (by decide +kernel) rfl rfl rfl (fun w' hJ => by obtain ⟨hB, H3⟩ := hJ; exact D.asn (v := .int .i64 r13.2.2) rfl rfl ⟨rfl, Ext.refl _⟩) ?_
  refine QT.nil fun w15 hC => ?_
  obtain ⟨hB, H3⟩ := hC
  refine hM8 _ _ ?_
  refine X.seq fun M16 hM17 => ?_
  refine X.region ?_
  refine XO.do rfl (D.mv (v := pt b1 0) rfl rfl ?_)
  refine XO.do rfl (D.mv (v := .int .i64 r13.2.1) rfl rfl ?_)
  refine XO.do rfl (D.nilCheck rfl rfl ?_)
  refine XO.do rfl (D.fieldAddr (o' := 1) fa78_1 rfl rfl rfl ?_)
  refine XO.do rfl (D.store (v := .int .i64 r13.2.1) (us := [S a2.s, .int .i64 r13.2.1, .bool a2.bad]) sz3 H3 rfl rfl rfl rfl rfl rfl ?_)
  intro w18 H19 e20
  replace hB := gm_blkP hB e20
  clear e20
  refine XO.nil ?_
  refine hM17 _ _ ?_
  refine X.cut (fun f31 w30 => ∃ x28 : Bool, f31 0 = pt b1 0 ∧ f31 5 = S r13.1 ∧ GrM w w30 (MB b1) ∧ Blk w30 b1 [S a2.s, .int .i64 r13.2.1, .bool x28] 78 ∧ record_take_string.j1 r13 a2 x28 = some res) ?_ ?_
  · refine X.region ?_
    refine XO.do rfl (D.mv (v := pt b1 0) rfl rfl ?_)
    refine XO.do rfl (D.mv (v := pt b1 0) rfl rfl ?_)
    refine XO.do rfl (D.nilCheck rfl rfl ?_)
    refine XO.do rfl (D.fieldAddr (o' := 2) fa78_2 rfl rfl rfl ?_)
    refine XO.do rfl (D.load (j := 2) (v := .bool a2.bad) sc4 H19.cs rfl rfl rfl rfl ?_)
    refine XO.do rfl (D.mv (v := .bool a2.bad) rfl rfl ?_)
    by_cases c36 : a2.bad = true
    · rw [if_pos c36] at h
      refine XO.off (wantG0 (j := 5) (b := false) rfl (c36) rfl) rfl rfl ?_
      refine XO.off (wantG0 (j := 5) (b := false) rfl (c36) rfl) rfl rfl ?_
      refine XO.do rfl (D.pick true (v := .bool true) (congrArg Value.bool (c36)) rfl rfl ?_)
      refine XO.do rfl (D.nilCheck rfl rfl ?_)
      refine XO.do rfl (D.fieldAddr (o' := 2) fa78_2 rfl rfl rfl ?_)
      refine XO.do rfl (D.store (v := .bool true) (us := [S a2.s, .int .i64 r13.2.1, .bool true]) sz4 H19 rfl rfl rfl rfl rfl rfl ?_)
      intro w37 H38 e39
      replace hB := gm_blkP hB e39
      clear e39
      refine XO.nil ?_
      exact ⟨true, rfl, rfl, hB, H38, h⟩
    · rw [if_neg c36] at h
      refine XO.do (wantG (j := 5) (b := false) rfl ((Bool.eq_false_iff.2 c36)) rfl) (D.mv (v := .int .i64 r13.2.2) rfl rfl ?_)
      refine XO.do (wantG (j := 5) (b := false) rfl ((Bool.eq_false_iff.2 c36)) rfl) (D.neq rfl rfl rfl ?_)
      refine XO.do rfl (D.pick false (v := .bool (r13.2.2 != 0)) (congrArg Value.bool ((Bool.eq_false_iff.2 c36))) rfl rfl ?_)
      refine XO.do rfl (D.nilCheck rfl rfl ?_)
      refine XO.do rfl (D.fieldAddr (o' := 2) fa78_2 rfl rfl rfl ?_)
      refine XO.do rfl (D.store (v := .bool (r13.2.2 != 0)) (us := [S a2.s, .int .i64 r13.2.1, .bool (r13.2.2 != 0)]) sz4 H19 rfl rfl rfl rfl rfl rfl ?_)
      intro w40 H41 e42
      replace hB := gm_blkP hB e42
      clear e42
      refine XO.nil ?_
      exact ⟨(r13.2.2 != 0), rfl, rfl, hB, H41, h⟩
  · intro f31 w30 hI
    obtain ⟨x28, s32, s33, hB, H29, h⟩ := hI
    refine X.fr (d := 0) s32 ?_
    refine X.fr (d := 5) s33 ?_
    unfold record_take_string.j1 at h
    refine X.seq fun M34 hM35 => ?_
    refine X.region ?_
    refine XO.do rfl (D.mv (v := S r13.1) rfl rfl ?_)
    refine XO.do rfl (D.asn (v := S r13.1) rfl rfl ?_)
    refine XO.nil ?_
    refine hM35 _ _ ?_
    refine X.ret ?_
    injection h with h
    subst h
    exact hR _ _ _ (ret1 (v := S r13.1) rfl rfl) ⟨rfl, H29, hB⟩
theorem record_take_string.ok (a2 : Rd) (b1 : Nat) (w : World) (H3 : Blk w b1 [S a2.s, .int .i64 a2.at_, .bool a2.bad] 78) (hp : record_take_string.pre a2) :
    Ret Try.prog 60 ([pt b1 0, .func (.func 61) #[] #[]] : List Value).toArray w fun v w' => v = S ((record_take_string a2).1) ∧ Blk w' b1 [S ((record_take_string a2).2.s), .int .i64 ((record_take_string a2).2.at_), .bool ((record_take_string a2).2.bad)] 78 ∧ GrM w w' (MB b1) := by
  have h := record_take_string.eq a2 hp
  exact record_take_string.walk  a2 b1 w H3 _ h

theorem record_take_uint16.walk (a2 : Rd) (b1 : Nat) (w : World) (H3 : Blk w b1 [S a2.s, .int .i64 a2.at_, .bool a2.bad] 78) (res : Int × Rd) (h : record_take_uint16.f a2 = some res) :
    Ret Try.prog 44 ([pt b1 0, .func (.func 45) #[] #[]] : List Value).toArray w fun v w' => v = .int .u16 res.1 ∧ Blk w' b1 [S res.2.s, .int .i64 res.2.at_, .bool res.2.bad] 78 ∧ GrM w w' (MB b1) := by
  unfold record_take_uint16.f at h
  refine enterX Try.func44 rfl Try.ntmps44 rfl (fun R hR => ?_)
  have hB := GrM.refl w (MB b1)
  refine X.seq fun M5 hM6 => ?_
  refine X.region ?_
  refine XO.do rfl (D.asn (v := .int .u16 0) rfl rfl ?_)
  refine XO.nil ?_
  refine hM6 _ _ ?_
  refine X.seq fun M7 hM8 => ?_
  refine X.tree mixed0 [0, 0, 2, 6, 14, 0, 32, 96, 224, 511, 1023, 2047, 2047, 2047, 4095, 24575, 65535] (.q 0 (.q 1 (.q 2 (.q 3 (.q 4 (.q 5 (.q 6 (.q 7 (.q 8 (.q 9 (.q 10 (.q 11 (.q 12 (.q 13 (.q 14 (.q 15 (.q 16 .nil))))))))))))))))) (fun w' => GrM w w' (MB b1) ∧ Blk w' b1 [S a2.s, .int .i64 a2.at_, .bool a2.bad] 78) (fun w' => GrM w w' (MB b1) ∧ Blk w' b1 [S a2.s, .int .i64 a2.at_, .bool a2.bad] 78) (by decide +kernel) (fun w' hx _ => ⟨gm_ext hB hx, H3.ext hx⟩) (fun a b hC hx => by obtain ⟨hB, H3⟩ := hC; exact ⟨gm_ext hB hx, H3.ext hx⟩) (fun a hC => by obtain ⟨hB, H3⟩ := hC; exact ⟨hB, H3⟩) ?_
  refine QT.do (v := .func (.func 45) #[] #[]) rfl (by decide +kernel) rfl rfl rfl (fun w' hJ => by obtain ⟨hB, H3⟩ := hJ; exact D.mv (v := .func (.func 45) #[] #[]) rfl rfl ⟨rfl, Ext.refl _⟩) ?_
  refine QT.do (v := pt b1 0) rfl (by decide +kernel) rfl rfl rfl (fun w' hJ => by obtain ⟨hB, H3⟩ := hJ; exact D.mv (v := pt b1 0) rfl rfl ⟨rfl, Ext.refl _⟩) ?_
  refine QT.do (v := pt b1 0) rfl (by decide +kernel) rfl rfl rfl (fun w' hJ => by obtain ⟨hB, H3⟩ := hJ; exact D.nilCheck rfl rfl ⟨rfl, Ext.refl _⟩) ?_
  refine QT.do (v := pt b1 0) rfl (by decide +kernel) rfl rfl rfl (fun w' hJ => by obtain ⟨hB, H3⟩ := hJ; exact D.fieldAddr (o' := 0) fa78_0 rfl rfl rfl ⟨rfl, Ext.refl _⟩) ?_
  refine QT.do (v := S a2.s) rfl (by decide +kernel) rfl rfl rfl (fun w' hJ => by obtain ⟨hB, H3⟩ := hJ; exact D.load (j := 0) (v := S a2.s) sc9 H3.cs rfl rfl rfl rfl ⟨rfl, Ext.refl _⟩) ?_
  refine QT.do (v := pt b1 0) rfl (by decide +kernel) rfl rfl rfl (fun w' hJ => by obtain ⟨hB, H3⟩ := hJ; exact D.mv (v := pt b1 0) rfl rfl ⟨rfl, Ext.refl _⟩) ?_
  refine QT.do (v := pt b1 0) rfl (by decide +kernel) rfl rfl rfl (fun w' hJ => by obtain ⟨hB, H3⟩ := hJ; exact D.nilCheck rfl rfl ⟨rfl, Ext.refl _⟩) ?_
  refine QT.do (v := pt b1 1) rfl (by decide +kernel) rfl rfl rfl (fun w' hJ => by obtain ⟨hB, H3⟩ := hJ; exact D.fieldAddr (o' := 1) fa78_1 rfl rfl rfl ⟨rfl, Ext.refl _⟩) ?_
  refine QT.do (v := .int .i64 a2.at_) rfl (by decide +kernel) rfl rfl rfl (fun w' hJ => by obtain ⟨hB, H3⟩ := hJ; exact D.load (j := 1) (v := .int .i64 a2.at_) sc3 H3.cs rfl rfl rfl rfl ⟨rfl, Ext.refl _⟩) ?_
  rcases (Classical.em (octet_U16.pre a2.s a2.at_)).symm with c9 | c9
  · rw [if_neg c9] at h; cases h
  rw [if_pos c9] at h
  obtain ⟨r13, q14, h⟩ := lt_elim h
  refine QT.do (v := .tuple #[.int .u16 r13.1, .int .i64 r13.2.1, .int .i64 r13.2.2]) rfl (by decide +kernel) rfl rfl rfl (fun w' hJ => by obtain ⟨hB, H3⟩ := hJ; have hc := octet_U16.ok a2.s a2.at_ w' c9; rw [q14] at hc; refine D.callV (cap := []) (vs := [S a2.s, .int .i64 a2.at_]) cf45 hc rfl rfl rfl ?_; rintro _ w2 ⟨rfl, e2⟩; exact ⟨rfl, e2⟩) ?_
  refine QT.do (v := .tuple #[.int .u16 r13.1, .int .i64 r13.2.1, .int .i64 r13.2.2]) rfl (by decide +kernel) rfl rfl rfl (fun w' hJ => by obtain ⟨hB, H3⟩ := hJ; exact D.mv (v := .tuple #[.int .u16 r13.1, .int .i64 r13.2.1, .int .i64 r13.2.2]) rfl rfl ⟨rfl, Ext.refl _⟩) ?_
  refine QT.do (v := .int .u16 r13.1) rfl (by decide +kernel) rfl rfl rfl (fun w' hJ => by obtain ⟨hB, H3⟩ := hJ; exact D.extract (v := .int .u16 r13.1) rfl rfl rfl ⟨rfl, Ext.refl _⟩) ?_
  refine QT.do (v := .int .i64 r13.2.1) rfl (by decide +kernel) rfl rfl rfl (fun w' hJ => by obtain ⟨hB, H3⟩ := hJ; exact D.extract (v := .int .i64 r13.2.1) rfl rfl rfl ⟨rfl, Ext.refl _⟩) ?_
  refine QT.do (v := .int .i64 r13.2.2) rfl (by decide +kernel) rfl rfl rfl (fun w' hJ => by obtain ⟨hB, H3⟩ := hJ; exact D.extract (v := .int .i64 r13.2.2) rfl rfl rfl ⟨rfl, Ext.refl _⟩) ?_
  refine QT.do (v := .int .u16 r13.1) rfl (by decide +kernel) rfl rfl rfl (fun w' hJ => by obtain ⟨hB, H3⟩ := hJ; exact D.asn (v := .int .u16 r13.1) rfl rfl ⟨rfl, Ext.refl _⟩) ?_
  refine QT.do (v := .int .i64 r13.2.1) rfl (by decide +kernel) rfl rfl rfl (fun w' hJ => by obtain ⟨hB, H3⟩ := hJ; exact D.asn (v := .int .i64 r13.2.1) rfl rfl ⟨rfl, Ext.refl _⟩) ?_
  refine QT.do (v := .int .i64 r13.2.2) rfl (by decide +kernel) rfl rfl rfl (fun w' hJ => by obtain ⟨hB, H3⟩ := hJ; exact D.asn (v := .int .i64 r13.2.2) rfl rfl ⟨rfl, Ext.refl _⟩) ?_
  refine QT.nil fun w15 hC => ?_
  obtain ⟨hB, H3⟩ := hC
  refine hM8 _ _ ?_
  refine X.seq fun M16 hM17 => ?_
  refine X.region ?_
  refine XO.do rfl (D.mv (v := pt b1 0) rfl rfl ?_)
  refine XO.do rfl (D.mv (v := .int .i64 r13.2.1) rfl rfl ?_)
  refine XO.do rfl (D.nilCheck rfl rfl ?_)
  refine XO.do rfl (D.fieldAddr (o' := 1) fa78_1 rfl rfl rfl ?_)
  refine XO.do rfl (D.store (v := .int .i64 r13.2.1) (us := [S a2.s, .int .i64 r13.2.1, .bool a2.bad]) sz3 H3 rfl rfl rfl rfl rfl rfl ?_)
  intro w18 H19 e20
  replace hB := gm_blkP hB e20
  clear e20
  refine XO.nil ?_
  refine hM17 _ _ ?_
  refine X.cut (fun f31 w30 => ∃ x28 : Bool, f31 0 = pt b1 0 ∧ f31 5 = .int .u16 r13.1 ∧ GrM w w30 (MB b1) ∧ Blk w30 b1 [S a2.s, .int .i64 r13.2.1, .bool x28] 78 ∧ record_take_uint16.j1 r13 a2 x28 = some res) ?_ ?_
  · refine X.region ?_
    refine XO.do rfl (D.mv (v := pt b1 0) rfl rfl ?_)
    refine XO.do rfl (D.mv (v := pt b1 0) rfl rfl ?_)
    refine XO.do rfl (D.nilCheck rfl rfl ?_)
    refine XO.do rfl (D.fieldAddr (o' := 2) fa78_2 rfl rfl rfl ?_)
    refine XO.do rfl (D.load (j := 2) (v := .bool a2.bad) sc4 H19.cs rfl rfl rfl rfl ?_)
    refine XO.do rfl (D.mv (v := .bool a2.bad) rfl rfl ?_)
    by_cases c36 : a2.bad = true
    · rw [if_pos c36] at h
      refine XO.off (wantG0 (j := 5) (b := false) rfl (c36) rfl) rfl rfl ?_
      refine XO.off (wantG0 (j := 5) (b := false) rfl (c36) rfl) rfl rfl ?_
      refine XO.do rfl (D.pick true (v := .bool true) (congrArg Value.bool (c36)) rfl rfl ?_)
      refine XO.do rfl (D.nilCheck rfl rfl ?_)
      refine XO.do rfl (D.fieldAddr (o' := 2) fa78_2 rfl rfl rfl ?_)
      refine XO.do rfl (D.store (v := .bool true) (us := [S a2.s, .int .i64 r13.2.1, .bool true]) sz4 H19 rfl rfl rfl rfl rfl rfl ?_)
      intro w37 H38 e39
      replace hB := gm_blkP hB e39
      clear e39
      refine XO.nil ?_
      exact ⟨true, rfl, rfl, hB, H38, h⟩
    · rw [if_neg c36] at h
      refine XO.do (wantG (j := 5) (b := false) rfl ((Bool.eq_false_iff.2 c36)) rfl) (D.mv (v := .int .i64 r13.2.2) rfl rfl ?_)
      refine XO.do (wantG (j := 5) (b := false) rfl ((Bool.eq_false_iff.2 c36)) rfl) (D.neq rfl rfl rfl ?_)
      refine XO.do rfl (D.pick false (v := .bool (r13.2.2 != 0)) (congrArg Value.bool ((Bool.eq_false_iff.2 c36))) rfl rfl ?_)
      refine XO.do rfl (D.nilCheck rfl rfl ?_)
      refine XO.do rfl (D.fieldAddr (o' := 2) fa78_2 rfl rfl rfl ?_)
      refine XO.do rfl (D.store (v := .bool (r13.2.2 != 0)) (us := [S a2.s, .int .i64 r13.2.1, .bool (r13.2.2 != 0)]) sz4 H19 rfl rfl rfl rfl rfl rfl ?_)
      intro w40 H41 e42
      replace hB := gm_blkP hB e42
      clear e42
      refine XO.nil ?_
      exact ⟨(r13.2.2 != 0), rfl, rfl, hB, H41, h⟩
  · intro f31 w30 hI
    obtain ⟨x28, s32, s33, hB, H29, h⟩ := hI
    refine X.fr (d := 0) s32 ?_
    refine X.fr (d := 5) s33 ?_
    unfold record_take_uint16.j1 at h
    refine X.seq fun M34 hM35 => ?_
    refine X.region ?_
    refine XO.do rfl (D.mv (v := .int .u16 r13.1) rfl rfl ?_)
    refine XO.do rfl (D.asn (v := .int .u16 r13.1) rfl rfl ?_)
    refine XO.nil ?_
    refine hM35 _ _ ?_
    refine X.ret ?_
    injection h with h
    subst h
    exact hR _ _ _ (ret1 (v := .int .u16 r13.1) rfl rfl) ⟨rfl, H29, hB⟩
theorem record_take_uint16.ok (a2 : Rd) (b1 : Nat) (w : World) (H3 : Blk w b1 [S a2.s, .int .i64 a2.at_, .bool a2.bad] 78) (hp : record_take_uint16.pre a2) :
    Ret Try.prog 44 ([pt b1 0, .func (.func 45) #[] #[]] : List Value).toArray w fun v w' => v = .int .u16 ((record_take_uint16 a2).1) ∧ Blk w' b1 [S ((record_take_uint16 a2).2.s), .int .i64 ((record_take_uint16 a2).2.at_), .bool ((record_take_uint16 a2).2.bad)] 78 ∧ GrM w w' (MB b1) := by
  have h := record_take_uint16.eq a2 hp
  exact record_take_uint16.walk  a2 b1 w H3 _ h

theorem record_take_uint32.walk (a2 : Rd) (b1 : Nat) (w : World) (H3 : Blk w b1 [S a2.s, .int .i64 a2.at_, .bool a2.bad] 78) (res : Int × Rd) (h : record_take_uint32.f a2 = some res) :
    Ret Try.prog 42 ([pt b1 0, .func (.func 43) #[] #[]] : List Value).toArray w fun v w' => v = .int .u32 res.1 ∧ Blk w' b1 [S res.2.s, .int .i64 res.2.at_, .bool res.2.bad] 78 ∧ GrM w w' (MB b1) := by
  unfold record_take_uint32.f at h
  refine enterX Try.func42 rfl Try.ntmps42 rfl (fun R hR => ?_)
  have hB := GrM.refl w (MB b1)
  refine X.seq fun M5 hM6 => ?_
  refine X.region ?_
  refine XO.do rfl (D.asn (v := .int .u32 0) rfl rfl ?_)
  refine XO.nil ?_
  refine hM6 _ _ ?_
  refine X.seq fun M7 hM8 => ?_
  refine X.tree mixed0 [0, 0, 2, 6, 14, 0, 32, 96, 224, 511, 1023, 2047, 2047, 2047, 4095, 24575, 65535] (.q 0 (.q 1 (.q 2 (.q 3 (.q 4 (.q 5 (.q 6 (.q 7 (.q 8 (.q 9 (.q 10 (.q 11 (.q 12 (.q 13 (.q 14 (.q 15 (.q 16 .nil))))))))))))))))) (fun w' => GrM w w' (MB b1) ∧ Blk w' b1 [S a2.s, .int .i64 a2.at_, .bool a2.bad] 78) (fun w' => GrM w w' (MB b1) ∧ Blk w' b1 [S a2.s, .int .i64 a2.at_, .bool a2.bad] 78) (by decide +kernel) (fun w' hx _ => ⟨gm_ext hB hx, H3.ext hx⟩) (fun a b hC hx => by obtain ⟨hB, H3⟩ := hC; exact ⟨gm_ext hB hx, H3.ext hx⟩) (fun a hC => by obtain ⟨hB, H3⟩ := hC; exact ⟨hB, H3⟩) ?_
  refine QT.do (v := .func (.func 43) #[] #[]) rfl (by decide +kernel) rfl rfl rfl (fun w' hJ => by obtain ⟨hB, H3⟩ := hJ; exact D.mv (v := .func (.func 43) #[] #[]) rfl rfl ⟨rfl, Ext.refl _⟩) ?_
  refine QT.do (v := pt b1 0) rfl (by decide +kernel) rfl rfl rfl (fun w' hJ => by obtain ⟨hB, H3⟩ := hJ; exact D.mv (v := pt b1 0) rfl rfl ⟨rfl, Ext.refl _⟩) ?_
  refine QT.do (v := pt b1 0) rfl (by decide +kernel) rfl rfl rfl (fun w' hJ => by obtain ⟨hB, H3⟩ := hJ; exact D.nilCheck rfl rfl ⟨rfl, Ext.refl _⟩) ?_
  refine QT.do (v := pt b1 0) rfl (by decide +kernel) rfl rfl rfl (fun w' hJ => by obtain ⟨hB, H3⟩ := hJ; exact D.fieldAddr (o' := 0) fa78_0 rfl rfl rfl ⟨rfl, Ext.refl _⟩) ?_
  refine QT.do (v := S a2.s) rfl (by decide +kernel) rfl rfl rfl (fun w' hJ => by obtain ⟨hB, H3⟩ := hJ; exact D.load (j := 0) (v := S a2.s) sc9 H3.cs rfl rfl rfl rfl ⟨rfl, Ext.refl _⟩) ?_
  refine QT.do (v := pt b1 0) rfl (by decide +kernel) rfl rfl rfl (fun w' hJ => by obtain ⟨hB, H3⟩ := hJ; exact D.mv (v := pt b1 0) rfl rfl ⟨rfl, Ext.refl _⟩) ?_
  refine QT.do (v := pt b1 0) rfl (by decide +kernel) rfl rfl rfl (fun w' hJ => by obtain ⟨hB, H3⟩ := hJ; exact D.nilCheck rfl rfl ⟨rfl, Ext.refl _⟩) ?_
  refine QT.do (v := pt b1 1) rfl (by decide +kernel) rfl rfl rfl (fun w' hJ => by obtain ⟨hB, H3⟩ := hJ; exact D.fieldAddr (o' := 1) fa78_1 rfl rfl rfl ⟨rfl, Ext.refl _⟩) ?_
  refine QT.do (v := .int .i64 a2.at_) rfl (by decide +kernel) rfl rfl rfl (fun w' hJ => by obtain ⟨hB, H3⟩ := hJ; exact D.load (j := 1) (v := .int .i64 a2.at_) sc3 H3.cs rfl rfl rfl rfl ⟨rfl, Ext.refl _⟩) ?_
  rcases (Classical.em (octet_U32.pre a2.s a2.at_)).symm with c9 | c9
  · rw [if_neg c9] at h; cases h
  rw [if_pos c9] at h
  obtain ⟨r13, q14, h⟩ := lt_elim h
  refine QT.do (v := .tuple #[.int .u32 r13.1, .int .i64 r13.2.1, .int .i64 r13.2.2]) rfl (by decide +kernel) rfl rfl rfl (fun w' hJ => by obtain ⟨hB, H3⟩ := hJ; have hc := octet_U32.ok a2.s a2.at_ w' c9; rw [q14] at hc; refine D.callV (cap := []) (vs := [S a2.s, .int .i64 a2.at_]) cf43 hc rfl rfl rfl ?_; rintro _ w2 ⟨rfl, e2⟩; exact ⟨rfl, e2⟩) ?_
  refine QT.do (v := .tuple #[.int .u32 r13.1, .int .i64 r13.2.1, .int .i64 r13.2.2]) rfl (by decide +kernel) rfl rfl rfl (fun w' hJ => by obtain ⟨hB, H3⟩ := hJ; exact D.mv (v := .tuple #[.int .u32 r13.1, .int .i64 r13.2.1, .int .i64 r13.2.2]) rfl rfl ⟨rfl, Ext.refl _⟩) ?_
  refine QT.do (v := .int .u32 r13.1) rfl (by decide +kernel) rfl rfl rfl (fun w' hJ => by obtain ⟨hB, H3⟩ := hJ; exact D.extract (v := .int .u32 r13.1) rfl rfl rfl ⟨rfl, Ext.refl _⟩) ?_
  refine QT.do (v := .int .i64 r13.2.1) rfl (by decide +kernel) rfl rfl rfl (fun w' hJ => by obtain ⟨hB, H3⟩ := hJ; exact D.extract (v := .int .i64 r13.2.1) rfl rfl rfl ⟨rfl, Ext.refl _⟩) ?_
  refine QT.do (v := .int .i64 r13.2.2) rfl (by decide +kernel) rfl rfl rfl (fun w' hJ => by obtain ⟨hB, H3⟩ := hJ; exact D.extract (v := .int .i64 r13.2.2) rfl rfl rfl ⟨rfl, Ext.refl _⟩) ?_
  refine QT.do (v := .int .u32 r13.1) rfl (by decide +kernel) rfl rfl rfl (fun w' hJ => by obtain ⟨hB, H3⟩ := hJ; exact D.asn (v := .int .u32 r13.1) rfl rfl ⟨rfl, Ext.refl _⟩) ?_
  refine QT.do (v := .int .i64 r13.2.1) rfl (by decide +kernel) rfl rfl rfl (fun w' hJ => by obtain ⟨hB, H3⟩ := hJ; exact D.asn (v := .int .i64 r13.2.1) rfl rfl ⟨rfl, Ext.refl _⟩) ?_
  refine QT.do (v := .int .i64 r13.2.2) rfl (by decide +kernel) rfl rfl rfl (fun w' hJ => by obtain ⟨hB, H3⟩ := hJ; exact D.asn (v := .int .i64 r13.2.2) rfl rfl ⟨rfl, Ext.refl _⟩) ?_
  refine QT.nil fun w15 hC => ?_
  obtain ⟨hB, H3⟩ := hC
  refine hM8 _ _ ?_
  refine X.seq fun M16 hM17 => ?_
  refine X.region ?_
  refine XO.do rfl (D.mv (v := pt b1 0) rfl rfl ?_)
  refine XO.do rfl (D.mv (v := .int .i64 r13.2.1) rfl rfl ?_)
  refine XO.do rfl (D.nilCheck rfl rfl ?_)
  refine XO.do rfl (D.fieldAddr (o' := 1) fa78_1 rfl rfl rfl ?_)
  refine XO.do rfl (D.store (v := .int .i64 r13.2.1) (us := [S a2.s, .int .i64 r13.2.1, .bool a2.bad]) sz3 H3 rfl rfl rfl rfl rfl rfl ?_)
  intro w18 H19 e20
  replace hB := gm_blkP hB e20
  clear e20
  refine XO.nil ?_
  refine hM17 _ _ ?_
  refine X.cut (fun f31 w30 => ∃ x28 : Bool, f31 0 = pt b1 0 ∧ f31 5 = .int .u32 r13.1 ∧ GrM w w30 (MB b1) ∧ Blk w30 b1 [S a2.s, .int .i64 r13.2.1, .bool x28] 78 ∧ record_take_uint32.j1 r13 a2 x28 = some res) ?_ ?_
  · refine X.region ?_
    refine XO.do rfl (D.mv (v := pt b1 0) rfl rfl ?_)
    refine XO.do rfl (D.mv (v := pt b1 0) rfl rfl ?_)
    refine XO.do rfl (D.nilCheck rfl rfl ?_)
    refine XO.do rfl (D.fieldAddr (o' := 2) fa78_2 rfl rfl rfl ?_)
    refine XO.do rfl (D.load (j := 2) (v := .bool a2.bad) sc4 H19.cs rfl rfl rfl rfl ?_)
    refine XO.do rfl (D.mv (v := .bool a2.bad) rfl rfl ?_)
    by_cases c36 : a2.bad = true
    · rw [if_pos c36] at h
      refine XO.off (wantG0 (j := 5) (b := false) rfl (c36) rfl) rfl rfl ?_
      refine XO.off (wantG0 (j := 5) (b := false) rfl (c36) rfl) rfl rfl ?_
      refine XO.do rfl (D.pick true (v := .bool true) (congrArg Value.bool (c36)) rfl rfl ?_)
      refine XO.do rfl (D.nilCheck rfl rfl ?_)
      refine XO.do rfl (D.fieldAddr (o' := 2) fa78_2 rfl rfl rfl ?_)
      refine XO.do rfl (D.store (v := .bool true) (us := [S a2.s, .int .i64 r13.2.1, .bool true]) sz4 H19 rfl rfl rfl rfl rfl rfl ?_)
      intro w37 H38 e39
      replace hB := gm_blkP hB e39
      clear e39
      refine XO.nil ?_
      exact ⟨true, rfl, rfl, hB, H38, h⟩
    · rw [if_neg c36] at h
      refine XO.do (wantG (j := 5) (b := false) rfl ((Bool.eq_false_iff.2 c36)) rfl) (D.mv (v := .int .i64 r13.2.2) rfl rfl ?_)
      refine XO.do (wantG (j := 5) (b := false) rfl ((Bool.eq_false_iff.2 c36)) rfl) (D.neq rfl rfl rfl ?_)
      refine XO.do rfl (D.pick false (v := .bool (r13.2.2 != 0)) (congrArg Value.bool ((Bool.eq_false_iff.2 c36))) rfl rfl ?_)
      refine XO.do rfl (D.nilCheck rfl rfl ?_)
      refine XO.do rfl (D.fieldAddr (o' := 2) fa78_2 rfl rfl rfl ?_)
      refine XO.do rfl (D.store (v := .bool (r13.2.2 != 0)) (us := [S a2.s, .int .i64 r13.2.1, .bool (r13.2.2 != 0)]) sz4 H19 rfl rfl rfl rfl rfl rfl ?_)
      intro w40 H41 e42
      replace hB := gm_blkP hB e42
      clear e42
      refine XO.nil ?_
      exact ⟨(r13.2.2 != 0), rfl, rfl, hB, H41, h⟩
  · intro f31 w30 hI
    obtain ⟨x28, s32, s33, hB, H29, h⟩ := hI
    refine X.fr (d := 0) s32 ?_
    refine X.fr (d := 5) s33 ?_
    unfold record_take_uint32.j1 at h
    refine X.seq fun M34 hM35 => ?_
    refine X.region ?_
    refine XO.do rfl (D.mv (v := .int .u32 r13.1) rfl rfl ?_)
    refine XO.do rfl (D.asn (v := .int .u32 r13.1) rfl rfl ?_)
    refine XO.nil ?_
    refine hM35 _ _ ?_
    refine X.ret ?_
    injection h with h
    subst h
    exact hR _ _ _ (ret1 (v := .int .u32 r13.1) rfl rfl) ⟨rfl, H29, hB⟩
theorem record_take_uint32.ok (a2 : Rd) (b1 : Nat) (w : World) (H3 : Blk w b1 [S a2.s, .int .i64 a2.at_, .bool a2.bad] 78) (hp : record_take_uint32.pre a2) :
    Ret Try.prog 42 ([pt b1 0, .func (.func 43) #[] #[]] : List Value).toArray w fun v w' => v = .int .u32 ((record_take_uint32 a2).1) ∧ Blk w' b1 [S ((record_take_uint32 a2).2.s), .int .i64 ((record_take_uint32 a2).2.at_), .bool ((record_take_uint32 a2).2.bad)] 78 ∧ GrM w w' (MB b1) := by
  have h := record_take_uint32.eq a2 hp
  exact record_take_uint32.walk  a2 b1 w H3 _ h
end Go.Proofs.Ytfcaekghpkpjdaa.K
