/- The row of RecordSame: whatever its arguments are, it returns true, and they read as they did. -/
import Derived.Test.YtfcaekghpkpjdaaProg
import Derived.Test.YtfcaekghpkpjdaaQRecordSamed
/- Walks, printed by a program of this session. -/
namespace Go.Proofs.Ytfcaekghpkpjdaa.K
open Go Go.RowKit Go.Proofs
set_option linter.unusedVariables false
set_option maxRecDepth 100000
set_option maxHeartbeats 4000000
namespace FL1
theorem ti25 : TI Try.prog 25 (.agg #[S [], .int .u16 0, .int .u16 0, .int .u32 0, S []]) 5 40 := by unfold TI; kernel_rfl
theorem ag25 : Agg Try.prog 25 5 := agg Try.underlying25 rfl ti25
theorem ti9 : TI Try.prog 9 (S []) 1 16 := by unfold TI; kernel_rfl
theorem ti22 : TI Try.prog 22 (.int .u16 0) 1 2 := by unfold TI; kernel_rfl
theorem ti23 : TI Try.prog 23 (.int .u32 0) 1 4 := by unfold TI; kernel_rfl
theorem bld25 : BuildIs Try.prog 25 #[(0, 1), (1, 1), (2, 1), (3, 1), (4, 1)] (Value.cells (.agg #[S [], .int .u16 0, .int .u16 0, .int .u32 0, S []])) := buildIs Try.underlying25 ti25 (fun w => by simp [ti22.size, ti23.size, ti9.size])
theorem cf12 : Callable Try.prog 12 := callable Try.func12 (by kernel_rfl) rfl
theorem cf15 : Callable Try.prog 15 := callable Try.func15 (by kernel_rfl) rfl
theorem cf17 : Callable Try.prog 17 := callable Try.func17 (by kernel_rfl) rfl
theorem cf18 : Callable Try.prog 18 := callable Try.func18 (by kernel_rfl) rfl
theorem cf26 : Callable Try.prog 26 := callable Try.func26 (by kernel_rfl) rfl
theorem fa25_0 : FA Try.prog 25 0 0 := fa Try.underlying25 rfl ti9 rfl rfl
theorem fa25_4 : FA Try.prog 25 4 4 := fa Try.underlying25 rfl ti9 rfl rfl
theorem sc9 : Sca Try.prog 9 := sca Try.underlying9 rfl
theorem sz25 : ∀ w, (sizeOf 25).run Try.prog w = .ok 5 w := fun w => ti25.size w
end FL1
open FL1

theorem derricklaw05_shown.walk   (w : World)  (res : Bool) (h : derricklaw05_shown.f  = some res) :
    Ret Try.prog 7 ([] : List Value).toArray w fun v w' => v = .bool res ∧ Ext w w' := by
  unfold derricklaw05_shown.f at h
  refine enterX Try.func7 rfl Try.ntmps7 rfl (fun R hR => ?_)
  have hB := Below.refl w.heap.size w
  refine X.seq fun M1 hM2 => ?_
  refine X.region ?_
  refine XO.do rfl (D.asn (v := .bool false) rfl rfl ?_)
  refine XO.nil ?_
  refine hM2 _ _ ?_
  refine X.seq fun M3 hM4 => ?_
  refine X.region ?_
  refine XO.do rfl (D.build (vs := [(0, S [2, 97, 98, 0]), (1, .int .u16 1), (2, .int .u16 1), (3, .int .u32 5), (4, S [1, 2, 3, 4])]) (cs := [S [2, 97, 98, 0], .int .u16 1, .int .u16 1, .int .u32 5, S [1, 2, 3, 4]]) bld25 rfl rfl rfl ?_)
  refine XO.do rfl (D.alloc ti25 (cs := [S [], .int .u16 0, .int .u16 0, .int .u32 0, S []]) rfl rfl ?_)
  intro b5 w6 hb7 H8 e9 _
  have g10 : w.heap.size ≤ b5 := Nat.le_trans hB.size (Nat.le_of_eq hb7.symm)
  clear hb7
  replace hB := below_ext hB e9
  clear e9
  refine XO.do rfl (D.store (v := .agg #[S [2, 97, 98, 0], .int .u16 1, .int .u16 1, .int .u32 5, S [1, 2, 3, 4]]) (us := [S [2, 97, 98, 0], .int .u16 1, .int .u16 1, .int .u32 5, S [1, 2, 3, 4]]) sz25 H8 rfl rfl rfl rfl rfl rfl ?_)
  intro w11 H12 e13
  replace hB := below_blk hB e13 g10
  clear e13
  refine XO.nil ?_
  refine hM4 _ _ ?_
  refine X.seq fun M14 hM15 => ?_
  refine X.region ?_
  obtain ⟨r19, q20, h⟩ := lt_elim h
  have hc18 := wire_New.ok w11 
  rw [q20] at hc18
  clear q20
  refine XO.do rfl (D.call (vs := []) cf12 hc18 rfl rfl ?_)
  rintro _ w16 ⟨M21, b22, rfl, H23, g24, e17⟩
  clear hc18
  have lt_10_25 : ∀ x, MB b5 x → x < w11.heap.size := (MB.lt H12 (Nat.le_refl _))
  have z25 : ∀ y, M21 y → w.heap.size ≤ y := fun y hy => Nat.le_trans hB.size (g24 y hy)
  have bs25 : w11.heap.size ≤ w16.heap.size := World.grownBy.size e17
  replace hB := below_ext hB e17
  replace H12 := H12.ext e17
  clear e17
  refine XO.do rfl (D.asn (v := pt b22 0) rfl rfl ?_)
  refine XO.nil ?_
  refine hM15 _ _ ?_
  refine X.seq fun M27 hM28 => ?_
  refine X.region ?_
  refine XO.do rfl (D.mv (v := pt b22 0) rfl rfl ?_)
  refine XO.do rfl (D.loadA (j := 0) (us := [S [2, 97, 98, 0], .int .u16 1, .int .u16 1, .int .u32 5, S [1, 2, 3, 4]]) ag25 H12.cs rfl rfl rfl rfl rfl ?_)
  rcases (Classical.em (record_Put.pre r19 (⟨[2, 97, 98, 0], 1, 1, 5, [1, 2, 3, 4]⟩ : RR))).symm with c29 | c29
  · rw [if_neg c29] at h; cases h
  rw [if_pos c29] at h
  obtain ⟨r33, q34, h⟩ := lt_elim h
  have hc32 := record_Put.ok r19 (⟨[2, 97, 98, 0], 1, 1, 5, [1, 2, 3, 4]⟩ : RR) M21 b22 w16 H23 c29 
  rw [q34] at hc32
  clear q34
  refine XO.do rfl (D.call (vs := [pt b22 0, .agg #[S [2, 97, 98, 0], .int .u16 1, .int .u16 1, .int .u32 5, S [1, 2, 3, 4]]]) cf15 hc32 rfl rfl ?_)
  rintro _ w35 ⟨M38, rfl, H36, u39, e37⟩
  clear hc32
  have g24n := ge_sub u39 g24 bs25
  have v26n := ge_sub u39 z25 hB.size
  replace hB := below_gm hB e37 z25
  replace H12 := H12.gm e37 (sepM (ne_of lt_10_25 g24))
  replace g24 := g24n
  replace bs25 := Nat.le_trans bs25 e37.size
  clear e37 u39 H23
  have v40 := v26n
  clear v26n
  refine XO.do rfl (D.asn (v := .int .i64 r33.1) rfl rfl ?_)
  refine XO.nil ?_
  refine hM28 _ _ ?_
  refine X.seq fun M42 hM43 => ?_
  refine X.region ?_
  refine XO.do rfl (D.mv (v := pt b22 0) rfl rfl ?_)
  obtain ⟨r47, q48, h⟩ := lt_elim h
  have hc46 := wire_Pack_Out.ok r33.2 M38 b22 w35 H36 
  rw [q48] at hc46
  clear q48
  refine XO.do rfl (D.call (vs := [pt b22 0]) cf17 hc46 rfl rfl ?_)
  rintro _ w44 ⟨rfl, e45⟩
  clear hc46
  replace hB := below_ext hB e45
  replace H12 := H12.ext e45
  replace H36 := H36.ext e45
  replace bs25 := Nat.le_trans bs25 (World.grownBy.size e45)
  clear e45
  rcases (Classical.em (record_Take.pre r47 0)).symm with c49 | c49
  · rw [if_neg c49] at h; cases h
  rw [if_pos c49] at h
  obtain ⟨r53, q54, h⟩ := lt_elim h
  have hc52 := record_Take.ok r47 0 w44 c49 
  rw [q54] at hc52
  clear q54
  refine XO.do rfl (D.call (vs := [S r47, .int .i64 0]) cf18 hc52 rfl rfl ?_)
  rintro _ w50 ⟨rfl, e51⟩
  clear hc52
  replace hB := below_ext hB e51
  replace H12 := H12.ext e51
  replace H36 := H36.ext e51
  replace bs25 := Nat.le_trans bs25 (World.grownBy.size e51)
  clear e51
  refine XO.do rfl (D.mv (v := .tuple #[.agg #[S r53.1.name, .int .u16 r53.1.ty, .int .u16 r53.1.cls, .int .u32 r53.1.ttl, S r53.1.data], .int .i64 r53.2.1, .int .i64 r53.2.2]) rfl rfl ?_)
  refine XO.do rfl (D.extract (v := .agg #[S r53.1.name, .int .u16 r53.1.ty, .int .u16 r53.1.cls, .int .u32 r53.1.ttl, S r53.1.data]) rfl rfl rfl ?_)
  refine XO.do rfl (D.extract (v := .int .i64 r53.2.1) rfl rfl rfl ?_)
  refine XO.do rfl (D.extract (v := .int .i64 r53.2.2) rfl rfl rfl ?_)
  refine XO.do rfl (D.alloc ti25 (cs := [S [], .int .u16 0, .int .u16 0, .int .u32 0, S []]) rfl rfl ?_)
  intro b55 w56 hb57 H58 e59 _
  have lt_10_60 : ∀ x, MB b5 x → x < b55 := (MB.lt H12 (Nat.le_of_eq hb57.symm))
  have ne_25_60 : ∀ x y, M38 x → MB b55 y → x ≠ y := ne_of (lt_le H36.lt (Nat.le_of_eq hb57.symm)) (MB.ge b55)
  have g60 : w.heap.size ≤ b55 := Nat.le_trans hB.size (Nat.le_of_eq hb57.symm)
  clear hb57
  replace hB := below_ext hB e59
  replace H12 := H12.ext e59
  replace H36 := H36.ext e59
  replace bs25 := Nat.le_trans bs25 (World.grownBy.size e59)
  clear e59
  refine XO.do rfl (D.store (v := .agg #[S r53.1.name, .int .u16 r53.1.ty, .int .u16 r53.1.cls, .int .u32 r53.1.ttl, S r53.1.data]) (us := [S r53.1.name, .int .u16 r53.1.ty, .int .u16 r53.1.cls, .int .u32 r53.1.ttl, S r53.1.data]) sz25 H58 rfl rfl rfl rfl rfl rfl ?_)
  intro w61 H62 e63
  replace hB := below_blk hB e63 g60
  replace H12 := H12.gr e63 (sepB (ne_of lt_10_60 (MB.ge b55)))
  replace H36 := H36.gr e63 (sepB ne_25_60)
  replace bs25 := Nat.le_trans bs25 (World.grownBy.size e63)
  clear e63
  refine XO.do rfl (D.asn (v := .int .i64 r53.2.1) rfl rfl ?_)
  refine XO.do rfl (D.asn (v := .int .i64 r53.2.2) rfl rfl ?_)
  refine XO.nil ?_
  refine hM43 _ _ ?_
  refine X.seq fun M64 hM65 => ?_
  refine X.region ?_
  refine XO.do rfl (D.mv (v := .int .i64 r33.1) rfl rfl ?_)
  refine XO.do rfl (D.eql rfl rfl rfl ?_)
  refine XO.do rfl (D.mv (v := .bool (r33.1 == 0)) rfl rfl ?_)
  by_cases c66 : r33.1 = 0
  · rw [if_pos c66] at h
    refine XO.do (wantG (j := 2) (b := true) rfl (beq_iff_eq.2 c66) rfl) (D.mv (v := pt b22 0) rfl rfl ?_)
    obtain ⟨r70, q71, h⟩ := lt_elim h
    have hc69 := wire_Pack_Out.ok r33.2 M38 b22 w61 H36 
    rw [q71] at hc69
    clear q71
    refine XO.do (wantG (j := 2) (b := true) rfl (beq_iff_eq.2 c66) rfl) (D.call (vs := [pt b22 0]) cf17 hc69 rfl rfl ?_)
    rintro _ w67 ⟨rfl, e68⟩
    clear hc69
    replace hB := below_ext hB e68
    replace H12 := H12.ext e68
    replace H36 := H36.ext e68
    replace bs25 := Nat.le_trans bs25 (World.grownBy.size e68)
    replace H62 := H62.ext e68
    clear e68
    refine XO.do (wantG (j := 2) (b := true) rfl (beq_iff_eq.2 c66) rfl) (D.eqlS rfl rfl rfl ?_)
    refine XO.do rfl (D.pick true (v := .bool (r70 == ([2, 97, 98, 0, 0, 1, 0, 1, 0, 0, 0, 5, 0, 4, 1, 2, 3, 4] : Str))) (congrArg Value.bool (beq_iff_eq.2 c66)) rfl rfl ?_)
    refine XO.do rfl (D.mv (v := .bool (r70 == ([2, 97, 98, 0, 0, 1, 0, 1, 0, 0, 0, 5, 0, 4, 1, 2, 3, 4] : Str))) rfl rfl ?_)
    by_cases c72 : r70 = ([2, 97, 98, 0, 0, 1, 0, 1, 0, 0, 0, 5, 0, 4, 1, 2, 3, 4] : Str)
    · rw [if_pos c72] at h
      refine XO.do (wantG (j := 7) (b := true) rfl (beq_iff_eq.2 c72) rfl) (D.loadA (j := 0) (us := [S r53.1.name, .int .u16 r53.1.ty, .int .u16 r53.1.cls, .int .u32 r53.1.ttl, S r53.1.data]) ag25 H62.cs rfl rfl rfl rfl rfl ?_)
      refine XO.do (wantG (j := 7) (b := true) rfl (beq_iff_eq.2 c72) rfl) (D.loadA (j := 0) (us := [S [2, 97, 98, 0], .int .u16 1, .int .u16 1, .int .u32 5, S [1, 2, 3, 4]]) ag25 H12.cs rfl rfl rfl rfl rfl ?_)
      refine XO.do (wantG (j := 7) (b := true) rfl (beq_iff_eq.2 c72) rfl) (D.eqSt (eqRR r53.1 (⟨[2, 97, 98, 0], 1, 1, 5, [1, 2, 3, 4]⟩ : RR)) rfl rfl rfl ?_)
      refine XO.do rfl (D.pick true (v := .bool (decide (r53.1 = (⟨[2, 97, 98, 0], 1, 1, 5, [1, 2, 3, 4]⟩ : RR)))) (congrArg Value.bool (beq_iff_eq.2 c72)) rfl rfl ?_)
      refine XO.do rfl (D.mv (v := .bool (decide (r53.1 = (⟨[2, 97, 98, 0], 1, 1, 5, [1, 2, 3, 4]⟩ : RR)))) rfl rfl ?_)
      by_cases c73 : r53.1 = (⟨[2, 97, 98, 0], 1, 1, 5, [1, 2, 3, 4]⟩ : RR)
      · rw [if_pos c73] at h
        refine XO.do (wantG (j := 12) (b := true) rfl (decide_eq_true c73) rfl) (D.mv (v := .int .i64 r53.2.1) rfl rfl ?_)
        refine XO.do (wantG (j := 12) (b := true) rfl (decide_eq_true c73) rfl) (D.mv (v := pt b22 0) rfl rfl ?_)
        obtain ⟨r77, q78, h⟩ := lt_elim h
        have hc76 := wire_Pack_Len.ok r33.2 M38 b22 w67 H36 
        rw [q78] at hc76
        clear q78
        refine XO.do (wantG (j := 12) (b := true) rfl (decide_eq_true c73) rfl) (D.call (vs := [pt b22 0]) cf26 hc76 rfl rfl ?_)
        rintro _ w74 ⟨rfl, e75⟩
        clear hc76
        replace hB := below_ext hB e75
        replace H12 := H12.ext e75
        replace H36 := H36.ext e75
        replace bs25 := Nat.le_trans bs25 (World.grownBy.size e75)
        replace H62 := H62.ext e75
        clear e75
        refine XO.do (wantG (j := 12) (b := true) rfl (decide_eq_true c73) rfl) (D.eql rfl rfl rfl ?_)
        refine XO.do rfl (D.pick true (v := .bool (r53.2.1 == r77)) (congrArg Value.bool (decide_eq_true c73)) rfl rfl ?_)
        refine XO.do rfl (D.mv (v := .bool (r53.2.1 == r77)) rfl rfl ?_)
        by_cases c79 : r53.2.1 = r77
        · rw [if_pos c79] at h
          refine XO.do (wantG (j := 18) (b := true) rfl (beq_iff_eq.2 c79) rfl) (D.mv (v := .int .i64 r53.2.2) rfl rfl ?_)
          refine XO.do (wantG (j := 18) (b := true) rfl (beq_iff_eq.2 c79) rfl) (D.eql rfl rfl rfl ?_)
          refine XO.do rfl (D.pick true (v := .bool (r53.2.2 == 0)) (congrArg Value.bool (beq_iff_eq.2 c79)) rfl rfl ?_)
          refine XO.do rfl (D.asn (v := .bool (r53.2.2 == 0)) rfl rfl ?_)
          refine XO.nil ?_
          refine hM65 _ _ ?_
          refine X.ret ?_
          injection h with h
          subst h
          exact hR _ _ _ (ret1 (v := .bool (r53.2.2 == 0)) rfl rfl) ⟨rfl, ext_of_below hB⟩
        · rw [if_neg c79] at h
          refine XO.off (wantG0 (j := 18) (b := true) rfl (beq_eq_false_iff_ne.2 c79) rfl) rfl rfl ?_
          refine XO.off (wantG0 (j := 18) (b := true) rfl (beq_eq_false_iff_ne.2 c79) rfl) rfl rfl ?_
          refine XO.do rfl (D.pick false (v := .bool false) (congrArg Value.bool (beq_eq_false_iff_ne.2 c79)) rfl rfl ?_)
          refine XO.do rfl (D.asn (v := .bool false) rfl rfl ?_)
          refine XO.nil ?_
          refine hM65 _ _ ?_
          refine X.ret ?_
          injection h with h
          subst h
          exact hR _ _ _ (ret1 (v := .bool false) rfl rfl) ⟨rfl, ext_of_below hB⟩
      · rw [if_neg c73] at h
        refine XO.off (wantG0 (j := 12) (b := true) rfl (decide_eq_false c73) rfl) rfl rfl ?_
        refine XO.off (wantG0 (j := 12) (b := true) rfl (decide_eq_false c73) rfl) rfl rfl ?_
        refine XO.off (wantG0 (j := 12) (b := true) rfl (decide_eq_false c73) rfl) rfl rfl ?_
        refine XO.off (wantG0 (j := 12) (b := true) rfl (decide_eq_false c73) rfl) rfl rfl ?_
        refine XO.do rfl (D.pick false (v := .bool false) (congrArg Value.bool (decide_eq_false c73)) rfl rfl ?_)
        refine XO.do rfl (D.mv (v := .bool false) rfl rfl ?_)
        refine XO.off (wantG0 (j := 18) (b := true) rfl (rfl) rfl) rfl rfl ?_
        refine XO.off (wantG0 (j := 18) (b := true) rfl (rfl) rfl) rfl rfl ?_
        refine XO.do rfl (D.pick false (v := .bool false) (congrArg Value.bool (rfl)) rfl rfl ?_)
        refine XO.do rfl (D.asn (v := .bool false) rfl rfl ?_)
        refine XO.nil ?_
        refine hM65 _ _ ?_
        refine X.ret ?_
        injection h with h
        subst h
        exact hR _ _ _ (ret1 (v := .bool false) rfl rfl) ⟨rfl, ext_of_below hB⟩
    · rw [if_neg c72] at h
      refine XO.off (wantG0 (j := 7) (b := true) rfl (beq_eq_false_iff_ne.2 c72) rfl) rfl rfl ?_
      refine XO.off (wantG0 (j := 7) (b := true) rfl (beq_eq_false_iff_ne.2 c72) rfl) rfl rfl ?_
      refine XO.off (wantG0 (j := 7) (b := true) rfl (beq_eq_false_iff_ne.2 c72) rfl) rfl rfl ?_
      refine XO.do rfl (D.pick false (v := .bool false) (congrArg Value.bool (beq_eq_false_iff_ne.2 c72)) rfl rfl ?_)
      refine XO.do rfl (D.mv (v := .bool false) rfl rfl ?_)
      refine XO.off (wantG0 (j := 12) (b := true) rfl (rfl) rfl) rfl rfl ?_
      refine XO.off (wantG0 (j := 12) (b := true) rfl (rfl) rfl) rfl rfl ?_
      refine XO.off (wantG0 (j := 12) (b := true) rfl (rfl) rfl) rfl rfl ?_
      refine XO.off (wantG0 (j := 12) (b := true) rfl (rfl) rfl) rfl rfl ?_
      refine XO.do rfl (D.pick false (v := .bool false) (congrArg Value.bool (rfl)) rfl rfl ?_)
      refine XO.do rfl (D.mv (v := .bool false) rfl rfl ?_)
      refine XO.off (wantG0 (j := 18) (b := true) rfl (rfl) rfl) rfl rfl ?_
      refine XO.off (wantG0 (j := 18) (b := true) rfl (rfl) rfl) rfl rfl ?_
      refine XO.do rfl (D.pick false (v := .bool false) (congrArg Value.bool (rfl)) rfl rfl ?_)
      refine XO.do rfl (D.asn (v := .bool false) rfl rfl ?_)
      refine XO.nil ?_
      refine hM65 _ _ ?_
      refine X.ret ?_
      injection h with h
      subst h
      exact hR _ _ _ (ret1 (v := .bool false) rfl rfl) ⟨rfl, ext_of_below hB⟩
  · rw [if_neg c66] at h
    refine XO.off (wantG0 (j := 2) (b := true) rfl (beq_eq_false_iff_ne.2 c66) rfl) rfl rfl ?_
    refine XO.off (wantG0 (j := 2) (b := true) rfl (beq_eq_false_iff_ne.2 c66) rfl) rfl rfl ?_
    refine XO.off (wantG0 (j := 2) (b := true) rfl (beq_eq_false_iff_ne.2 c66) rfl) rfl rfl ?_
    refine XO.do rfl (D.pick false (v := .bool false) (congrArg Value.bool (beq_eq_false_iff_ne.2 c66)) rfl rfl ?_)
    refine XO.do rfl (D.mv (v := .bool false) rfl rfl ?_)
    refine XO.off (wantG0 (j := 7) (b := true) rfl (rfl) rfl) rfl rfl ?_
    refine XO.off (wantG0 (j := 7) (b := true) rfl (rfl) rfl) rfl rfl ?_
    refine XO.off (wantG0 (j := 7) (b := true) rfl (rfl) rfl) rfl rfl ?_
    refine XO.do rfl (D.pick false (v := .bool false) (congrArg Value.bool (rfl)) rfl rfl ?_)
    refine XO.do rfl (D.mv (v := .bool false) rfl rfl ?_)
    refine XO.off (wantG0 (j := 12) (b := true) rfl (rfl) rfl) rfl rfl ?_
    refine XO.off (wantG0 (j := 12) (b := true) rfl (rfl) rfl) rfl rfl ?_
    refine XO.off (wantG0 (j := 12) (b := true) rfl (rfl) rfl) rfl rfl ?_
    refine XO.off (wantG0 (j := 12) (b := true) rfl (rfl) rfl) rfl rfl ?_
    refine XO.do rfl (D.pick false (v := .bool false) (congrArg Value.bool (rfl)) rfl rfl ?_)
    refine XO.do rfl (D.mv (v := .bool false) rfl rfl ?_)
    refine XO.off (wantG0 (j := 18) (b := true) rfl (rfl) rfl) rfl rfl ?_
    refine XO.off (wantG0 (j := 18) (b := true) rfl (rfl) rfl) rfl rfl ?_
    refine XO.do rfl (D.pick false (v := .bool false) (congrArg Value.bool (rfl)) rfl rfl ?_)
    refine XO.do rfl (D.asn (v := .bool false) rfl rfl ?_)
    refine XO.nil ?_
    refine hM65 _ _ ?_
    refine X.ret ?_
    injection h with h
    subst h
    exact hR _ _ _ (ret1 (v := .bool false) rfl rfl) ⟨rfl, ext_of_below hB⟩
theorem derricklaw05_shown.ok   (w : World)  (hp : derricklaw05_shown.pre ) :
    Ret Try.prog 7 ([] : List Value).toArray w fun v w' => v = .bool (derricklaw05_shown ) ∧ Ext w w' := by
  have h := derricklaw05_shown.eq  hp
  exact derricklaw05_shown.walk    w  _ h

theorem derricklaw05_few.walk (a1 : RR)  (w : World)  (res : Bool) (h : derricklaw05_few a1 = res) :
    Ret Try.prog 8 ([.agg #[S a1.name, .int .u16 a1.ty, .int .u16 a1.cls, .int .u32 a1.ttl, S a1.data]] : List Value).toArray w fun v w' => v = .bool res ∧ Ext w w' := by
  unfold derricklaw05_few at h
  refine enterX Try.func8 rfl Try.ntmps8 rfl (fun R hR => ?_)
  have hB := Below.refl w.heap.size w
  refine X.seq fun M2 hM3 => ?_
  refine X.region ?_
  refine XO.do rfl (D.box (v := .agg #[S a1.name, .int .u16 a1.ty, .int .u16 a1.cls, .int .u32 a1.ttl, S a1.data]) (cs := [S a1.name, .int .u16 a1.ty, .int .u16 a1.cls, .int .u32 a1.ttl, S a1.data]) rfl rfl rfl ?_)
  intro b4 w5 hb6 H7 e8 _
  have g9 : w.heap.size ≤ b4 := Nat.le_trans hB.size (Nat.le_of_eq hb6.symm)
  clear hb6
  replace hB := below_ext hB e8
  clear e8
  refine XO.do rfl (D.asn (v := .bool false) rfl rfl ?_)
  refine XO.nil ?_
  refine hM3 _ _ ?_
  refine X.seq fun M10 hM11 => ?_
  refine X.region ?_
  refine XO.do rfl (D.fieldAddr (o' := 0) fa25_0 rfl rfl rfl ?_)
  refine XO.do rfl (D.load (j := 0) (v := S a1.name) sc9 H7.cs rfl rfl rfl rfl ?_)
  refine XO.do rfl (D.lenS Try.underlying9 rfl rfl ?_)
  refine XO.do rfl (D.leq rfl rfl rfl ?_)
  refine XO.do rfl (D.mv (v := .bool (decide ((a1.name.length : Int) ≤ 700))) rfl rfl ?_)
  by_cases c12 : (a1.name.length : Int) ≤ 700
  · rw [if_pos c12] at h
    refine XO.do (wantG (j := 4) (b := true) rfl (decide_eq_true c12) rfl) (D.fieldAddr (o' := 4) fa25_4 rfl rfl rfl ?_)
    refine XO.do (wantG (j := 4) (b := true) rfl (decide_eq_true c12) rfl) (D.load (j := 4) (v := S a1.data) sc9 H7.cs rfl rfl rfl rfl ?_)
    refine XO.do (wantG (j := 4) (b := true) rfl (decide_eq_true c12) rfl) (D.lenS Try.underlying9 rfl rfl ?_)
    refine XO.do (wantG (j := 4) (b := true) rfl (decide_eq_true c12) rfl) (D.leq rfl rfl rfl ?_)
    refine XO.do rfl (D.pick true (v := .bool (decide ((a1.data.length : Int) ≤ 700))) (congrArg Value.bool (decide_eq_true c12)) rfl rfl ?_)
    refine XO.do rfl (D.asn (v := .bool (decide ((a1.data.length : Int) ≤ 700))) rfl rfl ?_)
    refine XO.nil ?_
    refine hM11 _ _ ?_
    refine X.ret ?_
    subst h
    exact hR _ _ _ (ret1 (v := .bool (decide ((a1.data.length : Int) ≤ 700))) rfl rfl) ⟨rfl, ext_of_below hB⟩
  · rw [if_neg c12] at h
    refine XO.off (wantG0 (j := 4) (b := true) rfl (decide_eq_false c12) rfl) rfl rfl ?_
    refine XO.off (wantG0 (j := 4) (b := true) rfl (decide_eq_false c12) rfl) rfl rfl ?_
    refine XO.off (wantG0 (j := 4) (b := true) rfl (decide_eq_false c12) rfl) rfl rfl ?_
    refine XO.off (wantG0 (j := 4) (b := true) rfl (decide_eq_false c12) rfl) rfl rfl ?_
    refine XO.do rfl (D.pick false (v := .bool false) (congrArg Value.bool (decide_eq_false c12)) rfl rfl ?_)
    refine XO.do rfl (D.asn (v := .bool false) rfl rfl ?_)
    refine XO.nil ?_
    refine hM11 _ _ ?_
    refine X.ret ?_
    subst h
    exact hR _ _ _ (ret1 (v := .bool false) rfl rfl) ⟨rfl, ext_of_below hB⟩
theorem derricklaw05_few.ok (a1 : RR)  (w : World)  :
    Ret Try.prog 8 ([.agg #[S a1.name, .int .u16 a1.ty, .int .u16 a1.cls, .int .u32 a1.ttl, S a1.data]] : List Value).toArray w fun v w' => v = .bool (derricklaw05_few a1) ∧ Ext w w' := derricklaw05_few.walk a1  w  _ rfl
end Go.Proofs.Ytfcaekghpkpjdaa.K

/- Walks, printed by a program of this session. -/
namespace Go.Proofs.Ytfcaekghpkpjdaa.K
open Go Go.RowKit Go.Proofs
set_option linter.unusedVariables false
set_option maxRecDepth 100000
set_option maxHeartbeats 4000000
namespace FL2
theorem ti25 : TI Try.prog 25 (.agg #[S [], .int .u16 0, .int .u16 0, .int .u32 0, S []]) 5 40 := by unfold TI; kernel_rfl
theorem ag25 : Agg Try.prog 25 5 := agg Try.underlying25 rfl ti25
theorem cf10 : Callable Try.prog 10 := callable Try.func10 (by kernel_rfl) rfl
theorem cf11 : Callable Try.prog 11 := callable Try.func11 (by kernel_rfl) rfl
theorem cf7 : Callable Try.prog 7 := callable Try.func7 (by kernel_rfl) rfl
theorem cf8 : Callable Try.prog 8 := callable Try.func8 (by kernel_rfl) rfl
theorem cf9 : Callable Try.prog 9 := callable Try.func9 (by kernel_rfl) rfl
theorem ti23 : TI Try.prog 23 (.int .u32 0) 1 4 := by unfold TI; kernel_rfl
theorem fa25_3 : FA Try.prog 25 3 3 := fa Try.underlying25 rfl ti23 rfl rfl
theorem ti9 : TI Try.prog 9 (S []) 1 16 := by unfold TI; kernel_rfl
theorem fa25_4 : FA Try.prog 25 4 4 := fa Try.underlying25 rfl ti9 rfl rfl
theorem mixed0 : Try.prog.follows .mixedOrders = true := by kernel_rfl
theorem sc9 : Sca Try.prog 9 := sca Try.underlying9 rfl
theorem sz23 : ∀ w, (sizeOf 23).run Try.prog w = .ok 1 w := fun w => ti23.size w
theorem sz25 : ∀ w, (sizeOf 25).run Try.prog w = .ok 5 w := fun w => ti25.size w
theorem sz9 : ∀ w, (sizeOf 9).run Try.prog w = .ok 1 w := fun w => ti9.size w
end FL2
open FL2

theorem derricklaw05_RecordSame.walk (a1 : RR) (a2 : RR) (a3 : Int)  (w : World)  (res : Bool) (h : derricklaw05_RecordSame.f a1 a2 a3 = some res) :
    Ret Try.prog 3 ([.agg #[S a1.name, .int .u16 a1.ty, .int .u16 a1.cls, .int .u32 a1.ttl, S a1.data], .agg #[S a2.name, .int .u16 a2.ty, .int .u16 a2.cls, .int .u32 a2.ttl, S a2.data], .int .u32 a3] : List Value).toArray w fun v w' => v = .bool res ∧ Ext w w' := by
  unfold derricklaw05_RecordSame.f at h
  refine enterX Try.func3 rfl Try.ntmps3 rfl (fun R hR => ?_)
  have hB := Below.refl w.heap.size w
  refine X.seq fun M4 hM5 => ?_
  refine X.region ?_
  refine XO.do rfl (D.box (v := .agg #[S a1.name, .int .u16 a1.ty, .int .u16 a1.cls, .int .u32 a1.ttl, S a1.data]) (cs := [S a1.name, .int .u16 a1.ty, .int .u16 a1.cls, .int .u32 a1.ttl, S a1.data]) rfl rfl rfl ?_)
  intro b6 w7 hb8 H9 e10 _
  have g11 : w.heap.size ≤ b6 := Nat.le_trans hB.size (Nat.le_of_eq hb8.symm)
  clear hb8
  replace hB := below_ext hB e10
  clear e10
  refine XO.do rfl (D.box (v := .agg #[S a2.name, .int .u16 a2.ty, .int .u16 a2.cls, .int .u32 a2.ttl, S a2.data]) (cs := [S a2.name, .int .u16 a2.ty, .int .u16 a2.cls, .int .u32 a2.ttl, S a2.data]) rfl rfl rfl ?_)
  intro b12 w13 hb14 H15 e16 _
  have g17 : w.heap.size ≤ b12 := Nat.le_trans hB.size (Nat.le_of_eq hb14.symm)
  clear hb14
  replace hB := below_ext hB e16
  replace H9 := H9.ext e16
  clear e16
  refine XO.do rfl (D.asn (v := .bool false) rfl rfl ?_)
  refine XO.nil ?_
  refine hM5 _ _ ?_
  refine X.seq fun M18 hM19 => ?_
  refine X.region ?_
  rcases (Classical.em (derricklaw05_shown.pre )).symm with c20 | c20
  · rw [if_neg c20] at h; cases h
  rw [if_pos c20] at h
  obtain ⟨r24, q25, h⟩ := lt_elim h
  have hc23 := derricklaw05_shown.ok w13 c20 
  rw [q25] at hc23
  clear q25
  refine XO.do rfl (D.call (vs := []) cf7 hc23 rfl rfl ?_)
  rintro _ w21 ⟨rfl, e22⟩
  clear hc23
  replace hB := below_ext hB e22
  replace H9 := H9.ext e22
  replace H15 := H15.ext e22
  clear e22
  refine XO.do rfl (D.asn (v := .bool r24) rfl rfl ?_)
  refine XO.nil ?_
  refine hM19 _ _ ?_
  refine X.seq fun M61 hM62 => ?_
  refine X.cut (fun f78 w77 => ∃ x76 : Bool, f78 2 = .int .u32 a3 ∧ f78 3 = pt b6 0 ∧ f78 4 = pt b12 0 ∧ f78 7 = .bool r24 ∧ f78 18 = .bool x76 ∧ Below w.heap.size w w77 ∧ Blk w77 b6 [S a1.name, .int .u16 a1.ty, .int .u16 a1.cls, .int .u32 a1.ttl, S a1.data] 25 ∧ Blk w77 b12 [S a2.name, .int .u16 a2.ty, .int .u16 a2.cls, .int .u32 a2.ttl, S a2.data] 25 ∧ derricklaw05_RecordSame.j1 r24 a1 a3 a2 x76 = some res) ?_ ?_
  · refine X.region ?_
    refine XO.do rfl (D.loadA (j := 0) (us := [S a1.name, .int .u16 a1.ty, .int .u16 a1.cls, .int .u32 a1.ttl, S a1.data]) ag25 H9.cs rfl rfl rfl rfl rfl ?_)
    obtain ⟨r197, q198, h⟩ := lt_elim h
    have hc196 := derricklaw05_few.ok a1 w21 
    rw [q198] at hc196
    clear q198
    refine XO.do rfl (D.call (vs := [.agg #[S a1.name, .int .u16 a1.ty, .int .u16 a1.cls, .int .u32 a1.ttl, S a1.data]]) cf8 hc196 rfl rfl ?_)
    rintro _ w194 ⟨rfl, e195⟩
    clear hc196
    replace hB := below_ext hB e195
    replace H9 := H9.ext e195
    replace H15 := H15.ext e195
    clear e195
    refine XO.do rfl (D.not r197 rfl rfl ?_)
    refine XO.do rfl (D.mv (v := .bool (!r197)) rfl rfl ?_)
    by_cases c199 : r197 = true
    · rw [if_pos c199] at h
      refine XO.do (wantG (j := 3) (b := false) rfl ((congrArg (!·) (c199))) rfl) (D.loadA (j := 0) (us := [S a2.name, .int .u16 a2.ty, .int .u16 a2.cls, .int .u32 a2.ttl, S a2.data]) ag25 H15.cs rfl rfl rfl rfl rfl ?_)
      obtain ⟨r203, q204, h⟩ := lt_elim h
      have hc202 := derricklaw05_few.ok a2 w194 
      rw [q204] at hc202
      clear q204
      refine XO.do (wantG (j := 3) (b := false) rfl ((congrArg (!·) (c199))) rfl) (D.call (vs := [.agg #[S a2.name, .int .u16 a2.ty, .int .u16 a2.cls, .int .u32 a2.ttl, S a2.data]]) cf8 hc202 rfl rfl ?_)
      rintro _ w200 ⟨rfl, e201⟩
      clear hc202
      replace hB := below_ext hB e201
      replace H9 := H9.ext e201
      replace H15 := H15.ext e201
      clear e201
      refine XO.do (wantG (j := 3) (b := false) rfl ((congrArg (!·) (c199))) rfl) (D.not r203 rfl rfl ?_)
      refine XO.do rfl (D.pick false (v := .bool (!r203)) (congrArg Value.bool ((congrArg (!·) (c199)))) rfl rfl ?_)
      refine XO.nil ?_
      exact ⟨(!r203), rfl, rfl, rfl, rfl, rfl, hB, H9, H15, h⟩
    · rw [if_neg c199] at h
      refine XO.off (wantG0 (j := 3) (b := false) rfl ((congrArg (!·) ((Bool.eq_false_iff.2 c199)))) rfl) rfl rfl ?_
      refine XO.off (wantG0 (j := 3) (b := false) rfl ((congrArg (!·) ((Bool.eq_false_iff.2 c199)))) rfl) rfl rfl ?_
      refine XO.off (wantG0 (j := 3) (b := false) rfl ((congrArg (!·) ((Bool.eq_false_iff.2 c199)))) rfl) rfl rfl ?_
      refine XO.do rfl (D.pick true (v := .bool true) (congrArg Value.bool ((congrArg (!·) ((Bool.eq_false_iff.2 c199))))) rfl rfl ?_)
      refine XO.nil ?_
      exact ⟨true, rfl, rfl, rfl, rfl, rfl, hB, H9, H15, h⟩
  · intro f78 w77 hI
    obtain ⟨x76, s79, s80, s81, s82, s83, hB, H74, H75, h⟩ := hI
    refine X.fr (d := 2) s79 ?_
    refine X.fr (d := 3) s80 ?_
    refine X.fr (d := 4) s81 ?_
    refine X.fr (d := 7) s82 ?_
    refine X.fr (d := 18) s83 ?_
    unfold derricklaw05_RecordSame.j1 at h
    by_cases c84 : x76 = true
    · rw [if_pos c84] at h
      refine X.condT (congrArg Value.bool (c84)) ?_
      refine X.seq fun M85 hM86 => ?_
      refine X.region ?_
      refine XO.do rfl (D.mv (v := .bool r24) rfl rfl ?_)
      refine XO.do rfl (D.asn (v := .bool r24) rfl rfl ?_)
      refine XO.nil ?_
      refine hM86 _ _ ?_
      refine X.ret ?_
      injection h with h
      subst h
      exact hR _ _ _ (ret1 (v := .bool r24) rfl rfl) ⟨rfl, ext_of_below hB⟩
    · rw [if_neg c84] at h
      refine X.condF (congrArg Value.bool ((Bool.eq_false_iff.2 c84))) ?_
      refine X.skip ?_
      refine hM62 _ _ ?_
      refine X.seq fun M87 hM88 => ?_
      refine X.region ?_
      refine XO.do rfl (D.loadA (j := 0) (us := [S a1.name, .int .u16 a1.ty, .int .u16 a1.cls, .int .u32 a1.ttl, S a1.data]) ag25 H74.cs rfl rfl rfl rfl rfl ?_)
      refine XO.do rfl (D.alloc ti25 (cs := [S [], .int .u16 0, .int .u16 0, .int .u32 0, S []]) rfl rfl ?_)
      intro b89 w90 hb91 H92 e93 _
      have lt_11_94 : ∀ x, MB b6 x → x < b89 := (MB.lt H74 (Nat.le_of_eq hb91.symm))
      have lt_17_94 : ∀ x, MB b12 x → x < b89 := (MB.lt H75 (Nat.le_of_eq hb91.symm))
      have g94 : w.heap.size ≤ b89 := Nat.le_trans hB.size (Nat.le_of_eq hb91.symm)
      clear hb91
      replace hB := below_ext hB e93
      replace H74 := H74.ext e93
      replace H75 := H75.ext e93
      clear e93
      refine XO.do rfl (D.store (v := .agg #[S a1.name, .int .u16 a1.ty, .int .u16 a1.cls, .int .u32 a1.ttl, S a1.data]) (us := [S a1.name, .int .u16 a1.ty, .int .u16 a1.cls, .int .u32 a1.ttl, S a1.data]) sz25 H92 rfl rfl rfl rfl rfl rfl ?_)
      intro w95 H96 e97
      replace hB := below_blk hB e97 g94
      replace H74 := H74.gr e97 (sepB (ne_of lt_11_94 (MB.ge b89)))
      replace H75 := H75.gr e97 (sepB (ne_of lt_17_94 (MB.ge b89)))
      clear e97
      refine XO.nil ?_
      refine hM88 _ _ ?_
      refine X.seq fun M98 hM99 => ?_
      refine X.region ?_
      refine XO.do rfl (D.mv (v := .int .u32 a3) rfl rfl ?_)
      refine XO.do rfl (D.fieldAddr (o' := 3) fa25_3 rfl rfl rfl ?_)
      refine XO.do rfl (D.store (v := .int .u32 a3) (us := [S a1.name, .int .u16 a1.ty, .int .u16 a1.cls, .int .u32 a3, S a1.data]) sz23 H96 rfl rfl rfl rfl rfl rfl ?_)
      intro w100 H101 e102
      replace hB := below_blk hB e102 g94
      replace H74 := H74.gr e102 (sepB (ne_of lt_11_94 (MB.ge b89)))
      replace H75 := H75.gr e102 (sepB (ne_of lt_17_94 (MB.ge b89)))
      clear e102
      refine XO.nil ?_
      refine hM99 _ _ ?_
      refine X.seq fun M103 hM104 => ?_
      refine X.region ?_
      refine XO.do rfl (D.loadA (j := 0) (us := [S a1.name, .int .u16 a1.ty, .int .u16 a1.cls, .int .u32 a1.ttl, S a1.data]) ag25 H74.cs rfl rfl rfl rfl rfl ?_)
      refine XO.do rfl (D.alloc ti25 (cs := [S [], .int .u16 0, .int .u16 0, .int .u32 0, S []]) rfl rfl ?_)
      intro b105 w106 hb107 H108 e109 _
      have lt_11_110 : ∀ x, MB b6 x → x < b105 := (MB.lt H74 (Nat.le_of_eq hb107.symm))
      have lt_17_110 : ∀ x, MB b12 x → x < b105 := (MB.lt H75 (Nat.le_of_eq hb107.symm))
      have lt_94_110 : ∀ x, MB b89 x → x < b105 := (MB.lt H101 (Nat.le_of_eq hb107.symm))
      have g110 : w.heap.size ≤ b105 := Nat.le_trans hB.size (Nat.le_of_eq hb107.symm)
      clear hb107
      replace hB := below_ext hB e109
      replace H74 := H74.ext e109
      replace H75 := H75.ext e109
      replace H101 := H101.ext e109
      clear e109
      refine XO.do rfl (D.store (v := .agg #[S a1.name, .int .u16 a1.ty, .int .u16 a1.cls, .int .u32 a1.ttl, S a1.data]) (us := [S a1.name, .int .u16 a1.ty, .int .u16 a1.cls, .int .u32 a1.ttl, S a1.data]) sz25 H108 rfl rfl rfl rfl rfl rfl ?_)
      intro w111 H112 e113
      replace hB := below_blk hB e113 g110
      replace H74 := H74.gr e113 (sepB (ne_of lt_11_110 (MB.ge b105)))
      replace H75 := H75.gr e113 (sepB (ne_of lt_17_110 (MB.ge b105)))
      replace H101 := H101.gr e113 (sepB (ne_of lt_94_110 (MB.ge b105)))
      clear e113
      refine XO.nil ?_
      refine hM104 _ _ ?_
      refine X.seq fun M114 hM115 => ?_
      refine X.region ?_
      refine XO.do rfl (D.fieldAddr (o' := 4) fa25_4 rfl rfl rfl ?_)
      refine XO.do rfl (D.load (j := 4) (v := S a1.data) sc9 H74.cs rfl rfl rfl rfl ?_)
      rcases (Classical.em (a1.data.length + ([120] : Str).length ≤ 9223372036854775807)).symm with c116 | c116
      · rw [if_neg c116] at h; cases h
      rw [if_pos c116] at h
      refine XO.do rfl (D.addS rfl rfl c116 rfl ?_)
      refine XO.do rfl (D.fieldAddr (o' := 4) fa25_4 rfl rfl rfl ?_)
      refine XO.do rfl (D.store (v := S (a1.data ++ [120])) (us := [S a1.name, .int .u16 a1.ty, .int .u16 a1.cls, .int .u32 a1.ttl, S (a1.data ++ [120])]) sz9 H112 rfl rfl rfl rfl rfl rfl ?_)
      intro w117 H118 e119
      replace hB := below_blk hB e119 g110
      replace H74 := H74.gr e119 (sepB (ne_of lt_11_110 (MB.ge b105)))
      replace H75 := H75.gr e119 (sepB (ne_of lt_17_110 (MB.ge b105)))
      replace H101 := H101.gr e119 (sepB (ne_of lt_94_110 (MB.ge b105)))
      clear e119
      refine XO.nil ?_
      refine hM115 _ _ ?_
      refine X.seq fun M120 hM121 => ?_
      refine X.tree mixed0 [0, 1, 3, 3, 15, 31, 63, 127, 127, 511, 1023, 2047, 4095, 8191, 8191, 32767, 8191, 8191, 262143, 524287, 1048575, 2097151, 4194303, 4194303, 16777215, 33554431, 67108863, 134217727, 268435455, 134217727, 1073741823, 2147483647, 4294967295, 8589934591, 17179869183, 34359738367, 68719476735, 34359738367, 274877906943, 549755813887, 1099511627775, 2199023255551] (.q 0 (.q 1 (.q 2 (.q 3 (.q 4 (.q 5 (.q 6 (.q 7 (.q 8 (.q 9 (.q 10 (.q 11 (.q 12 (.q 13 (.q 14 (.q 15 (.q 16 (.q 17 (.q 18 (.q 19 (.q 20 (.q 21 (.q 22 (.q 23 (.q 24 (.q 25 (.q 26 (.q 27 (.q 28 (.q 29 (.q 30 (.q 31 (.q 32 (.q 33 (.q 34 (.q 35 (.q 36 (.q 37 (.q 38 (.q 39 (.q 40 (.q 41 .nil)))))))))))))))))))))))))))))))))))))))))) (fun w' => Below w.heap.size w w' ∧ Blk w' b6 [S a1.name, .int .u16 a1.ty, .int .u16 a1.cls, .int .u32 a1.ttl, S a1.data] 25 ∧ Blk w' b12 [S a2.name, .int .u16 a2.ty, .int .u16 a2.cls, .int .u32 a2.ttl, S a2.data] 25 ∧ Blk w' b89 [S a1.name, .int .u16 a1.ty, .int .u16 a1.cls, .int .u32 a3, S a1.data] 25 ∧ Blk w' b105 [S a1.name, .int .u16 a1.ty, .int .u16 a1.cls, .int .u32 a1.ttl, S (a1.data ++ [120])] 25) (fun w' => Below w.heap.size w w' ∧ Blk w' b6 [S a1.name, .int .u16 a1.ty, .int .u16 a1.cls, .int .u32 a1.ttl, S a1.data] 25 ∧ Blk w' b12 [S a2.name, .int .u16 a2.ty, .int .u16 a2.cls, .int .u32 a2.ttl, S a2.data] 25 ∧ Blk w' b89 [S a1.name, .int .u16 a1.ty, .int .u16 a1.cls, .int .u32 a3, S a1.data] 25 ∧ Blk w' b105 [S a1.name, .int .u16 a1.ty, .int .u16 a1.cls, .int .u32 a1.ttl, S (a1.data ++ [120])] 25) (by decide +kernel) (fun w' hx _ => ⟨below_ext hB hx, H74.ext hx, H75.ext hx, H101.ext hx, H118.ext hx⟩) (fun a b hC hx => by obtain ⟨hB, H74, H75, H101, H118⟩ := hC; exact ⟨below_ext hB hx, H74.ext hx, H75.ext hx, H101.ext hx, H118.ext hx⟩) (fun a hC => by obtain ⟨hB, H74, H75, H101, H118⟩ := hC; exact ⟨hB, H74, H75, H101, H118⟩) ?_
      refine QT.do (v := .bool r24) rfl (by decide +kernel) rfl rfl rfl (fun w' hJ => by obtain ⟨hB, H74, H75, H101, H118⟩ := hJ; exact D.mv (v := .bool r24) rfl rfl ⟨rfl, Ext.refl _⟩) ?_
      refine QT.do (v := .bool r24) rfl (by decide +kernel) rfl rfl rfl (fun w' hJ => by obtain ⟨hB, H74, H75, H101, H118⟩ := hJ; exact D.mv (v := .bool r24) rfl rfl ⟨rfl, Ext.refl _⟩) ?_
      by_cases c122 : r24 = true
      · rw [if_pos c122] at h
        refine QT.do (v := .agg #[S a1.name, .int .u16 a1.ty, .int .u16 a1.cls, .int .u32 a1.ttl, S a1.data]) rfl (by decide +kernel) (wantG (j := 1) (b := true) rfl (c122) rfl) rfl rfl (fun w' hJ => by obtain ⟨hB, H74, H75, H101, H118⟩ := hJ; exact D.loadA (j := 0) (us := [S a1.name, .int .u16 a1.ty, .int .u16 a1.cls, .int .u32 a1.ttl, S a1.data]) ag25 H74.cs rfl rfl rfl rfl rfl ⟨rfl, Ext.refl _⟩) ?_
        refine QT.do (v := .agg #[S a1.name, .int .u16 a1.ty, .int .u16 a1.cls, .int .u32 a3, S a1.data]) rfl (by decide +kernel) (wantG (j := 1) (b := true) rfl (c122) rfl) rfl rfl (fun w' hJ => by obtain ⟨hB, H74, H75, H101, H118⟩ := hJ; exact D.loadA (j := 0) (us := [S a1.name, .int .u16 a1.ty, .int .u16 a1.cls, .int .u32 a3, S a1.data]) ag25 H101.cs rfl rfl rfl rfl rfl ⟨rfl, Ext.refl _⟩) ?_
        obtain ⟨r126, q127, h⟩ := lt_elim h
        refine QT.do (v := .bool r126) rfl (by decide +kernel) (wantG (j := 1) (b := true) rfl (c122) rfl) rfl rfl (fun w' hJ => by obtain ⟨hB, H74, H75, H101, H118⟩ := hJ; have hc := record_Same.ok a1 (⟨a1.name, a1.ty, a1.cls, a3, a1.data⟩ : RR) w'; rw [q127] at hc; refine D.call (vs := [.agg #[S a1.name, .int .u16 a1.ty, .int .u16 a1.cls, .int .u32 a1.ttl, S a1.data], .agg #[S a1.name, .int .u16 a1.ty, .int .u16 a1.cls, .int .u32 a3, S a1.data]]) cf9 hc rfl rfl ?_; rintro _ w2 ⟨rfl, e2⟩; exact ⟨rfl, e2⟩) ?_
        refine QT.do (v := .bool r126) rfl (by decide +kernel) rfl rfl rfl (fun w' hJ => by obtain ⟨hB, H74, H75, H101, H118⟩ := hJ; exact D.pick true (v := .bool r126) (congrArg Value.bool (c122)) rfl rfl ⟨rfl, Ext.refl _⟩) ?_
        refine QT.do (v := .bool r126) rfl (by decide +kernel) rfl rfl rfl (fun w' hJ => by obtain ⟨hB, H74, H75, H101, H118⟩ := hJ; exact D.mv (v := .bool r126) rfl rfl ⟨rfl, Ext.refl _⟩) ?_
        by_cases c128 : r126 = true
        · rw [if_pos c128] at h
          refine QT.do (v := .agg #[S a1.name, .int .u16 a1.ty, .int .u16 a1.cls, .int .u32 a1.ttl, S a1.data]) rfl (by decide +kernel) (wantG (j := 6) (b := true) rfl (c128) rfl) rfl rfl (fun w' hJ => by obtain ⟨hB, H74, H75, H101, H118⟩ := hJ; exact D.loadA (j := 0) (us := [S a1.name, .int .u16 a1.ty, .int .u16 a1.cls, .int .u32 a1.ttl, S a1.data]) ag25 H74.cs rfl rfl rfl rfl rfl ⟨rfl, Ext.refl _⟩) ?_
          refine QT.do (v := .agg #[S a1.name, .int .u16 a1.ty, .int .u16 a1.cls, .int .u32 a1.ttl, S (a1.data ++ [120])]) rfl (by decide +kernel) (wantG (j := 6) (b := true) rfl (c128) rfl) rfl rfl (fun w' hJ => by obtain ⟨hB, H74, H75, H101, H118⟩ := hJ; exact D.loadA (j := 0) (us := [S a1.name, .int .u16 a1.ty, .int .u16 a1.cls, .int .u32 a1.ttl, S (a1.data ++ [120])]) ag25 H118.cs rfl rfl rfl rfl rfl ⟨rfl, Ext.refl _⟩) ?_
          obtain ⟨r132, q133, h⟩ := lt_elim h
          refine QT.do (v := .bool r132) rfl (by decide +kernel) (wantG (j := 6) (b := true) rfl (c128) rfl) rfl rfl (fun w' hJ => by obtain ⟨hB, H74, H75, H101, H118⟩ := hJ; have hc := record_Same.ok a1 (⟨a1.name, a1.ty, a1.cls, a1.ttl, a1.data ++ [120]⟩ : RR) w'; rw [q133] at hc; refine D.call (vs := [.agg #[S a1.name, .int .u16 a1.ty, .int .u16 a1.cls, .int .u32 a1.ttl, S a1.data], .agg #[S a1.name, .int .u16 a1.ty, .int .u16 a1.cls, .int .u32 a1.ttl, S (a1.data ++ [120])]]) cf9 hc rfl rfl ?_; rintro _ w2 ⟨rfl, e2⟩; exact ⟨rfl, e2⟩) ?_
          refine QT.do (v := .bool (!r132)) rfl (by decide +kernel) (wantG (j := 6) (b := true) rfl (c128) rfl) rfl rfl (fun w' hJ => by obtain ⟨hB, H74, H75, H101, H118⟩ := hJ; exact D.not r132 rfl rfl ⟨rfl, Ext.refl _⟩) ?_
          refine QT.do (v := .bool (!r132)) rfl (by decide +kernel) rfl rfl rfl (fun w' hJ => by obtain ⟨hB, H74, H75, H101, H118⟩ := hJ; exact D.pick true (v := .bool (!r132)) (congrArg Value.bool (c128)) rfl rfl ⟨rfl, Ext.refl _⟩) ?_
          refine QT.do (v := .bool (!r132)) rfl (by decide +kernel) rfl rfl rfl (fun w' hJ => by obtain ⟨hB, H74, H75, H101, H118⟩ := hJ; exact D.mv (v := .bool (!r132)) rfl rfl ⟨rfl, Ext.refl _⟩) ?_
          by_cases c134 : r132 = true
          · rw [if_pos c134] at h
            refine QT.off rfl (wantG0 (j := 12) (b := true) rfl ((congrArg (!·) (c134))) rfl) rfl rfl ?_
            refine QT.off rfl (wantG0 (j := 12) (b := true) rfl ((congrArg (!·) (c134))) rfl) rfl rfl ?_
            refine QT.off rfl (wantG0 (j := 12) (b := true) rfl ((congrArg (!·) (c134))) rfl) rfl rfl ?_
            refine QT.off rfl (wantG0 (j := 12) (b := true) rfl ((congrArg (!·) (c134))) rfl) rfl rfl ?_
            refine QT.off rfl (wantG0 (j := 12) (b := true) rfl ((congrArg (!·) (c134))) rfl) rfl rfl ?_
            refine QT.off rfl (wantG0 (j := 12) (b := true) rfl ((congrArg (!·) (c134))) rfl) rfl rfl ?_
            refine QT.off rfl (wantG0 (j := 12) (b := true) rfl ((congrArg (!·) (c134))) rfl) rfl rfl ?_
            refine QT.do (v := .bool false) rfl (by decide +kernel) rfl rfl rfl (fun w' hJ => by obtain ⟨hB, H74, H75, H101, H118⟩ := hJ; exact D.pick false (v := .bool false) (congrArg Value.bool ((congrArg (!·) (c134)))) rfl rfl ⟨rfl, Ext.refl _⟩) ?_
            refine QT.do (v := .bool false) rfl (by decide +kernel) rfl rfl rfl (fun w' hJ => by obtain ⟨hB, H74, H75, H101, H118⟩ := hJ; exact D.mv (v := .bool false) rfl rfl ⟨rfl, Ext.refl _⟩) ?_
            refine QT.off rfl (wantG0 (j := 21) (b := true) rfl (rfl) rfl) rfl rfl ?_
            refine QT.off rfl (wantG0 (j := 21) (b := true) rfl (rfl) rfl) rfl rfl ?_
            refine QT.off rfl (wantG0 (j := 21) (b := true) rfl (rfl) rfl) rfl rfl ?_
            refine QT.off rfl (wantG0 (j := 21) (b := true) rfl (rfl) rfl) rfl rfl ?_
            refine QT.off rfl (wantG0 (j := 21) (b := true) rfl (rfl) rfl) rfl rfl ?_
            refine QT.off rfl (wantU (j := 26) (b := false) rfl rfl) rfl rfl ?_
            refine QT.off rfl (wantU (j := 26) (b := false) rfl rfl) rfl rfl ?_
            refine QT.off rfl (wantU (j := 26) (b := false) rfl rfl) rfl rfl ?_
            refine QT.off rfl (wantU (j := 26) (b := false) rfl rfl) rfl rfl ?_
            refine QT.off rfl (wantU (j := 26) (b := false) rfl rfl) rfl rfl ?_
            refine QT.off rfl (wantG0 (j := 21) (b := true) rfl (rfl) rfl) rfl rfl ?_
            refine QT.do (v := .bool false) rfl (by decide +kernel) rfl rfl rfl (fun w' hJ => by obtain ⟨hB, H74, H75, H101, H118⟩ := hJ; exact D.pick false (v := .bool false) (congrArg Value.bool (rfl)) rfl rfl ⟨rfl, Ext.refl _⟩) ?_
            refine QT.do (v := .bool false) rfl (by decide +kernel) rfl rfl rfl (fun w' hJ => by obtain ⟨hB, H74, H75, H101, H118⟩ := hJ; exact D.mv (v := .bool false) rfl rfl ⟨rfl, Ext.refl _⟩) ?_
            refine QT.off rfl (wantG0 (j := 34) (b := true) rfl (rfl) rfl) rfl rfl ?_
            refine QT.off rfl (wantG0 (j := 34) (b := true) rfl (rfl) rfl) rfl rfl ?_
            refine QT.off rfl (wantG0 (j := 34) (b := true) rfl (rfl) rfl) rfl rfl ?_
            refine QT.off rfl (wantG0 (j := 34) (b := true) rfl (rfl) rfl) rfl rfl ?_
            refine QT.off rfl (wantG0 (j := 34) (b := true) rfl (rfl) rfl) rfl rfl ?_
            refine QT.do (v := .bool false) rfl (by decide +kernel) rfl rfl rfl (fun w' hJ => by obtain ⟨hB, H74, H75, H101, H118⟩ := hJ; exact D.pick false (v := .bool false) (congrArg Value.bool (rfl)) rfl rfl ⟨rfl, Ext.refl _⟩) ?_
            refine QT.do (v := .bool false) rfl (by decide +kernel) rfl rfl rfl (fun w' hJ => by obtain ⟨hB, H74, H75, H101, H118⟩ := hJ; exact D.asn (v := .bool false) rfl rfl ⟨rfl, Ext.refl _⟩) ?_
            refine QT.nil fun w135 hC => ?_
            obtain ⟨hB, H74, H75, H101, H118⟩ := hC
            refine hM121 _ _ ?_
            refine X.ret ?_
            injection h with h
            subst h
            exact hR _ _ _ (ret1 (v := .bool false) rfl rfl) ⟨rfl, ext_of_below hB⟩
          · rw [if_neg c134] at h
            refine QT.do (v := .agg #[S a1.name, .int .u16 a1.ty, .int .u16 a1.cls, .int .u32 a1.ttl, S a1.data]) rfl (by decide +kernel) (wantG (j := 12) (b := true) rfl ((congrArg (!·) ((Bool.eq_false_iff.2 c134)))) rfl) rfl rfl (fun w' hJ => by obtain ⟨hB, H74, H75, H101, H118⟩ := hJ; exact D.loadA (j := 0) (us := [S a1.name, .int .u16 a1.ty, .int .u16 a1.cls, .int .u32 a1.ttl, S a1.data]) ag25 H74.cs rfl rfl rfl rfl rfl ⟨rfl, Ext.refl _⟩) ?_
            refine QT.do (v := .agg #[S a2.name, .int .u16 a2.ty, .int .u16 a2.cls, .int .u32 a2.ttl, S a2.data]) rfl (by decide +kernel) (wantG (j := 12) (b := true) rfl ((congrArg (!·) ((Bool.eq_false_iff.2 c134)))) rfl) rfl rfl (fun w' hJ => by obtain ⟨hB, H74, H75, H101, H118⟩ := hJ; exact D.loadA (j := 0) (us := [S a2.name, .int .u16 a2.ty, .int .u16 a2.cls, .int .u32 a2.ttl, S a2.data]) ag25 H75.cs rfl rfl rfl rfl rfl ⟨rfl, Ext.refl _⟩) ?_
            obtain ⟨r139, q140, h⟩ := lt_elim h
            refine QT.do (v := .bool r139) rfl (by decide +kernel) (wantG (j := 12) (b := true) rfl ((congrArg (!·) ((Bool.eq_false_iff.2 c134)))) rfl) rfl rfl (fun w' hJ => by obtain ⟨hB, H74, H75, H101, H118⟩ := hJ; have hc := record_Same.ok a1 a2 w'; rw [q140] at hc; refine D.call (vs := [.agg #[S a1.name, .int .u16 a1.ty, .int .u16 a1.cls, .int .u32 a1.ttl, S a1.data], .agg #[S a2.name, .int .u16 a2.ty, .int .u16 a2.cls, .int .u32 a2.ttl, S a2.data]]) cf9 hc rfl rfl ?_; rintro _ w2 ⟨rfl, e2⟩; exact ⟨rfl, e2⟩) ?_
            refine QT.do (v := .agg #[S a2.name, .int .u16 a2.ty, .int .u16 a2.cls, .int .u32 a2.ttl, S a2.data]) rfl (by decide +kernel) (wantG (j := 12) (b := true) rfl ((congrArg (!·) ((Bool.eq_false_iff.2 c134)))) rfl) rfl rfl (fun w' hJ => by obtain ⟨hB, H74, H75, H101, H118⟩ := hJ; exact D.loadA (j := 0) (us := [S a2.name, .int .u16 a2.ty, .int .u16 a2.cls, .int .u32 a2.ttl, S a2.data]) ag25 H75.cs rfl rfl rfl rfl rfl ⟨rfl, Ext.refl _⟩) ?_
            refine QT.do (v := .agg #[S a1.name, .int .u16 a1.ty, .int .u16 a1.cls, .int .u32 a1.ttl, S a1.data]) rfl (by decide +kernel) (wantG (j := 12) (b := true) rfl ((congrArg (!·) ((Bool.eq_false_iff.2 c134)))) rfl) rfl rfl (fun w' hJ => by obtain ⟨hB, H74, H75, H101, H118⟩ := hJ; exact D.loadA (j := 0) (us := [S a1.name, .int .u16 a1.ty, .int .u16 a1.cls, .int .u32 a1.ttl, S a1.data]) ag25 H74.cs rfl rfl rfl rfl rfl ⟨rfl, Ext.refl _⟩) ?_
            obtain ⟨r144, q145, h⟩ := lt_elim h
            refine QT.do (v := .bool r144) rfl (by decide +kernel) (wantG (j := 12) (b := true) rfl ((congrArg (!·) ((Bool.eq_false_iff.2 c134)))) rfl) rfl rfl (fun w' hJ => by obtain ⟨hB, H74, H75, H101, H118⟩ := hJ; have hc := record_Same.ok a2 a1 w'; rw [q145] at hc; refine D.call (vs := [.agg #[S a2.name, .int .u16 a2.ty, .int .u16 a2.cls, .int .u32 a2.ttl, S a2.data], .agg #[S a1.name, .int .u16 a1.ty, .int .u16 a1.cls, .int .u32 a1.ttl, S a1.data]]) cf9 hc rfl rfl ?_; rintro _ w2 ⟨rfl, e2⟩; exact ⟨rfl, e2⟩) ?_
            refine QT.do (v := .bool (r139 == r144)) rfl (by decide +kernel) (wantG (j := 12) (b := true) rfl ((congrArg (!·) ((Bool.eq_false_iff.2 c134)))) rfl) rfl rfl (fun w' hJ => by obtain ⟨hB, H74, H75, H101, H118⟩ := hJ; exact D.eqlB Try.underlying4 rfl rfl rfl ⟨rfl, Ext.refl _⟩) ?_
            refine QT.do (v := .bool (r139 == r144)) rfl (by decide +kernel) rfl rfl rfl (fun w' hJ => by obtain ⟨hB, H74, H75, H101, H118⟩ := hJ; exact D.pick true (v := .bool (r139 == r144)) (congrArg Value.bool ((congrArg (!·) ((Bool.eq_false_iff.2 c134))))) rfl rfl ⟨rfl, Ext.refl _⟩) ?_
            refine QT.do (v := .bool (r139 == r144)) rfl (by decide +kernel) rfl rfl rfl (fun w' hJ => by obtain ⟨hB, H74, H75, H101, H118⟩ := hJ; exact D.mv (v := .bool (r139 == r144)) rfl rfl ⟨rfl, Ext.refl _⟩) ?_
            by_cases c146 : (r139 == r144) = true
            · rw [if_pos c146] at h
              refine QT.do (v := .agg #[S a1.name, .int .u16 a1.ty, .int .u16 a1.cls, .int .u32 a1.ttl, S a1.data]) rfl (by decide +kernel) (wantG (j := 21) (b := true) rfl (c146) rfl) rfl rfl (fun w' hJ => by obtain ⟨hB, H74, H75, H101, H118⟩ := hJ; exact D.loadA (j := 0) (us := [S a1.name, .int .u16 a1.ty, .int .u16 a1.cls, .int .u32 a1.ttl, S a1.data]) ag25 H74.cs rfl rfl rfl rfl rfl ⟨rfl, Ext.refl _⟩) ?_
              refine QT.do (v := .agg #[S a2.name, .int .u16 a2.ty, .int .u16 a2.cls, .int .u32 a2.ttl, S a2.data]) rfl (by decide +kernel) (wantG (j := 21) (b := true) rfl (c146) rfl) rfl rfl (fun w' hJ => by obtain ⟨hB, H74, H75, H101, H118⟩ := hJ; exact D.loadA (j := 0) (us := [S a2.name, .int .u16 a2.ty, .int .u16 a2.cls, .int .u32 a2.ttl, S a2.data]) ag25 H75.cs rfl rfl rfl rfl rfl ⟨rfl, Ext.refl _⟩) ?_
              obtain ⟨r150, q151, h⟩ := lt_elim h
              refine QT.do (v := .bool r150) rfl (by decide +kernel) (wantG (j := 21) (b := true) rfl (c146) rfl) rfl rfl (fun w' hJ => by obtain ⟨hB, H74, H75, H101, H118⟩ := hJ; have hc := record_Same.ok a1 a2 w'; rw [q151] at hc; refine D.call (vs := [.agg #[S a1.name, .int .u16 a1.ty, .int .u16 a1.cls, .int .u32 a1.ttl, S a1.data], .agg #[S a2.name, .int .u16 a2.ty, .int .u16 a2.cls, .int .u32 a2.ttl, S a2.data]]) cf9 hc rfl rfl ?_; rintro _ w2 ⟨rfl, e2⟩; exact ⟨rfl, e2⟩) ?_
              refine QT.do (v := .bool (!r150)) rfl (by decide +kernel) (wantG (j := 21) (b := true) rfl (c146) rfl) rfl rfl (fun w' hJ => by obtain ⟨hB, H74, H75, H101, H118⟩ := hJ; exact D.not r150 rfl rfl ⟨rfl, Ext.refl _⟩) ?_
              refine QT.do (v := .bool (!r150)) rfl (by decide +kernel) (wantG (j := 21) (b := true) rfl (c146) rfl) rfl rfl (fun w' hJ => by obtain ⟨hB, H74, H75, H101, H118⟩ := hJ; exact D.mv (v := .bool (!r150)) rfl rfl ⟨rfl, Ext.refl _⟩) ?_
              by_cases c152 : r150 = true
              · rw [if_pos c152] at h
                refine QT.do (v := .agg #[S a1.name, .int .u16 a1.ty, .int .u16 a1.cls, .int .u32 a1.ttl, S a1.data]) rfl (by decide +kernel) (wantG (j := 26) (b := false) rfl ((congrArg (!·) (c152))) rfl) rfl rfl (fun w' hJ => by obtain ⟨hB, H74, H75, H101, H118⟩ := hJ; exact D.loadA (j := 0) (us := [S a1.name, .int .u16 a1.ty, .int .u16 a1.cls, .int .u32 a1.ttl, S a1.data]) ag25 H74.cs rfl rfl rfl rfl rfl ⟨rfl, Ext.refl _⟩) ?_
                obtain ⟨r156, q157, h⟩ := lt_elim h
                refine QT.do (v := .agg #[S r156.name, .int .u16 r156.ty, .int .u16 r156.cls]) rfl (by decide +kernel) (wantG (j := 26) (b := false) rfl ((congrArg (!·) (c152))) rfl) rfl rfl (fun w' hJ => by obtain ⟨hB, H74, H75, H101, H118⟩ := hJ; have hc := record_Key.ok a1 w'; rw [q157] at hc; refine D.call (vs := [.agg #[S a1.name, .int .u16 a1.ty, .int .u16 a1.cls, .int .u32 a1.ttl, S a1.data]]) cf10 hc rfl rfl ?_; rintro _ w2 ⟨rfl, e2⟩; exact ⟨rfl, e2⟩) ?_
                refine QT.do (v := .agg #[S a2.name, .int .u16 a2.ty, .int .u16 a2.cls, .int .u32 a2.ttl, S a2.data]) rfl (by decide +kernel) (wantG (j := 26) (b := false) rfl ((congrArg (!·) (c152))) rfl) rfl rfl (fun w' hJ => by obtain ⟨hB, H74, H75, H101, H118⟩ := hJ; exact D.loadA (j := 0) (us := [S a2.name, .int .u16 a2.ty, .int .u16 a2.cls, .int .u32 a2.ttl, S a2.data]) ag25 H75.cs rfl rfl rfl rfl rfl ⟨rfl, Ext.refl _⟩) ?_
                obtain ⟨r161, q162, h⟩ := lt_elim h
                refine QT.do (v := .agg #[S r161.name, .int .u16 r161.ty, .int .u16 r161.cls]) rfl (by decide +kernel) (wantG (j := 26) (b := false) rfl ((congrArg (!·) (c152))) rfl) rfl rfl (fun w' hJ => by obtain ⟨hB, H74, H75, H101, H118⟩ := hJ; have hc := record_Key.ok a2 w'; rw [q162] at hc; refine D.call (vs := [.agg #[S a2.name, .int .u16 a2.ty, .int .u16 a2.cls, .int .u32 a2.ttl, S a2.data]]) cf10 hc rfl rfl ?_; rintro _ w2 ⟨rfl, e2⟩; exact ⟨rfl, e2⟩) ?_
                refine QT.do (v := .bool (decide (r156 = r161))) rfl (by decide +kernel) (wantG (j := 26) (b := false) rfl ((congrArg (!·) (c152))) rfl) rfl rfl (fun w' hJ => by obtain ⟨hB, H74, H75, H101, H118⟩ := hJ; exact D.eqSt (eqQuestion r156 r161) rfl rfl rfl ⟨rfl, Ext.refl _⟩) ?_
                refine QT.do (v := .bool (decide (r156 = r161))) rfl (by decide +kernel) (wantG (j := 21) (b := true) rfl (c146) rfl) rfl rfl (fun w' hJ => by obtain ⟨hB, H74, H75, H101, H118⟩ := hJ; exact D.pick false (v := .bool (decide (r156 = r161))) (congrArg Value.bool ((congrArg (!·) (c152)))) rfl rfl ⟨rfl, Ext.refl _⟩) ?_
                refine QT.do (v := .bool (decide (r156 = r161))) rfl (by decide +kernel) rfl rfl rfl (fun w' hJ => by obtain ⟨hB, H74, H75, H101, H118⟩ := hJ; exact D.pick true (v := .bool (decide (r156 = r161))) (congrArg Value.bool (c146)) rfl rfl ⟨rfl, Ext.refl _⟩) ?_
                refine QT.do (v := .bool (decide (r156 = r161))) rfl (by decide +kernel) rfl rfl rfl (fun w' hJ => by obtain ⟨hB, H74, H75, H101, H118⟩ := hJ; exact D.mv (v := .bool (decide (r156 = r161))) rfl rfl ⟨rfl, Ext.refl _⟩) ?_
                by_cases c163 : r156 = r161
                · rw [if_pos c163] at h
                  refine QT.do (v := .agg #[S a1.name, .int .u16 a1.ty, .int .u16 a1.cls, .int .u32 a1.ttl, S a1.data]) rfl (by decide +kernel) (wantG (j := 34) (b := true) rfl (decide_eq_true c163) rfl) rfl rfl (fun w' hJ => by obtain ⟨hB, H74, H75, H101, H118⟩ := hJ; exact D.loadA (j := 0) (us := [S a1.name, .int .u16 a1.ty, .int .u16 a1.cls, .int .u32 a1.ttl, S a1.data]) ag25 H74.cs rfl rfl rfl rfl rfl ⟨rfl, Ext.refl _⟩) ?_
                  rcases (Classical.em (record_May.pre a1)).symm with c164 | c164
                  · rw [if_neg c164] at h; cases h
                  rw [if_pos c164] at h
                  obtain ⟨r168, q169, h⟩ := lt_elim h
                  refine QT.do (v := .bool r168) rfl (by decide +kernel) (wantG (j := 34) (b := true) rfl (decide_eq_true c163) rfl) rfl rfl (fun w' hJ => by obtain ⟨hB, H74, H75, H101, H118⟩ := hJ; have hc := record_May.ok a1 w' c164; rw [q169] at hc; refine D.call (vs := [.agg #[S a1.name, .int .u16 a1.ty, .int .u16 a1.cls, .int .u32 a1.ttl, S a1.data]]) cf11 hc rfl rfl ?_; rintro _ w2 ⟨rfl, e2⟩; exact ⟨rfl, e2⟩) ?_
                  refine QT.do (v := .agg #[S a1.name, .int .u16 a1.ty, .int .u16 a1.cls, .int .u32 a3, S a1.data]) rfl (by decide +kernel) (wantG (j := 34) (b := true) rfl (decide_eq_true c163) rfl) rfl rfl (fun w' hJ => by obtain ⟨hB, H74, H75, H101, H118⟩ := hJ; exact D.loadA (j := 0) (us := [S a1.name, .int .u16 a1.ty, .int .u16 a1.cls, .int .u32 a3, S a1.data]) ag25 H101.cs rfl rfl rfl rfl rfl ⟨rfl, Ext.refl _⟩) ?_
                  rcases (Classical.em (record_May.pre (⟨a1.name, a1.ty, a1.cls, a3, a1.data⟩ : RR))).symm with c170 | c170
                  · rw [if_neg c170] at h; cases h
                  rw [if_pos c170] at h
                  obtain ⟨r174, q175, h⟩ := lt_elim h
                  refine QT.do (v := .bool r174) rfl (by decide +kernel) (wantG (j := 34) (b := true) rfl (decide_eq_true c163) rfl) rfl rfl (fun w' hJ => by obtain ⟨hB, H74, H75, H101, H118⟩ := hJ; have hc := record_May.ok (⟨a1.name, a1.ty, a1.cls, a3, a1.data⟩ : RR) w' c170; rw [q175] at hc; refine D.call (vs := [.agg #[S a1.name, .int .u16 a1.ty, .int .u16 a1.cls, .int .u32 a3, S a1.data]]) cf11 hc rfl rfl ?_; rintro _ w2 ⟨rfl, e2⟩; exact ⟨rfl, e2⟩) ?_
                  refine QT.do (v := .bool (r168 == r174)) rfl (by decide +kernel) (wantG (j := 34) (b := true) rfl (decide_eq_true c163) rfl) rfl rfl (fun w' hJ => by obtain ⟨hB, H74, H75, H101, H118⟩ := hJ; exact D.eqlB Try.underlying4 rfl rfl rfl ⟨rfl, Ext.refl _⟩) ?_
                  refine QT.do (v := .bool (r168 == r174)) rfl (by decide +kernel) rfl rfl rfl (fun w' hJ => by obtain ⟨hB, H74, H75, H101, H118⟩ := hJ; exact D.pick true (v := .bool (r168 == r174)) (congrArg Value.bool (decide_eq_true c163)) rfl rfl ⟨rfl, Ext.refl _⟩) ?_
                  refine QT.do (v := .bool (r168 == r174)) rfl (by decide +kernel) rfl rfl rfl (fun w' hJ => by obtain ⟨hB, H74, H75, H101, H118⟩ := hJ; exact D.asn (v := .bool (r168 == r174)) rfl rfl ⟨rfl, Ext.refl _⟩) ?_
                  refine QT.nil fun w176 hC => ?_
                  obtain ⟨hB, H74, H75, H101, H118⟩ := hC
                  refine hM121 _ _ ?_
                  refine X.ret ?_
                  injection h with h
                  subst h
                  exact hR _ _ _ (ret1 (v := .bool (r168 == r174)) rfl rfl) ⟨rfl, ext_of_below hB⟩
                · rw [if_neg c163] at h
                  refine QT.off rfl (wantG0 (j := 34) (b := true) rfl (decide_eq_false c163) rfl) rfl rfl ?_
                  refine QT.off rfl (wantG0 (j := 34) (b := true) rfl (decide_eq_false c163) rfl) rfl rfl ?_
                  refine QT.off rfl (wantG0 (j := 34) (b := true) rfl (decide_eq_false c163) rfl) rfl rfl ?_
                  refine QT.off rfl (wantG0 (j := 34) (b := true) rfl (decide_eq_false c163) rfl) rfl rfl ?_
                  refine QT.off rfl (wantG0 (j := 34) (b := true) rfl (decide_eq_false c163) rfl) rfl rfl ?_
                  refine QT.do (v := .bool false) rfl (by decide +kernel) rfl rfl rfl (fun w' hJ => by obtain ⟨hB, H74, H75, H101, H118⟩ := hJ; exact D.pick false (v := .bool false) (congrArg Value.bool (decide_eq_false c163)) rfl rfl ⟨rfl, Ext.refl _⟩) ?_
                  refine QT.do (v := .bool false) rfl (by decide +kernel) rfl rfl rfl (fun w' hJ => by obtain ⟨hB, H74, H75, H101, H118⟩ := hJ; exact D.asn (v := .bool false) rfl rfl ⟨rfl, Ext.refl _⟩) ?_
                  refine QT.nil fun w177 hC => ?_
                  obtain ⟨hB, H74, H75, H101, H118⟩ := hC
                  refine hM121 _ _ ?_
                  refine X.ret ?_
                  injection h with h
                  subst h
                  exact hR _ _ _ (ret1 (v := .bool false) rfl rfl) ⟨rfl, ext_of_below hB⟩
              · rw [if_neg c152] at h
                refine QT.off rfl (wantG0 (j := 26) (b := false) rfl ((congrArg (!·) ((Bool.eq_false_iff.2 c152)))) rfl) rfl rfl ?_
                refine QT.off rfl (wantG0 (j := 26) (b := false) rfl ((congrArg (!·) ((Bool.eq_false_iff.2 c152)))) rfl) rfl rfl ?_
                refine QT.off rfl (wantG0 (j := 26) (b := false) rfl ((congrArg (!·) ((Bool.eq_false_iff.2 c152)))) rfl) rfl rfl ?_
                refine QT.off rfl (wantG0 (j := 26) (b := false) rfl ((congrArg (!·) ((Bool.eq_false_iff.2 c152)))) rfl) rfl rfl ?_
                refine QT.off rfl (wantG0 (j := 26) (b := false) rfl ((congrArg (!·) ((Bool.eq_false_iff.2 c152)))) rfl) rfl rfl ?_
                refine QT.do (v := .bool true) rfl (by decide +kernel) (wantG (j := 21) (b := true) rfl (c146) rfl) rfl rfl (fun w' hJ => by obtain ⟨hB, H74, H75, H101, H118⟩ := hJ; exact D.pick true (v := .bool true) (congrArg Value.bool ((congrArg (!·) ((Bool.eq_false_iff.2 c152))))) rfl rfl ⟨rfl, Ext.refl _⟩) ?_
                refine QT.do (v := .bool true) rfl (by decide +kernel) rfl rfl rfl (fun w' hJ => by obtain ⟨hB, H74, H75, H101, H118⟩ := hJ; exact D.pick true (v := .bool true) (congrArg Value.bool (c146)) rfl rfl ⟨rfl, Ext.refl _⟩) ?_
                refine QT.do (v := .bool true) rfl (by decide +kernel) rfl rfl rfl (fun w' hJ => by obtain ⟨hB, H74, H75, H101, H118⟩ := hJ; exact D.mv (v := .bool true) rfl rfl ⟨rfl, Ext.refl _⟩) ?_
                refine QT.do (v := .agg #[S a1.name, .int .u16 a1.ty, .int .u16 a1.cls, .int .u32 a1.ttl, S a1.data]) rfl (by decide +kernel) (wantG (j := 34) (b := true) rfl (rfl) rfl) rfl rfl (fun w' hJ => by obtain ⟨hB, H74, H75, H101, H118⟩ := hJ; exact D.loadA (j := 0) (us := [S a1.name, .int .u16 a1.ty, .int .u16 a1.cls, .int .u32 a1.ttl, S a1.data]) ag25 H74.cs rfl rfl rfl rfl rfl ⟨rfl, Ext.refl _⟩) ?_
                rcases (Classical.em (record_May.pre a1)).symm with c178 | c178
                · rw [if_neg c178] at h; cases h
                rw [if_pos c178] at h
                obtain ⟨r182, q183, h⟩ := lt_elim h
                refine QT.do (v := .bool r182) rfl (by decide +kernel) (wantG (j := 34) (b := true) rfl (rfl) rfl) rfl rfl (fun w' hJ => by obtain ⟨hB, H74, H75, H101, H118⟩ := hJ; have hc := record_May.ok a1 w' c178; rw [q183] at hc; refine D.call (vs := [.agg #[S a1.name, .int .u16 a1.ty, .int .u16 a1.cls, .int .u32 a1.ttl, S a1.data]]) cf11 hc rfl rfl ?_; rintro _ w2 ⟨rfl, e2⟩; exact ⟨rfl, e2⟩) ?_
                refine QT.do (v := .agg #[S a1.name, .int .u16 a1.ty, .int .u16 a1.cls, .int .u32 a3, S a1.data]) rfl (by decide +kernel) (wantG (j := 34) (b := true) rfl (rfl) rfl) rfl rfl (fun w' hJ => by obtain ⟨hB, H74, H75, H101, H118⟩ := hJ; exact D.loadA (j := 0) (us := [S a1.name, .int .u16 a1.ty, .int .u16 a1.cls, .int .u32 a3, S a1.data]) ag25 H101.cs rfl rfl rfl rfl rfl ⟨rfl, Ext.refl _⟩) ?_
                rcases (Classical.em (record_May.pre (⟨a1.name, a1.ty, a1.cls, a3, a1.data⟩ : RR))).symm with c184 | c184
                · rw [if_neg c184] at h; cases h
                rw [if_pos c184] at h
                obtain ⟨r188, q189, h⟩ := lt_elim h
                refine QT.do (v := .bool r188) rfl (by decide +kernel) (wantG (j := 34) (b := true) rfl (rfl) rfl) rfl rfl (fun w' hJ => by obtain ⟨hB, H74, H75, H101, H118⟩ := hJ; have hc := record_May.ok (⟨a1.name, a1.ty, a1.cls, a3, a1.data⟩ : RR) w' c184; rw [q189] at hc; refine D.call (vs := [.agg #[S a1.name, .int .u16 a1.ty, .int .u16 a1.cls, .int .u32 a3, S a1.data]]) cf11 hc rfl rfl ?_; rintro _ w2 ⟨rfl, e2⟩; exact ⟨rfl, e2⟩) ?_
                refine QT.do (v := .bool (r182 == r188)) rfl (by decide +kernel) (wantG (j := 34) (b := true) rfl (rfl) rfl) rfl rfl (fun w' hJ => by obtain ⟨hB, H74, H75, H101, H118⟩ := hJ; exact D.eqlB Try.underlying4 rfl rfl rfl ⟨rfl, Ext.refl _⟩) ?_
                refine QT.do (v := .bool (r182 == r188)) rfl (by decide +kernel) rfl rfl rfl (fun w' hJ => by obtain ⟨hB, H74, H75, H101, H118⟩ := hJ; exact D.pick true (v := .bool (r182 == r188)) (congrArg Value.bool (rfl)) rfl rfl ⟨rfl, Ext.refl _⟩) ?_
                refine QT.do (v := .bool (r182 == r188)) rfl (by decide +kernel) rfl rfl rfl (fun w' hJ => by obtain ⟨hB, H74, H75, H101, H118⟩ := hJ; exact D.asn (v := .bool (r182 == r188)) rfl rfl ⟨rfl, Ext.refl _⟩) ?_
                refine QT.nil fun w190 hC => ?_
                obtain ⟨hB, H74, H75, H101, H118⟩ := hC
                refine hM121 _ _ ?_
                refine X.ret ?_
                injection h with h
                subst h
                exact hR _ _ _ (ret1 (v := .bool (r182 == r188)) rfl rfl) ⟨rfl, ext_of_below hB⟩
            · rw [if_neg c146] at h
              refine QT.off rfl (wantG0 (j := 21) (b := true) rfl ((Bool.eq_false_iff.2 c146)) rfl) rfl rfl ?_
              refine QT.off rfl (wantG0 (j := 21) (b := true) rfl ((Bool.eq_false_iff.2 c146)) rfl) rfl rfl ?_
              refine QT.off rfl (wantG0 (j := 21) (b := true) rfl ((Bool.eq_false_iff.2 c146)) rfl) rfl rfl ?_
              refine QT.off rfl (wantG0 (j := 21) (b := true) rfl ((Bool.eq_false_iff.2 c146)) rfl) rfl rfl ?_
              refine QT.off rfl (wantG0 (j := 21) (b := true) rfl ((Bool.eq_false_iff.2 c146)) rfl) rfl rfl ?_
              refine QT.off rfl (wantU (j := 26) (b := false) rfl rfl) rfl rfl ?_
              refine QT.off rfl (wantU (j := 26) (b := false) rfl rfl) rfl rfl ?_
              refine QT.off rfl (wantU (j := 26) (b := false) rfl rfl) rfl rfl ?_
              refine QT.off rfl (wantU (j := 26) (b := false) rfl rfl) rfl rfl ?_
              refine QT.off rfl (wantU (j := 26) (b := false) rfl rfl) rfl rfl ?_
              refine QT.off rfl (wantG0 (j := 21) (b := true) rfl ((Bool.eq_false_iff.2 c146)) rfl) rfl rfl ?_
              refine QT.do (v := .bool false) rfl (by decide +kernel) rfl rfl rfl (fun w' hJ => by obtain ⟨hB, H74, H75, H101, H118⟩ := hJ; exact D.pick false (v := .bool false) (congrArg Value.bool ((Bool.eq_false_iff.2 c146))) rfl rfl ⟨rfl, Ext.refl _⟩) ?_
              refine QT.do (v := .bool false) rfl (by decide +kernel) rfl rfl rfl (fun w' hJ => by obtain ⟨hB, H74, H75, H101, H118⟩ := hJ; exact D.mv (v := .bool false) rfl rfl ⟨rfl, Ext.refl _⟩) ?_
              refine QT.off rfl (wantG0 (j := 34) (b := true) rfl (rfl) rfl) rfl rfl ?_
              refine QT.off rfl (wantG0 (j := 34) (b := true) rfl (rfl) rfl) rfl rfl ?_
              refine QT.off rfl (wantG0 (j := 34) (b := true) rfl (rfl) rfl) rfl rfl ?_
              refine QT.off rfl (wantG0 (j := 34) (b := true) rfl (rfl) rfl) rfl rfl ?_
              refine QT.off rfl (wantG0 (j := 34) (b := true) rfl (rfl) rfl) rfl rfl ?_
              refine QT.do (v := .bool false) rfl (by decide +kernel) rfl rfl rfl (fun w' hJ => by obtain ⟨hB, H74, H75, H101, H118⟩ := hJ; exact D.pick false (v := .bool false) (congrArg Value.bool (rfl)) rfl rfl ⟨rfl, Ext.refl _⟩) ?_
              refine QT.do (v := .bool false) rfl (by decide +kernel) rfl rfl rfl (fun w' hJ => by obtain ⟨hB, H74, H75, H101, H118⟩ := hJ; exact D.asn (v := .bool false) rfl rfl ⟨rfl, Ext.refl _⟩) ?_
              refine QT.nil fun w191 hC => ?_
              obtain ⟨hB, H74, H75, H101, H118⟩ := hC
              refine hM121 _ _ ?_
              refine X.ret ?_
              injection h with h
              subst h
              exact hR _ _ _ (ret1 (v := .bool false) rfl rfl) ⟨rfl, ext_of_below hB⟩
        · rw [if_neg c128] at h
          refine QT.off rfl (wantG0 (j := 6) (b := true) rfl ((Bool.eq_false_iff.2 c128)) rfl) rfl rfl ?_
          refine QT.off rfl (wantG0 (j := 6) (b := true) rfl ((Bool.eq_false_iff.2 c128)) rfl) rfl rfl ?_
          refine QT.off rfl (wantG0 (j := 6) (b := true) rfl ((Bool.eq_false_iff.2 c128)) rfl) rfl rfl ?_
          refine QT.off rfl (wantG0 (j := 6) (b := true) rfl ((Bool.eq_false_iff.2 c128)) rfl) rfl rfl ?_
          refine QT.do (v := .bool false) rfl (by decide +kernel) rfl rfl rfl (fun w' hJ => by obtain ⟨hB, H74, H75, H101, H118⟩ := hJ; exact D.pick false (v := .bool false) (congrArg Value.bool ((Bool.eq_false_iff.2 c128))) rfl rfl ⟨rfl, Ext.refl _⟩) ?_
          refine QT.do (v := .bool false) rfl (by decide +kernel) rfl rfl rfl (fun w' hJ => by obtain ⟨hB, H74, H75, H101, H118⟩ := hJ; exact D.mv (v := .bool false) rfl rfl ⟨rfl, Ext.refl _⟩) ?_
          refine QT.off rfl (wantG0 (j := 12) (b := true) rfl (rfl) rfl) rfl rfl ?_
          refine QT.off rfl (wantG0 (j := 12) (b := true) rfl (rfl) rfl) rfl rfl ?_
          refine QT.off rfl (wantG0 (j := 12) (b := true) rfl (rfl) rfl) rfl rfl ?_
          refine QT.off rfl (wantG0 (j := 12) (b := true) rfl (rfl) rfl) rfl rfl ?_
          refine QT.off rfl (wantG0 (j := 12) (b := true) rfl (rfl) rfl) rfl rfl ?_
          refine QT.off rfl (wantG0 (j := 12) (b := true) rfl (rfl) rfl) rfl rfl ?_
          refine QT.off rfl (wantG0 (j := 12) (b := true) rfl (rfl) rfl) rfl rfl ?_
          refine QT.do (v := .bool false) rfl (by decide +kernel) rfl rfl rfl (fun w' hJ => by obtain ⟨hB, H74, H75, H101, H118⟩ := hJ; exact D.pick false (v := .bool false) (congrArg Value.bool (rfl)) rfl rfl ⟨rfl, Ext.refl _⟩) ?_
          refine QT.do (v := .bool false) rfl (by decide +kernel) rfl rfl rfl (fun w' hJ => by obtain ⟨hB, H74, H75, H101, H118⟩ := hJ; exact D.mv (v := .bool false) rfl rfl ⟨rfl, Ext.refl _⟩) ?_
          refine QT.off rfl (wantG0 (j := 21) (b := true) rfl (rfl) rfl) rfl rfl ?_
          refine QT.off rfl (wantG0 (j := 21) (b := true) rfl (rfl) rfl) rfl rfl ?_
          refine QT.off rfl (wantG0 (j := 21) (b := true) rfl (rfl) rfl) rfl rfl ?_
          refine QT.off rfl (wantG0 (j := 21) (b := true) rfl (rfl) rfl) rfl rfl ?_
          refine QT.off rfl (wantG0 (j := 21) (b := true) rfl (rfl) rfl) rfl rfl ?_
          refine QT.off rfl (wantU (j := 26) (b := false) rfl rfl) rfl rfl ?_
          refine QT.off rfl (wantU (j := 26) (b := false) rfl rfl) rfl rfl ?_
          refine QT.off rfl (wantU (j := 26) (b := false) rfl rfl) rfl rfl ?_
          refine QT.off rfl (wantU (j := 26) (b := false) rfl rfl) rfl rfl ?_
          refine QT.off rfl (wantU (j := 26) (b := false) rfl rfl) rfl rfl ?_
          refine QT.off rfl (wantG0 (j := 21) (b := true) rfl (rfl) rfl) rfl rfl ?_
          refine QT.do (v := .bool false) rfl (by decide +kernel) rfl rfl rfl (fun w' hJ => by obtain ⟨hB, H74, H75, H101, H118⟩ := hJ; exact D.pick false (v := .bool false) (congrArg Value.bool (rfl)) rfl rfl ⟨rfl, Ext.refl _⟩) ?_
          refine QT.do (v := .bool false) rfl (by decide +kernel) rfl rfl rfl (fun w' hJ => by obtain ⟨hB, H74, H75, H101, H118⟩ := hJ; exact D.mv (v := .bool false) rfl rfl ⟨rfl, Ext.refl _⟩) ?_
          refine QT.off rfl (wantG0 (j := 34) (b := true) rfl (rfl) rfl) rfl rfl ?_
          refine QT.off rfl (wantG0 (j := 34) (b := true) rfl (rfl) rfl) rfl rfl ?_
          refine QT.off rfl (wantG0 (j := 34) (b := true) rfl (rfl) rfl) rfl rfl ?_
          refine QT.off rfl (wantG0 (j := 34) (b := true) rfl (rfl) rfl) rfl rfl ?_
          refine QT.off rfl (wantG0 (j := 34) (b := true) rfl (rfl) rfl) rfl rfl ?_
          refine QT.do (v := .bool false) rfl (by decide +kernel) rfl rfl rfl (fun w' hJ => by obtain ⟨hB, H74, H75, H101, H118⟩ := hJ; exact D.pick false (v := .bool false) (congrArg Value.bool (rfl)) rfl rfl ⟨rfl, Ext.refl _⟩) ?_
          refine QT.do (v := .bool false) rfl (by decide +kernel) rfl rfl rfl (fun w' hJ => by obtain ⟨hB, H74, H75, H101, H118⟩ := hJ; exact D.asn (v := .bool false) rfl rfl ⟨rfl, Ext.refl _⟩) ?_
          refine QT.nil fun w192 hC => ?_
          obtain ⟨hB, H74, H75, H101, H118⟩ := hC
          refine hM121 _ _ ?_
          refine X.ret ?_
          injection h with h
          subst h
          exact hR _ _ _ (ret1 (v := .bool false) rfl rfl) ⟨rfl, ext_of_below hB⟩
      · rw [if_neg c122] at h
        refine QT.off rfl (wantG0 (j := 1) (b := true) rfl ((Bool.eq_false_iff.2 c122)) rfl) rfl rfl ?_
        refine QT.off rfl (wantG0 (j := 1) (b := true) rfl ((Bool.eq_false_iff.2 c122)) rfl) rfl rfl ?_
        refine QT.off rfl (wantG0 (j := 1) (b := true) rfl ((Bool.eq_false_iff.2 c122)) rfl) rfl rfl ?_
        refine QT.do (v := .bool false) rfl (by decide +kernel) rfl rfl rfl (fun w' hJ => by obtain ⟨hB, H74, H75, H101, H118⟩ := hJ; exact D.pick false (v := .bool false) (congrArg Value.bool ((Bool.eq_false_iff.2 c122))) rfl rfl ⟨rfl, Ext.refl _⟩) ?_
        refine QT.do (v := .bool false) rfl (by decide +kernel) rfl rfl rfl (fun w' hJ => by obtain ⟨hB, H74, H75, H101, H118⟩ := hJ; exact D.mv (v := .bool false) rfl rfl ⟨rfl, Ext.refl _⟩) ?_
        refine QT.off rfl (wantG0 (j := 6) (b := true) rfl (rfl) rfl) rfl rfl ?_
        refine QT.off rfl (wantG0 (j := 6) (b := true) rfl (rfl) rfl) rfl rfl ?_
        refine QT.off rfl (wantG0 (j := 6) (b := true) rfl (rfl) rfl) rfl rfl ?_
        refine QT.off rfl (wantG0 (j := 6) (b := true) rfl (rfl) rfl) rfl rfl ?_
        refine QT.do (v := .bool false) rfl (by decide +kernel) rfl rfl rfl (fun w' hJ => by obtain ⟨hB, H74, H75, H101, H118⟩ := hJ; exact D.pick false (v := .bool false) (congrArg Value.bool (rfl)) rfl rfl ⟨rfl, Ext.refl _⟩) ?_
        refine QT.do (v := .bool false) rfl (by decide +kernel) rfl rfl rfl (fun w' hJ => by obtain ⟨hB, H74, H75, H101, H118⟩ := hJ; exact D.mv (v := .bool false) rfl rfl ⟨rfl, Ext.refl _⟩) ?_
        refine QT.off rfl (wantG0 (j := 12) (b := true) rfl (rfl) rfl) rfl rfl ?_
        refine QT.off rfl (wantG0 (j := 12) (b := true) rfl (rfl) rfl) rfl rfl ?_
        refine QT.off rfl (wantG0 (j := 12) (b := true) rfl (rfl) rfl) rfl rfl ?_
        refine QT.off rfl (wantG0 (j := 12) (b := true) rfl (rfl) rfl) rfl rfl ?_
        refine QT.off rfl (wantG0 (j := 12) (b := true) rfl (rfl) rfl) rfl rfl ?_
        refine QT.off rfl (wantG0 (j := 12) (b := true) rfl (rfl) rfl) rfl rfl ?_
        refine QT.off rfl (wantG0 (j := 12) (b := true) rfl (rfl) rfl) rfl rfl ?_
        refine QT.do (v := .bool false) rfl (by decide +kernel) rfl rfl rfl (fun w' hJ => by obtain ⟨hB, H74, H75, H101, H118⟩ := hJ; exact D.pick false (v := .bool false) (congrArg Value.bool (rfl)) rfl rfl ⟨rfl, Ext.refl _⟩) ?_
        refine QT.do (v := .bool false) rfl (by decide +kernel) rfl rfl rfl (fun w' hJ => by obtain ⟨hB, H74, H75, H101, H118⟩ := hJ; exact D.mv (v := .bool false) rfl rfl ⟨rfl, Ext.refl _⟩) ?_
        refine QT.off rfl (wantG0 (j := 21) (b := true) rfl (rfl) rfl) rfl rfl ?_
        refine QT.off rfl (wantG0 (j := 21) (b := true) rfl (rfl) rfl) rfl rfl ?_
        refine QT.off rfl (wantG0 (j := 21) (b := true) rfl (rfl) rfl) rfl rfl ?_
        refine QT.off rfl (wantG0 (j := 21) (b := true) rfl (rfl) rfl) rfl rfl ?_
        refine QT.off rfl (wantG0 (j := 21) (b := true) rfl (rfl) rfl) rfl rfl ?_
        refine QT.off rfl (wantU (j := 26) (b := false) rfl rfl) rfl rfl ?_
        refine QT.off rfl (wantU (j := 26) (b := false) rfl rfl) rfl rfl ?_
        refine QT.off rfl (wantU (j := 26) (b := false) rfl rfl) rfl rfl ?_
        refine QT.off rfl (wantU (j := 26) (b := false) rfl rfl) rfl rfl ?_
        refine QT.off rfl (wantU (j := 26) (b := false) rfl rfl) rfl rfl ?_
        refine QT.off rfl (wantG0 (j := 21) (b := true) rfl (rfl) rfl) rfl rfl ?_
        refine QT.do (v := .bool false) rfl (by decide +kernel) rfl rfl rfl (fun w' hJ => by obtain ⟨hB, H74, H75, H101, H118⟩ := hJ; exact D.pick false (v := .bool false) (congrArg Value.bool (rfl)) rfl rfl ⟨rfl, Ext.refl _⟩) ?_
        refine QT.do (v := .bool false) rfl (by decide +kernel) rfl rfl rfl (fun w' hJ => by obtain ⟨hB, H74, H75, H101, H118⟩ := hJ; exact D.mv (v := .bool false) rfl rfl ⟨rfl, Ext.refl _⟩) ?_
        refine QT.off rfl (wantG0 (j := 34) (b := true) rfl (rfl) rfl) rfl rfl ?_
        refine QT.off rfl (wantG0 (j := 34) (b := true) rfl (rfl) rfl) rfl rfl ?_
        refine QT.off rfl (wantG0 (j := 34) (b := true) rfl (rfl) rfl) rfl rfl ?_
        refine QT.off rfl (wantG0 (j := 34) (b := true) rfl (rfl) rfl) rfl rfl ?_
        refine QT.off rfl (wantG0 (j := 34) (b := true) rfl (rfl) rfl) rfl rfl ?_
        refine QT.do (v := .bool false) rfl (by decide +kernel) rfl rfl rfl (fun w' hJ => by obtain ⟨hB, H74, H75, H101, H118⟩ := hJ; exact D.pick false (v := .bool false) (congrArg Value.bool (rfl)) rfl rfl ⟨rfl, Ext.refl _⟩) ?_
        refine QT.do (v := .bool false) rfl (by decide +kernel) rfl rfl rfl (fun w' hJ => by obtain ⟨hB, H74, H75, H101, H118⟩ := hJ; exact D.asn (v := .bool false) rfl rfl ⟨rfl, Ext.refl _⟩) ?_
        refine QT.nil fun w193 hC => ?_
        obtain ⟨hB, H74, H75, H101, H118⟩ := hC
        refine hM121 _ _ ?_
        refine X.ret ?_
        injection h with h
        subst h
        exact hR _ _ _ (ret1 (v := .bool false) rfl rfl) ⟨rfl, ext_of_below hB⟩
theorem derricklaw05_RecordSame.ok (a1 : RR) (a2 : RR) (a3 : Int)  (w : World)  (hp : derricklaw05_RecordSame.pre a1 a2 a3) :
    Ret Try.prog 3 ([.agg #[S a1.name, .int .u16 a1.ty, .int .u16 a1.cls, .int .u32 a1.ttl, S a1.data], .agg #[S a2.name, .int .u16 a2.ty, .int .u16 a2.cls, .int .u32 a2.ttl, S a2.data], .int .u32 a3] : List Value).toArray w fun v w' => v = .bool (derricklaw05_RecordSame a1 a2 a3) ∧ Ext w w' := by
  have h := derricklaw05_RecordSame.eq a1 a2 a3 hp
  exact derricklaw05_RecordSame.walk  a1 a2 a3  w  _ h
end Go.Proofs.Ytfcaekghpkpjdaa.K

namespace Go.Proofs.Ytfcaekghpkpjdaa.recordSame
open Go Go.ChangeShapes Go.WideShapes Go.ChangeAt Go.RowKit Go.Proofs.Ytfcaekghpkpjdaa.K
open Go.ChangeMaps (open_string shut_string)
set_option linter.unusedVariables false
theorem own : ownKnob Try.prog.godebug = none := by kernel_rfl
theorem laidOut : laidOutB Try.prog = true := by kernel_rfl
set_option maxRecDepth 100000 in
theorem contract (H : Type) (enc : TypeId × Value → H) (W : World) (base : Nat) (args : Array Value) (ds gs : List (DataW H)) (before : List MemPlace)
    (hval : ∀ (j : Nat) t v, Try.f3.params[j]? = some t → args[j]? = some v → Value.okWide Try.prog W .any base t v)
    (hW : DataW.Whole enc Try.prog Try.f3.params.toList Rows.recordSameSpec.vars false W args.toList ds gs before) :
    Calls Try.prog 3 args W fun e W' => ∃ v, e = .returned v ∧ Rows.recordSameSpec.post enc Try.prog Try.f3 false true false false W args v W' := by
  have hW' := hW
  obtain ⟨p, q, hA0, hV, rfl, hfz, hnd⟩ := hW
  have hA : DataW.TrodAll enc Try.prog W 0 (fun _ => true) true Try.f3.params.toList args.toList ds p := hA0
  rw [Try.params3] at hA hval
  obtain ⟨v0, vs0, d0, ds0, p0, q0, hargs, rfl, rfl, h0, r0⟩ := trodAll_cons hA
  obtain ⟨v1, vs1, d1, ds1, p1, q1, rfl, rfl, rfl, h1, r1⟩ := trodAll_cons r0
  obtain ⟨v2, vs2, d2, ds2, p2, q2, rfl, rfl, rfl, h2, r2⟩ := trodAll_cons r1
  obtain ⟨rfl, rfl, rfl⟩ := trodAll_nil r2
  obtain rfl : args = #[v0, v1, v2] := by cases args; simp_all
  obtain ⟨rfl, rfl⟩ := trodVars_none hV
  have k0 := h0
  have lt0 : ∀ x ∈ p0, x.block < W.heap.size := by obtain ⟨m, hm⟩ := k0; exact DataW.trod_lt m _ _ _ hm
  obtain ⟨u0, hu0⟩ := h0
  obtain ⟨cs0, rfl, _⟩ := okWide_struct Try.underlying25 (hval 0 25 v0 rfl rfl)
  obtain ⟨a0, ha0, w0⟩ := dec_RR _ _ _ _ _ _ _ _ _ hu0
  obtain rfl : cs0 = (eRR.enc a0).toArray := Array.ext' ha0
  have k1 := h1
  have lt1 : ∀ x ∈ p1, x.block < W.heap.size := by obtain ⟨m, hm⟩ := k1; exact DataW.trod_lt m _ _ _ hm
  obtain ⟨u1, hu1⟩ := h1
  obtain ⟨cs1, rfl, _⟩ := okWide_struct Try.underlying25 (hval 1 25 v1 rfl rfl)
  obtain ⟨a1, ha1, w1⟩ := dec_RR _ _ _ _ _ _ _ _ _ hu1
  obtain rfl : cs1 = (eRR.enc a1).toArray := Array.ext' ha1
  have k2 := h2
  have lt2 : ∀ x ∈ p2, x.block < W.heap.size := by obtain ⟨m, hm⟩ := k2; exact DataW.trod_lt m _ _ _ hm
  obtain ⟨u2, hu2⟩ := h2
  obtain ⟨x2, rfl⟩ := okWide_int Try.underlying23 (hval 2 23 v2 rfl rfl)
  obtain ⟨a2, ha2, w2⟩ := (dec_int Try.underlying23) _ _ _ _ _ _ _ _ _ hu2
  have e2 := list1 ha2
  rw [e2] at k2
  have hok := derricklaw05_RecordSame.ok a0 a1 a2  W  trivial
  clear hA0
  cases e2
  refine Calls.mono hok fun e W' ⟨v, he, hv, hx⟩ => ?_
  have bel := below_of_ext hx
  subst he hv
  exact ⟨_, rfl, _, _, _, [], _, [], hW', trodAll_mk1 (shut_bool Try.underlying4 _), (trodAll_cons_mk (Below.trod laidOut (by kernel_rfl) (of_decide_eq_true (by kernel_rfl)) k0 bel lt0) (trodAll_cons_mk (Below.trod laidOut (by kernel_rfl) (of_decide_eq_true (by kernel_rfl)) k1 bel lt1) (trodAll_cons_mk (Below.trod laidOut (by kernel_rfl) (of_decide_eq_true (by kernel_rfl)) k2 bel lt2) trodAll_mk0))), rfl, bel.frame _, fun h => by cases h⟩
set_option maxRecDepth 100000 in
theorem lifted (os : Os) (started : os.Started) (H : Type) (enc : TypeId × Value → H) :
    ReturnsInHanded {} Try.checked os 3 .any (Rows.recordSameSpec.pre6 enc Try.prog Try.f3 Rows.recordSameRow.domain false) (Rows.recordSameSpec.post enc Try.prog Try.f3 false true false false) := by
  refine returnsInHanded_of_change (C := Try.checked) own started (by kernel_rfl) Try.func3
    (ChangeSpec.witness6 (enc := enc) (C := Try.checked) false ⟨#[], #[.agg #[.string ByteArray.empty, .int .u16 0, .int .u16 0, .int .u32 0, .string ByteArray.empty], .agg #[.string ByteArray.empty, .int .u16 0, .int .u16 0, .int .u32 0, .string ByteArray.empty], .int .u32 0], []⟩ 8 (by kernel_rfl) (by kernel_rfl) (by kernel_rfl) (by kernel_rfl)) ?_
  intro W base args ds gs before hval hW _ _
  exact contract H enc W base args ds gs before hval hW
theorem over : Rows.recordSameRow.holds Try.pinned (OpenSpec.ofChange Rows.recordSameSpec) :=
  OpenClaim.holds_of_wide 3 Try.f3 rfl rfl rfl rfl rfl rfl rfl ⟨rfl, rfl, rfl, rfl, rfl⟩ rfl rfl rfl rfl rfl (by kernel_rfl) Try.func3 (by kernel_rfl)
    (of_decide_eq_true (by kernel_rfl)) (by unfold Func.isWrapper; first | (rw [if_pos (by decide +kernel)]; kernel_rfl) | (rw [if_neg (by decide +kernel)]; exact ⟨rfl, rfl⟩))
    (fun os started H enc _ => lifted os started H enc)
theorem proved : Rows.RecordSameSaid := over
#print axioms proved
end Go.Proofs.Ytfcaekghpkpjdaa.recordSame
namespace Go.Proofs.Ytfcaekghpkpjdaa
/-- The row, under a short name. -/
theorem recordSame_holds : Rows.RecordSameSaid := recordSame.proved
end Go.Proofs.Ytfcaekghpkpjdaa
