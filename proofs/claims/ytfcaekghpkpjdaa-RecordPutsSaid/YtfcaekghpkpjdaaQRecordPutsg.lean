/- Part 7 of what the row of RecordPuts leans on: a library of walks, the pure functions, the walks of the functions. -/
import Derived.Test.YtfcaekghpkpjdaaProg
import Derived.Test.YtfcaekghpkpjdaaQRecordPutsf
/- Walks, printed by a program of this session. -/
namespace Go.Proofs.Ytfcaekghpkpjdaa.K
open Go Go.RowKit Go.Proofs
set_option linter.unusedVariables false
set_option maxRecDepth 100000
set_option maxHeartbeats 4000000
namespace FRe
theorem cf51 : Callable Try.prog 51 := callable Try.func51 (by kernel_rfl) rfl
theorem cf59 : Callable Try.prog 59 := callable Try.func59 (by kernel_rfl) rfl
theorem cf72 : Callable Try.prog 72 := callable Try.func72 (by kernel_rfl) rfl
theorem ti9 : TI Try.prog 9 (S []) 1 16 := by unfold TI; kernel_rfl
theorem fa30_0 : FA Try.prog 30 0 0 := fa Try.underlying30 rfl ti9 rfl rfl
theorem sc9 : Sca Try.prog 9 := sca Try.underlying9 rfl
end FRe
open FRe
theorem derrickref04_May.walk (a1 : Int) (a2 : Str)  (w : World)  (res : Bool) (h : derrickref04_May.f a1 a2 = some res) :
  Ret Try.prog 52 ([.int .u16 a1, S a2] : List Value).toArray w fun v w' => v = .bool res ∧ Ext w w' := by
 unfold derrickref04_May.f at h
 refine enterX Try.func52 rfl Try.ntmps52 rfl (fun R hR => ?_)
 have hB := Below.refl w.heap.size w
 refine X.seq fun M3 hM4 => ?_
 refine X.region ?_
 refine XO.do rfl (D.asn (v := .bool false) rfl rfl ?_)
 refine XO.nil ?_
 refine hM4 _ _ ?_
 refine X.seq fun M10 hM11 => ?_
 refine X.seq fun M12 hM13 => ?_
 refine X.region ?_
 refine XO.do rfl (D.mv (v := S a2) rfl rfl ?_)
 refine XO.do rfl (D.lenS Try.underlying9 rfl rfl ?_)
 refine XO.do rfl (D.gtr rfl rfl rfl ?_)
 refine XO.nil ?_
 refine hM13 _ _ ?_
 by_cases c14 : 65535 < (a2.length : Int)
 ·rw [if_pos c14] at h
  refine X.condT (congrArg Value.bool (decide_eq_true c14)) ?_
  refine X.seq fun M15 hM16 => ?_
  refine X.region ?_
  refine XO.do rfl (D.asn (v := .bool false) rfl rfl ?_)
  refine XO.nil ?_
  refine hM16 _ _ ?_
  refine X.ret ?_
  injection h with h
  subst h
  exact hR _ _ _ (ret1 (v := .bool false) rfl rfl) ⟨rfl, ext_of_below hB⟩
 ·rw [if_neg c14] at h
  refine X.condF (congrArg Value.bool (decide_eq_false c14)) ?_
  refine X.skip ?_
  refine hM11 _ _ ?_
  refine X.seq fun M105 hM106 => ?_
  refine X.seq fun M107 hM108 => ?_
  refine X.region ?_
  refine XO.do rfl (D.mv (v := .int .u16 a1) rfl rfl ?_)
  refine XO.nil ?_
  refine hM108 _ _ ?_
  refine X.block ?_
  refine X.seq fun M109 hM110 => ?_
  refine X.region ?_
  refine XO.do rfl (D.eql rfl rfl rfl ?_)
  refine XO.do rfl (D.asn (v := .bool (a1 == 1)) rfl rfl ?_)
  refine XO.nil ?_
  refine hM110 _ _ ?_
  by_cases c111 : a1 = 1
  ·rw [if_pos c111] at h
   refine X.condT (congrArg Value.bool (beq_iff_eq.2 c111)) ?_
   refine X.seq fun M112 hM113 => ?_
   refine X.region ?_
   refine XO.do rfl (D.mv (v := S a2) rfl rfl ?_)
   refine XO.do rfl (D.lenS Try.underlying9 rfl rfl ?_)
   refine XO.do rfl (D.eql rfl rfl rfl ?_)
   refine XO.do rfl (D.asn (v := .bool ((a2.length : Int) == 4)) rfl rfl ?_)
   refine XO.nil ?_
   refine hM113 _ _ ?_
   refine X.ret ?_
   injection h with h
   subst h
   exact hR _ _ _ (ret1 (v := .bool ((a2.length : Int) == 4)) rfl rfl) ⟨rfl, ext_of_below hB⟩
  ·rw [if_neg c111] at h
   refine X.condF (congrArg Value.bool (beq_eq_false_iff_ne.2 c111)) ?_
   refine X.seq fun M114 hM115 => ?_
   refine X.region ?_
   refine XO.do rfl (D.eql rfl rfl rfl ?_)
   refine XO.do rfl (D.asn (v := .bool (a1 == 28)) rfl rfl ?_)
   refine XO.nil ?_
   refine hM115 _ _ ?_
   by_cases c116 : a1 = 28
   ·rw [if_pos c116] at h
    refine X.condT (congrArg Value.bool (beq_iff_eq.2 c116)) ?_
    refine X.seq fun M117 hM118 => ?_
    refine X.region ?_
    refine XO.do rfl (D.mv (v := S a2) rfl rfl ?_)
    refine XO.do rfl (D.lenS Try.underlying9 rfl rfl ?_)
    refine XO.do rfl (D.eql rfl rfl rfl ?_)
    refine XO.do rfl (D.asn (v := .bool ((a2.length : Int) == 16)) rfl rfl ?_)
    refine XO.nil ?_
    refine hM118 _ _ ?_
    refine X.ret ?_
    injection h with h
    subst h
    exact hR _ _ _ (ret1 (v := .bool ((a2.length : Int) == 16)) rfl rfl) ⟨rfl, ext_of_below hB⟩
   ·rw [if_neg c116] at h
    refine X.condF (congrArg Value.bool (beq_eq_false_iff_ne.2 c116)) ?_
    refine X.cut (fun f127 w126 => ∃ x125 : Bool, f127 1 = S a2 ∧ f127 10 = .int .u16 a1 ∧ f127 21 = .bool x125 ∧ Below w.heap.size w w126 ∧ derrickref04_May.j1 a2 a1 x125 = some res) ?_ ?_
    ·refine X.seq fun M191 hM192 => ?_
     refine X.region ?_
     refine XO.do rfl (D.eql rfl rfl rfl ?_)
     refine XO.do rfl (D.asn (v := .bool (a1 == 2)) rfl rfl ?_)
     refine XO.nil ?_
     refine hM192 _ _ ?_
     by_cases c193 : a1 = 2
     ·rw [if_pos c193] at h
      refine X.condT (congrArg Value.bool (beq_iff_eq.2 c193)) ?_
      refine X.skip ?_
      exact ⟨(a1 == 2), rfl, rfl, rfl, hB, h⟩
     ·rw [if_neg c193] at h
      refine X.condF (congrArg Value.bool (beq_eq_false_iff_ne.2 c193)) ?_
      refine X.seq fun M194 hM195 => ?_
      refine X.region ?_
      refine XO.do rfl (D.eql rfl rfl rfl ?_)
      refine XO.do rfl (D.asn (v := .bool (a1 == 5)) rfl rfl ?_)
      refine XO.nil ?_
      refine hM195 _ _ ?_
      by_cases c196 : a1 = 5
      ·rw [if_pos c196] at h
       refine X.condT (congrArg Value.bool (beq_iff_eq.2 c196)) ?_
       refine X.skip ?_
       exact ⟨(a1 == 5), rfl, rfl, rfl, hB, h⟩
      ·rw [if_neg c196] at h
       refine X.condF (congrArg Value.bool (beq_eq_false_iff_ne.2 c196)) ?_
       refine X.region ?_
       refine XO.do rfl (D.eql rfl rfl rfl ?_)
       refine XO.do rfl (D.asn (v := .bool (a1 == 12)) rfl rfl ?_)
       refine XO.nil ?_
       exact ⟨(a1 == 12), rfl, rfl, rfl, hB, h⟩
    ·intro f127 w126 hI
     obtain ⟨x125, s128, s129, s130, hB, h⟩ := hI
     refine X.fr (d := 1) s128 ?_
     refine X.fr (d := 10) s129 ?_
     refine X.fr (d := 21) s130 ?_
     unfold derrickref04_May.j1 at h
     by_cases c131 : x125 = true
     ·rw [if_pos c131] at h
      refine X.condT (congrArg Value.bool (c131)) ?_
      refine X.seq fun M132 hM133 => ?_
      refine X.region ?_
      refine XO.do rfl (D.mv (v := S a2) rfl rfl ?_)
      rcases (Classical.em (derrickref02_May.pre a2)).symm with c134 | c134
      ·rw [if_neg c134] at h; cases h
      rw [if_pos c134] at h
      obtain ⟨r138, q139, h⟩ := lt_elim h
      have hc137 := derrickref02_May.ok a2 w126 c134 
      rw [q139] at hc137
      clear q139
      refine XO.do rfl (D.call (vs := [S a2]) cf51 hc137 rfl rfl ?_)
      rintro _ w135 ⟨rfl, e136⟩
      clear hc137
      replace hB := below_ext hB e136
      clear e136
      refine XO.do rfl (D.asn (v := .bool r138) rfl rfl ?_)
      refine XO.nil ?_
      refine hM133 _ _ ?_
      refine X.ret ?_
      injection h with h
      subst h
      exact hR _ _ _ (ret1 (v := .bool r138) rfl rfl) ⟨rfl, ext_of_below hB⟩
     ·rw [if_neg c131] at h
      refine X.condF (congrArg Value.bool ((Bool.eq_false_iff.2 c131))) ?_
      refine X.seq fun M140 hM141 => ?_
      refine X.region ?_
      refine XO.do rfl (D.eql rfl rfl rfl ?_)
      refine XO.do rfl (D.asn (v := .bool (a1 == 15)) rfl rfl ?_)
      refine XO.nil ?_
      refine hM141 _ _ ?_
      by_cases c142 : a1 = 15
      ·rw [if_pos c142] at h
       refine X.condT (congrArg Value.bool (beq_iff_eq.2 c142)) ?_
       refine X.seq fun M143 hM144 => ?_
       refine X.region ?_
       refine XO.do rfl (D.mv (v := S a2) rfl rfl ?_)
       refine XO.do rfl (D.lenS Try.underlying9 rfl rfl ?_)
       refine XO.do rfl (D.gtr rfl rfl rfl ?_)
       refine XO.do rfl (D.mv (v := .bool (decide (2 < (a2.length : Int)))) rfl rfl ?_)
       by_cases c145 : 2 < (a2.length : Int)
       ·rw [if_pos c145] at h
        refine XO.do (wantG (j := 3) (b := true) rfl (decide_eq_true c145) rfl) (D.mv (v := S a2) rfl rfl ?_)
        rcases (Classical.em (2 ≤ (a2.length : Int))).symm with c146 | c146
        ·rw [if_neg c146] at h; cases h
        rw [if_pos c146] at h
        refine XO.do (wantG (j := 3) (b := true) rfl (decide_eq_true c145) rfl) (D.sliceSlo (i := (2 : Int)) Try.underlying9 rfl rfl (by first | decide | simp | omega) c146 rfl ?_)
        rcases (Classical.em (derrickref02_May.pre (a2.drop (2 : Int).toNat))).symm with c147 | c147
        ·rw [if_neg c147] at h; cases h
        rw [if_pos c147] at h
        obtain ⟨r151, q152, h⟩ := lt_elim h
        have hc150 := derrickref02_May.ok (a2.drop (2 : Int).toNat) w126 c147 
        rw [q152] at hc150
        clear q152
        refine XO.do (wantG (j := 3) (b := true) rfl (decide_eq_true c145) rfl) (D.call (vs := [S (a2.drop (2 : Int).toNat)]) cf51 hc150 rfl rfl ?_)
        rintro _ w148 ⟨rfl, e149⟩
        clear hc150
        replace hB := below_ext hB e149
        clear e149
        refine XO.do rfl (D.pick true (v := .bool r151) (congrArg Value.bool (decide_eq_true c145)) rfl rfl ?_)
        refine XO.do rfl (D.asn (v := .bool r151) rfl rfl ?_)
        refine XO.nil ?_
        refine hM144 _ _ ?_
        refine X.ret ?_
        injection h with h
        subst h
        exact hR _ _ _ (ret1 (v := .bool r151) rfl rfl) ⟨rfl, ext_of_below hB⟩
       ·rw [if_neg c145] at h
        refine XO.off (wantG0 (j := 3) (b := true) rfl (decide_eq_false c145) rfl) rfl rfl ?_
        refine XO.off (wantG0 (j := 3) (b := true) rfl (decide_eq_false c145) rfl) rfl rfl ?_
        refine XO.off (wantG0 (j := 3) (b := true) rfl (decide_eq_false c145) rfl) rfl rfl ?_
        refine XO.do rfl (D.pick false (v := .bool false) (congrArg Value.bool (decide_eq_false c145)) rfl rfl ?_)
        refine XO.do rfl (D.asn (v := .bool false) rfl rfl ?_)
        refine XO.nil ?_
        refine hM144 _ _ ?_
        refine X.ret ?_
        injection h with h
        subst h
        exact hR _ _ _ (ret1 (v := .bool false) rfl rfl) ⟨rfl, ext_of_below hB⟩
      ·rw [if_neg c142] at h
       refine X.condF (congrArg Value.bool (beq_eq_false_iff_ne.2 c142)) ?_
       refine X.seq fun M153 hM154 => ?_
       refine X.region ?_
       refine XO.do rfl (D.eql rfl rfl rfl ?_)
       refine XO.do rfl (D.asn (v := .bool (a1 == 6)) rfl rfl ?_)
       refine XO.nil ?_
       refine hM154 _ _ ?_
       by_cases c155 : a1 = 6
       ·rw [if_pos c155] at h
        refine X.condT (congrArg Value.bool (beq_iff_eq.2 c155)) ?_
        refine X.seq fun M156 hM157 => ?_
        refine X.region ?_
        refine XO.do rfl (D.mv (v := S a2) rfl rfl ?_)
        rcases (Classical.em (derrickref04_size.pre a2)).symm with c158 | c158
        ·rw [if_neg c158] at h; cases h
        rw [if_pos c158] at h
        obtain ⟨r162, q163, h⟩ := lt_elim h
        have hc161 := derrickref04_size.ok a2 w126 c158 
        rw [q163] at hc161
        clear q163
        refine XO.do rfl (D.call (vs := [S a2]) cf59 hc161 rfl rfl ?_)
        rintro _ w159 ⟨rfl, e160⟩
        clear hc161
        replace hB := below_ext hB e160
        clear e160
        refine XO.do rfl (D.asn (v := .int .i64 r162) rfl rfl ?_)
        refine XO.nil ?_
        refine hM157 _ _ ?_
        refine X.seq fun M164 hM165 => ?_
        refine X.region ?_
        refine XO.do rfl (D.mv (v := S a2) rfl rfl ?_)
        refine XO.do rfl (D.mv (v := .int .i64 r162) rfl rfl ?_)
        rcases (Classical.em (0 ≤ r162)).symm with c166 | c166
        ·rw [if_neg c166] at h; cases h
        rw [if_pos c166] at h
        rcases (Classical.em (r162 ≤ (a2.length : Int))).symm with c167 | c167
        ·rw [if_neg c167] at h; cases h
        rw [if_pos c167] at h
        refine XO.do rfl (D.sliceSlo (i := r162) Try.underlying9 rfl rfl c166 c167 rfl ?_)
        rcases (Classical.em (derrickref04_size.pre (a2.drop r162.toNat))).symm with c168 | c168
        ·rw [if_neg c168] at h; cases h
        rw [if_pos c168] at h
        obtain ⟨r172, q173, h⟩ := lt_elim h
        have hc171 := derrickref04_size.ok (a2.drop r162.toNat) w159 c168 
        rw [q173] at hc171
        clear q173
        refine XO.do rfl (D.call (vs := [S (a2.drop r162.toNat)]) cf59 hc171 rfl rfl ?_)
        rintro _ w169 ⟨rfl, e170⟩
        clear hc171
        replace hB := below_ext hB e170
        clear e170
        refine XO.do rfl (D.asn (v := .int .i64 r172) rfl rfl ?_)
        refine XO.nil ?_
        refine hM165 _ _ ?_
        refine X.seq fun M174 hM175 => ?_
        refine X.region ?_
        refine XO.do rfl (D.mv (v := .int .i64 r162) rfl rfl ?_)
        refine XO.do rfl (D.gtr rfl rfl rfl ?_)
        refine XO.do rfl (D.mv (v := .bool (decide (0 < r162))) rfl rfl ?_)
        by_cases c176 : 0 < r162
        ·rw [if_pos c176] at h
         refine XO.do (wantG (j := 2) (b := true) rfl (decide_eq_true c176) rfl) (D.mv (v := .int .i64 r172) rfl rfl ?_)
         refine XO.do (wantG (j := 2) (b := true) rfl (decide_eq_true c176) rfl) (D.gtr rfl rfl rfl ?_)
         refine XO.do rfl (D.pick true (v := .bool (decide (0 < r172))) (congrArg Value.bool (decide_eq_true c176)) rfl rfl ?_)
         refine XO.do rfl (D.mv (v := .bool (decide (0 < r172))) rfl rfl ?_)
         by_cases c177 : 0 < r172
         ·rw [if_pos c177] at h
          refine XO.do (wantG (j := 6) (b := true) rfl (decide_eq_true c177) rfl) (D.mv (v := S a2) rfl rfl ?_)
          refine XO.do (wantG (j := 6) (b := true) rfl (decide_eq_true c177) rfl) (D.lenS Try.underlying9 rfl rfl ?_)
          refine XO.do (wantG (j := 6) (b := true) rfl (decide_eq_true c177) rfl) (D.mv (v := .int .i64 r162) rfl rfl ?_)
          refine XO.do (wantG (j := 6) (b := true) rfl (decide_eq_true c177) rfl) (D.mv (v := .int .i64 r172) rfl rfl ?_)
          refine XO.do (wantG (j := 6) (b := true) rfl (decide_eq_true c177) rfl) (D.add rfl rfl rfl ?_)
          refine XO.do (wantG (j := 6) (b := true) rfl (decide_eq_true c177) rfl) (D.add rfl rfl rfl ?_)
          refine XO.do (wantG (j := 6) (b := true) rfl (decide_eq_true c177) rfl) (D.eql rfl rfl rfl ?_)
          refine XO.do rfl (D.pick true (v := .bool ((a2.length : Int) == (w64 ((w64 (r162 + r172)) + 20)))) (congrArg Value.bool (decide_eq_true c177)) rfl rfl ?_)
          refine XO.do rfl (D.asn (v := .bool ((a2.length : Int) == (w64 ((w64 (r162 + r172)) + 20)))) rfl rfl ?_)
          refine XO.nil ?_
          refine hM175 _ _ ?_
          refine X.ret ?_
          injection h with h
          subst h
          exact hR _ _ _ (ret1 (v := .bool ((a2.length : Int) == (w64 ((w64 (r162 + r172)) + 20)))) rfl rfl) ⟨rfl, ext_of_below hB⟩
         ·rw [if_neg c177] at h
          refine XO.off (wantG0 (j := 6) (b := true) rfl (decide_eq_false c177) rfl) rfl rfl ?_
          refine XO.off (wantG0 (j := 6) (b := true) rfl (decide_eq_false c177) rfl) rfl rfl ?_
          refine XO.off (wantG0 (j := 6) (b := true) rfl (decide_eq_false c177) rfl) rfl rfl ?_
          refine XO.off (wantG0 (j := 6) (b := true) rfl (decide_eq_false c177) rfl) rfl rfl ?_
          refine XO.off (wantG0 (j := 6) (b := true) rfl (decide_eq_false c177) rfl) rfl rfl ?_
          refine XO.off (wantG0 (j := 6) (b := true) rfl (decide_eq_false c177) rfl) rfl rfl ?_
          refine XO.off (wantG0 (j := 6) (b := true) rfl (decide_eq_false c177) rfl) rfl rfl ?_
          refine XO.do rfl (D.pick false (v := .bool false) (congrArg Value.bool (decide_eq_false c177)) rfl rfl ?_)
          refine XO.do rfl (D.asn (v := .bool false) rfl rfl ?_)
          refine XO.nil ?_
          refine hM175 _ _ ?_
          refine X.ret ?_
          injection h with h
          subst h
          exact hR _ _ _ (ret1 (v := .bool false) rfl rfl) ⟨rfl, ext_of_below hB⟩
        ·rw [if_neg c176] at h
         refine XO.off (wantG0 (j := 2) (b := true) rfl (decide_eq_false c176) rfl) rfl rfl ?_
         refine XO.off (wantG0 (j := 2) (b := true) rfl (decide_eq_false c176) rfl) rfl rfl ?_
         refine XO.do rfl (D.pick false (v := .bool false) (congrArg Value.bool (decide_eq_false c176)) rfl rfl ?_)
         refine XO.do rfl (D.mv (v := .bool false) rfl rfl ?_)
         refine XO.off (wantG0 (j := 6) (b := true) rfl (rfl) rfl) rfl rfl ?_
         refine XO.off (wantG0 (j := 6) (b := true) rfl (rfl) rfl) rfl rfl ?_
         refine XO.off (wantG0 (j := 6) (b := true) rfl (rfl) rfl) rfl rfl ?_
         refine XO.off (wantG0 (j := 6) (b := true) rfl (rfl) rfl) rfl rfl ?_
         refine XO.off (wantG0 (j := 6) (b := true) rfl (rfl) rfl) rfl rfl ?_
         refine XO.off (wantG0 (j := 6) (b := true) rfl (rfl) rfl) rfl rfl ?_
         refine XO.off (wantG0 (j := 6) (b := true) rfl (rfl) rfl) rfl rfl ?_
         refine XO.do rfl (D.pick false (v := .bool false) (congrArg Value.bool (rfl)) rfl rfl ?_)
         refine XO.do rfl (D.asn (v := .bool false) rfl rfl ?_)
         refine XO.nil ?_
         refine hM175 _ _ ?_
         refine X.ret ?_
         injection h with h
         subst h
         exact hR _ _ _ (ret1 (v := .bool false) rfl rfl) ⟨rfl, ext_of_below hB⟩
       ·rw [if_neg c155] at h
        refine X.condF (congrArg Value.bool (beq_eq_false_iff_ne.2 c155)) ?_
        refine X.seq fun M178 hM179 => ?_
        refine X.region ?_
        refine XO.do rfl (D.eql rfl rfl rfl ?_)
        refine XO.do rfl (D.asn (v := .bool (a1 == 16)) rfl rfl ?_)
        refine XO.nil ?_
        refine hM179 _ _ ?_
        by_cases c180 : a1 = 16
        ·rw [if_pos c180] at h
         refine X.condT (congrArg Value.bool (beq_iff_eq.2 c180)) ?_
         refine X.seq fun M181 hM182 => ?_
         refine X.region ?_
         refine XO.do rfl (D.mv (v := S a2) rfl rfl ?_)
         rcases (Classical.em (derrickref04_texts.pre a2)).symm with c183 | c183
         ·rw [if_neg c183] at h; cases h
         rw [if_pos c183] at h
         obtain ⟨r187, q188, h⟩ := lt_elim h
         have hc186 := derrickref04_texts.ok a2 w126 c183 
         rw [q188] at hc186
         clear q188
         refine XO.do rfl (D.call (vs := [S a2]) cf72 hc186 rfl rfl ?_)
         rintro _ w184 ⟨rfl, e185⟩
         clear hc186
         replace hB := below_ext hB e185
         clear e185
         refine XO.do rfl (D.asn (v := .bool r187) rfl rfl ?_)
         refine XO.nil ?_
         refine hM182 _ _ ?_
         refine X.ret ?_
         injection h with h
         subst h
         exact hR _ _ _ (ret1 (v := .bool r187) rfl rfl) ⟨rfl, ext_of_below hB⟩
        ·rw [if_neg c180] at h
         refine X.condF (congrArg Value.bool (beq_eq_false_iff_ne.2 c180)) ?_
         refine X.skip ?_
         refine hM106 _ _ ?_
         refine X.seq fun M189 hM190 => ?_
         refine X.region ?_
         refine XO.do rfl (D.asn (v := .bool true) rfl rfl ?_)
         refine XO.nil ?_
         refine hM190 _ _ ?_
         refine X.ret ?_
         injection h with h
         subst h
         exact hR _ _ _ (ret1 (v := .bool true) rfl rfl) ⟨rfl, ext_of_below hB⟩
theorem derrickref04_May.ok (a1 : Int) (a2 : Str)  (w : World)  (hp : derrickref04_May.pre a1 a2) :
  Ret Try.prog 52 ([.int .u16 a1, S a2] : List Value).toArray w fun v w' => v = .bool (derrickref04_May a1 a2) ∧ Ext w w' := by
 have h := derrickref04_May.eq a1 a2 hp
 exact derrickref04_May.walk  a1 a2  w  _ h
theorem derrickref05_MayQ.walk (a1 : Question)  (w : World)  (res : Bool) (h : derrickref05_MayQ.f a1 = some res) :
  Ret Try.prog 24 ([.agg #[S a1.name, .int .u16 a1.ty, .int .u16 a1.cls]] : List Value).toArray w fun v w' => v = .bool res ∧ Ext w w' := by
 unfold derrickref05_MayQ.f at h
 refine enterX Try.func24 rfl Try.ntmps24 rfl (fun R hR => ?_)
 have hB := Below.refl w.heap.size w
 refine X.seq fun M2 hM3 => ?_
 refine X.region ?_
 refine XO.do rfl (D.box (v := .agg #[S a1.name, .int .u16 a1.ty, .int .u16 a1.cls]) (cs := [S a1.name, .int .u16 a1.ty, .int .u16 a1.cls]) rfl rfl rfl ?_)
 intro b4 w5 hb6 H7 e8 _
 have g9 : w.heap.size ≤ b4 := Nat.le_trans hB.size (Nat.le_of_eq hb6.symm)
 clear hb6
 replace hB := below_ext hB e8
 clear e8
 refine XO.do rfl (D.asn (v := .bool false) rfl rfl ?_)
 refine XO.nil ?_
 refine hM3 _ _ ?_
 refine X.seq fun M10 hM11 => ?_
 refine X.region ?_
 refine XO.do rfl (D.fieldAddr (o' := 0) fa30_0 rfl rfl rfl ?_)
 refine XO.do rfl (D.load (j := 0) (v := S a1.name) sc9 H7.cs rfl rfl rfl rfl ?_)
 rcases (Classical.em (derrickref02_May.pre a1.name)).symm with c12 | c12
 ·rw [if_neg c12] at h; cases h
 rw [if_pos c12] at h
 obtain ⟨r16, q17, h⟩ := lt_elim h
 have hc15 := derrickref02_May.ok a1.name w5 c12 
 rw [q17] at hc15
 clear q17
 refine XO.do rfl (D.call (vs := [S a1.name]) cf51 hc15 rfl rfl ?_)
 rintro _ w13 ⟨rfl, e14⟩
 clear hc15
 replace hB := below_ext hB e14
 replace H7 := H7.ext e14
 clear e14
 refine XO.do rfl (D.asn (v := .bool r16) rfl rfl ?_)
 refine XO.nil ?_
 refine hM11 _ _ ?_
 refine X.ret ?_
 injection h with h
 subst h
 exact hR _ _ _ (ret1 (v := .bool r16) rfl rfl) ⟨rfl, ext_of_below hB⟩
theorem derrickref05_MayQ.ok (a1 : Question)  (w : World)  (hp : derrickref05_MayQ.pre a1) :
  Ret Try.prog 24 ([.agg #[S a1.name, .int .u16 a1.ty, .int .u16 a1.cls]] : List Value).toArray w fun v w' => v = .bool (derrickref05_MayQ a1) ∧ Ext w w' := by
 have h := derrickref05_MayQ.eq a1 hp
 exact derrickref05_MayQ.walk  a1  w  _ h
end Go.Proofs.Ytfcaekghpkpjdaa.K

/- Walks, printed by a program of this session. -/
namespace Go.Proofs.Ytfcaekghpkpjdaa.K
open Go Go.RowKit Go.Proofs
set_option linter.unusedVariables false
set_option maxRecDepth 100000
set_option maxHeartbeats 4000000
namespace FRf
theorem ti30 : TI Try.prog 30 (.agg #[S [], .int .u16 0, .int .u16 0]) 3 24 := by unfold TI; kernel_rfl
theorem ag30 : Agg Try.prog 30 3 := agg Try.underlying30 rfl ti30
theorem ti39 : TI Try.prog 39 (.agg #[S [], .slice none 0 0]) 2 40 := by unfold TI; kernel_rfl
theorem ag39 : Agg Try.prog 39 2 := agg Try.underlying39 rfl ti39
theorem ti9 : TI Try.prog 9 (S []) 1 16 := by unfold TI; kernel_rfl
theorem ti22 : TI Try.prog 22 (.int .u16 0) 1 2 := by unfold TI; kernel_rfl
theorem bld30 : BuildIs Try.prog 30 #[(0, 1), (1, 1), (2, 1)] (Value.cells (.agg #[S [], .int .u16 0, .int .u16 0])) := buildIs Try.underlying30 ti30 (fun w => by simp [ti22.size, ti9.size])
theorem cf24 : Callable Try.prog 24 := callable Try.func24 (by kernel_rfl) rfl
theorem cf32 : Callable Try.prog 32 := callable Try.func32 (by kernel_rfl) rfl
theorem cf33 : Callable Try.prog 33 := callable Try.func33 (by kernel_rfl) rfl
theorem cf34 : Callable Try.prog 34 := callable Try.func34 (by kernel_rfl) rfl
theorem cf48 : Callable Try.prog 48 := callable Try.func48 (by kernel_rfl) rfl
theorem cf50 : Callable Try.prog 50 := callable Try.func50 (by kernel_rfl) rfl
theorem cf51 : Callable Try.prog 51 := callable Try.func51 (by kernel_rfl) rfl
theorem cf52 : Callable Try.prog 52 := callable Try.func52 (by kernel_rfl) rfl
theorem cf59 : Callable Try.prog 59 := callable Try.func59 (by kernel_rfl) rfl
theorem cf66 : Callable Try.prog 66 := callable Try.func66 (by kernel_rfl) rfl
theorem cf67 : Callable Try.prog 67 := callable Try.func67 (by kernel_rfl) rfl
theorem fa25_0 : FA Try.prog 25 0 0 := fa Try.underlying25 rfl ti9 rfl rfl
theorem fa25_1 : FA Try.prog 25 1 1 := fa Try.underlying25 rfl ti22 rfl rfl
theorem fa25_2 : FA Try.prog 25 2 2 := fa Try.underlying25 rfl ti22 rfl rfl
theorem fa25_4 : FA Try.prog 25 4 4 := fa Try.underlying25 rfl ti9 rfl rfl
theorem fa30_0 : FA Try.prog 30 0 0 := fa Try.underlying30 rfl ti9 rfl rfl
theorem fa30_1 : FA Try.prog 30 1 1 := fa Try.underlying30 rfl ti22 rfl rfl
theorem fa30_2 : FA Try.prog 30 2 2 := fa Try.underlying30 rfl ti22 rfl rfl
theorem mixed0 : Try.prog.follows .mixedOrders = true := by kernel_rfl
theorem sc22 : Sca Try.prog 22 := sca Try.underlying22 rfl
theorem sc9 : Sca Try.prog 9 := sca Try.underlying9 rfl
theorem sz30 : ∀ w, (sizeOf 30).run Try.prog w = .ok 3 w := fun w => ti30.size w
theorem sz39 : ∀ w, (sizeOf 39).run Try.prog w = .ok 2 w := fun w => ti39.size w
end FRf
open FRf
theorem derrickref04_Put.walk (a1 : RPack) (a6 : Int) (a7 : Str) (A2 : Option Addr) (k3 : Nat) (w : World) (H4 : Row ePlace w A2 k3 a1.l) (res : RPack × Int) (h : derrickref04_Put.f a1 a6 a7 = some res) :
  Ret Try.prog 40 ([.agg #[S a1.s, .slice A2 a1.l.length k3], .int .u16 a6, S a7] : List Value).toArray w fun v w' => ∃ (A1 : Option Addr) (k1 : Nat), v = .tuple #[.agg #[S res.1.s, .slice A1 res.1.l.length k1], .int .i64 res.2] ∧ Row ePlace w' A1 k1 res.1.l ∧ (∀ y, MR A1 res.1.l y → w.heap.size ≤ y ∨ MR A2 a1.l y) ∧ Ext w w' := by
 unfold derrickref04_Put.f at h
 refine enterX Try.func40 rfl Try.ntmps40 rfl (fun R hR => ?_)
 have hB := Below.refl w.heap.size w
 refine X.seq fun M8 hM9 => ?_
 refine X.region ?_
 refine XO.do rfl (D.box (v := .agg #[S a1.s, .slice A2 a1.l.length k3]) (cs := [S a1.s, .slice A2 a1.l.length k3]) rfl rfl rfl ?_)
 intro b10 w11 hb12 H13 e14 _
 have g15 : w.heap.size ≤ b10 := Nat.le_trans hB.size (Nat.le_of_eq hb12.symm)
 clear hb12
 replace hB := below_ext hB e14
 clear e14
 refine XO.do rfl (D.alloc ti39 (cs := [S [], .slice none 0 0]) rfl rfl ?_)
 intro b16 w17 hb18 H19 e20 _
 have lt_15_21 : ∀ x, MB b10 x → x < b16 := (MB.lt H13 (Nat.le_of_eq hb18.symm))
 have g21 : w.heap.size ≤ b16 := Nat.le_trans hB.size (Nat.le_of_eq hb18.symm)
 clear hb18
 replace hB := below_ext hB e20
 replace H13 := H13.ext e20
 clear e20
 refine XO.do rfl (D.asn (v := .int .i64 0) rfl rfl ?_)
 refine XO.nil ?_
 refine hM9 _ _ ?_
 refine X.seq fun M36 hM37 => ?_
 refine X.seq fun M38 hM39 => ?_
 refine X.region ?_
 refine XO.do rfl (D.mv (v := .int .u16 a6) rfl rfl ?_)
 refine XO.do rfl (D.mv (v := S a7) rfl rfl ?_)
 rcases (Classical.em (derrickref04_May.pre a6 a7)).symm with c40 | c40
 ·rw [if_neg c40] at h; cases h
 rw [if_pos c40] at h
 obtain ⟨r44, q45, h⟩ := lt_elim h
 have hc43 := derrickref04_May.ok a6 a7 w17 c40 
 rw [q45] at hc43
 clear q45
 refine XO.do rfl (D.call (vs := [.int .u16 a6, S a7]) cf52 hc43 rfl rfl ?_)
 rintro _ w41 ⟨rfl, e42⟩
 clear hc43
 replace hB := below_ext hB e42
 replace H13 := H13.ext e42
 replace H19 := H19.ext e42
 clear e42
 refine XO.do rfl (D.not r44 rfl rfl ?_)
 refine XO.nil ?_
 refine hM39 _ _ ?_
 by_cases c46 : r44 = true
 ·rw [if_pos c46] at h
  refine X.condF (congrArg Value.bool ((congrArg (!·) (c46)))) ?_
  refine X.skip ?_
  refine hM37 _ _ ?_
  refine X.seq fun M980 hM981 => ?_
  refine X.seq fun M982 hM983 => ?_
  refine X.region ?_
  refine XO.do rfl (D.mv (v := .int .u16 a6) rfl rfl ?_)
  refine XO.nil ?_
  refine hM983 _ _ ?_
  refine X.block ?_
  refine X.cut (fun f994 w993 => ∃ x992 : Bool, f994 2 = S a7 ∧ f994 3 = pt b10 0 ∧ f994 6 = pt b16 0 ∧ f994 23 = .int .u16 a6 ∧ f994 24 = .bool x992 ∧ Below w.heap.size w w993 ∧ Blk w993 b10 [S a1.s, .slice A2 a1.l.length k3] 39 ∧ Blk w993 b16 [S [], .slice none 0 0] 39 ∧ (∀ x, MB b10 x → x < b16) ∧ derrickref04_Put.j1 a1 a7 a6 x992 = some res) ?_ ?_
  ·refine X.seq fun M1925 hM1926 => ?_
   refine X.region ?_
   refine XO.do rfl (D.eql rfl rfl rfl ?_)
   refine XO.do rfl (D.asn (v := .bool (a6 == 2)) rfl rfl ?_)
   refine XO.nil ?_
   refine hM1926 _ _ ?_
   by_cases c1927 : a6 = 2
   ·rw [if_pos c1927] at h
    refine X.condT (congrArg Value.bool (beq_iff_eq.2 c1927)) ?_
    refine X.skip ?_
    exact ⟨(a6 == 2), rfl, rfl, rfl, rfl, rfl, hB, H13, H19, lt_15_21, h⟩
   ·rw [if_neg c1927] at h
    refine X.condF (congrArg Value.bool (beq_eq_false_iff_ne.2 c1927)) ?_
    refine X.seq fun M1928 hM1929 => ?_
    refine X.region ?_
    refine XO.do rfl (D.eql rfl rfl rfl ?_)
    refine XO.do rfl (D.asn (v := .bool (a6 == 5)) rfl rfl ?_)
    refine XO.nil ?_
    refine hM1929 _ _ ?_
    by_cases c1930 : a6 = 5
    ·rw [if_pos c1930] at h
     refine X.condT (congrArg Value.bool (beq_iff_eq.2 c1930)) ?_
     refine X.skip ?_
     exact ⟨(a6 == 5), rfl, rfl, rfl, rfl, rfl, hB, H13, H19, lt_15_21, h⟩
    ·rw [if_neg c1930] at h
     refine X.condF (congrArg Value.bool (beq_eq_false_iff_ne.2 c1930)) ?_
     refine X.region ?_
     refine XO.do rfl (D.eql rfl rfl rfl ?_)
     refine XO.do rfl (D.asn (v := .bool (a6 == 12)) rfl rfl ?_)
     refine XO.nil ?_
     exact ⟨(a6 == 12), rfl, rfl, rfl, rfl, rfl, hB, H13, H19, lt_15_21, h⟩
  ·intro f994 w993 hI
   obtain ⟨x992, s995, s996, s997, s998, s999, hB, H990, H991, pr15_21, h⟩ := hI
   refine X.fr (d := 2) s995 ?_
   refine X.fr (d := 3) s996 ?_
   refine X.fr (d := 6) s997 ?_
   refine X.fr (d := 23) s998 ?_
   refine X.fr (d := 24) s999 ?_
   unfold derrickref04_Put.j1 at h
   by_cases c1000 : x992 = true
   ·rw [if_pos c1000] at h
    refine X.condT (congrArg Value.bool (c1000)) ?_
    refine X.seq fun M1001 hM1002 => ?_
    refine X.region ?_
    refine XO.do rfl (D.loadA (j := 0) (us := [S a1.s, .slice A2 a1.l.length k3]) ag39 H990.cs rfl rfl rfl rfl rfl ?_)
    refine XO.do rfl (D.mv (v := S a7) rfl rfl ?_)
    rcases (Classical.em (derrickref03_Name.pre a1 a7)).symm with c1003 | c1003
    ·rw [if_neg c1003] at h; cases h
    rw [if_pos c1003] at h
    obtain ⟨r1007, q1008, h⟩ := lt_elim h
    have hc1006 := derrickref03_Name.ok a1 a7 A2 k3 w993 (H4.below hB) c1003 
    rw [q1008] at hc1006
    clear q1008
    refine XO.do rfl (D.call (vs := [.agg #[S a1.s, .slice A2 a1.l.length k3], S a7]) cf32 hc1006 rfl rfl ?_)
    rintro _ w1004 ⟨A1009, k1010, rfl, H1011, g1012, e1005⟩
    clear hc1006
    have og1013 : (∀ y, MR A1009 r1007.1.l y → w.heap.size ≤ y ∨ MR A2 a1.l y) := fun y hy => (g1012 y hy).elim (fun h => .inl (Nat.le_trans hB.size h)) (fun h => (.inr h))
    have nf1013_15 : ∀ x y, MR A1009 r1007.1.l x → MB b10 y → x ≠ y := fun x y hx hy => (g1012 x hx).elim (fun h e => Nat.lt_irrefl _ (Nat.lt_of_lt_of_le ((MB.lt H990 (Nat.le_refl _)) y hy) (e ▸ h))) (fun h => (ne_of (MR.lt H4 (Nat.le_refl _)) (ge_blk g15)) x y h hy)
    have nf1013_21 : ∀ x y, MR A1009 r1007.1.l x → MB b16 y → x ≠ y := fun x y hx hy => (g1012 x hx).elim (fun h e => Nat.lt_irrefl _ (Nat.lt_of_lt_of_le ((MB.lt H991 (Nat.le_refl _)) y hy) (e ▸ h))) (fun h => (ne_of (MR.lt H4 (Nat.le_refl _)) (ge_blk g21)) x y h hy)
    replace hB := below_ext hB e1005
    replace H990 := H990.ext e1005
    replace H991 := H991.ext e1005
    clear e1005
    refine XO.do rfl (D.mv (v := .tuple #[.agg #[S r1007.1.s, .slice A1009 r1007.1.l.length k1010], .int .i64 r1007.2]) rfl rfl ?_)
    refine XO.do rfl (D.extract (v := .agg #[S r1007.1.s, .slice A1009 r1007.1.l.length k1010]) rfl rfl rfl ?_)
    refine XO.do rfl (D.extract (v := .int .i64 r1007.2) rfl rfl rfl ?_)
    refine XO.do rfl (D.alloc ti39 (cs := [S [], .slice none 0 0]) rfl rfl ?_)
    intro b1014 w1015 hb1016 H1017 e1018 _
    have lt_15_1019 : ∀ x, MB b10 x → x < b1014 := (MB.lt H990 (Nat.le_of_eq hb1016.symm))
    have lt_21_1019 : ∀ x, MB b16 x → x < b1014 := (MB.lt H991 (Nat.le_of_eq hb1016.symm))
    have lt_1013_1019 : ∀ x, MR A1009 r1007.1.l x → x < b1014 := (MR.lt H1011 (Nat.le_of_eq hb1016.symm))
    have g1019 : w.heap.size ≤ b1014 := Nat.le_trans hB.size (Nat.le_of_eq hb1016.symm)
    clear hb1016
    replace hB := below_ext hB e1018
    replace H990 := H990.ext e1018
    replace H991 := H991.ext e1018
    replace H1011 := H1011.ext e1018
    clear e1018
    refine XO.do rfl (D.store (v := .agg #[S r1007.1.s, .slice A1009 r1007.1.l.length k1010]) (us := [S r1007.1.s, .slice A1009 r1007.1.l.length k1010]) sz39 H1017 rfl rfl rfl rfl rfl rfl ?_)
    intro w1020 H1021 e1022
    replace hB := below_blk hB e1022 g1019
    replace H990 := H990.gr e1022 (sepB (ne_of lt_15_1019 (MB.ge b1014)))
    replace H991 := H991.gr e1022 (sepB (ne_of lt_21_1019 (MB.ge b1014)))
    replace H1011 := H1011.gr e1022 (sepB (ne_of lt_1013_1019 (MB.ge b1014)))
    clear e1022
    refine XO.do rfl (D.asn (v := .int .i64 r1007.2) rfl rfl ?_)
    refine XO.nil ?_
    refine hM1002 _ _ ?_
    refine X.seq fun M1023 hM1024 => ?_
    refine X.region ?_
    refine XO.do rfl (D.loadA (j := 0) (us := [S r1007.1.s, .slice A1009 r1007.1.l.length k1010]) ag39 H1021.cs rfl rfl rfl rfl rfl ?_)
    refine XO.do rfl (D.store (v := .agg #[S r1007.1.s, .slice A1009 r1007.1.l.length k1010]) (us := [S r1007.1.s, .slice A1009 r1007.1.l.length k1010]) sz39 H991 rfl rfl rfl rfl rfl rfl ?_)
    intro w1025 H1026 e1027
    replace hB := below_blk hB e1027 g21
    replace H990 := H990.gr e1027 (sepB (ne_of pr15_21 (MB.ge b16)))
    replace H1011 := H1011.gr e1027 (sepB nf1013_21)
    replace H1021 := H1021.gr e1027 (sepB (ne_flip (ne_of lt_21_1019 (MB.ge b1014))))
    clear e1027
    refine XO.do rfl (D.asn (v := .int .i64 0) rfl rfl ?_)
    refine XO.nil ?_
    refine hM1024 _ _ ?_
    refine X.ret ?_
    injection h with h
    subst h
    exact hR _ _ _ (retCT ag39 H1026 rfl rfl rfl rfl) ⟨A1009, k1010, rfl, H1011, (fun y hy => og1013 y hy), ext_of_below hB⟩
   ·rw [if_neg c1000] at h
    refine X.condF (congrArg Value.bool ((Bool.eq_false_iff.2 c1000))) ?_
    refine X.seq fun M1028 hM1029 => ?_
    refine X.region ?_
    refine XO.do rfl (D.eql rfl rfl rfl ?_)
    refine XO.do rfl (D.asn (v := .bool (a6 == 15)) rfl rfl ?_)
    refine XO.nil ?_
    refine hM1029 _ _ ?_
    by_cases c1030 : a6 = 15
    ·rw [if_pos c1030] at h
     refine X.condT (congrArg Value.bool (beq_iff_eq.2 c1030)) ?_
     refine X.cut (fun f1233 w1232 => ∃ b1223 : Nat, ∃ x1224 : Str, ∃ A1225 : Option Addr, ∃ k1226 : Nat, ∃ l1227 : List Place, f1233 6 = pt b16 0 ∧ f1233 10 = pt b1223 0 ∧ Below w.heap.size w w1232 ∧ Blk w1232 b16 [S [], .slice none 0 0] 39 ∧ Row ePlace w1232 A1225 k1226 l1227 ∧ (∀ y, MR A1225 l1227 y → w.heap.size ≤ y ∨ MR A2 a1.l y) ∧ Blk w1232 b1223 [S x1224, .slice A1225 l1227.length k1226] 39 ∧ w.heap.size ≤ b1223 ∧ (∀ x, MB b16 x → x < b1223) ∧ (∀ x y, MR A1225 l1227 x → MB b16 y → x ≠ y) ∧ (∀ x y, MR A1225 l1227 x → MB b1223 y → x ≠ y) ∧ derrickref04_Put.j2 x1224 l1227 = some res) ?_ ?_
     ·refine X.tree mixed0 [0, 0, 2, 7, 0, 16, 63, 127, 255, 255, 0, 1535, 4095] (.q 0 (.q 1 (.q 2 (.q 4 (.q 5 (.alt 3 (.alt 6 (.q 7 (.q 8 (.q 9 (.alt 10 (.alt 11 (.q 12 .nil) .nil) .nil)))) (.alt 10 (.alt 6 (.q 7 (.q 8 (.q 9 (.alt 11 (.q 12 .nil) .nil)))) .nil) .nil)) (.alt 10 (.alt 3 (.alt 6 (.q 7 (.q 8 (.q 9 (.alt 11 (.q 12 .nil) .nil)))) .nil) .nil) .nil))))))) (fun w' => Below w.heap.size w w' ∧ Blk w' b10 [S a1.s, .slice A2 a1.l.length k3] 39 ∧ Blk w' b16 [S [], .slice none 0 0] 39) (fun w' => Below w.heap.size w w' ∧ Blk w' b10 [S a1.s, .slice A2 a1.l.length k3] 39 ∧ Blk w' b16 [S [], .slice none 0 0] 39) (by decide +kernel) (fun w' hx _ => ⟨below_ext hB hx, H990.ext hx, H991.ext hx⟩) (fun a b hC hx => by obtain ⟨hB, H990, H991⟩ := hC; exact ⟨below_ext hB hx, H990.ext hx, H991.ext hx⟩) (fun a hC => by obtain ⟨hB, H990, H991⟩ := hC; exact ⟨hB, H990, H991⟩) ?_
      refine QT.late (v := .agg #[S a1.s, .slice A2 a1.l.length k3]) rfl rfl rfl rfl (fun w' hJ => by obtain ⟨hB, H990, H991⟩ := hJ; exact D.loadA (j := 0) (us := [S a1.s, .slice A2 a1.l.length k3]) ag39 H990.cs rfl rfl rfl rfl rfl ⟨rfl, Ext.refl _⟩) ?_
      refine QT.late (v := S a7) rfl rfl rfl rfl (fun w' hJ => by obtain ⟨hB, H990, H991⟩ := hJ; exact D.mv (v := S a7) rfl rfl ⟨rfl, Ext.refl _⟩) ?_
      rcases (Classical.em (2 ≤ (a7.length : Int))).symm with c1335 | c1335
      ·rw [if_neg c1335] at h; cases h
      rw [if_pos c1335] at h
      refine QT.late (v := S (a7.take (2 : Int).toNat)) rfl rfl rfl rfl (fun w' hJ => by obtain ⟨hB, H990, H991⟩ := hJ; exact D.sliceShi (j := (2 : Int)) Try.underlying9 rfl rfl (by first | decide | simp | omega) c1335 rfl ⟨rfl, Ext.refl _⟩) ?_
      refine QT.late (v := S a7) rfl rfl rfl rfl (fun w' hJ => by obtain ⟨hB, H990, H991⟩ := hJ; exact D.mv (v := S a7) rfl rfl ⟨rfl, Ext.refl _⟩) ?_
      refine QT.late (v := S (a7.drop (2 : Int).toNat)) rfl rfl rfl rfl (fun w' hJ => by obtain ⟨hB, H990, H991⟩ := hJ; exact D.sliceSlo (i := (2 : Int)) Try.underlying9 rfl rfl (by first | decide | simp | omega) c1335 rfl ⟨rfl, Ext.refl _⟩) ?_
      refine QT.eff rfl rfl (fun w1336 hC => ?_) ?_
      ·obtain ⟨hB, H990, H991⟩ := hC
       rcases (Classical.em (derrickref03_Add.pre a1 (a7.take (2 : Int).toNat))).symm with c1337 | c1337
       ·rw [if_neg c1337] at h; cases h
       rw [if_pos c1337] at h
       obtain ⟨r1341, q1342, h⟩ := lt_elim h
       have hc1340 := derrickref03_Add.ok a1 (a7.take (2 : Int).toNat) A2 k3 w1336 (H4.below hB) c1337 
       rw [q1342] at hc1340
       clear q1342
       refine D.call (vs := [.agg #[S a1.s, .slice A2 a1.l.length k3], S (a7.take (2 : Int).toNat)]) cf33 hc1340 rfl rfl ?_
       rintro _ w1338 ⟨A1343, k1344, rfl, H1345, g1346, e1339⟩
       clear hc1340
       have og1347 : (∀ y, MR A1343 r1341.l y → w.heap.size ≤ y ∨ MR A2 a1.l y) := fun y hy => (g1346 y hy).elim (fun h => .inl (Nat.le_trans hB.size h)) (fun h => (.inr h))
       have nf1347_15 : ∀ x y, MR A1343 r1341.l x → MB b10 y → x ≠ y := fun x y hx hy => (g1346 x hx).elim (fun h e => Nat.lt_irrefl _ (Nat.lt_of_lt_of_le ((MB.lt H990 (Nat.le_refl _)) y hy) (e ▸ h))) (fun h => (ne_of (MR.lt H4 (Nat.le_refl _)) (ge_blk g15)) x y h hy)
       have nf1347_21 : ∀ x y, MR A1343 r1341.l x → MB b16 y → x ≠ y := fun x y hx hy => (g1346 x hx).elim (fun h e => Nat.lt_irrefl _ (Nat.lt_of_lt_of_le ((MB.lt H991 (Nat.le_refl _)) y hy) (e ▸ h))) (fun h => (ne_of (MR.lt H4 (Nat.le_refl _)) (ge_blk g21)) x y h hy)
       replace hB := below_ext hB e1339
       replace H990 := H990.ext e1339
       replace H991 := H991.ext e1339
       clear e1339
       refine ⟨_, rfl, (fun w' => Below w.heap.size w w' ∧ Blk w' b10 [S a1.s, .slice A2 a1.l.length k3] 39 ∧ Blk w' b16 [S [], .slice none 0 0] 39 ∧ Row ePlace w' A1343 k1344 r1341.l), ⟨hB, H990, H991, H1345⟩, (fun a b hC hx => by obtain ⟨hB, H990, H991, H1345⟩ := hC; exact ⟨below_ext hB hx, H990.ext hx, H991.ext hx, H1345.ext hx⟩), (fun a hC => by obtain ⟨hB, H990, H991, H1345⟩ := hC; exact ⟨hB, H990, H991⟩), ?_⟩
       refine QT.eff rfl rfl (fun w1348 hC => ?_) ?_
       ·obtain ⟨hB, H990, H991, H1345⟩ := hC
        rcases (Classical.em (derrickref03_Name.pre r1341 (a7.drop (2 : Int).toNat))).symm with c1349 | c1349
        ·rw [if_neg c1349] at h; cases h
        rw [if_pos c1349] at h
        obtain ⟨r1353, q1354, h⟩ := lt_elim h
        have hc1352 := derrickref03_Name.ok r1341 (a7.drop (2 : Int).toNat) A1343 k1344 w1348 H1345 c1349 
        rw [q1354] at hc1352
        clear q1354
        refine D.call (vs := [.agg #[S r1341.s, .slice A1343 r1341.l.length k1344], S (a7.drop (2 : Int).toNat)]) cf32 hc1352 rfl rfl ?_
        rintro _ w1350 ⟨A1355, k1356, rfl, H1357, g1358, e1351⟩
        clear hc1352
        have og1359 : (∀ y, MR A1355 r1353.1.l y → w.heap.size ≤ y ∨ MR A2 a1.l y) := fun y hy => (g1358 y hy).elim (fun h => .inl (Nat.le_trans hB.size h)) (fun h => og1347 y h)
        have nf1359_15 : ∀ x y, MR A1355 r1353.1.l x → MB b10 y → x ≠ y := fun x y hx hy => (g1358 x hx).elim (fun h e => Nat.lt_irrefl _ (Nat.lt_of_lt_of_le ((MB.lt H990 (Nat.le_refl _)) y hy) (e ▸ h))) (fun h => nf1347_15 x y h hy)
        have nf1359_21 : ∀ x y, MR A1355 r1353.1.l x → MB b16 y → x ≠ y := fun x y hx hy => (g1358 x hx).elim (fun h e => Nat.lt_irrefl _ (Nat.lt_of_lt_of_le ((MB.lt H991 (Nat.le_refl _)) y hy) (e ▸ h))) (fun h => nf1347_21 x y h hy)
        replace hB := below_ext hB e1351
        replace H990 := H990.ext e1351
        replace H991 := H991.ext e1351
        replace H1345 := H1345.ext e1351
        clear e1351
        refine ⟨_, rfl, (fun w' => Below w.heap.size w w' ∧ Blk w' b10 [S a1.s, .slice A2 a1.l.length k3] 39 ∧ Blk w' b16 [S [], .slice none 0 0] 39 ∧ Row ePlace w' A1343 k1344 r1341.l ∧ Row ePlace w' A1355 k1356 r1353.1.l), ⟨hB, H990, H991, H1345, H1357⟩, (fun a b hC hx => by obtain ⟨hB, H990, H991, H1345, H1357⟩ := hC; exact ⟨below_ext hB hx, H990.ext hx, H991.ext hx, H1345.ext hx, H1357.ext hx⟩), (fun a hC => by obtain ⟨hB, H990, H991, H1345, H1357⟩ := hC; exact ⟨hB, H990, H991⟩), ?_⟩
        refine QT.late (v := .tuple #[.agg #[S r1353.1.s, .slice A1355 r1353.1.l.length k1356], .int .i64 r1353.2]) rfl rfl rfl rfl (fun w' hJ => by obtain ⟨hB, H990, H991⟩ := hJ; exact D.mv (v := .tuple #[.agg #[S r1353.1.s, .slice A1355 r1353.1.l.length k1356], .int .i64 r1353.2]) rfl rfl ⟨rfl, Ext.refl _⟩) ?_
        refine QT.late (v := .agg #[S r1353.1.s, .slice A1355 r1353.1.l.length k1356]) rfl rfl rfl rfl (fun w' hJ => by obtain ⟨hB, H990, H991⟩ := hJ; exact D.extract (v := .agg #[S r1353.1.s, .slice A1355 r1353.1.l.length k1356]) rfl rfl rfl ⟨rfl, Ext.refl _⟩) ?_
        refine QT.late (v := .int .i64 r1353.2) rfl rfl rfl rfl (fun w' hJ => by obtain ⟨hB, H990, H991⟩ := hJ; exact D.extract (v := .int .i64 r1353.2) rfl rfl rfl ⟨rfl, Ext.refl _⟩) ?_
        refine QT.eff rfl rfl (fun w1360 hC => ?_) QT.nomore
        obtain ⟨hB, H990, H991, H1345, H1357⟩ := hC
        refine D.alloc ti39 (cs := [S [], .slice none 0 0]) rfl rfl ?_
        intro b1361 w1362 hb1363 H1364 e1365 _
        have lt_15_1366 : ∀ x, MB b10 x → x < b1361 := (MB.lt H990 (Nat.le_of_eq hb1363.symm))
        have lt_21_1366 : ∀ x, MB b16 x → x < b1361 := (MB.lt H991 (Nat.le_of_eq hb1363.symm))
        have lt_1347_1366 : ∀ x, MR A1343 r1341.l x → x < b1361 := (MR.lt H1345 (Nat.le_of_eq hb1363.symm))
        have lt_1359_1366 : ∀ x, MR A1355 r1353.1.l x → x < b1361 := (MR.lt H1357 (Nat.le_of_eq hb1363.symm))
        have g1366 : w.heap.size ≤ b1361 := Nat.le_trans hB.size (Nat.le_of_eq hb1363.symm)
        clear hb1363
        replace hB := below_ext hB e1365
        replace H990 := H990.ext e1365
        replace H991 := H991.ext e1365
        replace H1345 := H1345.ext e1365
        replace H1357 := H1357.ext e1365
        clear e1365
        refine ⟨_, rfl, (fun w' => Below w.heap.size w w' ∧ Blk w' b10 [S a1.s, .slice A2 a1.l.length k3] 39 ∧ Blk w' b16 [S [], .slice none 0 0] 39 ∧ Row ePlace w' A1343 k1344 r1341.l ∧ Row ePlace w' A1355 k1356 r1353.1.l ∧ Blk w' b1361 [S [], .slice none 0 0] 39), ⟨hB, H990, H991, H1345, H1357, H1364⟩, (fun a b hC hx => by obtain ⟨hB, H990, H991, H1345, H1357, H1364⟩ := hC; exact ⟨below_ext hB hx, H990.ext hx, H991.ext hx, H1345.ext hx, H1357.ext hx, H1364.ext hx⟩), (fun a hC => by obtain ⟨hB, H990, H991, H1345, H1357, H1364⟩ := hC; exact ⟨hB, H990, H991⟩), ?_⟩
        refine QT.eff rfl rfl (fun w1367 hC => ?_) QT.nomore
        obtain ⟨hB, H990, H991, H1345, H1357, H1364⟩ := hC
        refine D.store (v := .agg #[S r1353.1.s, .slice A1355 r1353.1.l.length k1356]) (us := [S r1353.1.s, .slice A1355 r1353.1.l.length k1356]) sz39 H1364 rfl rfl rfl rfl rfl rfl ?_
        intro w1368 H1369 e1370
        replace hB := below_blk hB e1370 g1366
        replace H990 := H990.gr e1370 (sepB (ne_of lt_15_1366 (MB.ge b1361)))
        replace H991 := H991.gr e1370 (sepB (ne_of lt_21_1366 (MB.ge b1361)))
        replace H1345 := H1345.gr e1370 (sepB (ne_of lt_1347_1366 (MB.ge b1361)))
        replace H1357 := H1357.gr e1370 (sepB (ne_of lt_1359_1366 (MB.ge b1361)))
        clear e1370
        refine ⟨undef, rfl, (fun w' => Below w.heap.size w w' ∧ Blk w' b10 [S a1.s, .slice A2 a1.l.length k3] 39 ∧ Blk w' b16 [S [], .slice none 0 0] 39 ∧ Row ePlace w' A1343 k1344 r1341.l ∧ Row ePlace w' A1355 k1356 r1353.1.l ∧ Blk w' b1361 [S r1353.1.s, .slice A1355 r1353.1.l.length k1356] 39), ⟨hB, H990, H991, H1345, H1357, H1369⟩, (fun a b hC hx => by obtain ⟨hB, H990, H991, H1345, H1357, H1369⟩ := hC; exact ⟨below_ext hB hx, H990.ext hx, H991.ext hx, H1345.ext hx, H1357.ext hx, H1369.ext hx⟩), (fun a hC => by obtain ⟨hB, H990, H991, H1345, H1357, H1369⟩ := hC; exact ⟨hB, H990, H991⟩), ?_⟩
        refine QT.do (v := .int .i64 r1353.2) rfl (by decide +kernel) rfl rfl rfl (fun w' hJ => by obtain ⟨hB, H990, H991, H1345, H1357, H1369⟩ := hJ; exact D.asn (v := .int .i64 r1353.2) rfl rfl ⟨rfl, Ext.refl _⟩) ?_
        refine QT.nil fun w1371 hC => ?_
        obtain ⟨hB, H990, H991, H1345, H1357, H1369⟩ := hC
        exact ⟨b1361, r1353.1.s, A1355, k1356, r1353.1.l, rfl, rfl, hB, H991, H1357, (fun y hy => og1359 y hy), H1369, g1366, lt_21_1366, nf1359_21, (ne_of lt_1359_1366 (MB.ge b1361)), h⟩
       refine QT.eff rfl rfl (fun w1372 hC => ?_) ?_
       ·obtain ⟨hB, H990, H991, H1345⟩ := hC
        refine D.alloc ti39 (cs := [S [], .slice none 0 0]) rfl rfl ?_
        intro b1373 w1374 hb1375 H1376 e1377 _
        have lt_15_1378 : ∀ x, MB b10 x → x < b1373 := (MB.lt H990 (Nat.le_of_eq hb1375.symm))
        have lt_21_1378 : ∀ x, MB b16 x → x < b1373 := (MB.lt H991 (Nat.le_of_eq hb1375.symm))
        have lt_1347_1378 : ∀ x, MR A1343 r1341.l x → x < b1373 := (MR.lt H1345 (Nat.le_of_eq hb1375.symm))
        have g1378 : w.heap.size ≤ b1373 := Nat.le_trans hB.size (Nat.le_of_eq hb1375.symm)
        clear hb1375
        replace hB := below_ext hB e1377
        replace H990 := H990.ext e1377
        replace H991 := H991.ext e1377
        replace H1345 := H1345.ext e1377
        clear e1377
        refine ⟨_, rfl, (fun w' => Below w.heap.size w w' ∧ Blk w' b10 [S a1.s, .slice A2 a1.l.length k3] 39 ∧ Blk w' b16 [S [], .slice none 0 0] 39 ∧ Row ePlace w' A1343 k1344 r1341.l ∧ Blk w' b1373 [S [], .slice none 0 0] 39), ⟨hB, H990, H991, H1345, H1376⟩, (fun a b hC hx => by obtain ⟨hB, H990, H991, H1345, H1376⟩ := hC; exact ⟨below_ext hB hx, H990.ext hx, H991.ext hx, H1345.ext hx, H1376.ext hx⟩), (fun a hC => by obtain ⟨hB, H990, H991, H1345, H1376⟩ := hC; exact ⟨hB, H990, H991⟩), ?_⟩
        refine QT.eff rfl rfl (fun w1379 hC => ?_) QT.nomore
        obtain ⟨hB, H990, H991, H1345, H1376⟩ := hC
        rcases (Classical.em (derrickref03_Name.pre r1341 (a7.drop (2 : Int).toNat))).symm with c1380 | c1380
        ·rw [if_neg c1380] at h; cases h
        rw [if_pos c1380] at h
        obtain ⟨r1384, q1385, h⟩ := lt_elim h
        have hc1383 := derrickref03_Name.ok r1341 (a7.drop (2 : Int).toNat) A1343 k1344 w1379 H1345 c1380 
        rw [q1385] at hc1383
        clear q1385
        refine D.call (vs := [.agg #[S r1341.s, .slice A1343 r1341.l.length k1344], S (a7.drop (2 : Int).toNat)]) cf32 hc1383 rfl rfl ?_
        rintro _ w1381 ⟨A1386, k1387, rfl, H1388, g1389, e1382⟩
        clear hc1383
        have og1390 : (∀ y, MR A1386 r1384.1.l y → w.heap.size ≤ y ∨ MR A2 a1.l y) := fun y hy => (g1389 y hy).elim (fun h => .inl (Nat.le_trans hB.size h)) (fun h => og1347 y h)
        have nf1390_15 : ∀ x y, MR A1386 r1384.1.l x → MB b10 y → x ≠ y := fun x y hx hy => (g1389 x hx).elim (fun h e => Nat.lt_irrefl _ (Nat.lt_of_lt_of_le ((MB.lt H990 (Nat.le_refl _)) y hy) (e ▸ h))) (fun h => nf1347_15 x y h hy)
        have nf1390_21 : ∀ x y, MR A1386 r1384.1.l x → MB b16 y → x ≠ y := fun x y hx hy => (g1389 x hx).elim (fun h e => Nat.lt_irrefl _ (Nat.lt_of_lt_of_le ((MB.lt H991 (Nat.le_refl _)) y hy) (e ▸ h))) (fun h => nf1347_21 x y h hy)
        have nf1390_1378 : ∀ x y, MR A1386 r1384.1.l x → MB b1373 y → x ≠ y := fun x y hx hy => (g1389 x hx).elim (fun h e => Nat.lt_irrefl _ (Nat.lt_of_lt_of_le ((MB.lt H1376 (Nat.le_refl _)) y hy) (e ▸ h))) (fun h => (ne_of lt_1347_1378 (MB.ge b1373)) x y h hy)
        replace hB := below_ext hB e1382
        replace H990 := H990.ext e1382
        replace H991 := H991.ext e1382
        replace H1345 := H1345.ext e1382
        replace H1376 := H1376.ext e1382
        clear e1382
        refine ⟨_, rfl, (fun w' => Below w.heap.size w w' ∧ Blk w' b10 [S a1.s, .slice A2 a1.l.length k3] 39 ∧ Blk w' b16 [S [], .slice none 0 0] 39 ∧ Row ePlace w' A1343 k1344 r1341.l ∧ Blk w' b1373 [S [], .slice none 0 0] 39 ∧ Row ePlace w' A1386 k1387 r1384.1.l), ⟨hB, H990, H991, H1345, H1376, H1388⟩, (fun a b hC hx => by obtain ⟨hB, H990, H991, H1345, H1376, H1388⟩ := hC; exact ⟨below_ext hB hx, H990.ext hx, H991.ext hx, H1345.ext hx, H1376.ext hx, H1388.ext hx⟩), (fun a hC => by obtain ⟨hB, H990, H991, H1345, H1376, H1388⟩ := hC; exact ⟨hB, H990, H991⟩), ?_⟩
        refine QT.do (v := .tuple #[.agg #[S r1384.1.s, .slice A1386 r1384.1.l.length k1387], .int .i64 r1384.2]) rfl (by decide +kernel) rfl rfl rfl (fun w' hJ => by obtain ⟨hB, H990, H991, H1345, H1376, H1388⟩ := hJ; exact D.mv (v := .tuple #[.agg #[S r1384.1.s, .slice A1386 r1384.1.l.length k1387], .int .i64 r1384.2]) rfl rfl ⟨rfl, Ext.refl _⟩) ?_
        refine QT.do (v := .agg #[S r1384.1.s, .slice A1386 r1384.1.l.length k1387]) rfl (by decide +kernel) rfl rfl rfl (fun w' hJ => by obtain ⟨hB, H990, H991, H1345, H1376, H1388⟩ := hJ; exact D.extract (v := .agg #[S r1384.1.s, .slice A1386 r1384.1.l.length k1387]) rfl rfl rfl ⟨rfl, Ext.refl _⟩) ?_
        refine QT.late (v := .int .i64 r1384.2) rfl rfl rfl rfl (fun w' hJ => by obtain ⟨hB, H990, H991⟩ := hJ; exact D.extract (v := .int .i64 r1384.2) rfl rfl rfl ⟨rfl, Ext.refl _⟩) ?_
        refine QT.eff rfl rfl (fun w1391 hC => ?_) QT.nomore
        obtain ⟨hB, H990, H991, H1345, H1376, H1388⟩ := hC
        refine D.store (v := .agg #[S r1384.1.s, .slice A1386 r1384.1.l.length k1387]) (us := [S r1384.1.s, .slice A1386 r1384.1.l.length k1387]) sz39 H1376 rfl rfl rfl rfl rfl rfl ?_
        intro w1392 H1393 e1394
        replace hB := below_blk hB e1394 g1378
        replace H990 := H990.gr e1394 (sepB (ne_of lt_15_1378 (MB.ge b1373)))
        replace H991 := H991.gr e1394 (sepB (ne_of lt_21_1378 (MB.ge b1373)))
        replace H1345 := H1345.gr e1394 (sepB (ne_of lt_1347_1378 (MB.ge b1373)))
        replace H1388 := H1388.gr e1394 (sepB nf1390_1378)
        clear e1394
        refine ⟨undef, rfl, (fun w' => Below w.heap.size w w' ∧ Blk w' b10 [S a1.s, .slice A2 a1.l.length k3] 39 ∧ Blk w' b16 [S [], .slice none 0 0] 39 ∧ Row ePlace w' A1343 k1344 r1341.l ∧ Blk w' b1373 [S r1384.1.s, .slice A1386 r1384.1.l.length k1387] 39 ∧ Row ePlace w' A1386 k1387 r1384.1.l), ⟨hB, H990, H991, H1345, H1393, H1388⟩, (fun a b hC hx => by obtain ⟨hB, H990, H991, H1345, H1393, H1388⟩ := hC; exact ⟨below_ext hB hx, H990.ext hx, H991.ext hx, H1345.ext hx, H1393.ext hx, H1388.ext hx⟩), (fun a hC => by obtain ⟨hB, H990, H991, H1345, H1393, H1388⟩ := hC; exact ⟨hB, H990, H991⟩), ?_⟩
        refine QT.do (v := .int .i64 r1384.2) rfl (by decide +kernel) rfl rfl rfl (fun w' hJ => by obtain ⟨hB, H990, H991, H1345, H1393, H1388⟩ := hJ; exact D.asn (v := .int .i64 r1384.2) rfl rfl ⟨rfl, Ext.refl _⟩) ?_
        refine QT.nil fun w1395 hC => ?_
        obtain ⟨hB, H990, H991, H1345, H1393, H1388⟩ := hC
        exact ⟨b1373, r1384.1.s, A1386, k1387, r1384.1.l, rfl, rfl, hB, H991, H1388, (fun y hy => og1390 y hy), H1393, g1378, lt_21_1378, nf1390_21, nf1390_1378, h⟩
       exact QT.nomore
      refine QT.eff rfl rfl (fun w1396 hC => ?_) ?_
      ·obtain ⟨hB, H990, H991⟩ := hC
       refine D.alloc ti39 (cs := [S [], .slice none 0 0]) rfl rfl ?_
       intro b1397 w1398 hb1399 H1400 e1401 _
       have lt_15_1402 : ∀ x, MB b10 x → x < b1397 := (MB.lt H990 (Nat.le_of_eq hb1399.symm))
       have lt_21_1402 : ∀ x, MB b16 x → x < b1397 := (MB.lt H991 (Nat.le_of_eq hb1399.symm))
       have g1402 : w.heap.size ≤ b1397 := Nat.le_trans hB.size (Nat.le_of_eq hb1399.symm)
       clear hb1399
       replace hB := below_ext hB e1401
       replace H990 := H990.ext e1401
       replace H991 := H991.ext e1401
       clear e1401
       refine ⟨_, rfl, (fun w' => Below w.heap.size w w' ∧ Blk w' b10 [S a1.s, .slice A2 a1.l.length k3] 39 ∧ Blk w' b16 [S [], .slice none 0 0] 39 ∧ Blk w' b1397 [S [], .slice none 0 0] 39), ⟨hB, H990, H991, H1400⟩, (fun a b hC hx => by obtain ⟨hB, H990, H991, H1400⟩ := hC; exact ⟨below_ext hB hx, H990.ext hx, H991.ext hx, H1400.ext hx⟩), (fun a hC => by obtain ⟨hB, H990, H991, H1400⟩ := hC; exact ⟨hB, H990, H991⟩), ?_⟩
       refine QT.eff rfl rfl (fun w1403 hC => ?_) QT.nomore
       obtain ⟨hB, H990, H991, H1400⟩ := hC
       rcases (Classical.em (derrickref03_Add.pre a1 (a7.take (2 : Int).toNat))).symm with c1404 | c1404
       ·rw [if_neg c1404] at h; cases h
       rw [if_pos c1404] at h
       obtain ⟨r1408, q1409, h⟩ := lt_elim h
       have hc1407 := derrickref03_Add.ok a1 (a7.take (2 : Int).toNat) A2 k3 w1403 (H4.below hB) c1404 
       rw [q1409] at hc1407
       clear q1409
       refine D.call (vs := [.agg #[S a1.s, .slice A2 a1.l.length k3], S (a7.take (2 : Int).toNat)]) cf33 hc1407 rfl rfl ?_
       rintro _ w1405 ⟨A1410, k1411, rfl, H1412, g1413, e1406⟩
       clear hc1407
       have og1414 : (∀ y, MR A1410 r1408.l y → w.heap.size ≤ y ∨ MR A2 a1.l y) := fun y hy => (g1413 y hy).elim (fun h => .inl (Nat.le_trans hB.size h)) (fun h => (.inr h))
       have nf1414_15 : ∀ x y, MR A1410 r1408.l x → MB b10 y → x ≠ y := fun x y hx hy => (g1413 x hx).elim (fun h e => Nat.lt_irrefl _ (Nat.lt_of_lt_of_le ((MB.lt H990 (Nat.le_refl _)) y hy) (e ▸ h))) (fun h => (ne_of (MR.lt H4 (Nat.le_refl _)) (ge_blk g15)) x y h hy)
       have nf1414_21 : ∀ x y, MR A1410 r1408.l x → MB b16 y → x ≠ y := fun x y hx hy => (g1413 x hx).elim (fun h e => Nat.lt_irrefl _ (Nat.lt_of_lt_of_le ((MB.lt H991 (Nat.le_refl _)) y hy) (e ▸ h))) (fun h => (ne_of (MR.lt H4 (Nat.le_refl _)) (ge_blk g21)) x y h hy)
       have nf1414_1402 : ∀ x y, MR A1410 r1408.l x → MB b1397 y → x ≠ y := fun x y hx hy => (g1413 x hx).elim (fun h e => Nat.lt_irrefl _ (Nat.lt_of_lt_of_le ((MB.lt H1400 (Nat.le_refl _)) y hy) (e ▸ h))) (fun h => (ne_of (MR.lt H4 (Nat.le_refl _)) (ge_blk g1402)) x y h hy)
       replace hB := below_ext hB e1406
       replace H990 := H990.ext e1406
       replace H991 := H991.ext e1406
       replace H1400 := H1400.ext e1406
       clear e1406
       refine ⟨_, rfl, (fun w' => Below w.heap.size w w' ∧ Blk w' b10 [S a1.s, .slice A2 a1.l.length k3] 39 ∧ Blk w' b16 [S [], .slice none 0 0] 39 ∧ Blk w' b1397 [S [], .slice none 0 0] 39 ∧ Row ePlace w' A1410 k1411 r1408.l), ⟨hB, H990, H991, H1400, H1412⟩, (fun a b hC hx => by obtain ⟨hB, H990, H991, H1400, H1412⟩ := hC; exact ⟨below_ext hB hx, H990.ext hx, H991.ext hx, H1400.ext hx, H1412.ext hx⟩), (fun a hC => by obtain ⟨hB, H990, H991, H1400, H1412⟩ := hC; exact ⟨hB, H990, H991⟩), ?_⟩
       refine QT.eff rfl rfl (fun w1415 hC => ?_) QT.nomore
       obtain ⟨hB, H990, H991, H1400, H1412⟩ := hC
       rcases (Classical.em (derrickref03_Name.pre r1408 (a7.drop (2 : Int).toNat))).symm with c1416 | c1416
       ·rw [if_neg c1416] at h; cases h
       rw [if_pos c1416] at h
       obtain ⟨r1420, q1421, h⟩ := lt_elim h
       have hc1419 := derrickref03_Name.ok r1408 (a7.drop (2 : Int).toNat) A1410 k1411 w1415 H1412 c1416 
       rw [q1421] at hc1419
       clear q1421
       refine D.call (vs := [.agg #[S r1408.s, .slice A1410 r1408.l.length k1411], S (a7.drop (2 : Int).toNat)]) cf32 hc1419 rfl rfl ?_
       rintro _ w1417 ⟨A1422, k1423, rfl, H1424, g1425, e1418⟩
       clear hc1419
       have og1426 : (∀ y, MR A1422 r1420.1.l y → w.heap.size ≤ y ∨ MR A2 a1.l y) := fun y hy => (g1425 y hy).elim (fun h => .inl (Nat.le_trans hB.size h)) (fun h => og1414 y h)
       have nf1426_15 : ∀ x y, MR A1422 r1420.1.l x → MB b10 y → x ≠ y := fun x y hx hy => (g1425 x hx).elim (fun h e => Nat.lt_irrefl _ (Nat.lt_of_lt_of_le ((MB.lt H990 (Nat.le_refl _)) y hy) (e ▸ h))) (fun h => nf1414_15 x y h hy)
       have nf1426_21 : ∀ x y, MR A1422 r1420.1.l x → MB b16 y → x ≠ y := fun x y hx hy => (g1425 x hx).elim (fun h e => Nat.lt_irrefl _ (Nat.lt_of_lt_of_le ((MB.lt H991 (Nat.le_refl _)) y hy) (e ▸ h))) (fun h => nf1414_21 x y h hy)
       have nf1426_1402 : ∀ x y, MR A1422 r1420.1.l x → MB b1397 y → x ≠ y := fun x y hx hy => (g1425 x hx).elim (fun h e => Nat.lt_irrefl _ (Nat.lt_of_lt_of_le ((MB.lt H1400 (Nat.le_refl _)) y hy) (e ▸ h))) (fun h => nf1414_1402 x y h hy)
       replace hB := below_ext hB e1418
       replace H990 := H990.ext e1418
       replace H991 := H991.ext e1418
       replace H1400 := H1400.ext e1418
       replace H1412 := H1412.ext e1418
       clear e1418
       refine ⟨_, rfl, (fun w' => Below w.heap.size w w' ∧ Blk w' b10 [S a1.s, .slice A2 a1.l.length k3] 39 ∧ Blk w' b16 [S [], .slice none 0 0] 39 ∧ Blk w' b1397 [S [], .slice none 0 0] 39 ∧ Row ePlace w' A1410 k1411 r1408.l ∧ Row ePlace w' A1422 k1423 r1420.1.l), ⟨hB, H990, H991, H1400, H1412, H1424⟩, (fun a b hC hx => by obtain ⟨hB, H990, H991, H1400, H1412, H1424⟩ := hC; exact ⟨below_ext hB hx, H990.ext hx, H991.ext hx, H1400.ext hx, H1412.ext hx, H1424.ext hx⟩), (fun a hC => by obtain ⟨hB, H990, H991, H1400, H1412, H1424⟩ := hC; exact ⟨hB, H990, H991⟩), ?_⟩
       refine QT.do (v := .tuple #[.agg #[S r1420.1.s, .slice A1422 r1420.1.l.length k1423], .int .i64 r1420.2]) rfl (by decide +kernel) rfl rfl rfl (fun w' hJ => by obtain ⟨hB, H990, H991, H1400, H1412, H1424⟩ := hJ; exact D.mv (v := .tuple #[.agg #[S r1420.1.s, .slice A1422 r1420.1.l.length k1423], .int .i64 r1420.2]) rfl rfl ⟨rfl, Ext.refl _⟩) ?_
       refine QT.do (v := .agg #[S r1420.1.s, .slice A1422 r1420.1.l.length k1423]) rfl (by decide +kernel) rfl rfl rfl (fun w' hJ => by obtain ⟨hB, H990, H991, H1400, H1412, H1424⟩ := hJ; exact D.extract (v := .agg #[S r1420.1.s, .slice A1422 r1420.1.l.length k1423]) rfl rfl rfl ⟨rfl, Ext.refl _⟩) ?_
       refine QT.late (v := .int .i64 r1420.2) rfl rfl rfl rfl (fun w' hJ => by obtain ⟨hB, H990, H991⟩ := hJ; exact D.extract (v := .int .i64 r1420.2) rfl rfl rfl ⟨rfl, Ext.refl _⟩) ?_
       refine QT.eff rfl rfl (fun w1427 hC => ?_) QT.nomore
       obtain ⟨hB, H990, H991, H1400, H1412, H1424⟩ := hC
       refine D.store (v := .agg #[S r1420.1.s, .slice A1422 r1420.1.l.length k1423]) (us := [S r1420.1.s, .slice A1422 r1420.1.l.length k1423]) sz39 H1400 rfl rfl rfl rfl rfl rfl ?_
       intro w1428 H1429 e1430
       replace hB := below_blk hB e1430 g1402
       replace H990 := H990.gr e1430 (sepB (ne_of lt_15_1402 (MB.ge b1397)))
       replace H991 := H991.gr e1430 (sepB (ne_of lt_21_1402 (MB.ge b1397)))
       replace H1412 := H1412.gr e1430 (sepB nf1414_1402)
       replace H1424 := H1424.gr e1430 (sepB nf1426_1402)
       clear e1430
       refine ⟨undef, rfl, (fun w' => Below w.heap.size w w' ∧ Blk w' b10 [S a1.s, .slice A2 a1.l.length k3] 39 ∧ Blk w' b16 [S [], .slice none 0 0] 39 ∧ Blk w' b1397 [S r1420.1.s, .slice A1422 r1420.1.l.length k1423] 39 ∧ Row ePlace w' A1410 k1411 r1408.l ∧ Row ePlace w' A1422 k1423 r1420.1.l), ⟨hB, H990, H991, H1429, H1412, H1424⟩, (fun a b hC hx => by obtain ⟨hB, H990, H991, H1429, H1412, H1424⟩ := hC; exact ⟨below_ext hB hx, H990.ext hx, H991.ext hx, H1429.ext hx, H1412.ext hx, H1424.ext hx⟩), (fun a hC => by obtain ⟨hB, H990, H991, H1429, H1412, H1424⟩ := hC; exact ⟨hB, H990, H991⟩), ?_⟩
       refine QT.do (v := .int .i64 r1420.2) rfl (by decide +kernel) rfl rfl rfl (fun w' hJ => by obtain ⟨hB, H990, H991, H1429, H1412, H1424⟩ := hJ; exact D.asn (v := .int .i64 r1420.2) rfl rfl ⟨rfl, Ext.refl _⟩) ?_
       refine QT.nil fun w1431 hC => ?_
       obtain ⟨hB, H990, H991, H1429, H1412, H1424⟩ := hC
       exact ⟨b1397, r1420.1.s, A1422, k1423, r1420.1.l, rfl, rfl, hB, H991, H1424, (fun y hy => og1426 y hy), H1429, g1402, lt_21_1402, nf1426_21, nf1426_1402, h⟩
      exact QT.nomore
     ·intro f1233 w1232 hI
      obtain ⟨b1223, x1224, A1225, k1226, l1227, s1234, s1235, hB, H1222, H1228, hg1229, H1230, hg1231, pr21_1231, ps1229_21, ps1229_1231, h⟩ := hI
      refine X.fr (d := 6) s1234 ?_
      refine X.fr (d := 10) s1235 ?_
      unfold derrickref04_Put.j2 at h
      refine X.seq fun M1236 hM1237 => ?_
      refine X.region ?_
      refine XO.do rfl (D.loadA (j := 0) (us := [S x1224, .slice A1225 l1227.length k1226]) ag39 H1230.cs rfl rfl rfl rfl rfl ?_)
      refine XO.do rfl (D.store (v := .agg #[S x1224, .slice A1225 l1227.length k1226]) (us := [S x1224, .slice A1225 l1227.length k1226]) sz39 H1222 rfl rfl rfl rfl rfl rfl ?_)
      intro w1238 H1239 e1240
      replace hB := below_blk hB e1240 g21
      replace H1228 := H1228.gr e1240 (sepB ps1229_21)
      replace H1230 := H1230.gr e1240 (sepB (ne_flip (ne_of pr21_1231 (MB.ge b1223))))
      clear e1240
      refine XO.do rfl (D.asn (v := .int .i64 0) rfl rfl ?_)
      refine XO.nil ?_
      refine hM1237 _ _ ?_
      refine X.ret ?_
      injection h with h
      subst h
      exact hR _ _ _ (retCT ag39 H1239 rfl rfl rfl rfl) ⟨A1225, k1226, rfl, H1228, (fun y hy => hg1229 y hy), ext_of_below hB⟩
    ·rw [if_neg c1030] at h
     refine X.condF (congrArg Value.bool (beq_eq_false_iff_ne.2 c1030)) ?_
     refine X.seq fun M1432 hM1433 => ?_
     refine X.region ?_
     refine XO.do rfl (D.eql rfl rfl rfl ?_)
     refine XO.do rfl (D.asn (v := .bool (a6 == 6)) rfl rfl ?_)
     refine XO.nil ?_
     refine hM1433 _ _ ?_
     by_cases c1434 : a6 = 6
     ·rw [if_pos c1434] at h
      refine X.condT (congrArg Value.bool (beq_iff_eq.2 c1434)) ?_
      refine X.seq fun M1435 hM1436 => ?_
      refine X.region ?_
      refine XO.do rfl (D.mv (v := S a7) rfl rfl ?_)
      rcases (Classical.em (derrickref04_size.pre a7)).symm with c1437 | c1437
      ·rw [if_neg c1437] at h; cases h
      rw [if_pos c1437] at h
      obtain ⟨r1441, q1442, h⟩ := lt_elim h
      have hc1440 := derrickref04_size.ok a7 w993 c1437 
      rw [q1442] at hc1440
      clear q1442
      refine XO.do rfl (D.call (vs := [S a7]) cf59 hc1440 rfl rfl ?_)
      rintro _ w1438 ⟨rfl, e1439⟩
      clear hc1440
      replace hB := below_ext hB e1439
      replace H990 := H990.ext e1439
      replace H991 := H991.ext e1439
      clear e1439
      refine XO.do rfl (D.asn (v := .int .i64 r1441) rfl rfl ?_)
      refine XO.nil ?_
      refine hM1436 _ _ ?_
      refine X.seq fun M1443 hM1444 => ?_
      refine X.region ?_
      refine XO.do rfl (D.mv (v := .int .i64 r1441) rfl rfl ?_)
      refine XO.do rfl (D.mv (v := S a7) rfl rfl ?_)
      refine XO.do rfl (D.mv (v := .int .i64 r1441) rfl rfl ?_)
      rcases (Classical.em (0 ≤ r1441)).symm with c1445 | c1445
      ·rw [if_neg c1445] at h; cases h
      rw [if_pos c1445] at h
      rcases (Classical.em (r1441 ≤ (a7.length : Int))).symm with c1446 | c1446
      ·rw [if_neg c1446] at h; cases h
      rw [if_pos c1446] at h
      refine XO.do rfl (D.sliceSlo (i := r1441) Try.underlying9 rfl rfl c1445 c1446 rfl ?_)
      rcases (Classical.em (derrickref04_size.pre (a7.drop r1441.toNat))).symm with c1447 | c1447
      ·rw [if_neg c1447] at h; cases h
      rw [if_pos c1447] at h
      obtain ⟨r1451, q1452, h⟩ := lt_elim h
      have hc1450 := derrickref04_size.ok (a7.drop r1441.toNat) w1438 c1447 
      rw [q1452] at hc1450
      clear q1452
      refine XO.do rfl (D.call (vs := [S (a7.drop r1441.toNat)]) cf59 hc1450 rfl rfl ?_)
      rintro _ w1448 ⟨rfl, e1449⟩
      clear hc1450
      replace hB := below_ext hB e1449
      replace H990 := H990.ext e1449
      replace H991 := H991.ext e1449
      clear e1449
      refine XO.do rfl (D.add rfl rfl rfl ?_)
      refine XO.do rfl (D.asn (v := .int .i64 (w64 (r1441 + r1451))) rfl rfl ?_)
      refine XO.nil ?_
      refine hM1444 _ _ ?_
      refine X.cut (fun f1558 w1557 => ∃ b1548 : Nat, ∃ x1549 : Str, ∃ A1550 : Option Addr, ∃ k1551 : Nat, ∃ l1552 : List Place, f1558 2 = S a7 ∧ f1558 6 = pt b16 0 ∧ f1558 12 = .int .i64 r1441 ∧ f1558 13 = .int .i64 (w64 (r1441 + r1451)) ∧ f1558 14 = pt b1548 0 ∧ Below w.heap.size w w1557 ∧ Blk w1557 b16 [S [], .slice none 0 0] 39 ∧ Row ePlace w1557 A1550 k1551 l1552 ∧ (∀ y, MR A1550 l1552 y → w.heap.size ≤ y ∨ MR A2 a1.l y) ∧ Blk w1557 b1548 [S x1549, .slice A1550 l1552.length k1551] 39 ∧ w.heap.size ≤ b1548 ∧ (∀ x, MB b16 x → x < b1548) ∧ (∀ x y, MR A1550 l1552 x → MB b16 y → x ≠ y) ∧ (∀ x y, MR A1550 l1552 x → MB b1548 y → x ≠ y) ∧ derrickref04_Put.j3 r1441 r1451 a7 x1549 l1552 = some res) ?_ ?_
      ·refine X.tree mixed0 [0, 0, 0, 6, 15, 31, 63, 63, 0, 383, 1023] (.q 0 (.q 1 (.q 2 (.q 3 (.alt 4 (.q 5 (.q 6 (.q 7 (.alt 8 (.alt 9 (.q 10 .nil) .nil) .nil)))) (.alt 8 (.alt 4 (.q 5 (.q 6 (.q 7 (.alt 9 (.q 10 .nil) .nil)))) .nil) .nil)))))) (fun w' => Below w.heap.size w w' ∧ Blk w' b10 [S a1.s, .slice A2 a1.l.length k3] 39 ∧ Blk w' b16 [S [], .slice none 0 0] 39) (fun w' => Below w.heap.size w w' ∧ Blk w' b10 [S a1.s, .slice A2 a1.l.length k3] 39 ∧ Blk w' b16 [S [], .slice none 0 0] 39) (by decide +kernel) (fun w' hx _ => ⟨below_ext hB hx, H990.ext hx, H991.ext hx⟩) (fun a b hC hx => by obtain ⟨hB, H990, H991⟩ := hC; exact ⟨below_ext hB hx, H990.ext hx, H991.ext hx⟩) (fun a hC => by obtain ⟨hB, H990, H991⟩ := hC; exact ⟨hB, H990, H991⟩) ?_
       refine QT.late (v := .agg #[S a1.s, .slice A2 a1.l.length k3]) rfl rfl rfl rfl (fun w' hJ => by obtain ⟨hB, H990, H991⟩ := hJ; exact D.loadA (j := 0) (us := [S a1.s, .slice A2 a1.l.length k3]) ag39 H990.cs rfl rfl rfl rfl rfl ⟨rfl, Ext.refl _⟩) ?_
       refine QT.late (v := S a7) rfl rfl rfl rfl (fun w' hJ => by obtain ⟨hB, H990, H991⟩ := hJ; exact D.mv (v := S a7) rfl rfl ⟨rfl, Ext.refl _⟩) ?_
       refine QT.late (v := .int .i64 r1441) rfl rfl rfl rfl (fun w' hJ => by obtain ⟨hB, H990, H991⟩ := hJ; exact D.mv (v := .int .i64 r1441) rfl rfl ⟨rfl, Ext.refl _⟩) ?_
       refine QT.late (v := S (a7.take r1441.toNat)) rfl rfl rfl rfl (fun w' hJ => by obtain ⟨hB, H990, H991⟩ := hJ; exact D.sliceShi (j := r1441) Try.underlying9 rfl rfl c1445 c1446 rfl ⟨rfl, Ext.refl _⟩) ?_
       refine QT.eff rfl rfl (fun w1861 hC => ?_) ?_
       ·obtain ⟨hB, H990, H991⟩ := hC
        rcases (Classical.em (derrickref03_Name.pre a1 (a7.take r1441.toNat))).symm with c1862 | c1862
        ·rw [if_neg c1862] at h; cases h
        rw [if_pos c1862] at h
        obtain ⟨r1866, q1867, h⟩ := lt_elim h
        have hc1865 := derrickref03_Name.ok a1 (a7.take r1441.toNat) A2 k3 w1861 (H4.below hB) c1862 
        rw [q1867] at hc1865
        clear q1867
        refine D.call (vs := [.agg #[S a1.s, .slice A2 a1.l.length k3], S (a7.take r1441.toNat)]) cf32 hc1865 rfl rfl ?_
        rintro _ w1863 ⟨A1868, k1869, rfl, H1870, g1871, e1864⟩
        clear hc1865
        have og1872 : (∀ y, MR A1868 r1866.1.l y → w.heap.size ≤ y ∨ MR A2 a1.l y) := fun y hy => (g1871 y hy).elim (fun h => .inl (Nat.le_trans hB.size h)) (fun h => (.inr h))
        have nf1872_15 : ∀ x y, MR A1868 r1866.1.l x → MB b10 y → x ≠ y := fun x y hx hy => (g1871 x hx).elim (fun h e => Nat.lt_irrefl _ (Nat.lt_of_lt_of_le ((MB.lt H990 (Nat.le_refl _)) y hy) (e ▸ h))) (fun h => (ne_of (MR.lt H4 (Nat.le_refl _)) (ge_blk g15)) x y h hy)
        have nf1872_21 : ∀ x y, MR A1868 r1866.1.l x → MB b16 y → x ≠ y := fun x y hx hy => (g1871 x hx).elim (fun h e => Nat.lt_irrefl _ (Nat.lt_of_lt_of_le ((MB.lt H991 (Nat.le_refl _)) y hy) (e ▸ h))) (fun h => (ne_of (MR.lt H4 (Nat.le_refl _)) (ge_blk g21)) x y h hy)
        replace hB := below_ext hB e1864
        replace H990 := H990.ext e1864
        replace H991 := H991.ext e1864
        clear e1864
        refine ⟨_, rfl, (fun w' => Below w.heap.size w w' ∧ Blk w' b10 [S a1.s, .slice A2 a1.l.length k3] 39 ∧ Blk w' b16 [S [], .slice none 0 0] 39 ∧ Row ePlace w' A1868 k1869 r1866.1.l), ⟨hB, H990, H991, H1870⟩, (fun a b hC hx => by obtain ⟨hB, H990, H991, H1870⟩ := hC; exact ⟨below_ext hB hx, H990.ext hx, H991.ext hx, H1870.ext hx⟩), (fun a hC => by obtain ⟨hB, H990, H991, H1870⟩ := hC; exact ⟨hB, H990, H991⟩), ?_⟩
        refine QT.late (v := .tuple #[.agg #[S r1866.1.s, .slice A1868 r1866.1.l.length k1869], .int .i64 r1866.2]) rfl rfl rfl rfl (fun w' hJ => by obtain ⟨hB, H990, H991⟩ := hJ; exact D.mv (v := .tuple #[.agg #[S r1866.1.s, .slice A1868 r1866.1.l.length k1869], .int .i64 r1866.2]) rfl rfl ⟨rfl, Ext.refl _⟩) ?_
        refine QT.late (v := .agg #[S r1866.1.s, .slice A1868 r1866.1.l.length k1869]) rfl rfl rfl rfl (fun w' hJ => by obtain ⟨hB, H990, H991⟩ := hJ; exact D.extract (v := .agg #[S r1866.1.s, .slice A1868 r1866.1.l.length k1869]) rfl rfl rfl ⟨rfl, Ext.refl _⟩) ?_
        refine QT.late (v := .int .i64 r1866.2) rfl rfl rfl rfl (fun w' hJ => by obtain ⟨hB, H990, H991⟩ := hJ; exact D.extract (v := .int .i64 r1866.2) rfl rfl rfl ⟨rfl, Ext.refl _⟩) ?_
        refine QT.eff rfl rfl (fun w1873 hC => ?_) QT.nomore
        obtain ⟨hB, H990, H991, H1870⟩ := hC
        refine D.alloc ti39 (cs := [S [], .slice none 0 0]) rfl rfl ?_
        intro b1874 w1875 hb1876 H1877 e1878 _
        have lt_15_1879 : ∀ x, MB b10 x → x < b1874 := (MB.lt H990 (Nat.le_of_eq hb1876.symm))
        have lt_21_1879 : ∀ x, MB b16 x → x < b1874 := (MB.lt H991 (Nat.le_of_eq hb1876.symm))
        have lt_1872_1879 : ∀ x, MR A1868 r1866.1.l x → x < b1874 := (MR.lt H1870 (Nat.le_of_eq hb1876.symm))
        have g1879 : w.heap.size ≤ b1874 := Nat.le_trans hB.size (Nat.le_of_eq hb1876.symm)
        clear hb1876
        replace hB := below_ext hB e1878
        replace H990 := H990.ext e1878
        replace H991 := H991.ext e1878
        replace H1870 := H1870.ext e1878
        clear e1878
        refine ⟨_, rfl, (fun w' => Below w.heap.size w w' ∧ Blk w' b10 [S a1.s, .slice A2 a1.l.length k3] 39 ∧ Blk w' b16 [S [], .slice none 0 0] 39 ∧ Row ePlace w' A1868 k1869 r1866.1.l ∧ Blk w' b1874 [S [], .slice none 0 0] 39), ⟨hB, H990, H991, H1870, H1877⟩, (fun a b hC hx => by obtain ⟨hB, H990, H991, H1870, H1877⟩ := hC; exact ⟨below_ext hB hx, H990.ext hx, H991.ext hx, H1870.ext hx, H1877.ext hx⟩), (fun a hC => by obtain ⟨hB, H990, H991, H1870, H1877⟩ := hC; exact ⟨hB, H990, H991⟩), ?_⟩
        refine QT.eff rfl rfl (fun w1880 hC => ?_) QT.nomore
        obtain ⟨hB, H990, H991, H1870, H1877⟩ := hC
        refine D.store (v := .agg #[S r1866.1.s, .slice A1868 r1866.1.l.length k1869]) (us := [S r1866.1.s, .slice A1868 r1866.1.l.length k1869]) sz39 H1877 rfl rfl rfl rfl rfl rfl ?_
        intro w1881 H1882 e1883
        replace hB := below_blk hB e1883 g1879
        replace H990 := H990.gr e1883 (sepB (ne_of lt_15_1879 (MB.ge b1874)))
        replace H991 := H991.gr e1883 (sepB (ne_of lt_21_1879 (MB.ge b1874)))
        replace H1870 := H1870.gr e1883 (sepB (ne_of lt_1872_1879 (MB.ge b1874)))
        clear e1883
        refine ⟨undef, rfl, (fun w' => Below w.heap.size w w' ∧ Blk w' b10 [S a1.s, .slice A2 a1.l.length k3] 39 ∧ Blk w' b16 [S [], .slice none 0 0] 39 ∧ Row ePlace w' A1868 k1869 r1866.1.l ∧ Blk w' b1874 [S r1866.1.s, .slice A1868 r1866.1.l.length k1869] 39), ⟨hB, H990, H991, H1870, H1882⟩, (fun a b hC hx => by obtain ⟨hB, H990, H991, H1870, H1882⟩ := hC; exact ⟨below_ext hB hx, H990.ext hx, H991.ext hx, H1870.ext hx, H1882.ext hx⟩), (fun a hC => by obtain ⟨hB, H990, H991, H1870, H1882⟩ := hC; exact ⟨hB, H990, H991⟩), ?_⟩
        refine QT.do (v := .int .i64 r1866.2) rfl (by decide +kernel) rfl rfl rfl (fun w' hJ => by obtain ⟨hB, H990, H991, H1870, H1882⟩ := hJ; exact D.asn (v := .int .i64 r1866.2) rfl rfl ⟨rfl, Ext.refl _⟩) ?_
        refine QT.nil fun w1884 hC => ?_
        obtain ⟨hB, H990, H991, H1870, H1882⟩ := hC
        exact ⟨b1874, r1866.1.s, A1868, k1869, r1866.1.l, rfl, rfl, rfl, rfl, rfl, hB, H991, H1870, (fun y hy => og1872 y hy), H1882, g1879, lt_21_1879, nf1872_21, (ne_of lt_1872_1879 (MB.ge b1874)), h⟩
       refine QT.eff rfl rfl (fun w1885 hC => ?_) ?_
       ·obtain ⟨hB, H990, H991⟩ := hC
        refine D.alloc ti39 (cs := [S [], .slice none 0 0]) rfl rfl ?_
        intro b1886 w1887 hb1888 H1889 e1890 _
        have lt_15_1891 : ∀ x, MB b10 x → x < b1886 := (MB.lt H990 (Nat.le_of_eq hb1888.symm))
        have lt_21_1891 : ∀ x, MB b16 x → x < b1886 := (MB.lt H991 (Nat.le_of_eq hb1888.symm))
        have g1891 : w.heap.size ≤ b1886 := Nat.le_trans hB.size (Nat.le_of_eq hb1888.symm)
        clear hb1888
        replace hB := below_ext hB e1890
        replace H990 := H990.ext e1890
        replace H991 := H991.ext e1890
        clear e1890
        refine ⟨_, rfl, (fun w' => Below w.heap.size w w' ∧ Blk w' b10 [S a1.s, .slice A2 a1.l.length k3] 39 ∧ Blk w' b16 [S [], .slice none 0 0] 39 ∧ Blk w' b1886 [S [], .slice none 0 0] 39), ⟨hB, H990, H991, H1889⟩, (fun a b hC hx => by obtain ⟨hB, H990, H991, H1889⟩ := hC; exact ⟨below_ext hB hx, H990.ext hx, H991.ext hx, H1889.ext hx⟩), (fun a hC => by obtain ⟨hB, H990, H991, H1889⟩ := hC; exact ⟨hB, H990, H991⟩), ?_⟩
        refine QT.eff rfl rfl (fun w1892 hC => ?_) QT.nomore
        obtain ⟨hB, H990, H991, H1889⟩ := hC
        rcases (Classical.em (derrickref03_Name.pre a1 (a7.take r1441.toNat))).symm with c1893 | c1893
        ·rw [if_neg c1893] at h; cases h
        rw [if_pos c1893] at h
        obtain ⟨r1897, q1898, h⟩ := lt_elim h
        have hc1896 := derrickref03_Name.ok a1 (a7.take r1441.toNat) A2 k3 w1892 (H4.below hB) c1893 
        rw [q1898] at hc1896
        clear q1898
        refine D.call (vs := [.agg #[S a1.s, .slice A2 a1.l.length k3], S (a7.take r1441.toNat)]) cf32 hc1896 rfl rfl ?_
        rintro _ w1894 ⟨A1899, k1900, rfl, H1901, g1902, e1895⟩
        clear hc1896
        have og1903 : (∀ y, MR A1899 r1897.1.l y → w.heap.size ≤ y ∨ MR A2 a1.l y) := fun y hy => (g1902 y hy).elim (fun h => .inl (Nat.le_trans hB.size h)) (fun h => (.inr h))
        have nf1903_15 : ∀ x y, MR A1899 r1897.1.l x → MB b10 y → x ≠ y := fun x y hx hy => (g1902 x hx).elim (fun h e => Nat.lt_irrefl _ (Nat.lt_of_lt_of_le ((MB.lt H990 (Nat.le_refl _)) y hy) (e ▸ h))) (fun h => (ne_of (MR.lt H4 (Nat.le_refl _)) (ge_blk g15)) x y h hy)
        have nf1903_21 : ∀ x y, MR A1899 r1897.1.l x → MB b16 y → x ≠ y := fun x y hx hy => (g1902 x hx).elim (fun h e => Nat.lt_irrefl _ (Nat.lt_of_lt_of_le ((MB.lt H991 (Nat.le_refl _)) y hy) (e ▸ h))) (fun h => (ne_of (MR.lt H4 (Nat.le_refl _)) (ge_blk g21)) x y h hy)
        have nf1903_1891 : ∀ x y, MR A1899 r1897.1.l x → MB b1886 y → x ≠ y := fun x y hx hy => (g1902 x hx).elim (fun h e => Nat.lt_irrefl _ (Nat.lt_of_lt_of_le ((MB.lt H1889 (Nat.le_refl _)) y hy) (e ▸ h))) (fun h => (ne_of (MR.lt H4 (Nat.le_refl _)) (ge_blk g1891)) x y h hy)
        replace hB := below_ext hB e1895
        replace H990 := H990.ext e1895
        replace H991 := H991.ext e1895
        replace H1889 := H1889.ext e1895
        clear e1895
        refine ⟨_, rfl, (fun w' => Below w.heap.size w w' ∧ Blk w' b10 [S a1.s, .slice A2 a1.l.length k3] 39 ∧ Blk w' b16 [S [], .slice none 0 0] 39 ∧ Blk w' b1886 [S [], .slice none 0 0] 39 ∧ Row ePlace w' A1899 k1900 r1897.1.l), ⟨hB, H990, H991, H1889, H1901⟩, (fun a b hC hx => by obtain ⟨hB, H990, H991, H1889, H1901⟩ := hC; exact ⟨below_ext hB hx, H990.ext hx, H991.ext hx, H1889.ext hx, H1901.ext hx⟩), (fun a hC => by obtain ⟨hB, H990, H991, H1889, H1901⟩ := hC; exact ⟨hB, H990, H991⟩), ?_⟩
        refine QT.do (v := .tuple #[.agg #[S r1897.1.s, .slice A1899 r1897.1.l.length k1900], .int .i64 r1897.2]) rfl (by decide +kernel) rfl rfl rfl (fun w' hJ => by obtain ⟨hB, H990, H991, H1889, H1901⟩ := hJ; exact D.mv (v := .tuple #[.agg #[S r1897.1.s, .slice A1899 r1897.1.l.length k1900], .int .i64 r1897.2]) rfl rfl ⟨rfl, Ext.refl _⟩) ?_
        refine QT.do (v := .agg #[S r1897.1.s, .slice A1899 r1897.1.l.length k1900]) rfl (by decide +kernel) rfl rfl rfl (fun w' hJ => by obtain ⟨hB, H990, H991, H1889, H1901⟩ := hJ; exact D.extract (v := .agg #[S r1897.1.s, .slice A1899 r1897.1.l.length k1900]) rfl rfl rfl ⟨rfl, Ext.refl _⟩) ?_
        refine QT.late (v := .int .i64 r1897.2) rfl rfl rfl rfl (fun w' hJ => by obtain ⟨hB, H990, H991⟩ := hJ; exact D.extract (v := .int .i64 r1897.2) rfl rfl rfl ⟨rfl, Ext.refl _⟩) ?_
        refine QT.eff rfl rfl (fun w1904 hC => ?_) QT.nomore
        obtain ⟨hB, H990, H991, H1889, H1901⟩ := hC
        refine D.store (v := .agg #[S r1897.1.s, .slice A1899 r1897.1.l.length k1900]) (us := [S r1897.1.s, .slice A1899 r1897.1.l.length k1900]) sz39 H1889 rfl rfl rfl rfl rfl rfl ?_
        intro w1905 H1906 e1907
        replace hB := below_blk hB e1907 g1891
        replace H990 := H990.gr e1907 (sepB (ne_of lt_15_1891 (MB.ge b1886)))
        replace H991 := H991.gr e1907 (sepB (ne_of lt_21_1891 (MB.ge b1886)))
        replace H1901 := H1901.gr e1907 (sepB nf1903_1891)
        clear e1907
        refine ⟨undef, rfl, (fun w' => Below w.heap.size w w' ∧ Blk w' b10 [S a1.s, .slice A2 a1.l.length k3] 39 ∧ Blk w' b16 [S [], .slice none 0 0] 39 ∧ Blk w' b1886 [S r1897.1.s, .slice A1899 r1897.1.l.length k1900] 39 ∧ Row ePlace w' A1899 k1900 r1897.1.l), ⟨hB, H990, H991, H1906, H1901⟩, (fun a b hC hx => by obtain ⟨hB, H990, H991, H1906, H1901⟩ := hC; exact ⟨below_ext hB hx, H990.ext hx, H991.ext hx, H1906.ext hx, H1901.ext hx⟩), (fun a hC => by obtain ⟨hB, H990, H991, H1906, H1901⟩ := hC; exact ⟨hB, H990, H991⟩), ?_⟩
        refine QT.do (v := .int .i64 r1897.2) rfl (by decide +kernel) rfl rfl rfl (fun w' hJ => by obtain ⟨hB, H990, H991, H1906, H1901⟩ := hJ; exact D.asn (v := .int .i64 r1897.2) rfl rfl ⟨rfl, Ext.refl _⟩) ?_
        refine QT.nil fun w1908 hC => ?_
        obtain ⟨hB, H990, H991, H1906, H1901⟩ := hC
        exact ⟨b1886, r1897.1.s, A1899, k1900, r1897.1.l, rfl, rfl, rfl, rfl, rfl, hB, H991, H1901, (fun y hy => og1903 y hy), H1906, g1891, lt_21_1891, nf1903_21, nf1903_1891, h⟩
       exact QT.nomore
      ·intro f1558 w1557 hI
       obtain ⟨b1548, x1549, A1550, k1551, l1552, s1559, s1560, s1561, s1562, s1563, hB, H1547, H1553, hg1554, H1555, hg1556, pr21_1556, ps1554_21, ps1554_1556, h⟩ := hI
       refine X.fr (d := 2) s1559 ?_
       refine X.fr (d := 6) s1560 ?_
       refine X.fr (d := 12) s1561 ?_
       refine X.fr (d := 13) s1562 ?_
       refine X.fr (d := 14) s1563 ?_
       unfold derrickref04_Put.j3 at h
       refine X.cut (fun f1673 w1672 => ∃ b1663 : Nat, ∃ x1664 : Str, ∃ A1665 : Option Addr, ∃ k1666 : Nat, ∃ l1667 : List Place, f1673 2 = S a7 ∧ f1673 6 = pt b16 0 ∧ f1673 13 = .int .i64 (w64 (r1441 + r1451)) ∧ f1673 16 = pt b1663 0 ∧ Below w.heap.size w w1672 ∧ Blk w1672 b16 [S [], .slice none 0 0] 39 ∧ Row ePlace w1672 A1665 k1666 l1667 ∧ (∀ y, MR A1665 l1667 y → w.heap.size ≤ y ∨ MR A2 a1.l y) ∧ Blk w1672 b1663 [S x1664, .slice A1665 l1667.length k1666] 39 ∧ w.heap.size ≤ b1663 ∧ (∀ x, MB b16 x → x < b1663) ∧ (∀ x y, MR A1665 l1667 x → MB b16 y → x ≠ y) ∧ (∀ x y, MR A1665 l1667 x → MB b1663 y → x ≠ y) ∧ derrickref04_Put.j4 r1441 r1451 a7 x1664 l1667 = some res) ?_ ?_
       ·refine X.tree mixed0 [0, 0, 0, 0, 14, 31, 63, 127, 127, 0, 767, 2047] (.q 0 (.q 1 (.q 2 (.q 3 (.q 4 (.alt 5 (.q 6 (.q 7 (.q 8 (.alt 9 (.alt 10 (.q 11 .nil) .nil) .nil)))) (.alt 9 (.alt 5 (.q 6 (.q 7 (.q 8 (.alt 10 (.q 11 .nil) .nil)))) .nil) .nil))))))) (fun w' => Below w.heap.size w w' ∧ Blk w' b16 [S [], .slice none 0 0] 39 ∧ Row ePlace w' A1550 k1551 l1552 ∧ Blk w' b1548 [S x1549, .slice A1550 l1552.length k1551] 39) (fun w' => Below w.heap.size w w' ∧ Blk w' b16 [S [], .slice none 0 0] 39 ∧ Row ePlace w' A1550 k1551 l1552 ∧ Blk w' b1548 [S x1549, .slice A1550 l1552.length k1551] 39) (by decide +kernel) (fun w' hx _ => ⟨below_ext hB hx, H1547.ext hx, H1553.ext hx, H1555.ext hx⟩) (fun a b hC hx => by obtain ⟨hB, H1547, H1553, H1555⟩ := hC; exact ⟨below_ext hB hx, H1547.ext hx, H1553.ext hx, H1555.ext hx⟩) (fun a hC => by obtain ⟨hB, H1547, H1553, H1555⟩ := hC; exact ⟨hB, H1547, H1553, H1555⟩) ?_
        refine QT.late (v := .agg #[S x1549, .slice A1550 l1552.length k1551]) rfl rfl rfl rfl (fun w' hJ => by obtain ⟨hB, H1547, H1553, H1555⟩ := hJ; exact D.loadA (j := 0) (us := [S x1549, .slice A1550 l1552.length k1551]) ag39 H1555.cs rfl rfl rfl rfl rfl ⟨rfl, Ext.refl _⟩) ?_
        refine QT.late (v := S a7) rfl rfl rfl rfl (fun w' hJ => by obtain ⟨hB, H1547, H1553, H1555⟩ := hJ; exact D.mv (v := S a7) rfl rfl ⟨rfl, Ext.refl _⟩) ?_
        refine QT.late (v := .int .i64 r1441) rfl rfl rfl rfl (fun w' hJ => by obtain ⟨hB, H1547, H1553, H1555⟩ := hJ; exact D.mv (v := .int .i64 r1441) rfl rfl ⟨rfl, Ext.refl _⟩) ?_
        refine QT.late (v := .int .i64 (w64 (r1441 + r1451))) rfl rfl rfl rfl (fun w' hJ => by obtain ⟨hB, H1547, H1553, H1555⟩ := hJ; exact D.mv (v := .int .i64 (w64 (r1441 + r1451))) rfl rfl ⟨rfl, Ext.refl _⟩) ?_
        rcases (Classical.em (r1441 ≤ w64 (r1441 + r1451))).symm with c1765 | c1765
        ·rw [if_neg c1765] at h; cases h
        rw [if_pos c1765] at h
        rcases (Classical.em (w64 (r1441 + r1451) ≤ (a7.length : Int))).symm with c1766 | c1766
        ·rw [if_neg c1766] at h; cases h
        rw [if_pos c1766] at h
        refine QT.late (v := S ((a7.drop r1441.toNat).take ((w64 (r1441 + r1451)).toNat - r1441.toNat))) rfl rfl rfl rfl (fun w' hJ => by obtain ⟨hB, H1547, H1553, H1555⟩ := hJ; exact D.sliceS (i := r1441) (j := w64 (r1441 + r1451)) Try.underlying9 rfl rfl rfl c1445 c1765 c1766 rfl ⟨rfl, Ext.refl _⟩) ?_
        refine QT.eff rfl rfl (fun w1767 hC => ?_) ?_
        ·obtain ⟨hB, H1547, H1553, H1555⟩ := hC
         rcases (Classical.em (derrickref03_Name.pre (⟨x1549, l1552⟩ : RPack) ((a7.drop r1441.toNat).take ((w64 (r1441 + r1451)).toNat - r1441.toNat)))).symm with c1768 | c1768
         ·rw [if_neg c1768] at h; cases h
         rw [if_pos c1768] at h
         obtain ⟨r1772, q1773, h⟩ := lt_elim h
         have hc1771 := derrickref03_Name.ok (⟨x1549, l1552⟩ : RPack) ((a7.drop r1441.toNat).take ((w64 (r1441 + r1451)).toNat - r1441.toNat)) A1550 k1551 w1767 H1553 c1768 
         rw [q1773] at hc1771
         clear q1773
         refine D.call (vs := [.agg #[S x1549, .slice A1550 l1552.length k1551], S ((a7.drop r1441.toNat).take ((w64 (r1441 + r1451)).toNat - r1441.toNat))]) cf32 hc1771 rfl rfl ?_
         rintro _ w1769 ⟨A1774, k1775, rfl, H1776, g1777, e1770⟩
         clear hc1771
         have og1778 : (∀ y, MR A1774 r1772.1.l y → w.heap.size ≤ y ∨ MR A2 a1.l y) := fun y hy => (g1777 y hy).elim (fun h => .inl (Nat.le_trans hB.size h)) (fun h => hg1554 y h)
         have nf1778_21 : ∀ x y, MR A1774 r1772.1.l x → MB b16 y → x ≠ y := fun x y hx hy => (g1777 x hx).elim (fun h e => Nat.lt_irrefl _ (Nat.lt_of_lt_of_le ((MB.lt H1547 (Nat.le_refl _)) y hy) (e ▸ h))) (fun h => ps1554_21 x y h hy)
         have nf1778_1556 : ∀ x y, MR A1774 r1772.1.l x → MB b1548 y → x ≠ y := fun x y hx hy => (g1777 x hx).elim (fun h e => Nat.lt_irrefl _ (Nat.lt_of_lt_of_le ((MB.lt H1555 (Nat.le_refl _)) y hy) (e ▸ h))) (fun h => ps1554_1556 x y h hy)
         replace hB := below_ext hB e1770
         replace H1547 := H1547.ext e1770
         replace H1553 := H1553.ext e1770
         replace H1555 := H1555.ext e1770
         clear e1770
         refine ⟨_, rfl, (fun w' => Below w.heap.size w w' ∧ Blk w' b16 [S [], .slice none 0 0] 39 ∧ Row ePlace w' A1550 k1551 l1552 ∧ Blk w' b1548 [S x1549, .slice A1550 l1552.length k1551] 39 ∧ Row ePlace w' A1774 k1775 r1772.1.l), ⟨hB, H1547, H1553, H1555, H1776⟩, (fun a b hC hx => by obtain ⟨hB, H1547, H1553, H1555, H1776⟩ := hC; exact ⟨below_ext hB hx, H1547.ext hx, H1553.ext hx, H1555.ext hx, H1776.ext hx⟩), (fun a hC => by obtain ⟨hB, H1547, H1553, H1555, H1776⟩ := hC; exact ⟨hB, H1547, H1553, H1555⟩), ?_⟩
         refine QT.late (v := .tuple #[.agg #[S r1772.1.s, .slice A1774 r1772.1.l.length k1775], .int .i64 r1772.2]) rfl rfl rfl rfl (fun w' hJ => by obtain ⟨hB, H1547, H1553, H1555⟩ := hJ; exact D.mv (v := .tuple #[.agg #[S r1772.1.s, .slice A1774 r1772.1.l.length k1775], .int .i64 r1772.2]) rfl rfl ⟨rfl, Ext.refl _⟩) ?_
         refine QT.late (v := .agg #[S r1772.1.s, .slice A1774 r1772.1.l.length k1775]) rfl rfl rfl rfl (fun w' hJ => by obtain ⟨hB, H1547, H1553, H1555⟩ := hJ; exact D.extract (v := .agg #[S r1772.1.s, .slice A1774 r1772.1.l.length k1775]) rfl rfl rfl ⟨rfl, Ext.refl _⟩) ?_
         refine QT.late (v := .int .i64 r1772.2) rfl rfl rfl rfl (fun w' hJ => by obtain ⟨hB, H1547, H1553, H1555⟩ := hJ; exact D.extract (v := .int .i64 r1772.2) rfl rfl rfl ⟨rfl, Ext.refl _⟩) ?_
         refine QT.eff rfl rfl (fun w1779 hC => ?_) QT.nomore
         obtain ⟨hB, H1547, H1553, H1555, H1776⟩ := hC
         refine D.alloc ti39 (cs := [S [], .slice none 0 0]) rfl rfl ?_
         intro b1780 w1781 hb1782 H1783 e1784 _
         have lt_21_1785 : ∀ x, MB b16 x → x < b1780 := (MB.lt H1547 (Nat.le_of_eq hb1782.symm))
         have lt_1554_1785 : ∀ x, MR A1550 l1552 x → x < b1780 := (MR.lt H1553 (Nat.le_of_eq hb1782.symm))
         have lt_1556_1785 : ∀ x, MB b1548 x → x < b1780 := (MB.lt H1555 (Nat.le_of_eq hb1782.symm))
         have lt_1778_1785 : ∀ x, MR A1774 r1772.1.l x → x < b1780 := (MR.lt H1776 (Nat.le_of_eq hb1782.symm))
         have g1785 : w.heap.size ≤ b1780 := Nat.le_trans hB.size (Nat.le_of_eq hb1782.symm)
         clear hb1782
         replace hB := below_ext hB e1784
         replace H1547 := H1547.ext e1784
         replace H1553 := H1553.ext e1784
         replace H1555 := H1555.ext e1784
         replace H1776 := H1776.ext e1784
         clear e1784
         refine ⟨_, rfl, (fun w' => Below w.heap.size w w' ∧ Blk w' b16 [S [], .slice none 0 0] 39 ∧ Row ePlace w' A1550 k1551 l1552 ∧ Blk w' b1548 [S x1549, .slice A1550 l1552.length k1551] 39 ∧ Row ePlace w' A1774 k1775 r1772.1.l ∧ Blk w' b1780 [S [], .slice none 0 0] 39), ⟨hB, H1547, H1553, H1555, H1776, H1783⟩, (fun a b hC hx => by obtain ⟨hB, H1547, H1553, H1555, H1776, H1783⟩ := hC; exact ⟨below_ext hB hx, H1547.ext hx, H1553.ext hx, H1555.ext hx, H1776.ext hx, H1783.ext hx⟩), (fun a hC => by obtain ⟨hB, H1547, H1553, H1555, H1776, H1783⟩ := hC; exact ⟨hB, H1547, H1553, H1555⟩), ?_⟩
         refine QT.eff rfl rfl (fun w1786 hC => ?_) QT.nomore
         obtain ⟨hB, H1547, H1553, H1555, H1776, H1783⟩ := hC
         refine D.store (v := .agg #[S r1772.1.s, .slice A1774 r1772.1.l.length k1775]) (us := [S r1772.1.s, .slice A1774 r1772.1.l.length k1775]) sz39 H1783 rfl rfl rfl rfl rfl rfl ?_
         intro w1787 H1788 e1789
         replace hB := below_blk hB e1789 g1785
         replace H1547 := H1547.gr e1789 (sepB (ne_of lt_21_1785 (MB.ge b1780)))
         replace H1553 := H1553.gr e1789 (sepB (ne_of lt_1554_1785 (MB.ge b1780)))
         replace H1555 := H1555.gr e1789 (sepB (ne_of lt_1556_1785 (MB.ge b1780)))
         replace H1776 := H1776.gr e1789 (sepB (ne_of lt_1778_1785 (MB.ge b1780)))
         clear e1789
         refine ⟨undef, rfl, (fun w' => Below w.heap.size w w' ∧ Blk w' b16 [S [], .slice none 0 0] 39 ∧ Row ePlace w' A1550 k1551 l1552 ∧ Blk w' b1548 [S x1549, .slice A1550 l1552.length k1551] 39 ∧ Row ePlace w' A1774 k1775 r1772.1.l ∧ Blk w' b1780 [S r1772.1.s, .slice A1774 r1772.1.l.length k1775] 39), ⟨hB, H1547, H1553, H1555, H1776, H1788⟩, (fun a b hC hx => by obtain ⟨hB, H1547, H1553, H1555, H1776, H1788⟩ := hC; exact ⟨below_ext hB hx, H1547.ext hx, H1553.ext hx, H1555.ext hx, H1776.ext hx, H1788.ext hx⟩), (fun a hC => by obtain ⟨hB, H1547, H1553, H1555, H1776, H1788⟩ := hC; exact ⟨hB, H1547, H1553, H1555⟩), ?_⟩
         refine QT.do (v := .int .i64 r1772.2) rfl (by decide +kernel) rfl rfl rfl (fun w' hJ => by obtain ⟨hB, H1547, H1553, H1555, H1776, H1788⟩ := hJ; exact D.asn (v := .int .i64 r1772.2) rfl rfl ⟨rfl, Ext.refl _⟩) ?_
         refine QT.nil fun w1790 hC => ?_
         obtain ⟨hB, H1547, H1553, H1555, H1776, H1788⟩ := hC
         exact ⟨b1780, r1772.1.s, A1774, k1775, r1772.1.l, rfl, rfl, rfl, rfl, hB, H1547, H1776, (fun y hy => og1778 y hy), H1788, g1785, lt_21_1785, nf1778_21, (ne_of lt_1778_1785 (MB.ge b1780)), h⟩
        refine QT.eff rfl rfl (fun w1791 hC => ?_) ?_
        ·obtain ⟨hB, H1547, H1553, H1555⟩ := hC
         refine D.alloc ti39 (cs := [S [], .slice none 0 0]) rfl rfl ?_
         intro b1792 w1793 hb1794 H1795 e1796 _
         have lt_21_1797 : ∀ x, MB b16 x → x < b1792 := (MB.lt H1547 (Nat.le_of_eq hb1794.symm))
         have lt_1554_1797 : ∀ x, MR A1550 l1552 x → x < b1792 := (MR.lt H1553 (Nat.le_of_eq hb1794.symm))
         have lt_1556_1797 : ∀ x, MB b1548 x → x < b1792 := (MB.lt H1555 (Nat.le_of_eq hb1794.symm))
         have g1797 : w.heap.size ≤ b1792 := Nat.le_trans hB.size (Nat.le_of_eq hb1794.symm)
         clear hb1794
         replace hB := below_ext hB e1796
         replace H1547 := H1547.ext e1796
         replace H1553 := H1553.ext e1796
         replace H1555 := H1555.ext e1796
         clear e1796
         refine ⟨_, rfl, (fun w' => Below w.heap.size w w' ∧ Blk w' b16 [S [], .slice none 0 0] 39 ∧ Row ePlace w' A1550 k1551 l1552 ∧ Blk w' b1548 [S x1549, .slice A1550 l1552.length k1551] 39 ∧ Blk w' b1792 [S [], .slice none 0 0] 39), ⟨hB, H1547, H1553, H1555, H1795⟩, (fun a b hC hx => by obtain ⟨hB, H1547, H1553, H1555, H1795⟩ := hC; exact ⟨below_ext hB hx, H1547.ext hx, H1553.ext hx, H1555.ext hx, H1795.ext hx⟩), (fun a hC => by obtain ⟨hB, H1547, H1553, H1555, H1795⟩ := hC; exact ⟨hB, H1547, H1553, H1555⟩), ?_⟩
         refine QT.eff rfl rfl (fun w1798 hC => ?_) QT.nomore
         obtain ⟨hB, H1547, H1553, H1555, H1795⟩ := hC
         rcases (Classical.em (derrickref03_Name.pre (⟨x1549, l1552⟩ : RPack) ((a7.drop r1441.toNat).take ((w64 (r1441 + r1451)).toNat - r1441.toNat)))).symm with c1799 | c1799
         ·rw [if_neg c1799] at h; cases h
         rw [if_pos c1799] at h
         obtain ⟨r1803, q1804, h⟩ := lt_elim h
         have hc1802 := derrickref03_Name.ok (⟨x1549, l1552⟩ : RPack) ((a7.drop r1441.toNat).take ((w64 (r1441 + r1451)).toNat - r1441.toNat)) A1550 k1551 w1798 H1553 c1799 
         rw [q1804] at hc1802
         clear q1804
         refine D.call (vs := [.agg #[S x1549, .slice A1550 l1552.length k1551], S ((a7.drop r1441.toNat).take ((w64 (r1441 + r1451)).toNat - r1441.toNat))]) cf32 hc1802 rfl rfl ?_
         rintro _ w1800 ⟨A1805, k1806, rfl, H1807, g1808, e1801⟩
         clear hc1802
         have og1809 : (∀ y, MR A1805 r1803.1.l y → w.heap.size ≤ y ∨ MR A2 a1.l y) := fun y hy => (g1808 y hy).elim (fun h => .inl (Nat.le_trans hB.size h)) (fun h => hg1554 y h)
         have nf1809_21 : ∀ x y, MR A1805 r1803.1.l x → MB b16 y → x ≠ y := fun x y hx hy => (g1808 x hx).elim (fun h e => Nat.lt_irrefl _ (Nat.lt_of_lt_of_le ((MB.lt H1547 (Nat.le_refl _)) y hy) (e ▸ h))) (fun h => ps1554_21 x y h hy)
         have nf1809_1556 : ∀ x y, MR A1805 r1803.1.l x → MB b1548 y → x ≠ y := fun x y hx hy => (g1808 x hx).elim (fun h e => Nat.lt_irrefl _ (Nat.lt_of_lt_of_le ((MB.lt H1555 (Nat.le_refl _)) y hy) (e ▸ h))) (fun h => ps1554_1556 x y h hy)
         have nf1809_1797 : ∀ x y, MR A1805 r1803.1.l x → MB b1792 y → x ≠ y := fun x y hx hy => (g1808 x hx).elim (fun h e => Nat.lt_irrefl _ (Nat.lt_of_lt_of_le ((MB.lt H1795 (Nat.le_refl _)) y hy) (e ▸ h))) (fun h => (ne_of lt_1554_1797 (MB.ge b1792)) x y h hy)
         replace hB := below_ext hB e1801
         replace H1547 := H1547.ext e1801
         replace H1553 := H1553.ext e1801
         replace H1555 := H1555.ext e1801
         replace H1795 := H1795.ext e1801
         clear e1801
         refine ⟨_, rfl, (fun w' => Below w.heap.size w w' ∧ Blk w' b16 [S [], .slice none 0 0] 39 ∧ Row ePlace w' A1550 k1551 l1552 ∧ Blk w' b1548 [S x1549, .slice A1550 l1552.length k1551] 39 ∧ Blk w' b1792 [S [], .slice none 0 0] 39 ∧ Row ePlace w' A1805 k1806 r1803.1.l), ⟨hB, H1547, H1553, H1555, H1795, H1807⟩, (fun a b hC hx => by obtain ⟨hB, H1547, H1553, H1555, H1795, H1807⟩ := hC; exact ⟨below_ext hB hx, H1547.ext hx, H1553.ext hx, H1555.ext hx, H1795.ext hx, H1807.ext hx⟩), (fun a hC => by obtain ⟨hB, H1547, H1553, H1555, H1795, H1807⟩ := hC; exact ⟨hB, H1547, H1553, H1555⟩), ?_⟩
         refine QT.do (v := .tuple #[.agg #[S r1803.1.s, .slice A1805 r1803.1.l.length k1806], .int .i64 r1803.2]) rfl (by decide +kernel) rfl rfl rfl (fun w' hJ => by obtain ⟨hB, H1547, H1553, H1555, H1795, H1807⟩ := hJ; exact D.mv (v := .tuple #[.agg #[S r1803.1.s, .slice A1805 r1803.1.l.length k1806], .int .i64 r1803.2]) rfl rfl ⟨rfl, Ext.refl _⟩) ?_
         refine QT.do (v := .agg #[S r1803.1.s, .slice A1805 r1803.1.l.length k1806]) rfl (by decide +kernel) rfl rfl rfl (fun w' hJ => by obtain ⟨hB, H1547, H1553, H1555, H1795, H1807⟩ := hJ; exact D.extract (v := .agg #[S r1803.1.s, .slice A1805 r1803.1.l.length k1806]) rfl rfl rfl ⟨rfl, Ext.refl _⟩) ?_
         refine QT.late (v := .int .i64 r1803.2) rfl rfl rfl rfl (fun w' hJ => by obtain ⟨hB, H1547, H1553, H1555⟩ := hJ; exact D.extract (v := .int .i64 r1803.2) rfl rfl rfl ⟨rfl, Ext.refl _⟩) ?_
         refine QT.eff rfl rfl (fun w1810 hC => ?_) QT.nomore
         obtain ⟨hB, H1547, H1553, H1555, H1795, H1807⟩ := hC
         refine D.store (v := .agg #[S r1803.1.s, .slice A1805 r1803.1.l.length k1806]) (us := [S r1803.1.s, .slice A1805 r1803.1.l.length k1806]) sz39 H1795 rfl rfl rfl rfl rfl rfl ?_
         intro w1811 H1812 e1813
         replace hB := below_blk hB e1813 g1797
         replace H1547 := H1547.gr e1813 (sepB (ne_of lt_21_1797 (MB.ge b1792)))
         replace H1553 := H1553.gr e1813 (sepB (ne_of lt_1554_1797 (MB.ge b1792)))
         replace H1555 := H1555.gr e1813 (sepB (ne_of lt_1556_1797 (MB.ge b1792)))
         replace H1807 := H1807.gr e1813 (sepB nf1809_1797)
         clear e1813
         refine ⟨undef, rfl, (fun w' => Below w.heap.size w w' ∧ Blk w' b16 [S [], .slice none 0 0] 39 ∧ Row ePlace w' A1550 k1551 l1552 ∧ Blk w' b1548 [S x1549, .slice A1550 l1552.length k1551] 39 ∧ Blk w' b1792 [S r1803.1.s, .slice A1805 r1803.1.l.length k1806] 39 ∧ Row ePlace w' A1805 k1806 r1803.1.l), ⟨hB, H1547, H1553, H1555, H1812, H1807⟩, (fun a b hC hx => by obtain ⟨hB, H1547, H1553, H1555, H1812, H1807⟩ := hC; exact ⟨below_ext hB hx, H1547.ext hx, H1553.ext hx, H1555.ext hx, H1812.ext hx, H1807.ext hx⟩), (fun a hC => by obtain ⟨hB, H1547, H1553, H1555, H1812, H1807⟩ := hC; exact ⟨hB, H1547, H1553, H1555⟩), ?_⟩
         refine QT.do (v := .int .i64 r1803.2) rfl (by decide +kernel) rfl rfl rfl (fun w' hJ => by obtain ⟨hB, H1547, H1553, H1555, H1812, H1807⟩ := hJ; exact D.asn (v := .int .i64 r1803.2) rfl rfl ⟨rfl, Ext.refl _⟩) ?_
         refine QT.nil fun w1814 hC => ?_
         obtain ⟨hB, H1547, H1553, H1555, H1812, H1807⟩ := hC
         exact ⟨b1792, r1803.1.s, A1805, k1806, r1803.1.l, rfl, rfl, rfl, rfl, hB, H1547, H1807, (fun y hy => og1809 y hy), H1812, g1797, lt_21_1797, nf1809_21, nf1809_1797, h⟩
        exact QT.nomore
       ·intro f1673 w1672 hI
        obtain ⟨b1663, x1664, A1665, k1666, l1667, s1674, s1675, s1676, s1677, hB, H1662, H1668, hg1669, H1670, hg1671, pr21_1671, ps1669_21, ps1669_1671, h⟩ := hI
        refine X.fr (d := 2) s1674 ?_
        refine X.fr (d := 6) s1675 ?_
        refine X.fr (d := 13) s1676 ?_
        refine X.fr (d := 16) s1677 ?_
        unfold derrickref04_Put.j4 at h
        refine X.seq fun M1678 hM1679 => ?_
        refine X.tree mixed0 [0, 0, 0, 6, 15, 31, 63] (.q 0 (.q 1 (.q 2 (.q 3 (.alt 4 (.alt 5 (.q 6 .nil) .nil) .nil))))) (fun w' => Below w.heap.size w w' ∧ Row ePlace w' A1665 k1666 l1667 ∧ Blk w' b1663 [S x1664, .slice A1665 l1667.length k1666] 39) (fun w' => Below w.heap.size w w' ∧ Blk w' b16 [S [], .slice none 0 0] 39 ∧ Row ePlace w' A1665 k1666 l1667 ∧ Blk w' b1663 [S x1664, .slice A1665 l1667.length k1666] 39) (by decide +kernel) (fun w' hx _ => ⟨below_ext hB hx, H1662.ext hx, H1668.ext hx, H1670.ext hx⟩) (fun a b hC hx => by obtain ⟨hB, H1662, H1668, H1670⟩ := hC; exact ⟨below_ext hB hx, H1662.ext hx, H1668.ext hx, H1670.ext hx⟩) (fun a hC => by obtain ⟨hB, H1662, H1668, H1670⟩ := hC; exact ⟨hB, H1668, H1670⟩) ?_
        refine QT.do (v := .agg #[S x1664, .slice A1665 l1667.length k1666]) rfl (by decide +kernel) rfl rfl rfl (fun w' hJ => by obtain ⟨hB, H1662, H1668, H1670⟩ := hJ; exact D.loadA (j := 0) (us := [S x1664, .slice A1665 l1667.length k1666]) ag39 H1670.cs rfl rfl rfl rfl rfl ⟨rfl, Ext.refl _⟩) ?_
        refine QT.do (v := S a7) rfl (by decide +kernel) rfl rfl rfl (fun w' hJ => by obtain ⟨hB, H1662, H1668, H1670⟩ := hJ; exact D.mv (v := S a7) rfl rfl ⟨rfl, Ext.refl _⟩) ?_
        refine QT.do (v := .int .i64 (w64 (r1441 + r1451))) rfl (by decide +kernel) rfl rfl rfl (fun w' hJ => by obtain ⟨hB, H1662, H1668, H1670⟩ := hJ; exact D.mv (v := .int .i64 (w64 (r1441 + r1451))) rfl rfl ⟨rfl, Ext.refl _⟩) ?_
        rcases (Classical.em (0 ≤ w64 (r1441 + r1451))).symm with c1698 | c1698
        ·rw [if_neg c1698] at h; cases h
        rw [if_pos c1698] at h
        rcases (Classical.em (w64 (r1441 + r1451) ≤ (a7.length : Int))).symm with c1699 | c1699
        ·rw [if_neg c1699] at h; cases h
        rw [if_pos c1699] at h
        refine QT.do (v := S (a7.drop (w64 (r1441 + r1451)).toNat)) rfl (by decide +kernel) rfl rfl rfl (fun w' hJ => by obtain ⟨hB, H1662, H1668, H1670⟩ := hJ; exact D.sliceSlo (i := w64 (r1441 + r1451)) Try.underlying9 rfl rfl c1698 c1699 rfl ⟨rfl, Ext.refl _⟩) ?_
        refine QT.eff rfl rfl (fun w1700 hC => ?_) QT.nomore
        obtain ⟨hB, H1662, H1668, H1670⟩ := hC
        rcases (Classical.em (derrickref03_Add.pre (⟨x1664, l1667⟩ : RPack) (a7.drop (w64 (r1441 + r1451)).toNat))).symm with c1701 | c1701
        ·rw [if_neg c1701] at h; cases h
        rw [if_pos c1701] at h
        obtain ⟨r1705, q1706, h⟩ := lt_elim h
        have hc1704 := derrickref03_Add.ok (⟨x1664, l1667⟩ : RPack) (a7.drop (w64 (r1441 + r1451)).toNat) A1665 k1666 w1700 H1668 c1701 
        rw [q1706] at hc1704
        clear q1706
        refine D.call (vs := [.agg #[S x1664, .slice A1665 l1667.length k1666], S (a7.drop (w64 (r1441 + r1451)).toNat)]) cf33 hc1704 rfl rfl ?_
        rintro _ w1702 ⟨A1707, k1708, rfl, H1709, g1710, e1703⟩
        clear hc1704
        have og1711 : (∀ y, MR A1707 r1705.l y → w.heap.size ≤ y ∨ MR A2 a1.l y) := fun y hy => (g1710 y hy).elim (fun h => .inl (Nat.le_trans hB.size h)) (fun h => hg1669 y h)
        have nf1711_21 : ∀ x y, MR A1707 r1705.l x → MB b16 y → x ≠ y := fun x y hx hy => (g1710 x hx).elim (fun h e => Nat.lt_irrefl _ (Nat.lt_of_lt_of_le ((MB.lt H1662 (Nat.le_refl _)) y hy) (e ▸ h))) (fun h => ps1669_21 x y h hy)
        have nf1711_1671 : ∀ x y, MR A1707 r1705.l x → MB b1663 y → x ≠ y := fun x y hx hy => (g1710 x hx).elim (fun h e => Nat.lt_irrefl _ (Nat.lt_of_lt_of_le ((MB.lt H1670 (Nat.le_refl _)) y hy) (e ▸ h))) (fun h => ps1669_1671 x y h hy)
        replace hB := below_ext hB e1703
        replace H1662 := H1662.ext e1703
        replace H1668 := H1668.ext e1703
        replace H1670 := H1670.ext e1703
        clear e1703
        refine ⟨_, rfl, (fun w' => Below w.heap.size w w' ∧ Blk w' b16 [S [], .slice none 0 0] 39 ∧ Row ePlace w' A1665 k1666 l1667 ∧ Blk w' b1663 [S x1664, .slice A1665 l1667.length k1666] 39 ∧ Row ePlace w' A1707 k1708 r1705.l), ⟨hB, H1662, H1668, H1670, H1709⟩, (fun a b hC hx => by obtain ⟨hB, H1662, H1668, H1670, H1709⟩ := hC; exact ⟨below_ext hB hx, H1662.ext hx, H1668.ext hx, H1670.ext hx, H1709.ext hx⟩), (fun a hC => by obtain ⟨hB, H1662, H1668, H1670, H1709⟩ := hC; exact ⟨hB, H1668, H1670⟩), ?_⟩
        refine QT.eff rfl rfl (fun w1712 hC => ?_) QT.nomore
        obtain ⟨hB, H1662, H1668, H1670, H1709⟩ := hC
        refine D.store (v := .agg #[S r1705.s, .slice A1707 r1705.l.length k1708]) (us := [S r1705.s, .slice A1707 r1705.l.length k1708]) sz39 H1662 rfl rfl rfl rfl rfl rfl ?_
        intro w1713 H1714 e1715
        replace hB := below_blk hB e1715 g21
        replace H1668 := H1668.gr e1715 (sepB ps1669_21)
        replace H1670 := H1670.gr e1715 (sepB (ne_flip (ne_of pr21_1671 (MB.ge b1663))))
        replace H1709 := H1709.gr e1715 (sepB nf1711_21)
        clear e1715
        refine ⟨undef, rfl, (fun w' => Below w.heap.size w w' ∧ Blk w' b16 [S r1705.s, .slice A1707 r1705.l.length k1708] 39 ∧ Row ePlace w' A1665 k1666 l1667 ∧ Blk w' b1663 [S x1664, .slice A1665 l1667.length k1666] 39 ∧ Row ePlace w' A1707 k1708 r1705.l), ⟨hB, H1714, H1668, H1670, H1709⟩, (fun a b hC hx => by obtain ⟨hB, H1714, H1668, H1670, H1709⟩ := hC; exact ⟨below_ext hB hx, H1714.ext hx, H1668.ext hx, H1670.ext hx, H1709.ext hx⟩), (fun a hC => by obtain ⟨hB, H1714, H1668, H1670, H1709⟩ := hC; exact ⟨hB, H1668, H1670⟩), ?_⟩
        refine QT.do (v := .int .i64 0) rfl (by decide +kernel) rfl rfl rfl (fun w' hJ => by obtain ⟨hB, H1714, H1668, H1670, H1709⟩ := hJ; exact D.asn (v := .int .i64 0) rfl rfl ⟨rfl, Ext.refl _⟩) ?_
        refine QT.nil fun w1716 hC => ?_
        obtain ⟨hB, H1714, H1668, H1670, H1709⟩ := hC
        refine hM1679 _ _ ?_
        refine X.ret ?_
        injection h with h
        subst h
        exact hR _ _ _ (retCT ag39 H1714 rfl rfl rfl rfl) ⟨A1707, k1708, rfl, H1709, (fun y hy => og1711 y hy), ext_of_below hB⟩
     ·rw [if_neg c1434] at h
      refine X.condF (congrArg Value.bool (beq_eq_false_iff_ne.2 c1434)) ?_
      refine X.skip ?_
      refine hM981 _ _ ?_
      refine X.seq fun M1909 hM1910 => ?_
      refine X.region ?_
      refine XO.do rfl (D.loadA (j := 0) (us := [S a1.s, .slice A2 a1.l.length k3]) ag39 H990.cs rfl rfl rfl rfl rfl ?_)
      refine XO.do rfl (D.mv (v := S a7) rfl rfl ?_)
      rcases (Classical.em (derrickref03_Add.pre a1 a7)).symm with c1911 | c1911
      ·rw [if_neg c1911] at h; cases h
      rw [if_pos c1911] at h
      obtain ⟨r1915, q1916, h⟩ := lt_elim h
      have hc1914 := derrickref03_Add.ok a1 a7 A2 k3 w993 (H4.below hB) c1911 
      rw [q1916] at hc1914
      clear q1916
      refine XO.do rfl (D.call (vs := [.agg #[S a1.s, .slice A2 a1.l.length k3], S a7]) cf33 hc1914 rfl rfl ?_)
      rintro _ w1912 ⟨A1917, k1918, rfl, H1919, g1920, e1913⟩
      clear hc1914
      have og1921 : (∀ y, MR A1917 r1915.l y → w.heap.size ≤ y ∨ MR A2 a1.l y) := fun y hy => (g1920 y hy).elim (fun h => .inl (Nat.le_trans hB.size h)) (fun h => (.inr h))
      have nf1921_15 : ∀ x y, MR A1917 r1915.l x → MB b10 y → x ≠ y := fun x y hx hy => (g1920 x hx).elim (fun h e => Nat.lt_irrefl _ (Nat.lt_of_lt_of_le ((MB.lt H990 (Nat.le_refl _)) y hy) (e ▸ h))) (fun h => (ne_of (MR.lt H4 (Nat.le_refl _)) (ge_blk g15)) x y h hy)
      have nf1921_21 : ∀ x y, MR A1917 r1915.l x → MB b16 y → x ≠ y := fun x y hx hy => (g1920 x hx).elim (fun h e => Nat.lt_irrefl _ (Nat.lt_of_lt_of_le ((MB.lt H991 (Nat.le_refl _)) y hy) (e ▸ h))) (fun h => (ne_of (MR.lt H4 (Nat.le_refl _)) (ge_blk g21)) x y h hy)
      replace hB := below_ext hB e1913
      replace H990 := H990.ext e1913
      replace H991 := H991.ext e1913
      clear e1913
      refine XO.do rfl (D.store (v := .agg #[S r1915.s, .slice A1917 r1915.l.length k1918]) (us := [S r1915.s, .slice A1917 r1915.l.length k1918]) sz39 H991 rfl rfl rfl rfl rfl rfl ?_)
      intro w1922 H1923 e1924
      replace hB := below_blk hB e1924 g21
      replace H990 := H990.gr e1924 (sepB (ne_of pr15_21 (MB.ge b16)))
      replace H1919 := H1919.gr e1924 (sepB nf1921_21)
      clear e1924
      refine XO.do rfl (D.asn (v := .int .i64 0) rfl rfl ?_)
      refine XO.nil ?_
      refine hM1910 _ _ ?_
      refine X.ret ?_
      injection h with h
      subst h
      exact hR _ _ _ (retCT ag39 H1923 rfl rfl rfl rfl) ⟨A1917, k1918, rfl, H1919, (fun y hy => og1921 y hy), ext_of_below hB⟩
 ·rw [if_neg c46] at h
  refine X.condT (congrArg Value.bool ((congrArg (!·) ((Bool.eq_false_iff.2 c46))))) ?_
  refine X.seq fun M1931 hM1932 => ?_
  refine X.region ?_
  refine XO.do rfl (D.loadA (j := 0) (us := [S a1.s, .slice A2 a1.l.length k3]) ag39 H13.cs rfl rfl rfl rfl rfl ?_)
  refine XO.do rfl (D.store (v := .agg #[S a1.s, .slice A2 a1.l.length k3]) (us := [S a1.s, .slice A2 a1.l.length k3]) sz39 H19 rfl rfl rfl rfl rfl rfl ?_)
  intro w1933 H1934 e1935
  replace hB := below_blk hB e1935 g21
  replace H13 := H13.gr e1935 (sepB (ne_of lt_15_21 (MB.ge b16)))
  clear e1935
  refine XO.do rfl (D.asn (v := .int .i64 1) rfl rfl ?_)
  refine XO.nil ?_
  refine hM1932 _ _ ?_
  refine X.ret ?_
  injection h with h
  subst h
  exact hR _ _ _ (retCT ag39 H1934 rfl rfl rfl rfl) ⟨A2, k3, rfl, (H4.below hB), (fun y hy => (.inr hy)), ext_of_below hB⟩
theorem derrickref04_Put.ok (a1 : RPack) (a6 : Int) (a7 : Str) (A2 : Option Addr) (k3 : Nat) (w : World) (H4 : Row ePlace w A2 k3 a1.l) (hp : derrickref04_Put.pre a1 a6 a7) :
  Ret Try.prog 40 ([.agg #[S a1.s, .slice A2 a1.l.length k3], .int .u16 a6, S a7] : List Value).toArray w fun v w' => ∃ (A1 : Option Addr) (k1 : Nat), v = .tuple #[.agg #[S ((derrickref04_Put a1 a6 a7).1.s), .slice A1 ((derrickref04_Put a1 a6 a7).1.l).length k1], .int .i64 ((derrickref04_Put a1 a6 a7).2)] ∧ Row ePlace w' A1 k1 ((derrickref04_Put a1 a6 a7).1.l) ∧ (∀ y, MR A1 ((derrickref04_Put a1 a6 a7).1.l) y → w.heap.size ≤ y ∨ MR A2 a1.l y) ∧ Ext w w' := by
 have h := derrickref04_Put.eq a1 a6 a7 hp
 exact derrickref04_Put.walk  a1 a6 a7 A2 k3 w H4 _ h
theorem derrickref04_Take.walk (a1 : Str) (a2 : Int) (a3 : Int) (a4 : Int)  (w : World)  (res : Str × Int) (h : derrickref04_Take.f a1 a2 a3 a4 = some res) :
  Ret Try.prog 49 ([S a1, .int .i64 a2, .int .i64 a3, .int .u16 a4] : List Value).toArray w fun v w' => v = .tuple #[S res.1, .int .i64 res.2] ∧ Ext w w' := by
 unfold derrickref04_Take.f at h
 refine enterX Try.func49 rfl Try.ntmps49 rfl (fun R hR => ?_)
 have hB := Below.refl w.heap.size w
 refine X.seq fun M5 hM6 => ?_
 refine X.region ?_
 refine XO.do rfl (D.asn (v := S []) rfl rfl ?_)
 refine XO.do rfl (D.asn (v := .int .i64 0) rfl rfl ?_)
 refine XO.nil ?_
 refine hM6 _ _ ?_
 refine X.seq fun M7 hM8 => ?_
 refine X.region ?_
 refine XO.do rfl (D.mv (v := S a1) rfl rfl ?_)
 refine XO.do rfl (D.mv (v := .int .i64 a2) rfl rfl ?_)
 refine XO.do rfl (D.mv (v := .int .i64 a3) rfl rfl ?_)
 rcases (Classical.em (derrickref01_Some.pre a1 a2 a3)).symm with c9 | c9
 ·rw [if_neg c9] at h; cases h
 rw [if_pos c9] at h
 obtain ⟨r13, q14, h⟩ := lt_elim h
 have hc12 := derrickref01_Some.ok a1 a2 a3 w c9 
 rw [q14] at hc12
 clear q14
 refine XO.do rfl (D.call (vs := [S a1, .int .i64 a2, .int .i64 a3]) cf66 hc12 rfl rfl ?_)
 rintro _ w10 ⟨rfl, e11⟩
 clear hc12
 replace hB := below_ext hB e11
 clear e11
 refine XO.do rfl (D.mv (v := .tuple #[S r13.1, .int .i64 r13.2.1, .int .i64 r13.2.2]) rfl rfl ?_)
 refine XO.do rfl (D.extract (v := S r13.1) rfl rfl rfl ?_)
 refine XO.do rfl (D.extract (v := .int .i64 r13.2.1) rfl rfl rfl ?_)
 refine XO.do rfl (D.extract (v := .int .i64 r13.2.2) rfl rfl rfl ?_)
 refine XO.do rfl (D.asn (v := S r13.1) rfl rfl ?_)
 refine XO.do rfl (D.asn (v := .int .i64 r13.2.1) rfl rfl ?_)
 refine XO.do rfl (D.asn (v := .int .i64 r13.2.2) rfl rfl ?_)
 refine XO.nil ?_
 refine hM8 _ _ ?_
 refine X.seq fun M20 hM21 => ?_
 refine X.seq fun M22 hM23 => ?_
 refine X.region ?_
 refine XO.do rfl (D.mv (v := .int .i64 r13.2.2) rfl rfl ?_)
 refine XO.do rfl (D.neq rfl rfl rfl ?_)
 refine XO.nil ?_
 refine hM23 _ _ ?_
 by_cases c24 : r13.2.2 = 0
 ·rw [if_pos c24] at h
  refine X.condF (congrArg Value.bool ((congrArg (!·) (beq_iff_eq.2 c24)))) ?_
  refine X.skip ?_
  refine hM21 _ _ ?_
  refine X.seq fun M25 hM26 => ?_
  refine X.region ?_
  refine XO.do rfl (D.mv (v := S r13.1) rfl rfl ?_)
  refine XO.do rfl (D.asn (v := S r13.1) rfl rfl ?_)
  refine XO.nil ?_
  refine hM26 _ _ ?_
  refine X.seq fun M27 hM28 => ?_
  refine X.region ?_
  refine XO.do rfl (D.mv (v := .int .i64 r13.2.1) rfl rfl ?_)
  refine XO.do rfl (D.asn (v := .int .i64 r13.2.1) rfl rfl ?_)
  refine XO.nil ?_
  refine hM28 _ _ ?_
  refine X.cut (fun f142 w141 => ∃ x139 : Str, ∃ x140 : Int, f142 3 = .int .u16 a4 ∧ f142 11 = .int .i64 r13.2.1 ∧ f142 13 = S x139 ∧ f142 14 = .int .i64 x140 ∧ Below w.heap.size w w141 ∧ derrickref04_Take.j1 r13 a4 x139 x140 = some res) ?_ ?_
  ·refine X.seq fun M195 hM196 => ?_
   refine X.region ?_
   refine XO.do rfl (D.mv (v := .int .u16 a4) rfl rfl ?_)
   refine XO.nil ?_
   refine hM196 _ _ ?_
   refine X.block ?_
   refine X.cut (fun f205 w204 => ∃ x203 : Bool, f205 0 = S a1 ∧ f205 1 = .int .i64 a2 ∧ f205 2 = .int .i64 a3 ∧ f205 3 = .int .u16 a4 ∧ f205 10 = S r13.1 ∧ f205 11 = .int .i64 r13.2.1 ∧ f205 13 = S r13.1 ∧ f205 14 = .int .i64 r13.2.1 ∧ f205 29 = .int .u16 a4 ∧ f205 30 = .bool x203 ∧ Below w.heap.size w w204 ∧ derrickref04_Take.j3 a1 a2 r13 a4 a3 x203 = some res) ?_ ?_
   ·refine X.seq fun M299 hM300 => ?_
    refine X.region ?_
    refine XO.do rfl (D.eql rfl rfl rfl ?_)
    refine XO.do rfl (D.asn (v := .bool (a4 == 2)) rfl rfl ?_)
    refine XO.nil ?_
    refine hM300 _ _ ?_
    by_cases c301 : a4 = 2
    ·rw [if_pos c301] at h
     refine X.condT (congrArg Value.bool (beq_iff_eq.2 c301)) ?_
     refine X.skip ?_
     exact ⟨(a4 == 2), rfl, rfl, rfl, rfl, rfl, rfl, rfl, rfl, rfl, rfl, hB, h⟩
    ·rw [if_neg c301] at h
     refine X.condF (congrArg Value.bool (beq_eq_false_iff_ne.2 c301)) ?_
     refine X.seq fun M302 hM303 => ?_
     refine X.region ?_
     refine XO.do rfl (D.eql rfl rfl rfl ?_)
     refine XO.do rfl (D.asn (v := .bool (a4 == 5)) rfl rfl ?_)
     refine XO.nil ?_
     refine hM303 _ _ ?_
     by_cases c304 : a4 = 5
     ·rw [if_pos c304] at h
      refine X.condT (congrArg Value.bool (beq_iff_eq.2 c304)) ?_
      refine X.skip ?_
      exact ⟨(a4 == 5), rfl, rfl, rfl, rfl, rfl, rfl, rfl, rfl, rfl, rfl, hB, h⟩
     ·rw [if_neg c304] at h
      refine X.condF (congrArg Value.bool (beq_eq_false_iff_ne.2 c304)) ?_
      refine X.region ?_
      refine XO.do rfl (D.eql rfl rfl rfl ?_)
      refine XO.do rfl (D.asn (v := .bool (a4 == 12)) rfl rfl ?_)
      refine XO.nil ?_
      exact ⟨(a4 == 12), rfl, rfl, rfl, rfl, rfl, rfl, rfl, rfl, rfl, rfl, hB, h⟩
   ·intro f205 w204 hI
    obtain ⟨x203, s206, s207, s208, s209, s210, s211, s212, s213, s214, s215, hB, h⟩ := hI
    refine X.fr (d := 0) s206 ?_
    refine X.fr (d := 1) s207 ?_
    refine X.fr (d := 2) s208 ?_
    refine X.fr (d := 3) s209 ?_
    refine X.fr (d := 10) s210 ?_
    refine X.fr (d := 11) s211 ?_
    refine X.fr (d := 13) s212 ?_
    refine X.fr (d := 14) s213 ?_
    refine X.fr (d := 29) s214 ?_
    refine X.fr (d := 30) s215 ?_
    unfold derrickref04_Take.j3 at h
    by_cases c216 : x203 = true
    ·rw [if_pos c216] at h
     refine X.condT (congrArg Value.bool (c216)) ?_
     refine X.region ?_
     refine XO.do rfl (D.mv (v := S a1) rfl rfl ?_)
     refine XO.do rfl (D.mv (v := .int .i64 a2) rfl rfl ?_)
     refine XO.do rfl (D.mv (v := .int .i64 r13.2.1) rfl rfl ?_)
     rcases (Classical.em (derrickref04_names.pre a1 a2 r13.2.1 1)).symm with c217 | c217
     ·rw [if_neg c217] at h; cases h
     rw [if_pos c217] at h
     obtain ⟨r221, q222, h⟩ := lt_elim h
     have hc220 := derrickref04_names.ok a1 a2 r13.2.1 1 w204 c217 
     rw [q222] at hc220
     clear q222
     refine XO.do rfl (D.call (vs := [S a1, .int .i64 a2, .int .i64 r13.2.1, .int .i64 1]) cf67 hc220 rfl rfl ?_)
     rintro _ w218 ⟨rfl, e219⟩
     clear hc220
     replace hB := below_ext hB e219
     clear e219
     refine XO.do rfl (D.mv (v := .tuple #[S r221.1, .int .i64 r221.2]) rfl rfl ?_)
     refine XO.do rfl (D.extract (v := S r221.1) rfl rfl rfl ?_)
     refine XO.do rfl (D.extract (v := .int .i64 r221.2) rfl rfl rfl ?_)
     refine XO.do rfl (D.asn (v := S r221.1) rfl rfl ?_)
     refine XO.do rfl (D.asn (v := .int .i64 r221.2) rfl rfl ?_)
     refine XO.nil ?_
     exact ⟨r221.1, r221.2, rfl, rfl, rfl, rfl, hB, h⟩
    ·rw [if_neg c216] at h
     refine X.condF (congrArg Value.bool ((Bool.eq_false_iff.2 c216))) ?_
     refine X.seq fun M223 hM224 => ?_
     refine X.region ?_
     refine XO.do rfl (D.eql rfl rfl rfl ?_)
     refine XO.do rfl (D.asn (v := .bool (a4 == 15)) rfl rfl ?_)
     refine XO.nil ?_
     refine hM224 _ _ ?_
     by_cases c225 : a4 = 15
     ·rw [if_pos c225] at h
      refine X.condT (congrArg Value.bool (beq_iff_eq.2 c225)) ?_
      refine X.seq fun M231 hM232 => ?_
      refine X.seq fun M233 hM234 => ?_
      refine X.region ?_
      refine XO.do rfl (D.mv (v := .int .i64 a3) rfl rfl ?_)
      refine XO.do rfl (D.lss rfl rfl rfl ?_)
      refine XO.nil ?_
      refine hM234 _ _ ?_
      by_cases c235 : a3 < 3
      ·rw [if_pos c235] at h
       refine X.condT (congrArg Value.bool (decide_eq_true c235)) ?_
       refine X.seq fun M236 hM237 => ?_
       refine X.region ?_
       refine XO.do rfl (D.asn (v := S []) rfl rfl ?_)
       refine XO.do rfl (D.asn (v := .int .i64 2) rfl rfl ?_)
       refine XO.nil ?_
       refine hM237 _ _ ?_
       refine X.ret ?_
       injection h with h
       subst h
       exact hR _ _ _ (ret2 (v := S []) (v' := .int .i64 2) rfl rfl rfl) ⟨rfl, ext_of_below hB⟩
      ·rw [if_neg c235] at h
       refine X.condF (congrArg Value.bool (decide_eq_false c235)) ?_
       refine X.skip ?_
       refine hM232 _ _ ?_
       refine X.seq fun M238 hM239 => ?_
       refine X.region ?_
       refine XO.do rfl (D.mv (v := S a1) rfl rfl ?_)
       refine XO.do rfl (D.mv (v := .int .i64 a2) rfl rfl ?_)
       refine XO.do rfl (D.add rfl rfl rfl ?_)
       refine XO.do rfl (D.mv (v := .int .i64 r13.2.1) rfl rfl ?_)
       rcases (Classical.em (derrickref04_names.pre a1 (w64 (a2 + 2)) r13.2.1 1)).symm with c240 | c240
       ·rw [if_neg c240] at h; cases h
       rw [if_pos c240] at h
       obtain ⟨r244, q245, h⟩ := lt_elim h
       have hc243 := derrickref04_names.ok a1 (w64 (a2 + 2)) r13.2.1 1 w204 c240 
       rw [q245] at hc243
       clear q245
       refine XO.do rfl (D.call (vs := [S a1, .int .i64 (w64 (a2 + 2)), .int .i64 r13.2.1, .int .i64 1]) cf67 hc243 rfl rfl ?_)
       rintro _ w241 ⟨rfl, e242⟩
       clear hc243
       replace hB := below_ext hB e242
       clear e242
       refine XO.do rfl (D.mv (v := .tuple #[S r244.1, .int .i64 r244.2]) rfl rfl ?_)
       refine XO.do rfl (D.extract (v := S r244.1) rfl rfl rfl ?_)
       refine XO.do rfl (D.extract (v := .int .i64 r244.2) rfl rfl rfl ?_)
       refine XO.do rfl (D.asn (v := S r244.1) rfl rfl ?_)
       refine XO.do rfl (D.asn (v := .int .i64 r244.2) rfl rfl ?_)
       refine XO.nil ?_
       refine hM239 _ _ ?_
       refine X.region ?_
       refine XO.do rfl (D.mv (v := S r13.1) rfl rfl ?_)
       rcases (Classical.em (2 ≤ (r13.1.length : Int))).symm with c246 | c246
       ·rw [if_neg c246] at h; cases h
       rw [if_pos c246] at h
       refine XO.do rfl (D.sliceShi (j := (2 : Int)) Try.underlying9 rfl rfl (by first | decide | simp | omega) c246 rfl ?_)
       refine XO.do rfl (D.mv (v := S r244.1) rfl rfl ?_)
       rcases (Classical.em ((r13.1.take (2 : Int).toNat).length + r244.1.length ≤ 9223372036854775807)).symm with c247 | c247
       ·rw [if_neg c247] at h; cases h
       rw [if_pos c247] at h
       refine XO.do rfl (D.addS rfl rfl c247 rfl ?_)
       refine XO.do rfl (D.asn (v := S ((r13.1.take (2 : Int).toNat) ++ r244.1)) rfl rfl ?_)
       refine XO.nil ?_
       exact ⟨(r13.1.take (2 : Int).toNat) ++ r244.1, r244.2, rfl, rfl, rfl, rfl, hB, h⟩
     ·rw [if_neg c225] at h
      refine X.condF (congrArg Value.bool (beq_eq_false_iff_ne.2 c225)) ?_
      refine X.seq fun M248 hM249 => ?_
      refine X.region ?_
      refine XO.do rfl (D.eql rfl rfl rfl ?_)
      refine XO.do rfl (D.asn (v := .bool (a4 == 6)) rfl rfl ?_)
      refine XO.nil ?_
      refine hM249 _ _ ?_
      by_cases c250 : a4 = 6
      ·rw [if_pos c250] at h
       refine X.condT (congrArg Value.bool (beq_iff_eq.2 c250)) ?_
       refine X.seq fun M251 hM252 => ?_
       refine X.region ?_
       refine XO.do rfl (D.mv (v := S a1) rfl rfl ?_)
       refine XO.do rfl (D.mv (v := .int .i64 a2) rfl rfl ?_)
       refine XO.do rfl (D.mv (v := .int .i64 r13.2.1) rfl rfl ?_)
       rcases (Classical.em (derrickref04_names.pre a1 a2 r13.2.1 2)).symm with c253 | c253
       ·rw [if_neg c253] at h; cases h
       rw [if_pos c253] at h
       obtain ⟨r257, q258, h⟩ := lt_elim h
       have hc256 := derrickref04_names.ok a1 a2 r13.2.1 2 w204 c253 
       rw [q258] at hc256
       clear q258
       refine XO.do rfl (D.call (vs := [S a1, .int .i64 a2, .int .i64 r13.2.1, .int .i64 2]) cf67 hc256 rfl rfl ?_)
       rintro _ w254 ⟨rfl, e255⟩
       clear hc256
       replace hB := below_ext hB e255
       clear e255
       refine XO.do rfl (D.mv (v := .tuple #[S r257.1, .int .i64 r257.2]) rfl rfl ?_)
       refine XO.do rfl (D.extract (v := S r257.1) rfl rfl rfl ?_)
       refine XO.do rfl (D.extract (v := .int .i64 r257.2) rfl rfl rfl ?_)
       refine XO.do rfl (D.asn (v := S r257.1) rfl rfl ?_)
       refine XO.do rfl (D.asn (v := .int .i64 r257.2) rfl rfl ?_)
       refine XO.nil ?_
       refine hM252 _ _ ?_
       refine X.seq fun M276 hM277 => ?_
       refine X.cut (fun f282 w281 => ∃ x280 : Bool, f282 0 = S a1 ∧ f282 3 = .int .u16 a4 ∧ f282 11 = .int .i64 r13.2.1 ∧ f282 14 = .int .i64 r13.2.1 ∧ f282 15 = S r257.1 ∧ f282 16 = .int .i64 r257.2 ∧ f282 78 = .bool x280 ∧ Below w.heap.size w w281 ∧ derrickref04_Take.j4 r257 r13 a1 a4 x280 = some res) ?_ ?_
       ·refine X.region ?_
        refine XO.do rfl (D.mv (v := .int .i64 r257.2) rfl rfl ?_)
        refine XO.do rfl (D.eql rfl rfl rfl ?_)
        refine XO.do rfl (D.mv (v := .bool (r257.2 == 0)) rfl rfl ?_)
        by_cases c297 : r257.2 = 0
        ·rw [if_pos c297] at h
         refine XO.off (wantG0 (j := 2) (b := false) rfl (beq_iff_eq.2 c297) rfl) rfl rfl ?_
         refine XO.off (wantG0 (j := 2) (b := false) rfl (beq_iff_eq.2 c297) rfl) rfl rfl ?_
         refine XO.off (wantG0 (j := 2) (b := false) rfl (beq_iff_eq.2 c297) rfl) rfl rfl ?_
         refine XO.do rfl (D.pick true (v := .bool true) (congrArg Value.bool (beq_iff_eq.2 c297)) rfl rfl ?_)
         refine XO.do rfl (D.mv (v := .bool true) rfl rfl ?_)
         refine XO.off (wantG0 (j := 7) (b := false) rfl (rfl) rfl) rfl rfl ?_
         refine XO.off (wantG0 (j := 7) (b := false) rfl (rfl) rfl) rfl rfl ?_
         refine XO.off (wantG0 (j := 7) (b := false) rfl (rfl) rfl) rfl rfl ?_
         refine XO.off (wantG0 (j := 7) (b := false) rfl (rfl) rfl) rfl rfl ?_
         refine XO.do rfl (D.pick true (v := .bool true) (congrArg Value.bool (rfl)) rfl rfl ?_)
         refine XO.nil ?_
         exact ⟨true, rfl, rfl, rfl, rfl, rfl, rfl, rfl, hB, h⟩
        ·rw [if_neg c297] at h
         refine XO.do (wantG (j := 2) (b := false) rfl (beq_eq_false_iff_ne.2 c297) rfl) (D.mv (v := .int .i64 r257.2) rfl rfl ?_)
         refine XO.do (wantG (j := 2) (b := false) rfl (beq_eq_false_iff_ne.2 c297) rfl) (D.mv (v := .int .i64 r13.2.1) rfl rfl ?_)
         refine XO.do (wantG (j := 2) (b := false) rfl (beq_eq_false_iff_ne.2 c297) rfl) (D.gtr rfl rfl rfl ?_)
         refine XO.do rfl (D.pick false (v := .bool (decide (r13.2.1 < r257.2))) (congrArg Value.bool (beq_eq_false_iff_ne.2 c297)) rfl rfl ?_)
         refine XO.do rfl (D.mv (v := .bool (decide (r13.2.1 < r257.2))) rfl rfl ?_)
         by_cases c298 : r13.2.1 < r257.2
         ·rw [if_pos c298] at h
          refine XO.off (wantG0 (j := 7) (b := false) rfl (decide_eq_true c298) rfl) rfl rfl ?_
          refine XO.off (wantG0 (j := 7) (b := false) rfl (decide_eq_true c298) rfl) rfl rfl ?_
          refine XO.off (wantG0 (j := 7) (b := false) rfl (decide_eq_true c298) rfl) rfl rfl ?_
          refine XO.off (wantG0 (j := 7) (b := false) rfl (decide_eq_true c298) rfl) rfl rfl ?_
          refine XO.do rfl (D.pick true (v := .bool true) (congrArg Value.bool (decide_eq_true c298)) rfl rfl ?_)
          refine XO.nil ?_
          exact ⟨true, rfl, rfl, rfl, rfl, rfl, rfl, rfl, hB, h⟩
         ·rw [if_neg c298] at h
          refine XO.do (wantG (j := 7) (b := false) rfl (decide_eq_false c298) rfl) (D.mv (v := .int .i64 r13.2.1) rfl rfl ?_)
          refine XO.do (wantG (j := 7) (b := false) rfl (decide_eq_false c298) rfl) (D.mv (v := .int .i64 r257.2) rfl rfl ?_)
          refine XO.do (wantG (j := 7) (b := false) rfl (decide_eq_false c298) rfl) (D.sub rfl rfl rfl ?_)
          refine XO.do (wantG (j := 7) (b := false) rfl (decide_eq_false c298) rfl) (D.neq rfl rfl rfl ?_)
          refine XO.do rfl (D.pick false (v := .bool ((w64 (r13.2.1 - r257.2)) != 20)) (congrArg Value.bool (decide_eq_false c298)) rfl rfl ?_)
          refine XO.nil ?_
          exact ⟨((w64 (r13.2.1 - r257.2)) != 20), rfl, rfl, rfl, rfl, rfl, rfl, rfl, hB, h⟩
       ·intro f282 w281 hI
        obtain ⟨x280, s283, s284, s285, s286, s287, s288, s289, hB, h⟩ := hI
        refine X.fr (d := 0) s283 ?_
        refine X.fr (d := 3) s284 ?_
        refine X.fr (d := 11) s285 ?_
        refine X.fr (d := 14) s286 ?_
        refine X.fr (d := 15) s287 ?_
        refine X.fr (d := 16) s288 ?_
        refine X.fr (d := 78) s289 ?_
        unfold derrickref04_Take.j4 at h
        by_cases c290 : x280 = true
        ·rw [if_pos c290] at h
         refine X.condT (congrArg Value.bool (c290)) ?_
         refine X.seq fun M291 hM292 => ?_
         refine X.region ?_
         refine XO.do rfl (D.asn (v := S []) rfl rfl ?_)
         refine XO.do rfl (D.asn (v := .int .i64 2) rfl rfl ?_)
         refine XO.nil ?_
         refine hM292 _ _ ?_
         refine X.ret ?_
         injection h with h
         subst h
         exact hR _ _ _ (ret2 (v := S []) (v' := .int .i64 2) rfl rfl rfl) ⟨rfl, ext_of_below hB⟩
        ·rw [if_neg c290] at h
         refine X.condF (congrArg Value.bool ((Bool.eq_false_iff.2 c290))) ?_
         refine X.skip ?_
         refine hM277 _ _ ?_
         refine X.region ?_
         refine XO.do rfl (D.mv (v := S r257.1) rfl rfl ?_)
         refine XO.do rfl (D.mv (v := S a1) rfl rfl ?_)
         refine XO.do rfl (D.mv (v := .int .i64 r257.2) rfl rfl ?_)
         refine XO.do rfl (D.mv (v := .int .i64 r13.2.1) rfl rfl ?_)
         rcases (Classical.em (0 ≤ r257.2)).symm with c293 | c293
         ·rw [if_neg c293] at h; cases h
         rw [if_pos c293] at h
         rcases (Classical.em (r257.2 ≤ r13.2.1)).symm with c294 | c294
         ·rw [if_neg c294] at h; cases h
         rw [if_pos c294] at h
         rcases (Classical.em (r13.2.1 ≤ (a1.length : Int))).symm with c295 | c295
         ·rw [if_neg c295] at h; cases h
         rw [if_pos c295] at h
         refine XO.do rfl (D.sliceS (i := r257.2) (j := r13.2.1) Try.underlying9 rfl rfl rfl c293 c294 c295 rfl ?_)
         rcases (Classical.em (r257.1.length + ((a1.drop r257.2.toNat).take (r13.2.1.toNat - r257.2.toNat)).length ≤ 9223372036854775807)).symm with c296 | c296
         ·rw [if_neg c296] at h; cases h
         rw [if_pos c296] at h
         refine XO.do rfl (D.addS rfl rfl c296 rfl ?_)
         refine XO.do rfl (D.asn (v := S (r257.1 ++ ((a1.drop r257.2.toNat).take (r13.2.1.toNat - r257.2.toNat)))) rfl rfl ?_)
         refine XO.nil ?_
         exact ⟨r257.1 ++ ((a1.drop r257.2.toNat).take (r13.2.1.toNat - r257.2.toNat)), r13.2.1, rfl, rfl, rfl, rfl, hB, h⟩
      ·rw [if_neg c250] at h
       refine X.condF (congrArg Value.bool (beq_eq_false_iff_ne.2 c250)) ?_
       refine X.skip ?_
       exact ⟨r13.1, r13.2.1, rfl, rfl, rfl, rfl, hB, h⟩
  ·intro f142 w141 hI
   obtain ⟨x139, x140, s143, s144, s145, s146, hB, h⟩ := hI
   refine X.fr (d := 3) s143 ?_
   refine X.fr (d := 11) s144 ?_
   refine X.fr (d := 13) s145 ?_
   refine X.fr (d := 14) s146 ?_
   unfold derrickref04_Take.j1 at h
   refine X.seq fun M169 hM170 => ?_
   refine X.cut (fun f180 w179 => ∃ x178 : Bool, f180 13 = S x139 ∧ f180 93 = .bool x178 ∧ Below w.heap.size w w179 ∧ derrickref04_Take.j2 x139 x178 = some res) ?_ ?_
   ·refine X.region ?_
    refine XO.do rfl (D.mv (v := .int .i64 x140) rfl rfl ?_)
    refine XO.do rfl (D.mv (v := .int .i64 r13.2.1) rfl rfl ?_)
    refine XO.do rfl (D.neq rfl rfl rfl ?_)
    refine XO.do rfl (D.mv (v := .bool (x140 != r13.2.1)) rfl rfl ?_)
    by_cases c188 : x140 = r13.2.1
    ·rw [if_pos c188] at h
     refine XO.do (wantG (j := 3) (b := false) rfl ((congrArg (!·) (beq_iff_eq.2 c188))) rfl) (D.mv (v := .int .u16 a4) rfl rfl ?_)
     refine XO.do (wantG (j := 3) (b := false) rfl ((congrArg (!·) (beq_iff_eq.2 c188))) rfl) (D.mv (v := S x139) rfl rfl ?_)
     rcases (Classical.em (derrickref04_May.pre a4 x139)).symm with c189 | c189
     ·rw [if_neg c189] at h; cases h
     rw [if_pos c189] at h
     obtain ⟨r193, q194, h⟩ := lt_elim h
     have hc192 := derrickref04_May.ok a4 x139 w141 c189 
     rw [q194] at hc192
     clear q194
     refine XO.do (wantG (j := 3) (b := false) rfl ((congrArg (!·) (beq_iff_eq.2 c188))) rfl) (D.call (vs := [.int .u16 a4, S x139]) cf52 hc192 rfl rfl ?_)
     rintro _ w190 ⟨rfl, e191⟩
     clear hc192
     replace hB := below_ext hB e191
     clear e191
     refine XO.do (wantG (j := 3) (b := false) rfl ((congrArg (!·) (beq_iff_eq.2 c188))) rfl) (D.not r193 rfl rfl ?_)
     refine XO.do rfl (D.pick false (v := .bool (!r193)) (congrArg Value.bool ((congrArg (!·) (beq_iff_eq.2 c188)))) rfl rfl ?_)
     refine XO.nil ?_
     exact ⟨(!r193), rfl, rfl, hB, h⟩
    ·rw [if_neg c188] at h
     refine XO.off (wantG0 (j := 3) (b := false) rfl ((congrArg (!·) (beq_eq_false_iff_ne.2 c188))) rfl) rfl rfl ?_
     refine XO.off (wantG0 (j := 3) (b := false) rfl ((congrArg (!·) (beq_eq_false_iff_ne.2 c188))) rfl) rfl rfl ?_
     refine XO.off (wantG0 (j := 3) (b := false) rfl ((congrArg (!·) (beq_eq_false_iff_ne.2 c188))) rfl) rfl rfl ?_
     refine XO.off (wantG0 (j := 3) (b := false) rfl ((congrArg (!·) (beq_eq_false_iff_ne.2 c188))) rfl) rfl rfl ?_
     refine XO.do rfl (D.pick true (v := .bool true) (congrArg Value.bool ((congrArg (!·) (beq_eq_false_iff_ne.2 c188)))) rfl rfl ?_)
     refine XO.nil ?_
     exact ⟨true, rfl, rfl, hB, h⟩
   ·intro f180 w179 hI
    obtain ⟨x178, s181, s182, hB, h⟩ := hI
    refine X.fr (d := 13) s181 ?_
    refine X.fr (d := 93) s182 ?_
    unfold derrickref04_Take.j2 at h
    by_cases c183 : x178 = true
    ·rw [if_pos c183] at h
     refine X.condT (congrArg Value.bool (c183)) ?_
     refine X.seq fun M184 hM185 => ?_
     refine X.region ?_
     refine XO.do rfl (D.asn (v := S []) rfl rfl ?_)
     refine XO.do rfl (D.asn (v := .int .i64 2) rfl rfl ?_)
     refine XO.nil ?_
     refine hM185 _ _ ?_
     refine X.ret ?_
     injection h with h
     subst h
     exact hR _ _ _ (ret2 (v := S []) (v' := .int .i64 2) rfl rfl rfl) ⟨rfl, ext_of_below hB⟩
    ·rw [if_neg c183] at h
     refine X.condF (congrArg Value.bool ((Bool.eq_false_iff.2 c183))) ?_
     refine X.skip ?_
     refine hM170 _ _ ?_
     refine X.seq fun M186 hM187 => ?_
     refine X.region ?_
     refine XO.do rfl (D.mv (v := S x139) rfl rfl ?_)
     refine XO.do rfl (D.asn (v := S x139) rfl rfl ?_)
     refine XO.do rfl (D.asn (v := .int .i64 0) rfl rfl ?_)
     refine XO.nil ?_
     refine hM187 _ _ ?_
     refine X.ret ?_
     injection h with h
     subst h
     exact hR _ _ _ (ret2 (v := S x139) (v' := .int .i64 0) rfl rfl rfl) ⟨rfl, ext_of_below hB⟩
 ·rw [if_neg c24] at h
  refine X.condT (congrArg Value.bool ((congrArg (!·) (beq_eq_false_iff_ne.2 c24)))) ?_
  refine X.seq fun M305 hM306 => ?_
  refine X.region ?_
  refine XO.do rfl (D.asn (v := S []) rfl rfl ?_)
  refine XO.do rfl (D.asn (v := .int .i64 2) rfl rfl ?_)
  refine XO.nil ?_
  refine hM306 _ _ ?_
  refine X.ret ?_
  injection h with h
  subst h
  exact hR _ _ _ (ret2 (v := S []) (v' := .int .i64 2) rfl rfl rfl) ⟨rfl, ext_of_below hB⟩
theorem derrickref04_Take.ok (a1 : Str) (a2 : Int) (a3 : Int) (a4 : Int)  (w : World)  (hp : derrickref04_Take.pre a1 a2 a3 a4) :
  Ret Try.prog 49 ([S a1, .int .i64 a2, .int .i64 a3, .int .u16 a4] : List Value).toArray w fun v w' => v = .tuple #[S ((derrickref04_Take a1 a2 a3 a4).1), .int .i64 ((derrickref04_Take a1 a2 a3 a4).2)] ∧ Ext w w' := by
 have h := derrickref04_Take.eq a1 a2 a3 a4 hp
 exact derrickref04_Take.walk  a1 a2 a3 a4  w  _ h
theorem derrickref05_May.walk (a1 : RR)  (w : World)  (res : Bool) (h : derrickref05_May.f a1 = some res) :
  Ret Try.prog 22 ([.agg #[S a1.name, .int .u16 a1.ty, .int .u16 a1.cls, .int .u32 a1.ttl, S a1.data]] : List Value).toArray w fun v w' => v = .bool res ∧ Ext w w' := by
 unfold derrickref05_May.f at h
 refine enterX Try.func22 rfl Try.ntmps22 rfl (fun R hR => ?_)
 have hB := Below.refl w.heap.size w
 refine X.seq fun M2 hM3 => ?_
 refine X.region ?_
 refine XO.do rfl (D.box (v := .agg #[S a1.name, .int .u16 a1.ty, .int .u16 a1.cls, .int .u32 a1.ttl, S a1.data]) (cs := [S a1.name, .int .u16 a1.ty, .int .u16 a1.cls, .int .u32 a1.ttl, S a1.data]) rfl rfl rfl ?_)
 intro b4 w5 hb6 H7 e8 _
 have g9 : w.heap.size ≤ b4 := Nat.le_trans hB.size (Nat.le_of_eq hb6.symm)
 clear hb6
 replace hB := below_ext hB e8
 clear e8
 refine XO.do rfl (D.asn (v := .bool false) rfl rfl ?_)
 refine XO.nil ?_
 refine hM3 _ _ ?_
 refine X.seq fun M10 hM11 => ?_
 refine X.region ?_
 refine XO.do rfl (D.fieldAddr (o' := 0) fa25_0 rfl rfl rfl ?_)
 refine XO.do rfl (D.load (j := 0) (v := S a1.name) sc9 H7.cs rfl rfl rfl rfl ?_)
 rcases (Classical.em (derrickref02_May.pre a1.name)).symm with c12 | c12
 ·rw [if_neg c12] at h; cases h
 rw [if_pos c12] at h
 obtain ⟨r16, q17, h⟩ := lt_elim h
 have hc15 := derrickref02_May.ok a1.name w5 c12 
 rw [q17] at hc15
 clear q17
 refine XO.do rfl (D.call (vs := [S a1.name]) cf51 hc15 rfl rfl ?_)
 rintro _ w13 ⟨rfl, e14⟩
 clear hc15
 replace hB := below_ext hB e14
 replace H7 := H7.ext e14
 clear e14
 refine XO.do rfl (D.mv (v := .bool r16) rfl rfl ?_)
 by_cases c18 : r16 = true
 ·rw [if_pos c18] at h
  refine XO.do (wantG (j := 3) (b := true) rfl (c18) rfl) (D.fieldAddr (o' := 1) fa25_1 rfl rfl rfl ?_)
  refine XO.do (wantG (j := 3) (b := true) rfl (c18) rfl) (D.load (j := 1) (v := .int .u16 a1.ty) sc22 H7.cs rfl rfl rfl rfl ?_)
  refine XO.do (wantG (j := 3) (b := true) rfl (c18) rfl) (D.fieldAddr (o' := 4) fa25_4 rfl rfl rfl ?_)
  refine XO.do (wantG (j := 3) (b := true) rfl (c18) rfl) (D.load (j := 4) (v := S a1.data) sc9 H7.cs rfl rfl rfl rfl ?_)
  rcases (Classical.em (derrickref04_May.pre a1.ty a1.data)).symm with c19 | c19
  ·rw [if_neg c19] at h; cases h
  rw [if_pos c19] at h
  obtain ⟨r23, q24, h⟩ := lt_elim h
  have hc22 := derrickref04_May.ok a1.ty a1.data w13 c19 
  rw [q24] at hc22
  clear q24
  refine XO.do (wantG (j := 3) (b := true) rfl (c18) rfl) (D.call (vs := [.int .u16 a1.ty, S a1.data]) cf52 hc22 rfl rfl ?_)
  rintro _ w20 ⟨rfl, e21⟩
  clear hc22
  replace hB := below_ext hB e21
  replace H7 := H7.ext e21
  clear e21
  refine XO.do rfl (D.pick true (v := .bool r23) (congrArg Value.bool (c18)) rfl rfl ?_)
  refine XO.do rfl (D.asn (v := .bool r23) rfl rfl ?_)
  refine XO.nil ?_
  refine hM11 _ _ ?_
  refine X.ret ?_
  injection h with h
  subst h
  exact hR _ _ _ (ret1 (v := .bool r23) rfl rfl) ⟨rfl, ext_of_below hB⟩
 ·rw [if_neg c18] at h
  refine XO.off (wantG0 (j := 3) (b := true) rfl ((Bool.eq_false_iff.2 c18)) rfl) rfl rfl ?_
  refine XO.off (wantG0 (j := 3) (b := true) rfl ((Bool.eq_false_iff.2 c18)) rfl) rfl rfl ?_
  refine XO.off (wantG0 (j := 3) (b := true) rfl ((Bool.eq_false_iff.2 c18)) rfl) rfl rfl ?_
  refine XO.off (wantG0 (j := 3) (b := true) rfl ((Bool.eq_false_iff.2 c18)) rfl) rfl rfl ?_
  refine XO.off (wantG0 (j := 3) (b := true) rfl ((Bool.eq_false_iff.2 c18)) rfl) rfl rfl ?_
  refine XO.do rfl (D.pick false (v := .bool false) (congrArg Value.bool ((Bool.eq_false_iff.2 c18))) rfl rfl ?_)
  refine XO.do rfl (D.asn (v := .bool false) rfl rfl ?_)
  refine XO.nil ?_
  refine hM11 _ _ ?_
  refine X.ret ?_
  injection h with h
  subst h
  exact hR _ _ _ (ret1 (v := .bool false) rfl rfl) ⟨rfl, ext_of_below hB⟩
theorem derrickref05_May.ok (a1 : RR)  (w : World)  (hp : derrickref05_May.pre a1) :
  Ret Try.prog 22 ([.agg #[S a1.name, .int .u16 a1.ty, .int .u16 a1.cls, .int .u32 a1.ttl, S a1.data]] : List Value).toArray w fun v w' => v = .bool (derrickref05_May a1) ∧ Ext w w' := by
 have h := derrickref05_May.eq a1 hp
 exact derrickref05_May.walk  a1  w  _ h
theorem derrickref05_PutQ.walk (a1 : RPack) (a6 : Question) (A2 : Option Addr) (k3 : Nat) (w : World) (H4 : Row ePlace w A2 k3 a1.l) (res : RPack × Int) (h : derrickref05_PutQ.f a1 a6 = some res) :
  Ret Try.prog 14 ([.agg #[S a1.s, .slice A2 a1.l.length k3], .agg #[S a6.name, .int .u16 a6.ty, .int .u16 a6.cls]] : List Value).toArray w fun v w' => ∃ (A1 : Option Addr) (k1 : Nat), v = .tuple #[.agg #[S res.1.s, .slice A1 res.1.l.length k1], .int .i64 res.2] ∧ Row ePlace w' A1 k1 res.1.l ∧ (∀ y, MR A1 res.1.l y → w.heap.size ≤ y ∨ MR A2 a1.l y) ∧ Ext w w' := by
 unfold derrickref05_PutQ.f at h
 refine enterX Try.func14 rfl Try.ntmps14 rfl (fun R hR => ?_)
 have hB := Below.refl w.heap.size w
 refine X.seq fun M7 hM8 => ?_
 refine X.region ?_
 refine XO.do rfl (D.box (v := .agg #[S a1.s, .slice A2 a1.l.length k3]) (cs := [S a1.s, .slice A2 a1.l.length k3]) rfl rfl rfl ?_)
 intro b9 w10 hb11 H12 e13 _
 have g14 : w.heap.size ≤ b9 := Nat.le_trans hB.size (Nat.le_of_eq hb11.symm)
 clear hb11
 replace hB := below_ext hB e13
 clear e13
 refine XO.do rfl (D.box (v := .agg #[S a6.name, .int .u16 a6.ty, .int .u16 a6.cls]) (cs := [S a6.name, .int .u16 a6.ty, .int .u16 a6.cls]) rfl rfl rfl ?_)
 intro b15 w17 hb18 H19 e20 _
 have g21 : w.heap.size ≤ b15 := Nat.le_trans hB.size (Nat.le_of_eq hb18.symm)
 clear hb18
 replace hB := below_ext hB e20
 replace H12 := H12.ext e20
 clear e20
 refine XO.do rfl (D.alloc ti39 (cs := [S [], .slice none 0 0]) rfl rfl ?_)
 intro b22 w23 hb24 H25 e26 _
 have lt_14_27 : ∀ x, MB b9 x → x < b22 := (MB.lt H12 (Nat.le_of_eq hb24.symm))
 have lt_21_27 : ∀ x, MB b15 x → x < b22 := (MB.lt H19 (Nat.le_of_eq hb24.symm))
 have g27 : w.heap.size ≤ b22 := Nat.le_trans hB.size (Nat.le_of_eq hb24.symm)
 clear hb24
 replace hB := below_ext hB e26
 replace H12 := H12.ext e26
 replace H19 := H19.ext e26
 clear e26
 refine XO.do rfl (D.asn (v := .int .i64 0) rfl rfl ?_)
 refine XO.nil ?_
 refine hM8 _ _ ?_
 refine X.seq fun M42 hM43 => ?_
 refine X.seq fun M44 hM45 => ?_
 refine X.region ?_
 refine XO.do rfl (D.loadA (j := 0) (us := [S a6.name, .int .u16 a6.ty, .int .u16 a6.cls]) ag30 H19.cs rfl rfl rfl rfl rfl ?_)
 rcases (Classical.em (derrickref05_MayQ.pre a6)).symm with c46 | c46
 ·rw [if_neg c46] at h; cases h
 rw [if_pos c46] at h
 obtain ⟨r50, q51, h⟩ := lt_elim h
 have hc49 := derrickref05_MayQ.ok a6 w23 c46 
 rw [q51] at hc49
 clear q51
 refine XO.do rfl (D.call (vs := [.agg #[S a6.name, .int .u16 a6.ty, .int .u16 a6.cls]]) cf24 hc49 rfl rfl ?_)
 rintro _ w47 ⟨rfl, e48⟩
 clear hc49
 replace hB := below_ext hB e48
 replace H12 := H12.ext e48
 replace H19 := H19.ext e48
 replace H25 := H25.ext e48
 clear e48
 refine XO.do rfl (D.not r50 rfl rfl ?_)
 refine XO.nil ?_
 refine hM45 _ _ ?_
 by_cases c52 : r50 = true
 ·rw [if_pos c52] at h
  refine X.condF (congrArg Value.bool ((congrArg (!·) (c52)))) ?_
  refine X.skip ?_
  refine hM43 _ _ ?_
  refine X.seq fun M53 hM54 => ?_
  refine X.region ?_
  refine XO.do rfl (D.loadA (j := 0) (us := [S a1.s, .slice A2 a1.l.length k3]) ag39 H12.cs rfl rfl rfl rfl rfl ?_)
  refine XO.do rfl (D.fieldAddr (o' := 0) fa30_0 rfl rfl rfl ?_)
  refine XO.do rfl (D.load (j := 0) (v := S a6.name) sc9 H19.cs rfl rfl rfl rfl ?_)
  rcases (Classical.em (derrickref03_Name.pre a1 a6.name)).symm with c55 | c55
  ·rw [if_neg c55] at h; cases h
  rw [if_pos c55] at h
  obtain ⟨r59, q60, h⟩ := lt_elim h
  have hc58 := derrickref03_Name.ok a1 a6.name A2 k3 w47 (H4.below hB) c55 
  rw [q60] at hc58
  clear q60
  refine XO.do rfl (D.call (vs := [.agg #[S a1.s, .slice A2 a1.l.length k3], S a6.name]) cf32 hc58 rfl rfl ?_)
  rintro _ w56 ⟨A61, k62, rfl, H63, g64, e57⟩
  clear hc58
  have og65 : (∀ y, MR A61 r59.1.l y → w.heap.size ≤ y ∨ MR A2 a1.l y) := fun y hy => (g64 y hy).elim (fun h => .inl (Nat.le_trans hB.size h)) (fun h => (.inr h))
  have nf65_14 : ∀ x y, MR A61 r59.1.l x → MB b9 y → x ≠ y := fun x y hx hy => (g64 x hx).elim (fun h e => Nat.lt_irrefl _ (Nat.lt_of_lt_of_le ((MB.lt H12 (Nat.le_refl _)) y hy) (e ▸ h))) (fun h => (ne_of (MR.lt H4 (Nat.le_refl _)) (ge_blk g14)) x y h hy)
  have nf65_21 : ∀ x y, MR A61 r59.1.l x → MB b15 y → x ≠ y := fun x y hx hy => (g64 x hx).elim (fun h e => Nat.lt_irrefl _ (Nat.lt_of_lt_of_le ((MB.lt H19 (Nat.le_refl _)) y hy) (e ▸ h))) (fun h => (ne_of (MR.lt H4 (Nat.le_refl _)) (ge_blk g21)) x y h hy)
  have nf65_27 : ∀ x y, MR A61 r59.1.l x → MB b22 y → x ≠ y := fun x y hx hy => (g64 x hx).elim (fun h e => Nat.lt_irrefl _ (Nat.lt_of_lt_of_le ((MB.lt H25 (Nat.le_refl _)) y hy) (e ▸ h))) (fun h => (ne_of (MR.lt H4 (Nat.le_refl _)) (ge_blk g27)) x y h hy)
  replace hB := below_ext hB e57
  replace H12 := H12.ext e57
  replace H19 := H19.ext e57
  replace H25 := H25.ext e57
  clear e57
  refine XO.do rfl (D.mv (v := .tuple #[.agg #[S r59.1.s, .slice A61 r59.1.l.length k62], .int .i64 r59.2]) rfl rfl ?_)
  refine XO.do rfl (D.extract (v := .agg #[S r59.1.s, .slice A61 r59.1.l.length k62]) rfl rfl rfl ?_)
  refine XO.do rfl (D.extract (v := .int .i64 r59.2) rfl rfl rfl ?_)
  refine XO.do rfl (D.alloc ti39 (cs := [S [], .slice none 0 0]) rfl rfl ?_)
  intro b66 w67 hb68 H69 e70 _
  have lt_14_71 : ∀ x, MB b9 x → x < b66 := (MB.lt H12 (Nat.le_of_eq hb68.symm))
  have lt_21_71 : ∀ x, MB b15 x → x < b66 := (MB.lt H19 (Nat.le_of_eq hb68.symm))
  have lt_27_71 : ∀ x, MB b22 x → x < b66 := (MB.lt H25 (Nat.le_of_eq hb68.symm))
  have lt_65_71 : ∀ x, MR A61 r59.1.l x → x < b66 := (MR.lt H63 (Nat.le_of_eq hb68.symm))
  have g71 : w.heap.size ≤ b66 := Nat.le_trans hB.size (Nat.le_of_eq hb68.symm)
  clear hb68
  replace hB := below_ext hB e70
  replace H12 := H12.ext e70
  replace H19 := H19.ext e70
  replace H25 := H25.ext e70
  replace H63 := H63.ext e70
  clear e70
  refine XO.do rfl (D.store (v := .agg #[S r59.1.s, .slice A61 r59.1.l.length k62]) (us := [S r59.1.s, .slice A61 r59.1.l.length k62]) sz39 H69 rfl rfl rfl rfl rfl rfl ?_)
  intro w72 H73 e74
  replace hB := below_blk hB e74 g71
  replace H12 := H12.gr e74 (sepB (ne_of lt_14_71 (MB.ge b66)))
  replace H19 := H19.gr e74 (sepB (ne_of lt_21_71 (MB.ge b66)))
  replace H25 := H25.gr e74 (sepB (ne_of lt_27_71 (MB.ge b66)))
  replace H63 := H63.gr e74 (sepB (ne_of lt_65_71 (MB.ge b66)))
  clear e74
  refine XO.do rfl (D.asn (v := .int .i64 r59.2) rfl rfl ?_)
  refine XO.nil ?_
  refine hM54 _ _ ?_
  refine X.seq fun M75 hM76 => ?_
  refine X.tree mixed0 [0, 0, 2, 6, 0, 16, 62, 126, 255, 511, 1023] (.q 0 (.q 1 (.q 2 (.q 3 (.q 4 (.q 5 (.q 6 (.q 7 (.alt 8 (.alt 9 (.q 10 .nil) .nil) .nil))))))))) (fun w' => Below w.heap.size w w' ∧ Blk w' b9 [S a1.s, .slice A2 a1.l.length k3] 39 ∧ Blk w' b15 [S a6.name, .int .u16 a6.ty, .int .u16 a6.cls] 30 ∧ Row ePlace w' A61 k62 r59.1.l ∧ Blk w' b66 [S r59.1.s, .slice A61 r59.1.l.length k62] 39) (fun w' => Below w.heap.size w w' ∧ Blk w' b9 [S a1.s, .slice A2 a1.l.length k3] 39 ∧ Blk w' b15 [S a6.name, .int .u16 a6.ty, .int .u16 a6.cls] 30 ∧ Blk w' b22 [S [], .slice none 0 0] 39 ∧ Row ePlace w' A61 k62 r59.1.l ∧ Blk w' b66 [S r59.1.s, .slice A61 r59.1.l.length k62] 39) (by decide +kernel) (fun w' hx _ => ⟨below_ext hB hx, H12.ext hx, H19.ext hx, H25.ext hx, H63.ext hx, H73.ext hx⟩) (fun a b hC hx => by obtain ⟨hB, H12, H19, H25, H63, H73⟩ := hC; exact ⟨below_ext hB hx, H12.ext hx, H19.ext hx, H25.ext hx, H63.ext hx, H73.ext hx⟩) (fun a hC => by obtain ⟨hB, H12, H19, H25, H63, H73⟩ := hC; exact ⟨hB, H12, H19, H63, H73⟩) ?_
  refine QT.do (v := .agg #[S r59.1.s, .slice A61 r59.1.l.length k62]) rfl (by decide +kernel) rfl rfl rfl (fun w' hJ => by obtain ⟨hB, H12, H19, H25, H63, H73⟩ := hJ; exact D.loadA (j := 0) (us := [S r59.1.s, .slice A61 r59.1.l.length k62]) ag39 H73.cs rfl rfl rfl rfl rfl ⟨rfl, Ext.refl _⟩) ?_
  refine QT.do (v := pt b15 1) rfl (by decide +kernel) rfl rfl rfl (fun w' hJ => by obtain ⟨hB, H12, H19, H25, H63, H73⟩ := hJ; exact D.fieldAddr (o' := 1) fa30_1 rfl rfl rfl ⟨rfl, Ext.refl _⟩) ?_
  refine QT.do (v := .int .u16 a6.ty) rfl (by decide +kernel) rfl rfl rfl (fun w' hJ => by obtain ⟨hB, H12, H19, H25, H63, H73⟩ := hJ; exact D.load (j := 1) (v := .int .u16 a6.ty) sc22 H19.cs rfl rfl rfl rfl ⟨rfl, Ext.refl _⟩) ?_
  obtain ⟨r107, q108, h⟩ := lt_elim h
  refine QT.do (v := S r107) rfl (by decide +kernel) rfl rfl rfl (fun w' hJ => by obtain ⟨hB, H12, H19, H25, H63, H73⟩ := hJ; have hc := derrickref01_Put16.ok a6.ty w'; rw [q108] at hc; refine D.call (vs := [.int .u16 a6.ty]) cf34 hc rfl rfl ?_; rintro _ w2 ⟨rfl, e2⟩; exact ⟨rfl, e2⟩) ?_
  refine QT.do (v := pt b15 2) rfl (by decide +kernel) rfl rfl rfl (fun w' hJ => by obtain ⟨hB, H12, H19, H25, H63, H73⟩ := hJ; exact D.fieldAddr (o' := 2) fa30_2 rfl rfl rfl ⟨rfl, Ext.refl _⟩) ?_
  refine QT.do (v := .int .u16 a6.cls) rfl (by decide +kernel) rfl rfl rfl (fun w' hJ => by obtain ⟨hB, H12, H19, H25, H63, H73⟩ := hJ; exact D.load (j := 2) (v := .int .u16 a6.cls) sc22 H19.cs rfl rfl rfl rfl ⟨rfl, Ext.refl _⟩) ?_
  obtain ⟨r112, q113, h⟩ := lt_elim h
  refine QT.do (v := S r112) rfl (by decide +kernel) rfl rfl rfl (fun w' hJ => by obtain ⟨hB, H12, H19, H25, H63, H73⟩ := hJ; have hc := derrickref01_Put16.ok a6.cls w'; rw [q113] at hc; refine D.call (vs := [.int .u16 a6.cls]) cf34 hc rfl rfl ?_; rintro _ w2 ⟨rfl, e2⟩; exact ⟨rfl, e2⟩) ?_
  rcases (Classical.em (r107.length + r112.length ≤ 9223372036854775807)).symm with c114 | c114
  ·rw [if_neg c114] at h; cases h
  rw [if_pos c114] at h
  refine QT.do (v := S (r107 ++ r112)) rfl (by decide +kernel) rfl rfl rfl (fun w' hJ => by obtain ⟨hB, H12, H19, H25, H63, H73⟩ := hJ; exact D.addS rfl rfl c114 rfl ⟨rfl, Ext.refl _⟩) ?_
  refine QT.eff rfl rfl (fun w115 hC => ?_) QT.nomore
  obtain ⟨hB, H12, H19, H25, H63, H73⟩ := hC
  rcases (Classical.em (derrickref03_Add.pre r59.1 (r107 ++ r112))).symm with c116 | c116
  ·rw [if_neg c116] at h; cases h
  rw [if_pos c116] at h
  obtain ⟨r120, q121, h⟩ := lt_elim h
  have hc119 := derrickref03_Add.ok r59.1 (r107 ++ r112) A61 k62 w115 H63 c116 
  rw [q121] at hc119
  clear q121
  refine D.call (vs := [.agg #[S r59.1.s, .slice A61 r59.1.l.length k62], S (r107 ++ r112)]) cf33 hc119 rfl rfl ?_
  rintro _ w117 ⟨A122, k123, rfl, H124, g125, e118⟩
  clear hc119
  have og126 : (∀ y, MR A122 r120.l y → w.heap.size ≤ y ∨ MR A2 a1.l y) := fun y hy => (g125 y hy).elim (fun h => .inl (Nat.le_trans hB.size h)) (fun h => og65 y h)
  have nf126_14 : ∀ x y, MR A122 r120.l x → MB b9 y → x ≠ y := fun x y hx hy => (g125 x hx).elim (fun h e => Nat.lt_irrefl _ (Nat.lt_of_lt_of_le ((MB.lt H12 (Nat.le_refl _)) y hy) (e ▸ h))) (fun h => nf65_14 x y h hy)
  have nf126_21 : ∀ x y, MR A122 r120.l x → MB b15 y → x ≠ y := fun x y hx hy => (g125 x hx).elim (fun h e => Nat.lt_irrefl _ (Nat.lt_of_lt_of_le ((MB.lt H19 (Nat.le_refl _)) y hy) (e ▸ h))) (fun h => nf65_21 x y h hy)
  have nf126_27 : ∀ x y, MR A122 r120.l x → MB b22 y → x ≠ y := fun x y hx hy => (g125 x hx).elim (fun h e => Nat.lt_irrefl _ (Nat.lt_of_lt_of_le ((MB.lt H25 (Nat.le_refl _)) y hy) (e ▸ h))) (fun h => nf65_27 x y h hy)
  have nf126_71 : ∀ x y, MR A122 r120.l x → MB b66 y → x ≠ y := fun x y hx hy => (g125 x hx).elim (fun h e => Nat.lt_irrefl _ (Nat.lt_of_lt_of_le ((MB.lt H73 (Nat.le_refl _)) y hy) (e ▸ h))) (fun h => (ne_of lt_65_71 (MB.ge b66)) x y h hy)
  replace hB := below_ext hB e118
  replace H12 := H12.ext e118
  replace H19 := H19.ext e118
  replace H25 := H25.ext e118
  replace H63 := H63.ext e118
  replace H73 := H73.ext e118
  clear e118
  refine ⟨_, rfl, (fun w' => Below w.heap.size w w' ∧ Blk w' b9 [S a1.s, .slice A2 a1.l.length k3] 39 ∧ Blk w' b15 [S a6.name, .int .u16 a6.ty, .int .u16 a6.cls] 30 ∧ Blk w' b22 [S [], .slice none 0 0] 39 ∧ Row ePlace w' A61 k62 r59.1.l ∧ Blk w' b66 [S r59.1.s, .slice A61 r59.1.l.length k62] 39 ∧ Row ePlace w' A122 k123 r120.l), ⟨hB, H12, H19, H25, H63, H73, H124⟩, (fun a b hC hx => by obtain ⟨hB, H12, H19, H25, H63, H73, H124⟩ := hC; exact ⟨below_ext hB hx, H12.ext hx, H19.ext hx, H25.ext hx, H63.ext hx, H73.ext hx, H124.ext hx⟩), (fun a hC => by obtain ⟨hB, H12, H19, H25, H63, H73, H124⟩ := hC; exact ⟨hB, H12, H19, H63, H73⟩), ?_⟩
  refine QT.eff rfl rfl (fun w127 hC => ?_) QT.nomore
  obtain ⟨hB, H12, H19, H25, H63, H73, H124⟩ := hC
  refine D.store (v := .agg #[S r120.s, .slice A122 r120.l.length k123]) (us := [S r120.s, .slice A122 r120.l.length k123]) sz39 H25 rfl rfl rfl rfl rfl rfl ?_
  intro w128 H129 e130
  replace hB := below_blk hB e130 g27
  replace H12 := H12.gr e130 (sepB (ne_of lt_14_27 (MB.ge b22)))
  replace H19 := H19.gr e130 (sepB (ne_of lt_21_27 (MB.ge b22)))
  replace H63 := H63.gr e130 (sepB nf65_27)
  replace H73 := H73.gr e130 (sepB (ne_flip (ne_of lt_27_71 (MB.ge b66))))
  replace H124 := H124.gr e130 (sepB nf126_27)
  clear e130
  refine ⟨undef, rfl, (fun w' => Below w.heap.size w w' ∧ Blk w' b9 [S a1.s, .slice A2 a1.l.length k3] 39 ∧ Blk w' b15 [S a6.name, .int .u16 a6.ty, .int .u16 a6.cls] 30 ∧ Blk w' b22 [S r120.s, .slice A122 r120.l.length k123] 39 ∧ Row ePlace w' A61 k62 r59.1.l ∧ Blk w' b66 [S r59.1.s, .slice A61 r59.1.l.length k62] 39 ∧ Row ePlace w' A122 k123 r120.l), ⟨hB, H12, H19, H129, H63, H73, H124⟩, (fun a b hC hx => by obtain ⟨hB, H12, H19, H129, H63, H73, H124⟩ := hC; exact ⟨below_ext hB hx, H12.ext hx, H19.ext hx, H129.ext hx, H63.ext hx, H73.ext hx, H124.ext hx⟩), (fun a hC => by obtain ⟨hB, H12, H19, H129, H63, H73, H124⟩ := hC; exact ⟨hB, H12, H19, H63, H73⟩), ?_⟩
  refine QT.do (v := .int .i64 0) rfl (by decide +kernel) rfl rfl rfl (fun w' hJ => by obtain ⟨hB, H12, H19, H129, H63, H73, H124⟩ := hJ; exact D.asn (v := .int .i64 0) rfl rfl ⟨rfl, Ext.refl _⟩) ?_
  refine QT.nil fun w131 hC => ?_
  obtain ⟨hB, H12, H19, H129, H63, H73, H124⟩ := hC
  refine hM76 _ _ ?_
  refine X.ret ?_
  injection h with h
  subst h
  exact hR _ _ _ (retCT ag39 H129 rfl rfl rfl rfl) ⟨A122, k123, rfl, H124, (fun y hy => og126 y hy), ext_of_below hB⟩
 ·rw [if_neg c52] at h
  refine X.condT (congrArg Value.bool ((congrArg (!·) ((Bool.eq_false_iff.2 c52))))) ?_
  refine X.seq fun M132 hM133 => ?_
  refine X.region ?_
  refine XO.do rfl (D.loadA (j := 0) (us := [S a1.s, .slice A2 a1.l.length k3]) ag39 H12.cs rfl rfl rfl rfl rfl ?_)
  refine XO.do rfl (D.store (v := .agg #[S a1.s, .slice A2 a1.l.length k3]) (us := [S a1.s, .slice A2 a1.l.length k3]) sz39 H25 rfl rfl rfl rfl rfl rfl ?_)
  intro w134 H135 e136
  replace hB := below_blk hB e136 g27
  replace H12 := H12.gr e136 (sepB (ne_of lt_14_27 (MB.ge b22)))
  replace H19 := H19.gr e136 (sepB (ne_of lt_21_27 (MB.ge b22)))
  clear e136
  refine XO.do rfl (D.asn (v := .int .i64 1) rfl rfl ?_)
  refine XO.nil ?_
  refine hM133 _ _ ?_
  refine X.ret ?_
  injection h with h
  subst h
  exact hR _ _ _ (retCT ag39 H135 rfl rfl rfl rfl) ⟨A2, k3, rfl, (H4.below hB), (fun y hy => (.inr hy)), ext_of_below hB⟩
theorem derrickref05_PutQ.ok (a1 : RPack) (a6 : Question) (A2 : Option Addr) (k3 : Nat) (w : World) (H4 : Row ePlace w A2 k3 a1.l) (hp : derrickref05_PutQ.pre a1 a6) :
  Ret Try.prog 14 ([.agg #[S a1.s, .slice A2 a1.l.length k3], .agg #[S a6.name, .int .u16 a6.ty, .int .u16 a6.cls]] : List Value).toArray w fun v w' => ∃ (A1 : Option Addr) (k1 : Nat), v = .tuple #[.agg #[S ((derrickref05_PutQ a1 a6).1.s), .slice A1 ((derrickref05_PutQ a1 a6).1.l).length k1], .int .i64 ((derrickref05_PutQ a1 a6).2)] ∧ Row ePlace w' A1 k1 ((derrickref05_PutQ a1 a6).1.l) ∧ (∀ y, MR A1 ((derrickref05_PutQ a1 a6).1.l) y → w.heap.size ≤ y ∨ MR A2 a1.l y) ∧ Ext w w' := by
 have h := derrickref05_PutQ.eq a1 a6 hp
 exact derrickref05_PutQ.walk  a1 a6 A2 k3 w H4 _ h
theorem derrickref05_TakeQ.walk (a1 : Str) (a2 : Int)  (w : World)  (res : Question × Int × Int) (h : derrickref05_TakeQ.f a1 a2 = some res) :
  Ret Try.prog 21 ([S a1, .int .i64 a2] : List Value).toArray w fun v w' => v = .tuple #[.agg #[S res.1.name, .int .u16 res.1.ty, .int .u16 res.1.cls], .int .i64 res.2.1, .int .i64 res.2.2] ∧ Ext w w' := by
 unfold derrickref05_TakeQ.f at h
 refine enterX Try.func21 rfl Try.ntmps21 rfl (fun R hR => ?_)
 have hB := Below.refl w.heap.size w
 refine X.seq fun M3 hM4 => ?_
 refine X.region ?_
 refine XO.do rfl (D.alloc ti30 (cs := [S [], .int .u16 0, .int .u16 0]) rfl rfl ?_)
 intro b5 w6 hb7 H8 e9 _
 have g10 : w.heap.size ≤ b5 := Nat.le_trans hB.size (Nat.le_of_eq hb7.symm)
 clear hb7
 replace hB := below_ext hB e9
 clear e9
 refine XO.do rfl (D.asn (v := .int .i64 0) rfl rfl ?_)
 refine XO.do rfl (D.asn (v := .int .i64 0) rfl rfl ?_)
 refine XO.nil ?_
 refine hM4 _ _ ?_
 refine X.seq fun M11 hM12 => ?_
 refine X.region ?_
 refine XO.do rfl (D.mv (v := S a1) rfl rfl ?_)
 refine XO.do rfl (D.mv (v := .int .i64 a2) rfl rfl ?_)
 rcases (Classical.em (derrickref03_Take.pre a1 a2)).symm with c13 | c13
 ·rw [if_neg c13] at h; cases h
 rw [if_pos c13] at h
 obtain ⟨r17, q18, h⟩ := lt_elim h
 have hc16 := derrickref03_Take.ok a1 a2 w6 c13 
 rw [q18] at hc16
 clear q18
 refine XO.do rfl (D.call (vs := [S a1, .int .i64 a2]) cf50 hc16 rfl rfl ?_)
 rintro _ w14 ⟨rfl, e15⟩
 clear hc16
 replace hB := below_ext hB e15
 replace H8 := H8.ext e15
 clear e15
 refine XO.do rfl (D.mv (v := .tuple #[S r17.1, .int .i64 r17.2.1, .int .i64 r17.2.2]) rfl rfl ?_)
 refine XO.do rfl (D.extract (v := S r17.1) rfl rfl rfl ?_)
 refine XO.do rfl (D.extract (v := .int .i64 r17.2.1) rfl rfl rfl ?_)
 refine XO.do rfl (D.extract (v := .int .i64 r17.2.2) rfl rfl rfl ?_)
 refine XO.do rfl (D.asn (v := S r17.1) rfl rfl ?_)
 refine XO.do rfl (D.asn (v := .int .i64 r17.2.1) rfl rfl ?_)
 refine XO.do rfl (D.asn (v := .int .i64 r17.2.2) rfl rfl ?_)
 refine XO.nil ?_
 refine hM12 _ _ ?_
 refine X.seq fun M27 hM28 => ?_
 refine X.seq fun M29 hM30 => ?_
 refine X.region ?_
 refine XO.do rfl (D.mv (v := .int .i64 r17.2.2) rfl rfl ?_)
 refine XO.do rfl (D.neq rfl rfl rfl ?_)
 refine XO.nil ?_
 refine hM30 _ _ ?_
 by_cases c31 : r17.2.2 = 0
 ·rw [if_pos c31] at h
  refine X.condF (congrArg Value.bool ((congrArg (!·) (beq_iff_eq.2 c31)))) ?_
  refine X.skip ?_
  refine hM28 _ _ ?_
  refine X.seq fun M32 hM33 => ?_
  refine X.region ?_
  refine XO.do rfl (D.mv (v := S a1) rfl rfl ?_)
  refine XO.do rfl (D.mv (v := .int .i64 r17.2.1) rfl rfl ?_)
  rcases (Classical.em (derrickref01_U16.pre a1 r17.2.1)).symm with c34 | c34
  ·rw [if_neg c34] at h; cases h
  rw [if_pos c34] at h
  obtain ⟨r38, q39, h⟩ := lt_elim h
  have hc37 := derrickref01_U16.ok a1 r17.2.1 w14 c34 
  rw [q39] at hc37
  clear q39
  refine XO.do rfl (D.call (vs := [S a1, .int .i64 r17.2.1]) cf48 hc37 rfl rfl ?_)
  rintro _ w35 ⟨rfl, e36⟩
  clear hc37
  replace hB := below_ext hB e36
  replace H8 := H8.ext e36
  clear e36
  refine XO.do rfl (D.mv (v := .tuple #[.int .u16 r38.1, .int .i64 r38.2.1, .int .i64 r38.2.2]) rfl rfl ?_)
  refine XO.do rfl (D.extract (v := .int .u16 r38.1) rfl rfl rfl ?_)
  refine XO.do rfl (D.extract (v := .int .i64 r38.2.1) rfl rfl rfl ?_)
  refine XO.do rfl (D.extract (v := .int .i64 r38.2.2) rfl rfl rfl ?_)
  refine XO.do rfl (D.asn (v := .int .u16 r38.1) rfl rfl ?_)
  refine XO.do rfl (D.asn (v := .int .i64 r38.2.1) rfl rfl ?_)
  refine XO.do rfl (D.asn (v := .int .i64 r38.2.2) rfl rfl ?_)
  refine XO.nil ?_
  refine hM33 _ _ ?_
  refine X.seq fun M40 hM41 => ?_
  refine X.region ?_
  refine XO.do rfl (D.mv (v := S a1) rfl rfl ?_)
  refine XO.do rfl (D.mv (v := .int .i64 r38.2.1) rfl rfl ?_)
  rcases (Classical.em (derrickref01_U16.pre a1 r38.2.1)).symm with c42 | c42
  ·rw [if_neg c42] at h; cases h
  rw [if_pos c42] at h
  obtain ⟨r46, q47, h⟩ := lt_elim h
  have hc45 := derrickref01_U16.ok a1 r38.2.1 w35 c42 
  rw [q47] at hc45
  clear q47
  refine XO.do rfl (D.call (vs := [S a1, .int .i64 r38.2.1]) cf48 hc45 rfl rfl ?_)
  rintro _ w43 ⟨rfl, e44⟩
  clear hc45
  replace hB := below_ext hB e44
  replace H8 := H8.ext e44
  clear e44
  refine XO.do rfl (D.mv (v := .tuple #[.int .u16 r46.1, .int .i64 r46.2.1, .int .i64 r46.2.2]) rfl rfl ?_)
  refine XO.do rfl (D.extract (v := .int .u16 r46.1) rfl rfl rfl ?_)
  refine XO.do rfl (D.extract (v := .int .i64 r46.2.1) rfl rfl rfl ?_)
  refine XO.do rfl (D.extract (v := .int .i64 r46.2.2) rfl rfl rfl ?_)
  refine XO.do rfl (D.asn (v := .int .u16 r46.1) rfl rfl ?_)
  refine XO.do rfl (D.asn (v := .int .i64 r46.2.1) rfl rfl ?_)
  refine XO.do rfl (D.asn (v := .int .i64 r46.2.2) rfl rfl ?_)
  refine XO.nil ?_
  refine hM41 _ _ ?_
  refine X.seq fun M66 hM67 => ?_
  refine X.cut (fun f72 w71 => ∃ x70 : Bool, f72 4 = pt b5 0 ∧ f72 7 = S r17.1 ∧ f72 10 = .int .u16 r38.1 ∧ f72 13 = .int .u16 r46.1 ∧ f72 14 = .int .i64 r46.2.1 ∧ f72 45 = .bool x70 ∧ Below w.heap.size w w71 ∧ Blk w71 b5 [S [], .int .u16 0, .int .u16 0] 30 ∧ derrickref05_TakeQ.j1 r17 r38 r46 x70 = some res) ?_ ?_
  ·refine X.region ?_
   refine XO.do rfl (D.mv (v := .int .i64 r38.2.2) rfl rfl ?_)
   refine XO.do rfl (D.neq rfl rfl rfl ?_)
   refine XO.do rfl (D.mv (v := .bool (r38.2.2 != 0)) rfl rfl ?_)
   by_cases c90 : r38.2.2 = 0
   ·rw [if_pos c90] at h
    refine XO.do (wantG (j := 2) (b := false) rfl ((congrArg (!·) (beq_iff_eq.2 c90))) rfl) (D.mv (v := .int .i64 r46.2.2) rfl rfl ?_)
    refine XO.do (wantG (j := 2) (b := false) rfl ((congrArg (!·) (beq_iff_eq.2 c90))) rfl) (D.neq rfl rfl rfl ?_)
    refine XO.do rfl (D.pick false (v := .bool (r46.2.2 != 0)) (congrArg Value.bool ((congrArg (!·) (beq_iff_eq.2 c90)))) rfl rfl ?_)
    refine XO.nil ?_
    exact ⟨(r46.2.2 != 0), rfl, rfl, rfl, rfl, rfl, rfl, hB, H8, h⟩
   ·rw [if_neg c90] at h
    refine XO.off (wantG0 (j := 2) (b := false) rfl ((congrArg (!·) (beq_eq_false_iff_ne.2 c90))) rfl) rfl rfl ?_
    refine XO.off (wantG0 (j := 2) (b := false) rfl ((congrArg (!·) (beq_eq_false_iff_ne.2 c90))) rfl) rfl rfl ?_
    refine XO.do rfl (D.pick true (v := .bool true) (congrArg Value.bool ((congrArg (!·) (beq_eq_false_iff_ne.2 c90)))) rfl rfl ?_)
    refine XO.nil ?_
    exact ⟨true, rfl, rfl, rfl, rfl, rfl, rfl, hB, H8, h⟩
  ·intro f72 w71 hI
   obtain ⟨x70, s73, s74, s75, s76, s77, s78, hB, H69, h⟩ := hI
   refine X.fr (d := 4) s73 ?_
   refine X.fr (d := 7) s74 ?_
   refine X.fr (d := 10) s75 ?_
   refine X.fr (d := 13) s76 ?_
   refine X.fr (d := 14) s77 ?_
   refine X.fr (d := 45) s78 ?_
   unfold derrickref05_TakeQ.j1 at h
   by_cases c79 : x70 = true
   ·rw [if_pos c79] at h
    refine X.condT (congrArg Value.bool (c79)) ?_
    refine X.seq fun M80 hM81 => ?_
    refine X.region ?_
    refine XO.do rfl (D.build (vs := []) (cs := [S [], .int .u16 0, .int .u16 0]) bld30 rfl rfl rfl ?_)
    refine XO.do rfl (D.store (v := .agg #[S [], .int .u16 0, .int .u16 0]) (us := [S [], .int .u16 0, .int .u16 0]) sz30 H69 rfl rfl rfl rfl rfl rfl ?_)
    intro w82 H83 e84
    replace hB := below_blk hB e84 g10
    clear e84
    refine XO.do rfl (D.asn (v := .int .i64 0) rfl rfl ?_)
    refine XO.do rfl (D.asn (v := .int .i64 2) rfl rfl ?_)
    refine XO.nil ?_
    refine hM81 _ _ ?_
    refine X.ret ?_
    injection h with h
    subst h
    exact hR _ _ _ (retCTT ag30 H83 rfl rfl rfl rfl rfl) ⟨rfl, ext_of_below hB⟩
   ·rw [if_neg c79] at h
    refine X.condF (congrArg Value.bool ((Bool.eq_false_iff.2 c79))) ?_
    refine X.skip ?_
    refine hM67 _ _ ?_
    refine X.seq fun M85 hM86 => ?_
    refine X.region ?_
    refine XO.do rfl (D.mv (v := S r17.1) rfl rfl ?_)
    refine XO.do rfl (D.mv (v := .int .u16 r38.1) rfl rfl ?_)
    refine XO.do rfl (D.mv (v := .int .u16 r46.1) rfl rfl ?_)
    refine XO.do rfl (D.build (vs := [(0, S r17.1), (1, .int .u16 r38.1), (2, .int .u16 r46.1)]) (cs := [S r17.1, .int .u16 r38.1, .int .u16 r46.1]) bld30 rfl rfl rfl ?_)
    refine XO.do rfl (D.mv (v := .int .i64 r46.2.1) rfl rfl ?_)
    refine XO.do rfl (D.store (v := .agg #[S r17.1, .int .u16 r38.1, .int .u16 r46.1]) (us := [S r17.1, .int .u16 r38.1, .int .u16 r46.1]) sz30 H69 rfl rfl rfl rfl rfl rfl ?_)
    intro w87 H88 e89
    replace hB := below_blk hB e89 g10
    clear e89
    refine XO.do rfl (D.asn (v := .int .i64 r46.2.1) rfl rfl ?_)
    refine XO.do rfl (D.asn (v := .int .i64 0) rfl rfl ?_)
    refine XO.nil ?_
    refine hM86 _ _ ?_
    refine X.ret ?_
    injection h with h
    subst h
    exact hR _ _ _ (retCTT ag30 H88 rfl rfl rfl rfl rfl) ⟨rfl, ext_of_below hB⟩
 ·rw [if_neg c31] at h
  refine X.condT (congrArg Value.bool ((congrArg (!·) (beq_eq_false_iff_ne.2 c31)))) ?_
  refine X.seq fun M91 hM92 => ?_
  refine X.region ?_
  refine XO.do rfl (D.build (vs := []) (cs := [S [], .int .u16 0, .int .u16 0]) bld30 rfl rfl rfl ?_)
  refine XO.do rfl (D.store (v := .agg #[S [], .int .u16 0, .int .u16 0]) (us := [S [], .int .u16 0, .int .u16 0]) sz30 H8 rfl rfl rfl rfl rfl rfl ?_)
  intro w93 H94 e95
  replace hB := below_blk hB e95 g10
  clear e95
  refine XO.do rfl (D.asn (v := .int .i64 0) rfl rfl ?_)
  refine XO.do rfl (D.asn (v := .int .i64 2) rfl rfl ?_)
  refine XO.nil ?_
  refine hM92 _ _ ?_
  refine X.ret ?_
  injection h with h
  subst h
  exact hR _ _ _ (retCTT ag30 H94 rfl rfl rfl rfl rfl) ⟨rfl, ext_of_below hB⟩
theorem derrickref05_TakeQ.ok (a1 : Str) (a2 : Int)  (w : World)  (hp : derrickref05_TakeQ.pre a1 a2) :
  Ret Try.prog 21 ([S a1, .int .i64 a2] : List Value).toArray w fun v w' => v = .tuple #[.agg #[S ((derrickref05_TakeQ a1 a2).1.name), .int .u16 ((derrickref05_TakeQ a1 a2).1.ty), .int .u16 ((derrickref05_TakeQ a1 a2).1.cls)], .int .i64 ((derrickref05_TakeQ a1 a2).2.1), .int .i64 ((derrickref05_TakeQ a1 a2).2.2)] ∧ Ext w w' := by
 have h := derrickref05_TakeQ.eq a1 a2 hp
 exact derrickref05_TakeQ.walk  a1 a2  w  _ h
theorem derrickref05_Same.walk (a1 : RR) (a2 : RR)  (w : World)  (res : Bool) (h : derrickref05_Same a1 a2 = res) :
  Ret Try.prog 25 ([.agg #[S a1.name, .int .u16 a1.ty, .int .u16 a1.cls, .int .u32 a1.ttl, S a1.data], .agg #[S a2.name, .int .u16 a2.ty, .int .u16 a2.cls, .int .u32 a2.ttl, S a2.data]] : List Value).toArray w fun v w' => v = .bool res ∧ Ext w w' := by
 unfold derrickref05_Same at h
 refine enterX Try.func25 rfl Try.ntmps25 rfl (fun R hR => ?_)
 have hB := Below.refl w.heap.size w
 refine X.seq fun M3 hM4 => ?_
 refine X.region ?_
 refine XO.do rfl (D.box (v := .agg #[S a1.name, .int .u16 a1.ty, .int .u16 a1.cls, .int .u32 a1.ttl, S a1.data]) (cs := [S a1.name, .int .u16 a1.ty, .int .u16 a1.cls, .int .u32 a1.ttl, S a1.data]) rfl rfl rfl ?_)
 intro b5 w6 hb7 H8 e9 _
 have g10 : w.heap.size ≤ b5 := Nat.le_trans hB.size (Nat.le_of_eq hb7.symm)
 clear hb7
 replace hB := below_ext hB e9
 clear e9
 refine XO.do rfl (D.box (v := .agg #[S a2.name, .int .u16 a2.ty, .int .u16 a2.cls, .int .u32 a2.ttl, S a2.data]) (cs := [S a2.name, .int .u16 a2.ty, .int .u16 a2.cls, .int .u32 a2.ttl, S a2.data]) rfl rfl rfl ?_)
 intro b11 w12 hb13 H14 e15 _
 have g16 : w.heap.size ≤ b11 := Nat.le_trans hB.size (Nat.le_of_eq hb13.symm)
 clear hb13
 replace hB := below_ext hB e15
 replace H8 := H8.ext e15
 clear e15
 refine XO.do rfl (D.asn (v := .bool false) rfl rfl ?_)
 refine XO.nil ?_
 refine hM4 _ _ ?_
 refine X.seq fun M17 hM18 => ?_
 refine X.region ?_
 refine XO.do rfl (D.fieldAddr (o' := 0) fa25_0 rfl rfl rfl ?_)
 refine XO.do rfl (D.load (j := 0) (v := S a1.name) sc9 H8.cs rfl rfl rfl rfl ?_)
 refine XO.do rfl (D.fieldAddr (o' := 0) fa25_0 rfl rfl rfl ?_)
 refine XO.do rfl (D.load (j := 0) (v := S a2.name) sc9 H14.cs rfl rfl rfl rfl ?_)
 refine XO.do rfl (D.eqlS rfl rfl rfl ?_)
 refine XO.do rfl (D.mv (v := .bool (a1.name == a2.name)) rfl rfl ?_)
 by_cases c19 : a1.name = a2.name
 ·rw [if_pos c19] at h
  refine XO.do (wantG (j := 5) (b := true) rfl (beq_iff_eq.2 c19) rfl) (D.fieldAddr (o' := 1) fa25_1 rfl rfl rfl ?_)
  refine XO.do (wantG (j := 5) (b := true) rfl (beq_iff_eq.2 c19) rfl) (D.load (j := 1) (v := .int .u16 a1.ty) sc22 H8.cs rfl rfl rfl rfl ?_)
  refine XO.do (wantG (j := 5) (b := true) rfl (beq_iff_eq.2 c19) rfl) (D.fieldAddr (o' := 1) fa25_1 rfl rfl rfl ?_)
  refine XO.do (wantG (j := 5) (b := true) rfl (beq_iff_eq.2 c19) rfl) (D.load (j := 1) (v := .int .u16 a2.ty) sc22 H14.cs rfl rfl rfl rfl ?_)
  refine XO.do (wantG (j := 5) (b := true) rfl (beq_iff_eq.2 c19) rfl) (D.eql rfl rfl rfl ?_)
  refine XO.do rfl (D.pick true (v := .bool (a1.ty == a2.ty)) (congrArg Value.bool (beq_iff_eq.2 c19)) rfl rfl ?_)
  refine XO.do rfl (D.mv (v := .bool (a1.ty == a2.ty)) rfl rfl ?_)
  by_cases c20 : a1.ty = a2.ty
  ·rw [if_pos c20] at h
   refine XO.do (wantG (j := 12) (b := true) rfl (beq_iff_eq.2 c20) rfl) (D.fieldAddr (o' := 2) fa25_2 rfl rfl rfl ?_)
   refine XO.do (wantG (j := 12) (b := true) rfl (beq_iff_eq.2 c20) rfl) (D.load (j := 2) (v := .int .u16 a1.cls) sc22 H8.cs rfl rfl rfl rfl ?_)
   refine XO.do (wantG (j := 12) (b := true) rfl (beq_iff_eq.2 c20) rfl) (D.fieldAddr (o' := 2) fa25_2 rfl rfl rfl ?_)
   refine XO.do (wantG (j := 12) (b := true) rfl (beq_iff_eq.2 c20) rfl) (D.load (j := 2) (v := .int .u16 a2.cls) sc22 H14.cs rfl rfl rfl rfl ?_)
   refine XO.do (wantG (j := 12) (b := true) rfl (beq_iff_eq.2 c20) rfl) (D.eql rfl rfl rfl ?_)
   refine XO.do rfl (D.pick true (v := .bool (a1.cls == a2.cls)) (congrArg Value.bool (beq_iff_eq.2 c20)) rfl rfl ?_)
   refine XO.do rfl (D.mv (v := .bool (a1.cls == a2.cls)) rfl rfl ?_)
   by_cases c21 : a1.cls = a2.cls
   ·rw [if_pos c21] at h
    refine XO.do (wantG (j := 19) (b := true) rfl (beq_iff_eq.2 c21) rfl) (D.fieldAddr (o' := 4) fa25_4 rfl rfl rfl ?_)
    refine XO.do (wantG (j := 19) (b := true) rfl (beq_iff_eq.2 c21) rfl) (D.load (j := 4) (v := S a1.data) sc9 H8.cs rfl rfl rfl rfl ?_)
    refine XO.do (wantG (j := 19) (b := true) rfl (beq_iff_eq.2 c21) rfl) (D.fieldAddr (o' := 4) fa25_4 rfl rfl rfl ?_)
    refine XO.do (wantG (j := 19) (b := true) rfl (beq_iff_eq.2 c21) rfl) (D.load (j := 4) (v := S a2.data) sc9 H14.cs rfl rfl rfl rfl ?_)
    refine XO.do (wantG (j := 19) (b := true) rfl (beq_iff_eq.2 c21) rfl) (D.eqlS rfl rfl rfl ?_)
    refine XO.do rfl (D.pick true (v := .bool (a1.data == a2.data)) (congrArg Value.bool (beq_iff_eq.2 c21)) rfl rfl ?_)
    refine XO.do rfl (D.asn (v := .bool (a1.data == a2.data)) rfl rfl ?_)
    refine XO.nil ?_
    refine hM18 _ _ ?_
    refine X.ret ?_
    subst h
    exact hR _ _ _ (ret1 (v := .bool (a1.data == a2.data)) rfl rfl) ⟨rfl, ext_of_below hB⟩
   ·rw [if_neg c21] at h
    refine XO.off (wantG0 (j := 19) (b := true) rfl (beq_eq_false_iff_ne.2 c21) rfl) rfl rfl ?_
    refine XO.off (wantG0 (j := 19) (b := true) rfl (beq_eq_false_iff_ne.2 c21) rfl) rfl rfl ?_
    refine XO.off (wantG0 (j := 19) (b := true) rfl (beq_eq_false_iff_ne.2 c21) rfl) rfl rfl ?_
    refine XO.off (wantG0 (j := 19) (b := true) rfl (beq_eq_false_iff_ne.2 c21) rfl) rfl rfl ?_
    refine XO.off (wantG0 (j := 19) (b := true) rfl (beq_eq_false_iff_ne.2 c21) rfl) rfl rfl ?_
    refine XO.do rfl (D.pick false (v := .bool false) (congrArg Value.bool (beq_eq_false_iff_ne.2 c21)) rfl rfl ?_)
    refine XO.do rfl (D.asn (v := .bool false) rfl rfl ?_)
    refine XO.nil ?_
    refine hM18 _ _ ?_
    refine X.ret ?_
    subst h
    exact hR _ _ _ (ret1 (v := .bool false) rfl rfl) ⟨rfl, ext_of_below hB⟩
  ·rw [if_neg c20] at h
   refine XO.off (wantG0 (j := 12) (b := true) rfl (beq_eq_false_iff_ne.2 c20) rfl) rfl rfl ?_
   refine XO.off (wantG0 (j := 12) (b := true) rfl (beq_eq_false_iff_ne.2 c20) rfl) rfl rfl ?_
   refine XO.off (wantG0 (j := 12) (b := true) rfl (beq_eq_false_iff_ne.2 c20) rfl) rfl rfl ?_
   refine XO.off (wantG0 (j := 12) (b := true) rfl (beq_eq_false_iff_ne.2 c20) rfl) rfl rfl ?_
   refine XO.off (wantG0 (j := 12) (b := true) rfl (beq_eq_false_iff_ne.2 c20) rfl) rfl rfl ?_
   refine XO.do rfl (D.pick false (v := .bool false) (congrArg Value.bool (beq_eq_false_iff_ne.2 c20)) rfl rfl ?_)
   refine XO.do rfl (D.mv (v := .bool false) rfl rfl ?_)
   refine XO.off (wantG0 (j := 19) (b := true) rfl (rfl) rfl) rfl rfl ?_
   refine XO.off (wantG0 (j := 19) (b := true) rfl (rfl) rfl) rfl rfl ?_
   refine XO.off (wantG0 (j := 19) (b := true) rfl (rfl) rfl) rfl rfl ?_
   refine XO.off (wantG0 (j := 19) (b := true) rfl (rfl) rfl) rfl rfl ?_
   refine XO.off (wantG0 (j := 19) (b := true) rfl (rfl) rfl) rfl rfl ?_
   refine XO.do rfl (D.pick false (v := .bool false) (congrArg Value.bool (rfl)) rfl rfl ?_)
   refine XO.do rfl (D.asn (v := .bool false) rfl rfl ?_)
   refine XO.nil ?_
   refine hM18 _ _ ?_
   refine X.ret ?_
   subst h
   exact hR _ _ _ (ret1 (v := .bool false) rfl rfl) ⟨rfl, ext_of_below hB⟩
 ·rw [if_neg c19] at h
  refine XO.off (wantG0 (j := 5) (b := true) rfl (beq_eq_false_iff_ne.2 c19) rfl) rfl rfl ?_
  refine XO.off (wantG0 (j := 5) (b := true) rfl (beq_eq_false_iff_ne.2 c19) rfl) rfl rfl ?_
  refine XO.off (wantG0 (j := 5) (b := true) rfl (beq_eq_false_iff_ne.2 c19) rfl) rfl rfl ?_
  refine XO.off (wantG0 (j := 5) (b := true) rfl (beq_eq_false_iff_ne.2 c19) rfl) rfl rfl ?_
  refine XO.off (wantG0 (j := 5) (b := true) rfl (beq_eq_false_iff_ne.2 c19) rfl) rfl rfl ?_
  refine XO.do rfl (D.pick false (v := .bool false) (congrArg Value.bool (beq_eq_false_iff_ne.2 c19)) rfl rfl ?_)
  refine XO.do rfl (D.mv (v := .bool false) rfl rfl ?_)
  refine XO.off (wantG0 (j := 12) (b := true) rfl (rfl) rfl) rfl rfl ?_
  refine XO.off (wantG0 (j := 12) (b := true) rfl (rfl) rfl) rfl rfl ?_
  refine XO.off (wantG0 (j := 12) (b := true) rfl (rfl) rfl) rfl rfl ?_
  refine XO.off (wantG0 (j := 12) (b := true) rfl (rfl) rfl) rfl rfl ?_
  refine XO.off (wantG0 (j := 12) (b := true) rfl (rfl) rfl) rfl rfl ?_
  refine XO.do rfl (D.pick false (v := .bool false) (congrArg Value.bool (rfl)) rfl rfl ?_)
  refine XO.do rfl (D.mv (v := .bool false) rfl rfl ?_)
  refine XO.off (wantG0 (j := 19) (b := true) rfl (rfl) rfl) rfl rfl ?_
  refine XO.off (wantG0 (j := 19) (b := true) rfl (rfl) rfl) rfl rfl ?_
  refine XO.off (wantG0 (j := 19) (b := true) rfl (rfl) rfl) rfl rfl ?_
  refine XO.off (wantG0 (j := 19) (b := true) rfl (rfl) rfl) rfl rfl ?_
  refine XO.off (wantG0 (j := 19) (b := true) rfl (rfl) rfl) rfl rfl ?_
  refine XO.do rfl (D.pick false (v := .bool false) (congrArg Value.bool (rfl)) rfl rfl ?_)
  refine XO.do rfl (D.asn (v := .bool false) rfl rfl ?_)
  refine XO.nil ?_
  refine hM18 _ _ ?_
  refine X.ret ?_
  subst h
  exact hR _ _ _ (ret1 (v := .bool false) rfl rfl) ⟨rfl, ext_of_below hB⟩
theorem derrickref05_Same.ok (a1 : RR) (a2 : RR)  (w : World)  :
  Ret Try.prog 25 ([.agg #[S a1.name, .int .u16 a1.ty, .int .u16 a1.cls, .int .u32 a1.ttl, S a1.data], .agg #[S a2.name, .int .u16 a2.ty, .int .u16 a2.cls, .int .u32 a2.ttl, S a2.data]] : List Value).toArray w fun v w' => v = .bool (derrickref05_Same a1 a2) ∧ Ext w w' := derrickref05_Same.walk a1 a2  w  _ rfl
end Go.Proofs.Ytfcaekghpkpjdaa.K
