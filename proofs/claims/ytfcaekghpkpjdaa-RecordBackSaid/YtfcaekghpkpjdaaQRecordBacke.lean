/- The row of RecordBack: whatever its arguments are, it returns true, and they read as they did. -/
import Derived.Test.YtfcaekghpkpjdaaProg
import Derived.Test.YtfcaekghpkpjdaaQRecordBackd
/- Walks, printed by a program of this session. -/
namespace Go.Proofs.Ytfcaekghpkpjdaa.K
open Go Go.RowKit Go.Proofs
set_option linter.unusedVariables false
set_option maxRecDepth 100000
set_option maxHeartbeats 4000000
namespace FEQ
theorem ti30 : TI Try.prog 30 (.agg #[S [], .int .u16 0, .int .u16 0]) 3 24 := by unfold TI; kernel_rfl
theorem ag30 : Agg Try.prog 30 3 := agg Try.underlying30 rfl ti30
theorem ti9 : TI Try.prog 9 (S []) 1 16 := by unfold TI; kernel_rfl
theorem ti22 : TI Try.prog 22 (.int .u16 0) 1 2 := by unfold TI; kernel_rfl
theorem bld30 : BuildIs Try.prog 30 #[(0, 1), (1, 1), (2, 1)] (Value.cells (.agg #[S [], .int .u16 0, .int .u16 0])) := buildIs Try.underlying30 ti30 (fun w => by simp [ti22.size, ti9.size])
theorem cf44 : Callable Try.prog 44 := callable Try.func44 (by kernel_rfl) rfl
theorem cf60 : Callable Try.prog 60 := callable Try.func60 (by kernel_rfl) rfl
theorem sz30 : ∀ w, (sizeOf 30).run Try.prog w = .ok 3 w := fun w => ti30.size w
end FEQ
open FEQ

theorem record_reader_question.walk (a2 : Rd) (b1 : Nat) (w : World) (H3 : Blk w b1 [S a2.s, .int .i64 a2.at_, .bool a2.bad] 78) (res : Question × Rd) (h : record_reader_question.f a2 = some res) :
    Ret Try.prog 41 ([pt b1 0] : List Value).toArray w fun v w' => v = .agg #[S res.1.name, .int .u16 res.1.ty, .int .u16 res.1.cls] ∧ Blk w' b1 [S res.2.s, .int .i64 res.2.at_, .bool res.2.bad] 78 ∧ GrM w w' (MB b1) := by
  unfold record_reader_question.f at h
  refine enterX Try.func41 rfl Try.ntmps41 rfl (fun R hR => ?_)
  have hB := GrM.refl w (MB b1)
  refine X.seq fun M5 hM6 => ?_
  refine X.region ?_
  refine XO.do rfl (D.alloc ti30 (cs := [S [], .int .u16 0, .int .u16 0]) rfl rfl ?_)
  intro b7 w8 hb9 H10 e11 _
  have lt_4_12 : ∀ x, MB b1 x → x < b7 := (MB.lt H3 (Nat.le_of_eq hb9.symm))
  have g12 : w.heap.size ≤ b7 := Nat.le_trans hB.size (Nat.le_of_eq hb9.symm)
  clear hb9
  replace hB := gm_ext hB e11
  replace H3 := H3.ext e11
  clear e11
  refine XO.nil ?_
  refine hM6 _ _ ?_
  refine X.seq fun M13 hM14 => ?_
  refine X.region ?_
  refine XO.do rfl (D.mv (v := pt b1 0) rfl rfl ?_)
  rcases (Classical.em (record_take_string.pre a2)).symm with c15 | c15
  · rw [if_neg c15] at h; cases h
  rw [if_pos c15] at h
  obtain ⟨r19, q20, h⟩ := lt_elim h
  have hc18 := record_take_string.ok a2 b1 w8 H3 c15 
  rw [q20] at hc18
  clear q20
  refine XO.do rfl (D.call (vs := [pt b1 0, .func (.func 61) #[] #[]]) cf60 hc18 rfl rfl ?_)
  rintro _ w21 ⟨rfl, H22, e23⟩
  clear hc18
  replace hB := hB.step e23 (fun x hx => .inl hx)
  replace H10 := H10.gm e23 (sepM (ne_flip (ne_of lt_4_12 (MB.ge b7))))
  clear e23 H3
  refine XO.do rfl (D.asn (v := S r19.1) rfl rfl ?_)
  refine XO.nil ?_
  refine hM14 _ _ ?_
  refine X.seq fun M26 hM27 => ?_
  refine X.region ?_
  refine XO.do rfl (D.mv (v := pt b1 0) rfl rfl ?_)
  rcases (Classical.em (record_take_uint16.pre r19.2)).symm with c28 | c28
  · rw [if_neg c28] at h; cases h
  rw [if_pos c28] at h
  obtain ⟨r32, q33, h⟩ := lt_elim h
  have hc31 := record_take_uint16.ok r19.2 b1 w21 H22 c28 
  rw [q33] at hc31
  clear q33
  refine XO.do rfl (D.call (vs := [pt b1 0, .func (.func 45) #[] #[]]) cf44 hc31 rfl rfl ?_)
  rintro _ w34 ⟨rfl, H35, e36⟩
  clear hc31
  replace hB := hB.step e36 (fun x hx => .inl hx)
  replace H10 := H10.gm e36 (sepM (ne_flip (ne_of lt_4_12 (MB.ge b7))))
  clear e36 H22
  refine XO.do rfl (D.asn (v := .int .u16 r32.1) rfl rfl ?_)
  refine XO.nil ?_
  refine hM27 _ _ ?_
  refine X.seq fun M39 hM40 => ?_
  refine X.region ?_
  refine XO.do rfl (D.mv (v := S r19.1) rfl rfl ?_)
  refine XO.do rfl (D.mv (v := .int .u16 r32.1) rfl rfl ?_)
  refine XO.do rfl (D.mv (v := pt b1 0) rfl rfl ?_)
  rcases (Classical.em (record_take_uint16.pre r32.2)).symm with c41 | c41
  · rw [if_neg c41] at h; cases h
  rw [if_pos c41] at h
  obtain ⟨r45, q46, h⟩ := lt_elim h
  have hc44 := record_take_uint16.ok r32.2 b1 w34 H35 c41 
  rw [q46] at hc44
  clear q46
  refine XO.do rfl (D.call (vs := [pt b1 0, .func (.func 45) #[] #[]]) cf44 hc44 rfl rfl ?_)
  rintro _ w47 ⟨rfl, H48, e49⟩
  clear hc44
  replace hB := hB.step e49 (fun x hx => .inl hx)
  replace H10 := H10.gm e49 (sepM (ne_flip (ne_of lt_4_12 (MB.ge b7))))
  clear e49 H35
  refine XO.do rfl (D.build (vs := [(0, S r19.1), (1, .int .u16 r32.1), (2, .int .u16 r45.1)]) (cs := [S r19.1, .int .u16 r32.1, .int .u16 r45.1]) bld30 rfl rfl rfl ?_)
  refine XO.do rfl (D.store (v := .agg #[S r19.1, .int .u16 r32.1, .int .u16 r45.1]) (us := [S r19.1, .int .u16 r32.1, .int .u16 r45.1]) sz30 H10 rfl rfl rfl rfl rfl rfl ?_)
  intro w52 H53 e54
  replace hB := gm_blk hB e54 g12
  replace H48 := H48.gr e54 (sepB (ne_of lt_4_12 (MB.ge b7)))
  clear e54
  refine XO.nil ?_
  refine hM40 _ _ ?_
  refine X.ret ?_
  injection h with h
  subst h
  exact hR _ _ _ (retC ag30 H53 rfl rfl rfl) ⟨rfl, H48, hB⟩
theorem record_reader_question.ok (a2 : Rd) (b1 : Nat) (w : World) (H3 : Blk w b1 [S a2.s, .int .i64 a2.at_, .bool a2.bad] 78) (hp : record_reader_question.pre a2) :
    Ret Try.prog 41 ([pt b1 0] : List Value).toArray w fun v w' => v = .agg #[S ((record_reader_question a2).1.name), .int .u16 ((record_reader_question a2).1.ty), .int .u16 ((record_reader_question a2).1.cls)] ∧ Blk w' b1 [S ((record_reader_question a2).2.s), .int .i64 ((record_reader_question a2).2.at_), .bool ((record_reader_question a2).2.bad)] 78 ∧ GrM w w' (MB b1) := by
  have h := record_reader_question.eq a2 hp
  exact record_reader_question.walk  a2 b1 w H3 _ h
end Go.Proofs.Ytfcaekghpkpjdaa.K

/- Walks, printed by a program of this session. -/
namespace Go.Proofs.Ytfcaekghpkpjdaa.K
open Go Go.RowKit Go.Proofs
set_option linter.unusedVariables false
set_option maxRecDepth 100000
set_option maxHeartbeats 4000000
namespace FE3
theorem ti25 : TI Try.prog 25 (.agg #[S [], .int .u16 0, .int .u16 0, .int .u32 0, S []]) 5 40 := by unfold TI; kernel_rfl
theorem ag25 : Agg Try.prog 25 5 := agg Try.underlying25 rfl ti25
theorem ti30 : TI Try.prog 30 (.agg #[S [], .int .u16 0, .int .u16 0]) 3 24 := by unfold TI; kernel_rfl
theorem ag30 : Agg Try.prog 30 3 := agg Try.underlying30 rfl ti30
theorem ti9 : TI Try.prog 9 (S []) 1 16 := by unfold TI; kernel_rfl
theorem ti22 : TI Try.prog 22 (.int .u16 0) 1 2 := by unfold TI; kernel_rfl
theorem ti23 : TI Try.prog 23 (.int .u32 0) 1 4 := by unfold TI; kernel_rfl
theorem bld25 : BuildIs Try.prog 25 #[(0, 1), (1, 1), (2, 1), (3, 1), (4, 1)] (Value.cells (.agg #[S [], .int .u16 0, .int .u16 0, .int .u32 0, S []])) := buildIs Try.underlying25 ti25 (fun w => by simp [ti22.size, ti23.size, ti9.size])
theorem bld30 : BuildIs Try.prog 30 #[(0, 1), (1, 1), (2, 1)] (Value.cells (.agg #[S [], .int .u16 0, .int .u16 0])) := buildIs Try.underlying30 ti30 (fun w => by simp [ti22.size, ti9.size])
theorem ti78 : TI Try.prog 78 (.agg #[S [], .int .i64 0, .bool false]) 3 32 := by unfold TI; kernel_rfl
theorem ti3 : TI Try.prog 3 (.int .i64 0) 1 8 := by unfold TI; kernel_rfl
theorem ti4 : TI Try.prog 4 (.bool false) 1 1 := by unfold TI; kernel_rfl
theorem bld78 : BuildIs Try.prog 78 #[(0, 1), (1, 1), (2, 1)] (Value.cells (.agg #[S [], .int .i64 0, .bool false])) := buildIs Try.underlying78 ti78 (fun w => by simp [ti3.size, ti4.size, ti9.size])
theorem cf41 : Callable Try.prog 41 := callable Try.func41 (by kernel_rfl) rfl
theorem cf42 : Callable Try.prog 42 := callable Try.func42 (by kernel_rfl) rfl
theorem cf44 : Callable Try.prog 44 := callable Try.func44 (by kernel_rfl) rfl
theorem cf46 : Callable Try.prog 46 := callable Try.func46 (by kernel_rfl) rfl
theorem fa30_0 : FA Try.prog 30 0 0 := fa Try.underlying30 rfl ti9 rfl rfl
theorem fa30_1 : FA Try.prog 30 1 1 := fa Try.underlying30 rfl ti22 rfl rfl
theorem fa30_2 : FA Try.prog 30 2 2 := fa Try.underlying30 rfl ti22 rfl rfl
theorem fa78_1 : FA Try.prog 78 1 1 := fa Try.underlying78 rfl ti3 rfl rfl
theorem fa78_2 : FA Try.prog 78 2 2 := fa Try.underlying78 rfl ti4 rfl rfl
theorem mixed0 : Try.prog.follows .mixedOrders = true := by kernel_rfl
theorem sc22 : Sca Try.prog 22 := sca Try.underlying22 rfl
theorem sc3 : Sca Try.prog 3 := sca Try.underlying3 rfl
theorem sc4 : Sca Try.prog 4 := sca Try.underlying4 rfl
theorem sc9 : Sca Try.prog 9 := sca Try.underlying9 rfl
theorem sz25 : ∀ w, (sizeOf 25).run Try.prog w = .ok 5 w := fun w => ti25.size w
theorem sz30 : ∀ w, (sizeOf 30).run Try.prog w = .ok 3 w := fun w => ti30.size w
end FE3
open FE3

theorem record_TakeQ.walk (a1 : Str) (a2 : Int)  (w : World)  (res : Question × Int × Int) (h : record_TakeQ.f a1 a2 = some res) :
    Ret Try.prog 20 ([S a1, .int .i64 a2] : List Value).toArray w fun v w' => v = .tuple #[.agg #[S res.1.name, .int .u16 res.1.ty, .int .u16 res.1.cls], .int .i64 res.2.1, .int .i64 res.2.2] ∧ Ext w w' := by
  unfold record_TakeQ.f at h
  refine enterX Try.func20 rfl Try.ntmps20 rfl (fun R hR => ?_)
  have hB := Below.refl w.heap.size w
  refine X.seq fun M3 hM4 => ?_
  refine X.region ?_
  refine XO.do rfl (D.alloc ti30 (cs := [S [], .int .u16 0, .int .u16 0]) rfl rfl ?_)
  intro b5 w6 hb7 H8 e9 _
  have g10 : w.heap.size ≤ b5 := Nat.le_trans hB.size (Nat.le_of_eq hb7.symm)
  clear hb7
  replace hB := below_ext hB e9
  clear e9
  refine XO.do rfl (D.asn (v := .int .i64 0) rfl rfl ?_)
  refine XO.do rfl (D.asn (v := .int .i64 0) rfl rfl ?_)
  refine XO.nil ?_
  refine hM4 _ _ ?_
  refine X.seq fun M11 hM12 => ?_
  refine X.region ?_
  refine XO.do rfl (D.mv (v := S a1) rfl rfl ?_)
  refine XO.do rfl (D.mv (v := .int .i64 a2) rfl rfl ?_)
  refine XO.do rfl (D.build (vs := [(0, S a1), (1, .int .i64 a2)]) (cs := [S a1, .int .i64 a2, .bool false]) bld78 rfl rfl rfl ?_)
  refine XO.do rfl (D.box (v := .agg #[S a1, .int .i64 a2, .bool false]) (cs := [S a1, .int .i64 a2, .bool false]) rfl rfl rfl ?_)
  intro b13 w14 hb15 H16 e17 _
  have lt_10_18 : ∀ x, MB b5 x → x < b13 := (MB.lt H8 (Nat.le_of_eq hb15.symm))
  have g18 : w.heap.size ≤ b13 := Nat.le_trans hB.size (Nat.le_of_eq hb15.symm)
  clear hb15
  replace hB := below_ext hB e17
  replace H8 := H8.ext e17
  clear e17
  refine XO.do rfl (D.asn (v := pt b13 0) rfl rfl ?_)
  refine XO.nil ?_
  refine hM12 _ _ ?_
  refine X.seq fun M19 hM20 => ?_
  refine X.region ?_
  refine XO.do rfl (D.mv (v := pt b13 0) rfl rfl ?_)
  rcases (Classical.em (record_reader_question.pre (⟨a1, a2, false⟩ : Rd))).symm with c21 | c21
  · rw [if_neg c21] at h; cases h
  rw [if_pos c21] at h
  obtain ⟨r25, q26, h⟩ := lt_elim h
  have hc24 := record_reader_question.ok (⟨a1, a2, false⟩ : Rd) b13 w14 H16 c21 
  rw [q26] at hc24
  clear q26
  refine XO.do rfl (D.call (vs := [pt b13 0]) cf41 hc24 rfl rfl ?_)
  rintro _ w27 ⟨rfl, H28, e29⟩
  clear hc24
  replace hB := below_gm hB e29 (ge_blk g18)
  replace H8 := H8.gm e29 (sepM (ne_of lt_10_18 (MB.ge b13)))
  clear e29 H16
  refine XO.do rfl (D.alloc ti30 (cs := [S [], .int .u16 0, .int .u16 0]) rfl rfl ?_)
  intro b32 w33 hb34 H35 e36 _
  have lt_10_37 : ∀ x, MB b5 x → x < b32 := (MB.lt H8 (Nat.le_of_eq hb34.symm))
  have lt_18_37 : ∀ x, MB b13 x → x < b32 := (MB.lt H28 (Nat.le_of_eq hb34.symm))
  have g37 : w.heap.size ≤ b32 := Nat.le_trans hB.size (Nat.le_of_eq hb34.symm)
  clear hb34
  replace hB := below_ext hB e36
  replace H8 := H8.ext e36
  replace H28 := H28.ext e36
  clear e36
  refine XO.do rfl (D.store (v := .agg #[S r25.1.name, .int .u16 r25.1.ty, .int .u16 r25.1.cls]) (us := [S r25.1.name, .int .u16 r25.1.ty, .int .u16 r25.1.cls]) sz30 H35 rfl rfl rfl rfl rfl rfl ?_)
  intro w38 H39 e40
  replace hB := below_blk hB e40 g37
  replace H8 := H8.gr e40 (sepB (ne_of lt_10_37 (MB.ge b32)))
  replace H28 := H28.gr e40 (sepB (ne_of lt_18_37 (MB.ge b32)))
  clear e40
  refine XO.nil ?_
  refine hM20 _ _ ?_
  refine X.seq fun M49 hM50 => ?_
  refine X.seq fun M51 hM52 => ?_
  refine X.region ?_
  refine XO.do rfl (D.mv (v := pt b13 0) rfl rfl ?_)
  refine XO.do rfl (D.nilCheck rfl rfl ?_)
  refine XO.do rfl (D.fieldAddr (o' := 2) fa78_2 rfl rfl rfl ?_)
  refine XO.do rfl (D.load (j := 2) (v := .bool r25.2.bad) sc4 H28.cs rfl rfl rfl rfl ?_)
  refine XO.nil ?_
  refine hM52 _ _ ?_
  by_cases c53 : r25.2.bad = true
  · rw [if_pos c53] at h
    refine X.condT (congrArg Value.bool (c53)) ?_
    refine X.seq fun M54 hM55 => ?_
    refine X.region ?_
    refine XO.do rfl (D.build (vs := []) (cs := [S [], .int .u16 0, .int .u16 0]) bld30 rfl rfl rfl ?_)
    refine XO.do rfl (D.store (v := .agg #[S [], .int .u16 0, .int .u16 0]) (us := [S [], .int .u16 0, .int .u16 0]) sz30 H8 rfl rfl rfl rfl rfl rfl ?_)
    intro w56 H57 e58
    replace hB := below_blk hB e58 g10
    replace H28 := H28.gr e58 (sepB (ne_flip (ne_of lt_10_18 (MB.ge b13))))
    replace H39 := H39.gr e58 (sepB (ne_flip (ne_of lt_10_37 (MB.ge b32))))
    clear e58
    refine XO.do rfl (D.asn (v := .int .i64 0) rfl rfl ?_)
    refine XO.do rfl (D.asn (v := .int .i64 2) rfl rfl ?_)
    refine XO.nil ?_
    refine hM55 _ _ ?_
    refine X.ret ?_
    injection h with h
    subst h
    exact hR _ _ _ (retCTT ag30 H57 rfl rfl rfl rfl rfl) ⟨rfl, ext_of_below hB⟩
  · rw [if_neg c53] at h
    refine X.condF (congrArg Value.bool ((Bool.eq_false_iff.2 c53))) ?_
    refine X.skip ?_
    refine hM50 _ _ ?_
    refine X.seq fun M59 hM60 => ?_
    refine X.tree mixed0 [0, 0, 2, 6, 14, 1, 63, 127] (.q 0 (.q 1 (.q 2 (.q 3 (.q 4 (.alt 5 (.q 6 (.q 7 .nil)) .nil)))))) (fun w' => Below w.heap.size w w' ∧ Blk w' b13 [S r25.2.s, .int .i64 r25.2.at_, .bool r25.2.bad] 78 ∧ Blk w' b32 [S r25.1.name, .int .u16 r25.1.ty, .int .u16 r25.1.cls] 30) (fun w' => Below w.heap.size w w' ∧ Blk w' b5 [S [], .int .u16 0, .int .u16 0] 30 ∧ Blk w' b13 [S r25.2.s, .int .i64 r25.2.at_, .bool r25.2.bad] 78 ∧ Blk w' b32 [S r25.1.name, .int .u16 r25.1.ty, .int .u16 r25.1.cls] 30) (by decide +kernel) (fun w' hx _ => ⟨below_ext hB hx, H8.ext hx, H28.ext hx, H39.ext hx⟩) (fun a b hC hx => by obtain ⟨hB, H8, H28, H39⟩ := hC; exact ⟨below_ext hB hx, H8.ext hx, H28.ext hx, H39.ext hx⟩) (fun a hC => by obtain ⟨hB, H8, H28, H39⟩ := hC; exact ⟨hB, H28, H39⟩) ?_
    refine QT.do (v := .agg #[S r25.1.name, .int .u16 r25.1.ty, .int .u16 r25.1.cls]) rfl (by decide +kernel) rfl rfl rfl (fun w' hJ => by obtain ⟨hB, H8, H28, H39⟩ := hJ; exact D.loadA (j := 0) (us := [S r25.1.name, .int .u16 r25.1.ty, .int .u16 r25.1.cls]) ag30 H39.cs rfl rfl rfl rfl rfl ⟨rfl, Ext.refl _⟩) ?_
    refine QT.late (v := pt b13 0) rfl rfl rfl rfl (fun w' hJ => by obtain ⟨hB, H28, H39⟩ := hJ; exact D.mv (v := pt b13 0) rfl rfl ⟨rfl, Ext.refl _⟩) ?_
    refine QT.late (v := pt b13 0) rfl rfl rfl rfl (fun w' hJ => by obtain ⟨hB, H28, H39⟩ := hJ; exact D.nilCheck rfl rfl ⟨rfl, Ext.refl _⟩) ?_
    refine QT.late (v := pt b13 1) rfl rfl rfl rfl (fun w' hJ => by obtain ⟨hB, H28, H39⟩ := hJ; exact D.fieldAddr (o' := 1) fa78_1 rfl rfl rfl ⟨rfl, Ext.refl _⟩) ?_
    refine QT.late (v := .int .i64 r25.2.at_) rfl rfl rfl rfl (fun w' hJ => by obtain ⟨hB, H28, H39⟩ := hJ; exact D.load (j := 1) (v := .int .i64 r25.2.at_) sc3 H28.cs rfl rfl rfl rfl ⟨rfl, Ext.refl _⟩) ?_
    refine QT.eff rfl rfl (fun w65 hC => ?_) QT.nomore
    obtain ⟨hB, H8, H28, H39⟩ := hC
    refine D.store (v := .agg #[S r25.1.name, .int .u16 r25.1.ty, .int .u16 r25.1.cls]) (us := [S r25.1.name, .int .u16 r25.1.ty, .int .u16 r25.1.cls]) sz30 H8 rfl rfl rfl rfl rfl rfl ?_
    intro w66 H67 e68
    replace hB := below_blk hB e68 g10
    replace H28 := H28.gr e68 (sepB (ne_flip (ne_of lt_10_18 (MB.ge b13))))
    replace H39 := H39.gr e68 (sepB (ne_flip (ne_of lt_10_37 (MB.ge b32))))
    clear e68
    refine ⟨undef, rfl, (fun w' => Below w.heap.size w w' ∧ Blk w' b5 [S r25.1.name, .int .u16 r25.1.ty, .int .u16 r25.1.cls] 30 ∧ Blk w' b13 [S r25.2.s, .int .i64 r25.2.at_, .bool r25.2.bad] 78 ∧ Blk w' b32 [S r25.1.name, .int .u16 r25.1.ty, .int .u16 r25.1.cls] 30), ⟨hB, H67, H28, H39⟩, (fun a b hC hx => by obtain ⟨hB, H67, H28, H39⟩ := hC; exact ⟨below_ext hB hx, H67.ext hx, H28.ext hx, H39.ext hx⟩), (fun a hC => by obtain ⟨hB, H67, H28, H39⟩ := hC; exact ⟨hB, H28, H39⟩), ?_⟩
    refine QT.do (v := .int .i64 r25.2.at_) rfl (by decide +kernel) rfl rfl rfl (fun w' hJ => by obtain ⟨hB, H67, H28, H39⟩ := hJ; exact D.asn (v := .int .i64 r25.2.at_) rfl rfl ⟨rfl, Ext.refl _⟩) ?_
    refine QT.do (v := .int .i64 0) rfl (by decide +kernel) rfl rfl rfl (fun w' hJ => by obtain ⟨hB, H67, H28, H39⟩ := hJ; exact D.asn (v := .int .i64 0) rfl rfl ⟨rfl, Ext.refl _⟩) ?_
    refine QT.nil fun w69 hC => ?_
    obtain ⟨hB, H67, H28, H39⟩ := hC
    refine hM60 _ _ ?_
    refine X.ret ?_
    injection h with h
    subst h
    exact hR _ _ _ (retCTT ag30 H67 rfl rfl rfl rfl rfl) ⟨rfl, ext_of_below hB⟩
theorem record_TakeQ.ok (a1 : Str) (a2 : Int)  (w : World)  (hp : record_TakeQ.pre a1 a2) :
    Ret Try.prog 20 ([S a1, .int .i64 a2] : List Value).toArray w fun v w' => v = .tuple #[.agg #[S ((record_TakeQ a1 a2).1.name), .int .u16 ((record_TakeQ a1 a2).1.ty), .int .u16 ((record_TakeQ a1 a2).1.cls)], .int .i64 ((record_TakeQ a1 a2).2.1), .int .i64 ((record_TakeQ a1 a2).2.2)] ∧ Ext w w' := by
  have h := record_TakeQ.eq a1 a2 hp
  exact record_TakeQ.walk  a1 a2  w  _ h

theorem record_Take.walk (a1 : Str) (a2 : Int)  (w : World)  (res : RR × Int × Int) (h : record_Take.f a1 a2 = some res) :
    Ret Try.prog 18 ([S a1, .int .i64 a2] : List Value).toArray w fun v w' => v = .tuple #[.agg #[S res.1.name, .int .u16 res.1.ty, .int .u16 res.1.cls, .int .u32 res.1.ttl, S res.1.data], .int .i64 res.2.1, .int .i64 res.2.2] ∧ Ext w w' := by
  unfold record_Take.f at h
  refine enterX Try.func18 rfl Try.ntmps18 rfl (fun R hR => ?_)
  have hB := Below.refl w.heap.size w
  refine X.seq fun M3 hM4 => ?_
  refine X.region ?_
  refine XO.do rfl (D.alloc ti25 (cs := [S [], .int .u16 0, .int .u16 0, .int .u32 0, S []]) rfl rfl ?_)
  intro b5 w6 hb7 H8 e9 _
  have g10 : w.heap.size ≤ b5 := Nat.le_trans hB.size (Nat.le_of_eq hb7.symm)
  clear hb7
  replace hB := below_ext hB e9
  clear e9
  refine XO.do rfl (D.asn (v := .int .i64 0) rfl rfl ?_)
  refine XO.do rfl (D.asn (v := .int .i64 0) rfl rfl ?_)
  refine XO.nil ?_
  refine hM4 _ _ ?_
  refine X.seq fun M11 hM12 => ?_
  refine X.region ?_
  refine XO.do rfl (D.mv (v := S a1) rfl rfl ?_)
  refine XO.do rfl (D.mv (v := .int .i64 a2) rfl rfl ?_)
  refine XO.do rfl (D.build (vs := [(0, S a1), (1, .int .i64 a2)]) (cs := [S a1, .int .i64 a2, .bool false]) bld78 rfl rfl rfl ?_)
  refine XO.do rfl (D.box (v := .agg #[S a1, .int .i64 a2, .bool false]) (cs := [S a1, .int .i64 a2, .bool false]) rfl rfl rfl ?_)
  intro b13 w14 hb15 H16 e17 _
  have lt_10_18 : ∀ x, MB b5 x → x < b13 := (MB.lt H8 (Nat.le_of_eq hb15.symm))
  have g18 : w.heap.size ≤ b13 := Nat.le_trans hB.size (Nat.le_of_eq hb15.symm)
  clear hb15
  replace hB := below_ext hB e17
  replace H8 := H8.ext e17
  clear e17
  refine XO.do rfl (D.asn (v := pt b13 0) rfl rfl ?_)
  refine XO.nil ?_
  refine hM12 _ _ ?_
  refine X.seq fun M19 hM20 => ?_
  refine X.region ?_
  refine XO.do rfl (D.mv (v := pt b13 0) rfl rfl ?_)
  rcases (Classical.em (record_reader_question.pre (⟨a1, a2, false⟩ : Rd))).symm with c21 | c21
  · rw [if_neg c21] at h; cases h
  rw [if_pos c21] at h
  obtain ⟨r25, q26, h⟩ := lt_elim h
  have hc24 := record_reader_question.ok (⟨a1, a2, false⟩ : Rd) b13 w14 H16 c21 
  rw [q26] at hc24
  clear q26
  refine XO.do rfl (D.call (vs := [pt b13 0]) cf41 hc24 rfl rfl ?_)
  rintro _ w27 ⟨rfl, H28, e29⟩
  clear hc24
  replace hB := below_gm hB e29 (ge_blk g18)
  replace H8 := H8.gm e29 (sepM (ne_of lt_10_18 (MB.ge b13)))
  clear e29 H16
  refine XO.do rfl (D.alloc ti30 (cs := [S [], .int .u16 0, .int .u16 0]) rfl rfl ?_)
  intro b32 w33 hb34 H35 e36 _
  have lt_10_37 : ∀ x, MB b5 x → x < b32 := (MB.lt H8 (Nat.le_of_eq hb34.symm))
  have lt_18_37 : ∀ x, MB b13 x → x < b32 := (MB.lt H28 (Nat.le_of_eq hb34.symm))
  have g37 : w.heap.size ≤ b32 := Nat.le_trans hB.size (Nat.le_of_eq hb34.symm)
  clear hb34
  replace hB := below_ext hB e36
  replace H8 := H8.ext e36
  replace H28 := H28.ext e36
  clear e36
  refine XO.do rfl (D.store (v := .agg #[S r25.1.name, .int .u16 r25.1.ty, .int .u16 r25.1.cls]) (us := [S r25.1.name, .int .u16 r25.1.ty, .int .u16 r25.1.cls]) sz30 H35 rfl rfl rfl rfl rfl rfl ?_)
  intro w38 H39 e40
  replace hB := below_blk hB e40 g37
  replace H8 := H8.gr e40 (sepB (ne_of lt_10_37 (MB.ge b32)))
  replace H28 := H28.gr e40 (sepB (ne_of lt_18_37 (MB.ge b32)))
  clear e40
  refine XO.nil ?_
  refine hM20 _ _ ?_
  refine X.seq fun M41 hM42 => ?_
  refine X.region ?_
  refine XO.do rfl (D.mv (v := pt b13 0) rfl rfl ?_)
  rcases (Classical.em (record_take_uint32.pre r25.2)).symm with c43 | c43
  · rw [if_neg c43] at h; cases h
  rw [if_pos c43] at h
  obtain ⟨r47, q48, h⟩ := lt_elim h
  have hc46 := record_take_uint32.ok r25.2 b13 w38 H28 c43 
  rw [q48] at hc46
  clear q48
  refine XO.do rfl (D.call (vs := [pt b13 0, .func (.func 43) #[] #[]]) cf42 hc46 rfl rfl ?_)
  rintro _ w49 ⟨rfl, H50, e51⟩
  clear hc46
  replace hB := below_gm hB e51 (ge_blk g18)
  replace H8 := H8.gm e51 (sepM (ne_of lt_10_18 (MB.ge b13)))
  replace H39 := H39.gm e51 (sepM (ne_flip (ne_of lt_18_37 (MB.ge b32))))
  clear e51 H28
  refine XO.do rfl (D.asn (v := .int .u32 r47.1) rfl rfl ?_)
  refine XO.nil ?_
  refine hM42 _ _ ?_
  refine X.seq fun M54 hM55 => ?_
  refine X.region ?_
  refine XO.do rfl (D.mv (v := pt b13 0) rfl rfl ?_)
  rcases (Classical.em (record_take_uint16.pre r47.2)).symm with c56 | c56
  · rw [if_neg c56] at h; cases h
  rw [if_pos c56] at h
  obtain ⟨r60, q61, h⟩ := lt_elim h
  have hc59 := record_take_uint16.ok r47.2 b13 w49 H50 c56 
  rw [q61] at hc59
  clear q61
  refine XO.do rfl (D.call (vs := [pt b13 0, .func (.func 45) #[] #[]]) cf44 hc59 rfl rfl ?_)
  rintro _ w62 ⟨rfl, H63, e64⟩
  clear hc59
  replace hB := below_gm hB e64 (ge_blk g18)
  replace H8 := H8.gm e64 (sepM (ne_of lt_10_18 (MB.ge b13)))
  replace H39 := H39.gm e64 (sepM (ne_flip (ne_of lt_18_37 (MB.ge b32))))
  clear e64 H50
  refine XO.do rfl (D.conv Try.underlying22 Try.underlying3 rfl rfl ?_)
  refine XO.do rfl (D.asn (v := .int .i64 (w64 r60.1)) rfl rfl ?_)
  refine XO.nil ?_
  refine hM55 _ _ ?_
  refine X.seq fun M75 hM76 => ?_
  refine X.seq fun M77 hM78 => ?_
  refine X.region ?_
  refine XO.do rfl (D.mv (v := pt b13 0) rfl rfl ?_)
  refine XO.do rfl (D.nilCheck rfl rfl ?_)
  refine XO.do rfl (D.fieldAddr (o' := 2) fa78_2 rfl rfl rfl ?_)
  refine XO.do rfl (D.load (j := 2) (v := .bool r60.2.bad) sc4 H63.cs rfl rfl rfl rfl ?_)
  refine XO.nil ?_
  refine hM78 _ _ ?_
  by_cases c79 : r60.2.bad = true
  · rw [if_pos c79] at h
    refine X.condT (congrArg Value.bool (c79)) ?_
    refine X.seq fun M80 hM81 => ?_
    refine X.region ?_
    refine XO.do rfl (D.build (vs := []) (cs := [S [], .int .u16 0, .int .u16 0, .int .u32 0, S []]) bld25 rfl rfl rfl ?_)
    refine XO.do rfl (D.store (v := .agg #[S [], .int .u16 0, .int .u16 0, .int .u32 0, S []]) (us := [S [], .int .u16 0, .int .u16 0, .int .u32 0, S []]) sz25 H8 rfl rfl rfl rfl rfl rfl ?_)
    intro w82 H83 e84
    replace hB := below_blk hB e84 g10
    replace H63 := H63.gr e84 (sepB (ne_flip (ne_of lt_10_18 (MB.ge b13))))
    replace H39 := H39.gr e84 (sepB (ne_flip (ne_of lt_10_37 (MB.ge b32))))
    clear e84
    refine XO.do rfl (D.asn (v := .int .i64 0) rfl rfl ?_)
    refine XO.do rfl (D.asn (v := .int .i64 2) rfl rfl ?_)
    refine XO.nil ?_
    refine hM81 _ _ ?_
    refine X.ret ?_
    injection h with h
    subst h
    exact hR _ _ _ (retCTT ag25 H83 rfl rfl rfl rfl rfl) ⟨rfl, ext_of_below hB⟩
  · rw [if_neg c79] at h
    refine X.condF (congrArg Value.bool ((Bool.eq_false_iff.2 c79))) ?_
    refine X.skip ?_
    refine hM76 _ _ ?_
    refine X.seq fun M85 hM86 => ?_
    refine X.tree mixed0 [0, 0, 2, 6, 14, 0, 0, 64, 255, 511, 1023, 1023, 2047, 8191] (.q 0 (.q 1 (.q 2 (.q 3 (.q 4 (.q 5 (.q 6 (.q 7 (.q 8 (.q 9 (.q 10 (.q 11 (.q 12 (.q 13 .nil)))))))))))))) (fun w' => Below w.heap.size w w' ∧ Blk w' b5 [S [], .int .u16 0, .int .u16 0, .int .u32 0, S []] 25 ∧ Blk w' b13 [S r60.2.s, .int .i64 r60.2.at_, .bool r60.2.bad] 78 ∧ Blk w' b32 [S r25.1.name, .int .u16 r25.1.ty, .int .u16 r25.1.cls] 30) (fun w' => Below w.heap.size w w' ∧ Blk w' b5 [S [], .int .u16 0, .int .u16 0, .int .u32 0, S []] 25 ∧ Blk w' b13 [S r60.2.s, .int .i64 r60.2.at_, .bool r60.2.bad] 78 ∧ Blk w' b32 [S r25.1.name, .int .u16 r25.1.ty, .int .u16 r25.1.cls] 30) (by decide +kernel) (fun w' hx _ => ⟨below_ext hB hx, H8.ext hx, H63.ext hx, H39.ext hx⟩) (fun a b hC hx => by obtain ⟨hB, H8, H63, H39⟩ := hC; exact ⟨below_ext hB hx, H8.ext hx, H63.ext hx, H39.ext hx⟩) (fun a hC => by obtain ⟨hB, H8, H63, H39⟩ := hC; exact ⟨hB, H8, H63, H39⟩) ?_
    refine QT.do (v := S a1) rfl (by decide +kernel) rfl rfl rfl (fun w' hJ => by obtain ⟨hB, H8, H63, H39⟩ := hJ; exact D.mv (v := S a1) rfl rfl ⟨rfl, Ext.refl _⟩) ?_
    refine QT.do (v := pt b13 0) rfl (by decide +kernel) rfl rfl rfl (fun w' hJ => by obtain ⟨hB, H8, H63, H39⟩ := hJ; exact D.mv (v := pt b13 0) rfl rfl ⟨rfl, Ext.refl _⟩) ?_
    refine QT.do (v := pt b13 0) rfl (by decide +kernel) rfl rfl rfl (fun w' hJ => by obtain ⟨hB, H8, H63, H39⟩ := hJ; exact D.nilCheck rfl rfl ⟨rfl, Ext.refl _⟩) ?_
    refine QT.do (v := pt b13 1) rfl (by decide +kernel) rfl rfl rfl (fun w' hJ => by obtain ⟨hB, H8, H63, H39⟩ := hJ; exact D.fieldAddr (o' := 1) fa78_1 rfl rfl rfl ⟨rfl, Ext.refl _⟩) ?_
    refine QT.do (v := .int .i64 r60.2.at_) rfl (by decide +kernel) rfl rfl rfl (fun w' hJ => by obtain ⟨hB, H8, H63, H39⟩ := hJ; exact D.load (j := 1) (v := .int .i64 r60.2.at_) sc3 H63.cs rfl rfl rfl rfl ⟨rfl, Ext.refl _⟩) ?_
    refine QT.do (v := .int .i64 (w64 r60.1)) rfl (by decide +kernel) rfl rfl rfl (fun w' hJ => by obtain ⟨hB, H8, H63, H39⟩ := hJ; exact D.mv (v := .int .i64 (w64 r60.1)) rfl rfl ⟨rfl, Ext.refl _⟩) ?_
    refine QT.do (v := pt b32 1) rfl (by decide +kernel) rfl rfl rfl (fun w' hJ => by obtain ⟨hB, H8, H63, H39⟩ := hJ; exact D.fieldAddr (o' := 1) fa30_1 rfl rfl rfl ⟨rfl, Ext.refl _⟩) ?_
    refine QT.do (v := .int .u16 r25.1.ty) rfl (by decide +kernel) rfl rfl rfl (fun w' hJ => by obtain ⟨hB, H8, H63, H39⟩ := hJ; exact D.load (j := 1) (v := .int .u16 r25.1.ty) sc22 H39.cs rfl rfl rfl rfl ⟨rfl, Ext.refl _⟩) ?_
    rcases (Classical.em (rdata_Take.pre a1 r60.2.at_ (w64 r60.1) r25.1.ty)).symm with c87 | c87
    · rw [if_neg c87] at h; cases h
    rw [if_pos c87] at h
    obtain ⟨r91, q92, h⟩ := lt_elim h
    refine QT.do (v := .tuple #[S r91.1, .int .i64 r91.2]) rfl (by decide +kernel) rfl rfl rfl (fun w' hJ => by obtain ⟨hB, H8, H63, H39⟩ := hJ; have hc := rdata_Take.ok a1 r60.2.at_ (w64 r60.1) r25.1.ty w' c87; rw [q92] at hc; refine D.call (vs := [S a1, .int .i64 r60.2.at_, .int .i64 (w64 r60.1), .int .u16 r25.1.ty]) cf46 hc rfl rfl ?_; rintro _ w2 ⟨rfl, e2⟩; exact ⟨rfl, e2⟩) ?_
    refine QT.do (v := .tuple #[S r91.1, .int .i64 r91.2]) rfl (by decide +kernel) rfl rfl rfl (fun w' hJ => by obtain ⟨hB, H8, H63, H39⟩ := hJ; exact D.mv (v := .tuple #[S r91.1, .int .i64 r91.2]) rfl rfl ⟨rfl, Ext.refl _⟩) ?_
    refine QT.do (v := S r91.1) rfl (by decide +kernel) rfl rfl rfl (fun w' hJ => by obtain ⟨hB, H8, H63, H39⟩ := hJ; exact D.extract (v := S r91.1) rfl rfl rfl ⟨rfl, Ext.refl _⟩) ?_
    refine QT.do (v := .int .i64 r91.2) rfl (by decide +kernel) rfl rfl rfl (fun w' hJ => by obtain ⟨hB, H8, H63, H39⟩ := hJ; exact D.extract (v := .int .i64 r91.2) rfl rfl rfl ⟨rfl, Ext.refl _⟩) ?_
    refine QT.do (v := S r91.1) rfl (by decide +kernel) rfl rfl rfl (fun w' hJ => by obtain ⟨hB, H8, H63, H39⟩ := hJ; exact D.asn (v := S r91.1) rfl rfl ⟨rfl, Ext.refl _⟩) ?_
    refine QT.do (v := .int .i64 r91.2) rfl (by decide +kernel) rfl rfl rfl (fun w' hJ => by obtain ⟨hB, H8, H63, H39⟩ := hJ; exact D.asn (v := .int .i64 r91.2) rfl rfl ⟨rfl, Ext.refl _⟩) ?_
    refine QT.nil fun w93 hC => ?_
    obtain ⟨hB, H8, H63, H39⟩ := hC
    refine hM86 _ _ ?_
    refine X.seq fun M102 hM103 => ?_
    refine X.seq fun M104 hM105 => ?_
    refine X.region ?_
    refine XO.do rfl (D.mv (v := .int .i64 r91.2) rfl rfl ?_)
    refine XO.do rfl (D.neq rfl rfl rfl ?_)
    refine XO.nil ?_
    refine hM105 _ _ ?_
    by_cases c106 : r91.2 = 0
    · rw [if_pos c106] at h
      refine X.condF (congrArg Value.bool ((congrArg (!·) (beq_iff_eq.2 c106)))) ?_
      refine X.skip ?_
      refine hM103 _ _ ?_
      refine X.seq fun M107 hM108 => ?_
      refine X.tree mixed0 [0, 1, 0, 4, 0, 16, 0, 0, 255, 0, 512, 1536, 3584, 0, 15872, 511, 65535, 131071] (.q 0 (.q 1 (.q 2 (.q 3 (.q 4 (.q 5 (.q 6 (.q 7 (.q 8 (.q 9 (.q 10 (.q 11 (.q 12 (.q 13 (.q 14 (.alt 15 (.q 16 (.q 17 .nil)) .nil)))))))))))))))) (fun w' => Below w.heap.size w w' ∧ Blk w' b13 [S r60.2.s, .int .i64 r60.2.at_, .bool r60.2.bad] 78 ∧ Blk w' b32 [S r25.1.name, .int .u16 r25.1.ty, .int .u16 r25.1.cls] 30) (fun w' => Below w.heap.size w w' ∧ Blk w' b5 [S [], .int .u16 0, .int .u16 0, .int .u32 0, S []] 25 ∧ Blk w' b13 [S r60.2.s, .int .i64 r60.2.at_, .bool r60.2.bad] 78 ∧ Blk w' b32 [S r25.1.name, .int .u16 r25.1.ty, .int .u16 r25.1.cls] 30) (by decide +kernel) (fun w' hx _ => ⟨below_ext hB hx, H8.ext hx, H63.ext hx, H39.ext hx⟩) (fun a b hC hx => by obtain ⟨hB, H8, H63, H39⟩ := hC; exact ⟨below_ext hB hx, H8.ext hx, H63.ext hx, H39.ext hx⟩) (fun a hC => by obtain ⟨hB, H8, H63, H39⟩ := hC; exact ⟨hB, H63, H39⟩) ?_
      refine QT.do (v := pt b32 0) rfl (by decide +kernel) rfl rfl rfl (fun w' hJ => by obtain ⟨hB, H8, H63, H39⟩ := hJ; exact D.fieldAddr (o' := 0) fa30_0 rfl rfl rfl ⟨rfl, Ext.refl _⟩) ?_
      refine QT.do (v := S r25.1.name) rfl (by decide +kernel) rfl rfl rfl (fun w' hJ => by obtain ⟨hB, H8, H63, H39⟩ := hJ; exact D.load (j := 0) (v := S r25.1.name) sc9 H39.cs rfl rfl rfl rfl ⟨rfl, Ext.refl _⟩) ?_
      refine QT.do (v := pt b32 1) rfl (by decide +kernel) rfl rfl rfl (fun w' hJ => by obtain ⟨hB, H8, H63, H39⟩ := hJ; exact D.fieldAddr (o' := 1) fa30_1 rfl rfl rfl ⟨rfl, Ext.refl _⟩) ?_
      refine QT.do (v := .int .u16 r25.1.ty) rfl (by decide +kernel) rfl rfl rfl (fun w' hJ => by obtain ⟨hB, H8, H63, H39⟩ := hJ; exact D.load (j := 1) (v := .int .u16 r25.1.ty) sc22 H39.cs rfl rfl rfl rfl ⟨rfl, Ext.refl _⟩) ?_
      refine QT.do (v := pt b32 2) rfl (by decide +kernel) rfl rfl rfl (fun w' hJ => by obtain ⟨hB, H8, H63, H39⟩ := hJ; exact D.fieldAddr (o' := 2) fa30_2 rfl rfl rfl ⟨rfl, Ext.refl _⟩) ?_
      refine QT.do (v := .int .u16 r25.1.cls) rfl (by decide +kernel) rfl rfl rfl (fun w' hJ => by obtain ⟨hB, H8, H63, H39⟩ := hJ; exact D.load (j := 2) (v := .int .u16 r25.1.cls) sc22 H39.cs rfl rfl rfl rfl ⟨rfl, Ext.refl _⟩) ?_
      refine QT.do (v := .int .u32 r47.1) rfl (by decide +kernel) rfl rfl rfl (fun w' hJ => by obtain ⟨hB, H8, H63, H39⟩ := hJ; exact D.mv (v := .int .u32 r47.1) rfl rfl ⟨rfl, Ext.refl _⟩) ?_
      refine QT.do (v := S r91.1) rfl (by decide +kernel) rfl rfl rfl (fun w' hJ => by obtain ⟨hB, H8, H63, H39⟩ := hJ; exact D.mv (v := S r91.1) rfl rfl ⟨rfl, Ext.refl _⟩) ?_
      refine QT.do (v := .agg #[S r25.1.name, .int .u16 r25.1.ty, .int .u16 r25.1.cls, .int .u32 r47.1, S r91.1]) rfl (by decide +kernel) rfl rfl rfl (fun w' hJ => by obtain ⟨hB, H8, H63, H39⟩ := hJ; exact D.build (vs := [(0, S r25.1.name), (1, .int .u16 r25.1.ty), (2, .int .u16 r25.1.cls), (3, .int .u32 r47.1), (4, S r91.1)]) (cs := [S r25.1.name, .int .u16 r25.1.ty, .int .u16 r25.1.cls, .int .u32 r47.1, S r91.1]) bld25 rfl rfl rfl ⟨rfl, Ext.refl _⟩) ?_
      refine QT.late (v := pt b13 0) rfl rfl rfl rfl (fun w' hJ => by obtain ⟨hB, H63, H39⟩ := hJ; exact D.mv (v := pt b13 0) rfl rfl ⟨rfl, Ext.refl _⟩) ?_
      refine QT.late (v := pt b13 0) rfl rfl rfl rfl (fun w' hJ => by obtain ⟨hB, H63, H39⟩ := hJ; exact D.nilCheck rfl rfl ⟨rfl, Ext.refl _⟩) ?_
      refine QT.late (v := pt b13 1) rfl rfl rfl rfl (fun w' hJ => by obtain ⟨hB, H63, H39⟩ := hJ; exact D.fieldAddr (o' := 1) fa78_1 rfl rfl rfl ⟨rfl, Ext.refl _⟩) ?_
      refine QT.late (v := .int .i64 r60.2.at_) rfl rfl rfl rfl (fun w' hJ => by obtain ⟨hB, H63, H39⟩ := hJ; exact D.load (j := 1) (v := .int .i64 r60.2.at_) sc3 H63.cs rfl rfl rfl rfl ⟨rfl, Ext.refl _⟩) ?_
      refine QT.late (v := .int .i64 (w64 r60.1)) rfl rfl rfl rfl (fun w' hJ => by obtain ⟨hB, H63, H39⟩ := hJ; exact D.mv (v := .int .i64 (w64 r60.1)) rfl rfl ⟨rfl, Ext.refl _⟩) ?_
      refine QT.late (v := .int .i64 (w64 (r60.2.at_ + (w64 r60.1)))) rfl rfl rfl rfl (fun w' hJ => by obtain ⟨hB, H63, H39⟩ := hJ; exact D.add rfl rfl rfl ⟨rfl, Ext.refl _⟩) ?_
      refine QT.eff rfl rfl (fun w113 hC => ?_) QT.nomore
      obtain ⟨hB, H8, H63, H39⟩ := hC
      refine D.store (v := .agg #[S r25.1.name, .int .u16 r25.1.ty, .int .u16 r25.1.cls, .int .u32 r47.1, S r91.1]) (us := [S r25.1.name, .int .u16 r25.1.ty, .int .u16 r25.1.cls, .int .u32 r47.1, S r91.1]) sz25 H8 rfl rfl rfl rfl rfl rfl ?_
      intro w114 H115 e116
      replace hB := below_blk hB e116 g10
      replace H63 := H63.gr e116 (sepB (ne_flip (ne_of lt_10_18 (MB.ge b13))))
      replace H39 := H39.gr e116 (sepB (ne_flip (ne_of lt_10_37 (MB.ge b32))))
      clear e116
      refine ⟨undef, rfl, (fun w' => Below w.heap.size w w' ∧ Blk w' b5 [S r25.1.name, .int .u16 r25.1.ty, .int .u16 r25.1.cls, .int .u32 r47.1, S r91.1] 25 ∧ Blk w' b13 [S r60.2.s, .int .i64 r60.2.at_, .bool r60.2.bad] 78 ∧ Blk w' b32 [S r25.1.name, .int .u16 r25.1.ty, .int .u16 r25.1.cls] 30), ⟨hB, H115, H63, H39⟩, (fun a b hC hx => by obtain ⟨hB, H115, H63, H39⟩ := hC; exact ⟨below_ext hB hx, H115.ext hx, H63.ext hx, H39.ext hx⟩), (fun a hC => by obtain ⟨hB, H115, H63, H39⟩ := hC; exact ⟨hB, H63, H39⟩), ?_⟩
      refine QT.do (v := .int .i64 (w64 (r60.2.at_ + (w64 r60.1)))) rfl (by decide +kernel) rfl rfl rfl (fun w' hJ => by obtain ⟨hB, H115, H63, H39⟩ := hJ; exact D.asn (v := .int .i64 (w64 (r60.2.at_ + (w64 r60.1)))) rfl rfl ⟨rfl, Ext.refl _⟩) ?_
      refine QT.do (v := .int .i64 0) rfl (by decide +kernel) rfl rfl rfl (fun w' hJ => by obtain ⟨hB, H115, H63, H39⟩ := hJ; exact D.asn (v := .int .i64 0) rfl rfl ⟨rfl, Ext.refl _⟩) ?_
      refine QT.nil fun w117 hC => ?_
      obtain ⟨hB, H115, H63, H39⟩ := hC
      refine hM108 _ _ ?_
      refine X.ret ?_
      injection h with h
      subst h
      exact hR _ _ _ (retCTT ag25 H115 rfl rfl rfl rfl rfl) ⟨rfl, ext_of_below hB⟩
    · rw [if_neg c106] at h
      refine X.condT (congrArg Value.bool ((congrArg (!·) (beq_eq_false_iff_ne.2 c106)))) ?_
      refine X.seq fun M118 hM119 => ?_
      refine X.region ?_
      refine XO.do rfl (D.build (vs := []) (cs := [S [], .int .u16 0, .int .u16 0, .int .u32 0, S []]) bld25 rfl rfl rfl ?_)
      refine XO.do rfl (D.mv (v := .int .i64 r91.2) rfl rfl ?_)
      refine XO.do rfl (D.store (v := .agg #[S [], .int .u16 0, .int .u16 0, .int .u32 0, S []]) (us := [S [], .int .u16 0, .int .u16 0, .int .u32 0, S []]) sz25 H8 rfl rfl rfl rfl rfl rfl ?_)
      intro w120 H121 e122
      replace hB := below_blk hB e122 g10
      replace H63 := H63.gr e122 (sepB (ne_flip (ne_of lt_10_18 (MB.ge b13))))
      replace H39 := H39.gr e122 (sepB (ne_flip (ne_of lt_10_37 (MB.ge b32))))
      clear e122
      refine XO.do rfl (D.asn (v := .int .i64 0) rfl rfl ?_)
      refine XO.do rfl (D.asn (v := .int .i64 r91.2) rfl rfl ?_)
      refine XO.nil ?_
      refine hM119 _ _ ?_
      refine X.ret ?_
      injection h with h
      subst h
      exact hR _ _ _ (retCTT ag25 H121 rfl rfl rfl rfl rfl) ⟨rfl, ext_of_below hB⟩
theorem record_Take.ok (a1 : Str) (a2 : Int)  (w : World)  (hp : record_Take.pre a1 a2) :
    Ret Try.prog 18 ([S a1, .int .i64 a2] : List Value).toArray w fun v w' => v = .tuple #[.agg #[S ((record_Take a1 a2).1.name), .int .u16 ((record_Take a1 a2).1.ty), .int .u16 ((record_Take a1 a2).1.cls), .int .u32 ((record_Take a1 a2).1.ttl), S ((record_Take a1 a2).1.data)], .int .i64 ((record_Take a1 a2).2.1), .int .i64 ((record_Take a1 a2).2.2)] ∧ Ext w w' := by
  have h := record_Take.eq a1 a2 hp
  exact record_Take.walk  a1 a2  w  _ h
end Go.Proofs.Ytfcaekghpkpjdaa.K

/- Walks, printed by a program of this session. -/
namespace Go.Proofs.Ytfcaekghpkpjdaa.K
open Go Go.RowKit Go.Proofs
set_option linter.unusedVariables false
set_option maxRecDepth 100000
set_option maxHeartbeats 4000000
namespace FL1
theorem ti25 : TI Try.prog 25 (.agg #[S [], .int .u16 0, .int .u16 0, .int .u32 0, S []]) 5 40 := by unfold TI; kernel_rfl
theorem ag25 : Agg Try.prog 25 5 := agg Try.underlying25 rfl ti25
theorem ti9 : TI Try.prog 9 (S []) 1 16 := by unfold TI; kernel_rfl
theorem ti22 : TI Try.prog 22 (.int .u16 0) 1 2 := by unfold TI; kernel_rfl
theorem ti23 : TI Try.prog 23 (.int .u32 0) 1 4 := by unfold TI; kernel_rfl
theorem bld25 : BuildIs Try.prog 25 #[(0, 1), (1, 1), (2, 1), (3, 1), (4, 1)] (Value.cells (.agg #[S [], .int .u16 0, .int .u16 0, .int .u32 0, S []])) := buildIs Try.underlying25 ti25 (fun w => by simp [ti22.size, ti23.size, ti9.size])
theorem cf12 : Callable Try.prog 12 := callable Try.func12 (by kernel_rfl) rfl
theorem cf15 : Callable Try.prog 15 := callable Try.func15 (by kernel_rfl) rfl
theorem cf17 : Callable Try.prog 17 := callable Try.func17 (by kernel_rfl) rfl
theorem cf18 : Callable Try.prog 18 := callable Try.func18 (by kernel_rfl) rfl
theorem cf26 : Callable Try.prog 26 := callable Try.func26 (by kernel_rfl) rfl
theorem fa25_0 : FA Try.prog 25 0 0 := fa Try.underlying25 rfl ti9 rfl rfl
theorem fa25_4 : FA Try.prog 25 4 4 := fa Try.underlying25 rfl ti9 rfl rfl
theorem sc9 : Sca Try.prog 9 := sca Try.underlying9 rfl
theorem sz25 : ∀ w, (sizeOf 25).run Try.prog w = .ok 5 w := fun w => ti25.size w
end FL1
open FL1

theorem derricklaw05_shown.walk   (w : World)  (res : Bool) (h : derricklaw05_shown.f  = some res) :
    Ret Try.prog 7 ([] : List Value).toArray w fun v w' => v = .bool res ∧ Ext w w' := by
  unfold derricklaw05_shown.f at h
  refine enterX Try.func7 rfl Try.ntmps7 rfl (fun R hR => ?_)
  have hB := Below.refl w.heap.size w
  refine X.seq fun M1 hM2 => ?_
  refine X.region ?_
  refine XO.do rfl (D.asn (v := .bool false) rfl rfl ?_)
  refine XO.nil ?_
  refine hM2 _ _ ?_
  refine X.seq fun M3 hM4 => ?_
  refine X.region ?_
  refine XO.do rfl (D.build (vs := [(0, S [2, 97, 98, 0]), (1, .int .u16 1), (2, .int .u16 1), (3, .int .u32 5), (4, S [1, 2, 3, 4])]) (cs := [S [2, 97, 98, 0], .int .u16 1, .int .u16 1, .int .u32 5, S [1, 2, 3, 4]]) bld25 rfl rfl rfl ?_)
  refine XO.do rfl (D.alloc ti25 (cs := [S [], .int .u16 0, .int .u16 0, .int .u32 0, S []]) rfl rfl ?_)
  intro b5 w6 hb7 H8 e9 _
  have g10 : w.heap.size ≤ b5 := Nat.le_trans hB.size (Nat.le_of_eq hb7.symm)
  clear hb7
  replace hB := below_ext hB e9
  clear e9
  refine XO.do rfl (D.store (v := .agg #[S [2, 97, 98, 0], .int .u16 1, .int .u16 1, .int .u32 5, S [1, 2, 3, 4]]) (us := [S [2, 97, 98, 0], .int .u16 1, .int .u16 1, .int .u32 5, S [1, 2, 3, 4]]) sz25 H8 rfl rfl rfl rfl rfl rfl ?_)
  intro w11 H12 e13
  replace hB := below_blk hB e13 g10
  clear e13
  refine XO.nil ?_
  refine hM4 _ _ ?_
  refine X.seq fun M14 hM15 => ?_
  refine X.region ?_
  obtain ⟨r19, q20, h⟩ := lt_elim h
  have hc18 := wire_New.ok w11 
  rw [q20] at hc18
  clear q20
  refine XO.do rfl (D.call (vs := []) cf12 hc18 rfl rfl ?_)
  rintro _ w16 ⟨M21, b22, rfl, H23, g24, e17⟩
  clear hc18
  have lt_10_25 : ∀ x, MB b5 x → x < w11.heap.size := (MB.lt H12 (Nat.le_refl _))
  have z25 : ∀ y, M21 y → w.heap.size ≤ y := fun y hy => Nat.le_trans hB.size (g24 y hy)
  have bs25 : w11.heap.size ≤ w16.heap.size := World.grownBy.size e17
  replace hB := below_ext hB e17
  replace H12 := H12.ext e17
  clear e17
  refine XO.do rfl (D.asn (v := pt b22 0) rfl rfl ?_)
  refine XO.nil ?_
  refine hM15 _ _ ?_
  refine X.seq fun M27 hM28 => ?_
  refine X.region ?_
  refine XO.do rfl (D.mv (v := pt b22 0) rfl rfl ?_)
  refine XO.do rfl (D.loadA (j := 0) (us := [S [2, 97, 98, 0], .int .u16 1, .int .u16 1, .int .u32 5, S [1, 2, 3, 4]]) ag25 H12.cs rfl rfl rfl rfl rfl ?_)
  rcases (Classical.em (record_Put.pre r19 (⟨[2, 97, 98, 0], 1, 1, 5, [1, 2, 3, 4]⟩ : RR))).symm with c29 | c29
  · rw [if_neg c29] at h; cases h
  rw [if_pos c29] at h
  obtain ⟨r33, q34, h⟩ := lt_elim h
  have hc32 := record_Put.ok r19 (⟨[2, 97, 98, 0], 1, 1, 5, [1, 2, 3, 4]⟩ : RR) M21 b22 w16 H23 c29 
  rw [q34] at hc32
  clear q34
  refine XO.do rfl (D.call (vs := [pt b22 0, .agg #[S [2, 97, 98, 0], .int .u16 1, .int .u16 1, .int .u32 5, S [1, 2, 3, 4]]]) cf15 hc32 rfl rfl ?_)
  rintro _ w35 ⟨M38, rfl, H36, u39, e37⟩
  clear hc32
  have g24n := ge_sub u39 g24 bs25
  have v26n := ge_sub u39 z25 hB.size
  replace hB := below_gm hB e37 z25
  replace H12 := H12.gm e37 (sepM (ne_of lt_10_25 g24))
  replace g24 := g24n
  replace bs25 := Nat.le_trans bs25 e37.size
  clear e37 u39 H23
  have v40 := v26n
  clear v26n
  refine XO.do rfl (D.asn (v := .int .i64 r33.1) rfl rfl ?_)
  refine XO.nil ?_
  refine hM28 _ _ ?_
  refine X.seq fun M42 hM43 => ?_
  refine X.region ?_
  refine XO.do rfl (D.mv (v := pt b22 0) rfl rfl ?_)
  obtain ⟨r47, q48, h⟩ := lt_elim h
  have hc46 := wire_Pack_Out.ok r33.2 M38 b22 w35 H36 
  rw [q48] at hc46
  clear q48
  refine XO.do rfl (D.call (vs := [pt b22 0]) cf17 hc46 rfl rfl ?_)
  rintro _ w44 ⟨rfl, e45⟩
  clear hc46
  replace hB := below_ext hB e45
  replace H12 := H12.ext e45
  replace H36 := H36.ext e45
  replace bs25 := Nat.le_trans bs25 (World.grownBy.size e45)
  clear e45
  rcases (Classical.em (record_Take.pre r47 0)).symm with c49 | c49
  · rw [if_neg c49] at h; cases h
  rw [if_pos c49] at h
  obtain ⟨r53, q54, h⟩ := lt_elim h
  have hc52 := record_Take.ok r47 0 w44 c49 
  rw [q54] at hc52
  clear q54
  refine XO.do rfl (D.call (vs := [S r47, .int .i64 0]) cf18 hc52 rfl rfl ?_)
  rintro _ w50 ⟨rfl, e51⟩
  clear hc52
  replace hB := below_ext hB e51
  replace H12 := H12.ext e51
  replace H36 := H36.ext e51
  replace bs25 := Nat.le_trans bs25 (World.grownBy.size e51)
  clear e51
  refine XO.do rfl (D.mv (v := .tuple #[.agg #[S r53.1.name, .int .u16 r53.1.ty, .int .u16 r53.1.cls, .int .u32 r53.1.ttl, S r53.1.data], .int .i64 r53.2.1, .int .i64 r53.2.2]) rfl rfl ?_)
  refine XO.do rfl (D.extract (v := .agg #[S r53.1.name, .int .u16 r53.1.ty, .int .u16 r53.1.cls, .int .u32 r53.1.ttl, S r53.1.data]) rfl rfl rfl ?_)
  refine XO.do rfl (D.extract (v := .int .i64 r53.2.1) rfl rfl rfl ?_)
  refine XO.do rfl (D.extract (v := .int .i64 r53.2.2) rfl rfl rfl ?_)
  refine XO.do rfl (D.alloc ti25 (cs := [S [], .int .u16 0, .int .u16 0, .int .u32 0, S []]) rfl rfl ?_)
  intro b55 w56 hb57 H58 e59 _
  have lt_10_60 : ∀ x, MB b5 x → x < b55 := (MB.lt H12 (Nat.le_of_eq hb57.symm))
  have ne_25_60 : ∀ x y, M38 x → MB b55 y → x ≠ y := ne_of (lt_le H36.lt (Nat.le_of_eq hb57.symm)) (MB.ge b55)
  have g60 : w.heap.size ≤ b55 := Nat.le_trans hB.size (Nat.le_of_eq hb57.symm)
  clear hb57
  replace hB := below_ext hB e59
  replace H12 := H12.ext e59
  replace H36 := H36.ext e59
  replace bs25 := Nat.le_trans bs25 (World.grownBy.size e59)
  clear e59
  refine XO.do rfl (D.store (v := .agg #[S r53.1.name, .int .u16 r53.1.ty, .int .u16 r53.1.cls, .int .u32 r53.1.ttl, S r53.1.data]) (us := [S r53.1.name, .int .u16 r53.1.ty, .int .u16 r53.1.cls, .int .u32 r53.1.ttl, S r53.1.data]) sz25 H58 rfl rfl rfl rfl rfl rfl ?_)
  intro w61 H62 e63
  replace hB := below_blk hB e63 g60
  replace H12 := H12.gr e63 (sepB (ne_of lt_10_60 (MB.ge b55)))
  replace H36 := H36.gr e63 (sepB ne_25_60)
  replace bs25 := Nat.le_trans bs25 (World.grownBy.size e63)
  clear e63
  refine XO.do rfl (D.asn (v := .int .i64 r53.2.1) rfl rfl ?_)
  refine XO.do rfl (D.asn (v := .int .i64 r53.2.2) rfl rfl ?_)
  refine XO.nil ?_
  refine hM43 _ _ ?_
  refine X.seq fun M64 hM65 => ?_
  refine X.region ?_
  refine XO.do rfl (D.mv (v := .int .i64 r33.1) rfl rfl ?_)
  refine XO.do rfl (D.eql rfl rfl rfl ?_)
  refine XO.do rfl (D.mv (v := .bool (r33.1 == 0)) rfl rfl ?_)
  by_cases c66 : r33.1 = 0
  · rw [if_pos c66] at h
    refine XO.do (wantG (j := 2) (b := true) rfl (beq_iff_eq.2 c66) rfl) (D.mv (v := pt b22 0) rfl rfl ?_)
    obtain ⟨r70, q71, h⟩ := lt_elim h
    have hc69 := wire_Pack_Out.ok r33.2 M38 b22 w61 H36 
    rw [q71] at hc69
    clear q71
    refine XO.do (wantG (j := 2) (b := true) rfl (beq_iff_eq.2 c66) rfl) (D.call (vs := [pt b22 0]) cf17 hc69 rfl rfl ?_)
    rintro _ w67 ⟨rfl, e68⟩
    clear hc69
    replace hB := below_ext hB e68
    replace H12 := H12.ext e68
    replace H36 := H36.ext e68
    replace bs25 := Nat.le_trans bs25 (World.grownBy.size e68)
    replace H62 := H62.ext e68
    clear e68
    refine XO.do (wantG (j := 2) (b := true) rfl (beq_iff_eq.2 c66) rfl) (D.eqlS rfl rfl rfl ?_)
    refine XO.do rfl (D.pick true (v := .bool (r70 == ([2, 97, 98, 0, 0, 1, 0, 1, 0, 0, 0, 5, 0, 4, 1, 2, 3, 4] : Str))) (congrArg Value.bool (beq_iff_eq.2 c66)) rfl rfl ?_)
    refine XO.do rfl (D.mv (v := .bool (r70 == ([2, 97, 98, 0, 0, 1, 0, 1, 0, 0, 0, 5, 0, 4, 1, 2, 3, 4] : Str))) rfl rfl ?_)
    by_cases c72 : r70 = ([2, 97, 98, 0, 0, 1, 0, 1, 0, 0, 0, 5, 0, 4, 1, 2, 3, 4] : Str)
    · rw [if_pos c72] at h
      refine XO.do (wantG (j := 7) (b := true) rfl (beq_iff_eq.2 c72) rfl) (D.loadA (j := 0) (us := [S r53.1.name, .int .u16 r53.1.ty, .int .u16 r53.1.cls, .int .u32 r53.1.ttl, S r53.1.data]) ag25 H62.cs rfl rfl rfl rfl rfl ?_)
      refine XO.do (wantG (j := 7) (b := true) rfl (beq_iff_eq.2 c72) rfl) (D.loadA (j := 0) (us := [S [2, 97, 98, 0], .int .u16 1, .int .u16 1, .int .u32 5, S [1, 2, 3, 4]]) ag25 H12.cs rfl rfl rfl rfl rfl ?_)
      refine XO.do (wantG (j := 7) (b := true) rfl (beq_iff_eq.2 c72) rfl) (D.eqSt (eqRR r53.1 (⟨[2, 97, 98, 0], 1, 1, 5, [1, 2, 3, 4]⟩ : RR)) rfl rfl rfl ?_)
      refine XO.do rfl (D.pick true (v := .bool (decide (r53.1 = (⟨[2, 97, 98, 0], 1, 1, 5, [1, 2, 3, 4]⟩ : RR)))) (congrArg Value.bool (beq_iff_eq.2 c72)) rfl rfl ?_)
      refine XO.do rfl (D.mv (v := .bool (decide (r53.1 = (⟨[2, 97, 98, 0], 1, 1, 5, [1, 2, 3, 4]⟩ : RR)))) rfl rfl ?_)
      by_cases c73 : r53.1 = (⟨[2, 97, 98, 0], 1, 1, 5, [1, 2, 3, 4]⟩ : RR)
      · rw [if_pos c73] at h
        refine XO.do (wantG (j := 12) (b := true) rfl (decide_eq_true c73) rfl) (D.mv (v := .int .i64 r53.2.1) rfl rfl ?_)
        refine XO.do (wantG (j := 12) (b := true) rfl (decide_eq_true c73) rfl) (D.mv (v := pt b22 0) rfl rfl ?_)
        obtain ⟨r77, q78, h⟩ := lt_elim h
        have hc76 := wire_Pack_Len.ok r33.2 M38 b22 w67 H36 
        rw [q78] at hc76
        clear q78
        refine XO.do (wantG (j := 12) (b := true) rfl (decide_eq_true c73) rfl) (D.call (vs := [pt b22 0]) cf26 hc76 rfl rfl ?_)
        rintro _ w74 ⟨rfl, e75⟩
        clear hc76
        replace hB := below_ext hB e75
        replace H12 := H12.ext e75
        replace H36 := H36.ext e75
        replace bs25 := Nat.le_trans bs25 (World.grownBy.size e75)
        replace H62 := H62.ext e75
        clear e75
        refine XO.do (wantG (j := 12) (b := true) rfl (decide_eq_true c73) rfl) (D.eql rfl rfl rfl ?_)
        refine XO.do rfl (D.pick true (v := .bool (r53.2.1 == r77)) (congrArg Value.bool (decide_eq_true c73)) rfl rfl ?_)
        refine XO.do rfl (D.mv (v := .bool (r53.2.1 == r77)) rfl rfl ?_)
        by_cases c79 : r53.2.1 = r77
        · rw [if_pos c79] at h
          refine XO.do (wantG (j := 18) (b := true) rfl (beq_iff_eq.2 c79) rfl) (D.mv (v := .int .i64 r53.2.2) rfl rfl ?_)
          refine XO.do (wantG (j := 18) (b := true) rfl (beq_iff_eq.2 c79) rfl) (D.eql rfl rfl rfl ?_)
          refine XO.do rfl (D.pick true (v := .bool (r53.2.2 == 0)) (congrArg Value.bool (beq_iff_eq.2 c79)) rfl rfl ?_)
          refine XO.do rfl (D.asn (v := .bool (r53.2.2 == 0)) rfl rfl ?_)
          refine XO.nil ?_
          refine hM65 _ _ ?_
          refine X.ret ?_
          injection h with h
          subst h
          exact hR _ _ _ (ret1 (v := .bool (r53.2.2 == 0)) rfl rfl) ⟨rfl, ext_of_below hB⟩
        · rw [if_neg c79] at h
          refine XO.off (wantG0 (j := 18) (b := true) rfl (beq_eq_false_iff_ne.2 c79) rfl) rfl rfl ?_
          refine XO.off (wantG0 (j := 18) (b := true) rfl (beq_eq_false_iff_ne.2 c79) rfl) rfl rfl ?_
          refine XO.do rfl (D.pick false (v := .bool false) (congrArg Value.bool (beq_eq_false_iff_ne.2 c79)) rfl rfl ?_)
          refine XO.do rfl (D.asn (v := .bool false) rfl rfl ?_)
          refine XO.nil ?_
          refine hM65 _ _ ?_
          refine X.ret ?_
          injection h with h
          subst h
          exact hR _ _ _ (ret1 (v := .bool false) rfl rfl) ⟨rfl, ext_of_below hB⟩
      · rw [if_neg c73] at h
        refine XO.off (wantG0 (j := 12) (b := true) rfl (decide_eq_false c73) rfl) rfl rfl ?_
        refine XO.off (wantG0 (j := 12) (b := true) rfl (decide_eq_false c73) rfl) rfl rfl ?_
        refine XO.off (wantG0 (j := 12) (b := true) rfl (decide_eq_false c73) rfl) rfl rfl ?_
        refine XO.off (wantG0 (j := 12) (b := true) rfl (decide_eq_false c73) rfl) rfl rfl ?_
        refine XO.do rfl (D.pick false (v := .bool false) (congrArg Value.bool (decide_eq_false c73)) rfl rfl ?_)
        refine XO.do rfl (D.mv (v := .bool false) rfl rfl ?_)
        refine XO.off (wantG0 (j := 18) (b := true) rfl (rfl) rfl) rfl rfl ?_
        refine XO.off (wantG0 (j := 18) (b := true) rfl (rfl) rfl) rfl rfl ?_
        refine XO.do rfl (D.pick false (v := .bool false) (congrArg Value.bool (rfl)) rfl rfl ?_)
        refine XO.do rfl (D.asn (v := .bool false) rfl rfl ?_)
        refine XO.nil ?_
        refine hM65 _ _ ?_
        refine X.ret ?_
        injection h with h
        subst h
        exact hR _ _ _ (ret1 (v := .bool false) rfl rfl) ⟨rfl, ext_of_below hB⟩
    · rw [if_neg c72] at h
      refine XO.off (wantG0 (j := 7) (b := true) rfl (beq_eq_false_iff_ne.2 c72) rfl) rfl rfl ?_
      refine XO.off (wantG0 (j := 7) (b := true) rfl (beq_eq_false_iff_ne.2 c72) rfl) rfl rfl ?_
      refine XO.off (wantG0 (j := 7) (b := true) rfl (beq_eq_false_iff_ne.2 c72) rfl) rfl rfl ?_
      refine XO.do rfl (D.pick false (v := .bool false) (congrArg Value.bool (beq_eq_false_iff_ne.2 c72)) rfl rfl ?_)
      refine XO.do rfl (D.mv (v := .bool false) rfl rfl ?_)
      refine XO.off (wantG0 (j := 12) (b := true) rfl (rfl) rfl) rfl rfl ?_
      refine XO.off (wantG0 (j := 12) (b := true) rfl (rfl) rfl) rfl rfl ?_
      refine XO.off (wantG0 (j := 12) (b := true) rfl (rfl) rfl) rfl rfl ?_
      refine XO.off (wantG0 (j := 12) (b := true) rfl (rfl) rfl) rfl rfl ?_
      refine XO.do rfl (D.pick false (v := .bool false) (congrArg Value.bool (rfl)) rfl rfl ?_)
      refine XO.do rfl (D.mv (v := .bool false) rfl rfl ?_)
      refine XO.off (wantG0 (j := 18) (b := true) rfl (rfl) rfl) rfl rfl ?_
      refine XO.off (wantG0 (j := 18) (b := true) rfl (rfl) rfl) rfl rfl ?_
      refine XO.do rfl (D.pick false (v := .bool false) (congrArg Value.bool (rfl)) rfl rfl ?_)
      refine XO.do rfl (D.asn (v := .bool false) rfl rfl ?_)
      refine XO.nil ?_
      refine hM65 _ _ ?_
      refine X.ret ?_
      injection h with h
      subst h
      exact hR _ _ _ (ret1 (v := .bool false) rfl rfl) ⟨rfl, ext_of_below hB⟩
  · rw [if_neg c66] at h
    refine XO.off (wantG0 (j := 2) (b := true) rfl (beq_eq_false_iff_ne.2 c66) rfl) rfl rfl ?_
    refine XO.off (wantG0 (j := 2) (b := true) rfl (beq_eq_false_iff_ne.2 c66) rfl) rfl rfl ?_
    refine XO.off (wantG0 (j := 2) (b := true) rfl (beq_eq_false_iff_ne.2 c66) rfl) rfl rfl ?_
    refine XO.do rfl (D.pick false (v := .bool false) (congrArg Value.bool (beq_eq_false_iff_ne.2 c66)) rfl rfl ?_)
    refine XO.do rfl (D.mv (v := .bool false) rfl rfl ?_)
    refine XO.off (wantG0 (j := 7) (b := true) rfl (rfl) rfl) rfl rfl ?_
    refine XO.off (wantG0 (j := 7) (b := true) rfl (rfl) rfl) rfl rfl ?_
    refine XO.off (wantG0 (j := 7) (b := true) rfl (rfl) rfl) rfl rfl ?_
    refine XO.do rfl (D.pick false (v := .bool false) (congrArg Value.bool (rfl)) rfl rfl ?_)
    refine XO.do rfl (D.mv (v := .bool false) rfl rfl ?_)
    refine XO.off (wantG0 (j := 12) (b := true) rfl (rfl) rfl) rfl rfl ?_
    refine XO.off (wantG0 (j := 12) (b := true) rfl (rfl) rfl) rfl rfl ?_
    refine XO.off (wantG0 (j := 12) (b := true) rfl (rfl) rfl) rfl rfl ?_
    refine XO.off (wantG0 (j := 12) (b := true) rfl (rfl) rfl) rfl rfl ?_
    refine XO.do rfl (D.pick false (v := .bool false) (congrArg Value.bool (rfl)) rfl rfl ?_)
    refine XO.do rfl (D.mv (v := .bool false) rfl rfl ?_)
    refine XO.off (wantG0 (j := 18) (b := true) rfl (rfl) rfl) rfl rfl ?_
    refine XO.off (wantG0 (j := 18) (b := true) rfl (rfl) rfl) rfl rfl ?_
    refine XO.do rfl (D.pick false (v := .bool false) (congrArg Value.bool (rfl)) rfl rfl ?_)
    refine XO.do rfl (D.asn (v := .bool false) rfl rfl ?_)
    refine XO.nil ?_
    refine hM65 _ _ ?_
    refine X.ret ?_
    injection h with h
    subst h
    exact hR _ _ _ (ret1 (v := .bool false) rfl rfl) ⟨rfl, ext_of_below hB⟩
theorem derricklaw05_shown.ok   (w : World)  (hp : derricklaw05_shown.pre ) :
    Ret Try.prog 7 ([] : List Value).toArray w fun v w' => v = .bool (derricklaw05_shown ) ∧ Ext w w' := by
  have h := derricklaw05_shown.eq  hp
  exact derricklaw05_shown.walk    w  _ h

theorem derricklaw05_few.walk (a1 : RR)  (w : World)  (res : Bool) (h : derricklaw05_few a1 = res) :
    Ret Try.prog 8 ([.agg #[S a1.name, .int .u16 a1.ty, .int .u16 a1.cls, .int .u32 a1.ttl, S a1.data]] : List Value).toArray w fun v w' => v = .bool res ∧ Ext w w' := by
  unfold derricklaw05_few at h
  refine enterX Try.func8 rfl Try.ntmps8 rfl (fun R hR => ?_)
  have hB := Below.refl w.heap.size w
  refine X.seq fun M2 hM3 => ?_
  refine X.region ?_
  refine XO.do rfl (D.box (v := .agg #[S a1.name, .int .u16 a1.ty, .int .u16 a1.cls, .int .u32 a1.ttl, S a1.data]) (cs := [S a1.name, .int .u16 a1.ty, .int .u16 a1.cls, .int .u32 a1.ttl, S a1.data]) rfl rfl rfl ?_)
  intro b4 w5 hb6 H7 e8 _
  have g9 : w.heap.size ≤ b4 := Nat.le_trans hB.size (Nat.le_of_eq hb6.symm)
  clear hb6
  replace hB := below_ext hB e8
  clear e8
  refine XO.do rfl (D.asn (v := .bool false) rfl rfl ?_)
  refine XO.nil ?_
  refine hM3 _ _ ?_
  refine X.seq fun M10 hM11 => ?_
  refine X.region ?_
  refine XO.do rfl (D.fieldAddr (o' := 0) fa25_0 rfl rfl rfl ?_)
  refine XO.do rfl (D.load (j := 0) (v := S a1.name) sc9 H7.cs rfl rfl rfl rfl ?_)
  refine XO.do rfl (D.lenS Try.underlying9 rfl rfl ?_)
  refine XO.do rfl (D.leq rfl rfl rfl ?_)
  refine XO.do rfl (D.mv (v := .bool (decide ((a1.name.length : Int) ≤ 700))) rfl rfl ?_)
  by_cases c12 : (a1.name.length : Int) ≤ 700
  · rw [if_pos c12] at h
    refine XO.do (wantG (j := 4) (b := true) rfl (decide_eq_true c12) rfl) (D.fieldAddr (o' := 4) fa25_4 rfl rfl rfl ?_)
    refine XO.do (wantG (j := 4) (b := true) rfl (decide_eq_true c12) rfl) (D.load (j := 4) (v := S a1.data) sc9 H7.cs rfl rfl rfl rfl ?_)
    refine XO.do (wantG (j := 4) (b := true) rfl (decide_eq_true c12) rfl) (D.lenS Try.underlying9 rfl rfl ?_)
    refine XO.do (wantG (j := 4) (b := true) rfl (decide_eq_true c12) rfl) (D.leq rfl rfl rfl ?_)
    refine XO.do rfl (D.pick true (v := .bool (decide ((a1.data.length : Int) ≤ 700))) (congrArg Value.bool (decide_eq_true c12)) rfl rfl ?_)
    refine XO.do rfl (D.asn (v := .bool (decide ((a1.data.length : Int) ≤ 700))) rfl rfl ?_)
    refine XO.nil ?_
    refine hM11 _ _ ?_
    refine X.ret ?_
    subst h
    exact hR _ _ _ (ret1 (v := .bool (decide ((a1.data.length : Int) ≤ 700))) rfl rfl) ⟨rfl, ext_of_below hB⟩
  · rw [if_neg c12] at h
    refine XO.off (wantG0 (j := 4) (b := true) rfl (decide_eq_false c12) rfl) rfl rfl ?_
    refine XO.off (wantG0 (j := 4) (b := true) rfl (decide_eq_false c12) rfl) rfl rfl ?_
    refine XO.off (wantG0 (j := 4) (b := true) rfl (decide_eq_false c12) rfl) rfl rfl ?_
    refine XO.off (wantG0 (j := 4) (b := true) rfl (decide_eq_false c12) rfl) rfl rfl ?_
    refine XO.do rfl (D.pick false (v := .bool false) (congrArg Value.bool (decide_eq_false c12)) rfl rfl ?_)
    refine XO.do rfl (D.asn (v := .bool false) rfl rfl ?_)
    refine XO.nil ?_
    refine hM11 _ _ ?_
    refine X.ret ?_
    subst h
    exact hR _ _ _ (ret1 (v := .bool false) rfl rfl) ⟨rfl, ext_of_below hB⟩
theorem derricklaw05_few.ok (a1 : RR)  (w : World)  :
    Ret Try.prog 8 ([.agg #[S a1.name, .int .u16 a1.ty, .int .u16 a1.cls, .int .u32 a1.ttl, S a1.data]] : List Value).toArray w fun v w' => v = .bool (derricklaw05_few a1) ∧ Ext w w' := derricklaw05_few.walk a1  w  _ rfl
end Go.Proofs.Ytfcaekghpkpjdaa.K

/- Walks, printed by a program of this session. -/
namespace Go.Proofs.Ytfcaekghpkpjdaa.K
open Go Go.RowKit Go.Proofs
set_option linter.unusedVariables false
set_option maxRecDepth 100000
set_option maxHeartbeats 4000000
namespace FL5
theorem ti25 : TI Try.prog 25 (.agg #[S [], .int .u16 0, .int .u16 0, .int .u32 0, S []]) 5 40 := by unfold TI; kernel_rfl
theorem ag25 : Agg Try.prog 25 5 := agg Try.underlying25 rfl ti25
theorem ti30 : TI Try.prog 30 (.agg #[S [], .int .u16 0, .int .u16 0]) 3 24 := by unfold TI; kernel_rfl
theorem ag30 : Agg Try.prog 30 3 := agg Try.underlying30 rfl ti30
theorem cf10 : Callable Try.prog 10 := callable Try.func10 (by kernel_rfl) rfl
theorem cf11 : Callable Try.prog 11 := callable Try.func11 (by kernel_rfl) rfl
theorem cf12 : Callable Try.prog 12 := callable Try.func12 (by kernel_rfl) rfl
theorem cf13 : Callable Try.prog 13 := callable Try.func13 (by kernel_rfl) rfl
theorem cf15 : Callable Try.prog 15 := callable Try.func15 (by kernel_rfl) rfl
theorem cf17 : Callable Try.prog 17 := callable Try.func17 (by kernel_rfl) rfl
theorem cf18 : Callable Try.prog 18 := callable Try.func18 (by kernel_rfl) rfl
theorem cf20 : Callable Try.prog 20 := callable Try.func20 (by kernel_rfl) rfl
theorem cf23 : Callable Try.prog 23 := callable Try.func23 (by kernel_rfl) rfl
theorem cf7 : Callable Try.prog 7 := callable Try.func7 (by kernel_rfl) rfl
theorem cf8 : Callable Try.prog 8 := callable Try.func8 (by kernel_rfl) rfl
theorem mixed0 : Try.prog.follows .mixedOrders = true := by kernel_rfl
theorem sc4 : Sca Try.prog 4 := sca Try.underlying4 rfl
theorem sz25 : ∀ w, (sizeOf 25).run Try.prog w = .ok 5 w := fun w => ti25.size w
theorem sz30 : ∀ w, (sizeOf 30).run Try.prog w = .ok 3 w := fun w => ti30.size w
theorem ti4 : TI Try.prog 4 (.bool false) 1 1 := by unfold TI; kernel_rfl
theorem sz4 : ∀ w, (sizeOf 4).run Try.prog w = .ok 1 w := fun w => ti4.size w
end FL5
open FL5

theorem derricklaw05_RecordBack.walk (kf : Nat) (a1 : List RR) (a6 : List Bool) (A2 : Option Addr) (k3 : Nat) (A7 : Option Addr) (k8 : Nat) (w : World) (H4 : Row eRR w A2 k3 a1) (H9 : Row eBool w A7 k8 a6) (res : Bool) (h : derricklaw05_RecordBack.f kf a1 a6 = some res) :
    Ret Try.prog 6 ([.slice A2 a1.length k3, .slice A7 a6.length k8] : List Value).toArray w fun v w' => v = .bool res ∧ Ext w w' := by
  unfold derricklaw05_RecordBack.f at h
  refine enterX Try.func6 rfl Try.ntmps6 rfl (fun R hR => ?_)
  have hB := Below.refl w.heap.size w
  refine X.seq fun M11 hM12 => ?_
  refine X.region ?_
  refine XO.do rfl (D.asn (v := .bool false) rfl rfl ?_)
  refine XO.nil ?_
  refine hM12 _ _ ?_
  refine X.seq fun M13 hM14 => ?_
  refine X.region ?_
  rcases (Classical.em (derricklaw05_shown.pre )).symm with c15 | c15
  · rw [if_neg c15] at h; cases h
  rw [if_pos c15] at h
  obtain ⟨r19, q20, h⟩ := lt_elim h
  have hc18 := derricklaw05_shown.ok w c15 
  rw [q20] at hc18
  clear q20
  refine XO.do rfl (D.call (vs := []) cf7 hc18 rfl rfl ?_)
  rintro _ w16 ⟨rfl, e17⟩
  clear hc18
  replace hB := below_ext hB e17
  clear e17
  refine XO.do rfl (D.asn (v := .bool r19) rfl rfl ?_)
  refine XO.nil ?_
  refine hM14 _ _ ?_
  refine X.seq fun M21 hM22 => ?_
  refine X.region ?_
  obtain ⟨r26, q27, h⟩ := lt_elim h
  have hc25 := wire_New.ok w16 
  rw [q27] at hc25
  clear q27
  refine XO.do rfl (D.call (vs := []) cf12 hc25 rfl rfl ?_)
  rintro _ w23 ⟨M28, b29, rfl, H30, g31, e24⟩
  clear hc25
  have z32 : ∀ y, M28 y → w.heap.size ≤ y := fun y hy => Nat.le_trans hB.size (g31 y hy)
  have bs32 : w16.heap.size ≤ w23.heap.size := World.grownBy.size e24
  replace hB := below_ext hB e24
  clear e24
  refine XO.do rfl (D.asn (v := pt b29 0) rfl rfl ?_)
  refine XO.nil ?_
  refine hM22 _ _ ?_
  refine X.seq fun M728 hM729 => ?_
  refine X.seq fun M730 hM731 => ?_
  refine X.region ?_
  refine XO.do rfl (D.asn (v := .int .i64 0) rfl rfl ?_)
  refine XO.nil ?_
  refine hM731 _ _ ?_
  refine X.block ?_
  refine X.loop (fun kq5577 => fun f1089 w1088 => ∃ M1084 : Nat → Prop, ∃ x1085 : Pack, ∃ x1086 : Int, f1089 0 = .slice A2 a1.length k3 ∧ f1089 1 = .slice A7 a6.length k8 ∧ f1089 5 = .bool r19 ∧ f1089 6 = pt b29 0 ∧ f1089 7 = .int .i64 x1086 ∧ Below w.heap.size w w1088 ∧ okPack.is w1088 M1084 b29 x1085 ∧ (∀ x, M1084 x → w.heap.size ≤ x) ∧ (∀ x, M1084 x → w16.heap.size ≤ x) ∧ w16.heap.size ≤ w1088.heap.size ∧ derricklaw05_RecordBack.l1 a1 a6 r19 kq5577 x1085 x1086 = some res) kf ?_ ?_
  · exact ⟨M28, r26, 0, rfl, rfl, rfl, rfl, rfl, hB, H30, z32, g31, bs32, h⟩
  · intro kq5577 f1089 w1088 hI
    obtain ⟨M1084, x1085, x1086, s1090, s1091, s1092, s1093, s1094, hB, H1083, hg32, hh32, bs32, h⟩ := hI
    cases kq5577 with
    | zero => exact absurd h (by rw [derricklaw05_RecordBack.l1.eq_1]; simp)
    | succ kf1082 =>
      rw [derricklaw05_RecordBack.l1.eq_2] at h
      refine X.fr (d := 0) s1090 ?_
      refine X.fr (d := 1) s1091 ?_
      refine X.fr (d := 5) s1092 ?_
      refine X.fr (d := 6) s1093 ?_
      refine X.fr (d := 7) s1094 ?_
      refine X.seq fun M1110 hM1111 => ?_
      refine X.cut (fun f1116 w1115 => ∃ x1114 : Bool, f1116 0 = .slice A2 a1.length k3 ∧ f1116 1 = .slice A7 a6.length k8 ∧ f1116 5 = .bool r19 ∧ f1116 6 = pt b29 0 ∧ f1116 7 = .int .i64 x1086 ∧ f1116 26 = .bool x1114 ∧ Below w.heap.size w w1115 ∧ okPack.is w1115 M1084 b29 x1085 ∧ w16.heap.size ≤ w1115.heap.size ∧ derricklaw05_RecordBack.j2 x1086 a1 a6 x1085 (derricklaw05_RecordBack.l1 a1 a6 r19 kf1082) r19 kf1082 x1114 = some res) ?_ ?_
      · refine X.region ?_
        refine XO.do rfl (D.mv (v := .int .i64 x1086) rfl rfl ?_)
        refine XO.do rfl (D.mv (v := .slice A2 a1.length k3) rfl rfl ?_)
        refine XO.do rfl (D.lenR (A := A2) (c := k3) (m := a1.length) Try.underlying33 rfl rfl ?_)
        refine XO.do rfl (D.lss rfl rfl rfl ?_)
        refine XO.do rfl (D.mv (v := .bool (decide (x1086 < (a1.length : Int)))) rfl rfl ?_)
        by_cases c5576 : x1086 < (a1.length : Int)
        · rw [if_pos c5576] at h
          refine XO.do (wantG (j := 4) (b := true) rfl (decide_eq_true c5576) rfl) (D.mv (v := .int .i64 x1086) rfl rfl ?_)
          refine XO.do (wantG (j := 4) (b := true) rfl (decide_eq_true c5576) rfl) (D.lss rfl rfl rfl ?_)
          refine XO.do rfl (D.pick true (v := .bool (decide (x1086 < 20))) (congrArg Value.bool (decide_eq_true c5576)) rfl rfl ?_)
          refine XO.nil ?_
          exact ⟨(decide (x1086 < 20)), rfl, rfl, rfl, rfl, rfl, rfl, hB, H1083, bs32, h⟩
        · rw [if_neg c5576] at h
          refine XO.off (wantG0 (j := 4) (b := true) rfl (decide_eq_false c5576) rfl) rfl rfl ?_
          refine XO.off (wantG0 (j := 4) (b := true) rfl (decide_eq_false c5576) rfl) rfl rfl ?_
          refine XO.do rfl (D.pick false (v := .bool false) (congrArg Value.bool (decide_eq_false c5576)) rfl rfl ?_)
          refine XO.nil ?_
          exact ⟨false, rfl, rfl, rfl, rfl, rfl, rfl, hB, H1083, bs32, h⟩
      · intro f1116 w1115 hI
        obtain ⟨x1114, s1117, s1118, s1119, s1120, s1121, s1122, hB, H1113, bs32, h⟩ := hI
        refine X.fr (d := 0) s1117 ?_
        refine X.fr (d := 1) s1118 ?_
        refine X.fr (d := 5) s1119 ?_
        refine X.fr (d := 6) s1120 ?_
        refine X.fr (d := 7) s1121 ?_
        refine X.fr (d := 26) s1122 ?_
        unfold derricklaw05_RecordBack.j2 at h
        by_cases c1123 : x1114 = true
        · rw [if_pos c1123] at h
          refine X.condT (congrArg Value.bool (c1123)) ?_
          refine X.skip ?_
          refine hM1111 _ _ ?_
          refine X.seq fun M1272 hM1273 => ?_
          refine X.block ?_
          refine X.seq fun M1290 hM1291 => ?_
          refine X.seq fun M1292 hM1293 => ?_
          refine X.region ?_
          refine XO.do rfl (D.mv (v := .slice A2 a1.length k3) rfl rfl ?_)
          refine XO.do rfl (D.mv (v := .int .i64 x1086) rfl rfl ?_)
          rcases (Classical.em (0 ≤ x1086)).symm with c1294 | c1294
          · rw [if_neg c1294] at h; cases h
          rw [if_pos c1294] at h
          rcases (Classical.em (x1086 < (a1.length : Int))).symm with c1295 | c1295
          · rw [if_neg c1295] at h; cases h
          rw [if_pos c1295] at h
          refine XO.do rfl (D.indexR (i := x1086) Try.underlying33 sz25 (H4.below hB) rfl rfl c1294 c1295 rfl ?_)
          intro b1296 o1297 _ H1298
          refine XO.do rfl (D.loadA (j := 0) (us := [S ((rd a1 x1086).name), .int .u16 ((rd a1 x1086).ty), .int .u16 ((rd a1 x1086).cls), .int .u32 ((rd a1 x1086).ttl), S ((rd a1 x1086).data)]) ag25 H1298 rfl rfl rfl rfl rfl ?_)
          obtain ⟨r1303, q1304, h⟩ := lt_elim h
          have hc1302 := derricklaw05_few.ok (rd a1 x1086) w1115 
          rw [q1304] at hc1302
          clear q1304
          refine XO.do rfl (D.call (vs := [.agg #[S ((rd a1 x1086).name), .int .u16 ((rd a1 x1086).ty), .int .u16 ((rd a1 x1086).cls), .int .u32 ((rd a1 x1086).ttl), S ((rd a1 x1086).data)]]) cf8 hc1302 rfl rfl ?_)
          rintro _ w1300 ⟨rfl, e1301⟩
          clear hc1302
          replace hB := below_ext hB e1301
          replace H1113 := H1113.ext e1301
          replace bs32 := Nat.le_trans bs32 (World.grownBy.size e1301)
          replace H1298 := H1298.ext e1301
          clear e1301
          refine XO.do rfl (D.not r1303 rfl rfl ?_)
          refine XO.nil ?_
          refine hM1293 _ _ ?_
          by_cases c1305 : r1303 = true
          · rw [if_pos c1305] at h
            refine X.condF (congrArg Value.bool ((congrArg (!·) (c1305)))) ?_
            refine X.skip ?_
            refine hM1291 _ _ ?_
            refine X.cut (fun f1353 w1352 => ∃ M1350 : Nat → Prop, ∃ x1351 : Pack, f1353 0 = .slice A2 a1.length k3 ∧ f1353 1 = .slice A7 a6.length k8 ∧ f1353 5 = .bool r19 ∧ f1353 6 = pt b29 0 ∧ f1353 7 = .int .i64 x1086 ∧ Below w.heap.size w w1352 ∧ okPack.is w1352 M1350 b29 x1351 ∧ (∀ x, M1350 x → w.heap.size ≤ x) ∧ (∀ x, M1350 x → w16.heap.size ≤ x) ∧ w16.heap.size ≤ w1352.heap.size ∧ derricklaw05_RecordBack.j3 a1 x1086 (derricklaw05_RecordBack.l1 a1 a6 r19 kf1082) x1351 = some res) ?_ ?_
            · refine X.cut (fun f1385 w1384 => ∃ x1383 : Bool, f1385 0 = .slice A2 a1.length k3 ∧ f1385 1 = .slice A7 a6.length k8 ∧ f1385 5 = .bool r19 ∧ f1385 6 = pt b29 0 ∧ f1385 7 = .int .i64 x1086 ∧ f1385 45 = .bool x1383 ∧ Below w.heap.size w w1384 ∧ okPack.is w1384 M1084 b29 x1085 ∧ w16.heap.size ≤ w1384.heap.size ∧ derricklaw05_RecordBack.j4 a1 x1086 x1085 (derricklaw05_RecordBack.l1 a1 a6 r19 kf1082) x1383 = some res) ?_ ?_
              · refine X.region ?_
                refine XO.do rfl (D.mv (v := .int .i64 x1086) rfl rfl ?_)
                refine XO.do rfl (D.mv (v := .slice A7 a6.length k8) rfl rfl ?_)
                refine XO.do rfl (D.lenR (A := A7) (c := k8) (m := a6.length) Try.underlying34 rfl rfl ?_)
                refine XO.do rfl (D.lss rfl rfl rfl ?_)
                refine XO.do rfl (D.mv (v := .bool (decide (x1086 < (a6.length : Int)))) rfl rfl ?_)
                by_cases c1415 : x1086 < (a6.length : Int)
                · rw [if_pos c1415] at h
                  refine XO.do (wantG (j := 4) (b := true) rfl (decide_eq_true c1415) rfl) (D.mv (v := .slice A7 a6.length k8) rfl rfl ?_)
                  refine XO.do (wantG (j := 4) (b := true) rfl (decide_eq_true c1415) rfl) (D.mv (v := .int .i64 x1086) rfl rfl ?_)
                  refine XO.do (wantG (j := 4) (b := true) rfl (decide_eq_true c1415) rfl) (D.indexR (i := x1086) Try.underlying34 sz4 (H9.below hB) rfl rfl c1294 c1415 rfl ?_)
                  intro b1416 o1417 _ H1418
                  refine XO.do (wantG (j := 4) (b := true) rfl (decide_eq_true c1415) rfl) (D.load (j := 0) (v := .bool (rd a6 x1086)) sc4 H1418 rfl rfl rfl rfl ?_)
                  refine XO.do rfl (D.pick true (v := .bool (rd a6 x1086)) (congrArg Value.bool (decide_eq_true c1415)) rfl rfl ?_)
                  refine XO.nil ?_
                  exact ⟨(rd a6 x1086), rfl, rfl, rfl, rfl, rfl, rfl, hB, H1113, bs32, h⟩
                · rw [if_neg c1415] at h
                  refine XO.off (wantG0 (j := 4) (b := true) rfl (decide_eq_false c1415) rfl) rfl rfl ?_
                  refine XO.off (wantG0 (j := 4) (b := true) rfl (decide_eq_false c1415) rfl) rfl rfl ?_
                  refine XO.off (wantG0 (j := 4) (b := true) rfl (decide_eq_false c1415) rfl) rfl rfl ?_
                  refine XO.off (wantG0 (j := 4) (b := true) rfl (decide_eq_false c1415) rfl) rfl rfl ?_
                  refine XO.do rfl (D.pick false (v := .bool false) (congrArg Value.bool (decide_eq_false c1415)) rfl rfl ?_)
                  refine XO.nil ?_
                  exact ⟨false, rfl, rfl, rfl, rfl, rfl, rfl, hB, H1113, bs32, h⟩
              · intro f1385 w1384 hI
                obtain ⟨x1383, s1386, s1387, s1388, s1389, s1390, s1391, hB, H1382, bs32, h⟩ := hI
                refine X.fr (d := 0) s1386 ?_
                refine X.fr (d := 1) s1387 ?_
                refine X.fr (d := 5) s1388 ?_
                refine X.fr (d := 6) s1389 ?_
                refine X.fr (d := 7) s1390 ?_
                refine X.fr (d := 45) s1391 ?_
                unfold derricklaw05_RecordBack.j4 at h
                by_cases c1392 : x1383 = true
                · rw [if_pos c1392] at h
                  refine X.condT (congrArg Value.bool (c1392)) ?_
                  refine X.region ?_
                  refine XO.do rfl (D.mv (v := pt b29 0) rfl rfl ?_)
                  refine XO.do rfl (D.mv (v := .slice A2 a1.length k3) rfl rfl ?_)
                  refine XO.do rfl (D.mv (v := .int .i64 x1086) rfl rfl ?_)
                  refine XO.do rfl (D.indexR (i := x1086) Try.underlying33 sz25 (H4.below hB) rfl rfl c1294 c1295 rfl ?_)
                  intro b1393 o1394 _ H1395
                  refine XO.do rfl (D.loadA (j := 0) (us := [S ((rd a1 x1086).name), .int .u16 ((rd a1 x1086).ty), .int .u16 ((rd a1 x1086).cls), .int .u32 ((rd a1 x1086).ttl), S ((rd a1 x1086).data)]) ag25 H1395 rfl rfl rfl rfl rfl ?_)
                  obtain ⟨r1400, q1401, h⟩ := lt_elim h
                  have hc1399 := record_Key.ok (rd a1 x1086) w1384 
                  rw [q1401] at hc1399
                  clear q1401
                  refine XO.do rfl (D.call (vs := [.agg #[S ((rd a1 x1086).name), .int .u16 ((rd a1 x1086).ty), .int .u16 ((rd a1 x1086).cls), .int .u32 ((rd a1 x1086).ttl), S ((rd a1 x1086).data)]]) cf10 hc1399 rfl rfl ?_)
                  rintro _ w1397 ⟨rfl, e1398⟩
                  clear hc1399
                  replace hB := below_ext hB e1398
                  replace H1382 := H1382.ext e1398
                  replace bs32 := Nat.le_trans bs32 (World.grownBy.size e1398)
                  replace H1395 := H1395.ext e1398
                  clear e1398
                  rcases (Classical.em (record_PutQ.pre x1085 r1400)).symm with c1402 | c1402
                  · rw [if_neg c1402] at h; cases h
                  rw [if_pos c1402] at h
                  obtain ⟨r1406, q1407, h⟩ := lt_elim h
                  have hc1405 := record_PutQ.ok x1085 r1400 M1084 b29 w1397 H1382 c1402 
                  rw [q1407] at hc1405
                  clear q1407
                  refine XO.do rfl (D.call (vs := [pt b29 0, .agg #[S r1400.name, .int .u16 r1400.ty, .int .u16 r1400.cls]]) cf13 hc1405 rfl rfl ?_)
                  rintro _ w1408 ⟨M1411, rfl, H1409, u1412, e1410⟩
                  clear hc1405
                  have hh32n := ge_sub u1412 hh32 bs32
                  have v1095n := ge_sub u1412 hg32 hB.size
                  replace hB := below_gm hB e1410 hg32
                  replace hh32 := hh32n
                  replace bs32 := Nat.le_trans bs32 e1410.size
                  clear e1410 u1412 H1382
                  have v1413 := v1095n
                  clear v1095n
                  refine XO.nil ?_
                  exact ⟨M1411, r1406.2, rfl, rfl, rfl, rfl, rfl, hB, H1409, v1413, hh32, bs32, h⟩
                · rw [if_neg c1392] at h
                  refine X.condF (congrArg Value.bool ((Bool.eq_false_iff.2 c1392))) ?_
                  refine X.skip ?_
                  exact ⟨M1084, x1085, rfl, rfl, rfl, rfl, rfl, hB, H1382, hg32, hh32, bs32, h⟩
            · intro f1353 w1352 hI
              obtain ⟨M1350, x1351, s1354, s1355, s1356, s1357, s1358, hB, H1349, hg32, hh32, bs32, h⟩ := hI
              refine X.fr (d := 0) s1354 ?_
              refine X.fr (d := 1) s1355 ?_
              refine X.fr (d := 5) s1356 ?_
              refine X.fr (d := 6) s1357 ?_
              refine X.fr (d := 7) s1358 ?_
              unfold derricklaw05_RecordBack.j3 at h
              refine X.region ?_
              refine XO.do rfl (D.mv (v := pt b29 0) rfl rfl ?_)
              refine XO.do rfl (D.mv (v := .slice A2 a1.length k3) rfl rfl ?_)
              refine XO.do rfl (D.mv (v := .int .i64 x1086) rfl rfl ?_)
              refine XO.do rfl (D.indexR (i := x1086) Try.underlying33 sz25 (H4.below hB) rfl rfl c1294 c1295 rfl ?_)
              intro b1360 o1361 _ H1362
              refine XO.do rfl (D.loadA (j := 0) (us := [S ((rd a1 x1086).name), .int .u16 ((rd a1 x1086).ty), .int .u16 ((rd a1 x1086).cls), .int .u32 ((rd a1 x1086).ttl), S ((rd a1 x1086).data)]) ag25 H1362 rfl rfl rfl rfl rfl ?_)
              rcases (Classical.em (record_Put.pre x1351 (rd a1 x1086))).symm with c1364 | c1364
              · rw [if_neg c1364] at h; cases h
              rw [if_pos c1364] at h
              obtain ⟨r1368, q1369, h⟩ := lt_elim h
              have hc1367 := record_Put.ok x1351 (rd a1 x1086) M1350 b29 w1352 H1349 c1364 
              rw [q1369] at hc1367
              clear q1369
              refine XO.do rfl (D.call (vs := [pt b29 0, .agg #[S ((rd a1 x1086).name), .int .u16 ((rd a1 x1086).ty), .int .u16 ((rd a1 x1086).cls), .int .u32 ((rd a1 x1086).ttl), S ((rd a1 x1086).data)]]) cf15 hc1367 rfl rfl ?_)
              rintro _ w1370 ⟨M1373, rfl, H1371, u1374, e1372⟩
              clear hc1367
              have hh32n := ge_sub u1374 hh32 bs32
              have v1359n := ge_sub u1374 hg32 hB.size
              replace hB := below_gm hB e1372 hg32
              replace hh32 := hh32n
              replace bs32 := Nat.le_trans bs32 e1372.size
              clear e1372 u1374 H1349
              have v1375 := v1359n
              clear v1359n
              refine XO.nil ?_
              refine hM1273 _ _ ?_
              refine X.region ?_
              refine XO.do rfl (D.mv (v := .int .i64 x1086) rfl rfl ?_)
              refine XO.do rfl (D.add rfl rfl rfl ?_)
              refine XO.do rfl (D.asn (v := .int .i64 (w64 (x1086 + 1))) rfl rfl ?_)
              refine XO.nil ?_
              exact ⟨kf1082, Nat.lt_succ_self _, M1373, r1368.2, w64 (x1086 + 1), rfl, rfl, rfl, rfl, rfl, hB, H1371, v1375, hh32, bs32, h⟩
          · rw [if_neg c1305] at h
            refine X.condT (congrArg Value.bool ((congrArg (!·) ((Bool.eq_false_iff.2 c1305))))) ?_
            refine X.seq fun M1420 hM1421 => ?_
            refine X.region ?_
            refine XO.do rfl (D.mv (v := .bool r19) rfl rfl ?_)
            refine XO.do rfl (D.asn (v := .bool r19) rfl rfl ?_)
            refine XO.nil ?_
            refine hM1421 _ _ ?_
            refine X.ret ?_
            injection h with h
            subst h
            exact hR _ _ _ (ret1 (v := .bool r19) rfl rfl) ⟨rfl, ext_of_below hB⟩
        · rw [if_neg c1123] at h
          refine X.condF (congrArg Value.bool ((Bool.eq_false_iff.2 c1123))) ?_
          refine X.exit rfl ?_
          refine hM729 _ _ ?_
          refine X.seq fun M1422 hM1423 => ?_
          refine X.region ?_
          refine XO.do rfl (D.mv (v := pt b29 0) rfl rfl ?_)
          obtain ⟨r1427, q1428, h⟩ := lt_elim h
          have hc1426 := wire_Pack_Out.ok x1085 M1084 b29 w1115 H1113 
          rw [q1428] at hc1426
          clear q1428
          refine XO.do rfl (D.call (vs := [pt b29 0]) cf17 hc1426 rfl rfl ?_)
          rintro _ w1424 ⟨rfl, e1425⟩
          clear hc1426
          replace hB := below_ext hB e1425
          replace H1113 := H1113.ext e1425
          replace bs32 := Nat.le_trans bs32 (World.grownBy.size e1425)
          clear e1425
          refine XO.do rfl (D.asn (v := S r1427) rfl rfl ?_)
          refine XO.nil ?_
          refine hM1423 _ _ ?_
          refine X.seq fun M1429 hM1430 => ?_
          refine X.region ?_
          refine XO.do rfl (D.asn (v := .int .i64 0) rfl rfl ?_)
          refine XO.nil ?_
          refine hM1430 _ _ ?_
          refine X.seq fun M3501 hM3502 => ?_
          refine X.seq fun M3503 hM3504 => ?_
          refine X.region ?_
          refine XO.do rfl (D.asn (v := .int .i64 0) rfl rfl ?_)
          refine XO.nil ?_
          refine hM3504 _ _ ?_
          refine X.block ?_
          refine X.loop (fun kq5575 => fun f4547 w4546 => ∃ x4543 : Int, ∃ x4544 : Int, f4547 0 = .slice A2 a1.length k3 ∧ f4547 1 = .slice A7 a6.length k8 ∧ f4547 5 = .bool r19 ∧ f4547 8 = S r1427 ∧ f4547 9 = .int .i64 x4543 ∧ f4547 10 = .int .i64 x4544 ∧ Below w.heap.size w w4546 ∧ derricklaw05_RecordBack.l5 a1 a6 r1427 r19 kq5575 x4543 x4544 = some res) kf1082 ?_ ?_
          · exact ⟨0, 0, rfl, rfl, rfl, rfl, rfl, rfl, hB, h⟩
          · intro kq5575 f4547 w4546 hI
            obtain ⟨x4543, x4544, s4548, s4549, s4550, s4551, s4552, s4553, hB, h⟩ := hI
            cases kq5575 with
            | zero => exact absurd h (by rw [derricklaw05_RecordBack.l5.eq_1]; simp)
            | succ kf4542 =>
              rw [derricklaw05_RecordBack.l5.eq_2] at h
              refine X.fr (d := 0) s4548 ?_
              refine X.fr (d := 1) s4549 ?_
              refine X.fr (d := 5) s4550 ?_
              refine X.fr (d := 8) s4551 ?_
              refine X.fr (d := 9) s4552 ?_
              refine X.fr (d := 10) s4553 ?_
              refine X.seq fun M4568 hM4569 => ?_
              refine X.cut (fun f4573 w4572 => ∃ x4571 : Bool, f4573 0 = .slice A2 a1.length k3 ∧ f4573 1 = .slice A7 a6.length k8 ∧ f4573 5 = .bool r19 ∧ f4573 8 = S r1427 ∧ f4573 9 = .int .i64 x4543 ∧ f4573 10 = .int .i64 x4544 ∧ f4573 68 = .bool x4571 ∧ Below w.heap.size w w4572 ∧ derricklaw05_RecordBack.j6 x4544 a6 a1 r1427 x4543 (derricklaw05_RecordBack.l5 a1 a6 r1427 r19 kf4542) r19 x4571 = some res) ?_ ?_
              · refine X.region ?_
                refine XO.do rfl (D.mv (v := .int .i64 x4544) rfl rfl ?_)
                refine XO.do rfl (D.mv (v := .slice A2 a1.length k3) rfl rfl ?_)
                refine XO.do rfl (D.lenR (A := A2) (c := k3) (m := a1.length) Try.underlying33 rfl rfl ?_)
                refine XO.do rfl (D.lss rfl rfl rfl ?_)
                refine XO.do rfl (D.mv (v := .bool (decide (x4544 < (a1.length : Int)))) rfl rfl ?_)
                by_cases c5574 : x4544 < (a1.length : Int)
                · rw [if_pos c5574] at h
                  refine XO.do (wantG (j := 4) (b := true) rfl (decide_eq_true c5574) rfl) (D.mv (v := .int .i64 x4544) rfl rfl ?_)
                  refine XO.do (wantG (j := 4) (b := true) rfl (decide_eq_true c5574) rfl) (D.lss rfl rfl rfl ?_)
                  refine XO.do rfl (D.pick true (v := .bool (decide (x4544 < 20))) (congrArg Value.bool (decide_eq_true c5574)) rfl rfl ?_)
                  refine XO.nil ?_
                  exact ⟨(decide (x4544 < 20)), rfl, rfl, rfl, rfl, rfl, rfl, rfl, hB, h⟩
                · rw [if_neg c5574] at h
                  refine XO.off (wantG0 (j := 4) (b := true) rfl (decide_eq_false c5574) rfl) rfl rfl ?_
                  refine XO.off (wantG0 (j := 4) (b := true) rfl (decide_eq_false c5574) rfl) rfl rfl ?_
                  refine XO.do rfl (D.pick false (v := .bool false) (congrArg Value.bool (decide_eq_false c5574)) rfl rfl ?_)
                  refine XO.nil ?_
                  exact ⟨false, rfl, rfl, rfl, rfl, rfl, rfl, rfl, hB, h⟩
              · intro f4573 w4572 hI
                obtain ⟨x4571, s4574, s4575, s4576, s4577, s4578, s4579, s4580, hB, h⟩ := hI
                refine X.fr (d := 0) s4574 ?_
                refine X.fr (d := 1) s4575 ?_
                refine X.fr (d := 5) s4576 ?_
                refine X.fr (d := 8) s4577 ?_
                refine X.fr (d := 9) s4578 ?_
                refine X.fr (d := 10) s4579 ?_
                refine X.fr (d := 68) s4580 ?_
                unfold derricklaw05_RecordBack.j6 at h
                by_cases c4581 : x4571 = true
                · rw [if_pos c4581] at h
                  refine X.condT (congrArg Value.bool (c4581)) ?_
                  refine X.skip ?_
                  refine hM4569 _ _ ?_
                  refine X.cut (fun f5074 w5073 => ∃ x5072 : Int, f5074 0 = .slice A2 a1.length k3 ∧ f5074 1 = .slice A7 a6.length k8 ∧ f5074 5 = .bool r19 ∧ f5074 8 = S r1427 ∧ f5074 9 = .int .i64 x5072 ∧ f5074 10 = .int .i64 x4544 ∧ Below w.heap.size w w5073 ∧ derricklaw05_RecordBack.j7 (derricklaw05_RecordBack.l5 a1 a6 r1427 r19 kf4542) x4544 x5072 = some res) ?_ ?_
                  · refine X.block ?_
                    refine X.cut (fun f5261 w5260 => ∃ x5259 : Int, f5261 0 = .slice A2 a1.length k3 ∧ f5261 1 = .slice A7 a6.length k8 ∧ f5261 5 = .bool r19 ∧ f5261 8 = S r1427 ∧ f5261 9 = .int .i64 x5259 ∧ f5261 10 = .int .i64 x4544 ∧ Below w.heap.size w w5260 ∧ derricklaw05_RecordBack.j8 x4544 a1 r1427 (derricklaw05_RecordBack.l5 a1 a6 r1427 r19 kf4542) x5259 = some res) ?_ ?_
                    · refine X.cut (fun f5418 w5417 => ∃ x5416 : Bool, f5418 0 = .slice A2 a1.length k3 ∧ f5418 1 = .slice A7 a6.length k8 ∧ f5418 5 = .bool r19 ∧ f5418 8 = S r1427 ∧ f5418 9 = .int .i64 x4543 ∧ f5418 10 = .int .i64 x4544 ∧ f5418 88 = .bool x5416 ∧ Below w.heap.size w w5417 ∧ derricklaw05_RecordBack.j10 r1427 x4543 x4544 a1 (derricklaw05_RecordBack.l5 a1 a6 r1427 r19 kf4542) x5416 = some res) ?_ ?_
                      · refine X.region ?_
                        refine XO.do rfl (D.mv (v := .int .i64 x4544) rfl rfl ?_)
                        refine XO.do rfl (D.mv (v := .slice A7 a6.length k8) rfl rfl ?_)
                        refine XO.do rfl (D.lenR (A := A7) (c := k8) (m := a6.length) Try.underlying34 rfl rfl ?_)
                        refine XO.do rfl (D.lss rfl rfl rfl ?_)
                        refine XO.do rfl (D.mv (v := .bool (decide (x4544 < (a6.length : Int)))) rfl rfl ?_)
                        by_cases c5548 : x4544 < (a6.length : Int)
                        · rw [if_pos c5548] at h
                          refine XO.do (wantG (j := 4) (b := true) rfl (decide_eq_true c5548) rfl) (D.mv (v := .slice A7 a6.length k8) rfl rfl ?_)
                          refine XO.do (wantG (j := 4) (b := true) rfl (decide_eq_true c5548) rfl) (D.mv (v := .int .i64 x4544) rfl rfl ?_)
                          rcases (Classical.em (0 ≤ x4544)).symm with c5549 | c5549
                          · rw [if_neg c5549] at h; cases h
                          rw [if_pos c5549] at h
                          refine XO.do (wantG (j := 4) (b := true) rfl (decide_eq_true c5548) rfl) (D.indexR (i := x4544) Try.underlying34 sz4 (H9.below hB) rfl rfl c5549 c5548 rfl ?_)
                          intro b5550 o5551 _ H5552
                          refine XO.do (wantG (j := 4) (b := true) rfl (decide_eq_true c5548) rfl) (D.load (j := 0) (v := .bool (rd a6 x4544)) sc4 H5552 rfl rfl rfl rfl ?_)
                          refine XO.do rfl (D.pick true (v := .bool (rd a6 x4544)) (congrArg Value.bool (decide_eq_true c5548)) rfl rfl ?_)
                          refine XO.do rfl (D.mv (v := .bool (rd a6 x4544)) rfl rfl ?_)
                          by_cases c5554 : (rd a6 x4544) = true
                          · rw [if_pos c5554] at h
                            refine XO.do (wantG (j := 10) (b := true) rfl (c5554) rfl) (D.mv (v := .slice A2 a1.length k3) rfl rfl ?_)
                            refine XO.do (wantG (j := 10) (b := true) rfl (c5554) rfl) (D.mv (v := .int .i64 x4544) rfl rfl ?_)
                            rcases (Classical.em (x4544 < (a1.length : Int))).symm with c5555 | c5555
                            · rw [if_neg c5555] at h; cases h
                            rw [if_pos c5555] at h
                            refine XO.do (wantG (j := 10) (b := true) rfl (c5554) rfl) (D.indexR (i := x4544) Try.underlying33 sz25 (H4.below hB) rfl rfl c5549 c5555 rfl ?_)
                            intro b5556 o5557 _ H5558
                            refine XO.do (wantG (j := 10) (b := true) rfl (c5554) rfl) (D.loadA (j := 0) (us := [S ((rd a1 x4544).name), .int .u16 ((rd a1 x4544).ty), .int .u16 ((rd a1 x4544).cls), .int .u32 ((rd a1 x4544).ttl), S ((rd a1 x4544).data)]) ag25 H5558 rfl rfl rfl rfl rfl ?_)
                            obtain ⟨r5563, q5564, h⟩ := lt_elim h
                            have hc5562 := record_Key.ok (rd a1 x4544) w4572 
                            rw [q5564] at hc5562
                            clear q5564
                            refine XO.do (wantG (j := 10) (b := true) rfl (c5554) rfl) (D.call (vs := [.agg #[S ((rd a1 x4544).name), .int .u16 ((rd a1 x4544).ty), .int .u16 ((rd a1 x4544).cls), .int .u32 ((rd a1 x4544).ttl), S ((rd a1 x4544).data)]]) cf10 hc5562 rfl rfl ?_)
                            rintro _ w5560 ⟨rfl, e5561⟩
                            clear hc5562
                            replace hB := below_ext hB e5561
                            replace H5552 := H5552.ext e5561
                            replace H5558 := H5558.ext e5561
                            clear e5561
                            rcases (Classical.em (record_MayQ.pre r5563)).symm with c5565 | c5565
                            · rw [if_neg c5565] at h; cases h
                            rw [if_pos c5565] at h
                            obtain ⟨r5569, q5570, h⟩ := lt_elim h
                            have hc5568 := record_MayQ.ok r5563 w5560 c5565 
                            rw [q5570] at hc5568
                            clear q5570
                            refine XO.do (wantG (j := 10) (b := true) rfl (c5554) rfl) (D.call (vs := [.agg #[S r5563.name, .int .u16 r5563.ty, .int .u16 r5563.cls]]) cf23 hc5568 rfl rfl ?_)
                            rintro _ w5566 ⟨rfl, e5567⟩
                            clear hc5568
                            replace hB := below_ext hB e5567
                            replace H5552 := H5552.ext e5567
                            replace H5558 := H5558.ext e5567
                            clear e5567
                            refine XO.do rfl (D.pick true (v := .bool r5569) (congrArg Value.bool (c5554)) rfl rfl ?_)
                            refine XO.nil ?_
                            exact ⟨r5569, rfl, rfl, rfl, rfl, rfl, rfl, rfl, hB, h⟩
                          · rw [if_neg c5554] at h
                            refine XO.off (wantG0 (j := 10) (b := true) rfl ((Bool.eq_false_iff.2 c5554)) rfl) rfl rfl ?_
                            refine XO.off (wantG0 (j := 10) (b := true) rfl ((Bool.eq_false_iff.2 c5554)) rfl) rfl rfl ?_
                            refine XO.off (wantG0 (j := 10) (b := true) rfl ((Bool.eq_false_iff.2 c5554)) rfl) rfl rfl ?_
                            refine XO.off (wantG0 (j := 10) (b := true) rfl ((Bool.eq_false_iff.2 c5554)) rfl) rfl rfl ?_
                            refine XO.off (wantG0 (j := 10) (b := true) rfl ((Bool.eq_false_iff.2 c5554)) rfl) rfl rfl ?_
                            refine XO.off (wantG0 (j := 10) (b := true) rfl ((Bool.eq_false_iff.2 c5554)) rfl) rfl rfl ?_
                            refine XO.do rfl (D.pick false (v := .bool false) (congrArg Value.bool ((Bool.eq_false_iff.2 c5554))) rfl rfl ?_)
                            refine XO.nil ?_
                            exact ⟨false, rfl, rfl, rfl, rfl, rfl, rfl, rfl, hB, h⟩
                        · rw [if_neg c5548] at h
                          refine XO.off (wantG0 (j := 4) (b := true) rfl (decide_eq_false c5548) rfl) rfl rfl ?_
                          refine XO.off (wantG0 (j := 4) (b := true) rfl (decide_eq_false c5548) rfl) rfl rfl ?_
                          refine XO.off (wantG0 (j := 4) (b := true) rfl (decide_eq_false c5548) rfl) rfl rfl ?_
                          refine XO.off (wantG0 (j := 4) (b := true) rfl (decide_eq_false c5548) rfl) rfl rfl ?_
                          refine XO.do rfl (D.pick false (v := .bool false) (congrArg Value.bool (decide_eq_false c5548)) rfl rfl ?_)
                          refine XO.do rfl (D.mv (v := .bool false) rfl rfl ?_)
                          refine XO.off (wantG0 (j := 10) (b := true) rfl (rfl) rfl) rfl rfl ?_
                          refine XO.off (wantG0 (j := 10) (b := true) rfl (rfl) rfl) rfl rfl ?_
                          refine XO.off (wantG0 (j := 10) (b := true) rfl (rfl) rfl) rfl rfl ?_
                          refine XO.off (wantG0 (j := 10) (b := true) rfl (rfl) rfl) rfl rfl ?_
                          refine XO.off (wantG0 (j := 10) (b := true) rfl (rfl) rfl) rfl rfl ?_
                          refine XO.off (wantG0 (j := 10) (b := true) rfl (rfl) rfl) rfl rfl ?_
                          refine XO.do rfl (D.pick false (v := .bool false) (congrArg Value.bool (rfl)) rfl rfl ?_)
                          refine XO.nil ?_
                          exact ⟨false, rfl, rfl, rfl, rfl, rfl, rfl, rfl, hB, h⟩
                      · intro f5418 w5417 hI
                        obtain ⟨x5416, s5419, s5420, s5421, s5422, s5423, s5424, s5425, hB, h⟩ := hI
                        refine X.fr (d := 0) s5419 ?_
                        refine X.fr (d := 1) s5420 ?_
                        refine X.fr (d := 5) s5421 ?_
                        refine X.fr (d := 8) s5422 ?_
                        refine X.fr (d := 9) s5423 ?_
                        refine X.fr (d := 10) s5424 ?_
                        refine X.fr (d := 88) s5425 ?_
                        unfold derricklaw05_RecordBack.j10 at h
                        by_cases c5426 : x5416 = true
                        · rw [if_pos c5426] at h
                          refine X.condT (congrArg Value.bool (c5426)) ?_
                          refine X.seq fun M5427 hM5428 => ?_
                          refine X.region ?_
                          refine XO.do rfl (D.mv (v := S r1427) rfl rfl ?_)
                          refine XO.do rfl (D.mv (v := .int .i64 x4543) rfl rfl ?_)
                          rcases (Classical.em (record_TakeQ.pre r1427 x4543)).symm with c5429 | c5429
                          · rw [if_neg c5429] at h; cases h
                          rw [if_pos c5429] at h
                          obtain ⟨r5433, q5434, h⟩ := lt_elim h
                          have hc5432 := record_TakeQ.ok r1427 x4543 w5417 c5429 
                          rw [q5434] at hc5432
                          clear q5434
                          refine XO.do rfl (D.call (vs := [S r1427, .int .i64 x4543]) cf20 hc5432 rfl rfl ?_)
                          rintro _ w5430 ⟨rfl, e5431⟩
                          clear hc5432
                          replace hB := below_ext hB e5431
                          clear e5431
                          refine XO.do rfl (D.mv (v := .tuple #[.agg #[S r5433.1.name, .int .u16 r5433.1.ty, .int .u16 r5433.1.cls], .int .i64 r5433.2.1, .int .i64 r5433.2.2]) rfl rfl ?_)
                          refine XO.do rfl (D.extract (v := .agg #[S r5433.1.name, .int .u16 r5433.1.ty, .int .u16 r5433.1.cls]) rfl rfl rfl ?_)
                          refine XO.do rfl (D.extract (v := .int .i64 r5433.2.1) rfl rfl rfl ?_)
                          refine XO.do rfl (D.extract (v := .int .i64 r5433.2.2) rfl rfl rfl ?_)
                          refine XO.do rfl (D.alloc ti30 (cs := [S [], .int .u16 0, .int .u16 0]) rfl rfl ?_)
                          intro b5435 w5436 hb5437 H5438 e5439 _
                          have g5440 : w.heap.size ≤ b5435 := Nat.le_trans hB.size (Nat.le_of_eq hb5437.symm)
                          clear hb5437
                          replace hB := below_ext hB e5439
                          clear e5439
                          refine XO.do rfl (D.store (v := .agg #[S r5433.1.name, .int .u16 r5433.1.ty, .int .u16 r5433.1.cls]) (us := [S r5433.1.name, .int .u16 r5433.1.ty, .int .u16 r5433.1.cls]) sz30 H5438 rfl rfl rfl rfl rfl rfl ?_)
                          intro w5441 H5442 e5443
                          replace hB := below_blk hB e5443 g5440
                          clear e5443
                          refine XO.do rfl (D.asn (v := .int .i64 r5433.2.1) rfl rfl ?_)
                          refine XO.do rfl (D.asn (v := .int .i64 r5433.2.2) rfl rfl ?_)
                          refine XO.nil ?_
                          refine hM5428 _ _ ?_
                          refine X.seq fun M5495 hM5496 => ?_
                          refine X.cut (fun f5518 w5517 => ∃ x5516 : Bool, f5518 0 = .slice A2 a1.length k3 ∧ f5518 1 = .slice A7 a6.length k8 ∧ f5518 5 = .bool r19 ∧ f5518 8 = S r1427 ∧ f5518 10 = .int .i64 x4544 ∧ f5518 12 = .int .i64 r5433.2.1 ∧ f5518 106 = .bool x5516 ∧ Below w.heap.size w w5517 ∧ derricklaw05_RecordBack.j11 x4544 a1 r1427 (derricklaw05_RecordBack.l5 a1 a6 r1427 r19 kf4542) r5433 x5516 = some res) ?_ ?_
                          · refine X.tree mixed0 [0, 1, 3, 7, 7, 7, 55, 119, 247, 511, 1023] (.q 0 (.q 1 (.q 2 (.q 3 (.q 4 (.q 5 (.q 6 (.q 7 (.q 8 (.q 9 (.q 10 .nil))))))))))) (fun w' => Below w.heap.size w w' ∧ Blk w' b5435 [S r5433.1.name, .int .u16 r5433.1.ty, .int .u16 r5433.1.cls] 30) (fun w' => Below w.heap.size w w' ∧ Blk w' b5435 [S r5433.1.name, .int .u16 r5433.1.ty, .int .u16 r5433.1.cls] 30) (by decide +kernel) (fun w' hx _ => ⟨below_ext hB hx, H5442.ext hx⟩) (fun a b hC hx => by obtain ⟨hB, H5442⟩ := hC; exact ⟨below_ext hB hx, H5442.ext hx⟩) (fun a hC => by obtain ⟨hB, H5442⟩ := hC; exact ⟨hB, H5442⟩) ?_
                            refine QT.do (v := .int .i64 r5433.2.2) rfl (by decide +kernel) rfl rfl rfl (fun w' hJ => by obtain ⟨hB, H5442⟩ := hJ; exact D.mv (v := .int .i64 r5433.2.2) rfl rfl ⟨rfl, Ext.refl _⟩) ?_
                            refine QT.do (v := .bool (r5433.2.2 != 0)) rfl (by decide +kernel) rfl rfl rfl (fun w' hJ => by obtain ⟨hB, H5442⟩ := hJ; exact D.neq rfl rfl rfl ⟨rfl, Ext.refl _⟩) ?_
                            refine QT.do (v := .bool (r5433.2.2 != 0)) rfl (by decide +kernel) rfl rfl rfl (fun w' hJ => by obtain ⟨hB, H5442⟩ := hJ; exact D.mv (v := .bool (r5433.2.2 != 0)) rfl rfl ⟨rfl, Ext.refl _⟩) ?_
                            by_cases c5529 : r5433.2.2 = 0
                            · rw [if_pos c5529] at h
                              refine QT.do (v := .agg #[S r5433.1.name, .int .u16 r5433.1.ty, .int .u16 r5433.1.cls]) rfl (by decide +kernel) (wantG (j := 2) (b := false) rfl ((congrArg (!·) (beq_iff_eq.2 c5529))) rfl) rfl rfl (fun w' hJ => by obtain ⟨hB, H5442⟩ := hJ; exact D.loadA (j := 0) (us := [S r5433.1.name, .int .u16 r5433.1.ty, .int .u16 r5433.1.cls]) ag30 H5442.cs rfl rfl rfl rfl rfl ⟨rfl, Ext.refl _⟩) ?_
                              refine QT.do (v := .slice A2 a1.length k3) rfl (by decide +kernel) (wantG (j := 2) (b := false) rfl ((congrArg (!·) (beq_iff_eq.2 c5529))) rfl) rfl rfl (fun w' hJ => by obtain ⟨hB, H5442⟩ := hJ; exact D.mv (v := .slice A2 a1.length k3) rfl rfl ⟨rfl, Ext.refl _⟩) ?_
                              refine QT.do (v := .int .i64 x4544) rfl (by decide +kernel) (wantG (j := 2) (b := false) rfl ((congrArg (!·) (beq_iff_eq.2 c5529))) rfl) rfl rfl (fun w' hJ => by obtain ⟨hB, H5442⟩ := hJ; exact D.mv (v := .int .i64 x4544) rfl rfl ⟨rfl, Ext.refl _⟩) ?_
                              rcases (Classical.em (0 ≤ x4544)).symm with c5530 | c5530
                              · rw [if_neg c5530] at h; cases h
                              rw [if_pos c5530] at h
                              rcases (Classical.em (x4544 < (a1.length : Int))).symm with c5531 | c5531
                              · rw [if_neg c5531] at h; cases h
                              rw [if_pos c5531] at h
                              have p5538 : 0 ≤ x4544 := c5530
                              have p5539 : x4544 < (a1.length : Int) := c5531
                              obtain ⟨b5532, o5533, o5534, hA5535, ho5536⟩ := Row.at2 (H4.below hB) (rd_get p5538 p5539)
                              refine QT.do (v := pt b5532 o5534) rfl (by decide +kernel) (wantG (j := 2) (b := false) rfl ((congrArg (!·) (beq_iff_eq.2 c5529))) rfl) rfl rfl (fun w' hJ => by obtain ⟨hB, H5442⟩ := hJ; exact D.indexRq (i := x4544) Try.underlying33 sz25 hA5535 ho5536 rfl rfl p5538 p5539 rfl ⟨rfl, Ext.refl _⟩) ?_
                              refine QT.do (v := .agg #[S ((rd a1 x4544).name), .int .u16 ((rd a1 x4544).ty), .int .u16 ((rd a1 x4544).cls), .int .u32 ((rd a1 x4544).ttl), S ((rd a1 x4544).data)]) rfl (by decide +kernel) (wantG (j := 2) (b := false) rfl ((congrArg (!·) (beq_iff_eq.2 c5529))) rfl) rfl rfl (fun w' hJ => by obtain ⟨hB, H5442⟩ := hJ; exact D.loadA (j := 0) (us := [S ((rd a1 x4544).name), .int .u16 ((rd a1 x4544).ty), .int .u16 ((rd a1 x4544).cls), .int .u32 ((rd a1 x4544).ttl), S ((rd a1 x4544).data)]) ag25 (Row.cs_of (H4.below hB) hA5535 ho5536 (rd_get p5538 p5539)) rfl rfl rfl rfl rfl ⟨rfl, Ext.refl _⟩) ?_
                              obtain ⟨r5544, q5545, h⟩ := lt_elim h
                              refine QT.do (v := .agg #[S r5544.name, .int .u16 r5544.ty, .int .u16 r5544.cls]) rfl (by decide +kernel) (wantG (j := 2) (b := false) rfl ((congrArg (!·) (beq_iff_eq.2 c5529))) rfl) rfl rfl (fun w' hJ => by obtain ⟨hB, H5442⟩ := hJ; have hc := record_Key.ok (rd a1 x4544) w'; rw [q5545] at hc; refine D.call (vs := [.agg #[S ((rd a1 x4544).name), .int .u16 ((rd a1 x4544).ty), .int .u16 ((rd a1 x4544).cls), .int .u32 ((rd a1 x4544).ttl), S ((rd a1 x4544).data)]]) cf10 hc rfl rfl ?_; rintro _ w2 ⟨rfl, e2⟩; exact ⟨rfl, e2⟩) ?_
                              refine QT.do (v := .bool (!(decide (r5433.1 = r5544)))) rfl (by decide +kernel) (wantG (j := 2) (b := false) rfl ((congrArg (!·) (beq_iff_eq.2 c5529))) rfl) rfl rfl (fun w' hJ => by obtain ⟨hB, H5442⟩ := hJ; exact D.neqSt (eqQuestion r5433.1 r5544) rfl rfl rfl ⟨rfl, Ext.refl _⟩) ?_
                              refine QT.do (v := .bool (!(decide (r5433.1 = r5544)))) rfl (by decide +kernel) rfl rfl rfl (fun w' hJ => by obtain ⟨hB, H5442⟩ := hJ; exact D.pick false (v := .bool (!(decide (r5433.1 = r5544)))) (congrArg Value.bool ((congrArg (!·) (beq_iff_eq.2 c5529)))) rfl rfl ⟨rfl, Ext.refl _⟩) ?_
                              refine QT.nil fun w5546 hC => ?_
                              obtain ⟨hB, H5442⟩ := hC
                              exact ⟨(!(decide (r5433.1 = r5544))), rfl, rfl, rfl, rfl, rfl, rfl, rfl, hB, h⟩
                            · rw [if_neg c5529] at h
                              refine QT.off rfl (wantG0 (j := 2) (b := false) rfl ((congrArg (!·) (beq_eq_false_iff_ne.2 c5529))) rfl) rfl rfl ?_
                              refine QT.off rfl (wantG0 (j := 2) (b := false) rfl ((congrArg (!·) (beq_eq_false_iff_ne.2 c5529))) rfl) rfl rfl ?_
                              refine QT.off rfl (wantG0 (j := 2) (b := false) rfl ((congrArg (!·) (beq_eq_false_iff_ne.2 c5529))) rfl) rfl rfl ?_
                              refine QT.off rfl (wantG0 (j := 2) (b := false) rfl ((congrArg (!·) (beq_eq_false_iff_ne.2 c5529))) rfl) rfl rfl ?_
                              refine QT.off rfl (wantG0 (j := 2) (b := false) rfl ((congrArg (!·) (beq_eq_false_iff_ne.2 c5529))) rfl) rfl rfl ?_
                              refine QT.off rfl (wantG0 (j := 2) (b := false) rfl ((congrArg (!·) (beq_eq_false_iff_ne.2 c5529))) rfl) rfl rfl ?_
                              refine QT.off rfl (wantG0 (j := 2) (b := false) rfl ((congrArg (!·) (beq_eq_false_iff_ne.2 c5529))) rfl) rfl rfl ?_
                              refine QT.do (v := .bool true) rfl (by decide +kernel) rfl rfl rfl (fun w' hJ => by obtain ⟨hB, H5442⟩ := hJ; exact D.pick true (v := .bool true) (congrArg Value.bool ((congrArg (!·) (beq_eq_false_iff_ne.2 c5529)))) rfl rfl ⟨rfl, Ext.refl _⟩) ?_
                              refine QT.nil fun w5547 hC => ?_
                              obtain ⟨hB, H5442⟩ := hC
                              exact ⟨true, rfl, rfl, rfl, rfl, rfl, rfl, rfl, hB, h⟩
                          · intro f5518 w5517 hI
                            obtain ⟨x5516, s5519, s5520, s5521, s5522, s5523, s5524, s5525, hB, h⟩ := hI
                            refine X.fr (d := 0) s5519 ?_
                            refine X.fr (d := 1) s5520 ?_
                            refine X.fr (d := 5) s5521 ?_
                            refine X.fr (d := 8) s5522 ?_
                            refine X.fr (d := 10) s5523 ?_
                            refine X.fr (d := 12) s5524 ?_
                            refine X.fr (d := 106) s5525 ?_
                            unfold derricklaw05_RecordBack.j11 at h
                            by_cases c5526 : x5516 = true
                            · rw [if_pos c5526] at h
                              refine X.condT (congrArg Value.bool (c5526)) ?_
                              refine X.seq fun M5527 hM5528 => ?_
                              refine X.region ?_
                              refine XO.do rfl (D.asn (v := .bool false) rfl rfl ?_)
                              refine XO.nil ?_
                              refine hM5528 _ _ ?_
                              refine X.ret ?_
                              injection h with h
                              subst h
                              exact hR _ _ _ (ret1 (v := .bool false) rfl rfl) ⟨rfl, ext_of_below hB⟩
                            · rw [if_neg c5526] at h
                              refine X.condF (congrArg Value.bool ((Bool.eq_false_iff.2 c5526))) ?_
                              refine X.skip ?_
                              refine hM5496 _ _ ?_
                              refine X.region ?_
                              refine XO.do rfl (D.mv (v := .int .i64 r5433.2.1) rfl rfl ?_)
                              refine XO.do rfl (D.asn (v := .int .i64 r5433.2.1) rfl rfl ?_)
                              refine XO.nil ?_
                              exact ⟨r5433.2.1, rfl, rfl, rfl, rfl, rfl, rfl, hB, h⟩
                        · rw [if_neg c5426] at h
                          refine X.condF (congrArg Value.bool ((Bool.eq_false_iff.2 c5426))) ?_
                          refine X.skip ?_
                          exact ⟨x4543, rfl, rfl, rfl, rfl, rfl, rfl, hB, h⟩
                    · intro f5261 w5260 hI
                      obtain ⟨x5259, s5262, s5263, s5264, s5265, s5266, s5267, hB, h⟩ := hI
                      refine X.fr (d := 0) s5262 ?_
                      refine X.fr (d := 1) s5263 ?_
                      refine X.fr (d := 5) s5264 ?_
                      refine X.fr (d := 8) s5265 ?_
                      refine X.fr (d := 9) s5266 ?_
                      refine X.fr (d := 10) s5267 ?_
                      unfold derricklaw05_RecordBack.j8 at h
                      refine X.seq fun M5283 hM5284 => ?_
                      refine X.seq fun M5285 hM5286 => ?_
                      refine X.region ?_
                      refine XO.do rfl (D.mv (v := .slice A2 a1.length k3) rfl rfl ?_)
                      refine XO.do rfl (D.mv (v := .int .i64 x4544) rfl rfl ?_)
                      rcases (Classical.em (0 ≤ x4544)).symm with c5287 | c5287
                      · rw [if_neg c5287] at h; cases h
                      rw [if_pos c5287] at h
                      rcases (Classical.em (x4544 < (a1.length : Int))).symm with c5288 | c5288
                      · rw [if_neg c5288] at h; cases h
                      rw [if_pos c5288] at h
                      refine XO.do rfl (D.indexR (i := x4544) Try.underlying33 sz25 (H4.below hB) rfl rfl c5287 c5288 rfl ?_)
                      intro b5289 o5290 _ H5291
                      refine XO.do rfl (D.loadA (j := 0) (us := [S ((rd a1 x4544).name), .int .u16 ((rd a1 x4544).ty), .int .u16 ((rd a1 x4544).cls), .int .u32 ((rd a1 x4544).ttl), S ((rd a1 x4544).data)]) ag25 H5291 rfl rfl rfl rfl rfl ?_)
                      rcases (Classical.em (record_May.pre (rd a1 x4544))).symm with c5293 | c5293
                      · rw [if_neg c5293] at h; cases h
                      rw [if_pos c5293] at h
                      obtain ⟨r5297, q5298, h⟩ := lt_elim h
                      have hc5296 := record_May.ok (rd a1 x4544) w5260 c5293 
                      rw [q5298] at hc5296
                      clear q5298
                      refine XO.do rfl (D.call (vs := [.agg #[S ((rd a1 x4544).name), .int .u16 ((rd a1 x4544).ty), .int .u16 ((rd a1 x4544).cls), .int .u32 ((rd a1 x4544).ttl), S ((rd a1 x4544).data)]]) cf11 hc5296 rfl rfl ?_)
                      rintro _ w5294 ⟨rfl, e5295⟩
                      clear hc5296
                      replace hB := below_ext hB e5295
                      replace H5291 := H5291.ext e5295
                      clear e5295
                      refine XO.do rfl (D.not r5297 rfl rfl ?_)
                      refine XO.nil ?_
                      refine hM5286 _ _ ?_
                      by_cases c5299 : r5297 = true
                      · rw [if_pos c5299] at h
                        refine X.condF (congrArg Value.bool ((congrArg (!·) (c5299)))) ?_
                        refine X.skip ?_
                        refine hM5284 _ _ ?_
                        refine X.seq fun M5300 hM5301 => ?_
                        refine X.region ?_
                        refine XO.do rfl (D.mv (v := S r1427) rfl rfl ?_)
                        refine XO.do rfl (D.mv (v := .int .i64 x5259) rfl rfl ?_)
                        rcases (Classical.em (record_Take.pre r1427 x5259)).symm with c5302 | c5302
                        · rw [if_neg c5302] at h; cases h
                        rw [if_pos c5302] at h
                        obtain ⟨r5306, q5307, h⟩ := lt_elim h
                        have hc5305 := record_Take.ok r1427 x5259 w5294 c5302 
                        rw [q5307] at hc5305
                        clear q5307
                        refine XO.do rfl (D.call (vs := [S r1427, .int .i64 x5259]) cf18 hc5305 rfl rfl ?_)
                        rintro _ w5303 ⟨rfl, e5304⟩
                        clear hc5305
                        replace hB := below_ext hB e5304
                        replace H5291 := H5291.ext e5304
                        clear e5304
                        refine XO.do rfl (D.mv (v := .tuple #[.agg #[S r5306.1.name, .int .u16 r5306.1.ty, .int .u16 r5306.1.cls, .int .u32 r5306.1.ttl, S r5306.1.data], .int .i64 r5306.2.1, .int .i64 r5306.2.2]) rfl rfl ?_)
                        refine XO.do rfl (D.extract (v := .agg #[S r5306.1.name, .int .u16 r5306.1.ty, .int .u16 r5306.1.cls, .int .u32 r5306.1.ttl, S r5306.1.data]) rfl rfl rfl ?_)
                        refine XO.do rfl (D.extract (v := .int .i64 r5306.2.1) rfl rfl rfl ?_)
                        refine XO.do rfl (D.extract (v := .int .i64 r5306.2.2) rfl rfl rfl ?_)
                        refine XO.do rfl (D.alloc ti25 (cs := [S [], .int .u16 0, .int .u16 0, .int .u32 0, S []]) rfl rfl ?_)
                        intro b5308 w5309 hb5310 H5311 e5312 _
                        have g5313 : w.heap.size ≤ b5308 := Nat.le_trans hB.size (Nat.le_of_eq hb5310.symm)
                        clear hb5310
                        replace hB := below_ext hB e5312
                        replace H5291 := H5291.ext e5312
                        clear e5312
                        refine XO.do rfl (D.store (v := .agg #[S r5306.1.name, .int .u16 r5306.1.ty, .int .u16 r5306.1.cls, .int .u32 r5306.1.ttl, S r5306.1.data]) (us := [S r5306.1.name, .int .u16 r5306.1.ty, .int .u16 r5306.1.cls, .int .u32 r5306.1.ttl, S r5306.1.data]) sz25 H5311 rfl rfl rfl rfl rfl rfl ?_)
                        intro w5314 H5315 e5316
                        replace hB := below_blk hB e5316 g5313
                        clear e5316
                        refine XO.do rfl (D.asn (v := .int .i64 r5306.2.1) rfl rfl ?_)
                        refine XO.do rfl (D.asn (v := .int .i64 r5306.2.2) rfl rfl ?_)
                        refine XO.nil ?_
                        refine hM5301 _ _ ?_
                        refine X.seq fun M5354 hM5355 => ?_
                        refine X.cut (fun f5370 w5369 => ∃ x5368 : Bool, f5370 0 = .slice A2 a1.length k3 ∧ f5370 1 = .slice A7 a6.length k8 ∧ f5370 5 = .bool r19 ∧ f5370 8 = S r1427 ∧ f5370 10 = .int .i64 x4544 ∧ f5370 15 = .int .i64 r5306.2.1 ∧ f5370 130 = .bool x5368 ∧ Below w.heap.size w w5369 ∧ derricklaw05_RecordBack.j9 (derricklaw05_RecordBack.l5 a1 a6 r1427 r19 kf4542) x4544 r5306 x5368 = some res) ?_ ?_
                        · refine X.tree mixed0 [0, 1, 3, 7, 7, 7, 55, 119, 255, 511] (.q 0 (.q 1 (.q 2 (.q 3 (.q 4 (.q 5 (.q 6 (.q 7 (.q 8 (.q 9 .nil)))))))))) (fun w' => Below w.heap.size w w' ∧ Blk w' b5308 [S r5306.1.name, .int .u16 r5306.1.ty, .int .u16 r5306.1.cls, .int .u32 r5306.1.ttl, S r5306.1.data] 25) (fun w' => Below w.heap.size w w' ∧ Blk w' b5308 [S r5306.1.name, .int .u16 r5306.1.ty, .int .u16 r5306.1.cls, .int .u32 r5306.1.ttl, S r5306.1.data] 25) (by decide +kernel) (fun w' hx _ => ⟨below_ext hB hx, H5315.ext hx⟩) (fun a b hC hx => by obtain ⟨hB, H5315⟩ := hC; exact ⟨below_ext hB hx, H5315.ext hx⟩) (fun a hC => by obtain ⟨hB, H5315⟩ := hC; exact ⟨hB, H5315⟩) ?_
                          refine QT.do (v := .int .i64 r5306.2.2) rfl (by decide +kernel) rfl rfl rfl (fun w' hJ => by obtain ⟨hB, H5315⟩ := hJ; exact D.mv (v := .int .i64 r5306.2.2) rfl rfl ⟨rfl, Ext.refl _⟩) ?_
                          refine QT.do (v := .bool (r5306.2.2 != 0)) rfl (by decide +kernel) rfl rfl rfl (fun w' hJ => by obtain ⟨hB, H5315⟩ := hJ; exact D.neq rfl rfl rfl ⟨rfl, Ext.refl _⟩) ?_
                          refine QT.do (v := .bool (r5306.2.2 != 0)) rfl (by decide +kernel) rfl rfl rfl (fun w' hJ => by obtain ⟨hB, H5315⟩ := hJ; exact D.mv (v := .bool (r5306.2.2 != 0)) rfl rfl ⟨rfl, Ext.refl _⟩) ?_
                          by_cases c5381 : r5306.2.2 = 0
                          · rw [if_pos c5381] at h
                            refine QT.do (v := .agg #[S r5306.1.name, .int .u16 r5306.1.ty, .int .u16 r5306.1.cls, .int .u32 r5306.1.ttl, S r5306.1.data]) rfl (by decide +kernel) (wantG (j := 2) (b := false) rfl ((congrArg (!·) (beq_iff_eq.2 c5381))) rfl) rfl rfl (fun w' hJ => by obtain ⟨hB, H5315⟩ := hJ; exact D.loadA (j := 0) (us := [S r5306.1.name, .int .u16 r5306.1.ty, .int .u16 r5306.1.cls, .int .u32 r5306.1.ttl, S r5306.1.data]) ag25 H5315.cs rfl rfl rfl rfl rfl ⟨rfl, Ext.refl _⟩) ?_
                            refine QT.do (v := .slice A2 a1.length k3) rfl (by decide +kernel) (wantG (j := 2) (b := false) rfl ((congrArg (!·) (beq_iff_eq.2 c5381))) rfl) rfl rfl (fun w' hJ => by obtain ⟨hB, H5315⟩ := hJ; exact D.mv (v := .slice A2 a1.length k3) rfl rfl ⟨rfl, Ext.refl _⟩) ?_
                            refine QT.do (v := .int .i64 x4544) rfl (by decide +kernel) (wantG (j := 2) (b := false) rfl ((congrArg (!·) (beq_iff_eq.2 c5381))) rfl) rfl rfl (fun w' hJ => by obtain ⟨hB, H5315⟩ := hJ; exact D.mv (v := .int .i64 x4544) rfl rfl ⟨rfl, Ext.refl _⟩) ?_
                            have p5388 : 0 ≤ x4544 := c5287
                            have p5389 : x4544 < (a1.length : Int) := c5288
                            obtain ⟨b5382, o5383, o5384, hA5385, ho5386⟩ := Row.at2 (H4.below hB) (rd_get p5388 p5389)
                            refine QT.do (v := pt b5382 o5384) rfl (by decide +kernel) (wantG (j := 2) (b := false) rfl ((congrArg (!·) (beq_iff_eq.2 c5381))) rfl) rfl rfl (fun w' hJ => by obtain ⟨hB, H5315⟩ := hJ; exact D.indexRq (i := x4544) Try.underlying33 sz25 hA5385 ho5386 rfl rfl p5388 p5389 rfl ⟨rfl, Ext.refl _⟩) ?_
                            refine QT.do (v := .agg #[S ((rd a1 x4544).name), .int .u16 ((rd a1 x4544).ty), .int .u16 ((rd a1 x4544).cls), .int .u32 ((rd a1 x4544).ttl), S ((rd a1 x4544).data)]) rfl (by decide +kernel) (wantG (j := 2) (b := false) rfl ((congrArg (!·) (beq_iff_eq.2 c5381))) rfl) rfl rfl (fun w' hJ => by obtain ⟨hB, H5315⟩ := hJ; exact D.loadA (j := 0) (us := [S ((rd a1 x4544).name), .int .u16 ((rd a1 x4544).ty), .int .u16 ((rd a1 x4544).cls), .int .u32 ((rd a1 x4544).ttl), S ((rd a1 x4544).data)]) ag25 (Row.cs_of (H4.below hB) hA5385 ho5386 (rd_get p5388 p5389)) rfl rfl rfl rfl rfl ⟨rfl, Ext.refl _⟩) ?_
                            refine QT.do (v := .bool (!(decide (r5306.1 = (rd a1 x4544))))) rfl (by decide +kernel) (wantG (j := 2) (b := false) rfl ((congrArg (!·) (beq_iff_eq.2 c5381))) rfl) rfl rfl (fun w' hJ => by obtain ⟨hB, H5315⟩ := hJ; exact D.neqSt (eqRR r5306.1 (rd a1 x4544)) rfl rfl rfl ⟨rfl, Ext.refl _⟩) ?_
                            refine QT.do (v := .bool (!(decide (r5306.1 = (rd a1 x4544))))) rfl (by decide +kernel) rfl rfl rfl (fun w' hJ => by obtain ⟨hB, H5315⟩ := hJ; exact D.pick false (v := .bool (!(decide (r5306.1 = (rd a1 x4544))))) (congrArg Value.bool ((congrArg (!·) (beq_iff_eq.2 c5381)))) rfl rfl ⟨rfl, Ext.refl _⟩) ?_
                            refine QT.nil fun w5391 hC => ?_
                            obtain ⟨hB, H5315⟩ := hC
                            exact ⟨(!(decide (r5306.1 = (rd a1 x4544)))), rfl, rfl, rfl, rfl, rfl, rfl, rfl, hB, h⟩
                          · rw [if_neg c5381] at h
                            refine QT.off rfl (wantG0 (j := 2) (b := false) rfl ((congrArg (!·) (beq_eq_false_iff_ne.2 c5381))) rfl) rfl rfl ?_
                            refine QT.off rfl (wantG0 (j := 2) (b := false) rfl ((congrArg (!·) (beq_eq_false_iff_ne.2 c5381))) rfl) rfl rfl ?_
                            refine QT.off rfl (wantG0 (j := 2) (b := false) rfl ((congrArg (!·) (beq_eq_false_iff_ne.2 c5381))) rfl) rfl rfl ?_
                            refine QT.off rfl (wantG0 (j := 2) (b := false) rfl ((congrArg (!·) (beq_eq_false_iff_ne.2 c5381))) rfl) rfl rfl ?_
                            refine QT.off rfl (wantG0 (j := 2) (b := false) rfl ((congrArg (!·) (beq_eq_false_iff_ne.2 c5381))) rfl) rfl rfl ?_
                            refine QT.off rfl (wantG0 (j := 2) (b := false) rfl ((congrArg (!·) (beq_eq_false_iff_ne.2 c5381))) rfl) rfl rfl ?_
                            refine QT.do (v := .bool true) rfl (by decide +kernel) rfl rfl rfl (fun w' hJ => by obtain ⟨hB, H5315⟩ := hJ; exact D.pick true (v := .bool true) (congrArg Value.bool ((congrArg (!·) (beq_eq_false_iff_ne.2 c5381)))) rfl rfl ⟨rfl, Ext.refl _⟩) ?_
                            refine QT.nil fun w5392 hC => ?_
                            obtain ⟨hB, H5315⟩ := hC
                            exact ⟨true, rfl, rfl, rfl, rfl, rfl, rfl, rfl, hB, h⟩
                        · intro f5370 w5369 hI
                          obtain ⟨x5368, s5371, s5372, s5373, s5374, s5375, s5376, s5377, hB, h⟩ := hI
                          refine X.fr (d := 0) s5371 ?_
                          refine X.fr (d := 1) s5372 ?_
                          refine X.fr (d := 5) s5373 ?_
                          refine X.fr (d := 8) s5374 ?_
                          refine X.fr (d := 10) s5375 ?_
                          refine X.fr (d := 15) s5376 ?_
                          refine X.fr (d := 130) s5377 ?_
                          unfold derricklaw05_RecordBack.j9 at h
                          by_cases c5378 : x5368 = true
                          · rw [if_pos c5378] at h
                            refine X.condT (congrArg Value.bool (c5378)) ?_
                            refine X.seq fun M5379 hM5380 => ?_
                            refine X.region ?_
                            refine XO.do rfl (D.asn (v := .bool false) rfl rfl ?_)
                            refine XO.nil ?_
                            refine hM5380 _ _ ?_
                            refine X.ret ?_
                            injection h with h
                            subst h
                            exact hR _ _ _ (ret1 (v := .bool false) rfl rfl) ⟨rfl, ext_of_below hB⟩
                          · rw [if_neg c5378] at h
                            refine X.condF (congrArg Value.bool ((Bool.eq_false_iff.2 c5378))) ?_
                            refine X.skip ?_
                            refine hM5355 _ _ ?_
                            refine X.region ?_
                            refine XO.do rfl (D.mv (v := .int .i64 r5306.2.1) rfl rfl ?_)
                            refine XO.do rfl (D.asn (v := .int .i64 r5306.2.1) rfl rfl ?_)
                            refine XO.nil ?_
                            exact ⟨r5306.2.1, rfl, rfl, rfl, rfl, rfl, rfl, hB, h⟩
                      · rw [if_neg c5299] at h
                        refine X.condT (congrArg Value.bool ((congrArg (!·) ((Bool.eq_false_iff.2 c5299))))) ?_
                        refine X.exit rfl ?_
                        exact ⟨x5259, rfl, rfl, rfl, rfl, rfl, rfl, hB, h⟩
                  · intro f5074 w5073 hI
                    obtain ⟨x5072, s5075, s5076, s5077, s5078, s5079, s5080, hB, h⟩ := hI
                    refine X.fr (d := 0) s5075 ?_
                    refine X.fr (d := 1) s5076 ?_
                    refine X.fr (d := 5) s5077 ?_
                    refine X.fr (d := 8) s5078 ?_
                    refine X.fr (d := 9) s5079 ?_
                    refine X.fr (d := 10) s5080 ?_
                    unfold derricklaw05_RecordBack.j7 at h
                    refine X.region ?_
                    refine XO.do rfl (D.mv (v := .int .i64 x4544) rfl rfl ?_)
                    refine XO.do rfl (D.add rfl rfl rfl ?_)
                    refine XO.do rfl (D.asn (v := .int .i64 (w64 (x4544 + 1))) rfl rfl ?_)
                    refine XO.nil ?_
                    exact ⟨kf4542, Nat.lt_succ_self _, x5072, w64 (x4544 + 1), rfl, rfl, rfl, rfl, rfl, rfl, hB, h⟩
                · rw [if_neg c4581] at h
                  refine X.condF (congrArg Value.bool ((Bool.eq_false_iff.2 c4581))) ?_
                  refine X.exit rfl ?_
                  refine hM3502 _ _ ?_
                  refine X.seq fun M5571 hM5572 => ?_
                  refine X.region ?_
                  refine XO.do rfl (D.mv (v := .bool r19) rfl rfl ?_)
                  refine XO.do rfl (D.mv (v := .bool r19) rfl rfl ?_)
                  by_cases c5573 : r19 = true
                  · rw [if_pos c5573] at h
                    refine XO.do (wantG (j := 1) (b := true) rfl (c5573) rfl) (D.mv (v := .int .i64 x4543) rfl rfl ?_)
                    refine XO.do (wantG (j := 1) (b := true) rfl (c5573) rfl) (D.mv (v := S r1427) rfl rfl ?_)
                    refine XO.do (wantG (j := 1) (b := true) rfl (c5573) rfl) (D.lenS Try.underlying9 rfl rfl ?_)
                    refine XO.do (wantG (j := 1) (b := true) rfl (c5573) rfl) (D.eql rfl rfl rfl ?_)
                    refine XO.do rfl (D.pick true (v := .bool (x4543 == (r1427.length : Int))) (congrArg Value.bool (c5573)) rfl rfl ?_)
                    refine XO.do rfl (D.asn (v := .bool (x4543 == (r1427.length : Int))) rfl rfl ?_)
                    refine XO.nil ?_
                    refine hM5572 _ _ ?_
                    refine X.ret ?_
                    injection h with h
                    subst h
                    exact hR _ _ _ (ret1 (v := .bool (x4543 == (r1427.length : Int))) rfl rfl) ⟨rfl, ext_of_below hB⟩
                  · rw [if_neg c5573] at h
                    refine XO.off (wantG0 (j := 1) (b := true) rfl ((Bool.eq_false_iff.2 c5573)) rfl) rfl rfl ?_
                    refine XO.off (wantG0 (j := 1) (b := true) rfl ((Bool.eq_false_iff.2 c5573)) rfl) rfl rfl ?_
                    refine XO.off (wantG0 (j := 1) (b := true) rfl ((Bool.eq_false_iff.2 c5573)) rfl) rfl rfl ?_
                    refine XO.off (wantG0 (j := 1) (b := true) rfl ((Bool.eq_false_iff.2 c5573)) rfl) rfl rfl ?_
                    refine XO.do rfl (D.pick false (v := .bool false) (congrArg Value.bool ((Bool.eq_false_iff.2 c5573))) rfl rfl ?_)
                    refine XO.do rfl (D.asn (v := .bool false) rfl rfl ?_)
                    refine XO.nil ?_
                    refine hM5572 _ _ ?_
                    refine X.ret ?_
                    injection h with h
                    subst h
                    exact hR _ _ _ (ret1 (v := .bool false) rfl rfl) ⟨rfl, ext_of_below hB⟩
theorem derricklaw05_RecordBack.ok (a1 : List RR) (a6 : List Bool) (A2 : Option Addr) (k3 : Nat) (A7 : Option Addr) (k8 : Nat) (w : World) (H4 : Row eRR w A2 k3 a1) (H9 : Row eBool w A7 k8 a6) (hp : derricklaw05_RecordBack.pre a1 a6) :
    Ret Try.prog 6 ([.slice A2 a1.length k3, .slice A7 a6.length k8] : List Value).toArray w fun v w' => v = .bool (derricklaw05_RecordBack a1 a6) ∧ Ext w w' := by
  obtain ⟨kf, h⟩ := derricklaw05_RecordBack.eq a1 a6 hp
  exact derricklaw05_RecordBack.walk kf a1 a6 A2 k3 A7 k8 w H4 H9 _ h
end Go.Proofs.Ytfcaekghpkpjdaa.K

namespace Go.Proofs.Ytfcaekghpkpjdaa.recordBack
open Go Go.ChangeShapes Go.WideShapes Go.ChangeAt Go.RowKit Go.Proofs.Ytfcaekghpkpjdaa.K
open Go.ChangeMaps (open_string shut_string)
set_option linter.unusedVariables false
set_option maxHeartbeats 4000000
theorem own : ownKnob Try.prog.godebug = none := by kernel_rfl
theorem laidOut : laidOutB Try.prog = true := by kernel_rfl
set_option maxRecDepth 100000 in
theorem contract (H : Type) (enc : TypeId × Value → H) (W : World) (base : Nat) (args : Array Value) (ds gs : List (DataW H)) (before : List MemPlace)
    (hval : ∀ (j : Nat) t v, Try.f6.params[j]? = some t → args[j]? = some v → Value.okWide Try.prog W .any base t v)
    (hW : DataW.Whole enc Try.prog Try.f6.params.toList Rows.recordBackSpec.vars false W args.toList ds gs before) :
    Calls Try.prog 6 args W fun e W' => ∃ v, e = .returned v ∧ Rows.recordBackSpec.post enc Try.prog Try.f6 false true false false W args v W' := by
  have hW' := hW
  obtain ⟨p, q, hA0, hV, rfl, hfz, hnd⟩ := hW
  have hA : DataW.TrodAll enc Try.prog W 0 (fun _ => true) true Try.f6.params.toList args.toList ds p := hA0
  rw [Try.params6] at hA hval
  obtain ⟨v0, vs0, d0, ds0, p0, q0, hargs, rfl, rfl, h0, r0⟩ := trodAll_cons hA
  obtain ⟨v1, vs1, d1, ds1, p1, q1, rfl, rfl, rfl, h1, r1⟩ := trodAll_cons r0
  obtain ⟨rfl, rfl, rfl⟩ := trodAll_nil r1
  obtain rfl : args = #[v0, v1] := by cases args; simp_all
  obtain ⟨rfl, rfl⟩ := trodVars_none hV
  have k0 := h0
  have lt0 : ∀ x ∈ p0, x.block < W.heap.size := by obtain ⟨m, hm⟩ := k0; exact DataW.trod_lt m _ _ _ hm
  obtain ⟨u0, hu0⟩ := h0
  obtain ⟨b0, l0, c0, hq0⟩ := okWide_slice Try.underlying33 (hval 0 33 v0 rfl rfl)
  have hs0 : v0.cells.toList = [v0] := by rw [hq0]; rfl
  rw [hs0] at hu0
  clear hs0 hq0
  obtain ⟨A0, k0_, a0, ha0, H0, w0, z0⟩ := dec_slice (E := eRR) Try.underlying33 (by kernel_rfl) dec_RR hu0
  obtain rfl := list1 ha0
  have k1 := h1
  have lt1 : ∀ x ∈ p1, x.block < W.heap.size := by obtain ⟨m, hm⟩ := k1; exact DataW.trod_lt m _ _ _ hm
  obtain ⟨u1, hu1⟩ := h1
  obtain ⟨b1, l1, c1, hq1⟩ := okWide_slice Try.underlying34 (hval 1 34 v1 rfl rfl)
  have hs1 : v1.cells.toList = [v1] := by rw [hq1]; rfl
  rw [hs1] at hu1
  clear hs1 hq1
  obtain ⟨A1, k1_, a1, ha1, H1, w1, z1⟩ := dec_slice (E := eBool) Try.underlying34 (by kernel_rfl) (dec_bool Try.underlying4) hu1
  obtain rfl := list1 ha1
  have hok := derricklaw05_RecordBack.ok a0 a1 A0 k0_ A1 k1_ W H0 H1 ⟨fun r hr => rrOk_of (w0 r hr), z0, z1⟩
  clear hA0
  refine Calls.mono hok fun e W' ⟨v, he, hv, hx⟩ => ?_
  have bel := below_of_ext hx
  subst he hv
  exact ⟨_, rfl, _, _, _, [], _, [], hW', trodAll_mk1 (shut_bool Try.underlying4 _), (trodAll_cons_mk (Below.trod laidOut (by kernel_rfl) (of_decide_eq_true (by kernel_rfl)) k0 bel lt0) (trodAll_cons_mk (Below.trod laidOut (by kernel_rfl) (of_decide_eq_true (by kernel_rfl)) k1 bel lt1) trodAll_mk0)), rfl, bel.frame _, fun h => by cases h⟩
set_option maxRecDepth 100000 in
theorem lifted (os : Os) (started : os.Started) (H : Type) (enc : TypeId × Value → H) :
    ReturnsInHanded {} Try.checked os 6 .any (Rows.recordBackSpec.pre6 enc Try.prog Try.f6 Rows.recordBackRow.domain false) (Rows.recordBackSpec.post enc Try.prog Try.f6 false true false false) := by
  refine returnsInHanded_of_change (C := Try.checked) own started (by kernel_rfl) Try.func6
    (ChangeSpec.witness6 (enc := enc) (C := Try.checked) false ⟨#[], #[.slice none 0 0, .slice none 0 0], []⟩ 8 (by kernel_rfl) (by kernel_rfl) (by kernel_rfl) (by kernel_rfl)) ?_
  intro W base args ds gs before hval hW _ _
  exact contract H enc W base args ds gs before hval hW
theorem over : Rows.recordBackRow.holds Try.pinned (OpenSpec.ofChange Rows.recordBackSpec) :=
  OpenClaim.holds_of_wide 6 Try.f6 rfl rfl rfl rfl rfl rfl rfl ⟨rfl, rfl, rfl, rfl, rfl⟩ rfl rfl rfl rfl rfl (by kernel_rfl) Try.func6 (by kernel_rfl)
    (of_decide_eq_true (by kernel_rfl)) (by unfold Func.isWrapper; first | (rw [if_pos (by decide +kernel)]; kernel_rfl) | (rw [if_neg (by decide +kernel)]; exact ⟨rfl, rfl⟩))
    (fun os started H enc _ => lifted os started H enc)
theorem proved : Rows.RecordBackSaid := over
#print axioms proved
end Go.Proofs.Ytfcaekghpkpjdaa.recordBack
namespace Go.Proofs.Ytfcaekghpkpjdaa
/-- The row, under a short name. -/
theorem recordBack_holds : Rows.RecordBackSaid := recordBack.proved
end Go.Proofs.Ytfcaekghpkpjdaa
