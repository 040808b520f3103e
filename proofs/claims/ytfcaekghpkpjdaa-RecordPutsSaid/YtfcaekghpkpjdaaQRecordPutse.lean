/- Part 5 of what the row of RecordPuts leans on: a library of walks, the pure functions, the walks of the functions. -/
import Derived.Test.YtfcaekghpkpjdaaProg
import Derived.Test.YtfcaekghpkpjdaaQRecordPutsd
/- Walks, printed by a program of this session. -/
namespace Go.Proofs.Ytfcaekghpkpjdaa.K
open Go Go.RowKit Go.Proofs
set_option linter.unusedVariables false
set_option maxRecDepth 100000
set_option maxHeartbeats 4000000
namespace FD1
theorem cf28 : Callable Try.prog 28 := callable Try.func28 (by kernel_rfl) rfl
theorem cf29 : Callable Try.prog 29 := callable Try.func29 (by kernel_rfl) rfl
theorem cf30 : Callable Try.prog 30 := callable Try.func30 (by kernel_rfl) rfl
theorem cf55 : Callable Try.prog 55 := callable Try.func55 (by kernel_rfl) rfl
theorem cf58 : Callable Try.prog 58 := callable Try.func58 (by kernel_rfl) rfl
theorem sc3 : Sca Try.prog 3 := sca Try.underlying3 rfl
theorem sc9 : Sca Try.prog 9 := sca Try.underlying9 rfl
theorem ti3 : TI Try.prog 3 (.int .i64 0) 1 8 := by unfold TI; kernel_rfl
theorem sz3 : ∀ w, (sizeOf 3).run Try.prog w = .ok 1 w := fun w => ti3.size w
theorem ti9 : TI Try.prog 9 (S []) 1 16 := by unfold TI; kernel_rfl
theorem sz9 : ∀ w, (sizeOf 9).run Try.prog w = .ok 1 w := fun w => ti9.size w
end FD1
open FD1
theorem rdata_Put.walk (kf : Nat) (a3 : Pack) (a7 : Int) (a8 : Str) (M2 : Nat → Prop) (b2 : Nat) (w : World) (H4 : okPack.is w M2 b2 a3) (res : Int × Pack) (h : rdata_Put.f kf a3 a7 a8 = some res) :
  Ret Try.prog 37 ([pt b2 0, .int .u16 a7, S a8] : List Value).toArray w fun v w' => ∃ (M' : Nat → Prop), v = .int .i64 res.1 ∧ okPack.is w' M' b2 res.2 ∧ (∀ x, M' x → M2 x ∨ w.heap.size ≤ x) ∧ GrM w w' M2 := by
 unfold rdata_Put.f at h
 refine enterX Try.func37 rfl Try.ntmps37 rfl (fun R hR => ?_)
 have hB := GrM.refl w M2
 refine X.seq fun M9 hM10 => ?_
 refine X.region ?_
 refine XO.do rfl (D.asn (v := .int .i64 0) rfl rfl ?_)
 refine XO.nil ?_
 refine hM10 _ _ ?_
 refine X.seq fun M28 hM29 => ?_
 refine X.seq fun M36 hM37 => ?_
 refine X.region ?_
 refine XO.do rfl (D.mv (v := pt b2 0) rfl rfl ?_)
 refine XO.do rfl (D.eqlPnil (p := some ⟨b2, 0, none⟩) Try.underlying35 rfl rfl rfl ?_)
 refine XO.do rfl (D.mv (v := .bool false) rfl rfl ?_)
 refine XO.do (wantG (j := 2) (b := false) rfl (rfl) rfl) (D.mv (v := .int .u16 a7) rfl rfl ?_)
 refine XO.do (wantG (j := 2) (b := false) rfl (rfl) rfl) (D.mv (v := S a8) rfl rfl ?_)
 rcases (Classical.em (rdata_May.pre a7 a8)).symm with c38 | c38
 ·rw [if_neg c38] at h; cases h
 rw [if_pos c38] at h
 obtain ⟨r42, q43, h⟩ := lt_elim h
 have hc41 := rdata_May.ok a7 a8 w c38 
 rw [q43] at hc41
 clear q43
 refine XO.do (wantG (j := 2) (b := false) rfl (rfl) rfl) (D.call (vs := [.int .u16 a7, S a8]) cf28 hc41 rfl rfl ?_)
 rintro _ w39 ⟨rfl, e40⟩
 clear hc41
 replace hB := gm_ext hB e40
 replace H4 := H4.ext e40
 clear e40
 refine XO.do (wantG (j := 2) (b := false) rfl (rfl) rfl) (D.not r42 rfl rfl ?_)
 refine XO.do rfl (D.pick false (v := .bool (!r42)) (congrArg Value.bool (rfl)) rfl rfl ?_)
 refine XO.nil ?_
 refine hM37 _ _ ?_
 by_cases c44 : r42 = true
 ·rw [if_pos c44] at h
  refine X.condF (congrArg Value.bool ((congrArg (!·) (c44)))) ?_
  refine X.skip ?_
  refine hM29 _ _ ?_
  refine X.seq fun M45 hM46 => ?_
  refine X.region ?_
  refine XO.do rfl (D.mv (v := .int .u16 a7) rfl rfl ?_)
  refine XO.do rfl (D.mv (v := S a8) rfl rfl ?_)
  rcases (Classical.em (rdata_cut.pre a7 a8)).symm with c47 | c47
  ·rw [if_neg c47] at h; cases h
  rw [if_pos c47] at h
  obtain ⟨r51, q52, h⟩ := lt_elim h
  have hc50 := rdata_cut.ok a7 a8 w39 c47 
  rw [q52] at hc50
  clear q52
  refine XO.do rfl (D.call (vs := [.int .u16 a7, S a8]) cf55 hc50 rfl rfl ?_)
  rintro _ w48 ⟨A53, k54, rfl, H55, g56, e49⟩
  clear hc50
  have ne_6_57 : ∀ x y, M2 x → MR A53 r51.1 y → x ≠ y := ne_of (lt_le H4.lt (Nat.le_refl _)) (fun y hy => g56 y hy.1)
  have z57 : ∀ y, blkOf A53 = some y → w.heap.size ≤ y := fun y hy => Nat.le_trans hB.size (g56 y hy)
  replace hB := gm_ext hB e49
  replace H4 := H4.ext e49
  clear e49
  refine XO.do rfl (D.mv (v := .tuple #[.slice A53 r51.1.length k54, .bool r51.2]) rfl rfl ?_)
  refine XO.do rfl (D.extract (v := .slice A53 r51.1.length k54) rfl rfl rfl ?_)
  refine XO.do rfl (D.extract (v := .bool r51.2) rfl rfl rfl ?_)
  refine XO.do rfl (D.asn (v := .slice A53 r51.1.length k54) rfl rfl ?_)
  refine XO.do rfl (D.asn (v := .bool r51.2) rfl rfl ?_)
  refine XO.nil ?_
  refine hM46 _ _ ?_
  refine X.seq fun M338 hM339 => ?_
  refine X.seq fun M340 hM341 => ?_
  refine X.region ?_
  refine XO.do rfl (D.mv (v := .int .u16 a7) rfl rfl ?_)
  obtain ⟨r345, q346, h⟩ := lt_elim h
  have hc344 := rdata_layout.ok a7 w48 
  rw [q346] at hc344
  clear q346
  refine XO.do rfl (D.call (vs := [.int .u16 a7]) cf58 hc344 rfl rfl ?_)
  rintro _ w342 ⟨A347, k348, rfl, H349, g350, e343⟩
  clear hc344
  have ne_6_351 : ∀ x y, M2 x → MR A347 r345 y → x ≠ y := ne_of (lt_le H4.lt (Nat.le_refl _)) (fun y hy => g350 y hy.1)
  have z351 : ∀ y, blkOf A347 = some y → w.heap.size ≤ y := fun y hy => Nat.le_trans hB.size (g350 y hy)
  replace hB := gm_ext hB e343
  replace H4 := H4.ext e343
  replace H55 := H55.ext e343
  clear e343
  refine XO.do rfl (D.lenR (A := A347) (c := k348) (m := r345.length) Try.underlying105 rfl rfl ?_)
  refine XO.do rfl (D.mv (v := .int .i64 0) rfl rfl ?_)
  refine XO.nil ?_
  refine hM341 _ _ ?_
  refine X.block ?_
  refine X.loop (fun kq621 => fun f500 w499 => ∃ M493 : Nat → Prop, ∃ x494 : Pack, ∃ x497 : Int, f500 0 = pt b2 0 ∧ f500 7 = .slice A53 r51.1.length k54 ∧ f500 26 = .slice A347 r345.length k348 ∧ f500 27 = .int .i64 (r345.length : Int) ∧ f500 28 = .int .i64 x497 ∧ GrM w w499 M2 ∧ okPack.is w499 M493 b2 x494 ∧ (∀ x, M493 x → M2 x ∨ w.heap.size ≤ x) ∧ Row eStr w499 A53 k54 r51.1 ∧ Row (eInt .i64) w499 A347 k348 r345 ∧ (∀ x y, M493 x → MR A53 r51.1 y → x ≠ y) ∧ (∀ x y, M493 x → MR A347 r345 y → x ≠ y) ∧ rdata_Put.l1 r345 r51 kq621 x494 x497 = some res) kf ?_ ?_
  ·exact ⟨M2, a3, 0, rfl, rfl, rfl, rfl, rfl, hB, H4, (fun x hx => .inl hx), H55, H349, ne_6_57, ne_6_351, h⟩
  ·intro kq621 f500 w499 hI
   obtain ⟨M493, x494, x497, s501, s502, s503, s504, s505, hB, H492, hg6, H495, H496, pr6_57, pr6_351, h⟩ := hI
   cases kq621 with
   | zero => exact absurd h (by rw [rdata_Put.l1.eq_1]; simp)
   | succ kf491 =>
    rw [rdata_Put.l1.eq_2] at h
    refine X.fr (d := 0) s501 ?_
    refine X.fr (d := 7) s502 ?_
    refine X.fr (d := 26) s503 ?_
    refine X.fr (d := 27) s504 ?_
    refine X.fr (d := 28) s505 ?_
    refine X.seq fun M508 hM509 => ?_
    refine X.region ?_
    refine XO.do rfl (D.lss rfl rfl rfl ?_)
    refine XO.nil ?_
    refine hM509 _ _ ?_
    refine X.seq fun M511 hM512 => ?_
    by_cases c513 : x497 < (r345.length : Int)
    ·rw [if_pos c513] at h
     refine X.condT (congrArg Value.bool (decide_eq_true c513)) ?_
     refine X.skip ?_
     refine hM512 _ _ ?_
     refine X.cut (fun f566 w565 => ∃ M561 : Nat → Prop, ∃ x562 : Pack, f566 0 = pt b2 0 ∧ f566 7 = .slice A53 r51.1.length k54 ∧ f566 26 = .slice A347 r345.length k348 ∧ f566 27 = .int .i64 (r345.length : Int) ∧ f566 28 = .int .i64 x497 ∧ GrM w w565 M2 ∧ okPack.is w565 M561 b2 x562 ∧ (∀ x, M561 x → M2 x ∨ w.heap.size ≤ x) ∧ Row eStr w565 A53 k54 r51.1 ∧ Row (eInt .i64) w565 A347 k348 r345 ∧ (∀ x y, M561 x → MR A53 r51.1 y → x ≠ y) ∧ (∀ x y, M561 x → MR A347 r345 y → x ≠ y) ∧ rdata_Put.j2 (rdata_Put.l1 r345 r51 kf491) x497 x562 = some res) ?_ ?_
     ·refine X.block ?_
      refine X.seq fun M573 hM574 => ?_
      refine X.region ?_
      refine XO.do rfl (D.mv (v := .int .i64 x497) rfl rfl ?_)
      rcases (Classical.em (0 ≤ x497)).symm with c575 | c575
      ·rw [if_neg c575] at h; cases h
      rw [if_pos c575] at h
      refine XO.do rfl (D.indexR (i := x497) Try.underlying105 sz3 H496 rfl rfl c575 c513 rfl ?_)
      intro b576 o577 _ H578
      refine XO.do rfl (D.load (j := 0) (v := .int .i64 (rd r345 x497)) sc3 H578 rfl rfl rfl rfl ?_)
      refine XO.do rfl (D.asn (v := .int .i64 x497) rfl rfl ?_)
      refine XO.do rfl (D.asn (v := .int .i64 (rd r345 x497)) rfl rfl ?_)
      refine XO.nil ?_
      refine hM574 _ _ ?_
      refine X.seq fun M580 hM581 => ?_
      refine X.region ?_
      refine XO.do rfl (D.mv (v := .int .i64 (rd r345 x497)) rfl rfl ?_)
      refine XO.do rfl (D.eql rfl rfl rfl ?_)
      refine XO.nil ?_
      refine hM581 _ _ ?_
      by_cases c582 : (rd r345 x497) = (-1)
      ·rw [if_pos c582] at h
       refine X.condT (congrArg Value.bool (beq_iff_eq.2 c582)) ?_
       refine X.region ?_
       refine XO.do rfl (D.mv (v := pt b2 0) rfl rfl ?_)
       refine XO.do rfl (D.mv (v := .slice A53 r51.1.length k54) rfl rfl ?_)
       refine XO.do rfl (D.mv (v := .int .i64 x497) rfl rfl ?_)
       rcases (Classical.em (x497 < (r51.1.length : Int))).symm with c583 | c583
       ·rw [if_neg c583] at h; cases h
       rw [if_pos c583] at h
       refine XO.do rfl (D.indexR (i := x497) Try.underlying94 sz9 H495 rfl rfl c575 c583 rfl ?_)
       intro b584 o585 _ H586
       refine XO.do rfl (D.load (j := 0) (v := S (rd r51.1 x497)) sc9 H586 rfl rfl rfl rfl ?_)
       rcases (Classical.em (wire_Pack_Name.pre x494 (rd r51.1 x497))).symm with c588 | c588
       ·rw [if_neg c588] at h; cases h
       rw [if_pos c588] at h
       obtain ⟨r592, q593, h⟩ := lt_elim h
       have hc591 := wire_Pack_Name.ok x494 (rd r51.1 x497) M493 b2 w499 H492 c588 
       rw [q593] at hc591
       clear q593
       refine XO.do rfl (D.call (vs := [pt b2 0, S (rd r51.1 x497)]) cf29 hc591 rfl rfl ?_)
       rintro _ w594 ⟨M597, rfl, H595, u598, e596⟩
       clear hc591
       have pr6_57n := ne_sub u598 pr6_57 (MR.lt H495 (Nat.le_refl _))
       have pr6_351n := ne_sub u598 pr6_351 (MR.lt H496 (Nat.le_refl _))
       have v506n := sub_sub u598 hg6 hB.size
       replace hB := hB.step e596 hg6
       replace H495 := H495.gm e596 (sepM (ne_flip pr6_57))
       replace H496 := H496.gm e596 (sepM (ne_flip pr6_351))
       replace pr6_57 := pr6_57n
       replace pr6_351 := pr6_351n
       clear e596 u598 H492
       have v599 := v506n
       clear v506n
       refine XO.nil ?_
       exact ⟨M597, r592.2, rfl, rfl, rfl, rfl, rfl, hB, H595, v599, H495, H496, pr6_57, pr6_351, h⟩
      ·rw [if_neg c582] at h
       refine X.condF (congrArg Value.bool (beq_eq_false_iff_ne.2 c582)) ?_
       refine X.region ?_
       refine XO.do rfl (D.mv (v := pt b2 0) rfl rfl ?_)
       refine XO.do rfl (D.mv (v := .slice A53 r51.1.length k54) rfl rfl ?_)
       refine XO.do rfl (D.mv (v := .int .i64 x497) rfl rfl ?_)
       rcases (Classical.em (x497 < (r51.1.length : Int))).symm with c601 | c601
       ·rw [if_neg c601] at h; cases h
       rw [if_pos c601] at h
       refine XO.do rfl (D.indexR (i := x497) Try.underlying94 sz9 H495 rfl rfl c575 c601 rfl ?_)
       intro b602 o603 _ H604
       refine XO.do rfl (D.load (j := 0) (v := S (rd r51.1 x497)) sc9 H604 rfl rfl rfl rfl ?_)
       rcases (Classical.em (wire_Pack_Add.pre x494 (rd r51.1 x497))).symm with c606 | c606
       ·rw [if_neg c606] at h; cases h
       rw [if_pos c606] at h
       obtain ⟨r610, q611, h⟩ := lt_elim h
       have hc609 := wire_Pack_Add.ok x494 (rd r51.1 x497) M493 b2 w499 H492 c606 
       rw [q611] at hc609
       clear q611
       refine XO.do rfl (D.call (vs := [pt b2 0, S (rd r51.1 x497)]) cf30 hc609 rfl rfl ?_)
       rintro _ w612 ⟨M615, rfl, H613, u616, e614⟩
       clear hc609
       have pr6_57n := ne_sub u616 pr6_57 (MR.lt H495 (Nat.le_refl _))
       have pr6_351n := ne_sub u616 pr6_351 (MR.lt H496 (Nat.le_refl _))
       have v506n := sub_sub u616 hg6 hB.size
       replace hB := hB.step e614 hg6
       replace H495 := H495.gm e614 (sepM (ne_flip pr6_57))
       replace H496 := H496.gm e614 (sepM (ne_flip pr6_351))
       replace pr6_57 := pr6_57n
       replace pr6_351 := pr6_351n
       clear e614 u616 H492
       have v617 := v506n
       clear v506n
       refine XO.nil ?_
       exact ⟨M615, r610, rfl, rfl, rfl, rfl, rfl, hB, H613, v617, H495, H496, pr6_57, pr6_351, h⟩
     ·intro f566 w565 hI
      obtain ⟨M561, x562, s567, s568, s569, s570, s571, hB, H560, hg6, H563, H564, pr6_57, pr6_351, h⟩ := hI
      refine X.fr (d := 0) s567 ?_
      refine X.fr (d := 7) s568 ?_
      refine X.fr (d := 26) s569 ?_
      refine X.fr (d := 27) s570 ?_
      refine X.fr (d := 28) s571 ?_
      unfold rdata_Put.j2 at h
      refine X.region ?_
      refine XO.do rfl (D.add rfl rfl rfl ?_)
      refine XO.do rfl (D.mv (v := .int .i64 (w64 (x497 + 1))) rfl rfl ?_)
      refine XO.nil ?_
      exact ⟨kf491, Nat.lt_succ_self _, M561, x562, w64 (x497 + 1), rfl, rfl, rfl, rfl, rfl, hB, H560, hg6, H563, H564, pr6_57, pr6_351, h⟩
    ·rw [if_neg c513] at h
     refine X.condF (congrArg Value.bool (decide_eq_false c513)) ?_
     refine X.exit rfl ?_
     refine hM339 _ _ ?_
     refine X.seq fun M619 hM620 => ?_
     refine X.region ?_
     refine XO.do rfl (D.asn (v := .int .i64 0) rfl rfl ?_)
     refine XO.nil ?_
     refine hM620 _ _ ?_
     refine X.ret ?_
     injection h with h
     subst h
     exact hR _ _ _ (ret1 (v := .int .i64 0) rfl rfl) ⟨M493, rfl, H492, hg6, hB⟩
 ·rw [if_neg c44] at h
  refine X.condT (congrArg Value.bool ((congrArg (!·) ((Bool.eq_false_iff.2 c44))))) ?_
  refine X.seq fun M622 hM623 => ?_
  refine X.region ?_
  refine XO.do rfl (D.asn (v := .int .i64 1) rfl rfl ?_)
  refine XO.nil ?_
  refine hM623 _ _ ?_
  refine X.ret ?_
  injection h with h
  subst h
  exact hR _ _ _ (ret1 (v := .int .i64 1) rfl rfl) ⟨M2, rfl, H4, (fun x hx => .inl hx), hB⟩
theorem rdata_Put.ok (a3 : Pack) (a7 : Int) (a8 : Str) (M2 : Nat → Prop) (b2 : Nat) (w : World) (H4 : okPack.is w M2 b2 a3) (hp : rdata_Put.pre a3 a7 a8) :
  Ret Try.prog 37 ([pt b2 0, .int .u16 a7, S a8] : List Value).toArray w fun v w' => ∃ (M' : Nat → Prop), v = .int .i64 ((rdata_Put a3 a7 a8).1) ∧ okPack.is w' M' b2 ((rdata_Put a3 a7 a8).2) ∧ (∀ x, M' x → M2 x ∨ w.heap.size ≤ x) ∧ GrM w w' M2 := by
 obtain ⟨kf, h⟩ := rdata_Put.eq a3 a7 a8 hp
 exact rdata_Put.walk kf a3 a7 a8 M2 b2 w H4 _ h
end Go.Proofs.Ytfcaekghpkpjdaa.K

/- Walks, printed by a program of this session. -/
namespace Go.Proofs.Ytfcaekghpkpjdaa.K
open Go Go.RowKit Go.Proofs
set_option linter.unusedVariables false
set_option maxRecDepth 100000
set_option maxHeartbeats 4000000
namespace FE4
theorem ti25 : TI Try.prog 25 (.agg #[S [], .int .u16 0, .int .u16 0, .int .u32 0, S []]) 5 40 := by unfold TI; kernel_rfl
theorem ag25 : Agg Try.prog 25 5 := agg Try.underlying25 rfl ti25
theorem ti30 : TI Try.prog 30 (.agg #[S [], .int .u16 0, .int .u16 0]) 3 24 := by unfold TI; kernel_rfl
theorem ag30 : Agg Try.prog 30 3 := agg Try.underlying30 rfl ti30
theorem cf11 : Callable Try.prog 11 := callable Try.func11 (by kernel_rfl) rfl
theorem cf23 : Callable Try.prog 23 := callable Try.func23 (by kernel_rfl) rfl
theorem cf29 : Callable Try.prog 29 := callable Try.func29 (by kernel_rfl) rfl
theorem cf30 : Callable Try.prog 30 := callable Try.func30 (by kernel_rfl) rfl
theorem cf31 : Callable Try.prog 31 := callable Try.func31 (by kernel_rfl) rfl
theorem cf35 : Callable Try.prog 35 := callable Try.func35 (by kernel_rfl) rfl
theorem cf36 : Callable Try.prog 36 := callable Try.func36 (by kernel_rfl) rfl
theorem cf37 : Callable Try.prog 37 := callable Try.func37 (by kernel_rfl) rfl
theorem cf38 : Callable Try.prog 38 := callable Try.func38 (by kernel_rfl) rfl
theorem ti9 : TI Try.prog 9 (S []) 1 16 := by unfold TI; kernel_rfl
theorem fa25_0 : FA Try.prog 25 0 0 := fa Try.underlying25 rfl ti9 rfl rfl
theorem ti22 : TI Try.prog 22 (.int .u16 0) 1 2 := by unfold TI; kernel_rfl
theorem fa25_1 : FA Try.prog 25 1 1 := fa Try.underlying25 rfl ti22 rfl rfl
theorem fa25_2 : FA Try.prog 25 2 2 := fa Try.underlying25 rfl ti22 rfl rfl
theorem ti23 : TI Try.prog 23 (.int .u32 0) 1 4 := by unfold TI; kernel_rfl
theorem fa25_3 : FA Try.prog 25 3 3 := fa Try.underlying25 rfl ti23 rfl rfl
theorem fa25_4 : FA Try.prog 25 4 4 := fa Try.underlying25 rfl ti9 rfl rfl
theorem fa30_0 : FA Try.prog 30 0 0 := fa Try.underlying30 rfl ti9 rfl rfl
theorem fa30_1 : FA Try.prog 30 1 1 := fa Try.underlying30 rfl ti22 rfl rfl
theorem fa30_2 : FA Try.prog 30 2 2 := fa Try.underlying30 rfl ti22 rfl rfl
theorem mixed0 : Try.prog.follows .mixedOrders = true := by kernel_rfl
theorem sc22 : Sca Try.prog 22 := sca Try.underlying22 rfl
theorem sc23 : Sca Try.prog 23 := sca Try.underlying23 rfl
theorem sc9 : Sca Try.prog 9 := sca Try.underlying9 rfl
end FE4
open FE4
theorem record_PutQ.walk (a3 : Pack) (a7 : Question) (M2 : Nat → Prop) (b2 : Nat) (w : World) (H4 : okPack.is w M2 b2 a3) (res : Int × Pack) (h : record_PutQ.f a3 a7 = some res) :
  Ret Try.prog 13 ([pt b2 0, .agg #[S a7.name, .int .u16 a7.ty, .int .u16 a7.cls]] : List Value).toArray w fun v w' => ∃ (M' : Nat → Prop), v = .int .i64 res.1 ∧ okPack.is w' M' b2 res.2 ∧ (∀ x, M' x → M2 x ∨ w.heap.size ≤ x) ∧ GrM w w' M2 := by
 unfold record_PutQ.f at h
 refine enterX Try.func13 rfl Try.ntmps13 rfl (fun R hR => ?_)
 have hB := GrM.refl w M2
 refine X.seq fun M8 hM9 => ?_
 refine X.region ?_
 refine XO.do rfl (D.box (v := .agg #[S a7.name, .int .u16 a7.ty, .int .u16 a7.cls]) (cs := [S a7.name, .int .u16 a7.ty, .int .u16 a7.cls]) rfl rfl rfl ?_)
 intro b10 w11 hb12 H13 e14 _
 have ne_6_15 : ∀ x y, M2 x → MB b10 y → x ≠ y := ne_of (lt_le H4.lt (Nat.le_of_eq hb12.symm)) (MB.ge b10)
 have g15 : w.heap.size ≤ b10 := Nat.le_trans hB.size (Nat.le_of_eq hb12.symm)
 clear hb12
 replace hB := gm_ext hB e14
 replace H4 := H4.ext e14
 clear e14
 refine XO.do rfl (D.asn (v := .int .i64 0) rfl rfl ?_)
 refine XO.nil ?_
 refine hM9 _ _ ?_
 refine X.seq fun M33 hM34 => ?_
 refine X.seq fun M41 hM42 => ?_
 refine X.region ?_
 refine XO.do rfl (D.mv (v := pt b2 0) rfl rfl ?_)
 refine XO.do rfl (D.eqlPnil (p := some ⟨b2, 0, none⟩) Try.underlying35 rfl rfl rfl ?_)
 refine XO.do rfl (D.mv (v := .bool false) rfl rfl ?_)
 refine XO.do (wantG (j := 2) (b := false) rfl (rfl) rfl) (D.loadA (j := 0) (us := [S a7.name, .int .u16 a7.ty, .int .u16 a7.cls]) ag30 H13.cs rfl rfl rfl rfl rfl ?_)
 rcases (Classical.em (record_MayQ.pre a7)).symm with c43 | c43
 ·rw [if_neg c43] at h; cases h
 rw [if_pos c43] at h
 obtain ⟨r47, q48, h⟩ := lt_elim h
 have hc46 := record_MayQ.ok a7 w11 c43 
 rw [q48] at hc46
 clear q48
 refine XO.do (wantG (j := 2) (b := false) rfl (rfl) rfl) (D.call (vs := [.agg #[S a7.name, .int .u16 a7.ty, .int .u16 a7.cls]]) cf23 hc46 rfl rfl ?_)
 rintro _ w44 ⟨rfl, e45⟩
 clear hc46
 replace hB := gm_ext hB e45
 replace H4 := H4.ext e45
 replace H13 := H13.ext e45
 clear e45
 refine XO.do (wantG (j := 2) (b := false) rfl (rfl) rfl) (D.not r47 rfl rfl ?_)
 refine XO.do rfl (D.pick false (v := .bool (!r47)) (congrArg Value.bool (rfl)) rfl rfl ?_)
 refine XO.nil ?_
 refine hM42 _ _ ?_
 by_cases c49 : r47 = true
 ·rw [if_pos c49] at h
  refine X.condF (congrArg Value.bool ((congrArg (!·) (c49)))) ?_
  refine X.skip ?_
  refine hM34 _ _ ?_
  refine X.seq fun M50 hM51 => ?_
  refine X.region ?_
  refine XO.do rfl (D.mv (v := pt b2 0) rfl rfl ?_)
  refine XO.do rfl (D.fieldAddr (o' := 0) fa30_0 rfl rfl rfl ?_)
  refine XO.do rfl (D.load (j := 0) (v := S a7.name) sc9 H13.cs rfl rfl rfl rfl ?_)
  rcases (Classical.em (wire_Pack_Name.pre a3 a7.name)).symm with c52 | c52
  ·rw [if_neg c52] at h; cases h
  rw [if_pos c52] at h
  obtain ⟨r56, q57, h⟩ := lt_elim h
  have hc55 := wire_Pack_Name.ok a3 a7.name M2 b2 w44 H4 c52 
  rw [q57] at hc55
  clear q57
  refine XO.do rfl (D.call (vs := [pt b2 0, S a7.name]) cf29 hc55 rfl rfl ?_)
  rintro _ w58 ⟨M61, rfl, H59, u62, e60⟩
  clear hc55
  have ne_6_15n := ne_sub u62 ne_6_15 (MB.lt H13 (Nat.le_refl _))
  have v5n := sub_sub u62 (fun x hx => .inl hx) hB.size
  replace hB := hB.step e60 (fun x hx => .inl hx)
  replace H13 := H13.gm e60 (sepM (ne_flip ne_6_15))
  replace ne_6_15 := ne_6_15n
  clear e60 u62 H4
  have v63 := v5n
  clear v5n
  refine XO.nil ?_
  refine hM51 _ _ ?_
  refine X.seq fun M65 hM66 => ?_
  refine X.tree mixed0 [0, 0, 2, 6, 0, 16, 62, 126, 255] (.q 0 (.q 1 (.q 2 (.q 3 (.q 4 (.q 5 (.q 6 (.q 7 (.alt 8 .nil .nil))))))))) (fun w' => GrM w w' M2 ∧ Blk w' b10 [S a7.name, .int .u16 a7.ty, .int .u16 a7.cls] 30) (fun w' => GrM w w' M2 ∧ okPack.is w' M61 b2 r56.2 ∧ Blk w' b10 [S a7.name, .int .u16 a7.ty, .int .u16 a7.cls] 30) (by decide +kernel) (fun w' hx _ => ⟨gm_ext hB hx, H59.ext hx, H13.ext hx⟩) (fun a b hC hx => by obtain ⟨hB, H59, H13⟩ := hC; exact ⟨gm_ext hB hx, H59.ext hx, H13.ext hx⟩) (fun a hC => by obtain ⟨hB, H59, H13⟩ := hC; exact ⟨hB, H13⟩) ?_
  refine QT.do (v := pt b2 0) rfl (by decide +kernel) rfl rfl rfl (fun w' hJ => by obtain ⟨hB, H59, H13⟩ := hJ; exact D.mv (v := pt b2 0) rfl rfl ⟨rfl, Ext.refl _⟩) ?_
  refine QT.do (v := pt b10 1) rfl (by decide +kernel) rfl rfl rfl (fun w' hJ => by obtain ⟨hB, H59, H13⟩ := hJ; exact D.fieldAddr (o' := 1) fa30_1 rfl rfl rfl ⟨rfl, Ext.refl _⟩) ?_
  refine QT.do (v := .int .u16 a7.ty) rfl (by decide +kernel) rfl rfl rfl (fun w' hJ => by obtain ⟨hB, H59, H13⟩ := hJ; exact D.load (j := 1) (v := .int .u16 a7.ty) sc22 H13.cs rfl rfl rfl rfl ⟨rfl, Ext.refl _⟩) ?_
  obtain ⟨r95, q96, h⟩ := lt_elim h
  refine QT.do (v := S r95) rfl (by decide +kernel) rfl rfl rfl (fun w' hJ => by obtain ⟨hB, H59, H13⟩ := hJ; have hc := octet_Put16.ok a7.ty w'; rw [q96] at hc; refine D.call (vs := [.int .u16 a7.ty]) cf31 hc rfl rfl ?_; rintro _ w2 ⟨rfl, e2⟩; exact ⟨rfl, e2⟩) ?_
  refine QT.do (v := pt b10 2) rfl (by decide +kernel) rfl rfl rfl (fun w' hJ => by obtain ⟨hB, H59, H13⟩ := hJ; exact D.fieldAddr (o' := 2) fa30_2 rfl rfl rfl ⟨rfl, Ext.refl _⟩) ?_
  refine QT.do (v := .int .u16 a7.cls) rfl (by decide +kernel) rfl rfl rfl (fun w' hJ => by obtain ⟨hB, H59, H13⟩ := hJ; exact D.load (j := 2) (v := .int .u16 a7.cls) sc22 H13.cs rfl rfl rfl rfl ⟨rfl, Ext.refl _⟩) ?_
  obtain ⟨r100, q101, h⟩ := lt_elim h
  refine QT.do (v := S r100) rfl (by decide +kernel) rfl rfl rfl (fun w' hJ => by obtain ⟨hB, H59, H13⟩ := hJ; have hc := octet_Put16.ok a7.cls w'; rw [q101] at hc; refine D.call (vs := [.int .u16 a7.cls]) cf31 hc rfl rfl ?_; rintro _ w2 ⟨rfl, e2⟩; exact ⟨rfl, e2⟩) ?_
  rcases (Classical.em (r95.length + r100.length ≤ 9223372036854775807)).symm with c102 | c102
  ·rw [if_neg c102] at h; cases h
  rw [if_pos c102] at h
  refine QT.do (v := S (r95 ++ r100)) rfl (by decide +kernel) rfl rfl rfl (fun w' hJ => by obtain ⟨hB, H59, H13⟩ := hJ; exact D.addS rfl rfl c102 rfl ⟨rfl, Ext.refl _⟩) ?_
  refine QT.eff rfl rfl (fun w103 hC => ?_) QT.nomore
  obtain ⟨hB, H59, H13⟩ := hC
  rcases (Classical.em (wire_Pack_Add.pre r56.2 (r95 ++ r100))).symm with c104 | c104
  ·rw [if_neg c104] at h; cases h
  rw [if_pos c104] at h
  obtain ⟨r108, q109, h⟩ := lt_elim h
  have hc107 := wire_Pack_Add.ok r56.2 (r95 ++ r100) M61 b2 w103 H59 c104 
  rw [q109] at hc107
  clear q109
  refine D.call (vs := [pt b2 0, S (r95 ++ r100)]) cf30 hc107 rfl rfl ?_
  rintro _ w110 ⟨M113, rfl, H111, u114, e112⟩
  clear hc107
  have ne_6_15n := ne_sub u114 ne_6_15 (MB.lt H13 (Nat.le_refl _))
  have v64n := sub_sub u114 v63 hB.size
  replace hB := hB.step e112 v63
  replace H13 := H13.gm e112 (sepM (ne_flip ne_6_15))
  replace ne_6_15 := ne_6_15n
  clear e112 u114 H59
  have v115 := v64n
  clear v64n
  refine ⟨_, rfl, (fun w' => GrM w w' M2 ∧ okPack.is w' M113 b2 r108 ∧ Blk w' b10 [S a7.name, .int .u16 a7.ty, .int .u16 a7.cls] 30), ⟨hB, H111, H13⟩, (fun a b hC hx => by obtain ⟨hB, H111, H13⟩ := hC; exact ⟨gm_ext hB hx, H111.ext hx, H13.ext hx⟩), (fun a hC => by obtain ⟨hB, H111, H13⟩ := hC; exact ⟨hB, H13⟩), ?_⟩
  refine QT.nil fun w117 hC => ?_
  obtain ⟨hB, H111, H13⟩ := hC
  refine hM66 _ _ ?_
  refine X.seq fun M118 hM119 => ?_
  refine X.region ?_
  refine XO.do rfl (D.asn (v := .int .i64 0) rfl rfl ?_)
  refine XO.nil ?_
  refine hM119 _ _ ?_
  refine X.ret ?_
  injection h with h
  subst h
  exact hR _ _ _ (ret1 (v := .int .i64 0) rfl rfl) ⟨M113, rfl, H111, v115, hB⟩
 ·rw [if_neg c49] at h
  refine X.condT (congrArg Value.bool ((congrArg (!·) ((Bool.eq_false_iff.2 c49))))) ?_
  refine X.seq fun M120 hM121 => ?_
  refine X.region ?_
  refine XO.do rfl (D.asn (v := .int .i64 1) rfl rfl ?_)
  refine XO.nil ?_
  refine hM121 _ _ ?_
  refine X.ret ?_
  injection h with h
  subst h
  exact hR _ _ _ (ret1 (v := .int .i64 1) rfl rfl) ⟨M2, rfl, H4, (fun x hx => .inl hx), hB⟩
theorem record_PutQ.ok (a3 : Pack) (a7 : Question) (M2 : Nat → Prop) (b2 : Nat) (w : World) (H4 : okPack.is w M2 b2 a3) (hp : record_PutQ.pre a3 a7) :
  Ret Try.prog 13 ([pt b2 0, .agg #[S a7.name, .int .u16 a7.ty, .int .u16 a7.cls]] : List Value).toArray w fun v w' => ∃ (M' : Nat → Prop), v = .int .i64 ((record_PutQ a3 a7).1) ∧ okPack.is w' M' b2 ((record_PutQ a3 a7).2) ∧ (∀ x, M' x → M2 x ∨ w.heap.size ≤ x) ∧ GrM w w' M2 := by
 have h := record_PutQ.eq a3 a7 hp
 exact record_PutQ.walk  a3 a7 M2 b2 w H4 _ h
theorem record_Put.walk (a3 : Pack) (a7 : RR) (M2 : Nat → Prop) (b2 : Nat) (w : World) (H4 : okPack.is w M2 b2 a3) (res : Int × Pack) (h : record_Put.f a3 a7 = some res) :
  Ret Try.prog 15 ([pt b2 0, .agg #[S a7.name, .int .u16 a7.ty, .int .u16 a7.cls, .int .u32 a7.ttl, S a7.data]] : List Value).toArray w fun v w' => ∃ (M' : Nat → Prop), v = .int .i64 res.1 ∧ okPack.is w' M' b2 res.2 ∧ (∀ x, M' x → M2 x ∨ w.heap.size ≤ x) ∧ GrM w w' M2 := by
 unfold record_Put.f at h
 refine enterX Try.func15 rfl Try.ntmps15 rfl (fun R hR => ?_)
 have hB := GrM.refl w M2
 refine X.seq fun M8 hM9 => ?_
 refine X.region ?_
 refine XO.do rfl (D.box (v := .agg #[S a7.name, .int .u16 a7.ty, .int .u16 a7.cls, .int .u32 a7.ttl, S a7.data]) (cs := [S a7.name, .int .u16 a7.ty, .int .u16 a7.cls, .int .u32 a7.ttl, S a7.data]) rfl rfl rfl ?_)
 intro b10 w11 hb12 H13 e14 _
 have ne_6_15 : ∀ x y, M2 x → MB b10 y → x ≠ y := ne_of (lt_le H4.lt (Nat.le_of_eq hb12.symm)) (MB.ge b10)
 have g15 : w.heap.size ≤ b10 := Nat.le_trans hB.size (Nat.le_of_eq hb12.symm)
 clear hb12
 replace hB := gm_ext hB e14
 replace H4 := H4.ext e14
 clear e14
 refine XO.do rfl (D.asn (v := .int .i64 0) rfl rfl ?_)
 refine XO.nil ?_
 refine hM9 _ _ ?_
 refine X.seq fun M33 hM34 => ?_
 refine X.seq fun M41 hM42 => ?_
 refine X.region ?_
 refine XO.do rfl (D.mv (v := pt b2 0) rfl rfl ?_)
 refine XO.do rfl (D.eqlPnil (p := some ⟨b2, 0, none⟩) Try.underlying35 rfl rfl rfl ?_)
 refine XO.do rfl (D.mv (v := .bool false) rfl rfl ?_)
 refine XO.do (wantG (j := 2) (b := false) rfl (rfl) rfl) (D.loadA (j := 0) (us := [S a7.name, .int .u16 a7.ty, .int .u16 a7.cls, .int .u32 a7.ttl, S a7.data]) ag25 H13.cs rfl rfl rfl rfl rfl ?_)
 rcases (Classical.em (record_May.pre a7)).symm with c43 | c43
 ·rw [if_neg c43] at h; cases h
 rw [if_pos c43] at h
 obtain ⟨r47, q48, h⟩ := lt_elim h
 have hc46 := record_May.ok a7 w11 c43 
 rw [q48] at hc46
 clear q48
 refine XO.do (wantG (j := 2) (b := false) rfl (rfl) rfl) (D.call (vs := [.agg #[S a7.name, .int .u16 a7.ty, .int .u16 a7.cls, .int .u32 a7.ttl, S a7.data]]) cf11 hc46 rfl rfl ?_)
 rintro _ w44 ⟨rfl, e45⟩
 clear hc46
 replace hB := gm_ext hB e45
 replace H4 := H4.ext e45
 replace H13 := H13.ext e45
 clear e45
 refine XO.do (wantG (j := 2) (b := false) rfl (rfl) rfl) (D.not r47 rfl rfl ?_)
 refine XO.do rfl (D.pick false (v := .bool (!r47)) (congrArg Value.bool (rfl)) rfl rfl ?_)
 refine XO.nil ?_
 refine hM42 _ _ ?_
 by_cases c49 : r47 = true
 ·rw [if_pos c49] at h
  refine X.condF (congrArg Value.bool ((congrArg (!·) (c49)))) ?_
  refine X.skip ?_
  refine hM34 _ _ ?_
  refine X.seq fun M50 hM51 => ?_
  refine X.region ?_
  refine XO.do rfl (D.mv (v := pt b2 0) rfl rfl ?_)
  refine XO.do rfl (D.fieldAddr (o' := 0) fa25_0 rfl rfl rfl ?_)
  refine XO.do rfl (D.load (j := 0) (v := S a7.name) sc9 H13.cs rfl rfl rfl rfl ?_)
  rcases (Classical.em (wire_Pack_Name.pre a3 a7.name)).symm with c52 | c52
  ·rw [if_neg c52] at h; cases h
  rw [if_pos c52] at h
  obtain ⟨r56, q57, h⟩ := lt_elim h
  have hc55 := wire_Pack_Name.ok a3 a7.name M2 b2 w44 H4 c52 
  rw [q57] at hc55
  clear q57
  refine XO.do rfl (D.call (vs := [pt b2 0, S a7.name]) cf29 hc55 rfl rfl ?_)
  rintro _ w58 ⟨M61, rfl, H59, u62, e60⟩
  clear hc55
  have ne_6_15n := ne_sub u62 ne_6_15 (MB.lt H13 (Nat.le_refl _))
  have v5n := sub_sub u62 (fun x hx => .inl hx) hB.size
  replace hB := hB.step e60 (fun x hx => .inl hx)
  replace H13 := H13.gm e60 (sepM (ne_flip ne_6_15))
  replace ne_6_15 := ne_6_15n
  clear e60 u62 H4
  have v63 := v5n
  clear v5n
  refine XO.nil ?_
  refine hM51 _ _ ?_
  refine X.seq fun M65 hM66 => ?_
  refine X.tree mixed0 [0, 0, 2, 6, 0, 16, 62, 126, 0, 256, 894, 2046, 4095] (.q 0 (.q 1 (.q 2 (.q 3 (.q 4 (.q 5 (.q 6 (.q 7 (.q 8 (.q 9 (.q 10 (.q 11 (.alt 12 .nil .nil))))))))))))) (fun w' => GrM w w' M2 ∧ Blk w' b10 [S a7.name, .int .u16 a7.ty, .int .u16 a7.cls, .int .u32 a7.ttl, S a7.data] 25) (fun w' => GrM w w' M2 ∧ okPack.is w' M61 b2 r56.2 ∧ Blk w' b10 [S a7.name, .int .u16 a7.ty, .int .u16 a7.cls, .int .u32 a7.ttl, S a7.data] 25) (by decide +kernel) (fun w' hx _ => ⟨gm_ext hB hx, H59.ext hx, H13.ext hx⟩) (fun a b hC hx => by obtain ⟨hB, H59, H13⟩ := hC; exact ⟨gm_ext hB hx, H59.ext hx, H13.ext hx⟩) (fun a hC => by obtain ⟨hB, H59, H13⟩ := hC; exact ⟨hB, H13⟩) ?_
  refine QT.do (v := pt b2 0) rfl (by decide +kernel) rfl rfl rfl (fun w' hJ => by obtain ⟨hB, H59, H13⟩ := hJ; exact D.mv (v := pt b2 0) rfl rfl ⟨rfl, Ext.refl _⟩) ?_
  refine QT.do (v := pt b10 1) rfl (by decide +kernel) rfl rfl rfl (fun w' hJ => by obtain ⟨hB, H59, H13⟩ := hJ; exact D.fieldAddr (o' := 1) fa25_1 rfl rfl rfl ⟨rfl, Ext.refl _⟩) ?_
  refine QT.do (v := .int .u16 a7.ty) rfl (by decide +kernel) rfl rfl rfl (fun w' hJ => by obtain ⟨hB, H59, H13⟩ := hJ; exact D.load (j := 1) (v := .int .u16 a7.ty) sc22 H13.cs rfl rfl rfl rfl ⟨rfl, Ext.refl _⟩) ?_
  obtain ⟨r101, q102, h⟩ := lt_elim h
  refine QT.do (v := S r101) rfl (by decide +kernel) rfl rfl rfl (fun w' hJ => by obtain ⟨hB, H59, H13⟩ := hJ; have hc := octet_Put16.ok a7.ty w'; rw [q102] at hc; refine D.call (vs := [.int .u16 a7.ty]) cf31 hc rfl rfl ?_; rintro _ w2 ⟨rfl, e2⟩; exact ⟨rfl, e2⟩) ?_
  refine QT.do (v := pt b10 2) rfl (by decide +kernel) rfl rfl rfl (fun w' hJ => by obtain ⟨hB, H59, H13⟩ := hJ; exact D.fieldAddr (o' := 2) fa25_2 rfl rfl rfl ⟨rfl, Ext.refl _⟩) ?_
  refine QT.do (v := .int .u16 a7.cls) rfl (by decide +kernel) rfl rfl rfl (fun w' hJ => by obtain ⟨hB, H59, H13⟩ := hJ; exact D.load (j := 2) (v := .int .u16 a7.cls) sc22 H13.cs rfl rfl rfl rfl ⟨rfl, Ext.refl _⟩) ?_
  obtain ⟨r106, q107, h⟩ := lt_elim h
  refine QT.do (v := S r106) rfl (by decide +kernel) rfl rfl rfl (fun w' hJ => by obtain ⟨hB, H59, H13⟩ := hJ; have hc := octet_Put16.ok a7.cls w'; rw [q107] at hc; refine D.call (vs := [.int .u16 a7.cls]) cf31 hc rfl rfl ?_; rintro _ w2 ⟨rfl, e2⟩; exact ⟨rfl, e2⟩) ?_
  rcases (Classical.em (r101.length + r106.length ≤ 9223372036854775807)).symm with c108 | c108
  ·rw [if_neg c108] at h; cases h
  rw [if_pos c108] at h
  refine QT.do (v := S (r101 ++ r106)) rfl (by decide +kernel) rfl rfl rfl (fun w' hJ => by obtain ⟨hB, H59, H13⟩ := hJ; exact D.addS rfl rfl c108 rfl ⟨rfl, Ext.refl _⟩) ?_
  refine QT.do (v := pt b10 3) rfl (by decide +kernel) rfl rfl rfl (fun w' hJ => by obtain ⟨hB, H59, H13⟩ := hJ; exact D.fieldAddr (o' := 3) fa25_3 rfl rfl rfl ⟨rfl, Ext.refl _⟩) ?_
  refine QT.do (v := .int .u32 a7.ttl) rfl (by decide +kernel) rfl rfl rfl (fun w' hJ => by obtain ⟨hB, H59, H13⟩ := hJ; exact D.load (j := 3) (v := .int .u32 a7.ttl) sc23 H13.cs rfl rfl rfl rfl ⟨rfl, Ext.refl _⟩) ?_
  obtain ⟨r112, q113, h⟩ := lt_elim h
  refine QT.do (v := S r112) rfl (by decide +kernel) rfl rfl rfl (fun w' hJ => by obtain ⟨hB, H59, H13⟩ := hJ; have hc := octet_Put32.ok a7.ttl w'; rw [q113] at hc; refine D.call (vs := [.int .u32 a7.ttl]) cf35 hc rfl rfl ?_; rintro _ w2 ⟨rfl, e2⟩; exact ⟨rfl, e2⟩) ?_
  rcases (Classical.em ((r101 ++ r106).length + r112.length ≤ 9223372036854775807)).symm with c114 | c114
  ·rw [if_neg c114] at h; cases h
  rw [if_pos c114] at h
  refine QT.do (v := S ((r101 ++ r106) ++ r112)) rfl (by decide +kernel) rfl rfl rfl (fun w' hJ => by obtain ⟨hB, H59, H13⟩ := hJ; exact D.addS rfl rfl c114 rfl ⟨rfl, Ext.refl _⟩) ?_
  refine QT.eff rfl rfl (fun w115 hC => ?_) QT.nomore
  obtain ⟨hB, H59, H13⟩ := hC
  rcases (Classical.em (wire_Pack_Add.pre r56.2 ((r101 ++ r106) ++ r112))).symm with c116 | c116
  ·rw [if_neg c116] at h; cases h
  rw [if_pos c116] at h
  obtain ⟨r120, q121, h⟩ := lt_elim h
  have hc119 := wire_Pack_Add.ok r56.2 ((r101 ++ r106) ++ r112) M61 b2 w115 H59 c116 
  rw [q121] at hc119
  clear q121
  refine D.call (vs := [pt b2 0, S ((r101 ++ r106) ++ r112)]) cf30 hc119 rfl rfl ?_
  rintro _ w122 ⟨M125, rfl, H123, u126, e124⟩
  clear hc119
  have ne_6_15n := ne_sub u126 ne_6_15 (MB.lt H13 (Nat.le_refl _))
  have v64n := sub_sub u126 v63 hB.size
  replace hB := hB.step e124 v63
  replace H13 := H13.gm e124 (sepM (ne_flip ne_6_15))
  replace ne_6_15 := ne_6_15n
  clear e124 u126 H59
  have v127 := v64n
  clear v64n
  refine ⟨_, rfl, (fun w' => GrM w w' M2 ∧ okPack.is w' M125 b2 r120 ∧ Blk w' b10 [S a7.name, .int .u16 a7.ty, .int .u16 a7.cls, .int .u32 a7.ttl, S a7.data] 25), ⟨hB, H123, H13⟩, (fun a b hC hx => by obtain ⟨hB, H123, H13⟩ := hC; exact ⟨gm_ext hB hx, H123.ext hx, H13.ext hx⟩), (fun a hC => by obtain ⟨hB, H123, H13⟩ := hC; exact ⟨hB, H13⟩), ?_⟩
  refine QT.nil fun w129 hC => ?_
  obtain ⟨hB, H123, H13⟩ := hC
  refine hM66 _ _ ?_
  refine X.seq fun M130 hM131 => ?_
  refine X.region ?_
  refine XO.do rfl (D.mv (v := pt b2 0) rfl rfl ?_)
  rcases (Classical.em (wire_Pack_Mark.pre r120)).symm with c132 | c132
  ·rw [if_neg c132] at h; cases h
  rw [if_pos c132] at h
  obtain ⟨r136, q137, h⟩ := lt_elim h
  have hc135 := wire_Pack_Mark.ok r120 M125 b2 w129 H123 c132 
  rw [q137] at hc135
  clear q137
  refine XO.do rfl (D.call (vs := [pt b2 0]) cf36 hc135 rfl rfl ?_)
  rintro _ w138 ⟨M141, rfl, H139, u142, e140⟩
  clear hc135
  have ne_6_15n := ne_sub u142 ne_6_15 (MB.lt H13 (Nat.le_refl _))
  have v128n := sub_sub u142 v127 hB.size
  replace hB := hB.step e140 v127
  replace H13 := H13.gm e140 (sepM (ne_flip ne_6_15))
  replace ne_6_15 := ne_6_15n
  clear e140 u142 H123
  have v143 := v128n
  clear v128n
  refine XO.do rfl (D.asn (v := .int .i64 r136.1) rfl rfl ?_)
  refine XO.nil ?_
  refine hM131 _ _ ?_
  refine X.seq fun M145 hM146 => ?_
  refine X.region ?_
  refine XO.do rfl (D.mv (v := pt b2 0) rfl rfl ?_)
  refine XO.do rfl (D.fieldAddr (o' := 1) fa25_1 rfl rfl rfl ?_)
  refine XO.do rfl (D.load (j := 1) (v := .int .u16 a7.ty) sc22 H13.cs rfl rfl rfl rfl ?_)
  refine XO.do rfl (D.fieldAddr (o' := 4) fa25_4 rfl rfl rfl ?_)
  refine XO.do rfl (D.load (j := 4) (v := S a7.data) sc9 H13.cs rfl rfl rfl rfl ?_)
  rcases (Classical.em (rdata_Put.pre r136.2 a7.ty a7.data)).symm with c147 | c147
  ·rw [if_neg c147] at h; cases h
  rw [if_pos c147] at h
  obtain ⟨r151, q152, h⟩ := lt_elim h
  have hc150 := rdata_Put.ok r136.2 a7.ty a7.data M141 b2 w138 H139 c147 
  rw [q152] at hc150
  clear q152
  refine XO.do rfl (D.call (vs := [pt b2 0, .int .u16 a7.ty, S a7.data]) cf37 hc150 rfl rfl ?_)
  rintro _ w153 ⟨M156, rfl, H154, u157, e155⟩
  clear hc150
  have ne_6_15n := ne_sub u157 ne_6_15 (MB.lt H13 (Nat.le_refl _))
  have v144n := sub_sub u157 v143 hB.size
  replace hB := hB.step e155 v143
  replace H13 := H13.gm e155 (sepM (ne_flip ne_6_15))
  replace ne_6_15 := ne_6_15n
  clear e155 u157 H139
  have v158 := v144n
  clear v144n
  refine XO.nil ?_
  refine hM146 _ _ ?_
  refine X.seq fun M160 hM161 => ?_
  refine X.region ?_
  refine XO.do rfl (D.mv (v := pt b2 0) rfl rfl ?_)
  refine XO.do rfl (D.mv (v := .int .i64 r136.1) rfl rfl ?_)
  rcases (Classical.em (wire_Pack_Close.pre r151.2 r136.1)).symm with c162 | c162
  ·rw [if_neg c162] at h; cases h
  rw [if_pos c162] at h
  obtain ⟨r166, q167, h⟩ := lt_elim h
  have hc165 := wire_Pack_Close.ok r151.2 r136.1 M156 b2 w153 H154 c162 
  rw [q167] at hc165
  clear q167
  refine XO.do rfl (D.call (vs := [pt b2 0, .int .i64 r136.1]) cf38 hc165 rfl rfl ?_)
  rintro _ w168 ⟨M171, rfl, H169, u172, e170⟩
  clear hc165
  have ne_6_15n := ne_sub u172 ne_6_15 (MB.lt H13 (Nat.le_refl _))
  have v159n := sub_sub u172 v158 hB.size
  replace hB := hB.step e170 v158
  replace H13 := H13.gm e170 (sepM (ne_flip ne_6_15))
  replace ne_6_15 := ne_6_15n
  clear e170 u172 H154
  have v173 := v159n
  clear v159n
  refine XO.do rfl (D.asn (v := .int .i64 r166.1) rfl rfl ?_)
  refine XO.nil ?_
  refine hM161 _ _ ?_
  refine X.ret ?_
  injection h with h
  subst h
  exact hR _ _ _ (ret1 (v := .int .i64 r166.1) rfl rfl) ⟨M171, rfl, H169, v173, hB⟩
 ·rw [if_neg c49] at h
  refine X.condT (congrArg Value.bool ((congrArg (!·) ((Bool.eq_false_iff.2 c49))))) ?_
  refine X.seq fun M175 hM176 => ?_
  refine X.region ?_
  refine XO.do rfl (D.asn (v := .int .i64 1) rfl rfl ?_)
  refine XO.nil ?_
  refine hM176 _ _ ?_
  refine X.ret ?_
  injection h with h
  subst h
  exact hR _ _ _ (ret1 (v := .int .i64 1) rfl rfl) ⟨M2, rfl, H4, (fun x hx => .inl hx), hB⟩
theorem record_Put.ok (a3 : Pack) (a7 : RR) (M2 : Nat → Prop) (b2 : Nat) (w : World) (H4 : okPack.is w M2 b2 a3) (hp : record_Put.pre a3 a7) :
  Ret Try.prog 15 ([pt b2 0, .agg #[S a7.name, .int .u16 a7.ty, .int .u16 a7.cls, .int .u32 a7.ttl, S a7.data]] : List Value).toArray w fun v w' => ∃ (M' : Nat → Prop), v = .int .i64 ((record_Put a3 a7).1) ∧ okPack.is w' M' b2 ((record_Put a3 a7).2) ∧ (∀ x, M' x → M2 x ∨ w.heap.size ≤ x) ∧ GrM w w' M2 := by
 have h := record_Put.eq a3 a7 hp
 exact record_Put.walk  a3 a7 M2 b2 w H4 _ h
end Go.Proofs.Ytfcaekghpkpjdaa.K

/- Walks, printed by a program of this session. -/
namespace Go.Proofs.Ytfcaekghpkpjdaa.K
open Go Go.RowKit Go.Proofs
set_option linter.unusedVariables false
set_option maxRecDepth 100000
set_option maxHeartbeats 4000000
namespace FC4
theorem cf45 : Callable Try.prog 45 := callable Try.func45 (by kernel_rfl) rfl
theorem cf54 : Callable Try.prog 54 := callable Try.func54 (by kernel_rfl) rfl
theorem cf64 : Callable Try.prog 64 := callable Try.func64 (by kernel_rfl) rfl
theorem cf77 : Callable Try.prog 77 := callable Try.func77 (by kernel_rfl) rfl
theorem cf78 : Callable Try.prog 78 := callable Try.func78 (by kernel_rfl) rfl
theorem cf79 : Callable Try.prog 79 := callable Try.func79 (by kernel_rfl) rfl
theorem cf80 : Callable Try.prog 80 := callable Try.func80 (by kernel_rfl) rfl
theorem cf81 : Callable Try.prog 81 := callable Try.func81 (by kernel_rfl) rfl
theorem ti130 : TI Try.prog 130 (.agg #[.pointer none, .slice none 0 0]) 2 32 := by unfold TI; kernel_rfl
end FC4
open FC4
theorem wire_Take.walk (kf : Nat) (a1 : Str) (a2 : Int)  (w : World)  (res : Str × Int × Int) (h : wire_Take.f kf a1 a2 = some res) :
  Ret Try.prog 61 ([S a1, .int .i64 a2] : List Value).toArray w fun v w' => v = .tuple #[S res.1, .int .i64 res.2.1, .int .i64 res.2.2] ∧ Ext w w' := by
 unfold wire_Take.f at h
 refine enterX Try.func61 rfl Try.ntmps61 rfl (fun R hR => ?_)
 have hB := Below.refl w.heap.size w
 refine X.seq fun M3 hM4 => ?_
 refine X.region ?_
 refine XO.do rfl (D.asn (v := S []) rfl rfl ?_)
 refine XO.do rfl (D.asn (v := .int .i64 0) rfl rfl ?_)
 refine XO.do rfl (D.asn (v := .int .i64 0) rfl rfl ?_)
 refine XO.nil ?_
 refine hM4 _ _ ?_
 refine X.seq fun M5 hM6 => ?_
 refine X.region ?_
 refine XO.do rfl (D.alloc ti130 (cs := [.pointer none, .slice none 0 0]) rfl rfl ?_)
 intro b7 w8 hb9 H10 e11 _
 have g12 : w.heap.size ≤ b7 := Nat.le_trans hB.size (Nat.le_of_eq hb9.symm)
 clear hb9
 replace hB := below_ext hB e11
 clear e11
 have H13 := BObj.new H10 g12
 clear H10
 refine XO.nil ?_
 refine hM6 _ _ ?_
 refine X.seq fun M15 hM16 => ?_
 refine X.region ?_
 refine XO.do rfl (D.mv (v := .int .i64 a2) rfl rfl ?_)
 refine XO.do rfl (D.asn (v := .int .i64 a2) rfl rfl ?_)
 refine XO.do rfl (D.asn (v := .int .i64 (-1)) rfl rfl ?_)
 refine XO.nil ?_
 refine hM16 _ _ ?_
 refine X.block ?_
 refine X.loop (fun kq658 => fun f350 w349 => ∃ x343 : Int, ∃ x345 : Str, ∃ x346 : Int, ∃ x347 : Int, f350 0 = S a1 ∧ f350 1 = .int .i64 x343 ∧ f350 7 = pt b7 0 ∧ f350 8 = .int .i64 x346 ∧ f350 9 = .int .i64 x347 ∧ Below w.heap.size w w349 ∧ BObj w349 w.heap.size b7 x345 ∧ wire_Take.l1 a1 kq658 x343 x345 x346 x347 = some res) kf ?_ ?_
 ·exact ⟨a2, ([] : Str), a2, (-1), rfl, rfl, rfl, rfl, rfl, hB, H13, h⟩
 ·intro kq658 f350 w349 hI
  obtain ⟨x343, x345, x346, x347, s351, s352, s353, s354, s355, hB, H344, h⟩ := hI
  cases kq658 with
  | zero => exact absurd h (by rw [wire_Take.l1.eq_1]; simp)
  | succ kf342 =>
   rw [wire_Take.l1.eq_2] at h
   refine X.fr (d := 0) s351 ?_
   refine X.fr (d := 1) s352 ?_
   refine X.fr (d := 7) s353 ?_
   refine X.fr (d := 8) s354 ?_
   refine X.fr (d := 9) s355 ?_
   refine X.block ?_
   refine X.seq fun M357 hM358 => ?_
   refine X.region ?_
   refine XO.do rfl (D.mv (v := S a1) rfl rfl ?_)
   refine XO.do rfl (D.mv (v := .int .i64 x343) rfl rfl ?_)
   rcases (Classical.em (octet_U8.pre a1 x343)).symm with c359 | c359
   ·rw [if_neg c359] at h; cases h
   rw [if_pos c359] at h
   obtain ⟨r363, q364, h⟩ := lt_elim h
   have hc362 := octet_U8.ok a1 x343 w349 c359 
   rw [q364] at hc362
   clear q364
   refine XO.do rfl (D.call (vs := [S a1, .int .i64 x343]) cf77 hc362 rfl rfl ?_)
   rintro _ w360 ⟨rfl, e361⟩
   clear hc362
   replace hB := below_ext hB e361
   replace H344 := H344.ext e361
   clear e361
   refine XO.do rfl (D.mv (v := .tuple #[.int .u8 r363.1, .int .i64 r363.2.1, .int .i64 r363.2.2]) rfl rfl ?_)
   refine XO.do rfl (D.extract (v := .int .u8 r363.1) rfl rfl rfl ?_)
   refine XO.do rfl (D.extract (v := .int .i64 r363.2.1) rfl rfl rfl ?_)
   refine XO.do rfl (D.extract (v := .int .i64 r363.2.2) rfl rfl rfl ?_)
   refine XO.do rfl (D.asn (v := .int .u8 r363.1) rfl rfl ?_)
   refine XO.do rfl (D.asn (v := .int .i64 r363.2.1) rfl rfl ?_)
   refine XO.do rfl (D.asn (v := .int .i64 r363.2.2) rfl rfl ?_)
   refine XO.nil ?_
   refine hM358 _ _ ?_
   refine X.seq fun M461 hM462 => ?_
   refine X.block ?_
   refine X.cut (fun f468 w467 => ∃ x466 : Bool, f468 0 = S a1 ∧ f468 1 = .int .i64 x343 ∧ f468 7 = pt b7 0 ∧ f468 8 = .int .i64 x346 ∧ f468 9 = .int .i64 x347 ∧ f468 10 = .int .u8 r363.1 ∧ f468 11 = .int .i64 r363.2.1 ∧ f468 26 = .bool x466 ∧ Below w.heap.size w w467 ∧ BObj w467 w.heap.size b7 x345 ∧ wire_Take.j2 r363 a1 x343 x347 (wire_Take.l1 a1 kf342) x345 x346 x466 = some res) ?_ ?_
   ·refine X.region ?_
    refine XO.do rfl (D.mv (v := .int .i64 r363.2.2) rfl rfl ?_)
    refine XO.do rfl (D.neq rfl rfl rfl ?_)
    refine XO.do rfl (D.mv (v := .bool (r363.2.2 != 0)) rfl rfl ?_)
    by_cases c656 : r363.2.2 = 0
    ·rw [if_pos c656] at h
     refine XO.do (wantG (j := 2) (b := false) rfl ((congrArg (!·) (beq_iff_eq.2 c656))) rfl) (D.mv (v := .int .u8 r363.1) rfl rfl ?_)
     refine XO.do (wantG (j := 2) (b := false) rfl ((congrArg (!·) (beq_iff_eq.2 c656))) rfl) (D.gtr rfl rfl rfl ?_)
     refine XO.do (wantG (j := 2) (b := false) rfl ((congrArg (!·) (beq_iff_eq.2 c656))) rfl) (D.mv (v := .bool (decide (63 < r363.1))) rfl rfl ?_)
     by_cases c657 : 63 < r363.1
     ·rw [if_pos c657] at h
      refine XO.do (wantG (j := 5) (b := true) rfl (decide_eq_true c657) rfl) (D.mv (v := .int .u8 r363.1) rfl rfl ?_)
      refine XO.do (wantG (j := 5) (b := true) rfl (decide_eq_true c657) rfl) (D.lss rfl rfl rfl ?_)
      refine XO.do (wantG (j := 2) (b := false) rfl ((congrArg (!·) (beq_iff_eq.2 c656))) rfl) (D.pick true (v := .bool (decide (r363.1 < 192))) (congrArg Value.bool (decide_eq_true c657)) rfl rfl ?_)
      refine XO.do rfl (D.pick false (v := .bool (decide (r363.1 < 192))) (congrArg Value.bool ((congrArg (!·) (beq_iff_eq.2 c656)))) rfl rfl ?_)
      refine XO.do rfl (D.asn (v := .bool (decide (r363.1 < 192))) rfl rfl ?_)
      refine XO.nil ?_
      exact ⟨(decide (r363.1 < 192)), rfl, rfl, rfl, rfl, rfl, rfl, rfl, rfl, hB, H344, h⟩
     ·rw [if_neg c657] at h
      refine XO.off (wantG0 (j := 5) (b := true) rfl (decide_eq_false c657) rfl) rfl rfl ?_
      refine XO.off (wantG0 (j := 5) (b := true) rfl (decide_eq_false c657) rfl) rfl rfl ?_
      refine XO.do (wantG (j := 2) (b := false) rfl ((congrArg (!·) (beq_iff_eq.2 c656))) rfl) (D.pick false (v := .bool false) (congrArg Value.bool (decide_eq_false c657)) rfl rfl ?_)
      refine XO.do rfl (D.pick false (v := .bool false) (congrArg Value.bool ((congrArg (!·) (beq_iff_eq.2 c656)))) rfl rfl ?_)
      refine XO.do rfl (D.asn (v := .bool false) rfl rfl ?_)
      refine XO.nil ?_
      exact ⟨false, rfl, rfl, rfl, rfl, rfl, rfl, rfl, rfl, hB, H344, h⟩
    ·rw [if_neg c656] at h
     refine XO.off (wantG0 (j := 2) (b := false) rfl ((congrArg (!·) (beq_eq_false_iff_ne.2 c656))) rfl) rfl rfl ?_
     refine XO.off (wantG0 (j := 2) (b := false) rfl ((congrArg (!·) (beq_eq_false_iff_ne.2 c656))) rfl) rfl rfl ?_
     refine XO.off (wantG0 (j := 2) (b := false) rfl ((congrArg (!·) (beq_eq_false_iff_ne.2 c656))) rfl) rfl rfl ?_
     refine XO.off (wantU (j := 5) (b := true) rfl rfl) rfl rfl ?_
     refine XO.off (wantU (j := 5) (b := true) rfl rfl) rfl rfl ?_
     refine XO.off (wantG0 (j := 2) (b := false) rfl ((congrArg (!·) (beq_eq_false_iff_ne.2 c656))) rfl) rfl rfl ?_
     refine XO.do rfl (D.pick true (v := .bool true) (congrArg Value.bool ((congrArg (!·) (beq_eq_false_iff_ne.2 c656)))) rfl rfl ?_)
     refine XO.do rfl (D.asn (v := .bool true) rfl rfl ?_)
     refine XO.nil ?_
     exact ⟨true, rfl, rfl, rfl, rfl, rfl, rfl, rfl, rfl, hB, H344, h⟩
   ·intro f468 w467 hI
    obtain ⟨x466, s469, s470, s471, s472, s473, s474, s475, s476, hB, H465, h⟩ := hI
    refine X.fr (d := 0) s469 ?_
    refine X.fr (d := 1) s470 ?_
    refine X.fr (d := 7) s471 ?_
    refine X.fr (d := 8) s472 ?_
    refine X.fr (d := 9) s473 ?_
    refine X.fr (d := 10) s474 ?_
    refine X.fr (d := 11) s475 ?_
    refine X.fr (d := 26) s476 ?_
    unfold wire_Take.j2 at h
    by_cases c477 : x466 = true
    ·rw [if_pos c477] at h
     refine X.condT (congrArg Value.bool (c477)) ?_
     refine X.seq fun M478 hM479 => ?_
     refine X.region ?_
     refine XO.do rfl (D.asn (v := S []) rfl rfl ?_)
     refine XO.do rfl (D.asn (v := .int .i64 0) rfl rfl ?_)
     refine XO.do rfl (D.asn (v := .int .i64 2) rfl rfl ?_)
     refine XO.nil ?_
     refine hM479 _ _ ?_
     refine X.ret ?_
     injection h with h
     subst h
     exact hR _ _ _ (ret3 (v := S []) (v' := .int .i64 0) (v'' := .int .i64 2) rfl rfl rfl rfl) ⟨rfl, ext_of_below hB⟩
    ·rw [if_neg c477] at h
     refine X.condF (congrArg Value.bool ((Bool.eq_false_iff.2 c477))) ?_
     refine X.seq fun M480 hM481 => ?_
     refine X.region ?_
     refine XO.do rfl (D.mv (v := .int .u8 r363.1) rfl rfl ?_)
     refine XO.do rfl (D.geq rfl rfl rfl ?_)
     refine XO.do rfl (D.asn (v := .bool (decide (192 ≤ r363.1))) rfl rfl ?_)
     refine XO.nil ?_
     refine hM481 _ _ ?_
     by_cases c482 : 192 ≤ r363.1
     ·rw [if_pos c482] at h
      refine X.condT (congrArg Value.bool (decide_eq_true c482)) ?_
      refine X.seq fun M483 hM484 => ?_
      refine X.region ?_
      refine XO.do rfl (D.mv (v := S a1) rfl rfl ?_)
      refine XO.do rfl (D.mv (v := .int .i64 x343) rfl rfl ?_)
      rcases (Classical.em (octet_U16.pre a1 x343)).symm with c485 | c485
      ·rw [if_neg c485] at h; cases h
      rw [if_pos c485] at h
      obtain ⟨r489, q490, h⟩ := lt_elim h
      have hc488 := octet_U16.ok a1 x343 w467 c485 
      rw [q490] at hc488
      clear q490
      refine XO.do rfl (D.call (vs := [S a1, .int .i64 x343]) cf45 hc488 rfl rfl ?_)
      rintro _ w486 ⟨rfl, e487⟩
      clear hc488
      replace hB := below_ext hB e487
      replace H465 := H465.ext e487
      clear e487
      refine XO.do rfl (D.mv (v := .tuple #[.int .u16 r489.1, .int .i64 r489.2.1, .int .i64 r489.2.2]) rfl rfl ?_)
      refine XO.do rfl (D.extract (v := .int .u16 r489.1) rfl rfl rfl ?_)
      refine XO.do rfl (D.extract (v := .int .i64 r489.2.1) rfl rfl rfl ?_)
      refine XO.do rfl (D.extract (v := .int .i64 r489.2.2) rfl rfl rfl ?_)
      refine XO.do rfl (D.asn (v := .int .u16 r489.1) rfl rfl ?_)
      refine XO.do rfl (D.asn (v := .int .i64 r489.2.1) rfl rfl ?_)
      refine XO.do rfl (D.asn (v := .int .i64 r489.2.2) rfl rfl ?_)
      refine XO.nil ?_
      refine hM484 _ _ ?_
      refine X.seq fun M522 hM523 => ?_
      refine X.seq fun M524 hM525 => ?_
      refine X.region ?_
      refine XO.do rfl (D.mv (v := .int .u16 r489.1) rfl rfl ?_)
      refine XO.do rfl (D.conv Try.underlying22 Try.underlying3 rfl rfl ?_)
      refine XO.do rfl (D.andNot rfl rfl rfl ?_)
      refine XO.do rfl (D.asn (v := .int .i64 (bAndNot .i64 (w64 r489.1) 49152)) rfl rfl ?_)
      refine XO.nil ?_
      refine hM525 _ _ ?_
      refine X.cut (fun f530 w529 => ∃ x528 : Bool, f530 0 = S a1 ∧ f530 7 = pt b7 0 ∧ f530 9 = .int .i64 x347 ∧ f530 14 = .int .i64 r489.2.1 ∧ f530 16 = .int .i64 (bAndNot .i64 (w64 r489.1) 49152) ∧ f530 56 = .bool x528 ∧ Below w.heap.size w w529 ∧ BObj w529 w.heap.size b7 x345 ∧ wire_Take.j3 x347 (wire_Take.l1 a1 kf342) r489 x345 x528 = some res) ?_ ?_
      ·refine X.region ?_
       refine XO.do rfl (D.mv (v := .int .i64 r489.2.2) rfl rfl ?_)
       refine XO.do rfl (D.eql rfl rfl rfl ?_)
       refine XO.do rfl (D.mv (v := .bool (r489.2.2 == 0)) rfl rfl ?_)
       by_cases c556 : r489.2.2 = 0
       ·rw [if_pos c556] at h
        refine XO.do (wantG (j := 2) (b := true) rfl (beq_iff_eq.2 c556) rfl) (D.mv (v := .int .i64 (bAndNot .i64 (w64 r489.1) 49152)) rfl rfl ?_)
        refine XO.do (wantG (j := 2) (b := true) rfl (beq_iff_eq.2 c556) rfl) (D.mv (v := .int .i64 x346) rfl rfl ?_)
        refine XO.do (wantG (j := 2) (b := true) rfl (beq_iff_eq.2 c556) rfl) (D.lss rfl rfl rfl ?_)
        refine XO.do rfl (D.pick true (v := .bool (decide ((bAndNot .i64 (w64 r489.1) 49152) < x346))) (congrArg Value.bool (beq_iff_eq.2 c556)) rfl rfl ?_)
        refine XO.nil ?_
        exact ⟨(decide ((bAndNot .i64 (w64 r489.1) 49152) < x346)), rfl, rfl, rfl, rfl, rfl, rfl, hB, H465, h⟩
       ·rw [if_neg c556] at h
        refine XO.off (wantG0 (j := 2) (b := true) rfl (beq_eq_false_iff_ne.2 c556) rfl) rfl rfl ?_
        refine XO.off (wantG0 (j := 2) (b := true) rfl (beq_eq_false_iff_ne.2 c556) rfl) rfl rfl ?_
        refine XO.off (wantG0 (j := 2) (b := true) rfl (beq_eq_false_iff_ne.2 c556) rfl) rfl rfl ?_
        refine XO.do rfl (D.pick false (v := .bool false) (congrArg Value.bool (beq_eq_false_iff_ne.2 c556)) rfl rfl ?_)
        refine XO.nil ?_
        exact ⟨false, rfl, rfl, rfl, rfl, rfl, rfl, hB, H465, h⟩
      ·intro f530 w529 hI
       obtain ⟨x528, s531, s532, s533, s534, s535, s536, hB, H527, h⟩ := hI
       refine X.fr (d := 0) s531 ?_
       refine X.fr (d := 7) s532 ?_
       refine X.fr (d := 9) s533 ?_
       refine X.fr (d := 14) s534 ?_
       refine X.fr (d := 16) s535 ?_
       refine X.fr (d := 56) s536 ?_
       unfold wire_Take.j3 at h
       by_cases c537 : x528 = true
       ·rw [if_pos c537] at h
        refine X.condT (congrArg Value.bool (c537)) ?_
        refine X.cut (fun f544 w543 => ∃ x542 : Int, f544 0 = S a1 ∧ f544 7 = pt b7 0 ∧ f544 9 = .int .i64 x542 ∧ f544 16 = .int .i64 (bAndNot .i64 (w64 r489.1) 49152) ∧ Below w.heap.size w w543 ∧ BObj w543 w.heap.size b7 x345 ∧ wire_Take.j4 (wire_Take.l1 a1 kf342) r489 x345 x542 = some res) ?_ ?_
        ·refine X.seq fun M551 hM552 => ?_
         refine X.region ?_
         refine XO.do rfl (D.mv (v := .int .i64 x347) rfl rfl ?_)
         refine XO.do rfl (D.lss rfl rfl rfl ?_)
         refine XO.nil ?_
         refine hM552 _ _ ?_
         by_cases c553 : x347 < 0
         ·rw [if_pos c553] at h
          refine X.condT (congrArg Value.bool (decide_eq_true c553)) ?_
          refine X.region ?_
          refine XO.do rfl (D.mv (v := .int .i64 r489.2.1) rfl rfl ?_)
          refine XO.do rfl (D.asn (v := .int .i64 r489.2.1) rfl rfl ?_)
          refine XO.nil ?_
          exact ⟨r489.2.1, rfl, rfl, rfl, rfl, hB, H527, h⟩
         ·rw [if_neg c553] at h
          refine X.condF (congrArg Value.bool (decide_eq_false c553)) ?_
          refine X.skip ?_
          exact ⟨x347, rfl, rfl, rfl, rfl, hB, H527, h⟩
        ·intro f544 w543 hI
         obtain ⟨x542, s545, s546, s547, s548, hB, H541, h⟩ := hI
         refine X.fr (d := 0) s545 ?_
         refine X.fr (d := 7) s546 ?_
         refine X.fr (d := 9) s547 ?_
         refine X.fr (d := 16) s548 ?_
         unfold wire_Take.j4 at h
         refine X.seq fun M549 hM550 => ?_
         refine X.region ?_
         refine XO.do rfl (D.mv (v := .int .i64 (bAndNot .i64 (w64 r489.1) 49152)) rfl rfl ?_)
         refine XO.do rfl (D.mv (v := .int .i64 (bAndNot .i64 (w64 r489.1) 49152)) rfl rfl ?_)
         refine XO.do rfl (D.asn (v := .int .i64 (bAndNot .i64 (w64 r489.1) 49152)) rfl rfl ?_)
         refine XO.do rfl (D.asn (v := .int .i64 (bAndNot .i64 (w64 r489.1) 49152)) rfl rfl ?_)
         refine XO.nil ?_
         refine hM550 _ _ ?_
         refine X.exit rfl ?_
         exact ⟨kf342, Nat.lt_succ_self _, bAndNot .i64 (w64 r489.1) 49152, x345, bAndNot .i64 (w64 r489.1) 49152, x542, rfl, rfl, rfl, rfl, rfl, hB, H541, h⟩
       ·rw [if_neg c537] at h
        refine X.condF (congrArg Value.bool ((Bool.eq_false_iff.2 c537))) ?_
        refine X.skip ?_
        refine hM523 _ _ ?_
        refine X.seq fun M554 hM555 => ?_
        refine X.region ?_
        refine XO.do rfl (D.asn (v := S []) rfl rfl ?_)
        refine XO.do rfl (D.asn (v := .int .i64 0) rfl rfl ?_)
        refine XO.do rfl (D.asn (v := .int .i64 2) rfl rfl ?_)
        refine XO.nil ?_
        refine hM555 _ _ ?_
        refine X.ret ?_
        injection h with h
        subst h
        exact hR _ _ _ (ret3 (v := S []) (v' := .int .i64 0) (v'' := .int .i64 2) rfl rfl rfl rfl) ⟨rfl, ext_of_below hB⟩
     ·rw [if_neg c482] at h
      refine X.condF (congrArg Value.bool (decide_eq_false c482)) ?_
      refine X.skip ?_
      refine hM462 _ _ ?_
      refine X.seq fun M557 hM558 => ?_
      refine X.region ?_
      refine XO.do rfl (D.mv (v := S a1) rfl rfl ?_)
      refine XO.do rfl (D.mv (v := .int .i64 r363.2.1) rfl rfl ?_)
      refine XO.do rfl (D.mv (v := .int .u8 r363.1) rfl rfl ?_)
      refine XO.do rfl (D.conv Try.underlying5 Try.underlying3 rfl rfl ?_)
      rcases (Classical.em (octet_Some.pre a1 r363.2.1 (w64 r363.1))).symm with c559 | c559
      ·rw [if_neg c559] at h; cases h
      rw [if_pos c559] at h
      obtain ⟨r563, q564, h⟩ := lt_elim h
      have hc562 := octet_Some.ok a1 r363.2.1 (w64 r363.1) w467 c559 
      rw [q564] at hc562
      clear q564
      refine XO.do rfl (D.call (vs := [S a1, .int .i64 r363.2.1, .int .i64 (w64 r363.1)]) cf64 hc562 rfl rfl ?_)
      rintro _ w560 ⟨rfl, e561⟩
      clear hc562
      replace hB := below_ext hB e561
      replace H465 := H465.ext e561
      clear e561
      refine XO.do rfl (D.mv (v := .tuple #[S r563.1, .int .i64 r563.2.1, .int .i64 r563.2.2]) rfl rfl ?_)
      refine XO.do rfl (D.extract (v := S r563.1) rfl rfl rfl ?_)
      refine XO.do rfl (D.extract (v := .int .i64 r563.2.1) rfl rfl rfl ?_)
      refine XO.do rfl (D.extract (v := .int .i64 r563.2.2) rfl rfl rfl ?_)
      refine XO.do rfl (D.asn (v := S r563.1) rfl rfl ?_)
      refine XO.do rfl (D.asn (v := .int .i64 r563.2.1) rfl rfl ?_)
      refine XO.do rfl (D.asn (v := .int .i64 r563.2.2) rfl rfl ?_)
      refine XO.nil ?_
      refine hM558 _ _ ?_
      refine X.seq fun M586 hM587 => ?_
      refine X.cut (fun f594 w593 => ∃ x592 : Bool, f594 0 = S a1 ∧ f594 7 = pt b7 0 ∧ f594 8 = .int .i64 x346 ∧ f594 9 = .int .i64 x347 ∧ f594 10 = .int .u8 r363.1 ∧ f594 11 = .int .i64 r563.2.1 ∧ f594 17 = S r563.1 ∧ f594 80 = .bool x592 ∧ Below w.heap.size w w593 ∧ BObj w593 w.heap.size b7 x345 ∧ wire_Take.j5 r363 x345 r563 (wire_Take.l1 a1 kf342) x346 x347 x592 = some res) ?_ ?_
      ·refine X.region ?_
       refine XO.do rfl (D.mv (v := .int .i64 r563.2.2) rfl rfl ?_)
       refine XO.do rfl (D.neq rfl rfl rfl ?_)
       refine XO.do rfl (D.mv (v := .bool (r563.2.2 != 0)) rfl rfl ?_)
       by_cases c653 : r563.2.2 = 0
       ·rw [if_pos c653] at h
        refine XO.do (wantG (j := 2) (b := false) rfl ((congrArg (!·) (beq_iff_eq.2 c653))) rfl) (D.call (vs := [pt b7 0]) cf78 (bLen_ok w560 _ _ _ H465) rfl rfl ?_)
        rintro _ w654 ⟨rfl, e655⟩
        replace hB := below_ext hB e655
        replace H465 := H465.ext e655
        clear e655
        refine XO.do (wantG (j := 2) (b := false) rfl ((congrArg (!·) (beq_iff_eq.2 c653))) rfl) (D.add rfl rfl rfl ?_)
        refine XO.do (wantG (j := 2) (b := false) rfl ((congrArg (!·) (beq_iff_eq.2 c653))) rfl) (D.mv (v := S r563.1) rfl rfl ?_)
        refine XO.do (wantG (j := 2) (b := false) rfl ((congrArg (!·) (beq_iff_eq.2 c653))) rfl) (D.lenS Try.underlying9 rfl rfl ?_)
        refine XO.do (wantG (j := 2) (b := false) rfl ((congrArg (!·) (beq_iff_eq.2 c653))) rfl) (D.add rfl rfl rfl ?_)
        refine XO.do (wantG (j := 2) (b := false) rfl ((congrArg (!·) (beq_iff_eq.2 c653))) rfl) (D.gtr rfl rfl rfl ?_)
        refine XO.do rfl (D.pick false (v := .bool (decide (255 < (w64 ((w64 ((x345.length : Int) + 1)) + (r563.1.length : Int)))))) (congrArg Value.bool ((congrArg (!·) (beq_iff_eq.2 c653)))) rfl rfl ?_)
        refine XO.nil ?_
        exact ⟨(decide (255 < (w64 ((w64 ((x345.length : Int) + 1)) + (r563.1.length : Int))))), rfl, rfl, rfl, rfl, rfl, rfl, rfl, rfl, hB, H465, h⟩
       ·rw [if_neg c653] at h
        refine XO.off (wantG0 (j := 2) (b := false) rfl ((congrArg (!·) (beq_eq_false_iff_ne.2 c653))) rfl) rfl rfl ?_
        refine XO.off (wantG0 (j := 2) (b := false) rfl ((congrArg (!·) (beq_eq_false_iff_ne.2 c653))) rfl) rfl rfl ?_
        refine XO.off (wantG0 (j := 2) (b := false) rfl ((congrArg (!·) (beq_eq_false_iff_ne.2 c653))) rfl) rfl rfl ?_
        refine XO.off (wantG0 (j := 2) (b := false) rfl ((congrArg (!·) (beq_eq_false_iff_ne.2 c653))) rfl) rfl rfl ?_
        refine XO.off (wantG0 (j := 2) (b := false) rfl ((congrArg (!·) (beq_eq_false_iff_ne.2 c653))) rfl) rfl rfl ?_
        refine XO.off (wantG0 (j := 2) (b := false) rfl ((congrArg (!·) (beq_eq_false_iff_ne.2 c653))) rfl) rfl rfl ?_
        refine XO.do rfl (D.pick true (v := .bool true) (congrArg Value.bool ((congrArg (!·) (beq_eq_false_iff_ne.2 c653)))) rfl rfl ?_)
        refine XO.nil ?_
        exact ⟨true, rfl, rfl, rfl, rfl, rfl, rfl, rfl, rfl, hB, H465, h⟩
      ·intro f594 w593 hI
       obtain ⟨x592, s595, s596, s597, s598, s599, s600, s601, s602, hB, H591, h⟩ := hI
       refine X.fr (d := 0) s595 ?_
       refine X.fr (d := 7) s596 ?_
       refine X.fr (d := 8) s597 ?_
       refine X.fr (d := 9) s598 ?_
       refine X.fr (d := 10) s599 ?_
       refine X.fr (d := 11) s600 ?_
       refine X.fr (d := 17) s601 ?_
       refine X.fr (d := 80) s602 ?_
       unfold wire_Take.j5 at h
       by_cases c603 : x592 = true
       ·rw [if_pos c603] at h
        refine X.condT (congrArg Value.bool (c603)) ?_
        refine X.seq fun M604 hM605 => ?_
        refine X.region ?_
        refine XO.do rfl (D.asn (v := S []) rfl rfl ?_)
        refine XO.do rfl (D.asn (v := .int .i64 0) rfl rfl ?_)
        refine XO.do rfl (D.asn (v := .int .i64 2) rfl rfl ?_)
        refine XO.nil ?_
        refine hM605 _ _ ?_
        refine X.ret ?_
        injection h with h
        subst h
        exact hR _ _ _ (ret3 (v := S []) (v' := .int .i64 0) (v'' := .int .i64 2) rfl rfl rfl rfl) ⟨rfl, ext_of_below hB⟩
       ·rw [if_neg c603] at h
        refine X.condF (congrArg Value.bool ((Bool.eq_false_iff.2 c603))) ?_
        refine X.skip ?_
        refine hM587 _ _ ?_
        refine X.seq fun M606 hM607 => ?_
        refine X.region ?_
        refine XO.do rfl (D.mv (v := .int .u8 r363.1) rfl rfl ?_)
        rcases (Classical.em (0 ≤ r363.1)).symm with c608 | c608
        ·rw [if_neg c608] at h; cases h
        rw [if_pos c608] at h
        rcases (Classical.em (r363.1 < 256)).symm with c609 | c609
        ·rw [if_neg c609] at h; cases h
        rw [if_pos c609] at h
        rcases (Classical.em (x345.length + 1 ≤ 140737488355328)).symm with c610 | c610
        ·rw [if_neg c610] at h; cases h
        rw [if_pos c610] at h
        refine XO.do rfl (D.call (vs := [pt b7 0, .int .u8 r363.1]) cf79 (bWriteByteI_ok w593 _ _ _ r363.1 H591 c608 c609 c610 hB.size) rfl rfl ?_)
        rintro _ w611 ⟨rfl, H612, e613⟩
        replace hB := hB.trans e613
        clear e613 H591
        refine XO.nil ?_
        refine hM607 _ _ ?_
        refine X.seq fun M614 hM615 => ?_
        refine X.region ?_
        refine XO.do rfl (D.mv (v := S r563.1) rfl rfl ?_)
        rcases (Classical.em (name_Fold.pre r563.1)).symm with c616 | c616
        ·rw [if_neg c616] at h; cases h
        rw [if_pos c616] at h
        obtain ⟨r620, q621, h⟩ := lt_elim h
        have hc619 := name_Fold.ok r563.1 w611 c616 
        rw [q621] at hc619
        clear q621
        refine XO.do rfl (D.call (vs := [S r563.1]) cf54 hc619 rfl rfl ?_)
        rintro _ w617 ⟨rfl, e618⟩
        clear hc619
        replace hB := below_ext hB e618
        replace H612 := H612.ext e618
        clear e618
        rcases (Classical.em ((x345 ++ [UInt8.ofNat r363.1.toNat]).length + r620.length ≤ 140737488355328)).symm with c622 | c622
        ·rw [if_neg c622] at h; cases h
        rw [if_pos c622] at h
        refine XO.do rfl (D.call (vs := [pt b7 0, S r620]) cf80 (bWriteString_ok w617 _ _ _ r620 H612 c622 hB.size) rfl rfl ?_)
        rintro _ w623 ⟨rfl, H624, e625⟩
        replace hB := hB.trans e625
        clear e625 H612
        refine XO.nil ?_
        refine hM615 _ _ ?_
        refine X.seq fun M626 hM627 => ?_
        refine X.region ?_
        refine XO.do rfl (D.mv (v := .int .i64 r563.2.1) rfl rfl ?_)
        refine XO.do rfl (D.asn (v := .int .i64 r563.2.1) rfl rfl ?_)
        refine XO.nil ?_
        refine hM627 _ _ ?_
        refine X.seq fun M631 hM632 => ?_
        refine X.seq fun M633 hM634 => ?_
        refine X.region ?_
        refine XO.do rfl (D.mv (v := .int .u8 r363.1) rfl rfl ?_)
        refine XO.do rfl (D.gtr rfl rfl rfl ?_)
        refine XO.nil ?_
        refine hM634 _ _ ?_
        by_cases c635 : 0 < r363.1
        ·rw [if_pos c635] at h
         refine X.condT (congrArg Value.bool (decide_eq_true c635)) ?_
         refine X.exit rfl ?_
         exact ⟨kf342, Nat.lt_succ_self _, r563.2.1, (x345 ++ [UInt8.ofNat r363.1.toNat]) ++ r620, x346, x347, rfl, rfl, rfl, rfl, rfl, hB, H624, h⟩
        ·rw [if_neg c635] at h
         refine X.condF (congrArg Value.bool (decide_eq_false c635)) ?_
         refine X.skip ?_
         refine hM632 _ _ ?_
         refine X.cut (fun f642 w641 => ∃ x640 : Int, f642 7 = pt b7 0 ∧ f642 9 = .int .i64 x640 ∧ Below w.heap.size w w641 ∧ BObj w641 w.heap.size b7 ((x345 ++ [UInt8.ofNat r363.1.toNat]) ++ r620) ∧ wire_Take.j6 x345 r363 r620 x640 = some res) ?_ ?_
         ·refine X.seq fun M650 hM651 => ?_
          refine X.region ?_
          refine XO.do rfl (D.mv (v := .int .i64 x347) rfl rfl ?_)
          refine XO.do rfl (D.lss rfl rfl rfl ?_)
          refine XO.nil ?_
          refine hM651 _ _ ?_
          by_cases c652 : x347 < 0
          ·rw [if_pos c652] at h
           refine X.condT (congrArg Value.bool (decide_eq_true c652)) ?_
           refine X.region ?_
           refine XO.do rfl (D.mv (v := .int .i64 r563.2.1) rfl rfl ?_)
           refine XO.do rfl (D.asn (v := .int .i64 r563.2.1) rfl rfl ?_)
           refine XO.nil ?_
           exact ⟨r563.2.1, rfl, rfl, hB, H624, h⟩
          ·rw [if_neg c652] at h
           refine X.condF (congrArg Value.bool (decide_eq_false c652)) ?_
           refine X.skip ?_
           exact ⟨x347, rfl, rfl, hB, H624, h⟩
         ·intro f642 w641 hI
          obtain ⟨x640, s643, s644, hB, H639, h⟩ := hI
          refine X.fr (d := 7) s643 ?_
          refine X.fr (d := 9) s644 ?_
          unfold wire_Take.j6 at h
          refine X.seq fun M645 hM646 => ?_
          refine X.region ?_
          rcases (Classical.em (((x345 ++ [UInt8.ofNat r363.1.toNat]) ++ r620) ≠ [])).symm with c647 | c647
          ·rw [if_neg c647] at h; cases h
          rw [if_pos c647] at h
          refine XO.do rfl (D.call (vs := [pt b7 0]) cf81 (bString_ok w641 _ _ _ H639 c647 hB.size) rfl rfl ?_)
          rintro _ w648 ⟨rfl, e649⟩
          replace hB := hB.trans e649
          clear e649 H639
          refine XO.do rfl (D.mv (v := .int .i64 x640) rfl rfl ?_)
          refine XO.do rfl (D.asn (v := S ((x345 ++ [UInt8.ofNat r363.1.toNat]) ++ r620)) rfl rfl ?_)
          refine XO.do rfl (D.asn (v := .int .i64 x640) rfl rfl ?_)
          refine XO.do rfl (D.asn (v := .int .i64 0) rfl rfl ?_)
          refine XO.nil ?_
          refine hM646 _ _ ?_
          refine X.ret ?_
          injection h with h
          subst h
          exact hR _ _ _ (ret3 (v := S ((x345 ++ [UInt8.ofNat r363.1.toNat]) ++ r620)) (v' := .int .i64 x640) (v'' := .int .i64 0) rfl rfl rfl rfl) ⟨rfl, ext_of_below hB⟩
theorem wire_Take.ok (a1 : Str) (a2 : Int)  (w : World)  (hp : wire_Take.pre a1 a2) :
  Ret Try.prog 61 ([S a1, .int .i64 a2] : List Value).toArray w fun v w' => v = .tuple #[S ((wire_Take a1 a2).1), .int .i64 ((wire_Take a1 a2).2.1), .int .i64 ((wire_Take a1 a2).2.2)] ∧ Ext w w' := by
 obtain ⟨kf, h⟩ := wire_Take.eq a1 a2 hp
 exact wire_Take.walk kf a1 a2  w  _ h
end Go.Proofs.Ytfcaekghpkpjdaa.K

/- Walks, printed by a program of this session. -/
namespace Go.Proofs.Ytfcaekghpkpjdaa.K
open Go Go.RowKit Go.Proofs
set_option linter.unusedVariables false
set_option maxRecDepth 100000
set_option maxHeartbeats 4000000
namespace FD2
theorem cf28 : Callable Try.prog 28 := callable Try.func28 (by kernel_rfl) rfl
theorem cf58 : Callable Try.prog 58 := callable Try.func58 (by kernel_rfl) rfl
theorem cf61 : Callable Try.prog 61 := callable Try.func61 (by kernel_rfl) rfl
theorem cf64 : Callable Try.prog 64 := callable Try.func64 (by kernel_rfl) rfl
theorem sc3 : Sca Try.prog 3 := sca Try.underlying3 rfl
theorem ti3 : TI Try.prog 3 (.int .i64 0) 1 8 := by unfold TI; kernel_rfl
theorem sz3 : ∀ w, (sizeOf 3).run Try.prog w = .ok 1 w := fun w => ti3.size w
end FD2
open FD2
theorem rdata_Take.walk (kf : Nat) (a1 : Str) (a2 : Int) (a3 : Int) (a4 : Int)  (w : World)  (res : Str × Int) (h : rdata_Take.f kf a1 a2 a3 a4 = some res) :
  Ret Try.prog 46 ([S a1, .int .i64 a2, .int .i64 a3, .int .u16 a4] : List Value).toArray w fun v w' => v = .tuple #[S res.1, .int .i64 res.2] ∧ Ext w w' := by
 unfold rdata_Take.f at h
 refine enterX Try.func46 rfl Try.ntmps46 rfl (fun R hR => ?_)
 have hB := Below.refl w.heap.size w
 refine X.seq fun M5 hM6 => ?_
 refine X.region ?_
 refine XO.do rfl (D.asn (v := S []) rfl rfl ?_)
 refine XO.do rfl (D.asn (v := .int .i64 0) rfl rfl ?_)
 refine XO.nil ?_
 refine hM6 _ _ ?_
 refine X.seq fun M20 hM21 => ?_
 refine X.seq fun M22 hM23 => ?_
 refine X.region ?_
 refine XO.do rfl (D.mv (v := S a1) rfl rfl ?_)
 refine XO.do rfl (D.mv (v := .int .i64 a2) rfl rfl ?_)
 refine XO.do rfl (D.mv (v := .int .i64 a3) rfl rfl ?_)
 rcases (Classical.em (octet_Some.pre a1 a2 a3)).symm with c24 | c24
 ·rw [if_neg c24] at h; cases h
 rw [if_pos c24] at h
 obtain ⟨r28, q29, h⟩ := lt_elim h
 have hc27 := octet_Some.ok a1 a2 a3 w c24 
 rw [q29] at hc27
 clear q29
 refine XO.do rfl (D.call (vs := [S a1, .int .i64 a2, .int .i64 a3]) cf64 hc27 rfl rfl ?_)
 rintro _ w25 ⟨rfl, e26⟩
 clear hc27
 replace hB := below_ext hB e26
 clear e26
 refine XO.do rfl (D.mv (v := .tuple #[S r28.1, .int .i64 r28.2.1, .int .i64 r28.2.2]) rfl rfl ?_)
 refine XO.do rfl (D.extract (v := S r28.1) rfl rfl rfl ?_)
 refine XO.do rfl (D.extract (v := .int .i64 r28.2.1) rfl rfl rfl ?_)
 refine XO.do rfl (D.extract (v := .int .i64 r28.2.2) rfl rfl rfl ?_)
 refine XO.do rfl (D.asn (v := S r28.1) rfl rfl ?_)
 refine XO.do rfl (D.asn (v := .int .i64 r28.2.1) rfl rfl ?_)
 refine XO.do rfl (D.asn (v := .int .i64 r28.2.2) rfl rfl ?_)
 refine XO.nil ?_
 refine hM23 _ _ ?_
 refine X.seq fun M30 hM31 => ?_
 refine X.region ?_
 refine XO.do rfl (D.mv (v := .int .i64 r28.2.2) rfl rfl ?_)
 refine XO.do rfl (D.neq rfl rfl rfl ?_)
 refine XO.nil ?_
 refine hM31 _ _ ?_
 by_cases c32 : r28.2.2 = 0
 ·rw [if_pos c32] at h
  refine X.condF (congrArg Value.bool ((congrArg (!·) (beq_iff_eq.2 c32)))) ?_
  refine X.skip ?_
  refine hM21 _ _ ?_
  refine X.seq fun M33 hM34 => ?_
  refine X.region ?_
  refine XO.do rfl (D.mv (v := .int .i64 a2) rfl rfl ?_)
  refine XO.do rfl (D.mv (v := .int .i64 a3) rfl rfl ?_)
  refine XO.do rfl (D.add rfl rfl rfl ?_)
  refine XO.do rfl (D.asn (v := .int .i64 (w64 (a2 + a3))) rfl rfl ?_)
  refine XO.nil ?_
  refine hM34 _ _ ?_
  refine X.seq fun M35 hM36 => ?_
  refine X.region ?_
  refine XO.do rfl (D.asn (v := S []) rfl rfl ?_)
  refine XO.nil ?_
  refine hM36 _ _ ?_
  refine X.seq fun M1008 hM1009 => ?_
  refine X.seq fun M1010 hM1011 => ?_
  refine X.region ?_
  refine XO.do rfl (D.mv (v := .int .u16 a4) rfl rfl ?_)
  obtain ⟨r1015, q1016, h⟩ := lt_elim h
  have hc1014 := rdata_layout.ok a4 w25 
  rw [q1016] at hc1014
  clear q1016
  refine XO.do rfl (D.call (vs := [.int .u16 a4]) cf58 hc1014 rfl rfl ?_)
  rintro _ w1012 ⟨A1017, k1018, rfl, H1019, g1020, e1013⟩
  clear hc1014
  have z1021 : ∀ y, blkOf A1017 = some y → w.heap.size ≤ y := fun y hy => Nat.le_trans hB.size (g1020 y hy)
  replace hB := below_ext hB e1013
  clear e1013
  refine XO.do rfl (D.lenR (A := A1017) (c := k1018) (m := r1015.length) Try.underlying105 rfl rfl ?_)
  refine XO.do rfl (D.mv (v := .int .i64 0) rfl rfl ?_)
  refine XO.nil ?_
  refine hM1011 _ _ ?_
  refine X.block ?_
  refine X.loop (fun kq2025 => fun f1512 w1511 => ∃ x1506 : Int, ∃ x1507 : Str, ∃ x1509 : Int, f1512 0 = S a1 ∧ f1512 1 = .int .i64 x1506 ∧ f1512 3 = .int .u16 a4 ∧ f1512 13 = .int .i64 (w64 (a2 + a3)) ∧ f1512 14 = S x1507 ∧ f1512 39 = .slice A1017 r1015.length k1018 ∧ f1512 40 = .int .i64 (r1015.length : Int) ∧ f1512 41 = .int .i64 x1509 ∧ Below w.heap.size w w1511 ∧ Row (eInt .i64) w1511 A1017 k1018 r1015 ∧ rdata_Take.l1 r1015 a1 a2 a3 a4 kq2025 x1506 x1507 x1509 = some res) kf ?_ ?_
  ·exact ⟨a2, [], 0, rfl, rfl, rfl, rfl, rfl, rfl, rfl, rfl, hB, H1019, h⟩
  ·intro kq2025 f1512 w1511 hI
   obtain ⟨x1506, x1507, x1509, s1513, s1514, s1515, s1516, s1517, s1518, s1519, s1520, hB, H1508, h⟩ := hI
   cases kq2025 with
   | zero => exact absurd h (by rw [rdata_Take.l1.eq_1]; simp)
   | succ kf1505 =>
    rw [rdata_Take.l1.eq_2] at h
    refine X.fr (d := 0) s1513 ?_
    refine X.fr (d := 1) s1514 ?_
    refine X.fr (d := 3) s1515 ?_
    refine X.fr (d := 13) s1516 ?_
    refine X.fr (d := 14) s1517 ?_
    refine X.fr (d := 39) s1518 ?_
    refine X.fr (d := 40) s1519 ?_
    refine X.fr (d := 41) s1520 ?_
    refine X.seq fun M1522 hM1523 => ?_
    refine X.region ?_
    refine XO.do rfl (D.lss rfl rfl rfl ?_)
    refine XO.nil ?_
    refine hM1523 _ _ ?_
    refine X.seq fun M1525 hM1526 => ?_
    by_cases c1527 : x1509 < (r1015.length : Int)
    ·rw [if_pos c1527] at h
     refine X.condT (congrArg Value.bool (decide_eq_true c1527)) ?_
     refine X.skip ?_
     refine hM1526 _ _ ?_
     refine X.cut (fun f1750 w1749 => ∃ x1746 : Int, ∃ x1747 : Str, f1750 0 = S a1 ∧ f1750 1 = .int .i64 x1746 ∧ f1750 3 = .int .u16 a4 ∧ f1750 13 = .int .i64 (w64 (a2 + a3)) ∧ f1750 14 = S x1747 ∧ f1750 39 = .slice A1017 r1015.length k1018 ∧ f1750 40 = .int .i64 (r1015.length : Int) ∧ f1750 41 = .int .i64 x1509 ∧ Below w.heap.size w w1749 ∧ Row (eInt .i64) w1749 A1017 k1018 r1015 ∧ rdata_Take.j2 (rdata_Take.l1 r1015 a1 a2 a3 a4 kf1505) x1509 x1746 x1747 = some res) ?_ ?_
     ·refine X.block ?_
      refine X.seq fun M1759 hM1760 => ?_
      refine X.region ?_
      rcases (Classical.em (0 ≤ x1509)).symm with c1761 | c1761
      ·rw [if_neg c1761] at h; cases h
      rw [if_pos c1761] at h
      refine XO.do rfl (D.indexR (i := x1509) Try.underlying105 sz3 H1508 rfl rfl c1761 c1527 rfl ?_)
      intro b1762 o1763 _ H1764
      refine XO.do rfl (D.load (j := 0) (v := .int .i64 (rd r1015 x1509)) sc3 H1764 rfl rfl rfl rfl ?_)
      refine XO.do rfl (D.asn (v := .int .i64 (rd r1015 x1509)) rfl rfl ?_)
      refine XO.nil ?_
      refine hM1760 _ _ ?_
      refine X.seq fun M1766 hM1767 => ?_
      refine X.region ?_
      refine XO.do rfl (D.mv (v := .int .i64 (rd r1015 x1509)) rfl rfl ?_)
      refine XO.do rfl (D.asn (v := .int .i64 (rd r1015 x1509)) rfl rfl ?_)
      refine XO.nil ?_
      refine hM1767 _ _ ?_
      refine X.cut (fun f1789 w1788 => ∃ x1786 : Int, f1789 0 = S a1 ∧ f1789 1 = .int .i64 x1506 ∧ f1789 3 = .int .u16 a4 ∧ f1789 13 = .int .i64 (w64 (a2 + a3)) ∧ f1789 14 = S x1507 ∧ f1789 16 = .int .i64 (rd r1015 x1509) ∧ f1789 17 = .int .i64 x1786 ∧ f1789 39 = .slice A1017 r1015.length k1018 ∧ f1789 40 = .int .i64 (r1015.length : Int) ∧ f1789 41 = .int .i64 x1509 ∧ Below w.heap.size w w1788 ∧ Row (eInt .i64) w1788 A1017 k1018 r1015 ∧ rdata_Take.j3 r1015 x1509 a1 x1506 x1507 (rdata_Take.l1 r1015 a1 a2 a3 a4 kf1505) a2 a3 x1786 = some res) ?_ ?_
      ·refine X.cut (fun f1963 w1962 => ∃ x1961 : Bool, f1963 0 = S a1 ∧ f1963 1 = .int .i64 x1506 ∧ f1963 3 = .int .u16 a4 ∧ f1963 13 = .int .i64 (w64 (a2 + a3)) ∧ f1963 14 = S x1507 ∧ f1963 16 = .int .i64 (rd r1015 x1509) ∧ f1963 17 = .int .i64 (rd r1015 x1509) ∧ f1963 39 = .slice A1017 r1015.length k1018 ∧ f1963 40 = .int .i64 (r1015.length : Int) ∧ f1963 41 = .int .i64 x1509 ∧ f1963 51 = .bool x1961 ∧ Below w.heap.size w w1962 ∧ Row (eInt .i64) w1962 A1017 k1018 r1015 ∧ rdata_Take.j6 r1015 x1509 a1 x1506 x1507 (rdata_Take.l1 r1015 a1 a2 a3 a4 kf1505) a2 a3 x1961 = some res) ?_ ?_
       ·refine X.region ?_
        refine XO.do rfl (D.mv (v := .int .i64 (rd r1015 x1509)) rfl rfl ?_)
        refine XO.do rfl (D.eql rfl rfl rfl ?_)
        refine XO.do rfl (D.mv (v := .bool ((rd r1015 x1509) == (-2))) rfl rfl ?_)
        by_cases c1976 : (rd r1015 x1509) = (-2)
        ·rw [if_pos c1976] at h
         refine XO.off (wantG0 (j := 2) (b := false) rfl (beq_iff_eq.2 c1976) rfl) rfl rfl ?_
         refine XO.off (wantG0 (j := 2) (b := false) rfl (beq_iff_eq.2 c1976) rfl) rfl rfl ?_
         refine XO.do rfl (D.pick true (v := .bool true) (congrArg Value.bool (beq_iff_eq.2 c1976)) rfl rfl ?_)
         refine XO.nil ?_
         exact ⟨true, rfl, rfl, rfl, rfl, rfl, rfl, rfl, rfl, rfl, rfl, rfl, hB, H1508, h⟩
        ·rw [if_neg c1976] at h
         refine XO.do (wantG (j := 2) (b := false) rfl (beq_eq_false_iff_ne.2 c1976) rfl) (D.mv (v := .int .i64 (rd r1015 x1509)) rfl rfl ?_)
         refine XO.do (wantG (j := 2) (b := false) rfl (beq_eq_false_iff_ne.2 c1976) rfl) (D.eql rfl rfl rfl ?_)
         refine XO.do rfl (D.pick false (v := .bool ((rd r1015 x1509) == (-3))) (congrArg Value.bool (beq_eq_false_iff_ne.2 c1976)) rfl rfl ?_)
         refine XO.nil ?_
         exact ⟨((rd r1015 x1509) == (-3)), rfl, rfl, rfl, rfl, rfl, rfl, rfl, rfl, rfl, rfl, rfl, hB, H1508, h⟩
       ·intro f1963 w1962 hI
        obtain ⟨x1961, s1964, s1965, s1966, s1967, s1968, s1969, s1970, s1971, s1972, s1973, s1974, hB, H1960, h⟩ := hI
        refine X.fr (d := 0) s1964 ?_
        refine X.fr (d := 1) s1965 ?_
        refine X.fr (d := 3) s1966 ?_
        refine X.fr (d := 13) s1967 ?_
        refine X.fr (d := 14) s1968 ?_
        refine X.fr (d := 16) s1969 ?_
        refine X.fr (d := 17) s1970 ?_
        refine X.fr (d := 39) s1971 ?_
        refine X.fr (d := 40) s1972 ?_
        refine X.fr (d := 41) s1973 ?_
        refine X.fr (d := 51) s1974 ?_
        unfold rdata_Take.j6 at h
        by_cases c1975 : x1961 = true
        ·rw [if_pos c1975] at h
         refine X.condT (congrArg Value.bool (c1975)) ?_
         refine X.region ?_
         refine XO.do rfl (D.mv (v := .int .i64 (w64 (a2 + a3))) rfl rfl ?_)
         refine XO.do rfl (D.mv (v := .int .i64 x1506) rfl rfl ?_)
         refine XO.do rfl (D.sub rfl rfl rfl ?_)
         refine XO.do rfl (D.asn (v := .int .i64 (w64 ((w64 (a2 + a3)) - x1506))) rfl rfl ?_)
         refine XO.nil ?_
         exact ⟨w64 ((w64 (a2 + a3)) - x1506), rfl, rfl, rfl, rfl, rfl, rfl, rfl, rfl, rfl, rfl, hB, H1960, h⟩
        ·rw [if_neg c1975] at h
         refine X.condF (congrArg Value.bool ((Bool.eq_false_iff.2 c1975))) ?_
         refine X.skip ?_
         exact ⟨(rd r1015 x1509), rfl, rfl, rfl, rfl, rfl, rfl, rfl, rfl, rfl, rfl, hB, H1960, h⟩
      ·intro f1789 w1788 hI
       obtain ⟨x1786, s1790, s1791, s1792, s1793, s1794, s1795, s1796, s1797, s1798, s1799, hB, H1787, h⟩ := hI
       refine X.fr (d := 0) s1790 ?_
       refine X.fr (d := 1) s1791 ?_
       refine X.fr (d := 3) s1792 ?_
       refine X.fr (d := 13) s1793 ?_
       refine X.fr (d := 14) s1794 ?_
       refine X.fr (d := 16) s1795 ?_
       refine X.fr (d := 17) s1796 ?_
       refine X.fr (d := 39) s1797 ?_
       refine X.fr (d := 40) s1798 ?_
       refine X.fr (d := 41) s1799 ?_
       unfold rdata_Take.j3 at h
       refine X.seq fun M1854 hM1855 => ?_
       refine X.seq fun M1856 hM1857 => ?_
       refine X.region ?_
       refine XO.do rfl (D.mv (v := .int .i64 (rd r1015 x1509)) rfl rfl ?_)
       refine XO.do rfl (D.eql rfl rfl rfl ?_)
       refine XO.nil ?_
       refine hM1857 _ _ ?_
       by_cases c1858 : (rd r1015 x1509) = (-1)
       ·rw [if_pos c1858] at h
        refine X.condT (congrArg Value.bool (beq_iff_eq.2 c1858)) ?_
        refine X.seq fun M1859 hM1860 => ?_
        refine X.region ?_
        refine XO.do rfl (D.mv (v := S a1) rfl rfl ?_)
        refine XO.do rfl (D.mv (v := .int .i64 x1506) rfl rfl ?_)
        rcases (Classical.em (wire_Take.pre a1 x1506)).symm with c1861 | c1861
        ·rw [if_neg c1861] at h; cases h
        rw [if_pos c1861] at h
        obtain ⟨r1865, q1866, h⟩ := lt_elim h
        have hc1864 := wire_Take.ok a1 x1506 w1788 c1861 
        rw [q1866] at hc1864
        clear q1866
        refine XO.do rfl (D.call (vs := [S a1, .int .i64 x1506]) cf61 hc1864 rfl rfl ?_)
        rintro _ w1862 ⟨rfl, e1863⟩
        clear hc1864
        replace hB := below_ext hB e1863
        replace H1787 := H1787.ext e1863
        clear e1863
        refine XO.do rfl (D.mv (v := .tuple #[S r1865.1, .int .i64 r1865.2.1, .int .i64 r1865.2.2]) rfl rfl ?_)
        refine XO.do rfl (D.extract (v := S r1865.1) rfl rfl rfl ?_)
        refine XO.do rfl (D.extract (v := .int .i64 r1865.2.1) rfl rfl rfl ?_)
        refine XO.do rfl (D.extract (v := .int .i64 r1865.2.2) rfl rfl rfl ?_)
        refine XO.do rfl (D.asn (v := S r1865.1) rfl rfl ?_)
        refine XO.do rfl (D.asn (v := .int .i64 r1865.2.1) rfl rfl ?_)
        refine XO.do rfl (D.asn (v := .int .i64 r1865.2.2) rfl rfl ?_)
        refine XO.nil ?_
        refine hM1860 _ _ ?_
        refine X.seq fun M1886 hM1887 => ?_
        refine X.cut (fun f1892 w1891 => ∃ x1890 : Bool, f1892 0 = S a1 ∧ f1892 3 = .int .u16 a4 ∧ f1892 13 = .int .i64 (w64 (a2 + a3)) ∧ f1892 14 = S x1507 ∧ f1892 18 = S r1865.1 ∧ f1892 19 = .int .i64 r1865.2.1 ∧ f1892 39 = .slice A1017 r1015.length k1018 ∧ f1892 40 = .int .i64 (r1015.length : Int) ∧ f1892 41 = .int .i64 x1509 ∧ f1892 70 = .bool x1890 ∧ Below w.heap.size w w1891 ∧ Row (eInt .i64) w1891 A1017 k1018 r1015 ∧ rdata_Take.j4 x1507 r1865 (rdata_Take.l1 r1015 a1 a2 a3 a4 kf1505) x1509 x1890 = some res) ?_ ?_
        ·refine X.region ?_
         refine XO.do rfl (D.mv (v := .int .i64 r1865.2.2) rfl rfl ?_)
         refine XO.do rfl (D.neq rfl rfl rfl ?_)
         refine XO.do rfl (D.mv (v := .bool (r1865.2.2 != 0)) rfl rfl ?_)
         by_cases c1909 : r1865.2.2 = 0
         ·rw [if_pos c1909] at h
          refine XO.do (wantG (j := 2) (b := false) rfl ((congrArg (!·) (beq_iff_eq.2 c1909))) rfl) (D.mv (v := .int .i64 r1865.2.1) rfl rfl ?_)
          refine XO.do (wantG (j := 2) (b := false) rfl ((congrArg (!·) (beq_iff_eq.2 c1909))) rfl) (D.mv (v := .int .i64 (w64 (a2 + a3))) rfl rfl ?_)
          refine XO.do (wantG (j := 2) (b := false) rfl ((congrArg (!·) (beq_iff_eq.2 c1909))) rfl) (D.gtr rfl rfl rfl ?_)
          refine XO.do rfl (D.pick false (v := .bool (decide ((w64 (a2 + a3)) < r1865.2.1))) (congrArg Value.bool ((congrArg (!·) (beq_iff_eq.2 c1909)))) rfl rfl ?_)
          refine XO.nil ?_
          exact ⟨(decide ((w64 (a2 + a3)) < r1865.2.1)), rfl, rfl, rfl, rfl, rfl, rfl, rfl, rfl, rfl, rfl, hB, H1787, h⟩
         ·rw [if_neg c1909] at h
          refine XO.off (wantG0 (j := 2) (b := false) rfl ((congrArg (!·) (beq_eq_false_iff_ne.2 c1909))) rfl) rfl rfl ?_
          refine XO.off (wantG0 (j := 2) (b := false) rfl ((congrArg (!·) (beq_eq_false_iff_ne.2 c1909))) rfl) rfl rfl ?_
          refine XO.off (wantG0 (j := 2) (b := false) rfl ((congrArg (!·) (beq_eq_false_iff_ne.2 c1909))) rfl) rfl rfl ?_
          refine XO.do rfl (D.pick true (v := .bool true) (congrArg Value.bool ((congrArg (!·) (beq_eq_false_iff_ne.2 c1909)))) rfl rfl ?_)
          refine XO.nil ?_
          exact ⟨true, rfl, rfl, rfl, rfl, rfl, rfl, rfl, rfl, rfl, rfl, hB, H1787, h⟩
        ·intro f1892 w1891 hI
         obtain ⟨x1890, s1893, s1894, s1895, s1896, s1897, s1898, s1899, s1900, s1901, s1902, hB, H1889, h⟩ := hI
         refine X.fr (d := 0) s1893 ?_
         refine X.fr (d := 3) s1894 ?_
         refine X.fr (d := 13) s1895 ?_
         refine X.fr (d := 14) s1896 ?_
         refine X.fr (d := 18) s1897 ?_
         refine X.fr (d := 19) s1898 ?_
         refine X.fr (d := 39) s1899 ?_
         refine X.fr (d := 40) s1900 ?_
         refine X.fr (d := 41) s1901 ?_
         refine X.fr (d := 70) s1902 ?_
         unfold rdata_Take.j4 at h
         by_cases c1903 : x1890 = true
         ·rw [if_pos c1903] at h
          refine X.condT (congrArg Value.bool (c1903)) ?_
          refine X.seq fun M1904 hM1905 => ?_
          refine X.region ?_
          refine XO.do rfl (D.asn (v := S []) rfl rfl ?_)
          refine XO.do rfl (D.asn (v := .int .i64 2) rfl rfl ?_)
          refine XO.nil ?_
          refine hM1905 _ _ ?_
          refine X.ret ?_
          injection h with h
          subst h
          exact hR _ _ _ (ret2 (v := S []) (v' := .int .i64 2) rfl rfl rfl) ⟨rfl, ext_of_below hB⟩
         ·rw [if_neg c1903] at h
          refine X.condF (congrArg Value.bool ((Bool.eq_false_iff.2 c1903))) ?_
          refine X.skip ?_
          refine hM1887 _ _ ?_
          refine X.seq fun M1906 hM1907 => ?_
          refine X.region ?_
          refine XO.do rfl (D.mv (v := S x1507) rfl rfl ?_)
          refine XO.do rfl (D.mv (v := S r1865.1) rfl rfl ?_)
          rcases (Classical.em (x1507.length + r1865.1.length ≤ 9223372036854775807)).symm with c1908 | c1908
          ·rw [if_neg c1908] at h; cases h
          rw [if_pos c1908] at h
          refine XO.do rfl (D.addS rfl rfl c1908 rfl ?_)
          refine XO.do rfl (D.mv (v := .int .i64 r1865.2.1) rfl rfl ?_)
          refine XO.do rfl (D.asn (v := S (x1507 ++ r1865.1)) rfl rfl ?_)
          refine XO.do rfl (D.asn (v := .int .i64 r1865.2.1) rfl rfl ?_)
          refine XO.nil ?_
          refine hM1907 _ _ ?_
          refine X.exit rfl ?_
          exact ⟨r1865.2.1, x1507 ++ r1865.1, rfl, rfl, rfl, rfl, rfl, rfl, rfl, rfl, hB, H1889, h⟩
       ·rw [if_neg c1858] at h
        refine X.condF (congrArg Value.bool (beq_eq_false_iff_ne.2 c1858)) ?_
        refine X.skip ?_
        refine hM1855 _ _ ?_
        refine X.seq fun M1910 hM1911 => ?_
        refine X.region ?_
        refine XO.do rfl (D.mv (v := S a1) rfl rfl ?_)
        refine XO.do rfl (D.mv (v := .int .i64 x1506) rfl rfl ?_)
        refine XO.do rfl (D.mv (v := .int .i64 x1786) rfl rfl ?_)
        rcases (Classical.em (octet_Some.pre a1 x1506 x1786)).symm with c1912 | c1912
        ·rw [if_neg c1912] at h; cases h
        rw [if_pos c1912] at h
        obtain ⟨r1916, q1917, h⟩ := lt_elim h
        have hc1915 := octet_Some.ok a1 x1506 x1786 w1788 c1912 
        rw [q1917] at hc1915
        clear q1917
        refine XO.do rfl (D.call (vs := [S a1, .int .i64 x1506, .int .i64 x1786]) cf64 hc1915 rfl rfl ?_)
        rintro _ w1913 ⟨rfl, e1914⟩
        clear hc1915
        replace hB := below_ext hB e1914
        replace H1787 := H1787.ext e1914
        clear e1914
        refine XO.do rfl (D.mv (v := .tuple #[S r1916.1, .int .i64 r1916.2.1, .int .i64 r1916.2.2]) rfl rfl ?_)
        refine XO.do rfl (D.extract (v := S r1916.1) rfl rfl rfl ?_)
        refine XO.do rfl (D.extract (v := .int .i64 r1916.2.1) rfl rfl rfl ?_)
        refine XO.do rfl (D.extract (v := .int .i64 r1916.2.2) rfl rfl rfl ?_)
        refine XO.do rfl (D.asn (v := S r1916.1) rfl rfl ?_)
        refine XO.do rfl (D.asn (v := .int .i64 r1916.2.1) rfl rfl ?_)
        refine XO.do rfl (D.asn (v := .int .i64 r1916.2.2) rfl rfl ?_)
        refine XO.nil ?_
        refine hM1911 _ _ ?_
        refine X.seq fun M1937 hM1938 => ?_
        refine X.cut (fun f1943 w1942 => ∃ x1941 : Bool, f1943 0 = S a1 ∧ f1943 3 = .int .u16 a4 ∧ f1943 13 = .int .i64 (w64 (a2 + a3)) ∧ f1943 14 = S x1507 ∧ f1943 21 = S r1916.1 ∧ f1943 22 = .int .i64 r1916.2.1 ∧ f1943 39 = .slice A1017 r1015.length k1018 ∧ f1943 40 = .int .i64 (r1015.length : Int) ∧ f1943 41 = .int .i64 x1509 ∧ f1943 89 = .bool x1941 ∧ Below w.heap.size w w1942 ∧ Row (eInt .i64) w1942 A1017 k1018 r1015 ∧ rdata_Take.j5 x1507 r1916 (rdata_Take.l1 r1015 a1 a2 a3 a4 kf1505) x1509 x1941 = some res) ?_ ?_
        ·refine X.region ?_
         refine XO.do rfl (D.mv (v := .int .i64 r1916.2.2) rfl rfl ?_)
         refine XO.do rfl (D.neq rfl rfl rfl ?_)
         refine XO.do rfl (D.mv (v := .bool (r1916.2.2 != 0)) rfl rfl ?_)
         by_cases c1958 : r1916.2.2 = 0
         ·rw [if_pos c1958] at h
          refine XO.do (wantG (j := 2) (b := false) rfl ((congrArg (!·) (beq_iff_eq.2 c1958))) rfl) (D.mv (v := .int .i64 r1916.2.1) rfl rfl ?_)
          refine XO.do (wantG (j := 2) (b := false) rfl ((congrArg (!·) (beq_iff_eq.2 c1958))) rfl) (D.mv (v := .int .i64 (w64 (a2 + a3))) rfl rfl ?_)
          refine XO.do (wantG (j := 2) (b := false) rfl ((congrArg (!·) (beq_iff_eq.2 c1958))) rfl) (D.gtr rfl rfl rfl ?_)
          refine XO.do rfl (D.pick false (v := .bool (decide ((w64 (a2 + a3)) < r1916.2.1))) (congrArg Value.bool ((congrArg (!·) (beq_iff_eq.2 c1958)))) rfl rfl ?_)
          refine XO.nil ?_
          exact ⟨(decide ((w64 (a2 + a3)) < r1916.2.1)), rfl, rfl, rfl, rfl, rfl, rfl, rfl, rfl, rfl, rfl, hB, H1787, h⟩
         ·rw [if_neg c1958] at h
          refine XO.off (wantG0 (j := 2) (b := false) rfl ((congrArg (!·) (beq_eq_false_iff_ne.2 c1958))) rfl) rfl rfl ?_
          refine XO.off (wantG0 (j := 2) (b := false) rfl ((congrArg (!·) (beq_eq_false_iff_ne.2 c1958))) rfl) rfl rfl ?_
          refine XO.off (wantG0 (j := 2) (b := false) rfl ((congrArg (!·) (beq_eq_false_iff_ne.2 c1958))) rfl) rfl rfl ?_
          refine XO.do rfl (D.pick true (v := .bool true) (congrArg Value.bool ((congrArg (!·) (beq_eq_false_iff_ne.2 c1958)))) rfl rfl ?_)
          refine XO.nil ?_
          exact ⟨true, rfl, rfl, rfl, rfl, rfl, rfl, rfl, rfl, rfl, rfl, hB, H1787, h⟩
        ·intro f1943 w1942 hI
         obtain ⟨x1941, s1944, s1945, s1946, s1947, s1948, s1949, s1950, s1951, s1952, s1953, hB, H1940, h⟩ := hI
         refine X.fr (d := 0) s1944 ?_
         refine X.fr (d := 3) s1945 ?_
         refine X.fr (d := 13) s1946 ?_
         refine X.fr (d := 14) s1947 ?_
         refine X.fr (d := 21) s1948 ?_
         refine X.fr (d := 22) s1949 ?_
         refine X.fr (d := 39) s1950 ?_
         refine X.fr (d := 40) s1951 ?_
         refine X.fr (d := 41) s1952 ?_
         refine X.fr (d := 89) s1953 ?_
         unfold rdata_Take.j5 at h
         by_cases c1954 : x1941 = true
         ·rw [if_pos c1954] at h
          refine X.condT (congrArg Value.bool (c1954)) ?_
          refine X.seq fun M1955 hM1956 => ?_
          refine X.region ?_
          refine XO.do rfl (D.asn (v := S []) rfl rfl ?_)
          refine XO.do rfl (D.asn (v := .int .i64 2) rfl rfl ?_)
          refine XO.nil ?_
          refine hM1956 _ _ ?_
          refine X.ret ?_
          injection h with h
          subst h
          exact hR _ _ _ (ret2 (v := S []) (v' := .int .i64 2) rfl rfl rfl) ⟨rfl, ext_of_below hB⟩
         ·rw [if_neg c1954] at h
          refine X.condF (congrArg Value.bool ((Bool.eq_false_iff.2 c1954))) ?_
          refine X.skip ?_
          refine hM1938 _ _ ?_
          refine X.region ?_
          refine XO.do rfl (D.mv (v := S x1507) rfl rfl ?_)
          refine XO.do rfl (D.mv (v := S r1916.1) rfl rfl ?_)
          rcases (Classical.em (x1507.length + r1916.1.length ≤ 9223372036854775807)).symm with c1957 | c1957
          ·rw [if_neg c1957] at h; cases h
          rw [if_pos c1957] at h
          refine XO.do rfl (D.addS rfl rfl c1957 rfl ?_)
          refine XO.do rfl (D.mv (v := .int .i64 r1916.2.1) rfl rfl ?_)
          refine XO.do rfl (D.asn (v := S (x1507 ++ r1916.1)) rfl rfl ?_)
          refine XO.do rfl (D.asn (v := .int .i64 r1916.2.1) rfl rfl ?_)
          refine XO.nil ?_
          exact ⟨r1916.2.1, x1507 ++ r1916.1, rfl, rfl, rfl, rfl, rfl, rfl, rfl, rfl, hB, H1940, h⟩
     ·intro f1750 w1749 hI
      obtain ⟨x1746, x1747, s1751, s1752, s1753, s1754, s1755, s1756, s1757, s1758, hB, H1748, h⟩ := hI
      refine X.fr (d := 0) s1751 ?_
      refine X.fr (d := 1) s1752 ?_
      refine X.fr (d := 3) s1753 ?_
      refine X.fr (d := 13) s1754 ?_
      refine X.fr (d := 14) s1755 ?_
      refine X.fr (d := 39) s1756 ?_
      refine X.fr (d := 40) s1757 ?_
      refine X.fr (d := 41) s1758 ?_
      unfold rdata_Take.j2 at h
      refine X.region ?_
      refine XO.do rfl (D.add rfl rfl rfl ?_)
      refine XO.do rfl (D.mv (v := .int .i64 (w64 (x1509 + 1))) rfl rfl ?_)
      refine XO.nil ?_
      exact ⟨kf1505, Nat.lt_succ_self _, x1746, x1747, w64 (x1509 + 1), rfl, rfl, rfl, rfl, rfl, rfl, rfl, rfl, hB, H1748, h⟩
    ·rw [if_neg c1527] at h
     refine X.condF (congrArg Value.bool (decide_eq_false c1527)) ?_
     refine X.exit rfl ?_
     refine hM1009 _ _ ?_
     refine X.seq fun M1999 hM2000 => ?_
     refine X.cut (fun f2010 w2009 => ∃ x2008 : Bool, f2010 14 = S x1507 ∧ f2010 103 = .bool x2008 ∧ Below w.heap.size w w2009 ∧ rdata_Take.j7 x1507 x2008 = some res) ?_ ?_
     ·refine X.region ?_
      refine XO.do rfl (D.mv (v := .int .i64 x1506) rfl rfl ?_)
      refine XO.do rfl (D.mv (v := .int .i64 (w64 (a2 + a3))) rfl rfl ?_)
      refine XO.do rfl (D.neq rfl rfl rfl ?_)
      refine XO.do rfl (D.mv (v := .bool (x1506 != (w64 (a2 + a3)))) rfl rfl ?_)
      by_cases c2018 : x1506 = (w64 (a2 + a3))
      ·rw [if_pos c2018] at h
       refine XO.do (wantG (j := 3) (b := false) rfl ((congrArg (!·) (beq_iff_eq.2 c2018))) rfl) (D.mv (v := .int .u16 a4) rfl rfl ?_)
       refine XO.do (wantG (j := 3) (b := false) rfl ((congrArg (!·) (beq_iff_eq.2 c2018))) rfl) (D.mv (v := S x1507) rfl rfl ?_)
       rcases (Classical.em (rdata_May.pre a4 x1507)).symm with c2019 | c2019
       ·rw [if_neg c2019] at h; cases h
       rw [if_pos c2019] at h
       obtain ⟨r2023, q2024, h⟩ := lt_elim h
       have hc2022 := rdata_May.ok a4 x1507 w1511 c2019 
       rw [q2024] at hc2022
       clear q2024
       refine XO.do (wantG (j := 3) (b := false) rfl ((congrArg (!·) (beq_iff_eq.2 c2018))) rfl) (D.call (vs := [.int .u16 a4, S x1507]) cf28 hc2022 rfl rfl ?_)
       rintro _ w2020 ⟨rfl, e2021⟩
       clear hc2022
       replace hB := below_ext hB e2021
       replace H1508 := H1508.ext e2021
       clear e2021
       refine XO.do (wantG (j := 3) (b := false) rfl ((congrArg (!·) (beq_iff_eq.2 c2018))) rfl) (D.not r2023 rfl rfl ?_)
       refine XO.do rfl (D.pick false (v := .bool (!r2023)) (congrArg Value.bool ((congrArg (!·) (beq_iff_eq.2 c2018)))) rfl rfl ?_)
       refine XO.nil ?_
       exact ⟨(!r2023), rfl, rfl, hB, h⟩
      ·rw [if_neg c2018] at h
       refine XO.off (wantG0 (j := 3) (b := false) rfl ((congrArg (!·) (beq_eq_false_iff_ne.2 c2018))) rfl) rfl rfl ?_
       refine XO.off (wantG0 (j := 3) (b := false) rfl ((congrArg (!·) (beq_eq_false_iff_ne.2 c2018))) rfl) rfl rfl ?_
       refine XO.off (wantG0 (j := 3) (b := false) rfl ((congrArg (!·) (beq_eq_false_iff_ne.2 c2018))) rfl) rfl rfl ?_
       refine XO.off (wantG0 (j := 3) (b := false) rfl ((congrArg (!·) (beq_eq_false_iff_ne.2 c2018))) rfl) rfl rfl ?_
       refine XO.do rfl (D.pick true (v := .bool true) (congrArg Value.bool ((congrArg (!·) (beq_eq_false_iff_ne.2 c2018)))) rfl rfl ?_)
       refine XO.nil ?_
       exact ⟨true, rfl, rfl, hB, h⟩
     ·intro f2010 w2009 hI
      obtain ⟨x2008, s2011, s2012, hB, h⟩ := hI
      refine X.fr (d := 14) s2011 ?_
      refine X.fr (d := 103) s2012 ?_
      unfold rdata_Take.j7 at h
      by_cases c2013 : x2008 = true
      ·rw [if_pos c2013] at h
       refine X.condT (congrArg Value.bool (c2013)) ?_
       refine X.seq fun M2014 hM2015 => ?_
       refine X.region ?_
       refine XO.do rfl (D.asn (v := S []) rfl rfl ?_)
       refine XO.do rfl (D.asn (v := .int .i64 2) rfl rfl ?_)
       refine XO.nil ?_
       refine hM2015 _ _ ?_
       refine X.ret ?_
       injection h with h
       subst h
       exact hR _ _ _ (ret2 (v := S []) (v' := .int .i64 2) rfl rfl rfl) ⟨rfl, ext_of_below hB⟩
      ·rw [if_neg c2013] at h
       refine X.condF (congrArg Value.bool ((Bool.eq_false_iff.2 c2013))) ?_
       refine X.skip ?_
       refine hM2000 _ _ ?_
       refine X.seq fun M2016 hM2017 => ?_
       refine X.region ?_
       refine XO.do rfl (D.mv (v := S x1507) rfl rfl ?_)
       refine XO.do rfl (D.asn (v := S x1507) rfl rfl ?_)
       refine XO.do rfl (D.asn (v := .int .i64 0) rfl rfl ?_)
       refine XO.nil ?_
       refine hM2017 _ _ ?_
       refine X.ret ?_
       injection h with h
       subst h
       exact hR _ _ _ (ret2 (v := S x1507) (v' := .int .i64 0) rfl rfl rfl) ⟨rfl, ext_of_below hB⟩
 ·rw [if_neg c32] at h
  refine X.condT (congrArg Value.bool ((congrArg (!·) (beq_eq_false_iff_ne.2 c32)))) ?_
  refine X.seq fun M2026 hM2027 => ?_
  refine X.region ?_
  refine XO.do rfl (D.mv (v := .int .i64 r28.2.2) rfl rfl ?_)
  refine XO.do rfl (D.asn (v := S []) rfl rfl ?_)
  refine XO.do rfl (D.asn (v := .int .i64 r28.2.2) rfl rfl ?_)
  refine XO.nil ?_
  refine hM2027 _ _ ?_
  refine X.ret ?_
  injection h with h
  subst h
  exact hR _ _ _ (ret2 (v := S []) (v' := .int .i64 r28.2.2) rfl rfl rfl) ⟨rfl, ext_of_below hB⟩
theorem rdata_Take.ok (a1 : Str) (a2 : Int) (a3 : Int) (a4 : Int)  (w : World)  (hp : rdata_Take.pre a1 a2 a3 a4) :
  Ret Try.prog 46 ([S a1, .int .i64 a2, .int .i64 a3, .int .u16 a4] : List Value).toArray w fun v w' => v = .tuple #[S ((rdata_Take a1 a2 a3 a4).1), .int .i64 ((rdata_Take a1 a2 a3 a4).2)] ∧ Ext w w' := by
 obtain ⟨kf, h⟩ := rdata_Take.eq a1 a2 a3 a4 hp
 exact rdata_Take.walk kf a1 a2 a3 a4  w  _ h
end Go.Proofs.Ytfcaekghpkpjdaa.K

/- Walks, printed by a program of this session. -/
namespace Go.Proofs.Ytfcaekghpkpjdaa.K
open Go Go.RowKit Go.Proofs
set_option linter.unusedVariables false
set_option maxRecDepth 100000
set_option maxHeartbeats 4000000
namespace FE2
theorem cf43 : Callable Try.prog 43 := callable Try.func43 (by kernel_rfl) rfl
theorem cf45 : Callable Try.prog 45 := callable Try.func45 (by kernel_rfl) rfl
theorem cf61 : Callable Try.prog 61 := callable Try.func61 (by kernel_rfl) rfl
theorem ti9 : TI Try.prog 9 (S []) 1 16 := by unfold TI; kernel_rfl
theorem fa78_0 : FA Try.prog 78 0 0 := fa Try.underlying78 rfl ti9 rfl rfl
theorem ti3 : TI Try.prog 3 (.int .i64 0) 1 8 := by unfold TI; kernel_rfl
theorem fa78_1 : FA Try.prog 78 1 1 := fa Try.underlying78 rfl ti3 rfl rfl
theorem ti4 : TI Try.prog 4 (.bool false) 1 1 := by unfold TI; kernel_rfl
theorem fa78_2 : FA Try.prog 78 2 2 := fa Try.underlying78 rfl ti4 rfl rfl
theorem mixed0 : Try.prog.follows .mixedOrders = true := by kernel_rfl
theorem sc3 : Sca Try.prog 3 := sca Try.underlying3 rfl
theorem sc4 : Sca Try.prog 4 := sca Try.underlying4 rfl
theorem sc9 : Sca Try.prog 9 := sca Try.underlying9 rfl
theorem sz3 : ∀ w, (sizeOf 3).run Try.prog w = .ok 1 w := fun w => ti3.size w
theorem sz4 : ∀ w, (sizeOf 4).run Try.prog w = .ok 1 w := fun w => ti4.size w
end FE2
open FE2
theorem record_take_string.walk (a2 : Rd) (b1 : Nat) (w : World) (H3 : Blk w b1 [S a2.s, .int .i64 a2.at_, .bool a2.bad] 78) (res : Str × Rd) (h : record_take_string.f a2 = some res) :
  Ret Try.prog 60 ([pt b1 0, .func (.func 61) #[] #[]] : List Value).toArray w fun v w' => v = S res.1 ∧ Blk w' b1 [S res.2.s, .int .i64 res.2.at_, .bool res.2.bad] 78 ∧ GrM w w' (MB b1) := by
 unfold record_take_string.f at h
 refine enterX Try.func60 rfl Try.ntmps60 rfl (fun R hR => ?_)
 have hB := GrM.refl w (MB b1)
 refine X.seq fun M5 hM6 => ?_
 refine X.region ?_
 refine XO.do rfl (D.asn (v := S []) rfl rfl ?_)
 refine XO.nil ?_
 refine hM6 _ _ ?_
 refine X.seq fun M7 hM8 => ?_
 refine X.tree mixed0 [0, 0, 2, 6, 14, 0, 32, 96, 224, 511, 1023, 2047, 2047, 2047, 4095, 24575, 65535] (.q 0 (.q 1 (.q 2 (.q 3 (.q 4 (.q 5 (.q 6 (.q 7 (.q 8 (.q 9 (.q 10 (.q 11 (.q 12 (.q 13 (.q 14 (.q 15 (.q 16 .nil))))))))))))))))) (fun w' => GrM w w' (MB b1) ∧ Blk w' b1 [S a2.s, .int .i64 a2.at_, .bool a2.bad] 78) (fun w' => GrM w w' (MB b1) ∧ Blk w' b1 [S a2.s, .int .i64 a2.at_, .bool a2.bad] 78) (by decide +kernel) (fun w' hx _ => ⟨gm_ext hB hx, H3.ext hx⟩) (fun a b hC hx => by obtain ⟨hB, H3⟩ := hC; exact ⟨gm_ext hB hx, H3.ext hx⟩) (fun a hC => by obtain ⟨hB, H3⟩ := hC; exact ⟨hB, H3⟩) ?_
 refine QT.do (v := .func (.func 61) #[] #[]) rfl (by decide +kernel) rfl rfl rfl (fun w' hJ => by obtain ⟨hB, H3⟩ := hJ; exact D.mv (v := .func (.func 61) #[] #[]) rfl rfl ⟨rfl, Ext.refl _⟩) ?_
 refine QT.do (v := pt b1 0) rfl (by decide +kernel) rfl rfl rfl (fun w' hJ => by obtain ⟨hB, H3⟩ := hJ; exact D.mv (v := pt b1 0) rfl rfl ⟨rfl, Ext.refl _⟩) ?_
 refine QT.do (v := pt b1 0) rfl (by decide +kernel) rfl rfl rfl (fun w' hJ => by obtain ⟨hB, H3⟩ := hJ; exact D.nilCheck rfl rfl ⟨rfl, Ext.refl _⟩) ?_
 refine QT.do (v := pt b1 0) rfl (by decide +kernel) rfl rfl rfl (fun w' hJ => by obtain ⟨hB, H3⟩ := hJ; exact D.fieldAddr (o' := 0) fa78_0 rfl rfl rfl ⟨rfl, Ext.refl _⟩) ?_
 refine QT.do (v := S a2.s) rfl (by decide +kernel) rfl rfl rfl (fun w' hJ => by obtain ⟨hB, H3⟩ := hJ; exact D.load (j := 0) (v := S a2.s) sc9 H3.cs rfl rfl rfl rfl ⟨rfl, Ext.refl _⟩) ?_
 refine QT.do (v := pt b1 0) rfl (by decide +kernel) rfl rfl rfl (fun w' hJ => by obtain ⟨hB, H3⟩ := hJ; exact D.mv (v := pt b1 0) rfl rfl ⟨rfl, Ext.refl _⟩) ?_
 refine QT.do (v := pt b1 0) rfl (by decide +kernel) rfl rfl rfl (fun w' hJ => by obtain ⟨hB, H3⟩ := hJ; exact D.nilCheck rfl rfl ⟨rfl, Ext.refl _⟩) ?_
 refine QT.do (v := pt b1 1) rfl (by decide +kernel) rfl rfl rfl (fun w' hJ => by obtain ⟨hB, H3⟩ := hJ; exact D.fieldAddr (o' := 1) fa78_1 rfl rfl rfl ⟨rfl, Ext.refl _⟩) ?_
 refine QT.do (v := .int .i64 a2.at_) rfl (by decide +kernel) rfl rfl rfl (fun w' hJ => by obtain ⟨hB, H3⟩ := hJ; exact D.load (j := 1) (v := .int .i64 a2.at_) sc3 H3.cs rfl rfl rfl rfl ⟨rfl, Ext.refl _⟩) ?_
 rcases (Classical.em (wire_Take.pre a2.s a2.at_)).symm with c9 | c9
 ·rw [if_neg c9] at h; cases h
 rw [if_pos c9] at h
 obtain ⟨r13, q14, h⟩ := lt_elim h
 refine QT.do (v := .tuple #[S r13.1, .int .i64 r13.2.1, .int .i64 r13.2.2]) rfl (by decide +kernel) rfl rfl rfl (fun w' hJ => by obtain ⟨hB, H3⟩ := hJ; have hc := wire_Take.ok a2.s a2.at_ w' c9; rw [q14] at hc; refine D.callV (cap := []) (vs := [S a2.s, .int .i64 a2.at_]) cf61 hc rfl rfl rfl ?_; rintro _ w2 ⟨rfl, e2⟩; exact ⟨rfl, e2⟩) ?_
 refine QT.do (v := .tuple #[S r13.1, .int .i64 r13.2.1, .int .i64 r13.2.2]) rfl (by decide +kernel) rfl rfl rfl (fun w' hJ => by obtain ⟨hB, H3⟩ := hJ; exact D.mv (v := .tuple #[S r13.1, .int .i64 r13.2.1, .int .i64 r13.2.2]) rfl rfl ⟨rfl, Ext.refl _⟩) ?_
 refine QT.do (v := S r13.1) rfl (by decide +kernel) rfl rfl rfl (fun w' hJ => by obtain ⟨hB, H3⟩ := hJ; exact D.extract (v := S r13.1) rfl rfl rfl ⟨rfl, Ext.refl _⟩) ?_
 refine QT.do (v := .int .i64 r13.2.1) rfl (by decide +kernel) rfl rfl rfl (fun w' hJ => by obtain ⟨hB, H3⟩ := hJ; exact D.extract (v := .int .i64 r13.2.1) rfl rfl rfl ⟨rfl, Ext.refl _⟩) ?_
 refine QT.do (v := .int .i64 r13.2.2) rfl (by decide +kernel) rfl rfl rfl (fun w' hJ => by obtain ⟨hB, H3⟩ := hJ; exact D.extract (v := .int .i64 r13.2.2) rfl rfl rfl ⟨rfl, Ext.refl _⟩) ?_
 refine QT.do (v := S r13.1) rfl (by decide +kernel) rfl rfl rfl (fun w' hJ => by obtain ⟨hB, H3⟩ := hJ; exact D.asn (v := S r13.1) rfl rfl ⟨rfl, Ext.refl _⟩) ?_
 refine QT.do (v := .int .i64 r13.2.1) rfl (by decide +kernel) rfl rfl rfl (fun w' hJ => by obtain ⟨hB, H3⟩ := hJ; exact D.asn (v := .int .i64 r13.2.1) rfl rfl ⟨rfl, Ext.refl _⟩) ?_
 refine QT.do (v := .int .i64 r13.2.2) rfl (by decide +kernel) rfl rfl rfl (fun w' hJ => by obtain ⟨hB, H3⟩ := hJ; exact D.asn (v := .int .i64 r13.2.2) rfl rfl ⟨rfl, Ext.refl _⟩) ?_
 refine QT.nil fun w15 hC => ?_
 obtain ⟨hB, H3⟩ := hC
 refine hM8 _ _ ?_
 refine X.seq fun M16 hM17 => ?_
 refine X.region ?_
 refine XO.do rfl (D.mv (v := pt b1 0) rfl rfl ?_)
 refine XO.do rfl (D.mv (v := .int .i64 r13.2.1) rfl rfl ?_)
 refine XO.do rfl (D.nilCheck rfl rfl ?_)
 refine XO.do rfl (D.fieldAddr (o' := 1) fa78_1 rfl rfl rfl ?_)
 refine XO.do rfl (D.store (v := .int .i64 r13.2.1) (us := [S a2.s, .int .i64 r13.2.1, .bool a2.bad]) sz3 H3 rfl rfl rfl rfl rfl rfl ?_)
 intro w18 H19 e20
 replace hB := gm_blkP hB e20
 clear e20
 refine XO.nil ?_
 refine hM17 _ _ ?_
 refine X.cut (fun f31 w30 => ∃ x28 : Bool, f31 0 = pt b1 0 ∧ f31 5 = S r13.1 ∧ GrM w w30 (MB b1) ∧ Blk w30 b1 [S a2.s, .int .i64 r13.2.1, .bool x28] 78 ∧ record_take_string.j1 r13 a2 x28 = some res) ?_ ?_
 ·refine X.region ?_
  refine XO.do rfl (D.mv (v := pt b1 0) rfl rfl ?_)
  refine XO.do rfl (D.mv (v := pt b1 0) rfl rfl ?_)
  refine XO.do rfl (D.nilCheck rfl rfl ?_)
  refine XO.do rfl (D.fieldAddr (o' := 2) fa78_2 rfl rfl rfl ?_)
  refine XO.do rfl (D.load (j := 2) (v := .bool a2.bad) sc4 H19.cs rfl rfl rfl rfl ?_)
  refine XO.do rfl (D.mv (v := .bool a2.bad) rfl rfl ?_)
  by_cases c36 : a2.bad = true
  ·rw [if_pos c36] at h
   refine XO.off (wantG0 (j := 5) (b := false) rfl (c36) rfl) rfl rfl ?_
   refine XO.off (wantG0 (j := 5) (b := false) rfl (c36) rfl) rfl rfl ?_
   refine XO.do rfl (D.pick true (v := .bool true) (congrArg Value.bool (c36)) rfl rfl ?_)
   refine XO.do rfl (D.nilCheck rfl rfl ?_)
   refine XO.do rfl (D.fieldAddr (o' := 2) fa78_2 rfl rfl rfl ?_)
   refine XO.do rfl (D.store (v := .bool true) (us := [S a2.s, .int .i64 r13.2.1, .bool true]) sz4 H19 rfl rfl rfl rfl rfl rfl ?_)
   intro w37 H38 e39
   replace hB := gm_blkP hB e39
   clear e39
   refine XO.nil ?_
   exact ⟨true, rfl, rfl, hB, H38, h⟩
  ·rw [if_neg c36] at h
   refine XO.do (wantG (j := 5) (b := false) rfl ((Bool.eq_false_iff.2 c36)) rfl) (D.mv (v := .int .i64 r13.2.2) rfl rfl ?_)
   refine XO.do (wantG (j := 5) (b := false) rfl ((Bool.eq_false_iff.2 c36)) rfl) (D.neq rfl rfl rfl ?_)
   refine XO.do rfl (D.pick false (v := .bool (r13.2.2 != 0)) (congrArg Value.bool ((Bool.eq_false_iff.2 c36))) rfl rfl ?_)
   refine XO.do rfl (D.nilCheck rfl rfl ?_)
   refine XO.do rfl (D.fieldAddr (o' := 2) fa78_2 rfl rfl rfl ?_)
   refine XO.do rfl (D.store (v := .bool (r13.2.2 != 0)) (us := [S a2.s, .int .i64 r13.2.1, .bool (r13.2.2 != 0)]) sz4 H19 rfl rfl rfl rfl rfl rfl ?_)
   intro w40 H41 e42
   replace hB := gm_blkP hB e42
   clear e42
   refine XO.nil ?_
   exact ⟨(r13.2.2 != 0), rfl, rfl, hB, H41, h⟩
 ·intro f31 w30 hI
  obtain ⟨x28, s32, s33, hB, H29, h⟩ := hI
  refine X.fr (d := 0) s32 ?_
  refine X.fr (d := 5) s33 ?_
  unfold record_take_string.j1 at h
  refine X.seq fun M34 hM35 => ?_
  refine X.region ?_
  refine XO.do rfl (D.mv (v := S r13.1) rfl rfl ?_)
  refine XO.do rfl (D.asn (v := S r13.1) rfl rfl ?_)
  refine XO.nil ?_
  refine hM35 _ _ ?_
  refine X.ret ?_
  injection h with h
  subst h
  exact hR _ _ _ (ret1 (v := S r13.1) rfl rfl) ⟨rfl, H29, hB⟩
theorem record_take_string.ok (a2 : Rd) (b1 : Nat) (w : World) (H3 : Blk w b1 [S a2.s, .int .i64 a2.at_, .bool a2.bad] 78) (hp : record_take_string.pre a2) :
  Ret Try.prog 60 ([pt b1 0, .func (.func 61) #[] #[]] : List Value).toArray w fun v w' => v = S ((record_take_string a2).1) ∧ Blk w' b1 [S ((record_take_string a2).2.s), .int .i64 ((record_take_string a2).2.at_), .bool ((record_take_string a2).2.bad)] 78 ∧ GrM w w' (MB b1) := by
 have h := record_take_string.eq a2 hp
 exact record_take_string.walk  a2 b1 w H3 _ h
theorem record_take_uint16.walk (a2 : Rd) (b1 : Nat) (w : World) (H3 : Blk w b1 [S a2.s, .int .i64 a2.at_, .bool a2.bad] 78) (res : Int × Rd) (h : record_take_uint16.f a2 = some res) :
  Ret Try.prog 44 ([pt b1 0, .func (.func 45) #[] #[]] : List Value).toArray w fun v w' => v = .int .u16 res.1 ∧ Blk w' b1 [S res.2.s, .int .i64 res.2.at_, .bool res.2.bad] 78 ∧ GrM w w' (MB b1) := by
 unfold record_take_uint16.f at h
 refine enterX Try.func44 rfl Try.ntmps44 rfl (fun R hR => ?_)
 have hB := GrM.refl w (MB b1)
 refine X.seq fun M5 hM6 => ?_
 refine X.region ?_
 refine XO.do rfl (D.asn (v := .int .u16 0) rfl rfl ?_)
 refine XO.nil ?_
 refine hM6 _ _ ?_
 refine X.seq fun M7 hM8 => ?_
 refine X.tree mixed0 [0, 0, 2, 6, 14, 0, 32, 96, 224, 511, 1023, 2047, 2047, 2047, 4095, 24575, 65535] (.q 0 (.q 1 (.q 2 (.q 3 (.q 4 (.q 5 (.q 6 (.q 7 (.q 8 (.q 9 (.q 10 (.q 11 (.q 12 (.q 13 (.q 14 (.q 15 (.q 16 .nil))))))))))))))))) (fun w' => GrM w w' (MB b1) ∧ Blk w' b1 [S a2.s, .int .i64 a2.at_, .bool a2.bad] 78) (fun w' => GrM w w' (MB b1) ∧ Blk w' b1 [S a2.s, .int .i64 a2.at_, .bool a2.bad] 78) (by decide +kernel) (fun w' hx _ => ⟨gm_ext hB hx, H3.ext hx⟩) (fun a b hC hx => by obtain ⟨hB, H3⟩ := hC; exact ⟨gm_ext hB hx, H3.ext hx⟩) (fun a hC => by obtain ⟨hB, H3⟩ := hC; exact ⟨hB, H3⟩) ?_
 refine QT.do (v := .func (.func 45) #[] #[]) rfl (by decide +kernel) rfl rfl rfl (fun w' hJ => by obtain ⟨hB, H3⟩ := hJ; exact D.mv (v := .func (.func 45) #[] #[]) rfl rfl ⟨rfl, Ext.refl _⟩) ?_
 refine QT.do (v := pt b1 0) rfl (by decide +kernel) rfl rfl rfl (fun w' hJ => by obtain ⟨hB, H3⟩ := hJ; exact D.mv (v := pt b1 0) rfl rfl ⟨rfl, Ext.refl _⟩) ?_
 refine QT.do (v := pt b1 0) rfl (by decide +kernel) rfl rfl rfl (fun w' hJ => by obtain ⟨hB, H3⟩ := hJ; exact D.nilCheck rfl rfl ⟨rfl, Ext.refl _⟩) ?_
 refine QT.do (v := pt b1 0) rfl (by decide +kernel) rfl rfl rfl (fun w' hJ => by obtain ⟨hB, H3⟩ := hJ; exact D.fieldAddr (o' := 0) fa78_0 rfl rfl rfl ⟨rfl, Ext.refl _⟩) ?_
 refine QT.do (v := S a2.s) rfl (by decide +kernel) rfl rfl rfl (fun w' hJ => by obtain ⟨hB, H3⟩ := hJ; exact D.load (j := 0) (v := S a2.s) sc9 H3.cs rfl rfl rfl rfl ⟨rfl, Ext.refl _⟩) ?_
 refine QT.do (v := pt b1 0) rfl (by decide +kernel) rfl rfl rfl (fun w' hJ => by obtain ⟨hB, H3⟩ := hJ; exact D.mv (v := pt b1 0) rfl rfl ⟨rfl, Ext.refl _⟩) ?_
 refine QT.do (v := pt b1 0) rfl (by decide +kernel) rfl rfl rfl (fun w' hJ => by obtain ⟨hB, H3⟩ := hJ; exact D.nilCheck rfl rfl ⟨rfl, Ext.refl _⟩) ?_
 refine QT.do (v := pt b1 1) rfl (by decide +kernel) rfl rfl rfl (fun w' hJ => by obtain ⟨hB, H3⟩ := hJ; exact D.fieldAddr (o' := 1) fa78_1 rfl rfl rfl ⟨rfl, Ext.refl _⟩) ?_
 refine QT.do (v := .int .i64 a2.at_) rfl (by decide +kernel) rfl rfl rfl (fun w' hJ => by obtain ⟨hB, H3⟩ := hJ; exact D.load (j := 1) (v := .int .i64 a2.at_) sc3 H3.cs rfl rfl rfl rfl ⟨rfl, Ext.refl _⟩) ?_
 rcases (Classical.em (octet_U16.pre a2.s a2.at_)).symm with c9 | c9
 ·rw [if_neg c9] at h; cases h
 rw [if_pos c9] at h
 obtain ⟨r13, q14, h⟩ := lt_elim h
 refine QT.do (v := .tuple #[.int .u16 r13.1, .int .i64 r13.2.1, .int .i64 r13.2.2]) rfl (by decide +kernel) rfl rfl rfl (fun w' hJ => by obtain ⟨hB, H3⟩ := hJ; have hc := octet_U16.ok a2.s a2.at_ w' c9; rw [q14] at hc; refine D.callV (cap := []) (vs := [S a2.s, .int .i64 a2.at_]) cf45 hc rfl rfl rfl ?_; rintro _ w2 ⟨rfl, e2⟩; exact ⟨rfl, e2⟩) ?_
 refine QT.do (v := .tuple #[.int .u16 r13.1, .int .i64 r13.2.1, .int .i64 r13.2.2]) rfl (by decide +kernel) rfl rfl rfl (fun w' hJ => by obtain ⟨hB, H3⟩ := hJ; exact D.mv (v := .tuple #[.int .u16 r13.1, .int .i64 r13.2.1, .int .i64 r13.2.2]) rfl rfl ⟨rfl, Ext.refl _⟩) ?_
 refine QT.do (v := .int .u16 r13.1) rfl (by decide +kernel) rfl rfl rfl (fun w' hJ => by obtain ⟨hB, H3⟩ := hJ; exact D.extract (v := .int .u16 r13.1) rfl rfl rfl ⟨rfl, Ext.refl _⟩) ?_
 refine QT.do (v := .int .i64 r13.2.1) rfl (by decide +kernel) rfl rfl rfl (fun w' hJ => by obtain ⟨hB, H3⟩ := hJ; exact D.extract (v := .int .i64 r13.2.1) rfl rfl rfl ⟨rfl, Ext.refl _⟩) ?_
 refine QT.do (v := .int .i64 r13.2.2) rfl (by decide +kernel) rfl rfl rfl (fun w' hJ => by obtain ⟨hB, H3⟩ := hJ; exact D.extract (v := .int .i64 r13.2.2) rfl rfl rfl ⟨rfl, Ext.refl _⟩) ?_
 refine QT.do (v := .int .u16 r13.1) rfl (by decide +kernel) rfl rfl rfl (fun w' hJ => by obtain ⟨hB, H3⟩ := hJ; exact D.asn (v := .int .u16 r13.1) rfl rfl ⟨rfl, Ext.refl _⟩) ?_
 refine QT.do (v := .int .i64 r13.2.1) rfl (by decide +kernel) rfl rfl rfl (fun w' hJ => by obtain ⟨hB, H3⟩ := hJ; exact D.asn (v := .int .i64 r13.2.1) rfl rfl ⟨rfl, Ext.refl _⟩) ?_
 refine QT.do (v := .int .i64 r13.2.2) rfl (by decide +kernel) rfl rfl rfl (fun w' hJ => by obtain ⟨hB, H3⟩ := hJ; exact D.asn (v := .int .i64 r13.2.2) rfl rfl ⟨rfl, Ext.refl _⟩) ?_
 refine QT.nil fun w15 hC => ?_
 obtain ⟨hB, H3⟩ := hC
 refine hM8 _ _ ?_
 refine X.seq fun M16 hM17 => ?_
 refine X.region ?_
 refine XO.do rfl (D.mv (v := pt b1 0) rfl rfl ?_)
 refine XO.do rfl (D.mv (v := .int .i64 r13.2.1) rfl rfl ?_)
 refine XO.do rfl (D.nilCheck rfl rfl ?_)
 refine XO.do rfl (D.fieldAddr (o' := 1) fa78_1 rfl rfl rfl ?_)
 refine XO.do rfl (D.store (v := .int .i64 r13.2.1) (us := [S a2.s, .int .i64 r13.2.1, .bool a2.bad]) sz3 H3 rfl rfl rfl rfl rfl rfl ?_)
 intro w18 H19 e20
 replace hB := gm_blkP hB e20
 clear e20
 refine XO.nil ?_
 refine hM17 _ _ ?_
 refine X.cut (fun f31 w30 => ∃ x28 : Bool, f31 0 = pt b1 0 ∧ f31 5 = .int .u16 r13.1 ∧ GrM w w30 (MB b1) ∧ Blk w30 b1 [S a2.s, .int .i64 r13.2.1, .bool x28] 78 ∧ record_take_uint16.j1 r13 a2 x28 = some res) ?_ ?_
 ·refine X.region ?_
  refine XO.do rfl (D.mv (v := pt b1 0) rfl rfl ?_)
  refine XO.do rfl (D.mv (v := pt b1 0) rfl rfl ?_)
  refine XO.do rfl (D.nilCheck rfl rfl ?_)
  refine XO.do rfl (D.fieldAddr (o' := 2) fa78_2 rfl rfl rfl ?_)
  refine XO.do rfl (D.load (j := 2) (v := .bool a2.bad) sc4 H19.cs rfl rfl rfl rfl ?_)
  refine XO.do rfl (D.mv (v := .bool a2.bad) rfl rfl ?_)
  by_cases c36 : a2.bad = true
  ·rw [if_pos c36] at h
   refine XO.off (wantG0 (j := 5) (b := false) rfl (c36) rfl) rfl rfl ?_
   refine XO.off (wantG0 (j := 5) (b := false) rfl (c36) rfl) rfl rfl ?_
   refine XO.do rfl (D.pick true (v := .bool true) (congrArg Value.bool (c36)) rfl rfl ?_)
   refine XO.do rfl (D.nilCheck rfl rfl ?_)
   refine XO.do rfl (D.fieldAddr (o' := 2) fa78_2 rfl rfl rfl ?_)
   refine XO.do rfl (D.store (v := .bool true) (us := [S a2.s, .int .i64 r13.2.1, .bool true]) sz4 H19 rfl rfl rfl rfl rfl rfl ?_)
   intro w37 H38 e39
   replace hB := gm_blkP hB e39
   clear e39
   refine XO.nil ?_
   exact ⟨true, rfl, rfl, hB, H38, h⟩
  ·rw [if_neg c36] at h
   refine XO.do (wantG (j := 5) (b := false) rfl ((Bool.eq_false_iff.2 c36)) rfl) (D.mv (v := .int .i64 r13.2.2) rfl rfl ?_)
   refine XO.do (wantG (j := 5) (b := false) rfl ((Bool.eq_false_iff.2 c36)) rfl) (D.neq rfl rfl rfl ?_)
   refine XO.do rfl (D.pick false (v := .bool (r13.2.2 != 0)) (congrArg Value.bool ((Bool.eq_false_iff.2 c36))) rfl rfl ?_)
   refine XO.do rfl (D.nilCheck rfl rfl ?_)
   refine XO.do rfl (D.fieldAddr (o' := 2) fa78_2 rfl rfl rfl ?_)
   refine XO.do rfl (D.store (v := .bool (r13.2.2 != 0)) (us := [S a2.s, .int .i64 r13.2.1, .bool (r13.2.2 != 0)]) sz4 H19 rfl rfl rfl rfl rfl rfl ?_)
   intro w40 H41 e42
   replace hB := gm_blkP hB e42
   clear e42
   refine XO.nil ?_
   exact ⟨(r13.2.2 != 0), rfl, rfl, hB, H41, h⟩
 ·intro f31 w30 hI
  obtain ⟨x28, s32, s33, hB, H29, h⟩ := hI
  refine X.fr (d := 0) s32 ?_
  refine X.fr (d := 5) s33 ?_
  unfold record_take_uint16.j1 at h
  refine X.seq fun M34 hM35 => ?_
  refine X.region ?_
  refine XO.do rfl (D.mv (v := .int .u16 r13.1) rfl rfl ?_)
  refine XO.do rfl (D.asn (v := .int .u16 r13.1) rfl rfl ?_)
  refine XO.nil ?_
  refine hM35 _ _ ?_
  refine X.ret ?_
  injection h with h
  subst h
  exact hR _ _ _ (ret1 (v := .int .u16 r13.1) rfl rfl) ⟨rfl, H29, hB⟩
theorem record_take_uint16.ok (a2 : Rd) (b1 : Nat) (w : World) (H3 : Blk w b1 [S a2.s, .int .i64 a2.at_, .bool a2.bad] 78) (hp : record_take_uint16.pre a2) :
  Ret Try.prog 44 ([pt b1 0, .func (.func 45) #[] #[]] : List Value).toArray w fun v w' => v = .int .u16 ((record_take_uint16 a2).1) ∧ Blk w' b1 [S ((record_take_uint16 a2).2.s), .int .i64 ((record_take_uint16 a2).2.at_), .bool ((record_take_uint16 a2).2.bad)] 78 ∧ GrM w w' (MB b1) := by
 have h := record_take_uint16.eq a2 hp
 exact record_take_uint16.walk  a2 b1 w H3 _ h
theorem record_take_uint32.walk (a2 : Rd) (b1 : Nat) (w : World) (H3 : Blk w b1 [S a2.s, .int .i64 a2.at_, .bool a2.bad] 78) (res : Int × Rd) (h : record_take_uint32.f a2 = some res) :
  Ret Try.prog 42 ([pt b1 0, .func (.func 43) #[] #[]] : List Value).toArray w fun v w' => v = .int .u32 res.1 ∧ Blk w' b1 [S res.2.s, .int .i64 res.2.at_, .bool res.2.bad] 78 ∧ GrM w w' (MB b1) := by
 unfold record_take_uint32.f at h
 refine enterX Try.func42 rfl Try.ntmps42 rfl (fun R hR => ?_)
 have hB := GrM.refl w (MB b1)
 refine X.seq fun M5 hM6 => ?_
 refine X.region ?_
 refine XO.do rfl (D.asn (v := .int .u32 0) rfl rfl ?_)
 refine XO.nil ?_
 refine hM6 _ _ ?_
 refine X.seq fun M7 hM8 => ?_
 refine X.tree mixed0 [0, 0, 2, 6, 14, 0, 32, 96, 224, 511, 1023, 2047, 2047, 2047, 4095, 24575, 65535] (.q 0 (.q 1 (.q 2 (.q 3 (.q 4 (.q 5 (.q 6 (.q 7 (.q 8 (.q 9 (.q 10 (.q 11 (.q 12 (.q 13 (.q 14 (.q 15 (.q 16 .nil))))))))))))))))) (fun w' => GrM w w' (MB b1) ∧ Blk w' b1 [S a2.s, .int .i64 a2.at_, .bool a2.bad] 78) (fun w' => GrM w w' (MB b1) ∧ Blk w' b1 [S a2.s, .int .i64 a2.at_, .bool a2.bad] 78) (by decide +kernel) (fun w' hx _ => ⟨gm_ext hB hx, H3.ext hx⟩) (fun a b hC hx => by obtain ⟨hB, H3⟩ := hC; exact ⟨gm_ext hB hx, H3.ext hx⟩) (fun a hC => by obtain ⟨hB, H3⟩ := hC; exact ⟨hB, H3⟩) ?_
 refine QT.do (v := .func (.func 43) #[] #[]) rfl (by decide +kernel) rfl rfl rfl (fun w' hJ => by obtain ⟨hB, H3⟩ := hJ; exact D.mv (v := .func (.func 43) #[] #[]) rfl rfl ⟨rfl, Ext.refl _⟩) ?_
 refine QT.do (v := pt b1 0) rfl (by decide +kernel) rfl rfl rfl (fun w' hJ => by obtain ⟨hB, H3⟩ := hJ; exact D.mv (v := pt b1 0) rfl rfl ⟨rfl, Ext.refl _⟩) ?_
 refine QT.do (v := pt b1 0) rfl (by decide +kernel) rfl rfl rfl (fun w' hJ => by obtain ⟨hB, H3⟩ := hJ; exact D.nilCheck rfl rfl ⟨rfl, Ext.refl _⟩) ?_
 refine QT.do (v := pt b1 0) rfl (by decide +kernel) rfl rfl rfl (fun w' hJ => by obtain ⟨hB, H3⟩ := hJ; exact D.fieldAddr (o' := 0) fa78_0 rfl rfl rfl ⟨rfl, Ext.refl _⟩) ?_
 refine QT.do (v := S a2.s) rfl (by decide +kernel) rfl rfl rfl (fun w' hJ => by obtain ⟨hB, H3⟩ := hJ; exact D.load (j := 0) (v := S a2.s) sc9 H3.cs rfl rfl rfl rfl ⟨rfl, Ext.refl _⟩) ?_
 refine QT.do (v := pt b1 0) rfl (by decide +kernel) rfl rfl rfl (fun w' hJ => by obtain ⟨hB, H3⟩ := hJ; exact D.mv (v := pt b1 0) rfl rfl ⟨rfl, Ext.refl _⟩) ?_
 refine QT.do (v := pt b1 0) rfl (by decide +kernel) rfl rfl rfl (fun w' hJ => by obtain ⟨hB, H3⟩ := hJ; exact D.nilCheck rfl rfl ⟨rfl, Ext.refl _⟩) ?_
 refine QT.do (v := pt b1 1) rfl (by decide +kernel) rfl rfl rfl (fun w' hJ => by obtain ⟨hB, H3⟩ := hJ; exact D.fieldAddr (o' := 1) fa78_1 rfl rfl rfl ⟨rfl, Ext.refl _⟩) ?_
 refine QT.do (v := .int .i64 a2.at_) rfl (by decide +kernel) rfl rfl rfl (fun w' hJ => by obtain ⟨hB, H3⟩ := hJ; exact D.load (j := 1) (v := .int .i64 a2.at_) sc3 H3.cs rfl rfl rfl rfl ⟨rfl, Ext.refl _⟩) ?_
 rcases (Classical.em (octet_U32.pre a2.s a2.at_)).symm with c9 | c9
 ·rw [if_neg c9] at h; cases h
 rw [if_pos c9] at h
 obtain ⟨r13, q14, h⟩ := lt_elim h
 refine QT.do (v := .tuple #[.int .u32 r13.1, .int .i64 r13.2.1, .int .i64 r13.2.2]) rfl (by decide +kernel) rfl rfl rfl (fun w' hJ => by obtain ⟨hB, H3⟩ := hJ; have hc := octet_U32.ok a2.s a2.at_ w' c9; rw [q14] at hc; refine D.callV (cap := []) (vs := [S a2.s, .int .i64 a2.at_]) cf43 hc rfl rfl rfl ?_; rintro _ w2 ⟨rfl, e2⟩; exact ⟨rfl, e2⟩) ?_
 refine QT.do (v := .tuple #[.int .u32 r13.1, .int .i64 r13.2.1, .int .i64 r13.2.2]) rfl (by decide +kernel) rfl rfl rfl (fun w' hJ => by obtain ⟨hB, H3⟩ := hJ; exact D.mv (v := .tuple #[.int .u32 r13.1, .int .i64 r13.2.1, .int .i64 r13.2.2]) rfl rfl ⟨rfl, Ext.refl _⟩) ?_
 refine QT.do (v := .int .u32 r13.1) rfl (by decide +kernel) rfl rfl rfl (fun w' hJ => by obtain ⟨hB, H3⟩ := hJ; exact D.extract (v := .int .u32 r13.1) rfl rfl rfl ⟨rfl, Ext.refl _⟩) ?_
 refine QT.do (v := .int .i64 r13.2.1) rfl (by decide +kernel) rfl rfl rfl (fun w' hJ => by obtain ⟨hB, H3⟩ := hJ; exact D.extract (v := .int .i64 r13.2.1) rfl rfl rfl ⟨rfl, Ext.refl _⟩) ?_
 refine QT.do (v := .int .i64 r13.2.2) rfl (by decide +kernel) rfl rfl rfl (fun w' hJ => by obtain ⟨hB, H3⟩ := hJ; exact D.extract (v := .int .i64 r13.2.2) rfl rfl rfl ⟨rfl, Ext.refl _⟩) ?_
 refine QT.do (v := .int .u32 r13.1) rfl (by decide +kernel) rfl rfl rfl (fun w' hJ => by obtain ⟨hB, H3⟩ := hJ; exact D.asn (v := .int .u32 r13.1) rfl rfl ⟨rfl, Ext.refl _⟩) ?_
 refine QT.do (v := .int .i64 r13.2.1) rfl (by decide +kernel) rfl rfl rfl (fun w' hJ => by obtain ⟨hB, H3⟩ := hJ; exact D.asn (v := .int .i64 r13.2.1) rfl rfl ⟨rfl, Ext.refl _⟩) ?_
 refine QT.do (v := .int .i64 r13.2.2) rfl (by decide +kernel) rfl rfl rfl (fun w' hJ => by obtain ⟨hB, H3⟩ := hJ; exact D.asn (v := .int .i64 r13.2.2) rfl rfl ⟨rfl, Ext.refl _⟩) ?_
 refine QT.nil fun w15 hC => ?_
 obtain ⟨hB, H3⟩ := hC
 refine hM8 _ _ ?_
 refine X.seq fun M16 hM17 => ?_
 refine X.region ?_
 refine XO.do rfl (D.mv (v := pt b1 0) rfl rfl ?_)
 refine XO.do rfl (D.mv (v := .int .i64 r13.2.1) rfl rfl ?_)
 refine XO.do rfl (D.nilCheck rfl rfl ?_)
 refine XO.do rfl (D.fieldAddr (o' := 1) fa78_1 rfl rfl rfl ?_)
 refine XO.do rfl (D.store (v := .int .i64 r13.2.1) (us := [S a2.s, .int .i64 r13.2.1, .bool a2.bad]) sz3 H3 rfl rfl rfl rfl rfl rfl ?_)
 intro w18 H19 e20
 replace hB := gm_blkP hB e20
 clear e20
 refine XO.nil ?_
 refine hM17 _ _ ?_
 refine X.cut (fun f31 w30 => ∃ x28 : Bool, f31 0 = pt b1 0 ∧ f31 5 = .int .u32 r13.1 ∧ GrM w w30 (MB b1) ∧ Blk w30 b1 [S a2.s, .int .i64 r13.2.1, .bool x28] 78 ∧ record_take_uint32.j1 r13 a2 x28 = some res) ?_ ?_
 ·refine X.region ?_
  refine XO.do rfl (D.mv (v := pt b1 0) rfl rfl ?_)
  refine XO.do rfl (D.mv (v := pt b1 0) rfl rfl ?_)
  refine XO.do rfl (D.nilCheck rfl rfl ?_)
  refine XO.do rfl (D.fieldAddr (o' := 2) fa78_2 rfl rfl rfl ?_)
  refine XO.do rfl (D.load (j := 2) (v := .bool a2.bad) sc4 H19.cs rfl rfl rfl rfl ?_)
  refine XO.do rfl (D.mv (v := .bool a2.bad) rfl rfl ?_)
  by_cases c36 : a2.bad = true
  ·rw [if_pos c36] at h
   refine XO.off (wantG0 (j := 5) (b := false) rfl (c36) rfl) rfl rfl ?_
   refine XO.off (wantG0 (j := 5) (b := false) rfl (c36) rfl) rfl rfl ?_
   refine XO.do rfl (D.pick true (v := .bool true) (congrArg Value.bool (c36)) rfl rfl ?_)
   refine XO.do rfl (D.nilCheck rfl rfl ?_)
   refine XO.do rfl (D.fieldAddr (o' := 2) fa78_2 rfl rfl rfl ?_)
   refine XO.do rfl (D.store (v := .bool true) (us := [S a2.s, .int .i64 r13.2.1, .bool true]) sz4 H19 rfl rfl rfl rfl rfl rfl ?_)
   intro w37 H38 e39
   replace hB := gm_blkP hB e39
   clear e39
   refine XO.nil ?_
   exact ⟨true, rfl, rfl, hB, H38, h⟩
  ·rw [if_neg c36] at h
   refine XO.do (wantG (j := 5) (b := false) rfl ((Bool.eq_false_iff.2 c36)) rfl) (D.mv (v := .int .i64 r13.2.2) rfl rfl ?_)
   refine XO.do (wantG (j := 5) (b := false) rfl ((Bool.eq_false_iff.2 c36)) rfl) (D.neq rfl rfl rfl ?_)
   refine XO.do rfl (D.pick false (v := .bool (r13.2.2 != 0)) (congrArg Value.bool ((Bool.eq_false_iff.2 c36))) rfl rfl ?_)
   refine XO.do rfl (D.nilCheck rfl rfl ?_)
   refine XO.do rfl (D.fieldAddr (o' := 2) fa78_2 rfl rfl rfl ?_)
   refine XO.do rfl (D.store (v := .bool (r13.2.2 != 0)) (us := [S a2.s, .int .i64 r13.2.1, .bool (r13.2.2 != 0)]) sz4 H19 rfl rfl rfl rfl rfl rfl ?_)
   intro w40 H41 e42
   replace hB := gm_blkP hB e42
   clear e42
   refine XO.nil ?_
   exact ⟨(r13.2.2 != 0), rfl, rfl, hB, H41, h⟩
 ·intro f31 w30 hI
  obtain ⟨x28, s32, s33, hB, H29, h⟩ := hI
  refine X.fr (d := 0) s32 ?_
  refine X.fr (d := 5) s33 ?_
  unfold record_take_uint32.j1 at h
  refine X.seq fun M34 hM35 => ?_
  refine X.region ?_
  refine XO.do rfl (D.mv (v := .int .u32 r13.1) rfl rfl ?_)
  refine XO.do rfl (D.asn (v := .int .u32 r13.1) rfl rfl ?_)
  refine XO.nil ?_
  refine hM35 _ _ ?_
  refine X.ret ?_
  injection h with h
  subst h
  exact hR _ _ _ (ret1 (v := .int .u32 r13.1) rfl rfl) ⟨rfl, H29, hB⟩
theorem record_take_uint32.ok (a2 : Rd) (b1 : Nat) (w : World) (H3 : Blk w b1 [S a2.s, .int .i64 a2.at_, .bool a2.bad] 78) (hp : record_take_uint32.pre a2) :
  Ret Try.prog 42 ([pt b1 0, .func (.func 43) #[] #[]] : List Value).toArray w fun v w' => v = .int .u32 ((record_take_uint32 a2).1) ∧ Blk w' b1 [S ((record_take_uint32 a2).2.s), .int .i64 ((record_take_uint32 a2).2.at_), .bool ((record_take_uint32 a2).2.bad)] 78 ∧ GrM w w' (MB b1) := by
 have h := record_take_uint32.eq a2 hp
 exact record_take_uint32.walk  a2 b1 w H3 _ h
end Go.Proofs.Ytfcaekghpkpjdaa.K

/- Walks, printed by a program of this session. -/
namespace Go.Proofs.Ytfcaekghpkpjdaa.K
open Go Go.RowKit Go.Proofs
set_option linter.unusedVariables false
set_option maxRecDepth 100000
set_option maxHeartbeats 4000000
namespace FEQ
theorem ti30 : TI Try.prog 30 (.agg #[S [], .int .u16 0, .int .u16 0]) 3 24 := by unfold TI; kernel_rfl
theorem ag30 : Agg Try.prog 30 3 := agg Try.underlying30 rfl ti30
theorem ti9 : TI Try.prog 9 (S []) 1 16 := by unfold TI; kernel_rfl
theorem ti22 : TI Try.prog 22 (.int .u16 0) 1 2 := by unfold TI; kernel_rfl
theorem bld30 : BuildIs Try.prog 30 #[(0, 1), (1, 1), (2, 1)] (Value.cells (.agg #[S [], .int .u16 0, .int .u16 0])) := buildIs Try.underlying30 ti30 (fun w => by simp [ti22.size, ti9.size])
theorem cf44 : Callable Try.prog 44 := callable Try.func44 (by kernel_rfl) rfl
theorem cf60 : Callable Try.prog 60 := callable Try.func60 (by kernel_rfl) rfl
theorem sz30 : ∀ w, (sizeOf 30).run Try.prog w = .ok 3 w := fun w => ti30.size w
end FEQ
open FEQ
theorem record_reader_question.walk (a2 : Rd) (b1 : Nat) (w : World) (H3 : Blk w b1 [S a2.s, .int .i64 a2.at_, .bool a2.bad] 78) (res : Question × Rd) (h : record_reader_question.f a2 = some res) :
  Ret Try.prog 41 ([pt b1 0] : List Value).toArray w fun v w' => v = .agg #[S res.1.name, .int .u16 res.1.ty, .int .u16 res.1.cls] ∧ Blk w' b1 [S res.2.s, .int .i64 res.2.at_, .bool res.2.bad] 78 ∧ GrM w w' (MB b1) := by
 unfold record_reader_question.f at h
 refine enterX Try.func41 rfl Try.ntmps41 rfl (fun R hR => ?_)
 have hB := GrM.refl w (MB b1)
 refine X.seq fun M5 hM6 => ?_
 refine X.region ?_
 refine XO.do rfl (D.alloc ti30 (cs := [S [], .int .u16 0, .int .u16 0]) rfl rfl ?_)
 intro b7 w8 hb9 H10 e11 _
 have lt_4_12 : ∀ x, MB b1 x → x < b7 := (MB.lt H3 (Nat.le_of_eq hb9.symm))
 have g12 : w.heap.size ≤ b7 := Nat.le_trans hB.size (Nat.le_of_eq hb9.symm)
 clear hb9
 replace hB := gm_ext hB e11
 replace H3 := H3.ext e11
 clear e11
 refine XO.nil ?_
 refine hM6 _ _ ?_
 refine X.seq fun M13 hM14 => ?_
 refine X.region ?_
 refine XO.do rfl (D.mv (v := pt b1 0) rfl rfl ?_)
 rcases (Classical.em (record_take_string.pre a2)).symm with c15 | c15
 ·rw [if_neg c15] at h; cases h
 rw [if_pos c15] at h
 obtain ⟨r19, q20, h⟩ := lt_elim h
 have hc18 := record_take_string.ok a2 b1 w8 H3 c15 
 rw [q20] at hc18
 clear q20
 refine XO.do rfl (D.call (vs := [pt b1 0, .func (.func 61) #[] #[]]) cf60 hc18 rfl rfl ?_)
 rintro _ w21 ⟨rfl, H22, e23⟩
 clear hc18
 replace hB := hB.step e23 (fun x hx => .inl hx)
 replace H10 := H10.gm e23 (sepM (ne_flip (ne_of lt_4_12 (MB.ge b7))))
 clear e23 H3
 refine XO.do rfl (D.asn (v := S r19.1) rfl rfl ?_)
 refine XO.nil ?_
 refine hM14 _ _ ?_
 refine X.seq fun M26 hM27 => ?_
 refine X.region ?_
 refine XO.do rfl (D.mv (v := pt b1 0) rfl rfl ?_)
 rcases (Classical.em (record_take_uint16.pre r19.2)).symm with c28 | c28
 ·rw [if_neg c28] at h; cases h
 rw [if_pos c28] at h
 obtain ⟨r32, q33, h⟩ := lt_elim h
 have hc31 := record_take_uint16.ok r19.2 b1 w21 H22 c28 
 rw [q33] at hc31
 clear q33
 refine XO.do rfl (D.call (vs := [pt b1 0, .func (.func 45) #[] #[]]) cf44 hc31 rfl rfl ?_)
 rintro _ w34 ⟨rfl, H35, e36⟩
 clear hc31
 replace hB := hB.step e36 (fun x hx => .inl hx)
 replace H10 := H10.gm e36 (sepM (ne_flip (ne_of lt_4_12 (MB.ge b7))))
 clear e36 H22
 refine XO.do rfl (D.asn (v := .int .u16 r32.1) rfl rfl ?_)
 refine XO.nil ?_
 refine hM27 _ _ ?_
 refine X.seq fun M39 hM40 => ?_
 refine X.region ?_
 refine XO.do rfl (D.mv (v := S r19.1) rfl rfl ?_)
 refine XO.do rfl (D.mv (v := .int .u16 r32.1) rfl rfl ?_)
 refine XO.do rfl (D.mv (v := pt b1 0) rfl rfl ?_)
 rcases (Classical.em (record_take_uint16.pre r32.2)).symm with c41 | c41
 ·rw [if_neg c41] at h; cases h
 rw [if_pos c41] at h
 obtain ⟨r45, q46, h⟩ := lt_elim h
 have hc44 := record_take_uint16.ok r32.2 b1 w34 H35 c41 
 rw [q46] at hc44
 clear q46
 refine XO.do rfl (D.call (vs := [pt b1 0, .func (.func 45) #[] #[]]) cf44 hc44 rfl rfl ?_)
 rintro _ w47 ⟨rfl, H48, e49⟩
 clear hc44
 replace hB := hB.step e49 (fun x hx => .inl hx)
 replace H10 := H10.gm e49 (sepM (ne_flip (ne_of lt_4_12 (MB.ge b7))))
 clear e49 H35
 refine XO.do rfl (D.build (vs := [(0, S r19.1), (1, .int .u16 r32.1), (2, .int .u16 r45.1)]) (cs := [S r19.1, .int .u16 r32.1, .int .u16 r45.1]) bld30 rfl rfl rfl ?_)
 refine XO.do rfl (D.store (v := .agg #[S r19.1, .int .u16 r32.1, .int .u16 r45.1]) (us := [S r19.1, .int .u16 r32.1, .int .u16 r45.1]) sz30 H10 rfl rfl rfl rfl rfl rfl ?_)
 intro w52 H53 e54
 replace hB := gm_blk hB e54 g12
 replace H48 := H48.gr e54 (sepB (ne_of lt_4_12 (MB.ge b7)))
 clear e54
 refine XO.nil ?_
 refine hM40 _ _ ?_
 refine X.ret ?_
 injection h with h
 subst h
 exact hR _ _ _ (retC ag30 H53 rfl rfl rfl) ⟨rfl, H48, hB⟩
theorem record_reader_question.ok (a2 : Rd) (b1 : Nat) (w : World) (H3 : Blk w b1 [S a2.s, .int .i64 a2.at_, .bool a2.bad] 78) (hp : record_reader_question.pre a2) :
  Ret Try.prog 41 ([pt b1 0] : List Value).toArray w fun v w' => v = .agg #[S ((record_reader_question a2).1.name), .int .u16 ((record_reader_question a2).1.ty), .int .u16 ((record_reader_question a2).1.cls)] ∧ Blk w' b1 [S ((record_reader_question a2).2.s), .int .i64 ((record_reader_question a2).2.at_), .bool ((record_reader_question a2).2.bad)] 78 ∧ GrM w w' (MB b1) := by
 have h := record_reader_question.eq a2 hp
 exact record_reader_question.walk  a2 b1 w H3 _ h
end Go.Proofs.Ytfcaekghpkpjdaa.K

/- Walks, printed by a program of this session. -/
namespace Go.Proofs.Ytfcaekghpkpjdaa.K
open Go Go.RowKit Go.Proofs
set_option linter.unusedVariables false
set_option maxRecDepth 100000
set_option maxHeartbeats 4000000
namespace FE3
theorem ti25 : TI Try.prog 25 (.agg #[S [], .int .u16 0, .int .u16 0, .int .u32 0, S []]) 5 40 := by unfold TI; kernel_rfl
theorem ag25 : Agg Try.prog 25 5 := agg Try.underlying25 rfl ti25
theorem ti30 : TI Try.prog 30 (.agg #[S [], .int .u16 0, .int .u16 0]) 3 24 := by unfold TI; kernel_rfl
theorem ag30 : Agg Try.prog 30 3 := agg Try.underlying30 rfl ti30
theorem ti9 : TI Try.prog 9 (S []) 1 16 := by unfold TI; kernel_rfl
theorem ti22 : TI Try.prog 22 (.int .u16 0) 1 2 := by unfold TI; kernel_rfl
theorem ti23 : TI Try.prog 23 (.int .u32 0) 1 4 := by unfold TI; kernel_rfl
theorem bld25 : BuildIs Try.prog 25 #[(0, 1), (1, 1), (2, 1), (3, 1), (4, 1)] (Value.cells (.agg #[S [], .int .u16 0, .int .u16 0, .int .u32 0, S []])) := buildIs Try.underlying25 ti25 (fun w => by simp [ti22.size, ti23.size, ti9.size])
theorem bld30 : BuildIs Try.prog 30 #[(0, 1), (1, 1), (2, 1)] (Value.cells (.agg #[S [], .int .u16 0, .int .u16 0])) := buildIs Try.underlying30 ti30 (fun w => by simp [ti22.size, ti9.size])
theorem ti78 : TI Try.prog 78 (.agg #[S [], .int .i64 0, .bool false]) 3 32 := by unfold TI; kernel_rfl
theorem ti3 : TI Try.prog 3 (.int .i64 0) 1 8 := by unfold TI; kernel_rfl
theorem ti4 : TI Try.prog 4 (.bool false) 1 1 := by unfold TI; kernel_rfl
theorem bld78 : BuildIs Try.prog 78 #[(0, 1), (1, 1), (2, 1)] (Value.cells (.agg #[S [], .int .i64 0, .bool false])) := buildIs Try.underlying78 ti78 (fun w => by simp [ti3.size, ti4.size, ti9.size])
theorem cf41 : Callable Try.prog 41 := callable Try.func41 (by kernel_rfl) rfl
theorem cf42 : Callable Try.prog 42 := callable Try.func42 (by kernel_rfl) rfl
theorem cf44 : Callable Try.prog 44 := callable Try.func44 (by kernel_rfl) rfl
theorem cf46 : Callable Try.prog 46 := callable Try.func46 (by kernel_rfl) rfl
theorem fa30_0 : FA Try.prog 30 0 0 := fa Try.underlying30 rfl ti9 rfl rfl
theorem fa30_1 : FA Try.prog 30 1 1 := fa Try.underlying30 rfl ti22 rfl rfl
theorem fa30_2 : FA Try.prog 30 2 2 := fa Try.underlying30 rfl ti22 rfl rfl
theorem fa78_1 : FA Try.prog 78 1 1 := fa Try.underlying78 rfl ti3 rfl rfl
theorem fa78_2 : FA Try.prog 78 2 2 := fa Try.underlying78 rfl ti4 rfl rfl
theorem mixed0 : Try.prog.follows .mixedOrders = true := by kernel_rfl
theorem sc22 : Sca Try.prog 22 := sca Try.underlying22 rfl
theorem sc3 : Sca Try.prog 3 := sca Try.underlying3 rfl
theorem sc4 : Sca Try.prog 4 := sca Try.underlying4 rfl
theorem sc9 : Sca Try.prog 9 := sca Try.underlying9 rfl
theorem sz25 : ∀ w, (sizeOf 25).run Try.prog w = .ok 5 w := fun w => ti25.size w
theorem sz30 : ∀ w, (sizeOf 30).run Try.prog w = .ok 3 w := fun w => ti30.size w
end FE3
open FE3
theorem record_TakeQ.walk (a1 : Str) (a2 : Int)  (w : World)  (res : Question × Int × Int) (h : record_TakeQ.f a1 a2 = some res) :
  Ret Try.prog 20 ([S a1, .int .i64 a2] : List Value).toArray w fun v w' => v = .tuple #[.agg #[S res.1.name, .int .u16 res.1.ty, .int .u16 res.1.cls], .int .i64 res.2.1, .int .i64 res.2.2] ∧ Ext w w' := by
 unfold record_TakeQ.f at h
 refine enterX Try.func20 rfl Try.ntmps20 rfl (fun R hR => ?_)
 have hB := Below.refl w.heap.size w
 refine X.seq fun M3 hM4 => ?_
 refine X.region ?_
 refine XO.do rfl (D.alloc ti30 (cs := [S [], .int .u16 0, .int .u16 0]) rfl rfl ?_)
 intro b5 w6 hb7 H8 e9 _
 have g10 : w.heap.size ≤ b5 := Nat.le_trans hB.size (Nat.le_of_eq hb7.symm)
 clear hb7
 replace hB := below_ext hB e9
 clear e9
 refine XO.do rfl (D.asn (v := .int .i64 0) rfl rfl ?_)
 refine XO.do rfl (D.asn (v := .int .i64 0) rfl rfl ?_)
 refine XO.nil ?_
 refine hM4 _ _ ?_
 refine X.seq fun M11 hM12 => ?_
 refine X.region ?_
 refine XO.do rfl (D.mv (v := S a1) rfl rfl ?_)
 refine XO.do rfl (D.mv (v := .int .i64 a2) rfl rfl ?_)
 refine XO.do rfl (D.build (vs := [(0, S a1), (1, .int .i64 a2)]) (cs := [S a1, .int .i64 a2, .bool false]) bld78 rfl rfl rfl ?_)
 refine XO.do rfl (D.box (v := .agg #[S a1, .int .i64 a2, .bool false]) (cs := [S a1, .int .i64 a2, .bool false]) rfl rfl rfl ?_)
 intro b13 w14 hb15 H16 e17 _
 have lt_10_18 : ∀ x, MB b5 x → x < b13 := (MB.lt H8 (Nat.le_of_eq hb15.symm))
 have g18 : w.heap.size ≤ b13 := Nat.le_trans hB.size (Nat.le_of_eq hb15.symm)
 clear hb15
 replace hB := below_ext hB e17
 replace H8 := H8.ext e17
 clear e17
 refine XO.do rfl (D.asn (v := pt b13 0) rfl rfl ?_)
 refine XO.nil ?_
 refine hM12 _ _ ?_
 refine X.seq fun M19 hM20 => ?_
 refine X.region ?_
 refine XO.do rfl (D.mv (v := pt b13 0) rfl rfl ?_)
 rcases (Classical.em (record_reader_question.pre (⟨a1, a2, false⟩ : Rd))).symm with c21 | c21
 ·rw [if_neg c21] at h; cases h
 rw [if_pos c21] at h
 obtain ⟨r25, q26, h⟩ := lt_elim h
 have hc24 := record_reader_question.ok (⟨a1, a2, false⟩ : Rd) b13 w14 H16 c21 
 rw [q26] at hc24
 clear q26
 refine XO.do rfl (D.call (vs := [pt b13 0]) cf41 hc24 rfl rfl ?_)
 rintro _ w27 ⟨rfl, H28, e29⟩
 clear hc24
 replace hB := below_gm hB e29 (ge_blk g18)
 replace H8 := H8.gm e29 (sepM (ne_of lt_10_18 (MB.ge b13)))
 clear e29 H16
 refine XO.do rfl (D.alloc ti30 (cs := [S [], .int .u16 0, .int .u16 0]) rfl rfl ?_)
 intro b32 w33 hb34 H35 e36 _
 have lt_10_37 : ∀ x, MB b5 x → x < b32 := (MB.lt H8 (Nat.le_of_eq hb34.symm))
 have lt_18_37 : ∀ x, MB b13 x → x < b32 := (MB.lt H28 (Nat.le_of_eq hb34.symm))
 have g37 : w.heap.size ≤ b32 := Nat.le_trans hB.size (Nat.le_of_eq hb34.symm)
 clear hb34
 replace hB := below_ext hB e36
 replace H8 := H8.ext e36
 replace H28 := H28.ext e36
 clear e36
 refine XO.do rfl (D.store (v := .agg #[S r25.1.name, .int .u16 r25.1.ty, .int .u16 r25.1.cls]) (us := [S r25.1.name, .int .u16 r25.1.ty, .int .u16 r25.1.cls]) sz30 H35 rfl rfl rfl rfl rfl rfl ?_)
 intro w38 H39 e40
 replace hB := below_blk hB e40 g37
 replace H8 := H8.gr e40 (sepB (ne_of lt_10_37 (MB.ge b32)))
 replace H28 := H28.gr e40 (sepB (ne_of lt_18_37 (MB.ge b32)))
 clear e40
 refine XO.nil ?_
 refine hM20 _ _ ?_
 refine X.seq fun M49 hM50 => ?_
 refine X.seq fun M51 hM52 => ?_
 refine X.region ?_
 refine XO.do rfl (D.mv (v := pt b13 0) rfl rfl ?_)
 refine XO.do rfl (D.nilCheck rfl rfl ?_)
 refine XO.do rfl (D.fieldAddr (o' := 2) fa78_2 rfl rfl rfl ?_)
 refine XO.do rfl (D.load (j := 2) (v := .bool r25.2.bad) sc4 H28.cs rfl rfl rfl rfl ?_)
 refine XO.nil ?_
 refine hM52 _ _ ?_
 by_cases c53 : r25.2.bad = true
 ·rw [if_pos c53] at h
  refine X.condT (congrArg Value.bool (c53)) ?_
  refine X.seq fun M54 hM55 => ?_
  refine X.region ?_
  refine XO.do rfl (D.build (vs := []) (cs := [S [], .int .u16 0, .int .u16 0]) bld30 rfl rfl rfl ?_)
  refine XO.do rfl (D.store (v := .agg #[S [], .int .u16 0, .int .u16 0]) (us := [S [], .int .u16 0, .int .u16 0]) sz30 H8 rfl rfl rfl rfl rfl rfl ?_)
  intro w56 H57 e58
  replace hB := below_blk hB e58 g10
  replace H28 := H28.gr e58 (sepB (ne_flip (ne_of lt_10_18 (MB.ge b13))))
  replace H39 := H39.gr e58 (sepB (ne_flip (ne_of lt_10_37 (MB.ge b32))))
  clear e58
  refine XO.do rfl (D.asn (v := .int .i64 0) rfl rfl ?_)
  refine XO.do rfl (D.asn (v := .int .i64 2) rfl rfl ?_)
  refine XO.nil ?_
  refine hM55 _ _ ?_
  refine X.ret ?_
  injection h with h
  subst h
  exact hR _ _ _ (retCTT ag30 H57 rfl rfl rfl rfl rfl) ⟨rfl, ext_of_below hB⟩
 ·rw [if_neg c53] at h
  refine X.condF (congrArg Value.bool ((Bool.eq_false_iff.2 c53))) ?_
  refine X.skip ?_
  refine hM50 _ _ ?_
  refine X.seq fun M59 hM60 => ?_
  refine X.tree mixed0 [0, 0, 2, 6, 14, 1, 63, 127] (.q 0 (.q 1 (.q 2 (.q 3 (.q 4 (.alt 5 (.q 6 (.q 7 .nil)) .nil)))))) (fun w' => Below w.heap.size w w' ∧ Blk w' b13 [S r25.2.s, .int .i64 r25.2.at_, .bool r25.2.bad] 78 ∧ Blk w' b32 [S r25.1.name, .int .u16 r25.1.ty, .int .u16 r25.1.cls] 30) (fun w' => Below w.heap.size w w' ∧ Blk w' b5 [S [], .int .u16 0, .int .u16 0] 30 ∧ Blk w' b13 [S r25.2.s, .int .i64 r25.2.at_, .bool r25.2.bad] 78 ∧ Blk w' b32 [S r25.1.name, .int .u16 r25.1.ty, .int .u16 r25.1.cls] 30) (by decide +kernel) (fun w' hx _ => ⟨below_ext hB hx, H8.ext hx, H28.ext hx, H39.ext hx⟩) (fun a b hC hx => by obtain ⟨hB, H8, H28, H39⟩ := hC; exact ⟨below_ext hB hx, H8.ext hx, H28.ext hx, H39.ext hx⟩) (fun a hC => by obtain ⟨hB, H8, H28, H39⟩ := hC; exact ⟨hB, H28, H39⟩) ?_
  refine QT.do (v := .agg #[S r25.1.name, .int .u16 r25.1.ty, .int .u16 r25.1.cls]) rfl (by decide +kernel) rfl rfl rfl (fun w' hJ => by obtain ⟨hB, H8, H28, H39⟩ := hJ; exact D.loadA (j := 0) (us := [S r25.1.name, .int .u16 r25.1.ty, .int .u16 r25.1.cls]) ag30 H39.cs rfl rfl rfl rfl rfl ⟨rfl, Ext.refl _⟩) ?_
  refine QT.late (v := pt b13 0) rfl rfl rfl rfl (fun w' hJ => by obtain ⟨hB, H28, H39⟩ := hJ; exact D.mv (v := pt b13 0) rfl rfl ⟨rfl, Ext.refl _⟩) ?_
  refine QT.late (v := pt b13 0) rfl rfl rfl rfl (fun w' hJ => by obtain ⟨hB, H28, H39⟩ := hJ; exact D.nilCheck rfl rfl ⟨rfl, Ext.refl _⟩) ?_
  refine QT.late (v := pt b13 1) rfl rfl rfl rfl (fun w' hJ => by obtain ⟨hB, H28, H39⟩ := hJ; exact D.fieldAddr (o' := 1) fa78_1 rfl rfl rfl ⟨rfl, Ext.refl _⟩) ?_
  refine QT.late (v := .int .i64 r25.2.at_) rfl rfl rfl rfl (fun w' hJ => by obtain ⟨hB, H28, H39⟩ := hJ; exact D.load (j := 1) (v := .int .i64 r25.2.at_) sc3 H28.cs rfl rfl rfl rfl ⟨rfl, Ext.refl _⟩) ?_
  refine QT.eff rfl rfl (fun w65 hC => ?_) QT.nomore
  obtain ⟨hB, H8, H28, H39⟩ := hC
  refine D.store (v := .agg #[S r25.1.name, .int .u16 r25.1.ty, .int .u16 r25.1.cls]) (us := [S r25.1.name, .int .u16 r25.1.ty, .int .u16 r25.1.cls]) sz30 H8 rfl rfl rfl rfl rfl rfl ?_
  intro w66 H67 e68
  replace hB := below_blk hB e68 g10
  replace H28 := H28.gr e68 (sepB (ne_flip (ne_of lt_10_18 (MB.ge b13))))
  replace H39 := H39.gr e68 (sepB (ne_flip (ne_of lt_10_37 (MB.ge b32))))
  clear e68
  refine ⟨undef, rfl, (fun w' => Below w.heap.size w w' ∧ Blk w' b5 [S r25.1.name, .int .u16 r25.1.ty, .int .u16 r25.1.cls] 30 ∧ Blk w' b13 [S r25.2.s, .int .i64 r25.2.at_, .bool r25.2.bad] 78 ∧ Blk w' b32 [S r25.1.name, .int .u16 r25.1.ty, .int .u16 r25.1.cls] 30), ⟨hB, H67, H28, H39⟩, (fun a b hC hx => by obtain ⟨hB, H67, H28, H39⟩ := hC; exact ⟨below_ext hB hx, H67.ext hx, H28.ext hx, H39.ext hx⟩), (fun a hC => by obtain ⟨hB, H67, H28, H39⟩ := hC; exact ⟨hB, H28, H39⟩), ?_⟩
  refine QT.do (v := .int .i64 r25.2.at_) rfl (by decide +kernel) rfl rfl rfl (fun w' hJ => by obtain ⟨hB, H67, H28, H39⟩ := hJ; exact D.asn (v := .int .i64 r25.2.at_) rfl rfl ⟨rfl, Ext.refl _⟩) ?_
  refine QT.do (v := .int .i64 0) rfl (by decide +kernel) rfl rfl rfl (fun w' hJ => by obtain ⟨hB, H67, H28, H39⟩ := hJ; exact D.asn (v := .int .i64 0) rfl rfl ⟨rfl, Ext.refl _⟩) ?_
  refine QT.nil fun w69 hC => ?_
  obtain ⟨hB, H67, H28, H39⟩ := hC
  refine hM60 _ _ ?_
  refine X.ret ?_
  injection h with h
  subst h
  exact hR _ _ _ (retCTT ag30 H67 rfl rfl rfl rfl rfl) ⟨rfl, ext_of_below hB⟩
theorem record_TakeQ.ok (a1 : Str) (a2 : Int)  (w : World)  (hp : record_TakeQ.pre a1 a2) :
  Ret Try.prog 20 ([S a1, .int .i64 a2] : List Value).toArray w fun v w' => v = .tuple #[.agg #[S ((record_TakeQ a1 a2).1.name), .int .u16 ((record_TakeQ a1 a2).1.ty), .int .u16 ((record_TakeQ a1 a2).1.cls)], .int .i64 ((record_TakeQ a1 a2).2.1), .int .i64 ((record_TakeQ a1 a2).2.2)] ∧ Ext w w' := by
 have h := record_TakeQ.eq a1 a2 hp
 exact record_TakeQ.walk  a1 a2  w  _ h
theorem record_Take.walk (a1 : Str) (a2 : Int)  (w : World)  (res : RR × Int × Int) (h : record_Take.f a1 a2 = some res) :
  Ret Try.prog 18 ([S a1, .int .i64 a2] : List Value).toArray w fun v w' => v = .tuple #[.agg #[S res.1.name, .int .u16 res.1.ty, .int .u16 res.1.cls, .int .u32 res.1.ttl, S res.1.data], .int .i64 res.2.1, .int .i64 res.2.2] ∧ Ext w w' := by
 unfold record_Take.f at h
 refine enterX Try.func18 rfl Try.ntmps18 rfl (fun R hR => ?_)
 have hB := Below.refl w.heap.size w
 refine X.seq fun M3 hM4 => ?_
 refine X.region ?_
 refine XO.do rfl (D.alloc ti25 (cs := [S [], .int .u16 0, .int .u16 0, .int .u32 0, S []]) rfl rfl ?_)
 intro b5 w6 hb7 H8 e9 _
 have g10 : w.heap.size ≤ b5 := Nat.le_trans hB.size (Nat.le_of_eq hb7.symm)
 clear hb7
 replace hB := below_ext hB e9
 clear e9
 refine XO.do rfl (D.asn (v := .int .i64 0) rfl rfl ?_)
 refine XO.do rfl (D.asn (v := .int .i64 0) rfl rfl ?_)
 refine XO.nil ?_
 refine hM4 _ _ ?_
 refine X.seq fun M11 hM12 => ?_
 refine X.region ?_
 refine XO.do rfl (D.mv (v := S a1) rfl rfl ?_)
 refine XO.do rfl (D.mv (v := .int .i64 a2) rfl rfl ?_)
 refine XO.do rfl (D.build (vs := [(0, S a1), (1, .int .i64 a2)]) (cs := [S a1, .int .i64 a2, .bool false]) bld78 rfl rfl rfl ?_)
 refine XO.do rfl (D.box (v := .agg #[S a1, .int .i64 a2, .bool false]) (cs := [S a1, .int .i64 a2, .bool false]) rfl rfl rfl ?_)
 intro b13 w14 hb15 H16 e17 _
 have lt_10_18 : ∀ x, MB b5 x → x < b13 := (MB.lt H8 (Nat.le_of_eq hb15.symm))
 have g18 : w.heap.size ≤ b13 := Nat.le_trans hB.size (Nat.le_of_eq hb15.symm)
 clear hb15
 replace hB := below_ext hB e17
 replace H8 := H8.ext e17
 clear e17
 refine XO.do rfl (D.asn (v := pt b13 0) rfl rfl ?_)
 refine XO.nil ?_
 refine hM12 _ _ ?_
 refine X.seq fun M19 hM20 => ?_
 refine X.region ?_
 refine XO.do rfl (D.mv (v := pt b13 0) rfl rfl ?_)
 rcases (Classical.em (record_reader_question.pre (⟨a1, a2, false⟩ : Rd))).symm with c21 | c21
 ·rw [if_neg c21] at h; cases h
 rw [if_pos c21] at h
 obtain ⟨r25, q26, h⟩ := lt_elim h
 have hc24 := record_reader_question.ok (⟨a1, a2, false⟩ : Rd) b13 w14 H16 c21 
 rw [q26] at hc24
 clear q26
 refine XO.do rfl (D.call (vs := [pt b13 0]) cf41 hc24 rfl rfl ?_)
 rintro _ w27 ⟨rfl, H28, e29⟩
 clear hc24
 replace hB := below_gm hB e29 (ge_blk g18)
 replace H8 := H8.gm e29 (sepM (ne_of lt_10_18 (MB.ge b13)))
 clear e29 H16
 refine XO.do rfl (D.alloc ti30 (cs := [S [], .int .u16 0, .int .u16 0]) rfl rfl ?_)
 intro b32 w33 hb34 H35 e36 _
 have lt_10_37 : ∀ x, MB b5 x → x < b32 := (MB.lt H8 (Nat.le_of_eq hb34.symm))
 have lt_18_37 : ∀ x, MB b13 x → x < b32 := (MB.lt H28 (Nat.le_of_eq hb34.symm))
 have g37 : w.heap.size ≤ b32 := Nat.le_trans hB.size (Nat.le_of_eq hb34.symm)
 clear hb34
 replace hB := below_ext hB e36
 replace H8 := H8.ext e36
 replace H28 := H28.ext e36
 clear e36
 refine XO.do rfl (D.store (v := .agg #[S r25.1.name, .int .u16 r25.1.ty, .int .u16 r25.1.cls]) (us := [S r25.1.name, .int .u16 r25.1.ty, .int .u16 r25.1.cls]) sz30 H35 rfl rfl rfl rfl rfl rfl ?_)
 intro w38 H39 e40
 replace hB := below_blk hB e40 g37
 replace H8 := H8.gr e40 (sepB (ne_of lt_10_37 (MB.ge b32)))
 replace H28 := H28.gr e40 (sepB (ne_of lt_18_37 (MB.ge b32)))
 clear e40
 refine XO.nil ?_
 refine hM20 _ _ ?_
 refine X.seq fun M41 hM42 => ?_
 refine X.region ?_
 refine XO.do rfl (D.mv (v := pt b13 0) rfl rfl ?_)
 rcases (Classical.em (record_take_uint32.pre r25.2)).symm with c43 | c43
 ·rw [if_neg c43] at h; cases h
 rw [if_pos c43] at h
 obtain ⟨r47, q48, h⟩ := lt_elim h
 have hc46 := record_take_uint32.ok r25.2 b13 w38 H28 c43 
 rw [q48] at hc46
 clear q48
 refine XO.do rfl (D.call (vs := [pt b13 0, .func (.func 43) #[] #[]]) cf42 hc46 rfl rfl ?_)
 rintro _ w49 ⟨rfl, H50, e51⟩
 clear hc46
 replace hB := below_gm hB e51 (ge_blk g18)
 replace H8 := H8.gm e51 (sepM (ne_of lt_10_18 (MB.ge b13)))
 replace H39 := H39.gm e51 (sepM (ne_flip (ne_of lt_18_37 (MB.ge b32))))
 clear e51 H28
 refine XO.do rfl (D.asn (v := .int .u32 r47.1) rfl rfl ?_)
 refine XO.nil ?_
 refine hM42 _ _ ?_
 refine X.seq fun M54 hM55 => ?_
 refine X.region ?_
 refine XO.do rfl (D.mv (v := pt b13 0) rfl rfl ?_)
 rcases (Classical.em (record_take_uint16.pre r47.2)).symm with c56 | c56
 ·rw [if_neg c56] at h; cases h
 rw [if_pos c56] at h
 obtain ⟨r60, q61, h⟩ := lt_elim h
 have hc59 := record_take_uint16.ok r47.2 b13 w49 H50 c56 
 rw [q61] at hc59
 clear q61
 refine XO.do rfl (D.call (vs := [pt b13 0, .func (.func 45) #[] #[]]) cf44 hc59 rfl rfl ?_)
 rintro _ w62 ⟨rfl, H63, e64⟩
 clear hc59
 replace hB := below_gm hB e64 (ge_blk g18)
 replace H8 := H8.gm e64 (sepM (ne_of lt_10_18 (MB.ge b13)))
 replace H39 := H39.gm e64 (sepM (ne_flip (ne_of lt_18_37 (MB.ge b32))))
 clear e64 H50
 refine XO.do rfl (D.conv Try.underlying22 Try.underlying3 rfl rfl ?_)
 refine XO.do rfl (D.asn (v := .int .i64 (w64 r60.1)) rfl rfl ?_)
 refine XO.nil ?_
 refine hM55 _ _ ?_
 refine X.seq fun M75 hM76 => ?_
 refine X.seq fun M77 hM78 => ?_
 refine X.region ?_
 refine XO.do rfl (D.mv (v := pt b13 0) rfl rfl ?_)
 refine XO.do rfl (D.nilCheck rfl rfl ?_)
 refine XO.do rfl (D.fieldAddr (o' := 2) fa78_2 rfl rfl rfl ?_)
 refine XO.do rfl (D.load (j := 2) (v := .bool r60.2.bad) sc4 H63.cs rfl rfl rfl rfl ?_)
 refine XO.nil ?_
 refine hM78 _ _ ?_
 by_cases c79 : r60.2.bad = true
 ·rw [if_pos c79] at h
  refine X.condT (congrArg Value.bool (c79)) ?_
  refine X.seq fun M80 hM81 => ?_
  refine X.region ?_
  refine XO.do rfl (D.build (vs := []) (cs := [S [], .int .u16 0, .int .u16 0, .int .u32 0, S []]) bld25 rfl rfl rfl ?_)
  refine XO.do rfl (D.store (v := .agg #[S [], .int .u16 0, .int .u16 0, .int .u32 0, S []]) (us := [S [], .int .u16 0, .int .u16 0, .int .u32 0, S []]) sz25 H8 rfl rfl rfl rfl rfl rfl ?_)
  intro w82 H83 e84
  replace hB := below_blk hB e84 g10
  replace H63 := H63.gr e84 (sepB (ne_flip (ne_of lt_10_18 (MB.ge b13))))
  replace H39 := H39.gr e84 (sepB (ne_flip (ne_of lt_10_37 (MB.ge b32))))
  clear e84
  refine XO.do rfl (D.asn (v := .int .i64 0) rfl rfl ?_)
  refine XO.do rfl (D.asn (v := .int .i64 2) rfl rfl ?_)
  refine XO.nil ?_
  refine hM81 _ _ ?_
  refine X.ret ?_
  injection h with h
  subst h
  exact hR _ _ _ (retCTT ag25 H83 rfl rfl rfl rfl rfl) ⟨rfl, ext_of_below hB⟩
 ·rw [if_neg c79] at h
  refine X.condF (congrArg Value.bool ((Bool.eq_false_iff.2 c79))) ?_
  refine X.skip ?_
  refine hM76 _ _ ?_
  refine X.seq fun M85 hM86 => ?_
  refine X.tree mixed0 [0, 0, 2, 6, 14, 0, 0, 64, 255, 511, 1023, 1023, 2047, 8191] (.q 0 (.q 1 (.q 2 (.q 3 (.q 4 (.q 5 (.q 6 (.q 7 (.q 8 (.q 9 (.q 10 (.q 11 (.q 12 (.q 13 .nil)))))))))))))) (fun w' => Below w.heap.size w w' ∧ Blk w' b5 [S [], .int .u16 0, .int .u16 0, .int .u32 0, S []] 25 ∧ Blk w' b13 [S r60.2.s, .int .i64 r60.2.at_, .bool r60.2.bad] 78 ∧ Blk w' b32 [S r25.1.name, .int .u16 r25.1.ty, .int .u16 r25.1.cls] 30) (fun w' => Below w.heap.size w w' ∧ Blk w' b5 [S [], .int .u16 0, .int .u16 0, .int .u32 0, S []] 25 ∧ Blk w' b13 [S r60.2.s, .int .i64 r60.2.at_, .bool r60.2.bad] 78 ∧ Blk w' b32 [S r25.1.name, .int .u16 r25.1.ty, .int .u16 r25.1.cls] 30) (by decide +kernel) (fun w' hx _ => ⟨below_ext hB hx, H8.ext hx, H63.ext hx, H39.ext hx⟩) (fun a b hC hx => by obtain ⟨hB, H8, H63, H39⟩ := hC; exact ⟨below_ext hB hx, H8.ext hx, H63.ext hx, H39.ext hx⟩) (fun a hC => by obtain ⟨hB, H8, H63, H39⟩ := hC; exact ⟨hB, H8, H63, H39⟩) ?_
  refine QT.do (v := S a1) rfl (by decide +kernel) rfl rfl rfl (fun w' hJ => by obtain ⟨hB, H8, H63, H39⟩ := hJ; exact D.mv (v := S a1) rfl rfl ⟨rfl, Ext.refl _⟩) ?_
  refine QT.do (v := pt b13 0) rfl (by decide +kernel) rfl rfl rfl (fun w' hJ => by obtain ⟨hB, H8, H63, H39⟩ := hJ; exact D.mv (v := pt b13 0) rfl rfl ⟨rfl, Ext.refl _⟩) ?_
  refine QT.do (v := pt b13 0) rfl (by decide +kernel) rfl rfl rfl (fun w' hJ => by obtain ⟨hB, H8, H63, H39⟩ := hJ; exact D.nilCheck rfl rfl ⟨rfl, Ext.refl _⟩) ?_
  refine QT.do (v := pt b13 1) rfl (by decide +kernel) rfl rfl rfl (fun w' hJ => by obtain ⟨hB, H8, H63, H39⟩ := hJ; exact D.fieldAddr (o' := 1) fa78_1 rfl rfl rfl ⟨rfl, Ext.refl _⟩) ?_
  refine QT.do (v := .int .i64 r60.2.at_) rfl (by decide +kernel) rfl rfl rfl (fun w' hJ => by obtain ⟨hB, H8, H63, H39⟩ := hJ; exact D.load (j := 1) (v := .int .i64 r60.2.at_) sc3 H63.cs rfl rfl rfl rfl ⟨rfl, Ext.refl _⟩) ?_
  refine QT.do (v := .int .i64 (w64 r60.1)) rfl (by decide +kernel) rfl rfl rfl (fun w' hJ => by obtain ⟨hB, H8, H63, H39⟩ := hJ; exact D.mv (v := .int .i64 (w64 r60.1)) rfl rfl ⟨rfl, Ext.refl _⟩) ?_
  refine QT.do (v := pt b32 1) rfl (by decide +kernel) rfl rfl rfl (fun w' hJ => by obtain ⟨hB, H8, H63, H39⟩ := hJ; exact D.fieldAddr (o' := 1) fa30_1 rfl rfl rfl ⟨rfl, Ext.refl _⟩) ?_
  refine QT.do (v := .int .u16 r25.1.ty) rfl (by decide +kernel) rfl rfl rfl (fun w' hJ => by obtain ⟨hB, H8, H63, H39⟩ := hJ; exact D.load (j := 1) (v := .int .u16 r25.1.ty) sc22 H39.cs rfl rfl rfl rfl ⟨rfl, Ext.refl _⟩) ?_
  rcases (Classical.em (rdata_Take.pre a1 r60.2.at_ (w64 r60.1) r25.1.ty)).symm with c87 | c87
  ·rw [if_neg c87] at h; cases h
  rw [if_pos c87] at h
  obtain ⟨r91, q92, h⟩ := lt_elim h
  refine QT.do (v := .tuple #[S r91.1, .int .i64 r91.2]) rfl (by decide +kernel) rfl rfl rfl (fun w' hJ => by obtain ⟨hB, H8, H63, H39⟩ := hJ; have hc := rdata_Take.ok a1 r60.2.at_ (w64 r60.1) r25.1.ty w' c87; rw [q92] at hc; refine D.call (vs := [S a1, .int .i64 r60.2.at_, .int .i64 (w64 r60.1), .int .u16 r25.1.ty]) cf46 hc rfl rfl ?_; rintro _ w2 ⟨rfl, e2⟩; exact ⟨rfl, e2⟩) ?_
  refine QT.do (v := .tuple #[S r91.1, .int .i64 r91.2]) rfl (by decide +kernel) rfl rfl rfl (fun w' hJ => by obtain ⟨hB, H8, H63, H39⟩ := hJ; exact D.mv (v := .tuple #[S r91.1, .int .i64 r91.2]) rfl rfl ⟨rfl, Ext.refl _⟩) ?_
  refine QT.do (v := S r91.1) rfl (by decide +kernel) rfl rfl rfl (fun w' hJ => by obtain ⟨hB, H8, H63, H39⟩ := hJ; exact D.extract (v := S r91.1) rfl rfl rfl ⟨rfl, Ext.refl _⟩) ?_
  refine QT.do (v := .int .i64 r91.2) rfl (by decide +kernel) rfl rfl rfl (fun w' hJ => by obtain ⟨hB, H8, H63, H39⟩ := hJ; exact D.extract (v := .int .i64 r91.2) rfl rfl rfl ⟨rfl, Ext.refl _⟩) ?_
  refine QT.do (v := S r91.1) rfl (by decide +kernel) rfl rfl rfl (fun w' hJ => by obtain ⟨hB, H8, H63, H39⟩ := hJ; exact D.asn (v := S r91.1) rfl rfl ⟨rfl, Ext.refl _⟩) ?_
  refine QT.do (v := .int .i64 r91.2) rfl (by decide +kernel) rfl rfl rfl (fun w' hJ => by obtain ⟨hB, H8, H63, H39⟩ := hJ; exact D.asn (v := .int .i64 r91.2) rfl rfl ⟨rfl, Ext.refl _⟩) ?_
  refine QT.nil fun w93 hC => ?_
  obtain ⟨hB, H8, H63, H39⟩ := hC
  refine hM86 _ _ ?_
  refine X.seq fun M102 hM103 => ?_
  refine X.seq fun M104 hM105 => ?_
  refine X.region ?_
  refine XO.do rfl (D.mv (v := .int .i64 r91.2) rfl rfl ?_)
  refine XO.do rfl (D.neq rfl rfl rfl ?_)
  refine XO.nil ?_
  refine hM105 _ _ ?_
  by_cases c106 : r91.2 = 0
  ·rw [if_pos c106] at h
   refine X.condF (congrArg Value.bool ((congrArg (!·) (beq_iff_eq.2 c106)))) ?_
   refine X.skip ?_
   refine hM103 _ _ ?_
   refine X.seq fun M107 hM108 => ?_
   refine X.tree mixed0 [0, 1, 0, 4, 0, 16, 0, 0, 255, 0, 512, 1536, 3584, 0, 15872, 511, 65535, 131071] (.q 0 (.q 1 (.q 2 (.q 3 (.q 4 (.q 5 (.q 6 (.q 7 (.q 8 (.q 9 (.q 10 (.q 11 (.q 12 (.q 13 (.q 14 (.alt 15 (.q 16 (.q 17 .nil)) .nil)))))))))))))))) (fun w' => Below w.heap.size w w' ∧ Blk w' b13 [S r60.2.s, .int .i64 r60.2.at_, .bool r60.2.bad] 78 ∧ Blk w' b32 [S r25.1.name, .int .u16 r25.1.ty, .int .u16 r25.1.cls] 30) (fun w' => Below w.heap.size w w' ∧ Blk w' b5 [S [], .int .u16 0, .int .u16 0, .int .u32 0, S []] 25 ∧ Blk w' b13 [S r60.2.s, .int .i64 r60.2.at_, .bool r60.2.bad] 78 ∧ Blk w' b32 [S r25.1.name, .int .u16 r25.1.ty, .int .u16 r25.1.cls] 30) (by decide +kernel) (fun w' hx _ => ⟨below_ext hB hx, H8.ext hx, H63.ext hx, H39.ext hx⟩) (fun a b hC hx => by obtain ⟨hB, H8, H63, H39⟩ := hC; exact ⟨below_ext hB hx, H8.ext hx, H63.ext hx, H39.ext hx⟩) (fun a hC => by obtain ⟨hB, H8, H63, H39⟩ := hC; exact ⟨hB, H63, H39⟩) ?_
   refine QT.do (v := pt b32 0) rfl (by decide +kernel) rfl rfl rfl (fun w' hJ => by obtain ⟨hB, H8, H63, H39⟩ := hJ; exact D.fieldAddr (o' := 0) fa30_0 rfl rfl rfl ⟨rfl, Ext.refl _⟩) ?_
   refine QT.do (v := S r25.1.name) rfl (by decide +kernel) rfl rfl rfl (fun w' hJ => by obtain ⟨hB, H8, H63, H39⟩ := hJ; exact D.load (j := 0) (v := S r25.1.name) sc9 H39.cs rfl rfl rfl rfl ⟨rfl, Ext.refl _⟩) ?_
   refine QT.do (v := pt b32 1) rfl (by decide +kernel) rfl rfl rfl (fun w' hJ => by obtain ⟨hB, H8, H63, H39⟩ := hJ; exact D.fieldAddr (o' := 1) fa30_1 rfl rfl rfl ⟨rfl, Ext.refl _⟩) ?_
   refine QT.do (v := .int .u16 r25.1.ty) rfl (by decide +kernel) rfl rfl rfl (fun w' hJ => by obtain ⟨hB, H8, H63, H39⟩ := hJ; exact D.load (j := 1) (v := .int .u16 r25.1.ty) sc22 H39.cs rfl rfl rfl rfl ⟨rfl, Ext.refl _⟩) ?_
   refine QT.do (v := pt b32 2) rfl (by decide +kernel) rfl rfl rfl (fun w' hJ => by obtain ⟨hB, H8, H63, H39⟩ := hJ; exact D.fieldAddr (o' := 2) fa30_2 rfl rfl rfl ⟨rfl, Ext.refl _⟩) ?_
   refine QT.do (v := .int .u16 r25.1.cls) rfl (by decide +kernel) rfl rfl rfl (fun w' hJ => by obtain ⟨hB, H8, H63, H39⟩ := hJ; exact D.load (j := 2) (v := .int .u16 r25.1.cls) sc22 H39.cs rfl rfl rfl rfl ⟨rfl, Ext.refl _⟩) ?_
   refine QT.do (v := .int .u32 r47.1) rfl (by decide +kernel) rfl rfl rfl (fun w' hJ => by obtain ⟨hB, H8, H63, H39⟩ := hJ; exact D.mv (v := .int .u32 r47.1) rfl rfl ⟨rfl, Ext.refl _⟩) ?_
   refine QT.do (v := S r91.1) rfl (by decide +kernel) rfl rfl rfl (fun w' hJ => by obtain ⟨hB, H8, H63, H39⟩ := hJ; exact D.mv (v := S r91.1) rfl rfl ⟨rfl, Ext.refl _⟩) ?_
   refine QT.do (v := .agg #[S r25.1.name, .int .u16 r25.1.ty, .int .u16 r25.1.cls, .int .u32 r47.1, S r91.1]) rfl (by decide +kernel) rfl rfl rfl (fun w' hJ => by obtain ⟨hB, H8, H63, H39⟩ := hJ; exact D.build (vs := [(0, S r25.1.name), (1, .int .u16 r25.1.ty), (2, .int .u16 r25.1.cls), (3, .int .u32 r47.1), (4, S r91.1)]) (cs := [S r25.1.name, .int .u16 r25.1.ty, .int .u16 r25.1.cls, .int .u32 r47.1, S r91.1]) bld25 rfl rfl rfl ⟨rfl, Ext.refl _⟩) ?_
   refine QT.late (v := pt b13 0) rfl rfl rfl rfl (fun w' hJ => by obtain ⟨hB, H63, H39⟩ := hJ; exact D.mv (v := pt b13 0) rfl rfl ⟨rfl, Ext.refl _⟩) ?_
   refine QT.late (v := pt b13 0) rfl rfl rfl rfl (fun w' hJ => by obtain ⟨hB, H63, H39⟩ := hJ; exact D.nilCheck rfl rfl ⟨rfl, Ext.refl _⟩) ?_
   refine QT.late (v := pt b13 1) rfl rfl rfl rfl (fun w' hJ => by obtain ⟨hB, H63, H39⟩ := hJ; exact D.fieldAddr (o' := 1) fa78_1 rfl rfl rfl ⟨rfl, Ext.refl _⟩) ?_
   refine QT.late (v := .int .i64 r60.2.at_) rfl rfl rfl rfl (fun w' hJ => by obtain ⟨hB, H63, H39⟩ := hJ; exact D.load (j := 1) (v := .int .i64 r60.2.at_) sc3 H63.cs rfl rfl rfl rfl ⟨rfl, Ext.refl _⟩) ?_
   refine QT.late (v := .int .i64 (w64 r60.1)) rfl rfl rfl rfl (fun w' hJ => by obtain ⟨hB, H63, H39⟩ := hJ; exact D.mv (v := .int .i64 (w64 r60.1)) rfl rfl ⟨rfl, Ext.refl _⟩) ?_
   refine QT.late (v := .int .i64 (w64 (r60.2.at_ + (w64 r60.1)))) rfl rfl rfl rfl (fun w' hJ => by obtain ⟨hB, H63, H39⟩ := hJ; exact D.add rfl rfl rfl ⟨rfl, Ext.refl _⟩) ?_
   refine QT.eff rfl rfl (fun w113 hC => ?_) QT.nomore
   obtain ⟨hB, H8, H63, H39⟩ := hC
   refine D.store (v := .agg #[S r25.1.name, .int .u16 r25.1.ty, .int .u16 r25.1.cls, .int .u32 r47.1, S r91.1]) (us := [S r25.1.name, .int .u16 r25.1.ty, .int .u16 r25.1.cls, .int .u32 r47.1, S r91.1]) sz25 H8 rfl rfl rfl rfl rfl rfl ?_
   intro w114 H115 e116
   replace hB := below_blk hB e116 g10
   replace H63 := H63.gr e116 (sepB (ne_flip (ne_of lt_10_18 (MB.ge b13))))
   replace H39 := H39.gr e116 (sepB (ne_flip (ne_of lt_10_37 (MB.ge b32))))
   clear e116
   refine ⟨undef, rfl, (fun w' => Below w.heap.size w w' ∧ Blk w' b5 [S r25.1.name, .int .u16 r25.1.ty, .int .u16 r25.1.cls, .int .u32 r47.1, S r91.1] 25 ∧ Blk w' b13 [S r60.2.s, .int .i64 r60.2.at_, .bool r60.2.bad] 78 ∧ Blk w' b32 [S r25.1.name, .int .u16 r25.1.ty, .int .u16 r25.1.cls] 30), ⟨hB, H115, H63, H39⟩, (fun a b hC hx => by obtain ⟨hB, H115, H63, H39⟩ := hC; exact ⟨below_ext hB hx, H115.ext hx, H63.ext hx, H39.ext hx⟩), (fun a hC => by obtain ⟨hB, H115, H63, H39⟩ := hC; exact ⟨hB, H63, H39⟩), ?_⟩
   refine QT.do (v := .int .i64 (w64 (r60.2.at_ + (w64 r60.1)))) rfl (by decide +kernel) rfl rfl rfl (fun w' hJ => by obtain ⟨hB, H115, H63, H39⟩ := hJ; exact D.asn (v := .int .i64 (w64 (r60.2.at_ + (w64 r60.1)))) rfl rfl ⟨rfl, Ext.refl _⟩) ?_
   refine QT.do (v := .int .i64 0) rfl (by decide +kernel) rfl rfl rfl (fun w' hJ => by obtain ⟨hB, H115, H63, H39⟩ := hJ; exact D.asn (v := .int .i64 0) rfl rfl ⟨rfl, Ext.refl _⟩) ?_
   refine QT.nil fun w117 hC => ?_
   obtain ⟨hB, H115, H63, H39⟩ := hC
   refine hM108 _ _ ?_
   refine X.ret ?_
   injection h with h
   subst h
   exact hR _ _ _ (retCTT ag25 H115 rfl rfl rfl rfl rfl) ⟨rfl, ext_of_below hB⟩
  ·rw [if_neg c106] at h
   refine X.condT (congrArg Value.bool ((congrArg (!·) (beq_eq_false_iff_ne.2 c106)))) ?_
   refine X.seq fun M118 hM119 => ?_
   refine X.region ?_
   refine XO.do rfl (D.build (vs := []) (cs := [S [], .int .u16 0, .int .u16 0, .int .u32 0, S []]) bld25 rfl rfl rfl ?_)
   refine XO.do rfl (D.mv (v := .int .i64 r91.2) rfl rfl ?_)
   refine XO.do rfl (D.store (v := .agg #[S [], .int .u16 0, .int .u16 0, .int .u32 0, S []]) (us := [S [], .int .u16 0, .int .u16 0, .int .u32 0, S []]) sz25 H8 rfl rfl rfl rfl rfl rfl ?_)
   intro w120 H121 e122
   replace hB := below_blk hB e122 g10
   replace H63 := H63.gr e122 (sepB (ne_flip (ne_of lt_10_18 (MB.ge b13))))
   replace H39 := H39.gr e122 (sepB (ne_flip (ne_of lt_10_37 (MB.ge b32))))
   clear e122
   refine XO.do rfl (D.asn (v := .int .i64 0) rfl rfl ?_)
   refine XO.do rfl (D.asn (v := .int .i64 r91.2) rfl rfl ?_)
   refine XO.nil ?_
   refine hM119 _ _ ?_
   refine X.ret ?_
   injection h with h
   subst h
   exact hR _ _ _ (retCTT ag25 H121 rfl rfl rfl rfl rfl) ⟨rfl, ext_of_below hB⟩
theorem record_Take.ok (a1 : Str) (a2 : Int)  (w : World)  (hp : record_Take.pre a1 a2) :
  Ret Try.prog 18 ([S a1, .int .i64 a2] : List Value).toArray w fun v w' => v = .tuple #[.agg #[S ((record_Take a1 a2).1.name), .int .u16 ((record_Take a1 a2).1.ty), .int .u16 ((record_Take a1 a2).1.cls), .int .u32 ((record_Take a1 a2).1.ttl), S ((record_Take a1 a2).1.data)], .int .i64 ((record_Take a1 a2).2.1), .int .i64 ((record_Take a1 a2).2.2)] ∧ Ext w w' := by
 have h := record_Take.eq a1 a2 hp
 exact record_Take.walk  a1 a2  w  _ h
end Go.Proofs.Ytfcaekghpkpjdaa.K

/- Walks, printed by a program of this session. -/
namespace Go.Proofs.Ytfcaekghpkpjdaa.K
open Go Go.RowKit Go.Proofs
set_option linter.unusedVariables false
set_option maxRecDepth 100000
set_option maxHeartbeats 4000000
namespace FL1
theorem ti25 : TI Try.prog 25 (.agg #[S [], .int .u16 0, .int .u16 0, .int .u32 0, S []]) 5 40 := by unfold TI; kernel_rfl
theorem ag25 : Agg Try.prog 25 5 := agg Try.underlying25 rfl ti25
theorem ti9 : TI Try.prog 9 (S []) 1 16 := by unfold TI; kernel_rfl
theorem ti22 : TI Try.prog 22 (.int .u16 0) 1 2 := by unfold TI; kernel_rfl
theorem ti23 : TI Try.prog 23 (.int .u32 0) 1 4 := by unfold TI; kernel_rfl
theorem bld25 : BuildIs Try.prog 25 #[(0, 1), (1, 1), (2, 1), (3, 1), (4, 1)] (Value.cells (.agg #[S [], .int .u16 0, .int .u16 0, .int .u32 0, S []])) := buildIs Try.underlying25 ti25 (fun w => by simp [ti22.size, ti23.size, ti9.size])
theorem cf12 : Callable Try.prog 12 := callable Try.func12 (by kernel_rfl) rfl
theorem cf15 : Callable Try.prog 15 := callable Try.func15 (by kernel_rfl) rfl
theorem cf17 : Callable Try.prog 17 := callable Try.func17 (by kernel_rfl) rfl
theorem cf18 : Callable Try.prog 18 := callable Try.func18 (by kernel_rfl) rfl
theorem cf26 : Callable Try.prog 26 := callable Try.func26 (by kernel_rfl) rfl
theorem fa25_0 : FA Try.prog 25 0 0 := fa Try.underlying25 rfl ti9 rfl rfl
theorem fa25_4 : FA Try.prog 25 4 4 := fa Try.underlying25 rfl ti9 rfl rfl
theorem sc9 : Sca Try.prog 9 := sca Try.underlying9 rfl
theorem sz25 : ∀ w, (sizeOf 25).run Try.prog w = .ok 5 w := fun w => ti25.size w
end FL1
open FL1
theorem derricklaw05_shown.walk   (w : World)  (res : Bool) (h : derricklaw05_shown.f  = some res) :
  Ret Try.prog 7 ([] : List Value).toArray w fun v w' => v = .bool res ∧ Ext w w' := by
 unfold derricklaw05_shown.f at h
 refine enterX Try.func7 rfl Try.ntmps7 rfl (fun R hR => ?_)
 have hB := Below.refl w.heap.size w
 refine X.seq fun M1 hM2 => ?_
 refine X.region ?_
 refine XO.do rfl (D.asn (v := .bool false) rfl rfl ?_)
 refine XO.nil ?_
 refine hM2 _ _ ?_
 refine X.seq fun M3 hM4 => ?_
 refine X.region ?_
 refine XO.do rfl (D.build (vs := [(0, S [2, 97, 98, 0]), (1, .int .u16 1), (2, .int .u16 1), (3, .int .u32 5), (4, S [1, 2, 3, 4])]) (cs := [S [2, 97, 98, 0], .int .u16 1, .int .u16 1, .int .u32 5, S [1, 2, 3, 4]]) bld25 rfl rfl rfl ?_)
 refine XO.do rfl (D.alloc ti25 (cs := [S [], .int .u16 0, .int .u16 0, .int .u32 0, S []]) rfl rfl ?_)
 intro b5 w6 hb7 H8 e9 _
 have g10 : w.heap.size ≤ b5 := Nat.le_trans hB.size (Nat.le_of_eq hb7.symm)
 clear hb7
 replace hB := below_ext hB e9
 clear e9
 refine XO.do rfl (D.store (v := .agg #[S [2, 97, 98, 0], .int .u16 1, .int .u16 1, .int .u32 5, S [1, 2, 3, 4]]) (us := [S [2, 97, 98, 0], .int .u16 1, .int .u16 1, .int .u32 5, S [1, 2, 3, 4]]) sz25 H8 rfl rfl rfl rfl rfl rfl ?_)
 intro w11 H12 e13
 replace hB := below_blk hB e13 g10
 clear e13
 refine XO.nil ?_
 refine hM4 _ _ ?_
 refine X.seq fun M14 hM15 => ?_
 refine X.region ?_
 obtain ⟨r19, q20, h⟩ := lt_elim h
 have hc18 := wire_New.ok w11 
 rw [q20] at hc18
 clear q20
 refine XO.do rfl (D.call (vs := []) cf12 hc18 rfl rfl ?_)
 rintro _ w16 ⟨M21, b22, rfl, H23, g24, e17⟩
 clear hc18
 have lt_10_25 : ∀ x, MB b5 x → x < w11.heap.size := (MB.lt H12 (Nat.le_refl _))
 have z25 : ∀ y, M21 y → w.heap.size ≤ y := fun y hy => Nat.le_trans hB.size (g24 y hy)
 have bs25 : w11.heap.size ≤ w16.heap.size := World.grownBy.size e17
 replace hB := below_ext hB e17
 replace H12 := H12.ext e17
 clear e17
 refine XO.do rfl (D.asn (v := pt b22 0) rfl rfl ?_)
 refine XO.nil ?_
 refine hM15 _ _ ?_
 refine X.seq fun M27 hM28 => ?_
 refine X.region ?_
 refine XO.do rfl (D.mv (v := pt b22 0) rfl rfl ?_)
 refine XO.do rfl (D.loadA (j := 0) (us := [S [2, 97, 98, 0], .int .u16 1, .int .u16 1, .int .u32 5, S [1, 2, 3, 4]]) ag25 H12.cs rfl rfl rfl rfl rfl ?_)
 rcases (Classical.em (record_Put.pre r19 (⟨[2, 97, 98, 0], 1, 1, 5, [1, 2, 3, 4]⟩ : RR))).symm with c29 | c29
 ·rw [if_neg c29] at h; cases h
 rw [if_pos c29] at h
 obtain ⟨r33, q34, h⟩ := lt_elim h
 have hc32 := record_Put.ok r19 (⟨[2, 97, 98, 0], 1, 1, 5, [1, 2, 3, 4]⟩ : RR) M21 b22 w16 H23 c29 
 rw [q34] at hc32
 clear q34
 refine XO.do rfl (D.call (vs := [pt b22 0, .agg #[S [2, 97, 98, 0], .int .u16 1, .int .u16 1, .int .u32 5, S [1, 2, 3, 4]]]) cf15 hc32 rfl rfl ?_)
 rintro _ w35 ⟨M38, rfl, H36, u39, e37⟩
 clear hc32
 have g24n := ge_sub u39 g24 bs25
 have v26n := ge_sub u39 z25 hB.size
 replace hB := below_gm hB e37 z25
 replace H12 := H12.gm e37 (sepM (ne_of lt_10_25 g24))
 replace g24 := g24n
 replace bs25 := Nat.le_trans bs25 e37.size
 clear e37 u39 H23
 have v40 := v26n
 clear v26n
 refine XO.do rfl (D.asn (v := .int .i64 r33.1) rfl rfl ?_)
 refine XO.nil ?_
 refine hM28 _ _ ?_
 refine X.seq fun M42 hM43 => ?_
 refine X.region ?_
 refine XO.do rfl (D.mv (v := pt b22 0) rfl rfl ?_)
 obtain ⟨r47, q48, h⟩ := lt_elim h
 have hc46 := wire_Pack_Out.ok r33.2 M38 b22 w35 H36 
 rw [q48] at hc46
 clear q48
 refine XO.do rfl (D.call (vs := [pt b22 0]) cf17 hc46 rfl rfl ?_)
 rintro _ w44 ⟨rfl, e45⟩
 clear hc46
 replace hB := below_ext hB e45
 replace H12 := H12.ext e45
 replace H36 := H36.ext e45
 replace bs25 := Nat.le_trans bs25 (World.grownBy.size e45)
 clear e45
 rcases (Classical.em (record_Take.pre r47 0)).symm with c49 | c49
 ·rw [if_neg c49] at h; cases h
 rw [if_pos c49] at h
 obtain ⟨r53, q54, h⟩ := lt_elim h
 have hc52 := record_Take.ok r47 0 w44 c49 
 rw [q54] at hc52
 clear q54
 refine XO.do rfl (D.call (vs := [S r47, .int .i64 0]) cf18 hc52 rfl rfl ?_)
 rintro _ w50 ⟨rfl, e51⟩
 clear hc52
 replace hB := below_ext hB e51
 replace H12 := H12.ext e51
 replace H36 := H36.ext e51
 replace bs25 := Nat.le_trans bs25 (World.grownBy.size e51)
 clear e51
 refine XO.do rfl (D.mv (v := .tuple #[.agg #[S r53.1.name, .int .u16 r53.1.ty, .int .u16 r53.1.cls, .int .u32 r53.1.ttl, S r53.1.data], .int .i64 r53.2.1, .int .i64 r53.2.2]) rfl rfl ?_)
 refine XO.do rfl (D.extract (v := .agg #[S r53.1.name, .int .u16 r53.1.ty, .int .u16 r53.1.cls, .int .u32 r53.1.ttl, S r53.1.data]) rfl rfl rfl ?_)
 refine XO.do rfl (D.extract (v := .int .i64 r53.2.1) rfl rfl rfl ?_)
 refine XO.do rfl (D.extract (v := .int .i64 r53.2.2) rfl rfl rfl ?_)
 refine XO.do rfl (D.alloc ti25 (cs := [S [], .int .u16 0, .int .u16 0, .int .u32 0, S []]) rfl rfl ?_)
 intro b55 w56 hb57 H58 e59 _
 have lt_10_60 : ∀ x, MB b5 x → x < b55 := (MB.lt H12 (Nat.le_of_eq hb57.symm))
 have ne_25_60 : ∀ x y, M38 x → MB b55 y → x ≠ y := ne_of (lt_le H36.lt (Nat.le_of_eq hb57.symm)) (MB.ge b55)
 have g60 : w.heap.size ≤ b55 := Nat.le_trans hB.size (Nat.le_of_eq hb57.symm)
 clear hb57
 replace hB := below_ext hB e59
 replace H12 := H12.ext e59
 replace H36 := H36.ext e59
 replace bs25 := Nat.le_trans bs25 (World.grownBy.size e59)
 clear e59
 refine XO.do rfl (D.store (v := .agg #[S r53.1.name, .int .u16 r53.1.ty, .int .u16 r53.1.cls, .int .u32 r53.1.ttl, S r53.1.data]) (us := [S r53.1.name, .int .u16 r53.1.ty, .int .u16 r53.1.cls, .int .u32 r53.1.ttl, S r53.1.data]) sz25 H58 rfl rfl rfl rfl rfl rfl ?_)
 intro w61 H62 e63
 replace hB := below_blk hB e63 g60
 replace H12 := H12.gr e63 (sepB (ne_of lt_10_60 (MB.ge b55)))
 replace H36 := H36.gr e63 (sepB ne_25_60)
 replace bs25 := Nat.le_trans bs25 (World.grownBy.size e63)
 clear e63
 refine XO.do rfl (D.asn (v := .int .i64 r53.2.1) rfl rfl ?_)
 refine XO.do rfl (D.asn (v := .int .i64 r53.2.2) rfl rfl ?_)
 refine XO.nil ?_
 refine hM43 _ _ ?_
 refine X.seq fun M64 hM65 => ?_
 refine X.region ?_
 refine XO.do rfl (D.mv (v := .int .i64 r33.1) rfl rfl ?_)
 refine XO.do rfl (D.eql rfl rfl rfl ?_)
 refine XO.do rfl (D.mv (v := .bool (r33.1 == 0)) rfl rfl ?_)
 by_cases c66 : r33.1 = 0
 ·rw [if_pos c66] at h
  refine XO.do (wantG (j := 2) (b := true) rfl (beq_iff_eq.2 c66) rfl) (D.mv (v := pt b22 0) rfl rfl ?_)
  obtain ⟨r70, q71, h⟩ := lt_elim h
  have hc69 := wire_Pack_Out.ok r33.2 M38 b22 w61 H36 
  rw [q71] at hc69
  clear q71
  refine XO.do (wantG (j := 2) (b := true) rfl (beq_iff_eq.2 c66) rfl) (D.call (vs := [pt b22 0]) cf17 hc69 rfl rfl ?_)
  rintro _ w67 ⟨rfl, e68⟩
  clear hc69
  replace hB := below_ext hB e68
  replace H12 := H12.ext e68
  replace H36 := H36.ext e68
  replace bs25 := Nat.le_trans bs25 (World.grownBy.size e68)
  replace H62 := H62.ext e68
  clear e68
  refine XO.do (wantG (j := 2) (b := true) rfl (beq_iff_eq.2 c66) rfl) (D.eqlS rfl rfl rfl ?_)
  refine XO.do rfl (D.pick true (v := .bool (r70 == ([2, 97, 98, 0, 0, 1, 0, 1, 0, 0, 0, 5, 0, 4, 1, 2, 3, 4] : Str))) (congrArg Value.bool (beq_iff_eq.2 c66)) rfl rfl ?_)
  refine XO.do rfl (D.mv (v := .bool (r70 == ([2, 97, 98, 0, 0, 1, 0, 1, 0, 0, 0, 5, 0, 4, 1, 2, 3, 4] : Str))) rfl rfl ?_)
  by_cases c72 : r70 = ([2, 97, 98, 0, 0, 1, 0, 1, 0, 0, 0, 5, 0, 4, 1, 2, 3, 4] : Str)
  ·rw [if_pos c72] at h
   refine XO.do (wantG (j := 7) (b := true) rfl (beq_iff_eq.2 c72) rfl) (D.loadA (j := 0) (us := [S r53.1.name, .int .u16 r53.1.ty, .int .u16 r53.1.cls, .int .u32 r53.1.ttl, S r53.1.data]) ag25 H62.cs rfl rfl rfl rfl rfl ?_)
   refine XO.do (wantG (j := 7) (b := true) rfl (beq_iff_eq.2 c72) rfl) (D.loadA (j := 0) (us := [S [2, 97, 98, 0], .int .u16 1, .int .u16 1, .int .u32 5, S [1, 2, 3, 4]]) ag25 H12.cs rfl rfl rfl rfl rfl ?_)
   refine XO.do (wantG (j := 7) (b := true) rfl (beq_iff_eq.2 c72) rfl) (D.eqSt (eqRR r53.1 (⟨[2, 97, 98, 0], 1, 1, 5, [1, 2, 3, 4]⟩ : RR)) rfl rfl rfl ?_)
   refine XO.do rfl (D.pick true (v := .bool (decide (r53.1 = (⟨[2, 97, 98, 0], 1, 1, 5, [1, 2, 3, 4]⟩ : RR)))) (congrArg Value.bool (beq_iff_eq.2 c72)) rfl rfl ?_)
   refine XO.do rfl (D.mv (v := .bool (decide (r53.1 = (⟨[2, 97, 98, 0], 1, 1, 5, [1, 2, 3, 4]⟩ : RR)))) rfl rfl ?_)
   by_cases c73 : r53.1 = (⟨[2, 97, 98, 0], 1, 1, 5, [1, 2, 3, 4]⟩ : RR)
   ·rw [if_pos c73] at h
    refine XO.do (wantG (j := 12) (b := true) rfl (decide_eq_true c73) rfl) (D.mv (v := .int .i64 r53.2.1) rfl rfl ?_)
    refine XO.do (wantG (j := 12) (b := true) rfl (decide_eq_true c73) rfl) (D.mv (v := pt b22 0) rfl rfl ?_)
    obtain ⟨r77, q78, h⟩ := lt_elim h
    have hc76 := wire_Pack_Len.ok r33.2 M38 b22 w67 H36 
    rw [q78] at hc76
    clear q78
    refine XO.do (wantG (j := 12) (b := true) rfl (decide_eq_true c73) rfl) (D.call (vs := [pt b22 0]) cf26 hc76 rfl rfl ?_)
    rintro _ w74 ⟨rfl, e75⟩
    clear hc76
    replace hB := below_ext hB e75
    replace H12 := H12.ext e75
    replace H36 := H36.ext e75
    replace bs25 := Nat.le_trans bs25 (World.grownBy.size e75)
    replace H62 := H62.ext e75
    clear e75
    refine XO.do (wantG (j := 12) (b := true) rfl (decide_eq_true c73) rfl) (D.eql rfl rfl rfl ?_)
    refine XO.do rfl (D.pick true (v := .bool (r53.2.1 == r77)) (congrArg Value.bool (decide_eq_true c73)) rfl rfl ?_)
    refine XO.do rfl (D.mv (v := .bool (r53.2.1 == r77)) rfl rfl ?_)
    by_cases c79 : r53.2.1 = r77
    ·rw [if_pos c79] at h
     refine XO.do (wantG (j := 18) (b := true) rfl (beq_iff_eq.2 c79) rfl) (D.mv (v := .int .i64 r53.2.2) rfl rfl ?_)
     refine XO.do (wantG (j := 18) (b := true) rfl (beq_iff_eq.2 c79) rfl) (D.eql rfl rfl rfl ?_)
     refine XO.do rfl (D.pick true (v := .bool (r53.2.2 == 0)) (congrArg Value.bool (beq_iff_eq.2 c79)) rfl rfl ?_)
     refine XO.do rfl (D.asn (v := .bool (r53.2.2 == 0)) rfl rfl ?_)
     refine XO.nil ?_
     refine hM65 _ _ ?_
     refine X.ret ?_
     injection h with h
     subst h
     exact hR _ _ _ (ret1 (v := .bool (r53.2.2 == 0)) rfl rfl) ⟨rfl, ext_of_below hB⟩
    ·rw [if_neg c79] at h
     refine XO.off (wantG0 (j := 18) (b := true) rfl (beq_eq_false_iff_ne.2 c79) rfl) rfl rfl ?_
     refine XO.off (wantG0 (j := 18) (b := true) rfl (beq_eq_false_iff_ne.2 c79) rfl) rfl rfl ?_
     refine XO.do rfl (D.pick false (v := .bool false) (congrArg Value.bool (beq_eq_false_iff_ne.2 c79)) rfl rfl ?_)
     refine XO.do rfl (D.asn (v := .bool false) rfl rfl ?_)
     refine XO.nil ?_
     refine hM65 _ _ ?_
     refine X.ret ?_
     injection h with h
     subst h
     exact hR _ _ _ (ret1 (v := .bool false) rfl rfl) ⟨rfl, ext_of_below hB⟩
   ·rw [if_neg c73] at h
    refine XO.off (wantG0 (j := 12) (b := true) rfl (decide_eq_false c73) rfl) rfl rfl ?_
    refine XO.off (wantG0 (j := 12) (b := true) rfl (decide_eq_false c73) rfl) rfl rfl ?_
    refine XO.off (wantG0 (j := 12) (b := true) rfl (decide_eq_false c73) rfl) rfl rfl ?_
    refine XO.off (wantG0 (j := 12) (b := true) rfl (decide_eq_false c73) rfl) rfl rfl ?_
    refine XO.do rfl (D.pick false (v := .bool false) (congrArg Value.bool (decide_eq_false c73)) rfl rfl ?_)
    refine XO.do rfl (D.mv (v := .bool false) rfl rfl ?_)
    refine XO.off (wantG0 (j := 18) (b := true) rfl (rfl) rfl) rfl rfl ?_
    refine XO.off (wantG0 (j := 18) (b := true) rfl (rfl) rfl) rfl rfl ?_
    refine XO.do rfl (D.pick false (v := .bool false) (congrArg Value.bool (rfl)) rfl rfl ?_)
    refine XO.do rfl (D.asn (v := .bool false) rfl rfl ?_)
    refine XO.nil ?_
    refine hM65 _ _ ?_
    refine X.ret ?_
    injection h with h
    subst h
    exact hR _ _ _ (ret1 (v := .bool false) rfl rfl) ⟨rfl, ext_of_below hB⟩
  ·rw [if_neg c72] at h
   refine XO.off (wantG0 (j := 7) (b := true) rfl (beq_eq_false_iff_ne.2 c72) rfl) rfl rfl ?_
   refine XO.off (wantG0 (j := 7) (b := true) rfl (beq_eq_false_iff_ne.2 c72) rfl) rfl rfl ?_
   refine XO.off (wantG0 (j := 7) (b := true) rfl (beq_eq_false_iff_ne.2 c72) rfl) rfl rfl ?_
   refine XO.do rfl (D.pick false (v := .bool false) (congrArg Value.bool (beq_eq_false_iff_ne.2 c72)) rfl rfl ?_)
   refine XO.do rfl (D.mv (v := .bool false) rfl rfl ?_)
   refine XO.off (wantG0 (j := 12) (b := true) rfl (rfl) rfl) rfl rfl ?_
   refine XO.off (wantG0 (j := 12) (b := true) rfl (rfl) rfl) rfl rfl ?_
   refine XO.off (wantG0 (j := 12) (b := true) rfl (rfl) rfl) rfl rfl ?_
   refine XO.off (wantG0 (j := 12) (b := true) rfl (rfl) rfl) rfl rfl ?_
   refine XO.do rfl (D.pick false (v := .bool false) (congrArg Value.bool (rfl)) rfl rfl ?_)
   refine XO.do rfl (D.mv (v := .bool false) rfl rfl ?_)
   refine XO.off (wantG0 (j := 18) (b := true) rfl (rfl) rfl) rfl rfl ?_
   refine XO.off (wantG0 (j := 18) (b := true) rfl (rfl) rfl) rfl rfl ?_
   refine XO.do rfl (D.pick false (v := .bool false) (congrArg Value.bool (rfl)) rfl rfl ?_)
   refine XO.do rfl (D.asn (v := .bool false) rfl rfl ?_)
   refine XO.nil ?_
   refine hM65 _ _ ?_
   refine X.ret ?_
   injection h with h
   subst h
   exact hR _ _ _ (ret1 (v := .bool false) rfl rfl) ⟨rfl, ext_of_below hB⟩
 ·rw [if_neg c66] at h
  refine XO.off (wantG0 (j := 2) (b := true) rfl (beq_eq_false_iff_ne.2 c66) rfl) rfl rfl ?_
  refine XO.off (wantG0 (j := 2) (b := true) rfl (beq_eq_false_iff_ne.2 c66) rfl) rfl rfl ?_
  refine XO.off (wantG0 (j := 2) (b := true) rfl (beq_eq_false_iff_ne.2 c66) rfl) rfl rfl ?_
  refine XO.do rfl (D.pick false (v := .bool false) (congrArg Value.bool (beq_eq_false_iff_ne.2 c66)) rfl rfl ?_)
  refine XO.do rfl (D.mv (v := .bool false) rfl rfl ?_)
  refine XO.off (wantG0 (j := 7) (b := true) rfl (rfl) rfl) rfl rfl ?_
  refine XO.off (wantG0 (j := 7) (b := true) rfl (rfl) rfl) rfl rfl ?_
  refine XO.off (wantG0 (j := 7) (b := true) rfl (rfl) rfl) rfl rfl ?_
  refine XO.do rfl (D.pick false (v := .bool false) (congrArg Value.bool (rfl)) rfl rfl ?_)
  refine XO.do rfl (D.mv (v := .bool false) rfl rfl ?_)
  refine XO.off (wantG0 (j := 12) (b := true) rfl (rfl) rfl) rfl rfl ?_
  refine XO.off (wantG0 (j := 12) (b := true) rfl (rfl) rfl) rfl rfl ?_
  refine XO.off (wantG0 (j := 12) (b := true) rfl (rfl) rfl) rfl rfl ?_
  refine XO.off (wantG0 (j := 12) (b := true) rfl (rfl) rfl) rfl rfl ?_
  refine XO.do rfl (D.pick false (v := .bool false) (congrArg Value.bool (rfl)) rfl rfl ?_)
  refine XO.do rfl (D.mv (v := .bool false) rfl rfl ?_)
  refine XO.off (wantG0 (j := 18) (b := true) rfl (rfl) rfl) rfl rfl ?_
  refine XO.off (wantG0 (j := 18) (b := true) rfl (rfl) rfl) rfl rfl ?_
  refine XO.do rfl (D.pick false (v := .bool false) (congrArg Value.bool (rfl)) rfl rfl ?_)
  refine XO.do rfl (D.asn (v := .bool false) rfl rfl ?_)
  refine XO.nil ?_
  refine hM65 _ _ ?_
  refine X.ret ?_
  injection h with h
  subst h
  exact hR _ _ _ (ret1 (v := .bool false) rfl rfl) ⟨rfl, ext_of_below hB⟩
theorem derricklaw05_shown.ok   (w : World)  (hp : derricklaw05_shown.pre ) :
  Ret Try.prog 7 ([] : List Value).toArray w fun v w' => v = .bool (derricklaw05_shown ) ∧ Ext w w' := by
 have h := derricklaw05_shown.eq  hp
 exact derricklaw05_shown.walk    w  _ h
theorem derricklaw05_few.walk (a1 : RR)  (w : World)  (res : Bool) (h : derricklaw05_few a1 = res) :
  Ret Try.prog 8 ([.agg #[S a1.name, .int .u16 a1.ty, .int .u16 a1.cls, .int .u32 a1.ttl, S a1.data]] : List Value).toArray w fun v w' => v = .bool res ∧ Ext w w' := by
 unfold derricklaw05_few at h
 refine enterX Try.func8 rfl Try.ntmps8 rfl (fun R hR => ?_)
 have hB := Below.refl w.heap.size w
 refine X.seq fun M2 hM3 => ?_
 refine X.region ?_
 refine XO.do rfl (D.box (v := .agg #[S a1.name, .int .u16 a1.ty, .int .u16 a1.cls, .int .u32 a1.ttl, S a1.data]) (cs := [S a1.name, .int .u16 a1.ty, .int .u16 a1.cls, .int .u32 a1.ttl, S a1.data]) rfl rfl rfl ?_)
 intro b4 w5 hb6 H7 e8 _
 have g9 : w.heap.size ≤ b4 := Nat.le_trans hB.size (Nat.le_of_eq hb6.symm)
 clear hb6
 replace hB := below_ext hB e8
 clear e8
 refine XO.do rfl (D.asn (v := .bool false) rfl rfl ?_)
 refine XO.nil ?_
 refine hM3 _ _ ?_
 refine X.seq fun M10 hM11 => ?_
 refine X.region ?_
 refine XO.do rfl (D.fieldAddr (o' := 0) fa25_0 rfl rfl rfl ?_)
 refine XO.do rfl (D.load (j := 0) (v := S a1.name) sc9 H7.cs rfl rfl rfl rfl ?_)
 refine XO.do rfl (D.lenS Try.underlying9 rfl rfl ?_)
 refine XO.do rfl (D.leq rfl rfl rfl ?_)
 refine XO.do rfl (D.mv (v := .bool (decide ((a1.name.length : Int) ≤ 700))) rfl rfl ?_)
 by_cases c12 : (a1.name.length : Int) ≤ 700
 ·rw [if_pos c12] at h
  refine XO.do (wantG (j := 4) (b := true) rfl (decide_eq_true c12) rfl) (D.fieldAddr (o' := 4) fa25_4 rfl rfl rfl ?_)
  refine XO.do (wantG (j := 4) (b := true) rfl (decide_eq_true c12) rfl) (D.load (j := 4) (v := S a1.data) sc9 H7.cs rfl rfl rfl rfl ?_)
  refine XO.do (wantG (j := 4) (b := true) rfl (decide_eq_true c12) rfl) (D.lenS Try.underlying9 rfl rfl ?_)
  refine XO.do (wantG (j := 4) (b := true) rfl (decide_eq_true c12) rfl) (D.leq rfl rfl rfl ?_)
  refine XO.do rfl (D.pick true (v := .bool (decide ((a1.data.length : Int) ≤ 700))) (congrArg Value.bool (decide_eq_true c12)) rfl rfl ?_)
  refine XO.do rfl (D.asn (v := .bool (decide ((a1.data.length : Int) ≤ 700))) rfl rfl ?_)
  refine XO.nil ?_
  refine hM11 _ _ ?_
  refine X.ret ?_
  subst h
  exact hR _ _ _ (ret1 (v := .bool (decide ((a1.data.length : Int) ≤ 700))) rfl rfl) ⟨rfl, ext_of_below hB⟩
 ·rw [if_neg c12] at h
  refine XO.off (wantG0 (j := 4) (b := true) rfl (decide_eq_false c12) rfl) rfl rfl ?_
  refine XO.off (wantG0 (j := 4) (b := true) rfl (decide_eq_false c12) rfl) rfl rfl ?_
  refine XO.off (wantG0 (j := 4) (b := true) rfl (decide_eq_false c12) rfl) rfl rfl ?_
  refine XO.off (wantG0 (j := 4) (b := true) rfl (decide_eq_false c12) rfl) rfl rfl ?_
  refine XO.do rfl (D.pick false (v := .bool false) (congrArg Value.bool (decide_eq_false c12)) rfl rfl ?_)
  refine XO.do rfl (D.asn (v := .bool false) rfl rfl ?_)
  refine XO.nil ?_
  refine hM11 _ _ ?_
  refine X.ret ?_
  subst h
  exact hR _ _ _ (ret1 (v := .bool false) rfl rfl) ⟨rfl, ext_of_below hB⟩
theorem derricklaw05_few.ok (a1 : RR)  (w : World)  :
  Ret Try.prog 8 ([.agg #[S a1.name, .int .u16 a1.ty, .int .u16 a1.cls, .int .u32 a1.ttl, S a1.data]] : List Value).toArray w fun v w' => v = .bool (derricklaw05_few a1) ∧ Ext w w' := derricklaw05_few.walk a1  w  _ rfl
end Go.Proofs.Ytfcaekghpkpjdaa.K
