/- The row of RecordTells: whatever its arguments are, it returns true, and they read as they did. -/
import Derived.Test.YtfcaekghpkpjdaaProg
import Derived.Test.YtfcaekghpkpjdaaQRecordTellsg
/- Walks, printed by a program of this session. -/
namespace Go.Proofs.Ytfcaekghpkpjdaa.K
open Go Go.RowKit Go.Proofs
set_option linter.unusedVariables false
set_option maxRecDepth 100000
set_option maxHeartbeats 4000000
namespace FRg
theorem ti25 : TI Try.prog 25 (.agg #[S [], .int .u16 0, .int .u16 0, .int .u32 0, S []]) 5 40 := by unfold TI; kernel_rfl
theorem ag25 : Agg Try.prog 25 5 := agg Try.underlying25 rfl ti25
theorem ti39 : TI Try.prog 39 (.agg #[S [], .slice none 0 0]) 2 40 := by unfold TI; kernel_rfl
theorem ag39 : Agg Try.prog 39 2 := agg Try.underlying39 rfl ti39
theorem ti9 : TI Try.prog 9 (S []) 1 16 := by unfold TI; kernel_rfl
theorem ti22 : TI Try.prog 22 (.int .u16 0) 1 2 := by unfold TI; kernel_rfl
theorem ti23 : TI Try.prog 23 (.int .u32 0) 1 4 := by unfold TI; kernel_rfl
theorem bld25 : BuildIs Try.prog 25 #[(0, 1), (1, 1), (2, 1), (3, 1), (4, 1)] (Value.cells (.agg #[S [], .int .u16 0, .int .u16 0, .int .u32 0, S []])) := buildIs Try.underlying25 ti25 (fun w => by simp [ti22.size, ti23.size, ti9.size])
theorem ti30 : TI Try.prog 30 (.agg #[S [], .int .u16 0, .int .u16 0]) 3 24 := by unfold TI; kernel_rfl
theorem bld30 : BuildIs Try.prog 30 #[(0, 1), (1, 1), (2, 1)] (Value.cells (.agg #[S [], .int .u16 0, .int .u16 0])) := buildIs Try.underlying30 ti30 (fun w => by simp [ti22.size, ti9.size])
theorem cf14 : Callable Try.prog 14 := callable Try.func14 (by kernel_rfl) rfl
theorem cf21 : Callable Try.prog 21 := callable Try.func21 (by kernel_rfl) rfl
theorem cf22 : Callable Try.prog 22 := callable Try.func22 (by kernel_rfl) rfl
theorem cf33 : Callable Try.prog 33 := callable Try.func33 (by kernel_rfl) rfl
theorem cf34 : Callable Try.prog 34 := callable Try.func34 (by kernel_rfl) rfl
theorem cf39 : Callable Try.prog 39 := callable Try.func39 (by kernel_rfl) rfl
theorem cf40 : Callable Try.prog 40 := callable Try.func40 (by kernel_rfl) rfl
theorem cf47 : Callable Try.prog 47 := callable Try.func47 (by kernel_rfl) rfl
theorem cf48 : Callable Try.prog 48 := callable Try.func48 (by kernel_rfl) rfl
theorem cf49 : Callable Try.prog 49 := callable Try.func49 (by kernel_rfl) rfl
theorem fa25_0 : FA Try.prog 25 0 0 := fa Try.underlying25 rfl ti9 rfl rfl
theorem fa25_1 : FA Try.prog 25 1 1 := fa Try.underlying25 rfl ti22 rfl rfl
theorem fa25_2 : FA Try.prog 25 2 2 := fa Try.underlying25 rfl ti22 rfl rfl
theorem fa25_3 : FA Try.prog 25 3 3 := fa Try.underlying25 rfl ti23 rfl rfl
theorem fa25_4 : FA Try.prog 25 4 4 := fa Try.underlying25 rfl ti9 rfl rfl
theorem fa30_0 : FA Try.prog 30 0 0 := fa Try.underlying30 rfl ti9 rfl rfl
theorem fa30_1 : FA Try.prog 30 1 1 := fa Try.underlying30 rfl ti22 rfl rfl
theorem fa30_2 : FA Try.prog 30 2 2 := fa Try.underlying30 rfl ti22 rfl rfl
theorem fa39_0 : FA Try.prog 39 0 0 := fa Try.underlying39 rfl ti9 rfl rfl
theorem mixed0 : Try.prog.follows .mixedOrders = true := by kernel_rfl
theorem sc22 : Sca Try.prog 22 := sca Try.underlying22 rfl
theorem sc23 : Sca Try.prog 23 := sca Try.underlying23 rfl
theorem sc9 : Sca Try.prog 9 := sca Try.underlying9 rfl
theorem sz25 : ∀ w, (sizeOf 25).run Try.prog w = .ok 5 w := fun w => ti25.size w
theorem sz30 : ∀ w, (sizeOf 30).run Try.prog w = .ok 3 w := fun w => ti30.size w
theorem sz39 : ∀ w, (sizeOf 39).run Try.prog w = .ok 2 w := fun w => ti39.size w
theorem sz9 : ∀ w, (sizeOf 9).run Try.prog w = .ok 1 w := fun w => ti9.size w
end FRg
open FRg
theorem derrickref05_Put.walk (a1 : RPack) (a6 : RR) (A2 : Option Addr) (k3 : Nat) (w : World) (H4 : Row ePlace w A2 k3 a1.l) (res : RPack × Int) (h : derrickref05_Put.f a1 a6 = some res) :
  Ret Try.prog 16 ([.agg #[S a1.s, .slice A2 a1.l.length k3], .agg #[S a6.name, .int .u16 a6.ty, .int .u16 a6.cls, .int .u32 a6.ttl, S a6.data]] : List Value).toArray w fun v w' => ∃ (A1 : Option Addr) (k1 : Nat), v = .tuple #[.agg #[S res.1.s, .slice A1 res.1.l.length k1], .int .i64 res.2] ∧ Row ePlace w' A1 k1 res.1.l ∧ (∀ y, MR A1 res.1.l y → w.heap.size ≤ y ∨ MR A2 a1.l y) ∧ Ext w w' := by
 unfold derrickref05_Put.f at h
 refine enterX Try.func16 rfl Try.ntmps16 rfl (fun R hR => ?_)
 have hB := Below.refl w.heap.size w
 refine X.seq fun M7 hM8 => ?_
 refine X.region ?_
 refine XO.do rfl (D.box (v := .agg #[S a1.s, .slice A2 a1.l.length k3]) (cs := [S a1.s, .slice A2 a1.l.length k3]) rfl rfl rfl ?_)
 intro b9 w10 hb11 H12 e13 _
 have g14 : w.heap.size ≤ b9 := Nat.le_trans hB.size (Nat.le_of_eq hb11.symm)
 clear hb11
 replace hB := below_ext hB e13
 clear e13
 refine XO.do rfl (D.box (v := .agg #[S a6.name, .int .u16 a6.ty, .int .u16 a6.cls, .int .u32 a6.ttl, S a6.data]) (cs := [S a6.name, .int .u16 a6.ty, .int .u16 a6.cls, .int .u32 a6.ttl, S a6.data]) rfl rfl rfl ?_)
 intro b15 w17 hb18 H19 e20 _
 have g21 : w.heap.size ≤ b15 := Nat.le_trans hB.size (Nat.le_of_eq hb18.symm)
 clear hb18
 replace hB := below_ext hB e20
 replace H12 := H12.ext e20
 clear e20
 refine XO.do rfl (D.alloc ti39 (cs := [S [], .slice none 0 0]) rfl rfl ?_)
 intro b22 w23 hb24 H25 e26 _
 have lt_14_27 : ∀ x, MB b9 x → x < b22 := (MB.lt H12 (Nat.le_of_eq hb24.symm))
 have lt_21_27 : ∀ x, MB b15 x → x < b22 := (MB.lt H19 (Nat.le_of_eq hb24.symm))
 have g27 : w.heap.size ≤ b22 := Nat.le_trans hB.size (Nat.le_of_eq hb24.symm)
 clear hb24
 replace hB := below_ext hB e26
 replace H12 := H12.ext e26
 replace H19 := H19.ext e26
 clear e26
 refine XO.do rfl (D.asn (v := .int .i64 0) rfl rfl ?_)
 refine XO.nil ?_
 refine hM8 _ _ ?_
 refine X.seq fun M42 hM43 => ?_
 refine X.seq fun M44 hM45 => ?_
 refine X.region ?_
 refine XO.do rfl (D.loadA (j := 0) (us := [S a6.name, .int .u16 a6.ty, .int .u16 a6.cls, .int .u32 a6.ttl, S a6.data]) ag25 H19.cs rfl rfl rfl rfl rfl ?_)
 rcases (Classical.em (derrickref05_May.pre a6)).symm with c46 | c46
 ·rw [if_neg c46] at h; cases h
 rw [if_pos c46] at h
 obtain ⟨r50, q51, h⟩ := lt_elim h
 have hc49 := derrickref05_May.ok a6 w23 c46 
 rw [q51] at hc49
 clear q51
 refine XO.do rfl (D.call (vs := [.agg #[S a6.name, .int .u16 a6.ty, .int .u16 a6.cls, .int .u32 a6.ttl, S a6.data]]) cf22 hc49 rfl rfl ?_)
 rintro _ w47 ⟨rfl, e48⟩
 clear hc49
 replace hB := below_ext hB e48
 replace H12 := H12.ext e48
 replace H19 := H19.ext e48
 replace H25 := H25.ext e48
 clear e48
 refine XO.do rfl (D.not r50 rfl rfl ?_)
 refine XO.nil ?_
 refine hM45 _ _ ?_
 by_cases c52 : r50 = true
 ·rw [if_pos c52] at h
  refine X.condF (congrArg Value.bool ((congrArg (!·) (c52)))) ?_
  refine X.skip ?_
  refine hM43 _ _ ?_
  refine X.seq fun M53 hM54 => ?_
  refine X.region ?_
  refine XO.do rfl (D.loadA (j := 0) (us := [S a1.s, .slice A2 a1.l.length k3]) ag39 H12.cs rfl rfl rfl rfl rfl ?_)
  refine XO.do rfl (D.fieldAddr (o' := 0) fa25_0 rfl rfl rfl ?_)
  refine XO.do rfl (D.load (j := 0) (v := S a6.name) sc9 H19.cs rfl rfl rfl rfl ?_)
  refine XO.do rfl (D.fieldAddr (o' := 1) fa25_1 rfl rfl rfl ?_)
  refine XO.do rfl (D.load (j := 1) (v := .int .u16 a6.ty) sc22 H19.cs rfl rfl rfl rfl ?_)
  refine XO.do rfl (D.fieldAddr (o' := 2) fa25_2 rfl rfl rfl ?_)
  refine XO.do rfl (D.load (j := 2) (v := .int .u16 a6.cls) sc22 H19.cs rfl rfl rfl rfl ?_)
  refine XO.do rfl (D.build (vs := [(0, S a6.name), (1, .int .u16 a6.ty), (2, .int .u16 a6.cls)]) (cs := [S a6.name, .int .u16 a6.ty, .int .u16 a6.cls]) bld30 rfl rfl rfl ?_)
  rcases (Classical.em (derrickref05_PutQ.pre a1 (⟨a6.name, a6.ty, a6.cls⟩ : Question))).symm with c55 | c55
  ·rw [if_neg c55] at h; cases h
  rw [if_pos c55] at h
  obtain ⟨r59, q60, h⟩ := lt_elim h
  have hc58 := derrickref05_PutQ.ok a1 (⟨a6.name, a6.ty, a6.cls⟩ : Question) A2 k3 w47 (H4.below hB) c55 
  rw [q60] at hc58
  clear q60
  refine XO.do rfl (D.call (vs := [.agg #[S a1.s, .slice A2 a1.l.length k3], .agg #[S a6.name, .int .u16 a6.ty, .int .u16 a6.cls]]) cf14 hc58 rfl rfl ?_)
  rintro _ w56 ⟨A61, k62, rfl, H63, g64, e57⟩
  clear hc58
  have og65 : (∀ y, MR A61 r59.1.l y → w.heap.size ≤ y ∨ MR A2 a1.l y) := fun y hy => (g64 y hy).elim (fun h => .inl (Nat.le_trans hB.size h)) (fun h => (.inr h))
  have nf65_14 : ∀ x y, MR A61 r59.1.l x → MB b9 y → x ≠ y := fun x y hx hy => (g64 x hx).elim (fun h e => Nat.lt_irrefl _ (Nat.lt_of_lt_of_le ((MB.lt H12 (Nat.le_refl _)) y hy) (e ▸ h))) (fun h => (ne_of (MR.lt H4 (Nat.le_refl _)) (ge_blk g14)) x y h hy)
  have nf65_21 : ∀ x y, MR A61 r59.1.l x → MB b15 y → x ≠ y := fun x y hx hy => (g64 x hx).elim (fun h e => Nat.lt_irrefl _ (Nat.lt_of_lt_of_le ((MB.lt H19 (Nat.le_refl _)) y hy) (e ▸ h))) (fun h => (ne_of (MR.lt H4 (Nat.le_refl _)) (ge_blk g21)) x y h hy)
  have nf65_27 : ∀ x y, MR A61 r59.1.l x → MB b22 y → x ≠ y := fun x y hx hy => (g64 x hx).elim (fun h e => Nat.lt_irrefl _ (Nat.lt_of_lt_of_le ((MB.lt H25 (Nat.le_refl _)) y hy) (e ▸ h))) (fun h => (ne_of (MR.lt H4 (Nat.le_refl _)) (ge_blk g27)) x y h hy)
  replace hB := below_ext hB e57
  replace H12 := H12.ext e57
  replace H19 := H19.ext e57
  replace H25 := H25.ext e57
  clear e57
  refine XO.do rfl (D.mv (v := .tuple #[.agg #[S r59.1.s, .slice A61 r59.1.l.length k62], .int .i64 r59.2]) rfl rfl ?_)
  refine XO.do rfl (D.extract (v := .agg #[S r59.1.s, .slice A61 r59.1.l.length k62]) rfl rfl rfl ?_)
  refine XO.do rfl (D.extract (v := .int .i64 r59.2) rfl rfl rfl ?_)
  refine XO.do rfl (D.alloc ti39 (cs := [S [], .slice none 0 0]) rfl rfl ?_)
  intro b66 w67 hb68 H69 e70 _
  have lt_14_71 : ∀ x, MB b9 x → x < b66 := (MB.lt H12 (Nat.le_of_eq hb68.symm))
  have lt_21_71 : ∀ x, MB b15 x → x < b66 := (MB.lt H19 (Nat.le_of_eq hb68.symm))
  have lt_27_71 : ∀ x, MB b22 x → x < b66 := (MB.lt H25 (Nat.le_of_eq hb68.symm))
  have lt_65_71 : ∀ x, MR A61 r59.1.l x → x < b66 := (MR.lt H63 (Nat.le_of_eq hb68.symm))
  have g71 : w.heap.size ≤ b66 := Nat.le_trans hB.size (Nat.le_of_eq hb68.symm)
  clear hb68
  replace hB := below_ext hB e70
  replace H12 := H12.ext e70
  replace H19 := H19.ext e70
  replace H25 := H25.ext e70
  replace H63 := H63.ext e70
  clear e70
  refine XO.do rfl (D.store (v := .agg #[S r59.1.s, .slice A61 r59.1.l.length k62]) (us := [S r59.1.s, .slice A61 r59.1.l.length k62]) sz39 H69 rfl rfl rfl rfl rfl rfl ?_)
  intro w72 H73 e74
  replace hB := below_blk hB e74 g71
  replace H12 := H12.gr e74 (sepB (ne_of lt_14_71 (MB.ge b66)))
  replace H19 := H19.gr e74 (sepB (ne_of lt_21_71 (MB.ge b66)))
  replace H25 := H25.gr e74 (sepB (ne_of lt_27_71 (MB.ge b66)))
  replace H63 := H63.gr e74 (sepB (ne_of lt_65_71 (MB.ge b66)))
  clear e74
  refine XO.do rfl (D.asn (v := .int .i64 r59.2) rfl rfl ?_)
  refine XO.nil ?_
  refine hM54 _ _ ?_
  refine X.seq fun M75 hM76 => ?_
  refine X.tree mixed0 [0, 0, 2, 6, 14, 31, 63] (.q 0 (.q 1 (.q 2 (.q 3 (.q 4 (.alt 5 (.alt 6 .nil .nil) .nil)))))) (fun w' => Below w.heap.size w w' ∧ Blk w' b9 [S a1.s, .slice A2 a1.l.length k3] 39 ∧ Blk w' b15 [S a6.name, .int .u16 a6.ty, .int .u16 a6.cls, .int .u32 a6.ttl, S a6.data] 25 ∧ Blk w' b22 [S [], .slice none 0 0] 39 ∧ Row ePlace w' A61 k62 r59.1.l) (fun w' => Below w.heap.size w w' ∧ Blk w' b9 [S a1.s, .slice A2 a1.l.length k3] 39 ∧ Blk w' b15 [S a6.name, .int .u16 a6.ty, .int .u16 a6.cls, .int .u32 a6.ttl, S a6.data] 25 ∧ Blk w' b22 [S [], .slice none 0 0] 39 ∧ Row ePlace w' A61 k62 r59.1.l ∧ Blk w' b66 [S r59.1.s, .slice A61 r59.1.l.length k62] 39) (by decide +kernel) (fun w' hx _ => ⟨below_ext hB hx, H12.ext hx, H19.ext hx, H25.ext hx, H63.ext hx, H73.ext hx⟩) (fun a b hC hx => by obtain ⟨hB, H12, H19, H25, H63, H73⟩ := hC; exact ⟨below_ext hB hx, H12.ext hx, H19.ext hx, H25.ext hx, H63.ext hx, H73.ext hx⟩) (fun a hC => by obtain ⟨hB, H12, H19, H25, H63, H73⟩ := hC; exact ⟨hB, H12, H19, H25, H63⟩) ?_
  refine QT.do (v := .agg #[S r59.1.s, .slice A61 r59.1.l.length k62]) rfl (by decide +kernel) rfl rfl rfl (fun w' hJ => by obtain ⟨hB, H12, H19, H25, H63, H73⟩ := hJ; exact D.loadA (j := 0) (us := [S r59.1.s, .slice A61 r59.1.l.length k62]) ag39 H73.cs rfl rfl rfl rfl rfl ⟨rfl, Ext.refl _⟩) ?_
  refine QT.do (v := pt b15 3) rfl (by decide +kernel) rfl rfl rfl (fun w' hJ => by obtain ⟨hB, H12, H19, H25, H63, H73⟩ := hJ; exact D.fieldAddr (o' := 3) fa25_3 rfl rfl rfl ⟨rfl, Ext.refl _⟩) ?_
  refine QT.do (v := .int .u32 a6.ttl) rfl (by decide +kernel) rfl rfl rfl (fun w' hJ => by obtain ⟨hB, H12, H19, H25, H63, H73⟩ := hJ; exact D.load (j := 3) (v := .int .u32 a6.ttl) sc23 H19.cs rfl rfl rfl rfl ⟨rfl, Ext.refl _⟩) ?_
  rcases (Classical.em (derrickref01_Put32.pre a6.ttl)).symm with c100 | c100
  ·rw [if_neg c100] at h; cases h
  rw [if_pos c100] at h
  obtain ⟨r104, q105, h⟩ := lt_elim h
  refine QT.do (v := S r104) rfl (by decide +kernel) rfl rfl rfl (fun w' hJ => by obtain ⟨hB, H12, H19, H25, H63, H73⟩ := hJ; have hc := derrickref01_Put32.ok a6.ttl w' c100; rw [q105] at hc; refine D.call (vs := [.int .u32 a6.ttl]) cf39 hc rfl rfl ?_; rintro _ w2 ⟨rfl, e2⟩; exact ⟨rfl, e2⟩) ?_
  rcases (Classical.em (r104.length + ([0, 0] : Str).length ≤ 9223372036854775807)).symm with c106 | c106
  ·rw [if_neg c106] at h; cases h
  rw [if_pos c106] at h
  refine QT.do (v := S (r104 ++ [0, 0])) rfl (by decide +kernel) rfl rfl rfl (fun w' hJ => by obtain ⟨hB, H12, H19, H25, H63, H73⟩ := hJ; exact D.addS rfl rfl c106 rfl ⟨rfl, Ext.refl _⟩) ?_
  refine QT.eff rfl rfl (fun w107 hC => ?_) QT.nomore
  obtain ⟨hB, H12, H19, H25, H63, H73⟩ := hC
  rcases (Classical.em (derrickref03_Add.pre r59.1 (r104 ++ [0, 0]))).symm with c108 | c108
  ·rw [if_neg c108] at h; cases h
  rw [if_pos c108] at h
  obtain ⟨r112, q113, h⟩ := lt_elim h
  have hc111 := derrickref03_Add.ok r59.1 (r104 ++ [0, 0]) A61 k62 w107 H63 c108 
  rw [q113] at hc111
  clear q113
  refine D.call (vs := [.agg #[S r59.1.s, .slice A61 r59.1.l.length k62], S (r104 ++ [0, 0])]) cf33 hc111 rfl rfl ?_
  rintro _ w109 ⟨A114, k115, rfl, H116, g117, e110⟩
  clear hc111
  have og118 : (∀ y, MR A114 r112.l y → w.heap.size ≤ y ∨ MR A2 a1.l y) := fun y hy => (g117 y hy).elim (fun h => .inl (Nat.le_trans hB.size h)) (fun h => og65 y h)
  have nf118_14 : ∀ x y, MR A114 r112.l x → MB b9 y → x ≠ y := fun x y hx hy => (g117 x hx).elim (fun h e => Nat.lt_irrefl _ (Nat.lt_of_lt_of_le ((MB.lt H12 (Nat.le_refl _)) y hy) (e ▸ h))) (fun h => nf65_14 x y h hy)
  have nf118_21 : ∀ x y, MR A114 r112.l x → MB b15 y → x ≠ y := fun x y hx hy => (g117 x hx).elim (fun h e => Nat.lt_irrefl _ (Nat.lt_of_lt_of_le ((MB.lt H19 (Nat.le_refl _)) y hy) (e ▸ h))) (fun h => nf65_21 x y h hy)
  have nf118_27 : ∀ x y, MR A114 r112.l x → MB b22 y → x ≠ y := fun x y hx hy => (g117 x hx).elim (fun h e => Nat.lt_irrefl _ (Nat.lt_of_lt_of_le ((MB.lt H25 (Nat.le_refl _)) y hy) (e ▸ h))) (fun h => nf65_27 x y h hy)
  have nf118_71 : ∀ x y, MR A114 r112.l x → MB b66 y → x ≠ y := fun x y hx hy => (g117 x hx).elim (fun h e => Nat.lt_irrefl _ (Nat.lt_of_lt_of_le ((MB.lt H73 (Nat.le_refl _)) y hy) (e ▸ h))) (fun h => (ne_of lt_65_71 (MB.ge b66)) x y h hy)
  replace hB := below_ext hB e110
  replace H12 := H12.ext e110
  replace H19 := H19.ext e110
  replace H25 := H25.ext e110
  replace H63 := H63.ext e110
  replace H73 := H73.ext e110
  clear e110
  refine ⟨_, rfl, (fun w' => Below w.heap.size w w' ∧ Blk w' b9 [S a1.s, .slice A2 a1.l.length k3] 39 ∧ Blk w' b15 [S a6.name, .int .u16 a6.ty, .int .u16 a6.cls, .int .u32 a6.ttl, S a6.data] 25 ∧ Blk w' b22 [S [], .slice none 0 0] 39 ∧ Row ePlace w' A61 k62 r59.1.l ∧ Blk w' b66 [S r59.1.s, .slice A61 r59.1.l.length k62] 39 ∧ Row ePlace w' A114 k115 r112.l), ⟨hB, H12, H19, H25, H63, H73, H116⟩, (fun a b hC hx => by obtain ⟨hB, H12, H19, H25, H63, H73, H116⟩ := hC; exact ⟨below_ext hB hx, H12.ext hx, H19.ext hx, H25.ext hx, H63.ext hx, H73.ext hx, H116.ext hx⟩), (fun a hC => by obtain ⟨hB, H12, H19, H25, H63, H73, H116⟩ := hC; exact ⟨hB, H12, H19, H25, H63⟩), ?_⟩
  refine QT.eff rfl rfl (fun w119 hC => ?_) QT.nomore
  obtain ⟨hB, H12, H19, H25, H63, H73, H116⟩ := hC
  refine D.store (v := .agg #[S r112.s, .slice A114 r112.l.length k115]) (us := [S r112.s, .slice A114 r112.l.length k115]) sz39 H73 rfl rfl rfl rfl rfl rfl ?_
  intro w120 H121 e122
  replace hB := below_blk hB e122 g71
  replace H12 := H12.gr e122 (sepB (ne_of lt_14_71 (MB.ge b66)))
  replace H19 := H19.gr e122 (sepB (ne_of lt_21_71 (MB.ge b66)))
  replace H25 := H25.gr e122 (sepB (ne_of lt_27_71 (MB.ge b66)))
  replace H63 := H63.gr e122 (sepB (ne_of lt_65_71 (MB.ge b66)))
  replace H116 := H116.gr e122 (sepB nf118_71)
  clear e122
  refine ⟨undef, rfl, (fun w' => Below w.heap.size w w' ∧ Blk w' b9 [S a1.s, .slice A2 a1.l.length k3] 39 ∧ Blk w' b15 [S a6.name, .int .u16 a6.ty, .int .u16 a6.cls, .int .u32 a6.ttl, S a6.data] 25 ∧ Blk w' b22 [S [], .slice none 0 0] 39 ∧ Row ePlace w' A61 k62 r59.1.l ∧ Blk w' b66 [S r112.s, .slice A114 r112.l.length k115] 39 ∧ Row ePlace w' A114 k115 r112.l), ⟨hB, H12, H19, H25, H63, H121, H116⟩, (fun a b hC hx => by obtain ⟨hB, H12, H19, H25, H63, H121, H116⟩ := hC; exact ⟨below_ext hB hx, H12.ext hx, H19.ext hx, H25.ext hx, H63.ext hx, H121.ext hx, H116.ext hx⟩), (fun a hC => by obtain ⟨hB, H12, H19, H25, H63, H121, H116⟩ := hC; exact ⟨hB, H12, H19, H25, H63⟩), ?_⟩
  refine QT.nil fun w123 hC => ?_
  obtain ⟨hB, H12, H19, H25, H63, H121, H116⟩ := hC
  refine hM76 _ _ ?_
  refine X.seq fun M124 hM125 => ?_
  refine X.region ?_
  refine XO.do rfl (D.fieldAddr (o' := 0) fa39_0 rfl rfl rfl ?_)
  refine XO.do rfl (D.load (j := 0) (v := S r112.s) sc9 H121.cs rfl rfl rfl rfl ?_)
  refine XO.do rfl (D.lenS Try.underlying9 rfl rfl ?_)
  refine XO.do rfl (D.asn (v := .int .i64 (r112.s.length : Int)) rfl rfl ?_)
  refine XO.nil ?_
  refine hM125 _ _ ?_
  refine X.seq fun M126 hM127 => ?_
  refine X.region ?_
  refine XO.do rfl (D.loadA (j := 0) (us := [S r112.s, .slice A114 r112.l.length k115]) ag39 H121.cs rfl rfl rfl rfl rfl ?_)
  refine XO.do rfl (D.fieldAddr (o' := 1) fa25_1 rfl rfl rfl ?_)
  refine XO.do rfl (D.load (j := 1) (v := .int .u16 a6.ty) sc22 H19.cs rfl rfl rfl rfl ?_)
  refine XO.do rfl (D.fieldAddr (o' := 4) fa25_4 rfl rfl rfl ?_)
  refine XO.do rfl (D.load (j := 4) (v := S a6.data) sc9 H19.cs rfl rfl rfl rfl ?_)
  rcases (Classical.em (derrickref04_Put.pre r112 a6.ty a6.data)).symm with c128 | c128
  ·rw [if_neg c128] at h; cases h
  rw [if_pos c128] at h
  obtain ⟨r132, q133, h⟩ := lt_elim h
  have hc131 := derrickref04_Put.ok r112 a6.ty a6.data A114 k115 w123 H116 c128 
  rw [q133] at hc131
  clear q133
  refine XO.do rfl (D.call (vs := [.agg #[S r112.s, .slice A114 r112.l.length k115], .int .u16 a6.ty, S a6.data]) cf40 hc131 rfl rfl ?_)
  rintro _ w129 ⟨A134, k135, rfl, H136, g137, e130⟩
  clear hc131
  have og138 : (∀ y, MR A134 r132.1.l y → w.heap.size ≤ y ∨ MR A2 a1.l y) := fun y hy => (g137 y hy).elim (fun h => .inl (Nat.le_trans hB.size h)) (fun h => og118 y h)
  have nf138_14 : ∀ x y, MR A134 r132.1.l x → MB b9 y → x ≠ y := fun x y hx hy => (g137 x hx).elim (fun h e => Nat.lt_irrefl _ (Nat.lt_of_lt_of_le ((MB.lt H12 (Nat.le_refl _)) y hy) (e ▸ h))) (fun h => nf118_14 x y h hy)
  have nf138_21 : ∀ x y, MR A134 r132.1.l x → MB b15 y → x ≠ y := fun x y hx hy => (g137 x hx).elim (fun h e => Nat.lt_irrefl _ (Nat.lt_of_lt_of_le ((MB.lt H19 (Nat.le_refl _)) y hy) (e ▸ h))) (fun h => nf118_21 x y h hy)
  have nf138_27 : ∀ x y, MR A134 r132.1.l x → MB b22 y → x ≠ y := fun x y hx hy => (g137 x hx).elim (fun h e => Nat.lt_irrefl _ (Nat.lt_of_lt_of_le ((MB.lt H25 (Nat.le_refl _)) y hy) (e ▸ h))) (fun h => nf118_27 x y h hy)
  have nf138_71 : ∀ x y, MR A134 r132.1.l x → MB b66 y → x ≠ y := fun x y hx hy => (g137 x hx).elim (fun h e => Nat.lt_irrefl _ (Nat.lt_of_lt_of_le ((MB.lt H121 (Nat.le_refl _)) y hy) (e ▸ h))) (fun h => nf118_71 x y h hy)
  replace hB := below_ext hB e130
  replace H12 := H12.ext e130
  replace H19 := H19.ext e130
  replace H25 := H25.ext e130
  replace H63 := H63.ext e130
  replace H121 := H121.ext e130
  replace H116 := H116.ext e130
  clear e130
  refine XO.do rfl (D.mv (v := .tuple #[.agg #[S r132.1.s, .slice A134 r132.1.l.length k135], .int .i64 r132.2]) rfl rfl ?_)
  refine XO.do rfl (D.extract (v := .agg #[S r132.1.s, .slice A134 r132.1.l.length k135]) rfl rfl rfl ?_)
  refine XO.do rfl (D.extract (v := .int .i64 r132.2) rfl rfl rfl ?_)
  refine XO.do rfl (D.store (v := .agg #[S r132.1.s, .slice A134 r132.1.l.length k135]) (us := [S r132.1.s, .slice A134 r132.1.l.length k135]) sz39 H121 rfl rfl rfl rfl rfl rfl ?_)
  intro w139 H140 e141
  replace hB := below_blk hB e141 g71
  replace H12 := H12.gr e141 (sepB (ne_of lt_14_71 (MB.ge b66)))
  replace H19 := H19.gr e141 (sepB (ne_of lt_21_71 (MB.ge b66)))
  replace H25 := H25.gr e141 (sepB (ne_of lt_27_71 (MB.ge b66)))
  replace H63 := H63.gr e141 (sepB (ne_of lt_65_71 (MB.ge b66)))
  replace H116 := H116.gr e141 (sepB nf118_71)
  replace H136 := H136.gr e141 (sepB nf138_71)
  clear e141
  refine XO.nil ?_
  refine hM127 _ _ ?_
  refine X.seq fun M142 hM143 => ?_
  refine X.region ?_
  refine XO.do rfl (D.fieldAddr (o' := 0) fa39_0 rfl rfl rfl ?_)
  refine XO.do rfl (D.load (j := 0) (v := S r132.1.s) sc9 H140.cs rfl rfl rfl rfl ?_)
  refine XO.do rfl (D.lenS Try.underlying9 rfl rfl ?_)
  refine XO.do rfl (D.mv (v := .int .i64 (r112.s.length : Int)) rfl rfl ?_)
  refine XO.do rfl (D.sub rfl rfl rfl ?_)
  refine XO.do rfl (D.asn (v := .int .i64 (w64 ((r132.1.s.length : Int) - (r112.s.length : Int)))) rfl rfl ?_)
  refine XO.nil ?_
  refine hM143 _ _ ?_
  refine X.seq fun M144 hM145 => ?_
  refine X.tree mixed0 [0, 1, 0, 4, 15, 0, 32, 96, 255, 0, 512, 0, 3584, 8191, 16383, 32767] (.q 0 (.q 1 (.q 2 (.q 3 (.q 4 (.q 5 (.q 6 (.q 7 (.q 8 (.q 9 (.q 10 (.q 11 (.q 12 (.q 13 (.q 14 (.alt 15 .nil .nil)))))))))))))))) (fun w' => Below w.heap.size w w' ∧ Blk w' b9 [S a1.s, .slice A2 a1.l.length k3] 39 ∧ Blk w' b15 [S a6.name, .int .u16 a6.ty, .int .u16 a6.cls, .int .u32 a6.ttl, S a6.data] 25 ∧ Blk w' b22 [S [], .slice none 0 0] 39 ∧ Row ePlace w' A61 k62 r59.1.l ∧ Row ePlace w' A114 k115 r112.l ∧ Row ePlace w' A134 k135 r132.1.l) (fun w' => Below w.heap.size w w' ∧ Blk w' b9 [S a1.s, .slice A2 a1.l.length k3] 39 ∧ Blk w' b15 [S a6.name, .int .u16 a6.ty, .int .u16 a6.cls, .int .u32 a6.ttl, S a6.data] 25 ∧ Blk w' b22 [S [], .slice none 0 0] 39 ∧ Row ePlace w' A61 k62 r59.1.l ∧ Blk w' b66 [S r132.1.s, .slice A134 r132.1.l.length k135] 39 ∧ Row ePlace w' A114 k115 r112.l ∧ Row ePlace w' A134 k135 r132.1.l) (by decide +kernel) (fun w' hx _ => ⟨below_ext hB hx, H12.ext hx, H19.ext hx, H25.ext hx, H63.ext hx, H140.ext hx, H116.ext hx, H136.ext hx⟩) (fun a b hC hx => by obtain ⟨hB, H12, H19, H25, H63, H140, H116, H136⟩ := hC; exact ⟨below_ext hB hx, H12.ext hx, H19.ext hx, H25.ext hx, H63.ext hx, H140.ext hx, H116.ext hx, H136.ext hx⟩) (fun a hC => by obtain ⟨hB, H12, H19, H25, H63, H140, H116, H136⟩ := hC; exact ⟨hB, H12, H19, H25, H63, H116, H136⟩) ?_
  refine QT.do (v := pt b66 0) rfl (by decide +kernel) rfl rfl rfl (fun w' hJ => by obtain ⟨hB, H12, H19, H25, H63, H140, H116, H136⟩ := hJ; exact D.fieldAddr (o' := 0) fa39_0 rfl rfl rfl ⟨rfl, Ext.refl _⟩) ?_
  refine QT.do (v := S r132.1.s) rfl (by decide +kernel) rfl rfl rfl (fun w' hJ => by obtain ⟨hB, H12, H19, H25, H63, H140, H116, H136⟩ := hJ; exact D.load (j := 0) (v := S r132.1.s) sc9 H140.cs rfl rfl rfl rfl ⟨rfl, Ext.refl _⟩) ?_
  refine QT.do (v := .int .i64 (r112.s.length : Int)) rfl (by decide +kernel) rfl rfl rfl (fun w' hJ => by obtain ⟨hB, H12, H19, H25, H63, H140, H116, H136⟩ := hJ; exact D.mv (v := .int .i64 (r112.s.length : Int)) rfl rfl ⟨rfl, Ext.refl _⟩) ?_
  refine QT.do (v := .int .i64 (w64 ((r112.s.length : Int) - 2))) rfl (by decide +kernel) rfl rfl rfl (fun w' hJ => by obtain ⟨hB, H12, H19, H25, H63, H140, H116, H136⟩ := hJ; exact D.sub rfl rfl rfl ⟨rfl, Ext.refl _⟩) ?_
  rcases (Classical.em (0 ≤ w64 ((r112.s.length : Int) - 2))).symm with c160 | c160
  ·rw [if_neg c160] at h; cases h
  rw [if_pos c160] at h
  rcases (Classical.em (w64 ((r112.s.length : Int) - 2) ≤ (r132.1.s.length : Int))).symm with c161 | c161
  ·rw [if_neg c161] at h; cases h
  rw [if_pos c161] at h
  refine QT.do (v := S (r132.1.s.take (w64 ((r112.s.length : Int) - 2)).toNat)) rfl (by decide +kernel) rfl rfl rfl (fun w' hJ => by obtain ⟨hB, H12, H19, H25, H63, H140, H116, H136⟩ := hJ; exact D.sliceShi (j := w64 ((r112.s.length : Int) - 2)) Try.underlying9 rfl rfl c160 c161 rfl ⟨rfl, Ext.refl _⟩) ?_
  refine QT.do (v := .int .i64 (w64 ((r132.1.s.length : Int) - (r112.s.length : Int)))) rfl (by decide +kernel) rfl rfl rfl (fun w' hJ => by obtain ⟨hB, H12, H19, H25, H63, H140, H116, H136⟩ := hJ; exact D.mv (v := .int .i64 (w64 ((r132.1.s.length : Int) - (r112.s.length : Int)))) rfl rfl ⟨rfl, Ext.refl _⟩) ?_
  refine QT.do (v := .int .u16 (w16 (w64 ((r132.1.s.length : Int) - (r112.s.length : Int))))) rfl (by decide +kernel) rfl rfl rfl (fun w' hJ => by obtain ⟨hB, H12, H19, H25, H63, H140, H116, H136⟩ := hJ; exact D.conv Try.underlying3 Try.underlying22 rfl rfl ⟨rfl, Ext.refl _⟩) ?_
  obtain ⟨r165, q166, h⟩ := lt_elim h
  refine QT.do (v := S r165) rfl (by decide +kernel) rfl rfl rfl (fun w' hJ => by obtain ⟨hB, H12, H19, H25, H63, H140, H116, H136⟩ := hJ; have hc := derrickref01_Put16.ok (w16 (w64 ((r132.1.s.length : Int) - (r112.s.length : Int)))) w'; rw [q166] at hc; refine D.call (vs := [.int .u16 (w16 (w64 ((r132.1.s.length : Int) - (r112.s.length : Int))))]) cf34 hc rfl rfl ?_; rintro _ w2 ⟨rfl, e2⟩; exact ⟨rfl, e2⟩) ?_
  rcases (Classical.em ((r132.1.s.take (w64 ((r112.s.length : Int) - 2)).toNat).length + r165.length ≤ 9223372036854775807)).symm with c167 | c167
  ·rw [if_neg c167] at h; cases h
  rw [if_pos c167] at h
  refine QT.do (v := S ((r132.1.s.take (w64 ((r112.s.length : Int) - 2)).toNat) ++ r165)) rfl (by decide +kernel) rfl rfl rfl (fun w' hJ => by obtain ⟨hB, H12, H19, H25, H63, H140, H116, H136⟩ := hJ; exact D.addS rfl rfl c167 rfl ⟨rfl, Ext.refl _⟩) ?_
  refine QT.do (v := pt b66 0) rfl (by decide +kernel) rfl rfl rfl (fun w' hJ => by obtain ⟨hB, H12, H19, H25, H63, H140, H116, H136⟩ := hJ; exact D.fieldAddr (o' := 0) fa39_0 rfl rfl rfl ⟨rfl, Ext.refl _⟩) ?_
  refine QT.do (v := S r132.1.s) rfl (by decide +kernel) rfl rfl rfl (fun w' hJ => by obtain ⟨hB, H12, H19, H25, H63, H140, H116, H136⟩ := hJ; exact D.load (j := 0) (v := S r132.1.s) sc9 H140.cs rfl rfl rfl rfl ⟨rfl, Ext.refl _⟩) ?_
  refine QT.do (v := .int .i64 (r112.s.length : Int)) rfl (by decide +kernel) rfl rfl rfl (fun w' hJ => by obtain ⟨hB, H12, H19, H25, H63, H140, H116, H136⟩ := hJ; exact D.mv (v := .int .i64 (r112.s.length : Int)) rfl rfl ⟨rfl, Ext.refl _⟩) ?_
  rcases (Classical.em ((r112.s.length : Int) ≤ (r132.1.s.length : Int))).symm with c168 | c168
  ·rw [if_neg c168] at h; cases h
  rw [if_pos c168] at h
  refine QT.do (v := S (r132.1.s.drop (r112.s.length : Int).toNat)) rfl (by decide +kernel) rfl rfl rfl (fun w' hJ => by obtain ⟨hB, H12, H19, H25, H63, H140, H116, H136⟩ := hJ; exact D.sliceSlo (i := (r112.s.length : Int)) Try.underlying9 rfl rfl (by first | decide | simp | omega) c168 rfl ⟨rfl, Ext.refl _⟩) ?_
  rcases (Classical.em (((r132.1.s.take (w64 ((r112.s.length : Int) - 2)).toNat) ++ r165).length + (r132.1.s.drop (r112.s.length : Int).toNat).length ≤ 9223372036854775807)).symm with c169 | c169
  ·rw [if_neg c169] at h; cases h
  rw [if_pos c169] at h
  refine QT.do (v := S (((r132.1.s.take (w64 ((r112.s.length : Int) - 2)).toNat) ++ r165) ++ (r132.1.s.drop (r112.s.length : Int).toNat))) rfl (by decide +kernel) rfl rfl rfl (fun w' hJ => by obtain ⟨hB, H12, H19, H25, H63, H140, H116, H136⟩ := hJ; exact D.addS rfl rfl c169 rfl ⟨rfl, Ext.refl _⟩) ?_
  refine QT.do (v := pt b66 0) rfl (by decide +kernel) rfl rfl rfl (fun w' hJ => by obtain ⟨hB, H12, H19, H25, H63, H140, H116, H136⟩ := hJ; exact D.fieldAddr (o' := 0) fa39_0 rfl rfl rfl ⟨rfl, Ext.refl _⟩) ?_
  refine QT.eff rfl rfl (fun w170 hC => ?_) QT.nomore
  obtain ⟨hB, H12, H19, H25, H63, H140, H116, H136⟩ := hC
  refine D.store (v := S (((r132.1.s.take (w64 ((r112.s.length : Int) - 2)).toNat) ++ r165) ++ (r132.1.s.drop (r112.s.length : Int).toNat))) (us := [S (((r132.1.s.take (w64 ((r112.s.length : Int) - 2)).toNat) ++ r165) ++ (r132.1.s.drop (r112.s.length : Int).toNat)), .slice A134 r132.1.l.length k135]) sz9 H140 rfl rfl rfl rfl rfl rfl ?_
  intro w171 H172 e173
  replace hB := below_blk hB e173 g71
  replace H12 := H12.gr e173 (sepB (ne_of lt_14_71 (MB.ge b66)))
  replace H19 := H19.gr e173 (sepB (ne_of lt_21_71 (MB.ge b66)))
  replace H25 := H25.gr e173 (sepB (ne_of lt_27_71 (MB.ge b66)))
  replace H63 := H63.gr e173 (sepB (ne_of lt_65_71 (MB.ge b66)))
  replace H116 := H116.gr e173 (sepB nf118_71)
  replace H136 := H136.gr e173 (sepB nf138_71)
  clear e173
  refine ⟨undef, rfl, (fun w' => Below w.heap.size w w' ∧ Blk w' b9 [S a1.s, .slice A2 a1.l.length k3] 39 ∧ Blk w' b15 [S a6.name, .int .u16 a6.ty, .int .u16 a6.cls, .int .u32 a6.ttl, S a6.data] 25 ∧ Blk w' b22 [S [], .slice none 0 0] 39 ∧ Row ePlace w' A61 k62 r59.1.l ∧ Blk w' b66 [S (((r132.1.s.take (w64 ((r112.s.length : Int) - 2)).toNat) ++ r165) ++ (r132.1.s.drop (r112.s.length : Int).toNat)), .slice A134 r132.1.l.length k135] 39 ∧ Row ePlace w' A114 k115 r112.l ∧ Row ePlace w' A134 k135 r132.1.l), ⟨hB, H12, H19, H25, H63, H172, H116, H136⟩, (fun a b hC hx => by obtain ⟨hB, H12, H19, H25, H63, H172, H116, H136⟩ := hC; exact ⟨below_ext hB hx, H12.ext hx, H19.ext hx, H25.ext hx, H63.ext hx, H172.ext hx, H116.ext hx, H136.ext hx⟩), (fun a hC => by obtain ⟨hB, H12, H19, H25, H63, H172, H116, H136⟩ := hC; exact ⟨hB, H12, H19, H25, H63, H116, H136⟩), ?_⟩
  refine QT.nil fun w174 hC => ?_
  obtain ⟨hB, H12, H19, H25, H63, H172, H116, H136⟩ := hC
  refine hM145 _ _ ?_
  refine X.seq fun M175 hM176 => ?_
  refine X.region ?_
  refine XO.do rfl (D.loadA (j := 0) (us := [S (((r132.1.s.take (w64 ((r112.s.length : Int) - 2)).toNat) ++ r165) ++ (r132.1.s.drop (r112.s.length : Int).toNat)), .slice A134 r132.1.l.length k135]) ag39 H172.cs rfl rfl rfl rfl rfl ?_)
  refine XO.do rfl (D.store (v := .agg #[S (((r132.1.s.take (w64 ((r112.s.length : Int) - 2)).toNat) ++ r165) ++ (r132.1.s.drop (r112.s.length : Int).toNat)), .slice A134 r132.1.l.length k135]) (us := [S (((r132.1.s.take (w64 ((r112.s.length : Int) - 2)).toNat) ++ r165) ++ (r132.1.s.drop (r112.s.length : Int).toNat)), .slice A134 r132.1.l.length k135]) sz39 H25 rfl rfl rfl rfl rfl rfl ?_)
  intro w177 H178 e179
  replace hB := below_blk hB e179 g27
  replace H12 := H12.gr e179 (sepB (ne_of lt_14_27 (MB.ge b22)))
  replace H19 := H19.gr e179 (sepB (ne_of lt_21_27 (MB.ge b22)))
  replace H63 := H63.gr e179 (sepB nf65_27)
  replace H172 := H172.gr e179 (sepB (ne_flip (ne_of lt_27_71 (MB.ge b66))))
  replace H116 := H116.gr e179 (sepB nf118_27)
  replace H136 := H136.gr e179 (sepB nf138_27)
  clear e179
  refine XO.do rfl (D.asn (v := .int .i64 0) rfl rfl ?_)
  refine XO.nil ?_
  refine hM176 _ _ ?_
  refine X.ret ?_
  injection h with h
  subst h
  exact hR _ _ _ (retCT ag39 H178 rfl rfl rfl rfl) ⟨A134, k135, rfl, H136, (fun y hy => og138 y hy), ext_of_below hB⟩
 ·rw [if_neg c52] at h
  refine X.condT (congrArg Value.bool ((congrArg (!·) ((Bool.eq_false_iff.2 c52))))) ?_
  refine X.seq fun M180 hM181 => ?_
  refine X.region ?_
  refine XO.do rfl (D.loadA (j := 0) (us := [S a1.s, .slice A2 a1.l.length k3]) ag39 H12.cs rfl rfl rfl rfl rfl ?_)
  refine XO.do rfl (D.store (v := .agg #[S a1.s, .slice A2 a1.l.length k3]) (us := [S a1.s, .slice A2 a1.l.length k3]) sz39 H25 rfl rfl rfl rfl rfl rfl ?_)
  intro w182 H183 e184
  replace hB := below_blk hB e184 g27
  replace H12 := H12.gr e184 (sepB (ne_of lt_14_27 (MB.ge b22)))
  replace H19 := H19.gr e184 (sepB (ne_of lt_21_27 (MB.ge b22)))
  clear e184
  refine XO.do rfl (D.asn (v := .int .i64 1) rfl rfl ?_)
  refine XO.nil ?_
  refine hM181 _ _ ?_
  refine X.ret ?_
  injection h with h
  subst h
  exact hR _ _ _ (retCT ag39 H183 rfl rfl rfl rfl) ⟨A2, k3, rfl, (H4.below hB), (fun y hy => (.inr hy)), ext_of_below hB⟩
theorem derrickref05_Put.ok (a1 : RPack) (a6 : RR) (A2 : Option Addr) (k3 : Nat) (w : World) (H4 : Row ePlace w A2 k3 a1.l) (hp : derrickref05_Put.pre a1 a6) :
  Ret Try.prog 16 ([.agg #[S a1.s, .slice A2 a1.l.length k3], .agg #[S a6.name, .int .u16 a6.ty, .int .u16 a6.cls, .int .u32 a6.ttl, S a6.data]] : List Value).toArray w fun v w' => ∃ (A1 : Option Addr) (k1 : Nat), v = .tuple #[.agg #[S ((derrickref05_Put a1 a6).1.s), .slice A1 ((derrickref05_Put a1 a6).1.l).length k1], .int .i64 ((derrickref05_Put a1 a6).2)] ∧ Row ePlace w' A1 k1 ((derrickref05_Put a1 a6).1.l) ∧ (∀ y, MR A1 ((derrickref05_Put a1 a6).1.l) y → w.heap.size ≤ y ∨ MR A2 a1.l y) ∧ Ext w w' := by
 have h := derrickref05_Put.eq a1 a6 hp
 exact derrickref05_Put.walk  a1 a6 A2 k3 w H4 _ h
theorem derrickref05_Take.walk (a1 : Str) (a2 : Int)  (w : World)  (res : RR × Int × Int) (h : derrickref05_Take.f a1 a2 = some res) :
  Ret Try.prog 19 ([S a1, .int .i64 a2] : List Value).toArray w fun v w' => v = .tuple #[.agg #[S res.1.name, .int .u16 res.1.ty, .int .u16 res.1.cls, .int .u32 res.1.ttl, S res.1.data], .int .i64 res.2.1, .int .i64 res.2.2] ∧ Ext w w' := by
 unfold derrickref05_Take.f at h
 refine enterX Try.func19 rfl Try.ntmps19 rfl (fun R hR => ?_)
 have hB := Below.refl w.heap.size w
 refine X.seq fun M3 hM4 => ?_
 refine X.region ?_
 refine XO.do rfl (D.alloc ti25 (cs := [S [], .int .u16 0, .int .u16 0, .int .u32 0, S []]) rfl rfl ?_)
 intro b5 w6 hb7 H8 e9 _
 have g10 : w.heap.size ≤ b5 := Nat.le_trans hB.size (Nat.le_of_eq hb7.symm)
 clear hb7
 replace hB := below_ext hB e9
 clear e9
 refine XO.do rfl (D.asn (v := .int .i64 0) rfl rfl ?_)
 refine XO.do rfl (D.asn (v := .int .i64 0) rfl rfl ?_)
 refine XO.nil ?_
 refine hM4 _ _ ?_
 refine X.seq fun M11 hM12 => ?_
 refine X.region ?_
 refine XO.do rfl (D.mv (v := S a1) rfl rfl ?_)
 refine XO.do rfl (D.mv (v := .int .i64 a2) rfl rfl ?_)
 rcases (Classical.em (derrickref05_TakeQ.pre a1 a2)).symm with c13 | c13
 ·rw [if_neg c13] at h; cases h
 rw [if_pos c13] at h
 obtain ⟨r17, q18, h⟩ := lt_elim h
 have hc16 := derrickref05_TakeQ.ok a1 a2 w6 c13 
 rw [q18] at hc16
 clear q18
 refine XO.do rfl (D.call (vs := [S a1, .int .i64 a2]) cf21 hc16 rfl rfl ?_)
 rintro _ w14 ⟨rfl, e15⟩
 clear hc16
 replace hB := below_ext hB e15
 replace H8 := H8.ext e15
 clear e15
 refine XO.do rfl (D.mv (v := .tuple #[.agg #[S r17.1.name, .int .u16 r17.1.ty, .int .u16 r17.1.cls], .int .i64 r17.2.1, .int .i64 r17.2.2]) rfl rfl ?_)
 refine XO.do rfl (D.extract (v := .agg #[S r17.1.name, .int .u16 r17.1.ty, .int .u16 r17.1.cls]) rfl rfl rfl ?_)
 refine XO.do rfl (D.extract (v := .int .i64 r17.2.1) rfl rfl rfl ?_)
 refine XO.do rfl (D.extract (v := .int .i64 r17.2.2) rfl rfl rfl ?_)
 refine XO.do rfl (D.alloc ti30 (cs := [S [], .int .u16 0, .int .u16 0]) rfl rfl ?_)
 intro b19 w20 hb21 H22 e23 _
 have lt_10_24 : ∀ x, MB b5 x → x < b19 := (MB.lt H8 (Nat.le_of_eq hb21.symm))
 have g24 : w.heap.size ≤ b19 := Nat.le_trans hB.size (Nat.le_of_eq hb21.symm)
 clear hb21
 replace hB := below_ext hB e23
 replace H8 := H8.ext e23
 clear e23
 refine XO.do rfl (D.store (v := .agg #[S r17.1.name, .int .u16 r17.1.ty, .int .u16 r17.1.cls]) (us := [S r17.1.name, .int .u16 r17.1.ty, .int .u16 r17.1.cls]) sz30 H22 rfl rfl rfl rfl rfl rfl ?_)
 intro w25 H26 e27
 replace hB := below_blk hB e27 g24
 replace H8 := H8.gr e27 (sepB (ne_of lt_10_24 (MB.ge b19)))
 clear e27
 refine XO.do rfl (D.asn (v := .int .i64 r17.2.1) rfl rfl ?_)
 refine XO.do rfl (D.asn (v := .int .i64 r17.2.2) rfl rfl ?_)
 refine XO.nil ?_
 refine hM12 _ _ ?_
 refine X.seq fun M36 hM37 => ?_
 refine X.seq fun M38 hM39 => ?_
 refine X.region ?_
 refine XO.do rfl (D.mv (v := .int .i64 r17.2.2) rfl rfl ?_)
 refine XO.do rfl (D.neq rfl rfl rfl ?_)
 refine XO.nil ?_
 refine hM39 _ _ ?_
 by_cases c40 : r17.2.2 = 0
 ·rw [if_pos c40] at h
  refine X.condF (congrArg Value.bool ((congrArg (!·) (beq_iff_eq.2 c40)))) ?_
  refine X.skip ?_
  refine hM37 _ _ ?_
  refine X.seq fun M41 hM42 => ?_
  refine X.region ?_
  refine XO.do rfl (D.mv (v := S a1) rfl rfl ?_)
  refine XO.do rfl (D.mv (v := .int .i64 r17.2.1) rfl rfl ?_)
  rcases (Classical.em (derrickref01_U32.pre a1 r17.2.1)).symm with c43 | c43
  ·rw [if_neg c43] at h; cases h
  rw [if_pos c43] at h
  obtain ⟨r47, q48, h⟩ := lt_elim h
  have hc46 := derrickref01_U32.ok a1 r17.2.1 w25 c43 
  rw [q48] at hc46
  clear q48
  refine XO.do rfl (D.call (vs := [S a1, .int .i64 r17.2.1]) cf47 hc46 rfl rfl ?_)
  rintro _ w44 ⟨rfl, e45⟩
  clear hc46
  replace hB := below_ext hB e45
  replace H8 := H8.ext e45
  replace H26 := H26.ext e45
  clear e45
  refine XO.do rfl (D.mv (v := .tuple #[.int .u32 r47.1, .int .i64 r47.2.1, .int .i64 r47.2.2]) rfl rfl ?_)
  refine XO.do rfl (D.extract (v := .int .u32 r47.1) rfl rfl rfl ?_)
  refine XO.do rfl (D.extract (v := .int .i64 r47.2.1) rfl rfl rfl ?_)
  refine XO.do rfl (D.extract (v := .int .i64 r47.2.2) rfl rfl rfl ?_)
  refine XO.do rfl (D.asn (v := .int .u32 r47.1) rfl rfl ?_)
  refine XO.do rfl (D.asn (v := .int .i64 r47.2.1) rfl rfl ?_)
  refine XO.do rfl (D.asn (v := .int .i64 r47.2.2) rfl rfl ?_)
  refine XO.nil ?_
  refine hM42 _ _ ?_
  refine X.seq fun M49 hM50 => ?_
  refine X.region ?_
  refine XO.do rfl (D.mv (v := S a1) rfl rfl ?_)
  refine XO.do rfl (D.mv (v := .int .i64 r47.2.1) rfl rfl ?_)
  rcases (Classical.em (derrickref01_U16.pre a1 r47.2.1)).symm with c51 | c51
  ·rw [if_neg c51] at h; cases h
  rw [if_pos c51] at h
  obtain ⟨r55, q56, h⟩ := lt_elim h
  have hc54 := derrickref01_U16.ok a1 r47.2.1 w44 c51 
  rw [q56] at hc54
  clear q56
  refine XO.do rfl (D.call (vs := [S a1, .int .i64 r47.2.1]) cf48 hc54 rfl rfl ?_)
  rintro _ w52 ⟨rfl, e53⟩
  clear hc54
  replace hB := below_ext hB e53
  replace H8 := H8.ext e53
  replace H26 := H26.ext e53
  clear e53
  refine XO.do rfl (D.mv (v := .tuple #[.int .u16 r55.1, .int .i64 r55.2.1, .int .i64 r55.2.2]) rfl rfl ?_)
  refine XO.do rfl (D.extract (v := .int .u16 r55.1) rfl rfl rfl ?_)
  refine XO.do rfl (D.extract (v := .int .i64 r55.2.1) rfl rfl rfl ?_)
  refine XO.do rfl (D.extract (v := .int .i64 r55.2.2) rfl rfl rfl ?_)
  refine XO.do rfl (D.asn (v := .int .u16 r55.1) rfl rfl ?_)
  refine XO.do rfl (D.asn (v := .int .i64 r55.2.1) rfl rfl ?_)
  refine XO.do rfl (D.asn (v := .int .i64 r55.2.2) rfl rfl ?_)
  refine XO.nil ?_
  refine hM50 _ _ ?_
  refine X.seq fun M77 hM78 => ?_
  refine X.cut (fun f84 w83 => ∃ x82 : Bool, f84 0 = S a1 ∧ f84 4 = pt b5 0 ∧ f84 7 = pt b19 0 ∧ f84 10 = .int .u32 r47.1 ∧ f84 13 = .int .u16 r55.1 ∧ f84 14 = .int .i64 r55.2.1 ∧ f84 47 = .bool x82 ∧ Below w.heap.size w w83 ∧ Blk w83 b5 [S [], .int .u16 0, .int .u16 0, .int .u32 0, S []] 25 ∧ Blk w83 b19 [S r17.1.name, .int .u16 r17.1.ty, .int .u16 r17.1.cls] 30 ∧ (∀ x, MB b5 x → x < b19) ∧ derrickref05_Take.j1 a1 r55 r17 r47 x82 = some res) ?_ ?_
  ·refine X.region ?_
   refine XO.do rfl (D.mv (v := .int .i64 r47.2.2) rfl rfl ?_)
   refine XO.do rfl (D.neq rfl rfl rfl ?_)
   refine XO.do rfl (D.mv (v := .bool (r47.2.2 != 0)) rfl rfl ?_)
   by_cases c129 : r47.2.2 = 0
   ·rw [if_pos c129] at h
    refine XO.do (wantG (j := 2) (b := false) rfl ((congrArg (!·) (beq_iff_eq.2 c129))) rfl) (D.mv (v := .int .i64 r55.2.2) rfl rfl ?_)
    refine XO.do (wantG (j := 2) (b := false) rfl ((congrArg (!·) (beq_iff_eq.2 c129))) rfl) (D.neq rfl rfl rfl ?_)
    refine XO.do rfl (D.pick false (v := .bool (r55.2.2 != 0)) (congrArg Value.bool ((congrArg (!·) (beq_iff_eq.2 c129)))) rfl rfl ?_)
    refine XO.nil ?_
    exact ⟨(r55.2.2 != 0), rfl, rfl, rfl, rfl, rfl, rfl, rfl, hB, H8, H26, lt_10_24, h⟩
   ·rw [if_neg c129] at h
    refine XO.off (wantG0 (j := 2) (b := false) rfl ((congrArg (!·) (beq_eq_false_iff_ne.2 c129))) rfl) rfl rfl ?_
    refine XO.off (wantG0 (j := 2) (b := false) rfl ((congrArg (!·) (beq_eq_false_iff_ne.2 c129))) rfl) rfl rfl ?_
    refine XO.do rfl (D.pick true (v := .bool true) (congrArg Value.bool ((congrArg (!·) (beq_eq_false_iff_ne.2 c129)))) rfl rfl ?_)
    refine XO.nil ?_
    exact ⟨true, rfl, rfl, rfl, rfl, rfl, rfl, rfl, hB, H8, H26, lt_10_24, h⟩
  ·intro f84 w83 hI
   obtain ⟨x82, s85, s86, s87, s88, s89, s90, s91, hB, H80, H81, pr10_24, h⟩ := hI
   refine X.fr (d := 0) s85 ?_
   refine X.fr (d := 4) s86 ?_
   refine X.fr (d := 7) s87 ?_
   refine X.fr (d := 10) s88 ?_
   refine X.fr (d := 13) s89 ?_
   refine X.fr (d := 14) s90 ?_
   refine X.fr (d := 47) s91 ?_
   unfold derrickref05_Take.j1 at h
   by_cases c92 : x82 = true
   ·rw [if_pos c92] at h
    refine X.condT (congrArg Value.bool (c92)) ?_
    refine X.seq fun M93 hM94 => ?_
    refine X.region ?_
    refine XO.do rfl (D.build (vs := []) (cs := [S [], .int .u16 0, .int .u16 0, .int .u32 0, S []]) bld25 rfl rfl rfl ?_)
    refine XO.do rfl (D.store (v := .agg #[S [], .int .u16 0, .int .u16 0, .int .u32 0, S []]) (us := [S [], .int .u16 0, .int .u16 0, .int .u32 0, S []]) sz25 H80 rfl rfl rfl rfl rfl rfl ?_)
    intro w95 H96 e97
    replace hB := below_blk hB e97 g10
    replace H81 := H81.gr e97 (sepB (ne_flip (ne_of pr10_24 (MB.ge b19))))
    clear e97
    refine XO.do rfl (D.asn (v := .int .i64 0) rfl rfl ?_)
    refine XO.do rfl (D.asn (v := .int .i64 2) rfl rfl ?_)
    refine XO.nil ?_
    refine hM94 _ _ ?_
    refine X.ret ?_
    injection h with h
    subst h
    exact hR _ _ _ (retCTT ag25 H96 rfl rfl rfl rfl rfl) ⟨rfl, ext_of_below hB⟩
   ·rw [if_neg c92] at h
    refine X.condF (congrArg Value.bool ((Bool.eq_false_iff.2 c92))) ?_
    refine X.skip ?_
    refine hM78 _ _ ?_
    refine X.seq fun M98 hM99 => ?_
    refine X.region ?_
    refine XO.do rfl (D.mv (v := S a1) rfl rfl ?_)
    refine XO.do rfl (D.mv (v := .int .i64 r55.2.1) rfl rfl ?_)
    refine XO.do rfl (D.mv (v := .int .u16 r55.1) rfl rfl ?_)
    refine XO.do rfl (D.conv Try.underlying22 Try.underlying3 rfl rfl ?_)
    refine XO.do rfl (D.fieldAddr (o' := 1) fa30_1 rfl rfl rfl ?_)
    refine XO.do rfl (D.load (j := 1) (v := .int .u16 r17.1.ty) sc22 H81.cs rfl rfl rfl rfl ?_)
    rcases (Classical.em (derrickref04_Take.pre a1 r55.2.1 (w64 r55.1) r17.1.ty)).symm with c100 | c100
    ·rw [if_neg c100] at h; cases h
    rw [if_pos c100] at h
    obtain ⟨r104, q105, h⟩ := lt_elim h
    have hc103 := derrickref04_Take.ok a1 r55.2.1 (w64 r55.1) r17.1.ty w83 c100 
    rw [q105] at hc103
    clear q105
    refine XO.do rfl (D.call (vs := [S a1, .int .i64 r55.2.1, .int .i64 (w64 r55.1), .int .u16 r17.1.ty]) cf49 hc103 rfl rfl ?_)
    rintro _ w101 ⟨rfl, e102⟩
    clear hc103
    replace hB := below_ext hB e102
    replace H80 := H80.ext e102
    replace H81 := H81.ext e102
    clear e102
    refine XO.do rfl (D.mv (v := .tuple #[S r104.1, .int .i64 r104.2]) rfl rfl ?_)
    refine XO.do rfl (D.extract (v := S r104.1) rfl rfl rfl ?_)
    refine XO.do rfl (D.extract (v := .int .i64 r104.2) rfl rfl rfl ?_)
    refine XO.do rfl (D.asn (v := S r104.1) rfl rfl ?_)
    refine XO.do rfl (D.asn (v := .int .i64 r104.2) rfl rfl ?_)
    refine XO.nil ?_
    refine hM99 _ _ ?_
    refine X.seq fun M114 hM115 => ?_
    refine X.seq fun M116 hM117 => ?_
    refine X.region ?_
    refine XO.do rfl (D.mv (v := .int .i64 r104.2) rfl rfl ?_)
    refine XO.do rfl (D.neq rfl rfl rfl ?_)
    refine XO.nil ?_
    refine hM117 _ _ ?_
    by_cases c118 : r104.2 = 0
    ·rw [if_pos c118] at h
     refine X.condF (congrArg Value.bool ((congrArg (!·) (beq_iff_eq.2 c118)))) ?_
     refine X.skip ?_
     refine hM115 _ _ ?_
     refine X.seq fun M119 hM120 => ?_
     refine X.region ?_
     refine XO.do rfl (D.fieldAddr (o' := 0) fa30_0 rfl rfl rfl ?_)
     refine XO.do rfl (D.load (j := 0) (v := S r17.1.name) sc9 H81.cs rfl rfl rfl rfl ?_)
     refine XO.do rfl (D.fieldAddr (o' := 1) fa30_1 rfl rfl rfl ?_)
     refine XO.do rfl (D.load (j := 1) (v := .int .u16 r17.1.ty) sc22 H81.cs rfl rfl rfl rfl ?_)
     refine XO.do rfl (D.fieldAddr (o' := 2) fa30_2 rfl rfl rfl ?_)
     refine XO.do rfl (D.load (j := 2) (v := .int .u16 r17.1.cls) sc22 H81.cs rfl rfl rfl rfl ?_)
     refine XO.do rfl (D.mv (v := .int .u32 r47.1) rfl rfl ?_)
     refine XO.do rfl (D.mv (v := S r104.1) rfl rfl ?_)
     refine XO.do rfl (D.build (vs := [(0, S r17.1.name), (1, .int .u16 r17.1.ty), (2, .int .u16 r17.1.cls), (3, .int .u32 r47.1), (4, S r104.1)]) (cs := [S r17.1.name, .int .u16 r17.1.ty, .int .u16 r17.1.cls, .int .u32 r47.1, S r104.1]) bld25 rfl rfl rfl ?_)
     refine XO.do rfl (D.mv (v := .int .i64 r55.2.1) rfl rfl ?_)
     refine XO.do rfl (D.mv (v := .int .u16 r55.1) rfl rfl ?_)
     refine XO.do rfl (D.conv Try.underlying22 Try.underlying3 rfl rfl ?_)
     refine XO.do rfl (D.add rfl rfl rfl ?_)
     refine XO.do rfl (D.store (v := .agg #[S r17.1.name, .int .u16 r17.1.ty, .int .u16 r17.1.cls, .int .u32 r47.1, S r104.1]) (us := [S r17.1.name, .int .u16 r17.1.ty, .int .u16 r17.1.cls, .int .u32 r47.1, S r104.1]) sz25 H80 rfl rfl rfl rfl rfl rfl ?_)
     intro w121 H122 e123
     replace hB := below_blk hB e123 g10
     replace H81 := H81.gr e123 (sepB (ne_flip (ne_of pr10_24 (MB.ge b19))))
     clear e123
     refine XO.do rfl (D.asn (v := .int .i64 (w64 (r55.2.1 + (w64 r55.1)))) rfl rfl ?_)
     refine XO.do rfl (D.asn (v := .int .i64 0) rfl rfl ?_)
     refine XO.nil ?_
     refine hM120 _ _ ?_
     refine X.ret ?_
     injection h with h
     subst h
     exact hR _ _ _ (retCTT ag25 H122 rfl rfl rfl rfl rfl) ⟨rfl, ext_of_below hB⟩
    ·rw [if_neg c118] at h
     refine X.condT (congrArg Value.bool ((congrArg (!·) (beq_eq_false_iff_ne.2 c118)))) ?_
     refine X.seq fun M124 hM125 => ?_
     refine X.region ?_
     refine XO.do rfl (D.build (vs := []) (cs := [S [], .int .u16 0, .int .u16 0, .int .u32 0, S []]) bld25 rfl rfl rfl ?_)
     refine XO.do rfl (D.store (v := .agg #[S [], .int .u16 0, .int .u16 0, .int .u32 0, S []]) (us := [S [], .int .u16 0, .int .u16 0, .int .u32 0, S []]) sz25 H80 rfl rfl rfl rfl rfl rfl ?_)
     intro w126 H127 e128
     replace hB := below_blk hB e128 g10
     replace H81 := H81.gr e128 (sepB (ne_flip (ne_of pr10_24 (MB.ge b19))))
     clear e128
     refine XO.do rfl (D.asn (v := .int .i64 0) rfl rfl ?_)
     refine XO.do rfl (D.asn (v := .int .i64 2) rfl rfl ?_)
     refine XO.nil ?_
     refine hM125 _ _ ?_
     refine X.ret ?_
     injection h with h
     subst h
     exact hR _ _ _ (retCTT ag25 H127 rfl rfl rfl rfl rfl) ⟨rfl, ext_of_below hB⟩
 ·rw [if_neg c40] at h
  refine X.condT (congrArg Value.bool ((congrArg (!·) (beq_eq_false_iff_ne.2 c40)))) ?_
  refine X.seq fun M130 hM131 => ?_
  refine X.region ?_
  refine XO.do rfl (D.build (vs := []) (cs := [S [], .int .u16 0, .int .u16 0, .int .u32 0, S []]) bld25 rfl rfl rfl ?_)
  refine XO.do rfl (D.store (v := .agg #[S [], .int .u16 0, .int .u16 0, .int .u32 0, S []]) (us := [S [], .int .u16 0, .int .u16 0, .int .u32 0, S []]) sz25 H8 rfl rfl rfl rfl rfl rfl ?_)
  intro w132 H133 e134
  replace hB := below_blk hB e134 g10
  replace H26 := H26.gr e134 (sepB (ne_flip (ne_of lt_10_24 (MB.ge b19))))
  clear e134
  refine XO.do rfl (D.asn (v := .int .i64 0) rfl rfl ?_)
  refine XO.do rfl (D.asn (v := .int .i64 2) rfl rfl ?_)
  refine XO.nil ?_
  refine hM131 _ _ ?_
  refine X.ret ?_
  injection h with h
  subst h
  exact hR _ _ _ (retCTT ag25 H133 rfl rfl rfl rfl rfl) ⟨rfl, ext_of_below hB⟩
theorem derrickref05_Take.ok (a1 : Str) (a2 : Int)  (w : World)  (hp : derrickref05_Take.pre a1 a2) :
  Ret Try.prog 19 ([S a1, .int .i64 a2] : List Value).toArray w fun v w' => v = .tuple #[.agg #[S ((derrickref05_Take a1 a2).1.name), .int .u16 ((derrickref05_Take a1 a2).1.ty), .int .u16 ((derrickref05_Take a1 a2).1.cls), .int .u32 ((derrickref05_Take a1 a2).1.ttl), S ((derrickref05_Take a1 a2).1.data)], .int .i64 ((derrickref05_Take a1 a2).2.1), .int .i64 ((derrickref05_Take a1 a2).2.2)] ∧ Ext w w' := by
 have h := derrickref05_Take.eq a1 a2 hp
 exact derrickref05_Take.walk  a1 a2  w  _ h
end Go.Proofs.Ytfcaekghpkpjdaa.K

/- Walks, printed by a program of this session. -/
namespace Go.Proofs.Ytfcaekghpkpjdaa.K
open Go Go.RowKit Go.Proofs
set_option linter.unusedVariables false
set_option maxRecDepth 100000
set_option maxHeartbeats 4000000
namespace FL3
theorem ti25 : TI Try.prog 25 (.agg #[S [], .int .u16 0, .int .u16 0, .int .u32 0, S []]) 5 40 := by unfold TI; kernel_rfl
theorem ag25 : Agg Try.prog 25 5 := agg Try.underlying25 rfl ti25
theorem ti30 : TI Try.prog 30 (.agg #[S [], .int .u16 0, .int .u16 0]) 3 24 := by unfold TI; kernel_rfl
theorem ag30 : Agg Try.prog 30 3 := agg Try.underlying30 rfl ti30
theorem cf10 : Callable Try.prog 10 := callable Try.func10 (by kernel_rfl) rfl
theorem cf11 : Callable Try.prog 11 := callable Try.func11 (by kernel_rfl) rfl
theorem cf18 : Callable Try.prog 18 := callable Try.func18 (by kernel_rfl) rfl
theorem cf19 : Callable Try.prog 19 := callable Try.func19 (by kernel_rfl) rfl
theorem cf20 : Callable Try.prog 20 := callable Try.func20 (by kernel_rfl) rfl
theorem cf21 : Callable Try.prog 21 := callable Try.func21 (by kernel_rfl) rfl
theorem cf22 : Callable Try.prog 22 := callable Try.func22 (by kernel_rfl) rfl
theorem cf23 : Callable Try.prog 23 := callable Try.func23 (by kernel_rfl) rfl
theorem cf24 : Callable Try.prog 24 := callable Try.func24 (by kernel_rfl) rfl
theorem cf25 : Callable Try.prog 25 := callable Try.func25 (by kernel_rfl) rfl
theorem cf7 : Callable Try.prog 7 := callable Try.func7 (by kernel_rfl) rfl
theorem cf8 : Callable Try.prog 8 := callable Try.func8 (by kernel_rfl) rfl
theorem cf9 : Callable Try.prog 9 := callable Try.func9 (by kernel_rfl) rfl
theorem ti9 : TI Try.prog 9 (S []) 1 16 := by unfold TI; kernel_rfl
theorem fa25_0 : FA Try.prog 25 0 0 := fa Try.underlying25 rfl ti9 rfl rfl
theorem ti22 : TI Try.prog 22 (.int .u16 0) 1 2 := by unfold TI; kernel_rfl
theorem fa25_1 : FA Try.prog 25 1 1 := fa Try.underlying25 rfl ti22 rfl rfl
theorem fa25_2 : FA Try.prog 25 2 2 := fa Try.underlying25 rfl ti22 rfl rfl
theorem fa30_0 : FA Try.prog 30 0 0 := fa Try.underlying30 rfl ti9 rfl rfl
theorem fa30_1 : FA Try.prog 30 1 1 := fa Try.underlying30 rfl ti22 rfl rfl
theorem fa30_2 : FA Try.prog 30 2 2 := fa Try.underlying30 rfl ti22 rfl rfl
theorem mixed0 : Try.prog.follows .mixedOrders = true := by kernel_rfl
theorem sc22 : Sca Try.prog 22 := sca Try.underlying22 rfl
theorem sc9 : Sca Try.prog 9 := sca Try.underlying9 rfl
theorem sz25 : ∀ w, (sizeOf 25).run Try.prog w = .ok 5 w := fun w => ti25.size w
theorem sz30 : ∀ w, (sizeOf 30).run Try.prog w = .ok 3 w := fun w => ti30.size w
end FL3
open FL3
theorem derricklaw05_RecordTells.walk (a1 : RR) (a2 : RR) (a3 : Str) (a4 : Int)  (w : World)  (res : Bool) (h : derricklaw05_RecordTells.f a1 a2 a3 a4 = some res) :
  Ret Try.prog 5 ([.agg #[S a1.name, .int .u16 a1.ty, .int .u16 a1.cls, .int .u32 a1.ttl, S a1.data], .agg #[S a2.name, .int .u16 a2.ty, .int .u16 a2.cls, .int .u32 a2.ttl, S a2.data], S a3, .int .i64 a4] : List Value).toArray w fun v w' => v = .bool res ∧ Ext w w' := by
 unfold derricklaw05_RecordTells.f at h
 refine enterX Try.func5 rfl Try.ntmps5 rfl (fun R hR => ?_)
 have hB := Below.refl w.heap.size w
 refine X.seq fun M5 hM6 => ?_
 refine X.region ?_
 refine XO.do rfl (D.box (v := .agg #[S a1.name, .int .u16 a1.ty, .int .u16 a1.cls, .int .u32 a1.ttl, S a1.data]) (cs := [S a1.name, .int .u16 a1.ty, .int .u16 a1.cls, .int .u32 a1.ttl, S a1.data]) rfl rfl rfl ?_)
 intro b7 w9 hb10 H11 e12 _
 have g13 : w.heap.size ≤ b7 := Nat.le_trans hB.size (Nat.le_of_eq hb10.symm)
 clear hb10
 replace hB := below_ext hB e12
 clear e12
 refine XO.do rfl (D.box (v := .agg #[S a2.name, .int .u16 a2.ty, .int .u16 a2.cls, .int .u32 a2.ttl, S a2.data]) (cs := [S a2.name, .int .u16 a2.ty, .int .u16 a2.cls, .int .u32 a2.ttl, S a2.data]) rfl rfl rfl ?_)
 intro b14 w15 hb16 H17 e18 _
 have g19 : w.heap.size ≤ b14 := Nat.le_trans hB.size (Nat.le_of_eq hb16.symm)
 clear hb16
 replace hB := below_ext hB e18
 replace H11 := H11.ext e18
 clear e18
 refine XO.do rfl (D.asn (v := .bool false) rfl rfl ?_)
 refine XO.nil ?_
 refine hM6 _ _ ?_
 refine X.seq fun M20 hM21 => ?_
 refine X.region ?_
 rcases (Classical.em (derricklaw05_shown.pre )).symm with c22 | c22
 ·rw [if_neg c22] at h; cases h
 rw [if_pos c22] at h
 obtain ⟨r26, q27, h⟩ := lt_elim h
 have hc25 := derricklaw05_shown.ok w15 c22 
 rw [q27] at hc25
 clear q27
 refine XO.do rfl (D.call (vs := []) cf7 hc25 rfl rfl ?_)
 rintro _ w23 ⟨rfl, e24⟩
 clear hc25
 replace hB := below_ext hB e24
 replace H11 := H11.ext e24
 replace H17 := H17.ext e24
 clear e24
 refine XO.do rfl (D.asn (v := .bool r26) rfl rfl ?_)
 refine XO.nil ?_
 refine hM21 _ _ ?_
 refine X.seq fun M66 hM67 => ?_
 refine X.cut (fun f84 w83 => ∃ x82 : Bool, f84 2 = S a3 ∧ f84 3 = .int .i64 a4 ∧ f84 4 = pt b7 0 ∧ f84 5 = pt b14 0 ∧ f84 9 = .bool r26 ∧ f84 37 = .bool x82 ∧ Below w.heap.size w w83 ∧ Blk w83 b7 [S a1.name, .int .u16 a1.ty, .int .u16 a1.cls, .int .u32 a1.ttl, S a1.data] 25 ∧ Blk w83 b14 [S a2.name, .int .u16 a2.ty, .int .u16 a2.cls, .int .u32 a2.ttl, S a2.data] 25 ∧ derricklaw05_RecordTells.j1 r26 a1 a3 a4 a2 x82 = some res) ?_ ?_
 ·refine X.region ?_
  refine XO.do rfl (D.mv (v := S a3) rfl rfl ?_)
  refine XO.do rfl (D.lenS Try.underlying9 rfl rfl ?_)
  refine XO.do rfl (D.gtr rfl rfl rfl ?_)
  refine XO.do rfl (D.mv (v := .bool (decide (1000 < (a3.length : Int)))) rfl rfl ?_)
  by_cases c293 : 1000 < (a3.length : Int)
  ·rw [if_pos c293] at h
   refine XO.off (wantG0 (j := 3) (b := false) rfl (decide_eq_true c293) rfl) rfl rfl ?_
   refine XO.off (wantG0 (j := 3) (b := false) rfl (decide_eq_true c293) rfl) rfl rfl ?_
   refine XO.off (wantG0 (j := 3) (b := false) rfl (decide_eq_true c293) rfl) rfl rfl ?_
   refine XO.do rfl (D.pick true (v := .bool true) (congrArg Value.bool (decide_eq_true c293)) rfl rfl ?_)
   refine XO.do rfl (D.mv (v := .bool true) rfl rfl ?_)
   refine XO.off (wantG0 (j := 8) (b := false) rfl (rfl) rfl) rfl rfl ?_
   refine XO.off (wantG0 (j := 8) (b := false) rfl (rfl) rfl) rfl rfl ?_
   refine XO.off (wantG0 (j := 8) (b := false) rfl (rfl) rfl) rfl rfl ?_
   refine XO.do rfl (D.pick true (v := .bool true) (congrArg Value.bool (rfl)) rfl rfl ?_)
   refine XO.nil ?_
   exact ⟨true, rfl, rfl, rfl, rfl, rfl, rfl, hB, H11, H17, h⟩
  ·rw [if_neg c293] at h
   refine XO.do (wantG (j := 3) (b := false) rfl (decide_eq_false c293) rfl) (D.loadA (j := 0) (us := [S a1.name, .int .u16 a1.ty, .int .u16 a1.cls, .int .u32 a1.ttl, S a1.data]) ag25 H11.cs rfl rfl rfl rfl rfl ?_)
   obtain ⟨r297, q298, h⟩ := lt_elim h
   have hc296 := derricklaw05_few.ok a1 w23 
   rw [q298] at hc296
   clear q298
   refine XO.do (wantG (j := 3) (b := false) rfl (decide_eq_false c293) rfl) (D.call (vs := [.agg #[S a1.name, .int .u16 a1.ty, .int .u16 a1.cls, .int .u32 a1.ttl, S a1.data]]) cf8 hc296 rfl rfl ?_)
   rintro _ w294 ⟨rfl, e295⟩
   clear hc296
   replace hB := below_ext hB e295
   replace H11 := H11.ext e295
   replace H17 := H17.ext e295
   clear e295
   refine XO.do (wantG (j := 3) (b := false) rfl (decide_eq_false c293) rfl) (D.not r297 rfl rfl ?_)
   refine XO.do rfl (D.pick false (v := .bool (!r297)) (congrArg Value.bool (decide_eq_false c293)) rfl rfl ?_)
   refine XO.do rfl (D.mv (v := .bool (!r297)) rfl rfl ?_)
   by_cases c299 : r297 = true
   ·rw [if_pos c299] at h
    refine XO.do (wantG (j := 8) (b := false) rfl ((congrArg (!·) (c299))) rfl) (D.loadA (j := 0) (us := [S a2.name, .int .u16 a2.ty, .int .u16 a2.cls, .int .u32 a2.ttl, S a2.data]) ag25 H17.cs rfl rfl rfl rfl rfl ?_)
    obtain ⟨r303, q304, h⟩ := lt_elim h
    have hc302 := derricklaw05_few.ok a2 w294 
    rw [q304] at hc302
    clear q304
    refine XO.do (wantG (j := 8) (b := false) rfl ((congrArg (!·) (c299))) rfl) (D.call (vs := [.agg #[S a2.name, .int .u16 a2.ty, .int .u16 a2.cls, .int .u32 a2.ttl, S a2.data]]) cf8 hc302 rfl rfl ?_)
    rintro _ w300 ⟨rfl, e301⟩
    clear hc302
    replace hB := below_ext hB e301
    replace H11 := H11.ext e301
    replace H17 := H17.ext e301
    clear e301
    refine XO.do (wantG (j := 8) (b := false) rfl ((congrArg (!·) (c299))) rfl) (D.not r303 rfl rfl ?_)
    refine XO.do rfl (D.pick false (v := .bool (!r303)) (congrArg Value.bool ((congrArg (!·) (c299)))) rfl rfl ?_)
    refine XO.nil ?_
    exact ⟨(!r303), rfl, rfl, rfl, rfl, rfl, rfl, hB, H11, H17, h⟩
   ·rw [if_neg c299] at h
    refine XO.off (wantG0 (j := 8) (b := false) rfl ((congrArg (!·) ((Bool.eq_false_iff.2 c299)))) rfl) rfl rfl ?_
    refine XO.off (wantG0 (j := 8) (b := false) rfl ((congrArg (!·) ((Bool.eq_false_iff.2 c299)))) rfl) rfl rfl ?_
    refine XO.off (wantG0 (j := 8) (b := false) rfl ((congrArg (!·) ((Bool.eq_false_iff.2 c299)))) rfl) rfl rfl ?_
    refine XO.do rfl (D.pick true (v := .bool true) (congrArg Value.bool ((congrArg (!·) ((Bool.eq_false_iff.2 c299))))) rfl rfl ?_)
    refine XO.nil ?_
    exact ⟨true, rfl, rfl, rfl, rfl, rfl, rfl, hB, H11, H17, h⟩
 ·intro f84 w83 hI
  obtain ⟨x82, s85, s86, s87, s88, s89, s90, hB, H80, H81, h⟩ := hI
  refine X.fr (d := 2) s85 ?_
  refine X.fr (d := 3) s86 ?_
  refine X.fr (d := 4) s87 ?_
  refine X.fr (d := 5) s88 ?_
  refine X.fr (d := 9) s89 ?_
  refine X.fr (d := 37) s90 ?_
  unfold derricklaw05_RecordTells.j1 at h
  by_cases c91 : x82 = true
  ·rw [if_pos c91] at h
   refine X.condT (congrArg Value.bool (c91)) ?_
   refine X.seq fun M92 hM93 => ?_
   refine X.region ?_
   refine XO.do rfl (D.mv (v := .bool r26) rfl rfl ?_)
   refine XO.do rfl (D.asn (v := .bool r26) rfl rfl ?_)
   refine XO.nil ?_
   refine hM93 _ _ ?_
   refine X.ret ?_
   injection h with h
   subst h
   exact hR _ _ _ (ret1 (v := .bool r26) rfl rfl) ⟨rfl, ext_of_below hB⟩
  ·rw [if_neg c91] at h
   refine X.condF (congrArg Value.bool ((Bool.eq_false_iff.2 c91))) ?_
   refine X.skip ?_
   refine hM67 _ _ ?_
   refine X.seq fun M94 hM95 => ?_
   refine X.region ?_
   refine XO.do rfl (D.loadA (j := 0) (us := [S a1.name, .int .u16 a1.ty, .int .u16 a1.cls, .int .u32 a1.ttl, S a1.data]) ag25 H80.cs rfl rfl rfl rfl rfl ?_)
   obtain ⟨r99, q100, h⟩ := lt_elim h
   have hc98 := record_Key.ok a1 w83 
   rw [q100] at hc98
   clear q100
   refine XO.do rfl (D.call (vs := [.agg #[S a1.name, .int .u16 a1.ty, .int .u16 a1.cls, .int .u32 a1.ttl, S a1.data]]) cf10 hc98 rfl rfl ?_)
   rintro _ w96 ⟨rfl, e97⟩
   clear hc98
   replace hB := below_ext hB e97
   replace H80 := H80.ext e97
   replace H81 := H81.ext e97
   clear e97
   refine XO.do rfl (D.alloc ti30 (cs := [S [], .int .u16 0, .int .u16 0]) rfl rfl ?_)
   intro b101 w102 hb103 H104 e105 _
   have lt_13_106 : ∀ x, MB b7 x → x < b101 := (MB.lt H80 (Nat.le_of_eq hb103.symm))
   have lt_19_106 : ∀ x, MB b14 x → x < b101 := (MB.lt H81 (Nat.le_of_eq hb103.symm))
   have g106 : w.heap.size ≤ b101 := Nat.le_trans hB.size (Nat.le_of_eq hb103.symm)
   clear hb103
   replace hB := below_ext hB e105
   replace H80 := H80.ext e105
   replace H81 := H81.ext e105
   clear e105
   refine XO.do rfl (D.store (v := .agg #[S r99.name, .int .u16 r99.ty, .int .u16 r99.cls]) (us := [S r99.name, .int .u16 r99.ty, .int .u16 r99.cls]) sz30 H104 rfl rfl rfl rfl rfl rfl ?_)
   intro w107 H108 e109
   replace hB := below_blk hB e109 g106
   replace H80 := H80.gr e109 (sepB (ne_of lt_13_106 (MB.ge b101)))
   replace H81 := H81.gr e109 (sepB (ne_of lt_19_106 (MB.ge b101)))
   clear e109
   refine XO.nil ?_
   refine hM95 _ _ ?_
   refine X.seq fun M110 hM111 => ?_
   refine X.region ?_
   refine XO.do rfl (D.mv (v := S a3) rfl rfl ?_)
   refine XO.do rfl (D.mv (v := .int .i64 a4) rfl rfl ?_)
   rcases (Classical.em (record_Take.pre a3 a4)).symm with c112 | c112
   ·rw [if_neg c112] at h; cases h
   rw [if_pos c112] at h
   obtain ⟨r116, q117, h⟩ := lt_elim h
   have hc115 := record_Take.ok a3 a4 w107 c112 
   rw [q117] at hc115
   clear q117
   refine XO.do rfl (D.call (vs := [S a3, .int .i64 a4]) cf18 hc115 rfl rfl ?_)
   rintro _ w113 ⟨rfl, e114⟩
   clear hc115
   replace hB := below_ext hB e114
   replace H80 := H80.ext e114
   replace H81 := H81.ext e114
   replace H108 := H108.ext e114
   clear e114
   refine XO.do rfl (D.mv (v := .tuple #[.agg #[S r116.1.name, .int .u16 r116.1.ty, .int .u16 r116.1.cls, .int .u32 r116.1.ttl, S r116.1.data], .int .i64 r116.2.1, .int .i64 r116.2.2]) rfl rfl ?_)
   refine XO.do rfl (D.extract (v := .agg #[S r116.1.name, .int .u16 r116.1.ty, .int .u16 r116.1.cls, .int .u32 r116.1.ttl, S r116.1.data]) rfl rfl rfl ?_)
   refine XO.do rfl (D.extract (v := .int .i64 r116.2.1) rfl rfl rfl ?_)
   refine XO.do rfl (D.extract (v := .int .i64 r116.2.2) rfl rfl rfl ?_)
   refine XO.do rfl (D.alloc ti25 (cs := [S [], .int .u16 0, .int .u16 0, .int .u32 0, S []]) rfl rfl ?_)
   intro b118 w119 hb120 H121 e122 _
   have lt_13_123 : ∀ x, MB b7 x → x < b118 := (MB.lt H80 (Nat.le_of_eq hb120.symm))
   have lt_19_123 : ∀ x, MB b14 x → x < b118 := (MB.lt H81 (Nat.le_of_eq hb120.symm))
   have lt_106_123 : ∀ x, MB b101 x → x < b118 := (MB.lt H108 (Nat.le_of_eq hb120.symm))
   have g123 : w.heap.size ≤ b118 := Nat.le_trans hB.size (Nat.le_of_eq hb120.symm)
   clear hb120
   replace hB := below_ext hB e122
   replace H80 := H80.ext e122
   replace H81 := H81.ext e122
   replace H108 := H108.ext e122
   clear e122
   refine XO.do rfl (D.store (v := .agg #[S r116.1.name, .int .u16 r116.1.ty, .int .u16 r116.1.cls, .int .u32 r116.1.ttl, S r116.1.data]) (us := [S r116.1.name, .int .u16 r116.1.ty, .int .u16 r116.1.cls, .int .u32 r116.1.ttl, S r116.1.data]) sz25 H121 rfl rfl rfl rfl rfl rfl ?_)
   intro w124 H125 e126
   replace hB := below_blk hB e126 g123
   replace H80 := H80.gr e126 (sepB (ne_of lt_13_123 (MB.ge b118)))
   replace H81 := H81.gr e126 (sepB (ne_of lt_19_123 (MB.ge b118)))
   replace H108 := H108.gr e126 (sepB (ne_of lt_106_123 (MB.ge b118)))
   clear e126
   refine XO.do rfl (D.asn (v := .int .i64 r116.2.1) rfl rfl ?_)
   refine XO.do rfl (D.asn (v := .int .i64 r116.2.2) rfl rfl ?_)
   refine XO.nil ?_
   refine hM111 _ _ ?_
   refine X.seq fun M127 hM128 => ?_
   refine X.region ?_
   refine XO.do rfl (D.mv (v := S a3) rfl rfl ?_)
   refine XO.do rfl (D.mv (v := .int .i64 a4) rfl rfl ?_)
   rcases (Classical.em (derrickref05_Take.pre a3 a4)).symm with c129 | c129
   ·rw [if_neg c129] at h; cases h
   rw [if_pos c129] at h
   obtain ⟨r133, q134, h⟩ := lt_elim h
   have hc132 := derrickref05_Take.ok a3 a4 w124 c129 
   rw [q134] at hc132
   clear q134
   refine XO.do rfl (D.call (vs := [S a3, .int .i64 a4]) cf19 hc132 rfl rfl ?_)
   rintro _ w130 ⟨rfl, e131⟩
   clear hc132
   replace hB := below_ext hB e131
   replace H80 := H80.ext e131
   replace H81 := H81.ext e131
   replace H108 := H108.ext e131
   replace H125 := H125.ext e131
   clear e131
   refine XO.do rfl (D.mv (v := .tuple #[.agg #[S r133.1.name, .int .u16 r133.1.ty, .int .u16 r133.1.cls, .int .u32 r133.1.ttl, S r133.1.data], .int .i64 r133.2.1, .int .i64 r133.2.2]) rfl rfl ?_)
   refine XO.do rfl (D.extract (v := .agg #[S r133.1.name, .int .u16 r133.1.ty, .int .u16 r133.1.cls, .int .u32 r133.1.ttl, S r133.1.data]) rfl rfl rfl ?_)
   refine XO.do rfl (D.extract (v := .int .i64 r133.2.1) rfl rfl rfl ?_)
   refine XO.do rfl (D.extract (v := .int .i64 r133.2.2) rfl rfl rfl ?_)
   refine XO.do rfl (D.alloc ti25 (cs := [S [], .int .u16 0, .int .u16 0, .int .u32 0, S []]) rfl rfl ?_)
   intro b135 w136 hb137 H138 e139 _
   have lt_13_140 : ∀ x, MB b7 x → x < b135 := (MB.lt H80 (Nat.le_of_eq hb137.symm))
   have lt_19_140 : ∀ x, MB b14 x → x < b135 := (MB.lt H81 (Nat.le_of_eq hb137.symm))
   have lt_106_140 : ∀ x, MB b101 x → x < b135 := (MB.lt H108 (Nat.le_of_eq hb137.symm))
   have lt_123_140 : ∀ x, MB b118 x → x < b135 := (MB.lt H125 (Nat.le_of_eq hb137.symm))
   have g140 : w.heap.size ≤ b135 := Nat.le_trans hB.size (Nat.le_of_eq hb137.symm)
   clear hb137
   replace hB := below_ext hB e139
   replace H80 := H80.ext e139
   replace H81 := H81.ext e139
   replace H108 := H108.ext e139
   replace H125 := H125.ext e139
   clear e139
   refine XO.do rfl (D.store (v := .agg #[S r133.1.name, .int .u16 r133.1.ty, .int .u16 r133.1.cls, .int .u32 r133.1.ttl, S r133.1.data]) (us := [S r133.1.name, .int .u16 r133.1.ty, .int .u16 r133.1.cls, .int .u32 r133.1.ttl, S r133.1.data]) sz25 H138 rfl rfl rfl rfl rfl rfl ?_)
   intro w141 H142 e143
   replace hB := below_blk hB e143 g140
   replace H80 := H80.gr e143 (sepB (ne_of lt_13_140 (MB.ge b135)))
   replace H81 := H81.gr e143 (sepB (ne_of lt_19_140 (MB.ge b135)))
   replace H108 := H108.gr e143 (sepB (ne_of lt_106_140 (MB.ge b135)))
   replace H125 := H125.gr e143 (sepB (ne_of lt_123_140 (MB.ge b135)))
   clear e143
   refine XO.do rfl (D.asn (v := .int .i64 r133.2.1) rfl rfl ?_)
   refine XO.do rfl (D.asn (v := .int .i64 r133.2.2) rfl rfl ?_)
   refine XO.nil ?_
   refine hM128 _ _ ?_
   refine X.seq fun M144 hM145 => ?_
   refine X.region ?_
   refine XO.do rfl (D.mv (v := S a3) rfl rfl ?_)
   refine XO.do rfl (D.mv (v := .int .i64 a4) rfl rfl ?_)
   rcases (Classical.em (record_TakeQ.pre a3 a4)).symm with c146 | c146
   ·rw [if_neg c146] at h; cases h
   rw [if_pos c146] at h
   obtain ⟨r150, q151, h⟩ := lt_elim h
   have hc149 := record_TakeQ.ok a3 a4 w141 c146 
   rw [q151] at hc149
   clear q151
   refine XO.do rfl (D.call (vs := [S a3, .int .i64 a4]) cf20 hc149 rfl rfl ?_)
   rintro _ w147 ⟨rfl, e148⟩
   clear hc149
   replace hB := below_ext hB e148
   replace H80 := H80.ext e148
   replace H81 := H81.ext e148
   replace H108 := H108.ext e148
   replace H125 := H125.ext e148
   replace H142 := H142.ext e148
   clear e148
   refine XO.do rfl (D.mv (v := .tuple #[.agg #[S r150.1.name, .int .u16 r150.1.ty, .int .u16 r150.1.cls], .int .i64 r150.2.1, .int .i64 r150.2.2]) rfl rfl ?_)
   refine XO.do rfl (D.extract (v := .agg #[S r150.1.name, .int .u16 r150.1.ty, .int .u16 r150.1.cls]) rfl rfl rfl ?_)
   refine XO.do rfl (D.extract (v := .int .i64 r150.2.1) rfl rfl rfl ?_)
   refine XO.do rfl (D.extract (v := .int .i64 r150.2.2) rfl rfl rfl ?_)
   refine XO.do rfl (D.alloc ti30 (cs := [S [], .int .u16 0, .int .u16 0]) rfl rfl ?_)
   intro b152 w153 hb154 H155 e156 _
   have lt_13_157 : ∀ x, MB b7 x → x < b152 := (MB.lt H80 (Nat.le_of_eq hb154.symm))
   have lt_19_157 : ∀ x, MB b14 x → x < b152 := (MB.lt H81 (Nat.le_of_eq hb154.symm))
   have lt_106_157 : ∀ x, MB b101 x → x < b152 := (MB.lt H108 (Nat.le_of_eq hb154.symm))
   have lt_123_157 : ∀ x, MB b118 x → x < b152 := (MB.lt H125 (Nat.le_of_eq hb154.symm))
   have lt_140_157 : ∀ x, MB b135 x → x < b152 := (MB.lt H142 (Nat.le_of_eq hb154.symm))
   have g157 : w.heap.size ≤ b152 := Nat.le_trans hB.size (Nat.le_of_eq hb154.symm)
   clear hb154
   replace hB := below_ext hB e156
   replace H80 := H80.ext e156
   replace H81 := H81.ext e156
   replace H108 := H108.ext e156
   replace H125 := H125.ext e156
   replace H142 := H142.ext e156
   clear e156
   refine XO.do rfl (D.store (v := .agg #[S r150.1.name, .int .u16 r150.1.ty, .int .u16 r150.1.cls]) (us := [S r150.1.name, .int .u16 r150.1.ty, .int .u16 r150.1.cls]) sz30 H155 rfl rfl rfl rfl rfl rfl ?_)
   intro w158 H159 e160
   replace hB := below_blk hB e160 g157
   replace H80 := H80.gr e160 (sepB (ne_of lt_13_157 (MB.ge b152)))
   replace H81 := H81.gr e160 (sepB (ne_of lt_19_157 (MB.ge b152)))
   replace H108 := H108.gr e160 (sepB (ne_of lt_106_157 (MB.ge b152)))
   replace H125 := H125.gr e160 (sepB (ne_of lt_123_157 (MB.ge b152)))
   replace H142 := H142.gr e160 (sepB (ne_of lt_140_157 (MB.ge b152)))
   clear e160
   refine XO.do rfl (D.asn (v := .int .i64 r150.2.1) rfl rfl ?_)
   refine XO.do rfl (D.asn (v := .int .i64 r150.2.2) rfl rfl ?_)
   refine XO.nil ?_
   refine hM145 _ _ ?_
   refine X.seq fun M161 hM162 => ?_
   refine X.region ?_
   refine XO.do rfl (D.mv (v := S a3) rfl rfl ?_)
   refine XO.do rfl (D.mv (v := .int .i64 a4) rfl rfl ?_)
   rcases (Classical.em (derrickref05_TakeQ.pre a3 a4)).symm with c163 | c163
   ·rw [if_neg c163] at h; cases h
   rw [if_pos c163] at h
   obtain ⟨r167, q168, h⟩ := lt_elim h
   have hc166 := derrickref05_TakeQ.ok a3 a4 w158 c163 
   rw [q168] at hc166
   clear q168
   refine XO.do rfl (D.call (vs := [S a3, .int .i64 a4]) cf21 hc166 rfl rfl ?_)
   rintro _ w164 ⟨rfl, e165⟩
   clear hc166
   replace hB := below_ext hB e165
   replace H80 := H80.ext e165
   replace H81 := H81.ext e165
   replace H108 := H108.ext e165
   replace H125 := H125.ext e165
   replace H142 := H142.ext e165
   replace H159 := H159.ext e165
   clear e165
   refine XO.do rfl (D.mv (v := .tuple #[.agg #[S r167.1.name, .int .u16 r167.1.ty, .int .u16 r167.1.cls], .int .i64 r167.2.1, .int .i64 r167.2.2]) rfl rfl ?_)
   refine XO.do rfl (D.extract (v := .agg #[S r167.1.name, .int .u16 r167.1.ty, .int .u16 r167.1.cls]) rfl rfl rfl ?_)
   refine XO.do rfl (D.extract (v := .int .i64 r167.2.1) rfl rfl rfl ?_)
   refine XO.do rfl (D.extract (v := .int .i64 r167.2.2) rfl rfl rfl ?_)
   refine XO.do rfl (D.alloc ti30 (cs := [S [], .int .u16 0, .int .u16 0]) rfl rfl ?_)
   intro b169 w170 hb171 H172 e173 _
   have lt_13_174 : ∀ x, MB b7 x → x < b169 := (MB.lt H80 (Nat.le_of_eq hb171.symm))
   have lt_19_174 : ∀ x, MB b14 x → x < b169 := (MB.lt H81 (Nat.le_of_eq hb171.symm))
   have lt_106_174 : ∀ x, MB b101 x → x < b169 := (MB.lt H108 (Nat.le_of_eq hb171.symm))
   have lt_123_174 : ∀ x, MB b118 x → x < b169 := (MB.lt H125 (Nat.le_of_eq hb171.symm))
   have lt_140_174 : ∀ x, MB b135 x → x < b169 := (MB.lt H142 (Nat.le_of_eq hb171.symm))
   have lt_157_174 : ∀ x, MB b152 x → x < b169 := (MB.lt H159 (Nat.le_of_eq hb171.symm))
   have g174 : w.heap.size ≤ b169 := Nat.le_trans hB.size (Nat.le_of_eq hb171.symm)
   clear hb171
   replace hB := below_ext hB e173
   replace H80 := H80.ext e173
   replace H81 := H81.ext e173
   replace H108 := H108.ext e173
   replace H125 := H125.ext e173
   replace H142 := H142.ext e173
   replace H159 := H159.ext e173
   clear e173
   refine XO.do rfl (D.store (v := .agg #[S r167.1.name, .int .u16 r167.1.ty, .int .u16 r167.1.cls]) (us := [S r167.1.name, .int .u16 r167.1.ty, .int .u16 r167.1.cls]) sz30 H172 rfl rfl rfl rfl rfl rfl ?_)
   intro w175 H176 e177
   replace hB := below_blk hB e177 g174
   replace H80 := H80.gr e177 (sepB (ne_of lt_13_174 (MB.ge b169)))
   replace H81 := H81.gr e177 (sepB (ne_of lt_19_174 (MB.ge b169)))
   replace H108 := H108.gr e177 (sepB (ne_of lt_106_174 (MB.ge b169)))
   replace H125 := H125.gr e177 (sepB (ne_of lt_123_174 (MB.ge b169)))
   replace H142 := H142.gr e177 (sepB (ne_of lt_140_174 (MB.ge b169)))
   replace H159 := H159.gr e177 (sepB (ne_of lt_157_174 (MB.ge b169)))
   clear e177
   refine XO.do rfl (D.asn (v := .int .i64 r167.2.1) rfl rfl ?_)
   refine XO.do rfl (D.asn (v := .int .i64 r167.2.2) rfl rfl ?_)
   refine XO.nil ?_
   refine hM162 _ _ ?_
   refine X.cut (fun f225 w224 => ∃ x223 : Bool, f225 4 = pt b7 0 ∧ f225 9 = .bool r26 ∧ f225 10 = pt b101 0 ∧ f225 11 = pt b118 0 ∧ f225 12 = .int .i64 r116.2.1 ∧ f225 13 = .int .i64 r116.2.2 ∧ f225 14 = pt b135 0 ∧ f225 15 = .int .i64 r133.2.1 ∧ f225 16 = .int .i64 r133.2.2 ∧ f225 17 = pt b152 0 ∧ f225 18 = .int .i64 r150.2.1 ∧ f225 19 = .int .i64 r150.2.2 ∧ f225 20 = pt b169 0 ∧ f225 21 = .int .i64 r167.2.1 ∧ f225 22 = .int .i64 r167.2.2 ∧ f225 23 = .bool x223 ∧ Below w.heap.size w w224 ∧ Blk w224 b7 [S a1.name, .int .u16 a1.ty, .int .u16 a1.cls, .int .u32 a1.ttl, S a1.data] 25 ∧ Blk w224 b101 [S r99.name, .int .u16 r99.ty, .int .u16 r99.cls] 30 ∧ Blk w224 b118 [S r116.1.name, .int .u16 r116.1.ty, .int .u16 r116.1.cls, .int .u32 r116.1.ttl, S r116.1.data] 25 ∧ Blk w224 b135 [S r133.1.name, .int .u16 r133.1.ty, .int .u16 r133.1.cls, .int .u32 r133.1.ttl, S r133.1.data] 25 ∧ Blk w224 b152 [S r150.1.name, .int .u16 r150.1.ty, .int .u16 r150.1.cls] 30 ∧ Blk w224 b169 [S r167.1.name, .int .u16 r167.1.ty, .int .u16 r167.1.cls] 30 ∧ (∀ x, MB b7 x → x < b101) ∧ (∀ x, MB b7 x → x < b118) ∧ (∀ x, MB b7 x → x < b135) ∧ (∀ x, MB b7 x → x < b152) ∧ (∀ x, MB b7 x → x < b169) ∧ (∀ x, MB b101 x → x < b118) ∧ (∀ x, MB b101 x → x < b135) ∧ (∀ x, MB b101 x → x < b152) ∧ (∀ x, MB b101 x → x < b169) ∧ (∀ x, MB b118 x → x < b135) ∧ (∀ x, MB b118 x → x < b152) ∧ (∀ x, MB b118 x → x < b169) ∧ (∀ x, MB b135 x → x < b152) ∧ (∀ x, MB b135 x → x < b169) ∧ (∀ x, MB b152 x → x < b169) ∧ derricklaw05_RecordTells.j2 r26 r99 a1 r116 r133 r150 r167 x223 = some res) ?_ ?_
   ·refine X.tree mixed0 [0, 1, 0, 7, 15, 31, 63, 127, 63, 511, 1023, 2047, 4095, 8191, 8191, 32767, 8191, 8191, 262143, 524287, 1048575, 2097151] (.q 0 (.q 1 (.q 2 (.q 3 (.q 4 (.q 5 (.q 6 (.q 7 (.q 8 (.q 9 (.q 10 (.q 11 (.q 12 (.q 13 (.q 14 (.q 15 (.q 16 (.q 17 (.q 18 (.q 19 (.q 20 (.q 21 .nil)))))))))))))))))))))) (fun w' => Below w.heap.size w w' ∧ Blk w' b7 [S a1.name, .int .u16 a1.ty, .int .u16 a1.cls, .int .u32 a1.ttl, S a1.data] 25 ∧ Blk w' b14 [S a2.name, .int .u16 a2.ty, .int .u16 a2.cls, .int .u32 a2.ttl, S a2.data] 25 ∧ Blk w' b101 [S r99.name, .int .u16 r99.ty, .int .u16 r99.cls] 30 ∧ Blk w' b118 [S r116.1.name, .int .u16 r116.1.ty, .int .u16 r116.1.cls, .int .u32 r116.1.ttl, S r116.1.data] 25 ∧ Blk w' b135 [S r133.1.name, .int .u16 r133.1.ty, .int .u16 r133.1.cls, .int .u32 r133.1.ttl, S r133.1.data] 25 ∧ Blk w' b152 [S r150.1.name, .int .u16 r150.1.ty, .int .u16 r150.1.cls] 30 ∧ Blk w' b169 [S r167.1.name, .int .u16 r167.1.ty, .int .u16 r167.1.cls] 30) (fun w' => Below w.heap.size w w' ∧ Blk w' b7 [S a1.name, .int .u16 a1.ty, .int .u16 a1.cls, .int .u32 a1.ttl, S a1.data] 25 ∧ Blk w' b14 [S a2.name, .int .u16 a2.ty, .int .u16 a2.cls, .int .u32 a2.ttl, S a2.data] 25 ∧ Blk w' b101 [S r99.name, .int .u16 r99.ty, .int .u16 r99.cls] 30 ∧ Blk w' b118 [S r116.1.name, .int .u16 r116.1.ty, .int .u16 r116.1.cls, .int .u32 r116.1.ttl, S r116.1.data] 25 ∧ Blk w' b135 [S r133.1.name, .int .u16 r133.1.ty, .int .u16 r133.1.cls, .int .u32 r133.1.ttl, S r133.1.data] 25 ∧ Blk w' b152 [S r150.1.name, .int .u16 r150.1.ty, .int .u16 r150.1.cls] 30 ∧ Blk w' b169 [S r167.1.name, .int .u16 r167.1.ty, .int .u16 r167.1.cls] 30) (by decide +kernel) (fun w' hx _ => ⟨below_ext hB hx, H80.ext hx, H81.ext hx, H108.ext hx, H125.ext hx, H142.ext hx, H159.ext hx, H176.ext hx⟩) (fun a b hC hx => by obtain ⟨hB, H80, H81, H108, H125, H142, H159, H176⟩ := hC; exact ⟨below_ext hB hx, H80.ext hx, H81.ext hx, H108.ext hx, H125.ext hx, H142.ext hx, H159.ext hx, H176.ext hx⟩) (fun a hC => by obtain ⟨hB, H80, H81, H108, H125, H142, H159, H176⟩ := hC; exact ⟨hB, H80, H81, H108, H125, H142, H159, H176⟩) ?_
    refine QT.do (v := .agg #[S a1.name, .int .u16 a1.ty, .int .u16 a1.cls, .int .u32 a1.ttl, S a1.data]) rfl (by decide +kernel) rfl rfl rfl (fun w' hJ => by obtain ⟨hB, H80, H81, H108, H125, H142, H159, H176⟩ := hJ; exact D.loadA (j := 0) (us := [S a1.name, .int .u16 a1.ty, .int .u16 a1.cls, .int .u32 a1.ttl, S a1.data]) ag25 H80.cs rfl rfl rfl rfl rfl ⟨rfl, Ext.refl _⟩) ?_
    rcases (Classical.em (record_May.pre a1)).symm with c254 | c254
    ·rw [if_neg c254] at h; cases h
    rw [if_pos c254] at h
    obtain ⟨r258, q259, h⟩ := lt_elim h
    refine QT.do (v := .bool r258) rfl (by decide +kernel) rfl rfl rfl (fun w' hJ => by obtain ⟨hB, H80, H81, H108, H125, H142, H159, H176⟩ := hJ; have hc := record_May.ok a1 w' c254; rw [q259] at hc; refine D.call (vs := [.agg #[S a1.name, .int .u16 a1.ty, .int .u16 a1.cls, .int .u32 a1.ttl, S a1.data]]) cf11 hc rfl rfl ?_; rintro _ w2 ⟨rfl, e2⟩; exact ⟨rfl, e2⟩) ?_
    refine QT.do (v := .agg #[S a1.name, .int .u16 a1.ty, .int .u16 a1.cls, .int .u32 a1.ttl, S a1.data]) rfl (by decide +kernel) rfl rfl rfl (fun w' hJ => by obtain ⟨hB, H80, H81, H108, H125, H142, H159, H176⟩ := hJ; exact D.loadA (j := 0) (us := [S a1.name, .int .u16 a1.ty, .int .u16 a1.cls, .int .u32 a1.ttl, S a1.data]) ag25 H80.cs rfl rfl rfl rfl rfl ⟨rfl, Ext.refl _⟩) ?_
    rcases (Classical.em (derrickref05_May.pre a1)).symm with c260 | c260
    ·rw [if_neg c260] at h; cases h
    rw [if_pos c260] at h
    obtain ⟨r264, q265, h⟩ := lt_elim h
    refine QT.do (v := .bool r264) rfl (by decide +kernel) rfl rfl rfl (fun w' hJ => by obtain ⟨hB, H80, H81, H108, H125, H142, H159, H176⟩ := hJ; have hc := derrickref05_May.ok a1 w' c260; rw [q265] at hc; refine D.call (vs := [.agg #[S a1.name, .int .u16 a1.ty, .int .u16 a1.cls, .int .u32 a1.ttl, S a1.data]]) cf22 hc rfl rfl ?_; rintro _ w2 ⟨rfl, e2⟩; exact ⟨rfl, e2⟩) ?_
    refine QT.do (v := .bool (r258 == r264)) rfl (by decide +kernel) rfl rfl rfl (fun w' hJ => by obtain ⟨hB, H80, H81, H108, H125, H142, H159, H176⟩ := hJ; exact D.eqlB Try.underlying4 rfl rfl rfl ⟨rfl, Ext.refl _⟩) ?_
    refine QT.do (v := .bool (r258 == r264)) rfl (by decide +kernel) rfl rfl rfl (fun w' hJ => by obtain ⟨hB, H80, H81, H108, H125, H142, H159, H176⟩ := hJ; exact D.mv (v := .bool (r258 == r264)) rfl rfl ⟨rfl, Ext.refl _⟩) ?_
    by_cases c266 : (r258 == r264) = true
    ·rw [if_pos c266] at h
     refine QT.do (v := .agg #[S r99.name, .int .u16 r99.ty, .int .u16 r99.cls]) rfl (by decide +kernel) (wantG (j := 5) (b := true) rfl (c266) rfl) rfl rfl (fun w' hJ => by obtain ⟨hB, H80, H81, H108, H125, H142, H159, H176⟩ := hJ; exact D.loadA (j := 0) (us := [S r99.name, .int .u16 r99.ty, .int .u16 r99.cls]) ag30 H108.cs rfl rfl rfl rfl rfl ⟨rfl, Ext.refl _⟩) ?_
     rcases (Classical.em (record_MayQ.pre r99)).symm with c267 | c267
     ·rw [if_neg c267] at h; cases h
     rw [if_pos c267] at h
     obtain ⟨r271, q272, h⟩ := lt_elim h
     refine QT.do (v := .bool r271) rfl (by decide +kernel) (wantG (j := 5) (b := true) rfl (c266) rfl) rfl rfl (fun w' hJ => by obtain ⟨hB, H80, H81, H108, H125, H142, H159, H176⟩ := hJ; have hc := record_MayQ.ok r99 w' c267; rw [q272] at hc; refine D.call (vs := [.agg #[S r99.name, .int .u16 r99.ty, .int .u16 r99.cls]]) cf23 hc rfl rfl ?_; rintro _ w2 ⟨rfl, e2⟩; exact ⟨rfl, e2⟩) ?_
     refine QT.do (v := .agg #[S r99.name, .int .u16 r99.ty, .int .u16 r99.cls]) rfl (by decide +kernel) (wantG (j := 5) (b := true) rfl (c266) rfl) rfl rfl (fun w' hJ => by obtain ⟨hB, H80, H81, H108, H125, H142, H159, H176⟩ := hJ; exact D.loadA (j := 0) (us := [S r99.name, .int .u16 r99.ty, .int .u16 r99.cls]) ag30 H108.cs rfl rfl rfl rfl rfl ⟨rfl, Ext.refl _⟩) ?_
     rcases (Classical.em (derrickref05_MayQ.pre r99)).symm with c273 | c273
     ·rw [if_neg c273] at h; cases h
     rw [if_pos c273] at h
     obtain ⟨r277, q278, h⟩ := lt_elim h
     refine QT.do (v := .bool r277) rfl (by decide +kernel) (wantG (j := 5) (b := true) rfl (c266) rfl) rfl rfl (fun w' hJ => by obtain ⟨hB, H80, H81, H108, H125, H142, H159, H176⟩ := hJ; have hc := derrickref05_MayQ.ok r99 w' c273; rw [q278] at hc; refine D.call (vs := [.agg #[S r99.name, .int .u16 r99.ty, .int .u16 r99.cls]]) cf24 hc rfl rfl ?_; rintro _ w2 ⟨rfl, e2⟩; exact ⟨rfl, e2⟩) ?_
     refine QT.do (v := .bool (r271 == r277)) rfl (by decide +kernel) (wantG (j := 5) (b := true) rfl (c266) rfl) rfl rfl (fun w' hJ => by obtain ⟨hB, H80, H81, H108, H125, H142, H159, H176⟩ := hJ; exact D.eqlB Try.underlying4 rfl rfl rfl ⟨rfl, Ext.refl _⟩) ?_
     refine QT.do (v := .bool (r271 == r277)) rfl (by decide +kernel) rfl rfl rfl (fun w' hJ => by obtain ⟨hB, H80, H81, H108, H125, H142, H159, H176⟩ := hJ; exact D.pick true (v := .bool (r271 == r277)) (congrArg Value.bool (c266)) rfl rfl ⟨rfl, Ext.refl _⟩) ?_
     refine QT.do (v := .bool (r271 == r277)) rfl (by decide +kernel) rfl rfl rfl (fun w' hJ => by obtain ⟨hB, H80, H81, H108, H125, H142, H159, H176⟩ := hJ; exact D.mv (v := .bool (r271 == r277)) rfl rfl ⟨rfl, Ext.refl _⟩) ?_
     by_cases c279 : (r271 == r277) = true
     ·rw [if_pos c279] at h
      refine QT.do (v := .agg #[S a1.name, .int .u16 a1.ty, .int .u16 a1.cls, .int .u32 a1.ttl, S a1.data]) rfl (by decide +kernel) (wantG (j := 12) (b := true) rfl (c279) rfl) rfl rfl (fun w' hJ => by obtain ⟨hB, H80, H81, H108, H125, H142, H159, H176⟩ := hJ; exact D.loadA (j := 0) (us := [S a1.name, .int .u16 a1.ty, .int .u16 a1.cls, .int .u32 a1.ttl, S a1.data]) ag25 H80.cs rfl rfl rfl rfl rfl ⟨rfl, Ext.refl _⟩) ?_
      refine QT.do (v := .agg #[S a2.name, .int .u16 a2.ty, .int .u16 a2.cls, .int .u32 a2.ttl, S a2.data]) rfl (by decide +kernel) (wantG (j := 12) (b := true) rfl (c279) rfl) rfl rfl (fun w' hJ => by obtain ⟨hB, H80, H81, H108, H125, H142, H159, H176⟩ := hJ; exact D.loadA (j := 0) (us := [S a2.name, .int .u16 a2.ty, .int .u16 a2.cls, .int .u32 a2.ttl, S a2.data]) ag25 H81.cs rfl rfl rfl rfl rfl ⟨rfl, Ext.refl _⟩) ?_
      obtain ⟨r283, q284, h⟩ := lt_elim h
      refine QT.do (v := .bool r283) rfl (by decide +kernel) (wantG (j := 12) (b := true) rfl (c279) rfl) rfl rfl (fun w' hJ => by obtain ⟨hB, H80, H81, H108, H125, H142, H159, H176⟩ := hJ; have hc := record_Same.ok a1 a2 w'; rw [q284] at hc; refine D.call (vs := [.agg #[S a1.name, .int .u16 a1.ty, .int .u16 a1.cls, .int .u32 a1.ttl, S a1.data], .agg #[S a2.name, .int .u16 a2.ty, .int .u16 a2.cls, .int .u32 a2.ttl, S a2.data]]) cf9 hc rfl rfl ?_; rintro _ w2 ⟨rfl, e2⟩; exact ⟨rfl, e2⟩) ?_
      refine QT.do (v := .agg #[S a1.name, .int .u16 a1.ty, .int .u16 a1.cls, .int .u32 a1.ttl, S a1.data]) rfl (by decide +kernel) (wantG (j := 12) (b := true) rfl (c279) rfl) rfl rfl (fun w' hJ => by obtain ⟨hB, H80, H81, H108, H125, H142, H159, H176⟩ := hJ; exact D.loadA (j := 0) (us := [S a1.name, .int .u16 a1.ty, .int .u16 a1.cls, .int .u32 a1.ttl, S a1.data]) ag25 H80.cs rfl rfl rfl rfl rfl ⟨rfl, Ext.refl _⟩) ?_
      refine QT.do (v := .agg #[S a2.name, .int .u16 a2.ty, .int .u16 a2.cls, .int .u32 a2.ttl, S a2.data]) rfl (by decide +kernel) (wantG (j := 12) (b := true) rfl (c279) rfl) rfl rfl (fun w' hJ => by obtain ⟨hB, H80, H81, H108, H125, H142, H159, H176⟩ := hJ; exact D.loadA (j := 0) (us := [S a2.name, .int .u16 a2.ty, .int .u16 a2.cls, .int .u32 a2.ttl, S a2.data]) ag25 H81.cs rfl rfl rfl rfl rfl ⟨rfl, Ext.refl _⟩) ?_
      obtain ⟨r288, q289, h⟩ := lt_elim h
      refine QT.do (v := .bool r288) rfl (by decide +kernel) (wantG (j := 12) (b := true) rfl (c279) rfl) rfl rfl (fun w' hJ => by obtain ⟨hB, H80, H81, H108, H125, H142, H159, H176⟩ := hJ; have hc := derrickref05_Same.ok a1 a2 w'; rw [q289] at hc; refine D.call (vs := [.agg #[S a1.name, .int .u16 a1.ty, .int .u16 a1.cls, .int .u32 a1.ttl, S a1.data], .agg #[S a2.name, .int .u16 a2.ty, .int .u16 a2.cls, .int .u32 a2.ttl, S a2.data]]) cf25 hc rfl rfl ?_; rintro _ w2 ⟨rfl, e2⟩; exact ⟨rfl, e2⟩) ?_
      refine QT.do (v := .bool (r283 == r288)) rfl (by decide +kernel) (wantG (j := 12) (b := true) rfl (c279) rfl) rfl rfl (fun w' hJ => by obtain ⟨hB, H80, H81, H108, H125, H142, H159, H176⟩ := hJ; exact D.eqlB Try.underlying4 rfl rfl rfl ⟨rfl, Ext.refl _⟩) ?_
      refine QT.do (v := .bool (r283 == r288)) rfl (by decide +kernel) rfl rfl rfl (fun w' hJ => by obtain ⟨hB, H80, H81, H108, H125, H142, H159, H176⟩ := hJ; exact D.pick true (v := .bool (r283 == r288)) (congrArg Value.bool (c279)) rfl rfl ⟨rfl, Ext.refl _⟩) ?_
      refine QT.do (v := .bool (r283 == r288)) rfl (by decide +kernel) rfl rfl rfl (fun w' hJ => by obtain ⟨hB, H80, H81, H108, H125, H142, H159, H176⟩ := hJ; exact D.asn (v := .bool (r283 == r288)) rfl rfl ⟨rfl, Ext.refl _⟩) ?_
      refine QT.nil fun w290 hC => ?_
      obtain ⟨hB, H80, H81, H108, H125, H142, H159, H176⟩ := hC
      exact ⟨(r283 == r288), rfl, rfl, rfl, rfl, rfl, rfl, rfl, rfl, rfl, rfl, rfl, rfl, rfl, rfl, rfl, rfl, hB, H80, H108, H125, H142, H159, H176, lt_13_106, lt_13_123, lt_13_140, lt_13_157, lt_13_174, lt_106_123, lt_106_140, lt_106_157, lt_106_174, lt_123_140, lt_123_157, lt_123_174, lt_140_157, lt_140_174, lt_157_174, h⟩
     ·rw [if_neg c279] at h
      refine QT.off rfl (wantG0 (j := 12) (b := true) rfl ((Bool.eq_false_iff.2 c279)) rfl) rfl rfl ?_
      refine QT.off rfl (wantG0 (j := 12) (b := true) rfl ((Bool.eq_false_iff.2 c279)) rfl) rfl rfl ?_
      refine QT.off rfl (wantG0 (j := 12) (b := true) rfl ((Bool.eq_false_iff.2 c279)) rfl) rfl rfl ?_
      refine QT.off rfl (wantG0 (j := 12) (b := true) rfl ((Bool.eq_false_iff.2 c279)) rfl) rfl rfl ?_
      refine QT.off rfl (wantG0 (j := 12) (b := true) rfl ((Bool.eq_false_iff.2 c279)) rfl) rfl rfl ?_
      refine QT.off rfl (wantG0 (j := 12) (b := true) rfl ((Bool.eq_false_iff.2 c279)) rfl) rfl rfl ?_
      refine QT.off rfl (wantG0 (j := 12) (b := true) rfl ((Bool.eq_false_iff.2 c279)) rfl) rfl rfl ?_
      refine QT.do (v := .bool false) rfl (by decide +kernel) rfl rfl rfl (fun w' hJ => by obtain ⟨hB, H80, H81, H108, H125, H142, H159, H176⟩ := hJ; exact D.pick false (v := .bool false) (congrArg Value.bool ((Bool.eq_false_iff.2 c279))) rfl rfl ⟨rfl, Ext.refl _⟩) ?_
      refine QT.do (v := .bool false) rfl (by decide +kernel) rfl rfl rfl (fun w' hJ => by obtain ⟨hB, H80, H81, H108, H125, H142, H159, H176⟩ := hJ; exact D.asn (v := .bool false) rfl rfl ⟨rfl, Ext.refl _⟩) ?_
      refine QT.nil fun w291 hC => ?_
      obtain ⟨hB, H80, H81, H108, H125, H142, H159, H176⟩ := hC
      exact ⟨false, rfl, rfl, rfl, rfl, rfl, rfl, rfl, rfl, rfl, rfl, rfl, rfl, rfl, rfl, rfl, rfl, hB, H80, H108, H125, H142, H159, H176, lt_13_106, lt_13_123, lt_13_140, lt_13_157, lt_13_174, lt_106_123, lt_106_140, lt_106_157, lt_106_174, lt_123_140, lt_123_157, lt_123_174, lt_140_157, lt_140_174, lt_157_174, h⟩
    ·rw [if_neg c266] at h
     refine QT.off rfl (wantG0 (j := 5) (b := true) rfl ((Bool.eq_false_iff.2 c266)) rfl) rfl rfl ?_
     refine QT.off rfl (wantG0 (j := 5) (b := true) rfl ((Bool.eq_false_iff.2 c266)) rfl) rfl rfl ?_
     refine QT.off rfl (wantG0 (j := 5) (b := true) rfl ((Bool.eq_false_iff.2 c266)) rfl) rfl rfl ?_
     refine QT.off rfl (wantG0 (j := 5) (b := true) rfl ((Bool.eq_false_iff.2 c266)) rfl) rfl rfl ?_
     refine QT.off rfl (wantG0 (j := 5) (b := true) rfl ((Bool.eq_false_iff.2 c266)) rfl) rfl rfl ?_
     refine QT.do (v := .bool false) rfl (by decide +kernel) rfl rfl rfl (fun w' hJ => by obtain ⟨hB, H80, H81, H108, H125, H142, H159, H176⟩ := hJ; exact D.pick false (v := .bool false) (congrArg Value.bool ((Bool.eq_false_iff.2 c266))) rfl rfl ⟨rfl, Ext.refl _⟩) ?_
     refine QT.do (v := .bool false) rfl (by decide +kernel) rfl rfl rfl (fun w' hJ => by obtain ⟨hB, H80, H81, H108, H125, H142, H159, H176⟩ := hJ; exact D.mv (v := .bool false) rfl rfl ⟨rfl, Ext.refl _⟩) ?_
     refine QT.off rfl (wantG0 (j := 12) (b := true) rfl (rfl) rfl) rfl rfl ?_
     refine QT.off rfl (wantG0 (j := 12) (b := true) rfl (rfl) rfl) rfl rfl ?_
     refine QT.off rfl (wantG0 (j := 12) (b := true) rfl (rfl) rfl) rfl rfl ?_
     refine QT.off rfl (wantG0 (j := 12) (b := true) rfl (rfl) rfl) rfl rfl ?_
     refine QT.off rfl (wantG0 (j := 12) (b := true) rfl (rfl) rfl) rfl rfl ?_
     refine QT.off rfl (wantG0 (j := 12) (b := true) rfl (rfl) rfl) rfl rfl ?_
     refine QT.off rfl (wantG0 (j := 12) (b := true) rfl (rfl) rfl) rfl rfl ?_
     refine QT.do (v := .bool false) rfl (by decide +kernel) rfl rfl rfl (fun w' hJ => by obtain ⟨hB, H80, H81, H108, H125, H142, H159, H176⟩ := hJ; exact D.pick false (v := .bool false) (congrArg Value.bool (rfl)) rfl rfl ⟨rfl, Ext.refl _⟩) ?_
     refine QT.do (v := .bool false) rfl (by decide +kernel) rfl rfl rfl (fun w' hJ => by obtain ⟨hB, H80, H81, H108, H125, H142, H159, H176⟩ := hJ; exact D.asn (v := .bool false) rfl rfl ⟨rfl, Ext.refl _⟩) ?_
     refine QT.nil fun w292 hC => ?_
     obtain ⟨hB, H80, H81, H108, H125, H142, H159, H176⟩ := hC
     exact ⟨false, rfl, rfl, rfl, rfl, rfl, rfl, rfl, rfl, rfl, rfl, rfl, rfl, rfl, rfl, rfl, rfl, hB, H80, H108, H125, H142, H159, H176, lt_13_106, lt_13_123, lt_13_140, lt_13_157, lt_13_174, lt_106_123, lt_106_140, lt_106_157, lt_106_174, lt_123_140, lt_123_157, lt_123_174, lt_140_157, lt_140_174, lt_157_174, h⟩
   ·intro f225 w224 hI
    obtain ⟨x223, s226, s227, s228, s229, s230, s231, s232, s233, s234, s235, s236, s237, s238, s239, s240, s241, hB, H217, H218, H219, H220, H221, H222, pr13_106, pr13_123, pr13_140, pr13_157, pr13_174, pr106_123, pr106_140, pr106_157, pr106_174, pr123_140, pr123_157, pr123_174, pr140_157, pr140_174, pr157_174, h⟩ := hI
    refine X.fr (d := 4) s226 ?_
    refine X.fr (d := 9) s227 ?_
    refine X.fr (d := 10) s228 ?_
    refine X.fr (d := 11) s229 ?_
    refine X.fr (d := 12) s230 ?_
    refine X.fr (d := 13) s231 ?_
    refine X.fr (d := 14) s232 ?_
    refine X.fr (d := 15) s233 ?_
    refine X.fr (d := 16) s234 ?_
    refine X.fr (d := 17) s235 ?_
    refine X.fr (d := 18) s236 ?_
    refine X.fr (d := 19) s237 ?_
    refine X.fr (d := 20) s238 ?_
    refine X.fr (d := 21) s239 ?_
    refine X.fr (d := 22) s240 ?_
    refine X.fr (d := 23) s241 ?_
    unfold derricklaw05_RecordTells.j2 at h
    refine X.seq fun M242 hM243 => ?_
    refine X.region ?_
    refine XO.do rfl (D.mv (v := .bool r26) rfl rfl ?_)
    refine XO.do rfl (D.mv (v := .bool r26) rfl rfl ?_)
    by_cases c244 : r26 = true
    ·rw [if_pos c244] at h
     refine XO.do (wantG (j := 1) (b := true) rfl (c244) rfl) (D.mv (v := .bool x223) rfl rfl ?_)
     refine XO.do rfl (D.pick true (v := .bool x223) (congrArg Value.bool (c244)) rfl rfl ?_)
     refine XO.do rfl (D.mv (v := .bool x223) rfl rfl ?_)
     by_cases c245 : x223 = true
     ·rw [if_pos c245] at h
      refine XO.do (wantG (j := 4) (b := true) rfl (c245) rfl) (D.fieldAddr (o' := 0) fa30_0 rfl rfl rfl ?_)
      refine XO.do (wantG (j := 4) (b := true) rfl (c245) rfl) (D.load (j := 0) (v := S r99.name) sc9 H218.cs rfl rfl rfl rfl ?_)
      refine XO.do (wantG (j := 4) (b := true) rfl (c245) rfl) (D.fieldAddr (o' := 0) fa25_0 rfl rfl rfl ?_)
      refine XO.do (wantG (j := 4) (b := true) rfl (c245) rfl) (D.load (j := 0) (v := S a1.name) sc9 H217.cs rfl rfl rfl rfl ?_)
      refine XO.do (wantG (j := 4) (b := true) rfl (c245) rfl) (D.eqlS rfl rfl rfl ?_)
      refine XO.do rfl (D.pick true (v := .bool (r99.name == a1.name)) (congrArg Value.bool (c245)) rfl rfl ?_)
      refine XO.do rfl (D.mv (v := .bool (r99.name == a1.name)) rfl rfl ?_)
      by_cases c246 : r99.name = a1.name
      ·rw [if_pos c246] at h
       refine XO.do (wantG (j := 11) (b := true) rfl (beq_iff_eq.2 c246) rfl) (D.fieldAddr (o' := 1) fa30_1 rfl rfl rfl ?_)
       refine XO.do (wantG (j := 11) (b := true) rfl (beq_iff_eq.2 c246) rfl) (D.load (j := 1) (v := .int .u16 r99.ty) sc22 H218.cs rfl rfl rfl rfl ?_)
       refine XO.do (wantG (j := 11) (b := true) rfl (beq_iff_eq.2 c246) rfl) (D.fieldAddr (o' := 1) fa25_1 rfl rfl rfl ?_)
       refine XO.do (wantG (j := 11) (b := true) rfl (beq_iff_eq.2 c246) rfl) (D.load (j := 1) (v := .int .u16 a1.ty) sc22 H217.cs rfl rfl rfl rfl ?_)
       refine XO.do (wantG (j := 11) (b := true) rfl (beq_iff_eq.2 c246) rfl) (D.eql rfl rfl rfl ?_)
       refine XO.do rfl (D.pick true (v := .bool (r99.ty == a1.ty)) (congrArg Value.bool (beq_iff_eq.2 c246)) rfl rfl ?_)
       refine XO.do rfl (D.mv (v := .bool (r99.ty == a1.ty)) rfl rfl ?_)
       by_cases c247 : r99.ty = a1.ty
       ·rw [if_pos c247] at h
        refine XO.do (wantG (j := 18) (b := true) rfl (beq_iff_eq.2 c247) rfl) (D.fieldAddr (o' := 2) fa30_2 rfl rfl rfl ?_)
        refine XO.do (wantG (j := 18) (b := true) rfl (beq_iff_eq.2 c247) rfl) (D.load (j := 2) (v := .int .u16 r99.cls) sc22 H218.cs rfl rfl rfl rfl ?_)
        refine XO.do (wantG (j := 18) (b := true) rfl (beq_iff_eq.2 c247) rfl) (D.fieldAddr (o' := 2) fa25_2 rfl rfl rfl ?_)
        refine XO.do (wantG (j := 18) (b := true) rfl (beq_iff_eq.2 c247) rfl) (D.load (j := 2) (v := .int .u16 a1.cls) sc22 H217.cs rfl rfl rfl rfl ?_)
        refine XO.do (wantG (j := 18) (b := true) rfl (beq_iff_eq.2 c247) rfl) (D.eql rfl rfl rfl ?_)
        refine XO.do rfl (D.pick true (v := .bool (r99.cls == a1.cls)) (congrArg Value.bool (beq_iff_eq.2 c247)) rfl rfl ?_)
        refine XO.do rfl (D.mv (v := .bool (r99.cls == a1.cls)) rfl rfl ?_)
        by_cases c248 : r99.cls = a1.cls
        ·rw [if_pos c248] at h
         refine XO.do (wantG (j := 25) (b := true) rfl (beq_iff_eq.2 c248) rfl) (D.loadA (j := 0) (us := [S r116.1.name, .int .u16 r116.1.ty, .int .u16 r116.1.cls, .int .u32 r116.1.ttl, S r116.1.data]) ag25 H219.cs rfl rfl rfl rfl rfl ?_)
         refine XO.do (wantG (j := 25) (b := true) rfl (beq_iff_eq.2 c248) rfl) (D.loadA (j := 0) (us := [S r133.1.name, .int .u16 r133.1.ty, .int .u16 r133.1.cls, .int .u32 r133.1.ttl, S r133.1.data]) ag25 H220.cs rfl rfl rfl rfl rfl ?_)
         refine XO.do (wantG (j := 25) (b := true) rfl (beq_iff_eq.2 c248) rfl) (D.eqSt (eqRR r116.1 r133.1) rfl rfl rfl ?_)
         refine XO.do rfl (D.pick true (v := .bool (decide (r116.1 = r133.1))) (congrArg Value.bool (beq_iff_eq.2 c248)) rfl rfl ?_)
         refine XO.do rfl (D.mv (v := .bool (decide (r116.1 = r133.1))) rfl rfl ?_)
         by_cases c249 : r116.1 = r133.1
         ·rw [if_pos c249] at h
          refine XO.do (wantG (j := 30) (b := true) rfl (decide_eq_true c249) rfl) (D.mv (v := .int .i64 r116.2.1) rfl rfl ?_)
          refine XO.do (wantG (j := 30) (b := true) rfl (decide_eq_true c249) rfl) (D.mv (v := .int .i64 r133.2.1) rfl rfl ?_)
          refine XO.do (wantG (j := 30) (b := true) rfl (decide_eq_true c249) rfl) (D.eql rfl rfl rfl ?_)
          refine XO.do rfl (D.pick true (v := .bool (r116.2.1 == r133.2.1)) (congrArg Value.bool (decide_eq_true c249)) rfl rfl ?_)
          refine XO.do rfl (D.mv (v := .bool (r116.2.1 == r133.2.1)) rfl rfl ?_)
          by_cases c250 : r116.2.1 = r133.2.1
          ·rw [if_pos c250] at h
           refine XO.do (wantG (j := 35) (b := true) rfl (beq_iff_eq.2 c250) rfl) (D.mv (v := .int .i64 r116.2.2) rfl rfl ?_)
           refine XO.do (wantG (j := 35) (b := true) rfl (beq_iff_eq.2 c250) rfl) (D.mv (v := .int .i64 r133.2.2) rfl rfl ?_)
           refine XO.do (wantG (j := 35) (b := true) rfl (beq_iff_eq.2 c250) rfl) (D.eql rfl rfl rfl ?_)
           refine XO.do rfl (D.pick true (v := .bool (r116.2.2 == r133.2.2)) (congrArg Value.bool (beq_iff_eq.2 c250)) rfl rfl ?_)
           refine XO.do rfl (D.mv (v := .bool (r116.2.2 == r133.2.2)) rfl rfl ?_)
           by_cases c251 : r116.2.2 = r133.2.2
           ·rw [if_pos c251] at h
            refine XO.do (wantG (j := 40) (b := true) rfl (beq_iff_eq.2 c251) rfl) (D.loadA (j := 0) (us := [S r150.1.name, .int .u16 r150.1.ty, .int .u16 r150.1.cls]) ag30 H221.cs rfl rfl rfl rfl rfl ?_)
            refine XO.do (wantG (j := 40) (b := true) rfl (beq_iff_eq.2 c251) rfl) (D.loadA (j := 0) (us := [S r167.1.name, .int .u16 r167.1.ty, .int .u16 r167.1.cls]) ag30 H222.cs rfl rfl rfl rfl rfl ?_)
            refine XO.do (wantG (j := 40) (b := true) rfl (beq_iff_eq.2 c251) rfl) (D.eqSt (eqQuestion r150.1 r167.1) rfl rfl rfl ?_)
            refine XO.do rfl (D.pick true (v := .bool (decide (r150.1 = r167.1))) (congrArg Value.bool (beq_iff_eq.2 c251)) rfl rfl ?_)
            refine XO.do rfl (D.mv (v := .bool (decide (r150.1 = r167.1))) rfl rfl ?_)
            by_cases c252 : r150.1 = r167.1
            ·rw [if_pos c252] at h
             refine XO.do (wantG (j := 45) (b := true) rfl (decide_eq_true c252) rfl) (D.mv (v := .int .i64 r150.2.1) rfl rfl ?_)
             refine XO.do (wantG (j := 45) (b := true) rfl (decide_eq_true c252) rfl) (D.mv (v := .int .i64 r167.2.1) rfl rfl ?_)
             refine XO.do (wantG (j := 45) (b := true) rfl (decide_eq_true c252) rfl) (D.eql rfl rfl rfl ?_)
             refine XO.do rfl (D.pick true (v := .bool (r150.2.1 == r167.2.1)) (congrArg Value.bool (decide_eq_true c252)) rfl rfl ?_)
             refine XO.do rfl (D.mv (v := .bool (r150.2.1 == r167.2.1)) rfl rfl ?_)
             by_cases c253 : r150.2.1 = r167.2.1
             ·rw [if_pos c253] at h
              refine XO.do (wantG (j := 50) (b := true) rfl (beq_iff_eq.2 c253) rfl) (D.mv (v := .int .i64 r150.2.2) rfl rfl ?_)
              refine XO.do (wantG (j := 50) (b := true) rfl (beq_iff_eq.2 c253) rfl) (D.mv (v := .int .i64 r167.2.2) rfl rfl ?_)
              refine XO.do (wantG (j := 50) (b := true) rfl (beq_iff_eq.2 c253) rfl) (D.eql rfl rfl rfl ?_)
              refine XO.do rfl (D.pick true (v := .bool (r150.2.2 == r167.2.2)) (congrArg Value.bool (beq_iff_eq.2 c253)) rfl rfl ?_)
              refine XO.do rfl (D.asn (v := .bool (r150.2.2 == r167.2.2)) rfl rfl ?_)
              refine XO.nil ?_
              refine hM243 _ _ ?_
              refine X.ret ?_
              injection h with h
              subst h
              exact hR _ _ _ (ret1 (v := .bool (r150.2.2 == r167.2.2)) rfl rfl) ⟨rfl, ext_of_below hB⟩
             ·rw [if_neg c253] at h
              refine XO.off (wantG0 (j := 50) (b := true) rfl (beq_eq_false_iff_ne.2 c253) rfl) rfl rfl ?_
              refine XO.off (wantG0 (j := 50) (b := true) rfl (beq_eq_false_iff_ne.2 c253) rfl) rfl rfl ?_
              refine XO.off (wantG0 (j := 50) (b := true) rfl (beq_eq_false_iff_ne.2 c253) rfl) rfl rfl ?_
              refine XO.do rfl (D.pick false (v := .bool false) (congrArg Value.bool (beq_eq_false_iff_ne.2 c253)) rfl rfl ?_)
              refine XO.do rfl (D.asn (v := .bool false) rfl rfl ?_)
              refine XO.nil ?_
              refine hM243 _ _ ?_
              refine X.ret ?_
              injection h with h
              subst h
              exact hR _ _ _ (ret1 (v := .bool false) rfl rfl) ⟨rfl, ext_of_below hB⟩
            ·rw [if_neg c252] at h
             refine XO.off (wantG0 (j := 45) (b := true) rfl (decide_eq_false c252) rfl) rfl rfl ?_
             refine XO.off (wantG0 (j := 45) (b := true) rfl (decide_eq_false c252) rfl) rfl rfl ?_
             refine XO.off (wantG0 (j := 45) (b := true) rfl (decide_eq_false c252) rfl) rfl rfl ?_
             refine XO.do rfl (D.pick false (v := .bool false) (congrArg Value.bool (decide_eq_false c252)) rfl rfl ?_)
             refine XO.do rfl (D.mv (v := .bool false) rfl rfl ?_)
             refine XO.off (wantG0 (j := 50) (b := true) rfl (rfl) rfl) rfl rfl ?_
             refine XO.off (wantG0 (j := 50) (b := true) rfl (rfl) rfl) rfl rfl ?_
             refine XO.off (wantG0 (j := 50) (b := true) rfl (rfl) rfl) rfl rfl ?_
             refine XO.do rfl (D.pick false (v := .bool false) (congrArg Value.bool (rfl)) rfl rfl ?_)
             refine XO.do rfl (D.asn (v := .bool false) rfl rfl ?_)
             refine XO.nil ?_
             refine hM243 _ _ ?_
             refine X.ret ?_
             injection h with h
             subst h
             exact hR _ _ _ (ret1 (v := .bool false) rfl rfl) ⟨rfl, ext_of_below hB⟩
           ·rw [if_neg c251] at h
            refine XO.off (wantG0 (j := 40) (b := true) rfl (beq_eq_false_iff_ne.2 c251) rfl) rfl rfl ?_
            refine XO.off (wantG0 (j := 40) (b := true) rfl (beq_eq_false_iff_ne.2 c251) rfl) rfl rfl ?_
            refine XO.off (wantG0 (j := 40) (b := true) rfl (beq_eq_false_iff_ne.2 c251) rfl) rfl rfl ?_
            refine XO.do rfl (D.pick false (v := .bool false) (congrArg Value.bool (beq_eq_false_iff_ne.2 c251)) rfl rfl ?_)
            refine XO.do rfl (D.mv (v := .bool false) rfl rfl ?_)
            refine XO.off (wantG0 (j := 45) (b := true) rfl (rfl) rfl) rfl rfl ?_
            refine XO.off (wantG0 (j := 45) (b := true) rfl (rfl) rfl) rfl rfl ?_
            refine XO.off (wantG0 (j := 45) (b := true) rfl (rfl) rfl) rfl rfl ?_
            refine XO.do rfl (D.pick false (v := .bool false) (congrArg Value.bool (rfl)) rfl rfl ?_)
            refine XO.do rfl (D.mv (v := .bool false) rfl rfl ?_)
            refine XO.off (wantG0 (j := 50) (b := true) rfl (rfl) rfl) rfl rfl ?_
            refine XO.off (wantG0 (j := 50) (b := true) rfl (rfl) rfl) rfl rfl ?_
            refine XO.off (wantG0 (j := 50) (b := true) rfl (rfl) rfl) rfl rfl ?_
            refine XO.do rfl (D.pick false (v := .bool false) (congrArg Value.bool (rfl)) rfl rfl ?_)
            refine XO.do rfl (D.asn (v := .bool false) rfl rfl ?_)
            refine XO.nil ?_
            refine hM243 _ _ ?_
            refine X.ret ?_
            injection h with h
            subst h
            exact hR _ _ _ (ret1 (v := .bool false) rfl rfl) ⟨rfl, ext_of_below hB⟩
          ·rw [if_neg c250] at h
           refine XO.off (wantG0 (j := 35) (b := true) rfl (beq_eq_false_iff_ne.2 c250) rfl) rfl rfl ?_
           refine XO.off (wantG0 (j := 35) (b := true) rfl (beq_eq_false_iff_ne.2 c250) rfl) rfl rfl ?_
           refine XO.off (wantG0 (j := 35) (b := true) rfl (beq_eq_false_iff_ne.2 c250) rfl) rfl rfl ?_
           refine XO.do rfl (D.pick false (v := .bool false) (congrArg Value.bool (beq_eq_false_iff_ne.2 c250)) rfl rfl ?_)
           refine XO.do rfl (D.mv (v := .bool false) rfl rfl ?_)
           refine XO.off (wantG0 (j := 40) (b := true) rfl (rfl) rfl) rfl rfl ?_
           refine XO.off (wantG0 (j := 40) (b := true) rfl (rfl) rfl) rfl rfl ?_
           refine XO.off (wantG0 (j := 40) (b := true) rfl (rfl) rfl) rfl rfl ?_
           refine XO.do rfl (D.pick false (v := .bool false) (congrArg Value.bool (rfl)) rfl rfl ?_)
           refine XO.do rfl (D.mv (v := .bool false) rfl rfl ?_)
           refine XO.off (wantG0 (j := 45) (b := true) rfl (rfl) rfl) rfl rfl ?_
           refine XO.off (wantG0 (j := 45) (b := true) rfl (rfl) rfl) rfl rfl ?_
           refine XO.off (wantG0 (j := 45) (b := true) rfl (rfl) rfl) rfl rfl ?_
           refine XO.do rfl (D.pick false (v := .bool false) (congrArg Value.bool (rfl)) rfl rfl ?_)
           refine XO.do rfl (D.mv (v := .bool false) rfl rfl ?_)
           refine XO.off (wantG0 (j := 50) (b := true) rfl (rfl) rfl) rfl rfl ?_
           refine XO.off (wantG0 (j := 50) (b := true) rfl (rfl) rfl) rfl rfl ?_
           refine XO.off (wantG0 (j := 50) (b := true) rfl (rfl) rfl) rfl rfl ?_
           refine XO.do rfl (D.pick false (v := .bool false) (congrArg Value.bool (rfl)) rfl rfl ?_)
           refine XO.do rfl (D.asn (v := .bool false) rfl rfl ?_)
           refine XO.nil ?_
           refine hM243 _ _ ?_
           refine X.ret ?_
           injection h with h
           subst h
           exact hR _ _ _ (ret1 (v := .bool false) rfl rfl) ⟨rfl, ext_of_below hB⟩
         ·rw [if_neg c249] at h
          refine XO.off (wantG0 (j := 30) (b := true) rfl (decide_eq_false c249) rfl) rfl rfl ?_
          refine XO.off (wantG0 (j := 30) (b := true) rfl (decide_eq_false c249) rfl) rfl rfl ?_
          refine XO.off (wantG0 (j := 30) (b := true) rfl (decide_eq_false c249) rfl) rfl rfl ?_
          refine XO.do rfl (D.pick false (v := .bool false) (congrArg Value.bool (decide_eq_false c249)) rfl rfl ?_)
          refine XO.do rfl (D.mv (v := .bool false) rfl rfl ?_)
          refine XO.off (wantG0 (j := 35) (b := true) rfl (rfl) rfl) rfl rfl ?_
          refine XO.off (wantG0 (j := 35) (b := true) rfl (rfl) rfl) rfl rfl ?_
          refine XO.off (wantG0 (j := 35) (b := true) rfl (rfl) rfl) rfl rfl ?_
          refine XO.do rfl (D.pick false (v := .bool false) (congrArg Value.bool (rfl)) rfl rfl ?_)
          refine XO.do rfl (D.mv (v := .bool false) rfl rfl ?_)
          refine XO.off (wantG0 (j := 40) (b := true) rfl (rfl) rfl) rfl rfl ?_
          refine XO.off (wantG0 (j := 40) (b := true) rfl (rfl) rfl) rfl rfl ?_
          refine XO.off (wantG0 (j := 40) (b := true) rfl (rfl) rfl) rfl rfl ?_
          refine XO.do rfl (D.pick false (v := .bool false) (congrArg Value.bool (rfl)) rfl rfl ?_)
          refine XO.do rfl (D.mv (v := .bool false) rfl rfl ?_)
          refine XO.off (wantG0 (j := 45) (b := true) rfl (rfl) rfl) rfl rfl ?_
          refine XO.off (wantG0 (j := 45) (b := true) rfl (rfl) rfl) rfl rfl ?_
          refine XO.off (wantG0 (j := 45) (b := true) rfl (rfl) rfl) rfl rfl ?_
          refine XO.do rfl (D.pick false (v := .bool false) (congrArg Value.bool (rfl)) rfl rfl ?_)
          refine XO.do rfl (D.mv (v := .bool false) rfl rfl ?_)
          refine XO.off (wantG0 (j := 50) (b := true) rfl (rfl) rfl) rfl rfl ?_
          refine XO.off (wantG0 (j := 50) (b := true) rfl (rfl) rfl) rfl rfl ?_
          refine XO.off (wantG0 (j := 50) (b := true) rfl (rfl) rfl) rfl rfl ?_
          refine XO.do rfl (D.pick false (v := .bool false) (congrArg Value.bool (rfl)) rfl rfl ?_)
          refine XO.do rfl (D.asn (v := .bool false) rfl rfl ?_)
          refine XO.nil ?_
          refine hM243 _ _ ?_
          refine X.ret ?_
          injection h with h
          subst h
          exact hR _ _ _ (ret1 (v := .bool false) rfl rfl) ⟨rfl, ext_of_below hB⟩
        ·rw [if_neg c248] at h
         refine XO.off (wantG0 (j := 25) (b := true) rfl (beq_eq_false_iff_ne.2 c248) rfl) rfl rfl ?_
         refine XO.off (wantG0 (j := 25) (b := true) rfl (beq_eq_false_iff_ne.2 c248) rfl) rfl rfl ?_
         refine XO.off (wantG0 (j := 25) (b := true) rfl (beq_eq_false_iff_ne.2 c248) rfl) rfl rfl ?_
         refine XO.do rfl (D.pick false (v := .bool false) (congrArg Value.bool (beq_eq_false_iff_ne.2 c248)) rfl rfl ?_)
         refine XO.do rfl (D.mv (v := .bool false) rfl rfl ?_)
         refine XO.off (wantG0 (j := 30) (b := true) rfl (rfl) rfl) rfl rfl ?_
         refine XO.off (wantG0 (j := 30) (b := true) rfl (rfl) rfl) rfl rfl ?_
         refine XO.off (wantG0 (j := 30) (b := true) rfl (rfl) rfl) rfl rfl ?_
         refine XO.do rfl (D.pick false (v := .bool false) (congrArg Value.bool (rfl)) rfl rfl ?_)
         refine XO.do rfl (D.mv (v := .bool false) rfl rfl ?_)
         refine XO.off (wantG0 (j := 35) (b := true) rfl (rfl) rfl) rfl rfl ?_
         refine XO.off (wantG0 (j := 35) (b := true) rfl (rfl) rfl) rfl rfl ?_
         refine XO.off (wantG0 (j := 35) (b := true) rfl (rfl) rfl) rfl rfl ?_
         refine XO.do rfl (D.pick false (v := .bool false) (congrArg Value.bool (rfl)) rfl rfl ?_)
         refine XO.do rfl (D.mv (v := .bool false) rfl rfl ?_)
         refine XO.off (wantG0 (j := 40) (b := true) rfl (rfl) rfl) rfl rfl ?_
         refine XO.off (wantG0 (j := 40) (b := true) rfl (rfl) rfl) rfl rfl ?_
         refine XO.off (wantG0 (j := 40) (b := true) rfl (rfl) rfl) rfl rfl ?_
         refine XO.do rfl (D.pick false (v := .bool false) (congrArg Value.bool (rfl)) rfl rfl ?_)
         refine XO.do rfl (D.mv (v := .bool false) rfl rfl ?_)
         refine XO.off (wantG0 (j := 45) (b := true) rfl (rfl) rfl) rfl rfl ?_
         refine XO.off (wantG0 (j := 45) (b := true) rfl (rfl) rfl) rfl rfl ?_
         refine XO.off (wantG0 (j := 45) (b := true) rfl (rfl) rfl) rfl rfl ?_
         refine XO.do rfl (D.pick false (v := .bool false) (congrArg Value.bool (rfl)) rfl rfl ?_)
         refine XO.do rfl (D.mv (v := .bool false) rfl rfl ?_)
         refine XO.off (wantG0 (j := 50) (b := true) rfl (rfl) rfl) rfl rfl ?_
         refine XO.off (wantG0 (j := 50) (b := true) rfl (rfl) rfl) rfl rfl ?_
         refine XO.off (wantG0 (j := 50) (b := true) rfl (rfl) rfl) rfl rfl ?_
         refine XO.do rfl (D.pick false (v := .bool false) (congrArg Value.bool (rfl)) rfl rfl ?_)
         refine XO.do rfl (D.asn (v := .bool false) rfl rfl ?_)
         refine XO.nil ?_
         refine hM243 _ _ ?_
         refine X.ret ?_
         injection h with h
         subst h
         exact hR _ _ _ (ret1 (v := .bool false) rfl rfl) ⟨rfl, ext_of_below hB⟩
       ·rw [if_neg c247] at h
        refine XO.off (wantG0 (j := 18) (b := true) rfl (beq_eq_false_iff_ne.2 c247) rfl) rfl rfl ?_
        refine XO.off (wantG0 (j := 18) (b := true) rfl (beq_eq_false_iff_ne.2 c247) rfl) rfl rfl ?_
        refine XO.off (wantG0 (j := 18) (b := true) rfl (beq_eq_false_iff_ne.2 c247) rfl) rfl rfl ?_
        refine XO.off (wantG0 (j := 18) (b := true) rfl (beq_eq_false_iff_ne.2 c247) rfl) rfl rfl ?_
        refine XO.off (wantG0 (j := 18) (b := true) rfl (beq_eq_false_iff_ne.2 c247) rfl) rfl rfl ?_
        refine XO.do rfl (D.pick false (v := .bool false) (congrArg Value.bool (beq_eq_false_iff_ne.2 c247)) rfl rfl ?_)
        refine XO.do rfl (D.mv (v := .bool false) rfl rfl ?_)
        refine XO.off (wantG0 (j := 25) (b := true) rfl (rfl) rfl) rfl rfl ?_
        refine XO.off (wantG0 (j := 25) (b := true) rfl (rfl) rfl) rfl rfl ?_
        refine XO.off (wantG0 (j := 25) (b := true) rfl (rfl) rfl) rfl rfl ?_
        refine XO.do rfl (D.pick false (v := .bool false) (congrArg Value.bool (rfl)) rfl rfl ?_)
        refine XO.do rfl (D.mv (v := .bool false) rfl rfl ?_)
        refine XO.off (wantG0 (j := 30) (b := true) rfl (rfl) rfl) rfl rfl ?_
        refine XO.off (wantG0 (j := 30) (b := true) rfl (rfl) rfl) rfl rfl ?_
        refine XO.off (wantG0 (j := 30) (b := true) rfl (rfl) rfl) rfl rfl ?_
        refine XO.do rfl (D.pick false (v := .bool false) (congrArg Value.bool (rfl)) rfl rfl ?_)
        refine XO.do rfl (D.mv (v := .bool false) rfl rfl ?_)
        refine XO.off (wantG0 (j := 35) (b := true) rfl (rfl) rfl) rfl rfl ?_
        refine XO.off (wantG0 (j := 35) (b := true) rfl (rfl) rfl) rfl rfl ?_
        refine XO.off (wantG0 (j := 35) (b := true) rfl (rfl) rfl) rfl rfl ?_
        refine XO.do rfl (D.pick false (v := .bool false) (congrArg Value.bool (rfl)) rfl rfl ?_)
        refine XO.do rfl (D.mv (v := .bool false) rfl rfl ?_)
        refine XO.off (wantG0 (j := 40) (b := true) rfl (rfl) rfl) rfl rfl ?_
        refine XO.off (wantG0 (j := 40) (b := true) rfl (rfl) rfl) rfl rfl ?_
        refine XO.off (wantG0 (j := 40) (b := true) rfl (rfl) rfl) rfl rfl ?_
        refine XO.do rfl (D.pick false (v := .bool false) (congrArg Value.bool (rfl)) rfl rfl ?_)
        refine XO.do rfl (D.mv (v := .bool false) rfl rfl ?_)
        refine XO.off (wantG0 (j := 45) (b := true) rfl (rfl) rfl) rfl rfl ?_
        refine XO.off (wantG0 (j := 45) (b := true) rfl (rfl) rfl) rfl rfl ?_
        refine XO.off (wantG0 (j := 45) (b := true) rfl (rfl) rfl) rfl rfl ?_
        refine XO.do rfl (D.pick false (v := .bool false) (congrArg Value.bool (rfl)) rfl rfl ?_)
        refine XO.do rfl (D.mv (v := .bool false) rfl rfl ?_)
        refine XO.off (wantG0 (j := 50) (b := true) rfl (rfl) rfl) rfl rfl ?_
        refine XO.off (wantG0 (j := 50) (b := true) rfl (rfl) rfl) rfl rfl ?_
        refine XO.off (wantG0 (j := 50) (b := true) rfl (rfl) rfl) rfl rfl ?_
        refine XO.do rfl (D.pick false (v := .bool false) (congrArg Value.bool (rfl)) rfl rfl ?_)
        refine XO.do rfl (D.asn (v := .bool false) rfl rfl ?_)
        refine XO.nil ?_
        refine hM243 _ _ ?_
        refine X.ret ?_
        injection h with h
        subst h
        exact hR _ _ _ (ret1 (v := .bool false) rfl rfl) ⟨rfl, ext_of_below hB⟩
      ·rw [if_neg c246] at h
       refine XO.off (wantG0 (j := 11) (b := true) rfl (beq_eq_false_iff_ne.2 c246) rfl) rfl rfl ?_
       refine XO.off (wantG0 (j := 11) (b := true) rfl (beq_eq_false_iff_ne.2 c246) rfl) rfl rfl ?_
       refine XO.off (wantG0 (j := 11) (b := true) rfl (beq_eq_false_iff_ne.2 c246) rfl) rfl rfl ?_
       refine XO.off (wantG0 (j := 11) (b := true) rfl (beq_eq_false_iff_ne.2 c246) rfl) rfl rfl ?_
       refine XO.off (wantG0 (j := 11) (b := true) rfl (beq_eq_false_iff_ne.2 c246) rfl) rfl rfl ?_
       refine XO.do rfl (D.pick false (v := .bool false) (congrArg Value.bool (beq_eq_false_iff_ne.2 c246)) rfl rfl ?_)
       refine XO.do rfl (D.mv (v := .bool false) rfl rfl ?_)
       refine XO.off (wantG0 (j := 18) (b := true) rfl (rfl) rfl) rfl rfl ?_
       refine XO.off (wantG0 (j := 18) (b := true) rfl (rfl) rfl) rfl rfl ?_
       refine XO.off (wantG0 (j := 18) (b := true) rfl (rfl) rfl) rfl rfl ?_
       refine XO.off (wantG0 (j := 18) (b := true) rfl (rfl) rfl) rfl rfl ?_
       refine XO.off (wantG0 (j := 18) (b := true) rfl (rfl) rfl) rfl rfl ?_
       refine XO.do rfl (D.pick false (v := .bool false) (congrArg Value.bool (rfl)) rfl rfl ?_)
       refine XO.do rfl (D.mv (v := .bool false) rfl rfl ?_)
       refine XO.off (wantG0 (j := 25) (b := true) rfl (rfl) rfl) rfl rfl ?_
       refine XO.off (wantG0 (j := 25) (b := true) rfl (rfl) rfl) rfl rfl ?_
       refine XO.off (wantG0 (j := 25) (b := true) rfl (rfl) rfl) rfl rfl ?_
       refine XO.do rfl (D.pick false (v := .bool false) (congrArg Value.bool (rfl)) rfl rfl ?_)
       refine XO.do rfl (D.mv (v := .bool false) rfl rfl ?_)
       refine XO.off (wantG0 (j := 30) (b := true) rfl (rfl) rfl) rfl rfl ?_
       refine XO.off (wantG0 (j := 30) (b := true) rfl (rfl) rfl) rfl rfl ?_
       refine XO.off (wantG0 (j := 30) (b := true) rfl (rfl) rfl) rfl rfl ?_
       refine XO.do rfl (D.pick false (v := .bool false) (congrArg Value.bool (rfl)) rfl rfl ?_)
       refine XO.do rfl (D.mv (v := .bool false) rfl rfl ?_)
       refine XO.off (wantG0 (j := 35) (b := true) rfl (rfl) rfl) rfl rfl ?_
       refine XO.off (wantG0 (j := 35) (b := true) rfl (rfl) rfl) rfl rfl ?_
       refine XO.off (wantG0 (j := 35) (b := true) rfl (rfl) rfl) rfl rfl ?_
       refine XO.do rfl (D.pick false (v := .bool false) (congrArg Value.bool (rfl)) rfl rfl ?_)
       refine XO.do rfl (D.mv (v := .bool false) rfl rfl ?_)
       refine XO.off (wantG0 (j := 40) (b := true) rfl (rfl) rfl) rfl rfl ?_
       refine XO.off (wantG0 (j := 40) (b := true) rfl (rfl) rfl) rfl rfl ?_
       refine XO.off (wantG0 (j := 40) (b := true) rfl (rfl) rfl) rfl rfl ?_
       refine XO.do rfl (D.pick false (v := .bool false) (congrArg Value.bool (rfl)) rfl rfl ?_)
       refine XO.do rfl (D.mv (v := .bool false) rfl rfl ?_)
       refine XO.off (wantG0 (j := 45) (b := true) rfl (rfl) rfl) rfl rfl ?_
       refine XO.off (wantG0 (j := 45) (b := true) rfl (rfl) rfl) rfl rfl ?_
       refine XO.off (wantG0 (j := 45) (b := true) rfl (rfl) rfl) rfl rfl ?_
       refine XO.do rfl (D.pick false (v := .bool false) (congrArg Value.bool (rfl)) rfl rfl ?_)
       refine XO.do rfl (D.mv (v := .bool false) rfl rfl ?_)
       refine XO.off (wantG0 (j := 50) (b := true) rfl (rfl) rfl) rfl rfl ?_
       refine XO.off (wantG0 (j := 50) (b := true) rfl (rfl) rfl) rfl rfl ?_
       refine XO.off (wantG0 (j := 50) (b := true) rfl (rfl) rfl) rfl rfl ?_
       refine XO.do rfl (D.pick false (v := .bool false) (congrArg Value.bool (rfl)) rfl rfl ?_)
       refine XO.do rfl (D.asn (v := .bool false) rfl rfl ?_)
       refine XO.nil ?_
       refine hM243 _ _ ?_
       refine X.ret ?_
       injection h with h
       subst h
       exact hR _ _ _ (ret1 (v := .bool false) rfl rfl) ⟨rfl, ext_of_below hB⟩
     ·rw [if_neg c245] at h
      refine XO.off (wantG0 (j := 4) (b := true) rfl ((Bool.eq_false_iff.2 c245)) rfl) rfl rfl ?_
      refine XO.off (wantG0 (j := 4) (b := true) rfl ((Bool.eq_false_iff.2 c245)) rfl) rfl rfl ?_
      refine XO.off (wantG0 (j := 4) (b := true) rfl ((Bool.eq_false_iff.2 c245)) rfl) rfl rfl ?_
      refine XO.off (wantG0 (j := 4) (b := true) rfl ((Bool.eq_false_iff.2 c245)) rfl) rfl rfl ?_
      refine XO.off (wantG0 (j := 4) (b := true) rfl ((Bool.eq_false_iff.2 c245)) rfl) rfl rfl ?_
      refine XO.do rfl (D.pick false (v := .bool false) (congrArg Value.bool ((Bool.eq_false_iff.2 c245))) rfl rfl ?_)
      refine XO.do rfl (D.mv (v := .bool false) rfl rfl ?_)
      refine XO.off (wantG0 (j := 11) (b := true) rfl (rfl) rfl) rfl rfl ?_
      refine XO.off (wantG0 (j := 11) (b := true) rfl (rfl) rfl) rfl rfl ?_
      refine XO.off (wantG0 (j := 11) (b := true) rfl (rfl) rfl) rfl rfl ?_
      refine XO.off (wantG0 (j := 11) (b := true) rfl (rfl) rfl) rfl rfl ?_
      refine XO.off (wantG0 (j := 11) (b := true) rfl (rfl) rfl) rfl rfl ?_
      refine XO.do rfl (D.pick false (v := .bool false) (congrArg Value.bool (rfl)) rfl rfl ?_)
      refine XO.do rfl (D.mv (v := .bool false) rfl rfl ?_)
      refine XO.off (wantG0 (j := 18) (b := true) rfl (rfl) rfl) rfl rfl ?_
      refine XO.off (wantG0 (j := 18) (b := true) rfl (rfl) rfl) rfl rfl ?_
      refine XO.off (wantG0 (j := 18) (b := true) rfl (rfl) rfl) rfl rfl ?_
      refine XO.off (wantG0 (j := 18) (b := true) rfl (rfl) rfl) rfl rfl ?_
      refine XO.off (wantG0 (j := 18) (b := true) rfl (rfl) rfl) rfl rfl ?_
      refine XO.do rfl (D.pick false (v := .bool false) (congrArg Value.bool (rfl)) rfl rfl ?_)
      refine XO.do rfl (D.mv (v := .bool false) rfl rfl ?_)
      refine XO.off (wantG0 (j := 25) (b := true) rfl (rfl) rfl) rfl rfl ?_
      refine XO.off (wantG0 (j := 25) (b := true) rfl (rfl) rfl) rfl rfl ?_
      refine XO.off (wantG0 (j := 25) (b := true) rfl (rfl) rfl) rfl rfl ?_
      refine XO.do rfl (D.pick false (v := .bool false) (congrArg Value.bool (rfl)) rfl rfl ?_)
      refine XO.do rfl (D.mv (v := .bool false) rfl rfl ?_)
      refine XO.off (wantG0 (j := 30) (b := true) rfl (rfl) rfl) rfl rfl ?_
      refine XO.off (wantG0 (j := 30) (b := true) rfl (rfl) rfl) rfl rfl ?_
      refine XO.off (wantG0 (j := 30) (b := true) rfl (rfl) rfl) rfl rfl ?_
      refine XO.do rfl (D.pick false (v := .bool false) (congrArg Value.bool (rfl)) rfl rfl ?_)
      refine XO.do rfl (D.mv (v := .bool false) rfl rfl ?_)
      refine XO.off (wantG0 (j := 35) (b := true) rfl (rfl) rfl) rfl rfl ?_
      refine XO.off (wantG0 (j := 35) (b := true) rfl (rfl) rfl) rfl rfl ?_
      refine XO.off (wantG0 (j := 35) (b := true) rfl (rfl) rfl) rfl rfl ?_
      refine XO.do rfl (D.pick false (v := .bool false) (congrArg Value.bool (rfl)) rfl rfl ?_)
      refine XO.do rfl (D.mv (v := .bool false) rfl rfl ?_)
      refine XO.off (wantG0 (j := 40) (b := true) rfl (rfl) rfl) rfl rfl ?_
      refine XO.off (wantG0 (j := 40) (b := true) rfl (rfl) rfl) rfl rfl ?_
      refine XO.off (wantG0 (j := 40) (b := true) rfl (rfl) rfl) rfl rfl ?_
      refine XO.do rfl (D.pick false (v := .bool false) (congrArg Value.bool (rfl)) rfl rfl ?_)
      refine XO.do rfl (D.mv (v := .bool false) rfl rfl ?_)
      refine XO.off (wantG0 (j := 45) (b := true) rfl (rfl) rfl) rfl rfl ?_
      refine XO.off (wantG0 (j := 45) (b := true) rfl (rfl) rfl) rfl rfl ?_
      refine XO.off (wantG0 (j := 45) (b := true) rfl (rfl) rfl) rfl rfl ?_
      refine XO.do rfl (D.pick false (v := .bool false) (congrArg Value.bool (rfl)) rfl rfl ?_)
      refine XO.do rfl (D.mv (v := .bool false) rfl rfl ?_)
      refine XO.off (wantG0 (j := 50) (b := true) rfl (rfl) rfl) rfl rfl ?_
      refine XO.off (wantG0 (j := 50) (b := true) rfl (rfl) rfl) rfl rfl ?_
      refine XO.off (wantG0 (j := 50) (b := true) rfl (rfl) rfl) rfl rfl ?_
      refine XO.do rfl (D.pick false (v := .bool false) (congrArg Value.bool (rfl)) rfl rfl ?_)
      refine XO.do rfl (D.asn (v := .bool false) rfl rfl ?_)
      refine XO.nil ?_
      refine hM243 _ _ ?_
      refine X.ret ?_
      injection h with h
      subst h
      exact hR _ _ _ (ret1 (v := .bool false) rfl rfl) ⟨rfl, ext_of_below hB⟩
    ·rw [if_neg c244] at h
     refine XO.off (wantG0 (j := 1) (b := true) rfl ((Bool.eq_false_iff.2 c244)) rfl) rfl rfl ?_
     refine XO.do rfl (D.pick false (v := .bool false) (congrArg Value.bool ((Bool.eq_false_iff.2 c244))) rfl rfl ?_)
     refine XO.do rfl (D.mv (v := .bool false) rfl rfl ?_)
     refine XO.off (wantG0 (j := 4) (b := true) rfl (rfl) rfl) rfl rfl ?_
     refine XO.off (wantG0 (j := 4) (b := true) rfl (rfl) rfl) rfl rfl ?_
     refine XO.off (wantG0 (j := 4) (b := true) rfl (rfl) rfl) rfl rfl ?_
     refine XO.off (wantG0 (j := 4) (b := true) rfl (rfl) rfl) rfl rfl ?_
     refine XO.off (wantG0 (j := 4) (b := true) rfl (rfl) rfl) rfl rfl ?_
     refine XO.do rfl (D.pick false (v := .bool false) (congrArg Value.bool (rfl)) rfl rfl ?_)
     refine XO.do rfl (D.mv (v := .bool false) rfl rfl ?_)
     refine XO.off (wantG0 (j := 11) (b := true) rfl (rfl) rfl) rfl rfl ?_
     refine XO.off (wantG0 (j := 11) (b := true) rfl (rfl) rfl) rfl rfl ?_
     refine XO.off (wantG0 (j := 11) (b := true) rfl (rfl) rfl) rfl rfl ?_
     refine XO.off (wantG0 (j := 11) (b := true) rfl (rfl) rfl) rfl rfl ?_
     refine XO.off (wantG0 (j := 11) (b := true) rfl (rfl) rfl) rfl rfl ?_
     refine XO.do rfl (D.pick false (v := .bool false) (congrArg Value.bool (rfl)) rfl rfl ?_)
     refine XO.do rfl (D.mv (v := .bool false) rfl rfl ?_)
     refine XO.off (wantG0 (j := 18) (b := true) rfl (rfl) rfl) rfl rfl ?_
     refine XO.off (wantG0 (j := 18) (b := true) rfl (rfl) rfl) rfl rfl ?_
     refine XO.off (wantG0 (j := 18) (b := true) rfl (rfl) rfl) rfl rfl ?_
     refine XO.off (wantG0 (j := 18) (b := true) rfl (rfl) rfl) rfl rfl ?_
     refine XO.off (wantG0 (j := 18) (b := true) rfl (rfl) rfl) rfl rfl ?_
     refine XO.do rfl (D.pick false (v := .bool false) (congrArg Value.bool (rfl)) rfl rfl ?_)
     refine XO.do rfl (D.mv (v := .bool false) rfl rfl ?_)
     refine XO.off (wantG0 (j := 25) (b := true) rfl (rfl) rfl) rfl rfl ?_
     refine XO.off (wantG0 (j := 25) (b := true) rfl (rfl) rfl) rfl rfl ?_
     refine XO.off (wantG0 (j := 25) (b := true) rfl (rfl) rfl) rfl rfl ?_
     refine XO.do rfl (D.pick false (v := .bool false) (congrArg Value.bool (rfl)) rfl rfl ?_)
     refine XO.do rfl (D.mv (v := .bool false) rfl rfl ?_)
     refine XO.off (wantG0 (j := 30) (b := true) rfl (rfl) rfl) rfl rfl ?_
     refine XO.off (wantG0 (j := 30) (b := true) rfl (rfl) rfl) rfl rfl ?_
     refine XO.off (wantG0 (j := 30) (b := true) rfl (rfl) rfl) rfl rfl ?_
     refine XO.do rfl (D.pick false (v := .bool false) (congrArg Value.bool (rfl)) rfl rfl ?_)
     refine XO.do rfl (D.mv (v := .bool false) rfl rfl ?_)
     refine XO.off (wantG0 (j := 35) (b := true) rfl (rfl) rfl) rfl rfl ?_
     refine XO.off (wantG0 (j := 35) (b := true) rfl (rfl) rfl) rfl rfl ?_
     refine XO.off (wantG0 (j := 35) (b := true) rfl (rfl) rfl) rfl rfl ?_
     refine XO.do rfl (D.pick false (v := .bool false) (congrArg Value.bool (rfl)) rfl rfl ?_)
     refine XO.do rfl (D.mv (v := .bool false) rfl rfl ?_)
     refine XO.off (wantG0 (j := 40) (b := true) rfl (rfl) rfl) rfl rfl ?_
     refine XO.off (wantG0 (j := 40) (b := true) rfl (rfl) rfl) rfl rfl ?_
     refine XO.off (wantG0 (j := 40) (b := true) rfl (rfl) rfl) rfl rfl ?_
     refine XO.do rfl (D.pick false (v := .bool false) (congrArg Value.bool (rfl)) rfl rfl ?_)
     refine XO.do rfl (D.mv (v := .bool false) rfl rfl ?_)
     refine XO.off (wantG0 (j := 45) (b := true) rfl (rfl) rfl) rfl rfl ?_
     refine XO.off (wantG0 (j := 45) (b := true) rfl (rfl) rfl) rfl rfl ?_
     refine XO.off (wantG0 (j := 45) (b := true) rfl (rfl) rfl) rfl rfl ?_
     refine XO.do rfl (D.pick false (v := .bool false) (congrArg Value.bool (rfl)) rfl rfl ?_)
     refine XO.do rfl (D.mv (v := .bool false) rfl rfl ?_)
     refine XO.off (wantG0 (j := 50) (b := true) rfl (rfl) rfl) rfl rfl ?_
     refine XO.off (wantG0 (j := 50) (b := true) rfl (rfl) rfl) rfl rfl ?_
     refine XO.off (wantG0 (j := 50) (b := true) rfl (rfl) rfl) rfl rfl ?_
     refine XO.do rfl (D.pick false (v := .bool false) (congrArg Value.bool (rfl)) rfl rfl ?_)
     refine XO.do rfl (D.asn (v := .bool false) rfl rfl ?_)
     refine XO.nil ?_
     refine hM243 _ _ ?_
     refine X.ret ?_
     injection h with h
     subst h
     exact hR _ _ _ (ret1 (v := .bool false) rfl rfl) ⟨rfl, ext_of_below hB⟩
theorem derricklaw05_RecordTells.ok (a1 : RR) (a2 : RR) (a3 : Str) (a4 : Int)  (w : World)  (hp : derricklaw05_RecordTells.pre a1 a2 a3 a4) :
  Ret Try.prog 5 ([.agg #[S a1.name, .int .u16 a1.ty, .int .u16 a1.cls, .int .u32 a1.ttl, S a1.data], .agg #[S a2.name, .int .u16 a2.ty, .int .u16 a2.cls, .int .u32 a2.ttl, S a2.data], S a3, .int .i64 a4] : List Value).toArray w fun v w' => v = .bool (derricklaw05_RecordTells a1 a2 a3 a4) ∧ Ext w w' := by
 have h := derricklaw05_RecordTells.eq a1 a2 a3 a4 hp
 exact derricklaw05_RecordTells.walk  a1 a2 a3 a4  w  _ h
end Go.Proofs.Ytfcaekghpkpjdaa.K

namespace Go.Proofs.Ytfcaekghpkpjdaa.recordTells
open Go Go.ChangeShapes Go.WideShapes Go.ChangeAt Go.RowKit Go.Proofs.Ytfcaekghpkpjdaa.K
open Go.ChangeMaps (open_string shut_string)
set_option linter.unusedVariables false
set_option maxHeartbeats 4000000
theorem own : ownKnob Try.prog.godebug = none := by kernel_rfl
theorem laidOut : laidOutB Try.prog = true := by kernel_rfl
set_option maxRecDepth 100000 in
theorem contract (H : Type) (enc : TypeId × Value → H) (W : World) (base : Nat) (args : Array Value) (ds gs : List (DataW H)) (before : List MemPlace)
  (hval : ∀ (j : Nat) t v, Try.f5.params[j]? = some t → args[j]? = some v → Value.okWide Try.prog W .any base t v)
  (hW : DataW.Whole enc Try.prog Try.f5.params.toList Rows.recordTellsSpec.vars false W args.toList ds gs before) :
  Calls Try.prog 5 args W fun e W' => ∃ v, e = .returned v ∧ Rows.recordTellsSpec.post enc Try.prog Try.f5 false true false false W args v W' := by
 have hW' := hW
 obtain ⟨p, q, hA0, hV, rfl, hfz, hnd⟩ := hW
 have hA : DataW.TrodAll enc Try.prog W 0 (fun _ => true) true Try.f5.params.toList args.toList ds p := hA0
 rw [Try.params5] at hA hval
 obtain ⟨v0, vs0, d0, ds0, p0, q0, hargs, rfl, rfl, h0, r0⟩ := trodAll_cons hA
 obtain ⟨v1, vs1, d1, ds1, p1, q1, rfl, rfl, rfl, h1, r1⟩ := trodAll_cons r0
 obtain ⟨v2, vs2, d2, ds2, p2, q2, rfl, rfl, rfl, h2, r2⟩ := trodAll_cons r1
 obtain ⟨v3, vs3, d3, ds3, p3, q3, rfl, rfl, rfl, h3, r3⟩ := trodAll_cons r2
 obtain ⟨rfl, rfl, rfl⟩ := trodAll_nil r3
 obtain rfl : args = #[v0, v1, v2, v3] := by cases args; simp_all
 obtain ⟨rfl, rfl⟩ := trodVars_none hV
 have k0 := h0
 have lt0 : ∀ x ∈ p0, x.block < W.heap.size := by obtain ⟨m, hm⟩ := k0; exact DataW.trod_lt m _ _ _ hm
 obtain ⟨u0, hu0⟩ := h0
 obtain ⟨cs0, rfl, _⟩ := okWide_struct Try.underlying25 (hval 0 25 v0 rfl rfl)
 obtain ⟨a0, ha0, w0⟩ := dec_RR _ _ _ _ _ _ _ _ _ hu0
 obtain rfl : cs0 = (eRR.enc a0).toArray := Array.ext' ha0
 have k1 := h1
 have lt1 : ∀ x ∈ p1, x.block < W.heap.size := by obtain ⟨m, hm⟩ := k1; exact DataW.trod_lt m _ _ _ hm
 obtain ⟨u1, hu1⟩ := h1
 obtain ⟨cs1, rfl, _⟩ := okWide_struct Try.underlying25 (hval 1 25 v1 rfl rfl)
 obtain ⟨a1, ha1, w1⟩ := dec_RR _ _ _ _ _ _ _ _ _ hu1
 obtain rfl : cs1 = (eRR.enc a1).toArray := Array.ext' ha1
 have k2 := h2
 have lt2 : ∀ x ∈ p2, x.block < W.heap.size := by obtain ⟨m, hm⟩ := k2; exact DataW.trod_lt m _ _ _ hm
 obtain ⟨u2, hu2⟩ := h2
 obtain ⟨x2, hq2⟩ := okWide_string Try.underlying9 (hval 2 9 v2 rfl rfl)
 have hs2 : v2.cells.toList = [v2] := by rw [hq2]; rfl
 rw [hs2] at hu2
 clear hs2 hq2
 obtain ⟨a2, ha2, w2⟩ := (dec_str Try.underlying9) _ _ _ _ _ _ _ _ _ hu2
 obtain rfl := list1 ha2
 have k3 := h3
 have lt3 : ∀ x ∈ p3, x.block < W.heap.size := by obtain ⟨m, hm⟩ := k3; exact DataW.trod_lt m _ _ _ hm
 obtain ⟨u3, hu3⟩ := h3
 obtain ⟨x3, hq3⟩ := okWide_int Try.underlying3 (hval 3 3 v3 rfl rfl)
 have hs3 : v3.cells.toList = [v3] := by rw [hq3]; rfl
 rw [hs3] at hu3
 clear hs3 hq3
 obtain ⟨a3, ha3, w3⟩ := (dec_int Try.underlying3) _ _ _ _ _ _ _ _ _ hu3
 obtain rfl := list1 ha3
 have hok := derricklaw05_RecordTells.ok a0 a1 a2 a3  W  trivial
 clear hA0
 refine Calls.mono hok fun e W' ⟨v, he, hv, hx⟩ => ?_
 have bel := below_of_ext hx
 subst he hv
 exact ⟨_, rfl, _, _, _, [], _, [], hW', trodAll_mk1 (shut_bool Try.underlying4 _), (trodAll_cons_mk (Below.trod laidOut (by kernel_rfl) (of_decide_eq_true (by kernel_rfl)) k0 bel lt0) (trodAll_cons_mk (Below.trod laidOut (by kernel_rfl) (of_decide_eq_true (by kernel_rfl)) k1 bel lt1) (trodAll_cons_mk (Below.trod laidOut (by kernel_rfl) (of_decide_eq_true (by kernel_rfl)) k2 bel lt2) (trodAll_cons_mk (Below.trod laidOut (by kernel_rfl) (of_decide_eq_true (by kernel_rfl)) k3 bel lt3) trodAll_mk0)))), rfl, bel.frame _, fun h => by cases h⟩
set_option maxRecDepth 100000 in
theorem lifted (os : Os) (started : os.Started) (H : Type) (enc : TypeId × Value → H) :
  ReturnsInHanded {} Try.checked os 5 .any (Rows.recordTellsSpec.pre6 enc Try.prog Try.f5 Rows.recordTellsRow.domain false) (Rows.recordTellsSpec.post enc Try.prog Try.f5 false true false false) := by
 refine returnsInHanded_of_change (C := Try.checked) own started (by kernel_rfl) Try.func5
  (ChangeSpec.witness6 (enc := enc) (C := Try.checked) false ⟨#[], #[.agg #[.string ByteArray.empty, .int .u16 0, .int .u16 0, .int .u32 0, .string ByteArray.empty], .agg #[.string ByteArray.empty, .int .u16 0, .int .u16 0, .int .u32 0, .string ByteArray.empty], .string ByteArray.empty, .int .i64 0], []⟩ 8 (by kernel_rfl) (by kernel_rfl) (by kernel_rfl) (by kernel_rfl)) ?_
 intro W base args ds gs before hval hW _ _
 exact contract H enc W base args ds gs before hval hW
theorem over : Rows.recordTellsRow.holds Try.pinned (OpenSpec.ofChange Rows.recordTellsSpec) :=
 OpenClaim.holds_of_wide 5 Try.f5 rfl rfl rfl rfl rfl rfl rfl ⟨rfl, rfl, rfl, rfl, rfl⟩ rfl rfl rfl rfl rfl (by kernel_rfl) Try.func5 (by kernel_rfl)
  (of_decide_eq_true (by kernel_rfl)) (by unfold Func.isWrapper; first | (rw [if_pos (by decide +kernel)]; kernel_rfl) | (rw [if_neg (by decide +kernel)]; exact ⟨rfl, rfl⟩))
  (fun os started H enc _ => lifted os started H enc)
theorem proved : Rows.RecordTellsSaid := over
#print axioms proved
end Go.Proofs.Ytfcaekghpkpjdaa.recordTells
namespace Go.Proofs.Ytfcaekghpkpjdaa
/-- The row, under a short name. -/
theorem recordTells_holds : Rows.RecordTellsSaid := recordTells.proved
end Go.Proofs.Ytfcaekghpkpjdaa
