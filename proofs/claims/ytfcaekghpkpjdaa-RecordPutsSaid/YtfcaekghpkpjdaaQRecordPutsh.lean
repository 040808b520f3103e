/- The row of RecordPuts: whatever its arguments are, it returns true, and they read as they did. -/
import Derived.Test.YtfcaekghpkpjdaaProg
import Derived.Test.YtfcaekghpkpjdaaQRecordPutsg
/- Walks, printed by a program of this session. -/
namespace Go.Proofs.Ytfcaekghpkpjdaa.K
open Go Go.RowKit Go.Proofs
set_option linter.unusedVariables false
set_option maxRecDepth 100000
set_option maxHeartbeats 4000000
namespace FRg
theorem ti25 : TI Try.prog 25 (.agg #[S [], .int .u16 0, .int .u16 0, .int .u32 0, S []]) 5 40 := by unfold TI; kernel_rfl
theorem ag25 : Agg Try.prog 25 5 := agg Try.underlying25 rfl ti25
theorem ti39 : TI Try.prog 39 (.agg #[S [], .slice none 0 0]) 2 40 := by unfold TI; kernel_rfl
theorem ag39 : Agg Try.prog 39 2 := agg Try.underlying39 rfl ti39
theorem ti9 : TI Try.prog 9 (S []) 1 16 := by unfold TI; kernel_rfl
theorem ti22 : TI Try.prog 22 (.int .u16 0) 1 2 := by unfold TI; kernel_rfl
theorem ti23 : TI Try.prog 23 (.int .u32 0) 1 4 := by unfold TI; kernel_rfl
theorem bld25 : BuildIs Try.prog 25 #[(0, 1), (1, 1), (2, 1), (3, 1), (4, 1)] (Value.cells (.agg #[S [], .int .u16 0, .int .u16 0, .int .u32 0, S []])) := buildIs Try.underlying25 ti25 (fun w => by simp [ti22.size, ti23.size, ti9.size])
theorem ti30 : TI Try.prog 30 (.agg #[S [], .int .u16 0, .int .u16 0]) 3 24 := by unfold TI; kernel_rfl
theorem bld30 : BuildIs Try.prog 30 #[(0, 1), (1, 1), (2, 1)] (Value.cells (.agg #[S [], .int .u16 0, .int .u16 0])) := buildIs Try.underlying30 ti30 (fun w => by simp [ti22.size, ti9.size])
theorem cf14 : Callable Try.prog 14 := callable Try.func14 (by kernel_rfl) rfl
theorem cf21 : Callable Try.prog 21 := callable Try.func21 (by kernel_rfl) rfl
theorem cf22 : Callable Try.prog 22 := callable Try.func22 (by kernel_rfl) rfl
theorem cf33 : Callable Try.prog 33 := callable Try.func33 (by kernel_rfl) rfl
theorem cf34 : Callable Try.prog 34 := callable Try.func34 (by kernel_rfl) rfl
theorem cf39 : Callable Try.prog 39 := callable Try.func39 (by kernel_rfl) rfl
theorem cf40 : Callable Try.prog 40 := callable Try.func40 (by kernel_rfl) rfl
theorem cf47 : Callable Try.prog 47 := callable Try.func47 (by kernel_rfl) rfl
theorem cf48 : Callable Try.prog 48 := callable Try.func48 (by kernel_rfl) rfl
theorem cf49 : Callable Try.prog 49 := callable Try.func49 (by kernel_rfl) rfl
theorem fa25_0 : FA Try.prog 25 0 0 := fa Try.underlying25 rfl ti9 rfl rfl
theorem fa25_1 : FA Try.prog 25 1 1 := fa Try.underlying25 rfl ti22 rfl rfl
theorem fa25_2 : FA Try.prog 25 2 2 := fa Try.underlying25 rfl ti22 rfl rfl
theorem fa25_3 : FA Try.prog 25 3 3 := fa Try.underlying25 rfl ti23 rfl rfl
theorem fa25_4 : FA Try.prog 25 4 4 := fa Try.underlying25 rfl ti9 rfl rfl
theorem fa30_0 : FA Try.prog 30 0 0 := fa Try.underlying30 rfl ti9 rfl rfl
theorem fa30_1 : FA Try.prog 30 1 1 := fa Try.underlying30 rfl ti22 rfl rfl
theorem fa30_2 : FA Try.prog 30 2 2 := fa Try.underlying30 rfl ti22 rfl rfl
theorem fa39_0 : FA Try.prog 39 0 0 := fa Try.underlying39 rfl ti9 rfl rfl
theorem mixed0 : Try.prog.follows .mixedOrders = true := by kernel_rfl
theorem sc22 : Sca Try.prog 22 := sca Try.underlying22 rfl
theorem sc23 : Sca Try.prog 23 := sca Try.underlying23 rfl
theorem sc9 : Sca Try.prog 9 := sca Try.underlying9 rfl
theorem sz25 : ∀ w, (sizeOf 25).run Try.prog w = .ok 5 w := fun w => ti25.size w
theorem sz30 : ∀ w, (sizeOf 30).run Try.prog w = .ok 3 w := fun w => ti30.size w
theorem sz39 : ∀ w, (sizeOf 39).run Try.prog w = .ok 2 w := fun w => ti39.size w
theorem sz9 : ∀ w, (sizeOf 9).run Try.prog w = .ok 1 w := fun w => ti9.size w
end FRg
open FRg
theorem derrickref05_Put.walk (a1 : RPack) (a6 : RR) (A2 : Option Addr) (k3 : Nat) (w : World) (H4 : Row ePlace w A2 k3 a1.l) (res : RPack × Int) (h : derrickref05_Put.f a1 a6 = some res) :
  Ret Try.prog 16 ([.agg #[S a1.s, .slice A2 a1.l.length k3], .agg #[S a6.name, .int .u16 a6.ty, .int .u16 a6.cls, .int .u32 a6.ttl, S a6.data]] : List Value).toArray w fun v w' => ∃ (A1 : Option Addr) (k1 : Nat), v = .tuple #[.agg #[S res.1.s, .slice A1 res.1.l.length k1], .int .i64 res.2] ∧ Row ePlace w' A1 k1 res.1.l ∧ (∀ y, MR A1 res.1.l y → w.heap.size ≤ y ∨ MR A2 a1.l y) ∧ Ext w w' := by
 unfold derrickref05_Put.f at h
 refine enterX Try.func16 rfl Try.ntmps16 rfl (fun R hR => ?_)
 have hB := Below.refl w.heap.size w
 refine X.seq fun M7 hM8 => ?_
 refine X.region ?_
 refine XO.do rfl (D.box (v := .agg #[S a1.s, .slice A2 a1.l.length k3]) (cs := [S a1.s, .slice A2 a1.l.length k3]) rfl rfl rfl ?_)
 intro b9 w10 hb11 H12 e13 _
 have g14 : w.heap.size ≤ b9 := Nat.le_trans hB.size (Nat.le_of_eq hb11.symm)
 clear hb11
 replace hB := below_ext hB e13
 clear e13
 refine XO.do rfl (D.box (v := .agg #[S a6.name, .int .u16 a6.ty, .int .u16 a6.cls, .int .u32 a6.ttl, S a6.data]) (cs := [S a6.name, .int .u16 a6.ty, .int .u16 a6.cls, .int .u32 a6.ttl, S a6.data]) rfl rfl rfl ?_)
 intro b15 w17 hb18 H19 e20 _
 have g21 : w.heap.size ≤ b15 := Nat.le_trans hB.size (Nat.le_of_eq hb18.symm)
 clear hb18
 replace hB := below_ext hB e20
 replace H12 := H12.ext e20
 clear e20
 refine XO.do rfl (D.alloc ti39 (cs := [S [], .slice none 0 0]) rfl rfl ?_)
 intro b22 w23 hb24 H25 e26 _
 have lt_14_27 : ∀ x, MB b9 x → x < b22 := (MB.lt H12 (Nat.le_of_eq hb24.symm))
 have lt_21_27 : ∀ x, MB b15 x → x < b22 := (MB.lt H19 (Nat.le_of_eq hb24.symm))
 have g27 : w.heap.size ≤ b22 := Nat.le_trans hB.size (Nat.le_of_eq hb24.symm)
 clear hb24
 replace hB := below_ext hB e26
 replace H12 := H12.ext e26
 replace H19 := H19.ext e26
 clear e26
 refine XO.do rfl (D.asn (v := .int .i64 0) rfl rfl ?_)
 refine XO.nil ?_
 refine hM8 _ _ ?_
 refine X.seq fun M42 hM43 => ?_
 refine X.seq fun M44 hM45 => ?_
 refine X.region ?_
 refine XO.do rfl (D.loadA (j := 0) (us := [S a6.name, .int .u16 a6.ty, .int .u16 a6.cls, .int .u32 a6.ttl, S a6.data]) ag25 H19.cs rfl rfl rfl rfl rfl ?_)
 rcases (Classical.em (derrickref05_May.pre a6)).symm with c46 | c46
 ·rw [if_neg c46] at h; cases h
 rw [if_pos c46] at h
 obtain ⟨r50, q51, h⟩ := lt_elim h
 have hc49 := derrickref05_May.ok a6 w23 c46 
 rw [q51] at hc49
 clear q51
 refine XO.do rfl (D.call (vs := [.agg #[S a6.name, .int .u16 a6.ty, .int .u16 a6.cls, .int .u32 a6.ttl, S a6.data]]) cf22 hc49 rfl rfl ?_)
 rintro _ w47 ⟨rfl, e48⟩
 clear hc49
 replace hB := below_ext hB e48
 replace H12 := H12.ext e48
 replace H19 := H19.ext e48
 replace H25 := H25.ext e48
 clear e48
 refine XO.do rfl (D.not r50 rfl rfl ?_)
 refine XO.nil ?_
 refine hM45 _ _ ?_
 by_cases c52 : r50 = true
 ·rw [if_pos c52] at h
  refine X.condF (congrArg Value.bool ((congrArg (!·) (c52)))) ?_
  refine X.skip ?_
  refine hM43 _ _ ?_
  refine X.seq fun M53 hM54 => ?_
  refine X.region ?_
  refine XO.do rfl (D.loadA (j := 0) (us := [S a1.s, .slice A2 a1.l.length k3]) ag39 H12.cs rfl rfl rfl rfl rfl ?_)
  refine XO.do rfl (D.fieldAddr (o' := 0) fa25_0 rfl rfl rfl ?_)
  refine XO.do rfl (D.load (j := 0) (v := S a6.name) sc9 H19.cs rfl rfl rfl rfl ?_)
  refine XO.do rfl (D.fieldAddr (o' := 1) fa25_1 rfl rfl rfl ?_)
  refine XO.do rfl (D.load (j := 1) (v := .int .u16 a6.ty) sc22 H19.cs rfl rfl rfl rfl ?_)
  refine XO.do rfl (D.fieldAddr (o' := 2) fa25_2 rfl rfl rfl ?_)
  refine XO.do rfl (D.load (j := 2) (v := .int .u16 a6.cls) sc22 H19.cs rfl rfl rfl rfl ?_)
  refine XO.do rfl (D.build (vs := [(0, S a6.name), (1, .int .u16 a6.ty), (2, .int .u16 a6.cls)]) (cs := [S a6.name, .int .u16 a6.ty, .int .u16 a6.cls]) bld30 rfl rfl rfl ?_)
  rcases (Classical.em (derrickref05_PutQ.pre a1 (⟨a6.name, a6.ty, a6.cls⟩ : Question))).symm with c55 | c55
  ·rw [if_neg c55] at h; cases h
  rw [if_pos c55] at h
  obtain ⟨r59, q60, h⟩ := lt_elim h
  have hc58 := derrickref05_PutQ.ok a1 (⟨a6.name, a6.ty, a6.cls⟩ : Question) A2 k3 w47 (H4.below hB) c55 
  rw [q60] at hc58
  clear q60
  refine XO.do rfl (D.call (vs := [.agg #[S a1.s, .slice A2 a1.l.length k3], .agg #[S a6.name, .int .u16 a6.ty, .int .u16 a6.cls]]) cf14 hc58 rfl rfl ?_)
  rintro _ w56 ⟨A61, k62, rfl, H63, g64, e57⟩
  clear hc58
  have og65 : (∀ y, MR A61 r59.1.l y → w.heap.size ≤ y ∨ MR A2 a1.l y) := fun y hy => (g64 y hy).elim (fun h => .inl (Nat.le_trans hB.size h)) (fun h => (.inr h))
  have nf65_14 : ∀ x y, MR A61 r59.1.l x → MB b9 y → x ≠ y := fun x y hx hy => (g64 x hx).elim (fun h e => Nat.lt_irrefl _ (Nat.lt_of_lt_of_le ((MB.lt H12 (Nat.le_refl _)) y hy) (e ▸ h))) (fun h => (ne_of (MR.lt H4 (Nat.le_refl _)) (ge_blk g14)) x y h hy)
  have nf65_21 : ∀ x y, MR A61 r59.1.l x → MB b15 y → x ≠ y := fun x y hx hy => (g64 x hx).elim (fun h e => Nat.lt_irrefl _ (Nat.lt_of_lt_of_le ((MB.lt H19 (Nat.le_refl _)) y hy) (e ▸ h))) (fun h => (ne_of (MR.lt H4 (Nat.le_refl _)) (ge_blk g21)) x y h hy)
  have nf65_27 : ∀ x y, MR A61 r59.1.l x → MB b22 y → x ≠ y := fun x y hx hy => (g64 x hx).elim (fun h e => Nat.lt_irrefl _ (Nat.lt_of_lt_of_le ((MB.lt H25 (Nat.le_refl _)) y hy) (e ▸ h))) (fun h => (ne_of (MR.lt H4 (Nat.le_refl _)) (ge_blk g27)) x y h hy)
  replace hB := below_ext hB e57
  replace H12 := H12.ext e57
  replace H19 := H19.ext e57
  replace H25 := H25.ext e57
  clear e57
  refine XO.do rfl (D.mv (v := .tuple #[.agg #[S r59.1.s, .slice A61 r59.1.l.length k62], .int .i64 r59.2]) rfl rfl ?_)
  refine XO.do rfl (D.extract (v := .agg #[S r59.1.s, .slice A61 r59.1.l.length k62]) rfl rfl rfl ?_)
  refine XO.do rfl (D.extract (v := .int .i64 r59.2) rfl rfl rfl ?_)
  refine XO.do rfl (D.alloc ti39 (cs := [S [], .slice none 0 0]) rfl rfl ?_)
  intro b66 w67 hb68 H69 e70 _
  have lt_14_71 : ∀ x, MB b9 x → x < b66 := (MB.lt H12 (Nat.le_of_eq hb68.symm))
  have lt_21_71 : ∀ x, MB b15 x → x < b66 := (MB.lt H19 (Nat.le_of_eq hb68.symm))
  have lt_27_71 : ∀ x, MB b22 x → x < b66 := (MB.lt H25 (Nat.le_of_eq hb68.symm))
  have lt_65_71 : ∀ x, MR A61 r59.1.l x → x < b66 := (MR.lt H63 (Nat.le_of_eq hb68.symm))
  have g71 : w.heap.size ≤ b66 := Nat.le_trans hB.size (Nat.le_of_eq hb68.symm)
  clear hb68
  replace hB := below_ext hB e70
  replace H12 := H12.ext e70
  replace H19 := H19.ext e70
  replace H25 := H25.ext e70
  replace H63 := H63.ext e70
  clear e70
  refine XO.do rfl (D.store (v := .agg #[S r59.1.s, .slice A61 r59.1.l.length k62]) (us := [S r59.1.s, .slice A61 r59.1.l.length k62]) sz39 H69 rfl rfl rfl rfl rfl rfl ?_)
  intro w72 H73 e74
  replace hB := below_blk hB e74 g71
  replace H12 := H12.gr e74 (sepB (ne_of lt_14_71 (MB.ge b66)))
  replace H19 := H19.gr e74 (sepB (ne_of lt_21_71 (MB.ge b66)))
  replace H25 := H25.gr e74 (sepB (ne_of lt_27_71 (MB.ge b66)))
  replace H63 := H63.gr e74 (sepB (ne_of lt_65_71 (MB.ge b66)))
  clear e74
  refine XO.do rfl (D.asn (v := .int .i64 r59.2) rfl rfl ?_)
  refine XO.nil ?_
  refine hM54 _ _ ?_
  refine X.seq fun M75 hM76 => ?_
  refine X.tree mixed0 [0, 0, 2, 6, 14, 31, 63] (.q 0 (.q 1 (.q 2 (.q 3 (.q 4 (.alt 5 (.alt 6 .nil .nil) .nil)))))) (fun w' => Below w.heap.size w w' ∧ Blk w' b9 [S a1.s, .slice A2 a1.l.length k3] 39 ∧ Blk w' b15 [S a6.name, .int .u16 a6.ty, .int .u16 a6.cls, .int .u32 a6.ttl, S a6.data] 25 ∧ Blk w' b22 [S [], .slice none 0 0] 39 ∧ Row ePlace w' A61 k62 r59.1.l) (fun w' => Below w.heap.size w w' ∧ Blk w' b9 [S a1.s, .slice A2 a1.l.length k3] 39 ∧ Blk w' b15 [S a6.name, .int .u16 a6.ty, .int .u16 a6.cls, .int .u32 a6.ttl, S a6.data] 25 ∧ Blk w' b22 [S [], .slice none 0 0] 39 ∧ Row ePlace w' A61 k62 r59.1.l ∧ Blk w' b66 [S r59.1.s, .slice A61 r59.1.l.length k62] 39) (by decide +kernel) (fun w' hx _ => ⟨below_ext hB hx, H12.ext hx, H19.ext hx, H25.ext hx, H63.ext hx, H73.ext hx⟩) (fun a b hC hx => by obtain ⟨hB, H12, H19, H25, H63, H73⟩ := hC; exact ⟨below_ext hB hx, H12.ext hx, H19.ext hx, H25.ext hx, H63.ext hx, H73.ext hx⟩) (fun a hC => by obtain ⟨hB, H12, H19, H25, H63, H73⟩ := hC; exact ⟨hB, H12, H19, H25, H63⟩) ?_
  refine QT.do (v := .agg #[S r59.1.s, .slice A61 r59.1.l.length k62]) rfl (by decide +kernel) rfl rfl rfl (fun w' hJ => by obtain ⟨hB, H12, H19, H25, H63, H73⟩ := hJ; exact D.loadA (j := 0) (us := [S r59.1.s, .slice A61 r59.1.l.length k62]) ag39 H73.cs rfl rfl rfl rfl rfl ⟨rfl, Ext.refl _⟩) ?_
  refine QT.do (v := pt b15 3) rfl (by decide +kernel) rfl rfl rfl (fun w' hJ => by obtain ⟨hB, H12, H19, H25, H63, H73⟩ := hJ; exact D.fieldAddr (o' := 3) fa25_3 rfl rfl rfl ⟨rfl, Ext.refl _⟩) ?_
  refine QT.do (v := .int .u32 a6.ttl) rfl (by decide +kernel) rfl rfl rfl (fun w' hJ => by obtain ⟨hB, H12, H19, H25, H63, H73⟩ := hJ; exact D.load (j := 3) (v := .int .u32 a6.ttl) sc23 H19.cs rfl rfl rfl rfl ⟨rfl, Ext.refl _⟩) ?_
  rcases (Classical.em (derrickref01_Put32.pre a6.ttl)).symm with c100 | c100
  ·rw [if_neg c100] at h; cases h
  rw [if_pos c100] at h
  obtain ⟨r104, q105, h⟩ := lt_elim h
  refine QT.do (v := S r104) rfl (by decide +kernel) rfl rfl rfl (fun w' hJ => by obtain ⟨hB, H12, H19, H25, H63, H73⟩ := hJ; have hc := derrickref01_Put32.ok a6.ttl w' c100; rw [q105] at hc; refine D.call (vs := [.int .u32 a6.ttl]) cf39 hc rfl rfl ?_; rintro _ w2 ⟨rfl, e2⟩; exact ⟨rfl, e2⟩) ?_
  rcases (Classical.em (r104.length + ([0, 0] : Str).length ≤ 9223372036854775807)).symm with c106 | c106
  ·rw [if_neg c106] at h; cases h
  rw [if_pos c106] at h
  refine QT.do (v := S (r104 ++ [0, 0])) rfl (by decide +kernel) rfl rfl rfl (fun w' hJ => by obtain ⟨hB, H12, H19, H25, H63, H73⟩ := hJ; exact D.addS rfl rfl c106 rfl ⟨rfl, Ext.refl _⟩) ?_
  refine QT.eff rfl rfl (fun w107 hC => ?_) QT.nomore
  obtain ⟨hB, H12, H19, H25, H63, H73⟩ := hC
  rcases (Classical.em (derrickref03_Add.pre r59.1 (r104 ++ [0, 0]))).symm with c108 | c108
  ·rw [if_neg c108] at h; cases h
  rw [if_pos c108] at h
  obtain ⟨r112, q113, h⟩ := lt_elim h
  have hc111 := derrickref03_Add.ok r59.1 (r104 ++ [0, 0]) A61 k62 w107 H63 c108 
  rw [q113] at hc111
  clear q113
  refine D.call (vs := [.agg #[S r59.1.s, .slice A61 r59.1.l.length k62], S (r104 ++ [0, 0])]) cf33 hc111 rfl rfl ?_
  rintro _ w109 ⟨A114, k115, rfl, H116, g117, e110⟩
  clear hc111
  have og118 : (∀ y, MR A114 r112.l y → w.heap.size ≤ y ∨ MR A2 a1.l y) := fun y hy => (g117 y hy).elim (fun h => .inl (Nat.le_trans hB.size h)) (fun h => og65 y h)
  have nf118_14 : ∀ x y, MR A114 r112.l x → MB b9 y → x ≠ y := fun x y hx hy => (g117 x hx).elim (fun h e => Nat.lt_irrefl _ (Nat.lt_of_lt_of_le ((MB.lt H12 (Nat.le_refl _)) y hy) (e ▸ h))) (fun h => nf65_14 x y h hy)
  have nf118_21 : ∀ x y, MR A114 r112.l x → MB b15 y → x ≠ y := fun x y hx hy => (g117 x hx).elim (fun h e => Nat.lt_irrefl _ (Nat.lt_of_lt_of_le ((MB.lt H19 (Nat.le_refl _)) y hy) (e ▸ h))) (fun h => nf65_21 x y h hy)
  have nf118_27 : ∀ x y, MR A114 r112.l x → MB b22 y → x ≠ y := fun x y hx hy => (g117 x hx).elim (fun h e => Nat.lt_irrefl _ (Nat.lt_of_lt_of_le ((MB.lt H25 (Nat.le_refl _)) y hy) (e ▸ h))) (fun h => nf65_27 x y h hy)
  have nf118_71 : ∀ x y, MR A114 r112.l x → MB b66 y → x ≠ y := fun x y hx hy => (g117 x hx).elim (fun h e => Nat.lt_irrefl _ (Nat.lt_of_lt_of_le ((MB.lt H73 (Nat.le_refl _)) y hy) (e ▸ h))) (fun h => (ne_of lt_65_71 (MB.ge b66)) x y h hy)
  replace hB := below_ext hB e110
  replace H12 := H12.ext e110
  replace H19 := H19.ext e110
  replace H25 := H25.ext e110
  replace H63 := H63.ext e110
  replace H73 := H73.ext e110
  clear e110
  refine ⟨_, rfl, (fun w' => Below w.heap.size w w' ∧ Blk w' b9 [S a1.s, .slice A2 a1.l.length k3] 39 ∧ Blk w' b15 [S a6.name, .int .u16 a6.ty, .int .u16 a6.cls, .int .u32 a6.ttl, S a6.data] 25 ∧ Blk w' b22 [S [], .slice none 0 0] 39 ∧ Row ePlace w' A61 k62 r59.1.l ∧ Blk w' b66 [S r59.1.s, .slice A61 r59.1.l.length k62] 39 ∧ Row ePlace w' A114 k115 r112.l), ⟨hB, H12, H19, H25, H63, H73, H116⟩, (fun a b hC hx => by obtain ⟨hB, H12, H19, H25, H63, H73, H116⟩ := hC; exact ⟨below_ext hB hx, H12.ext hx, H19.ext hx, H25.ext hx, H63.ext hx, H73.ext hx, H116.ext hx⟩), (fun a hC => by obtain ⟨hB, H12, H19, H25, H63, H73, H116⟩ := hC; exact ⟨hB, H12, H19, H25, H63⟩), ?_⟩
  refine QT.eff rfl rfl (fun w119 hC => ?_) QT.nomore
  obtain ⟨hB, H12, H19, H25, H63, H73, H116⟩ := hC
  refine D.store (v := .agg #[S r112.s, .slice A114 r112.l.length k115]) (us := [S r112.s, .slice A114 r112.l.length k115]) sz39 H73 rfl rfl rfl rfl rfl rfl ?_
  intro w120 H121 e122
  replace hB := below_blk hB e122 g71
  replace H12 := H12.gr e122 (sepB (ne_of lt_14_71 (MB.ge b66)))
  replace H19 := H19.gr e122 (sepB (ne_of lt_21_71 (MB.ge b66)))
  replace H25 := H25.gr e122 (sepB (ne_of lt_27_71 (MB.ge b66)))
  replace H63 := H63.gr e122 (sepB (ne_of lt_65_71 (MB.ge b66)))
  replace H116 := H116.gr e122 (sepB nf118_71)
  clear e122
  refine ⟨undef, rfl, (fun w' => Below w.heap.size w w' ∧ Blk w' b9 [S a1.s, .slice A2 a1.l.length k3] 39 ∧ Blk w' b15 [S a6.name, .int .u16 a6.ty, .int .u16 a6.cls, .int .u32 a6.ttl, S a6.data] 25 ∧ Blk w' b22 [S [], .slice none 0 0] 39 ∧ Row ePlace w' A61 k62 r59.1.l ∧ Blk w' b66 [S r112.s, .slice A114 r112.l.length k115] 39 ∧ Row ePlace w' A114 k115 r112.l), ⟨hB, H12, H19, H25, H63, H121, H116⟩, (fun a b hC hx => by obtain ⟨hB, H12, H19, H25, H63, H121, H116⟩ := hC; exact ⟨below_ext hB hx, H12.ext hx, H19.ext hx, H25.ext hx, H63.ext hx, H121.ext hx, H116.ext hx⟩), (fun a hC => by obtain ⟨hB, H12, H19, H25, H63, H121, H116⟩ := hC; exact ⟨hB, H12, H19, H25, H63⟩), ?_⟩
  refine QT.nil fun w123 hC => ?_
  obtain ⟨hB, H12, H19, H25, H63, H121, H116⟩ := hC
  refine hM76 _ _ ?_
  refine X.seq fun M124 hM125 => ?_
  refine X.region ?_
  refine XO.do rfl (D.fieldAddr (o' := 0) fa39_0 rfl rfl rfl ?_)
  refine XO.do rfl (D.load (j := 0) (v := S r112.s) sc9 H121.cs rfl rfl rfl rfl ?_)
  refine XO.do rfl (D.lenS Try.underlying9 rfl rfl ?_)
  refine XO.do rfl (D.asn (v := .int .i64 (r112.s.length : Int)) rfl rfl ?_)
  refine XO.nil ?_
  refine hM125 _ _ ?_
  refine X.seq fun M126 hM127 => ?_
  refine X.region ?_
  refine XO.do rfl (D.loadA (j := 0) (us := [S r112.s, .slice A114 r112.l.length k115]) ag39 H121.cs rfl rfl rfl rfl rfl ?_)
  refine XO.do rfl (D.fieldAddr (o' := 1) fa25_1 rfl rfl rfl ?_)
  refine XO.do rfl (D.load (j := 1) (v := .int .u16 a6.ty) sc22 H19.cs rfl rfl rfl rfl ?_)
  refine XO.do rfl (D.fieldAddr (o' := 4) fa25_4 rfl rfl rfl ?_)
  refine XO.do rfl (D.load (j := 4) (v := S a6.data) sc9 H19.cs rfl rfl rfl rfl ?_)
  rcases (Classical.em (derrickref04_Put.pre r112 a6.ty a6.data)).symm with c128 | c128
  ·rw [if_neg c128] at h; cases h
  rw [if_pos c128] at h
  obtain ⟨r132, q133, h⟩ := lt_elim h
  have hc131 := derrickref04_Put.ok r112 a6.ty a6.data A114 k115 w123 H116 c128 
  rw [q133] at hc131
  clear q133
  refine XO.do rfl (D.call (vs := [.agg #[S r112.s, .slice A114 r112.l.length k115], .int .u16 a6.ty, S a6.data]) cf40 hc131 rfl rfl ?_)
  rintro _ w129 ⟨A134, k135, rfl, H136, g137, e130⟩
  clear hc131
  have og138 : (∀ y, MR A134 r132.1.l y → w.heap.size ≤ y ∨ MR A2 a1.l y) := fun y hy => (g137 y hy).elim (fun h => .inl (Nat.le_trans hB.size h)) (fun h => og118 y h)
  have nf138_14 : ∀ x y, MR A134 r132.1.l x → MB b9 y → x ≠ y := fun x y hx hy => (g137 x hx).elim (fun h e => Nat.lt_irrefl _ (Nat.lt_of_lt_of_le ((MB.lt H12 (Nat.le_refl _)) y hy) (e ▸ h))) (fun h => nf118_14 x y h hy)
  have nf138_21 : ∀ x y, MR A134 r132.1.l x → MB b15 y → x ≠ y := fun x y hx hy => (g137 x hx).elim (fun h e => Nat.lt_irrefl _ (Nat.lt_of_lt_of_le ((MB.lt H19 (Nat.le_refl _)) y hy) (e ▸ h))) (fun h => nf118_21 x y h hy)
  have nf138_27 : ∀ x y, MR A134 r132.1.l x → MB b22 y → x ≠ y := fun x y hx hy => (g137 x hx).elim (fun h e => Nat.lt_irrefl _ (Nat.lt_of_lt_of_le ((MB.lt H25 (Nat.le_refl _)) y hy) (e ▸ h))) (fun h => nf118_27 x y h hy)
  have nf138_71 : ∀ x y, MR A134 r132.1.l x → MB b66 y → x ≠ y := fun x y hx hy => (g137 x hx).elim (fun h e => Nat.lt_irrefl _ (Nat.lt_of_lt_of_le ((MB.lt H121 (Nat.le_refl _)) y hy) (e ▸ h))) (fun h => nf118_71 x y h hy)
  replace hB := below_ext hB e130
  replace H12 := H12.ext e130
  replace H19 := H19.ext e130
  replace H25 := H25.ext e130
  replace H63 := H63.ext e130
  replace H121 := H121.ext e130
  replace H116 := H116.ext e130
  clear e130
  refine XO.do rfl (D.mv (v := .tuple #[.agg #[S r132.1.s, .slice A134 r132.1.l.length k135], .int .i64 r132.2]) rfl rfl ?_)
  refine XO.do rfl (D.extract (v := .agg #[S r132.1.s, .slice A134 r132.1.l.length k135]) rfl rfl rfl ?_)
  refine XO.do rfl (D.extract (v := .int .i64 r132.2) rfl rfl rfl ?_)
  refine XO.do rfl (D.store (v := .agg #[S r132.1.s, .slice A134 r132.1.l.length k135]) (us := [S r132.1.s, .slice A134 r132.1.l.length k135]) sz39 H121 rfl rfl rfl rfl rfl rfl ?_)
  intro w139 H140 e141
  replace hB := below_blk hB e141 g71
  replace H12 := H12.gr e141 (sepB (ne_of lt_14_71 (MB.ge b66)))
  replace H19 := H19.gr e141 (sepB (ne_of lt_21_71 (MB.ge b66)))
  replace H25 := H25.gr e141 (sepB (ne_of lt_27_71 (MB.ge b66)))
  replace H63 := H63.gr e141 (sepB (ne_of lt_65_71 (MB.ge b66)))
  replace H116 := H116.gr e141 (sepB nf118_71)
  replace H136 := H136.gr e141 (sepB nf138_71)
  clear e141
  refine XO.nil ?_
  refine hM127 _ _ ?_
  refine X.seq fun M142 hM143 => ?_
  refine X.region ?_
  refine XO.do rfl (D.fieldAddr (o' := 0) fa39_0 rfl rfl rfl ?_)
  refine XO.do rfl (D.load (j := 0) (v := S r132.1.s) sc9 H140.cs rfl rfl rfl rfl ?_)
  refine XO.do rfl (D.lenS Try.underlying9 rfl rfl ?_)
  refine XO.do rfl (D.mv (v := .int .i64 (r112.s.length : Int)) rfl rfl ?_)
  refine XO.do rfl (D.sub rfl rfl rfl ?_)
  refine XO.do rfl (D.asn (v := .int .i64 (w64 ((r132.1.s.length : Int) - (r112.s.length : Int)))) rfl rfl ?_)
  refine XO.nil ?_
  refine hM143 _ _ ?_
  refine X.seq fun M144 hM145 => ?_
  refine X.tree mixed0 [0, 1, 0, 4, 15, 0, 32, 96, 255, 0, 512, 0, 3584, 8191, 16383, 32767] (.q 0 (.q 1 (.q 2 (.q 3 (.q 4 (.q 5 (.q 6 (.q 7 (.q 8 (.q 9 (.q 10 (.q 11 (.q 12 (.q 13 (.q 14 (.alt 15 .nil .nil)))))))))))))))) (fun w' => Below w.heap.size w w' ∧ Blk w' b9 [S a1.s, .slice A2 a1.l.length k3] 39 ∧ Blk w' b15 [S a6.name, .int .u16 a6.ty, .int .u16 a6.cls, .int .u32 a6.ttl, S a6.data] 25 ∧ Blk w' b22 [S [], .slice none 0 0] 39 ∧ Row ePlace w' A61 k62 r59.1.l ∧ Row ePlace w' A114 k115 r112.l ∧ Row ePlace w' A134 k135 r132.1.l) (fun w' => Below w.heap.size w w' ∧ Blk w' b9 [S a1.s, .slice A2 a1.l.length k3] 39 ∧ Blk w' b15 [S a6.name, .int .u16 a6.ty, .int .u16 a6.cls, .int .u32 a6.ttl, S a6.data] 25 ∧ Blk w' b22 [S [], .slice none 0 0] 39 ∧ Row ePlace w' A61 k62 r59.1.l ∧ Blk w' b66 [S r132.1.s, .slice A134 r132.1.l.length k135] 39 ∧ Row ePlace w' A114 k115 r112.l ∧ Row ePlace w' A134 k135 r132.1.l) (by decide +kernel) (fun w' hx _ => ⟨below_ext hB hx, H12.ext hx, H19.ext hx, H25.ext hx, H63.ext hx, H140.ext hx, H116.ext hx, H136.ext hx⟩) (fun a b hC hx => by obtain ⟨hB, H12, H19, H25, H63, H140, H116, H136⟩ := hC; exact ⟨below_ext hB hx, H12.ext hx, H19.ext hx, H25.ext hx, H63.ext hx, H140.ext hx, H116.ext hx, H136.ext hx⟩) (fun a hC => by obtain ⟨hB, H12, H19, H25, H63, H140, H116, H136⟩ := hC; exact ⟨hB, H12, H19, H25, H63, H116, H136⟩) ?_
  refine QT.do (v := pt b66 0) rfl (by decide +kernel) rfl rfl rfl (fun w' hJ => by obtain ⟨hB, H12, H19, H25, H63, H140, H116, H136⟩ := hJ; exact D.fieldAddr (o' := 0) fa39_0 rfl rfl rfl ⟨rfl, Ext.refl _⟩) ?_
  refine QT.do (v := S r132.1.s) rfl (by decide +kernel) rfl rfl rfl (fun w' hJ => by obtain ⟨hB, H12, H19, H25, H63, H140, H116, H136⟩ := hJ; exact D.load (j := 0) (v := S r132.1.s) sc9 H140.cs rfl rfl rfl rfl ⟨rfl, Ext.refl _⟩) ?_
  refine QT.do (v := .int .i64 (r112.s.length : Int)) rfl (by decide +kernel) rfl rfl rfl (fun w' hJ => by obtain ⟨hB, H12, H19, H25, H63, H140, H116, H136⟩ := hJ; exact D.mv (v := .int .i64 (r112.s.length : Int)) rfl rfl ⟨rfl, Ext.refl _⟩) ?_
  refine QT.do (v := .int .i64 (w64 ((r112.s.length : Int) - 2))) rfl (by decide +kernel) rfl rfl rfl (fun w' hJ => by obtain ⟨hB, H12, H19, H25, H63, H140, H116, H136⟩ := hJ; exact D.sub rfl rfl rfl ⟨rfl, Ext.refl _⟩) ?_
  rcases (Classical.em (0 ≤ w64 ((r112.s.length : Int) - 2))).symm with c160 | c160
  ·rw [if_neg c160] at h; cases h
  rw [if_pos c160] at h
  rcases (Classical.em (w64 ((r112.s.length : Int) - 2) ≤ (r132.1.s.length : Int))).symm with c161 | c161
  ·rw [if_neg c161] at h; cases h
  rw [if_pos c161] at h
  refine QT.do (v := S (r132.1.s.take (w64 ((r112.s.length : Int) - 2)).toNat)) rfl (by decide +kernel) rfl rfl rfl (fun w' hJ => by obtain ⟨hB, H12, H19, H25, H63, H140, H116, H136⟩ := hJ; exact D.sliceShi (j := w64 ((r112.s.length : Int) - 2)) Try.underlying9 rfl rfl c160 c161 rfl ⟨rfl, Ext.refl _⟩) ?_
  refine QT.do (v := .int .i64 (w64 ((r132.1.s.length : Int) - (r112.s.length : Int)))) rfl (by decide +kernel) rfl rfl rfl (fun w' hJ => by obtain ⟨hB, H12, H19, H25, H63, H140, H116, H136⟩ := hJ; exact D.mv (v := .int .i64 (w64 ((r132.1.s.length : Int) - (r112.s.length : Int)))) rfl rfl ⟨rfl, Ext.refl _⟩) ?_
  refine QT.do (v := .int .u16 (w16 (w64 ((r132.1.s.length : Int) - (r112.s.length : Int))))) rfl (by decide +kernel) rfl rfl rfl (fun w' hJ => by obtain ⟨hB, H12, H19, H25, H63, H140, H116, H136⟩ := hJ; exact D.conv Try.underlying3 Try.underlying22 rfl rfl ⟨rfl, Ext.refl _⟩) ?_
  obtain ⟨r165, q166, h⟩ := lt_elim h
  refine QT.do (v := S r165) rfl (by decide +kernel) rfl rfl rfl (fun w' hJ => by obtain ⟨hB, H12, H19, H25, H63, H140, H116, H136⟩ := hJ; have hc := derrickref01_Put16.ok (w16 (w64 ((r132.1.s.length : Int) - (r112.s.length : Int)))) w'; rw [q166] at hc; refine D.call (vs := [.int .u16 (w16 (w64 ((r132.1.s.length : Int) - (r112.s.length : Int))))]) cf34 hc rfl rfl ?_; rintro _ w2 ⟨rfl, e2⟩; exact ⟨rfl, e2⟩) ?_
  rcases (Classical.em ((r132.1.s.take (w64 ((r112.s.length : Int) - 2)).toNat).length + r165.length ≤ 9223372036854775807)).symm with c167 | c167
  ·rw [if_neg c167] at h; cases h
  rw [if_pos c167] at h
  refine QT.do (v := S ((r132.1.s.take (w64 ((r112.s.length : Int) - 2)).toNat) ++ r165)) rfl (by decide +kernel) rfl rfl rfl (fun w' hJ => by obtain ⟨hB, H12, H19, H25, H63, H140, H116, H136⟩ := hJ; exact D.addS rfl rfl c167 rfl ⟨rfl, Ext.refl _⟩) ?_
  refine QT.do (v := pt b66 0) rfl (by decide +kernel) rfl rfl rfl (fun w' hJ => by obtain ⟨hB, H12, H19, H25, H63, H140, H116, H136⟩ := hJ; exact D.fieldAddr (o' := 0) fa39_0 rfl rfl rfl ⟨rfl, Ext.refl _⟩) ?_
  refine QT.do (v := S r132.1.s) rfl (by decide +kernel) rfl rfl rfl (fun w' hJ => by obtain ⟨hB, H12, H19, H25, H63, H140, H116, H136⟩ := hJ; exact D.load (j := 0) (v := S r132.1.s) sc9 H140.cs rfl rfl rfl rfl ⟨rfl, Ext.refl _⟩) ?_
  refine QT.do (v := .int .i64 (r112.s.length : Int)) rfl (by decide +kernel) rfl rfl rfl (fun w' hJ => by obtain ⟨hB, H12, H19, H25, H63, H140, H116, H136⟩ := hJ; exact D.mv (v := .int .i64 (r112.s.length : Int)) rfl rfl ⟨rfl, Ext.refl _⟩) ?_
  rcases (Classical.em ((r112.s.length : Int) ≤ (r132.1.s.length : Int))).symm with c168 | c168
  ·rw [if_neg c168] at h; cases h
  rw [if_pos c168] at h
  refine QT.do (v := S (r132.1.s.drop (r112.s.length : Int).toNat)) rfl (by decide +kernel) rfl rfl rfl (fun w' hJ => by obtain ⟨hB, H12, H19, H25, H63, H140, H116, H136⟩ := hJ; exact D.sliceSlo (i := (r112.s.length : Int)) Try.underlying9 rfl rfl (by first | decide | simp | omega) c168 rfl ⟨rfl, Ext.refl _⟩) ?_
  rcases (Classical.em (((r132.1.s.take (w64 ((r112.s.length : Int) - 2)).toNat) ++ r165).length + (r132.1.s.drop (r112.s.length : Int).toNat).length ≤ 9223372036854775807)).symm with c169 | c169
  ·rw [if_neg c169] at h; cases h
  rw [if_pos c169] at h
  refine QT.do (v := S (((r132.1.s.take (w64 ((r112.s.length : Int) - 2)).toNat) ++ r165) ++ (r132.1.s.drop (r112.s.length : Int).toNat))) rfl (by decide +kernel) rfl rfl rfl (fun w' hJ => by obtain ⟨hB, H12, H19, H25, H63, H140, H116, H136⟩ := hJ; exact D.addS rfl rfl c169 rfl ⟨rfl, Ext.refl _⟩) ?_
  refine QT.do (v := pt b66 0) rfl (by decide +kernel) rfl rfl rfl (fun w' hJ => by obtain ⟨hB, H12, H19, H25, H63, H140, H116, H136⟩ := hJ; exact D.fieldAddr (o' := 0) fa39_0 rfl rfl rfl ⟨rfl, Ext.refl _⟩) ?_
  refine QT.eff rfl rfl (fun w170 hC => ?_) QT.nomore
  obtain ⟨hB, H12, H19, H25, H63, H140, H116, H136⟩ := hC
  refine D.store (v := S (((r132.1.s.take (w64 ((r112.s.length : Int) - 2)).toNat) ++ r165) ++ (r132.1.s.drop (r112.s.length : Int).toNat))) (us := [S (((r132.1.s.take (w64 ((r112.s.length : Int) - 2)).toNat) ++ r165) ++ (r132.1.s.drop (r112.s.length : Int).toNat)), .slice A134 r132.1.l.length k135]) sz9 H140 rfl rfl rfl rfl rfl rfl ?_
  intro w171 H172 e173
  replace hB := below_blk hB e173 g71
  replace H12 := H12.gr e173 (sepB (ne_of lt_14_71 (MB.ge b66)))
  replace H19 := H19.gr e173 (sepB (ne_of lt_21_71 (MB.ge b66)))
  replace H25 := H25.gr e173 (sepB (ne_of lt_27_71 (MB.ge b66)))
  replace H63 := H63.gr e173 (sepB (ne_of lt_65_71 (MB.ge b66)))
  replace H116 := H116.gr e173 (sepB nf118_71)
  replace H136 := H136.gr e173 (sepB nf138_71)
  clear e173
  refine ⟨undef, rfl, (fun w' => Below w.heap.size w w' ∧ Blk w' b9 [S a1.s, .slice A2 a1.l.length k3] 39 ∧ Blk w' b15 [S a6.name, .int .u16 a6.ty, .int .u16 a6.cls, .int .u32 a6.ttl, S a6.data] 25 ∧ Blk w' b22 [S [], .slice none 0 0] 39 ∧ Row ePlace w' A61 k62 r59.1.l ∧ Blk w' b66 [S (((r132.1.s.take (w64 ((r112.s.length : Int) - 2)).toNat) ++ r165) ++ (r132.1.s.drop (r112.s.length : Int).toNat)), .slice A134 r132.1.l.length k135] 39 ∧ Row ePlace w' A114 k115 r112.l ∧ Row ePlace w' A134 k135 r132.1.l), ⟨hB, H12, H19, H25, H63, H172, H116, H136⟩, (fun a b hC hx => by obtain ⟨hB, H12, H19, H25, H63, H172, H116, H136⟩ := hC; exact ⟨below_ext hB hx, H12.ext hx, H19.ext hx, H25.ext hx, H63.ext hx, H172.ext hx, H116.ext hx, H136.ext hx⟩), (fun a hC => by obtain ⟨hB, H12, H19, H25, H63, H172, H116, H136⟩ := hC; exact ⟨hB, H12, H19, H25, H63, H116, H136⟩), ?_⟩
  refine QT.nil fun w174 hC => ?_
  obtain ⟨hB, H12, H19, H25, H63, H172, H116, H136⟩ := hC
  refine hM145 _ _ ?_
  refine X.seq fun M175 hM176 => ?_
  refine X.region ?_
  refine XO.do rfl (D.loadA (j := 0) (us := [S (((r132.1.s.take (w64 ((r112.s.length : Int) - 2)).toNat) ++ r165) ++ (r132.1.s.drop (r112.s.length : Int).toNat)), .slice A134 r132.1.l.length k135]) ag39 H172.cs rfl rfl rfl rfl rfl ?_)
  refine XO.do rfl (D.store (v := .agg #[S (((r132.1.s.take (w64 ((r112.s.length : Int) - 2)).toNat) ++ r165) ++ (r132.1.s.drop (r112.s.length : Int).toNat)), .slice A134 r132.1.l.length k135]) (us := [S (((r132.1.s.take (w64 ((r112.s.length : Int) - 2)).toNat) ++ r165) ++ (r132.1.s.drop (r112.s.length : Int).toNat)), .slice A134 r132.1.l.length k135]) sz39 H25 rfl rfl rfl rfl rfl rfl ?_)
  intro w177 H178 e179
  replace hB := below_blk hB e179 g27
  replace H12 := H12.gr e179 (sepB (ne_of lt_14_27 (MB.ge b22)))
  replace H19 := H19.gr e179 (sepB (ne_of lt_21_27 (MB.ge b22)))
  replace H63 := H63.gr e179 (sepB nf65_27)
  replace H172 := H172.gr e179 (sepB (ne_flip (ne_of lt_27_71 (MB.ge b66))))
  replace H116 := H116.gr e179 (sepB nf118_27)
  replace H136 := H136.gr e179 (sepB nf138_27)
  clear e179
  refine XO.do rfl (D.asn (v := .int .i64 0) rfl rfl ?_)
  refine XO.nil ?_
  refine hM176 _ _ ?_
  refine X.ret ?_
  injection h with h
  subst h
  exact hR _ _ _ (retCT ag39 H178 rfl rfl rfl rfl) ⟨A134, k135, rfl, H136, (fun y hy => og138 y hy), ext_of_below hB⟩
 ·rw [if_neg c52] at h
  refine X.condT (congrArg Value.bool ((congrArg (!·) ((Bool.eq_false_iff.2 c52))))) ?_
  refine X.seq fun M180 hM181 => ?_
  refine X.region ?_
  refine XO.do rfl (D.loadA (j := 0) (us := [S a1.s, .slice A2 a1.l.length k3]) ag39 H12.cs rfl rfl rfl rfl rfl ?_)
  refine XO.do rfl (D.store (v := .agg #[S a1.s, .slice A2 a1.l.length k3]) (us := [S a1.s, .slice A2 a1.l.length k3]) sz39 H25 rfl rfl rfl rfl rfl rfl ?_)
  intro w182 H183 e184
  replace hB := below_blk hB e184 g27
  replace H12 := H12.gr e184 (sepB (ne_of lt_14_27 (MB.ge b22)))
  replace H19 := H19.gr e184 (sepB (ne_of lt_21_27 (MB.ge b22)))
  clear e184
  refine XO.do rfl (D.asn (v := .int .i64 1) rfl rfl ?_)
  refine XO.nil ?_
  refine hM181 _ _ ?_
  refine X.ret ?_
  injection h with h
  subst h
  exact hR _ _ _ (retCT ag39 H183 rfl rfl rfl rfl) ⟨A2, k3, rfl, (H4.below hB), (fun y hy => (.inr hy)), ext_of_below hB⟩
theorem derrickref05_Put.ok (a1 : RPack) (a6 : RR) (A2 : Option Addr) (k3 : Nat) (w : World) (H4 : Row ePlace w A2 k3 a1.l) (hp : derrickref05_Put.pre a1 a6) :
  Ret Try.prog 16 ([.agg #[S a1.s, .slice A2 a1.l.length k3], .agg #[S a6.name, .int .u16 a6.ty, .int .u16 a6.cls, .int .u32 a6.ttl, S a6.data]] : List Value).toArray w fun v w' => ∃ (A1 : Option Addr) (k1 : Nat), v = .tuple #[.agg #[S ((derrickref05_Put a1 a6).1.s), .slice A1 ((derrickref05_Put a1 a6).1.l).length k1], .int .i64 ((derrickref05_Put a1 a6).2)] ∧ Row ePlace w' A1 k1 ((derrickref05_Put a1 a6).1.l) ∧ (∀ y, MR A1 ((derrickref05_Put a1 a6).1.l) y → w.heap.size ≤ y ∨ MR A2 a1.l y) ∧ Ext w w' := by
 have h := derrickref05_Put.eq a1 a6 hp
 exact derrickref05_Put.walk  a1 a6 A2 k3 w H4 _ h
theorem derrickref05_Take.walk (a1 : Str) (a2 : Int)  (w : World)  (res : RR × Int × Int) (h : derrickref05_Take.f a1 a2 = some res) :
  Ret Try.prog 19 ([S a1, .int .i64 a2] : List Value).toArray w fun v w' => v = .tuple #[.agg #[S res.1.name, .int .u16 res.1.ty, .int .u16 res.1.cls, .int .u32 res.1.ttl, S res.1.data], .int .i64 res.2.1, .int .i64 res.2.2] ∧ Ext w w' := by
 unfold derrickref05_Take.f at h
 refine enterX Try.func19 rfl Try.ntmps19 rfl (fun R hR => ?_)
 have hB := Below.refl w.heap.size w
 refine X.seq fun M3 hM4 => ?_
 refine X.region ?_
 refine XO.do rfl (D.alloc ti25 (cs := [S [], .int .u16 0, .int .u16 0, .int .u32 0, S []]) rfl rfl ?_)
 intro b5 w6 hb7 H8 e9 _
 have g10 : w.heap.size ≤ b5 := Nat.le_trans hB.size (Nat.le_of_eq hb7.symm)
 clear hb7
 replace hB := below_ext hB e9
 clear e9
 refine XO.do rfl (D.asn (v := .int .i64 0) rfl rfl ?_)
 refine XO.do rfl (D.asn (v := .int .i64 0) rfl rfl ?_)
 refine XO.nil ?_
 refine hM4 _ _ ?_
 refine X.seq fun M11 hM12 => ?_
 refine X.region ?_
 refine XO.do rfl (D.mv (v := S a1) rfl rfl ?_)
 refine XO.do rfl (D.mv (v := .int .i64 a2) rfl rfl ?_)
 rcases (Classical.em (derrickref05_TakeQ.pre a1 a2)).symm with c13 | c13
 ·rw [if_neg c13] at h; cases h
 rw [if_pos c13] at h
 obtain ⟨r17, q18, h⟩ := lt_elim h
 have hc16 := derrickref05_TakeQ.ok a1 a2 w6 c13 
 rw [q18] at hc16
 clear q18
 refine XO.do rfl (D.call (vs := [S a1, .int .i64 a2]) cf21 hc16 rfl rfl ?_)
 rintro _ w14 ⟨rfl, e15⟩
 clear hc16
 replace hB := below_ext hB e15
 replace H8 := H8.ext e15
 clear e15
 refine XO.do rfl (D.mv (v := .tuple #[.agg #[S r17.1.name, .int .u16 r17.1.ty, .int .u16 r17.1.cls], .int .i64 r17.2.1, .int .i64 r17.2.2]) rfl rfl ?_)
 refine XO.do rfl (D.extract (v := .agg #[S r17.1.name, .int .u16 r17.1.ty, .int .u16 r17.1.cls]) rfl rfl rfl ?_)
 refine XO.do rfl (D.extract (v := .int .i64 r17.2.1) rfl rfl rfl ?_)
 refine XO.do rfl (D.extract (v := .int .i64 r17.2.2) rfl rfl rfl ?_)
 refine XO.do rfl (D.alloc ti30 (cs := [S [], .int .u16 0, .int .u16 0]) rfl rfl ?_)
 intro b19 w20 hb21 H22 e23 _
 have lt_10_24 : ∀ x, MB b5 x → x < b19 := (MB.lt H8 (Nat.le_of_eq hb21.symm))
 have g24 : w.heap.size ≤ b19 := Nat.le_trans hB.size (Nat.le_of_eq hb21.symm)
 clear hb21
 replace hB := below_ext hB e23
 replace H8 := H8.ext e23
 clear e23
 refine XO.do rfl (D.store (v := .agg #[S r17.1.name, .int .u16 r17.1.ty, .int .u16 r17.1.cls]) (us := [S r17.1.name, .int .u16 r17.1.ty, .int .u16 r17.1.cls]) sz30 H22 rfl rfl rfl rfl rfl rfl ?_)
 intro w25 H26 e27
 replace hB := below_blk hB e27 g24
 replace H8 := H8.gr e27 (sepB (ne_of lt_10_24 (MB.ge b19)))
 clear e27
 refine XO.do rfl (D.asn (v := .int .i64 r17.2.1) rfl rfl ?_)
 refine XO.do rfl (D.asn (v := .int .i64 r17.2.2) rfl rfl ?_)
 refine XO.nil ?_
 refine hM12 _ _ ?_
 refine X.seq fun M36 hM37 => ?_
 refine X.seq fun M38 hM39 => ?_
 refine X.region ?_
 refine XO.do rfl (D.mv (v := .int .i64 r17.2.2) rfl rfl ?_)
 refine XO.do rfl (D.neq rfl rfl rfl ?_)
 refine XO.nil ?_
 refine hM39 _ _ ?_
 by_cases c40 : r17.2.2 = 0
 ·rw [if_pos c40] at h
  refine X.condF (congrArg Value.bool ((congrArg (!·) (beq_iff_eq.2 c40)))) ?_
  refine X.skip ?_
  refine hM37 _ _ ?_
  refine X.seq fun M41 hM42 => ?_
  refine X.region ?_
  refine XO.do rfl (D.mv (v := S a1) rfl rfl ?_)
  refine XO.do rfl (D.mv (v := .int .i64 r17.2.1) rfl rfl ?_)
  rcases (Classical.em (derrickref01_U32.pre a1 r17.2.1)).symm with c43 | c43
  ·rw [if_neg c43] at h; cases h
  rw [if_pos c43] at h
  obtain ⟨r47, q48, h⟩ := lt_elim h
  have hc46 := derrickref01_U32.ok a1 r17.2.1 w25 c43 
  rw [q48] at hc46
  clear q48
  refine XO.do rfl (D.call (vs := [S a1, .int .i64 r17.2.1]) cf47 hc46 rfl rfl ?_)
  rintro _ w44 ⟨rfl, e45⟩
  clear hc46
  replace hB := below_ext hB e45
  replace H8 := H8.ext e45
  replace H26 := H26.ext e45
  clear e45
  refine XO.do rfl (D.mv (v := .tuple #[.int .u32 r47.1, .int .i64 r47.2.1, .int .i64 r47.2.2]) rfl rfl ?_)
  refine XO.do rfl (D.extract (v := .int .u32 r47.1) rfl rfl rfl ?_)
  refine XO.do rfl (D.extract (v := .int .i64 r47.2.1) rfl rfl rfl ?_)
  refine XO.do rfl (D.extract (v := .int .i64 r47.2.2) rfl rfl rfl ?_)
  refine XO.do rfl (D.asn (v := .int .u32 r47.1) rfl rfl ?_)
  refine XO.do rfl (D.asn (v := .int .i64 r47.2.1) rfl rfl ?_)
  refine XO.do rfl (D.asn (v := .int .i64 r47.2.2) rfl rfl ?_)
  refine XO.nil ?_
  refine hM42 _ _ ?_
  refine X.seq fun M49 hM50 => ?_
  refine X.region ?_
  refine XO.do rfl (D.mv (v := S a1) rfl rfl ?_)
  refine XO.do rfl (D.mv (v := .int .i64 r47.2.1) rfl rfl ?_)
  rcases (Classical.em (derrickref01_U16.pre a1 r47.2.1)).symm with c51 | c51
  ·rw [if_neg c51] at h; cases h
  rw [if_pos c51] at h
  obtain ⟨r55, q56, h⟩ := lt_elim h
  have hc54 := derrickref01_U16.ok a1 r47.2.1 w44 c51 
  rw [q56] at hc54
  clear q56
  refine XO.do rfl (D.call (vs := [S a1, .int .i64 r47.2.1]) cf48 hc54 rfl rfl ?_)
  rintro _ w52 ⟨rfl, e53⟩
  clear hc54
  replace hB := below_ext hB e53
  replace H8 := H8.ext e53
  replace H26 := H26.ext e53
  clear e53
  refine XO.do rfl (D.mv (v := .tuple #[.int .u16 r55.1, .int .i64 r55.2.1, .int .i64 r55.2.2]) rfl rfl ?_)
  refine XO.do rfl (D.extract (v := .int .u16 r55.1) rfl rfl rfl ?_)
  refine XO.do rfl (D.extract (v := .int .i64 r55.2.1) rfl rfl rfl ?_)
  refine XO.do rfl (D.extract (v := .int .i64 r55.2.2) rfl rfl rfl ?_)
  refine XO.do rfl (D.asn (v := .int .u16 r55.1) rfl rfl ?_)
  refine XO.do rfl (D.asn (v := .int .i64 r55.2.1) rfl rfl ?_)
  refine XO.do rfl (D.asn (v := .int .i64 r55.2.2) rfl rfl ?_)
  refine XO.nil ?_
  refine hM50 _ _ ?_
  refine X.seq fun M77 hM78 => ?_
  refine X.cut (fun f84 w83 => ∃ x82 : Bool, f84 0 = S a1 ∧ f84 4 = pt b5 0 ∧ f84 7 = pt b19 0 ∧ f84 10 = .int .u32 r47.1 ∧ f84 13 = .int .u16 r55.1 ∧ f84 14 = .int .i64 r55.2.1 ∧ f84 47 = .bool x82 ∧ Below w.heap.size w w83 ∧ Blk w83 b5 [S [], .int .u16 0, .int .u16 0, .int .u32 0, S []] 25 ∧ Blk w83 b19 [S r17.1.name, .int .u16 r17.1.ty, .int .u16 r17.1.cls] 30 ∧ (∀ x, MB b5 x → x < b19) ∧ derrickref05_Take.j1 a1 r55 r17 r47 x82 = some res) ?_ ?_
  ·refine X.region ?_
   refine XO.do rfl (D.mv (v := .int .i64 r47.2.2) rfl rfl ?_)
   refine XO.do rfl (D.neq rfl rfl rfl ?_)
   refine XO.do rfl (D.mv (v := .bool (r47.2.2 != 0)) rfl rfl ?_)
   by_cases c129 : r47.2.2 = 0
   ·rw [if_pos c129] at h
    refine XO.do (wantG (j := 2) (b := false) rfl ((congrArg (!·) (beq_iff_eq.2 c129))) rfl) (D.mv (v := .int .i64 r55.2.2) rfl rfl ?_)
    refine XO.do (wantG (j := 2) (b := false) rfl ((congrArg (!·) (beq_iff_eq.2 c129))) rfl) (D.neq rfl rfl rfl ?_)
    refine XO.do rfl (D.pick false (v := .bool (r55.2.2 != 0)) (congrArg Value.bool ((congrArg (!·) (beq_iff_eq.2 c129)))) rfl rfl ?_)
    refine XO.nil ?_
    exact ⟨(r55.2.2 != 0), rfl, rfl, rfl, rfl, rfl, rfl, rfl, hB, H8, H26, lt_10_24, h⟩
   ·rw [if_neg c129] at h
    refine XO.off (wantG0 (j := 2) (b := false) rfl ((congrArg (!·) (beq_eq_false_iff_ne.2 c129))) rfl) rfl rfl ?_
    refine XO.off (wantG0 (j := 2) (b := false) rfl ((congrArg (!·) (beq_eq_false_iff_ne.2 c129))) rfl) rfl rfl ?_
    refine XO.do rfl (D.pick true (v := .bool true) (congrArg Value.bool ((congrArg (!·) (beq_eq_false_iff_ne.2 c129)))) rfl rfl ?_)
    refine XO.nil ?_
    exact ⟨true, rfl, rfl, rfl, rfl, rfl, rfl, rfl, hB, H8, H26, lt_10_24, h⟩
  ·intro f84 w83 hI
   obtain ⟨x82, s85, s86, s87, s88, s89, s90, s91, hB, H80, H81, pr10_24, h⟩ := hI
   refine X.fr (d := 0) s85 ?_
   refine X.fr (d := 4) s86 ?_
   refine X.fr (d := 7) s87 ?_
   refine X.fr (d := 10) s88 ?_
   refine X.fr (d := 13) s89 ?_
   refine X.fr (d := 14) s90 ?_
   refine X.fr (d := 47) s91 ?_
   unfold derrickref05_Take.j1 at h
   by_cases c92 : x82 = true
   ·rw [if_pos c92] at h
    refine X.condT (congrArg Value.bool (c92)) ?_
    refine X.seq fun M93 hM94 => ?_
    refine X.region ?_
    refine XO.do rfl (D.build (vs := []) (cs := [S [], .int .u16 0, .int .u16 0, .int .u32 0, S []]) bld25 rfl rfl rfl ?_)
    refine XO.do rfl (D.store (v := .agg #[S [], .int .u16 0, .int .u16 0, .int .u32 0, S []]) (us := [S [], .int .u16 0, .int .u16 0, .int .u32 0, S []]) sz25 H80 rfl rfl rfl rfl rfl rfl ?_)
    intro w95 H96 e97
    replace hB := below_blk hB e97 g10
    replace H81 := H81.gr e97 (sepB (ne_flip (ne_of pr10_24 (MB.ge b19))))
    clear e97
    refine XO.do rfl (D.asn (v := .int .i64 0) rfl rfl ?_)
    refine XO.do rfl (D.asn (v := .int .i64 2) rfl rfl ?_)
    refine XO.nil ?_
    refine hM94 _ _ ?_
    refine X.ret ?_
    injection h with h
    subst h
    exact hR _ _ _ (retCTT ag25 H96 rfl rfl rfl rfl rfl) ⟨rfl, ext_of_below hB⟩
   ·rw [if_neg c92] at h
    refine X.condF (congrArg Value.bool ((Bool.eq_false_iff.2 c92))) ?_
    refine X.skip ?_
    refine hM78 _ _ ?_
    refine X.seq fun M98 hM99 => ?_
    refine X.region ?_
    refine XO.do rfl (D.mv (v := S a1) rfl rfl ?_)
    refine XO.do rfl (D.mv (v := .int .i64 r55.2.1) rfl rfl ?_)
    refine XO.do rfl (D.mv (v := .int .u16 r55.1) rfl rfl ?_)
    refine XO.do rfl (D.conv Try.underlying22 Try.underlying3 rfl rfl ?_)
    refine XO.do rfl (D.fieldAddr (o' := 1) fa30_1 rfl rfl rfl ?_)
    refine XO.do rfl (D.load (j := 1) (v := .int .u16 r17.1.ty) sc22 H81.cs rfl rfl rfl rfl ?_)
    rcases (Classical.em (derrickref04_Take.pre a1 r55.2.1 (w64 r55.1) r17.1.ty)).symm with c100 | c100
    ·rw [if_neg c100] at h; cases h
    rw [if_pos c100] at h
    obtain ⟨r104, q105, h⟩ := lt_elim h
    have hc103 := derrickref04_Take.ok a1 r55.2.1 (w64 r55.1) r17.1.ty w83 c100 
    rw [q105] at hc103
    clear q105
    refine XO.do rfl (D.call (vs := [S a1, .int .i64 r55.2.1, .int .i64 (w64 r55.1), .int .u16 r17.1.ty]) cf49 hc103 rfl rfl ?_)
    rintro _ w101 ⟨rfl, e102⟩
    clear hc103
    replace hB := below_ext hB e102
    replace H80 := H80.ext e102
    replace H81 := H81.ext e102
    clear e102
    refine XO.do rfl (D.mv (v := .tuple #[S r104.1, .int .i64 r104.2]) rfl rfl ?_)
    refine XO.do rfl (D.extract (v := S r104.1) rfl rfl rfl ?_)
    refine XO.do rfl (D.extract (v := .int .i64 r104.2) rfl rfl rfl ?_)
    refine XO.do rfl (D.asn (v := S r104.1) rfl rfl ?_)
    refine XO.do rfl (D.asn (v := .int .i64 r104.2) rfl rfl ?_)
    refine XO.nil ?_
    refine hM99 _ _ ?_
    refine X.seq fun M114 hM115 => ?_
    refine X.seq fun M116 hM117 => ?_
    refine X.region ?_
    refine XO.do rfl (D.mv (v := .int .i64 r104.2) rfl rfl ?_)
    refine XO.do rfl (D.neq rfl rfl rfl ?_)
    refine XO.nil ?_
    refine hM117 _ _ ?_
    by_cases c118 : r104.2 = 0
    ·rw [if_pos c118] at h
     refine X.condF (congrArg Value.bool ((congrArg (!·) (beq_iff_eq.2 c118)))) ?_
     refine X.skip ?_
     refine hM115 _ _ ?_
     refine X.seq fun M119 hM120 => ?_
     refine X.region ?_
     refine XO.do rfl (D.fieldAddr (o' := 0) fa30_0 rfl rfl rfl ?_)
     refine XO.do rfl (D.load (j := 0) (v := S r17.1.name) sc9 H81.cs rfl rfl rfl rfl ?_)
     refine XO.do rfl (D.fieldAddr (o' := 1) fa30_1 rfl rfl rfl ?_)
     refine XO.do rfl (D.load (j := 1) (v := .int .u16 r17.1.ty) sc22 H81.cs rfl rfl rfl rfl ?_)
     refine XO.do rfl (D.fieldAddr (o' := 2) fa30_2 rfl rfl rfl ?_)
     refine XO.do rfl (D.load (j := 2) (v := .int .u16 r17.1.cls) sc22 H81.cs rfl rfl rfl rfl ?_)
     refine XO.do rfl (D.mv (v := .int .u32 r47.1) rfl rfl ?_)
     refine XO.do rfl (D.mv (v := S r104.1) rfl rfl ?_)
     refine XO.do rfl (D.build (vs := [(0, S r17.1.name), (1, .int .u16 r17.1.ty), (2, .int .u16 r17.1.cls), (3, .int .u32 r47.1), (4, S r104.1)]) (cs := [S r17.1.name, .int .u16 r17.1.ty, .int .u16 r17.1.cls, .int .u32 r47.1, S r104.1]) bld25 rfl rfl rfl ?_)
     refine XO.do rfl (D.mv (v := .int .i64 r55.2.1) rfl rfl ?_)
     refine XO.do rfl (D.mv (v := .int .u16 r55.1) rfl rfl ?_)
     refine XO.do rfl (D.conv Try.underlying22 Try.underlying3 rfl rfl ?_)
     refine XO.do rfl (D.add rfl rfl rfl ?_)
     refine XO.do rfl (D.store (v := .agg #[S r17.1.name, .int .u16 r17.1.ty, .int .u16 r17.1.cls, .int .u32 r47.1, S r104.1]) (us := [S r17.1.name, .int .u16 r17.1.ty, .int .u16 r17.1.cls, .int .u32 r47.1, S r104.1]) sz25 H80 rfl rfl rfl rfl rfl rfl ?_)
     intro w121 H122 e123
     replace hB := below_blk hB e123 g10
     replace H81 := H81.gr e123 (sepB (ne_flip (ne_of pr10_24 (MB.ge b19))))
     clear e123
     refine XO.do rfl (D.asn (v := .int .i64 (w64 (r55.2.1 + (w64 r55.1)))) rfl rfl ?_)
     refine XO.do rfl (D.asn (v := .int .i64 0) rfl rfl ?_)
     refine XO.nil ?_
     refine hM120 _ _ ?_
     refine X.ret ?_
     injection h with h
     subst h
     exact hR _ _ _ (retCTT ag25 H122 rfl rfl rfl rfl rfl) ⟨rfl, ext_of_below hB⟩
    ·rw [if_neg c118] at h
     refine X.condT (congrArg Value.bool ((congrArg (!·) (beq_eq_false_iff_ne.2 c118)))) ?_
     refine X.seq fun M124 hM125 => ?_
     refine X.region ?_
     refine XO.do rfl (D.build (vs := []) (cs := [S [], .int .u16 0, .int .u16 0, .int .u32 0, S []]) bld25 rfl rfl rfl ?_)
     refine XO.do rfl (D.store (v := .agg #[S [], .int .u16 0, .int .u16 0, .int .u32 0, S []]) (us := [S [], .int .u16 0, .int .u16 0, .int .u32 0, S []]) sz25 H80 rfl rfl rfl rfl rfl rfl ?_)
     intro w126 H127 e128
     replace hB := below_blk hB e128 g10
     replace H81 := H81.gr e128 (sepB (ne_flip (ne_of pr10_24 (MB.ge b19))))
     clear e128
     refine XO.do rfl (D.asn (v := .int .i64 0) rfl rfl ?_)
     refine XO.do rfl (D.asn (v := .int .i64 2) rfl rfl ?_)
     refine XO.nil ?_
     refine hM125 _ _ ?_
     refine X.ret ?_
     injection h with h
     subst h
     exact hR _ _ _ (retCTT ag25 H127 rfl rfl rfl rfl rfl) ⟨rfl, ext_of_below hB⟩
 ·rw [if_neg c40] at h
  refine X.condT (congrArg Value.bool ((congrArg (!·) (beq_eq_false_iff_ne.2 c40)))) ?_
  refine X.seq fun M130 hM131 => ?_
  refine X.region ?_
  refine XO.do rfl (D.build (vs := []) (cs := [S [], .int .u16 0, .int .u16 0, .int .u32 0, S []]) bld25 rfl rfl rfl ?_)
  refine XO.do rfl (D.store (v := .agg #[S [], .int .u16 0, .int .u16 0, .int .u32 0, S []]) (us := [S [], .int .u16 0, .int .u16 0, .int .u32 0, S []]) sz25 H8 rfl rfl rfl rfl rfl rfl ?_)
  intro w132 H133 e134
  replace hB := below_blk hB e134 g10
  replace H26 := H26.gr e134 (sepB (ne_flip (ne_of lt_10_24 (MB.ge b19))))
  clear e134
  refine XO.do rfl (D.asn (v := .int .i64 0) rfl rfl ?_)
  refine XO.do rfl (D.asn (v := .int .i64 2) rfl rfl ?_)
  refine XO.nil ?_
  refine hM131 _ _ ?_
  refine X.ret ?_
  injection h with h
  subst h
  exact hR _ _ _ (retCTT ag25 H133 rfl rfl rfl rfl rfl) ⟨rfl, ext_of_below hB⟩
theorem derrickref05_Take.ok (a1 : Str) (a2 : Int)  (w : World)  (hp : derrickref05_Take.pre a1 a2) :
  Ret Try.prog 19 ([S a1, .int .i64 a2] : List Value).toArray w fun v w' => v = .tuple #[.agg #[S ((derrickref05_Take a1 a2).1.name), .int .u16 ((derrickref05_Take a1 a2).1.ty), .int .u16 ((derrickref05_Take a1 a2).1.cls), .int .u32 ((derrickref05_Take a1 a2).1.ttl), S ((derrickref05_Take a1 a2).1.data)], .int .i64 ((derrickref05_Take a1 a2).2.1), .int .i64 ((derrickref05_Take a1 a2).2.2)] ∧ Ext w w' := by
 have h := derrickref05_Take.eq a1 a2 hp
 exact derrickref05_Take.walk  a1 a2  w  _ h
end Go.Proofs.Ytfcaekghpkpjdaa.K

/- Walks, printed by a program of this session. -/
namespace Go.Proofs.Ytfcaekghpkpjdaa.K
open Go Go.RowKit Go.Proofs
set_option linter.unusedVariables false
set_option maxRecDepth 100000
set_option maxHeartbeats 4000000
namespace FEN
end FEN
open FEN
theorem record_Put_nil.walk (a1 : RR)  (w : World)  (res : Int) (h : record_Put_nil a1 = res) :
  Ret Try.prog 15 ([.pointer none, .agg #[S a1.name, .int .u16 a1.ty, .int .u16 a1.cls, .int .u32 a1.ttl, S a1.data]] : List Value).toArray w fun v w' => v = .int .i64 res ∧ Ext w w' := by
 unfold record_Put_nil at h
 refine enterX Try.func15 rfl Try.ntmps15 rfl (fun R hR => ?_)
 have hB := Below.refl w.heap.size w
 refine X.seq fun M2 hM3 => ?_
 refine X.region ?_
 refine XO.do rfl (D.box (v := .agg #[S a1.name, .int .u16 a1.ty, .int .u16 a1.cls, .int .u32 a1.ttl, S a1.data]) (cs := [S a1.name, .int .u16 a1.ty, .int .u16 a1.cls, .int .u32 a1.ttl, S a1.data]) rfl rfl rfl ?_)
 intro b4 w5 hb6 H7 e8 _
 have g9 : w.heap.size ≤ b4 := Nat.le_trans hB.size (Nat.le_of_eq hb6.symm)
 clear hb6
 replace hB := below_ext hB e8
 clear e8
 refine XO.do rfl (D.asn (v := .int .i64 0) rfl rfl ?_)
 refine XO.nil ?_
 refine hM3 _ _ ?_
 refine X.seq fun M14 hM15 => ?_
 refine X.seq fun M16 hM17 => ?_
 refine X.region ?_
 refine XO.do rfl (D.mv (v := .pointer none) rfl rfl ?_)
 refine XO.do rfl (D.eqlPnil (p := none) Try.underlying35 rfl rfl rfl ?_)
 refine XO.do rfl (D.mv (v := .bool true) rfl rfl ?_)
 refine XO.off (wantG0 (j := 2) (b := false) rfl (rfl) rfl) rfl rfl ?_
 refine XO.off (wantG0 (j := 2) (b := false) rfl (rfl) rfl) rfl rfl ?_
 refine XO.off (wantG0 (j := 2) (b := false) rfl (rfl) rfl) rfl rfl ?_
 refine XO.do rfl (D.pick true (v := .bool true) (congrArg Value.bool (rfl)) rfl rfl ?_)
 refine XO.nil ?_
 refine hM17 _ _ ?_
 refine X.condT (congrArg Value.bool (rfl)) ?_
 refine X.seq fun M18 hM19 => ?_
 refine X.region ?_
 refine XO.do rfl (D.asn (v := .int .i64 1) rfl rfl ?_)
 refine XO.nil ?_
 refine hM19 _ _ ?_
 refine X.ret ?_
 subst h
 exact hR _ _ _ (ret1 (v := .int .i64 1) rfl rfl) ⟨rfl, ext_of_below hB⟩
theorem record_Put_nil.ok (a1 : RR)  (w : World)  :
  Ret Try.prog 15 ([.pointer none, .agg #[S a1.name, .int .u16 a1.ty, .int .u16 a1.cls, .int .u32 a1.ttl, S a1.data]] : List Value).toArray w fun v w' => v = .int .i64 (record_Put_nil a1) ∧ Ext w w' := record_Put_nil.walk a1  w  _ rfl
theorem record_PutQ_nil.walk (a1 : Question)  (w : World)  (res : Int) (h : record_PutQ_nil a1 = res) :
  Ret Try.prog 13 ([.pointer none, .agg #[S a1.name, .int .u16 a1.ty, .int .u16 a1.cls]] : List Value).toArray w fun v w' => v = .int .i64 res ∧ Ext w w' := by
 unfold record_PutQ_nil at h
 refine enterX Try.func13 rfl Try.ntmps13 rfl (fun R hR => ?_)
 have hB := Below.refl w.heap.size w
 refine X.seq fun M2 hM3 => ?_
 refine X.region ?_
 refine XO.do rfl (D.box (v := .agg #[S a1.name, .int .u16 a1.ty, .int .u16 a1.cls]) (cs := [S a1.name, .int .u16 a1.ty, .int .u16 a1.cls]) rfl rfl rfl ?_)
 intro b4 w5 hb6 H7 e8 _
 have g9 : w.heap.size ≤ b4 := Nat.le_trans hB.size (Nat.le_of_eq hb6.symm)
 clear hb6
 replace hB := below_ext hB e8
 clear e8
 refine XO.do rfl (D.asn (v := .int .i64 0) rfl rfl ?_)
 refine XO.nil ?_
 refine hM3 _ _ ?_
 refine X.seq fun M14 hM15 => ?_
 refine X.seq fun M16 hM17 => ?_
 refine X.region ?_
 refine XO.do rfl (D.mv (v := .pointer none) rfl rfl ?_)
 refine XO.do rfl (D.eqlPnil (p := none) Try.underlying35 rfl rfl rfl ?_)
 refine XO.do rfl (D.mv (v := .bool true) rfl rfl ?_)
 refine XO.off (wantG0 (j := 2) (b := false) rfl (rfl) rfl) rfl rfl ?_
 refine XO.off (wantG0 (j := 2) (b := false) rfl (rfl) rfl) rfl rfl ?_
 refine XO.off (wantG0 (j := 2) (b := false) rfl (rfl) rfl) rfl rfl ?_
 refine XO.do rfl (D.pick true (v := .bool true) (congrArg Value.bool (rfl)) rfl rfl ?_)
 refine XO.nil ?_
 refine hM17 _ _ ?_
 refine X.condT (congrArg Value.bool (rfl)) ?_
 refine X.seq fun M18 hM19 => ?_
 refine X.region ?_
 refine XO.do rfl (D.asn (v := .int .i64 1) rfl rfl ?_)
 refine XO.nil ?_
 refine hM19 _ _ ?_
 refine X.ret ?_
 subst h
 exact hR _ _ _ (ret1 (v := .int .i64 1) rfl rfl) ⟨rfl, ext_of_below hB⟩
theorem record_PutQ_nil.ok (a1 : Question)  (w : World)  :
  Ret Try.prog 13 ([.pointer none, .agg #[S a1.name, .int .u16 a1.ty, .int .u16 a1.cls]] : List Value).toArray w fun v w' => v = .int .i64 (record_PutQ_nil a1) ∧ Ext w w' := record_PutQ_nil.walk a1  w  _ rfl
end Go.Proofs.Ytfcaekghpkpjdaa.K

/- Walks, printed by a program of this session. -/
namespace Go.Proofs.Ytfcaekghpkpjdaa.K
open Go Go.RowKit Go.Proofs
set_option linter.unusedVariables false
set_option maxRecDepth 100000
set_option maxHeartbeats 4000000
namespace FL4
theorem ti25 : TI Try.prog 25 (.agg #[S [], .int .u16 0, .int .u16 0, .int .u32 0, S []]) 5 40 := by unfold TI; kernel_rfl
theorem ag25 : Agg Try.prog 25 5 := agg Try.underlying25 rfl ti25
theorem ti39 : TI Try.prog 39 (.agg #[S [], .slice none 0 0]) 2 40 := by unfold TI; kernel_rfl
theorem ag39 : Agg Try.prog 39 2 := agg Try.underlying39 rfl ti39
theorem ti9 : TI Try.prog 9 (S []) 1 16 := by unfold TI; kernel_rfl
theorem ti22 : TI Try.prog 22 (.int .u16 0) 1 2 := by unfold TI; kernel_rfl
theorem ti23 : TI Try.prog 23 (.int .u32 0) 1 4 := by unfold TI; kernel_rfl
theorem bld25 : BuildIs Try.prog 25 #[(0, 1), (1, 1), (2, 1), (3, 1), (4, 1)] (Value.cells (.agg #[S [], .int .u16 0, .int .u16 0, .int .u32 0, S []])) := buildIs Try.underlying25 ti25 (fun w => by simp [ti22.size, ti23.size, ti9.size])
theorem ti30 : TI Try.prog 30 (.agg #[S [], .int .u16 0, .int .u16 0]) 3 24 := by unfold TI; kernel_rfl
theorem bld30 : BuildIs Try.prog 30 #[(0, 1), (1, 1), (2, 1)] (Value.cells (.agg #[S [], .int .u16 0, .int .u16 0])) := buildIs Try.underlying30 ti30 (fun w => by simp [ti22.size, ti9.size])
theorem ti37 : TI Try.prog 37 (.slice none 0 0) 1 24 := by unfold TI; kernel_rfl
theorem bld39 : BuildIs Try.prog 39 #[(0, 1), (1, 1)] (Value.cells (.agg #[S [], .slice none 0 0])) := buildIs Try.underlying39 ti39 (fun w => by simp [ti37.size, ti9.size])
theorem cf10 : Callable Try.prog 10 := callable Try.func10 (by kernel_rfl) rfl
theorem cf12 : Callable Try.prog 12 := callable Try.func12 (by kernel_rfl) rfl
theorem cf13 : Callable Try.prog 13 := callable Try.func13 (by kernel_rfl) rfl
theorem cf14 : Callable Try.prog 14 := callable Try.func14 (by kernel_rfl) rfl
theorem cf15 : Callable Try.prog 15 := callable Try.func15 (by kernel_rfl) rfl
theorem cf16 : Callable Try.prog 16 := callable Try.func16 (by kernel_rfl) rfl
theorem cf17 : Callable Try.prog 17 := callable Try.func17 (by kernel_rfl) rfl
theorem cf7 : Callable Try.prog 7 := callable Try.func7 (by kernel_rfl) rfl
theorem cf8 : Callable Try.prog 8 := callable Try.func8 (by kernel_rfl) rfl
theorem fa39_0 : FA Try.prog 39 0 0 := fa Try.underlying39 rfl ti9 rfl rfl
theorem mixed0 : Try.prog.follows .mixedOrders = true := by kernel_rfl
theorem sc4 : Sca Try.prog 4 := sca Try.underlying4 rfl
theorem sc9 : Sca Try.prog 9 := sca Try.underlying9 rfl
theorem sz25 : ∀ w, (sizeOf 25).run Try.prog w = .ok 5 w := fun w => ti25.size w
theorem sz39 : ∀ w, (sizeOf 39).run Try.prog w = .ok 2 w := fun w => ti39.size w
theorem ti4 : TI Try.prog 4 (.bool false) 1 1 := by unfold TI; kernel_rfl
theorem sz4 : ∀ w, (sizeOf 4).run Try.prog w = .ok 1 w := fun w => ti4.size w
end FL4
open FL4
theorem derricklaw05_RecordPuts.walk (kf : Nat) (a1 : List RR) (a6 : List Bool) (A2 : Option Addr) (k3 : Nat) (A7 : Option Addr) (k8 : Nat) (w : World) (H4 : Row eRR w A2 k3 a1) (H9 : Row eBool w A7 k8 a6) (res : Bool) (h : derricklaw05_RecordPuts.f kf a1 a6 = some res) :
  Ret Try.prog 4 ([.slice A2 a1.length k3, .slice A7 a6.length k8] : List Value).toArray w fun v w' => v = .bool res ∧ Ext w w' := by
 unfold derricklaw05_RecordPuts.f at h
 refine enterX Try.func4 rfl Try.ntmps4 rfl (fun R hR => ?_)
 have hB := Below.refl w.heap.size w
 refine X.seq fun M11 hM12 => ?_
 refine X.region ?_
 refine XO.do rfl (D.asn (v := .bool false) rfl rfl ?_)
 refine XO.nil ?_
 refine hM12 _ _ ?_
 refine X.seq fun M13 hM14 => ?_
 refine X.region ?_
 rcases (Classical.em (derricklaw05_shown.pre )).symm with c15 | c15
 ·rw [if_neg c15] at h; cases h
 rw [if_pos c15] at h
 obtain ⟨r20, q21, h⟩ := lt_elim h
 have hc19 := derricklaw05_shown.ok w c15 
 rw [q21] at hc19
 clear q21
 refine XO.do rfl (D.call (vs := []) cf7 hc19 rfl rfl ?_)
 rintro _ w17 ⟨rfl, e18⟩
 clear hc19
 replace hB := below_ext hB e18
 clear e18
 refine XO.do rfl (D.asn (v := .bool r20) rfl rfl ?_)
 refine XO.nil ?_
 refine hM14 _ _ ?_
 refine X.seq fun M22 hM23 => ?_
 refine X.region ?_
 obtain ⟨r27, q28, h⟩ := lt_elim h
 have hc26 := wire_New.ok w17 
 rw [q28] at hc26
 clear q28
 refine XO.do rfl (D.call (vs := []) cf12 hc26 rfl rfl ?_)
 rintro _ w24 ⟨M29, b30, rfl, H31, g32, e25⟩
 clear hc26
 have z33 : ∀ y, M29 y → w.heap.size ≤ y := fun y hy => Nat.le_trans hB.size (g32 y hy)
 have bs33 : w17.heap.size ≤ w24.heap.size := World.grownBy.size e25
 replace hB := below_ext hB e25
 clear e25
 refine XO.do rfl (D.asn (v := pt b30 0) rfl rfl ?_)
 refine XO.nil ?_
 refine hM23 _ _ ?_
 refine X.seq fun M35 hM36 => ?_
 refine X.region ?_
 refine XO.do rfl (D.build (vs := []) (cs := [S [], .slice none 0 0]) bld39 rfl rfl rfl ?_)
 refine XO.do rfl (D.alloc ti39 (cs := [S [], .slice none 0 0]) rfl rfl ?_)
 intro b37 w38 hb39 H40 e41 _
 have ne_33_42 : ∀ x y, M29 x → MB b37 y → x ≠ y := ne_of (lt_le H31.lt (Nat.le_of_eq hb39.symm)) (MB.ge b37)
 have g42 : w.heap.size ≤ b37 := Nat.le_trans hB.size (Nat.le_of_eq hb39.symm)
 clear hb39
 replace hB := below_ext hB e41
 replace H31 := H31.ext e41
 replace bs33 := Nat.le_trans bs33 (World.grownBy.size e41)
 clear e41
 refine XO.do rfl (D.store (v := .agg #[S [], .slice none 0 0]) (us := [S [], .slice none 0 0]) sz39 H40 rfl rfl rfl rfl rfl rfl ?_)
 intro w43 H44 e45
 replace hB := below_blk hB e45 g42
 replace H31 := H31.gr e45 (sepB ne_33_42)
 replace bs33 := Nat.le_trans bs33 (World.grownBy.size e45)
 clear e45
 refine XO.nil ?_
 refine hM36 _ _ ?_
 refine X.seq fun M6278 hM6279 => ?_
 refine X.seq fun M6280 hM6281 => ?_
 refine X.region ?_
 refine XO.do rfl (D.asn (v := .int .i64 0) rfl rfl ?_)
 refine XO.nil ?_
 refine hM6281 _ _ ?_
 refine X.block ?_
 refine X.loop (fun kq12525 => fun f10448 w10447 => ∃ M10436 : Nat → Prop, ∃ x10437 : Pack, ∃ x10438 : Str, ∃ A10439 : Option Addr, ∃ k10440 : Nat, ∃ l10441 : List Place, ∃ x10445 : Int, f10448 0 = .slice A2 a1.length k3 ∧ f10448 1 = .slice A7 a6.length k8 ∧ f10448 5 = .bool r20 ∧ f10448 6 = pt b30 0 ∧ f10448 7 = pt b37 0 ∧ f10448 8 = .int .i64 x10445 ∧ Below w.heap.size w w10447 ∧ okPack.is w10447 M10436 b30 x10437 ∧ (∀ x, M10436 x → w.heap.size ≤ x) ∧ (∀ x, M10436 x → w17.heap.size ≤ x) ∧ w17.heap.size ≤ w10447.heap.size ∧ Row ePlace w10447 A10439 k10440 l10441 ∧ (∀ y, MR A10439 l10441 y → w.heap.size ≤ y ∨ MR A2 a1 y ∨ MR A7 a6 y) ∧ Blk w10447 b37 [S x10438, .slice A10439 l10441.length k10440] 39 ∧ (∀ x y, M10436 x → MB b37 y → x ≠ y) ∧ (∀ x y, MR A10439 l10441 x → M10436 y → x ≠ y) ∧ (∀ x y, MR A10439 l10441 x → MB b37 y → x ≠ y) ∧ derricklaw05_RecordPuts.l1 a1 a6 r20 kq12525 x10437 x10438 l10441 x10445 = some res) kf ?_ ?_
 ·exact ⟨M29, r27, [], none, 0, ([] : List Place), 0, rfl, rfl, rfl, rfl, rfl, rfl, hB, H31, z33, g32, bs33, (Row.nil _ _ none 0 (by decide)), (fun y hy => absurd hy.1 (by simp [blkOf])), H44, ne_33_42, (fun x y hx _ => absurd hx.1 (by simp [blkOf])), (fun x y hx _ => absurd hx.1 (by simp [blkOf])), h⟩
 ·intro kq12525 f10448 w10447 hI
  obtain ⟨M10436, x10437, x10438, A10439, k10440, l10441, x10445, s10449, s10450, s10451, s10452, s10453, s10454, hB, H10435, hg33, hh33, bs33, H10442, hg10443, H10444, pr33_42, ps10443_33, ps10443_42, h⟩ := hI
  cases kq12525 with
  | zero => exact absurd h (by rw [derricklaw05_RecordPuts.l1.eq_1]; simp)
  | succ kf10434 =>
   rw [derricklaw05_RecordPuts.l1.eq_2] at h
   refine X.fr (d := 0) s10449 ?_
   refine X.fr (d := 1) s10450 ?_
   refine X.fr (d := 5) s10451 ?_
   refine X.fr (d := 6) s10452 ?_
   refine X.fr (d := 7) s10453 ?_
   refine X.fr (d := 8) s10454 ?_
   refine X.seq fun M10473 hM10474 => ?_
   refine X.cut (fun f10481 w10480 => ∃ x10479 : Bool, f10481 0 = .slice A2 a1.length k3 ∧ f10481 1 = .slice A7 a6.length k8 ∧ f10481 5 = .bool r20 ∧ f10481 6 = pt b30 0 ∧ f10481 7 = pt b37 0 ∧ f10481 8 = .int .i64 x10445 ∧ f10481 25 = .bool x10479 ∧ Below w.heap.size w w10480 ∧ okPack.is w10480 M10436 b30 x10437 ∧ w17.heap.size ≤ w10480.heap.size ∧ Row ePlace w10480 A10439 k10440 l10441 ∧ Blk w10480 b37 [S x10438, .slice A10439 l10441.length k10440] 39 ∧ (∀ x y, M10436 x → MB b37 y → x ≠ y) ∧ (∀ x y, MR A10439 l10441 x → M10436 y → x ≠ y) ∧ (∀ x y, MR A10439 l10441 x → MB b37 y → x ≠ y) ∧ derricklaw05_RecordPuts.j2 x10445 a1 a6 x10437 x10438 l10441 (derricklaw05_RecordPuts.l1 a1 a6 r20 kf10434) r20 x10479 = some res) ?_ ?_
   ·refine X.region ?_
    refine XO.do rfl (D.mv (v := .int .i64 x10445) rfl rfl ?_)
    refine XO.do rfl (D.mv (v := .slice A2 a1.length k3) rfl rfl ?_)
    refine XO.do rfl (D.lenR (A := A2) (c := k3) (m := a1.length) Try.underlying33 rfl rfl ?_)
    refine XO.do rfl (D.lss rfl rfl rfl ?_)
    refine XO.do rfl (D.mv (v := .bool (decide (x10445 < (a1.length : Int)))) rfl rfl ?_)
    by_cases c12524 : x10445 < (a1.length : Int)
    ·rw [if_pos c12524] at h
     refine XO.do (wantG (j := 4) (b := true) rfl (decide_eq_true c12524) rfl) (D.mv (v := .int .i64 x10445) rfl rfl ?_)
     refine XO.do (wantG (j := 4) (b := true) rfl (decide_eq_true c12524) rfl) (D.lss rfl rfl rfl ?_)
     refine XO.do rfl (D.pick true (v := .bool (decide (x10445 < 20))) (congrArg Value.bool (decide_eq_true c12524)) rfl rfl ?_)
     refine XO.nil ?_
     exact ⟨(decide (x10445 < 20)), rfl, rfl, rfl, rfl, rfl, rfl, rfl, hB, H10435, bs33, H10442, H10444, pr33_42, ps10443_33, ps10443_42, h⟩
    ·rw [if_neg c12524] at h
     refine XO.off (wantG0 (j := 4) (b := true) rfl (decide_eq_false c12524) rfl) rfl rfl ?_
     refine XO.off (wantG0 (j := 4) (b := true) rfl (decide_eq_false c12524) rfl) rfl rfl ?_
     refine XO.do rfl (D.pick false (v := .bool false) (congrArg Value.bool (decide_eq_false c12524)) rfl rfl ?_)
     refine XO.nil ?_
     exact ⟨false, rfl, rfl, rfl, rfl, rfl, rfl, rfl, hB, H10435, bs33, H10442, H10444, pr33_42, ps10443_33, ps10443_42, h⟩
   ·intro f10481 w10480 hI
    obtain ⟨x10479, s10482, s10483, s10484, s10485, s10486, s10487, s10488, hB, H10476, bs33, H10477, H10478, pr33_42, ps10443_33, ps10443_42, h⟩ := hI
    refine X.fr (d := 0) s10482 ?_
    refine X.fr (d := 1) s10483 ?_
    refine X.fr (d := 5) s10484 ?_
    refine X.fr (d := 6) s10485 ?_
    refine X.fr (d := 7) s10486 ?_
    refine X.fr (d := 8) s10487 ?_
    refine X.fr (d := 25) s10488 ?_
    unfold derricklaw05_RecordPuts.j2 at h
    by_cases c10489 : x10479 = true
    ·rw [if_pos c10489] at h
     refine X.condT (congrArg Value.bool (c10489)) ?_
     refine X.skip ?_
     refine hM10474 _ _ ?_
     refine X.seq fun M11499 hM11500 => ?_
     refine X.block ?_
     refine X.seq fun M11517 hM11518 => ?_
     refine X.seq fun M11519 hM11520 => ?_
     refine X.region ?_
     refine XO.do rfl (D.mv (v := .slice A2 a1.length k3) rfl rfl ?_)
     refine XO.do rfl (D.mv (v := .int .i64 x10445) rfl rfl ?_)
     rcases (Classical.em (0 ≤ x10445)).symm with c11521 | c11521
     ·rw [if_neg c11521] at h; cases h
     rw [if_pos c11521] at h
     rcases (Classical.em (x10445 < (a1.length : Int))).symm with c11522 | c11522
     ·rw [if_neg c11522] at h; cases h
     rw [if_pos c11522] at h
     refine XO.do rfl (D.indexR (i := x10445) Try.underlying33 sz25 (H4.below hB) rfl rfl c11521 c11522 rfl ?_)
     intro b11523 o11524 _ H11525
     refine XO.do rfl (D.loadA (j := 0) (us := [S ((rd a1 x10445).name), .int .u16 ((rd a1 x10445).ty), .int .u16 ((rd a1 x10445).cls), .int .u32 ((rd a1 x10445).ttl), S ((rd a1 x10445).data)]) ag25 H11525 rfl rfl rfl rfl rfl ?_)
     obtain ⟨r11530, q11531, h⟩ := lt_elim h
     have hc11529 := derricklaw05_few.ok (rd a1 x10445) w10480 
     rw [q11531] at hc11529
     clear q11531
     refine XO.do rfl (D.call (vs := [.agg #[S ((rd a1 x10445).name), .int .u16 ((rd a1 x10445).ty), .int .u16 ((rd a1 x10445).cls), .int .u32 ((rd a1 x10445).ttl), S ((rd a1 x10445).data)]]) cf8 hc11529 rfl rfl ?_)
     rintro _ w11527 ⟨rfl, e11528⟩
     clear hc11529
     replace hB := below_ext hB e11528
     replace H10476 := H10476.ext e11528
     replace bs33 := Nat.le_trans bs33 (World.grownBy.size e11528)
     replace H10477 := H10477.ext e11528
     replace H10478 := H10478.ext e11528
     replace H11525 := H11525.ext e11528
     clear e11528
     refine XO.do rfl (D.not r11530 rfl rfl ?_)
     refine XO.nil ?_
     refine hM11520 _ _ ?_
     by_cases c11532 : r11530 = true
     ·rw [if_pos c11532] at h
      refine X.condF (congrArg Value.bool ((congrArg (!·) (c11532)))) ?_
      refine X.skip ?_
      refine hM11518 _ _ ?_
      refine X.cut (fun f11870 w11869 => ∃ M11860 : Nat → Prop, ∃ x11861 : Pack, ∃ x11862 : Str, ∃ A11863 : Option Addr, ∃ k11864 : Nat, ∃ l11865 : List Place, f11870 0 = .slice A2 a1.length k3 ∧ f11870 1 = .slice A7 a6.length k8 ∧ f11870 5 = .bool r20 ∧ f11870 6 = pt b30 0 ∧ f11870 7 = pt b37 0 ∧ f11870 8 = .int .i64 x10445 ∧ Below w.heap.size w w11869 ∧ okPack.is w11869 M11860 b30 x11861 ∧ (∀ x, M11860 x → w.heap.size ≤ x) ∧ (∀ x, M11860 x → w17.heap.size ≤ x) ∧ w17.heap.size ≤ w11869.heap.size ∧ Row ePlace w11869 A11863 k11864 l11865 ∧ (∀ y, MR A11863 l11865 y → w.heap.size ≤ y ∨ MR A2 a1 y ∨ MR A7 a6 y) ∧ Blk w11869 b37 [S x11862, .slice A11863 l11865.length k11864] 39 ∧ (∀ x y, M11860 x → MB b37 y → x ≠ y) ∧ (∀ x y, MR A11863 l11865 x → M11860 y → x ≠ y) ∧ (∀ x y, MR A11863 l11865 x → MB b37 y → x ≠ y) ∧ derricklaw05_RecordPuts.j3 a1 x10445 (derricklaw05_RecordPuts.l1 a1 a6 r20 kf10434) x11861 x11862 l11865 = some res) ?_ ?_
      ·refine X.cut (fun f12192 w12191 => ∃ x12190 : Bool, f12192 0 = .slice A2 a1.length k3 ∧ f12192 1 = .slice A7 a6.length k8 ∧ f12192 5 = .bool r20 ∧ f12192 6 = pt b30 0 ∧ f12192 7 = pt b37 0 ∧ f12192 8 = .int .i64 x10445 ∧ f12192 44 = .bool x12190 ∧ Below w.heap.size w w12191 ∧ okPack.is w12191 M10436 b30 x10437 ∧ w17.heap.size ≤ w12191.heap.size ∧ Row ePlace w12191 A10439 k10440 l10441 ∧ Blk w12191 b37 [S x10438, .slice A10439 l10441.length k10440] 39 ∧ (∀ x y, M10436 x → MB b37 y → x ≠ y) ∧ (∀ x y, MR A10439 l10441 x → M10436 y → x ≠ y) ∧ (∀ x y, MR A10439 l10441 x → MB b37 y → x ≠ y) ∧ derricklaw05_RecordPuts.j6 a1 x10445 x10437 x10438 l10441 (derricklaw05_RecordPuts.l1 a1 a6 r20 kf10434) x12190 = some res) ?_ ?_
       ·refine X.region ?_
        refine XO.do rfl (D.mv (v := .int .i64 x10445) rfl rfl ?_)
        refine XO.do rfl (D.mv (v := .slice A7 a6.length k8) rfl rfl ?_)
        refine XO.do rfl (D.lenR (A := A7) (c := k8) (m := a6.length) Try.underlying34 rfl rfl ?_)
        refine XO.do rfl (D.lss rfl rfl rfl ?_)
        refine XO.do rfl (D.mv (v := .bool (decide (x10445 < (a6.length : Int)))) rfl rfl ?_)
        by_cases c12503 : x10445 < (a6.length : Int)
        ·rw [if_pos c12503] at h
         refine XO.do (wantG (j := 4) (b := true) rfl (decide_eq_true c12503) rfl) (D.mv (v := .slice A7 a6.length k8) rfl rfl ?_)
         refine XO.do (wantG (j := 4) (b := true) rfl (decide_eq_true c12503) rfl) (D.mv (v := .int .i64 x10445) rfl rfl ?_)
         refine XO.do (wantG (j := 4) (b := true) rfl (decide_eq_true c12503) rfl) (D.indexR (i := x10445) Try.underlying34 sz4 (H9.below hB) rfl rfl c11521 c12503 rfl ?_)
         intro b12504 o12505 _ H12506
         refine XO.do (wantG (j := 4) (b := true) rfl (decide_eq_true c12503) rfl) (D.load (j := 0) (v := .bool (rd a6 x10445)) sc4 H12506 rfl rfl rfl rfl ?_)
         refine XO.do rfl (D.pick true (v := .bool (rd a6 x10445)) (congrArg Value.bool (decide_eq_true c12503)) rfl rfl ?_)
         refine XO.nil ?_
         exact ⟨(rd a6 x10445), rfl, rfl, rfl, rfl, rfl, rfl, rfl, hB, H10476, bs33, H10477, H10478, pr33_42, ps10443_33, ps10443_42, h⟩
        ·rw [if_neg c12503] at h
         refine XO.off (wantG0 (j := 4) (b := true) rfl (decide_eq_false c12503) rfl) rfl rfl ?_
         refine XO.off (wantG0 (j := 4) (b := true) rfl (decide_eq_false c12503) rfl) rfl rfl ?_
         refine XO.off (wantG0 (j := 4) (b := true) rfl (decide_eq_false c12503) rfl) rfl rfl ?_
         refine XO.off (wantG0 (j := 4) (b := true) rfl (decide_eq_false c12503) rfl) rfl rfl ?_
         refine XO.do rfl (D.pick false (v := .bool false) (congrArg Value.bool (decide_eq_false c12503)) rfl rfl ?_)
         refine XO.nil ?_
         exact ⟨false, rfl, rfl, rfl, rfl, rfl, rfl, rfl, hB, H10476, bs33, H10477, H10478, pr33_42, ps10443_33, ps10443_42, h⟩
       ·intro f12192 w12191 hI
        obtain ⟨x12190, s12193, s12194, s12195, s12196, s12197, s12198, s12199, hB, H12187, bs33, H12188, H12189, pr33_42, ps10443_33, ps10443_42, h⟩ := hI
        refine X.fr (d := 0) s12193 ?_
        refine X.fr (d := 1) s12194 ?_
        refine X.fr (d := 5) s12195 ?_
        refine X.fr (d := 6) s12196 ?_
        refine X.fr (d := 7) s12197 ?_
        refine X.fr (d := 8) s12198 ?_
        refine X.fr (d := 44) s12199 ?_
        unfold derricklaw05_RecordPuts.j6 at h
        by_cases c12200 : x12190 = true
        ·rw [if_pos c12200] at h
         refine X.condT (congrArg Value.bool (c12200)) ?_
         refine X.seq fun M12201 hM12202 => ?_
         refine X.region ?_
         refine XO.do rfl (D.mv (v := pt b30 0) rfl rfl ?_)
         refine XO.do rfl (D.mv (v := .slice A2 a1.length k3) rfl rfl ?_)
         refine XO.do rfl (D.mv (v := .int .i64 x10445) rfl rfl ?_)
         refine XO.do rfl (D.indexR (i := x10445) Try.underlying33 sz25 (H4.below hB) rfl rfl c11521 c11522 rfl ?_)
         intro b12203 o12204 _ H12205
         refine XO.do rfl (D.loadA (j := 0) (us := [S ((rd a1 x10445).name), .int .u16 ((rd a1 x10445).ty), .int .u16 ((rd a1 x10445).cls), .int .u32 ((rd a1 x10445).ttl), S ((rd a1 x10445).data)]) ag25 H12205 rfl rfl rfl rfl rfl ?_)
         obtain ⟨r12210, q12211, h⟩ := lt_elim h
         have hc12209 := record_Key.ok (rd a1 x10445) w12191 
         rw [q12211] at hc12209
         clear q12211
         refine XO.do rfl (D.call (vs := [.agg #[S ((rd a1 x10445).name), .int .u16 ((rd a1 x10445).ty), .int .u16 ((rd a1 x10445).cls), .int .u32 ((rd a1 x10445).ttl), S ((rd a1 x10445).data)]]) cf10 hc12209 rfl rfl ?_)
         rintro _ w12207 ⟨rfl, e12208⟩
         clear hc12209
         replace hB := below_ext hB e12208
         replace H12187 := H12187.ext e12208
         replace bs33 := Nat.le_trans bs33 (World.grownBy.size e12208)
         replace H12188 := H12188.ext e12208
         replace H12189 := H12189.ext e12208
         replace H12205 := H12205.ext e12208
         clear e12208
         rcases (Classical.em (record_PutQ.pre x10437 r12210)).symm with c12212 | c12212
         ·rw [if_neg c12212] at h; cases h
         rw [if_pos c12212] at h
         obtain ⟨r12216, q12217, h⟩ := lt_elim h
         have hc12215 := record_PutQ.ok x10437 r12210 M10436 b30 w12207 H12187 c12212 
         rw [q12217] at hc12215
         clear q12217
         refine XO.do rfl (D.call (vs := [pt b30 0, .agg #[S r12210.name, .int .u16 r12210.ty, .int .u16 r12210.cls]]) cf13 hc12215 rfl rfl ?_)
         rintro _ w12218 ⟨M12221, rfl, H12219, u12222, e12220⟩
         clear hc12215
         have pr33_42n := ne_sub u12222 pr33_42 (MB.lt H12189 (Nat.le_refl _))
         have ps10443_33n := ne_flip (ne_sub u12222 (ne_flip ps10443_33) (MR.lt H12188 (Nat.le_refl _)))
         have hh33n := ge_sub u12222 hh33 bs33
         have v10455n := ge_sub u12222 hg33 hB.size
         replace hB := below_gm hB e12220 hg33
         replace H12188 := H12188.gm e12220 (sepM ps10443_33)
         replace H12189 := H12189.gm e12220 (sepM (ne_flip pr33_42))
         replace pr33_42 := pr33_42n
         replace ps10443_33 := ps10443_33n
         replace hh33 := hh33n
         replace bs33 := Nat.le_trans bs33 e12220.size
         clear e12220 u12222 H12187
         have v12223 := v10455n
         clear v10455n
         refine XO.do rfl (D.asn (v := .int .i64 r12216.1) rfl rfl ?_)
         refine XO.nil ?_
         refine hM12202 _ _ ?_
         refine X.cut (fun f12361 w12360 => ∃ b12350 : Nat, ∃ x12351 : Str, ∃ A12352 : Option Addr, ∃ k12353 : Nat, ∃ l12354 : List Place, ∃ x12359 : Int, f12361 0 = .slice A2 a1.length k3 ∧ f12361 1 = .slice A7 a6.length k8 ∧ f12361 5 = .bool r20 ∧ f12361 6 = pt b30 0 ∧ f12361 7 = pt b37 0 ∧ f12361 8 = .int .i64 x10445 ∧ f12361 9 = .int .i64 r12216.1 ∧ f12361 10 = pt b12350 0 ∧ f12361 11 = .int .i64 x12359 ∧ Below w.heap.size w w12360 ∧ okPack.is w12360 M12221 b30 r12216.2 ∧ w17.heap.size ≤ w12360.heap.size ∧ Row ePlace w12360 A10439 k10440 l10441 ∧ Blk w12360 b37 [S x10438, .slice A10439 l10441.length k10440] 39 ∧ Row ePlace w12360 A12352 k12353 l12354 ∧ (∀ y, MR A12352 l12354 y → w.heap.size ≤ y ∨ MR A2 a1 y ∨ MR A7 a6 y) ∧ Blk w12360 b12350 [S x12351, .slice A12352 l12354.length k12353] 39 ∧ w.heap.size ≤ b12350 ∧ (∀ x y, M12221 x → MB b37 y → x ≠ y) ∧ (∀ x y, M12221 x → MB b12350 y → x ≠ y) ∧ (∀ x, MR A10439 l10441 x → x < b12350) ∧ (∀ x, MB b37 x → x < b12350) ∧ (∀ x y, MR A10439 l10441 x → M12221 y → x ≠ y) ∧ (∀ x y, MR A10439 l10441 x → MB b37 y → x ≠ y) ∧ (∀ x y, MR A12352 l12354 x → M12221 y → x ≠ y) ∧ (∀ x y, MR A12352 l12354 x → MB b37 y → x ≠ y) ∧ (∀ x y, MR A12352 l12354 x → MB b12350 y → x ≠ y) ∧ derricklaw05_RecordPuts.j7 r12216 a1 x10445 (derricklaw05_RecordPuts.l1 a1 a6 r20 kf10434) x12351 l12354 x12359 = some res) ?_ ?_
         ·refine X.tree mixed0 [0, 0, 0, 6, 14, 30, 63, 127, 255, 255, 0, 1535, 4095] (.q 0 (.q 1 (.q 2 (.q 3 (.q 4 (.q 5 (.alt 6 (.q 7 (.q 8 (.q 9 (.alt 10 (.alt 11 (.q 12 .nil) .nil) .nil)))) (.alt 10 (.alt 6 (.q 7 (.q 8 (.q 9 (.alt 11 (.q 12 .nil) .nil)))) .nil) .nil)))))))) (fun w' => Below w.heap.size w w' ∧ okPack.is w' M12221 b30 r12216.2 ∧ w17.heap.size ≤ w'.heap.size ∧ Row ePlace w' A10439 k10440 l10441 ∧ Blk w' b37 [S x10438, .slice A10439 l10441.length k10440] 39) (fun w' => Below w.heap.size w w' ∧ okPack.is w' M12221 b30 r12216.2 ∧ w17.heap.size ≤ w'.heap.size ∧ Row ePlace w' A10439 k10440 l10441 ∧ Blk w' b37 [S x10438, .slice A10439 l10441.length k10440] 39) (by decide +kernel) (fun w' hx _ => ⟨below_ext hB hx, H12219.ext hx, Nat.le_trans bs33 (World.grownBy.size hx), H12188.ext hx, H12189.ext hx⟩) (fun a b hC hx => by obtain ⟨hB, H12219, bs33, H12188, H12189⟩ := hC; exact ⟨below_ext hB hx, H12219.ext hx, Nat.le_trans bs33 (World.grownBy.size hx), H12188.ext hx, H12189.ext hx⟩) (fun a hC => by obtain ⟨hB, H12219, bs33, H12188, H12189⟩ := hC; exact ⟨hB, H12219, bs33, H12188, H12189⟩) ?_
          refine QT.late (v := .agg #[S x10438, .slice A10439 l10441.length k10440]) rfl rfl rfl rfl (fun w' hJ => by obtain ⟨hB, H12219, bs33, H12188, H12189⟩ := hJ; exact D.loadA (j := 0) (us := [S x10438, .slice A10439 l10441.length k10440]) ag39 H12189.cs rfl rfl rfl rfl rfl ⟨rfl, Ext.refl _⟩) ?_
          refine QT.late (v := .slice A2 a1.length k3) rfl rfl rfl rfl (fun w' hJ => by obtain ⟨hB, H12219, bs33, H12188, H12189⟩ := hJ; exact D.mv (v := .slice A2 a1.length k3) rfl rfl ⟨rfl, Ext.refl _⟩) ?_
          refine QT.late (v := .int .i64 x10445) rfl rfl rfl rfl (fun w' hJ => by obtain ⟨hB, H12219, bs33, H12188, H12189⟩ := hJ; exact D.mv (v := .int .i64 x10445) rfl rfl ⟨rfl, Ext.refl _⟩) ?_
          have p12447 : 0 ≤ x10445 := c11521
          have p12448 : x10445 < (a1.length : Int) := c11522
          obtain ⟨b12441, o12442, o12443, hA12444, ho12445⟩ := Row.at2 (H4.below hB) (rd_get p12447 p12448)
          refine QT.late (v := pt b12441 o12443) rfl rfl rfl rfl (fun w' hJ => by obtain ⟨hB, H12219, bs33, H12188, H12189⟩ := hJ; exact D.indexRq (i := x10445) Try.underlying33 sz25 hA12444 ho12445 rfl rfl p12447 p12448 rfl ⟨rfl, Ext.refl _⟩) ?_
          refine QT.late (v := .agg #[S ((rd a1 x10445).name), .int .u16 ((rd a1 x10445).ty), .int .u16 ((rd a1 x10445).cls), .int .u32 ((rd a1 x10445).ttl), S ((rd a1 x10445).data)]) rfl rfl rfl rfl (fun w' hJ => by obtain ⟨hB, H12219, bs33, H12188, H12189⟩ := hJ; exact D.loadA (j := 0) (us := [S ((rd a1 x10445).name), .int .u16 ((rd a1 x10445).ty), .int .u16 ((rd a1 x10445).cls), .int .u32 ((rd a1 x10445).ttl), S ((rd a1 x10445).data)]) ag25 (Row.cs_of (H4.below hB) hA12444 ho12445 (rd_get p12447 p12448)) rfl rfl rfl rfl rfl ⟨rfl, Ext.refl _⟩) ?_
          obtain ⟨r12453, q12454, h⟩ := lt_elim h
          refine QT.late (v := .agg #[S r12453.name, .int .u16 r12453.ty, .int .u16 r12453.cls]) rfl rfl rfl rfl (fun w' hJ => by obtain ⟨hB, H12219, bs33, H12188, H12189⟩ := hJ; have hc := record_Key.ok (rd a1 x10445) w'; rw [q12454] at hc; refine D.call (vs := [.agg #[S ((rd a1 x10445).name), .int .u16 ((rd a1 x10445).ty), .int .u16 ((rd a1 x10445).cls), .int .u32 ((rd a1 x10445).ttl), S ((rd a1 x10445).data)]]) cf10 hc rfl rfl ?_; rintro _ w2 ⟨rfl, e2⟩; exact ⟨rfl, e2⟩) ?_
          refine QT.eff rfl rfl (fun w12455 hC => ?_) ?_
          ·obtain ⟨hB, H12219, bs33, H12188, H12189⟩ := hC
           rcases (Classical.em (derrickref05_PutQ.pre (⟨x10438, l10441⟩ : RPack) r12453)).symm with c12456 | c12456
           ·rw [if_neg c12456] at h; cases h
           rw [if_pos c12456] at h
           obtain ⟨r12460, q12461, h⟩ := lt_elim h
           have hc12459 := derrickref05_PutQ.ok (⟨x10438, l10441⟩ : RPack) r12453 A10439 k10440 w12455 H12188 c12456 
           rw [q12461] at hc12459
           clear q12461
           refine D.call (vs := [.agg #[S x10438, .slice A10439 l10441.length k10440], .agg #[S r12453.name, .int .u16 r12453.ty, .int .u16 r12453.cls]]) cf14 hc12459 rfl rfl ?_
           rintro _ w12457 ⟨A12462, k12463, rfl, H12464, g12465, e12458⟩
           clear hc12459
           have og12466 : (∀ y, MR A12462 r12460.1.l y → w.heap.size ≤ y ∨ MR A2 a1 y ∨ MR A7 a6 y) := fun y hy => (g12465 y hy).elim (fun h => .inl (Nat.le_trans hB.size h)) (fun h => hg10443 y h)
           have nf12466_33 : ∀ x y, MR A12462 r12460.1.l x → M12221 y → x ≠ y := fun x y hx hy => (g12465 x hx).elim (fun h e => Nat.lt_irrefl _ (Nat.lt_of_lt_of_le ((lt_le H12219.lt (Nat.le_refl _)) y hy) (e ▸ h))) (fun h => ps10443_33 x y h hy)
           have nf12466_42 : ∀ x y, MR A12462 r12460.1.l x → MB b37 y → x ≠ y := fun x y hx hy => (g12465 x hx).elim (fun h e => Nat.lt_irrefl _ (Nat.lt_of_lt_of_le ((MB.lt H12189 (Nat.le_refl _)) y hy) (e ▸ h))) (fun h => ps10443_42 x y h hy)
           replace hB := below_ext hB e12458
           replace H12219 := H12219.ext e12458
           replace bs33 := Nat.le_trans bs33 (World.grownBy.size e12458)
           replace H12188 := H12188.ext e12458
           replace H12189 := H12189.ext e12458
           clear e12458
           refine ⟨_, rfl, (fun w' => Below w.heap.size w w' ∧ okPack.is w' M12221 b30 r12216.2 ∧ w17.heap.size ≤ w'.heap.size ∧ Row ePlace w' A10439 k10440 l10441 ∧ Blk w' b37 [S x10438, .slice A10439 l10441.length k10440] 39 ∧ Row ePlace w' A12462 k12463 r12460.1.l), ⟨hB, H12219, bs33, H12188, H12189, H12464⟩, (fun a b hC hx => by obtain ⟨hB, H12219, bs33, H12188, H12189, H12464⟩ := hC; exact ⟨below_ext hB hx, H12219.ext hx, Nat.le_trans bs33 (World.grownBy.size hx), H12188.ext hx, H12189.ext hx, H12464.ext hx⟩), (fun a hC => by obtain ⟨hB, H12219, bs33, H12188, H12189, H12464⟩ := hC; exact ⟨hB, H12219, bs33, H12188, H12189⟩), ?_⟩
           refine QT.late (v := .tuple #[.agg #[S r12460.1.s, .slice A12462 r12460.1.l.length k12463], .int .i64 r12460.2]) rfl rfl rfl rfl (fun w' hJ => by obtain ⟨hB, H12219, bs33, H12188, H12189⟩ := hJ; exact D.mv (v := .tuple #[.agg #[S r12460.1.s, .slice A12462 r12460.1.l.length k12463], .int .i64 r12460.2]) rfl rfl ⟨rfl, Ext.refl _⟩) ?_
           refine QT.late (v := .agg #[S r12460.1.s, .slice A12462 r12460.1.l.length k12463]) rfl rfl rfl rfl (fun w' hJ => by obtain ⟨hB, H12219, bs33, H12188, H12189⟩ := hJ; exact D.extract (v := .agg #[S r12460.1.s, .slice A12462 r12460.1.l.length k12463]) rfl rfl rfl ⟨rfl, Ext.refl _⟩) ?_
           refine QT.late (v := .int .i64 r12460.2) rfl rfl rfl rfl (fun w' hJ => by obtain ⟨hB, H12219, bs33, H12188, H12189⟩ := hJ; exact D.extract (v := .int .i64 r12460.2) rfl rfl rfl ⟨rfl, Ext.refl _⟩) ?_
           refine QT.eff rfl rfl (fun w12467 hC => ?_) QT.nomore
           obtain ⟨hB, H12219, bs33, H12188, H12189, H12464⟩ := hC
           refine D.alloc ti39 (cs := [S [], .slice none 0 0]) rfl rfl ?_
           intro b12468 w12469 hb12470 H12471 e12472 _
           have ne_33_12473 : ∀ x y, M12221 x → MB b12468 y → x ≠ y := ne_of (lt_le H12219.lt (Nat.le_of_eq hb12470.symm)) (MB.ge b12468)
           have lt_10443_12473 : ∀ x, MR A10439 l10441 x → x < b12468 := (MR.lt H12188 (Nat.le_of_eq hb12470.symm))
           have lt_42_12473 : ∀ x, MB b37 x → x < b12468 := (MB.lt H12189 (Nat.le_of_eq hb12470.symm))
           have lt_12466_12473 : ∀ x, MR A12462 r12460.1.l x → x < b12468 := (MR.lt H12464 (Nat.le_of_eq hb12470.symm))
           have g12473 : w.heap.size ≤ b12468 := Nat.le_trans hB.size (Nat.le_of_eq hb12470.symm)
           clear hb12470
           replace hB := below_ext hB e12472
           replace H12219 := H12219.ext e12472
           replace bs33 := Nat.le_trans bs33 (World.grownBy.size e12472)
           replace H12188 := H12188.ext e12472
           replace H12189 := H12189.ext e12472
           replace H12464 := H12464.ext e12472
           clear e12472
           refine ⟨_, rfl, (fun w' => Below w.heap.size w w' ∧ okPack.is w' M12221 b30 r12216.2 ∧ w17.heap.size ≤ w'.heap.size ∧ Row ePlace w' A10439 k10440 l10441 ∧ Blk w' b37 [S x10438, .slice A10439 l10441.length k10440] 39 ∧ Row ePlace w' A12462 k12463 r12460.1.l ∧ Blk w' b12468 [S [], .slice none 0 0] 39), ⟨hB, H12219, bs33, H12188, H12189, H12464, H12471⟩, (fun a b hC hx => by obtain ⟨hB, H12219, bs33, H12188, H12189, H12464, H12471⟩ := hC; exact ⟨below_ext hB hx, H12219.ext hx, Nat.le_trans bs33 (World.grownBy.size hx), H12188.ext hx, H12189.ext hx, H12464.ext hx, H12471.ext hx⟩), (fun a hC => by obtain ⟨hB, H12219, bs33, H12188, H12189, H12464, H12471⟩ := hC; exact ⟨hB, H12219, bs33, H12188, H12189⟩), ?_⟩
           refine QT.eff rfl rfl (fun w12474 hC => ?_) QT.nomore
           obtain ⟨hB, H12219, bs33, H12188, H12189, H12464, H12471⟩ := hC
           refine D.store (v := .agg #[S r12460.1.s, .slice A12462 r12460.1.l.length k12463]) (us := [S r12460.1.s, .slice A12462 r12460.1.l.length k12463]) sz39 H12471 rfl rfl rfl rfl rfl rfl ?_
           intro w12475 H12476 e12477
           replace hB := below_blk hB e12477 g12473
           replace H12219 := H12219.gr e12477 (sepB ne_33_12473)
           replace bs33 := Nat.le_trans bs33 (World.grownBy.size e12477)
           replace H12188 := H12188.gr e12477 (sepB (ne_of lt_10443_12473 (MB.ge b12468)))
           replace H12189 := H12189.gr e12477 (sepB (ne_of lt_42_12473 (MB.ge b12468)))
           replace H12464 := H12464.gr e12477 (sepB (ne_of lt_12466_12473 (MB.ge b12468)))
           clear e12477
           refine ⟨undef, rfl, (fun w' => Below w.heap.size w w' ∧ okPack.is w' M12221 b30 r12216.2 ∧ w17.heap.size ≤ w'.heap.size ∧ Row ePlace w' A10439 k10440 l10441 ∧ Blk w' b37 [S x10438, .slice A10439 l10441.length k10440] 39 ∧ Row ePlace w' A12462 k12463 r12460.1.l ∧ Blk w' b12468 [S r12460.1.s, .slice A12462 r12460.1.l.length k12463] 39), ⟨hB, H12219, bs33, H12188, H12189, H12464, H12476⟩, (fun a b hC hx => by obtain ⟨hB, H12219, bs33, H12188, H12189, H12464, H12476⟩ := hC; exact ⟨below_ext hB hx, H12219.ext hx, Nat.le_trans bs33 (World.grownBy.size hx), H12188.ext hx, H12189.ext hx, H12464.ext hx, H12476.ext hx⟩), (fun a hC => by obtain ⟨hB, H12219, bs33, H12188, H12189, H12464, H12476⟩ := hC; exact ⟨hB, H12219, bs33, H12188, H12189⟩), ?_⟩
           refine QT.do (v := .int .i64 r12460.2) rfl (by decide +kernel) rfl rfl rfl (fun w' hJ => by obtain ⟨hB, H12219, bs33, H12188, H12189, H12464, H12476⟩ := hJ; exact D.asn (v := .int .i64 r12460.2) rfl rfl ⟨rfl, Ext.refl _⟩) ?_
           refine QT.nil fun w12478 hC => ?_
           obtain ⟨hB, H12219, bs33, H12188, H12189, H12464, H12476⟩ := hC
           exact ⟨b12468, r12460.1.s, A12462, k12463, r12460.1.l, r12460.2, rfl, rfl, rfl, rfl, rfl, rfl, rfl, rfl, rfl, hB, H12219, bs33, H12188, H12189, H12464, (fun y hy => og12466 y hy), H12476, g12473, pr33_42, ne_33_12473, lt_10443_12473, lt_42_12473, ps10443_33, ps10443_42, nf12466_33, nf12466_42, (ne_of lt_12466_12473 (MB.ge b12468)), h⟩
          refine QT.eff rfl rfl (fun w12479 hC => ?_) ?_
          ·obtain ⟨hB, H12219, bs33, H12188, H12189⟩ := hC
           refine D.alloc ti39 (cs := [S [], .slice none 0 0]) rfl rfl ?_
           intro b12480 w12481 hb12482 H12483 e12484 _
           have ne_33_12485 : ∀ x y, M12221 x → MB b12480 y → x ≠ y := ne_of (lt_le H12219.lt (Nat.le_of_eq hb12482.symm)) (MB.ge b12480)
           have lt_10443_12485 : ∀ x, MR A10439 l10441 x → x < b12480 := (MR.lt H12188 (Nat.le_of_eq hb12482.symm))
           have lt_42_12485 : ∀ x, MB b37 x → x < b12480 := (MB.lt H12189 (Nat.le_of_eq hb12482.symm))
           have g12485 : w.heap.size ≤ b12480 := Nat.le_trans hB.size (Nat.le_of_eq hb12482.symm)
           clear hb12482
           replace hB := below_ext hB e12484
           replace H12219 := H12219.ext e12484
           replace bs33 := Nat.le_trans bs33 (World.grownBy.size e12484)
           replace H12188 := H12188.ext e12484
           replace H12189 := H12189.ext e12484
           clear e12484
           refine ⟨_, rfl, (fun w' => Below w.heap.size w w' ∧ okPack.is w' M12221 b30 r12216.2 ∧ w17.heap.size ≤ w'.heap.size ∧ Row ePlace w' A10439 k10440 l10441 ∧ Blk w' b37 [S x10438, .slice A10439 l10441.length k10440] 39 ∧ Blk w' b12480 [S [], .slice none 0 0] 39), ⟨hB, H12219, bs33, H12188, H12189, H12483⟩, (fun a b hC hx => by obtain ⟨hB, H12219, bs33, H12188, H12189, H12483⟩ := hC; exact ⟨below_ext hB hx, H12219.ext hx, Nat.le_trans bs33 (World.grownBy.size hx), H12188.ext hx, H12189.ext hx, H12483.ext hx⟩), (fun a hC => by obtain ⟨hB, H12219, bs33, H12188, H12189, H12483⟩ := hC; exact ⟨hB, H12219, bs33, H12188, H12189⟩), ?_⟩
           refine QT.eff rfl rfl (fun w12486 hC => ?_) QT.nomore
           obtain ⟨hB, H12219, bs33, H12188, H12189, H12483⟩ := hC
           rcases (Classical.em (derrickref05_PutQ.pre (⟨x10438, l10441⟩ : RPack) r12453)).symm with c12487 | c12487
           ·rw [if_neg c12487] at h; cases h
           rw [if_pos c12487] at h
           obtain ⟨r12491, q12492, h⟩ := lt_elim h
           have hc12490 := derrickref05_PutQ.ok (⟨x10438, l10441⟩ : RPack) r12453 A10439 k10440 w12486 H12188 c12487 
           rw [q12492] at hc12490
           clear q12492
           refine D.call (vs := [.agg #[S x10438, .slice A10439 l10441.length k10440], .agg #[S r12453.name, .int .u16 r12453.ty, .int .u16 r12453.cls]]) cf14 hc12490 rfl rfl ?_
           rintro _ w12488 ⟨A12493, k12494, rfl, H12495, g12496, e12489⟩
           clear hc12490
           have og12497 : (∀ y, MR A12493 r12491.1.l y → w.heap.size ≤ y ∨ MR A2 a1 y ∨ MR A7 a6 y) := fun y hy => (g12496 y hy).elim (fun h => .inl (Nat.le_trans hB.size h)) (fun h => hg10443 y h)
           have nf12497_33 : ∀ x y, MR A12493 r12491.1.l x → M12221 y → x ≠ y := fun x y hx hy => (g12496 x hx).elim (fun h e => Nat.lt_irrefl _ (Nat.lt_of_lt_of_le ((lt_le H12219.lt (Nat.le_refl _)) y hy) (e ▸ h))) (fun h => ps10443_33 x y h hy)
           have nf12497_42 : ∀ x y, MR A12493 r12491.1.l x → MB b37 y → x ≠ y := fun x y hx hy => (g12496 x hx).elim (fun h e => Nat.lt_irrefl _ (Nat.lt_of_lt_of_le ((MB.lt H12189 (Nat.le_refl _)) y hy) (e ▸ h))) (fun h => ps10443_42 x y h hy)
           have nf12497_12485 : ∀ x y, MR A12493 r12491.1.l x → MB b12480 y → x ≠ y := fun x y hx hy => (g12496 x hx).elim (fun h e => Nat.lt_irrefl _ (Nat.lt_of_lt_of_le ((MB.lt H12483 (Nat.le_refl _)) y hy) (e ▸ h))) (fun h => (ne_of lt_10443_12485 (MB.ge b12480)) x y h hy)
           replace hB := below_ext hB e12489
           replace H12219 := H12219.ext e12489
           replace bs33 := Nat.le_trans bs33 (World.grownBy.size e12489)
           replace H12188 := H12188.ext e12489
           replace H12189 := H12189.ext e12489
           replace H12483 := H12483.ext e12489
           clear e12489
           refine ⟨_, rfl, (fun w' => Below w.heap.size w w' ∧ okPack.is w' M12221 b30 r12216.2 ∧ w17.heap.size ≤ w'.heap.size ∧ Row ePlace w' A10439 k10440 l10441 ∧ Blk w' b37 [S x10438, .slice A10439 l10441.length k10440] 39 ∧ Blk w' b12480 [S [], .slice none 0 0] 39 ∧ Row ePlace w' A12493 k12494 r12491.1.l), ⟨hB, H12219, bs33, H12188, H12189, H12483, H12495⟩, (fun a b hC hx => by obtain ⟨hB, H12219, bs33, H12188, H12189, H12483, H12495⟩ := hC; exact ⟨below_ext hB hx, H12219.ext hx, Nat.le_trans bs33 (World.grownBy.size hx), H12188.ext hx, H12189.ext hx, H12483.ext hx, H12495.ext hx⟩), (fun a hC => by obtain ⟨hB, H12219, bs33, H12188, H12189, H12483, H12495⟩ := hC; exact ⟨hB, H12219, bs33, H12188, H12189⟩), ?_⟩
           refine QT.do (v := .tuple #[.agg #[S r12491.1.s, .slice A12493 r12491.1.l.length k12494], .int .i64 r12491.2]) rfl (by decide +kernel) rfl rfl rfl (fun w' hJ => by obtain ⟨hB, H12219, bs33, H12188, H12189, H12483, H12495⟩ := hJ; exact D.mv (v := .tuple #[.agg #[S r12491.1.s, .slice A12493 r12491.1.l.length k12494], .int .i64 r12491.2]) rfl rfl ⟨rfl, Ext.refl _⟩) ?_
           refine QT.do (v := .agg #[S r12491.1.s, .slice A12493 r12491.1.l.length k12494]) rfl (by decide +kernel) rfl rfl rfl (fun w' hJ => by obtain ⟨hB, H12219, bs33, H12188, H12189, H12483, H12495⟩ := hJ; exact D.extract (v := .agg #[S r12491.1.s, .slice A12493 r12491.1.l.length k12494]) rfl rfl rfl ⟨rfl, Ext.refl _⟩) ?_
           refine QT.late (v := .int .i64 r12491.2) rfl rfl rfl rfl (fun w' hJ => by obtain ⟨hB, H12219, bs33, H12188, H12189⟩ := hJ; exact D.extract (v := .int .i64 r12491.2) rfl rfl rfl ⟨rfl, Ext.refl _⟩) ?_
           refine QT.eff rfl rfl (fun w12498 hC => ?_) QT.nomore
           obtain ⟨hB, H12219, bs33, H12188, H12189, H12483, H12495⟩ := hC
           refine D.store (v := .agg #[S r12491.1.s, .slice A12493 r12491.1.l.length k12494]) (us := [S r12491.1.s, .slice A12493 r12491.1.l.length k12494]) sz39 H12483 rfl rfl rfl rfl rfl rfl ?_
           intro w12499 H12500 e12501
           replace hB := below_blk hB e12501 g12485
           replace H12219 := H12219.gr e12501 (sepB ne_33_12485)
           replace bs33 := Nat.le_trans bs33 (World.grownBy.size e12501)
           replace H12188 := H12188.gr e12501 (sepB (ne_of lt_10443_12485 (MB.ge b12480)))
           replace H12189 := H12189.gr e12501 (sepB (ne_of lt_42_12485 (MB.ge b12480)))
           replace H12495 := H12495.gr e12501 (sepB nf12497_12485)
           clear e12501
           refine ⟨undef, rfl, (fun w' => Below w.heap.size w w' ∧ okPack.is w' M12221 b30 r12216.2 ∧ w17.heap.size ≤ w'.heap.size ∧ Row ePlace w' A10439 k10440 l10441 ∧ Blk w' b37 [S x10438, .slice A10439 l10441.length k10440] 39 ∧ Blk w' b12480 [S r12491.1.s, .slice A12493 r12491.1.l.length k12494] 39 ∧ Row ePlace w' A12493 k12494 r12491.1.l), ⟨hB, H12219, bs33, H12188, H12189, H12500, H12495⟩, (fun a b hC hx => by obtain ⟨hB, H12219, bs33, H12188, H12189, H12500, H12495⟩ := hC; exact ⟨below_ext hB hx, H12219.ext hx, Nat.le_trans bs33 (World.grownBy.size hx), H12188.ext hx, H12189.ext hx, H12500.ext hx, H12495.ext hx⟩), (fun a hC => by obtain ⟨hB, H12219, bs33, H12188, H12189, H12500, H12495⟩ := hC; exact ⟨hB, H12219, bs33, H12188, H12189⟩), ?_⟩
           refine QT.do (v := .int .i64 r12491.2) rfl (by decide +kernel) rfl rfl rfl (fun w' hJ => by obtain ⟨hB, H12219, bs33, H12188, H12189, H12500, H12495⟩ := hJ; exact D.asn (v := .int .i64 r12491.2) rfl rfl ⟨rfl, Ext.refl _⟩) ?_
           refine QT.nil fun w12502 hC => ?_
           obtain ⟨hB, H12219, bs33, H12188, H12189, H12500, H12495⟩ := hC
           exact ⟨b12480, r12491.1.s, A12493, k12494, r12491.1.l, r12491.2, rfl, rfl, rfl, rfl, rfl, rfl, rfl, rfl, rfl, hB, H12219, bs33, H12188, H12189, H12495, (fun y hy => og12497 y hy), H12500, g12485, pr33_42, ne_33_12485, lt_10443_12485, lt_42_12485, ps10443_33, ps10443_42, nf12497_33, nf12497_42, nf12497_12485, h⟩
          exact QT.nomore
         ·intro f12361 w12360 hI
          obtain ⟨b12350, x12351, A12352, k12353, l12354, x12359, s12362, s12363, s12364, s12365, s12366, s12367, s12368, s12369, s12370, hB, H12347, bs33, H12348, H12349, H12355, hg12356, H12357, hg12358, pr33_42, pr33_12358, pr10443_12358, pr42_12358, ps10443_33, ps10443_42, ps12356_33, ps12356_42, ps12356_12358, h⟩ := hI
          refine X.fr (d := 0) s12362 ?_
          refine X.fr (d := 1) s12363 ?_
          refine X.fr (d := 5) s12364 ?_
          refine X.fr (d := 6) s12365 ?_
          refine X.fr (d := 7) s12366 ?_
          refine X.fr (d := 8) s12367 ?_
          refine X.fr (d := 9) s12368 ?_
          refine X.fr (d := 10) s12369 ?_
          refine X.fr (d := 11) s12370 ?_
          unfold derricklaw05_RecordPuts.j7 at h
          refine X.seq fun M12371 hM12372 => ?_
          refine X.region ?_
          refine XO.do rfl (D.loadA (j := 0) (us := [S x12351, .slice A12352 l12354.length k12353]) ag39 H12357.cs rfl rfl rfl rfl rfl ?_)
          refine XO.do rfl (D.store (v := .agg #[S x12351, .slice A12352 l12354.length k12353]) (us := [S x12351, .slice A12352 l12354.length k12353]) sz39 H12349 rfl rfl rfl rfl rfl rfl ?_)
          intro w12373 H12374 e12375
          replace hB := below_blk hB e12375 g42
          replace H12347 := H12347.gr e12375 (sepB pr33_42)
          replace bs33 := Nat.le_trans bs33 (World.grownBy.size e12375)
          replace H12348 := H12348.gr e12375 (sepB ps10443_42)
          replace H12355 := H12355.gr e12375 (sepB ps12356_42)
          replace H12357 := H12357.gr e12375 (sepB (ne_flip (ne_of pr42_12358 (MB.ge b12350))))
          clear e12375
          refine XO.nil ?_
          refine hM12372 _ _ ?_
          refine X.seq fun M12376 hM12377 => ?_
          refine X.region ?_
          refine XO.do rfl (D.mv (v := .int .i64 r12216.1) rfl rfl ?_)
          refine XO.do rfl (D.mv (v := .int .i64 x12359) rfl rfl ?_)
          refine XO.do rfl (D.neq rfl rfl rfl ?_)
          refine XO.nil ?_
          refine hM12377 _ _ ?_
          by_cases c12378 : r12216.1 = x12359
          ·rw [if_pos c12378] at h
           refine X.condF (congrArg Value.bool ((congrArg (!·) (beq_iff_eq.2 c12378)))) ?_
           refine X.skip ?_
           exact ⟨M12221, r12216.2, x12351, A12352, k12353, l12354, rfl, rfl, rfl, rfl, rfl, rfl, hB, H12347, v12223, hh33, bs33, H12355, (fun y hy => hg12356 y hy), H12374, pr33_42, ps12356_33, ps12356_42, h⟩
          ·rw [if_neg c12378] at h
           refine X.condT (congrArg Value.bool ((congrArg (!·) (beq_eq_false_iff_ne.2 c12378)))) ?_
           refine X.seq fun M12379 hM12380 => ?_
           refine X.region ?_
           refine XO.do rfl (D.asn (v := .bool false) rfl rfl ?_)
           refine XO.nil ?_
           refine hM12380 _ _ ?_
           refine X.ret ?_
           injection h with h
           subst h
           exact hR _ _ _ (ret1 (v := .bool false) rfl rfl) ⟨rfl, ext_of_below hB⟩
        ·rw [if_neg c12200] at h
         refine X.condF (congrArg Value.bool ((Bool.eq_false_iff.2 c12200))) ?_
         refine X.skip ?_
         exact ⟨M10436, x10437, x10438, A10439, k10440, l10441, rfl, rfl, rfl, rfl, rfl, rfl, hB, H12187, hg33, hh33, bs33, H12188, (fun y hy => hg10443 y hy), H12189, pr33_42, ps10443_33, ps10443_42, h⟩
      ·intro f11870 w11869 hI
       obtain ⟨M11860, x11861, x11862, A11863, k11864, l11865, s11871, s11872, s11873, s11874, s11875, s11876, hB, H11859, hg33, hh33, bs33, H11866, hg11867, H11868, pr33_42, ps11867_33, ps11867_42, h⟩ := hI
       refine X.fr (d := 0) s11871 ?_
       refine X.fr (d := 1) s11872 ?_
       refine X.fr (d := 5) s11873 ?_
       refine X.fr (d := 6) s11874 ?_
       refine X.fr (d := 7) s11875 ?_
       refine X.fr (d := 8) s11876 ?_
       unfold derricklaw05_RecordPuts.j3 at h
       refine X.seq fun M11878 hM11879 => ?_
       refine X.region ?_
       refine XO.do rfl (D.mv (v := pt b30 0) rfl rfl ?_)
       refine XO.do rfl (D.mv (v := .slice A2 a1.length k3) rfl rfl ?_)
       refine XO.do rfl (D.mv (v := .int .i64 x10445) rfl rfl ?_)
       refine XO.do rfl (D.indexR (i := x10445) Try.underlying33 sz25 (H4.below hB) rfl rfl c11521 c11522 rfl ?_)
       intro b11880 o11881 _ H11882
       refine XO.do rfl (D.loadA (j := 0) (us := [S ((rd a1 x10445).name), .int .u16 ((rd a1 x10445).ty), .int .u16 ((rd a1 x10445).cls), .int .u32 ((rd a1 x10445).ttl), S ((rd a1 x10445).data)]) ag25 H11882 rfl rfl rfl rfl rfl ?_)
       rcases (Classical.em (record_Put.pre x11861 (rd a1 x10445))).symm with c11884 | c11884
       ·rw [if_neg c11884] at h; cases h
       rw [if_pos c11884] at h
       obtain ⟨r11888, q11889, h⟩ := lt_elim h
       have hc11887 := record_Put.ok x11861 (rd a1 x10445) M11860 b30 w11869 H11859 c11884 
       rw [q11889] at hc11887
       clear q11889
       refine XO.do rfl (D.call (vs := [pt b30 0, .agg #[S ((rd a1 x10445).name), .int .u16 ((rd a1 x10445).ty), .int .u16 ((rd a1 x10445).cls), .int .u32 ((rd a1 x10445).ttl), S ((rd a1 x10445).data)]]) cf15 hc11887 rfl rfl ?_)
       rintro _ w11890 ⟨M11893, rfl, H11891, u11894, e11892⟩
       clear hc11887
       have pr33_42n := ne_sub u11894 pr33_42 (MB.lt H11868 (Nat.le_refl _))
       have ps11867_33n := ne_flip (ne_sub u11894 (ne_flip ps11867_33) (MR.lt H11866 (Nat.le_refl _)))
       have hh33n := ge_sub u11894 hh33 bs33
       have v11877n := ge_sub u11894 hg33 hB.size
       replace hB := below_gm hB e11892 hg33
       replace H11866 := H11866.gm e11892 (sepM ps11867_33)
       replace H11868 := H11868.gm e11892 (sepM (ne_flip pr33_42))
       replace pr33_42 := pr33_42n
       replace ps11867_33 := ps11867_33n
       replace hh33 := hh33n
       replace bs33 := Nat.le_trans bs33 e11892.size
       clear e11892 u11894 H11859
       have v11895 := v11877n
       clear v11877n
       refine XO.do rfl (D.asn (v := .int .i64 r11888.1) rfl rfl ?_)
       refine XO.nil ?_
       refine hM11879 _ _ ?_
       refine X.cut (fun f12023 w12022 => ∃ b12012 : Nat, ∃ x12013 : Str, ∃ A12014 : Option Addr, ∃ k12015 : Nat, ∃ l12016 : List Place, ∃ x12021 : Int, f12023 0 = .slice A2 a1.length k3 ∧ f12023 1 = .slice A7 a6.length k8 ∧ f12023 5 = .bool r20 ∧ f12023 6 = pt b30 0 ∧ f12023 7 = pt b37 0 ∧ f12023 8 = .int .i64 x10445 ∧ f12023 12 = .int .i64 r11888.1 ∧ f12023 13 = pt b12012 0 ∧ f12023 14 = .int .i64 x12021 ∧ Below w.heap.size w w12022 ∧ okPack.is w12022 M11893 b30 r11888.2 ∧ w17.heap.size ≤ w12022.heap.size ∧ Row ePlace w12022 A11863 k11864 l11865 ∧ Blk w12022 b37 [S x11862, .slice A11863 l11865.length k11864] 39 ∧ Row ePlace w12022 A12014 k12015 l12016 ∧ (∀ y, MR A12014 l12016 y → w.heap.size ≤ y ∨ MR A2 a1 y ∨ MR A7 a6 y) ∧ Blk w12022 b12012 [S x12013, .slice A12014 l12016.length k12015] 39 ∧ w.heap.size ≤ b12012 ∧ (∀ x y, M11893 x → MB b37 y → x ≠ y) ∧ (∀ x y, M11893 x → MB b12012 y → x ≠ y) ∧ (∀ x, MR A11863 l11865 x → x < b12012) ∧ (∀ x, MB b37 x → x < b12012) ∧ (∀ x y, MR A11863 l11865 x → M11893 y → x ≠ y) ∧ (∀ x y, MR A11863 l11865 x → MB b37 y → x ≠ y) ∧ (∀ x y, MR A12014 l12016 x → M11893 y → x ≠ y) ∧ (∀ x y, MR A12014 l12016 x → MB b37 y → x ≠ y) ∧ (∀ x y, MR A12014 l12016 x → MB b12012 y → x ≠ y) ∧ derricklaw05_RecordPuts.j4 r11888 (derricklaw05_RecordPuts.l1 a1 a6 r20 kf10434) x10445 x12013 l12016 x12021 = some res) ?_ ?_
       ·refine X.tree mixed0 [0, 0, 0, 6, 14, 31, 63, 127, 127, 0, 767, 2047] (.q 0 (.q 1 (.q 2 (.q 3 (.q 4 (.alt 5 (.q 6 (.q 7 (.q 8 (.alt 9 (.alt 10 (.q 11 .nil) .nil) .nil)))) (.alt 9 (.alt 5 (.q 6 (.q 7 (.q 8 (.alt 10 (.q 11 .nil) .nil)))) .nil) .nil))))))) (fun w' => Below w.heap.size w w' ∧ okPack.is w' M11893 b30 r11888.2 ∧ w17.heap.size ≤ w'.heap.size ∧ Row ePlace w' A11863 k11864 l11865 ∧ Blk w' b37 [S x11862, .slice A11863 l11865.length k11864] 39) (fun w' => Below w.heap.size w w' ∧ okPack.is w' M11893 b30 r11888.2 ∧ w17.heap.size ≤ w'.heap.size ∧ Row ePlace w' A11863 k11864 l11865 ∧ Blk w' b37 [S x11862, .slice A11863 l11865.length k11864] 39) (by decide +kernel) (fun w' hx _ => ⟨below_ext hB hx, H11891.ext hx, Nat.le_trans bs33 (World.grownBy.size hx), H11866.ext hx, H11868.ext hx⟩) (fun a b hC hx => by obtain ⟨hB, H11891, bs33, H11866, H11868⟩ := hC; exact ⟨below_ext hB hx, H11891.ext hx, Nat.le_trans bs33 (World.grownBy.size hx), H11866.ext hx, H11868.ext hx⟩) (fun a hC => by obtain ⟨hB, H11891, bs33, H11866, H11868⟩ := hC; exact ⟨hB, H11891, bs33, H11866, H11868⟩) ?_
        refine QT.late (v := .agg #[S x11862, .slice A11863 l11865.length k11864]) rfl rfl rfl rfl (fun w' hJ => by obtain ⟨hB, H11891, bs33, H11866, H11868⟩ := hJ; exact D.loadA (j := 0) (us := [S x11862, .slice A11863 l11865.length k11864]) ag39 H11868.cs rfl rfl rfl rfl rfl ⟨rfl, Ext.refl _⟩) ?_
        refine QT.late (v := .slice A2 a1.length k3) rfl rfl rfl rfl (fun w' hJ => by obtain ⟨hB, H11891, bs33, H11866, H11868⟩ := hJ; exact D.mv (v := .slice A2 a1.length k3) rfl rfl ⟨rfl, Ext.refl _⟩) ?_
        refine QT.late (v := .int .i64 x10445) rfl rfl rfl rfl (fun w' hJ => by obtain ⟨hB, H11891, bs33, H11866, H11868⟩ := hJ; exact D.mv (v := .int .i64 x10445) rfl rfl ⟨rfl, Ext.refl _⟩) ?_
        have p12131 : 0 ≤ x10445 := c11521
        have p12132 : x10445 < (a1.length : Int) := c11522
        obtain ⟨b12125, o12126, o12127, hA12128, ho12129⟩ := Row.at2 (H4.below hB) (rd_get p12131 p12132)
        refine QT.late (v := pt b12125 o12127) rfl rfl rfl rfl (fun w' hJ => by obtain ⟨hB, H11891, bs33, H11866, H11868⟩ := hJ; exact D.indexRq (i := x10445) Try.underlying33 sz25 hA12128 ho12129 rfl rfl p12131 p12132 rfl ⟨rfl, Ext.refl _⟩) ?_
        refine QT.late (v := .agg #[S ((rd a1 x10445).name), .int .u16 ((rd a1 x10445).ty), .int .u16 ((rd a1 x10445).cls), .int .u32 ((rd a1 x10445).ttl), S ((rd a1 x10445).data)]) rfl rfl rfl rfl (fun w' hJ => by obtain ⟨hB, H11891, bs33, H11866, H11868⟩ := hJ; exact D.loadA (j := 0) (us := [S ((rd a1 x10445).name), .int .u16 ((rd a1 x10445).ty), .int .u16 ((rd a1 x10445).cls), .int .u32 ((rd a1 x10445).ttl), S ((rd a1 x10445).data)]) ag25 (Row.cs_of (H4.below hB) hA12128 ho12129 (rd_get p12131 p12132)) rfl rfl rfl rfl rfl ⟨rfl, Ext.refl _⟩) ?_
        refine QT.eff rfl rfl (fun w12134 hC => ?_) ?_
        ·obtain ⟨hB, H11891, bs33, H11866, H11868⟩ := hC
         rcases (Classical.em (derrickref05_Put.pre (⟨x11862, l11865⟩ : RPack) (rd a1 x10445))).symm with c12135 | c12135
         ·rw [if_neg c12135] at h; cases h
         rw [if_pos c12135] at h
         obtain ⟨r12139, q12140, h⟩ := lt_elim h
         have hc12138 := derrickref05_Put.ok (⟨x11862, l11865⟩ : RPack) (rd a1 x10445) A11863 k11864 w12134 H11866 c12135 
         rw [q12140] at hc12138
         clear q12140
         refine D.call (vs := [.agg #[S x11862, .slice A11863 l11865.length k11864], .agg #[S ((rd a1 x10445).name), .int .u16 ((rd a1 x10445).ty), .int .u16 ((rd a1 x10445).cls), .int .u32 ((rd a1 x10445).ttl), S ((rd a1 x10445).data)]]) cf16 hc12138 rfl rfl ?_
         rintro _ w12136 ⟨A12141, k12142, rfl, H12143, g12144, e12137⟩
         clear hc12138
         have og12145 : (∀ y, MR A12141 r12139.1.l y → w.heap.size ≤ y ∨ MR A2 a1 y ∨ MR A7 a6 y) := fun y hy => (g12144 y hy).elim (fun h => .inl (Nat.le_trans hB.size h)) (fun h => hg11867 y h)
         have nf12145_33 : ∀ x y, MR A12141 r12139.1.l x → M11893 y → x ≠ y := fun x y hx hy => (g12144 x hx).elim (fun h e => Nat.lt_irrefl _ (Nat.lt_of_lt_of_le ((lt_le H11891.lt (Nat.le_refl _)) y hy) (e ▸ h))) (fun h => ps11867_33 x y h hy)
         have nf12145_42 : ∀ x y, MR A12141 r12139.1.l x → MB b37 y → x ≠ y := fun x y hx hy => (g12144 x hx).elim (fun h e => Nat.lt_irrefl _ (Nat.lt_of_lt_of_le ((MB.lt H11868 (Nat.le_refl _)) y hy) (e ▸ h))) (fun h => ps11867_42 x y h hy)
         replace hB := below_ext hB e12137
         replace H11891 := H11891.ext e12137
         replace bs33 := Nat.le_trans bs33 (World.grownBy.size e12137)
         replace H11866 := H11866.ext e12137
         replace H11868 := H11868.ext e12137
         clear e12137
         refine ⟨_, rfl, (fun w' => Below w.heap.size w w' ∧ okPack.is w' M11893 b30 r11888.2 ∧ w17.heap.size ≤ w'.heap.size ∧ Row ePlace w' A11863 k11864 l11865 ∧ Blk w' b37 [S x11862, .slice A11863 l11865.length k11864] 39 ∧ Row ePlace w' A12141 k12142 r12139.1.l), ⟨hB, H11891, bs33, H11866, H11868, H12143⟩, (fun a b hC hx => by obtain ⟨hB, H11891, bs33, H11866, H11868, H12143⟩ := hC; exact ⟨below_ext hB hx, H11891.ext hx, Nat.le_trans bs33 (World.grownBy.size hx), H11866.ext hx, H11868.ext hx, H12143.ext hx⟩), (fun a hC => by obtain ⟨hB, H11891, bs33, H11866, H11868, H12143⟩ := hC; exact ⟨hB, H11891, bs33, H11866, H11868⟩), ?_⟩
         refine QT.late (v := .tuple #[.agg #[S r12139.1.s, .slice A12141 r12139.1.l.length k12142], .int .i64 r12139.2]) rfl rfl rfl rfl (fun w' hJ => by obtain ⟨hB, H11891, bs33, H11866, H11868⟩ := hJ; exact D.mv (v := .tuple #[.agg #[S r12139.1.s, .slice A12141 r12139.1.l.length k12142], .int .i64 r12139.2]) rfl rfl ⟨rfl, Ext.refl _⟩) ?_
         refine QT.late (v := .agg #[S r12139.1.s, .slice A12141 r12139.1.l.length k12142]) rfl rfl rfl rfl (fun w' hJ => by obtain ⟨hB, H11891, bs33, H11866, H11868⟩ := hJ; exact D.extract (v := .agg #[S r12139.1.s, .slice A12141 r12139.1.l.length k12142]) rfl rfl rfl ⟨rfl, Ext.refl _⟩) ?_
         refine QT.late (v := .int .i64 r12139.2) rfl rfl rfl rfl (fun w' hJ => by obtain ⟨hB, H11891, bs33, H11866, H11868⟩ := hJ; exact D.extract (v := .int .i64 r12139.2) rfl rfl rfl ⟨rfl, Ext.refl _⟩) ?_
         refine QT.eff rfl rfl (fun w12146 hC => ?_) QT.nomore
         obtain ⟨hB, H11891, bs33, H11866, H11868, H12143⟩ := hC
         refine D.alloc ti39 (cs := [S [], .slice none 0 0]) rfl rfl ?_
         intro b12147 w12148 hb12149 H12150 e12151 _
         have ne_33_12152 : ∀ x y, M11893 x → MB b12147 y → x ≠ y := ne_of (lt_le H11891.lt (Nat.le_of_eq hb12149.symm)) (MB.ge b12147)
         have lt_11867_12152 : ∀ x, MR A11863 l11865 x → x < b12147 := (MR.lt H11866 (Nat.le_of_eq hb12149.symm))
         have lt_42_12152 : ∀ x, MB b37 x → x < b12147 := (MB.lt H11868 (Nat.le_of_eq hb12149.symm))
         have lt_12145_12152 : ∀ x, MR A12141 r12139.1.l x → x < b12147 := (MR.lt H12143 (Nat.le_of_eq hb12149.symm))
         have g12152 : w.heap.size ≤ b12147 := Nat.le_trans hB.size (Nat.le_of_eq hb12149.symm)
         clear hb12149
         replace hB := below_ext hB e12151
         replace H11891 := H11891.ext e12151
         replace bs33 := Nat.le_trans bs33 (World.grownBy.size e12151)
         replace H11866 := H11866.ext e12151
         replace H11868 := H11868.ext e12151
         replace H12143 := H12143.ext e12151
         clear e12151
         refine ⟨_, rfl, (fun w' => Below w.heap.size w w' ∧ okPack.is w' M11893 b30 r11888.2 ∧ w17.heap.size ≤ w'.heap.size ∧ Row ePlace w' A11863 k11864 l11865 ∧ Blk w' b37 [S x11862, .slice A11863 l11865.length k11864] 39 ∧ Row ePlace w' A12141 k12142 r12139.1.l ∧ Blk w' b12147 [S [], .slice none 0 0] 39), ⟨hB, H11891, bs33, H11866, H11868, H12143, H12150⟩, (fun a b hC hx => by obtain ⟨hB, H11891, bs33, H11866, H11868, H12143, H12150⟩ := hC; exact ⟨below_ext hB hx, H11891.ext hx, Nat.le_trans bs33 (World.grownBy.size hx), H11866.ext hx, H11868.ext hx, H12143.ext hx, H12150.ext hx⟩), (fun a hC => by obtain ⟨hB, H11891, bs33, H11866, H11868, H12143, H12150⟩ := hC; exact ⟨hB, H11891, bs33, H11866, H11868⟩), ?_⟩
         refine QT.eff rfl rfl (fun w12153 hC => ?_) QT.nomore
         obtain ⟨hB, H11891, bs33, H11866, H11868, H12143, H12150⟩ := hC
         refine D.store (v := .agg #[S r12139.1.s, .slice A12141 r12139.1.l.length k12142]) (us := [S r12139.1.s, .slice A12141 r12139.1.l.length k12142]) sz39 H12150 rfl rfl rfl rfl rfl rfl ?_
         intro w12154 H12155 e12156
         replace hB := below_blk hB e12156 g12152
         replace H11891 := H11891.gr e12156 (sepB ne_33_12152)
         replace bs33 := Nat.le_trans bs33 (World.grownBy.size e12156)
         replace H11866 := H11866.gr e12156 (sepB (ne_of lt_11867_12152 (MB.ge b12147)))
         replace H11868 := H11868.gr e12156 (sepB (ne_of lt_42_12152 (MB.ge b12147)))
         replace H12143 := H12143.gr e12156 (sepB (ne_of lt_12145_12152 (MB.ge b12147)))
         clear e12156
         refine ⟨undef, rfl, (fun w' => Below w.heap.size w w' ∧ okPack.is w' M11893 b30 r11888.2 ∧ w17.heap.size ≤ w'.heap.size ∧ Row ePlace w' A11863 k11864 l11865 ∧ Blk w' b37 [S x11862, .slice A11863 l11865.length k11864] 39 ∧ Row ePlace w' A12141 k12142 r12139.1.l ∧ Blk w' b12147 [S r12139.1.s, .slice A12141 r12139.1.l.length k12142] 39), ⟨hB, H11891, bs33, H11866, H11868, H12143, H12155⟩, (fun a b hC hx => by obtain ⟨hB, H11891, bs33, H11866, H11868, H12143, H12155⟩ := hC; exact ⟨below_ext hB hx, H11891.ext hx, Nat.le_trans bs33 (World.grownBy.size hx), H11866.ext hx, H11868.ext hx, H12143.ext hx, H12155.ext hx⟩), (fun a hC => by obtain ⟨hB, H11891, bs33, H11866, H11868, H12143, H12155⟩ := hC; exact ⟨hB, H11891, bs33, H11866, H11868⟩), ?_⟩
         refine QT.do (v := .int .i64 r12139.2) rfl (by decide +kernel) rfl rfl rfl (fun w' hJ => by obtain ⟨hB, H11891, bs33, H11866, H11868, H12143, H12155⟩ := hJ; exact D.asn (v := .int .i64 r12139.2) rfl rfl ⟨rfl, Ext.refl _⟩) ?_
         refine QT.nil fun w12157 hC => ?_
         obtain ⟨hB, H11891, bs33, H11866, H11868, H12143, H12155⟩ := hC
         exact ⟨b12147, r12139.1.s, A12141, k12142, r12139.1.l, r12139.2, rfl, rfl, rfl, rfl, rfl, rfl, rfl, rfl, rfl, hB, H11891, bs33, H11866, H11868, H12143, (fun y hy => og12145 y hy), H12155, g12152, pr33_42, ne_33_12152, lt_11867_12152, lt_42_12152, ps11867_33, ps11867_42, nf12145_33, nf12145_42, (ne_of lt_12145_12152 (MB.ge b12147)), h⟩
        refine QT.eff rfl rfl (fun w12158 hC => ?_) ?_
        ·obtain ⟨hB, H11891, bs33, H11866, H11868⟩ := hC
         refine D.alloc ti39 (cs := [S [], .slice none 0 0]) rfl rfl ?_
         intro b12159 w12160 hb12161 H12162 e12163 _
         have ne_33_12164 : ∀ x y, M11893 x → MB b12159 y → x ≠ y := ne_of (lt_le H11891.lt (Nat.le_of_eq hb12161.symm)) (MB.ge b12159)
         have lt_11867_12164 : ∀ x, MR A11863 l11865 x → x < b12159 := (MR.lt H11866 (Nat.le_of_eq hb12161.symm))
         have lt_42_12164 : ∀ x, MB b37 x → x < b12159 := (MB.lt H11868 (Nat.le_of_eq hb12161.symm))
         have g12164 : w.heap.size ≤ b12159 := Nat.le_trans hB.size (Nat.le_of_eq hb12161.symm)
         clear hb12161
         replace hB := below_ext hB e12163
         replace H11891 := H11891.ext e12163
         replace bs33 := Nat.le_trans bs33 (World.grownBy.size e12163)
         replace H11866 := H11866.ext e12163
         replace H11868 := H11868.ext e12163
         clear e12163
         refine ⟨_, rfl, (fun w' => Below w.heap.size w w' ∧ okPack.is w' M11893 b30 r11888.2 ∧ w17.heap.size ≤ w'.heap.size ∧ Row ePlace w' A11863 k11864 l11865 ∧ Blk w' b37 [S x11862, .slice A11863 l11865.length k11864] 39 ∧ Blk w' b12159 [S [], .slice none 0 0] 39), ⟨hB, H11891, bs33, H11866, H11868, H12162⟩, (fun a b hC hx => by obtain ⟨hB, H11891, bs33, H11866, H11868, H12162⟩ := hC; exact ⟨below_ext hB hx, H11891.ext hx, Nat.le_trans bs33 (World.grownBy.size hx), H11866.ext hx, H11868.ext hx, H12162.ext hx⟩), (fun a hC => by obtain ⟨hB, H11891, bs33, H11866, H11868, H12162⟩ := hC; exact ⟨hB, H11891, bs33, H11866, H11868⟩), ?_⟩
         refine QT.eff rfl rfl (fun w12165 hC => ?_) QT.nomore
         obtain ⟨hB, H11891, bs33, H11866, H11868, H12162⟩ := hC
         rcases (Classical.em (derrickref05_Put.pre (⟨x11862, l11865⟩ : RPack) (rd a1 x10445))).symm with c12166 | c12166
         ·rw [if_neg c12166] at h; cases h
         rw [if_pos c12166] at h
         obtain ⟨r12170, q12171, h⟩ := lt_elim h
         have hc12169 := derrickref05_Put.ok (⟨x11862, l11865⟩ : RPack) (rd a1 x10445) A11863 k11864 w12165 H11866 c12166 
         rw [q12171] at hc12169
         clear q12171
         refine D.call (vs := [.agg #[S x11862, .slice A11863 l11865.length k11864], .agg #[S ((rd a1 x10445).name), .int .u16 ((rd a1 x10445).ty), .int .u16 ((rd a1 x10445).cls), .int .u32 ((rd a1 x10445).ttl), S ((rd a1 x10445).data)]]) cf16 hc12169 rfl rfl ?_
         rintro _ w12167 ⟨A12172, k12173, rfl, H12174, g12175, e12168⟩
         clear hc12169
         have og12176 : (∀ y, MR A12172 r12170.1.l y → w.heap.size ≤ y ∨ MR A2 a1 y ∨ MR A7 a6 y) := fun y hy => (g12175 y hy).elim (fun h => .inl (Nat.le_trans hB.size h)) (fun h => hg11867 y h)
         have nf12176_33 : ∀ x y, MR A12172 r12170.1.l x → M11893 y → x ≠ y := fun x y hx hy => (g12175 x hx).elim (fun h e => Nat.lt_irrefl _ (Nat.lt_of_lt_of_le ((lt_le H11891.lt (Nat.le_refl _)) y hy) (e ▸ h))) (fun h => ps11867_33 x y h hy)
         have nf12176_42 : ∀ x y, MR A12172 r12170.1.l x → MB b37 y → x ≠ y := fun x y hx hy => (g12175 x hx).elim (fun h e => Nat.lt_irrefl _ (Nat.lt_of_lt_of_le ((MB.lt H11868 (Nat.le_refl _)) y hy) (e ▸ h))) (fun h => ps11867_42 x y h hy)
         have nf12176_12164 : ∀ x y, MR A12172 r12170.1.l x → MB b12159 y → x ≠ y := fun x y hx hy => (g12175 x hx).elim (fun h e => Nat.lt_irrefl _ (Nat.lt_of_lt_of_le ((MB.lt H12162 (Nat.le_refl _)) y hy) (e ▸ h))) (fun h => (ne_of lt_11867_12164 (MB.ge b12159)) x y h hy)
         replace hB := below_ext hB e12168
         replace H11891 := H11891.ext e12168
         replace bs33 := Nat.le_trans bs33 (World.grownBy.size e12168)
         replace H11866 := H11866.ext e12168
         replace H11868 := H11868.ext e12168
         replace H12162 := H12162.ext e12168
         clear e12168
         refine ⟨_, rfl, (fun w' => Below w.heap.size w w' ∧ okPack.is w' M11893 b30 r11888.2 ∧ w17.heap.size ≤ w'.heap.size ∧ Row ePlace w' A11863 k11864 l11865 ∧ Blk w' b37 [S x11862, .slice A11863 l11865.length k11864] 39 ∧ Blk w' b12159 [S [], .slice none 0 0] 39 ∧ Row ePlace w' A12172 k12173 r12170.1.l), ⟨hB, H11891, bs33, H11866, H11868, H12162, H12174⟩, (fun a b hC hx => by obtain ⟨hB, H11891, bs33, H11866, H11868, H12162, H12174⟩ := hC; exact ⟨below_ext hB hx, H11891.ext hx, Nat.le_trans bs33 (World.grownBy.size hx), H11866.ext hx, H11868.ext hx, H12162.ext hx, H12174.ext hx⟩), (fun a hC => by obtain ⟨hB, H11891, bs33, H11866, H11868, H12162, H12174⟩ := hC; exact ⟨hB, H11891, bs33, H11866, H11868⟩), ?_⟩
         refine QT.do (v := .tuple #[.agg #[S r12170.1.s, .slice A12172 r12170.1.l.length k12173], .int .i64 r12170.2]) rfl (by decide +kernel) rfl rfl rfl (fun w' hJ => by obtain ⟨hB, H11891, bs33, H11866, H11868, H12162, H12174⟩ := hJ; exact D.mv (v := .tuple #[.agg #[S r12170.1.s, .slice A12172 r12170.1.l.length k12173], .int .i64 r12170.2]) rfl rfl ⟨rfl, Ext.refl _⟩) ?_
         refine QT.do (v := .agg #[S r12170.1.s, .slice A12172 r12170.1.l.length k12173]) rfl (by decide +kernel) rfl rfl rfl (fun w' hJ => by obtain ⟨hB, H11891, bs33, H11866, H11868, H12162, H12174⟩ := hJ; exact D.extract (v := .agg #[S r12170.1.s, .slice A12172 r12170.1.l.length k12173]) rfl rfl rfl ⟨rfl, Ext.refl _⟩) ?_
         refine QT.late (v := .int .i64 r12170.2) rfl rfl rfl rfl (fun w' hJ => by obtain ⟨hB, H11891, bs33, H11866, H11868⟩ := hJ; exact D.extract (v := .int .i64 r12170.2) rfl rfl rfl ⟨rfl, Ext.refl _⟩) ?_
         refine QT.eff rfl rfl (fun w12177 hC => ?_) QT.nomore
         obtain ⟨hB, H11891, bs33, H11866, H11868, H12162, H12174⟩ := hC
         refine D.store (v := .agg #[S r12170.1.s, .slice A12172 r12170.1.l.length k12173]) (us := [S r12170.1.s, .slice A12172 r12170.1.l.length k12173]) sz39 H12162 rfl rfl rfl rfl rfl rfl ?_
         intro w12178 H12179 e12180
         replace hB := below_blk hB e12180 g12164
         replace H11891 := H11891.gr e12180 (sepB ne_33_12164)
         replace bs33 := Nat.le_trans bs33 (World.grownBy.size e12180)
         replace H11866 := H11866.gr e12180 (sepB (ne_of lt_11867_12164 (MB.ge b12159)))
         replace H11868 := H11868.gr e12180 (sepB (ne_of lt_42_12164 (MB.ge b12159)))
         replace H12174 := H12174.gr e12180 (sepB nf12176_12164)
         clear e12180
         refine ⟨undef, rfl, (fun w' => Below w.heap.size w w' ∧ okPack.is w' M11893 b30 r11888.2 ∧ w17.heap.size ≤ w'.heap.size ∧ Row ePlace w' A11863 k11864 l11865 ∧ Blk w' b37 [S x11862, .slice A11863 l11865.length k11864] 39 ∧ Blk w' b12159 [S r12170.1.s, .slice A12172 r12170.1.l.length k12173] 39 ∧ Row ePlace w' A12172 k12173 r12170.1.l), ⟨hB, H11891, bs33, H11866, H11868, H12179, H12174⟩, (fun a b hC hx => by obtain ⟨hB, H11891, bs33, H11866, H11868, H12179, H12174⟩ := hC; exact ⟨below_ext hB hx, H11891.ext hx, Nat.le_trans bs33 (World.grownBy.size hx), H11866.ext hx, H11868.ext hx, H12179.ext hx, H12174.ext hx⟩), (fun a hC => by obtain ⟨hB, H11891, bs33, H11866, H11868, H12179, H12174⟩ := hC; exact ⟨hB, H11891, bs33, H11866, H11868⟩), ?_⟩
         refine QT.do (v := .int .i64 r12170.2) rfl (by decide +kernel) rfl rfl rfl (fun w' hJ => by obtain ⟨hB, H11891, bs33, H11866, H11868, H12179, H12174⟩ := hJ; exact D.asn (v := .int .i64 r12170.2) rfl rfl ⟨rfl, Ext.refl _⟩) ?_
         refine QT.nil fun w12181 hC => ?_
         obtain ⟨hB, H11891, bs33, H11866, H11868, H12179, H12174⟩ := hC
         exact ⟨b12159, r12170.1.s, A12172, k12173, r12170.1.l, r12170.2, rfl, rfl, rfl, rfl, rfl, rfl, rfl, rfl, rfl, hB, H11891, bs33, H11866, H11868, H12174, (fun y hy => og12176 y hy), H12179, g12164, pr33_42, ne_33_12164, lt_11867_12164, lt_42_12164, ps11867_33, ps11867_42, nf12176_33, nf12176_42, nf12176_12164, h⟩
        exact QT.nomore
       ·intro f12023 w12022 hI
        obtain ⟨b12012, x12013, A12014, k12015, l12016, x12021, s12024, s12025, s12026, s12027, s12028, s12029, s12030, s12031, s12032, hB, H12009, bs33, H12010, H12011, H12017, hg12018, H12019, hg12020, pr33_42, pr33_12020, pr11867_12020, pr42_12020, ps11867_33, ps11867_42, ps12018_33, ps12018_42, ps12018_12020, h⟩ := hI
        refine X.fr (d := 0) s12024 ?_
        refine X.fr (d := 1) s12025 ?_
        refine X.fr (d := 5) s12026 ?_
        refine X.fr (d := 6) s12027 ?_
        refine X.fr (d := 7) s12028 ?_
        refine X.fr (d := 8) s12029 ?_
        refine X.fr (d := 12) s12030 ?_
        refine X.fr (d := 13) s12031 ?_
        refine X.fr (d := 14) s12032 ?_
        unfold derricklaw05_RecordPuts.j4 at h
        refine X.seq fun M12033 hM12034 => ?_
        refine X.region ?_
        refine XO.do rfl (D.loadA (j := 0) (us := [S x12013, .slice A12014 l12016.length k12015]) ag39 H12019.cs rfl rfl rfl rfl rfl ?_)
        refine XO.do rfl (D.store (v := .agg #[S x12013, .slice A12014 l12016.length k12015]) (us := [S x12013, .slice A12014 l12016.length k12015]) sz39 H12011 rfl rfl rfl rfl rfl rfl ?_)
        intro w12035 H12036 e12037
        replace hB := below_blk hB e12037 g42
        replace H12009 := H12009.gr e12037 (sepB pr33_42)
        replace bs33 := Nat.le_trans bs33 (World.grownBy.size e12037)
        replace H12010 := H12010.gr e12037 (sepB ps11867_42)
        replace H12017 := H12017.gr e12037 (sepB ps12018_42)
        replace H12019 := H12019.gr e12037 (sepB (ne_flip (ne_of pr42_12020 (MB.ge b12012))))
        clear e12037
        refine XO.nil ?_
        refine hM12034 _ _ ?_
        refine X.cut (fun f12051 w12050 => ∃ x12049 : Bool, f12051 0 = .slice A2 a1.length k3 ∧ f12051 1 = .slice A7 a6.length k8 ∧ f12051 5 = .bool r20 ∧ f12051 6 = pt b30 0 ∧ f12051 7 = pt b37 0 ∧ f12051 8 = .int .i64 x10445 ∧ f12051 91 = .bool x12049 ∧ Below w.heap.size w w12050 ∧ okPack.is w12050 M11893 b30 r11888.2 ∧ w17.heap.size ≤ w12050.heap.size ∧ Row ePlace w12050 A12014 k12015 l12016 ∧ Blk w12050 b37 [S x12013, .slice A12014 l12016.length k12015] 39 ∧ (∀ x y, M11893 x → MB b37 y → x ≠ y) ∧ (∀ x y, MR A12014 l12016 x → M11893 y → x ≠ y) ∧ (∀ x y, MR A12014 l12016 x → MB b37 y → x ≠ y) ∧ derricklaw05_RecordPuts.j5 (derricklaw05_RecordPuts.l1 a1 a6 r20 kf10434) r11888 x12013 l12016 x10445 x12049 = some res) ?_ ?_
        ·refine X.tree mixed0 [0, 0, 3, 7, 15, 31, 15, 79, 255, 511] (.q 0 (.q 1 (.q 2 (.q 3 (.q 4 (.q 5 (.q 6 (.q 7 (.q 8 (.q 9 .nil)))))))))) (fun w' => Below w.heap.size w w' ∧ okPack.is w' M11893 b30 r11888.2 ∧ w17.heap.size ≤ w'.heap.size ∧ Row ePlace w' A11863 k11864 l11865 ∧ Blk w' b37 [S x12013, .slice A12014 l12016.length k12015] 39 ∧ Row ePlace w' A12014 k12015 l12016 ∧ Blk w' b12012 [S x12013, .slice A12014 l12016.length k12015] 39) (fun w' => Below w.heap.size w w' ∧ okPack.is w' M11893 b30 r11888.2 ∧ w17.heap.size ≤ w'.heap.size ∧ Row ePlace w' A11863 k11864 l11865 ∧ Blk w' b37 [S x12013, .slice A12014 l12016.length k12015] 39 ∧ Row ePlace w' A12014 k12015 l12016 ∧ Blk w' b12012 [S x12013, .slice A12014 l12016.length k12015] 39) (by decide +kernel) (fun w' hx _ => ⟨below_ext hB hx, H12009.ext hx, Nat.le_trans bs33 (World.grownBy.size hx), H12010.ext hx, H12036.ext hx, H12017.ext hx, H12019.ext hx⟩) (fun a b hC hx => by obtain ⟨hB, H12009, bs33, H12010, H12036, H12017, H12019⟩ := hC; exact ⟨below_ext hB hx, H12009.ext hx, Nat.le_trans bs33 (World.grownBy.size hx), H12010.ext hx, H12036.ext hx, H12017.ext hx, H12019.ext hx⟩) (fun a hC => by obtain ⟨hB, H12009, bs33, H12010, H12036, H12017, H12019⟩ := hC; exact ⟨hB, H12009, bs33, H12010, H12036, H12017, H12019⟩) ?_
         refine QT.do (v := .int .i64 r11888.1) rfl (by decide +kernel) rfl rfl rfl (fun w' hJ => by obtain ⟨hB, H12009, bs33, H12010, H12036, H12017, H12019⟩ := hJ; exact D.mv (v := .int .i64 r11888.1) rfl rfl ⟨rfl, Ext.refl _⟩) ?_
         refine QT.do (v := .int .i64 x12021) rfl (by decide +kernel) rfl rfl rfl (fun w' hJ => by obtain ⟨hB, H12009, bs33, H12010, H12036, H12017, H12019⟩ := hJ; exact D.mv (v := .int .i64 x12021) rfl rfl ⟨rfl, Ext.refl _⟩) ?_
         refine QT.do (v := .bool (r11888.1 != x12021)) rfl (by decide +kernel) rfl rfl rfl (fun w' hJ => by obtain ⟨hB, H12009, bs33, H12010, H12036, H12017, H12019⟩ := hJ; exact D.neq rfl rfl rfl ⟨rfl, Ext.refl _⟩) ?_
         refine QT.do (v := .bool (r11888.1 != x12021)) rfl (by decide +kernel) rfl rfl rfl (fun w' hJ => by obtain ⟨hB, H12009, bs33, H12010, H12036, H12017, H12019⟩ := hJ; exact D.mv (v := .bool (r11888.1 != x12021)) rfl rfl ⟨rfl, Ext.refl _⟩) ?_
         by_cases c12062 : r11888.1 = x12021
         ·rw [if_pos c12062] at h
          refine QT.do (v := pt b30 0) rfl (by decide +kernel) (wantG (j := 3) (b := false) rfl ((congrArg (!·) (beq_iff_eq.2 c12062))) rfl) rfl rfl (fun w' hJ => by obtain ⟨hB, H12009, bs33, H12010, H12036, H12017, H12019⟩ := hJ; exact D.mv (v := pt b30 0) rfl rfl ⟨rfl, Ext.refl _⟩) ?_
          obtain ⟨r12066, q12067, h⟩ := lt_elim h
          refine QT.do (v := S r12066) rfl (by decide +kernel) (wantG (j := 3) (b := false) rfl ((congrArg (!·) (beq_iff_eq.2 c12062))) rfl) rfl rfl (fun w' hJ => by obtain ⟨hB, H12009, bs33, H12010, H12036, H12017, H12019⟩ := hJ; have hc := wire_Pack_Out.ok r11888.2 M11893 b30 w' H12009; rw [q12067] at hc; refine D.call (vs := [pt b30 0]) cf17 hc rfl rfl ?_; rintro _ w2 ⟨rfl, e2⟩; exact ⟨rfl, e2⟩) ?_
          refine QT.do (v := pt b37 0) rfl (by decide +kernel) (wantG (j := 3) (b := false) rfl ((congrArg (!·) (beq_iff_eq.2 c12062))) rfl) rfl rfl (fun w' hJ => by obtain ⟨hB, H12009, bs33, H12010, H12036, H12017, H12019⟩ := hJ; exact D.fieldAddr (o' := 0) fa39_0 rfl rfl rfl ⟨rfl, Ext.refl _⟩) ?_
          refine QT.do (v := S x12013) rfl (by decide +kernel) (wantG (j := 3) (b := false) rfl ((congrArg (!·) (beq_iff_eq.2 c12062))) rfl) rfl rfl (fun w' hJ => by obtain ⟨hB, H12009, bs33, H12010, H12036, H12017, H12019⟩ := hJ; exact D.load (j := 0) (v := S x12013) sc9 H12036.cs rfl rfl rfl rfl ⟨rfl, Ext.refl _⟩) ?_
          refine QT.do (v := .bool (!(r12066 == x12013))) rfl (by decide +kernel) (wantG (j := 3) (b := false) rfl ((congrArg (!·) (beq_iff_eq.2 c12062))) rfl) rfl rfl (fun w' hJ => by obtain ⟨hB, H12009, bs33, H12010, H12036, H12017, H12019⟩ := hJ; exact D.neqS rfl rfl rfl ⟨rfl, Ext.refl _⟩) ?_
          refine QT.do (v := .bool (!(r12066 == x12013))) rfl (by decide +kernel) rfl rfl rfl (fun w' hJ => by obtain ⟨hB, H12009, bs33, H12010, H12036, H12017, H12019⟩ := hJ; exact D.pick false (v := .bool (!(r12066 == x12013))) (congrArg Value.bool ((congrArg (!·) (beq_iff_eq.2 c12062)))) rfl rfl ⟨rfl, Ext.refl _⟩) ?_
          refine QT.nil fun w12068 hC => ?_
          obtain ⟨hB, H12009, bs33, H12010, H12036, H12017, H12019⟩ := hC
          exact ⟨(!(r12066 == x12013)), rfl, rfl, rfl, rfl, rfl, rfl, rfl, hB, H12009, bs33, H12017, H12036, pr33_42, ps12018_33, ps12018_42, h⟩
         ·rw [if_neg c12062] at h
          refine QT.off rfl (wantG0 (j := 3) (b := false) rfl ((congrArg (!·) (beq_eq_false_iff_ne.2 c12062))) rfl) rfl rfl ?_
          refine QT.off rfl (wantG0 (j := 3) (b := false) rfl ((congrArg (!·) (beq_eq_false_iff_ne.2 c12062))) rfl) rfl rfl ?_
          refine QT.off rfl (wantG0 (j := 3) (b := false) rfl ((congrArg (!·) (beq_eq_false_iff_ne.2 c12062))) rfl) rfl rfl ?_
          refine QT.off rfl (wantG0 (j := 3) (b := false) rfl ((congrArg (!·) (beq_eq_false_iff_ne.2 c12062))) rfl) rfl rfl ?_
          refine QT.off rfl (wantG0 (j := 3) (b := false) rfl ((congrArg (!·) (beq_eq_false_iff_ne.2 c12062))) rfl) rfl rfl ?_
          refine QT.do (v := .bool true) rfl (by decide +kernel) rfl rfl rfl (fun w' hJ => by obtain ⟨hB, H12009, bs33, H12010, H12036, H12017, H12019⟩ := hJ; exact D.pick true (v := .bool true) (congrArg Value.bool ((congrArg (!·) (beq_eq_false_iff_ne.2 c12062)))) rfl rfl ⟨rfl, Ext.refl _⟩) ?_
          refine QT.nil fun w12069 hC => ?_
          obtain ⟨hB, H12009, bs33, H12010, H12036, H12017, H12019⟩ := hC
          exact ⟨true, rfl, rfl, rfl, rfl, rfl, rfl, rfl, hB, H12009, bs33, H12017, H12036, pr33_42, ps12018_33, ps12018_42, h⟩
        ·intro f12051 w12050 hI
         obtain ⟨x12049, s12052, s12053, s12054, s12055, s12056, s12057, s12058, hB, H12046, bs33, H12047, H12048, pr33_42, ps12018_33, ps12018_42, h⟩ := hI
         refine X.fr (d := 0) s12052 ?_
         refine X.fr (d := 1) s12053 ?_
         refine X.fr (d := 5) s12054 ?_
         refine X.fr (d := 6) s12055 ?_
         refine X.fr (d := 7) s12056 ?_
         refine X.fr (d := 8) s12057 ?_
         refine X.fr (d := 91) s12058 ?_
         unfold derricklaw05_RecordPuts.j5 at h
         by_cases c12059 : x12049 = true
         ·rw [if_pos c12059] at h
          refine X.condT (congrArg Value.bool (c12059)) ?_
          refine X.seq fun M12060 hM12061 => ?_
          refine X.region ?_
          refine XO.do rfl (D.asn (v := .bool false) rfl rfl ?_)
          refine XO.nil ?_
          refine hM12061 _ _ ?_
          refine X.ret ?_
          injection h with h
          subst h
          exact hR _ _ _ (ret1 (v := .bool false) rfl rfl) ⟨rfl, ext_of_below hB⟩
         ·rw [if_neg c12059] at h
          refine X.condF (congrArg Value.bool ((Bool.eq_false_iff.2 c12059))) ?_
          refine X.skip ?_
          refine hM11500 _ _ ?_
          refine X.region ?_
          refine XO.do rfl (D.mv (v := .int .i64 x10445) rfl rfl ?_)
          refine XO.do rfl (D.add rfl rfl rfl ?_)
          refine XO.do rfl (D.asn (v := .int .i64 (w64 (x10445 + 1))) rfl rfl ?_)
          refine XO.nil ?_
          exact ⟨kf10434, Nat.lt_succ_self _, M11893, r11888.2, x12013, A12014, k12015, l12016, w64 (x10445 + 1), rfl, rfl, rfl, rfl, rfl, rfl, hB, H12046, v11895, hh33, bs33, H12047, (fun y hy => hg12018 y hy), H12048, pr33_42, ps12018_33, ps12018_42, h⟩
     ·rw [if_neg c11532] at h
      refine X.condT (congrArg Value.bool ((congrArg (!·) ((Bool.eq_false_iff.2 c11532))))) ?_
      refine X.seq fun M12508 hM12509 => ?_
      refine X.region ?_
      refine XO.do rfl (D.mv (v := .bool r20) rfl rfl ?_)
      refine XO.do rfl (D.asn (v := .bool r20) rfl rfl ?_)
      refine XO.nil ?_
      refine hM12509 _ _ ?_
      refine X.ret ?_
      injection h with h
      subst h
      exact hR _ _ _ (ret1 (v := .bool r20) rfl rfl) ⟨rfl, ext_of_below hB⟩
    ·rw [if_neg c10489] at h
     refine X.condF (congrArg Value.bool ((Bool.eq_false_iff.2 c10489))) ?_
     refine X.exit rfl ?_
     refine hM6279 _ _ ?_
     refine X.seq fun M12510 hM12511 => ?_
     refine X.region ?_
     refine XO.do rfl (D.mv (v := .bool r20) rfl rfl ?_)
     refine XO.do rfl (D.mv (v := .bool r20) rfl rfl ?_)
     by_cases c12512 : r20 = true
     ·rw [if_pos c12512] at h
      refine XO.do (wantG (j := 1) (b := true) rfl (c12512) rfl) (D.build (vs := [(0, S [0]), (1, .int .u16 99)]) (cs := [S [0], .int .u16 99, .int .u16 0, .int .u32 0, S []]) bld25 rfl rfl rfl ?_)
      obtain ⟨r12516, q12517, h⟩ := lt_elim h
      have hc12515 := record_Put_nil.ok (⟨[0], 99, 0, 0, []⟩ : RR) w10480 
      rw [q12517] at hc12515
      clear q12517
      refine XO.do (wantG (j := 1) (b := true) rfl (c12512) rfl) (D.call (vs := [.pointer none, .agg #[S [0], .int .u16 99, .int .u16 0, .int .u32 0, S []]]) cf15 hc12515 rfl rfl ?_)
      rintro _ w12513 ⟨rfl, e12514⟩
      clear hc12515
      replace hB := below_ext hB e12514
      replace H10476 := H10476.ext e12514
      replace bs33 := Nat.le_trans bs33 (World.grownBy.size e12514)
      replace H10477 := H10477.ext e12514
      replace H10478 := H10478.ext e12514
      clear e12514
      refine XO.do (wantG (j := 1) (b := true) rfl (c12512) rfl) (D.eql rfl rfl rfl ?_)
      refine XO.do rfl (D.pick true (v := .bool (r12516 == 1)) (congrArg Value.bool (c12512)) rfl rfl ?_)
      refine XO.do rfl (D.mv (v := .bool (r12516 == 1)) rfl rfl ?_)
      by_cases c12518 : r12516 = 1
      ·rw [if_pos c12518] at h
       refine XO.do (wantG (j := 6) (b := true) rfl (beq_iff_eq.2 c12518) rfl) (D.build (vs := [(0, S [0])]) (cs := [S [0], .int .u16 0, .int .u16 0]) bld30 rfl rfl rfl ?_)
       obtain ⟨r12522, q12523, h⟩ := lt_elim h
       have hc12521 := record_PutQ_nil.ok (⟨[0], 0, 0⟩ : Question) w12513 
       rw [q12523] at hc12521
       clear q12523
       refine XO.do (wantG (j := 6) (b := true) rfl (beq_iff_eq.2 c12518) rfl) (D.call (vs := [.pointer none, .agg #[S [0], .int .u16 0, .int .u16 0]]) cf13 hc12521 rfl rfl ?_)
       rintro _ w12519 ⟨rfl, e12520⟩
       clear hc12521
       replace hB := below_ext hB e12520
       replace H10476 := H10476.ext e12520
       replace bs33 := Nat.le_trans bs33 (World.grownBy.size e12520)
       replace H10477 := H10477.ext e12520
       replace H10478 := H10478.ext e12520
       clear e12520
       refine XO.do (wantG (j := 6) (b := true) rfl (beq_iff_eq.2 c12518) rfl) (D.eql rfl rfl rfl ?_)
       refine XO.do rfl (D.pick true (v := .bool (r12522 == 1)) (congrArg Value.bool (beq_iff_eq.2 c12518)) rfl rfl ?_)
       refine XO.do rfl (D.asn (v := .bool (r12522 == 1)) rfl rfl ?_)
       refine XO.nil ?_
       refine hM12511 _ _ ?_
       refine X.ret ?_
       injection h with h
       subst h
       exact hR _ _ _ (ret1 (v := .bool (r12522 == 1)) rfl rfl) ⟨rfl, ext_of_below hB⟩
      ·rw [if_neg c12518] at h
       refine XO.off (wantG0 (j := 6) (b := true) rfl (beq_eq_false_iff_ne.2 c12518) rfl) rfl rfl ?_
       refine XO.off (wantG0 (j := 6) (b := true) rfl (beq_eq_false_iff_ne.2 c12518) rfl) rfl rfl ?_
       refine XO.off (wantG0 (j := 6) (b := true) rfl (beq_eq_false_iff_ne.2 c12518) rfl) rfl rfl ?_
       refine XO.do rfl (D.pick false (v := .bool false) (congrArg Value.bool (beq_eq_false_iff_ne.2 c12518)) rfl rfl ?_)
       refine XO.do rfl (D.asn (v := .bool false) rfl rfl ?_)
       refine XO.nil ?_
       refine hM12511 _ _ ?_
       refine X.ret ?_
       injection h with h
       subst h
       exact hR _ _ _ (ret1 (v := .bool false) rfl rfl) ⟨rfl, ext_of_below hB⟩
     ·rw [if_neg c12512] at h
      refine XO.off (wantG0 (j := 1) (b := true) rfl ((Bool.eq_false_iff.2 c12512)) rfl) rfl rfl ?_
      refine XO.off (wantG0 (j := 1) (b := true) rfl ((Bool.eq_false_iff.2 c12512)) rfl) rfl rfl ?_
      refine XO.off (wantG0 (j := 1) (b := true) rfl ((Bool.eq_false_iff.2 c12512)) rfl) rfl rfl ?_
      refine XO.do rfl (D.pick false (v := .bool false) (congrArg Value.bool ((Bool.eq_false_iff.2 c12512))) rfl rfl ?_)
      refine XO.do rfl (D.mv (v := .bool false) rfl rfl ?_)
      refine XO.off (wantG0 (j := 6) (b := true) rfl (rfl) rfl) rfl rfl ?_
      refine XO.off (wantG0 (j := 6) (b := true) rfl (rfl) rfl) rfl rfl ?_
      refine XO.off (wantG0 (j := 6) (b := true) rfl (rfl) rfl) rfl rfl ?_
      refine XO.do rfl (D.pick false (v := .bool false) (congrArg Value.bool (rfl)) rfl rfl ?_)
      refine XO.do rfl (D.asn (v := .bool false) rfl rfl ?_)
      refine XO.nil ?_
      refine hM12511 _ _ ?_
      refine X.ret ?_
      injection h with h
      subst h
      exact hR _ _ _ (ret1 (v := .bool false) rfl rfl) ⟨rfl, ext_of_below hB⟩
theorem derricklaw05_RecordPuts.ok (a1 : List RR) (a6 : List Bool) (A2 : Option Addr) (k3 : Nat) (A7 : Option Addr) (k8 : Nat) (w : World) (H4 : Row eRR w A2 k3 a1) (H9 : Row eBool w A7 k8 a6) (hp : derricklaw05_RecordPuts.pre a1 a6) :
  Ret Try.prog 4 ([.slice A2 a1.length k3, .slice A7 a6.length k8] : List Value).toArray w fun v w' => v = .bool (derricklaw05_RecordPuts a1 a6) ∧ Ext w w' := by
 obtain ⟨kf, h⟩ := derricklaw05_RecordPuts.eq a1 a6 hp
 exact derricklaw05_RecordPuts.walk kf a1 a6 A2 k3 A7 k8 w H4 H9 _ h
end Go.Proofs.Ytfcaekghpkpjdaa.K

namespace Go.Proofs.Ytfcaekghpkpjdaa.recordPuts
open Go Go.ChangeShapes Go.WideShapes Go.ChangeAt Go.RowKit Go.Proofs.Ytfcaekghpkpjdaa.K
open Go.ChangeMaps (open_string shut_string)
set_option linter.unusedVariables false
set_option maxHeartbeats 4000000
theorem own : ownKnob Try.prog.godebug = none := by kernel_rfl
theorem laidOut : laidOutB Try.prog = true := by kernel_rfl
set_option maxRecDepth 100000 in
theorem contract (H : Type) (enc : TypeId × Value → H) (W : World) (base : Nat) (args : Array Value) (ds gs : List (DataW H)) (before : List MemPlace)
  (hval : ∀ (j : Nat) t v, Try.f4.params[j]? = some t → args[j]? = some v → Value.okWide Try.prog W .any base t v)
  (hW : DataW.Whole enc Try.prog Try.f4.params.toList Rows.recordPutsSpec.vars false W args.toList ds gs before) :
  Calls Try.prog 4 args W fun e W' => ∃ v, e = .returned v ∧ Rows.recordPutsSpec.post enc Try.prog Try.f4 false true false false W args v W' := by
 have hW' := hW
 obtain ⟨p, q, hA0, hV, rfl, hfz, hnd⟩ := hW
 have hA : DataW.TrodAll enc Try.prog W 0 (fun _ => true) true Try.f4.params.toList args.toList ds p := hA0
 rw [Try.params4] at hA hval
 obtain ⟨v0, vs0, d0, ds0, p0, q0, hargs, rfl, rfl, h0, r0⟩ := trodAll_cons hA
 obtain ⟨v1, vs1, d1, ds1, p1, q1, rfl, rfl, rfl, h1, r1⟩ := trodAll_cons r0
 obtain ⟨rfl, rfl, rfl⟩ := trodAll_nil r1
 obtain rfl : args = #[v0, v1] := by cases args; simp_all
 obtain ⟨rfl, rfl⟩ := trodVars_none hV
 have k0 := h0
 have lt0 : ∀ x ∈ p0, x.block < W.heap.size := by obtain ⟨m, hm⟩ := k0; exact DataW.trod_lt m _ _ _ hm
 obtain ⟨u0, hu0⟩ := h0
 obtain ⟨b0, l0, c0, hq0⟩ := okWide_slice Try.underlying33 (hval 0 33 v0 rfl rfl)
 have hs0 : v0.cells.toList = [v0] := by rw [hq0]; rfl
 rw [hs0] at hu0
 clear hs0 hq0
 obtain ⟨A0, k0_, a0, ha0, H0, w0, z0⟩ := dec_slice (E := eRR) Try.underlying33 (by kernel_rfl) dec_RR hu0
 obtain rfl := list1 ha0
 have k1 := h1
 have lt1 : ∀ x ∈ p1, x.block < W.heap.size := by obtain ⟨m, hm⟩ := k1; exact DataW.trod_lt m _ _ _ hm
 obtain ⟨u1, hu1⟩ := h1
 obtain ⟨b1, l1, c1, hq1⟩ := okWide_slice Try.underlying34 (hval 1 34 v1 rfl rfl)
 have hs1 : v1.cells.toList = [v1] := by rw [hq1]; rfl
 rw [hs1] at hu1
 clear hs1 hq1
 obtain ⟨A1, k1_, a1, ha1, H1, w1, z1⟩ := dec_slice (E := eBool) Try.underlying34 (by kernel_rfl) (dec_bool Try.underlying4) hu1
 obtain rfl := list1 ha1
 have hok := derricklaw05_RecordPuts.ok a0 a1 A0 k0_ A1 k1_ W H0 H1 ⟨fun r hr => rrOk_of (w0 r hr), z0, z1⟩
 clear hA0
 refine Calls.mono hok fun e W' ⟨v, he, hv, hx⟩ => ?_
 have bel := below_of_ext hx
 subst he hv
 exact ⟨_, rfl, _, _, _, [], _, [], hW', trodAll_mk1 (shut_bool Try.underlying4 _), (trodAll_cons_mk (Below.trod laidOut (by kernel_rfl) (of_decide_eq_true (by kernel_rfl)) k0 bel lt0) (trodAll_cons_mk (Below.trod laidOut (by kernel_rfl) (of_decide_eq_true (by kernel_rfl)) k1 bel lt1) trodAll_mk0)), rfl, bel.frame _, fun h => by cases h⟩
set_option maxRecDepth 100000 in
theorem lifted (os : Os) (started : os.Started) (H : Type) (enc : TypeId × Value → H) :
  ReturnsInHanded {} Try.checked os 4 .any (Rows.recordPutsSpec.pre6 enc Try.prog Try.f4 Rows.recordPutsRow.domain false) (Rows.recordPutsSpec.post enc Try.prog Try.f4 false true false false) := by
 refine returnsInHanded_of_change (C := Try.checked) own started (by kernel_rfl) Try.func4
  (ChangeSpec.witness6 (enc := enc) (C := Try.checked) false ⟨#[], #[.slice none 0 0, .slice none 0 0], []⟩ 8 (by kernel_rfl) (by kernel_rfl) (by kernel_rfl) (by kernel_rfl)) ?_
 intro W base args ds gs before hval hW _ _
 exact contract H enc W base args ds gs before hval hW
theorem over : Rows.recordPutsRow.holds Try.pinned (OpenSpec.ofChange Rows.recordPutsSpec) :=
 OpenClaim.holds_of_wide 4 Try.f4 rfl rfl rfl rfl rfl rfl rfl ⟨rfl, rfl, rfl, rfl, rfl⟩ rfl rfl rfl rfl rfl (by kernel_rfl) Try.func4 (by kernel_rfl)
  (of_decide_eq_true (by kernel_rfl)) (by unfold Func.isWrapper; first | (rw [if_pos (by decide +kernel)]; kernel_rfl) | (rw [if_neg (by decide +kernel)]; exact ⟨rfl, rfl⟩))
  (fun os started H enc _ => lifted os started H enc)
theorem proved : Rows.RecordPutsSaid := over
#print axioms proved
end Go.Proofs.Ytfcaekghpkpjdaa.recordPuts
namespace Go.Proofs.Ytfcaekghpkpjdaa
/-- The row, under a short name. -/
theorem recordPuts_holds : Rows.RecordPutsSaid := recordPuts.proved
end Go.Proofs.Ytfcaekghpkpjdaa
