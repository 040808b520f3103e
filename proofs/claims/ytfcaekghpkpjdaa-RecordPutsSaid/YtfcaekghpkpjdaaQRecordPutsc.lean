/- Part 3 of what the row of RecordPuts leans on: a library of walks, the pure functions, the walks of the functions. -/
import Derived.Test.YtfcaekghpkpjdaaProg
import Derived.Test.YtfcaekghpkpjdaaQRecordPutsb
namespace Go.Proofs.Ytfcaekghpkpjdaa.K
open Go
set_option linter.unusedVariables false
set_option linter.unusedSimpArgs false
set_option maxRecDepth 100000
theorem there_eq {s : Str} (hs : s.length ≤ 4000000000000000000) (a m : Int) : derrickref01_there s a m = decide (0 ≤ a ∧ 0 ≤ m ∧ a + m ≤ s.length) := by
 unfold derrickref01_there
 by_cases h1 : 0 ≤ a
 ·rw [if_pos h1]
  by_cases h2 : a ≤ (s.length : Int)
  ·rw [if_pos h2]
   by_cases h3 : 0 ≤ m
   ·rw [if_pos h3]
    by_cases h4 : m ≤ (s.length : Int)
    ·rw [if_pos h4, w64_id (by omega) (by omega)]
     rw [decide_eq_decide]; omega
    ·rw [if_neg h4, decide_eq_false (by omega)]
   ·rw [if_neg h3, decide_eq_false (by omega)]
  ·rw [if_neg h2, decide_eq_false (by omega)]
 ·rw [if_neg h1, decide_eq_false (by omega)]
theorem rPut16_eq {n : Int} (h0 : 0 ≤ n) (h1 : n < 65536) : derrickref01_Put16 n = octet_Put16 n := by
 obtain ⟨m, rfl⟩ := Int.eq_ofNat_of_zero_le h0
 rw [Put16_eq m (by omega)]
 unfold derrickref01_Put16
 have e1 : w8 (w16 (Int.tdiv (m : Int) 256)) = ((m / 256 : Nat) : Int) := by
  rw [Int.tdiv_eq_ediv_of_nonneg (by omega), w16_eq, w8_eq]; omega
 have e2 : w8 (Int.tmod (m : Int) 256) = ((m % 256 : Nat) : Int) := by
  rw [Int.tmod_eq_emod_of_nonneg (by omega), w8_eq]; omega
 rw [e1, e2]
 rfl
theorem rlow_eq (c : UInt8) : derrickref02_low (c.toNat : Int) = ((low c).toNat : Int) := by
 have : ∀ n : Fin 256, derrickref02_low ((UInt8.ofNat n.val).toNat : Int) = ((low (UInt8.ofNat n.val)).toNat : Int) := by decide +kernel
 have h := this ⟨c.toNat, c.toNat_lt⟩
 simpa using h
def derrickref02_Labels (n : Str) : List Str × Int := name_Labels n
def derrickref02_Labels.pre (n : Str) : Prop := n.length ≤ 1000000
instance i_derrickref02_Labels (n : Str) : Decidable (derrickref02_Labels.pre n) := by unfold derrickref02_Labels.pre; infer_instance
def labelsEnd (n : Str) (l : List Str) (r : List Str × Str) : List Str × Int := if r.2 = [0] then (if 255 < n.length then ([], 3) else (l ++ r.1, 0)) else ([], 2)
theorem rLabels_lp (n : Str) (hn : n.length ≤ 1000000) : ∀ (k a : Nat) (l : List Str), n.length < a + k → a ≤ n.length → l.length ≤ a → derrickref02_Labels.l1 n k l a = some (labelsEnd n l (splitN k (n.drop a))) := by
 intro k
 induction k with
 | zero => intro a l h1 h2; omega
 | succ k ih =>
  intro a l h1 h2 h3
  rw [derrickref02_Labels.l1.eq_2]
  have hstop : ∀ (hno : labelOf (n.drop a) = none), (a = n.length ∨ by_ n a = 0) → derrickref02_Labels.j2 a n l (derrickref02_Labels.l1 n k) false = some (labelsEnd n l (splitN (k + 1) (n.drop a))) := by
   intro hno hz
   unfold derrickref02_Labels.j2
   rw [if_neg (by simp)]
   simp only [splitN, hno, labelsEnd]
   have hiff : ((a : Int) = w64 ((n.length : Int) - 1)) ↔ n.drop a = [0] := by
    rw [w64_id (by omega) (by omega)]
    constructor
    ·intro h
     have ha : a < n.length := by omega
     have hb : by_ n a = 0 := by
      rcases hz with hz | hz
      ·omega
      ·exact hz
     rw [List.drop_eq_getElem_cons ha, List.drop_of_length_le (by omega)]
     have : n[a] = 0 := by
      have h9 : n.getD a 0 = n[a] := getD_at ha
      simp only [by_, h9] at hb
      exact UInt8.toNat_inj.1 (by simpa using hb)
     rw [this]
    ·intro h
     have := congrArg List.length h
     simp at this
     omega
   by_cases hc : n.drop a = [0]
   ·rw [if_pos (hiff.2 hc), if_pos hc]
    by_cases h5 : 255 < n.length
    ·rw [if_pos (by omega), if_pos h5]
    ·rw [if_neg (by omega), if_neg h5, List.append_nil]
   ·rw [if_neg (fun h => hc (hiff.1 h)), if_neg hc]
  by_cases ha : a < n.length
  ·have hlt := (n.getD a 0).toNat_lt
   rw [if_pos (by omega), if_pos (by omega), bt_by]
   have hcons : n.drop a = n.getD a 0 :: n.drop (a + 1) := by rw [List.drop_eq_getElem_cons ha, getD_at ha]
   by_cases h0 : by_ n a = 0
   ·have hb : (((by_ n a : Int)) != 0) = false := by simp [h0]
    rw [hb]
    refine hstop ?_ (.inr h0)
    rw [hcons]; simp only [labelOf]; rw [if_neg (by simp only [by_] at h0; omega)]
   ·have hb : (((by_ n a : Int)) != 0) = true := by simp only [bne_iff_ne, ne_eq]; omega
    rw [hb]
    unfold derrickref02_Labels.j2
    rw [if_pos rfl, if_pos (by omega), if_pos (by omega), bt_by]
    have hw : w64 ((by_ n a : Nat) : Int) = ((by_ n a : Nat) : Int) := w64_id (by omega) (by simp only [by_]; omega)
    have hw1 : w64 ((a : Int) + 1) = ((a + 1 : Nat) : Int) := by rw [w64_id (by omega) (by omega)]; omega
    have hw2 : w64 (((a + 1 : Nat) : Int) + ((by_ n a : Nat) : Int)) = ((a + 1 + by_ n a : Nat) : Int) := by rw [w64_id (by omega) (by simp only [by_]; omega)]; omega
    rw [hw, hw1, hw2]
    have hdl : (n.drop (a + 1)).length = n.length - (a + 1) := by simp
    by_cases hbad : 63 < by_ n a ∨ n.length < a + 1 + by_ n a
    ·have hno : labelOf (n.drop a) = none := by
      rw [hcons]; simp only [labelOf]; rw [if_neg (by rw [hdl]; simp only [by_] at hbad; omega)]
     have hne : n.drop a ≠ [0] := by
      rw [hcons]; intro h; injection h with h _; apply h0; simp only [by_, h]; rfl
     have hj : derrickref02_Labels.j3 a n l (derrickref02_Labels.l1 n k) true = some (labelsEnd n l (splitN (k + 1) (n.drop a))) := by
      unfold derrickref02_Labels.j3
      rw [if_pos rfl]
      simp only [splitN, hno, labelsEnd, if_neg hne]
     by_cases h63 : 63 < by_ n a
     ·rw [if_pos (by omega)]; exact hj
     ·rw [if_neg (by omega), decide_eq_true (by omega)]; exact hj
    ·rw [if_neg (by omega), decide_eq_false (by omega)]
     unfold derrickref02_Labels.j3
     rw [if_neg (by simp), bt_by, hw, hw1, hw2, if_pos (by omega), if_pos (by omega), if_pos (by omega), if_pos (by omega)]
     rw [show ((a + 1 : Nat) : Int).toNat = a + 1 by omega, show ((a + 1 + by_ n a : Nat) : Int).toNat = a + 1 + by_ n a by omega, Nat.add_sub_cancel_left]
     rw [ih _ _ (by omega) (by omega) (by simp; omega)]
     have hlab : labelOf (n.drop a) = some ((n.drop (a + 1)).take (by_ n a), (n.drop (a + 1)).drop (by_ n a)) := by
      rw [hcons]; simp only [labelOf]; rw [if_pos (by rw [hdl]; simp only [by_] at hbad h0 ⊢; omega)]
     simp only [splitN, hlab, labelsEnd]
     rw [List.drop_drop]
     simp
  ·rw [if_neg (by omega)]
   refine hstop ?_ (.inl (by omega))
   rw [List.drop_of_length_le (by omega)]; rfl
theorem derrickref02_Labels.eq (n : Str) (hp : derrickref02_Labels.pre n) : ∃ kf, derrickref02_Labels.f kf n = some (derrickref02_Labels n) := by
 refine ⟨n.length + 1, ?_⟩
 have := rLabels_lp n hp (n.length + 1) 0 [] (by omega) (by omega) (by simp)
 unfold derrickref02_Labels.f
 rw [show ((0 : Nat) : Int) = 0 from rfl] at this
 rw [this]
 simp only [labelsEnd, derrickref02_Labels, name_Labels, split, List.drop_zero, List.nil_append]
 rfl
def toK (l : List Place) : List (Str × Int) := l.map fun x => (x.nm, x.at_)
def derrickref03_known (p : RPack) (n : Str) : Int := (List.lookup n (toK p.l)).getD (-1)
def derrickref03_known.pre (p : RPack) (n : Str) : Prop := p.l.length ≤ 1000000000
instance i_derrickref03_known (p : RPack) (n : Str) : Decidable (derrickref03_known.pre p n) := by unfold derrickref03_known.pre; infer_instance
theorem rd_at {α : Type} [Inhabited α] {l : List α} {i : Nat} (h : i < l.length) : rd l (i : Int) = l[i] := by simp [rd, List.getD_eq_getElem?_getD, List.getElem?_eq_getElem h]
theorem known_lp (p : RPack) (n : Str) (hp : p.l.length ≤ 1000000000) : ∀ (m i : Nat), i + m = p.l.length → derrickref03_known.l1 p n (m + 1) i = some ((List.lookup n (toK (p.l.drop i))).getD (-1)) := by
 intro m
 induction m with
 | zero => intro i h; rw [derrickref03_known.l1.eq_2, if_neg (by omega), List.drop_of_length_le (by omega)]; rfl
 | succ m ih =>
  intro i h
  have hi : i < p.l.length := by omega
  have hw : w64 ((i : Int) + 1) = ((i + 1 : Nat) : Int) := by rw [w64_id (by omega) (by omega)]; omega
  rw [derrickref03_known.l1.eq_2, if_pos (by omega), if_pos (by omega), hw, rd_at hi, List.drop_eq_getElem_cons hi]
  simp only [toK, List.map_cons, List.lookup]
  by_cases hc : p.l[i].nm = n
  ·rw [if_pos hc, hc]; simp
  ·rw [if_neg hc, show (n == p.l[i].nm) = false from beq_eq_false_iff_ne.2 (fun e => hc e.symm)]
   exact ih (i + 1) (by omega)
theorem derrickref03_known.eq (p : RPack) (n : Str) (hp : derrickref03_known.pre p n) : ∃ kf, derrickref03_known.f kf p n = some (derrickref03_known p n) := by
 refine ⟨p.l.length + 1, ?_⟩
 have := known_lp p n hp p.l.length 0 (by omega)
 rw [List.drop_zero] at this
 exact this
/-- Are bytes labels, and a byte 0 behind all? -/
def endsN (s : Str) : Nat → Nat → Bool
 | 0, _ => false
 | k + 1, a => if a < s.length then (if by_ s a = 0 then a + 1 == s.length else endsN s k (a + 1 + by_ s a)) else false
def derrickref03_ends (s : Str) : Bool := endsN s (s.length + 1) 0
def derrickref03_ends.pre (s : Str) : Prop := s.length ≤ 1000000
instance i_derrickref03_ends (s : Str) : Decidable (derrickref03_ends.pre s) := by unfold derrickref03_ends.pre; infer_instance
theorem by_lt (s : Str) (a : Nat) : by_ s a < 256 := (s.getD a 0).toNat_lt
theorem w_by (s : Str) (a : Nat) : w64 ((by_ s a : Nat) : Int) = ((by_ s a : Nat) : Int) := by have := by_lt s a; exact w64_id (by omega) (by omega)
theorem w_next {s : Str} {a : Nat} (ha : a ≤ 2000000) : w64 (w64 ((a : Int) + 1) + ((by_ s a : Nat) : Int)) = ((a + 1 + by_ s a : Nat) : Int) := by
 have := by_lt s a
 rw [w64_id (x := (a : Int) + 1) (by omega) (by omega), w64_id (by omega) (by omega)]; omega
theorem ends_lp (s : Str) (hs : s.length ≤ 1000000) : ∀ (k a : Nat), s.length ≤ a + k → a ≤ s.length + 256 → derrickref03_ends.l1 s (k + 1) a = some (endsN s (k + 1) a) := by
 intro k
 induction k with
 | zero =>
  intro a h1 h2
  rw [derrickref03_ends.l1.eq_2]
  simp only [endsN]
  rw [if_neg (by omega), if_neg (by omega)]
 | succ k ih =>
  intro a h1 h2
  rw [derrickref03_ends.l1.eq_2]
  rw [show endsN s (k + 1 + 1) a = if a < s.length then (if by_ s a = 0 then a + 1 == s.length else endsN s (k + 1) (a + 1 + by_ s a)) else false from rfl]
  by_cases ha : a < s.length
  ·have hlt := by_lt s a
   rw [if_pos (by omega), if_pos ha, if_pos (by omega), bt_by]
   by_cases h0 : by_ s a = 0
   ·rw [if_pos (by omega), if_pos h0, w64_id (by omega) (by omega)]
    congr 1
    rw [Bool.eq_iff_iff, beq_iff_eq, beq_iff_eq]; omega
   ·rw [if_neg (by omega), if_neg h0, w_by, w_next (by omega)]
    exact ih _ (by omega) (by omega)
  ·rw [if_neg (by omega), if_neg ha]
theorem derrickref03_ends.eq (s : Str) (hp : derrickref03_ends.pre s) : ∃ kf, derrickref03_ends.f kf s = some (derrickref03_ends s) :=
 ⟨s.length + 1, ends_lp s hp s.length 0 (by omega) (by omega)⟩
/-- The labels from a place on, up to a byte 0, or a pointer; where they end. -/
def labelsAt (s : Str) (frm : Nat) : Nat → Nat → Str × Int
 | 0, _ => ([], -1)
 | k + 1, a => if a < s.length then (if 192 ≤ by_ s a then ((s.drop frm).take (a - frm), (a : Int)) else if 63 < by_ s a then ([], -1) else if by_ s a = 0 then ((s.drop frm).take (a + 1 - frm), ((a + 1 : Nat) : Int)) else labelsAt s frm k (a + 1 + by_ s a)) else ([], -1)
def derrickref03_labels (s : Str) (a : Int) : Str × Int := if a < 0 then ([], -1) else labelsAt s a.toNat (s.length + 1) a.toNat
def derrickref03_labels.pre (s : Str) (a : Int) : Prop := s.length ≤ 1000000
instance i_derrickref03_labels (s : Str) (a : Int) : Decidable (derrickref03_labels.pre s a) := by unfold derrickref03_labels.pre; infer_instance
theorem labels_lp (s : Str) (frm : Nat) (hs : s.length ≤ 1000000) : ∀ (k a : Nat), s.length ≤ a + k → frm ≤ a → derrickref03_labels.l1 s frm (k + 1) a = some (labelsAt s frm (k + 1) a) := by
 intro k
 induction k with
 | zero =>
  intro a h1 h2
  rw [derrickref03_labels.l1.eq_2, if_pos (by omega), decide_eq_false (by omega)]
  unfold derrickref03_labels.j2
  simp only [labelsAt]
  rw [if_neg (by simp), if_neg (by omega)]
 | succ k ih =>
  intro a h1 h2
  rw [derrickref03_labels.l1.eq_2, if_pos (by omega)]
  rw [show labelsAt s frm (k + 1 + 1) a = if a < s.length then (if 192 ≤ by_ s a then ((s.drop frm).take (a - frm), (a : Int)) else if 63 < by_ s a then ([], -1) else if by_ s a = 0 then ((s.drop frm).take (a + 1 - frm), ((a + 1 : Nat) : Int)) else labelsAt s frm (k + 1) (a + 1 + by_ s a)) else ([], -1) from rfl]
  unfold derrickref03_labels.j2
  by_cases ha : a < s.length
  ·have hlt := by_lt s a
   have hw1 : w64 ((a : Int) + 1) = ((a + 1 : Nat) : Int) := by rw [w64_id (by omega) (by omega)]; omega
   rw [decide_eq_true (by omega), if_pos rfl, if_pos ha, if_pos (by omega), if_pos (by omega), bt_by, w_by]
   by_cases h1 : 192 ≤ by_ s a
   ·rw [if_pos (by omega), if_pos h1, if_pos (by omega), if_pos (by omega), if_pos (by omega)]
    simp
   ·rw [if_neg (by omega), if_neg h1]
    by_cases h63 : 63 < by_ s a
    ·rw [if_pos (by omega), if_pos h63]
    ·rw [if_neg (by omega), if_neg h63]
     by_cases h0 : by_ s a = 0
     ·rw [if_pos (by omega), if_pos h0, hw1, if_pos (by omega), if_pos (by omega), if_pos (by omega)]
      simp
     ·rw [if_neg (by omega), if_neg h0, w_next (by omega)]
      exact ih _ (by omega) (by omega)
  ·rw [decide_eq_false (by omega), if_neg (by simp), if_neg ha]
theorem derrickref03_labels.eq (s : Str) (a : Int) (hp : derrickref03_labels.pre s a) : ∃ kf, derrickref03_labels.f kf s a = some (derrickref03_labels s a) := by
 unfold derrickref03_labels.pre at hp
 refine ⟨s.length + 1, ?_⟩
 unfold derrickref03_labels.f derrickref03_labels
 by_cases ha : a < 0
 ·rw [derrickref03_labels.l1.eq_2, if_neg (by omega), if_pos ha]
  unfold derrickref03_labels.j2
  rw [if_neg (by simp)]
 ·rw [if_neg ha]
  obtain ⟨n, rfl⟩ := Int.eq_ofNat_of_zero_le (by omega : 0 ≤ a)
  have := labels_lp s n hp s.length n (by omega) (Nat.le_refl _)
  simpa using this
def textsN : Nat → Str → Bool
 | 0, _ => false
 | k + 1, x => if x = [] then true else if x.length < 1 + by_ x 0 then false else textsN k (x.drop (1 + by_ x 0))
def derrickref04_texts (s : Str) : Bool := rdata_strings s
def derrickref04_texts.pre (s : Str) : Prop := s.length ≤ 1000000
instance i_derrickref04_texts (s : Str) : Decidable (derrickref04_texts.pre s) := by unfold derrickref04_texts.pre; infer_instance
theorem by_cons (s : Str) (a : Nat) : by_ (s.drop a) 0 = by_ s a := by
 simp only [by_, List.getD_eq_getElem?_getD, List.getElem?_drop, Nat.add_zero]
theorem texts_lp : ∀ (k : Nat) (x : Str), x.length ≤ 1000000 → x.length < k → derrickref04_texts.l1 k x = some (textsN k x) := by
 intro k
 induction k with
 | zero => intro x h1 h2; omega
 | succ k ih =>
  intro x h1 h2
  rw [derrickref04_texts.l1.eq_2]
  simp only [textsN]
  by_cases hx : x = []
  ·rw [if_pos hx, if_pos hx]
  ·have hl : 0 < x.length := List.length_pos_iff.2 hx
   have hlt := by_lt x 0
   have hb : bt x 0 = ((by_ x 0 : Nat) : Int) := rfl
   have hw : w64 (1 + ((by_ x 0 : Nat) : Int)) = ((1 + by_ x 0 : Nat) : Int) := by rw [w64_id (by omega) (by omega)]; omega
   rw [if_neg hx, if_neg hx, if_pos (by omega), hb, w_by, hw]
   by_cases hc : x.length < 1 + by_ x 0
   ·rw [if_pos (by omega), if_pos hc]
   ·rw [if_neg (by omega), if_neg hc, if_pos (by omega), if_pos (by omega), show ((1 + by_ x 0 : Nat) : Int).toNat = 1 + by_ x 0 by omega]
    exact ih _ (by simp; omega) (by simp; omega)
theorem sAt_texts (s : Str) : ∀ (k a : Nat), a ≤ s.length → s.length < a + k → (sAt s k a == s.length) = textsN k (s.drop a) := by
 intro k
 induction k with
 | zero => intro a h1 h2; omega
 | succ k ih =>
  intro a h1 h2
  simp only [sAt, textsN]
  by_cases ha : a < s.length
  ·have hne : s.drop a ≠ [] := by intro h; have := congrArg List.length h; simp at this; omega
   rw [if_pos ha, if_neg hne, by_cons]
   by_cases hc : (s.drop a).length < 1 + by_ s a
   ·rw [if_pos hc]
    have hst : ∀ k b, s.length < b → sAt s k b = b := by
     intro k b hb
     cases k with
     | zero => rfl
     | succ k => simp only [sAt]; rw [if_neg (by omega)]
    simp at hc
    have e : a + 1 + (s.getD a 0).toNat = a + 1 + by_ s a := rfl
    rw [e, hst _ _ (by omega), beq_eq_false_iff_ne]; omega
   ·rw [if_neg hc]
    simp at hc
    have := ih (a + 1 + by_ s a) (by omega) (by omega)
    rw [List.drop_drop, show a + (1 + by_ s a) = a + 1 + by_ s a by omega]
    exact this
  ·have : a = s.length := by omega
   subst this
   rw [if_neg (by omega), if_pos (List.drop_of_length_le (Nat.le_refl _))]; simp
theorem derrickref04_texts.eq (s : Str) (hp : derrickref04_texts.pre s) : ∃ kf, derrickref04_texts.f kf s = some (derrickref04_texts s) := by
 refine ⟨s.length + 1, ?_⟩
 unfold derrickref04_texts.f derrickref04_texts rdata_strings
 by_cases hs : s = []
 ·rw [if_pos hs, hs]; rfl
 ·rw [if_neg hs, texts_lp _ _ hp (by omega), sAt_texts s (s.length + 1) 0 (by omega) (by omega), show (s == []) = false from beq_eq_false_iff_ne.2 hs]
  simp
end Go.Proofs.Ytfcaekghpkpjdaa.K

/- Pure functions, printed by a program of this session out of the loaded code. -/
namespace Go.Proofs.Ytfcaekghpkpjdaa.K
open Go Go.RowKit
set_option linter.unusedVariables false
/-- derrickref01.Put32 -/
def derrickref01_Put32.f (a1 : Int) : Option (Str) :=
 (lt (derrickref01_Put16 (w16 (w32 (Int.tdiv a1 65536)))) fun r9 => (lt (derrickref01_Put16 (w16 (Int.tmod a1 65536))) fun r14 => (if r9.length + r14.length ≤ 9223372036854775807 then some (r9 ++ r14) else none)))
/-- derrickref01.U16 -/
def derrickref01_U16.f (a1 : Str) (a2 : Int) : Option (Int × Int × Int) :=
 (lt (derrickref01_there a1 a2 2) fun r22 => (if r22 = true then (if 0 ≤ a2 then (if a2 < (a1.length : Int) then (if 0 ≤ w64 (a2 + 1) then (if w64 (a2 + 1) < (a1.length : Int) then some (w16 ((w16 (256 * (w16 (bt a1 a2)))) + (w16 (bt a1 (w64 (a2 + 1))))), w64 (a2 + 2), 0) else none) else none) else none) else none) else some (0, 0, 2)))
/-- derrickref01.Some -/
def derrickref01_Some.l1 (a3 : Int) (a2 : Int) (a1 : Str) : Nat → List Int → Int → Option (Str × Int × Int)
 | 0, _, _ => none
 | kf344 + 1, l347, x351 => (if x351 < a3 then (if 0 ≤ w64 (a2 + x351) then (if w64 (a2 + x351) < (a1.length : Int) then (if (l347.length + 1) * 1 ≤ 140737488355328 then ((derrickref01_Some.l1 a3 a2 a1 kf344) (l347 ++ [bt a1 (w64 (a2 + x351))]) (w64 (x351 + 1))) else none) else none) else none) else some (strOf l347, w64 (a2 + a3), 0))
def derrickref01_Some.f (kf : Nat) (a1 : Str) (a2 : Int) (a3 : Int) : Option (Str × Int × Int) :=
 (lt (derrickref01_there a1 a2 a3) fun r24 => (if r24 = true then (derrickref01_Some.l1 a3 a2 a1 kf ([] : List Int) 0) else some (([] : Str), 0, 2)))
/-- derrickref02.Fold -/
def derrickref02_Fold.l1 (a1 : Str) : Nat → List Int → Int → Option (Str)
 | 0, _, _ => none
 | kf346 + 1, l349, x353 => (if x353 < (a1.length : Int) then (if 0 ≤ x353 then (lt (derrickref02_low (bt a1 x353)) fun r396 => (if (l349.length + 1) * 1 ≤ 140737488355328 then ((derrickref02_Fold.l1 a1 kf346) (l349 ++ [r396]) (w64 (x353 + 1))) else none)) else none) else some (strOf l349))
def derrickref02_Fold.f (kf : Nat) (a1 : Str) : Option (Str) :=
 (derrickref02_Fold.l1 a1 kf ([] : List Int) 0)
/-- derrickref03.Add -/
def derrickref03_Add.f (a1 : RPack) (a6 : Str) : Option (RPack) :=
 (if a1.s.length + a6.length ≤ 9223372036854775807 then some ((⟨a1.s ++ a6, a1.l⟩ : RPack)) else none)
end Go.Proofs.Ytfcaekghpkpjdaa.K

namespace Go.Proofs.Ytfcaekghpkpjdaa.K
open Go
set_option linter.unusedVariables false
set_option maxRecDepth 100000
def derrickref01_Put32 (n : Int) : Str := octet_Put32 n
def derrickref01_Put32.pre (n : Int) : Prop := 0 ≤ n ∧ n < 4294967296
instance i_derrickref01_Put32 (n : Int) : Decidable (derrickref01_Put32.pre n) := by unfold derrickref01_Put32.pre; infer_instance
theorem derrickref01_Put32.eq (n : Int) (hp : derrickref01_Put32.pre n) : derrickref01_Put32.f n = some (derrickref01_Put32 n) := by
 obtain ⟨h0, h1⟩ := hp
 obtain ⟨m, rfl⟩ := Int.eq_ofNat_of_zero_le h0
 unfold derrickref01_Put32.f derrickref01_Put32 lt
 have e1 : w16 (w32 (Int.tdiv (m : Int) 65536)) = ((m / 65536 : Nat) : Int) := by
  rw [Int.tdiv_eq_ediv_of_nonneg (by omega), w32_eq, w16_eq]; omega
 have e2 : w16 (Int.tmod (m : Int) 65536) = ((m % 65536 : Nat) : Int) := by
  rw [Int.tmod_eq_emod_of_nonneg (by omega), w16_eq]; omega
 rw [e1, e2, rPut16_eq (by omega) (by omega), rPut16_eq (by omega) (by omega), Put16_eq _ (by omega), Put16_eq _ (by omega), Put32_eq _ (by omega)]
 simp only []
 rw [if_pos (by simp)]
 simp only [List.cons_append, List.nil_append]
 rw [show m / 65536 / 256 = m / 16777216 by omega, show m / 65536 % 256 = m / 65536 % 256 from rfl, show m % 65536 / 256 = m / 256 % 256 by omega, show m % 65536 % 256 = m % 256 by omega]
def derrickref01_U16 (s : Str) (a : Int) : Int × Int × Int := octet_U16 s a
def derrickref01_U16.pre (s : Str) (a : Int) : Prop := s.length ≤ 1000000
instance i_derrickref01_U16 (s : Str) (a : Int) : Decidable (derrickref01_U16.pre s a) := by unfold derrickref01_U16.pre; infer_instance
theorem derrickref01_U16.eq (s : Str) (a : Int) (hp : derrickref01_U16.pre s a) : derrickref01_U16.f s a = some (derrickref01_U16 s a) := by
 unfold derrickref01_U16.pre at hp
 unfold derrickref01_U16.f derrickref01_U16 lt
 rw [there_eq (by omega), U16_eq]
 by_cases h : 0 ≤ a ∧ 0 ≤ (2 : Int) ∧ a + 2 ≤ s.length
 ·have h1 := bt_lt s a
  have h2 := bt_lt s (a + 1)
  simp only []
  rw [decide_eq_true h, if_pos rfl, w64_id (x := a + 1) (by omega) (by omega), w64_id (x := a + 2) (by omega) (by omega), if_pos (by omega), if_pos (by omega), if_pos (by omega), if_pos (by omega), if_neg (by omega)]
  have e : w16 (w16 (256 * w16 (bt s a)) + w16 (bt s (a + 1))) = bt s a * 256 + bt s (a + 1) := by
   simp only [w16_eq]; omega
  rw [e]
 ·simp only []
  rw [decide_eq_false h, if_neg (by simp), if_pos (by omega)]
def derrickref01_Some (s : Str) (a m : Int) : Str × Int × Int := octet_Some s a m
def derrickref01_Some.pre (s : Str) (a m : Int) : Prop := s.length ≤ 1000000
instance i_derrickref01_Some (s : Str) (a m : Int) : Decidable (derrickref01_Some.pre s a m) := by unfold derrickref01_Some.pre; infer_instance
theorem take_succ_at {s : Str} {a i : Nat} (h : a + i < s.length) : (s.drop a).take (i + 1) = (s.drop a).take i ++ [s.getD (a + i) 0] := by
 rw [List.take_succ_eq_append_getElem (by simp; omega)]
 congr 1
 rw [getD_at h]; simp
theorem some_lp (s : Str) (a m : Nat) (hs : s.length ≤ 1000000) (ham : a + m ≤ s.length) : ∀ (k i : Nat), i + k = m → derrickref01_Some.l1 m a s (k + 1) (bytesI ((s.drop a).take i)) i = some ((s.drop a).take m, ((a + m : Nat) : Int), 0) := by
 intro k
 induction k with
 | zero =>
  intro i h
  rw [derrickref01_Some.l1.eq_2, if_neg (by omega), w64_id (by omega) (by omega)]
  have : i = m := by omega
  subst this
  have hb : strOf (bytesI ((s.drop a).take i)) = (s.drop a).take i := by
   simp only [strOf, bytesI, List.map_map]
   have : ((fun x : Int => UInt8.ofNat x.toNat) ∘ fun b : UInt8 => (b.toNat : Int)) = id := by funext b; simp
   rw [this, List.map_id]
  rw [hb]; congr 1
 | succ k ih =>
  intro i h
  have hw : w64 ((i : Int) + 1) = ((i + 1 : Nat) : Int) := by rw [w64_id (by omega) (by omega)]; omega
  have hw2 : w64 ((a : Int) + (i : Int)) = ((a + i : Nat) : Int) := by rw [w64_id (by omega) (by omega)]; omega
  rw [derrickref01_Some.l1.eq_2, if_pos (by omega), hw2, if_pos (by omega), if_pos (by omega), if_pos (by simp [bytesI]; omega), hw, bt_by]
  have e : bytesI ((s.drop a).take i) ++ [((by_ s (a + i) : Nat) : Int)] = bytesI ((s.drop a).take (i + 1)) := by
   rw [take_succ_at (by omega)]; simp [bytesI, by_]
  rw [e]
  exact ih (i + 1) (by omega)
theorem derrickref01_Some.eq (s : Str) (a m : Int) (hp : derrickref01_Some.pre s a m) : ∃ kf, derrickref01_Some.f kf s a m = some (derrickref01_Some s a m) := by
 unfold derrickref01_Some.pre at hp
 refine ⟨m.toNat + 1, ?_⟩
 unfold derrickref01_Some.f derrickref01_Some lt
 rw [there_eq (by omega)]
 by_cases h : 0 ≤ a ∧ 0 ≤ m ∧ a + m ≤ s.length
 ·simp only []
  rw [decide_eq_true h, if_pos rfl]
  obtain ⟨a', rfl⟩ := Int.eq_ofNat_of_zero_le h.1
  obtain ⟨m', rfl⟩ := Int.eq_ofNat_of_zero_le h.2.1
  have := some_lp s a' m' hp (by omega) m' 0 (by omega)
  rw [Some_ok (by omega)]
  simpa [bytesI] using this
 ·simp only []
  rw [decide_eq_false h, if_neg (by simp), some_bad (by omega)]
def derrickref02_Fold (s : Str) : Str := name_Fold s
def derrickref02_Fold.pre (s : Str) : Prop := s.length ≤ 100000000
instance i_derrickref02_Fold (s : Str) : Decidable (derrickref02_Fold.pre s) := by unfold derrickref02_Fold.pre; infer_instance
theorem strOf_bytes (s : Str) : strOf (bytesI s) = s := by
 simp only [strOf, bytesI, List.map_map]
 have : ((fun x : Int => UInt8.ofNat x.toNat) ∘ fun b : UInt8 => (b.toNat : Int)) = id := by funext b; simp
 rw [this, List.map_id]
theorem rfold_lp (s : Str) (hs : s.length ≤ 100000000) : ∀ (k i : Nat), i + k = s.length → derrickref02_Fold.l1 s (k + 1) (bytesI (name_Fold (s.take i))) i = some (name_Fold s) := by
 intro k
 induction k with
 | zero =>
  intro i h
  rw [derrickref02_Fold.l1.eq_2, if_neg (by omega), strOf_bytes, List.take_of_length_le (by omega)]
 | succ k ih =>
  intro i h
  have hi : i < s.length := by omega
  have hw : w64 ((i : Int) + 1) = ((i + 1 : Nat) : Int) := by rw [w64_id (by omega) (by omega)]; omega
  rw [derrickref02_Fold.l1.eq_2, if_pos (by omega), if_pos (by omega)]
  simp only [lt]
  rw [if_pos (by simp [bytesI, name_Fold]; omega), hw, bt_by]
  have e : bytesI (name_Fold (s.take i)) ++ [derrickref02_low ((by_ s i : Nat) : Int)] = bytesI (name_Fold (s.take (i + 1))) := by
   rw [show ((by_ s i : Nat) : Int) = ((s[i]).toNat : Int) by simp only [by_, getD_at hi], rlow_eq, List.take_succ_eq_append_getElem hi, fold_append]
   simp only [bytesI, List.map_append]
   rfl
  rw [e]
  exact ih (i + 1) (by omega)
theorem derrickref02_Fold.eq (s : Str) (hp : derrickref02_Fold.pre s) : ∃ kf, derrickref02_Fold.f kf s = some (derrickref02_Fold s) :=
 ⟨s.length + 1, rfold_lp s hp s.length 0 (by omega)⟩
def derrickref03_Add (p : RPack) (s : Str) : RPack := ⟨p.s ++ s, p.l⟩
def derrickref03_Add.pre (p : RPack) (s : Str) : Prop := p.s.length + s.length ≤ 100000000000
instance i_derrickref03_Add (p : RPack) (s : Str) : Decidable (derrickref03_Add.pre p s) := by unfold derrickref03_Add.pre; infer_instance
theorem derrickref03_Add.eq (p : RPack) (s : Str) (hp : derrickref03_Add.pre p s) : derrickref03_Add.f p s = some (derrickref03_Add p s) := by
 unfold derrickref03_Add.pre at hp
 unfold derrickref03_Add.f
 rw [if_pos (by omega)]; rfl
end Go.Proofs.Ytfcaekghpkpjdaa.K

/- Pure functions, printed by a program of this session out of the loaded code. -/
namespace Go.Proofs.Ytfcaekghpkpjdaa.K
open Go Go.RowKit
set_option linter.unusedVariables false
/-- derrickref01.U32 -/
def derrickref01_U32.f (a1 : Str) (a2 : Int) : Option (Int × Int × Int) :=
 (lt (derrickref01_there a1 a2 4) fun r22 => (if r22 = true then (if derrickref01_U16.pre a1 a2 then (lt (derrickref01_U16 a1 a2) fun r31 => (if derrickref01_U16.pre a1 r31.2.1 then (lt (derrickref01_U16 a1 r31.2.1) fun r39 => some (w32 ((w32 (65536 * (w32 r31.1))) + (w32 r39.1)), r39.2.1, 0)) else none)) else none) else some (0, 0, 2)))
/-- derrickref02.May -/
def derrickref02_May.f (a1 : Str) : Option (Bool) :=
 (if derrickref02_Labels.pre a1 then (lt (derrickref02_Labels a1) fun r10 => (if r10.2 = 0 then (if derrickref02_Fold.pre a1 then (lt (derrickref02_Fold a1) fun r24 => some ((r24 == a1))) else none) else some (false))) else none)
/-- derrickref03.Take -/
def derrickref03_Take.j1  (x336 : Str) (x337 : Int) : Option (Str × Int × Int) :=
 (if 255 < (x336.length : Int) then some (([] : Str), 0, 2) else (if derrickref02_Fold.pre x336 then (lt (derrickref02_Fold x336) fun r360 => some (r360, x337, 0)) else none))
def derrickref03_Take.j5 (cl539 : Int → Str → Int → Option (Str × Int × Int)) (r631 : Int × Int × Int) (x530 : Str) (r546 : Str × Int) (x667 : Int) : Option (Str × Int × Int) :=
 (cl539 (Int.tmod (w64 r631.1) 16384) (x530 ++ r546.1) x667)
def derrickref03_Take.j4 (x531 : Int) (cl539 : Int → Str → Int → Option (Str × Int × Int)) (r631 : Int × Int × Int) (x530 : Str) (r546 : Str × Int) (x652 : Bool) : Option (Str × Int × Int) :=
 (if x652 = true then some (([] : Str), 0, 2) else (if x531 < 0 then (derrickref03_Take.j5 cl539 r631 x530 r546 r631.2.1) else (derrickref03_Take.j5 cl539 r631 x530 r546 x531)))
def derrickref03_Take.j3 (x531 : Int) (x530 : Str) (r546 : Str × Int) (a1 : Str) (cl539 : Int → Str → Int → Option (Str × Int × Int)) (x529 : Int) (x610 : Bool) : Option (Str × Int × Int) :=
 (if x610 = true then (if x531 < 0 then (derrickref03_Take.j1 (x530 ++ r546.1) r546.2) else (derrickref03_Take.j1 (x530 ++ r546.1) x531)) else (if derrickref01_U16.pre a1 r546.2 then (lt (derrickref01_U16 a1 r546.2) fun r631 => (if r631.2.2 = 0 then (derrickref03_Take.j4 x531 cl539 r631 x530 r546 (decide (x529 ≤ (Int.tmod (w64 r631.1) 16384)))) else (derrickref03_Take.j4 x531 cl539 r631 x530 r546 true))) else none))
def derrickref03_Take.l2 (a1 : Str) : Nat → Int → Str → Int → Option (Str × Int × Int)
 | 0, _, _, _ => none
 | kf528 + 1, x529, x530, x531 => (if derrickref03_labels.pre a1 x529 then (lt (derrickref03_labels a1 x529) fun r546 => (if r546.2 < 0 then some (([] : Str), 0, 2) else (if x530.length + r546.1.length ≤ 9223372036854775807 then (if r546.1 = ([] : Str) then (derrickref03_Take.j3 x531 x530 r546 a1 (derrickref03_Take.l2 a1 kf528) x529 false) else (if 0 ≤ w64 ((r546.1.length : Int) - 1) then (if w64 ((r546.1.length : Int) - 1) < (r546.1.length : Int) then (if (bt r546.1 (w64 ((r546.1.length : Int) - 1))) = 0 then (if derrickref03_ends.pre r546.1 then (lt (derrickref03_ends r546.1) fun r686 => (derrickref03_Take.j3 x531 x530 r546 a1 (derrickref03_Take.l2 a1 kf528) x529 r686)) else none) else (derrickref03_Take.j3 x531 x530 r546 a1 (derrickref03_Take.l2 a1 kf528) x529 false)) else none) else none)) else none))) else none)
def derrickref03_Take.f (kf : Nat) (a1 : Str) (a2 : Int) : Option (Str × Int × Int) :=
 (derrickref03_Take.l2 a1 kf a2 [] (-1))
end Go.Proofs.Ytfcaekghpkpjdaa.K

/- Names that are taken: label by label, and piece by piece. -/
namespace Go.Proofs.Ytfcaekghpkpjdaa.K
open Go
set_option linter.unusedVariables false
set_option linter.unusedSimpArgs false
/-- Labels, one behind the other, from a place to another. -/
inductive Ch (s : Str) : Nat → Nat → Prop where
 | nil (a : Nat) : Ch s a a
 | step {a e : Nat} (ha : a < s.length) (h0 : 0 < by_ s a) (h1 : by_ s a ≤ 63) (h : Ch s (a + 1 + by_ s a) e) : Ch s a e
theorem Ch.le {s : Str} {a e : Nat} (h : Ch s a e) : a ≤ e := by
 induction h with
 | nil => exact Nat.le_refl _
 | step _ _ _ _ ih => omega
theorem labelsAt_spec (s : Str) (f : Nat) : ∀ (k a : Nat), s.length ≤ a + k → ∃ e, Ch s a e ∧ (e < s.length → by_ s e = 0 ∨ 63 < by_ s e) ∧
  labelsAt s f (k + 1) a = if e < s.length then (if 192 ≤ by_ s e then ((s.drop f).take (e - f), (e : Int)) else if 63 < by_ s e then ([], -1) else ((s.drop f).take (e + 1 - f), ((e + 1 : Nat) : Int))) else ([], -1) := by
 intro k
 induction k with
 | zero =>
  intro a h
  refine ⟨a, .nil a, by omega, ?_⟩
  simp only [labelsAt]
  rw [if_neg (by omega), if_neg (by omega)]
 | succ k ih =>
  intro a h
  by_cases ha : a < s.length
  ·by_cases hc : 0 < by_ s a ∧ by_ s a ≤ 63
   ·obtain ⟨e, e1, e2, e3⟩ := ih (a + 1 + by_ s a) (by omega)
    refine ⟨e, .step ha hc.1 hc.2 e1, e2, ?_⟩
    rw [show labelsAt s f (k + 1 + 1) a = if a < s.length then (if 192 ≤ by_ s a then ((s.drop f).take (a - f), (a : Int)) else if 63 < by_ s a then ([], -1) else if by_ s a = 0 then ((s.drop f).take (a + 1 - f), ((a + 1 : Nat) : Int)) else labelsAt s f (k + 1) (a + 1 + by_ s a)) else ([], -1) from rfl]
    rw [if_pos ha, if_neg (by omega), if_neg (by omega), if_neg (by omega), e3]
   ·refine ⟨a, .nil a, fun _ => by omega, ?_⟩
    simp only [labelsAt]
    rw [if_pos ha, if_pos ha]
    by_cases h1 : 192 ≤ by_ s a
    ·rw [if_pos h1, if_pos h1]
    ·rw [if_neg h1, if_neg h1]
     by_cases h2 : 63 < by_ s a
     ·rw [if_pos h2, if_pos h2]
     ·rw [if_neg h2, if_neg h2, if_pos (by omega)]
  ·refine ⟨a, .nil a, by omega, ?_⟩
   simp only [labelsAt]
   rw [if_neg ha, if_neg ha]
/-! ### The steps of what is taken that fail -/
theorem U8_bad {s : Str} {a : Int} (h : a < 0 ∨ (s.length : Int) ≤ a) : octet_U8 s a = (0, 0, 2) := by rw [U8_eq, if_pos h]
theorem takeN_out {s : Str} {k : Nat} {a f beh : Int} {b : Str} (h : a < 0 ∨ (s.length : Int) ≤ a) : takeN s k a f beh b = ([], 0, 2) := by
 cases k with
 | zero => rfl
 | succ k => simp only [takeN, U8_bad h]; rw [if_pos (by omega)]
theorem takeN_bad {s : Str} {k a : Nat} {f beh : Int} {b : Str} (ha : a < s.length) (h : 63 < by_ s a ∧ by_ s a < 192) : takeN s k a f beh b = ([], 0, 2) := by
 cases k with
 | zero => rfl
 | succ k => simp only [takeN, U8_ok ha]; rw [if_pos (by omega)]
theorem takeN_ptrbad {s : Str} {k a : Nat} {f beh : Int} {b : Str} (ha : a < s.length) (h : 192 ≤ by_ s a) (hb : s.length < a + 2 ∨ f ≤ (((by_ s a * 256 + by_ s (a + 1)) % 16384 : Nat) : Int)) : takeN s k a f beh b = ([], 0, 2) := by
 cases k with
 | zero => rfl
 | succ k =>
  simp only [takeN, U8_ok ha]
  rw [if_neg (by omega), if_pos (by omega)]
  by_cases h2 : s.length < a + 2
  ·have : octet_U16 s (a : Int) = (0, 0, 2) := by rw [U16_eq, if_pos (by omega)]
   rw [this, if_neg (by simp)]
  ·rw [U16_ok (by omega)]
   have h1 := by_lt s a
   have h3 := by_lt s (a + 1)
   rw [andNot14 (by omega), if_neg (by omega)]
theorem takeN_short {s : Str} {k a : Nat} {f beh : Int} {b : Str} (ha : a < s.length) (h : by_ s a ≤ 63) (hb : s.length < a + 1 + by_ s a ∨ 255 < b.length + 1 + by_ s a) : takeN s k a f beh b = ([], 0, 2) := by
 cases k with
 | zero => rfl
 | succ k =>
  simp only [takeN, U8_ok ha]
  rw [if_neg (by omega), if_neg (by omega)]
  by_cases h2 : s.length < a + 1 + by_ s a
  ·rw [some_bad (by omega), if_pos (by simp)]
  ·have e := Some_ok (s := s) (a := a + 1) (m := by_ s a) (by omega)
   rw [show ((a : Int) + 1) = ((a + 1 : Nat) : Int) by omega, e, if_pos ?_]
   right
   simp
   omega
theorem fold_low {c : UInt8} (h : c.toNat ≤ 63) : low c = c := by
 unfold low
 rw [if_neg]
 intro h2
 have := UInt8.le_iff_toNat_le.1 h2.1
 have e : (65 : UInt8).toNat = 65 := rfl
 omega
theorem drop_split {s : Str} {a m e : Nat} (h : a + m ≤ e) : (s.drop a).take m ++ (s.drop (a + m)).take (e - (a + m)) = (s.drop a).take (e - a) := by
 rw [show e - a = m + (e - (a + m)) by omega, List.take_add, List.drop_drop]
/-- A run of labels. -/
theorem takeN_chain {s : Str} {a e : Nat} (h : Ch s a e) : ∀ (k : Nat) (f beh : Int) (b : Str), f.toNat + 256 < b.length + k → b.length ≤ 255 →
  (e ≤ s.length → b.length + (e - a) ≤ 255 → ∃ k', f.toNat + 256 < b.length + (e - a) + k' ∧ takeN s k a f beh b = takeN s k' e f beh (b ++ name_Fold ((s.drop a).take (e - a)))) ∧
  ((s.length < e ∨ 255 < b.length + (e - a)) → takeN s k a f beh b = ([], 0, 2)) := by
 induction h with
 | nil a =>
  intro k f beh b h1 h2
  refine ⟨fun _ _ => ⟨k, by omega, by simp [name_Fold]⟩, fun h => takeN_out (by omega)⟩
 | @step a e ha h0 h1 h ih =>
  intro k f beh b hk hb
  have hle := h.le
  obtain ⟨k, rfl⟩ : ∃ j, k = j + 1 := ⟨k - 1, by omega⟩
  by_cases hc : s.length < a + 1 + by_ s a ∨ 255 < b.length + 1 + by_ s a
  ·refine ⟨fun q1 q2 => by omega, fun _ => takeN_short ha h1 hc⟩
  ·have hst := takeN_label (s := s) (k := k) (frm := f) (beh := beh) (b := b) h0 h1 (by omega) (by omega)
   have hll : ((s.drop (a + 1)).take (by_ s a)).length = by_ s a := by rw [List.length_take, List.length_drop]; omega
   have hb2 : (b ++ [s.getD a 0] ++ name_Fold ((s.drop (a + 1)).take (by_ s a))).length = b.length + 1 + by_ s a := by simp only [List.length_append, List.length_singleton, fold_len, hll]
   obtain ⟨i1, i2⟩ := ih k f beh (b ++ [s.getD a 0] ++ name_Fold ((s.drop (a + 1)).take (by_ s a))) (by rw [hb2]; omega) (by rw [hb2]; omega)
   rw [hst]
   rw [hb2] at i1 i2
   refine ⟨fun q1 q2 => ?_, fun q => i2 (by omega)⟩
   obtain ⟨k', e1, e2⟩ := i1 q1 (by omega)
   refine ⟨k', by omega, ?_⟩
   rw [e2]
   congr 1
   have hd : (s.drop a).take (1 + by_ s a) = s.getD a 0 :: (s.drop (a + 1)).take (by_ s a) := by
    rw [List.drop_eq_getElem_cons ha, show 1 + by_ s a = by_ s a + 1 by omega, List.take_succ_cons, getD_at ha]
   have hsp := drop_split (s := s) (a := a) (m := 1 + by_ s a) (e := e) (by omega)
   rw [← hsp, hd, fold_append]
   have hlow : name_Fold (s.getD a 0 :: (s.drop (a + 1)).take (by_ s a)) = s.getD a 0 :: name_Fold ((s.drop (a + 1)).take (by_ s a)) := by
    simp only [name_Fold, List.map_cons]; rw [fold_low h1]
   rw [hlow]
   simp [Nat.add_assoc]
/-- Enough rounds are enough. -/
theorem takeN_fuel (s : Str) : ∀ (k k' : Nat) (a f beh : Int) (b : Str), f.toNat + 256 < b.length + k → f.toNat + 256 < b.length + k' → b.length ≤ 255 → takeN s k a f beh b = takeN s k' a f beh b := by
 intro k
 induction k with
 | zero => intro k' a f beh b h; omega
 | succ k ih =>
  intro k' a f beh b h1 h2 h3
  obtain ⟨k', rfl⟩ : ∃ j, k' = j + 1 := ⟨k' - 1, by omega⟩
  simp only [takeN]
  split
  ·rfl
  split
  ·split
   ·rename_i hc
    have hq : (bAndNot .i64 (octet_U16 s a).1 49152) ≥ 0 := by
     have hr := U16_rng s a
     obtain ⟨n, hn⟩ := Int.eq_ofNat_of_zero_le hr.1
     rw [hn, andNot14 (by omega)]; omega
    exact ih _ _ _ _ _ (by omega) (by omega) h3
   ·rfl
  split
  ·rfl
  split
  ·rename_i hbad _
   have hl := fold_len (octet_Some s (octet_U8 s a).2.1 (octet_U8 s a).1).1
   exact ih _ _ _ _ _ (by simp [hl]; omega) (by simp [hl]; omega) (by simp [hl]; omega)
  ·rfl
end Go.Proofs.Ytfcaekghpkpjdaa.K

namespace Go.Proofs.Ytfcaekghpkpjdaa.K
open Go
set_option linter.unusedVariables false
set_option linter.unusedSimpArgs false
set_option maxRecDepth 100000
def derrickref01_U32 (s : Str) (a : Int) : Int × Int × Int := octet_U32 s a
def derrickref01_U32.pre (s : Str) (a : Int) : Prop := s.length ≤ 1000000
instance i_derrickref01_U32 (s : Str) (a : Int) : Decidable (derrickref01_U32.pre s a) := by unfold derrickref01_U32.pre; infer_instance
theorem derrickref01_U32.eq (s : Str) (a : Int) (hp : derrickref01_U32.pre s a) : derrickref01_U32.f s a = some (derrickref01_U32 s a) := by
 unfold derrickref01_U32.pre at hp
 unfold derrickref01_U32.f derrickref01_U32 lt
 rw [there_eq (by omega), U32_eq]
 by_cases h : 0 ≤ a ∧ 0 ≤ (4 : Int) ∧ a + 4 ≤ s.length
 ·have h1 := bt_lt s a
  have h2 := bt_lt s (a + 1)
  have h3 := bt_lt s (a + 2)
  have h4 := bt_lt s (a + 3)
  simp only []
  rw [decide_eq_true h, if_pos rfl, if_pos (show derrickref01_U16.pre s a from hp)]
  have e1 : derrickref01_U16 s a = (bt s a * 256 + bt s (a + 1), a + 2, 0) := by unfold derrickref01_U16; rw [U16_eq, if_neg (by omega)]
  have e2 : derrickref01_U16 s (a + 2) = (bt s (a + 2) * 256 + bt s (a + 3), a + 4, 0) := by
   unfold derrickref01_U16; rw [U16_eq, if_neg (by omega)]
   rw [show a + 2 + 1 = a + 3 by omega, show a + 2 + 2 = a + 4 by omega]
  rw [e1]
  simp only []
  rw [if_pos (show derrickref01_U16.pre s (a + 2) from hp), e2, if_neg (by omega)]
  simp only []
  have e3 : w32 (w32 (65536 * w32 (bt s a * 256 + bt s (a + 1))) + w32 (bt s (a + 2) * 256 + bt s (a + 3))) = ((bt s a * 256 + bt s (a + 1)) * 256 + bt s (a + 2)) * 256 + bt s (a + 3) := by
   simp only [w32_eq]; omega
  rw [e3]
 ·simp only []
  rw [decide_eq_false h, if_neg (by simp), if_pos (by omega)]
def derrickref02_May (n : Str) : Bool := name_May n
def derrickref02_May.pre (n : Str) : Prop := n.length ≤ 1000000
instance i_derrickref02_May (n : Str) : Decidable (derrickref02_May.pre n) := by unfold derrickref02_May.pre; infer_instance
theorem derrickref02_May.eq (n : Str) (hp : derrickref02_May.pre n) : derrickref02_May.f n = some (derrickref02_May n) := by
 unfold derrickref02_May.pre at hp
 unfold derrickref02_May.f lt derrickref02_May name_May
 rw [if_pos (show derrickref02_Labels.pre n from hp)]
 simp only []
 by_cases h : (derrickref02_Labels n).2 = 0
 ·have h' : (name_Labels n).2 = 0 := h
  rw [if_pos h, if_pos (show derrickref02_Fold.pre n by unfold derrickref02_Fold.pre; omega), h']; rfl
 ·have h' : ¬ (name_Labels n).2 = 0 := h
  rw [if_neg h, show ((name_Labels n).2 == 0) = false from beq_eq_false_iff_ne.2 h']; rfl
def derrickref03_Take (s : Str) (a : Int) : Str × Int × Int := wire_Take s a
def derrickref03_Take.pre (s : Str) (a : Int) : Prop := s.length ≤ 1000000
instance i_derrickref03_Take (s : Str) (a : Int) : Decidable (derrickref03_Take.pre s a) := by unfold derrickref03_Take.pre; infer_instance
theorem by_part {s : Str} {f m j : Nat} (h : j < m) : by_ ((s.drop f).take m) j = by_ s (f + j) := by
 simp only [by_, List.getD_eq_getElem?_getD, List.getElem?_take, if_pos h, List.getElem?_drop]
theorem ends_zero {s : Str} {a e : Nat} (h : Ch s a e) : ∀ (f k : Nat), f ≤ a → e < s.length → by_ s e = 0 → e + 1 ≤ a + k → endsN ((s.drop f).take (e + 1 - f)) k (a - f) = true := by
 induction h with
 | nil a =>
  intro f k h1 h2 h3 h4
  obtain ⟨k, rfl⟩ : ∃ j, k = j + 1 := ⟨k - 1, by omega⟩
  have hl : ((s.drop f).take (a + 1 - f)).length = a + 1 - f := by rw [List.length_take, List.length_drop]; omega
  simp only [endsN]
  rw [hl, if_pos (by omega), by_part (by omega), show f + (a - f) = a by omega, if_pos h3]
  simp; omega
 | @step a e ha h0 h1 h ih =>
  intro f k h2 h3 h4 h5
  have hle := h.le
  obtain ⟨k, rfl⟩ : ∃ j, k = j + 1 := ⟨k - 1, by omega⟩
  have hl : ((s.drop f).take (e + 1 - f)).length = e + 1 - f := by rw [List.length_take, List.length_drop]; omega
  simp only [endsN]
  rw [hl, if_pos (by omega), by_part (by omega), show f + (a - f) = a by omega, if_neg (by omega), show a - f + 1 + by_ s a = a + 1 + by_ s a - f by omega]
  exact ih f k (by omega) h3 h4 (by omega)
theorem ends_ptr {s : Str} {a e : Nat} (h : Ch s a e) : ∀ (f k : Nat), f ≤ a → e < s.length → endsN ((s.drop f).take (e - f)) k (a - f) = false := by
 induction h with
 | nil a =>
  intro f k h1 h2
  cases k with
  | zero => rfl
  | succ k =>
   have hl : ((s.drop f).take (a - f)).length = a - f := by rw [List.length_take, List.length_drop]; omega
   simp only [endsN]
   rw [hl, if_neg (by omega)]
 | @step a e ha h0 h1 h ih =>
  intro f k h2 h3
  have hle := h.le
  cases k with
  | zero => rfl
  | succ k =>
   have hl : ((s.drop f).take (e - f)).length = e - f := by rw [List.length_take, List.length_drop]; omega
   simp only [endsN]
   rw [hl, if_pos (by omega), by_part (by omega), show f + (a - f) = a by omega, if_neg (by omega), show a - f + 1 + by_ s a = a + 1 + by_ s a - f by omega]
   exact ih f k (by omega) h3
/-- What the reference's loop comes to. -/
def refGoal (s : Str) (a : Int) (n : Str) (beh : Int) : Str × Int × Int := if n.length ≤ 255 then takeN s (a.toNat + 600) a a beh (name_Fold n) else ([], 0, 2)
theorem r3take_lp (s : Str) (hs : s.length ≤ 1000000) : ∀ (kf : Nat) (a : Int) (n : Str) (beh : Int), (0 ≤ a → a < s.length → a < kf) → 0 < kf → n.length + kf * 1000000 ≤ 4000000000000 → derrickref03_Take.l2 s kf a n beh = some (refGoal s a n beh) := by
 intro kf
 induction kf with
 | zero => intro a n beh h1 h2; omega
 | succ kf ih =>
  intro a n beh h1 h2 h3
  rw [derrickref03_Take.l2.eq_2, if_pos (show derrickref03_labels.pre s a from hs)]
  simp only [lt]
  by_cases hout : a < 0 ∨ (s.length : Int) ≤ a
  ·have hl : derrickref03_labels s a = ([], -1) := by
    unfold derrickref03_labels
    by_cases ha : a < 0
    ·rw [if_pos ha]
    ·rw [if_neg ha]
     simp only [labelsAt]
     rw [if_neg (by omega)]
   rw [hl, if_pos (by decide)]
   unfold refGoal
   rw [takeN_out hout]
   simp
  ·obtain ⟨m, rfl⟩ := Int.eq_ofNat_of_zero_le (by omega : 0 ≤ a)
   obtain ⟨e, c1, c2, c3⟩ := labelsAt_spec s m s.length m (by omega)
   have hle := c1.le
   have hlab : derrickref03_labels s (m : Int) = (if e < s.length then (if 192 ≤ by_ s e then ((s.drop m).take (e - m), (e : Int)) else if 63 < by_ s e then ([], -1) else ((s.drop m).take (e + 1 - m), ((e + 1 : Nat) : Int))) else ([], -1)) := by
    unfold derrickref03_labels; rw [if_neg (by omega)]; exact c3
   -- what the program takes of this piece
   have hchain := fun hn : n.length ≤ 255 => takeN_chain c1 ((m : Int).toNat + 600) (m : Int) beh (name_Fold n) (by rw [fold_len]; omega) (by rw [fold_len]; exact hn)
   rw [hlab]
   by_cases he : e < s.length
   ·rw [if_pos he]
    by_cases hp : 192 ≤ by_ s e
    ·rw [if_pos hp]
     obtain ⟨pc, hpc⟩ : ∃ pc, (s.drop m).take (e - m) = pc := ⟨_, rfl⟩
     have hpl : pc.length = e - m := by rw [← hpc, List.length_take, List.length_drop]; omega
     have hends : derrickref03_ends pc = false := by
      have := ends_ptr c1 m (pc.length + 1) (Nat.le_refl _) he
      rw [hpc, Nat.sub_self] at this; exact this
     rw [hpc]
     simp only
     rw [if_neg (by omega), if_pos (by omega)]
     have hj3 : derrickref03_Take.j3 beh n (pc, (e : Int)) s (derrickref03_Take.l2 s kf) m false = some (refGoal s m n beh) := by
      unfold derrickref03_Take.j3
      rw [if_neg (by simp)]
      simp only
      rw [if_pos (show derrickref01_U16.pre s e from hs)]
      have hb1 := by_lt s e
      have hb2 := by_lt s (e + 1)
      simp only [derrickref01_U16]
      -- the program's way
      have hprog : refGoal s m n beh = (if n.length + pc.length ≤ 255 then (if s.length < e + 2 ∨ m ≤ (by_ s e * 256 + by_ s (e + 1)) % 16384 then ([], 0, 2) else refGoal s (((by_ s e * 256 + by_ s (e + 1)) % 16384 : Nat) : Int) (n ++ pc) (if beh < 0 then ((e + 2 : Nat) : Int) else beh)) else ([], 0, 2)) := by
       unfold refGoal
       by_cases hn : n.length ≤ 255
       ·rw [if_pos hn]
        obtain ⟨g1, g2⟩ := hchain hn
        rw [fold_len] at g1 g2
        by_cases hn2 : n.length + pc.length ≤ 255
        ·obtain ⟨k', g3, g4⟩ := g1 (by omega) (by omega)
         rw [if_pos hn2, g4, hpc, ← fold_append]
         by_cases hbad : s.length < e + 2 ∨ m ≤ (by_ s e * 256 + by_ s (e + 1)) % 16384
         ·rw [if_pos hbad, takeN_ptrbad he hp (by omega)]
         ·rw [if_neg hbad]
          obtain ⟨k2, rfl⟩ : ∃ j, k' = j + 1 := ⟨k' - 1, by omega⟩
          rw [takeN_ptr hp (by omega) (by omega), if_pos (show (n ++ pc).length ≤ 255 by rw [List.length_append]; exact hn2)]
          exact takeN_fuel s _ _ _ _ _ _ (by rw [fold_len, List.length_append]; omega) (by rw [fold_len, List.length_append]; omega) (by rw [fold_len, List.length_append]; omega)
        ·rw [if_neg hn2, g2 (by omega)]
       ·rw [if_neg hn, if_neg (by omega)]
      by_cases h16 : s.length < e + 2
      ·have : octet_U16 s (e : Int) = (0, 0, 2) := by rw [U16_eq, if_pos (by omega)]
       rw [this]
       try simp only [lt]
       rw [if_neg (by decide)]
       unfold derrickref03_Take.j4
       rw [if_pos rfl, hprog]
       split <;> simp [h16]
      ·rw [U16_ok (by omega)]
       try simp only [lt]
       rw [if_pos trivial]
       have hw : w64 ((by_ s e * 256 + by_ s (e + 1) : Nat) : Int) = ((by_ s e * 256 + by_ s (e + 1) : Nat) : Int) := w64_id (by omega) (by omega)
       have hmod : Int.tmod ((by_ s e * 256 + by_ s (e + 1) : Nat) : Int) 16384 = (((by_ s e * 256 + by_ s (e + 1)) % 16384 : Nat) : Int) := by
        rw [Int.tmod_eq_emod_of_nonneg (by omega)]; omega
       rw [hw, hmod]
       unfold derrickref03_Take.j4
       obtain ⟨q, hq⟩ : ∃ q, (by_ s e * 256 + by_ s (e + 1)) % 16384 = q := ⟨_, rfl⟩
       have hj5 : ∀ z, derrickref03_Take.j5 (derrickref03_Take.l2 s kf) (((by_ s e * 256 + by_ s (e + 1) : Nat) : Int), (e : Int) + 2, 0) n (pc, (e : Int)) z = derrickref03_Take.l2 s kf (q : Nat) (n ++ pc) z := by
        intro z; unfold derrickref03_Take.j5; simp only; rw [hw, hmod, hq]
       rw [hq] at hprog ⊢
       by_cases hbad : m ≤ q
       ·rw [decide_eq_true (by omega), if_pos rfl, hprog]
        split
        ·rw [if_pos (.inr hbad)]
        ·rfl
       ·rw [decide_eq_false (by omega), if_neg (by simp), hj5, hj5]
        have hgo : ∀ z, derrickref03_Take.l2 s kf (q : Nat) (n ++ pc) z = some (refGoal s (q : Nat) (n ++ pc) z) := fun z => ih ((q : Nat) : Int) (n ++ pc) z (by clear hchain; omega) (by clear hchain; omega) (by clear hchain; rw [List.length_append]; omega)
        have hz : (if beh < 0 then derrickref03_Take.l2 s kf (q : Nat) (n ++ pc) ((e : Int) + 2) else derrickref03_Take.l2 s kf (q : Nat) (n ++ pc) beh) = some (refGoal s (q : Nat) (n ++ pc) (if beh < 0 then ((e + 2 : Nat) : Int) else beh)) := by
         by_cases hb : beh < 0
         ·rw [if_pos hb, if_pos hb, hgo]; rfl
         ·rw [if_neg hb, if_neg hb, hgo]
        refine hz.trans ?_
        rw [hprog]
        by_cases hn2 : n.length + pc.length ≤ 255
        ·rw [if_pos hn2, if_neg (show ¬ (s.length < e + 2 ∨ m ≤ q) by omega)]
        ·rw [if_neg hn2]; unfold refGoal; rw [if_neg (show ¬ (n ++ pc).length ≤ 255 by rw [List.length_append]; exact hn2)]
     by_cases hnil : pc = []
     ·rw [if_pos hnil]; exact hj3
     ·have hpos := List.length_pos_iff.2 hnil
      rw [if_neg hnil, if_pos (by rw [w64_id (by omega) (by omega)]; omega), if_pos (by rw [w64_id (by omega) (by omega)]; omega)]
      split
      ·rw [if_pos (show derrickref03_ends.pre pc by unfold derrickref03_ends.pre; omega), hends]; exact hj3
      ·exact hj3
    ·rw [if_neg hp]
     by_cases h63 : 63 < by_ s e
     ·rw [if_pos h63, if_pos (by decide)]
      unfold refGoal
      by_cases hn : n.length ≤ 255
      ·rw [if_pos hn]
       obtain ⟨g1, g2⟩ := hchain hn
       rw [fold_len] at g1 g2
       by_cases hn2 : n.length + (e - m) ≤ 255
       ·obtain ⟨k', g3, g4⟩ := g1 (by omega) hn2
        rw [g4, takeN_bad he ⟨h63, by omega⟩]
       ·rw [g2 (by omega)]
      ·rw [if_neg hn]
     ·have h0 : by_ s e = 0 := by have := c2 he; omega
      rw [if_neg h63]
      obtain ⟨pc, hpc⟩ : ∃ pc, (s.drop m).take (e + 1 - m) = pc := ⟨_, rfl⟩
      have hpl : pc.length = e + 1 - m := by rw [← hpc, List.length_take, List.length_drop]; omega
      have hends : derrickref03_ends pc = true := by
       have := ends_zero c1 m (pc.length + 1) (Nat.le_refl _) he h0 (by omega)
       rw [hpc, Nat.sub_self] at this; exact this
      have hnil : pc ≠ [] := by intro h; rw [h] at hpl; simp at hpl; omega
      have hlast : bt pc (w64 ((pc.length : Int) - 1)) = 0 := by
       rw [w64_id (by omega) (by omega), show (pc.length : Int) - 1 = ((e - m : Nat) : Int) by omega, bt_by, ← hpc, by_part (by omega), show m + (e - m) = e by omega, h0]; rfl
      rw [hpc]
      simp only
      rw [if_neg (by omega), if_pos (by omega), if_neg hnil, if_pos (by rw [w64_id (by omega) (by omega)]; omega), if_pos (by rw [w64_id (by omega) (by omega)]; omega), if_pos hlast, if_pos (show derrickref03_ends.pre pc by unfold derrickref03_ends.pre; omega), hends]
      unfold derrickref03_Take.j3
      rw [if_pos rfl]
      have hj1 : ∀ z, derrickref03_Take.j1 (n ++ pc) z = some (if n.length + pc.length ≤ 255 then (name_Fold (n ++ pc), z, 0) else ([], 0, 2)) := by
       intro z
       unfold derrickref03_Take.j1
       rw [List.length_append]
       by_cases hn2 : n.length + pc.length ≤ 255
       ·rw [if_neg (by omega), if_pos (show derrickref02_Fold.pre (n ++ pc) by unfold derrickref02_Fold.pre; rw [List.length_append]; omega), if_pos hn2]; rfl
       ·rw [if_pos (by omega), if_neg hn2]
      simp only [hj1]
      have hsplit : pc = (s.drop m).take (e - m) ++ [0] := by
       have hz : s.getD e 0 = 0 := by simp only [by_] at h0; exact UInt8.toNat_inj.1 (by simpa using h0)
       have := take_succ_at (s := s) (a := m) (i := e - m) (by omega)
       rw [show e - m + 1 = e + 1 - m by omega, show m + (e - m) = e by omega, hz, hpc] at this
       exact this
      have hgoal : refGoal s m n beh = (if n.length + pc.length ≤ 255 then (name_Fold (n ++ pc), if beh < 0 then ((e + 1 : Nat) : Int) else beh, 0) else ([], 0, 2)) := by
       unfold refGoal
       by_cases hn : n.length ≤ 255
       ·rw [if_pos hn]
        obtain ⟨g1, g2⟩ := hchain hn
        rw [fold_len] at g1 g2
        by_cases hn1 : n.length + (e - m) ≤ 255
        ·obtain ⟨k', g3, g4⟩ := g1 (by omega) hn1
         rw [g4, ← fold_append]
         have hbl : (name_Fold (n ++ (s.drop m).take (e - m))).length = n.length + (e - m) := by
          rw [fold_len, List.length_append]; congr 1; rw [List.length_take, List.length_drop]; omega
         by_cases hn2 : n.length + pc.length ≤ 255
         ·rw [if_pos hn2]
          obtain ⟨k2, rfl⟩ : ∃ j, k' = j + 1 := ⟨k' - 1, by omega⟩
          rw [takeN_root (b := name_Fold (n ++ (s.drop m).take (e - m))) he h0 (by clear hchain g1 g2; rw [hbl]; omega), hsplit, ← List.append_assoc, fold_append (n ++ _) [0]]
          rfl
         ·rw [if_neg hn2, takeN_short (b := name_Fold (n ++ (s.drop m).take (e - m))) he (by clear hchain g1 g2; omega) (.inr (by clear hchain g1 g2; rw [hbl]; omega))]
        ·rw [g2 (by omega), if_neg (by omega)]
       ·rw [if_neg hn, if_neg (by omega)]
      rw [hgoal]
      by_cases hb : beh < 0
      ·rw [if_pos hb, if_pos hb]
      ·rw [if_neg hb, if_neg hb]
   ·rw [if_neg he, if_pos (by decide)]
    unfold refGoal
    by_cases hn : n.length ≤ 255
    ·rw [if_pos hn]
     obtain ⟨g1, g2⟩ := hchain hn
     rw [fold_len] at g1 g2
     by_cases hx : e ≤ s.length ∧ n.length + (e - m) ≤ 255
     ·obtain ⟨k', g3, g4⟩ := g1 hx.1 hx.2
      rw [g4, takeN_out (by omega)]
     ·rw [g2 (by omega)]
    ·rw [if_neg hn]
theorem derrickref03_Take.eq (s : Str) (a : Int) (hp : derrickref03_Take.pre s a) : ∃ kf, derrickref03_Take.f kf s a = some (derrickref03_Take s a) := by
 unfold derrickref03_Take.pre at hp
 refine ⟨s.length + 1, ?_⟩
 unfold derrickref03_Take.f
 rw [r3take_lp s hp (s.length + 1) a [] (-1) (by omega) (by omega) (by simp; omega)]
 unfold refGoal derrickref03_Take wire_Take
 rw [if_pos (by simp)]
 rw [takeN_fuel s (a.toNat + 600) (a.toNat + 300) a a (-1) (name_Fold []) (by simp [name_Fold]; try omega) (by simp [name_Fold]; try omega) (by simp [name_Fold])]
 rfl
end Go.Proofs.Ytfcaekghpkpjdaa.K

/- Pure functions, printed by a program of this session out of the loaded code. -/
namespace Go.Proofs.Ytfcaekghpkpjdaa.K
open Go Go.RowKit
set_option linter.unusedVariables false
/-- derrickref03.Name -/
def derrickref03_Name.j3 (x1233 : Str) (x1235 : Str) (cl1249 : Str → Str → List Place → Option (RPack × Int)) (l1402 : List Place) : Option (RPack × Int) :=
 (if 0 < (x1233.length : Int) then (if 0 ≤ w64 (1 + (w64 (bt x1233 0))) then (if w64 (1 + (w64 (bt x1233 0))) ≤ (x1233.length : Int) then (if x1235.length + (x1233.take (w64 (1 + (w64 (bt x1233 0)))).toNat).length ≤ 9223372036854775807 then (cl1249 (x1233.drop (w64 (1 + (w64 (bt x1233 0)))).toNat) (x1235 ++ (x1233.take (w64 (1 + (w64 (bt x1233 0)))).toNat)) l1402) else none) else none) else none) else none)
def derrickref03_Name.l2  : Nat → Str → Str → List Place → Option (RPack × Int)
 | 0, _, _, _ => none
 | kf1232 + 1, x1233, x1235, l1238 => (if x1233 = ([0] : Str) then (if derrickref03_Add.pre (⟨x1235, l1238⟩ : RPack) ([0] : Str) then (lt (derrickref03_Add (⟨x1235, l1238⟩ : RPack) ([0] : Str)) fun r1264 => some (r1264, 0)) else none) else (if derrickref03_known.pre (⟨x1235, l1238⟩ : RPack) x1233 then (lt (derrickref03_known (⟨x1235, l1238⟩ : RPack) x1233) fun r1280 => (if 0 ≤ r1280 then (lt (derrickref01_Put16 (w16 (w64 (49152 + r1280)))) fun r1361 => (if derrickref03_Add.pre (⟨x1235, l1238⟩ : RPack) r1361 then (lt (derrickref03_Add (⟨x1235, l1238⟩ : RPack) r1361) fun r1368 => some (r1368, 0)) else none)) else (if (x1235.length : Int) < 16384 then (if (l1238.length + 1) * 24 ≤ 140737488355328 then (derrickref03_Name.j3 x1233 x1235 (derrickref03_Name.l2 kf1232) (l1238 ++ [(⟨x1233, (x1235.length : Int)⟩ : Place)])) else none) else (derrickref03_Name.j3 x1233 x1235 (derrickref03_Name.l2 kf1232) l1238)))) else none))
def derrickref03_Name.j1 (a6 : Str) (a1 : RPack) (kf : Nat) (l197 : List Place) : Option (RPack × Int) :=
 (derrickref03_Name.l2 kf a6 a1.s l197)
def derrickref03_Name.f (kf : Nat) (a1 : RPack) (a6 : Str) : Option (RPack × Int) :=
 (if derrickref02_May.pre a6 then (lt (derrickref02_May a6) fun r44 => (if r44 = true then (if (0 + a1.l.length) * 24 ≤ 140737488355328 then (derrickref03_Name.j1 a6 a1 kf ([] ++ a1.l : List Place)) else none) else some (a1, 1))) else none)
/-- derrickref04.size -/
def derrickref04_size.j2 (x184 : Int) (a1 : Str) (cl190 : Int → Option (Int)) (x203 : Bool) : Option (Int) :=
 (if x203 = true then (if 0 ≤ x184 then (if x184 ≤ (a1.length : Int) then (if derrickref02_May.pre (a1.take x184.toNat) then (lt (derrickref02_May (a1.take x184.toNat)) fun r233 => (if r233 = true then some (x184) else (cl190 (w64 (x184 + 1))))) else none) else none) else none) else some (0))
def derrickref04_size.l1 (a1 : Str) : Nat → Int → Option (Int)
 | 0, _ => none
 | kf183 + 1, x184 => (if x184 ≤ (a1.length : Int) then (derrickref04_size.j2 x184 a1 (derrickref04_size.l1 a1 kf183) (decide (x184 ≤ 255))) else (derrickref04_size.j2 x184 a1 (derrickref04_size.l1 a1 kf183) false))
def derrickref04_size.f (kf : Nat) (a1 : Str) : Option (Int) :=
 (derrickref04_size.l1 a1 kf 1)
/-- derrickref04.names -/
def derrickref04_names.j2 (x376 : Str) (r449 : Str × Int × Int) (cl387 : Int → Str → Int → Option (Str × Int)) (x377 : Int) (x470 : Bool) : Option (Str × Int) :=
 (if x470 = true then some (([] : Str), 0) else (if x376.length + r449.1.length ≤ 9223372036854775807 then (cl387 r449.2.1 (x376 ++ r449.1) (w64 (x377 + 1))) else none))
def derrickref04_names.l1 (a4 : Int) (a1 : Str) (a3 : Int) : Nat → Int → Str → Int → Option (Str × Int)
 | 0, _, _, _ => none
 | kf374 + 1, x375, x376, x377 => (if x377 < a4 then (if derrickref03_Take.pre a1 x375 then (lt (derrickref03_Take a1 x375) fun r449 => (if r449.2.2 = 0 then (derrickref04_names.j2 x376 r449 (derrickref04_names.l1 a4 a1 a3 kf374) x377 (decide (a3 < r449.2.1))) else (derrickref04_names.j2 x376 r449 (derrickref04_names.l1 a4 a1 a3 kf374) x377 true))) else none) else some (x376, x375))
def derrickref04_names.f (kf : Nat) (a1 : Str) (a2 : Int) (a3 : Int) (a4 : Int) : Option (Str × Int) :=
 (derrickref04_names.l1 a4 a1 a3 kf a2 [] 0)
end Go.Proofs.Ytfcaekghpkpjdaa.K

namespace Go.Proofs.Ytfcaekghpkpjdaa.K
open Go
set_option linter.unusedVariables false
set_option linter.unusedSimpArgs false
set_option maxRecDepth 100000
def ofR (p : RPack) : Pack := ⟨p.s, toK p.l⟩
def toR (p : Pack) : RPack := ⟨p.s, p.known.map fun x => ⟨x.1, x.2⟩⟩
theorem toR_ofR (p : RPack) : toR (ofR p) = p := by
 obtain ⟨s, l⟩ := p
 simp only [toR, ofR, toK, List.map_map]
 congr 1
 have : ((fun x : Str × Int => (⟨x.1, x.2⟩ : Place)) ∘ fun x : Place => (x.nm, x.at_)) = id := by funext x; rfl
 rw [this, List.map_id]
theorem ofR_toR (p : Pack) : ofR (toR p) = p := by
 obtain ⟨s, l⟩ := p
 simp only [toR, ofR, toK, List.map_map]
 congr 1
 have : ((fun x : Place => (x.nm, x.at_)) ∘ fun x : Str × Int => (⟨x.1, x.2⟩ : Place)) = id := by funext x; rfl
 rw [this, List.map_id]
def derrickref03_Name (p : RPack) (n : Str) : RPack × Int := (toR (wire_Pack_Name (ofR p) n).2, (wire_Pack_Name (ofR p) n).1)
def placesOk (l : List Place) : Prop := ∀ x ∈ l, 0 ≤ x.at_ ∧ x.at_ < 16384
instance (l : List Place) : Decidable (placesOk l) := by unfold placesOk; infer_instance
def derrickref03_Name.pre (p : RPack) (n : Str) : Prop := placesOk p.l ∧ p.l.length ≤ 100000000 ∧ p.s.length ≤ 10000000000 ∧ n.length ≤ 1000000
instance i_derrickref03_Name (p : RPack) (n : Str) : Decidable (derrickref03_Name.pre p n) := by unfold derrickref03_Name.pre; infer_instance
theorem lookup_places {l : List Place} {n : Str} {a : Int} (hl : placesOk l) (h : List.lookup n (toK l) = some a) : 0 ≤ a ∧ a < 16384 := by
 induction l with
 | nil => simp [toK] at h
 | cons x l ih =>
  simp only [toK, List.map_cons, List.lookup] at h
  split at h
  ·injection h with h; subst h; exact hl x (by simp)
  ·exact ih (fun y hy => hl y (by simp [hy])) h
theorem rname_lp : ∀ (k : Nat) (n s : Str) (l : List Place), (splitN k n).2 = [0] → placesOk l → l.length + k ≤ 300000000 → s.length + n.length ≤ 20000000000 → n.length ≤ 1000000 → derrickref03_Name.l2 (k + 1) n s l = some (toR (nameLoop k ⟨s, toK l⟩ n), 0) := by
 intro k
 have hroot : ∀ (j : Nat) (s : Str) (l : List Place), s.length ≤ 20000000000 → derrickref03_Name.l2 (j + 1) [0] s l = some (toR (wire_Pack_Add ⟨s, toK l⟩ [0]), 0) := by
  intro j s l hs
  rw [derrickref03_Name.l2.eq_2, if_pos rfl, if_pos (show derrickref03_Add.pre (⟨s, l⟩ : RPack) [0] by unfold derrickref03_Add.pre; simp; omega)]
  simp only [lt, derrickref03_Add]
  have := toR_ofR ⟨s, l⟩
  simp only [toR, ofR, wire_Pack_Add] at this ⊢
  injection this with _ this
  rw [this]
 induction k with
 | zero =>
  intro n s l h1 h2 h3 h4 h5
  simp only [splitN] at h1
  subst h1
  exact hroot 0 s l (by omega)
 | succ k ih =>
  intro n s l h1 h2 h3 h4 h5
  by_cases hn : n = [0]
  ·subst hn
   simp only [nameLoop, if_true]
   exact hroot _ s l (by omega)
  obtain ⟨c, t, rfl, c0, c1, c2, c3⟩ := split_step h1 hn
  simp only [List.length_cons] at h4 h5
  rw [derrickref03_Name.l2.eq_2, if_neg hn, if_pos (show derrickref03_known.pre (⟨s, l⟩ : RPack) (c :: t) by unfold derrickref03_known.pre; simp only; omega)]
  rcases hl : List.lookup (c :: t) (toK l) with _ | a
  rotate_left
  ·obtain ⟨a0, a1⟩ := lookup_places h2 hl
   obtain ⟨m, rfl⟩ := Int.eq_ofNat_of_zero_le a0
   have hk : derrickref03_known (⟨s, l⟩ : RPack) (c :: t) = (m : Int) := by unfold derrickref03_known; simp only; rw [hl]; rfl
   rw [hk]
   simp only [lt, nameLoop, if_neg hn, hl]
   have hw : w16 (w64 (49152 + (m : Int))) = ((49152 + m : Nat) : Int) := by rw [w64_id (by omega) (by omega), w16_eq]; omega
   have hb : w16 (bOr .i64 49152 (m : Int)) = ((49152 + m : Nat) : Int) := by rw [or14 (by omega), w16_eq]; omega
   rw [if_pos (by omega), hw, hb, rPut16_eq (by omega) (by omega), if_pos (show derrickref03_Add.pre (⟨s, l⟩ : RPack) _ by unfold derrickref03_Add.pre; rw [Put16_len]; simp only; omega)]
   simp only [derrickref03_Add]
   have := toR_ofR ⟨s, l⟩
   simp only [toR, ofR, wire_Pack_Add] at this ⊢
   injection this with _ this
   rw [this]
  ·have hk : derrickref03_known (⟨s, l⟩ : RPack) (c :: t) = -1 := by unfold derrickref03_known; simp only; rw [hl]; rfl
   rw [hk]
   simp only [lt, nameLoop, if_neg hn, hl]
   rw [if_neg (by decide)]
   have hc := c.toNat_lt
   have hb0 : bt (c :: t) 0 = (c.toNat : Int) := rfl
   have hw : w64 (1 + w64 (c.toNat : Int)) = ((1 + c.toNat : Nat) : Int) := by rw [w64_id (x := (c.toNat : Int)) (by omega) (by omega), w64_id (by omega) (by omega)]; omega
   have hj3 : ∀ l', derrickref03_Name.j3 (c :: t) s (derrickref03_Name.l2 (k + 1)) l' = derrickref03_Name.l2 (k + 1) ((c :: t).drop (1 + c.toNat)) (s ++ (c :: t).take (1 + c.toNat)) l' := by
    intro l'
    unfold derrickref03_Name.j3
    rw [hb0, hw, if_pos (by simp), if_pos (by omega), if_pos (by simp; omega), show ((1 + c.toNat : Nat) : Int).toNat = 1 + c.toNat by omega, if_pos (by simp; omega)]
   have hhd : (List.headD (c :: t) 0).toNat = c.toNat := rfl
   rw [hhd]
   have hlen : (s ++ (c :: t).take (1 + c.toNat)).length + ((c :: t).drop (1 + c.toNat)).length ≤ 20000000000 := by simp; omega
   by_cases h16 : s.length < 16384
   ·rw [if_pos (by omega), if_pos (by omega), if_pos h16, hj3]
    have := ih ((c :: t).drop (1 + c.toNat)) (s ++ (c :: t).take (1 + c.toNat)) (l ++ [⟨c :: t, (s.length : Int)⟩]) c3 (by
     intro x hx
     rcases List.mem_append.1 hx with hx | hx
     ·exact h2 x hx
     ·simp at hx; subst hx; simp only; omega) (by simp; omega) hlen (by simp; omega)
    rw [this]
    simp [toK, wire_Pack_Add]
   ·rw [if_neg (by omega), if_neg h16, hj3]
    have := ih ((c :: t).drop (1 + c.toNat)) (s ++ (c :: t).take (1 + c.toNat)) l c3 h2 (by omega) hlen (by simp; omega)
    rw [this]
    simp [wire_Pack_Add]
theorem derrickref03_Name.eq (p : RPack) (n : Str) (hp : derrickref03_Name.pre p n) : ∃ kf, derrickref03_Name.f kf p n = some (derrickref03_Name p n) := by
 obtain ⟨h1, h2, h3, h4⟩ := hp
 refine ⟨n.length + 1 + 1, ?_⟩
 unfold derrickref03_Name.f derrickref03_Name wire_Pack_Name
 rw [if_pos (show derrickref02_May.pre n from h4)]
 simp only [lt]
 rw [show derrickref02_May n = name_May n from rfl]
 by_cases hm : name_May n = true
 ·rw [if_pos hm, if_pos (by omega), if_pos hm]
  unfold derrickref03_Name.j1
  rw [List.nil_append]
  exact rname_lp (n.length + 1) n p.s p.l (may_split hm).1 h1 (by omega) (by omega) h4
 ·rw [if_neg hm, if_neg hm, toR_ofR]
def derrickref04_size (s : Str) : Int := rdata_whole s
def derrickref04_size.pre (s : Str) : Prop := s.length ≤ 1000000
instance i_derrickref04_size (s : Str) : Decidable (derrickref04_size.pre s) := by unfold derrickref04_size.pre; infer_instance
theorem head_part {s : Str} {k a : Nat} (h : a < k) : ((s.take k).drop a).getD 0 0 = s.getD a 0 := by
 simp only [List.getD_eq_getElem?_getD, List.getElem?_drop, List.getElem?_take, Nat.add_zero]
 rw [if_pos h]
theorem wAt_may {s : Str} {k : Nat} (hk : k ≤ s.length) : ∀ (j a K : Nat), (splitN j ((s.take k).drop a)).2 = [0] → a ≤ k → s.length ≤ a + K → wAt s (K + 1) a + 1 = k := by
 have hend : ∀ (a K : Nat), (s.take k).drop a = [0] → a ≤ k → wAt s (K + 1) a + 1 = k := by
  intro a K h ha
  have hl := congrArg List.length h
  simp at hl
  have hb : s.getD a 0 = 0 := by
   have h3 := head_part (s := s) (k := k) (a := a) (by omega)
   rw [h] at h3; exact h3.symm
  simp only [wAt]
  rw [if_neg (by rw [hb]; simp)]
  omega
 intro j
 induction j with
 | zero => intro a K h ha hK; exact hend a K (by simpa [splitN] using h) ha
 | succ j ih =>
  intro a K h ha hK
  by_cases hn : (s.take k).drop a = [0]
  ·exact hend a K hn ha
  ·obtain ⟨c, t, e, c0, c1, c2, c3⟩ := split_step h hn
   have hl := congrArg List.length e
   simp at hl
   have hb : s.getD a 0 = c := by
    have h3 := head_part (s := s) (k := k) (a := a) (by omega)
    rw [e] at h3; exact h3.symm
   obtain ⟨K, rfl⟩ : ∃ J, K = J + 1 := ⟨K - 1, by omega⟩
   rw [show wAt s (K + 1 + 1) a = if a < s.length ∧ 0 < (s.getD a 0).toNat then wAt s (K + 1) (a + 1 + (s.getD a 0).toNat) else a from rfl]
   rw [hb, if_pos ⟨by omega, c0⟩]
   rw [List.drop_drop] at c3
   exact ih (a + 1 + c.toNat) K (by rw [show a + 1 + c.toNat = a + (1 + c.toNat) by omega]; exact c3) (by omega) (by omega)
theorem size_unique {s : Str} {k : Nat} (hk : k ≤ s.length) (h0 : 0 < k) (hm : name_May (s.take k) = true) : rdata_whole s = k := by
 have h := wAt_may hk _ 0 s.length (by rw [List.drop_zero]; exact (may_split hm).1) (by omega) (by omega)
 unfold rdata_whole
 rw [if_neg (by omega), h, if_pos hm]
 omega
theorem size_lp (s : Str) (hs : s.length ≤ 1000000) : ∀ (m k : Nat), k + m = 256 → 1 ≤ k → (∀ j, 1 ≤ j → j < k → j ≤ s.length → name_May (s.take j) = false) → derrickref04_size.l1 s (m + 1) k = some (rdata_whole s) := by
 have hstop : ∀ (m k : Nat), (s.length < k ∨ 255 < k) → 1 ≤ k → (∀ j, 1 ≤ j → j < k → j ≤ s.length → name_May (s.take j) = false) → derrickref04_size.l1 s (m + 1) k = some (rdata_whole s) := by
  intro m k hst h1 h2
  have hj : derrickref04_size.l1 s (m + 1) k = derrickref04_size.j2 k s (derrickref04_size.l1 s m) false := by
   rw [derrickref04_size.l1.eq_2]
   by_cases h : (k : Int) ≤ (s.length : Int)
   ·rw [if_pos h, decide_eq_false (by omega)]
   ·rw [if_neg h]
  rw [hj]
  unfold derrickref04_size.j2
  rw [if_neg (by simp)]
  have : rdata_whole s = 0 := by
   apply Classical.byContradiction
   intro hne
   obtain ⟨q1, q2⟩ := whole_may hne
   obtain ⟨q, hq⟩ := Int.eq_ofNat_of_zero_le q1
   rw [hq] at q2 hne
   simp only [Int.toNat_natCast] at q2
   have hql := (may_split q2).2
   have hqs : q ≤ s.length := by
    unfold rdata_whole at hq
    split at hq
    ·omega
    ·split at hq
     ·omega
     ·omega
   have hlen : (s.take q).length = q := by simp; omega
   rw [hlen] at hql
   have := h2 q (by omega) (by omega) hqs
   rw [q2] at this; cases this
  rw [this]
 intro m
 induction m with
 | zero => intro k h1 h2 h3; exact hstop 0 k (by omega) h2 h3
 | succ m ih =>
  intro k h1 h2 h3
  by_cases hst : s.length < k
  ·exact hstop _ k (.inl hst) h2 h3
  ·rw [derrickref04_size.l1.eq_2, if_pos (by omega), decide_eq_true (by omega)]
   unfold derrickref04_size.j2
   rw [if_pos rfl, if_pos (by omega), if_pos (by omega), show (k : Int).toNat = k by omega, if_pos (show derrickref02_May.pre (s.take k) by unfold derrickref02_May.pre; simp; omega)]
   simp only [lt]
   rw [show derrickref02_May (s.take k) = name_May (s.take k) from rfl]
   by_cases hm : name_May (s.take k) = true
   ·rw [if_pos hm, size_unique (by omega) (by omega) hm]
   ·rw [if_neg hm, w64_id (by omega) (by omega), show (k : Int) + 1 = ((k + 1 : Nat) : Int) by omega]
    refine ih (k + 1) (by omega) (by omega) (fun j j1 j2 j3 => ?_)
    by_cases e : j = k
    ·subst e; exact Bool.eq_false_iff.2 hm
    ·exact h3 j j1 (by omega) j3
theorem derrickref04_size.eq (s : Str) (hp : derrickref04_size.pre s) : ∃ kf, derrickref04_size.f kf s = some (derrickref04_size s) :=
 ⟨255 + 1, size_lp s hp 255 1 (by omega) (by omega) (fun j h1 h2 => by omega)⟩
def namesN (s : Str) (fin : Int) : Nat → Int → Str → Str × Int
 | 0, a, d => (d, a)
 | m + 1, a, d => if (wire_Take s a).2.2 ≠ 0 ∨ fin < (wire_Take s a).2.1 then ([], 0) else namesN s fin m (wire_Take s a).2.1 (d ++ (wire_Take s a).1)
def derrickref04_names (s : Str) (a fin many : Int) : Str × Int := namesN s fin many.toNat a []
def derrickref04_names.pre (s : Str) (a fin many : Int) : Prop := s.length ≤ 300000 ∧ 0 ≤ many ∧ many ≤ 2
instance i_derrickref04_names (s : Str) (a fin many : Int) : Decidable (derrickref04_names.pre s a fin many) := by unfold derrickref04_names.pre; infer_instance
theorem names_lp (s : Str) (fin : Int) (hs : s.length ≤ 300000) (many : Nat) (hm : many ≤ 2) : ∀ (m i : Nat) (a : Int) (d : Str), i + m = many → d.length ≤ i * 255 → derrickref04_names.l1 many s fin (m + 1) a d i = some (namesN s fin m a d) := by
 intro m
 induction m with
 | zero => intro i a d h1 h2; rw [derrickref04_names.l1.eq_2, if_neg (by omega)]; rfl
 | succ m ih =>
  intro i a d h1 h2
  rw [derrickref04_names.l1.eq_2, if_pos (by omega), if_pos (show derrickref03_Take.pre s a by unfold derrickref03_Take.pre; omega)]
  rw [show derrickref03_Take s a = wire_Take s a from rfl]
  simp only [lt, namesN]
  have t1 := Take_len s a
  obtain ⟨r, hr⟩ : ∃ r, wire_Take s a = r := ⟨_, rfl⟩
  rw [hr] at t1 ⊢
  have j2 : ∀ b : Bool, b = decide (r.2.2 ≠ 0 ∨ fin < r.2.1) → derrickref04_names.j2 d r (derrickref04_names.l1 many s fin (m + 1)) i b = some (if r.2.2 ≠ 0 ∨ fin < r.2.1 then ([], 0) else namesN s fin m r.2.1 (d ++ r.1)) := by
   intro b hb
   unfold derrickref04_names.j2
   by_cases hc : r.2.2 ≠ 0 ∨ fin < r.2.1
   ·rw [hb, decide_eq_true hc, if_pos rfl, if_pos hc]
   ·rw [hb, decide_eq_false hc, if_neg (by simp), if_neg hc, if_pos (by omega), w64_id (by omega) (by omega), show (i : Int) + 1 = ((i + 1 : Nat) : Int) by omega, ih (i + 1) _ _ (by omega) (by simp; omega)]
  by_cases hc : r.2.2 = 0
  ·rw [if_pos hc]; exact j2 _ (by simp [hc])
  ·rw [if_neg hc]; exact j2 _ (by simp [hc])
theorem derrickref04_names.eq (s : Str) (a fin many : Int) (hp : derrickref04_names.pre s a fin many) : ∃ kf, derrickref04_names.f kf s a fin many = some (derrickref04_names s a fin many) := by
 obtain ⟨h1, h2, h3⟩ := hp
 obtain ⟨m, rfl⟩ := Int.eq_ofNat_of_zero_le h2
 exact ⟨m + 1, names_lp s fin h1 m (by omega) m 0 a [] (by omega) (by simp)⟩
end Go.Proofs.Ytfcaekghpkpjdaa.K

/- Pure functions, printed by a program of this session out of the loaded code. -/
namespace Go.Proofs.Ytfcaekghpkpjdaa.K
open Go Go.RowKit
set_option linter.unusedVariables false
/-- derrickref04.May -/
def derrickref04_May.j1 (a2 : Str) (a1 : Int) (x125 : Bool) : Option (Bool) :=
 (if x125 = true then (if derrickref02_May.pre a2 then (lt (derrickref02_May a2) fun r138 => some (r138)) else none) else (if a1 = 15 then (if 2 < (a2.length : Int) then (if 2 ≤ (a2.length : Int) then (if derrickref02_May.pre (a2.drop (2 : Int).toNat) then (lt (derrickref02_May (a2.drop (2 : Int).toNat)) fun r151 => some (r151)) else none) else none) else some (false)) else (if a1 = 6 then (if derrickref04_size.pre a2 then (lt (derrickref04_size a2) fun r162 => (if 0 ≤ r162 then (if r162 ≤ (a2.length : Int) then (if derrickref04_size.pre (a2.drop r162.toNat) then (lt (derrickref04_size (a2.drop r162.toNat)) fun r172 => (if 0 < r162 then (if 0 < r172 then some (((a2.length : Int) == (w64 ((w64 (r162 + r172)) + 20)))) else some (false)) else some (false))) else none) else none) else none)) else none) else (if a1 = 16 then (if derrickref04_texts.pre a2 then (lt (derrickref04_texts a2) fun r187 => some (r187)) else none) else some (true)))))
def derrickref04_May.f (a1 : Int) (a2 : Str) : Option (Bool) :=
 (if 65535 < (a2.length : Int) then some (false) else (if a1 = 1 then some (((a2.length : Int) == 4)) else (if a1 = 28 then some (((a2.length : Int) == 16)) else (if a1 = 2 then (derrickref04_May.j1 a2 a1 (a1 == 2)) else (if a1 = 5 then (derrickref04_May.j1 a2 a1 (a1 == 5)) else (derrickref04_May.j1 a2 a1 (a1 == 12)))))))
/-- derrickref05.MayQ -/
def derrickref05_MayQ.f (a1 : Question) : Option (Bool) :=
 (if derrickref02_May.pre a1.name then (lt (derrickref02_May a1.name) fun r16 => some (r16)) else none)
end Go.Proofs.Ytfcaekghpkpjdaa.K

namespace Go.Proofs.Ytfcaekghpkpjdaa.K
open Go
set_option linter.unusedVariables false
set_option linter.unusedSimpArgs false
set_option maxRecDepth 100000
theorem whole_le (d : Str) : 0 ≤ rdata_whole d ∧ rdata_whole d ≤ d.length := by
 unfold rdata_whole
 split
 ·omega
 ·split <;> omega
theorem cut_num {n : Int} (h0 : 0 ≤ n) (ps : List Int) (d : Str) (l : List Str) : cutL (n :: ps) d l = if (d.length : Int) < n then ([], false) else cutL ps (d.drop n.toNat) (l ++ [d.take n.toNat]) := by
 have hs : partSize n d = n := by unfold partSize; rw [if_neg (by omega), if_neg (by omega)]
 have hb : partBad n d = decide ((d.length : Int) < n) := by
  unfold partBad; rw [hs, decide_eq_false (show ¬ n < 0 by omega), show (n == -1) = false from beq_eq_false_iff_ne.2 (by omega)]; simp
 simp only [cutL, hs, hb]
 by_cases h : (d.length : Int) < n
 ·rw [if_pos (by simpa using h), if_pos h]
 ·rw [if_neg (by simpa using h), if_neg h]
theorem cut_name (ps : List Int) (d : Str) (l : List Str) : cutL (-1 :: ps) d l = if rdata_whole d = 0 then ([], false) else cutL ps (d.drop (rdata_whole d).toNat) (l ++ [d.take (rdata_whole d).toNat]) := by
 have hs : partSize (-1) d = rdata_whole d := by unfold partSize; rw [if_pos rfl]
 have hw := whole_le d
 have hb : partBad (-1) d = decide (rdata_whole d = 0) := by
  unfold partBad; rw [hs, decide_eq_false (show ¬ rdata_whole d < 0 by omega), decide_eq_false (show ¬ (d.length : Int) < rdata_whole d by omega)]; simp
  rw [Bool.eq_iff_iff]; simp
 simp only [cutL, hs, hb]
 by_cases h : rdata_whole d = 0
 ·rw [if_pos (by simpa using h), if_pos h]
 ·rw [if_neg (by simpa using h), if_neg h]
theorem cut_texts (d : Str) (l : List Str) : (cutL [-2] d l).2 = rdata_strings d := by
 by_cases h : rdata_strings d = true
 ·have hs : partSize (-2) d = d.length := by unfold partSize; rw [if_neg (by decide), if_pos (.inl ⟨rfl, h⟩)]
  have hb : partBad (-2) d = false := by unfold partBad; rw [hs]; simp
  simp only [cutL, hs, hb]
  rw [if_neg (by simp), h]
  simp
 ·have hs : partSize (-2) d = -2 := by unfold partSize; rw [if_neg (by decide), if_neg (by simp [h])]
  have hb : partBad (-2) d = true := by unfold partBad; rw [hs]; simp
  simp only [cutL, hb]
  rw [if_pos trivial, Bool.eq_false_iff.2 h]
theorem cut_others (d : Str) (l : List Str) : (cutL [-3] d l).2 = true := by
 have hs : partSize (-3) d = d.length := by unfold partSize; rw [if_neg (by decide), if_pos (.inr rfl)]
 have hb : partBad (-3) d = false := by unfold partBad; rw [hs]; simp
 simp only [cutL, hs, hb]
 rw [if_neg (by simp)]
 simp
/-- The first part of a name's data, and what is behind. -/
theorem whole_all (d : Str) : (rdata_whole d ≠ 0 ∧ d.drop (rdata_whole d).toNat = []) ↔ name_May d = true := by
 constructor
 ·rintro ⟨h1, h2⟩
  have := (whole_may h1).2
  have h3 := List.take_append_drop (rdata_whole d).toNat d
  rw [h2, List.append_nil] at h3
  rw [h3] at this; exact this
 ·intro h
  have hne : 0 < d.length := by
   have := (may_split h).1
   cases d with
   | nil => simp [split, splitN, labelOf] at this
   | cons _ _ => simp
  have := size_unique (s := d) (k := d.length) (Nat.le_refl _) hne (by rw [List.take_of_length_le (Nat.le_refl _)]; exact h)
  rw [this]
  exact ⟨by omega, List.drop_of_length_le (by omega)⟩
def derrickref04_May (kind : Int) (d : Str) : Bool := rdata_May kind d
def derrickref04_May.pre (kind : Int) (d : Str) : Prop := d.length ≤ 1000000
instance i_derrickref04_May (kind : Int) (d : Str) : Decidable (derrickref04_May.pre kind d) := by unfold derrickref04_May.pre; infer_instance
theorem beq_nil_len (x : Str) : (x == []) = decide (x.length = 0) := by
 cases x <;> simp
theorem cut_one_name (d : Str) : (cutL [-1] d []).2 = name_May d := by
 rw [cut_name]
 have h := whole_all d
 by_cases h0 : rdata_whole d = 0
 ·rw [if_pos h0]
  cases hm : name_May d with
  | false => rfl
  | true => exact absurd h0 (h.2 hm).1
 ·rw [if_neg h0]
  simp only [cutL]
  rw [Bool.eq_iff_iff, beq_iff_eq]
  exact ⟨fun h1 => h.1 ⟨h0, h1⟩, fun h1 => (h.2 h1).2⟩
theorem layout_other {k : Int} (h : k ≠ 1 ∧ k ≠ 28 ∧ k ≠ 2 ∧ k ≠ 5 ∧ k ≠ 12 ∧ k ≠ 15 ∧ k ≠ 6 ∧ k ≠ 16) : rdata_layout k = [-3] := by
 have hf : ∀ j : Int, k ≠ j → (k == j) = false := fun j hj => beq_eq_false_iff_ne.2 hj
 unfold rdata_layout layTab
 simp [List.lookup, hf 1 h.1, hf 28 h.2.1, hf 2 h.2.2.1, hf 5 h.2.2.2.1, hf 12 h.2.2.2.2.1, hf 15 h.2.2.2.2.2.1, hf 6 h.2.2.2.2.2.2.1, hf 16 h.2.2.2.2.2.2.2]
theorem derrickref04_May.eq (kind : Int) (d : Str) (hp : derrickref04_May.pre kind d) : derrickref04_May.f kind d = some (derrickref04_May kind d) := by
 unfold derrickref04_May.pre at hp
 unfold derrickref04_May.f derrickref04_May
 by_cases h65 : 65535 < (d.length : Int)
 ·rw [if_pos h65]
  unfold rdata_May
  rw [decide_eq_false (by omega), Bool.and_false]
 rw [if_neg h65]
 have hM : rdata_May kind d = (cutL (rdata_layout kind) d []).2 := by
  unfold rdata_May rdata_cut; rw [decide_eq_true (by omega), Bool.and_true]
 rw [hM]
 by_cases h1 : kind = 1
 ·subst h1
  rw [if_pos rfl, show rdata_layout 1 = [4] from rfl, cut_num (by decide)]
  congr 1
  by_cases h : (d.length : Int) < 4
  ·rw [if_pos h]; simp only; rw [beq_eq_false_iff_ne]; omega
  ·rw [if_neg h]; simp only [cutL]; rw [beq_nil_len, Bool.eq_iff_iff]; simp; omega
 rw [if_neg h1]
 by_cases h2 : kind = 28
 ·subst h2
  rw [if_pos rfl, show rdata_layout 28 = [16] from rfl, cut_num (by decide)]
  congr 1
  by_cases h : (d.length : Int) < 16
  ·rw [if_pos h]; simp only; rw [beq_eq_false_iff_ne]; omega
  ·rw [if_neg h]; simp only [cutL]; rw [beq_nil_len, Bool.eq_iff_iff]; simp; omega
 rw [if_neg h2]
 have jT : rdata_layout kind = [-1] → derrickref04_May.j1 d kind true = some (cutL (rdata_layout kind) d []).2 := by
  intro hl
  unfold derrickref04_May.j1
  rw [if_pos rfl, if_pos (show derrickref02_May.pre d from hp), hl, cut_one_name]
  rfl
 have jF : kind ≠ 2 ∧ kind ≠ 5 ∧ kind ≠ 12 → derrickref04_May.j1 d kind false = some (cutL (rdata_layout kind) d []).2 := by
  intro hk
  unfold derrickref04_May.j1
  rw [if_neg (by simp)]
  by_cases h15 : kind = 15
  ·subst h15
   rw [if_pos rfl, show rdata_layout 15 = [2, -1] from rfl, cut_num (by decide)]
   have he : (2 : Int).toNat = 2 := rfl
   rw [he]
   have hacc := cutL_acc [-1] (d.drop 2) ([] ++ [d.take 2])
   by_cases h : (d.length : Int) < 2
   ·rw [if_neg (by omega), if_pos h]
   ·rw [if_neg h, hacc.1, cut_one_name]
    by_cases h3 : 2 < (d.length : Int)
    ·rw [if_pos h3, if_pos (by omega), if_pos (show derrickref02_May.pre (d.drop 2) by unfold derrickref02_May.pre; simp; omega)]; rfl
    ·rw [if_neg h3]
     have : d.drop 2 = [] := List.drop_of_length_le (by omega)
     rw [this]; rfl
  rw [if_neg h15]
  by_cases h6 : kind = 6
  ·subst h6
   have w1 := whole_le d
   have w2 := whole_le (d.drop (rdata_whole d).toNat)
   rw [if_pos rfl, show rdata_layout 6 = [-1, -1, 20] from rfl, cut_name, if_pos (show derrickref04_size.pre d from hp)]
   simp only [lt]
   rw [show derrickref04_size d = rdata_whole d from rfl, if_pos w1.1, if_pos w1.2, if_pos (show derrickref04_size.pre (d.drop (rdata_whole d).toNat) by unfold derrickref04_size.pre; simp; omega), show derrickref04_size (d.drop (rdata_whole d).toNat) = rdata_whole (d.drop (rdata_whole d).toNat) from rfl]
   by_cases h0 : rdata_whole d = 0
   ·rw [if_neg (by omega), if_pos h0]
   ·rw [if_pos (by omega), if_neg h0, cut_name]
    by_cases h0' : rdata_whole (d.drop (rdata_whole d).toNat) = 0
    ·rw [if_neg (by omega), if_pos h0']
    ·rw [if_pos (by omega), if_neg h0', cut_num (by decide)]
     congr 1
     rw [List.length_drop] at w2
     obtain ⟨a, ha⟩ := Int.eq_ofNat_of_zero_le w1.1
     obtain ⟨b, hb⟩ := Int.eq_ofNat_of_zero_le w2.1
     rw [ha] at w1 w2 hb ⊢
     rw [hb] at w2 ⊢
     simp only [Int.toNat_natCast] at w2 ⊢
     rw [w64_id (x := (a : Int) + (b : Int)) (by omega) (by omega), w64_id (by omega) (by omega)]
     have hl : ((d.drop a).drop b).length = d.length - (a + b) := by simp
     rw [hl]
     by_cases h20 : ((d.length - (a + b) : Nat) : Int) < 20
     ·rw [if_pos h20]; simp only; rw [beq_eq_false_iff_ne]; omega
     ·rw [if_neg h20]
      simp only [cutL]
      rw [beq_nil_len, Bool.eq_iff_iff]
      simp only [beq_iff_eq, decide_eq_true_eq, List.length_drop]
      rw [show (20 : Int).toNat = 20 from rfl]
      omega
  rw [if_neg h6]
  by_cases h16 : kind = 16
  ·subst h16
   rw [if_pos rfl, show rdata_layout 16 = [-2] from rfl, cut_texts, if_pos (show derrickref04_texts.pre d from hp)]
   rfl
  rw [if_neg h16, layout_other ⟨h1, h2, hk.1, hk.2.1, hk.2.2, h15, h6, h16⟩, cut_others]
 by_cases k2 : kind = 2
 ·subst k2; rw [if_pos rfl]; exact jT rfl
 rw [if_neg k2]
 by_cases k5 : kind = 5
 ·subst k5; rw [if_pos rfl]; exact jT rfl
 rw [if_neg k5]
 by_cases k12 : kind = 12
 ·subst k12; exact jT rfl
 ·rw [show (kind == 12) = false from beq_eq_false_iff_ne.2 k12]; exact jF ⟨k2, k5, k12⟩
def derrickref05_MayQ (q : Question) : Bool := record_MayQ q
def derrickref05_MayQ.pre (q : Question) : Prop := q.name.length ≤ 1000000
instance i_derrickref05_MayQ (q : Question) : Decidable (derrickref05_MayQ.pre q) := by unfold derrickref05_MayQ.pre; infer_instance
theorem derrickref05_MayQ.eq (q : Question) (hp : derrickref05_MayQ.pre q) : derrickref05_MayQ.f q = some (derrickref05_MayQ q) := by
 unfold derrickref05_MayQ.f
 rw [if_pos (show derrickref02_May.pre q.name from hp)]
 rfl
end Go.Proofs.Ytfcaekghpkpjdaa.K

/- Pure functions, printed by a program of this session out of the loaded code. -/
namespace Go.Proofs.Ytfcaekghpkpjdaa.K
open Go Go.RowKit
set_option linter.unusedVariables false
/-- derrickref04.Put -/
def derrickref04_Put.j2  (x1224 : Str) (l1227 : List Place) : Option (RPack × Int) :=
 some ((⟨x1224, l1227⟩ : RPack), 0)
def derrickref04_Put.j4 (r1441 : Int) (r1451 : Int) (a7 : Str) (x1664 : Str) (l1667 : List Place) : Option (RPack × Int) :=
 (if 0 ≤ w64 (r1441 + r1451) then (if w64 (r1441 + r1451) ≤ (a7.length : Int) then (if derrickref03_Add.pre (⟨x1664, l1667⟩ : RPack) (a7.drop (w64 (r1441 + r1451)).toNat) then (lt (derrickref03_Add (⟨x1664, l1667⟩ : RPack) (a7.drop (w64 (r1441 + r1451)).toNat)) fun r1705 => some (r1705, 0)) else none) else none) else none)
def derrickref04_Put.j3 (r1441 : Int) (r1451 : Int) (a7 : Str) (x1549 : Str) (l1552 : List Place) : Option (RPack × Int) :=
 (if r1441 ≤ w64 (r1441 + r1451) then (if w64 (r1441 + r1451) ≤ (a7.length : Int) then (if derrickref03_Name.pre (⟨x1549, l1552⟩ : RPack) ((a7.drop r1441.toNat).take ((w64 (r1441 + r1451)).toNat - r1441.toNat)) then (lt (derrickref03_Name (⟨x1549, l1552⟩ : RPack) ((a7.drop r1441.toNat).take ((w64 (r1441 + r1451)).toNat - r1441.toNat))) fun r1772 => (derrickref04_Put.j4 r1441 r1451 a7 r1772.1.s r1772.1.l)) else none) else none) else none)
def derrickref04_Put.j1 (a1 : RPack) (a7 : Str) (a6 : Int) (x992 : Bool) : Option (RPack × Int) :=
 (if x992 = true then (if derrickref03_Name.pre a1 a7 then (lt (derrickref03_Name a1 a7) fun r1007 => some (r1007.1, 0)) else none) else (if a6 = 15 then (if 2 ≤ (a7.length : Int) then (if derrickref03_Add.pre a1 (a7.take (2 : Int).toNat) then (lt (derrickref03_Add a1 (a7.take (2 : Int).toNat)) fun r1341 => (if derrickref03_Name.pre r1341 (a7.drop (2 : Int).toNat) then (lt (derrickref03_Name r1341 (a7.drop (2 : Int).toNat)) fun r1353 => (derrickref04_Put.j2 r1353.1.s r1353.1.l)) else none)) else none) else none) else (if a6 = 6 then (if derrickref04_size.pre a7 then (lt (derrickref04_size a7) fun r1441 => (if 0 ≤ r1441 then (if r1441 ≤ (a7.length : Int) then (if derrickref04_size.pre (a7.drop r1441.toNat) then (lt (derrickref04_size (a7.drop r1441.toNat)) fun r1451 => (if derrickref03_Name.pre a1 (a7.take r1441.toNat) then (lt (derrickref03_Name a1 (a7.take r1441.toNat)) fun r1866 => (derrickref04_Put.j3 r1441 r1451 a7 r1866.1.s r1866.1.l)) else none)) else none) else none) else none)) else none) else (if derrickref03_Add.pre a1 a7 then (lt (derrickref03_Add a1 a7) fun r1915 => some (r1915, 0)) else none))))
def derrickref04_Put.f (a1 : RPack) (a6 : Int) (a7 : Str) : Option (RPack × Int) :=
 (if derrickref04_May.pre a6 a7 then (lt (derrickref04_May a6 a7) fun r44 => (if r44 = true then (if a6 = 2 then (derrickref04_Put.j1 a1 a7 a6 (a6 == 2)) else (if a6 = 5 then (derrickref04_Put.j1 a1 a7 a6 (a6 == 5)) else (derrickref04_Put.j1 a1 a7 a6 (a6 == 12)))) else some (a1, 1))) else none)
/-- derrickref04.Take -/
def derrickref04_Take.j2 (x139 : Str) (x178 : Bool) : Option (Str × Int) :=
 (if x178 = true then some (([] : Str), 2) else some (x139, 0))
def derrickref04_Take.j1 (r13 : Str × Int × Int) (a4 : Int) (x139 : Str) (x140 : Int) : Option (Str × Int) :=
 (if x140 = r13.2.1 then (if derrickref04_May.pre a4 x139 then (lt (derrickref04_May a4 x139) fun r193 => (derrickref04_Take.j2 x139 (!r193))) else none) else (derrickref04_Take.j2 x139 true))
def derrickref04_Take.j4 (r257 : Str × Int) (r13 : Str × Int × Int) (a1 : Str) (a4 : Int) (x280 : Bool) : Option (Str × Int) :=
 (if x280 = true then some (([] : Str), 2) else (if 0 ≤ r257.2 then (if r257.2 ≤ r13.2.1 then (if r13.2.1 ≤ (a1.length : Int) then (if r257.1.length + ((a1.drop r257.2.toNat).take (r13.2.1.toNat - r257.2.toNat)).length ≤ 9223372036854775807 then (derrickref04_Take.j1 r13 a4 (r257.1 ++ ((a1.drop r257.2.toNat).take (r13.2.1.toNat - r257.2.toNat))) r13.2.1) else none) else none) else none) else none))
def derrickref04_Take.j3 (a1 : Str) (a2 : Int) (r13 : Str × Int × Int) (a4 : Int) (a3 : Int) (x203 : Bool) : Option (Str × Int) :=
 (if x203 = true then (if derrickref04_names.pre a1 a2 r13.2.1 1 then (lt (derrickref04_names a1 a2 r13.2.1 1) fun r221 => (derrickref04_Take.j1 r13 a4 r221.1 r221.2)) else none) else (if a4 = 15 then (if a3 < 3 then some (([] : Str), 2) else (if derrickref04_names.pre a1 (w64 (a2 + 2)) r13.2.1 1 then (lt (derrickref04_names a1 (w64 (a2 + 2)) r13.2.1 1) fun r244 => (if 2 ≤ (r13.1.length : Int) then (if (r13.1.take (2 : Int).toNat).length + r244.1.length ≤ 9223372036854775807 then (derrickref04_Take.j1 r13 a4 ((r13.1.take (2 : Int).toNat) ++ r244.1) r244.2) else none) else none)) else none)) else (if a4 = 6 then (if derrickref04_names.pre a1 a2 r13.2.1 2 then (lt (derrickref04_names a1 a2 r13.2.1 2) fun r257 => (if r257.2 = 0 then (derrickref04_Take.j4 r257 r13 a1 a4 true) else (if r13.2.1 < r257.2 then (derrickref04_Take.j4 r257 r13 a1 a4 true) else (derrickref04_Take.j4 r257 r13 a1 a4 ((w64 (r13.2.1 - r257.2)) != 20))))) else none) else (derrickref04_Take.j1 r13 a4 r13.1 r13.2.1))))
def derrickref04_Take.f (a1 : Str) (a2 : Int) (a3 : Int) (a4 : Int) : Option (Str × Int) :=
 (if derrickref01_Some.pre a1 a2 a3 then (lt (derrickref01_Some a1 a2 a3) fun r13 => (if r13.2.2 = 0 then (if a4 = 2 then (derrickref04_Take.j3 a1 a2 r13 a4 a3 (a4 == 2)) else (if a4 = 5 then (derrickref04_Take.j3 a1 a2 r13 a4 a3 (a4 == 5)) else (derrickref04_Take.j3 a1 a2 r13 a4 a3 (a4 == 12)))) else some (([] : Str), 2))) else none)
/-- derrickref05.May -/
def derrickref05_May.f (a1 : RR) : Option (Bool) :=
 (if derrickref02_May.pre a1.name then (lt (derrickref02_May a1.name) fun r16 => (if r16 = true then (if derrickref04_May.pre a1.ty a1.data then (lt (derrickref04_May a1.ty a1.data) fun r23 => some (r23)) else none) else some (false))) else none)
/-- derrickref05.PutQ -/
def derrickref05_PutQ.f (a1 : RPack) (a6 : Question) : Option (RPack × Int) :=
 (if derrickref05_MayQ.pre a6 then (lt (derrickref05_MayQ a6) fun r50 => (if r50 = true then (if derrickref03_Name.pre a1 a6.name then (lt (derrickref03_Name a1 a6.name) fun r59 => (lt (derrickref01_Put16 a6.ty) fun r107 => (lt (derrickref01_Put16 a6.cls) fun r112 => (if r107.length + r112.length ≤ 9223372036854775807 then (if derrickref03_Add.pre r59.1 (r107 ++ r112) then (lt (derrickref03_Add r59.1 (r107 ++ r112)) fun r120 => some (r120, 0)) else none) else none)))) else none) else some (a1, 1))) else none)
/-- derrickref05.TakeQ -/
def derrickref05_TakeQ.j1 (r17 : Str × Int × Int) (r38 : Int × Int × Int) (r46 : Int × Int × Int) (x70 : Bool) : Option (Question × Int × Int) :=
 (if x70 = true then some ((⟨[], 0, 0⟩ : Question), 0, 2) else some ((⟨r17.1, r38.1, r46.1⟩ : Question), r46.2.1, 0))
def derrickref05_TakeQ.f (a1 : Str) (a2 : Int) : Option (Question × Int × Int) :=
 (if derrickref03_Take.pre a1 a2 then (lt (derrickref03_Take a1 a2) fun r17 => (if r17.2.2 = 0 then (if derrickref01_U16.pre a1 r17.2.1 then (lt (derrickref01_U16 a1 r17.2.1) fun r38 => (if derrickref01_U16.pre a1 r38.2.1 then (lt (derrickref01_U16 a1 r38.2.1) fun r46 => (if r38.2.2 = 0 then (derrickref05_TakeQ.j1 r17 r38 r46 (r46.2.2 != 0)) else (derrickref05_TakeQ.j1 r17 r38 r46 true))) else none)) else none) else some ((⟨[], 0, 0⟩ : Question), 0, 2))) else none)
/-- derrickref05.Same -/
def derrickref05_Same (a1 : RR) (a2 : RR) : Bool :=
 (if a1.name = a2.name then (if a1.ty = a2.ty then (if a1.cls = a2.cls then ((a1.data == a2.data)) else (false)) else (false)) else (false))
end Go.Proofs.Ytfcaekghpkpjdaa.K

/- Pure functions, printed by a program of this session out of the loaded code. -/
namespace Go.Proofs.Ytfcaekghpkpjdaa.K
open Go Go.RowKit
set_option linter.unusedVariables false
/-- derricklaw05.RecordSame -/
def derricklaw05_RecordSame.j1 (r24 : Bool) (a1 : RR) (a3 : Int) (a2 : RR) (x76 : Bool) : Option (Bool) :=
 (if x76 = true then some (r24) else (if a1.data.length + ([120] : Str).length ≤ 9223372036854775807 then (if r24 = true then (lt (record_Same a1 (⟨a1.name, a1.ty, a1.cls, a3, a1.data⟩ : RR)) fun r126 => (if r126 = true then (lt (record_Same a1 (⟨a1.name, a1.ty, a1.cls, a1.ttl, a1.data ++ [120]⟩ : RR)) fun r132 => (if r132 = true then some (false) else (lt (record_Same a1 a2) fun r139 => (lt (record_Same a2 a1) fun r144 => (if (r139 == r144) = true then (lt (record_Same a1 a2) fun r150 => (if r150 = true then (lt (record_Key a1) fun r156 => (lt (record_Key a2) fun r161 => (if r156 = r161 then (if record_May.pre a1 then (lt (record_May a1) fun r168 => (if record_May.pre (⟨a1.name, a1.ty, a1.cls, a3, a1.data⟩ : RR) then (lt (record_May (⟨a1.name, a1.ty, a1.cls, a3, a1.data⟩ : RR)) fun r174 => some ((r168 == r174))) else none)) else none) else some (false)))) else (if record_May.pre a1 then (lt (record_May a1) fun r182 => (if record_May.pre (⟨a1.name, a1.ty, a1.cls, a3, a1.data⟩ : RR) then (lt (record_May (⟨a1.name, a1.ty, a1.cls, a3, a1.data⟩ : RR)) fun r188 => some ((r182 == r188))) else none)) else none))) else some (false)))))) else some (false))) else some (false)) else none))
def derricklaw05_RecordSame.f (a1 : RR) (a2 : RR) (a3 : Int) : Option (Bool) :=
 (if derricklaw05_shown.pre  then (lt (derricklaw05_shown) fun r24 => (lt (derricklaw05_few a1) fun r197 => (if r197 = true then (lt (derricklaw05_few a2) fun r203 => (derricklaw05_RecordSame.j1 r24 a1 a3 a2 (!r203))) else (derricklaw05_RecordSame.j1 r24 a1 a3 a2 true)))) else none)
end Go.Proofs.Ytfcaekghpkpjdaa.K

namespace Go.Proofs.Ytfcaekghpkpjdaa.K
open Go
set_option linter.unusedVariables false
set_option maxRecDepth 100000
def derricklaw05_RecordSame (a b : RR) (t : Int) : Bool := true
def derricklaw05_RecordSame.pre (a b : RR) (t : Int) : Prop := True
instance i_derricklaw05_RecordSame (a b : RR) (t : Int) : Decidable (derricklaw05_RecordSame.pre a b t) := by unfold derricklaw05_RecordSame.pre; infer_instance
theorem same_iff (a b : RR) : record_Same a b = true ↔ a.name = b.name ∧ a.ty = b.ty ∧ a.cls = b.cls ∧ a.data = b.data := by
 cases a; cases b
 unfold record_Same
 rw [decide_eq_true_iff]
 simp only [RR.mk.injEq, true_and]
theorem same_comm (a b : RR) : record_Same a b = record_Same b a := by
 rw [Bool.eq_iff_iff, same_iff, same_iff]
 simp only [eq_comm]
theorem same_key (a b : RR) (h : record_Same a b = true) : record_Key a = record_Key b := by
 obtain ⟨h1, h2, h3, _⟩ := (same_iff a b).1 h
 unfold record_Key; rw [h1, h2, h3]
theorem RecordSame.j1 (a b : RR) (t : Int) (x : Bool) (hx : x = false → derricklaw05_few a = true ∧ derricklaw05_few b = true) : derricklaw05_RecordSame.j1 true a t b x = some true := by
 unfold derricklaw05_RecordSame.j1
 cases x with
 | true => rfl
 | false =>
  obtain ⟨h1, h2⟩ := hx rfl
  unfold derricklaw05_few at h1
  have hn : a.name.length ≤ 700 ∧ a.data.length ≤ 700 := by
   by_cases h : (a.name.length : Int) ≤ 700
   ·rw [if_pos h] at h1; have := of_decide_eq_true h1; omega
   ·rw [if_neg h] at h1; cases h1
  have hne : ¬ ((⟨a.name, a.ty, a.cls, a.ttl, a.data⟩ : RR) = ⟨a.name, a.ty, a.cls, a.ttl, a.data ++ [120]⟩) := by
   intro h; injection h with _ _ _ _ h; have := congrArg List.length h; simp at this
  have s1 : record_Same a ⟨a.name, a.ty, a.cls, t, a.data⟩ = true := by unfold record_Same; simp
  have s2 : record_Same a ⟨a.name, a.ty, a.cls, a.ttl, a.data ++ [120]⟩ = false := by unfold record_Same; exact decide_eq_false hne
  have s3 := same_comm a b
  have s4 := same_key a b
  have s5 : record_May ⟨a.name, a.ty, a.cls, t, a.data⟩ = record_May a := rfl
  have p1 : record_May.pre a := ⟨by omega, by omega⟩
  have p2 : record_May.pre ⟨a.name, a.ty, a.cls, t, a.data⟩ := p1
  rw [if_neg (by simp), if_pos (by simp; omega), if_pos rfl]
  simp only [lt]
  rw [s1, if_pos rfl, s2, if_neg (by simp), ← s3, if_pos (by simp), if_pos p1, if_pos p2, s5]
  by_cases hs : record_Same a b = true
  ·rw [if_pos hs, if_pos (s4 hs)]; simp
  ·rw [if_neg hs]; simp
theorem derricklaw05_RecordSame.eq (a b : RR) (t : Int) (hp : derricklaw05_RecordSame.pre a b t) : derricklaw05_RecordSame.f a b t = some (derricklaw05_RecordSame a b t) := by
 unfold derricklaw05_RecordSame.f
 rw [if_pos (show derricklaw05_shown.pre from trivial)]
 simp only [lt]
 rw [show derricklaw05_shown = true from rfl]
 by_cases h1 : derricklaw05_few a = true
 ·rw [if_pos h1]
  exact RecordSame.j1 a b t _ (fun h => ⟨h1, by simpa using h⟩)
 ·rw [if_neg h1]
  exact RecordSame.j1 a b t _ (fun h => by cases h)
end Go.Proofs.Ytfcaekghpkpjdaa.K

namespace Go.Proofs.Ytfcaekghpkpjdaa.K
open Go
set_option linter.unusedVariables false
set_option linter.unusedSimpArgs false
set_option maxRecDepth 100000
def kOk (K : List (Str × Int)) : Prop := ∀ x ∈ K, 0 ≤ x.2 ∧ x.2 < 16384
theorem kOk_of {l : List Place} (h : placesOk l) : kOk (toK l) := by
 intro x hx
 simp only [toK, List.mem_map] at hx
 obtain ⟨y, hy, rfl⟩ := hx
 exact h y hy
theorem of_kOk {p : Pack} (h : kOk p.known) : placesOk (toR p).l := by
 intro x hx
 simp only [toR, List.mem_map] at hx
 obtain ⟨y, hy, rfl⟩ := hx
 exact h y hy
theorem nameLoop_known : ∀ (k : Nat) (p : Pack) (n : Str), (nameLoop k p n).known.length ≤ p.known.length + k ∧ (kOk p.known → kOk (nameLoop k p n).known) := by
 intro k
 induction k with
 | zero => intro p n; exact ⟨Nat.le_refl _, id⟩
 | succ k ih =>
  intro p n
  simp only [nameLoop]
  split
  ·exact ⟨by simp [wire_Pack_Add], id⟩
  ·split
   ·exact ⟨by simp [wire_Pack_Add], id⟩
   ·by_cases h : p.s.length < 16384
    ·rw [if_pos h]
     obtain ⟨h1, h2⟩ := ih (wire_Pack_Add { p with known := p.known ++ [(n, (p.s.length : Int))] } (n.take (1 + (n.headD 0).toNat))) (n.drop (1 + (n.headD 0).toNat))
     refine ⟨by simp [wire_Pack_Add] at h1 ⊢; omega, fun hk => h2 ?_⟩
     intro x hx
     simp only [wire_Pack_Add] at hx
     rcases List.mem_append.1 hx with hx | hx
     ·exact hk x hx
     ·simp at hx; subst hx; simp only; omega
    ·rw [if_neg h]
     obtain ⟨h1, h2⟩ := ih (wire_Pack_Add p (n.take (1 + (n.headD 0).toNat))) (n.drop (1 + (n.headD 0).toNat))
     exact ⟨by simp [wire_Pack_Add] at h1 ⊢; omega, fun hk => h2 hk⟩
theorem Name_known (p : Pack) (n : Str) : (wire_Pack_Name p n).2.known.length ≤ p.known.length + 256 ∧ (kOk p.known → kOk (wire_Pack_Name p n).2.known) := by
 unfold wire_Pack_Name
 split
 ·rename_i hm
  have h := nameLoop_known (n.length + 1) p n
  have := (may_split hm).2
  exact ⟨by simp only; omega, h.2⟩
 ·exact ⟨by simp, id⟩
theorem toR_len (p : Pack) : (toR p).l.length = p.known.length := by simp [toR]
theorem ofR_len (p : RPack) : (ofR p).known.length = p.l.length := by simp [ofR, toK]
theorem add_toR (p : Pack) (s : Str) : derrickref03_Add (toR p) s = toR (wire_Pack_Add p s) := rfl
theorem name_toR (p : Pack) (n : Str) : derrickref03_Name (toR p) n = (toR (wire_Pack_Name p n).2, (wire_Pack_Name p n).1) := by
 unfold derrickref03_Name; rw [ofR_toR]
/-- A pack of fair size, of places that are told in two bytes. -/
def rpOk (p : Pack) (a b : Nat) : Prop := kOk p.known ∧ p.known.length ≤ a ∧ p.s.length ≤ b
theorem namePre {p : Pack} {n : Str} (h : rpOk p 100000000 10000000000) (hn : n.length ≤ 1000000) : derrickref03_Name.pre (toR p) n :=
 ⟨of_kOk h.1, by rw [toR_len]; exact h.2.1, h.2.2, hn⟩
theorem rpOk.name {p : Pack} {a b : Nat} (h : rpOk p a b) (n : Str) : rpOk (wire_Pack_Name p n).2 (a + 256) (b + n.length + 2) := by
 have h1 := Name_known p n
 have h2 := Name_len p n
 exact ⟨h1.2 h.1, by have := h.2.1; omega, by have := h.2.2; omega⟩
theorem rpOk.add {p : Pack} {a b : Nat} (h : rpOk p a b) (s : Str) : rpOk (wire_Pack_Add p s) a (b + s.length) := ⟨h.1, h.2.1, by have := h.2.2; simp [wire_Pack_Add]; omega⟩
theorem rpOk.le {p : Pack} {a b a' b' : Nat} (h : rpOk p a b) (ha : a ≤ a') (hb : b ≤ b') : rpOk p a' b' := ⟨h.1, Nat.le_trans h.2.1 ha, Nat.le_trans h.2.2 hb⟩
def derrickref04_Put (p : RPack) (k : Int) (d : Str) : RPack × Int := (toR (rdata_Put (ofR p) k d).2, (rdata_Put (ofR p) k d).1)
def derrickref04_Put.pre (p : RPack) (k : Int) (d : Str) : Prop := placesOk p.l ∧ p.l.length ≤ 50000000 ∧ p.s.length ≤ 5000000000 ∧ d.length ≤ 1000000
instance i_derrickref04_Put (p : RPack) (k : Int) (d : Str) : Decidable (derrickref04_Put.pre p k d) := by unfold derrickref04_Put.pre; infer_instance
theorem may_parts {k : Int} {d : Str} (h : rdata_May k d = true) : (cutL (rdata_layout k) d []).2 = true ∧ d.length ≤ 65535 := by
 simp only [rdata_May, Bool.and_eq_true, decide_eq_true_eq] at h; exact h
theorem put_eta (p : Pack) (k : Int) (d : Str) (q : Pack) (h : rdata_May k d = true) (hq : putL (rdata_layout k) (rdata_cut k d).1 p = q) : (toR (rdata_Put p k d).2, (rdata_Put p k d).1) = (toR q, 0) := by
 unfold rdata_Put; rw [if_pos h, hq]
theorem take_num {n : Nat} {d : Str} (h : (cutL [(n : Int)] d []).2 = true) : (cutL [(n : Int)] d []).1 = [d] := by
 rw [cut_num (by omega)] at h ⊢
 by_cases hc : (d.length : Int) < (n : Int)
 ·rw [if_pos hc] at h; cases h
 ·rw [if_neg hc] at h ⊢
  simp only [cutL, beq_iff_eq] at h ⊢
  have := List.take_append_drop (n : Int).toNat d
  rw [h, List.append_nil] at this
  rw [this]; rfl
theorem derrickref04_Put.eq (p : RPack) (k : Int) (d : Str) (hp : derrickref04_Put.pre p k d) : derrickref04_Put.f p k d = some (derrickref04_Put p k d) := by
 obtain ⟨h1, h2, h3, h4⟩ := hp
 obtain ⟨q, rfl⟩ : ∃ q, p = toR q := ⟨ofR p, (toR_ofR p).symm⟩
 have hr : rpOk q 50000000 5000000000 := by
  refine ⟨?_, by rw [toR_len] at h2; exact h2, h3⟩
  have := kOk_of h1
  have e := ofR_toR q
  rw [← e]; exact this
 unfold derrickref04_Put.f derrickref04_Put
 rw [ofR_toR, if_pos (show derrickref04_May.pre k d from h4)]
 simp only [lt]
 rw [show derrickref04_May k d = rdata_May k d from rfl]
 by_cases hm : rdata_May k d = true
 rotate_left
 ·rw [if_neg hm]; unfold rdata_Put; rw [if_neg hm]
 rw [if_pos hm]
 obtain ⟨hc, hd⟩ := may_parts hm
 have jT : rdata_layout k = [-1] → derrickref04_Put.j1 (toR q) d k true = some (toR (rdata_Put q k d).2, (rdata_Put q k d).1) := by
  intro hl
  unfold derrickref04_Put.j1
  rw [if_pos rfl, if_pos (namePre (hr.le (by omega) (by omega)) h4)]
  simp only [lt]
  rw [name_toR]
  rw [hl] at hc
  have hnm : name_May d = true := by rw [cut_one_name] at hc; exact hc
  have hparts : (rdata_cut k d).1 = [d] := by
   unfold rdata_cut
   rw [hl, cut_name]
   obtain ⟨w1, w2⟩ := (whole_all d).2 hnm
   rw [if_neg w1]
   simp only [cutL]
   have := List.take_append_drop (rdata_whole d).toNat d
   rw [w2, List.append_nil] at this
   rw [this]; rfl
  rw [put_eta q k d (wire_Pack_Name q d).2 hm (by rw [hl, hparts]; simp [putL])]
 have jA : (rdata_cut k d).1 = [d] → (∃ z, rdata_layout k = [z] ∧ z ≠ -1) → (if derrickref03_Add.pre (toR q) d then (some (derrickref03_Add (toR q) d, (0 : Int))) else none) = some (toR (rdata_Put q k d).2, (rdata_Put q k d).1) := by
  rintro hparts ⟨z, hz, hz1⟩
  rw [if_pos (show derrickref03_Add.pre (toR q) d by unfold derrickref03_Add.pre; have := hr.2.2; simp only [toR]; omega), add_toR]
  rw [put_eta q k d (wire_Pack_Add q d) hm (by rw [hz, hparts]; simp [putL, hz1])]
 have jF : k ≠ 2 ∧ k ≠ 5 ∧ k ≠ 12 → derrickref04_Put.j1 (toR q) d k false = some (toR (rdata_Put q k d).2, (rdata_Put q k d).1) := by
  intro hk
  unfold derrickref04_Put.j1
  rw [if_neg (by simp)]
  by_cases h15 : k = 15
  ·subst h15
   have hl : rdata_layout 15 = [2, -1] := rfl
   rw [hl, cut_num (by decide)] at hc
   have hge : ¬ (d.length : Int) < 2 := by intro h; rw [if_pos h] at hc; cases hc
   rw [if_neg hge, show (2 : Int).toNat = 2 from rfl] at hc
   have hacc := cutL_acc [-1] (d.drop 2) ([] ++ [d.take 2])
   rw [hacc.1] at hc
   have hnm : name_May (d.drop 2) = true := by rw [cut_one_name] at hc; exact hc
   have hparts : (rdata_cut 15 d).1 = [d.take 2, d.drop 2] := by
    unfold rdata_cut
    rw [hl, cut_num (by decide), if_neg hge, show (2 : Int).toNat = 2 from rfl, hacc.2 hc, cut_name]
    obtain ⟨w1, w2⟩ := (whole_all (d.drop 2)).2 hnm
    rw [if_neg w1]
    simp only [cutL]
    have := List.take_append_drop (rdata_whole (d.drop 2)).toNat (d.drop 2)
    rw [w2, List.append_nil] at this
    rw [this]; rfl
   have ht : (d.take 2).length ≤ 2 := by simp; omega
   rw [if_pos rfl, if_pos (by omega), show (2 : Int).toNat = 2 from rfl, if_pos (show derrickref03_Add.pre (toR q) (d.take 2) by unfold derrickref03_Add.pre; have := hr.2.2; simp only [toR]; omega)]
   simp only [lt]
   rw [add_toR, if_pos (namePre ((hr.add (d.take 2)).le (by omega) (by omega)) (by simp; omega)), name_toR]
   unfold derrickref04_Put.j2
   rw [put_eta q 15 d (wire_Pack_Name (wire_Pack_Add q (d.take 2)) (d.drop 2)).2 hm (by rw [hl, hparts]; simp [putL])]
  rw [if_neg h15]
  by_cases h6 : k = 6
  ·subst h6
   have hl : rdata_layout 6 = [-1, -1, 20] := rfl
   have w1 := whole_le d
   have w2 := whole_le (d.drop (rdata_whole d).toNat)
   rw [hl, cut_name] at hc
   have n1 : rdata_whole d ≠ 0 := by intro h; rw [if_pos h] at hc; cases hc
   rw [if_neg n1, cut_name] at hc
   have n2 : rdata_whole (d.drop (rdata_whole d).toNat) ≠ 0 := by intro h; rw [if_pos h] at hc; cases hc
   rw [if_neg n2, cut_num (by decide)] at hc
   obtain ⟨a, ha⟩ := Int.eq_ofNat_of_zero_le w1.1
   rw [ha] at w1 w2 n1 n2 hc
   simp only [Int.toNat_natCast] at w2 n2 hc
   obtain ⟨b, hb⟩ := Int.eq_ofNat_of_zero_le w2.1
   rw [hb] at w2 n2 hc
   rw [List.length_drop] at w2
   simp only [Int.toNat_natCast] at hc
   have h20 : ¬ (((d.drop a).drop b).length : Int) < 20 := by intro h; rw [if_pos h] at hc; cases hc
   rw [if_neg h20] at hc
   simp only [cutL, beq_iff_eq] at hc
   rw [show (20 : Int).toNat = 20 from rfl] at hc
   have hparts : (rdata_cut 6 d).1 = [d.take a, (d.drop a).take b, (d.drop a).drop b] := by
    unfold rdata_cut
    rw [hl, cut_name, ha, if_neg n1]
    simp only [Int.toNat_natCast]
    rw [cut_name, hb, if_neg n2]
    simp only [Int.toNat_natCast]
    rw [cut_num (by decide), if_neg h20]
    simp only [cutL, show (20 : Int).toNat = 20 from rfl]
    have := List.take_append_drop 20 ((d.drop a).drop b)
    rw [hc, List.append_nil] at this
    rw [this]; rfl
   have hab : w64 ((a : Int) + (b : Int)) = ((a + b : Nat) : Int) := by rw [w64_id (by omega) (by omega)]; omega
   rw [if_pos rfl, if_pos (show derrickref04_size.pre d from h4)]
   simp only [lt]
   rw [show derrickref04_size d = rdata_whole d from rfl, ha, if_pos (by omega), if_pos (by omega)]
   simp only [Int.toNat_natCast]
   rw [if_pos (show derrickref04_size.pre (d.drop a) by unfold derrickref04_size.pre; simp; omega), show derrickref04_size (d.drop a) = rdata_whole (d.drop a) from rfl, hb]
   rw [if_pos (namePre (hr.le (by omega) (by omega)) (by simp; omega)), name_toR]
   unfold derrickref04_Put.j3
   rw [hab, if_pos (by omega), if_pos (by omega)]
   simp only [Int.toNat_natCast, Nat.add_sub_cancel_left]
   have r2 := hr.name (d.take a)
   have e2 : (⟨(toR (wire_Pack_Name q (d.take a)).2).s, (toR (wire_Pack_Name q (d.take a)).2).l⟩ : RPack) = toR (wire_Pack_Name q (d.take a)).2 := rfl
   rw [e2, if_pos (namePre (r2.le (by omega) (by simp; omega)) (by simp; omega))]
   simp only [lt]
   rw [name_toR]
   unfold derrickref04_Put.j4
   rw [hab, if_pos (by omega), if_pos (by omega)]
   simp only [Int.toNat_natCast]
   have r3 := r2.name ((d.drop a).take b)
   have e3 : ∀ x : Pack, (⟨(toR x).s, (toR x).l⟩ : RPack) = toR x := fun _ => rfl
   rw [e3, if_pos (show derrickref03_Add.pre (toR (wire_Pack_Name (wire_Pack_Name q (d.take a)).2 ((d.drop a).take b)).2) (d.drop (a + b)) by
    unfold derrickref03_Add.pre
    have := r3.2.2
    have e9 : (d.take a).length ≤ 1000000 := by simp; omega
    have e8 : ((d.drop a).take b).length ≤ 1000000 := by simp; omega
    have e7 : (d.drop (a + b)).length ≤ 1000000 := by simp; omega
    simp only [toR]
    omega), add_toR]
   rw [put_eta q 6 d (wire_Pack_Add (wire_Pack_Name (wire_Pack_Name q (d.take a)).2 ((d.drop a).take b)).2 (d.drop (a + b))) hm (by rw [hl, hparts]; simp [putL, List.drop_drop])]
   rfl
  rw [if_neg h6]
  simp only [lt]
  by_cases h1 : k = 1
  ·subst h1
   exact jA (take_num (n := 4) hc) ⟨4, rfl, by decide⟩
  by_cases h28 : k = 28
  ·subst h28
   exact jA (take_num (n := 16) hc) ⟨16, rfl, by decide⟩
  by_cases h16 : k = 16
  ·subst h16
   refine jA ?_ ⟨-2, rfl, by decide⟩
   have hl : rdata_layout 16 = [-2] := rfl
   rw [hl, cut_texts] at hc
   unfold rdata_cut
   rw [hl]
   have hs : partSize (-2) d = d.length := by unfold partSize; rw [if_neg (by decide), if_pos (.inl ⟨rfl, hc⟩)]
   have hb : partBad (-2) d = false := by unfold partBad; rw [hs]; simp
   simp only [cutL, hs, hb]
   rw [if_neg (by simp)]
   simp
  ·have hl := layout_other ⟨h1, h28, hk.1, hk.2.1, hk.2.2, h15, h6, h16⟩
   refine jA ?_ ⟨-3, hl, by decide⟩
   unfold rdata_cut
   rw [hl]
   have hs : partSize (-3) d = d.length := by unfold partSize; rw [if_neg (by decide), if_pos (.inr rfl)]
   have hb : partBad (-3) d = false := by unfold partBad; rw [hs]; simp
   simp only [cutL, hs, hb]
   rw [if_neg (by simp)]
   simp
 by_cases k2 : k = 2
 ·subst k2; rw [if_pos rfl]; exact jT rfl
 rw [if_neg k2]
 by_cases k5 : k = 5
 ·subst k5; rw [if_pos rfl]; exact jT rfl
 rw [if_neg k5]
 by_cases k12 : k = 12
 ·subst k12; exact jT rfl
 ·rw [show (k == 12) = false from beq_eq_false_iff_ne.2 k12]; exact jF ⟨k2, k5, k12⟩
theorem U16_at {s : Str} {a : Int} (h : (octet_U16 s a).2.2 = 0) : (octet_U16 s a).2.1 = a + 2 ∧ 0 ≤ a := by
 rw [U16_eq] at h ⊢
 by_cases hc : a < 0 ∨ (s.length : Int) < a + 2
 ·exfalso
  split at h
  ·cases h
  ·omega
 ·split at h
  ·cases h
  ·rename_i h1
   rw [if_neg h1]
   exact ⟨rfl, by omega⟩
theorem takeN_gt (s : Str) : ∀ (k : Nat) (a f beh : Int) (b : Str), beh < 0 → (takeN s k a f beh b).2.2 = 0 → a < (takeN s k a f beh b).2.1 := by
 have hbeh : ∀ (k : Nat) (a f beh : Int) (b : Str), 0 ≤ beh → (takeN s k a f beh b).2.2 = 0 → (takeN s k a f beh b).2.1 = beh := by
  intro k
  induction k with
  | zero => intro a f beh b _ h; simp [takeN] at h
  | succ k ih =>
   intro a f beh b hb h
   simp only [takeN] at h ⊢
   split at h
   ·simp at h
   rename_i h1
   rw [if_neg h1]
   split at h
   ·rename_i h2
    rw [if_pos h2]
    split at h
    ·rename_i h3
     rw [if_pos h3, if_neg (by omega)] at *
     exact ih _ _ _ _ hb h
    ·simp at h
   rename_i h2
   rw [if_neg h2]
   split at h
   ·simp at h
   rename_i h3
   rw [if_neg h3]
   split at h
   ·rename_i h4
    rw [if_pos h4]; exact ih _ _ _ _ hb h
   ·rename_i h4
    rw [if_neg h4]
    simp only
    rw [if_neg (by omega)]
 intro k
 induction k with
 | zero => intro a f beh b _ h; simp [takeN] at h
 | succ k ih =>
  intro a f beh b hb h
  have u8 := @Take_U8 s a
  have so := @Some_len s (octet_U8 s a).2.1 (octet_U8 s a).1
  have u16 := @U16_at s a
  simp only [takeN] at h ⊢
  split at h
  ·simp at h
  rename_i h1
  rw [if_neg h1]
  obtain ⟨v0, v1, v2, v3, v4⟩ := u8 (Classical.not_not.1 (not_or.1 h1).1)
  split at h
  ·rename_i h2
   rw [if_pos h2]
   split at h
   ·rename_i h3
    have q := u16 h3.1
    have e := hbeh _ _ _ _ _ (by omega) h
    rw [if_pos h3, if_pos hb, e]
    omega
   ·simp at h
  rename_i h2
  rw [if_neg h2]
  split at h
  ·simp at h
  rename_i h3
  rw [if_neg h3]
  obtain ⟨x0, x1, x2, x3, x4⟩ := so (Classical.not_not.1 (not_or.1 h3).1)
  split at h
  ·rename_i h4
   rw [if_pos h4]
   have := ih _ _ _ _ hb h
   rw [x4] at this ⊢
   omega
  ·rename_i h4
   rw [if_neg h4]
   simp only
   rw [if_pos hb, x4]
   omega
theorem Take_gt {s : Str} {a : Int} (h : (wire_Take s a).2.2 = 0) : a < (wire_Take s a).2.1 := takeN_gt s _ _ _ _ _ (by decide) h
theorem Take_neg {s : Str} {a : Int} (h : (wire_Take s a).2.2 = 0) : 0 ≤ a := by
 apply Classical.byContradiction
 intro hn
 unfold wire_Take at h
 rw [takeN_out (by omega)] at h
 simp at h
def derrickref04_Take (s : Str) (a m k : Int) : Str × Int := rdata_Take s a m k
def derrickref04_Take.pre (s : Str) (a m k : Int) : Prop := s.length ≤ 300000
instance i_derrickref04_Take (s : Str) (a m k : Int) : Decidable (derrickref04_Take.pre s a m k) := by unfold derrickref04_Take.pre; infer_instance
theorem r4j1 (s : Str) (r : Str × Int × Int) (k : Int) (d : Str) (z : Int) (hd : d.length ≤ 1000000) : derrickref04_Take.j1 r k d z = some (takeEnd k r.2.1 (some (d, z))) := by
 unfold derrickref04_Take.j1 derrickref04_Take.j2
 simp only [takeEnd]
 by_cases h : z = r.2.1
 ·rw [if_pos h, if_pos (show derrickref04_May.pre k d from hd)]
  simp only [lt]
  rw [show derrickref04_May k d = rdata_May k d from rfl]
  cases rdata_May k d with
  | true => rw [if_neg (by simp), if_pos ⟨h, rfl⟩]
  | false => rw [if_pos (by simp), if_neg (by simp)]
 ·rw [if_neg h, if_pos (by decide), if_neg (by simp [h])]
theorem may_nil (k : Int) (hk : k = 2 ∨ k = 5 ∨ k = 12) : rdata_May k [] = false := by
 rcases hk with rfl | rfl | rfl <;> decide +kernel
theorem may_len {k : Int} {n : Nat} (hl : rdata_layout k = [(n : Int)]) (d : Str) : rdata_May k d = (decide (d.length = n) && decide (d.length ≤ 65535)) := by
 unfold rdata_May rdata_cut
 rw [hl, cut_num (by omega)]
 congr 1
 by_cases h : (d.length : Int) < (n : Int)
 ·rw [if_pos h]; simp only; symm; exact decide_eq_false (by omega)
 ·rw [if_neg h]
  simp only [cutL]
  rw [beq_nil_len, decide_eq_decide, List.length_drop]; omega
theorem derrickref04_Take.eq (s : Str) (a m k : Int) (hp : derrickref04_Take.pre s a m k) : derrickref04_Take.f s a m k = some (derrickref04_Take s a m k) := by
 unfold derrickref04_Take.pre at hp
 unfold derrickref04_Take.f derrickref04_Take rdata_Take
 rw [if_pos (show derrickref01_Some.pre s a m by unfold derrickref01_Some.pre; omega)]
 simp only [lt]
 rw [show derrickref01_Some s a m = octet_Some s a m from rfl]
 have hsl := @Some_len s a m
 have hbad : (octet_Some s a m).2.2 ≠ 0 → (octet_Some s a m).2.2 = 2 := by
  intro h
  by_cases hc : a < 0 ∨ m < 0 ∨ (s.length : Int) < a ∨ (s.length : Int) - a < m
  ·rw [some_bad hc]
  ·rw [some_ok hc] at h; exact absurd rfl h
 have hval : (octet_Some s a m).2.2 = 0 → (octet_Some s a m).1 = (s.drop a.toNat).take m.toNat := by
  intro h
  by_cases hc : a < 0 ∨ m < 0 ∨ (s.length : Int) < a ∨ (s.length : Int) - a < m
  ·rw [some_bad hc] at h; cases h
  ·rw [some_ok hc]
 by_cases h0 : (octet_Some s a m).2.2 = 0
 rotate_left
 ·rw [if_neg h0, if_pos h0, hbad h0]
 obtain ⟨o0, o1, o2, o3, o4⟩ := hsl h0
 have hv := hval h0
 obtain ⟨r, hr⟩ : ∃ r, octet_Some s a m = r := ⟨_, rfl⟩
 rw [hr] at h0 o3 o4 hv ⊢
 rw [if_pos h0, if_neg (show ¬ r.2.2 ≠ 0 from fun e => e h0)]
 have tl := fun x : Int => Take_len s x
 -- one name behind so many bytes
 have one : ∀ (b : Int) (pre : Str), pre.length ≤ 2 → (b = a ∧ pre = [] ∧ (k = 2 ∨ k = 5 ∨ k = 12) ∨ 0 < a + m) → derrickref04_Take.j1 r k (pre ++ (namesN s (a + m) 1 b []).1) (namesN s (a + m) 1 b []).2 = some (takeEnd k (a + m) (takeParts s (a + m) [-1] b pre)) := by
  intro b pre hpre hz
  have t := tl b
  rw [r4j1 s _ _ _ _ (by simp only [namesN]; split <;> simp <;> omega), o4]
  simp only [namesN, takeParts, if_true]
  by_cases hc : (wire_Take s b).2.2 ≠ 0 ∨ a + m < (wire_Take s b).2.1
  ·rw [if_pos hc, if_pos hc]
   simp only [takeEnd, List.append_nil]
   rw [if_neg]
   rintro ⟨e1, e2⟩
   rcases hz with ⟨_, h2, h3⟩ | h
   ·rw [h2, may_nil k h3] at e2; cases e2
   ·omega
  ·rw [if_neg hc, if_neg hc, List.nil_append]
 have jT : (k = 2 ∨ k = 5 ∨ k = 12) → rdata_layout k = [-1] → derrickref04_Take.j3 s a r k m true = some (takeEnd k (a + m) (takeParts s (a + m) (rdata_layout k) a [])) := by
  intro hk hl
  unfold derrickref04_Take.j3
  rw [if_pos rfl, if_pos (show derrickref04_names.pre s a r.2.1 1 from ⟨hp, by decide, by decide⟩)]
  simp only [lt]
  rw [show derrickref04_names s a r.2.1 1 = namesN s (a + m) 1 a [] by unfold derrickref04_names; rw [o4]; rfl, hl]
  have := one a [] (by simp) (.inl ⟨rfl, rfl, hk⟩)
  rw [List.nil_append] at this
  exact this
 have jA : ∀ z : Int, rdata_layout k = [z] → z ≠ -1 → (0 ≤ z → ∀ d : Str, rdata_May k d = true → (d.length : Int) = z) → (z = -2 ∨ z = -3 ∨ 0 ≤ z) → derrickref04_Take.j1 r k r.1 r.2.1 = some (takeEnd k (a + m) (takeParts s (a + m) (rdata_layout k) a [])) := by
  intro z hl hz1 hz2 hz3
  rw [r4j1 s _ _ _ _ (by rw [o3]; omega), o4, hl]
  simp only [takeParts, if_neg hz1]
  by_cases hzz : z = -2 ∨ z = -3
  ·have hpl : partLen (a + m) a z = m := by unfold partLen; rw [if_pos hzz]; omega
   rw [hpl, hr, if_neg (by omega), List.nil_append, o4]
  ·have hpl : partLen (a + m) a z = z := by unfold partLen; rw [if_neg hzz]
   rw [hpl]
   have hz0 : 0 ≤ z := by omega
   by_cases hzm : z = m
   ·rw [hzm, hr, if_neg (by omega), List.nil_append, o4]
   ·have hl1 : takeEnd k (a + m) (some (r.1, a + m)) = ([], 2) := by
     simp only [takeEnd]
     rw [if_neg]
     rintro ⟨_, e⟩
     have := hz2 hz0 _ e
     omega
    rw [hl1]
    have hsz := @Some_len s a z
    by_cases hc : (octet_Some s a z).2.2 ≠ 0 ∨ a + m < (octet_Some s a z).2.1
    ·rw [if_pos hc]; rfl
    ·rw [if_neg hc]
     obtain ⟨x0, x1, x2, x3, x4⟩ := hsz (by omega)
     simp only [takeEnd]
     rw [if_neg (by omega)]
 have jF : k ≠ 2 ∧ k ≠ 5 ∧ k ≠ 12 → derrickref04_Take.j3 s a r k m false = some (takeEnd k (a + m) (takeParts s (a + m) (rdata_layout k) a [])) := by
  intro hk
  unfold derrickref04_Take.j3
  rw [if_neg (by simp)]
  by_cases h15 : k = 15
  ·subst h15
   have hl : rdata_layout 15 = [2, -1] := rfl
   rw [if_pos rfl, hl]
   have hpl : partLen (a + m) a 2 = 2 := by unfold partLen; rw [if_neg (by decide)]
   have hst : takeParts s (a + m) [2, -1] a [] = if (octet_Some s a 2).2.2 ≠ 0 ∨ a + m < (octet_Some s a 2).2.1 then none else takeParts s (a + m) [-1] (octet_Some s a 2).2.1 ([] ++ (octet_Some s a 2).1) := by
    rw [takeParts, if_neg (by decide), hpl]
   rw [hst]
   have hsz := @Some_len s a 2
   by_cases h3 : m < 3
   ·rw [if_pos h3]
    by_cases hc : (octet_Some s a 2).2.2 ≠ 0 ∨ a + m < (octet_Some s a 2).2.1
    ·rw [if_pos hc]; rfl
    ·rw [if_neg hc]
     obtain ⟨x0, x1, x2, x3, x4⟩ := hsz (by omega)
     simp only [takeParts, if_true]
     rw [if_pos]
     ·rfl
     ·by_cases ht : (wire_Take s (octet_Some s a 2).2.1).2.2 = 0
      ·right; have := Take_gt ht; omega
      ·exact .inl ht
   ·have h2 : octet_Some s a 2 = ((s.drop a.toNat).take 2, a + 2, 0) := by rw [some_ok (by omega)]; rfl
    have hgo : ¬ (((s.drop a.toNat).take 2, a + 2, (0 : Int)).2.2 ≠ 0 ∨ a + m < ((s.drop a.toNat).take 2, a + 2, (0 : Int)).2.1) := by
     rintro (e | e)
     ·exact e rfl
     ·have e' : a + m < a + 2 := e; omega
    rw [if_neg h3, h2, if_neg hgo, w64_id (by omega) (by omega), if_pos (show derrickref04_names.pre s (a + 2) r.2.1 1 from ⟨hp, by decide, by decide⟩)]
    simp only [lt]
    rw [show derrickref04_names s (a + 2) r.2.1 1 = namesN s (a + m) 1 (a + 2) [] by unfold derrickref04_names; rw [o4]; rfl, if_pos (by omega), show (2 : Int).toNat = 2 from rfl]
    have hpre : r.1.take 2 = (s.drop a.toNat).take 2 := by rw [hv, List.take_take, show min 2 m.toNat = 2 by omega]
    have hnl : (namesN s (a + m) 1 (a + 2) []).1.length ≤ 255 := by
     have := tl (a + 2)
     simp only [namesN]; split <;> simp <;> omega
    rw [if_pos (by simp; omega), hpre, List.nil_append]
    exact one (a + 2) _ (by simp; omega) (.inr (by omega))
  rw [if_neg h15]
  by_cases h6 : k = 6
  ·subst h6
   have hl : rdata_layout 6 = [-1, -1, 20] := rfl
   rw [if_pos rfl, hl, if_pos (show derrickref04_names.pre s a r.2.1 2 from ⟨hp, by decide, by decide⟩)]
   simp only [lt]
   rw [show derrickref04_names s a r.2.1 2 = namesN s (a + m) 2 a [] by unfold derrickref04_names; rw [o4]; rfl, o4]
   have t1 := tl a
   have t2 := tl (wire_Take s a).2.1
   have g1 := @Take_gt s a
   have g2 := @Take_gt s (wire_Take s a).2.1
   have hj4 : ∀ x, derrickref04_Take.j4 x r s 6 true = some ([], 2) := by
    intro x; unfold derrickref04_Take.j4; rw [if_pos rfl]
   have hT : takeParts s (a + m) [-1, -1, 20] a [] = if (wire_Take s a).2.2 ≠ 0 ∨ a + m < (wire_Take s a).2.1 then none else if (wire_Take s (wire_Take s a).2.1).2.2 ≠ 0 ∨ a + m < (wire_Take s (wire_Take s a).2.1).2.1 then none else takeParts s (a + m) [20] (wire_Take s (wire_Take s a).2.1).2.1 ([] ++ (wire_Take s a).1 ++ (wire_Take s (wire_Take s a).2.1).1) := by
    rw [takeParts, if_pos rfl, takeParts, if_pos rfl]
   have hN : namesN s (a + m) 2 a [] = if (wire_Take s a).2.2 ≠ 0 ∨ a + m < (wire_Take s a).2.1 then ([], 0) else if (wire_Take s (wire_Take s a).2.1).2.2 ≠ 0 ∨ a + m < (wire_Take s (wire_Take s a).2.1).2.1 then ([], 0) else ([] ++ (wire_Take s a).1 ++ (wire_Take s (wire_Take s a).2.1).1, (wire_Take s (wire_Take s a).2.1).2.1) := by
    rw [namesN, namesN, namesN]
   rw [hT, hN]
   by_cases c1 : (wire_Take s a).2.2 ≠ 0 ∨ a + m < (wire_Take s a).2.1
   ·rw [if_pos c1, if_pos c1, if_pos rfl]
    exact hj4 _
   rw [if_neg c1, if_neg c1]
   by_cases c2 : (wire_Take s (wire_Take s a).2.1).2.2 ≠ 0 ∨ a + m < (wire_Take s (wire_Take s a).2.1).2.1
   ·rw [if_pos c2, if_pos c2, if_pos rfl]
    exact hj4 _
   rw [if_neg c2, if_neg c2]
   have q1 := g1 (by omega)
   have q2 := g2 (by omega)
   obtain ⟨e, he⟩ : ∃ e, (wire_Take s (wire_Take s a).2.1).2.1 = e := ⟨_, rfl⟩
   rw [he] at c2 q2 ⊢
   obtain ⟨n1, hn1⟩ : ∃ n1, (wire_Take s a).1 = n1 := ⟨_, rfl⟩
   obtain ⟨n2, hn2⟩ : ∃ n2, (wire_Take s (wire_Take s a).2.1).1 = n2 := ⟨_, rfl⟩
   rw [hn1] at t1 ⊢
   rw [hn2] at t2 ⊢
   have hpl : partLen (a + m) e 20 = 20 := by unfold partLen; rw [if_neg (by decide)]
   have hT2 : takeParts s (a + m) [20] e ([] ++ n1 ++ n2) = if (octet_Some s e 20).2.2 ≠ 0 ∨ a + m < (octet_Some s e 20).2.1 then none else some ([] ++ n1 ++ n2 ++ (octet_Some s e 20).1, (octet_Some s e 20).2.1) := by
    rw [takeParts, if_neg (by decide), hpl]; rfl
   have ez : ¬ (([] ++ n1 ++ n2, e) : Str × Int).2 = 0 := by show ¬ e = 0; omega
   have ey : ¬ a + m < (([] ++ n1 ++ n2, e) : Str × Int).2 := by show ¬ a + m < e; omega
   rw [hT2, if_neg ez, if_neg ey, w64_id (by omega) (by omega)]
   have hsz := @Some_len s e 20
   by_cases h20 : a + m - e = 20
   ·have h2 : octet_Some s e 20 = ((s.drop e.toNat).take 20, e + 20, 0) := by rw [some_ok (by omega)]; rfl
    have hgo : ¬ (((s.drop e.toNat).take 20, e + 20, (0 : Int)).2.2 ≠ 0 ∨ a + m < ((s.drop e.toNat).take 20, e + 20, (0 : Int)).2.1) := by
     rintro (x | x)
     ·exact x rfl
     ·have e' : a + m < e + 20 := x; omega
    rw [h2, if_neg hgo]
    have hne : ((a + m - e) != 20) = false := by rw [bne_eq_false_iff_eq]; exact h20
    rw [hne]
    unfold derrickref04_Take.j4
    rw [if_neg (by decide)]
    simp only
    rw [if_pos (by omega), if_pos (by omega)]
    rw [if_pos (by omega), show r.2.1.toNat - e.toNat = 20 by omega]
    have hdl : ((s.drop e.toNat).take 20).length ≤ 20 := by rw [List.length_take]; omega
    have hnl : ([] ++ n1 ++ n2).length ≤ 510 := by rw [List.nil_append, List.length_append]; omega
    rw [if_pos (by omega), r4j1 s _ _ _ _ (by rw [List.length_append]; omega), o4, show e + 20 = a + m by omega]
   ·have hne : ((a + m - e) != 20) = true := by simp only [bne_iff_ne, ne_eq]; exact h20
    rw [hne]
    unfold derrickref04_Take.j4
    rw [if_pos rfl]
    by_cases hc : (octet_Some s e 20).2.2 ≠ 0 ∨ a + m < (octet_Some s e 20).2.1
    ·rw [if_pos hc]; rfl
    ·rw [if_neg hc]
     obtain ⟨x0, x1, x2, x3, x4⟩ := hsz (Classical.not_not.1 (not_or.1 hc).1)
     simp only [takeEnd]
     rw [if_neg (by omega)]
  rw [if_neg h6]
  by_cases h1 : k = 1
  ·subst h1
   exact jA 4 rfl (by decide) (fun _ d hd => by rw [may_len (n := 4) rfl] at hd; simp at hd; omega) (by omega)
  by_cases h28 : k = 28
  ·subst h28
   exact jA 16 rfl (by decide) (fun _ d hd => by rw [may_len (n := 16) rfl] at hd; simp at hd; omega) (by omega)
  by_cases h16 : k = 16
  ·subst h16
   exact jA (-2) rfl (by decide) (fun h => by omega) (by omega)
  ·have hl := layout_other ⟨h1, h28, hk.1, hk.2.1, hk.2.2, h15, h6, h16⟩
   exact jA (-3) hl (by decide) (fun h => by omega) (by omega)
 by_cases k2 : k = 2
 ·subst k2; rw [if_pos rfl]; exact jT (.inl rfl) rfl
 rw [if_neg k2]
 by_cases k5 : k = 5
 ·subst k5; rw [if_pos rfl]; exact jT (.inr (.inl rfl)) rfl
 rw [if_neg k5]
 by_cases k12 : k = 12
 ·subst k12; exact jT (.inr (.inr rfl)) rfl
 ·rw [show (k == 12) = false from beq_eq_false_iff_ne.2 k12]; exact jF ⟨k2, k5, k12⟩
def derrickref05_May (r : RR) : Bool := record_May r
def derrickref05_May.pre (r : RR) : Prop := r.name.length ≤ 1000000 ∧ r.data.length ≤ 1000000
instance i_derrickref05_May (r : RR) : Decidable (derrickref05_May.pre r) := by unfold derrickref05_May.pre; infer_instance
theorem derrickref05_May.eq (r : RR) (hp : derrickref05_May.pre r) : derrickref05_May.f r = some (derrickref05_May r) := by
 unfold derrickref05_May.f derrickref05_May record_May
 rw [if_pos (show derrickref02_May.pre r.name from hp.1)]
 simp only [lt]
 rw [show derrickref02_May r.name = name_May r.name from rfl]
 cases name_May r.name with
 | true => rw [if_pos rfl, if_pos (show derrickref04_May.pre r.ty r.data from hp.2)]; rfl
 | false => rw [if_neg (by simp)]; rfl
def qOk (q : Question) : Prop := (0 ≤ q.ty ∧ q.ty < 65536) ∧ (0 ≤ q.cls ∧ q.cls < 65536)
def derrickref05_PutQ (p : RPack) (q : Question) : RPack × Int := (toR (record_PutQ (ofR p) q).2, (record_PutQ (ofR p) q).1)
def derrickref05_PutQ.pre (p : RPack) (q : Question) : Prop := placesOk p.l ∧ p.l.length ≤ 40000000 ∧ p.s.length ≤ 4000000000 ∧ q.name.length ≤ 1000000 ∧ ((0 ≤ q.ty ∧ q.ty < 65536) ∧ (0 ≤ q.cls ∧ q.cls < 65536))
instance i_derrickref05_PutQ (p : RPack) (q : Question) : Decidable (derrickref05_PutQ.pre p q) := by unfold derrickref05_PutQ.pre; infer_instance
theorem derrickref05_PutQ.eq (p : RPack) (q : Question) (hp : derrickref05_PutQ.pre p q) : derrickref05_PutQ.f p q = some (derrickref05_PutQ p q) := by
 obtain ⟨h1, h2, h3, h4, h5, h6⟩ := hp
 obtain ⟨x, rfl⟩ : ∃ x, p = toR x := ⟨ofR p, (toR_ofR p).symm⟩
 have hr : rpOk x 40000000 4000000000 := by
  refine ⟨?_, by rw [toR_len] at h2; exact h2, h3⟩
  have := kOk_of h1
  have e := ofR_toR x
  rw [← e]; exact this
 unfold derrickref05_PutQ.f derrickref05_PutQ record_PutQ
 rw [ofR_toR, if_pos (show derrickref05_MayQ.pre q from h4)]
 simp only [lt]
 rw [show derrickref05_MayQ q = record_MayQ q from rfl]
 by_cases hm : record_MayQ q = true
 ·rw [if_pos hm, if_pos hm, if_pos (namePre (hr.le (by omega) (by omega)) h4), name_toR, rPut16_eq h5.1 h5.2, rPut16_eq h6.1 h6.2, if_pos (by rw [Put16_len, Put16_len]; decide)]
  have := (hr.name q.name).2.2
  rw [if_pos (show derrickref03_Add.pre (toR (wire_Pack_Name x q.name).2) _ by unfold derrickref03_Add.pre; simp only [toR, List.length_append, Put16_len]; omega), add_toR]
 ·rw [if_neg hm, if_neg hm]
def derrickref05_TakeQ (s : Str) (a : Int) : Question × Int × Int := record_TakeQ s a
def derrickref05_TakeQ.pre (s : Str) (a : Int) : Prop := s.length ≤ 1000000
instance i_derrickref05_TakeQ (s : Str) (a : Int) : Decidable (derrickref05_TakeQ.pre s a) := by unfold derrickref05_TakeQ.pre; infer_instance
theorem U16_code (s : Str) (a : Int) : (octet_U16 s a).2.2 = 0 ∨ (octet_U16 s a).2.2 = 2 := by
 rw [U16_eq]; split <;> simp
theorem derrickref05_TakeQ.eq (s : Str) (a : Int) (hp : derrickref05_TakeQ.pre s a) : derrickref05_TakeQ.f s a = some (derrickref05_TakeQ s a) := by
 unfold derrickref05_TakeQ.f derrickref05_TakeQ record_TakeQ record_reader_question record_take_string record_take_uint16
 rw [if_pos (show derrickref03_Take.pre s a from hp)]
 simp only [lt]
 rw [show derrickref03_Take s a = wire_Take s a from rfl]
 obtain ⟨t, ht⟩ : ∃ t, wire_Take s a = t := ⟨_, rfl⟩
 rw [ht]
 by_cases h0 : t.2.2 = 0
 ·rw [if_pos h0, if_pos (show derrickref01_U16.pre s t.2.1 from hp), show derrickref01_U16 s t.2.1 = octet_U16 s t.2.1 from rfl]
  obtain ⟨u, hu⟩ : ∃ u, octet_U16 s t.2.1 = u := ⟨_, rfl⟩
  rw [hu, if_pos (show derrickref01_U16.pre s u.2.1 from hp), show derrickref01_U16 s u.2.1 = octet_U16 s u.2.1 from rfl]
  obtain ⟨v, hv⟩ : ∃ v, octet_U16 s u.2.1 = v := ⟨_, rfl⟩
  rw [hv]
  unfold derrickref05_TakeQ.j1
  by_cases h1 : u.2.2 = 0
  ·rw [if_pos h1]
   by_cases h2 : v.2.2 = 0
   ·simp [h0, h1, h2]
   ·simp [h0, h1, h2]
  ·rw [if_neg h1]
   simp [h0, h1]
 ·rw [if_neg h0]
  simp [h0]
theorem rSame_eq (a b : RR) : derrickref05_Same a b = record_Same a b := by
 rw [Bool.eq_iff_iff, same_iff]
 unfold derrickref05_Same
 by_cases h1 : a.name = b.name
 ·rw [if_pos h1]
  by_cases h2 : a.ty = b.ty
  ·rw [if_pos h2]
   by_cases h3 : a.cls = b.cls
   ·rw [if_pos h3, beq_iff_eq]; simp [h1, h2, h3]
   ·rw [if_neg h3]; simp [h3]
  ·rw [if_neg h2]; simp [h2]
 ·rw [if_neg h1]; simp [h1]
end Go.Proofs.Ytfcaekghpkpjdaa.K

/- Pure functions, printed by a program of this session out of the loaded code. -/
namespace Go.Proofs.Ytfcaekghpkpjdaa.K
open Go Go.RowKit
set_option linter.unusedVariables false
/-- derrickref05.Put -/
def derrickref05_Put.f (a1 : RPack) (a6 : RR) : Option (RPack × Int) :=
 (if derrickref05_May.pre a6 then (lt (derrickref05_May a6) fun r50 => (if r50 = true then (if derrickref05_PutQ.pre a1 (⟨a6.name, a6.ty, a6.cls⟩ : Question) then (lt (derrickref05_PutQ a1 (⟨a6.name, a6.ty, a6.cls⟩ : Question)) fun r59 => (if derrickref01_Put32.pre a6.ttl then (lt (derrickref01_Put32 a6.ttl) fun r104 => (if r104.length + ([0, 0] : Str).length ≤ 9223372036854775807 then (if derrickref03_Add.pre r59.1 (r104 ++ [0, 0]) then (lt (derrickref03_Add r59.1 (r104 ++ [0, 0])) fun r112 => (if derrickref04_Put.pre r112 a6.ty a6.data then (lt (derrickref04_Put r112 a6.ty a6.data) fun r132 => (if 0 ≤ w64 ((r112.s.length : Int) - 2) then (if w64 ((r112.s.length : Int) - 2) ≤ (r132.1.s.length : Int) then (lt (derrickref01_Put16 (w16 (w64 ((r132.1.s.length : Int) - (r112.s.length : Int))))) fun r165 => (if (r132.1.s.take (w64 ((r112.s.length : Int) - 2)).toNat).length + r165.length ≤ 9223372036854775807 then (if (r112.s.length : Int) ≤ (r132.1.s.length : Int) then (if ((r132.1.s.take (w64 ((r112.s.length : Int) - 2)).toNat) ++ r165).length + (r132.1.s.drop (r112.s.length : Int).toNat).length ≤ 9223372036854775807 then some ((⟨((r132.1.s.take (w64 ((r112.s.length : Int) - 2)).toNat) ++ r165) ++ (r132.1.s.drop (r112.s.length : Int).toNat), r132.1.l⟩ : RPack), 0) else none) else none) else none)) else none) else none)) else none)) else none) else none)) else none)) else none) else some (a1, 1))) else none)
/-- derrickref05.Take -/
def derrickref05_Take.j1 (a1 : Str) (r55 : Int × Int × Int) (r17 : Question × Int × Int) (r47 : Int × Int × Int) (x82 : Bool) : Option (RR × Int × Int) :=
 (if x82 = true then some ((⟨[], 0, 0, 0, []⟩ : RR), 0, 2) else (if derrickref04_Take.pre a1 r55.2.1 (w64 r55.1) r17.1.ty then (lt (derrickref04_Take a1 r55.2.1 (w64 r55.1) r17.1.ty) fun r104 => (if r104.2 = 0 then some ((⟨r17.1.name, r17.1.ty, r17.1.cls, r47.1, r104.1⟩ : RR), w64 (r55.2.1 + (w64 r55.1)), 0) else some ((⟨[], 0, 0, 0, []⟩ : RR), 0, 2))) else none))
def derrickref05_Take.f (a1 : Str) (a2 : Int) : Option (RR × Int × Int) :=
 (if derrickref05_TakeQ.pre a1 a2 then (lt (derrickref05_TakeQ a1 a2) fun r17 => (if r17.2.2 = 0 then (if derrickref01_U32.pre a1 r17.2.1 then (lt (derrickref01_U32 a1 r17.2.1) fun r47 => (if derrickref01_U16.pre a1 r47.2.1 then (lt (derrickref01_U16 a1 r47.2.1) fun r55 => (if r47.2.2 = 0 then (derrickref05_Take.j1 a1 r55 r17 r47 (r55.2.2 != 0)) else (derrickref05_Take.j1 a1 r55 r17 r47 true))) else none)) else none) else some ((⟨[], 0, 0, 0, []⟩ : RR), 0, 2))) else none)
end Go.Proofs.Ytfcaekghpkpjdaa.K

namespace Go.Proofs.Ytfcaekghpkpjdaa.K
open Go
set_option linter.unusedVariables false
set_option linter.unusedSimpArgs false
set_option maxRecDepth 100000
theorem nameLoop_grow : ∀ (k : Nat) (p : Pack) (n : Str), p.s.length ≤ (nameLoop k p n).s.length := by
 intro k
 induction k with
 | zero => intro p n; simp [nameLoop, wire_Pack_Add]
 | succ k ih =>
  intro p n
  simp only [nameLoop]
  split
  ·simp [wire_Pack_Add]
  ·split
   ·simp [wire_Pack_Add]
   ·refine Nat.le_trans ?_ (ih _ _)
    by_cases h : p.s.length < 16384
    ·rw [if_pos h]; simp [wire_Pack_Add]
    ·rw [if_neg h]; simp [wire_Pack_Add]
theorem Name_grow (p : Pack) (n : Str) : p.s.length ≤ (wire_Pack_Name p n).2.s.length := by
 unfold wire_Pack_Name
 split
 ·exact nameLoop_grow _ _ _
 ·exact Nat.le_refl _
theorem putL_grow : ∀ (ps : List Int) (xs : List Str) (p : Pack), p.s.length ≤ (putL ps xs p).s.length := by
 intro ps
 induction ps with
 | nil => intro xs p; simp [putL]
 | cons a ps ih =>
  intro xs p
  cases xs with
  | nil => simp [putL]
  | cons x xs =>
   simp only [putL]
   refine Nat.le_trans ?_ (ih xs _)
   split
   ·exact Name_grow p x
   ·simp [wire_Pack_Add]
theorem rdPut_grow (p : Pack) (kind : Int) (d : Str) : p.s.length ≤ (rdata_Put p kind d).2.s.length := by
 unfold rdata_Put
 split
 ·exact putL_grow _ _ _
 ·exact Nat.le_refl _
theorem putL_known : ∀ (ps : List Int) (xs : List Str) (p : Pack), (putL ps xs p).known.length ≤ p.known.length + ps.length * 256 ∧ (kOk p.known → kOk (putL ps xs p).known) := by
 intro ps
 induction ps with
 | nil => intro xs p; simp [putL]
 | cons a ps ih =>
  intro xs p
  cases xs with
  | nil => simp [putL]
  | cons x xs =>
   simp only [putL, List.length_cons]
   have h1 := Name_known p x
   obtain ⟨h2, h3⟩ := ih xs (if a = -1 then (wire_Pack_Name p x).2 else wire_Pack_Add p x)
   by_cases ha : a = -1
   ·rw [if_pos ha] at h2 h3 ⊢
    exact ⟨by omega, fun h => h3 (h1.2 h)⟩
   ·rw [if_neg ha] at h2 h3 ⊢
    exact ⟨by simp only [wire_Pack_Add] at h2; simp only [wire_Pack_Add]; omega, fun h => h3 h⟩
theorem rdPut_known (p : Pack) (kind : Int) (d : Str) : (rdata_Put p kind d).2.known.length ≤ p.known.length + 768 ∧ (kOk p.known → kOk (rdata_Put p kind d).2.known) := by
 unfold rdata_Put
 split
 ·have h := putL_known (rdata_layout kind) (rdata_cut kind d).1 p
  have h3 := layout_len kind
  exact ⟨by simp only; omega, h.2⟩
 ·exact ⟨by simp, id⟩
def derrickref05_Put (p : RPack) (r : RR) : RPack × Int := (toR (record_Put (ofR p) r).2, (record_Put (ofR p) r).1)
def derrickref05_Put.pre (p : RPack) (r : RR) : Prop := placesOk p.l ∧ p.l.length ≤ 30000000 ∧ p.s.length ≤ 3000000000 ∧ r.name.length ≤ 1000000 ∧ r.data.length ≤ 1000000 ∧ (0 ≤ r.ty ∧ r.ty < 65536) ∧ (0 ≤ r.cls ∧ r.cls < 65536) ∧ (0 ≤ r.ttl ∧ r.ttl < 4294967296)
instance i_derrickref05_Put (p : RPack) (r : RR) : Decidable (derrickref05_Put.pre p r) := by unfold derrickref05_Put.pre; infer_instance
theorem derrickref05_Put.eq (p : RPack) (r : RR) (hp : derrickref05_Put.pre p r) : derrickref05_Put.f p r = some (derrickref05_Put p r) := by
 obtain ⟨h1, h2, h3, h4, h5, h6, h7, h8⟩ := hp
 obtain ⟨x, rfl⟩ : ∃ x, p = toR x := ⟨ofR p, (toR_ofR p).symm⟩
 have hr : rpOk x 30000000 3000000000 := by
  refine ⟨?_, by rw [toR_len] at h2; exact h2, h3⟩
  have := kOk_of h1
  have e := ofR_toR x
  rw [← e]; exact this
 unfold derrickref05_Put.f derrickref05_Put record_Put
 rw [ofR_toR, if_pos (show derrickref05_May.pre r from ⟨h4, h5⟩)]
 simp only [lt]
 rw [show derrickref05_May r = record_May r from rfl]
 by_cases hm : record_May r = true
 rotate_left
 ·rw [if_neg hm, if_neg hm]
 rw [if_pos hm, if_pos hm]
 have hn : name_May r.name = true := by
  unfold record_May at hm; cases hh : name_May r.name with
  | true => rfl
  | false => rw [hh, Bool.false_and] at hm; cases hm
 have hd : rdata_May r.ty r.data = true := by
  unfold record_May at hm; rw [hn] at hm; exact hm
 rw [if_pos (show derrickref05_PutQ.pre (toR x) ⟨r.name, r.ty, r.cls⟩ from ⟨h1, by omega, Nat.le_trans h3 (by decide), h4, h6, h7⟩)]
 have hQ : derrickref05_PutQ (toR x) ⟨r.name, r.ty, r.cls⟩ = (toR (wire_Pack_Add (wire_Pack_Name x r.name).2 (octet_Put16 r.ty ++ octet_Put16 r.cls)), 0) := by
  unfold derrickref05_PutQ record_PutQ
  rw [ofR_toR, if_pos (show record_MayQ ⟨r.name, r.ty, r.cls⟩ = true from hn)]
 rw [hQ, if_pos (show derrickref01_Put32.pre r.ttl from h8)]
 have e32 : (derrickref01_Put32 r.ttl).length = 4 := rfl
 rw [if_pos (by rw [e32]; decide)]
 have rn := hr.name r.name
 obtain ⟨y, hy⟩ : ∃ y, (wire_Pack_Name x r.name).2 = y := ⟨_, rfl⟩
 have hz : putMark x r = ((((y.s ++ fixed r ++ octet_Put16 0).length : Nat) : Int), (⟨y.s ++ fixed r ++ octet_Put16 0, y.known⟩ : Pack)) := by
  unfold putMark; rw [hy]; rfl
 rw [hy] at rn ⊢
 have ra := rn.add (octet_Put16 r.ty ++ octet_Put16 r.cls)
 rw [if_pos (show derrickref03_Add.pre (toR (wire_Pack_Add y (octet_Put16 r.ty ++ octet_Put16 r.cls))) (derrickref01_Put32 r.ttl ++ [0, 0]) by
  unfold derrickref03_Add.pre
  have := ra.2.2
  simp only [toR, List.length_append, Put16_len, e32] at this ⊢
  simp only [List.length_cons, List.length_nil]; omega), add_toR]
 have hzz : wire_Pack_Add (wire_Pack_Add y (octet_Put16 r.ty ++ octet_Put16 r.cls)) (derrickref01_Put32 r.ttl ++ [0, 0]) = (putMark x r).2 := by
  rw [hz]
  unfold wire_Pack_Add fixed
  simp only [List.append_assoc]
  rfl
 rw [hzz]
 have rm := ra.add (derrickref01_Put32 r.ttl ++ [0, 0])
 rw [hzz] at rm
 have hlen : (octet_Put16 r.ty ++ octet_Put16 r.cls).length = 4 := rfl
 have hlen2 : (derrickref01_Put32 r.ttl ++ [0, 0]).length = 6 := rfl
 rw [hlen, hlen2] at rm
 have hm1 : (putMark x r).1 = ((putMark x r).2.s.length : Int) := by rw [hz]
 have hmb : 10 ≤ (putMark x r).2.s.length := by
  rw [hz]; simp only [List.length_append, Put16_len, fixed, Put32_len]; omega
 rw [hm1]
 obtain ⟨m, hmm⟩ : ∃ m, (putMark x r).2 = m := ⟨_, rfl⟩
 rw [hmm] at rm hmb ⊢
 have rm' := rm.le (a' := 50000000) (b' := 5000000000) (by omega) (by omega)
 rw [if_pos (show derrickref04_Put.pre (toR m) r.ty r.data from ⟨of_kOk rm'.1, by rw [toR_len]; exact rm'.2.1, rm'.2.2, h5⟩)]
 have h04 : derrickref04_Put (toR m) r.ty r.data = (toR (rdata_Put m r.ty r.data).2, (rdata_Put m r.ty r.data).1) := by
  unfold derrickref04_Put; rw [ofR_toR]
 have hg := rdPut_grow m r.ty r.data
 have hl := rdPut_len m r.ty r.data
 have hms := rm'.2.2
 rw [h04]
 obtain ⟨q, hq⟩ : ∃ q, (rdata_Put m r.ty r.data).2 = q := ⟨_, rfl⟩
 rw [hq] at hg hl ⊢
 have et : (toR m).s = m.s := rfl
 have eq : (toR q).s = q.s := rfl
 have el : (toR q).l = q.known.map fun x => ⟨x.1, x.2⟩ := rfl
 simp only [et, eq]
 have ew : w64 ((m.s.length : Int) - 2) = ((m.s.length - 2 : Nat) : Int) := by rw [w64_id (by omega) (by omega)]; omega
 have e01 : ∀ z : Int, derrickref01_Put16 (w16 z) = octet_Put16 (w16 z) := fun z => rPut16_eq (by rw [w16_eq]; omega) (by rw [w16_eq]; omega)
 simp only [ew, e01, Int.toNat_natCast]
 rw [if_pos (by omega), if_pos (by omega), if_pos (by rw [Put16_len, List.length_take]; omega), if_pos (by omega), if_pos (by simp only [List.length_append, Put16_len, List.length_take, List.length_drop]; omega)]
 unfold wire_Pack_Close
 rw [if_neg (by omega)]
 simp only [Int.toNat_natCast, toR]
def derrickref05_Take (s : Str) (a : Int) : RR × Int × Int := record_Take s a
def derrickref05_Take.pre (s : Str) (a : Int) : Prop := s.length ≤ 300000
instance i_derrickref05_Take (s : Str) (a : Int) : Decidable (derrickref05_Take.pre s a) := by unfold derrickref05_Take.pre; infer_instance
theorem U32_code (s : Str) (a : Int) : (octet_U32 s a).2.2 = 0 ∨ (octet_U32 s a).2.2 = 2 := by
 rw [U32_eq]; split <;> simp
theorem rdTake_code (s : Str) (a m k : Int) : (rdata_Take s a m k).2 = 0 ∨ (rdata_Take s a m k).2 = 2 := by
 unfold rdata_Take
 by_cases hc : a < 0 ∨ m < 0 ∨ (s.length : Int) < a ∨ (s.length : Int) - a < m
 ·rw [some_bad hc]; right; rfl
 ·rw [some_ok hc, if_neg (by simp)]
  unfold takeEnd
  split
  ·right; rfl
  ·split <;> simp
theorem TakeQ_bad (s : Str) (a : Int) : (record_TakeQ s a).2.2 = if (record_reader_question ⟨s, a, false⟩).2.bad = true then 2 else 0 := by
 unfold record_TakeQ; split <;> rfl
theorem derrickref05_Take.eq (s : Str) (a : Int) (hp : derrickref05_Take.pre s a) : derrickref05_Take.f s a = some (derrickref05_Take s a) := by
 unfold derrickref05_Take.pre at hp
 unfold derrickref05_Take.f derrickref05_Take record_Take
 rw [if_pos (show derrickref05_TakeQ.pre s a by unfold derrickref05_TakeQ.pre; omega)]
 simp only [lt]
 rw [show derrickref05_TakeQ s a = record_TakeQ s a from rfl]
 have hs : (record_reader_question ⟨s, a, false⟩).2.s = s := rfl
 unfold takeHead record_TakeQ record_take_uint32 record_take_uint16
 simp only [hs]
 obtain ⟨q, hq⟩ : ∃ q, record_reader_question ⟨s, a, false⟩ = q := ⟨_, rfl⟩
 rw [hq] at hs ⊢
 by_cases hb : q.2.bad = true
 ·rw [if_pos hb]
  rw [if_neg (by simp), if_pos (by rw [hb]; rfl)]
 have hb' : q.2.bad = false := by cases h : q.2.bad with | true => exact absurd h hb | false => rfl
 rw [if_neg hb, if_pos rfl, if_pos (show derrickref01_U32.pre s q.2.at_ by unfold derrickref01_U32.pre; omega), hb']
 simp only [Bool.false_or]
 rw [show derrickref01_U32 s q.2.at_ = octet_U32 s q.2.at_ from rfl]
 obtain ⟨u, hu⟩ : ∃ u, octet_U32 s q.2.at_ = u := ⟨_, rfl⟩
 rw [hu, if_pos (show derrickref01_U16.pre s u.2.1 by unfold derrickref01_U16.pre; omega), show derrickref01_U16 s u.2.1 = octet_U16 s u.2.1 from rfl]
 have rng := U16_rng s u.2.1
 obtain ⟨v, hv⟩ : ∃ v, octet_U16 s u.2.1 = v := ⟨_, rfl⟩
 rw [hv] at rng ⊢
 have ew : w64 v.1 = v.1 := w64_id (by omega) (by omega)
 unfold derrickref05_Take.j1
 rw [ew]
 by_cases h1 : u.2.2 = 0
 rotate_left
 ·rw [if_neg h1, if_pos rfl, if_pos (by simp [h1])]
 rw [if_pos h1, show (u.2.2 != 0) = false from by rw [h1]; rfl, Bool.false_or]
 by_cases h2 : (v.2.2 != 0) = true
 ·rw [if_pos h2, if_pos h2]
 rw [if_neg h2, if_neg h2, if_pos (show derrickref04_Take.pre s v.2.1 v.1 q.1.ty from hp), show derrickref04_Take s v.2.1 v.1 q.1.ty = rdata_Take s v.2.1 v.1 q.1.ty from rfl]
 simp only [lt]
 have hend := @rdTake_end s v.2.1 v.1 q.1.ty
 have hc := rdTake_code s v.2.1 v.1 q.1.ty
 by_cases h3 : (rdata_Take s v.2.1 v.1 q.1.ty).2 = 0
 ·obtain ⟨x0, x1, x2⟩ := hend h3
  rw [if_pos h3, if_pos h3, w64_id (by omega) (by omega)]
 ·rw [if_neg h3, if_neg h3, hc.resolve_left h3]
end Go.Proofs.Ytfcaekghpkpjdaa.K

/- Pure functions, printed by a program of this session out of the loaded code. -/
namespace Go.Proofs.Ytfcaekghpkpjdaa.K
open Go Go.RowKit
set_option linter.unusedVariables false
/-- record.Put@nil -/
def record_Put_nil (a1 : RR) : Int :=
 (1)
/-- record.PutQ@nil -/
def record_PutQ_nil (a1 : Question) : Int :=
 (1)
end Go.Proofs.Ytfcaekghpkpjdaa.K

namespace Go.Proofs.Ytfcaekghpkpjdaa.K
end Go.Proofs.Ytfcaekghpkpjdaa.K

/- Pure functions, printed by a program of this session out of the loaded code. -/
namespace Go.Proofs.Ytfcaekghpkpjdaa.K
open Go Go.RowKit
set_option linter.unusedVariables false
/-- derricklaw05.RecordPuts -/
def derricklaw05_RecordPuts.j5 (cl10456 : Pack → Str → List Place → Int → Option (Bool)) (r11888 : Int × Pack) (x12013 : Str) (l12016 : List Place) (x10445 : Int) (x12049 : Bool) : Option (Bool) :=
 (if x12049 = true then some (false) else (cl10456 r11888.2 x12013 l12016 (w64 (x10445 + 1))))
def derricklaw05_RecordPuts.j4 (r11888 : Int × Pack) (cl10456 : Pack → Str → List Place → Int → Option (Bool)) (x10445 : Int) (x12013 : Str) (l12016 : List Place) (x12021 : Int) : Option (Bool) :=
 (if r11888.1 = x12021 then (lt (wire_Pack_Out r11888.2) fun r12066 => (derricklaw05_RecordPuts.j5 cl10456 r11888 x12013 l12016 x10445 (!(r12066 == x12013)))) else (derricklaw05_RecordPuts.j5 cl10456 r11888 x12013 l12016 x10445 true))
def derricklaw05_RecordPuts.j3 (a1 : List RR) (x10445 : Int) (cl10456 : Pack → Str → List Place → Int → Option (Bool)) (x11861 : Pack) (x11862 : Str) (l11865 : List Place) : Option (Bool) :=
 (if record_Put.pre x11861 (rd a1 x10445) then (lt (record_Put x11861 (rd a1 x10445)) fun r11888 => (if derrickref05_Put.pre (⟨x11862, l11865⟩ : RPack) (rd a1 x10445) then (lt (derrickref05_Put (⟨x11862, l11865⟩ : RPack) (rd a1 x10445)) fun r12139 => (derricklaw05_RecordPuts.j4 r11888 cl10456 x10445 r12139.1.s r12139.1.l r12139.2)) else none)) else none)
def derricklaw05_RecordPuts.j7 (r12216 : Int × Pack) (a1 : List RR) (x10445 : Int) (cl10456 : Pack → Str → List Place → Int → Option (Bool)) (x12351 : Str) (l12354 : List Place) (x12359 : Int) : Option (Bool) :=
 (if r12216.1 = x12359 then (derricklaw05_RecordPuts.j3 a1 x10445 cl10456 r12216.2 x12351 l12354) else some (false))
def derricklaw05_RecordPuts.j6 (a1 : List RR) (x10445 : Int) (x10437 : Pack) (x10438 : Str) (l10441 : List Place) (cl10456 : Pack → Str → List Place → Int → Option (Bool)) (x12190 : Bool) : Option (Bool) :=
 (if x12190 = true then (lt (record_Key (rd a1 x10445)) fun r12210 => (if record_PutQ.pre x10437 r12210 then (lt (record_PutQ x10437 r12210) fun r12216 => (lt (record_Key (rd a1 x10445)) fun r12453 => (if derrickref05_PutQ.pre (⟨x10438, l10441⟩ : RPack) r12453 then (lt (derrickref05_PutQ (⟨x10438, l10441⟩ : RPack) r12453) fun r12460 => (derricklaw05_RecordPuts.j7 r12216 a1 x10445 cl10456 r12460.1.s r12460.1.l r12460.2)) else none))) else none)) else (derricklaw05_RecordPuts.j3 a1 x10445 cl10456 x10437 x10438 l10441))
def derricklaw05_RecordPuts.j2 (x10445 : Int) (a1 : List RR) (a6 : List Bool) (x10437 : Pack) (x10438 : Str) (l10441 : List Place) (cl10456 : Pack → Str → List Place → Int → Option (Bool)) (r20 : Bool) (x10479 : Bool) : Option (Bool) :=
 (if x10479 = true then (if 0 ≤ x10445 then (if x10445 < (a1.length : Int) then (lt (derricklaw05_few (rd a1 x10445)) fun r11530 => (if r11530 = true then (if x10445 < (a6.length : Int) then (derricklaw05_RecordPuts.j6 a1 x10445 x10437 x10438 l10441 cl10456 (rd a6 x10445)) else (derricklaw05_RecordPuts.j6 a1 x10445 x10437 x10438 l10441 cl10456 false)) else some (r20))) else none) else none) else (if r20 = true then (lt (record_Put_nil (⟨[0], 99, 0, 0, []⟩ : RR)) fun r12516 => (if r12516 = 1 then (lt (record_PutQ_nil (⟨[0], 0, 0⟩ : Question)) fun r12522 => some ((r12522 == 1))) else some (false))) else some (false)))
def derricklaw05_RecordPuts.l1 (a1 : List RR) (a6 : List Bool) (r20 : Bool) : Nat → Pack → Str → List Place → Int → Option (Bool)
 | 0, _, _, _, _ => none
 | kf10434 + 1, x10437, x10438, l10441, x10445 => (if x10445 < (a1.length : Int) then (derricklaw05_RecordPuts.j2 x10445 a1 a6 x10437 x10438 l10441 (derricklaw05_RecordPuts.l1 a1 a6 r20 kf10434) r20 (decide (x10445 < 20))) else (derricklaw05_RecordPuts.j2 x10445 a1 a6 x10437 x10438 l10441 (derricklaw05_RecordPuts.l1 a1 a6 r20 kf10434) r20 false))
def derricklaw05_RecordPuts.f (kf : Nat) (a1 : List RR) (a6 : List Bool) : Option (Bool) :=
 (if derricklaw05_shown.pre  then (lt (derricklaw05_shown) fun r20 => (lt (wire_New) fun r27 => (derricklaw05_RecordPuts.l1 a1 a6 r20 kf r27 [] ([] : List Place) 0))) else none)
end Go.Proofs.Ytfcaekghpkpjdaa.K

namespace Go.Proofs.Ytfcaekghpkpjdaa.K
open Go
set_option linter.unusedVariables false
set_option maxRecDepth 100000
def derricklaw05_RecordPuts (l : List RR) (asks : List Bool) : Bool := true
def derricklaw05_RecordPuts.pre (l : List RR) (asks : List Bool) : Prop := (∀ r ∈ l, rrOk r) ∧ l.length ≤ 9223372036854775807 ∧ asks.length ≤ 9223372036854775807
theorem few_len4 {r : RR} (h : derricklaw05_few r = true) : r.name.length ≤ 700 ∧ r.data.length ≤ 700 := by
 unfold derricklaw05_few at h
 by_cases h2 : (r.name.length : Int) ≤ 700
 ·rw [if_pos h2] at h; have := of_decide_eq_true h; omega
 ·rw [if_neg h2] at h; cases h
theorem rpOk.putQ {p : Pack} {a b : Nat} (h : rpOk p a b) (q : Question) : rpOk (record_PutQ p q).2 (a + 256) (b + q.name.length + 6) := by
 unfold record_PutQ
 split
 ·exact (h.name q.name).add _ |>.le (Nat.le_refl _) (by rw [List.length_append, Put16_len, Put16_len]; omega)
 ·exact h.le (by omega) (by omega)
theorem rpOk.close {p : Pack} {a b : Nat} (h : rpOk p a b) (at_ : Int) : rpOk (wire_Pack_Close p at_).2 a b := by
 unfold wire_Pack_Close
 split
 ·exact h
 ·rename_i hc
  refine ⟨h.1, h.2.1, Nat.le_trans ?_ h.2.2⟩
  simp only [List.length_append, Put16_len, List.length_take, List.length_drop]; omega
theorem rpOk.put {p : Pack} {a b : Nat} (h : rpOk p a b) (r : RR) : rpOk (record_Put p r).2 (a + 1024) (b + r.name.length + 200012) := by
 unfold record_Put
 split
 ·refine rpOk.close ?_ _
  have h1 := h.name r.name
  have h2 : rpOk (putMark p r).2 (a + 256) (b + r.name.length + 12) := ⟨h1.1, h1.2.1, by
   have := h1.2.2
   have hf : (fixed r).length = 8 := rfl
   simp only [putMark, wire_Pack_Mark, wire_Pack_Add, List.length_append, hf, Put16_len]; omega⟩
  have h3 := rdPut_known (putMark p r).2 r.ty r.data
  have h4 := rdPut_len (putMark p r).2 r.ty r.data
  exact ⟨h3.2 h2.1, by have := h2.2.1; omega, by have := h2.2.2; omega⟩
 ·exact h.le (by omega) (by omega)
theorem refPutQ {x : Pack} (q : Question) : derrickref05_PutQ (toR x) q = (toR (record_PutQ x q).2, (record_PutQ x q).1) := by unfold derrickref05_PutQ; rw [ofR_toR]
theorem refPut {x : Pack} (r : RR) : derrickref05_Put (toR x) r = (toR (record_Put x r).2, (record_Put x r).1) := by unfold derrickref05_Put; rw [ofR_toR]
theorem puts_j3 (l : List RR) (i : Int) (cl : Pack → Str → List Place → Int → Option Bool) (x : Pack) (hr : rpOk x 20000000 900000000) (hf : (rd l i).name.length ≤ 700 ∧ (rd l i).data.length ≤ 700) (ho : rrOk (rd l i)) : derricklaw05_RecordPuts.j3 l i cl x (toR x).s (toR x).l = cl (record_Put x (rd l i)).2 (toR (record_Put x (rd l i)).2).s (toR (record_Put x (rd l i)).2).l (w64 (i + 1)) := by
 unfold derricklaw05_RecordPuts.j3
 simp only [lt]
 have e : (⟨(toR x).s, (toR x).l⟩ : RPack) = toR x := rfl
 have h2 := hr.2.1
 have h3 := hr.2.2
 rw [if_pos (show record_Put.pre x (rd l i) from ⟨by omega, by omega, by omega⟩), e, if_pos (show derrickref05_Put.pre (toR x) (rd l i) from ⟨of_kOk hr.1, by rw [toR_len]; omega, by show x.s.length ≤ _; omega, by omega, by omega, ho.1, ho.2.1, ho.2.2⟩), refPut]
 unfold derricklaw05_RecordPuts.j4
 simp only [lt]
 rw [if_pos trivial]
 have eo : (wire_Pack_Out (record_Put x (rd l i)).2 == (toR (record_Put x (rd l i)).2).s) = true := by
  rw [show (toR (record_Put x (rd l i)).2).s = wire_Pack_Out (record_Put x (rd l i)).2 from rfl]; exact beq_self_eq_true _
 rw [eo]
 unfold derricklaw05_RecordPuts.j5
 rw [if_neg (by simp)]
theorem puts_lp (l : List RR) (asks : List Bool) (hl : ∀ r ∈ l, rrOk r) : ∀ (k i : Nat) (x : Pack), i + k = 20 → rpOk x (i * 2000) (i * 300000) → derricklaw05_RecordPuts.l1 l asks true (k + 1) x (toR x).s (toR x).l i = some true := by
 intro k
 have hend : ∀ (i : Int) (x : Pack) cl, derricklaw05_RecordPuts.j2 i l asks x (toR x).s (toR x).l cl true false = some true := by
  intro i x cl
  unfold derricklaw05_RecordPuts.j2
  simp only [lt]
  rw [if_neg (by simp), if_pos trivial, if_pos (show record_Put_nil _ = 1 from rfl)]
  rfl
 induction k with
 | zero =>
  intro i x hk hr
  unfold derricklaw05_RecordPuts.l1
  rw [show decide ((i : Int) < 20) = false from decide_eq_false (by omega), hend, ite_self]
 | succ k ih =>
  intro i x hk hr
  unfold derricklaw05_RecordPuts.l1
  by_cases h1 : (i : Int) < (l.length : Int)
  rotate_left
  ·rw [if_neg h1, hend]
  rw [if_pos h1, show decide ((i : Int) < 20) = true from decide_eq_true (by omega)]
  unfold derricklaw05_RecordPuts.j2
  simp only [lt]
  rw [if_pos trivial, if_pos (by omega), if_pos h1]
  by_cases h2 : derricklaw05_few (rd l i) = true
  rotate_left
  ·rw [if_neg h2]
  rw [if_pos h2]
  have hf := few_len4 h2
  have hm : rd l i ∈ l := by rw [rd_at (by omega)]; exact List.getElem_mem _
  have ho := hl _ hm
  have ew : w64 ((i : Int) + 1) = ((i + 1 : Nat) : Int) := by rw [w64_id (by omega) (by omega)]; omega
  have hj3 : ∀ y : Pack, rpOk y (i * 2000 + 256) (i * 300000 + 706) → derricklaw05_RecordPuts.j3 l i (derricklaw05_RecordPuts.l1 l asks true (k + 1)) y (toR y).s (toR y).l = some true := by
   intro y hy
   rw [puts_j3 l i _ y (hy.le (by omega) (by omega)) hf ho, ew]
   exact ih (i + 1) _ (by omega) ((hy.put _).le (by omega) (by omega))
  have hj6 : ∀ b : Bool, derricklaw05_RecordPuts.j6 l i x (toR x).s (toR x).l (derricklaw05_RecordPuts.l1 l asks true (k + 1)) b = some true := by
   intro b
   unfold derricklaw05_RecordPuts.j6
   cases b with
   | false => rw [if_neg (by simp)]; exact hj3 x (hr.le (by omega) (by omega))
   | true =>
    simp only [lt]
    have e : (⟨(toR x).s, (toR x).l⟩ : RPack) = toR x := rfl
    have h3 := hr.2.1
    have h4 := hr.2.2
    have hn : (record_Key (rd l i)).name.length ≤ 700 := hf.1
    rw [if_pos trivial, if_pos (show record_PutQ.pre x (record_Key (rd l i)) from ⟨by omega, by omega⟩), e, if_pos (show derrickref05_PutQ.pre (toR x) (record_Key (rd l i)) from ⟨of_kOk hr.1, by rw [toR_len]; omega, by show x.s.length ≤ _; omega, by omega, ho.1, ho.2.1⟩), refPutQ]
    unfold derricklaw05_RecordPuts.j7
    rw [if_pos rfl]
    exact hj3 _ ((hr.putQ _).le (by omega) (by omega))
  by_cases h5 : (i : Int) < (asks.length : Int)
  ·rw [if_pos h5]; exact hj6 _
  ·rw [if_neg h5]; exact hj6 _
theorem derricklaw05_RecordPuts.eq (l : List RR) (asks : List Bool) (hp : derricklaw05_RecordPuts.pre l asks) : ∃ kf, derricklaw05_RecordPuts.f kf l asks = some (derricklaw05_RecordPuts l asks) := by
 refine ⟨21, ?_⟩
 unfold derricklaw05_RecordPuts.f derricklaw05_RecordPuts
 rw [if_pos (show derricklaw05_shown.pre from trivial)]
 simp only [lt]
 have := puts_lp l asks hp.1 20 0 wire_New rfl ⟨fun x hx => (by cases hx), by decide, by decide⟩
 exact this
end Go.Proofs.Ytfcaekghpkpjdaa.K

/- Walks, printed by a program of this session. -/
namespace Go.Proofs.Ytfcaekghpkpjdaa.K
open Go Go.RowKit Go.Proofs
set_option linter.unusedVariables false
set_option maxRecDepth 100000
set_option maxHeartbeats 4000000
namespace FA1
theorem ti5 : TI Try.prog 5 (.int .u8 0) 1 1 := by unfold TI; kernel_rfl
theorem sz5 : ∀ w, (sizeOf 5).run Try.prog w = .ok 1 w := fun w => ti5.size w
end FA1
open FA1
theorem octet_Some.walk (a1 : Str) (a2 : Int) (a3 : Int)  (w : World)  (res : Str × Int × Int) (h : octet_Some.f a1 a2 a3 = some res) :
  Ret Try.prog 64 ([S a1, .int .i64 a2, .int .i64 a3] : List Value).toArray w fun v w' => v = .tuple #[S res.1, .int .i64 res.2.1, .int .i64 res.2.2] ∧ Ext w w' := by
 unfold octet_Some.f at h
 refine enterX Try.func64 rfl Try.ntmps64 rfl (fun R hR => ?_)
 have hB := Below.refl w.heap.size w
 refine X.seq fun M4 hM5 => ?_
 refine X.region ?_
 refine XO.do rfl (D.asn (v := S []) rfl rfl ?_)
 refine XO.do rfl (D.asn (v := .int .i64 0) rfl rfl ?_)
 refine XO.do rfl (D.asn (v := .int .i64 0) rfl rfl ?_)
 refine XO.nil ?_
 refine hM5 _ _ ?_
 refine X.seq fun M22 hM23 => ?_
 refine X.cut (fun f29 w28 => ∃ x27 : Bool, f29 0 = S a1 ∧ f29 1 = .int .i64 a2 ∧ f29 2 = .int .i64 a3 ∧ f29 28 = .bool x27 ∧ Below w.heap.size w w28 ∧ octet_Some.j1 a2 a3 a1 x27 = some res) ?_ ?_
 ·refine X.region ?_
  refine XO.do rfl (D.mv (v := .int .i64 a2) rfl rfl ?_)
  refine XO.do rfl (D.lss rfl rfl rfl ?_)
  refine XO.do rfl (D.mv (v := .bool (decide (a2 < 0))) rfl rfl ?_)
  by_cases c42 : a2 < 0
  ·rw [if_pos c42] at h
   refine XO.off (wantG0 (j := 2) (b := false) rfl (decide_eq_true c42) rfl) rfl rfl ?_
   refine XO.off (wantG0 (j := 2) (b := false) rfl (decide_eq_true c42) rfl) rfl rfl ?_
   refine XO.do rfl (D.pick true (v := .bool true) (congrArg Value.bool (decide_eq_true c42)) rfl rfl ?_)
   refine XO.do rfl (D.mv (v := .bool true) rfl rfl ?_)
   refine XO.off (wantG0 (j := 6) (b := false) rfl (rfl) rfl) rfl rfl ?_
   refine XO.off (wantG0 (j := 6) (b := false) rfl (rfl) rfl) rfl rfl ?_
   refine XO.off (wantG0 (j := 6) (b := false) rfl (rfl) rfl) rfl rfl ?_
   refine XO.off (wantG0 (j := 6) (b := false) rfl (rfl) rfl) rfl rfl ?_
   refine XO.do rfl (D.pick true (v := .bool true) (congrArg Value.bool (rfl)) rfl rfl ?_)
   refine XO.do rfl (D.mv (v := .bool true) rfl rfl ?_)
   refine XO.off (wantG0 (j := 12) (b := false) rfl (rfl) rfl) rfl rfl ?_
   refine XO.off (wantG0 (j := 12) (b := false) rfl (rfl) rfl) rfl rfl ?_
   refine XO.off (wantG0 (j := 12) (b := false) rfl (rfl) rfl) rfl rfl ?_
   refine XO.off (wantG0 (j := 12) (b := false) rfl (rfl) rfl) rfl rfl ?_
   refine XO.off (wantG0 (j := 12) (b := false) rfl (rfl) rfl) rfl rfl ?_
   refine XO.off (wantG0 (j := 12) (b := false) rfl (rfl) rfl) rfl rfl ?_
   refine XO.do rfl (D.pick true (v := .bool true) (congrArg Value.bool (rfl)) rfl rfl ?_)
   refine XO.nil ?_
   exact ⟨true, rfl, rfl, rfl, rfl, hB, h⟩
  ·rw [if_neg c42] at h
   refine XO.do (wantG (j := 2) (b := false) rfl (decide_eq_false c42) rfl) (D.mv (v := .int .i64 a3) rfl rfl ?_)
   refine XO.do (wantG (j := 2) (b := false) rfl (decide_eq_false c42) rfl) (D.lss rfl rfl rfl ?_)
   refine XO.do rfl (D.pick false (v := .bool (decide (a3 < 0))) (congrArg Value.bool (decide_eq_false c42)) rfl rfl ?_)
   refine XO.do rfl (D.mv (v := .bool (decide (a3 < 0))) rfl rfl ?_)
   by_cases c43 : a3 < 0
   ·rw [if_pos c43] at h
    refine XO.off (wantG0 (j := 6) (b := false) rfl (decide_eq_true c43) rfl) rfl rfl ?_
    refine XO.off (wantG0 (j := 6) (b := false) rfl (decide_eq_true c43) rfl) rfl rfl ?_
    refine XO.off (wantG0 (j := 6) (b := false) rfl (decide_eq_true c43) rfl) rfl rfl ?_
    refine XO.off (wantG0 (j := 6) (b := false) rfl (decide_eq_true c43) rfl) rfl rfl ?_
    refine XO.do rfl (D.pick true (v := .bool true) (congrArg Value.bool (decide_eq_true c43)) rfl rfl ?_)
    refine XO.do rfl (D.mv (v := .bool true) rfl rfl ?_)
    refine XO.off (wantG0 (j := 12) (b := false) rfl (rfl) rfl) rfl rfl ?_
    refine XO.off (wantG0 (j := 12) (b := false) rfl (rfl) rfl) rfl rfl ?_
    refine XO.off (wantG0 (j := 12) (b := false) rfl (rfl) rfl) rfl rfl ?_
    refine XO.off (wantG0 (j := 12) (b := false) rfl (rfl) rfl) rfl rfl ?_
    refine XO.off (wantG0 (j := 12) (b := false) rfl (rfl) rfl) rfl rfl ?_
    refine XO.off (wantG0 (j := 12) (b := false) rfl (rfl) rfl) rfl rfl ?_
    refine XO.do rfl (D.pick true (v := .bool true) (congrArg Value.bool (rfl)) rfl rfl ?_)
    refine XO.nil ?_
    exact ⟨true, rfl, rfl, rfl, rfl, hB, h⟩
   ·rw [if_neg c43] at h
    refine XO.do (wantG (j := 6) (b := false) rfl (decide_eq_false c43) rfl) (D.mv (v := .int .i64 a2) rfl rfl ?_)
    refine XO.do (wantG (j := 6) (b := false) rfl (decide_eq_false c43) rfl) (D.mv (v := S a1) rfl rfl ?_)
    refine XO.do (wantG (j := 6) (b := false) rfl (decide_eq_false c43) rfl) (D.lenS Try.underlying9 rfl rfl ?_)
    refine XO.do (wantG (j := 6) (b := false) rfl (decide_eq_false c43) rfl) (D.gtr rfl rfl rfl ?_)
    refine XO.do rfl (D.pick false (v := .bool (decide ((a1.length : Int) < a2))) (congrArg Value.bool (decide_eq_false c43)) rfl rfl ?_)
    refine XO.do rfl (D.mv (v := .bool (decide ((a1.length : Int) < a2))) rfl rfl ?_)
    by_cases c44 : (a1.length : Int) < a2
    ·rw [if_pos c44] at h
     refine XO.off (wantG0 (j := 12) (b := false) rfl (decide_eq_true c44) rfl) rfl rfl ?_
     refine XO.off (wantG0 (j := 12) (b := false) rfl (decide_eq_true c44) rfl) rfl rfl ?_
     refine XO.off (wantG0 (j := 12) (b := false) rfl (decide_eq_true c44) rfl) rfl rfl ?_
     refine XO.off (wantG0 (j := 12) (b := false) rfl (decide_eq_true c44) rfl) rfl rfl ?_
     refine XO.off (wantG0 (j := 12) (b := false) rfl (decide_eq_true c44) rfl) rfl rfl ?_
     refine XO.off (wantG0 (j := 12) (b := false) rfl (decide_eq_true c44) rfl) rfl rfl ?_
     refine XO.do rfl (D.pick true (v := .bool true) (congrArg Value.bool (decide_eq_true c44)) rfl rfl ?_)
     refine XO.nil ?_
     exact ⟨true, rfl, rfl, rfl, rfl, hB, h⟩
    ·rw [if_neg c44] at h
     refine XO.do (wantG (j := 12) (b := false) rfl (decide_eq_false c44) rfl) (D.mv (v := .int .i64 a3) rfl rfl ?_)
     refine XO.do (wantG (j := 12) (b := false) rfl (decide_eq_false c44) rfl) (D.mv (v := S a1) rfl rfl ?_)
     refine XO.do (wantG (j := 12) (b := false) rfl (decide_eq_false c44) rfl) (D.lenS Try.underlying9 rfl rfl ?_)
     refine XO.do (wantG (j := 12) (b := false) rfl (decide_eq_false c44) rfl) (D.mv (v := .int .i64 a2) rfl rfl ?_)
     refine XO.do (wantG (j := 12) (b := false) rfl (decide_eq_false c44) rfl) (D.sub rfl rfl rfl ?_)
     refine XO.do (wantG (j := 12) (b := false) rfl (decide_eq_false c44) rfl) (D.gtr rfl rfl rfl ?_)
     refine XO.do rfl (D.pick false (v := .bool (decide ((w64 ((a1.length : Int) - a2)) < a3))) (congrArg Value.bool (decide_eq_false c44)) rfl rfl ?_)
     refine XO.nil ?_
     exact ⟨(decide ((w64 ((a1.length : Int) - a2)) < a3)), rfl, rfl, rfl, rfl, hB, h⟩
 ·intro f29 w28 hI
  obtain ⟨x27, s30, s31, s32, s33, hB, h⟩ := hI
  refine X.fr (d := 0) s30 ?_
  refine X.fr (d := 1) s31 ?_
  refine X.fr (d := 2) s32 ?_
  refine X.fr (d := 28) s33 ?_
  unfold octet_Some.j1 at h
  by_cases c34 : x27 = true
  ·rw [if_pos c34] at h
   refine X.condT (congrArg Value.bool (c34)) ?_
   refine X.seq fun M35 hM36 => ?_
   refine X.region ?_
   refine XO.do rfl (D.asn (v := S []) rfl rfl ?_)
   refine XO.do rfl (D.asn (v := .int .i64 0) rfl rfl ?_)
   refine XO.do rfl (D.asn (v := .int .i64 2) rfl rfl ?_)
   refine XO.nil ?_
   refine hM36 _ _ ?_
   refine X.ret ?_
   injection h with h
   subst h
   exact hR _ _ _ (ret3 (v := S []) (v' := .int .i64 0) (v'' := .int .i64 2) rfl rfl rfl rfl) ⟨rfl, ext_of_below hB⟩
  ·rw [if_neg c34] at h
   refine X.condF (congrArg Value.bool ((Bool.eq_false_iff.2 c34))) ?_
   refine X.skip ?_
   refine hM23 _ _ ?_
   refine X.seq fun M37 hM38 => ?_
   refine X.region ?_
   refine XO.do rfl (D.mv (v := S a1) rfl rfl ?_)
   refine XO.do rfl (D.mv (v := .int .i64 a2) rfl rfl ?_)
   refine XO.do rfl (D.mv (v := .int .i64 a2) rfl rfl ?_)
   refine XO.do rfl (D.mv (v := .int .i64 a3) rfl rfl ?_)
   refine XO.do rfl (D.add rfl rfl rfl ?_)
   rcases (Classical.em (0 ≤ a2)).symm with c39 | c39
   ·rw [if_neg c39] at h; cases h
   rw [if_pos c39] at h
   rcases (Classical.em (a2 ≤ w64 (a2 + a3))).symm with c40 | c40
   ·rw [if_neg c40] at h; cases h
   rw [if_pos c40] at h
   rcases (Classical.em (w64 (a2 + a3) ≤ (a1.length : Int))).symm with c41 | c41
   ·rw [if_neg c41] at h; cases h
   rw [if_pos c41] at h
   refine XO.do rfl (D.sliceS (i := a2) (j := w64 (a2 + a3)) Try.underlying9 rfl rfl rfl c39 c40 c41 rfl ?_)
   refine XO.do rfl (D.mv (v := .int .i64 a2) rfl rfl ?_)
   refine XO.do rfl (D.mv (v := .int .i64 a3) rfl rfl ?_)
   refine XO.do rfl (D.add rfl rfl rfl ?_)
   refine XO.do rfl (D.asn (v := S ((a1.drop a2.toNat).take ((w64 (a2 + a3)).toNat - a2.toNat))) rfl rfl ?_)
   refine XO.do rfl (D.asn (v := .int .i64 (w64 (a2 + a3))) rfl rfl ?_)
   refine XO.do rfl (D.asn (v := .int .i64 0) rfl rfl ?_)
   refine XO.nil ?_
   refine hM38 _ _ ?_
   refine X.ret ?_
   injection h with h
   subst h
   exact hR _ _ _ (ret3 (v := S ((a1.drop a2.toNat).take ((w64 (a2 + a3)).toNat - a2.toNat))) (v' := .int .i64 (w64 (a2 + a3))) (v'' := .int .i64 0) rfl rfl rfl rfl) ⟨rfl, ext_of_below hB⟩
theorem octet_Some.ok (a1 : Str) (a2 : Int) (a3 : Int)  (w : World)  (hp : octet_Some.pre a1 a2 a3) :
  Ret Try.prog 64 ([S a1, .int .i64 a2, .int .i64 a3] : List Value).toArray w fun v w' => v = .tuple #[S ((octet_Some a1 a2 a3).1), .int .i64 ((octet_Some a1 a2 a3).2.1), .int .i64 ((octet_Some a1 a2 a3).2.2)] ∧ Ext w w' := by
 have h := octet_Some.eq a1 a2 a3 hp
 exact octet_Some.walk  a1 a2 a3  w  _ h
theorem octet_bytes.walk (kf : Nat) (a1 : Int) (a2 : Int)  (w : World)  (res : Str) (h : octet_bytes.f kf a1 a2 = some res) :
  Ret Try.prog 56 ([.int .u32 a1, .int .i64 a2] : List Value).toArray w fun v w' => v = S res ∧ Ext w w' := by
 unfold octet_bytes.f at h
 refine enterX Try.func56 rfl Try.ntmps56 rfl (fun R hR => ?_)
 have hB := Below.refl w.heap.size w
 refine X.seq fun M3 hM4 => ?_
 refine X.region ?_
 refine XO.do rfl (D.asn (v := S []) rfl rfl ?_)
 refine XO.nil ?_
 refine hM4 _ _ ?_
 refine X.seq fun M5 hM6 => ?_
 refine X.region ?_
 refine XO.do rfl (D.mv (v := .int .i64 a2) rfl rfl ?_)
 rcases (Classical.em (0 ≤ a2)).symm with c7 | c7
 ·rw [if_neg c7] at h; cases h
 rw [if_pos c7] at h
 rcases (Classical.em (a2 * 1 ≤ 281474976710656)).symm with c8 | c8
 ·rw [if_neg c8] at h; cases h
 rw [if_pos c8] at h
 refine XO.do rfl (D.makeI (m := a2) Try.underlying62 ti5 (by decide) c7 c8 rfl rfl rfl ?_)
 intro b9 k10 w11 hb12 _ H13 e14 zb9
 have g15 : w.heap.size ≤ b9 := Nat.le_trans hB.size (Nat.le_of_eq hb12.symm)
 have bs15 : b9 ≤ w11.heap.size := Nat.le_of_lt zb9
 replace hB := below_ext hB e14
 clear e14 hb12 zb9
 refine XO.do rfl (D.asn (v := .slice (some ⟨b9, 0, none⟩) (List.replicate a2.toNat (0 : Int)).length k10) rfl rfl ?_)
 refine XO.nil ?_
 refine hM6 _ _ ?_
 refine X.seq fun M181 hM182 => ?_
 refine X.seq fun M183 hM184 => ?_
 refine X.region ?_
 refine XO.do rfl (D.mv (v := .int .i64 a2) rfl rfl ?_)
 refine XO.do rfl (D.mv (v := .int .i64 0) rfl rfl ?_)
 refine XO.nil ?_
 refine hM184 _ _ ?_
 refine X.block ?_
 refine X.loop (fun kq349 => fun f304 w303 => ∃ A295 : Option Addr, ∃ k296 : Nat, ∃ l297 : List Int, ∃ B298 : Nat, ∃ x301 : Int, f304 0 = .int .u32 a1 ∧ f304 1 = .int .i64 a2 ∧ f304 5 = .slice A295 l297.length k296 ∧ f304 9 = .int .i64 a2 ∧ f304 10 = .int .i64 x301 ∧ Below w.heap.size w w303 ∧ Own (eInt .u8) 5 w303 B298 A295 k296 l297 ∧ B298 ≤ w303.heap.size ∧ w.heap.size ≤ B298 ∧ octet_bytes.l1 a2 a1 kq349 l297 x301 = some res) kf ?_ ?_
 ·exact ⟨(some ⟨b9, 0, none⟩), k10, List.replicate a2.toNat (0 : Int), b9, 0, rfl, rfl, rfl, rfl, rfl, hB, H13, bs15, g15, h⟩
 ·intro kq349 f304 w303 hI
  obtain ⟨A295, k296, l297, B298, x301, s305, s306, s307, s308, s309, hB, H299, bs300, hg300, h⟩ := hI
  cases kq349 with
  | zero => exact absurd h (by rw [octet_bytes.l1.eq_1]; simp)
  | succ kf294 =>
   rw [octet_bytes.l1.eq_2] at h
   refine X.fr (d := 0) s305 ?_
   refine X.fr (d := 1) s306 ?_
   refine X.fr (d := 5) s307 ?_
   refine X.fr (d := 9) s308 ?_
   refine X.fr (d := 10) s309 ?_
   refine X.seq fun M311 hM312 => ?_
   refine X.region ?_
   refine XO.do rfl (D.lss rfl rfl rfl ?_)
   refine XO.nil ?_
   refine hM312 _ _ ?_
   refine X.seq fun M314 hM315 => ?_
   by_cases c316 : x301 < a2
   ·rw [if_pos c316] at h
    refine X.condT (congrArg Value.bool (decide_eq_true c316)) ?_
    refine X.skip ?_
    refine hM315 _ _ ?_
    refine X.seq fun M331 hM332 => ?_
    refine X.block ?_
    refine X.seq fun M333 hM334 => ?_
    refine X.region ?_
    refine XO.do rfl (D.mv (v := .int .i64 x301) rfl rfl ?_)
    refine XO.do rfl (D.asn (v := .int .i64 x301) rfl rfl ?_)
    refine XO.nil ?_
    refine hM334 _ _ ?_
    refine X.region ?_
    refine XO.do rfl (D.mv (v := .slice A295 l297.length k296) rfl rfl ?_)
    refine XO.do rfl (D.mv (v := .int .i64 a2) rfl rfl ?_)
    refine XO.do rfl (D.sub rfl rfl rfl ?_)
    refine XO.do rfl (D.mv (v := .int .i64 x301) rfl rfl ?_)
    refine XO.do rfl (D.sub rfl rfl rfl ?_)
    refine XO.do rfl (D.mv (v := .int .u32 a1) rfl rfl ?_)
    refine XO.do rfl (D.mv (v := .int .i64 x301) rfl rfl ?_)
    refine XO.do rfl (D.mul rfl rfl rfl ?_)
    rcases (Classical.em (0 ≤ w64 (8 * x301))).symm with c335 | c335
    ·rw [if_neg c335] at h; cases h
    rw [if_pos c335] at h
    refine XO.do rfl (D.shr (b := (w64 (8 * x301))) rfl rfl c335 rfl ?_)
    refine XO.do rfl (D.conv Try.underlying23 Try.underlying5 rfl rfl ?_)
    rcases (Classical.em (0 ≤ w64 ((w64 (a2 - 1)) - x301))).symm with c336 | c336
    ·rw [if_neg c336] at h; cases h
    rw [if_pos c336] at h
    rcases (Classical.em (w64 ((w64 (a2 - 1)) - x301) < (l297.length : Int))).symm with c337 | c337
    ·rw [if_neg c337] at h; cases h
    rw [if_pos c337] at h
    refine XO.do rfl (D.indexO (i := (w64 ((w64 (a2 - 1)) - x301))) Try.underlying62 sz5 H299 rfl rfl c336 c337 rfl ?_)
    intro b338 o339 hA341 ho342 H340
    refine XO.do rfl (D.storeO (E := (eInt .u8)) (z := w8 (sShr .u32 a1 (w64 (8 * x301)))) (j := 0) (v := .int .u8 (w8 (sShr .u32 a1 (w64 (8 * x301))))) sz5 H299 hA341 ho342 c336 c337 rfl rfl (by decide) rfl rfl rfl rfl rfl ?_)
    intro w344 H345 e346
    replace hB := below_own hB e346 (fun x hx => Nat.le_trans hg300 (MO.ge H299 x hx))
    replace bs300 := Nat.le_trans bs300 (World.grownBy.size e346)
    clear e346 H299
    refine XO.fr (d := 5) (v := .slice A295 ((l297).set (w64 ((w64 (a2 - 1)) - x301)).toNat (w8 (sShr .u32 a1 (w64 (8 * x301))))).length k296) (slSet rfl) ?_
    refine XO.fr (d := 13) (v := .slice A295 ((l297).set (w64 ((w64 (a2 - 1)) - x301)).toNat (w8 (sShr .u32 a1 (w64 (8 * x301))))).length k296) (slSet rfl) ?_
    refine XO.nil ?_
    refine hM332 _ _ ?_
    refine X.region ?_
    refine XO.do rfl (D.add rfl rfl rfl ?_)
    refine XO.do rfl (D.mv (v := .int .i64 (w64 (x301 + 1))) rfl rfl ?_)
    refine XO.nil ?_
    exact ⟨kf294, Nat.lt_succ_self _, A295, k296, (l297).set (w64 ((w64 (a2 - 1)) - x301)).toNat (w8 (sShr .u32 a1 (w64 (8 * x301)))), B298, w64 (x301 + 1), rfl, rfl, rfl, rfl, rfl, hB, H345, bs300, hg300, h⟩
   ·rw [if_neg c316] at h
    refine X.condF (congrArg Value.bool (decide_eq_false c316)) ?_
    refine X.exit rfl ?_
    refine hM182 _ _ ?_
    refine X.seq fun M347 hM348 => ?_
    refine X.region ?_
    refine XO.do rfl (D.mv (v := .slice A295 l297.length k296) rfl rfl ?_)
    refine XO.do rfl (D.strOf (m := 0) Try.underlying62 Try.underlying5 Try.underlying9 H299.row rfl rfl ?_)
    refine XO.do rfl (D.asn (v := S (strOf l297)) rfl rfl ?_)
    refine XO.nil ?_
    refine hM348 _ _ ?_
    refine X.ret ?_
    injection h with h
    subst h
    exact hR _ _ _ (ret1 (v := S (strOf l297)) rfl rfl) ⟨rfl, ext_of_below hB⟩
theorem octet_bytes.ok (a1 : Int) (a2 : Int)  (w : World)  (hp : octet_bytes.pre a1 a2) :
  Ret Try.prog 56 ([.int .u32 a1, .int .i64 a2] : List Value).toArray w fun v w' => v = S (octet_bytes a1 a2) ∧ Ext w w' := by
 obtain ⟨kf, h⟩ := octet_bytes.eq a1 a2 hp
 exact octet_bytes.walk kf a1 a2  w  _ h
end Go.Proofs.Ytfcaekghpkpjdaa.K

/- Walks, printed by a program of this session. -/
namespace Go.Proofs.Ytfcaekghpkpjdaa.K
open Go Go.RowKit Go.Proofs
set_option linter.unusedVariables false
set_option maxRecDepth 100000
set_option maxHeartbeats 4000000
namespace FA2
theorem cf64 : Callable Try.prog 64 := callable Try.func64 (by kernel_rfl) rfl
end FA2
open FA2
theorem octet_number_uint8.walk (kf : Nat) (a1 : Str) (a2 : Int) (a3 : Int)  (w : World)  (res : Int × Int × Int) (h : octet_number_uint8.f kf a1 a2 a3 = some res) :
  Ret Try.prog 84 ([S a1, .int .i64 a2, .int .i64 a3] : List Value).toArray w fun v w' => v = .tuple #[.int .u8 res.1, .int .i64 res.2.1, .int .i64 res.2.2] ∧ Ext w w' := by
 unfold octet_number_uint8.f at h
 refine enterX Try.func84 rfl Try.ntmps84 rfl (fun R hR => ?_)
 have hB := Below.refl w.heap.size w
 refine X.seq fun M4 hM5 => ?_
 refine X.region ?_
 refine XO.do rfl (D.asn (v := .int .u8 0) rfl rfl ?_)
 refine XO.do rfl (D.asn (v := .int .i64 0) rfl rfl ?_)
 refine XO.do rfl (D.asn (v := .int .i64 0) rfl rfl ?_)
 refine XO.nil ?_
 refine hM5 _ _ ?_
 refine X.seq fun M6 hM7 => ?_
 refine X.region ?_
 refine XO.do rfl (D.mv (v := S a1) rfl rfl ?_)
 refine XO.do rfl (D.mv (v := .int .i64 a2) rfl rfl ?_)
 refine XO.do rfl (D.mv (v := .int .i64 a3) rfl rfl ?_)
 rcases (Classical.em (octet_Some.pre a1 a2 a3)).symm with c8 | c8
 ·rw [if_neg c8] at h; cases h
 rw [if_pos c8] at h
 obtain ⟨r12, q13, h⟩ := lt_elim h
 have hc11 := octet_Some.ok a1 a2 a3 w c8 
 rw [q13] at hc11
 clear q13
 refine XO.do rfl (D.call (vs := [S a1, .int .i64 a2, .int .i64 a3]) cf64 hc11 rfl rfl ?_)
 rintro _ w9 ⟨rfl, e10⟩
 clear hc11
 replace hB := below_ext hB e10
 clear e10
 refine XO.do rfl (D.mv (v := .tuple #[S r12.1, .int .i64 r12.2.1, .int .i64 r12.2.2]) rfl rfl ?_)
 refine XO.do rfl (D.extract (v := S r12.1) rfl rfl rfl ?_)
 refine XO.do rfl (D.extract (v := .int .i64 r12.2.1) rfl rfl rfl ?_)
 refine XO.do rfl (D.extract (v := .int .i64 r12.2.2) rfl rfl rfl ?_)
 refine XO.do rfl (D.asn (v := S r12.1) rfl rfl ?_)
 refine XO.do rfl (D.asn (v := .int .i64 r12.2.1) rfl rfl ?_)
 refine XO.do rfl (D.asn (v := .int .i64 r12.2.2) rfl rfl ?_)
 refine XO.nil ?_
 refine hM7 _ _ ?_
 refine X.seq fun M14 hM15 => ?_
 refine X.region ?_
 refine XO.do rfl (D.asn (v := .int .u32 0) rfl rfl ?_)
 refine XO.nil ?_
 refine hM15 _ _ ?_
 refine X.seq fun M80 hM81 => ?_
 refine X.seq fun M82 hM83 => ?_
 refine X.region ?_
 refine XO.do rfl (D.mv (v := S r12.1) rfl rfl ?_)
 refine XO.do rfl (D.lenS Try.underlying9 rfl rfl ?_)
 refine XO.do rfl (D.mv (v := .int .i64 0) rfl rfl ?_)
 refine XO.nil ?_
 refine hM83 _ _ ?_
 refine X.block ?_
 refine X.loop (fun kq147 => fun f123 w122 => ∃ x119 : Int, ∃ x120 : Int, f123 9 = S r12.1 ∧ f123 10 = .int .i64 r12.2.1 ∧ f123 11 = .int .i64 r12.2.2 ∧ f123 12 = .int .u32 x119 ∧ f123 23 = .int .i64 (r12.1.length : Int) ∧ f123 24 = .int .i64 x120 ∧ Below w.heap.size w w122 ∧ octet_number_uint8.l1 r12 kq147 x119 x120 = some res) kf ?_ ?_
 ·exact ⟨0, 0, rfl, rfl, rfl, rfl, rfl, rfl, hB, h⟩
 ·intro kq147 f123 w122 hI
  obtain ⟨x119, x120, s124, s125, s126, s127, s128, s129, hB, h⟩ := hI
  cases kq147 with
  | zero => exact absurd h (by rw [octet_number_uint8.l1.eq_1]; simp)
  | succ kf118 =>
   rw [octet_number_uint8.l1.eq_2] at h
   refine X.fr (d := 9) s124 ?_
   refine X.fr (d := 10) s125 ?_
   refine X.fr (d := 11) s126 ?_
   refine X.fr (d := 12) s127 ?_
   refine X.fr (d := 23) s128 ?_
   refine X.fr (d := 24) s129 ?_
   refine X.seq fun M131 hM132 => ?_
   refine X.region ?_
   refine XO.do rfl (D.lss rfl rfl rfl ?_)
   refine XO.nil ?_
   refine hM132 _ _ ?_
   refine X.seq fun M134 hM135 => ?_
   by_cases c136 : x120 < (r12.1.length : Int)
   ·rw [if_pos c136] at h
    refine X.condT (congrArg Value.bool (decide_eq_true c136)) ?_
    refine X.skip ?_
    refine hM135 _ _ ?_
    refine X.seq fun M140 hM141 => ?_
    refine X.block ?_
    refine X.seq fun M142 hM143 => ?_
    refine X.region ?_
    refine XO.do rfl (D.mv (v := .int .i64 x120) rfl rfl ?_)
    refine XO.do rfl (D.asn (v := .int .i64 x120) rfl rfl ?_)
    refine XO.nil ?_
    refine hM143 _ _ ?_
    refine X.region ?_
    refine XO.do rfl (D.mv (v := .int .u32 x119) rfl rfl ?_)
    refine XO.do rfl (D.shl (b := 8) rfl rfl (by first | decide | simp | omega) rfl ?_)
    refine XO.do rfl (D.mv (v := S r12.1) rfl rfl ?_)
    refine XO.do rfl (D.mv (v := .int .i64 x120) rfl rfl ?_)
    rcases (Classical.em (0 ≤ x120)).symm with c144 | c144
    ·rw [if_neg c144] at h; cases h
    rw [if_pos c144] at h
    refine XO.do rfl (D.indexS (i := x120) Try.underlying9 rfl rfl c144 c136 rfl ?_)
    refine XO.do rfl (D.conv Try.underlying5 Try.underlying23 rfl rfl ?_)
    refine XO.do rfl (D.or rfl rfl rfl ?_)
    refine XO.do rfl (D.asn (v := .int .u32 (bOr .u32 (sShl .u32 x119 8) (w32 (bt r12.1 x120)))) rfl rfl ?_)
    refine XO.nil ?_
    refine hM141 _ _ ?_
    refine X.region ?_
    refine XO.do rfl (D.add rfl rfl rfl ?_)
    refine XO.do rfl (D.mv (v := .int .i64 (w64 (x120 + 1))) rfl rfl ?_)
    refine XO.nil ?_
    exact ⟨kf118, Nat.lt_succ_self _, bOr .u32 (sShl .u32 x119 8) (w32 (bt r12.1 x120)), w64 (x120 + 1), rfl, rfl, rfl, rfl, rfl, rfl, hB, h⟩
   ·rw [if_neg c136] at h
    refine X.condF (congrArg Value.bool (decide_eq_false c136)) ?_
    refine X.exit rfl ?_
    refine hM81 _ _ ?_
    refine X.seq fun M145 hM146 => ?_
    refine X.region ?_
    refine XO.do rfl (D.mv (v := .int .u32 x119) rfl rfl ?_)
    refine XO.do rfl (D.conv Try.underlying23 Try.underlying5 rfl rfl ?_)
    refine XO.do rfl (D.mv (v := .int .i64 r12.2.1) rfl rfl ?_)
    refine XO.do rfl (D.mv (v := .int .i64 r12.2.2) rfl rfl ?_)
    refine XO.do rfl (D.asn (v := .int .u8 (w8 x119)) rfl rfl ?_)
    refine XO.do rfl (D.asn (v := .int .i64 r12.2.1) rfl rfl ?_)
    refine XO.do rfl (D.asn (v := .int .i64 r12.2.2) rfl rfl ?_)
    refine XO.nil ?_
    refine hM146 _ _ ?_
    refine X.ret ?_
    injection h with h
    subst h
    exact hR _ _ _ (ret3 (v := .int .u8 (w8 x119)) (v' := .int .i64 r12.2.1) (v'' := .int .i64 r12.2.2) rfl rfl rfl rfl) ⟨rfl, ext_of_below hB⟩
theorem octet_number_uint8.ok (a1 : Str) (a2 : Int) (a3 : Int)  (w : World)  (hp : octet_number_uint8.pre a1 a2 a3) :
  Ret Try.prog 84 ([S a1, .int .i64 a2, .int .i64 a3] : List Value).toArray w fun v w' => v = .tuple #[.int .u8 ((octet_number_uint8 a1 a2 a3).1), .int .i64 ((octet_number_uint8 a1 a2 a3).2.1), .int .i64 ((octet_number_uint8 a1 a2 a3).2.2)] ∧ Ext w w' := by
 obtain ⟨kf, h⟩ := octet_number_uint8.eq a1 a2 a3 hp
 exact octet_number_uint8.walk kf a1 a2 a3  w  _ h
theorem octet_number_uint16.walk (kf : Nat) (a1 : Str) (a2 : Int) (a3 : Int)  (w : World)  (res : Int × Int × Int) (h : octet_number_uint16.f kf a1 a2 a3 = some res) :
  Ret Try.prog 63 ([S a1, .int .i64 a2, .int .i64 a3] : List Value).toArray w fun v w' => v = .tuple #[.int .u16 res.1, .int .i64 res.2.1, .int .i64 res.2.2] ∧ Ext w w' := by
 unfold octet_number_uint16.f at h
 refine enterX Try.func63 rfl Try.ntmps63 rfl (fun R hR => ?_)
 have hB := Below.refl w.heap.size w
 refine X.seq fun M4 hM5 => ?_
 refine X.region ?_
 refine XO.do rfl (D.asn (v := .int .u16 0) rfl rfl ?_)
 refine XO.do rfl (D.asn (v := .int .i64 0) rfl rfl ?_)
 refine XO.do rfl (D.asn (v := .int .i64 0) rfl rfl ?_)
 refine XO.nil ?_
 refine hM5 _ _ ?_
 refine X.seq fun M6 hM7 => ?_
 refine X.region ?_
 refine XO.do rfl (D.mv (v := S a1) rfl rfl ?_)
 refine XO.do rfl (D.mv (v := .int .i64 a2) rfl rfl ?_)
 refine XO.do rfl (D.mv (v := .int .i64 a3) rfl rfl ?_)
 rcases (Classical.em (octet_Some.pre a1 a2 a3)).symm with c8 | c8
 ·rw [if_neg c8] at h; cases h
 rw [if_pos c8] at h
 obtain ⟨r12, q13, h⟩ := lt_elim h
 have hc11 := octet_Some.ok a1 a2 a3 w c8 
 rw [q13] at hc11
 clear q13
 refine XO.do rfl (D.call (vs := [S a1, .int .i64 a2, .int .i64 a3]) cf64 hc11 rfl rfl ?_)
 rintro _ w9 ⟨rfl, e10⟩
 clear hc11
 replace hB := below_ext hB e10
 clear e10
 refine XO.do rfl (D.mv (v := .tuple #[S r12.1, .int .i64 r12.2.1, .int .i64 r12.2.2]) rfl rfl ?_)
 refine XO.do rfl (D.extract (v := S r12.1) rfl rfl rfl ?_)
 refine XO.do rfl (D.extract (v := .int .i64 r12.2.1) rfl rfl rfl ?_)
 refine XO.do rfl (D.extract (v := .int .i64 r12.2.2) rfl rfl rfl ?_)
 refine XO.do rfl (D.asn (v := S r12.1) rfl rfl ?_)
 refine XO.do rfl (D.asn (v := .int .i64 r12.2.1) rfl rfl ?_)
 refine XO.do rfl (D.asn (v := .int .i64 r12.2.2) rfl rfl ?_)
 refine XO.nil ?_
 refine hM7 _ _ ?_
 refine X.seq fun M14 hM15 => ?_
 refine X.region ?_
 refine XO.do rfl (D.asn (v := .int .u32 0) rfl rfl ?_)
 refine XO.nil ?_
 refine hM15 _ _ ?_
 refine X.seq fun M80 hM81 => ?_
 refine X.seq fun M82 hM83 => ?_
 refine X.region ?_
 refine XO.do rfl (D.mv (v := S r12.1) rfl rfl ?_)
 refine XO.do rfl (D.lenS Try.underlying9 rfl rfl ?_)
 refine XO.do rfl (D.mv (v := .int .i64 0) rfl rfl ?_)
 refine XO.nil ?_
 refine hM83 _ _ ?_
 refine X.block ?_
 refine X.loop (fun kq147 => fun f123 w122 => ∃ x119 : Int, ∃ x120 : Int, f123 9 = S r12.1 ∧ f123 10 = .int .i64 r12.2.1 ∧ f123 11 = .int .i64 r12.2.2 ∧ f123 12 = .int .u32 x119 ∧ f123 23 = .int .i64 (r12.1.length : Int) ∧ f123 24 = .int .i64 x120 ∧ Below w.heap.size w w122 ∧ octet_number_uint16.l1 r12 kq147 x119 x120 = some res) kf ?_ ?_
 ·exact ⟨0, 0, rfl, rfl, rfl, rfl, rfl, rfl, hB, h⟩
 ·intro kq147 f123 w122 hI
  obtain ⟨x119, x120, s124, s125, s126, s127, s128, s129, hB, h⟩ := hI
  cases kq147 with
  | zero => exact absurd h (by rw [octet_number_uint16.l1.eq_1]; simp)
  | succ kf118 =>
   rw [octet_number_uint16.l1.eq_2] at h
   refine X.fr (d := 9) s124 ?_
   refine X.fr (d := 10) s125 ?_
   refine X.fr (d := 11) s126 ?_
   refine X.fr (d := 12) s127 ?_
   refine X.fr (d := 23) s128 ?_
   refine X.fr (d := 24) s129 ?_
   refine X.seq fun M131 hM132 => ?_
   refine X.region ?_
   refine XO.do rfl (D.lss rfl rfl rfl ?_)
   refine XO.nil ?_
   refine hM132 _ _ ?_
   refine X.seq fun M134 hM135 => ?_
   by_cases c136 : x120 < (r12.1.length : Int)
   ·rw [if_pos c136] at h
    refine X.condT (congrArg Value.bool (decide_eq_true c136)) ?_
    refine X.skip ?_
    refine hM135 _ _ ?_
    refine X.seq fun M140 hM141 => ?_
    refine X.block ?_
    refine X.seq fun M142 hM143 => ?_
    refine X.region ?_
    refine XO.do rfl (D.mv (v := .int .i64 x120) rfl rfl ?_)
    refine XO.do rfl (D.asn (v := .int .i64 x120) rfl rfl ?_)
    refine XO.nil ?_
    refine hM143 _ _ ?_
    refine X.region ?_
    refine XO.do rfl (D.mv (v := .int .u32 x119) rfl rfl ?_)
    refine XO.do rfl (D.shl (b := 8) rfl rfl (by first | decide | simp | omega) rfl ?_)
    refine XO.do rfl (D.mv (v := S r12.1) rfl rfl ?_)
    refine XO.do rfl (D.mv (v := .int .i64 x120) rfl rfl ?_)
    rcases (Classical.em (0 ≤ x120)).symm with c144 | c144
    ·rw [if_neg c144] at h; cases h
    rw [if_pos c144] at h
    refine XO.do rfl (D.indexS (i := x120) Try.underlying9 rfl rfl c144 c136 rfl ?_)
    refine XO.do rfl (D.conv Try.underlying5 Try.underlying23 rfl rfl ?_)
    refine XO.do rfl (D.or rfl rfl rfl ?_)
    refine XO.do rfl (D.asn (v := .int .u32 (bOr .u32 (sShl .u32 x119 8) (w32 (bt r12.1 x120)))) rfl rfl ?_)
    refine XO.nil ?_
    refine hM141 _ _ ?_
    refine X.region ?_
    refine XO.do rfl (D.add rfl rfl rfl ?_)
    refine XO.do rfl (D.mv (v := .int .i64 (w64 (x120 + 1))) rfl rfl ?_)
    refine XO.nil ?_
    exact ⟨kf118, Nat.lt_succ_self _, bOr .u32 (sShl .u32 x119 8) (w32 (bt r12.1 x120)), w64 (x120 + 1), rfl, rfl, rfl, rfl, rfl, rfl, hB, h⟩
   ·rw [if_neg c136] at h
    refine X.condF (congrArg Value.bool (decide_eq_false c136)) ?_
    refine X.exit rfl ?_
    refine hM81 _ _ ?_
    refine X.seq fun M145 hM146 => ?_
    refine X.region ?_
    refine XO.do rfl (D.mv (v := .int .u32 x119) rfl rfl ?_)
    refine XO.do rfl (D.conv Try.underlying23 Try.underlying22 rfl rfl ?_)
    refine XO.do rfl (D.mv (v := .int .i64 r12.2.1) rfl rfl ?_)
    refine XO.do rfl (D.mv (v := .int .i64 r12.2.2) rfl rfl ?_)
    refine XO.do rfl (D.asn (v := .int .u16 (w16 x119)) rfl rfl ?_)
    refine XO.do rfl (D.asn (v := .int .i64 r12.2.1) rfl rfl ?_)
    refine XO.do rfl (D.asn (v := .int .i64 r12.2.2) rfl rfl ?_)
    refine XO.nil ?_
    refine hM146 _ _ ?_
    refine X.ret ?_
    injection h with h
    subst h
    exact hR _ _ _ (ret3 (v := .int .u16 (w16 x119)) (v' := .int .i64 r12.2.1) (v'' := .int .i64 r12.2.2) rfl rfl rfl rfl) ⟨rfl, ext_of_below hB⟩
theorem octet_number_uint16.ok (a1 : Str) (a2 : Int) (a3 : Int)  (w : World)  (hp : octet_number_uint16.pre a1 a2 a3) :
  Ret Try.prog 63 ([S a1, .int .i64 a2, .int .i64 a3] : List Value).toArray w fun v w' => v = .tuple #[.int .u16 ((octet_number_uint16 a1 a2 a3).1), .int .i64 ((octet_number_uint16 a1 a2 a3).2.1), .int .i64 ((octet_number_uint16 a1 a2 a3).2.2)] ∧ Ext w w' := by
 obtain ⟨kf, h⟩ := octet_number_uint16.eq a1 a2 a3 hp
 exact octet_number_uint16.walk kf a1 a2 a3  w  _ h
theorem octet_number_uint32.walk (kf : Nat) (a1 : Str) (a2 : Int) (a3 : Int)  (w : World)  (res : Int × Int × Int) (h : octet_number_uint32.f kf a1 a2 a3 = some res) :
  Ret Try.prog 62 ([S a1, .int .i64 a2, .int .i64 a3] : List Value).toArray w fun v w' => v = .tuple #[.int .u32 res.1, .int .i64 res.2.1, .int .i64 res.2.2] ∧ Ext w w' := by
 unfold octet_number_uint32.f at h
 refine enterX Try.func62 rfl Try.ntmps62 rfl (fun R hR => ?_)
 have hB := Below.refl w.heap.size w
 refine X.seq fun M4 hM5 => ?_
 refine X.region ?_
 refine XO.do rfl (D.asn (v := .int .u32 0) rfl rfl ?_)
 refine XO.do rfl (D.asn (v := .int .i64 0) rfl rfl ?_)
 refine XO.do rfl (D.asn (v := .int .i64 0) rfl rfl ?_)
 refine XO.nil ?_
 refine hM5 _ _ ?_
 refine X.seq fun M6 hM7 => ?_
 refine X.region ?_
 refine XO.do rfl (D.mv (v := S a1) rfl rfl ?_)
 refine XO.do rfl (D.mv (v := .int .i64 a2) rfl rfl ?_)
 refine XO.do rfl (D.mv (v := .int .i64 a3) rfl rfl ?_)
 rcases (Classical.em (octet_Some.pre a1 a2 a3)).symm with c8 | c8
 ·rw [if_neg c8] at h; cases h
 rw [if_pos c8] at h
 obtain ⟨r12, q13, h⟩ := lt_elim h
 have hc11 := octet_Some.ok a1 a2 a3 w c8 
 rw [q13] at hc11
 clear q13
 refine XO.do rfl (D.call (vs := [S a1, .int .i64 a2, .int .i64 a3]) cf64 hc11 rfl rfl ?_)
 rintro _ w9 ⟨rfl, e10⟩
 clear hc11
 replace hB := below_ext hB e10
 clear e10
 refine XO.do rfl (D.mv (v := .tuple #[S r12.1, .int .i64 r12.2.1, .int .i64 r12.2.2]) rfl rfl ?_)
 refine XO.do rfl (D.extract (v := S r12.1) rfl rfl rfl ?_)
 refine XO.do rfl (D.extract (v := .int .i64 r12.2.1) rfl rfl rfl ?_)
 refine XO.do rfl (D.extract (v := .int .i64 r12.2.2) rfl rfl rfl ?_)
 refine XO.do rfl (D.asn (v := S r12.1) rfl rfl ?_)
 refine XO.do rfl (D.asn (v := .int .i64 r12.2.1) rfl rfl ?_)
 refine XO.do rfl (D.asn (v := .int .i64 r12.2.2) rfl rfl ?_)
 refine XO.nil ?_
 refine hM7 _ _ ?_
 refine X.seq fun M14 hM15 => ?_
 refine X.region ?_
 refine XO.do rfl (D.asn (v := .int .u32 0) rfl rfl ?_)
 refine XO.nil ?_
 refine hM15 _ _ ?_
 refine X.seq fun M80 hM81 => ?_
 refine X.seq fun M82 hM83 => ?_
 refine X.region ?_
 refine XO.do rfl (D.mv (v := S r12.1) rfl rfl ?_)
 refine XO.do rfl (D.lenS Try.underlying9 rfl rfl ?_)
 refine XO.do rfl (D.mv (v := .int .i64 0) rfl rfl ?_)
 refine XO.nil ?_
 refine hM83 _ _ ?_
 refine X.block ?_
 refine X.loop (fun kq147 => fun f123 w122 => ∃ x119 : Int, ∃ x120 : Int, f123 9 = S r12.1 ∧ f123 10 = .int .i64 r12.2.1 ∧ f123 11 = .int .i64 r12.2.2 ∧ f123 12 = .int .u32 x119 ∧ f123 23 = .int .i64 (r12.1.length : Int) ∧ f123 24 = .int .i64 x120 ∧ Below w.heap.size w w122 ∧ octet_number_uint32.l1 r12 kq147 x119 x120 = some res) kf ?_ ?_
 ·exact ⟨0, 0, rfl, rfl, rfl, rfl, rfl, rfl, hB, h⟩
 ·intro kq147 f123 w122 hI
  obtain ⟨x119, x120, s124, s125, s126, s127, s128, s129, hB, h⟩ := hI
  cases kq147 with
  | zero => exact absurd h (by rw [octet_number_uint32.l1.eq_1]; simp)
  | succ kf118 =>
   rw [octet_number_uint32.l1.eq_2] at h
   refine X.fr (d := 9) s124 ?_
   refine X.fr (d := 10) s125 ?_
   refine X.fr (d := 11) s126 ?_
   refine X.fr (d := 12) s127 ?_
   refine X.fr (d := 23) s128 ?_
   refine X.fr (d := 24) s129 ?_
   refine X.seq fun M131 hM132 => ?_
   refine X.region ?_
   refine XO.do rfl (D.lss rfl rfl rfl ?_)
   refine XO.nil ?_
   refine hM132 _ _ ?_
   refine X.seq fun M134 hM135 => ?_
   by_cases c136 : x120 < (r12.1.length : Int)
   ·rw [if_pos c136] at h
    refine X.condT (congrArg Value.bool (decide_eq_true c136)) ?_
    refine X.skip ?_
    refine hM135 _ _ ?_
    refine X.seq fun M140 hM141 => ?_
    refine X.block ?_
    refine X.seq fun M142 hM143 => ?_
    refine X.region ?_
    refine XO.do rfl (D.mv (v := .int .i64 x120) rfl rfl ?_)
    refine XO.do rfl (D.asn (v := .int .i64 x120) rfl rfl ?_)
    refine XO.nil ?_
    refine hM143 _ _ ?_
    refine X.region ?_
    refine XO.do rfl (D.mv (v := .int .u32 x119) rfl rfl ?_)
    refine XO.do rfl (D.shl (b := 8) rfl rfl (by first | decide | simp | omega) rfl ?_)
    refine XO.do rfl (D.mv (v := S r12.1) rfl rfl ?_)
    refine XO.do rfl (D.mv (v := .int .i64 x120) rfl rfl ?_)
    rcases (Classical.em (0 ≤ x120)).symm with c144 | c144
    ·rw [if_neg c144] at h; cases h
    rw [if_pos c144] at h
    refine XO.do rfl (D.indexS (i := x120) Try.underlying9 rfl rfl c144 c136 rfl ?_)
    refine XO.do rfl (D.conv Try.underlying5 Try.underlying23 rfl rfl ?_)
    refine XO.do rfl (D.or rfl rfl rfl ?_)
    refine XO.do rfl (D.asn (v := .int .u32 (bOr .u32 (sShl .u32 x119 8) (w32 (bt r12.1 x120)))) rfl rfl ?_)
    refine XO.nil ?_
    refine hM141 _ _ ?_
    refine X.region ?_
    refine XO.do rfl (D.add rfl rfl rfl ?_)
    refine XO.do rfl (D.mv (v := .int .i64 (w64 (x120 + 1))) rfl rfl ?_)
    refine XO.nil ?_
    exact ⟨kf118, Nat.lt_succ_self _, bOr .u32 (sShl .u32 x119 8) (w32 (bt r12.1 x120)), w64 (x120 + 1), rfl, rfl, rfl, rfl, rfl, rfl, hB, h⟩
   ·rw [if_neg c136] at h
    refine X.condF (congrArg Value.bool (decide_eq_false c136)) ?_
    refine X.exit rfl ?_
    refine hM81 _ _ ?_
    refine X.seq fun M145 hM146 => ?_
    refine X.region ?_
    refine XO.do rfl (D.mv (v := .int .u32 x119) rfl rfl ?_)
    refine XO.do rfl (D.mv (v := .int .i64 r12.2.1) rfl rfl ?_)
    refine XO.do rfl (D.mv (v := .int .i64 r12.2.2) rfl rfl ?_)
    refine XO.do rfl (D.asn (v := .int .u32 x119) rfl rfl ?_)
    refine XO.do rfl (D.asn (v := .int .i64 r12.2.1) rfl rfl ?_)
    refine XO.do rfl (D.asn (v := .int .i64 r12.2.2) rfl rfl ?_)
    refine XO.nil ?_
    refine hM146 _ _ ?_
    refine X.ret ?_
    injection h with h
    subst h
    exact hR _ _ _ (ret3 (v := .int .u32 x119) (v' := .int .i64 r12.2.1) (v'' := .int .i64 r12.2.2) rfl rfl rfl rfl) ⟨rfl, ext_of_below hB⟩
theorem octet_number_uint32.ok (a1 : Str) (a2 : Int) (a3 : Int)  (w : World)  (hp : octet_number_uint32.pre a1 a2 a3) :
  Ret Try.prog 62 ([S a1, .int .i64 a2, .int .i64 a3] : List Value).toArray w fun v w' => v = .tuple #[.int .u32 ((octet_number_uint32 a1 a2 a3).1), .int .i64 ((octet_number_uint32 a1 a2 a3).2.1), .int .i64 ((octet_number_uint32 a1 a2 a3).2.2)] ∧ Ext w w' := by
 obtain ⟨kf, h⟩ := octet_number_uint32.eq a1 a2 a3 hp
 exact octet_number_uint32.walk kf a1 a2 a3  w  _ h
end Go.Proofs.Ytfcaekghpkpjdaa.K
