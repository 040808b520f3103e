/- Part 3 of what the row of RecordBack leans on: a library of walks, the pure functions, the walks of the functions. -/
import Derived.Test.YtfcaekghpkpjdaaProg
import Derived.RangeFuncRecord
import Derived.RangeFuncLeaves
import Derived.Test.YtfcaekghpkpjdaaQRecordBackb
/- Pure functions, printed by a program of this session out of the loaded code. -/
namespace Go.Proofs.Ytfcaekghpkpjdaa.K
open Go Go.RowKit
set_option linter.unusedVariables false

/-- derricklaw05.RecordBack -/
def derricklaw05_RecordBack.j3 (a1 : List RR) (x1086 : Int) (cl1096 : Pack → Int → Option (Bool)) (x1351 : Pack) : Option (Bool) :=
  (if record_Put.pre x1351 (rd a1 x1086) then (lt (record_Put x1351 (rd a1 x1086)) fun r1368 => (cl1096 r1368.2 (w64 (x1086 + 1)))) else none)
def derricklaw05_RecordBack.j4 (a1 : List RR) (x1086 : Int) (x1085 : Pack) (cl1096 : Pack → Int → Option (Bool)) (x1383 : Bool) : Option (Bool) :=
  (if x1383 = true then (lt (record_Key (rd a1 x1086)) fun r1400 => (if record_PutQ.pre x1085 r1400 then (lt (record_PutQ x1085 r1400) fun r1406 => (derricklaw05_RecordBack.j3 a1 x1086 cl1096 r1406.2)) else none)) else (derricklaw05_RecordBack.j3 a1 x1086 cl1096 x1085))
def derricklaw05_RecordBack.j7 (cl4554 : Int → Int → Option (Bool)) (x4544 : Int) (x5072 : Int) : Option (Bool) :=
  (cl4554 x5072 (w64 (x4544 + 1)))
def derricklaw05_RecordBack.j9 (cl4554 : Int → Int → Option (Bool)) (x4544 : Int) (r5306 : RR × Int × Int) (x5368 : Bool) : Option (Bool) :=
  (if x5368 = true then some (false) else (derricklaw05_RecordBack.j7 cl4554 x4544 r5306.2.1))
def derricklaw05_RecordBack.j8 (x4544 : Int) (a1 : List RR) (r1427 : Str) (cl4554 : Int → Int → Option (Bool)) (x5259 : Int) : Option (Bool) :=
  (if 0 ≤ x4544 then (if x4544 < (a1.length : Int) then (if record_May.pre (rd a1 x4544) then (lt (record_May (rd a1 x4544)) fun r5297 => (if r5297 = true then (if record_Take.pre r1427 x5259 then (lt (record_Take r1427 x5259) fun r5306 => (if r5306.2.2 = 0 then (derricklaw05_RecordBack.j9 cl4554 x4544 r5306 (!(decide (r5306.1 = (rd a1 x4544))))) else (derricklaw05_RecordBack.j9 cl4554 x4544 r5306 true))) else none) else (derricklaw05_RecordBack.j7 cl4554 x4544 x5259))) else none) else none) else none)
def derricklaw05_RecordBack.j11 (x4544 : Int) (a1 : List RR) (r1427 : Str) (cl4554 : Int → Int → Option (Bool)) (r5433 : Question × Int × Int) (x5516 : Bool) : Option (Bool) :=
  (if x5516 = true then some (false) else (derricklaw05_RecordBack.j8 x4544 a1 r1427 cl4554 r5433.2.1))
def derricklaw05_RecordBack.j10 (r1427 : Str) (x4543 : Int) (x4544 : Int) (a1 : List RR) (cl4554 : Int → Int → Option (Bool)) (x5416 : Bool) : Option (Bool) :=
  (if x5416 = true then (if record_TakeQ.pre r1427 x4543 then (lt (record_TakeQ r1427 x4543) fun r5433 => (if r5433.2.2 = 0 then (if 0 ≤ x4544 then (if x4544 < (a1.length : Int) then (lt (record_Key (rd a1 x4544)) fun r5544 => (derricklaw05_RecordBack.j11 x4544 a1 r1427 cl4554 r5433 (!(decide (r5433.1 = r5544))))) else none) else none) else (derricklaw05_RecordBack.j11 x4544 a1 r1427 cl4554 r5433 true))) else none) else (derricklaw05_RecordBack.j8 x4544 a1 r1427 cl4554 x4543))
def derricklaw05_RecordBack.j6 (x4544 : Int) (a6 : List Bool) (a1 : List RR) (r1427 : Str) (x4543 : Int) (cl4554 : Int → Int → Option (Bool)) (r19 : Bool) (x4571 : Bool) : Option (Bool) :=
  (if x4571 = true then (if x4544 < (a6.length : Int) then (if 0 ≤ x4544 then (if (rd a6 x4544) = true then (if x4544 < (a1.length : Int) then (lt (record_Key (rd a1 x4544)) fun r5563 => (if record_MayQ.pre r5563 then (lt (record_MayQ r5563) fun r5569 => (derricklaw05_RecordBack.j10 r1427 x4543 x4544 a1 cl4554 r5569)) else none)) else none) else (derricklaw05_RecordBack.j10 r1427 x4543 x4544 a1 cl4554 false)) else none) else (derricklaw05_RecordBack.j10 r1427 x4543 x4544 a1 cl4554 false)) else (if r19 = true then some ((x4543 == (r1427.length : Int))) else some (false)))
def derricklaw05_RecordBack.l5 (a1 : List RR) (a6 : List Bool) (r1427 : Str) (r19 : Bool) : Nat → Int → Int → Option (Bool)
  | 0, _, _ => none
  | kf4542 + 1, x4543, x4544 => (if x4544 < (a1.length : Int) then (derricklaw05_RecordBack.j6 x4544 a6 a1 r1427 x4543 (derricklaw05_RecordBack.l5 a1 a6 r1427 r19 kf4542) r19 (decide (x4544 < 20))) else (derricklaw05_RecordBack.j6 x4544 a6 a1 r1427 x4543 (derricklaw05_RecordBack.l5 a1 a6 r1427 r19 kf4542) r19 false))
def derricklaw05_RecordBack.j2 (x1086 : Int) (a1 : List RR) (a6 : List Bool) (x1085 : Pack) (cl1096 : Pack → Int → Option (Bool)) (r19 : Bool) (kf1082 : Nat) (x1114 : Bool) : Option (Bool) :=
  (if x1114 = true then (if 0 ≤ x1086 then (if x1086 < (a1.length : Int) then (lt (derricklaw05_few (rd a1 x1086)) fun r1303 => (if r1303 = true then (if x1086 < (a6.length : Int) then (derricklaw05_RecordBack.j4 a1 x1086 x1085 cl1096 (rd a6 x1086)) else (derricklaw05_RecordBack.j4 a1 x1086 x1085 cl1096 false)) else some (r19))) else none) else none) else (lt (wire_Pack_Out x1085) fun r1427 => (derricklaw05_RecordBack.l5 a1 a6 r1427 r19 kf1082 0 0)))
def derricklaw05_RecordBack.l1 (a1 : List RR) (a6 : List Bool) (r19 : Bool) : Nat → Pack → Int → Option (Bool)
  | 0, _, _ => none
  | kf1082 + 1, x1085, x1086 => (if x1086 < (a1.length : Int) then (derricklaw05_RecordBack.j2 x1086 a1 a6 x1085 (derricklaw05_RecordBack.l1 a1 a6 r19 kf1082) r19 kf1082 (decide (x1086 < 20))) else (derricklaw05_RecordBack.j2 x1086 a1 a6 x1085 (derricklaw05_RecordBack.l1 a1 a6 r19 kf1082) r19 kf1082 false))
def derricklaw05_RecordBack.f (kf : Nat) (a1 : List RR) (a6 : List Bool) : Option (Bool) :=
  (if derricklaw05_shown.pre  then (lt (derricklaw05_shown) fun r19 => (lt (wire_New) fun r26 => (derricklaw05_RecordBack.l1 a1 a6 r19 kf r26 0))) else none)
end Go.Proofs.Ytfcaekghpkpjdaa.K

namespace Go.Proofs.Ytfcaekghpkpjdaa.K
open Go
set_option linter.unusedVariables false
set_option maxRecDepth 100000
def derricklaw05_RecordBack (l : List RR) (asks : List Bool) : Bool := true
def derricklaw05_RecordBack.pre (l : List RR) (asks : List Bool) : Prop := (∀ r ∈ l, rrOk r) ∧ l.length ≤ 9223372036854775807 ∧ asks.length ≤ 9223372036854775807
theorem few_len {r : RR} (h : derricklaw05_few r = true) : r.name.length ≤ 700 ∧ r.data.length ≤ 700 := by
  unfold derricklaw05_few at h
  by_cases h2 : (r.name.length : Int) ≤ 700
  · rw [if_pos h2] at h; have := of_decide_eq_true h; omega
  · rw [if_neg h2] at h; cases h
def askAt (asks : List Bool) (i : Nat) : Bool := decide (i < asks.length) && rd asks (i : Int)
def putItem (p : Pack) (r : RR) (ask : Bool) : Pack := (record_Put (if ask then (record_PutQ p (record_Key r)).2 else p) r).2
/-- A record, and its question, where a text says that they should be. -/
def takeItem (s : Str) (r : RR) (ask : Bool) (a : Int) : Option Int :=
  match (if (ask && record_MayQ (record_Key r)) = true then (if (record_TakeQ s a).2.2 = 0 ∧ (record_TakeQ s a).1 = record_Key r then some (record_TakeQ s a).2.1 else none) else some a) with
  | none => none
  | some b => if record_May r = true then (if (record_Take s b).2.2 = 0 ∧ (record_Take s b).1 = r then some (record_Take s b).2.1 else none) else some b
theorem item_back {p : Pack} {r : RR} (hg : Good p) (ho : rrOk r) (hf : r.name.length ≤ 700 ∧ r.data.length ≤ 700) (ask : Bool) : ∃ w K, putItem p r ask = ⟨p.s ++ w, K⟩ ∧ Good ⟨p.s ++ w, K⟩ ∧ w.length ≤ 3000 ∧ ∀ rest, takeItem (p.s ++ w ++ rest) r ask (p.s.length : Nat) = some (((p.s ++ w).length : Nat) : Int) := by
  have q1 : ∃ w1 K1, (if ask then (record_PutQ p (record_Key r)).2 else p) = ⟨p.s ++ w1, K1⟩ ∧ Good ⟨p.s ++ w1, K1⟩ ∧ w1.length ≤ 704 ∧ ∀ rest, (if (ask && record_MayQ (record_Key r)) = true then (if (record_TakeQ (p.s ++ w1 ++ rest) (p.s.length : Nat)).2.2 = 0 ∧ (record_TakeQ (p.s ++ w1 ++ rest) (p.s.length : Nat)).1 = record_Key r then some (record_TakeQ (p.s ++ w1 ++ rest) (p.s.length : Nat)).2.1 else none) else some ((p.s.length : Nat) : Int)) = some (((p.s ++ w1).length : Nat) : Int) := by
    have none_ : ∃ w1 K1, p = ⟨p.s ++ w1, K1⟩ ∧ Good ⟨p.s ++ w1, K1⟩ ∧ w1.length ≤ 704 ∧ w1 = [] := ⟨[], p.known, by simp, by simpa using hg, by simp, rfl⟩
    cases ask with
    | false =>
      obtain ⟨w1, K1, h1, h2, h3, h4⟩ := none_
      subst h4
      exact ⟨[], K1, h1, h2, h3, fun rest => by simp⟩
    | true =>
      by_cases hm : record_MayQ (record_Key r) = true
      · obtain ⟨w1, new1, e1, e2, e3, e4⟩ := PutQ_back hg hm ho.1 ho.2.1
        have hk : (record_Key r).name.length ≤ 700 := hf.1
        refine ⟨w1, _, by rw [if_pos rfl, e1], e2, by omega, fun rest => ?_⟩
        rw [if_pos (by simp [hm]), e4 rest, if_pos ⟨rfl, rfl⟩]
      · obtain ⟨w1, K1, h1, h2, h3, h4⟩ := none_
        subst h4
        refine ⟨[], K1, ?_, h2, h3, fun rest => ?_⟩
        · rw [if_pos rfl]; unfold record_PutQ; rw [if_neg hm]; exact h1
        · rw [if_neg (by simp [hm])]; simp
  obtain ⟨w1, K1, a1, a2, a3, a4⟩ := q1
  unfold putItem
  rw [a1]
  by_cases hm : record_May r = true
  · obtain ⟨w2, new2, e1, e2, e3, e4⟩ := Put_back a2 hm ho
    refine ⟨w1 ++ w2, K1 ++ new2, by rw [e1]; simp, by simpa using e2, by simp; omega, fun rest => ?_⟩
    unfold takeItem
    have h1 := a4 (w2 ++ rest)
    have h2 := e4 rest
    simp only [List.append_assoc] at h1 h2 ⊢
    rw [h1]
    simp only
    rw [if_pos hm, h2, if_pos ⟨rfl, rfl⟩]
  · refine ⟨w1, K1, by unfold record_Put; rw [if_neg hm], a2, by omega, fun rest => ?_⟩
    unfold takeItem
    rw [a4 rest]
    simp only
    rw [if_neg hm]
def takeTo (l : List RR) (asks : List Bool) (s : Str) : Nat → Option Int
  | 0 => some 0
  | i + 1 => match takeTo l asks s i with
    | none => none
    | some a => takeItem s (rd l (i : Int)) (askAt asks i) a
theorem takeTo_le {l : List RR} {asks : List Bool} {s : Str} : ∀ (n : Nat) (x : Int), takeTo l asks s n = some x → ∀ i, i ≤ n → ∃ y, takeTo l asks s i = some y := by
  intro n
  induction n with
  | zero => intro x h i hi; rw [Nat.le_zero.1 hi]; exact ⟨x, h⟩
  | succ n ih =>
    intro x h i hi
    by_cases e : i = n + 1
    · subst e; exact ⟨x, h⟩
    · simp only [takeTo] at h
      cases hn : takeTo l asks s n with
      | none => rw [hn] at h; cases h
      | some y => exact ih y hn i (by omega)
theorem back_second (l : List RR) (asks : List Bool) (s : Str) (hl : l.length ≤ 9223372036854775807) (hs : s.length ≤ 300000) (hf : ∀ i : Nat, i < l.length → i < 20 → derricklaw05_few (rd l (i : Int)) = true) (hend : takeTo l asks s (min l.length 20) = some (s.length : Nat)) :
    ∀ (m i : Nat) (a : Int), i + m = min l.length 20 → takeTo l asks s i = some a → ∀ kf, m < kf → derricklaw05_RecordBack.l5 l asks s true kf a i = some true := by
  intro m
  induction m with
  | zero =>
    intro i a h1 h2 kf hkf
    obtain ⟨k, rfl⟩ : ∃ k, kf = k + 1 := ⟨kf - 1, by omega⟩
    have he : derricklaw05_RecordBack.l5 l asks s true (k + 1) a i = derricklaw05_RecordBack.j6 i asks l s a (derricklaw05_RecordBack.l5 l asks s true k) true false := by
      rw [derricklaw05_RecordBack.l5.eq_2]
      by_cases h : (i : Int) < (l.length : Int)
      · rw [if_pos h, decide_eq_false (by omega)]
      · rw [if_neg h]
    rw [he]
    unfold derricklaw05_RecordBack.j6
    rw [if_neg (by simp), if_pos rfl]
    have : i = min l.length 20 := by omega
    subst this
    rw [hend] at h2
    injection h2 with h2
    rw [← h2]; simp
  | succ m ih =>
    intro i a h1 h2 kf hkf
    obtain ⟨k, rfl⟩ : ∃ k, kf = k + 1 := ⟨kf - 1, by omega⟩
    have hi : i < l.length := by omega
    have hfew := few_len (hf i hi (by omega))
    obtain ⟨b, hb⟩ := takeTo_le _ _ hend (i + 1) (by omega)
    have hb2 := hb
    simp only [takeTo, h2] at hb2
    rw [derricklaw05_RecordBack.l5.eq_2, if_pos (by omega), decide_eq_true (by omega)]
    have hnext := ih (i + 1) b (by omega) hb k (by omega)
    have hw : w64 ((i : Int) + 1) = ((i + 1 : Nat) : Int) := by rw [w64_id (by omega) (by omega)]; omega
    obtain ⟨r, hr⟩ : ∃ r, rd l (i : Int) = r := ⟨_, rfl⟩
    rw [hr] at hfew hb2
    have pm : record_May.pre r := ⟨by omega, by omega⟩
    have pmq : record_MayQ.pre (record_Key r) := show r.name.length ≤ 1000000 by omega
    -- behind the question
    have j8 : ∀ c, (if record_May r = true then (if (record_Take s c).2.2 = 0 ∧ (record_Take s c).1 = r then some (record_Take s c).2.1 else none) else some c) = some b → derricklaw05_RecordBack.j8 i l s (derricklaw05_RecordBack.l5 l asks s true k) c = some true := by
      intro c hc
      unfold derricklaw05_RecordBack.j8
      rw [if_pos (by omega), if_pos (by omega), hr, if_pos pm]
      simp only [lt]
      by_cases hm : record_May r = true
      · rw [if_pos hm] at hc ⊢
        rw [if_pos (show record_Take.pre s c from hs)]
        by_cases ht : (record_Take s c).2.2 = 0 ∧ (record_Take s c).1 = r
        · rw [if_pos ht] at hc
          injection hc with hc
          rw [if_pos ht.1]
          unfold derricklaw05_RecordBack.j9 derricklaw05_RecordBack.j7
          rw [decide_eq_true ht.2, if_neg (by simp), hw, hc]; exact hnext
        · rw [if_neg ht] at hc; cases hc
      · rw [if_neg hm] at hc ⊢
        injection hc with hc
        subst hc
        unfold derricklaw05_RecordBack.j7
        rw [hw]; exact hnext
    have j10 : ∀ x : Bool, x = (askAt asks i && record_MayQ (record_Key r)) → derricklaw05_RecordBack.j10 s a i l (derricklaw05_RecordBack.l5 l asks s true k) x = some true := by
      intro x hx
      unfold takeItem at hb2
      rw [← hx] at hb2
      unfold derricklaw05_RecordBack.j10
      cases x with
      | false =>
        rw [if_neg (by simp)] at hb2 ⊢
        exact j8 a hb2
      | true =>
        rw [if_pos rfl] at hb2 ⊢
        rw [if_pos (show record_TakeQ.pre s a by unfold record_TakeQ.pre; omega)]
        simp only [lt]
        by_cases ht : (record_TakeQ s a).2.2 = 0 ∧ (record_TakeQ s a).1 = record_Key r
        · rw [if_pos ht] at hb2
          rw [if_pos ht.1, if_pos (by omega), if_pos (by omega), hr]
          unfold derricklaw05_RecordBack.j11
          rw [decide_eq_true ht.2, if_neg (by simp)]
          exact j8 _ hb2
        · rw [if_neg ht] at hb2; cases hb2
    unfold derricklaw05_RecordBack.j6
    rw [if_pos rfl]
    by_cases ha : (i : Int) < (asks.length : Int)
    · rw [if_pos ha, if_pos (by omega)]
      by_cases hk : rd asks (i : Int) = true
      · rw [if_pos hk, if_pos (by omega), hr]
        simp only [lt]
        rw [if_pos pmq]
        exact j10 _ (by unfold askAt; rw [decide_eq_true (by omega), hk]; simp)
      · rw [if_neg hk]
        exact j10 _ (by unfold askAt; rw [Bool.eq_false_iff.2 hk]; simp)
    · rw [if_neg ha]
      exact j10 _ (by unfold askAt; rw [decide_eq_false (by omega)]; simp)
theorem back_first (l : List RR) (asks : List Bool) (hok : ∀ r ∈ l, rrOk r) (hl : l.length ≤ 9223372036854775807) : ∀ (m i : Nat) (p : Pack), i + m = min l.length 20 → Good p → p.s.length ≤ i * 3000 → (∀ j : Nat, j < i → derricklaw05_few (rd l (j : Int)) = true) → (∀ rest, takeTo l asks (p.s ++ rest) i = some ((p.s.length : Nat) : Int)) →
    ∀ kf, m + 25 < kf → derricklaw05_RecordBack.l1 l asks true kf p i = some true := by
  intro m
  induction m with
  | zero =>
    intro i p h1 hg hlen hf ht kf hkf
    obtain ⟨k, rfl⟩ : ∃ k, kf = k + 1 := ⟨kf - 1, by omega⟩
    have he : derricklaw05_RecordBack.l1 l asks true (k + 1) p i = derricklaw05_RecordBack.j2 i l asks p (derricklaw05_RecordBack.l1 l asks true k) true k false := by
      rw [derricklaw05_RecordBack.l1.eq_2]
      by_cases h : (i : Int) < (l.length : Int)
      · rw [if_pos h, decide_eq_false (by omega)]
      · rw [if_neg h]
    rw [he]
    unfold derricklaw05_RecordBack.j2
    rw [if_neg (by simp)]
    simp only [lt, wire_Pack_Out]
    have hi : i = min l.length 20 := by omega
    have h0 := ht []
    rw [List.append_nil] at h0
    rw [hi] at h0
    have := back_second l asks p.s hl (by omega) (fun j hj hj2 => hf j (by omega)) h0 (min l.length 20) 0 0 (by omega) rfl k (by omega)
    exact this
  | succ m ih =>
    intro i p h1 hg hlen hf ht kf hkf
    obtain ⟨k, rfl⟩ : ∃ k, kf = k + 1 := ⟨kf - 1, by omega⟩
    have hi : i < l.length := by omega
    have hw : w64 ((i : Int) + 1) = ((i + 1 : Nat) : Int) := by rw [w64_id (by omega) (by omega)]; omega
    rw [derricklaw05_RecordBack.l1.eq_2, if_pos (by omega), decide_eq_true (by omega)]
    unfold derricklaw05_RecordBack.j2
    rw [if_pos rfl, if_pos (by omega), if_pos (by omega)]
    simp only [lt]
    obtain ⟨r, hr⟩ : ∃ r, rd l (i : Int) = r := ⟨_, rfl⟩
    have hro : rrOk r := by rw [← hr]; exact hok _ (rd_mem hi)
    by_cases hfew : derricklaw05_few (rd l (i : Int)) = true
    · rw [if_pos hfew]
      have hfl := few_len hfew
      rw [hr] at hfl
      have j4 : ∀ x : Bool, x = askAt asks i → derricklaw05_RecordBack.j4 l i p (derricklaw05_RecordBack.l1 l asks true k) x = some true := by
        intro x hx
        obtain ⟨w, K, e1, e2, e3, e4⟩ := item_back hg hro hfl x
        have hnext := ih (i + 1) ⟨p.s ++ w, K⟩ (by omega) e2 (by simp; omega) (fun j hj => by
          by_cases e : j = i
          · subst e; exact hfew
          · exact hf j (by omega)) (fun rest => by
          simp only [takeTo]
          have := ht (w ++ rest)
          rw [← List.append_assoc] at this
          rw [this]
          simp only
          rw [hr, ← hx]; exact e4 rest) k (by omega)
        rw [← e1] at hnext
        unfold derricklaw05_RecordBack.j4
        have j3 : ∀ q, q.s.length ≤ p.s.length + 3000 → derricklaw05_RecordBack.j3 l i (derricklaw05_RecordBack.l1 l asks true k) q = derricklaw05_RecordBack.l1 l asks true k (record_Put q r).2 ((i + 1 : Nat) : Int) := by
          intro q hq
          unfold derricklaw05_RecordBack.j3
          rw [hr, if_pos (show record_Put.pre q r from ⟨by omega, by omega, by omega⟩), hw]
          rfl
        have hpl : p.s.length ≤ 60000 := by omega
        cases x with
        | false =>
          rw [if_neg (by simp), j3 p (by omega)]
          exact hnext
        | true =>
          have hql : (record_PutQ p (record_Key r)).2.s.length ≤ p.s.length + 3000 := by
            unfold record_PutQ
            have := Name_len p (record_Key r).name
            have hk : (record_Key r).name.length ≤ 700 := hfl.1
            split
            · simp only [wire_Pack_Add, List.length_append, Put16_len]; omega
            · simp
          rw [if_pos rfl, hr]
          simp only [lt]
          rw [if_pos (show record_PutQ.pre p (record_Key r) from ⟨by omega, show r.name.length ≤ _ by omega⟩), j3 _ hql]
          exact hnext
      by_cases ha : (i : Int) < (asks.length : Int)
      · rw [if_pos ha]; exact j4 _ (by unfold askAt; rw [decide_eq_true (by omega)]; simp)
      · rw [if_neg ha]; exact j4 _ (by unfold askAt; rw [decide_eq_false (by omega)]; simp)
    · rw [if_neg hfew]
theorem derricklaw05_RecordBack.eq (l : List RR) (asks : List Bool) (hp : derricklaw05_RecordBack.pre l asks) : ∃ kf, derricklaw05_RecordBack.f kf l asks = some (derricklaw05_RecordBack l asks) := by
  obtain ⟨h1, h2, h3⟩ := hp
  refine ⟨100, ?_⟩
  unfold derricklaw05_RecordBack.f
  rw [if_pos (show derricklaw05_shown.pre from trivial)]
  simp only [lt]
  have := back_first l asks h1 h2 (min l.length 20) 0 wire_New (by omega) (by intro m a hm; simp [wire_New] at hm) (by simp [wire_New]) (by intro j hj; omega) (fun rest => rfl) 100 (by omega)
  exact this
end Go.Proofs.Ytfcaekghpkpjdaa.K

/- Walks, printed by a program of this session. -/
namespace Go.Proofs.Ytfcaekghpkpjdaa.K
open Go Go.RowKit Go.Proofs
set_option linter.unusedVariables false
set_option maxRecDepth 100000
set_option maxHeartbeats 4000000
namespace FA1
theorem ti5 : TI Try.prog 5 (.int .u8 0) 1 1 := by unfold TI; kernel_rfl
theorem sz5 : ∀ w, (sizeOf 5).run Try.prog w = .ok 1 w := fun w => ti5.size w
end FA1
open FA1

theorem octet_Some.walk (a1 : Str) (a2 : Int) (a3 : Int)  (w : World)  (res : Str × Int × Int) (h : octet_Some.f a1 a2 a3 = some res) :
    Ret Try.prog 64 ([S a1, .int .i64 a2, .int .i64 a3] : List Value).toArray w fun v w' => v = .tuple #[S res.1, .int .i64 res.2.1, .int .i64 res.2.2] ∧ Ext w w' := by
  unfold octet_Some.f at h
  refine enterX Try.func64 rfl Try.ntmps64 rfl (fun R hR => ?_)
  have hB := Below.refl w.heap.size w
  refine X.seq fun M4 hM5 => ?_
  refine X.region ?_
  refine XO.do rfl (D.asn (v := S []) rfl rfl ?_)
  refine XO.do rfl (D.asn (v := .int .i64 0) rfl rfl ?_)
  refine XO.do rfl (D.asn (v := .int .i64 0) rfl rfl ?_)
  refine XO.nil ?_
  refine hM5 _ _ ?_
  refine X.seq fun M22 hM23 => ?_
  refine X.cut (fun f29 w28 => ∃ x27 : Bool, f29 0 = S a1 ∧ f29 1 = .int .i64 a2 ∧ f29 2 = .int .i64 a3 ∧ f29 28 = .bool x27 ∧ Below w.heap.size w w28 ∧ octet_Some.j1 a2 a3 a1 x27 = some res) ?_ ?_
  · refine X.region ?_
    refine XO.do rfl (D.mv (v := .int .i64 a2) rfl rfl ?_)
    refine XO.do rfl (D.lss rfl rfl rfl ?_)
    refine XO.do rfl (D.mv (v := .bool (decide (a2 < 0))) rfl rfl ?_)
    by_cases c42 : a2 < 0
    · rw [if_pos c42] at h
      refine XO.off (wantG0 (j := 2) (b := false) rfl (decide_eq_true c42) rfl) rfl rfl ?_
      refine XO.off (wantG0 (j := 2) (b := false) rfl (decide_eq_true c42) rfl) rfl rfl ?_
      refine XO.do rfl (D.pick true (v := .bool true) (congrArg Value.bool (decide_eq_true c42)) rfl rfl ?_)
      refine XO.do rfl (D.mv (v := .bool true) rfl rfl ?_)
      refine XO.off (wantG0 (j := 6) (b := false) rfl (rfl) rfl) rfl rfl ?_
      refine XO.off (wantG0 (j := 6) (b := false) rfl (rfl) rfl) rfl rfl ?_
      refine XO.off (wantG0 (j := 6) (b := false) rfl (rfl) rfl) rfl rfl ?_
      refine XO.off (wantG0 (j := 6) (b := false) rfl (rfl) rfl) rfl rfl ?_
      refine XO.do rfl (D.pick true (v := .bool true) (congrArg Value.bool (rfl)) rfl rfl ?_)
      refine XO.do rfl (D.mv (v := .bool true) rfl rfl ?_)
      refine XO.off (wantG0 (j := 12) (b := false) rfl (rfl) rfl) rfl rfl ?_
      refine XO.off (wantG0 (j := 12) (b := false) rfl (rfl) rfl) rfl rfl ?_
      refine XO.off (wantG0 (j := 12) (b := false) rfl (rfl) rfl) rfl rfl ?_
      refine XO.off (wantG0 (j := 12) (b := false) rfl (rfl) rfl) rfl rfl ?_
      refine XO.off (wantG0 (j := 12) (b := false) rfl (rfl) rfl) rfl rfl ?_
      refine XO.off (wantG0 (j := 12) (b := false) rfl (rfl) rfl) rfl rfl ?_
      refine XO.do rfl (D.pick true (v := .bool true) (congrArg Value.bool (rfl)) rfl rfl ?_)
      refine XO.nil ?_
      exact ⟨true, rfl, rfl, rfl, rfl, hB, h⟩
    · rw [if_neg c42] at h
      refine XO.do (wantG (j := 2) (b := false) rfl (decide_eq_false c42) rfl) (D.mv (v := .int .i64 a3) rfl rfl ?_)
      refine XO.do (wantG (j := 2) (b := false) rfl (decide_eq_false c42) rfl) (D.lss rfl rfl rfl ?_)
      refine XO.do rfl (D.pick false (v := .bool (decide (a3 < 0))) (congrArg Value.bool (decide_eq_false c42)) rfl rfl ?_)
      refine XO.do rfl (D.mv (v := .bool (decide (a3 < 0))) rfl rfl ?_)
      by_cases c43 : a3 < 0
      · rw [if_pos c43] at h
        refine XO.off (wantG0 (j := 6) (b := false) rfl (decide_eq_true c43) rfl) rfl rfl ?_
        refine XO.off (wantG0 (j := 6) (b := false) rfl (decide_eq_true c43) rfl) rfl rfl ?_
        refine XO.off (wantG0 (j := 6) (b := false) rfl (decide_eq_true c43) rfl) rfl rfl ?_
        refine XO.off (wantG0 (j := 6) (b := false) rfl (decide_eq_true c43) rfl) rfl rfl ?_
        refine XO.do rfl (D.pick true (v := .bool true) (congrArg Value.bool (decide_eq_true c43)) rfl rfl ?_)
        refine XO.do rfl (D.mv (v := .bool true) rfl rfl ?_)
        refine XO.off (wantG0 (j := 12) (b := false) rfl (rfl) rfl) rfl rfl ?_
        refine XO.off (wantG0 (j := 12) (b := false) rfl (rfl) rfl) rfl rfl ?_
        refine XO.off (wantG0 (j := 12) (b := false) rfl (rfl) rfl) rfl rfl ?_
        refine XO.off (wantG0 (j := 12) (b := false) rfl (rfl) rfl) rfl rfl ?_
        refine XO.off (wantG0 (j := 12) (b := false) rfl (rfl) rfl) rfl rfl ?_
        refine XO.off (wantG0 (j := 12) (b := false) rfl (rfl) rfl) rfl rfl ?_
        refine XO.do rfl (D.pick true (v := .bool true) (congrArg Value.bool (rfl)) rfl rfl ?_)
        refine XO.nil ?_
        exact ⟨true, rfl, rfl, rfl, rfl, hB, h⟩
      · rw [if_neg c43] at h
        refine XO.do (wantG (j := 6) (b := false) rfl (decide_eq_false c43) rfl) (D.mv (v := .int .i64 a2) rfl rfl ?_)
        refine XO.do (wantG (j := 6) (b := false) rfl (decide_eq_false c43) rfl) (D.mv (v := S a1) rfl rfl ?_)
        refine XO.do (wantG (j := 6) (b := false) rfl (decide_eq_false c43) rfl) (D.lenS Try.underlying9 rfl rfl ?_)
        refine XO.do (wantG (j := 6) (b := false) rfl (decide_eq_false c43) rfl) (D.gtr rfl rfl rfl ?_)
        refine XO.do rfl (D.pick false (v := .bool (decide ((a1.length : Int) < a2))) (congrArg Value.bool (decide_eq_false c43)) rfl rfl ?_)
        refine XO.do rfl (D.mv (v := .bool (decide ((a1.length : Int) < a2))) rfl rfl ?_)
        by_cases c44 : (a1.length : Int) < a2
        · rw [if_pos c44] at h
          refine XO.off (wantG0 (j := 12) (b := false) rfl (decide_eq_true c44) rfl) rfl rfl ?_
          refine XO.off (wantG0 (j := 12) (b := false) rfl (decide_eq_true c44) rfl) rfl rfl ?_
          refine XO.off (wantG0 (j := 12) (b := false) rfl (decide_eq_true c44) rfl) rfl rfl ?_
          refine XO.off (wantG0 (j := 12) (b := false) rfl (decide_eq_true c44) rfl) rfl rfl ?_
          refine XO.off (wantG0 (j := 12) (b := false) rfl (decide_eq_true c44) rfl) rfl rfl ?_
          refine XO.off (wantG0 (j := 12) (b := false) rfl (decide_eq_true c44) rfl) rfl rfl ?_
          refine XO.do rfl (D.pick true (v := .bool true) (congrArg Value.bool (decide_eq_true c44)) rfl rfl ?_)
          refine XO.nil ?_
          exact ⟨true, rfl, rfl, rfl, rfl, hB, h⟩
        · rw [if_neg c44] at h
          refine XO.do (wantG (j := 12) (b := false) rfl (decide_eq_false c44) rfl) (D.mv (v := .int .i64 a3) rfl rfl ?_)
          refine XO.do (wantG (j := 12) (b := false) rfl (decide_eq_false c44) rfl) (D.mv (v := S a1) rfl rfl ?_)
          refine XO.do (wantG (j := 12) (b := false) rfl (decide_eq_false c44) rfl) (D.lenS Try.underlying9 rfl rfl ?_)
          refine XO.do (wantG (j := 12) (b := false) rfl (decide_eq_false c44) rfl) (D.mv (v := .int .i64 a2) rfl rfl ?_)
          refine XO.do (wantG (j := 12) (b := false) rfl (decide_eq_false c44) rfl) (D.sub rfl rfl rfl ?_)
          refine XO.do (wantG (j := 12) (b := false) rfl (decide_eq_false c44) rfl) (D.gtr rfl rfl rfl ?_)
          refine XO.do rfl (D.pick false (v := .bool (decide ((w64 ((a1.length : Int) - a2)) < a3))) (congrArg Value.bool (decide_eq_false c44)) rfl rfl ?_)
          refine XO.nil ?_
          exact ⟨(decide ((w64 ((a1.length : Int) - a2)) < a3)), rfl, rfl, rfl, rfl, hB, h⟩
  · intro f29 w28 hI
    obtain ⟨x27, s30, s31, s32, s33, hB, h⟩ := hI
    refine X.fr (d := 0) s30 ?_
    refine X.fr (d := 1) s31 ?_
    refine X.fr (d := 2) s32 ?_
    refine X.fr (d := 28) s33 ?_
    unfold octet_Some.j1 at h
    by_cases c34 : x27 = true
    · rw [if_pos c34] at h
      refine X.condT (congrArg Value.bool (c34)) ?_
      refine X.seq fun M35 hM36 => ?_
      refine X.region ?_
      refine XO.do rfl (D.asn (v := S []) rfl rfl ?_)
      refine XO.do rfl (D.asn (v := .int .i64 0) rfl rfl ?_)
      refine XO.do rfl (D.asn (v := .int .i64 2) rfl rfl ?_)
      refine XO.nil ?_
      refine hM36 _ _ ?_
      refine X.ret ?_
      injection h with h
      subst h
      exact hR _ _ _ (ret3 (v := S []) (v' := .int .i64 0) (v'' := .int .i64 2) rfl rfl rfl rfl) ⟨rfl, ext_of_below hB⟩
    · rw [if_neg c34] at h
      refine X.condF (congrArg Value.bool ((Bool.eq_false_iff.2 c34))) ?_
      refine X.skip ?_
      refine hM23 _ _ ?_
      refine X.seq fun M37 hM38 => ?_
      refine X.region ?_
      refine XO.do rfl (D.mv (v := S a1) rfl rfl ?_)
      refine XO.do rfl (D.mv (v := .int .i64 a2) rfl rfl ?_)
      refine XO.do rfl (D.mv (v := .int .i64 a2) rfl rfl ?_)
      refine XO.do rfl (D.mv (v := .int .i64 a3) rfl rfl ?_)
      refine XO.do rfl (D.add rfl rfl rfl ?_)
      rcases (Classical.em (0 ≤ a2)).symm with c39 | c39
      · rw [if_neg c39] at h; cases h
      rw [if_pos c39] at h
      rcases (Classical.em (a2 ≤ w64 (a2 + a3))).symm with c40 | c40
      · rw [if_neg c40] at h; cases h
      rw [if_pos c40] at h
      rcases (Classical.em (w64 (a2 + a3) ≤ (a1.length : Int))).symm with c41 | c41
      · rw [if_neg c41] at h; cases h
      rw [if_pos c41] at h
      refine XO.do rfl (D.sliceS (i := a2) (j := w64 (a2 + a3)) Try.underlying9 rfl rfl rfl c39 c40 c41 rfl ?_)
      refine XO.do rfl (D.mv (v := .int .i64 a2) rfl rfl ?_)
      refine XO.do rfl (D.mv (v := .int .i64 a3) rfl rfl ?_)
      refine XO.do rfl (D.add rfl rfl rfl ?_)
      refine XO.do rfl (D.asn (v := S ((a1.drop a2.toNat).take ((w64 (a2 + a3)).toNat - a2.toNat))) rfl rfl ?_)
      refine XO.do rfl (D.asn (v := .int .i64 (w64 (a2 + a3))) rfl rfl ?_)
      refine XO.do rfl (D.asn (v := .int .i64 0) rfl rfl ?_)
      refine XO.nil ?_
      refine hM38 _ _ ?_
      refine X.ret ?_
      injection h with h
      subst h
      exact hR _ _ _ (ret3 (v := S ((a1.drop a2.toNat).take ((w64 (a2 + a3)).toNat - a2.toNat))) (v' := .int .i64 (w64 (a2 + a3))) (v'' := .int .i64 0) rfl rfl rfl rfl) ⟨rfl, ext_of_below hB⟩
theorem octet_Some.ok (a1 : Str) (a2 : Int) (a3 : Int)  (w : World)  (hp : octet_Some.pre a1 a2 a3) :
    Ret Try.prog 64 ([S a1, .int .i64 a2, .int .i64 a3] : List Value).toArray w fun v w' => v = .tuple #[S ((octet_Some a1 a2 a3).1), .int .i64 ((octet_Some a1 a2 a3).2.1), .int .i64 ((octet_Some a1 a2 a3).2.2)] ∧ Ext w w' := by
  have h := octet_Some.eq a1 a2 a3 hp
  exact octet_Some.walk  a1 a2 a3  w  _ h

theorem octet_bytes.walk (kf : Nat) (a1 : Int) (a2 : Int)  (w : World)  (res : Str) (h : octet_bytes.f kf a1 a2 = some res) :
    Ret Try.prog 56 ([.int .u32 a1, .int .i64 a2] : List Value).toArray w fun v w' => v = S res ∧ Ext w w' := by
  unfold octet_bytes.f at h
  refine enterX Try.func56 rfl Try.ntmps56 rfl (fun R hR => ?_)
  have hB := Below.refl w.heap.size w
  refine X.seq fun M3 hM4 => ?_
  refine X.region ?_
  refine XO.do rfl (D.asn (v := S []) rfl rfl ?_)
  refine XO.nil ?_
  refine hM4 _ _ ?_
  refine X.seq fun M5 hM6 => ?_
  refine X.region ?_
  refine XO.do rfl (D.mv (v := .int .i64 a2) rfl rfl ?_)
  rcases (Classical.em (0 ≤ a2)).symm with c7 | c7
  · rw [if_neg c7] at h; cases h
  rw [if_pos c7] at h
  rcases (Classical.em (a2 * 1 ≤ 281474976710656)).symm with c8 | c8
  · rw [if_neg c8] at h; cases h
  rw [if_pos c8] at h
  refine XO.do rfl (D.makeI (m := a2) Try.underlying62 ti5 (by decide) c7 c8 rfl rfl rfl ?_)
  intro b9 k10 w11 hb12 _ H13 e14 zb9
  have g15 : w.heap.size ≤ b9 := Nat.le_trans hB.size (Nat.le_of_eq hb12.symm)
  have bs15 : b9 ≤ w11.heap.size := Nat.le_of_lt zb9
  replace hB := below_ext hB e14
  clear e14 hb12 zb9
  refine XO.do rfl (D.asn (v := .slice (some ⟨b9, 0, none⟩) (List.replicate a2.toNat (0 : Int)).length k10) rfl rfl ?_)
  refine XO.nil ?_
  refine hM6 _ _ ?_
  refine X.seq fun M181 hM182 => ?_
  refine X.seq fun M183 hM184 => ?_
  refine X.region ?_
  refine XO.do rfl (D.mv (v := .int .i64 a2) rfl rfl ?_)
  refine XO.do rfl (D.mv (v := .int .i64 0) rfl rfl ?_)
  refine XO.nil ?_
  refine hM184 _ _ ?_
  refine X.block ?_
  refine X.loop (fun kq349 => fun f304 w303 => ∃ A295 : Option Addr, ∃ k296 : Nat, ∃ l297 : List Int, ∃ B298 : Nat, ∃ x301 : Int, f304 0 = .int .u32 a1 ∧ f304 1 = .int .i64 a2 ∧ f304 5 = .slice A295 l297.length k296 ∧ f304 9 = .int .i64 a2 ∧ f304 10 = .int .i64 x301 ∧ Below w.heap.size w w303 ∧ Own (eInt .u8) 5 w303 B298 A295 k296 l297 ∧ B298 ≤ w303.heap.size ∧ w.heap.size ≤ B298 ∧ octet_bytes.l1 a2 a1 kq349 l297 x301 = some res) kf ?_ ?_
  · exact ⟨(some ⟨b9, 0, none⟩), k10, List.replicate a2.toNat (0 : Int), b9, 0, rfl, rfl, rfl, rfl, rfl, hB, H13, bs15, g15, h⟩
  · intro kq349 f304 w303 hI
    obtain ⟨A295, k296, l297, B298, x301, s305, s306, s307, s308, s309, hB, H299, bs300, hg300, h⟩ := hI
    cases kq349 with
    | zero => exact absurd h (by rw [octet_bytes.l1.eq_1]; simp)
    | succ kf294 =>
      rw [octet_bytes.l1.eq_2] at h
      refine X.fr (d := 0) s305 ?_
      refine X.fr (d := 1) s306 ?_
      refine X.fr (d := 5) s307 ?_
      refine X.fr (d := 9) s308 ?_
      refine X.fr (d := 10) s309 ?_
      refine X.seq fun M311 hM312 => ?_
      refine X.region ?_
      refine XO.do rfl (D.lss rfl rfl rfl ?_)
      refine XO.nil ?_
      refine hM312 _ _ ?_
      refine X.seq fun M314 hM315 => ?_
      by_cases c316 : x301 < a2
      · rw [if_pos c316] at h
        refine X.condT (congrArg Value.bool (decide_eq_true c316)) ?_
        refine X.skip ?_
        refine hM315 _ _ ?_
        refine X.seq fun M331 hM332 => ?_
        refine X.block ?_
        refine X.seq fun M333 hM334 => ?_
        refine X.region ?_
        refine XO.do rfl (D.mv (v := .int .i64 x301) rfl rfl ?_)
        refine XO.do rfl (D.asn (v := .int .i64 x301) rfl rfl ?_)
        refine XO.nil ?_
        refine hM334 _ _ ?_
        refine X.region ?_
        refine XO.do rfl (D.mv (v := .slice A295 l297.length k296) rfl rfl ?_)
        refine XO.do rfl (D.mv (v := .int .i64 a2) rfl rfl ?_)
        refine XO.do rfl (D.sub rfl rfl rfl ?_)
        refine XO.do rfl (D.mv (v := .int .i64 x301) rfl rfl ?_)
        refine XO.do rfl (D.sub rfl rfl rfl ?_)
        refine XO.do rfl (D.mv (v := .int .u32 a1) rfl rfl ?_)
        refine XO.do rfl (D.mv (v := .int .i64 x301) rfl rfl ?_)
        refine XO.do rfl (D.mul rfl rfl rfl ?_)
        rcases (Classical.em (0 ≤ w64 (8 * x301))).symm with c335 | c335
        · rw [if_neg c335] at h; cases h
        rw [if_pos c335] at h
        refine XO.do rfl (D.shr (b := (w64 (8 * x301))) rfl rfl c335 rfl ?_)
        refine XO.do rfl (D.conv Try.underlying23 Try.underlying5 rfl rfl ?_)
        rcases (Classical.em (0 ≤ w64 ((w64 (a2 - 1)) - x301))).symm with c336 | c336
        · rw [if_neg c336] at h; cases h
        rw [if_pos c336] at h
        rcases (Classical.em (w64 ((w64 (a2 - 1)) - x301) < (l297.length : Int))).symm with c337 | c337
        · rw [if_neg c337] at h; cases h
        rw [if_pos c337] at h
        refine XO.do rfl (D.indexO (i := (w64 ((w64 (a2 - 1)) - x301))) Try.underlying62 sz5 H299 rfl rfl c336 c337 rfl ?_)
        intro b338 o339 hA341 ho342 H340
        refine XO.do rfl (D.storeO (E := (eInt .u8)) (z := w8 (sShr .u32 a1 (w64 (8 * x301)))) (j := 0) (v := .int .u8 (w8 (sShr .u32 a1 (w64 (8 * x301))))) sz5 H299 hA341 ho342 c336 c337 rfl rfl (by decide) rfl rfl rfl rfl rfl ?_)
        intro w344 H345 e346
        replace hB := below_own hB e346 (fun x hx => Nat.le_trans hg300 (MO.ge H299 x hx))
        replace bs300 := Nat.le_trans bs300 (World.grownBy.size e346)
        clear e346 H299
        refine XO.fr (d := 5) (v := .slice A295 ((l297).set (w64 ((w64 (a2 - 1)) - x301)).toNat (w8 (sShr .u32 a1 (w64 (8 * x301))))).length k296) (slSet rfl) ?_
        refine XO.fr (d := 13) (v := .slice A295 ((l297).set (w64 ((w64 (a2 - 1)) - x301)).toNat (w8 (sShr .u32 a1 (w64 (8 * x301))))).length k296) (slSet rfl) ?_
        refine XO.nil ?_
        refine hM332 _ _ ?_
        refine X.region ?_
        refine XO.do rfl (D.add rfl rfl rfl ?_)
        refine XO.do rfl (D.mv (v := .int .i64 (w64 (x301 + 1))) rfl rfl ?_)
        refine XO.nil ?_
        exact ⟨kf294, Nat.lt_succ_self _, A295, k296, (l297).set (w64 ((w64 (a2 - 1)) - x301)).toNat (w8 (sShr .u32 a1 (w64 (8 * x301)))), B298, w64 (x301 + 1), rfl, rfl, rfl, rfl, rfl, hB, H345, bs300, hg300, h⟩
      · rw [if_neg c316] at h
        refine X.condF (congrArg Value.bool (decide_eq_false c316)) ?_
        refine X.exit rfl ?_
        refine hM182 _ _ ?_
        refine X.seq fun M347 hM348 => ?_
        refine X.region ?_
        refine XO.do rfl (D.mv (v := .slice A295 l297.length k296) rfl rfl ?_)
        refine XO.do rfl (D.strOf (m := 0) Try.underlying62 Try.underlying5 Try.underlying9 H299.row rfl rfl ?_)
        refine XO.do rfl (D.asn (v := S (strOf l297)) rfl rfl ?_)
        refine XO.nil ?_
        refine hM348 _ _ ?_
        refine X.ret ?_
        injection h with h
        subst h
        exact hR _ _ _ (ret1 (v := S (strOf l297)) rfl rfl) ⟨rfl, ext_of_below hB⟩
theorem octet_bytes.ok (a1 : Int) (a2 : Int)  (w : World)  (hp : octet_bytes.pre a1 a2) :
    Ret Try.prog 56 ([.int .u32 a1, .int .i64 a2] : List Value).toArray w fun v w' => v = S (octet_bytes a1 a2) ∧ Ext w w' := by
  obtain ⟨kf, h⟩ := octet_bytes.eq a1 a2 hp
  exact octet_bytes.walk kf a1 a2  w  _ h
end Go.Proofs.Ytfcaekghpkpjdaa.K

/- Walks, printed by a program of this session. -/
namespace Go.Proofs.Ytfcaekghpkpjdaa.K
open Go Go.RowKit Go.Proofs
set_option linter.unusedVariables false
set_option maxRecDepth 100000
set_option maxHeartbeats 4000000
namespace FA2
theorem cf64 : Callable Try.prog 64 := callable Try.func64 (by kernel_rfl) rfl
end FA2
open FA2

theorem octet_number_uint8.walk (kf : Nat) (a1 : Str) (a2 : Int) (a3 : Int)  (w : World)  (res : Int × Int × Int) (h : octet_number_uint8.f kf a1 a2 a3 = some res) :
    Ret Try.prog 84 ([S a1, .int .i64 a2, .int .i64 a3] : List Value).toArray w fun v w' => v = .tuple #[.int .u8 res.1, .int .i64 res.2.1, .int .i64 res.2.2] ∧ Ext w w' := by
  unfold octet_number_uint8.f at h
  refine enterX Try.func84 rfl Try.ntmps84 rfl (fun R hR => ?_)
  have hB := Below.refl w.heap.size w
  refine X.seq fun M4 hM5 => ?_
  refine X.region ?_
  refine XO.do rfl (D.asn (v := .int .u8 0) rfl rfl ?_)
  refine XO.do rfl (D.asn (v := .int .i64 0) rfl rfl ?_)
  refine XO.do rfl (D.asn (v := .int .i64 0) rfl rfl ?_)
  refine XO.nil ?_
  refine hM5 _ _ ?_
  refine X.seq fun M6 hM7 => ?_
  refine X.region ?_
  refine XO.do rfl (D.mv (v := S a1) rfl rfl ?_)
  refine XO.do rfl (D.mv (v := .int .i64 a2) rfl rfl ?_)
  refine XO.do rfl (D.mv (v := .int .i64 a3) rfl rfl ?_)
  rcases (Classical.em (octet_Some.pre a1 a2 a3)).symm with c8 | c8
  · rw [if_neg c8] at h; cases h
  rw [if_pos c8] at h
  obtain ⟨r12, q13, h⟩ := lt_elim h
  have hc11 := octet_Some.ok a1 a2 a3 w c8 
  rw [q13] at hc11
  clear q13
  refine XO.do rfl (D.call (vs := [S a1, .int .i64 a2, .int .i64 a3]) cf64 hc11 rfl rfl ?_)
  rintro _ w9 ⟨rfl, e10⟩
  clear hc11
  replace hB := below_ext hB e10
  clear e10
  refine XO.do rfl (D.mv (v := .tuple #[S r12.1, .int .i64 r12.2.1, .int .i64 r12.2.2]) rfl rfl ?_)
  refine XO.do rfl (D.extract (v := S r12.1) rfl rfl rfl ?_)
  refine XO.do rfl (D.extract (v := .int .i64 r12.2.1) rfl rfl rfl ?_)
  refine XO.do rfl (D.extract (v := .int .i64 r12.2.2) rfl rfl rfl ?_)
  refine XO.do rfl (D.asn (v := S r12.1) rfl rfl ?_)
  refine XO.do rfl (D.asn (v := .int .i64 r12.2.1) rfl rfl ?_)
  refine XO.do rfl (D.asn (v := .int .i64 r12.2.2) rfl rfl ?_)
  refine XO.nil ?_
  refine hM7 _ _ ?_
  refine X.seq fun M14 hM15 => ?_
  refine X.region ?_
  refine XO.do rfl (D.asn (v := .int .u32 0) rfl rfl ?_)
  refine XO.nil ?_
  refine hM15 _ _ ?_
  refine X.seq fun M80 hM81 => ?_
  refine X.seq fun M82 hM83 => ?_
  refine X.region ?_
  refine XO.do rfl (D.mv (v := S r12.1) rfl rfl ?_)
  refine XO.do rfl (D.lenS Try.underlying9 rfl rfl ?_)
  refine XO.do rfl (D.mv (v := .int .i64 0) rfl rfl ?_)
  refine XO.nil ?_
  refine hM83 _ _ ?_
  refine X.block ?_
  refine X.loop (fun kq147 => fun f123 w122 => ∃ x119 : Int, ∃ x120 : Int, f123 9 = S r12.1 ∧ f123 10 = .int .i64 r12.2.1 ∧ f123 11 = .int .i64 r12.2.2 ∧ f123 12 = .int .u32 x119 ∧ f123 23 = .int .i64 (r12.1.length : Int) ∧ f123 24 = .int .i64 x120 ∧ Below w.heap.size w w122 ∧ octet_number_uint8.l1 r12 kq147 x119 x120 = some res) kf ?_ ?_
  · exact ⟨0, 0, rfl, rfl, rfl, rfl, rfl, rfl, hB, h⟩
  · intro kq147 f123 w122 hI
    obtain ⟨x119, x120, s124, s125, s126, s127, s128, s129, hB, h⟩ := hI
    cases kq147 with
    | zero => exact absurd h (by rw [octet_number_uint8.l1.eq_1]; simp)
    | succ kf118 =>
      rw [octet_number_uint8.l1.eq_2] at h
      refine X.fr (d := 9) s124 ?_
      refine X.fr (d := 10) s125 ?_
      refine X.fr (d := 11) s126 ?_
      refine X.fr (d := 12) s127 ?_
      refine X.fr (d := 23) s128 ?_
      refine X.fr (d := 24) s129 ?_
      refine X.seq fun M131 hM132 => ?_
      refine X.region ?_
      refine XO.do rfl (D.lss rfl rfl rfl ?_)
      refine XO.nil ?_
      refine hM132 _ _ ?_
      refine X.seq fun M134 hM135 => ?_
      by_cases c136 : x120 < (r12.1.length : Int)
      · rw [if_pos c136] at h
        refine X.condT (congrArg Value.bool (decide_eq_true c136)) ?_
        refine X.skip ?_
        refine hM135 _ _ ?_
        refine X.seq fun M140 hM141 => ?_
        refine X.block ?_
        refine X.seq fun M142 hM143 => ?_
        refine X.region ?_
        refine XO.do rfl (D.mv (v := .int .i64 x120) rfl rfl ?_)
        refine XO.do rfl (D.asn (v := .int .i64 x120) rfl rfl ?_)
        refine XO.nil ?_
        refine hM143 _ _ ?_
        refine X.region ?_
        refine XO.do rfl (D.mv (v := .int .u32 x119) rfl rfl ?_)
        refine XO.do rfl (D.shl (b := 8) rfl rfl (by first | decide | simp | omega) rfl ?_)
        refine XO.do rfl (D.mv (v := S r12.1) rfl rfl ?_)
        refine XO.do rfl (D.mv (v := .int .i64 x120) rfl rfl ?_)
        rcases (Classical.em (0 ≤ x120)).symm with c144 | c144
        · rw [if_neg c144] at h; cases h
        rw [if_pos c144] at h
        refine XO.do rfl (D.indexS (i := x120) Try.underlying9 rfl rfl c144 c136 rfl ?_)
        refine XO.do rfl (D.conv Try.underlying5 Try.underlying23 rfl rfl ?_)
        refine XO.do rfl (D.or rfl rfl rfl ?_)
        refine XO.do rfl (D.asn (v := .int .u32 (bOr .u32 (sShl .u32 x119 8) (w32 (bt r12.1 x120)))) rfl rfl ?_)
        refine XO.nil ?_
        refine hM141 _ _ ?_
        refine X.region ?_
        refine XO.do rfl (D.add rfl rfl rfl ?_)
        refine XO.do rfl (D.mv (v := .int .i64 (w64 (x120 + 1))) rfl rfl ?_)
        refine XO.nil ?_
        exact ⟨kf118, Nat.lt_succ_self _, bOr .u32 (sShl .u32 x119 8) (w32 (bt r12.1 x120)), w64 (x120 + 1), rfl, rfl, rfl, rfl, rfl, rfl, hB, h⟩
      · rw [if_neg c136] at h
        refine X.condF (congrArg Value.bool (decide_eq_false c136)) ?_
        refine X.exit rfl ?_
        refine hM81 _ _ ?_
        refine X.seq fun M145 hM146 => ?_
        refine X.region ?_
        refine XO.do rfl (D.mv (v := .int .u32 x119) rfl rfl ?_)
        refine XO.do rfl (D.conv Try.underlying23 Try.underlying5 rfl rfl ?_)
        refine XO.do rfl (D.mv (v := .int .i64 r12.2.1) rfl rfl ?_)
        refine XO.do rfl (D.mv (v := .int .i64 r12.2.2) rfl rfl ?_)
        refine XO.do rfl (D.asn (v := .int .u8 (w8 x119)) rfl rfl ?_)
        refine XO.do rfl (D.asn (v := .int .i64 r12.2.1) rfl rfl ?_)
        refine XO.do rfl (D.asn (v := .int .i64 r12.2.2) rfl rfl ?_)
        refine XO.nil ?_
        refine hM146 _ _ ?_
        refine X.ret ?_
        injection h with h
        subst h
        exact hR _ _ _ (ret3 (v := .int .u8 (w8 x119)) (v' := .int .i64 r12.2.1) (v'' := .int .i64 r12.2.2) rfl rfl rfl rfl) ⟨rfl, ext_of_below hB⟩
theorem octet_number_uint8.ok (a1 : Str) (a2 : Int) (a3 : Int)  (w : World)  (hp : octet_number_uint8.pre a1 a2 a3) :
    Ret Try.prog 84 ([S a1, .int .i64 a2, .int .i64 a3] : List Value).toArray w fun v w' => v = .tuple #[.int .u8 ((octet_number_uint8 a1 a2 a3).1), .int .i64 ((octet_number_uint8 a1 a2 a3).2.1), .int .i64 ((octet_number_uint8 a1 a2 a3).2.2)] ∧ Ext w w' := by
  obtain ⟨kf, h⟩ := octet_number_uint8.eq a1 a2 a3 hp
  exact octet_number_uint8.walk kf a1 a2 a3  w  _ h

theorem octet_number_uint16.walk (kf : Nat) (a1 : Str) (a2 : Int) (a3 : Int)  (w : World)  (res : Int × Int × Int) (h : octet_number_uint16.f kf a1 a2 a3 = some res) :
    Ret Try.prog 63 ([S a1, .int .i64 a2, .int .i64 a3] : List Value).toArray w fun v w' => v = .tuple #[.int .u16 res.1, .int .i64 res.2.1, .int .i64 res.2.2] ∧ Ext w w' := by
  unfold octet_number_uint16.f at h
  refine enterX Try.func63 rfl Try.ntmps63 rfl (fun R hR => ?_)
  have hB := Below.refl w.heap.size w
  refine X.seq fun M4 hM5 => ?_
  refine X.region ?_
  refine XO.do rfl (D.asn (v := .int .u16 0) rfl rfl ?_)
  refine XO.do rfl (D.asn (v := .int .i64 0) rfl rfl ?_)
  refine XO.do rfl (D.asn (v := .int .i64 0) rfl rfl ?_)
  refine XO.nil ?_
  refine hM5 _ _ ?_
  refine X.seq fun M6 hM7 => ?_
  refine X.region ?_
  refine XO.do rfl (D.mv (v := S a1) rfl rfl ?_)
  refine XO.do rfl (D.mv (v := .int .i64 a2) rfl rfl ?_)
  refine XO.do rfl (D.mv (v := .int .i64 a3) rfl rfl ?_)
  rcases (Classical.em (octet_Some.pre a1 a2 a3)).symm with c8 | c8
  · rw [if_neg c8] at h; cases h
  rw [if_pos c8] at h
  obtain ⟨r12, q13, h⟩ := lt_elim h
  have hc11 := octet_Some.ok a1 a2 a3 w c8 
  rw [q13] at hc11
  clear q13
  refine XO.do rfl (D.call (vs := [S a1, .int .i64 a2, .int .i64 a3]) cf64 hc11 rfl rfl ?_)
  rintro _ w9 ⟨rfl, e10⟩
  clear hc11
  replace hB := below_ext hB e10
  clear e10
  refine XO.do rfl (D.mv (v := .tuple #[S r12.1, .int .i64 r12.2.1, .int .i64 r12.2.2]) rfl rfl ?_)
  refine XO.do rfl (D.extract (v := S r12.1) rfl rfl rfl ?_)
  refine XO.do rfl (D.extract (v := .int .i64 r12.2.1) rfl rfl rfl ?_)
  refine XO.do rfl (D.extract (v := .int .i64 r12.2.2) rfl rfl rfl ?_)
  refine XO.do rfl (D.asn (v := S r12.1) rfl rfl ?_)
  refine XO.do rfl (D.asn (v := .int .i64 r12.2.1) rfl rfl ?_)
  refine XO.do rfl (D.asn (v := .int .i64 r12.2.2) rfl rfl ?_)
  refine XO.nil ?_
  refine hM7 _ _ ?_
  refine X.seq fun M14 hM15 => ?_
  refine X.region ?_
  refine XO.do rfl (D.asn (v := .int .u32 0) rfl rfl ?_)
  refine XO.nil ?_
  refine hM15 _ _ ?_
  refine X.seq fun M80 hM81 => ?_
  refine X.seq fun M82 hM83 => ?_
  refine X.region ?_
  refine XO.do rfl (D.mv (v := S r12.1) rfl rfl ?_)
  refine XO.do rfl (D.lenS Try.underlying9 rfl rfl ?_)
  refine XO.do rfl (D.mv (v := .int .i64 0) rfl rfl ?_)
  refine XO.nil ?_
  refine hM83 _ _ ?_
  refine X.block ?_
  refine X.loop (fun kq147 => fun f123 w122 => ∃ x119 : Int, ∃ x120 : Int, f123 9 = S r12.1 ∧ f123 10 = .int .i64 r12.2.1 ∧ f123 11 = .int .i64 r12.2.2 ∧ f123 12 = .int .u32 x119 ∧ f123 23 = .int .i64 (r12.1.length : Int) ∧ f123 24 = .int .i64 x120 ∧ Below w.heap.size w w122 ∧ octet_number_uint16.l1 r12 kq147 x119 x120 = some res) kf ?_ ?_
  · exact ⟨0, 0, rfl, rfl, rfl, rfl, rfl, rfl, hB, h⟩
  · intro kq147 f123 w122 hI
    obtain ⟨x119, x120, s124, s125, s126, s127, s128, s129, hB, h⟩ := hI
    cases kq147 with
    | zero => exact absurd h (by rw [octet_number_uint16.l1.eq_1]; simp)
    | succ kf118 =>
      rw [octet_number_uint16.l1.eq_2] at h
      refine X.fr (d := 9) s124 ?_
      refine X.fr (d := 10) s125 ?_
      refine X.fr (d := 11) s126 ?_
      refine X.fr (d := 12) s127 ?_
      refine X.fr (d := 23) s128 ?_
      refine X.fr (d := 24) s129 ?_
      refine X.seq fun M131 hM132 => ?_
      refine X.region ?_
      refine XO.do rfl (D.lss rfl rfl rfl ?_)
      refine XO.nil ?_
      refine hM132 _ _ ?_
      refine X.seq fun M134 hM135 => ?_
      by_cases c136 : x120 < (r12.1.length : Int)
      · rw [if_pos c136] at h
        refine X.condT (congrArg Value.bool (decide_eq_true c136)) ?_
        refine X.skip ?_
        refine hM135 _ _ ?_
        refine X.seq fun M140 hM141 => ?_
        refine X.block ?_
        refine X.seq fun M142 hM143 => ?_
        refine X.region ?_
        refine XO.do rfl (D.mv (v := .int .i64 x120) rfl rfl ?_)
        refine XO.do rfl (D.asn (v := .int .i64 x120) rfl rfl ?_)
        refine XO.nil ?_
        refine hM143 _ _ ?_
        refine X.region ?_
        refine XO.do rfl (D.mv (v := .int .u32 x119) rfl rfl ?_)
        refine XO.do rfl (D.shl (b := 8) rfl rfl (by first | decide | simp | omega) rfl ?_)
        refine XO.do rfl (D.mv (v := S r12.1) rfl rfl ?_)
        refine XO.do rfl (D.mv (v := .int .i64 x120) rfl rfl ?_)
        rcases (Classical.em (0 ≤ x120)).symm with c144 | c144
        · rw [if_neg c144] at h; cases h
        rw [if_pos c144] at h
        refine XO.do rfl (D.indexS (i := x120) Try.underlying9 rfl rfl c144 c136 rfl ?_)
        refine XO.do rfl (D.conv Try.underlying5 Try.underlying23 rfl rfl ?_)
        refine XO.do rfl (D.or rfl rfl rfl ?_)
        refine XO.do rfl (D.asn (v := .int .u32 (bOr .u32 (sShl .u32 x119 8) (w32 (bt r12.1 x120)))) rfl rfl ?_)
        refine XO.nil ?_
        refine hM141 _ _ ?_
        refine X.region ?_
        refine XO.do rfl (D.add rfl rfl rfl ?_)
        refine XO.do rfl (D.mv (v := .int .i64 (w64 (x120 + 1))) rfl rfl ?_)
        refine XO.nil ?_
        exact ⟨kf118, Nat.lt_succ_self _, bOr .u32 (sShl .u32 x119 8) (w32 (bt r12.1 x120)), w64 (x120 + 1), rfl, rfl, rfl, rfl, rfl, rfl, hB, h⟩
      · rw [if_neg c136] at h
        refine X.condF (congrArg Value.bool (decide_eq_false c136)) ?_
        refine X.exit rfl ?_
        refine hM81 _ _ ?_
        refine X.seq fun M145 hM146 => ?_
        refine X.region ?_
        refine XO.do rfl (D.mv (v := .int .u32 x119) rfl rfl ?_)
        refine XO.do rfl (D.conv Try.underlying23 Try.underlying22 rfl rfl ?_)
        refine XO.do rfl (D.mv (v := .int .i64 r12.2.1) rfl rfl ?_)
        refine XO.do rfl (D.mv (v := .int .i64 r12.2.2) rfl rfl ?_)
        refine XO.do rfl (D.asn (v := .int .u16 (w16 x119)) rfl rfl ?_)
        refine XO.do rfl (D.asn (v := .int .i64 r12.2.1) rfl rfl ?_)
        refine XO.do rfl (D.asn (v := .int .i64 r12.2.2) rfl rfl ?_)
        refine XO.nil ?_
        refine hM146 _ _ ?_
        refine X.ret ?_
        injection h with h
        subst h
        exact hR _ _ _ (ret3 (v := .int .u16 (w16 x119)) (v' := .int .i64 r12.2.1) (v'' := .int .i64 r12.2.2) rfl rfl rfl rfl) ⟨rfl, ext_of_below hB⟩
theorem octet_number_uint16.ok (a1 : Str) (a2 : Int) (a3 : Int)  (w : World)  (hp : octet_number_uint16.pre a1 a2 a3) :
    Ret Try.prog 63 ([S a1, .int .i64 a2, .int .i64 a3] : List Value).toArray w fun v w' => v = .tuple #[.int .u16 ((octet_number_uint16 a1 a2 a3).1), .int .i64 ((octet_number_uint16 a1 a2 a3).2.1), .int .i64 ((octet_number_uint16 a1 a2 a3).2.2)] ∧ Ext w w' := by
  obtain ⟨kf, h⟩ := octet_number_uint16.eq a1 a2 a3 hp
  exact octet_number_uint16.walk kf a1 a2 a3  w  _ h

theorem octet_number_uint32.walk (kf : Nat) (a1 : Str) (a2 : Int) (a3 : Int)  (w : World)  (res : Int × Int × Int) (h : octet_number_uint32.f kf a1 a2 a3 = some res) :
    Ret Try.prog 62 ([S a1, .int .i64 a2, .int .i64 a3] : List Value).toArray w fun v w' => v = .tuple #[.int .u32 res.1, .int .i64 res.2.1, .int .i64 res.2.2] ∧ Ext w w' := by
  unfold octet_number_uint32.f at h
  refine enterX Try.func62 rfl Try.ntmps62 rfl (fun R hR => ?_)
  have hB := Below.refl w.heap.size w
  refine X.seq fun M4 hM5 => ?_
  refine X.region ?_
  refine XO.do rfl (D.asn (v := .int .u32 0) rfl rfl ?_)
  refine XO.do rfl (D.asn (v := .int .i64 0) rfl rfl ?_)
  refine XO.do rfl (D.asn (v := .int .i64 0) rfl rfl ?_)
  refine XO.nil ?_
  refine hM5 _ _ ?_
  refine X.seq fun M6 hM7 => ?_
  refine X.region ?_
  refine XO.do rfl (D.mv (v := S a1) rfl rfl ?_)
  refine XO.do rfl (D.mv (v := .int .i64 a2) rfl rfl ?_)
  refine XO.do rfl (D.mv (v := .int .i64 a3) rfl rfl ?_)
  rcases (Classical.em (octet_Some.pre a1 a2 a3)).symm with c8 | c8
  · rw [if_neg c8] at h; cases h
  rw [if_pos c8] at h
  obtain ⟨r12, q13, h⟩ := lt_elim h
  have hc11 := octet_Some.ok a1 a2 a3 w c8 
  rw [q13] at hc11
  clear q13
  refine XO.do rfl (D.call (vs := [S a1, .int .i64 a2, .int .i64 a3]) cf64 hc11 rfl rfl ?_)
  rintro _ w9 ⟨rfl, e10⟩
  clear hc11
  replace hB := below_ext hB e10
  clear e10
  refine XO.do rfl (D.mv (v := .tuple #[S r12.1, .int .i64 r12.2.1, .int .i64 r12.2.2]) rfl rfl ?_)
  refine XO.do rfl (D.extract (v := S r12.1) rfl rfl rfl ?_)
  refine XO.do rfl (D.extract (v := .int .i64 r12.2.1) rfl rfl rfl ?_)
  refine XO.do rfl (D.extract (v := .int .i64 r12.2.2) rfl rfl rfl ?_)
  refine XO.do rfl (D.asn (v := S r12.1) rfl rfl ?_)
  refine XO.do rfl (D.asn (v := .int .i64 r12.2.1) rfl rfl ?_)
  refine XO.do rfl (D.asn (v := .int .i64 r12.2.2) rfl rfl ?_)
  refine XO.nil ?_
  refine hM7 _ _ ?_
  refine X.seq fun M14 hM15 => ?_
  refine X.region ?_
  refine XO.do rfl (D.asn (v := .int .u32 0) rfl rfl ?_)
  refine XO.nil ?_
  refine hM15 _ _ ?_
  refine X.seq fun M80 hM81 => ?_
  refine X.seq fun M82 hM83 => ?_
  refine X.region ?_
  refine XO.do rfl (D.mv (v := S r12.1) rfl rfl ?_)
  refine XO.do rfl (D.lenS Try.underlying9 rfl rfl ?_)
  refine XO.do rfl (D.mv (v := .int .i64 0) rfl rfl ?_)
  refine XO.nil ?_
  refine hM83 _ _ ?_
  refine X.block ?_
  refine X.loop (fun kq147 => fun f123 w122 => ∃ x119 : Int, ∃ x120 : Int, f123 9 = S r12.1 ∧ f123 10 = .int .i64 r12.2.1 ∧ f123 11 = .int .i64 r12.2.2 ∧ f123 12 = .int .u32 x119 ∧ f123 23 = .int .i64 (r12.1.length : Int) ∧ f123 24 = .int .i64 x120 ∧ Below w.heap.size w w122 ∧ octet_number_uint32.l1 r12 kq147 x119 x120 = some res) kf ?_ ?_
  · exact ⟨0, 0, rfl, rfl, rfl, rfl, rfl, rfl, hB, h⟩
  · intro kq147 f123 w122 hI
    obtain ⟨x119, x120, s124, s125, s126, s127, s128, s129, hB, h⟩ := hI
    cases kq147 with
    | zero => exact absurd h (by rw [octet_number_uint32.l1.eq_1]; simp)
    | succ kf118 =>
      rw [octet_number_uint32.l1.eq_2] at h
      refine X.fr (d := 9) s124 ?_
      refine X.fr (d := 10) s125 ?_
      refine X.fr (d := 11) s126 ?_
      refine X.fr (d := 12) s127 ?_
      refine X.fr (d := 23) s128 ?_
      refine X.fr (d := 24) s129 ?_
      refine X.seq fun M131 hM132 => ?_
      refine X.region ?_
      refine XO.do rfl (D.lss rfl rfl rfl ?_)
      refine XO.nil ?_
      refine hM132 _ _ ?_
      refine X.seq fun M134 hM135 => ?_
      by_cases c136 : x120 < (r12.1.length : Int)
      · rw [if_pos c136] at h
        refine X.condT (congrArg Value.bool (decide_eq_true c136)) ?_
        refine X.skip ?_
        refine hM135 _ _ ?_
        refine X.seq fun M140 hM141 => ?_
        refine X.block ?_
        refine X.seq fun M142 hM143 => ?_
        refine X.region ?_
        refine XO.do rfl (D.mv (v := .int .i64 x120) rfl rfl ?_)
        refine XO.do rfl (D.asn (v := .int .i64 x120) rfl rfl ?_)
        refine XO.nil ?_
        refine hM143 _ _ ?_
        refine X.region ?_
        refine XO.do rfl (D.mv (v := .int .u32 x119) rfl rfl ?_)
        refine XO.do rfl (D.shl (b := 8) rfl rfl (by first | decide | simp | omega) rfl ?_)
        refine XO.do rfl (D.mv (v := S r12.1) rfl rfl ?_)
        refine XO.do rfl (D.mv (v := .int .i64 x120) rfl rfl ?_)
        rcases (Classical.em (0 ≤ x120)).symm with c144 | c144
        · rw [if_neg c144] at h; cases h
        rw [if_pos c144] at h
        refine XO.do rfl (D.indexS (i := x120) Try.underlying9 rfl rfl c144 c136 rfl ?_)
        refine XO.do rfl (D.conv Try.underlying5 Try.underlying23 rfl rfl ?_)
        refine XO.do rfl (D.or rfl rfl rfl ?_)
        refine XO.do rfl (D.asn (v := .int .u32 (bOr .u32 (sShl .u32 x119 8) (w32 (bt r12.1 x120)))) rfl rfl ?_)
        refine XO.nil ?_
        refine hM141 _ _ ?_
        refine X.region ?_
        refine XO.do rfl (D.add rfl rfl rfl ?_)
        refine XO.do rfl (D.mv (v := .int .i64 (w64 (x120 + 1))) rfl rfl ?_)
        refine XO.nil ?_
        exact ⟨kf118, Nat.lt_succ_self _, bOr .u32 (sShl .u32 x119 8) (w32 (bt r12.1 x120)), w64 (x120 + 1), rfl, rfl, rfl, rfl, rfl, rfl, hB, h⟩
      · rw [if_neg c136] at h
        refine X.condF (congrArg Value.bool (decide_eq_false c136)) ?_
        refine X.exit rfl ?_
        refine hM81 _ _ ?_
        refine X.seq fun M145 hM146 => ?_
        refine X.region ?_
        refine XO.do rfl (D.mv (v := .int .u32 x119) rfl rfl ?_)
        refine XO.do rfl (D.mv (v := .int .i64 r12.2.1) rfl rfl ?_)
        refine XO.do rfl (D.mv (v := .int .i64 r12.2.2) rfl rfl ?_)
        refine XO.do rfl (D.asn (v := .int .u32 x119) rfl rfl ?_)
        refine XO.do rfl (D.asn (v := .int .i64 r12.2.1) rfl rfl ?_)
        refine XO.do rfl (D.asn (v := .int .i64 r12.2.2) rfl rfl ?_)
        refine XO.nil ?_
        refine hM146 _ _ ?_
        refine X.ret ?_
        injection h with h
        subst h
        exact hR _ _ _ (ret3 (v := .int .u32 x119) (v' := .int .i64 r12.2.1) (v'' := .int .i64 r12.2.2) rfl rfl rfl rfl) ⟨rfl, ext_of_below hB⟩
theorem octet_number_uint32.ok (a1 : Str) (a2 : Int) (a3 : Int)  (w : World)  (hp : octet_number_uint32.pre a1 a2 a3) :
    Ret Try.prog 62 ([S a1, .int .i64 a2, .int .i64 a3] : List Value).toArray w fun v w' => v = .tuple #[.int .u32 ((octet_number_uint32 a1 a2 a3).1), .int .i64 ((octet_number_uint32 a1 a2 a3).2.1), .int .i64 ((octet_number_uint32 a1 a2 a3).2.2)] ∧ Ext w w' := by
  obtain ⟨kf, h⟩ := octet_number_uint32.eq a1 a2 a3 hp
  exact octet_number_uint32.walk kf a1 a2 a3  w  _ h
end Go.Proofs.Ytfcaekghpkpjdaa.K

/- Walks, printed by a program of this session. -/
namespace Go.Proofs.Ytfcaekghpkpjdaa.K
open Go Go.RowKit Go.Proofs
set_option linter.unusedVariables false
set_option maxRecDepth 100000
set_option maxHeartbeats 4000000
namespace FA3
theorem cf56 : Callable Try.prog 56 := callable Try.func56 (by kernel_rfl) rfl
theorem cf62 : Callable Try.prog 62 := callable Try.func62 (by kernel_rfl) rfl
theorem cf63 : Callable Try.prog 63 := callable Try.func63 (by kernel_rfl) rfl
theorem cf84 : Callable Try.prog 84 := callable Try.func84 (by kernel_rfl) rfl
end FA3
open FA3

theorem octet_Put16.walk (a1 : Int)  (w : World)  (res : Str) (h : octet_Put16 a1 = res) :
    Ret Try.prog 31 ([.int .u16 a1] : List Value).toArray w fun v w' => v = S res ∧ Ext w w' := by
  unfold octet_Put16 at h
  refine enterX Try.func31 rfl Try.ntmps31 rfl (fun R hR => ?_)
  have hB := Below.refl w.heap.size w
  refine X.seq fun M2 hM3 => ?_
  refine X.region ?_
  refine XO.do rfl (D.asn (v := S []) rfl rfl ?_)
  refine XO.nil ?_
  refine hM3 _ _ ?_
  refine X.seq fun M4 hM5 => ?_
  refine X.region ?_
  refine XO.do rfl (D.mv (v := .int .u16 a1) rfl rfl ?_)
  refine XO.do rfl (D.conv Try.underlying22 Try.underlying23 rfl rfl ?_)
  obtain ⟨r9, q10, h⟩ := lt_elim h
  have hc8 := octet_bytes.ok (w32 a1) 2 w (Or.inl rfl) 
  rw [q10] at hc8
  clear q10
  refine XO.do rfl (D.call (vs := [.int .u32 (w32 a1), .int .i64 2]) cf56 hc8 rfl rfl ?_)
  rintro _ w6 ⟨rfl, e7⟩
  clear hc8
  replace hB := below_ext hB e7
  clear e7
  refine XO.do rfl (D.asn (v := S r9) rfl rfl ?_)
  refine XO.nil ?_
  refine hM5 _ _ ?_
  refine X.ret ?_
  subst h
  exact hR _ _ _ (ret1 (v := S r9) rfl rfl) ⟨rfl, ext_of_below hB⟩
theorem octet_Put16.ok (a1 : Int)  (w : World)  :
    Ret Try.prog 31 ([.int .u16 a1] : List Value).toArray w fun v w' => v = S (octet_Put16 a1) ∧ Ext w w' := octet_Put16.walk a1  w  _ rfl

theorem octet_Put32.walk (a1 : Int)  (w : World)  (res : Str) (h : octet_Put32 a1 = res) :
    Ret Try.prog 35 ([.int .u32 a1] : List Value).toArray w fun v w' => v = S res ∧ Ext w w' := by
  unfold octet_Put32 at h
  refine enterX Try.func35 rfl Try.ntmps35 rfl (fun R hR => ?_)
  have hB := Below.refl w.heap.size w
  refine X.seq fun M2 hM3 => ?_
  refine X.region ?_
  refine XO.do rfl (D.asn (v := S []) rfl rfl ?_)
  refine XO.nil ?_
  refine hM3 _ _ ?_
  refine X.seq fun M4 hM5 => ?_
  refine X.region ?_
  refine XO.do rfl (D.mv (v := .int .u32 a1) rfl rfl ?_)
  obtain ⟨r9, q10, h⟩ := lt_elim h
  have hc8 := octet_bytes.ok a1 4 w (Or.inr rfl) 
  rw [q10] at hc8
  clear q10
  refine XO.do rfl (D.call (vs := [.int .u32 a1, .int .i64 4]) cf56 hc8 rfl rfl ?_)
  rintro _ w6 ⟨rfl, e7⟩
  clear hc8
  replace hB := below_ext hB e7
  clear e7
  refine XO.do rfl (D.asn (v := S r9) rfl rfl ?_)
  refine XO.nil ?_
  refine hM5 _ _ ?_
  refine X.ret ?_
  subst h
  exact hR _ _ _ (ret1 (v := S r9) rfl rfl) ⟨rfl, ext_of_below hB⟩
theorem octet_Put32.ok (a1 : Int)  (w : World)  :
    Ret Try.prog 35 ([.int .u32 a1] : List Value).toArray w fun v w' => v = S (octet_Put32 a1) ∧ Ext w w' := octet_Put32.walk a1  w  _ rfl

theorem octet_U8.walk (a1 : Str) (a2 : Int)  (w : World)  (res : Int × Int × Int) (h : octet_U8.f a1 a2 = some res) :
    Ret Try.prog 77 ([S a1, .int .i64 a2] : List Value).toArray w fun v w' => v = .tuple #[.int .u8 res.1, .int .i64 res.2.1, .int .i64 res.2.2] ∧ Ext w w' := by
  unfold octet_U8.f at h
  refine enterX Try.func77 rfl Try.ntmps77 rfl (fun R hR => ?_)
  have hB := Below.refl w.heap.size w
  refine X.seq fun M3 hM4 => ?_
  refine X.region ?_
  refine XO.do rfl (D.asn (v := .int .u8 0) rfl rfl ?_)
  refine XO.do rfl (D.asn (v := .int .i64 0) rfl rfl ?_)
  refine XO.do rfl (D.asn (v := .int .i64 0) rfl rfl ?_)
  refine XO.nil ?_
  refine hM4 _ _ ?_
  refine X.seq fun M5 hM6 => ?_
  refine X.region ?_
  refine XO.do rfl (D.mv (v := S a1) rfl rfl ?_)
  refine XO.do rfl (D.mv (v := .int .i64 a2) rfl rfl ?_)
  rcases (Classical.em (octet_number_uint8.pre a1 a2 1)).symm with c7 | c7
  · rw [if_neg c7] at h; cases h
  rw [if_pos c7] at h
  obtain ⟨r11, q12, h⟩ := lt_elim h
  have hc10 := octet_number_uint8.ok a1 a2 1 w c7 
  rw [q12] at hc10
  clear q12
  refine XO.do rfl (D.call (vs := [S a1, .int .i64 a2, .int .i64 1]) cf84 hc10 rfl rfl ?_)
  rintro _ w8 ⟨rfl, e9⟩
  clear hc10
  replace hB := below_ext hB e9
  clear e9
  refine XO.do rfl (D.extract (v := .int .u8 r11.1) rfl rfl rfl ?_)
  refine XO.do rfl (D.extract (v := .int .i64 r11.2.1) rfl rfl rfl ?_)
  refine XO.do rfl (D.extract (v := .int .i64 r11.2.2) rfl rfl rfl ?_)
  refine XO.do rfl (D.asn (v := .int .u8 r11.1) rfl rfl ?_)
  refine XO.do rfl (D.asn (v := .int .i64 r11.2.1) rfl rfl ?_)
  refine XO.do rfl (D.asn (v := .int .i64 r11.2.2) rfl rfl ?_)
  refine XO.nil ?_
  refine hM6 _ _ ?_
  refine X.ret ?_
  injection h with h
  subst h
  exact hR _ _ _ (ret3 (v := .int .u8 r11.1) (v' := .int .i64 r11.2.1) (v'' := .int .i64 r11.2.2) rfl rfl rfl rfl) ⟨rfl, ext_of_below hB⟩
theorem octet_U8.ok (a1 : Str) (a2 : Int)  (w : World)  (hp : octet_U8.pre a1 a2) :
    Ret Try.prog 77 ([S a1, .int .i64 a2] : List Value).toArray w fun v w' => v = .tuple #[.int .u8 ((octet_U8 a1 a2).1), .int .i64 ((octet_U8 a1 a2).2.1), .int .i64 ((octet_U8 a1 a2).2.2)] ∧ Ext w w' := by
  have h := octet_U8.eq a1 a2 hp
  exact octet_U8.walk  a1 a2  w  _ h

theorem octet_U16.walk (a1 : Str) (a2 : Int)  (w : World)  (res : Int × Int × Int) (h : octet_U16.f a1 a2 = some res) :
    Ret Try.prog 45 ([S a1, .int .i64 a2] : List Value).toArray w fun v w' => v = .tuple #[.int .u16 res.1, .int .i64 res.2.1, .int .i64 res.2.2] ∧ Ext w w' := by
  unfold octet_U16.f at h
  refine enterX Try.func45 rfl Try.ntmps45 rfl (fun R hR => ?_)
  have hB := Below.refl w.heap.size w
  refine X.seq fun M3 hM4 => ?_
  refine X.region ?_
  refine XO.do rfl (D.asn (v := .int .u16 0) rfl rfl ?_)
  refine XO.do rfl (D.asn (v := .int .i64 0) rfl rfl ?_)
  refine XO.do rfl (D.asn (v := .int .i64 0) rfl rfl ?_)
  refine XO.nil ?_
  refine hM4 _ _ ?_
  refine X.seq fun M5 hM6 => ?_
  refine X.region ?_
  refine XO.do rfl (D.mv (v := S a1) rfl rfl ?_)
  refine XO.do rfl (D.mv (v := .int .i64 a2) rfl rfl ?_)
  rcases (Classical.em (octet_number_uint16.pre a1 a2 2)).symm with c7 | c7
  · rw [if_neg c7] at h; cases h
  rw [if_pos c7] at h
  obtain ⟨r11, q12, h⟩ := lt_elim h
  have hc10 := octet_number_uint16.ok a1 a2 2 w c7 
  rw [q12] at hc10
  clear q12
  refine XO.do rfl (D.call (vs := [S a1, .int .i64 a2, .int .i64 2]) cf63 hc10 rfl rfl ?_)
  rintro _ w8 ⟨rfl, e9⟩
  clear hc10
  replace hB := below_ext hB e9
  clear e9
  refine XO.do rfl (D.extract (v := .int .u16 r11.1) rfl rfl rfl ?_)
  refine XO.do rfl (D.extract (v := .int .i64 r11.2.1) rfl rfl rfl ?_)
  refine XO.do rfl (D.extract (v := .int .i64 r11.2.2) rfl rfl rfl ?_)
  refine XO.do rfl (D.asn (v := .int .u16 r11.1) rfl rfl ?_)
  refine XO.do rfl (D.asn (v := .int .i64 r11.2.1) rfl rfl ?_)
  refine XO.do rfl (D.asn (v := .int .i64 r11.2.2) rfl rfl ?_)
  refine XO.nil ?_
  refine hM6 _ _ ?_
  refine X.ret ?_
  injection h with h
  subst h
  exact hR _ _ _ (ret3 (v := .int .u16 r11.1) (v' := .int .i64 r11.2.1) (v'' := .int .i64 r11.2.2) rfl rfl rfl rfl) ⟨rfl, ext_of_below hB⟩
theorem octet_U16.ok (a1 : Str) (a2 : Int)  (w : World)  (hp : octet_U16.pre a1 a2) :
    Ret Try.prog 45 ([S a1, .int .i64 a2] : List Value).toArray w fun v w' => v = .tuple #[.int .u16 ((octet_U16 a1 a2).1), .int .i64 ((octet_U16 a1 a2).2.1), .int .i64 ((octet_U16 a1 a2).2.2)] ∧ Ext w w' := by
  have h := octet_U16.eq a1 a2 hp
  exact octet_U16.walk  a1 a2  w  _ h

theorem octet_U32.walk (a1 : Str) (a2 : Int)  (w : World)  (res : Int × Int × Int) (h : octet_U32.f a1 a2 = some res) :
    Ret Try.prog 43 ([S a1, .int .i64 a2] : List Value).toArray w fun v w' => v = .tuple #[.int .u32 res.1, .int .i64 res.2.1, .int .i64 res.2.2] ∧ Ext w w' := by
  unfold octet_U32.f at h
  refine enterX Try.func43 rfl Try.ntmps43 rfl (fun R hR => ?_)
  have hB := Below.refl w.heap.size w
  refine X.seq fun M3 hM4 => ?_
  refine X.region ?_
  refine XO.do rfl (D.asn (v := .int .u32 0) rfl rfl ?_)
  refine XO.do rfl (D.asn (v := .int .i64 0) rfl rfl ?_)
  refine XO.do rfl (D.asn (v := .int .i64 0) rfl rfl ?_)
  refine XO.nil ?_
  refine hM4 _ _ ?_
  refine X.seq fun M5 hM6 => ?_
  refine X.region ?_
  refine XO.do rfl (D.mv (v := S a1) rfl rfl ?_)
  refine XO.do rfl (D.mv (v := .int .i64 a2) rfl rfl ?_)
  rcases (Classical.em (octet_number_uint32.pre a1 a2 4)).symm with c7 | c7
  · rw [if_neg c7] at h; cases h
  rw [if_pos c7] at h
  obtain ⟨r11, q12, h⟩ := lt_elim h
  have hc10 := octet_number_uint32.ok a1 a2 4 w c7 
  rw [q12] at hc10
  clear q12
  refine XO.do rfl (D.call (vs := [S a1, .int .i64 a2, .int .i64 4]) cf62 hc10 rfl rfl ?_)
  rintro _ w8 ⟨rfl, e9⟩
  clear hc10
  replace hB := below_ext hB e9
  clear e9
  refine XO.do rfl (D.extract (v := .int .u32 r11.1) rfl rfl rfl ?_)
  refine XO.do rfl (D.extract (v := .int .i64 r11.2.1) rfl rfl rfl ?_)
  refine XO.do rfl (D.extract (v := .int .i64 r11.2.2) rfl rfl rfl ?_)
  refine XO.do rfl (D.asn (v := .int .u32 r11.1) rfl rfl ?_)
  refine XO.do rfl (D.asn (v := .int .i64 r11.2.1) rfl rfl ?_)
  refine XO.do rfl (D.asn (v := .int .i64 r11.2.2) rfl rfl ?_)
  refine XO.nil ?_
  refine hM6 _ _ ?_
  refine X.ret ?_
  injection h with h
  subst h
  exact hR _ _ _ (ret3 (v := .int .u32 r11.1) (v' := .int .i64 r11.2.1) (v'' := .int .i64 r11.2.2) rfl rfl rfl rfl) ⟨rfl, ext_of_below hB⟩
theorem octet_U32.ok (a1 : Str) (a2 : Int)  (w : World)  (hp : octet_U32.pre a1 a2) :
    Ret Try.prog 43 ([S a1, .int .i64 a2] : List Value).toArray w fun v w' => v = .tuple #[.int .u32 ((octet_U32 a1 a2).1), .int .i64 ((octet_U32 a1 a2).2.1), .int .i64 ((octet_U32 a1 a2).2.2)] ∧ Ext w w' := by
  have h := octet_U32.eq a1 a2 hp
  exact octet_U32.walk  a1 a2  w  _ h
end Go.Proofs.Ytfcaekghpkpjdaa.K

/- Walks, printed by a program of this session. -/
namespace Go.Proofs.Ytfcaekghpkpjdaa.K
open Go Go.RowKit Go.Proofs
set_option linter.unusedVariables false
set_option maxRecDepth 100000
set_option maxHeartbeats 4000000
namespace FB1
theorem sc5 : Sca Try.prog 5 := sca Try.underlying5 rfl
theorem ti5 : TI Try.prog 5 (.int .u8 0) 1 1 := by unfold TI; kernel_rfl
theorem sz5 : ∀ w, (sizeOf 5).run Try.prog w = .ok 1 w := fun w => ti5.size w
end FB1
open FB1

theorem name_Fold.walk (kf : Nat) (a1 : Str)  (w : World)  (res : Str) (h : name_Fold.f kf a1 = some res) :
    Ret Try.prog 54 ([S a1] : List Value).toArray w fun v w' => v = S res ∧ Ext w w' := by
  unfold name_Fold.f at h
  refine enterX Try.func54 rfl Try.ntmps54 rfl (fun R hR => ?_)
  have hB := Below.refl w.heap.size w
  refine X.seq fun M2 hM3 => ?_
  refine X.region ?_
  refine XO.do rfl (D.asn (v := S []) rfl rfl ?_)
  refine XO.nil ?_
  refine hM3 _ _ ?_
  refine X.seq fun M4 hM5 => ?_
  refine X.region ?_
  refine XO.do rfl (D.mv (v := S a1) rfl rfl ?_)
  rcases (Classical.em (a1.length ≤ 9223372036854775807)).symm with c6 | c6
  · rw [if_neg c6] at h; cases h
  rw [if_pos c6] at h
  refine XO.do rfl (D.bytesOf c6 rfl rfl ?_)
  intro b7 k8 w9 hb10 H11 e12
  have g13 : w.heap.size ≤ b7 := Nat.le_trans hB.size (Nat.le_of_eq hb10.symm)
  replace hB := below_ext hB e12
  clear e12 hb10
  refine XO.do rfl (D.asn (v := .slice (some ⟨b7, 0, none⟩) (bytesI a1).length k8) rfl rfl ?_)
  refine XO.nil ?_
  refine hM5 _ _ ?_
  refine X.seq fun M281 hM282 => ?_
  refine X.seq fun M283 hM284 => ?_
  refine X.region ?_
  refine XO.do rfl (D.mv (v := .slice (some ⟨b7, 0, none⟩) (bytesI a1).length k8) rfl rfl ?_)
  refine XO.do rfl (D.lenR (A := (some ⟨b7, 0, none⟩)) (c := k8) (m := (bytesI a1).length) Try.underlying62 rfl rfl ?_)
  refine XO.do rfl (D.mv (v := .int .i64 0) rfl rfl ?_)
  refine XO.nil ?_
  refine hM284 _ _ ?_
  refine X.block ?_
  refine X.loop (fun kq551 => fun f468 w467 => ∃ l462 : List Int, ∃ x465 : Int, f468 3 = .slice (some ⟨b7, 0, none⟩) l462.length k8 ∧ f468 8 = .slice (some ⟨b7, 0, none⟩) l462.length k8 ∧ f468 9 = .int .i64 ((bytesI a1).length : Int) ∧ f468 10 = .int .i64 x465 ∧ Below w.heap.size w w467 ∧ OwnC w467 b7 k8 l462 ∧ name_Fold.l1 a1 kq551 l462 x465 = some res) kf ?_ ?_
  · exact ⟨bytesI a1, 0, rfl, rfl, rfl, rfl, hB, H11, h⟩
  · intro kq551 f468 w467 hI
    obtain ⟨l462, x465, s469, s470, s471, s472, hB, H463, h⟩ := hI
    cases kq551 with
    | zero => exact absurd h (by rw [name_Fold.l1.eq_1]; simp)
    | succ kf461 =>
      rw [name_Fold.l1.eq_2] at h
      refine X.fr (d := 3) s469 ?_
      refine X.fr (d := 8) s470 ?_
      refine X.fr (d := 9) s471 ?_
      refine X.fr (d := 10) s472 ?_
      refine X.seq fun M474 hM475 => ?_
      refine X.region ?_
      refine XO.do rfl (D.lss rfl rfl rfl ?_)
      refine XO.nil ?_
      refine hM475 _ _ ?_
      refine X.seq fun M477 hM478 => ?_
      by_cases c479 : x465 < ((bytesI a1).length : Int)
      · rw [if_pos c479] at h
        refine X.condT (congrArg Value.bool (decide_eq_true c479)) ?_
        refine X.skip ?_
        refine hM478 _ _ ?_
        refine X.cut (fun f514 w513 => ∃ l510 : List Int, f514 3 = .slice (some ⟨b7, 0, none⟩) l510.length k8 ∧ f514 8 = .slice (some ⟨b7, 0, none⟩) l510.length k8 ∧ f514 9 = .int .i64 ((bytesI a1).length : Int) ∧ f514 10 = .int .i64 x465 ∧ Below w.heap.size w w513 ∧ OwnC w513 b7 k8 l510 ∧ name_Fold.j2 (name_Fold.l1 a1 kf461) x465 l510 = some res) ?_ ?_
        · refine X.block ?_
          refine X.seq fun M519 hM520 => ?_
          refine X.region ?_
          refine XO.do rfl (D.mv (v := .int .i64 x465) rfl rfl ?_)
          rcases (Classical.em (0 ≤ x465)).symm with c521 | c521
          · rw [if_neg c521] at h; cases h
          rw [if_pos c521] at h
          rcases (Classical.em (x465 < (l462.length : Int))).symm with c522 | c522
          · rw [if_neg c522] at h; cases h
          rw [if_pos c522] at h
          refine XO.do rfl (D.indexR (i := x465) Try.underlying62 sz5 H463.row rfl rfl c521 c522 rfl ?_)
          intro b523 o524 _ H525
          refine XO.do rfl (D.load (j := 0) (v := .int .u8 (rd l462 x465)) sc5 H525 rfl rfl rfl rfl ?_)
          refine XO.do rfl (D.asn (v := .int .i64 x465) rfl rfl ?_)
          refine XO.do rfl (D.asn (v := .int .u8 (rd l462 x465)) rfl rfl ?_)
          refine XO.nil ?_
          refine hM520 _ _ ?_
          refine X.cut (fun f531 w530 => ∃ x529 : Bool, f531 3 = .slice (some ⟨b7, 0, none⟩) l462.length k8 ∧ f531 4 = .int .i64 x465 ∧ f531 5 = .int .u8 (rd l462 x465) ∧ f531 8 = .slice (some ⟨b7, 0, none⟩) l462.length k8 ∧ f531 9 = .int .i64 ((bytesI a1).length : Int) ∧ f531 10 = .int .i64 x465 ∧ f531 20 = .bool x529 ∧ Below w.heap.size w w530 ∧ OwnC w530 b7 k8 l462 ∧ name_Fold.j3 (name_Fold.l1 a1 kf461) x465 l462 x529 = some res) ?_ ?_
          · refine X.region ?_
            refine XO.do rfl (D.mv (v := .int .u8 (rd l462 x465)) rfl rfl ?_)
            refine XO.do rfl (D.geq rfl rfl rfl ?_)
            refine XO.do rfl (D.mv (v := .bool (decide (65 ≤ (rd l462 x465)))) rfl rfl ?_)
            by_cases c548 : 65 ≤ (rd l462 x465)
            · rw [if_pos c548] at h
              refine XO.do (wantG (j := 2) (b := true) rfl (decide_eq_true c548) rfl) (D.mv (v := .int .u8 (rd l462 x465)) rfl rfl ?_)
              refine XO.do (wantG (j := 2) (b := true) rfl (decide_eq_true c548) rfl) (D.leq rfl rfl rfl ?_)
              refine XO.do rfl (D.pick true (v := .bool (decide ((rd l462 x465) ≤ 90))) (congrArg Value.bool (decide_eq_true c548)) rfl rfl ?_)
              refine XO.nil ?_
              exact ⟨(decide ((rd l462 x465) ≤ 90)), rfl, rfl, rfl, rfl, rfl, rfl, rfl, hB, H463, h⟩
            · rw [if_neg c548] at h
              refine XO.off (wantG0 (j := 2) (b := true) rfl (decide_eq_false c548) rfl) rfl rfl ?_
              refine XO.off (wantG0 (j := 2) (b := true) rfl (decide_eq_false c548) rfl) rfl rfl ?_
              refine XO.do rfl (D.pick false (v := .bool false) (congrArg Value.bool (decide_eq_false c548)) rfl rfl ?_)
              refine XO.nil ?_
              exact ⟨false, rfl, rfl, rfl, rfl, rfl, rfl, rfl, hB, H463, h⟩
          · intro f531 w530 hI
            obtain ⟨x529, s532, s533, s534, s535, s536, s537, s538, hB, H528, h⟩ := hI
            refine X.fr (d := 3) s532 ?_
            refine X.fr (d := 4) s533 ?_
            refine X.fr (d := 5) s534 ?_
            refine X.fr (d := 8) s535 ?_
            refine X.fr (d := 9) s536 ?_
            refine X.fr (d := 10) s537 ?_
            refine X.fr (d := 20) s538 ?_
            unfold name_Fold.j3 at h
            by_cases c539 : x529 = true
            · rw [if_pos c539] at h
              refine X.condT (congrArg Value.bool (c539)) ?_
              refine X.region ?_
              refine XO.do rfl (D.mv (v := .slice (some ⟨b7, 0, none⟩) l462.length k8) rfl rfl ?_)
              refine XO.do rfl (D.mv (v := .int .i64 x465) rfl rfl ?_)
              refine XO.do rfl (D.mv (v := .int .u8 (rd l462 x465)) rfl rfl ?_)
              refine XO.do rfl (D.add rfl rfl rfl ?_)
              refine XO.do rfl (D.indexC (i := x465) Try.underlying62 sz5 H528 rfl rfl c521 c522 rfl ?_)
              intro o541 ho543 H542
              refine XO.do rfl (D.storeC (z := w8 ((rd l462 x465) + 32)) sz5 H528 ho543 c521 c522 rfl rfl ?_)
              intro w545 H546 e547
              replace hB := below_blk hB e547 g13
              clear e547 H528
              refine XO.fr (d := 3) (v := .slice (some ⟨b7, 0, none⟩) ((l462).set x465.toNat (w8 ((rd l462 x465) + 32))).length k8) (slSet rfl) ?_
              refine XO.fr (d := 8) (v := .slice (some ⟨b7, 0, none⟩) ((l462).set x465.toNat (w8 ((rd l462 x465) + 32))).length k8) (slSet rfl) ?_
              refine XO.fr (d := 21) (v := .slice (some ⟨b7, 0, none⟩) ((l462).set x465.toNat (w8 ((rd l462 x465) + 32))).length k8) (slSet rfl) ?_
              refine XO.nil ?_
              exact ⟨(l462).set x465.toNat (w8 ((rd l462 x465) + 32)), rfl, rfl, rfl, rfl, hB, H546, h⟩
            · rw [if_neg c539] at h
              refine X.condF (congrArg Value.bool ((Bool.eq_false_iff.2 c539))) ?_
              refine X.skip ?_
              exact ⟨l462, rfl, rfl, rfl, rfl, hB, H528, h⟩
        · intro f514 w513 hI
          obtain ⟨l510, s515, s516, s517, s518, hB, H511, h⟩ := hI
          refine X.fr (d := 3) s515 ?_
          refine X.fr (d := 8) s516 ?_
          refine X.fr (d := 9) s517 ?_
          refine X.fr (d := 10) s518 ?_
          unfold name_Fold.j2 at h
          refine X.region ?_
          refine XO.do rfl (D.add rfl rfl rfl ?_)
          refine XO.do rfl (D.mv (v := .int .i64 (w64 (x465 + 1))) rfl rfl ?_)
          refine XO.nil ?_
          exact ⟨kf461, Nat.lt_succ_self _, l510, w64 (x465 + 1), rfl, rfl, rfl, rfl, hB, H511, h⟩
      · rw [if_neg c479] at h
        refine X.condF (congrArg Value.bool (decide_eq_false c479)) ?_
        refine X.exit rfl ?_
        refine hM282 _ _ ?_
        refine X.seq fun M549 hM550 => ?_
        refine X.region ?_
        refine XO.do rfl (D.mv (v := .slice (some ⟨b7, 0, none⟩) l462.length k8) rfl rfl ?_)
        refine XO.do rfl (D.strOf (m := 0) Try.underlying62 Try.underlying5 Try.underlying9 H463.row rfl rfl ?_)
        refine XO.do rfl (D.asn (v := S (strOf l462)) rfl rfl ?_)
        refine XO.nil ?_
        refine hM550 _ _ ?_
        refine X.ret ?_
        injection h with h
        subst h
        exact hR _ _ _ (ret1 (v := S (strOf l462)) rfl rfl) ⟨rfl, ext_of_below hB⟩
theorem name_Fold.ok (a1 : Str)  (w : World)  (hp : name_Fold.pre a1) :
    Ret Try.prog 54 ([S a1] : List Value).toArray w fun v w' => v = S (name_Fold a1) ∧ Ext w w' := by
  obtain ⟨kf, h⟩ := name_Fold.eq a1 hp
  exact name_Fold.walk kf a1  w  _ h
end Go.Proofs.Ytfcaekghpkpjdaa.K

/- A range over a function: the statement, the rounds, the end of the function that holds it. -/
namespace Go.Proofs.Ytfcaekghpkpjdaa.K
open Go Go.RowKit Go.Proofs
set_option linter.unusedVariables false
section
variable {P : Program} {n : Nat} {f : Fr} {w : World} {K : Fr → World → Prop} {d : Nat} {ty : TypeId} {pos : String} {af : Array Edge} {g : Option (Nat × Bool)}
def NoPost : Post := fun _ _ _ => False
def rp (P : Program) (l : Nat) (R : Ending → World → Prop) : Post
  | .normal, _, w => ∃ v w', (Instr.endRound l none).run P w = .ok v w' ∧ R (.returned v) w'
  | _, _, _ => False
/-- A round, out of the walks of its assignments and its body. -/
theorem roundR {l gf : Nat} {tmps : Array Value} {asg bd : Code} {R : Ending → World → Prop} (ht : Is ⟨tmps, []⟩ n f)
    (h : wpR (some l) P n asg (andThen (fun f₁ w₁ => ∃ w₂, (Instr.beginRound l).run P w₁ = .ok () w₂ ∧ wpR (some l) P n bd (rp P l R) f₁ w₂) NoPost) f w) : RoundIn (FR none) 0 P l gf tmps asg bd w R := by
  refine roundIn_of_wpIn trivial (Code.wpIn_mono ?_ (h _ ht))
  rintro e a' w' ⟨f', hf', hd, q⟩
  cases e with
  | normal =>
    obtain ⟨w₂, h1, h2⟩ := q
    refine ⟨w₂, h1, Code.wpIn_mono ?_ (h2 a' hf')⟩
    rintro e a2 w3 ⟨f2, _, _, q⟩
    cases e with
    | normal => exact q
    | _ => exact q.elim
  | _ => exact q.elim
theorem D.yield {x : Operand} {args : List Operand} {ats : Array TypeId} {vs : List Value} {l : Nat} {r : Loop} (hl : w.heap[l]? = some (.loop r)) (hs : vs.toArray.size = r.params.size) (hx : evF f x = .func (.yield l) #[] #[]) (ha : args.map (evF f) = vs) (hd : Nat.ble (d + 1) n = true)
    (h : RoundIn (FR none) 0 P l r.fn ((r.params.zip vs.toArray).foldl (fun tmps (t, a) => tmps.setIfInBounds t a) r.tmps) r.assign r.body w fun e w' => ∃ v, e = .returned v ∧ K (upd f d v) w') :
    Does P n ⟨some d, .call ⟨.value x, args.toArray, ats⟩, ty, pos, af, g⟩ f w K := by
  refine .inr (.inr (.inr ⟨l, r.fn, _, r.assign, r.body, w, ?_, RoundIn.mono h fun e w' ⟨v, he, hv⟩ => ⟨v, he, d, rfl, hd, hv⟩⟩))
  have : (args.toArray.map (evF f)) = vs.toArray := by rw [← ha]; simp
  have hy := run_yield (P := P) (args := vs.toArray) hl hs
  simp [execOp, resolve, this, hx, Deferred.ofValue, invoke, -List.map_toArray]
  simpa using hy
/-- The statement. -/
theorem rangeR {a : Act} {go : Operand} {ps : Array Tmp} {asg bd : Code} {Q : Exit → Act → World → Prop} {gf : Nat} {lb : Array Value} (hg : a.eval go = .func (.func gf) #[] lb) (hc : Callable P gf)
    (h : ∀ fn, Calls P gf (#[.func (.yield (w.heap.size + 1)) #[] #[]] ++ lb) ((w.alloc (.deferred (some []))).alloc (.loop { state := .ready, pending := none, fn, tmps := a.tmps, params := ps, assign := asg, body := bd, defers := w.heap.size })) fun e w3 => ∃ v, e = .returned v ∧
      ∃ w4, (Instr.endLoop (w.heap.size + 1)).run P w3 = .ok none w4 ∧ Q .normal { a with defers := { target := .collected w.heap.size, args := #[] } :: a.defers } w4) : (Code.rangeFunc go ps asg bd).wpIn (FR none) 0 P Q a w := by
  refine wpIn_rangeFunc ?_
  intro fn _
  obtain ⟨W1, hW1⟩ : ∃ W1, (w.alloc (.deferred (some []))).alloc (.loop { state := .ready, pending := none, fn, tmps := a.tmps, params := ps, assign := asg, body := bd, defers := w.heap.size }) = W1 := ⟨_, rfl⟩
  have h1 := h fn
  rw [hW1] at h1
  refine ⟨w.heap.size + 1, [{ target := .collected w.heap.size, args := #[] }], W1, { target := .fn (.func gf) lb, args := #[.func (.yield (w.heap.size + 1)) #[] #[]] }, W1, gf, #[.func (.yield (w.heap.size + 1)) #[] #[]] ++ lb, W1, ?_, ?_, fun _ _ => trivial, ?_, fun hh => (by cases hh), ?_⟩
  · rw [← hW1]; exact run_enterLoop_outer fn a.tmps ps asg bd
  · simp only [resolve, hg]
    simp [go_sem]
  · simp [invoke, go_sem, hc _ _]
  · refine CallsIn.mono (callsIn_FR (ro := none) h1) ?_
    rintro e w' ⟨v, rfl, w4, h1, h2⟩
    exact ⟨none, w4, h1, h2⟩
def mark (D : Nat) : List Deferred := [{ target := .collected D, args := #[] }]
def finM (P : Program) (n : Nat) (fn : Func) (R : Value → World → Prop) (D : Nat) : Post
  | .normal, f, w | .ret, f, w => w.heap[D]? = some (.deferred (some [])) ∧ ∃ v, RetV P n fn f (w.putObj D (.deferred none)) v ∧ R v (w.putObj D (.deferred none))
  | _, _, _ => False
theorem run_take {D : Nat} (h : w.heap[D]? = some (.deferred (some []))) : (Instr.takeDeferred D).run P w = .ok [] (w.putObj D (.deferred none)) := run_takeDeferred h
theorem enterM {gn : Nat} {fn : Func} {c : Code} {args : List Value} {R : Value → World → Prop} (hf : P.funcs[gn]? = some fn) (hb : fn.body = some c) (hn : fn.ntmps = n) (hl : Nat.ble args.length n = true)
    (h : ∀ a, Is a n (ini args 0 f0) → a.defers = [] → c.wpIn (FR none) 0 P (fun e a' w' => ∃ D f', Is a' n f' ∧ a'.defers = mark D ∧ finM P n fn R D e f' w') a w) : Ret P gn args.toArray w R := by
  refine (callsIn_wide (n := 0)).1 (callsIn_of_wp_marks hf hb trivial ?_)
  rw [hn]
  refine Code.wpIn_mono ?_ (h _ (Is.ofArgs (Nat.le_of_ble_eq_true hl)) rfl)
  rintro e a w' ⟨D, f', hf', hd, q⟩
  have key : (w'.heap[D]? = some (.deferred (some [])) ∧ ∃ v, RetV P n fn f' (w'.putObj D (.deferred none)) v ∧ R v (w'.putObj D (.deferred none))) → LeavesInM Fence.wide 0 P fn a.tmps (fun e w' => ∃ v, e = .returned v ∧ R v w') a.defers .returning w' := by
    rintro ⟨h1, v, h2, h3⟩
    rw [hd]
    refine ⟨by simp, .inl ⟨D, _, rfl, run_take h1, ?_⟩⟩
    exact ⟨v, h2 a hf', v, rfl, h3⟩
  cases e with
  | normal => exact key q
  | ret => exact key q
  | _ => exact q.elim
/-- A first part that has no such statement. -/
theorem seqA {x y : Code} {Q : Exit → Act → World → Prop} {a : Act} (M : Fr → World → Prop) (ha : Is a n f) (hx : X P n x M [] (fun _ _ => False) f w) (hy : ∀ f' w' a', M f' w' → Is a' n f' → a'.defers = a.defers → y.wpIn (FR none) 0 P Q a' w') : (Code.seq x y).wpIn (FR none) 0 P Q a w := by
  refine wpIn_seq (Code.wpIn_mono ?_ (hx a ha))
  rintro e a' w' ⟨f', hf', hd, q⟩
  cases e with
  | normal => exact hy f' w' a' q hf' hd
  | exit j => exact q.elim
  | _ => exact q.elim
end
end Go.Proofs.Ytfcaekghpkpjdaa.K

/- name.Labels: the range over its labels. -/
namespace Go.Proofs.Ytfcaekghpkpjdaa.K
open Go Go.RowKit Go.Proofs
set_option linter.unusedVariables false
set_option maxRecDepth 100000
def MC (b : Nat) (M : Nat → Prop) (x : Nat) : Prop := MB b x ∨ M x
theorem gm_blkC {w w1 w2 : World} {b : Nat} {M : Nat → Prop} (h : GrM w w1 (MC b M)) (k : w1.grownBy w2 (some b)) : GrM w w2 (MC b M) :=
  h.step (GrM.of_grown (M := MB b) k (by intro x e; injection e with e; exact e.symm)) (fun x hx => .inl (.inl hx))
def rfOf : Code → Option (Code × Code)
  | .rangeFunc _ _ a b => some (a, b)
  | .seq x y => match rfOf x with
    | some p => some p
    | none => rfOf y
  | .block _ c => rfOf c
  | _ => none
noncomputable def rfL : Code × Code := ((Try.f53.body.bind rfOf).getD (.skip, .skip))
noncomputable def recL (fn : Nat) (tmps : Array Value) (D : Nat) : Loop := { state := .ready, pending := none, fn, tmps, params := #[11, 12], assign := rfL.1, body := rfL.2, defers := D }
def isY (w : World) (M : Nat → Prop) (l : Nat) (s : YSt) : Prop := ∃ (fn : Nat) (tmps : Array Value) (f : Fr) (base : Nat) (A : Option Go.Addr) (c : Nat),
  w.heap[l]? = some (.loop (recL fn tmps s.D)) ∧ Is ⟨tmps, []⟩ 26 f ∧ f 4 = pt s.b4 0 ∧ f 5 = pt s.b5 0 ∧ w.heap[s.D]? = some (.deferred (some [])) ∧ Blk w s.b4 [.slice A s.ls.length c] 94 ∧ Own eStr 9 w base A c s.ls ∧ Blk w s.b5 [S s.left] 9 ∧
  base ≤ w.heap.size ∧ s.b5 < base ∧ M = fun x => x = l ∨ x = s.D ∨ x = s.b4 ∨ x = s.b5 ∨ MO A x
noncomputable def okY : OK YSt where
  is := isY
  lt' := by
    rintro w M l s ⟨fn, tmps, f, base, A, c, h1, h2, h3, h4, h5, h6, h7, h8, h9, h10, rfl⟩ x hx
    rcases hx with rfl | rfl | rfl | rfl | hx
    · exact (Array.getElem?_eq_some_iff.1 h1).1
    · exact (Array.getElem?_eq_some_iff.1 h5).1
    · exact h6.lt
    · exact h8.lt
    · exact (h7.base x hx).2
  gm' := by
    rintro w w' M l s M' ⟨fn, tmps, f, base, A, c, h1, h2, h3, h4, h5, h6, h7, h8, h9, h10, rfl⟩ k hne
    exact ⟨fn, tmps, f, base, A, c, (k.block _ (Array.getElem?_eq_some_iff.1 h1).1 (hne _ (.inl rfl))).trans h1, h2, h3, h4, (k.block _ (Array.getElem?_eq_some_iff.1 h5).1 (hne _ (.inr (.inl rfl)))).trans h5,
      h6.gm k (fun x e => hne x (.inr (.inr (.inl e)))), h7.gm k (fun x e => hne x (.inr (.inr (.inr (.inr e))))), h8.gm k (fun x e => hne x (.inr (.inr (.inr (.inl e))))), Nat.le_trans h9 k.size, h10, rfl⟩
def YRet (P : Program) (l : Nat) (vs : Array Value) (w : World) (R : Value → World → Prop) : Prop := ∃ r : Loop, w.heap[l]? = some (.loop r) ∧ vs.size = r.params.size ∧
  RoundIn (FR none) 0 P l r.fn ((r.params.zip vs).foldl (fun tmps (t, a) => tmps.setIfInBounds t a) r.tmps) r.assign r.body w fun e w' => ∃ v, e = .returned v ∧ R v w'
theorem D.yieldO {P : Program} {n : Nat} {f : Fr} {w : World} {K : Fr → World → Prop} {d : Nat} {ty : TypeId} {pos : String} {af : Array Edge} {g : Option (Nat × Bool)} {x : Operand} {args : List Operand} {ats : Array TypeId} {vs : List Value} {l : Nat} {R : Value → World → Prop}
    (hc : YRet P l vs.toArray w R) (hx : evF f x = .func (.yield l) #[] #[]) (ha : args.map (evF f) = vs) (hd : Nat.ble (d + 1) n = true) (k : ∀ v w', R v w' → K (upd f d v) w') : Does P n ⟨some d, .call ⟨.value x, args.toArray, ats⟩, ty, pos, af, g⟩ f w K := by
  obtain ⟨r, h1, h2, h3⟩ := hc
  exact D.yield h1 h2 hx ha hd (RoundIn.mono h3 fun e w' ⟨v, he, hv⟩ => ⟨v, he, k v w' hv⟩)
theorem tiStr : TI Try.prog 9 (S []) 1 16 := by unfold TI; kernel_rfl
theorem tiStrs : TI Try.prog 94 (.slice none 0 0) 1 24 := by unfold TI; kernel_rfl
theorem putObj_gr (w : World) (l : Nat) (o : Obj) : w.grownBy (w.putObj l o) (some l) := ⟨rfl, rfl, rfl, by simp, fun k _ hk => World.putObj_heap_other (fun e => hk (by rw [e]))⟩
theorem own_ne_obj {α : Type} {E : En α} {T : TypeId} {w : World} {base c l : Nat} {A : Option Go.Addr} {xs : List α} {o : Obj} (ho : Own E T w base A c xs) (hl : w.heap[l]? = some o) (hn : ∀ cur e z, o ≠ .cells cur e z) : ∀ x, MO A x → x ≠ l := by
  intro x hx e
  subst e
  rcases ho.2 with ⟨h, _⟩ | ⟨gb, cap, cur, h, _, hg, _⟩
  · injection h with h1 h2 h3; subst h1; simp [MO, blkOf] at hx
  · injection h with h1 h2 h3
    subst h1
    simp only [MO, blkOf, Option.map_some, Option.some.injEq] at hx
    subst hx
    rw [hg] at hl; injection hl with hl; exact hn _ _ _ hl.symm
theorem blk_ne_obj {w : World} {b l : Nat} {cs : List Value} {T : TypeId} {o : Obj} (hb : Blk w b cs T) (hl : w.heap[l]? = some o) (hn : ∀ cur e z, o ≠ .cells cur e z) : b ≠ l := by
  intro e; subst e
  have hb' : w.heap[b]? = _ := hb
  rw [hb'] at hl; injection hl with hl; exact hn _ _ _ hl.symm
theorem blk_ne_blk {w : World} {b l : Nat} {cs cs' : List Value} {T T' : TypeId} (hb : Blk w b cs T) (hl : Blk w l cs' T') (hT : T ≠ T') : b ≠ l := by
  intro e; subst e
  have hb' : w.heap[b]? = _ := hb
  have hl' : w.heap[b]? = _ := hl
  rw [hb'] at hl'; injection hl' with hl'; injection hl' with _ h; exact hT h
theorem yStep.ok (s : YSt) (label rest : Str) (M : Nat → Prop) (l : Nat) (w : World) (h : okY.is w M l s) (hp : yStep.pre s label rest) :
    YRet Try.prog l ([S label, S rest] : List Value).toArray w fun v w' => ∃ M' : Nat → Prop, v = .bool (yStep s label rest).1 ∧ okY.is w' M' l (yStep s label rest).2 ∧ (∀ x, M' x → M x ∨ w.heap.size ≤ x) ∧ GrM w w' M := by
  obtain ⟨fn, tmps, f, base, A, c, h1, h2, h3, h4, h5, h6, h7, h8, h9, h10, rfl⟩ := h
  refine ⟨_, h1, rfl, ?_⟩
  have ht : Is ⟨((#[11, 12] : Array Nat).zip ([S label, S rest] : List Value).toArray).foldl (fun tmps (t, a) => tmps.setIfInBounds t a) tmps, []⟩ 26 (upd (upd f 11 (S label)) 12 (S rest)) :=
    by
      have hh : Is ⟨(tmps.setIfInBounds 11 (S label)).setIfInBounds 12 (S rest), []⟩ 26 (upd (upd f 11 (S label)) 12 (S rest)) := (h2.put (d := 11) rfl (S label)).put (d := 12) rfl (S rest)
      have e : (#[11, 12] : Array Nat).zip ([S label, S rest] : List Value).toArray = #[(11, S label), (12, S rest)] := by simp
      rw [e]
      simpa using hh
  refine roundR (n := 26) ht ?_
  refine W.seq ?_
  refine W.region ?_
  refine O.does rfl (D.asn (v := S label) rfl rfl ?_)
  refine O.nil ?_
  refine W.region ?_
  refine O.does rfl (D.asn (v := S rest) rfl rfl ?_)
  refine O.nil ?_
  have hbr := run_beginRound (P := Try.prog) h1 rfl
  refine ⟨_, hbr, ?_⟩
  obtain ⟨W1, hW1⟩ : ∃ W1, w.putObj l (.loop { recL fn tmps s.D with state := .busy }) = W1 := ⟨_, rfl⟩
  rw [hW1]
  have hgr : w.grownBy W1 (some l) := by rw [← hW1]; exact putObj_gr _ _ _
  have hl1 : W1.heap[l]? = some (.loop { recL fn tmps s.D with state := .busy }) := by rw [← hW1]; exact World.putObj_heap_same (Array.getElem?_eq_some_iff.1 h1).1
  have hD1 : W1.heap[s.D]? = some (.deferred (some [])) := (hgr.block _ (Array.getElem?_eq_some_iff.1 h5).1 (by intro e; injection e with e; rw [e] at h5; rw [h1] at h5; cases h5)).trans h5
  replace h6 := h6.grown hgr (by intro e; injection e with e; exact blk_ne_obj h6 h1 (by intro _ _ _ e; cases e) e)
  replace h8 := h8.grown hgr (by intro e; injection e with e; exact blk_ne_obj h8 h1 (by intro _ _ _ e; cases e) e)
  replace h7 := h7.gr hgr (by intro x hx e; injection e with e; exact own_ne_obj h7 h1 (by intro _ _ _ e; cases e) x hx e)
  have hB : GrM w W1 (fun x => x = l ∨ x = s.D ∨ x = s.b4 ∨ x = s.b5 ∨ MO A x) := GrM.of_grown hgr (by intro x e; injection e with e; exact .inl e.symm)
  have hbs : base ≤ W1.heap.size := Nat.le_trans h9 hB.size
  refine W.block ?_
  refine W.seq ?_
  refine W.region ?_
  refine O.does rfl (D.load (j := 0) (v := .slice A s.ls.length c) (sca Try.underlying94 rfl) h6.cs h3 rfl rfl rfl ?_)
  refine O.does rfl (D.mv (v := S label) rfl rfl ?_)
  refine O.does rfl (D.buildR (vs := [S label]) (cs := [S label]) Try.underlying94 tiStr rfl rfl rfl rfl rfl rfl rfl ?_)
  intro b2 w2 hb2 H2 e2 _
  replace h6 := h6.ext e2
  replace h7 := h7.ext e2
  replace h8 := h8.ext e2
  replace hB := gm_ext hB e2
  replace hbs := Nat.le_trans hbs (World.grownBy.size e2)
  have hr : Row eStr w2 (some ⟨b2, 0, none⟩) 1 [label] := Blk.row1 (E := eStr) H2
  unfold yStep.pre at hp
  refine O.does rfl (D.append (E := eStr) (xs := s.ls) (ys := [label]) (m := 1) Try.underlying94 tiStr rfl h7 hr hbs (by simp; omega) (by simp; omega) rfl rfl rfl rfl ?_)
  intro A' c' w3 ho3 e3 hat
  have hl2 : w2.heap[l]? = some (.loop { recL fn tmps s.D with state := .busy }) := (e2.block _ (Array.getElem?_eq_some_iff.1 hl1).1 (by simp)).trans hl1
  have hD2 : w2.heap[s.D]? = some (.deferred (some [])) := (e2.block _ (Array.getElem?_eq_some_iff.1 hD1).1 (by simp)).trans hD1
  have hl3 : w3.heap[l]? = some (.loop { recL fn tmps s.D with state := .busy }) := (e3.block _ (Array.getElem?_eq_some_iff.1 hl2).1 (fun e => own_ne_obj h7 hl2 (by intro _ _ _ e; cases e) _ e.symm rfl)).trans hl2
  have hD3 : w3.heap[s.D]? = some (.deferred (some [])) := (e3.block _ (Array.getElem?_eq_some_iff.1 hD2).1 (fun e => own_ne_obj h7 hD2 (by intro _ _ _ e; cases e) _ e.symm rfl)).trans hD2
  have h63 := h6.grown e3 (fun e => own_blk_ne h7 h6 (by decide) _ e.symm rfl)
  have h83 := h8.grown e3 (fun e => by have := (h7.base _ e.symm).1; omega)
  replace hB := hB.step (GrM.of_grown (M := MO A) e3 (fun x e => e)) (fun x hx => .inl (.inr (.inr (.inr (.inr hx)))))
  have hws : w.heap.size ≤ w2.heap.size := Nat.le_trans hgr.size (World.grownBy.size e2)
  refine O.does rfl (D.store (v := .slice A' (s.ls ++ [label]).length c') (us := [.slice A' (s.ls ++ [label]).length c']) (fun w => tiStrs.size w) h63 h3 rfl rfl rfl rfl rfl ?_)
  intro w4 H4 e4
  have hl4 : w4.heap[l]? = some (.loop { recL fn tmps s.D with state := .busy }) := (e4.block _ (Array.getElem?_eq_some_iff.1 hl3).1 (by intro e; injection e with e; exact blk_ne_obj h63 hl3 (by intro _ _ _ e; cases e) e.symm)).trans hl3
  have hD4 : w4.heap[s.D]? = some (.deferred (some [])) := (e4.block _ (Array.getElem?_eq_some_iff.1 hD3).1 (by intro e; injection e with e; exact blk_ne_obj h63 hD3 (by intro _ _ _ e; cases e) e.symm)).trans hD3
  have h84 := h83.grown e4 (by intro e; injection e with e; exact blk_ne_blk h63 h83 (by decide) e.symm)
  have ho4 := ho3.gr e4 (fun x hx e => by injection e with e; exact own_blk_ne ho3 h63 (by decide) x hx e)
  replace hB := hB.step (GrM.of_grown (M := fun x => x = s.b4) e4 (fun x e => by injection e with e; exact e.symm)) (fun x hx => .inl (.inr (.inr (.inl hx))))
  refine O.nil ?_
  refine W.region ?_
  refine O.does rfl (D.mv (v := S rest) rfl rfl ?_)
  refine O.does rfl (D.store (v := S rest) (us := [S rest]) (fun w => tiStr.size w) h84 h4 rfl rfl rfl rfl rfl ?_)
  intro w5 H5 e5
  have hl5 : w5.heap[l]? = some (.loop { recL fn tmps s.D with state := .busy }) := (e5.block _ (Array.getElem?_eq_some_iff.1 hl4).1 (by intro e; injection e with e; exact blk_ne_obj h84 hl4 (by intro _ _ _ e; cases e) e.symm)).trans hl4
  have hD5 : w5.heap[s.D]? = some (.deferred (some [])) := (e5.block _ (Array.getElem?_eq_some_iff.1 hD4).1 (by intro e; injection e with e; exact blk_ne_obj h84 hD4 (by intro _ _ _ e; cases e) e.symm)).trans hD4
  have h65 := H4.grown e5 (by intro e; injection e with e; exact blk_ne_blk H4 h84 (by decide) e)
  have ho5 := ho4.gr e5 (fun x hx e => by injection e with e; have := (ho4.base x hx).1; omega)
  replace hB := hB.step (GrM.of_grown (M := fun x => x = s.b5) e5 (fun x e => by injection e with e; exact e.symm)) (fun x hx => .inl (.inr (.inr (.inr (.inl hx)))))
  refine O.nil ?_
  have hend := run_endRound (P := Try.prog) none hl5
  obtain ⟨w6, hw6⟩ : ∃ w6, w5.putObj l (.loop (recL fn tmps s.D)) = w6 := ⟨_, rfl⟩
  have hg6 : w5.grownBy w6 (some l) := by rw [← hw6]; exact putObj_gr _ _ _
  have hl6 : w6.heap[l]? = some (.loop (recL fn tmps s.D)) := by rw [← hw6]; exact World.putObj_heap_same (Array.getElem?_eq_some_iff.1 hl5).1
  have hD6 : w6.heap[s.D]? = some (.deferred (some [])) := (hg6.block _ (Array.getElem?_eq_some_iff.1 hD5).1 (by intro e; injection e with e; rw [e] at hD5; rw [hl5] at hD5; cases hD5)).trans hD5
  have h66 := h65.grown hg6 (by intro e; injection e with e; exact blk_ne_obj h65 hl5 (by intro _ _ _ e; cases e) e)
  have h86 := H5.grown hg6 (by intro e; injection e with e; exact blk_ne_obj H5 hl5 (by intro _ _ _ e; cases e) e)
  have ho6 := ho5.gr hg6 (fun x hx e => by injection e with e; exact own_ne_obj ho5 hl5 (by intro _ _ _ e; cases e) x hx e)
  replace hB := hB.step (GrM.of_grown (M := fun x => x = l) hg6 (fun x e => by injection e with e; exact e.symm)) (fun x hx => .inl (.inl hx))
  refine ⟨.bool true, w6, by rw [← hw6]; exact hend, .bool true, rfl, (fun x => x = l ∨ x = s.D ∨ x = s.b4 ∨ x = s.b5 ∨ MO A' x), rfl, ?_, ?_, hB⟩
  · exact ⟨fn, tmps, f, base, A', c', hl6, h2, h3, h4, hD6, h66, ho6, h86, Nat.le_trans h9 hB.size, h10, rfl⟩
  · rintro x (h | h | h | h | h)
    · exact .inl (.inl h)
    · exact .inl (.inr (.inl h))
    · exact .inl (.inr (.inr (.inl h)))
    · exact .inl (.inr (.inr (.inr (.inl h))))
    · rcases hat with e | e
      · exact .inl (.inr (.inr (.inr (.inr (by unfold MO at h ⊢; rw [← e]; exact h)))))
      · unfold MO at h; rw [e] at h; injection h with h; exact .inr (by rw [← h]; exact hws)
end Go.Proofs.Ytfcaekghpkpjdaa.K

/- Walks, printed by a program of this session. -/
namespace Go.Proofs.Ytfcaekghpkpjdaa.K
open Go Go.RowKit Go.Proofs
set_option linter.unusedVariables false
set_option maxRecDepth 100000
set_option maxHeartbeats 4000000
namespace FB2
theorem mixed0 : Try.prog.follows .mixedOrders = true := by kernel_rfl
theorem sc9 : Sca Try.prog 9 := sca Try.underlying9 rfl
theorem ti9 : TI Try.prog 9 (S []) 1 16 := by unfold TI; kernel_rfl
theorem sz9 : ∀ w, (sizeOf 9).run Try.prog w = .ok 1 w := fun w => ti9.size w
end FB2
open FB2

theorem name_each_1.walk (kf : Nat) (a4 : YSt) (a8 : Str) (M1 : Nat → Prop) (l2 : Nat) (b3 : Nat) (w : World) (H5 : okY.is w M1 l2 a4) (H9 : Blk w b3 [S a8] 9) (S11 : ∀ x y, M1 x → MB b3 y → x ≠ y) (res : YSt) (h : name_each_1.f kf a4 a8 = some res) :
    Ret Try.prog 83 ([.func (.yield l2) #[] #[], pt b3 0] : List Value).toArray w fun v w' => ∃ (M' : Nat → Prop), v = .tuple #[] ∧ okY.is w' M' l2 res ∧ (∀ x, M' x → (MC b3 M1) x ∨ w.heap.size ≤ x) ∧ GrM w w' (MC b3 M1) := by
  unfold name_each_1.f at h
  refine enterX Try.func83 rfl Try.ntmps83 rfl (fun R hR => ?_)
  have hB := GrM.refl w (MC b3 M1)
  refine X.block ?_
  refine X.loop (fun kq462 => fun f321 w320 => ∃ M315 : Nat → Prop, ∃ x316 : YSt, ∃ x317 : Str, f321 0 = .func (.yield l2) #[] #[] ∧ f321 1 = pt b3 0 ∧ GrM w w320 (MC b3 M1) ∧ okY.is w320 M315 l2 x316 ∧ (∀ x, M315 x → (MC b3 M1) x ∨ w.heap.size ≤ x) ∧ Blk w320 b3 [S x317] 9 ∧ (∀ x y, M315 x → MB b3 y → x ≠ y) ∧ name_each_1.l1 kq462 x316 x317 = some res) kf ?_ ?_
  · exact ⟨M1, a4, a8, rfl, rfl, hB, H5, (fun x hx => .inl (.inr hx)), H9, S11, h⟩
  · intro kq462 f321 w320 hI
    obtain ⟨M315, x316, x317, s322, s323, hB, H314, hg7, H318, pr7_10, h⟩ := hI
    cases kq462 with
    | zero => exact absurd h (by rw [name_each_1.l1.eq_1]; simp)
    | succ kf313 =>
      rw [name_each_1.l1.eq_2] at h
      refine X.fr (d := 0) s322 ?_
      refine X.fr (d := 1) s323 ?_
      refine X.seq fun M351 hM352 => ?_
      refine X.cut (fun f365 w364 => ∃ x363 : Bool, f365 0 = .func (.yield l2) #[] #[] ∧ f365 1 = pt b3 0 ∧ f365 23 = .bool x363 ∧ GrM w w364 (MC b3 M1) ∧ okY.is w364 M315 l2 x316 ∧ Blk w364 b3 [S x317] 9 ∧ (∀ x y, M315 x → MB b3 y → x ≠ y) ∧ name_each_1.j2 x317 x316 (name_each_1.l1 kf313) x363 = some res) ?_ ?_
      · refine X.tree mixed0 [0, 1, 3, 7, 15, 31, 63, 127, 255, 511, 1023, 2047, 4095, 8191, 16383, 32767, 8191, 73727, 262143, 524287] (.q 0 (.q 1 (.q 2 (.q 3 (.q 4 (.q 5 (.q 6 (.q 7 (.q 8 (.q 9 (.q 10 (.q 11 (.q 12 (.q 13 (.q 14 (.q 15 (.q 16 (.q 17 (.q 18 (.q 19 .nil)))))))))))))))))))) (fun w' => GrM w w' (MC b3 M1) ∧ okY.is w' M315 l2 x316 ∧ Blk w' b3 [S x317] 9) (fun w' => GrM w w' (MC b3 M1) ∧ okY.is w' M315 l2 x316 ∧ Blk w' b3 [S x317] 9) (by decide +kernel) (fun w' hx _ => ⟨gm_ext hB hx, H314.ext hx, H318.ext hx⟩) (fun a b hC hx => by obtain ⟨hB, H314, H318⟩ := hC; exact ⟨gm_ext hB hx, H314.ext hx, H318.ext hx⟩) (fun a hC => by obtain ⟨hB, H314, H318⟩ := hC; exact ⟨hB, H314, H318⟩) ?_
        refine QT.do (v := S x317) rfl (by decide +kernel) rfl rfl rfl (fun w' hJ => by obtain ⟨hB, H314, H318⟩ := hJ; exact D.load (j := 0) (v := S x317) sc9 H318.cs rfl rfl rfl rfl ⟨rfl, Ext.refl _⟩) ?_
        refine QT.do (v := .bool (!(x317 == ([] : Str)))) rfl (by decide +kernel) rfl rfl rfl (fun w' hJ => by obtain ⟨hB, H314, H318⟩ := hJ; exact D.neqS rfl rfl rfl ⟨rfl, Ext.refl _⟩) ?_
        refine QT.do (v := .bool (!(x317 == ([] : Str)))) rfl (by decide +kernel) rfl rfl rfl (fun w' hJ => by obtain ⟨hB, H314, H318⟩ := hJ; exact D.mv (v := .bool (!(x317 == ([] : Str)))) rfl rfl ⟨rfl, Ext.refl _⟩) ?_
        by_cases c454 : x317 = ([] : Str)
        · rw [if_pos c454] at h
          refine QT.off rfl (wantG0 (j := 2) (b := true) rfl ((congrArg (!·) (beq_iff_eq.2 c454))) rfl) rfl rfl ?_
          refine QT.off rfl (wantG0 (j := 2) (b := true) rfl ((congrArg (!·) (beq_iff_eq.2 c454))) rfl) rfl rfl ?_
          refine QT.off rfl (wantG0 (j := 2) (b := true) rfl ((congrArg (!·) (beq_iff_eq.2 c454))) rfl) rfl rfl ?_
          refine QT.do (v := .bool false) rfl (by decide +kernel) rfl rfl rfl (fun w' hJ => by obtain ⟨hB, H314, H318⟩ := hJ; exact D.pick false (v := .bool false) (congrArg Value.bool ((congrArg (!·) (beq_iff_eq.2 c454)))) rfl rfl ⟨rfl, Ext.refl _⟩) ?_
          refine QT.do (v := .bool false) rfl (by decide +kernel) rfl rfl rfl (fun w' hJ => by obtain ⟨hB, H314, H318⟩ := hJ; exact D.mv (v := .bool false) rfl rfl ⟨rfl, Ext.refl _⟩) ?_
          refine QT.off rfl (wantG0 (j := 7) (b := true) rfl (rfl) rfl) rfl rfl ?_
          refine QT.off rfl (wantG0 (j := 7) (b := true) rfl (rfl) rfl) rfl rfl ?_
          refine QT.off rfl (wantG0 (j := 7) (b := true) rfl (rfl) rfl) rfl rfl ?_
          refine QT.do (v := .bool false) rfl (by decide +kernel) rfl rfl rfl (fun w' hJ => by obtain ⟨hB, H314, H318⟩ := hJ; exact D.pick false (v := .bool false) (congrArg Value.bool (rfl)) rfl rfl ⟨rfl, Ext.refl _⟩) ?_
          refine QT.do (v := .bool false) rfl (by decide +kernel) rfl rfl rfl (fun w' hJ => by obtain ⟨hB, H314, H318⟩ := hJ; exact D.mv (v := .bool false) rfl rfl ⟨rfl, Ext.refl _⟩) ?_
          refine QT.off rfl (wantG0 (j := 12) (b := true) rfl (rfl) rfl) rfl rfl ?_
          refine QT.off rfl (wantG0 (j := 12) (b := true) rfl (rfl) rfl) rfl rfl ?_
          refine QT.off rfl (wantG0 (j := 12) (b := true) rfl (rfl) rfl) rfl rfl ?_
          refine QT.off rfl (wantG0 (j := 12) (b := true) rfl (rfl) rfl) rfl rfl ?_
          refine QT.off rfl (wantG0 (j := 12) (b := true) rfl (rfl) rfl) rfl rfl ?_
          refine QT.off rfl (wantG0 (j := 12) (b := true) rfl (rfl) rfl) rfl rfl ?_
          refine QT.do (v := .bool false) rfl (by decide +kernel) rfl rfl rfl (fun w' hJ => by obtain ⟨hB, H314, H318⟩ := hJ; exact D.pick false (v := .bool false) (congrArg Value.bool (rfl)) rfl rfl ⟨rfl, Ext.refl _⟩) ?_
          refine QT.nil fun w455 hC => ?_
          obtain ⟨hB, H314, H318⟩ := hC
          exact ⟨false, rfl, rfl, rfl, hB, H314, H318, pr7_10, h⟩
        · rw [if_neg c454] at h
          refine QT.do (v := S x317) rfl (by decide +kernel) (wantG (j := 2) (b := true) rfl ((congrArg (!·) (beq_eq_false_iff_ne.2 c454))) rfl) rfl rfl (fun w' hJ => by obtain ⟨hB, H314, H318⟩ := hJ; exact D.load (j := 0) (v := S x317) sc9 H318.cs rfl rfl rfl rfl ⟨rfl, Ext.refl _⟩) ?_
          rcases (Classical.em (0 < (x317.length : Int))).symm with c456 | c456
          · rw [if_neg c456] at h; cases h
          rw [if_pos c456] at h
          refine QT.do (v := .int .u8 (bt x317 0)) rfl (by decide +kernel) (wantG (j := 2) (b := true) rfl ((congrArg (!·) (beq_eq_false_iff_ne.2 c454))) rfl) rfl rfl (fun w' hJ => by obtain ⟨hB, H314, H318⟩ := hJ; exact D.indexS (i := (0 : Int)) Try.underlying9 rfl rfl (by first | decide | simp | omega) c456 rfl ⟨rfl, Ext.refl _⟩) ?_
          refine QT.do (v := .bool (decide (0 < (bt x317 0)))) rfl (by decide +kernel) (wantG (j := 2) (b := true) rfl ((congrArg (!·) (beq_eq_false_iff_ne.2 c454))) rfl) rfl rfl (fun w' hJ => by obtain ⟨hB, H314, H318⟩ := hJ; exact D.gtr rfl rfl rfl ⟨rfl, Ext.refl _⟩) ?_
          refine QT.do (v := .bool (decide (0 < (bt x317 0)))) rfl (by decide +kernel) rfl rfl rfl (fun w' hJ => by obtain ⟨hB, H314, H318⟩ := hJ; exact D.pick true (v := .bool (decide (0 < (bt x317 0)))) (congrArg Value.bool ((congrArg (!·) (beq_eq_false_iff_ne.2 c454)))) rfl rfl ⟨rfl, Ext.refl _⟩) ?_
          refine QT.do (v := .bool (decide (0 < (bt x317 0)))) rfl (by decide +kernel) rfl rfl rfl (fun w' hJ => by obtain ⟨hB, H314, H318⟩ := hJ; exact D.mv (v := .bool (decide (0 < (bt x317 0)))) rfl rfl ⟨rfl, Ext.refl _⟩) ?_
          by_cases c457 : 0 < (bt x317 0)
          · rw [if_pos c457] at h
            refine QT.do (v := S x317) rfl (by decide +kernel) (wantG (j := 7) (b := true) rfl (decide_eq_true c457) rfl) rfl rfl (fun w' hJ => by obtain ⟨hB, H314, H318⟩ := hJ; exact D.load (j := 0) (v := S x317) sc9 H318.cs rfl rfl rfl rfl ⟨rfl, Ext.refl _⟩) ?_
            refine QT.do (v := .int .u8 (bt x317 0)) rfl (by decide +kernel) (wantG (j := 7) (b := true) rfl (decide_eq_true c457) rfl) rfl rfl (fun w' hJ => by obtain ⟨hB, H314, H318⟩ := hJ; exact D.indexS (i := (0 : Int)) Try.underlying9 rfl rfl (by first | decide | simp | omega) c456 rfl ⟨rfl, Ext.refl _⟩) ?_
            refine QT.do (v := .bool (decide ((bt x317 0) ≤ 63))) rfl (by decide +kernel) (wantG (j := 7) (b := true) rfl (decide_eq_true c457) rfl) rfl rfl (fun w' hJ => by obtain ⟨hB, H314, H318⟩ := hJ; exact D.leq rfl rfl rfl ⟨rfl, Ext.refl _⟩) ?_
            refine QT.do (v := .bool (decide ((bt x317 0) ≤ 63))) rfl (by decide +kernel) rfl rfl rfl (fun w' hJ => by obtain ⟨hB, H314, H318⟩ := hJ; exact D.pick true (v := .bool (decide ((bt x317 0) ≤ 63))) (congrArg Value.bool (decide_eq_true c457)) rfl rfl ⟨rfl, Ext.refl _⟩) ?_
            refine QT.do (v := .bool (decide ((bt x317 0) ≤ 63))) rfl (by decide +kernel) rfl rfl rfl (fun w' hJ => by obtain ⟨hB, H314, H318⟩ := hJ; exact D.mv (v := .bool (decide ((bt x317 0) ≤ 63))) rfl rfl ⟨rfl, Ext.refl _⟩) ?_
            by_cases c458 : (bt x317 0) ≤ 63
            · rw [if_pos c458] at h
              refine QT.do (v := S x317) rfl (by decide +kernel) (wantG (j := 12) (b := true) rfl (decide_eq_true c458) rfl) rfl rfl (fun w' hJ => by obtain ⟨hB, H314, H318⟩ := hJ; exact D.load (j := 0) (v := S x317) sc9 H318.cs rfl rfl rfl rfl ⟨rfl, Ext.refl _⟩) ?_
              refine QT.do (v := .int .u8 (bt x317 0)) rfl (by decide +kernel) (wantG (j := 12) (b := true) rfl (decide_eq_true c458) rfl) rfl rfl (fun w' hJ => by obtain ⟨hB, H314, H318⟩ := hJ; exact D.indexS (i := (0 : Int)) Try.underlying9 rfl rfl (by first | decide | simp | omega) c456 rfl ⟨rfl, Ext.refl _⟩) ?_
              refine QT.do (v := .int .i64 (w64 (bt x317 0))) rfl (by decide +kernel) (wantG (j := 12) (b := true) rfl (decide_eq_true c458) rfl) rfl rfl (fun w' hJ => by obtain ⟨hB, H314, H318⟩ := hJ; exact D.conv Try.underlying5 Try.underlying3 rfl rfl ⟨rfl, Ext.refl _⟩) ?_
              refine QT.do (v := S x317) rfl (by decide +kernel) (wantG (j := 12) (b := true) rfl (decide_eq_true c458) rfl) rfl rfl (fun w' hJ => by obtain ⟨hB, H314, H318⟩ := hJ; exact D.load (j := 0) (v := S x317) sc9 H318.cs rfl rfl rfl rfl ⟨rfl, Ext.refl _⟩) ?_
              refine QT.do (v := .int .i64 (x317.length : Int)) rfl (by decide +kernel) (wantG (j := 12) (b := true) rfl (decide_eq_true c458) rfl) rfl rfl (fun w' hJ => by obtain ⟨hB, H314, H318⟩ := hJ; exact D.lenS Try.underlying9 rfl rfl ⟨rfl, Ext.refl _⟩) ?_
              refine QT.do (v := .bool (decide ((w64 (bt x317 0)) < (x317.length : Int)))) rfl (by decide +kernel) (wantG (j := 12) (b := true) rfl (decide_eq_true c458) rfl) rfl rfl (fun w' hJ => by obtain ⟨hB, H314, H318⟩ := hJ; exact D.lss rfl rfl rfl ⟨rfl, Ext.refl _⟩) ?_
              refine QT.do (v := .bool (decide ((w64 (bt x317 0)) < (x317.length : Int)))) rfl (by decide +kernel) rfl rfl rfl (fun w' hJ => by obtain ⟨hB, H314, H318⟩ := hJ; exact D.pick true (v := .bool (decide ((w64 (bt x317 0)) < (x317.length : Int)))) (congrArg Value.bool (decide_eq_true c458)) rfl rfl ⟨rfl, Ext.refl _⟩) ?_
              refine QT.nil fun w459 hC => ?_
              obtain ⟨hB, H314, H318⟩ := hC
              exact ⟨(decide ((w64 (bt x317 0)) < (x317.length : Int))), rfl, rfl, rfl, hB, H314, H318, pr7_10, h⟩
            · rw [if_neg c458] at h
              refine QT.off rfl (wantG0 (j := 12) (b := true) rfl (decide_eq_false c458) rfl) rfl rfl ?_
              refine QT.off rfl (wantG0 (j := 12) (b := true) rfl (decide_eq_false c458) rfl) rfl rfl ?_
              refine QT.off rfl (wantG0 (j := 12) (b := true) rfl (decide_eq_false c458) rfl) rfl rfl ?_
              refine QT.off rfl (wantG0 (j := 12) (b := true) rfl (decide_eq_false c458) rfl) rfl rfl ?_
              refine QT.off rfl (wantG0 (j := 12) (b := true) rfl (decide_eq_false c458) rfl) rfl rfl ?_
              refine QT.off rfl (wantG0 (j := 12) (b := true) rfl (decide_eq_false c458) rfl) rfl rfl ?_
              refine QT.do (v := .bool false) rfl (by decide +kernel) rfl rfl rfl (fun w' hJ => by obtain ⟨hB, H314, H318⟩ := hJ; exact D.pick false (v := .bool false) (congrArg Value.bool (decide_eq_false c458)) rfl rfl ⟨rfl, Ext.refl _⟩) ?_
              refine QT.nil fun w460 hC => ?_
              obtain ⟨hB, H314, H318⟩ := hC
              exact ⟨false, rfl, rfl, rfl, hB, H314, H318, pr7_10, h⟩
          · rw [if_neg c457] at h
            refine QT.off rfl (wantG0 (j := 7) (b := true) rfl (decide_eq_false c457) rfl) rfl rfl ?_
            refine QT.off rfl (wantG0 (j := 7) (b := true) rfl (decide_eq_false c457) rfl) rfl rfl ?_
            refine QT.off rfl (wantG0 (j := 7) (b := true) rfl (decide_eq_false c457) rfl) rfl rfl ?_
            refine QT.do (v := .bool false) rfl (by decide +kernel) rfl rfl rfl (fun w' hJ => by obtain ⟨hB, H314, H318⟩ := hJ; exact D.pick false (v := .bool false) (congrArg Value.bool (decide_eq_false c457)) rfl rfl ⟨rfl, Ext.refl _⟩) ?_
            refine QT.do (v := .bool false) rfl (by decide +kernel) rfl rfl rfl (fun w' hJ => by obtain ⟨hB, H314, H318⟩ := hJ; exact D.mv (v := .bool false) rfl rfl ⟨rfl, Ext.refl _⟩) ?_
            refine QT.off rfl (wantG0 (j := 12) (b := true) rfl (rfl) rfl) rfl rfl ?_
            refine QT.off rfl (wantG0 (j := 12) (b := true) rfl (rfl) rfl) rfl rfl ?_
            refine QT.off rfl (wantG0 (j := 12) (b := true) rfl (rfl) rfl) rfl rfl ?_
            refine QT.off rfl (wantG0 (j := 12) (b := true) rfl (rfl) rfl) rfl rfl ?_
            refine QT.off rfl (wantG0 (j := 12) (b := true) rfl (rfl) rfl) rfl rfl ?_
            refine QT.off rfl (wantG0 (j := 12) (b := true) rfl (rfl) rfl) rfl rfl ?_
            refine QT.do (v := .bool false) rfl (by decide +kernel) rfl rfl rfl (fun w' hJ => by obtain ⟨hB, H314, H318⟩ := hJ; exact D.pick false (v := .bool false) (congrArg Value.bool (rfl)) rfl rfl ⟨rfl, Ext.refl _⟩) ?_
            refine QT.nil fun w461 hC => ?_
            obtain ⟨hB, H314, H318⟩ := hC
            exact ⟨false, rfl, rfl, rfl, hB, H314, H318, pr7_10, h⟩
      · intro f365 w364 hI
        obtain ⟨x363, s366, s367, s368, hB, H361, H362, pr7_10, h⟩ := hI
        refine X.fr (d := 0) s366 ?_
        refine X.fr (d := 1) s367 ?_
        refine X.fr (d := 23) s368 ?_
        unfold name_each_1.j2 at h
        by_cases c369 : x363 = true
        · rw [if_pos c369] at h
          refine X.condT (congrArg Value.bool (c369)) ?_
          refine X.skip ?_
          refine hM352 _ _ ?_
          refine X.block ?_
          refine X.seq fun M370 hM371 => ?_
          refine X.region ?_
          refine XO.do rfl (D.load (j := 0) (v := S x317) sc9 H362.cs rfl rfl rfl rfl ?_)
          rcases (Classical.em (0 < (x317.length : Int))).symm with c372 | c372
          · rw [if_neg c372] at h; cases h
          rw [if_pos c372] at h
          refine XO.do rfl (D.indexS (i := (0 : Int)) Try.underlying9 rfl rfl (by first | decide | simp | omega) c372 rfl ?_)
          refine XO.do rfl (D.conv Try.underlying5 Try.underlying3 rfl rfl ?_)
          refine XO.do rfl (D.add rfl rfl rfl ?_)
          refine XO.do rfl (D.asn (v := .int .i64 (w64 (1 + (w64 (bt x317 0))))) rfl rfl ?_)
          refine XO.nil ?_
          refine hM371 _ _ ?_
          refine X.seq fun M411 hM412 => ?_
          refine X.seq fun M413 hM414 => ?_
          refine X.tree mixed0 [0, 0, 0, 6, 0, 0, 48, 127, 255] (.q 0 (.q 1 (.q 2 (.q 3 (.q 4 (.q 5 (.q 6 (.alt 7 (.q 8 .nil) .nil)))))))) (fun w' => GrM w w' (MC b3 M1) ∧ Blk w' b3 [S x317] 9) (fun w' => GrM w w' (MC b3 M1) ∧ okY.is w' M315 l2 x316 ∧ Blk w' b3 [S x317] 9) (by decide +kernel) (fun w' hx _ => ⟨gm_ext hB hx, H361.ext hx, H362.ext hx⟩) (fun a b hC hx => by obtain ⟨hB, H361, H362⟩ := hC; exact ⟨gm_ext hB hx, H361.ext hx, H362.ext hx⟩) (fun a hC => by obtain ⟨hB, H361, H362⟩ := hC; exact ⟨hB, H362⟩) ?_
          refine QT.do (v := .func (.yield l2) #[] #[]) rfl (by decide +kernel) rfl rfl rfl (fun w' hJ => by obtain ⟨hB, H361, H362⟩ := hJ; exact D.mv (v := .func (.yield l2) #[] #[]) rfl rfl ⟨rfl, Ext.refl _⟩) ?_
          refine QT.do (v := S x317) rfl (by decide +kernel) rfl rfl rfl (fun w' hJ => by obtain ⟨hB, H361, H362⟩ := hJ; exact D.load (j := 0) (v := S x317) sc9 H362.cs rfl rfl rfl rfl ⟨rfl, Ext.refl _⟩) ?_
          refine QT.do (v := .int .i64 (w64 (1 + (w64 (bt x317 0))))) rfl (by decide +kernel) rfl rfl rfl (fun w' hJ => by obtain ⟨hB, H361, H362⟩ := hJ; exact D.mv (v := .int .i64 (w64 (1 + (w64 (bt x317 0))))) rfl rfl ⟨rfl, Ext.refl _⟩) ?_
          rcases (Classical.em (1 ≤ w64 (1 + (w64 (bt x317 0))))).symm with c432 | c432
          · rw [if_neg c432] at h; cases h
          rw [if_pos c432] at h
          rcases (Classical.em (w64 (1 + (w64 (bt x317 0))) ≤ (x317.length : Int))).symm with c433 | c433
          · rw [if_neg c433] at h; cases h
          rw [if_pos c433] at h
          refine QT.do (v := S ((x317.drop (1 : Int).toNat).take ((w64 (1 + (w64 (bt x317 0)))).toNat - (1 : Int).toNat))) rfl (by decide +kernel) rfl rfl rfl (fun w' hJ => by obtain ⟨hB, H361, H362⟩ := hJ; exact D.sliceS (i := (1 : Int)) (j := w64 (1 + (w64 (bt x317 0)))) Try.underlying9 rfl rfl rfl (by first | decide | simp | omega) c432 c433 rfl ⟨rfl, Ext.refl _⟩) ?_
          refine QT.do (v := S x317) rfl (by decide +kernel) rfl rfl rfl (fun w' hJ => by obtain ⟨hB, H361, H362⟩ := hJ; exact D.load (j := 0) (v := S x317) sc9 H362.cs rfl rfl rfl rfl ⟨rfl, Ext.refl _⟩) ?_
          refine QT.do (v := .int .i64 (w64 (1 + (w64 (bt x317 0))))) rfl (by decide +kernel) rfl rfl rfl (fun w' hJ => by obtain ⟨hB, H361, H362⟩ := hJ; exact D.mv (v := .int .i64 (w64 (1 + (w64 (bt x317 0))))) rfl rfl ⟨rfl, Ext.refl _⟩) ?_
          rcases (Classical.em (0 ≤ w64 (1 + (w64 (bt x317 0))))).symm with c434 | c434
          · rw [if_neg c434] at h; cases h
          rw [if_pos c434] at h
          refine QT.do (v := S (x317.drop (w64 (1 + (w64 (bt x317 0)))).toNat)) rfl (by decide +kernel) rfl rfl rfl (fun w' hJ => by obtain ⟨hB, H361, H362⟩ := hJ; exact D.sliceSlo (i := w64 (1 + (w64 (bt x317 0)))) Try.underlying9 rfl rfl c434 c433 rfl ⟨rfl, Ext.refl _⟩) ?_
          refine QT.eff rfl rfl (fun w435 hC => ?_) QT.nomore
          obtain ⟨hB, H361, H362⟩ := hC
          rcases (Classical.em (yStep.pre x316 ((x317.drop (1 : Int).toNat).take ((w64 (1 + (w64 (bt x317 0)))).toNat - (1 : Int).toNat)) (x317.drop (w64 (1 + (w64 (bt x317 0)))).toNat))).symm with c436 | c436
          · rw [if_neg c436] at h; cases h
          rw [if_pos c436] at h
          obtain ⟨r440, q441, h⟩ := lt_elim h
          have hc439 := yStep.ok x316 ((x317.drop (1 : Int).toNat).take ((w64 (1 + (w64 (bt x317 0)))).toNat - (1 : Int).toNat)) (x317.drop (w64 (1 + (w64 (bt x317 0)))).toNat) M315 l2 w435 H361 c436 
          rw [q441] at hc439
          clear q441
          refine D.yieldO (vs := [S ((x317.drop (1 : Int).toNat).take ((w64 (1 + (w64 (bt x317 0)))).toNat - (1 : Int).toNat)), S (x317.drop (w64 (1 + (w64 (bt x317 0)))).toNat)])  hc439 rfl rfl rfl ?_
          rintro _ w442 ⟨M445, rfl, H443, u446, e444⟩
          clear hc439
          have pr7_10n := ne_sub u446 pr7_10 (MB.lt H362 (Nat.le_refl _))
          have v324n := sub_sub u446 hg7 hB.size
          replace hB := hB.step e444 hg7
          replace H362 := H362.gm e444 (sepM (ne_flip pr7_10))
          replace pr7_10 := pr7_10n
          clear e444 u446 H361
          have v447 := v324n
          clear v324n
          refine ⟨_, rfl, (fun w' => GrM w w' (MC b3 M1) ∧ okY.is w' M445 l2 r440.2 ∧ Blk w' b3 [S x317] 9), ⟨hB, H443, H362⟩, (fun a b hC hx => by obtain ⟨hB, H443, H362⟩ := hC; exact ⟨gm_ext hB hx, H443.ext hx, H362.ext hx⟩), (fun a hC => by obtain ⟨hB, H443, H362⟩ := hC; exact ⟨hB, H362⟩), ?_⟩
          refine QT.do (v := .bool (!r440.1)) rfl (by decide +kernel) rfl rfl rfl (fun w' hJ => by obtain ⟨hB, H443, H362⟩ := hJ; exact D.not r440.1 rfl rfl ⟨rfl, Ext.refl _⟩) ?_
          refine QT.nil fun w449 hC => ?_
          obtain ⟨hB, H443, H362⟩ := hC
          refine hM414 _ _ ?_
          by_cases c450 : r440.1 = true
          · rw [if_pos c450] at h
            refine X.condF (congrArg Value.bool ((congrArg (!·) (c450)))) ?_
            refine X.skip ?_
            refine hM412 _ _ ?_
            refine X.region ?_
            refine XO.do rfl (D.load (j := 0) (v := S x317) sc9 H362.cs rfl rfl rfl rfl ?_)
            refine XO.do rfl (D.mv (v := .int .i64 (w64 (1 + (w64 (bt x317 0))))) rfl rfl ?_)
            refine XO.do rfl (D.sliceSlo (i := w64 (1 + (w64 (bt x317 0)))) Try.underlying9 rfl rfl c434 c433 rfl ?_)
            refine XO.do rfl (D.store (v := S (x317.drop (w64 (1 + (w64 (bt x317 0)))).toNat)) (us := [S (x317.drop (w64 (1 + (w64 (bt x317 0)))).toNat)]) sz9 H362 rfl rfl rfl rfl rfl rfl ?_)
            intro w451 H452 e453
            replace hB := gm_blkC hB e453
            replace H443 := H443.gr e453 (sepB pr7_10)
            clear e453
            refine XO.nil ?_
            exact ⟨kf313, Nat.lt_succ_self _, M445, r440.2, x317.drop (w64 (1 + (w64 (bt x317 0)))).toNat, rfl, rfl, hB, H443, v447, H452, pr7_10, h⟩
          · rw [if_neg c450] at h
            refine X.condT (congrArg Value.bool ((congrArg (!·) ((Bool.eq_false_iff.2 c450))))) ?_
            refine X.ret ?_
            injection h with h
            subst h
            exact hR _ _ _ (ret0 rfl) ⟨M445, rfl, H443, v447, hB⟩
        · rw [if_neg c369] at h
          refine X.condF (congrArg Value.bool ((Bool.eq_false_iff.2 c369))) ?_
          refine X.exit rfl ?_
          injection h with h
          subst h
          exact hR _ _ _ (ret0 rfl) ⟨M315, rfl, H361, hg7, hB⟩
theorem name_each_1.ok (a4 : YSt) (a8 : Str) (M1 : Nat → Prop) (l2 : Nat) (b3 : Nat) (w : World) (H5 : okY.is w M1 l2 a4) (H9 : Blk w b3 [S a8] 9) (S11 : ∀ x y, M1 x → MB b3 y → x ≠ y) (hp : name_each_1.pre a4 a8) :
    Ret Try.prog 83 ([.func (.yield l2) #[] #[], pt b3 0] : List Value).toArray w fun v w' => ∃ (M' : Nat → Prop), v = .tuple #[] ∧ okY.is w' M' l2 (name_each_1 a4 a8) ∧ (∀ x, M' x → (MC b3 M1) x ∨ w.heap.size ≤ x) ∧ GrM w w' (MC b3 M1) := by
  obtain ⟨kf, h⟩ := name_each_1.eq a4 a8 hp
  exact name_each_1.walk kf a4 a8 M1 l2 b3 w H5 H9 S11 _ h
end Go.Proofs.Ytfcaekghpkpjdaa.K

/- name.each, name.Labels: what they hand back. -/
namespace Go.Proofs.Ytfcaekghpkpjdaa.K
open Go Go.RowKit Go.Proofs
set_option linter.unusedVariables false
set_option maxRecDepth 100000
set_option maxHeartbeats 4000000
theorem putObj_below {w0 w : World} {D : Nat} {o : Obj} (h : Below w0.heap.size w0 w) (hD : w0.heap.size ≤ D) : Below w0.heap.size w0 (w.putObj D o) := below_blk h (putObj_gr w D o) hD
theorem each_ok (n : Str) (w : World) : Ret Try.prog 73 ([S n] : List Value).toArray w fun v w' => ∃ b, v = .func (.func 83) #[] #[pt b 0] ∧ Blk w' b [S n] 9 ∧ w.heap.size ≤ b ∧ Ext w w' := by
  refine enterX Try.func73 rfl Try.ntmps73 rfl (fun R hR => ?_)
  refine X.seq fun M hM => ?_
  refine X.region ?_
  refine XO.do rfl (D.box (v := S n) (cs := [S n]) rfl rfl rfl ?_)
  intro b w2 hb H en _
  refine XO.do rfl (D.asn (v := .nilFunc) rfl rfl ?_)
  refine XO.nil ?_
  refine hM _ _ ?_
  refine X.seq fun M hM => ?_
  refine X.region ?_
  refine XO.do rfl (D.makeFunc (vs := [pt b 0]) rfl rfl ?_)
  refine XO.do rfl (D.asn (v := .func (.func 83) #[] #[pt b 0]) rfl rfl ?_)
  refine XO.nil ?_
  refine hM _ _ ?_
  refine X.ret ?_
  exact hR _ _ _ (ret1 (v := .func (.func 83) #[] #[pt b 0]) rfl rfl) ⟨b, rfl, H, Nat.le_of_eq hb.symm, en⟩
theorem name_Labels.ok (n : Str) (w : World) (hp : name_Labels.pre n) : Ret Try.prog 53 ([S n] : List Value).toArray w fun v w' => ∃ (A1 : Option Go.Addr) (k1 : Nat), v = .tuple #[.slice A1 (name_Labels n).1.length k1, .int .i64 (name_Labels n).2] ∧ Row eStr w' A1 k1 (name_Labels n).1 ∧ (∀ y, blkOf A1 = some y → w.heap.size ≤ y) ∧ Ext w w' := by
  refine enterM (n := 26) Try.func53 rfl Try.ntmps53 rfl (fun a ha had => ?_)
  have hB := Below.refl w.heap.size w
  refine seqA (fun f' w' => f' 0 = S n ∧ w' = w) ha ?_ ?_
  · refine X.region ?_
    refine XO.do rfl (D.asn (v := .slice none 0 0) rfl rfl ?_)
    refine XO.do rfl (D.asn (v := .int .i64 0) rfl rfl ?_)
    exact XO.nil ⟨rfl, rfl⟩
  rintro f1 w1 a1 ⟨h0, rfl⟩ ha1 hd1
  refine seqA (fun f' w' => ∃ b4, f' 0 = S n ∧ f' 4 = pt b4 0 ∧ Blk w' b4 [.slice none 0 0] 94 ∧ w1.heap.size ≤ b4 ∧ Below w1.heap.size w1 w') ha1 ?_ ?_
  · refine X.region ?_
    refine XO.do rfl (D.alloc tiStrs (cs := [.slice none 0 0]) rfl rfl ?_)
    intro b4 w2 hb H en _
    exact XO.nil ⟨b4, h0, rfl, H, Nat.le_of_eq hb.symm, below_ext hB en⟩
  rintro f2 w2 a2 ⟨b4, h0, h4, H4, g4, hB2⟩ ha2 hd2
  refine seqA (fun f' w' => ∃ b5, f' 0 = S n ∧ f' 4 = pt b4 0 ∧ f' 5 = pt b5 0 ∧ Blk w' b4 [.slice none 0 0] 94 ∧ Blk w' b5 [S n] 9 ∧ w1.heap.size ≤ b5 ∧ Below w1.heap.size w1 w') ha2 ?_ ?_
  · refine X.region ?_
    refine XO.do rfl (D.mv (v := S n) h0 rfl ?_)
    refine XO.do rfl (D.alloc tiStr (cs := [S []]) rfl rfl ?_)
    intro b5 w3 hb H5 en _
    refine XO.do rfl (D.store (v := S n) (us := [S n]) (fun w => tiStr.size w) H5 rfl rfl rfl rfl rfl rfl ?_)
    intro w4 H5' e4
    have hs := hB2.size
    have g5 : w1.heap.size ≤ b5 := Nat.le_trans hs (Nat.le_of_eq hb.symm)
    exact XO.nil ⟨b5, h0, h4, rfl, (H4.ext en).grown e4 (by intro e; injection e with e; exact blk_ne_blk (H4.ext en) H5 (by decide) e), H5', g5, below_blk (below_ext hB2 en) e4 g5⟩
  rintro f3 w3 a3 ⟨b5, h0, h4, h5, H4, H5, g5, hB3⟩ ha3 hd3
  refine wpIn_seq ?_
  refine seqA (fun f' w' => ∃ b, f' 0 = S n ∧ f' 4 = pt b4 0 ∧ f' 5 = pt b5 0 ∧ f' 10 = .func (.func 83) #[] #[pt b 0] ∧ Blk w' b4 [.slice none 0 0] 94 ∧ Blk w' b5 [S n] 9 ∧ Blk w' b [S n] 9 ∧ b5 < b ∧ w1.heap.size ≤ b ∧ Below w1.heap.size w1 w') ha3 ?_ ?_
  · refine X.region ?_
    refine XO.do rfl (D.mv (v := S n) h0 rfl ?_)
    refine XO.do rfl (D.call (vs := [S n]) (callable Try.func73 (by kernel_rfl) rfl) (each_ok n w3) rfl rfl ?_)
    rintro _ w4 ⟨b, rfl, Hb, gb, en⟩
    have := H5.lt
    exact XO.nil ⟨b, h0, h4, h5, rfl, H4.ext en, H5.ext en, Hb, by omega, Nat.le_trans hB3.size gb, below_ext hB3 en⟩
  rintro f4 w4 a4 ⟨b, h0, h4, h5, h10, H4, H5, Hb, hb5, gb, hB4⟩ ha4 hd4
  refine wpIn_block ?_
  refine rangeR (gf := 83) (lb := #[pt b 0]) (by rw [ha4.eval]; exact h10) (callable Try.func83 (by kernel_rfl) rfl) ?_
  intro fn
  obtain ⟨W0, hW0⟩ : ∃ W0, w4.alloc (.deferred (some [])) = W0 := ⟨_, rfl⟩
  rw [hW0]
  have e0 : Ext w4 W0 := by rw [← hW0]; exact Ext.alloc _ _
  have hD0 : W0.heap[w4.heap.size]? = some (.deferred (some [])) := by rw [← hW0]; exact heap_alloc_new _ _
  have hs0 : W0.heap.size = w4.heap.size + 1 := by rw [← hW0]; simp
  obtain ⟨W1, hW1⟩ : ∃ W1, W0.alloc (.loop (recL fn a4.tmps w4.heap.size)) = W1 := ⟨_, rfl⟩
  have e1 : Ext W0 W1 := by rw [← hW1]; exact Ext.alloc _ _
  have hl1 : W1.heap[w4.heap.size + 1]? = some (.loop (recL fn a4.tmps w4.heap.size)) := by rw [← hW1, ← hs0]; exact heap_alloc_new _ _
  have hD1 : W1.heap[w4.heap.size]? = some (.deferred (some [])) := (e1.block _ (by omega) (by simp)).trans hD0
  have hs1 : W1.heap.size = w4.heap.size + 2 := by rw [← hW1]; simp [hs0]
  have hB1 : Below w1.heap.size w1 W1 := below_ext (below_ext hB4 e0) e1
  have hY : okY.is W1 (fun x => x = w4.heap.size + 1 ∨ x = w4.heap.size ∨ x = b4 ∨ x = b5 ∨ MO none x) (w4.heap.size + 1) ⟨w4.heap.size, b4, b5, [], n⟩ :=
    ⟨fn, a4.tmps, f4, W1.heap.size, none, 0, hl1, ⟨ha4.size, ha4.get⟩, h4, h5, hD1, (H4.ext e0).ext e1, Own.nil _ _ _ _, (H5.ext e0).ext e1, Nat.le_refl _, ((H5.ext e0).ext e1).lt, rfl⟩
  have hb4 := Hb.lt
  have hYs : ∀ x y, (fun x => x = w4.heap.size + 1 ∨ x = w4.heap.size ∨ x = b4 ∨ x = b5 ∨ MO none x) x → MB b y → x ≠ y := by
    rintro x y hx hy e
    have hy' : y = b := hy
    subst hy'
    subst e
    rcases hx with h | h | h | h | h
    · omega
    · omega
    · exact blk_ne_blk Hb H4 (by decide) h
    · omega
    · simp [MO, blkOf] at h
  have hcall := name_each_1.ok ⟨w4.heap.size, b4, b5, [], n⟩ n _ (w4.heap.size + 1) b W1 hY ((Hb.ext e0).ext e1) hYs (by unfold name_each_1.pre; unfold name_Labels.pre at hp; simpa using hp)
  show Calls _ _ _ (W0.alloc (.loop (recL fn a4.tmps w4.heap.size))) _
  rw [hW1]
  refine Calls.mono hcall ?_
  rintro e w5 ⟨v, rfl, M', rfl, hY5, hsub, hg⟩
  refine ⟨_, rfl, ?_⟩
  have hg4 : w1.heap.size ≤ w4.heap.size := hB4.size
  have hB5 : Below w1.heap.size w1 w5 := below_gm hB1 hg (by
    rintro x (h | h | h | h | h | h)
    · rw [show x = b from h]; exact gb
    · omega
    · omega
    · omega
    · omega
    · simp [MO, blkOf] at h)
  have hres : name_each_1 ⟨w4.heap.size, b4, b5, [], n⟩ n = ⟨w4.heap.size, b4, b5, (split n).1, (split n).2⟩ := by
    unfold name_each_1; rw [eachN_split _ _ _ rfl]; simp [split]
  rw [hres] at hY5
  obtain ⟨fn', tmps', f', base, A, c, q1, q2, q3, q4, q5, q6, q7, q8, q9, q10, q11⟩ := hY5
  simp only at q1 q3 q4 q5 q6 q7 q8 q10
  have hend := run_endLoop (P := Try.prog) q1 (by simp [recL])
  obtain ⟨w6, hw6⟩ : ∃ w6, w5.putObj (w4.heap.size + 1) (.loop { recL fn' tmps' w4.heap.size with state := .exhausted }) = w6 := ⟨_, rfl⟩
  refine ⟨w6, by rw [← hw6]; exact hend, ?_⟩
  have hg6 : w5.grownBy w6 (some (w4.heap.size + 1)) := by rw [← hw6]; exact putObj_gr _ _ _
  have hD6 : w6.heap[w4.heap.size]? = some (.deferred (some [])) := (hg6.block _ (Array.getElem?_eq_some_iff.1 q5).1 (by intro e; injection e with e; omega)).trans q5
  have H46 := q6.grown hg6 (by intro e; injection e with e; exact blk_ne_obj q6 q1 (by intro _ _ _ e; cases e) e)
  have H56 := q8.grown hg6 (by intro e; injection e with e; exact blk_ne_obj q8 q1 (by intro _ _ _ e; cases e) e)
  have ho6 := q7.gr hg6 (fun x hx e => by injection e with e; exact own_ne_obj q7 q1 (by intro _ _ _ e; cases e) x hx e)
  have hB6 : Below w1.heap.size w1 w6 := below_blk hB5 hg6 (by omega)
  have hB7 : Below w1.heap.size w1 (w6.putObj w4.heap.size (.deferred none)) := putObj_below hB6 hg4
  have ho7 : Own eStr 9 (w6.putObj w4.heap.size (.deferred none)) base A c (split n).1 := ho6.gr (putObj_gr _ _ _) (fun x hx e => by injection e with e; exact own_ne_obj ho6 hD6 (by intro _ _ _ e; cases e) x hx e)
  have hge : ∀ y, blkOf A = some y → w1.heap.size ≤ y := fun y hy => by
    have h1 := (q7.base y hy).1
    omega
  let FIN : Cont := fun f w => w.heap[w4.heap.size]? = some (.deferred (some [])) ∧ ∃ v, RetV Try.prog 26 Try.f53 f (w.putObj w4.heap.size (.deferred none)) v ∧
    ∃ (A1 : Option Go.Addr) (k1 : Nat), v = .tuple #[.slice A1 (name_Labels n).1.length k1, .int .i64 (name_Labels n).2] ∧ Row eStr (w.putObj w4.heap.size (.deferred none)) A1 k1 (name_Labels n).1 ∧ (∀ y, blkOf A1 = some y → w1.heap.size ≤ y) ∧ Ext w1 (w.putObj w4.heap.size (.deferred none))
  refine Code.wpIn_mono ?_ ((?_ : X Try.prog 26 _ FIN [] FIN f4 w6) _ (⟨ha4.size, ha4.get⟩ : Is { a4 with defers := { target := .collected w4.heap.size, args := #[] } :: a4.defers } 26 f4))
  · rintro e a' w' ⟨f', hf', hd, q⟩
    have hd' : a'.defers = mark w4.heap.size := by rw [hd]; simp only [hd4, hd3, hd2, hd1, had]; rfl
    cases e with
    | normal => exact ⟨_, f', hf', hd', q⟩
    | ret => exact ⟨_, f', hf', hd', q⟩
    | exit j => exact q.elim
    | _ => exact q.elim
  refine X.seq fun M hM => ?_
  refine X.block ?_
  refine X.seq fun M2 hM2 => ?_
  refine X.region ?_
  refine XO.do rfl (D.load (j := 0) (v := S (split n).2) (sca Try.underlying9 rfl) H56.cs h5 rfl rfl rfl ?_)
  refine XO.do rfl (D.neqS (a := (split n).2) (b := [0]) rfl rfl rfl ?_)
  refine XO.do rfl (D.asn (v := .bool (!((split n).2 == [0]))) rfl rfl ?_)
  refine XO.nil ?_
  refine hM2 _ _ ?_
  by_cases hl : (split n).2 = [0]
  · refine X.condF (congrArg Value.bool (by rw [hl]; rfl)) ?_
    refine X.seq fun M3 hM3 => ?_
    refine X.region ?_
    refine XO.do rfl (D.mv (v := S n) h0 rfl ?_)
    refine XO.do rfl (D.lenS (a := n) Try.underlying9 rfl rfl ?_)
    refine XO.do rfl (D.gtr rfl rfl rfl ?_)
    refine XO.do rfl (D.asn (v := .bool (decide ((255 : Int) < (n.length : Int)))) rfl rfl ?_)
    refine XO.nil ?_
    refine hM3 _ _ ?_
    by_cases h255 : (255 : Int) < (n.length : Int)
    · refine X.condT (congrArg Value.bool (decide_eq_true h255)) ?_
      refine X.seq fun M3 hM3 => ?_
      refine X.region ?_
      refine XO.do rfl (D.asn (v := .slice none 0 0) rfl rfl ?_)
      refine XO.do rfl (D.asn (v := .int .i64 3) rfl rfl ?_)
      refine XO.nil ?_
      refine hM3 _ _ ?_
      refine X.ret ?_
      have hr : name_Labels n = ([], 3) := by unfold name_Labels; rw [if_pos hl, if_pos (by omega)]
      refine ⟨hD6, .tuple #[.slice none 0 0, .int .i64 3], ret2 (v := .slice none 0 0) (v' := .int .i64 3) rfl rfl rfl, none, 0, by rw [hr]; rfl, by rw [hr]; exact Row.nil _ _ none 0 (by decide), (fun y hy => by simp [blkOf] at hy), ext_of_below hB7⟩
    · refine X.condF (congrArg Value.bool (decide_eq_false h255)) ?_
      refine X.skip ?_
      refine hM _ _ ?_
      refine X.seq fun M3 hM3 => ?_
      refine X.region ?_
      refine XO.do rfl (D.load (j := 0) (v := .slice A (split n).1.length c) (sca Try.underlying94 rfl) H46.cs h4 rfl rfl rfl ?_)
      refine XO.do rfl (D.asn (v := .slice A (split n).1.length c) rfl rfl ?_)
      refine XO.do rfl (D.asn (v := .int .i64 0) rfl rfl ?_)
      refine XO.nil ?_
      refine hM3 _ _ ?_
      refine X.ret ?_
      have hr : name_Labels n = ((split n).1, 0) := by unfold name_Labels; rw [if_pos hl, if_neg (by omega)]
      refine ⟨hD6, .tuple #[.slice A (split n).1.length c, .int .i64 0], ret2 (v := .slice A (split n).1.length c) (v' := .int .i64 0) rfl rfl rfl, A, c, by rw [hr], by rw [hr]; exact ho7.row, hge, ext_of_below hB7⟩
  · refine X.condT (congrArg Value.bool (by rw [beq_eq_false_iff_ne.2 hl]; rfl)) ?_
    refine X.seq fun M3 hM3 => ?_
    refine X.region ?_
    refine XO.do rfl (D.asn (v := .slice none 0 0) rfl rfl ?_)
    refine XO.do rfl (D.asn (v := .int .i64 2) rfl rfl ?_)
    refine XO.nil ?_
    refine hM3 _ _ ?_
    refine X.ret ?_
    have hr : name_Labels n = ([], 2) := by unfold name_Labels; rw [if_neg hl]
    refine ⟨hD6, .tuple #[.slice none 0 0, .int .i64 2], ret2 (v := .slice none 0 0) (v' := .int .i64 2) rfl rfl rfl, none, 0, by rw [hr]; rfl, by rw [hr]; exact Row.nil _ _ none 0 (by decide), (fun y hy => by simp [blkOf] at hy), ext_of_below hB7⟩
end Go.Proofs.Ytfcaekghpkpjdaa.K

/- Walks, printed by a program of this session. -/
namespace Go.Proofs.Ytfcaekghpkpjdaa.K
open Go Go.RowKit Go.Proofs
set_option linter.unusedVariables false
set_option maxRecDepth 100000
set_option maxHeartbeats 4000000
namespace FB3
theorem cf53 : Callable Try.prog 53 := callable Try.func53 (by kernel_rfl) rfl
theorem cf54 : Callable Try.prog 54 := callable Try.func54 (by kernel_rfl) rfl
end FB3
open FB3

theorem name_May.walk (a1 : Str)  (w : World)  (res : Bool) (h : name_May.f a1 = some res) :
    Ret Try.prog 27 ([S a1] : List Value).toArray w fun v w' => v = .bool res ∧ Ext w w' := by
  unfold name_May.f at h
  refine enterX Try.func27 rfl Try.ntmps27 rfl (fun R hR => ?_)
  have hB := Below.refl w.heap.size w
  refine X.seq fun M2 hM3 => ?_
  refine X.region ?_
  refine XO.do rfl (D.asn (v := .bool false) rfl rfl ?_)
  refine XO.nil ?_
  refine hM3 _ _ ?_
  refine X.seq fun M4 hM5 => ?_
  refine X.region ?_
  refine XO.do rfl (D.mv (v := S a1) rfl rfl ?_)
  rcases (Classical.em (name_Labels.pre a1)).symm with c6 | c6
  · rw [if_neg c6] at h; cases h
  rw [if_pos c6] at h
  obtain ⟨r10, q11, h⟩ := lt_elim h
  have hc9 := name_Labels.ok a1 w c6 
  rw [q11] at hc9
  clear q11
  refine XO.do rfl (D.call (vs := [S a1]) cf53 hc9 rfl rfl ?_)
  rintro _ w7 ⟨A12, k13, rfl, H14, g15, e8⟩
  clear hc9
  have z16 : ∀ y, blkOf A12 = some y → w.heap.size ≤ y := fun y hy => Nat.le_trans hB.size (g15 y hy)
  replace hB := below_ext hB e8
  clear e8
  refine XO.do rfl (D.mv (v := .tuple #[.slice A12 r10.1.length k13, .int .i64 r10.2]) rfl rfl ?_)
  refine XO.do rfl (D.extract (v := .slice A12 r10.1.length k13) rfl rfl rfl ?_)
  refine XO.do rfl (D.extract (v := .int .i64 r10.2) rfl rfl rfl ?_)
  refine XO.do rfl (D.asn (v := .slice A12 r10.1.length k13) rfl rfl ?_)
  refine XO.do rfl (D.asn (v := .int .i64 r10.2) rfl rfl ?_)
  refine XO.nil ?_
  refine hM5 _ _ ?_
  refine X.seq fun M17 hM18 => ?_
  refine X.region ?_
  refine XO.do rfl (D.mv (v := .int .i64 r10.2) rfl rfl ?_)
  refine XO.do rfl (D.eql rfl rfl rfl ?_)
  refine XO.do rfl (D.mv (v := .bool (r10.2 == 0)) rfl rfl ?_)
  by_cases c19 : r10.2 = 0
  · rw [if_pos c19] at h
    refine XO.do (wantG (j := 2) (b := true) rfl (beq_iff_eq.2 c19) rfl) (D.mv (v := S a1) rfl rfl ?_)
    rcases (Classical.em (name_Fold.pre a1)).symm with c20 | c20
    · rw [if_neg c20] at h; cases h
    rw [if_pos c20] at h
    obtain ⟨r24, q25, h⟩ := lt_elim h
    have hc23 := name_Fold.ok a1 w7 c20 
    rw [q25] at hc23
    clear q25
    refine XO.do (wantG (j := 2) (b := true) rfl (beq_iff_eq.2 c19) rfl) (D.call (vs := [S a1]) cf54 hc23 rfl rfl ?_)
    rintro _ w21 ⟨rfl, e22⟩
    clear hc23
    replace hB := below_ext hB e22
    replace H14 := H14.ext e22
    clear e22
    refine XO.do (wantG (j := 2) (b := true) rfl (beq_iff_eq.2 c19) rfl) (D.mv (v := S a1) rfl rfl ?_)
    refine XO.do (wantG (j := 2) (b := true) rfl (beq_iff_eq.2 c19) rfl) (D.eqlS rfl rfl rfl ?_)
    refine XO.do rfl (D.pick true (v := .bool (r24 == a1)) (congrArg Value.bool (beq_iff_eq.2 c19)) rfl rfl ?_)
    refine XO.do rfl (D.asn (v := .bool (r24 == a1)) rfl rfl ?_)
    refine XO.nil ?_
    refine hM18 _ _ ?_
    refine X.ret ?_
    injection h with h
    subst h
    exact hR _ _ _ (ret1 (v := .bool (r24 == a1)) rfl rfl) ⟨rfl, ext_of_below hB⟩
  · rw [if_neg c19] at h
    refine XO.off (wantG0 (j := 2) (b := true) rfl (beq_eq_false_iff_ne.2 c19) rfl) rfl rfl ?_
    refine XO.off (wantG0 (j := 2) (b := true) rfl (beq_eq_false_iff_ne.2 c19) rfl) rfl rfl ?_
    refine XO.off (wantG0 (j := 2) (b := true) rfl (beq_eq_false_iff_ne.2 c19) rfl) rfl rfl ?_
    refine XO.off (wantG0 (j := 2) (b := true) rfl (beq_eq_false_iff_ne.2 c19) rfl) rfl rfl ?_
    refine XO.do rfl (D.pick false (v := .bool false) (congrArg Value.bool (beq_eq_false_iff_ne.2 c19)) rfl rfl ?_)
    refine XO.do rfl (D.asn (v := .bool false) rfl rfl ?_)
    refine XO.nil ?_
    refine hM18 _ _ ?_
    refine X.ret ?_
    injection h with h
    subst h
    exact hR _ _ _ (ret1 (v := .bool false) rfl rfl) ⟨rfl, ext_of_below hB⟩
theorem name_May.ok (a1 : Str)  (w : World)  (hp : name_May.pre a1) :
    Ret Try.prog 27 ([S a1] : List Value).toArray w fun v w' => v = .bool (name_May a1) ∧ Ext w w' := by
  have h := name_May.eq a1 hp
  exact name_May.walk  a1  w  _ h
end Go.Proofs.Ytfcaekghpkpjdaa.K

/- Walks, printed by a program of this session. -/
namespace Go.Proofs.Ytfcaekghpkpjdaa.K
open Go Go.RowKit Go.Proofs
set_option linter.unusedVariables false
set_option maxRecDepth 100000
set_option maxHeartbeats 4000000
namespace FC1
theorem cf27 : Callable Try.prog 27 := callable Try.func27 (by kernel_rfl) rfl
end FC1
open FC1

theorem rdata_whole.walk (kf : Nat) (a1 : Str)  (w : World)  (res : Int) (h : rdata_whole.f kf a1 = some res) :
    Ret Try.prog 74 ([S a1] : List Value).toArray w fun v w' => v = .int .i64 res ∧ Ext w w' := by
  unfold rdata_whole.f at h
  refine enterX Try.func74 rfl Try.ntmps74 rfl (fun R hR => ?_)
  have hB := Below.refl w.heap.size w
  refine X.seq fun M2 hM3 => ?_
  refine X.region ?_
  refine XO.do rfl (D.asn (v := .int .i64 0) rfl rfl ?_)
  refine XO.nil ?_
  refine hM3 _ _ ?_
  refine X.seq fun M4 hM5 => ?_
  refine X.region ?_
  refine XO.do rfl (D.asn (v := .int .i64 0) rfl rfl ?_)
  refine XO.nil ?_
  refine hM5 _ _ ?_
  refine X.seq fun M77 hM78 => ?_
  refine X.block ?_
  refine X.loop (fun kq205 => fun f119 w118 => ∃ x116 : Int, f119 0 = S a1 ∧ f119 3 = .int .i64 x116 ∧ Below w.heap.size w w118 ∧ rdata_whole.l1 a1 kq205 x116 = some res) kf ?_ ?_
  · exact ⟨0, rfl, rfl, hB, h⟩
  · intro kq205 f119 w118 hI
    obtain ⟨x116, s120, s121, hB, h⟩ := hI
    cases kq205 with
    | zero => exact absurd h (by rw [rdata_whole.l1.eq_1]; simp)
    | succ kf115 =>
      rw [rdata_whole.l1.eq_2] at h
      refine X.fr (d := 0) s120 ?_
      refine X.fr (d := 3) s121 ?_
      refine X.seq fun M134 hM135 => ?_
      refine X.cut (fun f140 w139 => ∃ x138 : Bool, f140 0 = S a1 ∧ f140 3 = .int .i64 x116 ∧ f140 13 = .bool x138 ∧ Below w.heap.size w w139 ∧ rdata_whole.j2 x116 a1 (rdata_whole.l1 a1 kf115) x138 = some res) ?_ ?_
      · refine X.region ?_
        refine XO.do rfl (D.mv (v := .int .i64 x116) rfl rfl ?_)
        refine XO.do rfl (D.mv (v := S a1) rfl rfl ?_)
        refine XO.do rfl (D.lenS Try.underlying9 rfl rfl ?_)
        refine XO.do rfl (D.lss rfl rfl rfl ?_)
        refine XO.do rfl (D.mv (v := .bool (decide (x116 < (a1.length : Int)))) rfl rfl ?_)
        by_cases c203 : x116 < (a1.length : Int)
        · rw [if_pos c203] at h
          refine XO.do (wantG (j := 4) (b := true) rfl (decide_eq_true c203) rfl) (D.mv (v := S a1) rfl rfl ?_)
          refine XO.do (wantG (j := 4) (b := true) rfl (decide_eq_true c203) rfl) (D.mv (v := .int .i64 x116) rfl rfl ?_)
          rcases (Classical.em (0 ≤ x116)).symm with c204 | c204
          · rw [if_neg c204] at h; cases h
          rw [if_pos c204] at h
          refine XO.do (wantG (j := 4) (b := true) rfl (decide_eq_true c203) rfl) (D.indexS (i := x116) Try.underlying9 rfl rfl c204 c203 rfl ?_)
          refine XO.do (wantG (j := 4) (b := true) rfl (decide_eq_true c203) rfl) (D.gtr rfl rfl rfl ?_)
          refine XO.do rfl (D.pick true (v := .bool (decide (0 < (bt a1 x116)))) (congrArg Value.bool (decide_eq_true c203)) rfl rfl ?_)
          refine XO.nil ?_
          exact ⟨(decide (0 < (bt a1 x116))), rfl, rfl, rfl, hB, h⟩
        · rw [if_neg c203] at h
          refine XO.off (wantG0 (j := 4) (b := true) rfl (decide_eq_false c203) rfl) rfl rfl ?_
          refine XO.off (wantG0 (j := 4) (b := true) rfl (decide_eq_false c203) rfl) rfl rfl ?_
          refine XO.off (wantG0 (j := 4) (b := true) rfl (decide_eq_false c203) rfl) rfl rfl ?_
          refine XO.off (wantG0 (j := 4) (b := true) rfl (decide_eq_false c203) rfl) rfl rfl ?_
          refine XO.do rfl (D.pick false (v := .bool false) (congrArg Value.bool (decide_eq_false c203)) rfl rfl ?_)
          refine XO.nil ?_
          exact ⟨false, rfl, rfl, rfl, hB, h⟩
      · intro f140 w139 hI
        obtain ⟨x138, s141, s142, s143, hB, h⟩ := hI
        refine X.fr (d := 0) s141 ?_
        refine X.fr (d := 3) s142 ?_
        refine X.fr (d := 13) s143 ?_
        unfold rdata_whole.j2 at h
        by_cases c144 : x138 = true
        · rw [if_pos c144] at h
          refine X.condT (congrArg Value.bool (c144)) ?_
          refine X.skip ?_
          refine hM135 _ _ ?_
          refine X.block ?_
          refine X.region ?_
          refine XO.do rfl (D.mv (v := .int .i64 x116) rfl rfl ?_)
          refine XO.do rfl (D.mv (v := S a1) rfl rfl ?_)
          refine XO.do rfl (D.mv (v := .int .i64 x116) rfl rfl ?_)
          rcases (Classical.em (0 ≤ x116)).symm with c145 | c145
          · rw [if_neg c145] at h; cases h
          rw [if_pos c145] at h
          rcases (Classical.em (x116 < (a1.length : Int))).symm with c146 | c146
          · rw [if_neg c146] at h; cases h
          rw [if_pos c146] at h
          refine XO.do rfl (D.indexS (i := x116) Try.underlying9 rfl rfl c145 c146 rfl ?_)
          refine XO.do rfl (D.conv Try.underlying5 Try.underlying3 rfl rfl ?_)
          refine XO.do rfl (D.add rfl rfl rfl ?_)
          refine XO.do rfl (D.add rfl rfl rfl ?_)
          refine XO.do rfl (D.asn (v := .int .i64 (w64 (x116 + (w64 (1 + (w64 (bt a1 x116))))))) rfl rfl ?_)
          refine XO.nil ?_
          exact ⟨kf115, Nat.lt_succ_self _, w64 (x116 + (w64 (1 + (w64 (bt a1 x116))))), rfl, rfl, hB, h⟩
        · rw [if_neg c144] at h
          refine X.condF (congrArg Value.bool ((Bool.eq_false_iff.2 c144))) ?_
          refine X.exit rfl ?_
          refine hM78 _ _ ?_
          refine X.seq fun M173 hM174 => ?_
          refine X.cut (fun f186 w185 => ∃ x184 : Bool, f186 3 = .int .i64 x116 ∧ f186 32 = .bool x184 ∧ Below w.heap.size w w185 ∧ rdata_whole.j3 x116 x184 = some res) ?_ ?_
          · refine X.region ?_
            refine XO.do rfl (D.mv (v := .int .i64 x116) rfl rfl ?_)
            refine XO.do rfl (D.mv (v := S a1) rfl rfl ?_)
            refine XO.do rfl (D.lenS Try.underlying9 rfl rfl ?_)
            refine XO.do rfl (D.geq rfl rfl rfl ?_)
            refine XO.do rfl (D.mv (v := .bool (decide ((a1.length : Int) ≤ x116))) rfl rfl ?_)
            by_cases c194 : (a1.length : Int) ≤ x116
            · rw [if_pos c194] at h
              refine XO.off (wantG0 (j := 4) (b := false) rfl (decide_eq_true c194) rfl) rfl rfl ?_
              refine XO.off (wantG0 (j := 4) (b := false) rfl (decide_eq_true c194) rfl) rfl rfl ?_
              refine XO.off (wantG0 (j := 4) (b := false) rfl (decide_eq_true c194) rfl) rfl rfl ?_
              refine XO.off (wantG0 (j := 4) (b := false) rfl (decide_eq_true c194) rfl) rfl rfl ?_
              refine XO.off (wantG0 (j := 4) (b := false) rfl (decide_eq_true c194) rfl) rfl rfl ?_
              refine XO.off (wantG0 (j := 4) (b := false) rfl (decide_eq_true c194) rfl) rfl rfl ?_
              refine XO.do rfl (D.pick true (v := .bool true) (congrArg Value.bool (decide_eq_true c194)) rfl rfl ?_)
              refine XO.nil ?_
              exact ⟨true, rfl, rfl, hB, h⟩
            · rw [if_neg c194] at h
              refine XO.do (wantG (j := 4) (b := false) rfl (decide_eq_false c194) rfl) (D.mv (v := S a1) rfl rfl ?_)
              refine XO.do (wantG (j := 4) (b := false) rfl (decide_eq_false c194) rfl) (D.mv (v := .int .i64 x116) rfl rfl ?_)
              refine XO.do (wantG (j := 4) (b := false) rfl (decide_eq_false c194) rfl) (D.add rfl rfl rfl ?_)
              rcases (Classical.em (0 ≤ w64 (x116 + 1))).symm with c195 | c195
              · rw [if_neg c195] at h; cases h
              rw [if_pos c195] at h
              rcases (Classical.em (w64 (x116 + 1) ≤ (a1.length : Int))).symm with c196 | c196
              · rw [if_neg c196] at h; cases h
              rw [if_pos c196] at h
              refine XO.do (wantG (j := 4) (b := false) rfl (decide_eq_false c194) rfl) (D.sliceShi (j := w64 (x116 + 1)) Try.underlying9 rfl rfl c195 c196 rfl ?_)
              rcases (Classical.em (name_May.pre (a1.take (w64 (x116 + 1)).toNat))).symm with c197 | c197
              · rw [if_neg c197] at h; cases h
              rw [if_pos c197] at h
              obtain ⟨r201, q202, h⟩ := lt_elim h
              have hc200 := name_May.ok (a1.take (w64 (x116 + 1)).toNat) w139 c197 
              rw [q202] at hc200
              clear q202
              refine XO.do (wantG (j := 4) (b := false) rfl (decide_eq_false c194) rfl) (D.call (vs := [S (a1.take (w64 (x116 + 1)).toNat)]) cf27 hc200 rfl rfl ?_)
              rintro _ w198 ⟨rfl, e199⟩
              clear hc200
              replace hB := below_ext hB e199
              clear e199
              refine XO.do (wantG (j := 4) (b := false) rfl (decide_eq_false c194) rfl) (D.not r201 rfl rfl ?_)
              refine XO.do rfl (D.pick false (v := .bool (!r201)) (congrArg Value.bool (decide_eq_false c194)) rfl rfl ?_)
              refine XO.nil ?_
              exact ⟨(!r201), rfl, rfl, hB, h⟩
          · intro f186 w185 hI
            obtain ⟨x184, s187, s188, hB, h⟩ := hI
            refine X.fr (d := 3) s187 ?_
            refine X.fr (d := 32) s188 ?_
            unfold rdata_whole.j3 at h
            by_cases c189 : x184 = true
            · rw [if_pos c189] at h
              refine X.condT (congrArg Value.bool (c189)) ?_
              refine X.seq fun M190 hM191 => ?_
              refine X.region ?_
              refine XO.do rfl (D.asn (v := .int .i64 0) rfl rfl ?_)
              refine XO.nil ?_
              refine hM191 _ _ ?_
              refine X.ret ?_
              injection h with h
              subst h
              exact hR _ _ _ (ret1 (v := .int .i64 0) rfl rfl) ⟨rfl, ext_of_below hB⟩
            · rw [if_neg c189] at h
              refine X.condF (congrArg Value.bool ((Bool.eq_false_iff.2 c189))) ?_
              refine X.skip ?_
              refine hM174 _ _ ?_
              refine X.seq fun M192 hM193 => ?_
              refine X.region ?_
              refine XO.do rfl (D.mv (v := .int .i64 x116) rfl rfl ?_)
              refine XO.do rfl (D.add rfl rfl rfl ?_)
              refine XO.do rfl (D.asn (v := .int .i64 (w64 (x116 + 1))) rfl rfl ?_)
              refine XO.nil ?_
              refine hM193 _ _ ?_
              refine X.ret ?_
              injection h with h
              subst h
              exact hR _ _ _ (ret1 (v := .int .i64 (w64 (x116 + 1))) rfl rfl) ⟨rfl, ext_of_below hB⟩
theorem rdata_whole.ok (a1 : Str)  (w : World)  (hp : rdata_whole.pre a1) :
    Ret Try.prog 74 ([S a1] : List Value).toArray w fun v w' => v = .int .i64 (rdata_whole a1) ∧ Ext w w' := by
  obtain ⟨kf, h⟩ := rdata_whole.eq a1 hp
  exact rdata_whole.walk kf a1  w  _ h

theorem rdata_strings.walk (kf : Nat) (a1 : Str)  (w : World)  (res : Bool) (h : rdata_strings.f kf a1 = some res) :
    Ret Try.prog 75 ([S a1] : List Value).toArray w fun v w' => v = .bool res ∧ Ext w w' := by
  unfold rdata_strings.f at h
  refine enterX Try.func75 rfl Try.ntmps75 rfl (fun R hR => ?_)
  have hB := Below.refl w.heap.size w
  refine X.seq fun M2 hM3 => ?_
  refine X.region ?_
  refine XO.do rfl (D.asn (v := .bool false) rfl rfl ?_)
  refine XO.nil ?_
  refine hM3 _ _ ?_
  refine X.seq fun M4 hM5 => ?_
  refine X.region ?_
  refine XO.do rfl (D.asn (v := .int .i64 0) rfl rfl ?_)
  refine XO.nil ?_
  refine hM5 _ _ ?_
  refine X.seq fun M43 hM44 => ?_
  refine X.block ?_
  refine X.loop (fun kq84 => fun f68 w67 => ∃ x65 : Int, f68 0 = S a1 ∧ f68 3 = .int .i64 x65 ∧ Below w.heap.size w w67 ∧ rdata_strings.l1 a1 kq84 x65 = some res) kf ?_ ?_
  · exact ⟨0, rfl, rfl, hB, h⟩
  · intro kq84 f68 w67 hI
    obtain ⟨x65, s69, s70, hB, h⟩ := hI
    cases kq84 with
    | zero => exact absurd h (by rw [rdata_strings.l1.eq_1]; simp)
    | succ kf64 =>
      rw [rdata_strings.l1.eq_2] at h
      refine X.fr (d := 0) s69 ?_
      refine X.fr (d := 3) s70 ?_
      refine X.seq fun M75 hM76 => ?_
      refine X.seq fun M77 hM78 => ?_
      refine X.region ?_
      refine XO.do rfl (D.mv (v := .int .i64 x65) rfl rfl ?_)
      refine XO.do rfl (D.mv (v := S a1) rfl rfl ?_)
      refine XO.do rfl (D.lenS Try.underlying9 rfl rfl ?_)
      refine XO.do rfl (D.lss rfl rfl rfl ?_)
      refine XO.nil ?_
      refine hM78 _ _ ?_
      by_cases c79 : x65 < (a1.length : Int)
      · rw [if_pos c79] at h
        refine X.condT (congrArg Value.bool (decide_eq_true c79)) ?_
        refine X.skip ?_
        refine hM76 _ _ ?_
        refine X.block ?_
        refine X.region ?_
        refine XO.do rfl (D.mv (v := .int .i64 x65) rfl rfl ?_)
        refine XO.do rfl (D.mv (v := S a1) rfl rfl ?_)
        refine XO.do rfl (D.mv (v := .int .i64 x65) rfl rfl ?_)
        rcases (Classical.em (0 ≤ x65)).symm with c80 | c80
        · rw [if_neg c80] at h; cases h
        rw [if_pos c80] at h
        refine XO.do rfl (D.indexS (i := x65) Try.underlying9 rfl rfl c80 c79 rfl ?_)
        refine XO.do rfl (D.conv Try.underlying5 Try.underlying3 rfl rfl ?_)
        refine XO.do rfl (D.add rfl rfl rfl ?_)
        refine XO.do rfl (D.add rfl rfl rfl ?_)
        refine XO.do rfl (D.asn (v := .int .i64 (w64 (x65 + (w64 (1 + (w64 (bt a1 x65))))))) rfl rfl ?_)
        refine XO.nil ?_
        exact ⟨kf64, Nat.lt_succ_self _, w64 (x65 + (w64 (1 + (w64 (bt a1 x65))))), rfl, rfl, hB, h⟩
      · rw [if_neg c79] at h
        refine X.condF (congrArg Value.bool (decide_eq_false c79)) ?_
        refine X.exit rfl ?_
        refine hM44 _ _ ?_
        refine X.seq fun M81 hM82 => ?_
        refine X.region ?_
        refine XO.do rfl (D.mv (v := S a1) rfl rfl ?_)
        refine XO.do rfl (D.neqS rfl rfl rfl ?_)
        refine XO.do rfl (D.mv (v := .bool (!(a1 == ([] : Str)))) rfl rfl ?_)
        by_cases c83 : a1 = ([] : Str)
        · rw [if_pos c83] at h
          refine XO.off (wantG0 (j := 2) (b := true) rfl ((congrArg (!·) (beq_iff_eq.2 c83))) rfl) rfl rfl ?_
          refine XO.off (wantG0 (j := 2) (b := true) rfl ((congrArg (!·) (beq_iff_eq.2 c83))) rfl) rfl rfl ?_
          refine XO.off (wantG0 (j := 2) (b := true) rfl ((congrArg (!·) (beq_iff_eq.2 c83))) rfl) rfl rfl ?_
          refine XO.off (wantG0 (j := 2) (b := true) rfl ((congrArg (!·) (beq_iff_eq.2 c83))) rfl) rfl rfl ?_
          refine XO.do rfl (D.pick false (v := .bool false) (congrArg Value.bool ((congrArg (!·) (beq_iff_eq.2 c83)))) rfl rfl ?_)
          refine XO.do rfl (D.asn (v := .bool false) rfl rfl ?_)
          refine XO.nil ?_
          refine hM82 _ _ ?_
          refine X.ret ?_
          injection h with h
          subst h
          exact hR _ _ _ (ret1 (v := .bool false) rfl rfl) ⟨rfl, ext_of_below hB⟩
        · rw [if_neg c83] at h
          refine XO.do (wantG (j := 2) (b := true) rfl ((congrArg (!·) (beq_eq_false_iff_ne.2 c83))) rfl) (D.mv (v := .int .i64 x65) rfl rfl ?_)
          refine XO.do (wantG (j := 2) (b := true) rfl ((congrArg (!·) (beq_eq_false_iff_ne.2 c83))) rfl) (D.mv (v := S a1) rfl rfl ?_)
          refine XO.do (wantG (j := 2) (b := true) rfl ((congrArg (!·) (beq_eq_false_iff_ne.2 c83))) rfl) (D.lenS Try.underlying9 rfl rfl ?_)
          refine XO.do (wantG (j := 2) (b := true) rfl ((congrArg (!·) (beq_eq_false_iff_ne.2 c83))) rfl) (D.eql rfl rfl rfl ?_)
          refine XO.do rfl (D.pick true (v := .bool (x65 == (a1.length : Int))) (congrArg Value.bool ((congrArg (!·) (beq_eq_false_iff_ne.2 c83)))) rfl rfl ?_)
          refine XO.do rfl (D.asn (v := .bool (x65 == (a1.length : Int))) rfl rfl ?_)
          refine XO.nil ?_
          refine hM82 _ _ ?_
          refine X.ret ?_
          injection h with h
          subst h
          exact hR _ _ _ (ret1 (v := .bool (x65 == (a1.length : Int))) rfl rfl) ⟨rfl, ext_of_below hB⟩
theorem rdata_strings.ok (a1 : Str)  (w : World)  (hp : rdata_strings.pre a1) :
    Ret Try.prog 75 ([S a1] : List Value).toArray w fun v w' => v = .bool (rdata_strings a1) ∧ Ext w w' := by
  obtain ⟨kf, h⟩ := rdata_strings.eq a1 hp
  exact rdata_strings.walk kf a1  w  _ h
end Go.Proofs.Ytfcaekghpkpjdaa.K

/- rdata.layouts, rdata.layout: a map literal. -/
namespace Go.Proofs.Ytfcaekghpkpjdaa.K
open Go Go.RowKit Go.Proofs
set_option linter.unusedVariables false
set_option maxRecDepth 100000
set_option maxHeartbeats 4000000
structure MI (w0 w : World) (b : Nat) (m : List (Int × Value)) : Prop where
  map : MapIs w b (m.map fun p => (Value.int .u16 p.1, p.2))
  rows : ∀ p ∈ m, ∃ (A : Option Go.Addr) (c : Nat) (xs : List Int), p.2 = .slice A xs.length c ∧ Row (eInt .i64) w A c xs ∧ (∀ y, blkOf A = some y → w0.heap.size ≤ y ∧ y ≠ b) ∧ List.lookup p.1 layTab = some xs
  ge : w0.heap.size ≤ b
  below : Below w0.heap.size w0 w
theorem MI.ext {w0 w w' : World} {b : Nat} {m : List (Int × Value)} (h : MI w0 w b m) (e : Ext w w') : MI w0 w' b m :=
  ⟨h.map.gr e (by simp), fun p hp => by obtain ⟨A, c, xs, h1, h2, h3, h4⟩ := h.rows p hp; exact ⟨A, c, xs, h1, h2.ext e, h3, h4⟩, h.ge, below_ext h.below e⟩
theorem MI.add {w0 w w' : World} {b bi k : Nat} {T : TypeId} {m : List (Int × Value)} {xs : List Int} {key : Int} (h : MI w0 w b m) (H : Blk w bi (flat (eInt .i64) xs) T) (hbi : w0.heap.size ≤ bi) (hne : bi ≠ b) (hl : xs.length ≤ 9223372036854775807)
    (ht : List.lookup key layTab = some xs) (hm : MapIs w' b ((m ++ [(key, (.slice (some ⟨bi, 0, none⟩) xs.length xs.length : Value))]).map fun p => (Value.int .u16 p.1, p.2))) (hc : Chg w w' b) : MI w0 w' b (m ++ [(key, .slice (some ⟨bi, 0, none⟩) xs.length xs.length)]) := by
  refine ⟨hm, fun p hp => ?_, h.ge, below_blk h.below hc h.ge⟩
  rcases List.mem_append.1 hp with hp | hp
  · obtain ⟨A, c, xs, h1, h2, h3, h4⟩ := h.rows p hp
    exact ⟨A, c, xs, h1, h2.gr hc (fun x hx e => by injection e with e; exact (h3 x hx.1).2 e), h3, h4⟩
  · simp only [List.mem_singleton] at hp
    subst hp
    have hr : Row (eInt .i64) w (some ⟨bi, 0, none⟩) xs.length xs := ⟨Nat.le_refl _, hl, .inr ⟨bi, 0, rfl, H.cs⟩⟩
    have hb : ∀ y, blkOf (some (⟨bi, 0, none⟩ : Go.Addr)) = some y → w0.heap.size ≤ y ∧ y ≠ b := by
      intro y hy; simp only [blkOf, Option.map_some, Option.some.injEq] at hy; subst hy; exact ⟨hbi, hne⟩
    exact ⟨_, _, xs, rfl, hr.gr hc (fun x hx e => by injection e with e; exact (hb x hx.1).2 e), hb, ht⟩
theorem tiInt : TI Try.prog 3 (.int .i64 0) 1 8 := by unfold TI; kernel_rfl
theorem tiInts : TI Try.prog 105 (.slice none 0 0) 1 24 := by unfold TI; kernel_rfl
theorem layouts_ok (w : World) : Ret Try.prog 76 ([] : List Value).toArray w fun v w' => ∃ b m, v = .map (some b) ∧ MI w w' b m ∧ m.map (·.1) = layTab.map (·.1) := by
  refine enterX Try.func76 rfl Try.ntmps76 rfl (fun R hR => ?_)
  have hB := Below.refl w.heap.size w
  refine X.seq fun M hM => ?_
  refine X.region ?_
  refine XO.do rfl (D.asn (v := .map none) rfl rfl ?_)
  refine XO.nil ?_
  refine hM _ _ ?_
  refine X.seq fun M hM => ?_
  refine X.region ?_
  refine XO.do rfl (D.makeMap (kt := 22) (et := 105) rfl ?_)
  intro b w1 hb hm0 e0
  have h0 : MI w w1 b [] := ⟨hm0, by simp, Nat.le_of_eq hb.symm, below_ext hB e0⟩
  have hlt0 : b < w1.heap.size := hm0.lt
  refine XO.do rfl (D.buildR (vs := [I (4)]) (cs := [I (4)]) Try.underlying105 tiInt rfl rfl rfl rfl rfl rfl rfl ?_)
  intro b1 u1 hb1 H1 e1 _
  have g1 := h0.ext e1
  refine XO.do rfl (D.insertNew (ev := fun v : Value => v) (keyInt .u16) (k := 1) (m := []) (v := .slice (some ⟨b1, 0, none⟩) 1 1) Try.underlying126 Try.underlying22 g1.map rfl rfl rfl rfl ?_)
  intro v1 m1 c1
  have h1 : MI w v1 b ([] ++ [(1, .slice (some ⟨b1, 0, none⟩) 1 1)]) := MI.add (k := 0) (xs := [(4 : Int)]) g1 H1 (by have := h0.below.size; omega) (by omega) (by decide) rfl m1 c1
  have hlt1 : b < v1.heap.size := h1.map.lt
  refine XO.do rfl (D.buildR (vs := [I (16)]) (cs := [I (16)]) Try.underlying105 tiInt rfl rfl rfl rfl rfl rfl rfl ?_)
  intro b2 u2 hb2 H2 e2 _
  have g2 := h1.ext e2
  refine XO.do rfl (D.insertNew (ev := fun v : Value => v) (keyInt .u16) (k := 28) (m := [(1, Value.slice (some ⟨b1, 0, none⟩) 1 1)]) (v := .slice (some ⟨b2, 0, none⟩) 1 1) Try.underlying126 Try.underlying22 g2.map rfl rfl rfl rfl ?_)
  intro v2 m2 c2
  have h2 : MI w v2 b ([(1, Value.slice (some ⟨b1, 0, none⟩) 1 1)] ++ [(28, .slice (some ⟨b2, 0, none⟩) 1 1)]) := MI.add (k := 0) (xs := [(16 : Int)]) g2 H2 (by have := h1.below.size; omega) (by omega) (by decide) rfl m2 c2
  have hlt2 : b < v2.heap.size := h2.map.lt
  refine XO.do rfl (D.buildR (vs := [I (-1)]) (cs := [I (-1)]) Try.underlying105 tiInt rfl rfl rfl rfl rfl rfl rfl ?_)
  intro b3 u3 hb3 H3 e3 _
  have g3 := h2.ext e3
  refine XO.do rfl (D.insertNew (ev := fun v : Value => v) (keyInt .u16) (k := 2) (m := [(1, Value.slice (some ⟨b1, 0, none⟩) 1 1), (28, Value.slice (some ⟨b2, 0, none⟩) 1 1)]) (v := .slice (some ⟨b3, 0, none⟩) 1 1) Try.underlying126 Try.underlying22 g3.map rfl rfl rfl rfl ?_)
  intro v3 m3 c3
  have h3 : MI w v3 b ([(1, Value.slice (some ⟨b1, 0, none⟩) 1 1), (28, Value.slice (some ⟨b2, 0, none⟩) 1 1)] ++ [(2, .slice (some ⟨b3, 0, none⟩) 1 1)]) := MI.add (k := 0) (xs := [(-1 : Int)]) g3 H3 (by have := h2.below.size; omega) (by omega) (by decide) rfl m3 c3
  have hlt3 : b < v3.heap.size := h3.map.lt
  refine XO.do rfl (D.buildR (vs := [I (-1)]) (cs := [I (-1)]) Try.underlying105 tiInt rfl rfl rfl rfl rfl rfl rfl ?_)
  intro b4 u4 hb4 H4 e4 _
  have g4 := h3.ext e4
  refine XO.do rfl (D.insertNew (ev := fun v : Value => v) (keyInt .u16) (k := 5) (m := [(1, Value.slice (some ⟨b1, 0, none⟩) 1 1), (28, Value.slice (some ⟨b2, 0, none⟩) 1 1), (2, Value.slice (some ⟨b3, 0, none⟩) 1 1)]) (v := .slice (some ⟨b4, 0, none⟩) 1 1) Try.underlying126 Try.underlying22 g4.map rfl rfl rfl rfl ?_)
  intro v4 m4 c4
  have h4 : MI w v4 b ([(1, Value.slice (some ⟨b1, 0, none⟩) 1 1), (28, Value.slice (some ⟨b2, 0, none⟩) 1 1), (2, Value.slice (some ⟨b3, 0, none⟩) 1 1)] ++ [(5, .slice (some ⟨b4, 0, none⟩) 1 1)]) := MI.add (k := 0) (xs := [(-1 : Int)]) g4 H4 (by have := h3.below.size; omega) (by omega) (by decide) rfl m4 c4
  have hlt4 : b < v4.heap.size := h4.map.lt
  refine XO.do rfl (D.buildR (vs := [I (-1)]) (cs := [I (-1)]) Try.underlying105 tiInt rfl rfl rfl rfl rfl rfl rfl ?_)
  intro b5 u5 hb5 H5 e5 _
  have g5 := h4.ext e5
  refine XO.do rfl (D.insertNew (ev := fun v : Value => v) (keyInt .u16) (k := 12) (m := [(1, Value.slice (some ⟨b1, 0, none⟩) 1 1), (28, Value.slice (some ⟨b2, 0, none⟩) 1 1), (2, Value.slice (some ⟨b3, 0, none⟩) 1 1), (5, Value.slice (some ⟨b4, 0, none⟩) 1 1)]) (v := .slice (some ⟨b5, 0, none⟩) 1 1) Try.underlying126 Try.underlying22 g5.map rfl rfl rfl rfl ?_)
  intro v5 m5 c5
  have h5 : MI w v5 b ([(1, Value.slice (some ⟨b1, 0, none⟩) 1 1), (28, Value.slice (some ⟨b2, 0, none⟩) 1 1), (2, Value.slice (some ⟨b3, 0, none⟩) 1 1), (5, Value.slice (some ⟨b4, 0, none⟩) 1 1)] ++ [(12, .slice (some ⟨b5, 0, none⟩) 1 1)]) := MI.add (k := 0) (xs := [(-1 : Int)]) g5 H5 (by have := h4.below.size; omega) (by omega) (by decide) rfl m5 c5
  have hlt5 : b < v5.heap.size := h5.map.lt
  refine XO.do rfl (D.buildR (vs := [I (2), I (-1)]) (cs := [I (2), I (-1)]) Try.underlying105 tiInt rfl rfl rfl rfl rfl rfl rfl ?_)
  intro b6 u6 hb6 H6 e6 _
  have g6 := h5.ext e6
  refine XO.do rfl (D.insertNew (ev := fun v : Value => v) (keyInt .u16) (k := 15) (m := [(1, Value.slice (some ⟨b1, 0, none⟩) 1 1), (28, Value.slice (some ⟨b2, 0, none⟩) 1 1), (2, Value.slice (some ⟨b3, 0, none⟩) 1 1), (5, Value.slice (some ⟨b4, 0, none⟩) 1 1), (12, Value.slice (some ⟨b5, 0, none⟩) 1 1)]) (v := .slice (some ⟨b6, 0, none⟩) 2 2) Try.underlying126 Try.underlying22 g6.map rfl rfl rfl rfl ?_)
  intro v6 m6 c6
  have h6 : MI w v6 b ([(1, Value.slice (some ⟨b1, 0, none⟩) 1 1), (28, Value.slice (some ⟨b2, 0, none⟩) 1 1), (2, Value.slice (some ⟨b3, 0, none⟩) 1 1), (5, Value.slice (some ⟨b4, 0, none⟩) 1 1), (12, Value.slice (some ⟨b5, 0, none⟩) 1 1)] ++ [(15, .slice (some ⟨b6, 0, none⟩) 2 2)]) := MI.add (k := 0) (xs := [(2 : Int), (-1 : Int)]) g6 H6 (by have := h5.below.size; omega) (by omega) (by decide) rfl m6 c6
  have hlt6 : b < v6.heap.size := h6.map.lt
  refine XO.do rfl (D.buildR (vs := [I (-1), I (-1), I (20)]) (cs := [I (-1), I (-1), I (20)]) Try.underlying105 tiInt rfl rfl rfl rfl rfl rfl rfl ?_)
  intro b7 u7 hb7 H7 e7 _
  have g7 := h6.ext e7
  refine XO.do rfl (D.insertNew (ev := fun v : Value => v) (keyInt .u16) (k := 6) (m := [(1, Value.slice (some ⟨b1, 0, none⟩) 1 1), (28, Value.slice (some ⟨b2, 0, none⟩) 1 1), (2, Value.slice (some ⟨b3, 0, none⟩) 1 1), (5, Value.slice (some ⟨b4, 0, none⟩) 1 1), (12, Value.slice (some ⟨b5, 0, none⟩) 1 1), (15, Value.slice (some ⟨b6, 0, none⟩) 2 2)]) (v := .slice (some ⟨b7, 0, none⟩) 3 3) Try.underlying126 Try.underlying22 g7.map rfl rfl rfl rfl ?_)
  intro v7 m7 c7
  have h7 : MI w v7 b ([(1, Value.slice (some ⟨b1, 0, none⟩) 1 1), (28, Value.slice (some ⟨b2, 0, none⟩) 1 1), (2, Value.slice (some ⟨b3, 0, none⟩) 1 1), (5, Value.slice (some ⟨b4, 0, none⟩) 1 1), (12, Value.slice (some ⟨b5, 0, none⟩) 1 1), (15, Value.slice (some ⟨b6, 0, none⟩) 2 2)] ++ [(6, .slice (some ⟨b7, 0, none⟩) 3 3)]) := MI.add (k := 0) (xs := [(-1 : Int), (-1 : Int), (20 : Int)]) g7 H7 (by have := h6.below.size; omega) (by omega) (by decide) rfl m7 c7
  have hlt7 : b < v7.heap.size := h7.map.lt
  refine XO.do rfl (D.buildR (vs := [I (-2)]) (cs := [I (-2)]) Try.underlying105 tiInt rfl rfl rfl rfl rfl rfl rfl ?_)
  intro b8 u8 hb8 H8 e8 _
  have g8 := h7.ext e8
  refine XO.do rfl (D.insertNew (ev := fun v : Value => v) (keyInt .u16) (k := 16) (m := [(1, Value.slice (some ⟨b1, 0, none⟩) 1 1), (28, Value.slice (some ⟨b2, 0, none⟩) 1 1), (2, Value.slice (some ⟨b3, 0, none⟩) 1 1), (5, Value.slice (some ⟨b4, 0, none⟩) 1 1), (12, Value.slice (some ⟨b5, 0, none⟩) 1 1), (15, Value.slice (some ⟨b6, 0, none⟩) 2 2), (6, Value.slice (some ⟨b7, 0, none⟩) 3 3)]) (v := .slice (some ⟨b8, 0, none⟩) 1 1) Try.underlying126 Try.underlying22 g8.map rfl rfl rfl rfl ?_)
  intro v8 m8 c8
  have h8 : MI w v8 b ([(1, Value.slice (some ⟨b1, 0, none⟩) 1 1), (28, Value.slice (some ⟨b2, 0, none⟩) 1 1), (2, Value.slice (some ⟨b3, 0, none⟩) 1 1), (5, Value.slice (some ⟨b4, 0, none⟩) 1 1), (12, Value.slice (some ⟨b5, 0, none⟩) 1 1), (15, Value.slice (some ⟨b6, 0, none⟩) 2 2), (6, Value.slice (some ⟨b7, 0, none⟩) 3 3)] ++ [(16, .slice (some ⟨b8, 0, none⟩) 1 1)]) := MI.add (k := 0) (xs := [(-2 : Int)]) g8 H8 (by have := h7.below.size; omega) (by omega) (by decide) rfl m8 c8
  have hlt8 : b < v8.heap.size := h8.map.lt
  refine XO.do rfl (D.mv (v := .map (some b)) rfl rfl ?_)
  refine XO.do rfl (D.asn (v := .map (some b)) rfl rfl ?_)
  refine XO.nil ?_
  refine hM _ _ ?_
  refine X.ret ?_
  exact hR _ _ _ (ret1 (v := .map (some b)) rfl rfl) ⟨b, _, rfl, h8, rfl⟩
theorem lookup_mem {m : List (Int × Value)} {k : Int} {v : Value} (h : List.lookup k m = some v) : (k, v) ∈ m := by
  induction m with
  | nil => cases h
  | cons p m ih =>
    obtain ⟨a, b⟩ := p
    simp only [List.lookup] at h
    split at h
    · rename_i he
      injection h with h
      subst h
      rw [beq_iff_eq.1 he]; simp
    · exact List.mem_cons_of_mem _ (ih h)
theorem lookup_none {α β : Type} {k : Int} : ∀ (m : List (Int × α)) (m' : List (Int × β)), m.map (·.1) = m'.map (·.1) → List.lookup k m = none → List.lookup k m' = none := by
  intro m
  induction m with
  | nil => intro m' h _; cases m' with
    | nil => rfl
    | cons _ _ => simp at h
  | cons p m ih =>
    intro m' h hn
    cases m' with
    | nil => simp at h
    | cons p' m' =>
      simp only [List.map_cons, List.cons.injEq] at h
      obtain ⟨a, x⟩ := p
      obtain ⟨a', x'⟩ := p'
      obtain ⟨h1, h2⟩ := h
      simp only at h1
      subst h1
      simp only [List.lookup] at hn ⊢
      split at hn
      · cases hn
      · exact ih m' h2 hn
theorem rdata_layout.ok (k : Int) (w : World) : Ret Try.prog 58 ([.int .u16 k] : List Value).toArray w fun v w' => ∃ (A1 : Option Go.Addr) (k1 : Nat), v = .slice A1 (rdata_layout k).length k1 ∧ Row (eInt .i64) w' A1 k1 (rdata_layout k) ∧ (∀ y, blkOf A1 = some y → w.heap.size ≤ y) ∧ Ext w w' := by
  refine enterX Try.func58 rfl Try.ntmps58 rfl (fun R hR => ?_)
  refine X.seq fun M hM => ?_
  refine X.region ?_
  refine XO.do rfl (D.asn (v := .slice none 0 0) rfl rfl ?_)
  refine XO.nil ?_
  refine hM _ _ ?_
  refine X.seq fun M hM => ?_
  refine X.region ?_
  refine XO.do rfl (D.call (vs := []) (callable Try.func76 (by kernel_rfl) rfl) (layouts_ok w) rfl rfl ?_)
  rintro _ w1 ⟨b, m, rfl, hI, hkeys⟩
  refine XO.do rfl (D.mv (v := .int .u16 k) rfl rfl ?_)
  refine XO.do rfl (D.lookupM (ev := fun v : Value => v) (keyInt .u16) (k := k) (m := m) Try.underlying126 Try.underlying22 tiInts hI.map rfl rfl rfl ?_)
  have hid : (List.lookup k m).map (fun v : Value => v) = List.lookup k m := by cases List.lookup k m <;> rfl
  rw [hid]
  cases hl : List.lookup k m with
  | none =>
    have hr : rdata_layout k = [-3] := by unfold rdata_layout; rw [lookup_none m layTab hkeys hl]; rfl
    refine XO.do rfl (D.mv (v := .tuple #[.slice none 0 0, .bool false]) rfl rfl ?_)
    refine XO.do rfl (D.extract (v := .slice none 0 0) rfl rfl rfl ?_)
    refine XO.do rfl (D.extract (v := .bool false) rfl rfl rfl ?_)
    refine XO.do rfl (D.asn (v := .slice none 0 0) rfl rfl ?_)
    refine XO.do rfl (D.asn (v := .bool false) rfl rfl ?_)
    refine XO.nil ?_
    refine hM _ _ ?_
    refine X.seq fun M hM => ?_
    refine X.seq fun M2 hM2 => ?_
    refine X.region ?_
    refine XO.do rfl (D.mv (v := .bool false) rfl rfl ?_)
    refine XO.do rfl (D.not false rfl rfl ?_)
    refine XO.nil ?_
    refine hM2 _ _ ?_
    refine X.condT rfl ?_
    refine X.seq fun M3 hM3 => ?_
    refine X.region ?_
    refine XO.do rfl (D.buildR (vs := [I (-3)]) (cs := [I (-3)]) Try.underlying105 tiInt rfl rfl rfl rfl rfl rfl rfl ?_)
    intro bi w2 hb H en _
    refine XO.do rfl (D.asn (v := .slice (some ⟨bi, 0, none⟩) 1 1) rfl rfl ?_)
    refine XO.nil ?_
    refine hM3 _ _ ?_
    refine X.ret ?_
    have hr1 : Row (eInt .i64) w2 (some ⟨bi, 0, none⟩) 1 [-3] := ⟨Nat.le_refl _, by decide, .inr ⟨bi, 0, rfl, H.cs⟩⟩
    exact hR _ _ _ (ret1 (v := .slice (some ⟨bi, 0, none⟩) 1 1) rfl rfl) ⟨some ⟨bi, 0, none⟩, 1, by rw [hr]; rfl, by rw [hr]; exact hr1, (fun y hy => by simp only [blkOf, Option.map_some, Option.some.injEq] at hy; subst hy; rw [hb]; exact hI.below.size), ext_of_below (below_ext hI.below en)⟩
  | some v =>
    obtain ⟨A, c, xs, h1, h2, h3, h4⟩ := hI.rows _ (lookup_mem hl)
    simp only at h1 h4
    subst h1
    have hr : rdata_layout k = xs := by unfold rdata_layout; rw [h4]; rfl
    refine XO.do rfl (D.mv (v := .tuple #[.slice A xs.length c, .bool true]) rfl rfl ?_)
    refine XO.do rfl (D.extract (v := .slice A xs.length c) rfl rfl rfl ?_)
    refine XO.do rfl (D.extract (v := .bool true) rfl rfl rfl ?_)
    refine XO.do rfl (D.asn (v := .slice A xs.length c) rfl rfl ?_)
    refine XO.do rfl (D.asn (v := .bool true) rfl rfl ?_)
    refine XO.nil ?_
    refine hM _ _ ?_
    refine X.seq fun M hM => ?_
    refine X.seq fun M2 hM2 => ?_
    refine X.region ?_
    refine XO.do rfl (D.mv (v := .bool true) rfl rfl ?_)
    refine XO.do rfl (D.not true rfl rfl ?_)
    refine XO.nil ?_
    refine hM2 _ _ ?_
    refine X.condF rfl ?_
    refine X.skip ?_
    refine hM _ _ ?_
    refine X.seq fun M3 hM3 => ?_
    refine X.region ?_
    refine XO.do rfl (D.mv (v := .slice A xs.length c) rfl rfl ?_)
    refine XO.do rfl (D.asn (v := .slice A xs.length c) rfl rfl ?_)
    refine XO.nil ?_
    refine hM3 _ _ ?_
    refine X.ret ?_
    exact hR _ _ _ (ret1 (v := .slice A xs.length c) rfl rfl) ⟨A, c, by rw [hr], by rw [hr]; exact h2, fun y hy => (h3 y hy).1, ext_of_below hI.below⟩
end Go.Proofs.Ytfcaekghpkpjdaa.K

/- Walks, printed by a program of this session. -/
namespace Go.Proofs.Ytfcaekghpkpjdaa.K
open Go Go.RowKit Go.Proofs
set_option linter.unusedVariables false
set_option maxRecDepth 100000
set_option maxHeartbeats 4000000
namespace FC2
theorem cf58 : Callable Try.prog 58 := callable Try.func58 (by kernel_rfl) rfl
theorem cf74 : Callable Try.prog 74 := callable Try.func74 (by kernel_rfl) rfl
theorem cf75 : Callable Try.prog 75 := callable Try.func75 (by kernel_rfl) rfl
theorem sc3 : Sca Try.prog 3 := sca Try.underlying3 rfl
theorem ti3 : TI Try.prog 3 (.int .i64 0) 1 8 := by unfold TI; kernel_rfl
theorem sz3 : ∀ w, (sizeOf 3).run Try.prog w = .ok 1 w := fun w => ti3.size w
theorem ti9 : TI Try.prog 9 (S []) 1 16 := by unfold TI; kernel_rfl
end FC2
open FC2

theorem rdata_cut.walk (kf : Nat) (a1 : Int) (a2 : Str)  (w : World)  (res : List Str × Bool) (h : rdata_cut.f kf a1 a2 = some res) :
    Ret Try.prog 55 ([.int .u16 a1, S a2] : List Value).toArray w fun v w' => ∃ (A1 : Option Addr) (k1 : Nat), v = .tuple #[.slice A1 res.1.length k1, .bool res.2] ∧ Row eStr w' A1 k1 res.1 ∧ (∀ y, blkOf A1 = some y → w.heap.size ≤ y) ∧ Ext w w' := by
  unfold rdata_cut.f at h
  refine enterX Try.func55 rfl Try.ntmps55 rfl (fun R hR => ?_)
  have hB := Below.refl w.heap.size w
  refine X.seq fun M3 hM4 => ?_
  refine X.region ?_
  refine XO.do rfl (D.asn (v := .slice none 0 0) rfl rfl ?_)
  refine XO.do rfl (D.asn (v := .bool false) rfl rfl ?_)
  refine XO.nil ?_
  refine hM4 _ _ ?_
  refine X.seq fun M5 hM6 => ?_
  refine X.region ?_
  refine XO.do rfl (D.asn (v := .slice none 0 0) rfl rfl ?_)
  refine XO.nil ?_
  refine hM6 _ _ ?_
  refine X.seq fun M1065 hM1066 => ?_
  refine X.seq fun M1067 hM1068 => ?_
  refine X.region ?_
  refine XO.do rfl (D.mv (v := .int .u16 a1) rfl rfl ?_)
  obtain ⟨r1072, q1073, h⟩ := lt_elim h
  have hc1071 := rdata_layout.ok a1 w 
  rw [q1073] at hc1071
  clear q1073
  refine XO.do rfl (D.call (vs := [.int .u16 a1]) cf58 hc1071 rfl rfl ?_)
  rintro _ w1069 ⟨A1074, k1075, rfl, H1076, g1077, e1070⟩
  clear hc1071
  have z1078 : ∀ y, blkOf A1074 = some y → w.heap.size ≤ y := fun y hy => Nat.le_trans hB.size (g1077 y hy)
  replace hB := below_ext hB e1070
  clear e1070
  refine XO.do rfl (D.lenR (A := A1074) (c := k1075) (m := r1072.length) Try.underlying105 rfl rfl ?_)
  refine XO.do rfl (D.mv (v := .int .i64 0) rfl rfl ?_)
  refine XO.nil ?_
  refine hM1068 _ _ ?_
  refine X.block ?_
  have H1785 : Own eStr 9 w1069 w1069.heap.size none 0 [] := Own.nil _ _ _ _
  have lt_1078_1786 : ∀ x, MR A1074 r1072 x → x < w1069.heap.size := (MR.lt H1076 (Nat.le_refl _))
  have bs1786 : w1069.heap.size ≤ w1069.heap.size := Nat.le_refl _
  have hB1786 : w.heap.size ≤ w1069.heap.size := hB.size
  refine X.loop (fun kq2126 => fun f1789 w1788 => ∃ x1776 : Str, ∃ A1777 : Option Addr, ∃ k1778 : Nat, ∃ l1779 : List Str, ∃ B1780 : Nat, ∃ x1784 : Int, f1789 1 = S x1776 ∧ f1789 6 = .slice A1777 l1779.length k1778 ∧ f1789 11 = .slice A1074 r1072.length k1075 ∧ f1789 12 = .int .i64 (r1072.length : Int) ∧ f1789 13 = .int .i64 x1784 ∧ Below w.heap.size w w1788 ∧ Own eStr 9 w1788 B1780 A1777 k1778 l1779 ∧ B1780 ≤ w1788.heap.size ∧ w.heap.size ≤ B1780 ∧ Row (eInt .i64) w1788 A1074 k1075 r1072 ∧ (∀ x y, MO A1777 x → MR A1074 r1072 y → x ≠ y) ∧ (∀ x, MR A1074 r1072 x → x < B1780) ∧ rdata_cut.l1 r1072 kq2126 x1776 l1779 x1784 = some res) kf ?_ ?_
  · exact ⟨a2, none, 0, ([] : List Str), w1069.heap.size, 0, rfl, rfl, rfl, rfl, rfl, hB, H1785, bs1786, hB1786, H1076, (ne_flip (ne_of lt_1078_1786 (MO.ge H1785))), lt_1078_1786, h⟩
  · intro kq2126 f1789 w1788 hI
    obtain ⟨x1776, A1777, k1778, l1779, B1780, x1784, s1790, s1791, s1792, s1793, s1794, hB, H1781, bs1782, hg1782, H1783, pr1782_1078, pr1078_1782, h⟩ := hI
    cases kq2126 with
    | zero => exact absurd h (by rw [rdata_cut.l1.eq_1]; simp)
    | succ kf1775 =>
      rw [rdata_cut.l1.eq_2] at h
      refine X.fr (d := 1) s1790 ?_
      refine X.fr (d := 6) s1791 ?_
      refine X.fr (d := 11) s1792 ?_
      refine X.fr (d := 12) s1793 ?_
      refine X.fr (d := 13) s1794 ?_
      refine X.seq fun M1796 hM1797 => ?_
      refine X.region ?_
      refine XO.do rfl (D.lss rfl rfl rfl ?_)
      refine XO.nil ?_
      refine hM1797 _ _ ?_
      refine X.seq fun M1799 hM1800 => ?_
      by_cases c1801 : x1784 < (r1072.length : Int)
      · rw [if_pos c1801] at h
        refine X.condT (congrArg Value.bool (decide_eq_true c1801)) ?_
        refine X.skip ?_
        refine hM1800 _ _ ?_
        refine X.seq fun M1962 hM1963 => ?_
        refine X.block ?_
        refine X.seq fun M1964 hM1965 => ?_
        refine X.region ?_
        rcases (Classical.em (0 ≤ x1784)).symm with c1966 | c1966
        · rw [if_neg c1966] at h; cases h
        rw [if_pos c1966] at h
        refine XO.do rfl (D.indexR (i := x1784) Try.underlying105 sz3 H1783 rfl rfl c1966 c1801 rfl ?_)
        intro b1967 o1968 _ H1969
        refine XO.do rfl (D.load (j := 0) (v := .int .i64 (rd r1072 x1784)) sc3 H1969 rfl rfl rfl rfl ?_)
        refine XO.do rfl (D.asn (v := .int .i64 (rd r1072 x1784)) rfl rfl ?_)
        refine XO.nil ?_
        refine hM1965 _ _ ?_
        refine X.seq fun M1971 hM1972 => ?_
        refine X.region ?_
        refine XO.do rfl (D.mv (v := .int .i64 (rd r1072 x1784)) rfl rfl ?_)
        refine XO.do rfl (D.asn (v := .int .i64 (rd r1072 x1784)) rfl rfl ?_)
        refine XO.nil ?_
        refine hM1972 _ _ ?_
        refine X.cut (fun f2016 w2015 => ∃ x2013 : Int, f2016 1 = S x1776 ∧ f2016 6 = .slice A1777 l1779.length k1778 ∧ f2016 8 = .int .i64 (rd r1072 x1784) ∧ f2016 9 = .int .i64 x2013 ∧ f2016 11 = .slice A1074 r1072.length k1075 ∧ f2016 12 = .int .i64 (r1072.length : Int) ∧ f2016 13 = .int .i64 x1784 ∧ Below w.heap.size w w2015 ∧ Own eStr 9 w2015 B1780 A1777 k1778 l1779 ∧ B1780 ≤ w2015.heap.size ∧ Row (eInt .i64) w2015 A1074 k1075 r1072 ∧ (∀ x y, MO A1777 x → MR A1074 r1072 y → x ≠ y) ∧ (∀ x, MR A1074 r1072 x → x < B1780) ∧ rdata_cut.j2 x1776 l1779 (rdata_cut.l1 r1072 kf1775) x1784 r1072 x2013 = some res) ?_ ?_
        · refine X.block ?_
          refine X.seq fun M2085 hM2086 => ?_
          refine X.region ?_
          refine XO.do rfl (D.mv (v := .int .i64 (rd r1072 x1784)) rfl rfl ?_)
          refine XO.do rfl (D.eql rfl rfl rfl ?_)
          refine XO.do rfl (D.asn (v := .bool ((rd r1072 x1784) == (-1))) rfl rfl ?_)
          refine XO.nil ?_
          refine hM2086 _ _ ?_
          by_cases c2087 : (rd r1072 x1784) = (-1)
          · rw [if_pos c2087] at h
            refine X.condT (congrArg Value.bool (beq_iff_eq.2 c2087)) ?_
            refine X.region ?_
            refine XO.do rfl (D.mv (v := S x1776) rfl rfl ?_)
            rcases (Classical.em (rdata_whole.pre x1776)).symm with c2088 | c2088
            · rw [if_neg c2088] at h; cases h
            rw [if_pos c2088] at h
            obtain ⟨r2092, q2093, h⟩ := lt_elim h
            have hc2091 := rdata_whole.ok x1776 w1788 c2088 
            rw [q2093] at hc2091
            clear q2093
            refine XO.do rfl (D.call (vs := [S x1776]) cf74 hc2091 rfl rfl ?_)
            rintro _ w2089 ⟨rfl, e2090⟩
            clear hc2091
            replace hB := below_ext hB e2090
            replace H1781 := H1781.ext e2090
            replace bs1782 := Nat.le_trans bs1782 (World.grownBy.size e2090)
            replace H1783 := H1783.ext e2090
            replace H1969 := H1969.ext e2090
            clear e2090
            refine XO.do rfl (D.asn (v := .int .i64 r2092) rfl rfl ?_)
            refine XO.nil ?_
            exact ⟨r2092, rfl, rfl, rfl, rfl, rfl, rfl, rfl, hB, H1781, bs1782, H1783, pr1782_1078, pr1078_1782, h⟩
          · rw [if_neg c2087] at h
            refine X.condF (congrArg Value.bool (beq_eq_false_iff_ne.2 c2087)) ?_
            refine X.cut (fun f2106 w2105 => ∃ x2104 : Bool, f2106 1 = S x1776 ∧ f2106 6 = .slice A1777 l1779.length k1778 ∧ f2106 8 = .int .i64 (rd r1072 x1784) ∧ f2106 9 = .int .i64 (rd r1072 x1784) ∧ f2106 11 = .slice A1074 r1072.length k1075 ∧ f2106 12 = .int .i64 (r1072.length : Int) ∧ f2106 13 = .int .i64 x1784 ∧ f2106 23 = .bool x2104 ∧ Below w.heap.size w w2105 ∧ Own eStr 9 w2105 B1780 A1777 k1778 l1779 ∧ B1780 ≤ w2105.heap.size ∧ Row (eInt .i64) w2105 A1074 k1075 r1072 ∧ (∀ x y, MO A1777 x → MR A1074 r1072 y → x ≠ y) ∧ (∀ x, MR A1074 r1072 x → x < B1780) ∧ rdata_cut.j4 x1776 l1779 (rdata_cut.l1 r1072 kf1775) x1784 r1072 x2104 = some res) ?_ ?_
            · refine X.region ?_
              refine XO.do rfl (D.mv (v := .int .i64 (rd r1072 x1784)) rfl rfl ?_)
              refine XO.do rfl (D.eql rfl rfl rfl ?_)
              refine XO.do rfl (D.mv (v := .bool ((rd r1072 x1784) == (-2))) rfl rfl ?_)
              by_cases c2116 : (rd r1072 x1784) = (-2)
              · rw [if_pos c2116] at h
                refine XO.do (wantG (j := 2) (b := true) rfl (beq_iff_eq.2 c2116) rfl) (D.mv (v := S x1776) rfl rfl ?_)
                rcases (Classical.em (rdata_strings.pre x1776)).symm with c2117 | c2117
                · rw [if_neg c2117] at h; cases h
                rw [if_pos c2117] at h
                obtain ⟨r2121, q2122, h⟩ := lt_elim h
                have hc2120 := rdata_strings.ok x1776 w1788 c2117 
                rw [q2122] at hc2120
                clear q2122
                refine XO.do (wantG (j := 2) (b := true) rfl (beq_iff_eq.2 c2116) rfl) (D.call (vs := [S x1776]) cf75 hc2120 rfl rfl ?_)
                rintro _ w2118 ⟨rfl, e2119⟩
                clear hc2120
                replace hB := below_ext hB e2119
                replace H1781 := H1781.ext e2119
                replace bs1782 := Nat.le_trans bs1782 (World.grownBy.size e2119)
                replace H1783 := H1783.ext e2119
                replace H1969 := H1969.ext e2119
                clear e2119
                refine XO.do rfl (D.pick true (v := .bool r2121) (congrArg Value.bool (beq_iff_eq.2 c2116)) rfl rfl ?_)
                refine XO.do rfl (D.mv (v := .bool r2121) rfl rfl ?_)
                by_cases c2123 : r2121 = true
                · rw [if_pos c2123] at h
                  refine XO.off (wantG0 (j := 6) (b := false) rfl (c2123) rfl) rfl rfl ?_
                  refine XO.off (wantG0 (j := 6) (b := false) rfl (c2123) rfl) rfl rfl ?_
                  refine XO.do rfl (D.pick true (v := .bool true) (congrArg Value.bool (c2123)) rfl rfl ?_)
                  refine XO.do rfl (D.asn (v := .bool true) rfl rfl ?_)
                  refine XO.nil ?_
                  exact ⟨true, rfl, rfl, rfl, rfl, rfl, rfl, rfl, rfl, hB, H1781, bs1782, H1783, pr1782_1078, pr1078_1782, h⟩
                · rw [if_neg c2123] at h
                  refine XO.do (wantG (j := 6) (b := false) rfl ((Bool.eq_false_iff.2 c2123)) rfl) (D.mv (v := .int .i64 (rd r1072 x1784)) rfl rfl ?_)
                  refine XO.do (wantG (j := 6) (b := false) rfl ((Bool.eq_false_iff.2 c2123)) rfl) (D.eql rfl rfl rfl ?_)
                  refine XO.do rfl (D.pick false (v := .bool ((rd r1072 x1784) == (-3))) (congrArg Value.bool ((Bool.eq_false_iff.2 c2123))) rfl rfl ?_)
                  refine XO.do rfl (D.asn (v := .bool ((rd r1072 x1784) == (-3))) rfl rfl ?_)
                  refine XO.nil ?_
                  exact ⟨((rd r1072 x1784) == (-3)), rfl, rfl, rfl, rfl, rfl, rfl, rfl, rfl, hB, H1781, bs1782, H1783, pr1782_1078, pr1078_1782, h⟩
              · rw [if_neg c2116] at h
                refine XO.off (wantG0 (j := 2) (b := true) rfl (beq_eq_false_iff_ne.2 c2116) rfl) rfl rfl ?_
                refine XO.off (wantG0 (j := 2) (b := true) rfl (beq_eq_false_iff_ne.2 c2116) rfl) rfl rfl ?_
                refine XO.do rfl (D.pick false (v := .bool false) (congrArg Value.bool (beq_eq_false_iff_ne.2 c2116)) rfl rfl ?_)
                refine XO.do rfl (D.mv (v := .bool false) rfl rfl ?_)
                refine XO.do (wantG (j := 6) (b := false) rfl (rfl) rfl) (D.mv (v := .int .i64 (rd r1072 x1784)) rfl rfl ?_)
                refine XO.do (wantG (j := 6) (b := false) rfl (rfl) rfl) (D.eql rfl rfl rfl ?_)
                refine XO.do rfl (D.pick false (v := .bool ((rd r1072 x1784) == (-3))) (congrArg Value.bool (rfl)) rfl rfl ?_)
                refine XO.do rfl (D.asn (v := .bool ((rd r1072 x1784) == (-3))) rfl rfl ?_)
                refine XO.nil ?_
                exact ⟨((rd r1072 x1784) == (-3)), rfl, rfl, rfl, rfl, rfl, rfl, rfl, rfl, hB, H1781, bs1782, H1783, pr1782_1078, pr1078_1782, h⟩
            · intro f2106 w2105 hI
              obtain ⟨x2104, s2107, s2108, s2109, s2110, s2111, s2112, s2113, s2114, hB, H2102, bs1782, H2103, pr1782_1078, pr1078_1782, h⟩ := hI
              refine X.fr (d := 1) s2107 ?_
              refine X.fr (d := 6) s2108 ?_
              refine X.fr (d := 8) s2109 ?_
              refine X.fr (d := 9) s2110 ?_
              refine X.fr (d := 11) s2111 ?_
              refine X.fr (d := 12) s2112 ?_
              refine X.fr (d := 13) s2113 ?_
              refine X.fr (d := 23) s2114 ?_
              unfold rdata_cut.j4 at h
              by_cases c2115 : x2104 = true
              · rw [if_pos c2115] at h
                refine X.condT (congrArg Value.bool (c2115)) ?_
                refine X.region ?_
                refine XO.do rfl (D.mv (v := S x1776) rfl rfl ?_)
                refine XO.do rfl (D.lenS Try.underlying9 rfl rfl ?_)
                refine XO.do rfl (D.asn (v := .int .i64 (x1776.length : Int)) rfl rfl ?_)
                refine XO.nil ?_
                exact ⟨(x1776.length : Int), rfl, rfl, rfl, rfl, rfl, rfl, rfl, hB, H2102, bs1782, H2103, pr1782_1078, pr1078_1782, h⟩
              · rw [if_neg c2115] at h
                refine X.condF (congrArg Value.bool ((Bool.eq_false_iff.2 c2115))) ?_
                refine X.skip ?_
                exact ⟨(rd r1072 x1784), rfl, rfl, rfl, rfl, rfl, rfl, rfl, hB, H2102, bs1782, H2103, pr1782_1078, pr1078_1782, h⟩
        · intro f2016 w2015 hI
          obtain ⟨x2013, s2017, s2018, s2019, s2020, s2021, s2022, s2023, hB, H2012, bs1782, H2014, pr1782_1078, pr1078_1782, h⟩ := hI
          refine X.fr (d := 1) s2017 ?_
          refine X.fr (d := 6) s2018 ?_
          refine X.fr (d := 8) s2019 ?_
          refine X.fr (d := 9) s2020 ?_
          refine X.fr (d := 11) s2021 ?_
          refine X.fr (d := 12) s2022 ?_
          refine X.fr (d := 13) s2023 ?_
          unfold rdata_cut.j2 at h
          refine X.seq fun M2045 hM2046 => ?_
          refine X.cut (fun f2054 w2053 => ∃ x2052 : Bool, f2054 1 = S x1776 ∧ f2054 6 = .slice A1777 l1779.length k1778 ∧ f2054 9 = .int .i64 x2013 ∧ f2054 11 = .slice A1074 r1072.length k1075 ∧ f2054 12 = .int .i64 (r1072.length : Int) ∧ f2054 13 = .int .i64 x1784 ∧ f2054 51 = .bool x2052 ∧ Below w.heap.size w w2053 ∧ Own eStr 9 w2053 B1780 A1777 k1778 l1779 ∧ B1780 ≤ w2053.heap.size ∧ Row (eInt .i64) w2053 A1074 k1075 r1072 ∧ (∀ x y, MO A1777 x → MR A1074 r1072 y → x ≠ y) ∧ (∀ x, MR A1074 r1072 x → x < B1780) ∧ rdata_cut.j3 x2013 x1776 l1779 (rdata_cut.l1 r1072 kf1775) x1784 x2052 = some res) ?_ ?_
          · refine X.region ?_
            refine XO.do rfl (D.mv (v := .int .i64 x2013) rfl rfl ?_)
            refine XO.do rfl (D.lss rfl rfl rfl ?_)
            refine XO.do rfl (D.mv (v := .bool (decide (x2013 < 0))) rfl rfl ?_)
            by_cases c2082 : x2013 < 0
            · rw [if_pos c2082] at h
              refine XO.off (wantG0 (j := 2) (b := false) rfl (decide_eq_true c2082) rfl) rfl rfl ?_
              refine XO.off (wantG0 (j := 2) (b := false) rfl (decide_eq_true c2082) rfl) rfl rfl ?_
              refine XO.off (wantG0 (j := 2) (b := false) rfl (decide_eq_true c2082) rfl) rfl rfl ?_
              refine XO.off (wantG0 (j := 2) (b := false) rfl (decide_eq_true c2082) rfl) rfl rfl ?_
              refine XO.do rfl (D.pick true (v := .bool true) (congrArg Value.bool (decide_eq_true c2082)) rfl rfl ?_)
              refine XO.do rfl (D.mv (v := .bool true) rfl rfl ?_)
              refine XO.off (wantG0 (j := 8) (b := false) rfl (rfl) rfl) rfl rfl ?_
              refine XO.off (wantG0 (j := 8) (b := false) rfl (rfl) rfl) rfl rfl ?_
              refine XO.off (wantG0 (j := 8) (b := false) rfl (rfl) rfl) rfl rfl ?_
              refine XO.off (wantU (j := 11) (b := true) rfl rfl) rfl rfl ?_
              refine XO.off (wantU (j := 11) (b := true) rfl rfl) rfl rfl ?_
              refine XO.off (wantG0 (j := 8) (b := false) rfl (rfl) rfl) rfl rfl ?_
              refine XO.do rfl (D.pick true (v := .bool true) (congrArg Value.bool (rfl)) rfl rfl ?_)
              refine XO.nil ?_
              exact ⟨true, rfl, rfl, rfl, rfl, rfl, rfl, rfl, hB, H2012, bs1782, H2014, pr1782_1078, pr1078_1782, h⟩
            · rw [if_neg c2082] at h
              refine XO.do (wantG (j := 2) (b := false) rfl (decide_eq_false c2082) rfl) (D.mv (v := .int .i64 x2013) rfl rfl ?_)
              refine XO.do (wantG (j := 2) (b := false) rfl (decide_eq_false c2082) rfl) (D.mv (v := S x1776) rfl rfl ?_)
              refine XO.do (wantG (j := 2) (b := false) rfl (decide_eq_false c2082) rfl) (D.lenS Try.underlying9 rfl rfl ?_)
              refine XO.do (wantG (j := 2) (b := false) rfl (decide_eq_false c2082) rfl) (D.gtr rfl rfl rfl ?_)
              refine XO.do rfl (D.pick false (v := .bool (decide ((x1776.length : Int) < x2013))) (congrArg Value.bool (decide_eq_false c2082)) rfl rfl ?_)
              refine XO.do rfl (D.mv (v := .bool (decide ((x1776.length : Int) < x2013))) rfl rfl ?_)
              by_cases c2083 : (x1776.length : Int) < x2013
              · rw [if_pos c2083] at h
                refine XO.off (wantG0 (j := 8) (b := false) rfl (decide_eq_true c2083) rfl) rfl rfl ?_
                refine XO.off (wantG0 (j := 8) (b := false) rfl (decide_eq_true c2083) rfl) rfl rfl ?_
                refine XO.off (wantG0 (j := 8) (b := false) rfl (decide_eq_true c2083) rfl) rfl rfl ?_
                refine XO.off (wantU (j := 11) (b := true) rfl rfl) rfl rfl ?_
                refine XO.off (wantU (j := 11) (b := true) rfl rfl) rfl rfl ?_
                refine XO.off (wantG0 (j := 8) (b := false) rfl (decide_eq_true c2083) rfl) rfl rfl ?_
                refine XO.do rfl (D.pick true (v := .bool true) (congrArg Value.bool (decide_eq_true c2083)) rfl rfl ?_)
                refine XO.nil ?_
                exact ⟨true, rfl, rfl, rfl, rfl, rfl, rfl, rfl, hB, H2012, bs1782, H2014, pr1782_1078, pr1078_1782, h⟩
              · rw [if_neg c2083] at h
                refine XO.do (wantG (j := 8) (b := false) rfl (decide_eq_false c2083) rfl) (D.mv (v := .int .i64 (rd r1072 x1784)) rfl rfl ?_)
                refine XO.do (wantG (j := 8) (b := false) rfl (decide_eq_false c2083) rfl) (D.eql rfl rfl rfl ?_)
                refine XO.do (wantG (j := 8) (b := false) rfl (decide_eq_false c2083) rfl) (D.mv (v := .bool ((rd r1072 x1784) == (-1))) rfl rfl ?_)
                by_cases c2084 : (rd r1072 x1784) = (-1)
                · rw [if_pos c2084] at h
                  refine XO.do (wantG (j := 11) (b := true) rfl (beq_iff_eq.2 c2084) rfl) (D.mv (v := .int .i64 x2013) rfl rfl ?_)
                  refine XO.do (wantG (j := 11) (b := true) rfl (beq_iff_eq.2 c2084) rfl) (D.eql rfl rfl rfl ?_)
                  refine XO.do (wantG (j := 8) (b := false) rfl (decide_eq_false c2083) rfl) (D.pick true (v := .bool (x2013 == 0)) (congrArg Value.bool (beq_iff_eq.2 c2084)) rfl rfl ?_)
                  refine XO.do rfl (D.pick false (v := .bool (x2013 == 0)) (congrArg Value.bool (decide_eq_false c2083)) rfl rfl ?_)
                  refine XO.nil ?_
                  exact ⟨(x2013 == 0), rfl, rfl, rfl, rfl, rfl, rfl, rfl, hB, H2012, bs1782, H2014, pr1782_1078, pr1078_1782, h⟩
                · rw [if_neg c2084] at h
                  refine XO.off (wantG0 (j := 11) (b := true) rfl (beq_eq_false_iff_ne.2 c2084) rfl) rfl rfl ?_
                  refine XO.off (wantG0 (j := 11) (b := true) rfl (beq_eq_false_iff_ne.2 c2084) rfl) rfl rfl ?_
                  refine XO.do (wantG (j := 8) (b := false) rfl (decide_eq_false c2083) rfl) (D.pick false (v := .bool false) (congrArg Value.bool (beq_eq_false_iff_ne.2 c2084)) rfl rfl ?_)
                  refine XO.do rfl (D.pick false (v := .bool false) (congrArg Value.bool (decide_eq_false c2083)) rfl rfl ?_)
                  refine XO.nil ?_
                  exact ⟨false, rfl, rfl, rfl, rfl, rfl, rfl, rfl, hB, H2012, bs1782, H2014, pr1782_1078, pr1078_1782, h⟩
          · intro f2054 w2053 hI
            obtain ⟨x2052, s2055, s2056, s2057, s2058, s2059, s2060, s2061, hB, H2050, bs1782, H2051, pr1782_1078, pr1078_1782, h⟩ := hI
            refine X.fr (d := 1) s2055 ?_
            refine X.fr (d := 6) s2056 ?_
            refine X.fr (d := 9) s2057 ?_
            refine X.fr (d := 11) s2058 ?_
            refine X.fr (d := 12) s2059 ?_
            refine X.fr (d := 13) s2060 ?_
            refine X.fr (d := 51) s2061 ?_
            unfold rdata_cut.j3 at h
            by_cases c2062 : x2052 = true
            · rw [if_pos c2062] at h
              refine X.condT (congrArg Value.bool (c2062)) ?_
              refine X.seq fun M2063 hM2064 => ?_
              refine X.region ?_
              refine XO.do rfl (D.asn (v := .slice none 0 0) rfl rfl ?_)
              refine XO.do rfl (D.asn (v := .bool false) rfl rfl ?_)
              refine XO.nil ?_
              refine hM2064 _ _ ?_
              refine X.ret ?_
              injection h with h
              subst h
              exact hR _ _ _ (ret2 (v := .slice none 0 0) (v' := .bool false) rfl rfl rfl) ⟨none, 0, rfl, (Row.nil _ _ none 0 (by decide)), (fun y hy => by simp [blkOf] at hy), ext_of_below hB⟩
            · rw [if_neg c2062] at h
              refine X.condF (congrArg Value.bool ((Bool.eq_false_iff.2 c2062))) ?_
              refine X.skip ?_
              refine hM2046 _ _ ?_
              refine X.seq fun M2065 hM2066 => ?_
              refine X.region ?_
              refine XO.do rfl (D.mv (v := .slice A1777 l1779.length k1778) rfl rfl ?_)
              refine XO.do rfl (D.mv (v := S x1776) rfl rfl ?_)
              refine XO.do rfl (D.mv (v := .int .i64 x2013) rfl rfl ?_)
              rcases (Classical.em (0 ≤ x2013)).symm with c2067 | c2067
              · rw [if_neg c2067] at h; cases h
              rw [if_pos c2067] at h
              rcases (Classical.em (x2013 ≤ (x1776.length : Int))).symm with c2068 | c2068
              · rw [if_neg c2068] at h; cases h
              rw [if_pos c2068] at h
              refine XO.do rfl (D.sliceShi (j := x2013) Try.underlying9 rfl rfl c2067 c2068 rfl ?_)
              refine XO.do rfl (D.buildR (vs := [S (x1776.take x2013.toNat)]) (cs := [S (x1776.take x2013.toNat)]) Try.underlying94 ti9 rfl rfl rfl rfl rfl rfl rfl ?_)
              intro b2069 w2070 hb2071 H2072 e2073 zb2069
              have H2072o : Own eStr 9 w2070 b2069 (some ⟨b2069, 0, none⟩) 1 ([x1776.take x2013.toNat] : List Str) := Blk.own (E := eStr) (show Blk _ _ (flat eStr [x1776.take x2013.toNat]) _ from H2072) (Nat.le_refl _) (by simp)
              have ne_1782_2074 : ∀ x y, MO A1777 x → MO (some ⟨b2069, 0, none⟩) y → x ≠ y := ne_of (MO.lt H2050 (Nat.le_of_eq hb2071.symm)) (MO.ge H2072o)
              have lt_1078_2074 : ∀ x, MR A1074 r1072 x → x < b2069 := (MR.lt H2051 (Nat.le_of_eq hb2071.symm))
              have g2074 : w.heap.size ≤ b2069 := Nat.le_trans hB.size (Nat.le_of_eq hb2071.symm)
              clear hb2071 H2072
              have bs2074 : b2069 ≤ w2070.heap.size := Nat.le_of_lt zb2069
              replace hB := below_ext hB e2073
              replace H2050 := H2050.ext e2073
              replace bs1782 := Nat.le_trans bs1782 (World.grownBy.size e2073)
              replace H2051 := H2051.ext e2073
              clear e2073
              rcases (Classical.em ((l1779.length + 1) * 16 ≤ 140737488355328)).symm with c2075 | c2075
              · rw [if_neg c2075] at h; cases h
              rw [if_pos c2075] at h
              refine XO.do rfl (D.append (xs := l1779) (ys := [x1776.take x2013.toNat]) (m := 1) Try.underlying94 ti9 rfl H2050 H2072o.row bs1782 (by first | omega | (simp at *; omega)) (by first | exact c2075 | omega | (simp at *; omega)) rfl rfl rfl rfl ?_)
              intro A2076 k2077 w2078 H2079 e2080 ha2081
              have pr1782_1078n := ne_app ha2081 pr1782_1078 (MR.lt H2051 (Nat.le_refl _))
              have ne_1782_2074n := ne_app ha2081 ne_1782_2074 (MO.lt H2072o (Nat.le_refl _))
              replace hB := below_own hB e2080 (fun x hx => Nat.le_trans hg1782 (MO.ge H2050 x hx))
              replace H2051 := H2051.gr e2080 (sepO (ne_of pr1078_1782 (MO.ge H2050)))
              replace H2072o := H2072o.gr e2080 (sepO (ne_flip ne_1782_2074))
              replace bs2074 := Nat.le_trans bs2074 (World.grownBy.size e2080)
              replace bs1782 := Nat.le_trans bs1782 (World.grownBy.size e2080)
              replace pr1782_1078 := pr1782_1078n
              replace ne_1782_2074 := ne_1782_2074n
              clear e2080 ha2081 H2050
              refine XO.do rfl (D.asn (v := .slice A2076 (l1779 ++ [x1776.take x2013.toNat]).length k2077) rfl rfl ?_)
              refine XO.nil ?_
              refine hM2066 _ _ ?_
              refine X.region ?_
              refine XO.do rfl (D.mv (v := S x1776) rfl rfl ?_)
              refine XO.do rfl (D.mv (v := .int .i64 x2013) rfl rfl ?_)
              refine XO.do rfl (D.sliceSlo (i := x2013) Try.underlying9 rfl rfl c2067 c2068 rfl ?_)
              refine XO.do rfl (D.asn (v := S (x1776.drop x2013.toNat)) rfl rfl ?_)
              refine XO.nil ?_
              refine hM1963 _ _ ?_
              refine X.region ?_
              refine XO.do rfl (D.add rfl rfl rfl ?_)
              refine XO.do rfl (D.mv (v := .int .i64 (w64 (x1784 + 1))) rfl rfl ?_)
              refine XO.nil ?_
              exact ⟨kf1775, Nat.lt_succ_self _, x1776.drop x2013.toNat, A2076, k2077, l1779 ++ [x1776.take x2013.toNat], B1780, w64 (x1784 + 1), rfl, rfl, rfl, rfl, rfl, hB, H2079, bs1782, hg1782, H2051, pr1782_1078, pr1078_1782, h⟩
      · rw [if_neg c1801] at h
        refine X.condF (congrArg Value.bool (decide_eq_false c1801)) ?_
        refine X.exit rfl ?_
        refine hM1066 _ _ ?_
        refine X.seq fun M2124 hM2125 => ?_
        refine X.region ?_
        refine XO.do rfl (D.mv (v := .slice A1777 l1779.length k1778) rfl rfl ?_)
        refine XO.do rfl (D.mv (v := S x1776) rfl rfl ?_)
        refine XO.do rfl (D.eqlS rfl rfl rfl ?_)
        refine XO.do rfl (D.asn (v := .slice A1777 l1779.length k1778) rfl rfl ?_)
        refine XO.do rfl (D.asn (v := .bool (x1776 == ([] : Str))) rfl rfl ?_)
        refine XO.nil ?_
        refine hM2125 _ _ ?_
        refine X.ret ?_
        injection h with h
        subst h
        exact hR _ _ _ (ret2 (v := .slice A1777 l1779.length k1778) (v' := .bool (x1776 == ([] : Str))) rfl rfl rfl) ⟨A1777, k1778, rfl, H1781.row, (fun y hy => Nat.le_trans hg1782 (MO.ge H1781 y hy)), ext_of_below hB⟩
theorem rdata_cut.ok (a1 : Int) (a2 : Str)  (w : World)  (hp : rdata_cut.pre a1 a2) :
    Ret Try.prog 55 ([.int .u16 a1, S a2] : List Value).toArray w fun v w' => ∃ (A1 : Option Addr) (k1 : Nat), v = .tuple #[.slice A1 ((rdata_cut a1 a2).1).length k1, .bool ((rdata_cut a1 a2).2)] ∧ Row eStr w' A1 k1 ((rdata_cut a1 a2).1) ∧ (∀ y, blkOf A1 = some y → w.heap.size ≤ y) ∧ Ext w w' := by
  obtain ⟨kf, h⟩ := rdata_cut.eq a1 a2 hp
  exact rdata_cut.walk kf a1 a2  w  _ h
end Go.Proofs.Ytfcaekghpkpjdaa.K
