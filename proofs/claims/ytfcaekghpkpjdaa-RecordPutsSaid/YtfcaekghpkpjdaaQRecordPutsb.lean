/- Part 2 of what the row of RecordPuts leans on: a library of walks, the pure functions, the walks of the functions. -/
import Derived.Laws.StructEq
import Derived.Test.YtfcaekghpkpjdaaRows
import Derived.WalkKit
import Derived.ProofKit
import Derived.OpenShut
import Derived.ShutString
import Derived.ChangeOld
import Derived.Below
import Derived.Carry
import Derived.Test.YtfcaekghpkpjdaaQRecordPutsa
/- Some more operations; the readers and packs. -/
namespace Go.Proofs.Ytfcaekghpkpjdaa.K
open Go Go.RowKit Go.Proofs
set_option linter.unusedVariables false
set_option maxRecDepth 100000
theorem ge_blk {s b : Nat} (h : s ≤ b) : ∀ x, MB b x → s ≤ x := fun x e => by rw [show x = b from e]; exact h
theorem gm_blkP {w w1 w2 : World} {b : Nat} (h : GrM w w1 (MB b)) (k : w1.grownBy w2 (some b)) : GrM w w2 (MB b) :=
 h.step (GrM.of_grown (M := MB b) k (by intro x e; injection e with e; exact e.symm)) (fun x hx => .inl hx)
section
variable {P : Program} {n : Nat} {f : Fr} {w : World} {K : Fr → World → Prop} {d : Nat} {ty : TypeId} {pos : String} {af : Array Edge} {g : Option (Nat × Bool)}
theorem D.neqPnil {t t' e : TypeId} {x y : Operand} {p : Option Addr} (ht : P.underlying t = some (.pointer e)) (hx : evF f x = .pointer p) (hy : evF f y = .pointer none) (hd : Nat.ble (d + 1) n = true) (k : K (upd f d (.bool (!p.isNone))) w) : Does P n ⟨some d, .binOp .neq t x y t', ty, pos, af, g⟩ f w K :=
 D.val rfl hd (by
  have e : (Op.equal t (.pointer p) (.pointer none)).run P w = .ok p.isNone w := eqIn_nil 9999 ht
  simp only [execOp, hx, hy, eqGuard_at_pointer, binOp, Sem.run_bind, Sem.run_pure, Result.andThen_ok, e]) k
theorem run_loadCell {T : TypeId} {b sz : Nat} {cs : List Value} (hT : Agg P T sz) (hb : Blk w b cs T) (hl : (cs.length == sz) = true) : (loadVar T ⟨b, 0, none⟩).run P w = .ok (.agg cs.toArray) w := by
 have hl' : cs.length = sz := by simpa using hl
 have := run_loadCells_list (P := P) (w := w) ⟨b, 0, none⟩ cs (fun i v hi => by rw [Addr.add_lit]; exact hb.cs i v hi)
 rw [hl'] at this
 simp [loadVar, (hT w).1, (hT w).2, this]
theorem retC {fn : Func} {t T sz b : Nat} {cs : List Value} (hT : Agg P T sz) (hb : Blk w b cs T) (h : fn.results = #[.cell t T]) (hv : f t = pt b 0) (hl : (cs.length == sz) = true) : RetV P n fn f w (.agg cs.toArray) := fun a ha => by
 have h1 := ha.get t; rw [hv] at h1; simp only [Array.getD_eq_getD_getElem?] at h1
 have h2 := run_loadCell hT hb hl
 simp [results, h, h1, asAddr, h2]
theorem retCT {fn : Func} {t u T sz b : Nat} {cs : List Value} {v' : Value} (hT : Agg P T sz) (hb : Blk w b cs T) (h : fn.results = #[.cell t T, .tmp u]) (hv : f t = pt b 0) (hv' : f u = v') (hl : (cs.length == sz) = true) : RetV P n fn f w (.tuple #[.agg cs.toArray, v']) := fun a ha => by
 have h1 := ha.get t; rw [hv] at h1; have h3 := ha.get u; rw [hv'] at h3; simp only [Array.getD_eq_getD_getElem?] at h1 h3
 have h2 := run_loadCell hT hb hl
 simp [results, h, h1, h3, asAddr, h2]
theorem retCTT {fn : Func} {t u x T sz b : Nat} {cs : List Value} {v' v'' : Value} (hT : Agg P T sz) (hb : Blk w b cs T) (h : fn.results = #[.cell t T, .tmp u, .tmp x]) (hv : f t = pt b 0) (hv' : f u = v') (hv'' : f x = v'') (hl : (cs.length == sz) = true) : RetV P n fn f w (.tuple #[.agg cs.toArray, v', v'']) := fun a ha => by
 have h1 := ha.get t; rw [hv] at h1; have h3 := ha.get u; rw [hv'] at h3; have h4 := ha.get x; rw [hv''] at h4; simp only [Array.getD_eq_getD_getElem?] at h1 h3 h4
 have h2 := run_loadCell hT hb hl
 simp [results, h, h1, h3, h4, asAddr, h2]
/-- Equal structures. -/
def EqIs (P : Program) (t : TypeId) (x y : Array Value) (b : Bool) : Prop := P.eqGuardType P.depth t = false ∧ ∀ w, (Op.equalIn 10000 t (.agg x) (.agg y)).run P w = .ok b w
theorem D.eqSt {t t' : TypeId} {x y : Operand} {xs ys : Array Value} {b : Bool} (he : EqIs P t xs ys b) (hx : evF f x = .agg xs) (hy : evF f y = .agg ys) (hd : Nat.ble (d + 1) n = true) (k : K (upd f d (.bool b)) w) : Does P n ⟨some d, .binOp .eql t x y t', ty, pos, af, g⟩ f w K :=
 D.val rfl hd (by simp only [execOp, hx, hy, Sem.run_bind, run_eqGuard_agg w .eql t x y xs ys he.1, Result.andThen_ok, run_eql_struct, he.2 w]; rfl) k
theorem D.neqSt {t t' : TypeId} {x y : Operand} {xs ys : Array Value} {b : Bool} (he : EqIs P t xs ys b) (hx : evF f x = .agg xs) (hy : evF f y = .agg ys) (hd : Nat.ble (d + 1) n = true) (k : K (upd f d (.bool (!b))) w) : Does P n ⟨some d, .binOp .neq t x y t', ty, pos, af, g⟩ f w K :=
 D.val rfl hd (by simp only [execOp, hx, hy, Sem.run_bind, run_eqGuard_agg w .neq t x y xs ys he.1, Result.andThen_ok, run_neq_struct, he.2 w]; rfl) k
end
/-- The row of a conversion of a string, and its room. -/
def OwnC (w : World) (b c : Nat) (xs : List Int) : Prop := OwnB w b xs ∧ xs.length ≤ c ∧ c ≤ 9223372036854775807
theorem OwnC.row {w : World} {b c : Nat} {xs : List Int} (h : OwnC w b c xs) : Row (eInt .u8) w (some ⟨b, 0, none⟩) c xs := h.1.row h.2.1 h.2.2
theorem OwnC.gr {w w' : World} {b c : Nat} {xs : List Int} {r : Option Nat} (h : OwnC w b c xs) (k : w.grownBy w' r) (hne : some b ≠ r) : OwnC w' b c xs := by
 refine ⟨?_, h.2⟩
 have hl := h.1.lt
 obtain ⟨cur, m, h1, h2⟩ := h.1
 exact ⟨cur, m, (k.block b hl hne).trans h1, h2⟩
theorem OwnC.ext {w w' : World} {b c : Nat} {xs : List Int} (h : OwnC w b c xs) (k : Ext w w') : OwnC w' b c xs := h.gr k (by simp)
section
variable {n : Nat} {f : Fr} {w : World} {K : Fr → World → Prop} {d : Nat} {ty : TypeId} {pos : String} {af : Array Edge} {g : Option (Nat × Bool)}
theorem D.bytesOf {x : Operand} {l : Str} (hl : l.length ≤ 9223372036854775807) (hx : evF f x = S l) (hd : Nat.ble (d + 1) n = true)
  (k : ∀ b c w', b = w.heap.size → OwnC w' b c (bytesI l) → Ext w w' → K (upd f d (.slice (some ⟨b, 0, none⟩) (bytesI l).length c)) w') : Does Try.prog n ⟨some d, .convert 9 62 x, ty, pos, af, g⟩ f w K := by
 obtain ⟨c, w', h1, h2, h3, h4, h5, h6⟩ := ownB_new w l hl
 have hlen : (bytesI l).length = l.length := by simp [bytesI]
 have := k w.heap.size c w' rfl ⟨h2, by rw [← hlen] at h4; exact h4, h5⟩ h3
 rw [hlen] at this
 exact D.val rfl hd (by simp only [execOp, hx, Sem.run_bind, h1, Result.andThen_ok, Sem.run_pure]) this
theorem D.indexC {P : Program} {t e : TypeId} {x y : Operand} {b c : Nat} {xs : List Int} {kd : IntKind} {i : Int} (ht : P.underlying t = some (.slice e)) (hs : ∀ w, (sizeOf e).run P w = .ok 1 w) (ho : OwnC w b c xs) (hx : evF f x = .slice (some ⟨b, 0, none⟩) xs.length c) (hy : evF f y = .int kd i) (h0 : 0 ≤ i) (h1 : i < xs.length) (hd : Nat.ble (d + 1) n = true)
  (k : ∀ o, o = i.toNat → Cs w b o [.int .u8 (rd xs i)] → K (upd f d (pt b o)) w) : Does P n ⟨some d, .indexAddr t x y, ty, pos, af, g⟩ f w K := by
 obtain ⟨b', o, hA, hc⟩ := ho.row.at_ (rd_get h0 h1)
 injection hA with hA
 injection hA with e1 e2
 subst e1 e2
 refine D.val rfl hd (by simp [execOp, hx, hy, Instr.indexAt, asIntOf, run_underlying ht, hs w, h0, h1, Addr.add_lit]) (k i.toNat rfl ?_)
 simpa [eInt] using hc
theorem D.storeC {P : Program} {T : TypeId} {x y : Operand} {b o c : Nat} {xs : List Int} {i z : Int} (hT : ∀ w, (sizeOf T).run P w = .ok 1 w) (ho : OwnC w b c xs) (hoff : o = i.toNat) (h0 : 0 ≤ i) (h1 : i < xs.length) (hx : evF f x = pt b o) (hy : evF f y = .int .u8 z)
  (k : ∀ w', OwnC w' b c (xs.set i.toNat z) → w.grownBy w' (some b) → K f w') : Does P n ⟨none, .store T x y, ty, pos, af, g⟩ f w K := by
 subst hoff
 obtain ⟨s1, s2, ⟨u, hu⟩, hfz⟩ := ho.1.store (i := i.toNat) (by omega) z
 refine .inr (.inl ⟨w.setCell ⟨b, i.toNat, none⟩ (.int .u8 z), rfl, .inl ?_, k _ ⟨s1, by rw [List.length_set]; exact ho.2.1, ho.2.2⟩ s2⟩)
 have hrs := run_store P w ⟨b, i.toNat, none⟩ (.int .u8 z) .plain rfl
 simp only [hu, hfz] at hrs
 simp [execOp, hx, hy, Instr.storeAt, Instr.sureAddr, storeVar, hT w, storeCells, Addr.add_lit, hrs, Value.cells]
end
theorem bWriteByteI_ok (w : World) (base b : Nat) (s : Str) (x : Int) (h : BObj w base b s) (h0 : 0 ≤ x) (h1 : x < 256) (hl : s.length + 1 ≤ 140737488355328) (hbw : base ≤ w.heap.size) : Ret Try.prog 79 ([pt b 0, .int .u8 x] : List Value).toArray w fun v w' => v = .nilIface ∧ BObj w' base b (s ++ [UInt8.ofNat x.toNat]) ∧ Below base w w' := by
 have e : x = ((UInt8.ofNat x.toNat).toNat : Int) := by
  have : (UInt8.ofNat x.toNat).toNat = x.toNat % 256 := UInt8.toNat_ofNat'
  omega
 have := bWriteByte_ok w base b s (UInt8.ofNat x.toNat) h hl hbw
 rw [← e] at this
 exact this
theorem part_sca {P : Program} {t : TypeId} {cs : Array Value} {off : Nat} {v : Value} (hs : Sca P t) (hv : cs[off]? = some v) (w : World) : (part t cs off).run P w = .ok v w := by
 simp [part, hs w, hv]
theorem eqFieldS {P : Program} {w : World} {d : Nat} {xs ys : Array Value} {f : Field} {fs : List Field} {u v : Value} {b r : Bool} (hs : Sca P f.type) (hn : f.name ≠ "_") (hx : xs[f.offset]? = some u) (hy : ys[f.offset]? = some v)
  (he : (Op.equalIn d f.type u v).run P w = .ok b w) (hr : (Op.eqFields d xs ys fs).run P w = .ok r w) : (Op.eqFields d xs ys (f :: fs)).run P w = .ok (b && r) w := by
 simp only [Op.eqFields, if_pos hn, Sem.run_bind, part_sca hs hx, part_sca hs hy, Result.andThen_ok, he]
 cases b <;> simp [hr]
theorem eqFieldsNil {P : Program} {w : World} {d : Nat} {xs ys : Array Value} : (Op.eqFields d xs ys []).run P w = .ok true w := rfl
theorem eqS {P : Program} {w : World} {d : Nat} {t : TypeId} {a b : Str} (h : P.underlying t = some .string) : (Op.equalIn (d + 1) t (S a) (S b)).run P w = .ok (a == b) w := by
 rw [show S a = Value.string ⟨⟨a⟩⟩ from rfl, show S b = Value.string ⟨⟨b⟩⟩ from rfl, run_equalIn_string w d t _ _ h, toList_mk, toList_mk]
theorem eqI {P : Program} {w : World} {d : Nat} {t : TypeId} {k k' : IntKind} {a b : Int} (h : P.underlying t = some (.int k')) : (Op.equalIn (d + 1) t (.int k a) (.int k b)).run P w = .ok (a == b) w := run_equalIn_int w d t k k' a b h
theorem eqRR (x y : RR) : EqIs Try.prog 25 #[S x.name, .int .u16 x.ty, .int .u16 x.cls, .int .u32 x.ttl, S x.data] #[S y.name, .int .u16 y.ty, .int .u16 y.cls, .int .u32 y.ttl, S y.data] (decide (x = y)) := by
 refine ⟨by kernel_rfl, fun w => ?_⟩
 rw [run_equalIn_struct w 9999 25 _ _ (by rw [Program.fieldsOf, Try.underlying25]) (by kernel_rfl)]
 simp only [Program.fieldsOf, Try.underlying25]
 refine (eqFieldS (sca Try.underlying9 rfl) (by decide) rfl rfl (eqS Try.underlying9) (eqFieldS (sca Try.underlying22 rfl) (by decide) rfl rfl (eqI Try.underlying22) (eqFieldS (sca Try.underlying22 rfl) (by decide) rfl rfl (eqI Try.underlying22) (eqFieldS (sca Try.underlying23 rfl) (by decide) rfl rfl (eqI Try.underlying23) (eqFieldS (sca Try.underlying9 rfl) (by decide) rfl rfl (eqS Try.underlying9) eqFieldsNil))))).trans ?_
 congr 1
 cases x; cases y; rw [Bool.eq_iff_iff]; simp
theorem eqQuestion (x y : Question) : EqIs Try.prog 30 #[S x.name, .int .u16 x.ty, .int .u16 x.cls] #[S y.name, .int .u16 y.ty, .int .u16 y.cls] (decide (x = y)) := by
 refine ⟨by kernel_rfl, fun w => ?_⟩
 rw [run_equalIn_struct w 9999 30 _ _ (by rw [Program.fieldsOf, Try.underlying30]) (by kernel_rfl)]
 simp only [Program.fieldsOf, Try.underlying30]
 refine (eqFieldS (sca Try.underlying9 rfl) (by decide) rfl rfl (eqS Try.underlying9) (eqFieldS (sca Try.underlying22 rfl) (by decide) rfl rfl (eqI Try.underlying22) (eqFieldS (sca Try.underlying22 rfl) (by decide) rfl rfl (eqI Try.underlying22) eqFieldsNil))).trans ?_
 congr 1
 cases x; cases y; rw [Bool.eq_iff_iff]; simp
end Go.Proofs.Ytfcaekghpkpjdaa.K

/- What a law's arguments are, out of the statement's own reading of them. -/
namespace Go.Proofs.Ytfcaekghpkpjdaa.K
open Go Go.RowKit Go.Proofs
set_option linter.unusedVariables false
/-- A type's values, as they are read. -/
def Dec (P : Program) (T : TypeId) {α : Type} (E : α → List Value) (wf : α → Prop) : Prop := ∀ (H : Type) (enc : TypeId × Value → H) (w : World) (base : Nat) (sp : Nat → Bool) (held : Bool) (fuel : Nat) (cs : List Value) (x : DataW H × List MemPlace),
 DataW.trod enc P w base sp held fuel T cs = some x → ∃ a, cs = E a ∧ wf a
def wfI (k : IntKind) (n : Int) : Prop := (Lit.int k n).wf = true
def wfS (s : Str) : Prop := s.length ≤ 9223372036854775807
variable {P : Program} {T : TypeId}
theorem addr_zero (a : Go.Addr) : a.add 0 = a := by cases a; simp [Addr.add]
theorem dec_bool (ht : P.underlying T = some .bool) : Dec P T (fun b : Bool => [.bool b]) (fun _ => True) := by
 intro H enc w base sp held fuel cs x h
 cases fuel with
 | zero => simp [DataW.trod] at h
 | succ m =>
  cases cs with
  | nil => simp [DataW.trod, ht] at h
  | cons v cs =>
   cases cs with
   | nil => cases v <;> simp [DataW.trod, ht] at h; exact ⟨_, rfl, trivial⟩
   | cons u cs => cases v <;> simp [DataW.trod, ht] at h
theorem dec_int {k : IntKind} (ht : P.underlying T = some (.int k)) : Dec P T (fun n : Int => [.int k n]) (wfI k) := by
 intro H enc w base sp held fuel cs x h
 cases fuel with
 | zero => simp [DataW.trod] at h
 | succ m =>
  cases cs with
  | nil => simp [DataW.trod, ht] at h
  | cons v cs =>
   cases cs with
   | nil =>
    cases v <;> simp [DataW.trod, ht] at h
    obtain ⟨⟨rfl, h2⟩, _⟩ := h
    exact ⟨_, rfl, h2⟩
   | cons u cs => cases v <;> simp [DataW.trod, ht] at h
theorem dec_str (ht : P.underlying T = some .string) : Dec P T (fun s : Str => [S s]) wfS := by
 intro H enc w base sp held fuel cs x h
 cases fuel with
 | zero => simp [DataW.trod] at h
 | succ m =>
  cases cs with
  | nil => simp [DataW.trod, ht] at h
  | cons v cs =>
   cases cs with
   | nil =>
    cases v with
    | string s =>
     simp [DataW.trod, ht] at h
     refine ⟨s.data.toList, ?_, ?_⟩
     ·rfl
     ·have h1 := h.1
      simp only [maxLen] at h1
      have : s.data.toList.length = s.size := by rw [Array.length_toList]; rfl
      unfold wfS; omega
    | _ => simp [DataW.trod, ht] at h
   | cons u cs => cases v <;> simp [DataW.trod, ht] at h
theorem mapM_all {α β : Type} {f : α → Option β} : ∀ {l : List α} {r : List β}, l.mapM f = some r → ∀ a ∈ l, ∃ b, f a = some b := by
 intro l
 induction l with
 | nil => intro r _ a ha; cases ha
 | cons x l ih =>
  intro r h a ha
  rw [List.mapM_cons] at h
  simp only [Option.bind_eq_bind, Option.bind_eq_some_iff, Option.pure_def, Option.some.injEq] at h
  obtain ⟨b, hb, r', hr', _⟩ := h
  rcases List.mem_cons.1 ha with rfl | ha
  ·exact ⟨b, hb⟩
  ·exact ih hr' a ha
/-- A struct's fields. -/
theorem trod_fields {H : Type} {enc : TypeId × Value → H} {w : World} {base : Nat} {sp : Nat → Bool} {held : Bool} {fuel : Nat} {cs : List Value} {x : DataW H × List MemPlace} {fs : Array Field} (ht : P.underlying T = some (.struct fs)) (h : DataW.trod enc P w base sp held fuel T cs = some x) :
  ∃ m, cs.length = P.cellsOf T ∧ ∀ f ∈ fs.toList, ∃ y, DataW.trod enc P w base sp held m f.type ((cs.drop f.offset).take (P.cellsOf f.type)) = some y := by
 cases fuel with
 | zero => simp [DataW.trod] at h
 | succ m =>
  have h' : (if cs.length = P.cellsOf T then (fs.toList.mapM fun f => DataW.trod enc P w base sp held m f.type ((cs.drop f.offset).take (P.cellsOf f.type))).map fun xs => (DataW.agg (xs.map (·.1)), xs.flatMap (·.2)) else none) = some x := by
   rw [← h]
   cases cs with
   | nil => simp only [DataW.trod, ht]
   | cons v cs =>
    cases cs with
    | nil => cases v <;> simp only [DataW.trod, ht]
    | cons u cs => cases v <;> simp only [DataW.trod, ht]
  split at h'
  ·rename_i hl
   rw [Option.map_eq_some_iff] at h'
   obtain ⟨xs, h1, _⟩ := h'
   exact ⟨m, hl, fun f hf => mapM_all h1 f hf⟩
  ·cases h'
theorem mapM_get {α β : Type} {f : α → Option β} : ∀ {l : List α} {r : List β}, l.mapM f = some r → r.length = l.length ∧ ∀ (i : Nat) (a : α), l[i]? = some a → ∃ b : β, r[i]? = some b ∧ f a = some b := by
 intro l
 induction l with
 | nil => intro r h; simp at h; subst h; simp
 | cons x l ih =>
  intro r h
  rw [List.mapM_cons] at h
  simp only [Option.bind_eq_bind, Option.bind_eq_some_iff, Option.pure_def, Option.some.injEq] at h
  obtain ⟨b, hb, r', hr', rfl⟩ := h
  obtain ⟨h1, h2⟩ := ih hr'
  refine ⟨by simp [h1], fun i a hi => ?_⟩
  cases i with
  | zero => simp at hi; subst hi; exact ⟨b, by simp, hb⟩
  | succ i => simpa using h2 i a (by simpa using hi)
theorem cells_at {w : World} {base : Nat} {a : Go.Addr} {n : Nat} {cs : List Value} (h : w.cells? base a n = some cs) : cs.length = n ∧ ∀ i v, cs[i]? = some v → w.cell? (a.add i) = some v := by
 unfold World.cells? at h
 split at h
 ·obtain ⟨h1, h2⟩ := mapM_get h
  refine ⟨by simpa using h1, fun i v hi => ?_⟩
  have hlt : i < n := by have := (List.getElem?_eq_some_iff.1 hi).1; simpa [h1] using this
  obtain ⟨b, hb, hc⟩ := h2 i i (by simp [hlt])
  rw [hi] at hb; injection hb with hb; subst hb; exact hc
 ·cases h
/-- A slice: its elements, as a row. -/
theorem dec_slice {α : Type} {E : En α} {wf : α → Prop} {e : TypeId} (ht : P.underlying T = some (.slice e)) (hsz : P.cellsOf e = E.sz) (hd : Dec P e E.enc wf) {H : Type} {enc : TypeId × Value → H} {w : World} {base : Nat} {sp : Nat → Bool} {held : Bool} {fuel : Nat} {cs : List Value} {x : DataW H × List MemPlace}
  (h : DataW.trod enc P w base sp held fuel T cs = some x) : ∃ (A : Option Go.Addr) (c : Nat) (xs : List α), cs = [.slice A xs.length c] ∧ Row E w A c xs ∧ (∀ a ∈ xs, wf a) ∧ xs.length ≤ 9223372036854775807 := by
 cases fuel with
 | zero => simp [DataW.trod] at h
 | succ m =>
  cases cs with
  | nil => simp [DataW.trod, ht] at h
  | cons v cs =>
   cases cs with
   | cons u cs => cases v <;> simp [DataW.trod, ht] at h
   | nil =>
    cases v with
    | slice A len cap =>
     cases A with
     | none =>
      cases len with
      | succ _ => simp [DataW.trod, ht] at h
      | zero =>
       cases cap with
       | succ _ => simp [DataW.trod, ht] at h
       | zero => exact ⟨none, 0, [], rfl, ⟨by simp, by omega, .inl rfl⟩, by simp, by simp⟩
     | some a =>
      simp only [DataW.trod, ht] at h
      split at h
      ·rename_i hc
       obtain ⟨hc1, hc2, hc3⟩ := hc
       rw [Option.bind_eq_some_iff] at h
       obtain ⟨elems, he, _⟩ := h
       obtain ⟨hl, hg⟩ := mapM_get he
       have hpos := E.pos
       by_cases h0 : len = 0
       ·subst h0
        exact ⟨some a, cap, [], rfl, ⟨by simp, by simp only [maxLen] at hc3; omega, .inl rfl⟩, by simp, by simp⟩
       have hraw : ∀ i, i < len → ∃ y : α, wf y ∧ ∀ j v, (E.enc y)[j]? = some v → w.cell? ((a.add (i * E.sz)).add j) = some v := by
        intro i hi
        obtain ⟨b, _, hb⟩ := hg i i (by simp [hi])
        rw [Option.bind_eq_some_iff] at hb
        obtain ⟨ds, hds, htr⟩ := hb
        obtain ⟨h1, h2⟩ := cells_at hds
        obtain ⟨y, hy, hwy⟩ := hd H enc w base sp held m ds b htr
        refine ⟨y, hwy, fun j v hj => ?_⟩
        have := h2 j v (by rw [hy]; exact hj)
        rw [hsz] at this
        exact this
       have hspot : a.spot = none := by
        obtain ⟨y, _, hy⟩ := hraw 0 (by omega)
        have hlen := E.len y
        have := hy 0 ((E.enc y)[0]'(by omega)) (List.getElem?_eq_getElem _)
        rw [Nat.zero_mul, addr_zero, addr_zero] at this
        unfold World.cell? at this
        split at this
        ·split at this
         ·cases this
         ·rename_i hs; simpa using hs
        ·cases this
       obtain ⟨b, o, s⟩ := a
       simp only at hspot
       subst hspot
       have hel : ∀ i, i < len → ∃ y : α, wf y ∧ ∀ j v, (E.enc y)[j]? = some v → w.cell? ⟨b, o + (i * E.sz + j), none⟩ = some v := by
        intro i hi
        obtain ⟨y, h1, h2⟩ := hraw i hi
        refine ⟨y, h1, fun j v hj => ?_⟩
        have := h2 j v hj
        rw [Addr.add_lit, Addr.add_lit, Nat.add_assoc] at this
        exact this
       have hall : ∀ len, (∀ i, i < len → ∃ y : α, wf y ∧ ∀ j v, (E.enc y)[j]? = some v → w.cell? ⟨b, o + (i * E.sz + j), none⟩ = some v) → ∃ xs : List α, xs.length = len ∧ (∀ a ∈ xs, wf a) ∧ ∀ (i : Nat) y, xs[i]? = some y → ∀ j v, (E.enc y)[j]? = some v → w.cell? ⟨b, o + (i * E.sz + j), none⟩ = some v := by
        intro len
        induction len with
        | zero => intro _; exact ⟨[], rfl, by simp, by simp⟩
        | succ len ih =>
         intro hel
         obtain ⟨xs, x1, x2, x3⟩ := ih (fun i hi => hel i (by omega))
         obtain ⟨y, hy1, hy2⟩ := hel len (by omega)
         refine ⟨xs ++ [y], by simp [x1], ?_, ?_⟩
         ·intro z hz; rcases List.mem_append.1 hz with hz | hz
          ·exact x2 z hz
          ·simp at hz; subst hz; exact hy1
         ·intro i z hz
          by_cases hi : i < xs.length
          ·rw [List.getElem?_append_left hi] at hz; exact x3 i z hz
          ·have : i = len := by
            have := (List.getElem?_eq_some_iff.1 hz).1
            simp at this; omega
           subst this
           rw [List.getElem?_append_right (by omega), x1] at hz
           simp at hz; subst hz; exact hy2
       obtain ⟨xs, x1, x2, x3⟩ := hall len hel
       refine ⟨some ⟨b, o, none⟩, cap, xs, by rw [x1], ⟨by omega, by simp only [maxLen] at hc3; omega, ?_⟩, x2, by simp only [maxLen] at hc3; omega⟩
       right
       refine ⟨b, o, rfl, fun j v hj => ?_⟩
       have hjl : j < xs.length * E.sz := by have := (List.getElem?_eq_some_iff.1 hj).1; rwa [flat_len] at this
       have hdm : j = j / E.sz * E.sz + j % E.sz := by rw [Nat.mul_comm]; exact (Nat.div_add_mod j E.sz).symm
       have hi : j / E.sz < xs.length := Nat.div_lt_of_lt_mul (by rw [Nat.mul_comm]; exact hjl)
       have hmod := Nat.mod_lt j hpos
       have hget := flat_get E xs (j / E.sz) (j % E.sz) xs[j / E.sz] (List.getElem?_eq_getElem hi) hmod
       rw [← hdm, hj] at hget
       have := x3 _ _ (List.getElem?_eq_getElem hi) (j % E.sz) v hget.symm
       rw [← hdm] at this
       exact this
      ·cases h
    | _ => simp [DataW.trod, ht] at h
end Go.Proofs.Ytfcaekghpkpjdaa.K

/- How the program's flat structures are read. -/
namespace Go.Proofs.Ytfcaekghpkpjdaa.K
open Go Go.RowKit Go.Proofs
set_option linter.unusedVariables false
set_option maxRecDepth 100000
theorem len1 {cs : List Value} (h : cs.length = 1) : ∃ c0, cs = [c0] := by
 match cs, h with
 | [c0], _ => exact ⟨c0, rfl⟩
theorem list1 {c0 d0 : Value} (h : [c0] = [d0]) : c0 = d0 := by
 simp only [List.cons.injEq, and_true] at h
 exact h
theorem len3 {cs : List Value} (h : cs.length = 3) : ∃ c0 c1 c2, cs = [c0, c1, c2] := by
 match cs, h with
 | [c0, c1, c2], _ => exact ⟨c0, c1, c2, rfl⟩
theorem list3 {c0 c1 c2 d0 d1 d2 : Value} (h : [c0, c1, c2] = [d0, d1, d2]) : c0 = d0 ∧ c1 = d1 ∧ c2 = d2 := by
 simp only [List.cons.injEq, and_true] at h
 exact h
theorem len5 {cs : List Value} (h : cs.length = 5) : ∃ c0 c1 c2 c3 c4, cs = [c0, c1, c2, c3, c4] := by
 match cs, h with
 | [c0, c1, c2, c3, c4], _ => exact ⟨c0, c1, c2, c3, c4, rfl⟩
theorem list5 {c0 c1 c2 c3 c4 d0 d1 d2 d3 d4 : Value} (h : [c0, c1, c2, c3, c4] = [d0, d1, d2, d3, d4]) : c0 = d0 ∧ c1 = d1 ∧ c2 = d2 ∧ c3 = d3 ∧ c4 = d4 := by
 simp only [List.cons.injEq, and_true] at h
 exact h
theorem len12 {cs : List Value} (h : cs.length = 12) : ∃ c0 c1 c2 c3 c4 c5 c6 c7 c8 c9 c10 c11, cs = [c0, c1, c2, c3, c4, c5, c6, c7, c8, c9, c10, c11] := by
 match cs, h with
 | [c0, c1, c2, c3, c4, c5, c6, c7, c8, c9, c10, c11], _ => exact ⟨c0, c1, c2, c3, c4, c5, c6, c7, c8, c9, c10, c11, rfl⟩
theorem list12 {c0 c1 c2 c3 c4 c5 c6 c7 c8 c9 c10 c11 d0 d1 d2 d3 d4 d5 d6 d7 d8 d9 d10 d11 : Value} (h : [c0, c1, c2, c3, c4, c5, c6, c7, c8, c9, c10, c11] = [d0, d1, d2, d3, d4, d5, d6, d7, d8, d9, d10, d11]) : c0 = d0 ∧ c1 = d1 ∧ c2 = d2 ∧ c3 = d3 ∧ c4 = d4 ∧ c5 = d5 ∧ c6 = d6 ∧ c7 = d7 ∧ c8 = d8 ∧ c9 = d9 ∧ c10 = d10 ∧ c11 = d11 := by
 simp only [List.cons.injEq, and_true] at h
 exact h
def wfRR (r : RR) : Prop := wfS r.name ∧ wfI .u16 r.ty ∧ wfI .u16 r.cls ∧ wfI .u32 r.ttl ∧ wfS r.data
theorem dec_RR : Dec Try.prog 25 eRR.enc wfRR := by
 intro H enc w base sp held fuel cs x h
 obtain ⟨m, hl, hf⟩ := trod_fields Try.underlying25 h
 obtain ⟨y0, h0⟩ := hf _ (.head _)
 obtain ⟨a0, e0, w0⟩ := (dec_str Try.underlying9) _ _ _ _ _ _ _ _ _ h0
 have s0 : Try.prog.cellsOf 9 = 1 := by kernel_rfl
 rw [s0] at e0
 obtain ⟨y1, h1⟩ := hf _ (.tail _ (.head _))
 obtain ⟨a1, e1, w1⟩ := (dec_int Try.underlying22) _ _ _ _ _ _ _ _ _ h1
 have s1 : Try.prog.cellsOf 22 = 1 := by kernel_rfl
 rw [s1] at e1
 obtain ⟨y2, h2⟩ := hf _ (.tail _ (.tail _ (.head _)))
 obtain ⟨a2, e2, w2⟩ := (dec_int Try.underlying22) _ _ _ _ _ _ _ _ _ h2
 have s2 : Try.prog.cellsOf 22 = 1 := by kernel_rfl
 rw [s2] at e2
 obtain ⟨y3, h3⟩ := hf _ (.tail _ (.tail _ (.tail _ (.head _))))
 obtain ⟨a3, e3, w3⟩ := (dec_int Try.underlying23) _ _ _ _ _ _ _ _ _ h3
 have s3 : Try.prog.cellsOf 23 = 1 := by kernel_rfl
 rw [s3] at e3
 obtain ⟨y4, h4⟩ := hf _ (.tail _ (.tail _ (.tail _ (.tail _ (.head _)))))
 obtain ⟨a4, e4, w4⟩ := (dec_str Try.underlying9) _ _ _ _ _ _ _ _ _ h4
 have s4 : Try.prog.cellsOf 9 = 1 := by kernel_rfl
 rw [s4] at e4
 have hc : Try.prog.cellsOf 25 = 5 := by kernel_rfl
 rw [hc] at hl
 obtain ⟨c0, c1, c2, c3, c4, rfl⟩ : ∃ c0 c1 c2 c3 c4, cs = [c0, c1, c2, c3, c4] := len5 hl
 have q0 : [c0] = [S a0] := e0
 obtain p0_0 := list1 q0
 have q1 : [c1] = [Value.int .u16 a1] := e1
 obtain p1_0 := list1 q1
 have q2 : [c2] = [Value.int .u16 a2] := e2
 obtain p2_0 := list1 q2
 have q3 : [c3] = [Value.int .u32 a3] := e3
 obtain p3_0 := list1 q3
 have q4 : [c4] = [S a4] := e4
 obtain p4_0 := list1 q4
 refine ⟨⟨a0, a1, a2, a3, a4⟩, ?_, w0, w1, w2, w3, w4⟩
 rw [p0_0, p1_0, p2_0, p3_0, p4_0]; rfl
def wfQuestion (r : Question) : Prop := wfS r.name ∧ wfI .u16 r.ty ∧ wfI .u16 r.cls
theorem dec_Question : Dec Try.prog 30 eQuestion.enc wfQuestion := by
 intro H enc w base sp held fuel cs x h
 obtain ⟨m, hl, hf⟩ := trod_fields Try.underlying30 h
 obtain ⟨y0, h0⟩ := hf _ (.head _)
 obtain ⟨a0, e0, w0⟩ := (dec_str Try.underlying9) _ _ _ _ _ _ _ _ _ h0
 have s0 : Try.prog.cellsOf 9 = 1 := by kernel_rfl
 rw [s0] at e0
 obtain ⟨y1, h1⟩ := hf _ (.tail _ (.head _))
 obtain ⟨a1, e1, w1⟩ := (dec_int Try.underlying22) _ _ _ _ _ _ _ _ _ h1
 have s1 : Try.prog.cellsOf 22 = 1 := by kernel_rfl
 rw [s1] at e1
 obtain ⟨y2, h2⟩ := hf _ (.tail _ (.tail _ (.head _)))
 obtain ⟨a2, e2, w2⟩ := (dec_int Try.underlying22) _ _ _ _ _ _ _ _ _ h2
 have s2 : Try.prog.cellsOf 22 = 1 := by kernel_rfl
 rw [s2] at e2
 have hc : Try.prog.cellsOf 30 = 3 := by kernel_rfl
 rw [hc] at hl
 obtain ⟨c0, c1, c2, rfl⟩ : ∃ c0 c1 c2, cs = [c0, c1, c2] := len3 hl
 have q0 : [c0] = [S a0] := e0
 obtain p0_0 := list1 q0
 have q1 : [c1] = [Value.int .u16 a1] := e1
 obtain p1_0 := list1 q1
 have q2 : [c2] = [Value.int .u16 a2] := e2
 obtain p2_0 := list1 q2
 refine ⟨⟨a0, a1, a2⟩, ?_, w0, w1, w2⟩
 rw [p0_0, p1_0, p2_0]; rfl
end Go.Proofs.Ytfcaekghpkpjdaa.K

/- Pure functions, printed by a program of this session out of the loaded code. -/
namespace Go.Proofs.Ytfcaekghpkpjdaa.K
open Go Go.RowKit
set_option linter.unusedVariables false
/-- octet.Some -/
def octet_Some.j1 (a2 : Int) (a3 : Int) (a1 : Str) (x27 : Bool) : Option (Str × Int × Int) :=
 (if x27 = true then some (([] : Str), 0, 2) else (if 0 ≤ a2 then (if a2 ≤ w64 (a2 + a3) then (if w64 (a2 + a3) ≤ (a1.length : Int) then some ((a1.drop a2.toNat).take ((w64 (a2 + a3)).toNat - a2.toNat), w64 (a2 + a3), 0) else none) else none) else none))
def octet_Some.f (a1 : Str) (a2 : Int) (a3 : Int) : Option (Str × Int × Int) :=
 (if a2 < 0 then (octet_Some.j1 a2 a3 a1 true) else (if a3 < 0 then (octet_Some.j1 a2 a3 a1 true) else (if (a1.length : Int) < a2 then (octet_Some.j1 a2 a3 a1 true) else (octet_Some.j1 a2 a3 a1 (decide ((w64 ((a1.length : Int) - a2)) < a3))))))
/-- octet.bytes -/
def octet_bytes.l1 (a2 : Int) (a1 : Int) : Nat → List Int → Int → Option (Str)
 | 0, _, _ => none
 | kf294 + 1, l297, x301 => (if x301 < a2 then (if 0 ≤ w64 (8 * x301) then (if 0 ≤ w64 ((w64 (a2 - 1)) - x301) then (if w64 ((w64 (a2 - 1)) - x301) < (l297.length : Int) then ((octet_bytes.l1 a2 a1 kf294) ((l297).set (w64 ((w64 (a2 - 1)) - x301)).toNat (w8 (sShr .u32 a1 (w64 (8 * x301))))) (w64 (x301 + 1))) else none) else none) else none) else some (strOf l297))
def octet_bytes.f (kf : Nat) (a1 : Int) (a2 : Int) : Option (Str) :=
 (if 0 ≤ a2 then (if a2 * 1 ≤ 281474976710656 then (octet_bytes.l1 a2 a1 kf (List.replicate a2.toNat (0 : Int)) 0) else none) else none)
end Go.Proofs.Ytfcaekghpkpjdaa.K

namespace Go.Proofs.Ytfcaekghpkpjdaa.K
open Go
set_option linter.unusedVariables false
def octet_Some (s : Str) (at_ many : Int) : Str × Int × Int := if at_ < 0 ∨ many < 0 ∨ (s.length : Int) < at_ ∨ (s.length : Int) - at_ < many then ([], 0, 2) else ((s.drop at_.toNat).take many.toNat, at_ + many, 0)
def octet_Some.pre (s : Str) (at_ many : Int) : Prop := s.length ≤ 4611686018427387904
instance i_octet_Some (s : Str) (at_ many : Int) : Decidable (octet_Some.pre s at_ many) := by unfold octet_Some.pre; infer_instance
theorem octet_Some.eq (s : Str) (at_ many : Int) (hp : octet_Some.pre s at_ many) : octet_Some.f s at_ many = some (octet_Some s at_ many) := by
 unfold octet_Some.pre at hp
 unfold octet_Some.f octet_Some octet_Some.j1
 by_cases h1 : at_ < 0
 ·simp [h1]
 by_cases h2 : many < 0
 ·simp [h1, h2]
 by_cases h3 : (s.length : Int) < at_
 ·simp [h1, h2, h3]
 have e1 : w64 ((s.length : Int) - at_) = (s.length : Int) - at_ := w64_id (by omega) (by omega)
 by_cases h4 : (s.length : Int) - at_ < many
 ·simp [h1, h2, h3, h4, e1]
 have e2 : w64 (at_ + many) = at_ + many := w64_id (by omega) (by omega)
 rw [if_neg h1, if_neg h2, if_neg h3, e1, e2, if_neg (by simpa using h4), if_pos (by omega), if_pos (by omega), if_pos (by omega), if_neg (by omega)]
 rw [show (at_ + many).toNat - at_.toNat = many.toNat by omega]
def byteAt (n k : Int) : UInt8 := UInt8.ofNat (w8 (sShr .u32 n k)).toNat
def octet_bytes (n many : Int) : Str := if many = 2 then [byteAt n 8, byteAt n 0] else [byteAt n 24, byteAt n 16, byteAt n 8, byteAt n 0]
def octet_bytes.pre (n many : Int) : Prop := many = 2 ∨ many = 4
instance i_octet_bytes (n many : Int) : Decidable (octet_bytes.pre n many) := by unfold octet_bytes.pre; infer_instance
theorem octet_bytes.eq (n many : Int) (hp : octet_bytes.pre n many) : ∃ kf, octet_bytes.f kf n many = some (octet_bytes n many) := by
 rcases hp with rfl | rfl
 ·exact ⟨3, rfl⟩
 ·exact ⟨5, rfl⟩
end Go.Proofs.Ytfcaekghpkpjdaa.K

/- Pure functions, printed by a program of this session out of the loaded code. -/
namespace Go.Proofs.Ytfcaekghpkpjdaa.K
open Go Go.RowKit
set_option linter.unusedVariables false
/-- octet.number[uint8] -/
def octet_number_uint8.l1 (r12 : Str × Int × Int) : Nat → Int → Int → Option (Int × Int × Int)
 | 0, _, _ => none
 | kf118 + 1, x119, x120 => (if x120 < (r12.1.length : Int) then (if 0 ≤ x120 then ((octet_number_uint8.l1 r12 kf118) (bOr .u32 (sShl .u32 x119 8) (w32 (bt r12.1 x120))) (w64 (x120 + 1))) else none) else some (w8 x119, r12.2.1, r12.2.2))
def octet_number_uint8.f (kf : Nat) (a1 : Str) (a2 : Int) (a3 : Int) : Option (Int × Int × Int) :=
 (if octet_Some.pre a1 a2 a3 then (lt (octet_Some a1 a2 a3) fun r12 => (octet_number_uint8.l1 r12 kf 0 0)) else none)
/-- octet.number[uint16] -/
def octet_number_uint16.l1 (r12 : Str × Int × Int) : Nat → Int → Int → Option (Int × Int × Int)
 | 0, _, _ => none
 | kf118 + 1, x119, x120 => (if x120 < (r12.1.length : Int) then (if 0 ≤ x120 then ((octet_number_uint16.l1 r12 kf118) (bOr .u32 (sShl .u32 x119 8) (w32 (bt r12.1 x120))) (w64 (x120 + 1))) else none) else some (w16 x119, r12.2.1, r12.2.2))
def octet_number_uint16.f (kf : Nat) (a1 : Str) (a2 : Int) (a3 : Int) : Option (Int × Int × Int) :=
 (if octet_Some.pre a1 a2 a3 then (lt (octet_Some a1 a2 a3) fun r12 => (octet_number_uint16.l1 r12 kf 0 0)) else none)
/-- octet.number[uint32] -/
def octet_number_uint32.l1 (r12 : Str × Int × Int) : Nat → Int → Int → Option (Int × Int × Int)
 | 0, _, _ => none
 | kf118 + 1, x119, x120 => (if x120 < (r12.1.length : Int) then (if 0 ≤ x120 then ((octet_number_uint32.l1 r12 kf118) (bOr .u32 (sShl .u32 x119 8) (w32 (bt r12.1 x120))) (w64 (x120 + 1))) else none) else some (x119, r12.2.1, r12.2.2))
def octet_number_uint32.f (kf : Nat) (a1 : Str) (a2 : Int) (a3 : Int) : Option (Int × Int × Int) :=
 (if octet_Some.pre a1 a2 a3 then (lt (octet_Some a1 a2 a3) fun r12 => (octet_number_uint32.l1 r12 kf 0 0)) else none)
end Go.Proofs.Ytfcaekghpkpjdaa.K

namespace Go.Proofs.Ytfcaekghpkpjdaa.K
open Go
set_option linter.unusedVariables false
def numOf (n : Int) (b : Str) : Int := b.foldl (fun n x => bOr .u32 (sShl .u32 n 8) (x.toNat : Int)) n
theorem bt_get {b : Str} {i : Nat} (h : i < b.length) : bt b i = ((b[i]).toNat : Int) := by
 simp [bt, List.getD_eq_getElem?_getD, List.getElem?_eq_getElem h]
theorem w32_byte (x : UInt8) : w32 (x.toNat : Int) = (x.toNat : Int) := by
 have := x.toNat_lt
 rw [w32_eq]; omega
theorem drop_at {b : Str} {i : Nat} (h : i < b.length) : b.drop i = b[i] :: b.drop (i + 1) := List.drop_eq_getElem_cons h
theorem num_step (b : Str) (i : Nat) (n : Int) (h : i < b.length) : bOr .u32 (sShl .u32 n 8) (w32 (bt b i)) = bOr .u32 (sShl .u32 n 8) ((b[i]).toNat : Int) := by rw [bt_get h, w32_byte]
def octet_number_uint8 (s : Str) (at_ many : Int) : Int × Int × Int := (w8 (numOf 0 (octet_Some s at_ many).1), (octet_Some s at_ many).2)
def octet_number_uint16 (s : Str) (at_ many : Int) : Int × Int × Int := (w16 (numOf 0 (octet_Some s at_ many).1), (octet_Some s at_ many).2)
def octet_number_uint32 (s : Str) (at_ many : Int) : Int × Int × Int := (numOf 0 (octet_Some s at_ many).1, (octet_Some s at_ many).2)
def octet_number_uint8.pre (s : Str) (at_ many : Int) : Prop := s.length ≤ 4611686018427387904
def octet_number_uint16.pre (s : Str) (at_ many : Int) : Prop := s.length ≤ 4611686018427387904
def octet_number_uint32.pre (s : Str) (at_ many : Int) : Prop := s.length ≤ 4611686018427387904
instance i_octet_number_uint8 (s : Str) (at_ many : Int) : Decidable (octet_number_uint8.pre s at_ many) := by unfold octet_number_uint8.pre; infer_instance
instance i_octet_number_uint16 (s : Str) (at_ many : Int) : Decidable (octet_number_uint16.pre s at_ many) := by unfold octet_number_uint16.pre; infer_instance
instance i_octet_number_uint32 (s : Str) (at_ many : Int) : Decidable (octet_number_uint32.pre s at_ many) := by unfold octet_number_uint32.pre; infer_instance
theorem some_len (s : Str) (at_ many : Int) : (octet_Some s at_ many).1.length ≤ s.length := by
 unfold octet_Some; split
 ·simp
 ·simp; omega
theorem octet_number_uint8.lp (r : Str × Int × Int) (hr : r.1.length ≤ 4611686018427387904) : ∀ (m i : Nat) (n : Int), i + m = r.1.length → octet_number_uint8.l1 r (m + 1) n i = some (w8 (numOf n (r.1.drop i)), r.2) := by
 intro m
 induction m with
 | zero => intro i n h; rw [octet_number_uint8.l1.eq_2, if_neg (by omega), List.drop_of_length_le (by omega)]; rfl
 | succ m ih =>
  intro i n h
  rw [octet_number_uint8.l1.eq_2, if_pos (by omega), if_pos (by omega), w64_id (by omega) (by omega), num_step r.1 i n (by omega), show ((i : Int) + 1) = ((i + 1 : Nat) : Int) by omega, ih (i + 1) _ (by omega), drop_at (show i < r.1.length by omega)]
  rfl
theorem octet_number_uint16.lp (r : Str × Int × Int) (hr : r.1.length ≤ 4611686018427387904) : ∀ (m i : Nat) (n : Int), i + m = r.1.length → octet_number_uint16.l1 r (m + 1) n i = some (w16 (numOf n (r.1.drop i)), r.2) := by
 intro m
 induction m with
 | zero => intro i n h; rw [octet_number_uint16.l1.eq_2, if_neg (by omega), List.drop_of_length_le (by omega)]; rfl
 | succ m ih =>
  intro i n h
  rw [octet_number_uint16.l1.eq_2, if_pos (by omega), if_pos (by omega), w64_id (by omega) (by omega), num_step r.1 i n (by omega), show ((i : Int) + 1) = ((i + 1 : Nat) : Int) by omega, ih (i + 1) _ (by omega), drop_at (show i < r.1.length by omega)]
  rfl
theorem octet_number_uint32.lp (r : Str × Int × Int) (hr : r.1.length ≤ 4611686018427387904) : ∀ (m i : Nat) (n : Int), i + m = r.1.length → octet_number_uint32.l1 r (m + 1) n i = some (numOf n (r.1.drop i), r.2) := by
 intro m
 induction m with
 | zero => intro i n h; rw [octet_number_uint32.l1.eq_2, if_neg (by omega), List.drop_of_length_le (by omega)]; rfl
 | succ m ih =>
  intro i n h
  rw [octet_number_uint32.l1.eq_2, if_pos (by omega), if_pos (by omega), w64_id (by omega) (by omega), num_step r.1 i n (by omega), show ((i : Int) + 1) = ((i + 1 : Nat) : Int) by omega, ih (i + 1) _ (by omega), drop_at (show i < r.1.length by omega)]
  rfl
theorem octet_number_uint8.eq (s : Str) (at_ many : Int) (hp : octet_number_uint8.pre s at_ many) : ∃ kf, octet_number_uint8.f kf s at_ many = some (octet_number_uint8 s at_ many) := by
 have hl := some_len s at_ many
 refine ⟨(octet_Some s at_ many).1.length + 1, ?_⟩
 unfold octet_number_uint8.f lt
 rw [if_pos (show octet_Some.pre s at_ many from hp)]
 exact octet_number_uint8.lp _ (Nat.le_trans hl hp) _ 0 0 (by omega)
theorem octet_number_uint16.eq (s : Str) (at_ many : Int) (hp : octet_number_uint16.pre s at_ many) : ∃ kf, octet_number_uint16.f kf s at_ many = some (octet_number_uint16 s at_ many) := by
 have hl := some_len s at_ many
 refine ⟨(octet_Some s at_ many).1.length + 1, ?_⟩
 unfold octet_number_uint16.f lt
 rw [if_pos (show octet_Some.pre s at_ many from hp)]
 exact octet_number_uint16.lp _ (Nat.le_trans hl hp) _ 0 0 (by omega)
theorem octet_number_uint32.eq (s : Str) (at_ many : Int) (hp : octet_number_uint32.pre s at_ many) : ∃ kf, octet_number_uint32.f kf s at_ many = some (octet_number_uint32 s at_ many) := by
 have hl := some_len s at_ many
 refine ⟨(octet_Some s at_ many).1.length + 1, ?_⟩
 unfold octet_number_uint32.f lt
 rw [if_pos (show octet_Some.pre s at_ many from hp)]
 exact octet_number_uint32.lp _ (Nat.le_trans hl hp) _ 0 0 (by omega)
end Go.Proofs.Ytfcaekghpkpjdaa.K

/- Pure functions, printed by a program of this session out of the loaded code. -/
namespace Go.Proofs.Ytfcaekghpkpjdaa.K
open Go Go.RowKit
set_option linter.unusedVariables false
/-- octet.Put16 -/
def octet_Put16 (a1 : Int) : Str :=
 (lt (octet_bytes (w32 a1) 2) fun r9 => (r9))
/-- octet.Put32 -/
def octet_Put32 (a1 : Int) : Str :=
 (lt (octet_bytes a1 4) fun r9 => (r9))
/-- octet.U8 -/
def octet_U8.f (a1 : Str) (a2 : Int) : Option (Int × Int × Int) :=
 (if octet_number_uint8.pre a1 a2 1 then (lt (octet_number_uint8 a1 a2 1) fun r11 => some (r11.1, r11.2.1, r11.2.2)) else none)
/-- octet.U16 -/
def octet_U16.f (a1 : Str) (a2 : Int) : Option (Int × Int × Int) :=
 (if octet_number_uint16.pre a1 a2 2 then (lt (octet_number_uint16 a1 a2 2) fun r11 => some (r11.1, r11.2.1, r11.2.2)) else none)
/-- octet.U32 -/
def octet_U32.f (a1 : Str) (a2 : Int) : Option (Int × Int × Int) :=
 (if octet_number_uint32.pre a1 a2 4 then (lt (octet_number_uint32 a1 a2 4) fun r11 => some (r11.1, r11.2.1, r11.2.2)) else none)
end Go.Proofs.Ytfcaekghpkpjdaa.K

namespace Go.Proofs.Ytfcaekghpkpjdaa.K
open Go
set_option linter.unusedVariables false
def octet_U8 (s : Str) (at_ : Int) : Int × Int × Int := octet_number_uint8 s at_ 1
def octet_U8.pre (s : Str) (at_ : Int) : Prop := s.length ≤ 4611686018427387904
instance i_octet_U8 (s : Str) (at_ : Int) : Decidable (octet_U8.pre s at_) := by unfold octet_U8.pre; infer_instance
theorem octet_U8.eq (s : Str) (at_ : Int) (hp : octet_U8.pre s at_) : octet_U8.f s at_ = some (octet_U8 s at_) := by
 unfold octet_U8.f lt
 rw [if_pos (show octet_number_uint8.pre s at_ 1 from hp)]; rfl
def octet_U16 (s : Str) (at_ : Int) : Int × Int × Int := octet_number_uint16 s at_ 2
def octet_U16.pre (s : Str) (at_ : Int) : Prop := s.length ≤ 4611686018427387904
instance i_octet_U16 (s : Str) (at_ : Int) : Decidable (octet_U16.pre s at_) := by unfold octet_U16.pre; infer_instance
theorem octet_U16.eq (s : Str) (at_ : Int) (hp : octet_U16.pre s at_) : octet_U16.f s at_ = some (octet_U16 s at_) := by
 unfold octet_U16.f lt
 rw [if_pos (show octet_number_uint16.pre s at_ 2 from hp)]; rfl
def octet_U32 (s : Str) (at_ : Int) : Int × Int × Int := octet_number_uint32 s at_ 4
def octet_U32.pre (s : Str) (at_ : Int) : Prop := s.length ≤ 4611686018427387904
instance i_octet_U32 (s : Str) (at_ : Int) : Decidable (octet_U32.pre s at_) := by unfold octet_U32.pre; infer_instance
theorem octet_U32.eq (s : Str) (at_ : Int) (hp : octet_U32.pre s at_) : octet_U32.f s at_ = some (octet_U32 s at_) := by
 unfold octet_U32.f lt
 rw [if_pos (show octet_number_uint32.pre s at_ 4 from hp)]; rfl
end Go.Proofs.Ytfcaekghpkpjdaa.K

/- Bits of numbers. -/
namespace Go.Proofs.Ytfcaekghpkpjdaa.K
open Go
set_option linter.unusedVariables false
theorem nat_or_add {a b k : Nat} (h : b < 2 ^ k) : a * 2 ^ k ||| b = a * 2 ^ k + b := by
 have := Nat.shiftLeft_add_eq_or_of_lt h a
 rw [Nat.shiftLeft_eq] at this
 exact this.symm
theorem bOr32 {x y : Nat} (hx : x < 4294967296) (hy : y < 4294967296) : bOr .u32 x y = ((x ||| y : Nat) : Int) := by
 unfold bOr
 have h : x ||| y < 2 ^ 32 := Nat.or_lt_two_pow hx hy
 rw [BitVec.ofInt_natCast, BitVec.ofInt_natCast, BitVec.toNat_or, BitVec.toNat_ofNat, BitVec.toNat_ofNat]
 have e : IntKind.bits .u32 = 32 := rfl
 rw [e, Nat.mod_eq_of_lt (by omega : x < 2 ^ 32), Nat.mod_eq_of_lt (by omega : y < 2 ^ 32)]
 show w32 _ = _
 rw [w32_eq]; omega
theorem bOr64 {x y : Nat} (hx : x < 4611686018427387904) (hy : y < 4611686018427387904) : bOr .i64 x y = ((x ||| y : Nat) : Int) := by
 unfold bOr
 have h : x ||| y < 2 ^ 62 := Nat.or_lt_two_pow hx hy
 rw [BitVec.ofInt_natCast, BitVec.ofInt_natCast, BitVec.toNat_or, BitVec.toNat_ofNat, BitVec.toNat_ofNat]
 have e : IntKind.bits .i64 = 64 := rfl
 rw [e, Nat.mod_eq_of_lt (by omega : x < 2 ^ 64), Nat.mod_eq_of_lt (by omega : y < 2 ^ 64)]
 show w64 _ = _
 rw [w64_id] <;> omega
theorem shl8 {x : Nat} (hx : x < 16777216) : sShl .u32 x 8 = ((x * 256 : Nat) : Int) := by
 unfold sShl
 have e : min (8 : Int).toNat (IntKind.bits .u32) = 8 := by decide
 rw [e]
 show w32 _ = _
 rw [w32_eq]; omega
theorem num_byte {n : Nat} (c : UInt8) (hn : n < 16777216) : bOr .u32 (sShl .u32 n 8) (c.toNat : Int) = ((n * 256 + c.toNat : Nat) : Int) := by
 have hc := c.toNat_lt
 rw [shl8 hn, bOr32 (by omega) (by omega), show (256 : Nat) = 2 ^ 8 from rfl, nat_or_add (by omega)]
theorem numOf_eq : ∀ (b : Str) (n : Nat), (b.length ≤ 4) → n < 256 ^ (4 - b.length) → numOf n b = ((b.foldl (fun n x => n * 256 + x.toNat) n : Nat) : Int) := by
 intro b
 induction b with
 | nil => intro n _ _; rfl
 | cons c b ih =>
  intro n h1 h2
  simp only [List.length_cons] at h1 h2
  have hc := c.toNat_lt
  obtain ⟨k, hk⟩ : ∃ k, 4 - b.length = k + 1 := ⟨3 - b.length, by omega⟩
  have hk2 : 4 - (b.length + 1) = k := by omega
  rw [hk2] at h2
  have h3 : n < 16777216 := by
   have : 256 ^ k ≤ 256 ^ 3 := Nat.pow_le_pow_right (by decide) (by omega)
   have e : (256 : Nat) ^ 3 = 16777216 := by decide
   omega
  have h4 : n * 256 + c.toNat < 256 ^ (4 - b.length) := by rw [hk, Nat.pow_succ]; omega
  have := ih (n * 256 + c.toNat) (by omega) h4
  unfold numOf at this ⊢
  rw [List.foldl_cons, List.foldl_cons, num_byte c h3, this]
theorem some_bad {s : Str} {a m : Int} (h : a < 0 ∨ m < 0 ∨ (s.length : Int) < a ∨ (s.length : Int) - a < m) : octet_Some s a m = ([], 0, 2) := if_pos h
theorem some_ok {s : Str} {a m : Int} (h : ¬ (a < 0 ∨ m < 0 ∨ (s.length : Int) < a ∨ (s.length : Int) - a < m)) : octet_Some s a m = ((s.drop a.toNat).take m.toNat, a + m, 0) := if_neg h
theorem getD_at {s : Str} {i : Nat} (h : i < s.length) : s.getD i 0 = s[i] := by simp [List.getD_eq_getElem?_getD, List.getElem?_eq_getElem h]
theorem drop1 {s : Str} {i : Nat} (h : i < s.length) : (s.drop i).take 1 = [s.getD i 0] := by
 rw [List.drop_eq_getElem_cons h, getD_at h, List.take_succ_cons, List.take_zero]
theorem drop2 {s : Str} {i : Nat} (h : i + 1 < s.length) : (s.drop i).take 2 = [s.getD i 0, s.getD (i + 1) 0] := by
 rw [List.drop_eq_getElem_cons (by omega : i < s.length), List.take_succ_cons, drop1 h, getD_at (by omega : i < s.length)]
theorem drop3 {s : Str} {i : Nat} (h : i + 2 < s.length) : (s.drop i).take 3 = [s.getD i 0, s.getD (i + 1) 0, s.getD (i + 2) 0] := by
 rw [List.drop_eq_getElem_cons (by omega : i < s.length), List.take_succ_cons, drop2 (by omega), getD_at (by omega : i < s.length)]
theorem drop4 {s : Str} {i : Nat} (h : i + 3 < s.length) : (s.drop i).take 4 = [s.getD i 0, s.getD (i + 1) 0, s.getD (i + 2) 0, s.getD (i + 3) 0] := by
 rw [List.drop_eq_getElem_cons (by omega : i < s.length), List.take_succ_cons, drop3 (by omega), getD_at (by omega : i < s.length)]
theorem w8_byte (c : UInt8) : w8 (c.toNat : Int) = (c.toNat : Int) := by have := c.toNat_lt; rw [w8_eq]; omega
/-- One byte, two, four: as numbers. -/
theorem U8_eq (s : Str) (a : Int) : octet_U8 s a = if a < 0 ∨ (s.length : Int) ≤ a then (0, 0, 2) else (bt s a, a + 1, 0) := by
 unfold octet_U8 octet_number_uint8
 by_cases h : a < 0 ∨ (s.length : Int) ≤ a
 ·rw [if_pos h, some_bad (by omega)]; rfl
 ·rw [if_neg h, some_ok (by omega)]
  simp only
  rw [show (1 : Int).toNat = 1 from rfl, drop1 (by omega : a.toNat < s.length)]
  have := numOf_eq [s.getD a.toNat 0] 0 (by simp) (Nat.pow_pos (by decide))
  rw [show ((0 : Nat) : Int) = 0 from rfl] at this
  rw [this]
  simp only [List.foldl_cons, List.foldl_nil, Nat.zero_mul, Nat.zero_add]
  rw [w8_byte]; rfl
theorem U16_eq (s : Str) (a : Int) : octet_U16 s a = if a < 0 ∨ (s.length : Int) < a + 2 then (0, 0, 2) else (bt s a * 256 + bt s (a + 1), a + 2, 0) := by
 unfold octet_U16 octet_number_uint16
 by_cases h : a < 0 ∨ (s.length : Int) < a + 2
 ·rw [if_pos h, some_bad (by omega)]; rfl
 ·rw [if_neg h, some_ok (by omega)]
  simp only
  rw [show (2 : Int).toNat = 2 from rfl, drop2 (by omega : a.toNat + 1 < s.length)]
  have := numOf_eq [s.getD a.toNat 0, s.getD (a.toNat + 1) 0] 0 (by simp) (Nat.pow_pos (by decide))
  rw [show ((0 : Nat) : Int) = 0 from rfl] at this
  rw [this]
  simp only [List.foldl_cons, List.foldl_nil, Nat.zero_mul, Nat.zero_add]
  have h1 := (s.getD a.toNat 0).toNat_lt
  have h2 := (s.getD (a.toNat + 1) 0).toNat_lt
  have e : (a + 1).toNat = a.toNat + 1 := by omega
  unfold bt
  rw [e, w16_eq]
  congr 1
  try omega
theorem U32_eq (s : Str) (a : Int) : octet_U32 s a = if a < 0 ∨ (s.length : Int) < a + 4 then (0, 0, 2) else (((bt s a * 256 + bt s (a + 1)) * 256 + bt s (a + 2)) * 256 + bt s (a + 3), a + 4, 0) := by
 unfold octet_U32 octet_number_uint32
 by_cases h : a < 0 ∨ (s.length : Int) < a + 4
 ·rw [if_pos h, some_bad (by omega)]; rfl
 ·rw [if_neg h, some_ok (by omega)]
  simp only
  rw [show (4 : Int).toNat = 4 from rfl, drop4 (by omega : a.toNat + 3 < s.length)]
  have := numOf_eq [s.getD a.toNat 0, s.getD (a.toNat + 1) 0, s.getD (a.toNat + 2) 0, s.getD (a.toNat + 3) 0] 0 (by simp) (Nat.pow_pos (by decide))
  rw [show ((0 : Nat) : Int) = 0 from rfl] at this
  rw [this]
  simp only [List.foldl_cons, List.foldl_nil, Nat.zero_mul, Nat.zero_add]
  unfold bt
  rw [show (a + 1).toNat = a.toNat + 1 by omega, show (a + 2).toNat = a.toNat + 2 by omega, show (a + 3).toNat = a.toNat + 3 by omega]
  congr 1
  try omega
theorem bt_lt (s : Str) (i : Int) : 0 ≤ bt s i ∧ bt s i < 256 := by unfold bt; have := (s.getD i.toNat 0).toNat_lt; omega
/-- A pointer's place. -/
theorem andNot14 {x : Nat} (hx : x < 65536) : bAndNot .i64 x 49152 = ((x % 16384 : Nat) : Int) := by
 have e : (BitVec.ofInt 64 (x : Int) &&& ~~~BitVec.ofInt 64 49152).toNat = x % 16384 := by
  rw [BitVec.ofInt_natCast]
  apply Nat.eq_of_testBit_eq
  intro i
  rw [show (16384 : Nat) = 2 ^ 14 from rfl, Nat.testBit_mod_two_pow, ← BitVec.getLsbD, BitVec.getLsbD_and, BitVec.getLsbD_not]
  have e2 : BitVec.ofInt 64 49152 = BitVec.ofNat 64 49152 := by decide
  rw [e2, BitVec.getLsbD_ofNat, BitVec.getLsbD_ofNat]
  by_cases h1 : i < 14
  ·have : Nat.testBit 49152 i = false := by
    have : ∀ j : Fin 14, Nat.testBit 49152 j.val = false := by decide
    exact this ⟨i, h1⟩
   simp [h1, this, show i < 64 by omega]
  by_cases h2 : i < 16
  ·have : Nat.testBit 49152 i = true := by
    have hi : i = 14 ∨ i = 15 := by omega
    rcases hi with rfl | rfl <;> decide
   simp [h1, this]
  ·have : Nat.testBit x i = false := Nat.testBit_lt_two_pow (Nat.lt_of_lt_of_le hx (show 2 ^ 16 ≤ 2 ^ i from Nat.pow_le_pow_right (Nat.succ_pos 1) (by omega)))
   simp [h1, this]
 unfold bAndNot
 rw [show IntKind.bits .i64 = 64 from rfl, e]
 show w64 _ = _
 rw [w64_id] <;> omega
theorem or14 {a : Nat} (ha : a < 16384) : bOr .i64 49152 a = 49152 + (a : Int) := by
 have := bOr64 (x := 49152) (y := a) (by decide) (by omega)
 rw [show ((49152 : Nat) : Int) = 49152 from rfl] at this
 rw [this, show (49152 : Nat) = 3 * 2 ^ 14 from rfl, nat_or_add (by omega)]
 omega
end Go.Proofs.Ytfcaekghpkpjdaa.K

/- Pure functions, printed by a program of this session out of the loaded code. -/
namespace Go.Proofs.Ytfcaekghpkpjdaa.K
open Go Go.RowKit
set_option linter.unusedVariables false
/-- name.Fold -/
def name_Fold.j2 (cl473 : List Int → Int → Option (Str)) (x465 : Int) (l510 : List Int) : Option (Str) :=
 (cl473 l510 (w64 (x465 + 1)))
def name_Fold.j3 (cl473 : List Int → Int → Option (Str)) (x465 : Int) (l462 : List Int) (x529 : Bool) : Option (Str) :=
 (if x529 = true then (name_Fold.j2 cl473 x465 ((l462).set x465.toNat (w8 ((rd l462 x465) + 32)))) else (name_Fold.j2 cl473 x465 l462))
def name_Fold.l1 (a1 : Str) : Nat → List Int → Int → Option (Str)
 | 0, _, _ => none
 | kf461 + 1, l462, x465 => (if x465 < ((bytesI a1).length : Int) then (if 0 ≤ x465 then (if x465 < (l462.length : Int) then (if 65 ≤ (rd l462 x465) then (name_Fold.j3 (name_Fold.l1 a1 kf461) x465 l462 (decide ((rd l462 x465) ≤ 90))) else (name_Fold.j3 (name_Fold.l1 a1 kf461) x465 l462 false)) else none) else none) else some (strOf l462))
def name_Fold.f (kf : Nat) (a1 : Str) : Option (Str) :=
 (if a1.length ≤ 9223372036854775807 then (name_Fold.l1 a1 kf (bytesI a1) 0) else none)
end Go.Proofs.Ytfcaekghpkpjdaa.K

namespace Go.Proofs.Ytfcaekghpkpjdaa.K
open Go
set_option linter.unusedVariables false
def low (c : UInt8) : UInt8 := if 65 ≤ c ∧ c ≤ 90 then c + 32 else c
def name_Fold (s : Str) : Str := s.map low
def name_Fold.pre (s : Str) : Prop := s.length ≤ 4611686018427387904
instance i_name_Fold (s : Str) : Decidable (name_Fold.pre s) := by unfold name_Fold.pre; infer_instance
def lowI (x : Int) : Int := if 65 ≤ x ∧ x ≤ 90 then w8 (x + 32) else x
theorem Fold.lp (s : Str) (hs : s.length ≤ 4611686018427387904) : ∀ (m i : Nat) (xs : List Int), xs.length = s.length → i + m = s.length → name_Fold.l1 s (m + 1) xs i = some (strOf (xs.take i ++ (xs.drop i).map lowI)) := by
 intro m
 induction m with
 | zero =>
  intro i xs h1 h
  rw [name_Fold.l1.eq_2, if_neg (by simp [bytesI]; omega), List.drop_of_length_le (by omega), List.take_of_length_le (by omega)]; simp
 | succ m ih =>
  intro i xs h1 h
  have hi : i < xs.length := by omega
  have hrd : rd xs (i : Int) = xs[i] := by simp [rd, List.getD_eq_getElem?_getD, List.getElem?_eq_getElem hi]
  rw [name_Fold.l1.eq_2, if_pos (by simp [bytesI]; omega), if_pos (by omega), if_pos (by omega), hrd]
  have e1 : w64 ((i : Int) + 1) = ((i + 1 : Nat) : Int) := by rw [w64_id (by omega) (by omega)]; omega
  have hset : ∀ y, strOf ((xs.set i y).take (i + 1) ++ ((xs.set i y).drop (i + 1)).map lowI) = strOf (xs.take i ++ (y :: (xs.drop (i + 1)).map lowI)) := by
   intro y
   congr 1
   rw [List.take_set, List.drop_set_of_lt (by omega), List.take_succ_eq_append_getElem hi, List.set_append_right _ _ (by simp; omega)]
   simp [Nat.min_eq_left (Nat.le_of_lt hi)]
  have hstep : ∀ b : Bool, (b = true → lowI xs[i] = w8 (xs[i] + 32)) → (b = false → lowI xs[i] = xs[i]) → name_Fold.j3 (name_Fold.l1 s (m + 1)) i xs b = some (strOf (xs.take i ++ (xs.drop i).map lowI)) := by
   intro b hb1 hb2
   unfold name_Fold.j3 name_Fold.j2
   rw [List.drop_eq_getElem_cons hi, List.map_cons]
   cases b with
   | true =>
    rw [if_pos rfl, e1, show ((i : Int)).toNat = i by omega, hrd, ih (i + 1) _ (by simp [h1]) (by omega), hset, ← hb1 rfl]
   | false =>
    rw [if_neg (by simp), e1, ih (i + 1) _ h1 (by omega), hb2 rfl]
    have := hset xs[i]
    rw [List.set_getElem_self] at this
    rw [this]
  by_cases hA : 65 ≤ xs[i]
  ·rw [if_pos hA]
   refine hstep _ (fun hb => ?_) (fun hb => ?_)
   ·unfold lowI; rw [if_pos ⟨hA, by simpa using hb⟩]
   ·unfold lowI; rw [if_neg (fun hc => by simp [hc.2] at hb)]
  ·rw [if_neg hA]
   exact hstep false (fun hb => by cases hb) (fun _ => by unfold lowI; rw [if_neg (fun hc => hA hc.1)])
theorem lowI_byte (c : UInt8) : UInt8.ofNat (lowI (c.toNat : Int)).toNat = low c := by
 have : ∀ n : Fin 256, UInt8.ofNat (lowI ((UInt8.ofNat n.val).toNat : Int)).toNat = low (UInt8.ofNat n.val) := by decide +kernel
 have h := this ⟨c.toNat, c.toNat_lt⟩
 simpa using h
theorem name_Fold.eq (s : Str) (hp : name_Fold.pre s) : ∃ kf, name_Fold.f kf s = some (name_Fold s) := by
 unfold name_Fold.pre at hp
 refine ⟨s.length + 1, ?_⟩
 unfold name_Fold.f
 rw [if_pos (by omega)]
 have := Fold.lp s hp s.length 0 (bytesI s) (by simp [bytesI]) (by omega)
 rw [show ((0 : Nat) : Int) = 0 from rfl] at this
 rw [this]
 simp only [List.take_zero, List.nil_append, List.drop_zero, name_Fold, strOf, bytesI, List.map_map]
 congr 1
 refine List.map_congr_left fun c _ => ?_
 exact lowI_byte c
end Go.Proofs.Ytfcaekghpkpjdaa.K

/- What a range over a name's labels holds between two rounds: where its blocks are, the labels, what is left. -/
namespace Go.Proofs.Ytfcaekghpkpjdaa.K
open Go
structure YSt where
 D : Nat
 b4 : Nat
 b5 : Nat
 ls : List Str
 left : Str
def yStep (s : YSt) (label rest : Str) : Bool × YSt := (true, { s with ls := s.ls ++ [label], left := rest })
def yStep.pre (s : YSt) (label rest : Str) : Prop := s.ls.length ≤ 1000000
instance i_yStep (s : YSt) (label rest : Str) : Decidable (yStep.pre s label rest) := by unfold yStep.pre; infer_instance
end Go.Proofs.Ytfcaekghpkpjdaa.K

/- Pure functions, printed by a program of this session out of the loaded code. -/
namespace Go.Proofs.Ytfcaekghpkpjdaa.K
open Go Go.RowKit
set_option linter.unusedVariables false
/-- name.each$1 -/
def name_each_1.j2 (x317 : Str) (x316 : YSt) (cl325 : YSt → Str → Option (YSt)) (x363 : Bool) : Option (YSt) :=
 (if x363 = true then (if 0 < (x317.length : Int) then (if 1 ≤ w64 (1 + (w64 (bt x317 0))) then (if w64 (1 + (w64 (bt x317 0))) ≤ (x317.length : Int) then (if 0 ≤ w64 (1 + (w64 (bt x317 0))) then (if yStep.pre x316 ((x317.drop (1 : Int).toNat).take ((w64 (1 + (w64 (bt x317 0)))).toNat - (1 : Int).toNat)) (x317.drop (w64 (1 + (w64 (bt x317 0)))).toNat) then (lt (yStep x316 ((x317.drop (1 : Int).toNat).take ((w64 (1 + (w64 (bt x317 0)))).toNat - (1 : Int).toNat)) (x317.drop (w64 (1 + (w64 (bt x317 0)))).toNat)) fun r440 => (if r440.1 = true then (cl325 r440.2 (x317.drop (w64 (1 + (w64 (bt x317 0)))).toNat)) else some (r440.2))) else none) else none) else none) else none) else none) else some (x316))
def name_each_1.l1  : Nat → YSt → Str → Option (YSt)
 | 0, _, _ => none
 | kf313 + 1, x316, x317 => (if x317 = ([] : Str) then (name_each_1.j2 x317 x316 (name_each_1.l1 kf313) false) else (if 0 < (x317.length : Int) then (if 0 < (bt x317 0) then (if (bt x317 0) ≤ 63 then (name_each_1.j2 x317 x316 (name_each_1.l1 kf313) (decide ((w64 (bt x317 0)) < (x317.length : Int)))) else (name_each_1.j2 x317 x316 (name_each_1.l1 kf313) false)) else (name_each_1.j2 x317 x316 (name_each_1.l1 kf313) false)) else none))
def name_each_1.f (kf : Nat) (a4 : YSt) (a8 : Str) : Option (YSt) :=
 (name_each_1.l1 kf a4 a8)
end Go.Proofs.Ytfcaekghpkpjdaa.K

namespace Go.Proofs.Ytfcaekghpkpjdaa.K
open Go
set_option linter.unusedVariables false
/-- The label at the head of a name, and the rest. -/
def labelOf : Str → Option (Str × Str)
 | [] => none
 | c :: t => if 0 < c.toNat ∧ c.toNat ≤ 63 ∧ c.toNat ≤ t.length then some (t.take c.toNat, t.drop c.toNat) else none
def eachN : Nat → YSt → Str → YSt
 | 0, st, _ => st
 | k + 1, st, n => match labelOf n with
  | none => st
  | some p => eachN k (yStep st p.1 p.2).2 p.2
def name_each_1 (st : YSt) (n : Str) : YSt := eachN (n.length + 1) st n
def name_each_1.pre (st : YSt) (n : Str) : Prop := st.ls.length + n.length ≤ 1000000
instance i_name_each_1 (st : YSt) (n : Str) : Decidable (name_each_1.pre st n) := by unfold name_each_1.pre; infer_instance
theorem labelOf_lt {n : Str} {p : Str × Str} (h : labelOf n = some p) : p.2.length + 2 ≤ n.length := by
 cases n with
 | nil => cases h
 | cons c t =>
  simp only [labelOf] at h
  split at h
  ·injection h with h; subst h; simp; omega
  ·cases h
theorem each_lp : ∀ (k : Nat) (st : YSt) (n : Str), n.length < k → st.ls.length + n.length ≤ 1000000 → name_each_1.l1 k st n = some (eachN k st n) := by
 intro k
 induction k with
 | zero => intro st n h; omega
 | succ k ih =>
  intro st n h hl
  rw [name_each_1.l1.eq_2]
  cases n with
  | nil => rw [if_pos rfl]; unfold name_each_1.j2; rw [if_neg (by simp)]; rfl
  | cons c t =>
   have hb : bt (c :: t) 0 = (c.toNat : Int) := rfl
   have hc := c.toNat_lt
   rw [if_neg (by simp), if_pos (by simp), hb]
   have hno : labelOf (c :: t) = none → name_each_1.j2 (c :: t) st (name_each_1.l1 k) false = some (eachN (k + 1) st (c :: t)) := by
    intro hn
    unfold name_each_1.j2; rw [if_neg (by simp)]; simp only [eachN, hn]
   by_cases h1 : 0 < (c.toNat : Int)
   ·rw [if_pos h1]
    by_cases h2 : (c.toNat : Int) ≤ 63
    ·rw [if_pos h2, w64_id (by omega) (by omega)]
     by_cases h3 : (c.toNat : Int) < ((c :: t).length : Int)
     ·have h3' : c.toNat ≤ t.length := by simp at h3; omega
      have hlab : labelOf (c :: t) = some (t.take c.toNat, t.drop c.toNat) := by simp only [labelOf]; rw [if_pos ⟨by omega, by omega, h3'⟩]
      rw [decide_eq_true h3]
      unfold name_each_1.j2
      rw [hb, w64_id (x := (c.toNat : Int)) (by omega) (by omega), w64_id (x := 1 + (c.toNat : Int)) (by omega) (by omega)]
      rw [if_pos rfl, if_pos (by simp), if_pos (by omega), if_pos (by omega), if_pos (by omega)]
      have e1 : (1 + (c.toNat : Int)).toNat = c.toNat + 1 := by omega
      have e2 : (1 : Int).toNat = 1 := rfl
      rw [e1, e2]
      simp only [List.drop_succ_cons, List.drop_zero, Nat.add_sub_cancel]
      rw [if_pos (show yStep.pre _ _ _ by unfold yStep.pre; simp at hl; omega)]
      simp only [lt, yStep, if_true]
      rw [ih _ _ (by simp at h ⊢; omega) (by simp at hl ⊢; omega)]
      simp only [eachN, hlab, yStep]
     ·rw [decide_eq_false h3]
      exact hno (by simp only [labelOf]; rw [if_neg (by intro hh; simp at h3; omega)])
    ·rw [if_neg h2]
     exact hno (by simp only [labelOf]; rw [if_neg (by intro hh; omega)])
   ·rw [if_neg h1]
    exact hno (by simp only [labelOf]; rw [if_neg (by intro hh; omega)])
theorem name_each_1.eq (st : YSt) (n : Str) (hp : name_each_1.pre st n) : ∃ kf, name_each_1.f kf st n = some (name_each_1 st n) :=
 ⟨n.length + 1, each_lp _ st n (by omega) hp⟩
/-- All labels of a name, and what is left. -/
def splitN : Nat → Str → List Str × Str
 | 0, n => ([], n)
 | k + 1, n => match labelOf n with
  | none => ([], n)
  | some p => (p.1 :: (splitN k p.2).1, (splitN k p.2).2)
def split (n : Str) : List Str × Str := splitN (n.length + 1) n
theorem eachN_split : ∀ (k : Nat) (st : YSt) (n : Str), st.left = n → eachN k st n = { st with ls := st.ls ++ (splitN k n).1, left := (splitN k n).2 } := by
 intro k
 induction k with
 | zero => intro st n h; subst h; simp [eachN, splitN]
 | succ k ih =>
  intro st n h
  simp only [eachN, splitN]
  cases hl : labelOf n with
  | none => subst h; simp
  | some p => simp only []; rw [ih (yStep st p.1 p.2).2 p.2 rfl]; simp [yStep]
def name_Labels (n : Str) : List Str × Int := if (split n).2 = [0] then (if 255 < n.length then ([], 3) else ((split n).1, 0)) else ([], 2)
def name_Labels.pre (n : Str) : Prop := n.length ≤ 1000000
instance i_name_Labels (n : Str) : Decidable (name_Labels.pre n) := by unfold name_Labels.pre; infer_instance
end Go.Proofs.Ytfcaekghpkpjdaa.K

/- Pure functions, printed by a program of this session out of the loaded code. -/
namespace Go.Proofs.Ytfcaekghpkpjdaa.K
open Go Go.RowKit
set_option linter.unusedVariables false
/-- name.May -/
def name_May.f (a1 : Str) : Option (Bool) :=
 (if name_Labels.pre a1 then (lt (name_Labels a1) fun r10 => (if r10.2 = 0 then (if name_Fold.pre a1 then (lt (name_Fold a1) fun r24 => some ((r24 == a1))) else none) else some (false))) else none)
end Go.Proofs.Ytfcaekghpkpjdaa.K

namespace Go.Proofs.Ytfcaekghpkpjdaa.K
open Go
set_option linter.unusedVariables false
def name_May (n : Str) : Bool := (name_Labels n).2 == 0 && name_Fold n == n
def name_May.pre (n : Str) : Prop := n.length ≤ 1000000
instance i_name_May (n : Str) : Decidable (name_May.pre n) := by unfold name_May.pre; infer_instance
theorem name_May.eq (n : Str) (hp : name_May.pre n) : name_May.f n = some (name_May n) := by
 unfold name_May.pre at hp
 unfold name_May.f lt name_May
 rw [if_pos (show name_Labels.pre n from hp)]
 simp only []
 by_cases h : (name_Labels n).2 = 0
 ·rw [if_pos h, if_pos (show name_Fold.pre n by unfold name_Fold.pre; omega), h]; rfl
 ·rw [if_neg h, show ((name_Labels n).2 == 0) = false from beq_eq_false_iff_ne.2 h]; rfl
end Go.Proofs.Ytfcaekghpkpjdaa.K

/- Pure functions, printed by a program of this session out of the loaded code. -/
namespace Go.Proofs.Ytfcaekghpkpjdaa.K
open Go Go.RowKit
set_option linter.unusedVariables false
/-- wire.Take -/
def wire_Take.j4 (cl356 : Int → Str → Int → Int → Option (Str × Int × Int)) (r489 : Int × Int × Int) (x345 : Str) (x542 : Int) : Option (Str × Int × Int) :=
 (cl356 (bAndNot .i64 (w64 r489.1) 49152) x345 (bAndNot .i64 (w64 r489.1) 49152) x542)
def wire_Take.j3 (x347 : Int) (cl356 : Int → Str → Int → Int → Option (Str × Int × Int)) (r489 : Int × Int × Int) (x345 : Str) (x528 : Bool) : Option (Str × Int × Int) :=
 (if x528 = true then (if x347 < 0 then (wire_Take.j4 cl356 r489 x345 r489.2.1) else (wire_Take.j4 cl356 r489 x345 x347)) else some (([] : Str), 0, 2))
def wire_Take.j6 (x345 : Str) (r363 : Int × Int × Int) (r620 : Str) (x640 : Int) : Option (Str × Int × Int) :=
 (if ((x345 ++ [UInt8.ofNat r363.1.toNat]) ++ r620) ≠ [] then some ((x345 ++ [UInt8.ofNat r363.1.toNat]) ++ r620, x640, 0) else none)
def wire_Take.j5 (r363 : Int × Int × Int) (x345 : Str) (r563 : Str × Int × Int) (cl356 : Int → Str → Int → Int → Option (Str × Int × Int)) (x346 : Int) (x347 : Int) (x592 : Bool) : Option (Str × Int × Int) :=
 (if x592 = true then some (([] : Str), 0, 2) else (if 0 ≤ r363.1 then (if r363.1 < 256 then (if x345.length + 1 ≤ 140737488355328 then (if name_Fold.pre r563.1 then (lt (name_Fold r563.1) fun r620 => (if (x345 ++ [UInt8.ofNat r363.1.toNat]).length + r620.length ≤ 140737488355328 then (if 0 < r363.1 then (cl356 r563.2.1 ((x345 ++ [UInt8.ofNat r363.1.toNat]) ++ r620) x346 x347) else (if x347 < 0 then (wire_Take.j6 x345 r363 r620 r563.2.1) else (wire_Take.j6 x345 r363 r620 x347))) else none)) else none) else none) else none) else none))
def wire_Take.j2 (r363 : Int × Int × Int) (a1 : Str) (x343 : Int) (x347 : Int) (cl356 : Int → Str → Int → Int → Option (Str × Int × Int)) (x345 : Str) (x346 : Int) (x466 : Bool) : Option (Str × Int × Int) :=
 (if x466 = true then some (([] : Str), 0, 2) else (if 192 ≤ r363.1 then (if octet_U16.pre a1 x343 then (lt (octet_U16 a1 x343) fun r489 => (if r489.2.2 = 0 then (wire_Take.j3 x347 cl356 r489 x345 (decide ((bAndNot .i64 (w64 r489.1) 49152) < x346))) else (wire_Take.j3 x347 cl356 r489 x345 false))) else none) else (if octet_Some.pre a1 r363.2.1 (w64 r363.1) then (lt (octet_Some a1 r363.2.1 (w64 r363.1)) fun r563 => (if r563.2.2 = 0 then (wire_Take.j5 r363 x345 r563 cl356 x346 x347 (decide (255 < (w64 ((w64 ((x345.length : Int) + 1)) + (r563.1.length : Int)))))) else (wire_Take.j5 r363 x345 r563 cl356 x346 x347 true))) else none)))
def wire_Take.l1 (a1 : Str) : Nat → Int → Str → Int → Int → Option (Str × Int × Int)
 | 0, _, _, _, _ => none
 | kf342 + 1, x343, x345, x346, x347 => (if octet_U8.pre a1 x343 then (lt (octet_U8 a1 x343) fun r363 => (if r363.2.2 = 0 then (if 63 < r363.1 then (wire_Take.j2 r363 a1 x343 x347 (wire_Take.l1 a1 kf342) x345 x346 (decide (r363.1 < 192))) else (wire_Take.j2 r363 a1 x343 x347 (wire_Take.l1 a1 kf342) x345 x346 false)) else (wire_Take.j2 r363 a1 x343 x347 (wire_Take.l1 a1 kf342) x345 x346 true))) else none)
def wire_Take.f (kf : Nat) (a1 : Str) (a2 : Int) : Option (Str × Int × Int) :=
 (wire_Take.l1 a1 kf a2 ([] : Str) a2 (-1))
end Go.Proofs.Ytfcaekghpkpjdaa.K

namespace Go.Proofs.Ytfcaekghpkpjdaa.K
open Go
set_option linter.unusedVariables false
/-- The name at a place: labels, and pointers to further ahead. -/
def takeN (s : Str) : Nat → Int → Int → Int → Str → Str × Int × Int
 | 0, _, _, _, _ => ([], 0, 2)
 | k + 1, at_, frm, beh, b =>
  if (octet_U8 s at_).2.2 ≠ 0 ∨ (63 < (octet_U8 s at_).1 ∧ (octet_U8 s at_).1 < 192) then ([], 0, 2)
  else if 192 ≤ (octet_U8 s at_).1 then
   if (octet_U16 s at_).2.2 = 0 ∧ bAndNot .i64 (octet_U16 s at_).1 49152 < frm then
    takeN s k (bAndNot .i64 (octet_U16 s at_).1 49152) (bAndNot .i64 (octet_U16 s at_).1 49152) (if beh < 0 then (octet_U16 s at_).2.1 else beh) b
   else ([], 0, 2)
  else if (octet_Some s (octet_U8 s at_).2.1 (octet_U8 s at_).1).2.2 ≠ 0 ∨ 255 < (b.length : Int) + 1 + ((octet_Some s (octet_U8 s at_).2.1 (octet_U8 s at_).1).1.length : Int) then ([], 0, 2)
  else if 0 < (octet_U8 s at_).1 then
   takeN s k (octet_Some s (octet_U8 s at_).2.1 (octet_U8 s at_).1).2.1 frm beh (b ++ [UInt8.ofNat (octet_U8 s at_).1.toNat] ++ name_Fold (octet_Some s (octet_U8 s at_).2.1 (octet_U8 s at_).1).1)
  else (b ++ [UInt8.ofNat (octet_U8 s at_).1.toNat] ++ name_Fold (octet_Some s (octet_U8 s at_).2.1 (octet_U8 s at_).1).1, if beh < 0 then (octet_Some s (octet_U8 s at_).2.1 (octet_U8 s at_).1).2.1 else beh, 0)
def wire_Take (s : Str) (at_ : Int) : Str × Int × Int := takeN s (at_.toNat + 300) at_ at_ (-1) []
def wire_Take.pre (s : Str) (at_ : Int) : Prop := s.length ≤ 1000000
instance i_wire_Take (s : Str) (at_ : Int) : Decidable (wire_Take.pre s at_) := by unfold wire_Take.pre; infer_instance
theorem Take_U8 {s : Str} {a : Int} (h : (octet_U8 s a).2.2 = 0) : 0 ≤ a ∧ a < s.length ∧ (octet_U8 s a).2.1 = a + 1 ∧ 0 ≤ (octet_U8 s a).1 ∧ (octet_U8 s a).1 < 256 := by
 rw [U8_eq] at h ⊢
 by_cases hc : a < 0 ∨ (s.length : Int) ≤ a
 ·rw [if_pos hc] at h; cases h
 ·rw [if_neg hc]
  have := bt_lt s a
  exact ⟨by omega, by omega, rfl, this⟩
theorem U16_rng (s : Str) (a : Int) : 0 ≤ (octet_U16 s a).1 ∧ (octet_U16 s a).1 < 65536 := by
 rw [U16_eq]
 split
 ·simp
 ·have := bt_lt s a; have := bt_lt s (a + 1); omega
theorem Some_len {s : Str} {a m : Int} (h : (octet_Some s a m).2.2 = 0) : 0 ≤ a ∧ 0 ≤ m ∧ a + m ≤ s.length ∧ (octet_Some s a m).1.length = m.toNat ∧ (octet_Some s a m).2.1 = a + m := by
 by_cases hc : a < 0 ∨ m < 0 ∨ (s.length : Int) < a ∨ (s.length : Int) - a < m
 ·rw [some_bad hc] at h; cases h
 ·rw [some_ok hc]
  refine ⟨by omega, by omega, by omega, ?_, rfl⟩
  simp; omega
theorem take_lp (s : Str) (hs : s.length ≤ 1000000) : ∀ (k : Nat) (a f beh : Int) (b : Str), f.toNat + 256 < b.length + k → b.length ≤ 255 → wire_Take.l1 s k a b f beh = some (takeN s k a f beh b) := by
 intro k
 induction k with
 | zero => intro a f beh b h1 h2; omega
 | succ k ih =>
  intro a f beh b h1 h2
  rw [wire_Take.l1.eq_2, if_pos (show octet_U8.pre s a by unfold octet_U8.pre; omega)]
  unfold lt
  simp only [takeN]
  obtain ⟨u, hu⟩ : ∃ u, octet_U8 s a = u := ⟨_, rfl⟩
  have hu2 := @Take_U8 s a
  rw [hu] at hu2 ⊢
  have key : ∀ bb : Bool, bb = decide (u.2.2 ≠ 0 ∨ (63 < u.1 ∧ u.1 < 192)) → wire_Take.j2 u s a beh (wire_Take.l1 s k) b f bb = some (if u.2.2 ≠ 0 ∨ (63 < u.1 ∧ u.1 < 192) then ([], 0, 2)
   else if 192 ≤ u.1 then
    if (octet_U16 s a).2.2 = 0 ∧ bAndNot .i64 (octet_U16 s a).1 49152 < f then
     takeN s k (bAndNot .i64 (octet_U16 s a).1 49152) (bAndNot .i64 (octet_U16 s a).1 49152) (if beh < 0 then (octet_U16 s a).2.1 else beh) b
    else ([], 0, 2)
   else if (octet_Some s u.2.1 u.1).2.2 ≠ 0 ∨ 255 < (b.length : Int) + 1 + ((octet_Some s u.2.1 u.1).1.length : Int) then ([], 0, 2)
   else if 0 < u.1 then
    takeN s k (octet_Some s u.2.1 u.1).2.1 f beh (b ++ [UInt8.ofNat u.1.toNat] ++ name_Fold (octet_Some s u.2.1 u.1).1)
   else (b ++ [UInt8.ofNat u.1.toNat] ++ name_Fold (octet_Some s u.2.1 u.1).1, if beh < 0 then (octet_Some s u.2.1 u.1).2.1 else beh, 0)) := by
   intro bb hbb
   unfold wire_Take.j2
   by_cases hc : u.2.2 ≠ 0 ∨ (63 < u.1 ∧ u.1 < 192)
   ·rw [if_pos hc, hbb, decide_eq_true hc, if_pos rfl]
   rw [if_neg hc, hbb, decide_eq_false hc, if_neg (by simp)]
   obtain ⟨v0, v1, v2, v3, v4⟩ := hu2 (by omega)
   by_cases hp : 192 ≤ u.1
   ·rw [if_pos hp, if_pos hp, if_pos (show octet_U16.pre s a by unfold octet_U16.pre; omega)]
    unfold lt
    simp only []
    obtain ⟨r, hr⟩ : ∃ r, octet_U16 s a = r := ⟨_, rfl⟩
    have hrr := U16_rng s a
    rw [hr] at hrr ⊢
    rw [w64_id (x := r.1) (by omega) (by omega)]
    obtain ⟨q, hq⟩ : ∃ q, bAndNot .i64 r.1 49152 = q := ⟨_, rfl⟩
    have hq2 : 0 ≤ q ∧ q < 16384 := by
     obtain ⟨n, hn⟩ := Int.eq_ofNat_of_zero_le hrr.1
     rw [hn] at hq hrr
     rw [andNot14 (by omega)] at hq
     omega
    rw [hq]
    have jj : ∀ cc : Bool, cc = decide (r.2.2 = 0 ∧ q < f) → wire_Take.j3 beh (wire_Take.l1 s k) r b cc = some (if r.2.2 = 0 ∧ q < f then takeN s k q q (if beh < 0 then r.2.1 else beh) b else ([], 0, 2)) := by
     intro cc hcc
     unfold wire_Take.j3
     by_cases hd : r.2.2 = 0 ∧ q < f
     ·rw [if_pos hd, hcc, decide_eq_true hd, if_pos rfl]
      have hj4 : ∀ z, wire_Take.j4 (wire_Take.l1 s k) r b z = some (takeN s k q q z b) := by
       intro z
       unfold wire_Take.j4
       rw [w64_id (x := r.1) (by omega) (by omega), hq, ih q q z b (by omega) h2]
      by_cases hbeh : beh < 0
      ·rw [if_pos hbeh, if_pos hbeh, hj4]
      ·rw [if_neg hbeh, if_neg hbeh, hj4]
     ·rw [if_neg hd, hcc, decide_eq_false hd, if_neg (by simp)]
    by_cases he : r.2.2 = 0
    ·rw [if_pos he]; exact jj _ (by simp [he])
    ·rw [if_neg he]; exact jj _ (by simp [he])
   ·rw [if_neg hp, if_neg hp, if_pos (show octet_Some.pre s u.2.1 _ by unfold octet_Some.pre; omega), w64_id (x := u.1) (by omega) (by omega)]
    unfold lt
    simp only []
    obtain ⟨r, hr⟩ : ∃ r, octet_Some s u.2.1 u.1 = r := ⟨_, rfl⟩
    have hrr := @Some_len s u.2.1 u.1
    rw [hr] at hrr ⊢
    have jj : ∀ cc : Bool, cc = decide (r.2.2 ≠ 0 ∨ 255 < (b.length : Int) + 1 + (r.1.length : Int)) → wire_Take.j5 u b r (wire_Take.l1 s k) f beh cc = some (if r.2.2 ≠ 0 ∨ 255 < (b.length : Int) + 1 + (r.1.length : Int) then ([], 0, 2)
      else if 0 < u.1 then takeN s k r.2.1 f beh (b ++ [UInt8.ofNat u.1.toNat] ++ name_Fold r.1) else (b ++ [UInt8.ofNat u.1.toNat] ++ name_Fold r.1, if beh < 0 then r.2.1 else beh, 0)) := by
     intro cc hcc
     unfold wire_Take.j5
     by_cases hd : r.2.2 ≠ 0 ∨ 255 < (b.length : Int) + 1 + (r.1.length : Int)
     ·rw [if_pos hd, hcc, decide_eq_true hd, if_pos rfl]
     rw [if_neg hd, hcc, decide_eq_false hd, if_neg (by simp)]
     obtain ⟨x0, x1, x2, x3, x4⟩ := hrr (by omega)
     have hfl : (name_Fold r.1).length = r.1.length := by simp [name_Fold]
     rw [if_pos v3, if_pos v4, if_pos (by omega), if_pos (show name_Fold.pre r.1 by unfold name_Fold.pre; omega)]
     unfold lt
     simp only []
     rw [if_pos (by simp [hfl]; omega)]
     by_cases h0 : 0 < u.1
     ·rw [if_pos h0, if_pos h0, ih _ f beh _ (by simp [hfl]; omega) (by simp [hfl]; omega)]
     ·rw [if_neg h0, if_neg h0]
      by_cases hbeh : beh < 0
      ·rw [if_pos hbeh, if_pos hbeh]; unfold wire_Take.j6; rw [if_pos (by simp)]
      ·rw [if_neg hbeh, if_neg hbeh]; unfold wire_Take.j6; rw [if_pos (by simp)]
    have hlen : r.2.2 = 0 → w64 (w64 ((b.length : Int) + 1) + (r.1.length : Int)) = (b.length : Int) + 1 + (r.1.length : Int) := by
     intro he
     obtain ⟨x0, x1, x2, x3, x4⟩ := hrr he
     rw [w64_id (x := (b.length : Int) + 1) (by omega) (by omega), w64_id (by omega) (by omega)]
    by_cases he : r.2.2 = 0
    ·rw [if_pos he, hlen he]; exact jj _ (by simp [he])
    ·rw [if_neg he]; exact jj _ (by simp [he])
  by_cases c1 : u.2.2 = 0
  ·rw [if_pos c1]
   by_cases c2 : 63 < u.1
   ·rw [if_pos c2]; exact key _ (by simp [c1, c2])
   ·rw [if_neg c2]; exact key _ (by simp [c1, c2])
  ·rw [if_neg c1]; exact key _ (by simp [c1])
theorem wire_Take.eq (s : Str) (a : Int) (hp : wire_Take.pre s a) : ∃ kf, wire_Take.f kf s a = some (wire_Take s a) :=
 ⟨a.toNat + 300, take_lp s hp _ a a (-1) [] (by simp) (by simp)⟩
theorem takeN_len (s : Str) : ∀ (k : Nat) (a f beh : Int) (b : Str), b.length ≤ 255 → (takeN s k a f beh b).1.length ≤ 255 := by
 intro k
 induction k with
 | zero => intro a f beh b h; simp [takeN]
 | succ k ih =>
  intro a f beh b h
  simp only [takeN]
  split
  ·simp
  split
  ·split
   ·exact ih _ _ _ _ h
   ·simp
  split
  ·simp
  ·rename_i h1 h2
   have hfl : (name_Fold (octet_Some s (octet_U8 s a).2.1 (octet_U8 s a).1).1).length = (octet_Some s (octet_U8 s a).2.1 (octet_U8 s a).1).1.length := by simp [name_Fold]
   split
   ·exact ih _ _ _ _ (by simp only [List.length_append, List.length_singleton, hfl]; omega)
   ·simp only [List.length_append, List.length_singleton, hfl]; omega
theorem Take_len (s : Str) (a : Int) : (wire_Take s a).1.length ≤ 255 := takeN_len s _ _ _ _ _ (by simp)
end Go.Proofs.Ytfcaekghpkpjdaa.K

/- Names in bytes: what stands where, and what is taken there. -/
namespace Go.Proofs.Ytfcaekghpkpjdaa.K
open Go
set_option linter.unusedVariables false
/-- The byte at a place. -/
abbrev by_ (s : Str) (a : Nat) : Nat := (s.getD a 0).toNat
theorem bt_by (s : Str) (a : Nat) : bt s (a : Int) = (by_ s a : Int) := rfl
theorem U8_ok {s : Str} {a : Nat} (h : a < s.length) : octet_U8 s a = ((by_ s a : Int), (a : Int) + 1, 0) := by rw [U8_eq, if_neg (by omega)]; rfl
theorem U16_ok {s : Str} {a : Nat} (h : a + 2 ≤ s.length) : octet_U16 s a = (((by_ s a * 256 + by_ s (a + 1) : Nat) : Int), (a : Int) + 2, 0) := by
 rw [U16_eq, if_neg (by omega)]
 have : bt s ((a : Int) + 1) = (by_ s (a + 1) : Int) := by rw [show ((a : Int) + 1) = ((a + 1 : Nat) : Int) by omega]; rfl
 rw [this, bt_by]; congr 1; try omega
theorem Some_ok {s : Str} {a m : Nat} (h : a + m ≤ s.length) : octet_Some s a m = ((s.drop a).take m, ((a + m : Nat) : Int), 0) := by
 rw [some_ok (by omega)]; simp
theorem takeN_root {s : Str} {k a : Nat} {frm beh : Int} {b : Str} (ha : a < s.length) (h0 : by_ s a = 0) (hb : b.length + 1 ≤ 255) : takeN s (k + 1) a frm beh b = (b ++ [0], if beh < 0 then ((a + 1 : Nat) : Int) else beh, 0) := by
 have h1 := U8_ok ha
 have h2 := Some_ok (s := s) (a := a + 1) (m := 0) (by omega)
 rw [h0] at h1
 simp only [takeN, h1]
 have e1 : ((a : Int) + 1) = ((a + 1 : Nat) : Int) := by omega
 have e2 : ((0 : Nat) : Int) = 0 := rfl
 rw [e2, e1, ← e2, h2]
 simp [name_Fold]
 omega
theorem takeN_label {s : Str} {k a : Nat} {frm beh : Int} {b : Str} (h0 : 0 < by_ s a) (h1 : by_ s a ≤ 63) (ha : a + 1 + by_ s a ≤ s.length) (hb : b.length + 1 + by_ s a ≤ 255) :
  takeN s (k + 1) a frm beh b = takeN s k ((a + 1 + by_ s a : Nat) : Int) frm beh (b ++ [s.getD a 0] ++ name_Fold ((s.drop (a + 1)).take (by_ s a))) := by
 have e1 := U8_ok (s := s) (a := a) (by omega)
 have e2 := Some_ok (s := s) (a := a + 1) (m := by_ s a) ha
 have e3 : ((a : Int) + 1) = ((a + 1 : Nat) : Int) := by omega
 have hl : ((s.drop (a + 1)).take (by_ s a)).length = by_ s a := by simp; omega
 simp only [takeN, e1]
 rw [e3, e2]
 simp only [hl]
 rw [if_neg (by omega), if_neg (by omega), if_neg (by omega), if_pos (by omega)]
 simp
theorem takeN_ptr {s : Str} {k a : Nat} {frm beh : Int} {b : Str} (h0 : 192 ≤ by_ s a) (ha : a + 2 ≤ s.length) (hp : (((by_ s a * 256 + by_ s (a + 1)) % 16384 : Nat) : Int) < frm) :
  takeN s (k + 1) a frm beh b = takeN s k (((by_ s a * 256 + by_ s (a + 1)) % 16384 : Nat) : Int) (((by_ s a * 256 + by_ s (a + 1)) % 16384 : Nat) : Int) (if beh < 0 then ((a + 2 : Nat) : Int) else beh) b := by
 have e1 := U8_ok (s := s) (a := a) (by omega)
 have e2 := U16_ok (s := s) (a := a) ha
 have h1 := (s.getD a 0).toNat_lt
 have h2 := (s.getD (a + 1) 0).toNat_lt
 have e3 := andNot14 (x := by_ s a * 256 + by_ s (a + 1)) (by simp only [by_]; omega)
 simp only [takeN, e1, e2, e3]
 rw [if_neg (by omega), if_pos (by omega), if_pos ⟨trivial, hp⟩]
 rfl
/-- A name stands at a place (of a piece that begins at frm), and ends at a place. -/
inductive Sp (s : Str) : Nat → Nat → Str → Nat → Prop where
 | root {frm a : Nat} (ha : a < s.length) (h0 : by_ s a = 0) : Sp s frm a [0] (a + 1)
 | label {frm a e : Nat} {c : UInt8} {l n : Str} (hc : s.getD a 0 = c) (h0 : 0 < c.toNat) (h1 : c.toNat ≤ 63) (ha : a + 1 + c.toNat ≤ s.length) (hl : (s.drop (a + 1)).take c.toNat = l) (hf : name_Fold l = l) (h : Sp s frm (a + 1 + c.toNat) n e) : Sp s frm a (c :: (l ++ n)) e
 | ptr {frm a p e : Nat} {n : Str} (h0 : 192 ≤ by_ s a) (ha : a + 2 ≤ s.length) (hp : (by_ s a * 256 + by_ s (a + 1)) % 16384 = p) (hlt : p < frm) (h : Sp s p p n e) : Sp s frm a n (a + 2)
theorem Sp.take {s : Str} {frm a e : Nat} {n : Str} (h : Sp s frm a n e) : ∀ (k : Nat) (beh : Int) (b : Str), frm + n.length + 1 ≤ k → b.length + n.length ≤ 255 → takeN s k a frm beh b = (b ++ n, if beh < 0 then (e : Int) else beh, 0) := by
 induction h with
 | root ha h0 =>
  intro k beh b hk hb
  obtain ⟨k, rfl⟩ : ∃ j, k = j + 1 := ⟨k - 1, by omega⟩
  exact takeN_root ha h0 (by simpa using hb)
 | @label frm a e c l n hc h0 h1 ha hl hf h ih =>
  intro k beh b hk hb
  subst hc
  have hll : l.length = by_ s a := by rw [← hl, List.length_take, List.length_drop]; simp only [by_]; omega
  simp only [List.length_cons, List.length_append] at hk hb
  obtain ⟨k, rfl⟩ : ∃ j, k = j + 1 := ⟨k - 1, by omega⟩
  rw [takeN_label h0 h1 ha (by simp only [by_] at hll ⊢; omega), hl, hf, ih k beh _ (by omega) (by simp; omega)]
  simp
 | @ptr frm a p e n h0 ha hp hlt h ih =>
  intro k beh b hk hb
  subst hp
  obtain ⟨k, rfl⟩ : ∃ j, k = j + 1 := ⟨k - 1, by omega⟩
  rw [takeN_ptr h0 ha (by omega), ih k _ b (by omega) hb]
  by_cases hbeh : beh < 0
  ·rw [if_pos hbeh, if_neg (by omega)]
  ·rw [if_neg hbeh, if_neg hbeh]
theorem Sp.Take {s : Str} {a e : Nat} {n : Str} (h : Sp s a a n e) (hn : n.length ≤ 255) : wire_Take s a = (n, (e : Int), 0) := by
 unfold wire_Take
 rw [h.take _ _ _ (by simp; omega) (by simpa using hn)]
 simp
theorem getD_app {s t : Str} {a : Nat} (h : a < s.length) : (s ++ t).getD a 0 = s.getD a 0 := by
 simp [List.getD_eq_getElem?_getD, List.getElem?_append_left h]
theorem Sp.app {s : Str} {frm a e : Nat} {n : Str} (h : Sp s frm a n e) (t : Str) : Sp (s ++ t) frm a n e := by
 induction h with
 | root ha h0 => exact .root (by simp; omega) (by simp only [by_] at *; rw [getD_app ha]; exact h0)
 | label hc h0 h1 ha hl hf h ih => exact .label (by rw [getD_app (by omega)]; exact hc) h0 h1 (by simp; omega) (by rw [← hl, List.drop_append_of_le_length (by omega), List.take_append_of_le_length (by simp; omega)]) hf ih
 | ptr h0 ha hp hlt h ih => exact .ptr (by simp only [by_] at *; rw [getD_app (by omega)]; exact h0) (by simp; omega) (by simp only [by_] at *; rw [getD_app (by omega), getD_app (by omega)]; exact hp) hlt ih
theorem Sp.frm {s : Str} {frm a e : Nat} {n : Str} (h : Sp s frm a n e) {g : Nat} (hg : frm ≤ g) : Sp s g a n e := by
 induction h with
 | root ha h0 => exact .root ha h0
 | label hc h0 h1 ha hl hf h ih => exact .label hc h0 h1 ha hl hf (ih hg)
 | ptr h0 ha hp hlt h ih => exact .ptr h0 ha hp (by omega) h
theorem Sp.le {s : Str} {frm a e : Nat} {n : Str} (h : Sp s frm a n e) : a < e ∧ e ≤ s.length := by
 induction h with
 | root ha h0 => omega
 | label hc h0 h1 ha hl hf h ih => omega
 | ptr h0 ha hp hlt h ih => omega
end Go.Proofs.Ytfcaekghpkpjdaa.K

/- Packs, as plain values. -/
namespace Go.Proofs.Ytfcaekghpkpjdaa.K
open Go
set_option linter.unusedVariables false
structure Pack where
 s : Str
 known : List (Str × Int)
 deriving Inhabited
def wire_New : Pack := ⟨[], []⟩
def wire_Pack_Add (p : Pack) (s : Str) : Pack := { p with s := p.s ++ s }
def wire_Pack_Add.pre (p : Pack) (s : Str) : Prop := p.s.length + s.length ≤ 100000000000
instance i_wire_Pack_Add (p : Pack) (s : Str) : Decidable (wire_Pack_Add.pre p s) := by unfold wire_Pack_Add.pre; infer_instance
def wire_Pack_Len (p : Pack) : Int := p.s.length
def wire_Pack_Out (p : Pack) : Str := p.s
def wire_Pack_Mark (p : Pack) : Int × Pack := (((p.s ++ octet_Put16 0).length : Nat), { p with s := p.s ++ octet_Put16 0 })
def wire_Pack_Mark.pre (p : Pack) : Prop := p.s.length ≤ 10000000000
instance i_wire_Pack_Mark (p : Pack) : Decidable (wire_Pack_Mark.pre p) := by unfold wire_Pack_Mark.pre; infer_instance
/-- What name.Labels has left is the root: a name's own first label, or the root. -/
def nameLoop : Nat → Pack → Str → Pack
 | 0, p, n => wire_Pack_Add p n
 | k + 1, p, n => if n = [0] then wire_Pack_Add p n else match List.lookup n p.known with
  | some a => wire_Pack_Add p (octet_Put16 (w16 (bOr .i64 49152 a)))
  | none => nameLoop k (wire_Pack_Add (if p.s.length < 16384 then { p with known := p.known ++ [(n, (p.s.length : Int))] } else p) (n.take (1 + (n.headD 0).toNat))) (n.drop (1 + (n.headD 0).toNat))
def wire_Pack_Name (p : Pack) (n : Str) : Int × Pack := if name_May n then (0, nameLoop (n.length + 1) p n) else (1, p)
def wire_Pack_Name.pre (p : Pack) (n : Str) : Prop := n.length ≤ 1000000 ∧ p.s.length ≤ 10000000000
instance i_wire_Pack_Name (p : Pack) (n : Str) : Decidable (wire_Pack_Name.pre p n) := by unfold wire_Pack_Name.pre; infer_instance
/-- What name.May says of a name. -/
theorem may_split {n : Str} (h : name_May n = true) : (split n).2 = [0] ∧ n.length ≤ 255 := by
 simp only [name_May, Bool.and_eq_true] at h
 have h1 := h.1
 unfold name_Labels at h1
 by_cases h2 : (split n).2 = [0]
 ·rw [if_pos h2] at h1
  by_cases h3 : 255 < n.length
  ·rw [if_pos h3] at h1; simp at h1
  ·exact ⟨h2, by omega⟩
 ·rw [if_neg h2] at h1; simp at h1
theorem split_step {k : Nat} {n : Str} (h : (splitN (k + 1) n).2 = [0]) (hn : n ≠ [0]) : ∃ c t, n = c :: t ∧ 0 < c.toNat ∧ c.toNat ≤ 63 ∧ c.toNat ≤ t.length ∧ (splitN k (n.drop (1 + c.toNat))).2 = [0] := by
 cases n with
 | nil => simp [splitN, labelOf] at h
 | cons c t =>
  simp only [splitN, labelOf] at h
  by_cases hc : 0 < c.toNat ∧ c.toNat ≤ 63 ∧ c.toNat ≤ t.length
  ·rw [if_pos hc] at h
   refine ⟨c, t, rfl, hc.1, hc.2.1, hc.2.2, ?_⟩
   rw [show 1 + c.toNat = c.toNat + 1 by omega, List.drop_succ_cons]
   exact h
  ·rw [if_neg hc] at h
   exact absurd h hn
def wire_Pack_Close (p : Pack) (a : Int) : Int × Pack := if a < 2 ∨ (p.s.length : Int) < a then (1, p) else (0, { p with s := p.s.take (a.toNat - 2) ++ octet_Put16 (w16 (w64 ((p.s.length : Int) - a))) ++ p.s.drop a.toNat })
def wire_Pack_Close.pre (p : Pack) (a : Int) : Prop := p.s.length ≤ 100000000000
instance i_wire_Pack_Close (p : Pack) (a : Int) : Decidable (wire_Pack_Close.pre p a) := by unfold wire_Pack_Close.pre; infer_instance
end Go.Proofs.Ytfcaekghpkpjdaa.K

/- What a pack's names spell. -/
namespace Go.Proofs.Ytfcaekghpkpjdaa.K
open Go
set_option linter.unusedVariables false
theorem sShr_nat (n k : Nat) (hn : n < 4294967296) (hk : k ≤ 31) : w8 (sShr .u32 (n : Int) (k : Int)) = ((n / 2 ^ k % 256 : Nat) : Int) := by
 unfold sShr
 have e : min ((k : Int)).toNat (IntKind.bits .u32) = k := by rw [show IntKind.bits .u32 = 32 from rfl]; omega
 rw [e, w8_eq]
 have h2 : ((2 : Int) ^ k) = ((2 ^ k : Nat) : Int) := by simp
 rw [h2]
 have h3 : (n : Int).fdiv ((2 ^ k : Nat) : Int) = ((n / 2 ^ k : Nat) : Int) := by
  rw [Int.fdiv_eq_ediv_of_nonneg _ (Int.natCast_nonneg _)]; rfl
 rw [h3]; omega
theorem byteAt_eq (n k : Nat) (hn : n < 4294967296) (hk : k ≤ 31) : byteAt (n : Int) (k : Int) = UInt8.ofNat (n / 2 ^ k % 256) := by
 unfold byteAt; rw [sShr_nat n k hn hk]; rfl
theorem Put16_eq (n : Nat) (hn : n < 65536) : octet_Put16 (n : Int) = [UInt8.ofNat (n / 256), UInt8.ofNat (n % 256)] := by
 have e : octet_Put16 (n : Int) = octet_bytes (w32 (n : Int)) 2 := rfl
 have e2 : w32 (n : Int) = n := by rw [w32_eq]; omega
 rw [e, e2]
 unfold octet_bytes
 rw [if_pos rfl]
 have h1 := byteAt_eq n 8 (by omega) (by omega)
 have h2 := byteAt_eq n 0 (by omega) (by omega)
 rw [show ((8 : Nat) : Int) = 8 from rfl, show (2 : Nat) ^ 8 = 256 from rfl] at h1
 rw [show ((0 : Nat) : Int) = 0 from rfl, show (2 : Nat) ^ 0 = 1 from rfl] at h2
 rw [h1, h2, Nat.mod_eq_of_lt (show n / 256 < 256 by omega), Nat.div_one]
theorem Put32_eq (n : Nat) (hn : n < 4294967296) : octet_Put32 (n : Int) = [UInt8.ofNat (n / 16777216), UInt8.ofNat (n / 65536 % 256), UInt8.ofNat (n / 256 % 256), UInt8.ofNat (n % 256)] := by
 have e : octet_Put32 (n : Int) = octet_bytes (n : Int) 4 := rfl
 rw [e]
 unfold octet_bytes
 rw [if_neg (by decide)]
 have h1 := byteAt_eq n 24 (by omega) (by omega)
 have h2 := byteAt_eq n 16 (by omega) (by omega)
 have h3 := byteAt_eq n 8 (by omega) (by omega)
 have h4 := byteAt_eq n 0 (by omega) (by omega)
 rw [show ((24 : Nat) : Int) = 24 from rfl, show (2 : Nat) ^ 24 = 16777216 from rfl] at h1
 rw [show ((16 : Nat) : Int) = 16 from rfl, show (2 : Nat) ^ 16 = 65536 from rfl] at h2
 rw [show ((8 : Nat) : Int) = 8 from rfl, show (2 : Nat) ^ 8 = 256 from rfl] at h3
 rw [show ((0 : Nat) : Int) = 0 from rfl, show (2 : Nat) ^ 0 = 1 from rfl] at h4
 rw [h1, h2, h3, h4, Nat.mod_eq_of_lt (show n / 16777216 < 256 by omega), Nat.div_one]
theorem ofNat_toNat {n : Nat} (h : n < 256) : (UInt8.ofNat n).toNat = n := by rw [UInt8.toNat_ofNat']; omega
theorem ptr_eq (a : Nat) (ha : a < 16384) : octet_Put16 (w16 (bOr .i64 49152 a)) = [UInt8.ofNat (192 + a / 256), UInt8.ofNat (a % 256)] := by
 rw [or14 ha]
 have e : w16 (49152 + (a : Int)) = ((49152 + a : Nat) : Int) := by rw [w16_eq]; omega
 rw [e, Put16_eq _ (by omega)]
 rw [show (49152 + a) / 256 = 192 + a / 256 by omega, show (49152 + a) % 256 = a % 256 by omega]
theorem getD_mid {s t : Str} {i : Nat} : (s ++ t).getD (s.length + i) 0 = t.getD i 0 := by
 rw [List.getD_eq_getElem?_getD, List.getD_eq_getElem?_getD, List.getElem?_append_right (Nat.le_add_right _ _), Nat.add_sub_cancel_left]
theorem fold_append (a b : Str) : name_Fold (a ++ b) = name_Fold a ++ name_Fold b := by simp [name_Fold]
theorem fold_len (a : Str) : (name_Fold a).length = a.length := by simp [name_Fold]
theorem fold_split {a b : Str} (h : name_Fold (a ++ b) = a ++ b) : name_Fold a = a ∧ name_Fold b = b := by
 rw [fold_append] at h
 exact List.append_inj h (fold_len a)
/-- All of a pack's names are spelled where they are said to be. -/
def Good (p : Pack) : Prop := ∀ m a, List.lookup m p.known = some a → ∃ a' e : Nat, a = a' ∧ a' < p.s.length ∧ a' < 16384 ∧ Sp p.s a' a' m e
theorem Good.add {p : Pack} (h : Good p) (t : Str) : Good ⟨p.s ++ t, p.known⟩ := by
 intro m a hm
 obtain ⟨a', e, h1, h2, h3, h4⟩ := h m a hm
 exact ⟨a', e, h1, by simp; omega, h3, h4.app t⟩
theorem nameLoop_spec : ∀ (k : Nat) (p : Pack) (n : Str) (B : Nat), (splitN k n).2 = [0] → name_Fold n = n → B ≤ p.s.length →
  (∀ m a, List.lookup m p.known = some a → m.length ≤ n.length → ∃ a' e : Nat, a = a' ∧ a' < B ∧ a' < 16384 ∧ Sp p.s a' a' m e) →
  ∃ w new, nameLoop k p n = ⟨p.s ++ w, p.known ++ new⟩ ∧ w.length ≤ n.length ∧ (∀ frm, B ≤ frm → Sp (p.s ++ w) frm p.s.length n (p.s ++ w).length) ∧
   (∀ m a, List.lookup m new = some a → ∃ a' e : Nat, a = a' ∧ p.s.length ≤ a' ∧ a' < (p.s ++ w).length ∧ a' < 16384 ∧ Sp (p.s ++ w) a' a' m e) := by
 intro k
 have hroot : ∀ (p : Pack) (B : Nat), ∃ w new, wire_Pack_Add p [0] = ⟨p.s ++ w, p.known ++ new⟩ ∧ w.length ≤ ([0] : Str).length ∧ (∀ frm, B ≤ frm → Sp (p.s ++ w) frm p.s.length [0] (p.s ++ w).length) ∧
   (∀ m a, List.lookup m new = some a → ∃ a' e : Nat, a = a' ∧ p.s.length ≤ a' ∧ a' < (p.s ++ w).length ∧ a' < 16384 ∧ Sp (p.s ++ w) a' a' m e) := by
  intro p B
  refine ⟨[0], [], by simp [wire_Pack_Add], by simp, fun frm _ => ?_, by simp⟩
  have := Sp.root (s := p.s ++ [0]) (frm := frm) (a := p.s.length) (by simp) (by have := getD_mid (s := p.s) (t := [0]) (i := 0); simp only [by_, Nat.add_zero] at this ⊢; rw [this]; rfl)
  simpa using this
 induction k with
 | zero =>
  intro p n B h1 h2 h3 h4
  simp only [splitN] at h1
  subst h1
  exact hroot p B
 | succ k ih =>
  intro p n B h1 h2 h3 h4
  by_cases hn : n = [0]
  ·subst hn
   simp only [nameLoop, if_true]
   exact hroot p B
  obtain ⟨c, t, rfl, c0, c1, c2, c3⟩ := split_step h1 hn
  rw [show 1 + c.toNat = c.toNat + 1 by omega, List.drop_succ_cons] at c3
  have hfold : name_Fold (t.take c.toNat) = t.take c.toNat ∧ name_Fold (t.drop c.toNat) = t.drop c.toNat := by
   have : name_Fold t = t := by simp only [name_Fold, List.map_cons, List.cons.injEq] at h2; exact h2.2
   exact fold_split (by rw [List.take_append_drop]; exact this)
  simp only [nameLoop, if_neg hn]
  cases hl : List.lookup (c :: t) p.known with
  | some a =>
   simp only []
   obtain ⟨a', e, rfl, q1, q2, q3⟩ := h4 _ _ hl (Nat.le_refl _)
   refine ⟨octet_Put16 (w16 (bOr .i64 49152 a')), [], by rw [List.append_nil]; rfl, by rw [ptr_eq a' q2]; simp; omega, fun frm hfrm => ?_, by simp⟩
   rw [ptr_eq a' q2]
   have g0 := getD_mid (s := p.s) (t := [UInt8.ofNat (192 + a' / 256), UInt8.ofNat (a' % 256)]) (i := 0)
   have g1 := getD_mid (s := p.s) (t := [UInt8.ofNat (192 + a' / 256), UInt8.ofNat (a' % 256)]) (i := 1)
   simp only [Nat.add_zero, List.getD_cons_zero, List.getD_cons_succ] at g0 g1
   have := Sp.ptr (s := p.s ++ [UInt8.ofNat (192 + a' / 256), UInt8.ofNat (a' % 256)]) (frm := frm) (a := p.s.length) (p := a') (e := e) (n := c :: t) (by simp only [by_]; rw [g0, ofNat_toNat (by omega)]; omega) (by simp) (by simp only [by_]; rw [g0, g1, ofNat_toNat (by omega), ofNat_toNat (by omega)]; omega) (by omega) (q3.app _)
   simpa using this
  | none =>
   simp only []
   rw [show 1 + (List.headD (c :: t) 0).toNat = c.toNat + 1 by simp; omega, List.take_succ_cons, List.drop_succ_cons]
   obtain ⟨kn, hkn⟩ : ∃ kn, (if p.s.length < 16384 then [((c :: t : Str), (p.s.length : Int))] else []) = kn := ⟨_, rfl⟩
   have hp1 : (wire_Pack_Add (if p.s.length < 16384 then { p with known := p.known ++ [((c :: t : Str), (p.s.length : Int))] } else p) (c :: t.take c.toNat)) = ⟨p.s ++ (c :: t.take c.toNat), p.known ++ kn⟩ := by
    rw [← hkn]; unfold wire_Pack_Add; split <;> simp
   rw [hp1]
   have hlen : (t.drop c.toNat).length < (c :: t).length := by simp; omega
   have hkn2 : ∀ m a, List.lookup m kn = some a → m = c :: t ∧ a = (p.s.length : Int) ∧ p.s.length < 16384 := by
    intro m a hm
    rw [← hkn] at hm
    split at hm
    ·simp only [List.lookup] at hm
     split at hm
     ·rename_i hb
      injection hm with hm
      exact ⟨by simpa using hb, hm.symm, by assumption⟩
     ·cases hm
    ·cases hm
   obtain ⟨w, new, r1, r2, r3, r4⟩ := ih ⟨p.s ++ (c :: t.take c.toNat), p.known ++ kn⟩ (t.drop c.toNat) B c3 hfold.2 (by simp; omega) (by
    intro m a hm hml
    simp only [List.lookup_append] at hm
    cases hm2 : List.lookup m p.known with
    | some a2 =>
     rw [hm2] at hm
     simp only [Option.some_or, Option.some.injEq] at hm
     subst hm
     obtain ⟨a', e, q0, q1, q2, q3⟩ := h4 m a2 hm2 (by omega)
     exact ⟨a', e, q0, q1, q2, q3.app _⟩
    | none =>
     rw [hm2, Option.none_or] at hm
     obtain ⟨rfl, _⟩ := hkn2 m a hm
     omega)
   rw [r1]
   have hsp : ∀ frm, B ≤ frm → Sp ((p.s ++ (c :: t.take c.toNat)) ++ w) frm p.s.length (c :: t) ((p.s ++ (c :: t.take c.toNat)) ++ w).length := by
    intro frm hfrm
    have h5 := r3 frm hfrm
    simp only at h5
    have hll : (t.take c.toNat).length = c.toNat := by simp; omega
    have hpos : (p.s ++ (c :: t.take c.toNat)).length = p.s.length + 1 + c.toNat := by simp; omega
    rw [hpos] at h5
    have := Sp.label (s := (p.s ++ (c :: t.take c.toNat)) ++ w) (frm := frm) (a := p.s.length) (c := c) (l := t.take c.toNat) (n := t.drop c.toNat) (e := ((p.s ++ (c :: t.take c.toNat)) ++ w).length) (by
     have := getD_mid (s := p.s) (t := (c :: t.take c.toNat) ++ w) (i := 0)
     rw [Nat.add_zero, ← List.append_assoc] at this
     rw [this]; rfl) c0 c1 (by simp; omega) (by
     rw [List.append_assoc, List.drop_append, List.drop_of_length_le (by omega), List.nil_append, show p.s.length + 1 - p.s.length = 1 by omega, List.cons_append, List.drop_succ_cons, List.drop_zero, List.take_append_of_le_length (by omega), List.take_of_length_le (by omega)]) hfold.1 h5
    rw [List.take_append_drop] at this
    exact this
   refine ⟨(c :: t.take c.toNat) ++ w, kn ++ new, by simp, by simp at r2 ⊢; omega, fun frm hfrm => by rw [← List.append_assoc]; exact hsp frm hfrm, ?_⟩
   intro m a hm
   rw [← List.append_assoc]
   simp only [List.lookup_append] at hm
   cases hm2 : List.lookup m kn with
   | some a2 =>
    rw [hm2] at hm
    simp only [Option.some_or, Option.some.injEq] at hm
    subst hm
    obtain ⟨rfl, rfl, hlt⟩ := hkn2 m a2 hm2
    exact ⟨p.s.length, _, rfl, Nat.le_refl _, by simp only [List.length_append, List.length_cons]; omega, hlt, hsp _ h3⟩
   | none =>
    rw [hm2, Option.none_or] at hm
    obtain ⟨a', e, q0, q1, q2, q3, q4⟩ := r4 m a hm
    exact ⟨a', e, q0, by simp only [List.length_append] at q1; omega, q2, q3, q4⟩
/-- What a name adds to a pack. -/
theorem Name_spec {p : Pack} {n : Str} (hg : Good p) (hm : name_May n = true) : ∃ w new, wire_Pack_Name p n = (0, ⟨p.s ++ w, p.known ++ new⟩) ∧ w.length ≤ n.length ∧ Sp (p.s ++ w) p.s.length p.s.length n (p.s ++ w).length ∧ Good ⟨p.s ++ w, p.known ++ new⟩ := by
 have hs := may_split hm
 have hf : name_Fold n = n := by simp only [name_May, Bool.and_eq_true, beq_iff_eq] at hm; exact hm.2
 obtain ⟨w, new, r1, r2, r3, r4⟩ := nameLoop_spec (n.length + 1) p n p.s.length hs.1 hf (Nat.le_refl _) (fun m a hm _ => hg m a hm)
 refine ⟨w, new, ?_, r2, r3 _ (Nat.le_refl _), ?_⟩
 ·unfold wire_Pack_Name; rw [if_pos hm, r1]
 ·intro m a hl
  simp only [List.lookup_append] at hl
  cases hm2 : List.lookup m p.known with
  | some a2 =>
   rw [hm2] at hl
   simp only [Option.some_or, Option.some.injEq] at hl
   subst hl
   obtain ⟨a', e, h1, h2, h3, h4⟩ := hg m a2 hm2
   exact ⟨a', e, h1, by simp; omega, h3, h4.app w⟩
  | none =>
   rw [hm2, Option.none_or] at hl
   obtain ⟨a', e, q0, q1, q2, q3, q4⟩ := r4 m a hl
   exact ⟨a', e, q0, q2, q3, q4⟩
end Go.Proofs.Ytfcaekghpkpjdaa.K

/- Pure functions, printed by a program of this session out of the loaded code. -/
namespace Go.Proofs.Ytfcaekghpkpjdaa.K
open Go Go.RowKit
set_option linter.unusedVariables false
/-- rdata.whole -/
def rdata_whole.j3 (x116 : Int) (x184 : Bool) : Option (Int) :=
 (if x184 = true then some (0) else some (w64 (x116 + 1)))
def rdata_whole.j2 (x116 : Int) (a1 : Str) (cl122 : Int → Option (Int)) (x138 : Bool) : Option (Int) :=
 (if x138 = true then (if 0 ≤ x116 then (if x116 < (a1.length : Int) then (cl122 (w64 (x116 + (w64 (1 + (w64 (bt a1 x116))))))) else none) else none) else (if (a1.length : Int) ≤ x116 then (rdata_whole.j3 x116 true) else (if 0 ≤ w64 (x116 + 1) then (if w64 (x116 + 1) ≤ (a1.length : Int) then (if name_May.pre (a1.take (w64 (x116 + 1)).toNat) then (lt (name_May (a1.take (w64 (x116 + 1)).toNat)) fun r201 => (rdata_whole.j3 x116 (!r201))) else none) else none) else none)))
def rdata_whole.l1 (a1 : Str) : Nat → Int → Option (Int)
 | 0, _ => none
 | kf115 + 1, x116 => (if x116 < (a1.length : Int) then (if 0 ≤ x116 then (rdata_whole.j2 x116 a1 (rdata_whole.l1 a1 kf115) (decide (0 < (bt a1 x116)))) else none) else (rdata_whole.j2 x116 a1 (rdata_whole.l1 a1 kf115) false))
def rdata_whole.f (kf : Nat) (a1 : Str) : Option (Int) :=
 (rdata_whole.l1 a1 kf 0)
/-- rdata.strings -/
def rdata_strings.l1 (a1 : Str) : Nat → Int → Option (Bool)
 | 0, _ => none
 | kf64 + 1, x65 => (if x65 < (a1.length : Int) then (if 0 ≤ x65 then ((rdata_strings.l1 a1 kf64) (w64 (x65 + (w64 (1 + (w64 (bt a1 x65))))))) else none) else (if a1 = ([] : Str) then some (false) else some ((x65 == (a1.length : Int)))))
def rdata_strings.f (kf : Nat) (a1 : Str) : Option (Bool) :=
 (rdata_strings.l1 a1 kf 0)
end Go.Proofs.Ytfcaekghpkpjdaa.K

namespace Go.Proofs.Ytfcaekghpkpjdaa.K
open Go
set_option linter.unusedVariables false
def wAt (s : Str) : Nat → Nat → Nat
 | 0, at_ => at_
 | k + 1, at_ => if at_ < s.length ∧ 0 < (s.getD at_ 0).toNat then wAt s k (at_ + 1 + (s.getD at_ 0).toNat) else at_
def rdata_whole (s : Str) : Int := if s.length ≤ wAt s (s.length + 1) 0 then 0 else if name_May (s.take (wAt s (s.length + 1) 0 + 1)) then (wAt s (s.length + 1) 0 : Int) + 1 else 0
def rdata_whole.pre (s : Str) : Prop := s.length ≤ 1000000
instance i_rdata_whole (s : Str) : Decidable (rdata_whole.pre s) := by unfold rdata_whole.pre; infer_instance
theorem bt_nat (s : Str) (i : Nat) : bt s i = ((s.getD i 0).toNat : Int) := rfl
theorem whole_lp (s : Str) (hs : s.length ≤ 1000000) : ∀ (k at_ : Nat), s.length < at_ + k → at_ ≤ s.length + 256 → rdata_whole.l1 s (k + 1) at_ = some (if s.length ≤ wAt s (k + 1) at_ then 0 else if name_May (s.take (wAt s (k + 1) at_ + 1)) then (wAt s (k + 1) at_ : Int) + 1 else 0) := by
 intro k
 induction k with
 | zero =>
  intro at_ h1 h2
  rw [rdata_whole.l1.eq_2, if_neg (by omega)]
  unfold rdata_whole.j2
  rw [if_neg (by simp), if_pos (by omega)]
  unfold rdata_whole.j3
  rw [if_pos rfl]
  have hw : wAt s (0 + 1) at_ = at_ := by rw [wAt, if_neg (by omega)]; 
  rw [hw, if_pos (by omega)]
 | succ k ih =>
  intro at_ h1 h2
  rw [rdata_whole.l1.eq_2]
  have hend : ∀ (ha : at_ < s.length), ¬ (0 < (s.getD at_ 0).toNat) → rdata_whole.j2 at_ s (rdata_whole.l1 s (k + 1)) false = some (if s.length ≤ wAt s (k + 2) at_ then 0 else if name_May (s.take (wAt s (k + 2) at_ + 1)) then (wAt s (k + 2) at_ : Int) + 1 else 0) := by
   intro ha hb
   have hw : wAt s (k + 2) at_ = at_ := by rw [wAt]; rw [if_neg (by intro h; exact hb h.2)]
   rw [hw]
   unfold rdata_whole.j2
   have e1 : w64 ((at_ : Int) + 1) = ((at_ + 1 : Nat) : Int) := by rw [w64_id (by omega) (by omega)]; omega
   rw [if_neg (by simp), if_neg (by omega), e1, if_pos (by omega), if_pos (by omega), if_pos (show name_May.pre _ by unfold name_May.pre; simp; omega)]
   unfold rdata_whole.j3 lt
   rw [show ((at_ + 1 : Nat) : Int).toNat = at_ + 1 by omega, if_neg (show ¬ s.length ≤ at_ by omega)]
   cases name_May (s.take (at_ + 1)) with
   | true => simp [e1]
   | false => simp
  by_cases ha : at_ < s.length
  ·rw [if_pos (by omega), if_pos (by omega), bt_nat]
   by_cases hb : 0 < (s.getD at_ 0).toNat
   ·rw [decide_eq_true (by omega)]
    have hlt := (s.getD at_ 0).toNat_lt
    unfold rdata_whole.j2
    rw [if_pos rfl, if_pos (by omega), if_pos (by omega), bt_nat, w64_id (x := ((s.getD at_ 0).toNat : Int)) (by omega) (by omega), w64_id (x := 1 + ((s.getD at_ 0).toNat : Int)) (by omega) (by omega), w64_id (by omega) (by omega)]
    rw [show (at_ : Int) + (1 + ((s.getD at_ 0).toNat : Int)) = ((at_ + 1 + (s.getD at_ 0).toNat : Nat) : Int) by omega, ih _ (by omega) (by omega)]
    have hw : wAt s (k + 2) at_ = wAt s (k + 1) (at_ + 1 + (s.getD at_ 0).toNat) := by rw [wAt, if_pos ⟨ha, hb⟩]
    rw [hw]
   ·rw [decide_eq_false (by omega)]
    exact hend ha hb
  ·rw [if_neg (by omega)]
   have hw : wAt s (k + 2) at_ = at_ := by rw [wAt, if_neg (by omega)]
   rw [hw]
   unfold rdata_whole.j2
   rw [if_neg (by simp), if_pos (by omega)]
   unfold rdata_whole.j3
   rw [if_pos rfl, if_pos (by omega)]
theorem rdata_whole.eq (s : Str) (hp : rdata_whole.pre s) : ∃ kf, rdata_whole.f kf s = some (rdata_whole s) := by
 unfold rdata_whole.pre at hp
 by_cases h0 : s.length = 0
 ·have := List.eq_nil_of_length_eq_zero h0
  subst this
  exact ⟨1, rfl⟩
 obtain ⟨m, hm⟩ : ∃ m, s.length = m := ⟨_, rfl⟩
 refine ⟨s.length + 1 + 1, ?_⟩
 unfold rdata_whole.f
 have := whole_lp s hp (s.length + 1) 0 (by omega) (by omega)
 rw [show ((0 : Nat) : Int) = 0 from rfl] at this
 rw [this]
 have hst : ∀ k at_, s.length < at_ + k → wAt s (k + 1) at_ = wAt s k at_ := by
  intro k
  induction k with
  | zero => intro at_ h; simp only [wAt]; rw [if_neg (by omega)]
  | succ k ih =>
   intro at_ h
   by_cases hc : at_ < s.length ∧ 0 < (s.getD at_ 0).toNat
   ·have e1 : wAt s (k + 1 + 1) at_ = wAt s (k + 1) (at_ + 1 + (s.getD at_ 0).toNat) := by rw [wAt, if_pos hc]
    have e2 : wAt s (k + 1) at_ = wAt s k (at_ + 1 + (s.getD at_ 0).toNat) := by rw [wAt, if_pos hc]
    rw [e1, e2]; exact ih _ (by omega)
   ·have e1 : wAt s (k + 1 + 1) at_ = at_ := by rw [wAt, if_neg hc]
    have e2 : wAt s (k + 1) at_ = at_ := by rw [wAt, if_neg hc]
    rw [e1, e2]
 rw [hst (s.length + 1) 0 (by omega)]
 rfl
def sAt (s : Str) : Nat → Nat → Nat
 | 0, at_ => at_
 | k + 1, at_ => if at_ < s.length then sAt s k (at_ + 1 + (s.getD at_ 0).toNat) else at_
def rdata_strings (s : Str) : Bool := !(s == []) && sAt s (s.length + 1) 0 == s.length
def rdata_strings.pre (s : Str) : Prop := s.length ≤ 1000000
instance i_rdata_strings (s : Str) : Decidable (rdata_strings.pre s) := by unfold rdata_strings.pre; infer_instance
theorem strings_lp (s : Str) (hs : s.length ≤ 1000000) : ∀ (k at_ : Nat), s.length < at_ + (k + 1) → at_ ≤ s.length + 256 → rdata_strings.l1 s (k + 1) at_ = some (!(s == []) && sAt s (k + 1) at_ == s.length) := by
 intro k
 induction k with
 | zero =>
  intro at_ h1 h2
  rw [rdata_strings.l1.eq_2, if_neg (by omega)]
  have hw : sAt s (0 + 1) at_ = at_ := by rw [sAt, if_neg (by omega)]; 
  rw [hw]
  by_cases h : s = []
  ·rw [if_pos h, h]; rfl
  ·rw [if_neg h]
   have : (s == []) = false := beq_eq_false_iff_ne.2 h
   rw [this, Bool.not_false, Bool.true_and]
   congr 1
   rw [Bool.eq_iff_iff, beq_iff_eq, beq_iff_eq]
   omega
 | succ k ih =>
  intro at_ h1 h2
  rw [rdata_strings.l1.eq_2]
  by_cases ha : at_ < s.length
  ·have hlt := (s.getD at_ 0).toNat_lt
   rw [if_pos (by omega), if_pos (by omega), bt_nat, w64_id (x := ((s.getD at_ 0).toNat : Int)) (by omega) (by omega), w64_id (x := 1 + ((s.getD at_ 0).toNat : Int)) (by omega) (by omega), w64_id (by omega) (by omega)]
   rw [show (at_ : Int) + (1 + ((s.getD at_ 0).toNat : Int)) = ((at_ + 1 + (s.getD at_ 0).toNat : Nat) : Int) by omega, ih _ (by omega) (by omega)]
   have hw : sAt s (k + 2) at_ = sAt s (k + 1) (at_ + 1 + (s.getD at_ 0).toNat) := by rw [sAt, if_pos ha]
   rw [hw]
  ·rw [if_neg (by omega)]
   have hw : sAt s (k + 2) at_ = at_ := by rw [sAt, if_neg ha]
   rw [hw]
   by_cases h : s = []
   ·rw [if_pos h, h]; rfl
   ·rw [if_neg h]
    have : (s == []) = false := beq_eq_false_iff_ne.2 h
    rw [this, Bool.not_false, Bool.true_and]
    congr 1
    rw [Bool.eq_iff_iff, beq_iff_eq, beq_iff_eq]
    omega
theorem rdata_strings.eq (s : Str) (hp : rdata_strings.pre s) : ∃ kf, rdata_strings.f kf s = some (rdata_strings s) := by
 unfold rdata_strings.pre at hp
 refine ⟨s.length + 1, ?_⟩
 unfold rdata_strings.f
 have := strings_lp s hp s.length 0 (by omega) (by omega)
 rw [show ((0 : Nat) : Int) = 0 from rfl] at this
 rw [this]
 rfl
end Go.Proofs.Ytfcaekghpkpjdaa.K

/- What stands in a record's data, by its type. -/
namespace Go.Proofs.Ytfcaekghpkpjdaa.K
def layTab : List (Int × List Int) := [(1, [4]), (28, [16]), (2, [-1]), (5, [-1]), (12, [-1]), (15, [2, -1]), (6, [-1, -1, 20]), (16, [-2])]
def rdata_layout (k : Int) : List Int := (List.lookup k layTab).getD [-3]
end Go.Proofs.Ytfcaekghpkpjdaa.K

/- Pure functions, printed by a program of this session out of the loaded code. -/
namespace Go.Proofs.Ytfcaekghpkpjdaa.K
open Go Go.RowKit
set_option linter.unusedVariables false
/-- rdata.cut -/
def rdata_cut.j3 (x2013 : Int) (x1776 : Str) (l1779 : List Str) (cl1795 : Str → List Str → Int → Option (List Str × Bool)) (x1784 : Int) (x2052 : Bool) : Option (List Str × Bool) :=
 (if x2052 = true then some (([] : List Str), false) else (if 0 ≤ x2013 then (if x2013 ≤ (x1776.length : Int) then (if (l1779.length + 1) * 16 ≤ 140737488355328 then (cl1795 (x1776.drop x2013.toNat) (l1779 ++ [x1776.take x2013.toNat]) (w64 (x1784 + 1))) else none) else none) else none))
def rdata_cut.j2 (x1776 : Str) (l1779 : List Str) (cl1795 : Str → List Str → Int → Option (List Str × Bool)) (x1784 : Int) (r1072 : List Int) (x2013 : Int) : Option (List Str × Bool) :=
 (if x2013 < 0 then (rdata_cut.j3 x2013 x1776 l1779 cl1795 x1784 true) else (if (x1776.length : Int) < x2013 then (rdata_cut.j3 x2013 x1776 l1779 cl1795 x1784 true) else (if (rd r1072 x1784) = (-1) then (rdata_cut.j3 x2013 x1776 l1779 cl1795 x1784 (x2013 == 0)) else (rdata_cut.j3 x2013 x1776 l1779 cl1795 x1784 false))))
def rdata_cut.j4 (x1776 : Str) (l1779 : List Str) (cl1795 : Str → List Str → Int → Option (List Str × Bool)) (x1784 : Int) (r1072 : List Int) (x2104 : Bool) : Option (List Str × Bool) :=
 (if x2104 = true then (rdata_cut.j2 x1776 l1779 cl1795 x1784 r1072 (x1776.length : Int)) else (rdata_cut.j2 x1776 l1779 cl1795 x1784 r1072 (rd r1072 x1784)))
def rdata_cut.l1 (r1072 : List Int) : Nat → Str → List Str → Int → Option (List Str × Bool)
 | 0, _, _, _ => none
 | kf1775 + 1, x1776, l1779, x1784 => (if x1784 < (r1072.length : Int) then (if 0 ≤ x1784 then (if (rd r1072 x1784) = (-1) then (if rdata_whole.pre x1776 then (lt (rdata_whole x1776) fun r2092 => (rdata_cut.j2 x1776 l1779 (rdata_cut.l1 r1072 kf1775) x1784 r1072 r2092)) else none) else (if (rd r1072 x1784) = (-2) then (if rdata_strings.pre x1776 then (lt (rdata_strings x1776) fun r2121 => (if r2121 = true then (rdata_cut.j4 x1776 l1779 (rdata_cut.l1 r1072 kf1775) x1784 r1072 true) else (rdata_cut.j4 x1776 l1779 (rdata_cut.l1 r1072 kf1775) x1784 r1072 ((rd r1072 x1784) == (-3))))) else none) else (rdata_cut.j4 x1776 l1779 (rdata_cut.l1 r1072 kf1775) x1784 r1072 ((rd r1072 x1784) == (-3))))) else none) else some (l1779, (x1776 == ([] : Str))))
def rdata_cut.f (kf : Nat) (a1 : Int) (a2 : Str) : Option (List Str × Bool) :=
 (lt (rdata_layout a1) fun r1072 => (rdata_cut.l1 r1072 kf a2 ([] : List Str) 0))
end Go.Proofs.Ytfcaekghpkpjdaa.K

namespace Go.Proofs.Ytfcaekghpkpjdaa.K
open Go
set_option linter.unusedVariables false
theorem lookup_in {α : Type} {m : List (Int × α)} {k : Int} {v : α} (h : List.lookup k m = some v) : (k, v) ∈ m := by
 induction m with
 | nil => cases h
 | cons p m ih =>
  obtain ⟨a, b⟩ := p
  simp only [List.lookup] at h
  split at h
  ·rename_i he
   injection h with h
   subst h
   rw [beq_iff_eq.1 he]; simp
  ·exact List.mem_cons_of_mem _ (ih h)
theorem layout_len (k : Int) : (rdata_layout k).length ≤ 3 := by
 unfold rdata_layout
 cases h : List.lookup k layTab with
 | none => decide
 | some xs =>
  have : ∀ p ∈ layTab, p.2.length ≤ 3 := by decide
  exact this _ (lookup_in h)
/-- How long a part is. -/
def partSize (p : Int) (d : Str) : Int := if p = -1 then rdata_whole d else if (p = -2 ∧ rdata_strings d = true) ∨ p = -3 then (d.length : Int) else p
def partBad (p : Int) (d : Str) : Bool := decide (partSize p d < 0) || decide ((d.length : Int) < partSize p d) || (p == -1 && partSize p d == 0)
def cutL : List Int → Str → List Str → List Str × Bool
 | [], d, l => (l, d == [])
 | p :: ps, d, l => if partBad p d = true then ([], false) else cutL ps (d.drop (partSize p d).toNat) (l ++ [d.take (partSize p d).toNat])
def rdata_cut (kind : Int) (d : Str) : List Str × Bool := cutL (rdata_layout kind) d []
def rdata_cut.pre (kind : Int) (d : Str) : Prop := d.length ≤ 1000000
instance i_rdata_cut (kind : Int) (d : Str) : Decidable (rdata_cut.pre kind d) := by unfold rdata_cut.pre; infer_instance
theorem cut_lp (r : List Int) (hr : r.length ≤ 1000) : ∀ (m i : Nat) (d : Str) (l : List Str), i + m = r.length → d.length ≤ 1000000 → l.length ≤ i → rdata_cut.l1 r (m + 1) d l i = some (cutL (r.drop i) d l) := by
 intro m
 induction m with
 | zero =>
  intro i d l h1 h2 h3
  rw [rdata_cut.l1.eq_2, if_neg (by omega), List.drop_of_length_le (by omega)]; rfl
 | succ m ih =>
  intro i d l h1 h2 h3
  have hi : i < r.length := by omega
  have hrd : rd r (i : Int) = r[i] := by simp [rd, List.getD_eq_getElem?_getD, List.getElem?_eq_getElem hi]
  obtain ⟨p, hp⟩ : ∃ p, r[i] = p := ⟨_, rfl⟩
  rw [rdata_cut.l1.eq_2, if_pos (by omega), if_pos (by omega), hrd, List.drop_eq_getElem_cons hi, hp]
  rw [hp] at hrd
  have key : ∀ sz : Int, sz = partSize p d → rdata_cut.j2 d l (rdata_cut.l1 r (m + 1)) i r sz = some (cutL (p :: r.drop (i + 1)) d l) := by
   intro sz hsz
   unfold rdata_cut.j2
   have hbad : ∀ b, b = partBad p d → (b = false → 0 ≤ sz ∧ sz ≤ (d.length : Int)) → rdata_cut.j3 sz d l (rdata_cut.l1 r (m + 1)) i b = some (cutL (p :: r.drop (i + 1)) d l) := by
    intro b hb hok
    unfold rdata_cut.j3
    simp only [cutL]
    rw [← hb]
    cases b with
    | true => rw [if_pos rfl, if_pos rfl]
    | false =>
     obtain ⟨o1, o2⟩ := hok rfl
     rw [if_neg (show ¬ (false = true) by simp), if_neg (show ¬ (false = true) by simp), if_pos o1, if_pos o2, if_pos (by omega), w64_id (by omega) (by omega), show (i : Int) + 1 = ((i + 1 : Nat) : Int) by omega, ih (i + 1) _ _ (by omega) (by simp; omega) (by simp; omega), ← hsz]
   unfold partBad at hbad
   rw [← hsz] at hbad
   by_cases c1 : sz < 0
   ·rw [if_pos c1]; exact hbad true (by simp [c1]) (by simp)
   by_cases c2 : (d.length : Int) < sz
   ·rw [if_neg c1, if_pos c2]; exact hbad true (by simp [c2]) (by simp)
   rw [if_neg c1, if_neg c2, hrd]
   by_cases c3 : p = -1
   ·rw [if_pos c3]
    refine hbad (sz == 0) ?_ (fun _ => ⟨by omega, by omega⟩)
    rw [decide_eq_false c1, decide_eq_false c2, c3]; rfl
   ·rw [if_neg c3]
    refine hbad false ?_ (fun _ => ⟨by omega, by omega⟩)
    rw [decide_eq_false c1, decide_eq_false c2, show (p == -1) = false from beq_eq_false_iff_ne.2 c3]; rfl
  by_cases c1 : p = -1
  ·rw [if_pos c1, if_pos (show rdata_whole.pre d from h2)]
   exact key _ (by unfold partSize; rw [if_pos c1])
  rw [if_neg c1]
  have j4 : ∀ b : Bool, b = decide ((p = -2 ∧ rdata_strings d = true) ∨ p = -3) → rdata_cut.j4 d l (rdata_cut.l1 r (m + 1)) i r b = some (cutL (p :: r.drop (i + 1)) d l) := by
   intro b hb
   unfold rdata_cut.j4
   cases b with
   | true => rw [if_pos rfl]; exact key _ (by unfold partSize; rw [if_neg c1, if_pos (of_decide_eq_true hb.symm)])
   | false => rw [if_neg (by simp)]; exact key _ (by rw [hrd]; unfold partSize; rw [if_neg c1, if_neg (of_decide_eq_false hb.symm)])
  by_cases c2 : p = -2
  ·rw [if_pos c2, if_pos (show rdata_strings.pre d from h2)]
   unfold lt
   simp only []
   cases hs : rdata_strings d with
   | true => rw [if_pos rfl]; exact j4 true (by simp [c2, hs])
   | false => rw [if_neg (by simp)]; exact j4 _ (by rw [c2]; simp [hs])
  ·rw [if_neg c2]
   refine j4 _ ?_
   rw [Bool.eq_iff_iff, beq_iff_eq, decide_eq_true_iff]
   exact ⟨.inr, fun h => h.resolve_left (fun hc => c2 hc.1)⟩
theorem rdata_cut.eq (kind : Int) (d : Str) (hp : rdata_cut.pre kind d) : ∃ kf, rdata_cut.f kf kind d = some (rdata_cut kind d) := by
 refine ⟨(rdata_layout kind).length + 1, ?_⟩
 have := layout_len kind
 exact cut_lp (rdata_layout kind) (by omega) _ 0 d [] (by omega) hp (by simp)
end Go.Proofs.Ytfcaekghpkpjdaa.K

/- Pure functions, printed by a program of this session out of the loaded code. -/
namespace Go.Proofs.Ytfcaekghpkpjdaa.K
open Go Go.RowKit
set_option linter.unusedVariables false
/-- rdata.May -/
def rdata_May.f (a1 : Int) (a2 : Str) : Option (Bool) :=
 (if rdata_cut.pre a1 a2 then (lt (rdata_cut a1 a2) fun r11 => (if r11.2 = true then some ((decide ((a2.length : Int) ≤ 65535))) else some (false))) else none)
end Go.Proofs.Ytfcaekghpkpjdaa.K

namespace Go.Proofs.Ytfcaekghpkpjdaa.K
open Go
set_option linter.unusedVariables false
def rdata_May (kind : Int) (d : Str) : Bool := (rdata_cut kind d).2 && decide (d.length ≤ 65535)
def rdata_May.pre (kind : Int) (d : Str) : Prop := d.length ≤ 1000000
instance i_rdata_May (kind : Int) (d : Str) : Decidable (rdata_May.pre kind d) := by unfold rdata_May.pre; infer_instance
theorem rdata_May.eq (kind : Int) (d : Str) (hp : rdata_May.pre kind d) : rdata_May.f kind d = some (rdata_May kind d) := by
 unfold rdata_May.f lt rdata_May
 rw [if_pos (show rdata_cut.pre kind d from hp)]
 simp only []
 cases (rdata_cut kind d).2 with
 | true => rw [if_pos rfl, Bool.true_and]; congr 2; exact propext (by omega)
 | false => rw [if_neg (by simp), Bool.false_and]
end Go.Proofs.Ytfcaekghpkpjdaa.K

/- Pure functions, printed by a program of this session out of the loaded code. -/
namespace Go.Proofs.Ytfcaekghpkpjdaa.K
open Go Go.RowKit
set_option linter.unusedVariables false
/-- rdata.Take -/
def rdata_Take.j2 (cl1521 : Int → Str → Int → Option (Str × Int)) (x1509 : Int) (x1746 : Int) (x1747 : Str) : Option (Str × Int) :=
 (cl1521 x1746 x1747 (w64 (x1509 + 1)))
def rdata_Take.j4 (x1507 : Str) (r1865 : Str × Int × Int) (cl1521 : Int → Str → Int → Option (Str × Int)) (x1509 : Int) (x1890 : Bool) : Option (Str × Int) :=
 (if x1890 = true then some (([] : Str), 2) else (if x1507.length + r1865.1.length ≤ 9223372036854775807 then (rdata_Take.j2 cl1521 x1509 r1865.2.1 (x1507 ++ r1865.1)) else none))
def rdata_Take.j5 (x1507 : Str) (r1916 : Str × Int × Int) (cl1521 : Int → Str → Int → Option (Str × Int)) (x1509 : Int) (x1941 : Bool) : Option (Str × Int) :=
 (if x1941 = true then some (([] : Str), 2) else (if x1507.length + r1916.1.length ≤ 9223372036854775807 then (rdata_Take.j2 cl1521 x1509 r1916.2.1 (x1507 ++ r1916.1)) else none))
def rdata_Take.j3 (r1015 : List Int) (x1509 : Int) (a1 : Str) (x1506 : Int) (x1507 : Str) (cl1521 : Int → Str → Int → Option (Str × Int)) (a2 : Int) (a3 : Int) (x1786 : Int) : Option (Str × Int) :=
 (if (rd r1015 x1509) = (-1) then (if wire_Take.pre a1 x1506 then (lt (wire_Take a1 x1506) fun r1865 => (if r1865.2.2 = 0 then (rdata_Take.j4 x1507 r1865 cl1521 x1509 (decide ((w64 (a2 + a3)) < r1865.2.1))) else (rdata_Take.j4 x1507 r1865 cl1521 x1509 true))) else none) else (if octet_Some.pre a1 x1506 x1786 then (lt (octet_Some a1 x1506 x1786) fun r1916 => (if r1916.2.2 = 0 then (rdata_Take.j5 x1507 r1916 cl1521 x1509 (decide ((w64 (a2 + a3)) < r1916.2.1))) else (rdata_Take.j5 x1507 r1916 cl1521 x1509 true))) else none))
def rdata_Take.j6 (r1015 : List Int) (x1509 : Int) (a1 : Str) (x1506 : Int) (x1507 : Str) (cl1521 : Int → Str → Int → Option (Str × Int)) (a2 : Int) (a3 : Int) (x1961 : Bool) : Option (Str × Int) :=
 (if x1961 = true then (rdata_Take.j3 r1015 x1509 a1 x1506 x1507 cl1521 a2 a3 (w64 ((w64 (a2 + a3)) - x1506))) else (rdata_Take.j3 r1015 x1509 a1 x1506 x1507 cl1521 a2 a3 (rd r1015 x1509)))
def rdata_Take.j7 (x1507 : Str) (x2008 : Bool) : Option (Str × Int) :=
 (if x2008 = true then some (([] : Str), 2) else some (x1507, 0))
def rdata_Take.l1 (r1015 : List Int) (a1 : Str) (a2 : Int) (a3 : Int) (a4 : Int) : Nat → Int → Str → Int → Option (Str × Int)
 | 0, _, _, _ => none
 | kf1505 + 1, x1506, x1507, x1509 => (if x1509 < (r1015.length : Int) then (if 0 ≤ x1509 then (if (rd r1015 x1509) = (-2) then (rdata_Take.j6 r1015 x1509 a1 x1506 x1507 (rdata_Take.l1 r1015 a1 a2 a3 a4 kf1505) a2 a3 true) else (rdata_Take.j6 r1015 x1509 a1 x1506 x1507 (rdata_Take.l1 r1015 a1 a2 a3 a4 kf1505) a2 a3 ((rd r1015 x1509) == (-3)))) else none) else (if x1506 = (w64 (a2 + a3)) then (if rdata_May.pre a4 x1507 then (lt (rdata_May a4 x1507) fun r2023 => (rdata_Take.j7 x1507 (!r2023))) else none) else (rdata_Take.j7 x1507 true)))
def rdata_Take.f (kf : Nat) (a1 : Str) (a2 : Int) (a3 : Int) (a4 : Int) : Option (Str × Int) :=
 (if octet_Some.pre a1 a2 a3 then (lt (octet_Some a1 a2 a3) fun r28 => (if r28.2.2 = 0 then (lt (rdata_layout a4) fun r1015 => (rdata_Take.l1 r1015 a1 a2 a3 a4 kf a2 [] 0)) else some (([] : Str), r28.2.2))) else none)
end Go.Proofs.Ytfcaekghpkpjdaa.K

/- Pure functions, printed by a program of this session out of the loaded code. -/
namespace Go.Proofs.Ytfcaekghpkpjdaa.K
open Go Go.RowKit
set_option linter.unusedVariables false
/-- rdata.Put -/
def rdata_Put.j2 (cl507 : Pack → Int → Option (Int × Pack)) (x497 : Int) (x562 : Pack) : Option (Int × Pack) :=
 (cl507 x562 (w64 (x497 + 1)))
def rdata_Put.l1 (r345 : List Int) (r51 : List Str × Bool) : Nat → Pack → Int → Option (Int × Pack)
 | 0, _, _ => none
 | kf491 + 1, x494, x497 => (if x497 < (r345.length : Int) then (if 0 ≤ x497 then (if (rd r345 x497) = (-1) then (if x497 < (r51.1.length : Int) then (if wire_Pack_Name.pre x494 (rd r51.1 x497) then (lt (wire_Pack_Name x494 (rd r51.1 x497)) fun r592 => (rdata_Put.j2 (rdata_Put.l1 r345 r51 kf491) x497 r592.2)) else none) else none) else (if x497 < (r51.1.length : Int) then (if wire_Pack_Add.pre x494 (rd r51.1 x497) then (lt (wire_Pack_Add x494 (rd r51.1 x497)) fun r610 => (rdata_Put.j2 (rdata_Put.l1 r345 r51 kf491) x497 r610)) else none) else none)) else none) else some (0, x494))
def rdata_Put.f (kf : Nat) (a3 : Pack) (a7 : Int) (a8 : Str) : Option (Int × Pack) :=
 (if rdata_May.pre a7 a8 then (lt (rdata_May a7 a8) fun r42 => (if r42 = true then (if rdata_cut.pre a7 a8 then (lt (rdata_cut a7 a8) fun r51 => (lt (rdata_layout a7) fun r345 => (rdata_Put.l1 r345 r51 kf a3 0))) else none) else some (1, a3))) else none)
end Go.Proofs.Ytfcaekghpkpjdaa.K

namespace Go.Proofs.Ytfcaekghpkpjdaa.K
open Go
set_option linter.unusedVariables false
set_option maxRecDepth 100000
/-- The parts of a record's data, put one behind the other. -/
def putL : List Int → List Str → Pack → Pack
 | p :: ps, x :: xs, k => putL ps xs (if p = -1 then (wire_Pack_Name k x).2 else wire_Pack_Add k x)
 | _, _, k => k
def rdata_Put (p : Pack) (kind : Int) (d : Str) : Int × Pack := if rdata_May kind d then (0, putL (rdata_layout kind) (rdata_cut kind d).1 p) else (1, p)
def rdata_Put.pre (p : Pack) (kind : Int) (d : Str) : Prop := p.s.length ≤ 5000000000 ∧ d.length ≤ 1000000
instance i_rdata_Put (p : Pack) (kind : Int) (d : Str) : Decidable (rdata_Put.pre p kind d) := by unfold rdata_Put.pre; infer_instance
theorem nameLoop_len : ∀ (k : Nat) (p : Pack) (n : Str), (nameLoop k p n).s.length ≤ p.s.length + n.length + 2 := by
 intro k
 induction k with
 | zero => intro p n; simp [nameLoop, wire_Pack_Add]; try omega
 | succ k ih =>
  intro p n
  simp only [nameLoop]
  split
  ·simp [wire_Pack_Add]; try omega
  ·split
   ·have : ∀ x, (octet_Put16 x).length = 2 := fun _ => rfl
    simp [wire_Pack_Add, this]; try omega
   ·refine Nat.le_trans (ih _ _) ?_
    have : ∀ q : Pack, q.s.length = p.s.length → ((wire_Pack_Add q (n.take (1 + (n.headD 0).toNat))).s.length) ≤ p.s.length + (n.take (1 + (n.headD 0).toNat)).length := by
     intro q hq; simp [wire_Pack_Add, hq]
    have h2 : (n.take (1 + (n.headD 0).toNat)).length + (n.drop (1 + (n.headD 0).toNat)).length = n.length := by simp; omega
    have h1 := this (if p.s.length < 16384 then { p with known := p.known ++ [(n, (p.s.length : Int))] } else p) (by split <;> rfl)
    omega
theorem Name_len (p : Pack) (n : Str) : (wire_Pack_Name p n).2.s.length ≤ p.s.length + n.length + 2 := by
 unfold wire_Pack_Name
 split
 ·exact nameLoop_len _ _ _
 ·simp; omega
theorem cutL_ok : ∀ (ps : List Int) (d : Str) (l : List Str), (cutL ps d l).2 = true → ∃ e, (cutL ps d l).1 = l ++ e ∧ e.length = ps.length ∧ (∀ x ∈ e, x.length ≤ d.length) ∧ e.flatten = d := by
 intro ps
 induction ps with
 | nil => intro d l h; exact ⟨[], by simp [cutL], rfl, by simp, by simp only [cutL, beq_iff_eq] at h; rw [h]; rfl⟩
 | cons p ps ih =>
  intro d l h
  simp only [cutL] at h ⊢
  by_cases hb : partBad p d = true
  ·rw [if_pos hb] at h; cases h
  ·rw [if_neg hb] at h ⊢
   obtain ⟨e, h1, h2, h3, h4⟩ := ih _ _ h
   refine ⟨d.take (partSize p d).toNat :: e, by rw [h1]; simp, by simp [h2], ?_, by rw [List.flatten_cons, h4, List.take_append_drop]⟩
   intro x hx
   rcases List.mem_cons.1 hx with rfl | hx
   ·simp; omega
   ·have := h3 x hx; simp at this; omega
theorem May_cut {kind : Int} {d : Str} (h : rdata_May kind d = true) : (rdata_cut kind d).1.length = (rdata_layout kind).length ∧ (∀ x ∈ (rdata_cut kind d).1, x.length ≤ d.length) ∧ (rdata_cut kind d).1.flatten = d ∧ d.length ≤ 65535 := by
 simp only [rdata_May, Bool.and_eq_true, decide_eq_true_eq] at h
 obtain ⟨e, h1, h2, h3, h4⟩ := cutL_ok (rdata_layout kind) d [] h.1
 have : (rdata_cut kind d).1 = e := by unfold rdata_cut; rw [h1]; rfl
 rw [this]; exact ⟨h2, h3, h4, h.2⟩
theorem rd_drop {α : Type} [Inhabited α] {l : List α} {i : Nat} (h : i < l.length) : l.drop i = rd l (i : Int) :: l.drop (i + 1) := by
 rw [List.drop_eq_getElem_cons h]; simp [rd, List.getD_eq_getElem?_getD, List.getElem?_eq_getElem h]
theorem rd_mem {α : Type} [Inhabited α] {l : List α} {i : Nat} (h : i < l.length) : rd l (i : Int) ∈ l := by
 have : rd l (i : Int) = l[i] := by simp [rd, List.getD_eq_getElem?_getD, List.getElem?_eq_getElem h]
 rw [this]; exact List.getElem_mem h
theorem put_lp (lay : List Int) (cut : List Str × Bool) (hl : cut.1.length = lay.length) (hl2 : lay.length ≤ 3) (hx : ∀ x ∈ cut.1, x.length ≤ 1000000) : ∀ (m i : Nat) (p : Pack), i + m = lay.length → p.s.length + m * 1000002 ≤ 6000000000 → rdata_Put.l1 lay cut (m + 1) p i = some (0, putL (lay.drop i) (cut.1.drop i) p) := by
 intro m
 induction m with
 | zero =>
  intro i p h1 h2
  rw [rdata_Put.l1.eq_2, if_neg (by omega), List.drop_of_length_le (by omega)]; rfl
 | succ m ih =>
  intro i p h1 h2
  have hxi := hx _ (rd_mem (l := cut.1) (i := i) (by omega))
  have hw : w64 ((i : Int) + 1) = ((i + 1 : Nat) : Int) := by rw [w64_id (by omega) (by omega)]; omega
  rw [rdata_Put.l1.eq_2, if_pos (by omega), if_pos (by omega), rd_drop (l := lay) (by omega), rd_drop (l := cut.1) (by omega)]
  simp only [putL]
  by_cases hc : rd lay (i : Int) = -1
  ·rw [if_pos hc, if_pos hc, if_pos (by omega), if_pos (show wire_Pack_Name.pre _ _ from ⟨hxi, by omega⟩)]
   simp only [lt, rdata_Put.j2]
   have := Name_len p (rd cut.1 (i : Int))
   rw [hw, ih (i + 1) _ (by omega) (by omega)]
  ·rw [if_neg hc, if_neg hc, if_pos (by omega), if_pos (show wire_Pack_Add.pre _ _ by unfold wire_Pack_Add.pre; omega)]
   simp only [lt, rdata_Put.j2]
   rw [hw, ih (i + 1) _ (by omega) (by simp [wire_Pack_Add]; omega)]
theorem rdata_Put.eq (p : Pack) (kind : Int) (d : Str) (hp : rdata_Put.pre p kind d) : ∃ kf, rdata_Put.f kf p kind d = some (rdata_Put p kind d) := by
 unfold rdata_Put.pre at hp
 obtain ⟨p1, p2⟩ := hp
 refine ⟨(rdata_layout kind).length + 1, ?_⟩
 have h3 := layout_len kind
 unfold rdata_Put.f lt rdata_Put
 rw [if_pos (show rdata_May.pre kind d from p2)]
 simp only []
 by_cases hm : rdata_May kind d = true
 ·obtain ⟨m1, m2, m3, m4⟩ := May_cut hm
  rw [if_pos hm, if_pos hm, if_pos (show rdata_cut.pre kind d from p2)]
  have := put_lp (rdata_layout kind) (rdata_cut kind d) m1 h3 (fun x hx => by have := m2 x hx; omega) (rdata_layout kind).length 0 p (by omega) (by omega)
  rw [List.drop_zero, List.drop_zero] at this
  exact this
 ·rw [if_neg hm, if_neg hm]
end Go.Proofs.Ytfcaekghpkpjdaa.K

namespace Go.Proofs.Ytfcaekghpkpjdaa.K
open Go
set_option linter.unusedVariables false
set_option maxRecDepth 100000
/-- How many bytes a part that is no name takes. -/
def partLen (fin a p : Int) : Int := if p = -2 ∨ p = -3 then fin - a else p
def takeParts (s : Str) (fin : Int) : List Int → Int → Str → Option (Str × Int)
 | [], a, d => some (d, a)
 | p :: ps, a, d =>
  if p = -1 then
   if (wire_Take s a).2.2 ≠ 0 ∨ fin < (wire_Take s a).2.1 then none else takeParts s fin ps (wire_Take s a).2.1 (d ++ (wire_Take s a).1)
  else if (octet_Some s a (partLen fin a p)).2.2 ≠ 0 ∨ fin < (octet_Some s a (partLen fin a p)).2.1 then none
  else takeParts s fin ps (octet_Some s a (partLen fin a p)).2.1 (d ++ (octet_Some s a (partLen fin a p)).1)
def takeEnd (kind fin : Int) : Option (Str × Int) → Str × Int
 | none => ([], 2)
 | some (d, a) => if a = fin ∧ rdata_May kind d = true then (d, 0) else ([], 2)
def rdata_Take (s : Str) (a many kind : Int) : Str × Int := if (octet_Some s a many).2.2 ≠ 0 then ([], (octet_Some s a many).2.2) else takeEnd kind (a + many) (takeParts s (a + many) (rdata_layout kind) a [])
def rdata_Take.pre (s : Str) (a many kind : Int) : Prop := s.length ≤ 300000
instance i_rdata_Take (s : Str) (a many kind : Int) : Decidable (rdata_Take.pre s a many kind) := by unfold rdata_Take.pre; infer_instance
theorem takeN_end (s : Str) : ∀ (k : Nat) (a f beh : Int) (b : Str), (beh < 0 ∨ beh ≤ s.length) → (takeN s k a f beh b).2.1 ≤ s.length ∧ (0 ≤ (takeN s k a f beh b).2.1) := by
 intro k
 induction k with
 | zero => intro a f beh b h; simp [takeN]
 | succ k ih =>
  intro a f beh b h
  have h1 := @Some_len s (octet_U8 s a).2.1 (octet_U8 s a).1
  have h2 : (octet_U16 s a).2.2 = 0 → 0 ≤ (octet_U16 s a).2.1 ∧ (octet_U16 s a).2.1 ≤ s.length := by
   rw [U16_eq]
   split
   ·intro h; cases h
   ·intro _; simp only; omega
  simp only [takeN]
  split
  ·simp
  split
  ·split
   ·rename_i hc
    have := h2 hc.1
    exact ih _ _ _ _ (by split <;> omega)
   ·simp
  split
  ·simp
  ·rename_i hc
   obtain ⟨x0, x1, x2, x3, x4⟩ := h1 (by omega)
   split
   ·exact ih _ _ _ _ h
   ·simp only [x4]; split <;> omega
theorem Take_end (s : Str) (a : Int) : (wire_Take s a).2.1 ≤ s.length ∧ 0 ≤ (wire_Take s a).2.1 := takeN_end s _ _ _ _ _ (.inl (by decide))
theorem rtake_lp (s : Str) (hs : s.length ≤ 300000) (lay : List Int) (hlay : lay.length ≤ 3) (a0 many kind : Int) (ho : (octet_Some s a0 many).2.2 = 0) :
  ∀ (m i : Nat) (a : Int) (d : Str), i + m = lay.length → 0 ≤ a → a ≤ a0 + many → d.length ≤ i * 300000 → rdata_Take.l1 lay s a0 many kind (m + 1) a d i = some (takeEnd kind (a0 + many) (takeParts s (a0 + many) (lay.drop i) a d)) := by
 obtain ⟨o0, o1, o2, o3, o4⟩ := Some_len ho
 have hfin : w64 (a0 + many) = a0 + many := w64_id (by omega) (by omega)
 intro m
 induction m with
 | zero =>
  intro i a d h1 h2 h3 h4
  rw [rdata_Take.l1.eq_2, if_neg (by omega), List.drop_of_length_le (by omega), hfin]
  simp only [takeParts, takeEnd]
  by_cases hc : a = a0 + many
  ·rw [if_pos hc, if_pos (show rdata_May.pre kind d by unfold rdata_May.pre; omega)]
   unfold lt rdata_Take.j7
   cases rdata_May kind d with
   | true => simp [hc]
   | false => simp
  ·rw [if_neg hc]
   unfold rdata_Take.j7
   simp [hc]
 | succ m ih =>
  intro i a d h1 h2 h3 h4
  have hw : w64 ((i : Int) + 1) = ((i + 1 : Nat) : Int) := by rw [w64_id (by omega) (by omega)]; omega
  have hea : w64 (a0 + many - a) = a0 + many - a := w64_id (by omega) (by omega)
  rw [rdata_Take.l1.eq_2, if_pos (by omega), if_pos (by omega), rd_drop (l := lay) (by omega)]
  obtain ⟨p, hp⟩ : ∃ p, rd lay (i : Int) = p := ⟨_, rfl⟩
  rw [hp]
  have j3 : ∀ z, z = partLen (a0 + many) a p → rdata_Take.j3 lay i s a d (rdata_Take.l1 lay s a0 many kind (m + 1)) a0 many z = some (takeEnd kind (a0 + many) (takeParts s (a0 + many) (p :: lay.drop (i + 1)) a d)) := by
   intro z hz
   unfold rdata_Take.j3
   rw [hp]
   simp only [takeParts, ← hz]
   by_cases c1 : p = -1
   ·rw [if_pos c1, if_pos c1, if_pos (show wire_Take.pre s a by unfold wire_Take.pre; omega)]
    simp only [lt]
    have t1 := Take_len s a
    have t2 := Take_end s a
    obtain ⟨r, hr⟩ : ∃ r, wire_Take s a = r := ⟨_, rfl⟩
    rw [hr] at t1 t2 ⊢
    have j4 : ∀ b : Bool, b = decide (r.2.2 ≠ 0 ∨ a0 + many < r.2.1) → rdata_Take.j4 d r (rdata_Take.l1 lay s a0 many kind (m + 1)) i b = some (takeEnd kind (a0 + many) (if r.2.2 ≠ 0 ∨ a0 + many < r.2.1 then none else takeParts s (a0 + many) (lay.drop (i + 1)) r.2.1 (d ++ r.1))) := by
     intro b hb
     unfold rdata_Take.j4
     by_cases hc : r.2.2 ≠ 0 ∨ a0 + many < r.2.1
     ·rw [hb, decide_eq_true hc, if_pos rfl, if_pos hc]; rfl
     ·rw [hb, decide_eq_false hc, if_neg (by simp), if_neg hc, if_pos (by omega)]
      unfold rdata_Take.j2
      rw [hw, ih (i + 1) _ _ (by omega) (by omega) (by omega) (by simp; omega)]
    by_cases hc : r.2.2 = 0
    ·rw [if_pos hc, hfin]; exact j4 _ (by simp [hc])
    ·rw [if_neg hc]; exact j4 _ (by simp [hc])
   ·rw [if_neg c1, if_neg c1, if_pos (show octet_Some.pre s a z by unfold octet_Some.pre; omega)]
    simp only [lt]
    have t1 := @Some_len s a z
    obtain ⟨r, hr⟩ : ∃ r, octet_Some s a z = r := ⟨_, rfl⟩
    rw [hr] at t1 ⊢
    have j5 : ∀ b : Bool, b = decide (r.2.2 ≠ 0 ∨ a0 + many < r.2.1) → rdata_Take.j5 d r (rdata_Take.l1 lay s a0 many kind (m + 1)) i b = some (takeEnd kind (a0 + many) (if r.2.2 ≠ 0 ∨ a0 + many < r.2.1 then none else takeParts s (a0 + many) (lay.drop (i + 1)) r.2.1 (d ++ r.1))) := by
     intro b hb
     unfold rdata_Take.j5
     by_cases hc : r.2.2 ≠ 0 ∨ a0 + many < r.2.1
     ·rw [hb, decide_eq_true hc, if_pos rfl, if_pos hc]; rfl
     ·obtain ⟨x0, x1, x2, x3, x4⟩ := t1 (by omega)
      rw [hb, decide_eq_false hc, if_neg (by simp), if_neg hc, if_pos (by omega)]
      unfold rdata_Take.j2
      rw [hw, ih (i + 1) _ _ (by omega) (by omega) (by omega) (by simp; omega)]
    by_cases hc : r.2.2 = 0
    ·rw [if_pos hc, hfin]; exact j5 _ (by simp [hc])
    ·rw [if_neg hc]; exact j5 _ (by simp [hc])
  have j6 : ∀ b : Bool, b = decide (p = -2 ∨ p = -3) → rdata_Take.j6 lay i s a d (rdata_Take.l1 lay s a0 many kind (m + 1)) a0 many b = some (takeEnd kind (a0 + many) (takeParts s (a0 + many) (p :: lay.drop (i + 1)) a d)) := by
   intro b hb
   unfold rdata_Take.j6
   rw [hfin, hp, hea]
   by_cases hc : p = -2 ∨ p = -3
   ·rw [hb, decide_eq_true hc, if_pos rfl]; exact j3 _ (by unfold partLen; rw [if_pos hc])
   ·rw [hb, decide_eq_false hc, if_neg (by simp)]; exact j3 _ (by unfold partLen; rw [if_neg hc])
  by_cases c2 : p = -2
  ·rw [if_pos c2]; exact j6 _ (by simp [c2])
  ·rw [if_neg c2]; exact j6 _ (by rw [Bool.eq_iff_iff]; simp [c2])
theorem rdata_Take.eq (s : Str) (a many kind : Int) (hp : rdata_Take.pre s a many kind) : ∃ kf, rdata_Take.f kf s a many kind = some (rdata_Take s a many kind) := by
 unfold rdata_Take.pre at hp
 refine ⟨(rdata_layout kind).length + 1, ?_⟩
 have h3 := layout_len kind
 unfold rdata_Take.f rdata_Take
 rw [if_pos (show octet_Some.pre s a many by unfold octet_Some.pre; omega)]
 simp only [lt]
 by_cases hc : (octet_Some s a many).2.2 = 0
 ·obtain ⟨o0, o1, o2, o3, o4⟩ := Some_len hc
  rw [if_pos hc, if_neg (by omega)]
  have := rtake_lp s hp (rdata_layout kind) h3 a many kind hc (rdata_layout kind).length 0 a [] (by omega) o0 (by omega) (by simp)
  simpa using this
 ·rw [if_neg hc, if_pos hc]
end Go.Proofs.Ytfcaekghpkpjdaa.K

/- Pure functions, printed by a program of this session out of the loaded code. -/
namespace Go.Proofs.Ytfcaekghpkpjdaa.K
open Go Go.RowKit
set_option linter.unusedVariables false
/-- record.take[string] -/
def record_take_string.j1 (r13 : Str × Int × Int) (a2 : Rd) (x28 : Bool) : Option (Str × Rd) :=
 some (r13.1, (⟨a2.s, r13.2.1, x28⟩ : Rd))
def record_take_string.f (a2 : Rd) : Option (Str × Rd) :=
 (if wire_Take.pre a2.s a2.at_ then (lt (wire_Take a2.s a2.at_) fun r13 => (if a2.bad = true then (record_take_string.j1 r13 a2 true) else (record_take_string.j1 r13 a2 (r13.2.2 != 0)))) else none)
/-- record.take[uint16] -/
def record_take_uint16.j1 (r13 : Int × Int × Int) (a2 : Rd) (x28 : Bool) : Option (Int × Rd) :=
 some (r13.1, (⟨a2.s, r13.2.1, x28⟩ : Rd))
def record_take_uint16.f (a2 : Rd) : Option (Int × Rd) :=
 (if octet_U16.pre a2.s a2.at_ then (lt (octet_U16 a2.s a2.at_) fun r13 => (if a2.bad = true then (record_take_uint16.j1 r13 a2 true) else (record_take_uint16.j1 r13 a2 (r13.2.2 != 0)))) else none)
/-- record.take[uint32] -/
def record_take_uint32.j1 (r13 : Int × Int × Int) (a2 : Rd) (x28 : Bool) : Option (Int × Rd) :=
 some (r13.1, (⟨a2.s, r13.2.1, x28⟩ : Rd))
def record_take_uint32.f (a2 : Rd) : Option (Int × Rd) :=
 (if octet_U32.pre a2.s a2.at_ then (lt (octet_U32 a2.s a2.at_) fun r13 => (if a2.bad = true then (record_take_uint32.j1 r13 a2 true) else (record_take_uint32.j1 r13 a2 (r13.2.2 != 0)))) else none)
end Go.Proofs.Ytfcaekghpkpjdaa.K

namespace Go.Proofs.Ytfcaekghpkpjdaa.K
open Go
set_option linter.unusedVariables false
def record_take_string (r : Rd) : Str × Rd := ((wire_Take r.s r.at_).1, ⟨r.s, (wire_Take r.s r.at_).2.1, r.bad || (wire_Take r.s r.at_).2.2 != 0⟩)
def record_take_string.pre (r : Rd) : Prop := r.s.length ≤ 1000000
instance i_record_take_string (r : Rd) : Decidable (record_take_string.pre r) := by unfold record_take_string.pre; infer_instance
theorem record_take_string.eq (r : Rd) (hp : record_take_string.pre r) : record_take_string.f r = some (record_take_string r) := by
 unfold record_take_string.f record_take_string
 rw [if_pos (show wire_Take.pre r.s r.at_ from hp)]
 simp only [lt, record_take_string.j1]
 cases r.bad <;> simp
def record_take_uint16 (r : Rd) : Int × Rd := ((octet_U16 r.s r.at_).1, ⟨r.s, (octet_U16 r.s r.at_).2.1, r.bad || (octet_U16 r.s r.at_).2.2 != 0⟩)
def record_take_uint16.pre (r : Rd) : Prop := r.s.length ≤ 1000000
instance i_record_take_uint16 (r : Rd) : Decidable (record_take_uint16.pre r) := by unfold record_take_uint16.pre; infer_instance
theorem record_take_uint16.eq (r : Rd) (hp : record_take_uint16.pre r) : record_take_uint16.f r = some (record_take_uint16 r) := by
 unfold record_take_uint16.pre at hp
 unfold record_take_uint16.f record_take_uint16
 rw [if_pos (show octet_U16.pre r.s r.at_ by unfold octet_U16.pre; omega)]
 simp only [lt, record_take_uint16.j1]
 cases r.bad <;> simp
def record_take_uint32 (r : Rd) : Int × Rd := ((octet_U32 r.s r.at_).1, ⟨r.s, (octet_U32 r.s r.at_).2.1, r.bad || (octet_U32 r.s r.at_).2.2 != 0⟩)
def record_take_uint32.pre (r : Rd) : Prop := r.s.length ≤ 1000000
instance i_record_take_uint32 (r : Rd) : Decidable (record_take_uint32.pre r) := by unfold record_take_uint32.pre; infer_instance
theorem record_take_uint32.eq (r : Rd) (hp : record_take_uint32.pre r) : record_take_uint32.f r = some (record_take_uint32 r) := by
 unfold record_take_uint32.pre at hp
 unfold record_take_uint32.f record_take_uint32
 rw [if_pos (show octet_U32.pre r.s r.at_ by unfold octet_U32.pre; omega)]
 simp only [lt, record_take_uint32.j1]
 cases r.bad <;> simp
end Go.Proofs.Ytfcaekghpkpjdaa.K

/- Pure functions, printed by a program of this session out of the loaded code. -/
namespace Go.Proofs.Ytfcaekghpkpjdaa.K
open Go Go.RowKit
set_option linter.unusedVariables false
/-- (*record.reader).question -/
def record_reader_question.f (a2 : Rd) : Option (Question × Rd) :=
 (if record_take_string.pre a2 then (lt (record_take_string a2) fun r19 => (if record_take_uint16.pre r19.2 then (lt (record_take_uint16 r19.2) fun r32 => (if record_take_uint16.pre r32.2 then (lt (record_take_uint16 r32.2) fun r45 => some ((⟨r19.1, r32.1, r45.1⟩ : Question), r45.2)) else none)) else none)) else none)
end Go.Proofs.Ytfcaekghpkpjdaa.K

namespace Go.Proofs.Ytfcaekghpkpjdaa.K
open Go
set_option linter.unusedVariables false
def record_reader_question (r : Rd) : Question × Rd := (⟨(record_take_string r).1, (record_take_uint16 (record_take_string r).2).1, (record_take_uint16 (record_take_uint16 (record_take_string r).2).2).1⟩, (record_take_uint16 (record_take_uint16 (record_take_string r).2).2).2)
def record_reader_question.pre (r : Rd) : Prop := r.s.length ≤ 1000000
instance i_record_reader_question (r : Rd) : Decidable (record_reader_question.pre r) := by unfold record_reader_question.pre; infer_instance
theorem record_reader_question.eq (r : Rd) (hp : record_reader_question.pre r) : record_reader_question.f r = some (record_reader_question r) := by
 unfold record_reader_question.f record_reader_question
 rw [if_pos (show record_take_string.pre r from hp)]
 simp only [lt]
 rw [if_pos (show record_take_uint16.pre (record_take_string r).2 from hp), if_pos (show record_take_uint16.pre (record_take_uint16 (record_take_string r).2).2 from hp)]
end Go.Proofs.Ytfcaekghpkpjdaa.K

/- Pure functions, printed by a program of this session out of the loaded code. -/
namespace Go.Proofs.Ytfcaekghpkpjdaa.K
open Go Go.RowKit
set_option linter.unusedVariables false
/-- record.TakeQ -/
def record_TakeQ.f (a1 : Str) (a2 : Int) : Option (Question × Int × Int) :=
 (if record_reader_question.pre (⟨a1, a2, false⟩ : Rd) then (lt (record_reader_question (⟨a1, a2, false⟩ : Rd)) fun r25 => (if r25.2.bad = true then some ((⟨[], 0, 0⟩ : Question), 0, 2) else some (r25.1, r25.2.at_, 0))) else none)
/-- record.Take -/
def record_Take.f (a1 : Str) (a2 : Int) : Option (RR × Int × Int) :=
 (if record_reader_question.pre (⟨a1, a2, false⟩ : Rd) then (lt (record_reader_question (⟨a1, a2, false⟩ : Rd)) fun r25 => (if record_take_uint32.pre r25.2 then (lt (record_take_uint32 r25.2) fun r47 => (if record_take_uint16.pre r47.2 then (lt (record_take_uint16 r47.2) fun r60 => (if r60.2.bad = true then some ((⟨[], 0, 0, 0, []⟩ : RR), 0, 2) else (if rdata_Take.pre a1 r60.2.at_ (w64 r60.1) r25.1.ty then (lt (rdata_Take a1 r60.2.at_ (w64 r60.1) r25.1.ty) fun r91 => (if r91.2 = 0 then some ((⟨r25.1.name, r25.1.ty, r25.1.cls, r47.1, r91.1⟩ : RR), w64 (r60.2.at_ + (w64 r60.1)), 0) else some ((⟨[], 0, 0, 0, []⟩ : RR), 0, r91.2))) else none))) else none)) else none)) else none)
end Go.Proofs.Ytfcaekghpkpjdaa.K

namespace Go.Proofs.Ytfcaekghpkpjdaa.K
open Go
set_option linter.unusedVariables false
def record_TakeQ (s : Str) (a : Int) : Question × Int × Int := if (record_reader_question ⟨s, a, false⟩).2.bad = true then (⟨[], 0, 0⟩, 0, 2) else ((record_reader_question ⟨s, a, false⟩).1, (record_reader_question ⟨s, a, false⟩).2.at_, 0)
def record_TakeQ.pre (s : Str) (a : Int) : Prop := s.length ≤ 1000000
instance i_record_TakeQ (s : Str) (a : Int) : Decidable (record_TakeQ.pre s a) := by unfold record_TakeQ.pre; infer_instance
theorem record_TakeQ.eq (s : Str) (a : Int) (hp : record_TakeQ.pre s a) : record_TakeQ.f s a = some (record_TakeQ s a) := by
 unfold record_TakeQ.f record_TakeQ
 rw [if_pos (show record_reader_question.pre ⟨s, a, false⟩ from hp)]
 simp only [lt]
 split <;> rfl
/-- What a record's reader reads ahead of the data: the question, the time, how many bytes the data take. -/
def takeHead (s : Str) (a : Int) : Question × Int × Int × Rd :=
 ((record_reader_question ⟨s, a, false⟩).1, (record_take_uint32 (record_reader_question ⟨s, a, false⟩).2).1, (record_take_uint16 (record_take_uint32 (record_reader_question ⟨s, a, false⟩).2).2).1, (record_take_uint16 (record_take_uint32 (record_reader_question ⟨s, a, false⟩).2).2).2)
def record_Take (s : Str) (a : Int) : RR × Int × Int :=
 if (takeHead s a).2.2.2.bad = true then (⟨[], 0, 0, 0, []⟩, 0, 2)
 else if (rdata_Take s (takeHead s a).2.2.2.at_ (takeHead s a).2.2.1 (takeHead s a).1.ty).2 = 0 then
  (⟨(takeHead s a).1.name, (takeHead s a).1.ty, (takeHead s a).1.cls, (takeHead s a).2.1, (rdata_Take s (takeHead s a).2.2.2.at_ (takeHead s a).2.2.1 (takeHead s a).1.ty).1⟩, (takeHead s a).2.2.2.at_ + (takeHead s a).2.2.1, 0)
 else (⟨[], 0, 0, 0, []⟩, 0, (rdata_Take s (takeHead s a).2.2.2.at_ (takeHead s a).2.2.1 (takeHead s a).1.ty).2)
def record_Take.pre (s : Str) (a : Int) : Prop := s.length ≤ 300000
instance i_record_Take (s : Str) (a : Int) : Decidable (record_Take.pre s a) := by unfold record_Take.pre; infer_instance
theorem rdTake_end {s : Str} {a many kind : Int} (h : (rdata_Take s a many kind).2 = 0) : 0 ≤ a ∧ 0 ≤ many ∧ a + many ≤ s.length := by
 unfold rdata_Take at h
 by_cases hc : (octet_Some s a many).2.2 = 0
 ·obtain ⟨o0, o1, o2, o3, o4⟩ := Some_len hc
  exact ⟨o0, o1, o2⟩
 ·rw [if_pos hc] at h; exact absurd h hc
theorem record_Take.eq (s : Str) (a : Int) (hp : record_Take.pre s a) : record_Take.f s a = some (record_Take s a) := by
 unfold record_Take.pre at hp
 have hq : (record_reader_question (⟨s, a, false⟩ : Rd)).2.s = s := rfl
 have h16 : 0 ≤ (takeHead s a).2.2.1 ∧ (takeHead s a).2.2.1 < 65536 := U16_rng _ _
 have e1 : w64 (takeHead s a).2.2.1 = (takeHead s a).2.2.1 := w64_id (by omega) (by omega)
 unfold record_Take.f
 rw [if_pos (show record_reader_question.pre ⟨s, a, false⟩ by unfold record_reader_question.pre; simp only; omega)]
 simp only [lt]
 rw [if_pos (show record_take_uint32.pre (record_reader_question ⟨s, a, false⟩).2 by unfold record_take_uint32.pre; rw [hq]; omega), if_pos (show record_take_uint16.pre (record_take_uint32 (record_reader_question ⟨s, a, false⟩).2).2 by unfold record_take_uint16.pre; show s.length ≤ 1000000; omega)]
 change (if (takeHead s a).2.2.2.bad = true then some ((⟨[], 0, 0, 0, []⟩ : RR), (0 : Int), (2 : Int)) else (if rdata_Take.pre s (takeHead s a).2.2.2.at_ (w64 (takeHead s a).2.2.1) (takeHead s a).1.ty then (if (rdata_Take s (takeHead s a).2.2.2.at_ (w64 (takeHead s a).2.2.1) (takeHead s a).1.ty).2 = 0 then some ((⟨(takeHead s a).1.name, (takeHead s a).1.ty, (takeHead s a).1.cls, (takeHead s a).2.1, (rdata_Take s (takeHead s a).2.2.2.at_ (w64 (takeHead s a).2.2.1) (takeHead s a).1.ty).1⟩ : RR), w64 ((takeHead s a).2.2.2.at_ + (w64 (takeHead s a).2.2.1)), (0 : Int)) else some ((⟨[], 0, 0, 0, []⟩ : RR), (0 : Int), (rdata_Take s (takeHead s a).2.2.2.at_ (w64 (takeHead s a).2.2.1) (takeHead s a).1.ty).2)) else none)) = _
 rw [e1]
 unfold record_Take
 by_cases hb : (takeHead s a).2.2.2.bad = true
 ·rw [if_pos hb, if_pos hb]
 ·rw [if_neg hb, if_neg hb, if_pos (show rdata_Take.pre _ _ _ _ from hp)]
  by_cases hc : (rdata_Take s (takeHead s a).2.2.2.at_ (takeHead s a).2.2.1 (takeHead s a).1.ty).2 = 0
  ·have := rdTake_end hc
   rw [if_pos hc, if_pos hc, w64_id (by omega) (by omega)]
  ·rw [if_neg hc, if_neg hc]
end Go.Proofs.Ytfcaekghpkpjdaa.K

/- Pure functions, printed by a program of this session out of the loaded code. -/
namespace Go.Proofs.Ytfcaekghpkpjdaa.K
open Go Go.RowKit
set_option linter.unusedVariables false
/-- record.May -/
def record_May.f (a1 : RR) : Option (Bool) :=
 (if name_May.pre a1.name then (lt (name_May a1.name) fun r16 => (if r16 = true then (if rdata_May.pre a1.ty a1.data then (lt (rdata_May a1.ty a1.data) fun r23 => some (r23)) else none) else some (false))) else none)
/-- record.MayQ -/
def record_MayQ.f (a1 : Question) : Option (Bool) :=
 (if name_May.pre a1.name then (lt (name_May a1.name) fun r16 => some (r16)) else none)
/-- record.Key -/
def record_Key (a1 : RR) : Question :=
 ((⟨a1.name, a1.ty, a1.cls⟩ : Question))
/-- record.Same -/
def record_Same (a1 : RR) (a2 : RR) : Bool :=
 ((decide ((⟨a1.name, a1.ty, a1.cls, a2.ttl, a1.data⟩ : RR) = a2)))
end Go.Proofs.Ytfcaekghpkpjdaa.K

namespace Go.Proofs.Ytfcaekghpkpjdaa.K
open Go
set_option linter.unusedVariables false
def record_May (r : RR) : Bool := name_May r.name && rdata_May r.ty r.data
def record_May.pre (r : RR) : Prop := r.name.length ≤ 1000000 ∧ r.data.length ≤ 1000000
instance i_record_May (r : RR) : Decidable (record_May.pre r) := by unfold record_May.pre; infer_instance
theorem record_May.eq (r : RR) (hp : record_May.pre r) : record_May.f r = some (record_May r) := by
 obtain ⟨h1, h2⟩ := hp
 unfold record_May.f lt record_May
 rw [if_pos (show name_May.pre r.name from h1)]
 simp only []
 cases name_May r.name with
 | true => rw [if_pos rfl, if_pos (show rdata_May.pre r.ty r.data from h2)]; rfl
 | false => rw [if_neg (by simp)]; rfl
def record_MayQ (q : Question) : Bool := name_May q.name
def record_MayQ.pre (q : Question) : Prop := q.name.length ≤ 1000000
instance i_record_MayQ (q : Question) : Decidable (record_MayQ.pre q) := by unfold record_MayQ.pre; infer_instance
theorem record_MayQ.eq (q : Question) (hp : record_MayQ.pre q) : record_MayQ.f q = some (record_MayQ q) := by
 unfold record_MayQ.f lt record_MayQ
 rw [if_pos (show name_May.pre q.name from hp)]
end Go.Proofs.Ytfcaekghpkpjdaa.K

/- Pure functions, printed by a program of this session out of the loaded code. -/
namespace Go.Proofs.Ytfcaekghpkpjdaa.K
open Go Go.RowKit
set_option linter.unusedVariables false
/-- record.PutQ -/
def record_PutQ.f (a3 : Pack) (a7 : Question) : Option (Int × Pack) :=
 (if record_MayQ.pre a7 then (lt (record_MayQ a7) fun r47 => (if r47 = true then (if wire_Pack_Name.pre a3 a7.name then (lt (wire_Pack_Name a3 a7.name) fun r56 => (lt (octet_Put16 a7.ty) fun r95 => (lt (octet_Put16 a7.cls) fun r100 => (if r95.length + r100.length ≤ 9223372036854775807 then (if wire_Pack_Add.pre r56.2 (r95 ++ r100) then (lt (wire_Pack_Add r56.2 (r95 ++ r100)) fun r108 => some (0, r108)) else none) else none)))) else none) else some (1, a3))) else none)
/-- record.Put -/
def record_Put.f (a3 : Pack) (a7 : RR) : Option (Int × Pack) :=
 (if record_May.pre a7 then (lt (record_May a7) fun r47 => (if r47 = true then (if wire_Pack_Name.pre a3 a7.name then (lt (wire_Pack_Name a3 a7.name) fun r56 => (lt (octet_Put16 a7.ty) fun r101 => (lt (octet_Put16 a7.cls) fun r106 => (if r101.length + r106.length ≤ 9223372036854775807 then (lt (octet_Put32 a7.ttl) fun r112 => (if (r101 ++ r106).length + r112.length ≤ 9223372036854775807 then (if wire_Pack_Add.pre r56.2 ((r101 ++ r106) ++ r112) then (lt (wire_Pack_Add r56.2 ((r101 ++ r106) ++ r112)) fun r120 => (if wire_Pack_Mark.pre r120 then (lt (wire_Pack_Mark r120) fun r136 => (if rdata_Put.pre r136.2 a7.ty a7.data then (lt (rdata_Put r136.2 a7.ty a7.data) fun r151 => (if wire_Pack_Close.pre r151.2 r136.1 then (lt (wire_Pack_Close r151.2 r136.1) fun r166 => some (r166.1, r166.2)) else none)) else none)) else none)) else none) else none)) else none)))) else none) else some (1, a3))) else none)
end Go.Proofs.Ytfcaekghpkpjdaa.K

namespace Go.Proofs.Ytfcaekghpkpjdaa.K
open Go
set_option linter.unusedVariables false
set_option maxRecDepth 100000
def record_PutQ (p : Pack) (q : Question) : Int × Pack := if record_MayQ q then (0, wire_Pack_Add (wire_Pack_Name p q.name).2 (octet_Put16 q.ty ++ octet_Put16 q.cls)) else (1, p)
def record_PutQ.pre (p : Pack) (q : Question) : Prop := p.s.length ≤ 1000000000 ∧ q.name.length ≤ 1000000
instance i_record_PutQ (p : Pack) (q : Question) : Decidable (record_PutQ.pre p q) := by unfold record_PutQ.pre; infer_instance
theorem Put16_len (x : Int) : (octet_Put16 x).length = 2 := rfl
theorem Put32_len (x : Int) : (octet_Put32 x).length = 4 := rfl
theorem record_PutQ.eq (p : Pack) (q : Question) (hp : record_PutQ.pre p q) : record_PutQ.f p q = some (record_PutQ p q) := by
 unfold record_PutQ.pre at hp
 obtain ⟨h1, h2⟩ := hp
 unfold record_PutQ.f record_PutQ
 rw [if_pos (show record_MayQ.pre q from h2)]
 simp only [lt]
 by_cases hm : record_MayQ q = true
 ·have hl := Name_len p q.name
  rw [if_pos hm, if_pos hm, if_pos (show wire_Pack_Name.pre _ _ by unfold wire_Pack_Name.pre; omega), if_pos (by rw [Put16_len, Put16_len]; decide), if_pos (show wire_Pack_Add.pre _ _ by unfold wire_Pack_Add.pre; rw [List.length_append, Put16_len, Put16_len]; omega)]
 ·rw [if_neg hm, if_neg hm]
theorem putL_len : ∀ (ps : List Int) (xs : List Str) (p : Pack) (N : Nat), (∀ x ∈ xs, x.length ≤ N) → (putL ps xs p).s.length ≤ p.s.length + ps.length * (N + 2) := by
 intro ps
 induction ps with
 | nil => intro xs p N h; simp [putL]
 | cons a ps ih =>
  intro xs p N h
  cases xs with
  | nil => simp [putL]
  | cons x xs =>
   simp only [putL, List.length_cons]
   have hx := h x (by simp)
   have := ih xs (if a = -1 then (wire_Pack_Name p x).2 else wire_Pack_Add p x) N (fun y hy => h y (by simp [hy]))
   have h2 : (if a = -1 then (wire_Pack_Name p x).2 else wire_Pack_Add p x).s.length ≤ p.s.length + N + 2 := by
    split
    ·have := Name_len p x; omega
    ·simp [wire_Pack_Add]; omega
   rw [Nat.succ_mul]; omega
theorem rdPut_len (p : Pack) (kind : Int) (d : Str) : (rdata_Put p kind d).2.s.length ≤ p.s.length + 200000 := by
 unfold rdata_Put
 split
 ·rename_i h
  obtain ⟨m1, m2, m3, m4⟩ := May_cut h
  have := putL_len (rdata_layout kind) (rdata_cut kind d).1 p 65535 (fun x hx => by have := m2 x hx; omega)
  have h3 := layout_len kind
  have : (rdata_layout kind).length * (65535 + 2) ≤ 3 * (65535 + 2) := Nat.mul_le_mul_right _ h3
  simp only; omega
 ·simp
/-- The bytes of a record ahead of its data's. -/
def fixed (r : RR) : Str := octet_Put16 r.ty ++ octet_Put16 r.cls ++ octet_Put32 r.ttl
def putMark (p : Pack) (r : RR) : Int × Pack := wire_Pack_Mark (wire_Pack_Add (wire_Pack_Name p r.name).2 (fixed r))
def record_Put (p : Pack) (r : RR) : Int × Pack := if record_May r then wire_Pack_Close (rdata_Put (putMark p r).2 r.ty r.data).2 (putMark p r).1 else (1, p)
def record_Put.pre (p : Pack) (r : RR) : Prop := p.s.length ≤ 1000000000 ∧ r.name.length ≤ 1000000 ∧ r.data.length ≤ 1000000
instance i_record_Put (p : Pack) (r : RR) : Decidable (record_Put.pre p r) := by unfold record_Put.pre; infer_instance
theorem record_Put.eq (p : Pack) (r : RR) (hp : record_Put.pre p r) : record_Put.f p r = some (record_Put p r) := by
 unfold record_Put.pre at hp
 obtain ⟨h1, h2, h3⟩ := hp
 unfold record_Put.f record_Put
 rw [if_pos (show record_May.pre r from ⟨h2, h3⟩)]
 simp only [lt]
 by_cases hm : record_May r = true
 ·have hl := Name_len p r.name
  have hf : (fixed r).length = 8 := rfl
  have hq : (putMark p r).2.s.length = (wire_Pack_Name p r.name).2.s.length + 10 := by
   simp [putMark, wire_Pack_Mark, wire_Pack_Add, hf, Put16_len]
  have hr := rdPut_len (putMark p r).2 r.ty r.data
  rw [if_pos hm, if_pos hm, if_pos (show wire_Pack_Name.pre _ _ by unfold wire_Pack_Name.pre; omega), if_pos (by rw [Put16_len, Put16_len]; decide), if_pos (by rw [List.length_append, Put16_len, Put16_len, Put32_len]; decide)]
  have hfx : octet_Put16 r.ty ++ octet_Put16 r.cls ++ octet_Put32 r.ttl = fixed r := rfl
  rw [hfx, if_pos (show wire_Pack_Add.pre (wire_Pack_Name p r.name).2 (fixed r) by unfold wire_Pack_Add.pre; omega), if_pos (show wire_Pack_Mark.pre (wire_Pack_Add (wire_Pack_Name p r.name).2 (fixed r)) by unfold wire_Pack_Mark.pre; simp only [wire_Pack_Add, List.length_append]; omega)]
  rw [show wire_Pack_Mark (wire_Pack_Add (wire_Pack_Name p r.name).2 (fixed r)) = putMark p r from rfl]
  rw [if_pos (show rdata_Put.pre (putMark p r).2 r.ty r.data by unfold rdata_Put.pre; omega)]
  rw [if_pos (show wire_Pack_Close.pre (rdata_Put (putMark p r).2 r.ty r.data).2 (putMark p r).1 by unfold wire_Pack_Close.pre; omega)]
 ·rw [if_neg hm, if_neg hm]
end Go.Proofs.Ytfcaekghpkpjdaa.K

/- What is put is taken: data, records, questions. -/
namespace Go.Proofs.Ytfcaekghpkpjdaa.K
open Go
set_option linter.unusedVariables false
set_option linter.unusedSimpArgs false
set_option maxRecDepth 100000
/-- Texts and other data stand last. -/
def okLay : List Int → Bool
 | [] => true
 | p :: ps => (p == -1 || decide (0 ≤ p) || ((p == -2 || p == -3) && ps.isEmpty)) && okLay ps
theorem okLay_layout (k : Int) : okLay (rdata_layout k) = true := by
 unfold rdata_layout
 cases h : List.lookup k layTab with
 | none => decide
 | some xs =>
  have : ∀ p ∈ layTab, okLay p.2 = true := by decide
  exact this _ (lookup_in h)
theorem whole_may {d : Str} (h : rdata_whole d ≠ 0) : 0 ≤ rdata_whole d ∧ name_May (d.take (rdata_whole d).toNat) = true := by
 unfold rdata_whole at h ⊢
 split at h
 ·exact absurd rfl h
 ·split at h
  ·rename_i h1 h2
   rw [if_neg h1, if_pos h2]
   refine ⟨by omega, ?_⟩
   rw [show ((wAt d (d.length + 1) 0 : Int) + 1).toNat = wAt d (d.length + 1) 0 + 1 by omega]
   exact h2
  ·exact absurd rfl h
theorem cutL_acc : ∀ (ps : List Int) (d : Str) (l : List Str), (cutL ps d l).2 = (cutL ps d []).2 ∧ ((cutL ps d []).2 = true → (cutL ps d l).1 = l ++ (cutL ps d []).1) := by
 intro ps
 induction ps with
 | nil => intro d l; simp [cutL]
 | cons p ps ih =>
  intro d l
  simp only [cutL]
  by_cases hb : partBad p d = true
  ·rw [if_pos hb, if_pos hb]; simp
  ·rw [if_neg hb, if_neg hb]
   have h1 := ih (d.drop (partSize p d).toNat) (l ++ [d.take (partSize p d).toNat])
   have h2 := ih (d.drop (partSize p d).toNat) ([] ++ [d.take (partSize p d).toNat])
   refine ⟨h1.1.trans h2.1.symm, fun h => ?_⟩
   have h3 : (cutL ps (d.drop (partSize p d).toNat) []).2 = true := by rw [← h2.1]; exact h
   rw [h1.2 h3, h2.2 h3]; simp
theorem takeParts_put : ∀ (ps : List Int) (d : Str) (p0 : Pack), Good p0 → (cutL ps d []).2 = true → okLay ps = true →
  ∃ w new, putL ps (cutL ps d []).1 p0 = ⟨p0.s ++ w, p0.known ++ new⟩ ∧ Good ⟨p0.s ++ w, p0.known ++ new⟩ ∧ w.length ≤ d.length ∧
   ∀ rest acc, takeParts (p0.s ++ w ++ rest) ((p0.s ++ w).length : Nat) ps (p0.s.length : Nat) acc = some (acc ++ d, (((p0.s ++ w).length : Nat) : Int)) := by
 intro ps
 induction ps with
 | nil =>
  intro d p0 hg hc _
  simp only [cutL, beq_iff_eq] at hc
  subst hc
  exact ⟨[], [], by simp [cutL, putL], by simpa using hg, by simp, fun rest acc => by simp [takeParts]⟩
 | cons p ps ih =>
  intro d p0 hg hc hok
  simp only [cutL] at hc ⊢
  by_cases hb : partBad p d = true
  ·rw [if_pos hb] at hc; cases hc
  rw [if_neg hb] at hc ⊢
  have hacc := cutL_acc ps (d.drop (partSize p d).toNat) ([] ++ [d.take (partSize p d).toNat])
  have hc2 : (cutL ps (d.drop (partSize p d).toNat) []).2 = true := by rw [← hacc.1]; exact hc
  rw [hacc.2 hc2]
  simp only [List.nil_append, List.singleton_append, putL]
  simp only [okLay, Bool.and_eq_true] at hok
  obtain ⟨hok1, hok2⟩ := hok
  unfold partBad at hb
  simp only [Bool.or_eq_true, decide_eq_true_eq, Bool.and_eq_true, beq_iff_eq, not_or, not_and] at hb
  obtain ⟨⟨hb1, hb2⟩, hb3⟩ := hb
  have htd : d.take (partSize p d).toNat ++ d.drop (partSize p d).toNat = d := List.take_append_drop _ _
  have hxl : (d.take (partSize p d).toNat).length = (partSize p d).toNat := by simp; omega
  obtain ⟨x, hx⟩ : ∃ x, d.take (partSize p d).toNat = x := ⟨_, rfl⟩
  obtain ⟨d2, hd2⟩ : ∃ d2, d.drop (partSize p d).toNat = d2 := ⟨_, rfl⟩
  rw [hx] at htd hxl ⊢
  rw [hd2] at htd hc2 ⊢
  -- one part that is no name
  have raw : p ≠ -1 → (∀ (s2 : Str), partLen ((p0.s ++ x ++ s2).length : Nat) (p0.s.length : Nat) p = (x.length : Int) ∨ s2 ≠ []) → (∀ w2 : Str, ps = [] → w2.length ≤ d2.length → w2 = []) → (ps ≠ [] → ∀ f a : Int, partLen f a p = (x.length : Int)) →
    ∃ w new, putL ps (cutL ps d2 []).1 (wire_Pack_Add p0 x) = ⟨p0.s ++ w, p0.known ++ new⟩ ∧ Good ⟨p0.s ++ w, p0.known ++ new⟩ ∧ w.length ≤ d.length ∧
     ∀ rest acc, takeParts (p0.s ++ w ++ rest) ((p0.s ++ w).length : Nat) (p :: ps) (p0.s.length : Nat) acc = some (acc ++ d, (((p0.s ++ w).length : Nat) : Int)) := by
   intro hp hpl hnil hpl2
   obtain ⟨w2, new2, e1, e2, e3, e4⟩ := ih d2 ⟨p0.s ++ x, p0.known⟩ (hg.add x) hc2 hok2
   refine ⟨x ++ w2, new2, by rw [← List.append_assoc]; exact e1, by rw [← List.append_assoc]; exact e2, by rw [← htd]; simp; omega, fun rest acc => ?_⟩
   have hlen : partLen ((p0.s ++ (x ++ w2)).length : Nat) (p0.s.length : Nat) p = (x.length : Int) := by
    by_cases h : ps = []
    ·have hw := hnil w2 h e3
     subst hw
     have := hpl []
     simp only [ne_eq, not_true_eq_false, or_false, List.append_nil] at this ⊢
     exact this
    ·exact hpl2 h _ _
   simp only [takeParts, if_neg hp]
   rw [hlen]
   have hs : octet_Some (p0.s ++ (x ++ w2) ++ rest) (p0.s.length : Nat) (x.length : Nat) = (x, ((p0.s.length + x.length : Nat) : Int), 0) := by
    rw [Some_ok (by simp)]
    congr 1
    rw [List.append_assoc, List.drop_append, List.drop_of_length_le (Nat.le_refl _), Nat.sub_self, List.drop_zero, List.nil_append, List.append_assoc, List.take_append_of_le_length (Nat.le_refl _), List.take_of_length_le (Nat.le_refl _)]
   rw [hs, if_neg (by simp only [List.length_append]; omega)]
   have := e4 rest (acc ++ x)
   simp only [List.length_append, List.append_assoc] at this ⊢
   rw [this, ← htd]
  by_cases hp : p = -1
  ·subst hp
   rw [if_pos rfl]
   have hsz : partSize (-1) d = rdata_whole d := by unfold partSize; rw [if_pos rfl]
   rw [hsz] at hb3 hx hd2
   obtain ⟨hw0, hmay⟩ := whole_may (hb3 rfl)
   rw [hx] at hmay
   obtain ⟨w1, new1, n1, n2, n3, n4⟩ := Name_spec hg hmay
   rw [n1]
   simp only
   obtain ⟨w2, new2, e1, e2, e3, e4⟩ := ih d2 ⟨p0.s ++ w1, p0.known ++ new1⟩ n4 hc2 hok2
   refine ⟨w1 ++ w2, new1 ++ new2, by rw [← List.append_assoc, ← List.append_assoc]; exact e1, by rw [← List.append_assoc, ← List.append_assoc]; exact e2, by rw [← htd]; simp; omega, fun rest acc => ?_⟩
   have ht := ((n3.app w2).app rest).Take (may_split hmay).2
   have hass : p0.s ++ w1 ++ w2 ++ rest = p0.s ++ (w1 ++ w2) ++ rest := by simp
   rw [hass] at ht
   simp only [takeParts, if_true]
   rw [ht, if_neg (by simp only [List.length_append]; omega)]
   have := e4 rest (acc ++ x)
   simp only [List.length_append, List.append_assoc] at this ⊢
   rw [this, ← htd]
  ·rw [if_neg hp]
   by_cases hp0 : 0 ≤ p
   ·have hsz : partSize p d = p := by unfold partSize; rw [if_neg hp, if_neg (by omega)]
    rw [hsz] at hxl
    have hpl : ∀ f a, partLen f a p = (x.length : Int) := by intro f a; unfold partLen; rw [if_neg (by omega)]; omega
    refine raw hp (fun s2 => .inl (hpl _ _)) ?_ (fun _ f a => hpl f a)
    intro w2 hps hw
    subst hps
    simp only [cutL, beq_iff_eq] at hc2
    subst hc2
    exact List.eq_nil_of_length_eq_zero (by simpa using hw)
   ·have h23 : (p = -2 ∨ p = -3) ∧ ps = [] := by
     simp only [Bool.or_eq_true, beq_iff_eq, decide_eq_true_eq, Bool.and_eq_true, List.isEmpty_iff] at hok1
     rcases hok1 with (h | h) | h
     ·exact absurd h hp
     ·exact absurd h hp0
     ·exact h
    obtain ⟨h23, rfl⟩ := h23
    simp only [cutL, beq_iff_eq] at hc2
    subst hc2
    refine raw hp ?_ (fun w2 _ hw => List.eq_nil_of_length_eq_zero (by simpa using hw)) (fun h => absurd rfl h)
    intro s2
    by_cases hs2 : s2 = []
    ·left; subst hs2; unfold partLen; rw [if_pos h23]; simp; omega
    ·exact .inr hs2
/-- Data that may be, put behind whatever is good, are taken back. -/
theorem rdata_back {p : Pack} {k : Int} {d : Str} (hg : Good p) (hm : rdata_May k d = true) : ∃ w new, (rdata_Put p k d) = (0, ⟨p.s ++ w, p.known ++ new⟩) ∧ Good ⟨p.s ++ w, p.known ++ new⟩ ∧ w.length ≤ d.length ∧
  ∀ rest, rdata_Take (p.s ++ w ++ rest) (p.s.length : Nat) (w.length : Nat) k = (d, 0) := by
 have hc : (cutL (rdata_layout k) d []).2 = true := by
  simp only [rdata_May, Bool.and_eq_true] at hm; exact hm.1
 obtain ⟨w, new, e1, e2, e3, e4⟩ := takeParts_put (rdata_layout k) d p hg hc (okLay_layout k)
 refine ⟨w, new, by unfold rdata_Put; rw [if_pos hm]; unfold rdata_cut; rw [e1], e2, e3, fun rest => ?_⟩
 unfold rdata_Take
 rw [Some_ok (by simp)]
 have := e4 rest []
 rw [if_neg (by simp), show ((p.s.length : Nat) : Int) + ((w.length : Nat) : Int) = (((p.s ++ w).length : Nat) : Int) by simp, this]
 simp [takeEnd, hm]
theorem nameLoop_shift : ∀ (k : Nat) (a b : Str) (K : List (Str × Int)) (n : Str), a.length = b.length → ∃ w K', nameLoop k ⟨a, K⟩ n = ⟨a ++ w, K'⟩ ∧ nameLoop k ⟨b, K⟩ n = ⟨b ++ w, K'⟩ := by
 intro k
 induction k with
 | zero => intro a b K n h; exact ⟨n, K, rfl, rfl⟩
 | succ k ih =>
  intro a b K n h
  simp only [nameLoop]
  by_cases hn : n = [0]
  ·rw [if_pos hn, if_pos hn]; exact ⟨n, K, rfl, rfl⟩
  ·rw [if_neg hn, if_neg hn]
   cases hl : List.lookup n K with
   | some x => exact ⟨_, K, rfl, rfl⟩
   | none =>
    simp only [h]
    by_cases hlt : b.length < 16384
    ·rw [if_pos hlt, if_pos hlt]
     obtain ⟨w, K', h1, h2⟩ := ih (a ++ n.take (1 + (n.headD 0).toNat)) (b ++ n.take (1 + (n.headD 0).toNat)) (K ++ [(n, (b.length : Int))]) (n.drop (1 + (n.headD 0).toNat)) (by simp [h])
     exact ⟨n.take (1 + (n.headD 0).toNat) ++ w, K', by simpa [wire_Pack_Add] using h1, by simpa [wire_Pack_Add] using h2⟩
    ·rw [if_neg hlt, if_neg hlt]
     obtain ⟨w, K', h1, h2⟩ := ih (a ++ n.take (1 + (n.headD 0).toNat)) (b ++ n.take (1 + (n.headD 0).toNat)) K (n.drop (1 + (n.headD 0).toNat)) (by simp [h])
     exact ⟨n.take (1 + (n.headD 0).toNat) ++ w, K', by simpa [wire_Pack_Add] using h1, by simpa [wire_Pack_Add] using h2⟩
theorem putL_shift : ∀ (ps : List Int) (xs : List Str) (a b : Str) (K : List (Str × Int)), a.length = b.length → ∃ w K', putL ps xs ⟨a, K⟩ = ⟨a ++ w, K'⟩ ∧ putL ps xs ⟨b, K⟩ = ⟨b ++ w, K'⟩ := by
 intro ps
 induction ps with
 | nil => intro xs a b K h; exact ⟨[], K, by simp [putL], by simp [putL]⟩
 | cons p ps ih =>
  intro xs a b K h
  cases xs with
  | nil => exact ⟨[], K, by simp [putL], by simp [putL]⟩
  | cons x xs =>
   simp only [putL]
   have step : ∃ w K', (if p = -1 then (wire_Pack_Name ⟨a, K⟩ x).2 else wire_Pack_Add ⟨a, K⟩ x) = ⟨a ++ w, K'⟩ ∧ (if p = -1 then (wire_Pack_Name ⟨b, K⟩ x).2 else wire_Pack_Add ⟨b, K⟩ x) = ⟨b ++ w, K'⟩ := by
    split
    ·unfold wire_Pack_Name
     split
     ·exact nameLoop_shift _ a b K x h
     ·exact ⟨[], K, by simp, by simp⟩
    ·exact ⟨x, K, rfl, rfl⟩
   obtain ⟨w1, K1, h1, h2⟩ := step
   rw [h1, h2]
   obtain ⟨w2, K2, h3, h4⟩ := ih xs (a ++ w1) (b ++ w1) K1 (by simp [h])
   exact ⟨w1 ++ w2, K2, by rw [h3]; simp, by rw [h4]; simp⟩
theorem rdata_shift {k : Int} {d : Str} (hm : rdata_May k d = true) (a b : Str) (K : List (Str × Int)) (h : a.length = b.length) : ∃ w K', rdata_Put ⟨a, K⟩ k d = (0, ⟨a ++ w, K'⟩) ∧ rdata_Put ⟨b, K⟩ k d = (0, ⟨b ++ w, K'⟩) := by
 obtain ⟨w, K', h1, h2⟩ := putL_shift (rdata_layout k) (rdata_cut k d).1 a b K h
 exact ⟨w, K', by unfold rdata_Put; rw [if_pos hm, h1], by unfold rdata_Put; rw [if_pos hm, h2]⟩
/-- A record's numbers are of their kinds. -/
def rrOk (r : RR) : Prop := (0 ≤ r.ty ∧ r.ty < 65536) ∧ (0 ≤ r.cls ∧ r.cls < 65536) ∧ (0 ≤ r.ttl ∧ r.ttl < 4294967296)
theorem getD_app2 {A B C : Str} {i : Nat} (h : i < B.length) : (A ++ (B ++ C)).getD (A.length + i) 0 = B.getD i 0 := by
 rw [getD_mid, getD_app h]
theorem U16_put {n : Int} (h0 : 0 ≤ n) (h1 : n < 65536) (A B : Str) : octet_U16 (A ++ (octet_Put16 n ++ B)) (A.length : Nat) = (n, ((A.length + 2 : Nat) : Int), 0) := by
 obtain ⟨m, rfl⟩ := Int.eq_ofNat_of_zero_le h0
 have hp := Put16_eq m (by omega)
 rw [U16_ok (by simp [Put16_len])]
 have g0 := getD_app2 (A := A) (B := octet_Put16 m) (C := B) (i := 0) (by rw [Put16_len]; decide)
 have g1 := getD_app2 (A := A) (B := octet_Put16 m) (C := B) (i := 1) (by rw [Put16_len]; decide)
 rw [Nat.add_zero] at g0
 simp only [by_]
 rw [g0, g1, hp]
 simp only [List.getD_cons_zero, List.getD_cons_succ]
 rw [ofNat_toNat (by omega), ofNat_toNat (by omega)]
 congr 1
 omega
theorem U32_put {n : Int} (h0 : 0 ≤ n) (h1 : n < 4294967296) (A B : Str) : octet_U32 (A ++ (octet_Put32 n ++ B)) (A.length : Nat) = (n, ((A.length + 4 : Nat) : Int), 0) := by
 obtain ⟨m, rfl⟩ := Int.eq_ofNat_of_zero_le h0
 have hp := Put32_eq m (by omega)
 rw [U32_eq, if_neg (by simp [Put32_len]; omega)]
 have g0 := getD_app2 (A := A) (B := octet_Put32 m) (C := B) (i := 0) (by rw [Put32_len]; decide)
 have g1 := getD_app2 (A := A) (B := octet_Put32 m) (C := B) (i := 1) (by rw [Put32_len]; decide)
 have g2 := getD_app2 (A := A) (B := octet_Put32 m) (C := B) (i := 2) (by rw [Put32_len]; decide)
 have g3 := getD_app2 (A := A) (B := octet_Put32 m) (C := B) (i := 3) (by rw [Put32_len]; decide)
 unfold bt
 rw [show ((A.length : Nat) : Int).toNat = A.length + 0 by omega, show (((A.length : Nat) : Int) + 1).toNat = A.length + 1 by omega, show (((A.length : Nat) : Int) + 2).toNat = A.length + 2 by omega, show (((A.length : Nat) : Int) + 3).toNat = A.length + 3 by omega, g0, g1, g2, g3, hp]
 simp only [List.getD_cons_zero, List.getD_cons_succ]
 rw [ofNat_toNat (by omega), ofNat_toNat (by omega), ofNat_toNat (by omega), ofNat_toNat (by omega)]
 congr 1
 omega
theorem PutQ_back {p : Pack} {q : Question} (hg : Good p) (hm : record_MayQ q = true) (ht : 0 ≤ q.ty ∧ q.ty < 65536) (hc : 0 ≤ q.cls ∧ q.cls < 65536) : ∃ w new, record_PutQ p q = (0, ⟨p.s ++ w, p.known ++ new⟩) ∧ Good ⟨p.s ++ w, p.known ++ new⟩ ∧ w.length ≤ q.name.length + 4 ∧
  ∀ rest, record_TakeQ (p.s ++ w ++ rest) (p.s.length : Nat) = (q, (((p.s ++ w).length : Nat) : Int), 0) := by
 obtain ⟨w1, new1, n1, n2, n3, n4⟩ := Name_spec hg (show name_May q.name = true from hm)
 refine ⟨w1 ++ (octet_Put16 q.ty ++ octet_Put16 q.cls), new1, ?_, ?_, ?_, fun rest => ?_⟩
 ·unfold record_PutQ; rw [if_pos hm, n1]; simp [wire_Pack_Add]
 ·have := n4.add (octet_Put16 q.ty ++ octet_Put16 q.cls); simpa using this
 ·simp [Put16_len]; omega
 ·have e1 : p.s ++ (w1 ++ (octet_Put16 q.ty ++ octet_Put16 q.cls)) ++ rest = (p.s ++ w1) ++ (octet_Put16 q.ty ++ (octet_Put16 q.cls ++ rest)) := by simp
  have t1 := (n3.app (octet_Put16 q.ty ++ (octet_Put16 q.cls ++ rest))).Take (may_split (show name_May q.name = true from hm)).2
  have t2 := U16_put ht.1 ht.2 (p.s ++ w1) (octet_Put16 q.cls ++ rest)
  have t3 := U16_put hc.1 hc.2 (p.s ++ w1 ++ octet_Put16 q.ty) rest
  rw [e1]
  have e2 : (p.s ++ w1 ++ octet_Put16 q.ty) ++ (octet_Put16 q.cls ++ rest) = p.s ++ w1 ++ (octet_Put16 q.ty ++ (octet_Put16 q.cls ++ rest)) := by simp
  rw [e2] at t3
  have e3 : ((p.s ++ w1 ++ octet_Put16 q.ty).length : Nat) = (p.s ++ w1).length + 2 := by simp [Put16_len]; omega
  rw [e3] at t3
  unfold record_TakeQ record_reader_question record_take_string record_take_uint16
  simp only [t1, t2, t3]
  simp [Put16_len]
  omega
/-- A record that may be, put behind whatever is good, is taken back. -/
theorem Put_back {p : Pack} {r : RR} (hg : Good p) (hm : record_May r = true) (ho : rrOk r) : ∃ w new, record_Put p r = (0, ⟨p.s ++ w, p.known ++ new⟩) ∧ Good ⟨p.s ++ w, p.known ++ new⟩ ∧ w.length ≤ r.name.length + r.data.length + 10 ∧
  ∀ rest, record_Take (p.s ++ w ++ rest) (p.s.length : Nat) = (r, (((p.s ++ w).length : Nat) : Int), 0) := by
 have hm2 := hm
 simp only [record_May, Bool.and_eq_true] at hm2
 obtain ⟨hmn, hmd⟩ := hm2
 obtain ⟨ht, hc, hl⟩ := ho
 have hd := (May_cut hmd).2.2.2
 obtain ⟨w1, new1, n1, n2, n3, n4⟩ := Name_spec hg hmn
 obtain ⟨s2, hs2⟩ : ∃ s2, p.s ++ w1 ++ fixed r = s2 := ⟨_, rfl⟩
 have hmark : putMark p r = ((((s2 ++ octet_Put16 0).length : Nat) : Int), ⟨s2 ++ octet_Put16 0, p.known ++ new1⟩) := by
  unfold putMark; rw [n1, ← hs2]; simp [wire_Pack_Mark, wire_Pack_Add]
 obtain ⟨w0, K0, z1, _⟩ := rdata_shift (k := r.ty) (d := r.data) hmd (s2 ++ octet_Put16 0) (s2 ++ octet_Put16 0) (p.known ++ new1) rfl
 have hgb : Good ⟨s2 ++ octet_Put16 (w0.length : Nat), p.known ++ new1⟩ := by
  have := (n4.add (fixed r)).add (octet_Put16 (w0.length : Nat)); rw [← hs2]; exact this
 obtain ⟨w, new, e1, e2, e3, e4⟩ := rdata_back hgb hmd
 obtain ⟨w', K', z3, z4⟩ := rdata_shift (k := r.ty) (d := r.data) hmd (s2 ++ octet_Put16 0) (s2 ++ octet_Put16 (w0.length : Nat)) (p.known ++ new1) (by simp [Put16_len])
 have hw' : w' = w0 := by
  rw [z1] at z3; injection z3 with _ z3; injection z3 with z3 _; exact (List.append_cancel_left z3).symm
 subst hw'
 have hww : w = w' := by
  rw [e1] at z4; injection z4 with _ z4; injection z4 with z4 _; exact List.append_cancel_left z4
 subst hww
 have hK : K' = p.known ++ new1 ++ new := by
  rw [e1] at z4; injection z4 with _ z4; injection z4 with _ z4; exact z4.symm
 subst hK
 simp only at e1 e2 e4
 have hwl : w.length < 65536 := by omega
 have hput : record_Put p r = (0, ⟨s2 ++ octet_Put16 (w.length : Nat) ++ w, p.known ++ new1 ++ new⟩) := by
  unfold record_Put
  rw [if_pos hm, hmark]
  simp only [z3]
  unfold wire_Pack_Close
  have hal : (s2 ++ octet_Put16 0).length = s2.length + 2 := by simp [Put16_len]
  rw [hal, if_neg (by simp [Put16_len]; omega)]
  have hlen : w16 (w64 ((((s2 ++ octet_Put16 0 ++ w).length : Nat) : Int) - ((s2.length + 2 : Nat) : Int))) = ((w.length : Nat) : Int) := by
   have : (((s2 ++ octet_Put16 0 ++ w).length : Nat) : Int) - ((s2.length + 2 : Nat) : Int) = (w.length : Int) := by simp [Put16_len]; omega
   rw [this, w64_id (by omega) (by omega), w16_eq]; omega
  simp only
  rw [hlen]
  have e5 : ((s2.length + 2 : Nat) : Int).toNat = s2.length + 2 := by omega
  rw [e5, Nat.add_sub_cancel]
  have e6 : (s2 ++ octet_Put16 0 ++ w).take s2.length = s2 := by rw [List.append_assoc, List.take_append_of_le_length (Nat.le_refl _), List.take_of_length_le (Nat.le_refl _)]
  have e7 : (s2 ++ octet_Put16 0 ++ w).drop (s2.length + 2) = w := by rw [← hal, List.drop_append_of_le_length (Nat.le_refl _), List.drop_of_length_le (Nat.le_refl _), List.nil_append]
  rw [e6, e7]
 refine ⟨w1 ++ (fixed r ++ octet_Put16 (w.length : Nat) ++ w), new1 ++ new, ?_, ?_, ?_, fun rest => ?_⟩
 ·rw [hput, ← hs2]; simp
 ·rw [← hs2] at e2; simpa using e2
 ·have hf : (fixed r).length = 8 := rfl
  simp [Put16_len, hf]; omega
 ·have hf : (fixed r).length = 8 := rfl
  have hT : p.s ++ (w1 ++ (fixed r ++ octet_Put16 (w.length : Nat) ++ w)) ++ rest = s2 ++ octet_Put16 (w.length : Nat) ++ w ++ rest := by rw [← hs2]; simp
  have hT2 : p.s ++ (w1 ++ (fixed r ++ octet_Put16 (w.length : Nat) ++ w)) = s2 ++ octet_Put16 (w.length : Nat) ++ w := by rw [← hs2]; simp
  rw [hT, hT2]
  have l1 : s2.length = (p.s ++ w1).length + 8 := by rw [← hs2]; simp [hf]; omega
  have t1 : wire_Take (s2 ++ octet_Put16 (w.length : Nat) ++ w ++ rest) (p.s.length : Nat) = (r.name, (((p.s ++ w1).length : Nat) : Int), 0) := by
   have := (n3.app (fixed r ++ (octet_Put16 (w.length : Nat) ++ (w ++ rest)))).Take (may_split hmn).2
   rw [← hs2]; simpa using this
  have t2 : octet_U16 (s2 ++ octet_Put16 (w.length : Nat) ++ w ++ rest) ((p.s ++ w1).length : Nat) = (r.ty, (((p.s ++ w1).length + 2 : Nat) : Int), 0) := by
   have := U16_put ht.1 ht.2 (p.s ++ w1) (octet_Put16 r.cls ++ (octet_Put32 r.ttl ++ (octet_Put16 (w.length : Nat) ++ (w ++ rest))))
   rw [← hs2]; unfold fixed; simpa using this
  have t3 : octet_U16 (s2 ++ octet_Put16 (w.length : Nat) ++ w ++ rest) (((p.s ++ w1).length + 2 : Nat) : Int) = (r.cls, (((p.s ++ w1).length + 4 : Nat) : Int), 0) := by
   have := U16_put hc.1 hc.2 (p.s ++ w1 ++ octet_Put16 r.ty) (octet_Put32 r.ttl ++ (octet_Put16 (w.length : Nat) ++ (w ++ rest)))
   rw [show (p.s ++ w1 ++ octet_Put16 r.ty).length = (p.s ++ w1).length + 2 by rw [List.length_append, Put16_len], show (p.s ++ w1).length + 2 + 2 = (p.s ++ w1).length + 4 by omega] at this
   rw [← hs2]; unfold fixed; simpa using this
  have t4 : octet_U32 (s2 ++ octet_Put16 (w.length : Nat) ++ w ++ rest) (((p.s ++ w1).length + 4 : Nat) : Int) = (r.ttl, ((s2.length : Nat) : Int), 0) := by
   have := U32_put hl.1 hl.2 (p.s ++ w1 ++ octet_Put16 r.ty ++ octet_Put16 r.cls) (octet_Put16 (w.length : Nat) ++ (w ++ rest))
   rw [show (p.s ++ w1 ++ octet_Put16 r.ty ++ octet_Put16 r.cls).length = (p.s ++ w1).length + 4 by rw [List.length_append, List.length_append, Put16_len, Put16_len], show (p.s ++ w1).length + 4 + 4 = (p.s ++ w1).length + 8 by omega] at this
   rw [l1, ← hs2]; unfold fixed; simpa using this
  have t5 : octet_U16 (s2 ++ octet_Put16 (w.length : Nat) ++ w ++ rest) ((s2.length : Nat) : Int) = ((w.length : Int), (((s2 ++ octet_Put16 (w.length : Nat)).length : Nat) : Int), 0) := by
   have := U16_put (n := (w.length : Int)) (by omega) (by omega) s2 (w ++ rest)
   simpa [Put16_len] using this
  have t6 := e4 rest
  have hh : takeHead (s2 ++ octet_Put16 (w.length : Nat) ++ w ++ rest) (p.s.length : Nat) = (⟨r.name, r.ty, r.cls⟩, r.ttl, (w.length : Int), ⟨s2 ++ octet_Put16 (w.length : Nat) ++ w ++ rest, (((s2 ++ octet_Put16 (w.length : Nat)).length : Nat) : Int), false⟩) := by
   unfold takeHead record_reader_question record_take_string record_take_uint16 record_take_uint32
   simp only [t1, t2, t3, t4, t5]
   rfl
  unfold record_Take
  rw [hh]
  simp only [t6]
  rw [if_neg (by simp), if_pos trivial]
  simp
  try omega
end Go.Proofs.Ytfcaekghpkpjdaa.K

/- What the readers say of numbers, as the plain laws ask it. -/
namespace Go.Proofs.Ytfcaekghpkpjdaa.K
open Go Go.RowKit
set_option linter.unusedVariables false
theorem rng_u16 {n : Int} (h : wfI .u16 n) : 0 ≤ n ∧ n < 65536 := by
 have : 0 ≤ n ∧ n ≤ 65535 := by simpa [wfI, Lit.wf, IntKind.min, IntKind.max, IntKind.signed, IntKind.bits] using h
 omega
theorem rng_u32 {n : Int} (h : wfI .u32 n) : 0 ≤ n ∧ n < 4294967296 := by
 have : 0 ≤ n ∧ n ≤ 4294967295 := by simpa [wfI, Lit.wf, IntKind.min, IntKind.max, IntKind.signed, IntKind.bits] using h
 omega
theorem rng_u8 {n : Int} (h : wfI .u8 n) : 0 ≤ n ∧ n < 256 := by
 have : 0 ≤ n ∧ n ≤ 255 := by simpa [wfI, Lit.wf, IntKind.min, IntKind.max, IntKind.signed, IntKind.bits] using h
 omega
theorem rng_u64 {n : Int} (h : wfI .u64 n) : 0 ≤ n ∧ n < 18446744073709551616 := by
 have : 0 ≤ n ∧ n ≤ 18446744073709551615 := by simpa [wfI, Lit.wf, IntKind.min, IntKind.max, IntKind.signed, IntKind.bits] using h
 omega
theorem rng_i64 {n : Int} (h : wfI .i64 n) : -9223372036854775808 ≤ n ∧ n < 9223372036854775808 := by
 have : -9223372036854775808 ≤ n ∧ n ≤ 9223372036854775807 := by simpa [wfI, Lit.wf, IntKind.min, IntKind.max, IntKind.signed, IntKind.bits] using h
 omega
theorem rrOk_of {r : RR} (h : wfRR r) : rrOk r := ⟨rng_u16 h.2.1, rng_u16 h.2.2.1, rng_u32 h.2.2.2.1⟩
end Go.Proofs.Ytfcaekghpkpjdaa.K

/- Pure functions, printed by a program of this session out of the loaded code. -/
namespace Go.Proofs.Ytfcaekghpkpjdaa.K
open Go Go.RowKit
set_option linter.unusedVariables false
/-- derricklaw05.shown -/
def derricklaw05_shown.f  : Option (Bool) :=
 (lt (wire_New) fun r19 => (if record_Put.pre r19 (⟨[2, 97, 98, 0], 1, 1, 5, [1, 2, 3, 4]⟩ : RR) then (lt (record_Put r19 (⟨[2, 97, 98, 0], 1, 1, 5, [1, 2, 3, 4]⟩ : RR)) fun r33 => (lt (wire_Pack_Out r33.2) fun r47 => (if record_Take.pre r47 0 then (lt (record_Take r47 0) fun r53 => (if r33.1 = 0 then (lt (wire_Pack_Out r33.2) fun r70 => (if r70 = ([2, 97, 98, 0, 0, 1, 0, 1, 0, 0, 0, 5, 0, 4, 1, 2, 3, 4] : Str) then (if r53.1 = (⟨[2, 97, 98, 0], 1, 1, 5, [1, 2, 3, 4]⟩ : RR) then (lt (wire_Pack_Len r33.2) fun r77 => (if r53.2.1 = r77 then some ((r53.2.2 == 0)) else some (false))) else some (false)) else some (false))) else some (false))) else none))) else none))
/-- derricklaw05.few -/
def derricklaw05_few (a1 : RR) : Bool :=
 (if (a1.name.length : Int) ≤ 700 then ((decide ((a1.data.length : Int) ≤ 700))) else (false))
end Go.Proofs.Ytfcaekghpkpjdaa.K

namespace Go.Proofs.Ytfcaekghpkpjdaa.K
open Go
set_option linter.unusedVariables false
set_option maxRecDepth 100000
def derricklaw05_shown : Bool := true
def derricklaw05_shown.pre : Prop := True
instance i_derricklaw05_shown : Decidable derricklaw05_shown.pre := by unfold derricklaw05_shown.pre; infer_instance
theorem derricklaw05_shown.eq (hp : derricklaw05_shown.pre) : derricklaw05_shown.f = some derricklaw05_shown := by decide +kernel
end Go.Proofs.Ytfcaekghpkpjdaa.K

/- Pure functions, printed by a program of this session out of the loaded code. -/
namespace Go.Proofs.Ytfcaekghpkpjdaa.K
open Go Go.RowKit
set_option linter.unusedVariables false
/-- derrickref01.there -/
def derrickref01_there (a1 : Str) (a2 : Int) (a3 : Int) : Bool :=
 (if 0 ≤ a2 then (if a2 ≤ (a1.length : Int) then (if 0 ≤ a3 then (if a3 ≤ (a1.length : Int) then ((decide ((w64 (a2 + a3)) ≤ (a1.length : Int)))) else (false)) else (false)) else (false)) else (false))
/-- derrickref01.Put16 -/
def derrickref01_Put16 (a1 : Int) : Str :=
 (strOf [w8 (w16 (Int.tdiv a1 256)), w8 (Int.tmod a1 256)])
/-- derrickref02.low -/
def derrickref02_low.j1 (a1 : Int) (x17 : Bool) : Int :=
 (if x17 = true then (w8 (a1 + 32)) else (a1))
def derrickref02_low (a1 : Int) : Int :=
 (if 65 ≤ a1 then (derrickref02_low.j1 a1 (decide (a1 ≤ 90))) else (derrickref02_low.j1 a1 false))
/-- derrickref02.Labels -/
def derrickref02_Labels.j3 (x501 : Int) (a1 : Str) (l497 : List Str) (cl510 : List Str → Int → Option (List Str × Int)) (x559 : Bool) : Option (List Str × Int) :=
 (if x559 = true then some (([] : List Str), 2) else (if 0 ≤ w64 (x501 + 1) then (if w64 (x501 + 1) ≤ w64 ((w64 (x501 + 1)) + (w64 (bt a1 x501))) then (if w64 ((w64 (x501 + 1)) + (w64 (bt a1 x501))) ≤ (a1.length : Int) then (if (l497.length + 1) * 16 ≤ 140737488355328 then (cl510 (l497 ++ [(a1.drop (w64 (x501 + 1)).toNat).take ((w64 ((w64 (x501 + 1)) + (w64 (bt a1 x501)))).toNat - (w64 (x501 + 1)).toNat)]) (w64 ((w64 (x501 + 1)) + (w64 (bt a1 x501))))) else none) else none) else none) else none))
def derrickref02_Labels.j2 (x501 : Int) (a1 : Str) (l497 : List Str) (cl510 : List Str → Int → Option (List Str × Int)) (x529 : Bool) : Option (List Str × Int) :=
 (if x529 = true then (if 0 ≤ x501 then (if x501 < (a1.length : Int) then (if 63 < (w64 (bt a1 x501)) then (derrickref02_Labels.j3 x501 a1 l497 cl510 true) else (derrickref02_Labels.j3 x501 a1 l497 cl510 (decide ((a1.length : Int) < (w64 ((w64 (x501 + 1)) + (w64 (bt a1 x501)))))))) else none) else none) else (if x501 = (w64 ((a1.length : Int) - 1)) then (if 255 < (a1.length : Int) then some (([] : List Str), 3) else some (l497, 0)) else some (([] : List Str), 2)))
def derrickref02_Labels.l1 (a1 : Str) : Nat → List Str → Int → Option (List Str × Int)
 | 0, _, _ => none
 | kf494 + 1, l497, x501 => (if x501 < (a1.length : Int) then (if 0 ≤ x501 then (derrickref02_Labels.j2 x501 a1 l497 (derrickref02_Labels.l1 a1 kf494) ((bt a1 x501) != 0)) else none) else (derrickref02_Labels.j2 x501 a1 l497 (derrickref02_Labels.l1 a1 kf494) false))
def derrickref02_Labels.f (kf : Nat) (a1 : Str) : Option (List Str × Int) :=
 (derrickref02_Labels.l1 a1 kf ([] : List Str) 0)
/-- derrickref03.known -/
def derrickref03_known.l1 (a1 : RPack) (a6 : Str) : Nat → Int → Option (Int)
 | 0, _ => none
 | kf175 + 1, x177 => (if x177 < (a1.l.length : Int) then (if 0 ≤ x177 then (if ((rd a1.l x177).nm) = a6 then some ((rd a1.l x177).at_) else ((derrickref03_known.l1 a1 a6 kf175) (w64 (x177 + 1)))) else none) else some ((-1)))
def derrickref03_known.f (kf : Nat) (a1 : RPack) (a6 : Str) : Option (Int) :=
 (derrickref03_known.l1 a1 a6 kf 0)
/-- derrickref03.ends -/
def derrickref03_ends.l1 (a1 : Str) : Nat → Int → Option (Bool)
 | 0, _ => none
 | kf103 + 1, x104 => (if x104 < (a1.length : Int) then (if 0 ≤ x104 then (if (bt a1 x104) = 0 then some ((x104 == (w64 ((a1.length : Int) - 1)))) else ((derrickref03_ends.l1 a1 kf103) (w64 ((w64 (x104 + 1)) + (w64 (bt a1 x104)))))) else none) else some (false))
def derrickref03_ends.f (kf : Nat) (a1 : Str) : Option (Bool) :=
 (derrickref03_ends.l1 a1 kf 0)
/-- derrickref03.labels -/
def derrickref03_labels.j2 (x268 : Int) (a1 : Str) (a2 : Int) (cl275 : Int → Option (Str × Int)) (x289 : Bool) : Option (Str × Int) :=
 (if x289 = true then (if 0 ≤ x268 then (if x268 < (a1.length : Int) then (if 192 ≤ (w64 (bt a1 x268)) then (if 0 ≤ a2 then (if a2 ≤ x268 then (if x268 ≤ (a1.length : Int) then some ((a1.drop a2.toNat).take (x268.toNat - a2.toNat), x268) else none) else none) else none) else (if 63 < (w64 (bt a1 x268)) then some (([] : Str), (-1)) else (if (w64 (bt a1 x268)) = 0 then (if 0 ≤ a2 then (if a2 ≤ w64 (x268 + 1) then (if w64 (x268 + 1) ≤ (a1.length : Int) then some ((a1.drop a2.toNat).take ((w64 (x268 + 1)).toNat - a2.toNat), w64 (x268 + 1)) else none) else none) else none) else (cl275 (w64 ((w64 (x268 + 1)) + (w64 (bt a1 x268)))))))) else none) else none) else some (([] : Str), (-1)))
def derrickref03_labels.l1 (a1 : Str) (a2 : Int) : Nat → Int → Option (Str × Int)
 | 0, _ => none
 | kf267 + 1, x268 => (if 0 ≤ x268 then (derrickref03_labels.j2 x268 a1 a2 (derrickref03_labels.l1 a1 a2 kf267) (decide (x268 < (a1.length : Int)))) else (derrickref03_labels.j2 x268 a1 a2 (derrickref03_labels.l1 a1 a2 kf267) false))
def derrickref03_labels.f (kf : Nat) (a1 : Str) (a2 : Int) : Option (Str × Int) :=
 (derrickref03_labels.l1 a1 a2 kf a2)
/-- derrickref04.texts -/
def derrickref04_texts.l1  : Nat → Str → Option (Bool)
 | 0, _ => none
 | kf117 + 1, x118 => (if x118 = ([] : Str) then some (true) else (if 0 < (x118.length : Int) then (if (x118.length : Int) < (w64 (1 + (w64 (bt x118 0)))) then some (false) else (if 0 ≤ w64 (1 + (w64 (bt x118 0))) then (if w64 (1 + (w64 (bt x118 0))) ≤ (x118.length : Int) then ((derrickref04_texts.l1 kf117) (x118.drop (w64 (1 + (w64 (bt x118 0)))).toNat)) else none) else none)) else none))
def derrickref04_texts.f (kf : Nat) (a1 : Str) : Option (Bool) :=
 (if a1 = ([] : Str) then some (false) else (derrickref04_texts.l1 kf a1))
end Go.Proofs.Ytfcaekghpkpjdaa.K
