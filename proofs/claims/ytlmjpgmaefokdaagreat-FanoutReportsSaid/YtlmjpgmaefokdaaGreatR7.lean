/- What is dropped of a fan-out; the program's tidy.
  Walks: copies that are written later; a copy of a fan-out.
  A copy of a fan-out, called anywhere: three new arrays.
  Walks: a target has applied a cycle.
  Walks: a lost target is taken back.
  Walks: the cycles that a target needs, one after the other.
  Walks: the next cycle of a target.
  Walks: sorting a list that is sorted.
  What Push yields; plain Lean: the targets become lost at most once.
  Walks: a cycle is pushed.
  Walks: the examples of the chapter. -/
import Derived.Test.YtlmjpgmaefokdaaGreatR6
section
set_option linter.unusedSimpArgs false
set_option linter.unusedVariables false
namespace Go.Proofs.YtlmjpgmaefokdaaGreat
open Go.Proofs
set_option maxRecDepth 10000
def needB (n : Int) (c : Cyc) : Bool := decide (n ≥ 0) && decide (n < c.num)
def tidyK (n : Int) (ks : List Cyc) : List Cyc := ks.dropWhile fun c => !needB n c
def tidyF (f : Fan) : Fan := ⟨f.limit, tidyK (leastL (-1) f.app f.lost) f.kept, f.app, f.lost⟩
theorem idxP_drop {α : Type} (p : α → Bool) : ∀ (i : Nat) (xs : List α), (idxP p i xs = -1 ∧ xs.dropWhile (fun x => !p x) = []) ∨ ∃ k, k ≤ xs.length ∧ idxP p i xs = ((i + k : Nat) : Int) ∧ xs.dropWhile (fun x => !p x) = xs.drop k
  | i, [] => .inl ⟨rfl, rfl⟩
  | i, x :: xs => by
    rw [idxP, List.dropWhile_cons]
    by_cases h : p x = true
    · exact .inr ⟨0, by omega, by simp [h], by simp [h]⟩
    · rcases idxP_drop p (i + 1) xs with ⟨h1, h2⟩ | ⟨k, h1, h2, h3⟩
      · exact .inl ⟨by simp [h, h1], by simp [h, h2]⟩
      · exact .inr ⟨k + 1, by simpa using h1, by simp only [h, h2]; simp; omega, by simp [h, h3]⟩
theorem c145 (n : Int) (c : Cyc) : Pu Tryz.prog (.fn (.func 145) [] [.cptr (I n)]) [c.av] (B (needB n c)) := by
  refine pu_func Tryz.func145 rfl (by kernel_rfl) (by show _ ≤ 12; simp only [List.length_append, List.length_cons, List.length_nil]; decide) (by simp only [IDF]) (by simp only [IDF, and_tt, implies_true]) (by simp only [IDF, cyc_idf, and_tt, implies_true]) ?_
  rw [Tryz.ntmps145]
  refine wpT_seq ?_
  refine wpT_region (by kernel_rfl) (fun K hK => ?_)
  simp only [↓SP, SX, SW, TY, EN, sv_w, ↓reduceIte, reduceCtorEq, Nat.reduceEqDiff, Nat.reduceAdd, Nat.reduceLeDiff, Nat.reduceLT, cyc_cs, List.cons_append, Cyc.av]
  refine hK _ _ ?_
  clear hK K
  refine wpT_seq ?_
  refine wpT_region (by kernel_rfl) (fun K hK => ?_)
  simp only [↓SP, SX, SW, TY, EN, sv_w, ↓reduceIte, reduceCtorEq, Nat.reduceEqDiff, Nat.reduceAdd, Nat.reduceLeDiff, Nat.reduceLT, cyc_cs, List.cons_append, Cyc.av]
  refine guardO_split (fun hg6 => ?_) (fun hg6 => ?_)
  · skip
    have p6 := hg6
    try simp only [decide_eq_true_eq, decide_eq_false_iff_not, beq_iff_eq, bne_iff_ne, beq_eq_false_iff_ne, bne_eq_false_iff_eq, Bool.not_eq_true', Bool.not_eq_false'] at p6
    simp only [↓SP, SX, SW, TY, EN, sv_w, ↓reduceIte, reduceCtorEq, Nat.reduceEqDiff, Nat.reduceAdd, Nat.reduceLeDiff, Nat.reduceLT, cyc_cs, List.cons_append, Cyc.av, hg6]
    refine hK _ _ ?_
    clear hK K
    refine wpT_ret ⟨.inr rfl, ?_⟩
    show optK (resA _ _ _ [.tmp 3]) _
    simp only [SR, Option.map_some, Option.bind_some, ↓SP, SX, SW, TY, EN, sv_w, ↓reduceIte, reduceCtorEq, Nat.reduceEqDiff, Nat.reduceAdd, Nat.reduceLeDiff, Nat.reduceLT, cyc_cs, List.cons_append, Cyc.av, hg6]
    refine Lend.eq ?_
    congr 1
    unfold needB
    simp_all
    try omega
  · skip
    simp only [Bool.not_true, Bool.not_false] at hg6
    have p6 := hg6
    try simp only [decide_eq_true_eq, decide_eq_false_iff_not, beq_iff_eq, bne_iff_ne, beq_eq_false_iff_ne, bne_eq_false_iff_eq, Bool.not_eq_true', Bool.not_eq_false'] at p6
    simp only [↓SP, SX, SW, TY, EN, sv_w, ↓reduceIte, reduceCtorEq, Nat.reduceEqDiff, Nat.reduceAdd, Nat.reduceLeDiff, Nat.reduceLT, cyc_cs, List.cons_append, Cyc.av, hg6]
    refine hK _ _ ?_
    clear hK K
    refine wpT_ret ⟨.inr rfl, ?_⟩
    show optK (resA _ _ _ [.tmp 3]) _
    simp only [SR, Option.map_some, Option.bind_some, ↓SP, SX, SW, TY, EN, sv_w, ↓reduceIte, reduceCtorEq, Nat.reduceEqDiff, Nat.reduceAdd, Nat.reduceLeDiff, Nat.reduceLT, cyc_cs, List.cons_append, Cyc.av, hg6]
    refine Lend.eq ?_
    congr 1
    unfold needB
    simp_all
    try omega
theorem c79 (f : Fan) (hf : f.ok) (hlen : f.lost.length = f.app.length) : Pu Tryz.prog (.fn (.func 79) [] []) [f.av] (tidyF f).av := by
  refine pu_func Tryz.func79 rfl (by kernel_rfl) (by show _ ≤ 24; simp only [List.length_append, List.length_cons, List.length_nil]; decide) (by simp only [fan_idf]) (by simp only [IDF, and_tt, implies_true]) (by simp only [IDF, fan_idf, and_tt, implies_true]) ?_
  have hk := hf.1
  have hq : ∀ v ∈ f.kept.map Cyc.av, v.cells.length = 5 := fun v hv => by
    obtain ⟨a, _, rfl⟩ := List.mem_map.1 hv
    rfl
  have hcut : ∀ (k : Nat), k ≤ f.kept.length → ∀ g : Nat → Option Ob, opSlice Tryz.prog 46 (.lst (f.kept.map Cyc.av)) (some (I k)) none g = some (.lst ((f.kept.drop k).map Cyc.av)) := fun k h g => by
    rw [slT_lst (P := Tryz.prog) sle46 (c := 5) (by rfl) (by decide) (f.kept.map Cyc.av) (some (I k)) none g (l := k) (u := f.kept.length) rfl (by simp [bnd]) h (by simp) hq, List.take_of_length_le (by simp), List.map_drop]
  rw [Tryz.ntmps79]
  refine wpT_seq ?_
  refine wpT_region (by kernel_rfl) (fun K hK => ?_)
  simp only [↓SP, SX, SW, TY, EN, sv_w, ↓reduceIte, reduceCtorEq, Nat.reduceEqDiff, Nat.reduceAdd, Nat.reduceLeDiff, Nat.reduceLT, Fan.av]
  refine hK _ _ ?_
  clear hK K
  refine wpT_seq ?_
  refine wpT_region (by kernel_rfl) (fun K hK => ?_)
  simp only [↓SP, SX, SW, TY, EN, sv_w, ↓reduceIte, reduceCtorEq, Nat.reduceEqDiff, Nat.reduceAdd, Nat.reduceLeDiff, Nat.reduceLT, Fan.av]
  refine Pu.call (c73 f hf hlen) ?_
  simp only [↓SP, SX, SW, TY, EN, sv_w, ↓reduceIte, reduceCtorEq, Nat.reduceEqDiff, Nat.reduceAdd, Nat.reduceLeDiff, Nat.reduceLT, Fan.av]
  refine hK _ _ ?_
  clear hK K
  refine wpT_seq ?_
  refine wpT_region (by kernel_rfl) (fun K hK => ?_)
  simp only [↓SP, SX, SW, TY, EN, sv_w, ↓reduceIte, reduceCtorEq, Nat.reduceEqDiff, Nat.reduceAdd, Nat.reduceLeDiff, Nat.reduceLT, Fan.av]
  refine hK _ _ ?_
  clear hK K
  refine wpT_seq ?_
  refine wpT_region (by kernel_rfl) (fun K hK => ?_)
  simp only [↓SP, SX, SW, TY, EN, sv_w, ↓reduceIte, reduceCtorEq, Nat.reduceEqDiff, Nat.reduceAdd, Nat.reduceLeDiff, Nat.reduceLT, Fan.av]
  refine Pu.lent (c146 f.kept (.fn (.func 145) [] [.cptr (I (leastL (-1) f.app f.lost))]) (needB (leastL (-1) f.app f.lost)) hk (by simp only [IDF, and_tt]) (fun c _ => c145 _ c)) (.int _ _) (.refl _) (LendL.cons (.refl _) (LendL.cons (Lend.fnL LendL.nil (LendL.cons (Lend.ptr1 (E := 3) (s := 1) (by simp only [↓SP, SX, SW, TY, EN, sv_w, ↓reduceIte, reduceCtorEq, Nat.reduceEqDiff, Nat.reduceAdd, Nat.reduceLeDiff, Nat.reduceLT, Fan.av]) rfl) LendL.nil)) LendL.nil)) ?_
  simp only [↓SP, SX, SW, TY, EN, sv_w, ↓reduceIte, reduceCtorEq, Nat.reduceEqDiff, Nat.reduceAdd, Nat.reduceLeDiff, Nat.reduceLT, Fan.av]
  refine hK _ _ ?_
  clear hK K
  have hdr := idxP_drop (needB (leastL (-1) f.app f.lost)) 0 f.kept
  refine wpT_seq ?_
  refine wpT_seq ?_
  refine wpT_region (by kernel_rfl) (fun K hK => ?_)
  simp only [↓SP, SX, SW, TY, EN, sv_w, ↓reduceIte, reduceCtorEq, Nat.reduceEqDiff, Nat.reduceAdd, Nat.reduceLeDiff, Nat.reduceLT, Fan.av]
  refine hK _ _ ?_
  clear hK K
  refine wpT_if (by rfl) (fun hc14 => ?_) (fun hc14 => ?_)
  · skip
    have p14 := hc14
    try simp only [decide_eq_true_eq, decide_eq_false_iff_not, beq_iff_eq, bne_iff_ne, beq_eq_false_iff_ne, bne_eq_false_iff_eq, Bool.not_eq_true', Bool.not_eq_false'] at p14
    have hx : tidyF f = ⟨f.limit, f.kept.drop f.kept.length, f.app, f.lost⟩ := by
      rcases hdr with ⟨h1, h2⟩ | ⟨k, h1, h2, h3⟩
      · simp only [tidyF, tidyK, h2, List.drop_length]
      · omega
    have hc := hcut f.kept.length (Nat.le_refl _)
    refine wpT_region (by kernel_rfl) (fun K hK => ?_)
    simp only [↓SP, SX, SW, TY, EN, sv_w, ↓reduceIte, reduceCtorEq, Nat.reduceEqDiff, Nat.reduceAdd, Nat.reduceLeDiff, Nat.reduceLT, Fan.av, hc14]
    refine hK _ _ ?_
    clear hK K
    refine wpT_seq ?_
    refine wpT_region (by kernel_rfl) (fun K hK => ?_)
    simp only [↓SP, SX, SW, TY, EN, sv_w, ↓reduceIte, reduceCtorEq, Nat.reduceEqDiff, Nat.reduceAdd, Nat.reduceLeDiff, Nat.reduceLT, Fan.av, hc, Option.map_some, Option.map_none, hc14]
    refine hK _ _ ?_
    clear hK K
    refine wpT_seq ?_
    refine wpT_region (by kernel_rfl) (fun K hK => ?_)
    simp only [↓SP, SX, SW, TY, EN, sv_w, ↓reduceIte, reduceCtorEq, Nat.reduceEqDiff, Nat.reduceAdd, Nat.reduceLeDiff, Nat.reduceLT, Fan.av, hc14]
    refine hK _ _ ?_
    clear hK K
    refine wpT_ret ⟨.inr rfl, ?_⟩
    show optK (resA _ _ _ [.cell 2 49]) _
    simp only [SR, Option.map_some, Option.bind_some, ↓SP, SX, SW, TY, EN, sv_w, ↓reduceIte, reduceCtorEq, Nat.reduceEqDiff, Nat.reduceAdd, Nat.reduceLeDiff, Nat.reduceLT, Fan.av, hc14]
    rw [hx]
    exact .refl _
  · skip
    have p14 := hc14
    try simp only [decide_eq_true_eq, decide_eq_false_iff_not, beq_iff_eq, bne_iff_ne, beq_eq_false_iff_ne, bne_eq_false_iff_eq, Bool.not_eq_true', Bool.not_eq_false'] at p14
    obtain ⟨k, hkl, hki, hx⟩ : ∃ k : Nat, k ≤ f.kept.length ∧ idxP (needB (leastL (-1) f.app f.lost)) 0 f.kept = (k : Int) ∧ tidyF f = ⟨f.limit, f.kept.drop k, f.app, f.lost⟩ := by
      rcases hdr with ⟨h1, h2⟩ | ⟨k, h1, h2, h3⟩
      · omega
      · exact ⟨k, h1, by simpa using h2, by simp only [tidyF, tidyK, h3]⟩
    have hc := hcut k hkl
    rw [hki]
    refine wpT_skip ?_
    refine wpT_seq ?_
    refine wpT_region (by kernel_rfl) (fun K hK => ?_)
    simp only [↓SP, SX, SW, TY, EN, sv_w, ↓reduceIte, reduceCtorEq, Nat.reduceEqDiff, Nat.reduceAdd, Nat.reduceLeDiff, Nat.reduceLT, Fan.av, hc, Option.map_some, Option.map_none, hc14]
    refine hK _ _ ?_
    clear hK K
    refine wpT_seq ?_
    refine wpT_region (by kernel_rfl) (fun K hK => ?_)
    simp only [↓SP, SX, SW, TY, EN, sv_w, ↓reduceIte, reduceCtorEq, Nat.reduceEqDiff, Nat.reduceAdd, Nat.reduceLeDiff, Nat.reduceLT, Fan.av, hc14]
    refine hK _ _ ?_
    clear hK K
    refine wpT_ret ⟨.inr rfl, ?_⟩
    show optK (resA _ _ _ [.cell 2 49]) _
    simp only [SR, Option.map_some, Option.bind_some, ↓SP, SX, SW, TY, EN, sv_w, ↓reduceIte, reduceCtorEq, Nat.reduceEqDiff, Nat.reduceAdd, Nat.reduceLeDiff, Nat.reduceLT, Fan.av, hc14]
    rw [hx]
    exact .refl _
end Go.Proofs.YtlmjpgmaefokdaaGreat
end

section
set_option linter.unusedSimpArgs false
set_option linter.unusedVariables false
namespace Go.Proofs.YtlmjpgmaefokdaaGreat
open Go.Proofs
set_option maxRecDepth 10000
theorem int_okc (xs : List Int) : ∀ e ∈ xs.map I, e.okc = true := fun e he => by
  obtain ⟨a, _, rfl⟩ := List.mem_map.1 he
  rfl
theorem bool_okc (xs : List Bool) : ∀ e ∈ xs.map B, e.okc = true := fun e he => by
  obtain ⟨a, _, rfl⟩ := List.mem_map.1 he
  rfl
theorem cycs_okc (xs : List Cyc) : ∀ e ∈ xs.map Cyc.av, e.okc = true := fun e he => by
  obtain ⟨a, _, rfl⟩ := List.mem_map.1 he
  rfl
theorem cloneIw (y : Int) (ys : List Int) (hl : (y :: ys).length < 4000000000) : NewV Tryz.prog (.fn (.func 133) [] []) [.lst ((y :: ys).map I)] 3 1 ((y :: ys).map I) := by
  refine callV_func Tryz.func133 rfl (by kernel_rfl) (by show _ ≤ 8; simp only [List.length_append, List.length_cons, List.length_nil]; decide) ?_
  have q0 : ∀ v ∈ (I y :: ys.map I), v.cells.length = 1 := by
    intro v hv
    rcases List.mem_cons.1 hv with rfl | hv
    · rfl
    · obtain ⟨a, _, rfl⟩ := List.mem_map.1 hv
      rfl
  have q1 : ys.length + 1 ≤ maxLen := by simp only [maxLen]; simp only [List.length_cons] at hl; omega
  have q2 : (ys.length + 1) * 8 ≤ 140737488355328 := by simp only [List.length_cons] at hl; omega
  rw [Tryz.ntmps133]
  refine wpT_seq ?_
  refine wpT_region (by kernel_rfl) (fun K hK => ?_)
  simp only [↓SP, SX, SW, TY, EN, sv_w, ↓reduceIte, reduceCtorEq, Nat.reduceEqDiff, Nat.reduceAdd, Nat.reduceLeDiff, Nat.reduceLT]
  refine hK _ _ ?_
  clear hK K
  refine wpT_seq ?_
  refine wpT_seq ?_
  refine wpT_isnil (xs := (y :: ys).map I) rfl sle23 (by decide) (fun b hb => ?_)
  obtain rfl := hb (by simp)
  refine wpT_if (by rfl) (fun hc4 => ?_) (fun hc4 => ?_)
  · skip
    have p4 := hc4
    try simp only [decide_eq_true_eq, decide_eq_false_iff_not, beq_iff_eq, bne_iff_ne, beq_eq_false_iff_ne, bne_eq_false_iff_eq, Bool.not_eq_true', Bool.not_eq_false'] at p4
    simp at p4
  · skip
    have p4 := hc4
    try simp only [decide_eq_true_eq, decide_eq_false_iff_not, beq_iff_eq, bne_iff_ne, beq_eq_false_iff_ne, bne_eq_false_iff_eq, Bool.not_eq_true', Bool.not_eq_false'] at p4
    refine wpT_skip ?_
    refine wpT_seq ?_
    refine wpT_region (by kernel_rfl) (fun K hK => ?_)
    simp only [↓SP, SX, SW, TY, EN, sv_w, ↓reduceIte, reduceCtorEq, Nat.reduceEqDiff, Nat.reduceAdd, Nat.reduceLeDiff, Nat.reduceLT, apO_nil0 q0, q1, q2, cells_int, hc4]
    refine hK _ _ ?_
    clear hK K
    refine wpT_ret ⟨.inr rfl, ?_⟩
    show optK (resA _ _ _ [.tmp 2]) _
    simp only [SR, Option.map_some, Option.bind_some, ↓SP, SX, SW, TY, EN, sv_w, ↓reduceIte, reduceCtorEq, Nat.reduceEqDiff, Nat.reduceAdd, Nat.reduceLeDiff, Nat.reduceLT, hc4]
    exact ⟨0, by simp, rfl⟩
theorem cloneINu {xs : List Int} (h0 : 1 ≤ xs.length) (hl : xs.length < 4000000000) : Nu Tryz.prog (.fn (.func 133) [] []) [.lst (xs.map I)] 3 1 (xs.map I) := by
  refine ⟨?_, by simp only [IDF, implies_true], by simp only [IDF, and_tt], by simp only [IDF, and_tt, implies_true]⟩
  cases xs with
  | nil => simp at h0
  | cons y ys => exact cloneIw y ys hl
theorem cloneBw (y : Bool) (ys : List Bool) (hl : (y :: ys).length < 4000000000) : NewV Tryz.prog (.fn (.func 143) [] []) [.lst ((y :: ys).map B)] 4 1 ((y :: ys).map B) := by
  refine callV_func Tryz.func143 rfl (by kernel_rfl) (by show _ ≤ 8; simp only [List.length_append, List.length_cons, List.length_nil]; decide) ?_
  have q0 : ∀ v ∈ (B y :: ys.map B), v.cells.length = 1 := by
    intro v hv
    rcases List.mem_cons.1 hv with rfl | hv
    · rfl
    · obtain ⟨a, _, rfl⟩ := List.mem_map.1 hv
      rfl
  have q1 : ys.length + 1 ≤ maxLen := by simp only [maxLen]; simp only [List.length_cons] at hl; omega
  have q2 : (ys.length + 1) * 1 ≤ 140737488355328 := by simp only [List.length_cons] at hl; omega
  rw [Tryz.ntmps143]
  refine wpT_seq ?_
  refine wpT_region (by kernel_rfl) (fun K hK => ?_)
  simp only [↓SP, SX, SW, TY, EN, sv_w, ↓reduceIte, reduceCtorEq, Nat.reduceEqDiff, Nat.reduceAdd, Nat.reduceLeDiff, Nat.reduceLT]
  refine hK _ _ ?_
  clear hK K
  refine wpT_seq ?_
  refine wpT_seq ?_
  refine wpT_isnil (xs := (y :: ys).map B) rfl sle47 (by decide) (fun b hb => ?_)
  obtain rfl := hb (by simp)
  refine wpT_if (by rfl) (fun hc4 => ?_) (fun hc4 => ?_)
  · skip
    have p4 := hc4
    try simp only [decide_eq_true_eq, decide_eq_false_iff_not, beq_iff_eq, bne_iff_ne, beq_eq_false_iff_ne, bne_eq_false_iff_eq, Bool.not_eq_true', Bool.not_eq_false'] at p4
    simp at p4
  · skip
    have p4 := hc4
    try simp only [decide_eq_true_eq, decide_eq_false_iff_not, beq_iff_eq, bne_iff_ne, beq_eq_false_iff_ne, bne_eq_false_iff_eq, Bool.not_eq_true', Bool.not_eq_false'] at p4
    refine wpT_skip ?_
    refine wpT_seq ?_
    refine wpT_region (by kernel_rfl) (fun K hK => ?_)
    simp only [↓SP, SX, SW, TY, EN, sv_w, ↓reduceIte, reduceCtorEq, Nat.reduceEqDiff, Nat.reduceAdd, Nat.reduceLeDiff, Nat.reduceLT, apO_nil0 q0, q1, q2, cells_bool, hc4]
    refine hK _ _ ?_
    clear hK K
    refine wpT_ret ⟨.inr rfl, ?_⟩
    show optK (resA _ _ _ [.tmp 2]) _
    simp only [SR, Option.map_some, Option.bind_some, ↓SP, SX, SW, TY, EN, sv_w, ↓reduceIte, reduceCtorEq, Nat.reduceEqDiff, Nat.reduceAdd, Nat.reduceLeDiff, Nat.reduceLT, hc4]
    exact ⟨0, by simp, rfl⟩
theorem cloneBNu {xs : List Bool} (h0 : 1 ≤ xs.length) (hl : xs.length < 4000000000) : Nu Tryz.prog (.fn (.func 143) [] []) [.lst (xs.map B)] 4 1 (xs.map B) := by
  refine ⟨?_, by simp only [IDF, implies_true], by simp only [IDF, and_tt], by simp only [IDF, and_tt, implies_true]⟩
  cases xs with
  | nil => simp at h0
  | cons y ys => exact cloneBw y ys hl
def Fan.sm (f : Fan) : Prop := f.kept.length < 4000000000 ∧ f.app.length < 4000000000 ∧ f.lost.length < 4000000000 ∧ ∀ c ∈ f.kept, c.sm
theorem Cyc.sm.ok {c : Cyc} (h : c.sm) : c.ok := ⟨by have := h.1; omega, by have := h.2.1; omega, fun w hw => by have := h.2.2 w hw; simp only [Wr.sm] at this; simp only [Wr.ok]; omega⟩
theorem Fan.sm.ok {f : Fan} (h : f.sm) : f.ok := ⟨by have := h.1; omega, by have := h.2.1; omega, by have := h.2.2.1; omega, fun c hc => (h.2.2.2 c hc).ok⟩
theorem c77 (f : Fan) (hf : f.sm) (h1 : 1 ≤ f.app.length) (h2 : 1 ≤ f.lost.length) : CallV Tryz.prog (.fn (.func 77) [] []) [f.av] (Hp.empty 0) fun v h => ∃ i j k, v = .agg [I f.limit, .sl k f.kept.length 0 f.kept.length, .sl i f.app.length 0 f.app.length, .sl j f.lost.length 0 f.lost.length] ∧ (h.get i = some (.arr 3 1 (f.app.map I)) ∧ h.get j = some (.arr 4 1 (f.lost.map B)) ∧ h.get k = some (.arr 52 5 (f.kept.map Cyc.av))) ∧ i ≠ j ∧ i ≠ k ∧ j ≠ k := by
  refine callV_func Tryz.func77 rfl (by kernel_rfl) (by show _ ≤ 31; simp only [List.length_append, List.length_cons, List.length_nil]; decide) ?_
  have hk := hf.1
  rw [Tryz.ntmps77]
  refine wpT_seq ?_
  refine wpT_region (by kernel_rfl) (fun K hK => ?_)
  simp only [↓SP, SX, SW, TY, EN, sv_w, ↓reduceIte, reduceCtorEq, Nat.reduceEqDiff, Nat.reduceAdd, Nat.reduceLeDiff, Nat.reduceLT, Fan.av]
  refine hK _ _ ?_
  clear hK K
  refine wpT_seq ?_
  refine wpT_drawn [(0, 4), (1, 4), (4, 5), (4, 6), (0, 7), (1, 7), (0, 9), (1, 9), (2, 9), (3, 9), (4, 9), (5, 9), (6, 9), (7, 9)] mixed (by kernel_rfl) (m := 11) rfl (fun K hK => ?_)
  simp only [↓SP, SX, SW, TY, EN, sv_w, ↓reduceIte, reduceCtorEq, Nat.reduceEqDiff, Nat.reduceAdd, Nat.reduceLeDiff, Nat.reduceLT, Fan.av]
  refine Nu.callD (cloneINu h1 hf.2.1) ?_
  simp only [↓SP, SX, SW, TY, EN, sv_w, ↓reduceIte, reduceCtorEq, Nat.reduceEqDiff, Nat.reduceAdd, Nat.reduceLeDiff, Nat.reduceLT, Fan.av]
  refine Nu.callD (cloneBNu h2 hf.2.2.1) ?_
  simp only [↓SP, SX, SW, TY, EN, sv_w, ↓reduceIte, reduceCtorEq, Nat.reduceEqDiff, Nat.reduceAdd, Nat.reduceLeDiff, Nat.reduceLT, Fan.av]
  refine hK _ _ ?_
  clear hK K
  refine wpT_seq ?_
  refine wpT_seq ?_
  refine wpT_region (by kernel_rfl) (fun K hK => ?_)
  simp only [↓SP, SX, SW, TY, EN, sv_w, ↓reduceIte, reduceCtorEq, Nat.reduceEqDiff, Nat.reduceAdd, Nat.reduceLeDiff, Nat.reduceLT, Fan.av]
  refine hK _ _ ?_
  clear hK K
  refine wpT_block ?_
  refine wpT_loop ?_
  refine wpT_nilcell 11 1 52 5 (by simp only [↓SP, SX, SW, TY, EN, sv_w, ↓reduceIte, reduceCtorEq, Nat.reduceEqDiff, Nat.reduceAdd, Nat.reduceLeDiff, Nat.reduceLT, Fan.av]; rfl) (by rfl) (by rfl) ?_
  refine wpT_keep5 (i := 1) (j := 6) (k := 9) (l := 11) (m := 13) (o := .arr 49 4 [.agg [I 0, .nil0, .nil0, .nil0]]) (q := .arr 3 1 (f.app.map I)) (r := .arr 4 1 (f.lost.map B)) (s := .arr 49 4 [.agg [I f.limit, .sl 13 0 0 0, .sl 6 f.app.length 0 f.app.length, .sl 9 f.lost.length 0 f.lost.length]]) (u := .arr 52 5 []) (by simp only [↓SP, SX, SW, TY, EN, sv_w, ↓reduceIte, reduceCtorEq, Nat.reduceEqDiff, Nat.reduceAdd, Nat.reduceLeDiff, Nat.reduceLT, Fan.av]) (by simp only [↓SP, SX, SW, TY, EN, sv_w, ↓reduceIte, reduceCtorEq, Nat.reduceEqDiff, Nat.reduceAdd, Nat.reduceLeDiff, Nat.reduceLT, Fan.av]) (by simp only [↓SP, SX, SW, TY, EN, sv_w, ↓reduceIte, reduceCtorEq, Nat.reduceEqDiff, Nat.reduceAdd, Nat.reduceLeDiff, Nat.reduceLT, Fan.av]) (by simp only [↓SP, SX, SW, TY, EN, sv_w, ↓reduceIte, reduceCtorEq, Nat.reduceEqDiff, Nat.reduceAdd, Nat.reduceLeDiff, Nat.reduceLT, Fan.av]) (by simp only [↓SP, SX, SW, TY, EN, sv_w, ↓reduceIte, reduceCtorEq, Nat.reduceEqDiff, Nat.reduceAdd, Nat.reduceLeDiff, Nat.reduceLT, Fan.av]) ?_
  refine wpT_ind (fun (i : Nat) tm' h' => (∃ m, h' = Hp.of [(1, .arr 49 4 [.agg [I 0, .nil0, .nil0, .nil0]]), (6, .arr 3 1 (f.app.map I)), (9, .arr 4 1 (f.lost.map B)), (11, .arr 49 4 [.agg [I f.limit, .sl 13 i 0 i, .sl 6 f.app.length 0 f.app.length, .sl 9 f.lost.length 0 f.lost.length]]), (13, .arr 52 5 ((f.kept.take i).map Cyc.av))] (m + 14)) ∧ tm' 2 = .ptr 1 1 0 0 ∧ tm' 3 = .ptr 11 1 0 0 ∧ tm' 16 = .lst (f.kept.map Cyc.av) ∧ tm' 17 = I f.kept.length ∧ tm' 18 = I i ∧ i ≤ f.kept.length) (fun i => f.kept.length - i) ?_ 0 ⟨⟨0, rfl⟩, rfl, rfl, rfl, rfl, rfl, by omega⟩
  rintro i tm' _ ⟨⟨m, rfl⟩, e2, e3, e16, e17, e18, hi⟩ IH
  refine wpT_inLoop ?_
  refine wpT_seq ?_
  refine wpT_region (by kernel_rfl) (fun K hK => ?_)
  simp only [↓SP, SX, SW, TY, EN, sv_w, ↓reduceIte, reduceCtorEq, Nat.reduceEqDiff, Nat.reduceAdd, Nat.reduceLeDiff, Nat.reduceLT, Fan.av, e17, e18]
  refine hK _ _ ?_
  clear hK K
  refine wpT_seq ?_
  refine wpT_if (by rfl) (fun hc19 => ?_) (fun hc19 => ?_)
  · skip
    have p19 := hc19
    try simp only [decide_eq_true_eq, decide_eq_false_iff_not, beq_iff_eq, bne_iff_ne, beq_eq_false_iff_ne, bne_eq_false_iff_eq, Bool.not_eq_true', Bool.not_eq_false'] at p19
    have hlt : i < f.kept.length := by omega
    have hg := at_map (f := Cyc.av) hlt
    have q1 : i + 1 ≤ maxLen := by simp only [maxLen]; omega
    have q2 : (i + 1) * 72 ≤ 140737488355328 := by omega
    have q4 : (f.kept.take (i + 1)).map Cyc.av = (f.kept.take i).map Cyc.av ++ [f.kept[i].av] := by rw [List.take_add_one, List.getElem?_eq_getElem hlt, List.map_append]; rfl
    refine wpT_skip ?_
    refine wpT_seq ?_
    refine wpT_block ?_
    refine wpT_seq ?_
    refine wpT_region (by kernel_rfl) (fun K hK => ?_)
    simp only [↓SP, SX, SW, TY, EN, sv_w, ↓reduceIte, reduceCtorEq, Nat.reduceEqDiff, Nat.reduceAdd, Nat.reduceLeDiff, Nat.reduceLT, Fan.av, e16, e18, hg, hc19]
    refine hK _ _ ?_
    clear hK K
    refine wpT_drawn [(0, 3), (1, 3), (0, 4), (1, 4)] mixed (by kernel_rfl) (m := 8) rfl (fun K hK => ?_)
    simp only [↓SP, SX, SW, TY, EN, sv_w, ↓reduceIte, reduceCtorEq, Nat.reduceEqDiff, Nat.reduceAdd, Nat.reduceLeDiff, Nat.reduceLT, Fan.av, e3, q1, q2, List.length_take, Nat.min_eq_left hi, List.cons_append, List.mem_singleton, bsO_one (v := f.kept[i].av) (c := 5) rfl rfl, hc19]
    refine Pu.callD (c78 f.kept[i] (hf.2.2.2 _ (List.getElem_mem hlt))) ?_
    simp only [↓SP, SX, SW, TY, EN, sv_w, ↓reduceIte, reduceCtorEq, Nat.reduceEqDiff, Nat.reduceAdd, Nat.reduceLeDiff, Nat.reduceLT, Fan.av, e3, q1, q2, List.length_take, Nat.min_eq_left hi, List.cons_append, List.mem_singleton, bsO_one (v := f.kept[i].av) (c := 5) rfl rfl, hc19]
    refine hK _ _ ?_
    clear hK K
    refine wpT_inBlock ?_
    refine wpT_region (by kernel_rfl) (fun K hK => ?_)
    simp only [↓SP, SX, SW, TY, EN, sv_w, ↓reduceIte, reduceCtorEq, Nat.reduceEqDiff, Nat.reduceAdd, Nat.reduceLeDiff, Nat.reduceLT, Fan.av, e18, wrap64 (x := (i : Int) + 1) (by omega) (by omega), hc19]
    refine hK _ _ ?_
    clear hK K
    refine wpT_keep5 (i := 1) (j := 6) (k := 9) (l := 11) (m := 13) (o := .arr 49 4 [.agg [I 0, .nil0, .nil0, .nil0]]) (q := .arr 3 1 (f.app.map I)) (r := .arr 4 1 (f.lost.map B)) (s := .arr 49 4 [.agg [I f.limit, .sl 13 (i + 1) 0 (i + 1), .sl 6 f.app.length 0 f.app.length, .sl 9 f.lost.length 0 f.lost.length]]) (u := .arr 52 5 ((f.kept.take (i + 1)).map Cyc.av)) (by simp only [↓SP, SX, SW, TY, EN, sv_w, ↓reduceIte, reduceCtorEq, Nat.reduceEqDiff, Nat.reduceAdd, Nat.reduceLeDiff, Nat.reduceLT, Fan.av]) (by simp only [↓SP, SX, SW, TY, EN, sv_w, ↓reduceIte, reduceCtorEq, Nat.reduceEqDiff, Nat.reduceAdd, Nat.reduceLeDiff, Nat.reduceLT, Fan.av]) (by simp only [↓SP, SX, SW, TY, EN, sv_w, ↓reduceIte, reduceCtorEq, Nat.reduceEqDiff, Nat.reduceAdd, Nat.reduceLeDiff, Nat.reduceLT, Fan.av]) (by simp only [↓SP, SX, SW, TY, EN, sv_w, ↓reduceIte, reduceCtorEq, Nat.reduceEqDiff, Nat.reduceAdd, Nat.reduceLeDiff, Nat.reduceLT, Fan.av]) (by simp only [↓SP, SX, SW, TY, EN, sv_w, ↓reduceIte, reduceCtorEq, Nat.reduceEqDiff, Nat.reduceAdd, Nat.reduceLeDiff, Nat.reduceLT, Fan.av, q4]) ?_
    refine IH (i + 1) _ _ (by omega) ⟨⟨_, rfl⟩, by simp only [↓SP, SX, SW, TY, EN, sv_w, ↓reduceIte, reduceCtorEq, Nat.reduceEqDiff, Nat.reduceAdd, Nat.reduceLeDiff, Nat.reduceLT, Fan.av, e2], by simp only [↓SP, SX, SW, TY, EN, sv_w, ↓reduceIte, reduceCtorEq, Nat.reduceEqDiff, Nat.reduceAdd, Nat.reduceLeDiff, Nat.reduceLT, Fan.av, e3], by simp only [↓SP, SX, SW, TY, EN, sv_w, ↓reduceIte, reduceCtorEq, Nat.reduceEqDiff, Nat.reduceAdd, Nat.reduceLeDiff, Nat.reduceLT, Fan.av, e16], by simp only [↓SP, SX, SW, TY, EN, sv_w, ↓reduceIte, reduceCtorEq, Nat.reduceEqDiff, Nat.reduceAdd, Nat.reduceLeDiff, Nat.reduceLT, Fan.av, e17], by simp only [↓SP, SX, SW, TY, EN, sv_w, ↓reduceIte, reduceCtorEq, Nat.reduceEqDiff, Nat.reduceAdd, Nat.reduceLeDiff, Nat.reduceLT, Fan.av, Int.natCast_add, Int.cast_ofNat_Int], by omega⟩
  · skip
    have p19 := hc19
    try simp only [decide_eq_true_eq, decide_eq_false_iff_not, beq_iff_eq, bne_iff_ne, beq_eq_false_iff_ne, bne_eq_false_iff_eq, Bool.not_eq_true', Bool.not_eq_false'] at p19
    have hi2 : i = f.kept.length := by omega
    subst hi2
    refine wpT_exit rfl ?_
    refine wpT_seq ?_
    refine wpT_region (by kernel_rfl) (fun K hK => ?_)
    simp only [↓SP, SX, SW, TY, EN, sv_w, ↓reduceIte, reduceCtorEq, Nat.reduceEqDiff, Nat.reduceAdd, Nat.reduceLeDiff, Nat.reduceLT, Fan.av, e2, e3, hc19]
    refine hK _ _ ?_
    clear hK K
    refine wpT_ret ⟨.inr rfl, ?_⟩
    show optK (resA _ _ _ [.cell 2 49]) _
    simp only [SR, Option.map_some, Option.bind_some, ↓SP, SX, SW, TY, EN, sv_w, ↓reduceIte, reduceCtorEq, Nat.reduceEqDiff, Nat.reduceAdd, Nat.reduceLeDiff, Nat.reduceLT, Fan.av, hc19]
    simp only [↓SP, SX, SW, TY, EN, sv_w, ↓reduceIte, reduceCtorEq, Nat.reduceEqDiff, Nat.reduceAdd, Nat.reduceLeDiff, Nat.reduceLT, Fan.av, SR, Option.map_some, Option.bind_some, e2]
    exact ⟨6, 9, 13, rfl, ⟨by simp only [↓SP, SX, SW, TY, EN, sv_w, ↓reduceIte, reduceCtorEq, Nat.reduceEqDiff, Nat.reduceAdd, Nat.reduceLeDiff, Nat.reduceLT, Fan.av], by simp only [↓SP, SX, SW, TY, EN, sv_w, ↓reduceIte, reduceCtorEq, Nat.reduceEqDiff, Nat.reduceAdd, Nat.reduceLeDiff, Nat.reduceLT, Fan.av], by simp only [↓SP, SX, SW, TY, EN, sv_w, ↓reduceIte, reduceCtorEq, Nat.reduceEqDiff, Nat.reduceAdd, Nat.reduceLeDiff, Nat.reduceLT, Fan.av, List.take_length]⟩, by omega, by omega, by omega⟩
end Go.Proofs.YtlmjpgmaefokdaaGreat
end

section
set_option linter.unusedSimpArgs false
set_option linter.unusedVariables false
namespace Go.Proofs.YtlmjpgmaefokdaaGreat
open Go.Proofs
set_option maxRecDepth 10000
theorem cop_frame {f : Fan} {fid : FuncId} (hp : CallV Tryz.prog (.fn (.func fid) [] []) [f.av] (Hp.empty 0) fun v h => ∃ i j k, v = .agg [I f.limit, .sl k f.kept.length 0 f.kept.length, .sl i f.app.length 0 f.app.length, .sl j f.lost.length 0 f.lost.length] ∧ (h.get i = some (.arr 3 1 (f.app.map I)) ∧ h.get j = some (.arr 4 1 (f.lost.map B)) ∧ h.get k = some (.arr 52 5 (f.kept.map Cyc.av))) ∧ i ≠ j ∧ i ≠ k ∧ j ≠ k) {h : Hp} {Kv : AV → Hp → Prop}
    (hk : Kv (.agg [I f.limit, .sl h.nx f.kept.length 0 f.kept.length, .sl (h.nx + 1) f.app.length 0 f.app.length, .sl (h.nx + 2) f.lost.length 0 f.lost.length]) (((h.add (.arr 52 5 (f.kept.map Cyc.av))).add (.arr 3 1 (f.app.map I))).add (.arr 4 1 (f.lost.map B)))) :
    CallV Tryz.prog (.fn (.func fid) [] []) [f.av] h Kv := by
  intro X w cf cargs H hfv hargs
  let l : List (Nat × Ob) := [(h.nx, .arr 52 5 (f.kept.map Cyc.av)), (h.nx + 1, .arr 3 1 (f.app.map I)), (h.nx + 2, .arr 4 1 (f.lost.map B))]
  have hpl : h.plus l (h.nx + 3) = ((h.add (.arr 52 5 (f.kept.map Cyc.av))).add (.arr 3 1 (f.app.map I))).add (.arr 4 1 (f.lost.map B)) := by
    unfold Hp.plus Hp.add
    congr 1
    funext j
    simp only [l, List.find?_cons, List.find?_nil]
    have b1 : (h.nx == h.nx + 1) = false := by simp
    have b2 : (h.nx == h.nx + 2) = false := by simp
    have b3 : (h.nx + 1 == h.nx + 2) = false := by simp
    by_cases e1 : j = h.nx
    · subst e1
      have c1 : ¬ h.nx = h.nx + 1 + 1 := by omega
      have c2 : ¬ h.nx = h.nx + 1 := by omega
      simp only [beq_self_eq_true, if_neg c1, if_neg c2, if_true]
    · by_cases e2 : j = h.nx + 1
      · subst e2
        have c1 : ¬ h.nx + 1 = h.nx + 1 + 1 := by omega
        simp only [b1, beq_self_eq_true, if_neg c1, if_true]
      · by_cases e3 : j = h.nx + 1 + 1
        · subst e3
          simp only [b2, b3, beq_self_eq_true, if_true]
        · have b1 : (h.nx == j) = false := by simpa using fun e => e1 e.symm
          have b2 : (h.nx + 1 == j) = false := by simpa using fun e => e2 e.symm
          have b3 : (h.nx + 2 == j) = false := by simpa using fun e => e3 e.symm
          simp only [b1, b2, b3, e1, e2, e3, if_false]
  refine (CallV.rename (r := .agg [I f.limit, .sl h.nx f.kept.length 0 f.kept.length, .sl (h.nx + 1) f.app.length 0 f.app.length, .sl (h.nx + 2) f.lost.length 0 f.lost.length]) hp l ?_ ?_ (by simp only [IDF, and_tt]) (by simp only [IDF, fan_idf, and_tt]) (nx := h.nx + 3) (by omega) (by simp [l]) H (fun p hp hu => ?_) hfv hargs).mono ?_
  · rintro v g ⟨i, j, k, rfl, ⟨g1, g2, g3⟩, n1, n2, n3⟩
    refine ⟨fun id => if id = h.nx then k else if id = h.nx + 1 then i else j, ?_, ?_, ?_⟩
    · simp [l, g1, g2, g3]
    · have mk : ∀ (id t o n q : Nat), (∃ p ∈ l, p.1 = id) → (if id = h.nx then k else if id = h.nx + 1 then i else j) = q → Ren (fun id => ∃ p ∈ l, p.1 = id) (fun id => if id = h.nx then k else if id = h.nx + 1 then i else j) (.sl q t o n) (.sl id t o n) := by
        rintro id t o n q hm rfl
        exact .sl id t o n hm
      have hs : ∀ {a b : AV} {xs ys : List AV}, Ren (fun id => ∃ p ∈ l, p.1 = id) (fun id => if id = h.nx then k else if id = h.nx + 1 then i else j) a b → (∀ (m : Nat) x y, xs[m]? = some x → ys[m]? = some y → Ren (fun id => ∃ p ∈ l, p.1 = id) (fun id => if id = h.nx then k else if id = h.nx + 1 then i else j) x y) →
          ∀ (m : Nat) x y, (a :: xs)[m]? = some x → (b :: ys)[m]? = some y → Ren (fun id => ∃ p ∈ l, p.1 = id) (fun id => if id = h.nx then k else if id = h.nx + 1 then i else j) x y := by
        intro a b xs ys q1 q2 m x y hx hy
        cases m with
        | zero => simp at hx hy; subst hx; subst hy; exact q1
        | succ m => exact q2 m x y (by simpa using hx) (by simpa using hy)
      refine .agg _ _ rfl (hs (.idf _ (.int _ _)) (hs (mk _ _ _ _ _ (by simp [l]) (by simp)) (hs (mk _ _ _ _ _ (by simp [l]) (by simp)) (hs (mk _ _ _ _ _ (by simp [l]) (by simp)) (fun m x y hx => by simp at hx)))))
    · simp [l]
      refine ⟨⟨fun e => (n2 e.symm).elim, fun e => (n3 e.symm).elim⟩, ⟨fun e => (n2 e).elim, fun e => (n1 e).elim⟩, fun e => (n3 e).elim, fun e => (n1 e.symm).elim⟩
  · intro p hp
    simp only [l, List.mem_cons, List.not_mem_nil, or_false] at hp
    rcases hp with rfl | rfl | rfl
    · simp only [ObIdf, IDF, cyc_idf, implies_true]
    · simp only [ObIdf, IDF, implies_true]
    · simp only [ObIdf, IDF, implies_true]
  · have := H.lt _ hu
    simp only [l, List.mem_cons, List.not_mem_nil, or_false] at hp
    rcases hp with rfl | rfl | rfl <;> simp only at this <;> omega
  · rintro c w' ⟨X', q1, q2, q3, q4⟩
    rw [hpl] at q3
    exact ⟨X', _, _, hk, q1, q2, q3⟩
theorem copied_call {f : Fan} (hf : f.sm) (h1 : 1 ≤ f.app.length) (h2 : 1 ≤ f.lost.length) {h : Hp} {Kv : AV → Hp → Prop}
    (hk : Kv (.agg [I f.limit, .sl h.nx f.kept.length 0 f.kept.length, .sl (h.nx + 1) f.app.length 0 f.app.length, .sl (h.nx + 2) f.lost.length 0 f.lost.length]) (((h.add (.arr 52 5 (f.kept.map Cyc.av))).add (.arr 3 1 (f.app.map I))).add (.arr 4 1 (f.lost.map B)))) :
    CallV Tryz.prog (.fn (.func 77) [] []) [f.av] h Kv := cop_frame (c77 f hf h1 h2) hk
end Go.Proofs.YtlmjpgmaefokdaaGreat
end

section
set_option linter.unusedSimpArgs false
set_option linter.unusedVariables false
namespace Go.Proofs.YtlmjpgmaefokdaaGreat
open Go.Proofs
set_option maxRecDepth 10000
def appliedE (f : Fan) (t n : Int) : Int :=
  if existsE f t ≠ 0 then existsE f t else if f.lost.getD t.toNat false = true then 17 else if n < f.app.getD t.toNat 0 then 2 else
  if n ≠ f.app.getD t.toNat 0 ∧ numIn n f.kept = false then 15 else 0
def appliedF (f : Fan) (t n : Int) : Fan := if appliedE f t n ≠ 0 then fan0 else tidyF ⟨f.limit, f.kept, f.app.set t.toNat n, f.lost⟩
theorem appliedF_err {f : Fan} {t n e : Int} (h : appliedE f t n = e) (h0 : e ≠ 0) : appliedF f t n = fan0 := if_pos (by omega)
theorem appliedF_ok {f : Fan} {t n : Int} (h : appliedE f t n = 0) : appliedF f t n = tidyF ⟨f.limit, f.kept, f.app.set t.toNat n, f.lost⟩ := if_neg (by omega)
theorem app_set {h : Hp} {nid id : Nat} {o : Ob} : h.app nid (.set id o) = h.set id o := rfl
theorem exists_ok {f : Fan} {t : Int} (h : existsE f t = 0) : chkF f = 0 ∧ 0 ≤ t ∧ t < f.app.length := by
  unfold existsE at h
  split at h
  · omega
  · split at h
    · omega
    · omega
theorem getD_at {α : Type} {xs : List α} {k : Nat} {d : α} (h : k < xs.length) : xs.getD ((k : Int).toNat) d = xs[k] := by simp [h]
theorem chkF_ge {f : Fan} (h : chkF f = 0) : 1 ≤ f.app.length ∧ ∀ x ∈ f.app, 0 ≤ x := by
  unfold chkF at h
  split at h
  · omega
  · rename_i h1
    split at h
    · omega
    · split at h
      · omega
      · rename_i h3
        exact ⟨by omega, chkF_app h1 (by omega)⟩
theorem fan_lendL {g : Nat → Option Ob} {l : Int} {ks : List Cyc} {ax : List Int} {bs : List Bool} {i j k : Nat} {a b c : Nat} (hk : g k = some (.arr 52 5 (ks.map Cyc.av))) (hi : g i = some (.arr 3 1 (ax.map I))) (hj : g j = some (.arr 4 1 (bs.map B))) (ha : ks.length = a) (hb : ax.length = b) (hc : bs.length = c) :
    LendL g [I l, .sl k a 0 a, .sl i b 0 b, .sl j c 0 c] [I l, .lst (ks.map Cyc.av), .lst (ax.map I), .lst (bs.map B)] :=
  LendL.cons (.refl _) (LendL.cons (Lend.sl0 hk (by simpa using ha) (cycs_okc _)) (LendL.cons (Lend.sl0 hi (by simpa using hb) (int_okc _)) (LendL.cons (Lend.sl0 hj (by simpa using hc) (bool_okc _)) LendL.nil)))
theorem c31 (f : Fan) (t n : Int) (hf : f.sm) : Pu Tryz.prog (.fn (.func 31) [] []) [f.av, I t, I n] (.tup [(appliedF f t n).av, I (appliedE f t n)]) := by
  refine pu_func Tryz.func31 rfl (by kernel_rfl) (by show _ ≤ 57; simp only [List.length_append, List.length_cons, List.length_nil]; decide) (by simp only [IDF, fan_idf, and_tt]) (by simp only [IDF, and_tt, implies_true]) (by simp only [IDF, fan_idf, and_tt, implies_true]) ?_
  rw [Tryz.ntmps31]
  refine wpT_seq ?_
  refine wpT_region (by kernel_rfl) (fun K hK => ?_)
  simp only [↓SP, SX, SW, TY, EN, sv_w, ↓reduceIte, reduceCtorEq, Nat.reduceEqDiff, Nat.reduceAdd, Nat.reduceLeDiff, Nat.reduceLT, Fan.av]
  refine hK _ _ ?_
  clear hK K
  refine wpT_seq ?_
  refine wpT_seq ?_
  refine wpT_region (by kernel_rfl) (fun K hK => ?_)
  simp only [↓SP, SX, SW, TY, EN, sv_w, ↓reduceIte, reduceCtorEq, Nat.reduceEqDiff, Nat.reduceAdd, Nat.reduceLeDiff, Nat.reduceLT, Fan.av]
  refine Pu.call (c89 f t hf.ok) ?_
  simp only [↓SP, SX, SW, TY, EN, sv_w, ↓reduceIte, reduceCtorEq, Nat.reduceEqDiff, Nat.reduceAdd, Nat.reduceLeDiff, Nat.reduceLT, Fan.av]
  refine hK _ _ ?_
  clear hK K
  refine wpT_seq ?_
  refine wpT_region (by kernel_rfl) (fun K hK => ?_)
  simp only [↓SP, SX, SW, TY, EN, sv_w, ↓reduceIte, reduceCtorEq, Nat.reduceEqDiff, Nat.reduceAdd, Nat.reduceLeDiff, Nat.reduceLT, Fan.av]
  refine hK _ _ ?_
  clear hK K
  refine wpT_if (by rfl) (fun hc14 => ?_) (fun hc14 => ?_)
  · skip
    have p14 := hc14
    try simp only [decide_eq_true_eq, decide_eq_false_iff_not, beq_iff_eq, bne_iff_ne, beq_eq_false_iff_ne, bne_eq_false_iff_eq, Bool.not_eq_true', Bool.not_eq_false'] at p14
    have hx : appliedE f t n = existsE f t := if_pos p14
    have hy : appliedF f t n = fan0 := appliedF_err hx p14
    refine wpT_seq ?_
    refine wpT_region (by kernel_rfl) (fun K hK => ?_)
    simp only [↓SP, SX, SW, TY, EN, sv_w, ↓reduceIte, reduceCtorEq, Nat.reduceEqDiff, Nat.reduceAdd, Nat.reduceLeDiff, Nat.reduceLT, Fan.av, hc14]
    refine hK _ _ ?_
    clear hK K
    refine wpT_ret ⟨.inr rfl, ?_⟩
    show optK (resA _ _ _ [.cell 6 49, .tmp 7]) _
    simp only [SR, Option.map_some, Option.bind_some, ↓SP, SX, SW, TY, EN, sv_w, ↓reduceIte, reduceCtorEq, Nat.reduceEqDiff, Nat.reduceAdd, Nat.reduceLeDiff, Nat.reduceLT, Fan.av, hc14]
    rw [hy, hx]
    first
      | exact Lend.tupL (LendL.cons fan0_lend (LendL.cons (.refl _) LendL.nil))
      | exact .refl _
  · skip
    have p14 := hc14
    try simp only [decide_eq_true_eq, decide_eq_false_iff_not, beq_iff_eq, bne_iff_ne, beq_eq_false_iff_ne, bne_eq_false_iff_eq, Bool.not_eq_true', Bool.not_eq_false'] at p14
    have h14 : ¬ existsE f t ≠ 0 := by omega
    obtain ⟨hc, ht0, htl⟩ := exists_ok (f := f) (t := t) (by omega)
    have hlen := chkF_len hc
    obtain ⟨ha1, ha0⟩ := chkF_ge hc
    obtain ⟨k, rfl⟩ := Int.eq_ofNat_of_zero_le ht0
    have hk : k < f.app.length := by omega
    have hk' : k < f.lost.length := by omega
    have hg := at_map (f := I) hk
    have hg' := at_map (f := B) hk'
    have hA := getD_at (d := 0) hk
    have hL := getD_at (d := false) hk'
    refine wpT_skip ?_
    refine wpT_seq ?_
    refine wpT_block ?_
    refine wpT_seq ?_
    refine wpT_region (by kernel_rfl) (fun K hK => ?_)
    simp only [↓SP, SX, SW, TY, EN, sv_w, ↓reduceIte, reduceCtorEq, Nat.reduceEqDiff, Nat.reduceAdd, Nat.reduceLeDiff, Nat.reduceLT, Fan.av, hg', hc14]
    refine hK _ _ ?_
    clear hK K
    refine wpT_if (by rfl) (fun hc17 => ?_) (fun hc17 => ?_)
    · skip
      have p17 := hc17
      try simp only [decide_eq_true_eq, decide_eq_false_iff_not, beq_iff_eq, bne_iff_ne, beq_eq_false_iff_ne, bne_eq_false_iff_eq, Bool.not_eq_true', Bool.not_eq_false'] at p17
      have hx : appliedE f k n = 17 := by rw [appliedE, if_neg h14, if_pos (by rw [hL]; exact p17)]
      have hy : appliedF f k n = fan0 := appliedF_err hx (by omega)
      refine wpT_seq ?_
      refine wpT_region (by kernel_rfl) (fun K hK => ?_)
      simp only [↓SP, SX, SW, TY, EN, sv_w, ↓reduceIte, reduceCtorEq, Nat.reduceEqDiff, Nat.reduceAdd, Nat.reduceLeDiff, Nat.reduceLT, Fan.av, hc14, hc17]
      refine hK _ _ ?_
      clear hK K
      refine wpT_ret ⟨.inr rfl, ?_⟩
      show optK (resA _ _ _ [.cell 6 49, .tmp 7]) _
      simp only [SR, Option.map_some, Option.bind_some, ↓SP, SX, SW, TY, EN, sv_w, ↓reduceIte, reduceCtorEq, Nat.reduceEqDiff, Nat.reduceAdd, Nat.reduceLeDiff, Nat.reduceLT, Fan.av, hc14, hc17]
      rw [hy, hx]
      first
        | exact Lend.tupL (LendL.cons fan0_lend (LendL.cons (.refl _) LendL.nil))
        | exact .refl _
    · skip
      have p17 := hc17
      try simp only [decide_eq_true_eq, decide_eq_false_iff_not, beq_iff_eq, bne_iff_ne, beq_eq_false_iff_ne, bne_eq_false_iff_eq, Bool.not_eq_true', Bool.not_eq_false'] at p17
      have h17 : ¬ f.lost.getD (k : Int).toNat false = true := by rw [hL]; simp_all
      refine wpT_seq ?_
      refine wpT_region (by kernel_rfl) (fun K hK => ?_)
      simp only [↓SP, SX, SW, TY, EN, sv_w, ↓reduceIte, reduceCtorEq, Nat.reduceEqDiff, Nat.reduceAdd, Nat.reduceLeDiff, Nat.reduceLT, Fan.av, hg, hc14, hc17]
      refine hK _ _ ?_
      clear hK K
      refine wpT_if (by rfl) (fun hc24 => ?_) (fun hc24 => ?_)
      · skip
        have p24 := hc24
        try simp only [decide_eq_true_eq, decide_eq_false_iff_not, beq_iff_eq, bne_iff_ne, beq_eq_false_iff_ne, bne_eq_false_iff_eq, Bool.not_eq_true', Bool.not_eq_false'] at p24
        have hx : appliedE f k n = 2 := by rw [appliedE, if_neg h14, if_neg h17, if_pos (by rw [hA]; exact p24)]
        have hy : appliedF f k n = fan0 := appliedF_err hx (by omega)
        refine wpT_seq ?_
        refine wpT_region (by kernel_rfl) (fun K hK => ?_)
        simp only [↓SP, SX, SW, TY, EN, sv_w, ↓reduceIte, reduceCtorEq, Nat.reduceEqDiff, Nat.reduceAdd, Nat.reduceLeDiff, Nat.reduceLT, Fan.av, hc14, hc17, hc24]
        refine hK _ _ ?_
        clear hK K
        refine wpT_ret ⟨.inr rfl, ?_⟩
        show optK (resA _ _ _ [.cell 6 49, .tmp 7]) _
        simp only [SR, Option.map_some, Option.bind_some, ↓SP, SX, SW, TY, EN, sv_w, ↓reduceIte, reduceCtorEq, Nat.reduceEqDiff, Nat.reduceAdd, Nat.reduceLeDiff, Nat.reduceLT, Fan.av, hc14, hc17, hc24]
        rw [hy, hx]
        first
          | exact Lend.tupL (LendL.cons fan0_lend (LendL.cons (.refl _) LendL.nil))
          | exact .refl _
      · skip
        have p24 := hc24
        try simp only [decide_eq_true_eq, decide_eq_false_iff_not, beq_iff_eq, bne_iff_ne, beq_eq_false_iff_ne, bne_eq_false_iff_eq, Bool.not_eq_true', Bool.not_eq_false'] at p24
        have h24 : ¬ n < f.app.getD (k : Int).toNat 0 := by rw [hA]; exact p24
        refine wpT_seq ?_
        refine wpT_region (by kernel_rfl) (fun K hK => ?_)
        simp only [↓SP, SX, SW, TY, EN, sv_w, ↓reduceIte, reduceCtorEq, Nat.reduceEqDiff, Nat.reduceAdd, Nat.reduceLeDiff, Nat.reduceLT, Fan.av, hg, hc14, hc17, hc24]
        refine guardO_split (fun hg41 => ?_) (fun hg41 => ?_)
        · skip
          have p41 := hg41
          try simp only [decide_eq_true_eq, decide_eq_false_iff_not, beq_iff_eq, bne_iff_ne, beq_eq_false_iff_ne, bne_eq_false_iff_eq, Bool.not_eq_true', Bool.not_eq_false'] at p41
          simp only [↓SP, SX, SW, TY, EN, sv_w, ↓reduceIte, reduceCtorEq, Nat.reduceEqDiff, Nat.reduceAdd, Nat.reduceLeDiff, Nat.reduceLT, Fan.av, hg, hc14, hc17, hc24, hg41]
          refine Pu.call (c96 f n hf.ok) ?_
          simp only [↓SP, SX, SW, TY, EN, sv_w, ↓reduceIte, reduceCtorEq, Nat.reduceEqDiff, Nat.reduceAdd, Nat.reduceLeDiff, Nat.reduceLT, Fan.av, hg, hc14, hc17, hc24, hg41]
          refine hK _ _ ?_
          clear hK K
          refine wpT_if (by rfl) (fun hc33 => ?_) (fun hc33 => ?_)
          · skip
            have p33 := hc33
            try simp only [decide_eq_true_eq, decide_eq_false_iff_not, beq_iff_eq, bne_iff_ne, beq_eq_false_iff_ne, bne_eq_false_iff_eq, Bool.not_eq_true', Bool.not_eq_false'] at p33
            have hx : appliedE f k n = 15 := by
              rw [appliedE, if_neg h14, if_neg h17, if_neg h24, if_pos (by rw [hA]; simp_all)]
            have hy : appliedF f k n = fan0 := appliedF_err hx (by omega)
            refine wpT_seq ?_
            refine wpT_region (by kernel_rfl) (fun K hK => ?_)
            simp only [↓SP, SX, SW, TY, EN, sv_w, ↓reduceIte, reduceCtorEq, Nat.reduceEqDiff, Nat.reduceAdd, Nat.reduceLeDiff, Nat.reduceLT, Fan.av, hc14, hc17, hc24, hg41, hc33]
            refine hK _ _ ?_
            clear hK K
            refine wpT_ret ⟨.inr rfl, ?_⟩
            show optK (resA _ _ _ [.cell 6 49, .tmp 7]) _
            simp only [SR, Option.map_some, Option.bind_some, ↓SP, SX, SW, TY, EN, sv_w, ↓reduceIte, reduceCtorEq, Nat.reduceEqDiff, Nat.reduceAdd, Nat.reduceLeDiff, Nat.reduceLT, Fan.av, hc14, hc17, hc24, hg41, hc33]
            rw [hy, hx]
            first
              | exact Lend.tupL (LendL.cons fan0_lend (LendL.cons (.refl _) LendL.nil))
              | exact .refl _
          · skip
            have p33 := hc33
            try simp only [decide_eq_true_eq, decide_eq_false_iff_not, beq_iff_eq, bne_iff_ne, beq_eq_false_iff_ne, bne_eq_false_iff_eq, Bool.not_eq_true', Bool.not_eq_false'] at p33
            have hx : appliedE f k n = 0 := by
              rw [appliedE, if_neg h14, if_neg h17, if_neg h24, if_neg (by rw [hA]; simp_all)]
            have hy := appliedF_ok hx
            have hto : (k : Int).toNat = k := rfl
            have hkz : (k : Int) < (f.app.length : Int) := by omega
            have hkz0 : (0 : Int) ≤ (k : Int) := by omega
            rw [hto] at hy
            have hf2 : Fan.ok ⟨f.limit, f.kept, f.app.set k n, f.lost⟩ := ⟨hf.ok.1, by simpa using hf.ok.2.1, hf.ok.2.2.1, hf.ok.2.2.2⟩
            refine wpT_skip ?_
            refine wpT_inBlock ?_
            refine wpT_seq ?_
            refine wpT_region (by kernel_rfl) (fun K hK => ?_)
            simp only [↓SP, SX, SW, TY, EN, sv_w, ↓reduceIte, reduceCtorEq, Nat.reduceEqDiff, Nat.reduceAdd, Nat.reduceLeDiff, Nat.reduceLT, Fan.av, hc14, hc17, hc24, hg41, hc33]
            refine copied_call hf ha1 (by omega) ?_
            simp only [↓SP, SX, SW, TY, EN, sv_w, ↓reduceIte, reduceCtorEq, Nat.reduceEqDiff, Nat.reduceAdd, Nat.reduceLeDiff, Nat.reduceLT, Fan.av, hc14, hc17, hc24, hg41, hc33]
            refine hK _ _ ?_
            clear hK K
            refine wpT_seq ?_
            refine wpT_region (by kernel_rfl) (fun K hK => ?_)
            simp only [↓SP, SX, SW, TY, EN, sv_w, ↓reduceIte, reduceCtorEq, Nat.reduceEqDiff, Nat.reduceAdd, Nat.reduceLeDiff, Nat.reduceLT, Fan.av, stO_arr, app_set, Option.bind_some, Nat.le_refl, hg, hkz, hkz0, Int.toNat_natCast, hc14, hc17, hc24, hg41, hc33]
            refine hK _ _ ?_
            clear hK K
            refine wpT_lend2 (i := 1) (j := 5) (o := .arr 49 4 [.agg [I 0, .nil0, .nil0, .nil0]]) (E := 49) (s := 4) (cs := [I f.limit, .sl 2 f.kept.length 0 f.kept.length, .sl 3 f.app.length 0 f.app.length, .sl 4 f.lost.length 0 f.lost.length]) (cs' := [I f.limit, .lst (f.kept.map Cyc.av), .lst ((f.app.set k n).map I), .lst (f.lost.map B)]) (by simp only [↓SP, SX, SW, TY, EN, sv_w, ↓reduceIte, reduceCtorEq, Nat.reduceEqDiff, Nat.reduceAdd, Nat.reduceLeDiff, Nat.reduceLT]) (by simp only [↓SP, SX, SW, TY, EN, sv_w, ↓reduceIte, reduceCtorEq, Nat.reduceEqDiff, Nat.reduceAdd, Nat.reduceLeDiff, Nat.reduceLT]) (by rfl) (fan_lendL (by simp only [↓SP, SX, SW, TY, EN, sv_w, ↓reduceIte, reduceCtorEq, Nat.reduceEqDiff, Nat.reduceAdd, Nat.reduceLeDiff, Nat.reduceLT]) (by simp only [↓SP, SX, SW, TY, EN, sv_w, ↓reduceIte, reduceCtorEq, Nat.reduceEqDiff, Nat.reduceAdd, Nat.reduceLeDiff, Nat.reduceLT, List.map_set]) (by simp only [↓SP, SX, SW, TY, EN, sv_w, ↓reduceIte, reduceCtorEq, Nat.reduceEqDiff, Nat.reduceAdd, Nat.reduceLeDiff, Nat.reduceLT]) rfl (by simp) rfl) ?_
            refine wpT_seq ?_
            refine wpT_region (by kernel_rfl) (fun K hK => ?_)
            simp only [↓SP, SX, SW, TY, EN, sv_w, ↓reduceIte, reduceCtorEq, Nat.reduceEqDiff, Nat.reduceAdd, Nat.reduceLeDiff, Nat.reduceLT, Fan.av, hc14, hc17, hc24, hg41, hc33]
            refine Pu.call (c79 ⟨f.limit, f.kept, f.app.set k n, f.lost⟩ hf2 (by simpa using hlen)) ?_
            simp only [↓SP, SX, SW, TY, EN, sv_w, ↓reduceIte, reduceCtorEq, Nat.reduceEqDiff, Nat.reduceAdd, Nat.reduceLeDiff, Nat.reduceLT, Fan.av, hc14, hc17, hc24, hg41, hc33]
            refine hK _ _ ?_
            clear hK K
            refine wpT_ret ⟨.inr rfl, ?_⟩
            show optK (resA _ _ _ [.cell 6 49, .tmp 7]) _
            simp only [SR, Option.map_some, Option.bind_some, ↓SP, SX, SW, TY, EN, sv_w, ↓reduceIte, reduceCtorEq, Nat.reduceEqDiff, Nat.reduceAdd, Nat.reduceLeDiff, Nat.reduceLT, Fan.av, hc14, hc17, hc24, hg41, hc33]
            rw [hy, hx]
            first
              | exact Lend.tupL (LendL.cons fan0_lend (LendL.cons (.refl _) LendL.nil))
              | exact .refl _
        · skip
          simp only [Bool.not_true, Bool.not_false] at hg41
          have p41 := hg41
          try simp only [decide_eq_true_eq, decide_eq_false_iff_not, beq_iff_eq, bne_iff_ne, beq_eq_false_iff_ne, bne_eq_false_iff_eq, Bool.not_eq_true', Bool.not_eq_false'] at p41
          simp only [↓SP, SX, SW, TY, EN, sv_w, ↓reduceIte, reduceCtorEq, Nat.reduceEqDiff, Nat.reduceAdd, Nat.reduceLeDiff, Nat.reduceLT, Fan.av, hg, hc14, hc17, hc24, hg41]
          refine hK _ _ ?_
          clear hK K
          refine wpT_ifF (by simp only [↓SP, SX, SW, TY, EN, sv_w, ↓reduceIte, reduceCtorEq, Nat.reduceEqDiff, Nat.reduceAdd, Nat.reduceLeDiff, Nat.reduceLT, Fan.av, hc14, hc17, hc24, hg41]) ?_
          have hx : appliedE f k n = 0 := by
            rw [appliedE, if_neg h14, if_neg h17, if_neg h24, if_neg (by rw [hA]; simp_all)]
          have hy := appliedF_ok hx
          have hto : (k : Int).toNat = k := rfl
          have hkz : (k : Int) < (f.app.length : Int) := by omega
          have hkz0 : (0 : Int) ≤ (k : Int) := by omega
          rw [hto] at hy
          have hf2 : Fan.ok ⟨f.limit, f.kept, f.app.set k n, f.lost⟩ := ⟨hf.ok.1, by simpa using hf.ok.2.1, hf.ok.2.2.1, hf.ok.2.2.2⟩
          refine wpT_skip ?_
          refine wpT_inBlock ?_
          refine wpT_seq ?_
          refine wpT_region (by kernel_rfl) (fun K hK => ?_)
          simp only [↓SP, SX, SW, TY, EN, sv_w, ↓reduceIte, reduceCtorEq, Nat.reduceEqDiff, Nat.reduceAdd, Nat.reduceLeDiff, Nat.reduceLT, Fan.av, hc14, hc17, hc24, hg41]
          refine copied_call hf ha1 (by omega) ?_
          simp only [↓SP, SX, SW, TY, EN, sv_w, ↓reduceIte, reduceCtorEq, Nat.reduceEqDiff, Nat.reduceAdd, Nat.reduceLeDiff, Nat.reduceLT, Fan.av, hc14, hc17, hc24, hg41]
          refine hK _ _ ?_
          clear hK K
          refine wpT_seq ?_
          refine wpT_region (by kernel_rfl) (fun K hK => ?_)
          simp only [↓SP, SX, SW, TY, EN, sv_w, ↓reduceIte, reduceCtorEq, Nat.reduceEqDiff, Nat.reduceAdd, Nat.reduceLeDiff, Nat.reduceLT, Fan.av, stO_arr, app_set, Option.bind_some, Nat.le_refl, hg, hkz, hkz0, Int.toNat_natCast, hc14, hc17, hc24, hg41]
          refine hK _ _ ?_
          clear hK K
          refine wpT_lend2 (i := 1) (j := 5) (o := .arr 49 4 [.agg [I 0, .nil0, .nil0, .nil0]]) (E := 49) (s := 4) (cs := [I f.limit, .sl 2 f.kept.length 0 f.kept.length, .sl 3 f.app.length 0 f.app.length, .sl 4 f.lost.length 0 f.lost.length]) (cs' := [I f.limit, .lst (f.kept.map Cyc.av), .lst ((f.app.set k n).map I), .lst (f.lost.map B)]) (by simp only [↓SP, SX, SW, TY, EN, sv_w, ↓reduceIte, reduceCtorEq, Nat.reduceEqDiff, Nat.reduceAdd, Nat.reduceLeDiff, Nat.reduceLT]) (by simp only [↓SP, SX, SW, TY, EN, sv_w, ↓reduceIte, reduceCtorEq, Nat.reduceEqDiff, Nat.reduceAdd, Nat.reduceLeDiff, Nat.reduceLT]) (by rfl) (fan_lendL (by simp only [↓SP, SX, SW, TY, EN, sv_w, ↓reduceIte, reduceCtorEq, Nat.reduceEqDiff, Nat.reduceAdd, Nat.reduceLeDiff, Nat.reduceLT]) (by simp only [↓SP, SX, SW, TY, EN, sv_w, ↓reduceIte, reduceCtorEq, Nat.reduceEqDiff, Nat.reduceAdd, Nat.reduceLeDiff, Nat.reduceLT, List.map_set]) (by simp only [↓SP, SX, SW, TY, EN, sv_w, ↓reduceIte, reduceCtorEq, Nat.reduceEqDiff, Nat.reduceAdd, Nat.reduceLeDiff, Nat.reduceLT]) rfl (by simp) rfl) ?_
          refine wpT_seq ?_
          refine wpT_region (by kernel_rfl) (fun K hK => ?_)
          simp only [↓SP, SX, SW, TY, EN, sv_w, ↓reduceIte, reduceCtorEq, Nat.reduceEqDiff, Nat.reduceAdd, Nat.reduceLeDiff, Nat.reduceLT, Fan.av, hc14, hc17, hc24, hg41]
          refine Pu.call (c79 ⟨f.limit, f.kept, f.app.set k n, f.lost⟩ hf2 (by simpa using hlen)) ?_
          simp only [↓SP, SX, SW, TY, EN, sv_w, ↓reduceIte, reduceCtorEq, Nat.reduceEqDiff, Nat.reduceAdd, Nat.reduceLeDiff, Nat.reduceLT, Fan.av, hc14, hc17, hc24, hg41]
          refine hK _ _ ?_
          clear hK K
          refine wpT_ret ⟨.inr rfl, ?_⟩
          show optK (resA _ _ _ [.cell 6 49, .tmp 7]) _
          simp only [SR, Option.map_some, Option.bind_some, ↓SP, SX, SW, TY, EN, sv_w, ↓reduceIte, reduceCtorEq, Nat.reduceEqDiff, Nat.reduceAdd, Nat.reduceLeDiff, Nat.reduceLT, Fan.av, hc14, hc17, hc24, hg41]
          rw [hy, hx]
          first
            | exact Lend.tupL (LendL.cons fan0_lend (LendL.cons (.refl _) LendL.nil))
            | exact .refl _
end Go.Proofs.YtlmjpgmaefokdaaGreat
end

section
set_option linter.unusedSimpArgs false
set_option linter.unusedVariables false
namespace Go.Proofs.YtlmjpgmaefokdaaGreat
open Go.Proofs
set_option maxRecDepth 10000
def joinE (f : Fan) (t n : Int) : Int :=
  if existsE f t ≠ 0 then existsE f t else if f.lost.getD t.toNat false = false then 12 else if ¬ leastL (-1) f.app f.lost < 0 ∧ boundR f n = false then 15 else
  if leastL (-1) f.app f.lost < 0 ∧ (n < newR f ∨ n > 1073741824) then 2 else 0
def joinF (f : Fan) (t n : Int) : Fan := if joinE f t n ≠ 0 then fan0 else ⟨f.limit, f.kept, f.app.set t.toNat n, f.lost.set t.toNat false⟩
theorem joinF_err {f : Fan} {t n e : Int} (h : joinE f t n = e) (h0 : e ≠ 0) : joinF f t n = fan0 := if_pos (by omega)
theorem joinF_ok {f : Fan} {t n : Int} (h : joinE f t n = 0) : joinF f t n = ⟨f.limit, f.kept, f.app.set t.toNat n, f.lost.set t.toNat false⟩ := if_neg (by omega)
theorem c35 (f : Fan) (t n : Int) (hf : f.sm) : Pu Tryz.prog (.fn (.func 35) [] []) [f.av, I t, I n] (.tup [(joinF f t n).av, I (joinE f t n)]) := by
  refine pu_func Tryz.func35 rfl (by kernel_rfl) (by show _ ≤ 64; simp only [List.length_append, List.length_cons, List.length_nil]; decide) (by simp only [IDF, fan_idf, and_tt]) (by simp only [IDF, and_tt, implies_true]) (by simp only [IDF, fan_idf, and_tt, implies_true]) ?_
  rw [Tryz.ntmps35]
  refine wpT_seq ?_
  refine wpT_region (by kernel_rfl) (fun K hK => ?_)
  simp only [↓SP, SX, SW, TY, EN, sv_w, ↓reduceIte, reduceCtorEq, Nat.reduceEqDiff, Nat.reduceAdd, Nat.reduceLeDiff, Nat.reduceLT, Fan.av]
  refine hK _ _ ?_
  clear hK K
  refine wpT_seq ?_
  refine wpT_seq ?_
  refine wpT_region (by kernel_rfl) (fun K hK => ?_)
  simp only [↓SP, SX, SW, TY, EN, sv_w, ↓reduceIte, reduceCtorEq, Nat.reduceEqDiff, Nat.reduceAdd, Nat.reduceLeDiff, Nat.reduceLT, Fan.av]
  refine Pu.call (c89 f t hf.ok) ?_
  simp only [↓SP, SX, SW, TY, EN, sv_w, ↓reduceIte, reduceCtorEq, Nat.reduceEqDiff, Nat.reduceAdd, Nat.reduceLeDiff, Nat.reduceLT, Fan.av]
  refine hK _ _ ?_
  clear hK K
  refine wpT_seq ?_
  refine wpT_region (by kernel_rfl) (fun K hK => ?_)
  simp only [↓SP, SX, SW, TY, EN, sv_w, ↓reduceIte, reduceCtorEq, Nat.reduceEqDiff, Nat.reduceAdd, Nat.reduceLeDiff, Nat.reduceLT, Fan.av]
  refine hK _ _ ?_
  clear hK K
  refine wpT_if (by rfl) (fun hc15 => ?_) (fun hc15 => ?_)
  · skip
    have p15 := hc15
    try simp only [decide_eq_true_eq, decide_eq_false_iff_not, beq_iff_eq, bne_iff_ne, beq_eq_false_iff_ne, bne_eq_false_iff_eq, Bool.not_eq_true', Bool.not_eq_false'] at p15
    have hx : joinE f t n = existsE f t := if_pos p15
    have hy : joinF f t n = fan0 := joinF_err hx p15
    refine wpT_seq ?_
    refine wpT_region (by kernel_rfl) (fun K hK => ?_)
    simp only [↓SP, SX, SW, TY, EN, sv_w, ↓reduceIte, reduceCtorEq, Nat.reduceEqDiff, Nat.reduceAdd, Nat.reduceLeDiff, Nat.reduceLT, Fan.av, hc15]
    refine hK _ _ ?_
    clear hK K
    refine wpT_ret ⟨.inr rfl, ?_⟩
    show optK (resA _ _ _ [.cell 6 49, .tmp 7]) _
    simp only [SR, Option.map_some, Option.bind_some, ↓SP, SX, SW, TY, EN, sv_w, ↓reduceIte, reduceCtorEq, Nat.reduceEqDiff, Nat.reduceAdd, Nat.reduceLeDiff, Nat.reduceLT, Fan.av, hc15]
    rw [hy, hx]
    first
      | exact Lend.tupL (LendL.cons fan0_lend (LendL.cons (.refl _) LendL.nil))
      | exact Lend.tupL (LendL.cons (Lend.aggL (fan_lendL (by simp only [↓SP, SX, SW, TY, EN, sv_w, ↓reduceIte, reduceCtorEq, Nat.reduceEqDiff, Nat.reduceAdd, Nat.reduceLeDiff, Nat.reduceLT]) (by simp only [↓SP, SX, SW, TY, EN, sv_w, ↓reduceIte, reduceCtorEq, Nat.reduceEqDiff, Nat.reduceAdd, Nat.reduceLeDiff, Nat.reduceLT, List.map_set]) (by simp only [↓SP, SX, SW, TY, EN, sv_w, ↓reduceIte, reduceCtorEq, Nat.reduceEqDiff, Nat.reduceAdd, Nat.reduceLeDiff, Nat.reduceLT, List.map_set]) rfl (by simp) (by simp))) (LendL.cons (.refl _) LendL.nil))
  · skip
    have p15 := hc15
    try simp only [decide_eq_true_eq, decide_eq_false_iff_not, beq_iff_eq, bne_iff_ne, beq_eq_false_iff_ne, bne_eq_false_iff_eq, Bool.not_eq_true', Bool.not_eq_false'] at p15
    have h14 : ¬ existsE f t ≠ 0 := by omega
    obtain ⟨hc, ht0, htl⟩ := exists_ok (f := f) (t := t) (by omega)
    have hlen := chkF_len hc
    obtain ⟨ha1, ha0⟩ := chkF_ge hc
    obtain ⟨k, rfl⟩ := Int.eq_ofNat_of_zero_le ht0
    have hk : k < f.app.length := by omega
    have hk' : k < f.lost.length := by omega
    have hg := at_map (f := I) hk
    have hg' := at_map (f := B) hk'
    have hA := getD_at (d := 0) hk
    have hL := getD_at (d := false) hk'
    refine wpT_skip ?_
    refine wpT_seq ?_
    refine wpT_region (by kernel_rfl) (fun K hK => ?_)
    simp only [↓SP, SX, SW, TY, EN, sv_w, ↓reduceIte, reduceCtorEq, Nat.reduceEqDiff, Nat.reduceAdd, Nat.reduceLeDiff, Nat.reduceLT, Fan.av, hc15]
    refine Pu.call (c73 f hf.ok hlen) ?_
    simp only [↓SP, SX, SW, TY, EN, sv_w, ↓reduceIte, reduceCtorEq, Nat.reduceEqDiff, Nat.reduceAdd, Nat.reduceLeDiff, Nat.reduceLT, Fan.av, hc15]
    refine hK _ _ ?_
    clear hK K
    refine wpT_seq ?_
    refine wpT_block ?_
    refine wpT_seq ?_
    refine wpT_region (by kernel_rfl) (fun K hK => ?_)
    simp only [↓SP, SX, SW, TY, EN, sv_w, ↓reduceIte, reduceCtorEq, Nat.reduceEqDiff, Nat.reduceAdd, Nat.reduceLeDiff, Nat.reduceLT, Fan.av, hg', hc15]
    refine hK _ _ ?_
    clear hK K
    refine wpT_if (by rfl) (fun hc21 => ?_) (fun hc21 => ?_)
    · skip
      have p21 := hc21
      try simp only [decide_eq_true_eq, decide_eq_false_iff_not, beq_iff_eq, bne_iff_ne, beq_eq_false_iff_ne, bne_eq_false_iff_eq, Bool.not_eq_true', Bool.not_eq_false'] at p21
      have hx : joinE f k n = 12 := by rw [joinE, if_neg h14, if_pos (by rw [hL]; simp_all)]
      have hy : joinF f k n = fan0 := joinF_err hx (by omega)
      refine wpT_seq ?_
      refine wpT_region (by kernel_rfl) (fun K hK => ?_)
      simp only [↓SP, SX, SW, TY, EN, sv_w, ↓reduceIte, reduceCtorEq, Nat.reduceEqDiff, Nat.reduceAdd, Nat.reduceLeDiff, Nat.reduceLT, Fan.av, hc15, hc21]
      refine hK _ _ ?_
      clear hK K
      refine wpT_ret ⟨.inr rfl, ?_⟩
      show optK (resA _ _ _ [.cell 6 49, .tmp 7]) _
      simp only [SR, Option.map_some, Option.bind_some, ↓SP, SX, SW, TY, EN, sv_w, ↓reduceIte, reduceCtorEq, Nat.reduceEqDiff, Nat.reduceAdd, Nat.reduceLeDiff, Nat.reduceLT, Fan.av, hc15, hc21]
      rw [hy, hx]
      first
        | exact Lend.tupL (LendL.cons fan0_lend (LendL.cons (.refl _) LendL.nil))
        | exact Lend.tupL (LendL.cons (Lend.aggL (fan_lendL (by simp only [↓SP, SX, SW, TY, EN, sv_w, ↓reduceIte, reduceCtorEq, Nat.reduceEqDiff, Nat.reduceAdd, Nat.reduceLeDiff, Nat.reduceLT]) (by simp only [↓SP, SX, SW, TY, EN, sv_w, ↓reduceIte, reduceCtorEq, Nat.reduceEqDiff, Nat.reduceAdd, Nat.reduceLeDiff, Nat.reduceLT, List.map_set]) (by simp only [↓SP, SX, SW, TY, EN, sv_w, ↓reduceIte, reduceCtorEq, Nat.reduceEqDiff, Nat.reduceAdd, Nat.reduceLeDiff, Nat.reduceLT, List.map_set]) rfl (by simp) (by simp))) (LendL.cons (.refl _) LendL.nil))
    · skip
      have p21 := hc21
      try simp only [decide_eq_true_eq, decide_eq_false_iff_not, beq_iff_eq, bne_iff_ne, beq_eq_false_iff_ne, bne_eq_false_iff_eq, Bool.not_eq_true', Bool.not_eq_false'] at p21
      have h17 : ¬ f.lost.getD (k : Int).toNat false = false := by rw [hL]; simp_all
      refine wpT_seq ?_
      refine wpT_region (by kernel_rfl) (fun K hK => ?_)
      simp only [↓SP, SX, SW, TY, EN, sv_w, ↓reduceIte, reduceCtorEq, Nat.reduceEqDiff, Nat.reduceAdd, Nat.reduceLeDiff, Nat.reduceLT, Fan.av, hc15, hc21]
      refine guardO_split (fun hg32 => ?_) (fun hg32 => ?_)
      · skip
        have p32 := hg32
        try simp only [decide_eq_true_eq, decide_eq_false_iff_not, beq_iff_eq, bne_iff_ne, beq_eq_false_iff_ne, bne_eq_false_iff_eq, Bool.not_eq_true', Bool.not_eq_false'] at p32
        simp only [↓SP, SX, SW, TY, EN, sv_w, ↓reduceIte, reduceCtorEq, Nat.reduceEqDiff, Nat.reduceAdd, Nat.reduceLeDiff, Nat.reduceLT, Fan.av, hc15, hc21, hg32]
        refine Pu.call (c98 f n hf.ok ha1 ha0) ?_
        simp only [↓SP, SX, SW, TY, EN, sv_w, ↓reduceIte, reduceCtorEq, Nat.reduceEqDiff, Nat.reduceAdd, Nat.reduceLeDiff, Nat.reduceLT, Fan.av, hc15, hc21, hg32]
        refine hK _ _ ?_
        clear hK K
        refine wpT_if (by rfl) (fun hc29 => ?_) (fun hc29 => ?_)
        · skip
          have p29 := hc29
          try simp only [decide_eq_true_eq, decide_eq_false_iff_not, beq_iff_eq, bne_iff_ne, beq_eq_false_iff_ne, bne_eq_false_iff_eq, Bool.not_eq_true', Bool.not_eq_false'] at p29
          have hx : joinE f k n = 15 := by rw [joinE, if_neg h14, if_neg h17, if_pos (by simp_all)]
          have hy : joinF f k n = fan0 := joinF_err hx (by omega)
          refine wpT_seq ?_
          refine wpT_region (by kernel_rfl) (fun K hK => ?_)
          simp only [↓SP, SX, SW, TY, EN, sv_w, ↓reduceIte, reduceCtorEq, Nat.reduceEqDiff, Nat.reduceAdd, Nat.reduceLeDiff, Nat.reduceLT, Fan.av, hc15, hc21, hg32, hc29]
          refine hK _ _ ?_
          clear hK K
          refine wpT_ret ⟨.inr rfl, ?_⟩
          show optK (resA _ _ _ [.cell 6 49, .tmp 7]) _
          simp only [SR, Option.map_some, Option.bind_some, ↓SP, SX, SW, TY, EN, sv_w, ↓reduceIte, reduceCtorEq, Nat.reduceEqDiff, Nat.reduceAdd, Nat.reduceLeDiff, Nat.reduceLT, Fan.av, hc15, hc21, hg32, hc29]
          rw [hy, hx]
          first
            | exact Lend.tupL (LendL.cons fan0_lend (LendL.cons (.refl _) LendL.nil))
            | exact Lend.tupL (LendL.cons (Lend.aggL (fan_lendL (by simp only [↓SP, SX, SW, TY, EN, sv_w, ↓reduceIte, reduceCtorEq, Nat.reduceEqDiff, Nat.reduceAdd, Nat.reduceLeDiff, Nat.reduceLT]) (by simp only [↓SP, SX, SW, TY, EN, sv_w, ↓reduceIte, reduceCtorEq, Nat.reduceEqDiff, Nat.reduceAdd, Nat.reduceLeDiff, Nat.reduceLT, List.map_set]) (by simp only [↓SP, SX, SW, TY, EN, sv_w, ↓reduceIte, reduceCtorEq, Nat.reduceEqDiff, Nat.reduceAdd, Nat.reduceLeDiff, Nat.reduceLT, List.map_set]) rfl (by simp) (by simp))) (LendL.cons (.refl _) LendL.nil))
        · skip
          have p29 := hc29
          try simp only [decide_eq_true_eq, decide_eq_false_iff_not, beq_iff_eq, bne_iff_ne, beq_eq_false_iff_ne, bne_eq_false_iff_eq, Bool.not_eq_true', Bool.not_eq_false'] at p29
          have h24 : ¬ (¬ leastL (-1) f.app f.lost < 0 ∧ boundR f n = false) := by simp_all
          refine wpT_seq ?_
          refine wpT_region (by kernel_rfl) (fun K hK => ?_)
          simp only [↓SP, SX, SW, TY, EN, sv_w, ↓reduceIte, reduceCtorEq, Nat.reduceEqDiff, Nat.reduceAdd, Nat.reduceLeDiff, Nat.reduceLT, Fan.av, hc15, hc21, hg32, hc29]
          refine guardO_split (fun hg41 => ?_) (fun hg41 => ?_)
          · skip
            have p41 := hg41
            try simp only [decide_eq_true_eq, decide_eq_false_iff_not, beq_iff_eq, bne_iff_ne, beq_eq_false_iff_ne, bne_eq_false_iff_eq, Bool.not_eq_true', Bool.not_eq_false'] at p41
            simp only [↓SP, SX, SW, TY, EN, sv_w, ↓reduceIte, reduceCtorEq, Nat.reduceEqDiff, Nat.reduceAdd, Nat.reduceLeDiff, Nat.reduceLT, Fan.av, hc15, hc21, hg32, hc29, hg41]
            refine Pu.call (c76 f hf.ok ha1 ha0) ?_
            simp only [↓SP, SX, SW, TY, EN, sv_w, ↓reduceIte, reduceCtorEq, Nat.reduceEqDiff, Nat.reduceAdd, Nat.reduceLeDiff, Nat.reduceLT, Fan.av, hc15, hc21, hg32, hc29, hg41]
            refine guardO_split (fun hg46 => ?_) (fun hg46 => ?_)
            · skip
              have p46 := hg46
              try simp only [decide_eq_true_eq, decide_eq_false_iff_not, beq_iff_eq, bne_iff_ne, beq_eq_false_iff_ne, bne_eq_false_iff_eq, Bool.not_eq_true', Bool.not_eq_false'] at p46
              simp only [↓SP, SX, SW, TY, EN, sv_w, ↓reduceIte, reduceCtorEq, Nat.reduceEqDiff, Nat.reduceAdd, Nat.reduceLeDiff, Nat.reduceLT, Fan.av, hc15, hc21, hg32, hc29, hg41, hg46]
              refine hK _ _ ?_
              clear hK K
              refine wpT_if (by rfl) (fun hc39 => ?_) (fun hc39 => ?_)
              · skip
                have p39 := hc39
                try simp only [decide_eq_true_eq, decide_eq_false_iff_not, beq_iff_eq, bne_iff_ne, beq_eq_false_iff_ne, bne_eq_false_iff_eq, Bool.not_eq_true', Bool.not_eq_false'] at p39
                have hx : joinE f k n = 2 := by rw [joinE, if_neg h14, if_neg h17, if_neg h24, if_pos (by simp_all)]
                have hy : joinF f k n = fan0 := joinF_err hx (by omega)
                refine wpT_seq ?_
                refine wpT_region (by kernel_rfl) (fun K hK => ?_)
                simp only [↓SP, SX, SW, TY, EN, sv_w, ↓reduceIte, reduceCtorEq, Nat.reduceEqDiff, Nat.reduceAdd, Nat.reduceLeDiff, Nat.reduceLT, Fan.av, hc15, hc21, hg32, hc29, hg41, hg46, hc39]
                refine hK _ _ ?_
                clear hK K
                refine wpT_ret ⟨.inr rfl, ?_⟩
                show optK (resA _ _ _ [.cell 6 49, .tmp 7]) _
                simp only [SR, Option.map_some, Option.bind_some, ↓SP, SX, SW, TY, EN, sv_w, ↓reduceIte, reduceCtorEq, Nat.reduceEqDiff, Nat.reduceAdd, Nat.reduceLeDiff, Nat.reduceLT, Fan.av, hc15, hc21, hg32, hc29, hg41, hg46, hc39]
                rw [hy, hx]
                first
                  | exact Lend.tupL (LendL.cons fan0_lend (LendL.cons (.refl _) LendL.nil))
                  | exact Lend.tupL (LendL.cons (Lend.aggL (fan_lendL (by simp only [↓SP, SX, SW, TY, EN, sv_w, ↓reduceIte, reduceCtorEq, Nat.reduceEqDiff, Nat.reduceAdd, Nat.reduceLeDiff, Nat.reduceLT]) (by simp only [↓SP, SX, SW, TY, EN, sv_w, ↓reduceIte, reduceCtorEq, Nat.reduceEqDiff, Nat.reduceAdd, Nat.reduceLeDiff, Nat.reduceLT, List.map_set]) (by simp only [↓SP, SX, SW, TY, EN, sv_w, ↓reduceIte, reduceCtorEq, Nat.reduceEqDiff, Nat.reduceAdd, Nat.reduceLeDiff, Nat.reduceLT, List.map_set]) rfl (by simp) (by simp))) (LendL.cons (.refl _) LendL.nil))
              · skip
                have p39 := hc39
                try simp only [decide_eq_true_eq, decide_eq_false_iff_not, beq_iff_eq, bne_iff_ne, beq_eq_false_iff_ne, bne_eq_false_iff_eq, Bool.not_eq_true', Bool.not_eq_false'] at p39
                have hx : joinE f k n = 0 := by rw [joinE, if_neg h14, if_neg h17, if_neg h24, if_neg (by simp_all <;> omega)]
                have hy := joinF_ok hx
                have hto : (k : Int).toNat = k := rfl
                have hkz : (k : Int) < (f.app.length : Int) := by omega
                have hkz' : (k : Int) < (f.lost.length : Int) := by omega
                have hkz0 : (0 : Int) ≤ (k : Int) := by omega
                rw [hto] at hy
                refine wpT_skip ?_
                refine wpT_inBlock ?_
                refine wpT_seq ?_
                refine wpT_region (by kernel_rfl) (fun K hK => ?_)
                simp only [↓SP, SX, SW, TY, EN, sv_w, ↓reduceIte, reduceCtorEq, Nat.reduceEqDiff, Nat.reduceAdd, Nat.reduceLeDiff, Nat.reduceLT, Fan.av, hc15, hc21, hg32, hc29, hg41, hg46, hc39]
                refine copied_call hf ha1 (by omega) ?_
                simp only [↓SP, SX, SW, TY, EN, sv_w, ↓reduceIte, reduceCtorEq, Nat.reduceEqDiff, Nat.reduceAdd, Nat.reduceLeDiff, Nat.reduceLT, Fan.av, hc15, hc21, hg32, hc29, hg41, hg46, hc39]
                refine hK _ _ ?_
                clear hK K
                refine wpT_seq ?_
                refine wpT_drawn [(3, 8), (4, 8)] mixed (by kernel_rfl) (m := 11) rfl (fun K hK => ?_)
                simp only [↓SP, SX, SW, TY, EN, sv_w, ↓reduceIte, reduceCtorEq, Nat.reduceEqDiff, Nat.reduceAdd, Nat.reduceLeDiff, Nat.reduceLT, Fan.av, stO_arr, app_set, Option.bind_some, Nat.le_refl, hg, hg', hkz, hkz', hkz0, Int.toNat_natCast, List.cons_append, List.mem_singleton, hc15, hc21, hg32, hc29, hg41, hg46, hc39]
                refine hK _ _ ?_
                clear hK K
                refine wpT_seq ?_
                refine wpT_region (by kernel_rfl) (fun K hK => ?_)
                simp only [↓SP, SX, SW, TY, EN, sv_w, ↓reduceIte, reduceCtorEq, Nat.reduceEqDiff, Nat.reduceAdd, Nat.reduceLeDiff, Nat.reduceLT, Fan.av, hc15, hc21, hg32, hc29, hg41, hg46, hc39]
                refine hK _ _ ?_
                clear hK K
                refine wpT_ret ⟨.inr rfl, ?_⟩
                show optK (resA _ _ _ [.cell 6 49, .tmp 7]) _
                simp only [SR, Option.map_some, Option.bind_some, ↓SP, SX, SW, TY, EN, sv_w, ↓reduceIte, reduceCtorEq, Nat.reduceEqDiff, Nat.reduceAdd, Nat.reduceLeDiff, Nat.reduceLT, Fan.av, hc15, hc21, hg32, hc29, hg41, hg46, hc39]
                rw [hy, hx]
                first
                  | exact Lend.tupL (LendL.cons fan0_lend (LendL.cons (.refl _) LendL.nil))
                  | exact Lend.tupL (LendL.cons (Lend.aggL (fan_lendL (by simp only [↓SP, SX, SW, TY, EN, sv_w, ↓reduceIte, reduceCtorEq, Nat.reduceEqDiff, Nat.reduceAdd, Nat.reduceLeDiff, Nat.reduceLT]) (by simp only [↓SP, SX, SW, TY, EN, sv_w, ↓reduceIte, reduceCtorEq, Nat.reduceEqDiff, Nat.reduceAdd, Nat.reduceLeDiff, Nat.reduceLT, List.map_set]) (by simp only [↓SP, SX, SW, TY, EN, sv_w, ↓reduceIte, reduceCtorEq, Nat.reduceEqDiff, Nat.reduceAdd, Nat.reduceLeDiff, Nat.reduceLT, List.map_set]) rfl (by simp) (by simp))) (LendL.cons (.refl _) LendL.nil))
            · skip
              simp only [Bool.not_true, Bool.not_false] at hg46
              have p46 := hg46
              try simp only [decide_eq_true_eq, decide_eq_false_iff_not, beq_iff_eq, bne_iff_ne, beq_eq_false_iff_ne, bne_eq_false_iff_eq, Bool.not_eq_true', Bool.not_eq_false'] at p46
              simp only [↓SP, SX, SW, TY, EN, sv_w, ↓reduceIte, reduceCtorEq, Nat.reduceEqDiff, Nat.reduceAdd, Nat.reduceLeDiff, Nat.reduceLT, Fan.av, hc15, hc21, hg32, hc29, hg41, hg46]
              refine hK _ _ ?_
              clear hK K
              refine wpT_ifT (by simp only [↓SP, SX, SW, TY, EN, sv_w, ↓reduceIte, reduceCtorEq, Nat.reduceEqDiff, Nat.reduceAdd, Nat.reduceLeDiff, Nat.reduceLT, Fan.av, hc15, hc21, hg32, hc29, hg41, hg46]) ?_
              have hx : joinE f k n = 2 := by rw [joinE, if_neg h14, if_neg h17, if_neg h24, if_pos (by simp_all)]
              have hy : joinF f k n = fan0 := joinF_err hx (by omega)
              refine wpT_seq ?_
              refine wpT_region (by kernel_rfl) (fun K hK => ?_)
              simp only [↓SP, SX, SW, TY, EN, sv_w, ↓reduceIte, reduceCtorEq, Nat.reduceEqDiff, Nat.reduceAdd, Nat.reduceLeDiff, Nat.reduceLT, Fan.av, hc15, hc21, hg32, hc29, hg41, hg46]
              refine hK _ _ ?_
              clear hK K
              refine wpT_ret ⟨.inr rfl, ?_⟩
              show optK (resA _ _ _ [.cell 6 49, .tmp 7]) _
              simp only [SR, Option.map_some, Option.bind_some, ↓SP, SX, SW, TY, EN, sv_w, ↓reduceIte, reduceCtorEq, Nat.reduceEqDiff, Nat.reduceAdd, Nat.reduceLeDiff, Nat.reduceLT, Fan.av, hc15, hc21, hg32, hc29, hg41, hg46]
              rw [hy, hx]
              first
                | exact Lend.tupL (LendL.cons fan0_lend (LendL.cons (.refl _) LendL.nil))
                | exact Lend.tupL (LendL.cons (Lend.aggL (fan_lendL (by simp only [↓SP, SX, SW, TY, EN, sv_w, ↓reduceIte, reduceCtorEq, Nat.reduceEqDiff, Nat.reduceAdd, Nat.reduceLeDiff, Nat.reduceLT]) (by simp only [↓SP, SX, SW, TY, EN, sv_w, ↓reduceIte, reduceCtorEq, Nat.reduceEqDiff, Nat.reduceAdd, Nat.reduceLeDiff, Nat.reduceLT, List.map_set]) (by simp only [↓SP, SX, SW, TY, EN, sv_w, ↓reduceIte, reduceCtorEq, Nat.reduceEqDiff, Nat.reduceAdd, Nat.reduceLeDiff, Nat.reduceLT, List.map_set]) rfl (by simp) (by simp))) (LendL.cons (.refl _) LendL.nil))
          · skip
            simp only [Bool.not_true, Bool.not_false] at hg41
            have p41 := hg41
            try simp only [decide_eq_true_eq, decide_eq_false_iff_not, beq_iff_eq, bne_iff_ne, beq_eq_false_iff_ne, bne_eq_false_iff_eq, Bool.not_eq_true', Bool.not_eq_false'] at p41
            simp only [↓SP, SX, SW, TY, EN, sv_w, ↓reduceIte, reduceCtorEq, Nat.reduceEqDiff, Nat.reduceAdd, Nat.reduceLeDiff, Nat.reduceLT, Fan.av, hc15, hc21, hg32, hc29, hg41]
            refine hK _ _ ?_
            clear hK K
            refine wpT_ifF (by simp only [↓SP, SX, SW, TY, EN, sv_w, ↓reduceIte, reduceCtorEq, Nat.reduceEqDiff, Nat.reduceAdd, Nat.reduceLeDiff, Nat.reduceLT, Fan.av, hc15, hc21, hg32, hc29, hg41]) ?_
            have hx : joinE f k n = 0 := by rw [joinE, if_neg h14, if_neg h17, if_neg h24, if_neg (by simp_all <;> omega)]
            have hy := joinF_ok hx
            have hto : (k : Int).toNat = k := rfl
            have hkz : (k : Int) < (f.app.length : Int) := by omega
            have hkz' : (k : Int) < (f.lost.length : Int) := by omega
            have hkz0 : (0 : Int) ≤ (k : Int) := by omega
            rw [hto] at hy
            refine wpT_skip ?_
            refine wpT_inBlock ?_
            refine wpT_seq ?_
            refine wpT_region (by kernel_rfl) (fun K hK => ?_)
            simp only [↓SP, SX, SW, TY, EN, sv_w, ↓reduceIte, reduceCtorEq, Nat.reduceEqDiff, Nat.reduceAdd, Nat.reduceLeDiff, Nat.reduceLT, Fan.av, hc15, hc21, hg32, hc29, hg41]
            refine copied_call hf ha1 (by omega) ?_
            simp only [↓SP, SX, SW, TY, EN, sv_w, ↓reduceIte, reduceCtorEq, Nat.reduceEqDiff, Nat.reduceAdd, Nat.reduceLeDiff, Nat.reduceLT, Fan.av, hc15, hc21, hg32, hc29, hg41]
            refine hK _ _ ?_
            clear hK K
            refine wpT_seq ?_
            refine wpT_drawn [(3, 8), (4, 8)] mixed (by kernel_rfl) (m := 11) rfl (fun K hK => ?_)
            simp only [↓SP, SX, SW, TY, EN, sv_w, ↓reduceIte, reduceCtorEq, Nat.reduceEqDiff, Nat.reduceAdd, Nat.reduceLeDiff, Nat.reduceLT, Fan.av, stO_arr, app_set, Option.bind_some, Nat.le_refl, hg, hg', hkz, hkz', hkz0, Int.toNat_natCast, List.cons_append, List.mem_singleton, hc15, hc21, hg32, hc29, hg41]
            refine hK _ _ ?_
            clear hK K
            refine wpT_seq ?_
            refine wpT_region (by kernel_rfl) (fun K hK => ?_)
            simp only [↓SP, SX, SW, TY, EN, sv_w, ↓reduceIte, reduceCtorEq, Nat.reduceEqDiff, Nat.reduceAdd, Nat.reduceLeDiff, Nat.reduceLT, Fan.av, hc15, hc21, hg32, hc29, hg41]
            refine hK _ _ ?_
            clear hK K
            refine wpT_ret ⟨.inr rfl, ?_⟩
            show optK (resA _ _ _ [.cell 6 49, .tmp 7]) _
            simp only [SR, Option.map_some, Option.bind_some, ↓SP, SX, SW, TY, EN, sv_w, ↓reduceIte, reduceCtorEq, Nat.reduceEqDiff, Nat.reduceAdd, Nat.reduceLeDiff, Nat.reduceLT, Fan.av, hc15, hc21, hg32, hc29, hg41]
            rw [hy, hx]
            first
              | exact Lend.tupL (LendL.cons fan0_lend (LendL.cons (.refl _) LendL.nil))
              | exact Lend.tupL (LendL.cons (Lend.aggL (fan_lendL (by simp only [↓SP, SX, SW, TY, EN, sv_w, ↓reduceIte, reduceCtorEq, Nat.reduceEqDiff, Nat.reduceAdd, Nat.reduceLeDiff, Nat.reduceLT]) (by simp only [↓SP, SX, SW, TY, EN, sv_w, ↓reduceIte, reduceCtorEq, Nat.reduceEqDiff, Nat.reduceAdd, Nat.reduceLeDiff, Nat.reduceLT, List.map_set]) (by simp only [↓SP, SX, SW, TY, EN, sv_w, ↓reduceIte, reduceCtorEq, Nat.reduceEqDiff, Nat.reduceAdd, Nat.reduceLeDiff, Nat.reduceLT, List.map_set]) rfl (by simp) (by simp))) (LendL.cons (.refl _) LendL.nil))
      · skip
        simp only [Bool.not_true, Bool.not_false] at hg32
        have p32 := hg32
        try simp only [decide_eq_true_eq, decide_eq_false_iff_not, beq_iff_eq, bne_iff_ne, beq_eq_false_iff_ne, bne_eq_false_iff_eq, Bool.not_eq_true', Bool.not_eq_false'] at p32
        simp only [↓SP, SX, SW, TY, EN, sv_w, ↓reduceIte, reduceCtorEq, Nat.reduceEqDiff, Nat.reduceAdd, Nat.reduceLeDiff, Nat.reduceLT, Fan.av, hc15, hc21, hg32]
        refine hK _ _ ?_
        clear hK K
        refine wpT_ifF (by simp only [↓SP, SX, SW, TY, EN, sv_w, ↓reduceIte, reduceCtorEq, Nat.reduceEqDiff, Nat.reduceAdd, Nat.reduceLeDiff, Nat.reduceLT, Fan.av, hc15, hc21, hg32]) ?_
        have h24 : ¬ (¬ leastL (-1) f.app f.lost < 0 ∧ boundR f n = false) := by simp_all
        refine wpT_seq ?_
        refine wpT_region (by kernel_rfl) (fun K hK => ?_)
        simp only [↓SP, SX, SW, TY, EN, sv_w, ↓reduceIte, reduceCtorEq, Nat.reduceEqDiff, Nat.reduceAdd, Nat.reduceLeDiff, Nat.reduceLT, Fan.av, hc15, hc21, hg32]
        refine guardO_split (fun hg41 => ?_) (fun hg41 => ?_)
        · skip
          have p41 := hg41
          try simp only [decide_eq_true_eq, decide_eq_false_iff_not, beq_iff_eq, bne_iff_ne, beq_eq_false_iff_ne, bne_eq_false_iff_eq, Bool.not_eq_true', Bool.not_eq_false'] at p41
          simp only [↓SP, SX, SW, TY, EN, sv_w, ↓reduceIte, reduceCtorEq, Nat.reduceEqDiff, Nat.reduceAdd, Nat.reduceLeDiff, Nat.reduceLT, Fan.av, hc15, hc21, hg32, hg41]
          refine Pu.call (c76 f hf.ok ha1 ha0) ?_
          simp only [↓SP, SX, SW, TY, EN, sv_w, ↓reduceIte, reduceCtorEq, Nat.reduceEqDiff, Nat.reduceAdd, Nat.reduceLeDiff, Nat.reduceLT, Fan.av, hc15, hc21, hg32, hg41]
          refine guardO_split (fun hg46 => ?_) (fun hg46 => ?_)
          · skip
            have p46 := hg46
            try simp only [decide_eq_true_eq, decide_eq_false_iff_not, beq_iff_eq, bne_iff_ne, beq_eq_false_iff_ne, bne_eq_false_iff_eq, Bool.not_eq_true', Bool.not_eq_false'] at p46
            simp only [↓SP, SX, SW, TY, EN, sv_w, ↓reduceIte, reduceCtorEq, Nat.reduceEqDiff, Nat.reduceAdd, Nat.reduceLeDiff, Nat.reduceLT, Fan.av, hc15, hc21, hg32, hg41, hg46]
            refine hK _ _ ?_
            clear hK K
            refine wpT_if (by rfl) (fun hc39 => ?_) (fun hc39 => ?_)
            · skip
              have p39 := hc39
              try simp only [decide_eq_true_eq, decide_eq_false_iff_not, beq_iff_eq, bne_iff_ne, beq_eq_false_iff_ne, bne_eq_false_iff_eq, Bool.not_eq_true', Bool.not_eq_false'] at p39
              have hx : joinE f k n = 2 := by rw [joinE, if_neg h14, if_neg h17, if_neg h24, if_pos (by simp_all)]
              have hy : joinF f k n = fan0 := joinF_err hx (by omega)
              refine wpT_seq ?_
              refine wpT_region (by kernel_rfl) (fun K hK => ?_)
              simp only [↓SP, SX, SW, TY, EN, sv_w, ↓reduceIte, reduceCtorEq, Nat.reduceEqDiff, Nat.reduceAdd, Nat.reduceLeDiff, Nat.reduceLT, Fan.av, hc15, hc21, hg32, hg41, hg46, hc39]
              refine hK _ _ ?_
              clear hK K
              refine wpT_ret ⟨.inr rfl, ?_⟩
              show optK (resA _ _ _ [.cell 6 49, .tmp 7]) _
              simp only [SR, Option.map_some, Option.bind_some, ↓SP, SX, SW, TY, EN, sv_w, ↓reduceIte, reduceCtorEq, Nat.reduceEqDiff, Nat.reduceAdd, Nat.reduceLeDiff, Nat.reduceLT, Fan.av, hc15, hc21, hg32, hg41, hg46, hc39]
              rw [hy, hx]
              first
                | exact Lend.tupL (LendL.cons fan0_lend (LendL.cons (.refl _) LendL.nil))
                | exact Lend.tupL (LendL.cons (Lend.aggL (fan_lendL (by simp only [↓SP, SX, SW, TY, EN, sv_w, ↓reduceIte, reduceCtorEq, Nat.reduceEqDiff, Nat.reduceAdd, Nat.reduceLeDiff, Nat.reduceLT]) (by simp only [↓SP, SX, SW, TY, EN, sv_w, ↓reduceIte, reduceCtorEq, Nat.reduceEqDiff, Nat.reduceAdd, Nat.reduceLeDiff, Nat.reduceLT, List.map_set]) (by simp only [↓SP, SX, SW, TY, EN, sv_w, ↓reduceIte, reduceCtorEq, Nat.reduceEqDiff, Nat.reduceAdd, Nat.reduceLeDiff, Nat.reduceLT, List.map_set]) rfl (by simp) (by simp))) (LendL.cons (.refl _) LendL.nil))
            · skip
              have p39 := hc39
              try simp only [decide_eq_true_eq, decide_eq_false_iff_not, beq_iff_eq, bne_iff_ne, beq_eq_false_iff_ne, bne_eq_false_iff_eq, Bool.not_eq_true', Bool.not_eq_false'] at p39
              have hx : joinE f k n = 0 := by rw [joinE, if_neg h14, if_neg h17, if_neg h24, if_neg (by simp_all <;> omega)]
              have hy := joinF_ok hx
              have hto : (k : Int).toNat = k := rfl
              have hkz : (k : Int) < (f.app.length : Int) := by omega
              have hkz' : (k : Int) < (f.lost.length : Int) := by omega
              have hkz0 : (0 : Int) ≤ (k : Int) := by omega
              rw [hto] at hy
              refine wpT_skip ?_
              refine wpT_inBlock ?_
              refine wpT_seq ?_
              refine wpT_region (by kernel_rfl) (fun K hK => ?_)
              simp only [↓SP, SX, SW, TY, EN, sv_w, ↓reduceIte, reduceCtorEq, Nat.reduceEqDiff, Nat.reduceAdd, Nat.reduceLeDiff, Nat.reduceLT, Fan.av, hc15, hc21, hg32, hg41, hg46, hc39]
              refine copied_call hf ha1 (by omega) ?_
              simp only [↓SP, SX, SW, TY, EN, sv_w, ↓reduceIte, reduceCtorEq, Nat.reduceEqDiff, Nat.reduceAdd, Nat.reduceLeDiff, Nat.reduceLT, Fan.av, hc15, hc21, hg32, hg41, hg46, hc39]
              refine hK _ _ ?_
              clear hK K
              refine wpT_seq ?_
              refine wpT_drawn [(3, 8), (4, 8)] mixed (by kernel_rfl) (m := 11) rfl (fun K hK => ?_)
              simp only [↓SP, SX, SW, TY, EN, sv_w, ↓reduceIte, reduceCtorEq, Nat.reduceEqDiff, Nat.reduceAdd, Nat.reduceLeDiff, Nat.reduceLT, Fan.av, stO_arr, app_set, Option.bind_some, Nat.le_refl, hg, hg', hkz, hkz', hkz0, Int.toNat_natCast, List.cons_append, List.mem_singleton, hc15, hc21, hg32, hg41, hg46, hc39]
              refine hK _ _ ?_
              clear hK K
              refine wpT_seq ?_
              refine wpT_region (by kernel_rfl) (fun K hK => ?_)
              simp only [↓SP, SX, SW, TY, EN, sv_w, ↓reduceIte, reduceCtorEq, Nat.reduceEqDiff, Nat.reduceAdd, Nat.reduceLeDiff, Nat.reduceLT, Fan.av, hc15, hc21, hg32, hg41, hg46, hc39]
              refine hK _ _ ?_
              clear hK K
              refine wpT_ret ⟨.inr rfl, ?_⟩
              show optK (resA _ _ _ [.cell 6 49, .tmp 7]) _
              simp only [SR, Option.map_some, Option.bind_some, ↓SP, SX, SW, TY, EN, sv_w, ↓reduceIte, reduceCtorEq, Nat.reduceEqDiff, Nat.reduceAdd, Nat.reduceLeDiff, Nat.reduceLT, Fan.av, hc15, hc21, hg32, hg41, hg46, hc39]
              rw [hy, hx]
              first
                | exact Lend.tupL (LendL.cons fan0_lend (LendL.cons (.refl _) LendL.nil))
                | exact Lend.tupL (LendL.cons (Lend.aggL (fan_lendL (by simp only [↓SP, SX, SW, TY, EN, sv_w, ↓reduceIte, reduceCtorEq, Nat.reduceEqDiff, Nat.reduceAdd, Nat.reduceLeDiff, Nat.reduceLT]) (by simp only [↓SP, SX, SW, TY, EN, sv_w, ↓reduceIte, reduceCtorEq, Nat.reduceEqDiff, Nat.reduceAdd, Nat.reduceLeDiff, Nat.reduceLT, List.map_set]) (by simp only [↓SP, SX, SW, TY, EN, sv_w, ↓reduceIte, reduceCtorEq, Nat.reduceEqDiff, Nat.reduceAdd, Nat.reduceLeDiff, Nat.reduceLT, List.map_set]) rfl (by simp) (by simp))) (LendL.cons (.refl _) LendL.nil))
          · skip
            simp only [Bool.not_true, Bool.not_false] at hg46
            have p46 := hg46
            try simp only [decide_eq_true_eq, decide_eq_false_iff_not, beq_iff_eq, bne_iff_ne, beq_eq_false_iff_ne, bne_eq_false_iff_eq, Bool.not_eq_true', Bool.not_eq_false'] at p46
            simp only [↓SP, SX, SW, TY, EN, sv_w, ↓reduceIte, reduceCtorEq, Nat.reduceEqDiff, Nat.reduceAdd, Nat.reduceLeDiff, Nat.reduceLT, Fan.av, hc15, hc21, hg32, hg41, hg46]
            refine hK _ _ ?_
            clear hK K
            refine wpT_ifT (by simp only [↓SP, SX, SW, TY, EN, sv_w, ↓reduceIte, reduceCtorEq, Nat.reduceEqDiff, Nat.reduceAdd, Nat.reduceLeDiff, Nat.reduceLT, Fan.av, hc15, hc21, hg32, hg41, hg46]) ?_
            have hx : joinE f k n = 2 := by rw [joinE, if_neg h14, if_neg h17, if_neg h24, if_pos (by simp_all)]
            have hy : joinF f k n = fan0 := joinF_err hx (by omega)
            refine wpT_seq ?_
            refine wpT_region (by kernel_rfl) (fun K hK => ?_)
            simp only [↓SP, SX, SW, TY, EN, sv_w, ↓reduceIte, reduceCtorEq, Nat.reduceEqDiff, Nat.reduceAdd, Nat.reduceLeDiff, Nat.reduceLT, Fan.av, hc15, hc21, hg32, hg41, hg46]
            refine hK _ _ ?_
            clear hK K
            refine wpT_ret ⟨.inr rfl, ?_⟩
            show optK (resA _ _ _ [.cell 6 49, .tmp 7]) _
            simp only [SR, Option.map_some, Option.bind_some, ↓SP, SX, SW, TY, EN, sv_w, ↓reduceIte, reduceCtorEq, Nat.reduceEqDiff, Nat.reduceAdd, Nat.reduceLeDiff, Nat.reduceLT, Fan.av, hc15, hc21, hg32, hg41, hg46]
            rw [hy, hx]
            first
              | exact Lend.tupL (LendL.cons fan0_lend (LendL.cons (.refl _) LendL.nil))
              | exact Lend.tupL (LendL.cons (Lend.aggL (fan_lendL (by simp only [↓SP, SX, SW, TY, EN, sv_w, ↓reduceIte, reduceCtorEq, Nat.reduceEqDiff, Nat.reduceAdd, Nat.reduceLeDiff, Nat.reduceLT]) (by simp only [↓SP, SX, SW, TY, EN, sv_w, ↓reduceIte, reduceCtorEq, Nat.reduceEqDiff, Nat.reduceAdd, Nat.reduceLeDiff, Nat.reduceLT, List.map_set]) (by simp only [↓SP, SX, SW, TY, EN, sv_w, ↓reduceIte, reduceCtorEq, Nat.reduceEqDiff, Nat.reduceAdd, Nat.reduceLeDiff, Nat.reduceLT, List.map_set]) rfl (by simp) (by simp))) (LendL.cons (.refl _) LendL.nil))
        · skip
          simp only [Bool.not_true, Bool.not_false] at hg41
          have p41 := hg41
          try simp only [decide_eq_true_eq, decide_eq_false_iff_not, beq_iff_eq, bne_iff_ne, beq_eq_false_iff_ne, bne_eq_false_iff_eq, Bool.not_eq_true', Bool.not_eq_false'] at p41
          simp only [↓SP, SX, SW, TY, EN, sv_w, ↓reduceIte, reduceCtorEq, Nat.reduceEqDiff, Nat.reduceAdd, Nat.reduceLeDiff, Nat.reduceLT, Fan.av, hc15, hc21, hg32, hg41]
          refine hK _ _ ?_
          clear hK K
          refine wpT_ifF (by simp only [↓SP, SX, SW, TY, EN, sv_w, ↓reduceIte, reduceCtorEq, Nat.reduceEqDiff, Nat.reduceAdd, Nat.reduceLeDiff, Nat.reduceLT, Fan.av, hc15, hc21, hg32, hg41]) ?_
          have hx : joinE f k n = 0 := by rw [joinE, if_neg h14, if_neg h17, if_neg h24, if_neg (by simp_all <;> omega)]
          have hy := joinF_ok hx
          have hto : (k : Int).toNat = k := rfl
          have hkz : (k : Int) < (f.app.length : Int) := by omega
          have hkz' : (k : Int) < (f.lost.length : Int) := by omega
          have hkz0 : (0 : Int) ≤ (k : Int) := by omega
          rw [hto] at hy
          refine wpT_skip ?_
          refine wpT_inBlock ?_
          refine wpT_seq ?_
          refine wpT_region (by kernel_rfl) (fun K hK => ?_)
          simp only [↓SP, SX, SW, TY, EN, sv_w, ↓reduceIte, reduceCtorEq, Nat.reduceEqDiff, Nat.reduceAdd, Nat.reduceLeDiff, Nat.reduceLT, Fan.av, hc15, hc21, hg32, hg41]
          refine copied_call hf ha1 (by omega) ?_
          simp only [↓SP, SX, SW, TY, EN, sv_w, ↓reduceIte, reduceCtorEq, Nat.reduceEqDiff, Nat.reduceAdd, Nat.reduceLeDiff, Nat.reduceLT, Fan.av, hc15, hc21, hg32, hg41]
          refine hK _ _ ?_
          clear hK K
          refine wpT_seq ?_
          refine wpT_drawn [(3, 8), (4, 8)] mixed (by kernel_rfl) (m := 11) rfl (fun K hK => ?_)
          simp only [↓SP, SX, SW, TY, EN, sv_w, ↓reduceIte, reduceCtorEq, Nat.reduceEqDiff, Nat.reduceAdd, Nat.reduceLeDiff, Nat.reduceLT, Fan.av, stO_arr, app_set, Option.bind_some, Nat.le_refl, hg, hg', hkz, hkz', hkz0, Int.toNat_natCast, List.cons_append, List.mem_singleton, hc15, hc21, hg32, hg41]
          refine hK _ _ ?_
          clear hK K
          refine wpT_seq ?_
          refine wpT_region (by kernel_rfl) (fun K hK => ?_)
          simp only [↓SP, SX, SW, TY, EN, sv_w, ↓reduceIte, reduceCtorEq, Nat.reduceEqDiff, Nat.reduceAdd, Nat.reduceLeDiff, Nat.reduceLT, Fan.av, hc15, hc21, hg32, hg41]
          refine hK _ _ ?_
          clear hK K
          refine wpT_ret ⟨.inr rfl, ?_⟩
          show optK (resA _ _ _ [.cell 6 49, .tmp 7]) _
          simp only [SR, Option.map_some, Option.bind_some, ↓SP, SX, SW, TY, EN, sv_w, ↓reduceIte, reduceCtorEq, Nat.reduceEqDiff, Nat.reduceAdd, Nat.reduceLeDiff, Nat.reduceLT, Fan.av, hc15, hc21, hg32, hg41]
          rw [hy, hx]
          first
            | exact Lend.tupL (LendL.cons fan0_lend (LendL.cons (.refl _) LendL.nil))
            | exact Lend.tupL (LendL.cons (Lend.aggL (fan_lendL (by simp only [↓SP, SX, SW, TY, EN, sv_w, ↓reduceIte, reduceCtorEq, Nat.reduceEqDiff, Nat.reduceAdd, Nat.reduceLeDiff, Nat.reduceLT]) (by simp only [↓SP, SX, SW, TY, EN, sv_w, ↓reduceIte, reduceCtorEq, Nat.reduceEqDiff, Nat.reduceAdd, Nat.reduceLeDiff, Nat.reduceLT, List.map_set]) (by simp only [↓SP, SX, SW, TY, EN, sv_w, ↓reduceIte, reduceCtorEq, Nat.reduceEqDiff, Nat.reduceAdd, Nat.reduceLeDiff, Nat.reduceLT, List.map_set]) rfl (by simp) (by simp))) (LendL.cons (.refl _) LendL.nil))
end Go.Proofs.YtlmjpgmaefokdaaGreat
end

section
set_option linter.unusedSimpArgs false
set_option linter.unusedVariables false
namespace Go.Proofs.YtlmjpgmaefokdaaGreat
open Go.Proofs
set_option maxRecDepth 10000
theorem c90 (f : Fan) (t : Int) : Pu Tryz.prog (.fn (.func 90) [] []) [f.av, I t] (.fn (.func 153) [] [.cptr f.av, .cptr (I t)]) := by
  refine pu_func Tryz.func90 rfl (by kernel_rfl) (by show _ ≤ 6; simp only [List.length_append, List.length_cons, List.length_nil]; decide) (by simp only [IDF, fan_idf, and_tt]) (by simp only [IDF, and_tt, implies_true]) (by simp only [IDF, fan_idf, and_tt, implies_true]) ?_
  rw [Tryz.ntmps90]
  refine wpT_seq ?_
  refine wpT_region (by kernel_rfl) (fun K hK => ?_)
  simp only [↓SP, SX, SW, TY, EN, sv_w, ↓reduceIte, reduceCtorEq, Nat.reduceEqDiff, Nat.reduceAdd, Nat.reduceLeDiff, Nat.reduceLT]
  refine hK _ _ ?_
  clear hK K
  refine wpT_seq ?_
  refine wpT_region (by kernel_rfl) (fun K hK => ?_)
  simp only [↓SP, SX, SW, TY, EN, sv_w, ↓reduceIte, reduceCtorEq, Nat.reduceEqDiff, Nat.reduceAdd, Nat.reduceLeDiff, Nat.reduceLT]
  refine hK _ _ ?_
  clear hK K
  refine wpT_ret ⟨.inr rfl, ?_⟩
  show optK (resA _ _ _ [.tmp 4]) _
  simp only [SR, Option.map_some, Option.bind_some, ↓SP, SX, SW, TY, EN, sv_w, ↓reduceIte, reduceCtorEq, Nat.reduceEqDiff, Nat.reduceAdd, Nat.reduceLeDiff, Nat.reduceLT]
  exact Lend.fnL LendL.nil (LendL.cons (Lend.ptr1 (E := 49) (s := 4) (by simp only [↓SP, SX, SW, TY, EN, sv_w, ↓reduceIte, reduceCtorEq, Nat.reduceEqDiff, Nat.reduceAdd, Nat.reduceLeDiff, Nat.reduceLT]) rfl) (LendL.cons (Lend.ptr1 (E := 3) (s := 1) (by simp only [↓SP, SX, SW, TY, EN, sv_w, ↓reduceIte, reduceCtorEq, Nat.reduceEqDiff, Nat.reduceAdd, Nat.reduceLeDiff, Nat.reduceLT]) rfl) LendL.nil))
theorem c153 (f : Fan) (k : Nat) (hf : f.ok) (hk : k < f.app.length) (yv : AV) (In : List Cyc → Hp → Prop) (J : Hp → Prop) (h : Hp) (h0 : In f.kept h) (hst : ∀ cs h1 h2, In cs h1 → h1.nx ≤ h2.nx → (∀ id, id < h1.nx → h2.get id = h1.get id) → In cs h2) (hskip : ∀ c cs h', In (c :: cs) h' → ¬ c.num > f.app[k] → In cs h')
    (hy : ∀ c cs h', In (c :: cs) h' → c ∈ f.kept → c.num > f.app[k] → CallV Tryz.prog yv [c.av] h' fun v h'' => ∃ b, v = .bool b ∧ ((b = true ∧ In cs h'') ∨ (b = false ∧ J h''))) : CallV Tryz.prog (.fn (.func 153) [] [.cptr f.av, .cptr (I (k : Int))]) [yv] h fun _ h' => In [] h' ∨ J h' := by
  refine callV_func Tryz.func153 rfl (by kernel_rfl) (by show _ ≤ 28; simp only [List.length_append, List.length_cons, List.length_nil]; decide) ?_
  have hkl := hf.1
  have hga := at_map (f := I) hk
  rw [Tryz.ntmps153]
  refine wpT_seq ?_
  refine wpT_region (by kernel_rfl) (fun K hK => ?_)
  simp only [↓SP, SX, SW, TY, EN, sv_w, ↓reduceIte, reduceCtorEq, Nat.reduceEqDiff, Nat.reduceAdd, Nat.reduceLeDiff, Nat.reduceLT, List.cons_append, Fan.av]
  refine hK _ _ ?_
  clear hK K
  refine wpT_block ?_
  refine wpT_loop ?_
  refine wpT_ind (fun (i : Nat) tm' h' => In (f.kept.drop i) h' ∧ tm' 0 = yv ∧ tm' 1 = .cptr f.av ∧ tm' 2 = .cptr (I (k : Int)) ∧ tm' 7 = .lst (f.kept.map Cyc.av) ∧ tm' 8 = I f.kept.length ∧ tm' 9 = I i ∧ i ≤ f.kept.length) (fun i => f.kept.length - i) ?_ 0 ⟨by simpa using h0, rfl, rfl, rfl, rfl, rfl, rfl, by omega⟩
  rintro i tm' h' ⟨hI, e0, e1, e2, e7, e8, e9, hi⟩ IH
  refine wpT_inLoop ?_
  refine wpT_seq ?_
  refine wpT_region (by kernel_rfl) (fun K hK => ?_)
  simp only [↓SP, SX, SW, TY, EN, sv_w, ↓reduceIte, reduceCtorEq, Nat.reduceEqDiff, Nat.reduceAdd, Nat.reduceLeDiff, Nat.reduceLT, List.cons_append, Fan.av, e8, e9]
  refine hK _ _ ?_
  clear hK K
  refine wpT_seq ?_
  refine wpT_if (by rfl) (fun hc10 => ?_) (fun hc10 => ?_)
  · skip
    have p10 := hc10
    try simp only [decide_eq_true_eq, decide_eq_false_iff_not, beq_iff_eq, bne_iff_ne, beq_eq_false_iff_ne, bne_eq_false_iff_eq, Bool.not_eq_true', Bool.not_eq_false'] at p10
    have hlt : i < f.kept.length := by omega
    have hg := at_map (f := Cyc.av) hlt
    have hIc := hI
    rw [List.drop_eq_getElem_cons hlt] at hIc
    refine wpT_skip ?_
    refine wpT_seq ?_
    refine wpT_block ?_
    refine wpT_seq ?_
    refine wpT_region (by kernel_rfl) (fun K hK => ?_)
    simp only [↓SP, SX, SW, TY, EN, sv_w, ↓reduceIte, reduceCtorEq, Nat.reduceEqDiff, Nat.reduceAdd, Nat.reduceLeDiff, Nat.reduceLT, List.cons_append, Fan.av, e7, e9, hg, hc10]
    refine hK _ _ ?_
    clear hK K
    refine wpT_seq ?_
    refine wpT_drawB 11 [] mixed (by kernel_rfl) (m := 14) rfl (fun K hK => ?_)
    simp only [↓SP, SX, SW, TY, EN, sv_w, ↓reduceIte, reduceCtorEq, Nat.reduceEqDiff, Nat.reduceAdd, Nat.reduceLeDiff, Nat.reduceLT, List.cons_append, Fan.av, e0, e1, e2, hga, Cyc.av, List.take_succ_cons, List.take_zero, List.drop_succ_cons, List.drop_zero, hc10]
    refine guardD_split (fun hg21 => ?_) (fun hg21 => ?_)
    · skip
      have p21 := hg21
      try simp only [decide_eq_true_eq, decide_eq_false_iff_not, beq_iff_eq, bne_iff_ne, beq_eq_false_iff_ne, bne_eq_false_iff_eq, Bool.not_eq_true', Bool.not_eq_false'] at p21
      simp only [↓SP, SX, SW, TY, EN, sv_w, ↓reduceIte, reduceCtorEq, Nat.reduceEqDiff, Nat.reduceAdd, Nat.reduceLeDiff, Nat.reduceLT, List.cons_append, Fan.av, e0, e1, e2, hga, Cyc.av, List.take_succ_cons, List.take_zero, List.drop_succ_cons, List.drop_zero, hc10, hg21]
      refine (hy f.kept[i] (f.kept.drop (i + 1)) _ (hst _ _ _ hIc ?_ ?_) (List.getElem_mem hlt) p21).mono ?_
      · simp only [↓SP, SX, SW, TY, EN, sv_w, ↓reduceIte, reduceCtorEq, Nat.reduceEqDiff, Nat.reduceAdd, Nat.reduceLeDiff, Nat.reduceLT]
        omega
      · intro id hid
        simp only [↓SP, SX, SW, TY, EN, sv_w, ↓reduceIte, reduceCtorEq, Nat.reduceEqDiff, Nat.reduceAdd, Nat.reduceLeDiff, Nat.reduceLT]
        have q1 : ¬ id = h'.nx := by omega
        simp only [if_neg q1]
      rintro _ h2 ⟨bb, rfl, hb⟩
      simp only [↓SP, SX, SW, TY, EN, sv_w, ↓reduceIte, reduceCtorEq, Nat.reduceEqDiff, Nat.reduceAdd, Nat.reduceLeDiff, Nat.reduceLT, List.cons_append, Fan.av, e0, e1, e2, hga, Cyc.av, List.take_succ_cons, List.take_zero, List.drop_succ_cons, List.drop_zero, hc10, hg21]
      refine hK _ _ ?_
      clear hK K
      refine wpT_if (by rfl) (fun hc26 => ?_) (fun hc26 => ?_)
      · skip
        have p26 := hc26
        try simp only [decide_eq_true_eq, decide_eq_false_iff_not, beq_iff_eq, bne_iff_ne, beq_eq_false_iff_ne, bne_eq_false_iff_eq, Bool.not_eq_true', Bool.not_eq_false'] at p26
        refine wpT_ret ⟨.inr rfl, ?_⟩
        show optK (resA _ _ _ []) _
        simp only [SR, Option.map_some, Option.bind_some, ↓SP, SX, SW, TY, EN, sv_w, ↓reduceIte, reduceCtorEq, Nat.reduceEqDiff, Nat.reduceAdd, Nat.reduceLeDiff, Nat.reduceLT, List.cons_append, Fan.av, hc10, hg21, hc26]
        rcases hb with ⟨hb, _⟩ | ⟨_, hb⟩
        · simp_all
        · exact .inr hb
      · skip
        have p26 := hc26
        try simp only [decide_eq_true_eq, decide_eq_false_iff_not, beq_iff_eq, bne_iff_ne, beq_eq_false_iff_ne, bne_eq_false_iff_eq, Bool.not_eq_true', Bool.not_eq_false'] at p26
        refine wpT_skip ?_
        refine wpT_inBlock ?_
        refine wpT_region (by kernel_rfl) (fun K hK => ?_)
        simp only [↓SP, SX, SW, TY, EN, sv_w, ↓reduceIte, reduceCtorEq, Nat.reduceEqDiff, Nat.reduceAdd, Nat.reduceLeDiff, Nat.reduceLT, List.cons_append, Fan.av, e9, wrap64 (x := (i : Int) + 1) (by omega) (by omega), hc10, hg21, hc26]
        refine hK _ _ ?_
        clear hK K
        refine IH (i + 1) _ _ (by omega) ⟨?_, by simp only [↓SP, SX, SW, TY, EN, sv_w, ↓reduceIte, reduceCtorEq, Nat.reduceEqDiff, Nat.reduceAdd, Nat.reduceLeDiff, Nat.reduceLT, e0], by simp only [↓SP, SX, SW, TY, EN, sv_w, ↓reduceIte, reduceCtorEq, Nat.reduceEqDiff, Nat.reduceAdd, Nat.reduceLeDiff, Nat.reduceLT, e1], by simp only [↓SP, SX, SW, TY, EN, sv_w, ↓reduceIte, reduceCtorEq, Nat.reduceEqDiff, Nat.reduceAdd, Nat.reduceLeDiff, Nat.reduceLT, e2], by simp only [↓SP, SX, SW, TY, EN, sv_w, ↓reduceIte, reduceCtorEq, Nat.reduceEqDiff, Nat.reduceAdd, Nat.reduceLeDiff, Nat.reduceLT, e7], by simp only [↓SP, SX, SW, TY, EN, sv_w, ↓reduceIte, reduceCtorEq, Nat.reduceEqDiff, Nat.reduceAdd, Nat.reduceLeDiff, Nat.reduceLT, e8], by simp only [↓SP, SX, SW, TY, EN, sv_w, ↓reduceIte, reduceCtorEq, Nat.reduceEqDiff, Nat.reduceAdd, Nat.reduceLeDiff, Nat.reduceLT, Int.natCast_add, Int.cast_ofNat_Int], by omega⟩
        first
          | (rcases hb with ⟨_, hb⟩ | ⟨hb, _⟩
             · exact hb
             · simp_all)
          | (refine hst _ _ _ (hskip _ _ _ hIc p21) ?_ ?_
             · simp only [↓SP, SX, SW, TY, EN, sv_w, ↓reduceIte, reduceCtorEq, Nat.reduceEqDiff, Nat.reduceAdd, Nat.reduceLeDiff, Nat.reduceLT]
               omega
             · intro id hid
               simp only [↓SP, SX, SW, TY, EN, sv_w, ↓reduceIte, reduceCtorEq, Nat.reduceEqDiff, Nat.reduceAdd, Nat.reduceLeDiff, Nat.reduceLT]
               have q1 : ¬ id = h'.nx := by omega
               simp only [if_neg q1])
    · skip
      simp only [Bool.not_true, Bool.not_false] at hg21
      have p21 := hg21
      try simp only [decide_eq_true_eq, decide_eq_false_iff_not, beq_iff_eq, bne_iff_ne, beq_eq_false_iff_ne, bne_eq_false_iff_eq, Bool.not_eq_true', Bool.not_eq_false'] at p21
      simp only [↓SP, SX, SW, TY, EN, sv_w, ↓reduceIte, reduceCtorEq, Nat.reduceEqDiff, Nat.reduceAdd, Nat.reduceLeDiff, Nat.reduceLT, List.cons_append, Fan.av, e0, e1, e2, hga, Cyc.av, List.take_succ_cons, List.take_zero, List.drop_succ_cons, List.drop_zero, hc10, hg21]
      refine hK _ _ ?_
      clear hK K
      refine wpT_ifF (by simp only [↓SP, SX, SW, TY, EN, sv_w, ↓reduceIte, reduceCtorEq, Nat.reduceEqDiff, Nat.reduceAdd, Nat.reduceLeDiff, Nat.reduceLT, List.cons_append, Fan.av, hc10, hg21]) ?_
      refine wpT_skip ?_
      refine wpT_inBlock ?_
      refine wpT_region (by kernel_rfl) (fun K hK => ?_)
      simp only [↓SP, SX, SW, TY, EN, sv_w, ↓reduceIte, reduceCtorEq, Nat.reduceEqDiff, Nat.reduceAdd, Nat.reduceLeDiff, Nat.reduceLT, List.cons_append, Fan.av, e9, wrap64 (x := (i : Int) + 1) (by omega) (by omega), hc10, hg21]
      refine hK _ _ ?_
      clear hK K
      refine IH (i + 1) _ _ (by omega) ⟨?_, by simp only [↓SP, SX, SW, TY, EN, sv_w, ↓reduceIte, reduceCtorEq, Nat.reduceEqDiff, Nat.reduceAdd, Nat.reduceLeDiff, Nat.reduceLT, e0], by simp only [↓SP, SX, SW, TY, EN, sv_w, ↓reduceIte, reduceCtorEq, Nat.reduceEqDiff, Nat.reduceAdd, Nat.reduceLeDiff, Nat.reduceLT, e1], by simp only [↓SP, SX, SW, TY, EN, sv_w, ↓reduceIte, reduceCtorEq, Nat.reduceEqDiff, Nat.reduceAdd, Nat.reduceLeDiff, Nat.reduceLT, e2], by simp only [↓SP, SX, SW, TY, EN, sv_w, ↓reduceIte, reduceCtorEq, Nat.reduceEqDiff, Nat.reduceAdd, Nat.reduceLeDiff, Nat.reduceLT, e7], by simp only [↓SP, SX, SW, TY, EN, sv_w, ↓reduceIte, reduceCtorEq, Nat.reduceEqDiff, Nat.reduceAdd, Nat.reduceLeDiff, Nat.reduceLT, e8], by simp only [↓SP, SX, SW, TY, EN, sv_w, ↓reduceIte, reduceCtorEq, Nat.reduceEqDiff, Nat.reduceAdd, Nat.reduceLeDiff, Nat.reduceLT, Int.natCast_add, Int.cast_ofNat_Int], by omega⟩
      first
        | (rcases hb with ⟨_, hb⟩ | ⟨hb, _⟩
           · exact hb
           · simp_all)
        | (refine hst _ _ _ (hskip _ _ _ hIc p21) ?_ ?_
           · simp only [↓SP, SX, SW, TY, EN, sv_w, ↓reduceIte, reduceCtorEq, Nat.reduceEqDiff, Nat.reduceAdd, Nat.reduceLeDiff, Nat.reduceLT]
             omega
           · intro id hid
             simp only [↓SP, SX, SW, TY, EN, sv_w, ↓reduceIte, reduceCtorEq, Nat.reduceEqDiff, Nat.reduceAdd, Nat.reduceLeDiff, Nat.reduceLT]
             have q1 : ¬ id = h'.nx := by omega
             simp only [if_neg q1])
  · skip
    have p10 := hc10
    try simp only [decide_eq_true_eq, decide_eq_false_iff_not, beq_iff_eq, bne_iff_ne, beq_eq_false_iff_ne, bne_eq_false_iff_eq, Bool.not_eq_true', Bool.not_eq_false'] at p10
    refine wpT_exit rfl ?_
    refine wpT_end ⟨.inl rfl, ?_⟩
    show optK (resA _ _ _ []) _
    simp only [SR, Option.map_some, Option.bind_some, ↓SP, SX, SW, TY, EN, sv_w, ↓reduceIte, reduceCtorEq, Nat.reduceEqDiff, Nat.reduceAdd, Nat.reduceLeDiff, Nat.reduceLT, List.cons_append, Fan.av, hc10]
    rw [List.drop_eq_nil_of_le (by omega)] at hI
    exact .inl hI
end Go.Proofs.YtlmjpgmaefokdaaGreat
end

section
set_option linter.unusedSimpArgs false
set_option linter.unusedVariables false
namespace Go.Proofs.YtlmjpgmaefokdaaGreat
open Go.Proofs
set_option maxRecDepth 10000
def cyc0 : Cyc := ⟨0, 0, 0, [], []⟩
def nextC (f : Fan) (t : Int) : Option Cyc := if existsE f t ≠ 0 ∨ f.lost.getD t.toNat false = true then none else f.kept.find? fun c => decide (c.num > f.app.getD t.toNat 0)
theorem cyc0_lend {g : Nat → Option Ob} : Lend g (.agg [I 0, I 0, I 0, .nil0, .nil0]) cyc0.av :=
  Lend.aggL (LendL.cons (.refl _) (LendL.cons (.refl _) (LendL.cons (.refl _) (LendL.cons .nil0 (LendL.cons .nil0 LendL.nil)))))
theorem nextC_none {f : Fan} {t : Int} (h : existsE f t ≠ 0 ∨ f.lost.getD t.toNat false = true) : nextC f t = none := if_pos h
theorem nextC_find {f : Fan} {t : Int} (h : ¬ (existsE f t ≠ 0 ∨ f.lost.getD t.toNat false = true)) : nextC f t = f.kept.find? fun c => decide (c.num > f.app.getD t.toNat 0) := if_neg h
def nextI (f : Fan) (k l : Nat) (fid : FuncId) (ps : Array Tmp) (assign body : Code) (tm : Tm) (cs : List Cyc) (h : Hp) : Prop :=
  4 ≤ h.nx ∧ h.get 1 = some (.arr 52 5 [.agg [I 0, I 0, I 0, .nil0, .nil0]]) ∧ h.get 2 = some (.arr 4 1 [.bool false]) ∧ h.get 3 = some (.loop l fid ps assign body tm 26 .ready none) ∧ nextC f k = cs.find? fun c => decide (c.num > f.app.getD k 0)
def nextJ (f : Fan) (k l : Nat) (fid : FuncId) (ps : Array Tmp) (assign body : Code) (tm : Tm) (h : Hp) : Prop :=
  ∃ c, nextC f k = some c ∧ h.get 1 = some (.arr 52 5 [c.av]) ∧ h.get 2 = some (.arr 4 1 [.bool true]) ∧ h.get 3 = some (.loop l fid ps assign body tm 26 .done (some .ret))
theorem next_call (f : Fan) (k : Nat) (hf : f.sm) (hk : k < f.app.length) {l : Nat} {fid : FuncId} {ps : Array Tmp} {assign body : Code} {tm : Tm} {h : Hp} {K : AV → Hp → Prop} (h0 : nextI f k l fid ps assign body tm f.kept h)
    (hy : ∀ c cs h', nextI f k l fid ps assign body tm (c :: cs) h' → c ∈ f.kept → c.num > f.app[k] → CallV Tryz.prog (.fn (.yield l) [] []) [c.av] h' fun v h'' => ∃ b, v = .bool b ∧ ((b = true ∧ nextI f k l fid ps assign body tm cs h'') ∨ (b = false ∧ nextJ f k l fid ps assign body tm h'')))
    (hK : ∀ v h', nextI f k l fid ps assign body tm [] h' ∨ nextJ f k l fid ps assign body tm h' → K v h') : CallV Tryz.prog (.fn (.func 153) [] [.cptr f.av, .cptr (I (k : Int))]) [.fn (.yield l) [] []] h K := by
  have hA' : f.app.getD k 0 = f.app[k] := by simp [hk]
  exact CallV.mono (c153 f k hf.ok hk (.fn (.yield l) [] []) (nextI f k l fid ps assign body tm) (nextJ f k l fid ps assign body tm) _ h0 (fun cs h1 h2 ⟨q1, q2, q3, q4, q5⟩ hn hs => ⟨Nat.le_trans q1 hn, (hs 1 (by omega)).trans q2, (hs 2 (by omega)).trans q3, (hs 3 (by omega)).trans q4, q5⟩) (fun c cs h1 ⟨q1, q2, q3, q4, q5⟩ hn => ⟨q1, q2, q3, q4, q5.trans (by rw [List.find?_cons, hA', decide_eq_false hn])⟩) hy) hK
theorem c23 (f : Fan) (t : Int) (hf : f.sm) : Pu Tryz.prog (.fn (.func 23) [] []) [f.av, I t] (.tup [((nextC f t).getD cyc0).av, B (nextC f t).isSome]) := by
  refine pu_func Tryz.func23 rfl (by kernel_rfl) (by show _ ≤ 26; simp only [List.length_append, List.length_cons, List.length_nil]; decide) (by simp only [IDF, cyc_idf, and_tt]) (by simp only [IDF, and_tt, implies_true]) (by simp only [IDF, fan_idf, and_tt, implies_true]) ?_
  rw [Tryz.ntmps23]
  refine wpT_seq ?_
  refine wpT_region (by kernel_rfl) (fun K hK => ?_)
  simp only [↓SP, SX, SW, TY, EN, sv_w, ↓reduceIte, reduceCtorEq, Nat.reduceEqDiff, Nat.reduceAdd, Nat.reduceLeDiff, Nat.reduceLT, Fan.av]
  refine hK _ _ ?_
  clear hK K
  refine wpT_seq ?_
  refine wpT_seq ?_
  refine wpT_region (by kernel_rfl) (fun K hK => ?_)
  simp only [↓SP, SX, SW, TY, EN, sv_w, ↓reduceIte, reduceCtorEq, Nat.reduceEqDiff, Nat.reduceAdd, Nat.reduceLeDiff, Nat.reduceLT, Fan.av]
  refine Pu.call (c89 f t hf.ok) ?_
  simp only [↓SP, SX, SW, TY, EN, sv_w, ↓reduceIte, reduceCtorEq, Nat.reduceEqDiff, Nat.reduceAdd, Nat.reduceLeDiff, Nat.reduceLT, Fan.av]
  refine guardO_split (fun hg11 => ?_) (fun hg11 => ?_)
  · skip
    have p11 := hg11
    try simp only [decide_eq_true_eq, decide_eq_false_iff_not, beq_iff_eq, bne_iff_ne, beq_eq_false_iff_ne, bne_eq_false_iff_eq, Bool.not_eq_true', Bool.not_eq_false'] at p11
    obtain ⟨hc, ht0, htl⟩ := exists_ok (f := f) (t := t) (by omega)
    have h11 : existsE f t = 0 := by omega
    have hlen := chkF_len hc
    obtain ⟨k, rfl⟩ := Int.eq_ofNat_of_zero_le ht0
    have hk : k < f.app.length := by omega
    have hk' : k < f.lost.length := by omega
    have hg := at_map (f := I) hk
    have hg' := at_map (f := B) hk'
    have hA := getD_at (d := 0) hk
    have hL := getD_at (d := false) hk'
    have hA' : f.app.getD k 0 = f.app[k] := hA
    simp only [↓SP, SX, SW, TY, EN, sv_w, ↓reduceIte, reduceCtorEq, Nat.reduceEqDiff, Nat.reduceAdd, Nat.reduceLeDiff, Nat.reduceLT, Fan.av, hg', hg11]
    refine hK _ _ ?_
    clear hK K
    refine wpT_if (by rfl) (fun hc17 => ?_) (fun hc17 => ?_)
    · skip
      have p17 := hc17
      try simp only [decide_eq_true_eq, decide_eq_false_iff_not, beq_iff_eq, bne_iff_ne, beq_eq_false_iff_ne, bne_eq_false_iff_eq, Bool.not_eq_true', Bool.not_eq_false'] at p17
      try have hx : nextC f k = none := nextC_none (.inr (by rw [hL]; exact p17))
      refine wpT_seq ?_
      refine wpT_region (by kernel_rfl) (fun K hK => ?_)
      simp only [↓SP, SX, SW, TY, EN, sv_w, ↓reduceIte, reduceCtorEq, Nat.reduceEqDiff, Nat.reduceAdd, Nat.reduceLeDiff, Nat.reduceLT, Fan.av, hg', hg11, hc17]
      refine hK _ _ ?_
      clear hK K
      refine wpT_ret ⟨.inr rfl, ?_⟩
      show optK (resA _ _ _ [.cell 4 52, .cell 5 4]) _
      simp only [SR, Option.map_some, Option.bind_some, ↓SP, SX, SW, TY, EN, sv_w, ↓reduceIte, reduceCtorEq, Nat.reduceEqDiff, Nat.reduceAdd, Nat.reduceLeDiff, Nat.reduceLT, Fan.av, hg', hg11, hc17]
      rw [hx]
      exact Lend.tupL (LendL.cons cyc0_lend (LendL.cons (.refl _) LendL.nil))
    · skip
      have p17 := hc17
      try simp only [decide_eq_true_eq, decide_eq_false_iff_not, beq_iff_eq, bne_iff_ne, beq_eq_false_iff_ne, bne_eq_false_iff_eq, Bool.not_eq_true', Bool.not_eq_false'] at p17
      have hx := nextC_find (f := f) (t := k) (by rw [hL, h11]; simp_all)
      refine wpT_skip ?_
      refine wpT_seq ?_
      refine wpT_seq ?_
      refine wpT_region (by kernel_rfl) (fun K hK => ?_)
      simp only [↓SP, SX, SW, TY, EN, sv_w, ↓reduceIte, reduceCtorEq, Nat.reduceEqDiff, Nat.reduceAdd, Nat.reduceLeDiff, Nat.reduceLT, Fan.av, hg', hg11, hc17]
      refine Pu.call (c90 f k) ?_
      simp only [↓SP, SX, SW, TY, EN, sv_w, ↓reduceIte, reduceCtorEq, Nat.reduceEqDiff, Nat.reduceAdd, Nat.reduceLeDiff, Nat.reduceLT, Fan.av, hg', hg11, hc17]
      refine hK _ _ ?_
      clear hK K
      refine wpT_block ?_
      refine wpT_keep2 (i := 1) (j := 2) (o := .arr 52 5 [.agg [I 0, I 0, I 0, .nil0, .nil0]]) (q := .arr 4 1 [.bool false]) (by simp only [↓SP, SX, SW, TY, EN, sv_w, ↓reduceIte, reduceCtorEq, Nat.reduceEqDiff, Nat.reduceAdd, Nat.reduceLeDiff, Nat.reduceLT]) (by simp only [↓SP, SX, SW, TY, EN, sv_w, ↓reduceIte, reduceCtorEq, Nat.reduceEqDiff, Nat.reduceAdd, Nat.reduceLeDiff, Nat.reduceLT]) ?_
      refine wpT_ind (fun (_ : Unit) tm' h' => h' = Hp.of [(1, .arr 52 5 [.agg [I 0, I 0, I 0, .nil0, .nil0]]), (2, .arr 4 1 [.bool false])] 3 ∧ tm' 4 = .ptr 1 1 0 0 ∧ tm' 5 = .ptr 2 1 0 0 ∧ tm' 21 = .fn (.func 153) [] [.cptr f.av, .cptr (I (k : Int))]) (fun _ => 0) ?_ () ⟨rfl, rfl, rfl, rfl⟩
      rintro _ tm' _ ⟨rfl, e4, e5, e21⟩ -
      refine wpT_range (by simp only [↓SP, SX, SW, TY, EN, sv_w, ↓reduceIte, reduceCtorEq, Nat.reduceEqDiff, Nat.reduceAdd, Nat.reduceLeDiff, Nat.reduceLT, e21]; rfl) Tryz.func153 rfl (by kernel_rfl) (fun l fid => ?_)
      refine next_call f k hf hk ⟨Nat.le_refl _, rfl, rfl, rfl, hx⟩ (fun c cs h' hI hm hgt => callV_yield hI.2.2.2.1 rfl (by rfl) ?_) ?_
      show wpT _ _ _ _ _ (tm'.put (some 22) c.av) _
      obtain ⟨q1, q2, q3, q4, q5⟩ := hI
      have hfc : nextC f k = some c := q5.trans (by rw [List.find?_cons, hA', decide_eq_true hgt])
      have hcs := hf.2.2.2 c hm
      have n1 : ¬ 1 = h'.nx := by omega
      have n2 : ¬ 2 = h'.nx := by omega
      have n3 : ¬ 3 = h'.nx := by omega
      have n1' : ¬ h'.nx = 1 := by omega
      have n2' : ¬ h'.nx = 2 := by omega
      have n3' : ¬ h'.nx = 3 := by omega
      · skip
        refine wpT_region (by kernel_rfl) (fun K hK => ?_)
        simp only [↓SP, SX, SW, TY, EN, sv_w, ↓reduceIte, reduceCtorEq, Nat.reduceEqDiff, Nat.reduceAdd, Nat.reduceLeDiff, Nat.reduceLT, Fan.av]
        refine hK _ _ ?_
        clear hK K
        refine wpT_beginRound (id := 3) (by simp only [↓SP, SX, SW, TY, EN, sv_w, ↓reduceIte, reduceCtorEq, Nat.reduceEqDiff, Nat.reduceAdd, Nat.reduceLeDiff, Nat.reduceLT, q4, n3]; rfl) ?_
        refine wpT_block ?_
        refine wpT_seq ?_
        refine wpT_region (by kernel_rfl) (fun K hK => ?_)
        simp only [↓SP, SX, SW, TY, EN, sv_w, ↓reduceIte, reduceCtorEq, Nat.reduceEqDiff, Nat.reduceAdd, Nat.reduceLeDiff, Nat.reduceLT, Fan.av, e4, e5, q2, q3, n1, n2, n3, n1', n2', n3']
        refine Pu.call (c78 c hcs) ?_
        simp only [↓SP, SX, SW, TY, EN, sv_w, ↓reduceIte, reduceCtorEq, Nat.reduceEqDiff, Nat.reduceAdd, Nat.reduceLeDiff, Nat.reduceLT, Fan.av, e4, e5, q2, q3, n1, n2, n3, n1', n2', n3']
        refine hK _ _ ?_
        clear hK K
        refine wpT_ret ?_
        refine ⟨by simp only [↓SP, SX, SW, TY, EN, sv_w, ↓reduceIte, reduceCtorEq, Nat.reduceEqDiff, Nat.reduceAdd, Nat.reduceLeDiff, Nat.reduceLT, q4, n3, n1, n2, n1', n2', n3'], false, rfl, .inr ⟨rfl, c, hfc, by simp only [↓SP, SX, SW, TY, EN, sv_w, ↓reduceIte, reduceCtorEq, Nat.reduceEqDiff, Nat.reduceAdd, Nat.reduceLeDiff, Nat.reduceLT, n3, n1, n2, n1', n2', n3'], by simp only [↓SP, SX, SW, TY, EN, sv_w, ↓reduceIte, reduceCtorEq, Nat.reduceEqDiff, Nat.reduceAdd, Nat.reduceLeDiff, Nat.reduceLT, n3, n1, n2, n1', n2', n3'], by simp only [↓SP, SX, SW, TY, EN, sv_w, ↓reduceIte, reduceCtorEq, Nat.reduceEqDiff, Nat.reduceAdd, Nat.reduceLeDiff, Nat.reduceLT, n3, n1, n2, n1', n2', n3']⟩⟩
      rintro _ h2 (hI | hJ)
      · skip
        obtain ⟨q1, q2, q3, q4, q5⟩ := hI
        have hxn : nextC f k = none := by simpa using q5
        refine ⟨.ready, none, q4, by simp, ?_⟩
        simp only [Option.map_none, Option.toList_none, List.nil_append]
        refine wpT_inBlock ?_
        refine wpT_seq ?_
        refine wpT_region (by kernel_rfl) (fun K hK => ?_)
        simp only [↓SP, SX, SW, TY, EN, sv_w, ↓reduceIte, reduceCtorEq, Nat.reduceEqDiff, Nat.reduceAdd, Nat.reduceLeDiff, Nat.reduceLT, Fan.av, e4, e5, q2, q3]
        refine hK _ _ ?_
        clear hK K
        refine wpT_ret ⟨.inr rfl, ?_⟩
        show optK (resA _ _ _ [.cell 4 52, .cell 5 4]) _
        simp only [SR, Option.map_some, Option.bind_some, ↓SP, SX, SW, TY, EN, sv_w, ↓reduceIte, reduceCtorEq, Nat.reduceEqDiff, Nat.reduceAdd, Nat.reduceLeDiff, Nat.reduceLT, Fan.av]
        simp only [↓SP, SX, SW, TY, EN, sv_w, ↓reduceIte, reduceCtorEq, Nat.reduceEqDiff, Nat.reduceAdd, Nat.reduceLeDiff, Nat.reduceLT, SR, Option.map_some, Option.bind_some, e4, e5]
        rw [hxn]
        exact Lend.tupL (LendL.cons cyc0_lend (LendL.cons (.refl _) LendL.nil))
      · skip
        obtain ⟨c, hxc, q2, q3, q4⟩ := hJ
        refine ⟨.done, some .ret, q4, by simp, ?_⟩
        simp only [Option.map_some, Option.toList_some, List.cons_append, List.nil_append]
        refine wpT_ret ⟨.inr rfl, ?_⟩
        show optK (resA _ _ _ [.cell 4 52, .cell 5 4]) _
        simp only [SR, Option.map_some, Option.bind_some, ↓SP, SX, SW, TY, EN, sv_w, ↓reduceIte, reduceCtorEq, Nat.reduceEqDiff, Nat.reduceAdd, Nat.reduceLeDiff, Nat.reduceLT, Fan.av]
        simp only [↓SP, SX, SW, TY, EN, sv_w, ↓reduceIte, reduceCtorEq, Nat.reduceEqDiff, Nat.reduceAdd, Nat.reduceLeDiff, Nat.reduceLT, SR, Option.map_some, Option.bind_some, e4, e5, q2, q3]
        rw [hxc]
        exact .refl _
  · skip
    simp only [Bool.not_true, Bool.not_false] at hg11
    have p11 := hg11
    try simp only [decide_eq_true_eq, decide_eq_false_iff_not, beq_iff_eq, bne_iff_ne, beq_eq_false_iff_ne, bne_eq_false_iff_eq, Bool.not_eq_true', Bool.not_eq_false'] at p11
    have hx : nextC f t = none := nextC_none (.inl p11)
    simp only [↓SP, SX, SW, TY, EN, sv_w, ↓reduceIte, reduceCtorEq, Nat.reduceEqDiff, Nat.reduceAdd, Nat.reduceLeDiff, Nat.reduceLT, Fan.av, hg11]
    refine hK _ _ ?_
    clear hK K
    refine wpT_ifT (by simp only [↓SP, SX, SW, TY, EN, sv_w, ↓reduceIte, reduceCtorEq, Nat.reduceEqDiff, Nat.reduceAdd, Nat.reduceLeDiff, Nat.reduceLT, Fan.av, hg11]) ?_
    try have hx : nextC f k = none := nextC_none (.inr (by rw [hL]; exact p17))
    refine wpT_seq ?_
    refine wpT_region (by kernel_rfl) (fun K hK => ?_)
    simp only [↓SP, SX, SW, TY, EN, sv_w, ↓reduceIte, reduceCtorEq, Nat.reduceEqDiff, Nat.reduceAdd, Nat.reduceLeDiff, Nat.reduceLT, Fan.av, hg11]
    refine hK _ _ ?_
    clear hK K
    refine wpT_ret ⟨.inr rfl, ?_⟩
    show optK (resA _ _ _ [.cell 4 52, .cell 5 4]) _
    simp only [SR, Option.map_some, Option.bind_some, ↓SP, SX, SW, TY, EN, sv_w, ↓reduceIte, reduceCtorEq, Nat.reduceEqDiff, Nat.reduceAdd, Nat.reduceLeDiff, Nat.reduceLT, Fan.av, hg11]
    rw [hx]
    exact Lend.tupL (LendL.cons cyc0_lend (LendL.cons (.refl _) LendL.nil))
end Go.Proofs.YtlmjpgmaefokdaaGreat
end

section
set_option linter.unusedSimpArgs false
set_option linter.unusedVariables false
namespace Go.Proofs.YtlmjpgmaefokdaaGreat
open Go.Proofs
set_option maxRecDepth 10000
theorem c222 (a : Int) : Pu Tryz.prog (.fn (.func 222) [] []) [I a] (B false) := by
  refine pu_func Tryz.func222 rfl (by kernel_rfl) (by show _ ≤ 6; simp only [List.length_append, List.length_cons, List.length_nil]; decide) (by simp only [IDF, and_tt, implies_true]) (by simp only [IDF, and_tt, implies_true]) (by simp only [IDF, and_tt, implies_true]) ?_
  rw [Tryz.ntmps222]
  refine wpT_seq ?_
  refine wpT_region (by kernel_rfl) (fun K hK => ?_)
  simp only [↓SP, SX, SW, TY, EN, sv_w, ↓reduceIte, reduceCtorEq, Nat.reduceEqDiff, Nat.reduceAdd, Nat.reduceLeDiff, Nat.reduceLT]
  refine hK _ _ ?_
  clear hK K
  refine wpT_seq ?_
  refine wpT_region (by kernel_rfl) (fun K hK => ?_)
  simp only [↓SP, SX, SW, TY, EN, sv_w, ↓reduceIte, reduceCtorEq, Nat.reduceEqDiff, Nat.reduceAdd, Nat.reduceLeDiff, Nat.reduceLT]
  refine hK _ _ ?_
  clear hK K
  refine wpT_ret ⟨.inr rfl, ?_⟩
  show optK (resA _ _ _ [.tmp 2]) _
  simp only [SR, Option.map_some, Option.bind_some, ↓SP, SX, SW, TY, EN, sv_w, ↓reduceIte, reduceCtorEq, Nat.reduceEqDiff, Nat.reduceAdd, Nat.reduceLeDiff, Nat.reduceLT]
  exact Lend.eq (by simp)
theorem c195 (a b : Int) : Pu Tryz.prog (.fn (.func 195) [] []) [I a, I b] (B (decide (a < b))) := by
  refine pu_func Tryz.func195 rfl (by kernel_rfl) (by show _ ≤ 17; simp only [List.length_append, List.length_cons, List.length_nil]; decide) (by simp only [IDF, and_tt, implies_true]) (by simp only [IDF, and_tt, implies_true]) (by simp only [IDF, and_tt, implies_true]) ?_
  rw [Tryz.ntmps195]
  refine wpT_seq ?_
  refine wpT_region (by kernel_rfl) (fun K hK => ?_)
  simp only [↓SP, SX, SW, TY, EN, sv_w, ↓reduceIte, reduceCtorEq, Nat.reduceEqDiff, Nat.reduceAdd, Nat.reduceLeDiff, Nat.reduceLT]
  refine hK _ _ ?_
  clear hK K
  refine wpT_seq ?_
  refine wpT_region (by kernel_rfl) (fun K hK => ?_)
  simp only [↓SP, SX, SW, TY, EN, sv_w, ↓reduceIte, reduceCtorEq, Nat.reduceEqDiff, Nat.reduceAdd, Nat.reduceLeDiff, Nat.reduceLT]
  refine Pu.call (c222 a) ?_
  simp only [↓SP, SX, SW, TY, EN, sv_w, ↓reduceIte, reduceCtorEq, Nat.reduceEqDiff, Nat.reduceAdd, Nat.reduceLeDiff, Nat.reduceLT]
  refine hK _ _ ?_
  clear hK K
  refine wpT_ret ⟨.inr rfl, ?_⟩
  show optK (resA _ _ _ [.tmp 4]) _
  simp only [SR, Option.map_some, Option.bind_some, ↓SP, SX, SW, TY, EN, sv_w, ↓reduceIte, reduceCtorEq, Nat.reduceEqDiff, Nat.reduceAdd, Nat.reduceLeDiff, Nat.reduceLT]
  exact .refl _
def inOrder (xs : List Int) : Prop := ∀ (i : Nat) (h : i + 1 < xs.length), xs[i] ≤ xs[i + 1]
theorem c189 (xs : List Int) (hl : xs.length ≤ 10) (ho : inOrder xs) : Pu Tryz.prog (.fn (.func 189) [] []) [.lst (xs.map I), I 0, I (xs.length : Int)] (.tup []) := by
  refine pu_func Tryz.func189 rfl (by kernel_rfl) (by show _ ≤ 49; simp only [List.length_append, List.length_cons, List.length_nil]; decide) (by simp only [IDF]) (by simp only [IDF, and_tt, implies_true]) (by simp only [IDF, and_tt, implies_true]) ?_
  rw [Tryz.ntmps189]
  refine wpT_seq ?_
  refine wpT_region (by kernel_rfl) (fun K hK => ?_)
  simp only [↓SP, SX, SW, TY, EN, sv_w, ↓reduceIte, reduceCtorEq, Nat.reduceEqDiff, Nat.reduceAdd, Nat.reduceLeDiff, Nat.reduceLT, wrap64 (x := (0 : Int) + 1) (by omega) (by omega)]
  refine hK _ _ ?_
  clear hK K
  refine wpT_block ?_
  refine wpT_loop ?_
  refine wpT_keep0 ?_
  refine wpT_ind (fun (i : Nat) tm' h' => (∃ m, h' = Hp.of [] m) ∧ tm' 0 = .lst (xs.map I) ∧ tm' 1 = I 0 ∧ tm' 2 = I xs.length ∧ tm' 6 = I i ∧ 1 ≤ i ∧ i ≤ xs.length + 1) (fun i => xs.length + 1 - i) ?_ 1 ⟨⟨_, rfl⟩, rfl, rfl, rfl, rfl, by omega, by omega⟩
  rintro i tm' _ ⟨⟨m, rfl⟩, e0, e1, e2, e6, hi1, hi⟩ IH
  refine wpT_inLoop ?_
  refine wpT_seq ?_
  refine wpT_seq ?_
  refine wpT_region (by kernel_rfl) (fun K hK => ?_)
  simp only [↓SP, SX, SW, TY, EN, sv_w, ↓reduceIte, reduceCtorEq, Nat.reduceEqDiff, Nat.reduceAdd, Nat.reduceLeDiff, Nat.reduceLT, e2, e6]
  refine hK _ _ ?_
  clear hK K
  refine wpT_if (by rfl) (fun hc12 => ?_) (fun hc12 => ?_)
  · skip
    have p12 := hc12
    try simp only [decide_eq_true_eq, decide_eq_false_iff_not, beq_iff_eq, bne_iff_ne, beq_eq_false_iff_ne, bne_eq_false_iff_eq, Bool.not_eq_true', Bool.not_eq_false'] at p12
    have hlt : i < xs.length := by omega
    have hlt1 : i - 1 < xs.length := by omega
    have hg := at_map (f := I) hlt
    have hg1 := at_map (f := I) hlt1
    have hi2 : IntKind.i64.wrap ((i : Int) - 1) = ((i - 1 : Nat) : Int) := by rw [wrap64 (by omega) (by omega)]; omega
    have hle : ¬ xs[i] < xs[i - 1] := by
      have := ho (i - 1) (by omega)
      simp only [show i - 1 + 1 = i by omega] at this
      omega
    have hi0 : (i : Int) > 0 := by omega
    refine wpT_skip ?_
    refine wpT_seq ?_
    refine wpT_block ?_
    refine wpT_seq ?_
    refine wpT_region (by kernel_rfl) (fun K hK => ?_)
    simp only [↓SP, SX, SW, TY, EN, sv_w, ↓reduceIte, reduceCtorEq, Nat.reduceEqDiff, Nat.reduceAdd, Nat.reduceLeDiff, Nat.reduceLT, e6, hc12]
    refine hK _ _ ?_
    clear hK K
    refine wpT_block ?_
    refine wpT_loop ?_
    refine wpT_keep0 ?_
    refine wpT_ind (fun (_ : Unit) tm2 h' => (∃ m, h' = Hp.of [] m) ∧ tm2 0 = .lst (xs.map I) ∧ tm2 1 = I 0 ∧ tm2 2 = I xs.length ∧ tm2 6 = I i ∧ tm2 7 = I i) (fun _ => 0) ?_ () ⟨⟨_, rfl⟩, by simp only [↓SP, SX, SW, TY, EN, sv_w, ↓reduceIte, reduceCtorEq, Nat.reduceEqDiff, Nat.reduceAdd, Nat.reduceLeDiff, Nat.reduceLT, e0], by simp only [↓SP, SX, SW, TY, EN, sv_w, ↓reduceIte, reduceCtorEq, Nat.reduceEqDiff, Nat.reduceAdd, Nat.reduceLeDiff, Nat.reduceLT, e1], by simp only [↓SP, SX, SW, TY, EN, sv_w, ↓reduceIte, reduceCtorEq, Nat.reduceEqDiff, Nat.reduceAdd, Nat.reduceLeDiff, Nat.reduceLT, e2], by simp only [↓SP, SX, SW, TY, EN, sv_w, ↓reduceIte, reduceCtorEq, Nat.reduceEqDiff, Nat.reduceAdd, Nat.reduceLeDiff, Nat.reduceLT, e6], by simp only [↓SP, SX, SW, TY, EN, sv_w, ↓reduceIte, reduceCtorEq, Nat.reduceEqDiff, Nat.reduceAdd, Nat.reduceLeDiff, Nat.reduceLT]⟩
    clear e0 e1 e2 e6
    rintro _ tm2 _ ⟨⟨m2, rfl⟩, e0, e1, e2, e6, e7⟩ -
    refine wpT_inLoop ?_
    refine wpT_seq ?_
    refine wpT_seq ?_
    refine wpT_drawn [] mixed (by kernel_rfl) (m := 15) rfl (fun K hK => ?_)
    simp only [↓SP, SX, SW, TY, EN, sv_w, ↓reduceIte, reduceCtorEq, Nat.reduceEqDiff, Nat.reduceAdd, Nat.reduceLeDiff, Nat.reduceLT, e0, e1, e7, hg, hg1, hi2, hle, hi0, decide_false]
    refine Pu.callD (c195 _ _) ?_
    simp only [↓SP, SX, SW, TY, EN, sv_w, ↓reduceIte, reduceCtorEq, Nat.reduceEqDiff, Nat.reduceAdd, Nat.reduceLeDiff, Nat.reduceLT, e0, e1, e7, hg, hg1, hi2, hle, hi0, decide_false]
    refine hK _ _ ?_
    clear hK K
    refine wpT_if (by rfl) (fun hc30 => ?_) (fun hc30 => ?_)
    · skip
      have p30 := hc30
      try simp only [decide_eq_true_eq, decide_eq_false_iff_not, beq_iff_eq, bne_iff_ne, beq_eq_false_iff_ne, bne_eq_false_iff_eq, Bool.not_eq_true', Bool.not_eq_false'] at p30
      simp_all
    · skip
      have p30 := hc30
      try simp only [decide_eq_true_eq, decide_eq_false_iff_not, beq_iff_eq, bne_iff_ne, beq_eq_false_iff_ne, bne_eq_false_iff_eq, Bool.not_eq_true', Bool.not_eq_false'] at p30
      refine wpT_exit rfl ?_
      refine wpT_inBlock ?_
      refine wpT_region (by kernel_rfl) (fun K hK => ?_)
      simp only [↓SP, SX, SW, TY, EN, sv_w, ↓reduceIte, reduceCtorEq, Nat.reduceEqDiff, Nat.reduceAdd, Nat.reduceLeDiff, Nat.reduceLT, e6, wrap64 (x := (i : Int) + 1) (by omega) (by omega), hc30]
      refine hK _ _ ?_
      clear hK K
      refine wpT_keep0 ?_
      refine IH (i + 1) _ _ (by omega) ⟨⟨_, rfl⟩, by simp only [↓SP, SX, SW, TY, EN, sv_w, ↓reduceIte, reduceCtorEq, Nat.reduceEqDiff, Nat.reduceAdd, Nat.reduceLeDiff, Nat.reduceLT, e0], by simp only [↓SP, SX, SW, TY, EN, sv_w, ↓reduceIte, reduceCtorEq, Nat.reduceEqDiff, Nat.reduceAdd, Nat.reduceLeDiff, Nat.reduceLT, e1], by simp only [↓SP, SX, SW, TY, EN, sv_w, ↓reduceIte, reduceCtorEq, Nat.reduceEqDiff, Nat.reduceAdd, Nat.reduceLeDiff, Nat.reduceLT, e2], by simp only [↓SP, SX, SW, TY, EN, sv_w, ↓reduceIte, reduceCtorEq, Nat.reduceEqDiff, Nat.reduceAdd, Nat.reduceLeDiff, Nat.reduceLT, Int.natCast_add, Int.cast_ofNat_Int], by omega, by omega⟩
  · skip
    have p12 := hc12
    try simp only [decide_eq_true_eq, decide_eq_false_iff_not, beq_iff_eq, bne_iff_ne, beq_eq_false_iff_ne, bne_eq_false_iff_eq, Bool.not_eq_true', Bool.not_eq_false'] at p12
    refine wpT_exit rfl ?_
    refine wpT_end ⟨.inl rfl, ?_⟩
    show optK (resA _ _ _ []) _
    simp only [SR, Option.map_some, Option.bind_some, ↓SP, SX, SW, TY, EN, sv_w, ↓reduceIte, reduceCtorEq, Nat.reduceEqDiff, Nat.reduceAdd, Nat.reduceLeDiff, Nat.reduceLT, hc12]
    exact .refl _
theorem ev_str {tm : Tm} {s : ByteArray} : evA tm (.const (.string s)) = .str s := rfl
theorem optV_of {o : Option AV} {v : AV} {Kv : AV → Hp → Prop} {h : Hp} (ho : o = some v) (hk : Kv v h) : optV o Kv h := ho ▸ hk
def lenU (n : Nat) : Int := if n = 0 then 0 else if n = 1 then 1 else if n < 4 then 2 else 3
theorem cv64_8 (n : Int) : opConvert Tryz.prog 264 5 (.int .u64 n) = some (.int .u8 (IntKind.u8.wrap n)) := by kernel_rfl
theorem cv8_i (n : Int) : opConvert Tryz.prog 5 3 (.int .u8 n) = some (.int .i64 (IntKind.i64.wrap n)) := by kernel_rfl
theorem wrap8 {x : Int} (h0 : 0 ≤ x) (h1 : x < 256) : IntKind.u8.wrap x = x := by
  have h : IntKind.u8.wrap x = x % 256 := by simp [IntKind.wrap, IntKind.bits, IntKind.signed]
  rw [h]; omega
theorem lenU_le (n : Nat) : 0 ≤ lenU n ∧ lenU n ≤ 3 := by
  unfold lenU
  split
  · omega
  · split
    · omega
    · split <;> omega
theorem c199 (n : Nat) (hn : n ≤ 4) : Pu Tryz.prog (.fn (.func 199) [] []) [U (n : Int)] (I (lenU n)) := by
  refine pu_func Tryz.func199 rfl (by kernel_rfl) (by show _ ≤ 25; simp only [List.length_append, List.length_cons, List.length_nil]; decide) (by simp only [IDF, and_tt, implies_true]) (by simp only [IDF, and_tt, implies_true]) (by simp only [IDF, and_tt, implies_true]) ?_
  rw [Tryz.ntmps199]
  have hb := lenU_le n
  refine wpT_seq ?_
  refine wpT_region (by kernel_rfl) (fun K hK => ?_)
  simp only [↓SP, SX, SW, TY, EN, sv_w, ↓reduceIte, reduceCtorEq, Nat.reduceEqDiff, Nat.reduceAdd, Nat.reduceLeDiff, Nat.reduceLT]
  refine hK _ _ ?_
  clear hK K
  refine wpT_seq ?_
  refine wpT_seq ?_
  refine wpT_region (by kernel_rfl) (fun K hK => ?_)
  simp only [↓SP, SX, SW, TY, EN, sv_w, ↓reduceIte, reduceCtorEq, Nat.reduceEqDiff, Nat.reduceAdd, Nat.reduceLeDiff, Nat.reduceLT]
  refine hK _ _ ?_
  clear hK K
  refine wpT_if (by rfl) (fun hc4 => ?_) (fun hc4 => ?_)
  · skip
    have p4 := hc4
    try simp only [decide_eq_true_eq, decide_eq_false_iff_not, beq_iff_eq, bne_iff_ne, beq_eq_false_iff_ne, bne_eq_false_iff_eq, Bool.not_eq_true', Bool.not_eq_false'] at p4
    exfalso; omega
  · skip
    have p4 := hc4
    try simp only [decide_eq_true_eq, decide_eq_false_iff_not, beq_iff_eq, bne_iff_ne, beq_eq_false_iff_ne, bne_eq_false_iff_eq, Bool.not_eq_true', Bool.not_eq_false'] at p4
    refine wpT_skip ?_
    refine wpT_seq ?_
    refine wpT_seq ?_
    refine wpT_region (by kernel_rfl) (fun K hK => ?_)
    simp only [↓SP, SX, SW, TY, EN, sv_w, ↓reduceIte, reduceCtorEq, Nat.reduceEqDiff, Nat.reduceAdd, Nat.reduceLeDiff, Nat.reduceLT, hc4]
    refine hK _ _ ?_
    clear hK K
    refine wpT_if (by rfl) (fun hc8 => ?_) (fun hc8 => ?_)
    · skip
      have p8 := hc8
      try simp only [decide_eq_true_eq, decide_eq_false_iff_not, beq_iff_eq, bne_iff_ne, beq_eq_false_iff_ne, bne_eq_false_iff_eq, Bool.not_eq_true', Bool.not_eq_false'] at p8
      exfalso; omega
    · skip
      have p8 := hc8
      try simp only [decide_eq_true_eq, decide_eq_false_iff_not, beq_iff_eq, bne_iff_ne, beq_eq_false_iff_ne, bne_eq_false_iff_eq, Bool.not_eq_true', Bool.not_eq_false'] at p8
      refine wpT_skip ?_
      refine wpT_seq ?_
      refine wpT_seq ?_
      refine wpT_region (by kernel_rfl) (fun K hK => ?_)
      simp only [↓SP, SX, SW, TY, EN, sv_w, ↓reduceIte, reduceCtorEq, Nat.reduceEqDiff, Nat.reduceAdd, Nat.reduceLeDiff, Nat.reduceLT, hc4, hc8]
      refine hK _ _ ?_
      clear hK K
      refine wpT_if (by rfl) (fun hc14 => ?_) (fun hc14 => ?_)
      · skip
        have p14 := hc14
        try simp only [decide_eq_true_eq, decide_eq_false_iff_not, beq_iff_eq, bne_iff_ne, beq_eq_false_iff_ne, bne_eq_false_iff_eq, Bool.not_eq_true', Bool.not_eq_false'] at p14
        exfalso; omega
      · skip
        have p14 := hc14
        try simp only [decide_eq_true_eq, decide_eq_false_iff_not, beq_iff_eq, bne_iff_ne, beq_eq_false_iff_ne, bne_eq_false_iff_eq, Bool.not_eq_true', Bool.not_eq_false'] at p14
        refine wpT_skip ?_
        refine wpT_seq ?_
        refine wpT_region (by kernel_rfl) (fun K hK => ?_)
        simp only [↓SP, SX, SW, TY, EN, sv_w, ↓reduceIte, reduceCtorEq, Nat.reduceEqDiff, Nat.reduceAdd, Nat.reduceLeDiff, Nat.reduceLT, sx_index, ev_str, cv64_8, wrap8 (x := (n : Int)) (by omega) (by omega)]
        refine optV_of (v := .int .u8 (lenU n)) (by rcases n with _ | _ | _ | _ | _ | n <;> first | omega | kernel_rfl) ?_
        simp only [↓SP, SX, SW, TY, EN, sv_w, ↓reduceIte, reduceCtorEq, Nat.reduceEqDiff, Nat.reduceAdd, Nat.reduceLeDiff, Nat.reduceLT, cv8_i, Int.zero_add, wrap64 (x := lenU n) (by omega) (by omega)]
        refine hK _ _ ?_
        clear hK K
        refine wpT_ret ⟨.inr rfl, ?_⟩
        show optK (resA _ _ _ [.tmp 2]) _
        simp only [SR, Option.map_some, Option.bind_some, ↓SP, SX, SW, TY, EN, sv_w, ↓reduceIte, reduceCtorEq, Nat.reduceEqDiff, Nat.reduceAdd, Nat.reduceLeDiff, Nat.reduceLT, hc4, hc8, hc14]
        exact .refl _
theorem c148 (n : Nat) (hn : n ≤ 4) : Pu Tryz.prog (.fn (.func 148) [] []) [U (n : Int)] (I (lenU n)) := by
  refine pu_func Tryz.func148 rfl (by kernel_rfl) (by show _ ≤ 8; simp only [List.length_append, List.length_cons, List.length_nil]; decide) (by simp only [IDF, and_tt, implies_true]) (by simp only [IDF, and_tt, implies_true]) (by simp only [IDF, and_tt, implies_true]) ?_
  rw [Tryz.ntmps148]
  refine wpT_seq ?_
  refine wpT_region (by kernel_rfl) (fun K hK => ?_)
  simp only [↓SP, SX, SW, TY, EN, sv_w, ↓reduceIte, reduceCtorEq, Nat.reduceEqDiff, Nat.reduceAdd, Nat.reduceLeDiff, Nat.reduceLT]
  refine hK _ _ ?_
  clear hK K
  refine wpT_seq ?_
  refine wpT_ifF (by simp only [↓SP, SX, SW, TY, EN, sv_w, ↓reduceIte, reduceCtorEq, Nat.reduceEqDiff, Nat.reduceAdd, Nat.reduceLeDiff, Nat.reduceLT]) ?_
  refine wpT_skip ?_
  refine wpT_seq ?_
  refine wpT_region (by kernel_rfl) (fun K hK => ?_)
  simp only [↓SP, SX, SW, TY, EN, sv_w, ↓reduceIte, reduceCtorEq, Nat.reduceEqDiff, Nat.reduceAdd, Nat.reduceLeDiff, Nat.reduceLT]
  refine Pu.call (c199 n hn) ?_
  simp only [↓SP, SX, SW, TY, EN, sv_w, ↓reduceIte, reduceCtorEq, Nat.reduceEqDiff, Nat.reduceAdd, Nat.reduceLeDiff, Nat.reduceLT]
  refine hK _ _ ?_
  clear hK K
  refine wpT_ret ⟨.inr rfl, ?_⟩
  show optK (resA _ _ _ [.tmp 2]) _
  simp only [SR, Option.map_some, Option.bind_some, ↓SP, SX, SW, TY, EN, sv_w, ↓reduceIte, reduceCtorEq, Nat.reduceEqDiff, Nat.reduceAdd, Nat.reduceLeDiff, Nat.reduceLT]
  exact .refl _
theorem c147 (xs : List Int) (l : Int) (hl : xs.length ≤ 10) (ho : inOrder xs) : Pu Tryz.prog (.fn (.func 147) [] []) [.lst (xs.map I), I 0, I (xs.length : Int), I l] (.tup []) := by
  refine pu_func Tryz.func147 rfl (by kernel_rfl) (by show _ ≤ 134; simp only [List.length_append, List.length_cons, List.length_nil]; decide) (by simp only [IDF]) (by simp only [IDF, and_tt, implies_true]) (by simp only [IDF, and_tt, implies_true]) ?_
  rw [Tryz.ntmps147]
  refine wpT_seq ?_
  refine wpT_region (by kernel_rfl) (fun K hK => ?_)
  simp only [↓SP, SX, SW, TY, EN, sv_w, ↓reduceIte, reduceCtorEq, Nat.reduceEqDiff, Nat.reduceAdd, Nat.reduceLeDiff, Nat.reduceLT]
  refine hK _ _ ?_
  clear hK K
  refine wpT_seq ?_
  refine wpT_region (by kernel_rfl) (fun K hK => ?_)
  simp only [↓SP, SX, SW, TY, EN, sv_w, ↓reduceIte, reduceCtorEq, Nat.reduceEqDiff, Nat.reduceAdd, Nat.reduceLeDiff, Nat.reduceLT]
  refine hK _ _ ?_
  clear hK K
  refine wpT_block ?_
  refine wpT_loop ?_
  refine wpT_inLoop ?_
  refine wpT_block ?_
  refine wpT_seq ?_
  refine wpT_region (by kernel_rfl) (fun K hK => ?_)
  simp only [↓SP, SX, SW, TY, EN, sv_w, ↓reduceIte, reduceCtorEq, Nat.reduceEqDiff, Nat.reduceAdd, Nat.reduceLeDiff, Nat.reduceLT, Int.sub_zero, wrap64 (x := (xs.length : Int)) (by omega) (by omega)]
  refine hK _ _ ?_
  clear hK K
  refine wpT_seq ?_
  refine wpT_seq ?_
  refine wpT_region (by kernel_rfl) (fun K hK => ?_)
  simp only [↓SP, SX, SW, TY, EN, sv_w, ↓reduceIte, reduceCtorEq, Nat.reduceEqDiff, Nat.reduceAdd, Nat.reduceLeDiff, Nat.reduceLT]
  refine hK _ _ ?_
  clear hK K
  refine wpT_if (by rfl) (fun hc23 => ?_) (fun hc23 => ?_)
  · skip
    have p23 := hc23
    try simp only [decide_eq_true_eq, decide_eq_false_iff_not, beq_iff_eq, bne_iff_ne, beq_eq_false_iff_ne, bne_eq_false_iff_eq, Bool.not_eq_true', Bool.not_eq_false'] at p23
    refine wpT_seq ?_
    refine wpT_region (by kernel_rfl) (fun K hK => ?_)
    simp only [↓SP, SX, SW, TY, EN, sv_w, ↓reduceIte, reduceCtorEq, Nat.reduceEqDiff, Nat.reduceAdd, Nat.reduceLeDiff, Nat.reduceLT, hc23]
    refine Pu.call (c189 xs hl ho) ?_
    simp only [↓SP, SX, SW, TY, EN, sv_w, ↓reduceIte, reduceCtorEq, Nat.reduceEqDiff, Nat.reduceAdd, Nat.reduceLeDiff, Nat.reduceLT, hc23]
    refine hK _ _ ?_
    clear hK K
    refine wpT_ret ⟨.inr rfl, ?_⟩
    show optK (resA _ _ _ []) _
    simp only [SR, Option.map_some, Option.bind_some, ↓SP, SX, SW, TY, EN, sv_w, ↓reduceIte, reduceCtorEq, Nat.reduceEqDiff, Nat.reduceAdd, Nat.reduceLeDiff, Nat.reduceLT, hc23]
    exact .refl _
  · skip
    have p23 := hc23
    try simp only [decide_eq_true_eq, decide_eq_false_iff_not, beq_iff_eq, bne_iff_ne, beq_eq_false_iff_ne, bne_eq_false_iff_eq, Bool.not_eq_true', Bool.not_eq_false'] at p23
    exfalso; omega
theorem c80 (xs : List Int) (hl : xs.length ≤ 4) (ho : inOrder xs) : Pu Tryz.prog (.fn (.func 80) [] []) [.lst (xs.map I)] (.tup []) := by
  refine pu_func Tryz.func80 rfl (by kernel_rfl) (by show _ ≤ 11; simp only [List.length_append, List.length_cons, List.length_nil]; decide) (by simp only [IDF]) (by simp only [IDF, and_tt, implies_true]) (by simp only [IDF, and_tt, implies_true]) ?_
  rw [Tryz.ntmps80]
  refine wpT_seq ?_
  refine wpT_region (by kernel_rfl) (fun K hK => ?_)
  simp only [↓SP, SX, SW, TY, EN, sv_w, ↓reduceIte, reduceCtorEq, Nat.reduceEqDiff, Nat.reduceAdd, Nat.reduceLeDiff, Nat.reduceLT]
  refine hK _ _ ?_
  clear hK K
  refine wpT_region (by kernel_rfl) (fun K hK => ?_)
  simp only [↓SP, SX, SW, TY, EN, sv_w, ↓reduceIte, reduceCtorEq, Nat.reduceEqDiff, Nat.reduceAdd, Nat.reduceLeDiff, Nat.reduceLT, cvIU, wrapU (x := (xs.length : Int)) (by omega) (by omega)]
  refine Pu.call (c148 xs.length hl) ?_
  simp only [↓SP, SX, SW, TY, EN, sv_w, ↓reduceIte, reduceCtorEq, Nat.reduceEqDiff, Nat.reduceAdd, Nat.reduceLeDiff, Nat.reduceLT, cvIU, wrapU (x := (xs.length : Int)) (by omega) (by omega)]
  refine Pu.call (c147 xs _ (by omega) ho) ?_
  simp only [↓SP, SX, SW, TY, EN, sv_w, ↓reduceIte, reduceCtorEq, Nat.reduceEqDiff, Nat.reduceAdd, Nat.reduceLeDiff, Nat.reduceLT, cvIU, wrapU (x := (xs.length : Int)) (by omega) (by omega)]
  refine hK _ _ ?_
  clear hK K
  refine wpT_end ⟨.inl rfl, ?_⟩
  show optK (resA _ _ _ []) _
  simp only [SR, Option.map_some, Option.bind_some, ↓SP, SX, SW, TY, EN, sv_w, ↓reduceIte, reduceCtorEq, Nat.reduceEqDiff, Nat.reduceAdd, Nat.reduceLeDiff, Nat.reduceLT]
  exact .refl _
end Go.Proofs.YtlmjpgmaefokdaaGreat
end

section
set_option linter.unusedSimpArgs false
set_option linter.unusedVariables false
namespace Go.Proofs.YtlmjpgmaefokdaaGreat
open Go.Proofs
def pushE (f : Fan) (c : Cyc) : Int :=
  if chkF f ≠ 0 then chkF f else if leastL (-1) f.app f.lost < 0 then 17 else if cycE c most ≠ 0 then cycE c most else if c.base ≠ newR f then 15 else 0
def lostW (f : Fan) (n : Int) (i : Nat) : List Bool := List.zipWith (fun l a => l || decide (a = n)) (f.lost.take i) (f.app.take i) ++ f.lost.drop i
def lostQ (f : Fan) (n : Int) (j : Nat) : Bool := decide (f.app[j]? = some n) && decide (f.lost[j]? = some false)
def lostN (f : Fan) (n : Int) (i : Nat) : List Int := ((List.range i).filter (lostQ f n)).map fun (j : Nat) => (j : Int)
def pushB (f : Fan) : Fan := ⟨f.limit, [], f.app, lostW f (leastL (-1) f.app f.lost) f.app.length⟩
def pushK (f : Fan) (c : Cyc) : Fan := ⟨f.limit, f.kept ++ [c], f.app, lostW f (leastL (-1) f.app f.lost) f.app.length⟩
def pushF (f : Fan) (c : Cyc) : Fan :=
  if pushE f c ≠ 0 then fan0 else if (f.kept.length : Int) + 1 > f.limit then tidyF (pushK f c) else ⟨f.limit, f.kept ++ [c], f.app, f.lost⟩
def pushL (f : Fan) (c : Cyc) : List Int :=
  if pushE f c ≠ 0 then [] else if (f.kept.length : Int) + 1 > f.limit then lostN f (leastL (-1) f.app f.lost) f.app.length else []
theorem lostW_zero (f : Fan) (n : Int) : lostW f n 0 = f.lost := by simp [lostW]
theorem lostW_length {f : Fan} {n : Int} {i : Nat} (hl : f.lost.length = f.app.length) (hi : i ≤ f.app.length) : (lostW f n i).length = f.app.length := by
  simp [lostW, List.length_zipWith]; omega
theorem lostW_at {f : Fan} {n : Int} {i : Nat} (hl : f.lost.length = f.app.length) (hi : i < f.app.length) : (lostW f n i)[i]? = f.lost[i]? := by
  unfold lostW
  rw [List.getElem?_append_right (by simp [List.length_zipWith]; omega)]
  simp [List.length_zipWith]
  congr 1
  omega
theorem lostW_succ {f : Fan} {n : Int} {i : Nat} (hl : f.lost.length = f.app.length) (hi : i < f.app.length) : lostW f n (i + 1) = (lostW f n i).set i (f.lost[i] || decide (f.app[i] = n)) := by
  have hi' : i < f.lost.length := by omega
  have hz : (List.zipWith (fun l a => l || decide (a = n)) (f.lost.take i) (f.app.take i)).length = i := by simp [List.length_zipWith]; omega
  unfold lostW
  rw [List.take_add_one, List.take_add_one, List.getElem?_eq_getElem hi, List.getElem?_eq_getElem hi', List.drop_eq_getElem_cons hi', List.set_append_right _ _ (by omega), hz, Nat.sub_self, List.set_cons_zero]
  rw [List.zipWith_append (by simp; omega)]
  simp
theorem lostW_same {f : Fan} {n : Int} {i : Nat} (hl : f.lost.length = f.app.length) (hi : i < f.app.length) (h : (f.lost[i] || decide (f.app[i] = n)) = f.lost[i]) : lostW f n (i + 1) = lostW f n i := by
  rw [lostW_succ hl hi, h]
  refine List.ext_getElem? fun j => ?_
  rw [List.getElem?_set]
  split
  · rename_i e
    subst e
    split
    · rw [lostW_at hl hi, List.getElem?_eq_getElem (by omega)]
    · rename_i h2
      rw [lostW_length hl (by omega)] at h2
      omega
  · rfl
theorem lostN_succ (f : Fan) (n : Int) (i : Nat) : lostN f n (i + 1) = lostN f n i ++ if lostQ f n i = true then [(i : Int)] else [] := by
  unfold lostN
  rw [List.range_succ, List.filter_append, List.map_append]
  congr 1
  by_cases h : lostQ f n i = true <;> simp [h]
theorem lostN_length (f : Fan) (n : Int) (i : Nat) : (lostN f n i).length ≤ i := by
  unfold lostN
  rw [List.length_map]
  exact Nat.le_trans (List.length_filter_le _ _) (by simp)
theorem lostN_order (f : Fan) (n : Int) (i : Nat) : inOrder (lostN f n i) := by
  have h : (lostN f n i).Pairwise (fun a b => a ≤ b) := by
    unfold lostN
    rw [List.pairwise_map]
    refine ((List.pairwise_lt_range (n := i)).imp (fun {a b} h => ?_)).filter _
    omega
  intro j hj
  exact List.pairwise_iff_getElem.1 h j (j + 1) (by omega) hj (by omega)
theorem least_mem : ∀ (o : Int) (xs : List Int) (ls : List Bool), leastL o xs ls = o ∨ ∃ a, (a, false) ∈ xs.zip ls ∧ leastL o xs ls = a
  | o, [], _ => .inl (by rw [leastL.eq_2 _ _ _ (by simp)])
  | o, _ :: _, [] => .inl (by rw [leastL.eq_2 _ _ _ (by simp)])
  | o, a :: xs, l :: ls => by
    rw [leastL]
    rcases least_mem (if !l && (decide (o < 0) || decide (a < o)) then a else o) xs ls with h | ⟨b, h1, h2⟩
    · rw [h]
      by_cases hc : (!l && (decide (o < 0) || decide (a < o))) = true
      · rw [if_pos hc]
        have : l = false := by cases l <;> simp_all
        exact .inr ⟨a, by simp [this], rfl⟩
      · rw [if_neg hc]
        exact .inl rfl
    · exact .inr ⟨b, by simp [h1], h2⟩
theorem least_le : ∀ (o : Int) (xs : List Int) (ls : List Bool), (∀ a ∈ xs, 0 ≤ a) → (0 ≤ o → leastL o xs ls ≤ o ∧ 0 ≤ leastL o xs ls) ∧ ∀ a, (a, false) ∈ xs.zip ls → leastL o xs ls ≤ a
  | o, [], _, _ => by rw [leastL.eq_2 _ _ _ (by simp)]; exact ⟨fun h => ⟨Int.le_refl _, h⟩, by simp⟩
  | o, _ :: _, [], _ => by rw [leastL.eq_2 _ _ _ (by simp)]; exact ⟨fun h => ⟨Int.le_refl _, h⟩, by simp⟩
  | o, a :: xs, l :: ls, h0 => by
    rw [leastL]
    have ha := h0 a (by simp)
    obtain ⟨h1, h2⟩ := least_le (if !l && (decide (o < 0) || decide (a < o)) then a else o) xs ls (fun b hb => h0 b (by simp [hb]))
    by_cases hc : (!l && (decide (o < 0) || decide (a < o))) = true
    · rw [if_pos hc] at h1 h2 ⊢
      have h3 := h1 ha
      refine ⟨fun ho => ?_, fun b hb => ?_⟩
      · simp only [Bool.and_eq_true, Bool.or_eq_true, decide_eq_true_eq] at hc
        omega
      · simp only [List.zip_cons_cons, List.mem_cons, Prod.mk.injEq] at hb
        rcases hb with ⟨rfl, _⟩ | hb
        · exact h3.1
        · exact h2 b hb
    · rw [if_neg hc] at h1 h2 ⊢
      refine ⟨h1, fun b hb => ?_⟩
      simp only [List.zip_cons_cons, List.mem_cons, Prod.mk.injEq] at hb
      rcases hb with ⟨rfl, rfl⟩ | hb
      · simp only [Bool.not_false, Bool.true_and, Bool.or_eq_true, decide_eq_true_eq, not_or] at hc
        have := h1 (by omega)
        omega
      · exact h2 b hb
theorem stE_mem {f : Fan} : ∀ {xs : List Int} {ls : List Bool}, stE f xs ls = 0 → ∀ a, (a, false) ∈ xs.zip ls → boundR f a = true
  | [], _, _, a, ha => by simp at ha
  | _ :: _, [], _, a, ha => by simp at ha
  | x :: xs, l :: ls, h, a, ha => by
    rw [stE] at h
    split at h
    · omega
    · rename_i hn
      simp only [List.zip_cons_cons, List.mem_cons, Prod.mk.injEq] at ha
      rcases ha with ⟨rfl, rfl⟩ | ha
      · cases hb : boundR f a with
        | true => rfl
        | false => exact absurd (.inr ⟨rfl, hb⟩) hn
      · exact stE_mem h a ha
theorem cycE_lt {c : Cyc} {sz : List Int} (h : cycE c sz = 0) : c.base < c.num := by
  unfold cycE at h
  split at h
  · omega
  · split at h
    · omega
    · omega
theorem keptE_le : ∀ {p : Option Int} {c : Cyc} {cs : List Cyc}, keptE p (c :: cs) = 0 → ∀ x ∈ c :: cs, c.num ≤ x.num
  | p, c, [], h, x, hx => by simp at hx; subst hx; exact Int.le_refl _
  | p, c, d :: cs, h, x, hx => by
    rcases List.mem_cons.1 hx with rfl | hx
    · exact Int.le_refl _
    · rw [keptE] at h
      split at h
      · omega
      · split at h
        · omega
        · have ih := keptE_le h x hx
          rw [keptE] at h
          split at h
          · omega
          · rename_i h1
            split at h
            · omega
            · rename_i h2
              have h3 := cycE_lt (c := d) (sz := most) (by omega)
              simp only [differs, decide_eq_true_eq] at h2
              omega
theorem numIn_mem {n : Int} : ∀ {cs : List Cyc}, numIn n cs = true → ∃ c ∈ cs, c.num = n
  | [], h => by simp [numIn] at h
  | c :: cs, h => by
    rw [numIn] at h
    split at h
    · exact ⟨c, by simp, by assumption⟩
    · obtain ⟨d, h1, h2⟩ := numIn_mem h
      exact ⟨d, by simp [h1], h2⟩
theorem zip_lost {f : Fan} {n : Int} (hl : f.lost.length = f.app.length) {a : Int} (h : (a, false) ∈ f.app.zip (lostW f n f.app.length)) : (a, false) ∈ f.app.zip f.lost ∧ a ≠ n := by
  obtain ⟨j, hj⟩ := List.getElem?_of_mem h
  rw [List.getElem?_zip_eq_some] at hj
  obtain ⟨h1, h2⟩ := hj
  have hjl : j < f.app.length := (List.getElem?_eq_some_iff.1 h1).1
  unfold lostW at h2
  rw [List.take_of_length_le (by omega), List.take_of_length_le (by omega), List.drop_eq_nil_of_le (by omega), List.append_nil, List.getElem?_zipWith, List.getElem?_eq_getElem (by omega), h1] at h2
  simp only [Option.some.injEq, Bool.or_eq_false_iff, decide_eq_false_iff_not] at h2
  refine ⟨List.mem_of_getElem? (i := j) ?_, h2.2⟩
  rw [List.getElem?_zip_eq_some]
  exact ⟨h1, by rw [List.getElem?_eq_getElem (by omega), h2.1]⟩
theorem chkF_all {f : Fan} (h : chkF f = 0) : 1 ≤ f.limit ∧ (f.kept.length : Int) ≤ f.limit ∧ keptE none f.kept = 0 ∧ stE f f.app f.lost = 0 ∧ firstB (leastL (-1) f.app f.lost) f.kept = false := by
  unfold chkF at h
  split at h
  · omega
  · split at h
    · omega
    · split at h
      · omega
      · split at h
        · omega
        · split at h
          · omega
          · split at h
            · omega
            · split at h
              · omega
              · rename_i h7
                exact ⟨by omega, by omega, by omega, by omega, by simpa using h7⟩
theorem push_once {f : Fan} (c : Cyc) (hc : chkF f = 0) (hm : (f.kept.length : Int) + 1 > f.limit) : ((tidyF (pushK f c)).kept.length : Int) ≤ f.limit := by
  obtain ⟨h1, h2, h3, h4, h5⟩ := chkF_all hc
  have hlen := chkF_len hc
  obtain ⟨ha1, ha0⟩ := chkF_ge hc
  match hk : f.kept with
  | [] => rw [hk] at hm; simp at hm; omega
  | k0 :: ks =>
    have hbase : leastL (-1) f.app f.lost = k0.base := by
      rw [hk, firstB] at h5
      simpa using h5
    have hneed : needB (leastL (-1) f.app (lostW f (leastL (-1) f.app f.lost) f.app.length)) k0 = false := by
      rcases least_mem (-1) f.app (lostW f (leastL (-1) f.app f.lost) f.app.length) with h | ⟨a, h6, h7⟩
      · rw [h]; simp [needB]
      · rw [h7]
        obtain ⟨h8, h9⟩ := zip_lost hlen h6
        have h10 := (least_le (-1) f.app f.lost ha0).2 a h8
        have hb := stE_mem h4 a h8
        have hmem : ∃ x ∈ f.kept, x.num = a := by
          unfold boundR at hb
          simp only [Bool.or_eq_true, decide_eq_true_eq] at hb
          rcases hb with (hb | hb) | hb
          · unfold newR at hb
            rw [hk, List.getLast?_cons] at hb
            exact ⟨_, by rw [hk]; exact List.mem_of_getLast? (List.getLast?_cons ..), hb.symm⟩
          · rw [hk, headB] at hb
            simp at hb
            omega
          · exact numIn_mem hb
        obtain ⟨x, hx, hxn⟩ := hmem
        rw [hk] at hx h3
        have := keptE_le h3 x hx
        simp only [needB, Bool.and_eq_false_iff, decide_eq_false_iff_not]
        omega
    show (((tidyK _ _).length : Nat) : Int) ≤ f.limit
    simp only [pushK, tidyK, hk, List.cons_append, List.dropWhile_cons, hneed, Bool.not_false, if_true]
    have h9 : ((ks ++ [c]).dropWhile fun c => !needB (leastL (-1) f.app (lostW f (leastL (-1) f.app f.lost) f.app.length)) c).length ≤ (ks ++ [c]).length := (List.dropWhile_sublist _).length_le
    rw [hk] at h2
    simp at h9 h2 ⊢
    omega
end Go.Proofs.YtlmjpgmaefokdaaGreat
end

section
set_option linter.unusedSimpArgs false
set_option linter.unusedVariables false
namespace Go.Proofs.YtlmjpgmaefokdaaGreat
open Go.Proofs
set_option maxRecDepth 10000
/-- Some objects are kept as they are, and a box, in whose struct arrays are lent; all others are forgotten. -/
theorem wpT_lendB {P : Program} {h : Hp} {n : Nat} {R : Exit → Tm → Hp → Prop} {tm : Tm} {ro : Option Nat} {todo : List Item} (l : List (Nat × Ob)) (ids : List Nat) {j E s : Nat} {cs cs' : List AV} (hl : ∀ p ∈ l, h.get p.1 = some p.2) (hj : h.get j = some (.arr E s [.agg cs]))
    (hd : (ids.all fun i => !(i == j) && l.all fun p => !(p.1 == i)) = true) (hlj : (l.all fun p => !(p.1 == j)) = true) (hlend : LendL (fun id => if id ∈ ids then h.get id else none) cs cs') (hw : wpT P ro n todo R tm (Hp.of ((j, .arr E s [.agg cs']) :: l) h.nx)) : wpT P ro n todo R tm h := by
  have hnone : ∀ {l : List (Nat × Ob)} {id m : Nat}, (∀ p ∈ l, p.1 ≠ id) → (Hp.of l m).get id = none := by
    intro l id m hne
    simp only [Hp.of, Option.map_eq_none_iff, List.find?_eq_none]
    intro p hp
    simpa using hne p hp
  refine wpT_weak (h' := Hp.of ((j, .arr E s [.agg cs']) :: l) h.nx) (Nat.le_refl _) (fun id o' hg => ?_) (fun t => .refl _) hw
  rw [of_cons] at hg
  by_cases e1 : id = j
  · rw [if_pos e1] at hg
    obtain rfl := Option.some.inj hg
    refine ⟨_, e1 ▸ hj, .inr ⟨E, s, [.agg cs], [.agg cs'], rfl, rfl, LendL.cons (Lend.aggL ⟨hlend.1, fun m a b ha hb => (hlend.2 m a b ha hb).weak fun i ob hi => ?_⟩) LendL.nil, by simp [AV.okc]⟩⟩
    split at hi
    · rename_i hm
      have := List.all_eq_true.1 hd i hm
      simp only [Bool.and_eq_true, Bool.not_eq_true', beq_eq_false_iff_ne, List.all_eq_true] at this
      unfold gone
      rw [of_cons, if_neg this.1, hnone this.2]
      exact hi
    · simp at hi
  · rw [if_neg e1] at hg
    exact ⟨o', hl _ (of_mem hg), .inl rfl⟩
/-- The same for an array whose elements are lent. -/
theorem wpT_lendA {P : Program} {h : Hp} {n : Nat} {R : Exit → Tm → Hp → Prop} {tm : Tm} {ro : Option Nat} {todo : List Item} (l : List (Nat × Ob)) (ids : List Nat) {j E s : Nat} {es es' : List AV} (hl : ∀ p ∈ l, h.get p.1 = some p.2) (hj : h.get j = some (.arr E s es))
    (hd : (ids.all fun i => !(i == j) && l.all fun p => !(p.1 == i)) = true) (hlend : LendL (fun id => if id ∈ ids then h.get id else none) es es') (hok : ∀ e ∈ es', e.okc = true) (hw : wpT P ro n todo R tm (Hp.of ((j, .arr E s es') :: l) h.nx)) : wpT P ro n todo R tm h := by
  have hnone : ∀ {l : List (Nat × Ob)} {id m : Nat}, (∀ p ∈ l, p.1 ≠ id) → (Hp.of l m).get id = none := by
    intro l id m hne
    simp only [Hp.of, Option.map_eq_none_iff, List.find?_eq_none]
    intro p hp
    simpa using hne p hp
  refine wpT_weak (h' := Hp.of ((j, .arr E s es') :: l) h.nx) (Nat.le_refl _) (fun id o' hg => ?_) (fun t => .refl _) hw
  rw [of_cons] at hg
  by_cases e1 : id = j
  · rw [if_pos e1] at hg
    obtain rfl := Option.some.inj hg
    refine ⟨_, e1 ▸ hj, .inr ⟨E, s, es, es', rfl, rfl, ⟨hlend.1, fun m a b ha hb => (hlend.2 m a b ha hb).weak fun i ob hi => ?_⟩, hok⟩⟩
    split at hi
    · rename_i hm
      have := List.all_eq_true.1 hd i hm
      simp only [Bool.and_eq_true, Bool.not_eq_true', beq_eq_false_iff_ne, List.all_eq_true] at this
      unfold gone
      rw [of_cons, if_neg this.1, hnone this.2]
      exact hi
    · simp at hi
  · rw [if_neg e1] at hg
    exact ⟨o', hl _ (of_mem hg), .inl rfl⟩
theorem lostQ_at {f : Fan} {n : Int} {i : Nat} (h : i < f.app.length) (h' : i < f.lost.length) : lostQ f n i = (decide (f.app[i] = n) && decide (f.lost[i] = false)) := by
  simp [lostQ, List.getElem?_eq_getElem h, List.getElem?_eq_getElem h']
theorem ldO_arr {P : Program} {t E s tot i off : Nat} {es : List AV} : ldO P t tot i off (some (.arr E s es)) = if es.length = tot then (es[i]?).bind fun e => loadV P t e off else none := rfl
theorem pushF_err {f : Fan} {c : Cyc} {e : Int} (h : pushE f c = e) (h0 : e ≠ 0) : pushF f c = fan0 ∧ pushL f c = [] := ⟨if_pos (by omega), if_pos (by omega)⟩
theorem pushF_big {f : Fan} {c : Cyc} (h : pushE f c = 0) (hm : (f.kept.length : Int) + 1 > f.limit) : pushF f c = tidyF (pushK f c) ∧ pushL f c = lostN f (leastL (-1) f.app f.lost) f.app.length := by
  unfold pushF pushL
  rw [if_neg (by omega), if_pos hm, if_neg (by omega), if_pos hm]
  exact ⟨rfl, rfl⟩
theorem pushF_small {f : Fan} {c : Cyc} (h : pushE f c = 0) (hm : ¬ (f.kept.length : Int) + 1 > f.limit) : pushF f c = ⟨f.limit, f.kept ++ [c], f.app, f.lost⟩ ∧ pushL f c = [] := by
  unfold pushF pushL
  rw [if_neg (by omega), if_neg hm, if_neg (by omega), if_neg hm]
  exact ⟨rfl, rfl⟩
theorem chkF_few {f : Fan} (h : chkF f = 0) : f.app.length ≤ 4 := by
  unfold chkF at h
  split at h
  · omega
  · omega
theorem c21 (f : Fan) (c : Cyc) (hf : f.sm) (hcs : c.sm) : Pu Tryz.prog (.fn (.func 21) [] []) [f.av, c.av] (.tup [(pushF f c).av, .lst ((pushL f c).map I), I (pushE f c)]) := by
  refine pu_func Tryz.func21 rfl (by kernel_rfl) (by show _ ≤ 88; simp only [List.length_append, List.length_cons, List.length_nil]; decide) (by simp only [IDF, fan_idf, and_tt, implies_true]) (by simp only [IDF, and_tt, implies_true]) (by simp only [IDF, fan_idf, cyc_idf, and_tt, implies_true]) ?_
  rw [Tryz.ntmps21]
  refine wpT_seq ?_
  refine wpT_region (by kernel_rfl) (fun K hK => ?_)
  simp only [↓SP, SX, SW, TY, EN, sv_w, ↓reduceIte, reduceCtorEq, Nat.reduceEqDiff, Nat.reduceAdd, Nat.reduceLeDiff, Nat.reduceLT, Fan.av]
  refine hK _ _ ?_
  clear hK K
  refine wpT_seq ?_
  refine wpT_seq ?_
  refine wpT_region (by kernel_rfl) (fun K hK => ?_)
  simp only [↓SP, SX, SW, TY, EN, sv_w, ↓reduceIte, reduceCtorEq, Nat.reduceEqDiff, Nat.reduceAdd, Nat.reduceLeDiff, Nat.reduceLT, Fan.av]
  refine Pu.call (c40 f hf.ok) ?_
  simp only [↓SP, SX, SW, TY, EN, sv_w, ↓reduceIte, reduceCtorEq, Nat.reduceEqDiff, Nat.reduceAdd, Nat.reduceLeDiff, Nat.reduceLT, Fan.av]
  refine hK _ _ ?_
  clear hK K
  refine wpT_seq ?_
  refine wpT_region (by kernel_rfl) (fun K hK => ?_)
  simp only [↓SP, SX, SW, TY, EN, sv_w, ↓reduceIte, reduceCtorEq, Nat.reduceEqDiff, Nat.reduceAdd, Nat.reduceLeDiff, Nat.reduceLT, Fan.av]
  refine hK _ _ ?_
  clear hK K
  refine wpT_if (by rfl) (fun hc17 => ?_) (fun hc17 => ?_)
  · skip
    have p17 := hc17
    try simp only [decide_eq_true_eq, decide_eq_false_iff_not, beq_iff_eq, bne_iff_ne, beq_eq_false_iff_ne, bne_eq_false_iff_eq, Bool.not_eq_true', Bool.not_eq_false'] at p17
    have hx : pushE f c = chkF f := if_pos p17
    have hy := pushF_err hx p17
    refine wpT_seq ?_
    refine wpT_region (by kernel_rfl) (fun K hK => ?_)
    simp only [↓SP, SX, SW, TY, EN, sv_w, ↓reduceIte, reduceCtorEq, Nat.reduceEqDiff, Nat.reduceAdd, Nat.reduceLeDiff, Nat.reduceLT, Fan.av, hc17]
    refine hK _ _ ?_
    clear hK K
    refine wpT_ret ⟨.inr rfl, ?_⟩
    show optK (resA _ _ _ [.cell 4 49, .tmp 5, .tmp 6]) _
    simp only [SR, Option.map_some, Option.bind_some, ↓SP, SX, SW, TY, EN, sv_w, ↓reduceIte, reduceCtorEq, Nat.reduceEqDiff, Nat.reduceAdd, Nat.reduceLeDiff, Nat.reduceLT, Fan.av, hc17]
    rw [hy.1, hy.2, hx]
    exact Lend.tupL (LendL.cons fan0_lend (LendL.cons .nil0 (LendL.cons (.refl _) LendL.nil)))
  · skip
    have p17 := hc17
    try simp only [decide_eq_true_eq, decide_eq_false_iff_not, beq_iff_eq, bne_iff_ne, beq_eq_false_iff_ne, bne_eq_false_iff_eq, Bool.not_eq_true', Bool.not_eq_false'] at p17
    have hc : chkF f = 0 := by omega
    have h17 : ¬ chkF f ≠ 0 := by omega
    have hlen := chkF_len hc
    obtain ⟨ha1, ha0⟩ := chkF_ge hc
    have ha4 := chkF_few hc
    refine wpT_skip ?_
    refine wpT_seq ?_
    refine wpT_seq ?_
    refine wpT_region (by kernel_rfl) (fun K hK => ?_)
    simp only [↓SP, SX, SW, TY, EN, sv_w, ↓reduceIte, reduceCtorEq, Nat.reduceEqDiff, Nat.reduceAdd, Nat.reduceLeDiff, Nat.reduceLT, Fan.av, hc17]
    refine Pu.call (c73 f hf.ok hlen) ?_
    simp only [↓SP, SX, SW, TY, EN, sv_w, ↓reduceIte, reduceCtorEq, Nat.reduceEqDiff, Nat.reduceAdd, Nat.reduceLeDiff, Nat.reduceLT, Fan.av, hc17]
    refine hK _ _ ?_
    clear hK K
    refine wpT_if (by rfl) (fun hc22 => ?_) (fun hc22 => ?_)
    · skip
      have p22 := hc22
      try simp only [decide_eq_true_eq, decide_eq_false_iff_not, beq_iff_eq, bne_iff_ne, beq_eq_false_iff_ne, bne_eq_false_iff_eq, Bool.not_eq_true', Bool.not_eq_false'] at p22
      have hx : pushE f c = 17 := by rw [pushE, if_neg h17, if_pos p22]
      have hy := pushF_err hx (by omega)
      refine wpT_seq ?_
      refine wpT_region (by kernel_rfl) (fun K hK => ?_)
      simp only [↓SP, SX, SW, TY, EN, sv_w, ↓reduceIte, reduceCtorEq, Nat.reduceEqDiff, Nat.reduceAdd, Nat.reduceLeDiff, Nat.reduceLT, Fan.av, hc17, hc22]
      refine hK _ _ ?_
      clear hK K
      refine wpT_ret ⟨.inr rfl, ?_⟩
      show optK (resA _ _ _ [.cell 4 49, .tmp 5, .tmp 6]) _
      simp only [SR, Option.map_some, Option.bind_some, ↓SP, SX, SW, TY, EN, sv_w, ↓reduceIte, reduceCtorEq, Nat.reduceEqDiff, Nat.reduceAdd, Nat.reduceLeDiff, Nat.reduceLT, Fan.av, hc17, hc22]
      rw [hy.1, hy.2, hx]
      exact Lend.tupL (LendL.cons fan0_lend (LendL.cons .nil0 (LendL.cons (.refl _) LendL.nil)))
    · skip
      have p22 := hc22
      try simp only [decide_eq_true_eq, decide_eq_false_iff_not, beq_iff_eq, bne_iff_ne, beq_eq_false_iff_ne, bne_eq_false_iff_eq, Bool.not_eq_true', Bool.not_eq_false'] at p22
      refine wpT_skip ?_
      refine wpT_seq ?_
      refine wpT_seq ?_
      refine wpT_drawn [(0, 1)] mixed (by kernel_rfl) (m := 4) rfl (fun K hK => ?_)
      simp only [↓SP, SX, SW, TY, EN, sv_w, ↓reduceIte, reduceCtorEq, Nat.reduceEqDiff, Nat.reduceAdd, Nat.reduceLeDiff, Nat.reduceLT, Fan.av, hc17, hc22]
      refine Pu.callD most_pu ?_
      simp only [↓SP, SX, SW, TY, EN, sv_w, ↓reduceIte, reduceCtorEq, Nat.reduceEqDiff, Nat.reduceAdd, Nat.reduceLeDiff, Nat.reduceLT, Fan.av, hc17, hc22]
      refine Pu.callD (c74 c most hcs.ok (by decide)) ?_
      simp only [↓SP, SX, SW, TY, EN, sv_w, ↓reduceIte, reduceCtorEq, Nat.reduceEqDiff, Nat.reduceAdd, Nat.reduceLeDiff, Nat.reduceLT, Fan.av, hc17, hc22]
      refine hK _ _ ?_
      clear hK K
      refine wpT_seq ?_
      refine wpT_region (by kernel_rfl) (fun K hK => ?_)
      simp only [↓SP, SX, SW, TY, EN, sv_w, ↓reduceIte, reduceCtorEq, Nat.reduceEqDiff, Nat.reduceAdd, Nat.reduceLeDiff, Nat.reduceLT, Fan.av, hc17, hc22]
      refine hK _ _ ?_
      clear hK K
      refine wpT_if (by rfl) (fun hc28 => ?_) (fun hc28 => ?_)
      · skip
        have p28 := hc28
        try simp only [decide_eq_true_eq, decide_eq_false_iff_not, beq_iff_eq, bne_iff_ne, beq_eq_false_iff_ne, bne_eq_false_iff_eq, Bool.not_eq_true', Bool.not_eq_false'] at p28
        have hx : pushE f c = cycE c most := by rw [pushE, if_neg h17, if_neg p22, if_pos p28]
        have hy := pushF_err hx p28
        refine wpT_seq ?_
        refine wpT_region (by kernel_rfl) (fun K hK => ?_)
        simp only [↓SP, SX, SW, TY, EN, sv_w, ↓reduceIte, reduceCtorEq, Nat.reduceEqDiff, Nat.reduceAdd, Nat.reduceLeDiff, Nat.reduceLT, Fan.av, hc17, hc22, hc28]
        refine hK _ _ ?_
        clear hK K
        refine wpT_ret ⟨.inr rfl, ?_⟩
        show optK (resA _ _ _ [.cell 4 49, .tmp 5, .tmp 6]) _
        simp only [SR, Option.map_some, Option.bind_some, ↓SP, SX, SW, TY, EN, sv_w, ↓reduceIte, reduceCtorEq, Nat.reduceEqDiff, Nat.reduceAdd, Nat.reduceLeDiff, Nat.reduceLT, Fan.av, hc17, hc22, hc28]
        rw [hy.1, hy.2, hx]
        exact Lend.tupL (LendL.cons fan0_lend (LendL.cons .nil0 (LendL.cons (.refl _) LendL.nil)))
      · skip
        have p28 := hc28
        try simp only [decide_eq_true_eq, decide_eq_false_iff_not, beq_iff_eq, bne_iff_ne, beq_eq_false_iff_ne, bne_eq_false_iff_eq, Bool.not_eq_true', Bool.not_eq_false'] at p28
        have h28 : ¬ cycE c most ≠ 0 := by omega
        refine wpT_skip ?_
        refine wpT_seq ?_
        refine wpT_seq ?_
        refine wpT_drawn [(0, 3), (1, 3)] mixed (by kernel_rfl) (m := 5) rfl (fun K hK => ?_)
        simp only [↓SP, SX, SW, TY, EN, sv_w, ↓reduceIte, reduceCtorEq, Nat.reduceEqDiff, Nat.reduceAdd, Nat.reduceLeDiff, Nat.reduceLT, Fan.av, Cyc.av, hc17, hc22, hc28]
        refine Pu.callD (c76 f hf.ok ha1 ha0) ?_
        simp only [↓SP, SX, SW, TY, EN, sv_w, ↓reduceIte, reduceCtorEq, Nat.reduceEqDiff, Nat.reduceAdd, Nat.reduceLeDiff, Nat.reduceLT, Fan.av, Cyc.av, hc17, hc22, hc28]
        refine hK _ _ ?_
        clear hK K
        refine wpT_if (by rfl) (fun hc35 => ?_) (fun hc35 => ?_)
        · skip
          have p35 := hc35
          try simp only [decide_eq_true_eq, decide_eq_false_iff_not, beq_iff_eq, bne_iff_ne, beq_eq_false_iff_ne, bne_eq_false_iff_eq, Bool.not_eq_true', Bool.not_eq_false'] at p35
          have hx : pushE f c = 15 := by rw [pushE, if_neg h17, if_neg p22, if_neg h28, if_pos p35]
          have hy := pushF_err hx (by omega)
          refine wpT_seq ?_
          refine wpT_region (by kernel_rfl) (fun K hK => ?_)
          simp only [↓SP, SX, SW, TY, EN, sv_w, ↓reduceIte, reduceCtorEq, Nat.reduceEqDiff, Nat.reduceAdd, Nat.reduceLeDiff, Nat.reduceLT, Fan.av, hc17, hc22, hc28, hc35]
          refine hK _ _ ?_
          clear hK K
          refine wpT_ret ⟨.inr rfl, ?_⟩
          show optK (resA _ _ _ [.cell 4 49, .tmp 5, .tmp 6]) _
          simp only [SR, Option.map_some, Option.bind_some, ↓SP, SX, SW, TY, EN, sv_w, ↓reduceIte, reduceCtorEq, Nat.reduceEqDiff, Nat.reduceAdd, Nat.reduceLeDiff, Nat.reduceLT, Fan.av, hc17, hc22, hc28, hc35]
          rw [hy.1, hy.2, hx]
          exact Lend.tupL (LendL.cons fan0_lend (LendL.cons .nil0 (LendL.cons (.refl _) LendL.nil)))
        · skip
          have p35 := hc35
          try simp only [decide_eq_true_eq, decide_eq_false_iff_not, beq_iff_eq, bne_iff_ne, beq_eq_false_iff_ne, bne_eq_false_iff_eq, Bool.not_eq_true', Bool.not_eq_false'] at p35
          have hx : pushE f c = 0 := by rw [pushE, if_neg h17, if_neg p22, if_neg h28, if_neg (by omega)]
          have hkl := hf.1
          have q1 : f.kept.length + 1 ≤ maxLen := by simp only [maxLen]; omega
          have q2 : (f.kept.length + 1) * 72 ≤ 140737488355328 := by omega
          refine wpT_skip ?_
          refine wpT_seq ?_
          refine wpT_region (by kernel_rfl) (fun K hK => ?_)
          simp only [↓SP, SX, SW, TY, EN, sv_w, ↓reduceIte, reduceCtorEq, Nat.reduceEqDiff, Nat.reduceAdd, Nat.reduceLeDiff, Nat.reduceLT, Fan.av, hc17, hc22, hc28, hc35]
          refine copied_call hf ha1 (by omega) ?_
          simp only [↓SP, SX, SW, TY, EN, sv_w, ↓reduceIte, reduceCtorEq, Nat.reduceEqDiff, Nat.reduceAdd, Nat.reduceLeDiff, Nat.reduceLT, Fan.av, hc17, hc22, hc28, hc35]
          refine hK _ _ ?_
          clear hK K
          refine wpT_seq ?_
          refine wpT_drawn [(0, 3), (1, 3), (0, 4), (1, 4)] mixed (by kernel_rfl) (m := 8) rfl (fun K hK => ?_)
          simp only [↓SP, SX, SW, TY, EN, sv_w, ↓reduceIte, reduceCtorEq, Nat.reduceEqDiff, Nat.reduceAdd, Nat.reduceLeDiff, Nat.reduceLT, Fan.av, q1, q2, List.cons_append, List.mem_singleton, bsO_one (v := c.av) (c := 5) rfl rfl, hc17, hc22, hc28, hc35]
          refine Pu.callD (c78 c hcs) ?_
          simp only [↓SP, SX, SW, TY, EN, sv_w, ↓reduceIte, reduceCtorEq, Nat.reduceEqDiff, Nat.reduceAdd, Nat.reduceLeDiff, Nat.reduceLT, Fan.av, q1, q2, List.cons_append, List.mem_singleton, bsO_one (v := c.av) (c := 5) rfl rfl, hc17, hc22, hc28, hc35]
          refine hK _ _ ?_
          clear hK K
          refine wpT_seq ?_
          refine wpT_region (by kernel_rfl) (fun K hK => ?_)
          simp only [↓SP, SX, SW, TY, EN, sv_w, ↓reduceIte, reduceCtorEq, Nat.reduceEqDiff, Nat.reduceAdd, Nat.reduceLeDiff, Nat.reduceLT, Fan.av, hc17, hc22, hc28, hc35]
          refine hK _ _ ?_
          clear hK K
          refine wpT_seq ?_
          refine wpT_block ?_
          refine wpT_loop ?_
          refine wpT_nilown 10 3 1 (by simp only [↓SP, SX, SW, TY, EN, sv_w, ↓reduceIte, reduceCtorEq, Nat.reduceEqDiff, Nat.reduceAdd, Nat.reduceLeDiff, Nat.reduceLT]) ?_
          refine wpT_lendB [(2, .arr 49 4 [.agg [I 0, .nil0, .nil0, .nil0]]), (24, .arr 3 1 []), (14, .arr 4 1 (f.lost.map B))] [12, 13] (j := 15) (E := 49) (s := 4) (cs := [I f.limit, .sl 12 (f.kept.length + 1) 0 (f.kept.length + 1), .sl 13 f.app.length 0 f.app.length, .sl 14 f.lost.length 0 f.lost.length]) (cs' := [I f.limit, .lst ((f.kept ++ [c]).map Cyc.av), .lst (f.app.map I), .sl 14 f.lost.length 0 f.lost.length]) (by simp only [↓SP, SX, SW, TY, EN, sv_w, ↓reduceIte, reduceCtorEq, Nat.reduceEqDiff, Nat.reduceAdd, Nat.reduceLeDiff, Nat.reduceLT]) (by simp only [↓SP, SX, SW, TY, EN, sv_w, ↓reduceIte, reduceCtorEq, Nat.reduceEqDiff, Nat.reduceAdd, Nat.reduceLeDiff, Nat.reduceLT]) (by rfl) (by rfl) (LendL.cons (.refl _) (LendL.cons (Lend.sl0 (E := 52) (s := 5) (by simp only [↓SP, SX, SW, TY, EN, sv_w, ↓reduceIte, reduceCtorEq, Nat.reduceEqDiff, Nat.reduceAdd, Nat.reduceLeDiff, Nat.reduceLT, List.map_append]) (by simp) (cycs_okc _)) (LendL.cons (Lend.sl0 (E := 3) (s := 1) (by simp only [↓SP, SX, SW, TY, EN, sv_w, ↓reduceIte, reduceCtorEq, Nat.reduceEqDiff, Nat.reduceAdd, Nat.reduceLeDiff, Nat.reduceLT]) (by simp) (int_okc _)) (LendL.cons (.refl _) LendL.nil)))) ?_
          refine wpT_ind (fun (ph : Nat) tm' h' => ∃ (Kx : List Cyc) (LV : AV) (Nx : List Int) (ex : List (Nat × Ob)), (∃ m, h' = Hp.of ((15, .arr 49 4 [.agg [I f.limit, .lst (Kx.map Cyc.av), .lst (f.app.map I), LV]]) :: (2, .arr 49 4 [.agg [I 0, .nil0, .nil0, .nil0]]) :: (24, .arr 3 1 (Nx.map I)) :: ex) (m + 25)) ∧ tm' 4 = .ptr 2 1 0 0 ∧ tm' 9 = .ptr 15 1 0 0 ∧ tm' 10 = .sl 24 Nx.length 0 Nx.length ∧
            ((ph = 0 ∧ Kx = f.kept ++ [c] ∧ LV = .sl 14 f.lost.length 0 f.lost.length ∧ Nx = [] ∧ ex = [(14, .arr 4 1 (f.lost.map B))]) ∨ (ph = 1 ∧ (f.kept.length : Int) + 1 > f.limit ∧ Kx = (tidyF (pushK f c)).kept ∧ LV = .lst ((pushK f c).lost.map B) ∧ Nx = lostN f (leastL (-1) f.app f.lost) f.app.length ∧ ex = []))) (fun ph => 1 - ph) ?_ 0 ⟨f.kept ++ [c], .sl 14 f.lost.length 0 f.lost.length, [], [(14, .arr 4 1 (f.lost.map B))], ⟨0, rfl⟩, rfl, rfl, rfl, .inl ⟨rfl, rfl, rfl, rfl, rfl⟩⟩
          rintro ph tm' _ ⟨Kx, LV, Nx, ex, ⟨m, rfl⟩, e4, e9, e10, hph⟩ IH
          refine wpT_inLoop ?_
          refine wpT_seq ?_
          refine wpT_seq ?_
          refine wpT_region (by kernel_rfl) (fun K hK => ?_)
          simp only [↓SP, SX, SW, TY, EN, sv_w, ↓reduceIte, reduceCtorEq, Nat.reduceEqDiff, Nat.reduceAdd, Nat.reduceLeDiff, Nat.reduceLT, Fan.av, e9]
          refine hK _ _ ?_
          clear hK K
          refine wpT_if (by rfl) (fun hc51 => ?_) (fun hc51 => ?_)
          · skip
            have p51 := hc51
            try simp only [decide_eq_true_eq, decide_eq_false_iff_not, beq_iff_eq, bne_iff_ne, beq_eq_false_iff_ne, bne_eq_false_iff_eq, Bool.not_eq_true', Bool.not_eq_false'] at p51
            have hph0 := hph.resolve_right (fun ⟨_, hm, hK, _⟩ => by
              subst hK
              have := push_once c hc hm
              omega)
            obtain ⟨rfl, rfl, rfl, rfl, rfl⟩ := hph0
            have hbig : (f.kept.length : Int) + 1 > f.limit := by simpa using p51
            clear hph
            have hF0 : Fan.ok ⟨f.limit, f.kept ++ [c], f.app, f.lost⟩ := ⟨by simp; omega, hf.ok.2.1, hf.ok.2.2.1, fun x hx => by
              rcases List.mem_append.1 hx with h | h
              · exact hf.ok.2.2.2 x h
              · simp at h
                subst h
                exact hcs.ok⟩
            have hPK : (pushK f c).ok := ⟨hF0.1, hF0.2.1, by simp only [pushK]; rw [lostW_length hlen (Nat.le_refl _)]; exact hF0.2.1, hF0.2.2.2⟩
            have hPKl : (pushK f c).lost.length = (pushK f c).app.length := lostW_length hlen (Nat.le_refl _)
            refine wpT_skip ?_
            refine wpT_block ?_
            refine wpT_seq ?_
            refine wpT_region (by kernel_rfl) (fun K hK => ?_)
            simp only [↓SP, SX, SW, TY, EN, sv_w, ↓reduceIte, reduceCtorEq, Nat.reduceEqDiff, Nat.reduceAdd, Nat.reduceLeDiff, Nat.reduceLT, Fan.av, e9, hc51]
            refine Pu.lent (c73 ⟨f.limit, f.kept ++ [c], f.app, f.lost⟩ hF0 hlen) (.int _ _) (.refl _) (LendL.cons (Lend.aggL (LendL.cons (.refl _) (LendL.cons (.refl _) (LendL.cons (.refl _) (LendL.cons (Lend.sl0 (E := 4) (s := 1) (by simp only [↓SP, SX, SW, TY, EN, sv_w, ↓reduceIte, reduceCtorEq, Nat.reduceEqDiff, Nat.reduceAdd, Nat.reduceLeDiff, Nat.reduceLT]) (by simp) (bool_okc _)) LendL.nil))))) LendL.nil) ?_
            simp only [↓SP, SX, SW, TY, EN, sv_w, ↓reduceIte, reduceCtorEq, Nat.reduceEqDiff, Nat.reduceAdd, Nat.reduceLeDiff, Nat.reduceLT, Fan.av, e9, hc51]
            refine hK _ _ ?_
            clear hK K
            refine wpT_seq ?_
            refine wpT_seq ?_
            refine wpT_region (by kernel_rfl) (fun K hK => ?_)
            simp only [↓SP, SX, SW, TY, EN, sv_w, ↓reduceIte, reduceCtorEq, Nat.reduceEqDiff, Nat.reduceAdd, Nat.reduceLeDiff, Nat.reduceLT, Fan.av, e9, hc51]
            refine hK _ _ ?_
            clear hK K
            refine wpT_block ?_
            refine wpT_loop ?_
            refine wpT_keep4 (i := 15) (j := 2) (k := 24) (l := 14) (o := .arr 49 4 [.agg [I f.limit, .lst ((f.kept ++ [c]).map Cyc.av), .lst (f.app.map I), .sl 14 f.lost.length 0 f.lost.length]]) (q := .arr 49 4 [.agg [I 0, .nil0, .nil0, .nil0]]) (r := .arr 3 1 []) (s := .arr 4 1 (f.lost.map B)) (by simp only [↓SP, SX, SW, TY, EN, sv_w, ↓reduceIte, reduceCtorEq, Nat.reduceEqDiff, Nat.reduceAdd, Nat.reduceLeDiff, Nat.reduceLT]) (by simp only [↓SP, SX, SW, TY, EN, sv_w, ↓reduceIte, reduceCtorEq, Nat.reduceEqDiff, Nat.reduceAdd, Nat.reduceLeDiff, Nat.reduceLT]) (by simp only [↓SP, SX, SW, TY, EN, sv_w, ↓reduceIte, reduceCtorEq, Nat.reduceEqDiff, Nat.reduceAdd, Nat.reduceLeDiff, Nat.reduceLT]) (by simp only [↓SP, SX, SW, TY, EN, sv_w, ↓reduceIte, reduceCtorEq, Nat.reduceEqDiff, Nat.reduceAdd, Nat.reduceLeDiff, Nat.reduceLT]) ?_
            refine wpT_ind (fun (i : Nat) tm2 h' => (∃ m, h' = Hp.of [(15, .arr 49 4 [.agg [I f.limit, .lst ((f.kept ++ [c]).map Cyc.av), .lst (f.app.map I), .sl 14 f.lost.length 0 f.lost.length]]), (2, .arr 49 4 [.agg [I 0, .nil0, .nil0, .nil0]]), (24, .arr 3 1 ((lostN f (leastL (-1) f.app f.lost) i).map I)), (14, .arr 4 1 ((lostW f (leastL (-1) f.app f.lost) i).map B))] (m + 25)) ∧ tm2 4 = .ptr 2 1 0 0 ∧ tm2 9 = .ptr 15 1 0 0 ∧ tm2 10 = .sl 24 (lostN f (leastL (-1) f.app f.lost) i).length 0 (lostN f (leastL (-1) f.app f.lost) i).length ∧ tm2 11 = I (leastL (-1) f.app f.lost) ∧ tm2 55 = .lst (f.app.map I) ∧ tm2 56 = I f.app.length ∧ tm2 57 = I i ∧ i ≤ f.app.length) (fun i => f.app.length - i) ?_ 0 ⟨⟨m, by rw [lostW_zero]; rfl⟩, by simp only [↓SP, SX, SW, TY, EN, sv_w, ↓reduceIte, reduceCtorEq, Nat.reduceEqDiff, Nat.reduceAdd, Nat.reduceLeDiff, Nat.reduceLT, e4], by simp only [↓SP, SX, SW, TY, EN, sv_w, ↓reduceIte, reduceCtorEq, Nat.reduceEqDiff, Nat.reduceAdd, Nat.reduceLeDiff, Nat.reduceLT, e9], by simp only [↓SP, SX, SW, TY, EN, sv_w, ↓reduceIte, reduceCtorEq, Nat.reduceEqDiff, Nat.reduceAdd, Nat.reduceLeDiff, Nat.reduceLT, e10]; rfl, by simp only [↓SP, SX, SW, TY, EN, sv_w, ↓reduceIte, reduceCtorEq, Nat.reduceEqDiff, Nat.reduceAdd, Nat.reduceLeDiff, Nat.reduceLT], by simp only [↓SP, SX, SW, TY, EN, sv_w, ↓reduceIte, reduceCtorEq, Nat.reduceEqDiff, Nat.reduceAdd, Nat.reduceLeDiff, Nat.reduceLT], by simp only [↓SP, SX, SW, TY, EN, sv_w, ↓reduceIte, reduceCtorEq, Nat.reduceEqDiff, Nat.reduceAdd, Nat.reduceLeDiff, Nat.reduceLT], by simp only [↓SP, SX, SW, TY, EN, sv_w, ↓reduceIte, reduceCtorEq, Nat.reduceEqDiff, Nat.reduceAdd, Nat.reduceLeDiff, Nat.reduceLT]; rfl, by omega⟩
            clear e4 e9 e10
            rintro i tm2 _ ⟨⟨m2, rfl⟩, e4, e9, e10, e11, e55, e56, e57, hi⟩ IH2
            refine wpT_inLoop ?_
            refine wpT_seq ?_
            refine wpT_region (by kernel_rfl) (fun K hK => ?_)
            simp only [↓SP, SX, SW, TY, EN, sv_w, ↓reduceIte, reduceCtorEq, Nat.reduceEqDiff, Nat.reduceAdd, Nat.reduceLeDiff, Nat.reduceLT, Fan.av, e56, e57]
            refine hK _ _ ?_
            clear hK K
            refine wpT_seq ?_
            refine wpT_if (by rfl) (fun hc58 => ?_) (fun hc58 => ?_)
            · skip
              have p58 := hc58
              try simp only [decide_eq_true_eq, decide_eq_false_iff_not, beq_iff_eq, bne_iff_ne, beq_eq_false_iff_ne, bne_eq_false_iff_eq, Bool.not_eq_true', Bool.not_eq_false'] at p58
              have hlt : i < f.app.length := by omega
              have hlt' : i < f.lost.length := by omega
              have hg := at_map (f := I) hlt
              have hwl := lostW_length (n := (leastL (-1) f.app f.lost)) hlen (i := i) (by omega)
              have hWa : ((lostW f (leastL (-1) f.app f.lost) i).map B)[i]? = some (B f.lost[i]) := by rw [List.getElem?_map, lostW_at hlen hlt, List.getElem?_eq_getElem hlt']; rfl
              have hkz : (i : Int) < (f.lost.length : Int) := by omega
              have hkz0 : (0 : Int) ≤ (i : Int) := by omega
              have hql := lostQ_at (n := (leastL (-1) f.app f.lost)) hlt hlt'
              have hwl' : (lostW f (leastL (-1) f.app f.lost) i).length = f.lost.length := by omega
              have hNle := lostN_length f (leastL (-1) f.app f.lost) i
              have q3 : (lostN f (leastL (-1) f.app f.lost) i).length + 1 ≤ maxLen := by simp only [maxLen]; omega
              have q4 : ((lostN f (leastL (-1) f.app f.lost) i).length + 1) * 8 ≤ 140737488355328 := by omega
              refine wpT_skip ?_
              refine wpT_seq ?_
              refine wpT_block ?_
              refine wpT_seq ?_
              refine wpT_region (by kernel_rfl) (fun K hK => ?_)
              simp only [↓SP, SX, SW, TY, EN, sv_w, ↓reduceIte, reduceCtorEq, Nat.reduceEqDiff, Nat.reduceAdd, Nat.reduceLeDiff, Nat.reduceLT, Fan.av, e55, e57, hg, hc58]
              refine hK _ _ ?_
              clear hK K
              refine wpT_seq ?_
              refine wpT_region (by kernel_rfl) (fun K hK => ?_)
              simp only [↓SP, SX, SW, TY, EN, sv_w, ↓reduceIte, reduceCtorEq, Nat.reduceEqDiff, Nat.reduceAdd, Nat.reduceLeDiff, Nat.reduceLT, Fan.av, e9, e11, ldO_arr, Option.bind_some, Nat.le_refl, hWa, hkz, hkz0, hwl', Int.toNat_natCast, hc58]
              refine guardO_split (fun hg65 => ?_) (fun hg65 => ?_)
              · skip
                have p65 := hg65
                try simp only [decide_eq_true_eq, decide_eq_false_iff_not, beq_iff_eq, bne_iff_ne, beq_eq_false_iff_ne, bne_eq_false_iff_eq, Bool.not_eq_true', Bool.not_eq_false'] at p65
                simp only [↓SP, SX, SW, TY, EN, sv_w, ↓reduceIte, reduceCtorEq, Nat.reduceEqDiff, Nat.reduceAdd, Nat.reduceLeDiff, Nat.reduceLT, Fan.av, e9, e11, ldO_arr, Option.bind_some, Nat.le_refl, hWa, hkz, hkz0, hwl', Int.toNat_natCast, hc58, hg65]
                refine hK _ _ ?_
                clear hK K
                refine wpT_if (by rfl) (fun hc72 => ?_) (fun hc72 => ?_)
                · skip
                  have p72 := hc72
                  try simp only [decide_eq_true_eq, decide_eq_false_iff_not, beq_iff_eq, bne_iff_ne, beq_eq_false_iff_ne, bne_eq_false_iff_eq, Bool.not_eq_true', Bool.not_eq_false'] at p72
                  have hW1 : lostW f (leastL (-1) f.app f.lost) (i + 1) = (lostW f (leastL (-1) f.app f.lost) i).set i true := by rw [lostW_succ hlen hlt]; simp_all
                  have hWn : (lostW f (leastL (-1) f.app f.lost) (i + 1)).map B = ((lostW f (leastL (-1) f.app f.lost) i).map B).set i (.bool true) := by rw [hW1, List.map_set]
                  have hN1 : lostN f (leastL (-1) f.app f.lost) (i + 1) = lostN f (leastL (-1) f.app f.lost) i ++ [(i : Int)] := by rw [lostN_succ, hql, if_pos (by simp_all)]
                  have hNn : (lostN f (leastL (-1) f.app f.lost) (i + 1)).map I = (lostN f (leastL (-1) f.app f.lost) i).map I ++ [I i] := by rw [hN1, List.map_append]; rfl
                  have hNl : (lostN f (leastL (-1) f.app f.lost) (i + 1)).length = (lostN f (leastL (-1) f.app f.lost) i).length + 1 := by rw [hN1]; simp
                  refine wpT_seq ?_
                  refine wpT_region (by kernel_rfl) (fun K hK => ?_)
                  simp only [↓SP, SX, SW, TY, EN, sv_w, ↓reduceIte, reduceCtorEq, Nat.reduceEqDiff, Nat.reduceAdd, Nat.reduceLeDiff, Nat.reduceLT, Fan.av, e9, stO_arr, app_set, Option.bind_some, Nat.le_refl, hWa, hkz, hkz0, hwl', Int.toNat_natCast, hc58, hg65, hc72]
                  refine hK _ _ ?_
                  clear hK K
                  refine wpT_region (by kernel_rfl) (fun K hK => ?_)
                  simp only [↓SP, SX, SW, TY, EN, sv_w, ↓reduceIte, reduceCtorEq, Nat.reduceEqDiff, Nat.reduceAdd, Nat.reduceLeDiff, Nat.reduceLT, Fan.av, e10, q3, q4, hc58, hg65, hc72]
                  refine hK _ _ ?_
                  clear hK K
                  refine wpT_inBlock ?_
                  refine wpT_region (by kernel_rfl) (fun K hK => ?_)
                  simp only [↓SP, SX, SW, TY, EN, sv_w, ↓reduceIte, reduceCtorEq, Nat.reduceEqDiff, Nat.reduceAdd, Nat.reduceLeDiff, Nat.reduceLT, Fan.av, e57, wrap64 (x := (i : Int) + 1) (by omega) (by omega), hc58, hg65, hc72]
                  refine hK _ _ ?_
                  clear hK K
                  refine wpT_keep4 (i := 15) (j := 2) (k := 24) (l := 14) (o := .arr 49 4 [.agg [I f.limit, .lst ((f.kept ++ [c]).map Cyc.av), .lst (f.app.map I), .sl 14 f.lost.length 0 f.lost.length]]) (q := .arr 49 4 [.agg [I 0, .nil0, .nil0, .nil0]]) (r := .arr 3 1 ((lostN f (leastL (-1) f.app f.lost) (i + 1)).map I)) (s := .arr 4 1 ((lostW f (leastL (-1) f.app f.lost) (i + 1)).map B)) (by simp only [↓SP, SX, SW, TY, EN, sv_w, ↓reduceIte, reduceCtorEq, Nat.reduceEqDiff, Nat.reduceAdd, Nat.reduceLeDiff, Nat.reduceLT]) (by simp only [↓SP, SX, SW, TY, EN, sv_w, ↓reduceIte, reduceCtorEq, Nat.reduceEqDiff, Nat.reduceAdd, Nat.reduceLeDiff, Nat.reduceLT]) (by simp only [↓SP, SX, SW, TY, EN, sv_w, ↓reduceIte, reduceCtorEq, Nat.reduceEqDiff, Nat.reduceAdd, Nat.reduceLeDiff, Nat.reduceLT, hNn]) (by simp only [↓SP, SX, SW, TY, EN, sv_w, ↓reduceIte, reduceCtorEq, Nat.reduceEqDiff, Nat.reduceAdd, Nat.reduceLeDiff, Nat.reduceLT, hWn]) ?_
                  refine IH2 (i + 1) _ _ (by omega) ⟨⟨_, rfl⟩, by simp only [↓SP, SX, SW, TY, EN, sv_w, ↓reduceIte, reduceCtorEq, Nat.reduceEqDiff, Nat.reduceAdd, Nat.reduceLeDiff, Nat.reduceLT, e4], by simp only [↓SP, SX, SW, TY, EN, sv_w, ↓reduceIte, reduceCtorEq, Nat.reduceEqDiff, Nat.reduceAdd, Nat.reduceLeDiff, Nat.reduceLT, e9], by simp only [↓SP, SX, SW, TY, EN, sv_w, ↓reduceIte, reduceCtorEq, Nat.reduceEqDiff, Nat.reduceAdd, Nat.reduceLeDiff, Nat.reduceLT, hNl, e10], by simp only [↓SP, SX, SW, TY, EN, sv_w, ↓reduceIte, reduceCtorEq, Nat.reduceEqDiff, Nat.reduceAdd, Nat.reduceLeDiff, Nat.reduceLT, e11], by simp only [↓SP, SX, SW, TY, EN, sv_w, ↓reduceIte, reduceCtorEq, Nat.reduceEqDiff, Nat.reduceAdd, Nat.reduceLeDiff, Nat.reduceLT, e55], by simp only [↓SP, SX, SW, TY, EN, sv_w, ↓reduceIte, reduceCtorEq, Nat.reduceEqDiff, Nat.reduceAdd, Nat.reduceLeDiff, Nat.reduceLT, e56], by simp only [↓SP, SX, SW, TY, EN, sv_w, ↓reduceIte, reduceCtorEq, Nat.reduceEqDiff, Nat.reduceAdd, Nat.reduceLeDiff, Nat.reduceLT, Int.natCast_add, Int.cast_ofNat_Int], by omega⟩
                · skip
                  have p72 := hc72
                  try simp only [decide_eq_true_eq, decide_eq_false_iff_not, beq_iff_eq, bne_iff_ne, beq_eq_false_iff_ne, bne_eq_false_iff_eq, Bool.not_eq_true', Bool.not_eq_false'] at p72
                  have hW1 : lostW f (leastL (-1) f.app f.lost) (i + 1) = lostW f (leastL (-1) f.app f.lost) i := lostW_same hlen hlt (by simp_all)
                  have hWn : (lostW f (leastL (-1) f.app f.lost) (i + 1)).map B = (lostW f (leastL (-1) f.app f.lost) i).map B := by rw [hW1]
                  have hN1 : lostN f (leastL (-1) f.app f.lost) (i + 1) = lostN f (leastL (-1) f.app f.lost) i := by rw [lostN_succ, hql, if_neg (by simp_all), List.append_nil]
                  have hNn : (lostN f (leastL (-1) f.app f.lost) (i + 1)).map I = (lostN f (leastL (-1) f.app f.lost) i).map I := by rw [hN1]
                  have hNl : (lostN f (leastL (-1) f.app f.lost) (i + 1)).length = (lostN f (leastL (-1) f.app f.lost) i).length := by rw [hN1]
                  refine wpT_skip ?_
                  refine wpT_inBlock ?_
                  refine wpT_region (by kernel_rfl) (fun K hK => ?_)
                  simp only [↓SP, SX, SW, TY, EN, sv_w, ↓reduceIte, reduceCtorEq, Nat.reduceEqDiff, Nat.reduceAdd, Nat.reduceLeDiff, Nat.reduceLT, Fan.av, e57, wrap64 (x := (i : Int) + 1) (by omega) (by omega), hc58, hg65, hc72]
                  refine hK _ _ ?_
                  clear hK K
                  refine wpT_keep4 (i := 15) (j := 2) (k := 24) (l := 14) (o := .arr 49 4 [.agg [I f.limit, .lst ((f.kept ++ [c]).map Cyc.av), .lst (f.app.map I), .sl 14 f.lost.length 0 f.lost.length]]) (q := .arr 49 4 [.agg [I 0, .nil0, .nil0, .nil0]]) (r := .arr 3 1 ((lostN f (leastL (-1) f.app f.lost) (i + 1)).map I)) (s := .arr 4 1 ((lostW f (leastL (-1) f.app f.lost) (i + 1)).map B)) (by simp only [↓SP, SX, SW, TY, EN, sv_w, ↓reduceIte, reduceCtorEq, Nat.reduceEqDiff, Nat.reduceAdd, Nat.reduceLeDiff, Nat.reduceLT]) (by simp only [↓SP, SX, SW, TY, EN, sv_w, ↓reduceIte, reduceCtorEq, Nat.reduceEqDiff, Nat.reduceAdd, Nat.reduceLeDiff, Nat.reduceLT]) (by simp only [↓SP, SX, SW, TY, EN, sv_w, ↓reduceIte, reduceCtorEq, Nat.reduceEqDiff, Nat.reduceAdd, Nat.reduceLeDiff, Nat.reduceLT, hNn]) (by simp only [↓SP, SX, SW, TY, EN, sv_w, ↓reduceIte, reduceCtorEq, Nat.reduceEqDiff, Nat.reduceAdd, Nat.reduceLeDiff, Nat.reduceLT, hWn]) ?_
                  refine IH2 (i + 1) _ _ (by omega) ⟨⟨_, rfl⟩, by simp only [↓SP, SX, SW, TY, EN, sv_w, ↓reduceIte, reduceCtorEq, Nat.reduceEqDiff, Nat.reduceAdd, Nat.reduceLeDiff, Nat.reduceLT, e4], by simp only [↓SP, SX, SW, TY, EN, sv_w, ↓reduceIte, reduceCtorEq, Nat.reduceEqDiff, Nat.reduceAdd, Nat.reduceLeDiff, Nat.reduceLT, e9], by simp only [↓SP, SX, SW, TY, EN, sv_w, ↓reduceIte, reduceCtorEq, Nat.reduceEqDiff, Nat.reduceAdd, Nat.reduceLeDiff, Nat.reduceLT, hNl, e10], by simp only [↓SP, SX, SW, TY, EN, sv_w, ↓reduceIte, reduceCtorEq, Nat.reduceEqDiff, Nat.reduceAdd, Nat.reduceLeDiff, Nat.reduceLT, e11], by simp only [↓SP, SX, SW, TY, EN, sv_w, ↓reduceIte, reduceCtorEq, Nat.reduceEqDiff, Nat.reduceAdd, Nat.reduceLeDiff, Nat.reduceLT, e55], by simp only [↓SP, SX, SW, TY, EN, sv_w, ↓reduceIte, reduceCtorEq, Nat.reduceEqDiff, Nat.reduceAdd, Nat.reduceLeDiff, Nat.reduceLT, e56], by simp only [↓SP, SX, SW, TY, EN, sv_w, ↓reduceIte, reduceCtorEq, Nat.reduceEqDiff, Nat.reduceAdd, Nat.reduceLeDiff, Nat.reduceLT, Int.natCast_add, Int.cast_ofNat_Int], by omega⟩
              · skip
                simp only [Bool.not_true, Bool.not_false] at hg65
                have p65 := hg65
                try simp only [decide_eq_true_eq, decide_eq_false_iff_not, beq_iff_eq, bne_iff_ne, beq_eq_false_iff_ne, bne_eq_false_iff_eq, Bool.not_eq_true', Bool.not_eq_false'] at p65
                simp only [↓SP, SX, SW, TY, EN, sv_w, ↓reduceIte, reduceCtorEq, Nat.reduceEqDiff, Nat.reduceAdd, Nat.reduceLeDiff, Nat.reduceLT, Fan.av, e9, e11, ldO_arr, Option.bind_some, Nat.le_refl, hWa, hkz, hkz0, hwl', Int.toNat_natCast, hc58, hg65]
                refine hK _ _ ?_
                clear hK K
                refine wpT_ifF (by simp only [↓SP, SX, SW, TY, EN, sv_w, ↓reduceIte, reduceCtorEq, Nat.reduceEqDiff, Nat.reduceAdd, Nat.reduceLeDiff, Nat.reduceLT, Fan.av, hc58, hg65]) ?_
                have hW1 : lostW f (leastL (-1) f.app f.lost) (i + 1) = lostW f (leastL (-1) f.app f.lost) i := lostW_same hlen hlt (by simp_all)
                have hWn : (lostW f (leastL (-1) f.app f.lost) (i + 1)).map B = (lostW f (leastL (-1) f.app f.lost) i).map B := by rw [hW1]
                have hN1 : lostN f (leastL (-1) f.app f.lost) (i + 1) = lostN f (leastL (-1) f.app f.lost) i := by rw [lostN_succ, hql, if_neg (by simp_all), List.append_nil]
                have hNn : (lostN f (leastL (-1) f.app f.lost) (i + 1)).map I = (lostN f (leastL (-1) f.app f.lost) i).map I := by rw [hN1]
                have hNl : (lostN f (leastL (-1) f.app f.lost) (i + 1)).length = (lostN f (leastL (-1) f.app f.lost) i).length := by rw [hN1]
                refine wpT_skip ?_
                refine wpT_inBlock ?_
                refine wpT_region (by kernel_rfl) (fun K hK => ?_)
                simp only [↓SP, SX, SW, TY, EN, sv_w, ↓reduceIte, reduceCtorEq, Nat.reduceEqDiff, Nat.reduceAdd, Nat.reduceLeDiff, Nat.reduceLT, Fan.av, e57, wrap64 (x := (i : Int) + 1) (by omega) (by omega), hc58, hg65]
                refine hK _ _ ?_
                clear hK K
                refine wpT_keep4 (i := 15) (j := 2) (k := 24) (l := 14) (o := .arr 49 4 [.agg [I f.limit, .lst ((f.kept ++ [c]).map Cyc.av), .lst (f.app.map I), .sl 14 f.lost.length 0 f.lost.length]]) (q := .arr 49 4 [.agg [I 0, .nil0, .nil0, .nil0]]) (r := .arr 3 1 ((lostN f (leastL (-1) f.app f.lost) (i + 1)).map I)) (s := .arr 4 1 ((lostW f (leastL (-1) f.app f.lost) (i + 1)).map B)) (by simp only [↓SP, SX, SW, TY, EN, sv_w, ↓reduceIte, reduceCtorEq, Nat.reduceEqDiff, Nat.reduceAdd, Nat.reduceLeDiff, Nat.reduceLT]) (by simp only [↓SP, SX, SW, TY, EN, sv_w, ↓reduceIte, reduceCtorEq, Nat.reduceEqDiff, Nat.reduceAdd, Nat.reduceLeDiff, Nat.reduceLT]) (by simp only [↓SP, SX, SW, TY, EN, sv_w, ↓reduceIte, reduceCtorEq, Nat.reduceEqDiff, Nat.reduceAdd, Nat.reduceLeDiff, Nat.reduceLT, hNn]) (by simp only [↓SP, SX, SW, TY, EN, sv_w, ↓reduceIte, reduceCtorEq, Nat.reduceEqDiff, Nat.reduceAdd, Nat.reduceLeDiff, Nat.reduceLT, hWn]) ?_
                refine IH2 (i + 1) _ _ (by omega) ⟨⟨_, rfl⟩, by simp only [↓SP, SX, SW, TY, EN, sv_w, ↓reduceIte, reduceCtorEq, Nat.reduceEqDiff, Nat.reduceAdd, Nat.reduceLeDiff, Nat.reduceLT, e4], by simp only [↓SP, SX, SW, TY, EN, sv_w, ↓reduceIte, reduceCtorEq, Nat.reduceEqDiff, Nat.reduceAdd, Nat.reduceLeDiff, Nat.reduceLT, e9], by simp only [↓SP, SX, SW, TY, EN, sv_w, ↓reduceIte, reduceCtorEq, Nat.reduceEqDiff, Nat.reduceAdd, Nat.reduceLeDiff, Nat.reduceLT, hNl, e10], by simp only [↓SP, SX, SW, TY, EN, sv_w, ↓reduceIte, reduceCtorEq, Nat.reduceEqDiff, Nat.reduceAdd, Nat.reduceLeDiff, Nat.reduceLT, e11], by simp only [↓SP, SX, SW, TY, EN, sv_w, ↓reduceIte, reduceCtorEq, Nat.reduceEqDiff, Nat.reduceAdd, Nat.reduceLeDiff, Nat.reduceLT, e55], by simp only [↓SP, SX, SW, TY, EN, sv_w, ↓reduceIte, reduceCtorEq, Nat.reduceEqDiff, Nat.reduceAdd, Nat.reduceLeDiff, Nat.reduceLT, e56], by simp only [↓SP, SX, SW, TY, EN, sv_w, ↓reduceIte, reduceCtorEq, Nat.reduceEqDiff, Nat.reduceAdd, Nat.reduceLeDiff, Nat.reduceLT, Int.natCast_add, Int.cast_ofNat_Int], by omega⟩
            · skip
              have p58 := hc58
              try simp only [decide_eq_true_eq, decide_eq_false_iff_not, beq_iff_eq, bne_iff_ne, beq_eq_false_iff_ne, bne_eq_false_iff_eq, Bool.not_eq_true', Bool.not_eq_false'] at p58
              have hie : i = f.app.length := by omega
              subst hie
              refine wpT_lendB [(2, .arr 49 4 [.agg [I 0, .nil0, .nil0, .nil0]]), (24, .arr 3 1 ((lostN f (leastL (-1) f.app f.lost) f.app.length).map I))] [14] (j := 15) (E := 49) (s := 4) (cs := [I f.limit, .lst ((f.kept ++ [c]).map Cyc.av), .lst (f.app.map I), .sl 14 f.lost.length 0 f.lost.length]) (cs' := [I f.limit, .lst ((f.kept ++ [c]).map Cyc.av), .lst (f.app.map I), .lst ((pushK f c).lost.map B)]) (by simp only [↓SP, SX, SW, TY, EN, sv_w, ↓reduceIte, reduceCtorEq, Nat.reduceEqDiff, Nat.reduceAdd, Nat.reduceLeDiff, Nat.reduceLT]) (by simp only [↓SP, SX, SW, TY, EN, sv_w, ↓reduceIte, reduceCtorEq, Nat.reduceEqDiff, Nat.reduceAdd, Nat.reduceLeDiff, Nat.reduceLT]) (by rfl) (by rfl) (LendL.cons (.refl _) (LendL.cons (.refl _) (LendL.cons (.refl _) (LendL.cons (Lend.sl0 (E := 4) (s := 1) (es := (lostW f (leastL (-1) f.app f.lost) f.app.length).map B) (by simp only [↓SP, SX, SW, TY, EN, sv_w, ↓reduceIte, reduceCtorEq, Nat.reduceEqDiff, Nat.reduceAdd, Nat.reduceLeDiff, Nat.reduceLT]) (by rw [List.length_map, lostW_length hlen (Nat.le_refl _)]; omega) (bool_okc _)) LendL.nil)))) ?_
              refine wpT_exit rfl ?_
              refine wpT_region (by kernel_rfl) (fun K hK => ?_)
              simp only [↓SP, SX, SW, TY, EN, sv_w, ↓reduceIte, reduceCtorEq, Nat.reduceEqDiff, Nat.reduceAdd, Nat.reduceLeDiff, Nat.reduceLT, Fan.av, e9, hc58]
              refine Pu.call (c79 (pushK f c) hPK hPKl) ?_
              simp only [↓SP, SX, SW, TY, EN, sv_w, ↓reduceIte, reduceCtorEq, Nat.reduceEqDiff, Nat.reduceAdd, Nat.reduceLeDiff, Nat.reduceLT, Fan.av, e9, hc58]
              refine hK _ _ ?_
              clear hK K
              refine wpT_inBlock ?_
              refine wpT_keep3 (i := 15) (j := 2) (k := 24) (o := .arr 49 4 [.agg [I f.limit, .lst ((tidyF (pushK f c)).kept.map Cyc.av), .lst (f.app.map I), .lst ((pushK f c).lost.map B)]]) (q := .arr 49 4 [.agg [I 0, .nil0, .nil0, .nil0]]) (r := .arr 3 1 ((lostN f (leastL (-1) f.app f.lost) f.app.length).map I)) (by simp only [↓SP, SX, SW, TY, EN, sv_w, ↓reduceIte, reduceCtorEq, Nat.reduceEqDiff, Nat.reduceAdd, Nat.reduceLeDiff, Nat.reduceLT, fan_okc, fan_cells, fan_isAgg]; rfl) (by simp only [↓SP, SX, SW, TY, EN, sv_w, ↓reduceIte, reduceCtorEq, Nat.reduceEqDiff, Nat.reduceAdd, Nat.reduceLeDiff, Nat.reduceLT]) (by simp only [↓SP, SX, SW, TY, EN, sv_w, ↓reduceIte, reduceCtorEq, Nat.reduceEqDiff, Nat.reduceAdd, Nat.reduceLeDiff, Nat.reduceLT]) ?_
              refine IH 1 _ _ (by omega) ⟨_, _, _, [], ⟨_, rfl⟩, by simp only [↓SP, SX, SW, TY, EN, sv_w, ↓reduceIte, reduceCtorEq, Nat.reduceEqDiff, Nat.reduceAdd, Nat.reduceLeDiff, Nat.reduceLT, e4], by simp only [↓SP, SX, SW, TY, EN, sv_w, ↓reduceIte, reduceCtorEq, Nat.reduceEqDiff, Nat.reduceAdd, Nat.reduceLeDiff, Nat.reduceLT, e9], by simp only [↓SP, SX, SW, TY, EN, sv_w, ↓reduceIte, reduceCtorEq, Nat.reduceEqDiff, Nat.reduceAdd, Nat.reduceLeDiff, Nat.reduceLT, e10], .inr ⟨rfl, hbig, rfl, rfl, rfl, rfl⟩⟩
          · skip
            have p51 := hc51
            try simp only [decide_eq_true_eq, decide_eq_false_iff_not, beq_iff_eq, bne_iff_ne, beq_eq_false_iff_ne, bne_eq_false_iff_eq, Bool.not_eq_true', Bool.not_eq_false'] at p51
            have hN : Nx.length ≤ 4 ∧ inOrder Nx := by
              rcases hph with ⟨_, _, _, rfl, _⟩ | ⟨_, _, _, _, rfl, _⟩
              · exact ⟨by simp, fun i h => by simp at h⟩
              · exact ⟨Nat.le_trans (lostN_length _ _ _) ha4, lostN_order _ _ _⟩
            refine wpT_exit rfl ?_
            refine wpT_seq ?_
            refine wpT_region (by kernel_rfl) (fun K hK => ?_)
            simp only [↓SP, SX, SW, TY, EN, sv_w, ↓reduceIte, reduceCtorEq, Nat.reduceEqDiff, Nat.reduceAdd, Nat.reduceLeDiff, Nat.reduceLT, Fan.av, e10, hc51]
            refine Pu.lent (c80 Nx hN.1 hN.2) (.tup _ (by simp)) (.refl _) (LendL.cons (Lend.sl0 (E := 3) (s := 1) (by simp only [↓SP, SX, SW, TY, EN, sv_w, ↓reduceIte, reduceCtorEq, Nat.reduceEqDiff, Nat.reduceAdd, Nat.reduceLeDiff, Nat.reduceLT]) (by simp) (int_okc _)) LendL.nil) ?_
            simp only [↓SP, SX, SW, TY, EN, sv_w, ↓reduceIte, reduceCtorEq, Nat.reduceEqDiff, Nat.reduceAdd, Nat.reduceLeDiff, Nat.reduceLT, Fan.av, e10, hc51]
            refine hK _ _ ?_
            clear hK K
            refine wpT_seq ?_
            refine wpT_region (by kernel_rfl) (fun K hK => ?_)
            simp only [↓SP, SX, SW, TY, EN, sv_w, ↓reduceIte, reduceCtorEq, Nat.reduceEqDiff, Nat.reduceAdd, Nat.reduceLeDiff, Nat.reduceLT, Fan.av, e4, e9, e10, hc51]
            refine hK _ _ ?_
            clear hK K
            refine wpT_ret ⟨.inr rfl, ?_⟩
            show optK (resA _ _ _ [.cell 4 49, .tmp 5, .tmp 6]) _
            simp only [SR, Option.map_some, Option.bind_some, ↓SP, SX, SW, TY, EN, sv_w, ↓reduceIte, reduceCtorEq, Nat.reduceEqDiff, Nat.reduceAdd, Nat.reduceLeDiff, Nat.reduceLT, Fan.av, hc51]
            simp only [↓SP, SX, SW, TY, EN, sv_w, ↓reduceIte, reduceCtorEq, Nat.reduceEqDiff, Nat.reduceAdd, Nat.reduceLeDiff, Nat.reduceLT, SR, Option.map_some, Option.bind_some, e4]
            rw [hx]
            rcases hph with ⟨_, rfl, rfl, rfl, rfl⟩ | ⟨_, hm, rfl, rfl, rfl, rfl⟩
            · have hy := pushF_small hx (by simpa using p51)
              rw [hy.1, hy.2]
              exact Lend.tupL (LendL.cons (Lend.aggL (LendL.cons (.refl _) (LendL.cons (.refl _) (LendL.cons (.refl _) (LendL.cons (Lend.sl0 (E := 4) (s := 1) (by simp only [↓SP, SX, SW, TY, EN, sv_w, ↓reduceIte, reduceCtorEq, Nat.reduceEqDiff, Nat.reduceAdd, Nat.reduceLeDiff, Nat.reduceLT]) (by simp) (bool_okc _)) LendL.nil))))) (LendL.cons (Lend.sl0 (E := 3) (s := 1) (by simp only [↓SP, SX, SW, TY, EN, sv_w, ↓reduceIte, reduceCtorEq, Nat.reduceEqDiff, Nat.reduceAdd, Nat.reduceLeDiff, Nat.reduceLT]) rfl (int_okc _)) (LendL.cons (.refl _) LendL.nil)))
            · have hy := pushF_big hx hm
              rw [hy.1, hy.2]
              exact Lend.tupL (LendL.cons (.refl _) (LendL.cons (Lend.sl0 (E := 3) (s := 1) (by simp only [↓SP, SX, SW, TY, EN, sv_w, ↓reduceIte, reduceCtorEq, Nat.reduceEqDiff, Nat.reduceAdd, Nat.reduceLeDiff, Nat.reduceLT]) (by simp) (int_okc _)) (LendL.cons (.refl _) LendL.nil)))
end Go.Proofs.YtlmjpgmaefokdaaGreat
end

section
set_option linter.unusedSimpArgs false
set_option linter.unusedVariables false
namespace Go.Proofs.YtlmjpgmaefokdaaGreat
open Go.Proofs
set_option maxRecDepth 10000
def A1 : Fan := ⟨2, [], [4, 4], [false, false]⟩
def A2 : Fan := ⟨2, [⟨4, 5, 0, [], []⟩], [4, 4], [false, false]⟩
def A3 : Fan := ⟨2, [⟨4, 5, 0, [], []⟩, ⟨5, 6, 0, [], []⟩], [4, 4], [false, false]⟩
def A4 : Fan := ⟨2, [⟨4, 5, 0, [], []⟩, ⟨5, 6, 0, [], []⟩], [5, 4], [false, false]⟩
def A5 : Fan := ⟨2, [⟨5, 6, 0, [], []⟩, ⟨6, 7, 0, [], []⟩], [5, 4], [false, true]⟩
theorem a_new : newF 2 2 4 = A1 ∧ newE 2 2 4 = 0 := by decide
theorem a_push5 : pushF A1 ⟨5 - 1, 5, 0, [], []⟩ = A2 ∧ pushE A1 ⟨5 - 1, 5, 0, [], []⟩ = 0 ∧ pushL A1 ⟨5 - 1, 5, 0, [], []⟩ = [] := by decide
theorem a_push6 : pushF A2 ⟨6 - 1, 6, 0, [], []⟩ = A3 ∧ pushE A2 ⟨6 - 1, 6, 0, [], []⟩ = 0 ∧ pushL A2 ⟨6 - 1, 6, 0, [], []⟩ = [] := by decide
theorem a_applied : appliedF A3 0 5 = A4 ∧ appliedE A3 0 5 = 0 := by decide
theorem a_next0 : nextC A4 0 = some ⟨5, 6, 0, [], []⟩ := by decide
theorem a_next1 : nextC A4 1 = some ⟨4, 5, 0, [], []⟩ := by decide
theorem a_old4 : oldR A4 = 4 := by decide
theorem a_push7 : pushF A4 ⟨7 - 1, 7, 0, [], []⟩ = A5 ∧ pushE A4 ⟨7 - 1, 7, 0, [], []⟩ = 0 ∧ pushL A4 ⟨7 - 1, 7, 0, [], []⟩ = [1] := by decide
theorem a_old5 : oldR A5 = 5 := by decide
theorem a5_k : A5.kept = [⟨5, 6, 0, [], []⟩, ⟨6, 7, 0, [], []⟩] := rfl
theorem a_join4 : joinE A5 1 4 = 15 := by decide
theorem a_join {n : Int} (h : 5 ≤ n) (h' : n ≤ 7) : joinE A5 1 n = 0 := by
  have h3 : n = 5 ∨ n = 6 ∨ n = 7 := by omega
  rcases h3 with rfl | rfl | rfl <;> decide
theorem a_sm : A1.sm ∧ A2.sm ∧ A3.sm ∧ A4.sm ∧ A5.sm := by simp [A1, A2, A3, A4, A5, Fan.sm, Cyc.sm]
theorem e_sm (a b : Int) : Cyc.sm ⟨a, b, 0, [], []⟩ := by simp [Cyc.sm]
theorem wr0 : IntKind.i64.wrap 0 = 0 := by decide
theorem c20 : Pu Tryz.prog (.fn (.func 20) [] []) [] (B true) := by
  refine pu_func Tryz.func20 rfl (by kernel_rfl) (by show _ ≤ 140; simp only [List.length_append, List.length_cons, List.length_nil]; decide) (by simp only [IDF, and_tt, implies_true]) (by simp only [IDF, and_tt, implies_true]) (by simp only [IDF, and_tt, implies_true]) ?_
  rw [Tryz.ntmps20]
  obtain ⟨s1, s2, s3, s4, s5⟩ := a_sm
  refine wpT_seq ?_
  refine wpT_region (by kernel_rfl) (fun K hK => ?_)
  simp only [↓SP, SX, SW, TY, EN, sv_w, ↓reduceIte, reduceCtorEq, Nat.reduceEqDiff, Nat.reduceAdd, Nat.reduceLeDiff, Nat.reduceLT]
  refine hK _ _ ?_
  clear hK K
  refine wpT_seq ?_
  refine wpT_region (by kernel_rfl) (fun K hK => ?_)
  simp only [↓SP, SX, SW, TY, EN, sv_w, ↓reduceIte, reduceCtorEq, Nat.reduceEqDiff, Nat.reduceAdd, Nat.reduceLeDiff, Nat.reduceLT, a_new.1, a_new.2]
  refine Pu.call (c44 2 2 4) ?_
  simp only [↓SP, SX, SW, TY, EN, sv_w, ↓reduceIte, reduceCtorEq, Nat.reduceEqDiff, Nat.reduceAdd, Nat.reduceLeDiff, Nat.reduceLT, a_new.1, a_new.2]
  refine hK _ _ ?_
  clear hK K
  refine wpT_seq ?_
  refine wpT_drawn [(0, 1)] mixed (by kernel_rfl) (m := 10) rfl (fun K hK => ?_)
  simp only [↓SP, SX, SW, TY, EN, sv_w, ↓reduceIte, reduceCtorEq, Nat.reduceEqDiff, Nat.reduceAdd, Nat.reduceLeDiff, Nat.reduceLT, a_push5.1, a_push5.2.1, a_push5.2.2]
  refine Pu.callD (c72 5 (by omega) (by omega)) ?_
  simp only [↓SP, SX, SW, TY, EN, sv_w, ↓reduceIte, reduceCtorEq, Nat.reduceEqDiff, Nat.reduceAdd, Nat.reduceLeDiff, Nat.reduceLT, a_push5.1, a_push5.2.1, a_push5.2.2]
  refine Pu.callD (c21 A1 _ s1 (e_sm _ _)) ?_
  simp only [↓SP, SX, SW, TY, EN, sv_w, ↓reduceIte, reduceCtorEq, Nat.reduceEqDiff, Nat.reduceAdd, Nat.reduceLeDiff, Nat.reduceLT, a_push5.1, a_push5.2.1, a_push5.2.2]
  refine hK _ _ ?_
  clear hK K
  refine wpT_seq ?_
  refine wpT_drawn [(0, 1)] mixed (by kernel_rfl) (m := 10) rfl (fun K hK => ?_)
  simp only [↓SP, SX, SW, TY, EN, sv_w, ↓reduceIte, reduceCtorEq, Nat.reduceEqDiff, Nat.reduceAdd, Nat.reduceLeDiff, Nat.reduceLT, a_push6.1, a_push6.2.1, a_push6.2.2]
  refine Pu.callD (c72 6 (by omega) (by omega)) ?_
  simp only [↓SP, SX, SW, TY, EN, sv_w, ↓reduceIte, reduceCtorEq, Nat.reduceEqDiff, Nat.reduceAdd, Nat.reduceLeDiff, Nat.reduceLT, a_push6.1, a_push6.2.1, a_push6.2.2]
  refine Pu.callD (c21 A2 _ s2 (e_sm _ _)) ?_
  simp only [↓SP, SX, SW, TY, EN, sv_w, ↓reduceIte, reduceCtorEq, Nat.reduceEqDiff, Nat.reduceAdd, Nat.reduceLeDiff, Nat.reduceLT, a_push6.1, a_push6.2.1, a_push6.2.2]
  refine hK _ _ ?_
  clear hK K
  refine wpT_seq ?_
  refine wpT_region (by kernel_rfl) (fun K hK => ?_)
  simp only [↓SP, SX, SW, TY, EN, sv_w, ↓reduceIte, reduceCtorEq, Nat.reduceEqDiff, Nat.reduceAdd, Nat.reduceLeDiff, Nat.reduceLT, a_applied.1, a_applied.2]
  refine Pu.call (c31 A3 0 5 s3) ?_
  simp only [↓SP, SX, SW, TY, EN, sv_w, ↓reduceIte, reduceCtorEq, Nat.reduceEqDiff, Nat.reduceAdd, Nat.reduceLeDiff, Nat.reduceLT, a_applied.1, a_applied.2]
  refine hK _ _ ?_
  clear hK K
  refine wpT_seq ?_
  refine wpT_region (by kernel_rfl) (fun K hK => ?_)
  simp only [↓SP, SX, SW, TY, EN, sv_w, ↓reduceIte, reduceCtorEq, Nat.reduceEqDiff, Nat.reduceAdd, Nat.reduceLeDiff, Nat.reduceLT, a_next0, Option.getD_some, Option.isSome_some]
  refine Pu.call (c23 A4 0 s4) ?_
  simp only [↓SP, SX, SW, TY, EN, sv_w, ↓reduceIte, reduceCtorEq, Nat.reduceEqDiff, Nat.reduceAdd, Nat.reduceLeDiff, Nat.reduceLT, a_next0, Option.getD_some, Option.isSome_some]
  refine hK _ _ ?_
  clear hK K
  refine wpT_seq ?_
  refine wpT_region (by kernel_rfl) (fun K hK => ?_)
  simp only [↓SP, SX, SW, TY, EN, sv_w, ↓reduceIte, reduceCtorEq, Nat.reduceEqDiff, Nat.reduceAdd, Nat.reduceLeDiff, Nat.reduceLT, a_next1, Option.getD_some, Option.isSome_some]
  refine Pu.call (c23 A4 1 s4) ?_
  simp only [↓SP, SX, SW, TY, EN, sv_w, ↓reduceIte, reduceCtorEq, Nat.reduceEqDiff, Nat.reduceAdd, Nat.reduceLeDiff, Nat.reduceLT, a_next1, Option.getD_some, Option.isSome_some]
  refine hK _ _ ?_
  clear hK K
  refine wpT_seq ?_
  refine wpT_seq ?_
  refine wpT_region (by kernel_rfl) (fun K hK => ?_)
  simp only [↓SP, SX, SW, TY, EN, sv_w, ↓reduceIte, reduceCtorEq, Nat.reduceEqDiff, Nat.reduceAdd, Nat.reduceLeDiff, Nat.reduceLT, a_old4, Int.reduceAdd, wr0, Int.reduceBNe, bne_self_eq_false, Int.reduceGT, decide_false, cyc_cs, Int.natCast_zero, Int.cast_ofNat_Int, gt_iff_lt, Int.lt_irrefl]
  refine Pu.call (c39 A4 s4.ok) ?_
  simp only [↓SP, SX, SW, TY, EN, sv_w, ↓reduceIte, reduceCtorEq, Nat.reduceEqDiff, Nat.reduceAdd, Nat.reduceLeDiff, Nat.reduceLT, a_old4, Int.reduceAdd, wr0, Int.reduceBNe, bne_self_eq_false, Int.reduceGT, decide_false, cyc_cs, Int.natCast_zero, Int.cast_ofNat_Int, gt_iff_lt, Int.lt_irrefl]
  refine hK _ _ ?_
  clear hK K
  refine wpT_ifF (by simp only [↓SP, SX, SW, TY, EN, sv_w, ↓reduceIte, reduceCtorEq, Nat.reduceEqDiff, Nat.reduceAdd, Nat.reduceLeDiff, Nat.reduceLT]) ?_
  refine wpT_skip ?_
  refine wpT_seq ?_
  refine wpT_drawn [(0, 1)] mixed (by kernel_rfl) (m := 10) rfl (fun K hK => ?_)
  simp only [↓SP, SX, SW, TY, EN, sv_w, ↓reduceIte, reduceCtorEq, Nat.reduceEqDiff, Nat.reduceAdd, Nat.reduceLeDiff, Nat.reduceLT, a_push7.1, a_push7.2.1, a_push7.2.2]
  refine Pu.callD (c72 7 (by omega) (by omega)) ?_
  simp only [↓SP, SX, SW, TY, EN, sv_w, ↓reduceIte, reduceCtorEq, Nat.reduceEqDiff, Nat.reduceAdd, Nat.reduceLeDiff, Nat.reduceLT, a_push7.1, a_push7.2.1, a_push7.2.2]
  refine Pu.callD (c21 A4 _ s4 (e_sm _ _)) ?_
  simp only [↓SP, SX, SW, TY, EN, sv_w, ↓reduceIte, reduceCtorEq, Nat.reduceEqDiff, Nat.reduceAdd, Nat.reduceLeDiff, Nat.reduceLT, a_push7.1, a_push7.2.1, a_push7.2.2]
  refine hK _ _ ?_
  clear hK K
  refine wpT_seq ?_
  refine wpT_seq ?_
  refine wpT_region (by kernel_rfl) (fun K hK => ?_)
  simp only [↓SP, SX, SW, TY, EN, sv_w, ↓reduceIte, reduceCtorEq, Nat.reduceEqDiff, Nat.reduceAdd, Nat.reduceLeDiff, Nat.reduceLT, a_old5, Int.reduceBNe, bne_self_eq_false, decide_false, cyc_cs, fan_cs, a5_k, Int.natCast_zero, Int.cast_ofNat_Int]
  refine Pu.lent (c26 [1] [1] (by decide)) (.bool _) (.refl _) (LendL.cons (.refl _) (LendL.cons (Lend.sl0 (E := 3) (s := 1) (es := [I 1]) (by simp only [↓SP, SX, SW, TY, EN, sv_w, ↓reduceIte, reduceCtorEq, Nat.reduceEqDiff, Nat.reduceAdd, Nat.reduceLeDiff, Nat.reduceLT]) rfl (by simp [AV.okc])) LendL.nil)) ?_
  simp only [↓SP, SX, SW, TY, EN, sv_w, ↓reduceIte, reduceCtorEq, Nat.reduceEqDiff, Nat.reduceAdd, Nat.reduceLeDiff, Nat.reduceLT, a_old5, Int.reduceBNe, bne_self_eq_false, decide_false, cyc_cs, fan_cs, a5_k, Int.natCast_zero, Int.cast_ofNat_Int]
  refine Pu.call (c39 A5 s5.ok) ?_
  simp only [↓SP, SX, SW, TY, EN, sv_w, ↓reduceIte, reduceCtorEq, Nat.reduceEqDiff, Nat.reduceAdd, Nat.reduceLeDiff, Nat.reduceLT, a_old5, Int.reduceBNe, bne_self_eq_false, decide_false, cyc_cs, fan_cs, a5_k, Int.natCast_zero, Int.cast_ofNat_Int]
  refine hK _ _ ?_
  clear hK K
  refine wpT_ifF (by simp only [↓SP, SX, SW, TY, EN, sv_w, ↓reduceIte, reduceCtorEq, Nat.reduceEqDiff, Nat.reduceAdd, Nat.reduceLeDiff, Nat.reduceLT]) ?_
  refine wpT_skip ?_
  refine wpT_seq ?_
  refine wpT_region (by kernel_rfl) (fun K hK => ?_)
  simp only [↓SP, SX, SW, TY, EN, sv_w, ↓reduceIte, reduceCtorEq, Nat.reduceEqDiff, Nat.reduceAdd, Nat.reduceLeDiff, Nat.reduceLT, a_join4]
  refine Pu.call (c35 A5 1 4 s5) ?_
  simp only [↓SP, SX, SW, TY, EN, sv_w, ↓reduceIte, reduceCtorEq, Nat.reduceEqDiff, Nat.reduceAdd, Nat.reduceLeDiff, Nat.reduceLT, a_join4]
  refine hK _ _ ?_
  clear hK K
  refine wpT_seq ?_
  refine wpT_seq ?_
  refine wpT_region (by kernel_rfl) (fun K hK => ?_)
  simp only [↓SP, SX, SW, TY, EN, sv_w, ↓reduceIte, reduceCtorEq, Nat.reduceEqDiff, Nat.reduceAdd, Nat.reduceLeDiff, Nat.reduceLT]
  refine hK _ _ ?_
  clear hK K
  refine wpT_block ?_
  refine wpT_loop ?_
  refine wpT_keep1 (i := 0) (o := .arr 49 4 [A5.av]) (by simp only [↓SP, SX, SW, TY, EN, sv_w, ↓reduceIte, reduceCtorEq, Nat.reduceEqDiff, Nat.reduceAdd, Nat.reduceLeDiff, Nat.reduceLT]) ?_
  refine wpT_ind (fun (i : Nat) tm' h' => (∃ m, h' = Hp.of [(0, .arr 49 4 [A5.av])] (m + 1)) ∧ tm' 1 = .ptr 0 1 0 0 ∧ tm' 2 = I 15 ∧ tm' 12 = I i ∧ 5 ≤ i ∧ i ≤ 8) (fun i => 8 - i) ?_ 5 ⟨⟨_, rfl⟩, rfl, rfl, rfl, by omega, by omega⟩
  rintro i tm' _ ⟨⟨m, rfl⟩, e1, e2, e12, hi5, hi8⟩ IH
  refine wpT_inLoop ?_
  refine wpT_seq ?_
  refine wpT_seq ?_
  refine wpT_region (by kernel_rfl) (fun K hK => ?_)
  simp only [↓SP, SX, SW, TY, EN, sv_w, ↓reduceIte, reduceCtorEq, Nat.reduceEqDiff, Nat.reduceAdd, Nat.reduceLeDiff, Nat.reduceLT, e12]
  refine hK _ _ ?_
  clear hK K
  refine wpT_if (by rfl) (fun hc127 => ?_) (fun hc127 => ?_)
  · skip
    have p127 := hc127
    try simp only [decide_eq_true_eq, decide_eq_false_iff_not, beq_iff_eq, bne_iff_ne, beq_eq_false_iff_ne, bne_eq_false_iff_eq, Bool.not_eq_true', Bool.not_eq_false'] at p127
    have hj := a_join (n := i) (by omega) (by omega)
    refine wpT_skip ?_
    refine wpT_seq ?_
    refine wpT_block ?_
    refine wpT_seq ?_
    refine wpT_region (by kernel_rfl) (fun K hK => ?_)
    simp only [↓SP, SX, SW, TY, EN, sv_w, ↓reduceIte, reduceCtorEq, Nat.reduceEqDiff, Nat.reduceAdd, Nat.reduceLeDiff, Nat.reduceLT, e1, e12, hj, hc127]
    refine Pu.call (c35 A5 1 i s5) ?_
    simp only [↓SP, SX, SW, TY, EN, sv_w, ↓reduceIte, reduceCtorEq, Nat.reduceEqDiff, Nat.reduceAdd, Nat.reduceLeDiff, Nat.reduceLT, e1, e12, hj, hc127]
    refine hK _ _ ?_
    clear hK K
    refine wpT_seq ?_
    refine wpT_region (by kernel_rfl) (fun K hK => ?_)
    simp only [↓SP, SX, SW, TY, EN, sv_w, ↓reduceIte, reduceCtorEq, Nat.reduceEqDiff, Nat.reduceAdd, Nat.reduceLeDiff, Nat.reduceLT, hc127]
    refine hK _ _ ?_
    clear hK K
    refine wpT_if (by rfl) (fun hc137 => ?_) (fun hc137 => ?_)
    · skip
      have p137 := hc137
      try simp only [decide_eq_true_eq, decide_eq_false_iff_not, beq_iff_eq, bne_iff_ne, beq_eq_false_iff_ne, bne_eq_false_iff_eq, Bool.not_eq_true', Bool.not_eq_false'] at p137
      simp at p137
    · skip
      have p137 := hc137
      try simp only [decide_eq_true_eq, decide_eq_false_iff_not, beq_iff_eq, bne_iff_ne, beq_eq_false_iff_ne, bne_eq_false_iff_eq, Bool.not_eq_true', Bool.not_eq_false'] at p137
      refine wpT_skip ?_
      refine wpT_inBlock ?_
      refine wpT_region (by kernel_rfl) (fun K hK => ?_)
      simp only [↓SP, SX, SW, TY, EN, sv_w, ↓reduceIte, reduceCtorEq, Nat.reduceEqDiff, Nat.reduceAdd, Nat.reduceLeDiff, Nat.reduceLT, e12, wrap64 (x := (i : Int) + 1) (by omega) (by omega), hc127, hc137]
      refine hK _ _ ?_
      clear hK K
      refine wpT_keep1 (i := 0) (o := .arr 49 4 [A5.av]) (by simp only [↓SP, SX, SW, TY, EN, sv_w, ↓reduceIte, reduceCtorEq, Nat.reduceEqDiff, Nat.reduceAdd, Nat.reduceLeDiff, Nat.reduceLT]) ?_
      refine IH (i + 1) _ _ (by omega) ⟨⟨_, rfl⟩, by simp only [↓SP, SX, SW, TY, EN, sv_w, ↓reduceIte, reduceCtorEq, Nat.reduceEqDiff, Nat.reduceAdd, Nat.reduceLeDiff, Nat.reduceLT, e1], by simp only [↓SP, SX, SW, TY, EN, sv_w, ↓reduceIte, reduceCtorEq, Nat.reduceEqDiff, Nat.reduceAdd, Nat.reduceLeDiff, Nat.reduceLT, e2], by simp only [↓SP, SX, SW, TY, EN, sv_w, ↓reduceIte, reduceCtorEq, Nat.reduceEqDiff, Nat.reduceAdd, Nat.reduceLeDiff, Nat.reduceLT, Int.natCast_add, Int.cast_ofNat_Int], by omega, by omega⟩
  · skip
    have p127 := hc127
    try simp only [decide_eq_true_eq, decide_eq_false_iff_not, beq_iff_eq, bne_iff_ne, beq_eq_false_iff_ne, bne_eq_false_iff_eq, Bool.not_eq_true', Bool.not_eq_false'] at p127
    refine wpT_exit rfl ?_
    refine wpT_seq ?_
    refine wpT_region (by kernel_rfl) (fun K hK => ?_)
    simp only [↓SP, SX, SW, TY, EN, sv_w, ↓reduceIte, reduceCtorEq, Nat.reduceEqDiff, Nat.reduceAdd, Nat.reduceLeDiff, Nat.reduceLT, e2, beq_self_eq_true, hc127]
    refine hK _ _ ?_
    clear hK K
    refine wpT_ret ⟨.inr rfl, ?_⟩
    show optK (resA _ _ _ [.tmp 0]) _
    simp only [SR, Option.map_some, Option.bind_some, ↓SP, SX, SW, TY, EN, sv_w, ↓reduceIte, reduceCtorEq, Nat.reduceEqDiff, Nat.reduceAdd, Nat.reduceLeDiff, Nat.reduceLT, hc127]
    exact .refl _
end Go.Proofs.YtlmjpgmaefokdaaGreat
end
