/- Walks: the newest and the oldest number of a fan-out, its boundaries.
  Walks: products of small numbers.
  Walks: a slice of one element that is repeated.
  Walks: the greatest sizes, and new fan-outs.
  Walks: the reference's new fan-outs.
  Walks: the program's check of fan-outs, and its oldest number.
  Walks: copies of slices; small functions.
  Walks: copies of cycles; small functions. -/
import Derived.Test.YtlmjpgmaefokdaaGreatR5
section
set_option linter.unusedSimpArgs false
set_option linter.unusedVariables false
namespace Go.Proofs.YtlmjpgmaefokdaaGreat
open Go.Proofs
set_option maxRecDepth 10000
theorem c142 (y : Int) (ys : List Int) (hl : (y :: ys).length < 4611686018427387904) : Pu Tryz.prog (.fn (.func 142) [] []) [.lst ((y :: ys).map I)] (I (maxR y ys)) := by
  refine pu_func Tryz.func142 rfl (by kernel_rfl) (by show _ ≤ 25; simp only [List.length_append, List.length_cons, List.length_nil]; decide) (by simp only [IDF, and_tt, implies_true]) (by simp only [IDF, and_tt, implies_true]) (by simp only [IDF, and_tt, implies_true]) ?_
  rw [Tryz.ntmps142]
  generalize hxs : y :: ys = xs at hl
  have hlc : xs.length = ys.length + 1 := by rw [← hxs]; rfl
  refine wpT_seq ?_
  refine wpT_region (by kernel_rfl) (fun K hK => ?_)
  simp only [↓SP, SX, SW, TY, EN, sv_w, ↓reduceIte, reduceCtorEq, Nat.reduceEqDiff, Nat.reduceAdd, Nat.reduceLeDiff, Nat.reduceLT]
  refine hK _ _ ?_
  clear hK K
  refine wpT_seq ?_
  refine wpT_seq ?_
  refine wpT_region (by kernel_rfl) (fun K hK => ?_)
  simp only [↓SP, SX, SW, TY, EN, sv_w, ↓reduceIte, reduceCtorEq, Nat.reduceEqDiff, Nat.reduceAdd, Nat.reduceLeDiff, Nat.reduceLT]
  refine hK _ _ ?_
  clear hK K
  refine wpT_if (by rfl) (fun hc7 => ?_) (fun hc7 => ?_)
  · skip
    have p7 := hc7
    try simp only [decide_eq_true_eq, decide_eq_false_iff_not, beq_iff_eq, bne_iff_ne, beq_eq_false_iff_ne, bne_eq_false_iff_eq, Bool.not_eq_true', Bool.not_eq_false'] at p7
    exfalso; omega
  · skip
    have p7 := hc7
    try simp only [decide_eq_true_eq, decide_eq_false_iff_not, beq_iff_eq, bne_iff_ne, beq_eq_false_iff_ne, bne_eq_false_iff_eq, Bool.not_eq_true', Bool.not_eq_false'] at p7
    have hg0 : (xs.map I)[0]? = some (I y) := by rw [← hxs]; rfl
    refine wpT_skip ?_
    refine wpT_seq ?_
    refine wpT_region (by kernel_rfl) (fun K hK => ?_)
    simp only [↓SP, SX, SW, TY, EN, sv_w, ↓reduceIte, reduceCtorEq, Nat.reduceEqDiff, Nat.reduceAdd, Nat.reduceLeDiff, Nat.reduceLT, hg0, hc7]
    refine hK _ _ ?_
    clear hK K
    refine wpT_seq ?_
    refine wpT_seq ?_
    refine wpT_region (by kernel_rfl) (fun K hK => ?_)
    simp only [↓SP, SX, SW, TY, EN, sv_w, ↓reduceIte, reduceCtorEq, Nat.reduceEqDiff, Nat.reduceAdd, Nat.reduceLeDiff, Nat.reduceLT, hc7]
    refine hK _ _ ?_
    clear hK K
    refine wpT_block ?_
    refine wpT_loop ?_
    refine wpT_keep0 ?_
    refine wpT_ind (fun (i : Nat) tm' h' => (∃ m, h' = Hp.of [] m) ∧ tm' 0 = .lst (xs.map I) ∧ (∃ a, tm' 3 = I a ∧ maxR a (xs.drop i) = maxR y ys) ∧ tm' 4 = I i ∧ i ≤ xs.length ∧ 1 ≤ i) (fun i => xs.length - i) ?_ 1 ⟨⟨_, rfl⟩, rfl, ⟨y, rfl, by rw [← hxs]; rfl⟩, rfl, by omega, by omega⟩
    rintro i tm' _ ⟨⟨m, rfl⟩, e0, ⟨a, e3, hx⟩, e4, hi, hi1⟩ IH
    refine wpT_inLoop ?_
    refine wpT_seq ?_
    refine wpT_seq ?_
    refine wpT_region (by kernel_rfl) (fun K hK => ?_)
    simp only [↓SP, SX, SW, TY, EN, sv_w, ↓reduceIte, reduceCtorEq, Nat.reduceEqDiff, Nat.reduceAdd, Nat.reduceLeDiff, Nat.reduceLT, e0, e4]
    refine hK _ _ ?_
    clear hK K
    refine wpT_if (by rfl) (fun hc15 => ?_) (fun hc15 => ?_)
    · skip
      have p15 := hc15
      try simp only [decide_eq_true_eq, decide_eq_false_iff_not, beq_iff_eq, bne_iff_ne, beq_eq_false_iff_ne, bne_eq_false_iff_eq, Bool.not_eq_true', Bool.not_eq_false'] at p15
      have hlt : i < xs.length := by omega
      have hg := at_map (f := I) hlt
      rw [List.drop_eq_getElem_cons hlt, maxR] at hx
      refine wpT_skip ?_
      refine wpT_seq ?_
      refine wpT_block ?_
      refine wpT_region (by kernel_rfl) (fun K hK => ?_)
      simp only [↓SP, SX, SW, TY, EN, sv_w, ↓reduceIte, reduceCtorEq, Nat.reduceEqDiff, Nat.reduceAdd, Nat.reduceLeDiff, Nat.reduceLT, e0, e3, e4, hg, hc15]
      refine hK _ _ ?_
      clear hK K
      refine wpT_inBlock ?_
      refine wpT_region (by kernel_rfl) (fun K hK => ?_)
      simp only [↓SP, SX, SW, TY, EN, sv_w, ↓reduceIte, reduceCtorEq, Nat.reduceEqDiff, Nat.reduceAdd, Nat.reduceLeDiff, Nat.reduceLT, e4, wrap64 (x := (i : Int) + 1) (by omega) (by omega), hc15]
      refine hK _ _ ?_
      clear hK K
      refine wpT_keep0 ?_
      refine IH (i + 1) _ _ (by omega) ⟨⟨_, rfl⟩, by simp only [↓SP, SX, SW, TY, EN, sv_w, ↓reduceIte, reduceCtorEq, Nat.reduceEqDiff, Nat.reduceAdd, Nat.reduceLeDiff, Nat.reduceLT, e0], ⟨_, by simp only [↓SP, SX, SW, TY, EN, sv_w, ↓reduceIte, reduceCtorEq, Nat.reduceEqDiff, Nat.reduceAdd, Nat.reduceLeDiff, Nat.reduceLT], hx⟩, by simp only [↓SP, SX, SW, TY, EN, sv_w, ↓reduceIte, reduceCtorEq, Nat.reduceEqDiff, Nat.reduceAdd, Nat.reduceLeDiff, Nat.reduceLT, Int.natCast_add, Int.cast_ofNat_Int], by omega, by omega⟩
    · skip
      have p15 := hc15
      try simp only [decide_eq_true_eq, decide_eq_false_iff_not, beq_iff_eq, bne_iff_ne, beq_eq_false_iff_ne, bne_eq_false_iff_eq, Bool.not_eq_true', Bool.not_eq_false'] at p15
      rw [List.drop_eq_nil_of_le (by omega), maxR] at hx
      refine wpT_exit rfl ?_
      refine wpT_seq ?_
      refine wpT_region (by kernel_rfl) (fun K hK => ?_)
      simp only [↓SP, SX, SW, TY, EN, sv_w, ↓reduceIte, reduceCtorEq, Nat.reduceEqDiff, Nat.reduceAdd, Nat.reduceLeDiff, Nat.reduceLT, e3, hc15]
      refine hK _ _ ?_
      clear hK K
      refine wpT_ret ⟨.inr rfl, ?_⟩
      show optK (resA _ _ _ [.tmp 2]) _
      simp only [SR, Option.map_some, Option.bind_some, ↓SP, SX, SW, TY, EN, sv_w, ↓reduceIte, reduceCtorEq, Nat.reduceEqDiff, Nat.reduceAdd, Nat.reduceLeDiff, Nat.reduceLT, hc15]
      refine Lend.eq ?_
      rw [hx]
theorem c76 (f : Fan) (hf : f.ok) (h1 : 1 ≤ f.app.length) (h0 : ∀ x ∈ f.app, 0 ≤ x) : Pu Tryz.prog (.fn (.func 76) [] []) [f.av] (I (newR f)) := by
  refine pu_func Tryz.func76 rfl (by kernel_rfl) (by show _ ≤ 19; simp only [List.length_append, List.length_cons, List.length_nil]; decide) (by simp only [IDF]) (by simp only [IDF, and_tt, implies_true]) (by simp only [IDF, fan_idf, and_tt, implies_true]) ?_
  have hk := hf.1
  have ha := hf.2.1
  rw [Tryz.ntmps76]
  refine wpT_seq ?_
  refine wpT_region (by kernel_rfl) (fun K hK => ?_)
  simp only [↓SP, SX, SW, TY, EN, sv_w, ↓reduceIte, reduceCtorEq, Nat.reduceEqDiff, Nat.reduceAdd, Nat.reduceLeDiff, Nat.reduceLT, Fan.av, cyc_cs]
  refine hK _ _ ?_
  clear hK K
  refine wpT_seq ?_
  refine wpT_seq ?_
  refine wpT_region (by kernel_rfl) (fun K hK => ?_)
  simp only [↓SP, SX, SW, TY, EN, sv_w, ↓reduceIte, reduceCtorEq, Nat.reduceEqDiff, Nat.reduceAdd, Nat.reduceLeDiff, Nat.reduceLT, Fan.av, cyc_cs]
  refine hK _ _ ?_
  clear hK K
  refine wpT_seq ?_
  refine wpT_region (by kernel_rfl) (fun K hK => ?_)
  simp only [↓SP, SX, SW, TY, EN, sv_w, ↓reduceIte, reduceCtorEq, Nat.reduceEqDiff, Nat.reduceAdd, Nat.reduceLeDiff, Nat.reduceLT, Fan.av, cyc_cs]
  refine hK _ _ ?_
  clear hK K
  refine wpT_if (by rfl) (fun hc8 => ?_) (fun hc8 => ?_)
  · skip
    have p8 := hc8
    try simp only [decide_eq_true_eq, decide_eq_false_iff_not, beq_iff_eq, bne_iff_ne, beq_eq_false_iff_ne, bne_eq_false_iff_eq, Bool.not_eq_true', Bool.not_eq_false'] at p8
    have hlt : f.kept.length - 1 < f.kept.length := by omega
    have hg := at_map (f := Cyc.av) hlt
    have hw1 : IntKind.i64.wrap ((f.kept.length : Int) - 1) = ((f.kept.length - 1 : Nat) : Int) := by rw [wrap64 (by omega) (by omega)]; omega
    have hx : newR f = f.kept[f.kept.length - 1].num := by
      unfold newR
      rw [List.getLast?_eq_getElem?, List.getElem?_eq_getElem hlt]
    refine wpT_seq ?_
    refine wpT_region (by kernel_rfl) (fun K hK => ?_)
    simp only [↓SP, SX, SW, TY, EN, sv_w, ↓reduceIte, reduceCtorEq, Nat.reduceEqDiff, Nat.reduceAdd, Nat.reduceLeDiff, Nat.reduceLT, Fan.av, cyc_cs, hw1, hg, hc8]
    refine hK _ _ ?_
    clear hK K
    refine wpT_ret ⟨.inr rfl, ?_⟩
    show optK (resA _ _ _ [.tmp 2]) _
    simp only [SR, Option.map_some, Option.bind_some, ↓SP, SX, SW, TY, EN, sv_w, ↓reduceIte, reduceCtorEq, Nat.reduceEqDiff, Nat.reduceAdd, Nat.reduceLeDiff, Nat.reduceLT, Fan.av, cyc_cs, hc8]
    refine Lend.eq ?_
    rw [hx]
  · skip
    have p8 := hc8
    try simp only [decide_eq_true_eq, decide_eq_false_iff_not, beq_iff_eq, bne_iff_ne, beq_eq_false_iff_ne, bne_eq_false_iff_eq, Bool.not_eq_true', Bool.not_eq_false'] at p8
    obtain ⟨y, ys, hys⟩ : ∃ y ys, f.app = y :: ys := by
      cases hh : f.app with
      | nil => simp [hh] at h1
      | cons y ys => exact ⟨y, ys, rfl⟩
    have hx : newR f = maxR y ys := by
      unfold newR
      have : f.kept = [] := List.eq_nil_of_length_eq_zero (by omega)
      rw [this, hys]
      have := h0 y (by rw [hys]; simp)
      show maxR (if y > 0 then y else 0) ys = _
      by_cases hy : y > 0
      · rw [if_pos hy]
      · have : y = 0 := by omega
        rw [if_neg hy, this]
    refine wpT_skip ?_
    refine wpT_seq ?_
    refine wpT_region (by kernel_rfl) (fun K hK => ?_)
    simp only [↓SP, SX, SW, TY, EN, sv_w, ↓reduceIte, reduceCtorEq, Nat.reduceEqDiff, Nat.reduceAdd, Nat.reduceLeDiff, Nat.reduceLT, Fan.av, cyc_cs, hys, hc8]
    refine Pu.call (c142 y ys (by rw [← hys]; exact ha)) ?_
    simp only [↓SP, SX, SW, TY, EN, sv_w, ↓reduceIte, reduceCtorEq, Nat.reduceEqDiff, Nat.reduceAdd, Nat.reduceLeDiff, Nat.reduceLT, Fan.av, cyc_cs, hys, hc8]
    refine hK _ _ ?_
    clear hK K
    refine wpT_ret ⟨.inr rfl, ?_⟩
    show optK (resA _ _ _ [.tmp 2]) _
    simp only [SR, Option.map_some, Option.bind_some, ↓SP, SX, SW, TY, EN, sv_w, ↓reduceIte, reduceCtorEq, Nat.reduceEqDiff, Nat.reduceAdd, Nat.reduceLeDiff, Nat.reduceLT, Fan.av, cyc_cs, hc8]
    refine Lend.eq ?_
    rw [hx]
theorem c146 (xs : List Cyc) (fv : AV) (p : Cyc → Bool) (hl : xs.length < 4611686018427387904) (hfv : Idf fv) (hp : ∀ x ∈ xs, Pu Tryz.prog fv [x.av] (B (p x))) : Pu Tryz.prog (.fn (.func 146) [] []) [.lst (xs.map Cyc.av), fv] (I (idxP p 0 xs)) := by
  refine pu_func Tryz.func146 rfl (by kernel_rfl) (by show _ ≤ 19; simp only [List.length_append, List.length_cons, List.length_nil]; decide) (by simp only [IDF]) (by simp only [IDF, and_tt, implies_true]) (by simp only [IDF, cyc_idf, eq_true hfv, and_tt, implies_true]) ?_
  rw [Tryz.ntmps146]
  refine wpT_seq ?_
  refine wpT_region (by kernel_rfl) (fun K hK => ?_)
  simp only [↓SP, SX, SW, TY, EN, sv_w, ↓reduceIte, reduceCtorEq, Nat.reduceEqDiff, Nat.reduceAdd, Nat.reduceLeDiff, Nat.reduceLT, Fan.av]
  refine hK _ _ ?_
  clear hK K
  refine wpT_seq ?_
  refine wpT_seq ?_
  refine wpT_region (by kernel_rfl) (fun K hK => ?_)
  simp only [↓SP, SX, SW, TY, EN, sv_w, ↓reduceIte, reduceCtorEq, Nat.reduceEqDiff, Nat.reduceAdd, Nat.reduceLeDiff, Nat.reduceLT, Fan.av]
  refine hK _ _ ?_
  clear hK K
  refine wpT_block ?_
  refine wpT_loop ?_
  refine wpT_keep0 ?_
  refine wpT_ind (fun (i : Nat) tm' h' => (∃ m, h' = Hp.of [] m) ∧ tm' 0 = .lst (xs.map Cyc.av) ∧ tm' 1 = fv ∧ tm' 7 = I xs.length ∧ tm' 8 = I i ∧ i ≤ xs.length ∧ idxP p i (xs.drop i) = idxP p 0 xs) (fun i => xs.length - i) ?_ 0 ⟨⟨_, rfl⟩, rfl, rfl, rfl, rfl, by omega, rfl⟩
  rintro i tm' _ ⟨⟨m, rfl⟩, e0, e1, e7, e8, hi, hx⟩ IH
  refine wpT_inLoop ?_
  refine wpT_seq ?_
  refine wpT_region (by kernel_rfl) (fun K hK => ?_)
  simp only [↓SP, SX, SW, TY, EN, sv_w, ↓reduceIte, reduceCtorEq, Nat.reduceEqDiff, Nat.reduceAdd, Nat.reduceLeDiff, Nat.reduceLT, Fan.av, e7, e8]
  refine hK _ _ ?_
  clear hK K
  refine wpT_seq ?_
  refine wpT_if (by rfl) (fun hc9 => ?_) (fun hc9 => ?_)
  · skip
    have p9 := hc9
    try simp only [decide_eq_true_eq, decide_eq_false_iff_not, beq_iff_eq, bne_iff_ne, beq_eq_false_iff_ne, bne_eq_false_iff_eq, Bool.not_eq_true', Bool.not_eq_false'] at p9
    have hlt : i < xs.length := by omega
    have hg := at_map (f := Cyc.av) hlt
    rw [List.drop_eq_getElem_cons hlt, idxP] at hx
    refine wpT_skip ?_
    refine wpT_seq ?_
    refine wpT_block ?_
    refine wpT_seq ?_
    refine wpT_region (by kernel_rfl) (fun K hK => ?_)
    simp only [↓SP, SX, SW, TY, EN, sv_w, ↓reduceIte, reduceCtorEq, Nat.reduceEqDiff, Nat.reduceAdd, Nat.reduceLeDiff, Nat.reduceLT, Fan.av, e8, hc9]
    refine hK _ _ ?_
    clear hK K
    refine wpT_seq ?_
    refine wpT_region (by kernel_rfl) (fun K hK => ?_)
    simp only [↓SP, SX, SW, TY, EN, sv_w, ↓reduceIte, reduceCtorEq, Nat.reduceEqDiff, Nat.reduceAdd, Nat.reduceLeDiff, Nat.reduceLT, Fan.av, e0, e1, hg, hc9]
    refine Pu.call (hp _ (List.getElem_mem hlt)) ?_
    simp only [↓SP, SX, SW, TY, EN, sv_w, ↓reduceIte, reduceCtorEq, Nat.reduceEqDiff, Nat.reduceAdd, Nat.reduceLeDiff, Nat.reduceLT, Fan.av, e0, e1, hg, hc9]
    refine hK _ _ ?_
    clear hK K
    refine wpT_if (by rfl) (fun hc16 => ?_) (fun hc16 => ?_)
    · skip
      have p16 := hc16
      try simp only [decide_eq_true_eq, decide_eq_false_iff_not, beq_iff_eq, bne_iff_ne, beq_eq_false_iff_ne, bne_eq_false_iff_eq, Bool.not_eq_true', Bool.not_eq_false'] at p16
      rw [if_pos hc16] at hx
      refine wpT_seq ?_
      refine wpT_region (by kernel_rfl) (fun K hK => ?_)
      simp only [↓SP, SX, SW, TY, EN, sv_w, ↓reduceIte, reduceCtorEq, Nat.reduceEqDiff, Nat.reduceAdd, Nat.reduceLeDiff, Nat.reduceLT, Fan.av, hc9, hc16]
      refine hK _ _ ?_
      clear hK K
      refine wpT_ret ⟨.inr rfl, ?_⟩
      show optK (resA _ _ _ [.tmp 4]) _
      simp only [SR, Option.map_some, Option.bind_some, ↓SP, SX, SW, TY, EN, sv_w, ↓reduceIte, reduceCtorEq, Nat.reduceEqDiff, Nat.reduceAdd, Nat.reduceLeDiff, Nat.reduceLT, Fan.av, hc9, hc16]
      refine Lend.eq ?_
      rw [← hx]
    · skip
      have p16 := hc16
      try simp only [decide_eq_true_eq, decide_eq_false_iff_not, beq_iff_eq, bne_iff_ne, beq_eq_false_iff_ne, bne_eq_false_iff_eq, Bool.not_eq_true', Bool.not_eq_false'] at p16
      rw [if_neg (by simp [hc16])] at hx
      refine wpT_skip ?_
      refine wpT_inBlock ?_
      refine wpT_region (by kernel_rfl) (fun K hK => ?_)
      simp only [↓SP, SX, SW, TY, EN, sv_w, ↓reduceIte, reduceCtorEq, Nat.reduceEqDiff, Nat.reduceAdd, Nat.reduceLeDiff, Nat.reduceLT, Fan.av, e8, wrap64 (x := (i : Int) + 1) (by omega) (by omega), hc9, hc16]
      refine hK _ _ ?_
      clear hK K
      refine wpT_keep0 ?_
      refine IH (i + 1) _ _ (by omega) ⟨⟨_, rfl⟩, by simp only [↓SP, SX, SW, TY, EN, sv_w, ↓reduceIte, reduceCtorEq, Nat.reduceEqDiff, Nat.reduceAdd, Nat.reduceLeDiff, Nat.reduceLT, Fan.av, e0], by simp only [↓SP, SX, SW, TY, EN, sv_w, ↓reduceIte, reduceCtorEq, Nat.reduceEqDiff, Nat.reduceAdd, Nat.reduceLeDiff, Nat.reduceLT, Fan.av, e1], by simp only [↓SP, SX, SW, TY, EN, sv_w, ↓reduceIte, reduceCtorEq, Nat.reduceEqDiff, Nat.reduceAdd, Nat.reduceLeDiff, Nat.reduceLT, Fan.av, e7], by simp only [↓SP, SX, SW, TY, EN, sv_w, ↓reduceIte, reduceCtorEq, Nat.reduceEqDiff, Nat.reduceAdd, Nat.reduceLeDiff, Nat.reduceLT, Fan.av, Int.natCast_add, Int.cast_ofNat_Int], by omega, hx⟩
  · skip
    have p9 := hc9
    try simp only [decide_eq_true_eq, decide_eq_false_iff_not, beq_iff_eq, bne_iff_ne, beq_eq_false_iff_ne, bne_eq_false_iff_eq, Bool.not_eq_true', Bool.not_eq_false'] at p9
    rw [List.drop_eq_nil_of_le (by omega), idxP] at hx
    refine wpT_exit rfl ?_
    refine wpT_seq ?_
    refine wpT_region (by kernel_rfl) (fun K hK => ?_)
    simp only [↓SP, SX, SW, TY, EN, sv_w, ↓reduceIte, reduceCtorEq, Nat.reduceEqDiff, Nat.reduceAdd, Nat.reduceLeDiff, Nat.reduceLT, Fan.av, hc9]
    refine hK _ _ ?_
    clear hK K
    refine wpT_ret ⟨.inr rfl, ?_⟩
    show optK (resA _ _ _ [.tmp 4]) _
    simp only [SR, Option.map_some, Option.bind_some, ↓SP, SX, SW, TY, EN, sv_w, ↓reduceIte, reduceCtorEq, Nat.reduceEqDiff, Nat.reduceAdd, Nat.reduceLeDiff, Nat.reduceLT, Fan.av, hc9]
    refine Lend.eq ?_
    rw [← hx]
theorem c157 (xs : List Cyc) (fv : AV) (p : Cyc → Bool) (hl : xs.length < 4611686018427387904) (hfv : Idf fv) (hp : ∀ x ∈ xs, Pu Tryz.prog fv [x.av] (B (p x))) : Pu Tryz.prog (.fn (.func 157) [] []) [.lst (xs.map Cyc.av), fv] (B (xs.any p)) := by
  refine pu_func Tryz.func157 rfl (by kernel_rfl) (by show _ ≤ 9; simp only [List.length_append, List.length_cons, List.length_nil]; decide) (by simp only [IDF]) (by simp only [IDF, and_tt, implies_true]) (by simp only [IDF, cyc_idf, eq_true hfv, and_tt, implies_true]) ?_
  rw [Tryz.ntmps157]
  refine wpT_seq ?_
  refine wpT_region (by kernel_rfl) (fun K hK => ?_)
  simp only [↓SP, SX, SW, TY, EN, sv_w, ↓reduceIte, reduceCtorEq, Nat.reduceEqDiff, Nat.reduceAdd, Nat.reduceLeDiff, Nat.reduceLT, Fan.av]
  refine hK _ _ ?_
  clear hK K
  refine wpT_seq ?_
  refine wpT_region (by kernel_rfl) (fun K hK => ?_)
  simp only [↓SP, SX, SW, TY, EN, sv_w, ↓reduceIte, reduceCtorEq, Nat.reduceEqDiff, Nat.reduceAdd, Nat.reduceLeDiff, Nat.reduceLT, Fan.av, idxP_ge]
  refine Pu.call (c146 xs fv p hl hfv hp) ?_
  simp only [↓SP, SX, SW, TY, EN, sv_w, ↓reduceIte, reduceCtorEq, Nat.reduceEqDiff, Nat.reduceAdd, Nat.reduceLeDiff, Nat.reduceLT, Fan.av, idxP_ge]
  refine hK _ _ ?_
  clear hK K
  refine wpT_ret ⟨.inr rfl, ?_⟩
  show optK (resA _ _ _ [.tmp 4]) _
  simp only [SR, Option.map_some, Option.bind_some, ↓SP, SX, SW, TY, EN, sv_w, ↓reduceIte, reduceCtorEq, Nat.reduceEqDiff, Nat.reduceAdd, Nat.reduceLeDiff, Nat.reduceLT, Fan.av]
  exact .refl _
theorem c158 (c : Cyc) (n : Int) : Pu Tryz.prog (.fn (.func 158) [] [.cptr (I n)]) [c.av] (B (c.num == n)) := by
  refine pu_func Tryz.func158 rfl (by kernel_rfl) (by show _ ≤ 8; simp only [List.length_append, List.length_cons, List.length_nil]; decide) (by simp only [IDF]) (by simp only [IDF, and_tt, implies_true]) (by simp only [IDF, cyc_idf, and_tt, implies_true]) ?_
  rw [Tryz.ntmps158]
  refine wpT_seq ?_
  refine wpT_region (by kernel_rfl) (fun K hK => ?_)
  simp only [↓SP, SX, SW, TY, EN, sv_w, ↓reduceIte, reduceCtorEq, Nat.reduceEqDiff, Nat.reduceAdd, Nat.reduceLeDiff, Nat.reduceLT, Fan.av, List.cons_append, cyc_cs, Cyc.av]
  refine hK _ _ ?_
  clear hK K
  refine wpT_seq ?_
  refine wpT_region (by kernel_rfl) (fun K hK => ?_)
  simp only [↓SP, SX, SW, TY, EN, sv_w, ↓reduceIte, reduceCtorEq, Nat.reduceEqDiff, Nat.reduceAdd, Nat.reduceLeDiff, Nat.reduceLT, Fan.av, List.cons_append, cyc_cs, Cyc.av]
  refine hK _ _ ?_
  clear hK K
  refine wpT_ret ⟨.inr rfl, ?_⟩
  show optK (resA _ _ _ [.tmp 3]) _
  simp only [SR, Option.map_some, Option.bind_some, ↓SP, SX, SW, TY, EN, sv_w, ↓reduceIte, reduceCtorEq, Nat.reduceEqDiff, Nat.reduceAdd, Nat.reduceLeDiff, Nat.reduceLT, Fan.av, List.cons_append, cyc_cs, Cyc.av]
  exact .refl _
theorem numIn_any (n : Int) : ∀ xs : List Cyc, xs.any (fun c => c.num == n) = numIn n xs
  | [] => rfl
  | c :: cs => by
    rw [numIn, List.any_cons, numIn_any n cs]
    by_cases h : c.num = n <;> simp [h]
theorem c96 (f : Fan) (n : Int) (hf : f.ok) : Pu Tryz.prog (.fn (.func 96) [] []) [f.av, I n] (B (numIn n f.kept)) := by
  refine pu_func Tryz.func96 rfl (by kernel_rfl) (by show _ ≤ 9; simp only [List.length_append, List.length_cons, List.length_nil]; decide) (by simp only [IDF]) (by simp only [IDF, and_tt, implies_true]) (by simp only [IDF, fan_idf, and_tt, implies_true]) ?_
  rw [Tryz.ntmps96]
  refine wpT_seq ?_
  refine wpT_region (by kernel_rfl) (fun K hK => ?_)
  simp only [↓SP, SX, SW, TY, EN, sv_w, ↓reduceIte, reduceCtorEq, Nat.reduceEqDiff, Nat.reduceAdd, Nat.reduceLeDiff, Nat.reduceLT, Fan.av]
  refine hK _ _ ?_
  clear hK K
  refine wpT_seq ?_
  refine wpT_region (by kernel_rfl) (fun K hK => ?_)
  simp only [↓SP, SX, SW, TY, EN, sv_w, ↓reduceIte, reduceCtorEq, Nat.reduceEqDiff, Nat.reduceAdd, Nat.reduceLeDiff, Nat.reduceLT, Fan.av, numIn_any]
  refine Pu.lent (c157 f.kept (.fn (.func 158) [] [.cptr (I n)]) (fun c => c.num == n) hf.1 (by simp only [IDF, and_tt]) (fun c _ => c158 c n)) (.bool _) (.refl _) (LendL.cons (.refl _) (LendL.cons (Lend.fnL LendL.nil (LendL.cons (Lend.ptr1 (E := 3) (s := 1) (by simp only [↓SP, SX, SW, TY, EN, sv_w, ↓reduceIte, reduceCtorEq, Nat.reduceEqDiff, Nat.reduceAdd, Nat.reduceLeDiff, Nat.reduceLT, Fan.av]) rfl) LendL.nil)) LendL.nil)) ?_
  simp only [↓SP, SX, SW, TY, EN, sv_w, ↓reduceIte, reduceCtorEq, Nat.reduceEqDiff, Nat.reduceAdd, Nat.reduceLeDiff, Nat.reduceLT, Fan.av, numIn_any]
  refine hK _ _ ?_
  clear hK K
  refine wpT_ret ⟨.inr rfl, ?_⟩
  show optK (resA _ _ _ [.tmp 4]) _
  simp only [SR, Option.map_some, Option.bind_some, ↓SP, SX, SW, TY, EN, sv_w, ↓reduceIte, reduceCtorEq, Nat.reduceEqDiff, Nat.reduceAdd, Nat.reduceLeDiff, Nat.reduceLT, Fan.av]
  exact .refl _
def foldL (c : Int → Int → Int) : Int → List Int → List Bool → Int
  | o, a :: xs, l :: ls => foldL c (if l = true then o else c o a) xs ls
  | o, _, _ => o
def comb (a b : Int) : Int := if a < 0 then b else if b < a then b else a
theorem foldL_least : ∀ (o : Int) (xs : List Int) (ls : List Bool), foldL comb o xs ls = leastL o xs ls
  | o, [], _ => by rw [foldL.eq_2 _ _ _ _ (by simp), leastL.eq_2 _ _ _ (by simp)]
  | o, _ :: _, [] => by rw [foldL.eq_2 _ _ _ _ (by simp), leastL.eq_2 _ _ _ (by simp)]
  | o, a :: xs, l :: ls => by
    rw [foldL, leastL, foldL_least]
    congr 1
    cases l
    · simp only [comb, Bool.false_eq_true, if_false, Bool.not_false, Bool.true_and, Bool.or_eq_true, decide_eq_true_eq]
      by_cases h1 : o < 0
      · simp [h1]
      · by_cases h2 : a < o <;> simp [h1, h2]
    · simp
theorem c139 (a b : Int) : Pu Tryz.prog (.fn (.func 139) [] []) [I a, I b] (I (comb a b)) := by
  refine pu_func Tryz.func139 rfl (by kernel_rfl) (by show _ ≤ 11; simp only [List.length_append, List.length_cons, List.length_nil]; decide) (by simp only [IDF, and_tt, implies_true]) (by simp only [IDF, and_tt, implies_true]) (by simp only [IDF, and_tt, implies_true]) ?_
  rw [Tryz.ntmps139]
  refine wpT_seq ?_
  refine wpT_region (by kernel_rfl) (fun K hK => ?_)
  simp only [↓SP, SX, SW, TY, EN, sv_w, ↓reduceIte, reduceCtorEq, Nat.reduceEqDiff, Nat.reduceAdd, Nat.reduceLeDiff, Nat.reduceLT, Fan.av]
  refine hK _ _ ?_
  clear hK K
  refine wpT_seq ?_
  refine wpT_seq ?_
  refine wpT_region (by kernel_rfl) (fun K hK => ?_)
  simp only [↓SP, SX, SW, TY, EN, sv_w, ↓reduceIte, reduceCtorEq, Nat.reduceEqDiff, Nat.reduceAdd, Nat.reduceLeDiff, Nat.reduceLT, Fan.av]
  refine hK _ _ ?_
  clear hK K
  refine wpT_if (by rfl) (fun hc6 => ?_) (fun hc6 => ?_)
  · skip
    have p6 := hc6
    try simp only [decide_eq_true_eq, decide_eq_false_iff_not, beq_iff_eq, bne_iff_ne, beq_eq_false_iff_ne, bne_eq_false_iff_eq, Bool.not_eq_true', Bool.not_eq_false'] at p6
    have hx : comb a b = b := if_pos p6
    refine wpT_seq ?_
    refine wpT_region (by kernel_rfl) (fun K hK => ?_)
    simp only [↓SP, SX, SW, TY, EN, sv_w, ↓reduceIte, reduceCtorEq, Nat.reduceEqDiff, Nat.reduceAdd, Nat.reduceLeDiff, Nat.reduceLT, Fan.av, hc6]
    refine hK _ _ ?_
    clear hK K
    refine wpT_ret ⟨.inr rfl, ?_⟩
    show optK (resA _ _ _ [.tmp 4]) _
    simp only [SR, Option.map_some, Option.bind_some, ↓SP, SX, SW, TY, EN, sv_w, ↓reduceIte, reduceCtorEq, Nat.reduceEqDiff, Nat.reduceAdd, Nat.reduceLeDiff, Nat.reduceLT, Fan.av, hc6]
    refine Lend.eq ?_
    rw [hx]
  · skip
    have p6 := hc6
    try simp only [decide_eq_true_eq, decide_eq_false_iff_not, beq_iff_eq, bne_iff_ne, beq_eq_false_iff_ne, bne_eq_false_iff_eq, Bool.not_eq_true', Bool.not_eq_false'] at p6
    have hx : comb a b = if b < a then b else a := if_neg p6
    refine wpT_skip ?_
    refine wpT_seq ?_
    refine wpT_region (by kernel_rfl) (fun K hK => ?_)
    simp only [↓SP, SX, SW, TY, EN, sv_w, ↓reduceIte, reduceCtorEq, Nat.reduceEqDiff, Nat.reduceAdd, Nat.reduceLeDiff, Nat.reduceLT, Fan.av, hc6]
    refine hK _ _ ?_
    clear hK K
    refine wpT_ret ⟨.inr rfl, ?_⟩
    show optK (resA _ _ _ [.tmp 4]) _
    simp only [SR, Option.map_some, Option.bind_some, ↓SP, SX, SW, TY, EN, sv_w, ↓reduceIte, reduceCtorEq, Nat.reduceEqDiff, Nat.reduceAdd, Nat.reduceLeDiff, Nat.reduceLT, Fan.av, hc6]
    refine Lend.eq ?_
    rw [hx]
theorem c138 (f : Fan) (start : Int) (fv : AV) (c : Int → Int → Int) (hf : f.ok) (hlen : f.lost.length = f.app.length) (hfv : Idf fv) (hp : ∀ a b, Pu Tryz.prog fv [I a, I b] (I (c a b))) : Pu Tryz.prog (.fn (.func 138) [] []) [f.av, I start, fv] (I (foldL c start f.app f.lost)) := by
  refine pu_func Tryz.func138 rfl (by kernel_rfl) (by show _ ≤ 31; simp only [List.length_append, List.length_cons, List.length_nil]; decide) (by simp only [IDF]) (by simp only [IDF, and_tt, implies_true]) (by simp only [IDF, fan_idf, eq_true hfv, and_tt, implies_true]) ?_
  have ha := hf.2.1
  rw [Tryz.ntmps138]
  refine wpT_seq ?_
  refine wpT_region (by kernel_rfl) (fun K hK => ?_)
  simp only [↓SP, SX, SW, TY, EN, sv_w, ↓reduceIte, reduceCtorEq, Nat.reduceEqDiff, Nat.reduceAdd, Nat.reduceLeDiff, Nat.reduceLT, Fan.av]
  refine hK _ _ ?_
  clear hK K
  refine wpT_seq ?_
  refine wpT_region (by kernel_rfl) (fun K hK => ?_)
  simp only [↓SP, SX, SW, TY, EN, sv_w, ↓reduceIte, reduceCtorEq, Nat.reduceEqDiff, Nat.reduceAdd, Nat.reduceLeDiff, Nat.reduceLT, Fan.av]
  refine hK _ _ ?_
  clear hK K
  refine wpT_seq ?_
  refine wpT_seq ?_
  refine wpT_region (by kernel_rfl) (fun K hK => ?_)
  simp only [↓SP, SX, SW, TY, EN, sv_w, ↓reduceIte, reduceCtorEq, Nat.reduceEqDiff, Nat.reduceAdd, Nat.reduceLeDiff, Nat.reduceLT, Fan.av]
  refine hK _ _ ?_
  clear hK K
  refine wpT_block ?_
  refine wpT_loop ?_
  refine wpT_keep1 (i := 0) (o := .arr 49 4 [f.av]) (by simp only [↓SP, SX, SW, TY, EN, sv_w, ↓reduceIte, reduceCtorEq, Nat.reduceEqDiff, Nat.reduceAdd, Nat.reduceLeDiff, Nat.reduceLT, Fan.av]) ?_
  refine wpT_ind (fun (i : Nat) tm' h' => (∃ m, h' = Hp.of [(0, .arr 49 4 [f.av])] (m + 1)) ∧ tm' 2 = fv ∧ tm' 3 = .ptr 0 1 0 0 ∧ (∃ a, tm' 7 = I a ∧ foldL c a (f.app.drop i) (f.lost.drop i) = foldL c start f.app f.lost) ∧ tm' 12 = .lst (f.app.map I) ∧ tm' 13 = I f.app.length ∧ tm' 14 = I i ∧ i ≤ f.app.length) (fun i => f.app.length - i) ?_ 0 ⟨⟨0, rfl⟩, rfl, rfl, ⟨start, rfl, rfl⟩, rfl, rfl, rfl, by omega⟩
  rintro i tm' _ ⟨⟨m, rfl⟩, e2, e3, ⟨a, e7, hx⟩, e12, e13, e14, hi⟩ IH
  refine wpT_inLoop ?_
  refine wpT_seq ?_
  refine wpT_region (by kernel_rfl) (fun K hK => ?_)
  simp only [↓SP, SX, SW, TY, EN, sv_w, ↓reduceIte, reduceCtorEq, Nat.reduceEqDiff, Nat.reduceAdd, Nat.reduceLeDiff, Nat.reduceLT, Fan.av, e13, e14]
  refine hK _ _ ?_
  clear hK K
  refine wpT_seq ?_
  refine wpT_if (by rfl) (fun hc15 => ?_) (fun hc15 => ?_)
  · skip
    have p15 := hc15
    try simp only [decide_eq_true_eq, decide_eq_false_iff_not, beq_iff_eq, bne_iff_ne, beq_eq_false_iff_ne, bne_eq_false_iff_eq, Bool.not_eq_true', Bool.not_eq_false'] at p15
    have hlt : i < f.app.length := by omega
    have hlt' : i < f.lost.length := by omega
    have hg := at_map (f := I) hlt
    have hg' := at_map (f := B) hlt'
    rw [List.drop_eq_getElem_cons hlt, List.drop_eq_getElem_cons hlt', foldL] at hx
    refine wpT_skip ?_
    refine wpT_seq ?_
    refine wpT_block ?_
    refine wpT_seq ?_
    refine wpT_region (by kernel_rfl) (fun K hK => ?_)
    simp only [↓SP, SX, SW, TY, EN, sv_w, ↓reduceIte, reduceCtorEq, Nat.reduceEqDiff, Nat.reduceAdd, Nat.reduceLeDiff, Nat.reduceLT, Fan.av, e12, e14, hg, hc15]
    refine hK _ _ ?_
    clear hK K
    refine wpT_seq ?_
    refine wpT_region (by kernel_rfl) (fun K hK => ?_)
    simp only [↓SP, SX, SW, TY, EN, sv_w, ↓reduceIte, reduceCtorEq, Nat.reduceEqDiff, Nat.reduceAdd, Nat.reduceLeDiff, Nat.reduceLT, Fan.av, e3, hg', hc15]
    refine hK _ _ ?_
    clear hK K
    refine wpT_if (by rfl) (fun hc24 => ?_) (fun hc24 => ?_)
    · skip
      have p24 := hc24
      try simp only [decide_eq_true_eq, decide_eq_false_iff_not, beq_iff_eq, bne_iff_ne, beq_eq_false_iff_ne, bne_eq_false_iff_eq, Bool.not_eq_true', Bool.not_eq_false'] at p24
      rw [if_neg (by simp [p24])] at hx
      refine wpT_region (by kernel_rfl) (fun K hK => ?_)
      simp only [↓SP, SX, SW, TY, EN, sv_w, ↓reduceIte, reduceCtorEq, Nat.reduceEqDiff, Nat.reduceAdd, Nat.reduceLeDiff, Nat.reduceLT, Fan.av, e2, e7, hc15, hc24]
      refine Pu.call (hp _ _) ?_
      simp only [↓SP, SX, SW, TY, EN, sv_w, ↓reduceIte, reduceCtorEq, Nat.reduceEqDiff, Nat.reduceAdd, Nat.reduceLeDiff, Nat.reduceLT, Fan.av, e2, e7, hc15, hc24]
      refine hK _ _ ?_
      clear hK K
      refine wpT_inBlock ?_
      refine wpT_region (by kernel_rfl) (fun K hK => ?_)
      simp only [↓SP, SX, SW, TY, EN, sv_w, ↓reduceIte, reduceCtorEq, Nat.reduceEqDiff, Nat.reduceAdd, Nat.reduceLeDiff, Nat.reduceLT, Fan.av, e14, wrap64 (x := (i : Int) + 1) (by omega) (by omega), hc15, hc24]
      refine hK _ _ ?_
      clear hK K
      refine wpT_keep1 (i := 0) (o := .arr 49 4 [f.av]) (by simp only [↓SP, SX, SW, TY, EN, sv_w, ↓reduceIte, reduceCtorEq, Nat.reduceEqDiff, Nat.reduceAdd, Nat.reduceLeDiff, Nat.reduceLT, Fan.av]) ?_
      refine IH (i + 1) _ _ (by omega) ⟨⟨_, rfl⟩, by simp only [↓SP, SX, SW, TY, EN, sv_w, ↓reduceIte, reduceCtorEq, Nat.reduceEqDiff, Nat.reduceAdd, Nat.reduceLeDiff, Nat.reduceLT, Fan.av, e2], by simp only [↓SP, SX, SW, TY, EN, sv_w, ↓reduceIte, reduceCtorEq, Nat.reduceEqDiff, Nat.reduceAdd, Nat.reduceLeDiff, Nat.reduceLT, Fan.av, e3], ⟨_, by simp only [↓SP, SX, SW, TY, EN, sv_w, ↓reduceIte, reduceCtorEq, Nat.reduceEqDiff, Nat.reduceAdd, Nat.reduceLeDiff, Nat.reduceLT, Fan.av, e7], hx⟩, by simp only [↓SP, SX, SW, TY, EN, sv_w, ↓reduceIte, reduceCtorEq, Nat.reduceEqDiff, Nat.reduceAdd, Nat.reduceLeDiff, Nat.reduceLT, Fan.av, e12], by simp only [↓SP, SX, SW, TY, EN, sv_w, ↓reduceIte, reduceCtorEq, Nat.reduceEqDiff, Nat.reduceAdd, Nat.reduceLeDiff, Nat.reduceLT, Fan.av, e13], by simp only [↓SP, SX, SW, TY, EN, sv_w, ↓reduceIte, reduceCtorEq, Nat.reduceEqDiff, Nat.reduceAdd, Nat.reduceLeDiff, Nat.reduceLT, Fan.av, Int.natCast_add, Int.cast_ofNat_Int], by omega⟩
    · skip
      have p24 := hc24
      try simp only [decide_eq_true_eq, decide_eq_false_iff_not, beq_iff_eq, bne_iff_ne, beq_eq_false_iff_ne, bne_eq_false_iff_eq, Bool.not_eq_true', Bool.not_eq_false'] at p24
      rw [if_pos p24] at hx
      refine wpT_skip ?_
      refine wpT_inBlock ?_
      refine wpT_region (by kernel_rfl) (fun K hK => ?_)
      simp only [↓SP, SX, SW, TY, EN, sv_w, ↓reduceIte, reduceCtorEq, Nat.reduceEqDiff, Nat.reduceAdd, Nat.reduceLeDiff, Nat.reduceLT, Fan.av, e14, wrap64 (x := (i : Int) + 1) (by omega) (by omega), hc15, hc24]
      refine hK _ _ ?_
      clear hK K
      refine wpT_keep1 (i := 0) (o := .arr 49 4 [f.av]) (by simp only [↓SP, SX, SW, TY, EN, sv_w, ↓reduceIte, reduceCtorEq, Nat.reduceEqDiff, Nat.reduceAdd, Nat.reduceLeDiff, Nat.reduceLT, Fan.av]) ?_
      refine IH (i + 1) _ _ (by omega) ⟨⟨_, rfl⟩, by simp only [↓SP, SX, SW, TY, EN, sv_w, ↓reduceIte, reduceCtorEq, Nat.reduceEqDiff, Nat.reduceAdd, Nat.reduceLeDiff, Nat.reduceLT, Fan.av, e2], by simp only [↓SP, SX, SW, TY, EN, sv_w, ↓reduceIte, reduceCtorEq, Nat.reduceEqDiff, Nat.reduceAdd, Nat.reduceLeDiff, Nat.reduceLT, Fan.av, e3], ⟨_, by simp only [↓SP, SX, SW, TY, EN, sv_w, ↓reduceIte, reduceCtorEq, Nat.reduceEqDiff, Nat.reduceAdd, Nat.reduceLeDiff, Nat.reduceLT, Fan.av, e7], hx⟩, by simp only [↓SP, SX, SW, TY, EN, sv_w, ↓reduceIte, reduceCtorEq, Nat.reduceEqDiff, Nat.reduceAdd, Nat.reduceLeDiff, Nat.reduceLT, Fan.av, e12], by simp only [↓SP, SX, SW, TY, EN, sv_w, ↓reduceIte, reduceCtorEq, Nat.reduceEqDiff, Nat.reduceAdd, Nat.reduceLeDiff, Nat.reduceLT, Fan.av, e13], by simp only [↓SP, SX, SW, TY, EN, sv_w, ↓reduceIte, reduceCtorEq, Nat.reduceEqDiff, Nat.reduceAdd, Nat.reduceLeDiff, Nat.reduceLT, Fan.av, Int.natCast_add, Int.cast_ofNat_Int], by omega⟩
  · skip
    have p15 := hc15
    try simp only [decide_eq_true_eq, decide_eq_false_iff_not, beq_iff_eq, bne_iff_ne, beq_eq_false_iff_ne, bne_eq_false_iff_eq, Bool.not_eq_true', Bool.not_eq_false'] at p15
    rw [List.drop_eq_nil_of_le (by omega), List.drop_eq_nil_of_le (by omega), foldL.eq_2 _ _ _ _ (by simp)] at hx
    refine wpT_exit rfl ?_
    refine wpT_seq ?_
    refine wpT_region (by kernel_rfl) (fun K hK => ?_)
    simp only [↓SP, SX, SW, TY, EN, sv_w, ↓reduceIte, reduceCtorEq, Nat.reduceEqDiff, Nat.reduceAdd, Nat.reduceLeDiff, Nat.reduceLT, Fan.av, e7, hc15]
    refine hK _ _ ?_
    clear hK K
    refine wpT_ret ⟨.inr rfl, ?_⟩
    show optK (resA _ _ _ [.tmp 6]) _
    simp only [SR, Option.map_some, Option.bind_some, ↓SP, SX, SW, TY, EN, sv_w, ↓reduceIte, reduceCtorEq, Nat.reduceEqDiff, Nat.reduceAdd, Nat.reduceLeDiff, Nat.reduceLT, Fan.av, hc15]
    refine Lend.eq ?_
    rw [hx]
theorem c73 (f : Fan) (hf : f.ok) (hlen : f.lost.length = f.app.length) : Pu Tryz.prog (.fn (.func 73) [] []) [f.av] (I (leastL (-1) f.app f.lost)) := by
  refine pu_func Tryz.func73 rfl (by kernel_rfl) (by show _ ≤ 5; simp only [List.length_append, List.length_cons, List.length_nil]; decide) (by simp only [IDF]) (by simp only [IDF, and_tt, implies_true]) (by simp only [IDF, fan_idf, and_tt, implies_true]) ?_
  rw [Tryz.ntmps73]
  refine wpT_seq ?_
  refine wpT_region (by kernel_rfl) (fun K hK => ?_)
  simp only [↓SP, SX, SW, TY, EN, sv_w, ↓reduceIte, reduceCtorEq, Nat.reduceEqDiff, Nat.reduceAdd, Nat.reduceLeDiff, Nat.reduceLT, Fan.av]
  refine hK _ _ ?_
  clear hK K
  refine wpT_seq ?_
  refine wpT_region (by kernel_rfl) (fun K hK => ?_)
  simp only [↓SP, SX, SW, TY, EN, sv_w, ↓reduceIte, reduceCtorEq, Nat.reduceEqDiff, Nat.reduceAdd, Nat.reduceLeDiff, Nat.reduceLT, Fan.av]
  refine Pu.call (c138 f (-1) _ comb hf hlen (by simp only [IDF, and_tt]) (fun a b => c139 a b)) ?_
  simp only [↓SP, SX, SW, TY, EN, sv_w, ↓reduceIte, reduceCtorEq, Nat.reduceEqDiff, Nat.reduceAdd, Nat.reduceLeDiff, Nat.reduceLT, Fan.av]
  refine hK _ _ ?_
  clear hK K
  refine wpT_ret ⟨.inr rfl, ?_⟩
  show optK (resA _ _ _ [.tmp 2]) _
  simp only [SR, Option.map_some, Option.bind_some, ↓SP, SX, SW, TY, EN, sv_w, ↓reduceIte, reduceCtorEq, Nat.reduceEqDiff, Nat.reduceAdd, Nat.reduceLeDiff, Nat.reduceLT, Fan.av]
  refine Lend.eq ?_
  rw [foldL_least]
theorem chkF_app {f : Fan} (h1 : ¬ (f.app.length < 1 ∨ f.app.length > 4 ∨ f.lost.length ≠ f.app.length)) (h3 : posR f.app = 0) : ∀ x ∈ f.app, 0 ≤ x := by
  have key : ∀ xs : List Int, posR xs = 0 → ∀ x ∈ xs, 0 ≤ x := by
    intro xs
    induction xs with
    | nil => simp
    | cons y ys ih =>
      intro h x hx
      rw [posR] at h
      split at h
      · simp at h
      · rcases List.mem_cons.1 hx with rfl | hx
        · omega
        · exact ih h x hx
  exact key _ h3
theorem c98 (f : Fan) (n : Int) (hf : f.ok) (h1 : 1 ≤ f.app.length) (h0 : ∀ x ∈ f.app, 0 ≤ x) : Pu Tryz.prog (.fn (.func 98) [] []) [f.av, I n] (B (boundR f n)) := by
  refine pu_func Tryz.func98 rfl (by kernel_rfl) (by show _ ≤ 29; simp only [List.length_append, List.length_cons, List.length_nil]; decide) (by simp only [IDF]) (by simp only [IDF, and_tt, implies_true]) (by simp only [IDF, fan_idf, and_tt, implies_true]) ?_
  have hk := hf.1
  rw [Tryz.ntmps98]
  refine wpT_seq ?_
  refine wpT_region (by kernel_rfl) (fun K hK => ?_)
  simp only [↓SP, SX, SW, TY, EN, sv_w, ↓reduceIte, reduceCtorEq, Nat.reduceEqDiff, Nat.reduceAdd, Nat.reduceLeDiff, Nat.reduceLT, Fan.av, cyc_cs]
  refine hK _ _ ?_
  clear hK K
  refine wpT_seq ?_
  refine wpT_region (by kernel_rfl) (fun K hK => ?_)
  simp only [↓SP, SX, SW, TY, EN, sv_w, ↓reduceIte, reduceCtorEq, Nat.reduceEqDiff, Nat.reduceAdd, Nat.reduceLeDiff, Nat.reduceLT, Fan.av, cyc_cs]
  refine Pu.call (c76 f hf h1 h0) ?_
  simp only [↓SP, SX, SW, TY, EN, sv_w, ↓reduceIte, reduceCtorEq, Nat.reduceEqDiff, Nat.reduceAdd, Nat.reduceLeDiff, Nat.reduceLT, Fan.av, cyc_cs]
  refine guardO_split (fun hg9 => ?_) (fun hg9 => ?_)
  · skip
    have p9 := hg9
    try simp only [decide_eq_true_eq, decide_eq_false_iff_not, beq_iff_eq, bne_iff_ne, beq_eq_false_iff_ne, bne_eq_false_iff_eq, Bool.not_eq_true', Bool.not_eq_false'] at p9
    simp only [↓SP, SX, SW, TY, EN, sv_w, ↓reduceIte, reduceCtorEq, Nat.reduceEqDiff, Nat.reduceAdd, Nat.reduceLeDiff, Nat.reduceLT, Fan.av, cyc_cs, hg9]
    refine Pu.call (c96 f n hf) ?_
    simp only [↓SP, SX, SW, TY, EN, sv_w, ↓reduceIte, reduceCtorEq, Nat.reduceEqDiff, Nat.reduceAdd, Nat.reduceLeDiff, Nat.reduceLT, Fan.av, cyc_cs, hg9]
    refine guardO_split (fun hg14 => ?_) (fun hg14 => ?_)
    · skip
      have p14 := hg14
      try simp only [decide_eq_true_eq, decide_eq_false_iff_not, beq_iff_eq, bne_iff_ne, beq_eq_false_iff_ne, bne_eq_false_iff_eq, Bool.not_eq_true', Bool.not_eq_false'] at p14
      simp only [↓SP, SX, SW, TY, EN, sv_w, ↓reduceIte, reduceCtorEq, Nat.reduceEqDiff, Nat.reduceAdd, Nat.reduceLeDiff, Nat.reduceLT, Fan.av, cyc_cs, hg9, hg14]
      refine guardO_split (fun hg19 => ?_) (fun hg19 => ?_)
      · skip
        have p19 := hg19
        try simp only [decide_eq_true_eq, decide_eq_false_iff_not, beq_iff_eq, bne_iff_ne, beq_eq_false_iff_ne, bne_eq_false_iff_eq, Bool.not_eq_true', Bool.not_eq_false'] at p19
        have h00 : 0 < f.kept.length := by omega
        have hg0 := at_map (f := Cyc.av) h00
        have hh : headB n f.kept = decide (n = f.kept[0].base) := headB_at h00
        simp only [↓SP, SX, SW, TY, EN, sv_w, ↓reduceIte, reduceCtorEq, Nat.reduceEqDiff, Nat.reduceAdd, Nat.reduceLeDiff, Nat.reduceLT, Fan.av, cyc_cs, hg9, hg14, hg0, hg19]
        refine hK _ _ ?_
        clear hK K
        refine wpT_ret ⟨.inr rfl, ?_⟩
        show optK (resA _ _ _ [.tmp 4]) _
        simp only [SR, Option.map_some, Option.bind_some, ↓SP, SX, SW, TY, EN, sv_w, ↓reduceIte, reduceCtorEq, Nat.reduceEqDiff, Nat.reduceAdd, Nat.reduceLeDiff, Nat.reduceLT, Fan.av, cyc_cs, hg9, hg14, hg0, hg19]
        refine Lend.eq ?_
        congr 1
        unfold boundR
        first
          | (simp_all; done)
          | (simp_all
             rw [Bool.eq_iff_iff]
             simp only [beq_iff_eq, decide_eq_true_eq]
             exact eq_comm)
      · skip
        simp only [Bool.not_true, Bool.not_false] at hg19
        have p19 := hg19
        try simp only [decide_eq_true_eq, decide_eq_false_iff_not, beq_iff_eq, bne_iff_ne, beq_eq_false_iff_ne, bne_eq_false_iff_eq, Bool.not_eq_true', Bool.not_eq_false'] at p19
        have hh : headB n f.kept = false := by
          have : f.kept = [] := List.eq_nil_of_length_eq_zero (by omega)
          rw [this]; rfl
        simp only [↓SP, SX, SW, TY, EN, sv_w, ↓reduceIte, reduceCtorEq, Nat.reduceEqDiff, Nat.reduceAdd, Nat.reduceLeDiff, Nat.reduceLT, Fan.av, cyc_cs, hg9, hg14, hg19]
        refine hK _ _ ?_
        clear hK K
        refine wpT_ret ⟨.inr rfl, ?_⟩
        show optK (resA _ _ _ [.tmp 4]) _
        simp only [SR, Option.map_some, Option.bind_some, ↓SP, SX, SW, TY, EN, sv_w, ↓reduceIte, reduceCtorEq, Nat.reduceEqDiff, Nat.reduceAdd, Nat.reduceLeDiff, Nat.reduceLT, Fan.av, cyc_cs, hg9, hg14, hg19]
        refine Lend.eq ?_
        congr 1
        unfold boundR
        first
          | (simp_all; done)
          | (simp_all
             rw [Bool.eq_iff_iff]
             simp only [beq_iff_eq, decide_eq_true_eq]
             exact eq_comm)
    · skip
      simp only [Bool.not_true, Bool.not_false] at hg14
      have p14 := hg14
      try simp only [decide_eq_true_eq, decide_eq_false_iff_not, beq_iff_eq, bne_iff_ne, beq_eq_false_iff_ne, bne_eq_false_iff_eq, Bool.not_eq_true', Bool.not_eq_false'] at p14
      simp only [↓SP, SX, SW, TY, EN, sv_w, ↓reduceIte, reduceCtorEq, Nat.reduceEqDiff, Nat.reduceAdd, Nat.reduceLeDiff, Nat.reduceLT, Fan.av, cyc_cs, hg9, hg14]
      refine hK _ _ ?_
      clear hK K
      refine wpT_ret ⟨.inr rfl, ?_⟩
      show optK (resA _ _ _ [.tmp 4]) _
      simp only [SR, Option.map_some, Option.bind_some, ↓SP, SX, SW, TY, EN, sv_w, ↓reduceIte, reduceCtorEq, Nat.reduceEqDiff, Nat.reduceAdd, Nat.reduceLeDiff, Nat.reduceLT, Fan.av, cyc_cs, hg9, hg14]
      refine Lend.eq ?_
      congr 1
      unfold boundR
      first
        | (simp_all; done)
        | (simp_all
           rw [Bool.eq_iff_iff]
           simp only [beq_iff_eq, decide_eq_true_eq]
           exact eq_comm)
  · skip
    simp only [Bool.not_true, Bool.not_false] at hg9
    have p9 := hg9
    try simp only [decide_eq_true_eq, decide_eq_false_iff_not, beq_iff_eq, bne_iff_ne, beq_eq_false_iff_ne, bne_eq_false_iff_eq, Bool.not_eq_true', Bool.not_eq_false'] at p9
    simp only [↓SP, SX, SW, TY, EN, sv_w, ↓reduceIte, reduceCtorEq, Nat.reduceEqDiff, Nat.reduceAdd, Nat.reduceLeDiff, Nat.reduceLT, Fan.av, cyc_cs, hg9]
    refine hK _ _ ?_
    clear hK K
    refine wpT_ret ⟨.inr rfl, ?_⟩
    show optK (resA _ _ _ [.tmp 4]) _
    simp only [SR, Option.map_some, Option.bind_some, ↓SP, SX, SW, TY, EN, sv_w, ↓reduceIte, reduceCtorEq, Nat.reduceEqDiff, Nat.reduceAdd, Nat.reduceLeDiff, Nat.reduceLT, Fan.av, cyc_cs, hg9]
    refine Lend.eq ?_
    congr 1
    unfold boundR
    first
      | (simp_all; done)
      | (simp_all
         rw [Bool.eq_iff_iff]
         simp only [beq_iff_eq, decide_eq_true_eq]
         exact eq_comm)
end Go.Proofs.YtlmjpgmaefokdaaGreat
end

section
set_option linter.unusedSimpArgs false
set_option linter.unusedVariables false
namespace Go.Proofs.YtlmjpgmaefokdaaGreat
open Go.Proofs
set_option maxRecDepth 10000
abbrev U (i : Int) : AV := .int .u64 i
theorem wrapU {x : Int} (h0 : 0 ≤ x) (h1 : x < 18446744073709551616) : IntKind.u64.wrap x = x := by
  have h : IntKind.u64.wrap x = x % 18446744073709551616 := by simp [IntKind.wrap, IntKind.bits, IntKind.signed]
  rw [h]; omega
theorem andU (a : Int) (h0 : 0 ≤ a) (h1 : a < 4294967296) : opBinAny Tryz.prog .and 264 (U a) (U 4294967295) = some (U a) := by
  obtain ⟨n, rfl⟩ := Int.eq_ofNat_of_zero_le h0
  rw [bin_and]
  have h2 : (BitVec.ofInt IntKind.u64.bits (n : Int) &&& BitVec.ofInt IntKind.u64.bits 4294967295).toNat = n := by
    rw [BitVec.toNat_and, BitVec.toNat_ofInt, BitVec.toNat_ofInt]
    show ((n : Int) % 18446744073709551616).toNat &&& 4294967295 = n
    have h3 : ((n : Int) % 18446744073709551616).toNat = n := by omega
    rw [h3, show (4294967295 : Nat) = 2 ^ 32 - 1 from rfl, Nat.and_two_pow_sub_one_eq_mod]
    omega
  rw [h2, wrapU h0 (by omega)]
theorem shrU (a : Int) (h0 : 0 ≤ a) (h1 : a < 4294967296) : opBinAny Tryz.prog .shr 264 (U a) (U 32) = some (U 0) := by
  rw [bin_shr (by omega)]
  have : a.fdiv (2 ^ (min (32 : Int).toNat IntKind.u64.bits)) = 0 := by
    show a.fdiv 4294967296 = 0
    rw [Int.fdiv_eq_ediv_of_nonneg a (by omega)]
    omega
  rw [this]
theorem wU0 : IntKind.u64.wrap 0 = 0 := wrapU (by omega) (by omega)
theorem c210 (a b : Int) (ha : 0 ≤ a) (ha' : a < 4294967296) (hb : 0 ≤ b) (hb' : b < 4294967296) (h0 : 0 ≤ a * b) (h1 : a * b < 4294967296) : Pu Tryz.prog (.fn (.func 210) [] []) [U a, U b] (.tup [U 0, U (a * b)]) := by
  refine pu_func Tryz.func210 rfl (by kernel_rfl) (by show _ ≤ 51; simp only [List.length_append, List.length_cons, List.length_nil]; decide) (by simp only [IDF, and_tt, implies_true]) (by simp only [IDF, and_tt, implies_true]) (by simp only [IDF, and_tt, implies_true]) ?_
  rw [Tryz.ntmps210]
  refine wpT_seq ?_
  refine wpT_region (by kernel_rfl) (fun K hK => ?_)
  simp only [↓SP, SX, SW, TY, EN, sv_w, ↓reduceIte, reduceCtorEq, Nat.reduceEqDiff, Nat.reduceAdd, Nat.reduceLeDiff, Nat.reduceLT, andU a ha ha', andU b hb hb', shrU a ha ha', shrU b hb hb', andU 0 (Int.le_refl 0) (by omega), shrU 0 (Int.le_refl 0) (by omega), shrU (a * b) h0 h1, Int.zero_mul, Int.mul_zero, Int.zero_add, Int.add_zero, wU0, wrapU (x := a * b) h0 (by omega)]
  refine hK _ _ ?_
  clear hK K
  refine wpT_seq ?_
  refine wpT_region (by kernel_rfl) (fun K hK => ?_)
  simp only [↓SP, SX, SW, TY, EN, sv_w, ↓reduceIte, reduceCtorEq, Nat.reduceEqDiff, Nat.reduceAdd, Nat.reduceLeDiff, Nat.reduceLT, andU a ha ha', andU b hb hb', shrU a ha ha', shrU b hb hb', andU 0 (Int.le_refl 0) (by omega), shrU 0 (Int.le_refl 0) (by omega), shrU (a * b) h0 h1, Int.zero_mul, Int.mul_zero, Int.zero_add, Int.add_zero, wU0, wrapU (x := a * b) h0 (by omega)]
  refine hK _ _ ?_
  clear hK K
  refine wpT_seq ?_
  refine wpT_region (by kernel_rfl) (fun K hK => ?_)
  simp only [↓SP, SX, SW, TY, EN, sv_w, ↓reduceIte, reduceCtorEq, Nat.reduceEqDiff, Nat.reduceAdd, Nat.reduceLeDiff, Nat.reduceLT, andU a ha ha', andU b hb hb', shrU a ha ha', shrU b hb hb', andU 0 (Int.le_refl 0) (by omega), shrU 0 (Int.le_refl 0) (by omega), shrU (a * b) h0 h1, Int.zero_mul, Int.mul_zero, Int.zero_add, Int.add_zero, wU0, wrapU (x := a * b) h0 (by omega)]
  refine hK _ _ ?_
  clear hK K
  refine wpT_seq ?_
  refine wpT_region (by kernel_rfl) (fun K hK => ?_)
  simp only [↓SP, SX, SW, TY, EN, sv_w, ↓reduceIte, reduceCtorEq, Nat.reduceEqDiff, Nat.reduceAdd, Nat.reduceLeDiff, Nat.reduceLT, andU a ha ha', andU b hb hb', shrU a ha ha', shrU b hb hb', andU 0 (Int.le_refl 0) (by omega), shrU 0 (Int.le_refl 0) (by omega), shrU (a * b) h0 h1, Int.zero_mul, Int.mul_zero, Int.zero_add, Int.add_zero, wU0, wrapU (x := a * b) h0 (by omega)]
  refine hK _ _ ?_
  clear hK K
  refine wpT_seq ?_
  refine wpT_region (by kernel_rfl) (fun K hK => ?_)
  simp only [↓SP, SX, SW, TY, EN, sv_w, ↓reduceIte, reduceCtorEq, Nat.reduceEqDiff, Nat.reduceAdd, Nat.reduceLeDiff, Nat.reduceLT, andU a ha ha', andU b hb hb', shrU a ha ha', shrU b hb hb', andU 0 (Int.le_refl 0) (by omega), shrU 0 (Int.le_refl 0) (by omega), shrU (a * b) h0 h1, Int.zero_mul, Int.mul_zero, Int.zero_add, Int.add_zero, wU0, wrapU (x := a * b) h0 (by omega)]
  refine hK _ _ ?_
  clear hK K
  refine wpT_seq ?_
  refine wpT_region (by kernel_rfl) (fun K hK => ?_)
  simp only [↓SP, SX, SW, TY, EN, sv_w, ↓reduceIte, reduceCtorEq, Nat.reduceEqDiff, Nat.reduceAdd, Nat.reduceLeDiff, Nat.reduceLT, andU a ha ha', andU b hb hb', shrU a ha ha', shrU b hb hb', andU 0 (Int.le_refl 0) (by omega), shrU 0 (Int.le_refl 0) (by omega), shrU (a * b) h0 h1, Int.zero_mul, Int.mul_zero, Int.zero_add, Int.add_zero, wU0, wrapU (x := a * b) h0 (by omega)]
  refine hK _ _ ?_
  clear hK K
  refine wpT_seq ?_
  refine wpT_region (by kernel_rfl) (fun K hK => ?_)
  simp only [↓SP, SX, SW, TY, EN, sv_w, ↓reduceIte, reduceCtorEq, Nat.reduceEqDiff, Nat.reduceAdd, Nat.reduceLeDiff, Nat.reduceLT, andU a ha ha', andU b hb hb', shrU a ha ha', shrU b hb hb', andU 0 (Int.le_refl 0) (by omega), shrU 0 (Int.le_refl 0) (by omega), shrU (a * b) h0 h1, Int.zero_mul, Int.mul_zero, Int.zero_add, Int.add_zero, wU0, wrapU (x := a * b) h0 (by omega)]
  refine hK _ _ ?_
  clear hK K
  refine wpT_seq ?_
  refine wpT_region (by kernel_rfl) (fun K hK => ?_)
  simp only [↓SP, SX, SW, TY, EN, sv_w, ↓reduceIte, reduceCtorEq, Nat.reduceEqDiff, Nat.reduceAdd, Nat.reduceLeDiff, Nat.reduceLT, andU a ha ha', andU b hb hb', shrU a ha ha', shrU b hb hb', andU 0 (Int.le_refl 0) (by omega), shrU 0 (Int.le_refl 0) (by omega), shrU (a * b) h0 h1, Int.zero_mul, Int.mul_zero, Int.zero_add, Int.add_zero, wU0, wrapU (x := a * b) h0 (by omega)]
  refine hK _ _ ?_
  clear hK K
  refine wpT_seq ?_
  refine wpT_region (by kernel_rfl) (fun K hK => ?_)
  simp only [↓SP, SX, SW, TY, EN, sv_w, ↓reduceIte, reduceCtorEq, Nat.reduceEqDiff, Nat.reduceAdd, Nat.reduceLeDiff, Nat.reduceLT, andU a ha ha', andU b hb hb', shrU a ha ha', shrU b hb hb', andU 0 (Int.le_refl 0) (by omega), shrU 0 (Int.le_refl 0) (by omega), shrU (a * b) h0 h1, Int.zero_mul, Int.mul_zero, Int.zero_add, Int.add_zero, wU0, wrapU (x := a * b) h0 (by omega)]
  refine hK _ _ ?_
  clear hK K
  refine wpT_seq ?_
  refine wpT_region (by kernel_rfl) (fun K hK => ?_)
  simp only [↓SP, SX, SW, TY, EN, sv_w, ↓reduceIte, reduceCtorEq, Nat.reduceEqDiff, Nat.reduceAdd, Nat.reduceLeDiff, Nat.reduceLT, andU a ha ha', andU b hb hb', shrU a ha ha', shrU b hb hb', andU 0 (Int.le_refl 0) (by omega), shrU 0 (Int.le_refl 0) (by omega), shrU (a * b) h0 h1, Int.zero_mul, Int.mul_zero, Int.zero_add, Int.add_zero, wU0, wrapU (x := a * b) h0 (by omega)]
  refine hK _ _ ?_
  clear hK K
  refine wpT_seq ?_
  refine wpT_region (by kernel_rfl) (fun K hK => ?_)
  simp only [↓SP, SX, SW, TY, EN, sv_w, ↓reduceIte, reduceCtorEq, Nat.reduceEqDiff, Nat.reduceAdd, Nat.reduceLeDiff, Nat.reduceLT, andU a ha ha', andU b hb hb', shrU a ha ha', shrU b hb hb', andU 0 (Int.le_refl 0) (by omega), shrU 0 (Int.le_refl 0) (by omega), shrU (a * b) h0 h1, Int.zero_mul, Int.mul_zero, Int.zero_add, Int.add_zero, wU0, wrapU (x := a * b) h0 (by omega)]
  refine hK _ _ ?_
  clear hK K
  refine wpT_seq ?_
  refine wpT_region (by kernel_rfl) (fun K hK => ?_)
  simp only [↓SP, SX, SW, TY, EN, sv_w, ↓reduceIte, reduceCtorEq, Nat.reduceEqDiff, Nat.reduceAdd, Nat.reduceLeDiff, Nat.reduceLT, andU a ha ha', andU b hb hb', shrU a ha ha', shrU b hb hb', andU 0 (Int.le_refl 0) (by omega), shrU 0 (Int.le_refl 0) (by omega), shrU (a * b) h0 h1, Int.zero_mul, Int.mul_zero, Int.zero_add, Int.add_zero, wU0, wrapU (x := a * b) h0 (by omega)]
  refine hK _ _ ?_
  clear hK K
  refine wpT_ret ⟨.inr rfl, ?_⟩
  show optK (resA _ _ _ [.tmp 4, .tmp 5]) _
  simp only [SR, Option.map_some, Option.bind_some, ↓SP, SX, SW, TY, EN, sv_w, ↓reduceIte, reduceCtorEq, Nat.reduceEqDiff, Nat.reduceAdd, Nat.reduceLeDiff, Nat.reduceLT, andU a ha ha', andU b hb hb', shrU a ha ha', shrU b hb hb', andU 0 (Int.le_refl 0) (by omega), shrU 0 (Int.le_refl 0) (by omega), shrU (a * b) h0 h1, Int.zero_mul, Int.mul_zero, Int.zero_add, Int.add_zero, wU0, wrapU (x := a * b) h0 (by omega)]
  exact .refl _
theorem c167 (a b : Int) (ha : 0 ≤ a) (ha' : a < 4294967296) (hb : 0 ≤ b) (hb' : b < 4294967296) (h0 : 0 ≤ a * b) (h1 : a * b < 4294967296) : Pu Tryz.prog (.fn (.func 167) [] []) [U a, U b] (.tup [U 0, U (a * b)]) := by
  refine pu_func Tryz.func167 rfl (by kernel_rfl) (by show _ ≤ 30; simp only [List.length_append, List.length_cons, List.length_nil]; decide) (by simp only [IDF, and_tt, implies_true]) (by simp only [IDF, and_tt, implies_true]) (by simp only [IDF, and_tt, implies_true]) ?_
  rw [Tryz.ntmps167]
  refine wpT_seq ?_
  refine wpT_region (by kernel_rfl) (fun K hK => ?_)
  simp only [↓SP, SX, SW, TY, EN, sv_w, ↓reduceIte, reduceCtorEq, Nat.reduceEqDiff, Nat.reduceAdd, Nat.reduceLeDiff, Nat.reduceLT]
  refine hK _ _ ?_
  clear hK K
  refine wpT_seq ?_
  refine wpT_ifF (by simp only [↓SP, SX, SW, TY, EN, sv_w, ↓reduceIte, reduceCtorEq, Nat.reduceEqDiff, Nat.reduceAdd, Nat.reduceLeDiff, Nat.reduceLT]) ?_
  refine wpT_skip ?_
  refine wpT_seq ?_
  refine wpT_region (by kernel_rfl) (fun K hK => ?_)
  simp only [↓SP, SX, SW, TY, EN, sv_w, ↓reduceIte, reduceCtorEq, Nat.reduceEqDiff, Nat.reduceAdd, Nat.reduceLeDiff, Nat.reduceLT]
  refine Pu.call (c210 a b ha ha' hb hb' h0 h1) ?_
  simp only [↓SP, SX, SW, TY, EN, sv_w, ↓reduceIte, reduceCtorEq, Nat.reduceEqDiff, Nat.reduceAdd, Nat.reduceLeDiff, Nat.reduceLT]
  refine hK _ _ ?_
  clear hK K
  refine wpT_seq ?_
  refine wpT_region (by kernel_rfl) (fun K hK => ?_)
  simp only [↓SP, SX, SW, TY, EN, sv_w, ↓reduceIte, reduceCtorEq, Nat.reduceEqDiff, Nat.reduceAdd, Nat.reduceLeDiff, Nat.reduceLT]
  refine hK _ _ ?_
  clear hK K
  refine wpT_ret ⟨.inr rfl, ?_⟩
  show optK (resA _ _ _ [.tmp 4, .tmp 5]) _
  simp only [SR, Option.map_some, Option.bind_some, ↓SP, SX, SW, TY, EN, sv_w, ↓reduceIte, reduceCtorEq, Nat.reduceEqDiff, Nat.reduceAdd, Nat.reduceLeDiff, Nat.reduceLT]
  exact .refl _
end Go.Proofs.YtlmjpgmaefokdaaGreat
end

section
set_option linter.unusedSimpArgs false
set_option linter.unusedVariables false
namespace Go.Proofs.YtlmjpgmaefokdaaGreat
open Go.Proofs
set_option maxRecDepth 10000
theorem cvIU (n : Int) : opConvert Tryz.prog 3 135 (.int .i64 n) = some (.int .u64 (IntKind.u64.wrap n)) := by kernel_rfl
theorem cvUI (n : Int) : opConvert Tryz.prog 135 3 (.int .u64 n) = some (.int .i64 (IntKind.i64.wrap n)) := by kernel_rfl
theorem sx_conv {s d : TypeId} {x : AV} {r : AV} {Kv : AV → Hp → Prop} {h : Hp} (hc : opConvert Tryz.prog s d x = some r) : optV (opConvert Tryz.prog s d x) Kv h = Kv r h := by rw [hc]; rfl
def repC (c : Int) (k L : Nat) : List AV := (List.replicate k c ++ List.replicate (L - k) 0).map I
theorem repC_length {c : Int} {k L : Nat} (h : k ≤ L) : (repC c k L).length = L := by simp [repC]; omega
theorem repC_cells {c : Int} {k L : Nat} : ∀ v ∈ repC c k L, v.cells.length = 1 := fun v hv => by
  obtain ⟨a, _, rfl⟩ := List.mem_map.1 hv
  rfl
theorem repC_take {c : Int} {k L : Nat} (h : k ≤ L) : (repC c k L).take k = (List.replicate k c).map I := by
  simp [repC]
theorem repC_step {c : Int} {k m L : Nat} (h : k + m ≤ L) : (repC c k L).take k ++ ((List.replicate k c).map I).take m ++ (repC c k L).drop (k + m) = (List.replicate k c ++ (List.replicate k c).take m ++ List.replicate (L - (k + m)) 0).map I := by
  rw [repC_take (by omega)]
  simp only [repC, List.map_append, List.map_take]
  congr 1
  rw [List.drop_append, List.drop_eq_nil_of_le (by simp)]
  simp
  omega
theorem repC_eq {c : Int} {k m L : Nat} (h : m ≤ k) : (List.replicate k c ++ (List.replicate k c).take m ++ List.replicate (L - (k + m)) 0).map I = repC c (k + m) L := by
  simp only [repC, List.take_replicate, Nat.min_eq_left h]
  rw [← List.replicate_append_replicate]
theorem cpR1 (c : Int) (L : Nat) (hL : 1 ≤ L) {g : Nat → Option Ob} (hg : g 0 = some (.arr 3 1 (List.replicate L (.int .i64 0)))) :
    opCopy Tryz.prog 23 (.sl 0 L 0 L) (.lst [I c]) g = some (.int .i64 1, .set 0 (.arr 3 1 (repC c 1 L))) := by
  have h := cpT (x := .lst [I c]) (xs := [I c]) sle23 (c := 1) (by rfl) (by decide) 0 L 0 L g rfl (by simp [AV.cells]) hg (by simp) (by omega)
  have hm : min ([I c] : List AV).length L = 1 := by simp; omega
  rw [hm] at h
  rw [h]
  obtain ⟨m, rfl⟩ : ∃ m, L = m + 1 := ⟨L - 1, by omega⟩
  simp [repC, List.replicate_succ]
theorem slR1 (c : Int) (k L : Nat) (h : k ≤ L) {g : Nat → Option Ob} (hg : g 0 = some (.arr 3 1 (repC c k L))) :
    opSlice Tryz.prog 23 (.sl 0 L 0 L) (some (I k)) none g = some (.sl 0 L k (L - k)) := by
  have := slT_sl sle23 (c := 1) (by rfl) (by decide) 0 L 0 L (some (I k)) none g hg (repC_length h) (l := k) (u := L) rfl rfl h (Nat.le_refl _)
  simpa using this
theorem slR2 (c : Int) (k L : Nat) (h : k ≤ L) {g : Nat → Option Ob} (hg : g 0 = some (.arr 3 1 (repC c k L))) :
    opSlice Tryz.prog 23 (.sl 0 L 0 L) none (some (I k)) g = some (.sl 0 L 0 k) := by
  have := slT_sl sle23 (c := 1) (by rfl) (by decide) 0 L 0 L none (some (I k)) g hg (repC_length h) (l := 0) (u := k) rfl rfl (by omega) h
  simpa using this
theorem cpR2 (c : Int) (k L : Nat) (h : k ≤ L) {g : Nat → Option Ob} (hg : g 0 = some (.arr 3 1 (repC c k L))) :
    opCopy Tryz.prog 23 (.sl 0 L k (L - k)) (.sl 0 L 0 k) g = some (.int .i64 (min k (L - k) : Nat), .set 0 (.arr 3 1 (repC c (k + min k (L - k)) L))) := by
  have hr : rdS g (.sl 0 L 0 k) = some ((repC c k L).take k) := by
    rw [rd_sl, hg, rdO_some, if_pos ⟨repC_length h, by omega⟩, List.drop_zero]
  have hlen : ((repC c k L).take k).length = k := by rw [List.length_take, repC_length h]; omega
  have := cpT (x := .sl 0 L 0 k) sle23 (c := 1) (by rfl) (by decide) 0 L k (L - k) g hr (fun v hv => repC_cells v (List.mem_of_mem_take hv)) hg (repC_length h) (by omega)
  rw [hlen] at this
  have e := (repC_step (c := c) (k := k) (m := min k (L - k)) (L := L) (by omega)).trans (repC_eq (by omega))
  rw [repC_take h] at e
  rw [this, repC_take h, e]
theorem repNew (c n : Int) (h1 : 1 ≤ n) (h8 : n ≤ 8) : NewV Tryz.prog (.fn (.func 109) [] []) [.lst [I c], I n] 3 1 ((List.replicate n.toNat c).map I) := by
  refine callV_func Tryz.func109 rfl (by kernel_rfl) (by show _ ≤ 48; simp only [List.length_append, List.length_cons, List.length_nil]; decide) ?_
  have u1 : IntKind.u64.wrap 1 = 1 := wrapU (by omega) (by omega)
  have un : IntKind.u64.wrap n = n := wrapU (by omega) (by omega)
  have i1 : IntKind.i64.wrap n = n := wrap64 (by omega) (by omega)
  rw [Tryz.ntmps109]
  refine wpT_seq ?_
  refine wpT_region (by kernel_rfl) (fun K hK => ?_)
  simp only [↓SP, SX, SW, TY, EN, sv_w, ↓reduceIte, reduceCtorEq, Nat.reduceEqDiff, Nat.reduceAdd, Nat.reduceLeDiff, Nat.reduceLT, cvIU, cvUI, u1, un, i1]
  refine hK _ _ ?_
  clear hK K
  refine wpT_seq ?_
  refine wpT_seq ?_
  refine wpT_region (by kernel_rfl) (fun K hK => ?_)
  simp only [↓SP, SX, SW, TY, EN, sv_w, ↓reduceIte, reduceCtorEq, Nat.reduceEqDiff, Nat.reduceAdd, Nat.reduceLeDiff, Nat.reduceLT, cvIU, cvUI, u1, un, i1]
  refine hK _ _ ?_
  clear hK K
  refine wpT_if (by rfl) (fun hc10 => ?_) (fun hc10 => ?_)
  · skip
    have p10 := hc10
    try simp only [decide_eq_true_eq, decide_eq_false_iff_not, beq_iff_eq, bne_iff_ne, beq_eq_false_iff_ne, bne_eq_false_iff_eq, Bool.not_eq_true', Bool.not_eq_false'] at p10
    exfalso; omega
  · skip
    have p10 := hc10
    try simp only [decide_eq_true_eq, decide_eq_false_iff_not, beq_iff_eq, bne_iff_ne, beq_eq_false_iff_ne, bne_eq_false_iff_eq, Bool.not_eq_true', Bool.not_eq_false'] at p10
    refine wpT_skip ?_
    refine wpT_seq ?_
    refine wpT_region (by kernel_rfl) (fun K hK => ?_)
    simp only [↓SP, SX, SW, TY, EN, sv_w, ↓reduceIte, reduceCtorEq, Nat.reduceEqDiff, Nat.reduceAdd, Nat.reduceLeDiff, Nat.reduceLT, cvIU, cvUI, u1, un, i1, hc10]
    refine Pu.call (c167 1 n (by omega) (by omega) (by omega) (by omega) (by omega) (by omega)) ?_
    simp only [↓SP, SX, SW, TY, EN, sv_w, ↓reduceIte, reduceCtorEq, Nat.reduceEqDiff, Nat.reduceAdd, Nat.reduceLeDiff, Nat.reduceLT, cvIU, cvUI, u1, un, i1, hc10]
    refine hK _ _ ?_
    clear hK K
    refine wpT_seq ?_
    refine wpT_seq ?_
    refine wpT_region (by kernel_rfl) (fun K hK => ?_)
    simp only [↓SP, SX, SW, TY, EN, sv_w, ↓reduceIte, reduceCtorEq, Nat.reduceEqDiff, Nat.reduceAdd, Nat.reduceLeDiff, Nat.reduceLT, cvIU, cvUI, u1, un, i1, Int.one_mul, hc10]
    refine guardO_split (fun hg23 => ?_) (fun hg23 => ?_)
    · skip
      have p23 := hg23
      try simp only [decide_eq_true_eq, decide_eq_false_iff_not, beq_iff_eq, bne_iff_ne, beq_eq_false_iff_ne, bne_eq_false_iff_eq, Bool.not_eq_true', Bool.not_eq_false'] at p23
      simp only [↓SP, SX, SW, TY, EN, sv_w, ↓reduceIte, reduceCtorEq, Nat.reduceEqDiff, Nat.reduceAdd, Nat.reduceLeDiff, Nat.reduceLT, cvIU, cvUI, u1, un, i1, Int.one_mul, hc10, hg23]
      refine hK _ _ ?_
      clear hK K
      refine wpT_if (by rfl) (fun hc26 => ?_) (fun hc26 => ?_)
      · skip
        have p26 := hc26
        try simp only [decide_eq_true_eq, decide_eq_false_iff_not, beq_iff_eq, bne_iff_ne, beq_eq_false_iff_ne, bne_eq_false_iff_eq, Bool.not_eq_true', Bool.not_eq_false'] at p26
        exfalso; omega
      · skip
        have p26 := hc26
        try simp only [decide_eq_true_eq, decide_eq_false_iff_not, beq_iff_eq, bne_iff_ne, beq_eq_false_iff_ne, bne_eq_false_iff_eq, Bool.not_eq_true', Bool.not_eq_false'] at p26
        refine wpT_skip ?_
        refine wpT_seq ?_
        refine wpT_region (by kernel_rfl) (fun K hK => ?_)
        simp only [↓SP, SX, SW, TY, EN, sv_w, ↓reduceIte, reduceCtorEq, Nat.reduceEqDiff, Nat.reduceAdd, Nat.reduceLeDiff, Nat.reduceLT, cvIU, cvUI, u1, un, i1, Int.one_mul, msO_ok 8 n n (by omega) (Int.le_refl _) (by omega) (by omega), hc10, hg23, hc26]
        refine hK _ _ ?_
        clear hK K
        refine wpT_seq ?_
        refine wpT_region (by kernel_rfl) (fun K hK => ?_)
        simp only [↓SP, SX, SW, TY, EN, sv_w, ↓reduceIte, reduceCtorEq, Nat.reduceEqDiff, Nat.reduceAdd, Nat.reduceLeDiff, Nat.reduceLT, cvIU, cvUI, u1, un, i1, cpR1 c n.toNat (by omega), hc10, hg23, hc26]
        refine hK _ _ ?_
        clear hK K
        refine wpT_seq ?_
        refine wpT_block ?_
        refine wpT_loop ?_
        refine wpT_keep1 (i := 0) (o := .arr 3 1 (repC c 1 n.toNat)) (by simp only [↓SP, SX, SW, TY, EN, sv_w, ↓reduceIte, reduceCtorEq, Nat.reduceEqDiff, Nat.reduceAdd, Nat.reduceLeDiff, Nat.reduceLT, cvIU, cvUI]) ?_
        refine wpT_ind (fun (k : Nat) tm' h' => (∃ m, h' = Hp.of [(0, .arr 3 1 (repC c k n.toNat))] (m + 1)) ∧ tm' 7 = .sl 0 n.toNat 0 n.toNat ∧ tm' 8 = I k ∧ 1 ≤ k ∧ k ≤ n.toNat) (fun k => n.toNat - k) ?_ 1 ⟨⟨0, rfl⟩, rfl, rfl, by omega, by omega⟩
        rintro k tm' _ ⟨⟨m, rfl⟩, e7, e8, hk1, hk2⟩ IH
        refine wpT_inLoop ?_
        refine wpT_seq ?_
        refine wpT_seq ?_
        refine wpT_region (by kernel_rfl) (fun K hK => ?_)
        simp only [↓SP, SX, SW, TY, EN, sv_w, ↓reduceIte, reduceCtorEq, Nat.reduceEqDiff, Nat.reduceAdd, Nat.reduceLeDiff, Nat.reduceLT, cvIU, cvUI, u1, un, i1, e7, e8, repC_length hk2]
        refine hK _ _ ?_
        clear hK K
        refine wpT_if (by rfl) (fun hc37 => ?_) (fun hc37 => ?_)
        · skip
          have p37 := hc37
          try simp only [decide_eq_true_eq, decide_eq_false_iff_not, beq_iff_eq, bne_iff_ne, beq_eq_false_iff_ne, bne_eq_false_iff_eq, Bool.not_eq_true', Bool.not_eq_false'] at p37
          have hm : 1 ≤ min k (n.toNat - k) := by omega
          refine wpT_skip ?_
          refine wpT_block ?_
          refine wpT_drawn [] mixed (by kernel_rfl) (m := 10) rfl (fun K hK => ?_)
          simp only [↓SP, SX, SW, TY, EN, sv_w, ↓reduceIte, reduceCtorEq, Nat.reduceEqDiff, Nat.reduceAdd, Nat.reduceLeDiff, Nat.reduceLT, cvIU, cvUI, u1, un, i1, e7, e8, rd_cut_sn, rd_cut_ns, Option.map_some, Option.map_none, slR1 c k n.toNat hk2, slR2 c k n.toNat hk2, cpR2 c k n.toNat hk2, wrap64 (x := (k : Int) + (min k (n.toNat - k) : Nat)) (by omega) (by omega), hc37]
          refine hK _ _ ?_
          clear hK K
          refine wpT_inBlock ?_
          refine wpT_keep1 (i := 0) (o := .arr 3 1 (repC c (k + min k (n.toNat - k)) n.toNat)) (by simp only [↓SP, SX, SW, TY, EN, sv_w, ↓reduceIte, reduceCtorEq, Nat.reduceEqDiff, Nat.reduceAdd, Nat.reduceLeDiff, Nat.reduceLT, cvIU, cvUI]) ?_
          refine IH (k + min k (n.toNat - k)) _ _ (by omega) ⟨⟨_, rfl⟩, by simp only [↓SP, SX, SW, TY, EN, sv_w, ↓reduceIte, reduceCtorEq, Nat.reduceEqDiff, Nat.reduceAdd, Nat.reduceLeDiff, Nat.reduceLT, cvIU, cvUI, e7], by simp only [↓SP, SX, SW, TY, EN, sv_w, ↓reduceIte, reduceCtorEq, Nat.reduceEqDiff, Nat.reduceAdd, Nat.reduceLeDiff, Nat.reduceLT, cvIU, cvUI, Int.natCast_add], by omega, by omega⟩
        · skip
          have p37 := hc37
          try simp only [decide_eq_true_eq, decide_eq_false_iff_not, beq_iff_eq, bne_iff_ne, beq_eq_false_iff_ne, bne_eq_false_iff_eq, Bool.not_eq_true', Bool.not_eq_false'] at p37
          have hk : k = n.toNat := by omega
          subst hk
          refine wpT_exit rfl ?_
          refine wpT_seq ?_
          refine wpT_region (by kernel_rfl) (fun K hK => ?_)
          simp only [↓SP, SX, SW, TY, EN, sv_w, ↓reduceIte, reduceCtorEq, Nat.reduceEqDiff, Nat.reduceAdd, Nat.reduceLeDiff, Nat.reduceLT, cvIU, cvUI, u1, un, i1, e7, hc37]
          refine hK _ _ ?_
          clear hK K
          refine wpT_ret ⟨.inr rfl, ?_⟩
          show optK (resA _ _ _ [.tmp 4]) _
          simp only [SR, Option.map_some, Option.bind_some, ↓SP, SX, SW, TY, EN, sv_w, ↓reduceIte, reduceCtorEq, Nat.reduceEqDiff, Nat.reduceAdd, Nat.reduceLeDiff, Nat.reduceLT, cvIU, cvUI, u1, un, i1, hc37]
          have hc : repC c n.toNat n.toNat = (List.replicate n.toNat c).map I := by simp [repC]
          rw [hc]
          exact ⟨0, by simp, rfl⟩
    · skip
      simp only [Bool.not_true, Bool.not_false] at hg23
      have p23 := hg23
      try simp only [decide_eq_true_eq, decide_eq_false_iff_not, beq_iff_eq, bne_iff_ne, beq_eq_false_iff_ne, bne_eq_false_iff_eq, Bool.not_eq_true', Bool.not_eq_false'] at p23
      simp only [↓SP, SX, SW, TY, EN, sv_w, ↓reduceIte, reduceCtorEq, Nat.reduceEqDiff, Nat.reduceAdd, Nat.reduceLeDiff, Nat.reduceLT, cvIU, cvUI, u1, un, i1, Int.one_mul, hc10, hg23]
      refine hK _ _ ?_
      clear hK K
      refine wpT_ifT (by simp only [↓SP, SX, SW, TY, EN, sv_w, ↓reduceIte, reduceCtorEq, Nat.reduceEqDiff, Nat.reduceAdd, Nat.reduceLeDiff, Nat.reduceLT, cvIU, cvUI, u1, un, i1, hc10, hg23]) ?_
      exfalso; omega
end Go.Proofs.YtlmjpgmaefokdaaGreat
end

section
set_option linter.unusedSimpArgs false
set_option linter.unusedVariables false
namespace Go.Proofs.YtlmjpgmaefokdaaGreat
open Go.Proofs
set_option maxRecDepth 10000
theorem repNu (c n : Int) (h1 : 1 ≤ n) (h8 : n ≤ 8) : Nu Tryz.prog (.fn (.func 109) [] []) [.lst [I c], I n] 3 1 ((List.replicate n.toNat c).map I) :=
  ⟨repNew c n h1 h8, by simp only [IDF, implies_true], by simp only [IDF, and_tt], by simp only [IDF, and_tt]⟩
theorem rep_scal (c : Int) (k : Nat) : ∀ e ∈ (List.replicate k c).map I, Scal e := fun e he => by
  obtain ⟨a, _, rfl⟩ := List.mem_map.1 he
  exact .int _ _
theorem rep_okc (c : Int) (k : Nat) : ∀ e ∈ (List.replicate k c).map I, e.okc = true := fun e he => by
  obtain ⟨a, _, rfl⟩ := List.mem_map.1 he
  rfl
theorem most_pu : Pu Tryz.prog (.fn (.func 75) [] []) [] (.lst (most.map I)) := by
  refine pu_func Tryz.func75 rfl (by kernel_rfl) (by show _ ≤ 3; simp only [List.length_append, List.length_cons, List.length_nil]; decide) (by simp only [IDF, and_tt, implies_true]) (by simp only [IDF, and_tt, implies_true]) (by simp only [IDF, and_tt, implies_true]) ?_
  rw [Tryz.ntmps75]
  refine wpT_seq ?_
  refine wpT_region (by kernel_rfl) (fun K hK => ?_)
  simp only [↓SP, SX, SW, TY, EN, sv_w, ↓reduceIte, reduceCtorEq, Nat.reduceEqDiff, Nat.reduceAdd, Nat.reduceLeDiff, Nat.reduceLT]
  refine hK _ _ ?_
  clear hK K
  refine wpT_seq ?_
  refine wpT_region (by kernel_rfl) (fun K hK => ?_)
  simp only [↓SP, SX, SW, TY, EN, sv_w, ↓reduceIte, reduceCtorEq, Nat.reduceEqDiff, Nat.reduceAdd, Nat.reduceLeDiff, Nat.reduceLT]
  refine Nu.lent (repNu 4096 8 (by omega) (by omega)) (rep_scal _ _) (.refl _) (LendL.cons (Lend.sl0 (E := 3) (s := 1) (es := [I 4096]) (by simp only [↓SP, SX, SW, TY, EN, sv_w, ↓reduceIte, reduceCtorEq, Nat.reduceEqDiff, Nat.reduceAdd, Nat.reduceLeDiff, Nat.reduceLT]) rfl (by simp [AV.okc])) (LendL.cons (.refl _) LendL.nil)) ?_
  simp only [↓SP, SX, SW, TY, EN, sv_w, ↓reduceIte, reduceCtorEq, Nat.reduceEqDiff, Nat.reduceAdd, Nat.reduceLeDiff, Nat.reduceLT]
  refine hK _ _ ?_
  clear hK K
  refine wpT_ret ⟨.inr rfl, ?_⟩
  show optK (resA _ _ _ [.tmp 0]) _
  simp only [SR, Option.map_some, Option.bind_some, ↓SP, SX, SW, TY, EN, sv_w, ↓reduceIte, reduceCtorEq, Nat.reduceEqDiff, Nat.reduceAdd, Nat.reduceLeDiff, Nat.reduceLT]
  exact Lend.sl0 (E := 3) (s := 1) (es := (List.replicate 8 4096).map I) (by simp only [↓SP, SX, SW, TY, EN, sv_w, ↓reduceIte, reduceCtorEq, Nat.reduceEqDiff, Nat.reduceAdd, Nat.reduceLeDiff, Nat.reduceLT]; rfl) (by simp) (rep_okc _ _)
def fan0 : Fan := ⟨0, [], [], []⟩
def newE (t l a : Int) : Int := if t < 1 ∨ t > 4 then 6 else if l < 1 ∨ l > 1024 ∨ a < 0 ∨ a > 1073741824 then 2 else 0
def newF (t l a : Int) : Fan := if newE t l a ≠ 0 then fan0 else ⟨l, [], List.replicate t.toNat a, List.replicate t.toNat false⟩
theorem newF_err {t l a e : Int} (h : newE t l a = e) (h0 : e ≠ 0) : newF t l a = fan0 := if_pos (by omega)
theorem newF_ok {t l a : Int} (h : newE t l a = 0) : newF t l a = ⟨l, [], List.replicate t.toNat a, List.replicate t.toNat false⟩ := if_neg (by omega)
theorem fan0_lend {g : Nat → Option Ob} : Lend g (.agg [I 0, .nil0, .nil0, .nil0]) fan0.av :=
  Lend.aggL (LendL.cons (.refl _) (LendL.cons .nil0 (LendL.cons .nil0 (LendL.cons .nil0 LendL.nil))))
theorem c44 (t l a : Int) : Pu Tryz.prog (.fn (.func 44) [] []) [I t, I l, I a] (.tup [(newF t l a).av, I (newE t l a)]) := by
  refine pu_func Tryz.func44 rfl (by kernel_rfl) (by show _ ≤ 40; simp only [List.length_append, List.length_cons, List.length_nil]; decide) (by simp only [IDF, fan_idf, and_tt]) (by simp only [IDF, and_tt, implies_true]) (by simp only [IDF, and_tt, implies_true]) ?_
  rw [Tryz.ntmps44]
  refine wpT_seq ?_
  refine wpT_region (by kernel_rfl) (fun K hK => ?_)
  simp only [↓SP, SX, SW, TY, EN, sv_w, ↓reduceIte, reduceCtorEq, Nat.reduceEqDiff, Nat.reduceAdd, Nat.reduceLeDiff, Nat.reduceLT]
  refine hK _ _ ?_
  clear hK K
  refine wpT_seq ?_
  refine wpT_block ?_
  refine wpT_seq ?_
  refine wpT_region (by kernel_rfl) (fun K hK => ?_)
  simp only [↓SP, SX, SW, TY, EN, sv_w, ↓reduceIte, reduceCtorEq, Nat.reduceEqDiff, Nat.reduceAdd, Nat.reduceLeDiff, Nat.reduceLT]
  refine guardO_split (fun hg11 => ?_) (fun hg11 => ?_)
  · skip
    have p11 := hg11
    try simp only [decide_eq_true_eq, decide_eq_false_iff_not, beq_iff_eq, bne_iff_ne, beq_eq_false_iff_ne, bne_eq_false_iff_eq, Bool.not_eq_true', Bool.not_eq_false'] at p11
    simp only [↓SP, SX, SW, TY, EN, sv_w, ↓reduceIte, reduceCtorEq, Nat.reduceEqDiff, Nat.reduceAdd, Nat.reduceLeDiff, Nat.reduceLT, hg11]
    refine hK _ _ ?_
    clear hK K
    refine wpT_if (by rfl) (fun hc8 => ?_) (fun hc8 => ?_)
    · skip
      have p8 := hc8
      try simp only [decide_eq_true_eq, decide_eq_false_iff_not, beq_iff_eq, bne_iff_ne, beq_eq_false_iff_ne, bne_eq_false_iff_eq, Bool.not_eq_true', Bool.not_eq_false'] at p8
      have hx : newE t l a = 6 := if_pos (by omega)
      have hf : newF t l a = fan0 := newF_err hx (by omega)
      refine wpT_seq ?_
      refine wpT_region (by kernel_rfl) (fun K hK => ?_)
      simp only [↓SP, SX, SW, TY, EN, sv_w, ↓reduceIte, reduceCtorEq, Nat.reduceEqDiff, Nat.reduceAdd, Nat.reduceLeDiff, Nat.reduceLT, hg11, hc8]
      refine hK _ _ ?_
      clear hK K
      refine wpT_ret ⟨.inr rfl, ?_⟩
      show optK (resA _ _ _ [.cell 6 49, .tmp 7]) _
      simp only [SR, Option.map_some, Option.bind_some, ↓SP, SX, SW, TY, EN, sv_w, ↓reduceIte, reduceCtorEq, Nat.reduceEqDiff, Nat.reduceAdd, Nat.reduceLeDiff, Nat.reduceLT, hg11, hc8]
      rw [hf, hx]
      refine Lend.tupL (LendL.cons ?_ (LendL.cons (.refl _) LendL.nil))
      first
        | exact fan0_lend
        | exact Lend.aggL (LendL.cons (.refl _) (LendL.cons .nil0 (LendL.cons (Lend.sl0 (E := 3) (s := 1) (es := (List.replicate t.toNat a).map I) (by simp only [↓SP, SX, SW, TY, EN, sv_w, ↓reduceIte, reduceCtorEq, Nat.reduceEqDiff, Nat.reduceAdd, Nat.reduceLeDiff, Nat.reduceLT]) (by simp) (rep_okc _ _)) (LendL.cons (Lend.sl0 (E := 4) (s := 1) (by simp only [↓SP, SX, SW, TY, EN, sv_w, ↓reduceIte, reduceCtorEq, Nat.reduceEqDiff, Nat.reduceAdd, Nat.reduceLeDiff, Nat.reduceLT, List.map_replicate]) (by simp) (by simp [AV.okc])) LendL.nil))))
    · skip
      have p8 := hc8
      try simp only [decide_eq_true_eq, decide_eq_false_iff_not, beq_iff_eq, bne_iff_ne, beq_eq_false_iff_ne, bne_eq_false_iff_eq, Bool.not_eq_true', Bool.not_eq_false'] at p8
      have h8 : ¬ (t < 1 ∨ t > 4) := by omega
      refine wpT_seq ?_
      refine wpT_region (by kernel_rfl) (fun K hK => ?_)
      simp only [↓SP, SX, SW, TY, EN, sv_w, ↓reduceIte, reduceCtorEq, Nat.reduceEqDiff, Nat.reduceAdd, Nat.reduceLeDiff, Nat.reduceLT, hg11, hc8]
      refine guardO_split (fun hg19 => ?_) (fun hg19 => ?_)
      · skip
        have p19 := hg19
        try simp only [decide_eq_true_eq, decide_eq_false_iff_not, beq_iff_eq, bne_iff_ne, beq_eq_false_iff_ne, bne_eq_false_iff_eq, Bool.not_eq_true', Bool.not_eq_false'] at p19
        simp only [↓SP, SX, SW, TY, EN, sv_w, ↓reduceIte, reduceCtorEq, Nat.reduceEqDiff, Nat.reduceAdd, Nat.reduceLeDiff, Nat.reduceLT, hg11, hc8, hg19]
        refine guardO_split (fun hg23 => ?_) (fun hg23 => ?_)
        · skip
          have p23 := hg23
          try simp only [decide_eq_true_eq, decide_eq_false_iff_not, beq_iff_eq, bne_iff_ne, beq_eq_false_iff_ne, bne_eq_false_iff_eq, Bool.not_eq_true', Bool.not_eq_false'] at p23
          simp only [↓SP, SX, SW, TY, EN, sv_w, ↓reduceIte, reduceCtorEq, Nat.reduceEqDiff, Nat.reduceAdd, Nat.reduceLeDiff, Nat.reduceLT, hg11, hc8, hg19, hg23]
          refine guardO_split (fun hg27 => ?_) (fun hg27 => ?_)
          · skip
            have p27 := hg27
            try simp only [decide_eq_true_eq, decide_eq_false_iff_not, beq_iff_eq, bne_iff_ne, beq_eq_false_iff_ne, bne_eq_false_iff_eq, Bool.not_eq_true', Bool.not_eq_false'] at p27
            simp only [↓SP, SX, SW, TY, EN, sv_w, ↓reduceIte, reduceCtorEq, Nat.reduceEqDiff, Nat.reduceAdd, Nat.reduceLeDiff, Nat.reduceLT, hg11, hc8, hg19, hg23, hg27]
            refine hK _ _ ?_
            clear hK K
            refine wpT_if (by rfl) (fun hc16 => ?_) (fun hc16 => ?_)
            · skip
              have p16 := hc16
              try simp only [decide_eq_true_eq, decide_eq_false_iff_not, beq_iff_eq, bne_iff_ne, beq_eq_false_iff_ne, bne_eq_false_iff_eq, Bool.not_eq_true', Bool.not_eq_false'] at p16
              have hx : newE t l a = 2 := by rw [newE, if_neg h8, if_pos (by omega)]
              have hf : newF t l a = fan0 := newF_err hx (by omega)
              refine wpT_seq ?_
              refine wpT_region (by kernel_rfl) (fun K hK => ?_)
              simp only [↓SP, SX, SW, TY, EN, sv_w, ↓reduceIte, reduceCtorEq, Nat.reduceEqDiff, Nat.reduceAdd, Nat.reduceLeDiff, Nat.reduceLT, hg11, hc8, hg19, hg23, hg27, hc16]
              refine hK _ _ ?_
              clear hK K
              refine wpT_ret ⟨.inr rfl, ?_⟩
              show optK (resA _ _ _ [.cell 6 49, .tmp 7]) _
              simp only [SR, Option.map_some, Option.bind_some, ↓SP, SX, SW, TY, EN, sv_w, ↓reduceIte, reduceCtorEq, Nat.reduceEqDiff, Nat.reduceAdd, Nat.reduceLeDiff, Nat.reduceLT, hg11, hc8, hg19, hg23, hg27, hc16]
              rw [hf, hx]
              refine Lend.tupL (LendL.cons ?_ (LendL.cons (.refl _) LendL.nil))
              first
                | exact fan0_lend
                | exact Lend.aggL (LendL.cons (.refl _) (LendL.cons .nil0 (LendL.cons (Lend.sl0 (E := 3) (s := 1) (es := (List.replicate t.toNat a).map I) (by simp only [↓SP, SX, SW, TY, EN, sv_w, ↓reduceIte, reduceCtorEq, Nat.reduceEqDiff, Nat.reduceAdd, Nat.reduceLeDiff, Nat.reduceLT]) (by simp) (rep_okc _ _)) (LendL.cons (Lend.sl0 (E := 4) (s := 1) (by simp only [↓SP, SX, SW, TY, EN, sv_w, ↓reduceIte, reduceCtorEq, Nat.reduceEqDiff, Nat.reduceAdd, Nat.reduceLeDiff, Nat.reduceLT, List.map_replicate]) (by simp) (by simp [AV.okc])) LendL.nil))))
            · skip
              have p16 := hc16
              try simp only [decide_eq_true_eq, decide_eq_false_iff_not, beq_iff_eq, bne_iff_ne, beq_eq_false_iff_ne, bne_eq_false_iff_eq, Bool.not_eq_true', Bool.not_eq_false'] at p16
              have hx : newE t l a = 0 := by rw [newE, if_neg h8, if_neg (by omega)]
              have hf := newF_ok hx
              refine wpT_skip ?_
              refine wpT_inBlock ?_
              refine wpT_seq ?_
              refine wpT_drawn [(2, 6), (4, 6)] mixed (by kernel_rfl) (m := 10) rfl (fun K hK => ?_)
              simp only [↓SP, SX, SW, TY, EN, sv_w, ↓reduceIte, reduceCtorEq, Nat.reduceEqDiff, Nat.reduceAdd, Nat.reduceLeDiff, Nat.reduceLT, msO_ok 1 t t (by omega) (Int.le_refl _) (by omega) (by omega), hg11, hc8, hg19, hg23, hg27, hc16]
              refine Nu.lentD (repNu a t (by omega) (by omega)) [3] (rep_scal _ _) (.refl _) (LendL.cons (Lend.sl0 (E := 3) (s := 1) (es := [I a]) (by simp only [↓SP, SX, SW, TY, EN, sv_w, ↓reduceIte, reduceCtorEq, Nat.reduceEqDiff, Nat.reduceAdd, Nat.reduceLeDiff, Nat.reduceLT]) rfl (by simp [AV.okc])) (LendL.cons (.refl _) LendL.nil)) ?_
              simp only [↓SP, SX, SW, TY, EN, sv_w, ↓reduceIte, reduceCtorEq, Nat.reduceEqDiff, Nat.reduceAdd, Nat.reduceLeDiff, Nat.reduceLT, msO_ok 1 t t (by omega) (Int.le_refl _) (by omega) (by omega), hg11, hc8, hg19, hg23, hg27, hc16]
              refine hK _ _ ?_
              clear hK K
              refine wpT_ret ⟨.inr rfl, ?_⟩
              show optK (resA _ _ _ [.cell 6 49, .tmp 7]) _
              simp only [SR, Option.map_some, Option.bind_some, ↓SP, SX, SW, TY, EN, sv_w, ↓reduceIte, reduceCtorEq, Nat.reduceEqDiff, Nat.reduceAdd, Nat.reduceLeDiff, Nat.reduceLT, hg11, hc8, hg19, hg23, hg27, hc16]
              rw [hf, hx]
              refine Lend.tupL (LendL.cons ?_ (LendL.cons (.refl _) LendL.nil))
              first
                | exact fan0_lend
                | exact Lend.aggL (LendL.cons (.refl _) (LendL.cons .nil0 (LendL.cons (Lend.sl0 (E := 3) (s := 1) (es := (List.replicate t.toNat a).map I) (by simp only [↓SP, SX, SW, TY, EN, sv_w, ↓reduceIte, reduceCtorEq, Nat.reduceEqDiff, Nat.reduceAdd, Nat.reduceLeDiff, Nat.reduceLT]) (by simp) (rep_okc _ _)) (LendL.cons (Lend.sl0 (E := 4) (s := 1) (by simp only [↓SP, SX, SW, TY, EN, sv_w, ↓reduceIte, reduceCtorEq, Nat.reduceEqDiff, Nat.reduceAdd, Nat.reduceLeDiff, Nat.reduceLT, List.map_replicate]) (by simp) (by simp [AV.okc])) LendL.nil))))
          · skip
            simp only [Bool.not_true, Bool.not_false] at hg27
            have p27 := hg27
            try simp only [decide_eq_true_eq, decide_eq_false_iff_not, beq_iff_eq, bne_iff_ne, beq_eq_false_iff_ne, bne_eq_false_iff_eq, Bool.not_eq_true', Bool.not_eq_false'] at p27
            simp only [↓SP, SX, SW, TY, EN, sv_w, ↓reduceIte, reduceCtorEq, Nat.reduceEqDiff, Nat.reduceAdd, Nat.reduceLeDiff, Nat.reduceLT, hg11, hc8, hg19, hg23, hg27]
            refine hK _ _ ?_
            clear hK K
            refine wpT_ifT (by simp only [↓SP, SX, SW, TY, EN, sv_w, ↓reduceIte, reduceCtorEq, Nat.reduceEqDiff, Nat.reduceAdd, Nat.reduceLeDiff, Nat.reduceLT, hg11, hc8, hg19, hg23, hg27]) ?_
            have hx : newE t l a = 2 := by rw [newE, if_neg h8, if_pos (by omega)]
            have hf : newF t l a = fan0 := newF_err hx (by omega)
            refine wpT_seq ?_
            refine wpT_region (by kernel_rfl) (fun K hK => ?_)
            simp only [↓SP, SX, SW, TY, EN, sv_w, ↓reduceIte, reduceCtorEq, Nat.reduceEqDiff, Nat.reduceAdd, Nat.reduceLeDiff, Nat.reduceLT, hg11, hc8, hg19, hg23, hg27]
            refine hK _ _ ?_
            clear hK K
            refine wpT_ret ⟨.inr rfl, ?_⟩
            show optK (resA _ _ _ [.cell 6 49, .tmp 7]) _
            simp only [SR, Option.map_some, Option.bind_some, ↓SP, SX, SW, TY, EN, sv_w, ↓reduceIte, reduceCtorEq, Nat.reduceEqDiff, Nat.reduceAdd, Nat.reduceLeDiff, Nat.reduceLT, hg11, hc8, hg19, hg23, hg27]
            rw [hf, hx]
            refine Lend.tupL (LendL.cons ?_ (LendL.cons (.refl _) LendL.nil))
            first
              | exact fan0_lend
              | exact Lend.aggL (LendL.cons (.refl _) (LendL.cons .nil0 (LendL.cons (Lend.sl0 (E := 3) (s := 1) (es := (List.replicate t.toNat a).map I) (by simp only [↓SP, SX, SW, TY, EN, sv_w, ↓reduceIte, reduceCtorEq, Nat.reduceEqDiff, Nat.reduceAdd, Nat.reduceLeDiff, Nat.reduceLT]) (by simp) (rep_okc _ _)) (LendL.cons (Lend.sl0 (E := 4) (s := 1) (by simp only [↓SP, SX, SW, TY, EN, sv_w, ↓reduceIte, reduceCtorEq, Nat.reduceEqDiff, Nat.reduceAdd, Nat.reduceLeDiff, Nat.reduceLT, List.map_replicate]) (by simp) (by simp [AV.okc])) LendL.nil))))
        · skip
          simp only [Bool.not_true, Bool.not_false] at hg23
          have p23 := hg23
          try simp only [decide_eq_true_eq, decide_eq_false_iff_not, beq_iff_eq, bne_iff_ne, beq_eq_false_iff_ne, bne_eq_false_iff_eq, Bool.not_eq_true', Bool.not_eq_false'] at p23
          simp only [↓SP, SX, SW, TY, EN, sv_w, ↓reduceIte, reduceCtorEq, Nat.reduceEqDiff, Nat.reduceAdd, Nat.reduceLeDiff, Nat.reduceLT, hg11, hc8, hg19, hg23]
          refine hK _ _ ?_
          clear hK K
          refine wpT_ifT (by simp only [↓SP, SX, SW, TY, EN, sv_w, ↓reduceIte, reduceCtorEq, Nat.reduceEqDiff, Nat.reduceAdd, Nat.reduceLeDiff, Nat.reduceLT, hg11, hc8, hg19, hg23]) ?_
          have hx : newE t l a = 2 := by rw [newE, if_neg h8, if_pos (by omega)]
          have hf : newF t l a = fan0 := newF_err hx (by omega)
          refine wpT_seq ?_
          refine wpT_region (by kernel_rfl) (fun K hK => ?_)
          simp only [↓SP, SX, SW, TY, EN, sv_w, ↓reduceIte, reduceCtorEq, Nat.reduceEqDiff, Nat.reduceAdd, Nat.reduceLeDiff, Nat.reduceLT, hg11, hc8, hg19, hg23]
          refine hK _ _ ?_
          clear hK K
          refine wpT_ret ⟨.inr rfl, ?_⟩
          show optK (resA _ _ _ [.cell 6 49, .tmp 7]) _
          simp only [SR, Option.map_some, Option.bind_some, ↓SP, SX, SW, TY, EN, sv_w, ↓reduceIte, reduceCtorEq, Nat.reduceEqDiff, Nat.reduceAdd, Nat.reduceLeDiff, Nat.reduceLT, hg11, hc8, hg19, hg23]
          rw [hf, hx]
          refine Lend.tupL (LendL.cons ?_ (LendL.cons (.refl _) LendL.nil))
          first
            | exact fan0_lend
            | exact Lend.aggL (LendL.cons (.refl _) (LendL.cons .nil0 (LendL.cons (Lend.sl0 (E := 3) (s := 1) (es := (List.replicate t.toNat a).map I) (by simp only [↓SP, SX, SW, TY, EN, sv_w, ↓reduceIte, reduceCtorEq, Nat.reduceEqDiff, Nat.reduceAdd, Nat.reduceLeDiff, Nat.reduceLT]) (by simp) (rep_okc _ _)) (LendL.cons (Lend.sl0 (E := 4) (s := 1) (by simp only [↓SP, SX, SW, TY, EN, sv_w, ↓reduceIte, reduceCtorEq, Nat.reduceEqDiff, Nat.reduceAdd, Nat.reduceLeDiff, Nat.reduceLT, List.map_replicate]) (by simp) (by simp [AV.okc])) LendL.nil))))
      · skip
        simp only [Bool.not_true, Bool.not_false] at hg19
        have p19 := hg19
        try simp only [decide_eq_true_eq, decide_eq_false_iff_not, beq_iff_eq, bne_iff_ne, beq_eq_false_iff_ne, bne_eq_false_iff_eq, Bool.not_eq_true', Bool.not_eq_false'] at p19
        simp only [↓SP, SX, SW, TY, EN, sv_w, ↓reduceIte, reduceCtorEq, Nat.reduceEqDiff, Nat.reduceAdd, Nat.reduceLeDiff, Nat.reduceLT, hg11, hc8, hg19]
        refine hK _ _ ?_
        clear hK K
        refine wpT_ifT (by simp only [↓SP, SX, SW, TY, EN, sv_w, ↓reduceIte, reduceCtorEq, Nat.reduceEqDiff, Nat.reduceAdd, Nat.reduceLeDiff, Nat.reduceLT, hg11, hc8, hg19]) ?_
        have hx : newE t l a = 2 := by rw [newE, if_neg h8, if_pos (by omega)]
        have hf : newF t l a = fan0 := newF_err hx (by omega)
        refine wpT_seq ?_
        refine wpT_region (by kernel_rfl) (fun K hK => ?_)
        simp only [↓SP, SX, SW, TY, EN, sv_w, ↓reduceIte, reduceCtorEq, Nat.reduceEqDiff, Nat.reduceAdd, Nat.reduceLeDiff, Nat.reduceLT, hg11, hc8, hg19]
        refine hK _ _ ?_
        clear hK K
        refine wpT_ret ⟨.inr rfl, ?_⟩
        show optK (resA _ _ _ [.cell 6 49, .tmp 7]) _
        simp only [SR, Option.map_some, Option.bind_some, ↓SP, SX, SW, TY, EN, sv_w, ↓reduceIte, reduceCtorEq, Nat.reduceEqDiff, Nat.reduceAdd, Nat.reduceLeDiff, Nat.reduceLT, hg11, hc8, hg19]
        rw [hf, hx]
        refine Lend.tupL (LendL.cons ?_ (LendL.cons (.refl _) LendL.nil))
        first
          | exact fan0_lend
          | exact Lend.aggL (LendL.cons (.refl _) (LendL.cons .nil0 (LendL.cons (Lend.sl0 (E := 3) (s := 1) (es := (List.replicate t.toNat a).map I) (by simp only [↓SP, SX, SW, TY, EN, sv_w, ↓reduceIte, reduceCtorEq, Nat.reduceEqDiff, Nat.reduceAdd, Nat.reduceLeDiff, Nat.reduceLT]) (by simp) (rep_okc _ _)) (LendL.cons (Lend.sl0 (E := 4) (s := 1) (by simp only [↓SP, SX, SW, TY, EN, sv_w, ↓reduceIte, reduceCtorEq, Nat.reduceEqDiff, Nat.reduceAdd, Nat.reduceLeDiff, Nat.reduceLT, List.map_replicate]) (by simp) (by simp [AV.okc])) LendL.nil))))
  · skip
    simp only [Bool.not_true, Bool.not_false] at hg11
    have p11 := hg11
    try simp only [decide_eq_true_eq, decide_eq_false_iff_not, beq_iff_eq, bne_iff_ne, beq_eq_false_iff_ne, bne_eq_false_iff_eq, Bool.not_eq_true', Bool.not_eq_false'] at p11
    simp only [↓SP, SX, SW, TY, EN, sv_w, ↓reduceIte, reduceCtorEq, Nat.reduceEqDiff, Nat.reduceAdd, Nat.reduceLeDiff, Nat.reduceLT, hg11]
    refine hK _ _ ?_
    clear hK K
    refine wpT_ifT (by simp only [↓SP, SX, SW, TY, EN, sv_w, ↓reduceIte, reduceCtorEq, Nat.reduceEqDiff, Nat.reduceAdd, Nat.reduceLeDiff, Nat.reduceLT, hg11]) ?_
    have hx : newE t l a = 6 := if_pos (by omega)
    have hf : newF t l a = fan0 := newF_err hx (by omega)
    refine wpT_seq ?_
    refine wpT_region (by kernel_rfl) (fun K hK => ?_)
    simp only [↓SP, SX, SW, TY, EN, sv_w, ↓reduceIte, reduceCtorEq, Nat.reduceEqDiff, Nat.reduceAdd, Nat.reduceLeDiff, Nat.reduceLT, hg11]
    refine hK _ _ ?_
    clear hK K
    refine wpT_ret ⟨.inr rfl, ?_⟩
    show optK (resA _ _ _ [.cell 6 49, .tmp 7]) _
    simp only [SR, Option.map_some, Option.bind_some, ↓SP, SX, SW, TY, EN, sv_w, ↓reduceIte, reduceCtorEq, Nat.reduceEqDiff, Nat.reduceAdd, Nat.reduceLeDiff, Nat.reduceLT, hg11]
    rw [hf, hx]
    refine Lend.tupL (LendL.cons ?_ (LendL.cons (.refl _) LendL.nil))
    first
      | exact fan0_lend
      | exact Lend.aggL (LendL.cons (.refl _) (LendL.cons .nil0 (LendL.cons (Lend.sl0 (E := 3) (s := 1) (es := (List.replicate t.toNat a).map I) (by simp only [↓SP, SX, SW, TY, EN, sv_w, ↓reduceIte, reduceCtorEq, Nat.reduceEqDiff, Nat.reduceAdd, Nat.reduceLeDiff, Nat.reduceLT]) (by simp) (rep_okc _ _)) (LendL.cons (Lend.sl0 (E := 4) (s := 1) (by simp only [↓SP, SX, SW, TY, EN, sv_w, ↓reduceIte, reduceCtorEq, Nat.reduceEqDiff, Nat.reduceAdd, Nat.reduceLeDiff, Nat.reduceLT, List.map_replicate]) (by simp) (by simp [AV.okc])) LendL.nil))))
end Go.Proofs.YtlmjpgmaefokdaaGreat
end

section
set_option linter.unusedSimpArgs false
set_option linter.unusedVariables false
namespace Go.Proofs.YtlmjpgmaefokdaaGreat
open Go.Proofs
set_option maxRecDepth 10000
end Go.Proofs.YtlmjpgmaefokdaaGreat
end

section
set_option linter.unusedSimpArgs false
set_option linter.unusedVariables false
namespace Go.Proofs.YtlmjpgmaefokdaaGreat
open Go.Proofs
set_option maxRecDepth 10000
theorem c103 (n : Int) : Pu Tryz.prog (.fn (.func 103) [] []) [I n] (B (decide (0 ≤ n ∧ n ≤ 1073741824))) := by
  refine pu_func Tryz.func103 rfl (by kernel_rfl) (by show _ ≤ 9; simp only [List.length_append, List.length_cons, List.length_nil]; decide) (by simp only [IDF, and_tt, implies_true]) (by simp only [IDF, and_tt, implies_true]) (by simp only [IDF, and_tt, implies_true]) ?_
  rw [Tryz.ntmps103]
  refine wpT_seq ?_
  refine wpT_region (by kernel_rfl) (fun K hK => ?_)
  simp only [↓SP, SX, SW, TY, EN, sv_w, ↓reduceIte, reduceCtorEq, Nat.reduceEqDiff, Nat.reduceAdd, Nat.reduceLeDiff, Nat.reduceLT]
  refine hK _ _ ?_
  clear hK K
  refine wpT_seq ?_
  refine wpT_region (by kernel_rfl) (fun K hK => ?_)
  simp only [↓SP, SX, SW, TY, EN, sv_w, ↓reduceIte, reduceCtorEq, Nat.reduceEqDiff, Nat.reduceAdd, Nat.reduceLeDiff, Nat.reduceLT]
  refine guardO_split (fun hg5 => ?_) (fun hg5 => ?_)
  · skip
    have p5 := hg5
    try simp only [decide_eq_true_eq, decide_eq_false_iff_not, beq_iff_eq, bne_iff_ne, beq_eq_false_iff_ne, bne_eq_false_iff_eq, Bool.not_eq_true', Bool.not_eq_false'] at p5
    simp only [↓SP, SX, SW, TY, EN, sv_w, ↓reduceIte, reduceCtorEq, Nat.reduceEqDiff, Nat.reduceAdd, Nat.reduceLeDiff, Nat.reduceLT, hg5]
    refine hK _ _ ?_
    clear hK K
    refine wpT_ret ⟨.inr rfl, ?_⟩
    show optK (resA _ _ _ [.tmp 2]) _
    simp only [SR, Option.map_some, Option.bind_some, ↓SP, SX, SW, TY, EN, sv_w, ↓reduceIte, reduceCtorEq, Nat.reduceEqDiff, Nat.reduceAdd, Nat.reduceLeDiff, Nat.reduceLT, hg5]
    refine Lend.eq ?_
    congr 1
    first
      | exact (decide_eq_false (by omega)).symm
      | exact decide_eq_decide.2 (by omega)
  · skip
    simp only [Bool.not_true, Bool.not_false] at hg5
    have p5 := hg5
    try simp only [decide_eq_true_eq, decide_eq_false_iff_not, beq_iff_eq, bne_iff_ne, beq_eq_false_iff_ne, bne_eq_false_iff_eq, Bool.not_eq_true', Bool.not_eq_false'] at p5
    simp only [↓SP, SX, SW, TY, EN, sv_w, ↓reduceIte, reduceCtorEq, Nat.reduceEqDiff, Nat.reduceAdd, Nat.reduceLeDiff, Nat.reduceLT, hg5]
    refine hK _ _ ?_
    clear hK K
    refine wpT_ret ⟨.inr rfl, ?_⟩
    show optK (resA _ _ _ [.tmp 2]) _
    simp only [SR, Option.map_some, Option.bind_some, ↓SP, SX, SW, TY, EN, sv_w, ↓reduceIte, reduceCtorEq, Nat.reduceEqDiff, Nat.reduceAdd, Nat.reduceLeDiff, Nat.reduceLT, hg5]
    refine Lend.eq ?_
    congr 1
    first
      | exact (decide_eq_false (by omega)).symm
      | exact decide_eq_decide.2 (by omega)
theorem c105 (n : Int) : Pu Tryz.prog (.fn (.func 105) [] [.cptr (.fn (.func 103) [] [])]) [I n] (B (decide (n < 0 ∨ n > 1073741824))) := by
  refine pu_func Tryz.func105 rfl (by kernel_rfl) (by show _ ≤ 8; simp only [List.length_append, List.length_cons, List.length_nil]; decide) (by simp only [IDF, and_tt, implies_true]) (by simp only [IDF, and_tt, implies_true]) (by simp only [IDF, and_tt, implies_true]) ?_
  rw [Tryz.ntmps105]
  refine wpT_seq ?_
  refine wpT_region (by kernel_rfl) (fun K hK => ?_)
  simp only [↓SP, SX, SW, TY, EN, sv_w, ↓reduceIte, reduceCtorEq, Nat.reduceEqDiff, Nat.reduceAdd, Nat.reduceLeDiff, Nat.reduceLT, List.cons_append]
  refine hK _ _ ?_
  clear hK K
  refine wpT_seq ?_
  refine wpT_region (by kernel_rfl) (fun K hK => ?_)
  simp only [↓SP, SX, SW, TY, EN, sv_w, ↓reduceIte, reduceCtorEq, Nat.reduceEqDiff, Nat.reduceAdd, Nat.reduceLeDiff, Nat.reduceLT, List.cons_append]
  refine Pu.call (c103 n) ?_
  simp only [↓SP, SX, SW, TY, EN, sv_w, ↓reduceIte, reduceCtorEq, Nat.reduceEqDiff, Nat.reduceAdd, Nat.reduceLeDiff, Nat.reduceLT, List.cons_append]
  refine hK _ _ ?_
  clear hK K
  refine wpT_ret ⟨.inr rfl, ?_⟩
  show optK (resA _ _ _ [.tmp 3]) _
  simp only [SR, Option.map_some, Option.bind_some, ↓SP, SX, SW, TY, EN, sv_w, ↓reduceIte, reduceCtorEq, Nat.reduceEqDiff, Nat.reduceAdd, Nat.reduceLeDiff, Nat.reduceLT, List.cons_append]
  refine Lend.eq ?_
  congr 1
  rw [← decide_not]
  exact decide_eq_decide.2 (by omega)
theorem c40 (f : Fan) (hf : f.ok) : Pu Tryz.prog (.fn (.func 40) [] []) [f.av] (I (chkF f)) := by
  refine pu_func Tryz.func40 rfl (by kernel_rfl) (by show _ ≤ 123; simp only [List.length_append, List.length_cons, List.length_nil]; decide) (by simp only [IDF]) (by simp only [IDF, and_tt, implies_true]) (by simp only [IDF, fan_idf, and_tt, implies_true]) ?_
  have hk := hf.1
  have ha := hf.2.1
  rw [Tryz.ntmps40]
  refine wpT_seq ?_
  refine wpT_region (by kernel_rfl) (fun K hK => ?_)
  simp only [↓SP, SX, SW, TY, EN, sv_w, ↓reduceIte, reduceCtorEq, Nat.reduceEqDiff, Nat.reduceAdd, Nat.reduceLeDiff, Nat.reduceLT, Fan.av, cyc_cs]
  refine hK _ _ ?_
  clear hK K
  refine wpT_seq ?_
  refine wpT_region (by kernel_rfl) (fun K hK => ?_)
  simp only [↓SP, SX, SW, TY, EN, sv_w, ↓reduceIte, reduceCtorEq, Nat.reduceEqDiff, Nat.reduceAdd, Nat.reduceLeDiff, Nat.reduceLT, Fan.av, cyc_cs]
  refine hK _ _ ?_
  clear hK K
  refine wpT_seq ?_
  refine wpT_block ?_
  refine wpT_seq ?_
  refine wpT_region (by kernel_rfl) (fun K hK => ?_)
  simp only [↓SP, SX, SW, TY, EN, sv_w, ↓reduceIte, reduceCtorEq, Nat.reduceEqDiff, Nat.reduceAdd, Nat.reduceLeDiff, Nat.reduceLT, Fan.av, cyc_cs]
  refine guardO_split (fun hg15 => ?_) (fun hg15 => ?_)
  · skip
    have p15 := hg15
    try simp only [decide_eq_true_eq, decide_eq_false_iff_not, beq_iff_eq, bne_iff_ne, beq_eq_false_iff_ne, bne_eq_false_iff_eq, Bool.not_eq_true', Bool.not_eq_false'] at p15
    simp only [↓SP, SX, SW, TY, EN, sv_w, ↓reduceIte, reduceCtorEq, Nat.reduceEqDiff, Nat.reduceAdd, Nat.reduceLeDiff, Nat.reduceLT, Fan.av, cyc_cs, hg15]
    refine guardO_split (fun hg21 => ?_) (fun hg21 => ?_)
    · skip
      have p21 := hg21
      try simp only [decide_eq_true_eq, decide_eq_false_iff_not, beq_iff_eq, bne_iff_ne, beq_eq_false_iff_ne, bne_eq_false_iff_eq, Bool.not_eq_true', Bool.not_eq_false'] at p21
      simp only [↓SP, SX, SW, TY, EN, sv_w, ↓reduceIte, reduceCtorEq, Nat.reduceEqDiff, Nat.reduceAdd, Nat.reduceLeDiff, Nat.reduceLT, Fan.av, cyc_cs, hg15, hg21]
      refine hK _ _ ?_
      clear hK K
      refine wpT_if (by rfl) (fun hc10 => ?_) (fun hc10 => ?_)
      · skip
        have p10 := hc10
        try simp only [decide_eq_true_eq, decide_eq_false_iff_not, beq_iff_eq, bne_iff_ne, beq_eq_false_iff_ne, bne_eq_false_iff_eq, Bool.not_eq_true', Bool.not_eq_false'] at p10
        have hx : chkF f = 6 := if_pos (by omega)
        refine wpT_seq ?_
        refine wpT_region (by kernel_rfl) (fun K hK => ?_)
        simp only [↓SP, SX, SW, TY, EN, sv_w, ↓reduceIte, reduceCtorEq, Nat.reduceEqDiff, Nat.reduceAdd, Nat.reduceLeDiff, Nat.reduceLT, Fan.av, cyc_cs, hg15, hg21, hc10]
        refine hK _ _ ?_
        clear hK K
        refine wpT_ret ⟨.inr rfl, ?_⟩
        show optK (resA _ _ _ [.tmp 2]) _
        simp only [SR, Option.map_some, Option.bind_some, ↓SP, SX, SW, TY, EN, sv_w, ↓reduceIte, reduceCtorEq, Nat.reduceEqDiff, Nat.reduceAdd, Nat.reduceLeDiff, Nat.reduceLT, Fan.av, cyc_cs, hg15, hg21, hc10]
        refine Lend.eq ?_
        rw [hx]
      · skip
        have p10 := hc10
        try simp only [decide_eq_true_eq, decide_eq_false_iff_not, beq_iff_eq, bne_iff_ne, beq_eq_false_iff_ne, bne_eq_false_iff_eq, Bool.not_eq_true', Bool.not_eq_false'] at p10
        have h1 : ¬ (f.app.length < 1 ∨ f.app.length > 4 ∨ f.lost.length ≠ f.app.length) := by omega
        have hlen : f.lost.length = f.app.length := by omega
        refine wpT_seq ?_
        refine wpT_region (by kernel_rfl) (fun K hK => ?_)
        simp only [↓SP, SX, SW, TY, EN, sv_w, ↓reduceIte, reduceCtorEq, Nat.reduceEqDiff, Nat.reduceAdd, Nat.reduceLeDiff, Nat.reduceLT, Fan.av, cyc_cs, hg15, hg21, hc10]
        refine guardO_split (fun hg34 => ?_) (fun hg34 => ?_)
        · skip
          have p34 := hg34
          try simp only [decide_eq_true_eq, decide_eq_false_iff_not, beq_iff_eq, bne_iff_ne, beq_eq_false_iff_ne, bne_eq_false_iff_eq, Bool.not_eq_true', Bool.not_eq_false'] at p34
          simp only [↓SP, SX, SW, TY, EN, sv_w, ↓reduceIte, reduceCtorEq, Nat.reduceEqDiff, Nat.reduceAdd, Nat.reduceLeDiff, Nat.reduceLT, Fan.av, cyc_cs, hg15, hg21, hc10, hg34]
          refine guardO_split (fun hg39 => ?_) (fun hg39 => ?_)
          · skip
            have p39 := hg39
            try simp only [decide_eq_true_eq, decide_eq_false_iff_not, beq_iff_eq, bne_iff_ne, beq_eq_false_iff_ne, bne_eq_false_iff_eq, Bool.not_eq_true', Bool.not_eq_false'] at p39
            simp only [↓SP, SX, SW, TY, EN, sv_w, ↓reduceIte, reduceCtorEq, Nat.reduceEqDiff, Nat.reduceAdd, Nat.reduceLeDiff, Nat.reduceLT, Fan.av, cyc_cs, hg15, hg21, hc10, hg34, hg39]
            refine Pu.lent (c104 f.app (.fn (.func 105) [] [.cptr (.fn (.func 103) [] [])]) (fun n => decide (n < 0 ∨ n > 1073741824)) ha (by simp only [IDF, and_tt]) (fun x _ => c105 x)) (.bool _) (.refl _) (LendL.cons (.refl _) (LendL.cons (Lend.fnL LendL.nil (LendL.cons (Lend.ptr1 (E := 145) (s := 1) (by simp only [↓SP, SX, SW, TY, EN, sv_w, ↓reduceIte, reduceCtorEq, Nat.reduceEqDiff, Nat.reduceAdd, Nat.reduceLeDiff, Nat.reduceLT, Fan.av]) rfl) LendL.nil)) LendL.nil)) ?_
            simp only [↓SP, SX, SW, TY, EN, sv_w, ↓reduceIte, reduceCtorEq, Nat.reduceEqDiff, Nat.reduceAdd, Nat.reduceLeDiff, Nat.reduceLT, Fan.av, cyc_cs, hg15, hg21, hc10, hg34, hg39]
            refine hK _ _ ?_
            clear hK K
            refine wpT_if (by rfl) (fun hc30 => ?_) (fun hc30 => ?_)
            · skip
              have p30 := hc30
              try simp only [decide_eq_true_eq, decide_eq_false_iff_not, beq_iff_eq, bne_iff_ne, beq_eq_false_iff_ne, bne_eq_false_iff_eq, Bool.not_eq_true', Bool.not_eq_false'] at p30
              have hx : chkF f = 2 := by
                rw [chkF, if_neg h1, posR_any]
                by_cases h2 : f.limit < 1 ∨ f.limit > 1024
                · rw [if_pos h2]
                · have hc : (f.app.any fun n => decide (n < 0 ∨ n > 1073741824)) = true := by
                    first
                      | (exfalso; omega)
                      | assumption
                  rw [if_neg h2, hc]
                  rfl
              refine wpT_seq ?_
              refine wpT_region (by kernel_rfl) (fun K hK => ?_)
              simp only [↓SP, SX, SW, TY, EN, sv_w, ↓reduceIte, reduceCtorEq, Nat.reduceEqDiff, Nat.reduceAdd, Nat.reduceLeDiff, Nat.reduceLT, Fan.av, cyc_cs, hg15, hg21, hc10, hg34, hg39, hc30]
              refine hK _ _ ?_
              clear hK K
              refine wpT_ret ⟨.inr rfl, ?_⟩
              show optK (resA _ _ _ [.tmp 2]) _
              simp only [SR, Option.map_some, Option.bind_some, ↓SP, SX, SW, TY, EN, sv_w, ↓reduceIte, reduceCtorEq, Nat.reduceEqDiff, Nat.reduceAdd, Nat.reduceLeDiff, Nat.reduceLT, Fan.av, cyc_cs, hg15, hg21, hc10, hg34, hg39, hc30]
              refine Lend.eq ?_
              rw [hx]
            · skip
              have p30 := hc30
              try simp only [decide_eq_true_eq, decide_eq_false_iff_not, beq_iff_eq, bne_iff_ne, beq_eq_false_iff_ne, bne_eq_false_iff_eq, Bool.not_eq_true', Bool.not_eq_false'] at p30
              have h2 : ¬ (f.limit < 1 ∨ f.limit > 1024) := by omega
              have h3' : posR f.app = 0 := by rw [posR_any, hc30]; rfl
              have h3 : ¬ posR f.app ≠ 0 := by omega
              have h0 := chkF_app h1 h3'
              have h11 : 1 ≤ f.app.length := by omega
              refine wpT_seq ?_
              refine wpT_region (by kernel_rfl) (fun K hK => ?_)
              simp only [↓SP, SX, SW, TY, EN, sv_w, ↓reduceIte, reduceCtorEq, Nat.reduceEqDiff, Nat.reduceAdd, Nat.reduceLeDiff, Nat.reduceLT, Fan.av, cyc_cs, hg15, hg21, hc10, hg34, hg39, hc30]
              refine hK _ _ ?_
              clear hK K
              refine wpT_if (by rfl) (fun hc45 => ?_) (fun hc45 => ?_)
              · skip
                have p45 := hc45
                try simp only [decide_eq_true_eq, decide_eq_false_iff_not, beq_iff_eq, bne_iff_ne, beq_eq_false_iff_ne, bne_eq_false_iff_eq, Bool.not_eq_true', Bool.not_eq_false'] at p45
                have hx : chkF f = 6 := by rw [chkF, if_neg h1, if_neg h2, if_neg h3, if_pos (by omega)]
                refine wpT_seq ?_
                refine wpT_region (by kernel_rfl) (fun K hK => ?_)
                simp only [↓SP, SX, SW, TY, EN, sv_w, ↓reduceIte, reduceCtorEq, Nat.reduceEqDiff, Nat.reduceAdd, Nat.reduceLeDiff, Nat.reduceLT, Fan.av, cyc_cs, hg15, hg21, hc10, hg34, hg39, hc30, hc45]
                refine hK _ _ ?_
                clear hK K
                refine wpT_ret ⟨.inr rfl, ?_⟩
                show optK (resA _ _ _ [.tmp 2]) _
                simp only [SR, Option.map_some, Option.bind_some, ↓SP, SX, SW, TY, EN, sv_w, ↓reduceIte, reduceCtorEq, Nat.reduceEqDiff, Nat.reduceAdd, Nat.reduceLeDiff, Nat.reduceLT, Fan.av, cyc_cs, hg15, hg21, hc10, hg34, hg39, hc30, hc45]
                refine Lend.eq ?_
                rw [hx]
              · skip
                have p45 := hc45
                try simp only [decide_eq_true_eq, decide_eq_false_iff_not, beq_iff_eq, bne_iff_ne, beq_eq_false_iff_ne, bne_eq_false_iff_eq, Bool.not_eq_true', Bool.not_eq_false'] at p45
                have h4 : ¬ (f.kept.length > f.limit) := by omega
                refine wpT_skip ?_
                refine wpT_inBlock ?_
                refine wpT_seq ?_
                refine wpT_region (by kernel_rfl) (fun K hK => ?_)
                simp only [↓SP, SX, SW, TY, EN, sv_w, ↓reduceIte, reduceCtorEq, Nat.reduceEqDiff, Nat.reduceAdd, Nat.reduceLeDiff, Nat.reduceLT, Fan.av, cyc_cs, hg15, hg21, hc10, hg34, hg39, hc30, hc45]
                refine Pu.call most_pu ?_
                simp only [↓SP, SX, SW, TY, EN, sv_w, ↓reduceIte, reduceCtorEq, Nat.reduceEqDiff, Nat.reduceAdd, Nat.reduceLeDiff, Nat.reduceLT, Fan.av, cyc_cs, hg15, hg21, hc10, hg34, hg39, hc30, hc45]
                refine hK _ _ ?_
                clear hK K
                refine wpT_seq ?_
                refine wpT_seq ?_
                refine wpT_region (by kernel_rfl) (fun K hK => ?_)
                simp only [↓SP, SX, SW, TY, EN, sv_w, ↓reduceIte, reduceCtorEq, Nat.reduceEqDiff, Nat.reduceAdd, Nat.reduceLeDiff, Nat.reduceLT, Fan.av, cyc_cs, hg15, hg21, hc10, hg34, hg39, hc30, hc45]
                refine hK _ _ ?_
                clear hK K
                refine wpT_block ?_
                refine wpT_loop ?_
                refine wpT_keep1 (i := 0) (o := .arr 49 4 [f.av]) (by simp only [↓SP, SX, SW, TY, EN, sv_w, ↓reduceIte, reduceCtorEq, Nat.reduceEqDiff, Nat.reduceAdd, Nat.reduceLeDiff, Nat.reduceLT, Fan.av]) ?_
                refine wpT_ind (fun (i : Nat) tm' h' => (∃ m, h' = Hp.of [(0, .arr 49 4 [f.av])] (m + 1)) ∧ tm' 1 = .ptr 0 1 0 0 ∧ tm' 4 = .lst (most.map I) ∧ tm' 54 = .lst (f.kept.map Cyc.av) ∧ tm' 55 = I f.kept.length ∧ tm' 56 = I i ∧ i ≤ f.kept.length ∧ keptE (prevN f.kept i) (f.kept.drop i) = keptE none f.kept) (fun i => f.kept.length - i) ?_ 0 ⟨⟨_, rfl⟩, rfl, rfl, rfl, rfl, rfl, by omega, rfl⟩
                rintro i tm' _ ⟨⟨m, rfl⟩, e1, e4, e54, e55, e56, hi, hy⟩ IH
                refine wpT_inLoop ?_
                refine wpT_seq ?_
                refine wpT_region (by kernel_rfl) (fun K hK => ?_)
                simp only [↓SP, SX, SW, TY, EN, sv_w, ↓reduceIte, reduceCtorEq, Nat.reduceEqDiff, Nat.reduceAdd, Nat.reduceLeDiff, Nat.reduceLT, Fan.av, cyc_cs, e55, e56]
                refine hK _ _ ?_
                clear hK K
                refine wpT_seq ?_
                refine wpT_if (by rfl) (fun hc57 => ?_) (fun hc57 => ?_)
                · skip
                  have p57 := hc57
                  try simp only [decide_eq_true_eq, decide_eq_false_iff_not, beq_iff_eq, bne_iff_ne, beq_eq_false_iff_ne, bne_eq_false_iff_eq, Bool.not_eq_true', Bool.not_eq_false'] at p57
                  have hlt : i < f.kept.length := by omega
                  have hg := at_map (f := Cyc.av) hlt
                  rw [List.drop_eq_getElem_cons hlt, keptE] at hy
                  refine wpT_skip ?_
                  refine wpT_seq ?_
                  refine wpT_block ?_
                  refine wpT_seq ?_
                  refine wpT_region (by kernel_rfl) (fun K hK => ?_)
                  simp only [↓SP, SX, SW, TY, EN, sv_w, ↓reduceIte, reduceCtorEq, Nat.reduceEqDiff, Nat.reduceAdd, Nat.reduceLeDiff, Nat.reduceLT, Fan.av, cyc_cs, e54, e56, hg, hc57]
                  refine hK _ _ ?_
                  clear hK K
                  refine wpT_seq ?_
                  refine wpT_seq ?_
                  refine wpT_region (by kernel_rfl) (fun K hK => ?_)
                  simp only [↓SP, SX, SW, TY, EN, sv_w, ↓reduceIte, reduceCtorEq, Nat.reduceEqDiff, Nat.reduceAdd, Nat.reduceLeDiff, Nat.reduceLT, Fan.av, cyc_cs, e4, hc57]
                  refine Pu.call (c74 f.kept[i] most (hf.2.2.2 _ (List.getElem_mem hlt)) (by decide)) ?_
                  simp only [↓SP, SX, SW, TY, EN, sv_w, ↓reduceIte, reduceCtorEq, Nat.reduceEqDiff, Nat.reduceAdd, Nat.reduceLeDiff, Nat.reduceLT, Fan.av, cyc_cs, e4, hc57]
                  refine hK _ _ ?_
                  clear hK K
                  refine wpT_seq ?_
                  refine wpT_region (by kernel_rfl) (fun K hK => ?_)
                  simp only [↓SP, SX, SW, TY, EN, sv_w, ↓reduceIte, reduceCtorEq, Nat.reduceEqDiff, Nat.reduceAdd, Nat.reduceLeDiff, Nat.reduceLT, Fan.av, cyc_cs, hc57]
                  refine hK _ _ ?_
                  clear hK K
                  refine wpT_if (by rfl) (fun hc65 => ?_) (fun hc65 => ?_)
                  · skip
                    have p65 := hc65
                    try simp only [decide_eq_true_eq, decide_eq_false_iff_not, beq_iff_eq, bne_iff_ne, beq_eq_false_iff_ne, bne_eq_false_iff_eq, Bool.not_eq_true', Bool.not_eq_false'] at p65
                    rw [if_pos p65] at hy
                    have hx : chkF f = cycE f.kept[i] most := by rw [chkF, if_neg h1, if_neg h2, if_neg h3, if_neg h4, if_pos (by rw [← hy]; exact p65), hy]
                    refine wpT_seq ?_
                    refine wpT_region (by kernel_rfl) (fun K hK => ?_)
                    simp only [↓SP, SX, SW, TY, EN, sv_w, ↓reduceIte, reduceCtorEq, Nat.reduceEqDiff, Nat.reduceAdd, Nat.reduceLeDiff, Nat.reduceLT, Fan.av, cyc_cs, hc57, hc65]
                    refine hK _ _ ?_
                    clear hK K
                    refine wpT_ret ⟨.inr rfl, ?_⟩
                    show optK (resA _ _ _ [.tmp 2]) _
                    simp only [SR, Option.map_some, Option.bind_some, ↓SP, SX, SW, TY, EN, sv_w, ↓reduceIte, reduceCtorEq, Nat.reduceEqDiff, Nat.reduceAdd, Nat.reduceLeDiff, Nat.reduceLT, Fan.av, cyc_cs, hc57, hc65]
                    refine Lend.eq ?_
                    rw [hx]
                  · skip
                    have p65 := hc65
                    try simp only [decide_eq_true_eq, decide_eq_false_iff_not, beq_iff_eq, bne_iff_ne, beq_eq_false_iff_ne, bne_eq_false_iff_eq, Bool.not_eq_true', Bool.not_eq_false'] at p65
                    rw [if_neg (by omega)] at hy
                    refine wpT_skip ?_
                    refine wpT_seq ?_
                    refine wpT_drawn [] mixed (by kernel_rfl) (m := 14) rfl (fun K hK => ?_)
                    simp only [↓SP, SX, SW, TY, EN, sv_w, ↓reduceIte, reduceCtorEq, Nat.reduceEqDiff, Nat.reduceAdd, Nat.reduceLeDiff, Nat.reduceLT, Fan.av, cyc_cs, e1, Cyc.av, hc57, hc65]
                    refine guardD_split (fun hg69 => ?_) (fun hg69 => ?_)
                    · skip
                      have p69 := hg69
                      try simp only [decide_eq_true_eq, decide_eq_false_iff_not, beq_iff_eq, bne_iff_ne, beq_eq_false_iff_ne, bne_eq_false_iff_eq, Bool.not_eq_true', Bool.not_eq_false'] at p69
                      have hi1 : IntKind.i64.wrap ((i : Int) - 1) = ((i - 1 : Nat) : Int) := by rw [wrap64 (by omega) (by omega)]; omega
                      have hlt1 : i - 1 < f.kept.length := by omega
                      have hg1 := at_map (f := Cyc.av) hlt1
                      have hpr : prevN f.kept i = some f.kept[i - 1].num := by rw [prevN, if_neg (by omega)]; simp [hlt1]
                      rw [hpr] at hy
                      simp only [↓SP, SX, SW, TY, EN, sv_w, ↓reduceIte, reduceCtorEq, Nat.reduceEqDiff, Nat.reduceAdd, Nat.reduceLeDiff, Nat.reduceLT, Fan.av, cyc_cs, e1, Cyc.av, hc57, hc65, hi1, hg1, hg69]
                      refine hK _ _ ?_
                      clear hK K
                      refine wpT_if (by rfl) (fun hc80 => ?_) (fun hc80 => ?_)
                      · skip
                        have p80 := hc80
                        try simp only [decide_eq_true_eq, decide_eq_false_iff_not, beq_iff_eq, bne_iff_ne, beq_eq_false_iff_ne, bne_eq_false_iff_eq, Bool.not_eq_true', Bool.not_eq_false'] at p80
                        have hdf : differs (some f.kept[i - 1].num) f.kept[i].base = true := decide_eq_true p80
                        rw [if_pos hdf] at hy
                        have hx : chkF f = 15 := by rw [chkF, if_neg h1, if_neg h2, if_neg h3, if_neg h4, if_pos (by omega), hy]
                        refine wpT_seq ?_
                        refine wpT_region (by kernel_rfl) (fun K hK => ?_)
                        simp only [↓SP, SX, SW, TY, EN, sv_w, ↓reduceIte, reduceCtorEq, Nat.reduceEqDiff, Nat.reduceAdd, Nat.reduceLeDiff, Nat.reduceLT, Fan.av, cyc_cs, hc57, hc65, hi1, hg1, hg69, hc80]
                        refine hK _ _ ?_
                        clear hK K
                        refine wpT_ret ⟨.inr rfl, ?_⟩
                        show optK (resA _ _ _ [.tmp 2]) _
                        simp only [SR, Option.map_some, Option.bind_some, ↓SP, SX, SW, TY, EN, sv_w, ↓reduceIte, reduceCtorEq, Nat.reduceEqDiff, Nat.reduceAdd, Nat.reduceLeDiff, Nat.reduceLT, Fan.av, cyc_cs, hc57, hc65, hi1, hg1, hg69, hc80]
                        refine Lend.eq ?_
                        rw [hx]
                      · skip
                        have p80 := hc80
                        try simp only [decide_eq_true_eq, decide_eq_false_iff_not, beq_iff_eq, bne_iff_ne, beq_eq_false_iff_ne, bne_eq_false_iff_eq, Bool.not_eq_true', Bool.not_eq_false'] at p80
                        have hy' : keptE (prevN f.kept (i + 1)) (f.kept.drop (i + 1)) = keptE none f.kept := by
                          rw [prevN_succ hlt]
                          rwa [if_neg (by simp_all [differs])] at hy
                        refine wpT_skip ?_
                        refine wpT_inBlock ?_
                        refine wpT_region (by kernel_rfl) (fun K hK => ?_)
                        simp only [↓SP, SX, SW, TY, EN, sv_w, ↓reduceIte, reduceCtorEq, Nat.reduceEqDiff, Nat.reduceAdd, Nat.reduceLeDiff, Nat.reduceLT, Fan.av, cyc_cs, e56, wrap64 (x := (i : Int) + 1) (by omega) (by omega), hc57, hc65, hi1, hg1, hg69, hc80]
                        refine hK _ _ ?_
                        clear hK K
                        refine wpT_keep1 (i := 0) (o := .arr 49 4 [f.av]) (by simp only [↓SP, SX, SW, TY, EN, sv_w, ↓reduceIte, reduceCtorEq, Nat.reduceEqDiff, Nat.reduceAdd, Nat.reduceLeDiff, Nat.reduceLT, Fan.av]) ?_
                        refine IH (i + 1) _ _ (by omega) ⟨⟨_, rfl⟩, by simp only [↓SP, SX, SW, TY, EN, sv_w, ↓reduceIte, reduceCtorEq, Nat.reduceEqDiff, Nat.reduceAdd, Nat.reduceLeDiff, Nat.reduceLT, Fan.av, e1], by simp only [↓SP, SX, SW, TY, EN, sv_w, ↓reduceIte, reduceCtorEq, Nat.reduceEqDiff, Nat.reduceAdd, Nat.reduceLeDiff, Nat.reduceLT, Fan.av, e4], by simp only [↓SP, SX, SW, TY, EN, sv_w, ↓reduceIte, reduceCtorEq, Nat.reduceEqDiff, Nat.reduceAdd, Nat.reduceLeDiff, Nat.reduceLT, Fan.av, e54], by simp only [↓SP, SX, SW, TY, EN, sv_w, ↓reduceIte, reduceCtorEq, Nat.reduceEqDiff, Nat.reduceAdd, Nat.reduceLeDiff, Nat.reduceLT, Fan.av, e55], by simp only [↓SP, SX, SW, TY, EN, sv_w, ↓reduceIte, reduceCtorEq, Nat.reduceEqDiff, Nat.reduceAdd, Nat.reduceLeDiff, Nat.reduceLT, Fan.av, Int.natCast_add, Int.cast_ofNat_Int], by omega, hy'⟩
                    · skip
                      simp only [Bool.not_true, Bool.not_false] at hg69
                      have p69 := hg69
                      try simp only [decide_eq_true_eq, decide_eq_false_iff_not, beq_iff_eq, bne_iff_ne, beq_eq_false_iff_ne, bne_eq_false_iff_eq, Bool.not_eq_true', Bool.not_eq_false'] at p69
                      have hpr : prevN f.kept i = none := if_pos (by omega)
                      rw [hpr] at hy
                      simp only [↓SP, SX, SW, TY, EN, sv_w, ↓reduceIte, reduceCtorEq, Nat.reduceEqDiff, Nat.reduceAdd, Nat.reduceLeDiff, Nat.reduceLT, Fan.av, cyc_cs, e1, Cyc.av, hc57, hc65, hg69]
                      refine hK _ _ ?_
                      clear hK K
                      refine wpT_ifF (by simp only [↓SP, SX, SW, TY, EN, sv_w, ↓reduceIte, reduceCtorEq, Nat.reduceEqDiff, Nat.reduceAdd, Nat.reduceLeDiff, Nat.reduceLT, Fan.av, cyc_cs, hc57, hc65, hg69]) ?_
                      have hy' : keptE (prevN f.kept (i + 1)) (f.kept.drop (i + 1)) = keptE none f.kept := by
                        rw [prevN_succ hlt]
                        rwa [if_neg (by simp_all [differs])] at hy
                      refine wpT_skip ?_
                      refine wpT_inBlock ?_
                      refine wpT_region (by kernel_rfl) (fun K hK => ?_)
                      simp only [↓SP, SX, SW, TY, EN, sv_w, ↓reduceIte, reduceCtorEq, Nat.reduceEqDiff, Nat.reduceAdd, Nat.reduceLeDiff, Nat.reduceLT, Fan.av, cyc_cs, e56, wrap64 (x := (i : Int) + 1) (by omega) (by omega), hc57, hc65, hg69]
                      refine hK _ _ ?_
                      clear hK K
                      refine wpT_keep1 (i := 0) (o := .arr 49 4 [f.av]) (by simp only [↓SP, SX, SW, TY, EN, sv_w, ↓reduceIte, reduceCtorEq, Nat.reduceEqDiff, Nat.reduceAdd, Nat.reduceLeDiff, Nat.reduceLT, Fan.av]) ?_
                      refine IH (i + 1) _ _ (by omega) ⟨⟨_, rfl⟩, by simp only [↓SP, SX, SW, TY, EN, sv_w, ↓reduceIte, reduceCtorEq, Nat.reduceEqDiff, Nat.reduceAdd, Nat.reduceLeDiff, Nat.reduceLT, Fan.av, e1], by simp only [↓SP, SX, SW, TY, EN, sv_w, ↓reduceIte, reduceCtorEq, Nat.reduceEqDiff, Nat.reduceAdd, Nat.reduceLeDiff, Nat.reduceLT, Fan.av, e4], by simp only [↓SP, SX, SW, TY, EN, sv_w, ↓reduceIte, reduceCtorEq, Nat.reduceEqDiff, Nat.reduceAdd, Nat.reduceLeDiff, Nat.reduceLT, Fan.av, e54], by simp only [↓SP, SX, SW, TY, EN, sv_w, ↓reduceIte, reduceCtorEq, Nat.reduceEqDiff, Nat.reduceAdd, Nat.reduceLeDiff, Nat.reduceLT, Fan.av, e55], by simp only [↓SP, SX, SW, TY, EN, sv_w, ↓reduceIte, reduceCtorEq, Nat.reduceEqDiff, Nat.reduceAdd, Nat.reduceLeDiff, Nat.reduceLT, Fan.av, Int.natCast_add, Int.cast_ofNat_Int], by omega, hy'⟩
                · skip
                  have p57 := hc57
                  try simp only [decide_eq_true_eq, decide_eq_false_iff_not, beq_iff_eq, bne_iff_ne, beq_eq_false_iff_ne, bne_eq_false_iff_eq, Bool.not_eq_true', Bool.not_eq_false'] at p57
                  rw [List.drop_eq_nil_of_le (by omega), keptE] at hy
                  have h5 : ¬ keptE none f.kept ≠ 0 := by omega
                  clear hy IH
                  refine wpT_exit rfl ?_
                  refine wpT_seq ?_
                  refine wpT_seq ?_
                  refine wpT_region (by kernel_rfl) (fun K hK => ?_)
                  simp only [↓SP, SX, SW, TY, EN, sv_w, ↓reduceIte, reduceCtorEq, Nat.reduceEqDiff, Nat.reduceAdd, Nat.reduceLeDiff, Nat.reduceLT, Fan.av, cyc_cs, e1, hc57]
                  refine hK _ _ ?_
                  clear hK K
                  refine wpT_block ?_
                  refine wpT_loop ?_
                  refine wpT_keep1 (i := 0) (o := .arr 49 4 [f.av]) (by simp only [↓SP, SX, SW, TY, EN, sv_w, ↓reduceIte, reduceCtorEq, Nat.reduceEqDiff, Nat.reduceAdd, Nat.reduceLeDiff, Nat.reduceLT, Fan.av]) ?_
                  refine wpT_ind (fun (i : Nat) tm' h' => (∃ m, h' = Hp.of [(0, .arr 49 4 [f.av])] (m + 1)) ∧ tm' 1 = .ptr 0 1 0 0 ∧ tm' 83 = .lst (f.app.map I) ∧ tm' 84 = I f.app.length ∧ tm' 85 = I i ∧ i ≤ f.app.length ∧ stE f (f.app.drop i) (f.lost.drop i) = stE f f.app f.lost) (fun i => f.app.length - i) ?_ 0 ⟨⟨m, rfl⟩, by simp only [↓SP, SX, SW, TY, EN, sv_w, ↓reduceIte, reduceCtorEq, Nat.reduceEqDiff, Nat.reduceAdd, Nat.reduceLeDiff, Nat.reduceLT, Fan.av, e1], rfl, rfl, rfl, by omega, rfl⟩
                  clear e1 e4 e54 e55 e56 hi
                  rintro i tm' _ ⟨⟨m, rfl⟩, e1, e83, e84, e85, hi, hy⟩ IH
                  refine wpT_inLoop ?_
                  refine wpT_seq ?_
                  refine wpT_region (by kernel_rfl) (fun K hK => ?_)
                  simp only [↓SP, SX, SW, TY, EN, sv_w, ↓reduceIte, reduceCtorEq, Nat.reduceEqDiff, Nat.reduceAdd, Nat.reduceLeDiff, Nat.reduceLT, Fan.av, cyc_cs, e84, e85]
                  refine hK _ _ ?_
                  clear hK K
                  refine wpT_seq ?_
                  refine wpT_if (by rfl) (fun hc86 => ?_) (fun hc86 => ?_)
                  · skip
                    have p86 := hc86
                    try simp only [decide_eq_true_eq, decide_eq_false_iff_not, beq_iff_eq, bne_iff_ne, beq_eq_false_iff_ne, bne_eq_false_iff_eq, Bool.not_eq_true', Bool.not_eq_false'] at p86
                    have hlt : i < f.app.length := by omega
                    have hlt' : i < f.lost.length := by omega
                    have hg := at_map (f := I) hlt
                    have hg' := at_map (f := B) hlt'
                    rw [List.drop_eq_getElem_cons hlt, List.drop_eq_getElem_cons hlt', stE] at hy
                    refine wpT_skip ?_
                    refine wpT_seq ?_
                    refine wpT_block ?_
                    refine wpT_seq ?_
                    refine wpT_region (by kernel_rfl) (fun K hK => ?_)
                    simp only [↓SP, SX, SW, TY, EN, sv_w, ↓reduceIte, reduceCtorEq, Nat.reduceEqDiff, Nat.reduceAdd, Nat.reduceLeDiff, Nat.reduceLT, Fan.av, cyc_cs, e83, e85, hg, hc86]
                    refine hK _ _ ?_
                    clear hK K
                    refine wpT_seq ?_
                    refine wpT_region (by kernel_rfl) (fun K hK => ?_)
                    simp only [↓SP, SX, SW, TY, EN, sv_w, ↓reduceIte, reduceCtorEq, Nat.reduceEqDiff, Nat.reduceAdd, Nat.reduceLeDiff, Nat.reduceLT, Fan.av, cyc_cs, e1, hg', hc86]
                    refine Pu.call (c76 f hf h11 h0) ?_
                    simp only [↓SP, SX, SW, TY, EN, sv_w, ↓reduceIte, reduceCtorEq, Nat.reduceEqDiff, Nat.reduceAdd, Nat.reduceLeDiff, Nat.reduceLT, Fan.av, cyc_cs, e1, hg', hc86]
                    refine guardO_split (fun hg94 => ?_) (fun hg94 => ?_)
                    · skip
                      have p94 := hg94
                      try simp only [decide_eq_true_eq, decide_eq_false_iff_not, beq_iff_eq, bne_iff_ne, beq_eq_false_iff_ne, bne_eq_false_iff_eq, Bool.not_eq_true', Bool.not_eq_false'] at p94
                      simp only [↓SP, SX, SW, TY, EN, sv_w, ↓reduceIte, reduceCtorEq, Nat.reduceEqDiff, Nat.reduceAdd, Nat.reduceLeDiff, Nat.reduceLT, Fan.av, cyc_cs, e1, hg', hc86, hg94]
                      refine guardO_split (fun hg101 => ?_) (fun hg101 => ?_)
                      · skip
                        have p101 := hg101
                        try simp only [decide_eq_true_eq, decide_eq_false_iff_not, beq_iff_eq, bne_iff_ne, beq_eq_false_iff_ne, bne_eq_false_iff_eq, Bool.not_eq_true', Bool.not_eq_false'] at p101
                        simp only [↓SP, SX, SW, TY, EN, sv_w, ↓reduceIte, reduceCtorEq, Nat.reduceEqDiff, Nat.reduceAdd, Nat.reduceLeDiff, Nat.reduceLT, Fan.av, cyc_cs, e1, hg', hc86, hg94, hg101]
                        refine Pu.call (c98 f _ hf h11 h0) ?_
                        simp only [↓SP, SX, SW, TY, EN, sv_w, ↓reduceIte, reduceCtorEq, Nat.reduceEqDiff, Nat.reduceAdd, Nat.reduceLeDiff, Nat.reduceLT, Fan.av, cyc_cs, e1, hg', hc86, hg94, hg101]
                        refine hK _ _ ?_
                        clear hK K
                        refine wpT_if (by rfl) (fun hc107 => ?_) (fun hc107 => ?_)
                        · skip
                          have p107 := hc107
                          try simp only [decide_eq_true_eq, decide_eq_false_iff_not, beq_iff_eq, bne_iff_ne, beq_eq_false_iff_ne, bne_eq_false_iff_eq, Bool.not_eq_true', Bool.not_eq_false'] at p107
                          rw [if_pos (by simp_all)] at hy
                          have hx : chkF f = 12 := by rw [chkF, if_neg h1, if_neg h2, if_neg h3, if_neg h4, if_neg h5, if_pos (by omega), ← hy]
                          refine wpT_seq ?_
                          refine wpT_region (by kernel_rfl) (fun K hK => ?_)
                          simp only [↓SP, SX, SW, TY, EN, sv_w, ↓reduceIte, reduceCtorEq, Nat.reduceEqDiff, Nat.reduceAdd, Nat.reduceLeDiff, Nat.reduceLT, Fan.av, cyc_cs, hc86, hg94, hg101, hc107]
                          refine hK _ _ ?_
                          clear hK K
                          refine wpT_ret ⟨.inr rfl, ?_⟩
                          show optK (resA _ _ _ [.tmp 2]) _
                          simp only [SR, Option.map_some, Option.bind_some, ↓SP, SX, SW, TY, EN, sv_w, ↓reduceIte, reduceCtorEq, Nat.reduceEqDiff, Nat.reduceAdd, Nat.reduceLeDiff, Nat.reduceLT, Fan.av, cyc_cs, hc86, hg94, hg101, hc107]
                          refine Lend.eq ?_
                          rw [hx]
                        · skip
                          have p107 := hc107
                          try simp only [decide_eq_true_eq, decide_eq_false_iff_not, beq_iff_eq, bne_iff_ne, beq_eq_false_iff_ne, bne_eq_false_iff_eq, Bool.not_eq_true', Bool.not_eq_false'] at p107
                          rw [if_neg (by simp_all)] at hy
                          refine wpT_skip ?_
                          refine wpT_inBlock ?_
                          refine wpT_region (by kernel_rfl) (fun K hK => ?_)
                          simp only [↓SP, SX, SW, TY, EN, sv_w, ↓reduceIte, reduceCtorEq, Nat.reduceEqDiff, Nat.reduceAdd, Nat.reduceLeDiff, Nat.reduceLT, Fan.av, cyc_cs, e85, wrap64 (x := (i : Int) + 1) (by omega) (by omega), hc86, hg94, hg101, hc107]
                          refine hK _ _ ?_
                          clear hK K
                          refine wpT_keep1 (i := 0) (o := .arr 49 4 [f.av]) (by simp only [↓SP, SX, SW, TY, EN, sv_w, ↓reduceIte, reduceCtorEq, Nat.reduceEqDiff, Nat.reduceAdd, Nat.reduceLeDiff, Nat.reduceLT, Fan.av]) ?_
                          refine IH (i + 1) _ _ (by omega) ⟨⟨_, rfl⟩, by simp only [↓SP, SX, SW, TY, EN, sv_w, ↓reduceIte, reduceCtorEq, Nat.reduceEqDiff, Nat.reduceAdd, Nat.reduceLeDiff, Nat.reduceLT, Fan.av, e1], by simp only [↓SP, SX, SW, TY, EN, sv_w, ↓reduceIte, reduceCtorEq, Nat.reduceEqDiff, Nat.reduceAdd, Nat.reduceLeDiff, Nat.reduceLT, Fan.av, e83], by simp only [↓SP, SX, SW, TY, EN, sv_w, ↓reduceIte, reduceCtorEq, Nat.reduceEqDiff, Nat.reduceAdd, Nat.reduceLeDiff, Nat.reduceLT, Fan.av, e84], by simp only [↓SP, SX, SW, TY, EN, sv_w, ↓reduceIte, reduceCtorEq, Nat.reduceEqDiff, Nat.reduceAdd, Nat.reduceLeDiff, Nat.reduceLT, Fan.av, Int.natCast_add, Int.cast_ofNat_Int], by omega, hy⟩
                      · skip
                        simp only [Bool.not_true, Bool.not_false] at hg101
                        have p101 := hg101
                        try simp only [decide_eq_true_eq, decide_eq_false_iff_not, beq_iff_eq, bne_iff_ne, beq_eq_false_iff_ne, bne_eq_false_iff_eq, Bool.not_eq_true', Bool.not_eq_false'] at p101
                        simp only [↓SP, SX, SW, TY, EN, sv_w, ↓reduceIte, reduceCtorEq, Nat.reduceEqDiff, Nat.reduceAdd, Nat.reduceLeDiff, Nat.reduceLT, Fan.av, cyc_cs, e1, hg', hc86, hg94, hg101]
                        refine hK _ _ ?_
                        clear hK K
                        refine wpT_ifF (by simp only [↓SP, SX, SW, TY, EN, sv_w, ↓reduceIte, reduceCtorEq, Nat.reduceEqDiff, Nat.reduceAdd, Nat.reduceLeDiff, Nat.reduceLT, Fan.av, cyc_cs, hc86, hg94, hg101]) ?_
                        rw [if_neg (by simp_all)] at hy
                        refine wpT_skip ?_
                        refine wpT_inBlock ?_
                        refine wpT_region (by kernel_rfl) (fun K hK => ?_)
                        simp only [↓SP, SX, SW, TY, EN, sv_w, ↓reduceIte, reduceCtorEq, Nat.reduceEqDiff, Nat.reduceAdd, Nat.reduceLeDiff, Nat.reduceLT, Fan.av, cyc_cs, e85, wrap64 (x := (i : Int) + 1) (by omega) (by omega), hc86, hg94, hg101]
                        refine hK _ _ ?_
                        clear hK K
                        refine wpT_keep1 (i := 0) (o := .arr 49 4 [f.av]) (by simp only [↓SP, SX, SW, TY, EN, sv_w, ↓reduceIte, reduceCtorEq, Nat.reduceEqDiff, Nat.reduceAdd, Nat.reduceLeDiff, Nat.reduceLT, Fan.av]) ?_
                        refine IH (i + 1) _ _ (by omega) ⟨⟨_, rfl⟩, by simp only [↓SP, SX, SW, TY, EN, sv_w, ↓reduceIte, reduceCtorEq, Nat.reduceEqDiff, Nat.reduceAdd, Nat.reduceLeDiff, Nat.reduceLT, Fan.av, e1], by simp only [↓SP, SX, SW, TY, EN, sv_w, ↓reduceIte, reduceCtorEq, Nat.reduceEqDiff, Nat.reduceAdd, Nat.reduceLeDiff, Nat.reduceLT, Fan.av, e83], by simp only [↓SP, SX, SW, TY, EN, sv_w, ↓reduceIte, reduceCtorEq, Nat.reduceEqDiff, Nat.reduceAdd, Nat.reduceLeDiff, Nat.reduceLT, Fan.av, e84], by simp only [↓SP, SX, SW, TY, EN, sv_w, ↓reduceIte, reduceCtorEq, Nat.reduceEqDiff, Nat.reduceAdd, Nat.reduceLeDiff, Nat.reduceLT, Fan.av, Int.natCast_add, Int.cast_ofNat_Int], by omega, hy⟩
                    · skip
                      simp only [Bool.not_true, Bool.not_false] at hg94
                      have p94 := hg94
                      try simp only [decide_eq_true_eq, decide_eq_false_iff_not, beq_iff_eq, bne_iff_ne, beq_eq_false_iff_ne, bne_eq_false_iff_eq, Bool.not_eq_true', Bool.not_eq_false'] at p94
                      simp only [↓SP, SX, SW, TY, EN, sv_w, ↓reduceIte, reduceCtorEq, Nat.reduceEqDiff, Nat.reduceAdd, Nat.reduceLeDiff, Nat.reduceLT, Fan.av, cyc_cs, e1, hg', hc86, hg94]
                      refine hK _ _ ?_
                      clear hK K
                      refine wpT_ifT (by simp only [↓SP, SX, SW, TY, EN, sv_w, ↓reduceIte, reduceCtorEq, Nat.reduceEqDiff, Nat.reduceAdd, Nat.reduceLeDiff, Nat.reduceLT, Fan.av, cyc_cs, hc86, hg94]) ?_
                      rw [if_pos (by simp_all)] at hy
                      have hx : chkF f = 12 := by rw [chkF, if_neg h1, if_neg h2, if_neg h3, if_neg h4, if_neg h5, if_pos (by omega), ← hy]
                      refine wpT_seq ?_
                      refine wpT_region (by kernel_rfl) (fun K hK => ?_)
                      simp only [↓SP, SX, SW, TY, EN, sv_w, ↓reduceIte, reduceCtorEq, Nat.reduceEqDiff, Nat.reduceAdd, Nat.reduceLeDiff, Nat.reduceLT, Fan.av, cyc_cs, hc86, hg94]
                      refine hK _ _ ?_
                      clear hK K
                      refine wpT_ret ⟨.inr rfl, ?_⟩
                      show optK (resA _ _ _ [.tmp 2]) _
                      simp only [SR, Option.map_some, Option.bind_some, ↓SP, SX, SW, TY, EN, sv_w, ↓reduceIte, reduceCtorEq, Nat.reduceEqDiff, Nat.reduceAdd, Nat.reduceLeDiff, Nat.reduceLT, Fan.av, cyc_cs, hc86, hg94]
                      refine Lend.eq ?_
                      rw [hx]
                  · skip
                    have p86 := hc86
                    try simp only [decide_eq_true_eq, decide_eq_false_iff_not, beq_iff_eq, bne_iff_ne, beq_eq_false_iff_ne, bne_eq_false_iff_eq, Bool.not_eq_true', Bool.not_eq_false'] at p86
                    rw [List.drop_eq_nil_of_le (by omega), List.drop_eq_nil_of_le (by omega), stE.eq_2 _ _ _ (by simp)] at hy
                    have h6 : ¬ stE f f.app f.lost ≠ 0 := by omega
                    have hx7 : chkF f = if firstB (leastL (-1) f.app f.lost) f.kept = true then 12 else 0 := by rw [chkF, if_neg h1, if_neg h2, if_neg h3, if_neg h4, if_neg h5, if_neg h6]
                    clear hy IH
                    refine wpT_exit rfl ?_
                    refine wpT_seq ?_
                    refine wpT_seq ?_
                    refine wpT_drawn [(6, 7), (6, 8), (6, 9), (6, 10), (6, 11)] mixed (by kernel_rfl) (m := 14) rfl (fun K hK => ?_)
                    simp only [↓SP, SX, SW, TY, EN, sv_w, ↓reduceIte, reduceCtorEq, Nat.reduceEqDiff, Nat.reduceAdd, Nat.reduceLeDiff, Nat.reduceLT, Fan.av, cyc_cs, e1, hc86]
                    refine guardD_split (fun hg113 => ?_) (fun hg113 => ?_)
                    · skip
                      have p113 := hg113
                      try simp only [decide_eq_true_eq, decide_eq_false_iff_not, beq_iff_eq, bne_iff_ne, beq_eq_false_iff_ne, bne_eq_false_iff_eq, Bool.not_eq_true', Bool.not_eq_false'] at p113
                      have h00 : 0 < f.kept.length := by omega
                      have hg0 := at_map (f := Cyc.av) h00
                      have hh : firstB (leastL (-1) f.app f.lost) f.kept = decide (leastL (-1) f.app f.lost ≠ f.kept[0].base) := firstB_at h00
                      simp only [↓SP, SX, SW, TY, EN, sv_w, ↓reduceIte, reduceCtorEq, Nat.reduceEqDiff, Nat.reduceAdd, Nat.reduceLeDiff, Nat.reduceLT, Fan.av, cyc_cs, e1, hc86, hg0, hg113]
                      refine Pu.callD (c73 f hf hlen) ?_
                      simp only [↓SP, SX, SW, TY, EN, sv_w, ↓reduceIte, reduceCtorEq, Nat.reduceEqDiff, Nat.reduceAdd, Nat.reduceLeDiff, Nat.reduceLT, Fan.av, cyc_cs, e1, hc86, hg0, hg113]
                      refine hK _ _ ?_
                      clear hK K
                      refine wpT_if (by rfl) (fun hc122 => ?_) (fun hc122 => ?_)
                      · skip
                        have p122 := hc122
                        try simp only [decide_eq_true_eq, decide_eq_false_iff_not, beq_iff_eq, bne_iff_ne, beq_eq_false_iff_ne, bne_eq_false_iff_eq, Bool.not_eq_true', Bool.not_eq_false'] at p122
                        have hx : chkF f = 12 := by rw [hx7, if_pos (by rw [hh]; exact decide_eq_true p122)]
                        refine wpT_seq ?_
                        refine wpT_region (by kernel_rfl) (fun K hK => ?_)
                        simp only [↓SP, SX, SW, TY, EN, sv_w, ↓reduceIte, reduceCtorEq, Nat.reduceEqDiff, Nat.reduceAdd, Nat.reduceLeDiff, Nat.reduceLT, Fan.av, cyc_cs, hc86, hg0, hg113, hc122]
                        refine hK _ _ ?_
                        clear hK K
                        refine wpT_ret ⟨.inr rfl, ?_⟩
                        show optK (resA _ _ _ [.tmp 2]) _
                        simp only [SR, Option.map_some, Option.bind_some, ↓SP, SX, SW, TY, EN, sv_w, ↓reduceIte, reduceCtorEq, Nat.reduceEqDiff, Nat.reduceAdd, Nat.reduceLeDiff, Nat.reduceLT, Fan.av, cyc_cs, hc86, hg0, hg113, hc122]
                        refine Lend.eq ?_
                        rw [hx]
                      · skip
                        have p122 := hc122
                        try simp only [decide_eq_true_eq, decide_eq_false_iff_not, beq_iff_eq, bne_iff_ne, beq_eq_false_iff_ne, bne_eq_false_iff_eq, Bool.not_eq_true', Bool.not_eq_false'] at p122
                        have hx : chkF f = 0 := by rw [hx7, if_neg (by rw [hh]; simp_all)]
                        refine wpT_skip ?_
                        refine wpT_seq ?_
                        refine wpT_region (by kernel_rfl) (fun K hK => ?_)
                        simp only [↓SP, SX, SW, TY, EN, sv_w, ↓reduceIte, reduceCtorEq, Nat.reduceEqDiff, Nat.reduceAdd, Nat.reduceLeDiff, Nat.reduceLT, Fan.av, cyc_cs, hc86, hg0, hg113, hc122]
                        refine hK _ _ ?_
                        clear hK K
                        refine wpT_ret ⟨.inr rfl, ?_⟩
                        show optK (resA _ _ _ [.tmp 2]) _
                        simp only [SR, Option.map_some, Option.bind_some, ↓SP, SX, SW, TY, EN, sv_w, ↓reduceIte, reduceCtorEq, Nat.reduceEqDiff, Nat.reduceAdd, Nat.reduceLeDiff, Nat.reduceLT, Fan.av, cyc_cs, hc86, hg0, hg113, hc122]
                        refine Lend.eq ?_
                        rw [hx]
                    · skip
                      simp only [Bool.not_true, Bool.not_false] at hg113
                      have p113 := hg113
                      try simp only [decide_eq_true_eq, decide_eq_false_iff_not, beq_iff_eq, bne_iff_ne, beq_eq_false_iff_ne, bne_eq_false_iff_eq, Bool.not_eq_true', Bool.not_eq_false'] at p113
                      have hh : firstB (leastL (-1) f.app f.lost) f.kept = false := by
                        have : f.kept = [] := List.eq_nil_of_length_eq_zero (by omega)
                        rw [this]
                        rfl
                      simp only [↓SP, SX, SW, TY, EN, sv_w, ↓reduceIte, reduceCtorEq, Nat.reduceEqDiff, Nat.reduceAdd, Nat.reduceLeDiff, Nat.reduceLT, Fan.av, cyc_cs, e1, hc86, hg113]
                      refine hK _ _ ?_
                      clear hK K
                      refine wpT_ifF (by simp only [↓SP, SX, SW, TY, EN, sv_w, ↓reduceIte, reduceCtorEq, Nat.reduceEqDiff, Nat.reduceAdd, Nat.reduceLeDiff, Nat.reduceLT, Fan.av, cyc_cs, hc86, hg113]) ?_
                      have hx : chkF f = 0 := by rw [hx7, if_neg (by rw [hh]; simp_all)]
                      refine wpT_skip ?_
                      refine wpT_seq ?_
                      refine wpT_region (by kernel_rfl) (fun K hK => ?_)
                      simp only [↓SP, SX, SW, TY, EN, sv_w, ↓reduceIte, reduceCtorEq, Nat.reduceEqDiff, Nat.reduceAdd, Nat.reduceLeDiff, Nat.reduceLT, Fan.av, cyc_cs, hc86, hg113]
                      refine hK _ _ ?_
                      clear hK K
                      refine wpT_ret ⟨.inr rfl, ?_⟩
                      show optK (resA _ _ _ [.tmp 2]) _
                      simp only [SR, Option.map_some, Option.bind_some, ↓SP, SX, SW, TY, EN, sv_w, ↓reduceIte, reduceCtorEq, Nat.reduceEqDiff, Nat.reduceAdd, Nat.reduceLeDiff, Nat.reduceLT, Fan.av, cyc_cs, hc86, hg113]
                      refine Lend.eq ?_
                      rw [hx]
          · skip
            simp only [Bool.not_true, Bool.not_false] at hg39
            have p39 := hg39
            try simp only [decide_eq_true_eq, decide_eq_false_iff_not, beq_iff_eq, bne_iff_ne, beq_eq_false_iff_ne, bne_eq_false_iff_eq, Bool.not_eq_true', Bool.not_eq_false'] at p39
            simp only [↓SP, SX, SW, TY, EN, sv_w, ↓reduceIte, reduceCtorEq, Nat.reduceEqDiff, Nat.reduceAdd, Nat.reduceLeDiff, Nat.reduceLT, Fan.av, cyc_cs, hg15, hg21, hc10, hg34, hg39]
            refine hK _ _ ?_
            clear hK K
            refine wpT_ifT (by simp only [↓SP, SX, SW, TY, EN, sv_w, ↓reduceIte, reduceCtorEq, Nat.reduceEqDiff, Nat.reduceAdd, Nat.reduceLeDiff, Nat.reduceLT, Fan.av, cyc_cs, hg15, hg21, hc10, hg34, hg39]) ?_
            have hx : chkF f = 2 := by
              rw [chkF, if_neg h1, posR_any]
              by_cases h2 : f.limit < 1 ∨ f.limit > 1024
              · rw [if_pos h2]
              · have hc : (f.app.any fun n => decide (n < 0 ∨ n > 1073741824)) = true := by
                  first
                    | (exfalso; omega)
                    | assumption
                rw [if_neg h2, hc]
                rfl
            refine wpT_seq ?_
            refine wpT_region (by kernel_rfl) (fun K hK => ?_)
            simp only [↓SP, SX, SW, TY, EN, sv_w, ↓reduceIte, reduceCtorEq, Nat.reduceEqDiff, Nat.reduceAdd, Nat.reduceLeDiff, Nat.reduceLT, Fan.av, cyc_cs, hg15, hg21, hc10, hg34, hg39]
            refine hK _ _ ?_
            clear hK K
            refine wpT_ret ⟨.inr rfl, ?_⟩
            show optK (resA _ _ _ [.tmp 2]) _
            simp only [SR, Option.map_some, Option.bind_some, ↓SP, SX, SW, TY, EN, sv_w, ↓reduceIte, reduceCtorEq, Nat.reduceEqDiff, Nat.reduceAdd, Nat.reduceLeDiff, Nat.reduceLT, Fan.av, cyc_cs, hg15, hg21, hc10, hg34, hg39]
            refine Lend.eq ?_
            rw [hx]
        · skip
          simp only [Bool.not_true, Bool.not_false] at hg34
          have p34 := hg34
          try simp only [decide_eq_true_eq, decide_eq_false_iff_not, beq_iff_eq, bne_iff_ne, beq_eq_false_iff_ne, bne_eq_false_iff_eq, Bool.not_eq_true', Bool.not_eq_false'] at p34
          simp only [↓SP, SX, SW, TY, EN, sv_w, ↓reduceIte, reduceCtorEq, Nat.reduceEqDiff, Nat.reduceAdd, Nat.reduceLeDiff, Nat.reduceLT, Fan.av, cyc_cs, hg15, hg21, hc10, hg34]
          refine hK _ _ ?_
          clear hK K
          refine wpT_ifT (by simp only [↓SP, SX, SW, TY, EN, sv_w, ↓reduceIte, reduceCtorEq, Nat.reduceEqDiff, Nat.reduceAdd, Nat.reduceLeDiff, Nat.reduceLT, Fan.av, cyc_cs, hg15, hg21, hc10, hg34]) ?_
          have hx : chkF f = 2 := by
            rw [chkF, if_neg h1, posR_any]
            by_cases h2 : f.limit < 1 ∨ f.limit > 1024
            · rw [if_pos h2]
            · have hc : (f.app.any fun n => decide (n < 0 ∨ n > 1073741824)) = true := by
                first
                  | (exfalso; omega)
                  | assumption
              rw [if_neg h2, hc]
              rfl
          refine wpT_seq ?_
          refine wpT_region (by kernel_rfl) (fun K hK => ?_)
          simp only [↓SP, SX, SW, TY, EN, sv_w, ↓reduceIte, reduceCtorEq, Nat.reduceEqDiff, Nat.reduceAdd, Nat.reduceLeDiff, Nat.reduceLT, Fan.av, cyc_cs, hg15, hg21, hc10, hg34]
          refine hK _ _ ?_
          clear hK K
          refine wpT_ret ⟨.inr rfl, ?_⟩
          show optK (resA _ _ _ [.tmp 2]) _
          simp only [SR, Option.map_some, Option.bind_some, ↓SP, SX, SW, TY, EN, sv_w, ↓reduceIte, reduceCtorEq, Nat.reduceEqDiff, Nat.reduceAdd, Nat.reduceLeDiff, Nat.reduceLT, Fan.av, cyc_cs, hg15, hg21, hc10, hg34]
          refine Lend.eq ?_
          rw [hx]
    · skip
      simp only [Bool.not_true, Bool.not_false] at hg21
      have p21 := hg21
      try simp only [decide_eq_true_eq, decide_eq_false_iff_not, beq_iff_eq, bne_iff_ne, beq_eq_false_iff_ne, bne_eq_false_iff_eq, Bool.not_eq_true', Bool.not_eq_false'] at p21
      simp only [↓SP, SX, SW, TY, EN, sv_w, ↓reduceIte, reduceCtorEq, Nat.reduceEqDiff, Nat.reduceAdd, Nat.reduceLeDiff, Nat.reduceLT, Fan.av, cyc_cs, hg15, hg21]
      refine hK _ _ ?_
      clear hK K
      refine wpT_ifT (by simp only [↓SP, SX, SW, TY, EN, sv_w, ↓reduceIte, reduceCtorEq, Nat.reduceEqDiff, Nat.reduceAdd, Nat.reduceLeDiff, Nat.reduceLT, Fan.av, cyc_cs, hg15, hg21]) ?_
      have hx : chkF f = 6 := if_pos (by omega)
      refine wpT_seq ?_
      refine wpT_region (by kernel_rfl) (fun K hK => ?_)
      simp only [↓SP, SX, SW, TY, EN, sv_w, ↓reduceIte, reduceCtorEq, Nat.reduceEqDiff, Nat.reduceAdd, Nat.reduceLeDiff, Nat.reduceLT, Fan.av, cyc_cs, hg15, hg21]
      refine hK _ _ ?_
      clear hK K
      refine wpT_ret ⟨.inr rfl, ?_⟩
      show optK (resA _ _ _ [.tmp 2]) _
      simp only [SR, Option.map_some, Option.bind_some, ↓SP, SX, SW, TY, EN, sv_w, ↓reduceIte, reduceCtorEq, Nat.reduceEqDiff, Nat.reduceAdd, Nat.reduceLeDiff, Nat.reduceLT, Fan.av, cyc_cs, hg15, hg21]
      refine Lend.eq ?_
      rw [hx]
  · skip
    simp only [Bool.not_true, Bool.not_false] at hg15
    have p15 := hg15
    try simp only [decide_eq_true_eq, decide_eq_false_iff_not, beq_iff_eq, bne_iff_ne, beq_eq_false_iff_ne, bne_eq_false_iff_eq, Bool.not_eq_true', Bool.not_eq_false'] at p15
    simp only [↓SP, SX, SW, TY, EN, sv_w, ↓reduceIte, reduceCtorEq, Nat.reduceEqDiff, Nat.reduceAdd, Nat.reduceLeDiff, Nat.reduceLT, Fan.av, cyc_cs, hg15]
    refine hK _ _ ?_
    clear hK K
    refine wpT_ifT (by simp only [↓SP, SX, SW, TY, EN, sv_w, ↓reduceIte, reduceCtorEq, Nat.reduceEqDiff, Nat.reduceAdd, Nat.reduceLeDiff, Nat.reduceLT, Fan.av, cyc_cs, hg15]) ?_
    have hx : chkF f = 6 := if_pos (by omega)
    refine wpT_seq ?_
    refine wpT_region (by kernel_rfl) (fun K hK => ?_)
    simp only [↓SP, SX, SW, TY, EN, sv_w, ↓reduceIte, reduceCtorEq, Nat.reduceEqDiff, Nat.reduceAdd, Nat.reduceLeDiff, Nat.reduceLT, Fan.av, cyc_cs, hg15]
    refine hK _ _ ?_
    clear hK K
    refine wpT_ret ⟨.inr rfl, ?_⟩
    show optK (resA _ _ _ [.tmp 2]) _
    simp only [SR, Option.map_some, Option.bind_some, ↓SP, SX, SW, TY, EN, sv_w, ↓reduceIte, reduceCtorEq, Nat.reduceEqDiff, Nat.reduceAdd, Nat.reduceLeDiff, Nat.reduceLT, Fan.av, cyc_cs, hg15]
    refine Lend.eq ?_
    rw [hx]
theorem c39 (f : Fan) (hf : f.ok) : Pu Tryz.prog (.fn (.func 39) [] []) [f.av] (I (oldR f)) := by
  refine pu_func Tryz.func39 rfl (by kernel_rfl) (by show _ ≤ 8; simp only [List.length_append, List.length_cons, List.length_nil]; decide) (by simp only [IDF]) (by simp only [IDF, and_tt, implies_true]) (by simp only [IDF, fan_idf, and_tt, implies_true]) ?_
  rw [Tryz.ntmps39]
  refine wpT_seq ?_
  refine wpT_region (by kernel_rfl) (fun K hK => ?_)
  simp only [↓SP, SX, SW, TY, EN, sv_w, ↓reduceIte, reduceCtorEq, Nat.reduceEqDiff, Nat.reduceAdd, Nat.reduceLeDiff, Nat.reduceLT, Fan.av]
  refine hK _ _ ?_
  clear hK K
  refine wpT_seq ?_
  refine wpT_seq ?_
  refine wpT_region (by kernel_rfl) (fun K hK => ?_)
  simp only [↓SP, SX, SW, TY, EN, sv_w, ↓reduceIte, reduceCtorEq, Nat.reduceEqDiff, Nat.reduceAdd, Nat.reduceLeDiff, Nat.reduceLT, Fan.av]
  refine Pu.call (c40 f hf) ?_
  simp only [↓SP, SX, SW, TY, EN, sv_w, ↓reduceIte, reduceCtorEq, Nat.reduceEqDiff, Nat.reduceAdd, Nat.reduceLeDiff, Nat.reduceLT, Fan.av]
  refine hK _ _ ?_
  clear hK K
  refine wpT_if (by rfl) (fun hc5 => ?_) (fun hc5 => ?_)
  · skip
    have p5 := hc5
    try simp only [decide_eq_true_eq, decide_eq_false_iff_not, beq_iff_eq, bne_iff_ne, beq_eq_false_iff_ne, bne_eq_false_iff_eq, Bool.not_eq_true', Bool.not_eq_false'] at p5
    have hx : oldR f = -1 := if_pos p5
    refine wpT_seq ?_
    refine wpT_region (by kernel_rfl) (fun K hK => ?_)
    simp only [↓SP, SX, SW, TY, EN, sv_w, ↓reduceIte, reduceCtorEq, Nat.reduceEqDiff, Nat.reduceAdd, Nat.reduceLeDiff, Nat.reduceLT, Fan.av, hc5]
    refine hK _ _ ?_
    clear hK K
    refine wpT_ret ⟨.inr rfl, ?_⟩
    show optK (resA _ _ _ [.tmp 2]) _
    simp only [SR, Option.map_some, Option.bind_some, ↓SP, SX, SW, TY, EN, sv_w, ↓reduceIte, reduceCtorEq, Nat.reduceEqDiff, Nat.reduceAdd, Nat.reduceLeDiff, Nat.reduceLT, Fan.av, hc5]
    refine Lend.eq ?_
    rw [hx]
  · skip
    have p5 := hc5
    try simp only [decide_eq_true_eq, decide_eq_false_iff_not, beq_iff_eq, bne_iff_ne, beq_eq_false_iff_ne, bne_eq_false_iff_eq, Bool.not_eq_true', Bool.not_eq_false'] at p5
    have hx : oldR f = leastL (-1) f.app f.lost := if_neg (by omega)
    refine wpT_skip ?_
    refine wpT_seq ?_
    refine wpT_region (by kernel_rfl) (fun K hK => ?_)
    simp only [↓SP, SX, SW, TY, EN, sv_w, ↓reduceIte, reduceCtorEq, Nat.reduceEqDiff, Nat.reduceAdd, Nat.reduceLeDiff, Nat.reduceLT, Fan.av, hc5]
    refine Pu.call (c73 f hf (chkF_len p5)) ?_
    simp only [↓SP, SX, SW, TY, EN, sv_w, ↓reduceIte, reduceCtorEq, Nat.reduceEqDiff, Nat.reduceAdd, Nat.reduceLeDiff, Nat.reduceLT, Fan.av, hc5]
    refine hK _ _ ?_
    clear hK K
    refine wpT_ret ⟨.inr rfl, ?_⟩
    show optK (resA _ _ _ [.tmp 2]) _
    simp only [SR, Option.map_some, Option.bind_some, ↓SP, SX, SW, TY, EN, sv_w, ↓reduceIte, reduceCtorEq, Nat.reduceEqDiff, Nat.reduceAdd, Nat.reduceLeDiff, Nat.reduceLT, Fan.av, hc5]
    refine Lend.eq ?_
    rw [hx]
end Go.Proofs.YtlmjpgmaefokdaaGreat
end

section
set_option linter.unusedSimpArgs false
set_option linter.unusedVariables false
namespace Go.Proofs.YtlmjpgmaefokdaaGreat
open Go.Proofs
set_option maxRecDepth 10000
theorem cloneIn : Pu Tryz.prog (.fn (.func 133) [] []) [.lst []] (.lst []) := by
  refine pu_func Tryz.func133 rfl (by kernel_rfl) (by show _ ≤ 8; simp only [List.length_append, List.length_cons, List.length_nil]; decide) (by simp only [IDF, and_tt, implies_true]) (by simp only [IDF, and_tt, implies_true]) (by simp only [IDF, and_tt, implies_true]) ?_
  rw [Tryz.ntmps133]
  refine wpT_seq ?_
  refine wpT_region (by kernel_rfl) (fun K hK => ?_)
  simp only [↓SP, SX, SW, TY, EN, sv_w, ↓reduceIte, reduceCtorEq, Nat.reduceEqDiff, Nat.reduceAdd, Nat.reduceLeDiff, Nat.reduceLT]
  refine hK _ _ ?_
  clear hK K
  refine wpT_seq ?_
  refine wpT_seq ?_
  refine wpT_isnil (xs := []) rfl sle23 (by decide) (fun b hb => ?_)
  refine wpT_if (by rfl) (fun hc4 => ?_) (fun hc4 => ?_)
  · skip
    have p4 := hc4
    try simp only [decide_eq_true_eq, decide_eq_false_iff_not, beq_iff_eq, bne_iff_ne, beq_eq_false_iff_ne, bne_eq_false_iff_eq, Bool.not_eq_true', Bool.not_eq_false'] at p4
    refine wpT_seq ?_
    refine wpT_region (by kernel_rfl) (fun K hK => ?_)
    simp only [↓SP, SX, SW, TY, EN, sv_w, ↓reduceIte, reduceCtorEq, Nat.reduceEqDiff, Nat.reduceAdd, Nat.reduceLeDiff, Nat.reduceLT, hc4]
    refine hK _ _ ?_
    clear hK K
    refine wpT_ret ⟨.inr rfl, ?_⟩
    show optK (resA _ _ _ [.tmp 2]) _
    simp only [SR, Option.map_some, Option.bind_some, ↓SP, SX, SW, TY, EN, sv_w, ↓reduceIte, reduceCtorEq, Nat.reduceEqDiff, Nat.reduceAdd, Nat.reduceLeDiff, Nat.reduceLT, hc4]
    exact .nil0
  · skip
    have p4 := hc4
    try simp only [decide_eq_true_eq, decide_eq_false_iff_not, beq_iff_eq, bne_iff_ne, beq_eq_false_iff_ne, bne_eq_false_iff_eq, Bool.not_eq_true', Bool.not_eq_false'] at p4
    refine wpT_skip ?_
    refine wpT_seq ?_
    refine wpT_region (by kernel_rfl) (fun K hK => ?_)
    simp only [↓SP, SX, SW, TY, EN, sv_w, ↓reduceIte, reduceCtorEq, Nat.reduceEqDiff, Nat.reduceAdd, Nat.reduceLeDiff, Nat.reduceLT, hc4]
    refine hK _ _ ?_
    clear hK K
    refine wpT_ret ⟨.inr rfl, ?_⟩
    show optK (resA _ _ _ [.tmp 2]) _
    simp only [SR, Option.map_some, Option.bind_some, ↓SP, SX, SW, TY, EN, sv_w, ↓reduceIte, reduceCtorEq, Nat.reduceEqDiff, Nat.reduceAdd, Nat.reduceLeDiff, Nat.reduceLT, hc4]
    exact .nil0
theorem cloneIc (y : Int) (ys : List Int) (hl : (y :: ys).length < 4000000000) : Pu Tryz.prog (.fn (.func 133) [] []) [.lst ((y :: ys).map I)] (.lst ((y :: ys).map I)) := by
  refine pu_func Tryz.func133 rfl (by kernel_rfl) (by show _ ≤ 8; simp only [List.length_append, List.length_cons, List.length_nil]; decide) (by simp only [IDF, implies_true, implies_true]) (by simp only [IDF, and_tt, implies_true]) (by simp only [IDF, implies_true, and_tt, implies_true]) ?_
  have q0 : ∀ v ∈ (I y :: ys.map I), v.cells.length = 1 := by
    intro v hv
    rcases List.mem_cons.1 hv with rfl | hv
    · rfl
    · obtain ⟨a, _, rfl⟩ := List.mem_map.1 hv
      rfl
  have q3 : ∀ e ∈ (y :: ys).map I, e.okc = true := fun e he => by
    obtain ⟨a, _, rfl⟩ := List.mem_map.1 he
    rfl
  have q1 : ys.length + 1 ≤ maxLen := by simp only [maxLen]; simp only [List.length_cons] at hl; omega
  have q2 : (ys.length + 1) * 8 ≤ 140737488355328 := by simp only [List.length_cons] at hl; omega
  rw [Tryz.ntmps133]
  refine wpT_seq ?_
  refine wpT_region (by kernel_rfl) (fun K hK => ?_)
  simp only [↓SP, SX, SW, TY, EN, sv_w, ↓reduceIte, reduceCtorEq, Nat.reduceEqDiff, Nat.reduceAdd, Nat.reduceLeDiff, Nat.reduceLT]
  refine hK _ _ ?_
  clear hK K
  refine wpT_seq ?_
  refine wpT_seq ?_
  refine wpT_isnil (xs := (y :: ys).map I) rfl sle23 (by decide) (fun b hb => ?_)
  obtain rfl := hb (by simp)
  refine wpT_if (by rfl) (fun hc4 => ?_) (fun hc4 => ?_)
  · skip
    have p4 := hc4
    try simp only [decide_eq_true_eq, decide_eq_false_iff_not, beq_iff_eq, bne_iff_ne, beq_eq_false_iff_ne, bne_eq_false_iff_eq, Bool.not_eq_true', Bool.not_eq_false'] at p4
    simp at p4
  · skip
    have p4 := hc4
    try simp only [decide_eq_true_eq, decide_eq_false_iff_not, beq_iff_eq, bne_iff_ne, beq_eq_false_iff_ne, bne_eq_false_iff_eq, Bool.not_eq_true', Bool.not_eq_false'] at p4
    refine wpT_skip ?_
    refine wpT_seq ?_
    refine wpT_region (by kernel_rfl) (fun K hK => ?_)
    simp only [↓SP, SX, SW, TY, EN, sv_w, ↓reduceIte, reduceCtorEq, Nat.reduceEqDiff, Nat.reduceAdd, Nat.reduceLeDiff, Nat.reduceLT, apO_nil0 q0, q1, q2, cells_int, hc4]
    refine hK _ _ ?_
    clear hK K
    refine wpT_ret ⟨.inr rfl, ?_⟩
    show optK (resA _ _ _ [.tmp 2]) _
    simp only [SR, Option.map_some, Option.bind_some, ↓SP, SX, SW, TY, EN, sv_w, ↓reduceIte, reduceCtorEq, Nat.reduceEqDiff, Nat.reduceAdd, Nat.reduceLeDiff, Nat.reduceLT, hc4]
    exact Lend.sl0 (id := 0) (E := 3) (s := 1) (n := ys.length + 1) (by rfl) (by simp) q3
theorem cloneI (xs : List Int) (hl : xs.length < 4000000000) : Pu Tryz.prog (.fn (.func 133) [] []) [.lst (xs.map I)] (.lst (xs.map I)) := by
  cases xs with
  | nil => exact cloneIn
  | cons y ys => exact cloneIc y ys hl
theorem cloneBn : Pu Tryz.prog (.fn (.func 143) [] []) [.lst []] (.lst []) := by
  refine pu_func Tryz.func143 rfl (by kernel_rfl) (by show _ ≤ 8; simp only [List.length_append, List.length_cons, List.length_nil]; decide) (by simp only [IDF, and_tt, implies_true]) (by simp only [IDF, and_tt, implies_true]) (by simp only [IDF, and_tt, implies_true]) ?_
  rw [Tryz.ntmps143]
  refine wpT_seq ?_
  refine wpT_region (by kernel_rfl) (fun K hK => ?_)
  simp only [↓SP, SX, SW, TY, EN, sv_w, ↓reduceIte, reduceCtorEq, Nat.reduceEqDiff, Nat.reduceAdd, Nat.reduceLeDiff, Nat.reduceLT]
  refine hK _ _ ?_
  clear hK K
  refine wpT_seq ?_
  refine wpT_seq ?_
  refine wpT_isnil (xs := []) rfl sle47 (by decide) (fun b hb => ?_)
  refine wpT_if (by rfl) (fun hc4 => ?_) (fun hc4 => ?_)
  · skip
    have p4 := hc4
    try simp only [decide_eq_true_eq, decide_eq_false_iff_not, beq_iff_eq, bne_iff_ne, beq_eq_false_iff_ne, bne_eq_false_iff_eq, Bool.not_eq_true', Bool.not_eq_false'] at p4
    refine wpT_seq ?_
    refine wpT_region (by kernel_rfl) (fun K hK => ?_)
    simp only [↓SP, SX, SW, TY, EN, sv_w, ↓reduceIte, reduceCtorEq, Nat.reduceEqDiff, Nat.reduceAdd, Nat.reduceLeDiff, Nat.reduceLT, hc4]
    refine hK _ _ ?_
    clear hK K
    refine wpT_ret ⟨.inr rfl, ?_⟩
    show optK (resA _ _ _ [.tmp 2]) _
    simp only [SR, Option.map_some, Option.bind_some, ↓SP, SX, SW, TY, EN, sv_w, ↓reduceIte, reduceCtorEq, Nat.reduceEqDiff, Nat.reduceAdd, Nat.reduceLeDiff, Nat.reduceLT, hc4]
    exact .nil0
  · skip
    have p4 := hc4
    try simp only [decide_eq_true_eq, decide_eq_false_iff_not, beq_iff_eq, bne_iff_ne, beq_eq_false_iff_ne, bne_eq_false_iff_eq, Bool.not_eq_true', Bool.not_eq_false'] at p4
    refine wpT_skip ?_
    refine wpT_seq ?_
    refine wpT_region (by kernel_rfl) (fun K hK => ?_)
    simp only [↓SP, SX, SW, TY, EN, sv_w, ↓reduceIte, reduceCtorEq, Nat.reduceEqDiff, Nat.reduceAdd, Nat.reduceLeDiff, Nat.reduceLT, hc4]
    refine hK _ _ ?_
    clear hK K
    refine wpT_ret ⟨.inr rfl, ?_⟩
    show optK (resA _ _ _ [.tmp 2]) _
    simp only [SR, Option.map_some, Option.bind_some, ↓SP, SX, SW, TY, EN, sv_w, ↓reduceIte, reduceCtorEq, Nat.reduceEqDiff, Nat.reduceAdd, Nat.reduceLeDiff, Nat.reduceLT, hc4]
    exact .nil0
theorem cloneBc (y : Bool) (ys : List Bool) (hl : (y :: ys).length < 4000000000) : Pu Tryz.prog (.fn (.func 143) [] []) [.lst ((y :: ys).map B)] (.lst ((y :: ys).map B)) := by
  refine pu_func Tryz.func143 rfl (by kernel_rfl) (by show _ ≤ 8; simp only [List.length_append, List.length_cons, List.length_nil]; decide) (by simp only [IDF, implies_true, implies_true]) (by simp only [IDF, and_tt, implies_true]) (by simp only [IDF, implies_true, and_tt, implies_true]) ?_
  have q0 : ∀ v ∈ (B y :: ys.map B), v.cells.length = 1 := by
    intro v hv
    rcases List.mem_cons.1 hv with rfl | hv
    · rfl
    · obtain ⟨a, _, rfl⟩ := List.mem_map.1 hv
      rfl
  have q3 : ∀ e ∈ (y :: ys).map B, e.okc = true := fun e he => by
    obtain ⟨a, _, rfl⟩ := List.mem_map.1 he
    rfl
  have q1 : ys.length + 1 ≤ maxLen := by simp only [maxLen]; simp only [List.length_cons] at hl; omega
  have q2 : (ys.length + 1) * 1 ≤ 140737488355328 := by simp only [List.length_cons] at hl; omega
  rw [Tryz.ntmps143]
  refine wpT_seq ?_
  refine wpT_region (by kernel_rfl) (fun K hK => ?_)
  simp only [↓SP, SX, SW, TY, EN, sv_w, ↓reduceIte, reduceCtorEq, Nat.reduceEqDiff, Nat.reduceAdd, Nat.reduceLeDiff, Nat.reduceLT]
  refine hK _ _ ?_
  clear hK K
  refine wpT_seq ?_
  refine wpT_seq ?_
  refine wpT_isnil (xs := (y :: ys).map B) rfl sle47 (by decide) (fun b hb => ?_)
  obtain rfl := hb (by simp)
  refine wpT_if (by rfl) (fun hc4 => ?_) (fun hc4 => ?_)
  · skip
    have p4 := hc4
    try simp only [decide_eq_true_eq, decide_eq_false_iff_not, beq_iff_eq, bne_iff_ne, beq_eq_false_iff_ne, bne_eq_false_iff_eq, Bool.not_eq_true', Bool.not_eq_false'] at p4
    simp at p4
  · skip
    have p4 := hc4
    try simp only [decide_eq_true_eq, decide_eq_false_iff_not, beq_iff_eq, bne_iff_ne, beq_eq_false_iff_ne, bne_eq_false_iff_eq, Bool.not_eq_true', Bool.not_eq_false'] at p4
    refine wpT_skip ?_
    refine wpT_seq ?_
    refine wpT_region (by kernel_rfl) (fun K hK => ?_)
    simp only [↓SP, SX, SW, TY, EN, sv_w, ↓reduceIte, reduceCtorEq, Nat.reduceEqDiff, Nat.reduceAdd, Nat.reduceLeDiff, Nat.reduceLT, apO_nil0 q0, q1, q2, cells_bool, hc4]
    refine hK _ _ ?_
    clear hK K
    refine wpT_ret ⟨.inr rfl, ?_⟩
    show optK (resA _ _ _ [.tmp 2]) _
    simp only [SR, Option.map_some, Option.bind_some, ↓SP, SX, SW, TY, EN, sv_w, ↓reduceIte, reduceCtorEq, Nat.reduceEqDiff, Nat.reduceAdd, Nat.reduceLeDiff, Nat.reduceLT, hc4]
    exact Lend.sl0 (id := 0) (E := 4) (s := 1) (n := ys.length + 1) (by rfl) (by simp) q3
theorem cloneB (xs : List Bool) (hl : xs.length < 4000000000) : Pu Tryz.prog (.fn (.func 143) [] []) [.lst (xs.map B)] (.lst (xs.map B)) := by
  cases xs with
  | nil => exact cloneBn
  | cons y ys => exact cloneBc y ys hl
theorem cloneSn : Pu Tryz.prog (.fn (.func 144) [] []) [.lst []] (.lst []) := by
  refine pu_func Tryz.func144 rfl (by kernel_rfl) (by show _ ≤ 8; simp only [List.length_append, List.length_cons, List.length_nil]; decide) (by simp only [IDF, and_tt, implies_true]) (by simp only [IDF, and_tt, implies_true]) (by simp only [IDF, and_tt, implies_true]) ?_
  rw [Tryz.ntmps144]
  refine wpT_seq ?_
  refine wpT_region (by kernel_rfl) (fun K hK => ?_)
  simp only [↓SP, SX, SW, TY, EN, sv_w, ↓reduceIte, reduceCtorEq, Nat.reduceEqDiff, Nat.reduceAdd, Nat.reduceLeDiff, Nat.reduceLT]
  refine hK _ _ ?_
  clear hK K
  refine wpT_seq ?_
  refine wpT_seq ?_
  refine wpT_isnil (xs := []) rfl sle138 (by decide) (fun b hb => ?_)
  refine wpT_if (by rfl) (fun hc4 => ?_) (fun hc4 => ?_)
  · skip
    have p4 := hc4
    try simp only [decide_eq_true_eq, decide_eq_false_iff_not, beq_iff_eq, bne_iff_ne, beq_eq_false_iff_ne, bne_eq_false_iff_eq, Bool.not_eq_true', Bool.not_eq_false'] at p4
    refine wpT_seq ?_
    refine wpT_region (by kernel_rfl) (fun K hK => ?_)
    simp only [↓SP, SX, SW, TY, EN, sv_w, ↓reduceIte, reduceCtorEq, Nat.reduceEqDiff, Nat.reduceAdd, Nat.reduceLeDiff, Nat.reduceLT, hc4]
    refine hK _ _ ?_
    clear hK K
    refine wpT_ret ⟨.inr rfl, ?_⟩
    show optK (resA _ _ _ [.tmp 2]) _
    simp only [SR, Option.map_some, Option.bind_some, ↓SP, SX, SW, TY, EN, sv_w, ↓reduceIte, reduceCtorEq, Nat.reduceEqDiff, Nat.reduceAdd, Nat.reduceLeDiff, Nat.reduceLT, hc4]
    exact .nil0
  · skip
    have p4 := hc4
    try simp only [decide_eq_true_eq, decide_eq_false_iff_not, beq_iff_eq, bne_iff_ne, beq_eq_false_iff_ne, bne_eq_false_iff_eq, Bool.not_eq_true', Bool.not_eq_false'] at p4
    refine wpT_skip ?_
    refine wpT_seq ?_
    refine wpT_region (by kernel_rfl) (fun K hK => ?_)
    simp only [↓SP, SX, SW, TY, EN, sv_w, ↓reduceIte, reduceCtorEq, Nat.reduceEqDiff, Nat.reduceAdd, Nat.reduceLeDiff, Nat.reduceLT, hc4]
    refine hK _ _ ?_
    clear hK K
    refine wpT_ret ⟨.inr rfl, ?_⟩
    show optK (resA _ _ _ [.tmp 2]) _
    simp only [SR, Option.map_some, Option.bind_some, ↓SP, SX, SW, TY, EN, sv_w, ↓reduceIte, reduceCtorEq, Nat.reduceEqDiff, Nat.reduceAdd, Nat.reduceLeDiff, Nat.reduceLT, hc4]
    exact .nil0
theorem cloneSc (y : Sec) (ys : List Sec) (hl : (y :: ys).length < 4000000000) : Pu Tryz.prog (.fn (.func 144) [] []) [.lst ((y :: ys).map Sec.av)] (.lst ((y :: ys).map Sec.av)) := by
  refine pu_func Tryz.func144 rfl (by kernel_rfl) (by show _ ≤ 8; simp only [List.length_append, List.length_cons, List.length_nil]; decide) (by simp only [IDF, sec_idf', implies_true]) (by simp only [IDF, and_tt, implies_true]) (by simp only [IDF, sec_idf', and_tt, implies_true]) ?_
  have q0 : ∀ v ∈ (Sec.av y :: ys.map Sec.av), v.cells.length = 8 := by
    intro v hv
    rcases List.mem_cons.1 hv with rfl | hv
    · rfl
    · obtain ⟨a, _, rfl⟩ := List.mem_map.1 hv
      rfl
  have q3 : ∀ e ∈ (y :: ys).map Sec.av, e.okc = true := fun e he => by
    obtain ⟨a, _, rfl⟩ := List.mem_map.1 he
    rfl
  have q1 : ys.length + 1 ≤ maxLen := by simp only [maxLen]; simp only [List.length_cons] at hl; omega
  have q2 : (ys.length + 1) * 8 ≤ 140737488355328 := by simp only [List.length_cons] at hl; omega
  rw [Tryz.ntmps144]
  refine wpT_seq ?_
  refine wpT_region (by kernel_rfl) (fun K hK => ?_)
  simp only [↓SP, SX, SW, TY, EN, sv_w, ↓reduceIte, reduceCtorEq, Nat.reduceEqDiff, Nat.reduceAdd, Nat.reduceLeDiff, Nat.reduceLT]
  refine hK _ _ ?_
  clear hK K
  refine wpT_seq ?_
  refine wpT_seq ?_
  refine wpT_isnil (xs := (y :: ys).map Sec.av) rfl sle138 (by decide) (fun b hb => ?_)
  obtain rfl := hb (by simp)
  refine wpT_if (by rfl) (fun hc4 => ?_) (fun hc4 => ?_)
  · skip
    have p4 := hc4
    try simp only [decide_eq_true_eq, decide_eq_false_iff_not, beq_iff_eq, bne_iff_ne, beq_eq_false_iff_ne, bne_eq_false_iff_eq, Bool.not_eq_true', Bool.not_eq_false'] at p4
    simp at p4
  · skip
    have p4 := hc4
    try simp only [decide_eq_true_eq, decide_eq_false_iff_not, beq_iff_eq, bne_iff_ne, beq_eq_false_iff_ne, bne_eq_false_iff_eq, Bool.not_eq_true', Bool.not_eq_false'] at p4
    refine wpT_skip ?_
    refine wpT_seq ?_
    refine wpT_region (by kernel_rfl) (fun K hK => ?_)
    simp only [↓SP, SX, SW, TY, EN, sv_w, ↓reduceIte, reduceCtorEq, Nat.reduceEqDiff, Nat.reduceAdd, Nat.reduceLeDiff, Nat.reduceLT, apO_nil0 q0, q1, q2, sec_cells, hc4]
    refine hK _ _ ?_
    clear hK K
    refine wpT_ret ⟨.inr rfl, ?_⟩
    show optK (resA _ _ _ [.tmp 2]) _
    simp only [SR, Option.map_some, Option.bind_some, ↓SP, SX, SW, TY, EN, sv_w, ↓reduceIte, reduceCtorEq, Nat.reduceEqDiff, Nat.reduceAdd, Nat.reduceLeDiff, Nat.reduceLT, hc4]
    exact Lend.sl0 (id := 0) (E := 137) (s := 8) (n := ys.length + 1) (by rfl) (by simp) q3
theorem cloneS (xs : List Sec) (hl : xs.length < 4000000000) : Pu Tryz.prog (.fn (.func 144) [] []) [.lst (xs.map Sec.av)] (.lst (xs.map Sec.av)) := by
  cases xs with
  | nil => exact cloneSn
  | cons y ys => exact cloneSc y ys hl
end Go.Proofs.YtlmjpgmaefokdaaGreat
end

section
set_option linter.unusedSimpArgs false
set_option linter.unusedVariables false
namespace Go.Proofs.YtlmjpgmaefokdaaGreat
open Go.Proofs
set_option maxRecDepth 10000
def existsE (f : Fan) (t : Int) : Int := if chkF f ≠ 0 then chkF f else if t < 0 ∨ t ≥ f.app.length then 7 else 0
theorem c89 (f : Fan) (t : Int) (hf : f.ok) : Pu Tryz.prog (.fn (.func 89) [] []) [f.av, I t] (I (existsE f t)) := by
  refine pu_func Tryz.func89 rfl (by kernel_rfl) (by show _ ≤ 20; simp only [List.length_append, List.length_cons, List.length_nil]; decide) (by simp only [IDF]) (by simp only [IDF, and_tt, implies_true]) (by simp only [IDF, fan_idf, and_tt, implies_true]) ?_
  rw [Tryz.ntmps89]
  refine wpT_seq ?_
  refine wpT_region (by kernel_rfl) (fun K hK => ?_)
  simp only [↓SP, SX, SW, TY, EN, sv_w, ↓reduceIte, reduceCtorEq, Nat.reduceEqDiff, Nat.reduceAdd, Nat.reduceLeDiff, Nat.reduceLT, Fan.av]
  refine hK _ _ ?_
  clear hK K
  refine wpT_seq ?_
  refine wpT_seq ?_
  refine wpT_region (by kernel_rfl) (fun K hK => ?_)
  simp only [↓SP, SX, SW, TY, EN, sv_w, ↓reduceIte, reduceCtorEq, Nat.reduceEqDiff, Nat.reduceAdd, Nat.reduceLeDiff, Nat.reduceLT, Fan.av]
  refine Pu.call (c40 f hf) ?_
  simp only [↓SP, SX, SW, TY, EN, sv_w, ↓reduceIte, reduceCtorEq, Nat.reduceEqDiff, Nat.reduceAdd, Nat.reduceLeDiff, Nat.reduceLT, Fan.av]
  refine hK _ _ ?_
  clear hK K
  refine wpT_seq ?_
  refine wpT_region (by kernel_rfl) (fun K hK => ?_)
  simp only [↓SP, SX, SW, TY, EN, sv_w, ↓reduceIte, reduceCtorEq, Nat.reduceEqDiff, Nat.reduceAdd, Nat.reduceLeDiff, Nat.reduceLT, Fan.av]
  refine hK _ _ ?_
  clear hK K
  refine wpT_if (by rfl) (fun hc9 => ?_) (fun hc9 => ?_)
  · skip
    have p9 := hc9
    try simp only [decide_eq_true_eq, decide_eq_false_iff_not, beq_iff_eq, bne_iff_ne, beq_eq_false_iff_ne, bne_eq_false_iff_eq, Bool.not_eq_true', Bool.not_eq_false'] at p9
    have hx : existsE f t = chkF f := if_pos p9
    refine wpT_seq ?_
    refine wpT_region (by kernel_rfl) (fun K hK => ?_)
    simp only [↓SP, SX, SW, TY, EN, sv_w, ↓reduceIte, reduceCtorEq, Nat.reduceEqDiff, Nat.reduceAdd, Nat.reduceLeDiff, Nat.reduceLT, Fan.av, hc9]
    refine hK _ _ ?_
    clear hK K
    refine wpT_ret ⟨.inr rfl, ?_⟩
    show optK (resA _ _ _ [.tmp 4]) _
    simp only [SR, Option.map_some, Option.bind_some, ↓SP, SX, SW, TY, EN, sv_w, ↓reduceIte, reduceCtorEq, Nat.reduceEqDiff, Nat.reduceAdd, Nat.reduceLeDiff, Nat.reduceLT, Fan.av, hc9]
    refine Lend.eq ?_
    rw [hx]
  · skip
    have p9 := hc9
    try simp only [decide_eq_true_eq, decide_eq_false_iff_not, beq_iff_eq, bne_iff_ne, beq_eq_false_iff_ne, bne_eq_false_iff_eq, Bool.not_eq_true', Bool.not_eq_false'] at p9
    refine wpT_skip ?_
    refine wpT_seq ?_
    refine wpT_seq ?_
    refine wpT_region (by kernel_rfl) (fun K hK => ?_)
    simp only [↓SP, SX, SW, TY, EN, sv_w, ↓reduceIte, reduceCtorEq, Nat.reduceEqDiff, Nat.reduceAdd, Nat.reduceLeDiff, Nat.reduceLT, Fan.av, hc9]
    refine guardO_split (fun hg13 => ?_) (fun hg13 => ?_)
    · skip
      have p13 := hg13
      try simp only [decide_eq_true_eq, decide_eq_false_iff_not, beq_iff_eq, bne_iff_ne, beq_eq_false_iff_ne, bne_eq_false_iff_eq, Bool.not_eq_true', Bool.not_eq_false'] at p13
      simp only [↓SP, SX, SW, TY, EN, sv_w, ↓reduceIte, reduceCtorEq, Nat.reduceEqDiff, Nat.reduceAdd, Nat.reduceLeDiff, Nat.reduceLT, Fan.av, hc9, hg13]
      refine hK _ _ ?_
      clear hK K
      refine wpT_if (by rfl) (fun hc19 => ?_) (fun hc19 => ?_)
      · skip
        have p19 := hc19
        try simp only [decide_eq_true_eq, decide_eq_false_iff_not, beq_iff_eq, bne_iff_ne, beq_eq_false_iff_ne, bne_eq_false_iff_eq, Bool.not_eq_true', Bool.not_eq_false'] at p19
        have hx : existsE f t = 7 := by rw [existsE, if_neg (by omega), if_pos (by omega)]
        refine wpT_seq ?_
        refine wpT_region (by kernel_rfl) (fun K hK => ?_)
        simp only [↓SP, SX, SW, TY, EN, sv_w, ↓reduceIte, reduceCtorEq, Nat.reduceEqDiff, Nat.reduceAdd, Nat.reduceLeDiff, Nat.reduceLT, Fan.av, hc9, hg13, hc19]
        refine hK _ _ ?_
        clear hK K
        refine wpT_ret ⟨.inr rfl, ?_⟩
        show optK (resA _ _ _ [.tmp 4]) _
        simp only [SR, Option.map_some, Option.bind_some, ↓SP, SX, SW, TY, EN, sv_w, ↓reduceIte, reduceCtorEq, Nat.reduceEqDiff, Nat.reduceAdd, Nat.reduceLeDiff, Nat.reduceLT, Fan.av, hc9, hg13, hc19]
        refine Lend.eq ?_
        rw [hx]
      · skip
        have p19 := hc19
        try simp only [decide_eq_true_eq, decide_eq_false_iff_not, beq_iff_eq, bne_iff_ne, beq_eq_false_iff_ne, bne_eq_false_iff_eq, Bool.not_eq_true', Bool.not_eq_false'] at p19
        have hx : existsE f t = 0 := by rw [existsE, if_neg (by omega), if_neg (by omega)]
        refine wpT_skip ?_
        refine wpT_seq ?_
        refine wpT_region (by kernel_rfl) (fun K hK => ?_)
        simp only [↓SP, SX, SW, TY, EN, sv_w, ↓reduceIte, reduceCtorEq, Nat.reduceEqDiff, Nat.reduceAdd, Nat.reduceLeDiff, Nat.reduceLT, Fan.av, hc9, hg13, hc19]
        refine hK _ _ ?_
        clear hK K
        refine wpT_ret ⟨.inr rfl, ?_⟩
        show optK (resA _ _ _ [.tmp 4]) _
        simp only [SR, Option.map_some, Option.bind_some, ↓SP, SX, SW, TY, EN, sv_w, ↓reduceIte, reduceCtorEq, Nat.reduceEqDiff, Nat.reduceAdd, Nat.reduceLeDiff, Nat.reduceLT, Fan.av, hc9, hg13, hc19]
        refine Lend.eq ?_
        rw [hx]
    · skip
      simp only [Bool.not_true, Bool.not_false] at hg13
      have p13 := hg13
      try simp only [decide_eq_true_eq, decide_eq_false_iff_not, beq_iff_eq, bne_iff_ne, beq_eq_false_iff_ne, bne_eq_false_iff_eq, Bool.not_eq_true', Bool.not_eq_false'] at p13
      simp only [↓SP, SX, SW, TY, EN, sv_w, ↓reduceIte, reduceCtorEq, Nat.reduceEqDiff, Nat.reduceAdd, Nat.reduceLeDiff, Nat.reduceLT, Fan.av, hc9, hg13]
      refine hK _ _ ?_
      clear hK K
      refine wpT_ifT (by simp only [↓SP, SX, SW, TY, EN, sv_w, ↓reduceIte, reduceCtorEq, Nat.reduceEqDiff, Nat.reduceAdd, Nat.reduceLeDiff, Nat.reduceLT, Fan.av, hc9, hg13]) ?_
      have hx : existsE f t = 7 := by rw [existsE, if_neg (by omega), if_pos (by omega)]
      refine wpT_seq ?_
      refine wpT_region (by kernel_rfl) (fun K hK => ?_)
      simp only [↓SP, SX, SW, TY, EN, sv_w, ↓reduceIte, reduceCtorEq, Nat.reduceEqDiff, Nat.reduceAdd, Nat.reduceLeDiff, Nat.reduceLT, Fan.av, hc9, hg13]
      refine hK _ _ ?_
      clear hK K
      refine wpT_ret ⟨.inr rfl, ?_⟩
      show optK (resA _ _ _ [.tmp 4]) _
      simp only [SR, Option.map_some, Option.bind_some, ↓SP, SX, SW, TY, EN, sv_w, ↓reduceIte, reduceCtorEq, Nat.reduceEqDiff, Nat.reduceAdd, Nat.reduceLeDiff, Nat.reduceLT, Fan.av, hc9, hg13]
      refine Lend.eq ?_
      rw [hx]
theorem c72 (n : Int) (h0 : -1000 ≤ n) (h1 : n ≤ 1000) : Pu Tryz.prog (.fn (.func 72) [] []) [I n] (Cyc.av ⟨n - 1, n, 0, [], []⟩) := by
  refine pu_func Tryz.func72 rfl (by kernel_rfl) (by show _ ≤ 7; simp only [List.length_append, List.length_cons, List.length_nil]; decide) (by simp only [cyc_idf]) (by simp only [IDF, and_tt, implies_true]) (by simp only [IDF, and_tt, implies_true]) ?_
  rw [Tryz.ntmps72]
  refine wpT_seq ?_
  refine wpT_region (by kernel_rfl) (fun K hK => ?_)
  simp only [↓SP, SX, SW, TY, EN, sv_w, ↓reduceIte, reduceCtorEq, Nat.reduceEqDiff, Nat.reduceAdd, Nat.reduceLeDiff, Nat.reduceLT]
  refine hK _ _ ?_
  clear hK K
  refine wpT_seq ?_
  refine wpT_region (by kernel_rfl) (fun K hK => ?_)
  simp only [↓SP, SX, SW, TY, EN, sv_w, ↓reduceIte, reduceCtorEq, Nat.reduceEqDiff, Nat.reduceAdd, Nat.reduceLeDiff, Nat.reduceLT, wrap64 (x := n - 1) (by omega) (by omega)]
  refine hK _ _ ?_
  clear hK K
  refine wpT_ret ⟨.inr rfl, ?_⟩
  show optK (resA _ _ _ [.cell 2 52]) _
  simp only [SR, Option.map_some, Option.bind_some, ↓SP, SX, SW, TY, EN, sv_w, ↓reduceIte, reduceCtorEq, Nat.reduceEqDiff, Nat.reduceAdd, Nat.reduceLeDiff, Nat.reduceLT]
  exact Lend.aggL (LendL.cons (.refl _) (LendL.cons (.refl _) (LendL.cons (.refl _) (LendL.cons .nil0 (LendL.cons .nil0 LendL.nil)))))
def Wr.sm (w : Wr) : Prop := w.data.length < 4000000000
def Cyc.sm (c : Cyc) : Prop := c.pos.length < 4000000000 ∧ c.ws.length < 4000000000 ∧ ∀ w ∈ c.ws, w.sm
theorem c78 (x : Cyc) (hx : x.sm) : Pu Tryz.prog (.fn (.func 78) [] []) [x.av] x.av := by
  refine pu_func Tryz.func78 rfl (by kernel_rfl) (by show _ ≤ 33; simp only [List.length_append, List.length_cons, List.length_nil]; decide) (by simp only [cyc_idf]) (by simp only [IDF, and_tt, implies_true]) (by simp only [IDF, cyc_idf, and_tt, implies_true]) ?_
  have hw := hx.2.1
  rw [Tryz.ntmps78]
  refine wpT_seq ?_
  refine wpT_region (by kernel_rfl) (fun K hK => ?_)
  simp only [↓SP, SX, SW, TY, EN, sv_w, ↓reduceIte, reduceCtorEq, Nat.reduceEqDiff, Nat.reduceAdd, Nat.reduceLeDiff, Nat.reduceLT, Cyc.av, cyc_cells, cyc_okc, wr_cells, wr_okc, wr_isAgg, wr_ld]
  refine hK _ _ ?_
  clear hK K
  refine wpT_seq ?_
  refine wpT_region (by kernel_rfl) (fun K hK => ?_)
  simp only [↓SP, SX, SW, TY, EN, sv_w, ↓reduceIte, reduceCtorEq, Nat.reduceEqDiff, Nat.reduceAdd, Nat.reduceLeDiff, Nat.reduceLT, Cyc.av, cyc_cells, cyc_okc, wr_cells, wr_okc, wr_isAgg, wr_ld]
  refine Pu.call (cloneI x.pos hx.1) ?_
  simp only [↓SP, SX, SW, TY, EN, sv_w, ↓reduceIte, reduceCtorEq, Nat.reduceEqDiff, Nat.reduceAdd, Nat.reduceLeDiff, Nat.reduceLT, Cyc.av, cyc_cells, cyc_okc, wr_cells, wr_okc, wr_isAgg, wr_ld]
  refine hK _ _ ?_
  clear hK K
  refine wpT_seq ?_
  refine wpT_region (by kernel_rfl) (fun K hK => ?_)
  simp only [↓SP, SX, SW, TY, EN, sv_w, ↓reduceIte, reduceCtorEq, Nat.reduceEqDiff, Nat.reduceAdd, Nat.reduceLeDiff, Nat.reduceLT, Cyc.av, cyc_cells, cyc_okc, wr_cells, wr_okc, wr_isAgg, wr_ld, msO_ok 40 0 (x.ws.length : Int) (by omega) (by omega) (by omega) (by omega), Int.toNat_zero, List.replicate_zero]
  refine hK _ _ ?_
  clear hK K
  refine wpT_seq ?_
  refine wpT_seq ?_
  refine wpT_region (by kernel_rfl) (fun K hK => ?_)
  simp only [↓SP, SX, SW, TY, EN, sv_w, ↓reduceIte, reduceCtorEq, Nat.reduceEqDiff, Nat.reduceAdd, Nat.reduceLeDiff, Nat.reduceLT, Cyc.av, cyc_cells, cyc_okc, wr_cells, wr_okc, wr_isAgg, wr_ld]
  refine hK _ _ ?_
  clear hK K
  refine wpT_block ?_
  refine wpT_loop ?_
  refine wpT_keep3 (i := 0) (j := 1) (k := 2) (o := .arr 52 5 [x.av]) (q := .arr 52 5 [.agg [I 0, I 0, I 0, .nil0, .nil0]]) (r := .arr 140 3 []) (by simp only [↓SP, SX, SW, TY, EN, sv_w, ↓reduceIte, reduceCtorEq, Nat.reduceEqDiff, Nat.reduceAdd, Nat.reduceLeDiff, Nat.reduceLT, Cyc.av, cyc_cells]) (by simp only [↓SP, SX, SW, TY, EN, sv_w, ↓reduceIte, reduceCtorEq, Nat.reduceEqDiff, Nat.reduceAdd, Nat.reduceLeDiff, Nat.reduceLT, Cyc.av, cyc_cells]) (by simp only [↓SP, SX, SW, TY, EN, sv_w, ↓reduceIte, reduceCtorEq, Nat.reduceEqDiff, Nat.reduceAdd, Nat.reduceLeDiff, Nat.reduceLT]) ?_
  refine wpT_ind (fun (i : Nat) tm' h' => (∃ m, h' = Hp.of [(0, .arr 52 5 [x.av]), (1, .arr 52 5 [.agg [I 0, I 0, I 0, .nil0, .nil0]]), (2, .arr 140 3 ((x.ws.take i).map Wr.av))] (m + 3)) ∧ tm' 1 = .ptr 0 1 0 0 ∧ tm' 2 = .ptr 1 1 0 0 ∧ tm' 3 = .sl 2 i 0 i ∧ tm' 15 = .lst (x.ws.map Wr.av) ∧ tm' 16 = I x.ws.length ∧ tm' 17 = I i ∧ i ≤ x.ws.length) (fun i => x.ws.length - i) ?_ 0 ⟨⟨0, rfl⟩, rfl, rfl, rfl, rfl, rfl, rfl, by omega⟩
  rintro i tm' _ ⟨⟨m, rfl⟩, e1, e2, e3, e15, e16, e17, hi⟩ IH
  refine wpT_inLoop ?_
  refine wpT_seq ?_
  refine wpT_region (by kernel_rfl) (fun K hK => ?_)
  simp only [↓SP, SX, SW, TY, EN, sv_w, ↓reduceIte, reduceCtorEq, Nat.reduceEqDiff, Nat.reduceAdd, Nat.reduceLeDiff, Nat.reduceLT, Cyc.av, cyc_cells, cyc_okc, wr_cells, wr_okc, wr_isAgg, wr_ld, e16, e17]
  refine hK _ _ ?_
  clear hK K
  refine wpT_seq ?_
  refine wpT_if (by rfl) (fun hc18 => ?_) (fun hc18 => ?_)
  · skip
    have p18 := hc18
    try simp only [decide_eq_true_eq, decide_eq_false_iff_not, beq_iff_eq, bne_iff_ne, beq_eq_false_iff_ne, bne_eq_false_iff_eq, Bool.not_eq_true', Bool.not_eq_false'] at p18
    have hlt : i < x.ws.length := by omega
    have hg := at_map (f := Wr.av) hlt
    have q1 : i + 1 ≤ maxLen := by simp only [maxLen]; omega
    have q2 : (i + 1) * 40 ≤ 140737488355328 := by omega
    have q4 : (x.ws.take (i + 1)).map Wr.av = (x.ws.take i).map Wr.av ++ [x.ws[i].av] := by rw [List.take_add_one, List.getElem?_eq_getElem hlt, List.map_append]; rfl
    refine wpT_skip ?_
    refine wpT_seq ?_
    refine wpT_block ?_
    refine wpT_seq ?_
    refine wpT_region (by kernel_rfl) (fun K hK => ?_)
    simp only [↓SP, SX, SW, TY, EN, sv_w, ↓reduceIte, reduceCtorEq, Nat.reduceEqDiff, Nat.reduceAdd, Nat.reduceLeDiff, Nat.reduceLT, Cyc.av, cyc_cells, cyc_okc, wr_cells, wr_okc, wr_isAgg, wr_ld, e15, e17, hg, hc18]
    refine hK _ _ ?_
    clear hK K
    refine wpT_seq ?_
    refine wpT_region (by kernel_rfl) (fun K hK => ?_)
    simp only [↓SP, SX, SW, TY, EN, sv_w, ↓reduceIte, reduceCtorEq, Nat.reduceEqDiff, Nat.reduceAdd, Nat.reduceLeDiff, Nat.reduceLT, Cyc.av, cyc_cells, cyc_okc, wr_cells, wr_okc, wr_isAgg, wr_ld, Wr.av, hc18]
    refine Pu.call (cloneS x.ws[i].data (hx.2.2 _ (List.getElem_mem hlt))) ?_
    simp only [↓SP, SX, SW, TY, EN, sv_w, ↓reduceIte, reduceCtorEq, Nat.reduceEqDiff, Nat.reduceAdd, Nat.reduceLeDiff, Nat.reduceLT, Cyc.av, cyc_cells, cyc_okc, wr_cells, wr_okc, wr_isAgg, wr_ld, Wr.av, hc18]
    refine hK _ _ ?_
    clear hK K
    refine wpT_region (by kernel_rfl) (fun K hK => ?_)
    simp only [↓SP, SX, SW, TY, EN, sv_w, ↓reduceIte, reduceCtorEq, Nat.reduceEqDiff, Nat.reduceAdd, Nat.reduceLeDiff, Nat.reduceLT, Cyc.av, cyc_cells, cyc_okc, wr_cells, wr_okc, wr_isAgg, wr_ld, e3, q1, q2, List.length_take, Nat.min_eq_left hi, Wr.av, hc18]
    refine hK _ _ ?_
    clear hK K
    refine wpT_inBlock ?_
    refine wpT_region (by kernel_rfl) (fun K hK => ?_)
    simp only [↓SP, SX, SW, TY, EN, sv_w, ↓reduceIte, reduceCtorEq, Nat.reduceEqDiff, Nat.reduceAdd, Nat.reduceLeDiff, Nat.reduceLT, Cyc.av, cyc_cells, cyc_okc, wr_cells, wr_okc, wr_isAgg, wr_ld, e17, wrap64 (x := (i : Int) + 1) (by omega) (by omega), hc18]
    refine hK _ _ ?_
    clear hK K
    refine wpT_keep3 (i := 0) (j := 1) (k := 2) (o := .arr 52 5 [x.av]) (q := .arr 52 5 [.agg [I 0, I 0, I 0, .nil0, .nil0]]) (r := .arr 140 3 ((x.ws.take (i + 1)).map Wr.av)) (by simp only [↓SP, SX, SW, TY, EN, sv_w, ↓reduceIte, reduceCtorEq, Nat.reduceEqDiff, Nat.reduceAdd, Nat.reduceLeDiff, Nat.reduceLT, Cyc.av]) (by simp only [↓SP, SX, SW, TY, EN, sv_w, ↓reduceIte, reduceCtorEq, Nat.reduceEqDiff, Nat.reduceAdd, Nat.reduceLeDiff, Nat.reduceLT]) (by simp only [↓SP, SX, SW, TY, EN, sv_w, ↓reduceIte, reduceCtorEq, Nat.reduceEqDiff, Nat.reduceAdd, Nat.reduceLeDiff, Nat.reduceLT, q4, Wr.av]) ?_
    refine IH (i + 1) _ _ (by omega) ⟨⟨_, rfl⟩, by simp only [↓SP, SX, SW, TY, EN, sv_w, ↓reduceIte, reduceCtorEq, Nat.reduceEqDiff, Nat.reduceAdd, Nat.reduceLeDiff, Nat.reduceLT, e1], by simp only [↓SP, SX, SW, TY, EN, sv_w, ↓reduceIte, reduceCtorEq, Nat.reduceEqDiff, Nat.reduceAdd, Nat.reduceLeDiff, Nat.reduceLT, e2], by simp only [↓SP, SX, SW, TY, EN, sv_w, ↓reduceIte, reduceCtorEq, Nat.reduceEqDiff, Nat.reduceAdd, Nat.reduceLeDiff, Nat.reduceLT], by simp only [↓SP, SX, SW, TY, EN, sv_w, ↓reduceIte, reduceCtorEq, Nat.reduceEqDiff, Nat.reduceAdd, Nat.reduceLeDiff, Nat.reduceLT, e15], by simp only [↓SP, SX, SW, TY, EN, sv_w, ↓reduceIte, reduceCtorEq, Nat.reduceEqDiff, Nat.reduceAdd, Nat.reduceLeDiff, Nat.reduceLT, e16], by simp only [↓SP, SX, SW, TY, EN, sv_w, ↓reduceIte, reduceCtorEq, Nat.reduceEqDiff, Nat.reduceAdd, Nat.reduceLeDiff, Nat.reduceLT, Int.natCast_add, Int.cast_ofNat_Int], by omega⟩
  · skip
    have p18 := hc18
    try simp only [decide_eq_true_eq, decide_eq_false_iff_not, beq_iff_eq, bne_iff_ne, beq_eq_false_iff_ne, bne_eq_false_iff_eq, Bool.not_eq_true', Bool.not_eq_false'] at p18
    have hi2 : i = x.ws.length := by omega
    subst hi2
    refine wpT_exit rfl ?_
    refine wpT_seq ?_
    refine wpT_region (by kernel_rfl) (fun K hK => ?_)
    simp only [↓SP, SX, SW, TY, EN, sv_w, ↓reduceIte, reduceCtorEq, Nat.reduceEqDiff, Nat.reduceAdd, Nat.reduceLeDiff, Nat.reduceLT, Cyc.av, cyc_cells, cyc_okc, wr_cells, wr_okc, wr_isAgg, wr_ld, e1, e3, List.take_length, hc18]
    refine hK _ _ ?_
    clear hK K
    refine wpT_seq ?_
    refine wpT_region (by kernel_rfl) (fun K hK => ?_)
    simp only [↓SP, SX, SW, TY, EN, sv_w, ↓reduceIte, reduceCtorEq, Nat.reduceEqDiff, Nat.reduceAdd, Nat.reduceLeDiff, Nat.reduceLT, Cyc.av, cyc_cells, cyc_okc, wr_cells, wr_okc, wr_isAgg, wr_ld, e1, e2, List.take_length, hc18]
    refine hK _ _ ?_
    clear hK K
    refine wpT_ret ⟨.inr rfl, ?_⟩
    show optK (resA _ _ _ [.cell 2 52]) _
    simp only [SR, Option.map_some, Option.bind_some, ↓SP, SX, SW, TY, EN, sv_w, ↓reduceIte, reduceCtorEq, Nat.reduceEqDiff, Nat.reduceAdd, Nat.reduceLeDiff, Nat.reduceLT, Cyc.av, cyc_cells, cyc_okc, wr_cells, wr_okc, wr_isAgg, wr_ld, hc18]
    simp only [↓SP, SX, SW, TY, EN, sv_w, ↓reduceIte, reduceCtorEq, Nat.reduceEqDiff, Nat.reduceAdd, Nat.reduceLeDiff, Nat.reduceLT, SR, Option.map_some, Option.bind_some, e2, Cyc.av, cyc_cells]
    refine Lend.aggL (LendL.cons (.refl _) (LendL.cons (.refl _) (LendL.cons (.refl _) (LendL.cons (.refl _) (LendL.cons ?_ LendL.nil)))))
    exact Lend.sl0 (id := 2) (E := 140) (s := 3) (by simp only [↓SP, SX, SW, TY, EN, sv_w, ↓reduceIte, reduceCtorEq, Nat.reduceEqDiff, Nat.reduceAdd, Nat.reduceLeDiff, Nat.reduceLT, List.take_length]) (by simp) (fun e he => by
      obtain ⟨a, _, rfl⟩ := List.mem_map.1 he
      rfl)
end Go.Proofs.YtlmjpgmaefokdaaGreat
end
