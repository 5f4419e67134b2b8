/- Walks: the reference's check of cycles; the newest and the least number of a fan-out.
  Walks: the reference's check of fan-outs, and its oldest number.
  Walks: the program's checks of sizes, positions and cycles: searches with functions, images, numbers in a range.
  Walks: images of zero sectors; what fits an image.
  Walks: what fits an image; lists of writes; cycles.
  Walks: the program's checks of lists of writes and of cycles. -/
import Derived.Test.YtlmjpgmaefokdaaGreatR4
section
set_option linter.unusedSimpArgs false
set_option linter.unusedVariables false
namespace Go.Proofs.YtlmjpgmaefokdaaGreat
open Go.Proofs
set_option maxRecDepth 10000
def cycE (c : Cyc) (sz : List Int) : Int :=
  if sizesE sz ≠ 0 then sizesE sz else if c.base < 0 ∨ c.num ≤ c.base ∨ c.num > 1073741824 then 2 else if c.time < 0 ∨ c.time > 1073741824 then 24 else
  if c.pos.length > 8 then 6 else if posR c.pos ≠ 0 then posR c.pos else wrsE c.ws sz
theorem c83 (x : Cyc) (sz : List Int) (hx : x.ok) (hs : sz.length < 4611686018427387904) : Pu Tryz.prog (.fn (.func 83) [] []) [x.av, .lst (sz.map I)] (I (cycE x sz)) := by
  refine pu_func Tryz.func83 rfl (by kernel_rfl) (by show _ ≤ 49; simp only [List.length_append, List.length_cons, List.length_nil]; decide) (by simp only [IDF]) (by simp only [IDF, and_tt, implies_true]) (by simp only [IDF, cyc_idf, and_tt, implies_true]) ?_
  rw [Tryz.ntmps83]
  refine wpT_seq ?_
  refine wpT_region (by kernel_rfl) (fun K hK => ?_)
  simp only [↓SP, SX, SW, TY, EN, sv_w, ↓reduceIte, reduceCtorEq, Nat.reduceEqDiff, Nat.reduceAdd, Nat.reduceLeDiff, Nat.reduceLT, Cyc.av]
  refine hK _ _ ?_
  clear hK K
  refine wpT_seq ?_
  refine wpT_seq ?_
  refine wpT_region (by kernel_rfl) (fun K hK => ?_)
  simp only [↓SP, SX, SW, TY, EN, sv_w, ↓reduceIte, reduceCtorEq, Nat.reduceEqDiff, Nat.reduceAdd, Nat.reduceLeDiff, Nat.reduceLT, Cyc.av]
  refine Pu.call (c149 _ hs) ?_
  simp only [↓SP, SX, SW, TY, EN, sv_w, ↓reduceIte, reduceCtorEq, Nat.reduceEqDiff, Nat.reduceAdd, Nat.reduceLeDiff, Nat.reduceLT, Cyc.av]
  refine hK _ _ ?_
  clear hK K
  refine wpT_seq ?_
  refine wpT_region (by kernel_rfl) (fun K hK => ?_)
  simp only [↓SP, SX, SW, TY, EN, sv_w, ↓reduceIte, reduceCtorEq, Nat.reduceEqDiff, Nat.reduceAdd, Nat.reduceLeDiff, Nat.reduceLT, Cyc.av]
  refine hK _ _ ?_
  clear hK K
  refine wpT_if (by rfl) (fun hc10 => ?_) (fun hc10 => ?_)
  · skip
    have p10 := hc10
    try simp only [decide_eq_true_eq, decide_eq_false_iff_not, beq_iff_eq, bne_iff_ne, beq_eq_false_iff_ne, bne_eq_false_iff_eq, Bool.not_eq_true', Bool.not_eq_false'] at p10
    refine wpT_seq ?_
    refine wpT_region (by kernel_rfl) (fun K hK => ?_)
    simp only [↓SP, SX, SW, TY, EN, sv_w, ↓reduceIte, reduceCtorEq, Nat.reduceEqDiff, Nat.reduceAdd, Nat.reduceLeDiff, Nat.reduceLT, Cyc.av, hc10]
    refine hK _ _ ?_
    clear hK K
    refine wpT_ret ⟨.inr rfl, ?_⟩
    show optK (resA _ _ _ [.tmp 4]) _
    simp only [SR, Option.map_some, Option.bind_some, ↓SP, SX, SW, TY, EN, sv_w, ↓reduceIte, reduceCtorEq, Nat.reduceEqDiff, Nat.reduceAdd, Nat.reduceLeDiff, Nat.reduceLT, Cyc.av, hc10]
    refine Lend.eq ?_
    congr 1
    unfold cycE
    first
      | rw [if_pos (by omega)]
      | rw [if_neg (by omega), if_pos (by omega)]
      | rw [if_neg (by omega), if_neg (by omega), if_pos (by omega)]
      | rw [if_neg (by omega), if_neg (by omega), if_neg (by omega), if_pos (by omega)]
      | rw [if_neg (by omega), if_neg (by omega), if_neg (by omega), if_neg (by omega), if_pos (by omega)]
      | rw [if_neg (by omega), if_neg (by omega), if_neg (by omega), if_neg (by omega), if_neg (by omega)]
  · skip
    have p10 := hc10
    try simp only [decide_eq_true_eq, decide_eq_false_iff_not, beq_iff_eq, bne_iff_ne, beq_eq_false_iff_ne, bne_eq_false_iff_eq, Bool.not_eq_true', Bool.not_eq_false'] at p10
    refine wpT_skip ?_
    refine wpT_seq ?_
    refine wpT_seq ?_
    refine wpT_region (by kernel_rfl) (fun K hK => ?_)
    simp only [↓SP, SX, SW, TY, EN, sv_w, ↓reduceIte, reduceCtorEq, Nat.reduceEqDiff, Nat.reduceAdd, Nat.reduceLeDiff, Nat.reduceLT, Cyc.av, hc10]
    refine guardO_split (fun hg15 => ?_) (fun hg15 => ?_)
    · skip
      have p15 := hg15
      try simp only [decide_eq_true_eq, decide_eq_false_iff_not, beq_iff_eq, bne_iff_ne, beq_eq_false_iff_ne, bne_eq_false_iff_eq, Bool.not_eq_true', Bool.not_eq_false'] at p15
      simp only [↓SP, SX, SW, TY, EN, sv_w, ↓reduceIte, reduceCtorEq, Nat.reduceEqDiff, Nat.reduceAdd, Nat.reduceLeDiff, Nat.reduceLT, Cyc.av, hc10, hg15]
      refine guardO_split (fun hg22 => ?_) (fun hg22 => ?_)
      · skip
        have p22 := hg22
        try simp only [decide_eq_true_eq, decide_eq_false_iff_not, beq_iff_eq, bne_iff_ne, beq_eq_false_iff_ne, bne_eq_false_iff_eq, Bool.not_eq_true', Bool.not_eq_false'] at p22
        simp only [↓SP, SX, SW, TY, EN, sv_w, ↓reduceIte, reduceCtorEq, Nat.reduceEqDiff, Nat.reduceAdd, Nat.reduceLeDiff, Nat.reduceLT, Cyc.av, hc10, hg15, hg22]
        refine hK _ _ ?_
        clear hK K
        refine wpT_if (by rfl) (fun hc26 => ?_) (fun hc26 => ?_)
        · skip
          have p26 := hc26
          try simp only [decide_eq_true_eq, decide_eq_false_iff_not, beq_iff_eq, bne_iff_ne, beq_eq_false_iff_ne, bne_eq_false_iff_eq, Bool.not_eq_true', Bool.not_eq_false'] at p26
          refine wpT_seq ?_
          refine wpT_region (by kernel_rfl) (fun K hK => ?_)
          simp only [↓SP, SX, SW, TY, EN, sv_w, ↓reduceIte, reduceCtorEq, Nat.reduceEqDiff, Nat.reduceAdd, Nat.reduceLeDiff, Nat.reduceLT, Cyc.av, hc10, hg15, hg22, hc26]
          refine hK _ _ ?_
          clear hK K
          refine wpT_ret ⟨.inr rfl, ?_⟩
          show optK (resA _ _ _ [.tmp 4]) _
          simp only [SR, Option.map_some, Option.bind_some, ↓SP, SX, SW, TY, EN, sv_w, ↓reduceIte, reduceCtorEq, Nat.reduceEqDiff, Nat.reduceAdd, Nat.reduceLeDiff, Nat.reduceLT, Cyc.av, hc10, hg15, hg22, hc26]
          refine Lend.eq ?_
          congr 1
          unfold cycE
          first
            | rw [if_pos (by omega)]
            | rw [if_neg (by omega), if_pos (by omega)]
            | rw [if_neg (by omega), if_neg (by omega), if_pos (by omega)]
            | rw [if_neg (by omega), if_neg (by omega), if_neg (by omega), if_pos (by omega)]
            | rw [if_neg (by omega), if_neg (by omega), if_neg (by omega), if_neg (by omega), if_pos (by omega)]
            | rw [if_neg (by omega), if_neg (by omega), if_neg (by omega), if_neg (by omega), if_neg (by omega)]
        · skip
          have p26 := hc26
          try simp only [decide_eq_true_eq, decide_eq_false_iff_not, beq_iff_eq, bne_iff_ne, beq_eq_false_iff_ne, bne_eq_false_iff_eq, Bool.not_eq_true', Bool.not_eq_false'] at p26
          refine wpT_skip ?_
          refine wpT_seq ?_
          refine wpT_seq ?_
          refine wpT_region (by kernel_rfl) (fun K hK => ?_)
          simp only [↓SP, SX, SW, TY, EN, sv_w, ↓reduceIte, reduceCtorEq, Nat.reduceEqDiff, Nat.reduceAdd, Nat.reduceLeDiff, Nat.reduceLT, Cyc.av, hc10, hg15, hg22, hc26]
          refine guardO_split (fun hg30 => ?_) (fun hg30 => ?_)
          · skip
            have p30 := hg30
            try simp only [decide_eq_true_eq, decide_eq_false_iff_not, beq_iff_eq, bne_iff_ne, beq_eq_false_iff_ne, bne_eq_false_iff_eq, Bool.not_eq_true', Bool.not_eq_false'] at p30
            simp only [↓SP, SX, SW, TY, EN, sv_w, ↓reduceIte, reduceCtorEq, Nat.reduceEqDiff, Nat.reduceAdd, Nat.reduceLeDiff, Nat.reduceLT, Cyc.av, hc10, hg15, hg22, hc26, hg30]
            refine hK _ _ ?_
            clear hK K
            refine wpT_if (by rfl) (fun hc34 => ?_) (fun hc34 => ?_)
            · skip
              have p34 := hc34
              try simp only [decide_eq_true_eq, decide_eq_false_iff_not, beq_iff_eq, bne_iff_ne, beq_eq_false_iff_ne, bne_eq_false_iff_eq, Bool.not_eq_true', Bool.not_eq_false'] at p34
              refine wpT_seq ?_
              refine wpT_region (by kernel_rfl) (fun K hK => ?_)
              simp only [↓SP, SX, SW, TY, EN, sv_w, ↓reduceIte, reduceCtorEq, Nat.reduceEqDiff, Nat.reduceAdd, Nat.reduceLeDiff, Nat.reduceLT, Cyc.av, hc10, hg15, hg22, hc26, hg30, hc34]
              refine hK _ _ ?_
              clear hK K
              refine wpT_ret ⟨.inr rfl, ?_⟩
              show optK (resA _ _ _ [.tmp 4]) _
              simp only [SR, Option.map_some, Option.bind_some, ↓SP, SX, SW, TY, EN, sv_w, ↓reduceIte, reduceCtorEq, Nat.reduceEqDiff, Nat.reduceAdd, Nat.reduceLeDiff, Nat.reduceLT, Cyc.av, hc10, hg15, hg22, hc26, hg30, hc34]
              refine Lend.eq ?_
              congr 1
              unfold cycE
              first
                | rw [if_pos (by omega)]
                | rw [if_neg (by omega), if_pos (by omega)]
                | rw [if_neg (by omega), if_neg (by omega), if_pos (by omega)]
                | rw [if_neg (by omega), if_neg (by omega), if_neg (by omega), if_pos (by omega)]
                | rw [if_neg (by omega), if_neg (by omega), if_neg (by omega), if_neg (by omega), if_pos (by omega)]
                | rw [if_neg (by omega), if_neg (by omega), if_neg (by omega), if_neg (by omega), if_neg (by omega)]
            · skip
              have p34 := hc34
              try simp only [decide_eq_true_eq, decide_eq_false_iff_not, beq_iff_eq, bne_iff_ne, beq_eq_false_iff_ne, bne_eq_false_iff_eq, Bool.not_eq_true', Bool.not_eq_false'] at p34
              refine wpT_skip ?_
              refine wpT_seq ?_
              refine wpT_seq ?_
              refine wpT_region (by kernel_rfl) (fun K hK => ?_)
              simp only [↓SP, SX, SW, TY, EN, sv_w, ↓reduceIte, reduceCtorEq, Nat.reduceEqDiff, Nat.reduceAdd, Nat.reduceLeDiff, Nat.reduceLT, Cyc.av, hc10, hg15, hg22, hc26, hg30, hc34]
              refine hK _ _ ?_
              clear hK K
              refine wpT_if (by rfl) (fun hc38 => ?_) (fun hc38 => ?_)
              · skip
                have p38 := hc38
                try simp only [decide_eq_true_eq, decide_eq_false_iff_not, beq_iff_eq, bne_iff_ne, beq_eq_false_iff_ne, bne_eq_false_iff_eq, Bool.not_eq_true', Bool.not_eq_false'] at p38
                refine wpT_seq ?_
                refine wpT_region (by kernel_rfl) (fun K hK => ?_)
                simp only [↓SP, SX, SW, TY, EN, sv_w, ↓reduceIte, reduceCtorEq, Nat.reduceEqDiff, Nat.reduceAdd, Nat.reduceLeDiff, Nat.reduceLT, Cyc.av, hc10, hg15, hg22, hc26, hg30, hc34, hc38]
                refine hK _ _ ?_
                clear hK K
                refine wpT_ret ⟨.inr rfl, ?_⟩
                show optK (resA _ _ _ [.tmp 4]) _
                simp only [SR, Option.map_some, Option.bind_some, ↓SP, SX, SW, TY, EN, sv_w, ↓reduceIte, reduceCtorEq, Nat.reduceEqDiff, Nat.reduceAdd, Nat.reduceLeDiff, Nat.reduceLT, Cyc.av, hc10, hg15, hg22, hc26, hg30, hc34, hc38]
                refine Lend.eq ?_
                congr 1
                unfold cycE
                first
                  | rw [if_pos (by omega)]
                  | rw [if_neg (by omega), if_pos (by omega)]
                  | rw [if_neg (by omega), if_neg (by omega), if_pos (by omega)]
                  | rw [if_neg (by omega), if_neg (by omega), if_neg (by omega), if_pos (by omega)]
                  | rw [if_neg (by omega), if_neg (by omega), if_neg (by omega), if_neg (by omega), if_pos (by omega)]
                  | rw [if_neg (by omega), if_neg (by omega), if_neg (by omega), if_neg (by omega), if_neg (by omega)]
              · skip
                have p38 := hc38
                try simp only [decide_eq_true_eq, decide_eq_false_iff_not, beq_iff_eq, bne_iff_ne, beq_eq_false_iff_ne, bne_eq_false_iff_eq, Bool.not_eq_true', Bool.not_eq_false'] at p38
                refine wpT_skip ?_
                refine wpT_seq ?_
                refine wpT_seq ?_
                refine wpT_region (by kernel_rfl) (fun K hK => ?_)
                simp only [↓SP, SX, SW, TY, EN, sv_w, ↓reduceIte, reduceCtorEq, Nat.reduceEqDiff, Nat.reduceAdd, Nat.reduceLeDiff, Nat.reduceLT, Cyc.av, hc10, hg15, hg22, hc26, hg30, hc34, hc38]
                refine Pu.call (c150 _ hx.1) ?_
                simp only [↓SP, SX, SW, TY, EN, sv_w, ↓reduceIte, reduceCtorEq, Nat.reduceEqDiff, Nat.reduceAdd, Nat.reduceLeDiff, Nat.reduceLT, Cyc.av, hc10, hg15, hg22, hc26, hg30, hc34, hc38]
                refine hK _ _ ?_
                clear hK K
                refine wpT_seq ?_
                refine wpT_region (by kernel_rfl) (fun K hK => ?_)
                simp only [↓SP, SX, SW, TY, EN, sv_w, ↓reduceIte, reduceCtorEq, Nat.reduceEqDiff, Nat.reduceAdd, Nat.reduceLeDiff, Nat.reduceLT, Cyc.av, hc10, hg15, hg22, hc26, hg30, hc34, hc38]
                refine hK _ _ ?_
                clear hK K
                refine wpT_if (by rfl) (fun hc43 => ?_) (fun hc43 => ?_)
                · skip
                  have p43 := hc43
                  try simp only [decide_eq_true_eq, decide_eq_false_iff_not, beq_iff_eq, bne_iff_ne, beq_eq_false_iff_ne, bne_eq_false_iff_eq, Bool.not_eq_true', Bool.not_eq_false'] at p43
                  refine wpT_seq ?_
                  refine wpT_region (by kernel_rfl) (fun K hK => ?_)
                  simp only [↓SP, SX, SW, TY, EN, sv_w, ↓reduceIte, reduceCtorEq, Nat.reduceEqDiff, Nat.reduceAdd, Nat.reduceLeDiff, Nat.reduceLT, Cyc.av, hc10, hg15, hg22, hc26, hg30, hc34, hc38, hc43]
                  refine hK _ _ ?_
                  clear hK K
                  refine wpT_ret ⟨.inr rfl, ?_⟩
                  show optK (resA _ _ _ [.tmp 4]) _
                  simp only [SR, Option.map_some, Option.bind_some, ↓SP, SX, SW, TY, EN, sv_w, ↓reduceIte, reduceCtorEq, Nat.reduceEqDiff, Nat.reduceAdd, Nat.reduceLeDiff, Nat.reduceLT, Cyc.av, hc10, hg15, hg22, hc26, hg30, hc34, hc38, hc43]
                  refine Lend.eq ?_
                  congr 1
                  unfold cycE
                  first
                    | rw [if_pos (by omega)]
                    | rw [if_neg (by omega), if_pos (by omega)]
                    | rw [if_neg (by omega), if_neg (by omega), if_pos (by omega)]
                    | rw [if_neg (by omega), if_neg (by omega), if_neg (by omega), if_pos (by omega)]
                    | rw [if_neg (by omega), if_neg (by omega), if_neg (by omega), if_neg (by omega), if_pos (by omega)]
                    | rw [if_neg (by omega), if_neg (by omega), if_neg (by omega), if_neg (by omega), if_neg (by omega)]
                · skip
                  have p43 := hc43
                  try simp only [decide_eq_true_eq, decide_eq_false_iff_not, beq_iff_eq, bne_iff_ne, beq_eq_false_iff_ne, bne_eq_false_iff_eq, Bool.not_eq_true', Bool.not_eq_false'] at p43
                  refine wpT_skip ?_
                  refine wpT_seq ?_
                  refine wpT_region (by kernel_rfl) (fun K hK => ?_)
                  simp only [↓SP, SX, SW, TY, EN, sv_w, ↓reduceIte, reduceCtorEq, Nat.reduceEqDiff, Nat.reduceAdd, Nat.reduceLeDiff, Nat.reduceLT, Cyc.av, hc10, hg15, hg22, hc26, hg30, hc34, hc38, hc43]
                  refine Pu.call (c151 _ _ hx.2.1 hs) ?_
                  simp only [↓SP, SX, SW, TY, EN, sv_w, ↓reduceIte, reduceCtorEq, Nat.reduceEqDiff, Nat.reduceAdd, Nat.reduceLeDiff, Nat.reduceLT, Cyc.av, hc10, hg15, hg22, hc26, hg30, hc34, hc38, hc43]
                  refine hK _ _ ?_
                  clear hK K
                  refine wpT_ret ⟨.inr rfl, ?_⟩
                  show optK (resA _ _ _ [.tmp 4]) _
                  simp only [SR, Option.map_some, Option.bind_some, ↓SP, SX, SW, TY, EN, sv_w, ↓reduceIte, reduceCtorEq, Nat.reduceEqDiff, Nat.reduceAdd, Nat.reduceLeDiff, Nat.reduceLT, Cyc.av, hc10, hg15, hg22, hc26, hg30, hc34, hc38, hc43]
                  refine Lend.eq ?_
                  congr 1
                  unfold cycE
                  first
                    | rw [if_pos (by omega)]
                    | rw [if_neg (by omega), if_pos (by omega)]
                    | rw [if_neg (by omega), if_neg (by omega), if_pos (by omega)]
                    | rw [if_neg (by omega), if_neg (by omega), if_neg (by omega), if_pos (by omega)]
                    | rw [if_neg (by omega), if_neg (by omega), if_neg (by omega), if_neg (by omega), if_pos (by omega)]
                    | rw [if_neg (by omega), if_neg (by omega), if_neg (by omega), if_neg (by omega), if_neg (by omega)]
          · skip
            simp only [Bool.not_true, Bool.not_false] at hg30
            have p30 := hg30
            try simp only [decide_eq_true_eq, decide_eq_false_iff_not, beq_iff_eq, bne_iff_ne, beq_eq_false_iff_ne, bne_eq_false_iff_eq, Bool.not_eq_true', Bool.not_eq_false'] at p30
            simp only [↓SP, SX, SW, TY, EN, sv_w, ↓reduceIte, reduceCtorEq, Nat.reduceEqDiff, Nat.reduceAdd, Nat.reduceLeDiff, Nat.reduceLT, Cyc.av, hc10, hg15, hg22, hc26, hg30]
            refine hK _ _ ?_
            clear hK K
            refine wpT_ifT (by simp only [↓SP, SX, SW, TY, EN, sv_w, ↓reduceIte, reduceCtorEq, Nat.reduceEqDiff, Nat.reduceAdd, Nat.reduceLeDiff, Nat.reduceLT, Cyc.av, hc10, hg15, hg22, hc26, hg30]) ?_
            refine wpT_seq ?_
            refine wpT_region (by kernel_rfl) (fun K hK => ?_)
            simp only [↓SP, SX, SW, TY, EN, sv_w, ↓reduceIte, reduceCtorEq, Nat.reduceEqDiff, Nat.reduceAdd, Nat.reduceLeDiff, Nat.reduceLT, Cyc.av, hc10, hg15, hg22, hc26, hg30]
            refine hK _ _ ?_
            clear hK K
            refine wpT_ret ⟨.inr rfl, ?_⟩
            show optK (resA _ _ _ [.tmp 4]) _
            simp only [SR, Option.map_some, Option.bind_some, ↓SP, SX, SW, TY, EN, sv_w, ↓reduceIte, reduceCtorEq, Nat.reduceEqDiff, Nat.reduceAdd, Nat.reduceLeDiff, Nat.reduceLT, Cyc.av, hc10, hg15, hg22, hc26, hg30]
            refine Lend.eq ?_
            congr 1
            unfold cycE
            first
              | rw [if_pos (by omega)]
              | rw [if_neg (by omega), if_pos (by omega)]
              | rw [if_neg (by omega), if_neg (by omega), if_pos (by omega)]
              | rw [if_neg (by omega), if_neg (by omega), if_neg (by omega), if_pos (by omega)]
              | rw [if_neg (by omega), if_neg (by omega), if_neg (by omega), if_neg (by omega), if_pos (by omega)]
              | rw [if_neg (by omega), if_neg (by omega), if_neg (by omega), if_neg (by omega), if_neg (by omega)]
      · skip
        simp only [Bool.not_true, Bool.not_false] at hg22
        have p22 := hg22
        try simp only [decide_eq_true_eq, decide_eq_false_iff_not, beq_iff_eq, bne_iff_ne, beq_eq_false_iff_ne, bne_eq_false_iff_eq, Bool.not_eq_true', Bool.not_eq_false'] at p22
        simp only [↓SP, SX, SW, TY, EN, sv_w, ↓reduceIte, reduceCtorEq, Nat.reduceEqDiff, Nat.reduceAdd, Nat.reduceLeDiff, Nat.reduceLT, Cyc.av, hc10, hg15, hg22]
        refine hK _ _ ?_
        clear hK K
        refine wpT_ifT (by simp only [↓SP, SX, SW, TY, EN, sv_w, ↓reduceIte, reduceCtorEq, Nat.reduceEqDiff, Nat.reduceAdd, Nat.reduceLeDiff, Nat.reduceLT, Cyc.av, hc10, hg15, hg22]) ?_
        refine wpT_seq ?_
        refine wpT_region (by kernel_rfl) (fun K hK => ?_)
        simp only [↓SP, SX, SW, TY, EN, sv_w, ↓reduceIte, reduceCtorEq, Nat.reduceEqDiff, Nat.reduceAdd, Nat.reduceLeDiff, Nat.reduceLT, Cyc.av, hc10, hg15, hg22]
        refine hK _ _ ?_
        clear hK K
        refine wpT_ret ⟨.inr rfl, ?_⟩
        show optK (resA _ _ _ [.tmp 4]) _
        simp only [SR, Option.map_some, Option.bind_some, ↓SP, SX, SW, TY, EN, sv_w, ↓reduceIte, reduceCtorEq, Nat.reduceEqDiff, Nat.reduceAdd, Nat.reduceLeDiff, Nat.reduceLT, Cyc.av, hc10, hg15, hg22]
        refine Lend.eq ?_
        congr 1
        unfold cycE
        first
          | rw [if_pos (by omega)]
          | rw [if_neg (by omega), if_pos (by omega)]
          | rw [if_neg (by omega), if_neg (by omega), if_pos (by omega)]
          | rw [if_neg (by omega), if_neg (by omega), if_neg (by omega), if_pos (by omega)]
          | rw [if_neg (by omega), if_neg (by omega), if_neg (by omega), if_neg (by omega), if_pos (by omega)]
          | rw [if_neg (by omega), if_neg (by omega), if_neg (by omega), if_neg (by omega), if_neg (by omega)]
    · skip
      simp only [Bool.not_true, Bool.not_false] at hg15
      have p15 := hg15
      try simp only [decide_eq_true_eq, decide_eq_false_iff_not, beq_iff_eq, bne_iff_ne, beq_eq_false_iff_ne, bne_eq_false_iff_eq, Bool.not_eq_true', Bool.not_eq_false'] at p15
      simp only [↓SP, SX, SW, TY, EN, sv_w, ↓reduceIte, reduceCtorEq, Nat.reduceEqDiff, Nat.reduceAdd, Nat.reduceLeDiff, Nat.reduceLT, Cyc.av, hc10, hg15]
      refine hK _ _ ?_
      clear hK K
      refine wpT_ifT (by simp only [↓SP, SX, SW, TY, EN, sv_w, ↓reduceIte, reduceCtorEq, Nat.reduceEqDiff, Nat.reduceAdd, Nat.reduceLeDiff, Nat.reduceLT, Cyc.av, hc10, hg15]) ?_
      refine wpT_seq ?_
      refine wpT_region (by kernel_rfl) (fun K hK => ?_)
      simp only [↓SP, SX, SW, TY, EN, sv_w, ↓reduceIte, reduceCtorEq, Nat.reduceEqDiff, Nat.reduceAdd, Nat.reduceLeDiff, Nat.reduceLT, Cyc.av, hc10, hg15]
      refine hK _ _ ?_
      clear hK K
      refine wpT_ret ⟨.inr rfl, ?_⟩
      show optK (resA _ _ _ [.tmp 4]) _
      simp only [SR, Option.map_some, Option.bind_some, ↓SP, SX, SW, TY, EN, sv_w, ↓reduceIte, reduceCtorEq, Nat.reduceEqDiff, Nat.reduceAdd, Nat.reduceLeDiff, Nat.reduceLT, Cyc.av, hc10, hg15]
      refine Lend.eq ?_
      congr 1
      unfold cycE
      first
        | rw [if_pos (by omega)]
        | rw [if_neg (by omega), if_pos (by omega)]
        | rw [if_neg (by omega), if_neg (by omega), if_pos (by omega)]
        | rw [if_neg (by omega), if_neg (by omega), if_neg (by omega), if_pos (by omega)]
        | rw [if_neg (by omega), if_neg (by omega), if_neg (by omega), if_neg (by omega), if_pos (by omega)]
        | rw [if_neg (by omega), if_neg (by omega), if_neg (by omega), if_neg (by omega), if_neg (by omega)]
def most : List Int := List.replicate 8 4096
theorem c84 : Pu Tryz.prog (.fn (.func 84) [] []) [] (.lst (most.map I)) := by
  refine pu_func Tryz.func84 rfl (by kernel_rfl) (by show _ ≤ 11; simp only [List.length_append, List.length_cons, List.length_nil]; decide) (by simp only [IDF, and_tt, implies_true]) (by simp only [IDF, and_tt, implies_true]) (by simp only [IDF, and_tt, implies_true]) ?_
  rw [Tryz.ntmps84]
  refine wpT_seq ?_
  refine wpT_region (by kernel_rfl) (fun K hK => ?_)
  simp only [↓SP, SX, SW, TY, EN, sv_w, ↓reduceIte, reduceCtorEq, Nat.reduceEqDiff, Nat.reduceAdd, Nat.reduceLeDiff, Nat.reduceLT]
  refine hK _ _ ?_
  clear hK K
  refine wpT_seq ?_
  refine wpT_region (by kernel_rfl) (fun K hK => ?_)
  simp only [↓SP, SX, SW, TY, EN, sv_w, ↓reduceIte, reduceCtorEq, Nat.reduceEqDiff, Nat.reduceAdd, Nat.reduceLeDiff, Nat.reduceLT]
  refine hK _ _ ?_
  clear hK K
  refine wpT_seq ?_
  refine wpT_seq ?_
  refine wpT_region (by kernel_rfl) (fun K hK => ?_)
  simp only [↓SP, SX, SW, TY, EN, sv_w, ↓reduceIte, reduceCtorEq, Nat.reduceEqDiff, Nat.reduceAdd, Nat.reduceLeDiff, Nat.reduceLT]
  refine hK _ _ ?_
  clear hK K
  refine wpT_block ?_
  refine wpT_loop ?_
  refine wpT_nilown 1 3 1 rfl ?_
  refine wpT_keep1 (i := 0) (o := .arr 3 1 []) (by simp only [↓SP, SX, SW, TY, EN, sv_w, ↓reduceIte, reduceCtorEq, Nat.reduceEqDiff, Nat.reduceAdd, Nat.reduceLeDiff, Nat.reduceLT]) ?_
  refine wpT_ind (fun (i : Nat) tm' h' => (∃ m, h' = Hp.of [(0, .arr 3 1 ((List.replicate i 4096).map I))] (m + 1)) ∧ tm' 1 = .sl 0 i 0 i ∧ tm' 2 = I i ∧ i ≤ 8) (fun i => 8 - i) ?_ 0 ⟨⟨0, rfl⟩, rfl, rfl, by omega⟩
  rintro i tm' _ ⟨⟨m, rfl⟩, e1, e2, hi⟩ IH
  refine wpT_inLoop ?_
  refine wpT_seq ?_
  refine wpT_seq ?_
  refine wpT_region (by kernel_rfl) (fun K hK => ?_)
  simp only [↓SP, SX, SW, TY, EN, sv_w, ↓reduceIte, reduceCtorEq, Nat.reduceEqDiff, Nat.reduceAdd, Nat.reduceLeDiff, Nat.reduceLT, e2]
  refine hK _ _ ?_
  clear hK K
  refine wpT_if (by rfl) (fun hc4 => ?_) (fun hc4 => ?_)
  · skip
    have p4 := hc4
    try simp only [decide_eq_true_eq, decide_eq_false_iff_not, beq_iff_eq, bne_iff_ne, beq_eq_false_iff_ne, bne_eq_false_iff_eq, Bool.not_eq_true', Bool.not_eq_false'] at p4
    have q1 : i + 1 ≤ maxLen := by simp only [maxLen]; omega
    have q2 : (i + 1) * 8 ≤ 140737488355328 := by omega
    refine wpT_skip ?_
    refine wpT_seq ?_
    refine wpT_block ?_
    refine wpT_region (by kernel_rfl) (fun K hK => ?_)
    simp only [↓SP, SX, SW, TY, EN, sv_w, ↓reduceIte, reduceCtorEq, Nat.reduceEqDiff, Nat.reduceAdd, Nat.reduceLeDiff, Nat.reduceLT, e1, q1, q2, hc4]
    refine hK _ _ ?_
    clear hK K
    refine wpT_inBlock ?_
    refine wpT_region (by kernel_rfl) (fun K hK => ?_)
    simp only [↓SP, SX, SW, TY, EN, sv_w, ↓reduceIte, reduceCtorEq, Nat.reduceEqDiff, Nat.reduceAdd, Nat.reduceLeDiff, Nat.reduceLT, e2, wrap64 (x := (i : Int) + 1) (by omega) (by omega), hc4]
    refine hK _ _ ?_
    clear hK K
    refine wpT_keep1 (i := 0) (o := .arr 3 1 ((List.replicate (i + 1) 4096).map I)) (by simp only [↓SP, SX, SW, TY, EN, sv_w, ↓reduceIte, reduceCtorEq, Nat.reduceEqDiff, Nat.reduceAdd, Nat.reduceLeDiff, Nat.reduceLT, List.replicate_succ', List.map_append]) ?_
    refine IH (i + 1) _ _ (by omega) ⟨⟨_, rfl⟩, by simp only [↓SP, SX, SW, TY, EN, sv_w, ↓reduceIte, reduceCtorEq, Nat.reduceEqDiff, Nat.reduceAdd, Nat.reduceLeDiff, Nat.reduceLT], by simp only [↓SP, SX, SW, TY, EN, sv_w, ↓reduceIte, reduceCtorEq, Nat.reduceEqDiff, Nat.reduceAdd, Nat.reduceLeDiff, Nat.reduceLT, Int.natCast_add, Int.cast_ofNat_Int], by omega⟩
  · skip
    have p4 := hc4
    try simp only [decide_eq_true_eq, decide_eq_false_iff_not, beq_iff_eq, bne_iff_ne, beq_eq_false_iff_ne, bne_eq_false_iff_eq, Bool.not_eq_true', Bool.not_eq_false'] at p4
    refine wpT_exit rfl ?_
    refine wpT_seq ?_
    refine wpT_region (by kernel_rfl) (fun K hK => ?_)
    simp only [↓SP, SX, SW, TY, EN, sv_w, ↓reduceIte, reduceCtorEq, Nat.reduceEqDiff, Nat.reduceAdd, Nat.reduceLeDiff, Nat.reduceLT, e1, hc4]
    refine hK _ _ ?_
    clear hK K
    refine wpT_ret ⟨.inr rfl, ?_⟩
    show optK (resA _ _ _ [.tmp 0]) _
    simp only [SR, Option.map_some, Option.bind_some, ↓SP, SX, SW, TY, EN, sv_w, ↓reduceIte, reduceCtorEq, Nat.reduceEqDiff, Nat.reduceAdd, Nat.reduceLeDiff, Nat.reduceLT, hc4]
    have h8 : i = 8 := by omega
    subst h8
    exact Lend.sl0 (id := 0) (E := 3) (s := 1) (n := 8) (es := most.map I) (by rfl) (by simp [most]) (by simp [AV.okc])
def maxR : Int → List Int → Int
  | m, [] => m
  | m, x :: xs => maxR (if x > m then x else m) xs
def newR (f : Fan) : Int := match f.kept.getLast? with
  | some c => c.num
  | none => maxR 0 f.app
theorem c85 (f : Fan) (hf : f.ok) : Pu Tryz.prog (.fn (.func 85) [] []) [f.av] (I (newR f)) := by
  refine pu_func Tryz.func85 rfl (by kernel_rfl) (by show _ ≤ 33; simp only [List.length_append, List.length_cons, List.length_nil]; decide) (by simp only [IDF]) (by simp only [IDF, and_tt, implies_true]) (by simp only [IDF, fan_idf, and_tt, implies_true]) ?_
  have hk := hf.1
  have ha := hf.2.1
  rw [Tryz.ntmps85]
  refine wpT_seq ?_
  refine wpT_region (by kernel_rfl) (fun K hK => ?_)
  simp only [↓SP, SX, SW, TY, EN, sv_w, ↓reduceIte, reduceCtorEq, Nat.reduceEqDiff, Nat.reduceAdd, Nat.reduceLeDiff, Nat.reduceLT, Fan.av, cyc_cs]
  refine hK _ _ ?_
  clear hK K
  refine wpT_seq ?_
  refine wpT_seq ?_
  refine wpT_region (by kernel_rfl) (fun K hK => ?_)
  simp only [↓SP, SX, SW, TY, EN, sv_w, ↓reduceIte, reduceCtorEq, Nat.reduceEqDiff, Nat.reduceAdd, Nat.reduceLeDiff, Nat.reduceLT, Fan.av, cyc_cs]
  refine hK _ _ ?_
  clear hK K
  refine wpT_seq ?_
  refine wpT_region (by kernel_rfl) (fun K hK => ?_)
  simp only [↓SP, SX, SW, TY, EN, sv_w, ↓reduceIte, reduceCtorEq, Nat.reduceEqDiff, Nat.reduceAdd, Nat.reduceLeDiff, Nat.reduceLT, Fan.av, cyc_cs]
  refine hK _ _ ?_
  clear hK K
  refine wpT_if (by rfl) (fun hc10 => ?_) (fun hc10 => ?_)
  · skip
    have p10 := hc10
    try simp only [decide_eq_true_eq, decide_eq_false_iff_not, beq_iff_eq, bne_iff_ne, beq_eq_false_iff_ne, bne_eq_false_iff_eq, Bool.not_eq_true', Bool.not_eq_false'] at p10
    have hlt : f.kept.length - 1 < f.kept.length := by omega
    have hg := at_map (f := Cyc.av) hlt
    have hw1 : IntKind.i64.wrap ((f.kept.length : Int) - 1) = ((f.kept.length - 1 : Nat) : Int) := by rw [wrap64 (by omega) (by omega)]; omega
    have hx : newR f = f.kept[f.kept.length - 1].num := by
      unfold newR
      rw [List.getLast?_eq_getElem?, List.getElem?_eq_getElem hlt]
    refine wpT_seq ?_
    refine wpT_region (by kernel_rfl) (fun K hK => ?_)
    simp only [↓SP, SX, SW, TY, EN, sv_w, ↓reduceIte, reduceCtorEq, Nat.reduceEqDiff, Nat.reduceAdd, Nat.reduceLeDiff, Nat.reduceLT, Fan.av, cyc_cs, hw1, hg, hc10]
    refine hK _ _ ?_
    clear hK K
    refine wpT_ret ⟨.inr rfl, ?_⟩
    show optK (resA _ _ _ [.tmp 2]) _
    simp only [SR, Option.map_some, Option.bind_some, ↓SP, SX, SW, TY, EN, sv_w, ↓reduceIte, reduceCtorEq, Nat.reduceEqDiff, Nat.reduceAdd, Nat.reduceLeDiff, Nat.reduceLT, Fan.av, cyc_cs, hc10]
    refine Lend.eq ?_
    rw [hx]
  · skip
    have p10 := hc10
    try simp only [decide_eq_true_eq, decide_eq_false_iff_not, beq_iff_eq, bne_iff_ne, beq_eq_false_iff_ne, bne_eq_false_iff_eq, Bool.not_eq_true', Bool.not_eq_false'] at p10
    have hx : newR f = maxR 0 f.app := by
      unfold newR
      have : f.kept = [] := List.eq_nil_of_length_eq_zero (by omega)
      rw [this]; rfl
    refine wpT_skip ?_
    refine wpT_seq ?_
    refine wpT_region (by kernel_rfl) (fun K hK => ?_)
    simp only [↓SP, SX, SW, TY, EN, sv_w, ↓reduceIte, reduceCtorEq, Nat.reduceEqDiff, Nat.reduceAdd, Nat.reduceLeDiff, Nat.reduceLT, Fan.av, cyc_cs, hc10]
    refine hK _ _ ?_
    clear hK K
    refine wpT_seq ?_
    refine wpT_seq ?_
    refine wpT_region (by kernel_rfl) (fun K hK => ?_)
    simp only [↓SP, SX, SW, TY, EN, sv_w, ↓reduceIte, reduceCtorEq, Nat.reduceEqDiff, Nat.reduceAdd, Nat.reduceLeDiff, Nat.reduceLT, Fan.av, cyc_cs, hc10]
    refine hK _ _ ?_
    clear hK K
    refine wpT_block ?_
    refine wpT_loop ?_
    refine wpT_keep1 (i := 0) (o := .arr 49 4 [f.av]) (by simp only [↓SP, SX, SW, TY, EN, sv_w, ↓reduceIte, reduceCtorEq, Nat.reduceEqDiff, Nat.reduceAdd, Nat.reduceLeDiff, Nat.reduceLT, Fan.av, cyc_cs]) ?_
    rw [hx]
    clear hx
    refine wpT_ind (fun (i : Nat) tm' h' => (∃ m, h' = Hp.of [(0, .arr 49 4 [f.av])] (m + 1)) ∧ tm' 1 = .ptr 0 1 0 0 ∧ (∃ a, tm' 4 = I a ∧ maxR a (f.app.drop i) = maxR 0 f.app) ∧ tm' 5 = I i ∧ i ≤ f.app.length) (fun i => f.app.length - i) ?_ 0 ⟨⟨0, rfl⟩, rfl, ⟨0, rfl, rfl⟩, rfl, by omega⟩
    rintro i tm' _ ⟨⟨m, rfl⟩, e1, ⟨a, e4, hx⟩, e5, hi⟩ IH
    refine wpT_inLoop ?_
    refine wpT_seq ?_
    refine wpT_seq ?_
    refine wpT_region (by kernel_rfl) (fun K hK => ?_)
    simp only [↓SP, SX, SW, TY, EN, sv_w, ↓reduceIte, reduceCtorEq, Nat.reduceEqDiff, Nat.reduceAdd, Nat.reduceLeDiff, Nat.reduceLT, Fan.av, cyc_cs, e1, e5]
    refine hK _ _ ?_
    clear hK K
    refine wpT_if (by rfl) (fun hc22 => ?_) (fun hc22 => ?_)
    · skip
      have p22 := hc22
      try simp only [decide_eq_true_eq, decide_eq_false_iff_not, beq_iff_eq, bne_iff_ne, beq_eq_false_iff_ne, bne_eq_false_iff_eq, Bool.not_eq_true', Bool.not_eq_false'] at p22
      have hlt : i < f.app.length := by omega
      have hg := at_map (f := I) hlt
      rw [List.drop_eq_getElem_cons hlt, maxR] at hx
      refine wpT_skip ?_
      refine wpT_seq ?_
      refine wpT_block ?_
      refine wpT_region (by kernel_rfl) (fun K hK => ?_)
      simp only [↓SP, SX, SW, TY, EN, sv_w, ↓reduceIte, reduceCtorEq, Nat.reduceEqDiff, Nat.reduceAdd, Nat.reduceLeDiff, Nat.reduceLT, Fan.av, cyc_cs, e1, e4, e5, hg, hc22]
      refine hK _ _ ?_
      clear hK K
      refine wpT_inBlock ?_
      refine wpT_region (by kernel_rfl) (fun K hK => ?_)
      simp only [↓SP, SX, SW, TY, EN, sv_w, ↓reduceIte, reduceCtorEq, Nat.reduceEqDiff, Nat.reduceAdd, Nat.reduceLeDiff, Nat.reduceLT, Fan.av, cyc_cs, e5, wrap64 (x := (i : Int) + 1) (by omega) (by omega), hc22]
      refine hK _ _ ?_
      clear hK K
      refine wpT_keep1 (i := 0) (o := .arr 49 4 [f.av]) (by simp only [↓SP, SX, SW, TY, EN, sv_w, ↓reduceIte, reduceCtorEq, Nat.reduceEqDiff, Nat.reduceAdd, Nat.reduceLeDiff, Nat.reduceLT, Fan.av, cyc_cs]) ?_
      refine IH (i + 1) _ _ (by omega) ⟨⟨_, rfl⟩, by simp only [↓SP, SX, SW, TY, EN, sv_w, ↓reduceIte, reduceCtorEq, Nat.reduceEqDiff, Nat.reduceAdd, Nat.reduceLeDiff, Nat.reduceLT, Fan.av, cyc_cs, e1], ⟨_, by simp only [↓SP, SX, SW, TY, EN, sv_w, ↓reduceIte, reduceCtorEq, Nat.reduceEqDiff, Nat.reduceAdd, Nat.reduceLeDiff, Nat.reduceLT, Fan.av, cyc_cs], hx⟩, by simp only [↓SP, SX, SW, TY, EN, sv_w, ↓reduceIte, reduceCtorEq, Nat.reduceEqDiff, Nat.reduceAdd, Nat.reduceLeDiff, Nat.reduceLT, Fan.av, cyc_cs, Int.natCast_add, Int.cast_ofNat_Int], by omega⟩
    · skip
      have p22 := hc22
      try simp only [decide_eq_true_eq, decide_eq_false_iff_not, beq_iff_eq, bne_iff_ne, beq_eq_false_iff_ne, bne_eq_false_iff_eq, Bool.not_eq_true', Bool.not_eq_false'] at p22
      rw [List.drop_eq_nil_of_le (by omega), maxR] at hx
      refine wpT_exit rfl ?_
      refine wpT_seq ?_
      refine wpT_region (by kernel_rfl) (fun K hK => ?_)
      simp only [↓SP, SX, SW, TY, EN, sv_w, ↓reduceIte, reduceCtorEq, Nat.reduceEqDiff, Nat.reduceAdd, Nat.reduceLeDiff, Nat.reduceLT, Fan.av, cyc_cs, e4, hc22]
      refine hK _ _ ?_
      clear hK K
      refine wpT_ret ⟨.inr rfl, ?_⟩
      show optK (resA _ _ _ [.tmp 2]) _
      simp only [SR, Option.map_some, Option.bind_some, ↓SP, SX, SW, TY, EN, sv_w, ↓reduceIte, reduceCtorEq, Nat.reduceEqDiff, Nat.reduceAdd, Nat.reduceLeDiff, Nat.reduceLT, Fan.av, cyc_cs, hc22]
      refine Lend.eq ?_
      rw [hx]
def leastL : Int → List Int → List Bool → Int
  | o, a :: xs, l :: ls => leastL (if !l && (decide (o < 0) || decide (a < o)) then a else o) xs ls
  | o, _, _ => o
theorem c82 (f : Fan) (hf : f.ok) (hlen : f.lost.length = f.app.length) : Pu Tryz.prog (.fn (.func 82) [] []) [f.av] (I (leastL (-1) f.app f.lost)) := by
  refine pu_func Tryz.func82 rfl (by kernel_rfl) (by show _ ≤ 37; simp only [List.length_append, List.length_cons, List.length_nil]; decide) (by simp only [IDF]) (by simp only [IDF, and_tt, implies_true]) (by simp only [IDF, fan_idf, and_tt, implies_true]) ?_
  have ha := hf.2.1
  rw [Tryz.ntmps82]
  refine wpT_seq ?_
  refine wpT_region (by kernel_rfl) (fun K hK => ?_)
  simp only [↓SP, SX, SW, TY, EN, sv_w, ↓reduceIte, reduceCtorEq, Nat.reduceEqDiff, Nat.reduceAdd, Nat.reduceLeDiff, Nat.reduceLT, Fan.av, cyc_cs, ty47]
  refine hK _ _ ?_
  clear hK K
  refine wpT_seq ?_
  refine wpT_region (by kernel_rfl) (fun K hK => ?_)
  simp only [↓SP, SX, SW, TY, EN, sv_w, ↓reduceIte, reduceCtorEq, Nat.reduceEqDiff, Nat.reduceAdd, Nat.reduceLeDiff, Nat.reduceLT, Fan.av, cyc_cs, ty47]
  refine hK _ _ ?_
  clear hK K
  refine wpT_seq ?_
  refine wpT_seq ?_
  refine wpT_region (by kernel_rfl) (fun K hK => ?_)
  simp only [↓SP, SX, SW, TY, EN, sv_w, ↓reduceIte, reduceCtorEq, Nat.reduceEqDiff, Nat.reduceAdd, Nat.reduceLeDiff, Nat.reduceLT, Fan.av, cyc_cs, ty47]
  refine hK _ _ ?_
  clear hK K
  refine wpT_block ?_
  refine wpT_loop ?_
  refine wpT_keep1 (i := 0) (o := .arr 49 4 [f.av]) (by simp only [↓SP, SX, SW, TY, EN, sv_w, ↓reduceIte, reduceCtorEq, Nat.reduceEqDiff, Nat.reduceAdd, Nat.reduceLeDiff, Nat.reduceLT, Fan.av, cyc_cs]) ?_
  refine wpT_ind (fun (i : Nat) tm' h' => (∃ m, h' = Hp.of [(0, .arr 49 4 [f.av])] (m + 1)) ∧ tm' 1 = .ptr 0 1 0 0 ∧ (∃ a, tm' 3 = I a ∧ leastL a (f.app.drop i) (f.lost.drop i) = leastL (-1) f.app f.lost) ∧ tm' 4 = I i ∧ i ≤ f.app.length) (fun i => f.app.length - i) ?_ 0 ⟨⟨0, rfl⟩, rfl, ⟨-1, rfl, rfl⟩, rfl, by omega⟩
  rintro i tm' _ ⟨⟨m, rfl⟩, e1, ⟨a, e3, hx⟩, e4, hi⟩ IH
  refine wpT_inLoop ?_
  refine wpT_seq ?_
  refine wpT_seq ?_
  refine wpT_region (by kernel_rfl) (fun K hK => ?_)
  simp only [↓SP, SX, SW, TY, EN, sv_w, ↓reduceIte, reduceCtorEq, Nat.reduceEqDiff, Nat.reduceAdd, Nat.reduceLeDiff, Nat.reduceLT, Fan.av, cyc_cs, ty47, e1, e4]
  refine hK _ _ ?_
  clear hK K
  refine wpT_if (by rfl) (fun hc9 => ?_) (fun hc9 => ?_)
  · skip
    have p9 := hc9
    try simp only [decide_eq_true_eq, decide_eq_false_iff_not, beq_iff_eq, bne_iff_ne, beq_eq_false_iff_ne, bne_eq_false_iff_eq, Bool.not_eq_true', Bool.not_eq_false'] at p9
    have hlt : i < f.app.length := by omega
    have hlt' : i < f.lost.length := by omega
    have hg := at_map (f := I) hlt
    have hg' := at_map (f := B) hlt'
    rw [List.drop_eq_getElem_cons hlt, List.drop_eq_getElem_cons hlt', leastL] at hx
    refine wpT_skip ?_
    refine wpT_seq ?_
    refine wpT_block ?_
    refine wpT_seq ?_
    refine wpT_region (by kernel_rfl) (fun K hK => ?_)
    simp only [↓SP, SX, SW, TY, EN, sv_w, ↓reduceIte, reduceCtorEq, Nat.reduceEqDiff, Nat.reduceAdd, Nat.reduceLeDiff, Nat.reduceLT, Fan.av, cyc_cs, ty47, e1, e3, e4, hg, hg', hc9]
    refine guardO_split (fun hg18 => ?_) (fun hg18 => ?_)
    · skip
      have p18 := hg18
      try simp only [decide_eq_true_eq, decide_eq_false_iff_not, beq_iff_eq, bne_iff_ne, beq_eq_false_iff_ne, bne_eq_false_iff_eq, Bool.not_eq_true', Bool.not_eq_false'] at p18
      simp only [↓SP, SX, SW, TY, EN, sv_w, ↓reduceIte, reduceCtorEq, Nat.reduceEqDiff, Nat.reduceAdd, Nat.reduceLeDiff, Nat.reduceLT, Fan.av, cyc_cs, ty47, e1, e3, e4, hg, hg', hc9, hg18]
      refine guardO_split (fun hg21 => ?_) (fun hg21 => ?_)
      · skip
        have p21 := hg21
        try simp only [decide_eq_true_eq, decide_eq_false_iff_not, beq_iff_eq, bne_iff_ne, beq_eq_false_iff_ne, bne_eq_false_iff_eq, Bool.not_eq_true', Bool.not_eq_false'] at p21
        simp only [↓SP, SX, SW, TY, EN, sv_w, ↓reduceIte, reduceCtorEq, Nat.reduceEqDiff, Nat.reduceAdd, Nat.reduceLeDiff, Nat.reduceLT, Fan.av, cyc_cs, ty47, e1, e3, e4, hg, hg', hc9, hg18, hg21]
        refine hK _ _ ?_
        clear hK K
        refine wpT_if (by rfl) (fun hc30 => ?_) (fun hc30 => ?_)
        · skip
          have p30 := hc30
          try simp only [decide_eq_true_eq, decide_eq_false_iff_not, beq_iff_eq, bne_iff_ne, beq_eq_false_iff_ne, bne_eq_false_iff_eq, Bool.not_eq_true', Bool.not_eq_false'] at p30
          rw [if_pos (by simp_all)] at hx
          refine wpT_region (by kernel_rfl) (fun K hK => ?_)
          simp only [↓SP, SX, SW, TY, EN, sv_w, ↓reduceIte, reduceCtorEq, Nat.reduceEqDiff, Nat.reduceAdd, Nat.reduceLeDiff, Nat.reduceLT, Fan.av, cyc_cs, ty47, e1, e4, hg, hc9, hg18, hg21, hc30]
          refine hK _ _ ?_
          clear hK K
          refine wpT_inBlock ?_
          refine wpT_region (by kernel_rfl) (fun K hK => ?_)
          simp only [↓SP, SX, SW, TY, EN, sv_w, ↓reduceIte, reduceCtorEq, Nat.reduceEqDiff, Nat.reduceAdd, Nat.reduceLeDiff, Nat.reduceLT, Fan.av, cyc_cs, ty47, e4, wrap64 (x := (i : Int) + 1) (by omega) (by omega), hc9, hg18, hg21, hc30]
          refine hK _ _ ?_
          clear hK K
          refine wpT_keep1 (i := 0) (o := .arr 49 4 [f.av]) (by simp only [↓SP, SX, SW, TY, EN, sv_w, ↓reduceIte, reduceCtorEq, Nat.reduceEqDiff, Nat.reduceAdd, Nat.reduceLeDiff, Nat.reduceLT, Fan.av, cyc_cs]) ?_
          refine IH (i + 1) _ _ (by omega) ⟨⟨_, rfl⟩, by simp only [↓SP, SX, SW, TY, EN, sv_w, ↓reduceIte, reduceCtorEq, Nat.reduceEqDiff, Nat.reduceAdd, Nat.reduceLeDiff, Nat.reduceLT, Fan.av, cyc_cs, e1], ⟨_, by simp only [↓SP, SX, SW, TY, EN, sv_w, ↓reduceIte, reduceCtorEq, Nat.reduceEqDiff, Nat.reduceAdd, Nat.reduceLeDiff, Nat.reduceLT, Fan.av, cyc_cs, e3], hx⟩, by simp only [↓SP, SX, SW, TY, EN, sv_w, ↓reduceIte, reduceCtorEq, Nat.reduceEqDiff, Nat.reduceAdd, Nat.reduceLeDiff, Nat.reduceLT, Fan.av, cyc_cs, Int.natCast_add, Int.cast_ofNat_Int], by omega⟩
        · skip
          have p30 := hc30
          try simp only [decide_eq_true_eq, decide_eq_false_iff_not, beq_iff_eq, bne_iff_ne, beq_eq_false_iff_ne, bne_eq_false_iff_eq, Bool.not_eq_true', Bool.not_eq_false'] at p30
          rw [if_neg (by simp_all)] at hx
          refine wpT_skip ?_
          refine wpT_inBlock ?_
          refine wpT_region (by kernel_rfl) (fun K hK => ?_)
          simp only [↓SP, SX, SW, TY, EN, sv_w, ↓reduceIte, reduceCtorEq, Nat.reduceEqDiff, Nat.reduceAdd, Nat.reduceLeDiff, Nat.reduceLT, Fan.av, cyc_cs, ty47, e4, wrap64 (x := (i : Int) + 1) (by omega) (by omega), hc9, hg18, hg21, hc30]
          refine hK _ _ ?_
          clear hK K
          refine wpT_keep1 (i := 0) (o := .arr 49 4 [f.av]) (by simp only [↓SP, SX, SW, TY, EN, sv_w, ↓reduceIte, reduceCtorEq, Nat.reduceEqDiff, Nat.reduceAdd, Nat.reduceLeDiff, Nat.reduceLT, Fan.av, cyc_cs]) ?_
          refine IH (i + 1) _ _ (by omega) ⟨⟨_, rfl⟩, by simp only [↓SP, SX, SW, TY, EN, sv_w, ↓reduceIte, reduceCtorEq, Nat.reduceEqDiff, Nat.reduceAdd, Nat.reduceLeDiff, Nat.reduceLT, Fan.av, cyc_cs, e1], ⟨_, by simp only [↓SP, SX, SW, TY, EN, sv_w, ↓reduceIte, reduceCtorEq, Nat.reduceEqDiff, Nat.reduceAdd, Nat.reduceLeDiff, Nat.reduceLT, Fan.av, cyc_cs, e3], hx⟩, by simp only [↓SP, SX, SW, TY, EN, sv_w, ↓reduceIte, reduceCtorEq, Nat.reduceEqDiff, Nat.reduceAdd, Nat.reduceLeDiff, Nat.reduceLT, Fan.av, cyc_cs, Int.natCast_add, Int.cast_ofNat_Int], by omega⟩
      · skip
        simp only [Bool.not_true, Bool.not_false] at hg21
        have p21 := hg21
        try simp only [decide_eq_true_eq, decide_eq_false_iff_not, beq_iff_eq, bne_iff_ne, beq_eq_false_iff_ne, bne_eq_false_iff_eq, Bool.not_eq_true', Bool.not_eq_false'] at p21
        simp only [↓SP, SX, SW, TY, EN, sv_w, ↓reduceIte, reduceCtorEq, Nat.reduceEqDiff, Nat.reduceAdd, Nat.reduceLeDiff, Nat.reduceLT, Fan.av, cyc_cs, ty47, e1, e3, e4, hg, hg', hc9, hg18, hg21]
        refine hK _ _ ?_
        clear hK K
        refine wpT_ifT (by simp only [↓SP, SX, SW, TY, EN, sv_w, ↓reduceIte, reduceCtorEq, Nat.reduceEqDiff, Nat.reduceAdd, Nat.reduceLeDiff, Nat.reduceLT, Fan.av, cyc_cs, ty47, hc9, hg18, hg21]) ?_
        rw [if_pos (by simp_all)] at hx
        refine wpT_region (by kernel_rfl) (fun K hK => ?_)
        simp only [↓SP, SX, SW, TY, EN, sv_w, ↓reduceIte, reduceCtorEq, Nat.reduceEqDiff, Nat.reduceAdd, Nat.reduceLeDiff, Nat.reduceLT, Fan.av, cyc_cs, ty47, e1, e4, hg, hc9, hg18, hg21]
        refine hK _ _ ?_
        clear hK K
        refine wpT_inBlock ?_
        refine wpT_region (by kernel_rfl) (fun K hK => ?_)
        simp only [↓SP, SX, SW, TY, EN, sv_w, ↓reduceIte, reduceCtorEq, Nat.reduceEqDiff, Nat.reduceAdd, Nat.reduceLeDiff, Nat.reduceLT, Fan.av, cyc_cs, ty47, e4, wrap64 (x := (i : Int) + 1) (by omega) (by omega), hc9, hg18, hg21]
        refine hK _ _ ?_
        clear hK K
        refine wpT_keep1 (i := 0) (o := .arr 49 4 [f.av]) (by simp only [↓SP, SX, SW, TY, EN, sv_w, ↓reduceIte, reduceCtorEq, Nat.reduceEqDiff, Nat.reduceAdd, Nat.reduceLeDiff, Nat.reduceLT, Fan.av, cyc_cs]) ?_
        refine IH (i + 1) _ _ (by omega) ⟨⟨_, rfl⟩, by simp only [↓SP, SX, SW, TY, EN, sv_w, ↓reduceIte, reduceCtorEq, Nat.reduceEqDiff, Nat.reduceAdd, Nat.reduceLeDiff, Nat.reduceLT, Fan.av, cyc_cs, e1], ⟨_, by simp only [↓SP, SX, SW, TY, EN, sv_w, ↓reduceIte, reduceCtorEq, Nat.reduceEqDiff, Nat.reduceAdd, Nat.reduceLeDiff, Nat.reduceLT, Fan.av, cyc_cs, e3], hx⟩, by simp only [↓SP, SX, SW, TY, EN, sv_w, ↓reduceIte, reduceCtorEq, Nat.reduceEqDiff, Nat.reduceAdd, Nat.reduceLeDiff, Nat.reduceLT, Fan.av, cyc_cs, Int.natCast_add, Int.cast_ofNat_Int], by omega⟩
    · skip
      simp only [Bool.not_true, Bool.not_false] at hg18
      have p18 := hg18
      try simp only [decide_eq_true_eq, decide_eq_false_iff_not, beq_iff_eq, bne_iff_ne, beq_eq_false_iff_ne, bne_eq_false_iff_eq, Bool.not_eq_true', Bool.not_eq_false'] at p18
      simp only [↓SP, SX, SW, TY, EN, sv_w, ↓reduceIte, reduceCtorEq, Nat.reduceEqDiff, Nat.reduceAdd, Nat.reduceLeDiff, Nat.reduceLT, Fan.av, cyc_cs, ty47, e1, e3, e4, hg, hg', hc9, hg18]
      refine hK _ _ ?_
      clear hK K
      refine wpT_ifF (by simp only [↓SP, SX, SW, TY, EN, sv_w, ↓reduceIte, reduceCtorEq, Nat.reduceEqDiff, Nat.reduceAdd, Nat.reduceLeDiff, Nat.reduceLT, Fan.av, cyc_cs, ty47, hc9, hg18]) ?_
      rw [if_neg (by simp_all)] at hx
      refine wpT_skip ?_
      refine wpT_inBlock ?_
      refine wpT_region (by kernel_rfl) (fun K hK => ?_)
      simp only [↓SP, SX, SW, TY, EN, sv_w, ↓reduceIte, reduceCtorEq, Nat.reduceEqDiff, Nat.reduceAdd, Nat.reduceLeDiff, Nat.reduceLT, Fan.av, cyc_cs, ty47, e4, wrap64 (x := (i : Int) + 1) (by omega) (by omega), hc9, hg18]
      refine hK _ _ ?_
      clear hK K
      refine wpT_keep1 (i := 0) (o := .arr 49 4 [f.av]) (by simp only [↓SP, SX, SW, TY, EN, sv_w, ↓reduceIte, reduceCtorEq, Nat.reduceEqDiff, Nat.reduceAdd, Nat.reduceLeDiff, Nat.reduceLT, Fan.av, cyc_cs]) ?_
      refine IH (i + 1) _ _ (by omega) ⟨⟨_, rfl⟩, by simp only [↓SP, SX, SW, TY, EN, sv_w, ↓reduceIte, reduceCtorEq, Nat.reduceEqDiff, Nat.reduceAdd, Nat.reduceLeDiff, Nat.reduceLT, Fan.av, cyc_cs, e1], ⟨_, by simp only [↓SP, SX, SW, TY, EN, sv_w, ↓reduceIte, reduceCtorEq, Nat.reduceEqDiff, Nat.reduceAdd, Nat.reduceLeDiff, Nat.reduceLT, Fan.av, cyc_cs, e3], hx⟩, by simp only [↓SP, SX, SW, TY, EN, sv_w, ↓reduceIte, reduceCtorEq, Nat.reduceEqDiff, Nat.reduceAdd, Nat.reduceLeDiff, Nat.reduceLT, Fan.av, cyc_cs, Int.natCast_add, Int.cast_ofNat_Int], by omega⟩
  · skip
    have p9 := hc9
    try simp only [decide_eq_true_eq, decide_eq_false_iff_not, beq_iff_eq, bne_iff_ne, beq_eq_false_iff_ne, bne_eq_false_iff_eq, Bool.not_eq_true', Bool.not_eq_false'] at p9
    rw [List.drop_eq_nil_of_le (by omega), List.drop_eq_nil_of_le (by omega), leastL.eq_2 _ _ _ (by simp)] at hx
    refine wpT_exit rfl ?_
    refine wpT_seq ?_
    refine wpT_region (by kernel_rfl) (fun K hK => ?_)
    simp only [↓SP, SX, SW, TY, EN, sv_w, ↓reduceIte, reduceCtorEq, Nat.reduceEqDiff, Nat.reduceAdd, Nat.reduceLeDiff, Nat.reduceLT, Fan.av, cyc_cs, ty47, e3, hc9]
    refine hK _ _ ?_
    clear hK K
    refine wpT_ret ⟨.inr rfl, ?_⟩
    show optK (resA _ _ _ [.tmp 2]) _
    simp only [SR, Option.map_some, Option.bind_some, ↓SP, SX, SW, TY, EN, sv_w, ↓reduceIte, reduceCtorEq, Nat.reduceEqDiff, Nat.reduceAdd, Nat.reduceLeDiff, Nat.reduceLT, Fan.av, cyc_cs, ty47, hc9]
    refine Lend.eq ?_
    rw [hx]
end Go.Proofs.YtlmjpgmaefokdaaGreat
end

section
set_option linter.unusedSimpArgs false
set_option linter.unusedVariables false
namespace Go.Proofs.YtlmjpgmaefokdaaGreat
open Go.Proofs
set_option maxRecDepth 10000
def numIn (n : Int) : List Cyc → Bool
  | [] => false
  | c :: cs => if c.num = n then true else numIn n cs
def headB (n : Int) : List Cyc → Bool
  | [] => false
  | c :: _ => decide (n = c.base)
theorem headB_at {n : Int} : ∀ {xs : List Cyc} (h : 0 < xs.length), headB n xs = decide (n = xs[0].base)
  | _ :: _, _ => rfl
def boundR (f : Fan) (n : Int) : Bool := decide (n = newR f) || headB n f.kept || numIn n f.kept
theorem c99 (f : Fan) (n : Int) (hf : f.ok) : Pu Tryz.prog (.fn (.func 99) [] []) [f.av, I n] (B (boundR f n)) := by
  refine pu_func Tryz.func99 rfl (by kernel_rfl) (by show _ ≤ 40; simp only [List.length_append, List.length_cons, List.length_nil]; decide) (by simp only [IDF]) (by simp only [IDF, and_tt, implies_true]) (by simp only [IDF, fan_idf, and_tt, implies_true]) ?_
  have hk := hf.1
  rw [Tryz.ntmps99]
  refine wpT_seq ?_
  refine wpT_region (by kernel_rfl) (fun K hK => ?_)
  simp only [↓SP, SX, SW, TY, EN, sv_w, ↓reduceIte, reduceCtorEq, Nat.reduceEqDiff, Nat.reduceAdd, Nat.reduceLeDiff, Nat.reduceLT, Fan.av, cyc_cs]
  refine hK _ _ ?_
  clear hK K
  refine wpT_seq ?_
  refine wpT_seq ?_
  refine wpT_region (by kernel_rfl) (fun K hK => ?_)
  simp only [↓SP, SX, SW, TY, EN, sv_w, ↓reduceIte, reduceCtorEq, Nat.reduceEqDiff, Nat.reduceAdd, Nat.reduceLeDiff, Nat.reduceLT, Fan.av, cyc_cs]
  refine Pu.call (c85 _ hf) ?_
  simp only [↓SP, SX, SW, TY, EN, sv_w, ↓reduceIte, reduceCtorEq, Nat.reduceEqDiff, Nat.reduceAdd, Nat.reduceLeDiff, Nat.reduceLT, Fan.av, cyc_cs]
  refine guardO_split (fun hg10 => ?_) (fun hg10 => ?_)
  · skip
    have p10 := hg10
    try simp only [decide_eq_true_eq, decide_eq_false_iff_not, beq_iff_eq, bne_iff_ne, beq_eq_false_iff_ne, bne_eq_false_iff_eq, Bool.not_eq_true', Bool.not_eq_false'] at p10
    simp only [↓SP, SX, SW, TY, EN, sv_w, ↓reduceIte, reduceCtorEq, Nat.reduceEqDiff, Nat.reduceAdd, Nat.reduceLeDiff, Nat.reduceLT, Fan.av, cyc_cs, hg10]
    refine guardO_split (fun hg15 => ?_) (fun hg15 => ?_)
    · skip
      have p15 := hg15
      try simp only [decide_eq_true_eq, decide_eq_false_iff_not, beq_iff_eq, bne_iff_ne, beq_eq_false_iff_ne, bne_eq_false_iff_eq, Bool.not_eq_true', Bool.not_eq_false'] at p15
      have h0 : 0 < f.kept.length := by omega
      have hg0 := at_map (f := Cyc.av) h0
      have hh : headB n f.kept = decide (n = f.kept[0].base) := headB_at h0
      simp only [↓SP, SX, SW, TY, EN, sv_w, ↓reduceIte, reduceCtorEq, Nat.reduceEqDiff, Nat.reduceAdd, Nat.reduceLeDiff, Nat.reduceLT, Fan.av, cyc_cs, hg10, hg0, hg15]
      refine hK _ _ ?_
      clear hK K
      refine wpT_if (by rfl) (fun hc24 => ?_) (fun hc24 => ?_)
      · skip
        have p24 := hc24
        try simp only [decide_eq_true_eq, decide_eq_false_iff_not, beq_iff_eq, bne_iff_ne, beq_eq_false_iff_ne, bne_eq_false_iff_eq, Bool.not_eq_true', Bool.not_eq_false'] at p24
        have hx : boundR f n = true := by unfold boundR; simp_all
        refine wpT_seq ?_
        refine wpT_region (by kernel_rfl) (fun K hK => ?_)
        simp only [↓SP, SX, SW, TY, EN, sv_w, ↓reduceIte, reduceCtorEq, Nat.reduceEqDiff, Nat.reduceAdd, Nat.reduceLeDiff, Nat.reduceLT, Fan.av, cyc_cs, hg10, hg0, hg15, hc24]
        refine hK _ _ ?_
        clear hK K
        refine wpT_ret ⟨.inr rfl, ?_⟩
        show optK (resA _ _ _ [.tmp 4]) _
        simp only [SR, Option.map_some, Option.bind_some, ↓SP, SX, SW, TY, EN, sv_w, ↓reduceIte, reduceCtorEq, Nat.reduceEqDiff, Nat.reduceAdd, Nat.reduceLeDiff, Nat.reduceLT, Fan.av, cyc_cs, hg10, hg0, hg15, hc24]
        refine Lend.eq ?_
        rw [hx]
      · skip
        have p24 := hc24
        try simp only [decide_eq_true_eq, decide_eq_false_iff_not, beq_iff_eq, bne_iff_ne, beq_eq_false_iff_ne, bne_eq_false_iff_eq, Bool.not_eq_true', Bool.not_eq_false'] at p24
        have hx : boundR f n = numIn n f.kept := by unfold boundR; simp_all
        refine wpT_skip ?_
        refine wpT_seq ?_
        refine wpT_seq ?_
        refine wpT_region (by kernel_rfl) (fun K hK => ?_)
        simp only [↓SP, SX, SW, TY, EN, sv_w, ↓reduceIte, reduceCtorEq, Nat.reduceEqDiff, Nat.reduceAdd, Nat.reduceLeDiff, Nat.reduceLT, Fan.av, cyc_cs, hg10, hg0, hg15, hc24]
        refine hK _ _ ?_
        clear hK K
        refine wpT_block ?_
        refine wpT_loop ?_
        refine wpT_keep1 (i := 0) (o := .arr 49 4 [f.av]) (by simp only [↓SP, SX, SW, TY, EN, sv_w, ↓reduceIte, reduceCtorEq, Nat.reduceEqDiff, Nat.reduceAdd, Nat.reduceLeDiff, Nat.reduceLT, Fan.av]) ?_
        rw [hx]
        clear hx
        refine wpT_ind (fun (i : Nat) tm' h' => (∃ m, h' = Hp.of [(0, .arr 49 4 [f.av])] (m + 1)) ∧ tm' 2 = .ptr 0 1 0 0 ∧ tm' 1 = I n ∧ tm' 5 = I i ∧ i ≤ f.kept.length ∧ numIn n (f.kept.drop i) = numIn n f.kept) (fun i => f.kept.length - i) ?_ 0 ⟨⟨0, rfl⟩, rfl, rfl, rfl, by omega, rfl⟩
        rintro i tm' _ ⟨⟨m, rfl⟩, e2, e1, e5, hi, hx⟩ IH
        refine wpT_inLoop ?_
        refine wpT_seq ?_
        refine wpT_seq ?_
        refine wpT_region (by kernel_rfl) (fun K hK => ?_)
        simp only [↓SP, SX, SW, TY, EN, sv_w, ↓reduceIte, reduceCtorEq, Nat.reduceEqDiff, Nat.reduceAdd, Nat.reduceLeDiff, Nat.reduceLT, Fan.av, cyc_cs, e2, e5]
        refine hK _ _ ?_
        clear hK K
        refine wpT_if (by rfl) (fun hc29 => ?_) (fun hc29 => ?_)
        · skip
          have p29 := hc29
          try simp only [decide_eq_true_eq, decide_eq_false_iff_not, beq_iff_eq, bne_iff_ne, beq_eq_false_iff_ne, bne_eq_false_iff_eq, Bool.not_eq_true', Bool.not_eq_false'] at p29
          have hlt : i < f.kept.length := by omega
          have hg := at_map (f := Cyc.av) hlt
          rw [List.drop_eq_getElem_cons hlt, numIn] at hx
          refine wpT_skip ?_
          refine wpT_seq ?_
          refine wpT_block ?_
          refine wpT_seq ?_
          refine wpT_region (by kernel_rfl) (fun K hK => ?_)
          simp only [↓SP, SX, SW, TY, EN, sv_w, ↓reduceIte, reduceCtorEq, Nat.reduceEqDiff, Nat.reduceAdd, Nat.reduceLeDiff, Nat.reduceLT, Fan.av, cyc_cs, e1, e2, e5, hg, hc29]
          refine hK _ _ ?_
          clear hK K
          refine wpT_if (by rfl) (fun hc39 => ?_) (fun hc39 => ?_)
          · skip
            have p39 := hc39
            try simp only [decide_eq_true_eq, decide_eq_false_iff_not, beq_iff_eq, bne_iff_ne, beq_eq_false_iff_ne, bne_eq_false_iff_eq, Bool.not_eq_true', Bool.not_eq_false'] at p39
            rw [if_pos p39] at hx
            refine wpT_seq ?_
            refine wpT_region (by kernel_rfl) (fun K hK => ?_)
            simp only [↓SP, SX, SW, TY, EN, sv_w, ↓reduceIte, reduceCtorEq, Nat.reduceEqDiff, Nat.reduceAdd, Nat.reduceLeDiff, Nat.reduceLT, Fan.av, cyc_cs, hc29, hc39]
            refine hK _ _ ?_
            clear hK K
            refine wpT_ret ⟨.inr rfl, ?_⟩
            show optK (resA _ _ _ [.tmp 4]) _
            simp only [SR, Option.map_some, Option.bind_some, ↓SP, SX, SW, TY, EN, sv_w, ↓reduceIte, reduceCtorEq, Nat.reduceEqDiff, Nat.reduceAdd, Nat.reduceLeDiff, Nat.reduceLT, Fan.av, cyc_cs, hc29, hc39]
            refine Lend.eq ?_
            rw [hx]
          · skip
            have p39 := hc39
            try simp only [decide_eq_true_eq, decide_eq_false_iff_not, beq_iff_eq, bne_iff_ne, beq_eq_false_iff_ne, bne_eq_false_iff_eq, Bool.not_eq_true', Bool.not_eq_false'] at p39
            rw [if_neg p39] at hx
            refine wpT_skip ?_
            refine wpT_inBlock ?_
            refine wpT_region (by kernel_rfl) (fun K hK => ?_)
            simp only [↓SP, SX, SW, TY, EN, sv_w, ↓reduceIte, reduceCtorEq, Nat.reduceEqDiff, Nat.reduceAdd, Nat.reduceLeDiff, Nat.reduceLT, Fan.av, cyc_cs, e5, wrap64 (x := (i : Int) + 1) (by omega) (by omega), hc29, hc39]
            refine hK _ _ ?_
            clear hK K
            refine wpT_keep1 (i := 0) (o := .arr 49 4 [f.av]) (by simp only [↓SP, SX, SW, TY, EN, sv_w, ↓reduceIte, reduceCtorEq, Nat.reduceEqDiff, Nat.reduceAdd, Nat.reduceLeDiff, Nat.reduceLT, Fan.av]) ?_
            refine IH (i + 1) _ _ (by omega) ⟨⟨_, rfl⟩, by simp only [↓SP, SX, SW, TY, EN, sv_w, ↓reduceIte, reduceCtorEq, Nat.reduceEqDiff, Nat.reduceAdd, Nat.reduceLeDiff, Nat.reduceLT, Fan.av, e2], by simp only [↓SP, SX, SW, TY, EN, sv_w, ↓reduceIte, reduceCtorEq, Nat.reduceEqDiff, Nat.reduceAdd, Nat.reduceLeDiff, Nat.reduceLT, Fan.av, e1], by simp only [↓SP, SX, SW, TY, EN, sv_w, ↓reduceIte, reduceCtorEq, Nat.reduceEqDiff, Nat.reduceAdd, Nat.reduceLeDiff, Nat.reduceLT, Fan.av, Int.natCast_add, Int.cast_ofNat_Int], by omega, hx⟩
        · skip
          have p29 := hc29
          try simp only [decide_eq_true_eq, decide_eq_false_iff_not, beq_iff_eq, bne_iff_ne, beq_eq_false_iff_ne, bne_eq_false_iff_eq, Bool.not_eq_true', Bool.not_eq_false'] at p29
          rw [List.drop_eq_nil_of_le (by omega), numIn] at hx
          refine wpT_exit rfl ?_
          refine wpT_seq ?_
          refine wpT_region (by kernel_rfl) (fun K hK => ?_)
          simp only [↓SP, SX, SW, TY, EN, sv_w, ↓reduceIte, reduceCtorEq, Nat.reduceEqDiff, Nat.reduceAdd, Nat.reduceLeDiff, Nat.reduceLT, Fan.av, cyc_cs, hc29]
          refine hK _ _ ?_
          clear hK K
          refine wpT_ret ⟨.inr rfl, ?_⟩
          show optK (resA _ _ _ [.tmp 4]) _
          simp only [SR, Option.map_some, Option.bind_some, ↓SP, SX, SW, TY, EN, sv_w, ↓reduceIte, reduceCtorEq, Nat.reduceEqDiff, Nat.reduceAdd, Nat.reduceLeDiff, Nat.reduceLT, Fan.av, cyc_cs, hc29]
          refine Lend.eq ?_
          rw [hx]
    · skip
      simp only [Bool.not_true, Bool.not_false] at hg15
      have p15 := hg15
      try simp only [decide_eq_true_eq, decide_eq_false_iff_not, beq_iff_eq, bne_iff_ne, beq_eq_false_iff_ne, bne_eq_false_iff_eq, Bool.not_eq_true', Bool.not_eq_false'] at p15
      have hh : headB n f.kept = false := by
        have : f.kept = [] := List.eq_nil_of_length_eq_zero (by omega)
        rw [this]; rfl
      simp only [↓SP, SX, SW, TY, EN, sv_w, ↓reduceIte, reduceCtorEq, Nat.reduceEqDiff, Nat.reduceAdd, Nat.reduceLeDiff, Nat.reduceLT, Fan.av, cyc_cs, hg10, hg15]
      refine hK _ _ ?_
      clear hK K
      refine wpT_ifF (by simp only [↓SP, SX, SW, TY, EN, sv_w, ↓reduceIte, reduceCtorEq, Nat.reduceEqDiff, Nat.reduceAdd, Nat.reduceLeDiff, Nat.reduceLT, Fan.av, cyc_cs, hg10, hg15]) ?_
      have hx : boundR f n = numIn n f.kept := by unfold boundR; simp_all
      refine wpT_skip ?_
      refine wpT_seq ?_
      refine wpT_seq ?_
      refine wpT_region (by kernel_rfl) (fun K hK => ?_)
      simp only [↓SP, SX, SW, TY, EN, sv_w, ↓reduceIte, reduceCtorEq, Nat.reduceEqDiff, Nat.reduceAdd, Nat.reduceLeDiff, Nat.reduceLT, Fan.av, cyc_cs, hg10, hg15]
      refine hK _ _ ?_
      clear hK K
      refine wpT_block ?_
      refine wpT_loop ?_
      refine wpT_keep1 (i := 0) (o := .arr 49 4 [f.av]) (by simp only [↓SP, SX, SW, TY, EN, sv_w, ↓reduceIte, reduceCtorEq, Nat.reduceEqDiff, Nat.reduceAdd, Nat.reduceLeDiff, Nat.reduceLT, Fan.av]) ?_
      rw [hx]
      clear hx
      refine wpT_ind (fun (i : Nat) tm' h' => (∃ m, h' = Hp.of [(0, .arr 49 4 [f.av])] (m + 1)) ∧ tm' 2 = .ptr 0 1 0 0 ∧ tm' 1 = I n ∧ tm' 5 = I i ∧ i ≤ f.kept.length ∧ numIn n (f.kept.drop i) = numIn n f.kept) (fun i => f.kept.length - i) ?_ 0 ⟨⟨0, rfl⟩, rfl, rfl, rfl, by omega, rfl⟩
      rintro i tm' _ ⟨⟨m, rfl⟩, e2, e1, e5, hi, hx⟩ IH
      refine wpT_inLoop ?_
      refine wpT_seq ?_
      refine wpT_seq ?_
      refine wpT_region (by kernel_rfl) (fun K hK => ?_)
      simp only [↓SP, SX, SW, TY, EN, sv_w, ↓reduceIte, reduceCtorEq, Nat.reduceEqDiff, Nat.reduceAdd, Nat.reduceLeDiff, Nat.reduceLT, Fan.av, cyc_cs, e2, e5]
      refine hK _ _ ?_
      clear hK K
      refine wpT_if (by rfl) (fun hc29 => ?_) (fun hc29 => ?_)
      · skip
        have p29 := hc29
        try simp only [decide_eq_true_eq, decide_eq_false_iff_not, beq_iff_eq, bne_iff_ne, beq_eq_false_iff_ne, bne_eq_false_iff_eq, Bool.not_eq_true', Bool.not_eq_false'] at p29
        have hlt : i < f.kept.length := by omega
        have hg := at_map (f := Cyc.av) hlt
        rw [List.drop_eq_getElem_cons hlt, numIn] at hx
        refine wpT_skip ?_
        refine wpT_seq ?_
        refine wpT_block ?_
        refine wpT_seq ?_
        refine wpT_region (by kernel_rfl) (fun K hK => ?_)
        simp only [↓SP, SX, SW, TY, EN, sv_w, ↓reduceIte, reduceCtorEq, Nat.reduceEqDiff, Nat.reduceAdd, Nat.reduceLeDiff, Nat.reduceLT, Fan.av, cyc_cs, e1, e2, e5, hg, hc29]
        refine hK _ _ ?_
        clear hK K
        refine wpT_if (by rfl) (fun hc39 => ?_) (fun hc39 => ?_)
        · skip
          have p39 := hc39
          try simp only [decide_eq_true_eq, decide_eq_false_iff_not, beq_iff_eq, bne_iff_ne, beq_eq_false_iff_ne, bne_eq_false_iff_eq, Bool.not_eq_true', Bool.not_eq_false'] at p39
          rw [if_pos p39] at hx
          refine wpT_seq ?_
          refine wpT_region (by kernel_rfl) (fun K hK => ?_)
          simp only [↓SP, SX, SW, TY, EN, sv_w, ↓reduceIte, reduceCtorEq, Nat.reduceEqDiff, Nat.reduceAdd, Nat.reduceLeDiff, Nat.reduceLT, Fan.av, cyc_cs, hc29, hc39]
          refine hK _ _ ?_
          clear hK K
          refine wpT_ret ⟨.inr rfl, ?_⟩
          show optK (resA _ _ _ [.tmp 4]) _
          simp only [SR, Option.map_some, Option.bind_some, ↓SP, SX, SW, TY, EN, sv_w, ↓reduceIte, reduceCtorEq, Nat.reduceEqDiff, Nat.reduceAdd, Nat.reduceLeDiff, Nat.reduceLT, Fan.av, cyc_cs, hc29, hc39]
          refine Lend.eq ?_
          rw [hx]
        · skip
          have p39 := hc39
          try simp only [decide_eq_true_eq, decide_eq_false_iff_not, beq_iff_eq, bne_iff_ne, beq_eq_false_iff_ne, bne_eq_false_iff_eq, Bool.not_eq_true', Bool.not_eq_false'] at p39
          rw [if_neg p39] at hx
          refine wpT_skip ?_
          refine wpT_inBlock ?_
          refine wpT_region (by kernel_rfl) (fun K hK => ?_)
          simp only [↓SP, SX, SW, TY, EN, sv_w, ↓reduceIte, reduceCtorEq, Nat.reduceEqDiff, Nat.reduceAdd, Nat.reduceLeDiff, Nat.reduceLT, Fan.av, cyc_cs, e5, wrap64 (x := (i : Int) + 1) (by omega) (by omega), hc29, hc39]
          refine hK _ _ ?_
          clear hK K
          refine wpT_keep1 (i := 0) (o := .arr 49 4 [f.av]) (by simp only [↓SP, SX, SW, TY, EN, sv_w, ↓reduceIte, reduceCtorEq, Nat.reduceEqDiff, Nat.reduceAdd, Nat.reduceLeDiff, Nat.reduceLT, Fan.av]) ?_
          refine IH (i + 1) _ _ (by omega) ⟨⟨_, rfl⟩, by simp only [↓SP, SX, SW, TY, EN, sv_w, ↓reduceIte, reduceCtorEq, Nat.reduceEqDiff, Nat.reduceAdd, Nat.reduceLeDiff, Nat.reduceLT, Fan.av, e2], by simp only [↓SP, SX, SW, TY, EN, sv_w, ↓reduceIte, reduceCtorEq, Nat.reduceEqDiff, Nat.reduceAdd, Nat.reduceLeDiff, Nat.reduceLT, Fan.av, e1], by simp only [↓SP, SX, SW, TY, EN, sv_w, ↓reduceIte, reduceCtorEq, Nat.reduceEqDiff, Nat.reduceAdd, Nat.reduceLeDiff, Nat.reduceLT, Fan.av, Int.natCast_add, Int.cast_ofNat_Int], by omega, hx⟩
      · skip
        have p29 := hc29
        try simp only [decide_eq_true_eq, decide_eq_false_iff_not, beq_iff_eq, bne_iff_ne, beq_eq_false_iff_ne, bne_eq_false_iff_eq, Bool.not_eq_true', Bool.not_eq_false'] at p29
        rw [List.drop_eq_nil_of_le (by omega), numIn] at hx
        refine wpT_exit rfl ?_
        refine wpT_seq ?_
        refine wpT_region (by kernel_rfl) (fun K hK => ?_)
        simp only [↓SP, SX, SW, TY, EN, sv_w, ↓reduceIte, reduceCtorEq, Nat.reduceEqDiff, Nat.reduceAdd, Nat.reduceLeDiff, Nat.reduceLT, Fan.av, cyc_cs, hc29]
        refine hK _ _ ?_
        clear hK K
        refine wpT_ret ⟨.inr rfl, ?_⟩
        show optK (resA _ _ _ [.tmp 4]) _
        simp only [SR, Option.map_some, Option.bind_some, ↓SP, SX, SW, TY, EN, sv_w, ↓reduceIte, reduceCtorEq, Nat.reduceEqDiff, Nat.reduceAdd, Nat.reduceLeDiff, Nat.reduceLT, Fan.av, cyc_cs, hc29]
        refine Lend.eq ?_
        rw [hx]
  · skip
    simp only [Bool.not_true, Bool.not_false] at hg10
    have p10 := hg10
    try simp only [decide_eq_true_eq, decide_eq_false_iff_not, beq_iff_eq, bne_iff_ne, beq_eq_false_iff_ne, bne_eq_false_iff_eq, Bool.not_eq_true', Bool.not_eq_false'] at p10
    simp only [↓SP, SX, SW, TY, EN, sv_w, ↓reduceIte, reduceCtorEq, Nat.reduceEqDiff, Nat.reduceAdd, Nat.reduceLeDiff, Nat.reduceLT, Fan.av, cyc_cs, hg10]
    refine hK _ _ ?_
    clear hK K
    refine wpT_ifT (by simp only [↓SP, SX, SW, TY, EN, sv_w, ↓reduceIte, reduceCtorEq, Nat.reduceEqDiff, Nat.reduceAdd, Nat.reduceLeDiff, Nat.reduceLT, Fan.av, cyc_cs, hg10]) ?_
    have hx : boundR f n = true := by unfold boundR; simp_all
    refine wpT_seq ?_
    refine wpT_region (by kernel_rfl) (fun K hK => ?_)
    simp only [↓SP, SX, SW, TY, EN, sv_w, ↓reduceIte, reduceCtorEq, Nat.reduceEqDiff, Nat.reduceAdd, Nat.reduceLeDiff, Nat.reduceLT, Fan.av, cyc_cs, hg10]
    refine hK _ _ ?_
    clear hK K
    refine wpT_ret ⟨.inr rfl, ?_⟩
    show optK (resA _ _ _ [.tmp 4]) _
    simp only [SR, Option.map_some, Option.bind_some, ↓SP, SX, SW, TY, EN, sv_w, ↓reduceIte, reduceCtorEq, Nat.reduceEqDiff, Nat.reduceAdd, Nat.reduceLeDiff, Nat.reduceLT, Fan.av, cyc_cs, hg10]
    refine Lend.eq ?_
    rw [hx]
def differs (p : Option Int) (n : Int) : Bool := match p with
  | none => false
  | some q => decide (n ≠ q)
def keptE : Option Int → List Cyc → Int
  | _, [] => 0
  | p, c :: cs => if cycE c most ≠ 0 then cycE c most else if differs p c.base = true then 15 else keptE (some c.num) cs
def stE (f : Fan) : List Int → List Bool → Int
  | a :: xs, l :: ls => if a > newR f ∨ (l = false ∧ boundR f a = false) then 12 else stE f xs ls
  | _, _ => 0
def firstB (n : Int) : List Cyc → Bool
  | [] => false
  | c :: _ => decide (n ≠ c.base)
theorem firstB_at {n : Int} : ∀ {xs : List Cyc} (h : 0 < xs.length), firstB n xs = decide (n ≠ xs[0].base)
  | _ :: _, _ => rfl
def chkF (f : Fan) : Int :=
  if f.app.length < 1 ∨ f.app.length > 4 ∨ f.lost.length ≠ f.app.length then 6 else
  if f.limit < 1 ∨ f.limit > 1024 then 2 else
  if posR f.app ≠ 0 then posR f.app else
  if f.kept.length > f.limit then 6 else
  if keptE none f.kept ≠ 0 then keptE none f.kept else
  if stE f f.app f.lost ≠ 0 then stE f f.app f.lost else
  if firstB (leastL (-1) f.app f.lost) f.kept = true then 12 else 0
def prevN (xs : List Cyc) (i : Nat) : Option Int := if i = 0 then none else (xs[i - 1]?).map Cyc.num
theorem prevN_succ {xs : List Cyc} {i : Nat} (h : i < xs.length) : prevN xs (i + 1) = some xs[i].num := by simp [prevN, h]
theorem posR_two : ∀ {xs : List Int}, posR xs = 0 ∨ posR xs = 2
  | [] => .inl rfl
  | x :: xs => by
    rw [posR]
    split
    · exact .inr rfl
    · exact posR_two
theorem c81 (f : Fan) (hf : f.ok) : Pu Tryz.prog (.fn (.func 81) [] []) [f.av] (I (chkF f)) := by
  refine pu_func Tryz.func81 rfl (by kernel_rfl) (by show _ ≤ 143; simp only [List.length_append, List.length_cons, List.length_nil]; decide) (by simp only [IDF]) (by simp only [IDF, and_tt, implies_true]) (by simp only [IDF, fan_idf, and_tt, implies_true]) ?_
  have hk := hf.1
  have ha := hf.2.1
  rw [Tryz.ntmps81]
  refine wpT_seq ?_
  refine wpT_region (by kernel_rfl) (fun K hK => ?_)
  simp only [↓SP, SX, SW, TY, EN, sv_w, ↓reduceIte, reduceCtorEq, Nat.reduceEqDiff, Nat.reduceAdd, Nat.reduceLeDiff, Nat.reduceLT, Fan.av, cyc_cs]
  refine hK _ _ ?_
  clear hK K
  refine wpT_seq ?_
  refine wpT_seq ?_
  refine wpT_region (by kernel_rfl) (fun K hK => ?_)
  simp only [↓SP, SX, SW, TY, EN, sv_w, ↓reduceIte, reduceCtorEq, Nat.reduceEqDiff, Nat.reduceAdd, Nat.reduceLeDiff, Nat.reduceLT, Fan.av, cyc_cs]
  refine guardO_split (fun hg11 => ?_) (fun hg11 => ?_)
  · skip
    have p11 := hg11
    try simp only [decide_eq_true_eq, decide_eq_false_iff_not, beq_iff_eq, bne_iff_ne, beq_eq_false_iff_ne, bne_eq_false_iff_eq, Bool.not_eq_true', Bool.not_eq_false'] at p11
    simp only [↓SP, SX, SW, TY, EN, sv_w, ↓reduceIte, reduceCtorEq, Nat.reduceEqDiff, Nat.reduceAdd, Nat.reduceLeDiff, Nat.reduceLT, Fan.av, cyc_cs, hg11]
    refine guardO_split (fun hg17 => ?_) (fun hg17 => ?_)
    · skip
      have p17 := hg17
      try simp only [decide_eq_true_eq, decide_eq_false_iff_not, beq_iff_eq, bne_iff_ne, beq_eq_false_iff_ne, bne_eq_false_iff_eq, Bool.not_eq_true', Bool.not_eq_false'] at p17
      simp only [↓SP, SX, SW, TY, EN, sv_w, ↓reduceIte, reduceCtorEq, Nat.reduceEqDiff, Nat.reduceAdd, Nat.reduceLeDiff, Nat.reduceLT, Fan.av, cyc_cs, hg11, hg17]
      refine hK _ _ ?_
      clear hK K
      refine wpT_if (by rfl) (fun hc25 => ?_) (fun hc25 => ?_)
      · skip
        have p25 := hc25
        try simp only [decide_eq_true_eq, decide_eq_false_iff_not, beq_iff_eq, bne_iff_ne, beq_eq_false_iff_ne, bne_eq_false_iff_eq, Bool.not_eq_true', Bool.not_eq_false'] at p25
        have hx : chkF f = 6 := if_pos (by omega)
        refine wpT_seq ?_
        refine wpT_region (by kernel_rfl) (fun K hK => ?_)
        simp only [↓SP, SX, SW, TY, EN, sv_w, ↓reduceIte, reduceCtorEq, Nat.reduceEqDiff, Nat.reduceAdd, Nat.reduceLeDiff, Nat.reduceLT, Fan.av, cyc_cs, hg11, hg17, hc25]
        refine hK _ _ ?_
        clear hK K
        refine wpT_ret ⟨.inr rfl, ?_⟩
        show optK (resA _ _ _ [.tmp 2]) _
        simp only [SR, Option.map_some, Option.bind_some, ↓SP, SX, SW, TY, EN, sv_w, ↓reduceIte, reduceCtorEq, Nat.reduceEqDiff, Nat.reduceAdd, Nat.reduceLeDiff, Nat.reduceLT, Fan.av, cyc_cs, hg11, hg17, hc25]
        refine Lend.eq ?_
        rw [hx]
      · skip
        have p25 := hc25
        try simp only [decide_eq_true_eq, decide_eq_false_iff_not, beq_iff_eq, bne_iff_ne, beq_eq_false_iff_ne, bne_eq_false_iff_eq, Bool.not_eq_true', Bool.not_eq_false'] at p25
        have h1 : ¬ (f.app.length < 1 ∨ f.app.length > 4 ∨ f.lost.length ≠ f.app.length) := by omega
        have hlen : f.lost.length = f.app.length := by omega
        refine wpT_skip ?_
        refine wpT_seq ?_
        refine wpT_seq ?_
        refine wpT_region (by kernel_rfl) (fun K hK => ?_)
        simp only [↓SP, SX, SW, TY, EN, sv_w, ↓reduceIte, reduceCtorEq, Nat.reduceEqDiff, Nat.reduceAdd, Nat.reduceLeDiff, Nat.reduceLT, Fan.av, cyc_cs, hg11, hg17, hc25]
        refine guardO_split (fun hg29 => ?_) (fun hg29 => ?_)
        · skip
          have p29 := hg29
          try simp only [decide_eq_true_eq, decide_eq_false_iff_not, beq_iff_eq, bne_iff_ne, beq_eq_false_iff_ne, bne_eq_false_iff_eq, Bool.not_eq_true', Bool.not_eq_false'] at p29
          simp only [↓SP, SX, SW, TY, EN, sv_w, ↓reduceIte, reduceCtorEq, Nat.reduceEqDiff, Nat.reduceAdd, Nat.reduceLeDiff, Nat.reduceLT, Fan.av, cyc_cs, hg11, hg17, hc25, hg29]
          refine hK _ _ ?_
          clear hK K
          refine wpT_if (by rfl) (fun hc33 => ?_) (fun hc33 => ?_)
          · skip
            have p33 := hc33
            try simp only [decide_eq_true_eq, decide_eq_false_iff_not, beq_iff_eq, bne_iff_ne, beq_eq_false_iff_ne, bne_eq_false_iff_eq, Bool.not_eq_true', Bool.not_eq_false'] at p33
            have hx : chkF f = 2 := by rw [chkF, if_neg h1, if_pos (by omega)]
            refine wpT_seq ?_
            refine wpT_region (by kernel_rfl) (fun K hK => ?_)
            simp only [↓SP, SX, SW, TY, EN, sv_w, ↓reduceIte, reduceCtorEq, Nat.reduceEqDiff, Nat.reduceAdd, Nat.reduceLeDiff, Nat.reduceLT, Fan.av, cyc_cs, hg11, hg17, hc25, hg29, hc33]
            refine hK _ _ ?_
            clear hK K
            refine wpT_ret ⟨.inr rfl, ?_⟩
            show optK (resA _ _ _ [.tmp 2]) _
            simp only [SR, Option.map_some, Option.bind_some, ↓SP, SX, SW, TY, EN, sv_w, ↓reduceIte, reduceCtorEq, Nat.reduceEqDiff, Nat.reduceAdd, Nat.reduceLeDiff, Nat.reduceLT, Fan.av, cyc_cs, hg11, hg17, hc25, hg29, hc33]
            refine Lend.eq ?_
            rw [hx]
          · skip
            have p33 := hc33
            try simp only [decide_eq_true_eq, decide_eq_false_iff_not, beq_iff_eq, bne_iff_ne, beq_eq_false_iff_ne, bne_eq_false_iff_eq, Bool.not_eq_true', Bool.not_eq_false'] at p33
            have h2 : ¬ (f.limit < 1 ∨ f.limit > 1024) := by omega
            refine wpT_skip ?_
            refine wpT_seq ?_
            refine wpT_seq ?_
            refine wpT_region (by kernel_rfl) (fun K hK => ?_)
            simp only [↓SP, SX, SW, TY, EN, sv_w, ↓reduceIte, reduceCtorEq, Nat.reduceEqDiff, Nat.reduceAdd, Nat.reduceLeDiff, Nat.reduceLT, Fan.av, cyc_cs, hg11, hg17, hc25, hg29, hc33]
            refine hK _ _ ?_
            clear hK K
            refine wpT_block ?_
            refine wpT_loop ?_
            refine wpT_keep1 (i := 0) (o := .arr 49 4 [f.av]) (by simp only [↓SP, SX, SW, TY, EN, sv_w, ↓reduceIte, reduceCtorEq, Nat.reduceEqDiff, Nat.reduceAdd, Nat.reduceLeDiff, Nat.reduceLT, Fan.av]) ?_
            refine wpT_ind (fun (i : Nat) tm' h' => (∃ m, h' = Hp.of [(0, .arr 49 4 [f.av])] (m + 1)) ∧ tm' 1 = .ptr 0 1 0 0 ∧ tm' 3 = I i ∧ i ≤ f.app.length ∧ posR (f.app.drop i) = posR f.app) (fun i => f.app.length - i) ?_ 0 ⟨⟨0, rfl⟩, rfl, rfl, by omega, rfl⟩
            rintro i tm' _ ⟨⟨m, rfl⟩, e1, e3, hi, hy⟩ IH
            refine wpT_inLoop ?_
            refine wpT_seq ?_
            refine wpT_seq ?_
            refine wpT_region (by kernel_rfl) (fun K hK => ?_)
            simp only [↓SP, SX, SW, TY, EN, sv_w, ↓reduceIte, reduceCtorEq, Nat.reduceEqDiff, Nat.reduceAdd, Nat.reduceLeDiff, Nat.reduceLT, Fan.av, cyc_cs, e1, e3]
            refine hK _ _ ?_
            clear hK K
            refine wpT_if (by rfl) (fun hc38 => ?_) (fun hc38 => ?_)
            · skip
              have p38 := hc38
              try simp only [decide_eq_true_eq, decide_eq_false_iff_not, beq_iff_eq, bne_iff_ne, beq_eq_false_iff_ne, bne_eq_false_iff_eq, Bool.not_eq_true', Bool.not_eq_false'] at p38
              have hlt : i < f.app.length := by omega
              have hg := at_map (f := I) hlt
              rw [List.drop_eq_getElem_cons hlt, posR] at hy
              refine wpT_skip ?_
              refine wpT_seq ?_
              refine wpT_block ?_
              refine wpT_seq ?_
              refine wpT_region (by kernel_rfl) (fun K hK => ?_)
              simp only [↓SP, SX, SW, TY, EN, sv_w, ↓reduceIte, reduceCtorEq, Nat.reduceEqDiff, Nat.reduceAdd, Nat.reduceLeDiff, Nat.reduceLT, Fan.av, cyc_cs, e1, e3, hg, hc38]
              refine guardO_split (fun hg47 => ?_) (fun hg47 => ?_)
              · skip
                have p47 := hg47
                try simp only [decide_eq_true_eq, decide_eq_false_iff_not, beq_iff_eq, bne_iff_ne, beq_eq_false_iff_ne, bne_eq_false_iff_eq, Bool.not_eq_true', Bool.not_eq_false'] at p47
                simp only [↓SP, SX, SW, TY, EN, sv_w, ↓reduceIte, reduceCtorEq, Nat.reduceEqDiff, Nat.reduceAdd, Nat.reduceLeDiff, Nat.reduceLT, Fan.av, cyc_cs, e1, e3, hg, hc38, hg47]
                refine hK _ _ ?_
                clear hK K
                refine wpT_if (by rfl) (fun hc54 => ?_) (fun hc54 => ?_)
                · skip
                  have p54 := hc54
                  try simp only [decide_eq_true_eq, decide_eq_false_iff_not, beq_iff_eq, bne_iff_ne, beq_eq_false_iff_ne, bne_eq_false_iff_eq, Bool.not_eq_true', Bool.not_eq_false'] at p54
                  rw [if_pos (by omega)] at hy
                  have hx : chkF f = 2 := by rw [chkF, if_neg h1, if_neg h2, if_pos (by omega), ← hy]
                  refine wpT_seq ?_
                  refine wpT_region (by kernel_rfl) (fun K hK => ?_)
                  simp only [↓SP, SX, SW, TY, EN, sv_w, ↓reduceIte, reduceCtorEq, Nat.reduceEqDiff, Nat.reduceAdd, Nat.reduceLeDiff, Nat.reduceLT, Fan.av, cyc_cs, hc38, hg47, hc54]
                  refine hK _ _ ?_
                  clear hK K
                  refine wpT_ret ⟨.inr rfl, ?_⟩
                  show optK (resA _ _ _ [.tmp 2]) _
                  simp only [SR, Option.map_some, Option.bind_some, ↓SP, SX, SW, TY, EN, sv_w, ↓reduceIte, reduceCtorEq, Nat.reduceEqDiff, Nat.reduceAdd, Nat.reduceLeDiff, Nat.reduceLT, Fan.av, cyc_cs, hc38, hg47, hc54]
                  refine Lend.eq ?_
                  rw [hx]
                · skip
                  have p54 := hc54
                  try simp only [decide_eq_true_eq, decide_eq_false_iff_not, beq_iff_eq, bne_iff_ne, beq_eq_false_iff_ne, bne_eq_false_iff_eq, Bool.not_eq_true', Bool.not_eq_false'] at p54
                  rw [if_neg (by omega)] at hy
                  refine wpT_skip ?_
                  refine wpT_inBlock ?_
                  refine wpT_region (by kernel_rfl) (fun K hK => ?_)
                  simp only [↓SP, SX, SW, TY, EN, sv_w, ↓reduceIte, reduceCtorEq, Nat.reduceEqDiff, Nat.reduceAdd, Nat.reduceLeDiff, Nat.reduceLT, Fan.av, cyc_cs, e3, wrap64 (x := (i : Int) + 1) (by omega) (by omega), hc38, hg47, hc54]
                  refine hK _ _ ?_
                  clear hK K
                  refine wpT_keep1 (i := 0) (o := .arr 49 4 [f.av]) (by simp only [↓SP, SX, SW, TY, EN, sv_w, ↓reduceIte, reduceCtorEq, Nat.reduceEqDiff, Nat.reduceAdd, Nat.reduceLeDiff, Nat.reduceLT, Fan.av]) ?_
                  refine IH (i + 1) _ _ (by omega) ⟨⟨_, rfl⟩, by simp only [↓SP, SX, SW, TY, EN, sv_w, ↓reduceIte, reduceCtorEq, Nat.reduceEqDiff, Nat.reduceAdd, Nat.reduceLeDiff, Nat.reduceLT, Fan.av, e1], by simp only [↓SP, SX, SW, TY, EN, sv_w, ↓reduceIte, reduceCtorEq, Nat.reduceEqDiff, Nat.reduceAdd, Nat.reduceLeDiff, Nat.reduceLT, Fan.av, Int.natCast_add, Int.cast_ofNat_Int], by omega, hy⟩
              · skip
                simp only [Bool.not_true, Bool.not_false] at hg47
                have p47 := hg47
                try simp only [decide_eq_true_eq, decide_eq_false_iff_not, beq_iff_eq, bne_iff_ne, beq_eq_false_iff_ne, bne_eq_false_iff_eq, Bool.not_eq_true', Bool.not_eq_false'] at p47
                simp only [↓SP, SX, SW, TY, EN, sv_w, ↓reduceIte, reduceCtorEq, Nat.reduceEqDiff, Nat.reduceAdd, Nat.reduceLeDiff, Nat.reduceLT, Fan.av, cyc_cs, e1, e3, hg, hc38, hg47]
                refine hK _ _ ?_
                clear hK K
                refine wpT_ifT (by simp only [↓SP, SX, SW, TY, EN, sv_w, ↓reduceIte, reduceCtorEq, Nat.reduceEqDiff, Nat.reduceAdd, Nat.reduceLeDiff, Nat.reduceLT, Fan.av, cyc_cs, hc38, hg47]) ?_
                rw [if_pos (by omega)] at hy
                have hx : chkF f = 2 := by rw [chkF, if_neg h1, if_neg h2, if_pos (by omega), ← hy]
                refine wpT_seq ?_
                refine wpT_region (by kernel_rfl) (fun K hK => ?_)
                simp only [↓SP, SX, SW, TY, EN, sv_w, ↓reduceIte, reduceCtorEq, Nat.reduceEqDiff, Nat.reduceAdd, Nat.reduceLeDiff, Nat.reduceLT, Fan.av, cyc_cs, hc38, hg47]
                refine hK _ _ ?_
                clear hK K
                refine wpT_ret ⟨.inr rfl, ?_⟩
                show optK (resA _ _ _ [.tmp 2]) _
                simp only [SR, Option.map_some, Option.bind_some, ↓SP, SX, SW, TY, EN, sv_w, ↓reduceIte, reduceCtorEq, Nat.reduceEqDiff, Nat.reduceAdd, Nat.reduceLeDiff, Nat.reduceLT, Fan.av, cyc_cs, hc38, hg47]
                refine Lend.eq ?_
                rw [hx]
            · skip
              have p38 := hc38
              try simp only [decide_eq_true_eq, decide_eq_false_iff_not, beq_iff_eq, bne_iff_ne, beq_eq_false_iff_ne, bne_eq_false_iff_eq, Bool.not_eq_true', Bool.not_eq_false'] at p38
              rw [List.drop_eq_nil_of_le (by omega), posR] at hy
              have h3 : ¬ posR f.app ≠ 0 := by omega
              clear hy IH
              refine wpT_exit rfl ?_
              refine wpT_seq ?_
              refine wpT_seq ?_
              refine wpT_region (by kernel_rfl) (fun K hK => ?_)
              simp only [↓SP, SX, SW, TY, EN, sv_w, ↓reduceIte, reduceCtorEq, Nat.reduceEqDiff, Nat.reduceAdd, Nat.reduceLeDiff, Nat.reduceLT, Fan.av, cyc_cs, e1, hc38]
              refine hK _ _ ?_
              clear hK K
              refine wpT_if (by rfl) (fun hc60 => ?_) (fun hc60 => ?_)
              · skip
                have p60 := hc60
                try simp only [decide_eq_true_eq, decide_eq_false_iff_not, beq_iff_eq, bne_iff_ne, beq_eq_false_iff_ne, bne_eq_false_iff_eq, Bool.not_eq_true', Bool.not_eq_false'] at p60
                have hx : chkF f = 6 := by rw [chkF, if_neg h1, if_neg h2, if_neg h3, if_pos (by omega)]
                refine wpT_seq ?_
                refine wpT_region (by kernel_rfl) (fun K hK => ?_)
                simp only [↓SP, SX, SW, TY, EN, sv_w, ↓reduceIte, reduceCtorEq, Nat.reduceEqDiff, Nat.reduceAdd, Nat.reduceLeDiff, Nat.reduceLT, Fan.av, cyc_cs, hc38, hc60]
                refine hK _ _ ?_
                clear hK K
                refine wpT_ret ⟨.inr rfl, ?_⟩
                show optK (resA _ _ _ [.tmp 2]) _
                simp only [SR, Option.map_some, Option.bind_some, ↓SP, SX, SW, TY, EN, sv_w, ↓reduceIte, reduceCtorEq, Nat.reduceEqDiff, Nat.reduceAdd, Nat.reduceLeDiff, Nat.reduceLT, Fan.av, cyc_cs, hc38, hc60]
                refine Lend.eq ?_
                rw [hx]
              · skip
                have p60 := hc60
                try simp only [decide_eq_true_eq, decide_eq_false_iff_not, beq_iff_eq, bne_iff_ne, beq_eq_false_iff_ne, bne_eq_false_iff_eq, Bool.not_eq_true', Bool.not_eq_false'] at p60
                have h4 : ¬ (f.kept.length > f.limit) := by omega
                refine wpT_skip ?_
                refine wpT_seq ?_
                refine wpT_seq ?_
                refine wpT_region (by kernel_rfl) (fun K hK => ?_)
                simp only [↓SP, SX, SW, TY, EN, sv_w, ↓reduceIte, reduceCtorEq, Nat.reduceEqDiff, Nat.reduceAdd, Nat.reduceLeDiff, Nat.reduceLT, Fan.av, cyc_cs, hc38, hc60]
                refine hK _ _ ?_
                clear hK K
                refine wpT_block ?_
                refine wpT_loop ?_
                refine wpT_keep1 (i := 0) (o := .arr 49 4 [f.av]) (by simp only [↓SP, SX, SW, TY, EN, sv_w, ↓reduceIte, reduceCtorEq, Nat.reduceEqDiff, Nat.reduceAdd, Nat.reduceLeDiff, Nat.reduceLT, Fan.av]) ?_
                refine wpT_ind (fun (i : Nat) tm' h' => (∃ m, h' = Hp.of [(0, .arr 49 4 [f.av])] (m + 1)) ∧ tm' 1 = .ptr 0 1 0 0 ∧ tm' 4 = I i ∧ i ≤ f.kept.length ∧ keptE (prevN f.kept i) (f.kept.drop i) = keptE none f.kept) (fun i => f.kept.length - i) ?_ 0 ⟨⟨m, rfl⟩, by simp only [↓SP, SX, SW, TY, EN, sv_w, ↓reduceIte, reduceCtorEq, Nat.reduceEqDiff, Nat.reduceAdd, Nat.reduceLeDiff, Nat.reduceLT, Fan.av, e1], rfl, by omega, rfl⟩
                clear e1 e3 hi
                rintro i tm' _ ⟨⟨m, rfl⟩, e1, e4, hi, hy⟩ IH
                refine wpT_inLoop ?_
                refine wpT_seq ?_
                refine wpT_seq ?_
                refine wpT_region (by kernel_rfl) (fun K hK => ?_)
                simp only [↓SP, SX, SW, TY, EN, sv_w, ↓reduceIte, reduceCtorEq, Nat.reduceEqDiff, Nat.reduceAdd, Nat.reduceLeDiff, Nat.reduceLT, Fan.av, cyc_cs, e1, e4]
                refine hK _ _ ?_
                clear hK K
                refine wpT_if (by rfl) (fun hc65 => ?_) (fun hc65 => ?_)
                · skip
                  have p65 := hc65
                  try simp only [decide_eq_true_eq, decide_eq_false_iff_not, beq_iff_eq, bne_iff_ne, beq_eq_false_iff_ne, bne_eq_false_iff_eq, Bool.not_eq_true', Bool.not_eq_false'] at p65
                  have hlt : i < f.kept.length := by omega
                  have hg := at_map (f := Cyc.av) hlt
                  rw [List.drop_eq_getElem_cons hlt, keptE] at hy
                  refine wpT_skip ?_
                  refine wpT_seq ?_
                  refine wpT_block ?_
                  refine wpT_seq ?_
                  refine wpT_seq ?_
                  refine wpT_drawn [(0, 5), (1, 5), (3, 5), (4, 5)] mixed (by kernel_rfl) (m := 8) rfl (fun K hK => ?_)
                  simp only [↓SP, SX, SW, TY, EN, sv_w, ↓reduceIte, reduceCtorEq, Nat.reduceEqDiff, Nat.reduceAdd, Nat.reduceLeDiff, Nat.reduceLT, Fan.av, cyc_cs, e1, e4, hg, hc65]
                  refine Pu.callD (c84) ?_
                  simp only [↓SP, SX, SW, TY, EN, sv_w, ↓reduceIte, reduceCtorEq, Nat.reduceEqDiff, Nat.reduceAdd, Nat.reduceLeDiff, Nat.reduceLT, Fan.av, cyc_cs, e1, e4, hg, hc65]
                  refine Pu.callD (c83 f.kept[i] most (hf.2.2.2 _ (List.getElem_mem hlt)) (by decide)) ?_
                  simp only [↓SP, SX, SW, TY, EN, sv_w, ↓reduceIte, reduceCtorEq, Nat.reduceEqDiff, Nat.reduceAdd, Nat.reduceLeDiff, Nat.reduceLT, Fan.av, cyc_cs, e1, e4, hg, hc65]
                  refine hK _ _ ?_
                  clear hK K
                  refine wpT_seq ?_
                  refine wpT_region (by kernel_rfl) (fun K hK => ?_)
                  simp only [↓SP, SX, SW, TY, EN, sv_w, ↓reduceIte, reduceCtorEq, Nat.reduceEqDiff, Nat.reduceAdd, Nat.reduceLeDiff, Nat.reduceLT, Fan.av, cyc_cs, hc65]
                  refine hK _ _ ?_
                  clear hK K
                  refine wpT_if (by rfl) (fun hc76 => ?_) (fun hc76 => ?_)
                  · skip
                    have p76 := hc76
                    try simp only [decide_eq_true_eq, decide_eq_false_iff_not, beq_iff_eq, bne_iff_ne, beq_eq_false_iff_ne, bne_eq_false_iff_eq, Bool.not_eq_true', Bool.not_eq_false'] at p76
                    rw [if_pos p76] at hy
                    have hx : chkF f = cycE f.kept[i] most := by rw [chkF, if_neg h1, if_neg h2, if_neg h3, if_neg h4, if_pos (by rw [← hy]; exact p76), hy]
                    refine wpT_seq ?_
                    refine wpT_region (by kernel_rfl) (fun K hK => ?_)
                    simp only [↓SP, SX, SW, TY, EN, sv_w, ↓reduceIte, reduceCtorEq, Nat.reduceEqDiff, Nat.reduceAdd, Nat.reduceLeDiff, Nat.reduceLT, Fan.av, cyc_cs, hc65, hc76]
                    refine hK _ _ ?_
                    clear hK K
                    refine wpT_ret ⟨.inr rfl, ?_⟩
                    show optK (resA _ _ _ [.tmp 2]) _
                    simp only [SR, Option.map_some, Option.bind_some, ↓SP, SX, SW, TY, EN, sv_w, ↓reduceIte, reduceCtorEq, Nat.reduceEqDiff, Nat.reduceAdd, Nat.reduceLeDiff, Nat.reduceLT, Fan.av, cyc_cs, hc65, hc76]
                    refine Lend.eq ?_
                    rw [hx]
                  · skip
                    have p76 := hc76
                    try simp only [decide_eq_true_eq, decide_eq_false_iff_not, beq_iff_eq, bne_iff_ne, beq_eq_false_iff_ne, bne_eq_false_iff_eq, Bool.not_eq_true', Bool.not_eq_false'] at p76
                    rw [if_neg (by omega)] at hy
                    refine wpT_skip ?_
                    refine wpT_seq ?_
                    refine wpT_drawn [] mixed (by kernel_rfl) (m := 18) rfl (fun K hK => ?_)
                    simp only [↓SP, SX, SW, TY, EN, sv_w, ↓reduceIte, reduceCtorEq, Nat.reduceEqDiff, Nat.reduceAdd, Nat.reduceLeDiff, Nat.reduceLT, Fan.av, cyc_cs, e1, e4, hg, hc65, hc76]
                    refine guardD_split (fun hg80 => ?_) (fun hg80 => ?_)
                    · skip
                      have p80 := hg80
                      try simp only [decide_eq_true_eq, decide_eq_false_iff_not, beq_iff_eq, bne_iff_ne, beq_eq_false_iff_ne, bne_eq_false_iff_eq, Bool.not_eq_true', Bool.not_eq_false'] at p80
                      have hi1 : IntKind.i64.wrap ((i : Int) - 1) = ((i - 1 : Nat) : Int) := by rw [wrap64 (by omega) (by omega)]; omega
                      have hlt1 : i - 1 < f.kept.length := by omega
                      have hg1 := at_map (f := Cyc.av) hlt1
                      have hpr : prevN f.kept i = some f.kept[i - 1].num := by rw [prevN, if_neg (by omega)]; simp [hlt1]
                      rw [hpr] at hy
                      simp only [↓SP, SX, SW, TY, EN, sv_w, ↓reduceIte, reduceCtorEq, Nat.reduceEqDiff, Nat.reduceAdd, Nat.reduceLeDiff, Nat.reduceLT, Fan.av, cyc_cs, e1, e4, hg, hc65, hc76, hi1, hg1, hg80]
                      refine hK _ _ ?_
                      clear hK K
                      refine wpT_if (by rfl) (fun hc95 => ?_) (fun hc95 => ?_)
                      · skip
                        have p95 := hc95
                        try simp only [decide_eq_true_eq, decide_eq_false_iff_not, beq_iff_eq, bne_iff_ne, beq_eq_false_iff_ne, bne_eq_false_iff_eq, Bool.not_eq_true', Bool.not_eq_false'] at p95
                        have hdf : differs (some f.kept[i - 1].num) f.kept[i].base = true := decide_eq_true p95
                        rw [if_pos hdf] at hy
                        have hx : chkF f = 15 := by rw [chkF, if_neg h1, if_neg h2, if_neg h3, if_neg h4, if_pos (by omega), hy]
                        refine wpT_seq ?_
                        refine wpT_region (by kernel_rfl) (fun K hK => ?_)
                        simp only [↓SP, SX, SW, TY, EN, sv_w, ↓reduceIte, reduceCtorEq, Nat.reduceEqDiff, Nat.reduceAdd, Nat.reduceLeDiff, Nat.reduceLT, Fan.av, cyc_cs, hc65, hc76, hi1, hg1, hg80, hc95]
                        refine hK _ _ ?_
                        clear hK K
                        refine wpT_ret ⟨.inr rfl, ?_⟩
                        show optK (resA _ _ _ [.tmp 2]) _
                        simp only [SR, Option.map_some, Option.bind_some, ↓SP, SX, SW, TY, EN, sv_w, ↓reduceIte, reduceCtorEq, Nat.reduceEqDiff, Nat.reduceAdd, Nat.reduceLeDiff, Nat.reduceLT, Fan.av, cyc_cs, hc65, hc76, hi1, hg1, hg80, hc95]
                        refine Lend.eq ?_
                        rw [hx]
                      · skip
                        have p95 := hc95
                        try simp only [decide_eq_true_eq, decide_eq_false_iff_not, beq_iff_eq, bne_iff_ne, beq_eq_false_iff_ne, bne_eq_false_iff_eq, Bool.not_eq_true', Bool.not_eq_false'] at p95
                        have hy' : keptE (prevN f.kept (i + 1)) (f.kept.drop (i + 1)) = keptE none f.kept := by
                          rw [prevN_succ hlt]
                          rwa [if_neg (by simp_all [differs])] at hy
                        refine wpT_skip ?_
                        refine wpT_inBlock ?_
                        refine wpT_region (by kernel_rfl) (fun K hK => ?_)
                        simp only [↓SP, SX, SW, TY, EN, sv_w, ↓reduceIte, reduceCtorEq, Nat.reduceEqDiff, Nat.reduceAdd, Nat.reduceLeDiff, Nat.reduceLT, Fan.av, cyc_cs, e4, wrap64 (x := (i : Int) + 1) (by omega) (by omega), hc65, hc76, hi1, hg1, hg80, hc95]
                        refine hK _ _ ?_
                        clear hK K
                        refine wpT_keep1 (i := 0) (o := .arr 49 4 [f.av]) (by simp only [↓SP, SX, SW, TY, EN, sv_w, ↓reduceIte, reduceCtorEq, Nat.reduceEqDiff, Nat.reduceAdd, Nat.reduceLeDiff, Nat.reduceLT, Fan.av]) ?_
                        refine IH (i + 1) _ _ (by omega) ⟨⟨_, rfl⟩, by simp only [↓SP, SX, SW, TY, EN, sv_w, ↓reduceIte, reduceCtorEq, Nat.reduceEqDiff, Nat.reduceAdd, Nat.reduceLeDiff, Nat.reduceLT, Fan.av, e1], by simp only [↓SP, SX, SW, TY, EN, sv_w, ↓reduceIte, reduceCtorEq, Nat.reduceEqDiff, Nat.reduceAdd, Nat.reduceLeDiff, Nat.reduceLT, Fan.av, Int.natCast_add, Int.cast_ofNat_Int], by omega, hy'⟩
                    · skip
                      simp only [Bool.not_true, Bool.not_false] at hg80
                      have p80 := hg80
                      try simp only [decide_eq_true_eq, decide_eq_false_iff_not, beq_iff_eq, bne_iff_ne, beq_eq_false_iff_ne, bne_eq_false_iff_eq, Bool.not_eq_true', Bool.not_eq_false'] at p80
                      have hpr : prevN f.kept i = none := if_pos (by omega)
                      rw [hpr] at hy
                      simp only [↓SP, SX, SW, TY, EN, sv_w, ↓reduceIte, reduceCtorEq, Nat.reduceEqDiff, Nat.reduceAdd, Nat.reduceLeDiff, Nat.reduceLT, Fan.av, cyc_cs, e1, e4, hg, hc65, hc76, hg80]
                      refine hK _ _ ?_
                      clear hK K
                      refine wpT_ifF (by simp only [↓SP, SX, SW, TY, EN, sv_w, ↓reduceIte, reduceCtorEq, Nat.reduceEqDiff, Nat.reduceAdd, Nat.reduceLeDiff, Nat.reduceLT, Fan.av, cyc_cs, hc65, hc76, hg80]) ?_
                      have hy' : keptE (prevN f.kept (i + 1)) (f.kept.drop (i + 1)) = keptE none f.kept := by
                        rw [prevN_succ hlt]
                        rwa [if_neg (by simp_all [differs])] at hy
                      refine wpT_skip ?_
                      refine wpT_inBlock ?_
                      refine wpT_region (by kernel_rfl) (fun K hK => ?_)
                      simp only [↓SP, SX, SW, TY, EN, sv_w, ↓reduceIte, reduceCtorEq, Nat.reduceEqDiff, Nat.reduceAdd, Nat.reduceLeDiff, Nat.reduceLT, Fan.av, cyc_cs, e4, wrap64 (x := (i : Int) + 1) (by omega) (by omega), hc65, hc76, hg80]
                      refine hK _ _ ?_
                      clear hK K
                      refine wpT_keep1 (i := 0) (o := .arr 49 4 [f.av]) (by simp only [↓SP, SX, SW, TY, EN, sv_w, ↓reduceIte, reduceCtorEq, Nat.reduceEqDiff, Nat.reduceAdd, Nat.reduceLeDiff, Nat.reduceLT, Fan.av]) ?_
                      refine IH (i + 1) _ _ (by omega) ⟨⟨_, rfl⟩, by simp only [↓SP, SX, SW, TY, EN, sv_w, ↓reduceIte, reduceCtorEq, Nat.reduceEqDiff, Nat.reduceAdd, Nat.reduceLeDiff, Nat.reduceLT, Fan.av, e1], by simp only [↓SP, SX, SW, TY, EN, sv_w, ↓reduceIte, reduceCtorEq, Nat.reduceEqDiff, Nat.reduceAdd, Nat.reduceLeDiff, Nat.reduceLT, Fan.av, Int.natCast_add, Int.cast_ofNat_Int], by omega, hy'⟩
                · skip
                  have p65 := hc65
                  try simp only [decide_eq_true_eq, decide_eq_false_iff_not, beq_iff_eq, bne_iff_ne, beq_eq_false_iff_ne, bne_eq_false_iff_eq, Bool.not_eq_true', Bool.not_eq_false'] at p65
                  rw [List.drop_eq_nil_of_le (by omega), keptE] at hy
                  have h5 : ¬ keptE none f.kept ≠ 0 := by omega
                  clear hy IH
                  refine wpT_exit rfl ?_
                  refine wpT_seq ?_
                  refine wpT_seq ?_
                  refine wpT_region (by kernel_rfl) (fun K hK => ?_)
                  simp only [↓SP, SX, SW, TY, EN, sv_w, ↓reduceIte, reduceCtorEq, Nat.reduceEqDiff, Nat.reduceAdd, Nat.reduceLeDiff, Nat.reduceLT, Fan.av, cyc_cs, hc65]
                  refine hK _ _ ?_
                  clear hK K
                  refine wpT_block ?_
                  refine wpT_loop ?_
                  refine wpT_keep1 (i := 0) (o := .arr 49 4 [f.av]) (by simp only [↓SP, SX, SW, TY, EN, sv_w, ↓reduceIte, reduceCtorEq, Nat.reduceEqDiff, Nat.reduceAdd, Nat.reduceLeDiff, Nat.reduceLT, Fan.av]) ?_
                  refine wpT_ind (fun (i : Nat) tm' h' => (∃ m, h' = Hp.of [(0, .arr 49 4 [f.av])] (m + 1)) ∧ tm' 1 = .ptr 0 1 0 0 ∧ tm' 6 = I i ∧ i ≤ f.app.length ∧ stE f (f.app.drop i) (f.lost.drop i) = stE f f.app f.lost) (fun i => f.app.length - i) ?_ 0 ⟨⟨m, rfl⟩, by simp only [↓SP, SX, SW, TY, EN, sv_w, ↓reduceIte, reduceCtorEq, Nat.reduceEqDiff, Nat.reduceAdd, Nat.reduceLeDiff, Nat.reduceLT, Fan.av, e1], rfl, by omega, rfl⟩
                  clear e1 e4 hi
                  rintro i tm' _ ⟨⟨m, rfl⟩, e1, e6, hi, hy⟩ IH
                  refine wpT_inLoop ?_
                  refine wpT_seq ?_
                  refine wpT_seq ?_
                  refine wpT_region (by kernel_rfl) (fun K hK => ?_)
                  simp only [↓SP, SX, SW, TY, EN, sv_w, ↓reduceIte, reduceCtorEq, Nat.reduceEqDiff, Nat.reduceAdd, Nat.reduceLeDiff, Nat.reduceLT, Fan.av, cyc_cs, e1, e6]
                  refine hK _ _ ?_
                  clear hK K
                  refine wpT_if (by rfl) (fun hc100 => ?_) (fun hc100 => ?_)
                  · skip
                    have p100 := hc100
                    try simp only [decide_eq_true_eq, decide_eq_false_iff_not, beq_iff_eq, bne_iff_ne, beq_eq_false_iff_ne, bne_eq_false_iff_eq, Bool.not_eq_true', Bool.not_eq_false'] at p100
                    have hlt : i < f.app.length := by omega
                    have hlt' : i < f.lost.length := by omega
                    have hg := at_map (f := I) hlt
                    have hg' := at_map (f := B) hlt'
                    rw [List.drop_eq_getElem_cons hlt, List.drop_eq_getElem_cons hlt', stE] at hy
                    refine wpT_skip ?_
                    refine wpT_seq ?_
                    refine wpT_block ?_
                    refine wpT_seq ?_
                    refine wpT_drawn [(0, 6), (1, 6), (3, 6), (4, 6)] mixed (by kernel_rfl) (m := 26) rfl (fun K hK => ?_)
                    simp only [↓SP, SX, SW, TY, EN, sv_w, ↓reduceIte, reduceCtorEq, Nat.reduceEqDiff, Nat.reduceAdd, Nat.reduceLeDiff, Nat.reduceLT, Fan.av, cyc_cs, e1, e6, hg, hg', hc100]
                    refine Pu.callD (c85 f hf) ?_
                    simp only [↓SP, SX, SW, TY, EN, sv_w, ↓reduceIte, reduceCtorEq, Nat.reduceEqDiff, Nat.reduceAdd, Nat.reduceLeDiff, Nat.reduceLT, Fan.av, cyc_cs, e1, e6, hg, hg', hc100]
                    refine guardD_split (fun hg111 => ?_) (fun hg111 => ?_)
                    · skip
                      have p111 := hg111
                      try simp only [decide_eq_true_eq, decide_eq_false_iff_not, beq_iff_eq, bne_iff_ne, beq_eq_false_iff_ne, bne_eq_false_iff_eq, Bool.not_eq_true', Bool.not_eq_false'] at p111
                      simp only [↓SP, SX, SW, TY, EN, sv_w, ↓reduceIte, reduceCtorEq, Nat.reduceEqDiff, Nat.reduceAdd, Nat.reduceLeDiff, Nat.reduceLT, Fan.av, cyc_cs, e1, e6, hg, hg', hc100, hg111]
                      refine guardD_split (fun hg118 => ?_) (fun hg118 => ?_)
                      · skip
                        have p118 := hg118
                        try simp only [decide_eq_true_eq, decide_eq_false_iff_not, beq_iff_eq, bne_iff_ne, beq_eq_false_iff_ne, bne_eq_false_iff_eq, Bool.not_eq_true', Bool.not_eq_false'] at p118
                        simp only [↓SP, SX, SW, TY, EN, sv_w, ↓reduceIte, reduceCtorEq, Nat.reduceEqDiff, Nat.reduceAdd, Nat.reduceLeDiff, Nat.reduceLT, Fan.av, cyc_cs, e1, e6, hg, hg', hc100, hg111, hg118]
                        refine Pu.callD (c99 f _ hf) ?_
                        simp only [↓SP, SX, SW, TY, EN, sv_w, ↓reduceIte, reduceCtorEq, Nat.reduceEqDiff, Nat.reduceAdd, Nat.reduceLeDiff, Nat.reduceLT, Fan.av, cyc_cs, e1, e6, hg, hg', hc100, hg111, hg118]
                        refine hK _ _ ?_
                        clear hK K
                        refine wpT_if (by rfl) (fun hc128 => ?_) (fun hc128 => ?_)
                        · skip
                          have p128 := hc128
                          try simp only [decide_eq_true_eq, decide_eq_false_iff_not, beq_iff_eq, bne_iff_ne, beq_eq_false_iff_ne, bne_eq_false_iff_eq, Bool.not_eq_true', Bool.not_eq_false'] at p128
                          rw [if_pos (by simp_all)] at hy
                          have hx : chkF f = 12 := by rw [chkF, if_neg h1, if_neg h2, if_neg h3, if_neg h4, if_neg h5, if_pos (by omega), ← hy]
                          refine wpT_seq ?_
                          refine wpT_region (by kernel_rfl) (fun K hK => ?_)
                          simp only [↓SP, SX, SW, TY, EN, sv_w, ↓reduceIte, reduceCtorEq, Nat.reduceEqDiff, Nat.reduceAdd, Nat.reduceLeDiff, Nat.reduceLT, Fan.av, cyc_cs, hc100, hg111, hg118, hc128]
                          refine hK _ _ ?_
                          clear hK K
                          refine wpT_ret ⟨.inr rfl, ?_⟩
                          show optK (resA _ _ _ [.tmp 2]) _
                          simp only [SR, Option.map_some, Option.bind_some, ↓SP, SX, SW, TY, EN, sv_w, ↓reduceIte, reduceCtorEq, Nat.reduceEqDiff, Nat.reduceAdd, Nat.reduceLeDiff, Nat.reduceLT, Fan.av, cyc_cs, hc100, hg111, hg118, hc128]
                          refine Lend.eq ?_
                          rw [hx]
                        · skip
                          have p128 := hc128
                          try simp only [decide_eq_true_eq, decide_eq_false_iff_not, beq_iff_eq, bne_iff_ne, beq_eq_false_iff_ne, bne_eq_false_iff_eq, Bool.not_eq_true', Bool.not_eq_false'] at p128
                          rw [if_neg (by simp_all)] at hy
                          refine wpT_skip ?_
                          refine wpT_inBlock ?_
                          refine wpT_region (by kernel_rfl) (fun K hK => ?_)
                          simp only [↓SP, SX, SW, TY, EN, sv_w, ↓reduceIte, reduceCtorEq, Nat.reduceEqDiff, Nat.reduceAdd, Nat.reduceLeDiff, Nat.reduceLT, Fan.av, cyc_cs, e6, wrap64 (x := (i : Int) + 1) (by omega) (by omega), hc100, hg111, hg118, hc128]
                          refine hK _ _ ?_
                          clear hK K
                          refine wpT_keep1 (i := 0) (o := .arr 49 4 [f.av]) (by simp only [↓SP, SX, SW, TY, EN, sv_w, ↓reduceIte, reduceCtorEq, Nat.reduceEqDiff, Nat.reduceAdd, Nat.reduceLeDiff, Nat.reduceLT, Fan.av]) ?_
                          refine IH (i + 1) _ _ (by omega) ⟨⟨_, rfl⟩, by simp only [↓SP, SX, SW, TY, EN, sv_w, ↓reduceIte, reduceCtorEq, Nat.reduceEqDiff, Nat.reduceAdd, Nat.reduceLeDiff, Nat.reduceLT, Fan.av, e1], by simp only [↓SP, SX, SW, TY, EN, sv_w, ↓reduceIte, reduceCtorEq, Nat.reduceEqDiff, Nat.reduceAdd, Nat.reduceLeDiff, Nat.reduceLT, Fan.av, Int.natCast_add, Int.cast_ofNat_Int], by omega, hy⟩
                      · skip
                        simp only [Bool.not_true, Bool.not_false] at hg118
                        have p118 := hg118
                        try simp only [decide_eq_true_eq, decide_eq_false_iff_not, beq_iff_eq, bne_iff_ne, beq_eq_false_iff_ne, bne_eq_false_iff_eq, Bool.not_eq_true', Bool.not_eq_false'] at p118
                        simp only [↓SP, SX, SW, TY, EN, sv_w, ↓reduceIte, reduceCtorEq, Nat.reduceEqDiff, Nat.reduceAdd, Nat.reduceLeDiff, Nat.reduceLT, Fan.av, cyc_cs, e1, e6, hg, hg', hc100, hg111, hg118]
                        refine hK _ _ ?_
                        clear hK K
                        refine wpT_ifF (by simp only [↓SP, SX, SW, TY, EN, sv_w, ↓reduceIte, reduceCtorEq, Nat.reduceEqDiff, Nat.reduceAdd, Nat.reduceLeDiff, Nat.reduceLT, Fan.av, cyc_cs, hc100, hg111, hg118]) ?_
                        rw [if_neg (by simp_all)] at hy
                        refine wpT_skip ?_
                        refine wpT_inBlock ?_
                        refine wpT_region (by kernel_rfl) (fun K hK => ?_)
                        simp only [↓SP, SX, SW, TY, EN, sv_w, ↓reduceIte, reduceCtorEq, Nat.reduceEqDiff, Nat.reduceAdd, Nat.reduceLeDiff, Nat.reduceLT, Fan.av, cyc_cs, e6, wrap64 (x := (i : Int) + 1) (by omega) (by omega), hc100, hg111, hg118]
                        refine hK _ _ ?_
                        clear hK K
                        refine wpT_keep1 (i := 0) (o := .arr 49 4 [f.av]) (by simp only [↓SP, SX, SW, TY, EN, sv_w, ↓reduceIte, reduceCtorEq, Nat.reduceEqDiff, Nat.reduceAdd, Nat.reduceLeDiff, Nat.reduceLT, Fan.av]) ?_
                        refine IH (i + 1) _ _ (by omega) ⟨⟨_, rfl⟩, by simp only [↓SP, SX, SW, TY, EN, sv_w, ↓reduceIte, reduceCtorEq, Nat.reduceEqDiff, Nat.reduceAdd, Nat.reduceLeDiff, Nat.reduceLT, Fan.av, e1], by simp only [↓SP, SX, SW, TY, EN, sv_w, ↓reduceIte, reduceCtorEq, Nat.reduceEqDiff, Nat.reduceAdd, Nat.reduceLeDiff, Nat.reduceLT, Fan.av, Int.natCast_add, Int.cast_ofNat_Int], by omega, hy⟩
                    · skip
                      simp only [Bool.not_true, Bool.not_false] at hg111
                      have p111 := hg111
                      try simp only [decide_eq_true_eq, decide_eq_false_iff_not, beq_iff_eq, bne_iff_ne, beq_eq_false_iff_ne, bne_eq_false_iff_eq, Bool.not_eq_true', Bool.not_eq_false'] at p111
                      simp only [↓SP, SX, SW, TY, EN, sv_w, ↓reduceIte, reduceCtorEq, Nat.reduceEqDiff, Nat.reduceAdd, Nat.reduceLeDiff, Nat.reduceLT, Fan.av, cyc_cs, e1, e6, hg, hg', hc100, hg111]
                      refine hK _ _ ?_
                      clear hK K
                      refine wpT_ifT (by simp only [↓SP, SX, SW, TY, EN, sv_w, ↓reduceIte, reduceCtorEq, Nat.reduceEqDiff, Nat.reduceAdd, Nat.reduceLeDiff, Nat.reduceLT, Fan.av, cyc_cs, hc100, hg111]) ?_
                      rw [if_pos (by simp_all)] at hy
                      have hx : chkF f = 12 := by rw [chkF, if_neg h1, if_neg h2, if_neg h3, if_neg h4, if_neg h5, if_pos (by omega), ← hy]
                      refine wpT_seq ?_
                      refine wpT_region (by kernel_rfl) (fun K hK => ?_)
                      simp only [↓SP, SX, SW, TY, EN, sv_w, ↓reduceIte, reduceCtorEq, Nat.reduceEqDiff, Nat.reduceAdd, Nat.reduceLeDiff, Nat.reduceLT, Fan.av, cyc_cs, hc100, hg111]
                      refine hK _ _ ?_
                      clear hK K
                      refine wpT_ret ⟨.inr rfl, ?_⟩
                      show optK (resA _ _ _ [.tmp 2]) _
                      simp only [SR, Option.map_some, Option.bind_some, ↓SP, SX, SW, TY, EN, sv_w, ↓reduceIte, reduceCtorEq, Nat.reduceEqDiff, Nat.reduceAdd, Nat.reduceLeDiff, Nat.reduceLT, Fan.av, cyc_cs, hc100, hg111]
                      refine Lend.eq ?_
                      rw [hx]
                  · skip
                    have p100 := hc100
                    try simp only [decide_eq_true_eq, decide_eq_false_iff_not, beq_iff_eq, bne_iff_ne, beq_eq_false_iff_ne, bne_eq_false_iff_eq, Bool.not_eq_true', Bool.not_eq_false'] at p100
                    rw [List.drop_eq_nil_of_le (by omega), List.drop_eq_nil_of_le (by omega), stE.eq_2 _ _ _ (by simp)] at hy
                    have h6 : ¬ stE f f.app f.lost ≠ 0 := by omega
                    have hx7 : chkF f = if firstB (leastL (-1) f.app f.lost) f.kept = true then 12 else 0 := by rw [chkF, if_neg h1, if_neg h2, if_neg h3, if_neg h4, if_neg h5, if_neg h6]
                    clear hy IH
                    refine wpT_exit rfl ?_
                    refine wpT_seq ?_
                    refine wpT_seq ?_
                    refine wpT_drawn [(6, 7), (6, 8), (6, 9), (6, 10), (6, 11)] mixed (by kernel_rfl) (m := 14) rfl (fun K hK => ?_)
                    simp only [↓SP, SX, SW, TY, EN, sv_w, ↓reduceIte, reduceCtorEq, Nat.reduceEqDiff, Nat.reduceAdd, Nat.reduceLeDiff, Nat.reduceLT, Fan.av, cyc_cs, e1, hc100]
                    refine guardD_split (fun hg133 => ?_) (fun hg133 => ?_)
                    · skip
                      have p133 := hg133
                      try simp only [decide_eq_true_eq, decide_eq_false_iff_not, beq_iff_eq, bne_iff_ne, beq_eq_false_iff_ne, bne_eq_false_iff_eq, Bool.not_eq_true', Bool.not_eq_false'] at p133
                      have h0 : 0 < f.kept.length := by omega
                      have hg0 := at_map (f := Cyc.av) h0
                      have hh : firstB (leastL (-1) f.app f.lost) f.kept = decide (leastL (-1) f.app f.lost ≠ f.kept[0].base) := firstB_at h0
                      simp only [↓SP, SX, SW, TY, EN, sv_w, ↓reduceIte, reduceCtorEq, Nat.reduceEqDiff, Nat.reduceAdd, Nat.reduceLeDiff, Nat.reduceLT, Fan.av, cyc_cs, e1, hc100, hg0, hg133]
                      refine Pu.callD (c82 f hf hlen) ?_
                      simp only [↓SP, SX, SW, TY, EN, sv_w, ↓reduceIte, reduceCtorEq, Nat.reduceEqDiff, Nat.reduceAdd, Nat.reduceLeDiff, Nat.reduceLT, Fan.av, cyc_cs, e1, hc100, hg0, hg133]
                      refine hK _ _ ?_
                      clear hK K
                      refine wpT_if (by rfl) (fun hc142 => ?_) (fun hc142 => ?_)
                      · skip
                        have p142 := hc142
                        try simp only [decide_eq_true_eq, decide_eq_false_iff_not, beq_iff_eq, bne_iff_ne, beq_eq_false_iff_ne, bne_eq_false_iff_eq, Bool.not_eq_true', Bool.not_eq_false'] at p142
                        have hx : chkF f = 12 := by rw [hx7, if_pos (by rw [hh]; exact decide_eq_true p142)]
                        refine wpT_seq ?_
                        refine wpT_region (by kernel_rfl) (fun K hK => ?_)
                        simp only [↓SP, SX, SW, TY, EN, sv_w, ↓reduceIte, reduceCtorEq, Nat.reduceEqDiff, Nat.reduceAdd, Nat.reduceLeDiff, Nat.reduceLT, Fan.av, cyc_cs, hc100, hg0, hg133, hc142]
                        refine hK _ _ ?_
                        clear hK K
                        refine wpT_ret ⟨.inr rfl, ?_⟩
                        show optK (resA _ _ _ [.tmp 2]) _
                        simp only [SR, Option.map_some, Option.bind_some, ↓SP, SX, SW, TY, EN, sv_w, ↓reduceIte, reduceCtorEq, Nat.reduceEqDiff, Nat.reduceAdd, Nat.reduceLeDiff, Nat.reduceLT, Fan.av, cyc_cs, hc100, hg0, hg133, hc142]
                        refine Lend.eq ?_
                        rw [hx]
                      · skip
                        have p142 := hc142
                        try simp only [decide_eq_true_eq, decide_eq_false_iff_not, beq_iff_eq, bne_iff_ne, beq_eq_false_iff_ne, bne_eq_false_iff_eq, Bool.not_eq_true', Bool.not_eq_false'] at p142
                        have hx : chkF f = 0 := by rw [hx7, if_neg (by rw [hh]; simp_all)]
                        refine wpT_skip ?_
                        refine wpT_seq ?_
                        refine wpT_region (by kernel_rfl) (fun K hK => ?_)
                        simp only [↓SP, SX, SW, TY, EN, sv_w, ↓reduceIte, reduceCtorEq, Nat.reduceEqDiff, Nat.reduceAdd, Nat.reduceLeDiff, Nat.reduceLT, Fan.av, cyc_cs, hc100, hg0, hg133, hc142]
                        refine hK _ _ ?_
                        clear hK K
                        refine wpT_ret ⟨.inr rfl, ?_⟩
                        show optK (resA _ _ _ [.tmp 2]) _
                        simp only [SR, Option.map_some, Option.bind_some, ↓SP, SX, SW, TY, EN, sv_w, ↓reduceIte, reduceCtorEq, Nat.reduceEqDiff, Nat.reduceAdd, Nat.reduceLeDiff, Nat.reduceLT, Fan.av, cyc_cs, hc100, hg0, hg133, hc142]
                        refine Lend.eq ?_
                        rw [hx]
                    · skip
                      simp only [Bool.not_true, Bool.not_false] at hg133
                      have p133 := hg133
                      try simp only [decide_eq_true_eq, decide_eq_false_iff_not, beq_iff_eq, bne_iff_ne, beq_eq_false_iff_ne, bne_eq_false_iff_eq, Bool.not_eq_true', Bool.not_eq_false'] at p133
                      have hh : firstB (leastL (-1) f.app f.lost) f.kept = false := by
                        have : f.kept = [] := List.eq_nil_of_length_eq_zero (by omega)
                        rw [this]
                        rfl
                      simp only [↓SP, SX, SW, TY, EN, sv_w, ↓reduceIte, reduceCtorEq, Nat.reduceEqDiff, Nat.reduceAdd, Nat.reduceLeDiff, Nat.reduceLT, Fan.av, cyc_cs, e1, hc100, hg133]
                      refine hK _ _ ?_
                      clear hK K
                      refine wpT_ifF (by simp only [↓SP, SX, SW, TY, EN, sv_w, ↓reduceIte, reduceCtorEq, Nat.reduceEqDiff, Nat.reduceAdd, Nat.reduceLeDiff, Nat.reduceLT, Fan.av, cyc_cs, hc100, hg133]) ?_
                      have hx : chkF f = 0 := by rw [hx7, if_neg (by rw [hh]; simp_all)]
                      refine wpT_skip ?_
                      refine wpT_seq ?_
                      refine wpT_region (by kernel_rfl) (fun K hK => ?_)
                      simp only [↓SP, SX, SW, TY, EN, sv_w, ↓reduceIte, reduceCtorEq, Nat.reduceEqDiff, Nat.reduceAdd, Nat.reduceLeDiff, Nat.reduceLT, Fan.av, cyc_cs, hc100, hg133]
                      refine hK _ _ ?_
                      clear hK K
                      refine wpT_ret ⟨.inr rfl, ?_⟩
                      show optK (resA _ _ _ [.tmp 2]) _
                      simp only [SR, Option.map_some, Option.bind_some, ↓SP, SX, SW, TY, EN, sv_w, ↓reduceIte, reduceCtorEq, Nat.reduceEqDiff, Nat.reduceAdd, Nat.reduceLeDiff, Nat.reduceLT, Fan.av, cyc_cs, hc100, hg133]
                      refine Lend.eq ?_
                      rw [hx]
        · skip
          simp only [Bool.not_true, Bool.not_false] at hg29
          have p29 := hg29
          try simp only [decide_eq_true_eq, decide_eq_false_iff_not, beq_iff_eq, bne_iff_ne, beq_eq_false_iff_ne, bne_eq_false_iff_eq, Bool.not_eq_true', Bool.not_eq_false'] at p29
          simp only [↓SP, SX, SW, TY, EN, sv_w, ↓reduceIte, reduceCtorEq, Nat.reduceEqDiff, Nat.reduceAdd, Nat.reduceLeDiff, Nat.reduceLT, Fan.av, cyc_cs, hg11, hg17, hc25, hg29]
          refine hK _ _ ?_
          clear hK K
          refine wpT_ifT (by simp only [↓SP, SX, SW, TY, EN, sv_w, ↓reduceIte, reduceCtorEq, Nat.reduceEqDiff, Nat.reduceAdd, Nat.reduceLeDiff, Nat.reduceLT, Fan.av, cyc_cs, hg11, hg17, hc25, hg29]) ?_
          have hx : chkF f = 2 := by rw [chkF, if_neg h1, if_pos (by omega)]
          refine wpT_seq ?_
          refine wpT_region (by kernel_rfl) (fun K hK => ?_)
          simp only [↓SP, SX, SW, TY, EN, sv_w, ↓reduceIte, reduceCtorEq, Nat.reduceEqDiff, Nat.reduceAdd, Nat.reduceLeDiff, Nat.reduceLT, Fan.av, cyc_cs, hg11, hg17, hc25, hg29]
          refine hK _ _ ?_
          clear hK K
          refine wpT_ret ⟨.inr rfl, ?_⟩
          show optK (resA _ _ _ [.tmp 2]) _
          simp only [SR, Option.map_some, Option.bind_some, ↓SP, SX, SW, TY, EN, sv_w, ↓reduceIte, reduceCtorEq, Nat.reduceEqDiff, Nat.reduceAdd, Nat.reduceLeDiff, Nat.reduceLT, Fan.av, cyc_cs, hg11, hg17, hc25, hg29]
          refine Lend.eq ?_
          rw [hx]
    · skip
      simp only [Bool.not_true, Bool.not_false] at hg17
      have p17 := hg17
      try simp only [decide_eq_true_eq, decide_eq_false_iff_not, beq_iff_eq, bne_iff_ne, beq_eq_false_iff_ne, bne_eq_false_iff_eq, Bool.not_eq_true', Bool.not_eq_false'] at p17
      simp only [↓SP, SX, SW, TY, EN, sv_w, ↓reduceIte, reduceCtorEq, Nat.reduceEqDiff, Nat.reduceAdd, Nat.reduceLeDiff, Nat.reduceLT, Fan.av, cyc_cs, hg11, hg17]
      refine hK _ _ ?_
      clear hK K
      refine wpT_ifT (by simp only [↓SP, SX, SW, TY, EN, sv_w, ↓reduceIte, reduceCtorEq, Nat.reduceEqDiff, Nat.reduceAdd, Nat.reduceLeDiff, Nat.reduceLT, Fan.av, cyc_cs, hg11, hg17]) ?_
      have hx : chkF f = 6 := if_pos (by omega)
      refine wpT_seq ?_
      refine wpT_region (by kernel_rfl) (fun K hK => ?_)
      simp only [↓SP, SX, SW, TY, EN, sv_w, ↓reduceIte, reduceCtorEq, Nat.reduceEqDiff, Nat.reduceAdd, Nat.reduceLeDiff, Nat.reduceLT, Fan.av, cyc_cs, hg11, hg17]
      refine hK _ _ ?_
      clear hK K
      refine wpT_ret ⟨.inr rfl, ?_⟩
      show optK (resA _ _ _ [.tmp 2]) _
      simp only [SR, Option.map_some, Option.bind_some, ↓SP, SX, SW, TY, EN, sv_w, ↓reduceIte, reduceCtorEq, Nat.reduceEqDiff, Nat.reduceAdd, Nat.reduceLeDiff, Nat.reduceLT, Fan.av, cyc_cs, hg11, hg17]
      refine Lend.eq ?_
      rw [hx]
  · skip
    simp only [Bool.not_true, Bool.not_false] at hg11
    have p11 := hg11
    try simp only [decide_eq_true_eq, decide_eq_false_iff_not, beq_iff_eq, bne_iff_ne, beq_eq_false_iff_ne, bne_eq_false_iff_eq, Bool.not_eq_true', Bool.not_eq_false'] at p11
    simp only [↓SP, SX, SW, TY, EN, sv_w, ↓reduceIte, reduceCtorEq, Nat.reduceEqDiff, Nat.reduceAdd, Nat.reduceLeDiff, Nat.reduceLT, Fan.av, cyc_cs, hg11]
    refine hK _ _ ?_
    clear hK K
    refine wpT_ifT (by simp only [↓SP, SX, SW, TY, EN, sv_w, ↓reduceIte, reduceCtorEq, Nat.reduceEqDiff, Nat.reduceAdd, Nat.reduceLeDiff, Nat.reduceLT, Fan.av, cyc_cs, hg11]) ?_
    have hx : chkF f = 6 := if_pos (by omega)
    refine wpT_seq ?_
    refine wpT_region (by kernel_rfl) (fun K hK => ?_)
    simp only [↓SP, SX, SW, TY, EN, sv_w, ↓reduceIte, reduceCtorEq, Nat.reduceEqDiff, Nat.reduceAdd, Nat.reduceLeDiff, Nat.reduceLT, Fan.av, cyc_cs, hg11]
    refine hK _ _ ?_
    clear hK K
    refine wpT_ret ⟨.inr rfl, ?_⟩
    show optK (resA _ _ _ [.tmp 2]) _
    simp only [SR, Option.map_some, Option.bind_some, ↓SP, SX, SW, TY, EN, sv_w, ↓reduceIte, reduceCtorEq, Nat.reduceEqDiff, Nat.reduceAdd, Nat.reduceLeDiff, Nat.reduceLT, Fan.av, cyc_cs, hg11]
    refine Lend.eq ?_
    rw [hx]
def oldR (f : Fan) : Int := if chkF f ≠ 0 then -1 else leastL (-1) f.app f.lost
theorem chkF_len {f : Fan} (h : chkF f = 0) : f.lost.length = f.app.length := by
  unfold chkF at h
  split at h
  · simp at h
  · omega
end Go.Proofs.YtlmjpgmaefokdaaGreat
end

section
set_option linter.unusedSimpArgs false
set_option linter.unusedVariables false
namespace Go.Proofs.YtlmjpgmaefokdaaGreat
open Go.Proofs
set_option maxRecDepth 10000
theorem msO_ok (by' : Nat) (n k : Int) (h0 : 0 ≤ n) (h1 : n ≤ k) (h2 : k ≤ 9223372036854775807) (h3 : (by' : Int) * k ≤ 281474976710656) (e c : Nat) (z : AV) (nid : Nat) : msO e c by' z n k nid = some (.sl nid n.toNat 0 n.toNat, .new (.arr e c (List.replicate n.toNat z))) := if_pos ⟨h0, h1, h2, h3⟩
def idxP {α : Type} (p : α → Bool) : Nat → List α → Int
  | _, [] => -1
  | i, x :: xs => if p x = true then i else idxP p (i + 1) xs
theorem idxP_ge {α : Type} (p : α → Bool) : ∀ (i : Nat) (xs : List α), (decide (idxP p i xs ≥ 0)) = xs.any p
  | _, [] => by simp [idxP]
  | i, x :: xs => by
    rw [idxP]
    split
    · simp_all
    · rw [idxP_ge p (i + 1) xs]; simp_all
theorem c162 (xs : List Int) (fv : AV) (p : Int → Bool) (hl : xs.length < 4611686018427387904) (hfv : Idf fv) (hp : ∀ x ∈ xs, Pu Tryz.prog fv [I x] (B (p x))) : Pu Tryz.prog (.fn (.func 162) [] []) [.lst (xs.map I), fv] (I (idxP p 0 xs)) := by
  refine pu_func Tryz.func162 rfl (by kernel_rfl) (by show _ ≤ 19; simp only [List.length_append, List.length_cons, List.length_nil]; decide) (by simp only [IDF]) (by simp only [IDF, and_tt, implies_true]) (by simp only [IDF, eq_true hfv, and_tt, implies_true]) ?_
  rw [Tryz.ntmps162]
  refine wpT_seq ?_
  refine wpT_region (by kernel_rfl) (fun K hK => ?_)
  simp only [↓SP, SX, SW, TY, EN, sv_w, ↓reduceIte, reduceCtorEq, Nat.reduceEqDiff, Nat.reduceAdd, Nat.reduceLeDiff, Nat.reduceLT]
  refine hK _ _ ?_
  clear hK K
  refine wpT_seq ?_
  refine wpT_seq ?_
  refine wpT_region (by kernel_rfl) (fun K hK => ?_)
  simp only [↓SP, SX, SW, TY, EN, sv_w, ↓reduceIte, reduceCtorEq, Nat.reduceEqDiff, Nat.reduceAdd, Nat.reduceLeDiff, Nat.reduceLT]
  refine hK _ _ ?_
  clear hK K
  refine wpT_block ?_
  refine wpT_loop ?_
  refine wpT_keep0 ?_
  refine wpT_ind (fun (i : Nat) tm' h' => (∃ m, h' = Hp.of [] m) ∧ tm' 0 = .lst (xs.map I) ∧ tm' 1 = fv ∧ tm' 7 = I xs.length ∧ tm' 8 = I i ∧ i ≤ xs.length ∧ idxP p i (xs.drop i) = idxP p 0 xs) (fun i => xs.length - i) ?_ 0 ⟨⟨_, rfl⟩, rfl, rfl, rfl, rfl, by omega, rfl⟩
  rintro i tm' _ ⟨⟨m, rfl⟩, e0, e1, e7, e8, hi, hx⟩ IH
  refine wpT_inLoop ?_
  refine wpT_seq ?_
  refine wpT_region (by kernel_rfl) (fun K hK => ?_)
  simp only [↓SP, SX, SW, TY, EN, sv_w, ↓reduceIte, reduceCtorEq, Nat.reduceEqDiff, Nat.reduceAdd, Nat.reduceLeDiff, Nat.reduceLT, e7, e8]
  refine hK _ _ ?_
  clear hK K
  refine wpT_seq ?_
  refine wpT_if (by rfl) (fun hc9 => ?_) (fun hc9 => ?_)
  · skip
    have p9 := hc9
    try simp only [decide_eq_true_eq, decide_eq_false_iff_not, beq_iff_eq, bne_iff_ne, beq_eq_false_iff_ne, bne_eq_false_iff_eq, Bool.not_eq_true', Bool.not_eq_false'] at p9
    have hlt : i < xs.length := by omega
    have hg := at_map (f := I) hlt
    rw [List.drop_eq_getElem_cons hlt, idxP] at hx
    refine wpT_skip ?_
    refine wpT_seq ?_
    refine wpT_block ?_
    refine wpT_seq ?_
    refine wpT_region (by kernel_rfl) (fun K hK => ?_)
    simp only [↓SP, SX, SW, TY, EN, sv_w, ↓reduceIte, reduceCtorEq, Nat.reduceEqDiff, Nat.reduceAdd, Nat.reduceLeDiff, Nat.reduceLT, e8, hc9]
    refine hK _ _ ?_
    clear hK K
    refine wpT_seq ?_
    refine wpT_region (by kernel_rfl) (fun K hK => ?_)
    simp only [↓SP, SX, SW, TY, EN, sv_w, ↓reduceIte, reduceCtorEq, Nat.reduceEqDiff, Nat.reduceAdd, Nat.reduceLeDiff, Nat.reduceLT, e0, e1, hg, hc9]
    refine Pu.call (hp _ (List.getElem_mem hlt)) ?_
    simp only [↓SP, SX, SW, TY, EN, sv_w, ↓reduceIte, reduceCtorEq, Nat.reduceEqDiff, Nat.reduceAdd, Nat.reduceLeDiff, Nat.reduceLT, e0, e1, hg, hc9]
    refine hK _ _ ?_
    clear hK K
    refine wpT_if (by rfl) (fun hc16 => ?_) (fun hc16 => ?_)
    · skip
      have p16 := hc16
      try simp only [decide_eq_true_eq, decide_eq_false_iff_not, beq_iff_eq, bne_iff_ne, beq_eq_false_iff_ne, bne_eq_false_iff_eq, Bool.not_eq_true', Bool.not_eq_false'] at p16
      rw [if_pos hc16] at hx
      refine wpT_seq ?_
      refine wpT_region (by kernel_rfl) (fun K hK => ?_)
      simp only [↓SP, SX, SW, TY, EN, sv_w, ↓reduceIte, reduceCtorEq, Nat.reduceEqDiff, Nat.reduceAdd, Nat.reduceLeDiff, Nat.reduceLT, hc9, hc16]
      refine hK _ _ ?_
      clear hK K
      refine wpT_ret ⟨.inr rfl, ?_⟩
      show optK (resA _ _ _ [.tmp 4]) _
      simp only [SR, Option.map_some, Option.bind_some, ↓SP, SX, SW, TY, EN, sv_w, ↓reduceIte, reduceCtorEq, Nat.reduceEqDiff, Nat.reduceAdd, Nat.reduceLeDiff, Nat.reduceLT, hc9, hc16]
      refine Lend.eq ?_
      rw [← hx]
    · skip
      have p16 := hc16
      try simp only [decide_eq_true_eq, decide_eq_false_iff_not, beq_iff_eq, bne_iff_ne, beq_eq_false_iff_ne, bne_eq_false_iff_eq, Bool.not_eq_true', Bool.not_eq_false'] at p16
      rw [if_neg (by simp [hc16])] at hx
      refine wpT_skip ?_
      refine wpT_inBlock ?_
      refine wpT_region (by kernel_rfl) (fun K hK => ?_)
      simp only [↓SP, SX, SW, TY, EN, sv_w, ↓reduceIte, reduceCtorEq, Nat.reduceEqDiff, Nat.reduceAdd, Nat.reduceLeDiff, Nat.reduceLT, e8, wrap64 (x := (i : Int) + 1) (by omega) (by omega), hc9, hc16]
      refine hK _ _ ?_
      clear hK K
      refine wpT_keep0 ?_
      refine IH (i + 1) _ _ (by omega) ⟨⟨_, rfl⟩, by simp only [↓SP, SX, SW, TY, EN, sv_w, ↓reduceIte, reduceCtorEq, Nat.reduceEqDiff, Nat.reduceAdd, Nat.reduceLeDiff, Nat.reduceLT, e0], by simp only [↓SP, SX, SW, TY, EN, sv_w, ↓reduceIte, reduceCtorEq, Nat.reduceEqDiff, Nat.reduceAdd, Nat.reduceLeDiff, Nat.reduceLT, e1], by simp only [↓SP, SX, SW, TY, EN, sv_w, ↓reduceIte, reduceCtorEq, Nat.reduceEqDiff, Nat.reduceAdd, Nat.reduceLeDiff, Nat.reduceLT, e7], by simp only [↓SP, SX, SW, TY, EN, sv_w, ↓reduceIte, reduceCtorEq, Nat.reduceEqDiff, Nat.reduceAdd, Nat.reduceLeDiff, Nat.reduceLT, Int.natCast_add, Int.cast_ofNat_Int], by omega, hx⟩
  · skip
    have p9 := hc9
    try simp only [decide_eq_true_eq, decide_eq_false_iff_not, beq_iff_eq, bne_iff_ne, beq_eq_false_iff_ne, bne_eq_false_iff_eq, Bool.not_eq_true', Bool.not_eq_false'] at p9
    rw [List.drop_eq_nil_of_le (by omega), idxP] at hx
    refine wpT_exit rfl ?_
    refine wpT_seq ?_
    refine wpT_region (by kernel_rfl) (fun K hK => ?_)
    simp only [↓SP, SX, SW, TY, EN, sv_w, ↓reduceIte, reduceCtorEq, Nat.reduceEqDiff, Nat.reduceAdd, Nat.reduceLeDiff, Nat.reduceLT, hc9]
    refine hK _ _ ?_
    clear hK K
    refine wpT_ret ⟨.inr rfl, ?_⟩
    show optK (resA _ _ _ [.tmp 4]) _
    simp only [SR, Option.map_some, Option.bind_some, ↓SP, SX, SW, TY, EN, sv_w, ↓reduceIte, reduceCtorEq, Nat.reduceEqDiff, Nat.reduceAdd, Nat.reduceLeDiff, Nat.reduceLT, hc9]
    refine Lend.eq ?_
    rw [← hx]
theorem c104 (xs : List Int) (fv : AV) (p : Int → Bool) (hl : xs.length < 4611686018427387904) (hfv : Idf fv) (hp : ∀ x ∈ xs, Pu Tryz.prog fv [I x] (B (p x))) : Pu Tryz.prog (.fn (.func 104) [] []) [.lst (xs.map I), fv] (B (xs.any p)) := by
  refine pu_func Tryz.func104 rfl (by kernel_rfl) (by show _ ≤ 9; simp only [List.length_append, List.length_cons, List.length_nil]; decide) (by simp only [IDF]) (by simp only [IDF, and_tt, implies_true]) (by simp only [IDF, eq_true hfv, and_tt, implies_true]) ?_
  rw [Tryz.ntmps104]
  refine wpT_seq ?_
  refine wpT_region (by kernel_rfl) (fun K hK => ?_)
  simp only [↓SP, SX, SW, TY, EN, sv_w, ↓reduceIte, reduceCtorEq, Nat.reduceEqDiff, Nat.reduceAdd, Nat.reduceLeDiff, Nat.reduceLT]
  refine hK _ _ ?_
  clear hK K
  refine wpT_seq ?_
  refine wpT_region (by kernel_rfl) (fun K hK => ?_)
  simp only [↓SP, SX, SW, TY, EN, sv_w, ↓reduceIte, reduceCtorEq, Nat.reduceEqDiff, Nat.reduceAdd, Nat.reduceLeDiff, Nat.reduceLT, idxP_ge]
  refine Pu.call (c162 xs fv p hl hfv hp) ?_
  simp only [↓SP, SX, SW, TY, EN, sv_w, ↓reduceIte, reduceCtorEq, Nat.reduceEqDiff, Nat.reduceAdd, Nat.reduceLeDiff, Nat.reduceLT, idxP_ge]
  refine hK _ _ ?_
  clear hK K
  refine wpT_ret ⟨.inr rfl, ?_⟩
  show optK (resA _ _ _ [.tmp 4]) _
  simp only [SR, Option.map_some, Option.bind_some, ↓SP, SX, SW, TY, EN, sv_w, ↓reduceIte, reduceCtorEq, Nat.reduceEqDiff, Nat.reduceAdd, Nat.reduceLeDiff, Nat.reduceLT]
  exact .refl _
theorem c171 (n : Int) : Pu Tryz.prog (.fn (.func 171) [] []) [I n] (B (decide (n < 1 ∨ n > 4096))) := by
  refine pu_func Tryz.func171 rfl (by kernel_rfl) (by show _ ≤ 9; simp only [List.length_append, List.length_cons, List.length_nil]; decide) (by simp only [IDF, and_tt, implies_true]) (by simp only [IDF, and_tt, implies_true]) (by simp only [IDF, and_tt, implies_true]) ?_
  rw [Tryz.ntmps171]
  refine wpT_seq ?_
  refine wpT_region (by kernel_rfl) (fun K hK => ?_)
  simp only [↓SP, SX, SW, TY, EN, sv_w, ↓reduceIte, reduceCtorEq, Nat.reduceEqDiff, Nat.reduceAdd, Nat.reduceLeDiff, Nat.reduceLT]
  refine hK _ _ ?_
  clear hK K
  refine wpT_seq ?_
  refine wpT_region (by kernel_rfl) (fun K hK => ?_)
  simp only [↓SP, SX, SW, TY, EN, sv_w, ↓reduceIte, reduceCtorEq, Nat.reduceEqDiff, Nat.reduceAdd, Nat.reduceLeDiff, Nat.reduceLT]
  refine guardO_split (fun hg5 => ?_) (fun hg5 => ?_)
  · skip
    have p5 := hg5
    try simp only [decide_eq_true_eq, decide_eq_false_iff_not, beq_iff_eq, bne_iff_ne, beq_eq_false_iff_ne, bne_eq_false_iff_eq, Bool.not_eq_true', Bool.not_eq_false'] at p5
    simp only [↓SP, SX, SW, TY, EN, sv_w, ↓reduceIte, reduceCtorEq, Nat.reduceEqDiff, Nat.reduceAdd, Nat.reduceLeDiff, Nat.reduceLT, hg5]
    refine hK _ _ ?_
    clear hK K
    refine wpT_ret ⟨.inr rfl, ?_⟩
    show optK (resA _ _ _ [.tmp 2]) _
    simp only [SR, Option.map_some, Option.bind_some, ↓SP, SX, SW, TY, EN, sv_w, ↓reduceIte, reduceCtorEq, Nat.reduceEqDiff, Nat.reduceAdd, Nat.reduceLeDiff, Nat.reduceLT, hg5]
    refine Lend.eq ?_
    congr 1
    first
      | exact (decide_eq_true (by omega)).symm
      | exact decide_eq_decide.2 (by omega)
  · skip
    simp only [Bool.not_true, Bool.not_false] at hg5
    have p5 := hg5
    try simp only [decide_eq_true_eq, decide_eq_false_iff_not, beq_iff_eq, bne_iff_ne, beq_eq_false_iff_ne, bne_eq_false_iff_eq, Bool.not_eq_true', Bool.not_eq_false'] at p5
    simp only [↓SP, SX, SW, TY, EN, sv_w, ↓reduceIte, reduceCtorEq, Nat.reduceEqDiff, Nat.reduceAdd, Nat.reduceLeDiff, Nat.reduceLT, hg5]
    refine hK _ _ ?_
    clear hK K
    refine wpT_ret ⟨.inr rfl, ?_⟩
    show optK (resA _ _ _ [.tmp 2]) _
    simp only [SR, Option.map_some, Option.bind_some, ↓SP, SX, SW, TY, EN, sv_w, ↓reduceIte, reduceCtorEq, Nat.reduceEqDiff, Nat.reduceAdd, Nat.reduceLeDiff, Nat.reduceLT, hg5]
    refine Lend.eq ?_
    congr 1
    first
      | exact (decide_eq_true (by omega)).symm
      | exact decide_eq_decide.2 (by omega)
theorem szR_any : ∀ xs : List Int, szR xs = if (xs.any fun n => decide (n < 1 ∨ n > 4096)) = true then 2 else 0
  | [] => rfl
  | x :: xs => by
    rw [szR, szR_any xs]
    by_cases h : x < 1 ∨ x > 4096
    · rw [if_pos h, if_pos (by simp [h])]
    · rw [if_neg h]; simp only [List.any_cons, decide_eq_false h, Bool.false_or]
theorem posR_any : ∀ xs : List Int, posR xs = if (xs.any fun n => decide (n < 0 ∨ n > 1073741824)) = true then 2 else 0
  | [] => rfl
  | x :: xs => by
    rw [posR, posR_any xs]
    by_cases h : x < 0 ∨ x > 1073741824
    · rw [if_pos h, if_pos (by simp [h])]
    · rw [if_neg h]; simp only [List.any_cons, decide_eq_false h, Bool.false_or]
theorem c129 (xs : List Int) (hl : xs.length < 4611686018427387904) : Pu Tryz.prog (.fn (.func 129) [] []) [.lst (xs.map I)] (I (sizesE xs)) := by
  refine pu_func Tryz.func129 rfl (by kernel_rfl) (by show _ ≤ 13; simp only [List.length_append, List.length_cons, List.length_nil]; decide) (by simp only [IDF, and_tt, implies_true]) (by simp only [IDF, and_tt, implies_true]) (by simp only [IDF, and_tt, implies_true]) ?_
  rw [Tryz.ntmps129]
  refine wpT_seq ?_
  refine wpT_region (by kernel_rfl) (fun K hK => ?_)
  simp only [↓SP, SX, SW, TY, EN, sv_w, ↓reduceIte, reduceCtorEq, Nat.reduceEqDiff, Nat.reduceAdd, Nat.reduceLeDiff, Nat.reduceLT]
  refine hK _ _ ?_
  clear hK K
  refine wpT_seq ?_
  refine wpT_seq ?_
  refine wpT_region (by kernel_rfl) (fun K hK => ?_)
  simp only [↓SP, SX, SW, TY, EN, sv_w, ↓reduceIte, reduceCtorEq, Nat.reduceEqDiff, Nat.reduceAdd, Nat.reduceLeDiff, Nat.reduceLT]
  refine guardO_split (fun hg6 => ?_) (fun hg6 => ?_)
  · skip
    have p6 := hg6
    try simp only [decide_eq_true_eq, decide_eq_false_iff_not, beq_iff_eq, bne_iff_ne, beq_eq_false_iff_ne, bne_eq_false_iff_eq, Bool.not_eq_true', Bool.not_eq_false'] at p6
    simp only [↓SP, SX, SW, TY, EN, sv_w, ↓reduceIte, reduceCtorEq, Nat.reduceEqDiff, Nat.reduceAdd, Nat.reduceLeDiff, Nat.reduceLT, hg6]
    refine hK _ _ ?_
    clear hK K
    refine wpT_if (by rfl) (fun hc10 => ?_) (fun hc10 => ?_)
    · skip
      have p10 := hc10
      try simp only [decide_eq_true_eq, decide_eq_false_iff_not, beq_iff_eq, bne_iff_ne, beq_eq_false_iff_ne, bne_eq_false_iff_eq, Bool.not_eq_true', Bool.not_eq_false'] at p10
      have hx : sizesE xs = 6 := if_pos (by omega)
      refine wpT_seq ?_
      refine wpT_region (by kernel_rfl) (fun K hK => ?_)
      simp only [↓SP, SX, SW, TY, EN, sv_w, ↓reduceIte, reduceCtorEq, Nat.reduceEqDiff, Nat.reduceAdd, Nat.reduceLeDiff, Nat.reduceLT, hg6, hc10]
      refine hK _ _ ?_
      clear hK K
      refine wpT_ret ⟨.inr rfl, ?_⟩
      show optK (resA _ _ _ [.tmp 2]) _
      simp only [SR, Option.map_some, Option.bind_some, ↓SP, SX, SW, TY, EN, sv_w, ↓reduceIte, reduceCtorEq, Nat.reduceEqDiff, Nat.reduceAdd, Nat.reduceLeDiff, Nat.reduceLT, hg6, hc10]
      refine Lend.eq ?_
      rw [hx]
    · skip
      have p10 := hc10
      try simp only [decide_eq_true_eq, decide_eq_false_iff_not, beq_iff_eq, bne_iff_ne, beq_eq_false_iff_ne, bne_eq_false_iff_eq, Bool.not_eq_true', Bool.not_eq_false'] at p10
      have hx : sizesE xs = szR xs := if_neg (by omega)
      rw [szR_any] at hx
      refine wpT_skip ?_
      refine wpT_seq ?_
      refine wpT_seq ?_
      refine wpT_region (by kernel_rfl) (fun K hK => ?_)
      simp only [↓SP, SX, SW, TY, EN, sv_w, ↓reduceIte, reduceCtorEq, Nat.reduceEqDiff, Nat.reduceAdd, Nat.reduceLeDiff, Nat.reduceLT, hg6, hc10]
      refine Pu.call (c104 xs _ _ hl (by simp only [IDF, and_tt]) (fun x _ => c171 x)) ?_
      simp only [↓SP, SX, SW, TY, EN, sv_w, ↓reduceIte, reduceCtorEq, Nat.reduceEqDiff, Nat.reduceAdd, Nat.reduceLeDiff, Nat.reduceLT, hg6, hc10]
      refine hK _ _ ?_
      clear hK K
      refine wpT_if (by rfl) (fun hc12 => ?_) (fun hc12 => ?_)
      · skip
        have p12 := hc12
        try simp only [decide_eq_true_eq, decide_eq_false_iff_not, beq_iff_eq, bne_iff_ne, beq_eq_false_iff_ne, bne_eq_false_iff_eq, Bool.not_eq_true', Bool.not_eq_false'] at p12
        rw [if_pos hc12] at hx
        refine wpT_seq ?_
        refine wpT_region (by kernel_rfl) (fun K hK => ?_)
        simp only [↓SP, SX, SW, TY, EN, sv_w, ↓reduceIte, reduceCtorEq, Nat.reduceEqDiff, Nat.reduceAdd, Nat.reduceLeDiff, Nat.reduceLT, hg6, hc10, hc12]
        refine hK _ _ ?_
        clear hK K
        refine wpT_ret ⟨.inr rfl, ?_⟩
        show optK (resA _ _ _ [.tmp 2]) _
        simp only [SR, Option.map_some, Option.bind_some, ↓SP, SX, SW, TY, EN, sv_w, ↓reduceIte, reduceCtorEq, Nat.reduceEqDiff, Nat.reduceAdd, Nat.reduceLeDiff, Nat.reduceLT, hg6, hc10, hc12]
        refine Lend.eq ?_
        rw [hx]
      · skip
        have p12 := hc12
        try simp only [decide_eq_true_eq, decide_eq_false_iff_not, beq_iff_eq, bne_iff_ne, beq_eq_false_iff_ne, bne_eq_false_iff_eq, Bool.not_eq_true', Bool.not_eq_false'] at p12
        rw [if_neg (by rw [hc12]; simp)] at hx
        refine wpT_skip ?_
        refine wpT_seq ?_
        refine wpT_region (by kernel_rfl) (fun K hK => ?_)
        simp only [↓SP, SX, SW, TY, EN, sv_w, ↓reduceIte, reduceCtorEq, Nat.reduceEqDiff, Nat.reduceAdd, Nat.reduceLeDiff, Nat.reduceLT, hg6, hc10, hc12]
        refine hK _ _ ?_
        clear hK K
        refine wpT_ret ⟨.inr rfl, ?_⟩
        show optK (resA _ _ _ [.tmp 2]) _
        simp only [SR, Option.map_some, Option.bind_some, ↓SP, SX, SW, TY, EN, sv_w, ↓reduceIte, reduceCtorEq, Nat.reduceEqDiff, Nat.reduceAdd, Nat.reduceLeDiff, Nat.reduceLT, hg6, hc10, hc12]
        refine Lend.eq ?_
        rw [hx]
  · skip
    simp only [Bool.not_true, Bool.not_false] at hg6
    have p6 := hg6
    try simp only [decide_eq_true_eq, decide_eq_false_iff_not, beq_iff_eq, bne_iff_ne, beq_eq_false_iff_ne, bne_eq_false_iff_eq, Bool.not_eq_true', Bool.not_eq_false'] at p6
    simp only [↓SP, SX, SW, TY, EN, sv_w, ↓reduceIte, reduceCtorEq, Nat.reduceEqDiff, Nat.reduceAdd, Nat.reduceLeDiff, Nat.reduceLT, hg6]
    refine hK _ _ ?_
    clear hK K
    refine wpT_ifT (by simp only [↓SP, SX, SW, TY, EN, sv_w, ↓reduceIte, reduceCtorEq, Nat.reduceEqDiff, Nat.reduceAdd, Nat.reduceLeDiff, Nat.reduceLT, hg6]) ?_
    have hx : sizesE xs = 6 := if_pos (by omega)
    refine wpT_seq ?_
    refine wpT_region (by kernel_rfl) (fun K hK => ?_)
    simp only [↓SP, SX, SW, TY, EN, sv_w, ↓reduceIte, reduceCtorEq, Nat.reduceEqDiff, Nat.reduceAdd, Nat.reduceLeDiff, Nat.reduceLT, hg6]
    refine hK _ _ ?_
    clear hK K
    refine wpT_ret ⟨.inr rfl, ?_⟩
    show optK (resA _ _ _ [.tmp 2]) _
    simp only [SR, Option.map_some, Option.bind_some, ↓SP, SX, SW, TY, EN, sv_w, ↓reduceIte, reduceCtorEq, Nat.reduceEqDiff, Nat.reduceAdd, Nat.reduceLeDiff, Nat.reduceLT, hg6]
    refine Lend.eq ?_
    rw [hx]
theorem c132 (a b c : Int) : Pu Tryz.prog (.fn (.func 132) [] []) [I a, I b, I c] (B (decide (a ≥ b ∧ a ≤ c))) := by
  refine pu_func Tryz.func132 rfl (by kernel_rfl) (by show _ ≤ 15; simp only [List.length_append, List.length_cons, List.length_nil]; decide) (by simp only [IDF, and_tt, implies_true]) (by simp only [IDF, and_tt, implies_true]) (by simp only [IDF, and_tt, implies_true]) ?_
  rw [Tryz.ntmps132]
  refine wpT_seq ?_
  refine wpT_region (by kernel_rfl) (fun K hK => ?_)
  simp only [↓SP, SX, SW, TY, EN, sv_w, ↓reduceIte, reduceCtorEq, Nat.reduceEqDiff, Nat.reduceAdd, Nat.reduceLeDiff, Nat.reduceLT]
  refine hK _ _ ?_
  clear hK K
  refine wpT_seq ?_
  refine wpT_region (by kernel_rfl) (fun K hK => ?_)
  simp only [↓SP, SX, SW, TY, EN, sv_w, ↓reduceIte, reduceCtorEq, Nat.reduceEqDiff, Nat.reduceAdd, Nat.reduceLeDiff, Nat.reduceLT]
  refine guardO_split (fun hg10 => ?_) (fun hg10 => ?_)
  · skip
    have p10 := hg10
    try simp only [decide_eq_true_eq, decide_eq_false_iff_not, beq_iff_eq, bne_iff_ne, beq_eq_false_iff_ne, bne_eq_false_iff_eq, Bool.not_eq_true', Bool.not_eq_false'] at p10
    simp only [↓SP, SX, SW, TY, EN, sv_w, ↓reduceIte, reduceCtorEq, Nat.reduceEqDiff, Nat.reduceAdd, Nat.reduceLeDiff, Nat.reduceLT, hg10]
    refine hK _ _ ?_
    clear hK K
    refine wpT_ret ⟨.inr rfl, ?_⟩
    show optK (resA _ _ _ [.tmp 6]) _
    simp only [SR, Option.map_some, Option.bind_some, ↓SP, SX, SW, TY, EN, sv_w, ↓reduceIte, reduceCtorEq, Nat.reduceEqDiff, Nat.reduceAdd, Nat.reduceLeDiff, Nat.reduceLT, hg10]
    refine Lend.eq ?_
    congr 1
    first
      | exact (decide_eq_false (by omega)).symm
      | exact decide_eq_decide.2 (by omega)
  · skip
    simp only [Bool.not_true, Bool.not_false] at hg10
    have p10 := hg10
    try simp only [decide_eq_true_eq, decide_eq_false_iff_not, beq_iff_eq, bne_iff_ne, beq_eq_false_iff_ne, bne_eq_false_iff_eq, Bool.not_eq_true', Bool.not_eq_false'] at p10
    simp only [↓SP, SX, SW, TY, EN, sv_w, ↓reduceIte, reduceCtorEq, Nat.reduceEqDiff, Nat.reduceAdd, Nat.reduceLeDiff, Nat.reduceLT, hg10]
    refine hK _ _ ?_
    clear hK K
    refine wpT_ret ⟨.inr rfl, ?_⟩
    show optK (resA _ _ _ [.tmp 6]) _
    simp only [SR, Option.map_some, Option.bind_some, ↓SP, SX, SW, TY, EN, sv_w, ↓reduceIte, reduceCtorEq, Nat.reduceEqDiff, Nat.reduceAdd, Nat.reduceLeDiff, Nat.reduceLT, hg10]
    refine Lend.eq ?_
    congr 1
    first
      | exact (decide_eq_false (by omega)).symm
      | exact decide_eq_decide.2 (by omega)
theorem c185 (n : Int) : Pu Tryz.prog (.fn (.func 185) [] []) [I n] (B (decide (n < 0 ∨ n > 1073741824))) := by
  refine pu_func Tryz.func185 rfl (by kernel_rfl) (by show _ ≤ 6; simp only [List.length_append, List.length_cons, List.length_nil]; decide) (by simp only [IDF, and_tt, implies_true]) (by simp only [IDF, and_tt, implies_true]) (by simp only [IDF, and_tt, implies_true]) ?_
  rw [Tryz.ntmps185]
  refine wpT_seq ?_
  refine wpT_region (by kernel_rfl) (fun K hK => ?_)
  simp only [↓SP, SX, SW, TY, EN, sv_w, ↓reduceIte, reduceCtorEq, Nat.reduceEqDiff, Nat.reduceAdd, Nat.reduceLeDiff, Nat.reduceLT]
  refine hK _ _ ?_
  clear hK K
  refine wpT_seq ?_
  refine wpT_region (by kernel_rfl) (fun K hK => ?_)
  simp only [↓SP, SX, SW, TY, EN, sv_w, ↓reduceIte, reduceCtorEq, Nat.reduceEqDiff, Nat.reduceAdd, Nat.reduceLeDiff, Nat.reduceLT]
  refine Pu.call (c132 ..) ?_
  simp only [↓SP, SX, SW, TY, EN, sv_w, ↓reduceIte, reduceCtorEq, Nat.reduceEqDiff, Nat.reduceAdd, Nat.reduceLeDiff, Nat.reduceLT]
  refine hK _ _ ?_
  clear hK K
  refine wpT_ret ⟨.inr rfl, ?_⟩
  show optK (resA _ _ _ [.tmp 2]) _
  simp only [SR, Option.map_some, Option.bind_some, ↓SP, SX, SW, TY, EN, sv_w, ↓reduceIte, reduceCtorEq, Nat.reduceEqDiff, Nat.reduceAdd, Nat.reduceLeDiff, Nat.reduceLT]
  refine Lend.eq ?_
  congr 1
  rw [← decide_not]
  exact decide_eq_decide.2 (by omega)
def posE (xs : List Int) : Int := if xs.length > 8 then 6 else posR xs
theorem c140 (xs : List Int) (hl : xs.length < 4611686018427387904) : Pu Tryz.prog (.fn (.func 140) [] []) [.lst (xs.map I), I 0] (I (posE xs)) := by
  refine pu_func Tryz.func140 rfl (by kernel_rfl) (by show _ ≤ 12; simp only [List.length_append, List.length_cons, List.length_nil]; decide) (by simp only [IDF, and_tt, implies_true]) (by simp only [IDF, and_tt, implies_true]) (by simp only [IDF, and_tt, implies_true]) ?_
  rw [Tryz.ntmps140]
  refine wpT_seq ?_
  refine wpT_region (by kernel_rfl) (fun K hK => ?_)
  simp only [↓SP, SX, SW, TY, EN, sv_w, ↓reduceIte, reduceCtorEq, Nat.reduceEqDiff, Nat.reduceAdd, Nat.reduceLeDiff, Nat.reduceLT]
  refine hK _ _ ?_
  clear hK K
  refine wpT_seq ?_
  refine wpT_seq ?_
  refine wpT_region (by kernel_rfl) (fun K hK => ?_)
  simp only [↓SP, SX, SW, TY, EN, sv_w, ↓reduceIte, reduceCtorEq, Nat.reduceEqDiff, Nat.reduceAdd, Nat.reduceLeDiff, Nat.reduceLT]
  refine Pu.call (c132 ..) ?_
  simp only [↓SP, SX, SW, TY, EN, sv_w, ↓reduceIte, reduceCtorEq, Nat.reduceEqDiff, Nat.reduceAdd, Nat.reduceLeDiff, Nat.reduceLT]
  refine hK _ _ ?_
  clear hK K
  refine wpT_if (by rfl) (fun hc9 => ?_) (fun hc9 => ?_)
  · skip
    have p9 := hc9
    try simp only [decide_eq_true_eq, decide_eq_false_iff_not, beq_iff_eq, bne_iff_ne, beq_eq_false_iff_ne, bne_eq_false_iff_eq, Bool.not_eq_true', Bool.not_eq_false'] at p9
    have hx : posE xs = 6 := if_pos (by omega)
    refine wpT_seq ?_
    refine wpT_region (by kernel_rfl) (fun K hK => ?_)
    simp only [↓SP, SX, SW, TY, EN, sv_w, ↓reduceIte, reduceCtorEq, Nat.reduceEqDiff, Nat.reduceAdd, Nat.reduceLeDiff, Nat.reduceLT, hc9]
    refine hK _ _ ?_
    clear hK K
    refine wpT_ret ⟨.inr rfl, ?_⟩
    show optK (resA _ _ _ [.tmp 4]) _
    simp only [SR, Option.map_some, Option.bind_some, ↓SP, SX, SW, TY, EN, sv_w, ↓reduceIte, reduceCtorEq, Nat.reduceEqDiff, Nat.reduceAdd, Nat.reduceLeDiff, Nat.reduceLT, hc9]
    refine Lend.eq ?_
    rw [hx]
  · skip
    have p9 := hc9
    try simp only [decide_eq_true_eq, decide_eq_false_iff_not, beq_iff_eq, bne_iff_ne, beq_eq_false_iff_ne, bne_eq_false_iff_eq, Bool.not_eq_true', Bool.not_eq_false'] at p9
    have hx : posE xs = posR xs := if_neg (by omega)
    rw [posR_any] at hx
    refine wpT_skip ?_
    refine wpT_seq ?_
    refine wpT_seq ?_
    refine wpT_region (by kernel_rfl) (fun K hK => ?_)
    simp only [↓SP, SX, SW, TY, EN, sv_w, ↓reduceIte, reduceCtorEq, Nat.reduceEqDiff, Nat.reduceAdd, Nat.reduceLeDiff, Nat.reduceLT, hc9]
    refine Pu.call (c104 xs _ _ hl (by simp only [IDF, and_tt]) (fun x _ => c185 x)) ?_
    simp only [↓SP, SX, SW, TY, EN, sv_w, ↓reduceIte, reduceCtorEq, Nat.reduceEqDiff, Nat.reduceAdd, Nat.reduceLeDiff, Nat.reduceLT, hc9]
    refine hK _ _ ?_
    clear hK K
    refine wpT_if (by rfl) (fun hc11 => ?_) (fun hc11 => ?_)
    · skip
      have p11 := hc11
      try simp only [decide_eq_true_eq, decide_eq_false_iff_not, beq_iff_eq, bne_iff_ne, beq_eq_false_iff_ne, bne_eq_false_iff_eq, Bool.not_eq_true', Bool.not_eq_false'] at p11
      rw [if_pos hc11] at hx
      refine wpT_seq ?_
      refine wpT_region (by kernel_rfl) (fun K hK => ?_)
      simp only [↓SP, SX, SW, TY, EN, sv_w, ↓reduceIte, reduceCtorEq, Nat.reduceEqDiff, Nat.reduceAdd, Nat.reduceLeDiff, Nat.reduceLT, hc9, hc11]
      refine hK _ _ ?_
      clear hK K
      refine wpT_ret ⟨.inr rfl, ?_⟩
      show optK (resA _ _ _ [.tmp 4]) _
      simp only [SR, Option.map_some, Option.bind_some, ↓SP, SX, SW, TY, EN, sv_w, ↓reduceIte, reduceCtorEq, Nat.reduceEqDiff, Nat.reduceAdd, Nat.reduceLeDiff, Nat.reduceLT, hc9, hc11]
      refine Lend.eq ?_
      rw [hx]
    · skip
      have p11 := hc11
      try simp only [decide_eq_true_eq, decide_eq_false_iff_not, beq_iff_eq, bne_iff_ne, beq_eq_false_iff_ne, bne_eq_false_iff_eq, Bool.not_eq_true', Bool.not_eq_false'] at p11
      rw [if_neg (by rw [hc11]; simp)] at hx
      refine wpT_skip ?_
      refine wpT_seq ?_
      refine wpT_region (by kernel_rfl) (fun K hK => ?_)
      simp only [↓SP, SX, SW, TY, EN, sv_w, ↓reduceIte, reduceCtorEq, Nat.reduceEqDiff, Nat.reduceAdd, Nat.reduceLeDiff, Nat.reduceLT, hc9, hc11]
      refine hK _ _ ?_
      clear hK K
      refine wpT_ret ⟨.inr rfl, ?_⟩
      show optK (resA _ _ _ [.tmp 4]) _
      simp only [SR, Option.map_some, Option.bind_some, ↓SP, SX, SW, TY, EN, sv_w, ↓reduceIte, reduceCtorEq, Nat.reduceEqDiff, Nat.reduceAdd, Nat.reduceLeDiff, Nat.reduceLT, hc9, hc11]
      refine Lend.eq ?_
      rw [hx]
end Go.Proofs.YtlmjpgmaefokdaaGreat
end

section
set_option linter.unusedSimpArgs false
set_option linter.unusedVariables false
namespace Go.Proofs.YtlmjpgmaefokdaaGreat
open Go.Proofs
set_option maxRecDepth 10000
def imgAV (im : List (List Sec)) : AV := .lst (im.map fun l => .lst (l.map Sec.av))
theorem img_idf (im : List (List Sec)) : Idf (imgAV im) = True := eq_true (by simp only [imgAV, IDF, sec_idf', and_tt, implies_true])
def zeros (n : Int) : List Sec := List.replicate n.toNat sec0
theorem c131 (n : Int) (h0 : 0 ≤ n) (h1 : n ≤ 4096) : Pu Tryz.prog (.fn (.func 131) [] []) [I n] (.lst ((zeros n).map Sec.av)) := by
  refine pu_func Tryz.func131 rfl (by kernel_rfl) (by show _ ≤ 5; simp only [List.length_append, List.length_cons, List.length_nil]; decide) (by simp only [IDF, sec_idf', implies_true]) (by simp only [IDF, and_tt, implies_true]) (by simp only [IDF, and_tt, implies_true]) ?_
  rw [Tryz.ntmps131]
  refine wpT_seq ?_
  refine wpT_region (by kernel_rfl) (fun K hK => ?_)
  simp only [↓SP, SX, SW, TY, EN, sv_w, ↓reduceIte, reduceCtorEq, Nat.reduceEqDiff, Nat.reduceAdd, Nat.reduceLeDiff, Nat.reduceLT]
  refine hK _ _ ?_
  clear hK K
  refine wpT_seq ?_
  refine wpT_region (by kernel_rfl) (fun K hK => ?_)
  simp only [↓SP, SX, SW, TY, EN, sv_w, ↓reduceIte, reduceCtorEq, Nat.reduceEqDiff, Nat.reduceAdd, Nat.reduceLeDiff, Nat.reduceLT, msO_ok 8 n n h0 (Int.le_refl _) (by omega) (by omega)]
  refine hK _ _ ?_
  clear hK K
  refine wpT_ret ⟨.inr rfl, ?_⟩
  show optK (resA _ _ _ [.tmp 2]) _
  simp only [SR, Option.map_some, Option.bind_some, ↓SP, SX, SW, TY, EN, sv_w, ↓reduceIte, reduceCtorEq, Nat.reduceEqDiff, Nat.reduceAdd, Nat.reduceLeDiff, Nat.reduceLT]
  have he : (zeros n).map Sec.av = List.replicate n.toNat (.agg [.int .u8 0, .int .u8 0, .int .u8 0, .int .u8 0, .int .u8 0, .int .u8 0, .int .u8 0, .int .u8 0]) := by simp [zeros, Sec.av, sec0]
  rw [he]
  exact Lend.sl0 (id := 0) (E := 137) (s := 8) (n := n.toNat) (by rfl) (by simp) (by simp [AV.okc])
theorem c130 (xs : List Int) (fv : AV) (g : Int → List AV) (hl : xs.length ≤ 4096) (hfv : Idf fv) (hp : ∀ x ∈ xs, Pu Tryz.prog fv [I x] (.lst (g x))) : Pu Tryz.prog (.fn (.func 130) [] []) [.lst (xs.map I), fv] (.lst (xs.map fun x => .lst (g x))) := by
  refine pu_func Tryz.func130 rfl (by kernel_rfl) (by show _ ≤ 25; simp only [List.length_append, List.length_cons, List.length_nil]; decide) (by simp only [IDF]; exact fun x hx => by simpa only [IDF] using (hp x hx).hr) (by simp only [IDF, and_tt, implies_true]) (by simp only [IDF, eq_true hfv, and_tt, implies_true]) ?_
  rw [Tryz.ntmps130]
  refine wpT_seq ?_
  refine wpT_region (by kernel_rfl) (fun K hK => ?_)
  simp only [↓SP, SX, SW, TY, EN, sv_w, ↓reduceIte, reduceCtorEq, Nat.reduceEqDiff, Nat.reduceAdd, Nat.reduceLeDiff, Nat.reduceLT]
  refine hK _ _ ?_
  clear hK K
  refine wpT_seq ?_
  refine wpT_region (by kernel_rfl) (fun K hK => ?_)
  simp only [↓SP, SX, SW, TY, EN, sv_w, ↓reduceIte, reduceCtorEq, Nat.reduceEqDiff, Nat.reduceAdd, Nat.reduceLeDiff, Nat.reduceLT, msO_ok 24 0 (xs.length : Int) (by omega) (by omega) (by omega) (by omega), Int.toNat_zero, List.replicate_zero]
  refine hK _ _ ?_
  clear hK K
  refine wpT_seq ?_
  refine wpT_seq ?_
  refine wpT_region (by kernel_rfl) (fun K hK => ?_)
  simp only [↓SP, SX, SW, TY, EN, sv_w, ↓reduceIte, reduceCtorEq, Nat.reduceEqDiff, Nat.reduceAdd, Nat.reduceLeDiff, Nat.reduceLT]
  refine hK _ _ ?_
  clear hK K
  refine wpT_block ?_
  refine wpT_loop ?_
  refine wpT_keep1 (i := 0) (o := .arr 138 1 []) (by simp only [↓SP, SX, SW, TY, EN, sv_w, ↓reduceIte, reduceCtorEq, Nat.reduceEqDiff, Nat.reduceAdd, Nat.reduceLeDiff, Nat.reduceLT]) ?_
  refine wpT_ind (fun (i : Nat) tm' h' => (∃ m, h' = Hp.of [(0, .arr 138 1 ((xs.take i).map fun x => .lst (g x)))] (m + 1)) ∧ tm' 1 = fv ∧ tm' 5 = .sl 0 i 0 i ∧ tm' 11 = .lst (xs.map I) ∧ tm' 12 = I xs.length ∧ tm' 13 = I i ∧ i ≤ xs.length) (fun i => xs.length - i) ?_ 0 ⟨⟨0, rfl⟩, rfl, rfl, rfl, rfl, rfl, by omega⟩
  rintro i tm' _ ⟨⟨m, rfl⟩, e1, e5, e11, e12, e13, hi⟩ IH
  refine wpT_inLoop ?_
  refine wpT_seq ?_
  refine wpT_region (by kernel_rfl) (fun K hK => ?_)
  simp only [↓SP, SX, SW, TY, EN, sv_w, ↓reduceIte, reduceCtorEq, Nat.reduceEqDiff, Nat.reduceAdd, Nat.reduceLeDiff, Nat.reduceLT, e12, e13]
  refine hK _ _ ?_
  clear hK K
  refine wpT_seq ?_
  refine wpT_if (by rfl) (fun hc14 => ?_) (fun hc14 => ?_)
  · skip
    have p14 := hc14
    try simp only [decide_eq_true_eq, decide_eq_false_iff_not, beq_iff_eq, bne_iff_ne, beq_eq_false_iff_ne, bne_eq_false_iff_eq, Bool.not_eq_true', Bool.not_eq_false'] at p14
    have hlt : i < xs.length := by omega
    have hg := at_map (f := I) hlt
    have q1 : i + 1 ≤ maxLen := by simp only [maxLen]; omega
    have q2 : (i + 1) * 24 ≤ 140737488355328 := by omega
    have q3 : (List.map (fun x => AV.lst (g x)) (xs.take i)).length = i := by simp; omega
    have q4 : (xs.take (i + 1)).map (fun x => AV.lst (g x)) = (xs.take i).map (fun x => AV.lst (g x)) ++ [.lst (g xs[i])] := by rw [List.take_add_one, List.getElem?_eq_getElem hlt, List.map_append]; rfl
    refine wpT_skip ?_
    refine wpT_seq ?_
    refine wpT_block ?_
    refine wpT_seq ?_
    refine wpT_region (by kernel_rfl) (fun K hK => ?_)
    simp only [↓SP, SX, SW, TY, EN, sv_w, ↓reduceIte, reduceCtorEq, Nat.reduceEqDiff, Nat.reduceAdd, Nat.reduceLeDiff, Nat.reduceLT, e11, e13, hg, hc14]
    refine hK _ _ ?_
    clear hK K
    refine wpT_region (by kernel_rfl) (fun K hK => ?_)
    simp only [↓SP, SX, SW, TY, EN, sv_w, ↓reduceIte, reduceCtorEq, Nat.reduceEqDiff, Nat.reduceAdd, Nat.reduceLeDiff, Nat.reduceLT, e1, e5, q1, q2, List.length_take, Nat.min_eq_left hi, hc14]
    refine Pu.call (hp _ (List.getElem_mem hlt)) ?_
    simp only [↓SP, SX, SW, TY, EN, sv_w, ↓reduceIte, reduceCtorEq, Nat.reduceEqDiff, Nat.reduceAdd, Nat.reduceLeDiff, Nat.reduceLT, e1, e5, q1, q2, List.length_take, Nat.min_eq_left hi, hc14]
    refine hK _ _ ?_
    clear hK K
    refine wpT_inBlock ?_
    refine wpT_region (by kernel_rfl) (fun K hK => ?_)
    simp only [↓SP, SX, SW, TY, EN, sv_w, ↓reduceIte, reduceCtorEq, Nat.reduceEqDiff, Nat.reduceAdd, Nat.reduceLeDiff, Nat.reduceLT, e13, wrap64 (x := (i : Int) + 1) (by omega) (by omega), hc14]
    refine hK _ _ ?_
    clear hK K
    refine wpT_keep1 (i := 0) (o := .arr 138 1 ((xs.take (i + 1)).map fun x => .lst (g x))) (by simp only [↓SP, SX, SW, TY, EN, sv_w, ↓reduceIte, reduceCtorEq, Nat.reduceEqDiff, Nat.reduceAdd, Nat.reduceLeDiff, Nat.reduceLT, q4]) ?_
    refine IH (i + 1) _ _ (by omega) ⟨⟨_, rfl⟩, by simp only [↓SP, SX, SW, TY, EN, sv_w, ↓reduceIte, reduceCtorEq, Nat.reduceEqDiff, Nat.reduceAdd, Nat.reduceLeDiff, Nat.reduceLT, e1], by simp only [↓SP, SX, SW, TY, EN, sv_w, ↓reduceIte, reduceCtorEq, Nat.reduceEqDiff, Nat.reduceAdd, Nat.reduceLeDiff, Nat.reduceLT], by simp only [↓SP, SX, SW, TY, EN, sv_w, ↓reduceIte, reduceCtorEq, Nat.reduceEqDiff, Nat.reduceAdd, Nat.reduceLeDiff, Nat.reduceLT, e11], by simp only [↓SP, SX, SW, TY, EN, sv_w, ↓reduceIte, reduceCtorEq, Nat.reduceEqDiff, Nat.reduceAdd, Nat.reduceLeDiff, Nat.reduceLT, e12], by simp only [↓SP, SX, SW, TY, EN, sv_w, ↓reduceIte, reduceCtorEq, Nat.reduceEqDiff, Nat.reduceAdd, Nat.reduceLeDiff, Nat.reduceLT, Int.natCast_add, Int.cast_ofNat_Int], by omega⟩
  · skip
    have p14 := hc14
    try simp only [decide_eq_true_eq, decide_eq_false_iff_not, beq_iff_eq, bne_iff_ne, beq_eq_false_iff_ne, bne_eq_false_iff_eq, Bool.not_eq_true', Bool.not_eq_false'] at p14
    have hi2 : i = xs.length := by omega
    subst hi2
    refine wpT_exit rfl ?_
    refine wpT_seq ?_
    refine wpT_region (by kernel_rfl) (fun K hK => ?_)
    simp only [↓SP, SX, SW, TY, EN, sv_w, ↓reduceIte, reduceCtorEq, Nat.reduceEqDiff, Nat.reduceAdd, Nat.reduceLeDiff, Nat.reduceLT, e5, List.take_length, hc14]
    refine hK _ _ ?_
    clear hK K
    refine wpT_ret ⟨.inr rfl, ?_⟩
    show optK (resA _ _ _ [.tmp 4]) _
    simp only [SR, Option.map_some, Option.bind_some, ↓SP, SX, SW, TY, EN, sv_w, ↓reduceIte, reduceCtorEq, Nat.reduceEqDiff, Nat.reduceAdd, Nat.reduceLeDiff, Nat.reduceLT, hc14]
    exact Lend.sl0 (id := 0) (E := 138) (s := 1) (n := xs.length) (by simp only [of_cons, if_true, List.take_length]) (by simp) (by simp [AV.okc])
def newImg (xs : List Int) : List (List Sec) := if sizesE xs ≠ 0 then [] else xs.map zeros
theorem c62 (xs : List Int) (hl : xs.length < 4611686018427387904) : Pu Tryz.prog (.fn (.func 62) [] []) [.lst (xs.map I)] (.tup [imgAV (newImg xs), I (sizesE xs)]) := by
  refine pu_func Tryz.func62 rfl (by kernel_rfl) (by show _ ≤ 12; simp only [List.length_append, List.length_cons, List.length_nil]; decide) (by simp only [IDF, img_idf, and_tt]) (by simp only [IDF, and_tt, implies_true]) (by simp only [IDF, and_tt, implies_true]) ?_
  rw [Tryz.ntmps62]
  refine wpT_seq ?_
  refine wpT_region (by kernel_rfl) (fun K hK => ?_)
  simp only [↓SP, SX, SW, TY, EN, sv_w, ↓reduceIte, reduceCtorEq, Nat.reduceEqDiff, Nat.reduceAdd, Nat.reduceLeDiff, Nat.reduceLT]
  refine hK _ _ ?_
  clear hK K
  refine wpT_seq ?_
  refine wpT_seq ?_
  refine wpT_region (by kernel_rfl) (fun K hK => ?_)
  simp only [↓SP, SX, SW, TY, EN, sv_w, ↓reduceIte, reduceCtorEq, Nat.reduceEqDiff, Nat.reduceAdd, Nat.reduceLeDiff, Nat.reduceLT]
  refine Pu.call (c129 xs hl) ?_
  simp only [↓SP, SX, SW, TY, EN, sv_w, ↓reduceIte, reduceCtorEq, Nat.reduceEqDiff, Nat.reduceAdd, Nat.reduceLeDiff, Nat.reduceLT]
  refine hK _ _ ?_
  clear hK K
  refine wpT_seq ?_
  refine wpT_region (by kernel_rfl) (fun K hK => ?_)
  simp only [↓SP, SX, SW, TY, EN, sv_w, ↓reduceIte, reduceCtorEq, Nat.reduceEqDiff, Nat.reduceAdd, Nat.reduceLeDiff, Nat.reduceLT]
  refine hK _ _ ?_
  clear hK K
  refine wpT_if (by rfl) (fun hc8 => ?_) (fun hc8 => ?_)
  · skip
    have p8 := hc8
    try simp only [decide_eq_true_eq, decide_eq_false_iff_not, beq_iff_eq, bne_iff_ne, beq_eq_false_iff_ne, bne_eq_false_iff_eq, Bool.not_eq_true', Bool.not_eq_false'] at p8
    have hx : newImg xs = [] := if_pos p8
    refine wpT_seq ?_
    refine wpT_region (by kernel_rfl) (fun K hK => ?_)
    simp only [↓SP, SX, SW, TY, EN, sv_w, ↓reduceIte, reduceCtorEq, Nat.reduceEqDiff, Nat.reduceAdd, Nat.reduceLeDiff, Nat.reduceLT, hc8]
    refine hK _ _ ?_
    clear hK K
    refine wpT_ret ⟨.inr rfl, ?_⟩
    show optK (resA _ _ _ [.tmp 2, .tmp 3]) _
    simp only [SR, Option.map_some, Option.bind_some, ↓SP, SX, SW, TY, EN, sv_w, ↓reduceIte, reduceCtorEq, Nat.reduceEqDiff, Nat.reduceAdd, Nat.reduceLeDiff, Nat.reduceLT, hc8]
    rw [hx]
    refine Lend.tupL (LendL.cons ?_ (LendL.cons ?_ LendL.nil))
    · first
        | exact .nil0
        | exact Lend.eq (by simp [imgAV])
    · exact Lend.eq (by first | rfl | rw [p8])
  · skip
    have p8 := hc8
    try simp only [decide_eq_true_eq, decide_eq_false_iff_not, beq_iff_eq, bne_iff_ne, beq_eq_false_iff_ne, bne_eq_false_iff_eq, Bool.not_eq_true', Bool.not_eq_false'] at p8
    have hx : newImg xs = xs.map zeros := if_neg (by omega)
    have hz := sizesE_le p8
    have hl8 : xs.length ≤ 8 := by
      unfold sizesE at p8
      split at p8
      · simp at p8
      · omega
    refine wpT_skip ?_
    refine wpT_seq ?_
    refine wpT_region (by kernel_rfl) (fun K hK => ?_)
    simp only [↓SP, SX, SW, TY, EN, sv_w, ↓reduceIte, reduceCtorEq, Nat.reduceEqDiff, Nat.reduceAdd, Nat.reduceLeDiff, Nat.reduceLT, hc8]
    refine Pu.call (c130 xs _ (fun x => (zeros x).map Sec.av) (by omega) (by simp only [IDF, and_tt]) (fun x hx => c131 x (by have := hz x hx; omega) (hz x hx).2)) ?_
    simp only [↓SP, SX, SW, TY, EN, sv_w, ↓reduceIte, reduceCtorEq, Nat.reduceEqDiff, Nat.reduceAdd, Nat.reduceLeDiff, Nat.reduceLT, hc8]
    refine hK _ _ ?_
    clear hK K
    refine wpT_ret ⟨.inr rfl, ?_⟩
    show optK (resA _ _ _ [.tmp 2, .tmp 3]) _
    simp only [SR, Option.map_some, Option.bind_some, ↓SP, SX, SW, TY, EN, sv_w, ↓reduceIte, reduceCtorEq, Nat.reduceEqDiff, Nat.reduceAdd, Nat.reduceLeDiff, Nat.reduceLT, hc8]
    rw [hx]
    refine Lend.tupL (LendL.cons ?_ (LendL.cons ?_ LendL.nil))
    · first
        | exact .nil0
        | exact Lend.eq (by simp [imgAV])
    · exact Lend.eq (by first | rfl | rw [p8])
end Go.Proofs.YtlmjpgmaefokdaaGreat
end

section
set_option linter.unusedSimpArgs false
set_option linter.unusedVariables false
namespace Go.Proofs.YtlmjpgmaefokdaaGreat
open Go.Proofs
set_option maxRecDepth 10000
def sizesOf (im : List (List Sec)) : List Int := im.map fun l => (l.length : Int)
theorem img_cells (im : List (List Sec)) : (imgAV im).cells = [imgAV im] := rfl
theorem img_okc (im : List (List Sec)) : (imgAV im).okc = true := rfl
theorem img_isAgg (im : List (List Sec)) : (imgAV im).isAgg = false := rfl
theorem c202 (l : List Sec) : Pu Tryz.prog (.fn (.func 202) [] []) [.lst (l.map Sec.av)] (I l.length) := by
  refine pu_func Tryz.func202 rfl (by kernel_rfl) (by show _ ≤ 5; simp only [List.length_append, List.length_cons, List.length_nil]; decide) (by simp only [IDF]) (by simp only [IDF, and_tt, implies_true]) (by simp only [IDF, sec_idf', and_tt, implies_true]) ?_
  rw [Tryz.ntmps202]
  refine wpT_seq ?_
  refine wpT_region (by kernel_rfl) (fun K hK => ?_)
  simp only [↓SP, SX, SW, TY, EN, sv_w, ↓reduceIte, reduceCtorEq, Nat.reduceEqDiff, Nat.reduceAdd, Nat.reduceLeDiff, Nat.reduceLT]
  refine hK _ _ ?_
  clear hK K
  refine wpT_seq ?_
  refine wpT_region (by kernel_rfl) (fun K hK => ?_)
  simp only [↓SP, SX, SW, TY, EN, sv_w, ↓reduceIte, reduceCtorEq, Nat.reduceEqDiff, Nat.reduceAdd, Nat.reduceLeDiff, Nat.reduceLT]
  refine hK _ _ ?_
  clear hK K
  refine wpT_ret ⟨.inr rfl, ?_⟩
  show optK (resA _ _ _ [.tmp 2]) _
  simp only [SR, Option.map_some, Option.bind_some, ↓SP, SX, SW, TY, EN, sv_w, ↓reduceIte, reduceCtorEq, Nat.reduceEqDiff, Nat.reduceAdd, Nat.reduceLeDiff, Nat.reduceLT]
  exact .refl _
theorem c201 (xs : List (List Sec)) (fv : AV) (g : List Sec → Int) (hl : xs.length ≤ 4096000) (hfv : Idf fv) (hp : ∀ x ∈ xs, Pu Tryz.prog fv [.lst (x.map Sec.av)] (I (g x))) : Pu Tryz.prog (.fn (.func 201) [] []) [imgAV xs, fv] (.lst ((xs.map g).map I)) := by
  refine pu_func Tryz.func201 rfl (by kernel_rfl) (by show _ ≤ 25; simp only [List.length_append, List.length_cons, List.length_nil]; decide) (by simp only [IDF, implies_true]) (by simp only [IDF, and_tt, implies_true]) (by simp only [IDF, img_idf, eq_true hfv, and_tt, implies_true]) ?_
  rw [Tryz.ntmps201]
  refine wpT_seq ?_
  refine wpT_region (by kernel_rfl) (fun K hK => ?_)
  simp only [↓SP, SX, SW, TY, EN, sv_w, ↓reduceIte, reduceCtorEq, Nat.reduceEqDiff, Nat.reduceAdd, Nat.reduceLeDiff, Nat.reduceLT, imgAV]
  refine hK _ _ ?_
  clear hK K
  refine wpT_seq ?_
  refine wpT_region (by kernel_rfl) (fun K hK => ?_)
  simp only [↓SP, SX, SW, TY, EN, sv_w, ↓reduceIte, reduceCtorEq, Nat.reduceEqDiff, Nat.reduceAdd, Nat.reduceLeDiff, Nat.reduceLT, imgAV, msO_ok 8 0 (xs.length : Int) (by omega) (by omega) (by omega) (by omega), Int.toNat_zero, List.replicate_zero]
  refine hK _ _ ?_
  clear hK K
  refine wpT_seq ?_
  refine wpT_seq ?_
  refine wpT_region (by kernel_rfl) (fun K hK => ?_)
  simp only [↓SP, SX, SW, TY, EN, sv_w, ↓reduceIte, reduceCtorEq, Nat.reduceEqDiff, Nat.reduceAdd, Nat.reduceLeDiff, Nat.reduceLT, imgAV]
  refine hK _ _ ?_
  clear hK K
  refine wpT_block ?_
  refine wpT_loop ?_
  refine wpT_keep1 (i := 0) (o := .arr 3 1 []) (by simp only [↓SP, SX, SW, TY, EN, sv_w, ↓reduceIte, reduceCtorEq, Nat.reduceEqDiff, Nat.reduceAdd, Nat.reduceLeDiff, Nat.reduceLT]) ?_
  refine wpT_ind (fun (i : Nat) tm' h' => (∃ m, h' = Hp.of [(0, .arr 3 1 ((xs.take i).map fun x => I (g x)))] (m + 1)) ∧ tm' 1 = fv ∧ tm' 5 = .sl 0 i 0 i ∧ tm' 11 = imgAV xs ∧ tm' 12 = I xs.length ∧ tm' 13 = I i ∧ i ≤ xs.length) (fun i => xs.length - i) ?_ 0 ⟨⟨0, rfl⟩, rfl, rfl, rfl, rfl, rfl, by omega⟩
  rintro i tm' _ ⟨⟨m, rfl⟩, e1, e5, e11, e12, e13, hi⟩ IH
  refine wpT_inLoop ?_
  refine wpT_seq ?_
  refine wpT_region (by kernel_rfl) (fun K hK => ?_)
  simp only [↓SP, SX, SW, TY, EN, sv_w, ↓reduceIte, reduceCtorEq, Nat.reduceEqDiff, Nat.reduceAdd, Nat.reduceLeDiff, Nat.reduceLT, imgAV, e12, e13]
  refine hK _ _ ?_
  clear hK K
  refine wpT_seq ?_
  refine wpT_if (by rfl) (fun hc14 => ?_) (fun hc14 => ?_)
  · skip
    have p14 := hc14
    try simp only [decide_eq_true_eq, decide_eq_false_iff_not, beq_iff_eq, bne_iff_ne, beq_eq_false_iff_ne, bne_eq_false_iff_eq, Bool.not_eq_true', Bool.not_eq_false'] at p14
    have hlt : i < xs.length := by omega
    have hg := at_map (f := fun l : List Sec => AV.lst (l.map Sec.av)) hlt
    have q1 : i + 1 ≤ maxLen := by simp only [maxLen]; omega
    have q2 : (i + 1) * 8 ≤ 140737488355328 := by omega
    have q4 : (xs.take (i + 1)).map (fun x => I (g x)) = (xs.take i).map (fun x => I (g x)) ++ [I (g xs[i])] := by rw [List.take_add_one, List.getElem?_eq_getElem hlt, List.map_append]; rfl
    refine wpT_skip ?_
    refine wpT_seq ?_
    refine wpT_block ?_
    refine wpT_seq ?_
    refine wpT_region (by kernel_rfl) (fun K hK => ?_)
    simp only [↓SP, SX, SW, TY, EN, sv_w, ↓reduceIte, reduceCtorEq, Nat.reduceEqDiff, Nat.reduceAdd, Nat.reduceLeDiff, Nat.reduceLT, imgAV, e11, e13, hg, hc14]
    refine hK _ _ ?_
    clear hK K
    refine wpT_region (by kernel_rfl) (fun K hK => ?_)
    simp only [↓SP, SX, SW, TY, EN, sv_w, ↓reduceIte, reduceCtorEq, Nat.reduceEqDiff, Nat.reduceAdd, Nat.reduceLeDiff, Nat.reduceLT, imgAV, e1, e5, q1, q2, List.length_take, Nat.min_eq_left hi, hc14]
    refine Pu.call (hp _ (List.getElem_mem hlt)) ?_
    simp only [↓SP, SX, SW, TY, EN, sv_w, ↓reduceIte, reduceCtorEq, Nat.reduceEqDiff, Nat.reduceAdd, Nat.reduceLeDiff, Nat.reduceLT, imgAV, e1, e5, q1, q2, List.length_take, Nat.min_eq_left hi, hc14]
    refine hK _ _ ?_
    clear hK K
    refine wpT_inBlock ?_
    refine wpT_region (by kernel_rfl) (fun K hK => ?_)
    simp only [↓SP, SX, SW, TY, EN, sv_w, ↓reduceIte, reduceCtorEq, Nat.reduceEqDiff, Nat.reduceAdd, Nat.reduceLeDiff, Nat.reduceLT, imgAV, e13, wrap64 (x := (i : Int) + 1) (by omega) (by omega), hc14]
    refine hK _ _ ?_
    clear hK K
    refine wpT_keep1 (i := 0) (o := .arr 3 1 ((xs.take (i + 1)).map fun x => I (g x))) (by simp only [↓SP, SX, SW, TY, EN, sv_w, ↓reduceIte, reduceCtorEq, Nat.reduceEqDiff, Nat.reduceAdd, Nat.reduceLeDiff, Nat.reduceLT, q4]) ?_
    refine IH (i + 1) _ _ (by omega) ⟨⟨_, rfl⟩, by simp only [↓SP, SX, SW, TY, EN, sv_w, ↓reduceIte, reduceCtorEq, Nat.reduceEqDiff, Nat.reduceAdd, Nat.reduceLeDiff, Nat.reduceLT, e1], by simp only [↓SP, SX, SW, TY, EN, sv_w, ↓reduceIte, reduceCtorEq, Nat.reduceEqDiff, Nat.reduceAdd, Nat.reduceLeDiff, Nat.reduceLT], by simp only [↓SP, SX, SW, TY, EN, sv_w, ↓reduceIte, reduceCtorEq, Nat.reduceEqDiff, Nat.reduceAdd, Nat.reduceLeDiff, Nat.reduceLT, e11], by simp only [↓SP, SX, SW, TY, EN, sv_w, ↓reduceIte, reduceCtorEq, Nat.reduceEqDiff, Nat.reduceAdd, Nat.reduceLeDiff, Nat.reduceLT, e12], by simp only [↓SP, SX, SW, TY, EN, sv_w, ↓reduceIte, reduceCtorEq, Nat.reduceEqDiff, Nat.reduceAdd, Nat.reduceLeDiff, Nat.reduceLT, Int.natCast_add, Int.cast_ofNat_Int], by omega⟩
  · skip
    have p14 := hc14
    try simp only [decide_eq_true_eq, decide_eq_false_iff_not, beq_iff_eq, bne_iff_ne, beq_eq_false_iff_ne, bne_eq_false_iff_eq, Bool.not_eq_true', Bool.not_eq_false'] at p14
    have hi2 : i = xs.length := by omega
    subst hi2
    refine wpT_exit rfl ?_
    refine wpT_seq ?_
    refine wpT_region (by kernel_rfl) (fun K hK => ?_)
    simp only [↓SP, SX, SW, TY, EN, sv_w, ↓reduceIte, reduceCtorEq, Nat.reduceEqDiff, Nat.reduceAdd, Nat.reduceLeDiff, Nat.reduceLT, imgAV, e5, List.take_length, hc14]
    refine hK _ _ ?_
    clear hK K
    refine wpT_ret ⟨.inr rfl, ?_⟩
    show optK (resA _ _ _ [.tmp 4]) _
    simp only [SR, Option.map_some, Option.bind_some, ↓SP, SX, SW, TY, EN, sv_w, ↓reduceIte, reduceCtorEq, Nat.reduceEqDiff, Nat.reduceAdd, Nat.reduceLeDiff, Nat.reduceLT, imgAV, hc14]
    exact Lend.sl0 (id := 0) (E := 3) (s := 1) (n := xs.length) (by simp only [of_cons, if_true, List.take_length, List.map_map]; rfl) (by simp) (by simp [AV.okc])
theorem c155 (im : List (List Sec)) (hl : im.length ≤ 4096000) : Pu Tryz.prog (.fn (.func 155) [] []) [imgAV im] (.lst ((sizesOf im).map I)) := by
  refine pu_func Tryz.func155 rfl (by kernel_rfl) (by show _ ≤ 5; simp only [List.length_append, List.length_cons, List.length_nil]; decide) (by simp only [IDF, implies_true]) (by simp only [IDF, and_tt, implies_true]) (by simp only [IDF, img_idf, and_tt, implies_true]) ?_
  rw [Tryz.ntmps155]
  refine wpT_seq ?_
  refine wpT_region (by kernel_rfl) (fun K hK => ?_)
  simp only [↓SP, SX, SW, TY, EN, sv_w, ↓reduceIte, reduceCtorEq, Nat.reduceEqDiff, Nat.reduceAdd, Nat.reduceLeDiff, Nat.reduceLT]
  refine hK _ _ ?_
  clear hK K
  refine wpT_seq ?_
  refine wpT_region (by kernel_rfl) (fun K hK => ?_)
  simp only [↓SP, SX, SW, TY, EN, sv_w, ↓reduceIte, reduceCtorEq, Nat.reduceEqDiff, Nat.reduceAdd, Nat.reduceLeDiff, Nat.reduceLT]
  refine Pu.call (c201 im _ _ hl (by simp only [IDF, and_tt]) (fun x _ => c202 x)) ?_
  simp only [↓SP, SX, SW, TY, EN, sv_w, ↓reduceIte, reduceCtorEq, Nat.reduceEqDiff, Nat.reduceAdd, Nat.reduceLeDiff, Nat.reduceLT]
  refine hK _ _ ?_
  clear hK K
  refine wpT_ret ⟨.inr rfl, ?_⟩
  show optK (resA _ _ _ [.tmp 2]) _
  simp only [SR, Option.map_some, Option.bind_some, ↓SP, SX, SW, TY, EN, sv_w, ↓reduceIte, reduceCtorEq, Nat.reduceEqDiff, Nat.reduceAdd, Nat.reduceLeDiff, Nat.reduceLT]
  exact .refl _
theorem c93 (im : List (List Sec)) (hl : im.length ≤ 4096000) : Pu Tryz.prog (.fn (.func 93) [] []) [imgAV im] (I (sizesE (sizesOf im))) := by
  refine pu_func Tryz.func93 rfl (by kernel_rfl) (by show _ ≤ 6; simp only [List.length_append, List.length_cons, List.length_nil]; decide) (by simp only [IDF, implies_true]) (by simp only [IDF, and_tt, implies_true]) (by simp only [IDF, img_idf, and_tt, implies_true]) ?_
  rw [Tryz.ntmps93]
  refine wpT_seq ?_
  refine wpT_region (by kernel_rfl) (fun K hK => ?_)
  simp only [↓SP, SX, SW, TY, EN, sv_w, ↓reduceIte, reduceCtorEq, Nat.reduceEqDiff, Nat.reduceAdd, Nat.reduceLeDiff, Nat.reduceLT]
  refine hK _ _ ?_
  clear hK K
  refine wpT_seq ?_
  refine wpT_region (by kernel_rfl) (fun K hK => ?_)
  simp only [↓SP, SX, SW, TY, EN, sv_w, ↓reduceIte, reduceCtorEq, Nat.reduceEqDiff, Nat.reduceAdd, Nat.reduceLeDiff, Nat.reduceLT]
  refine Pu.call (c155 im hl) ?_
  simp only [↓SP, SX, SW, TY, EN, sv_w, ↓reduceIte, reduceCtorEq, Nat.reduceEqDiff, Nat.reduceAdd, Nat.reduceLeDiff, Nat.reduceLT]
  refine Pu.call (c129 (sizesOf im) (by simp [sizesOf]; omega)) ?_
  simp only [↓SP, SX, SW, TY, EN, sv_w, ↓reduceIte, reduceCtorEq, Nat.reduceEqDiff, Nat.reduceAdd, Nat.reduceLeDiff, Nat.reduceLT]
  refine hK _ _ ?_
  clear hK K
  refine wpT_ret ⟨.inr rfl, ?_⟩
  show optK (resA _ _ _ [.tmp 2]) _
  simp only [SR, Option.map_some, Option.bind_some, ↓SP, SX, SW, TY, EN, sv_w, ↓reduceIte, reduceCtorEq, Nat.reduceEqDiff, Nat.reduceAdd, Nat.reduceLeDiff, Nat.reduceLT]
  exact .refl _
theorem c95 (im : List (List Sec)) (w : Wr) (hl : im.length < 4611686018427387904) (hm : ∀ l ∈ im, l.length < 4611686018427387904) (hw : w.data.length < 4611686018427387904) : Pu Tryz.prog (.fn (.func 95) [] []) [imgAV im, w.av] (I (fitsE (sizesOf im) w)) := by
  refine pu_func Tryz.func95 rfl (by kernel_rfl) (by show _ ≤ 40; simp only [List.length_append, List.length_cons, List.length_nil]; decide) (by simp only [IDF, implies_true]) (by simp only [IDF, and_tt, implies_true]) (by simp only [IDF, img_idf, wr_idf, and_tt, implies_true]) ?_
  have hsl : (sizesOf im).length = im.length := by simp [sizesOf]
  rw [Tryz.ntmps95]
  refine wpT_seq ?_
  refine wpT_region (by kernel_rfl) (fun K hK => ?_)
  simp only [↓SP, SX, SW, TY, EN, sv_w, ↓reduceIte, reduceCtorEq, Nat.reduceEqDiff, Nat.reduceAdd, Nat.reduceLeDiff, Nat.reduceLT, imgAV, Wr.av]
  refine hK _ _ ?_
  clear hK K
  refine wpT_seq ?_
  refine wpT_block ?_
  refine wpT_seq ?_
  refine wpT_region (by kernel_rfl) (fun K hK => ?_)
  simp only [↓SP, SX, SW, TY, EN, sv_w, ↓reduceIte, reduceCtorEq, Nat.reduceEqDiff, Nat.reduceAdd, Nat.reduceLeDiff, Nat.reduceLT, imgAV, Wr.av]
  refine guardO_split (fun hg9 => ?_) (fun hg9 => ?_)
  · skip
    have p9 := hg9
    try simp only [decide_eq_true_eq, decide_eq_false_iff_not, beq_iff_eq, bne_iff_ne, beq_eq_false_iff_ne, bne_eq_false_iff_eq, Bool.not_eq_true', Bool.not_eq_false'] at p9
    simp only [↓SP, SX, SW, TY, EN, sv_w, ↓reduceIte, reduceCtorEq, Nat.reduceEqDiff, Nat.reduceAdd, Nat.reduceLeDiff, Nat.reduceLT, imgAV, Wr.av, hg9]
    refine hK _ _ ?_
    clear hK K
    refine wpT_if (by rfl) (fun hc5 => ?_) (fun hc5 => ?_)
    · skip
      have p5 := hc5
      try simp only [decide_eq_true_eq, decide_eq_false_iff_not, beq_iff_eq, bne_iff_ne, beq_eq_false_iff_ne, bne_eq_false_iff_eq, Bool.not_eq_true', Bool.not_eq_false'] at p5
      have hx : fitsE (sizesOf im) w = 7 := if_pos (by omega)
      refine wpT_seq ?_
      refine wpT_region (by kernel_rfl) (fun K hK => ?_)
      simp only [↓SP, SX, SW, TY, EN, sv_w, ↓reduceIte, reduceCtorEq, Nat.reduceEqDiff, Nat.reduceAdd, Nat.reduceLeDiff, Nat.reduceLT, imgAV, Wr.av, hg9, hc5]
      refine hK _ _ ?_
      clear hK K
      refine wpT_ret ⟨.inr rfl, ?_⟩
      show optK (resA _ _ _ [.tmp 4]) _
      simp only [SR, Option.map_some, Option.bind_some, ↓SP, SX, SW, TY, EN, sv_w, ↓reduceIte, reduceCtorEq, Nat.reduceEqDiff, Nat.reduceAdd, Nat.reduceLeDiff, Nat.reduceLT, imgAV, Wr.av, hg9, hc5]
      refine Lend.eq ?_
      first
        | rw [hx]
        | rw [hx0, if_pos (by omega)]
        | rw [hx0, if_neg (by omega), if_pos (by omega)]
        | rw [hx0, if_neg (by omega), if_neg (by omega)]
    · skip
      have p5 := hc5
      try simp only [decide_eq_true_eq, decide_eq_false_iff_not, beq_iff_eq, bne_iff_ne, beq_eq_false_iff_ne, bne_eq_false_iff_eq, Bool.not_eq_true', Bool.not_eq_false'] at p5
      obtain ⟨n, hv⟩ := Int.eq_ofNat_of_zero_le (a := w.vol) (by omega)
      have hlt : n < im.length := by omega
      have hg := at_map (f := fun l : List Sec => AV.lst (l.map Sec.av)) hlt
      have hmn := hm _ (List.getElem_mem hlt)
      have hd : (sizesOf im).getD w.vol.toNat 0 = im[n].length := by rw [hv]; simp [sizesOf, List.getD_eq_getElem?_getD, hlt]
      have hw1 : IntKind.i64.wrap ((im[n].length : Int) - w.data.length) = (im[n].length : Int) - w.data.length := wrap64 (by omega) (by omega)
      have hx0 : fitsE (sizesOf im) w = if w.data.length = 0 then 1 else if w.start < 0 ∨ w.start ≥ (im[n].length : Int) ∨ w.data.length > (im[n].length : Int) - w.start then 2 else 0 := by
        rw [fitsE, if_neg (by omega), hd]
      refine wpT_seq ?_
      refine wpT_region (by kernel_rfl) (fun K hK => ?_)
      simp only [↓SP, SX, SW, TY, EN, sv_w, ↓reduceIte, reduceCtorEq, Nat.reduceEqDiff, Nat.reduceAdd, Nat.reduceLeDiff, Nat.reduceLT, imgAV, Wr.av, hg9, hc5]
      refine hK _ _ ?_
      clear hK K
      refine wpT_if (by rfl) (fun hc16 => ?_) (fun hc16 => ?_)
      · skip
        have p16 := hc16
        try simp only [decide_eq_true_eq, decide_eq_false_iff_not, beq_iff_eq, bne_iff_ne, beq_eq_false_iff_ne, bne_eq_false_iff_eq, Bool.not_eq_true', Bool.not_eq_false'] at p16
        refine wpT_seq ?_
        refine wpT_region (by kernel_rfl) (fun K hK => ?_)
        simp only [↓SP, SX, SW, TY, EN, sv_w, ↓reduceIte, reduceCtorEq, Nat.reduceEqDiff, Nat.reduceAdd, Nat.reduceLeDiff, Nat.reduceLT, imgAV, Wr.av, hg9, hc5, hc16]
        refine hK _ _ ?_
        clear hK K
        refine wpT_ret ⟨.inr rfl, ?_⟩
        show optK (resA _ _ _ [.tmp 4]) _
        simp only [SR, Option.map_some, Option.bind_some, ↓SP, SX, SW, TY, EN, sv_w, ↓reduceIte, reduceCtorEq, Nat.reduceEqDiff, Nat.reduceAdd, Nat.reduceLeDiff, Nat.reduceLT, imgAV, Wr.av, hg9, hc5, hc16]
        refine Lend.eq ?_
        first
          | rw [hx]
          | rw [hx0, if_pos (by omega)]
          | rw [hx0, if_neg (by omega), if_pos (by omega)]
          | rw [hx0, if_neg (by omega), if_neg (by omega)]
      · skip
        have p16 := hc16
        try simp only [decide_eq_true_eq, decide_eq_false_iff_not, beq_iff_eq, bne_iff_ne, beq_eq_false_iff_ne, bne_eq_false_iff_eq, Bool.not_eq_true', Bool.not_eq_false'] at p16
        refine wpT_seq ?_
        refine wpT_drawn [] mixed (by kernel_rfl) (m := 19) rfl (fun K hK => ?_)
        simp only [↓SP, SX, SW, TY, EN, sv_w, ↓reduceIte, reduceCtorEq, Nat.reduceEqDiff, Nat.reduceAdd, Nat.reduceLeDiff, Nat.reduceLT, imgAV, Wr.av, hv, hg, hw1, hg9, hc5, hc16]
        refine guardD_split (fun hg25 => ?_) (fun hg25 => ?_)
        · skip
          have p25 := hg25
          try simp only [decide_eq_true_eq, decide_eq_false_iff_not, beq_iff_eq, bne_iff_ne, beq_eq_false_iff_ne, bne_eq_false_iff_eq, Bool.not_eq_true', Bool.not_eq_false'] at p25
          simp only [↓SP, SX, SW, TY, EN, sv_w, ↓reduceIte, reduceCtorEq, Nat.reduceEqDiff, Nat.reduceAdd, Nat.reduceLeDiff, Nat.reduceLT, imgAV, Wr.av, hv, hg, hw1, hg9, hc5, hc16, hg25]
          refine hK _ _ ?_
          clear hK K
          refine wpT_if (by rfl) (fun hc21 => ?_) (fun hc21 => ?_)
          · skip
            have p21 := hc21
            try simp only [decide_eq_true_eq, decide_eq_false_iff_not, beq_iff_eq, bne_iff_ne, beq_eq_false_iff_ne, bne_eq_false_iff_eq, Bool.not_eq_true', Bool.not_eq_false'] at p21
            refine wpT_seq ?_
            refine wpT_region (by kernel_rfl) (fun K hK => ?_)
            simp only [↓SP, SX, SW, TY, EN, sv_w, ↓reduceIte, reduceCtorEq, Nat.reduceEqDiff, Nat.reduceAdd, Nat.reduceLeDiff, Nat.reduceLT, imgAV, Wr.av, hg9, hc5, hc16, hg25, hc21]
            refine hK _ _ ?_
            clear hK K
            refine wpT_ret ⟨.inr rfl, ?_⟩
            show optK (resA _ _ _ [.tmp 4]) _
            simp only [SR, Option.map_some, Option.bind_some, ↓SP, SX, SW, TY, EN, sv_w, ↓reduceIte, reduceCtorEq, Nat.reduceEqDiff, Nat.reduceAdd, Nat.reduceLeDiff, Nat.reduceLT, imgAV, Wr.av, hg9, hc5, hc16, hg25, hc21]
            refine Lend.eq ?_
            first
              | rw [hx]
              | rw [hx0, if_pos (by omega)]
              | rw [hx0, if_neg (by omega), if_pos (by omega)]
              | rw [hx0, if_neg (by omega), if_neg (by omega)]
          · skip
            have p21 := hc21
            try simp only [decide_eq_true_eq, decide_eq_false_iff_not, beq_iff_eq, bne_iff_ne, beq_eq_false_iff_ne, bne_eq_false_iff_eq, Bool.not_eq_true', Bool.not_eq_false'] at p21
            refine wpT_skip ?_
            refine wpT_inBlock ?_
            refine wpT_seq ?_
            refine wpT_region (by kernel_rfl) (fun K hK => ?_)
            simp only [↓SP, SX, SW, TY, EN, sv_w, ↓reduceIte, reduceCtorEq, Nat.reduceEqDiff, Nat.reduceAdd, Nat.reduceLeDiff, Nat.reduceLT, imgAV, Wr.av, hg9, hc5, hc16, hg25, hc21]
            refine hK _ _ ?_
            clear hK K
            refine wpT_ret ⟨.inr rfl, ?_⟩
            show optK (resA _ _ _ [.tmp 4]) _
            simp only [SR, Option.map_some, Option.bind_some, ↓SP, SX, SW, TY, EN, sv_w, ↓reduceIte, reduceCtorEq, Nat.reduceEqDiff, Nat.reduceAdd, Nat.reduceLeDiff, Nat.reduceLT, imgAV, Wr.av, hg9, hc5, hc16, hg25, hc21]
            refine Lend.eq ?_
            first
              | rw [hx]
              | rw [hx0, if_pos (by omega)]
              | rw [hx0, if_neg (by omega), if_pos (by omega)]
              | rw [hx0, if_neg (by omega), if_neg (by omega)]
        · skip
          simp only [Bool.not_true, Bool.not_false] at hg25
          have p25 := hg25
          try simp only [decide_eq_true_eq, decide_eq_false_iff_not, beq_iff_eq, bne_iff_ne, beq_eq_false_iff_ne, bne_eq_false_iff_eq, Bool.not_eq_true', Bool.not_eq_false'] at p25
          simp only [↓SP, SX, SW, TY, EN, sv_w, ↓reduceIte, reduceCtorEq, Nat.reduceEqDiff, Nat.reduceAdd, Nat.reduceLeDiff, Nat.reduceLT, imgAV, Wr.av, hv, hg, hw1, hg9, hc5, hc16, hg25]
          refine hK _ _ ?_
          clear hK K
          refine wpT_ifT (by simp only [↓SP, SX, SW, TY, EN, sv_w, ↓reduceIte, reduceCtorEq, Nat.reduceEqDiff, Nat.reduceAdd, Nat.reduceLeDiff, Nat.reduceLT, imgAV, Wr.av, hg9, hc5, hc16, hg25]) ?_
          refine wpT_seq ?_
          refine wpT_region (by kernel_rfl) (fun K hK => ?_)
          simp only [↓SP, SX, SW, TY, EN, sv_w, ↓reduceIte, reduceCtorEq, Nat.reduceEqDiff, Nat.reduceAdd, Nat.reduceLeDiff, Nat.reduceLT, imgAV, Wr.av, hg9, hc5, hc16, hg25]
          refine hK _ _ ?_
          clear hK K
          refine wpT_ret ⟨.inr rfl, ?_⟩
          show optK (resA _ _ _ [.tmp 4]) _
          simp only [SR, Option.map_some, Option.bind_some, ↓SP, SX, SW, TY, EN, sv_w, ↓reduceIte, reduceCtorEq, Nat.reduceEqDiff, Nat.reduceAdd, Nat.reduceLeDiff, Nat.reduceLT, imgAV, Wr.av, hg9, hc5, hc16, hg25]
          refine Lend.eq ?_
          first
            | rw [hx]
            | rw [hx0, if_pos (by omega)]
            | rw [hx0, if_neg (by omega), if_pos (by omega)]
            | rw [hx0, if_neg (by omega), if_neg (by omega)]
  · skip
    simp only [Bool.not_true, Bool.not_false] at hg9
    have p9 := hg9
    try simp only [decide_eq_true_eq, decide_eq_false_iff_not, beq_iff_eq, bne_iff_ne, beq_eq_false_iff_ne, bne_eq_false_iff_eq, Bool.not_eq_true', Bool.not_eq_false'] at p9
    simp only [↓SP, SX, SW, TY, EN, sv_w, ↓reduceIte, reduceCtorEq, Nat.reduceEqDiff, Nat.reduceAdd, Nat.reduceLeDiff, Nat.reduceLT, imgAV, Wr.av, hg9]
    refine hK _ _ ?_
    clear hK K
    refine wpT_ifT (by simp only [↓SP, SX, SW, TY, EN, sv_w, ↓reduceIte, reduceCtorEq, Nat.reduceEqDiff, Nat.reduceAdd, Nat.reduceLeDiff, Nat.reduceLT, imgAV, Wr.av, hg9]) ?_
    have hx : fitsE (sizesOf im) w = 7 := if_pos (by omega)
    refine wpT_seq ?_
    refine wpT_region (by kernel_rfl) (fun K hK => ?_)
    simp only [↓SP, SX, SW, TY, EN, sv_w, ↓reduceIte, reduceCtorEq, Nat.reduceEqDiff, Nat.reduceAdd, Nat.reduceLeDiff, Nat.reduceLT, imgAV, Wr.av, hg9]
    refine hK _ _ ?_
    clear hK K
    refine wpT_ret ⟨.inr rfl, ?_⟩
    show optK (resA _ _ _ [.tmp 4]) _
    simp only [SR, Option.map_some, Option.bind_some, ↓SP, SX, SW, TY, EN, sv_w, ↓reduceIte, reduceCtorEq, Nat.reduceEqDiff, Nat.reduceAdd, Nat.reduceLeDiff, Nat.reduceLT, imgAV, Wr.av, hg9]
    refine Lend.eq ?_
    first
      | rw [hx]
      | rw [hx0, if_pos (by omega)]
      | rw [hx0, if_neg (by omega), if_pos (by omega)]
      | rw [hx0, if_neg (by omega), if_neg (by omega)]
def fitsI (im : List (List Sec)) (w : Wr) : Int := if sizesE (sizesOf im) ≠ 0 then sizesE (sizesOf im) else fitsE (sizesOf im) w
theorem c188 (im : List (List Sec)) (w : Wr) (hl : im.length ≤ 4096000) (hm : ∀ l ∈ im, l.length < 4611686018427387904) (hw : w.data.length < 4611686018427387904) : Pu Tryz.prog (.fn (.func 188) [] []) [imgAV im, w.av] (I (fitsI im w)) := by
  refine pu_func Tryz.func188 rfl (by kernel_rfl) (by show _ ≤ 14; simp only [List.length_append, List.length_cons, List.length_nil]; decide) (by simp only [IDF, implies_true]) (by simp only [IDF, and_tt, implies_true]) (by simp only [IDF, img_idf, wr_idf, and_tt, implies_true]) ?_
  rw [Tryz.ntmps188]
  refine wpT_seq ?_
  refine wpT_region (by kernel_rfl) (fun K hK => ?_)
  simp only [↓SP, SX, SW, TY, EN, sv_w, ↓reduceIte, reduceCtorEq, Nat.reduceEqDiff, Nat.reduceAdd, Nat.reduceLeDiff, Nat.reduceLT, wr_okc]
  refine hK _ _ ?_
  clear hK K
  refine wpT_seq ?_
  refine wpT_seq ?_
  refine wpT_region (by kernel_rfl) (fun K hK => ?_)
  simp only [↓SP, SX, SW, TY, EN, sv_w, ↓reduceIte, reduceCtorEq, Nat.reduceEqDiff, Nat.reduceAdd, Nat.reduceLeDiff, Nat.reduceLT]
  refine Pu.call (c93 im hl) ?_
  simp only [↓SP, SX, SW, TY, EN, sv_w, ↓reduceIte, reduceCtorEq, Nat.reduceEqDiff, Nat.reduceAdd, Nat.reduceLeDiff, Nat.reduceLT]
  refine hK _ _ ?_
  clear hK K
  refine wpT_seq ?_
  refine wpT_region (by kernel_rfl) (fun K hK => ?_)
  simp only [↓SP, SX, SW, TY, EN, sv_w, ↓reduceIte, reduceCtorEq, Nat.reduceEqDiff, Nat.reduceAdd, Nat.reduceLeDiff, Nat.reduceLT]
  refine hK _ _ ?_
  clear hK K
  refine wpT_if (by rfl) (fun hc9 => ?_) (fun hc9 => ?_)
  · skip
    have p9 := hc9
    try simp only [decide_eq_true_eq, decide_eq_false_iff_not, beq_iff_eq, bne_iff_ne, beq_eq_false_iff_ne, bne_eq_false_iff_eq, Bool.not_eq_true', Bool.not_eq_false'] at p9
    have hx : fitsI im w = sizesE (sizesOf im) := if_pos p9
    refine wpT_seq ?_
    refine wpT_region (by kernel_rfl) (fun K hK => ?_)
    simp only [↓SP, SX, SW, TY, EN, sv_w, ↓reduceIte, reduceCtorEq, Nat.reduceEqDiff, Nat.reduceAdd, Nat.reduceLeDiff, Nat.reduceLT, hc9]
    refine hK _ _ ?_
    clear hK K
    refine wpT_ret ⟨.inr rfl, ?_⟩
    show optK (resA _ _ _ [.tmp 4]) _
    simp only [SR, Option.map_some, Option.bind_some, ↓SP, SX, SW, TY, EN, sv_w, ↓reduceIte, reduceCtorEq, Nat.reduceEqDiff, Nat.reduceAdd, Nat.reduceLeDiff, Nat.reduceLT, hc9]
    refine Lend.eq ?_
    rw [hx]
  · skip
    have p9 := hc9
    try simp only [decide_eq_true_eq, decide_eq_false_iff_not, beq_iff_eq, bne_iff_ne, beq_eq_false_iff_ne, bne_eq_false_iff_eq, Bool.not_eq_true', Bool.not_eq_false'] at p9
    have hx : fitsI im w = fitsE (sizesOf im) w := if_neg (by omega)
    refine wpT_skip ?_
    refine wpT_seq ?_
    refine wpT_region (by kernel_rfl) (fun K hK => ?_)
    simp only [↓SP, SX, SW, TY, EN, sv_w, ↓reduceIte, reduceCtorEq, Nat.reduceEqDiff, Nat.reduceAdd, Nat.reduceLeDiff, Nat.reduceLT, wr_ld, hc9]
    refine Pu.call (c95 im w (by omega) hm hw) ?_
    simp only [↓SP, SX, SW, TY, EN, sv_w, ↓reduceIte, reduceCtorEq, Nat.reduceEqDiff, Nat.reduceAdd, Nat.reduceLeDiff, Nat.reduceLT, wr_ld, hc9]
    refine hK _ _ ?_
    clear hK K
    refine wpT_ret ⟨.inr rfl, ?_⟩
    show optK (resA _ _ _ [.tmp 4]) _
    simp only [SR, Option.map_some, Option.bind_some, ↓SP, SX, SW, TY, EN, sv_w, ↓reduceIte, reduceCtorEq, Nat.reduceEqDiff, Nat.reduceAdd, Nat.reduceLeDiff, Nat.reduceLT, hc9]
    refine Lend.eq ?_
    rw [hx]
theorem c187 (im : List (List Sec)) (w : Wr) (hl : im.length ≤ 4096000) (hm : ∀ l ∈ im, l.length < 4611686018427387904) (hw : w.data.length < 4611686018427387904) : Pu Tryz.prog (.fn (.func 187) [] [.cptr (imgAV im)]) [w.av] (I (fitsI im w)) := by
  refine pu_func Tryz.func187 rfl (by kernel_rfl) (by show _ ≤ 7; simp only [List.length_append, List.length_cons, List.length_nil]; decide) (by simp only [IDF, implies_true]) (by simp only [IDF, img_idf, and_tt, implies_true]) (by simp only [IDF, img_idf, wr_idf, and_tt, implies_true]) ?_
  rw [Tryz.ntmps187]
  refine wpT_seq ?_
  refine wpT_region (by kernel_rfl) (fun K hK => ?_)
  simp only [↓SP, SX, SW, TY, EN, sv_w, ↓reduceIte, reduceCtorEq, Nat.reduceEqDiff, Nat.reduceAdd, Nat.reduceLeDiff, Nat.reduceLT, wr_ld, wr_okc, img_cells, List.cons_append]
  refine hK _ _ ?_
  clear hK K
  refine wpT_seq ?_
  refine wpT_region (by kernel_rfl) (fun K hK => ?_)
  simp only [↓SP, SX, SW, TY, EN, sv_w, ↓reduceIte, reduceCtorEq, Nat.reduceEqDiff, Nat.reduceAdd, Nat.reduceLeDiff, Nat.reduceLT, wr_ld, wr_okc, img_cells, List.cons_append]
  refine Pu.call (c188 im w hl hm hw) ?_
  simp only [↓SP, SX, SW, TY, EN, sv_w, ↓reduceIte, reduceCtorEq, Nat.reduceEqDiff, Nat.reduceAdd, Nat.reduceLeDiff, Nat.reduceLT, wr_ld, wr_okc, img_cells, List.cons_append]
  refine hK _ _ ?_
  clear hK K
  refine wpT_ret ⟨.inr rfl, ?_⟩
  show optK (resA _ _ _ [.tmp 3]) _
  simp only [SR, Option.map_some, Option.bind_some, ↓SP, SX, SW, TY, EN, sv_w, ↓reduceIte, reduceCtorEq, Nat.reduceEqDiff, Nat.reduceAdd, Nat.reduceLeDiff, Nat.reduceLT, wr_ld, wr_okc, img_cells, List.cons_append]
  exact .refl _
end Go.Proofs.YtlmjpgmaefokdaaGreat
end

section
set_option linter.unusedSimpArgs false
set_option linter.unusedVariables false
namespace Go.Proofs.YtlmjpgmaefokdaaGreat
open Go.Proofs
set_option maxRecDepth 10000
def wsG (e : Wr → Int) : Option Wr → List Wr → Int
  | _, [] => 0
  | p, w :: ws => if e w ≠ 0 then e w else if badO p w = true then 3 else wsG e (some w) ws
theorem wsG_eq (sz : List Int) : ∀ (p : Option Wr) (ws : List Wr), wsG (fitsE sz) p ws = wsE sz p ws
  | _, [] => rfl
  | p, w :: ws => by rw [wsG, wsE, wsG_eq sz (some w) ws]
theorem c186 (xs : List Wr) (fv : AV) (e : Wr → Int) (hl : xs.length < 4611686018427387904) (hfv : Idf fv) (hp : ∀ w ∈ xs, Pu Tryz.prog fv [w.av] (I (e w))) (he : ∀ w ∈ xs, e w = 0 → 0 ≤ w.start ∧ w.start + w.data.length ≤ 4096) : Pu Tryz.prog (.fn (.func 186) [] []) [.lst (xs.map Wr.av), fv] (I (wsG e none xs)) := by
  refine pu_func Tryz.func186 rfl (by kernel_rfl) (by show _ ≤ 53; simp only [List.length_append, List.length_cons, List.length_nil]; decide) (by simp only [IDF, implies_true]) (by simp only [IDF, and_tt, implies_true]) (by simp only [IDF, wr_idf, eq_true hfv, and_tt, implies_true]) ?_
  rw [Tryz.ntmps186]
  refine wpT_seq ?_
  refine wpT_region (by kernel_rfl) (fun K hK => ?_)
  simp only [↓SP, SX, SW, TY, EN, sv_w, ↓reduceIte, reduceCtorEq, Nat.reduceEqDiff, Nat.reduceAdd, Nat.reduceLeDiff, Nat.reduceLT, wr_cs]
  refine hK _ _ ?_
  clear hK K
  refine wpT_seq ?_
  refine wpT_seq ?_
  refine wpT_region (by kernel_rfl) (fun K hK => ?_)
  simp only [↓SP, SX, SW, TY, EN, sv_w, ↓reduceIte, reduceCtorEq, Nat.reduceEqDiff, Nat.reduceAdd, Nat.reduceLeDiff, Nat.reduceLT, wr_cs]
  refine hK _ _ ?_
  clear hK K
  refine wpT_block ?_
  refine wpT_loop ?_
  refine wpT_keep0 ?_
  refine wpT_ind (fun (i : Nat) tm' h' => (∃ m, h' = Hp.of [] m) ∧ tm' 0 = .lst (xs.map Wr.av) ∧ tm' 1 = fv ∧ tm' 9 = .lst (xs.map Wr.av) ∧ tm' 10 = I xs.length ∧ tm' 11 = I i ∧ i ≤ xs.length ∧ wsG e (prevW xs i) (xs.drop i) = wsG e none xs ∧ ∀ w ∈ xs.take i, e w = 0) (fun i => xs.length - i) ?_ 0 ⟨⟨_, rfl⟩, rfl, rfl, rfl, rfl, rfl, Nat.zero_le _, rfl, by simp⟩
  rintro i tm' _ ⟨⟨m, rfl⟩, e0, e1, e9, e10, e11, hi, hx, hf⟩ IH
  refine wpT_inLoop ?_
  refine wpT_seq ?_
  refine wpT_region (by kernel_rfl) (fun K hK => ?_)
  simp only [↓SP, SX, SW, TY, EN, sv_w, ↓reduceIte, reduceCtorEq, Nat.reduceEqDiff, Nat.reduceAdd, Nat.reduceLeDiff, Nat.reduceLT, wr_cs, e10, e11]
  refine hK _ _ ?_
  clear hK K
  refine wpT_seq ?_
  refine wpT_if (by rfl) (fun hc12 => ?_) (fun hc12 => ?_)
  · skip
    have p12 := hc12
    try simp only [decide_eq_true_eq, decide_eq_false_iff_not, beq_iff_eq, bne_iff_ne, beq_eq_false_iff_ne, bne_eq_false_iff_eq, Bool.not_eq_true', Bool.not_eq_false'] at p12
    have hlt : i < xs.length := by omega
    have hg := at_map (f := Wr.av) hlt
    rw [List.drop_eq_getElem_cons hlt, wsG] at hx
    refine wpT_skip ?_
    refine wpT_seq ?_
    refine wpT_block ?_
    refine wpT_seq ?_
    refine wpT_region (by kernel_rfl) (fun K hK => ?_)
    simp only [↓SP, SX, SW, TY, EN, sv_w, ↓reduceIte, reduceCtorEq, Nat.reduceEqDiff, Nat.reduceAdd, Nat.reduceLeDiff, Nat.reduceLT, wr_cs, e9, e11, hg, hc12]
    refine hK _ _ ?_
    clear hK K
    refine wpT_seq ?_
    refine wpT_seq ?_
    refine wpT_region (by kernel_rfl) (fun K hK => ?_)
    simp only [↓SP, SX, SW, TY, EN, sv_w, ↓reduceIte, reduceCtorEq, Nat.reduceEqDiff, Nat.reduceAdd, Nat.reduceLeDiff, Nat.reduceLT, wr_cs, e1, hc12]
    refine Pu.call (hp _ (List.getElem_mem hlt)) ?_
    simp only [↓SP, SX, SW, TY, EN, sv_w, ↓reduceIte, reduceCtorEq, Nat.reduceEqDiff, Nat.reduceAdd, Nat.reduceLeDiff, Nat.reduceLT, wr_cs, e1, hc12]
    refine hK _ _ ?_
    clear hK K
    refine wpT_seq ?_
    refine wpT_region (by kernel_rfl) (fun K hK => ?_)
    simp only [↓SP, SX, SW, TY, EN, sv_w, ↓reduceIte, reduceCtorEq, Nat.reduceEqDiff, Nat.reduceAdd, Nat.reduceLeDiff, Nat.reduceLT, wr_cs, hc12]
    refine hK _ _ ?_
    clear hK K
    refine wpT_if (by rfl) (fun hc20 => ?_) (fun hc20 => ?_)
    · skip
      have p20 := hc20
      try simp only [decide_eq_true_eq, decide_eq_false_iff_not, beq_iff_eq, bne_iff_ne, beq_eq_false_iff_ne, bne_eq_false_iff_eq, Bool.not_eq_true', Bool.not_eq_false'] at p20
      rw [if_pos p20] at hx
      refine wpT_seq ?_
      refine wpT_region (by kernel_rfl) (fun K hK => ?_)
      simp only [↓SP, SX, SW, TY, EN, sv_w, ↓reduceIte, reduceCtorEq, Nat.reduceEqDiff, Nat.reduceAdd, Nat.reduceLeDiff, Nat.reduceLT, wr_cs, hc12, hc20]
      refine hK _ _ ?_
      clear hK K
      refine wpT_ret ⟨.inr rfl, ?_⟩
      show optK (resA _ _ _ [.tmp 4]) _
      simp only [SR, Option.map_some, Option.bind_some, ↓SP, SX, SW, TY, EN, sv_w, ↓reduceIte, reduceCtorEq, Nat.reduceEqDiff, Nat.reduceAdd, Nat.reduceLeDiff, Nat.reduceLT, wr_cs, hc12, hc20]
      refine Lend.eq ?_
      first
        | rw [hx]
        | rw [← hx, if_pos hb]
        | rw [← hx]
    · skip
      have p20 := hc20
      try simp only [decide_eq_true_eq, decide_eq_false_iff_not, beq_iff_eq, bne_iff_ne, beq_eq_false_iff_ne, bne_eq_false_iff_eq, Bool.not_eq_true', Bool.not_eq_false'] at p20
      rw [if_neg (by omega)] at hx
      have hf' : ∀ w ∈ xs.take (i + 1), e w = 0 := by
        intro w hw
        rw [List.take_add_one, List.getElem?_eq_getElem hlt] at hw
        rcases List.mem_append.1 hw with h | h
        · exact hf w h
        · simp at h; subst h; exact p20
      refine wpT_skip ?_
      refine wpT_seq ?_
      refine wpT_seq ?_
      refine wpT_region (by kernel_rfl) (fun K hK => ?_)
      simp only [↓SP, SX, SW, TY, EN, sv_w, ↓reduceIte, reduceCtorEq, Nat.reduceEqDiff, Nat.reduceAdd, Nat.reduceLeDiff, Nat.reduceLT, wr_cs, hc12, hc20]
      refine hK _ _ ?_
      clear hK K
      refine wpT_if (by rfl) (fun hc23 => ?_) (fun hc23 => ?_)
      · skip
        have p23 := hc23
        try simp only [decide_eq_true_eq, decide_eq_false_iff_not, beq_iff_eq, bne_iff_ne, beq_eq_false_iff_ne, bne_eq_false_iff_eq, Bool.not_eq_true', Bool.not_eq_false'] at p23
        have hi0 : i = 0 := by omega
        have hx' : wsG e (prevW xs (i + 1)) (xs.drop (i + 1)) = wsG e none xs := by
          have hp : prevW xs i = none := if_pos hi0
          rw [hp] at hx
          rw [prevW_succ hlt]
          simpa [badO] using hx
        refine wpT_exit rfl ?_
        refine wpT_region (by kernel_rfl) (fun K hK => ?_)
        simp only [↓SP, SX, SW, TY, EN, sv_w, ↓reduceIte, reduceCtorEq, Nat.reduceEqDiff, Nat.reduceAdd, Nat.reduceLeDiff, Nat.reduceLT, wr_cs, e11, wrap64 (x := (i : Int) + 1) (by omega) (by omega), hc12, hc20, hc23]
        refine hK _ _ ?_
        clear hK K
        refine wpT_keep0 ?_
        refine IH (i + 1) _ _ (by omega) ⟨⟨_, rfl⟩, by simp only [↓SP, SX, SW, TY, EN, sv_w, ↓reduceIte, reduceCtorEq, Nat.reduceEqDiff, Nat.reduceAdd, Nat.reduceLeDiff, Nat.reduceLT, wr_cs, e0], by simp only [↓SP, SX, SW, TY, EN, sv_w, ↓reduceIte, reduceCtorEq, Nat.reduceEqDiff, Nat.reduceAdd, Nat.reduceLeDiff, Nat.reduceLT, wr_cs, e1], by simp only [↓SP, SX, SW, TY, EN, sv_w, ↓reduceIte, reduceCtorEq, Nat.reduceEqDiff, Nat.reduceAdd, Nat.reduceLeDiff, Nat.reduceLT, wr_cs, e9], by simp only [↓SP, SX, SW, TY, EN, sv_w, ↓reduceIte, reduceCtorEq, Nat.reduceEqDiff, Nat.reduceAdd, Nat.reduceLeDiff, Nat.reduceLT, wr_cs, e10], by simp only [↓SP, SX, SW, TY, EN, sv_w, ↓reduceIte, reduceCtorEq, Nat.reduceEqDiff, Nat.reduceAdd, Nat.reduceLeDiff, Nat.reduceLT, wr_cs, Int.natCast_add, Int.cast_ofNat_Int], by omega, hx', hf'⟩
      · skip
        have p23 := hc23
        try simp only [decide_eq_true_eq, decide_eq_false_iff_not, beq_iff_eq, bne_iff_ne, beq_eq_false_iff_ne, bne_eq_false_iff_eq, Bool.not_eq_true', Bool.not_eq_false'] at p23
        have hi1 : IntKind.i64.wrap ((i : Int) - 1) = ((i - 1 : Nat) : Int) := by rw [wrap64 (by omega) (by omega)]; omega
        have hlt1 : i - 1 < xs.length := by omega
        have hg1 := at_map (f := Wr.av) hlt1
        have hwp := he _ (List.getElem_mem hlt1) (hf xs[i - 1] (List.mem_take_iff_getElem.2 ⟨i - 1, by omega, rfl⟩))
        have hpr : prevW xs i = some xs[i - 1] := by rw [prevW, if_neg (by omega)]; simp [hlt1]
        rw [hpr] at hx
        refine wpT_skip ?_
        refine wpT_seq ?_
        refine wpT_region (by kernel_rfl) (fun K hK => ?_)
        simp only [↓SP, SX, SW, TY, EN, sv_w, ↓reduceIte, reduceCtorEq, Nat.reduceEqDiff, Nat.reduceAdd, Nat.reduceLeDiff, Nat.reduceLT, wr_cs, e0, hi1, hg1, hc12, hc20, hc23]
        refine hK _ _ ?_
        clear hK K
        refine wpT_seq ?_
        refine wpT_region (by kernel_rfl) (fun K hK => ?_)
        simp only [↓SP, SX, SW, TY, EN, sv_w, ↓reduceIte, reduceCtorEq, Nat.reduceEqDiff, Nat.reduceAdd, Nat.reduceLeDiff, Nat.reduceLT, wr_cs, Wr.av, wrap64 (x := xs[i - 1].start + (xs[i - 1].data.length : Int)) (by omega) (by omega), hc12, hc20, hc23]
        refine guardO_split (fun hg34 => ?_) (fun hg34 => ?_)
        · skip
          have p34 := hg34
          try simp only [decide_eq_true_eq, decide_eq_false_iff_not, beq_iff_eq, bne_iff_ne, beq_eq_false_iff_ne, bne_eq_false_iff_eq, Bool.not_eq_true', Bool.not_eq_false'] at p34
          simp only [↓SP, SX, SW, TY, EN, sv_w, ↓reduceIte, reduceCtorEq, Nat.reduceEqDiff, Nat.reduceAdd, Nat.reduceLeDiff, Nat.reduceLT, wr_cs, Wr.av, wrap64 (x := xs[i - 1].start + (xs[i - 1].data.length : Int)) (by omega) (by omega), hc12, hc20, hc23, hg34]
          refine guardO_split (fun hg40 => ?_) (fun hg40 => ?_)
          · skip
            have p40 := hg40
            try simp only [decide_eq_true_eq, decide_eq_false_iff_not, beq_iff_eq, bne_iff_ne, beq_eq_false_iff_ne, bne_eq_false_iff_eq, Bool.not_eq_true', Bool.not_eq_false'] at p40
            simp only [↓SP, SX, SW, TY, EN, sv_w, ↓reduceIte, reduceCtorEq, Nat.reduceEqDiff, Nat.reduceAdd, Nat.reduceLeDiff, Nat.reduceLT, wr_cs, Wr.av, wrap64 (x := xs[i - 1].start + (xs[i - 1].data.length : Int)) (by omega) (by omega), hc12, hc20, hc23, hg34, hg40]
            refine hK _ _ ?_
            clear hK K
            refine wpT_if (by rfl) (fun hc51 => ?_) (fun hc51 => ?_)
            · skip
              have p51 := hc51
              try simp only [decide_eq_true_eq, decide_eq_false_iff_not, beq_iff_eq, bne_iff_ne, beq_eq_false_iff_ne, bne_eq_false_iff_eq, Bool.not_eq_true', Bool.not_eq_false'] at p51
              have hb : badO (some xs[i - 1]) xs[i] = true := decide_eq_true (by omega)
              refine wpT_seq ?_
              refine wpT_region (by kernel_rfl) (fun K hK => ?_)
              simp only [↓SP, SX, SW, TY, EN, sv_w, ↓reduceIte, reduceCtorEq, Nat.reduceEqDiff, Nat.reduceAdd, Nat.reduceLeDiff, Nat.reduceLT, wr_cs, hc12, hc20, hc23, hg34, hg40, hc51]
              refine hK _ _ ?_
              clear hK K
              refine wpT_ret ⟨.inr rfl, ?_⟩
              show optK (resA _ _ _ [.tmp 4]) _
              simp only [SR, Option.map_some, Option.bind_some, ↓SP, SX, SW, TY, EN, sv_w, ↓reduceIte, reduceCtorEq, Nat.reduceEqDiff, Nat.reduceAdd, Nat.reduceLeDiff, Nat.reduceLT, wr_cs, hc12, hc20, hc23, hg34, hg40, hc51]
              refine Lend.eq ?_
              first
                | rw [hx]
                | rw [← hx, if_pos hb]
                | rw [← hx]
            · skip
              have p51 := hc51
              try simp only [decide_eq_true_eq, decide_eq_false_iff_not, beq_iff_eq, bne_iff_ne, beq_eq_false_iff_ne, bne_eq_false_iff_eq, Bool.not_eq_true', Bool.not_eq_false'] at p51
              have hb : ¬ badO (some xs[i - 1]) xs[i] = true := by
                intro h
                have h := of_decide_eq_true h
                omega
              have hx' : wsG e (prevW xs (i + 1)) (xs.drop (i + 1)) = wsG e none xs := by
                rw [prevW_succ hlt]
                rwa [if_neg hb] at hx
              refine wpT_skip ?_
              refine wpT_inBlock ?_
              refine wpT_region (by kernel_rfl) (fun K hK => ?_)
              simp only [↓SP, SX, SW, TY, EN, sv_w, ↓reduceIte, reduceCtorEq, Nat.reduceEqDiff, Nat.reduceAdd, Nat.reduceLeDiff, Nat.reduceLT, wr_cs, e11, wrap64 (x := (i : Int) + 1) (by omega) (by omega), hc12, hc20, hc23, hg34, hg40, hc51]
              refine hK _ _ ?_
              clear hK K
              refine wpT_keep0 ?_
              refine IH (i + 1) _ _ (by omega) ⟨⟨_, rfl⟩, by simp only [↓SP, SX, SW, TY, EN, sv_w, ↓reduceIte, reduceCtorEq, Nat.reduceEqDiff, Nat.reduceAdd, Nat.reduceLeDiff, Nat.reduceLT, wr_cs, e0], by simp only [↓SP, SX, SW, TY, EN, sv_w, ↓reduceIte, reduceCtorEq, Nat.reduceEqDiff, Nat.reduceAdd, Nat.reduceLeDiff, Nat.reduceLT, wr_cs, e1], by simp only [↓SP, SX, SW, TY, EN, sv_w, ↓reduceIte, reduceCtorEq, Nat.reduceEqDiff, Nat.reduceAdd, Nat.reduceLeDiff, Nat.reduceLT, wr_cs, e9], by simp only [↓SP, SX, SW, TY, EN, sv_w, ↓reduceIte, reduceCtorEq, Nat.reduceEqDiff, Nat.reduceAdd, Nat.reduceLeDiff, Nat.reduceLT, wr_cs, e10], by simp only [↓SP, SX, SW, TY, EN, sv_w, ↓reduceIte, reduceCtorEq, Nat.reduceEqDiff, Nat.reduceAdd, Nat.reduceLeDiff, Nat.reduceLT, wr_cs, Int.natCast_add, Int.cast_ofNat_Int], by omega, hx', hf'⟩
          · skip
            simp only [Bool.not_true, Bool.not_false] at hg40
            have p40 := hg40
            try simp only [decide_eq_true_eq, decide_eq_false_iff_not, beq_iff_eq, bne_iff_ne, beq_eq_false_iff_ne, bne_eq_false_iff_eq, Bool.not_eq_true', Bool.not_eq_false'] at p40
            simp only [↓SP, SX, SW, TY, EN, sv_w, ↓reduceIte, reduceCtorEq, Nat.reduceEqDiff, Nat.reduceAdd, Nat.reduceLeDiff, Nat.reduceLT, wr_cs, Wr.av, wrap64 (x := xs[i - 1].start + (xs[i - 1].data.length : Int)) (by omega) (by omega), hc12, hc20, hc23, hg34, hg40]
            refine hK _ _ ?_
            clear hK K
            refine wpT_ifF (by simp only [↓SP, SX, SW, TY, EN, sv_w, ↓reduceIte, reduceCtorEq, Nat.reduceEqDiff, Nat.reduceAdd, Nat.reduceLeDiff, Nat.reduceLT, wr_cs, hc12, hc20, hc23, hg34, hg40]) ?_
            have hb : ¬ badO (some xs[i - 1]) xs[i] = true := by
              intro h
              have h := of_decide_eq_true h
              omega
            have hx' : wsG e (prevW xs (i + 1)) (xs.drop (i + 1)) = wsG e none xs := by
              rw [prevW_succ hlt]
              rwa [if_neg hb] at hx
            refine wpT_skip ?_
            refine wpT_inBlock ?_
            refine wpT_region (by kernel_rfl) (fun K hK => ?_)
            simp only [↓SP, SX, SW, TY, EN, sv_w, ↓reduceIte, reduceCtorEq, Nat.reduceEqDiff, Nat.reduceAdd, Nat.reduceLeDiff, Nat.reduceLT, wr_cs, e11, wrap64 (x := (i : Int) + 1) (by omega) (by omega), hc12, hc20, hc23, hg34, hg40]
            refine hK _ _ ?_
            clear hK K
            refine wpT_keep0 ?_
            refine IH (i + 1) _ _ (by omega) ⟨⟨_, rfl⟩, by simp only [↓SP, SX, SW, TY, EN, sv_w, ↓reduceIte, reduceCtorEq, Nat.reduceEqDiff, Nat.reduceAdd, Nat.reduceLeDiff, Nat.reduceLT, wr_cs, e0], by simp only [↓SP, SX, SW, TY, EN, sv_w, ↓reduceIte, reduceCtorEq, Nat.reduceEqDiff, Nat.reduceAdd, Nat.reduceLeDiff, Nat.reduceLT, wr_cs, e1], by simp only [↓SP, SX, SW, TY, EN, sv_w, ↓reduceIte, reduceCtorEq, Nat.reduceEqDiff, Nat.reduceAdd, Nat.reduceLeDiff, Nat.reduceLT, wr_cs, e9], by simp only [↓SP, SX, SW, TY, EN, sv_w, ↓reduceIte, reduceCtorEq, Nat.reduceEqDiff, Nat.reduceAdd, Nat.reduceLeDiff, Nat.reduceLT, wr_cs, e10], by simp only [↓SP, SX, SW, TY, EN, sv_w, ↓reduceIte, reduceCtorEq, Nat.reduceEqDiff, Nat.reduceAdd, Nat.reduceLeDiff, Nat.reduceLT, wr_cs, Int.natCast_add, Int.cast_ofNat_Int], by omega, hx', hf'⟩
        · skip
          simp only [Bool.not_true, Bool.not_false] at hg34
          have p34 := hg34
          try simp only [decide_eq_true_eq, decide_eq_false_iff_not, beq_iff_eq, bne_iff_ne, beq_eq_false_iff_ne, bne_eq_false_iff_eq, Bool.not_eq_true', Bool.not_eq_false'] at p34
          simp only [↓SP, SX, SW, TY, EN, sv_w, ↓reduceIte, reduceCtorEq, Nat.reduceEqDiff, Nat.reduceAdd, Nat.reduceLeDiff, Nat.reduceLT, wr_cs, Wr.av, wrap64 (x := xs[i - 1].start + (xs[i - 1].data.length : Int)) (by omega) (by omega), hc12, hc20, hc23, hg34]
          refine hK _ _ ?_
          clear hK K
          refine wpT_ifT (by simp only [↓SP, SX, SW, TY, EN, sv_w, ↓reduceIte, reduceCtorEq, Nat.reduceEqDiff, Nat.reduceAdd, Nat.reduceLeDiff, Nat.reduceLT, wr_cs, hc12, hc20, hc23, hg34]) ?_
          have hb : badO (some xs[i - 1]) xs[i] = true := decide_eq_true (by omega)
          refine wpT_seq ?_
          refine wpT_region (by kernel_rfl) (fun K hK => ?_)
          simp only [↓SP, SX, SW, TY, EN, sv_w, ↓reduceIte, reduceCtorEq, Nat.reduceEqDiff, Nat.reduceAdd, Nat.reduceLeDiff, Nat.reduceLT, wr_cs, hc12, hc20, hc23, hg34]
          refine hK _ _ ?_
          clear hK K
          refine wpT_ret ⟨.inr rfl, ?_⟩
          show optK (resA _ _ _ [.tmp 4]) _
          simp only [SR, Option.map_some, Option.bind_some, ↓SP, SX, SW, TY, EN, sv_w, ↓reduceIte, reduceCtorEq, Nat.reduceEqDiff, Nat.reduceAdd, Nat.reduceLeDiff, Nat.reduceLT, wr_cs, hc12, hc20, hc23, hg34]
          refine Lend.eq ?_
          first
            | rw [hx]
            | rw [← hx, if_pos hb]
            | rw [← hx]
  · skip
    have p12 := hc12
    try simp only [decide_eq_true_eq, decide_eq_false_iff_not, beq_iff_eq, bne_iff_ne, beq_eq_false_iff_ne, bne_eq_false_iff_eq, Bool.not_eq_true', Bool.not_eq_false'] at p12
    rw [List.drop_eq_nil_of_le (by omega), wsG] at hx
    refine wpT_exit rfl ?_
    refine wpT_seq ?_
    refine wpT_region (by kernel_rfl) (fun K hK => ?_)
    simp only [↓SP, SX, SW, TY, EN, sv_w, ↓reduceIte, reduceCtorEq, Nat.reduceEqDiff, Nat.reduceAdd, Nat.reduceLeDiff, Nat.reduceLT, wr_cs, hc12]
    refine hK _ _ ?_
    clear hK K
    refine wpT_ret ⟨.inr rfl, ?_⟩
    show optK (resA _ _ _ [.tmp 4]) _
    simp only [SR, Option.map_some, Option.bind_some, ↓SP, SX, SW, TY, EN, sv_w, ↓reduceIte, reduceCtorEq, Nat.reduceEqDiff, Nat.reduceAdd, Nat.reduceLeDiff, Nat.reduceLT, wr_cs, hc12]
    refine Lend.eq ?_
    first
      | rw [hx]
      | rw [← hx, if_pos hb]
      | rw [← hx]
theorem sizes_new {sz : List Int} (h : sizesE sz = 0) : sizesOf (newImg sz) = sz := by
  have hz := sizesE_le h
  unfold newImg sizesOf
  rw [if_neg (by omega), List.map_map]
  conv => rhs; rw [← List.map_id sz]
  refine List.map_congr_left fun x hx => ?_
  have := hz x hx
  simp [zeros]
  omega
theorem new_lens {sz : List Int} (h : sizesE sz = 0) : (newImg sz).length ≤ 8 ∧ ∀ l ∈ newImg sz, l.length < 4611686018427387904 := by
  have hz := sizesE_le h
  have h8 : sz.length ≤ 8 := by
    unfold sizesE at h
    split at h
    · simp at h
    · omega
  unfold newImg
  rw [if_neg (by omega)]
  refine ⟨by simpa using h8, fun l hl => ?_⟩
  obtain ⟨x, hx, rfl⟩ := List.mem_map.1 hl
  have := hz x hx
  simp [zeros]
  omega
theorem c141 (xs : List Wr) (sz : List Int) (hl : xs.length < 4611686018427387904) (hs : sz.length < 4611686018427387904) (hw : ∀ w ∈ xs, w.data.length < 4611686018427387904) : Pu Tryz.prog (.fn (.func 141) [] []) [.lst (xs.map Wr.av), .lst (sz.map I)] (I (wrsE xs sz)) := by
  refine pu_func Tryz.func141 rfl (by kernel_rfl) (by show _ ≤ 18; simp only [List.length_append, List.length_cons, List.length_nil]; decide) (by simp only [IDF, implies_true]) (by simp only [IDF, and_tt, implies_true]) (by simp only [IDF, wr_idf, and_tt, implies_true]) ?_
  rw [Tryz.ntmps141]
  refine wpT_seq ?_
  refine wpT_region (by kernel_rfl) (fun K hK => ?_)
  simp only [↓SP, SX, SW, TY, EN, sv_w, ↓reduceIte, reduceCtorEq, Nat.reduceEqDiff, Nat.reduceAdd, Nat.reduceLeDiff, Nat.reduceLT, wr_cs, img_cells, img_okc, img_isAgg]
  refine hK _ _ ?_
  clear hK K
  refine wpT_seq ?_
  refine wpT_region (by kernel_rfl) (fun K hK => ?_)
  simp only [↓SP, SX, SW, TY, EN, sv_w, ↓reduceIte, reduceCtorEq, Nat.reduceEqDiff, Nat.reduceAdd, Nat.reduceLeDiff, Nat.reduceLT, wr_cs, img_cells, img_okc, img_isAgg]
  refine Pu.call (c62 sz hs) ?_
  simp only [↓SP, SX, SW, TY, EN, sv_w, ↓reduceIte, reduceCtorEq, Nat.reduceEqDiff, Nat.reduceAdd, Nat.reduceLeDiff, Nat.reduceLT, wr_cs, img_cells, img_okc, img_isAgg]
  refine hK _ _ ?_
  clear hK K
  refine wpT_seq ?_
  refine wpT_seq ?_
  refine wpT_region (by kernel_rfl) (fun K hK => ?_)
  simp only [↓SP, SX, SW, TY, EN, sv_w, ↓reduceIte, reduceCtorEq, Nat.reduceEqDiff, Nat.reduceAdd, Nat.reduceLeDiff, Nat.reduceLT, wr_cs, img_cells, img_okc, img_isAgg]
  refine hK _ _ ?_
  clear hK K
  refine wpT_if (by rfl) (fun hc13 => ?_) (fun hc13 => ?_)
  · skip
    have p13 := hc13
    try simp only [decide_eq_true_eq, decide_eq_false_iff_not, beq_iff_eq, bne_iff_ne, beq_eq_false_iff_ne, bne_eq_false_iff_eq, Bool.not_eq_true', Bool.not_eq_false'] at p13
    have hx : wrsE xs sz = sizesE sz := if_pos p13
    refine wpT_seq ?_
    refine wpT_region (by kernel_rfl) (fun K hK => ?_)
    simp only [↓SP, SX, SW, TY, EN, sv_w, ↓reduceIte, reduceCtorEq, Nat.reduceEqDiff, Nat.reduceAdd, Nat.reduceLeDiff, Nat.reduceLT, wr_cs, img_cells, img_okc, img_isAgg, hc13]
    refine hK _ _ ?_
    clear hK K
    refine wpT_ret ⟨.inr rfl, ?_⟩
    show optK (resA _ _ _ [.tmp 4]) _
    simp only [SR, Option.map_some, Option.bind_some, ↓SP, SX, SW, TY, EN, sv_w, ↓reduceIte, reduceCtorEq, Nat.reduceEqDiff, Nat.reduceAdd, Nat.reduceLeDiff, Nat.reduceLT, wr_cs, img_cells, img_okc, img_isAgg, hc13]
    refine Lend.eq ?_
    rw [hx]
    try rw [wsG_eq]
  · skip
    have p13 := hc13
    try simp only [decide_eq_true_eq, decide_eq_false_iff_not, beq_iff_eq, bne_iff_ne, beq_eq_false_iff_ne, bne_eq_false_iff_eq, Bool.not_eq_true', Bool.not_eq_false'] at p13
    have hx : wrsE xs sz = wsE sz none xs := if_neg (by omega)
    have hz := sizesE_le p13
    have hn := new_lens p13
    have hfi : ∀ w, fitsI (newImg sz) w = fitsE sz w := fun w => by
      unfold fitsI
      rw [sizes_new p13, if_neg (by omega)]
    refine wpT_skip ?_
    refine wpT_seq ?_
    refine wpT_region (by kernel_rfl) (fun K hK => ?_)
    simp only [↓SP, SX, SW, TY, EN, sv_w, ↓reduceIte, reduceCtorEq, Nat.reduceEqDiff, Nat.reduceAdd, Nat.reduceLeDiff, Nat.reduceLT, wr_cs, img_cells, img_okc, img_isAgg, hc13]
    refine Pu.lent (c186 xs (.fn (.func 187) [] [.cptr (imgAV (newImg sz))]) (fitsE sz) hl (by simp only [IDF, img_idf, and_tt]) (fun w hw' => hfi w ▸ c187 (newImg sz) w (by omega) hn.2 (hw w hw')) (fun w _ h0 => by have := fits_facts hz h0; omega)) (.int _ _) (.refl _) (LendL.cons (.refl _) (LendL.cons (Lend.fnL LendL.nil (LendL.cons (Lend.ptr1 (E := 70) (s := 1) (by simp only [↓SP, SX, SW, TY, EN, sv_w, ↓reduceIte, reduceCtorEq, Nat.reduceEqDiff, Nat.reduceAdd, Nat.reduceLeDiff, Nat.reduceLT, wr_cs, img_isAgg, img_cells, img_okc]) rfl) LendL.nil)) LendL.nil)) ?_
    simp only [↓SP, SX, SW, TY, EN, sv_w, ↓reduceIte, reduceCtorEq, Nat.reduceEqDiff, Nat.reduceAdd, Nat.reduceLeDiff, Nat.reduceLT, wr_cs, img_cells, img_okc, img_isAgg, hc13]
    refine hK _ _ ?_
    clear hK K
    refine wpT_ret ⟨.inr rfl, ?_⟩
    show optK (resA _ _ _ [.tmp 4]) _
    simp only [SR, Option.map_some, Option.bind_some, ↓SP, SX, SW, TY, EN, sv_w, ↓reduceIte, reduceCtorEq, Nat.reduceEqDiff, Nat.reduceAdd, Nat.reduceLeDiff, Nat.reduceLT, wr_cs, img_cells, img_okc, img_isAgg, hc13]
    refine Lend.eq ?_
    rw [hx]
    try rw [wsG_eq]
theorem c74 (x : Cyc) (sz : List Int) (hx : x.ok) (hs : sz.length < 4611686018427387904) : Pu Tryz.prog (.fn (.func 74) [] []) [x.av, .lst (sz.map I)] (I (cycE x sz)) := by
  refine pu_func Tryz.func74 rfl (by kernel_rfl) (by show _ ≤ 47; simp only [List.length_append, List.length_cons, List.length_nil]; decide) (by simp only [IDF]) (by simp only [IDF, and_tt, implies_true]) (by simp only [IDF, cyc_idf, and_tt, implies_true]) ?_
  rw [Tryz.ntmps74]
  refine wpT_seq ?_
  refine wpT_region (by kernel_rfl) (fun K hK => ?_)
  simp only [↓SP, SX, SW, TY, EN, sv_w, ↓reduceIte, reduceCtorEq, Nat.reduceEqDiff, Nat.reduceAdd, Nat.reduceLeDiff, Nat.reduceLT, Cyc.av]
  refine hK _ _ ?_
  clear hK K
  refine wpT_seq ?_
  refine wpT_seq ?_
  refine wpT_region (by kernel_rfl) (fun K hK => ?_)
  simp only [↓SP, SX, SW, TY, EN, sv_w, ↓reduceIte, reduceCtorEq, Nat.reduceEqDiff, Nat.reduceAdd, Nat.reduceLeDiff, Nat.reduceLT, Cyc.av]
  refine Pu.call (c62 _ hs) ?_
  simp only [↓SP, SX, SW, TY, EN, sv_w, ↓reduceIte, reduceCtorEq, Nat.reduceEqDiff, Nat.reduceAdd, Nat.reduceLeDiff, Nat.reduceLT, Cyc.av]
  refine hK _ _ ?_
  clear hK K
  refine wpT_seq ?_
  refine wpT_region (by kernel_rfl) (fun K hK => ?_)
  simp only [↓SP, SX, SW, TY, EN, sv_w, ↓reduceIte, reduceCtorEq, Nat.reduceEqDiff, Nat.reduceAdd, Nat.reduceLeDiff, Nat.reduceLT, Cyc.av]
  refine hK _ _ ?_
  clear hK K
  refine wpT_if (by rfl) (fun hc14 => ?_) (fun hc14 => ?_)
  · skip
    have p14 := hc14
    try simp only [decide_eq_true_eq, decide_eq_false_iff_not, beq_iff_eq, bne_iff_ne, beq_eq_false_iff_ne, bne_eq_false_iff_eq, Bool.not_eq_true', Bool.not_eq_false'] at p14
    refine wpT_seq ?_
    refine wpT_region (by kernel_rfl) (fun K hK => ?_)
    simp only [↓SP, SX, SW, TY, EN, sv_w, ↓reduceIte, reduceCtorEq, Nat.reduceEqDiff, Nat.reduceAdd, Nat.reduceLeDiff, Nat.reduceLT, Cyc.av, hc14]
    refine hK _ _ ?_
    clear hK K
    refine wpT_ret ⟨.inr rfl, ?_⟩
    show optK (resA _ _ _ [.tmp 4]) _
    simp only [SR, Option.map_some, Option.bind_some, ↓SP, SX, SW, TY, EN, sv_w, ↓reduceIte, reduceCtorEq, Nat.reduceEqDiff, Nat.reduceAdd, Nat.reduceLeDiff, Nat.reduceLT, Cyc.av, hc14]
    refine Lend.eq ?_
    congr 1
    unfold cycE
    first
      | rw [if_pos (by omega)]
      | rw [if_neg (by omega), if_pos (by omega)]
      | rw [if_neg (by omega), if_neg (by omega), if_pos (by omega)]
      | (rw [if_neg (by omega), if_neg (by omega), if_neg (by omega)]
         by_cases hq : x.pos.length > 8 <;> simp_all [posE]
         all_goals (intros; omega))
  · skip
    have p14 := hc14
    try simp only [decide_eq_true_eq, decide_eq_false_iff_not, beq_iff_eq, bne_iff_ne, beq_eq_false_iff_ne, bne_eq_false_iff_eq, Bool.not_eq_true', Bool.not_eq_false'] at p14
    refine wpT_skip ?_
    refine wpT_seq ?_
    refine wpT_block ?_
    refine wpT_seq ?_
    refine wpT_region (by kernel_rfl) (fun K hK => ?_)
    simp only [↓SP, SX, SW, TY, EN, sv_w, ↓reduceIte, reduceCtorEq, Nat.reduceEqDiff, Nat.reduceAdd, Nat.reduceLeDiff, Nat.reduceLT, Cyc.av, hc14]
    refine guardO_split (fun hg20 => ?_) (fun hg20 => ?_)
    · skip
      have p20 := hg20
      try simp only [decide_eq_true_eq, decide_eq_false_iff_not, beq_iff_eq, bne_iff_ne, beq_eq_false_iff_ne, bne_eq_false_iff_eq, Bool.not_eq_true', Bool.not_eq_false'] at p20
      simp only [↓SP, SX, SW, TY, EN, sv_w, ↓reduceIte, reduceCtorEq, Nat.reduceEqDiff, Nat.reduceAdd, Nat.reduceLeDiff, Nat.reduceLT, Cyc.av, hc14, hg20]
      refine guardO_split (fun hg27 => ?_) (fun hg27 => ?_)
      · skip
        have p27 := hg27
        try simp only [decide_eq_true_eq, decide_eq_false_iff_not, beq_iff_eq, bne_iff_ne, beq_eq_false_iff_ne, bne_eq_false_iff_eq, Bool.not_eq_true', Bool.not_eq_false'] at p27
        simp only [↓SP, SX, SW, TY, EN, sv_w, ↓reduceIte, reduceCtorEq, Nat.reduceEqDiff, Nat.reduceAdd, Nat.reduceLeDiff, Nat.reduceLT, Cyc.av, hc14, hg20, hg27]
        refine hK _ _ ?_
        clear hK K
        refine wpT_if (by rfl) (fun hc16 => ?_) (fun hc16 => ?_)
        · skip
          have p16 := hc16
          try simp only [decide_eq_true_eq, decide_eq_false_iff_not, beq_iff_eq, bne_iff_ne, beq_eq_false_iff_ne, bne_eq_false_iff_eq, Bool.not_eq_true', Bool.not_eq_false'] at p16
          refine wpT_seq ?_
          refine wpT_region (by kernel_rfl) (fun K hK => ?_)
          simp only [↓SP, SX, SW, TY, EN, sv_w, ↓reduceIte, reduceCtorEq, Nat.reduceEqDiff, Nat.reduceAdd, Nat.reduceLeDiff, Nat.reduceLT, Cyc.av, hc14, hg20, hg27, hc16]
          refine hK _ _ ?_
          clear hK K
          refine wpT_ret ⟨.inr rfl, ?_⟩
          show optK (resA _ _ _ [.tmp 4]) _
          simp only [SR, Option.map_some, Option.bind_some, ↓SP, SX, SW, TY, EN, sv_w, ↓reduceIte, reduceCtorEq, Nat.reduceEqDiff, Nat.reduceAdd, Nat.reduceLeDiff, Nat.reduceLT, Cyc.av, hc14, hg20, hg27, hc16]
          refine Lend.eq ?_
          congr 1
          unfold cycE
          first
            | rw [if_pos (by omega)]
            | rw [if_neg (by omega), if_pos (by omega)]
            | rw [if_neg (by omega), if_neg (by omega), if_pos (by omega)]
            | (rw [if_neg (by omega), if_neg (by omega), if_neg (by omega)]
               by_cases hq : x.pos.length > 8 <;> simp_all [posE]
               all_goals (intros; omega))
        · skip
          have p16 := hc16
          try simp only [decide_eq_true_eq, decide_eq_false_iff_not, beq_iff_eq, bne_iff_ne, beq_eq_false_iff_ne, bne_eq_false_iff_eq, Bool.not_eq_true', Bool.not_eq_false'] at p16
          refine wpT_seq ?_
          refine wpT_region (by kernel_rfl) (fun K hK => ?_)
          simp only [↓SP, SX, SW, TY, EN, sv_w, ↓reduceIte, reduceCtorEq, Nat.reduceEqDiff, Nat.reduceAdd, Nat.reduceLeDiff, Nat.reduceLT, Cyc.av, hc14, hg20, hg27, hc16]
          refine Pu.call (c132 ..) ?_
          simp only [↓SP, SX, SW, TY, EN, sv_w, ↓reduceIte, reduceCtorEq, Nat.reduceEqDiff, Nat.reduceAdd, Nat.reduceLeDiff, Nat.reduceLT, Cyc.av, hc14, hg20, hg27, hc16]
          refine hK _ _ ?_
          clear hK K
          refine wpT_if (by rfl) (fun hc32 => ?_) (fun hc32 => ?_)
          · skip
            have p32 := hc32
            try simp only [decide_eq_true_eq, decide_eq_false_iff_not, beq_iff_eq, bne_iff_ne, beq_eq_false_iff_ne, bne_eq_false_iff_eq, Bool.not_eq_true', Bool.not_eq_false'] at p32
            refine wpT_seq ?_
            refine wpT_region (by kernel_rfl) (fun K hK => ?_)
            simp only [↓SP, SX, SW, TY, EN, sv_w, ↓reduceIte, reduceCtorEq, Nat.reduceEqDiff, Nat.reduceAdd, Nat.reduceLeDiff, Nat.reduceLT, Cyc.av, hc14, hg20, hg27, hc16, hc32]
            refine hK _ _ ?_
            clear hK K
            refine wpT_ret ⟨.inr rfl, ?_⟩
            show optK (resA _ _ _ [.tmp 4]) _
            simp only [SR, Option.map_some, Option.bind_some, ↓SP, SX, SW, TY, EN, sv_w, ↓reduceIte, reduceCtorEq, Nat.reduceEqDiff, Nat.reduceAdd, Nat.reduceLeDiff, Nat.reduceLT, Cyc.av, hc14, hg20, hg27, hc16, hc32]
            refine Lend.eq ?_
            congr 1
            unfold cycE
            first
              | rw [if_pos (by omega)]
              | rw [if_neg (by omega), if_pos (by omega)]
              | rw [if_neg (by omega), if_neg (by omega), if_pos (by omega)]
              | (rw [if_neg (by omega), if_neg (by omega), if_neg (by omega)]
                 by_cases hq : x.pos.length > 8 <;> simp_all [posE]
                 all_goals (intros; omega))
          · skip
            have p32 := hc32
            try simp only [decide_eq_true_eq, decide_eq_false_iff_not, beq_iff_eq, bne_iff_ne, beq_eq_false_iff_ne, bne_eq_false_iff_eq, Bool.not_eq_true', Bool.not_eq_false'] at p32
            refine wpT_skip ?_
            refine wpT_inBlock ?_
            refine wpT_seq ?_
            refine wpT_seq ?_
            refine wpT_region (by kernel_rfl) (fun K hK => ?_)
            simp only [↓SP, SX, SW, TY, EN, sv_w, ↓reduceIte, reduceCtorEq, Nat.reduceEqDiff, Nat.reduceAdd, Nat.reduceLeDiff, Nat.reduceLT, Cyc.av, hc14, hg20, hg27, hc16, hc32]
            refine Pu.call (c140 _ hx.1) ?_
            simp only [↓SP, SX, SW, TY, EN, sv_w, ↓reduceIte, reduceCtorEq, Nat.reduceEqDiff, Nat.reduceAdd, Nat.reduceLeDiff, Nat.reduceLT, Cyc.av, hc14, hg20, hg27, hc16, hc32]
            refine hK _ _ ?_
            clear hK K
            refine wpT_seq ?_
            refine wpT_region (by kernel_rfl) (fun K hK => ?_)
            simp only [↓SP, SX, SW, TY, EN, sv_w, ↓reduceIte, reduceCtorEq, Nat.reduceEqDiff, Nat.reduceAdd, Nat.reduceLeDiff, Nat.reduceLT, Cyc.av, hc14, hg20, hg27, hc16, hc32]
            refine hK _ _ ?_
            clear hK K
            refine wpT_if (by rfl) (fun hc41 => ?_) (fun hc41 => ?_)
            · skip
              have p41 := hc41
              try simp only [decide_eq_true_eq, decide_eq_false_iff_not, beq_iff_eq, bne_iff_ne, beq_eq_false_iff_ne, bne_eq_false_iff_eq, Bool.not_eq_true', Bool.not_eq_false'] at p41
              refine wpT_seq ?_
              refine wpT_region (by kernel_rfl) (fun K hK => ?_)
              simp only [↓SP, SX, SW, TY, EN, sv_w, ↓reduceIte, reduceCtorEq, Nat.reduceEqDiff, Nat.reduceAdd, Nat.reduceLeDiff, Nat.reduceLT, Cyc.av, hc14, hg20, hg27, hc16, hc32, hc41]
              refine hK _ _ ?_
              clear hK K
              refine wpT_ret ⟨.inr rfl, ?_⟩
              show optK (resA _ _ _ [.tmp 4]) _
              simp only [SR, Option.map_some, Option.bind_some, ↓SP, SX, SW, TY, EN, sv_w, ↓reduceIte, reduceCtorEq, Nat.reduceEqDiff, Nat.reduceAdd, Nat.reduceLeDiff, Nat.reduceLT, Cyc.av, hc14, hg20, hg27, hc16, hc32, hc41]
              refine Lend.eq ?_
              congr 1
              unfold cycE
              first
                | rw [if_pos (by omega)]
                | rw [if_neg (by omega), if_pos (by omega)]
                | rw [if_neg (by omega), if_neg (by omega), if_pos (by omega)]
                | (rw [if_neg (by omega), if_neg (by omega), if_neg (by omega)]
                   by_cases hq : x.pos.length > 8 <;> simp_all [posE]
                   all_goals (intros; omega))
            · skip
              have p41 := hc41
              try simp only [decide_eq_true_eq, decide_eq_false_iff_not, beq_iff_eq, bne_iff_ne, beq_eq_false_iff_ne, bne_eq_false_iff_eq, Bool.not_eq_true', Bool.not_eq_false'] at p41
              refine wpT_skip ?_
              refine wpT_seq ?_
              refine wpT_region (by kernel_rfl) (fun K hK => ?_)
              simp only [↓SP, SX, SW, TY, EN, sv_w, ↓reduceIte, reduceCtorEq, Nat.reduceEqDiff, Nat.reduceAdd, Nat.reduceLeDiff, Nat.reduceLT, Cyc.av, hc14, hg20, hg27, hc16, hc32, hc41]
              refine Pu.call (c141 _ _ hx.2.1 hs hx.2.2) ?_
              simp only [↓SP, SX, SW, TY, EN, sv_w, ↓reduceIte, reduceCtorEq, Nat.reduceEqDiff, Nat.reduceAdd, Nat.reduceLeDiff, Nat.reduceLT, Cyc.av, hc14, hg20, hg27, hc16, hc32, hc41]
              refine hK _ _ ?_
              clear hK K
              refine wpT_ret ⟨.inr rfl, ?_⟩
              show optK (resA _ _ _ [.tmp 4]) _
              simp only [SR, Option.map_some, Option.bind_some, ↓SP, SX, SW, TY, EN, sv_w, ↓reduceIte, reduceCtorEq, Nat.reduceEqDiff, Nat.reduceAdd, Nat.reduceLeDiff, Nat.reduceLT, Cyc.av, hc14, hg20, hg27, hc16, hc32, hc41]
              refine Lend.eq ?_
              congr 1
              unfold cycE
              first
                | rw [if_pos (by omega)]
                | rw [if_neg (by omega), if_pos (by omega)]
                | rw [if_neg (by omega), if_neg (by omega), if_pos (by omega)]
                | (rw [if_neg (by omega), if_neg (by omega), if_neg (by omega)]
                   by_cases hq : x.pos.length > 8 <;> simp_all [posE]
                   all_goals (intros; omega))
      · skip
        simp only [Bool.not_true, Bool.not_false] at hg27
        have p27 := hg27
        try simp only [decide_eq_true_eq, decide_eq_false_iff_not, beq_iff_eq, bne_iff_ne, beq_eq_false_iff_ne, bne_eq_false_iff_eq, Bool.not_eq_true', Bool.not_eq_false'] at p27
        simp only [↓SP, SX, SW, TY, EN, sv_w, ↓reduceIte, reduceCtorEq, Nat.reduceEqDiff, Nat.reduceAdd, Nat.reduceLeDiff, Nat.reduceLT, Cyc.av, hc14, hg20, hg27]
        refine hK _ _ ?_
        clear hK K
        refine wpT_ifT (by simp only [↓SP, SX, SW, TY, EN, sv_w, ↓reduceIte, reduceCtorEq, Nat.reduceEqDiff, Nat.reduceAdd, Nat.reduceLeDiff, Nat.reduceLT, Cyc.av, hc14, hg20, hg27]) ?_
        refine wpT_seq ?_
        refine wpT_region (by kernel_rfl) (fun K hK => ?_)
        simp only [↓SP, SX, SW, TY, EN, sv_w, ↓reduceIte, reduceCtorEq, Nat.reduceEqDiff, Nat.reduceAdd, Nat.reduceLeDiff, Nat.reduceLT, Cyc.av, hc14, hg20, hg27]
        refine hK _ _ ?_
        clear hK K
        refine wpT_ret ⟨.inr rfl, ?_⟩
        show optK (resA _ _ _ [.tmp 4]) _
        simp only [SR, Option.map_some, Option.bind_some, ↓SP, SX, SW, TY, EN, sv_w, ↓reduceIte, reduceCtorEq, Nat.reduceEqDiff, Nat.reduceAdd, Nat.reduceLeDiff, Nat.reduceLT, Cyc.av, hc14, hg20, hg27]
        refine Lend.eq ?_
        congr 1
        unfold cycE
        first
          | rw [if_pos (by omega)]
          | rw [if_neg (by omega), if_pos (by omega)]
          | rw [if_neg (by omega), if_neg (by omega), if_pos (by omega)]
          | (rw [if_neg (by omega), if_neg (by omega), if_neg (by omega)]
             by_cases hq : x.pos.length > 8 <;> simp_all [posE]
             all_goals (intros; omega))
    · skip
      simp only [Bool.not_true, Bool.not_false] at hg20
      have p20 := hg20
      try simp only [decide_eq_true_eq, decide_eq_false_iff_not, beq_iff_eq, bne_iff_ne, beq_eq_false_iff_ne, bne_eq_false_iff_eq, Bool.not_eq_true', Bool.not_eq_false'] at p20
      simp only [↓SP, SX, SW, TY, EN, sv_w, ↓reduceIte, reduceCtorEq, Nat.reduceEqDiff, Nat.reduceAdd, Nat.reduceLeDiff, Nat.reduceLT, Cyc.av, hc14, hg20]
      refine hK _ _ ?_
      clear hK K
      refine wpT_ifT (by simp only [↓SP, SX, SW, TY, EN, sv_w, ↓reduceIte, reduceCtorEq, Nat.reduceEqDiff, Nat.reduceAdd, Nat.reduceLeDiff, Nat.reduceLT, Cyc.av, hc14, hg20]) ?_
      refine wpT_seq ?_
      refine wpT_region (by kernel_rfl) (fun K hK => ?_)
      simp only [↓SP, SX, SW, TY, EN, sv_w, ↓reduceIte, reduceCtorEq, Nat.reduceEqDiff, Nat.reduceAdd, Nat.reduceLeDiff, Nat.reduceLT, Cyc.av, hc14, hg20]
      refine hK _ _ ?_
      clear hK K
      refine wpT_ret ⟨.inr rfl, ?_⟩
      show optK (resA _ _ _ [.tmp 4]) _
      simp only [SR, Option.map_some, Option.bind_some, ↓SP, SX, SW, TY, EN, sv_w, ↓reduceIte, reduceCtorEq, Nat.reduceEqDiff, Nat.reduceAdd, Nat.reduceLeDiff, Nat.reduceLT, Cyc.av, hc14, hg20]
      refine Lend.eq ?_
      congr 1
      unfold cycE
      first
        | rw [if_pos (by omega)]
        | rw [if_neg (by omega), if_pos (by omega)]
        | rw [if_neg (by omega), if_neg (by omega), if_pos (by omega)]
        | (rw [if_neg (by omega), if_neg (by omega), if_neg (by omega)]
           by_cases hq : x.pos.length > 8 <;> simp_all [posE]
           all_goals (intros; omega))
end Go.Proofs.YtlmjpgmaefokdaaGreat
end
