/- Walks: the reference's copies of writes and cycles.
  Walks: the reference's copy of a fan-out, its tidy, its numbered.
  Walks: the reference pushes a cycle.
  Walks: the reference's Applied, Lose, Join, Next; the program's Lose.
  The laws FanoutPushes and FanoutReports return true.
  standbylaw42.FanoutReports returns true for every fan-out, target and number, and leaves its arguments as they are. -/
import Derived.Test.YtlmjpgmaefokdaaGreatR7
import Derived.Test.YtlmjpgmaefokdaaGreatRows
section
set_option linter.unusedSimpArgs false
set_option linter.unusedVariables false
namespace Go.Proofs.YtlmjpgmaefokdaaGreat
open Go.Proofs
set_option maxRecDepth 10000
theorem secs_okc (xs : List Sec) : ∀ e ∈ xs.map Sec.av, e.okc = true := fun e he => by
  obtain ⟨a, _, rfl⟩ := List.mem_map.1 he
  rfl
theorem wrs_okc (xs : List Wr) : ∀ e ∈ xs.map Wr.av, e.okc = true := fun e he => by
  obtain ⟨a, _, rfl⟩ := List.mem_map.1 he
  rfl
theorem sec_c8 (xs : List Sec) : ∀ v ∈ xs.map Sec.av, v.cells.length = 8 := fun v hv => by
  obtain ⟨a, _, rfl⟩ := List.mem_map.1 hv
  rfl
theorem int_c1 (xs : List Int) : ∀ v ∈ xs.map I, v.cells.length = 1 := fun v hv => by
  obtain ⟨a, _, rfl⟩ := List.mem_map.1 hv
  rfl
theorem bool_c1 (xs : List Bool) : ∀ v ∈ xs.map B, v.cells.length = 1 := fun v hv => by
  obtain ⟨a, _, rfl⟩ := List.mem_map.1 hv
  rfl
theorem apN_ne {e c by' nid : Nat} {xs : List AV} (h0 : xs ≠ []) (h1 : xs.length ≤ maxLen) (h2 : xs.length * by' ≤ 140737488355328) : apN e c by' nid xs = some (.sl nid xs.length 0 xs.length, .new (.arr e c xs)) := by
  cases xs with
  | nil => exact absurd rfl h0
  | cons x xs => rw [apN_cons, if_pos ⟨h1, h2⟩]
theorem lend_nil {α : Type} {f : α → AV} {xs : List α} {g : Nat → Option Ob} (h : xs = []) : Lend g .nil0 (.lst (xs.map f)) := by
  subst h
  exact .nil0
theorem app_non {h : Hp} {nid : Nat} : h.app nid .non = h := rfl
theorem c152 (xs : List Wr) (hl : xs.length < 4000000000) (hw : ∀ w ∈ xs, w.sm) : Pu Tryz.prog (.fn (.func 152) [] []) [.lst (xs.map Wr.av)] (.lst (xs.map Wr.av)) := by
  refine pu_func Tryz.func152 rfl (by kernel_rfl) (by show _ ≤ 34; simp only [List.length_append, List.length_cons, List.length_nil]; decide) (by simp only [IDF, wr_idf, implies_true]) (by simp only [IDF, and_tt, implies_true]) (by simp only [IDF, wr_idf, and_tt, implies_true]) ?_
  rw [Tryz.ntmps152]
  refine wpT_seq ?_
  refine wpT_region (by kernel_rfl) (fun K hK => ?_)
  simp only [↓SP, SX, SW, TY, EN, sv_w, ↓reduceIte, reduceCtorEq, Nat.reduceEqDiff, Nat.reduceAdd, Nat.reduceLeDiff, Nat.reduceLT]
  refine hK _ _ ?_
  clear hK K
  refine wpT_seq ?_
  refine wpT_region (by kernel_rfl) (fun K hK => ?_)
  simp only [↓SP, SX, SW, TY, EN, sv_w, ↓reduceIte, reduceCtorEq, Nat.reduceEqDiff, Nat.reduceAdd, Nat.reduceLeDiff, Nat.reduceLT]
  refine hK _ _ ?_
  clear hK K
  refine wpT_seq ?_
  refine wpT_seq ?_
  refine wpT_region (by kernel_rfl) (fun K hK => ?_)
  simp only [↓SP, SX, SW, TY, EN, sv_w, ↓reduceIte, reduceCtorEq, Nat.reduceEqDiff, Nat.reduceAdd, Nat.reduceLeDiff, Nat.reduceLT]
  refine hK _ _ ?_
  clear hK K
  refine wpT_block ?_
  refine wpT_loop ?_
  refine wpT_nilown 3 140 3 rfl ?_
  refine wpT_keep1 (i := 0) (o := .arr 140 3 []) (by simp only [↓SP, SX, SW, TY, EN, sv_w, ↓reduceIte, reduceCtorEq, Nat.reduceEqDiff, Nat.reduceAdd, Nat.reduceLeDiff, Nat.reduceLT]) ?_
  refine wpT_ind (fun (i : Nat) tm' h' => (∃ m, h' = Hp.of [(0, .arr 140 3 ((xs.take i).map Wr.av))] (m + 1)) ∧ tm' 0 = .lst (xs.map Wr.av) ∧ tm' 3 = .sl 0 i 0 i ∧ tm' 4 = I i ∧ i ≤ xs.length) (fun i => xs.length - i) ?_ 0 ⟨⟨0, rfl⟩, rfl, rfl, rfl, by omega⟩
  rintro i tm' _ ⟨⟨m, rfl⟩, e0, e3, e4, hi⟩ IH
  refine wpT_inLoop ?_
  refine wpT_seq ?_
  refine wpT_seq ?_
  refine wpT_region (by kernel_rfl) (fun K hK => ?_)
  simp only [↓SP, SX, SW, TY, EN, sv_w, ↓reduceIte, reduceCtorEq, Nat.reduceEqDiff, Nat.reduceAdd, Nat.reduceLeDiff, Nat.reduceLT, e0, e4]
  refine hK _ _ ?_
  clear hK K
  refine wpT_if (by rfl) (fun hc9 => ?_) (fun hc9 => ?_)
  · skip
    have p9 := hc9
    try simp only [decide_eq_true_eq, decide_eq_false_iff_not, beq_iff_eq, bne_iff_ne, beq_eq_false_iff_ne, bne_eq_false_iff_eq, Bool.not_eq_true', Bool.not_eq_false'] at p9
    have hlt : i < xs.length := by omega
    have hg := at_map (f := Wr.av) hlt
    have hsm := hw _ (List.getElem_mem hlt)
    have q1 : i + 1 ≤ maxLen := by simp only [maxLen]; omega
    have q2 : (i + 1) * 40 ≤ 140737488355328 := by omega
    have q4 : (xs.take (i + 1)).map Wr.av = (xs.take i).map Wr.av ++ [xs[i].av] := by rw [List.take_add_one, List.getElem?_eq_getElem hlt, List.map_append]; rfl
    have q5 : ((xs.take i).map Wr.av).length = i := by simp; omega
    have q5' : (xs.take i).length = i := by simp; omega
    have hsp : (xs[i].data = [] ∧ ∀ nid, apN 137 8 8 nid (xs[i].data.map Sec.av) = some (.nil0, .non)) ∨ ∀ nid, apN 137 8 8 nid (xs[i].data.map Sec.av) = some (.sl nid xs[i].data.length 0 xs[i].data.length, .new (.arr 137 8 (xs[i].data.map Sec.av))) := by
      rcases Decidable.em (xs[i].data = []) with hd | hd
      · exact .inl ⟨hd, fun nid => by rw [hd]; rfl⟩
      · refine .inr fun nid => ?_
        have := apN_ne (e := 137) (c := 8) (by' := 8) (nid := nid) (xs := xs[i].data.map Sec.av) (by simpa using hd) (by simp only [List.length_map, maxLen]; simp only [Wr.sm] at hsm; omega) (by simp only [List.length_map]; simp only [Wr.sm] at hsm; omega)
        simpa only [List.length_map] using this
    refine wpT_skip ?_
    refine wpT_seq ?_
    refine wpT_block ?_
    refine wpT_seq ?_
    refine wpT_region (by kernel_rfl) (fun K hK => ?_)
    simp only [↓SP, SX, SW, TY, EN, sv_w, ↓reduceIte, reduceCtorEq, Nat.reduceEqDiff, Nat.reduceAdd, Nat.reduceLeDiff, Nat.reduceLT, hc9]
    refine hK _ _ ?_
    clear hK K
    rcases hsp with ⟨hd, hap⟩ | hap
    · skip
      refine wpT_drawn [(3, 17), (4, 17), (5, 17), (8, 17), (9, 17), (10, 17)] mixed (by kernel_rfl) (m := 22) rfl (fun K hK => ?_)
      simp only [↓SP, SX, SW, TY, EN, sv_w, ↓reduceIte, reduceCtorEq, Nat.reduceEqDiff, Nat.reduceAdd, Nat.reduceLeDiff, Nat.reduceLT, e0, e3, e4, hg, wr_cs, apO_nil0 (sec_c8 xs[i].data), hap, q1, q2, q5', app_non, List.cons_append, List.mem_singleton, hc9]
      refine hK _ _ ?_
      clear hK K
      refine wpT_inBlock ?_
      refine wpT_region (by kernel_rfl) (fun K hK => ?_)
      simp only [↓SP, SX, SW, TY, EN, sv_w, ↓reduceIte, reduceCtorEq, Nat.reduceEqDiff, Nat.reduceAdd, Nat.reduceLeDiff, Nat.reduceLT, e4, wrap64 (x := (i : Int) + 1) (by omega) (by omega), hc9]
      refine hK _ _ ?_
      clear hK K
      refine wpT_lendA [] [] (j := 0) (E := 140) (s := 3) (es := (xs.take i).map Wr.av ++ [.agg [I xs[i].vol, I xs[i].start, .nil0]]) (es' := (xs.take (i + 1)).map Wr.av) (by simp) (by simp only [↓SP, SX, SW, TY, EN, sv_w, ↓reduceIte, reduceCtorEq, Nat.reduceEqDiff, Nat.reduceAdd, Nat.reduceLeDiff, Nat.reduceLT]) (by simp) (q4 ▸ LendL.append (LendL.refl _) (LendL.cons (Lend.aggL (LendL.cons (.refl _) (LendL.cons (.refl _) (LendL.cons (lend_nil hd) LendL.nil)))) LendL.nil)) (wrs_okc _) ?_
      exact IH (i + 1) _ _ (by omega) ⟨⟨_, rfl⟩, by simp only [↓SP, SX, SW, TY, EN, sv_w, ↓reduceIte, reduceCtorEq, Nat.reduceEqDiff, Nat.reduceAdd, Nat.reduceLeDiff, Nat.reduceLT, e0], by simp only [↓SP, SX, SW, TY, EN, sv_w, ↓reduceIte, reduceCtorEq, Nat.reduceEqDiff, Nat.reduceAdd, Nat.reduceLeDiff, Nat.reduceLT, e3], by simp only [↓SP, SX, SW, TY, EN, sv_w, ↓reduceIte, reduceCtorEq, Nat.reduceEqDiff, Nat.reduceAdd, Nat.reduceLeDiff, Nat.reduceLT, Int.natCast_add, Int.cast_ofNat_Int], by omega⟩
    · skip
      refine wpT_drawn [(3, 17), (4, 17), (5, 17), (8, 17), (9, 17), (10, 17)] mixed (by kernel_rfl) (m := 22) rfl (fun K hK => ?_)
      simp only [↓SP, SX, SW, TY, EN, sv_w, ↓reduceIte, reduceCtorEq, Nat.reduceEqDiff, Nat.reduceAdd, Nat.reduceLeDiff, Nat.reduceLT, e0, e3, e4, hg, wr_cs, apO_nil0 (sec_c8 xs[i].data), hap, q1, q2, q5', app_non, List.cons_append, List.mem_singleton, hc9]
      refine hK _ _ ?_
      clear hK K
      refine wpT_inBlock ?_
      refine wpT_region (by kernel_rfl) (fun K hK => ?_)
      simp only [↓SP, SX, SW, TY, EN, sv_w, ↓reduceIte, reduceCtorEq, Nat.reduceEqDiff, Nat.reduceAdd, Nat.reduceLeDiff, Nat.reduceLT, e4, wrap64 (x := (i : Int) + 1) (by omega) (by omega), hc9]
      refine hK _ _ ?_
      clear hK K
      refine wpT_lendA [] [m + 1 + 17] (j := 0) (E := 140) (s := 3) (es := (xs.take i).map Wr.av ++ [.agg [I xs[i].vol, I xs[i].start, .sl (m + 1 + 17) xs[i].data.length 0 xs[i].data.length]]) (es' := (xs.take (i + 1)).map Wr.av) (by simp) (by simp only [↓SP, SX, SW, TY, EN, sv_w, ↓reduceIte, reduceCtorEq, Nat.reduceEqDiff, Nat.reduceAdd, Nat.reduceLeDiff, Nat.reduceLT]) (by simp) (q4 ▸ LendL.append (LendL.refl _) (LendL.cons (Lend.aggL (LendL.cons (.refl _) (LendL.cons (.refl _) (LendL.cons (Lend.sl0 (E := 137) (s := 8) (es := xs[i].data.map Sec.av) (by simp only [↓SP, SX, SW, TY, EN, sv_w, ↓reduceIte, reduceCtorEq, Nat.reduceEqDiff, Nat.reduceAdd, Nat.reduceLeDiff, Nat.reduceLT]) (by simp) (secs_okc _)) LendL.nil)))) LendL.nil)) (wrs_okc _) ?_
      exact IH (i + 1) _ _ (by omega) ⟨⟨_, rfl⟩, by simp only [↓SP, SX, SW, TY, EN, sv_w, ↓reduceIte, reduceCtorEq, Nat.reduceEqDiff, Nat.reduceAdd, Nat.reduceLeDiff, Nat.reduceLT, e0], by simp only [↓SP, SX, SW, TY, EN, sv_w, ↓reduceIte, reduceCtorEq, Nat.reduceEqDiff, Nat.reduceAdd, Nat.reduceLeDiff, Nat.reduceLT, e3], by simp only [↓SP, SX, SW, TY, EN, sv_w, ↓reduceIte, reduceCtorEq, Nat.reduceEqDiff, Nat.reduceAdd, Nat.reduceLeDiff, Nat.reduceLT, Int.natCast_add, Int.cast_ofNat_Int], by omega⟩
  · skip
    have p9 := hc9
    try simp only [decide_eq_true_eq, decide_eq_false_iff_not, beq_iff_eq, bne_iff_ne, beq_eq_false_iff_ne, bne_eq_false_iff_eq, Bool.not_eq_true', Bool.not_eq_false'] at p9
    have hie : i = xs.length := by omega
    subst hie
    refine wpT_exit rfl ?_
    refine wpT_seq ?_
    refine wpT_region (by kernel_rfl) (fun K hK => ?_)
    simp only [↓SP, SX, SW, TY, EN, sv_w, ↓reduceIte, reduceCtorEq, Nat.reduceEqDiff, Nat.reduceAdd, Nat.reduceLeDiff, Nat.reduceLT, e3, hc9]
    refine hK _ _ ?_
    clear hK K
    refine wpT_ret ⟨.inr rfl, ?_⟩
    show optK (resA _ _ _ [.tmp 2]) _
    simp only [SR, Option.map_some, Option.bind_some, ↓SP, SX, SW, TY, EN, sv_w, ↓reduceIte, reduceCtorEq, Nat.reduceEqDiff, Nat.reduceAdd, Nat.reduceLeDiff, Nat.reduceLT, hc9]
    exact Lend.sl0 (E := 140) (s := 3) (es := xs.map Wr.av) (by simp only [↓SP, SX, SW, TY, EN, sv_w, ↓reduceIte, reduceCtorEq, Nat.reduceEqDiff, Nat.reduceAdd, Nat.reduceLeDiff, Nat.reduceLT, List.take_length]) (by simp) (wrs_okc _)
theorem c87 (x : Cyc) (hx : x.sm) : Pu Tryz.prog (.fn (.func 87) [] []) [x.av] x.av := by
  refine pu_func Tryz.func87 rfl (by kernel_rfl) (by show _ ≤ 14; simp only [List.length_append, List.length_cons, List.length_nil]; decide) (by simp only [cyc_idf]) (by simp only [IDF, and_tt, implies_true]) (by simp only [IDF, cyc_idf, and_tt, implies_true]) ?_
  have hsm := hx.1
  have hsp : (x.pos = [] ∧ ∀ nid, apN 3 1 8 nid (x.pos.map I) = some (.nil0, .non)) ∨ ∀ nid, apN 3 1 8 nid (x.pos.map I) = some (.sl nid x.pos.length 0 x.pos.length, .new (.arr 3 1 (x.pos.map I))) := by
    rcases Decidable.em (x.pos = []) with hd | hd
    · exact .inl ⟨hd, fun nid => by rw [hd]; rfl⟩
    · refine .inr fun nid => ?_
      have := apN_ne (e := 3) (c := 1) (by' := 8) (nid := nid) (xs := x.pos.map I) (by simpa using hd) (by simp only [List.length_map, maxLen]; omega) (by simp only [List.length_map]; omega)
      simpa only [List.length_map] using this
  rw [Tryz.ntmps87]
  refine wpT_seq ?_
  refine wpT_region (by kernel_rfl) (fun K hK => ?_)
  simp only [↓SP, SX, SW, TY, EN, sv_w, ↓reduceIte, reduceCtorEq, Nat.reduceEqDiff, Nat.reduceAdd, Nat.reduceLeDiff, Nat.reduceLT, cyc_cs, Cyc.av]
  refine hK _ _ ?_
  clear hK K
  refine wpT_seq ?_
  refine wpT_region (by kernel_rfl) (fun K hK => ?_)
  simp only [↓SP, SX, SW, TY, EN, sv_w, ↓reduceIte, reduceCtorEq, Nat.reduceEqDiff, Nat.reduceAdd, Nat.reduceLeDiff, Nat.reduceLT, cyc_cs, Cyc.av]
  refine hK _ _ ?_
  clear hK K
  refine wpT_seq ?_
  rcases hsp with ⟨hd, hap⟩ | hap
  · skip
    refine wpT_region (by kernel_rfl) (fun K hK => ?_)
    simp only [↓SP, SX, SW, TY, EN, sv_w, ↓reduceIte, reduceCtorEq, Nat.reduceEqDiff, Nat.reduceAdd, Nat.reduceLeDiff, Nat.reduceLT, cyc_cs, Cyc.av, apO_nil0 (int_c1 x.pos), hap, app_non]
    refine hK _ _ ?_
    clear hK K
    refine wpT_seq ?_
    refine wpT_region (by kernel_rfl) (fun K hK => ?_)
    simp only [↓SP, SX, SW, TY, EN, sv_w, ↓reduceIte, reduceCtorEq, Nat.reduceEqDiff, Nat.reduceAdd, Nat.reduceLeDiff, Nat.reduceLT, cyc_cs, Cyc.av]
    refine Pu.call (c152 x.ws hx.2.1 hx.2.2) ?_
    simp only [↓SP, SX, SW, TY, EN, sv_w, ↓reduceIte, reduceCtorEq, Nat.reduceEqDiff, Nat.reduceAdd, Nat.reduceLeDiff, Nat.reduceLT, cyc_cs, Cyc.av]
    refine hK _ _ ?_
    clear hK K
    refine wpT_seq ?_
    refine wpT_region (by kernel_rfl) (fun K hK => ?_)
    simp only [↓SP, SX, SW, TY, EN, sv_w, ↓reduceIte, reduceCtorEq, Nat.reduceEqDiff, Nat.reduceAdd, Nat.reduceLeDiff, Nat.reduceLT, cyc_cs, Cyc.av]
    refine hK _ _ ?_
    clear hK K
    refine wpT_ret ⟨.inr rfl, ?_⟩
    show optK (resA _ _ _ [.cell 2 52]) _
    simp only [SR, Option.map_some, Option.bind_some, ↓SP, SX, SW, TY, EN, sv_w, ↓reduceIte, reduceCtorEq, Nat.reduceEqDiff, Nat.reduceAdd, Nat.reduceLeDiff, Nat.reduceLT, cyc_cs, Cyc.av]
    exact Lend.aggL (LendL.cons (.refl _) (LendL.cons (.refl _) (LendL.cons (.refl _) (LendL.cons (lend_nil hd) (LendL.cons (.refl _) LendL.nil)))))
  · skip
    refine wpT_region (by kernel_rfl) (fun K hK => ?_)
    simp only [↓SP, SX, SW, TY, EN, sv_w, ↓reduceIte, reduceCtorEq, Nat.reduceEqDiff, Nat.reduceAdd, Nat.reduceLeDiff, Nat.reduceLT, cyc_cs, Cyc.av, apO_nil0 (int_c1 x.pos), hap, app_non]
    refine hK _ _ ?_
    clear hK K
    refine wpT_seq ?_
    refine wpT_region (by kernel_rfl) (fun K hK => ?_)
    simp only [↓SP, SX, SW, TY, EN, sv_w, ↓reduceIte, reduceCtorEq, Nat.reduceEqDiff, Nat.reduceAdd, Nat.reduceLeDiff, Nat.reduceLT, cyc_cs, Cyc.av]
    refine Pu.call (c152 x.ws hx.2.1 hx.2.2) ?_
    simp only [↓SP, SX, SW, TY, EN, sv_w, ↓reduceIte, reduceCtorEq, Nat.reduceEqDiff, Nat.reduceAdd, Nat.reduceLeDiff, Nat.reduceLT, cyc_cs, Cyc.av]
    refine hK _ _ ?_
    clear hK K
    refine wpT_seq ?_
    refine wpT_region (by kernel_rfl) (fun K hK => ?_)
    simp only [↓SP, SX, SW, TY, EN, sv_w, ↓reduceIte, reduceCtorEq, Nat.reduceEqDiff, Nat.reduceAdd, Nat.reduceLeDiff, Nat.reduceLT, cyc_cs, Cyc.av]
    refine hK _ _ ?_
    clear hK K
    refine wpT_ret ⟨.inr rfl, ?_⟩
    show optK (resA _ _ _ [.cell 2 52]) _
    simp only [SR, Option.map_some, Option.bind_some, ↓SP, SX, SW, TY, EN, sv_w, ↓reduceIte, reduceCtorEq, Nat.reduceEqDiff, Nat.reduceAdd, Nat.reduceLeDiff, Nat.reduceLT, cyc_cs, Cyc.av]
    exact Lend.aggL (LendL.cons (.refl _) (LendL.cons (.refl _) (LendL.cons (.refl _) (LendL.cons (Lend.sl0 (E := 3) (s := 1) (by simp only [↓SP, SX, SW, TY, EN, sv_w, ↓reduceIte, reduceCtorEq, Nat.reduceEqDiff, Nat.reduceAdd, Nat.reduceLeDiff, Nat.reduceLT, cyc_cs]) (by simp) (int_okc _)) (LendL.cons (.refl _) LendL.nil)))))
end Go.Proofs.YtlmjpgmaefokdaaGreat
end

section
set_option linter.unusedSimpArgs false
set_option linter.unusedVariables false
namespace Go.Proofs.YtlmjpgmaefokdaaGreat
open Go.Proofs
set_option maxRecDepth 10000
theorem c97 (f : Fan) (n : Int) (hf : f.ok) : Pu Tryz.prog (.fn (.func 97) [] []) [f.av, I n] (B (numIn n f.kept)) := by
  refine pu_func Tryz.func97 rfl (by kernel_rfl) (by show _ ≤ 21; simp only [List.length_append, List.length_cons, List.length_nil]; decide) (by simp only [IDF]) (by simp only [IDF, and_tt, implies_true]) (by simp only [IDF, fan_idf, and_tt, implies_true]) ?_
  have hk := hf.1
  rw [Tryz.ntmps97]
  refine wpT_seq ?_
  refine wpT_region (by kernel_rfl) (fun K hK => ?_)
  simp only [↓SP, SX, SW, TY, EN, sv_w, ↓reduceIte, reduceCtorEq, Nat.reduceEqDiff, Nat.reduceAdd, Nat.reduceLeDiff, Nat.reduceLT, Fan.av, cyc_cs]
  refine hK _ _ ?_
  clear hK K
  refine wpT_seq ?_
  refine wpT_seq ?_
  refine wpT_region (by kernel_rfl) (fun K hK => ?_)
  simp only [↓SP, SX, SW, TY, EN, sv_w, ↓reduceIte, reduceCtorEq, Nat.reduceEqDiff, Nat.reduceAdd, Nat.reduceLeDiff, Nat.reduceLT, Fan.av, cyc_cs]
  refine hK _ _ ?_
  clear hK K
  refine wpT_block ?_
  refine wpT_loop ?_
  refine wpT_keep1 (i := 0) (o := .arr 49 4 [f.av]) (by simp only [↓SP, SX, SW, TY, EN, sv_w, ↓reduceIte, reduceCtorEq, Nat.reduceEqDiff, Nat.reduceAdd, Nat.reduceLeDiff, Nat.reduceLT, Fan.av]) ?_
  refine wpT_ind (fun (i : Nat) tm' h' => (∃ m, h' = Hp.of [(0, .arr 49 4 [f.av])] (m + 1)) ∧ tm' 2 = .ptr 0 1 0 0 ∧ tm' 1 = I n ∧ tm' 5 = I i ∧ i ≤ f.kept.length ∧ numIn n (f.kept.drop i) = numIn n f.kept) (fun i => f.kept.length - i) ?_ 0 ⟨⟨0, rfl⟩, rfl, rfl, rfl, by omega, rfl⟩
  rintro i tm' _ ⟨⟨m, rfl⟩, e2, e1, e5, hi, hx⟩ IH
  refine wpT_inLoop ?_
  refine wpT_seq ?_
  refine wpT_seq ?_
  refine wpT_region (by kernel_rfl) (fun K hK => ?_)
  simp only [↓SP, SX, SW, TY, EN, sv_w, ↓reduceIte, reduceCtorEq, Nat.reduceEqDiff, Nat.reduceAdd, Nat.reduceLeDiff, Nat.reduceLT, Fan.av, cyc_cs, e2, e5]
  refine hK _ _ ?_
  clear hK K
  refine wpT_if (by rfl) (fun hc10 => ?_) (fun hc10 => ?_)
  · skip
    have p10 := hc10
    try simp only [decide_eq_true_eq, decide_eq_false_iff_not, beq_iff_eq, bne_iff_ne, beq_eq_false_iff_ne, bne_eq_false_iff_eq, Bool.not_eq_true', Bool.not_eq_false'] at p10
    have hlt : i < f.kept.length := by omega
    have hg := at_map (f := Cyc.av) hlt
    rw [List.drop_eq_getElem_cons hlt, numIn] at hx
    refine wpT_skip ?_
    refine wpT_seq ?_
    refine wpT_block ?_
    refine wpT_seq ?_
    refine wpT_region (by kernel_rfl) (fun K hK => ?_)
    simp only [↓SP, SX, SW, TY, EN, sv_w, ↓reduceIte, reduceCtorEq, Nat.reduceEqDiff, Nat.reduceAdd, Nat.reduceLeDiff, Nat.reduceLT, Fan.av, cyc_cs, e1, e2, e5, hg, hc10]
    refine hK _ _ ?_
    clear hK K
    refine wpT_if (by rfl) (fun hc20 => ?_) (fun hc20 => ?_)
    · skip
      have p20 := hc20
      try simp only [decide_eq_true_eq, decide_eq_false_iff_not, beq_iff_eq, bne_iff_ne, beq_eq_false_iff_ne, bne_eq_false_iff_eq, Bool.not_eq_true', Bool.not_eq_false'] at p20
      rw [if_pos p20] at hx
      refine wpT_seq ?_
      refine wpT_region (by kernel_rfl) (fun K hK => ?_)
      simp only [↓SP, SX, SW, TY, EN, sv_w, ↓reduceIte, reduceCtorEq, Nat.reduceEqDiff, Nat.reduceAdd, Nat.reduceLeDiff, Nat.reduceLT, Fan.av, cyc_cs, hc10, hc20]
      refine hK _ _ ?_
      clear hK K
      refine wpT_ret ⟨.inr rfl, ?_⟩
      show optK (resA _ _ _ [.tmp 4]) _
      simp only [SR, Option.map_some, Option.bind_some, ↓SP, SX, SW, TY, EN, sv_w, ↓reduceIte, reduceCtorEq, Nat.reduceEqDiff, Nat.reduceAdd, Nat.reduceLeDiff, Nat.reduceLT, Fan.av, cyc_cs, hc10, hc20]
      refine Lend.eq ?_
      rw [← hx]
    · skip
      have p20 := hc20
      try simp only [decide_eq_true_eq, decide_eq_false_iff_not, beq_iff_eq, bne_iff_ne, beq_eq_false_iff_ne, bne_eq_false_iff_eq, Bool.not_eq_true', Bool.not_eq_false'] at p20
      rw [if_neg p20] at hx
      refine wpT_skip ?_
      refine wpT_inBlock ?_
      refine wpT_region (by kernel_rfl) (fun K hK => ?_)
      simp only [↓SP, SX, SW, TY, EN, sv_w, ↓reduceIte, reduceCtorEq, Nat.reduceEqDiff, Nat.reduceAdd, Nat.reduceLeDiff, Nat.reduceLT, Fan.av, cyc_cs, e5, wrap64 (x := (i : Int) + 1) (by omega) (by omega), hc10, hc20]
      refine hK _ _ ?_
      clear hK K
      refine wpT_keep1 (i := 0) (o := .arr 49 4 [f.av]) (by simp only [↓SP, SX, SW, TY, EN, sv_w, ↓reduceIte, reduceCtorEq, Nat.reduceEqDiff, Nat.reduceAdd, Nat.reduceLeDiff, Nat.reduceLT, Fan.av]) ?_
      refine IH (i + 1) _ _ (by omega) ⟨⟨_, rfl⟩, by simp only [↓SP, SX, SW, TY, EN, sv_w, ↓reduceIte, reduceCtorEq, Nat.reduceEqDiff, Nat.reduceAdd, Nat.reduceLeDiff, Nat.reduceLT, e2], by simp only [↓SP, SX, SW, TY, EN, sv_w, ↓reduceIte, reduceCtorEq, Nat.reduceEqDiff, Nat.reduceAdd, Nat.reduceLeDiff, Nat.reduceLT, e1], by simp only [↓SP, SX, SW, TY, EN, sv_w, ↓reduceIte, reduceCtorEq, Nat.reduceEqDiff, Nat.reduceAdd, Nat.reduceLeDiff, Nat.reduceLT, Int.natCast_add, Int.cast_ofNat_Int], by omega, hx⟩
  · skip
    have p10 := hc10
    try simp only [decide_eq_true_eq, decide_eq_false_iff_not, beq_iff_eq, bne_iff_ne, beq_eq_false_iff_ne, bne_eq_false_iff_eq, Bool.not_eq_true', Bool.not_eq_false'] at p10
    rw [List.drop_eq_nil_of_le (by omega), numIn] at hx
    refine wpT_exit rfl ?_
    refine wpT_seq ?_
    refine wpT_region (by kernel_rfl) (fun K hK => ?_)
    simp only [↓SP, SX, SW, TY, EN, sv_w, ↓reduceIte, reduceCtorEq, Nat.reduceEqDiff, Nat.reduceAdd, Nat.reduceLeDiff, Nat.reduceLT, Fan.av, cyc_cs, hc10]
    refine hK _ _ ?_
    clear hK K
    refine wpT_ret ⟨.inr rfl, ?_⟩
    show optK (resA _ _ _ [.tmp 4]) _
    simp only [SR, Option.map_some, Option.bind_some, ↓SP, SX, SW, TY, EN, sv_w, ↓reduceIte, reduceCtorEq, Nat.reduceEqDiff, Nat.reduceAdd, Nat.reduceLeDiff, Nat.reduceLT, Fan.av, cyc_cs, hc10]
    refine Lend.eq ?_
    rw [← hx]
theorem cut1 {c : Cyc} {cs : List Cyc} {g : Nat → Option Ob} (hl : (c :: cs).length < 4611686018427387904) : opSlice Tryz.prog 46 (.lst (c.av :: cs.map Cyc.av)) (some (.int .i64 1)) none g = some (.lst (cs.map Cyc.av)) := by
  have hq : ∀ v ∈ (c :: cs).map Cyc.av, v.cells.length = 5 := fun v hv => by
    obtain ⟨a, _, rfl⟩ := List.mem_map.1 hv
    rfl
  have := slT_lst (P := Tryz.prog) sle46 (c := 5) (by rfl) (by decide) ((c :: cs).map Cyc.av) (some (I 1)) none g (l := 1) (u := (c :: cs).length) rfl (by simp [bnd]) (by simp) (by simp) hq
  rw [List.map_cons] at this
  rw [this, List.take_of_length_le (by simp)]
  rfl
theorem tidyK_nil (n : Int) : tidyK n [] = [] := rfl
theorem tidyK_drop {n : Int} {c : Cyc} {cs : List Cyc} (h : needB n c = false) : tidyK n (c :: cs) = tidyK n cs := by simp [tidyK, h]
theorem tidyK_stay {n : Int} {c : Cyc} {cs : List Cyc} (h : needB n c = true) : tidyK n (c :: cs) = c :: cs := by simp [tidyK, h]
theorem c88 (f : Fan) (hf : f.ok) (hlen : f.lost.length = f.app.length) : Pu Tryz.prog (.fn (.func 88) [] []) [f.av] (tidyF f).av := by
  refine pu_func Tryz.func88 rfl (by kernel_rfl) (by show _ ≤ 28; simp only [List.length_append, List.length_cons, List.length_nil]; decide) (by simp only [fan_idf]) (by simp only [IDF, and_tt, implies_true]) (by simp only [IDF, fan_idf, and_tt, implies_true]) ?_
  have hk := hf.1
  rw [Tryz.ntmps88]
  refine wpT_seq ?_
  refine wpT_region (by kernel_rfl) (fun K hK => ?_)
  simp only [↓SP, SX, SW, TY, EN, sv_w, ↓reduceIte, reduceCtorEq, Nat.reduceEqDiff, Nat.reduceAdd, Nat.reduceLeDiff, Nat.reduceLT, Fan.av]
  refine hK _ _ ?_
  clear hK K
  refine wpT_seq ?_
  refine wpT_region (by kernel_rfl) (fun K hK => ?_)
  simp only [↓SP, SX, SW, TY, EN, sv_w, ↓reduceIte, reduceCtorEq, Nat.reduceEqDiff, Nat.reduceAdd, Nat.reduceLeDiff, Nat.reduceLT, Fan.av]
  refine Pu.call (c82 f hf hlen) ?_
  simp only [↓SP, SX, SW, TY, EN, sv_w, ↓reduceIte, reduceCtorEq, Nat.reduceEqDiff, Nat.reduceAdd, Nat.reduceLeDiff, Nat.reduceLT, Fan.av]
  refine hK _ _ ?_
  clear hK K
  refine wpT_seq ?_
  refine wpT_block ?_
  refine wpT_loop ?_
  refine wpT_keep2 (i := 0) (j := 1) (o := .arr 49 4 [.agg [I f.limit, .lst (f.kept.map Cyc.av), .lst (f.app.map I), .lst (f.lost.map B)]]) (q := .arr 49 4 [.agg [I 0, .nil0, .nil0, .nil0]]) (by simp only [↓SP, SX, SW, TY, EN, sv_w, ↓reduceIte, reduceCtorEq, Nat.reduceEqDiff, Nat.reduceAdd, Nat.reduceLeDiff, Nat.reduceLT]) (by simp only [↓SP, SX, SW, TY, EN, sv_w, ↓reduceIte, reduceCtorEq, Nat.reduceEqDiff, Nat.reduceAdd, Nat.reduceLeDiff, Nat.reduceLT]) ?_
  refine wpT_ind (fun (ks : List Cyc) tm' h' => (∃ m, h' = Hp.of [(0, .arr 49 4 [.agg [I f.limit, .lst (ks.map Cyc.av), .lst (f.app.map I), .lst (f.lost.map B)]]), (1, .arr 49 4 [.agg [I 0, .nil0, .nil0, .nil0]])] (m + 2)) ∧ tm' 1 = .ptr 0 1 0 0 ∧ tm' 2 = .ptr 1 1 0 0 ∧ tm' 3 = I (leastL (-1) f.app f.lost) ∧ ks.length < 4611686018427387904 ∧ tidyK (leastL (-1) f.app f.lost) ks = tidyK (leastL (-1) f.app f.lost) f.kept) (fun ks => ks.length) ?_ f.kept ⟨⟨0, rfl⟩, rfl, rfl, rfl, hk, rfl⟩
  rintro ks tm' _ ⟨⟨m, rfl⟩, e1, e2, e3, hkl, hx⟩ IH
  refine wpT_inLoop ?_
  refine wpT_seq ?_
  refine wpT_seq ?_
  refine wpT_region (by kernel_rfl) (fun K hK => ?_)
  simp only [↓SP, SX, SW, TY, EN, sv_w, ↓reduceIte, reduceCtorEq, Nat.reduceEqDiff, Nat.reduceAdd, Nat.reduceLeDiff, Nat.reduceLT, Fan.av, e1, e3, cyc_cs]
  refine guardO_split (fun hg10 => ?_) (fun hg10 => ?_)
  · skip
    have p10 := hg10
    try simp only [decide_eq_true_eq, decide_eq_false_iff_not, beq_iff_eq, bne_iff_ne, beq_eq_false_iff_ne, bne_eq_false_iff_eq, Bool.not_eq_true', Bool.not_eq_false'] at p10
    obtain ⟨c, cs, rfl⟩ : ∃ c cs, ks = c :: cs := by
      cases ks with
      | nil => simp at p10
      | cons c cs => exact ⟨c, cs, rfl⟩
    have hl1 : decide (((cs.length + 1 : Nat) : Int) > 0) = true := decide_eq_true (by omega)
    simp only [↓SP, SX, SW, TY, EN, sv_w, ↓reduceIte, reduceCtorEq, Nat.reduceEqDiff, Nat.reduceAdd, Nat.reduceLeDiff, Nat.reduceLT, Fan.av, e1, e3, cyc_cs, hl1, hg10]
    refine guardO_split (fun hg13 => ?_) (fun hg13 => ?_)
    · skip
      have p13 := hg13
      try simp only [decide_eq_true_eq, decide_eq_false_iff_not, beq_iff_eq, bne_iff_ne, beq_eq_false_iff_ne, bne_eq_false_iff_eq, Bool.not_eq_true', Bool.not_eq_false'] at p13
      simp only [↓SP, SX, SW, TY, EN, sv_w, ↓reduceIte, reduceCtorEq, Nat.reduceEqDiff, Nat.reduceAdd, Nat.reduceLeDiff, Nat.reduceLT, Fan.av, e1, e3, cyc_cs, hl1, hg10, hg13]
      refine hK _ _ ?_
      clear hK K
      refine wpT_if (by rfl) (fun hc22 => ?_) (fun hc22 => ?_)
      · skip
        have p22 := hc22
        try simp only [decide_eq_true_eq, decide_eq_false_iff_not, beq_iff_eq, bne_iff_ne, beq_eq_false_iff_ne, bne_eq_false_iff_eq, Bool.not_eq_true', Bool.not_eq_false'] at p22
        have hnb : needB (leastL (-1) f.app f.lost) c = false := by
          simp only [needB, Bool.and_eq_false_iff, decide_eq_false_iff_not]
          omega
        rw [tidyK_drop hnb] at hx
        refine wpT_skip ?_
        refine wpT_block ?_
        refine wpT_region (by kernel_rfl) (fun K hK => ?_)
        simp only [↓SP, SX, SW, TY, EN, sv_w, ↓reduceIte, reduceCtorEq, Nat.reduceEqDiff, Nat.reduceAdd, Nat.reduceLeDiff, Nat.reduceLT, Fan.av, e1, cut1 hkl, Option.map_some, Option.map_none, hl1, hg10, hg13, hc22]
        refine hK _ _ ?_
        clear hK K
        refine wpT_inBlock ?_
        refine wpT_keep2 (i := 0) (j := 1) (o := .arr 49 4 [.agg [I f.limit, .lst (cs.map Cyc.av), .lst (f.app.map I), .lst (f.lost.map B)]]) (q := .arr 49 4 [.agg [I 0, .nil0, .nil0, .nil0]]) (by simp only [↓SP, SX, SW, TY, EN, sv_w, ↓reduceIte, reduceCtorEq, Nat.reduceEqDiff, Nat.reduceAdd, Nat.reduceLeDiff, Nat.reduceLT]) (by simp only [↓SP, SX, SW, TY, EN, sv_w, ↓reduceIte, reduceCtorEq, Nat.reduceEqDiff, Nat.reduceAdd, Nat.reduceLeDiff, Nat.reduceLT]) ?_
        refine IH cs _ _ (by simp) ⟨⟨_, rfl⟩, by simp only [↓SP, SX, SW, TY, EN, sv_w, ↓reduceIte, reduceCtorEq, Nat.reduceEqDiff, Nat.reduceAdd, Nat.reduceLeDiff, Nat.reduceLT, e1], by simp only [↓SP, SX, SW, TY, EN, sv_w, ↓reduceIte, reduceCtorEq, Nat.reduceEqDiff, Nat.reduceAdd, Nat.reduceLeDiff, Nat.reduceLT, e2], by simp only [↓SP, SX, SW, TY, EN, sv_w, ↓reduceIte, reduceCtorEq, Nat.reduceEqDiff, Nat.reduceAdd, Nat.reduceLeDiff, Nat.reduceLT, e3], by simp at hkl; omega, hx⟩
      · skip
        have p22 := hc22
        try simp only [decide_eq_true_eq, decide_eq_false_iff_not, beq_iff_eq, bne_iff_ne, beq_eq_false_iff_ne, bne_eq_false_iff_eq, Bool.not_eq_true', Bool.not_eq_false'] at p22
        first
          | (obtain rfl : ks = [] := by
               cases ks with
               | nil => rfl
               | cons c cs => simp at p10
             have hfin : tidyF f = ⟨f.limit, [], f.app, f.lost⟩ := by rw [tidyF, ← hx, tidyK_nil])
          | (have hnb : needB (leastL (-1) f.app f.lost) c = true := by
               simp only [needB, Bool.and_eq_true, decide_eq_true_eq]
               omega
             have hfin : tidyF f = ⟨f.limit, c :: cs, f.app, f.lost⟩ := by rw [tidyF, ← hx, tidyK_stay hnb])
        refine wpT_exit rfl ?_
        refine wpT_seq ?_
        refine wpT_region (by kernel_rfl) (fun K hK => ?_)
        simp only [↓SP, SX, SW, TY, EN, sv_w, ↓reduceIte, reduceCtorEq, Nat.reduceEqDiff, Nat.reduceAdd, Nat.reduceLeDiff, Nat.reduceLT, Fan.av, e1, e2, hl1, hg10, hg13, hc22]
        refine hK _ _ ?_
        clear hK K
        refine wpT_ret ⟨.inr rfl, ?_⟩
        show optK (resA _ _ _ [.cell 2 49]) _
        simp only [SR, Option.map_some, Option.bind_some, ↓SP, SX, SW, TY, EN, sv_w, ↓reduceIte, reduceCtorEq, Nat.reduceEqDiff, Nat.reduceAdd, Nat.reduceLeDiff, Nat.reduceLT, Fan.av, hl1, hg10, hg13, hc22]
        simp only [↓SP, SX, SW, TY, EN, sv_w, ↓reduceIte, reduceCtorEq, Nat.reduceEqDiff, Nat.reduceAdd, Nat.reduceLeDiff, Nat.reduceLT, SR, Option.map_some, Option.bind_some, e2]
        rw [hfin]
        exact .refl _
    · skip
      simp only [Bool.not_true, Bool.not_false] at hg13
      have p13 := hg13
      try simp only [decide_eq_true_eq, decide_eq_false_iff_not, beq_iff_eq, bne_iff_ne, beq_eq_false_iff_ne, bne_eq_false_iff_eq, Bool.not_eq_true', Bool.not_eq_false'] at p13
      simp only [↓SP, SX, SW, TY, EN, sv_w, ↓reduceIte, reduceCtorEq, Nat.reduceEqDiff, Nat.reduceAdd, Nat.reduceLeDiff, Nat.reduceLT, Fan.av, e1, e3, cyc_cs, hl1, hg10, hg13]
      refine hK _ _ ?_
      clear hK K
      refine wpT_ifT (by simp only [↓SP, SX, SW, TY, EN, sv_w, ↓reduceIte, reduceCtorEq, Nat.reduceEqDiff, Nat.reduceAdd, Nat.reduceLeDiff, Nat.reduceLT, Fan.av, hl1, hg10, hg13]) ?_
      have hnb : needB (leastL (-1) f.app f.lost) c = false := by
        simp only [needB, Bool.and_eq_false_iff, decide_eq_false_iff_not]
        omega
      rw [tidyK_drop hnb] at hx
      refine wpT_skip ?_
      refine wpT_block ?_
      refine wpT_region (by kernel_rfl) (fun K hK => ?_)
      simp only [↓SP, SX, SW, TY, EN, sv_w, ↓reduceIte, reduceCtorEq, Nat.reduceEqDiff, Nat.reduceAdd, Nat.reduceLeDiff, Nat.reduceLT, Fan.av, e1, cut1 hkl, Option.map_some, Option.map_none, hl1, hg10, hg13]
      refine hK _ _ ?_
      clear hK K
      refine wpT_inBlock ?_
      refine wpT_keep2 (i := 0) (j := 1) (o := .arr 49 4 [.agg [I f.limit, .lst (cs.map Cyc.av), .lst (f.app.map I), .lst (f.lost.map B)]]) (q := .arr 49 4 [.agg [I 0, .nil0, .nil0, .nil0]]) (by simp only [↓SP, SX, SW, TY, EN, sv_w, ↓reduceIte, reduceCtorEq, Nat.reduceEqDiff, Nat.reduceAdd, Nat.reduceLeDiff, Nat.reduceLT]) (by simp only [↓SP, SX, SW, TY, EN, sv_w, ↓reduceIte, reduceCtorEq, Nat.reduceEqDiff, Nat.reduceAdd, Nat.reduceLeDiff, Nat.reduceLT]) ?_
      refine IH cs _ _ (by simp) ⟨⟨_, rfl⟩, by simp only [↓SP, SX, SW, TY, EN, sv_w, ↓reduceIte, reduceCtorEq, Nat.reduceEqDiff, Nat.reduceAdd, Nat.reduceLeDiff, Nat.reduceLT, e1], by simp only [↓SP, SX, SW, TY, EN, sv_w, ↓reduceIte, reduceCtorEq, Nat.reduceEqDiff, Nat.reduceAdd, Nat.reduceLeDiff, Nat.reduceLT, e2], by simp only [↓SP, SX, SW, TY, EN, sv_w, ↓reduceIte, reduceCtorEq, Nat.reduceEqDiff, Nat.reduceAdd, Nat.reduceLeDiff, Nat.reduceLT, e3], by simp at hkl; omega, hx⟩
  · skip
    simp only [Bool.not_true, Bool.not_false] at hg10
    have p10 := hg10
    try simp only [decide_eq_true_eq, decide_eq_false_iff_not, beq_iff_eq, bne_iff_ne, beq_eq_false_iff_ne, bne_eq_false_iff_eq, Bool.not_eq_true', Bool.not_eq_false'] at p10
    simp only [↓SP, SX, SW, TY, EN, sv_w, ↓reduceIte, reduceCtorEq, Nat.reduceEqDiff, Nat.reduceAdd, Nat.reduceLeDiff, Nat.reduceLT, Fan.av, e1, e3, cyc_cs, hg10]
    refine hK _ _ ?_
    clear hK K
    refine wpT_ifF (by simp only [↓SP, SX, SW, TY, EN, sv_w, ↓reduceIte, reduceCtorEq, Nat.reduceEqDiff, Nat.reduceAdd, Nat.reduceLeDiff, Nat.reduceLT, Fan.av, hg10]) ?_
    first
      | (obtain rfl : ks = [] := by
           cases ks with
           | nil => rfl
           | cons c cs => simp at p10
         have hfin : tidyF f = ⟨f.limit, [], f.app, f.lost⟩ := by rw [tidyF, ← hx, tidyK_nil])
      | (have hnb : needB (leastL (-1) f.app f.lost) c = true := by
           simp only [needB, Bool.and_eq_true, decide_eq_true_eq]
           omega
         have hfin : tidyF f = ⟨f.limit, c :: cs, f.app, f.lost⟩ := by rw [tidyF, ← hx, tidyK_stay hnb])
    refine wpT_exit rfl ?_
    refine wpT_seq ?_
    refine wpT_region (by kernel_rfl) (fun K hK => ?_)
    simp only [↓SP, SX, SW, TY, EN, sv_w, ↓reduceIte, reduceCtorEq, Nat.reduceEqDiff, Nat.reduceAdd, Nat.reduceLeDiff, Nat.reduceLT, Fan.av, e1, e2, hg10]
    refine hK _ _ ?_
    clear hK K
    refine wpT_ret ⟨.inr rfl, ?_⟩
    show optK (resA _ _ _ [.cell 2 49]) _
    simp only [SR, Option.map_some, Option.bind_some, ↓SP, SX, SW, TY, EN, sv_w, ↓reduceIte, reduceCtorEq, Nat.reduceEqDiff, Nat.reduceAdd, Nat.reduceLeDiff, Nat.reduceLT, Fan.av, hg10]
    simp only [↓SP, SX, SW, TY, EN, sv_w, ↓reduceIte, reduceCtorEq, Nat.reduceEqDiff, Nat.reduceAdd, Nat.reduceLeDiff, Nat.reduceLT, SR, Option.map_some, Option.bind_some, e2]
    rw [hfin]
    exact .refl _
theorem c86 (f : Fan) (hf : f.sm) (h1 : 1 ≤ f.app.length) (h2 : 1 ≤ f.lost.length) : CallV Tryz.prog (.fn (.func 86) [] []) [f.av] (Hp.empty 0) fun v h => ∃ i j k, v = .agg [I f.limit, .sl k f.kept.length 0 f.kept.length, .sl i f.app.length 0 f.app.length, .sl j f.lost.length 0 f.lost.length] ∧ (h.get i = some (.arr 3 1 (f.app.map I)) ∧ h.get j = some (.arr 4 1 (f.lost.map B)) ∧ h.get k = some (.arr 52 5 (f.kept.map Cyc.av))) ∧ i ≠ j ∧ i ≠ k ∧ j ≠ k := by
  refine callV_func Tryz.func86 rfl (by kernel_rfl) (by show _ ≤ 39; simp only [List.length_append, List.length_cons, List.length_nil]; decide) ?_
  have hk := hf.1
  have ha := hf.2.1
  have hb := hf.2.2.1
  have hapA : ∀ nid, apN 3 1 8 nid (f.app.map I) = some (.sl nid f.app.length 0 f.app.length, .new (.arr 3 1 (f.app.map I))) := fun nid => by
    have := apN_ne (e := 3) (c := 1) (by' := 8) (nid := nid) (xs := f.app.map I) (by intro h; rw [List.map_eq_nil_iff] at h; rw [h] at h1; simp at h1) (by simp only [List.length_map, maxLen]; omega) (by simp only [List.length_map]; omega)
    simpa only [List.length_map] using this
  have hapB : ∀ nid, apN 4 1 1 nid (f.lost.map B) = some (.sl nid f.lost.length 0 f.lost.length, .new (.arr 4 1 (f.lost.map B))) := fun nid => by
    have := apN_ne (e := 4) (c := 1) (by' := 1) (nid := nid) (xs := f.lost.map B) (by intro h; rw [List.map_eq_nil_iff] at h; rw [h] at h2; simp at h2) (by simp only [List.length_map, maxLen]; omega) (by simp only [List.length_map]; omega)
    simpa only [List.length_map] using this
  rw [Tryz.ntmps86]
  refine wpT_seq ?_
  refine wpT_region (by kernel_rfl) (fun K hK => ?_)
  simp only [↓SP, SX, SW, TY, EN, sv_w, ↓reduceIte, reduceCtorEq, Nat.reduceEqDiff, Nat.reduceAdd, Nat.reduceLeDiff, Nat.reduceLT, Fan.av]
  refine hK _ _ ?_
  clear hK K
  refine wpT_seq ?_
  refine wpT_region (by kernel_rfl) (fun K hK => ?_)
  simp only [↓SP, SX, SW, TY, EN, sv_w, ↓reduceIte, reduceCtorEq, Nat.reduceEqDiff, Nat.reduceAdd, Nat.reduceLeDiff, Nat.reduceLT, Fan.av]
  refine hK _ _ ?_
  clear hK K
  refine wpT_seq ?_
  refine wpT_seq ?_
  refine wpT_region (by kernel_rfl) (fun K hK => ?_)
  simp only [↓SP, SX, SW, TY, EN, sv_w, ↓reduceIte, reduceCtorEq, Nat.reduceEqDiff, Nat.reduceAdd, Nat.reduceLeDiff, Nat.reduceLT, Fan.av]
  refine hK _ _ ?_
  clear hK K
  refine wpT_block ?_
  refine wpT_loop ?_
  refine wpT_nilcell 2 1 52 5 (by simp only [↓SP, SX, SW, TY, EN, sv_w, ↓reduceIte, reduceCtorEq, Nat.reduceEqDiff, Nat.reduceAdd, Nat.reduceLeDiff, Nat.reduceLT]; rfl) (by rfl) (by rfl) ?_
  refine wpT_keep4 (i := 0) (j := 1) (k := 2) (l := 3) (o := .arr 49 4 [f.av]) (q := .arr 49 4 [.agg [I 0, .nil0, .nil0, .nil0]]) (r := .arr 49 4 [.agg [I f.limit, .sl 3 0 0 0, .nil0, .nil0]]) (s := .arr 52 5 []) (by rfl) (by rfl) (by rfl) (by rfl) ?_
  refine wpT_ind (fun (i : Nat) tm' h' => (∃ m, h' = Hp.of [(0, .arr 49 4 [f.av]), (1, .arr 49 4 [.agg [I 0, .nil0, .nil0, .nil0]]), (2, .arr 49 4 [.agg [I f.limit, .sl 3 i 0 i, .nil0, .nil0]]), (3, .arr 52 5 ((f.kept.take i).map Cyc.av))] (m + 4)) ∧ tm' 1 = .ptr 0 1 0 0 ∧ tm' 2 = .ptr 1 1 0 0 ∧ tm' 3 = .ptr 2 1 0 0 ∧ tm' 4 = I i ∧ i ≤ f.kept.length) (fun i => f.kept.length - i) ?_ 0 ⟨⟨0, rfl⟩, rfl, rfl, rfl, rfl, by omega⟩
  rintro i tm' _ ⟨⟨m, rfl⟩, e1, e2, e3, e4, hi⟩ IH
  refine wpT_inLoop ?_
  refine wpT_seq ?_
  refine wpT_seq ?_
  refine wpT_region (by kernel_rfl) (fun K hK => ?_)
  simp only [↓SP, SX, SW, TY, EN, sv_w, ↓reduceIte, reduceCtorEq, Nat.reduceEqDiff, Nat.reduceAdd, Nat.reduceLeDiff, Nat.reduceLT, Fan.av, e1, e4]
  refine hK _ _ ?_
  clear hK K
  refine wpT_if (by rfl) (fun hc12 => ?_) (fun hc12 => ?_)
  · skip
    have p12 := hc12
    try simp only [decide_eq_true_eq, decide_eq_false_iff_not, beq_iff_eq, bne_iff_ne, beq_eq_false_iff_ne, bne_eq_false_iff_eq, Bool.not_eq_true', Bool.not_eq_false'] at p12
    have hlt : i < f.kept.length := by omega
    have hg := at_map (f := Cyc.av) hlt
    have q1 : i + 1 ≤ maxLen := by simp only [maxLen]; omega
    have q2 : (i + 1) * 72 ≤ 140737488355328 := by omega
    have q4 : (f.kept.take (i + 1)).map Cyc.av = (f.kept.take i).map Cyc.av ++ [f.kept[i].av] := by rw [List.take_add_one, List.getElem?_eq_getElem hlt, List.map_append]; rfl
    refine wpT_skip ?_
    refine wpT_seq ?_
    refine wpT_block ?_
    refine wpT_drawn [(0, 7), (1, 7), (0, 8), (1, 8)] mixed (by kernel_rfl) (m := 12) rfl (fun K hK => ?_)
    simp only [↓SP, SX, SW, TY, EN, sv_w, ↓reduceIte, reduceCtorEq, Nat.reduceEqDiff, Nat.reduceAdd, Nat.reduceLeDiff, Nat.reduceLT, Fan.av, e1, e3, e4, hg, q1, q2, List.length_take, Nat.min_eq_left hi, List.cons_append, List.mem_singleton, bsO_one (v := f.kept[i].av) (c := 5) rfl rfl, hc12]
    refine Pu.callD (c87 f.kept[i] (hf.2.2.2 _ (List.getElem_mem hlt))) ?_
    simp only [↓SP, SX, SW, TY, EN, sv_w, ↓reduceIte, reduceCtorEq, Nat.reduceEqDiff, Nat.reduceAdd, Nat.reduceLeDiff, Nat.reduceLT, Fan.av, e1, e3, e4, hg, q1, q2, List.length_take, Nat.min_eq_left hi, List.cons_append, List.mem_singleton, bsO_one (v := f.kept[i].av) (c := 5) rfl rfl, hc12]
    refine hK _ _ ?_
    clear hK K
    refine wpT_inBlock ?_
    refine wpT_region (by kernel_rfl) (fun K hK => ?_)
    simp only [↓SP, SX, SW, TY, EN, sv_w, ↓reduceIte, reduceCtorEq, Nat.reduceEqDiff, Nat.reduceAdd, Nat.reduceLeDiff, Nat.reduceLT, Fan.av, e4, wrap64 (x := (i : Int) + 1) (by omega) (by omega), hc12]
    refine hK _ _ ?_
    clear hK K
    refine wpT_keep4 (i := 0) (j := 1) (k := 2) (l := 3) (o := .arr 49 4 [f.av]) (q := .arr 49 4 [.agg [I 0, .nil0, .nil0, .nil0]]) (r := .arr 49 4 [.agg [I f.limit, .sl 3 (i + 1) 0 (i + 1), .nil0, .nil0]]) (s := .arr 52 5 ((f.kept.take (i + 1)).map Cyc.av)) (by simp only [↓SP, SX, SW, TY, EN, sv_w, ↓reduceIte, reduceCtorEq, Nat.reduceEqDiff, Nat.reduceAdd, Nat.reduceLeDiff, Nat.reduceLT, Fan.av]) (by simp only [↓SP, SX, SW, TY, EN, sv_w, ↓reduceIte, reduceCtorEq, Nat.reduceEqDiff, Nat.reduceAdd, Nat.reduceLeDiff, Nat.reduceLT]) (by simp only [↓SP, SX, SW, TY, EN, sv_w, ↓reduceIte, reduceCtorEq, Nat.reduceEqDiff, Nat.reduceAdd, Nat.reduceLeDiff, Nat.reduceLT]) (by simp only [↓SP, SX, SW, TY, EN, sv_w, ↓reduceIte, reduceCtorEq, Nat.reduceEqDiff, Nat.reduceAdd, Nat.reduceLeDiff, Nat.reduceLT, q4]) ?_
    refine IH (i + 1) _ _ (by omega) ⟨⟨_, rfl⟩, by simp only [↓SP, SX, SW, TY, EN, sv_w, ↓reduceIte, reduceCtorEq, Nat.reduceEqDiff, Nat.reduceAdd, Nat.reduceLeDiff, Nat.reduceLT, e1], by simp only [↓SP, SX, SW, TY, EN, sv_w, ↓reduceIte, reduceCtorEq, Nat.reduceEqDiff, Nat.reduceAdd, Nat.reduceLeDiff, Nat.reduceLT, e2], by simp only [↓SP, SX, SW, TY, EN, sv_w, ↓reduceIte, reduceCtorEq, Nat.reduceEqDiff, Nat.reduceAdd, Nat.reduceLeDiff, Nat.reduceLT, e3], by simp only [↓SP, SX, SW, TY, EN, sv_w, ↓reduceIte, reduceCtorEq, Nat.reduceEqDiff, Nat.reduceAdd, Nat.reduceLeDiff, Nat.reduceLT, Int.natCast_add, Int.cast_ofNat_Int], by omega⟩
  · skip
    have p12 := hc12
    try simp only [decide_eq_true_eq, decide_eq_false_iff_not, beq_iff_eq, bne_iff_ne, beq_eq_false_iff_ne, bne_eq_false_iff_eq, Bool.not_eq_true', Bool.not_eq_false'] at p12
    have hie : i = f.kept.length := by omega
    subst hie
    refine wpT_exit rfl ?_
    refine wpT_seq ?_
    refine wpT_region (by kernel_rfl) (fun K hK => ?_)
    simp only [↓SP, SX, SW, TY, EN, sv_w, ↓reduceIte, reduceCtorEq, Nat.reduceEqDiff, Nat.reduceAdd, Nat.reduceLeDiff, Nat.reduceLT, Fan.av, e1, e3, apO_nil0 (int_c1 f.app), hapA, app_non, hc12]
    refine hK _ _ ?_
    clear hK K
    refine wpT_seq ?_
    refine wpT_region (by kernel_rfl) (fun K hK => ?_)
    simp only [↓SP, SX, SW, TY, EN, sv_w, ↓reduceIte, reduceCtorEq, Nat.reduceEqDiff, Nat.reduceAdd, Nat.reduceLeDiff, Nat.reduceLT, Fan.av, e1, e3, apO_nil0 (bool_c1 f.lost), hapB, app_non, hc12]
    refine hK _ _ ?_
    clear hK K
    refine wpT_seq ?_
    refine wpT_region (by kernel_rfl) (fun K hK => ?_)
    simp only [↓SP, SX, SW, TY, EN, sv_w, ↓reduceIte, reduceCtorEq, Nat.reduceEqDiff, Nat.reduceAdd, Nat.reduceLeDiff, Nat.reduceLT, Fan.av, e2, e3, hc12]
    refine hK _ _ ?_
    clear hK K
    refine wpT_ret ⟨.inr rfl, ?_⟩
    show optK (resA _ _ _ [.cell 2 49]) _
    simp only [SR, Option.map_some, Option.bind_some, ↓SP, SX, SW, TY, EN, sv_w, ↓reduceIte, reduceCtorEq, Nat.reduceEqDiff, Nat.reduceAdd, Nat.reduceLeDiff, Nat.reduceLT, Fan.av, hc12]
    simp only [↓SP, SX, SW, TY, EN, sv_w, ↓reduceIte, reduceCtorEq, Nat.reduceEqDiff, Nat.reduceAdd, Nat.reduceLeDiff, Nat.reduceLT, SR, Option.map_some, Option.bind_some, e2]
    exact ⟨m + 4, m + 5, 3, rfl, ⟨by simp only [↓SP, SX, SW, TY, EN, sv_w, ↓reduceIte, reduceCtorEq, Nat.reduceEqDiff, Nat.reduceAdd, Nat.reduceLeDiff, Nat.reduceLT], by simp only [↓SP, SX, SW, TY, EN, sv_w, ↓reduceIte, reduceCtorEq, Nat.reduceEqDiff, Nat.reduceAdd, Nat.reduceLeDiff, Nat.reduceLT], by simp only [↓SP, SX, SW, TY, EN, sv_w, ↓reduceIte, reduceCtorEq, Nat.reduceEqDiff, Nat.reduceAdd, Nat.reduceLeDiff, Nat.reduceLT, List.take_length]⟩, by omega, by omega, by omega⟩
end Go.Proofs.YtlmjpgmaefokdaaGreat
end

section
set_option linter.unusedSimpArgs false
set_option linter.unusedVariables false
namespace Go.Proofs.YtlmjpgmaefokdaaGreat
open Go.Proofs
set_option maxRecDepth 10000
def lostP (L : List Bool) (f : Fan) (i : Nat) : List Int := ((List.range i).filter fun j => decide (L[j]? = some true) && decide (f.lost[j]? = some false)).map fun (j : Nat) => (j : Int)
theorem lostP_succ (L : List Bool) (f : Fan) (i : Nat) : lostP L f (i + 1) = lostP L f i ++ if (decide (L[i]? = some true) && decide (f.lost[i]? = some false)) = true then [(i : Int)] else [] := by
  unfold lostP
  rw [List.range_succ, List.filter_append, List.map_append]
  congr 1
  by_cases h : (decide (L[i]? = some true) && decide (f.lost[i]? = some false)) = true <;> simp [h]
theorem lostP_length (L : List Bool) (f : Fan) (i : Nat) : (lostP L f i).length ≤ i := by
  unfold lostP
  rw [List.length_map]
  exact Nat.le_trans (List.length_filter_le _ _) (by simp)
theorem lostP_small (f : Fan) (i : Nat) : lostP f.lost f i = [] := by
  unfold lostP
  rw [List.map_eq_nil_iff, List.filter_eq_nil_iff]
  intro j _
  cases f.lost[j]? with
  | none => simp
  | some b => cases b <;> simp
theorem lostP_big {f : Fan} {c : Cyc} (hl : f.lost.length = f.app.length) : lostP (pushK f c).lost f f.app.length = lostN f (leastL (-1) f.app f.lost) f.app.length := by
  unfold lostP lostN
  congr 1
  refine List.filter_congr fun j hj => ?_
  have hj : j < f.app.length := by simpa using hj
  have hj' : j < f.lost.length := by omega
  have e : (pushK f c).lost[j]? = some (f.lost[j] || decide (f.app[j] = (leastL (-1) f.app f.lost))) := by
    simp only [pushK, lostW]
    rw [List.take_of_length_le (by omega), List.take_of_length_le (by omega), List.drop_eq_nil_of_le (by omega), List.append_nil, List.getElem?_zipWith, List.getElem?_eq_getElem hj', List.getElem?_eq_getElem hj]
  rw [lostQ_at hj hj', e, List.getElem?_eq_getElem hj']
  cases f.lost[j] <;> simp
theorem c22 (f : Fan) (c : Cyc) (hf : f.sm) (hcs : c.sm) : Pu Tryz.prog (.fn (.func 22) [] []) [f.av, c.av] (.tup [(pushF f c).av, .lst ((pushL f c).map I), I (pushE f c)]) := by
  refine pu_func Tryz.func22 rfl (by kernel_rfl) (by show _ ≤ 100; simp only [List.length_append, List.length_cons, List.length_nil]; decide) (by simp only [IDF, fan_idf, and_tt, implies_true]) (by simp only [IDF, and_tt, implies_true]) (by simp only [IDF, fan_idf, cyc_idf, and_tt, implies_true]) ?_
  rw [Tryz.ntmps22]
  refine wpT_seq ?_
  refine wpT_region (by kernel_rfl) (fun K hK => ?_)
  simp only [↓SP, SX, SW, TY, EN, sv_w, ↓reduceIte, reduceCtorEq, Nat.reduceEqDiff, Nat.reduceAdd, Nat.reduceLeDiff, Nat.reduceLT, Fan.av]
  refine hK _ _ ?_
  clear hK K
  refine wpT_seq ?_
  refine wpT_seq ?_
  refine wpT_region (by kernel_rfl) (fun K hK => ?_)
  simp only [↓SP, SX, SW, TY, EN, sv_w, ↓reduceIte, reduceCtorEq, Nat.reduceEqDiff, Nat.reduceAdd, Nat.reduceLeDiff, Nat.reduceLT, Fan.av]
  refine Pu.call (c81 f hf.ok) ?_
  simp only [↓SP, SX, SW, TY, EN, sv_w, ↓reduceIte, reduceCtorEq, Nat.reduceEqDiff, Nat.reduceAdd, Nat.reduceLeDiff, Nat.reduceLT, Fan.av]
  refine hK _ _ ?_
  clear hK K
  refine wpT_seq ?_
  refine wpT_region (by kernel_rfl) (fun K hK => ?_)
  simp only [↓SP, SX, SW, TY, EN, sv_w, ↓reduceIte, reduceCtorEq, Nat.reduceEqDiff, Nat.reduceAdd, Nat.reduceLeDiff, Nat.reduceLT, Fan.av]
  refine hK _ _ ?_
  clear hK K
  refine wpT_if (by rfl) (fun hc17 => ?_) (fun hc17 => ?_)
  · skip
    have p17 := hc17
    try simp only [decide_eq_true_eq, decide_eq_false_iff_not, beq_iff_eq, bne_iff_ne, beq_eq_false_iff_ne, bne_eq_false_iff_eq, Bool.not_eq_true', Bool.not_eq_false'] at p17
    have hx : pushE f c = chkF f := if_pos p17
    have hy := pushF_err hx p17
    refine wpT_seq ?_
    refine wpT_region (by kernel_rfl) (fun K hK => ?_)
    simp only [↓SP, SX, SW, TY, EN, sv_w, ↓reduceIte, reduceCtorEq, Nat.reduceEqDiff, Nat.reduceAdd, Nat.reduceLeDiff, Nat.reduceLT, Fan.av, hc17]
    refine hK _ _ ?_
    clear hK K
    refine wpT_ret ⟨.inr rfl, ?_⟩
    show optK (resA _ _ _ [.cell 4 49, .tmp 5, .tmp 6]) _
    simp only [SR, Option.map_some, Option.bind_some, ↓SP, SX, SW, TY, EN, sv_w, ↓reduceIte, reduceCtorEq, Nat.reduceEqDiff, Nat.reduceAdd, Nat.reduceLeDiff, Nat.reduceLT, Fan.av, hc17]
    rw [hy.1, hy.2, hx]
    exact Lend.tupL (LendL.cons fan0_lend (LendL.cons .nil0 (LendL.cons (.refl _) LendL.nil)))
  · skip
    have p17 := hc17
    try simp only [decide_eq_true_eq, decide_eq_false_iff_not, beq_iff_eq, bne_iff_ne, beq_eq_false_iff_ne, bne_eq_false_iff_eq, Bool.not_eq_true', Bool.not_eq_false'] at p17
    have hc : chkF f = 0 := by omega
    have h17 : ¬ chkF f ≠ 0 := by omega
    have hlen := chkF_len hc
    obtain ⟨ha1, ha0⟩ := chkF_ge hc
    have ha4 := chkF_few hc
    refine wpT_skip ?_
    refine wpT_seq ?_
    refine wpT_seq ?_
    refine wpT_region (by kernel_rfl) (fun K hK => ?_)
    simp only [↓SP, SX, SW, TY, EN, sv_w, ↓reduceIte, reduceCtorEq, Nat.reduceEqDiff, Nat.reduceAdd, Nat.reduceLeDiff, Nat.reduceLT, Fan.av, hc17]
    refine Pu.call (c82 f hf.ok hlen) ?_
    simp only [↓SP, SX, SW, TY, EN, sv_w, ↓reduceIte, reduceCtorEq, Nat.reduceEqDiff, Nat.reduceAdd, Nat.reduceLeDiff, Nat.reduceLT, Fan.av, hc17]
    refine hK _ _ ?_
    clear hK K
    refine wpT_if (by rfl) (fun hc22 => ?_) (fun hc22 => ?_)
    · skip
      have p22 := hc22
      try simp only [decide_eq_true_eq, decide_eq_false_iff_not, beq_iff_eq, bne_iff_ne, beq_eq_false_iff_ne, bne_eq_false_iff_eq, Bool.not_eq_true', Bool.not_eq_false'] at p22
      have hx : pushE f c = 17 := by rw [pushE, if_neg h17, if_pos p22]
      have hy := pushF_err hx (by omega)
      refine wpT_seq ?_
      refine wpT_region (by kernel_rfl) (fun K hK => ?_)
      simp only [↓SP, SX, SW, TY, EN, sv_w, ↓reduceIte, reduceCtorEq, Nat.reduceEqDiff, Nat.reduceAdd, Nat.reduceLeDiff, Nat.reduceLT, Fan.av, hc17, hc22]
      refine hK _ _ ?_
      clear hK K
      refine wpT_ret ⟨.inr rfl, ?_⟩
      show optK (resA _ _ _ [.cell 4 49, .tmp 5, .tmp 6]) _
      simp only [SR, Option.map_some, Option.bind_some, ↓SP, SX, SW, TY, EN, sv_w, ↓reduceIte, reduceCtorEq, Nat.reduceEqDiff, Nat.reduceAdd, Nat.reduceLeDiff, Nat.reduceLT, Fan.av, hc17, hc22]
      rw [hy.1, hy.2, hx]
      exact Lend.tupL (LendL.cons fan0_lend (LendL.cons .nil0 (LendL.cons (.refl _) LendL.nil)))
    · skip
      have p22 := hc22
      try simp only [decide_eq_true_eq, decide_eq_false_iff_not, beq_iff_eq, bne_iff_ne, beq_eq_false_iff_ne, bne_eq_false_iff_eq, Bool.not_eq_true', Bool.not_eq_false'] at p22
      refine wpT_skip ?_
      refine wpT_seq ?_
      refine wpT_seq ?_
      refine wpT_drawn [(0, 1)] mixed (by kernel_rfl) (m := 4) rfl (fun K hK => ?_)
      simp only [↓SP, SX, SW, TY, EN, sv_w, ↓reduceIte, reduceCtorEq, Nat.reduceEqDiff, Nat.reduceAdd, Nat.reduceLeDiff, Nat.reduceLT, Fan.av, hc17, hc22]
      refine Pu.callD c84 ?_
      simp only [↓SP, SX, SW, TY, EN, sv_w, ↓reduceIte, reduceCtorEq, Nat.reduceEqDiff, Nat.reduceAdd, Nat.reduceLeDiff, Nat.reduceLT, Fan.av, hc17, hc22]
      refine Pu.callD (c83 c most hcs.ok (by decide)) ?_
      simp only [↓SP, SX, SW, TY, EN, sv_w, ↓reduceIte, reduceCtorEq, Nat.reduceEqDiff, Nat.reduceAdd, Nat.reduceLeDiff, Nat.reduceLT, Fan.av, hc17, hc22]
      refine hK _ _ ?_
      clear hK K
      refine wpT_seq ?_
      refine wpT_region (by kernel_rfl) (fun K hK => ?_)
      simp only [↓SP, SX, SW, TY, EN, sv_w, ↓reduceIte, reduceCtorEq, Nat.reduceEqDiff, Nat.reduceAdd, Nat.reduceLeDiff, Nat.reduceLT, Fan.av, hc17, hc22]
      refine hK _ _ ?_
      clear hK K
      refine wpT_if (by rfl) (fun hc28 => ?_) (fun hc28 => ?_)
      · skip
        have p28 := hc28
        try simp only [decide_eq_true_eq, decide_eq_false_iff_not, beq_iff_eq, bne_iff_ne, beq_eq_false_iff_ne, bne_eq_false_iff_eq, Bool.not_eq_true', Bool.not_eq_false'] at p28
        have hx : pushE f c = cycE c most := by rw [pushE, if_neg h17, if_neg p22, if_pos p28]
        have hy := pushF_err hx p28
        refine wpT_seq ?_
        refine wpT_region (by kernel_rfl) (fun K hK => ?_)
        simp only [↓SP, SX, SW, TY, EN, sv_w, ↓reduceIte, reduceCtorEq, Nat.reduceEqDiff, Nat.reduceAdd, Nat.reduceLeDiff, Nat.reduceLT, Fan.av, hc17, hc22, hc28]
        refine hK _ _ ?_
        clear hK K
        refine wpT_ret ⟨.inr rfl, ?_⟩
        show optK (resA _ _ _ [.cell 4 49, .tmp 5, .tmp 6]) _
        simp only [SR, Option.map_some, Option.bind_some, ↓SP, SX, SW, TY, EN, sv_w, ↓reduceIte, reduceCtorEq, Nat.reduceEqDiff, Nat.reduceAdd, Nat.reduceLeDiff, Nat.reduceLT, Fan.av, hc17, hc22, hc28]
        rw [hy.1, hy.2, hx]
        exact Lend.tupL (LendL.cons fan0_lend (LendL.cons .nil0 (LendL.cons (.refl _) LendL.nil)))
      · skip
        have p28 := hc28
        try simp only [decide_eq_true_eq, decide_eq_false_iff_not, beq_iff_eq, bne_iff_ne, beq_eq_false_iff_ne, bne_eq_false_iff_eq, Bool.not_eq_true', Bool.not_eq_false'] at p28
        have h28 : ¬ cycE c most ≠ 0 := by omega
        refine wpT_skip ?_
        refine wpT_seq ?_
        refine wpT_seq ?_
        refine wpT_drawn [(0, 3), (1, 3)] mixed (by kernel_rfl) (m := 5) rfl (fun K hK => ?_)
        simp only [↓SP, SX, SW, TY, EN, sv_w, ↓reduceIte, reduceCtorEq, Nat.reduceEqDiff, Nat.reduceAdd, Nat.reduceLeDiff, Nat.reduceLT, Fan.av, Cyc.av, hc17, hc22, hc28]
        refine Pu.callD (c85 f hf.ok) ?_
        simp only [↓SP, SX, SW, TY, EN, sv_w, ↓reduceIte, reduceCtorEq, Nat.reduceEqDiff, Nat.reduceAdd, Nat.reduceLeDiff, Nat.reduceLT, Fan.av, Cyc.av, hc17, hc22, hc28]
        refine hK _ _ ?_
        clear hK K
        refine wpT_if (by rfl) (fun hc35 => ?_) (fun hc35 => ?_)
        · skip
          have p35 := hc35
          try simp only [decide_eq_true_eq, decide_eq_false_iff_not, beq_iff_eq, bne_iff_ne, beq_eq_false_iff_ne, bne_eq_false_iff_eq, Bool.not_eq_true', Bool.not_eq_false'] at p35
          have hx : pushE f c = 15 := by rw [pushE, if_neg h17, if_neg p22, if_neg h28, if_pos p35]
          have hy := pushF_err hx (by omega)
          refine wpT_seq ?_
          refine wpT_region (by kernel_rfl) (fun K hK => ?_)
          simp only [↓SP, SX, SW, TY, EN, sv_w, ↓reduceIte, reduceCtorEq, Nat.reduceEqDiff, Nat.reduceAdd, Nat.reduceLeDiff, Nat.reduceLT, Fan.av, hc17, hc22, hc28, hc35]
          refine hK _ _ ?_
          clear hK K
          refine wpT_ret ⟨.inr rfl, ?_⟩
          show optK (resA _ _ _ [.cell 4 49, .tmp 5, .tmp 6]) _
          simp only [SR, Option.map_some, Option.bind_some, ↓SP, SX, SW, TY, EN, sv_w, ↓reduceIte, reduceCtorEq, Nat.reduceEqDiff, Nat.reduceAdd, Nat.reduceLeDiff, Nat.reduceLT, Fan.av, hc17, hc22, hc28, hc35]
          rw [hy.1, hy.2, hx]
          exact Lend.tupL (LendL.cons fan0_lend (LendL.cons .nil0 (LendL.cons (.refl _) LendL.nil)))
        · skip
          have p35 := hc35
          try simp only [decide_eq_true_eq, decide_eq_false_iff_not, beq_iff_eq, bne_iff_ne, beq_eq_false_iff_ne, bne_eq_false_iff_eq, Bool.not_eq_true', Bool.not_eq_false'] at p35
          have hx : pushE f c = 0 := by rw [pushE, if_neg h17, if_neg p22, if_neg h28, if_neg (by omega)]
          have hkl := hf.1
          have q1 : f.kept.length + 1 ≤ maxLen := by simp only [maxLen]; omega
          have q2 : (f.kept.length + 1) * 72 ≤ 140737488355328 := by omega
          refine wpT_skip ?_
          refine wpT_seq ?_
          refine wpT_region (by kernel_rfl) (fun K hK => ?_)
          simp only [↓SP, SX, SW, TY, EN, sv_w, ↓reduceIte, reduceCtorEq, Nat.reduceEqDiff, Nat.reduceAdd, Nat.reduceLeDiff, Nat.reduceLT, Fan.av, hc17, hc22, hc28, hc35]
          refine cop_frame (c86 f hf ha1 (by omega)) ?_
          simp only [↓SP, SX, SW, TY, EN, sv_w, ↓reduceIte, reduceCtorEq, Nat.reduceEqDiff, Nat.reduceAdd, Nat.reduceLeDiff, Nat.reduceLT, Fan.av, hc17, hc22, hc28, hc35]
          refine hK _ _ ?_
          clear hK K
          refine wpT_seq ?_
          refine wpT_drawn [(0, 3), (1, 3), (0, 4), (1, 4)] mixed (by kernel_rfl) (m := 8) rfl (fun K hK => ?_)
          simp only [↓SP, SX, SW, TY, EN, sv_w, ↓reduceIte, reduceCtorEq, Nat.reduceEqDiff, Nat.reduceAdd, Nat.reduceLeDiff, Nat.reduceLT, Fan.av, q1, q2, List.cons_append, List.mem_singleton, bsO_one (v := c.av) (c := 5) rfl rfl, hc17, hc22, hc28, hc35]
          refine Pu.callD (c87 c hcs) ?_
          simp only [↓SP, SX, SW, TY, EN, sv_w, ↓reduceIte, reduceCtorEq, Nat.reduceEqDiff, Nat.reduceAdd, Nat.reduceLeDiff, Nat.reduceLT, Fan.av, q1, q2, List.cons_append, List.mem_singleton, bsO_one (v := c.av) (c := 5) rfl rfl, hc17, hc22, hc28, hc35]
          refine hK _ _ ?_
          clear hK K
          refine wpT_seq ?_
          refine wpT_block ?_
          refine wpT_loop ?_
          refine wpT_lendB [(0, .arr 49 4 [.agg [I f.limit, .lst (f.kept.map Cyc.av), .lst (f.app.map I), .lst (f.lost.map B)]]), (2, .arr 49 4 [.agg [I 0, .nil0, .nil0, .nil0]]), (14, .arr 4 1 (f.lost.map B))] [12, 13] (j := 15) (E := 49) (s := 4) (cs := [I f.limit, .sl 12 (f.kept.length + 1) 0 (f.kept.length + 1), .sl 13 f.app.length 0 f.app.length, .sl 14 f.lost.length 0 f.lost.length]) (cs' := [I f.limit, .lst ((f.kept ++ [c]).map Cyc.av), .lst (f.app.map I), .sl 14 f.lost.length 0 f.lost.length]) (by simp only [↓SP, SX, SW, TY, EN, sv_w, ↓reduceIte, reduceCtorEq, Nat.reduceEqDiff, Nat.reduceAdd, Nat.reduceLeDiff, Nat.reduceLT, Fan.av]) (by simp only [↓SP, SX, SW, TY, EN, sv_w, ↓reduceIte, reduceCtorEq, Nat.reduceEqDiff, Nat.reduceAdd, Nat.reduceLeDiff, Nat.reduceLT]) (by rfl) (by rfl) (LendL.cons (.refl _) (LendL.cons (Lend.sl0 (E := 52) (s := 5) (by simp only [↓SP, SX, SW, TY, EN, sv_w, ↓reduceIte, reduceCtorEq, Nat.reduceEqDiff, Nat.reduceAdd, Nat.reduceLeDiff, Nat.reduceLT, List.map_append]) (by simp) (cycs_okc _)) (LendL.cons (Lend.sl0 (E := 3) (s := 1) (by simp only [↓SP, SX, SW, TY, EN, sv_w, ↓reduceIte, reduceCtorEq, Nat.reduceEqDiff, Nat.reduceAdd, Nat.reduceLeDiff, Nat.reduceLT]) (by simp) (int_okc _)) (LendL.cons (.refl _) LendL.nil)))) ?_
          refine wpT_ind (fun (ph : Nat) tm' h' => ∃ (Kx : List Cyc) (LV : AV) (Lx : List Bool) (ex : List (Nat × Ob)), (∃ m, h' = Hp.of ((15, .arr 49 4 [.agg [I f.limit, .lst (Kx.map Cyc.av), .lst (f.app.map I), LV]]) :: (0, .arr 49 4 [.agg [I f.limit, .lst (f.kept.map Cyc.av), .lst (f.app.map I), .lst (f.lost.map B)]]) :: (2, .arr 49 4 [.agg [I 0, .nil0, .nil0, .nil0]]) :: ex) (m + 24)) ∧ tm' 2 = .ptr 0 1 0 0 ∧ tm' 4 = .ptr 2 1 0 0 ∧ tm' 9 = .ptr 15 1 0 0 ∧
            ((ph = 0 ∧ Kx = f.kept ++ [c] ∧ LV = .sl 14 f.lost.length 0 f.lost.length ∧ Lx = f.lost ∧ ex = [(14, .arr 4 1 (f.lost.map B))]) ∨ (ph = 1 ∧ (f.kept.length : Int) + 1 > f.limit ∧ Kx = (tidyF (pushK f c)).kept ∧ LV = .lst ((pushK f c).lost.map B) ∧ Lx = (pushK f c).lost ∧ ex = []))) (fun ph => 1 - ph) ?_ 0 ⟨f.kept ++ [c], .sl 14 f.lost.length 0 f.lost.length, f.lost, [(14, .arr 4 1 (f.lost.map B))], ⟨0, rfl⟩, rfl, rfl, rfl, .inl ⟨rfl, rfl, rfl, rfl, rfl⟩⟩
          rintro ph tm' _ ⟨Kx, LV, Lx, ex, ⟨m, rfl⟩, e2, e4, e9, hph⟩ IH
          refine wpT_inLoop ?_
          refine wpT_seq ?_
          refine wpT_seq ?_
          refine wpT_region (by kernel_rfl) (fun K hK => ?_)
          simp only [↓SP, SX, SW, TY, EN, sv_w, ↓reduceIte, reduceCtorEq, Nat.reduceEqDiff, Nat.reduceAdd, Nat.reduceLeDiff, Nat.reduceLT, Fan.av, e9]
          refine hK _ _ ?_
          clear hK K
          refine wpT_if (by rfl) (fun hc51 => ?_) (fun hc51 => ?_)
          · skip
            have p51 := hc51
            try simp only [decide_eq_true_eq, decide_eq_false_iff_not, beq_iff_eq, bne_iff_ne, beq_eq_false_iff_ne, bne_eq_false_iff_eq, Bool.not_eq_true', Bool.not_eq_false'] at p51
            have hph0 := hph.resolve_right (fun ⟨_, hm, hK, _⟩ => by
              subst hK
              have := push_once c hc hm
              omega)
            obtain ⟨rfl, rfl, rfl, rfl, rfl⟩ := hph0
            have hbig : (f.kept.length : Int) + 1 > f.limit := by simpa using p51
            clear hph
            have hF0 : Fan.ok ⟨f.limit, f.kept ++ [c], f.app, f.lost⟩ := ⟨by simp; omega, hf.ok.2.1, hf.ok.2.2.1, fun x hx => by
              rcases List.mem_append.1 hx with h | h
              · exact hf.ok.2.2.2 x h
              · simp at h
                subst h
                exact hcs.ok⟩
            have hPK : (pushK f c).ok := ⟨hF0.1, hF0.2.1, by simp only [pushK]; rw [lostW_length hlen (Nat.le_refl _)]; exact hF0.2.1, hF0.2.2.2⟩
            have hPKl : (pushK f c).lost.length = (pushK f c).app.length := lostW_length hlen (Nat.le_refl _)
            refine wpT_skip ?_
            refine wpT_block ?_
            refine wpT_seq ?_
            refine wpT_region (by kernel_rfl) (fun K hK => ?_)
            simp only [↓SP, SX, SW, TY, EN, sv_w, ↓reduceIte, reduceCtorEq, Nat.reduceEqDiff, Nat.reduceAdd, Nat.reduceLeDiff, Nat.reduceLT, Fan.av, e9, hc51]
            refine Pu.lent (c82 ⟨f.limit, f.kept ++ [c], f.app, f.lost⟩ hF0 hlen) (.int _ _) (.refl _) (LendL.cons (Lend.aggL (LendL.cons (.refl _) (LendL.cons (.refl _) (LendL.cons (.refl _) (LendL.cons (Lend.sl0 (E := 4) (s := 1) (by simp only [↓SP, SX, SW, TY, EN, sv_w, ↓reduceIte, reduceCtorEq, Nat.reduceEqDiff, Nat.reduceAdd, Nat.reduceLeDiff, Nat.reduceLT]) (by simp) (bool_okc _)) LendL.nil))))) LendL.nil) ?_
            simp only [↓SP, SX, SW, TY, EN, sv_w, ↓reduceIte, reduceCtorEq, Nat.reduceEqDiff, Nat.reduceAdd, Nat.reduceLeDiff, Nat.reduceLT, Fan.av, e9, hc51]
            refine hK _ _ ?_
            clear hK K
            refine wpT_seq ?_
            refine wpT_seq ?_
            refine wpT_region (by kernel_rfl) (fun K hK => ?_)
            simp only [↓SP, SX, SW, TY, EN, sv_w, ↓reduceIte, reduceCtorEq, Nat.reduceEqDiff, Nat.reduceAdd, Nat.reduceLeDiff, Nat.reduceLT, Fan.av, hc51]
            refine hK _ _ ?_
            clear hK K
            refine wpT_block ?_
            refine wpT_loop ?_
            refine wpT_keep4 (i := 15) (j := 0) (k := 2) (l := 14) (o := .arr 49 4 [.agg [I f.limit, .lst ((f.kept ++ [c]).map Cyc.av), .lst (f.app.map I), .sl 14 f.lost.length 0 f.lost.length]]) (q := .arr 49 4 [.agg [I f.limit, .lst (f.kept.map Cyc.av), .lst (f.app.map I), .lst (f.lost.map B)]]) (r := .arr 49 4 [.agg [I 0, .nil0, .nil0, .nil0]]) (s := .arr 4 1 (f.lost.map B)) (by simp only [↓SP, SX, SW, TY, EN, sv_w, ↓reduceIte, reduceCtorEq, Nat.reduceEqDiff, Nat.reduceAdd, Nat.reduceLeDiff, Nat.reduceLT]) (by simp only [↓SP, SX, SW, TY, EN, sv_w, ↓reduceIte, reduceCtorEq, Nat.reduceEqDiff, Nat.reduceAdd, Nat.reduceLeDiff, Nat.reduceLT]) (by simp only [↓SP, SX, SW, TY, EN, sv_w, ↓reduceIte, reduceCtorEq, Nat.reduceEqDiff, Nat.reduceAdd, Nat.reduceLeDiff, Nat.reduceLT]) (by simp only [↓SP, SX, SW, TY, EN, sv_w, ↓reduceIte, reduceCtorEq, Nat.reduceEqDiff, Nat.reduceAdd, Nat.reduceLeDiff, Nat.reduceLT]) ?_
            refine wpT_ind (fun (i : Nat) tm2 h' => (∃ m, h' = Hp.of [(15, .arr 49 4 [.agg [I f.limit, .lst ((f.kept ++ [c]).map Cyc.av), .lst (f.app.map I), .sl 14 f.lost.length 0 f.lost.length]]), (0, .arr 49 4 [.agg [I f.limit, .lst (f.kept.map Cyc.av), .lst (f.app.map I), .lst (f.lost.map B)]]), (2, .arr 49 4 [.agg [I 0, .nil0, .nil0, .nil0]]), (14, .arr 4 1 ((lostW f (leastL (-1) f.app f.lost) i).map B))] (m + 24)) ∧ tm2 2 = .ptr 0 1 0 0 ∧ tm2 4 = .ptr 2 1 0 0 ∧ tm2 9 = .ptr 15 1 0 0 ∧ tm2 10 = I (leastL (-1) f.app f.lost) ∧ tm2 11 = I i ∧ i ≤ f.app.length) (fun i => f.app.length - i) ?_ 0 ⟨⟨m, by rw [lostW_zero]; rfl⟩, by simp only [↓SP, SX, SW, TY, EN, sv_w, ↓reduceIte, reduceCtorEq, Nat.reduceEqDiff, Nat.reduceAdd, Nat.reduceLeDiff, Nat.reduceLT, e2], by simp only [↓SP, SX, SW, TY, EN, sv_w, ↓reduceIte, reduceCtorEq, Nat.reduceEqDiff, Nat.reduceAdd, Nat.reduceLeDiff, Nat.reduceLT, e4], by simp only [↓SP, SX, SW, TY, EN, sv_w, ↓reduceIte, reduceCtorEq, Nat.reduceEqDiff, Nat.reduceAdd, Nat.reduceLeDiff, Nat.reduceLT, e9], by simp only [↓SP, SX, SW, TY, EN, sv_w, ↓reduceIte, reduceCtorEq, Nat.reduceEqDiff, Nat.reduceAdd, Nat.reduceLeDiff, Nat.reduceLT], by simp only [↓SP, SX, SW, TY, EN, sv_w, ↓reduceIte, reduceCtorEq, Nat.reduceEqDiff, Nat.reduceAdd, Nat.reduceLeDiff, Nat.reduceLT]; rfl, by omega⟩
            clear e2 e4 e9
            rintro i tm2 _ ⟨⟨m2, rfl⟩, e2, e4, e9, e10, e11, hi⟩ IH2
            refine wpT_inLoop ?_
            refine wpT_seq ?_
            refine wpT_seq ?_
            refine wpT_region (by kernel_rfl) (fun K hK => ?_)
            simp only [↓SP, SX, SW, TY, EN, sv_w, ↓reduceIte, reduceCtorEq, Nat.reduceEqDiff, Nat.reduceAdd, Nat.reduceLeDiff, Nat.reduceLT, Fan.av, e9, e11]
            refine hK _ _ ?_
            clear hK K
            refine wpT_if (by rfl) (fun hc58 => ?_) (fun hc58 => ?_)
            · skip
              have p58 := hc58
              try simp only [decide_eq_true_eq, decide_eq_false_iff_not, beq_iff_eq, bne_iff_ne, beq_eq_false_iff_ne, bne_eq_false_iff_eq, Bool.not_eq_true', Bool.not_eq_false'] at p58
              have hlt : i < f.app.length := by omega
              have hlt' : i < f.lost.length := by omega
              have hg := at_map (f := I) hlt
              have hwl := lostW_length (n := (leastL (-1) f.app f.lost)) hlen (i := i) (by omega)
              have hWa : ((lostW f (leastL (-1) f.app f.lost) i).map B)[i]? = some (B f.lost[i]) := by rw [List.getElem?_map, lostW_at hlen hlt, List.getElem?_eq_getElem hlt']; rfl
              have hkz : (i : Int) < (f.lost.length : Int) := by omega
              have hkz0 : (0 : Int) ≤ (i : Int) := by omega
              have hwl' : (lostW f (leastL (-1) f.app f.lost) i).length = f.lost.length := by omega
              refine wpT_skip ?_
              refine wpT_seq ?_
              refine wpT_block ?_
              refine wpT_seq ?_
              refine wpT_region (by kernel_rfl) (fun K hK => ?_)
              simp only [↓SP, SX, SW, TY, EN, sv_w, ↓reduceIte, reduceCtorEq, Nat.reduceEqDiff, Nat.reduceAdd, Nat.reduceLeDiff, Nat.reduceLT, Fan.av, e9, e10, e11, hg, hc58]
              refine hK _ _ ?_
              clear hK K
              refine wpT_if (by rfl) (fun hc67 => ?_) (fun hc67 => ?_)
              · skip
                have p67 := hc67
                try simp only [decide_eq_true_eq, decide_eq_false_iff_not, beq_iff_eq, bne_iff_ne, beq_eq_false_iff_ne, bne_eq_false_iff_eq, Bool.not_eq_true', Bool.not_eq_false'] at p67
                have hW1 : lostW f (leastL (-1) f.app f.lost) (i + 1) = (lostW f (leastL (-1) f.app f.lost) i).set i true := by rw [lostW_succ hlen hlt]; simp_all
                have hWn : (lostW f (leastL (-1) f.app f.lost) (i + 1)).map B = ((lostW f (leastL (-1) f.app f.lost) i).map B).set i (.bool true) := by rw [hW1, List.map_set]
                refine wpT_region (by kernel_rfl) (fun K hK => ?_)
                simp only [↓SP, SX, SW, TY, EN, sv_w, ↓reduceIte, reduceCtorEq, Nat.reduceEqDiff, Nat.reduceAdd, Nat.reduceLeDiff, Nat.reduceLT, Fan.av, e9, e11, stO_arr, app_set, Option.bind_some, Nat.le_refl, hWa, hkz, hkz0, hwl', Int.toNat_natCast, hc58, hc67]
                refine hK _ _ ?_
                clear hK K
                refine wpT_inBlock ?_
                refine wpT_region (by kernel_rfl) (fun K hK => ?_)
                simp only [↓SP, SX, SW, TY, EN, sv_w, ↓reduceIte, reduceCtorEq, Nat.reduceEqDiff, Nat.reduceAdd, Nat.reduceLeDiff, Nat.reduceLT, Fan.av, e11, wrap64 (x := (i : Int) + 1) (by omega) (by omega), hc58, hc67]
                refine hK _ _ ?_
                clear hK K
                refine wpT_keep4 (i := 15) (j := 0) (k := 2) (l := 14) (o := .arr 49 4 [.agg [I f.limit, .lst ((f.kept ++ [c]).map Cyc.av), .lst (f.app.map I), .sl 14 f.lost.length 0 f.lost.length]]) (q := .arr 49 4 [.agg [I f.limit, .lst (f.kept.map Cyc.av), .lst (f.app.map I), .lst (f.lost.map B)]]) (r := .arr 49 4 [.agg [I 0, .nil0, .nil0, .nil0]]) (s := .arr 4 1 ((lostW f (leastL (-1) f.app f.lost) (i + 1)).map B)) (by simp only [↓SP, SX, SW, TY, EN, sv_w, ↓reduceIte, reduceCtorEq, Nat.reduceEqDiff, Nat.reduceAdd, Nat.reduceLeDiff, Nat.reduceLT]) (by simp only [↓SP, SX, SW, TY, EN, sv_w, ↓reduceIte, reduceCtorEq, Nat.reduceEqDiff, Nat.reduceAdd, Nat.reduceLeDiff, Nat.reduceLT]) (by simp only [↓SP, SX, SW, TY, EN, sv_w, ↓reduceIte, reduceCtorEq, Nat.reduceEqDiff, Nat.reduceAdd, Nat.reduceLeDiff, Nat.reduceLT]) (by simp only [↓SP, SX, SW, TY, EN, sv_w, ↓reduceIte, reduceCtorEq, Nat.reduceEqDiff, Nat.reduceAdd, Nat.reduceLeDiff, Nat.reduceLT, hWn]) ?_
                refine IH2 (i + 1) _ _ (by omega) ⟨⟨_, rfl⟩, by simp only [↓SP, SX, SW, TY, EN, sv_w, ↓reduceIte, reduceCtorEq, Nat.reduceEqDiff, Nat.reduceAdd, Nat.reduceLeDiff, Nat.reduceLT, e2], by simp only [↓SP, SX, SW, TY, EN, sv_w, ↓reduceIte, reduceCtorEq, Nat.reduceEqDiff, Nat.reduceAdd, Nat.reduceLeDiff, Nat.reduceLT, e4], by simp only [↓SP, SX, SW, TY, EN, sv_w, ↓reduceIte, reduceCtorEq, Nat.reduceEqDiff, Nat.reduceAdd, Nat.reduceLeDiff, Nat.reduceLT, e9], by simp only [↓SP, SX, SW, TY, EN, sv_w, ↓reduceIte, reduceCtorEq, Nat.reduceEqDiff, Nat.reduceAdd, Nat.reduceLeDiff, Nat.reduceLT, e10], by simp only [↓SP, SX, SW, TY, EN, sv_w, ↓reduceIte, reduceCtorEq, Nat.reduceEqDiff, Nat.reduceAdd, Nat.reduceLeDiff, Nat.reduceLT, Int.natCast_add, Int.cast_ofNat_Int], by omega⟩
              · skip
                have p67 := hc67
                try simp only [decide_eq_true_eq, decide_eq_false_iff_not, beq_iff_eq, bne_iff_ne, beq_eq_false_iff_ne, bne_eq_false_iff_eq, Bool.not_eq_true', Bool.not_eq_false'] at p67
                have hW1 : lostW f (leastL (-1) f.app f.lost) (i + 1) = lostW f (leastL (-1) f.app f.lost) i := lostW_same hlen hlt (by simp_all)
                have hWn : (lostW f (leastL (-1) f.app f.lost) (i + 1)).map B = (lostW f (leastL (-1) f.app f.lost) i).map B := by rw [hW1]
                refine wpT_skip ?_
                refine wpT_inBlock ?_
                refine wpT_region (by kernel_rfl) (fun K hK => ?_)
                simp only [↓SP, SX, SW, TY, EN, sv_w, ↓reduceIte, reduceCtorEq, Nat.reduceEqDiff, Nat.reduceAdd, Nat.reduceLeDiff, Nat.reduceLT, Fan.av, e11, wrap64 (x := (i : Int) + 1) (by omega) (by omega), hc58, hc67]
                refine hK _ _ ?_
                clear hK K
                refine wpT_keep4 (i := 15) (j := 0) (k := 2) (l := 14) (o := .arr 49 4 [.agg [I f.limit, .lst ((f.kept ++ [c]).map Cyc.av), .lst (f.app.map I), .sl 14 f.lost.length 0 f.lost.length]]) (q := .arr 49 4 [.agg [I f.limit, .lst (f.kept.map Cyc.av), .lst (f.app.map I), .lst (f.lost.map B)]]) (r := .arr 49 4 [.agg [I 0, .nil0, .nil0, .nil0]]) (s := .arr 4 1 ((lostW f (leastL (-1) f.app f.lost) (i + 1)).map B)) (by simp only [↓SP, SX, SW, TY, EN, sv_w, ↓reduceIte, reduceCtorEq, Nat.reduceEqDiff, Nat.reduceAdd, Nat.reduceLeDiff, Nat.reduceLT]) (by simp only [↓SP, SX, SW, TY, EN, sv_w, ↓reduceIte, reduceCtorEq, Nat.reduceEqDiff, Nat.reduceAdd, Nat.reduceLeDiff, Nat.reduceLT]) (by simp only [↓SP, SX, SW, TY, EN, sv_w, ↓reduceIte, reduceCtorEq, Nat.reduceEqDiff, Nat.reduceAdd, Nat.reduceLeDiff, Nat.reduceLT]) (by simp only [↓SP, SX, SW, TY, EN, sv_w, ↓reduceIte, reduceCtorEq, Nat.reduceEqDiff, Nat.reduceAdd, Nat.reduceLeDiff, Nat.reduceLT, hWn]) ?_
                refine IH2 (i + 1) _ _ (by omega) ⟨⟨_, rfl⟩, by simp only [↓SP, SX, SW, TY, EN, sv_w, ↓reduceIte, reduceCtorEq, Nat.reduceEqDiff, Nat.reduceAdd, Nat.reduceLeDiff, Nat.reduceLT, e2], by simp only [↓SP, SX, SW, TY, EN, sv_w, ↓reduceIte, reduceCtorEq, Nat.reduceEqDiff, Nat.reduceAdd, Nat.reduceLeDiff, Nat.reduceLT, e4], by simp only [↓SP, SX, SW, TY, EN, sv_w, ↓reduceIte, reduceCtorEq, Nat.reduceEqDiff, Nat.reduceAdd, Nat.reduceLeDiff, Nat.reduceLT, e9], by simp only [↓SP, SX, SW, TY, EN, sv_w, ↓reduceIte, reduceCtorEq, Nat.reduceEqDiff, Nat.reduceAdd, Nat.reduceLeDiff, Nat.reduceLT, e10], by simp only [↓SP, SX, SW, TY, EN, sv_w, ↓reduceIte, reduceCtorEq, Nat.reduceEqDiff, Nat.reduceAdd, Nat.reduceLeDiff, Nat.reduceLT, Int.natCast_add, Int.cast_ofNat_Int], by omega⟩
            · skip
              have p58 := hc58
              try simp only [decide_eq_true_eq, decide_eq_false_iff_not, beq_iff_eq, bne_iff_ne, beq_eq_false_iff_ne, bne_eq_false_iff_eq, Bool.not_eq_true', Bool.not_eq_false'] at p58
              have hie : i = f.app.length := by omega
              subst hie
              refine wpT_lendB [(0, .arr 49 4 [.agg [I f.limit, .lst (f.kept.map Cyc.av), .lst (f.app.map I), .lst (f.lost.map B)]]), (2, .arr 49 4 [.agg [I 0, .nil0, .nil0, .nil0]])] [14] (j := 15) (E := 49) (s := 4) (cs := [I f.limit, .lst ((f.kept ++ [c]).map Cyc.av), .lst (f.app.map I), .sl 14 f.lost.length 0 f.lost.length]) (cs' := [I f.limit, .lst ((f.kept ++ [c]).map Cyc.av), .lst (f.app.map I), .lst ((pushK f c).lost.map B)]) (by simp only [↓SP, SX, SW, TY, EN, sv_w, ↓reduceIte, reduceCtorEq, Nat.reduceEqDiff, Nat.reduceAdd, Nat.reduceLeDiff, Nat.reduceLT]) (by simp only [↓SP, SX, SW, TY, EN, sv_w, ↓reduceIte, reduceCtorEq, Nat.reduceEqDiff, Nat.reduceAdd, Nat.reduceLeDiff, Nat.reduceLT]) (by rfl) (by rfl) (LendL.cons (.refl _) (LendL.cons (.refl _) (LendL.cons (.refl _) (LendL.cons (Lend.sl0 (E := 4) (s := 1) (es := (lostW f (leastL (-1) f.app f.lost) f.app.length).map B) (by simp only [↓SP, SX, SW, TY, EN, sv_w, ↓reduceIte, reduceCtorEq, Nat.reduceEqDiff, Nat.reduceAdd, Nat.reduceLeDiff, Nat.reduceLT]) (by rw [List.length_map, lostW_length hlen (Nat.le_refl _)]; omega) (bool_okc _)) LendL.nil)))) ?_
              refine wpT_exit rfl ?_
              refine wpT_region (by kernel_rfl) (fun K hK => ?_)
              simp only [↓SP, SX, SW, TY, EN, sv_w, ↓reduceIte, reduceCtorEq, Nat.reduceEqDiff, Nat.reduceAdd, Nat.reduceLeDiff, Nat.reduceLT, Fan.av, e9, hc58]
              refine Pu.call (c88 (pushK f c) hPK hPKl) ?_
              simp only [↓SP, SX, SW, TY, EN, sv_w, ↓reduceIte, reduceCtorEq, Nat.reduceEqDiff, Nat.reduceAdd, Nat.reduceLeDiff, Nat.reduceLT, Fan.av, e9, hc58]
              refine hK _ _ ?_
              clear hK K
              refine wpT_inBlock ?_
              refine wpT_keep3 (i := 15) (j := 0) (k := 2) (o := .arr 49 4 [.agg [I f.limit, .lst ((tidyF (pushK f c)).kept.map Cyc.av), .lst (f.app.map I), .lst ((pushK f c).lost.map B)]]) (q := .arr 49 4 [.agg [I f.limit, .lst (f.kept.map Cyc.av), .lst (f.app.map I), .lst (f.lost.map B)]]) (r := .arr 49 4 [.agg [I 0, .nil0, .nil0, .nil0]]) (by simp only [↓SP, SX, SW, TY, EN, sv_w, ↓reduceIte, reduceCtorEq, Nat.reduceEqDiff, Nat.reduceAdd, Nat.reduceLeDiff, Nat.reduceLT, fan_okc, fan_cells, fan_isAgg]; rfl) (by simp only [↓SP, SX, SW, TY, EN, sv_w, ↓reduceIte, reduceCtorEq, Nat.reduceEqDiff, Nat.reduceAdd, Nat.reduceLeDiff, Nat.reduceLT]) (by simp only [↓SP, SX, SW, TY, EN, sv_w, ↓reduceIte, reduceCtorEq, Nat.reduceEqDiff, Nat.reduceAdd, Nat.reduceLeDiff, Nat.reduceLT]) ?_
              refine IH 1 _ _ (by omega) ⟨_, _, _, [], ⟨_, rfl⟩, by simp only [↓SP, SX, SW, TY, EN, sv_w, ↓reduceIte, reduceCtorEq, Nat.reduceEqDiff, Nat.reduceAdd, Nat.reduceLeDiff, Nat.reduceLT, e2], by simp only [↓SP, SX, SW, TY, EN, sv_w, ↓reduceIte, reduceCtorEq, Nat.reduceEqDiff, Nat.reduceAdd, Nat.reduceLeDiff, Nat.reduceLT, e4], by simp only [↓SP, SX, SW, TY, EN, sv_w, ↓reduceIte, reduceCtorEq, Nat.reduceEqDiff, Nat.reduceAdd, Nat.reduceLeDiff, Nat.reduceLT, e9], .inr ⟨rfl, hbig, rfl, rfl, rfl, rfl⟩⟩
          · skip
            have p51 := hc51
            try simp only [decide_eq_true_eq, decide_eq_false_iff_not, beq_iff_eq, bne_iff_ne, beq_eq_false_iff_ne, bne_eq_false_iff_eq, Bool.not_eq_true', Bool.not_eq_false'] at p51
            have hLx : Lx.length = f.app.length := by
              rcases hph with ⟨_, _, _, rfl, _⟩ | ⟨_, _, _, _, rfl, _⟩
              · exact hlen
              · exact lostW_length hlen (Nat.le_refl _)
            have hLV : Lend (fun id => if id ∈ [14] then (Hp.of ((15, .arr 49 4 [.agg [I f.limit, .lst (Kx.map Cyc.av), .lst (f.app.map I), LV]]) :: (0, .arr 49 4 [.agg [I f.limit, .lst (f.kept.map Cyc.av), .lst (f.app.map I), .lst (f.lost.map B)]]) :: (2, .arr 49 4 [.agg [I 0, .nil0, .nil0, .nil0]]) :: ex) (m + 24)).get id else none) LV (.lst (Lx.map B)) := by
              rcases hph with ⟨_, rfl, rfl, rfl, rfl⟩ | ⟨_, hm, rfl, rfl, rfl, rfl⟩
              · exact Lend.sl0 (E := 4) (s := 1) (by simp only [↓SP, SX, SW, TY, EN, sv_w, ↓reduceIte, reduceCtorEq, Nat.reduceEqDiff, Nat.reduceAdd, Nat.reduceLeDiff, Nat.reduceLT]) (by simp) (bool_okc _)
              · exact .refl _
            have hfin : (⟨f.limit, Kx, f.app, Lx⟩ : Fan) = pushF f c ∧ lostP Lx f f.app.length = pushL f c := by
              rcases hph with ⟨_, rfl, rfl, rfl, rfl⟩ | ⟨_, hm, rfl, rfl, rfl, rfl⟩
              · have hy := pushF_small hx (by simpa using p51)
                exact ⟨hy.1.symm, by rw [lostP_small, hy.2]⟩
              · have hy := pushF_big hx hm
                exact ⟨by rw [hy.1]; rfl, by rw [lostP_big hlen, hy.2]⟩
            clear hph IH
            refine wpT_lendB [(0, .arr 49 4 [.agg [I f.limit, .lst (f.kept.map Cyc.av), .lst (f.app.map I), .lst (f.lost.map B)]]), (2, .arr 49 4 [.agg [I 0, .nil0, .nil0, .nil0]])] [14] (j := 15) (E := 49) (s := 4) (cs := [I f.limit, .lst (Kx.map Cyc.av), .lst (f.app.map I), LV]) (cs' := [I f.limit, .lst (Kx.map Cyc.av), .lst (f.app.map I), .lst (Lx.map B)]) (by simp only [↓SP, SX, SW, TY, EN, sv_w, ↓reduceIte, reduceCtorEq, Nat.reduceEqDiff, Nat.reduceAdd, Nat.reduceLeDiff, Nat.reduceLT]) (by simp only [↓SP, SX, SW, TY, EN, sv_w, ↓reduceIte, reduceCtorEq, Nat.reduceEqDiff, Nat.reduceAdd, Nat.reduceLeDiff, Nat.reduceLT]) (by rfl) (by rfl) (LendL.cons (.refl _) (LendL.cons (.refl _) (LendL.cons (.refl _) (LendL.cons hLV LendL.nil)))) ?_
            refine wpT_drop [(15, .arr 49 4 [.agg [I f.limit, .lst (Kx.map Cyc.av), .lst (f.app.map I), .lst (Lx.map B)]]), (0, .arr 49 4 [.agg [I f.limit, .lst (f.kept.map Cyc.av), .lst (f.app.map I), .lst (f.lost.map B)]]), (2, .arr 49 4 [.agg [I 0, .nil0, .nil0, .nil0]])] (m := m + 24) (by simp only [↓SP, SX, SW, TY, EN, sv_w, ↓reduceIte, reduceCtorEq, Nat.reduceEqDiff, Nat.reduceAdd, Nat.reduceLeDiff, Nat.reduceLT]) (Nat.le_refl _) ?_
            obtain ⟨M, hM⟩ : ∃ M, M = m + 24 := ⟨_, rfl⟩
            rw [← hM]
            have n0 : ¬ 0 = M := by omega
            have n0' : ¬ M = 0 := by omega
            have n2 : ¬ 2 = M := by omega
            have n2' : ¬ M = 2 := by omega
            have n15 : ¬ 15 = M := by omega
            have n15' : ¬ M = 15 := by omega
            refine wpT_exit rfl ?_
            refine wpT_seq ?_
            refine wpT_region (by kernel_rfl) (fun K hK => ?_)
            simp only [↓SP, SX, SW, TY, EN, sv_w, ↓reduceIte, reduceCtorEq, Nat.reduceEqDiff, Nat.reduceAdd, Nat.reduceLeDiff, Nat.reduceLT, Fan.av, hc51]
            refine hK _ _ ?_
            clear hK K
            refine wpT_seq ?_
            refine wpT_seq ?_
            refine wpT_region (by kernel_rfl) (fun K hK => ?_)
            simp only [↓SP, SX, SW, TY, EN, sv_w, ↓reduceIte, reduceCtorEq, Nat.reduceEqDiff, Nat.reduceAdd, Nat.reduceLeDiff, Nat.reduceLT, Fan.av, hc51]
            refine hK _ _ ?_
            clear hK K
            refine wpT_block ?_
            refine wpT_loop ?_
            refine wpT_nilown 12 3 1 (by simp only [↓SP, SX, SW, TY, EN, sv_w, ↓reduceIte, reduceCtorEq, Nat.reduceEqDiff, Nat.reduceAdd, Nat.reduceLeDiff, Nat.reduceLT]) ?_
            refine wpT_keep4 (i := 15) (j := 0) (k := 2) (l := M) (o := .arr 49 4 [.agg [I f.limit, .lst (Kx.map Cyc.av), .lst (f.app.map I), .lst (Lx.map B)]]) (q := .arr 49 4 [.agg [I f.limit, .lst (f.kept.map Cyc.av), .lst (f.app.map I), .lst (f.lost.map B)]]) (r := .arr 49 4 [.agg [I 0, .nil0, .nil0, .nil0]]) (s := .arr 3 1 []) (by simp only [↓SP, SX, SW, TY, EN, sv_w, ↓reduceIte, reduceCtorEq, Nat.reduceEqDiff, Nat.reduceAdd, Nat.reduceLeDiff, Nat.reduceLT, n0, n2, n15, n0', n2', n15']) (by simp only [↓SP, SX, SW, TY, EN, sv_w, ↓reduceIte, reduceCtorEq, Nat.reduceEqDiff, Nat.reduceAdd, Nat.reduceLeDiff, Nat.reduceLT, n0, n2, n15, n0', n2', n15']) (by simp only [↓SP, SX, SW, TY, EN, sv_w, ↓reduceIte, reduceCtorEq, Nat.reduceEqDiff, Nat.reduceAdd, Nat.reduceLeDiff, Nat.reduceLT, n0, n2, n15, n0', n2', n15']) (by simp only [↓SP, SX, SW, TY, EN, sv_w, ↓reduceIte, reduceCtorEq, Nat.reduceEqDiff, Nat.reduceAdd, Nat.reduceLeDiff, Nat.reduceLT, n0, n2, n15, n0', n2', n15']) ?_
            refine wpT_ind (fun (i : Nat) tm2 h' => (∃ nx, M < nx ∧ h' = Hp.of [(15, .arr 49 4 [.agg [I f.limit, .lst (Kx.map Cyc.av), .lst (f.app.map I), .lst (Lx.map B)]]), (0, .arr 49 4 [.agg [I f.limit, .lst (f.kept.map Cyc.av), .lst (f.app.map I), .lst (f.lost.map B)]]), (2, .arr 49 4 [.agg [I 0, .nil0, .nil0, .nil0]]), (M, .arr 3 1 ((lostP Lx f i).map I))] nx) ∧ tm2 2 = .ptr 0 1 0 0 ∧ tm2 4 = .ptr 2 1 0 0 ∧ tm2 9 = .ptr 15 1 0 0 ∧ tm2 12 = .sl M (lostP Lx f i).length 0 (lostP Lx f i).length ∧ tm2 13 = I i ∧ i ≤ f.app.length) (fun i => f.app.length - i) ?_ 0 ⟨⟨M + 1, by omega, rfl⟩, by simp only [↓SP, SX, SW, TY, EN, sv_w, ↓reduceIte, reduceCtorEq, Nat.reduceEqDiff, Nat.reduceAdd, Nat.reduceLeDiff, Nat.reduceLT, e2], by simp only [↓SP, SX, SW, TY, EN, sv_w, ↓reduceIte, reduceCtorEq, Nat.reduceEqDiff, Nat.reduceAdd, Nat.reduceLeDiff, Nat.reduceLT, e4], by simp only [↓SP, SX, SW, TY, EN, sv_w, ↓reduceIte, reduceCtorEq, Nat.reduceEqDiff, Nat.reduceAdd, Nat.reduceLeDiff, Nat.reduceLT, e9], by simp only [↓SP, SX, SW, TY, EN, sv_w, ↓reduceIte, reduceCtorEq, Nat.reduceEqDiff, Nat.reduceAdd, Nat.reduceLeDiff, Nat.reduceLT]; rfl, by simp only [↓SP, SX, SW, TY, EN, sv_w, ↓reduceIte, reduceCtorEq, Nat.reduceEqDiff, Nat.reduceAdd, Nat.reduceLeDiff, Nat.reduceLT]; rfl, by omega⟩
            clear e2 e4 e9
            rintro i tm2 _ ⟨⟨nx, hnx, rfl⟩, e2, e4, e9, e12, e13, hi⟩ IH3
            have w0 : ¬ 0 = nx := by omega
            have w2 : ¬ 2 = nx := by omega
            have w15 : ¬ 15 = nx := by omega
            have wM : ¬ M = nx := by omega
            have wM' : ¬ nx = M := by omega
            refine wpT_inLoop ?_
            refine wpT_seq ?_
            refine wpT_seq ?_
            refine wpT_region (by kernel_rfl) (fun K hK => ?_)
            simp only [↓SP, SX, SW, TY, EN, sv_w, ↓reduceIte, reduceCtorEq, Nat.reduceEqDiff, Nat.reduceAdd, Nat.reduceLeDiff, Nat.reduceLT, Fan.av, e9, e13]
            refine hK _ _ ?_
            clear hK K
            refine wpT_if (by rfl) (fun hc78 => ?_) (fun hc78 => ?_)
            · skip
              have p78 := hc78
              try simp only [decide_eq_true_eq, decide_eq_false_iff_not, beq_iff_eq, bne_iff_ne, beq_eq_false_iff_ne, bne_eq_false_iff_eq, Bool.not_eq_true', Bool.not_eq_false'] at p78
              have hlt : i < f.app.length := by omega
              have hltL : i < Lx.length := by omega
              have hltf : i < f.lost.length := by omega
              have hgL := at_map (f := B) hltL
              have hgf := at_map (f := B) hltf
              have hPl := lostP_length Lx f i
              have hPs : lostP Lx f (i + 1) = lostP Lx f i ++ if (Lx[i] && !f.lost[i]) = true then [(i : Int)] else [] := by
                rw [lostP_succ, List.getElem?_eq_getElem hltL, List.getElem?_eq_getElem hltf]
                congr 1
                cases Lx[i] <;> cases f.lost[i] <;> simp
              have q3 : (lostP Lx f i).length + 1 ≤ maxLen := by simp only [maxLen]; omega
              have q4 : ((lostP Lx f i).length + 1) * 8 ≤ 140737488355328 := by omega
              refine wpT_skip ?_
              refine wpT_seq ?_
              refine wpT_block ?_
              refine wpT_seq ?_
              refine wpT_region (by kernel_rfl) (fun K hK => ?_)
              simp only [↓SP, SX, SW, TY, EN, sv_w, ↓reduceIte, reduceCtorEq, Nat.reduceEqDiff, Nat.reduceAdd, Nat.reduceLeDiff, Nat.reduceLT, Fan.av, e2, e9, e13, hgL, hgf, hc78]
              refine guardO_split (fun hg86 => ?_) (fun hg86 => ?_)
              · skip
                have p86 := hg86
                try simp only [decide_eq_true_eq, decide_eq_false_iff_not, beq_iff_eq, bne_iff_ne, beq_eq_false_iff_ne, bne_eq_false_iff_eq, Bool.not_eq_true', Bool.not_eq_false'] at p86
                simp only [↓SP, SX, SW, TY, EN, sv_w, ↓reduceIte, reduceCtorEq, Nat.reduceEqDiff, Nat.reduceAdd, Nat.reduceLeDiff, Nat.reduceLT, Fan.av, e2, e9, e13, hgL, hgf, hc78, hg86]
                refine hK _ _ ?_
                clear hK K
                refine wpT_if (by rfl) (fun hc93 => ?_) (fun hc93 => ?_)
                · skip
                  have p93 := hc93
                  try simp only [decide_eq_true_eq, decide_eq_false_iff_not, beq_iff_eq, bne_iff_ne, beq_eq_false_iff_ne, bne_eq_false_iff_eq, Bool.not_eq_true', Bool.not_eq_false'] at p93
                  have hP1 : lostP Lx f (i + 1) = lostP Lx f i ++ [(i : Int)] := by rw [hPs, if_pos (by simp_all)]
                  have hPn : (lostP Lx f (i + 1)).map I = (lostP Lx f i).map I ++ [I i] := by rw [hP1, List.map_append]; rfl
                  have hPll : (lostP Lx f (i + 1)).length = (lostP Lx f i).length + 1 := by rw [hP1]; simp
                  refine wpT_region (by kernel_rfl) (fun K hK => ?_)
                  simp only [↓SP, SX, SW, TY, EN, sv_w, ↓reduceIte, reduceCtorEq, Nat.reduceEqDiff, Nat.reduceAdd, Nat.reduceLeDiff, Nat.reduceLT, Fan.av, e12, e13, q3, q4, n0, n2, n15, n0', n2', n15', w0, w2, w15, wM, wM', hc78, hg86, hc93]
                  refine hK _ _ ?_
                  clear hK K
                  refine wpT_inBlock ?_
                  refine wpT_region (by kernel_rfl) (fun K hK => ?_)
                  simp only [↓SP, SX, SW, TY, EN, sv_w, ↓reduceIte, reduceCtorEq, Nat.reduceEqDiff, Nat.reduceAdd, Nat.reduceLeDiff, Nat.reduceLT, Fan.av, e13, wrap64 (x := (i : Int) + 1) (by omega) (by omega), hc78, hg86, hc93]
                  refine hK _ _ ?_
                  clear hK K
                  refine wpT_keep4 (i := 15) (j := 0) (k := 2) (l := M) (o := .arr 49 4 [.agg [I f.limit, .lst (Kx.map Cyc.av), .lst (f.app.map I), .lst (Lx.map B)]]) (q := .arr 49 4 [.agg [I f.limit, .lst (f.kept.map Cyc.av), .lst (f.app.map I), .lst (f.lost.map B)]]) (r := .arr 49 4 [.agg [I 0, .nil0, .nil0, .nil0]]) (s := .arr 3 1 ((lostP Lx f (i + 1)).map I)) (by simp only [↓SP, SX, SW, TY, EN, sv_w, ↓reduceIte, reduceCtorEq, Nat.reduceEqDiff, Nat.reduceAdd, Nat.reduceLeDiff, Nat.reduceLT, n0, n2, n15, n0', n2', n15', w0, w2, w15, wM, wM']) (by simp only [↓SP, SX, SW, TY, EN, sv_w, ↓reduceIte, reduceCtorEq, Nat.reduceEqDiff, Nat.reduceAdd, Nat.reduceLeDiff, Nat.reduceLT, n0, n2, n15, n0', n2', n15', w0, w2, w15, wM, wM']) (by simp only [↓SP, SX, SW, TY, EN, sv_w, ↓reduceIte, reduceCtorEq, Nat.reduceEqDiff, Nat.reduceAdd, Nat.reduceLeDiff, Nat.reduceLT, n0, n2, n15, n0', n2', n15', w0, w2, w15, wM, wM']) (by simp only [↓SP, SX, SW, TY, EN, sv_w, ↓reduceIte, reduceCtorEq, Nat.reduceEqDiff, Nat.reduceAdd, Nat.reduceLeDiff, Nat.reduceLT, hPn, n0, n2, n15, n0', n2', n15', w0, w2, w15, wM, wM']) ?_
                  refine IH3 (i + 1) _ _ (by omega) ⟨⟨_, ?_, rfl⟩, by simp only [↓SP, SX, SW, TY, EN, sv_w, ↓reduceIte, reduceCtorEq, Nat.reduceEqDiff, Nat.reduceAdd, Nat.reduceLeDiff, Nat.reduceLT, e2], by simp only [↓SP, SX, SW, TY, EN, sv_w, ↓reduceIte, reduceCtorEq, Nat.reduceEqDiff, Nat.reduceAdd, Nat.reduceLeDiff, Nat.reduceLT, e4], by simp only [↓SP, SX, SW, TY, EN, sv_w, ↓reduceIte, reduceCtorEq, Nat.reduceEqDiff, Nat.reduceAdd, Nat.reduceLeDiff, Nat.reduceLT, e9], by simp only [↓SP, SX, SW, TY, EN, sv_w, ↓reduceIte, reduceCtorEq, Nat.reduceEqDiff, Nat.reduceAdd, Nat.reduceLeDiff, Nat.reduceLT, hPll, e12], by simp only [↓SP, SX, SW, TY, EN, sv_w, ↓reduceIte, reduceCtorEq, Nat.reduceEqDiff, Nat.reduceAdd, Nat.reduceLeDiff, Nat.reduceLT, Int.natCast_add, Int.cast_ofNat_Int], by omega⟩
                  simp only [nx_add, nx_set, of_nx]
                  try omega
                · skip
                  have p93 := hc93
                  try simp only [decide_eq_true_eq, decide_eq_false_iff_not, beq_iff_eq, bne_iff_ne, beq_eq_false_iff_ne, bne_eq_false_iff_eq, Bool.not_eq_true', Bool.not_eq_false'] at p93
                  have hP1 : lostP Lx f (i + 1) = lostP Lx f i := by rw [hPs, if_neg (by simp_all), List.append_nil]
                  have hPn : (lostP Lx f (i + 1)).map I = (lostP Lx f i).map I := by rw [hP1]
                  have hPll : (lostP Lx f (i + 1)).length = (lostP Lx f i).length := by rw [hP1]
                  refine wpT_skip ?_
                  refine wpT_inBlock ?_
                  refine wpT_region (by kernel_rfl) (fun K hK => ?_)
                  simp only [↓SP, SX, SW, TY, EN, sv_w, ↓reduceIte, reduceCtorEq, Nat.reduceEqDiff, Nat.reduceAdd, Nat.reduceLeDiff, Nat.reduceLT, Fan.av, e13, wrap64 (x := (i : Int) + 1) (by omega) (by omega), hc78, hg86, hc93]
                  refine hK _ _ ?_
                  clear hK K
                  refine wpT_keep4 (i := 15) (j := 0) (k := 2) (l := M) (o := .arr 49 4 [.agg [I f.limit, .lst (Kx.map Cyc.av), .lst (f.app.map I), .lst (Lx.map B)]]) (q := .arr 49 4 [.agg [I f.limit, .lst (f.kept.map Cyc.av), .lst (f.app.map I), .lst (f.lost.map B)]]) (r := .arr 49 4 [.agg [I 0, .nil0, .nil0, .nil0]]) (s := .arr 3 1 ((lostP Lx f (i + 1)).map I)) (by simp only [↓SP, SX, SW, TY, EN, sv_w, ↓reduceIte, reduceCtorEq, Nat.reduceEqDiff, Nat.reduceAdd, Nat.reduceLeDiff, Nat.reduceLT, n0, n2, n15, n0', n2', n15', w0, w2, w15, wM, wM']) (by simp only [↓SP, SX, SW, TY, EN, sv_w, ↓reduceIte, reduceCtorEq, Nat.reduceEqDiff, Nat.reduceAdd, Nat.reduceLeDiff, Nat.reduceLT, n0, n2, n15, n0', n2', n15', w0, w2, w15, wM, wM']) (by simp only [↓SP, SX, SW, TY, EN, sv_w, ↓reduceIte, reduceCtorEq, Nat.reduceEqDiff, Nat.reduceAdd, Nat.reduceLeDiff, Nat.reduceLT, n0, n2, n15, n0', n2', n15', w0, w2, w15, wM, wM']) (by simp only [↓SP, SX, SW, TY, EN, sv_w, ↓reduceIte, reduceCtorEq, Nat.reduceEqDiff, Nat.reduceAdd, Nat.reduceLeDiff, Nat.reduceLT, hPn, n0, n2, n15, n0', n2', n15', w0, w2, w15, wM, wM']) ?_
                  refine IH3 (i + 1) _ _ (by omega) ⟨⟨_, ?_, rfl⟩, by simp only [↓SP, SX, SW, TY, EN, sv_w, ↓reduceIte, reduceCtorEq, Nat.reduceEqDiff, Nat.reduceAdd, Nat.reduceLeDiff, Nat.reduceLT, e2], by simp only [↓SP, SX, SW, TY, EN, sv_w, ↓reduceIte, reduceCtorEq, Nat.reduceEqDiff, Nat.reduceAdd, Nat.reduceLeDiff, Nat.reduceLT, e4], by simp only [↓SP, SX, SW, TY, EN, sv_w, ↓reduceIte, reduceCtorEq, Nat.reduceEqDiff, Nat.reduceAdd, Nat.reduceLeDiff, Nat.reduceLT, e9], by simp only [↓SP, SX, SW, TY, EN, sv_w, ↓reduceIte, reduceCtorEq, Nat.reduceEqDiff, Nat.reduceAdd, Nat.reduceLeDiff, Nat.reduceLT, hPll, e12], by simp only [↓SP, SX, SW, TY, EN, sv_w, ↓reduceIte, reduceCtorEq, Nat.reduceEqDiff, Nat.reduceAdd, Nat.reduceLeDiff, Nat.reduceLT, Int.natCast_add, Int.cast_ofNat_Int], by omega⟩
                  simp only [nx_add, nx_set, of_nx]
                  try omega
              · skip
                simp only [Bool.not_true, Bool.not_false] at hg86
                have p86 := hg86
                try simp only [decide_eq_true_eq, decide_eq_false_iff_not, beq_iff_eq, bne_iff_ne, beq_eq_false_iff_ne, bne_eq_false_iff_eq, Bool.not_eq_true', Bool.not_eq_false'] at p86
                simp only [↓SP, SX, SW, TY, EN, sv_w, ↓reduceIte, reduceCtorEq, Nat.reduceEqDiff, Nat.reduceAdd, Nat.reduceLeDiff, Nat.reduceLT, Fan.av, e2, e9, e13, hgL, hgf, hc78, hg86]
                refine hK _ _ ?_
                clear hK K
                refine wpT_ifF (by simp only [↓SP, SX, SW, TY, EN, sv_w, ↓reduceIte, reduceCtorEq, Nat.reduceEqDiff, Nat.reduceAdd, Nat.reduceLeDiff, Nat.reduceLT, Fan.av, hc78, hg86]) ?_
                have hP1 : lostP Lx f (i + 1) = lostP Lx f i := by rw [hPs, if_neg (by simp_all), List.append_nil]
                have hPn : (lostP Lx f (i + 1)).map I = (lostP Lx f i).map I := by rw [hP1]
                have hPll : (lostP Lx f (i + 1)).length = (lostP Lx f i).length := by rw [hP1]
                refine wpT_skip ?_
                refine wpT_inBlock ?_
                refine wpT_region (by kernel_rfl) (fun K hK => ?_)
                simp only [↓SP, SX, SW, TY, EN, sv_w, ↓reduceIte, reduceCtorEq, Nat.reduceEqDiff, Nat.reduceAdd, Nat.reduceLeDiff, Nat.reduceLT, Fan.av, e13, wrap64 (x := (i : Int) + 1) (by omega) (by omega), hc78, hg86]
                refine hK _ _ ?_
                clear hK K
                refine wpT_keep4 (i := 15) (j := 0) (k := 2) (l := M) (o := .arr 49 4 [.agg [I f.limit, .lst (Kx.map Cyc.av), .lst (f.app.map I), .lst (Lx.map B)]]) (q := .arr 49 4 [.agg [I f.limit, .lst (f.kept.map Cyc.av), .lst (f.app.map I), .lst (f.lost.map B)]]) (r := .arr 49 4 [.agg [I 0, .nil0, .nil0, .nil0]]) (s := .arr 3 1 ((lostP Lx f (i + 1)).map I)) (by simp only [↓SP, SX, SW, TY, EN, sv_w, ↓reduceIte, reduceCtorEq, Nat.reduceEqDiff, Nat.reduceAdd, Nat.reduceLeDiff, Nat.reduceLT, n0, n2, n15, n0', n2', n15', w0, w2, w15, wM, wM']) (by simp only [↓SP, SX, SW, TY, EN, sv_w, ↓reduceIte, reduceCtorEq, Nat.reduceEqDiff, Nat.reduceAdd, Nat.reduceLeDiff, Nat.reduceLT, n0, n2, n15, n0', n2', n15', w0, w2, w15, wM, wM']) (by simp only [↓SP, SX, SW, TY, EN, sv_w, ↓reduceIte, reduceCtorEq, Nat.reduceEqDiff, Nat.reduceAdd, Nat.reduceLeDiff, Nat.reduceLT, n0, n2, n15, n0', n2', n15', w0, w2, w15, wM, wM']) (by simp only [↓SP, SX, SW, TY, EN, sv_w, ↓reduceIte, reduceCtorEq, Nat.reduceEqDiff, Nat.reduceAdd, Nat.reduceLeDiff, Nat.reduceLT, hPn, n0, n2, n15, n0', n2', n15', w0, w2, w15, wM, wM']) ?_
                refine IH3 (i + 1) _ _ (by omega) ⟨⟨_, ?_, rfl⟩, by simp only [↓SP, SX, SW, TY, EN, sv_w, ↓reduceIte, reduceCtorEq, Nat.reduceEqDiff, Nat.reduceAdd, Nat.reduceLeDiff, Nat.reduceLT, e2], by simp only [↓SP, SX, SW, TY, EN, sv_w, ↓reduceIte, reduceCtorEq, Nat.reduceEqDiff, Nat.reduceAdd, Nat.reduceLeDiff, Nat.reduceLT, e4], by simp only [↓SP, SX, SW, TY, EN, sv_w, ↓reduceIte, reduceCtorEq, Nat.reduceEqDiff, Nat.reduceAdd, Nat.reduceLeDiff, Nat.reduceLT, e9], by simp only [↓SP, SX, SW, TY, EN, sv_w, ↓reduceIte, reduceCtorEq, Nat.reduceEqDiff, Nat.reduceAdd, Nat.reduceLeDiff, Nat.reduceLT, hPll, e12], by simp only [↓SP, SX, SW, TY, EN, sv_w, ↓reduceIte, reduceCtorEq, Nat.reduceEqDiff, Nat.reduceAdd, Nat.reduceLeDiff, Nat.reduceLT, Int.natCast_add, Int.cast_ofNat_Int], by omega⟩
                simp only [nx_add, nx_set, of_nx]
                try omega
            · skip
              have p78 := hc78
              try simp only [decide_eq_true_eq, decide_eq_false_iff_not, beq_iff_eq, bne_iff_ne, beq_eq_false_iff_ne, bne_eq_false_iff_eq, Bool.not_eq_true', Bool.not_eq_false'] at p78
              have hie : i = f.app.length := by omega
              subst hie
              refine wpT_exit rfl ?_
              refine wpT_seq ?_
              refine wpT_region (by kernel_rfl) (fun K hK => ?_)
              simp only [↓SP, SX, SW, TY, EN, sv_w, ↓reduceIte, reduceCtorEq, Nat.reduceEqDiff, Nat.reduceAdd, Nat.reduceLeDiff, Nat.reduceLT, Fan.av, e4, e9, e12, hc78]
              refine hK _ _ ?_
              clear hK K
              refine wpT_ret ⟨.inr rfl, ?_⟩
              show optK (resA _ _ _ [.cell 4 49, .tmp 5, .tmp 6]) _
              simp only [SR, Option.map_some, Option.bind_some, ↓SP, SX, SW, TY, EN, sv_w, ↓reduceIte, reduceCtorEq, Nat.reduceEqDiff, Nat.reduceAdd, Nat.reduceLeDiff, Nat.reduceLT, Fan.av, hc78]
              simp only [↓SP, SX, SW, TY, EN, sv_w, ↓reduceIte, reduceCtorEq, Nat.reduceEqDiff, Nat.reduceAdd, Nat.reduceLeDiff, Nat.reduceLT, SR, Option.map_some, Option.bind_some, e4]
              rw [hx, ← hfin.1, ← hfin.2]
              exact Lend.tupL (LendL.cons (.refl _) (LendL.cons (Lend.sl0 (E := 3) (s := 1) (by simp only [↓SP, SX, SW, TY, EN, sv_w, ↓reduceIte, reduceCtorEq, Nat.reduceEqDiff, Nat.reduceAdd, Nat.reduceLeDiff, Nat.reduceLT, n0, n2, n15, n0', n2', n15']) (by simp) (int_okc _)) (LendL.cons (.refl _) LendL.nil)))
end Go.Proofs.YtlmjpgmaefokdaaGreat
end

section
set_option linter.unusedSimpArgs false
set_option linter.unusedVariables false
namespace Go.Proofs.YtlmjpgmaefokdaaGreat
open Go.Proofs
set_option maxRecDepth 10000
theorem exists_chk {f : Fan} {t : Int} (h : chkF f ≠ 0) : existsE f t = chkF f := if_pos h
theorem exists_seven {f : Fan} {t : Int} (h : chkF f = 0) (h' : t < 0 ∨ t ≥ f.app.length) : existsE f t = 7 := by rw [existsE, if_neg (by omega), if_pos h']
theorem exists_zero {f : Fan} {t : Int} (h : chkF f = 0) (h' : ¬ (t < 0 ∨ t ≥ f.app.length)) : existsE f t = 0 := by rw [existsE, if_neg (by omega), if_neg h']
theorem applied_ex {f : Fan} {t n e : Int} (h : existsE f t = e) (h0 : e ≠ 0) : appliedE f t n = e ∧ appliedF f t n = fan0 := by
  have : appliedE f t n = e := by rw [appliedE, if_pos (by omega), h]
  exact ⟨this, appliedF_err this h0⟩
theorem join_ex {f : Fan} {t n e : Int} (h : existsE f t = e) (h0 : e ≠ 0) : joinE f t n = e ∧ joinF f t n = fan0 := by
  have : joinE f t n = e := by rw [joinE, if_pos (by omega), h]
  exact ⟨this, joinF_err this h0⟩
def loseE (f : Fan) (t : Int) : Int := if existsE f t ≠ 0 then existsE f t else if f.lost.getD t.toNat false = true then 8 else 0
def loseF (f : Fan) (t : Int) : Fan := if loseE f t ≠ 0 then fan0 else tidyF ⟨f.limit, f.kept, f.app, f.lost.set t.toNat true⟩
theorem loseF_err {f : Fan} {t e : Int} (h : loseE f t = e) (h0 : e ≠ 0) : loseF f t = fan0 := if_pos (by omega)
theorem loseF_ok {f : Fan} {t : Int} (h : loseE f t = 0) : loseF f t = tidyF ⟨f.limit, f.kept, f.app, f.lost.set t.toNat true⟩ := if_neg (by omega)
theorem lose_ex {f : Fan} {t e : Int} (h : existsE f t = e) (h0 : e ≠ 0) : loseE f t = e ∧ loseF f t = fan0 := by
  have : loseE f t = e := by rw [loseE, if_pos (by omega), h]
  exact ⟨this, loseF_err this h0⟩
theorem c33 (f : Fan) (t : Int) (hf : f.sm) : Pu Tryz.prog (.fn (.func 33) [] []) [f.av, I t] (.tup [(loseF f t).av, I (loseE f t)]) := by
  refine pu_func Tryz.func33 rfl (by kernel_rfl) (by show _ ≤ 29; simp only [List.length_append, List.length_cons, List.length_nil]; decide) (by simp only [IDF, fan_idf, cyc_idf, and_tt]) (by simp only [IDF, and_tt, implies_true]) (by simp only [IDF, fan_idf, and_tt, implies_true]) ?_
  rw [Tryz.ntmps33]
  refine wpT_seq ?_
  refine wpT_region (by kernel_rfl) (fun K hK => ?_)
  simp only [↓SP, SX, SW, TY, EN, sv_w, ↓reduceIte, reduceCtorEq, Nat.reduceEqDiff, Nat.reduceAdd, Nat.reduceLeDiff, Nat.reduceLT, Fan.av]
  refine hK _ _ ?_
  clear hK K
  refine wpT_seq ?_
  refine wpT_seq ?_
  refine wpT_region (by kernel_rfl) (fun K hK => ?_)
  simp only [↓SP, SX, SW, TY, EN, sv_w, ↓reduceIte, reduceCtorEq, Nat.reduceEqDiff, Nat.reduceAdd, Nat.reduceLeDiff, Nat.reduceLT, Fan.av]
  refine Pu.call (c89 f t hf.ok) ?_
  simp only [↓SP, SX, SW, TY, EN, sv_w, ↓reduceIte, reduceCtorEq, Nat.reduceEqDiff, Nat.reduceAdd, Nat.reduceLeDiff, Nat.reduceLT, Fan.av]
  refine hK _ _ ?_
  clear hK K
  refine wpT_seq ?_
  refine wpT_region (by kernel_rfl) (fun K hK => ?_)
  simp only [↓SP, SX, SW, TY, EN, sv_w, ↓reduceIte, reduceCtorEq, Nat.reduceEqDiff, Nat.reduceAdd, Nat.reduceLeDiff, Nat.reduceLT, Fan.av]
  refine hK _ _ ?_
  clear hK K
  refine wpT_if (by rfl) (fun hc12 => ?_) (fun hc12 => ?_)
  · skip
    have p12 := hc12
    try simp only [decide_eq_true_eq, decide_eq_false_iff_not, beq_iff_eq, bne_iff_ne, beq_eq_false_iff_ne, bne_eq_false_iff_eq, Bool.not_eq_true', Bool.not_eq_false'] at p12
    obtain ⟨hx, hy⟩ := lose_ex (f := f) (t := t) rfl p12
    refine wpT_seq ?_
    refine wpT_region (by kernel_rfl) (fun K hK => ?_)
    simp only [↓SP, SX, SW, TY, EN, sv_w, ↓reduceIte, reduceCtorEq, Nat.reduceEqDiff, Nat.reduceAdd, Nat.reduceLeDiff, Nat.reduceLT, Fan.av, hc12]
    refine hK _ _ ?_
    clear hK K
    refine wpT_ret ⟨.inr rfl, ?_⟩
    show optK (resA _ _ _ [.cell 4 49, .tmp 5]) _
    simp only [SR, Option.map_some, Option.bind_some, ↓SP, SX, SW, TY, EN, sv_w, ↓reduceIte, reduceCtorEq, Nat.reduceEqDiff, Nat.reduceAdd, Nat.reduceLeDiff, Nat.reduceLT, Fan.av, hc12]
    rw [hy, hx]
    exact Lend.tupL (LendL.cons fan0_lend (LendL.cons (.refl _) LendL.nil))
  · skip
    have p12 := hc12
    try simp only [decide_eq_true_eq, decide_eq_false_iff_not, beq_iff_eq, bne_iff_ne, beq_eq_false_iff_ne, bne_eq_false_iff_eq, Bool.not_eq_true', Bool.not_eq_false'] at p12
    have h14 : ¬ existsE f t ≠ 0 := by omega
    obtain ⟨hc, ht0, htl⟩ := exists_ok (f := f) (t := t) (by omega)
    have hlen := chkF_len hc
    obtain ⟨ha1, ha0⟩ := chkF_ge hc
    obtain ⟨k, rfl⟩ := Int.eq_ofNat_of_zero_le ht0
    have hk : k < f.app.length := by omega
    have hk' : k < f.lost.length := by omega
    have hg := at_map (f := I) hk
    have hg' := at_map (f := B) hk'
    have hA := getD_at (d := 0) hk
    have hL := getD_at (d := false) hk'
    refine wpT_skip ?_
    refine wpT_seq ?_
    refine wpT_seq ?_
    refine wpT_region (by kernel_rfl) (fun K hK => ?_)
    simp only [↓SP, SX, SW, TY, EN, sv_w, ↓reduceIte, reduceCtorEq, Nat.reduceEqDiff, Nat.reduceAdd, Nat.reduceLeDiff, Nat.reduceLT, Fan.av, hg', hc12]
    refine hK _ _ ?_
    clear hK K
    refine wpT_if (by rfl) (fun hc19 => ?_) (fun hc19 => ?_)
    · skip
      have p19 := hc19
      try simp only [decide_eq_true_eq, decide_eq_false_iff_not, beq_iff_eq, bne_iff_ne, beq_eq_false_iff_ne, bne_eq_false_iff_eq, Bool.not_eq_true', Bool.not_eq_false'] at p19
      have hx : loseE f k = 8 := by rw [loseE, if_neg h14, if_pos (by rw [hL]; exact p19)]
      have hy := loseF_err hx (by omega)
      refine wpT_seq ?_
      refine wpT_region (by kernel_rfl) (fun K hK => ?_)
      simp only [↓SP, SX, SW, TY, EN, sv_w, ↓reduceIte, reduceCtorEq, Nat.reduceEqDiff, Nat.reduceAdd, Nat.reduceLeDiff, Nat.reduceLT, Fan.av, hc12, hc19]
      refine hK _ _ ?_
      clear hK K
      refine wpT_ret ⟨.inr rfl, ?_⟩
      show optK (resA _ _ _ [.cell 4 49, .tmp 5]) _
      simp only [SR, Option.map_some, Option.bind_some, ↓SP, SX, SW, TY, EN, sv_w, ↓reduceIte, reduceCtorEq, Nat.reduceEqDiff, Nat.reduceAdd, Nat.reduceLeDiff, Nat.reduceLT, Fan.av, hc12, hc19]
      rw [hy, hx]
      exact Lend.tupL (LendL.cons fan0_lend (LendL.cons (.refl _) LendL.nil))
    · skip
      have p19 := hc19
      try simp only [decide_eq_true_eq, decide_eq_false_iff_not, beq_iff_eq, bne_iff_ne, beq_eq_false_iff_ne, bne_eq_false_iff_eq, Bool.not_eq_true', Bool.not_eq_false'] at p19
      have hx : loseE f k = 0 := by rw [loseE, if_neg h14, if_neg (by rw [hL]; simp_all)]
      have hy := loseF_ok hx
      have hto : (k : Int).toNat = k := rfl
      have hkz : (k : Int) < (f.app.length : Int) := by omega
      have hkz' : (k : Int) < (f.lost.length : Int) := by omega
      have hkz0 : (0 : Int) ≤ (k : Int) := by omega
      rw [hto] at hy
      have hf2 : Fan.ok ⟨f.limit, f.kept, f.app, f.lost.set k true⟩ := ⟨hf.ok.1, hf.ok.2.1, by simpa using hf.ok.2.2.1, hf.ok.2.2.2⟩
      refine wpT_skip ?_
      refine wpT_seq ?_
      refine wpT_region (by kernel_rfl) (fun K hK => ?_)
      simp only [↓SP, SX, SW, TY, EN, sv_w, ↓reduceIte, reduceCtorEq, Nat.reduceEqDiff, Nat.reduceAdd, Nat.reduceLeDiff, Nat.reduceLT, Fan.av, hc12, hc19]
      refine copied_call hf ha1 (by omega) ?_
      simp only [↓SP, SX, SW, TY, EN, sv_w, ↓reduceIte, reduceCtorEq, Nat.reduceEqDiff, Nat.reduceAdd, Nat.reduceLeDiff, Nat.reduceLT, Fan.av, hc12, hc19]
      refine hK _ _ ?_
      clear hK K
      refine wpT_seq ?_
      refine wpT_region (by kernel_rfl) (fun K hK => ?_)
      simp only [↓SP, SX, SW, TY, EN, sv_w, ↓reduceIte, reduceCtorEq, Nat.reduceEqDiff, Nat.reduceAdd, Nat.reduceLeDiff, Nat.reduceLT, Fan.av, stO_arr, app_set, Option.bind_some, Nat.le_refl, hg', hkz', hkz0, Int.toNat_natCast, hc12, hc19]
      refine hK _ _ ?_
      clear hK K
      refine wpT_lend2 (i := 1) (j := 5) (o := .arr 49 4 [.agg [I 0, .nil0, .nil0, .nil0]]) (E := 49) (s := 4) (cs := [I f.limit, .sl 2 f.kept.length 0 f.kept.length, .sl 3 f.app.length 0 f.app.length, .sl 4 f.lost.length 0 f.lost.length]) (cs' := [I f.limit, .lst (f.kept.map Cyc.av), .lst ((f.app).map I), .lst ((f.lost.set k true).map B)]) (by simp only [↓SP, SX, SW, TY, EN, sv_w, ↓reduceIte, reduceCtorEq, Nat.reduceEqDiff, Nat.reduceAdd, Nat.reduceLeDiff, Nat.reduceLT]) (by simp only [↓SP, SX, SW, TY, EN, sv_w, ↓reduceIte, reduceCtorEq, Nat.reduceEqDiff, Nat.reduceAdd, Nat.reduceLeDiff, Nat.reduceLT]) (by rfl) (fan_lendL (by simp only [↓SP, SX, SW, TY, EN, sv_w, ↓reduceIte, reduceCtorEq, Nat.reduceEqDiff, Nat.reduceAdd, Nat.reduceLeDiff, Nat.reduceLT]) (by simp only [↓SP, SX, SW, TY, EN, sv_w, ↓reduceIte, reduceCtorEq, Nat.reduceEqDiff, Nat.reduceAdd, Nat.reduceLeDiff, Nat.reduceLT, List.map_set]) (by simp only [↓SP, SX, SW, TY, EN, sv_w, ↓reduceIte, reduceCtorEq, Nat.reduceEqDiff, Nat.reduceAdd, Nat.reduceLeDiff, Nat.reduceLT, List.map_set]) rfl (by simp) (by simp)) ?_
      refine wpT_seq ?_
      refine wpT_region (by kernel_rfl) (fun K hK => ?_)
      simp only [↓SP, SX, SW, TY, EN, sv_w, ↓reduceIte, reduceCtorEq, Nat.reduceEqDiff, Nat.reduceAdd, Nat.reduceLeDiff, Nat.reduceLT, Fan.av, hc12, hc19]
      refine Pu.call (c79 ⟨f.limit, f.kept, f.app, f.lost.set k true⟩ hf2 (by simpa using hlen)) ?_
      simp only [↓SP, SX, SW, TY, EN, sv_w, ↓reduceIte, reduceCtorEq, Nat.reduceEqDiff, Nat.reduceAdd, Nat.reduceLeDiff, Nat.reduceLT, Fan.av, hc12, hc19]
      refine hK _ _ ?_
      clear hK K
      refine wpT_ret ⟨.inr rfl, ?_⟩
      show optK (resA _ _ _ [.cell 4 49, .tmp 5]) _
      simp only [SR, Option.map_some, Option.bind_some, ↓SP, SX, SW, TY, EN, sv_w, ↓reduceIte, reduceCtorEq, Nat.reduceEqDiff, Nat.reduceAdd, Nat.reduceLeDiff, Nat.reduceLT, Fan.av, hc12, hc19]
      rw [hy, hx]
      exact .refl _
theorem c34 (f : Fan) (t : Int) (hf : f.sm) : Pu Tryz.prog (.fn (.func 34) [] []) [f.av, I t] (.tup [(loseF f t).av, I (loseE f t)]) := by
  refine pu_func Tryz.func34 rfl (by kernel_rfl) (by show _ ≤ 38; simp only [List.length_append, List.length_cons, List.length_nil]; decide) (by simp only [IDF, fan_idf, cyc_idf, and_tt]) (by simp only [IDF, and_tt, implies_true]) (by simp only [IDF, fan_idf, and_tt, implies_true]) ?_
  rw [Tryz.ntmps34]
  refine wpT_seq ?_
  refine wpT_region (by kernel_rfl) (fun K hK => ?_)
  simp only [↓SP, SX, SW, TY, EN, sv_w, ↓reduceIte, reduceCtorEq, Nat.reduceEqDiff, Nat.reduceAdd, Nat.reduceLeDiff, Nat.reduceLT, Fan.av]
  refine hK _ _ ?_
  clear hK K
  refine wpT_seq ?_
  refine wpT_seq ?_
  refine wpT_region (by kernel_rfl) (fun K hK => ?_)
  simp only [↓SP, SX, SW, TY, EN, sv_w, ↓reduceIte, reduceCtorEq, Nat.reduceEqDiff, Nat.reduceAdd, Nat.reduceLeDiff, Nat.reduceLT, Fan.av]
  refine Pu.call (c81 f hf.ok) ?_
  simp only [↓SP, SX, SW, TY, EN, sv_w, ↓reduceIte, reduceCtorEq, Nat.reduceEqDiff, Nat.reduceAdd, Nat.reduceLeDiff, Nat.reduceLT, Fan.av]
  refine hK _ _ ?_
  clear hK K
  refine wpT_seq ?_
  refine wpT_region (by kernel_rfl) (fun K hK => ?_)
  simp only [↓SP, SX, SW, TY, EN, sv_w, ↓reduceIte, reduceCtorEq, Nat.reduceEqDiff, Nat.reduceAdd, Nat.reduceLeDiff, Nat.reduceLT, Fan.av]
  refine hK _ _ ?_
  clear hK K
  refine wpT_if (by rfl) (fun hc11 => ?_) (fun hc11 => ?_)
  · skip
    have p11 := hc11
    try simp only [decide_eq_true_eq, decide_eq_false_iff_not, beq_iff_eq, bne_iff_ne, beq_eq_false_iff_ne, bne_eq_false_iff_eq, Bool.not_eq_true', Bool.not_eq_false'] at p11
    obtain ⟨hx, hy⟩ := lose_ex (exists_chk (t := t) p11) p11
    refine wpT_seq ?_
    refine wpT_region (by kernel_rfl) (fun K hK => ?_)
    simp only [↓SP, SX, SW, TY, EN, sv_w, ↓reduceIte, reduceCtorEq, Nat.reduceEqDiff, Nat.reduceAdd, Nat.reduceLeDiff, Nat.reduceLT, Fan.av, hc11]
    refine hK _ _ ?_
    clear hK K
    refine wpT_ret ⟨.inr rfl, ?_⟩
    show optK (resA _ _ _ [.cell 4 49, .tmp 5]) _
    simp only [SR, Option.map_some, Option.bind_some, ↓SP, SX, SW, TY, EN, sv_w, ↓reduceIte, reduceCtorEq, Nat.reduceEqDiff, Nat.reduceAdd, Nat.reduceLeDiff, Nat.reduceLT, Fan.av, hc11]
    rw [hy, hx]
    first
      | exact Lend.tupL (LendL.cons fan0_lend (LendL.cons (.refl _) LendL.nil))
      | exact .refl _
  · skip
    have p11 := hc11
    try simp only [decide_eq_true_eq, decide_eq_false_iff_not, beq_iff_eq, bne_iff_ne, beq_eq_false_iff_ne, bne_eq_false_iff_eq, Bool.not_eq_true', Bool.not_eq_false'] at p11
    have hc : chkF f = 0 := by omega
    have hlen := chkF_len hc
    obtain ⟨ha1, ha0⟩ := chkF_ge hc
    refine wpT_skip ?_
    refine wpT_seq ?_
    refine wpT_seq ?_
    refine wpT_region (by kernel_rfl) (fun K hK => ?_)
    simp only [↓SP, SX, SW, TY, EN, sv_w, ↓reduceIte, reduceCtorEq, Nat.reduceEqDiff, Nat.reduceAdd, Nat.reduceLeDiff, Nat.reduceLT, Fan.av, hc11]
    refine guardO_split (fun hg16 => ?_) (fun hg16 => ?_)
    · skip
      have p16 := hg16
      try simp only [decide_eq_true_eq, decide_eq_false_iff_not, beq_iff_eq, bne_iff_ne, beq_eq_false_iff_ne, bne_eq_false_iff_eq, Bool.not_eq_true', Bool.not_eq_false'] at p16
      simp only [↓SP, SX, SW, TY, EN, sv_w, ↓reduceIte, reduceCtorEq, Nat.reduceEqDiff, Nat.reduceAdd, Nat.reduceLeDiff, Nat.reduceLT, Fan.av, hc11, hg16]
      refine hK _ _ ?_
      clear hK K
      refine wpT_if (by rfl) (fun hc22 => ?_) (fun hc22 => ?_)
      · skip
        have p22 := hc22
        try simp only [decide_eq_true_eq, decide_eq_false_iff_not, beq_iff_eq, bne_iff_ne, beq_eq_false_iff_ne, bne_eq_false_iff_eq, Bool.not_eq_true', Bool.not_eq_false'] at p22
        obtain ⟨hx, hy⟩ := lose_ex (exists_seven (t := t) hc (by omega)) (by omega)
        refine wpT_seq ?_
        refine wpT_region (by kernel_rfl) (fun K hK => ?_)
        simp only [↓SP, SX, SW, TY, EN, sv_w, ↓reduceIte, reduceCtorEq, Nat.reduceEqDiff, Nat.reduceAdd, Nat.reduceLeDiff, Nat.reduceLT, Fan.av, hc11, hg16, hc22]
        refine hK _ _ ?_
        clear hK K
        refine wpT_ret ⟨.inr rfl, ?_⟩
        show optK (resA _ _ _ [.cell 4 49, .tmp 5]) _
        simp only [SR, Option.map_some, Option.bind_some, ↓SP, SX, SW, TY, EN, sv_w, ↓reduceIte, reduceCtorEq, Nat.reduceEqDiff, Nat.reduceAdd, Nat.reduceLeDiff, Nat.reduceLT, Fan.av, hc11, hg16, hc22]
        rw [hy, hx]
        first
          | exact Lend.tupL (LendL.cons fan0_lend (LendL.cons (.refl _) LendL.nil))
          | exact .refl _
      · skip
        have p22 := hc22
        try simp only [decide_eq_true_eq, decide_eq_false_iff_not, beq_iff_eq, bne_iff_ne, beq_eq_false_iff_ne, bne_eq_false_iff_eq, Bool.not_eq_true', Bool.not_eq_false'] at p22
        have h14 : ¬ existsE f t ≠ 0 := by rw [exists_zero hc (by omega)]; simp
        have ht0 : 0 ≤ t := by omega
        have htl : t < f.app.length := by omega
        obtain ⟨k, rfl⟩ := Int.eq_ofNat_of_zero_le ht0
        have hk : k < f.app.length := by omega
        have hk' : k < f.lost.length := by omega
        have hg := at_map (f := I) hk
        have hg' := at_map (f := B) hk'
        have hA := getD_at (d := 0) hk
        have hL := getD_at (d := false) hk'
        refine wpT_skip ?_
        refine wpT_seq ?_
        refine wpT_seq ?_
        refine wpT_region (by kernel_rfl) (fun K hK => ?_)
        simp only [↓SP, SX, SW, TY, EN, sv_w, ↓reduceIte, reduceCtorEq, Nat.reduceEqDiff, Nat.reduceAdd, Nat.reduceLeDiff, Nat.reduceLT, Fan.av, hg', hc11, hg16, hc22]
        refine hK _ _ ?_
        clear hK K
        refine wpT_if (by rfl) (fun hc28 => ?_) (fun hc28 => ?_)
        · skip
          have p28 := hc28
          try simp only [decide_eq_true_eq, decide_eq_false_iff_not, beq_iff_eq, bne_iff_ne, beq_eq_false_iff_ne, bne_eq_false_iff_eq, Bool.not_eq_true', Bool.not_eq_false'] at p28
          have hx : loseE f k = 8 := by rw [loseE, if_neg h14, if_pos (by rw [hL]; exact p28)]
          have hy := loseF_err hx (by omega)
          refine wpT_seq ?_
          refine wpT_region (by kernel_rfl) (fun K hK => ?_)
          simp only [↓SP, SX, SW, TY, EN, sv_w, ↓reduceIte, reduceCtorEq, Nat.reduceEqDiff, Nat.reduceAdd, Nat.reduceLeDiff, Nat.reduceLT, Fan.av, hc11, hg16, hc22, hc28]
          refine hK _ _ ?_
          clear hK K
          refine wpT_ret ⟨.inr rfl, ?_⟩
          show optK (resA _ _ _ [.cell 4 49, .tmp 5]) _
          simp only [SR, Option.map_some, Option.bind_some, ↓SP, SX, SW, TY, EN, sv_w, ↓reduceIte, reduceCtorEq, Nat.reduceEqDiff, Nat.reduceAdd, Nat.reduceLeDiff, Nat.reduceLT, Fan.av, hc11, hg16, hc22, hc28]
          rw [hy, hx]
          first
            | exact Lend.tupL (LendL.cons fan0_lend (LendL.cons (.refl _) LendL.nil))
            | exact .refl _
        · skip
          have p28 := hc28
          try simp only [decide_eq_true_eq, decide_eq_false_iff_not, beq_iff_eq, bne_iff_ne, beq_eq_false_iff_ne, bne_eq_false_iff_eq, Bool.not_eq_true', Bool.not_eq_false'] at p28
          have hx : loseE f k = 0 := by rw [loseE, if_neg h14, if_neg (by rw [hL]; simp_all)]
          have hy := loseF_ok hx
          have hto : (k : Int).toNat = k := rfl
          have hkz : (k : Int) < (f.app.length : Int) := by omega
          have hkz' : (k : Int) < (f.lost.length : Int) := by omega
          have hkz0 : (0 : Int) ≤ (k : Int) := by omega
          rw [hto] at hy
          have hf2 : Fan.ok ⟨f.limit, f.kept, f.app, f.lost.set k true⟩ := ⟨hf.ok.1, hf.ok.2.1, by simpa using hf.ok.2.2.1, hf.ok.2.2.2⟩
          refine wpT_skip ?_
          refine wpT_seq ?_
          refine wpT_region (by kernel_rfl) (fun K hK => ?_)
          simp only [↓SP, SX, SW, TY, EN, sv_w, ↓reduceIte, reduceCtorEq, Nat.reduceEqDiff, Nat.reduceAdd, Nat.reduceLeDiff, Nat.reduceLT, Fan.av, hc11, hg16, hc22, hc28]
          refine cop_frame (c86 f hf ha1 (by omega)) ?_
          simp only [↓SP, SX, SW, TY, EN, sv_w, ↓reduceIte, reduceCtorEq, Nat.reduceEqDiff, Nat.reduceAdd, Nat.reduceLeDiff, Nat.reduceLT, Fan.av, hc11, hg16, hc22, hc28]
          refine hK _ _ ?_
          clear hK K
          refine wpT_seq ?_
          refine wpT_region (by kernel_rfl) (fun K hK => ?_)
          simp only [↓SP, SX, SW, TY, EN, sv_w, ↓reduceIte, reduceCtorEq, Nat.reduceEqDiff, Nat.reduceAdd, Nat.reduceLeDiff, Nat.reduceLT, Fan.av, stO_arr, app_set, Option.bind_some, Nat.le_refl, hg', hkz', hkz0, Int.toNat_natCast, hc11, hg16, hc22, hc28]
          refine hK _ _ ?_
          clear hK K
          refine wpT_lend2 (i := 1) (j := 5) (o := .arr 49 4 [.agg [I 0, .nil0, .nil0, .nil0]]) (E := 49) (s := 4) (cs := [I f.limit, .sl 2 f.kept.length 0 f.kept.length, .sl 3 f.app.length 0 f.app.length, .sl 4 f.lost.length 0 f.lost.length]) (cs' := [I f.limit, .lst (f.kept.map Cyc.av), .lst ((f.app).map I), .lst ((f.lost.set k true).map B)]) (by simp only [↓SP, SX, SW, TY, EN, sv_w, ↓reduceIte, reduceCtorEq, Nat.reduceEqDiff, Nat.reduceAdd, Nat.reduceLeDiff, Nat.reduceLT]) (by simp only [↓SP, SX, SW, TY, EN, sv_w, ↓reduceIte, reduceCtorEq, Nat.reduceEqDiff, Nat.reduceAdd, Nat.reduceLeDiff, Nat.reduceLT]) (by rfl) (fan_lendL (by simp only [↓SP, SX, SW, TY, EN, sv_w, ↓reduceIte, reduceCtorEq, Nat.reduceEqDiff, Nat.reduceAdd, Nat.reduceLeDiff, Nat.reduceLT]) (by simp only [↓SP, SX, SW, TY, EN, sv_w, ↓reduceIte, reduceCtorEq, Nat.reduceEqDiff, Nat.reduceAdd, Nat.reduceLeDiff, Nat.reduceLT, List.map_set]) (by simp only [↓SP, SX, SW, TY, EN, sv_w, ↓reduceIte, reduceCtorEq, Nat.reduceEqDiff, Nat.reduceAdd, Nat.reduceLeDiff, Nat.reduceLT, List.map_set]) rfl (by simp) (by simp)) ?_
          refine wpT_seq ?_
          refine wpT_region (by kernel_rfl) (fun K hK => ?_)
          simp only [↓SP, SX, SW, TY, EN, sv_w, ↓reduceIte, reduceCtorEq, Nat.reduceEqDiff, Nat.reduceAdd, Nat.reduceLeDiff, Nat.reduceLT, Fan.av, hc11, hg16, hc22, hc28]
          refine Pu.call (c88 ⟨f.limit, f.kept, f.app, f.lost.set k true⟩ hf2 (by simpa using hlen)) ?_
          simp only [↓SP, SX, SW, TY, EN, sv_w, ↓reduceIte, reduceCtorEq, Nat.reduceEqDiff, Nat.reduceAdd, Nat.reduceLeDiff, Nat.reduceLT, Fan.av, hc11, hg16, hc22, hc28]
          refine hK _ _ ?_
          clear hK K
          refine wpT_ret ⟨.inr rfl, ?_⟩
          show optK (resA _ _ _ [.cell 4 49, .tmp 5]) _
          simp only [SR, Option.map_some, Option.bind_some, ↓SP, SX, SW, TY, EN, sv_w, ↓reduceIte, reduceCtorEq, Nat.reduceEqDiff, Nat.reduceAdd, Nat.reduceLeDiff, Nat.reduceLT, Fan.av, hc11, hg16, hc22, hc28]
          rw [hy, hx]
          first
            | exact Lend.tupL (LendL.cons fan0_lend (LendL.cons (.refl _) LendL.nil))
            | exact .refl _
    · skip
      simp only [Bool.not_true, Bool.not_false] at hg16
      have p16 := hg16
      try simp only [decide_eq_true_eq, decide_eq_false_iff_not, beq_iff_eq, bne_iff_ne, beq_eq_false_iff_ne, bne_eq_false_iff_eq, Bool.not_eq_true', Bool.not_eq_false'] at p16
      simp only [↓SP, SX, SW, TY, EN, sv_w, ↓reduceIte, reduceCtorEq, Nat.reduceEqDiff, Nat.reduceAdd, Nat.reduceLeDiff, Nat.reduceLT, Fan.av, hc11, hg16]
      refine hK _ _ ?_
      clear hK K
      refine wpT_ifT (by simp only [↓SP, SX, SW, TY, EN, sv_w, ↓reduceIte, reduceCtorEq, Nat.reduceEqDiff, Nat.reduceAdd, Nat.reduceLeDiff, Nat.reduceLT, Fan.av, hc11, hg16]) ?_
      obtain ⟨hx, hy⟩ := lose_ex (exists_seven (t := t) hc (by omega)) (by omega)
      refine wpT_seq ?_
      refine wpT_region (by kernel_rfl) (fun K hK => ?_)
      simp only [↓SP, SX, SW, TY, EN, sv_w, ↓reduceIte, reduceCtorEq, Nat.reduceEqDiff, Nat.reduceAdd, Nat.reduceLeDiff, Nat.reduceLT, Fan.av, hc11, hg16]
      refine hK _ _ ?_
      clear hK K
      refine wpT_ret ⟨.inr rfl, ?_⟩
      show optK (resA _ _ _ [.cell 4 49, .tmp 5]) _
      simp only [SR, Option.map_some, Option.bind_some, ↓SP, SX, SW, TY, EN, sv_w, ↓reduceIte, reduceCtorEq, Nat.reduceEqDiff, Nat.reduceAdd, Nat.reduceLeDiff, Nat.reduceLT, Fan.av, hc11, hg16]
      rw [hy, hx]
      first
        | exact Lend.tupL (LendL.cons fan0_lend (LendL.cons (.refl _) LendL.nil))
        | exact .refl _
theorem c32 (f : Fan) (t n : Int) (hf : f.sm) : Pu Tryz.prog (.fn (.func 32) [] []) [f.av, I t, I n] (.tup [(appliedF f t n).av, I (appliedE f t n)]) := by
  refine pu_func Tryz.func32 rfl (by kernel_rfl) (by show _ ≤ 63; simp only [List.length_append, List.length_cons, List.length_nil]; decide) (by simp only [IDF, fan_idf, cyc_idf, and_tt]) (by simp only [IDF, and_tt, implies_true]) (by simp only [IDF, fan_idf, and_tt, implies_true]) ?_
  rw [Tryz.ntmps32]
  refine wpT_seq ?_
  refine wpT_region (by kernel_rfl) (fun K hK => ?_)
  simp only [↓SP, SX, SW, TY, EN, sv_w, ↓reduceIte, reduceCtorEq, Nat.reduceEqDiff, Nat.reduceAdd, Nat.reduceLeDiff, Nat.reduceLT, Fan.av]
  refine hK _ _ ?_
  clear hK K
  refine wpT_seq ?_
  refine wpT_seq ?_
  refine wpT_region (by kernel_rfl) (fun K hK => ?_)
  simp only [↓SP, SX, SW, TY, EN, sv_w, ↓reduceIte, reduceCtorEq, Nat.reduceEqDiff, Nat.reduceAdd, Nat.reduceLeDiff, Nat.reduceLT, Fan.av]
  refine Pu.call (c81 f hf.ok) ?_
  simp only [↓SP, SX, SW, TY, EN, sv_w, ↓reduceIte, reduceCtorEq, Nat.reduceEqDiff, Nat.reduceAdd, Nat.reduceLeDiff, Nat.reduceLT, Fan.av]
  refine hK _ _ ?_
  clear hK K
  refine wpT_seq ?_
  refine wpT_region (by kernel_rfl) (fun K hK => ?_)
  simp only [↓SP, SX, SW, TY, EN, sv_w, ↓reduceIte, reduceCtorEq, Nat.reduceEqDiff, Nat.reduceAdd, Nat.reduceLeDiff, Nat.reduceLT, Fan.av]
  refine hK _ _ ?_
  clear hK K
  refine wpT_if (by rfl) (fun hc13 => ?_) (fun hc13 => ?_)
  · skip
    have p13 := hc13
    try simp only [decide_eq_true_eq, decide_eq_false_iff_not, beq_iff_eq, bne_iff_ne, beq_eq_false_iff_ne, bne_eq_false_iff_eq, Bool.not_eq_true', Bool.not_eq_false'] at p13
    obtain ⟨hx, hy⟩ := applied_ex (n := n) (exists_chk (t := t) p13) p13
    refine wpT_seq ?_
    refine wpT_region (by kernel_rfl) (fun K hK => ?_)
    simp only [↓SP, SX, SW, TY, EN, sv_w, ↓reduceIte, reduceCtorEq, Nat.reduceEqDiff, Nat.reduceAdd, Nat.reduceLeDiff, Nat.reduceLT, Fan.av, hc13]
    refine hK _ _ ?_
    clear hK K
    refine wpT_ret ⟨.inr rfl, ?_⟩
    show optK (resA _ _ _ [.cell 6 49, .tmp 7]) _
    simp only [SR, Option.map_some, Option.bind_some, ↓SP, SX, SW, TY, EN, sv_w, ↓reduceIte, reduceCtorEq, Nat.reduceEqDiff, Nat.reduceAdd, Nat.reduceLeDiff, Nat.reduceLT, Fan.av, hc13]
    rw [hy, hx]
    first
      | exact Lend.tupL (LendL.cons fan0_lend (LendL.cons (.refl _) LendL.nil))
      | exact .refl _
  · skip
    have p13 := hc13
    try simp only [decide_eq_true_eq, decide_eq_false_iff_not, beq_iff_eq, bne_iff_ne, beq_eq_false_iff_ne, bne_eq_false_iff_eq, Bool.not_eq_true', Bool.not_eq_false'] at p13
    have hc : chkF f = 0 := by omega
    have hlen := chkF_len hc
    obtain ⟨ha1, ha0⟩ := chkF_ge hc
    refine wpT_skip ?_
    refine wpT_seq ?_
    refine wpT_seq ?_
    refine wpT_region (by kernel_rfl) (fun K hK => ?_)
    simp only [↓SP, SX, SW, TY, EN, sv_w, ↓reduceIte, reduceCtorEq, Nat.reduceEqDiff, Nat.reduceAdd, Nat.reduceLeDiff, Nat.reduceLT, Fan.av, hc13]
    refine guardO_split (fun hg18 => ?_) (fun hg18 => ?_)
    · skip
      have p18 := hg18
      try simp only [decide_eq_true_eq, decide_eq_false_iff_not, beq_iff_eq, bne_iff_ne, beq_eq_false_iff_ne, bne_eq_false_iff_eq, Bool.not_eq_true', Bool.not_eq_false'] at p18
      simp only [↓SP, SX, SW, TY, EN, sv_w, ↓reduceIte, reduceCtorEq, Nat.reduceEqDiff, Nat.reduceAdd, Nat.reduceLeDiff, Nat.reduceLT, Fan.av, hc13, hg18]
      refine hK _ _ ?_
      clear hK K
      refine wpT_if (by rfl) (fun hc24 => ?_) (fun hc24 => ?_)
      · skip
        have p24 := hc24
        try simp only [decide_eq_true_eq, decide_eq_false_iff_not, beq_iff_eq, bne_iff_ne, beq_eq_false_iff_ne, bne_eq_false_iff_eq, Bool.not_eq_true', Bool.not_eq_false'] at p24
        obtain ⟨hx, hy⟩ := applied_ex (n := n) (exists_seven (t := t) hc (by omega)) (by omega)
        refine wpT_seq ?_
        refine wpT_region (by kernel_rfl) (fun K hK => ?_)
        simp only [↓SP, SX, SW, TY, EN, sv_w, ↓reduceIte, reduceCtorEq, Nat.reduceEqDiff, Nat.reduceAdd, Nat.reduceLeDiff, Nat.reduceLT, Fan.av, hc13, hg18, hc24]
        refine hK _ _ ?_
        clear hK K
        refine wpT_ret ⟨.inr rfl, ?_⟩
        show optK (resA _ _ _ [.cell 6 49, .tmp 7]) _
        simp only [SR, Option.map_some, Option.bind_some, ↓SP, SX, SW, TY, EN, sv_w, ↓reduceIte, reduceCtorEq, Nat.reduceEqDiff, Nat.reduceAdd, Nat.reduceLeDiff, Nat.reduceLT, Fan.av, hc13, hg18, hc24]
        rw [hy, hx]
        first
          | exact Lend.tupL (LendL.cons fan0_lend (LendL.cons (.refl _) LendL.nil))
          | exact .refl _
      · skip
        have p24 := hc24
        try simp only [decide_eq_true_eq, decide_eq_false_iff_not, beq_iff_eq, bne_iff_ne, beq_eq_false_iff_ne, bne_eq_false_iff_eq, Bool.not_eq_true', Bool.not_eq_false'] at p24
        have h14 : ¬ existsE f t ≠ 0 := by rw [exists_zero hc (by omega)]; simp
        have ht0 : 0 ≤ t := by omega
        have htl : t < f.app.length := by omega
        obtain ⟨k, rfl⟩ := Int.eq_ofNat_of_zero_le ht0
        have hk : k < f.app.length := by omega
        have hk' : k < f.lost.length := by omega
        have hg := at_map (f := I) hk
        have hg' := at_map (f := B) hk'
        have hA := getD_at (d := 0) hk
        have hL := getD_at (d := false) hk'
        refine wpT_skip ?_
        refine wpT_seq ?_
        refine wpT_seq ?_
        refine wpT_region (by kernel_rfl) (fun K hK => ?_)
        simp only [↓SP, SX, SW, TY, EN, sv_w, ↓reduceIte, reduceCtorEq, Nat.reduceEqDiff, Nat.reduceAdd, Nat.reduceLeDiff, Nat.reduceLT, Fan.av, hg', hc13, hg18, hc24]
        refine hK _ _ ?_
        clear hK K
        refine wpT_if (by rfl) (fun hc30 => ?_) (fun hc30 => ?_)
        · skip
          have p30 := hc30
          try simp only [decide_eq_true_eq, decide_eq_false_iff_not, beq_iff_eq, bne_iff_ne, beq_eq_false_iff_ne, bne_eq_false_iff_eq, Bool.not_eq_true', Bool.not_eq_false'] at p30
          have hx : appliedE f k n = 17 := by rw [appliedE, if_neg h14, if_pos (by rw [hL]; exact p30)]
          have hy := appliedF_err hx (by omega)
          refine wpT_seq ?_
          refine wpT_region (by kernel_rfl) (fun K hK => ?_)
          simp only [↓SP, SX, SW, TY, EN, sv_w, ↓reduceIte, reduceCtorEq, Nat.reduceEqDiff, Nat.reduceAdd, Nat.reduceLeDiff, Nat.reduceLT, Fan.av, hc13, hg18, hc24, hc30]
          refine hK _ _ ?_
          clear hK K
          refine wpT_ret ⟨.inr rfl, ?_⟩
          show optK (resA _ _ _ [.cell 6 49, .tmp 7]) _
          simp only [SR, Option.map_some, Option.bind_some, ↓SP, SX, SW, TY, EN, sv_w, ↓reduceIte, reduceCtorEq, Nat.reduceEqDiff, Nat.reduceAdd, Nat.reduceLeDiff, Nat.reduceLT, Fan.av, hc13, hg18, hc24, hc30]
          rw [hy, hx]
          first
            | exact Lend.tupL (LendL.cons fan0_lend (LendL.cons (.refl _) LendL.nil))
            | exact .refl _
        · skip
          have p30 := hc30
          try simp only [decide_eq_true_eq, decide_eq_false_iff_not, beq_iff_eq, bne_iff_ne, beq_eq_false_iff_ne, bne_eq_false_iff_eq, Bool.not_eq_true', Bool.not_eq_false'] at p30
          have h17 : ¬ f.lost.getD (k : Int).toNat false = true := by rw [hL]; simp_all
          refine wpT_skip ?_
          refine wpT_seq ?_
          refine wpT_seq ?_
          refine wpT_region (by kernel_rfl) (fun K hK => ?_)
          simp only [↓SP, SX, SW, TY, EN, sv_w, ↓reduceIte, reduceCtorEq, Nat.reduceEqDiff, Nat.reduceAdd, Nat.reduceLeDiff, Nat.reduceLT, Fan.av, hg, hc13, hg18, hc24, hc30]
          refine hK _ _ ?_
          clear hK K
          refine wpT_if (by rfl) (fun hc38 => ?_) (fun hc38 => ?_)
          · skip
            have p38 := hc38
            try simp only [decide_eq_true_eq, decide_eq_false_iff_not, beq_iff_eq, bne_iff_ne, beq_eq_false_iff_ne, bne_eq_false_iff_eq, Bool.not_eq_true', Bool.not_eq_false'] at p38
            have hx : appliedE f k n = 2 := by rw [appliedE, if_neg h14, if_neg h17, if_pos (by rw [hA]; exact p38)]
            have hy := appliedF_err hx (by omega)
            refine wpT_seq ?_
            refine wpT_region (by kernel_rfl) (fun K hK => ?_)
            simp only [↓SP, SX, SW, TY, EN, sv_w, ↓reduceIte, reduceCtorEq, Nat.reduceEqDiff, Nat.reduceAdd, Nat.reduceLeDiff, Nat.reduceLT, Fan.av, hc13, hg18, hc24, hc30, hc38]
            refine hK _ _ ?_
            clear hK K
            refine wpT_ret ⟨.inr rfl, ?_⟩
            show optK (resA _ _ _ [.cell 6 49, .tmp 7]) _
            simp only [SR, Option.map_some, Option.bind_some, ↓SP, SX, SW, TY, EN, sv_w, ↓reduceIte, reduceCtorEq, Nat.reduceEqDiff, Nat.reduceAdd, Nat.reduceLeDiff, Nat.reduceLT, Fan.av, hc13, hg18, hc24, hc30, hc38]
            rw [hy, hx]
            first
              | exact Lend.tupL (LendL.cons fan0_lend (LendL.cons (.refl _) LendL.nil))
              | exact .refl _
          · skip
            have p38 := hc38
            try simp only [decide_eq_true_eq, decide_eq_false_iff_not, beq_iff_eq, bne_iff_ne, beq_eq_false_iff_ne, bne_eq_false_iff_eq, Bool.not_eq_true', Bool.not_eq_false'] at p38
            have h24 : ¬ n < f.app.getD (k : Int).toNat 0 := by rw [hA]; exact p38
            refine wpT_skip ?_
            refine wpT_seq ?_
            refine wpT_seq ?_
            refine wpT_region (by kernel_rfl) (fun K hK => ?_)
            simp only [↓SP, SX, SW, TY, EN, sv_w, ↓reduceIte, reduceCtorEq, Nat.reduceEqDiff, Nat.reduceAdd, Nat.reduceLeDiff, Nat.reduceLT, Fan.av, hg, hc13, hg18, hc24, hc30, hc38]
            refine guardO_split (fun hg47 => ?_) (fun hg47 => ?_)
            · skip
              have p47 := hg47
              try simp only [decide_eq_true_eq, decide_eq_false_iff_not, beq_iff_eq, bne_iff_ne, beq_eq_false_iff_ne, bne_eq_false_iff_eq, Bool.not_eq_true', Bool.not_eq_false'] at p47
              simp only [↓SP, SX, SW, TY, EN, sv_w, ↓reduceIte, reduceCtorEq, Nat.reduceEqDiff, Nat.reduceAdd, Nat.reduceLeDiff, Nat.reduceLT, Fan.av, hg, hc13, hg18, hc24, hc30, hc38, hg47]
              refine Pu.call (c97 f n hf.ok) ?_
              simp only [↓SP, SX, SW, TY, EN, sv_w, ↓reduceIte, reduceCtorEq, Nat.reduceEqDiff, Nat.reduceAdd, Nat.reduceLeDiff, Nat.reduceLT, Fan.av, hg, hc13, hg18, hc24, hc30, hc38, hg47]
              refine hK _ _ ?_
              clear hK K
              refine wpT_if (by rfl) (fun hc52 => ?_) (fun hc52 => ?_)
              · skip
                have p52 := hc52
                try simp only [decide_eq_true_eq, decide_eq_false_iff_not, beq_iff_eq, bne_iff_ne, beq_eq_false_iff_ne, bne_eq_false_iff_eq, Bool.not_eq_true', Bool.not_eq_false'] at p52
                have hx : appliedE f k n = 15 := by rw [appliedE, if_neg h14, if_neg h17, if_neg h24, if_pos (by rw [hA]; simp_all)]
                have hy := appliedF_err hx (by omega)
                refine wpT_seq ?_
                refine wpT_region (by kernel_rfl) (fun K hK => ?_)
                simp only [↓SP, SX, SW, TY, EN, sv_w, ↓reduceIte, reduceCtorEq, Nat.reduceEqDiff, Nat.reduceAdd, Nat.reduceLeDiff, Nat.reduceLT, Fan.av, hc13, hg18, hc24, hc30, hc38, hg47, hc52]
                refine hK _ _ ?_
                clear hK K
                refine wpT_ret ⟨.inr rfl, ?_⟩
                show optK (resA _ _ _ [.cell 6 49, .tmp 7]) _
                simp only [SR, Option.map_some, Option.bind_some, ↓SP, SX, SW, TY, EN, sv_w, ↓reduceIte, reduceCtorEq, Nat.reduceEqDiff, Nat.reduceAdd, Nat.reduceLeDiff, Nat.reduceLT, Fan.av, hc13, hg18, hc24, hc30, hc38, hg47, hc52]
                rw [hy, hx]
                first
                  | exact Lend.tupL (LendL.cons fan0_lend (LendL.cons (.refl _) LendL.nil))
                  | exact .refl _
              · skip
                have p52 := hc52
                try simp only [decide_eq_true_eq, decide_eq_false_iff_not, beq_iff_eq, bne_iff_ne, beq_eq_false_iff_ne, bne_eq_false_iff_eq, Bool.not_eq_true', Bool.not_eq_false'] at p52
                have hx : appliedE f k n = 0 := by rw [appliedE, if_neg h14, if_neg h17, if_neg h24, if_neg (by rw [hA]; simp_all)]
                have hy := appliedF_ok hx
                have hto : (k : Int).toNat = k := rfl
                have hkz : (k : Int) < (f.app.length : Int) := by omega
                have hkz' : (k : Int) < (f.lost.length : Int) := by omega
                have hkz0 : (0 : Int) ≤ (k : Int) := by omega
                rw [hto] at hy
                have hf2 : Fan.ok ⟨f.limit, f.kept, f.app.set k n, f.lost⟩ := ⟨hf.ok.1, by simpa using hf.ok.2.1, hf.ok.2.2.1, hf.ok.2.2.2⟩
                refine wpT_skip ?_
                refine wpT_seq ?_
                refine wpT_region (by kernel_rfl) (fun K hK => ?_)
                simp only [↓SP, SX, SW, TY, EN, sv_w, ↓reduceIte, reduceCtorEq, Nat.reduceEqDiff, Nat.reduceAdd, Nat.reduceLeDiff, Nat.reduceLT, Fan.av, hc13, hg18, hc24, hc30, hc38, hg47, hc52]
                refine cop_frame (c86 f hf ha1 (by omega)) ?_
                simp only [↓SP, SX, SW, TY, EN, sv_w, ↓reduceIte, reduceCtorEq, Nat.reduceEqDiff, Nat.reduceAdd, Nat.reduceLeDiff, Nat.reduceLT, Fan.av, hc13, hg18, hc24, hc30, hc38, hg47, hc52]
                refine hK _ _ ?_
                clear hK K
                refine wpT_seq ?_
                refine wpT_region (by kernel_rfl) (fun K hK => ?_)
                simp only [↓SP, SX, SW, TY, EN, sv_w, ↓reduceIte, reduceCtorEq, Nat.reduceEqDiff, Nat.reduceAdd, Nat.reduceLeDiff, Nat.reduceLT, Fan.av, stO_arr, app_set, Option.bind_some, Nat.le_refl, hg, hkz, hkz0, Int.toNat_natCast, hc13, hg18, hc24, hc30, hc38, hg47, hc52]
                refine hK _ _ ?_
                clear hK K
                refine wpT_lend2 (i := 1) (j := 5) (o := .arr 49 4 [.agg [I 0, .nil0, .nil0, .nil0]]) (E := 49) (s := 4) (cs := [I f.limit, .sl 2 f.kept.length 0 f.kept.length, .sl 3 f.app.length 0 f.app.length, .sl 4 f.lost.length 0 f.lost.length]) (cs' := [I f.limit, .lst (f.kept.map Cyc.av), .lst ((f.app.set k n).map I), .lst ((f.lost).map B)]) (by simp only [↓SP, SX, SW, TY, EN, sv_w, ↓reduceIte, reduceCtorEq, Nat.reduceEqDiff, Nat.reduceAdd, Nat.reduceLeDiff, Nat.reduceLT]) (by simp only [↓SP, SX, SW, TY, EN, sv_w, ↓reduceIte, reduceCtorEq, Nat.reduceEqDiff, Nat.reduceAdd, Nat.reduceLeDiff, Nat.reduceLT]) (by rfl) (fan_lendL (by simp only [↓SP, SX, SW, TY, EN, sv_w, ↓reduceIte, reduceCtorEq, Nat.reduceEqDiff, Nat.reduceAdd, Nat.reduceLeDiff, Nat.reduceLT]) (by simp only [↓SP, SX, SW, TY, EN, sv_w, ↓reduceIte, reduceCtorEq, Nat.reduceEqDiff, Nat.reduceAdd, Nat.reduceLeDiff, Nat.reduceLT, List.map_set]) (by simp only [↓SP, SX, SW, TY, EN, sv_w, ↓reduceIte, reduceCtorEq, Nat.reduceEqDiff, Nat.reduceAdd, Nat.reduceLeDiff, Nat.reduceLT, List.map_set]) rfl (by simp) (by simp)) ?_
                refine wpT_seq ?_
                refine wpT_region (by kernel_rfl) (fun K hK => ?_)
                simp only [↓SP, SX, SW, TY, EN, sv_w, ↓reduceIte, reduceCtorEq, Nat.reduceEqDiff, Nat.reduceAdd, Nat.reduceLeDiff, Nat.reduceLT, Fan.av, hc13, hg18, hc24, hc30, hc38, hg47, hc52]
                refine Pu.call (c88 ⟨f.limit, f.kept, f.app.set k n, f.lost⟩ hf2 (by simpa using hlen)) ?_
                simp only [↓SP, SX, SW, TY, EN, sv_w, ↓reduceIte, reduceCtorEq, Nat.reduceEqDiff, Nat.reduceAdd, Nat.reduceLeDiff, Nat.reduceLT, Fan.av, hc13, hg18, hc24, hc30, hc38, hg47, hc52]
                refine hK _ _ ?_
                clear hK K
                refine wpT_ret ⟨.inr rfl, ?_⟩
                show optK (resA _ _ _ [.cell 6 49, .tmp 7]) _
                simp only [SR, Option.map_some, Option.bind_some, ↓SP, SX, SW, TY, EN, sv_w, ↓reduceIte, reduceCtorEq, Nat.reduceEqDiff, Nat.reduceAdd, Nat.reduceLeDiff, Nat.reduceLT, Fan.av, hc13, hg18, hc24, hc30, hc38, hg47, hc52]
                rw [hy, hx]
                first
                  | exact Lend.tupL (LendL.cons fan0_lend (LendL.cons (.refl _) LendL.nil))
                  | exact .refl _
            · skip
              simp only [Bool.not_true, Bool.not_false] at hg47
              have p47 := hg47
              try simp only [decide_eq_true_eq, decide_eq_false_iff_not, beq_iff_eq, bne_iff_ne, beq_eq_false_iff_ne, bne_eq_false_iff_eq, Bool.not_eq_true', Bool.not_eq_false'] at p47
              simp only [↓SP, SX, SW, TY, EN, sv_w, ↓reduceIte, reduceCtorEq, Nat.reduceEqDiff, Nat.reduceAdd, Nat.reduceLeDiff, Nat.reduceLT, Fan.av, hg, hc13, hg18, hc24, hc30, hc38, hg47]
              refine hK _ _ ?_
              clear hK K
              refine wpT_ifF (by simp only [↓SP, SX, SW, TY, EN, sv_w, ↓reduceIte, reduceCtorEq, Nat.reduceEqDiff, Nat.reduceAdd, Nat.reduceLeDiff, Nat.reduceLT, Fan.av, hc13, hg18, hc24, hc30, hc38, hg47]) ?_
              have hx : appliedE f k n = 0 := by rw [appliedE, if_neg h14, if_neg h17, if_neg h24, if_neg (by rw [hA]; simp_all)]
              have hy := appliedF_ok hx
              have hto : (k : Int).toNat = k := rfl
              have hkz : (k : Int) < (f.app.length : Int) := by omega
              have hkz' : (k : Int) < (f.lost.length : Int) := by omega
              have hkz0 : (0 : Int) ≤ (k : Int) := by omega
              rw [hto] at hy
              have hf2 : Fan.ok ⟨f.limit, f.kept, f.app.set k n, f.lost⟩ := ⟨hf.ok.1, by simpa using hf.ok.2.1, hf.ok.2.2.1, hf.ok.2.2.2⟩
              refine wpT_skip ?_
              refine wpT_seq ?_
              refine wpT_region (by kernel_rfl) (fun K hK => ?_)
              simp only [↓SP, SX, SW, TY, EN, sv_w, ↓reduceIte, reduceCtorEq, Nat.reduceEqDiff, Nat.reduceAdd, Nat.reduceLeDiff, Nat.reduceLT, Fan.av, hc13, hg18, hc24, hc30, hc38, hg47]
              refine cop_frame (c86 f hf ha1 (by omega)) ?_
              simp only [↓SP, SX, SW, TY, EN, sv_w, ↓reduceIte, reduceCtorEq, Nat.reduceEqDiff, Nat.reduceAdd, Nat.reduceLeDiff, Nat.reduceLT, Fan.av, hc13, hg18, hc24, hc30, hc38, hg47]
              refine hK _ _ ?_
              clear hK K
              refine wpT_seq ?_
              refine wpT_region (by kernel_rfl) (fun K hK => ?_)
              simp only [↓SP, SX, SW, TY, EN, sv_w, ↓reduceIte, reduceCtorEq, Nat.reduceEqDiff, Nat.reduceAdd, Nat.reduceLeDiff, Nat.reduceLT, Fan.av, stO_arr, app_set, Option.bind_some, Nat.le_refl, hg, hkz, hkz0, Int.toNat_natCast, hc13, hg18, hc24, hc30, hc38, hg47]
              refine hK _ _ ?_
              clear hK K
              refine wpT_lend2 (i := 1) (j := 5) (o := .arr 49 4 [.agg [I 0, .nil0, .nil0, .nil0]]) (E := 49) (s := 4) (cs := [I f.limit, .sl 2 f.kept.length 0 f.kept.length, .sl 3 f.app.length 0 f.app.length, .sl 4 f.lost.length 0 f.lost.length]) (cs' := [I f.limit, .lst (f.kept.map Cyc.av), .lst ((f.app.set k n).map I), .lst ((f.lost).map B)]) (by simp only [↓SP, SX, SW, TY, EN, sv_w, ↓reduceIte, reduceCtorEq, Nat.reduceEqDiff, Nat.reduceAdd, Nat.reduceLeDiff, Nat.reduceLT]) (by simp only [↓SP, SX, SW, TY, EN, sv_w, ↓reduceIte, reduceCtorEq, Nat.reduceEqDiff, Nat.reduceAdd, Nat.reduceLeDiff, Nat.reduceLT]) (by rfl) (fan_lendL (by simp only [↓SP, SX, SW, TY, EN, sv_w, ↓reduceIte, reduceCtorEq, Nat.reduceEqDiff, Nat.reduceAdd, Nat.reduceLeDiff, Nat.reduceLT]) (by simp only [↓SP, SX, SW, TY, EN, sv_w, ↓reduceIte, reduceCtorEq, Nat.reduceEqDiff, Nat.reduceAdd, Nat.reduceLeDiff, Nat.reduceLT, List.map_set]) (by simp only [↓SP, SX, SW, TY, EN, sv_w, ↓reduceIte, reduceCtorEq, Nat.reduceEqDiff, Nat.reduceAdd, Nat.reduceLeDiff, Nat.reduceLT, List.map_set]) rfl (by simp) (by simp)) ?_
              refine wpT_seq ?_
              refine wpT_region (by kernel_rfl) (fun K hK => ?_)
              simp only [↓SP, SX, SW, TY, EN, sv_w, ↓reduceIte, reduceCtorEq, Nat.reduceEqDiff, Nat.reduceAdd, Nat.reduceLeDiff, Nat.reduceLT, Fan.av, hc13, hg18, hc24, hc30, hc38, hg47]
              refine Pu.call (c88 ⟨f.limit, f.kept, f.app.set k n, f.lost⟩ hf2 (by simpa using hlen)) ?_
              simp only [↓SP, SX, SW, TY, EN, sv_w, ↓reduceIte, reduceCtorEq, Nat.reduceEqDiff, Nat.reduceAdd, Nat.reduceLeDiff, Nat.reduceLT, Fan.av, hc13, hg18, hc24, hc30, hc38, hg47]
              refine hK _ _ ?_
              clear hK K
              refine wpT_ret ⟨.inr rfl, ?_⟩
              show optK (resA _ _ _ [.cell 6 49, .tmp 7]) _
              simp only [SR, Option.map_some, Option.bind_some, ↓SP, SX, SW, TY, EN, sv_w, ↓reduceIte, reduceCtorEq, Nat.reduceEqDiff, Nat.reduceAdd, Nat.reduceLeDiff, Nat.reduceLT, Fan.av, hc13, hg18, hc24, hc30, hc38, hg47]
              rw [hy, hx]
              first
                | exact Lend.tupL (LendL.cons fan0_lend (LendL.cons (.refl _) LendL.nil))
                | exact .refl _
    · skip
      simp only [Bool.not_true, Bool.not_false] at hg18
      have p18 := hg18
      try simp only [decide_eq_true_eq, decide_eq_false_iff_not, beq_iff_eq, bne_iff_ne, beq_eq_false_iff_ne, bne_eq_false_iff_eq, Bool.not_eq_true', Bool.not_eq_false'] at p18
      simp only [↓SP, SX, SW, TY, EN, sv_w, ↓reduceIte, reduceCtorEq, Nat.reduceEqDiff, Nat.reduceAdd, Nat.reduceLeDiff, Nat.reduceLT, Fan.av, hc13, hg18]
      refine hK _ _ ?_
      clear hK K
      refine wpT_ifT (by simp only [↓SP, SX, SW, TY, EN, sv_w, ↓reduceIte, reduceCtorEq, Nat.reduceEqDiff, Nat.reduceAdd, Nat.reduceLeDiff, Nat.reduceLT, Fan.av, hc13, hg18]) ?_
      obtain ⟨hx, hy⟩ := applied_ex (n := n) (exists_seven (t := t) hc (by omega)) (by omega)
      refine wpT_seq ?_
      refine wpT_region (by kernel_rfl) (fun K hK => ?_)
      simp only [↓SP, SX, SW, TY, EN, sv_w, ↓reduceIte, reduceCtorEq, Nat.reduceEqDiff, Nat.reduceAdd, Nat.reduceLeDiff, Nat.reduceLT, Fan.av, hc13, hg18]
      refine hK _ _ ?_
      clear hK K
      refine wpT_ret ⟨.inr rfl, ?_⟩
      show optK (resA _ _ _ [.cell 6 49, .tmp 7]) _
      simp only [SR, Option.map_some, Option.bind_some, ↓SP, SX, SW, TY, EN, sv_w, ↓reduceIte, reduceCtorEq, Nat.reduceEqDiff, Nat.reduceAdd, Nat.reduceLeDiff, Nat.reduceLT, Fan.av, hc13, hg18]
      rw [hy, hx]
      first
        | exact Lend.tupL (LendL.cons fan0_lend (LendL.cons (.refl _) LendL.nil))
        | exact .refl _
theorem c36 (f : Fan) (t n : Int) (hf : f.sm) : Pu Tryz.prog (.fn (.func 36) [] []) [f.av, I t, I n] (.tup [(joinF f t n).av, I (joinE f t n)]) := by
  refine pu_func Tryz.func36 rfl (by kernel_rfl) (by show _ ≤ 62; simp only [List.length_append, List.length_cons, List.length_nil]; decide) (by simp only [IDF, fan_idf, cyc_idf, and_tt]) (by simp only [IDF, and_tt, implies_true]) (by simp only [IDF, fan_idf, and_tt, implies_true]) ?_
  rw [Tryz.ntmps36]
  refine wpT_seq ?_
  refine wpT_region (by kernel_rfl) (fun K hK => ?_)
  simp only [↓SP, SX, SW, TY, EN, sv_w, ↓reduceIte, reduceCtorEq, Nat.reduceEqDiff, Nat.reduceAdd, Nat.reduceLeDiff, Nat.reduceLT, Fan.av]
  refine hK _ _ ?_
  clear hK K
  refine wpT_seq ?_
  refine wpT_seq ?_
  refine wpT_region (by kernel_rfl) (fun K hK => ?_)
  simp only [↓SP, SX, SW, TY, EN, sv_w, ↓reduceIte, reduceCtorEq, Nat.reduceEqDiff, Nat.reduceAdd, Nat.reduceLeDiff, Nat.reduceLT, Fan.av]
  refine Pu.call (c81 f hf.ok) ?_
  simp only [↓SP, SX, SW, TY, EN, sv_w, ↓reduceIte, reduceCtorEq, Nat.reduceEqDiff, Nat.reduceAdd, Nat.reduceLeDiff, Nat.reduceLT, Fan.av]
  refine hK _ _ ?_
  clear hK K
  refine wpT_seq ?_
  refine wpT_region (by kernel_rfl) (fun K hK => ?_)
  simp only [↓SP, SX, SW, TY, EN, sv_w, ↓reduceIte, reduceCtorEq, Nat.reduceEqDiff, Nat.reduceAdd, Nat.reduceLeDiff, Nat.reduceLT, Fan.av]
  refine hK _ _ ?_
  clear hK K
  refine wpT_if (by rfl) (fun hc13 => ?_) (fun hc13 => ?_)
  · skip
    have p13 := hc13
    try simp only [decide_eq_true_eq, decide_eq_false_iff_not, beq_iff_eq, bne_iff_ne, beq_eq_false_iff_ne, bne_eq_false_iff_eq, Bool.not_eq_true', Bool.not_eq_false'] at p13
    obtain ⟨hx, hy⟩ := join_ex (n := n) (exists_chk (t := t) p13) p13
    refine wpT_seq ?_
    refine wpT_region (by kernel_rfl) (fun K hK => ?_)
    simp only [↓SP, SX, SW, TY, EN, sv_w, ↓reduceIte, reduceCtorEq, Nat.reduceEqDiff, Nat.reduceAdd, Nat.reduceLeDiff, Nat.reduceLT, Fan.av, hc13]
    refine hK _ _ ?_
    clear hK K
    refine wpT_ret ⟨.inr rfl, ?_⟩
    show optK (resA _ _ _ [.cell 6 49, .tmp 7]) _
    simp only [SR, Option.map_some, Option.bind_some, ↓SP, SX, SW, TY, EN, sv_w, ↓reduceIte, reduceCtorEq, Nat.reduceEqDiff, Nat.reduceAdd, Nat.reduceLeDiff, Nat.reduceLT, Fan.av, hc13]
    rw [hy, hx]
    first
      | exact Lend.tupL (LendL.cons fan0_lend (LendL.cons (.refl _) LendL.nil))
      | exact Lend.tupL (LendL.cons (Lend.aggL (fan_lendL (by simp only [↓SP, SX, SW, TY, EN, sv_w, ↓reduceIte, reduceCtorEq, Nat.reduceEqDiff, Nat.reduceAdd, Nat.reduceLeDiff, Nat.reduceLT]) (by simp only [↓SP, SX, SW, TY, EN, sv_w, ↓reduceIte, reduceCtorEq, Nat.reduceEqDiff, Nat.reduceAdd, Nat.reduceLeDiff, Nat.reduceLT, List.map_set]) (by simp only [↓SP, SX, SW, TY, EN, sv_w, ↓reduceIte, reduceCtorEq, Nat.reduceEqDiff, Nat.reduceAdd, Nat.reduceLeDiff, Nat.reduceLT, List.map_set]) rfl (by simp) (by simp))) (LendL.cons (.refl _) LendL.nil))
  · skip
    have p13 := hc13
    try simp only [decide_eq_true_eq, decide_eq_false_iff_not, beq_iff_eq, bne_iff_ne, beq_eq_false_iff_ne, bne_eq_false_iff_eq, Bool.not_eq_true', Bool.not_eq_false'] at p13
    have hc : chkF f = 0 := by omega
    have hlen := chkF_len hc
    obtain ⟨ha1, ha0⟩ := chkF_ge hc
    refine wpT_skip ?_
    refine wpT_seq ?_
    refine wpT_seq ?_
    refine wpT_region (by kernel_rfl) (fun K hK => ?_)
    simp only [↓SP, SX, SW, TY, EN, sv_w, ↓reduceIte, reduceCtorEq, Nat.reduceEqDiff, Nat.reduceAdd, Nat.reduceLeDiff, Nat.reduceLT, Fan.av, hc13]
    refine guardO_split (fun hg18 => ?_) (fun hg18 => ?_)
    · skip
      have p18 := hg18
      try simp only [decide_eq_true_eq, decide_eq_false_iff_not, beq_iff_eq, bne_iff_ne, beq_eq_false_iff_ne, bne_eq_false_iff_eq, Bool.not_eq_true', Bool.not_eq_false'] at p18
      simp only [↓SP, SX, SW, TY, EN, sv_w, ↓reduceIte, reduceCtorEq, Nat.reduceEqDiff, Nat.reduceAdd, Nat.reduceLeDiff, Nat.reduceLT, Fan.av, hc13, hg18]
      refine hK _ _ ?_
      clear hK K
      refine wpT_if (by rfl) (fun hc24 => ?_) (fun hc24 => ?_)
      · skip
        have p24 := hc24
        try simp only [decide_eq_true_eq, decide_eq_false_iff_not, beq_iff_eq, bne_iff_ne, beq_eq_false_iff_ne, bne_eq_false_iff_eq, Bool.not_eq_true', Bool.not_eq_false'] at p24
        obtain ⟨hx, hy⟩ := join_ex (n := n) (exists_seven (t := t) hc (by omega)) (by omega)
        refine wpT_seq ?_
        refine wpT_region (by kernel_rfl) (fun K hK => ?_)
        simp only [↓SP, SX, SW, TY, EN, sv_w, ↓reduceIte, reduceCtorEq, Nat.reduceEqDiff, Nat.reduceAdd, Nat.reduceLeDiff, Nat.reduceLT, Fan.av, hc13, hg18, hc24]
        refine hK _ _ ?_
        clear hK K
        refine wpT_ret ⟨.inr rfl, ?_⟩
        show optK (resA _ _ _ [.cell 6 49, .tmp 7]) _
        simp only [SR, Option.map_some, Option.bind_some, ↓SP, SX, SW, TY, EN, sv_w, ↓reduceIte, reduceCtorEq, Nat.reduceEqDiff, Nat.reduceAdd, Nat.reduceLeDiff, Nat.reduceLT, Fan.av, hc13, hg18, hc24]
        rw [hy, hx]
        first
          | exact Lend.tupL (LendL.cons fan0_lend (LendL.cons (.refl _) LendL.nil))
          | exact Lend.tupL (LendL.cons (Lend.aggL (fan_lendL (by simp only [↓SP, SX, SW, TY, EN, sv_w, ↓reduceIte, reduceCtorEq, Nat.reduceEqDiff, Nat.reduceAdd, Nat.reduceLeDiff, Nat.reduceLT]) (by simp only [↓SP, SX, SW, TY, EN, sv_w, ↓reduceIte, reduceCtorEq, Nat.reduceEqDiff, Nat.reduceAdd, Nat.reduceLeDiff, Nat.reduceLT, List.map_set]) (by simp only [↓SP, SX, SW, TY, EN, sv_w, ↓reduceIte, reduceCtorEq, Nat.reduceEqDiff, Nat.reduceAdd, Nat.reduceLeDiff, Nat.reduceLT, List.map_set]) rfl (by simp) (by simp))) (LendL.cons (.refl _) LendL.nil))
      · skip
        have p24 := hc24
        try simp only [decide_eq_true_eq, decide_eq_false_iff_not, beq_iff_eq, bne_iff_ne, beq_eq_false_iff_ne, bne_eq_false_iff_eq, Bool.not_eq_true', Bool.not_eq_false'] at p24
        have h14 : ¬ existsE f t ≠ 0 := by rw [exists_zero hc (by omega)]; simp
        have ht0 : 0 ≤ t := by omega
        have htl : t < f.app.length := by omega
        obtain ⟨k, rfl⟩ := Int.eq_ofNat_of_zero_le ht0
        have hk : k < f.app.length := by omega
        have hk' : k < f.lost.length := by omega
        have hg := at_map (f := I) hk
        have hg' := at_map (f := B) hk'
        have hA := getD_at (d := 0) hk
        have hL := getD_at (d := false) hk'
        refine wpT_skip ?_
        refine wpT_seq ?_
        refine wpT_seq ?_
        refine wpT_region (by kernel_rfl) (fun K hK => ?_)
        simp only [↓SP, SX, SW, TY, EN, sv_w, ↓reduceIte, reduceCtorEq, Nat.reduceEqDiff, Nat.reduceAdd, Nat.reduceLeDiff, Nat.reduceLT, Fan.av, hg', hc13, hg18, hc24]
        refine hK _ _ ?_
        clear hK K
        refine wpT_if (by rfl) (fun hc31 => ?_) (fun hc31 => ?_)
        · skip
          have p31 := hc31
          try simp only [decide_eq_true_eq, decide_eq_false_iff_not, beq_iff_eq, bne_iff_ne, beq_eq_false_iff_ne, bne_eq_false_iff_eq, Bool.not_eq_true', Bool.not_eq_false'] at p31
          have hx : joinE f k n = 12 := by rw [joinE, if_neg h14, if_pos (by rw [hL]; simp_all)]
          have hy := joinF_err hx (by omega)
          refine wpT_seq ?_
          refine wpT_region (by kernel_rfl) (fun K hK => ?_)
          simp only [↓SP, SX, SW, TY, EN, sv_w, ↓reduceIte, reduceCtorEq, Nat.reduceEqDiff, Nat.reduceAdd, Nat.reduceLeDiff, Nat.reduceLT, Fan.av, hc13, hg18, hc24, hc31]
          refine hK _ _ ?_
          clear hK K
          refine wpT_ret ⟨.inr rfl, ?_⟩
          show optK (resA _ _ _ [.cell 6 49, .tmp 7]) _
          simp only [SR, Option.map_some, Option.bind_some, ↓SP, SX, SW, TY, EN, sv_w, ↓reduceIte, reduceCtorEq, Nat.reduceEqDiff, Nat.reduceAdd, Nat.reduceLeDiff, Nat.reduceLT, Fan.av, hc13, hg18, hc24, hc31]
          rw [hy, hx]
          first
            | exact Lend.tupL (LendL.cons fan0_lend (LendL.cons (.refl _) LendL.nil))
            | exact Lend.tupL (LendL.cons (Lend.aggL (fan_lendL (by simp only [↓SP, SX, SW, TY, EN, sv_w, ↓reduceIte, reduceCtorEq, Nat.reduceEqDiff, Nat.reduceAdd, Nat.reduceLeDiff, Nat.reduceLT]) (by simp only [↓SP, SX, SW, TY, EN, sv_w, ↓reduceIte, reduceCtorEq, Nat.reduceEqDiff, Nat.reduceAdd, Nat.reduceLeDiff, Nat.reduceLT, List.map_set]) (by simp only [↓SP, SX, SW, TY, EN, sv_w, ↓reduceIte, reduceCtorEq, Nat.reduceEqDiff, Nat.reduceAdd, Nat.reduceLeDiff, Nat.reduceLT, List.map_set]) rfl (by simp) (by simp))) (LendL.cons (.refl _) LendL.nil))
        · skip
          have p31 := hc31
          try simp only [decide_eq_true_eq, decide_eq_false_iff_not, beq_iff_eq, bne_iff_ne, beq_eq_false_iff_ne, bne_eq_false_iff_eq, Bool.not_eq_true', Bool.not_eq_false'] at p31
          have h17 : ¬ f.lost.getD (k : Int).toNat false = false := by rw [hL]; simp_all
          refine wpT_skip ?_
          refine wpT_seq ?_
          refine wpT_seq ?_
          refine wpT_region (by kernel_rfl) (fun K hK => ?_)
          simp only [↓SP, SX, SW, TY, EN, sv_w, ↓reduceIte, reduceCtorEq, Nat.reduceEqDiff, Nat.reduceAdd, Nat.reduceLeDiff, Nat.reduceLT, Fan.av, hc13, hg18, hc24, hc31]
          refine Pu.call (c82 f hf.ok hlen) ?_
          simp only [↓SP, SX, SW, TY, EN, sv_w, ↓reduceIte, reduceCtorEq, Nat.reduceEqDiff, Nat.reduceAdd, Nat.reduceLeDiff, Nat.reduceLT, Fan.av, hc13, hg18, hc24, hc31]
          refine hK _ _ ?_
          clear hK K
          refine wpT_if (by rfl) (fun hc35 => ?_) (fun hc35 => ?_)
          · skip
            have p35 := hc35
            try simp only [decide_eq_true_eq, decide_eq_false_iff_not, beq_iff_eq, bne_iff_ne, beq_eq_false_iff_ne, bne_eq_false_iff_eq, Bool.not_eq_true', Bool.not_eq_false'] at p35
            refine wpT_seq ?_
            refine wpT_region (by kernel_rfl) (fun K hK => ?_)
            simp only [↓SP, SX, SW, TY, EN, sv_w, ↓reduceIte, reduceCtorEq, Nat.reduceEqDiff, Nat.reduceAdd, Nat.reduceLeDiff, Nat.reduceLT, Fan.av, hc13, hg18, hc24, hc31, hc35]
            refine Pu.call (c99 f n hf.ok) ?_
            simp only [↓SP, SX, SW, TY, EN, sv_w, ↓reduceIte, reduceCtorEq, Nat.reduceEqDiff, Nat.reduceAdd, Nat.reduceLeDiff, Nat.reduceLT, Fan.av, hc13, hg18, hc24, hc31, hc35]
            refine hK _ _ ?_
            clear hK K
            refine wpT_if (by rfl) (fun hc39 => ?_) (fun hc39 => ?_)
            · skip
              have p39 := hc39
              try simp only [decide_eq_true_eq, decide_eq_false_iff_not, beq_iff_eq, bne_iff_ne, beq_eq_false_iff_ne, bne_eq_false_iff_eq, Bool.not_eq_true', Bool.not_eq_false'] at p39
              have hx : joinE f k n = 15 := by rw [joinE, if_neg h14, if_neg h17, if_pos ⟨by omega, by simp_all⟩]
              have hy := joinF_err hx (by omega)
              refine wpT_seq ?_
              refine wpT_region (by kernel_rfl) (fun K hK => ?_)
              simp only [↓SP, SX, SW, TY, EN, sv_w, ↓reduceIte, reduceCtorEq, Nat.reduceEqDiff, Nat.reduceAdd, Nat.reduceLeDiff, Nat.reduceLT, Fan.av, hc13, hg18, hc24, hc31, hc35, hc39]
              refine hK _ _ ?_
              clear hK K
              refine wpT_ret ⟨.inr rfl, ?_⟩
              show optK (resA _ _ _ [.cell 6 49, .tmp 7]) _
              simp only [SR, Option.map_some, Option.bind_some, ↓SP, SX, SW, TY, EN, sv_w, ↓reduceIte, reduceCtorEq, Nat.reduceEqDiff, Nat.reduceAdd, Nat.reduceLeDiff, Nat.reduceLT, Fan.av, hc13, hg18, hc24, hc31, hc35, hc39]
              rw [hy, hx]
              first
                | exact Lend.tupL (LendL.cons fan0_lend (LendL.cons (.refl _) LendL.nil))
                | exact Lend.tupL (LendL.cons (Lend.aggL (fan_lendL (by simp only [↓SP, SX, SW, TY, EN, sv_w, ↓reduceIte, reduceCtorEq, Nat.reduceEqDiff, Nat.reduceAdd, Nat.reduceLeDiff, Nat.reduceLT]) (by simp only [↓SP, SX, SW, TY, EN, sv_w, ↓reduceIte, reduceCtorEq, Nat.reduceEqDiff, Nat.reduceAdd, Nat.reduceLeDiff, Nat.reduceLT, List.map_set]) (by simp only [↓SP, SX, SW, TY, EN, sv_w, ↓reduceIte, reduceCtorEq, Nat.reduceEqDiff, Nat.reduceAdd, Nat.reduceLeDiff, Nat.reduceLT, List.map_set]) rfl (by simp) (by simp))) (LendL.cons (.refl _) LendL.nil))
            · skip
              have p39 := hc39
              try simp only [decide_eq_true_eq, decide_eq_false_iff_not, beq_iff_eq, bne_iff_ne, beq_eq_false_iff_ne, bne_eq_false_iff_eq, Bool.not_eq_true', Bool.not_eq_false'] at p39
              have hx : joinE f k n = 0 := by rw [joinE, if_neg h14, if_neg h17, if_neg (by simp_all), if_neg (by omega)]
              have hy := joinF_ok hx
              have hto : (k : Int).toNat = k := rfl
              have hkz : (k : Int) < (f.app.length : Int) := by omega
              have hkz' : (k : Int) < (f.lost.length : Int) := by omega
              have hkz0 : (0 : Int) ≤ (k : Int) := by omega
              rw [hto] at hy
              refine wpT_skip ?_
              refine wpT_seq ?_
              refine wpT_region (by kernel_rfl) (fun K hK => ?_)
              simp only [↓SP, SX, SW, TY, EN, sv_w, ↓reduceIte, reduceCtorEq, Nat.reduceEqDiff, Nat.reduceAdd, Nat.reduceLeDiff, Nat.reduceLT, Fan.av, hc13, hg18, hc24, hc31, hc35, hc39]
              refine cop_frame (c86 f hf ha1 (by omega)) ?_
              simp only [↓SP, SX, SW, TY, EN, sv_w, ↓reduceIte, reduceCtorEq, Nat.reduceEqDiff, Nat.reduceAdd, Nat.reduceLeDiff, Nat.reduceLT, Fan.av, hc13, hg18, hc24, hc31, hc35, hc39]
              refine hK _ _ ?_
              clear hK K
              refine wpT_seq ?_
              refine wpT_drawn [(3, 8), (4, 8)] mixed (by kernel_rfl) (m := 11) rfl (fun K hK => ?_)
              simp only [↓SP, SX, SW, TY, EN, sv_w, ↓reduceIte, reduceCtorEq, Nat.reduceEqDiff, Nat.reduceAdd, Nat.reduceLeDiff, Nat.reduceLT, Fan.av, stO_arr, app_set, Option.bind_some, Nat.le_refl, hg, hg', hkz, hkz', hkz0, Int.toNat_natCast, List.cons_append, List.mem_singleton, hc13, hg18, hc24, hc31, hc35, hc39]
              refine hK _ _ ?_
              clear hK K
              refine wpT_seq ?_
              refine wpT_region (by kernel_rfl) (fun K hK => ?_)
              simp only [↓SP, SX, SW, TY, EN, sv_w, ↓reduceIte, reduceCtorEq, Nat.reduceEqDiff, Nat.reduceAdd, Nat.reduceLeDiff, Nat.reduceLT, Fan.av, hc13, hg18, hc24, hc31, hc35, hc39]
              refine hK _ _ ?_
              clear hK K
              refine wpT_ret ⟨.inr rfl, ?_⟩
              show optK (resA _ _ _ [.cell 6 49, .tmp 7]) _
              simp only [SR, Option.map_some, Option.bind_some, ↓SP, SX, SW, TY, EN, sv_w, ↓reduceIte, reduceCtorEq, Nat.reduceEqDiff, Nat.reduceAdd, Nat.reduceLeDiff, Nat.reduceLT, Fan.av, hc13, hg18, hc24, hc31, hc35, hc39]
              rw [hy, hx]
              first
                | exact Lend.tupL (LendL.cons fan0_lend (LendL.cons (.refl _) LendL.nil))
                | exact Lend.tupL (LendL.cons (Lend.aggL (fan_lendL (by simp only [↓SP, SX, SW, TY, EN, sv_w, ↓reduceIte, reduceCtorEq, Nat.reduceEqDiff, Nat.reduceAdd, Nat.reduceLeDiff, Nat.reduceLT]) (by simp only [↓SP, SX, SW, TY, EN, sv_w, ↓reduceIte, reduceCtorEq, Nat.reduceEqDiff, Nat.reduceAdd, Nat.reduceLeDiff, Nat.reduceLT, List.map_set]) (by simp only [↓SP, SX, SW, TY, EN, sv_w, ↓reduceIte, reduceCtorEq, Nat.reduceEqDiff, Nat.reduceAdd, Nat.reduceLeDiff, Nat.reduceLT, List.map_set]) rfl (by simp) (by simp))) (LendL.cons (.refl _) LendL.nil))
          · skip
            have p35 := hc35
            try simp only [decide_eq_true_eq, decide_eq_false_iff_not, beq_iff_eq, bne_iff_ne, beq_eq_false_iff_ne, bne_eq_false_iff_eq, Bool.not_eq_true', Bool.not_eq_false'] at p35
            refine wpT_seq ?_
            refine wpT_region (by kernel_rfl) (fun K hK => ?_)
            simp only [↓SP, SX, SW, TY, EN, sv_w, ↓reduceIte, reduceCtorEq, Nat.reduceEqDiff, Nat.reduceAdd, Nat.reduceLeDiff, Nat.reduceLT, Fan.av, hc13, hg18, hc24, hc31, hc35]
            refine Pu.call (c85 f hf.ok) ?_
            simp only [↓SP, SX, SW, TY, EN, sv_w, ↓reduceIte, reduceCtorEq, Nat.reduceEqDiff, Nat.reduceAdd, Nat.reduceLeDiff, Nat.reduceLT, Fan.av, hc13, hg18, hc24, hc31, hc35]
            refine guardO_split (fun hg45 => ?_) (fun hg45 => ?_)
            · skip
              have p45 := hg45
              try simp only [decide_eq_true_eq, decide_eq_false_iff_not, beq_iff_eq, bne_iff_ne, beq_eq_false_iff_ne, bne_eq_false_iff_eq, Bool.not_eq_true', Bool.not_eq_false'] at p45
              simp only [↓SP, SX, SW, TY, EN, sv_w, ↓reduceIte, reduceCtorEq, Nat.reduceEqDiff, Nat.reduceAdd, Nat.reduceLeDiff, Nat.reduceLT, Fan.av, hc13, hg18, hc24, hc31, hc35, hg45]
              refine hK _ _ ?_
              clear hK K
              refine wpT_if (by rfl) (fun hc48 => ?_) (fun hc48 => ?_)
              · skip
                have p48 := hc48
                try simp only [decide_eq_true_eq, decide_eq_false_iff_not, beq_iff_eq, bne_iff_ne, beq_eq_false_iff_ne, bne_eq_false_iff_eq, Bool.not_eq_true', Bool.not_eq_false'] at p48
                have hx : joinE f k n = 2 := by rw [joinE, if_neg h14, if_neg h17, if_neg (by omega), if_pos (by omega)]
                have hy := joinF_err hx (by omega)
                refine wpT_seq ?_
                refine wpT_region (by kernel_rfl) (fun K hK => ?_)
                simp only [↓SP, SX, SW, TY, EN, sv_w, ↓reduceIte, reduceCtorEq, Nat.reduceEqDiff, Nat.reduceAdd, Nat.reduceLeDiff, Nat.reduceLT, Fan.av, hc13, hg18, hc24, hc31, hc35, hg45, hc48]
                refine hK _ _ ?_
                clear hK K
                refine wpT_ret ⟨.inr rfl, ?_⟩
                show optK (resA _ _ _ [.cell 6 49, .tmp 7]) _
                simp only [SR, Option.map_some, Option.bind_some, ↓SP, SX, SW, TY, EN, sv_w, ↓reduceIte, reduceCtorEq, Nat.reduceEqDiff, Nat.reduceAdd, Nat.reduceLeDiff, Nat.reduceLT, Fan.av, hc13, hg18, hc24, hc31, hc35, hg45, hc48]
                rw [hy, hx]
                first
                  | exact Lend.tupL (LendL.cons fan0_lend (LendL.cons (.refl _) LendL.nil))
                  | exact Lend.tupL (LendL.cons (Lend.aggL (fan_lendL (by simp only [↓SP, SX, SW, TY, EN, sv_w, ↓reduceIte, reduceCtorEq, Nat.reduceEqDiff, Nat.reduceAdd, Nat.reduceLeDiff, Nat.reduceLT]) (by simp only [↓SP, SX, SW, TY, EN, sv_w, ↓reduceIte, reduceCtorEq, Nat.reduceEqDiff, Nat.reduceAdd, Nat.reduceLeDiff, Nat.reduceLT, List.map_set]) (by simp only [↓SP, SX, SW, TY, EN, sv_w, ↓reduceIte, reduceCtorEq, Nat.reduceEqDiff, Nat.reduceAdd, Nat.reduceLeDiff, Nat.reduceLT, List.map_set]) rfl (by simp) (by simp))) (LendL.cons (.refl _) LendL.nil))
              · skip
                have p48 := hc48
                try simp only [decide_eq_true_eq, decide_eq_false_iff_not, beq_iff_eq, bne_iff_ne, beq_eq_false_iff_ne, bne_eq_false_iff_eq, Bool.not_eq_true', Bool.not_eq_false'] at p48
                have hx : joinE f k n = 0 := by rw [joinE, if_neg h14, if_neg h17, if_neg (by omega), if_neg (by omega)]
                have hy := joinF_ok hx
                have hto : (k : Int).toNat = k := rfl
                have hkz : (k : Int) < (f.app.length : Int) := by omega
                have hkz' : (k : Int) < (f.lost.length : Int) := by omega
                have hkz0 : (0 : Int) ≤ (k : Int) := by omega
                rw [hto] at hy
                refine wpT_skip ?_
                refine wpT_seq ?_
                refine wpT_region (by kernel_rfl) (fun K hK => ?_)
                simp only [↓SP, SX, SW, TY, EN, sv_w, ↓reduceIte, reduceCtorEq, Nat.reduceEqDiff, Nat.reduceAdd, Nat.reduceLeDiff, Nat.reduceLT, Fan.av, hc13, hg18, hc24, hc31, hc35, hg45, hc48]
                refine cop_frame (c86 f hf ha1 (by omega)) ?_
                simp only [↓SP, SX, SW, TY, EN, sv_w, ↓reduceIte, reduceCtorEq, Nat.reduceEqDiff, Nat.reduceAdd, Nat.reduceLeDiff, Nat.reduceLT, Fan.av, hc13, hg18, hc24, hc31, hc35, hg45, hc48]
                refine hK _ _ ?_
                clear hK K
                refine wpT_seq ?_
                refine wpT_drawn [(3, 8), (4, 8)] mixed (by kernel_rfl) (m := 11) rfl (fun K hK => ?_)
                simp only [↓SP, SX, SW, TY, EN, sv_w, ↓reduceIte, reduceCtorEq, Nat.reduceEqDiff, Nat.reduceAdd, Nat.reduceLeDiff, Nat.reduceLT, Fan.av, stO_arr, app_set, Option.bind_some, Nat.le_refl, hg, hg', hkz, hkz', hkz0, Int.toNat_natCast, List.cons_append, List.mem_singleton, hc13, hg18, hc24, hc31, hc35, hg45, hc48]
                refine hK _ _ ?_
                clear hK K
                refine wpT_seq ?_
                refine wpT_region (by kernel_rfl) (fun K hK => ?_)
                simp only [↓SP, SX, SW, TY, EN, sv_w, ↓reduceIte, reduceCtorEq, Nat.reduceEqDiff, Nat.reduceAdd, Nat.reduceLeDiff, Nat.reduceLT, Fan.av, hc13, hg18, hc24, hc31, hc35, hg45, hc48]
                refine hK _ _ ?_
                clear hK K
                refine wpT_ret ⟨.inr rfl, ?_⟩
                show optK (resA _ _ _ [.cell 6 49, .tmp 7]) _
                simp only [SR, Option.map_some, Option.bind_some, ↓SP, SX, SW, TY, EN, sv_w, ↓reduceIte, reduceCtorEq, Nat.reduceEqDiff, Nat.reduceAdd, Nat.reduceLeDiff, Nat.reduceLT, Fan.av, hc13, hg18, hc24, hc31, hc35, hg45, hc48]
                rw [hy, hx]
                first
                  | exact Lend.tupL (LendL.cons fan0_lend (LendL.cons (.refl _) LendL.nil))
                  | exact Lend.tupL (LendL.cons (Lend.aggL (fan_lendL (by simp only [↓SP, SX, SW, TY, EN, sv_w, ↓reduceIte, reduceCtorEq, Nat.reduceEqDiff, Nat.reduceAdd, Nat.reduceLeDiff, Nat.reduceLT]) (by simp only [↓SP, SX, SW, TY, EN, sv_w, ↓reduceIte, reduceCtorEq, Nat.reduceEqDiff, Nat.reduceAdd, Nat.reduceLeDiff, Nat.reduceLT, List.map_set]) (by simp only [↓SP, SX, SW, TY, EN, sv_w, ↓reduceIte, reduceCtorEq, Nat.reduceEqDiff, Nat.reduceAdd, Nat.reduceLeDiff, Nat.reduceLT, List.map_set]) rfl (by simp) (by simp))) (LendL.cons (.refl _) LendL.nil))
            · skip
              simp only [Bool.not_true, Bool.not_false] at hg45
              have p45 := hg45
              try simp only [decide_eq_true_eq, decide_eq_false_iff_not, beq_iff_eq, bne_iff_ne, beq_eq_false_iff_ne, bne_eq_false_iff_eq, Bool.not_eq_true', Bool.not_eq_false'] at p45
              simp only [↓SP, SX, SW, TY, EN, sv_w, ↓reduceIte, reduceCtorEq, Nat.reduceEqDiff, Nat.reduceAdd, Nat.reduceLeDiff, Nat.reduceLT, Fan.av, hc13, hg18, hc24, hc31, hc35, hg45]
              refine hK _ _ ?_
              clear hK K
              refine wpT_ifT (by simp only [↓SP, SX, SW, TY, EN, sv_w, ↓reduceIte, reduceCtorEq, Nat.reduceEqDiff, Nat.reduceAdd, Nat.reduceLeDiff, Nat.reduceLT, Fan.av, hc13, hg18, hc24, hc31, hc35, hg45]) ?_
              have hx : joinE f k n = 2 := by rw [joinE, if_neg h14, if_neg h17, if_neg (by omega), if_pos (by omega)]
              have hy := joinF_err hx (by omega)
              refine wpT_seq ?_
              refine wpT_region (by kernel_rfl) (fun K hK => ?_)
              simp only [↓SP, SX, SW, TY, EN, sv_w, ↓reduceIte, reduceCtorEq, Nat.reduceEqDiff, Nat.reduceAdd, Nat.reduceLeDiff, Nat.reduceLT, Fan.av, hc13, hg18, hc24, hc31, hc35, hg45]
              refine hK _ _ ?_
              clear hK K
              refine wpT_ret ⟨.inr rfl, ?_⟩
              show optK (resA _ _ _ [.cell 6 49, .tmp 7]) _
              simp only [SR, Option.map_some, Option.bind_some, ↓SP, SX, SW, TY, EN, sv_w, ↓reduceIte, reduceCtorEq, Nat.reduceEqDiff, Nat.reduceAdd, Nat.reduceLeDiff, Nat.reduceLT, Fan.av, hc13, hg18, hc24, hc31, hc35, hg45]
              rw [hy, hx]
              first
                | exact Lend.tupL (LendL.cons fan0_lend (LendL.cons (.refl _) LendL.nil))
                | exact Lend.tupL (LendL.cons (Lend.aggL (fan_lendL (by simp only [↓SP, SX, SW, TY, EN, sv_w, ↓reduceIte, reduceCtorEq, Nat.reduceEqDiff, Nat.reduceAdd, Nat.reduceLeDiff, Nat.reduceLT]) (by simp only [↓SP, SX, SW, TY, EN, sv_w, ↓reduceIte, reduceCtorEq, Nat.reduceEqDiff, Nat.reduceAdd, Nat.reduceLeDiff, Nat.reduceLT, List.map_set]) (by simp only [↓SP, SX, SW, TY, EN, sv_w, ↓reduceIte, reduceCtorEq, Nat.reduceEqDiff, Nat.reduceAdd, Nat.reduceLeDiff, Nat.reduceLT, List.map_set]) rfl (by simp) (by simp))) (LendL.cons (.refl _) LendL.nil))
    · skip
      simp only [Bool.not_true, Bool.not_false] at hg18
      have p18 := hg18
      try simp only [decide_eq_true_eq, decide_eq_false_iff_not, beq_iff_eq, bne_iff_ne, beq_eq_false_iff_ne, bne_eq_false_iff_eq, Bool.not_eq_true', Bool.not_eq_false'] at p18
      simp only [↓SP, SX, SW, TY, EN, sv_w, ↓reduceIte, reduceCtorEq, Nat.reduceEqDiff, Nat.reduceAdd, Nat.reduceLeDiff, Nat.reduceLT, Fan.av, hc13, hg18]
      refine hK _ _ ?_
      clear hK K
      refine wpT_ifT (by simp only [↓SP, SX, SW, TY, EN, sv_w, ↓reduceIte, reduceCtorEq, Nat.reduceEqDiff, Nat.reduceAdd, Nat.reduceLeDiff, Nat.reduceLT, Fan.av, hc13, hg18]) ?_
      obtain ⟨hx, hy⟩ := join_ex (n := n) (exists_seven (t := t) hc (by omega)) (by omega)
      refine wpT_seq ?_
      refine wpT_region (by kernel_rfl) (fun K hK => ?_)
      simp only [↓SP, SX, SW, TY, EN, sv_w, ↓reduceIte, reduceCtorEq, Nat.reduceEqDiff, Nat.reduceAdd, Nat.reduceLeDiff, Nat.reduceLT, Fan.av, hc13, hg18]
      refine hK _ _ ?_
      clear hK K
      refine wpT_ret ⟨.inr rfl, ?_⟩
      show optK (resA _ _ _ [.cell 6 49, .tmp 7]) _
      simp only [SR, Option.map_some, Option.bind_some, ↓SP, SX, SW, TY, EN, sv_w, ↓reduceIte, reduceCtorEq, Nat.reduceEqDiff, Nat.reduceAdd, Nat.reduceLeDiff, Nat.reduceLT, Fan.av, hc13, hg18]
      rw [hy, hx]
      first
        | exact Lend.tupL (LendL.cons fan0_lend (LendL.cons (.refl _) LendL.nil))
        | exact Lend.tupL (LendL.cons (Lend.aggL (fan_lendL (by simp only [↓SP, SX, SW, TY, EN, sv_w, ↓reduceIte, reduceCtorEq, Nat.reduceEqDiff, Nat.reduceAdd, Nat.reduceLeDiff, Nat.reduceLT]) (by simp only [↓SP, SX, SW, TY, EN, sv_w, ↓reduceIte, reduceCtorEq, Nat.reduceEqDiff, Nat.reduceAdd, Nat.reduceLeDiff, Nat.reduceLT, List.map_set]) (by simp only [↓SP, SX, SW, TY, EN, sv_w, ↓reduceIte, reduceCtorEq, Nat.reduceEqDiff, Nat.reduceAdd, Nat.reduceLeDiff, Nat.reduceLT, List.map_set]) rfl (by simp) (by simp))) (LendL.cons (.refl _) LendL.nil))
theorem c24 (f : Fan) (t : Int) (hf : f.sm) : Pu Tryz.prog (.fn (.func 24) [] []) [f.av, I t] (.tup [((nextC f t).getD cyc0).av, B (nextC f t).isSome]) := by
  refine pu_func Tryz.func24 rfl (by kernel_rfl) (by show _ ≤ 55; simp only [List.length_append, List.length_cons, List.length_nil]; decide) (by simp only [IDF, cyc_idf, and_tt]) (by simp only [IDF, and_tt, implies_true]) (by simp only [IDF, fan_idf, and_tt, implies_true]) ?_
  have hkl := hf.1
  rw [Tryz.ntmps24]
  refine wpT_seq ?_
  refine wpT_region (by kernel_rfl) (fun K hK => ?_)
  simp only [↓SP, SX, SW, TY, EN, sv_w, ↓reduceIte, reduceCtorEq, Nat.reduceEqDiff, Nat.reduceAdd, Nat.reduceLeDiff, Nat.reduceLT, Fan.av]
  refine hK _ _ ?_
  clear hK K
  refine wpT_seq ?_
  refine wpT_seq ?_
  refine wpT_region (by kernel_rfl) (fun K hK => ?_)
  simp only [↓SP, SX, SW, TY, EN, sv_w, ↓reduceIte, reduceCtorEq, Nat.reduceEqDiff, Nat.reduceAdd, Nat.reduceLeDiff, Nat.reduceLT, Fan.av]
  refine Pu.call (c81 f hf.ok) ?_
  simp only [↓SP, SX, SW, TY, EN, sv_w, ↓reduceIte, reduceCtorEq, Nat.reduceEqDiff, Nat.reduceAdd, Nat.reduceLeDiff, Nat.reduceLT, Fan.av]
  refine guardO_split (fun hg10 => ?_) (fun hg10 => ?_)
  · skip
    have p10 := hg10
    try simp only [decide_eq_true_eq, decide_eq_false_iff_not, beq_iff_eq, bne_iff_ne, beq_eq_false_iff_ne, bne_eq_false_iff_eq, Bool.not_eq_true', Bool.not_eq_false'] at p10
    have hc : chkF f = 0 := by omega
    have hlen := chkF_len hc
    simp only [↓SP, SX, SW, TY, EN, sv_w, ↓reduceIte, reduceCtorEq, Nat.reduceEqDiff, Nat.reduceAdd, Nat.reduceLeDiff, Nat.reduceLT, Fan.av, hg10]
    refine guardO_split (fun hg14 => ?_) (fun hg14 => ?_)
    · skip
      have p14 := hg14
      try simp only [decide_eq_true_eq, decide_eq_false_iff_not, beq_iff_eq, bne_iff_ne, beq_eq_false_iff_ne, bne_eq_false_iff_eq, Bool.not_eq_true', Bool.not_eq_false'] at p14
      simp only [↓SP, SX, SW, TY, EN, sv_w, ↓reduceIte, reduceCtorEq, Nat.reduceEqDiff, Nat.reduceAdd, Nat.reduceLeDiff, Nat.reduceLT, Fan.av, hg10, hg14]
      refine guardO_split (fun hg21 => ?_) (fun hg21 => ?_)
      · skip
        have p21 := hg21
        try simp only [decide_eq_true_eq, decide_eq_false_iff_not, beq_iff_eq, bne_iff_ne, beq_eq_false_iff_ne, bne_eq_false_iff_eq, Bool.not_eq_true', Bool.not_eq_false'] at p21
        have h11 : existsE f t = 0 := exists_zero hc (by omega)
        have ht0 : 0 ≤ t := by omega
        obtain ⟨k, rfl⟩ := Int.eq_ofNat_of_zero_le ht0
        have hk : k < f.app.length := by omega
        have hk' : k < f.lost.length := by omega
        have hg := at_map (f := I) hk
        have hg' := at_map (f := B) hk'
        have hA := getD_at (d := 0) hk
        have hL := getD_at (d := false) hk'
        have hA' : f.app.getD k 0 = f.app[k] := hA
        simp only [↓SP, SX, SW, TY, EN, sv_w, ↓reduceIte, reduceCtorEq, Nat.reduceEqDiff, Nat.reduceAdd, Nat.reduceLeDiff, Nat.reduceLT, Fan.av, hg10, hg14, hg', hg21]
        refine hK _ _ ?_
        clear hK K
        refine wpT_if (by rfl) (fun hc27 => ?_) (fun hc27 => ?_)
        · skip
          have p27 := hc27
          try simp only [decide_eq_true_eq, decide_eq_false_iff_not, beq_iff_eq, bne_iff_ne, beq_eq_false_iff_ne, bne_eq_false_iff_eq, Bool.not_eq_true', Bool.not_eq_false'] at p27
          try have hx : nextC f k = none := nextC_none (.inr (by rw [hL]; exact p27))
          refine wpT_seq ?_
          refine wpT_region (by kernel_rfl) (fun K hK => ?_)
          simp only [↓SP, SX, SW, TY, EN, sv_w, ↓reduceIte, reduceCtorEq, Nat.reduceEqDiff, Nat.reduceAdd, Nat.reduceLeDiff, Nat.reduceLT, Fan.av, hg10, hg14, hg', hg21, hc27]
          refine hK _ _ ?_
          clear hK K
          refine wpT_ret ⟨.inr rfl, ?_⟩
          show optK (resA _ _ _ [.cell 4 52, .tmp 5]) _
          simp only [SR, Option.map_some, Option.bind_some, ↓SP, SX, SW, TY, EN, sv_w, ↓reduceIte, reduceCtorEq, Nat.reduceEqDiff, Nat.reduceAdd, Nat.reduceLeDiff, Nat.reduceLT, Fan.av, hg10, hg14, hg', hg21, hc27]
          rw [hx]
          exact Lend.tupL (LendL.cons cyc0_lend (LendL.cons (.refl _) LendL.nil))
        · skip
          have p27 := hc27
          try simp only [decide_eq_true_eq, decide_eq_false_iff_not, beq_iff_eq, bne_iff_ne, beq_eq_false_iff_ne, bne_eq_false_iff_eq, Bool.not_eq_true', Bool.not_eq_false'] at p27
          have hx := nextC_find (f := f) (t := k) (by rw [hL, h11]; simp_all)
          refine wpT_skip ?_
          refine wpT_seq ?_
          refine wpT_seq ?_
          refine wpT_region (by kernel_rfl) (fun K hK => ?_)
          simp only [↓SP, SX, SW, TY, EN, sv_w, ↓reduceIte, reduceCtorEq, Nat.reduceEqDiff, Nat.reduceAdd, Nat.reduceLeDiff, Nat.reduceLT, Fan.av, hg10, hg14, hg', hg21, hc27]
          refine hK _ _ ?_
          clear hK K
          refine wpT_block ?_
          refine wpT_loop ?_
          refine wpT_keep2 (i := 0) (j := 1) (o := .arr 49 4 [.agg [I f.limit, .lst (f.kept.map Cyc.av), .lst (f.app.map I), .lst (f.lost.map B)]]) (q := .arr 52 5 [.agg [I 0, I 0, I 0, .nil0, .nil0]]) (by simp only [↓SP, SX, SW, TY, EN, sv_w, ↓reduceIte, reduceCtorEq, Nat.reduceEqDiff, Nat.reduceAdd, Nat.reduceLeDiff, Nat.reduceLT]) (by simp only [↓SP, SX, SW, TY, EN, sv_w, ↓reduceIte, reduceCtorEq, Nat.reduceEqDiff, Nat.reduceAdd, Nat.reduceLeDiff, Nat.reduceLT]) ?_
          refine wpT_ind (fun (i : Nat) tm' h' => (∃ m, h' = Hp.of [(0, .arr 49 4 [.agg [I f.limit, .lst (f.kept.map Cyc.av), .lst (f.app.map I), .lst (f.lost.map B)]]), (1, .arr 52 5 [.agg [I 0, I 0, I 0, .nil0, .nil0]])] (m + 2)) ∧ tm' 1 = I (k : Int) ∧ tm' 2 = .ptr 0 1 0 0 ∧ tm' 4 = .ptr 1 1 0 0 ∧ tm' 6 = I i ∧ i ≤ f.kept.length ∧ nextC f k = (f.kept.drop i).find? fun c => decide (c.num > f.app.getD k 0)) (fun i => f.kept.length - i) ?_ 0 ⟨⟨0, rfl⟩, rfl, rfl, rfl, rfl, by omega, hx⟩
          rintro i tm' _ ⟨⟨m, rfl⟩, e1, e2, e4, e6, hi, hn⟩ IH
          refine wpT_inLoop ?_
          refine wpT_seq ?_
          refine wpT_seq ?_
          refine wpT_region (by kernel_rfl) (fun K hK => ?_)
          simp only [↓SP, SX, SW, TY, EN, sv_w, ↓reduceIte, reduceCtorEq, Nat.reduceEqDiff, Nat.reduceAdd, Nat.reduceLeDiff, Nat.reduceLT, Fan.av, e2, e6]
          refine hK _ _ ?_
          clear hK K
          refine wpT_if (by rfl) (fun hc33 => ?_) (fun hc33 => ?_)
          · skip
            have p33 := hc33
            try simp only [decide_eq_true_eq, decide_eq_false_iff_not, beq_iff_eq, bne_iff_ne, beq_eq_false_iff_ne, bne_eq_false_iff_eq, Bool.not_eq_true', Bool.not_eq_false'] at p33
            have hlt : i < f.kept.length := by omega
            have hgc := at_map (f := Cyc.av) hlt
            rw [List.drop_eq_getElem_cons hlt, List.find?_cons, hA'] at hn
            refine wpT_skip ?_
            refine wpT_seq ?_
            refine wpT_block ?_
            refine wpT_seq ?_
            refine wpT_drawn [] mixed (by kernel_rfl) (m := 12) rfl (fun K hK => ?_)
            simp only [↓SP, SX, SW, TY, EN, sv_w, ↓reduceIte, reduceCtorEq, Nat.reduceEqDiff, Nat.reduceAdd, Nat.reduceLeDiff, Nat.reduceLT, Fan.av, e1, e2, e6, hg, hgc, cyc_cs, hc33]
            refine hK _ _ ?_
            clear hK K
            refine wpT_if (by rfl) (fun hc47 => ?_) (fun hc47 => ?_)
            · skip
              have p47 := hc47
              try simp only [decide_eq_true_eq, decide_eq_false_iff_not, beq_iff_eq, bne_iff_ne, beq_eq_false_iff_ne, bne_eq_false_iff_eq, Bool.not_eq_true', Bool.not_eq_false'] at p47
              have hn' : nextC f k = some f.kept[i] := by rw [hn, decide_eq_true p47]
              refine wpT_seq ?_
              refine wpT_region (by kernel_rfl) (fun K hK => ?_)
              simp only [↓SP, SX, SW, TY, EN, sv_w, ↓reduceIte, reduceCtorEq, Nat.reduceEqDiff, Nat.reduceAdd, Nat.reduceLeDiff, Nat.reduceLT, Fan.av, e2, e4, e6, hgc, hc33, hc47]
              refine Pu.call (c87 f.kept[i] (hf.2.2.2 _ (List.getElem_mem hlt))) ?_
              simp only [↓SP, SX, SW, TY, EN, sv_w, ↓reduceIte, reduceCtorEq, Nat.reduceEqDiff, Nat.reduceAdd, Nat.reduceLeDiff, Nat.reduceLT, Fan.av, e2, e4, e6, hgc, hc33, hc47]
              refine hK _ _ ?_
              clear hK K
              refine wpT_ret ⟨.inr rfl, ?_⟩
              show optK (resA _ _ _ [.cell 4 52, .tmp 5]) _
              simp only [SR, Option.map_some, Option.bind_some, ↓SP, SX, SW, TY, EN, sv_w, ↓reduceIte, reduceCtorEq, Nat.reduceEqDiff, Nat.reduceAdd, Nat.reduceLeDiff, Nat.reduceLT, Fan.av, hc33, hc47]
              simp only [↓SP, SX, SW, TY, EN, sv_w, ↓reduceIte, reduceCtorEq, Nat.reduceEqDiff, Nat.reduceAdd, Nat.reduceLeDiff, Nat.reduceLT, SR, Option.map_some, Option.bind_some, e4]
              rw [hn']
              exact .refl _
            · skip
              have p47 := hc47
              try simp only [decide_eq_true_eq, decide_eq_false_iff_not, beq_iff_eq, bne_iff_ne, beq_eq_false_iff_ne, bne_eq_false_iff_eq, Bool.not_eq_true', Bool.not_eq_false'] at p47
              rw [decide_eq_false p47] at hn
              refine wpT_skip ?_
              refine wpT_inBlock ?_
              refine wpT_region (by kernel_rfl) (fun K hK => ?_)
              simp only [↓SP, SX, SW, TY, EN, sv_w, ↓reduceIte, reduceCtorEq, Nat.reduceEqDiff, Nat.reduceAdd, Nat.reduceLeDiff, Nat.reduceLT, Fan.av, e6, wrap64 (x := (i : Int) + 1) (by omega) (by omega), hc33, hc47]
              refine hK _ _ ?_
              clear hK K
              refine wpT_keep2 (i := 0) (j := 1) (o := .arr 49 4 [.agg [I f.limit, .lst (f.kept.map Cyc.av), .lst (f.app.map I), .lst (f.lost.map B)]]) (q := .arr 52 5 [.agg [I 0, I 0, I 0, .nil0, .nil0]]) (by simp only [↓SP, SX, SW, TY, EN, sv_w, ↓reduceIte, reduceCtorEq, Nat.reduceEqDiff, Nat.reduceAdd, Nat.reduceLeDiff, Nat.reduceLT]) (by simp only [↓SP, SX, SW, TY, EN, sv_w, ↓reduceIte, reduceCtorEq, Nat.reduceEqDiff, Nat.reduceAdd, Nat.reduceLeDiff, Nat.reduceLT]) ?_
              refine IH (i + 1) _ _ (by omega) ⟨⟨_, rfl⟩, by simp only [↓SP, SX, SW, TY, EN, sv_w, ↓reduceIte, reduceCtorEq, Nat.reduceEqDiff, Nat.reduceAdd, Nat.reduceLeDiff, Nat.reduceLT, e1], by simp only [↓SP, SX, SW, TY, EN, sv_w, ↓reduceIte, reduceCtorEq, Nat.reduceEqDiff, Nat.reduceAdd, Nat.reduceLeDiff, Nat.reduceLT, e2], by simp only [↓SP, SX, SW, TY, EN, sv_w, ↓reduceIte, reduceCtorEq, Nat.reduceEqDiff, Nat.reduceAdd, Nat.reduceLeDiff, Nat.reduceLT, e4], by simp only [↓SP, SX, SW, TY, EN, sv_w, ↓reduceIte, reduceCtorEq, Nat.reduceEqDiff, Nat.reduceAdd, Nat.reduceLeDiff, Nat.reduceLT, Int.natCast_add, Int.cast_ofNat_Int], by omega, by rw [hA']; exact hn⟩
          · skip
            have p33 := hc33
            try simp only [decide_eq_true_eq, decide_eq_false_iff_not, beq_iff_eq, bne_iff_ne, beq_eq_false_iff_ne, bne_eq_false_iff_eq, Bool.not_eq_true', Bool.not_eq_false'] at p33
            rw [List.drop_eq_nil_of_le (by omega)] at hn
            have hn' : nextC f k = none := hn
            refine wpT_exit rfl ?_
            refine wpT_seq ?_
            refine wpT_region (by kernel_rfl) (fun K hK => ?_)
            simp only [↓SP, SX, SW, TY, EN, sv_w, ↓reduceIte, reduceCtorEq, Nat.reduceEqDiff, Nat.reduceAdd, Nat.reduceLeDiff, Nat.reduceLT, Fan.av, e4, hc33]
            refine hK _ _ ?_
            clear hK K
            refine wpT_ret ⟨.inr rfl, ?_⟩
            show optK (resA _ _ _ [.cell 4 52, .tmp 5]) _
            simp only [SR, Option.map_some, Option.bind_some, ↓SP, SX, SW, TY, EN, sv_w, ↓reduceIte, reduceCtorEq, Nat.reduceEqDiff, Nat.reduceAdd, Nat.reduceLeDiff, Nat.reduceLT, Fan.av, hc33]
            simp only [↓SP, SX, SW, TY, EN, sv_w, ↓reduceIte, reduceCtorEq, Nat.reduceEqDiff, Nat.reduceAdd, Nat.reduceLeDiff, Nat.reduceLT, SR, Option.map_some, Option.bind_some, e4]
            rw [hn']
            exact Lend.tupL (LendL.cons cyc0_lend (LendL.cons (.refl _) LendL.nil))
      · skip
        simp only [Bool.not_true, Bool.not_false] at hg21
        have p21 := hg21
        try simp only [decide_eq_true_eq, decide_eq_false_iff_not, beq_iff_eq, bne_iff_ne, beq_eq_false_iff_ne, bne_eq_false_iff_eq, Bool.not_eq_true', Bool.not_eq_false'] at p21
        have hx : nextC f t = none := nextC_none (.inl (by rw [exists_seven hc (by omega)]; simp))
        simp only [↓SP, SX, SW, TY, EN, sv_w, ↓reduceIte, reduceCtorEq, Nat.reduceEqDiff, Nat.reduceAdd, Nat.reduceLeDiff, Nat.reduceLT, Fan.av, hg10, hg14, hg21]
        refine hK _ _ ?_
        clear hK K
        refine wpT_ifT (by simp only [↓SP, SX, SW, TY, EN, sv_w, ↓reduceIte, reduceCtorEq, Nat.reduceEqDiff, Nat.reduceAdd, Nat.reduceLeDiff, Nat.reduceLT, Fan.av, hg10, hg14, hg21]) ?_
        try have hx : nextC f k = none := nextC_none (.inr (by rw [hL]; exact p27))
        refine wpT_seq ?_
        refine wpT_region (by kernel_rfl) (fun K hK => ?_)
        simp only [↓SP, SX, SW, TY, EN, sv_w, ↓reduceIte, reduceCtorEq, Nat.reduceEqDiff, Nat.reduceAdd, Nat.reduceLeDiff, Nat.reduceLT, Fan.av, hg10, hg14, hg21]
        refine hK _ _ ?_
        clear hK K
        refine wpT_ret ⟨.inr rfl, ?_⟩
        show optK (resA _ _ _ [.cell 4 52, .tmp 5]) _
        simp only [SR, Option.map_some, Option.bind_some, ↓SP, SX, SW, TY, EN, sv_w, ↓reduceIte, reduceCtorEq, Nat.reduceEqDiff, Nat.reduceAdd, Nat.reduceLeDiff, Nat.reduceLT, Fan.av, hg10, hg14, hg21]
        rw [hx]
        exact Lend.tupL (LendL.cons cyc0_lend (LendL.cons (.refl _) LendL.nil))
    · skip
      simp only [Bool.not_true, Bool.not_false] at hg14
      have p14 := hg14
      try simp only [decide_eq_true_eq, decide_eq_false_iff_not, beq_iff_eq, bne_iff_ne, beq_eq_false_iff_ne, bne_eq_false_iff_eq, Bool.not_eq_true', Bool.not_eq_false'] at p14
      have hx : nextC f t = none := nextC_none (.inl (by rw [exists_seven hc (by omega)]; simp))
      simp only [↓SP, SX, SW, TY, EN, sv_w, ↓reduceIte, reduceCtorEq, Nat.reduceEqDiff, Nat.reduceAdd, Nat.reduceLeDiff, Nat.reduceLT, Fan.av, hg10, hg14]
      refine hK _ _ ?_
      clear hK K
      refine wpT_ifT (by simp only [↓SP, SX, SW, TY, EN, sv_w, ↓reduceIte, reduceCtorEq, Nat.reduceEqDiff, Nat.reduceAdd, Nat.reduceLeDiff, Nat.reduceLT, Fan.av, hg10, hg14]) ?_
      try have hx : nextC f k = none := nextC_none (.inr (by rw [hL]; exact p27))
      refine wpT_seq ?_
      refine wpT_region (by kernel_rfl) (fun K hK => ?_)
      simp only [↓SP, SX, SW, TY, EN, sv_w, ↓reduceIte, reduceCtorEq, Nat.reduceEqDiff, Nat.reduceAdd, Nat.reduceLeDiff, Nat.reduceLT, Fan.av, hg10, hg14]
      refine hK _ _ ?_
      clear hK K
      refine wpT_ret ⟨.inr rfl, ?_⟩
      show optK (resA _ _ _ [.cell 4 52, .tmp 5]) _
      simp only [SR, Option.map_some, Option.bind_some, ↓SP, SX, SW, TY, EN, sv_w, ↓reduceIte, reduceCtorEq, Nat.reduceEqDiff, Nat.reduceAdd, Nat.reduceLeDiff, Nat.reduceLT, Fan.av, hg10, hg14]
      rw [hx]
      exact Lend.tupL (LendL.cons cyc0_lend (LendL.cons (.refl _) LendL.nil))
  · skip
    simp only [Bool.not_true, Bool.not_false] at hg10
    have p10 := hg10
    try simp only [decide_eq_true_eq, decide_eq_false_iff_not, beq_iff_eq, bne_iff_ne, beq_eq_false_iff_ne, bne_eq_false_iff_eq, Bool.not_eq_true', Bool.not_eq_false'] at p10
    have hx : nextC f t = none := nextC_none (.inl (by rw [exists_chk p10]; exact p10))
    simp only [↓SP, SX, SW, TY, EN, sv_w, ↓reduceIte, reduceCtorEq, Nat.reduceEqDiff, Nat.reduceAdd, Nat.reduceLeDiff, Nat.reduceLT, Fan.av, hg10]
    refine hK _ _ ?_
    clear hK K
    refine wpT_ifT (by simp only [↓SP, SX, SW, TY, EN, sv_w, ↓reduceIte, reduceCtorEq, Nat.reduceEqDiff, Nat.reduceAdd, Nat.reduceLeDiff, Nat.reduceLT, Fan.av, hg10]) ?_
    try have hx : nextC f k = none := nextC_none (.inr (by rw [hL]; exact p27))
    refine wpT_seq ?_
    refine wpT_region (by kernel_rfl) (fun K hK => ?_)
    simp only [↓SP, SX, SW, TY, EN, sv_w, ↓reduceIte, reduceCtorEq, Nat.reduceEqDiff, Nat.reduceAdd, Nat.reduceLeDiff, Nat.reduceLT, Fan.av, hg10]
    refine hK _ _ ?_
    clear hK K
    refine wpT_ret ⟨.inr rfl, ?_⟩
    show optK (resA _ _ _ [.cell 4 52, .tmp 5]) _
    simp only [SR, Option.map_some, Option.bind_some, ↓SP, SX, SW, TY, EN, sv_w, ↓reduceIte, reduceCtorEq, Nat.reduceEqDiff, Nat.reduceAdd, Nat.reduceLeDiff, Nat.reduceLT, Fan.av, hg10]
    rw [hx]
    exact Lend.tupL (LendL.cons cyc0_lend (LendL.cons (.refl _) LendL.nil))
end Go.Proofs.YtlmjpgmaefokdaaGreat
end

section
set_option linter.unusedSimpArgs false
set_option linter.unusedVariables false
namespace Go.Proofs.YtlmjpgmaefokdaaGreat
open Go.Proofs
set_option maxRecDepth 10000
theorem fewC_sm {c : Cyc} (h : fewC c) : c.sm := ⟨by have := h.1; omega, by have := h.2.1; omega, fun w hw => by have := h.2.2 w hw; simp only [Wr.sm]; omega⟩
theorem few_sm {f : Fan} (h : fewF f) : f.sm := ⟨by have := h.1; omega, by have := h.2.1; omega, by have := h.2.2.1; omega, fun c hc => fewC_sm (h.2.2.2 c hc)⟩
theorem fan0_ok : fan0.ok := ⟨by decide, by decide, by decide, by simp [fan0]⟩
theorem tidyF_ok {f : Fan} (h : f.ok) : (tidyF f).ok := ⟨Nat.lt_of_le_of_lt (List.dropWhile_sublist _).length_le h.1, h.2.1, h.2.2.1, fun c hc => h.2.2.2 c ((List.dropWhile_sublist _).subset hc)⟩
theorem push_ok {f : Fan} {c : Cyc} (hf : f.sm) (hc : c.sm) : (pushF f c).ok := by
  have hk : ∀ x ∈ f.kept ++ [c], x.ok := fun x hx => by
    rcases List.mem_append.1 hx with h | h
    · exact (hf.2.2.2 x h).ok
    · simp at h
      subst h
      exact hc.ok
  have hkl : (f.kept ++ [c]).length < 4611686018427387904 := by have := hf.1; simp; omega
  unfold pushF
  split
  · exact fan0_ok
  · rename_i h0
    have hlen : f.lost.length = f.app.length := by
      refine chkF_len ?_
      unfold pushE at h0
      split at h0
      · simp at h0; omega
      · omega
    split
    · exact tidyF_ok ⟨hkl, hf.ok.2.1, by simp only [pushK]; rw [lostW_length hlen (Nat.le_refl _)]; exact hf.ok.2.1, hk⟩
    · exact ⟨hkl, hf.ok.2.1, hf.ok.2.2.1, hk⟩
theorem pushL_len {f : Fan} {c : Cyc} (hf : f.sm) : (pushL f c).length < 4611686018427387904 := by
  unfold pushL
  split
  · decide
  · split
    · have := lostN_length f (leastL (-1) f.app f.lost) f.app.length
      have := hf.2.1
      omega
    · decide
theorem next_ok {f : Fan} {t : Int} (hf : f.sm) : ((nextC f t).getD cyc0).ok := by
  cases h : nextC f t with
  | none => exact ⟨by decide, by decide, by simp [cyc0]⟩
  | some c =>
    unfold nextC at h
    split at h
    · simp at h
    · exact (hf.2.2.2 c (List.mem_of_find?_eq_some h)).ok
theorem applied_ok {f : Fan} {t n : Int} (hf : f.sm) : (appliedF f t n).ok := by
  unfold appliedF
  split
  · exact fan0_ok
  · exact tidyF_ok ⟨hf.ok.1, by simpa using hf.ok.2.1, hf.ok.2.2.1, hf.ok.2.2.2⟩
theorem lose_ok {f : Fan} {t : Int} (hf : f.sm) : (loseF f t).ok := by
  unfold loseF
  split
  · exact fan0_ok
  · exact tidyF_ok ⟨hf.ok.1, hf.ok.2.1, by simpa using hf.ok.2.2.1, hf.ok.2.2.2⟩
theorem join_ok {f : Fan} {t n : Int} (hf : f.sm) : (joinF f t n).ok := by
  unfold joinF
  split
  · exact fan0_ok
  · exact ⟨hf.ok.1, by simpa using hf.ok.2.1, by simpa using hf.ok.2.2.1, hf.ok.2.2.2⟩
theorem eqlb (a b : Bool) : opBinAny Tryz.prog .eql 4 (.bool a) (.bool b) = some (.bool (a == b)) := by simp [opBinAny, opBin, opEq, ib4]
theorem c4 (f : Fan) (c : Cyc) (t : Int) (hf : f.ok) (hc : c.ok) : Pu Tryz.prog (.fn (.func 4) [] []) [f.av, c.av, I t] (B true) := by
  refine pu_func Tryz.func4 rfl (by kernel_rfl) (by show _ ≤ 78; simp only [List.length_append, List.length_cons, List.length_nil]; decide) (by simp only [IDF]) (by simp only [IDF, and_tt, implies_true]) (by simp only [IDF, fan_idf, cyc_idf, and_tt, implies_true]) ?_
  rw [Tryz.ntmps4]
  refine wpT_seq ?_
  refine wpT_region (by kernel_rfl) (fun K hK => ?_)
  simp only [↓SP, SX, SW, TY, EN, sv_w, ↓reduceIte, reduceCtorEq, Nat.reduceEqDiff, Nat.reduceAdd, Nat.reduceLeDiff, Nat.reduceLT]
  refine hK _ _ ?_
  clear hK K
  refine wpT_seq ?_
  refine wpT_seq ?_
  refine wpT_region (by kernel_rfl) (fun K hK => ?_)
  simp only [↓SP, SX, SW, TY, EN, sv_w, ↓reduceIte, reduceCtorEq, Nat.reduceEqDiff, Nat.reduceAdd, Nat.reduceLeDiff, Nat.reduceLT]
  refine Pu.call (c18 f hf) ?_
  simp only [↓SP, SX, SW, TY, EN, sv_w, ↓reduceIte, reduceCtorEq, Nat.reduceEqDiff, Nat.reduceAdd, Nat.reduceLeDiff, Nat.reduceLT]
  refine guardO_split (fun hg20 => ?_) (fun hg20 => ?_)
  · skip
    have p20 := hg20
    try simp only [decide_eq_true_eq, decide_eq_false_iff_not, beq_iff_eq, bne_iff_ne, beq_eq_false_iff_ne, bne_eq_false_iff_eq, Bool.not_eq_true', Bool.not_eq_false'] at p20
    simp only [↓SP, SX, SW, TY, EN, sv_w, ↓reduceIte, reduceCtorEq, Nat.reduceEqDiff, Nat.reduceAdd, Nat.reduceLeDiff, Nat.reduceLT, hg20]
    refine Pu.call (c19 c hc) ?_
    simp only [↓SP, SX, SW, TY, EN, sv_w, ↓reduceIte, reduceCtorEq, Nat.reduceEqDiff, Nat.reduceAdd, Nat.reduceLeDiff, Nat.reduceLT, hg20]
    refine hK _ _ ?_
    clear hK K
    refine wpT_if (by rfl) (fun hc24 => ?_) (fun hc24 => ?_)
    · skip
      have p24 := hc24
      try simp only [decide_eq_true_eq, decide_eq_false_iff_not, beq_iff_eq, bne_iff_ne, beq_eq_false_iff_ne, bne_eq_false_iff_eq, Bool.not_eq_true', Bool.not_eq_false'] at p24
      refine wpT_seq ?_
      refine wpT_region (by kernel_rfl) (fun K hK => ?_)
      simp only [↓SP, SX, SW, TY, EN, sv_w, ↓reduceIte, reduceCtorEq, Nat.reduceEqDiff, Nat.reduceAdd, Nat.reduceLeDiff, Nat.reduceLT, hg20, hc24]
      refine Pu.call c20 ?_
      simp only [↓SP, SX, SW, TY, EN, sv_w, ↓reduceIte, reduceCtorEq, Nat.reduceEqDiff, Nat.reduceAdd, Nat.reduceLeDiff, Nat.reduceLT, hg20, hc24]
      refine hK _ _ ?_
      clear hK K
      refine wpT_ret ⟨.inr rfl, ?_⟩
      show optK (resA _ _ _ [.tmp 6]) _
      simp only [SR, Option.map_some, Option.bind_some, ↓SP, SX, SW, TY, EN, sv_w, ↓reduceIte, reduceCtorEq, Nat.reduceEqDiff, Nat.reduceAdd, Nat.reduceLeDiff, Nat.reduceLT, hg20, hc24]
      exact .refl _
    · skip
      have p24 := hc24
      try simp only [decide_eq_true_eq, decide_eq_false_iff_not, beq_iff_eq, bne_iff_ne, beq_eq_false_iff_ne, bne_eq_false_iff_eq, Bool.not_eq_true', Bool.not_eq_false'] at p24
      have hs : f.sm := few_sm (by simp_all)
      have hcs : c.sm := fewC_sm (by simp_all)
      refine wpT_skip ?_
      refine wpT_seq ?_
      refine wpT_region (by kernel_rfl) (fun K hK => ?_)
      simp only [↓SP, SX, SW, TY, EN, sv_w, ↓reduceIte, reduceCtorEq, Nat.reduceEqDiff, Nat.reduceAdd, Nat.reduceLeDiff, Nat.reduceLT, hg20, hc24]
      refine Pu.call (c21 f c hs hcs) ?_
      simp only [↓SP, SX, SW, TY, EN, sv_w, ↓reduceIte, reduceCtorEq, Nat.reduceEqDiff, Nat.reduceAdd, Nat.reduceLeDiff, Nat.reduceLT, hg20, hc24]
      refine hK _ _ ?_
      clear hK K
      refine wpT_seq ?_
      refine wpT_region (by kernel_rfl) (fun K hK => ?_)
      simp only [↓SP, SX, SW, TY, EN, sv_w, ↓reduceIte, reduceCtorEq, Nat.reduceEqDiff, Nat.reduceAdd, Nat.reduceLeDiff, Nat.reduceLT, hg20, hc24]
      refine Pu.call (c22 f c hs hcs) ?_
      simp only [↓SP, SX, SW, TY, EN, sv_w, ↓reduceIte, reduceCtorEq, Nat.reduceEqDiff, Nat.reduceAdd, Nat.reduceLeDiff, Nat.reduceLT, hg20, hc24]
      refine hK _ _ ?_
      clear hK K
      refine wpT_seq ?_
      refine wpT_region (by kernel_rfl) (fun K hK => ?_)
      simp only [↓SP, SX, SW, TY, EN, sv_w, ↓reduceIte, reduceCtorEq, Nat.reduceEqDiff, Nat.reduceAdd, Nat.reduceLeDiff, Nat.reduceLT, hg20, hc24]
      refine Pu.call (c23 f t hs) ?_
      simp only [↓SP, SX, SW, TY, EN, sv_w, ↓reduceIte, reduceCtorEq, Nat.reduceEqDiff, Nat.reduceAdd, Nat.reduceLeDiff, Nat.reduceLT, hg20, hc24]
      refine hK _ _ ?_
      clear hK K
      refine wpT_seq ?_
      refine wpT_region (by kernel_rfl) (fun K hK => ?_)
      simp only [↓SP, SX, SW, TY, EN, sv_w, ↓reduceIte, reduceCtorEq, Nat.reduceEqDiff, Nat.reduceAdd, Nat.reduceLeDiff, Nat.reduceLT, hg20, hc24]
      refine Pu.call (c24 f t hs) ?_
      simp only [↓SP, SX, SW, TY, EN, sv_w, ↓reduceIte, reduceCtorEq, Nat.reduceEqDiff, Nat.reduceAdd, Nat.reduceLeDiff, Nat.reduceLT, hg20, hc24]
      refine hK _ _ ?_
      clear hK K
      refine wpT_seq ?_
      refine wpT_region (by kernel_rfl) (fun K hK => ?_)
      simp only [↓SP, SX, SW, TY, EN, sv_w, ↓reduceIte, reduceCtorEq, Nat.reduceEqDiff, Nat.reduceAdd, Nat.reduceLeDiff, Nat.reduceLT, eqlb, eq_self, decide_true, beq_self_eq_true, hg20, hc24]
      refine Pu.call (c25 (pushF f c) (pushF f c) (push_ok hs hcs)) ?_
      simp only [↓SP, SX, SW, TY, EN, sv_w, ↓reduceIte, reduceCtorEq, Nat.reduceEqDiff, Nat.reduceAdd, Nat.reduceLeDiff, Nat.reduceLT, eqlb, eq_self, decide_true, beq_self_eq_true, hg20, hc24]
      refine Pu.call (c26 (pushL f c) (pushL f c) (pushL_len hs)) ?_
      simp only [↓SP, SX, SW, TY, EN, sv_w, ↓reduceIte, reduceCtorEq, Nat.reduceEqDiff, Nat.reduceAdd, Nat.reduceLeDiff, Nat.reduceLT, eqlb, eq_self, decide_true, beq_self_eq_true, hg20, hc24]
      refine Pu.call (c27 ((nextC f t).getD cyc0) ((nextC f t).getD cyc0) (next_ok hs)) ?_
      simp only [↓SP, SX, SW, TY, EN, sv_w, ↓reduceIte, reduceCtorEq, Nat.reduceEqDiff, Nat.reduceAdd, Nat.reduceLeDiff, Nat.reduceLT, eqlb, eq_self, decide_true, beq_self_eq_true, hg20, hc24]
      refine Pu.call c20 ?_
      simp only [↓SP, SX, SW, TY, EN, sv_w, ↓reduceIte, reduceCtorEq, Nat.reduceEqDiff, Nat.reduceAdd, Nat.reduceLeDiff, Nat.reduceLT, eqlb, eq_self, decide_true, beq_self_eq_true, hg20, hc24]
      refine hK _ _ ?_
      clear hK K
      refine wpT_ret ⟨.inr rfl, ?_⟩
      show optK (resA _ _ _ [.tmp 6]) _
      simp only [SR, Option.map_some, Option.bind_some, ↓SP, SX, SW, TY, EN, sv_w, ↓reduceIte, reduceCtorEq, Nat.reduceEqDiff, Nat.reduceAdd, Nat.reduceLeDiff, Nat.reduceLT, hg20, hc24]
      exact .refl _
  · skip
    simp only [Bool.not_true, Bool.not_false] at hg20
    have p20 := hg20
    try simp only [decide_eq_true_eq, decide_eq_false_iff_not, beq_iff_eq, bne_iff_ne, beq_eq_false_iff_ne, bne_eq_false_iff_eq, Bool.not_eq_true', Bool.not_eq_false'] at p20
    simp only [↓SP, SX, SW, TY, EN, sv_w, ↓reduceIte, reduceCtorEq, Nat.reduceEqDiff, Nat.reduceAdd, Nat.reduceLeDiff, Nat.reduceLT, hg20]
    refine hK _ _ ?_
    clear hK K
    refine wpT_ifT (by simp only [↓SP, SX, SW, TY, EN, sv_w, ↓reduceIte, reduceCtorEq, Nat.reduceEqDiff, Nat.reduceAdd, Nat.reduceLeDiff, Nat.reduceLT, hg20]) ?_
    refine wpT_seq ?_
    refine wpT_region (by kernel_rfl) (fun K hK => ?_)
    simp only [↓SP, SX, SW, TY, EN, sv_w, ↓reduceIte, reduceCtorEq, Nat.reduceEqDiff, Nat.reduceAdd, Nat.reduceLeDiff, Nat.reduceLT, hg20]
    refine Pu.call c20 ?_
    simp only [↓SP, SX, SW, TY, EN, sv_w, ↓reduceIte, reduceCtorEq, Nat.reduceEqDiff, Nat.reduceAdd, Nat.reduceLeDiff, Nat.reduceLT, hg20]
    refine hK _ _ ?_
    clear hK K
    refine wpT_ret ⟨.inr rfl, ?_⟩
    show optK (resA _ _ _ [.tmp 6]) _
    simp only [SR, Option.map_some, Option.bind_some, ↓SP, SX, SW, TY, EN, sv_w, ↓reduceIte, reduceCtorEq, Nat.reduceEqDiff, Nat.reduceAdd, Nat.reduceLeDiff, Nat.reduceLT, hg20]
    exact .refl _
theorem c6 (f : Fan) (t n : Int) (hf : f.ok) : Pu Tryz.prog (.fn (.func 6) [] []) [f.av, I t, I n] (B true) := by
  refine pu_func Tryz.func6 rfl (by kernel_rfl) (by show _ ≤ 94; simp only [List.length_append, List.length_cons, List.length_nil]; decide) (by simp only [IDF]) (by simp only [IDF, and_tt, implies_true]) (by simp only [IDF, fan_idf, and_tt, implies_true]) ?_
  rw [Tryz.ntmps6]
  refine wpT_seq ?_
  refine wpT_region (by kernel_rfl) (fun K hK => ?_)
  simp only [↓SP, SX, SW, TY, EN, sv_w, ↓reduceIte, reduceCtorEq, Nat.reduceEqDiff, Nat.reduceAdd, Nat.reduceLeDiff, Nat.reduceLT]
  refine hK _ _ ?_
  clear hK K
  refine wpT_seq ?_
  refine wpT_seq ?_
  refine wpT_region (by kernel_rfl) (fun K hK => ?_)
  simp only [↓SP, SX, SW, TY, EN, sv_w, ↓reduceIte, reduceCtorEq, Nat.reduceEqDiff, Nat.reduceAdd, Nat.reduceLeDiff, Nat.reduceLT]
  refine Pu.call (c18 f hf) ?_
  simp only [↓SP, SX, SW, TY, EN, sv_w, ↓reduceIte, reduceCtorEq, Nat.reduceEqDiff, Nat.reduceAdd, Nat.reduceLeDiff, Nat.reduceLT]
  refine hK _ _ ?_
  clear hK K
  refine wpT_if (by rfl) (fun hc21 => ?_) (fun hc21 => ?_)
  · skip
    have p21 := hc21
    try simp only [decide_eq_true_eq, decide_eq_false_iff_not, beq_iff_eq, bne_iff_ne, beq_eq_false_iff_ne, bne_eq_false_iff_eq, Bool.not_eq_true', Bool.not_eq_false'] at p21
    refine wpT_seq ?_
    refine wpT_region (by kernel_rfl) (fun K hK => ?_)
    simp only [↓SP, SX, SW, TY, EN, sv_w, ↓reduceIte, reduceCtorEq, Nat.reduceEqDiff, Nat.reduceAdd, Nat.reduceLeDiff, Nat.reduceLT, hc21]
    refine Pu.call c20 ?_
    simp only [↓SP, SX, SW, TY, EN, sv_w, ↓reduceIte, reduceCtorEq, Nat.reduceEqDiff, Nat.reduceAdd, Nat.reduceLeDiff, Nat.reduceLT, hc21]
    refine hK _ _ ?_
    clear hK K
    refine wpT_ret ⟨.inr rfl, ?_⟩
    show optK (resA _ _ _ [.tmp 6]) _
    simp only [SR, Option.map_some, Option.bind_some, ↓SP, SX, SW, TY, EN, sv_w, ↓reduceIte, reduceCtorEq, Nat.reduceEqDiff, Nat.reduceAdd, Nat.reduceLeDiff, Nat.reduceLT, hc21]
    exact .refl _
  · skip
    have p21 := hc21
    try simp only [decide_eq_true_eq, decide_eq_false_iff_not, beq_iff_eq, bne_iff_ne, beq_eq_false_iff_ne, bne_eq_false_iff_eq, Bool.not_eq_true', Bool.not_eq_false'] at p21
    have hs : f.sm := few_sm p21
    refine wpT_skip ?_
    refine wpT_seq ?_
    refine wpT_region (by kernel_rfl) (fun K hK => ?_)
    simp only [↓SP, SX, SW, TY, EN, sv_w, ↓reduceIte, reduceCtorEq, Nat.reduceEqDiff, Nat.reduceAdd, Nat.reduceLeDiff, Nat.reduceLT, hc21]
    refine Pu.call (c31 f t n hs) ?_
    simp only [↓SP, SX, SW, TY, EN, sv_w, ↓reduceIte, reduceCtorEq, Nat.reduceEqDiff, Nat.reduceAdd, Nat.reduceLeDiff, Nat.reduceLT, hc21]
    refine hK _ _ ?_
    clear hK K
    refine wpT_seq ?_
    refine wpT_region (by kernel_rfl) (fun K hK => ?_)
    simp only [↓SP, SX, SW, TY, EN, sv_w, ↓reduceIte, reduceCtorEq, Nat.reduceEqDiff, Nat.reduceAdd, Nat.reduceLeDiff, Nat.reduceLT, hc21]
    refine Pu.call (c32 f t n hs) ?_
    simp only [↓SP, SX, SW, TY, EN, sv_w, ↓reduceIte, reduceCtorEq, Nat.reduceEqDiff, Nat.reduceAdd, Nat.reduceLeDiff, Nat.reduceLT, hc21]
    refine hK _ _ ?_
    clear hK K
    refine wpT_seq ?_
    refine wpT_region (by kernel_rfl) (fun K hK => ?_)
    simp only [↓SP, SX, SW, TY, EN, sv_w, ↓reduceIte, reduceCtorEq, Nat.reduceEqDiff, Nat.reduceAdd, Nat.reduceLeDiff, Nat.reduceLT, hc21]
    refine Pu.call (c33 f t hs) ?_
    simp only [↓SP, SX, SW, TY, EN, sv_w, ↓reduceIte, reduceCtorEq, Nat.reduceEqDiff, Nat.reduceAdd, Nat.reduceLeDiff, Nat.reduceLT, hc21]
    refine hK _ _ ?_
    clear hK K
    refine wpT_seq ?_
    refine wpT_region (by kernel_rfl) (fun K hK => ?_)
    simp only [↓SP, SX, SW, TY, EN, sv_w, ↓reduceIte, reduceCtorEq, Nat.reduceEqDiff, Nat.reduceAdd, Nat.reduceLeDiff, Nat.reduceLT, hc21]
    refine Pu.call (c34 f t hs) ?_
    simp only [↓SP, SX, SW, TY, EN, sv_w, ↓reduceIte, reduceCtorEq, Nat.reduceEqDiff, Nat.reduceAdd, Nat.reduceLeDiff, Nat.reduceLT, hc21]
    refine hK _ _ ?_
    clear hK K
    refine wpT_seq ?_
    refine wpT_region (by kernel_rfl) (fun K hK => ?_)
    simp only [↓SP, SX, SW, TY, EN, sv_w, ↓reduceIte, reduceCtorEq, Nat.reduceEqDiff, Nat.reduceAdd, Nat.reduceLeDiff, Nat.reduceLT, hc21]
    refine Pu.call (c35 f t n hs) ?_
    simp only [↓SP, SX, SW, TY, EN, sv_w, ↓reduceIte, reduceCtorEq, Nat.reduceEqDiff, Nat.reduceAdd, Nat.reduceLeDiff, Nat.reduceLT, hc21]
    refine hK _ _ ?_
    clear hK K
    refine wpT_seq ?_
    refine wpT_region (by kernel_rfl) (fun K hK => ?_)
    simp only [↓SP, SX, SW, TY, EN, sv_w, ↓reduceIte, reduceCtorEq, Nat.reduceEqDiff, Nat.reduceAdd, Nat.reduceLeDiff, Nat.reduceLT, hc21]
    refine Pu.call (c36 f t n hs) ?_
    simp only [↓SP, SX, SW, TY, EN, sv_w, ↓reduceIte, reduceCtorEq, Nat.reduceEqDiff, Nat.reduceAdd, Nat.reduceLeDiff, Nat.reduceLT, hc21]
    refine hK _ _ ?_
    clear hK K
    refine wpT_seq ?_
    refine wpT_region (by kernel_rfl) (fun K hK => ?_)
    simp only [↓SP, SX, SW, TY, EN, sv_w, ↓reduceIte, reduceCtorEq, Nat.reduceEqDiff, Nat.reduceAdd, Nat.reduceLeDiff, Nat.reduceLT, eq_self, decide_true, beq_self_eq_true, hc21]
    refine Pu.call (c25 (appliedF f t n) (appliedF f t n) (applied_ok hs)) ?_
    simp only [↓SP, SX, SW, TY, EN, sv_w, ↓reduceIte, reduceCtorEq, Nat.reduceEqDiff, Nat.reduceAdd, Nat.reduceLeDiff, Nat.reduceLT, eq_self, decide_true, beq_self_eq_true, hc21]
    refine Pu.call (c25 (loseF f t) (loseF f t) (lose_ok hs)) ?_
    simp only [↓SP, SX, SW, TY, EN, sv_w, ↓reduceIte, reduceCtorEq, Nat.reduceEqDiff, Nat.reduceAdd, Nat.reduceLeDiff, Nat.reduceLT, eq_self, decide_true, beq_self_eq_true, hc21]
    refine Pu.call (c25 (joinF f t n) (joinF f t n) (join_ok hs)) ?_
    simp only [↓SP, SX, SW, TY, EN, sv_w, ↓reduceIte, reduceCtorEq, Nat.reduceEqDiff, Nat.reduceAdd, Nat.reduceLeDiff, Nat.reduceLT, eq_self, decide_true, beq_self_eq_true, hc21]
    refine Pu.call c20 ?_
    simp only [↓SP, SX, SW, TY, EN, sv_w, ↓reduceIte, reduceCtorEq, Nat.reduceEqDiff, Nat.reduceAdd, Nat.reduceLeDiff, Nat.reduceLT, eq_self, decide_true, beq_self_eq_true, hc21]
    refine hK _ _ ?_
    clear hK K
    refine wpT_ret ⟨.inr rfl, ?_⟩
    show optK (resA _ _ _ [.tmp 6]) _
    simp only [SR, Option.map_some, Option.bind_some, ↓SP, SX, SW, TY, EN, sv_w, ↓reduceIte, reduceCtorEq, Nat.reduceEqDiff, Nat.reduceAdd, Nat.reduceLeDiff, Nat.reduceLT, hc21]
    exact .refl _
end Go.Proofs.YtlmjpgmaefokdaaGreat
end

section
set_option linter.unusedSimpArgs false
set_option linter.unusedVariables false
namespace Go.Proofs.YtlmjpgmaefokdaaGreat
open Go.Proofs
open Go.ChangeShapes Go.WideShapes Go.ChangeAt Go.RowKit
theorem fm_own : ownKnob Tryz.prog.godebug = none := by kernel_rfl
theorem fm_laid : laidOutB Tryz.prog = true := by kernel_rfl
theorem frozen_of_heap {W W' : World} (h : ∀ i, i < W.heap.size → W'.heap[i]? = W.heap[i]?) : ∀ a : Addr, a.block < W.heap.size → W'.frozen? a = W.frozen? a := fun a ha => by
  unfold World.frozen?
  rw [h _ ha]
theorem fanoutReports_types : ∀ t ∈ [49, 3, 3], Tryz.prog.readableRec t = true ∧ t < Tryz.prog.types.size := by
  intro t ht
  simp only [List.mem_cons, List.not_mem_nil, or_false] at ht
  rcases ht with rfl | rfl | rfl <;> exact ⟨by kernel_rfl, of_decide_eq_true (by kernel_rfl)⟩
set_option maxRecDepth 100000 in
theorem fanoutReports_contract (H : Type) (enc : TypeId × Value → H) (W : World) (base : Nat) (args : Array Value) (ds gs : List (DataW H)) (before : List MemPlace)
    (hval : ∀ (j : Nat) t v, Tryz.f6.params[j]? = some t → args[j]? = some v → Value.okWide Tryz.prog W .any base t v)
    (hW : DataW.Whole enc Tryz.prog Tryz.f6.params.toList Rows.fanoutReportsSpec.vars false W args.toList ds gs before)
    (hz : (DataW.weightsEach Tryz.prog (Tryz.f6.params.toList ++ Rows.fanoutReportsSpec.plain.varTypes Tryz.prog) (ds ++ gs)).all (· ≤ reachBytes) = true) :
    Calls Tryz.prog 6 args W fun e W' => ∃ v, e = .returned v ∧ Rows.fanoutReportsSpec.post enc Tryz.prog Tryz.f6 false true false false W args v W' := by
  have hW' := hW
  have hlt := hW.lt
  obtain ⟨p, q, hA0, hV, rfl, hfz, hnd⟩ := hW
  have hA : DataW.TrodAll enc Tryz.prog W 0 (fun _ => true) true Tryz.f6.params.toList args.toList ds p := hA0
  rw [Tryz.params6] at hA hval hz
  have hAs := hA
  obtain ⟨v0, vs0, d0, ds0, p0, q0, hargs, rfl, rfl, h0, r0⟩ := trodAll_cons hA
  obtain ⟨v1, vs1, d1, ds1, p1, q1, rfl, rfl, rfl, h1, r1⟩ := trodAll_cons r0
  obtain ⟨v2, vs2, d2, ds2, p2, q2, rfl, rfl, rfl, h2, r2⟩ := trodAll_cons r1
  obtain ⟨rfl, rfl, rfl⟩ := trodAll_nil r2
  obtain rfl : args = #[v0, v1, v2] := by cases args; simp_all
  obtain ⟨rfl, rfl⟩ := trodVars_none hV
  have hw0 : ∀ n ∈ d0.weights Tryz.prog 49, n ≤ reachBytes := fun n hn => by simpa using List.all_eq_true.1 hz n (DataW.weights_mem_each (j := 0) rfl rfl n hn)
  have hw1 : ∀ n ∈ d1.weights Tryz.prog 3, n ≤ reachBytes := fun n hn => by simpa using List.all_eq_true.1 hz n (DataW.weights_mem_each (j := 1) rfl rfl n hn)
  have hw2 : ∀ n ∈ d2.weights Tryz.prog 3, n ≤ reachBytes := fun n hn => by simpa using List.all_eq_true.1 hz n (DataW.weights_mem_each (j := 2) rfl rfl n hn)
  obtain ⟨a0, g0, r0'⟩ := dec_agg dec_fan (fun a => ⟨_, rfl⟩) (agg_of_wide Tryz.underlying49 (hval 0 _ v0 rfl rfl)) h0 hw0
  have ho1 := hval 1 _ v1 rfl rfl
  obtain ⟨a1, e1, _⟩ := open_int Tryz.underlying3 ho1 h1
  have r1' : VRel (inX W) W (I a1) v1 := by rw [e1]; exact .int _ _
  have ho2 := hval 2 _ v2 rfl rfl
  obtain ⟨a2, e2, _⟩ := open_int Tryz.underlying3 ho2 h2
  have r2' : VRel (inX W) W (I a2) v2 := by rw [e2]; exact .int _ _
  have hc := calls_of_pu (W := W) (cargs := #[v0, v1, v2]) (c6 a0 a1 a2 g0) Tryz.func6 rfl (by kernel_rfl) ((VRelL.one r0').cons1 ((VRelL.one r1').cons1 (VRelL.one r2')))
  refine hc.mono fun e W' ⟨he, k1, k2, k3, k4⟩ => ?_
  subst he
  refine ⟨_, rfl, post_of_kept (pa := (p0 ++ (p1 ++ (p2 ++ [])))) (pv := []) hW' (fun _ _ _ => trodAll_cons_mk (shut_bool Tryz.underlying4 _) trodAll_mk0) (fun sp hs => ?_) (fun _ _ => rfl) (by simp) (keptBut_of_heap k1 k2 k4) (frozen_of_heap k4) (ok_one (by kernel_rfl) rfl (okWide_bool_mk Tryz.underlying4 _))⟩
  exact trodAll_stays fm_laid k3 k4 fanoutReports_types (fun x hx => hlt x (by simpa using hx)) (fun x hx => hs x (by simpa using hx)) hAs
set_option maxRecDepth 100000 in
theorem fanoutReports_lifted (os : Os) (started : os.Started) (H : Type) (enc : TypeId × Value → H) :
    ReturnsInHanded {} Tryz.checked os 6 .any (Rows.fanoutReportsSpec.pre6 enc Tryz.prog Tryz.f6 Rows.fanoutReportsRow.domain false) (Rows.fanoutReportsSpec.post enc Tryz.prog Tryz.f6 false true false false) := by
  refine returnsInHanded_of_change_sized (C := Tryz.checked) fm_own started (by kernel_rfl) Tryz.func6
    (ChangeSpec.witness6 (enc := enc) (C := Tryz.checked) false ⟨#[], #[.agg #[.int .i64 0, .slice none 0 0, .slice none 0 0, .slice none 0 0], .int .i64 0, .int .i64 0], []⟩ 8 (by kernel_rfl) (by kernel_rfl) (by kernel_rfl) (by kernel_rfl)) ?_
  intro W base args ds gs before hval hW _ hsz _
  exact fanoutReports_contract H enc W base args ds gs before hval hW hsz
theorem fanoutReports_holds : Rows.FanoutReportsSaid :=
  OpenClaim.holds_of_wide 6 Tryz.f6 rfl rfl rfl rfl rfl rfl rfl ⟨rfl, rfl, rfl, rfl, rfl⟩ rfl rfl rfl rfl rfl (by kernel_rfl) Tryz.func6 (by kernel_rfl)
    (of_decide_eq_true (by kernel_rfl)) (by unfold Func.isWrapper; first | (rw [if_pos (by decide +kernel)]; kernel_rfl) | (rw [if_neg (by decide +kernel)]; exact ⟨rfl, rfl⟩))
    (fun os started H enc _ => fanoutReports_lifted os started H enc)
end Go.Proofs.YtlmjpgmaefokdaaGreat
end
