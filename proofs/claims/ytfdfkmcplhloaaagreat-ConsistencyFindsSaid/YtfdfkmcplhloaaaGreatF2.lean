/- Walks: the program's checks of histories: an event.
  Walks: the program's check of histories.
  Walks: sets of writes, and what goes over them.
  Walks: products of small numbers.
  Walks: when the writes of a history are issued and acknowledged, for cuts.
  Walks: marks of sets; lists of members.
  Walks: sets; the least and the greatest cut.
  Contents of writes and images; distinct histories; images of sets of writes; candidates.
  Order of a timeline; images of sets; what is found of the image of a cut.
  A history with one more write.
  Walks: the least cut around a set. -/
import Derived.Test.YtfdfkmcplhloaaaGreatF1
section
set_option linter.unusedSimpArgs false
set_option linter.unusedVariables false
namespace Go.Proofs.YtfdfkmcplhloaaaGreat
open Go.Proofs
open Nat renaming reduceEqDiff → nE, reduceAdd → nA, reduceLeDiff → nL, reduceLT → nT
set_option maxRecDepth 10000
def evT (n k : Nat) (t : TL) (x : Evn) : TL := if evE n t x ≠ 0 then t else evS k t x
def chkO (h : Hist) (i j n : Nat) : Ob := .arr 123 5 [.agg [.lst (h.sizes.map I), .lst (h.ws.map Wr.av), .lst (h.evs.map Evn.av), .sl i n 0 n, .sl j n 0 n]]
theorem ldO_arr {P : Program} {t E s tot i off : Nat} {es : List AV} : ldO P t tot i off (some (.arr E s es)) = if es.length = tot then (es[i]?).bind fun e => loadV P t e off else none := rfl
theorem evT_err {n k : Nat} {t : TL} {x : Evn} (h : evE n t x ≠ 0) : evT n k t x = t := if_pos h
theorem evT_ok {n k : Nat} {t : TL} {x : Evn} (h : evE n t x = 0) : evT n k t x = evS k t x := if_neg (by omega)
theorem c83 (h : Hist) (t : TL) (k : Nat) (x : Evn) (hh : h.ok) (hk : k < 4000000) (hn : t.iss.length < 4000000) (hl : t.ack.length = t.iss.length) : CallV Tryz.prog (.fn (.func 83) [] []) [.ptr 0 1 0 0, I k, x.av] (Hp.of [(0, chkO h 1 2 t.iss.length), (1, .arr 3 1 (t.iss.map I)), (2, .arr 3 1 (t.ack.map I))] 3) fun v h' =>
    v = I (evE h.ws.length t x) ∧ h'.get 0 = some (chkO h 1 2 (evT h.ws.length k t x).iss.length) ∧ h'.get 1 = some (.arr 3 1 ((evT h.ws.length k t x).iss.map I)) ∧ h'.get 2 = some (.arr 3 1 ((evT h.ws.length k t x).ack.map I)) := by
 refine callV_func Tryz.func83 rfl (by kernel_rfl) (by show _ ≤ 89; simp only [List.length_append, List.length_cons, List.length_nil]; decide) ?_
 have hw := hh.2.1
 have q1 : t.iss.length + 1 ≤ maxLen := by simp only [maxLen]; omega
 have q2 : (t.iss.length + 1) * 8 ≤ 140737488355328 := by omega
 rw [Tryz.ntmps83]
 refine wpT_seq ?_
 refine wpT_region (by kernel_rfl) (fun K hK => ?_)
 simp only [↓SP, SZ, ↓reduceIte, reduceCtorEq, nE, nA, nL, nT, Evn.av, chkO]
 refine hK _ _ ?_
 clear hK K
 refine wpT_seq ?_
 refine wpT_seq ?_
 refine wpT_region (by kernel_rfl) (fun K hK => ?_)
 simp only [↓SP, SZ, ↓reduceIte, reduceCtorEq, nE, nA, nL, nT, Evn.av, chkO]
 refine hK _ _ ?_
 clear hK K
 refine wpT_block ?_
 refine wpT_seq ?_
 refine wpT_region (by kernel_rfl) (fun K hK => ?_)
 simp only [↓SP, SZ, ↓reduceIte, reduceCtorEq, nE, nA, nL, nT, Evn.av, chkO]
 refine hK _ _ ?_
 clear hK K
 refine wpT_if (by rfl) (fun hc9 => ?_) (fun hc9 => ?_)
 ·
  have p9 := hc9
  try simp only [PB] at p9
  have hx0 : evE h.ws.length t x = if x.wr ≠ t.iss.length ∨ x.wr ≥ h.ws.length then 3 else 0 := if_pos p9
  refine wpT_seq ?_
  refine wpT_seq ?_
  refine wpT_drawn [] mixed (by kernel_rfl) (m := 20) rfl (fun K hK => ?_)
  simp only [↓SP, SZ, ↓reduceIte, reduceCtorEq, nE, nA, nL, nT, Evn.av, chkO, hc9]
  refine guardD_split (fun hg20 => ?_) (fun hg20 => ?_)
  ·
   have p20 := hg20
   try simp only [PB] at p20
   simp only [↓SP, SZ, ↓reduceIte, reduceCtorEq, nE, nA, nL, nT, Evn.av, chkO, hc9, hg20]
   refine hK _ _ ?_
   clear hK K
   refine wpT_if (by rfl) (fun hc30 => ?_) (fun hc30 => ?_)
   ·
    have p30 := hc30
    try simp only [PB] at p30
    have hx : evE h.ws.length t x = 3 := by rw [hx0]; exact if_pos (by omega)
    have ht := evT_err (k := k) (by rw [hx]; decide)
    refine wpT_seq ?_
    refine wpT_region (by kernel_rfl) (fun K hK => ?_)
    simp only [↓SP, SZ, ↓reduceIte, reduceCtorEq, nE, nA, nL, nT, Evn.av, chkO, hc9, hg20, hc30]
    refine hK _ _ ?_
    clear hK K
    refine wpT_ret ⟨.inr rfl, ?_⟩
    show optK (resA _ _ _ [.tmp 6]) _
    simp only [SRO, ↓SP, SZ, ↓reduceIte, reduceCtorEq, nE, nA, nL, nT, Evn.av, chkO, hc9, hg20, hc30]
    rw [hx, ht]
    refine ⟨rfl, ?_, ?_, ?_⟩
    all_goals simp only [↓SP, SZ, ↓reduceIte, reduceCtorEq, nE, nA, nL, nT, chkO, List.map_append, List.length_append, List.length_set, hl, List.map_set]
   ·
    have p30 := hc30
    try simp only [PB] at p30
    have hx : evE h.ws.length t x = 0 := by rw [hx0]; exact if_neg (by omega)
    have ht := evT_ok (k := k) hx
    rw [evS, if_pos p9] at ht
    refine wpT_skip ?_
    refine wpT_drawn [(3, 8), (4, 8), (5, 8), (6, 8), (8, 11), (9, 11), (8, 12), (9, 12), (8, 13), (9, 13), (8, 14), (9, 14), (3, 15), (4, 15), (5, 15), (6, 15), (8, 15), (9, 15), (11, 15), (12, 15), (13, 15), (14, 15)] mixed (by kernel_rfl) (m := 25) rfl (fun K hK => ?_)
    simp only [↓SP, SZ, ↓reduceIte, reduceCtorEq, nE, nA, nL, nT, Evn.av, chkO, q1, q2, hl, List.cons_append, List.mem_singleton, hc9, hg20, hc30]
    refine hK _ _ ?_
    clear hK K
    refine wpT_inBlock ?_
    refine wpT_seq ?_
    refine wpT_region (by kernel_rfl) (fun K hK => ?_)
    simp only [↓SP, SZ, ↓reduceIte, reduceCtorEq, nE, nA, nL, nT, Evn.av, chkO, hc9, hg20, hc30]
    refine hK _ _ ?_
    clear hK K
    refine wpT_ret ⟨.inr rfl, ?_⟩
    show optK (resA _ _ _ [.tmp 6]) _
    simp only [SRO, ↓SP, SZ, ↓reduceIte, reduceCtorEq, nE, nA, nL, nT, Evn.av, chkO, hc9, hg20, hc30]
    rw [hx, ht]
    refine ⟨rfl, ?_, ?_, ?_⟩
    all_goals simp only [↓SP, SZ, ↓reduceIte, reduceCtorEq, nE, nA, nL, nT, chkO, List.map_append, List.length_append, List.length_set, hl, List.map_set]
  ·
   simp only [Bool.not_true, Bool.not_false] at hg20
   have p20 := hg20
   try simp only [PB] at p20
   simp only [↓SP, SZ, ↓reduceIte, reduceCtorEq, nE, nA, nL, nT, Evn.av, chkO, hc9, hg20]
   refine hK _ _ ?_
   clear hK K
   refine wpT_ifT (by simp only [↓SP, SZ, ↓reduceIte, reduceCtorEq, nE, nA, nL, nT, Evn.av, chkO, hc9, hg20]) ?_
   have hx : evE h.ws.length t x = 3 := by rw [hx0]; exact if_pos (by omega)
   have ht := evT_err (k := k) (by rw [hx]; decide)
   refine wpT_seq ?_
   refine wpT_region (by kernel_rfl) (fun K hK => ?_)
   simp only [↓SP, SZ, ↓reduceIte, reduceCtorEq, nE, nA, nL, nT, Evn.av, chkO, hc9, hg20]
   refine hK _ _ ?_
   clear hK K
   refine wpT_ret ⟨.inr rfl, ?_⟩
   show optK (resA _ _ _ [.tmp 6]) _
   simp only [SRO, ↓SP, SZ, ↓reduceIte, reduceCtorEq, nE, nA, nL, nT, Evn.av, chkO, hc9, hg20]
   rw [hx, ht]
   refine ⟨rfl, ?_, ?_, ?_⟩
   all_goals simp only [↓SP, SZ, ↓reduceIte, reduceCtorEq, nE, nA, nL, nT, chkO, List.map_append, List.length_append, List.length_set, hl, List.map_set]
 ·
  have p9 := hc9
  try simp only [PB] at p9
  have hk0 : ¬ x.kind = 0 := by simpa using p9
  refine wpT_seq ?_
  refine wpT_region (by kernel_rfl) (fun K hK => ?_)
  simp only [↓SP, SZ, ↓reduceIte, reduceCtorEq, nE, nA, nL, nT, Evn.av, chkO, hc9]
  refine hK _ _ ?_
  clear hK K
  refine wpT_if (by rfl) (fun hc54 => ?_) (fun hc54 => ?_)
  ·
   have p54 := hc54
   try simp only [PB] at p54
   have hx0 : evE h.ws.length t x = if x.wr < 0 ∨ x.wr ≥ t.iss.length then 7 else if t.ack.getD x.wr.toNat 0 ≥ 0 then 8 else 0 := by rw [evE, if_neg hk0, if_pos p54]
   refine wpT_seq ?_
   refine wpT_seq ?_
   refine wpT_drawn [] mixed (by kernel_rfl) (m := 14) rfl (fun K hK => ?_)
   simp only [↓SP, SZ, ↓reduceIte, reduceCtorEq, nE, nA, nL, nT, Evn.av, chkO, hc9, hc54]
   refine guardD_split (fun hg59 => ?_) (fun hg59 => ?_)
   ·
    have p59 := hg59
    try simp only [PB] at p59
    simp only [↓SP, SZ, ↓reduceIte, reduceCtorEq, nE, nA, nL, nT, Evn.av, chkO, hc9, hc54, hg59]
    refine hK _ _ ?_
    clear hK K
    refine wpT_if (by rfl) (fun hc69 => ?_) (fun hc69 => ?_)
    ·
     have p69 := hc69
     try simp only [PB] at p69
     have hx : evE h.ws.length t x = 7 := by rw [hx0]; exact if_pos (by omega)
     have ht := evT_err (k := k) (by rw [hx]; decide)
     refine wpT_seq ?_
     refine wpT_region (by kernel_rfl) (fun K hK => ?_)
     simp only [↓SP, SZ, ↓reduceIte, reduceCtorEq, nE, nA, nL, nT, Evn.av, chkO, hc9, hc54, hg59, hc69]
     refine hK _ _ ?_
     clear hK K
     refine wpT_ret ⟨.inr rfl, ?_⟩
     show optK (resA _ _ _ [.tmp 6]) _
     simp only [SRO, ↓SP, SZ, ↓reduceIte, reduceCtorEq, nE, nA, nL, nT, Evn.av, chkO, hc9, hc54, hg59, hc69]
     rw [hx, ht]
     refine ⟨rfl, ?_, ?_, ?_⟩
     all_goals simp only [↓SP, SZ, ↓reduceIte, reduceCtorEq, nE, nA, nL, nT, chkO, List.map_append, List.length_append, List.length_set, hl, List.map_set]
    ·
     have p69 := hc69
     try simp only [PB] at p69
     obtain ⟨m, hm⟩ := Int.eq_ofNat_of_zero_le (a := x.wr) (by omega)
     have hlt : m < t.ack.length := by omega
     have hg := at_map (f := I) hlt
     have hz0 : (0 : Int) ≤ (m : Int) := by omega
     have hz1 : (m : Int) < (t.iss.length : Int) := by omega
     have hd : t.ack.getD x.wr.toNat 0 = t.ack[m] := by rw [hm]; simp [hlt]
     rw [if_neg (by omega), hd] at hx0
     refine wpT_skip ?_
     refine wpT_seq ?_
     refine wpT_seq ?_
     refine wpT_drawn [] mixed (by kernel_rfl) (m := 10) rfl (fun K hK => ?_)
     simp only [↓SP, SZ, ↓reduceIte, reduceCtorEq, nE, nA, nL, nT, Evn.av, chkO, hl, hm, hg, hz0, hz1, Int.toNat_natCast, ldO_arr, Nat.le_refl, Option.bind_some, hc9, hc54, hg59, hc69]
     refine hK _ _ ?_
     clear hK K
     refine wpT_if (by rfl) (fun hc79 => ?_) (fun hc79 => ?_)
     ·
      have p79 := hc79
      try simp only [PB] at p79
      have hx : evE h.ws.length t x = 8 := by rw [hx0]; exact if_pos p79
      have ht := evT_err (k := k) (by rw [hx]; decide)
      refine wpT_seq ?_
      refine wpT_region (by kernel_rfl) (fun K hK => ?_)
      simp only [↓SP, SZ, ↓reduceIte, reduceCtorEq, nE, nA, nL, nT, Evn.av, chkO, hc9, hc54, hg59, hc69, hc79]
      refine hK _ _ ?_
      clear hK K
      refine wpT_ret ⟨.inr rfl, ?_⟩
      show optK (resA _ _ _ [.tmp 6]) _
      simp only [SRO, ↓SP, SZ, ↓reduceIte, reduceCtorEq, nE, nA, nL, nT, Evn.av, chkO, hc9, hc54, hg59, hc69, hc79]
      rw [hx, ht]
      refine ⟨rfl, ?_, ?_, ?_⟩
      all_goals simp only [↓SP, SZ, ↓reduceIte, reduceCtorEq, nE, nA, nL, nT, chkO, List.map_append, List.length_append, List.length_set, hl, List.map_set]
     ·
      have p79 := hc79
      try simp only [PB] at p79
      have hx : evE h.ws.length t x = 0 := by rw [hx0]; exact if_neg (by omega)
      have ht := evT_ok (k := k) hx
      rw [evS, if_neg hk0, hm, Int.toNat_natCast] at ht
      refine wpT_skip ?_
      refine wpT_drawn [] mixed (by kernel_rfl) (m := 10) rfl (fun K hK => ?_)
      simp only [↓SP, SZ, ↓reduceIte, reduceCtorEq, nE, nA, nL, nT, Evn.av, chkO, hl, hm, hg, hz0, hz1, Int.toNat_natCast, stO_arr, Nat.le_refl, Option.bind_some, hc9, hc54, hg59, hc69, hc79]
      refine hK _ _ ?_
      clear hK K
      refine wpT_inBlock ?_
      refine wpT_seq ?_
      refine wpT_region (by kernel_rfl) (fun K hK => ?_)
      simp only [↓SP, SZ, ↓reduceIte, reduceCtorEq, nE, nA, nL, nT, Evn.av, chkO, hc9, hc54, hg59, hc69, hc79]
      refine hK _ _ ?_
      clear hK K
      refine wpT_ret ⟨.inr rfl, ?_⟩
      show optK (resA _ _ _ [.tmp 6]) _
      simp only [SRO, ↓SP, SZ, ↓reduceIte, reduceCtorEq, nE, nA, nL, nT, Evn.av, chkO, hc9, hc54, hg59, hc69, hc79]
      rw [hx, ht]
      refine ⟨rfl, ?_, ?_, ?_⟩
      all_goals simp only [↓SP, SZ, ↓reduceIte, reduceCtorEq, nE, nA, nL, nT, chkO, List.map_append, List.length_append, List.length_set, hl, List.map_set]
   ·
    simp only [Bool.not_true, Bool.not_false] at hg59
    have p59 := hg59
    try simp only [PB] at p59
    simp only [↓SP, SZ, ↓reduceIte, reduceCtorEq, nE, nA, nL, nT, Evn.av, chkO, hc9, hc54, hg59]
    refine hK _ _ ?_
    clear hK K
    refine wpT_ifT (by simp only [↓SP, SZ, ↓reduceIte, reduceCtorEq, nE, nA, nL, nT, Evn.av, chkO, hc9, hc54, hg59]) ?_
    have hx : evE h.ws.length t x = 7 := by rw [hx0]; exact if_pos (by omega)
    have ht := evT_err (k := k) (by rw [hx]; decide)
    refine wpT_seq ?_
    refine wpT_region (by kernel_rfl) (fun K hK => ?_)
    simp only [↓SP, SZ, ↓reduceIte, reduceCtorEq, nE, nA, nL, nT, Evn.av, chkO, hc9, hc54, hg59]
    refine hK _ _ ?_
    clear hK K
    refine wpT_ret ⟨.inr rfl, ?_⟩
    show optK (resA _ _ _ [.tmp 6]) _
    simp only [SRO, ↓SP, SZ, ↓reduceIte, reduceCtorEq, nE, nA, nL, nT, Evn.av, chkO, hc9, hc54, hg59]
    rw [hx, ht]
    refine ⟨rfl, ?_, ?_, ?_⟩
    all_goals simp only [↓SP, SZ, ↓reduceIte, reduceCtorEq, nE, nA, nL, nT, chkO, List.map_append, List.length_append, List.length_set, hl, List.map_set]
  ·
   have p54 := hc54
   try simp only [PB] at p54
   have hx : evE h.ws.length t x = 3 := by rw [evE, if_neg hk0, if_neg (by simpa using p54)]
   have ht := evT_err (k := k) (by rw [hx]; decide)
   refine wpT_seq ?_
   refine wpT_region (by kernel_rfl) (fun K hK => ?_)
   simp only [↓SP, SZ, ↓reduceIte, reduceCtorEq, nE, nA, nL, nT, Evn.av, chkO, hc9, hc54]
   refine hK _ _ ?_
   clear hK K
   refine wpT_ret ⟨.inr rfl, ?_⟩
   show optK (resA _ _ _ [.tmp 6]) _
   simp only [SRO, ↓SP, SZ, ↓reduceIte, reduceCtorEq, nE, nA, nL, nT, Evn.av, chkO, hc9, hc54]
   rw [hx, ht]
   refine ⟨rfl, ?_, ?_, ?_⟩
   all_goals simp only [↓SP, SZ, ↓reduceIte, reduceCtorEq, nE, nA, nL, nT, chkO, List.map_append, List.length_append, List.length_set, hl, List.map_set]
end Go.Proofs.YtfdfkmcplhloaaaGreat
end

section
set_option linter.unusedSimpArgs false
set_option linter.unusedVariables false
namespace Go.Proofs.YtfdfkmcplhloaaaGreat
open Go.Proofs
open Nat renaming reduceEqDiff → nE, reduceAdd → nA, reduceLeDiff → nL, reduceLT → nT
set_option maxRecDepth 10000
theorem event_call (h : Hist) (t : TL) (k : Nat) (x : Evn) (hh : h.ok) (hk : k < 4000000) (hn : t.iss.length < 4000000) (hl : t.ack.length = t.iss.length) {H : Hp} {K : AV → Hp → Prop} (h2 : H.get 2 = some (chkO h 3 4 t.iss.length)) (h3 : H.get 3 = some (.arr 3 1 (t.iss.map I))) (h4 : H.get 4 = some (.arr 3 1 (t.ack.map I)))
    (hK : K (I (evE h.ws.length t x)) (H.upd [(2, chkO h 3 4 (evT h.ws.length k t x).iss.length), (3, .arr 3 1 ((evT h.ws.length k t x).iss.map I)), (4, .arr 3 1 ((evT h.ws.length k t x).ack.map I))])) :
    CallV Tryz.prog (.fn (.func 83) [] []) [.ptr 2 1 0 0, I k, x.av] H K := by
  have hc : ∀ (l : List Loc) (n : Nat), Loc.has l 1 → Loc.has l 2 → Loc.at l 1 = 3 → Loc.at l 2 = 4 → RnO (Loc.has l) (Loc.at l) (chkO h 1 2 n) (chkO h 3 4 n) := by
    intro l n h1 h2 e1 e2
    refine .arr _ _ _ _ (RnL.cons (Rn.aggL (RnL.cons (.idf _ ?_) (RnL.cons (.idf _ ?_) (RnL.cons (.idf _ ?_) (RnL.cons ?_ (RnL.cons ?_ RnL.nil)))))) RnL.nil)
    · simp only [IDF, implies_true]
    · simp only [IDF, wr_idf, implies_true]
    · simp only [IDF, evn_idf, implies_true]
    · rw [← e1]; exact .sl 1 n 0 n h1
    · rw [← e2]; exact .sl 2 n 0 n h2
  have hi : ∀ (D : Nat → Prop) (q : Nat → Nat) (xs : List Int), RnO D q (.arr 3 1 (xs.map I)) (.arr 3 1 (xs.map I)) := fun D q xs => .arr _ _ _ _ (RnL.idf (by simp only [IDF, implies_true]))
  refine CallV.local [⟨0, 2, chkO h 1 2 t.iss.length, chkO h 3 4 t.iss.length⟩, ⟨1, 3, .arr 3 1 (t.iss.map I), .arr 3 1 (t.iss.map I)⟩, ⟨2, 4, .arr 3 1 (t.ack.map I), .arr 3 1 (t.ack.map I)⟩] 3
    (c83 h t k x hh hk hn hl) (by rfl) (by simp) (by simpa using ⟨h2, h3, h4⟩) ?_ (.idf _ (by simp only [IDF, and_tt])) ?_ ?_
  · intro y hy
    simp only [List.mem_cons, List.not_mem_nil, or_false] at hy
    rcases hy with rfl | rfl | rfl
    · exact hc _ _ (by simp [Loc.has]) (by simp [Loc.has]) rfl rfl
    · exact hi _ _ _
    · exact hi _ _ _
  · refine RnL.cons ?_ (RnL.idf ?_)
    · exact .ptr 0 1 0 0 (by simp [Loc.has])
    · simp only [IDF, evn_idf, and_tt, implies_true]
  · rintro v0 h0 ⟨rfl, g0, g1, g2⟩
    refine ⟨_, [⟨0, 2, chkO h 1 2 (evT h.ws.length k t x).iss.length, chkO h 3 4 (evT h.ws.length k t x).iss.length⟩, ⟨1, 3, .arr 3 1 ((evT h.ws.length k t x).iss.map I), .arr 3 1 ((evT h.ws.length k t x).iss.map I)⟩, ⟨2, 4, .arr 3 1 ((evT h.ws.length k t x).ack.map I), .arr 3 1 ((evT h.ws.length k t x).ack.map I)⟩], rfl, rfl, ?_, .idf _ (.int _ _), hK⟩
    intro y hy
    simp only [List.mem_cons, List.not_mem_nil, or_false] at hy
    rcases hy with rfl | rfl | rfl
    · exact ⟨g0, hc _ _ (by simp [Loc.has]) (by simp [Loc.has]) rfl rfl⟩
    · exact ⟨g1, hi _ _ _⟩
    · exact ⟨g2, hi _ _ _⟩
def chkAV (h : Hist) : AV := if histE h ≠ 0 then .agg [.lst [], .lst [], .lst [], .lst [], .lst []] else .agg [.lst (h.sizes.map I), .lst (h.ws.map Wr.av), .lst (h.evs.map Evn.av), .lst ((histRun h).2.iss.map I), .lst ((histRun h).2.ack.map I)]
theorem chkAV_err {h : Hist} (e : histE h ≠ 0) : chkAV h = .agg [.lst [], .lst [], .lst [], .lst [], .lst []] := if_pos e
theorem chkAV_ok {h : Hist} (e : histE h = 0) : chkAV h = .agg [.lst (h.sizes.map I), .lst (h.ws.map Wr.av), .lst (h.evs.map Evn.av), .lst ((histRun h).2.iss.map I), .lst ((histRun h).2.ack.map I)] := if_neg (by omega)
theorem chkAV_idf (h : Hist) : Idf (chkAV h) = True := eq_true (by
  unfold chkAV
  split <;> simp only [IDF, wr_idf, evn_idf, and_tt, implies_true])
theorem chk0_lend {g : Nat → Option Ob} {h : Hist} (e : histE h ≠ 0) : Lend g (.agg [.nil0, .nil0, .nil0, .nil0, .nil0]) (chkAV h) := by
  rw [chkAV_err e]
  exact Lend.aggL (LendL.cons .nil0 (LendL.cons .nil0 (LendL.cons .nil0 (LendL.cons .nil0 (LendL.cons .nil0 LendL.nil)))))
theorem evRun_step {n k : Nat} {t : TL} {x : Evn} {xs : List Evn} (h : evE n t x = 0) : evRun n k t (x :: xs) = evRun n (k + 1) (evT n k t x) xs := by
  rw [evRun, if_neg (by omega), evT_ok h]
theorem evRun_err {n k : Nat} {t : TL} {x : Evn} {xs : List Evn} (h : evE n t x ≠ 0) : evRun n k t (x :: xs) = (evE n t x, t) := by
  rw [evRun, if_pos h]
theorem c60 (h : Hist) (hs : h.sm) : Pu Tryz.prog (.fn (.func 60) [] []) [h.av] (.tup [chkAV h, I (histE h)]) := by
 refine pu_func Tryz.func60 rfl (by kernel_rfl) (by show _ ≤ 71; simp only [List.length_append, List.length_cons, List.length_nil]; decide) (by simp only [IDF, chkAV_idf, and_tt]) (by simp only [IDF, and_tt, implies_true]) (by simp only [IDF, hist_idf, and_tt, implies_true]) ?_
 have hh := hs.ok
 have hz := hs.1
 have hw := hs.2.1
 have he := hs.2.2.1
 rw [Tryz.ntmps60]
 refine wpT_seq ?_
 refine wpT_region (by kernel_rfl) (fun K hK => ?_)
 simp only [↓SP, SZ, ↓reduceIte, reduceCtorEq, nE, nA, nL, nT, Hist.av]
 refine hK _ _ ?_
 clear hK K
 refine wpT_seq ?_
 refine wpT_region (by kernel_rfl) (fun K hK => ?_)
 simp only [↓SP, SZ, ↓reduceIte, reduceCtorEq, nE, nA, nL, nT, Hist.av]
 refine hK _ _ ?_
 clear hK K
 refine wpT_nilcell 2 3 3 1 (by simp only [↓SP, SZ, ↓reduceIte, reduceCtorEq, nE, nA, nL, nT]; rfl) (by rfl) (by rfl) ?_
 refine wpT_nilcell 2 4 3 1 (by simp only [↓SP, SZ, ↓reduceIte, reduceCtorEq, nE, nA, nL, nT]; rfl) (by rfl) (by rfl) ?_
 refine wpT_seq ?_
 refine wpT_region (by kernel_rfl) (fun K hK => ?_)
 simp only [↓SP, SZ, ↓reduceIte, reduceCtorEq, nE, nA, nL, nT, Hist.av]
 refine Pu.call (c65 h.sizes hh.1) ?_
 simp only [↓SP, SZ, ↓reduceIte, reduceCtorEq, nE, nA, nL, nT, Hist.av]
 refine hK _ _ ?_
 clear hK K
 refine wpT_seq ?_
 refine wpT_seq ?_
 refine wpT_region (by kernel_rfl) (fun K hK => ?_)
 simp only [↓SP, SZ, ↓reduceIte, reduceCtorEq, nE, nA, nL, nT, Hist.av]
 refine hK _ _ ?_
 clear hK K
 refine wpT_if (by rfl) (fun hc22 => ?_) (fun hc22 => ?_)
 ·
  have p22 := hc22
  try simp only [PB] at p22
  have hx : histE h = sizesE h.sizes := if_pos p22
  refine wpT_seq ?_
  refine wpT_region (by kernel_rfl) (fun K hK => ?_)
  simp only [↓SP, SZ, ↓reduceIte, reduceCtorEq, nE, nA, nL, nT, Hist.av, hc22]
  refine hK _ _ ?_
  clear hK K
  refine wpT_ret ⟨.inr rfl, ?_⟩
  show optK (resA _ _ _ [.cell 2 123, .tmp 3]) _
  simp only [SRO, ↓SP, SZ, ↓reduceIte, reduceCtorEq, nE, nA, nL, nT, Hist.av, hc22]
  have hx4 : histE h ≠ 0 := by rw [hx]; omega
  rw [hx]
  exact Lend.tupL (LendL.cons (chk0_lend hx4) (LendL.cons (.refl _) LendL.nil))
 ·
  have p22 := hc22
  try simp only [PB] at p22
  have hsz : sizesE h.sizes = 0 := by simpa using p22
  refine wpT_skip ?_
  refine wpT_seq ?_
  refine wpT_seq ?_
  refine wpT_region (by kernel_rfl) (fun K hK => ?_)
  simp only [↓SP, SZ, ↓reduceIte, reduceCtorEq, nE, nA, nL, nT, Hist.av, hc22]
  refine hK _ _ ?_
  clear hK K
  refine wpT_if (by rfl) (fun hc28 => ?_) (fun hc28 => ?_)
  ·
   have p28 := hc28
   try simp only [PB] at p28
   have hx : histE h = 6 := by rw [histE, if_neg (by omega), if_pos (by omega)]
   refine wpT_seq ?_
   refine wpT_region (by kernel_rfl) (fun K hK => ?_)
   simp only [↓SP, SZ, ↓reduceIte, reduceCtorEq, nE, nA, nL, nT, Hist.av, hc22, hc28]
   refine hK _ _ ?_
   clear hK K
   refine wpT_ret ⟨.inr rfl, ?_⟩
   show optK (resA _ _ _ [.cell 2 123, .tmp 3]) _
   simp only [SRO, ↓SP, SZ, ↓reduceIte, reduceCtorEq, nE, nA, nL, nT, Hist.av, hc22, hc28]
   have hx4 : histE h ≠ 0 := by rw [hx]; omega
   rw [hx]
   exact Lend.tupL (LendL.cons (chk0_lend hx4) (LendL.cons (.refl _) LendL.nil))
  ·
   have p28 := hc28
   try simp only [PB] at p28
   refine wpT_skip ?_
   refine wpT_seq ?_
   refine wpT_seq ?_
   refine wpT_region (by kernel_rfl) (fun K hK => ?_)
   simp only [↓SP, SZ, ↓reduceIte, reduceCtorEq, nE, nA, nL, nT, Hist.av, hc22, hc28]
   refine hK _ _ ?_
   clear hK K
   refine wpT_block ?_
   refine wpT_loop ?_
   refine wpT_keep5 (i := 0) (j := 1) (k := 2) (l := 3) (m := 4) (o := .arr 26 3 [h.av]) (q := .arr 123 5 [.agg [.nil0, .nil0, .nil0, .nil0, .nil0]]) (r := chkO h 3 4 0) (s := .arr 3 1 []) (u := .arr 3 1 []) (by simp only [↓SP, SZ, ↓reduceIte, reduceCtorEq, nE, nA, nL, nT, Hist.av]) (by simp only [↓SP, SZ, ↓reduceIte, reduceCtorEq, nE, nA, nL, nT]) (by simp only [↓SP, SZ, ↓reduceIte, reduceCtorEq, nE, nA, nL, nT]; rfl) (by simp only [↓SP, SZ, ↓reduceIte, reduceCtorEq, nE, nA, nL, nT]) (by simp only [↓SP, SZ, ↓reduceIte, reduceCtorEq, nE, nA, nL, nT]) ?_
   refine wpT_ind (fun (i : Nat) tm' h' => (∃ m, h' = Hp.of [(0, .arr 26 3 [h.av]), (1, .arr 123 5 [.agg [.nil0, .nil0, .nil0, .nil0, .nil0]]), (2, chkO h 3 4 0), (3, .arr 3 1 []), (4, .arr 3 1 [])] (m + 5)) ∧ tm' 1 = .ptr 0 1 0 0 ∧ tm' 2 = .ptr 1 1 0 0 ∧ tm' 4 = .ptr 2 1 0 0 ∧ tm' 5 = imgAV (newImg h.sizes) ∧ tm' 31 = .lst (h.ws.map Wr.av) ∧ tm' 32 = I h.ws.length ∧ tm' 33 = I i ∧ i ≤ h.ws.length ∧ fitsAll h.sizes (h.ws.drop i) = fitsAll h.sizes h.ws) (fun i => h.ws.length - i) ?_ 0 ⟨⟨0, rfl⟩, rfl, rfl, rfl, rfl, rfl, rfl, rfl, by omega, rfl⟩
   rintro i tm' _ ⟨⟨m, rfl⟩, e1, e2, e4, e5, e31, e32, e33, hi, hx⟩ IH
   refine wpT_inLoop ?_
   refine wpT_seq ?_
   refine wpT_region (by kernel_rfl) (fun K hK => ?_)
   simp only [↓SP, SZ, ↓reduceIte, reduceCtorEq, nE, nA, nL, nT, Hist.av, e32, e33]
   refine hK _ _ ?_
   clear hK K
   refine wpT_seq ?_
   refine wpT_if (by rfl) (fun hc34 => ?_) (fun hc34 => ?_)
   ·
    have p34 := hc34
    try simp only [PB] at p34
    have hlt : i < h.ws.length := by omega
    have hg := at_map (f := Wr.av) hlt
    have hn := new_lens hsz
    rw [List.drop_eq_getElem_cons hlt, fitsAll] at hx
    refine wpT_skip ?_
    refine wpT_seq ?_
    refine wpT_block ?_
    refine wpT_seq ?_
    refine wpT_region (by kernel_rfl) (fun K hK => ?_)
    simp only [↓SP, SZ, ↓reduceIte, reduceCtorEq, nE, nA, nL, nT, Hist.av, e31, e33, hg, hc34]
    refine hK _ _ ?_
    clear hK K
    refine wpT_seq ?_
    refine wpT_region (by kernel_rfl) (fun K hK => ?_)
    simp only [↓SP, SZ, ↓reduceIte, reduceCtorEq, nE, nA, nL, nT, Hist.av, e5, hc34]
    refine Pu.call (c82 (newImg h.sizes) h.ws[i] (by omega) hn.2 (hh.2.2.2 _ (List.getElem_mem hlt))) ?_
    simp only [↓SP, SZ, ↓reduceIte, reduceCtorEq, nE, nA, nL, nT, Hist.av, e5, hc34]
    refine hK _ _ ?_
    clear hK K
    refine wpT_seq ?_
    refine wpT_region (by kernel_rfl) (fun K hK => ?_)
    simp only [↓SP, SZ, ↓reduceIte, reduceCtorEq, nE, nA, nL, nT, Hist.av, hc34]
    refine hK _ _ ?_
    clear hK K
    refine wpT_if (by rfl) (fun hc41 => ?_) (fun hc41 => ?_)
    ·
     have p41 := hc41
     try simp only [PB] at p41
     have hx2 := fits_new hsz h.ws[i]
     have hx3 : histE h = fitsI (newImg h.sizes) h.ws[i] := by
       rw [hx2] at p41
       rw [histE, if_neg (by omega), if_neg (by omega), ← hx, if_pos p41, if_pos p41, hx2]
     have hx4 : histE h ≠ 0 := by rw [hx3]; exact p41
     refine wpT_seq ?_
     refine wpT_region (by kernel_rfl) (fun K hK => ?_)
     simp only [↓SP, SZ, ↓reduceIte, reduceCtorEq, nE, nA, nL, nT, Hist.av, e2, hc34, hc41]
     refine hK _ _ ?_
     clear hK K
     refine wpT_ret ⟨.inr rfl, ?_⟩
     show optK (resA _ _ _ [.cell 2 123, .tmp 3]) _
     simp only [SRO, ↓SP, SZ, ↓reduceIte, reduceCtorEq, nE, nA, nL, nT, Hist.av, hc34, hc41]
     simp only [↓SP, SZ, ↓reduceIte, reduceCtorEq, nE, nA, nL, nT, SR, Option.map_some, Option.bind_some, e2]
     rw [hx3]
     exact Lend.tupL (LendL.cons (chk0_lend hx4) (LendL.cons (.refl _) LendL.nil))
    ·
     have p41 := hc41
     try simp only [PB] at p41
     have hx2 := fits_new hsz h.ws[i]
     rw [if_neg (by omega)] at hx
     refine wpT_skip ?_
     refine wpT_inBlock ?_
     refine wpT_region (by kernel_rfl) (fun K hK => ?_)
     simp only [↓SP, SZ, ↓reduceIte, reduceCtorEq, nE, nA, nL, nT, Hist.av, e33, wrap64 (x := (i : Int) + 1) (by omega) (by omega), hc34, hc41]
     refine hK _ _ ?_
     clear hK K
     refine wpT_keep5 (i := 0) (j := 1) (k := 2) (l := 3) (m := 4) (o := .arr 26 3 [h.av]) (q := .arr 123 5 [.agg [.nil0, .nil0, .nil0, .nil0, .nil0]]) (r := chkO h 3 4 0) (s := .arr 3 1 []) (u := .arr 3 1 []) (by simp only [↓SP, SZ, ↓reduceIte, reduceCtorEq, nE, nA, nL, nT, Hist.av]) (by simp only [↓SP, SZ, ↓reduceIte, reduceCtorEq, nE, nA, nL, nT]) (by simp only [↓SP, SZ, ↓reduceIte, reduceCtorEq, nE, nA, nL, nT]) (by simp only [↓SP, SZ, ↓reduceIte, reduceCtorEq, nE, nA, nL, nT]) (by simp only [↓SP, SZ, ↓reduceIte, reduceCtorEq, nE, nA, nL, nT]) ?_
     refine IH (i + 1) _ _ (by omega) ⟨⟨_, rfl⟩, by simp only [↓SP, SZ, ↓reduceIte, reduceCtorEq, nE, nA, nL, nT, e1], by simp only [↓SP, SZ, ↓reduceIte, reduceCtorEq, nE, nA, nL, nT, e2], by simp only [↓SP, SZ, ↓reduceIte, reduceCtorEq, nE, nA, nL, nT, e4], by simp only [↓SP, SZ, ↓reduceIte, reduceCtorEq, nE, nA, nL, nT, e5], by simp only [↓SP, SZ, ↓reduceIte, reduceCtorEq, nE, nA, nL, nT, e31], by simp only [↓SP, SZ, ↓reduceIte, reduceCtorEq, nE, nA, nL, nT, e32], by simp only [↓SP, SZ, ↓reduceIte, reduceCtorEq, nE, nA, nL, nT, Int.natCast_add, Int.cast_ofNat_Int], by omega, hx⟩
   ·
    have p34 := hc34
    try simp only [PB] at p34
    rw [List.drop_eq_nil_of_le (by omega), fitsAll] at hx
    have hfa := hx.symm
    refine wpT_exit rfl ?_
    refine wpT_seq ?_
    refine wpT_seq ?_
    refine wpT_region (by kernel_rfl) (fun K hK => ?_)
    simp only [↓SP, SZ, ↓reduceIte, reduceCtorEq, nE, nA, nL, nT, Hist.av, e1, hc34]
    refine hK _ _ ?_
    clear hK K
    refine wpT_block ?_
    refine wpT_loop ?_
    clear IH hi hx e31 e32 e33
    refine wpT_ind (fun (i : Nat) tm' h' => ∃ t : TL, (∃ m, h' = Hp.of [(0, .arr 26 3 [h.av]), (1, .arr 123 5 [.agg [.nil0, .nil0, .nil0, .nil0, .nil0]]), (2, chkO h 3 4 t.iss.length), (3, .arr 3 1 (t.iss.map I)), (4, .arr 3 1 (t.ack.map I))] (m + 5)) ∧ tm' 1 = .ptr 0 1 0 0 ∧ tm' 2 = .ptr 1 1 0 0 ∧ tm' 4 = .ptr 2 1 0 0 ∧ tm' 46 = .lst (h.evs.map Evn.av) ∧ tm' 47 = I h.evs.length ∧ tm' 48 = I i ∧ i ≤ h.evs.length ∧ t.good h.ws.length i ∧ evRun h.ws.length i t (h.evs.drop i) = histRun h) (fun i => h.evs.length - i) ?_ 0 ⟨⟨[], []⟩, ⟨_, rfl⟩, by simp only [↓SP, SZ, ↓reduceIte, reduceCtorEq, nE, nA, nL, nT, e1], by simp only [↓SP, SZ, ↓reduceIte, reduceCtorEq, nE, nA, nL, nT, e2], by simp only [↓SP, SZ, ↓reduceIte, reduceCtorEq, nE, nA, nL, nT, e4], rfl, rfl, rfl, by omega, tl0_good _, rfl⟩
    rintro i tm' _ ⟨t, ⟨m, rfl⟩, e1, e2, e4, e46, e47, e48, hi, hgd, hrun⟩ IH
    have htl := hgd.len
    have htn := hgd.le
    refine wpT_inLoop ?_
    refine wpT_seq ?_
    refine wpT_region (by kernel_rfl) (fun K hK => ?_)
    simp only [↓SP, SZ, ↓reduceIte, reduceCtorEq, nE, nA, nL, nT, Hist.av, e47, e48]
    refine hK _ _ ?_
    clear hK K
    refine wpT_seq ?_
    refine wpT_if (by rfl) (fun hc49 => ?_) (fun hc49 => ?_)
    ·
     have p49 := hc49
     try simp only [PB] at p49
     have hlt : i < h.evs.length := by omega
     have hg := at_map (f := Evn.av) hlt
     rw [List.drop_eq_getElem_cons hlt] at hrun
     refine wpT_skip ?_
     refine wpT_seq ?_
     refine wpT_block ?_
     refine wpT_seq ?_
     refine wpT_region (by kernel_rfl) (fun K hK => ?_)
     simp only [↓SP, SZ, ↓reduceIte, reduceCtorEq, nE, nA, nL, nT, Hist.av, e46, e48, hg, hc49]
     refine hK _ _ ?_
     clear hK K
     refine wpT_seq ?_
     refine wpT_region (by kernel_rfl) (fun K hK => ?_)
     simp only [↓SP, SZ, ↓reduceIte, reduceCtorEq, nE, nA, nL, nT, Hist.av, e4, hc49]
     refine event_call h t i h.evs[i] hh (by omega) (by omega) htl (by simp only [↓SP, SZ, ↓reduceIte, reduceCtorEq, nE, nA, nL, nT]) (by simp only [↓SP, SZ, ↓reduceIte, reduceCtorEq, nE, nA, nL, nT]) (by simp only [↓SP, SZ, ↓reduceIte, reduceCtorEq, nE, nA, nL, nT]) ?_
     simp only [↓SP, SZ, ↓reduceIte, reduceCtorEq, nE, nA, nL, nT, Hist.av, e4, hc49]
     refine hK _ _ ?_
     clear hK K
     refine wpT_seq ?_
     refine wpT_region (by kernel_rfl) (fun K hK => ?_)
     simp only [↓SP, SZ, ↓reduceIte, reduceCtorEq, nE, nA, nL, nT, Hist.av, hc49]
     refine hK _ _ ?_
     clear hK K
     refine wpT_if (by rfl) (fun hc57 => ?_) (fun hc57 => ?_)
     ·
      have p57 := hc57
      try simp only [PB] at p57
      rw [evRun_err p57] at hrun
      have hr1 : (histRun h).1 = evE h.ws.length t h.evs[i] := by rw [← hrun]
      have hx3 : histE h = evE h.ws.length t h.evs[i] := by
        rw [histE, if_neg (by omega), if_neg (by omega), if_neg (by omega), hr1, if_pos p57]
      have hx4 : histE h ≠ 0 := by rw [hx3]; exact p57
      refine wpT_seq ?_
      refine wpT_region (by kernel_rfl) (fun K hK => ?_)
      simp only [↓SP, SZ, ↓reduceIte, reduceCtorEq, nE, nA, nL, nT, Hist.av, e2, hc49, hc57]
      refine hK _ _ ?_
      clear hK K
      refine wpT_ret ⟨.inr rfl, ?_⟩
      show optK (resA _ _ _ [.cell 2 123, .tmp 3]) _
      simp only [SRO, ↓SP, SZ, ↓reduceIte, reduceCtorEq, nE, nA, nL, nT, Hist.av, hc49, hc57]
      simp only [↓SP, SZ, ↓reduceIte, reduceCtorEq, nE, nA, nL, nT, SR, Option.map_some, Option.bind_some, e2]
      rw [hx3]
      exact Lend.tupL (LendL.cons (chk0_lend hx4) (LendL.cons (.refl _) LendL.nil))
     ·
      have p57 := hc57
      try simp only [PB] at p57
      have he0 : evE h.ws.length t h.evs[i] = 0 := by simpa using p57
      rw [evRun_step he0] at hrun
      have hgd' := evS_good hgd he0
      rw [← evT_ok (k := i) he0] at hgd'
      refine wpT_skip ?_
      refine wpT_inBlock ?_
      refine wpT_region (by kernel_rfl) (fun K hK => ?_)
      simp only [↓SP, SZ, ↓reduceIte, reduceCtorEq, nE, nA, nL, nT, Hist.av, e48, wrap64 (x := (i : Int) + 1) (by omega) (by omega), hc49, hc57]
      refine hK _ _ ?_
      clear hK K
      refine wpT_keep5 (i := 0) (j := 1) (k := 2) (l := 3) (m := 4) (o := .arr 26 3 [h.av]) (q := .arr 123 5 [.agg [.nil0, .nil0, .nil0, .nil0, .nil0]]) (r := chkO h 3 4 (evT h.ws.length i t h.evs[i]).iss.length) (s := .arr 3 1 ((evT h.ws.length i t h.evs[i]).iss.map I)) (u := .arr 3 1 ((evT h.ws.length i t h.evs[i]).ack.map I)) (by simp only [↓SP, SZ, ↓reduceIte, reduceCtorEq, nE, nA, nL, nT, Hist.av]) (by simp only [↓SP, SZ, ↓reduceIte, reduceCtorEq, nE, nA, nL, nT]) (by simp only [↓SP, SZ, ↓reduceIte, reduceCtorEq, nE, nA, nL, nT]) (by simp only [↓SP, SZ, ↓reduceIte, reduceCtorEq, nE, nA, nL, nT]) (by simp only [↓SP, SZ, ↓reduceIte, reduceCtorEq, nE, nA, nL, nT]) ?_
      refine IH (i + 1) _ _ (by omega) ⟨evT h.ws.length i t h.evs[i], ⟨_, rfl⟩, by simp only [↓SP, SZ, ↓reduceIte, reduceCtorEq, nE, nA, nL, nT, e1], by simp only [↓SP, SZ, ↓reduceIte, reduceCtorEq, nE, nA, nL, nT, e2], by simp only [↓SP, SZ, ↓reduceIte, reduceCtorEq, nE, nA, nL, nT, e4], by simp only [↓SP, SZ, ↓reduceIte, reduceCtorEq, nE, nA, nL, nT, e46], by simp only [↓SP, SZ, ↓reduceIte, reduceCtorEq, nE, nA, nL, nT, e47], by simp only [↓SP, SZ, ↓reduceIte, reduceCtorEq, nE, nA, nL, nT, Int.natCast_add, Int.cast_ofNat_Int], by omega, hgd', hrun⟩
    ·
     have p49 := hc49
     try simp only [PB] at p49
     rw [List.drop_eq_nil_of_le (by omega), evRun] at hrun
     have hr1 : (histRun h).1 = 0 := by rw [← hrun]
     have hr2 : (histRun h).2 = t := by rw [← hrun]
     refine wpT_exit rfl ?_
     refine wpT_seq ?_
     refine wpT_seq ?_
     refine wpT_region (by kernel_rfl) (fun K hK => ?_)
     simp only [↓SP, SZ, ↓reduceIte, reduceCtorEq, nE, nA, nL, nT, Hist.av, e1, e4, chkO, hc49]
     refine hK _ _ ?_
     clear hK K
     refine wpT_if (by rfl) (fun hc68 => ?_) (fun hc68 => ?_)
     ·
      have p68 := hc68
      try simp only [PB] at p68
      have hx3 : histE h = 3 := by rw [histE, if_neg (by omega), if_neg (by omega), if_neg (by omega), if_neg (by omega), hr2, if_pos (by omega)]
      have hx4 : histE h ≠ 0 := by omega
      refine wpT_seq ?_
      refine wpT_region (by kernel_rfl) (fun K hK => ?_)
      simp only [↓SP, SZ, ↓reduceIte, reduceCtorEq, nE, nA, nL, nT, Hist.av, e2, chkO, hc49, hc68]
      refine hK _ _ ?_
      clear hK K
      refine wpT_ret ⟨.inr rfl, ?_⟩
      show optK (resA _ _ _ [.cell 2 123, .tmp 3]) _
      simp only [SRO, ↓SP, SZ, ↓reduceIte, reduceCtorEq, nE, nA, nL, nT, Hist.av, hc49, hc68]
      simp only [↓SP, SZ, ↓reduceIte, reduceCtorEq, nE, nA, nL, nT, SR, Option.map_some, Option.bind_some, e2]
      rw [hx3]
      exact Lend.tupL (LendL.cons (chk0_lend hx4) (LendL.cons (.refl _) LendL.nil))
     ·
      have p68 := hc68
      try simp only [PB] at p68
      have hx3 : histE h = 0 := by rw [histE, if_neg (by omega), if_neg (by omega), if_neg (by omega), if_neg (by omega), hr2, if_neg (by omega)]
      refine wpT_skip ?_
      refine wpT_seq ?_
      refine wpT_region (by kernel_rfl) (fun K hK => ?_)
      simp only [↓SP, SZ, ↓reduceIte, reduceCtorEq, nE, nA, nL, nT, Hist.av, e2, e4, chkO, hc49, hc68]
      refine hK _ _ ?_
      clear hK K
      refine wpT_ret ⟨.inr rfl, ?_⟩
      show optK (resA _ _ _ [.cell 2 123, .tmp 3]) _
      simp only [SRO, ↓SP, SZ, ↓reduceIte, reduceCtorEq, nE, nA, nL, nT, Hist.av, hc49, hc68]
      simp only [↓SP, SZ, ↓reduceIte, reduceCtorEq, nE, nA, nL, nT, SR, Option.map_some, Option.bind_some, e2]
      rw [hx3, chkAV_ok hx3, hr2]
      exact Lend.tupL (LendL.cons (Lend.aggL (LendL.cons (.refl _) (LendL.cons (.refl _) (LendL.cons (.refl _) (LendL.cons (Lend.sl0 (E := 3) (s := 1) (by simp only [↓SP, SZ, ↓reduceIte, reduceCtorEq, nE, nA, nL, nT]) (by simp) (int_okc _)) (LendL.cons (Lend.sl0 (E := 3) (s := 1) (by simp only [↓SP, SZ, ↓reduceIte, reduceCtorEq, nE, nA, nL, nT]) (by simp [htl]) (int_okc _)) LendL.nil)))))) (LendL.cons (.refl _) LendL.nil))
end Go.Proofs.YtfdfkmcplhloaaaGreat
end

section
set_option linter.unusedSimpArgs false
set_option linter.unusedVariables false
namespace Go.Proofs.YtfdfkmcplhloaaaGreat
open Go.Proofs
open Nat renaming reduceEqDiff → nE, reduceAdd → nA, reduceLeDiff → nL, reduceLT → nT
set_option maxRecDepth 10000
theorem c30 (h : Hist) (hs : h.sm) : Pu Tryz.prog (.fn (.func 30) [] []) [h.av] (I (histE h)) := by
 refine pu_func Tryz.func30 rfl (by kernel_rfl) (by show _ ≤ 11; simp only [List.length_append, List.length_cons, List.length_nil]; decide) (by simp only [IDF]) (by simp only [IDF, and_tt, implies_true]) (by simp only [IDF, hist_idf, and_tt, implies_true]) ?_
 have hck : chkAV h = .agg (chkAV h).cells ∧ (chkAV h).cells.length = 5 := by
   unfold chkAV
   split <;> exact ⟨rfl, rfl⟩
 generalize (chkAV h).cells = cs at hck
 rw [Tryz.ntmps30]
 refine wpT_seq ?_
 refine wpT_region (by kernel_rfl) (fun K hK => ?_)
 simp only [↓SP, SZ, ↓reduceIte, reduceCtorEq, nE, nA, nL, nT, hck.1, hck.2, hist_ld]
 refine hK _ _ ?_
 clear hK K
 refine wpT_seq ?_
 refine wpT_region (by kernel_rfl) (fun K hK => ?_)
 simp only [↓SP, SZ, ↓reduceIte, reduceCtorEq, nE, nA, nL, nT, hck.1, hck.2, hist_ld]
 refine Pu.call (c60 h hs) ?_
 simp only [↓SP, SZ, ↓reduceIte, reduceCtorEq, nE, nA, nL, nT, hck.1, hck.2, hist_ld]
 refine hK _ _ ?_
 clear hK K
 refine wpT_seq ?_
 refine wpT_region (by kernel_rfl) (fun K hK => ?_)
 simp only [↓SP, SZ, ↓reduceIte, reduceCtorEq, nE, nA, nL, nT, hck.1, hck.2, hist_ld]
 refine hK _ _ ?_
 clear hK K
 refine wpT_ret ⟨.inr rfl, ?_⟩
 show optK (resA _ _ _ [.tmp 2]) _
 simp only [SRO, ↓SP, SZ, ↓reduceIte, reduceCtorEq, nE, nA, nL, nT, hck.1, hck.2, hist_ld]
 exact .refl _
def prevI (l : List Int) (i : Nat) : Int := if i = 0 then -1 else l.getD (i - 1) 0
theorem prevI_succ {l : List Int} {i : Nat} (h : i < l.length) : prevI l (i + 1) = l[i] := by simp [prevI, h]
theorem prevI_at {l : List Int} {i : Nat} (h : i ≤ l.length) (h0 : 0 < i) : ∃ h' : i - 1 < l.length, prevI l i = l[i - 1]'h' := ⟨by omega, by
  have : i - 1 < l.length := by omega
  simp [prevI, Nat.ne_of_gt h0, this]⟩
theorem c64 (h : Hist) (l : List Int) (e : histE h = 0) (hs : h.sm) (hl : l.length < 4611686018427387904) : Pu Tryz.prog (.fn (.func 64) [] []) [chkAV h, .lst (l.map I)] (B (setP h.ws.length (-1) l)) := by
 refine pu_func Tryz.func64 rfl (by kernel_rfl) (by show _ ≤ 38; simp only [List.length_append, List.length_cons, List.length_nil]; decide) (by simp only [IDF]) (by simp only [IDF, and_tt, implies_true]) (by simp only [IDF, chkAV_idf, and_tt, implies_true]) ?_
 have hw := hs.2.1
 rw [chkAV_ok e]
 rw [Tryz.ntmps64]
 refine wpT_seq ?_
 refine wpT_region (by kernel_rfl) (fun K hK => ?_)
 simp only [↓SP, SZ, ↓reduceIte, reduceCtorEq, nE, nA, nL, nT]
 refine hK _ _ ?_
 clear hK K
 refine wpT_seq ?_
 refine wpT_seq ?_
 refine wpT_region (by kernel_rfl) (fun K hK => ?_)
 simp only [↓SP, SZ, ↓reduceIte, reduceCtorEq, nE, nA, nL, nT]
 refine hK _ _ ?_
 clear hK K
 refine wpT_block ?_
 refine wpT_loop ?_
 refine wpT_keep1 (i := 0) (o := .arr 123 5 [.agg [.lst (h.sizes.map I), .lst (h.ws.map Wr.av), .lst (h.evs.map Evn.av), .lst ((histRun h).2.iss.map I), .lst ((histRun h).2.ack.map I)]]) (by simp only [↓SP, SZ, ↓reduceIte, reduceCtorEq, nE, nA, nL, nT]) ?_
 refine wpT_ind (fun (i : Nat) tm' h' => (∃ m, h' = Hp.of [(0, .arr 123 5 [.agg [.lst (h.sizes.map I), .lst (h.ws.map Wr.av), .lst (h.evs.map Evn.av), .lst ((histRun h).2.iss.map I), .lst ((histRun h).2.ack.map I)]])] (m + 1)) ∧ tm' 1 = .lst (l.map I) ∧ tm' 2 = .ptr 0 1 0 0 ∧ tm' 7 = .lst (l.map I) ∧ tm' 8 = I l.length ∧ tm' 9 = I i ∧ i ≤ l.length ∧ setP h.ws.length (prevI l i) (l.drop i) = setP h.ws.length (-1) l) (fun i => l.length - i) ?_ 0 ⟨⟨0, rfl⟩, rfl, rfl, rfl, rfl, rfl, by omega, rfl⟩
 rintro i tm' _ ⟨⟨m, rfl⟩, e1, e2, e7, e8, e9, hi, hx⟩ IH
 refine wpT_inLoop ?_
 refine wpT_seq ?_
 refine wpT_region (by kernel_rfl) (fun K hK => ?_)
 simp only [↓SP, SZ, ↓reduceIte, reduceCtorEq, nE, nA, nL, nT, e8, e9]
 refine hK _ _ ?_
 clear hK K
 refine wpT_seq ?_
 refine wpT_if (by rfl) (fun hc10 => ?_) (fun hc10 => ?_)
 ·
  have p10 := hc10
  try simp only [PB] at p10
  have hlt : i < l.length := by omega
  have hg := at_map (f := I) hlt
  rw [List.drop_eq_getElem_cons hlt, setP] at hx
  refine wpT_skip ?_
  refine wpT_seq ?_
  refine wpT_block ?_
  refine wpT_seq ?_
  refine wpT_region (by kernel_rfl) (fun K hK => ?_)
  simp only [↓SP, SZ, ↓reduceIte, reduceCtorEq, nE, nA, nL, nT, e7, e9, hg, hc10]
  refine hK _ _ ?_
  clear hK K
  refine wpT_seq ?_
  refine wpT_region (by kernel_rfl) (fun K hK => ?_)
  simp only [↓SP, SZ, ↓reduceIte, reduceCtorEq, nE, nA, nL, nT, e1, e2, hc10]
  refine guardO_split (fun hg16 => ?_) (fun hg16 => ?_)
  ·
   have p16 := hg16
   try simp only [PB] at p16
   simp only [↓SP, SZ, ↓reduceIte, reduceCtorEq, nE, nA, nL, nT, e1, e2, hc10, hg16]
   refine guardO_split (fun hg24 => ?_) (fun hg24 => ?_)
   ·
    have p24 := hg24
    try simp only [PB] at p24
    simp only [↓SP, SZ, ↓reduceIte, reduceCtorEq, nE, nA, nL, nT, e1, e2, hc10, hg16, hg24]
    refine guardO_split (fun hg27 => ?_) (fun hg27 => ?_)
    ·
     have p27 := hg27
     try simp only [PB] at p27
     have h0 : 0 < i := by omega
     obtain ⟨hlt1, hp⟩ := prevI_at hi h0
     have hg1 := at_map (f := I) hlt1
     have hw1 : IntKind.i64.wrap ((i : Int) - 1) = ((i - 1 : Nat) : Int) := by rw [wrap64 (by omega) (by omega)]; omega
     simp only [↓SP, SZ, ↓reduceIte, reduceCtorEq, nE, nA, nL, nT, e1, e2, hc10, hg16, hg24, hw1, hg1, hg27]
     refine hK _ _ ?_
     clear hK K
     refine wpT_if (by rfl) (fun hc36 => ?_) (fun hc36 => ?_)
     ·
      have p36 := hc36
      try simp only [PB] at p36
      refine wpT_seq ?_
      refine wpT_region (by kernel_rfl) (fun K hK => ?_)
      simp only [↓SP, SZ, ↓reduceIte, reduceCtorEq, nE, nA, nL, nT, hc10, hg16, hg24, hw1, hg1, hg27, hc36]
      refine hK _ _ ?_
      clear hK K
      refine wpT_ret ⟨.inr rfl, ?_⟩
      show optK (resA _ _ _ [.tmp 4]) _
      simp only [SRO, ↓SP, SZ, ↓reduceIte, reduceCtorEq, nE, nA, nL, nT, hc10, hg16, hg24, hw1, hg1, hg27, hc36]
      rw [if_pos (by omega)] at hx
      rw [← hx]
      exact .refl _
     ·
      have p36 := hc36
      try simp only [PB] at p36
      refine wpT_skip ?_
      refine wpT_inBlock ?_
      refine wpT_region (by kernel_rfl) (fun K hK => ?_)
      simp only [↓SP, SZ, ↓reduceIte, reduceCtorEq, nE, nA, nL, nT, e9, wrap64 (x := (i : Int) + 1) (by omega) (by omega), hc10, hg16, hg24, hw1, hg1, hg27, hc36]
      refine hK _ _ ?_
      clear hK K
      rw [if_neg (by omega), ← prevI_succ hlt] at hx
      refine wpT_keep1 (i := 0) (o := .arr 123 5 [.agg [.lst (h.sizes.map I), .lst (h.ws.map Wr.av), .lst (h.evs.map Evn.av), .lst ((histRun h).2.iss.map I), .lst ((histRun h).2.ack.map I)]]) (by simp only [↓SP, SZ, ↓reduceIte, reduceCtorEq, nE, nA, nL, nT]) ?_
      refine IH (i + 1) _ _ (by omega) ⟨⟨_, rfl⟩, by simp only [↓SP, SZ, ↓reduceIte, reduceCtorEq, nE, nA, nL, nT, e1], by simp only [↓SP, SZ, ↓reduceIte, reduceCtorEq, nE, nA, nL, nT, e2], by simp only [↓SP, SZ, ↓reduceIte, reduceCtorEq, nE, nA, nL, nT, e7], by simp only [↓SP, SZ, ↓reduceIte, reduceCtorEq, nE, nA, nL, nT, e8], by simp only [↓SP, SZ, ↓reduceIte, reduceCtorEq, nE, nA, nL, nT, Int.natCast_add, Int.cast_ofNat_Int], by omega, hx⟩
    ·
     simp only [Bool.not_true, Bool.not_false] at hg27
     have p27 := hg27
     try simp only [PB] at p27
     have hi0 : i = 0 := by omega
     have hp : prevI l i = -1 := if_pos hi0
     simp only [↓SP, SZ, ↓reduceIte, reduceCtorEq, nE, nA, nL, nT, e1, e2, hc10, hg16, hg24, hg27]
     refine hK _ _ ?_
     clear hK K
     refine wpT_ifF (by simp only [↓SP, SZ, ↓reduceIte, reduceCtorEq, nE, nA, nL, nT, hc10, hg16, hg24, hg27]) ?_
     refine wpT_skip ?_
     refine wpT_inBlock ?_
     refine wpT_region (by kernel_rfl) (fun K hK => ?_)
     simp only [↓SP, SZ, ↓reduceIte, reduceCtorEq, nE, nA, nL, nT, e9, wrap64 (x := (i : Int) + 1) (by omega) (by omega), hc10, hg16, hg24, hg27]
     refine hK _ _ ?_
     clear hK K
     rw [if_neg (by omega), ← prevI_succ hlt] at hx
     refine wpT_keep1 (i := 0) (o := .arr 123 5 [.agg [.lst (h.sizes.map I), .lst (h.ws.map Wr.av), .lst (h.evs.map Evn.av), .lst ((histRun h).2.iss.map I), .lst ((histRun h).2.ack.map I)]]) (by simp only [↓SP, SZ, ↓reduceIte, reduceCtorEq, nE, nA, nL, nT]) ?_
     refine IH (i + 1) _ _ (by omega) ⟨⟨_, rfl⟩, by simp only [↓SP, SZ, ↓reduceIte, reduceCtorEq, nE, nA, nL, nT, e1], by simp only [↓SP, SZ, ↓reduceIte, reduceCtorEq, nE, nA, nL, nT, e2], by simp only [↓SP, SZ, ↓reduceIte, reduceCtorEq, nE, nA, nL, nT, e7], by simp only [↓SP, SZ, ↓reduceIte, reduceCtorEq, nE, nA, nL, nT, e8], by simp only [↓SP, SZ, ↓reduceIte, reduceCtorEq, nE, nA, nL, nT, Int.natCast_add, Int.cast_ofNat_Int], by omega, hx⟩
   ·
    simp only [Bool.not_true, Bool.not_false] at hg24
    have p24 := hg24
    try simp only [PB] at p24
    simp only [↓SP, SZ, ↓reduceIte, reduceCtorEq, nE, nA, nL, nT, e1, e2, hc10, hg16, hg24]
    refine hK _ _ ?_
    clear hK K
    refine wpT_ifT (by simp only [↓SP, SZ, ↓reduceIte, reduceCtorEq, nE, nA, nL, nT, hc10, hg16, hg24]) ?_
    refine wpT_seq ?_
    refine wpT_region (by kernel_rfl) (fun K hK => ?_)
    simp only [↓SP, SZ, ↓reduceIte, reduceCtorEq, nE, nA, nL, nT, hc10, hg16, hg24]
    refine hK _ _ ?_
    clear hK K
    refine wpT_ret ⟨.inr rfl, ?_⟩
    show optK (resA _ _ _ [.tmp 4]) _
    simp only [SRO, ↓SP, SZ, ↓reduceIte, reduceCtorEq, nE, nA, nL, nT, hc10, hg16, hg24]
    rw [if_pos (by omega)] at hx
    rw [← hx]
    exact .refl _
  ·
   simp only [Bool.not_true, Bool.not_false] at hg16
   have p16 := hg16
   try simp only [PB] at p16
   simp only [↓SP, SZ, ↓reduceIte, reduceCtorEq, nE, nA, nL, nT, e1, e2, hc10, hg16]
   refine hK _ _ ?_
   clear hK K
   refine wpT_ifT (by simp only [↓SP, SZ, ↓reduceIte, reduceCtorEq, nE, nA, nL, nT, hc10, hg16]) ?_
   refine wpT_seq ?_
   refine wpT_region (by kernel_rfl) (fun K hK => ?_)
   simp only [↓SP, SZ, ↓reduceIte, reduceCtorEq, nE, nA, nL, nT, hc10, hg16]
   refine hK _ _ ?_
   clear hK K
   refine wpT_ret ⟨.inr rfl, ?_⟩
   show optK (resA _ _ _ [.tmp 4]) _
   simp only [SRO, ↓SP, SZ, ↓reduceIte, reduceCtorEq, nE, nA, nL, nT, hc10, hg16]
   rw [if_pos (by omega)] at hx
   rw [← hx]
   exact .refl _
 ·
  have p10 := hc10
  try simp only [PB] at p10
  rw [List.drop_eq_nil_of_le (by omega), setP] at hx
  refine wpT_exit rfl ?_
  refine wpT_seq ?_
  refine wpT_region (by kernel_rfl) (fun K hK => ?_)
  simp only [↓SP, SZ, ↓reduceIte, reduceCtorEq, nE, nA, nL, nT, hc10]
  refine hK _ _ ?_
  clear hK K
  refine wpT_ret ⟨.inr rfl, ?_⟩
  show optK (resA _ _ _ [.tmp 4]) _
  simp only [SRO, ↓SP, SZ, ↓reduceIte, reduceCtorEq, nE, nA, nL, nT, hc10]
  rw [← hx]
  exact .refl _
def relAV (n never : Int) (iss ack : List Int) : AV := .cptr (.agg [I n, I never, .lst (iss.map I), .lst (ack.map I)])
theorem rel_idf (n never : Int) (iss ack : List Int) : Idf (relAV n never iss ack) = True := eq_true (by simp only [relAV, IDF, and_tt, implies_true])
theorem c54 (n never : Int) (iss ack : List Int) (a b : Nat) (ha : a < ack.length) (hb : b < iss.length) : Pu Tryz.prog (.fn (.func 54) [] []) [relAV n never iss ack, I a, I b] (B (decide (ack[a] < iss[b]))) := by
 refine pu_func Tryz.func54 rfl (by kernel_rfl) (by show _ ≤ 22; simp only [List.length_append, List.length_cons, List.length_nil]; decide) (by simp only [IDF]) (by simp only [IDF, and_tt, implies_true]) (by simp only [IDF, rel_idf, and_tt, implies_true]) ?_
 have hg := at_map (f := I) ha
 have hg' := at_map (f := I) hb
 rw [Tryz.ntmps54]
 refine wpT_seq ?_
 refine wpT_region (by kernel_rfl) (fun K hK => ?_)
 simp only [↓SP, SZ, ↓reduceIte, reduceCtorEq, nE, nA, nL, nT, relAV]
 refine hK _ _ ?_
 clear hK K
 refine wpT_seq ?_
 refine wpT_drawn [] mixed (by kernel_rfl) (m := 16) rfl (fun K hK => ?_)
 simp only [↓SP, SZ, ↓reduceIte, reduceCtorEq, nE, nA, nL, nT, relAV, hg, hg']
 refine hK _ _ ?_
 clear hK K
 refine wpT_ret ⟨.inr rfl, ?_⟩
 show optK (resA _ _ _ [.tmp 6]) _
 simp only [SRO, ↓SP, SZ, ↓reduceIte, reduceCtorEq, nE, nA, nL, nT, relAV]
 exact .refl _
theorem c53 (ms : List Bool) : Pu Tryz.prog (.fn (.func 53) [] []) [.lst (ms.map B)] (.fn (.func 80) [] [.cptr (.lst (ms.map B))]) := by
 refine pu_func Tryz.func53 rfl (by kernel_rfl) (by show _ ≤ 4; simp only [List.length_append, List.length_cons, List.length_nil]; decide) (by simp only [IDF, and_tt, implies_true]) (by simp only [IDF, and_tt, implies_true]) (by simp only [IDF, and_tt, implies_true]) ?_
 rw [Tryz.ntmps53]
 refine wpT_seq ?_
 refine wpT_region (by kernel_rfl) (fun K hK => ?_)
 simp only [↓SP, SZ, ↓reduceIte, reduceCtorEq, nE, nA, nL, nT]
 refine hK _ _ ?_
 clear hK K
 refine wpT_seq ?_
 refine wpT_region (by kernel_rfl) (fun K hK => ?_)
 simp only [↓SP, SZ, ↓reduceIte, reduceCtorEq, nE, nA, nL, nT]
 refine hK _ _ ?_
 clear hK K
 refine wpT_ret ⟨.inr rfl, ?_⟩
 show optK (resA _ _ _ [.tmp 2]) _
 simp only [SRO, ↓SP, SZ, ↓reduceIte, reduceCtorEq, nE, nA, nL, nT]
 exact Lend.fnL LendL.nil (LendL.cons (Lend.ptr1 (E := 105) (s := 1) (by simp only [↓SP, SZ, ↓reduceIte, reduceCtorEq, nE, nA, nL, nT]) rfl) LendL.nil)
theorem c80 (ms : List Bool) (hl : ms.length < 4000000) (yv : AV) (In : List Int → Hp → Prop) (J : Hp → Prop) (h : Hp) (h0 : In (memF 0 ms) h)
    (hy : ∀ x xs h', In (x :: xs) h' → x ∈ memF 0 ms → CallV Tryz.prog yv [I x] h' fun v h'' => ∃ b, v = .bool b ∧ ((b = true ∧ In xs h'') ∨ (b = false ∧ J h''))) : CallV Tryz.prog (.fn (.func 80) [] [.cptr (.lst (ms.map B))]) [yv] h fun _ h' => In [] h' ∨ J h' := by
 refine callV_func Tryz.func80 rfl (by kernel_rfl) (by show _ ≤ 20; simp only [List.length_append, List.length_cons, List.length_nil]; decide) ?_
 rw [Tryz.ntmps80]
 refine wpT_seq ?_
 refine wpT_region (by kernel_rfl) (fun K hK => ?_)
 simp only [↓SP, SZ, ↓reduceIte, reduceCtorEq, nE, nA, nL, nT]
 refine hK _ _ ?_
 clear hK K
 refine wpT_block ?_
 refine wpT_loop ?_
 refine wpT_ind (fun (i : Nat) tm' h' => In (memF i (ms.drop i)) h' ∧ tm' 0 = yv ∧ tm' 5 = .lst (ms.map B) ∧ tm' 6 = I ms.length ∧ tm' 7 = I i ∧ i ≤ ms.length) (fun i => ms.length - i) ?_ 0 ⟨by simpa using h0, rfl, rfl, rfl, rfl, by omega⟩
 rintro i tm' h' ⟨hI, e0, e5, e6, e7, hi⟩ IH
 refine wpT_inLoop ?_
 refine wpT_seq ?_
 refine wpT_region (by kernel_rfl) (fun K hK => ?_)
 simp only [↓SP, SZ, ↓reduceIte, reduceCtorEq, nE, nA, nL, nT, e6, e7]
 refine hK _ _ ?_
 clear hK K
 refine wpT_seq ?_
 refine wpT_if (by rfl) (fun hc8 => ?_) (fun hc8 => ?_)
 ·
  have p8 := hc8
  try simp only [PB] at p8
  have hlt : i < ms.length := by omega
  have hg := at_map (f := B) hlt
  have hm : memF i (ms.drop i) = if ms[i] = true then (i : Int) :: memF (i + 1) (ms.drop (i + 1)) else memF (i + 1) (ms.drop (i + 1)) := by rw [List.drop_eq_getElem_cons hlt, memF]
  refine wpT_skip ?_
  refine wpT_seq ?_
  refine wpT_block ?_
  refine wpT_seq ?_
  refine wpT_region (by kernel_rfl) (fun K hK => ?_)
  simp only [↓SP, SZ, ↓reduceIte, reduceCtorEq, nE, nA, nL, nT, e5, e7, hg, hc8]
  refine hK _ _ ?_
  clear hK K
  refine wpT_seq ?_
  refine wpT_region (by kernel_rfl) (fun K hK => ?_)
  simp only [↓SP, SZ, ↓reduceIte, reduceCtorEq, nE, nA, nL, nT, e0, hc8]
  refine guardO_split (fun hg13 => ?_) (fun hg13 => ?_)
  ·
   have p13 := hg13
   try simp only [PB] at p13
   rw [hm, if_pos p13] at hI
   have hmem : (i : Int) ∈ memF 0 ms := mem_memF.2 ⟨i, by simp, by rw [List.getElem?_eq_getElem hlt, p13]⟩
   simp only [↓SP, SZ, ↓reduceIte, reduceCtorEq, nE, nA, nL, nT, e0, hc8, hg13]
   refine (hy (i : Int) _ _ hI hmem).mono ?_
   rintro _ h2 ⟨bb, rfl, hb⟩
   simp only [↓SP, SZ, ↓reduceIte, reduceCtorEq, nE, nA, nL, nT, e0, hc8, hg13]
   refine hK _ _ ?_
   clear hK K
   refine wpT_if (by rfl) (fun hc18 => ?_) (fun hc18 => ?_)
   ·
    have p18 := hc18
    try simp only [PB] at p18
    refine wpT_ret ⟨.inr rfl, ?_⟩
    show optK (resA _ _ _ []) _
    simp only [SRO, ↓SP, SZ, ↓reduceIte, reduceCtorEq, nE, nA, nL, nT, hc8, hg13, hc18]
    rcases hb with ⟨hb, _⟩ | ⟨_, hb⟩
    · simp_all
    · exact .inr hb
   ·
    have p18 := hc18
    try simp only [PB] at p18
    refine wpT_skip ?_
    refine wpT_inBlock ?_
    refine wpT_region (by kernel_rfl) (fun K hK => ?_)
    simp only [↓SP, SZ, ↓reduceIte, reduceCtorEq, nE, nA, nL, nT, e7, wrap64 (x := (i : Int) + 1) (by omega) (by omega), hc8, hg13, hc18]
    refine hK _ _ ?_
    clear hK K
    refine IH (i + 1) _ _ (by omega) ⟨?_, by simp only [↓SP, SZ, ↓reduceIte, reduceCtorEq, nE, nA, nL, nT, e0], by simp only [↓SP, SZ, ↓reduceIte, reduceCtorEq, nE, nA, nL, nT, e5], by simp only [↓SP, SZ, ↓reduceIte, reduceCtorEq, nE, nA, nL, nT, e6], by simp only [↓SP, SZ, ↓reduceIte, reduceCtorEq, nE, nA, nL, nT, Int.natCast_add, Int.cast_ofNat_Int], by omega⟩
    first
      | exact hI
      | (rcases hb with ⟨_, hb⟩ | ⟨hb, _⟩
         · exact hb
         · simp_all)
  ·
   simp only [Bool.not_true, Bool.not_false] at hg13
   have p13 := hg13
   try simp only [PB] at p13
   rw [hm, if_neg (by simp [p13])] at hI
   simp only [↓SP, SZ, ↓reduceIte, reduceCtorEq, nE, nA, nL, nT, e0, hc8, hg13]
   refine hK _ _ ?_
   clear hK K
   refine wpT_ifF (by simp only [↓SP, SZ, ↓reduceIte, reduceCtorEq, nE, nA, nL, nT, hc8, hg13]) ?_
   refine wpT_skip ?_
   refine wpT_inBlock ?_
   refine wpT_region (by kernel_rfl) (fun K hK => ?_)
   simp only [↓SP, SZ, ↓reduceIte, reduceCtorEq, nE, nA, nL, nT, e7, wrap64 (x := (i : Int) + 1) (by omega) (by omega), hc8, hg13]
   refine hK _ _ ?_
   clear hK K
   refine IH (i + 1) _ _ (by omega) ⟨?_, by simp only [↓SP, SZ, ↓reduceIte, reduceCtorEq, nE, nA, nL, nT, e0], by simp only [↓SP, SZ, ↓reduceIte, reduceCtorEq, nE, nA, nL, nT, e5], by simp only [↓SP, SZ, ↓reduceIte, reduceCtorEq, nE, nA, nL, nT, e6], by simp only [↓SP, SZ, ↓reduceIte, reduceCtorEq, nE, nA, nL, nT, Int.natCast_add, Int.cast_ofNat_Int], by omega⟩
   first
     | exact hI
     | (rcases hb with ⟨_, hb⟩ | ⟨hb, _⟩
        · exact hb
        · simp_all)
 ·
  have p8 := hc8
  try simp only [PB] at p8
  refine wpT_exit rfl ?_
  refine wpT_end ⟨.inl rfl, ?_⟩
  show optK (resA _ _ _ []) _
  simp only [SRO, ↓SP, SZ, ↓reduceIte, reduceCtorEq, nE, nA, nL, nT, hc8]
  rw [List.drop_eq_nil_of_le (by omega)] at hI
  exact .inl hI
theorem c66 (h : Hist) (l : List Int) : Pu Tryz.prog (.fn (.func 66) [] []) [chkAV h, .lst (l.map I)] (.fn (.func 90) [] [.cptr (.lst (l.map I)), .cptr (chkAV h)]) := by
 refine pu_func Tryz.func66 rfl (by kernel_rfl) (by show _ ≤ 6; simp only [List.length_append, List.length_cons, List.length_nil]; decide) (by simp only [IDF, chkAV_idf, and_tt, implies_true]) (by simp only [IDF, and_tt, implies_true]) (by simp only [IDF, chkAV_idf, and_tt, implies_true]) ?_
 have hck : chkAV h = .agg (chkAV h).cells ∧ (chkAV h).cells.length = 5 := by
   unfold chkAV
   split <;> exact ⟨rfl, rfl⟩
 generalize (chkAV h).cells = cs at hck
 rw [Tryz.ntmps66]
 refine wpT_seq ?_
 refine wpT_region (by kernel_rfl) (fun K hK => ?_)
 simp only [↓SP, SZ, ↓reduceIte, reduceCtorEq, nE, nA, nL, nT, hck.1, hck.2]
 refine hK _ _ ?_
 clear hK K
 refine wpT_seq ?_
 refine wpT_region (by kernel_rfl) (fun K hK => ?_)
 simp only [↓SP, SZ, ↓reduceIte, reduceCtorEq, nE, nA, nL, nT, hck.1, hck.2]
 refine hK _ _ ?_
 clear hK K
 refine wpT_ret ⟨.inr rfl, ?_⟩
 show optK (resA _ _ _ [.tmp 4]) _
 simp only [SRO, ↓SP, SZ, ↓reduceIte, reduceCtorEq, nE, nA, nL, nT, hck.1, hck.2]
 exact Lend.fnL LendL.nil (LendL.cons (Lend.ptr1 (E := 22) (s := 1) (by simp only [↓SP, SZ, ↓reduceIte, reduceCtorEq, nE, nA, nL, nT]) rfl) (LendL.cons (Lend.ptr1 (E := 123) (s := 5) (by simp only [↓SP, SZ, ↓reduceIte, reduceCtorEq, nE, nA, nL, nT, hck.2]) rfl) LendL.nil))
theorem c90 (h : Hist) (e : histE h = 0) (l : List Int) (hl : l.length < 4611686018427387904) (hr : ∀ x ∈ l, 0 ≤ x ∧ x < h.ws.length) (yv : AV) (In : List Int → Hp → Prop) (J : Hp → Prop) (H : Hp) (h0 : In l H)
    (hy : ∀ (k : Nat) (hk : k < h.ws.length) xs h', In ((k : Int) :: xs) h' → CallV Tryz.prog yv [I k, (h.ws[k]).av] h' fun v h'' => ∃ b, v = .bool b ∧ ((b = true ∧ In xs h'') ∨ (b = false ∧ J h''))) : CallV Tryz.prog (.fn (.func 90) [] [.cptr (.lst (l.map I)), .cptr (chkAV h)]) [yv] H fun _ h' => In [] h' ∨ J h' := by
 rw [chkAV_ok e]
 refine callV_func Tryz.func90 rfl (by kernel_rfl) (by show _ ≤ 23; simp only [List.length_append, List.length_cons, List.length_nil]; decide) ?_
 rw [Tryz.ntmps90]
 refine wpT_seq ?_
 refine wpT_region (by kernel_rfl) (fun K hK => ?_)
 simp only [↓SP, SZ, ↓reduceIte, reduceCtorEq, nE, nA, nL, nT]
 refine hK _ _ ?_
 clear hK K
 refine wpT_block ?_
 refine wpT_loop ?_
 refine wpT_ind (fun (i : Nat) tm' h' => In (l.drop i) h' ∧ tm' 0 = yv ∧ tm' 2 = .cptr (.agg [.lst (h.sizes.map I), .lst (h.ws.map Wr.av), .lst (h.evs.map Evn.av), .lst ((histRun h).2.iss.map I), .lst ((histRun h).2.ack.map I)]) ∧ tm' 6 = .lst (l.map I) ∧ tm' 7 = I l.length ∧ tm' 8 = I i ∧ i ≤ l.length) (fun i => l.length - i) ?_ 0 ⟨by simpa using h0, rfl, rfl, rfl, rfl, rfl, by omega⟩
 rintro i tm' h' ⟨hI, e0, e2, e6, e7, e8, hi⟩ IH
 refine wpT_inLoop ?_
 refine wpT_seq ?_
 refine wpT_region (by kernel_rfl) (fun K hK => ?_)
 simp only [↓SP, SZ, ↓reduceIte, reduceCtorEq, nE, nA, nL, nT, e7, e8]
 refine hK _ _ ?_
 clear hK K
 refine wpT_seq ?_
 refine wpT_if (by rfl) (fun hc9 => ?_) (fun hc9 => ?_)
 ·
  have p9 := hc9
  try simp only [PB] at p9
  have hlt : i < l.length := by omega
  have hg := at_map (f := I) hlt
  obtain ⟨hr0, hr1⟩ := hr _ (List.getElem_mem hlt)
  obtain ⟨k, hk⟩ := Int.eq_ofNat_of_zero_le hr0
  have hkl : k < h.ws.length := by omega
  have hgw := at_map (f := Wr.av) hkl
  rw [List.drop_eq_getElem_cons hlt, hk] at hI
  refine wpT_skip ?_
  refine wpT_seq ?_
  refine wpT_block ?_
  refine wpT_seq ?_
  refine wpT_region (by kernel_rfl) (fun K hK => ?_)
  simp only [↓SP, SZ, ↓reduceIte, reduceCtorEq, nE, nA, nL, nT, e6, e8, hg, hk, hc9]
  refine hK _ _ ?_
  clear hK K
  refine wpT_seq ?_
  refine wpT_region (by kernel_rfl) (fun K hK => ?_)
  simp only [↓SP, SZ, ↓reduceIte, reduceCtorEq, nE, nA, nL, nT, e0, e2, hgw, hc9]
  refine (hy k hkl _ _ hI).mono ?_
  rintro _ h2 ⟨bb, rfl, hb⟩
  simp only [↓SP, SZ, ↓reduceIte, reduceCtorEq, nE, nA, nL, nT, e0, e2, hgw, hc9]
  refine hK _ _ ?_
  clear hK K
  refine wpT_if (by rfl) (fun hc21 => ?_) (fun hc21 => ?_)
  ·
   have p21 := hc21
   try simp only [PB] at p21
   refine wpT_ret ⟨.inr rfl, ?_⟩
   show optK (resA _ _ _ []) _
   simp only [SRO, ↓SP, SZ, ↓reduceIte, reduceCtorEq, nE, nA, nL, nT, hc9, hc21]
   rcases hb with ⟨hb, _⟩ | ⟨_, hb⟩
   · simp_all
   · exact .inr hb
  ·
   have p21 := hc21
   try simp only [PB] at p21
   refine wpT_skip ?_
   refine wpT_inBlock ?_
   refine wpT_region (by kernel_rfl) (fun K hK => ?_)
   simp only [↓SP, SZ, ↓reduceIte, reduceCtorEq, nE, nA, nL, nT, e8, wrap64 (x := (i : Int) + 1) (by omega) (by omega), hc9, hc21]
   refine hK _ _ ?_
   clear hK K
   refine IH (i + 1) _ _ (by omega) ⟨?_, by simp only [↓SP, SZ, ↓reduceIte, reduceCtorEq, nE, nA, nL, nT, e0], by simp only [↓SP, SZ, ↓reduceIte, reduceCtorEq, nE, nA, nL, nT, e2], by simp only [↓SP, SZ, ↓reduceIte, reduceCtorEq, nE, nA, nL, nT, e6], by simp only [↓SP, SZ, ↓reduceIte, reduceCtorEq, nE, nA, nL, nT, e7], by simp only [↓SP, SZ, ↓reduceIte, reduceCtorEq, nE, nA, nL, nT, Int.natCast_add, Int.cast_ofNat_Int], by omega⟩
   rcases hb with ⟨_, hb⟩ | ⟨hb, _⟩
   · exact hb
   · simp_all
 ·
  have p9 := hc9
  try simp only [PB] at p9
  refine wpT_exit rfl ?_
  refine wpT_end ⟨.inl rfl, ?_⟩
  show optK (resA _ _ _ []) _
  simp only [SRO, ↓SP, SZ, ↓reduceIte, reduceCtorEq, nE, nA, nL, nT, hc9]
  rw [List.drop_eq_nil_of_le (by omega)] at hI
  exact .inl hI
end Go.Proofs.YtfdfkmcplhloaaaGreat
end

section
set_option linter.unusedSimpArgs false
set_option linter.unusedVariables false
namespace Go.Proofs.YtfdfkmcplhloaaaGreat
open Go.Proofs
open Nat renaming reduceEqDiff → nE, reduceAdd → nA, reduceLeDiff → nL, reduceLT → nT
set_option maxRecDepth 10000
abbrev U (i : Int) : AV := .int .u64 i
theorem wrapU {x : Int} (h0 : 0 ≤ x) (h1 : x < 18446744073709551616) : IntKind.u64.wrap x = x := by
  have h : IntKind.u64.wrap x = x % 18446744073709551616 := by simp [IntKind.wrap, IntKind.bits, IntKind.signed]
  rw [h]; omega
theorem andU (a : Int) (h0 : 0 ≤ a) (h1 : a < 4294967296) : opBinAny Tryz.prog .and 171 (U a) (U 4294967295) = some (U a) := by
  obtain ⟨n, rfl⟩ := Int.eq_ofNat_of_zero_le h0
  rw [bin_and]
  have h2 : (BitVec.ofInt IntKind.u64.bits (n : Int) &&& BitVec.ofInt IntKind.u64.bits 4294967295).toNat = n := by
    rw [BitVec.toNat_and, BitVec.toNat_ofInt, BitVec.toNat_ofInt]
    show ((n : Int) % 18446744073709551616).toNat &&& 4294967295 = n
    have h3 : ((n : Int) % 18446744073709551616).toNat = n := by omega
    rw [h3, show (4294967295 : Nat) = 2 ^ 32 - 1 from rfl, Nat.and_two_pow_sub_one_eq_mod]
    omega
  rw [h2, wrapU h0 (by omega)]
theorem shrU (a : Int) (h0 : 0 ≤ a) (h1 : a < 4294967296) : opBinAny Tryz.prog .shr 171 (U a) (U 32) = some (U 0) := by
  rw [bin_shr (by omega)]
  have : a.fdiv (2 ^ (min (32 : Int).toNat IntKind.u64.bits)) = 0 := by
    show a.fdiv 4294967296 = 0
    rw [Int.fdiv_eq_ediv_of_nonneg a (by omega)]
    omega
  rw [this]
theorem wU0 : IntKind.u64.wrap 0 = 0 := wrapU (by omega) (by omega)
theorem c103 (a b : Int) (ha : 0 ≤ a) (ha' : a < 4294967296) (hb : 0 ≤ b) (hb' : b < 4294967296) (h0 : 0 ≤ a * b) (h1 : a * b < 4294967296) : Pu Tryz.prog (.fn (.func 103) [] []) [U a, U b] (.tup [U 0, U (a * b)]) := by
 refine pu_func Tryz.func103 rfl (by kernel_rfl) (by show _ ≤ 51; simp only [LN]; decide) (by simp only [IDS]) (by simp only [IDS]) (by simp only [IDS]) ?_
 rw [Tryz.ntmps103]
 refine wpT_seq ?_
 refine wpT_region (by kernel_rfl) (fun K hK => ?_)
 simp only [↓SP, SZ, ↓reduceIte, reduceCtorEq, nE, nA, nL, nT, andU a ha ha', andU b hb hb', shrU a ha ha', shrU b hb hb', andU 0 (Int.le_refl 0) (by omega), shrU 0 (Int.le_refl 0) (by omega), shrU (a * b) h0 h1, Int.zero_mul, Int.mul_zero, Int.zero_add, Int.add_zero, wU0, wrapU (x := a * b) h0 (by omega)]
 refine hK _ _ ?_
 clear hK K
 refine wpT_seq ?_
 refine wpT_region (by kernel_rfl) (fun K hK => ?_)
 simp only [↓SP, SZ, ↓reduceIte, reduceCtorEq, nE, nA, nL, nT, andU a ha ha', andU b hb hb', shrU a ha ha', shrU b hb hb', andU 0 (Int.le_refl 0) (by omega), shrU 0 (Int.le_refl 0) (by omega), shrU (a * b) h0 h1, Int.zero_mul, Int.mul_zero, Int.zero_add, Int.add_zero, wU0, wrapU (x := a * b) h0 (by omega)]
 refine hK _ _ ?_
 clear hK K
 refine wpT_seq ?_
 refine wpT_region (by kernel_rfl) (fun K hK => ?_)
 simp only [↓SP, SZ, ↓reduceIte, reduceCtorEq, nE, nA, nL, nT, andU a ha ha', andU b hb hb', shrU a ha ha', shrU b hb hb', andU 0 (Int.le_refl 0) (by omega), shrU 0 (Int.le_refl 0) (by omega), shrU (a * b) h0 h1, Int.zero_mul, Int.mul_zero, Int.zero_add, Int.add_zero, wU0, wrapU (x := a * b) h0 (by omega)]
 refine hK _ _ ?_
 clear hK K
 refine wpT_seq ?_
 refine wpT_region (by kernel_rfl) (fun K hK => ?_)
 simp only [↓SP, SZ, ↓reduceIte, reduceCtorEq, nE, nA, nL, nT, andU a ha ha', andU b hb hb', shrU a ha ha', shrU b hb hb', andU 0 (Int.le_refl 0) (by omega), shrU 0 (Int.le_refl 0) (by omega), shrU (a * b) h0 h1, Int.zero_mul, Int.mul_zero, Int.zero_add, Int.add_zero, wU0, wrapU (x := a * b) h0 (by omega)]
 refine hK _ _ ?_
 clear hK K
 refine wpT_seq ?_
 refine wpT_region (by kernel_rfl) (fun K hK => ?_)
 simp only [↓SP, SZ, ↓reduceIte, reduceCtorEq, nE, nA, nL, nT, andU a ha ha', andU b hb hb', shrU a ha ha', shrU b hb hb', andU 0 (Int.le_refl 0) (by omega), shrU 0 (Int.le_refl 0) (by omega), shrU (a * b) h0 h1, Int.zero_mul, Int.mul_zero, Int.zero_add, Int.add_zero, wU0, wrapU (x := a * b) h0 (by omega)]
 refine hK _ _ ?_
 clear hK K
 refine wpT_seq ?_
 refine wpT_region (by kernel_rfl) (fun K hK => ?_)
 simp only [↓SP, SZ, ↓reduceIte, reduceCtorEq, nE, nA, nL, nT, andU a ha ha', andU b hb hb', shrU a ha ha', shrU b hb hb', andU 0 (Int.le_refl 0) (by omega), shrU 0 (Int.le_refl 0) (by omega), shrU (a * b) h0 h1, Int.zero_mul, Int.mul_zero, Int.zero_add, Int.add_zero, wU0, wrapU (x := a * b) h0 (by omega)]
 refine hK _ _ ?_
 clear hK K
 refine wpT_seq ?_
 refine wpT_region (by kernel_rfl) (fun K hK => ?_)
 simp only [↓SP, SZ, ↓reduceIte, reduceCtorEq, nE, nA, nL, nT, andU a ha ha', andU b hb hb', shrU a ha ha', shrU b hb hb', andU 0 (Int.le_refl 0) (by omega), shrU 0 (Int.le_refl 0) (by omega), shrU (a * b) h0 h1, Int.zero_mul, Int.mul_zero, Int.zero_add, Int.add_zero, wU0, wrapU (x := a * b) h0 (by omega)]
 refine hK _ _ ?_
 clear hK K
 refine wpT_seq ?_
 refine wpT_region (by kernel_rfl) (fun K hK => ?_)
 simp only [↓SP, SZ, ↓reduceIte, reduceCtorEq, nE, nA, nL, nT, andU a ha ha', andU b hb hb', shrU a ha ha', shrU b hb hb', andU 0 (Int.le_refl 0) (by omega), shrU 0 (Int.le_refl 0) (by omega), shrU (a * b) h0 h1, Int.zero_mul, Int.mul_zero, Int.zero_add, Int.add_zero, wU0, wrapU (x := a * b) h0 (by omega)]
 refine hK _ _ ?_
 clear hK K
 refine wpT_seq ?_
 refine wpT_region (by kernel_rfl) (fun K hK => ?_)
 simp only [↓SP, SZ, ↓reduceIte, reduceCtorEq, nE, nA, nL, nT, andU a ha ha', andU b hb hb', shrU a ha ha', shrU b hb hb', andU 0 (Int.le_refl 0) (by omega), shrU 0 (Int.le_refl 0) (by omega), shrU (a * b) h0 h1, Int.zero_mul, Int.mul_zero, Int.zero_add, Int.add_zero, wU0, wrapU (x := a * b) h0 (by omega)]
 refine hK _ _ ?_
 clear hK K
 refine wpT_seq ?_
 refine wpT_region (by kernel_rfl) (fun K hK => ?_)
 simp only [↓SP, SZ, ↓reduceIte, reduceCtorEq, nE, nA, nL, nT, andU a ha ha', andU b hb hb', shrU a ha ha', shrU b hb hb', andU 0 (Int.le_refl 0) (by omega), shrU 0 (Int.le_refl 0) (by omega), shrU (a * b) h0 h1, Int.zero_mul, Int.mul_zero, Int.zero_add, Int.add_zero, wU0, wrapU (x := a * b) h0 (by omega)]
 refine hK _ _ ?_
 clear hK K
 refine wpT_seq ?_
 refine wpT_region (by kernel_rfl) (fun K hK => ?_)
 simp only [↓SP, SZ, ↓reduceIte, reduceCtorEq, nE, nA, nL, nT, andU a ha ha', andU b hb hb', shrU a ha ha', shrU b hb hb', andU 0 (Int.le_refl 0) (by omega), shrU 0 (Int.le_refl 0) (by omega), shrU (a * b) h0 h1, Int.zero_mul, Int.mul_zero, Int.zero_add, Int.add_zero, wU0, wrapU (x := a * b) h0 (by omega)]
 refine hK _ _ ?_
 clear hK K
 refine wpT_seq ?_
 refine wpT_region (by kernel_rfl) (fun K hK => ?_)
 simp only [↓SP, SZ, ↓reduceIte, reduceCtorEq, nE, nA, nL, nT, andU a ha ha', andU b hb hb', shrU a ha ha', shrU b hb hb', andU 0 (Int.le_refl 0) (by omega), shrU 0 (Int.le_refl 0) (by omega), shrU (a * b) h0 h1, Int.zero_mul, Int.mul_zero, Int.zero_add, Int.add_zero, wU0, wrapU (x := a * b) h0 (by omega)]
 refine hK _ _ ?_
 clear hK K
 refine wpT_ret ⟨.inr rfl, ?_⟩
 show optK (resA _ _ _ [.tmp 4, .tmp 5]) _
 simp only [SRO, ↓SP, SZ, ↓reduceIte, reduceCtorEq, nE, nA, nL, nT, andU a ha ha', andU b hb hb', shrU a ha ha', shrU b hb hb', andU 0 (Int.le_refl 0) (by omega), shrU 0 (Int.le_refl 0) (by omega), shrU (a * b) h0 h1, Int.zero_mul, Int.mul_zero, Int.zero_add, Int.add_zero, wU0, wrapU (x := a * b) h0 (by omega)]
 exact .refl _
theorem c101 (a b : Int) (ha : 0 ≤ a) (ha' : a < 4294967296) (hb : 0 ≤ b) (hb' : b < 4294967296) (h0 : 0 ≤ a * b) (h1 : a * b < 4294967296) : Pu Tryz.prog (.fn (.func 101) [] []) [U a, U b] (.tup [U 0, U (a * b)]) := by
 refine pu_func Tryz.func101 rfl (by kernel_rfl) (by show _ ≤ 30; simp only [LN]; decide) (by simp only [IDS]) (by simp only [IDS]) (by simp only [IDS]) ?_
 rw [Tryz.ntmps101]
 refine wpT_seq ?_
 refine wpT_region (by kernel_rfl) (fun K hK => ?_)
 simp only [↓SP, SZ, ↓reduceIte, reduceCtorEq, nE, nA, nL, nT]
 refine hK _ _ ?_
 clear hK K
 refine wpT_seq ?_
 refine wpT_ifF (by simp only [↓SP, SZ, ↓reduceIte, reduceCtorEq, nE, nA, nL, nT]) ?_
 refine wpT_skip ?_
 refine wpT_seq ?_
 refine wpT_region (by kernel_rfl) (fun K hK => ?_)
 simp only [↓SP, SZ, ↓reduceIte, reduceCtorEq, nE, nA, nL, nT]
 refine Pu.call (c103 a b ha ha' hb hb' h0 h1) ?_
 simp only [↓SP, SZ, ↓reduceIte, reduceCtorEq, nE, nA, nL, nT]
 refine hK _ _ ?_
 clear hK K
 refine wpT_seq ?_
 refine wpT_region (by kernel_rfl) (fun K hK => ?_)
 simp only [↓SP, SZ, ↓reduceIte, reduceCtorEq, nE, nA, nL, nT]
 refine hK _ _ ?_
 clear hK K
 refine wpT_ret ⟨.inr rfl, ?_⟩
 show optK (resA _ _ _ [.tmp 4, .tmp 5]) _
 simp only [SRO, ↓SP, SZ, ↓reduceIte, reduceCtorEq, nE, nA, nL, nT]
 exact .refl _
theorem cvIU (n : Int) : opConvert Tryz.prog 3 165 (.int .i64 n) = some (.int .u64 (IntKind.u64.wrap n)) := by kernel_rfl
theorem cvUI (n : Int) : opConvert Tryz.prog 165 3 (.int .u64 n) = some (.int .i64 (IntKind.i64.wrap n)) := by kernel_rfl
def repC (c : Int) (k L : Nat) : List AV := (List.replicate k c ++ List.replicate (L - k) 0).map I
theorem repC_length {c : Int} {k L : Nat} (h : k ≤ L) : (repC c k L).length = L := by simp [repC]; omega
theorem repC_cells {c : Int} {k L : Nat} : ∀ v ∈ repC c k L, v.cells.length = 1 := fun v hv => by
  obtain ⟨a, _, rfl⟩ := List.mem_map.1 hv
  rfl
theorem repC_take {c : Int} {k L : Nat} (h : k ≤ L) : (repC c k L).take k = (List.replicate k c).map I := by
  simp [repC]
theorem repC_step {c : Int} {k m L : Nat} (h : k + m ≤ L) : (repC c k L).take k ++ ((List.replicate k c).map I).take m ++ (repC c k L).drop (k + m) = (List.replicate k c ++ (List.replicate k c).take m ++ List.replicate (L - (k + m)) 0).map I := by
  rw [repC_take (by omega)]
  simp only [repC, List.map_append, List.map_take]
  congr 1
  rw [List.drop_append, List.drop_eq_nil_of_le (by simp)]
  simp
  omega
theorem repC_eq {c : Int} {k m L : Nat} (h : m ≤ k) : (List.replicate k c ++ (List.replicate k c).take m ++ List.replicate (L - (k + m)) 0).map I = repC c (k + m) L := by
  simp only [repC, List.take_replicate, Nat.min_eq_left h]
  rw [← List.replicate_append_replicate]
theorem cpR1 (c : Int) (L : Nat) {g : Nat → Option Ob} (hg : g 0 = some (.arr 3 1 (List.replicate L (.int .i64 0)))) :
    opCopy Tryz.prog 22 (.sl 0 L 0 L) (.lst [I c]) g = some (.int .i64 (min 1 L : Nat), .set 0 (.arr 3 1 (repC c (min 1 L) L))) := by
  have h := cpT (x := .lst [I c]) (xs := [I c]) sle22 (c := 1) (by rfl) (by decide) 0 L 0 L g rfl (by simp [AV.cells]) hg (by simp) (by omega)
  have hm : min ([I c] : List AV).length L = min 1 L := by simp
  rw [hm] at h
  rw [h]
  cases L with
  | zero => simp [repC]
  | succ m => simp [repC, List.replicate_succ]
theorem slR1 (c : Int) (k L : Nat) (h : k ≤ L) {g : Nat → Option Ob} (hg : g 0 = some (.arr 3 1 (repC c k L))) :
    opSlice Tryz.prog 22 (.sl 0 L 0 L) (some (I k)) none g = some (.sl 0 L k (L - k)) := by
  have := slT_sl sle22 (c := 1) (by rfl) (by decide) 0 L 0 L (some (I k)) none g hg (repC_length h) (l := k) (u := L) rfl rfl h (Nat.le_refl _)
  simpa using this
theorem slR2 (c : Int) (k L : Nat) (h : k ≤ L) {g : Nat → Option Ob} (hg : g 0 = some (.arr 3 1 (repC c k L))) :
    opSlice Tryz.prog 22 (.sl 0 L 0 L) none (some (I k)) g = some (.sl 0 L 0 k) := by
  have := slT_sl sle22 (c := 1) (by rfl) (by decide) 0 L 0 L none (some (I k)) g hg (repC_length h) (l := 0) (u := k) rfl rfl (by omega) h
  simpa using this
theorem cpR2 (c : Int) (k L : Nat) (h : k ≤ L) {g : Nat → Option Ob} (hg : g 0 = some (.arr 3 1 (repC c k L))) :
    opCopy Tryz.prog 22 (.sl 0 L k (L - k)) (.sl 0 L 0 k) g = some (.int .i64 (min k (L - k) : Nat), .set 0 (.arr 3 1 (repC c (k + min k (L - k)) L))) := by
  have hr : rdS g (.sl 0 L 0 k) = some ((repC c k L).take k) := by
    rw [rd_sl, hg, rdO_some, if_pos ⟨repC_length h, by omega⟩, List.drop_zero]
  have hlen : ((repC c k L).take k).length = k := by rw [List.length_take, repC_length h]; omega
  have := cpT (x := .sl 0 L 0 k) sle22 (c := 1) (by rfl) (by decide) 0 L k (L - k) g hr (fun v hv => repC_cells v (List.mem_of_mem_take hv)) hg (repC_length h) (by omega)
  rw [hlen] at this
  have e := (repC_step (c := c) (k := k) (m := min k (L - k)) (L := L) (by omega)).trans (repC_eq (by omega))
  rw [repC_take h] at e
  rw [this, repC_take h, e]
theorem repNew (c n : Int) (h1 : 0 ≤ n) (h8 : n ≤ 4096) : NewV Tryz.prog (.fn (.func 95) [] []) [.lst [I c], I n] 3 1 ((List.replicate n.toNat c).map I) := by
 refine callV_func Tryz.func95 rfl (by kernel_rfl) (by show _ ≤ 48; simp only [List.length_append, List.length_cons, List.length_nil]; decide) ?_
 have u1 : IntKind.u64.wrap 1 = 1 := wrapU (by omega) (by omega)
 have un : IntKind.u64.wrap n = n := wrapU (by omega) (by omega)
 have i1 : IntKind.i64.wrap n = n := wrap64 (by omega) (by omega)
 rw [Tryz.ntmps95]
 refine wpT_seq ?_
 refine wpT_region (by kernel_rfl) (fun K hK => ?_)
 simp only [↓SP, SZ, ↓reduceIte, reduceCtorEq, nE, nA, nL, nT, cvIU, cvUI, u1, un, i1]
 refine hK _ _ ?_
 clear hK K
 refine wpT_seq ?_
 refine wpT_seq ?_
 refine wpT_region (by kernel_rfl) (fun K hK => ?_)
 simp only [↓SP, SZ, ↓reduceIte, reduceCtorEq, nE, nA, nL, nT, cvIU, cvUI, u1, un, i1]
 refine hK _ _ ?_
 clear hK K
 refine wpT_if (by rfl) (fun hc10 => ?_) (fun hc10 => ?_)
 ·
  have p10 := hc10
  try simp only [PB] at p10
  exfalso; omega
 ·
  have p10 := hc10
  try simp only [PB] at p10
  refine wpT_skip ?_
  refine wpT_seq ?_
  refine wpT_region (by kernel_rfl) (fun K hK => ?_)
  simp only [↓SP, SZ, ↓reduceIte, reduceCtorEq, nE, nA, nL, nT, cvIU, cvUI, u1, un, i1, hc10]
  refine Pu.call (c101 1 n (by omega) (by omega) (by omega) (by omega) (by omega) (by omega)) ?_
  simp only [↓SP, SZ, ↓reduceIte, reduceCtorEq, nE, nA, nL, nT, cvIU, cvUI, u1, un, i1, hc10]
  refine hK _ _ ?_
  clear hK K
  refine wpT_seq ?_
  refine wpT_seq ?_
  refine wpT_region (by kernel_rfl) (fun K hK => ?_)
  simp only [↓SP, SZ, ↓reduceIte, reduceCtorEq, nE, nA, nL, nT, cvIU, cvUI, u1, un, i1, Int.one_mul, hc10]
  refine guardO_split (fun hg23 => ?_) (fun hg23 => ?_)
  ·
   have p23 := hg23
   try simp only [PB] at p23
   simp only [↓SP, SZ, ↓reduceIte, reduceCtorEq, nE, nA, nL, nT, cvIU, cvUI, u1, un, i1, Int.one_mul, hc10, hg23]
   refine hK _ _ ?_
   clear hK K
   refine wpT_if (by rfl) (fun hc26 => ?_) (fun hc26 => ?_)
   ·
    have p26 := hc26
    try simp only [PB] at p26
    exfalso; omega
   ·
    have p26 := hc26
    try simp only [PB] at p26
    refine wpT_skip ?_
    refine wpT_seq ?_
    refine wpT_region (by kernel_rfl) (fun K hK => ?_)
    simp only [↓SP, SZ, ↓reduceIte, reduceCtorEq, nE, nA, nL, nT, cvIU, cvUI, u1, un, i1, Int.one_mul, msO_ok 8 n n (by omega) (Int.le_refl _) (by omega) (by omega), hc10, hg23, hc26]
    refine hK _ _ ?_
    clear hK K
    refine wpT_seq ?_
    refine wpT_region (by kernel_rfl) (fun K hK => ?_)
    simp only [↓SP, SZ, ↓reduceIte, reduceCtorEq, nE, nA, nL, nT, cvIU, cvUI, u1, un, i1, cpR1 c n.toNat, hc10, hg23, hc26]
    refine hK _ _ ?_
    clear hK K
    refine wpT_seq ?_
    refine wpT_block ?_
    refine wpT_loop ?_
    refine wpT_keep1 (i := 0) (o := .arr 3 1 (repC c (min 1 n.toNat) n.toNat)) (by simp only [↓SP, SZ, ↓reduceIte, reduceCtorEq, nE, nA, nL, nT, cvIU, cvUI]) ?_
    refine wpT_ind (fun (k : Nat) tm' h' => (∃ m, h' = Hp.of [(0, .arr 3 1 (repC c k n.toNat))] (m + 1)) ∧ tm' 7 = .sl 0 n.toNat 0 n.toNat ∧ tm' 8 = I k ∧ min 1 n.toNat ≤ k ∧ k ≤ n.toNat) (fun k => n.toNat - k) ?_ (min 1 n.toNat) ⟨⟨0, rfl⟩, rfl, rfl, by omega, by omega⟩
    rintro k tm' _ ⟨⟨m, rfl⟩, e7, e8, hk1, hk2⟩ IH
    refine wpT_inLoop ?_
    refine wpT_seq ?_
    refine wpT_seq ?_
    refine wpT_region (by kernel_rfl) (fun K hK => ?_)
    simp only [↓SP, SZ, ↓reduceIte, reduceCtorEq, nE, nA, nL, nT, cvIU, cvUI, u1, un, i1, e7, e8, repC_length hk2]
    refine hK _ _ ?_
    clear hK K
    refine wpT_if (by rfl) (fun hc37 => ?_) (fun hc37 => ?_)
    ·
     have p37 := hc37
     try simp only [PB] at p37
     have hm : 1 ≤ min k (n.toNat - k) := by omega
     refine wpT_skip ?_
     refine wpT_block ?_
     refine wpT_drawn [] mixed (by kernel_rfl) (m := 10) rfl (fun K hK => ?_)
     simp only [↓SP, SZ, ↓reduceIte, reduceCtorEq, nE, nA, nL, nT, cvIU, cvUI, u1, un, i1, e7, e8, rd_cut_sn, rd_cut_ns, Option.map_some, Option.map_none, slR1 c k n.toNat hk2, slR2 c k n.toNat hk2, cpR2 c k n.toNat hk2, wrap64 (x := (k : Int) + (min k (n.toNat - k) : Nat)) (by omega) (by omega), hc37]
     refine hK _ _ ?_
     clear hK K
     refine wpT_inBlock ?_
     refine wpT_keep1 (i := 0) (o := .arr 3 1 (repC c (k + min k (n.toNat - k)) n.toNat)) (by simp only [↓SP, SZ, ↓reduceIte, reduceCtorEq, nE, nA, nL, nT, cvIU, cvUI]) ?_
     refine IH (k + min k (n.toNat - k)) _ _ (by omega) ⟨⟨_, rfl⟩, by simp only [↓SP, SZ, ↓reduceIte, reduceCtorEq, nE, nA, nL, nT, cvIU, cvUI, e7], by simp only [↓SP, SZ, ↓reduceIte, reduceCtorEq, nE, nA, nL, nT, cvIU, cvUI, Int.natCast_add], by omega, by omega⟩
    ·
     have p37 := hc37
     try simp only [PB] at p37
     have hk : k = n.toNat := by omega
     subst hk
     refine wpT_exit rfl ?_
     refine wpT_seq ?_
     refine wpT_region (by kernel_rfl) (fun K hK => ?_)
     simp only [↓SP, SZ, ↓reduceIte, reduceCtorEq, nE, nA, nL, nT, cvIU, cvUI, u1, un, i1, e7, hc37]
     refine hK _ _ ?_
     clear hK K
     refine wpT_ret ⟨.inr rfl, ?_⟩
     show optK (resA _ _ _ [.tmp 4]) _
     simp only [SRO, ↓SP, SZ, ↓reduceIte, reduceCtorEq, nE, nA, nL, nT, cvIU, cvUI, u1, un, i1, hc37]
     have hc : repC c n.toNat n.toNat = (List.replicate n.toNat c).map I := by simp [repC]
     rw [hc]
     exact ⟨0, by simp, rfl⟩
  ·
   simp only [Bool.not_true, Bool.not_false] at hg23
   have p23 := hg23
   try simp only [PB] at p23
   simp only [↓SP, SZ, ↓reduceIte, reduceCtorEq, nE, nA, nL, nT, cvIU, cvUI, u1, un, i1, Int.one_mul, hc10, hg23]
   refine hK _ _ ?_
   clear hK K
   refine wpT_ifT (by simp only [↓SP, SZ, ↓reduceIte, reduceCtorEq, nE, nA, nL, nT, cvIU, cvUI, u1, un, i1, hc10, hg23]) ?_
   exfalso; omega
end Go.Proofs.YtfdfkmcplhloaaaGreat
end

section
set_option linter.unusedSimpArgs false
set_option linter.unusedVariables false
namespace Go.Proofs.YtfdfkmcplhloaaaGreat
open Go.Proofs
open Nat renaming reduceEqDiff → nE, reduceAdd → nA, reduceLeDiff → nL, reduceLT → nT
set_option maxRecDepth 10000
theorem repNu (c n : Int) (h1 : 0 ≤ n) (h8 : n ≤ 4096) : Nu Tryz.prog (.fn (.func 95) [] []) [.lst [I c], I n] 3 1 ((List.replicate n.toNat c).map I) :=
  ⟨repNew c n h1 h8, by simp only [IDF, implies_true], by simp only [IDF, and_tt], by simp only [IDF, and_tt]⟩
theorem rep_scal (c : Int) (k : Nat) : ∀ e ∈ (List.replicate k c).map I, Scal e := fun e he => by
  obtain ⟨a, _, rfl⟩ := List.mem_map.1 he
  exact .int _ _
/-- The places of the events of each write, written one by one. -/
def relF : Nat → List Int → List Int → List Evn → List Int × List Int
  | _, i, a, [] => (i, a)
  | k, i, a, x :: xs => if x.kind = 0 then relF (k + 1) (i.set x.wr.toNat k) a xs else relF (k + 1) i (a.set x.wr.toNat k) xs
def phi (d x : Int) : Int := if x < 0 then d else x
theorem evE_ok {n : Nat} {t : TL} {x : Evn} (hg : t.iss.length ≤ n) (h : evE n t x = 0) : 0 ≤ x.wr ∧ x.wr < n ∧ ((x.kind = 0 ∧ x.wr = t.iss.length) ∨ (x.kind = 1 ∧ x.wr < t.iss.length)) := by
  unfold evE at h
  by_cases h0 : x.kind = 0
  · rw [if_pos h0] at h
    split at h
    · simp at h
    · omega
  · rw [if_neg h0] at h
    by_cases h1 : x.kind = 1
    · rw [if_pos h1] at h
      split at h
      · simp at h
      · omega
    · rw [if_neg h1] at h
      simp at h
theorem evRun_in {n : Nat} : ∀ {xs : List Evn} {k : Nat} {t : TL}, t.good n k → (evRun n k t xs).1 = 0 → ∀ x ∈ xs, 0 ≤ x.wr ∧ x.wr < n ∧ (x.kind = 0 ∨ x.kind = 1)
  | [], _, _, _, _ => by simp
  | x :: xs, k, t, hg, h => by
    rw [evRun] at h
    split at h
    · rename_i he; exact absurd h he
    · rename_i he
      have he := Classical.not_not.1 he
      intro y hy
      rcases List.mem_cons.1 hy with rfl | hy
      · obtain ⟨a, b, c⟩ := evE_ok hg.le he
        exact ⟨a, b, c.imp (fun c => c.1) fun c => c.1⟩
      · exact evRun_in (evS_good hg he) h y hy
theorem relF_run {n : Nat} (d d' : Int) : ∀ {xs : List Evn} {k : Nat} {t : TL}, t.good n k → (evRun n k t xs).1 = 0 →
    relF k (t.iss ++ List.replicate (n - t.iss.length) d) (t.ack.map (phi d') ++ List.replicate (n - t.iss.length) d') xs =
      ((evRun n k t xs).2.iss ++ List.replicate (n - (evRun n k t xs).2.iss.length) d, (evRun n k t xs).2.ack.map (phi d') ++ List.replicate (n - (evRun n k t xs).2.iss.length) d')
  | [], _, _, _, _ => rfl
  | x :: xs, k, t, hg, h => by
    have h' := h
    rw [evRun] at h'
    split at h'
    · rename_i he; exact absurd h' he
    · rename_i he
      have he := Classical.not_not.1 he
      have ih := relF_run d d' (xs := xs) (evS_good hg he) h'
      have e : evRun n k t (x :: xs) = evRun n (k + 1) (evS k t x) xs := by rw [evRun, if_neg (by omega)]
      rw [e, ← ih, relF]
      obtain ⟨a, b, c⟩ := evE_ok hg.le he
      have hl := hg.len
      rcases c with ⟨c1, c2⟩ | ⟨c1, c2⟩
      · rw [if_pos c1, evS, if_pos c1]
        have ew : x.wr.toNat = t.iss.length := by omega
        have er : ∀ z : Int, List.replicate (n - t.iss.length) z = z :: List.replicate (n - (t.iss.length + 1)) z := fun z => by
          rw [show n - t.iss.length = (n - (t.iss.length + 1)) + 1 by omega, List.replicate_succ]
        rw [ew, er d, er d']
        simp only [List.length_append, List.length_cons, List.length_nil, List.map_append, List.map_cons, List.map_nil, List.append_assoc, List.cons_append, List.nil_append]
        rw [List.set_append_right _ _ (Nat.le_refl _), Nat.sub_self, List.set_cons_zero]
        rfl
      · have c3 : ¬ x.kind = 0 := by omega
        rw [if_neg c3, evS, if_neg c3]
        have hlt : x.wr.toNat < t.ack.length := by omega
        rw [List.set_append_left _ _ (by simpa using hlt)]
        congr 2
        rw [List.map_set]
        congr 1
def relL (h : Hist) : List Int × List Int := ((histRun h).2.iss, (histRun h).2.ack.map (phi h.evs.length))
theorem relF_all {h : Hist} (e : histE h = 0) (d : Int) : relF 0 (List.replicate h.ws.length d) (List.replicate h.ws.length h.evs.length) h.evs = relL h := by
  obtain ⟨_, _, _, h4, h5, h6, _, _⟩ := hist_ok e
  have := relF_run d (h.evs.length : Int) (xs := h.evs) (tl0_good h.ws.length) h4
  simp only [List.length_nil, Nat.sub_zero, List.nil_append, List.map_nil] at this
  rw [this]
  have e5 : (evRun h.ws.length 0 ⟨[], []⟩ h.evs).2.iss.length = h.ws.length := h5
  rw [e5]
  simp [relL, histRun]
def relRes (h : Hist) : AV := if histE h ≠ 0 then .nilp else relAV h.ws.length h.evs.length (relL h).1 (relL h).2
theorem relRes_idf (h : Hist) : Idf (relRes h) = True := eq_true (by unfold relRes; split <;> simp only [IDF, rel_idf])
theorem c75 (h : Hist) (hs : h.sm) : Pu Tryz.prog (.fn (.func 75) [] []) [h.av] (.tup [relRes h, I (histE h)]) := by
 refine pu_func Tryz.func75 rfl (by kernel_rfl) (by show _ ≤ 76; simp only [List.length_append, List.length_cons, List.length_nil]; decide) (by simp only [IDF, relRes_idf, and_tt]) (by simp only [IDF, and_tt, implies_true]) (by simp only [IDF, hist_idf, and_tt, implies_true]) ?_
 have hw := hs.2.1
 have he := hs.2.2.1
 rw [Tryz.ntmps75]
 refine wpT_seq ?_
 refine wpT_region (by kernel_rfl) (fun K hK => ?_)
 simp only [↓SP, SZ, ↓reduceIte, reduceCtorEq, nE, nA, nL, nT, Hist.av]
 refine hK _ _ ?_
 clear hK K
 refine wpT_seq ?_
 refine wpT_seq ?_
 refine wpT_region (by kernel_rfl) (fun K hK => ?_)
 simp only [↓SP, SZ, ↓reduceIte, reduceCtorEq, nE, nA, nL, nT, Hist.av]
 refine Pu.call (c30 h hs) ?_
 simp only [↓SP, SZ, ↓reduceIte, reduceCtorEq, nE, nA, nL, nT, Hist.av]
 refine hK _ _ ?_
 clear hK K
 refine wpT_seq ?_
 refine wpT_region (by kernel_rfl) (fun K hK => ?_)
 simp only [↓SP, SZ, ↓reduceIte, reduceCtorEq, nE, nA, nL, nT, Hist.av]
 refine hK _ _ ?_
 clear hK K
 refine wpT_if (by rfl) (fun hc11 => ?_) (fun hc11 => ?_)
 ·
  have p11 := hc11
  try simp only [PB] at p11
  have hx : relRes h = .nilp := if_pos p11
  refine wpT_seq ?_
  refine wpT_region (by kernel_rfl) (fun K hK => ?_)
  simp only [↓SP, SZ, ↓reduceIte, reduceCtorEq, nE, nA, nL, nT, Hist.av, hc11]
  refine hK _ _ ?_
  clear hK K
  refine wpT_ret ⟨.inr rfl, ?_⟩
  show optK (resA _ _ _ [.tmp 2, .tmp 3]) _
  simp only [SRO, ↓SP, SZ, ↓reduceIte, reduceCtorEq, nE, nA, nL, nT, Hist.av, hc11]
  rw [hx]
  exact .refl _
 ·
  have p11 := hc11
  try simp only [PB] at p11
  have e0 : histE h = 0 := by simpa using p11
  have hx : relRes h = relAV h.ws.length h.evs.length (relL h).1 (relL h).2 := if_neg (by omega)
  obtain ⟨_, hw4, _, h4, _⟩ := hist_ok e0
  have hin := evRun_in (tl0_good h.ws.length) h4
  refine wpT_skip ?_
  refine wpT_seq ?_
  refine wpT_region (by kernel_rfl) (fun K hK => ?_)
  simp only [↓SP, SZ, ↓reduceIte, reduceCtorEq, nE, nA, nL, nT, Hist.av, hc11]
  refine hK _ _ ?_
  clear hK K
  refine wpT_seq ?_
  refine wpT_drawn [(5, 7), (5, 8), (5, 9)] mixed (by kernel_rfl) (m := 14) rfl (fun K hK => ?_)
  simp only [↓SP, SZ, ↓reduceIte, reduceCtorEq, nE, nA, nL, nT, Hist.av, hc11]
  refine Nu.lentD (repNu h.evs.length h.ws.length (by omega) (by omega)) [7] (rep_scal _ _) (.refl _) (LendL.cons (Lend.sl0 (E := 3) (s := 1) (es := [I h.evs.length]) (by simp only [↓SP, SZ, ↓reduceIte, reduceCtorEq, nE, nA, nL, nT]) rfl (by simp [AV.okc])) (LendL.cons (.refl _) LendL.nil)) ?_
  simp only [↓SP, SZ, ↓reduceIte, reduceCtorEq, nE, nA, nL, nT, Hist.av, hc11]
  refine hK _ _ ?_
  clear hK K
  refine wpT_seq ?_
  refine wpT_drawn [(5, 7), (5, 8), (5, 9)] mixed (by kernel_rfl) (m := 14) rfl (fun K hK => ?_)
  simp only [↓SP, SZ, ↓reduceIte, reduceCtorEq, nE, nA, nL, nT, Hist.av, hc11]
  refine Nu.lentD (repNu h.evs.length h.ws.length (by omega) (by omega)) [21] (rep_scal _ _) (.refl _) (LendL.cons (Lend.sl0 (E := 3) (s := 1) (es := [I h.evs.length]) (by simp only [↓SP, SZ, ↓reduceIte, reduceCtorEq, nE, nA, nL, nT]) rfl (by simp [AV.okc])) (LendL.cons (.refl _) LendL.nil)) ?_
  simp only [↓SP, SZ, ↓reduceIte, reduceCtorEq, nE, nA, nL, nT, Hist.av, hc11]
  refine hK _ _ ?_
  clear hK K
  refine wpT_seq ?_
  refine wpT_seq ?_
  refine wpT_region (by kernel_rfl) (fun K hK => ?_)
  simp only [↓SP, SZ, ↓reduceIte, reduceCtorEq, nE, nA, nL, nT, Hist.av, hc11]
  refine hK _ _ ?_
  clear hK K
  refine wpT_block ?_
  refine wpT_loop ?_
  refine wpT_keep4 (i := 0) (j := 1) (k := 12) (l := 26) (o := .arr 26 3 [h.av]) (q := .arr 111 4 [.agg [I h.ws.length, I h.evs.length, .sl 12 h.ws.length 0 h.ws.length, .sl 26 h.ws.length 0 h.ws.length]]) (r := .arr 3 1 ((List.replicate h.ws.length (h.evs.length : Int)).map I)) (s := .arr 3 1 ((List.replicate h.ws.length (h.evs.length : Int)).map I)) (by simp only [↓SP, SZ, ↓reduceIte, reduceCtorEq, nE, nA, nL, nT, Hist.av]) (by simp only [↓SP, SZ, ↓reduceIte, reduceCtorEq, nE, nA, nL, nT, Int.toNat_natCast]) (by simp only [↓SP, SZ, ↓reduceIte, reduceCtorEq, nE, nA, nL, nT, Int.toNat_natCast]) (by simp only [↓SP, SZ, ↓reduceIte, reduceCtorEq, nE, nA, nL, nT, Int.toNat_natCast]) ?_
  refine wpT_ind (fun (i : Nat) tm' h' => ∃ iss ack : List Int, (∃ m, h' = Hp.of [(0, .arr 26 3 [h.av]), (1, .arr 111 4 [.agg [I h.ws.length, I h.evs.length, .sl 12 h.ws.length 0 h.ws.length, .sl 26 h.ws.length 0 h.ws.length]]), (12, .arr 3 1 (iss.map I)), (26, .arr 3 1 (ack.map I))] (m + 30)) ∧ tm' 5 = .ptr 1 1 0 0 ∧ tm' 48 = .lst (h.evs.map Evn.av) ∧ tm' 49 = I h.evs.length ∧ tm' 50 = I i ∧ i ≤ h.evs.length ∧ iss.length = h.ws.length ∧ ack.length = h.ws.length ∧ relF i iss ack (h.evs.drop i) = relL h) (fun i => h.evs.length - i) ?_ 0 ⟨List.replicate h.ws.length (h.evs.length : Int), List.replicate h.ws.length (h.evs.length : Int), ⟨0, rfl⟩, rfl, rfl, rfl, rfl, by omega, by simp, by simp, relF_all e0 _⟩
  rintro i tm' _ ⟨iss, ack, ⟨m, rfl⟩, e5, e48, e49, e50, hi, hli, hla, hrel⟩ IH
  refine wpT_inLoop ?_
  refine wpT_seq ?_
  refine wpT_region (by kernel_rfl) (fun K hK => ?_)
  simp only [↓SP, SZ, ↓reduceIte, reduceCtorEq, nE, nA, nL, nT, Hist.av, e49, e50]
  refine hK _ _ ?_
  clear hK K
  refine wpT_seq ?_
  refine wpT_if (by rfl) (fun hc51 => ?_) (fun hc51 => ?_)
  ·
   have p51 := hc51
   try simp only [PB] at p51
   have hlt : i < h.evs.length := by omega
   have hg := at_map (f := Evn.av) hlt
   rw [List.drop_eq_getElem_cons hlt, relF] at hrel
   obtain ⟨a1, a2, a3⟩ := hin _ (List.getElem_mem hlt)
   obtain ⟨k, hk⟩ := Int.eq_ofNat_of_zero_le a1
   rw [hk, Int.toNat_natCast] at hrel
   have hgi := at_map (f := I) (xs := iss) (i := k) (by omega)
   have hga := at_map (f := I) (xs := ack) (i := k) (by omega)
   have hz0 : (0 : Int) ≤ (k : Int) := by omega
   have hz1 : (k : Int) < (h.ws.length : Int) := by omega
   refine wpT_skip ?_
   refine wpT_seq ?_
   refine wpT_block ?_
   refine wpT_seq ?_
   refine wpT_region (by kernel_rfl) (fun K hK => ?_)
   simp only [↓SP, SZ, ↓reduceIte, reduceCtorEq, nE, nA, nL, nT, Hist.av, e48, e50, hg, hc51]
   refine hK _ _ ?_
   clear hK K
   refine wpT_seq ?_
   refine wpT_region (by kernel_rfl) (fun K hK => ?_)
   simp only [↓SP, SZ, ↓reduceIte, reduceCtorEq, nE, nA, nL, nT, Hist.av, Evn.av, hc51]
   refine hK _ _ ?_
   clear hK K
   refine wpT_if (by rfl) (fun hc57 => ?_) (fun hc57 => ?_)
   ·
    have p57 := hc57
    try simp only [PB] at p57
    rw [if_pos p57] at hrel
    have hli' : (iss.set k (i : Int)).length = h.ws.length := by simpa using hli
    refine wpT_drawn [] mixed (by kernel_rfl) (m := 9) rfl (fun K hK => ?_)
    simp only [↓SP, SZ, ↓reduceIte, reduceCtorEq, nE, nA, nL, nT, Hist.av, e5, Evn.av, hk, hli, hgi, hz0, hz1, Int.toNat_natCast, stO_arr, Option.bind_some, hc51, hc57]
    refine hK _ _ ?_
    clear hK K
    refine wpT_inBlock ?_
    refine wpT_region (by kernel_rfl) (fun K hK => ?_)
    simp only [↓SP, SZ, ↓reduceIte, reduceCtorEq, nE, nA, nL, nT, Hist.av, e50, wrap64 (x := (i : Int) + 1) (by omega) (by omega), hc51, hc57]
    refine hK _ _ ?_
    clear hK K
    first
      | (have hu := hli'
         refine wpT_keep4 (i := 0) (j := 1) (k := 12) (l := 26) (o := .arr 26 3 [h.av]) (q := .arr 111 4 [.agg [I h.ws.length, I h.evs.length, .sl 12 h.ws.length 0 h.ws.length, .sl 26 h.ws.length 0 h.ws.length]]) (r := .arr 3 1 ((iss.set k (i : Int)).map I)) (s := .arr 3 1 (ack.map I)) ?_ ?_ ?_ ?_ ?_
         · simp only [↓SP, SZ, ↓reduceIte, reduceCtorEq, nE, nA, nL, nT, Hist.av]
         · simp only [↓SP, SZ, ↓reduceIte, reduceCtorEq, nE, nA, nL, nT]
         · simp only [↓SP, SZ, ↓reduceIte, reduceCtorEq, nE, nA, nL, nT, List.map_set]
         · simp only [↓SP, SZ, ↓reduceIte, reduceCtorEq, nE, nA, nL, nT]
         refine IH (i + 1) _ _ (by omega) ⟨iss.set k (i : Int), ack, ⟨_, rfl⟩, ?_, ?_, ?_, ?_, by omega, hu, hla, hrel⟩
         · simp only [↓SP, SZ, ↓reduceIte, reduceCtorEq, nE, nA, nL, nT, e5]
         · simp only [↓SP, SZ, ↓reduceIte, reduceCtorEq, nE, nA, nL, nT, e48]
         · simp only [↓SP, SZ, ↓reduceIte, reduceCtorEq, nE, nA, nL, nT, e49]
         · simp only [↓SP, SZ, ↓reduceIte, reduceCtorEq, nE, nA, nL, nT, Int.natCast_add, Int.cast_ofNat_Int])
      | (have hu := hla'
         refine wpT_keep4 (i := 0) (j := 1) (k := 12) (l := 26) (o := .arr 26 3 [h.av]) (q := .arr 111 4 [.agg [I h.ws.length, I h.evs.length, .sl 12 h.ws.length 0 h.ws.length, .sl 26 h.ws.length 0 h.ws.length]]) (r := .arr 3 1 (iss.map I)) (s := .arr 3 1 ((ack.set k (i : Int)).map I)) ?_ ?_ ?_ ?_ ?_
         · simp only [↓SP, SZ, ↓reduceIte, reduceCtorEq, nE, nA, nL, nT, Hist.av]
         · simp only [↓SP, SZ, ↓reduceIte, reduceCtorEq, nE, nA, nL, nT]
         · simp only [↓SP, SZ, ↓reduceIte, reduceCtorEq, nE, nA, nL, nT]
         · simp only [↓SP, SZ, ↓reduceIte, reduceCtorEq, nE, nA, nL, nT, List.map_set]
         refine IH (i + 1) _ _ (by omega) ⟨iss, ack.set k (i : Int), ⟨_, rfl⟩, ?_, ?_, ?_, ?_, by omega, hli, hu, hrel⟩
         · simp only [↓SP, SZ, ↓reduceIte, reduceCtorEq, nE, nA, nL, nT, e5]
         · simp only [↓SP, SZ, ↓reduceIte, reduceCtorEq, nE, nA, nL, nT, e48]
         · simp only [↓SP, SZ, ↓reduceIte, reduceCtorEq, nE, nA, nL, nT, e49]
         · simp only [↓SP, SZ, ↓reduceIte, reduceCtorEq, nE, nA, nL, nT, Int.natCast_add, Int.cast_ofNat_Int])
   ·
    have p57 := hc57
    try simp only [PB] at p57
    rw [if_neg (by simpa using p57)] at hrel
    have hla' : (ack.set k (i : Int)).length = h.ws.length := by simpa using hla
    refine wpT_drawn [] mixed (by kernel_rfl) (m := 9) rfl (fun K hK => ?_)
    simp only [↓SP, SZ, ↓reduceIte, reduceCtorEq, nE, nA, nL, nT, Hist.av, e5, Evn.av, hk, hla, hga, hz0, hz1, Int.toNat_natCast, stO_arr, Option.bind_some, hc51, hc57]
    refine hK _ _ ?_
    clear hK K
    refine wpT_inBlock ?_
    refine wpT_region (by kernel_rfl) (fun K hK => ?_)
    simp only [↓SP, SZ, ↓reduceIte, reduceCtorEq, nE, nA, nL, nT, Hist.av, e50, wrap64 (x := (i : Int) + 1) (by omega) (by omega), hc51, hc57]
    refine hK _ _ ?_
    clear hK K
    first
      | (have hu := hli'
         refine wpT_keep4 (i := 0) (j := 1) (k := 12) (l := 26) (o := .arr 26 3 [h.av]) (q := .arr 111 4 [.agg [I h.ws.length, I h.evs.length, .sl 12 h.ws.length 0 h.ws.length, .sl 26 h.ws.length 0 h.ws.length]]) (r := .arr 3 1 ((iss.set k (i : Int)).map I)) (s := .arr 3 1 (ack.map I)) ?_ ?_ ?_ ?_ ?_
         · simp only [↓SP, SZ, ↓reduceIte, reduceCtorEq, nE, nA, nL, nT, Hist.av]
         · simp only [↓SP, SZ, ↓reduceIte, reduceCtorEq, nE, nA, nL, nT]
         · simp only [↓SP, SZ, ↓reduceIte, reduceCtorEq, nE, nA, nL, nT, List.map_set]
         · simp only [↓SP, SZ, ↓reduceIte, reduceCtorEq, nE, nA, nL, nT]
         refine IH (i + 1) _ _ (by omega) ⟨iss.set k (i : Int), ack, ⟨_, rfl⟩, ?_, ?_, ?_, ?_, by omega, hu, hla, hrel⟩
         · simp only [↓SP, SZ, ↓reduceIte, reduceCtorEq, nE, nA, nL, nT, e5]
         · simp only [↓SP, SZ, ↓reduceIte, reduceCtorEq, nE, nA, nL, nT, e48]
         · simp only [↓SP, SZ, ↓reduceIte, reduceCtorEq, nE, nA, nL, nT, e49]
         · simp only [↓SP, SZ, ↓reduceIte, reduceCtorEq, nE, nA, nL, nT, Int.natCast_add, Int.cast_ofNat_Int])
      | (have hu := hla'
         refine wpT_keep4 (i := 0) (j := 1) (k := 12) (l := 26) (o := .arr 26 3 [h.av]) (q := .arr 111 4 [.agg [I h.ws.length, I h.evs.length, .sl 12 h.ws.length 0 h.ws.length, .sl 26 h.ws.length 0 h.ws.length]]) (r := .arr 3 1 (iss.map I)) (s := .arr 3 1 ((ack.set k (i : Int)).map I)) ?_ ?_ ?_ ?_ ?_
         · simp only [↓SP, SZ, ↓reduceIte, reduceCtorEq, nE, nA, nL, nT, Hist.av]
         · simp only [↓SP, SZ, ↓reduceIte, reduceCtorEq, nE, nA, nL, nT]
         · simp only [↓SP, SZ, ↓reduceIte, reduceCtorEq, nE, nA, nL, nT]
         · simp only [↓SP, SZ, ↓reduceIte, reduceCtorEq, nE, nA, nL, nT, List.map_set]
         refine IH (i + 1) _ _ (by omega) ⟨iss, ack.set k (i : Int), ⟨_, rfl⟩, ?_, ?_, ?_, ?_, by omega, hli, hu, hrel⟩
         · simp only [↓SP, SZ, ↓reduceIte, reduceCtorEq, nE, nA, nL, nT, e5]
         · simp only [↓SP, SZ, ↓reduceIte, reduceCtorEq, nE, nA, nL, nT, e48]
         · simp only [↓SP, SZ, ↓reduceIte, reduceCtorEq, nE, nA, nL, nT, e49]
         · simp only [↓SP, SZ, ↓reduceIte, reduceCtorEq, nE, nA, nL, nT, Int.natCast_add, Int.cast_ofNat_Int])
  ·
   have p51 := hc51
   try simp only [PB] at p51
   rw [List.drop_eq_nil_of_le (by omega), relF] at hrel
   refine wpT_exit rfl ?_
   refine wpT_seq ?_
   refine wpT_region (by kernel_rfl) (fun K hK => ?_)
   simp only [↓SP, SZ, ↓reduceIte, reduceCtorEq, nE, nA, nL, nT, Hist.av, e5, hc51]
   refine hK _ _ ?_
   clear hK K
   refine wpT_ret ⟨.inr rfl, ?_⟩
   show optK (resA _ _ _ [.tmp 2, .tmp 3]) _
   simp only [SRO, ↓SP, SZ, ↓reduceIte, reduceCtorEq, nE, nA, nL, nT, Hist.av, hc51]
   rw [hx, ← hrel, e0]
   exact Lend.tupL (LendL.cons (.ptr 1 1 0 111 4 [.agg [I h.ws.length, I h.evs.length, .sl 12 h.ws.length 0 h.ws.length, .sl 26 h.ws.length 0 h.ws.length]] (.agg [I h.ws.length, I h.evs.length, .sl 12 h.ws.length 0 h.ws.length, .sl 26 h.ws.length 0 h.ws.length]) _ (by simp only [↓SP, SZ, ↓reduceIte, reduceCtorEq, nE, nA, nL, nT]) rfl rfl (Lend.aggL (LendL.cons (.refl _) (LendL.cons (.refl _) (LendL.cons (Lend.sl0 (E := 3) (s := 1) (by simp only [↓SP, SZ, ↓reduceIte, reduceCtorEq, nE, nA, nL, nT]) (by simpa using hli) (int_okc _)) (LendL.cons (Lend.sl0 (E := 3) (s := 1) (by simp only [↓SP, SZ, ↓reduceIte, reduceCtorEq, nE, nA, nL, nT]) (by simpa using hla) (int_okc _)) LendL.nil))))) rfl) (LendL.cons (.refl _) LendL.nil))
end Go.Proofs.YtfdfkmcplhloaaaGreat
end

section
set_option linter.unusedSimpArgs false
set_option linter.unusedVariables false
namespace Go.Proofs.YtfdfkmcplhloaaaGreat
open Go.Proofs
open Nat renaming reduceEqDiff → nE, reduceAdd → nA, reduceLeDiff → nL, reduceLT → nT
set_option maxRecDepth 10000
def apI (xs : List Int) (l : Nat) (fid : FuncId) (ps : Array Tmp) (assign body : Code) (tm : Tm) (rem : List Int) (h : Hp) : Prop :=
  ∃ done : List Int, 3 ≤ h.nx ∧ h.get 0 = some (.arr 22 1 [.sl 1 done.length 0 done.length]) ∧ h.get 1 = some (.arr 3 1 (done.map I)) ∧ h.get 2 = some (.loop l fid ps assign body tm 13 .ready none) ∧ done ++ rem = xs
theorem c97 (f : FuncId) (fn : Func) (c : Code) (hf : Tryz.prog.funcs[f]? = some fn) (hb : fn.body = some c) (hname : (fn.name == "runtime.NumGoroutine") = false) (caps : List AV) (hcaps : ∀ x ∈ caps, Idf x) (xs : List Int) (hx : xs.length < 4000000)
    (hs : ∀ (yv : AV) (In : List Int → Hp → Prop) (J : Hp → Prop) (h : Hp), In xs h → (∀ x ys h', In (x :: ys) h' → CallV Tryz.prog yv [I x] h' fun v h'' => ∃ b, v = .bool b ∧ ((b = true ∧ In ys h'') ∨ (b = false ∧ J h''))) → CallV Tryz.prog (.fn (.func f) [] caps) [yv] h fun _ h' => In [] h' ∨ J h') : Pu Tryz.prog (.fn (.func 97) [] []) [.nil0, .fn (.func f) [] caps] (.lst (xs.map I)) := by
 refine pu_func Tryz.func97 rfl (by kernel_rfl) (by show _ ≤ 13; simp only [List.length_append, List.length_cons, List.length_nil]; decide) (by simp only [IDF, implies_true]) (by simp only [IDF, and_tt, implies_true]) (by simp only [IDF, and_tt, implies_true]; simpa only [and_true, true_and] using hcaps) ?_
 rw [Tryz.ntmps97]
 refine wpT_seq ?_
 refine wpT_region (by kernel_rfl) (fun K hK => ?_)
 simp only [↓SP, SZ, ↓reduceIte, reduceCtorEq, nE, nA, nL, nT]
 refine hK _ _ ?_
 clear hK K
 refine wpT_seq ?_
 refine wpT_seq ?_
 refine wpT_region (by kernel_rfl) (fun K hK => ?_)
 simp only [↓SP, SZ, ↓reduceIte, reduceCtorEq, nE, nA, nL, nT]
 refine hK _ _ ?_
 clear hK K
 refine wpT_block ?_
 refine wpT_nilvar 0 3 1 (by simp only [↓SP, SZ, ↓reduceIte, reduceCtorEq, nE, nA, nL, nT]; rfl) (by rfl) ?_
 refine wpT_keep2 (i := 0) (j := 1) (o := .arr 22 1 [.sl 1 0 0 0]) (q := .arr 3 1 []) (by simp only [↓SP, SZ, ↓reduceIte, reduceCtorEq, nE, nA, nL, nT]) (by simp only [↓SP, SZ, ↓reduceIte, reduceCtorEq, nE, nA, nL, nT]) ?_
 refine wpT_ind (fun (_ : Unit) tm' h' => h' = Hp.of [(0, .arr 22 1 [.sl 1 0 0 0]), (1, .arr 3 1 [])] 2 ∧ tm' 2 = .ptr 0 1 0 0 ∧ tm' 6 = .fn (.func f) [] caps) (fun _ => 0) ?_ () ⟨rfl, rfl, rfl⟩
 rintro _ tm' _ ⟨rfl, e2, e6⟩ -
 refine wpT_range (by simp only [↓SP, SZ, ↓reduceIte, reduceCtorEq, nE, nA, nL, nT, e6]; rfl) hf hb hname (fun l fid => ?_)
 refine CallV.mono (hs (.fn (.yield l) [] []) (apI xs l fid #[7] _ _ tm') (fun _ => False) _ ⟨[], Nat.le_refl _, rfl, rfl, rfl, rfl⟩ (fun x ys h' hI => ?_)) ?_
 obtain ⟨done, q1, q2, q3, q4, q5⟩ := hI
 refine callV_yield q4 rfl (by rfl) ?_
 show wpT _ _ _ _ _ (tm'.put (some 7) (I x)) _
 have hdl : done.length < xs.length := by rw [← q5]; simp
 have n0 : ¬ 0 = h'.nx := by omega
 have n1 : ¬ 1 = h'.nx := by omega
 have n2 : ¬ 2 = h'.nx := by omega
 have n0' : ¬ h'.nx = 0 := by omega
 have n1' : ¬ h'.nx = 1 := by omega
 have n2' : ¬ h'.nx = 2 := by omega
 have m1 : done.length + 1 ≤ maxLen := by simp only [maxLen]; omega
 have m2 : (done.length + 1) * 8 ≤ 140737488355328 := by omega
 ·
  refine wpT_region (by kernel_rfl) (fun K hK => ?_)
  simp only [↓SP, SZ, ↓reduceIte, reduceCtorEq, nE, nA, nL, nT]
  refine hK _ _ ?_
  clear hK K
  refine wpT_beginRound (id := 2) (by simp only [↓SP, SZ, ↓reduceIte, reduceCtorEq, nE, nA, nL, nT, q4]; rfl) ?_
  refine wpT_block ?_
  refine wpT_region (by kernel_rfl) (fun K hK => ?_)
  simp only [↓SP, SZ, ↓reduceIte, reduceCtorEq, nE, nA, nL, nT, e2, q2, q3, n0, n1, n2, n0', n1', n2', m1, m2]
  refine hK _ _ ?_
  clear hK K
  refine wpT_inBlock ?_
  refine wpT_end ?_
  refine ⟨by simp only [↓SP, SZ, ↓reduceIte, reduceCtorEq, nE, nA, nL, nT, q4, n0, n1, n2, n0', n1', n2'], true, rfl, .inl ⟨rfl, done ++ [x], ?_, ?_, ?_, ?_, by simpa using q5⟩⟩
  · simp only [↓SP, SZ, ↓reduceIte, reduceCtorEq, nE, nA, nL, nT]
    omega
  · simp only [↓SP, SZ, ↓reduceIte, reduceCtorEq, nE, nA, nL, nT, n0, n1, n2, n0', n1', n2']
  · simp only [↓SP, SZ, ↓reduceIte, reduceCtorEq, nE, nA, nL, nT, n0, n1, n2, n0', n1', n2', List.map_append]
  · simp only [↓SP, SZ, ↓reduceIte, reduceCtorEq, nE, nA, nL, nT, n0, n1, n2, n0', n1', n2']
 rintro _ h2 (hI | hJ)
 rotate_left
 · exact hJ.elim
 ·
  obtain ⟨done, q1, q2, q3, q4, q5⟩ := hI
  refine ⟨.ready, none, q4, by simp, ?_⟩
  simp only [Option.map_none, Option.toList_none, List.nil_append]
  refine wpT_inBlock ?_
  refine wpT_seq ?_
  refine wpT_region (by kernel_rfl) (fun K hK => ?_)
  simp only [↓SP, SZ, ↓reduceIte, reduceCtorEq, nE, nA, nL, nT, e2, q2]
  refine hK _ _ ?_
  clear hK K
  refine wpT_ret ⟨.inr rfl, ?_⟩
  show optK (resA _ _ _ [.tmp 4]) _
  simp only [SRO, ↓SP, SZ, ↓reduceIte, reduceCtorEq, nE, nA, nL, nT]
  rw [List.append_nil] at q5
  subst q5
  exact Lend.sl0 (E := 3) (s := 1) (by simp only [↓SP, SZ, ↓reduceIte, reduceCtorEq, nE, nA, nL, nT, q3]) (by simp) (int_okc _)
theorem c81 (f : FuncId) (fn : Func) (c : Code) (hf : Tryz.prog.funcs[f]? = some fn) (hb : fn.body = some c) (hname : (fn.name == "runtime.NumGoroutine") = false) (caps : List AV) (hcaps : ∀ x ∈ caps, Idf x) (xs : List Int) (hx : xs.length < 4000000)
    (hs : ∀ (yv : AV) (In : List Int → Hp → Prop) (J : Hp → Prop) (h : Hp), In xs h → (∀ x ys h', In (x :: ys) h' → CallV Tryz.prog yv [I x] h' fun v h'' => ∃ b, v = .bool b ∧ ((b = true ∧ In ys h'') ∨ (b = false ∧ J h''))) → CallV Tryz.prog (.fn (.func f) [] caps) [yv] h fun _ h' => In [] h' ∨ J h') : Pu Tryz.prog (.fn (.func 81) [] []) [.fn (.func f) [] caps] (.lst (xs.map I)) := by
 refine pu_func Tryz.func81 rfl (by kernel_rfl) (by show _ ≤ 5; simp only [List.length_append, List.length_cons, List.length_nil]; decide) (by simp only [IDF, implies_true]) (by simp only [IDF, and_tt, implies_true]) (by simp only [IDF, and_tt, implies_true]; simpa only [and_true, true_and] using hcaps) ?_
 rw [Tryz.ntmps81]
 refine wpT_seq ?_
 refine wpT_region (by kernel_rfl) (fun K hK => ?_)
 simp only [↓SP, SZ, ↓reduceIte, reduceCtorEq, nE, nA, nL, nT]
 refine hK _ _ ?_
 clear hK K
 refine wpT_seq ?_
 refine wpT_region (by kernel_rfl) (fun K hK => ?_)
 simp only [↓SP, SZ, ↓reduceIte, reduceCtorEq, nE, nA, nL, nT]
 refine Pu.call (c97 f fn c hf hb hname caps hcaps xs hx hs) ?_
 simp only [↓SP, SZ, ↓reduceIte, reduceCtorEq, nE, nA, nL, nT]
 refine hK _ _ ?_
 clear hK K
 refine wpT_ret ⟨.inr rfl, ?_⟩
 show optK (resA _ _ _ [.tmp 2]) _
 simp only [SRO, ↓SP, SZ, ↓reduceIte, reduceCtorEq, nE, nA, nL, nT]
 exact .refl _
theorem c55 (ms : List Bool) (hl : ms.length < 4000000) : Pu Tryz.prog (.fn (.func 55) [] []) [.lst (ms.map B)] (.lst ((memF 0 ms).map I)) := by
 have hll : (memF 0 ms).length < 4000000 := by
   rw [memF_eq]
   exact Nat.lt_of_le_of_lt (selN_length _ _) hl
 refine pu_func Tryz.func55 rfl (by kernel_rfl) (by show _ ≤ 6; simp only [List.length_append, List.length_cons, List.length_nil]; decide) (by simp only [IDF, implies_true]) (by simp only [IDF, and_tt, implies_true]) (by simp only [IDF, and_tt, implies_true]) ?_
 rw [Tryz.ntmps55]
 refine wpT_seq ?_
 refine wpT_region (by kernel_rfl) (fun K hK => ?_)
 simp only [↓SP, SZ, ↓reduceIte, reduceCtorEq, nE, nA, nL, nT]
 refine hK _ _ ?_
 clear hK K
 refine wpT_seq ?_
 refine wpT_region (by kernel_rfl) (fun K hK => ?_)
 simp only [↓SP, SZ, ↓reduceIte, reduceCtorEq, nE, nA, nL, nT]
 refine Pu.call (c53 ms) ?_
 simp only [↓SP, SZ, ↓reduceIte, reduceCtorEq, nE, nA, nL, nT]
 refine Pu.call (c81 _ _ _ Tryz.func80 rfl (by kernel_rfl) [.cptr (.lst (ms.map B))] (by simp only [IDF, and_tt, implies_true]) (memF 0 ms) hll (fun yv In J h h0 hy => c80 ms hl yv In J h h0 (fun x ys h' hI _ => hy x ys h' hI))) ?_
 simp only [↓SP, SZ, ↓reduceIte, reduceCtorEq, nE, nA, nL, nT]
 refine hK _ _ ?_
 clear hK K
 refine wpT_ret ⟨.inr rfl, ?_⟩
 show optK (resA _ _ _ [.tmp 2]) _
 simp only [SRO, ↓SP, SZ, ↓reduceIte, reduceCtorEq, nE, nA, nL, nT]
 exact .refl _
theorem cloneMn : NewV Tryz.prog (.fn (.func 52) [] []) [.lst []] 4 1 [] := by
 refine callV_func Tryz.func52 rfl (by kernel_rfl) (by show _ ≤ 8; simp only [List.length_append, List.length_cons, List.length_nil]; decide) ?_
 rw [Tryz.ntmps52]
 refine wpT_seq ?_
 refine wpT_region (by kernel_rfl) (fun K hK => ?_)
 simp only [↓SP, SZ, ↓reduceIte, reduceCtorEq, nE, nA, nL, nT]
 refine hK _ _ ?_
 clear hK K
 refine wpT_seq ?_
 refine wpT_seq ?_
 refine wpT_isnil (xs := []) rfl sle105 (by decide) (fun b hb => ?_)
 refine wpT_if (by rfl) (fun hc4 => ?_) (fun hc4 => ?_)
 ·
  have p4 := hc4
  try simp only [PB] at p4
  refine wpT_seq ?_
  refine wpT_region (by kernel_rfl) (fun K hK => ?_)
  simp only [↓SP, SZ, ↓reduceIte, reduceCtorEq, nE, nA, nL, nT, hc4]
  refine hK _ _ ?_
  clear hK K
  refine wpT_nilown 2 4 1 (by simp only [↓SP, SZ, ↓reduceIte, reduceCtorEq, nE, nA, nL, nT]) ?_
  refine wpT_ret ⟨.inr rfl, ?_⟩
  show optK (resA _ _ _ [.tmp 2]) _
  simp only [SRO, ↓SP, SZ, ↓reduceIte, reduceCtorEq, nE, nA, nL, nT, hc4]
  exact ⟨0, rfl, rfl⟩
 ·
  have p4 := hc4
  try simp only [PB] at p4
  refine wpT_skip ?_
  refine wpT_seq ?_
  refine wpT_region (by kernel_rfl) (fun K hK => ?_)
  simp only [↓SP, SZ, ↓reduceIte, reduceCtorEq, nE, nA, nL, nT, hc4]
  refine hK _ _ ?_
  clear hK K
  refine wpT_nilown 2 4 1 (by simp only [↓SP, SZ, ↓reduceIte, reduceCtorEq, nE, nA, nL, nT]) ?_
  refine wpT_ret ⟨.inr rfl, ?_⟩
  show optK (resA _ _ _ [.tmp 2]) _
  simp only [SRO, ↓SP, SZ, ↓reduceIte, reduceCtorEq, nE, nA, nL, nT, hc4]
  exact ⟨0, rfl, rfl⟩
theorem cloneMc (y : Bool) (ys : List Bool) (hl : (y :: ys).length < 4000000000) : NewV Tryz.prog (.fn (.func 52) [] []) [.lst ((y :: ys).map B)] 4 1 ((y :: ys).map B) := by
 refine callV_func Tryz.func52 rfl (by kernel_rfl) (by show _ ≤ 8; simp only [List.length_append, List.length_cons, List.length_nil]; decide) ?_
 have q0 : ∀ v ∈ (B y :: ys.map B), v.cells.length = 1 := by
   intro v hv
   rcases List.mem_cons.1 hv with rfl | hv
   · rfl
   · obtain ⟨a, _, rfl⟩ := List.mem_map.1 hv
     rfl
 have q1 : ys.length + 1 ≤ maxLen := by simp only [maxLen]; simp only [List.length_cons] at hl; omega
 have q2 : (ys.length + 1) * 1 ≤ 140737488355328 := by simp only [List.length_cons] at hl; omega
 rw [Tryz.ntmps52]
 refine wpT_seq ?_
 refine wpT_region (by kernel_rfl) (fun K hK => ?_)
 simp only [↓SP, SZ, ↓reduceIte, reduceCtorEq, nE, nA, nL, nT]
 refine hK _ _ ?_
 clear hK K
 refine wpT_seq ?_
 refine wpT_seq ?_
 refine wpT_isnil (xs := (y :: ys).map B) rfl sle105 (by decide) (fun b hb => ?_)
 obtain rfl := hb (by simp)
 refine wpT_if (by rfl) (fun hc4 => ?_) (fun hc4 => ?_)
 ·
  have p4 := hc4
  try simp only [PB] at p4
  simp at p4
 ·
  have p4 := hc4
  try simp only [PB] at p4
  refine wpT_skip ?_
  refine wpT_seq ?_
  refine wpT_region (by kernel_rfl) (fun K hK => ?_)
  simp only [↓SP, SZ, ↓reduceIte, reduceCtorEq, nE, nA, nL, nT, apO_nil0 q0, q1, q2, cells_bool, hc4]
  refine hK _ _ ?_
  clear hK K
  refine wpT_ret ⟨.inr rfl, ?_⟩
  show optK (resA _ _ _ [.tmp 2]) _
  simp only [SRO, ↓SP, SZ, ↓reduceIte, reduceCtorEq, nE, nA, nL, nT, hc4]
  exact ⟨0, by simp, rfl⟩
theorem cloneM (ms : List Bool) (hl : ms.length < 4000000000) : Nu Tryz.prog (.fn (.func 52) [] []) [.lst (ms.map B)] 4 1 (ms.map B) := by
  refine ⟨?_, by simp only [IDF, implies_true], by simp only [IDF, and_tt], by simp only [IDF, and_tt, implies_true]⟩
  cases ms with
  | nil => exact cloneMn
  | cons y ys => exact cloneMc y ys hl
theorem markL_nil (n : Nat) : markL n [] = List.replicate n false := by
  refine List.ext_getElem? fun i => ?_
  by_cases h : i < n
  · rw [markL_at h, List.getElem?_replicate, if_pos h]; simp
  · rw [List.getElem?_eq_none (by simp [markL]; omega), List.getElem?_eq_none (by simp; omega)]
theorem markL_snoc {n k : Nat} {l : List Int} (h : k < n) : markL n (l ++ [(k : Int)]) = (markL n l).set k true := by
  refine List.ext_getElem? fun i => ?_
  rw [List.getElem?_set, markL_length]
  by_cases hi : i < n
  · rw [markL_at hi]
    by_cases hk : k = i
    · subst hk; simp [hi]
    · rw [if_neg hk, markL_at hi]
      have : ¬ (i : Int) = k := by omega
      simp [this]
  · rw [List.getElem?_eq_none (by simp [markL]; omega)]
    rw [if_neg (by omega), List.getElem?_eq_none (by simp [markL]; omega)]
theorem c76 (n : Nat) (never : Int) (iss ack : List Int) (l : List Int) (hn : n < 4000000) (hl : l.length < 4611686018427387904) : Pu Tryz.prog (.fn (.func 76) [] []) [relAV n never iss ack, .lst (l.map I)] (.tup [.lst ((if setP n (-1) l = true then markL n l else []).map B), B (setP n (-1) l)]) := by
 refine pu_func Tryz.func76 rfl (by kernel_rfl) (by show _ ≤ 49; simp only [List.length_append, List.length_cons, List.length_nil]; decide) (by simp only [IDF, and_tt, implies_true]) (by simp only [IDF, and_tt, implies_true]) (by simp only [IDF, rel_idf, and_tt, implies_true]) ?_
 rw [Tryz.ntmps76]
 refine wpT_seq ?_
 refine wpT_region (by kernel_rfl) (fun K hK => ?_)
 simp only [↓SP, SZ, ↓reduceIte, reduceCtorEq, nE, nA, nL, nT, relAV]
 refine hK _ _ ?_
 clear hK K
 refine wpT_seq ?_
 refine wpT_region (by kernel_rfl) (fun K hK => ?_)
 simp only [↓SP, SZ, ↓reduceIte, reduceCtorEq, nE, nA, nL, nT, relAV, msO_ok 1 n n (by omega) (Int.le_refl _) (by omega) (by omega), Int.toNat_natCast]
 refine hK _ _ ?_
 clear hK K
 refine wpT_seq ?_
 refine wpT_seq ?_
 refine wpT_region (by kernel_rfl) (fun K hK => ?_)
 simp only [↓SP, SZ, ↓reduceIte, reduceCtorEq, nE, nA, nL, nT, relAV]
 refine hK _ _ ?_
 clear hK K
 refine wpT_block ?_
 refine wpT_loop ?_
 refine wpT_keep1 (i := 0) (o := .arr 4 1 ((markL n []).map B)) (by simp only [↓SP, SZ, ↓reduceIte, reduceCtorEq, nE, nA, nL, nT, markL_nil, List.map_replicate]) ?_
 refine wpT_ind (fun (i : Nat) tm' h' => (∃ m, h' = Hp.of [(0, .arr 4 1 ((markL n (l.take i)).map B))] (m + 1)) ∧ tm' 0 = relAV n never iss ack ∧ tm' 1 = .lst (l.map I) ∧ tm' 6 = .sl 0 n 0 n ∧ tm' 14 = .lst (l.map I) ∧ tm' 15 = I l.length ∧ tm' 16 = I i ∧ i ≤ l.length ∧ setP n (prevI l i) (l.drop i) = setP n (-1) l) (fun i => l.length - i) ?_ 0 ⟨⟨0, rfl⟩, rfl, rfl, rfl, rfl, rfl, rfl, by omega, rfl⟩
 rintro i tm' _ ⟨⟨m, rfl⟩, e0, e1, e6, e14, e15, e16, hi, hx⟩ IH
 refine wpT_inLoop ?_
 refine wpT_seq ?_
 refine wpT_region (by kernel_rfl) (fun K hK => ?_)
 simp only [↓SP, SZ, ↓reduceIte, reduceCtorEq, nE, nA, nL, nT, relAV, e15, e16]
 refine hK _ _ ?_
 clear hK K
 refine wpT_seq ?_
 refine wpT_if (by rfl) (fun hc17 => ?_) (fun hc17 => ?_)
 ·
  have p17 := hc17
  try simp only [PB] at p17
  have hlt : i < l.length := by omega
  have hg := at_map (f := I) hlt
  rw [List.drop_eq_getElem_cons hlt, setP] at hx
  refine wpT_skip ?_
  refine wpT_seq ?_
  refine wpT_block ?_
  refine wpT_seq ?_
  refine wpT_region (by kernel_rfl) (fun K hK => ?_)
  simp only [↓SP, SZ, ↓reduceIte, reduceCtorEq, nE, nA, nL, nT, relAV, e14, e16, hg, hc17]
  refine hK _ _ ?_
  clear hK K
  refine wpT_seq ?_
  refine wpT_seq ?_
  refine wpT_region (by kernel_rfl) (fun K hK => ?_)
  simp only [↓SP, SZ, ↓reduceIte, reduceCtorEq, nE, nA, nL, nT, relAV, e0, e1, hc17]
  refine guardO_split (fun hg23 => ?_) (fun hg23 => ?_)
  ·
   have p23 := hg23
   try simp only [PB] at p23
   simp only [↓SP, SZ, ↓reduceIte, reduceCtorEq, nE, nA, nL, nT, relAV, e0, e1, hc17, hg23]
   refine guardO_split (fun hg31 => ?_) (fun hg31 => ?_)
   ·
    have p31 := hg31
    try simp only [PB] at p31
    simp only [↓SP, SZ, ↓reduceIte, reduceCtorEq, nE, nA, nL, nT, relAV, e0, e1, hc17, hg23, hg31]
    refine guardO_split (fun hg34 => ?_) (fun hg34 => ?_)
    ·
     have p34 := hg34
     try simp only [PB] at p34
     have h0 : 0 < i := by omega
     obtain ⟨hlt1, hp⟩ := prevI_at hi h0
     have hg1 := at_map (f := I) hlt1
     have hw1 : IntKind.i64.wrap ((i : Int) - 1) = ((i - 1 : Nat) : Int) := by rw [wrap64 (by omega) (by omega)]; omega
     simp only [↓SP, SZ, ↓reduceIte, reduceCtorEq, nE, nA, nL, nT, relAV, e0, e1, hc17, hg23, hg31, hw1, hg1, hg34]
     refine hK _ _ ?_
     clear hK K
     refine wpT_if (by rfl) (fun hc43 => ?_) (fun hc43 => ?_)
     ·
      have p43 := hc43
      try simp only [PB] at p43
      refine wpT_seq ?_
      refine wpT_region (by kernel_rfl) (fun K hK => ?_)
      simp only [↓SP, SZ, ↓reduceIte, reduceCtorEq, nE, nA, nL, nT, relAV, hc17, hg23, hg31, hw1, hg1, hg34, hc43]
      refine hK _ _ ?_
      clear hK K
      refine wpT_ret ⟨.inr rfl, ?_⟩
      show optK (resA _ _ _ [.tmp 4, .tmp 5]) _
      simp only [SRO, ↓SP, SZ, ↓reduceIte, reduceCtorEq, nE, nA, nL, nT, relAV, hc17, hg23, hg31, hw1, hg1, hg34, hc43]
      rw [if_pos (by omega)] at hx
      rw [← hx]
      exact Lend.tupL (LendL.cons .nil0 (LendL.cons (.refl _) LendL.nil))
     ·
      have p43 := hc43
      try simp only [PB] at p43
      rw [if_neg (by omega), ← prevI_succ hlt] at hx
      obtain ⟨k, hk⟩ := Int.eq_ofNat_of_zero_le (a := l[i]) (by omega)
      have hkn : k < n := by omega
      have hml : (markL n (l.take i)).length = n := markL_length _ _
      have hgm := at_map (f := B) (xs := markL n (l.take i)) (i := k) (by omega)
      have hz0 : (0 : Int) ≤ (k : Int) := by omega
      have hz1 : (k : Int) < (n : Int) := by omega
      have hms : markL n (l.take (i + 1)) = (markL n (l.take i)).set k true := by
        rw [List.take_add_one, List.getElem?_eq_getElem hlt, Option.toList_some, hk, markL_snoc hkn]
      refine wpT_skip ?_
      refine wpT_region (by kernel_rfl) (fun K hK => ?_)
      simp only [↓SP, SZ, ↓reduceIte, reduceCtorEq, nE, nA, nL, nT, relAV, e6, hk, hml, hgm, hz0, hz1, Int.toNat_natCast, stO_arr, Option.bind_some, hc17, hg23, hg31, hw1, hg1, hg34, hc43]
      refine hK _ _ ?_
      clear hK K
      refine wpT_inBlock ?_
      refine wpT_region (by kernel_rfl) (fun K hK => ?_)
      simp only [↓SP, SZ, ↓reduceIte, reduceCtorEq, nE, nA, nL, nT, relAV, e16, wrap64 (x := (i : Int) + 1) (by omega) (by omega), hc17, hg23, hg31, hw1, hg1, hg34, hc43]
      refine hK _ _ ?_
      clear hK K
      refine wpT_keep1 (i := 0) (o := .arr 4 1 ((markL n (l.take (i + 1))).map B)) (by simp only [↓SP, SZ, ↓reduceIte, reduceCtorEq, nE, nA, nL, nT, hms, List.map_set]) ?_
      refine IH (i + 1) _ _ (by omega) ⟨⟨_, rfl⟩, by simp only [↓SP, SZ, ↓reduceIte, reduceCtorEq, nE, nA, nL, nT, e0], by simp only [↓SP, SZ, ↓reduceIte, reduceCtorEq, nE, nA, nL, nT, e1], by simp only [↓SP, SZ, ↓reduceIte, reduceCtorEq, nE, nA, nL, nT, e6], by simp only [↓SP, SZ, ↓reduceIte, reduceCtorEq, nE, nA, nL, nT, e14], by simp only [↓SP, SZ, ↓reduceIte, reduceCtorEq, nE, nA, nL, nT, e15], by simp only [↓SP, SZ, ↓reduceIte, reduceCtorEq, nE, nA, nL, nT, Int.natCast_add, Int.cast_ofNat_Int], by omega, hx⟩
    ·
     simp only [Bool.not_true, Bool.not_false] at hg34
     have p34 := hg34
     try simp only [PB] at p34
     have hi0 : i = 0 := by omega
     have hp : prevI l i = -1 := if_pos hi0
     simp only [↓SP, SZ, ↓reduceIte, reduceCtorEq, nE, nA, nL, nT, relAV, e0, e1, hc17, hg23, hg31, hg34]
     refine hK _ _ ?_
     clear hK K
     refine wpT_ifF (by simp only [↓SP, SZ, ↓reduceIte, reduceCtorEq, nE, nA, nL, nT, relAV, hc17, hg23, hg31, hg34]) ?_
     rw [if_neg (by omega), ← prevI_succ hlt] at hx
     obtain ⟨k, hk⟩ := Int.eq_ofNat_of_zero_le (a := l[i]) (by omega)
     have hkn : k < n := by omega
     have hml : (markL n (l.take i)).length = n := markL_length _ _
     have hgm := at_map (f := B) (xs := markL n (l.take i)) (i := k) (by omega)
     have hz0 : (0 : Int) ≤ (k : Int) := by omega
     have hz1 : (k : Int) < (n : Int) := by omega
     have hms : markL n (l.take (i + 1)) = (markL n (l.take i)).set k true := by
       rw [List.take_add_one, List.getElem?_eq_getElem hlt, Option.toList_some, hk, markL_snoc hkn]
     refine wpT_skip ?_
     refine wpT_region (by kernel_rfl) (fun K hK => ?_)
     simp only [↓SP, SZ, ↓reduceIte, reduceCtorEq, nE, nA, nL, nT, relAV, e6, hk, hml, hgm, hz0, hz1, Int.toNat_natCast, stO_arr, Option.bind_some, hc17, hg23, hg31, hg34]
     refine hK _ _ ?_
     clear hK K
     refine wpT_inBlock ?_
     refine wpT_region (by kernel_rfl) (fun K hK => ?_)
     simp only [↓SP, SZ, ↓reduceIte, reduceCtorEq, nE, nA, nL, nT, relAV, e16, wrap64 (x := (i : Int) + 1) (by omega) (by omega), hc17, hg23, hg31, hg34]
     refine hK _ _ ?_
     clear hK K
     refine wpT_keep1 (i := 0) (o := .arr 4 1 ((markL n (l.take (i + 1))).map B)) (by simp only [↓SP, SZ, ↓reduceIte, reduceCtorEq, nE, nA, nL, nT, hms, List.map_set]) ?_
     refine IH (i + 1) _ _ (by omega) ⟨⟨_, rfl⟩, by simp only [↓SP, SZ, ↓reduceIte, reduceCtorEq, nE, nA, nL, nT, e0], by simp only [↓SP, SZ, ↓reduceIte, reduceCtorEq, nE, nA, nL, nT, e1], by simp only [↓SP, SZ, ↓reduceIte, reduceCtorEq, nE, nA, nL, nT, e6], by simp only [↓SP, SZ, ↓reduceIte, reduceCtorEq, nE, nA, nL, nT, e14], by simp only [↓SP, SZ, ↓reduceIte, reduceCtorEq, nE, nA, nL, nT, e15], by simp only [↓SP, SZ, ↓reduceIte, reduceCtorEq, nE, nA, nL, nT, Int.natCast_add, Int.cast_ofNat_Int], by omega, hx⟩
   ·
    simp only [Bool.not_true, Bool.not_false] at hg31
    have p31 := hg31
    try simp only [PB] at p31
    simp only [↓SP, SZ, ↓reduceIte, reduceCtorEq, nE, nA, nL, nT, relAV, e0, e1, hc17, hg23, hg31]
    refine hK _ _ ?_
    clear hK K
    refine wpT_ifT (by simp only [↓SP, SZ, ↓reduceIte, reduceCtorEq, nE, nA, nL, nT, relAV, hc17, hg23, hg31]) ?_
    refine wpT_seq ?_
    refine wpT_region (by kernel_rfl) (fun K hK => ?_)
    simp only [↓SP, SZ, ↓reduceIte, reduceCtorEq, nE, nA, nL, nT, relAV, hc17, hg23, hg31]
    refine hK _ _ ?_
    clear hK K
    refine wpT_ret ⟨.inr rfl, ?_⟩
    show optK (resA _ _ _ [.tmp 4, .tmp 5]) _
    simp only [SRO, ↓SP, SZ, ↓reduceIte, reduceCtorEq, nE, nA, nL, nT, relAV, hc17, hg23, hg31]
    rw [if_pos (by omega)] at hx
    rw [← hx]
    exact Lend.tupL (LendL.cons .nil0 (LendL.cons (.refl _) LendL.nil))
  ·
   simp only [Bool.not_true, Bool.not_false] at hg23
   have p23 := hg23
   try simp only [PB] at p23
   simp only [↓SP, SZ, ↓reduceIte, reduceCtorEq, nE, nA, nL, nT, relAV, e0, e1, hc17, hg23]
   refine hK _ _ ?_
   clear hK K
   refine wpT_ifT (by simp only [↓SP, SZ, ↓reduceIte, reduceCtorEq, nE, nA, nL, nT, relAV, hc17, hg23]) ?_
   refine wpT_seq ?_
   refine wpT_region (by kernel_rfl) (fun K hK => ?_)
   simp only [↓SP, SZ, ↓reduceIte, reduceCtorEq, nE, nA, nL, nT, relAV, hc17, hg23]
   refine hK _ _ ?_
   clear hK K
   refine wpT_ret ⟨.inr rfl, ?_⟩
   show optK (resA _ _ _ [.tmp 4, .tmp 5]) _
   simp only [SRO, ↓SP, SZ, ↓reduceIte, reduceCtorEq, nE, nA, nL, nT, relAV, hc17, hg23]
   rw [if_pos (by omega)] at hx
   rw [← hx]
   exact Lend.tupL (LendL.cons .nil0 (LendL.cons (.refl _) LendL.nil))
 ·
  have p17 := hc17
  try simp only [PB] at p17
  rw [List.drop_eq_nil_of_le (by omega), setP] at hx
  rw [List.take_of_length_le (by omega)]
  refine wpT_exit rfl ?_
  refine wpT_seq ?_
  refine wpT_region (by kernel_rfl) (fun K hK => ?_)
  simp only [↓SP, SZ, ↓reduceIte, reduceCtorEq, nE, nA, nL, nT, relAV, e6, hc17]
  refine hK _ _ ?_
  clear hK K
  refine wpT_ret ⟨.inr rfl, ?_⟩
  show optK (resA _ _ _ [.tmp 4, .tmp 5]) _
  simp only [SRO, ↓SP, SZ, ↓reduceIte, reduceCtorEq, nE, nA, nL, nT, relAV, hc17]
  rw [← hx]
  exact Lend.tupL (LendL.cons (Lend.sl0 (E := 4) (s := 1) (by simp only [↓SP, SZ, ↓reduceIte, reduceCtorEq, nE, nA, nL, nT]) (by simp [markL]) (bool_okc _)) (LendL.cons (.refl _) LendL.nil))
end Go.Proofs.YtfdfkmcplhloaaaGreat
end

section
set_option linter.unusedSimpArgs false
set_option linter.unusedVariables false
namespace Go.Proofs.YtfdfkmcplhloaaaGreat
open Go.Proofs
open Nat renaming reduceEqDiff → nE, reduceAdd → nA, reduceLeDiff → nL, reduceLT → nT
set_option maxRecDepth 10000
def lstsAV (ls : List (List Int)) : AV := .lst (ls.map fun l => .lst (l.map I))
def marksAV (ms : List (List Bool)) : AV := .lst (ms.map fun m => .lst (m.map B))
theorem lsts_idf (ls : List (List Int)) : Idf (lstsAV ls) = True := eq_true (by simp only [lstsAV, IDF, implies_true])
theorem marks_idf (ms : List (List Bool)) : Idf (marksAV ms) = True := eq_true (by simp only [marksAV, IDF, implies_true])
def setsE (h : Hist) (ls : List (List Int)) : Int := if histE h ≠ 0 then histE h else if (ls.all fun l => setP h.ws.length (-1) l) = true then 0 else 2
def setsR (h : Hist) (ls : List (List Int)) : AV := if setsE h ls ≠ 0 then .nilp else relAV h.ws.length h.evs.length (relL h).1 (relL h).2
def setsM (h : Hist) (ls : List (List Int)) : List (List Bool) := if setsE h ls ≠ 0 then [] else ls.map fun l => markL h.ws.length l
theorem setsR_idf (h : Hist) (ls : List (List Int)) : Idf (setsR h ls) = True := eq_true (by unfold setsR; split <;> simp only [IDF, rel_idf])
theorem setsR_cells (h : Hist) (ls : List (List Int)) : (setsR h ls).cells = [setsR h ls] ∧ (setsR h ls).okc = true ∧ (setsR h ls).isAgg = false := by unfold setsR; split <;> exact ⟨rfl, rfl, rfl⟩
theorem relRes_cells (h : Hist) : (relRes h).cells = [relRes h] ∧ (relRes h).okc = true ∧ (relRes h).isAgg = false := by unfold relRes; split <;> exact ⟨rfl, rfl, rfl⟩
theorem setsF (h : Hist) (ls : List (List Int)) (hs : h.sm) (hn : ls.length < 4000000) (hl : ∀ l ∈ ls, l.length < 4000000) : Pu Tryz.prog (.fn (.func 51) [] []) [h.av, .bool false, lstsAV ls] (.tup [setsR h ls, marksAV (setsM h ls), I (setsE h ls)]) := by
 refine pu_func Tryz.func51 rfl (by kernel_rfl) (by show _ ≤ 51; simp only [List.length_append, List.length_cons, List.length_nil]; decide) (by simp only [IDF, setsR_idf, marks_idf, and_tt]) (by simp only [IDF, and_tt, implies_true]) (by simp only [IDF, hist_idf, lsts_idf, and_tt, implies_true]) ?_
 have hw := hs.2.1
 obtain ⟨rc1, rc2, rc3⟩ := relRes_cells h
 rw [Tryz.ntmps51]
 refine wpT_seq ?_
 refine wpT_region (by kernel_rfl) (fun K hK => ?_)
 simp only [↓SP, SZ, ↓reduceIte, reduceCtorEq, nE, nA, nL, nT, rc1, rc2, rc3]
 refine hK _ _ ?_
 clear hK K
 refine wpT_seq ?_
 refine wpT_region (by kernel_rfl) (fun K hK => ?_)
 simp only [↓SP, SZ, ↓reduceIte, reduceCtorEq, nE, nA, nL, nT, rc1, rc2, rc3]
 refine Pu.call (c75 h hs) ?_
 simp only [↓SP, SZ, ↓reduceIte, reduceCtorEq, nE, nA, nL, nT, rc1, rc2, rc3]
 refine hK _ _ ?_
 clear hK K
 refine wpT_seq ?_
 refine wpT_seq ?_
 refine wpT_region (by kernel_rfl) (fun K hK => ?_)
 simp only [↓SP, SZ, ↓reduceIte, reduceCtorEq, nE, nA, nL, nT, rc1, rc2, rc3]
 refine hK _ _ ?_
 clear hK K
 refine wpT_if (by rfl) (fun hc22 => ?_) (fun hc22 => ?_)
 ·
  have p22 := hc22
  try simp only [PB] at p22
  have hx : setsE h ls = histE h := if_pos p22
  have hx1 : setsR h ls = .nilp := if_pos (by omega)
  have hx2 : setsM h ls = [] := if_pos (by omega)
  refine wpT_seq ?_
  refine wpT_region (by kernel_rfl) (fun K hK => ?_)
  simp only [↓SP, SZ, ↓reduceIte, reduceCtorEq, nE, nA, nL, nT, rc1, rc2, rc3, hc22]
  refine hK _ _ ?_
  clear hK K
  refine wpT_ret ⟨.inr rfl, ?_⟩
  show optK (resA _ _ _ [.tmp 6, .tmp 7, .tmp 8]) _
  simp only [SRO, ↓SP, SZ, ↓reduceIte, reduceCtorEq, nE, nA, nL, nT, rc1, rc2, rc3, hc22]
  rw [hx1, hx2, hx]
  exact Lend.tupL (LendL.cons (.refl _) (LendL.cons .nil0 (LendL.cons (.refl _) LendL.nil)))
 ·
  have p22 := hc22
  try simp only [PB] at p22
  have e0 : histE h = 0 := by simpa using p22
  have hr : relRes h = relAV h.ws.length h.evs.length (relL h).1 (relL h).2 := if_neg (by omega)
  have hx0 : setsE h ls = if (ls.all fun l => setP h.ws.length (-1) l) = true then 0 else 2 := if_neg (by omega)
  refine wpT_skip ?_
  refine wpT_seq ?_
  refine wpT_region (by kernel_rfl) (fun K hK => ?_)
  simp only [↓SP, SZ, ↓reduceIte, reduceCtorEq, nE, nA, nL, nT, rc1, rc2, rc3, hc22]
  refine hK _ _ ?_
  clear hK K
  refine wpT_seq ?_
  refine wpT_seq ?_
  refine wpT_region (by kernel_rfl) (fun K hK => ?_)
  simp only [↓SP, SZ, ↓reduceIte, reduceCtorEq, nE, nA, nL, nT, rc1, rc2, rc3, lstsAV, hc22]
  refine hK _ _ ?_
  clear hK K
  refine wpT_block ?_
  refine wpT_loop ?_
  refine wpT_nilown 11 105 1 (by simp only [↓SP, SZ, ↓reduceIte, reduceCtorEq, nE, nA, nL, nT]) ?_
  refine wpT_keep2 (i := 1) (j := 2) (o := .arr 101 1 [relAV h.ws.length h.evs.length (relL h).1 (relL h).2]) (q := .arr 105 1 []) (by simp only [↓SP, SZ, ↓reduceIte, reduceCtorEq, nE, nA, nL, nT, rc1, rc2, rc3, hr]) (by simp only [↓SP, SZ, ↓reduceIte, reduceCtorEq, nE, nA, nL, nT, rc1, rc2, rc3, hr]) ?_
  refine wpT_ind (fun (i : Nat) tm' h' => (∃ m, h' = Hp.of [(1, .arr 101 1 [relAV h.ws.length h.evs.length (relL h).1 (relL h).2]), (2, .arr 105 1 ((ls.take i).map fun l => .lst ((markL h.ws.length l).map B)))] (m + 3)) ∧ tm' 1 = .bool false ∧ tm' 9 = .ptr 1 1 0 0 ∧ tm' 11 = .sl 2 i 0 i ∧ tm' 24 = lstsAV ls ∧ tm' 25 = I ls.length ∧ tm' 26 = I i ∧ i ≤ ls.length ∧ ((ls.drop i).all fun l => setP h.ws.length (-1) l) = (ls.all fun l => setP h.ws.length (-1) l)) (fun i => ls.length - i) ?_ 0 ⟨⟨0, rfl⟩, rfl, rfl, rfl, rfl, rfl, rfl, by omega, rfl⟩
  rintro i tm' _ ⟨⟨m, rfl⟩, e1, e9, e11, e24, e25, e26, hi, hx⟩ IH
  refine wpT_inLoop ?_
  refine wpT_seq ?_
  refine wpT_region (by kernel_rfl) (fun K hK => ?_)
  simp only [↓SP, SZ, ↓reduceIte, reduceCtorEq, nE, nA, nL, nT, rc1, rc2, rc3, e25, e26]
  refine hK _ _ ?_
  clear hK K
  refine wpT_seq ?_
  refine wpT_if (by rfl) (fun hc27 => ?_) (fun hc27 => ?_)
  ·
   have p27 := hc27
   try simp only [PB] at p27
   have hlt : i < ls.length := by omega
   have hg := at_map (f := fun l : List Int => AV.lst (l.map I)) hlt
   rw [List.drop_eq_getElem_cons hlt, List.all_cons] at hx
   have q1 : i + 1 ≤ maxLen := by simp only [maxLen]; omega
   have q2 : (i + 1) * 24 ≤ 140737488355328 := by omega
   have q4 : (ls.take (i + 1)).map (fun l => AV.lst ((markL h.ws.length l).map B)) = (ls.take i).map (fun l => AV.lst ((markL h.ws.length l).map B)) ++ [.lst ((markL h.ws.length ls[i]).map B)] := by rw [List.take_add_one, List.getElem?_eq_getElem hlt, List.map_append]; rfl
   refine wpT_skip ?_
   refine wpT_seq ?_
   refine wpT_block ?_
   refine wpT_seq ?_
   refine wpT_region (by kernel_rfl) (fun K hK => ?_)
   simp only [↓SP, SZ, ↓reduceIte, reduceCtorEq, nE, nA, nL, nT, rc1, rc2, rc3, e24, e26, lstsAV, hg, hc27]
   refine hK _ _ ?_
   clear hK K
   refine wpT_seq ?_
   refine wpT_region (by kernel_rfl) (fun K hK => ?_)
   simp only [↓SP, SZ, ↓reduceIte, reduceCtorEq, nE, nA, nL, nT, rc1, rc2, rc3, e9, relAV, hc27]
   refine Pu.call (c76 h.ws.length h.evs.length (relL h).1 (relL h).2 ls[i] (by omega) (by have := hl _ (List.getElem_mem hlt); omega)) ?_
   simp only [↓SP, SZ, ↓reduceIte, reduceCtorEq, nE, nA, nL, nT, rc1, rc2, rc3, e9, relAV, hc27]
   refine hK _ _ ?_
   clear hK K
   refine wpT_seq ?_
   refine wpT_seq ?_
   refine wpT_region (by kernel_rfl) (fun K hK => ?_)
   simp only [↓SP, SZ, ↓reduceIte, reduceCtorEq, nE, nA, nL, nT, rc1, rc2, rc3, hc27]
   refine hK _ _ ?_
   clear hK K
   refine wpT_if (by rfl) (fun hc37 => ?_) (fun hc37 => ?_)
   ·
    have p37 := hc37
    try simp only [PB] at p37
    rw [p37, Bool.false_and] at hx
    have hx3 : setsE h ls = 2 := by rw [hx0, ← hx]; rfl
    have hx1 : setsR h ls = .nilp := if_pos (by omega)
    have hx2 : setsM h ls = [] := if_pos (by omega)
    refine wpT_seq ?_
    refine wpT_region (by kernel_rfl) (fun K hK => ?_)
    simp only [↓SP, SZ, ↓reduceIte, reduceCtorEq, nE, nA, nL, nT, rc1, rc2, rc3, hc27, hc37]
    refine hK _ _ ?_
    clear hK K
    refine wpT_ret ⟨.inr rfl, ?_⟩
    show optK (resA _ _ _ [.tmp 6, .tmp 7, .tmp 8]) _
    simp only [SRO, ↓SP, SZ, ↓reduceIte, reduceCtorEq, nE, nA, nL, nT, rc1, rc2, rc3, hc27, hc37]
    rw [hx1, hx2, hx3]
    exact Lend.tupL (LendL.cons (.refl _) (LendL.cons .nil0 (LendL.cons (.refl _) LendL.nil)))
   ·
    have p37 := hc37
    try simp only [PB] at p37
    rw [p37, Bool.true_and] at hx
    refine wpT_skip ?_
    refine wpT_region (by kernel_rfl) (fun K hK => ?_)
    simp only [↓SP, SZ, ↓reduceIte, reduceCtorEq, nE, nA, nL, nT, rc1, rc2, rc3, e11, p37, q1, q2, List.length_take, Nat.min_eq_left hi, hc27, hc37]
    refine hK _ _ ?_
    clear hK K
    refine wpT_inBlock ?_
    refine wpT_region (by kernel_rfl) (fun K hK => ?_)
    simp only [↓SP, SZ, ↓reduceIte, reduceCtorEq, nE, nA, nL, nT, rc1, rc2, rc3, e26, wrap64 (x := (i : Int) + 1) (by omega) (by omega), hc27, hc37]
    refine hK _ _ ?_
    clear hK K
    refine wpT_keep2 (i := 1) (j := 2) (o := .arr 101 1 [relAV h.ws.length h.evs.length (relL h).1 (relL h).2]) (q := .arr 105 1 ((ls.take (i + 1)).map fun l => .lst ((markL h.ws.length l).map B))) (by simp only [↓SP, SZ, ↓reduceIte, reduceCtorEq, nE, nA, nL, nT, relAV]) (by simp only [↓SP, SZ, ↓reduceIte, reduceCtorEq, nE, nA, nL, nT, q4]) ?_
    refine IH (i + 1) _ _ (by omega) ⟨⟨_, rfl⟩, by simp only [↓SP, SZ, ↓reduceIte, reduceCtorEq, nE, nA, nL, nT, e1], by simp only [↓SP, SZ, ↓reduceIte, reduceCtorEq, nE, nA, nL, nT, e9], by simp only [↓SP, SZ, ↓reduceIte, reduceCtorEq, nE, nA, nL, nT], by simp only [↓SP, SZ, ↓reduceIte, reduceCtorEq, nE, nA, nL, nT, e24], by simp only [↓SP, SZ, ↓reduceIte, reduceCtorEq, nE, nA, nL, nT, e25], by simp only [↓SP, SZ, ↓reduceIte, reduceCtorEq, nE, nA, nL, nT, Int.natCast_add, Int.cast_ofNat_Int], by omega, hx⟩
  ·
   have p27 := hc27
   try simp only [PB] at p27
   rw [List.drop_eq_nil_of_le (by omega), List.all_nil] at hx
   rw [List.take_of_length_le (by omega)]
   have hx3 : setsE h ls = 0 := by rw [hx0, ← hx]; rfl
   have hx1 : setsR h ls = relAV h.ws.length h.evs.length (relL h).1 (relL h).2 := if_neg (by omega)
   have hx2 : setsM h ls = ls.map fun l => markL h.ws.length l := if_neg (by omega)
   refine wpT_exit rfl ?_
   refine wpT_seq ?_
   refine wpT_seq ?_
   refine wpT_region (by kernel_rfl) (fun K hK => ?_)
   simp only [↓SP, SZ, ↓reduceIte, reduceCtorEq, nE, nA, nL, nT, rc1, rc2, rc3, e1, hc27]
   refine hK _ _ ?_
   clear hK K
   refine wpT_ifF (by simp only [↓SP, SZ, ↓reduceIte, reduceCtorEq, nE, nA, nL, nT, rc1, rc2, rc3, hc27]) ?_
   refine wpT_skip ?_
   refine wpT_seq ?_
   refine wpT_region (by kernel_rfl) (fun K hK => ?_)
   simp only [↓SP, SZ, ↓reduceIte, reduceCtorEq, nE, nA, nL, nT, rc1, rc2, rc3, e9, e11, relAV, hc27]
   refine hK _ _ ?_
   clear hK K
   refine wpT_ret ⟨.inr rfl, ?_⟩
   show optK (resA _ _ _ [.tmp 6, .tmp 7, .tmp 8]) _
   simp only [SRO, ↓SP, SZ, ↓reduceIte, reduceCtorEq, nE, nA, nL, nT, rc1, rc2, rc3, hc27]
   rw [hx1, hx2, hx3]
   have hil : i = ls.length := by omega
   subst hil
   exact Lend.tupL (LendL.cons (.refl _) (LendL.cons (Lend.sl0 (E := 105) (s := 1) (by simp only [↓SP, SZ, ↓reduceIte, reduceCtorEq, nE, nA, nL, nT, List.map_map]; rfl) (by simp) (by simp [AV.okc])) (LendL.cons (.refl _) LendL.nil)))
end Go.Proofs.YtfdfkmcplhloaaaGreat
end

section
set_option linter.unusedSimpArgs false
set_option linter.unusedVariables false
namespace Go.Proofs.YtfdfkmcplhloaaaGreat
open Go.Proofs
open Nat renaming reduceEqDiff → nE, reduceAdd → nA, reduceLeDiff → nL, reduceLT → nT
/-- A sector of a volume with its content. -/
structure Ct where
  (vol sec : Int)
  dat : Sec
  deriving DecidableEq
def Ct.av (c : Ct) : AV := .agg [I c.vol, I c.sec, .int .u8 c.dat.a, .int .u8 c.dat.b, .int .u8 c.dat.c, .int .u8 c.dat.d, .int .u8 c.dat.e, .int .u8 c.dat.f, .int .u8 c.dat.g, .int .u8 c.dat.h]
def ctsW (v : Int) : Int → List Sec → List Ct
  | _, [] => []
  | k, s :: ss => ⟨v, k, s⟩ :: ctsW v (k + 1) ss
def Wr.cts (w : Wr) : List Ct := ctsW w.vol w.start w.data
/-- The contents of writes, with the numbers of the writes. -/
def ctsH : Nat → List Wr → List (Ct × Int)
  | _, [] => []
  | i, w :: ws => (w.cts.map fun c => (c, (i : Int))) ++ ctsH (i + 1) ws
/-- The contents of an image. -/
def imCts : Nat → List (List Sec) → List Ct
  | _, [] => []
  | v, l :: ls => ctsW v 0 l ++ imCts (v + 1) ls
def distGo : List (Ct × Int) → List (Ct × Int) → Bool
  | _, [] => true
  | m, (c, i) :: r => if assoc c m ≠ none ∨ c.dat = sec0 then false else distGo (m ++ [(c, i)]) r
def distB (h : Hist) : Bool := distGo [] (ctsH 0 h.ws)
theorem mem_ctsW {v : Int} : ∀ {k : Int} {l : List Sec} {c : Ct}, c ∈ ctsW v k l ↔ c.vol = v ∧ k ≤ c.sec ∧ l[(c.sec - k).toNat]? = some c.dat
  | k, [], c => by simp [ctsW]
  | k, s :: ss, c => by
    rw [ctsW, List.mem_cons, mem_ctsW]
    constructor
    · rintro (rfl | ⟨h1, h2, h3⟩)
      · exact ⟨rfl, by simp, by simp⟩
      · refine ⟨h1, by omega, ?_⟩
        rw [show (c.sec - k).toNat = (c.sec - (k + 1)).toNat + 1 by omega]
        simpa using h3
    · rintro ⟨h1, h2, h3⟩
      by_cases e : c.sec = k
      · left
        rw [e] at h3
        simp at h3
        cases c
        simp_all
      · right
        refine ⟨h1, by omega, ?_⟩
        rw [show (c.sec - k).toNat = (c.sec - (k + 1)).toNat + 1 by omega] at h3
        simpa using h3
theorem mem_imCts : ∀ {i : Nat} {im : List (List Sec)} {c : Ct}, c ∈ imCts i im ↔ ∃ v : Nat, c.vol = ((i + v : Nat) : Int) ∧ 0 ≤ c.sec ∧ ∃ l, im[v]? = some l ∧ l[c.sec.toNat]? = some c.dat
  | i, [], c => by simp [imCts]
  | i, l :: ls, c => by
    rw [imCts, List.mem_append, mem_ctsW, mem_imCts]
    constructor
    · rintro (⟨h1, h2, h3⟩ | ⟨v, h1, h2, l', h3, h4⟩)
      · exact ⟨0, by simpa using h1, h2, l, by simp, by simpa using h3⟩
      · exact ⟨v + 1, by rw [h1]; congr 1; omega, h2, l', by simpa using h3, h4⟩
    · rintro ⟨v, h1, h2, l', h3, h4⟩
      cases v with
      | zero =>
        simp at h3
        subst h3
        exact .inl ⟨by simpa using h1, h2, by simpa using h4⟩
      | succ v => exact .inr ⟨v, by rw [h1]; congr 1; omega, h2, l', by simpa using h3, h4⟩
/-- An image behind a write; behind the writes of a set. -/
def applyW (im : List (List Sec)) (w : Wr) : List (List Sec) := im.set w.vol.toNat (((im.getD w.vol.toNat []).take w.start.toNat ++ w.data) ++ (im.getD w.vol.toNat []).drop (w.start.toNat + w.data.length))
def imAt (im : List (List Sec)) (v k : Int) : Sec := (im.getD v.toNat []).getD k.toNat sec0
def wrAt (ws : List Wr) (i : Int) : Wr := ws.getD i.toNat ⟨0, 0, []⟩
def imgS (h : Hist) (l : List Int) : List (List Sec) := (l.map (wrAt h.ws)).foldl applyW (h.sizes.map zeros)
/-- Candidates. -/
def unkC (m : List (Ct × Int)) (im : List (List Sec)) : Option Ct := (imCts 0 im).find? fun c => !decide (c.dat = sec0) && (assoc c m).isNone
def reqL (m : List (Ct × Int)) (im : List (List Sec)) : List Int := (imCts 0 im).filterMap fun c => if c.dat = sec0 then none else assoc c m
def neededL (h : Hist) (im : List (List Sec)) : List Int := selN (fun n => decide ((n : Int) ∈ reqL (ctsH 0 h.ws) im)) h.ws.length
def leastC (h : Hist) (im : List (List Sec)) : List Int := leastR (histRun h).2 h.ws.length (neededL h im)
def diffC (x im : List (List Sec)) : Option Ct := (imCts 0 x).find? fun c => !decide (c.dat = imAt im c.vol c.sec)
def Ct.one (c : Ct) : Wr := ⟨c.vol, c.sec, [c.dat]⟩
def wr0 : Wr := ⟨0, 0, []⟩
/-- The write of a conflict, if there is one. -/
def confC (h : Hist) (im : List (List Sec)) : Option Ct := match unkC (ctsH 0 h.ws) im with
  | some c => some c
  | none => diffC (imgS h (leastC h im)) im
def judgeE (h : Hist) (im : List (List Sec)) : Int :=
  if histE h ≠ 0 then histE h else if sizesE (sizesOf im) ≠ 0 then sizesE (sizesOf im) else if sizesOf im ≠ h.sizes then 22 else if distB h = true then 0 else 1
def allowedB (h : Hist) (im : List (List Sec)) (n : Nat) : Bool := ((wrAt h.ws n).cts).all fun c => match assoc ⟨c.vol, c.sec, imAt im c.vol c.sec⟩ (ctsH 0 h.ws) with
  | some a => decide ((n : Int) ≤ a)
  | none => false
def allowedL (h : Hist) (im : List (List Sec)) : List Int := selN (allowedB h im) h.ws.length
def newestC (h : Hist) (im : List (List Sec)) : List Int := greatR (histRun h).2 h.ws.length (allowedL h im)
theorem assoc_app {α β : Type} [DecidableEq α] (k : α) : ∀ (l m : List (α × β)), assoc k (l ++ m) = match assoc k l with | some b => some b | none => assoc k m
  | [], m => rfl
  | (a, b) :: l, m => by
    rw [List.cons_append, assoc, assoc]
    split
    · rfl
    · exact assoc_app k l m
end Go.Proofs.YtfdfkmcplhloaaaGreat
end

section
set_option linter.unusedSimpArgs false
set_option linter.unusedVariables false
namespace Go.Proofs.YtfdfkmcplhloaaaGreat
open Go.Proofs
open Nat renaming reduceEqDiff → nE, reduceAdd → nA, reduceLeDiff → nL, reduceLT → nT
/-- The order of a timeline: writes are issued one behind the other, and acknowledged later. -/
structure TL.ord (t : TL) : Prop where
  inc : ∀ (i j : Nat) x y, i < j → t.iss[i]? = some x → t.iss[j]? = some y → x < y
  lt : ∀ (i : Nat) x y, t.iss[i]? = some x → t.ack[i]? = some y → 0 ≤ y → x < y
/-- Closed sets. -/
def closedB (t : TL) (n : Nat) (l : List Int) : Bool := l.all fun b => (List.range n).all fun a => !befT t a b.toNat || decide ((a : Int) ∈ l)
theorem mem_greatR {t : TL} {n : Nat} {l : List Int} {x : Int} : x ∈ greatR t n l ↔ ∃ b : Nat, x = b ∧ b < n ∧ (b : Int) ∈ l ∧ ∀ a : Nat, a < n → befT t a b = true → (a : Int) ∈ l := by
  rw [greatR, mem_selN]
  constructor
  · rintro ⟨k, h1, h2, h3⟩
    simp only [Bool.and_eq_true, List.all_eq_true, List.mem_range, Bool.or_eq_true, Bool.not_eq_true', decide_eq_true_eq] at h3
    refine ⟨k, h1, h2, h3.1, fun a ha hx => ?_⟩
    rcases h3.2 a ha with h | h
    · exact h
    · rw [h] at hx; simp at hx
  · rintro ⟨k, h1, h2, h3, h4⟩
    refine ⟨k, h1, h2, ?_⟩
    simp only [Bool.and_eq_true, List.all_eq_true, List.mem_range, Bool.or_eq_true, Bool.not_eq_true', decide_eq_true_eq]
    refine ⟨h3, fun a ha => ?_⟩
    cases hx : befT t a k with
    | false => exact .inr rfl
    | true => exact .inl (h4 a ha hx)
theorem least_set (t : TL) (n : Nat) (l : List Int) : setP n (-1) (leastR t n l) = true := setP_sel (Nat.le_refl n)
theorem great_set (t : TL) (n : Nat) (l : List Int) : setP n (-1) (greatR t n l) = true := setP_sel (Nat.le_refl n)
/-- What a write writes to a sector. -/
def contW (w : Wr) (v k : Int) : Option Sec := if w.vol = v ∧ w.start ≤ k then w.data[(k - w.start).toNat]? else none
theorem mem_cts {w : Wr} {c : Ct} : c ∈ w.cts ↔ contW w c.vol c.sec = some c.dat := by
  rw [Wr.cts, mem_ctsW, contW]
  constructor
  · rintro ⟨h1, h2, h3⟩
    rw [if_pos ⟨h1.symm, h2⟩]; exact h3
  · intro h
    split at h
    · rename_i h1
      exact ⟨h1.1.symm, h1.2, h⟩
    · simp at h
theorem mem_ctsH {c : Ct} {a : Int} : ∀ {i : Nat} {ws : List Wr}, (c, a) ∈ ctsH i ws ↔ ∃ j : Nat, a = ((i + j : Nat) : Int) ∧ ∃ w, ws[j]? = some w ∧ c ∈ w.cts
  | i, [] => by simp [ctsH]
  | i, w :: ws => by
    rw [ctsH, List.mem_append, mem_ctsH (i := i + 1)]
    constructor
    · rintro (h | ⟨j, h1, w', h2, h3⟩)
      · obtain ⟨c', h1, h2⟩ := List.mem_map.1 h
        simp only [Prod.mk.injEq] at h2
        obtain ⟨rfl, rfl⟩ := h2
        exact ⟨0, by simp, w, by simp, h1⟩
      · exact ⟨j + 1, by rw [h1]; congr 1; omega, w', by simpa using h2, h3⟩
    · rintro ⟨j, h1, w', h2, h3⟩
      cases j with
      | zero =>
        simp at h2
        subst h2
        exact .inl (List.mem_map.2 ⟨c, h3, by simp [h1]⟩)
      | succ j => exact .inr ⟨j, by rw [h1]; congr 1; omega, w', by simpa using h2, h3⟩
theorem assoc_mem {α β : Type} [DecidableEq α] {k : α} {b : β} : ∀ {l : List (α × β)}, assoc k l = some b → (k, b) ∈ l
  | [], h => by simp [assoc] at h
  | (a, c) :: l, h => by
    rw [assoc] at h
    split at h
    · rename_i e
      obtain rfl := Option.some.inj h
      simp [e]
    · exact List.mem_cons_of_mem _ (assoc_mem h)
theorem dist_assoc : ∀ {l m : List (Ct × Int)}, distGo m l = true → ∀ p ∈ l, assoc p.1 m = none ∧ p.1.dat ≠ sec0 ∧ assoc p.1 l = some p.2
  | [], _, _ => by simp
  | (c, i) :: l, m, h => by
    rw [distGo] at h
    split at h
    · simp at h
    · rename_i hn
      have h0 : assoc c m = none := Classical.byContradiction fun e => hn (.inl e)
      have h1 : c.dat ≠ sec0 := fun e => hn (.inr e)
      intro p hp
      rcases List.mem_cons.1 hp with rfl | hp
      · exact ⟨h0, h1, by simp [assoc]⟩
      · obtain ⟨g1, g2, g3⟩ := dist_assoc h p hp
        rw [assoc_app] at g1
        cases hm : assoc p.1 m with
        | some b => rw [hm] at g1; simp at g1
        | none =>
          rw [hm] at g1
          refine ⟨rfl, g2, ?_⟩
          have hne : ¬ p.1 = c := by
            intro e
            simp [assoc, e] at g1
          rw [assoc, if_neg hne]
          exact g3
theorem wrAt_eq {ws : List Wr} {j : Nat} {w : Wr} (h : ws[j]? = some w) : wrAt ws (j : Int) = w := by
  rw [wrAt, Int.toNat_natCast, List.getD_eq_getElem?_getD, h]; rfl
/-- The writer of a content. -/
theorem author_some {h : Hist} {c : Ct} {a : Int} (e : assoc c (ctsH 0 h.ws) = some a) : 0 ≤ a ∧ a < h.ws.length ∧ contW (wrAt h.ws a) c.vol c.sec = some c.dat := by
  obtain ⟨j, h1, w, h2, h3⟩ := mem_ctsH.1 (assoc_mem e)
  have := (List.getElem?_eq_some_iff.1 h2).1
  simp only [Nat.zero_add] at h1
  subst h1
  rw [wrAt_eq h2]
  exact ⟨by omega, by omega, mem_cts.1 h3⟩
theorem author_of {h : Hist} (d : distB h = true) {c : Ct} {a : Int} (h0 : 0 ≤ a) (h1 : a < h.ws.length) (hc : contW (wrAt h.ws a) c.vol c.sec = some c.dat) : assoc c (ctsH 0 h.ws) = some a ∧ c.dat ≠ sec0 := by
  obtain ⟨j, rfl⟩ := Int.eq_ofNat_of_zero_le h0
  have hj : j < h.ws.length := by omega
  have e := List.getElem?_eq_getElem hj
  rw [wrAt_eq e] at hc
  have hm : (c, (j : Int)) ∈ ctsH 0 h.ws := mem_ctsH.2 ⟨j, by simp, _, e, mem_cts.2 hc⟩
  obtain ⟨_, g2, g3⟩ := dist_assoc d _ hm
  exact ⟨g3, g2⟩
/-- The last write of a set to a sector. -/
def lastW (ws : List Wr) (v k : Int) : Option Sec → List Int → Option Sec
  | acc, [] => acc
  | acc, i :: l => lastW ws v k (match contW (wrAt ws i) v k with | some s => some s | none => acc) l
theorem applyW_sizes {im : List (List Sec)} {w : Wr} (hf : fitsE (sizesOf im) w = 0) : sizesOf (applyW im w) = sizesOf im := by
  unfold fitsE at hf
  have hl : (sizesOf im).length = im.length := by simp [sizesOf]
  split at hf
  · simp at hf
  · split at hf
    · simp at hf
    · split at hf
      · simp at hf
      · rename_i h1 h2 h3
        have hv : w.vol.toNat < im.length := by omega
        have hg : (sizesOf im).getD w.vol.toNat 0 = (im[w.vol.toNat].length : Int) := by
          simp [sizesOf, hv]
        rw [hg] at h3
        have hg2 : im.getD w.vol.toNat [] = im[w.vol.toNat] := by simp [hv]
        refine List.ext_getElem? fun j => ?_
        simp only [sizesOf, applyW, List.getElem?_map, List.getElem?_set, hg2]
        by_cases hj : w.vol.toNat = j
        · subst hj
          rw [if_pos rfl, if_pos hv, List.getElem?_eq_getElem hv]
          simp only [Option.map_some, Option.some.injEq, List.length_append, List.length_take, List.length_drop]
          omega
        · rw [if_neg hj]
theorem imAt_applyW {im : List (List Sec)} {w : Wr} (hf : fitsE (sizesOf im) w = 0) {v k : Int} (hv0 : 0 ≤ v) (hk0 : 0 ≤ k) : imAt (applyW im w) v k = match contW w v k with | some s => s | none => imAt im v k := by
  unfold fitsE at hf
  have hl : (sizesOf im).length = im.length := by simp [sizesOf]
  split at hf
  · simp at hf
  · split at hf
    · simp at hf
    · split at hf
      · simp at hf
      · rename_i h1 h2 h3
        have hv : w.vol.toNat < im.length := by omega
        have hg : (sizesOf im).getD w.vol.toNat 0 = (im[w.vol.toNat].length : Int) := by
          simp [sizesOf, hv]
        rw [hg] at h3
        have hg2 : im.getD w.vol.toNat [] = im[w.vol.toNat] := by simp [hv]
        simp only [imAt, applyW, contW, List.getD_eq_getElem?_getD, List.getElem?_set]
        by_cases hj : w.vol = v
        · subst hj
          simp only [true_and, if_true, hv, Option.getD_some, List.getElem?_eq_getElem hv]
          by_cases ha : w.start ≤ k
          · rw [if_pos ha, List.getElem?_append]
            have hlen : (im[w.vol.toNat].take w.start.toNat ++ w.data).length = w.start.toNat + w.data.length := by
              simp only [List.length_append, List.length_take]; omega
            rw [hlen]
            by_cases hb : k.toNat < w.start.toNat + w.data.length
            · have hd : (k - w.start).toNat < w.data.length := by omega
              rw [if_pos hb, List.getElem?_append_right (by simp only [List.length_take]; omega), List.length_take, Nat.min_eq_left (by omega), show k.toNat - w.start.toNat = (k - w.start).toNat by omega, List.getElem?_eq_getElem hd]
              rfl
            · rw [if_neg hb, List.getElem?_drop, show w.start.toNat + w.data.length + (k.toNat - (w.start.toNat + w.data.length)) = k.toNat by omega, List.getElem?_eq_none (l := w.data) (by omega)]
          · rw [if_neg ha, List.append_assoc, List.getElem?_append_left (by simp only [List.length_take]; omega), List.getElem?_take, if_pos (by omega)]
        · have hne : ¬ w.vol.toNat = v.toNat := by omega
          rw [if_neg hne, if_neg (by simp [hj])]
theorem fold_at {ws : List Wr} {sz : List Int} (hw : ∀ w ∈ ws, fitsE sz w = 0) {n : Nat} (hn : n ≤ ws.length) : ∀ {l : List Int} {p : Int} {im : List (List Sec)}, setP n p l = true → sizesOf im = sz →
    sizesOf ((l.map (wrAt ws)).foldl applyW im) = sz ∧ ∀ v k acc, 0 ≤ v → 0 ≤ k → (match acc with | some s => s | none => sec0) = imAt im v k → imAt ((l.map (wrAt ws)).foldl applyW im) v k = match lastW ws v k acc l with | some s => s | none => sec0
  | [], p, im, _, hs => ⟨hs, fun v k acc _ _ h => h.symm⟩
  | x :: xs, p, im, h, hs => by
    have hx := setP_mem h x (by simp)
    have h' : setP n x xs = true := by
      rw [setP] at h
      split at h
      · simp at h
      · exact h
    have hlt : x.toNat < ws.length := by omega
    have hm : wrAt ws x ∈ ws := by
      rw [wrAt, List.getD_eq_getElem?_getD, List.getElem?_eq_getElem hlt]
      exact List.getElem_mem hlt
    have hf : fitsE (sizesOf im) (wrAt ws x) = 0 := by rw [hs]; exact hw _ hm
    obtain ⟨g1, g2⟩ := fold_at hw hn (l := xs) h' ((applyW_sizes hf).trans hs)
    refine ⟨g1, fun v k acc hv hk ha => ?_⟩
    rw [lastW]
    refine g2 v k _ hv hk ?_
    rw [imAt_applyW hf hv hk]
    cases contW (wrAt ws x) v k with
    | none => exact ha
    | some s => rfl
theorem zeros_sizes {sz : List Int} (h : sizesE sz = 0) : sizesOf (sz.map zeros) = sz := by
  have := sizes_new h
  rwa [newImg, if_neg (by omega)] at this
theorem zeros_at (sz : List Int) (v k : Int) : imAt (sz.map zeros) v k = sec0 := by
  simp only [imAt, List.getD_eq_getElem?_getD, List.getElem?_map]
  cases sz[v.toNat]? with
  | none => simp
  | some n =>
    simp only [Option.map_some, Option.getD_some, zeros, List.getElem?_replicate]
    split <;> rfl
theorem img_at {h : Hist} (e : histE h = 0) {l : List Int} {p : Int} (hl : setP h.ws.length p l = true) : sizesOf (imgS h l) = h.sizes ∧ ∀ v k, 0 ≤ v → 0 ≤ k → imAt (imgS h l) v k = match lastW h.ws v k none l with | some s => s | none => sec0 := by
  obtain ⟨h1, _, h3, _⟩ := hist_ok e
  obtain ⟨g1, g2⟩ := fold_at (fitsAll_mem h3) (Nat.le_refl _) hl (zeros_sizes h1)
  exact ⟨g1, fun v k hv hk => g2 v k none hv hk (zeros_at _ _ _).symm⟩
theorem contW_ge {w : Wr} {v k : Int} {s : Sec} (h : contW w v k = some s) : w.vol = v ∧ w.start ≤ k := by
  rw [contW] at h
  split at h
  · assumption
  · simp at h
end Go.Proofs.YtfdfkmcplhloaaaGreat
end

section
set_option linter.unusedSimpArgs false
set_option linter.unusedVariables false
namespace Go.Proofs.YtfdfkmcplhloaaaGreat
open Go.Proofs
open Nat renaming reduceEqDiff → nE, reduceAdd → nA, reduceLeDiff → nL, reduceLT → nT
def Hist.more (h : Hist) (w : Wr) : Hist := ⟨h.sizes, h.ws ++ [w], h.evs ++ [⟨0, h.ws.length⟩]⟩
theorem assoc_map_none {c : Ct} {n : Int} : ∀ {l : List Ct}, c ∉ l → assoc c (l.map fun x => (x, n)) = none
  | [], _ => rfl
  | y :: l, h => by
    simp only [List.mem_cons, not_or] at h
    rw [List.map_cons, assoc, if_neg h.1]
    exact assoc_map_none h.2
end Go.Proofs.YtfdfkmcplhloaaaGreat
end

section
set_option linter.unusedSimpArgs false
set_option linter.unusedVariables false
namespace Go.Proofs.YtfdfkmcplhloaaaGreat
open Go.Proofs
open Nat renaming reduceEqDiff → nE, reduceAdd → nA, reduceLeDiff → nL, reduceLT → nT
set_option maxRecDepth 10000
def relH (h : Hist) : AV := relAV h.ws.length h.evs.length (relL h).1 (relL h).2
theorem relL_bef {h : Hist} (e : histE h = 0) {a b : Nat} (ha : a < (relL h).2.length) (hb : b < (relL h).1.length) : decide ((relL h).2[a] < (relL h).1[b]) = befT (histRun h).2 a b := by
  obtain ⟨_, _, _, _, h5, h6, h7, h8⟩ := hist_ok e
  have ha' : a < (histRun h).2.ack.length := by simpa [relL] using ha
  have hb' : b < (histRun h).2.iss.length := hb
  have e1 : (relL h).2[a] = phi h.evs.length (histRun h).2.ack[a] := by simp [relL]
  have e2 : (relL h).1[b] = (histRun h).2.iss[b] := rfl
  have g1 := h7 _ (List.getElem_mem hb')
  have g2 := h8 _ (List.getElem_mem ha')
  have e3 : (histRun h).2.ack.getD a 0 = (histRun h).2.ack[a] := by simp [ha']
  have e4 : (histRun h).2.iss.getD b 0 = (histRun h).2.iss[b] := by simp [hb']
  simp only [befT, e1, e2, e3, e4, ← Bool.decide_and]
  refine decide_eq_decide.2 ?_
  rw [phi]
  split <;> omega
theorem bef_call {h : Hist} (e : histE h = 0) (a b : Nat) (ha : a < h.ws.length) (hb : b < h.ws.length) : Pu Tryz.prog (.fn (.func 54) [] []) [relH h, I a, I b] (B (befT (histRun h).2 a b)) := by
  obtain ⟨_, _, _, _, h5, h6, _⟩ := hist_ok e
  have ha' : a < (relL h).2.length := by simp [relL, h6]; exact ha
  have hb' : b < (relL h).1.length := by simp [relL, h5]; exact hb
  rw [← relL_bef e ha' hb']
  exact c54 _ _ _ _ a b ha' hb'
/-- What is marked: behind the writes done, and behind the first j of the next one. -/
def leastM (t : TL) (l done : List Int) (b : Nat) (j : Nat) (a : Nat) : Bool := (decide ((a : Int) ∈ l) || done.any fun x => befT t a x.toNat) || (decide (a < j) && befT t a b)
theorem leastM_zero (t : TL) (l done : List Int) (b a : Nat) : leastM t l done b 0 a = (decide ((a : Int) ∈ l) || done.any fun x => befT t a x.toNat) := by simp [leastM]
theorem leastM_all {t : TL} {l done : List Int} {b n a : Nat} (h : a < n) : leastM t l done b n a = (decide ((a : Int) ∈ l) || (done ++ [(b : Int)]).any fun x => befT t a x.toNat) := by
  simp [leastM, h, Bool.or_assoc]
theorem leastM_succ {t : TL} {l done : List Int} {b j a : Nat} : leastM t l done b (j + 1) a = if a = j then leastM t l done b j a || befT t a b else leastM t l done b j a := by
  unfold leastM
  by_cases h : a = j
  · subst h; simp
  · rw [if_neg h]
    have : decide (a < j + 1) = decide (a < j) := decide_eq_decide.2 (by omega)
    rw [this]
def leastE (h : Hist) (l : List Int) : Int := setsE h [l]
def leastL (h : Hist) (l : List Int) : List Int := if setsE h [l] ≠ 0 then [] else leastR (histRun h).2 h.ws.length l
def leI (h : Hist) (l xs : List Int) (lid : Nat) (fid : FuncId) (ps : Array Tmp) (assign body : Code) (tm : Tm) (rem : List Int) (H : Hp) : Prop :=
  ∃ (done : List Int) (cur : List Bool), 6 ≤ H.nx ∧ H.get 2 = some (.arr 101 1 [relH h]) ∧ H.get 3 = some (.arr 4 1 (cur.map B)) ∧ H.get 4 = some (.arr 105 1 [.sl 3 h.ws.length 0 h.ws.length]) ∧ H.get 5 = some (.loop lid fid ps assign body tm 55 .ready none) ∧ done ++ rem = xs ∧ cur.length = h.ws.length ∧ ∀ a, a < h.ws.length → cur.getD a false = (decide ((a : Int) ∈ l) || done.any fun x => befT (histRun h).2 a x.toNat)
theorem getD_set {cur : List Bool} {j a : Nat} {v : Bool} (hj : j < cur.length) : (cur.set j v).getD a false = if a = j then v else cur.getD a false := by
  simp only [List.getD_eq_getElem?_getD, List.getElem?_set]
  by_cases h : j = a
  · subst h; simp [hj]
  · rw [if_neg h, if_neg (fun e => h e.symm)]
theorem leastF (h : Hist) (l : List Int) (hs : h.sm) (hl : l.length < 4000000) : Pu Tryz.prog (.fn (.func 39) [] []) [h.av, .lst (l.map I)] (.tup [.lst ((leastL h l).map I), I (setsE h [l])]) := by
 refine pu_func Tryz.func39 rfl (by kernel_rfl) (by show _ ≤ 55; simp only [List.length_append, List.length_cons, List.length_nil]; decide) (by simp only [IDF, and_tt, implies_true]) (by simp only [IDF, and_tt, implies_true]) (by simp only [IDF, hist_idf, and_tt, implies_true]) ?_
 have hw := hs.2.1
 obtain ⟨rc1, rc2, rc3⟩ := setsR_cells h [l]
 rw [Tryz.ntmps39]
 refine wpT_seq ?_
 refine wpT_region (by kernel_rfl) (fun K hK => ?_)
 simp only [↓SP, SZ, ↓reduceIte, reduceCtorEq, nE, nA, nL, nT, rc1, rc2, rc3]
 refine hK _ _ ?_
 clear hK K
 refine wpT_seq ?_
 refine wpT_region (by kernel_rfl) (fun K hK => ?_)
 simp only [↓SP, SZ, ↓reduceIte, reduceCtorEq, nE, nA, nL, nT, rc1, rc2, rc3]
 refine Pu.freeze (setsF h [l] hs (by simp) (by simpa using hl)) 1 (LendL.cons (.refl _) (LendL.cons (.refl _) (LendL.cons (Lend.sl0 (E := 22) (s := 1) (es := [.lst (l.map I)]) (by simp only [↓SP, SZ, ↓reduceIte, reduceCtorEq, nE, nA, nL, nT]) rfl (by simp [AV.okc])) LendL.nil))) ?_
 simp only [↓SP, SZ, ↓reduceIte, reduceCtorEq, nE, nA, nL, nT, rc1, rc2, rc3]
 refine hK _ _ ?_
 clear hK K
 refine wpT_seq ?_
 refine wpT_seq ?_
 refine wpT_region (by kernel_rfl) (fun K hK => ?_)
 simp only [↓SP, SZ, ↓reduceIte, reduceCtorEq, nE, nA, nL, nT, rc1, rc2, rc3]
 refine hK _ _ ?_
 clear hK K
 refine wpT_if (by rfl) (fun hc21 => ?_) (fun hc21 => ?_)
 ·
  have p21 := hc21
  try simp only [PB] at p21
  have hx : leastL h l = [] := if_pos p21
  refine wpT_seq ?_
  refine wpT_region (by kernel_rfl) (fun K hK => ?_)
  simp only [↓SP, SZ, ↓reduceIte, reduceCtorEq, nE, nA, nL, nT, rc1, rc2, rc3, hc21]
  refine hK _ _ ?_
  clear hK K
  refine wpT_ret ⟨.inr rfl, ?_⟩
  show optK (resA _ _ _ [.tmp 4, .tmp 5]) _
  simp only [SRO, ↓SP, SZ, ↓reduceIte, reduceCtorEq, nE, nA, nL, nT, rc1, rc2, rc3, hc21]
  rw [hx]
  exact Lend.tupL (LendL.cons .nil0 (LendL.cons (.refl _) LendL.nil))
 ·
  have p21 := hc21
  try simp only [PB] at p21
  have e0 : setsE h [l] = 0 := by simpa using p21
  have eh : histE h = 0 := by
    unfold setsE at e0
    split at e0
    · omega
    · rename_i h0; exact Classical.not_not.1 h0
  have hset : setP h.ws.length (-1) l = true := by
    unfold setsE at e0
    rw [if_neg (by omega)] at e0
    split at e0
    · rename_i h1; simpa using h1
    · simp at e0
  have hx : leastL h l = leastR (histRun h).2 h.ws.length l := if_neg (by omega)
  have hx1 : setsR h [l] = relH h := if_neg (by omega)
  have hx2 : setsM h [l] = [markL h.ws.length l] := if_neg (by omega)
  have rh1 : (relH h).cells = [relH h] := rfl
  have rh2 : (relH h).okc = true := rfl
  have rh3 : (relH h).isAgg = false := rfl
  refine wpT_skip ?_
  refine wpT_seq ?_
  refine wpT_region (by kernel_rfl) (fun K hK => ?_)
  simp only [↓SP, SZ, ↓reduceIte, reduceCtorEq, nE, nA, nL, nT, rc1, rc2, rc3, hx2, marksAV, markL_length, hc21]
  refine Nu.call (cloneM (markL h.ws.length l) (by rw [markL_length]; omega)) ?_
  simp only [↓SP, SZ, ↓reduceIte, reduceCtorEq, nE, nA, nL, nT, rc1, rc2, rc3, hx2, marksAV, markL_length, hc21]
  refine hK _ _ ?_
  clear hK K
  refine wpT_seq ?_
  refine wpT_seq ?_
  refine wpT_region (by kernel_rfl) (fun K hK => ?_)
  simp only [↓SP, SZ, ↓reduceIte, reduceCtorEq, nE, nA, nL, nT, rc1, rc2, rc3, hx2, marksAV, hc21]
  refine Pu.call (c53 (markL h.ws.length l)) ?_
  simp only [↓SP, SZ, ↓reduceIte, reduceCtorEq, nE, nA, nL, nT, rc1, rc2, rc3, hx2, marksAV, hc21]
  refine hK _ _ ?_
  clear hK K
  refine wpT_block ?_
  rw [hx1] at rc1 rc2 rc3 ⊢
  refine wpT_keep3 (i := 2) (j := 3) (k := 4) (o := .arr 101 1 [relH h]) (q := .arr 4 1 ((markL h.ws.length l).map B)) (r := .arr 105 1 [.sl 3 h.ws.length 0 h.ws.length]) (by simp only [↓SP, SZ, ↓reduceIte, reduceCtorEq, nE, nA, nL, nT, rh1, rh2, rh3]) (by simp only [↓SP, SZ, ↓reduceIte, reduceCtorEq, nE, nA, nL, nT]) (by simp only [↓SP, SZ, ↓reduceIte, reduceCtorEq, nE, nA, nL, nT, markL_length]) ?_
  refine wpT_ind (fun (_ : Unit) tm' h' => h' = Hp.of [(2, .arr 101 1 [relH h]), (3, .arr 4 1 ((markL h.ws.length l).map B)), (4, .arr 105 1 [.sl 3 h.ws.length 0 h.ws.length])] 5 ∧ tm' 6 = .ptr 2 1 0 0 ∧ tm' 9 = .ptr 4 1 0 0 ∧ tm' 30 = .fn (.func 80) [] [.cptr (.lst ((markL h.ws.length l).map B))]) (fun _ => 0) ?_ () ⟨rfl, rfl, rfl, rfl⟩
  rintro _ tm' _ ⟨rfl, e6, e9, e30⟩ -
  refine wpT_range (by simp only [↓SP, SZ, ↓reduceIte, reduceCtorEq, nE, nA, nL, nT, e30]; rfl) Tryz.func80 rfl (by kernel_rfl) (fun lid fid => ?_)
  have hml : memF 0 (markL h.ws.length l) = l := memF_mark hset
  refine CallV.mono (c80 (markL h.ws.length l) (by rw [markL_length]; omega) (.fn (.yield lid) [] []) (leI h l l lid fid #[31] _ _ tm') (fun _ => False) _ ⟨[], markL h.ws.length l, Nat.le_refl _, rfl, rfl, rfl, rfl, hml, markL_length _ _, fun a ha => by rw [markL_getD ha]; simp⟩ (fun x ys h' hI hmem => ?_)) ?_
  obtain ⟨done, cur, q0, q2, q3, q4, q5, q6, q7, q8⟩ := hI
  rw [hml] at hmem
  obtain ⟨m1, m2, _⟩ := setP_mem hset x hmem
  obtain ⟨b, rfl⟩ := Int.eq_ofNat_of_zero_le m1
  have hb : b < h.ws.length := by omega
  refine callV_yield q5 rfl (by rfl) ?_
  show wpT _ _ _ _ _ (tm'.put (some 31) (I (b : Int))) _
  ·
   refine wpT_region (by kernel_rfl) (fun K hK => ?_)
   simp only [↓SP, SZ, ↓reduceIte, reduceCtorEq, nE, nA, nL, nT, rc1, rc2, rc3]
   refine hK _ _ ?_
   clear hK K
   refine wpT_beginRound (id := 5) (by simp only [↓SP, SZ, ↓reduceIte, reduceCtorEq, nE, nA, nL, nT, q5]; rfl) ?_
   refine wpT_block ?_
   refine wpT_seq ?_
   refine wpT_region (by kernel_rfl) (fun K hK => ?_)
   simp only [↓SP, SZ, ↓reduceIte, reduceCtorEq, nE, nA, nL, nT, rc1, rc2, rc3, e6, q2, relH, relAV]
   refine hK _ _ ?_
   clear hK K
   refine wpT_block ?_
   refine wpT_loop ?_
   refine wpT_ind (fun (j : Nat) tm2 h2 => ∃ cur : List Bool, 6 ≤ h2.nx ∧ h2.get 2 = some (.arr 101 1 [relH h]) ∧ h2.get 3 = some (.arr 4 1 (cur.map B)) ∧ h2.get 4 = some (.arr 105 1 [.sl 3 h.ws.length 0 h.ws.length]) ∧ h2.get 5 = some (.loop lid fid #[31] _ _ tm' 55 .busy none) ∧ tm2 6 = .ptr 2 1 0 0 ∧ tm2 9 = .ptr 4 1 0 0 ∧ tm2 10 = I b ∧ tm2 35 = I h.ws.length ∧ tm2 36 = I j ∧ j ≤ h.ws.length ∧ cur.length = h.ws.length ∧ ∀ a, a < h.ws.length → cur.getD a false = leastM (histRun h).2 l done b j a) (fun j => h.ws.length - j) ?_ 0 ⟨cur, by simp only [↓SP, SZ, ↓reduceIte, reduceCtorEq, nE, nA, nL, nT]; omega, by simp only [↓SP, SZ, ↓reduceIte, reduceCtorEq, nE, nA, nL, nT, q2], by simp only [↓SP, SZ, ↓reduceIte, reduceCtorEq, nE, nA, nL, nT, q3], by simp only [↓SP, SZ, ↓reduceIte, reduceCtorEq, nE, nA, nL, nT, q4], rfl, by simp only [↓SP, SZ, ↓reduceIte, reduceCtorEq, nE, nA, nL, nT, e6], by simp only [↓SP, SZ, ↓reduceIte, reduceCtorEq, nE, nA, nL, nT, e9], rfl, rfl, rfl, by omega, q7, fun a ha => by rw [leastM_zero]; exact q8 a ha⟩
   rintro j tm2 h2 ⟨cur2, r0, r2, r3, r4, r5, f6, f9, f10, f35, f36, hj, hc, hM⟩ IH
   refine wpT_inLoop ?_
   refine wpT_seq ?_
   refine wpT_region (by kernel_rfl) (fun K hK => ?_)
   simp only [↓SP, SZ, ↓reduceIte, reduceCtorEq, nE, nA, nL, nT, rc1, rc2, rc3, f35, f36]
   refine hK _ _ ?_
   clear hK K
   refine wpT_seq ?_
   refine wpT_if (by rfl) (fun hc37 => ?_) (fun hc37 => ?_)
   ·
    have p37 := hc37
    try simp only [PB] at p37
    have hlt : j < h.ws.length := by omega
    have hg := at_map (f := B) (xs := cur2) (i := j) (by omega)
    have hz0 : (0 : Int) ≤ (j : Int) := by omega
    have hz1 : (j : Int) < (h.ws.length : Int) := by omega
    have hcj : cur2.getD j false = cur2[j] := by simp [hc, hlt]
    refine wpT_skip ?_
    refine wpT_seq ?_
    refine wpT_block ?_
    refine wpT_seq ?_
    refine wpT_region (by kernel_rfl) (fun K hK => ?_)
    simp only [↓SP, SZ, ↓reduceIte, reduceCtorEq, nE, nA, nL, nT, rc1, rc2, rc3, f36, hc37]
    refine hK _ _ ?_
    clear hK K
    refine wpT_drawn [(0, 10)] mixed (by kernel_rfl) (m := 14) rfl (fun K hK => ?_)
    simp only [↓SP, SZ, ↓reduceIte, reduceCtorEq, nE, nA, nL, nT, rc1, rc2, rc3, f6, f9, f10, r2, r3, r4, hc, hg, hz0, hz1, Int.toNat_natCast, ldO_arr, stO_arr, Option.bind_some, hc37]
    refine guardD_split (fun hg45 => ?_) (fun hg45 => ?_)
    ·
     have p45 := hg45
     try simp only [PB] at p45
     have hF : ∀ a, a < h.ws.length → (cur2.set j (befT (histRun h).2 j b)).getD a false = leastM (histRun h).2 l done b (j + 1) a := fun a ha => by
       rw [getD_set (by omega), leastM_succ]
       split
       · rename_i e; subst e; rw [← hM _ ha, hcj, p45]; rfl
       · exact hM a ha
     simp only [↓SP, SZ, ↓reduceIte, reduceCtorEq, nE, nA, nL, nT, rc1, rc2, rc3, f6, f9, f10, r2, r3, r4, hc, hg, hz0, hz1, Int.toNat_natCast, ldO_arr, stO_arr, Option.bind_some, hc37, hg45]
     refine Pu.callD (bef_call eh j b hlt hb) ?_
     simp only [↓SP, SZ, ↓reduceIte, reduceCtorEq, nE, nA, nL, nT, rc1, rc2, rc3, f6, f9, f10, r2, r3, r4, hc, hg, hz0, hz1, Int.toNat_natCast, ldO_arr, stO_arr, Option.bind_some, hc37, hg45]
     refine hK _ _ ?_
     clear hK K
     refine wpT_inBlock ?_
     refine wpT_region (by kernel_rfl) (fun K hK => ?_)
     simp only [↓SP, SZ, ↓reduceIte, reduceCtorEq, nE, nA, nL, nT, rc1, rc2, rc3, f36, wrap64 (x := (j : Int) + 1) (by omega) (by omega), hc37, hg45]
     refine hK _ _ ?_
     clear hK K
     first
       | (have hu := hT
          refine IH (j + 1) _ _ (by omega) ⟨cur2.set j true, ?_, ?_, ?_, ?_, ?_, ?_, ?_, ?_, ?_, ?_, by omega, by simpa using hc, hu⟩
          · simp only [↓SP, SZ, ↓reduceIte, reduceCtorEq, nE, nA, nL, nT]
          · simp only [↓SP, SZ, ↓reduceIte, reduceCtorEq, nE, nA, nL, nT, r2]
          · simp only [↓SP, SZ, ↓reduceIte, reduceCtorEq, nE, nA, nL, nT, r3, List.map_set]
          · simp only [↓SP, SZ, ↓reduceIte, reduceCtorEq, nE, nA, nL, nT, r4]
          · simp only [↓SP, SZ, ↓reduceIte, reduceCtorEq, nE, nA, nL, nT, r5]
          · simp only [↓SP, SZ, ↓reduceIte, reduceCtorEq, nE, nA, nL, nT, f6]
          · simp only [↓SP, SZ, ↓reduceIte, reduceCtorEq, nE, nA, nL, nT, f9]
          · simp only [↓SP, SZ, ↓reduceIte, reduceCtorEq, nE, nA, nL, nT, f10]
          · simp only [↓SP, SZ, ↓reduceIte, reduceCtorEq, nE, nA, nL, nT, f35]
          · simp only [↓SP, SZ, ↓reduceIte, reduceCtorEq, nE, nA, nL, nT, Int.natCast_add, Int.cast_ofNat_Int])
       | (have hu := hF
          refine IH (j + 1) _ _ (by omega) ⟨cur2.set j (befT (histRun h).2 j b), ?_, ?_, ?_, ?_, ?_, ?_, ?_, ?_, ?_, ?_, by omega, by simpa using hc, hu⟩
          · simp only [↓SP, SZ, ↓reduceIte, reduceCtorEq, nE, nA, nL, nT]
          · simp only [↓SP, SZ, ↓reduceIte, reduceCtorEq, nE, nA, nL, nT, r2]
          · simp only [↓SP, SZ, ↓reduceIte, reduceCtorEq, nE, nA, nL, nT, r3, List.map_set]
          · simp only [↓SP, SZ, ↓reduceIte, reduceCtorEq, nE, nA, nL, nT, r4]
          · simp only [↓SP, SZ, ↓reduceIte, reduceCtorEq, nE, nA, nL, nT, r5]
          · simp only [↓SP, SZ, ↓reduceIte, reduceCtorEq, nE, nA, nL, nT, f6]
          · simp only [↓SP, SZ, ↓reduceIte, reduceCtorEq, nE, nA, nL, nT, f9]
          · simp only [↓SP, SZ, ↓reduceIte, reduceCtorEq, nE, nA, nL, nT, f10]
          · simp only [↓SP, SZ, ↓reduceIte, reduceCtorEq, nE, nA, nL, nT, f35]
          · simp only [↓SP, SZ, ↓reduceIte, reduceCtorEq, nE, nA, nL, nT, Int.natCast_add, Int.cast_ofNat_Int])
    ·
     simp only [Bool.not_true, Bool.not_false] at hg45
     have p45 := hg45
     try simp only [PB] at p45
     have hT : ∀ a, a < h.ws.length → (cur2.set j true).getD a false = leastM (histRun h).2 l done b (j + 1) a := fun a ha => by
       rw [getD_set (by omega), leastM_succ]
       split
       · rename_i e; subst e; rw [← hM _ ha, hcj, p45]; rfl
       · exact hM a ha
     simp only [↓SP, SZ, ↓reduceIte, reduceCtorEq, nE, nA, nL, nT, rc1, rc2, rc3, f6, f9, f10, r2, r3, r4, hc, hg, hz0, hz1, Int.toNat_natCast, ldO_arr, stO_arr, Option.bind_some, hc37, hg45]
     refine hK _ _ ?_
     clear hK K
     refine wpT_inBlock ?_
     refine wpT_region (by kernel_rfl) (fun K hK => ?_)
     simp only [↓SP, SZ, ↓reduceIte, reduceCtorEq, nE, nA, nL, nT, rc1, rc2, rc3, f36, wrap64 (x := (j : Int) + 1) (by omega) (by omega), hc37, hg45]
     refine hK _ _ ?_
     clear hK K
     first
       | (have hu := hT
          refine IH (j + 1) _ _ (by omega) ⟨cur2.set j true, ?_, ?_, ?_, ?_, ?_, ?_, ?_, ?_, ?_, ?_, by omega, by simpa using hc, hu⟩
          · simp only [↓SP, SZ, ↓reduceIte, reduceCtorEq, nE, nA, nL, nT]
          · simp only [↓SP, SZ, ↓reduceIte, reduceCtorEq, nE, nA, nL, nT, r2]
          · simp only [↓SP, SZ, ↓reduceIte, reduceCtorEq, nE, nA, nL, nT, r3, List.map_set]
          · simp only [↓SP, SZ, ↓reduceIte, reduceCtorEq, nE, nA, nL, nT, r4]
          · simp only [↓SP, SZ, ↓reduceIte, reduceCtorEq, nE, nA, nL, nT, r5]
          · simp only [↓SP, SZ, ↓reduceIte, reduceCtorEq, nE, nA, nL, nT, f6]
          · simp only [↓SP, SZ, ↓reduceIte, reduceCtorEq, nE, nA, nL, nT, f9]
          · simp only [↓SP, SZ, ↓reduceIte, reduceCtorEq, nE, nA, nL, nT, f10]
          · simp only [↓SP, SZ, ↓reduceIte, reduceCtorEq, nE, nA, nL, nT, f35]
          · simp only [↓SP, SZ, ↓reduceIte, reduceCtorEq, nE, nA, nL, nT, Int.natCast_add, Int.cast_ofNat_Int])
       | (have hu := hF
          refine IH (j + 1) _ _ (by omega) ⟨cur2.set j (befT (histRun h).2 j b), ?_, ?_, ?_, ?_, ?_, ?_, ?_, ?_, ?_, ?_, by omega, by simpa using hc, hu⟩
          · simp only [↓SP, SZ, ↓reduceIte, reduceCtorEq, nE, nA, nL, nT]
          · simp only [↓SP, SZ, ↓reduceIte, reduceCtorEq, nE, nA, nL, nT, r2]
          · simp only [↓SP, SZ, ↓reduceIte, reduceCtorEq, nE, nA, nL, nT, r3, List.map_set]
          · simp only [↓SP, SZ, ↓reduceIte, reduceCtorEq, nE, nA, nL, nT, r4]
          · simp only [↓SP, SZ, ↓reduceIte, reduceCtorEq, nE, nA, nL, nT, r5]
          · simp only [↓SP, SZ, ↓reduceIte, reduceCtorEq, nE, nA, nL, nT, f6]
          · simp only [↓SP, SZ, ↓reduceIte, reduceCtorEq, nE, nA, nL, nT, f9]
          · simp only [↓SP, SZ, ↓reduceIte, reduceCtorEq, nE, nA, nL, nT, f10]
          · simp only [↓SP, SZ, ↓reduceIte, reduceCtorEq, nE, nA, nL, nT, f35]
          · simp only [↓SP, SZ, ↓reduceIte, reduceCtorEq, nE, nA, nL, nT, Int.natCast_add, Int.cast_ofNat_Int])
   ·
    have p37 := hc37
    try simp only [PB] at p37
    refine wpT_exit rfl ?_
    refine wpT_inBlock ?_
    refine wpT_end ?_
    have hjn : j = h.ws.length := by omega
    subst hjn
    refine ⟨r5, true, rfl, .inl ⟨rfl, done ++ [(b : Int)], cur2, r0, ?_, ?_, ?_, rfl, by simpa using q6, hc, fun a ha => ?_⟩⟩
    · simp only [↓SP, SZ, ↓reduceIte, reduceCtorEq, nE, nA, nL, nT, r2]
    · simp only [↓SP, SZ, ↓reduceIte, reduceCtorEq, nE, nA, nL, nT, r3]
    · simp only [↓SP, SZ, ↓reduceIte, reduceCtorEq, nE, nA, nL, nT, r4]
    · rw [hM a ha, leastM_all ha]
  rintro _ h2 (hI | hJ)
  rotate_left
  · exact hJ.elim
  ·
   obtain ⟨done, cur, q0, q2, q3, q4, q5, q6, q7, q8⟩ := hI
   refine ⟨.ready, none, q5, by simp, ?_⟩
   simp only [Option.map_none, Option.toList_none, List.nil_append]
   refine wpT_inBlock ?_
   refine wpT_seq ?_
   refine wpT_region (by kernel_rfl) (fun K hK => ?_)
   simp only [↓SP, SZ, ↓reduceIte, reduceCtorEq, nE, nA, nL, nT, rc1, rc2, rc3, e9, q3, q4]
   refine Pu.freeze (c55 cur (by omega)) 3 (LendL.cons (Lend.sl0 (E := 4) (s := 1) (by simp only [↓SP, SZ, ↓reduceIte, reduceCtorEq, nE, nA, nL, nT, q3]) (by simpa using q7) (bool_okc _)) LendL.nil) ?_
   simp only [↓SP, SZ, ↓reduceIte, reduceCtorEq, nE, nA, nL, nT, rc1, rc2, rc3, e9, q3, q4]
   refine hK _ _ ?_
   clear hK K
   refine wpT_ret ⟨.inr rfl, ?_⟩
   show optK (resA _ _ _ [.tmp 4, .tmp 5]) _
   simp only [SRO, ↓SP, SZ, ↓reduceIte, reduceCtorEq, nE, nA, nL, nT, rc1, rc2, rc3]
   rw [List.append_nil] at q6
   subst q6
   have hm : memF 0 cur = leastL h done := by
     rw [memF_eq, q7, hx, leastR]
     exact selN_congr fun a ha => q8 a ha
   rw [hm, e0]
   exact .refl _
end Go.Proofs.YtfdfkmcplhloaaaGreat
end
