/- Walks: the reference's least and greatest cuts.
  Walks: the reference's images behind writes.
  Walks: the reference's image of a set of writes; its candidates.
  Walks: the reference's candidates.
  Walks: the examples of chapter 18.
  Laws of chapter 18 that return true: Distinguishes, Conflicts, Shows.
  Walks: the reference's greatest cut, its finding; the law Finds returns true.
  Laws return true for all arguments, and leave them as they are: standbylaw18.ConsistencyFinds. -/
import Derived.Test.YtfdfkmcplhloaaaGreatF4
import Derived.Test.YtfdfkmcplhloaaaGreatRows
section
set_option linter.unusedSimpArgs false
set_option linter.unusedVariables false
namespace Go.Proofs.YtfdfkmcplhloaaaGreat
open Go.Proofs
open Nat renaming reduceEqDiff → nE, reduceAdd → nA, reduceLeDiff → nL, reduceLT → nT
set_option maxRecDepth 10000
theorem rowR_at {h : Hist} {a b : Nat} (hb : b < h.ws.length) : ((rowR h a).map B)[b]? = some (B (befT (histRun h).2 a b)) := by simp [rowR, hb]
theorem tabR_at {h : Hist} {a : Nat} (ha : a < h.ws.length) : ((tabR h).map fun r => AV.lst (r.map B))[a]? = some (.lst ((rowR h a).map B)) := by simp [tabR, ha]
def lsF (h : Hist) (l : List Int) (a : Nat) : Bool := decide ((a : Int) ∈ l) || l.any fun b => befT (histRun h).2 a b.toNat
def lsI (h : Hist) (l : List Int) (a i : Nat) : Bool := decide ((a : Int) ∈ l) || (l.take i).any fun b => befT (histRun h).2 a b.toNat
theorem lsI_succ {h : Hist} {l : List Int} {a i : Nat} (hi : i < l.length) : lsI h l a (i + 1) = (lsI h l a i || befT (histRun h).2 a (l[i]).toNat) := by
  rw [lsI, lsI, List.take_add_one, List.getElem?_eq_getElem hi, List.any_append, ← Bool.or_assoc]
  simp
theorem sets_ok {h : Hist} {l : List Int} (e : setsE h [l] = 0) : histE h = 0 ∧ setP h.ws.length (-1) l = true := by
  have eh : histE h = 0 := by
    unfold setsE at e
    split at e
    · omega
    · rename_i h0; exact Classical.not_not.1 h0
  refine ⟨eh, ?_⟩
  unfold setsE at e
  rw [if_neg (by omega)] at e
  split at e
  · rename_i h1; simpa using h1
  · simp at e
theorem c47 (h : Hist) (l : List Int) (hs : h.sm) (hl : l.length < 4000000) : Pu Tryz.prog (.fn (.func 47) [] []) [h.av, .lst (l.map I)] (.tup [.lst ((leastL h l).map I), I (setsE h [l])]) := by
 refine pu_func Tryz.func47 rfl (by kernel_rfl) (by show _ ≤ 55; simp only [LN]; decide) (by simp only [IDS, tab_idf]) (by simp only [IDS, tab_idf]) (by simp only [IDS, tab_idf]) ?_
 rw [Tryz.ntmps47]
 refine wpT_seq ?_
 refine wpT_region (by kernel_rfl) (fun K hK => ?_)
 simp only [↓SP, SZ, ↓reduceIte, reduceCtorEq, nE, nA, nL, nT, sec_neq, hist_cs]
 refine hK _ _ ?_
 clear hK K
 refine wpT_seq ?_
 refine wpT_seq ?_
 refine wpT_region (by kernel_rfl) (fun K hK => ?_)
 simp only [↓SP, SZ, ↓reduceIte, reduceCtorEq, nE, nA, nL, nT, sec_neq, hist_cs]
 refine Pu.call (c57 h l hs hl) ?_
 simp only [↓SP, SZ, ↓reduceIte, reduceCtorEq, nE, nA, nL, nT, sec_neq, hist_cs]
 refine hK _ _ ?_
 clear hK K
 refine wpT_seq ?_
 refine wpT_region (by kernel_rfl) (fun K hK => ?_)
 simp only [↓SP, SZ, ↓reduceIte, reduceCtorEq, nE, nA, nL, nT, sec_neq, hist_cs]
 refine hK _ _ ?_
 clear hK K
 refine wpT_if (by rfl) (fun hc16 => ?_) (fun hc16 => ?_)
 ·
  have p16 := hc16
  try simp only [PB] at p16
  have hx : leastL h l = [] := if_pos p16
  refine wpT_seq ?_
  refine wpT_region (by kernel_rfl) (fun K hK => ?_)
  simp only [↓SP, SZ, ↓reduceIte, reduceCtorEq, nE, nA, nL, nT, sec_neq, hist_cs, hc16]
  refine hK _ _ ?_
  clear hK K
  refine wpT_ret ⟨.inr rfl, ?_⟩
  show optK (resA _ _ _ [.tmp 4, .tmp 5]) _
  simp only [SRO, ↓SP, SZ, ↓reduceIte, reduceCtorEq, nE, nA, nL, nT, sec_neq, hist_cs, hc16]
  rw [hx]
  exact Lend.tupL (LendL.cons .nil0 (LendL.cons (.refl _) LendL.nil))
 ·
  have p16 := hc16
  try simp only [PB] at p16
  have e0 : setsE h [l] = 0 := by simpa using p16
  obtain ⟨eh, hset⟩ := sets_ok e0
  have hmb := setP_mem hset
  have hw4 := (hist_ok eh).2.1
  have hx : leastL h l = selN (lsF h l) h.ws.length := if_neg (by omega)
  refine wpT_skip ?_
  refine wpT_seq ?_
  refine wpT_region (by kernel_rfl) (fun K hK => ?_)
  simp only [↓SP, SZ, ↓reduceIte, reduceCtorEq, nE, nA, nL, nT, sec_neq, hist_cs, hc16]
  refine Pu.call (c58 h hs eh) ?_
  simp only [↓SP, SZ, ↓reduceIte, reduceCtorEq, nE, nA, nL, nT, sec_neq, hist_cs, hc16]
  refine hK _ _ ?_
  clear hK K
  refine wpT_seq ?_
  refine wpT_region (by kernel_rfl) (fun K hK => ?_)
  simp only [↓SP, SZ, ↓reduceIte, reduceCtorEq, nE, nA, nL, nT, sec_neq, hist_cs, hc16]
  refine hK _ _ ?_
  clear hK K
  refine wpT_seq ?_
  refine wpT_seq ?_
  refine wpT_region (by kernel_rfl) (fun K hK => ?_)
  simp only [↓SP, SZ, ↓reduceIte, reduceCtorEq, nE, nA, nL, nT, sec_neq, hist_cs, hc16]
  refine hK _ _ ?_
  clear hK K
  refine wpT_block ?_
  refine wpT_loop ?_
  refine wpT_nilown 8 3 1 (by simp only [↓SP, SZ, ↓reduceIte, reduceCtorEq, nE, nA, nL, nT, sec_neq]) ?_
  refine wpT_keep2 (i := 0) (j := 1) (o := .arr 26 3 [h.av]) (q := .arr 3 1 ((selN (lsF h l) 0).map I)) (by simp only [↓SP, SZ, ↓reduceIte, reduceCtorEq, nE, nA, nL, nT, sec_neq]) (by simp only [↓SP, SZ, ↓reduceIte, reduceCtorEq, nE, nA, nL, nT, sec_neq]; rfl) ?_
  refine wpT_ind (fun (a : Nat) tm' h' => (∃ m, h' = Hp.of [(0, .arr 26 3 [h.av]), (1, .arr 3 1 ((selN (lsF h l) a).map I))] (m + 2)) ∧ tm' 1 = .lst (l.map I) ∧ tm' 2 = .ptr 0 1 0 0 ∧ tm' 7 = tabAV (tabR h) ∧ tm' 8 = .sl 1 (selN (lsF h l) a).length 0 (selN (lsF h l) a).length ∧ tm' 9 = I a ∧ a ≤ h.ws.length) (fun a => h.ws.length - a) ?_ 0 ⟨⟨0, rfl⟩, rfl, rfl, rfl, rfl, rfl, by omega⟩
  rintro a tm' _ ⟨⟨m, rfl⟩, e1, e2, e7, e8, e9, ha⟩ IH
  refine wpT_inLoop ?_
  refine wpT_seq ?_
  refine wpT_seq ?_
  refine wpT_region (by kernel_rfl) (fun K hK => ?_)
  simp only [↓SP, SZ, ↓reduceIte, reduceCtorEq, nE, nA, nL, nT, sec_neq, hist_cs, e2, e9]
  refine hK _ _ ?_
  clear hK K
  refine wpT_if (by rfl) (fun hc24 => ?_) (fun hc24 => ?_)
  ·
   have p24 := hc24
   try simp only [PB] at p24
   have hlt : a < h.ws.length := by omega
   have hln := selN_length (lsF h l) a
   have m1 : (selN (lsF h l) a).length + 1 ≤ maxLen := by simp only [maxLen]; omega
   have m2 : ((selN (lsF h l) a).length + 1) * 8 ≤ 140737488355328 := by omega
   have hta := tabR_at hlt
   refine wpT_skip ?_
   refine wpT_seq ?_
   refine wpT_block ?_
   refine wpT_seq ?_
   refine wpT_region (by kernel_rfl) (fun K hK => ?_)
   simp only [↓SP, SZ, ↓reduceIte, reduceCtorEq, nE, nA, nL, nT, sec_neq, hist_cs, e1, e9, hc24]
   refine Pu.call (c59 l a (by omega)) ?_
   simp only [↓SP, SZ, ↓reduceIte, reduceCtorEq, nE, nA, nL, nT, sec_neq, hist_cs, e1, e9, hc24]
   refine hK _ _ ?_
   clear hK K
   refine wpT_seq ?_
   refine wpT_seq ?_
   refine wpT_region (by kernel_rfl) (fun K hK => ?_)
   simp only [↓SP, SZ, ↓reduceIte, reduceCtorEq, nE, nA, nL, nT, sec_neq, hist_cs, hc24]
   refine hK _ _ ?_
   clear hK K
   refine wpT_block ?_
   refine wpT_loop ?_
   refine wpT_ind (fun (i : Nat) tm2 h2 => (∃ m, h2 = Hp.of [(0, .arr 26 3 [h.av]), (1, .arr 3 1 ((selN (lsF h l) a).map I))] (m + 2)) ∧ tm2 1 = .lst (l.map I) ∧ tm2 2 = .ptr 0 1 0 0 ∧ tm2 7 = tabAV (tabR h) ∧ tm2 8 = .sl 1 (selN (lsF h l) a).length 0 (selN (lsF h l) a).length ∧ tm2 9 = I a ∧ tm2 10 = B (lsI h l a i) ∧ tm2 11 = I i ∧ i ≤ l.length) (fun i => l.length - i) ?_ 0 ⟨⟨_, rfl⟩, by simp only [↓SP, SZ, ↓reduceIte, reduceCtorEq, nE, nA, nL, nT, sec_neq, e1], by simp only [↓SP, SZ, ↓reduceIte, reduceCtorEq, nE, nA, nL, nT, sec_neq, e2], by simp only [↓SP, SZ, ↓reduceIte, reduceCtorEq, nE, nA, nL, nT, sec_neq, e7], by simp only [↓SP, SZ, ↓reduceIte, reduceCtorEq, nE, nA, nL, nT, sec_neq, e8], by simp only [↓SP, SZ, ↓reduceIte, reduceCtorEq, nE, nA, nL, nT, sec_neq, e9], by simp only [↓SP, SZ, ↓reduceIte, reduceCtorEq, nE, nA, nL, nT, sec_neq, lsI, List.any_nil, Bool.or_false], rfl, by omega⟩
   clear e1 e2 e7 e8 e9
   rintro i tm2 _ ⟨⟨m', rfl⟩, e1, e2, e7, e8, e9, e10, e11, hi⟩ IH2
   refine wpT_inLoop ?_
   refine wpT_seq ?_
   refine wpT_seq ?_
   refine wpT_region (by kernel_rfl) (fun K hK => ?_)
   simp only [↓SP, SZ, ↓reduceIte, reduceCtorEq, nE, nA, nL, nT, sec_neq, hist_cs, e1, e11]
   refine hK _ _ ?_
   clear hK K
   refine wpT_if (by rfl) (fun hc33 => ?_) (fun hc33 => ?_)
   ·
    have p33 := hc33
    try simp only [PB] at p33
    have hlt2 : i < l.length := by omega
    have hg := at_map (f := I) hlt2
    obtain ⟨b0, b1, _⟩ := hmb _ (List.getElem_mem hlt2)
    obtain ⟨k, hk⟩ := Int.eq_ofNat_of_zero_le b0
    have hrk := rowR_at (h := h) (a := a) (b := k) (by omega)
    have hsu := lsI_succ (h := h) (a := a) hlt2
    rw [hk, Int.toNat_natCast] at hsu
    refine wpT_skip ?_
    refine wpT_seq ?_
    refine wpT_block ?_
    refine wpT_drawn [] mixed (by kernel_rfl) (m := 14) rfl (fun K hK => ?_)
    simp only [↓SP, SZ, ↓reduceIte, reduceCtorEq, nE, nA, nL, nT, sec_neq, hist_cs, e1, e7, e9, e10, e11, hg, hk, tabAV, hta, hrk, hc33]
    refine guardD_split (fun hg37 => ?_) (fun hg37 => ?_)
    ·
     have p37 := hg37
     try simp only [PB] at p37
     have hv : lsI h l a (i + 1) = befT (histRun h).2 a k := by rw [hsu, p37, Bool.false_or]
     simp only [↓SP, SZ, ↓reduceIte, reduceCtorEq, nE, nA, nL, nT, sec_neq, hist_cs, e1, e7, e9, e10, e11, hg, hk, tabAV, hta, hrk, hc33, hg37]
     refine hK _ _ ?_
     clear hK K
     refine wpT_inBlock ?_
     refine wpT_region (by kernel_rfl) (fun K hK => ?_)
     simp only [↓SP, SZ, ↓reduceIte, reduceCtorEq, nE, nA, nL, nT, sec_neq, hist_cs, e11, wrap64 (x := (i : Int) + 1) (by omega) (by omega), hc33, hg37]
     refine hK _ _ ?_
     clear hK K
     refine wpT_keep2 (i := 0) (j := 1) (o := .arr 26 3 [h.av]) (q := .arr 3 1 ((selN (lsF h l) a).map I)) (by simp only [↓SP, SZ, ↓reduceIte, reduceCtorEq, nE, nA, nL, nT, sec_neq]) (by simp only [↓SP, SZ, ↓reduceIte, reduceCtorEq, nE, nA, nL, nT, sec_neq]) ?_
     refine IH2 (i + 1) _ _ (by omega) ⟨⟨_, rfl⟩, by simp only [↓SP, SZ, ↓reduceIte, reduceCtorEq, nE, nA, nL, nT, sec_neq, e1], by simp only [↓SP, SZ, ↓reduceIte, reduceCtorEq, nE, nA, nL, nT, sec_neq, e2], by simp only [↓SP, SZ, ↓reduceIte, reduceCtorEq, nE, nA, nL, nT, sec_neq, e7], by simp only [↓SP, SZ, ↓reduceIte, reduceCtorEq, nE, nA, nL, nT, sec_neq, e8], by simp only [↓SP, SZ, ↓reduceIte, reduceCtorEq, nE, nA, nL, nT, sec_neq, e9], by simp only [↓SP, SZ, ↓reduceIte, reduceCtorEq, nE, nA, nL, nT, sec_neq, hv], by simp only [↓SP, SZ, ↓reduceIte, reduceCtorEq, nE, nA, nL, nT, sec_neq, Int.natCast_add, Int.cast_ofNat_Int], by omega⟩
    ·
     simp only [Bool.not_true, Bool.not_false] at hg37
     have p37 := hg37
     try simp only [PB] at p37
     have hv : lsI h l a (i + 1) = true := by rw [hsu, p37, Bool.true_or]
     simp only [↓SP, SZ, ↓reduceIte, reduceCtorEq, nE, nA, nL, nT, sec_neq, hist_cs, e1, e7, e9, e10, e11, hg, hk, tabAV, hta, hrk, hc33, hg37]
     refine hK _ _ ?_
     clear hK K
     refine wpT_inBlock ?_
     refine wpT_region (by kernel_rfl) (fun K hK => ?_)
     simp only [↓SP, SZ, ↓reduceIte, reduceCtorEq, nE, nA, nL, nT, sec_neq, hist_cs, e11, wrap64 (x := (i : Int) + 1) (by omega) (by omega), hc33, hg37]
     refine hK _ _ ?_
     clear hK K
     refine wpT_keep2 (i := 0) (j := 1) (o := .arr 26 3 [h.av]) (q := .arr 3 1 ((selN (lsF h l) a).map I)) (by simp only [↓SP, SZ, ↓reduceIte, reduceCtorEq, nE, nA, nL, nT, sec_neq]) (by simp only [↓SP, SZ, ↓reduceIte, reduceCtorEq, nE, nA, nL, nT, sec_neq]) ?_
     refine IH2 (i + 1) _ _ (by omega) ⟨⟨_, rfl⟩, by simp only [↓SP, SZ, ↓reduceIte, reduceCtorEq, nE, nA, nL, nT, sec_neq, e1], by simp only [↓SP, SZ, ↓reduceIte, reduceCtorEq, nE, nA, nL, nT, sec_neq, e2], by simp only [↓SP, SZ, ↓reduceIte, reduceCtorEq, nE, nA, nL, nT, sec_neq, e7], by simp only [↓SP, SZ, ↓reduceIte, reduceCtorEq, nE, nA, nL, nT, sec_neq, e8], by simp only [↓SP, SZ, ↓reduceIte, reduceCtorEq, nE, nA, nL, nT, sec_neq, e9], by simp only [↓SP, SZ, ↓reduceIte, reduceCtorEq, nE, nA, nL, nT, sec_neq, hv], by simp only [↓SP, SZ, ↓reduceIte, reduceCtorEq, nE, nA, nL, nT, sec_neq, Int.natCast_add, Int.cast_ofNat_Int], by omega⟩
   ·
    have p33 := hc33
    try simp only [PB] at p33
    have hi2 : i = l.length := by omega
    have hF : lsI h l a i = lsF h l a := by rw [hi2, lsI, List.take_length, lsF]
    refine wpT_exit rfl ?_
    refine wpT_seq ?_
    refine wpT_region (by kernel_rfl) (fun K hK => ?_)
    simp only [↓SP, SZ, ↓reduceIte, reduceCtorEq, nE, nA, nL, nT, sec_neq, hist_cs, e10, hF, hc33]
    refine hK _ _ ?_
    clear hK K
    refine wpT_if (by rfl) (fun hc49 => ?_) (fun hc49 => ?_)
    ·
     have p49 := hc49
     try simp only [PB] at p49
     have hsel : selN (lsF h l) (a + 1) = selN (lsF h l) a ++ [(a : Int)] := by rw [selN, if_pos hc49]
     refine wpT_region (by kernel_rfl) (fun K hK => ?_)
     simp only [↓SP, SZ, ↓reduceIte, reduceCtorEq, nE, nA, nL, nT, sec_neq, hist_cs, e8, e9, m1, m2, hc33, hc49]
     refine hK _ _ ?_
     clear hK K
     refine wpT_inBlock ?_
     refine wpT_region (by kernel_rfl) (fun K hK => ?_)
     simp only [↓SP, SZ, ↓reduceIte, reduceCtorEq, nE, nA, nL, nT, sec_neq, hist_cs, e9, wrap64 (x := (a : Int) + 1) (by omega) (by omega), hc33, hc49]
     refine hK _ _ ?_
     clear hK K
     first
       | (have hu := hsel
          refine wpT_keep2 (i := 0) (j := 1) (o := .arr 26 3 [h.av]) (q := .arr 3 1 ((selN (lsF h l) (a + 1)).map I)) (by simp only [↓SP, SZ, ↓reduceIte, reduceCtorEq, nE, nA, nL, nT, sec_neq]) (by simp only [↓SP, SZ, ↓reduceIte, reduceCtorEq, nE, nA, nL, nT, sec_neq, hsel, List.map_append]) ?_
          refine IH (a + 1) _ _ (by omega) ⟨⟨_, rfl⟩, by simp only [↓SP, SZ, ↓reduceIte, reduceCtorEq, nE, nA, nL, nT, sec_neq, e1], by simp only [↓SP, SZ, ↓reduceIte, reduceCtorEq, nE, nA, nL, nT, sec_neq, e2], by simp only [↓SP, SZ, ↓reduceIte, reduceCtorEq, nE, nA, nL, nT, sec_neq, e7], by simp only [↓SP, SZ, ↓reduceIte, reduceCtorEq, nE, nA, nL, nT, sec_neq, hsel], by simp only [↓SP, SZ, ↓reduceIte, reduceCtorEq, nE, nA, nL, nT, sec_neq, Int.natCast_add, Int.cast_ofNat_Int], by omega⟩)
       | (have hu := hself
          refine wpT_keep2 (i := 0) (j := 1) (o := .arr 26 3 [h.av]) (q := .arr 3 1 ((selN (lsF h l) (a + 1)).map I)) (by simp only [↓SP, SZ, ↓reduceIte, reduceCtorEq, nE, nA, nL, nT, sec_neq]) (by simp only [↓SP, SZ, ↓reduceIte, reduceCtorEq, nE, nA, nL, nT, sec_neq, hself]) ?_
          refine IH (a + 1) _ _ (by omega) ⟨⟨_, rfl⟩, by simp only [↓SP, SZ, ↓reduceIte, reduceCtorEq, nE, nA, nL, nT, sec_neq, e1], by simp only [↓SP, SZ, ↓reduceIte, reduceCtorEq, nE, nA, nL, nT, sec_neq, e2], by simp only [↓SP, SZ, ↓reduceIte, reduceCtorEq, nE, nA, nL, nT, sec_neq, e7], by simp only [↓SP, SZ, ↓reduceIte, reduceCtorEq, nE, nA, nL, nT, sec_neq, hself, e8], by simp only [↓SP, SZ, ↓reduceIte, reduceCtorEq, nE, nA, nL, nT, sec_neq, Int.natCast_add, Int.cast_ofNat_Int], by omega⟩)
    ·
     have p49 := hc49
     try simp only [PB] at p49
     have hself : selN (lsF h l) (a + 1) = selN (lsF h l) a := by rw [selN, if_neg (by simp [hc49]), List.append_nil]
     refine wpT_skip ?_
     refine wpT_inBlock ?_
     refine wpT_region (by kernel_rfl) (fun K hK => ?_)
     simp only [↓SP, SZ, ↓reduceIte, reduceCtorEq, nE, nA, nL, nT, sec_neq, hist_cs, e9, wrap64 (x := (a : Int) + 1) (by omega) (by omega), hc33, hc49]
     refine hK _ _ ?_
     clear hK K
     first
       | (have hu := hsel
          refine wpT_keep2 (i := 0) (j := 1) (o := .arr 26 3 [h.av]) (q := .arr 3 1 ((selN (lsF h l) (a + 1)).map I)) (by simp only [↓SP, SZ, ↓reduceIte, reduceCtorEq, nE, nA, nL, nT, sec_neq]) (by simp only [↓SP, SZ, ↓reduceIte, reduceCtorEq, nE, nA, nL, nT, sec_neq, hsel, List.map_append]) ?_
          refine IH (a + 1) _ _ (by omega) ⟨⟨_, rfl⟩, by simp only [↓SP, SZ, ↓reduceIte, reduceCtorEq, nE, nA, nL, nT, sec_neq, e1], by simp only [↓SP, SZ, ↓reduceIte, reduceCtorEq, nE, nA, nL, nT, sec_neq, e2], by simp only [↓SP, SZ, ↓reduceIte, reduceCtorEq, nE, nA, nL, nT, sec_neq, e7], by simp only [↓SP, SZ, ↓reduceIte, reduceCtorEq, nE, nA, nL, nT, sec_neq, hsel], by simp only [↓SP, SZ, ↓reduceIte, reduceCtorEq, nE, nA, nL, nT, sec_neq, Int.natCast_add, Int.cast_ofNat_Int], by omega⟩)
       | (have hu := hself
          refine wpT_keep2 (i := 0) (j := 1) (o := .arr 26 3 [h.av]) (q := .arr 3 1 ((selN (lsF h l) (a + 1)).map I)) (by simp only [↓SP, SZ, ↓reduceIte, reduceCtorEq, nE, nA, nL, nT, sec_neq]) (by simp only [↓SP, SZ, ↓reduceIte, reduceCtorEq, nE, nA, nL, nT, sec_neq, hself]) ?_
          refine IH (a + 1) _ _ (by omega) ⟨⟨_, rfl⟩, by simp only [↓SP, SZ, ↓reduceIte, reduceCtorEq, nE, nA, nL, nT, sec_neq, e1], by simp only [↓SP, SZ, ↓reduceIte, reduceCtorEq, nE, nA, nL, nT, sec_neq, e2], by simp only [↓SP, SZ, ↓reduceIte, reduceCtorEq, nE, nA, nL, nT, sec_neq, e7], by simp only [↓SP, SZ, ↓reduceIte, reduceCtorEq, nE, nA, nL, nT, sec_neq, hself, e8], by simp only [↓SP, SZ, ↓reduceIte, reduceCtorEq, nE, nA, nL, nT, sec_neq, Int.natCast_add, Int.cast_ofNat_Int], by omega⟩)
  ·
   have p24 := hc24
   try simp only [PB] at p24
   have ha2 : a = h.ws.length := by omega
   subst ha2
   rw [← hx] at e8 ⊢
   refine wpT_exit rfl ?_
   refine wpT_seq ?_
   refine wpT_region (by kernel_rfl) (fun K hK => ?_)
   simp only [↓SP, SZ, ↓reduceIte, reduceCtorEq, nE, nA, nL, nT, sec_neq, hist_cs, e8, hc24]
   refine hK _ _ ?_
   clear hK K
   refine wpT_ret ⟨.inr rfl, ?_⟩
   show optK (resA _ _ _ [.tmp 4, .tmp 5]) _
   simp only [SRO, ↓SP, SZ, ↓reduceIte, reduceCtorEq, nE, nA, nL, nT, sec_neq, hist_cs, hc24]
   rw [e0]
   refine Lend.tupL (LendL.cons (Lend.sl0 (E := 3) (s := 1) (by simp only [↓SP, SZ, ↓reduceIte, reduceCtorEq, nE, nA, nL, nT, sec_neq]) (by simp) (int_okc _)) (LendL.cons (.refl _) LendL.nil))
def grF (h : Hist) (l : List Int) (b : Nat) : Bool := decide ((b : Int) ∈ l) && (List.range h.ws.length).all fun a => decide ((a : Int) ∈ l) || !befT (histRun h).2 a b
theorem refNew (sz : List Int) (hl : sz.length < 4611686018427387904) : Pu Tryz.prog (.fn (.func 73) [] []) [.lst (sz.map I)] (.tup [imgAV (newImg sz), I (sizesE sz)]) := by
 refine pu_func Tryz.func73 rfl (by kernel_rfl) (by show _ ≤ 27; simp only [LN]; decide) (by simp only [IDS, tab_idf]) (by simp only [IDS, tab_idf]) (by simp only [IDS, tab_idf]) ?_
 rw [Tryz.ntmps73]
 refine wpT_seq ?_
 refine wpT_region (by kernel_rfl) (fun K hK => ?_)
 simp only [↓SP, SZ, ↓reduceIte, reduceCtorEq, nE, nA, nL, nT, sec_neq]
 refine hK _ _ ?_
 clear hK K
 refine wpT_seq ?_
 refine wpT_seq ?_
 refine wpT_region (by kernel_rfl) (fun K hK => ?_)
 simp only [↓SP, SZ, ↓reduceIte, reduceCtorEq, nE, nA, nL, nT, sec_neq]
 refine Pu.call (c68 sz hl) ?_
 simp only [↓SP, SZ, ↓reduceIte, reduceCtorEq, nE, nA, nL, nT, sec_neq]
 refine hK _ _ ?_
 clear hK K
 refine wpT_seq ?_
 refine wpT_region (by kernel_rfl) (fun K hK => ?_)
 simp only [↓SP, SZ, ↓reduceIte, reduceCtorEq, nE, nA, nL, nT, sec_neq]
 refine hK _ _ ?_
 clear hK K
 refine wpT_if (by rfl) (fun hc10 => ?_) (fun hc10 => ?_)
 ·
  have p10 := hc10
  try simp only [PB] at p10
  have hx : newImg sz = [] := if_pos p10
  refine wpT_seq ?_
  refine wpT_region (by kernel_rfl) (fun K hK => ?_)
  simp only [↓SP, SZ, ↓reduceIte, reduceCtorEq, nE, nA, nL, nT, sec_neq, hc10]
  refine hK _ _ ?_
  clear hK K
  refine wpT_ret ⟨.inr rfl, ?_⟩
  show optK (resA _ _ _ [.tmp 2, .tmp 3]) _
  simp only [SRO, ↓SP, SZ, ↓reduceIte, reduceCtorEq, nE, nA, nL, nT, sec_neq, hc10]
  rw [hx]
  exact Lend.tupL (LendL.cons .nil0 (LendL.cons (.refl _) LendL.nil))
 ·
  have p10 := hc10
  try simp only [PB] at p10
  have e0 : sizesE sz = 0 := by simpa using p10
  have hx : newImg sz = sz.map zeros := if_neg (by omega)
  have hle := sizesE_le e0
  have hl8 : sz.length ≤ 8 := by
    unfold sizesE at e0
    split at e0
    · simp at e0
    · omega
  refine wpT_skip ?_
  refine wpT_seq ?_
  refine wpT_region (by kernel_rfl) (fun K hK => ?_)
  simp only [↓SP, SZ, ↓reduceIte, reduceCtorEq, nE, nA, nL, nT, sec_neq, hc10]
  refine hK _ _ ?_
  clear hK K
  refine wpT_seq ?_
  refine wpT_seq ?_
  refine wpT_region (by kernel_rfl) (fun K hK => ?_)
  simp only [↓SP, SZ, ↓reduceIte, reduceCtorEq, nE, nA, nL, nT, sec_neq, hc10]
  refine hK _ _ ?_
  clear hK K
  refine wpT_block ?_
  refine wpT_loop ?_
  refine wpT_nilown 5 43 1 (by simp only [↓SP, SZ, ↓reduceIte, reduceCtorEq, nE, nA, nL, nT, sec_neq]) ?_
  refine wpT_keep1 (i := 0) (o := .arr 43 1 (((sz.take 0).map zeros).map fun l => .lst (l.map Sec.av))) (by simp only [↓SP, SZ, ↓reduceIte, reduceCtorEq, nE, nA, nL, nT, sec_neq]) ?_
  refine wpT_ind (fun (i : Nat) tm' h' => (∃ m, h' = Hp.of [(0, .arr 43 1 (((sz.take i).map zeros).map fun l => .lst (l.map Sec.av)))] m ∧ 0 < m) ∧ tm' 0 = .lst (sz.map I) ∧ tm' 5 = .sl 0 i 0 i ∧ tm' 6 = I i ∧ i ≤ sz.length) (fun i => sz.length - i) ?_ 0 ⟨⟨_, rfl, Nat.zero_lt_succ _⟩, rfl, rfl, rfl, by omega⟩
  rintro i tm' _ ⟨⟨m, rfl, hm⟩, e0', e5, e6, hi⟩ IH
  refine wpT_inLoop ?_
  refine wpT_seq ?_
  refine wpT_seq ?_
  refine wpT_region (by kernel_rfl) (fun K hK => ?_)
  simp only [↓SP, SZ, ↓reduceIte, reduceCtorEq, nE, nA, nL, nT, sec_neq, e0', e6]
  refine hK _ _ ?_
  clear hK K
  refine wpT_if (by rfl) (fun hc15 => ?_) (fun hc15 => ?_)
  ·
   have p15 := hc15
   try simp only [PB] at p15
   have hlt : i < sz.length := by omega
   have hg := at_map (f := I) hlt
   have hz := hle _ (List.getElem_mem hlt)
   have q1 : i + 1 ≤ maxLen := by simp only [maxLen]; omega
   have q2 : (i + 1) * 24 ≤ 140737488355328 := by omega
   have q3 : (((sz.take i).map zeros).map fun l => AV.lst (l.map Sec.av)).length = i := by simp <;> omega
   have q4 : (((sz.take (i + 1)).map zeros).map fun l => AV.lst (l.map Sec.av)) = (((sz.take i).map zeros).map fun l => AV.lst (l.map Sec.av)) ++ [.lst ((zeros sz[i]).map Sec.av)] := by rw [List.take_add_one, List.getElem?_eq_getElem hlt, List.map_append, List.map_append]; rfl
   have n0 : ¬ 0 = m := by omega
   have n1 : ¬ 0 = m + 1 := by omega
   have n0' : ¬ m = 0 := by omega
   have n1' : ¬ m + 1 = 0 := by omega
   have hze : (zeros sz[i]).map Sec.av = List.replicate (sz[i]).toNat (.agg [.int .u8 0, .int .u8 0, .int .u8 0, .int .u8 0, .int .u8 0, .int .u8 0, .int .u8 0, .int .u8 0]) := by simp [zeros, Sec.av, sec0]
   refine wpT_skip ?_
   refine wpT_seq ?_
   refine wpT_block ?_
   refine wpT_region (by kernel_rfl) (fun K hK => ?_)
   simp only [↓SP, SZ, ↓reduceIte, reduceCtorEq, nE, nA, nL, nT, sec_neq, e0', e5, e6, hg, q1, q2, List.length_take, Nat.min_eq_left hi, n0, n1, n0', n1', msO_ok 8 sz[i] sz[i] (by omega) (Int.le_refl _) (by omega) (by omega), hc15]
   refine hK _ _ ?_
   clear hK K
   refine wpT_thawO 0 m (E := 43) (s := 1) (es := (((sz.take i).map zeros).map fun l => AV.lst (l.map Sec.av)) ++ [.sl m (sz[i]).toNat 0 (sz[i]).toNat]) (es' := (((sz.take (i + 1)).map zeros).map fun l => AV.lst (l.map Sec.av))) (by simp only [↓SP, SZ, ↓reduceIte, reduceCtorEq, nE, nA, nL, nT, sec_neq, n0, n1, n0', n1']) n0 (by rw [q4, hze]; exact LendL.append (LendL.refl _) (LendL.cons (Lend.sl0 (E := 49) (s := 8) (by simp only [↓SP, SZ, ↓reduceIte, reduceCtorEq, nE, nA, nL, nT, sec_neq, n0, n1, n0', n1']) (by simp) (by simp [AV.okc])) LendL.nil)) (fun e he => by
     obtain ⟨r, _, rfl⟩ := List.mem_map.1 he
     rfl) ?_
   refine wpT_inBlock ?_
   refine wpT_region (by kernel_rfl) (fun K hK => ?_)
   simp only [↓SP, SZ, ↓reduceIte, reduceCtorEq, nE, nA, nL, nT, sec_neq, e6, wrap64 (x := (i : Int) + 1) (by omega) (by omega), hc15]
   refine hK _ _ ?_
   clear hK K
   refine wpT_keep1 (i := 0) (o := .arr 43 1 (((sz.take (i + 1)).map zeros).map fun l => .lst (l.map Sec.av))) (by simp only [↓SP, SZ, ↓reduceIte, reduceCtorEq, nE, nA, nL, nT, sec_neq, n0, n1, n0', n1']) ?_
   refine IH (i + 1) _ _ (by omega) ⟨⟨_, rfl, by simp only [↓SP, SZ, ↓reduceIte, reduceCtorEq, nE, nA, nL, nT, sec_neq]; omega⟩, by simp only [↓SP, SZ, ↓reduceIte, reduceCtorEq, nE, nA, nL, nT, sec_neq, e0'], by simp only [↓SP, SZ, ↓reduceIte, reduceCtorEq, nE, nA, nL, nT, sec_neq], by simp only [↓SP, SZ, ↓reduceIte, reduceCtorEq, nE, nA, nL, nT, sec_neq, Int.natCast_add, Int.cast_ofNat_Int], by omega⟩
  ·
   have p15 := hc15
   try simp only [PB] at p15
   have hi2 : i = sz.length := by omega
   subst hi2
   refine wpT_exit rfl ?_
   refine wpT_seq ?_
   refine wpT_region (by kernel_rfl) (fun K hK => ?_)
   simp only [↓SP, SZ, ↓reduceIte, reduceCtorEq, nE, nA, nL, nT, sec_neq, e5, hc15]
   refine hK _ _ ?_
   clear hK K
   refine wpT_ret ⟨.inr rfl, ?_⟩
   show optK (resA _ _ _ [.tmp 2, .tmp 3]) _
   simp only [SRO, ↓SP, SZ, ↓reduceIte, reduceCtorEq, nE, nA, nL, nT, sec_neq, hc15]
   rw [hx, e0]
   refine Lend.tupL (LendL.cons ?_ (LendL.cons (.refl _) LendL.nil))
   show Lend _ (.sl 0 sz.length 0 sz.length) (.lst ((sz.map zeros).map fun l => .lst (l.map Sec.av)))
   refine Lend.sl0 (E := 43) (s := 1) ?_ ?_ ?_
   · simp only [↓SP, SZ, ↓reduceIte, reduceCtorEq, nE, nA, nL, nT, sec_neq, List.take_length]
   · simp
   · intro e he
     obtain ⟨r, _, rfl⟩ := List.mem_map.1 he
     rfl
end Go.Proofs.YtfdfkmcplhloaaaGreat
end

section
set_option linter.unusedSimpArgs false
set_option linter.unusedVariables false
namespace Go.Proofs.YtfdfkmcplhloaaaGreat
open Go.Proofs
open Nat renaming reduceEqDiff → nE, reduceAdd → nA, reduceLeDiff → nL, reduceLT → nT
set_option maxRecDepth 10000
theorem apN_ne {e c by' nid : Nat} {xs : List AV} (h : xs ≠ []) (h1 : xs.length ≤ maxLen) (h2 : xs.length * by' ≤ 140737488355328) : apN e c by' nid xs = some (.sl nid xs.length 0 xs.length, .new (.arr e c xs)) := by
  cases xs with
  | nil => exact absurd rfl h
  | cons x xs => rw [apN_cons, if_pos ⟨h1, h2⟩]
theorem secs_c8 (xs : List Sec) : ∀ v ∈ xs.map Sec.av, v.cells.length = 8 := fun v hv => by
  obtain ⟨a, _, rfl⟩ := List.mem_map.1 hv
  rfl
theorem refCopy (im : List (List Sec)) (m : Nat) (hl : im.length ≤ 4096) (hm : ∀ l ∈ im, 0 < l.length ∧ l.length < 4000000) : CallV Tryz.prog (.fn (.func 93) [] []) [imgAV im] (Hp.of [] m) fun v h' => v = .sl m im.length 0 im.length ∧ ∃ fs, famIm fs = im ∧ Fam h' m fs := by
 refine callV_func Tryz.func93 rfl (by kernel_rfl) (by show _ ≤ 22; simp only [LN]; decide) ?_
 rw [Tryz.ntmps93]
 refine wpT_seq ?_
 refine wpT_region (by kernel_rfl) (fun K hK => ?_)
 simp only [↓SP, SZ, ↓reduceIte, reduceCtorEq, nE, nA, nL, nT, sec_neq, imgAV]
 refine hK _ _ ?_
 clear hK K
 refine wpT_seq ?_
 refine wpT_region (by kernel_rfl) (fun K hK => ?_)
 simp only [↓SP, SZ, ↓reduceIte, reduceCtorEq, nE, nA, nL, nT, sec_neq, imgAV]
 refine hK _ _ ?_
 clear hK K
 refine wpT_seq ?_
 refine wpT_seq ?_
 refine wpT_region (by kernel_rfl) (fun K hK => ?_)
 simp only [↓SP, SZ, ↓reduceIte, reduceCtorEq, nE, nA, nL, nT, sec_neq, imgAV]
 refine hK _ _ ?_
 clear hK K
 refine wpT_block ?_
 refine wpT_loop ?_
 refine wpT_nilown 3 43 1 (by simp only [↓SP, SZ, ↓reduceIte, reduceCtorEq, nE, nA, nL, nT, sec_neq]) ?_
 refine wpT_ind (fun (i : Nat) tm' h' => ∃ fs, Fam h' m fs ∧ famIm fs = im.take i ∧ tm' 0 = imgAV im ∧ tm' 3 = .sl m i 0 i ∧ tm' 4 = I i ∧ i ≤ im.length) (fun i => im.length - i) ?_ 0 ⟨[], ⟨by simp only [↓SP, SZ, ↓reduceIte, reduceCtorEq, nE, nA, nL, nT, sec_neq], by simp, by simp, by simp only [↓SP, SZ, ↓reduceIte, reduceCtorEq, nE, nA, nL, nT, sec_neq]; omega⟩, rfl, rfl, rfl, rfl, by omega⟩
 rintro i tm' h' ⟨fs, hF, hI, e0, e3, e4, hi⟩ IH
 refine wpT_inLoop ?_
 refine wpT_seq ?_
 refine wpT_seq ?_
 refine wpT_region (by kernel_rfl) (fun K hK => ?_)
 simp only [↓SP, SZ, ↓reduceIte, reduceCtorEq, nE, nA, nL, nT, sec_neq, imgAV, e0, e4]
 refine hK _ _ ?_
 clear hK K
 refine wpT_if (by rfl) (fun hc9 => ?_) (fun hc9 => ?_)
 ·
  have p9 := hc9
  try simp only [PB] at p9
  have hlt : i < im.length := by omega
  have hg := at_map (f := fun l : List Sec => AV.lst (l.map Sec.av)) hlt
  obtain ⟨hl0, hl1⟩ := hm _ (List.getElem_mem hlt)
  have hfl : fs.length = i := by
    have := congrArg List.length hI
    simp [famIm] at this; omega
  have q1 : i + 1 ≤ maxLen := by simp only [maxLen]; omega
  have q2 : (i + 1) * 24 ≤ 140737488355328 := by omega
  have q3 : (fs.map famE).length = i := by simp [hfl]
  have hne : (im[i]).map Sec.av ≠ [] := by
    intro e
    have e2 : im[i] = [] := by simpa using e
    rw [e2] at hl0
    simp at hl0
  have hap : ∀ nid, apN 49 8 8 nid ((im[i]).map Sec.av) = some (.sl nid ((im[i]).map Sec.av).length 0 ((im[i]).map Sec.av).length, .new (.arr 49 8 ((im[i]).map Sec.av))) := fun nid => apN_ne hne (by simp only [List.length_map, maxLen]; omega) (by simp only [List.length_map]; omega)
  have hgt := hF.get
  have hln := hF.lt
  have n1 : ¬ m = h'.nx := by omega
  have n2 : ¬ h'.nx = m := by omega
  have n3 : ¬ m = h'.nx + 1 := by omega
  have n4 : ¬ h'.nx + 1 = m := by omega
  have n5 : ¬ h'.nx + 1 = h'.nx := by omega
  have n6 : ¬ h'.nx = h'.nx + 1 := by omega
  refine wpT_skip ?_
  refine wpT_seq ?_
  refine wpT_block ?_
  refine wpT_seq ?_
  refine wpT_region (by kernel_rfl) (fun K hK => ?_)
  simp only [↓SP, SZ, ↓reduceIte, reduceCtorEq, nE, nA, nL, nT, sec_neq, imgAV, hc9]
  refine hK _ _ ?_
  clear hK K
  refine wpT_region (by kernel_rfl) (fun K hK => ?_)
  simp only [↓SP, SZ, ↓reduceIte, reduceCtorEq, nE, nA, nL, nT, sec_neq, imgAV, e0, e3, e4, hg, apO_nil0 (secs_c8 im[i]), hap, q1, q2, q3, hgt, n1, n2, n3, n4, n5, n6, hc9]
  refine hK _ _ ?_
  clear hK K
  refine wpT_inBlock ?_
  refine wpT_region (by kernel_rfl) (fun K hK => ?_)
  simp only [↓SP, SZ, ↓reduceIte, reduceCtorEq, nE, nA, nL, nT, sec_neq, imgAV, e4, wrap64 (x := (i : Int) + 1) (by omega) (by omega), hc9]
  refine hK _ _ ?_
  clear hK K
  refine IH (i + 1) _ _ (by omega) ⟨fs ++ [(h'.nx, im[i])], hF.push (Nat.le_refl _) (by simp only [↓SP, SZ, ↓reduceIte, reduceCtorEq, nE, nA, nL, nT, sec_neq]; omega) (by simp only [↓SP, SZ, ↓reduceIte, reduceCtorEq, nE, nA, nL, nT, sec_neq]; omega) (by simp only [↓SP, SZ, ↓reduceIte, reduceCtorEq, nE, nA, nL, nT, sec_neq, n1, n2, n3, n4, n5, n6, hgt, famE]) (by simp only [↓SP, SZ, ↓reduceIte, reduceCtorEq, nE, nA, nL, nT, sec_neq, n1, n2, n3, n4, n5, n6]) (fun j hj hja => ?_), ?_, by simp only [↓SP, SZ, ↓reduceIte, reduceCtorEq, nE, nA, nL, nT, sec_neq, e0], by simp only [↓SP, SZ, ↓reduceIte, reduceCtorEq, nE, nA, nL, nT, sec_neq], by simp only [↓SP, SZ, ↓reduceIte, reduceCtorEq, nE, nA, nL, nT, sec_neq, Int.natCast_add, Int.cast_ofNat_Int], by omega⟩
  · have j1 : ¬ j = h'.nx := by omega
    have j2 : ¬ j = h'.nx + 1 := by omega
    have j3 : ¬ j = m := hja
    simp only [↓SP, SZ, ↓reduceIte, reduceCtorEq, nE, nA, nL, nT, sec_neq, j1, j2, j3]
  · rw [famIm, List.map_append, List.take_add_one, List.getElem?_eq_getElem hlt, ← hI]
    rfl
 ·
  have p9 := hc9
  try simp only [PB] at p9
  have hi2 : i = im.length := by omega
  subst hi2
  rw [List.take_length] at hI
  refine wpT_exit rfl ?_
  refine wpT_seq ?_
  refine wpT_region (by kernel_rfl) (fun K hK => ?_)
  simp only [↓SP, SZ, ↓reduceIte, reduceCtorEq, nE, nA, nL, nT, sec_neq, imgAV, e3, hc9]
  refine hK _ _ ?_
  clear hK K
  refine wpT_ret ⟨.inr rfl, ?_⟩
  show optK (resA _ _ _ [.tmp 2]) _
  simp only [SRO, ↓SP, SZ, ↓reduceIte, reduceCtorEq, nE, nA, nL, nT, sec_neq, imgAV, hc9]
  exact ⟨fs, hI, hF⟩
/-- A part of a write, written. -/
theorem row_step {old data : List Sec} {s k : Nat} (hk : k < data.length) (hs : s + data.length ≤ old.length) : ((old.take s ++ data.take k) ++ old.drop (s + k)).set (s + k) data[k] = (old.take s ++ data.take (k + 1)) ++ old.drop (s + (k + 1)) := by
  have hl : (old.take s ++ data.take k).length = s + k := by simp only [List.length_append, List.length_take]; omega
  rw [List.set_append_right _ _ (by omega), hl, Nat.sub_self, List.drop_eq_getElem_cons (i := s + k) (by omega), List.set_cons_zero, List.take_add_one, List.getElem?_eq_getElem hk]
  simp only [List.append_assoc, Option.toList_some, List.cons_append, List.nil_append, Nat.add_assoc]
theorem refApply (im : List (List Sec)) (ws : List Wr) (hl : im.length < 4000000) (hw : ∀ w ∈ ws, w.data.length < 4000000) (hwl : ws.length < 4000000) : Pu Tryz.prog (.fn (.func 74) [] []) [imgAV im, .lst (ws.map Wr.av)] (.tup [imgAV (applyE im ws).1, I (applyE im ws).2.1, I (applyE im ws).2.2]) := by
 refine pu_func Tryz.func74 rfl (by kernel_rfl) (by show _ ≤ 70; simp only [LN]; decide) (by simp only [IDS]) (by simp only [IDS]) (by simp only [IDS]) ?_
 rw [Tryz.ntmps74]
 refine wpT_seq ?_
 refine wpT_region (by kernel_rfl) (fun K hK => ?_)
 simp only [↓SP, SZ, ↓reduceIte, reduceCtorEq, nE, nA, nL, nT, sec_neq]
 refine hK _ _ ?_
 clear hK K
 refine wpT_seq ?_
 refine wpT_seq ?_
 refine wpT_region (by kernel_rfl) (fun K hK => ?_)
 simp only [↓SP, SZ, ↓reduceIte, reduceCtorEq, nE, nA, nL, nT, sec_neq]
 refine Pu.call (c43 im hl) ?_
 simp only [↓SP, SZ, ↓reduceIte, reduceCtorEq, nE, nA, nL, nT, sec_neq]
 refine hK _ _ ?_
 clear hK K
 refine wpT_seq ?_
 refine wpT_region (by kernel_rfl) (fun K hK => ?_)
 simp only [↓SP, SZ, ↓reduceIte, reduceCtorEq, nE, nA, nL, nT, sec_neq]
 refine hK _ _ ?_
 clear hK K
 refine wpT_if (by rfl) (fun hc15 => ?_) (fun hc15 => ?_)
 ·
  have p15 := hc15
  try simp only [PB] at p15
  have hx : applyE im ws = ([], 0, sizesE (sizesOf im)) := if_pos p15
  refine wpT_seq ?_
  refine wpT_region (by kernel_rfl) (fun K hK => ?_)
  simp only [↓SP, SZ, ↓reduceIte, reduceCtorEq, nE, nA, nL, nT, sec_neq, hc15]
  refine hK _ _ ?_
  clear hK K
  refine wpT_ret ⟨.inr rfl, ?_⟩
  show optK (resA _ _ _ [.tmp 4, .tmp 5, .tmp 6]) _
  simp only [SRO, ↓SP, SZ, ↓reduceIte, reduceCtorEq, nE, nA, nL, nT, sec_neq, hc15]
  rw [hx]
  exact Lend.tupL (LendL.cons .nil0 (LendL.cons (.refl _) (LendL.cons (.refl _) LendL.nil)))
 ·
  have p15 := hc15
  try simp only [PB] at p15
  have hs0 : sizesE (sizesOf im) = 0 := by simpa using p15
  have hx0 : applyE im ws = applyRun 0 im ws := if_neg (by omega)
  have hl8 : im.length ≤ 8 := by
    unfold sizesE at hs0
    split at hs0
    · simp at hs0
    · have : (sizesOf im).length = im.length := by simp [sizesOf]
      omega
  have hsl : (sizesOf im).length = im.length := by simp [sizesOf]
  have hle := sizesE_le hs0
  have hml : ∀ l ∈ im, 0 < l.length ∧ l.length < 4000000 := fun l hl' => by
    have := hle (l.length : Int) (List.mem_map.2 ⟨l, hl', rfl⟩)
    omega
  have hfi : ∀ w, fitsI im w = fitsE (sizesOf im) w := fun w => if_neg (by omega)
  refine wpT_skip ?_
  refine wpT_seq ?_
  refine wpT_region (by kernel_rfl) (fun K hK => ?_)
  simp only [↓SP, SZ, ↓reduceIte, reduceCtorEq, nE, nA, nL, nT, sec_neq, hc15]
  refine (refCopy im 0 (by omega) hml).mono ?_
  rintro _ h2 ⟨rfl, fs0, hI0, hF0⟩
  simp only [↓SP, SZ, ↓reduceIte, reduceCtorEq, nE, nA, nL, nT, sec_neq, hc15]
  refine hK _ _ ?_
  clear hK K
  refine wpT_seq ?_
  refine wpT_seq ?_
  refine wpT_region (by kernel_rfl) (fun K hK => ?_)
  simp only [↓SP, SZ, ↓reduceIte, reduceCtorEq, nE, nA, nL, nT, sec_neq, hc15]
  refine hK _ _ ?_
  clear hK K
  refine wpT_block ?_
  refine wpT_loop ?_
  refine wpT_ind (fun (i : Nat) tm' h' => ∃ fs, Fam h' 0 fs ∧ sizesOf (famIm fs) = sizesOf im ∧ applyRun i (famIm fs) (ws.drop i) = applyRun 0 im ws ∧ tm' 0 = imgAV im ∧ tm' 1 = .lst (ws.map Wr.av) ∧ tm' 8 = .sl 0 im.length 0 im.length ∧ tm' 9 = I i ∧ i ≤ ws.length) (fun i => ws.length - i) ?_ 0 ⟨fs0, hF0, by rw [hI0], by rw [hI0]; rfl, rfl, rfl, rfl, rfl, by omega⟩
  rintro i tm' h' ⟨fs, hF, hsz, hrun, e0, e1, e8, e9, hi⟩ IH
  have hfl : fs.length = im.length := by
    have := congrArg List.length hsz
    simpa [sizesOf, famIm] using this
  refine wpT_inLoop ?_
  refine wpT_seq ?_
  refine wpT_seq ?_
  refine wpT_region (by kernel_rfl) (fun K hK => ?_)
  simp only [↓SP, SZ, ↓reduceIte, reduceCtorEq, nE, nA, nL, nT, sec_neq, e1, e9]
  refine hK _ _ ?_
  clear hK K
  refine wpT_if (by rfl) (fun hc22 => ?_) (fun hc22 => ?_)
  ·
   have p22 := hc22
   try simp only [PB] at p22
   have hlt : i < ws.length := by omega
   have hg := at_map (f := Wr.av) hlt
   have hwi := hw _ (List.getElem_mem hlt)
   rw [List.drop_eq_getElem_cons hlt, applyRun, hsz] at hrun
   refine wpT_skip ?_
   refine wpT_seq ?_
   refine wpT_block ?_
   refine wpT_seq ?_
   refine wpT_seq ?_
   refine wpT_region (by kernel_rfl) (fun K hK => ?_)
   simp only [↓SP, SZ, ↓reduceIte, reduceCtorEq, nE, nA, nL, nT, sec_neq, e0, e1, e9, hg, hfi, hc22]
   refine Pu.call (c94 im ws[i] hl) ?_
   simp only [↓SP, SZ, ↓reduceIte, reduceCtorEq, nE, nA, nL, nT, sec_neq, e0, e1, e9, hg, hfi, hc22]
   refine hK _ _ ?_
   clear hK K
   refine wpT_seq ?_
   refine wpT_region (by kernel_rfl) (fun K hK => ?_)
   simp only [↓SP, SZ, ↓reduceIte, reduceCtorEq, nE, nA, nL, nT, sec_neq, hfi, hc22]
   refine hK _ _ ?_
   clear hK K
   refine wpT_if (by rfl) (fun hc32 => ?_) (fun hc32 => ?_)
   ·
    have p32 := hc32
    try simp only [PB] at p32
    rw [if_pos p32] at hrun
    refine wpT_seq ?_
    refine wpT_region (by kernel_rfl) (fun K hK => ?_)
    simp only [↓SP, SZ, ↓reduceIte, reduceCtorEq, nE, nA, nL, nT, sec_neq, e9, hfi, hc22, hc32]
    refine hK _ _ ?_
    clear hK K
    refine wpT_ret ⟨.inr rfl, ?_⟩
    show optK (resA _ _ _ [.tmp 4, .tmp 5, .tmp 6]) _
    simp only [SRO, ↓SP, SZ, ↓reduceIte, reduceCtorEq, nE, nA, nL, nT, sec_neq, hc22, hc32]
    rw [hx0, ← hrun]
    exact Lend.tupL (LendL.cons .nil0 (LendL.cons (.refl _) (LendL.cons (.refl _) LendL.nil)))
   ·
    have p32 := hc32
    try simp only [PB] at p32
    rw [if_neg (by omega)] at hrun
    obtain ⟨k1, k2, k3, k4, k5⟩ := fitsE_ok (sz := sizesOf im) (w := ws[i]) (by simpa using p32)
    obtain ⟨v, hv⟩ := Int.eq_ofNat_of_zero_le k1
    obtain ⟨s, hs⟩ := Int.eq_ofNat_of_zero_le k4
    have hvl : v < fs.length := by omega
    obtain ⟨id, old, hp⟩ : ∃ id old, fs[v] = (id, old) := ⟨_, _, rfl⟩
    have hp2 : fs[v]? = some (id, old) := by rw [List.getElem?_eq_getElem hvl, hp]
    have hold : (sizesOf im).getD ws[i].vol.toNat 0 = (old.length : Int) := by
      rw [← hsz, hv, Int.toNat_natCast]
      simp [sizesOf, famIm, List.getD_eq_getElem?_getD, hp2]
    have hso : s + (ws[i]).data.length ≤ old.length := by omega
    have hol := hle (old.length : Int) (by rw [← hsz]; exact List.mem_map.2 ⟨old, List.mem_map.2 ⟨(id, old), List.mem_of_getElem? hp2, rfl⟩, rfl⟩)
    have hz0 : (0 : Int) ≤ (v : Int) := by omega
    have hz1 : (v : Int) < (im.length : Int) := by omega
    refine wpT_skip ?_
    refine wpT_seq ?_
    refine wpT_region (by kernel_rfl) (fun K hK => ?_)
    simp only [↓SP, SZ, ↓reduceIte, reduceCtorEq, nE, nA, nL, nT, sec_neq, hc22, hc32]
    refine hK _ _ ?_
    clear hK K
    refine wpT_block ?_
    refine wpT_loop ?_
    refine wpT_ind (fun (k : Nat) tm2 h2 => Fam h2 0 (fs.set v (id, (old.take s ++ (ws[i]).data.take k) ++ old.drop (s + k))) ∧ tm2 0 = imgAV im ∧ tm2 1 = .lst (ws.map Wr.av) ∧ tm2 8 = .sl 0 im.length 0 im.length ∧ tm2 9 = I i ∧ tm2 11 = I k ∧ k ≤ (ws[i]).data.length) (fun k => (ws[i]).data.length - k) ?_ 0 ⟨?_, by simp only [↓SP, SZ, ↓reduceIte, reduceCtorEq, nE, nA, nL, nT, sec_neq, e0], by simp only [↓SP, SZ, ↓reduceIte, reduceCtorEq, nE, nA, nL, nT, sec_neq, e1], by simp only [↓SP, SZ, ↓reduceIte, reduceCtorEq, nE, nA, nL, nT, sec_neq, e8], by simp only [↓SP, SZ, ↓reduceIte, reduceCtorEq, nE, nA, nL, nT, sec_neq, e9], rfl, by omega⟩
    rotate_left
    · have e : (old.take s ++ (ws[i]).data.take 0) ++ old.drop (s + 0) = old := by simp
      rw [e, ← hp, List.set_getElem_self]
      exact hF
    clear e0 e1 e8 e9
    rintro k tm2 h2 ⟨hF2, e0, e1, e8, e9, e11, hk⟩ IH2
    refine wpT_inLoop ?_
    refine wpT_seq ?_
    refine wpT_seq ?_
    refine wpT_region (by kernel_rfl) (fun K hK => ?_)
    simp only [↓SP, SZ, ↓reduceIte, reduceCtorEq, nE, nA, nL, nT, sec_neq, e1, e9, e11, hg, wr_cs]
    refine hK _ _ ?_
    clear hK K
    refine wpT_if (by rfl) (fun hc42 => ?_) (fun hc42 => ?_)
    ·
     have p42 := hc42
     try simp only [PB] at p42
     have hkl : k < (ws[i]).data.length := by omega
     have hg2 := at_map (f := Sec.av) hkl
     have hset : ((fs.set v (id, (old.take s ++ (ws[i]).data.take k) ++ old.drop (s + k))))[v]? = some (id, (old.take s ++ (ws[i]).data.take k) ++ old.drop (s + k)) := by rw [List.getElem?_set, if_pos rfl, if_pos hvl]
     have hrl : ((old.take s ++ (ws[i]).data.take k) ++ old.drop (s + k)).length = old.length := by simp only [List.length_append, List.length_take, List.length_drop]; omega
     obtain ⟨hm1, hm2, hm3⟩ := hF2.mem _ (List.mem_of_getElem? hset)
     simp only at hm1 hm2 hm3
     have hgf : ((fs.set v (id, (old.take s ++ (ws[i]).data.take k) ++ old.drop (s + k))).map famE)[v]? = some (.sl id old.length 0 old.length) := by rw [List.getElem?_map, hset]; simp only [famE, hrl, Option.map_some]
     have hfg := hF2.get
     have hsl2 : (fs.set v (id, (old.take s ++ (ws[i]).data.take k) ++ old.drop (s + k))).length = im.length := by rw [List.length_set, hfl]
     have n5 : ¬ id = 0 := by omega
     have n6 : ¬ 0 = id := by omega
     have hwr : IntKind.i64.wrap ((s : Int) + (k : Int)) = ((s + k : Nat) : Int) := by rw [wrap64 (by omega) (by omega)]; omega
     have hsk0 : (0 : Int) ≤ ((s + k : Nat) : Int) := by omega
     have hsk1 : ((s + k : Nat) : Int) < (old.length : Int) := by omega
     have hgo := at_map (f := Sec.av) (xs := (old.take s ++ (ws[i]).data.take k) ++ old.drop (s + k)) (i := s + k) (by rw [hrl]; omega)
     refine wpT_skip ?_
     refine wpT_seq ?_
     refine wpT_block ?_
     refine wpT_drawn [] mixed (by kernel_rfl) (m := 25) rfl (fun K hK => ?_)
     simp only [↓SP, SZ, ↓reduceIte, reduceCtorEq, nE, nA, nL, nT, sec_neq, e1, e8, e9, e11, hg, hg2, wr_cs, hv, hs, hfg, hgf, hm1, hsl2, hrl, n5, n6, hz0, hz1, hwr, hsk0, hsk1, hgo, Int.toNat_natCast, ldO_arr, stO_arr, Option.bind_some, hc42]
     refine hK _ _ ?_
     clear hK K
     refine wpT_inBlock ?_
     refine wpT_region (by kernel_rfl) (fun K hK => ?_)
     simp only [↓SP, SZ, ↓reduceIte, reduceCtorEq, nE, nA, nL, nT, sec_neq, e11, wrap64 (x := (k : Int) + 1) (by omega) (by omega), hc42]
     refine hK _ _ ?_
     clear hK K
     refine IH2 (k + 1) _ _ (by omega) ⟨?_, by simp only [↓SP, SZ, ↓reduceIte, reduceCtorEq, nE, nA, nL, nT, sec_neq, e0], by simp only [↓SP, SZ, ↓reduceIte, reduceCtorEq, nE, nA, nL, nT, sec_neq, e1], by simp only [↓SP, SZ, ↓reduceIte, reduceCtorEq, nE, nA, nL, nT, sec_neq, e8], by simp only [↓SP, SZ, ↓reduceIte, reduceCtorEq, nE, nA, nL, nT, sec_neq, e9], by simp only [↓SP, SZ, ↓reduceIte, reduceCtorEq, nE, nA, nL, nT, sec_neq, Int.natCast_add, Int.cast_ofNat_Int], by omega⟩
     have hrs := row_step (old := old) (data := (ws[i]).data) (s := s) hkl hso
     have := hF2.set (H' := (h2.up 25).set id (.arr 49 8 (((old.take s ++ (ws[i]).data.take k) ++ old.drop (s + k)).map Sec.av |>.set (s + k) (ws[i]).data[k].av))) (new := (old.take s ++ (ws[i]).data.take (k + 1)) ++ old.drop (s + (k + 1))) hset (by simp only [List.length_append, List.length_take, List.length_drop]; omega) (by simp only [↓SP, SZ, ↓reduceIte, reduceCtorEq, nE, nA, nL, nT, sec_neq]; omega) (by simp only [↓SP, SZ, ↓reduceIte, reduceCtorEq, nE, nA, nL, nT, sec_neq, ← hrs, List.map_set]) (fun j hj hja => by simp only [↓SP, SZ, ↓reduceIte, reduceCtorEq, nE, nA, nL, nT, sec_neq, hja])
     rwa [List.set_set] at this
    ·
     have p42 := hc42
     try simp only [PB] at p42
     have hk2 : k = (ws[i]).data.length := by omega
     refine wpT_exit rfl ?_
     refine wpT_inBlock ?_
     refine wpT_region (by kernel_rfl) (fun K hK => ?_)
     simp only [↓SP, SZ, ↓reduceIte, reduceCtorEq, nE, nA, nL, nT, sec_neq, e9, wrap64 (x := (i : Int) + 1) (by omega) (by omega), hc42]
     refine hK _ _ ?_
     clear hK K
     have him : applyW (famIm fs) ws[i] = famIm (fs.set v (id, (old.take s ++ (ws[i]).data.take k) ++ old.drop (s + k))) := by
       have hd : (famIm fs).getD v [] = old := by simp [famIm, List.getD_eq_getElem?_getD, hp2]
       rw [applyW, hv, hs, Int.toNat_natCast, Int.toNat_natCast, hd, hk2, List.take_length]
       simp only [famIm, List.map_set]
     refine IH (i + 1) _ _ (by omega) ⟨_, hF2, ?_, ?_, by simp only [↓SP, SZ, ↓reduceIte, reduceCtorEq, nE, nA, nL, nT, sec_neq, e0], by simp only [↓SP, SZ, ↓reduceIte, reduceCtorEq, nE, nA, nL, nT, sec_neq, e1], by simp only [↓SP, SZ, ↓reduceIte, reduceCtorEq, nE, nA, nL, nT, sec_neq, e8], by simp only [↓SP, SZ, ↓reduceIte, reduceCtorEq, nE, nA, nL, nT, sec_neq, Int.natCast_add, Int.cast_ofNat_Int], by omega⟩
     · rw [← him, applyW_sizes (by rw [hsz]; exact p32), hsz]
     · rw [← him]; exact hrun
  ·
   have p22 := hc22
   try simp only [PB] at p22
   rw [List.drop_eq_nil_of_le (by omega), applyRun] at hrun
   refine wpT_exit rfl ?_
   refine wpT_seq ?_
   refine wpT_region (by kernel_rfl) (fun K hK => ?_)
   simp only [↓SP, SZ, ↓reduceIte, reduceCtorEq, nE, nA, nL, nT, sec_neq, e8, hc22]
   refine hK _ _ ?_
   clear hK K
   refine wpT_ret ⟨.inr rfl, ?_⟩
   show optK (resA _ _ _ [.tmp 4, .tmp 5, .tmp 6]) _
   simp only [SRO, ↓SP, SZ, ↓reduceIte, reduceCtorEq, nE, nA, nL, nT, sec_neq, hc22]
   rw [hx0, ← hrun]
   have := hF.lend
   rw [hfl] at this
   exact Lend.tupL (LendL.cons this (LendL.cons (.refl _) (LendL.cons (.refl _) LendL.nil)))
end Go.Proofs.YtfdfkmcplhloaaaGreat
end

section
set_option linter.unusedSimpArgs false
set_option linter.unusedVariables false
namespace Go.Proofs.YtfdfkmcplhloaaaGreat
open Go.Proofs
open Nat renaming reduceEqDiff → nE, reduceAdd → nA, reduceLeDiff → nL, reduceLT → nT
set_option maxRecDepth 10000
theorem wrs_take {h : Hist} {l : List Int} {i k : Nat} (hi : i < l.length) (hk : l[i] = (k : Int)) (hkl : k < h.ws.length) : (((l.take (i + 1)).map (wrAt h.ws)).map Wr.av) = (((l.take i).map (wrAt h.ws)).map Wr.av) ++ [(h.ws[k]).av] := by
  rw [List.take_add_one, List.getElem?_eq_getElem hi, List.map_append, List.map_append, hk]
  simp only [Option.toList_some, List.map_cons, List.map_nil, wrAt_eq (List.getElem?_eq_getElem hkl)]
theorem refImage (h : Hist) (l : List Int) (hs : h.sm) (hl : l.length < 4000000) : Pu Tryz.prog (.fn (.func 48) [] []) [h.av, .lst (l.map I)] (.tup [imgAV (imageR h l), I (imageE h l)]) := by
 refine pu_func Tryz.func48 rfl (by kernel_rfl) (by show _ ≤ 57; simp only [LN]; decide) (by simp only [IDS]) (by simp only [IDS]) (by simp only [IDS]) ?_
 rw [Tryz.ntmps48]
 refine wpT_seq ?_
 refine wpT_region (by kernel_rfl) (fun K hK => ?_)
 simp only [↓SP, SZ, ↓reduceIte, reduceCtorEq, nE, nA, nL, nT, sec_neq, sec_eql, hist_cs]
 refine hK _ _ ?_
 clear hK K
 refine wpT_seq ?_
 refine wpT_seq ?_
 refine wpT_region (by kernel_rfl) (fun K hK => ?_)
 simp only [↓SP, SZ, ↓reduceIte, reduceCtorEq, nE, nA, nL, nT, sec_neq, sec_eql, hist_cs]
 refine Pu.call (c42 h hs) ?_
 simp only [↓SP, SZ, ↓reduceIte, reduceCtorEq, nE, nA, nL, nT, sec_neq, sec_eql, hist_cs]
 refine hK _ _ ?_
 clear hK K
 refine wpT_seq ?_
 refine wpT_region (by kernel_rfl) (fun K hK => ?_)
 simp only [↓SP, SZ, ↓reduceIte, reduceCtorEq, nE, nA, nL, nT, sec_neq, sec_eql, hist_cs]
 refine hK _ _ ?_
 clear hK K
 refine wpT_if (by rfl) (fun hc17 => ?_) (fun hc17 => ?_)
 ·
  have p17 := hc17
  try simp only [PB] at p17
  have hx : imageE h l = histE h := if_pos p17
  have hx2 : imageR h l = [] := if_pos (by omega)
  refine wpT_seq ?_
  refine wpT_region (by kernel_rfl) (fun K hK => ?_)
  simp only [↓SP, SZ, ↓reduceIte, reduceCtorEq, nE, nA, nL, nT, sec_neq, sec_eql, hist_cs, hc17]
  refine hK _ _ ?_
  clear hK K
  refine wpT_ret ⟨.inr rfl, ?_⟩
  show optK (resA _ _ _ [.tmp 4, .tmp 5]) _
  simp only [SRO, ↓SP, SZ, ↓reduceIte, reduceCtorEq, nE, nA, nL, nT, sec_neq, sec_eql, hist_cs, hc17]
  rw [hx2, hx]
  exact Lend.tupL (LendL.cons .nil0 (LendL.cons (.refl _) LendL.nil))
 ·
  have p17 := hc17
  try simp only [PB] at p17
  have e0 : histE h = 0 := by simpa using p17
  have hx : imageE h l = if setP h.ws.length (-1) l = true then 0 else 2 := if_neg (by omega)
  have h1 := (hist_ok e0).1
  refine wpT_skip ?_
  refine wpT_seq ?_
  refine wpT_seq ?_
  refine wpT_region (by kernel_rfl) (fun K hK => ?_)
  simp only [↓SP, SZ, ↓reduceIte, reduceCtorEq, nE, nA, nL, nT, sec_neq, sec_eql, hist_cs, hc17]
  refine Pu.call (c72 l h.ws.length (by omega)) ?_
  simp only [↓SP, SZ, ↓reduceIte, reduceCtorEq, nE, nA, nL, nT, sec_neq, sec_eql, hist_cs, hc17]
  refine hK _ _ ?_
  clear hK K
  refine wpT_if (by rfl) (fun hc24 => ?_) (fun hc24 => ?_)
  ·
   have p24 := hc24
   try simp only [PB] at p24
   have hx1 : imageE h l = 2 := by rw [hx, if_neg (by simp_all)]
   have hx2 : imageR h l = [] := if_pos (by omega)
   refine wpT_seq ?_
   refine wpT_region (by kernel_rfl) (fun K hK => ?_)
   simp only [↓SP, SZ, ↓reduceIte, reduceCtorEq, nE, nA, nL, nT, sec_neq, sec_eql, hist_cs, hc17, hc24]
   refine hK _ _ ?_
   clear hK K
   refine wpT_ret ⟨.inr rfl, ?_⟩
   show optK (resA _ _ _ [.tmp 4, .tmp 5]) _
   simp only [SRO, ↓SP, SZ, ↓reduceIte, reduceCtorEq, nE, nA, nL, nT, sec_neq, sec_eql, hist_cs, hc17, hc24]
   rw [hx2, hx1]
   exact Lend.tupL (LendL.cons .nil0 (LendL.cons (.refl _) LendL.nil))
  ·
   have p24 := hc24
   try simp only [PB] at p24
   have hset : setP h.ws.length (-1) l = true := by simpa using p24
   have hx1 : imageE h l = 0 := by rw [hx, hset]; rfl
   have hx2 : imageR h l = imgS h l := if_neg (by omega)
   have hmb := setP_mem hset
   have hia := image_apply e0 hset
   have hwl := hs.2.1
   refine wpT_skip ?_
   refine wpT_seq ?_
   refine wpT_region (by kernel_rfl) (fun K hK => ?_)
   simp only [↓SP, SZ, ↓reduceIte, reduceCtorEq, nE, nA, nL, nT, sec_neq, sec_eql, hist_cs, hc17, hc24]
   refine Pu.call (refNew h.sizes hs.ok.1) ?_
   simp only [↓SP, SZ, ↓reduceIte, reduceCtorEq, nE, nA, nL, nT, sec_neq, sec_eql, hist_cs, hc17, hc24]
   refine hK _ _ ?_
   clear hK K
   refine wpT_seq ?_
   refine wpT_region (by kernel_rfl) (fun K hK => ?_)
   simp only [↓SP, SZ, ↓reduceIte, reduceCtorEq, nE, nA, nL, nT, sec_neq, sec_eql, hist_cs, hc17, hc24]
   refine hK _ _ ?_
   clear hK K
   refine wpT_seq ?_
   refine wpT_seq ?_
   refine wpT_region (by kernel_rfl) (fun K hK => ?_)
   simp only [↓SP, SZ, ↓reduceIte, reduceCtorEq, nE, nA, nL, nT, sec_neq, sec_eql, hist_cs, hc17, hc24]
   refine hK _ _ ?_
   clear hK K
   refine wpT_block ?_
   refine wpT_loop ?_
   refine wpT_nilown 9 45 3 (by simp only [↓SP, SZ, ↓reduceIte, reduceCtorEq, nE, nA, nL, nT, sec_neq, sec_eql]) ?_
   refine wpT_keep2 (i := 0) (j := 1) (o := .arr 26 3 [h.av]) (q := .arr 45 3 (((l.take 0).map (wrAt h.ws)).map Wr.av)) (by simp only [↓SP, SZ, ↓reduceIte, reduceCtorEq, nE, nA, nL, nT, sec_neq, sec_eql]) (by simp only [↓SP, SZ, ↓reduceIte, reduceCtorEq, nE, nA, nL, nT, sec_neq, sec_eql]) ?_
   refine wpT_ind (fun (i : Nat) tm' h' => (∃ m, h' = Hp.of [(0, .arr 26 3 [h.av]), (1, .arr 45 3 (((l.take i).map (wrAt h.ws)).map Wr.av))] (m + 2)) ∧ tm' 1 = .lst (l.map I) ∧ tm' 2 = .ptr 0 1 0 0 ∧ tm' 7 = imgAV (newImg h.sizes) ∧ tm' 9 = .sl 1 i 0 i ∧ tm' 10 = I i ∧ i ≤ l.length) (fun i => l.length - i) ?_ 0 ⟨⟨0, rfl⟩, rfl, rfl, rfl, rfl, rfl, by omega⟩
   rintro i tm' _ ⟨⟨m, rfl⟩, e1, e2, e7, e9, e10, hi⟩ IH
   refine wpT_inLoop ?_
   refine wpT_seq ?_
   refine wpT_seq ?_
   refine wpT_region (by kernel_rfl) (fun K hK => ?_)
   simp only [↓SP, SZ, ↓reduceIte, reduceCtorEq, nE, nA, nL, nT, sec_neq, sec_eql, hist_cs, e1, e10]
   refine hK _ _ ?_
   clear hK K
   refine wpT_if (by rfl) (fun hc34 => ?_) (fun hc34 => ?_)
   ·
    have p34 := hc34
    try simp only [PB] at p34
    have hlt : i < l.length := by omega
    have hg := at_map (f := I) hlt
    obtain ⟨b0, b1, _⟩ := hmb _ (List.getElem_mem hlt)
    obtain ⟨k, hk⟩ := Int.eq_ofNat_of_zero_le b0
    have hkl : k < h.ws.length := by omega
    have hgw := at_map (f := Wr.av) hkl
    have q1 : i + 1 ≤ maxLen := by simp only [maxLen]; omega
    have q2 : (i + 1) * 40 ≤ 140737488355328 := by omega
    have q3 : (((l.take i).map (wrAt h.ws)).map Wr.av).length = i := by simp <;> omega
    refine wpT_skip ?_
    refine wpT_seq ?_
    refine wpT_block ?_
    refine wpT_drawn [] mixed (by kernel_rfl) (m := 12) rfl (fun K hK => ?_)
    simp only [↓SP, SZ, ↓reduceIte, reduceCtorEq, nE, nA, nL, nT, sec_neq, sec_eql, hist_cs, e1, e2, e9, e10, hg, hk, hgw, q1, q2, List.length_take, Nat.min_eq_left hi, hc34]
    refine hK _ _ ?_
    clear hK K
    refine wpT_inBlock ?_
    refine wpT_region (by kernel_rfl) (fun K hK => ?_)
    simp only [↓SP, SZ, ↓reduceIte, reduceCtorEq, nE, nA, nL, nT, sec_neq, sec_eql, hist_cs, e10, wrap64 (x := (i : Int) + 1) (by omega) (by omega), hc34]
    refine hK _ _ ?_
    clear hK K
    refine wpT_keep2 (i := 0) (j := 1) (o := .arr 26 3 [h.av]) (q := .arr 45 3 (((l.take (i + 1)).map (wrAt h.ws)).map Wr.av)) (by simp only [↓SP, SZ, ↓reduceIte, reduceCtorEq, nE, nA, nL, nT, sec_neq, sec_eql]) (by simp only [↓SP, SZ, ↓reduceIte, reduceCtorEq, nE, nA, nL, nT, sec_neq, sec_eql, wrs_take hlt hk hkl]) ?_
    refine IH (i + 1) _ _ (by omega) ⟨⟨_, rfl⟩, by simp only [↓SP, SZ, ↓reduceIte, reduceCtorEq, nE, nA, nL, nT, sec_neq, sec_eql, e1], by simp only [↓SP, SZ, ↓reduceIte, reduceCtorEq, nE, nA, nL, nT, sec_neq, sec_eql, e2], by simp only [↓SP, SZ, ↓reduceIte, reduceCtorEq, nE, nA, nL, nT, sec_neq, sec_eql, e7], by simp only [↓SP, SZ, ↓reduceIte, reduceCtorEq, nE, nA, nL, nT, sec_neq, sec_eql], by simp only [↓SP, SZ, ↓reduceIte, reduceCtorEq, nE, nA, nL, nT, sec_neq, sec_eql, Int.natCast_add, Int.cast_ofNat_Int], by omega⟩
   ·
    have p34 := hc34
    try simp only [PB] at p34
    have hi2 : i = l.length := by omega
    subst hi2
    refine wpT_exit rfl ?_
    refine wpT_seq ?_
    refine wpT_region (by kernel_rfl) (fun K hK => ?_)
    simp only [↓SP, SZ, ↓reduceIte, reduceCtorEq, nE, nA, nL, nT, sec_neq, sec_eql, hist_cs, e7, e9, hc34]
    refine Pu.freeze (refApply (newImg h.sizes) (l.map (wrAt h.ws)) ?_ ?_ ?_) 1 (LendL.cons (.refl _) (LendL.cons (Lend.sl0 (E := 45) (s := 3) (by simp only [↓SP, SZ, ↓reduceIte, reduceCtorEq, nE, nA, nL, nT, sec_neq, sec_eql, List.take_length]) (by simp) (wrs_okc _)) LendL.nil)) ?_
    · have := (new_lens h1).1; omega
    · intro w hw
      obtain ⟨i, hi, rfl⟩ := List.mem_map.1 hw
      exact hs.2.2.2 _ (wrAt_mem (hmb i hi).1 (hmb i hi).2.1)
    · simpa using hl
    simp only [↓SP, SZ, ↓reduceIte, reduceCtorEq, nE, nA, nL, nT, sec_neq, sec_eql, hist_cs, e7, e9, hc34]
    refine hK _ _ ?_
    clear hK K
    refine wpT_seq ?_
    refine wpT_region (by kernel_rfl) (fun K hK => ?_)
    simp only [↓SP, SZ, ↓reduceIte, reduceCtorEq, nE, nA, nL, nT, sec_neq, sec_eql, hist_cs, hc34]
    refine hK _ _ ?_
    clear hK K
    refine wpT_ret ⟨.inr rfl, ?_⟩
    show optK (resA _ _ _ [.tmp 4, .tmp 5]) _
    simp only [SRO, ↓SP, SZ, ↓reduceIte, reduceCtorEq, nE, nA, nL, nT, sec_neq, sec_eql, hist_cs, hc34]
    rw [hx2, hx1, hia]
    exact .refl _
def rcS (h : Hist) (im : List (List Sec)) (cs : List Ct) (rq : List Bool) : Prop := unkC (ctsH 0 h.ws) im = cs.find? (ukP (ctsH 0 h.ws)) ∧ ∀ n : Nat, n < h.ws.length → ((n : Int) ∈ reqL (ctsH 0 h.ws) im ↔ rq.getD n false = true ∨ (n : Int) ∈ cs.filterMap (rqF (ctsH 0 h.ws)))
theorem rcS_zero {h : Hist} {im : List (List Sec)} {c : Ct} {cs : List Ct} {rq : List Bool} (hs : rcS h im (c :: cs) rq) (hc : c.dat = sec0) : rcS h im cs rq := by
  refine ⟨hs.1.trans ?_, fun n hn => (hs.2 n hn).trans ?_⟩
  · rw [List.find?_cons]; simp [ukP, hc]
  · simp [rqF, hc]
theorem rcS_some {h : Hist} {im : List (List Sec)} {c : Ct} {cs : List Ct} {rq : List Bool} {k : Nat} (hs : rcS h im (c :: cs) rq) (hc : c.dat ≠ sec0) (hk : assoc c (ctsH 0 h.ws) = some (k : Int)) (hl : k < rq.length) : rcS h im cs (rq.set k true) := by
  refine ⟨hs.1.trans ?_, fun n hn => (hs.2 n hn).trans ?_⟩
  · rw [List.find?_cons]; simp [ukP, hk]
  · rw [getD_set hl, List.filterMap_cons]
    simp only [rqF, if_neg hc, hk, List.mem_cons]
    by_cases e : n = k
    · simp [e]
    · have : ¬ (n : Int) = k := by omega
      simp [e, this]
theorem rcS_none {h : Hist} {im : List (List Sec)} {c : Ct} {cs : List Ct} {rq : List Bool} (hs : rcS h im (c :: cs) rq) (hc : c.dat ≠ sec0) (hk : assoc c (ctsH 0 h.ws) = none) : unkC (ctsH 0 h.ws) im = some c := by
  rw [hs.1, List.find?_cons]; simp [ukP, hk, hc]
/-- The contents from place k of volume v on. -/
def restC (im : List (List Sec)) (v k : Nat) : List Ct := ctsW v (k : Int) ((im.getD v []).drop k) ++ imCts (v + 1) (im.drop (v + 1))
theorem restC_begin (im : List (List Sec)) {v : Nat} (hv : v < im.length) : imCts v (im.drop v) = restC im v 0 := by
  have : im.getD v [] = im[v] := by simp [hv]
  rw [List.drop_eq_getElem_cons hv, imCts, restC, this]
  rfl
theorem restC_step {im : List (List Sec)} {v k : Nat} (hv : v < im.length) (hk : k < im[v].length) : restC im v k = ⟨v, k, im[v][k]⟩ :: restC im v (k + 1) := by
  have : im.getD v [] = im[v] := by simp [hv]
  rw [restC, this, List.drop_eq_getElem_cons hk, ctsW, List.cons_append, restC, this]
  rfl
theorem restC_end {im : List (List Sec)} {v : Nat} (hv : v < im.length) : restC im v im[v].length = imCts (v + 1) (im.drop (v + 1)) := by
  have : im.getD v [] = im[v] := by simp [hv]
  rw [restC, this, List.drop_length, ctsW, List.nil_append]
end Go.Proofs.YtfdfkmcplhloaaaGreat
end

section
set_option linter.unusedSimpArgs false
set_option linter.unusedVariables false
namespace Go.Proofs.YtfdfkmcplhloaaaGreat
open Go.Proofs
open Nat renaming reduceEqDiff → nE, reduceAdd → nA, reduceLeDiff → nL, reduceLT → nT
set_option maxRecDepth 10000
theorem refCand (h : Hist) (im : List (List Sec)) (hs : h.sm) (e : judgeE h im = 0) : Pu Tryz.prog (.fn (.func 23) [] []) [h.av, imgAV im] (.tup [.lst ((candL h im).map I), (candW h im).av, B (!(unkC (ctsH 0 h.ws) im).isSome)]) := by
 refine pu_func Tryz.func23 rfl (by kernel_rfl) (by show _ ≤ 144; simp only [LN]; decide) (by simp only [IDS]) (by simp only [IDS]) (by simp only [IDS]) ?_
 rw [Tryz.ntmps23]
 obtain ⟨eh, hz, hd⟩ := judge_ok e
 obtain ⟨hl8, hl4⟩ := im_small eh hz
 have hwl := hs.2.1
 have hw4 := (hist_ok eh).2.1
 refine wpT_seq ?_
 refine wpT_region (by kernel_rfl) (fun K hK => ?_)
 simp only [↓SP, SZ, ↓reduceIte, reduceCtorEq, nE, nA, nL, nT, sec_neq, sec_eql, hist_cs]
 refine hK _ _ ?_
 clear hK K
 refine wpT_seq ?_
 refine wpT_region (by kernel_rfl) (fun K hK => ?_)
 simp only [↓SP, SZ, ↓reduceIte, reduceCtorEq, nE, nA, nL, nT, sec_neq, sec_eql, hist_cs, msO_ok 1 h.ws.length h.ws.length (by omega) (Int.le_refl _) (by omega) (by omega), Int.toNat_natCast]
 refine hK _ _ ?_
 clear hK K
 refine wpT_seq ?_
 refine wpT_seq ?_
 refine wpT_region (by kernel_rfl) (fun K hK => ?_)
 simp only [↓SP, SZ, ↓reduceIte, reduceCtorEq, nE, nA, nL, nT, sec_neq, sec_eql, hist_cs]
 refine hK _ _ ?_
 clear hK K
 refine wpT_block ?_
 refine wpT_loop ?_
 refine wpT_keep3 (i := 0) (j := 1) (k := 2) (o := .arr 26 3 [h.av]) (q := .arr 45 3 [wrZ]) (r := .arr 4 1 ((List.replicate h.ws.length false).map B)) (by simp only [↓SP, SZ, ↓reduceIte, reduceCtorEq, nE, nA, nL, nT, sec_neq, sec_eql]) (by simp only [↓SP, SZ, ↓reduceIte, reduceCtorEq, nE, nA, nL, nT, sec_neq, sec_eql]; rfl) (by simp only [↓SP, SZ, ↓reduceIte, reduceCtorEq, nE, nA, nL, nT, sec_neq, sec_eql, List.map_replicate]) ?_
 refine wpT_ind (fun (v : Nat) tm' h' => ∃ rq : List Bool, (∃ m, h' = Hp.of [(0, .arr 26 3 [h.av]), (1, .arr 45 3 [wrZ]), (2, .arr 4 1 (rq.map B))] (m + 3)) ∧ tm' 1 = imgAV im ∧ tm' 2 = .ptr 0 1 0 0 ∧ tm' 5 = .ptr 1 1 0 0 ∧ tm' 7 = .sl 2 h.ws.length 0 h.ws.length ∧ tm' 8 = I v ∧ v ≤ im.length ∧ rq.length = h.ws.length ∧ rcS h im (imCts v (im.drop v)) rq) (fun v => im.length - v) ?_ 0 ⟨_, ⟨0, rfl⟩, rfl, rfl, rfl, rfl, rfl, by omega, by simp, ⟨rfl, fun n hn => ⟨fun h => .inr h, fun h => h.elim (fun h => by simp [List.getD_eq_getElem?_getD, List.getElem?_replicate, hn] at h) id⟩⟩⟩
 rintro v tm' _ ⟨rq, ⟨m, rfl⟩, e1, e2, e5, e7, e8, hv, hrl, hS⟩ IH
 refine wpT_inLoop ?_
 refine wpT_seq ?_
 refine wpT_seq ?_
 refine wpT_region (by kernel_rfl) (fun K hK => ?_)
 simp only [↓SP, SZ, ↓reduceIte, reduceCtorEq, nE, nA, nL, nT, sec_neq, sec_eql, hist_cs, e1, e8, imgAV]
 refine hK _ _ ?_
 clear hK K
 refine wpT_if (by rfl) (fun hc26 => ?_) (fun hc26 => ?_)
 ·
  have p26 := hc26
  try simp only [PB] at p26
  have hvl : v < im.length := by omega
  have hgv := at_map (f := fun l : List Sec => AV.lst (l.map Sec.av)) hvl
  have hvs := hl4 _ (List.getElem_mem hvl)
  rw [restC_begin im hvl] at hS
  refine wpT_skip ?_
  refine wpT_seq ?_
  refine wpT_block ?_
  refine wpT_seq ?_
  refine wpT_region (by kernel_rfl) (fun K hK => ?_)
  simp only [↓SP, SZ, ↓reduceIte, reduceCtorEq, nE, nA, nL, nT, sec_neq, sec_eql, hist_cs, hc26]
  refine hK _ _ ?_
  clear hK K
  refine wpT_block ?_
  refine wpT_loop ?_
  refine wpT_ind (fun (k : Nat) tm2 h2 => ∃ rq : List Bool, (∃ m, h2 = Hp.of [(0, .arr 26 3 [h.av]), (1, .arr 45 3 [wrZ]), (2, .arr 4 1 (rq.map B))] (m + 3)) ∧ tm2 1 = imgAV im ∧ tm2 2 = .ptr 0 1 0 0 ∧ tm2 5 = .ptr 1 1 0 0 ∧ tm2 7 = .sl 2 h.ws.length 0 h.ws.length ∧ tm2 8 = I v ∧ tm2 9 = I k ∧ k ≤ im[v].length ∧ rq.length = h.ws.length ∧ rcS h im (restC im v k) rq) (fun k => im[v].length - k) ?_ 0 ⟨rq, ⟨_, rfl⟩, by simp only [↓SP, SZ, ↓reduceIte, reduceCtorEq, nE, nA, nL, nT, sec_neq, sec_eql, e1], by simp only [↓SP, SZ, ↓reduceIte, reduceCtorEq, nE, nA, nL, nT, sec_neq, sec_eql, e2], by simp only [↓SP, SZ, ↓reduceIte, reduceCtorEq, nE, nA, nL, nT, sec_neq, sec_eql, e5], by simp only [↓SP, SZ, ↓reduceIte, reduceCtorEq, nE, nA, nL, nT, sec_neq, sec_eql, e7], by simp only [↓SP, SZ, ↓reduceIte, reduceCtorEq, nE, nA, nL, nT, sec_neq, sec_eql, e8], rfl, by omega, hrl, hS⟩
  clear e1 e2 e5 e7 e8 hrl hS
  rintro k tm2 _ ⟨rq, ⟨m2, rfl⟩, e1, e2, e5, e7, e8, e9, hk, hrl, hS⟩ IH2
  refine wpT_inLoop ?_
  refine wpT_seq ?_
  refine wpT_seq ?_
  refine wpT_region (by kernel_rfl) (fun K hK => ?_)
  simp only [↓SP, SZ, ↓reduceIte, reduceCtorEq, nE, nA, nL, nT, sec_neq, sec_eql, hist_cs, e1, e8, e9, imgAV, hgv]
  refine hK _ _ ?_
  clear hK K
  refine wpT_if (by rfl) (fun hc35 => ?_) (fun hc35 => ?_)
  ·
   have p35 := hc35
   try simp only [PB] at p35
   have hkl : k < im[v].length := by omega
   have hgk := at_map (f := Sec.av) hkl
   rw [restC_step hvl hkl] at hS
   refine wpT_skip ?_
   refine wpT_seq ?_
   refine wpT_block ?_
   refine wpT_seq ?_
   refine wpT_seq ?_
   refine wpT_region (by kernel_rfl) (fun K hK => ?_)
   simp only [↓SP, SZ, ↓reduceIte, reduceCtorEq, nE, nA, nL, nT, sec_neq, sec_eql, hist_cs, e1, e8, e9, imgAV, hgv, hgk, secB0, hc35]
   refine hK _ _ ?_
   clear hK K
   refine wpT_if (by rfl) (fun hc46 => ?_) (fun hc46 => ?_)
   ·
    have p46 := hc46
    try simp only [PB] at p46
    have hS2 := rcS_zero hS (by simpa using p46)
    refine wpT_exit rfl ?_
    refine wpT_region (by kernel_rfl) (fun K hK => ?_)
    simp only [↓SP, SZ, ↓reduceIte, reduceCtorEq, nE, nA, nL, nT, sec_neq, sec_eql, hist_cs, e9, wrap64 (x := (k : Int) + 1) (by omega) (by omega), hc35, hc46]
    refine hK _ _ ?_
    clear hK K
    first
      | (have hu := hS2
         refine wpT_keep3 (i := 0) (j := 1) (k := 2) (o := .arr 26 3 [h.av]) (q := .arr 45 3 [wrZ]) (r := .arr 4 1 (rq.map B)) (by simp only [↓SP, SZ, ↓reduceIte, reduceCtorEq, nE, nA, nL, nT, sec_neq, sec_eql]) (by simp only [↓SP, SZ, ↓reduceIte, reduceCtorEq, nE, nA, nL, nT, sec_neq, sec_eql]) (by simp only [↓SP, SZ, ↓reduceIte, reduceCtorEq, nE, nA, nL, nT, sec_neq, sec_eql]) ?_
         refine IH2 (k + 1) _ _ (by omega) ⟨rq, ⟨_, rfl⟩, by simp only [↓SP, SZ, ↓reduceIte, reduceCtorEq, nE, nA, nL, nT, sec_neq, sec_eql, e1], by simp only [↓SP, SZ, ↓reduceIte, reduceCtorEq, nE, nA, nL, nT, sec_neq, sec_eql, e2], by simp only [↓SP, SZ, ↓reduceIte, reduceCtorEq, nE, nA, nL, nT, sec_neq, sec_eql, e5], by simp only [↓SP, SZ, ↓reduceIte, reduceCtorEq, nE, nA, nL, nT, sec_neq, sec_eql, e7], by simp only [↓SP, SZ, ↓reduceIte, reduceCtorEq, nE, nA, nL, nT, sec_neq, sec_eql, e8], by simp only [↓SP, SZ, ↓reduceIte, reduceCtorEq, nE, nA, nL, nT, sec_neq, sec_eql, Int.natCast_add, Int.cast_ofNat_Int], by omega, hrl, hu⟩)
      | (have hu := hS3
         refine wpT_keep3 (i := 0) (j := 1) (k := 2) (o := .arr 26 3 [h.av]) (q := .arr 45 3 [wrZ]) (r := .arr 4 1 ((rq.set a true).map B)) (by simp only [↓SP, SZ, ↓reduceIte, reduceCtorEq, nE, nA, nL, nT, sec_neq, sec_eql]) (by simp only [↓SP, SZ, ↓reduceIte, reduceCtorEq, nE, nA, nL, nT, sec_neq, sec_eql]) (by simp only [↓SP, SZ, ↓reduceIte, reduceCtorEq, nE, nA, nL, nT, sec_neq, sec_eql, List.map_set]) ?_
         refine IH2 (k + 1) _ _ (by omega) ⟨rq.set a true, ⟨_, rfl⟩, by simp only [↓SP, SZ, ↓reduceIte, reduceCtorEq, nE, nA, nL, nT, sec_neq, sec_eql, e1], by simp only [↓SP, SZ, ↓reduceIte, reduceCtorEq, nE, nA, nL, nT, sec_neq, sec_eql, e2], by simp only [↓SP, SZ, ↓reduceIte, reduceCtorEq, nE, nA, nL, nT, sec_neq, sec_eql, e5], by simp only [↓SP, SZ, ↓reduceIte, reduceCtorEq, nE, nA, nL, nT, sec_neq, sec_eql, e7], by simp only [↓SP, SZ, ↓reduceIte, reduceCtorEq, nE, nA, nL, nT, sec_neq, sec_eql, e8], by simp only [↓SP, SZ, ↓reduceIte, reduceCtorEq, nE, nA, nL, nT, sec_neq, sec_eql, Int.natCast_add, Int.cast_ofNat_Int], by omega, by simpa using hrl, hu⟩)
   ·
    have p46 := hc46
    try simp only [PB] at p46
    have hne : im[v][k] ≠ sec0 := by simpa using p46
    refine wpT_skip ?_
    refine wpT_seq ?_
    refine wpT_drawn [] mixed (by kernel_rfl) (m := 12) rfl (fun K hK => ?_)
    simp only [↓SP, SZ, ↓reduceIte, reduceCtorEq, nE, nA, nL, nT, sec_neq, sec_eql, hist_cs, e1, e2, e8, e9, imgAV, hgv, hgk, hc35, hc46]
    refine Pu.callD (c26 h ⟨v, k, im[v][k]⟩ hs eh) ?_
    simp only [↓SP, SZ, ↓reduceIte, reduceCtorEq, nE, nA, nL, nT, sec_neq, sec_eql, hist_cs, e1, e2, e8, e9, imgAV, hgv, hgk, hc35, hc46]
    refine hK _ _ ?_
    clear hK K
    refine wpT_seq ?_
    refine wpT_seq ?_
    refine wpT_region (by kernel_rfl) (fun K hK => ?_)
    simp only [↓SP, SZ, ↓reduceIte, reduceCtorEq, nE, nA, nL, nT, sec_neq, sec_eql, hist_cs, hc35, hc46]
    refine hK _ _ ?_
    clear hK K
    refine wpT_if (by rfl) (fun hc59 => ?_) (fun hc59 => ?_)
    ·
     have p59 := hc59
     try simp only [PB] at p59
     have hno : assoc (⟨v, k, im[v][k]⟩ : Ct) (ctsH 0 h.ws) = none := by
       cases ha : assoc (⟨v, k, im[v][k]⟩ : Ct) (ctsH 0 h.ws) with
       | none => rfl
       | some a =>
         have := (author_some ha).1
         rw [authN, ha] at p59
         simp at p59
         omega
     have hu := rcS_none hS hne hno
     refine wpT_seq ?_
     refine wpT_drawn [] mixed (by kernel_rfl) (m := 14) rfl (fun K hK => ?_)
     simp only [↓SP, SZ, ↓reduceIte, reduceCtorEq, nE, nA, nL, nT, sec_neq, sec_eql, hist_cs, e1, e5, e8, e9, imgAV, hgv, hgk, wrZ, hc35, hc46, hc59]
     refine hK _ _ ?_
     clear hK K
     refine wpT_ret ⟨.inr rfl, ?_⟩
     show optK (resA _ _ _ [.tmp 4, .cell 5 45, .tmp 6]) _
     simp only [SRO, ↓SP, SZ, ↓reduceIte, reduceCtorEq, nE, nA, nL, nT, sec_neq, sec_eql, hist_cs, hc35, hc46, hc59]
     simp only [↓SP, SZ, ↓reduceIte, reduceCtorEq, nE, nA, nL, nT, sec_neq, sec_eql, SR, Option.map_some, Option.bind_some, e5]
     rw [hu, show candL h im = [] from if_pos (by simp [hu]), show candW h im = Ct.one ⟨v, k, im[v][k]⟩ from by rw [candW, confC, hu]]
     exact Lend.tupL (LendL.cons .nil0 (LendL.cons (Lend.aggL (LendL.cons (.refl _) (LendL.cons (.refl _) (LendL.cons (Lend.sl0 (E := 49) (s := 8) (es := [im[v][k].av]) (by simp only [↓SP, SZ, ↓reduceIte, reduceCtorEq, nE, nA, nL, nT, sec_neq, sec_eql]) rfl (by simp [AV.okc, Sec.av])) LendL.nil)))) (LendL.cons (.refl _) LendL.nil)))
    ·
     have p59 := hc59
     try simp only [PB] at p59
     obtain ⟨a, ha⟩ : ∃ a : Nat, assoc (⟨v, k, im[v][k]⟩ : Ct) (ctsH 0 h.ws) = some (a : Int) := by
       cases ha : assoc (⟨v, k, im[v][k]⟩ : Ct) (ctsH 0 h.ws) with
       | none => rw [authN, ha] at p59; simp at p59
       | some a =>
         obtain ⟨b, rfl⟩ := Int.eq_ofNat_of_zero_le (author_some ha).1
         exact ⟨b, rfl⟩
     have hal : a < h.ws.length := by have := (author_some ha).2.1; omega
     have hau : authN h ⟨v, k, im[v][k]⟩ = (a : Int) := by rw [authN, ha]; rfl
     have hS3 := rcS_some hS hne ha (by omega)
     have hga := at_map (f := B) (xs := rq) (i := a) (by omega)
     have ha0 : (0 : Int) ≤ (a : Int) := by omega
     have ha1 : (a : Int) < (h.ws.length : Int) := by omega
     refine wpT_skip ?_
     refine wpT_region (by kernel_rfl) (fun K hK => ?_)
     simp only [↓SP, SZ, ↓reduceIte, reduceCtorEq, nE, nA, nL, nT, sec_neq, sec_eql, hist_cs, e7, hau, hrl, hga, ha0, ha1, Int.toNat_natCast, stO_arr, Option.bind_some, hc35, hc46, hc59]
     refine hK _ _ ?_
     clear hK K
     refine wpT_inBlock ?_
     refine wpT_region (by kernel_rfl) (fun K hK => ?_)
     simp only [↓SP, SZ, ↓reduceIte, reduceCtorEq, nE, nA, nL, nT, sec_neq, sec_eql, hist_cs, e9, wrap64 (x := (k : Int) + 1) (by omega) (by omega), hc35, hc46, hc59]
     refine hK _ _ ?_
     clear hK K
     first
       | (have hu := hS2
          refine wpT_keep3 (i := 0) (j := 1) (k := 2) (o := .arr 26 3 [h.av]) (q := .arr 45 3 [wrZ]) (r := .arr 4 1 (rq.map B)) (by simp only [↓SP, SZ, ↓reduceIte, reduceCtorEq, nE, nA, nL, nT, sec_neq, sec_eql]) (by simp only [↓SP, SZ, ↓reduceIte, reduceCtorEq, nE, nA, nL, nT, sec_neq, sec_eql]) (by simp only [↓SP, SZ, ↓reduceIte, reduceCtorEq, nE, nA, nL, nT, sec_neq, sec_eql]) ?_
          refine IH2 (k + 1) _ _ (by omega) ⟨rq, ⟨_, rfl⟩, by simp only [↓SP, SZ, ↓reduceIte, reduceCtorEq, nE, nA, nL, nT, sec_neq, sec_eql, e1], by simp only [↓SP, SZ, ↓reduceIte, reduceCtorEq, nE, nA, nL, nT, sec_neq, sec_eql, e2], by simp only [↓SP, SZ, ↓reduceIte, reduceCtorEq, nE, nA, nL, nT, sec_neq, sec_eql, e5], by simp only [↓SP, SZ, ↓reduceIte, reduceCtorEq, nE, nA, nL, nT, sec_neq, sec_eql, e7], by simp only [↓SP, SZ, ↓reduceIte, reduceCtorEq, nE, nA, nL, nT, sec_neq, sec_eql, e8], by simp only [↓SP, SZ, ↓reduceIte, reduceCtorEq, nE, nA, nL, nT, sec_neq, sec_eql, Int.natCast_add, Int.cast_ofNat_Int], by omega, hrl, hu⟩)
       | (have hu := hS3
          refine wpT_keep3 (i := 0) (j := 1) (k := 2) (o := .arr 26 3 [h.av]) (q := .arr 45 3 [wrZ]) (r := .arr 4 1 ((rq.set a true).map B)) (by simp only [↓SP, SZ, ↓reduceIte, reduceCtorEq, nE, nA, nL, nT, sec_neq, sec_eql]) (by simp only [↓SP, SZ, ↓reduceIte, reduceCtorEq, nE, nA, nL, nT, sec_neq, sec_eql]) (by simp only [↓SP, SZ, ↓reduceIte, reduceCtorEq, nE, nA, nL, nT, sec_neq, sec_eql, List.map_set]) ?_
          refine IH2 (k + 1) _ _ (by omega) ⟨rq.set a true, ⟨_, rfl⟩, by simp only [↓SP, SZ, ↓reduceIte, reduceCtorEq, nE, nA, nL, nT, sec_neq, sec_eql, e1], by simp only [↓SP, SZ, ↓reduceIte, reduceCtorEq, nE, nA, nL, nT, sec_neq, sec_eql, e2], by simp only [↓SP, SZ, ↓reduceIte, reduceCtorEq, nE, nA, nL, nT, sec_neq, sec_eql, e5], by simp only [↓SP, SZ, ↓reduceIte, reduceCtorEq, nE, nA, nL, nT, sec_neq, sec_eql, e7], by simp only [↓SP, SZ, ↓reduceIte, reduceCtorEq, nE, nA, nL, nT, sec_neq, sec_eql, e8], by simp only [↓SP, SZ, ↓reduceIte, reduceCtorEq, nE, nA, nL, nT, sec_neq, sec_eql, Int.natCast_add, Int.cast_ofNat_Int], by omega, by simpa using hrl, hu⟩)
  ·
   have p35 := hc35
   try simp only [PB] at p35
   have hk2 : k = im[v].length := by omega
   rw [hk2, restC_end hvl] at hS
   refine wpT_exit rfl ?_
   refine wpT_inBlock ?_
   refine wpT_region (by kernel_rfl) (fun K hK => ?_)
   simp only [↓SP, SZ, ↓reduceIte, reduceCtorEq, nE, nA, nL, nT, sec_neq, sec_eql, hist_cs, e8, wrap64 (x := (v : Int) + 1) (by omega) (by omega), hc35]
   refine hK _ _ ?_
   clear hK K
   refine wpT_keep3 (i := 0) (j := 1) (k := 2) (o := .arr 26 3 [h.av]) (q := .arr 45 3 [wrZ]) (r := .arr 4 1 (rq.map B)) (by simp only [↓SP, SZ, ↓reduceIte, reduceCtorEq, nE, nA, nL, nT, sec_neq, sec_eql]) (by simp only [↓SP, SZ, ↓reduceIte, reduceCtorEq, nE, nA, nL, nT, sec_neq, sec_eql]) (by simp only [↓SP, SZ, ↓reduceIte, reduceCtorEq, nE, nA, nL, nT, sec_neq, sec_eql]) ?_
   refine IH (v + 1) _ _ (by omega) ⟨rq, ⟨_, rfl⟩, by simp only [↓SP, SZ, ↓reduceIte, reduceCtorEq, nE, nA, nL, nT, sec_neq, sec_eql, e1], by simp only [↓SP, SZ, ↓reduceIte, reduceCtorEq, nE, nA, nL, nT, sec_neq, sec_eql, e2], by simp only [↓SP, SZ, ↓reduceIte, reduceCtorEq, nE, nA, nL, nT, sec_neq, sec_eql, e5], by simp only [↓SP, SZ, ↓reduceIte, reduceCtorEq, nE, nA, nL, nT, sec_neq, sec_eql, e7], by simp only [↓SP, SZ, ↓reduceIte, reduceCtorEq, nE, nA, nL, nT, sec_neq, sec_eql, Int.natCast_add, Int.cast_ofNat_Int], by omega, hrl, hS⟩
 ·
  have p26 := hc26
  try simp only [PB] at p26
  rw [List.drop_eq_nil_of_le (by omega), imCts] at hS
  have hu : unkC (ctsH 0 h.ws) im = none := hS.1
  have hneed : selN (fun n => rq.getD n false) h.ws.length = neededL h im := selN_congr fun k hk => by
    have := hS.2 k hk
    cases hb : rq.getD k false with
    | false => rw [hb] at this; simp at this; simp [this]
    | true => rw [hb] at this; simp at this; simp [this]
  refine wpT_exit rfl ?_
  refine wpT_seq ?_
  refine wpT_region (by kernel_rfl) (fun K hK => ?_)
  simp only [↓SP, SZ, ↓reduceIte, reduceCtorEq, nE, nA, nL, nT, sec_neq, sec_eql, hist_cs, hc26]
  refine hK _ _ ?_
  clear hK K
  refine wpT_seq ?_
  refine wpT_seq ?_
  refine wpT_region (by kernel_rfl) (fun K hK => ?_)
  simp only [↓SP, SZ, ↓reduceIte, reduceCtorEq, nE, nA, nL, nT, sec_neq, sec_eql, hist_cs, hc26]
  refine hK _ _ ?_
  clear hK K
  refine wpT_block ?_
  refine wpT_loop ?_
  clear IH
  obtain ⟨q, hq, hq3⟩ : ∃ q, m + 3 = q ∧ 3 ≤ q := ⟨_, rfl, by omega⟩
  rw [hq]
  have n0 : ¬ 0 = q := by omega
  have n1 : ¬ 1 = q := by omega
  have n2 : ¬ 2 = q := by omega
  have n0' : ¬ q = 0 := by omega
  have n1' : ¬ q = 1 := by omega
  have n2' : ¬ q = 2 := by omega
  refine wpT_nilown 11 3 1 (by simp only [↓SP, SZ, ↓reduceIte, reduceCtorEq, nE, nA, nL, nT, sec_neq, sec_eql]) ?_
  refine wpT_keep4 (i := 0) (j := 1) (k := 2) (l := q) (o := .arr 26 3 [h.av]) (q := .arr 45 3 [wrZ]) (r := .arr 4 1 (rq.map B)) (s := .arr 3 1 ((selN (fun n => rq.getD n false) 0).map I)) (by simp only [↓SP, SZ, ↓reduceIte, reduceCtorEq, nE, nA, nL, nT, sec_neq, sec_eql, n0]) (by simp only [↓SP, SZ, ↓reduceIte, reduceCtorEq, nE, nA, nL, nT, sec_neq, sec_eql, n1]) (by simp only [↓SP, SZ, ↓reduceIte, reduceCtorEq, nE, nA, nL, nT, sec_neq, sec_eql, n2]) (by simp only [↓SP, SZ, ↓reduceIte, reduceCtorEq, nE, nA, nL, nT, sec_neq, sec_eql]; rfl) ?_
  refine wpT_ind (fun (i : Nat) tm' h' => (∃ x, h' = Hp.of [(0, .arr 26 3 [h.av]), (1, .arr 45 3 [wrZ]), (2, .arr 4 1 (rq.map B)), (q, .arr 3 1 ((selN (fun n => rq.getD n false) i).map I))] x ∧ q < x) ∧ tm' 1 = imgAV im ∧ tm' 2 = .ptr 0 1 0 0 ∧ tm' 5 = .ptr 1 1 0 0 ∧ tm' 7 = .sl 2 h.ws.length 0 h.ws.length ∧ tm' 11 = .sl q (selN (fun n => rq.getD n false) i).length 0 (selN (fun n => rq.getD n false) i).length ∧ tm' 12 = I i ∧ i ≤ h.ws.length) (fun i => h.ws.length - i) ?_ 0 ⟨⟨_, rfl, Nat.lt_succ_self _⟩, by simp only [↓SP, SZ, ↓reduceIte, reduceCtorEq, nE, nA, nL, nT, sec_neq, sec_eql, e1], by simp only [↓SP, SZ, ↓reduceIte, reduceCtorEq, nE, nA, nL, nT, sec_neq, sec_eql, e2], by simp only [↓SP, SZ, ↓reduceIte, reduceCtorEq, nE, nA, nL, nT, sec_neq, sec_eql, e5], by simp only [↓SP, SZ, ↓reduceIte, reduceCtorEq, nE, nA, nL, nT, sec_neq, sec_eql, e7], rfl, rfl, by omega⟩
  clear e1 e2 e5 e7 e8
  rintro i tm' _ ⟨⟨x, rfl, hx⟩, e1, e2, e5, e7, e11, e12, hi⟩ IH
  have x0 : ¬ 0 = x := by omega
  have x1 : ¬ 1 = x := by omega
  have x2 : ¬ 2 = x := by omega
  have xq : ¬ q = x := by omega
  have xq' : ¬ x = q := by omega
  refine wpT_inLoop ?_
  refine wpT_seq ?_
  refine wpT_seq ?_
  refine wpT_region (by kernel_rfl) (fun K hK => ?_)
  simp only [↓SP, SZ, ↓reduceIte, reduceCtorEq, nE, nA, nL, nT, sec_neq, sec_eql, hist_cs, e7, e12, hrl]
  refine hK _ _ ?_
  clear hK K
  refine wpT_if (by rfl) (fun hc77 => ?_) (fun hc77 => ?_)
  ·
   have p77 := hc77
   try simp only [PB] at p77
   have hlt : i < h.ws.length := by omega
   have hgi := at_map (f := B) (xs := rq) (i := i) (by omega)
   have hi0 : (0 : Int) ≤ (i : Int) := by omega
   have hi1 : (i : Int) < (h.ws.length : Int) := by omega
   have hln := selN_length (fun n => rq.getD n false) i
   have hgd : rq.getD i false = rq[i] := by simp [hrl, hlt]
   have m1 : (selN (fun n => rq.getD n false) i).length + 1 ≤ maxLen := by simp only [maxLen]; omega
   have m2 : ((selN (fun n => rq.getD n false) i).length + 1) * 8 ≤ 140737488355328 := by omega
   refine wpT_skip ?_
   refine wpT_seq ?_
   refine wpT_block ?_
   refine wpT_seq ?_
   refine wpT_region (by kernel_rfl) (fun K hK => ?_)
   simp only [↓SP, SZ, ↓reduceIte, reduceCtorEq, nE, nA, nL, nT, sec_neq, sec_eql, hist_cs, e7, e12, hrl, hgi, hi0, hi1, Int.toNat_natCast, ldO_arr, Option.bind_some, hc77]
   refine hK _ _ ?_
   clear hK K
   refine wpT_if (by rfl) (fun hc83 => ?_) (fun hc83 => ?_)
   ·
    have p83 := hc83
    try simp only [PB] at p83
    have hsel : (selN (fun n => rq.getD n false) (i + 1)) = (selN (fun n => rq.getD n false) i) ++ [(i : Int)] := by rw [selN, if_pos (by rw [hgd]; exact hc83)]
    refine wpT_region (by kernel_rfl) (fun K hK => ?_)
    simp only [↓SP, SZ, ↓reduceIte, reduceCtorEq, nE, nA, nL, nT, sec_neq, sec_eql, hist_cs, e11, e12, m1, m2, n0', n1', n2', xq, xq', hc77, hc83]
    refine hK _ _ ?_
    clear hK K
    refine wpT_inBlock ?_
    refine wpT_region (by kernel_rfl) (fun K hK => ?_)
    simp only [↓SP, SZ, ↓reduceIte, reduceCtorEq, nE, nA, nL, nT, sec_neq, sec_eql, hist_cs, e12, wrap64 (x := (i : Int) + 1) (by omega) (by omega), hc77, hc83]
    refine hK _ _ ?_
    clear hK K
    first
      | (have hu := hsel
         refine wpT_keep4 (i := 0) (j := 1) (k := 2) (l := q) (o := .arr 26 3 [h.av]) (q := .arr 45 3 [wrZ]) (r := .arr 4 1 (rq.map B)) (s := .arr 3 1 ((selN (fun n => rq.getD n false) (i + 1)).map I)) (by simp only [↓SP, SZ, ↓reduceIte, reduceCtorEq, nE, nA, nL, nT, sec_neq, sec_eql, n0, x0]) (by simp only [↓SP, SZ, ↓reduceIte, reduceCtorEq, nE, nA, nL, nT, sec_neq, sec_eql, n1, x1]) (by simp only [↓SP, SZ, ↓reduceIte, reduceCtorEq, nE, nA, nL, nT, sec_neq, sec_eql, n2, x2]) (by simp only [↓SP, SZ, ↓reduceIte, reduceCtorEq, nE, nA, nL, nT, sec_neq, sec_eql, hsel, List.map_append]) ?_
         refine IH (i + 1) _ _ (by omega) ⟨⟨_, rfl, by simp only [↓SP, SZ, ↓reduceIte, reduceCtorEq, nE, nA, nL, nT, sec_neq, sec_eql]; omega⟩, by simp only [↓SP, SZ, ↓reduceIte, reduceCtorEq, nE, nA, nL, nT, sec_neq, sec_eql, e1], by simp only [↓SP, SZ, ↓reduceIte, reduceCtorEq, nE, nA, nL, nT, sec_neq, sec_eql, e2], by simp only [↓SP, SZ, ↓reduceIte, reduceCtorEq, nE, nA, nL, nT, sec_neq, sec_eql, e5], by simp only [↓SP, SZ, ↓reduceIte, reduceCtorEq, nE, nA, nL, nT, sec_neq, sec_eql, e7], by simp only [↓SP, SZ, ↓reduceIte, reduceCtorEq, nE, nA, nL, nT, sec_neq, sec_eql, hsel], by simp only [↓SP, SZ, ↓reduceIte, reduceCtorEq, nE, nA, nL, nT, sec_neq, sec_eql, Int.natCast_add, Int.cast_ofNat_Int], by omega⟩)
      | (have hu := hself
         refine wpT_keep4 (i := 0) (j := 1) (k := 2) (l := q) (o := .arr 26 3 [h.av]) (q := .arr 45 3 [wrZ]) (r := .arr 4 1 (rq.map B)) (s := .arr 3 1 ((selN (fun n => rq.getD n false) (i + 1)).map I)) (by simp only [↓SP, SZ, ↓reduceIte, reduceCtorEq, nE, nA, nL, nT, sec_neq, sec_eql, n0, x0]) (by simp only [↓SP, SZ, ↓reduceIte, reduceCtorEq, nE, nA, nL, nT, sec_neq, sec_eql, n1, x1]) (by simp only [↓SP, SZ, ↓reduceIte, reduceCtorEq, nE, nA, nL, nT, sec_neq, sec_eql, n2, x2]) (by simp only [↓SP, SZ, ↓reduceIte, reduceCtorEq, nE, nA, nL, nT, sec_neq, sec_eql, n0', n1', n2', hself]) ?_
         refine IH (i + 1) _ _ (by omega) ⟨⟨_, rfl, hx⟩, by simp only [↓SP, SZ, ↓reduceIte, reduceCtorEq, nE, nA, nL, nT, sec_neq, sec_eql, e1], by simp only [↓SP, SZ, ↓reduceIte, reduceCtorEq, nE, nA, nL, nT, sec_neq, sec_eql, e2], by simp only [↓SP, SZ, ↓reduceIte, reduceCtorEq, nE, nA, nL, nT, sec_neq, sec_eql, e5], by simp only [↓SP, SZ, ↓reduceIte, reduceCtorEq, nE, nA, nL, nT, sec_neq, sec_eql, e7], by simp only [↓SP, SZ, ↓reduceIte, reduceCtorEq, nE, nA, nL, nT, sec_neq, sec_eql, hself, e11], by simp only [↓SP, SZ, ↓reduceIte, reduceCtorEq, nE, nA, nL, nT, sec_neq, sec_eql, Int.natCast_add, Int.cast_ofNat_Int], by omega⟩)
   ·
    have p83 := hc83
    try simp only [PB] at p83
    have hself : (selN (fun n => rq.getD n false) (i + 1)) = (selN (fun n => rq.getD n false) i) := by rw [selN, if_neg (by rw [hgd]; simp [hc83]), List.append_nil]
    refine wpT_skip ?_
    refine wpT_inBlock ?_
    refine wpT_region (by kernel_rfl) (fun K hK => ?_)
    simp only [↓SP, SZ, ↓reduceIte, reduceCtorEq, nE, nA, nL, nT, sec_neq, sec_eql, hist_cs, e12, wrap64 (x := (i : Int) + 1) (by omega) (by omega), hc77, hc83]
    refine hK _ _ ?_
    clear hK K
    first
      | (have hu := hsel
         refine wpT_keep4 (i := 0) (j := 1) (k := 2) (l := q) (o := .arr 26 3 [h.av]) (q := .arr 45 3 [wrZ]) (r := .arr 4 1 (rq.map B)) (s := .arr 3 1 ((selN (fun n => rq.getD n false) (i + 1)).map I)) (by simp only [↓SP, SZ, ↓reduceIte, reduceCtorEq, nE, nA, nL, nT, sec_neq, sec_eql, n0, x0]) (by simp only [↓SP, SZ, ↓reduceIte, reduceCtorEq, nE, nA, nL, nT, sec_neq, sec_eql, n1, x1]) (by simp only [↓SP, SZ, ↓reduceIte, reduceCtorEq, nE, nA, nL, nT, sec_neq, sec_eql, n2, x2]) (by simp only [↓SP, SZ, ↓reduceIte, reduceCtorEq, nE, nA, nL, nT, sec_neq, sec_eql, hsel, List.map_append]) ?_
         refine IH (i + 1) _ _ (by omega) ⟨⟨_, rfl, by simp only [↓SP, SZ, ↓reduceIte, reduceCtorEq, nE, nA, nL, nT, sec_neq, sec_eql]; omega⟩, by simp only [↓SP, SZ, ↓reduceIte, reduceCtorEq, nE, nA, nL, nT, sec_neq, sec_eql, e1], by simp only [↓SP, SZ, ↓reduceIte, reduceCtorEq, nE, nA, nL, nT, sec_neq, sec_eql, e2], by simp only [↓SP, SZ, ↓reduceIte, reduceCtorEq, nE, nA, nL, nT, sec_neq, sec_eql, e5], by simp only [↓SP, SZ, ↓reduceIte, reduceCtorEq, nE, nA, nL, nT, sec_neq, sec_eql, e7], by simp only [↓SP, SZ, ↓reduceIte, reduceCtorEq, nE, nA, nL, nT, sec_neq, sec_eql, hsel], by simp only [↓SP, SZ, ↓reduceIte, reduceCtorEq, nE, nA, nL, nT, sec_neq, sec_eql, Int.natCast_add, Int.cast_ofNat_Int], by omega⟩)
      | (have hu := hself
         refine wpT_keep4 (i := 0) (j := 1) (k := 2) (l := q) (o := .arr 26 3 [h.av]) (q := .arr 45 3 [wrZ]) (r := .arr 4 1 (rq.map B)) (s := .arr 3 1 ((selN (fun n => rq.getD n false) (i + 1)).map I)) (by simp only [↓SP, SZ, ↓reduceIte, reduceCtorEq, nE, nA, nL, nT, sec_neq, sec_eql, n0, x0]) (by simp only [↓SP, SZ, ↓reduceIte, reduceCtorEq, nE, nA, nL, nT, sec_neq, sec_eql, n1, x1]) (by simp only [↓SP, SZ, ↓reduceIte, reduceCtorEq, nE, nA, nL, nT, sec_neq, sec_eql, n2, x2]) (by simp only [↓SP, SZ, ↓reduceIte, reduceCtorEq, nE, nA, nL, nT, sec_neq, sec_eql, n0', n1', n2', hself]) ?_
         refine IH (i + 1) _ _ (by omega) ⟨⟨_, rfl, hx⟩, by simp only [↓SP, SZ, ↓reduceIte, reduceCtorEq, nE, nA, nL, nT, sec_neq, sec_eql, e1], by simp only [↓SP, SZ, ↓reduceIte, reduceCtorEq, nE, nA, nL, nT, sec_neq, sec_eql, e2], by simp only [↓SP, SZ, ↓reduceIte, reduceCtorEq, nE, nA, nL, nT, sec_neq, sec_eql, e5], by simp only [↓SP, SZ, ↓reduceIte, reduceCtorEq, nE, nA, nL, nT, sec_neq, sec_eql, e7], by simp only [↓SP, SZ, ↓reduceIte, reduceCtorEq, nE, nA, nL, nT, sec_neq, sec_eql, hself, e11], by simp only [↓SP, SZ, ↓reduceIte, reduceCtorEq, nE, nA, nL, nT, sec_neq, sec_eql, Int.natCast_add, Int.cast_ofNat_Int], by omega⟩)
  ·
   have p77 := hc77
   try simp only [PB] at p77
   have hi2 : i = h.ws.length := by omega
   subst hi2
   rw [hneed] at e11 ⊢
   have hnl : (neededL h im).length < 4000000 := Nat.lt_of_le_of_lt (selN_length _ _) hwl
   have hnset : setP h.ws.length (-1) (neededL h im) = true := setP_sel (Nat.le_refl _)
   have hse : setsE h [neededL h im] = 0 := by
     unfold setsE
     rw [if_neg (by omega), if_pos (by simpa using hnset)]
   have hle : leastL h (neededL h im) = leastC h im := if_neg (by omega)
   have hcset : setP h.ws.length (-1) (leastC h im) = true := least_set _ _ _
   have hie : imageE h (leastC h im) = 0 := by rw [imageE, if_neg (by omega), if_pos hcset]
   have hir : imageR h (leastC h im) = imgS h (leastC h im) := if_neg (by omega)
   have hcl : (leastC h im).length < 4000000 := Nat.lt_of_le_of_lt (selN_length _ _) hwl
   have hxs : sizesOf (imgS h (leastC h im)) = sizesOf im := (img_at eh hcset).1.trans hz.symm
   have hxl : (imgS h (leastC h im)).length = im.length := by
     have := congrArg List.length hxs
     simpa [sizesOf] using this
   have hxv : ∀ (v : Nat) (h1 : v < im.length) (h2 : v < (imgS h (leastC h im)).length), (imgS h (leastC h im))[v].length = im[v].length := fun v h1 h2 => by
     have e : (sizesOf (imgS h (leastC h im)))[v]? = (sizesOf im)[v]? := by rw [hxs]
     simp only [sizesOf, List.getElem?_map, List.getElem?_eq_getElem h1, List.getElem?_eq_getElem h2, Option.map_some, Option.some.injEq] at e
     omega
   have hcan : candL h im = leastC h im := if_neg (by simp [hu])
   have hcf : confC h im = diffC (imgS h (leastC h im)) im := by rw [confC, hu]
   refine wpT_exit rfl ?_
   refine wpT_seq ?_
   refine wpT_region (by kernel_rfl) (fun K hK => ?_)
   simp only [↓SP, SZ, ↓reduceIte, reduceCtorEq, nE, nA, nL, nT, sec_neq, sec_eql, hist_cs, e2, e11, hc77]
   refine Pu.freeze (c47 h (neededL h im) hs hnl) q (LendL.cons (.refl _) (LendL.cons (Lend.sl0 (E := 3) (s := 1) (by simp only [↓SP, SZ, ↓reduceIte, reduceCtorEq, nE, nA, nL, nT, sec_neq, sec_eql, n0', n1', n2']) (by simp) (int_okc _)) LendL.nil)) ?_
   simp only [↓SP, SZ, ↓reduceIte, reduceCtorEq, nE, nA, nL, nT, sec_neq, sec_eql, hist_cs, e2, e11, hc77]
   refine hK _ _ ?_
   clear hK K
   refine wpT_seq ?_
   refine wpT_region (by kernel_rfl) (fun K hK => ?_)
   simp only [↓SP, SZ, ↓reduceIte, reduceCtorEq, nE, nA, nL, nT, sec_neq, sec_eql, hist_cs, e2, hle, n0, hc77]
   refine Pu.call (refImage h (leastC h im) hs hcl) ?_
   simp only [↓SP, SZ, ↓reduceIte, reduceCtorEq, nE, nA, nL, nT, sec_neq, sec_eql, hist_cs, e2, hle, n0, hc77]
   refine hK _ _ ?_
   clear hK K
   refine wpT_seq ?_
   refine wpT_seq ?_
   refine wpT_region (by kernel_rfl) (fun K hK => ?_)
   simp only [↓SP, SZ, ↓reduceIte, reduceCtorEq, nE, nA, nL, nT, sec_neq, sec_eql, hist_cs, hc77]
   refine hK _ _ ?_
   clear hK K
   refine wpT_block ?_
   refine wpT_loop ?_
   clear IH
   refine wpT_keep2 (i := 0) (j := 1) (o := .arr 26 3 [h.av]) (q := .arr 45 3 [wrZ]) (by simp only [↓SP, SZ, ↓reduceIte, reduceCtorEq, nE, nA, nL, nT, sec_neq, sec_eql, n0]) (by simp only [↓SP, SZ, ↓reduceIte, reduceCtorEq, nE, nA, nL, nT, sec_neq, sec_eql, n1]) ?_
   refine wpT_ind (fun (v : Nat) tm' h' => (∃ x, h' = Hp.of [(0, .arr 26 3 [h.av]), (1, .arr 45 3 [wrZ])] x ∧ 1 < x) ∧ tm' 1 = imgAV im ∧ tm' 5 = .ptr 1 1 0 0 ∧ tm' 13 = .lst ((leastC h im).map I) ∧ tm' 15 = imgAV (imgS h (leastC h im)) ∧ tm' 17 = I v ∧ v ≤ im.length ∧ diffC (imgS h (leastC h im)) im = (imCts v ((imgS h (leastC h im)).drop v)).find? (dfP im)) (fun v => im.length - v) ?_ 0 ⟨⟨_, rfl, by simp only [↓SP, SZ, ↓reduceIte, reduceCtorEq, nE, nA, nL, nT, sec_neq, sec_eql]; omega⟩, by simp only [↓SP, SZ, ↓reduceIte, reduceCtorEq, nE, nA, nL, nT, sec_neq, sec_eql, e1], by simp only [↓SP, SZ, ↓reduceIte, reduceCtorEq, nE, nA, nL, nT, sec_neq, sec_eql, e5], by simp only [↓SP, SZ, ↓reduceIte, reduceCtorEq, nE, nA, nL, nT, sec_neq, sec_eql, hle], by simp only [↓SP, SZ, ↓reduceIte, reduceCtorEq, nE, nA, nL, nT, sec_neq, sec_eql, hir], rfl, by omega, rfl⟩
   clear e1 e2 e5 e7 e11 e12
   rintro v tm' _ ⟨⟨x, rfl, hx⟩, e1, e5, e13, e15, e17, hv, hD⟩ IH
   refine wpT_inLoop ?_
   refine wpT_seq ?_
   refine wpT_seq ?_
   refine wpT_region (by kernel_rfl) (fun K hK => ?_)
   simp only [↓SP, SZ, ↓reduceIte, reduceCtorEq, nE, nA, nL, nT, sec_neq, sec_eql, hist_cs, e1, e17, imgAV]
   refine hK _ _ ?_
   clear hK K
   refine wpT_if (by rfl) (fun hc103 => ?_) (fun hc103 => ?_)
   ·
    have p103 := hc103
    try simp only [PB] at p103
    have hvl : v < im.length := by omega
    have hvl2 : v < (imgS h (leastC h im)).length := by omega
    have hlv := hxv v hvl hvl2
    have hgv := at_map (f := fun l : List Sec => AV.lst (l.map Sec.av)) hvl
    have hgx := at_map (f := fun l : List Sec => AV.lst (l.map Sec.av)) hvl2
    have hvs := hl4 _ (List.getElem_mem hvl)
    rw [restC_begin _ hvl2] at hD
    refine wpT_skip ?_
    refine wpT_seq ?_
    refine wpT_block ?_
    refine wpT_seq ?_
    refine wpT_region (by kernel_rfl) (fun K hK => ?_)
    simp only [↓SP, SZ, ↓reduceIte, reduceCtorEq, nE, nA, nL, nT, sec_neq, sec_eql, hist_cs, hc103]
    refine hK _ _ ?_
    clear hK K
    refine wpT_block ?_
    refine wpT_loop ?_
    refine wpT_ind (fun (k : Nat) tm2 h2 => (∃ x, h2 = Hp.of [(0, .arr 26 3 [h.av]), (1, .arr 45 3 [wrZ])] x ∧ 1 < x) ∧ tm2 1 = imgAV im ∧ tm2 5 = .ptr 1 1 0 0 ∧ tm2 13 = .lst ((leastC h im).map I) ∧ tm2 15 = imgAV (imgS h (leastC h im)) ∧ tm2 17 = I v ∧ tm2 18 = I k ∧ k ≤ im[v].length ∧ diffC (imgS h (leastC h im)) im = (restC (imgS h (leastC h im)) v k).find? (dfP im)) (fun k => im[v].length - k) ?_ 0 ⟨⟨_, rfl, hx⟩, by simp only [↓SP, SZ, ↓reduceIte, reduceCtorEq, nE, nA, nL, nT, sec_neq, sec_eql, e1], by simp only [↓SP, SZ, ↓reduceIte, reduceCtorEq, nE, nA, nL, nT, sec_neq, sec_eql, e5], by simp only [↓SP, SZ, ↓reduceIte, reduceCtorEq, nE, nA, nL, nT, sec_neq, sec_eql, e13], by simp only [↓SP, SZ, ↓reduceIte, reduceCtorEq, nE, nA, nL, nT, sec_neq, sec_eql, e15], by simp only [↓SP, SZ, ↓reduceIte, reduceCtorEq, nE, nA, nL, nT, sec_neq, sec_eql, e17], rfl, by omega, hD⟩
    clear e1 e5 e13 e15 e17 hD
    rintro k tm2 _ ⟨⟨y, rfl, hy⟩, e1, e5, e13, e15, e17, e18, hk, hD⟩ IH2
    refine wpT_inLoop ?_
    refine wpT_seq ?_
    refine wpT_seq ?_
    refine wpT_region (by kernel_rfl) (fun K hK => ?_)
    simp only [↓SP, SZ, ↓reduceIte, reduceCtorEq, nE, nA, nL, nT, sec_neq, sec_eql, hist_cs, e1, e17, e18, imgAV, hgv]
    refine hK _ _ ?_
    clear hK K
    refine wpT_if (by rfl) (fun hc112 => ?_) (fun hc112 => ?_)
    ·
     have p112 := hc112
     try simp only [PB] at p112
     have hkl : k < im[v].length := by omega
     have hkl2 : k < (imgS h (leastC h im))[v].length := by omega
     have hgk := at_map (f := Sec.av) hkl
     have hgy := at_map (f := Sec.av) hkl2
     have hat : imAt im (v : Int) (k : Int) = im[v][k] := by simp [imAt, hvl, hkl]
     rw [restC_step hvl2 hkl2, List.find?_cons] at hD
     have hdf : dfP im ⟨v, k, (imgS h (leastC h im))[v][k]⟩ = !decide ((imgS h (leastC h im))[v][k] = im[v][k]) := by rw [dfP, hat]
     rw [hdf] at hD
     refine wpT_skip ?_
     refine wpT_seq ?_
     refine wpT_block ?_
     refine wpT_seq ?_
     refine wpT_drawn [] mixed (by kernel_rfl) (m := 15) rfl (fun K hK => ?_)
     simp only [↓SP, SZ, ↓reduceIte, reduceCtorEq, nE, nA, nL, nT, sec_neq, sec_eql, hist_cs, e1, e15, e17, e18, imgAV, hgv, hgx, hgk, hgy, hc112]
     refine hK _ _ ?_
     clear hK K
     refine wpT_if (by rfl) (fun hc129 => ?_) (fun hc129 => ?_)
     ·
      have p129 := hc129
      try simp only [PB] at p129
      have hne : ¬ (imgS h (leastC h im))[v][k] = im[v][k] := by simpa using p129
      rw [decide_eq_false hne] at hD
      simp only [Bool.not_false] at hD
      have y0 : ¬ 0 = y + 10 := by omega
      have y1 : ¬ 1 = y + 10 := by omega
      have y0' : ¬ y + 10 = 0 := by omega
      have y1' : ¬ y + 10 = 1 := by omega
      refine wpT_seq ?_
      refine wpT_drawn [] mixed (by kernel_rfl) (m := 15) rfl (fun K hK => ?_)
      simp only [↓SP, SZ, ↓reduceIte, reduceCtorEq, nE, nA, nL, nT, sec_neq, sec_eql, hist_cs, e5, e13, e15, e17, e18, imgAV, hgx, hgy, wrZ, y0, y1, y0', y1', hc112, hc129]
      refine hK _ _ ?_
      clear hK K
      refine wpT_ret ⟨.inr rfl, ?_⟩
      show optK (resA _ _ _ [.tmp 4, .cell 5 45, .tmp 6]) _
      simp only [SRO, ↓SP, SZ, ↓reduceIte, reduceCtorEq, nE, nA, nL, nT, sec_neq, sec_eql, hist_cs, hc112, hc129]
      simp only [↓SP, SZ, ↓reduceIte, reduceCtorEq, nE, nA, nL, nT, sec_neq, sec_eql, SR, Option.map_some, Option.bind_some, e5]
      rw [hu, hcan, show candW h im = Ct.one ⟨v, k, (imgS h (leastC h im))[v][k]⟩ from by rw [candW, hcf, hD]]
      exact Lend.tupL (LendL.cons (.refl _) (LendL.cons (Lend.aggL (LendL.cons (.refl _) (LendL.cons (.refl _) (LendL.cons (Lend.sl0 (E := 49) (s := 8) (es := [(imgS h (leastC h im))[v][k].av]) (by simp only [↓SP, SZ, ↓reduceIte, reduceCtorEq, nE, nA, nL, nT, sec_neq, sec_eql, y0', y1']) rfl (by simp [AV.okc, Sec.av])) LendL.nil)))) (LendL.cons (.refl _) LendL.nil)))
     ·
      have p129 := hc129
      try simp only [PB] at p129
      have heq : (imgS h (leastC h im))[v][k] = im[v][k] := by simpa using p129
      rw [decide_eq_true heq] at hD
      simp only [Bool.not_true] at hD
      refine wpT_skip ?_
      refine wpT_inBlock ?_
      refine wpT_region (by kernel_rfl) (fun K hK => ?_)
      simp only [↓SP, SZ, ↓reduceIte, reduceCtorEq, nE, nA, nL, nT, sec_neq, sec_eql, hist_cs, e18, wrap64 (x := (k : Int) + 1) (by omega) (by omega), hc112, hc129]
      refine hK _ _ ?_
      clear hK K
      refine wpT_keep2 (i := 0) (j := 1) (o := .arr 26 3 [h.av]) (q := .arr 45 3 [wrZ]) (by simp only [↓SP, SZ, ↓reduceIte, reduceCtorEq, nE, nA, nL, nT, sec_neq, sec_eql]) (by simp only [↓SP, SZ, ↓reduceIte, reduceCtorEq, nE, nA, nL, nT, sec_neq, sec_eql]) ?_
      refine IH2 (k + 1) _ _ (by omega) ⟨⟨_, rfl, by simp only [↓SP, SZ, ↓reduceIte, reduceCtorEq, nE, nA, nL, nT, sec_neq, sec_eql]; omega⟩, by simp only [↓SP, SZ, ↓reduceIte, reduceCtorEq, nE, nA, nL, nT, sec_neq, sec_eql, e1], by simp only [↓SP, SZ, ↓reduceIte, reduceCtorEq, nE, nA, nL, nT, sec_neq, sec_eql, e5], by simp only [↓SP, SZ, ↓reduceIte, reduceCtorEq, nE, nA, nL, nT, sec_neq, sec_eql, e13], by simp only [↓SP, SZ, ↓reduceIte, reduceCtorEq, nE, nA, nL, nT, sec_neq, sec_eql, e15], by simp only [↓SP, SZ, ↓reduceIte, reduceCtorEq, nE, nA, nL, nT, sec_neq, sec_eql, e17], by simp only [↓SP, SZ, ↓reduceIte, reduceCtorEq, nE, nA, nL, nT, sec_neq, sec_eql, Int.natCast_add, Int.cast_ofNat_Int], by omega, hD⟩
    ·
     have p112 := hc112
     try simp only [PB] at p112
     have hk2 : k = (imgS h (leastC h im))[v].length := by omega
     rw [hk2, restC_end hvl2] at hD
     refine wpT_exit rfl ?_
     refine wpT_inBlock ?_
     refine wpT_region (by kernel_rfl) (fun K hK => ?_)
     simp only [↓SP, SZ, ↓reduceIte, reduceCtorEq, nE, nA, nL, nT, sec_neq, sec_eql, hist_cs, e17, wrap64 (x := (v : Int) + 1) (by omega) (by omega), hc112]
     refine hK _ _ ?_
     clear hK K
     refine wpT_keep2 (i := 0) (j := 1) (o := .arr 26 3 [h.av]) (q := .arr 45 3 [wrZ]) (by simp only [↓SP, SZ, ↓reduceIte, reduceCtorEq, nE, nA, nL, nT, sec_neq, sec_eql]) (by simp only [↓SP, SZ, ↓reduceIte, reduceCtorEq, nE, nA, nL, nT, sec_neq, sec_eql]) ?_
     refine IH (v + 1) _ _ (by omega) ⟨⟨_, rfl, hy⟩, by simp only [↓SP, SZ, ↓reduceIte, reduceCtorEq, nE, nA, nL, nT, sec_neq, sec_eql, e1], by simp only [↓SP, SZ, ↓reduceIte, reduceCtorEq, nE, nA, nL, nT, sec_neq, sec_eql, e5], by simp only [↓SP, SZ, ↓reduceIte, reduceCtorEq, nE, nA, nL, nT, sec_neq, sec_eql, e13], by simp only [↓SP, SZ, ↓reduceIte, reduceCtorEq, nE, nA, nL, nT, sec_neq, sec_eql, e15], by simp only [↓SP, SZ, ↓reduceIte, reduceCtorEq, nE, nA, nL, nT, sec_neq, sec_eql, Int.natCast_add, Int.cast_ofNat_Int], by omega, hD⟩
   ·
    have p103 := hc103
    try simp only [PB] at p103
    rw [List.drop_eq_nil_of_le (by omega), imCts] at hD
    refine wpT_exit rfl ?_
    refine wpT_seq ?_
    refine wpT_region (by kernel_rfl) (fun K hK => ?_)
    simp only [↓SP, SZ, ↓reduceIte, reduceCtorEq, nE, nA, nL, nT, sec_neq, sec_eql, hist_cs, e5, e13, wrZ, hc103]
    refine hK _ _ ?_
    clear hK K
    refine wpT_ret ⟨.inr rfl, ?_⟩
    show optK (resA _ _ _ [.tmp 4, .cell 5 45, .tmp 6]) _
    simp only [SRO, ↓SP, SZ, ↓reduceIte, reduceCtorEq, nE, nA, nL, nT, sec_neq, sec_eql, hist_cs, hc103]
    simp only [↓SP, SZ, ↓reduceIte, reduceCtorEq, nE, nA, nL, nT, sec_neq, sec_eql, SR, Option.map_some, Option.bind_some, e5]
    rw [hu, hcan, show candW h im = wr0 from by rw [candW, hcf, hD]; rfl]
    exact Lend.tupL (LendL.cons (.refl _) (LendL.cons wrZ_lend (LendL.cons (.refl _) LendL.nil)))
end Go.Proofs.YtfdfkmcplhloaaaGreat
end

section
set_option linter.unusedSimpArgs false
set_option linter.unusedVariables false
namespace Go.Proofs.YtfdfkmcplhloaaaGreat
open Go.Proofs
open Nat renaming reduceEqDiff → nE, reduceAdd → nA, reduceLeDiff → nL, reduceLT → nT
set_option maxRecDepth 10000
def byS (b : Int) : Sec := ⟨b, 0, 0, 0, 0, 0, 0, 0⟩
def ofI (a b c : Int) : List (List Sec) := [[byS a, byS b, byS c]]
def exH : Hist := ⟨[3], [⟨0, 0, [byS 1]⟩, ⟨0, 1, [byS 2]⟩, ⟨0, 0, [byS 3, byS 4]⟩], [⟨0, 0⟩, ⟨1, 0⟩, ⟨0, 1⟩, ⟨1, 1⟩, ⟨0, 2⟩]⟩
def firL (n : Nat) : List Int := (List.range n).map fun i : Nat => (i : Int)
def exI : List (List (List Sec)) := [ofI 0 0 0, ofI 1 0 0, ofI 1 2 0, ofI 3 4 0]
theorem ex_distinct : histE exH = 0 ∧ distB exH = true := by decide +kernel
theorem ex_finds : ∀ i, i < 4 → findL exH (exI.getD i []) = firL i ∧ newL exH (exI.getD i []) = firL i ∧ findB exH (exI.getD i []) = true ∧ judgeE exH (exI.getD i []) = 0 := by decide +kernel
theorem ex_conf1 : findB exH (ofI 0 2 0) = false ∧ judgeE exH (ofI 0 2 0) = 0 ∧ conW exH (ofI 0 2 0) = ⟨0, 0, [byS 1]⟩ ∧ conB exH (ofI 0 2 0) = true := by decide +kernel
theorem ex_conf2 : judgeE exH (ofI 1 5 0) = 0 ∧ conW exH (ofI 1 5 0) = ⟨0, 1, [byS 5]⟩ ∧ conB exH (ofI 1 5 0) = true := by decide +kernel
theorem ex_conf3 : judgeE exH (ofI 3 2 0) = 0 ∧ conW exH (ofI 3 2 0) = ⟨0, 1, [byS 4]⟩ ∧ conB exH (ofI 3 2 0) = true := by decide +kernel
theorem ex_sm : exH.sm := by unfold Hist.sm; decide +kernel
theorem byS_build (b : Int) : opBuild Tryz.prog 49 [(0, .int .u8 b)] = some (byS b).av := by kernel_rfl
theorem c15 (n : Nat) (hn : n < 4000000) : Pu Tryz.prog (.fn (.func 15) [] []) [I n] (.lst ((firL n).map I)) := by
 refine pu_func Tryz.func15 rfl (by kernel_rfl) (by show _ ≤ 15; simp only [LN]; decide) (by simp only [IDS]) (by simp only [IDS]) (by simp only [IDS]) ?_
 rw [Tryz.ntmps15]
 refine wpT_seq ?_
 refine wpT_region (by kernel_rfl) (fun K hK => ?_)
 simp only [↓SP, SZ, ↓reduceIte, reduceCtorEq, nE, nA, nL, nT, sec_neq]
 refine hK _ _ ?_
 clear hK K
 refine wpT_seq ?_
 refine wpT_region (by kernel_rfl) (fun K hK => ?_)
 simp only [↓SP, SZ, ↓reduceIte, reduceCtorEq, nE, nA, nL, nT, sec_neq]
 refine hK _ _ ?_
 clear hK K
 refine wpT_seq ?_
 refine wpT_seq ?_
 refine wpT_region (by kernel_rfl) (fun K hK => ?_)
 simp only [↓SP, SZ, ↓reduceIte, reduceCtorEq, nE, nA, nL, nT, sec_neq]
 refine hK _ _ ?_
 clear hK K
 refine wpT_block ?_
 refine wpT_loop ?_
 refine wpT_nilown 3 3 1 (by simp only [↓SP, SZ, ↓reduceIte, reduceCtorEq, nE, nA, nL, nT, sec_neq]) ?_
 refine wpT_keep1 (i := 0) (o := .arr 3 1 ((firL 0).map I)) (by simp only [↓SP, SZ, ↓reduceIte, reduceCtorEq, nE, nA, nL, nT, sec_neq]; rfl) ?_
 refine wpT_ind (fun (i : Nat) tm' h' => (∃ m, h' = Hp.of [(0, .arr 3 1 ((firL i).map I))] (m + 1)) ∧ tm' 0 = I n ∧ tm' 3 = .sl 0 i 0 i ∧ tm' 4 = I i ∧ i ≤ n) (fun i => n - i) ?_ 0 ⟨⟨0, rfl⟩, rfl, rfl, rfl, by omega⟩
 rintro i tm' _ ⟨⟨m, rfl⟩, e0, e3, e4, hi⟩ IH
 refine wpT_inLoop ?_
 refine wpT_seq ?_
 refine wpT_seq ?_
 refine wpT_region (by kernel_rfl) (fun K hK => ?_)
 simp only [↓SP, SZ, ↓reduceIte, reduceCtorEq, nE, nA, nL, nT, sec_neq, e0, e4]
 refine hK _ _ ?_
 clear hK K
 refine wpT_if (by rfl) (fun hc7 => ?_) (fun hc7 => ?_)
 ·
  have p7 := hc7
  try simp only [PB] at p7
  have hlt : i < n := by omega
  have q1 : i + 1 ≤ maxLen := by simp only [maxLen]; omega
  have q2 : (i + 1) * 8 ≤ 140737488355328 := by omega
  have q3 : (firL i).length = i := by simp [firL]
  have q4 : (firL (i + 1)).map I = (firL i).map I ++ [I i] := by simp [firL, List.range_succ]
  refine wpT_skip ?_
  refine wpT_seq ?_
  refine wpT_block ?_
  refine wpT_region (by kernel_rfl) (fun K hK => ?_)
  simp only [↓SP, SZ, ↓reduceIte, reduceCtorEq, nE, nA, nL, nT, sec_neq, e3, e4, q1, q2, q3, hc7]
  refine hK _ _ ?_
  clear hK K
  refine wpT_inBlock ?_
  refine wpT_region (by kernel_rfl) (fun K hK => ?_)
  simp only [↓SP, SZ, ↓reduceIte, reduceCtorEq, nE, nA, nL, nT, sec_neq, e4, wrap64 (x := (i : Int) + 1) (by omega) (by omega), hc7]
  refine hK _ _ ?_
  clear hK K
  refine wpT_keep1 (i := 0) (o := .arr 3 1 ((firL (i + 1)).map I)) (by simp only [↓SP, SZ, ↓reduceIte, reduceCtorEq, nE, nA, nL, nT, sec_neq, q4]) ?_
  refine IH (i + 1) _ _ (by omega) ⟨⟨_, rfl⟩, by simp only [↓SP, SZ, ↓reduceIte, reduceCtorEq, nE, nA, nL, nT, sec_neq, e0], by simp only [↓SP, SZ, ↓reduceIte, reduceCtorEq, nE, nA, nL, nT, sec_neq], by simp only [↓SP, SZ, ↓reduceIte, reduceCtorEq, nE, nA, nL, nT, sec_neq, Int.natCast_add, Int.cast_ofNat_Int], by omega⟩
 ·
  have p7 := hc7
  try simp only [PB] at p7
  have hi2 : i = n := by omega
  subst hi2
  refine wpT_exit rfl ?_
  refine wpT_seq ?_
  refine wpT_region (by kernel_rfl) (fun K hK => ?_)
  simp only [↓SP, SZ, ↓reduceIte, reduceCtorEq, nE, nA, nL, nT, sec_neq, e3, hc7]
  refine hK _ _ ?_
  clear hK K
  refine wpT_ret ⟨.inr rfl, ?_⟩
  show optK (resA _ _ _ [.tmp 2]) _
  simp only [SRO, ↓SP, SZ, ↓reduceIte, reduceCtorEq, nE, nA, nL, nT, sec_neq, hc7]
  exact Lend.sl0 (E := 3) (s := 1) (by simp only [↓SP, SZ, ↓reduceIte, reduceCtorEq, nE, nA, nL, nT, sec_neq]) (by simp [firL]) (int_okc _)
theorem c14 (a b c : Int) : Pu Tryz.prog (.fn (.func 14) [] []) [.int .u8 a, .int .u8 b, .int .u8 c] (imgAV (ofI a b c)) := by
 refine pu_func Tryz.func14 rfl (by kernel_rfl) (by show _ ≤ 15; simp only [LN]; decide) (by simp only [IDS]) (by simp only [IDS]) (by simp only [IDS]) ?_
 rw [Tryz.ntmps14]
 refine wpT_seq ?_
 refine wpT_region (by kernel_rfl) (fun K hK => ?_)
 simp only [↓SP, SZ, ↓reduceIte, reduceCtorEq, nE, nA, nL, nT, sec_neq]
 refine hK _ _ ?_
 clear hK K
 refine wpT_seq ?_
 refine wpT_region (by kernel_rfl) (fun K hK => ?_)
 simp only [↓SP, SZ, ↓reduceIte, reduceCtorEq, nE, nA, nL, nT, sec_neq, byS_build, bsT (len := 3) sle43 zo49 cel49 zr49 rfl rfl rfl, bsO_3]
 refine hK _ _ ?_
 clear hK K
 refine wpT_ret ⟨.inr rfl, ?_⟩
 show optK (resA _ _ _ [.tmp 6]) _
 simp only [SRO, ↓SP, SZ, ↓reduceIte, reduceCtorEq, nE, nA, nL, nT, sec_neq]
 refine Lend.sl 1 1 0 1 43 1 [.sl 0 3 0 3] _ (by simp only [↓SP, SZ, ↓reduceIte, reduceCtorEq, nE, nA, nL, nT, sec_neq]) rfl (by omega) rfl (fun j x y hx hy => ?_) (fun y hy => ?_)
 · cases j with
   | zero =>
     simp [ofI] at hx hy
     subst hx; subst hy
     exact Lend.sl0 (E := 49) (s := 8) (es := [(byS a).av, (byS b).av, (byS c).av]) (by simp only [↓SP, SZ, ↓reduceIte, reduceCtorEq, nE, nA, nL, nT, sec_neq]) rfl (by simp [AV.okc, Sec.av])
   | succ j => simp at hx
 · simp only [ofI, List.map_cons, List.map_nil, List.mem_singleton] at hy
   subst hy; rfl
theorem c17 (at' s : Int) : Pu Tryz.prog (.fn (.func 17) [] []) [I at', .int .u8 s] (.lst ([(⟨0, at', [byS s]⟩ : Wr)].map Wr.av)) := by
 refine pu_func Tryz.func17 rfl (by kernel_rfl) (by show _ ≤ 11; simp only [LN]; decide) (by simp only [IDS]) (by simp only [IDS]) (by simp only [IDS]) ?_
 rw [Tryz.ntmps17]
 refine wpT_seq ?_
 refine wpT_region (by kernel_rfl) (fun K hK => ?_)
 simp only [↓SP, SZ, ↓reduceIte, reduceCtorEq, nE, nA, nL, nT, sec_neq]
 refine hK _ _ ?_
 clear hK K
 refine wpT_seq ?_
 refine wpT_region (by kernel_rfl) (fun K hK => ?_)
 simp only [↓SP, SZ, ↓reduceIte, reduceCtorEq, nE, nA, nL, nT, sec_neq, byS_build]
 refine hK _ _ ?_
 clear hK K
 refine wpT_ret ⟨.inr rfl, ?_⟩
 show optK (resA _ _ _ [.tmp 4]) _
 simp only [SRO, ↓SP, SZ, ↓reduceIte, reduceCtorEq, nE, nA, nL, nT, sec_neq]
 refine Lend.sl 1 1 0 1 45 3 [.agg [I 0, I at', .sl 0 1 0 1]] _ (by simp only [↓SP, SZ, ↓reduceIte, reduceCtorEq, nE, nA, nL, nT, sec_neq]) rfl (by omega) rfl (fun j x y hx hy => ?_) (fun y hy => by simp only [List.map_cons, List.map_nil, List.mem_singleton] at hy; subst hy; rfl)
 cases j with
 | zero =>
   simp at hx hy
   subst hx; subst hy
   exact Lend.aggL (LendL.cons (.refl _) (LendL.cons (.refl _) (LendL.cons (Lend.sl0 (E := 49) (s := 8) (es := [(byS s).av]) (by simp only [↓SP, SZ, ↓reduceIte, reduceCtorEq, nE, nA, nL, nT, sec_neq]) rfl (by simp [AV.okc, Sec.av])) LendL.nil)))
 | succ j => simp at hx
theorem c29 (k n : Int) : Pu Tryz.prog (.fn (.func 29) [] []) [I k, I n] (Evn.av ⟨k, n⟩) := by
 refine pu_func Tryz.func29 rfl (by kernel_rfl) (by show _ ≤ 8; simp only [LN]; decide) (by simp only [IDS]) (by simp only [IDS]) (by simp only [IDS]) ?_
 rw [Tryz.ntmps29]
 refine wpT_seq ?_
 refine wpT_region (by kernel_rfl) (fun K hK => ?_)
 simp only [↓SP, SZ, ↓reduceIte, reduceCtorEq, nE, nA, nL, nT, sec_neq]
 refine hK _ _ ?_
 clear hK K
 refine wpT_seq ?_
 refine wpT_region (by kernel_rfl) (fun K hK => ?_)
 simp only [↓SP, SZ, ↓reduceIte, reduceCtorEq, nE, nA, nL, nT, sec_neq]
 refine hK _ _ ?_
 clear hK K
 refine wpT_ret ⟨.inr rfl, ?_⟩
 show optK (resA _ _ _ [.cell 4 69]) _
 simp only [SRO, ↓SP, SZ, ↓reduceIte, reduceCtorEq, nE, nA, nL, nT, sec_neq]
 exact .refl _
theorem c28 (bs : List Int) (hl : bs.length < 4000000) : Pu Tryz.prog (.fn (.func 28) [] []) [.lst (bs.map fun b => .int .u8 b)] (.lst ((bs.map byS).map Sec.av)) := by
 refine pu_func Tryz.func28 rfl (by kernel_rfl) (by show _ ≤ 19; simp only [LN]; decide) (by simp only [IDS]) (by simp only [IDS]) (by simp only [IDS]) ?_
 rw [Tryz.ntmps28]
 refine wpT_seq ?_
 refine wpT_region (by kernel_rfl) (fun K hK => ?_)
 simp only [↓SP, SZ, ↓reduceIte, reduceCtorEq, nE, nA, nL, nT, sec_neq]
 refine hK _ _ ?_
 clear hK K
 refine wpT_seq ?_
 refine wpT_region (by kernel_rfl) (fun K hK => ?_)
 simp only [↓SP, SZ, ↓reduceIte, reduceCtorEq, nE, nA, nL, nT, sec_neq]
 refine hK _ _ ?_
 clear hK K
 refine wpT_seq ?_
 refine wpT_seq ?_
 refine wpT_region (by kernel_rfl) (fun K hK => ?_)
 simp only [↓SP, SZ, ↓reduceIte, reduceCtorEq, nE, nA, nL, nT, sec_neq]
 refine hK _ _ ?_
 clear hK K
 refine wpT_block ?_
 refine wpT_loop ?_
 refine wpT_nilown 3 49 8 (by simp only [↓SP, SZ, ↓reduceIte, reduceCtorEq, nE, nA, nL, nT, sec_neq]) ?_
 refine wpT_keep1 (i := 0) (o := .arr 49 8 (((bs.take 0).map byS).map Sec.av)) (by simp only [↓SP, SZ, ↓reduceIte, reduceCtorEq, nE, nA, nL, nT, sec_neq]) ?_
 refine wpT_ind (fun (i : Nat) tm' h' => (∃ m, h' = Hp.of [(0, .arr 49 8 (((bs.take i).map byS).map Sec.av))] (m + 1)) ∧ tm' 3 = .sl 0 i 0 i ∧ tm' 6 = .lst (bs.map fun b => .int .u8 b) ∧ tm' 7 = I bs.length ∧ tm' 8 = I i ∧ i ≤ bs.length) (fun i => bs.length - i) ?_ 0 ⟨⟨0, rfl⟩, rfl, rfl, rfl, rfl, by omega⟩
 rintro i tm' _ ⟨⟨m, rfl⟩, e3, e6, e7, e8, hi⟩ IH
 refine wpT_inLoop ?_
 refine wpT_seq ?_
 refine wpT_region (by kernel_rfl) (fun K hK => ?_)
 simp only [↓SP, SZ, ↓reduceIte, reduceCtorEq, nE, nA, nL, nT, sec_neq, e7, e8]
 refine hK _ _ ?_
 clear hK K
 refine wpT_seq ?_
 refine wpT_if (by rfl) (fun hc9 => ?_) (fun hc9 => ?_)
 ·
  have p9 := hc9
  try simp only [PB] at p9
  have hlt : i < bs.length := by omega
  have hg := at_map (f := fun b : Int => AV.int .u8 b) hlt
  have q1 : i + 1 ≤ maxLen := by simp only [maxLen]; omega
  have q2 : (i + 1) * 8 ≤ 140737488355328 := by omega
  have q4 : (((bs.take (i + 1)).map byS).map Sec.av) = (((bs.take i).map byS).map Sec.av) ++ [(byS bs[i]).av] := by rw [List.take_add_one, List.getElem?_eq_getElem hlt, List.map_append, List.map_append]; rfl
  refine wpT_skip ?_
  refine wpT_seq ?_
  refine wpT_block ?_
  refine wpT_seq ?_
  refine wpT_region (by kernel_rfl) (fun K hK => ?_)
  simp only [↓SP, SZ, ↓reduceIte, reduceCtorEq, nE, nA, nL, nT, sec_neq, e6, e8, hg, hc9]
  refine hK _ _ ?_
  clear hK K
  refine wpT_region (by kernel_rfl) (fun K hK => ?_)
  simp only [↓SP, SZ, ↓reduceIte, reduceCtorEq, nE, nA, nL, nT, sec_neq, e3, byS_build, q1, q2, List.length_take, Nat.min_eq_left hi, hc9]
  refine hK _ _ ?_
  clear hK K
  refine wpT_inBlock ?_
  refine wpT_region (by kernel_rfl) (fun K hK => ?_)
  simp only [↓SP, SZ, ↓reduceIte, reduceCtorEq, nE, nA, nL, nT, sec_neq, e8, wrap64 (x := (i : Int) + 1) (by omega) (by omega), hc9]
  refine hK _ _ ?_
  clear hK K
  refine wpT_keep1 (i := 0) (o := .arr 49 8 (((bs.take (i + 1)).map byS).map Sec.av)) (by simp only [↓SP, SZ, ↓reduceIte, reduceCtorEq, nE, nA, nL, nT, sec_neq, q4]) ?_
  refine IH (i + 1) _ _ (by omega) ⟨⟨_, rfl⟩, by simp only [↓SP, SZ, ↓reduceIte, reduceCtorEq, nE, nA, nL, nT, sec_neq], by simp only [↓SP, SZ, ↓reduceIte, reduceCtorEq, nE, nA, nL, nT, sec_neq, e6], by simp only [↓SP, SZ, ↓reduceIte, reduceCtorEq, nE, nA, nL, nT, sec_neq, e7], by simp only [↓SP, SZ, ↓reduceIte, reduceCtorEq, nE, nA, nL, nT, sec_neq, Int.natCast_add, Int.cast_ofNat_Int], by omega⟩
 ·
  have p9 := hc9
  try simp only [PB] at p9
  have hi2 : i = bs.length := by omega
  subst hi2
  refine wpT_exit rfl ?_
  refine wpT_seq ?_
  refine wpT_region (by kernel_rfl) (fun K hK => ?_)
  simp only [↓SP, SZ, ↓reduceIte, reduceCtorEq, nE, nA, nL, nT, sec_neq, e3, hc9]
  refine hK _ _ ?_
  clear hK K
  refine wpT_ret ⟨.inr rfl, ?_⟩
  show optK (resA _ _ _ [.tmp 2]) _
  simp only [SRO, ↓SP, SZ, ↓reduceIte, reduceCtorEq, nE, nA, nL, nT, sec_neq, hc9]
  exact Lend.sl0 (E := 49) (s := 8) (by simp only [↓SP, SZ, ↓reduceIte, reduceCtorEq, nE, nA, nL, nT, sec_neq, List.take_length]) (by simp) (secs_okc _)
theorem exampleF : Pu Tryz.prog (.fn (.func 13) [] []) [] exH.av := by
 refine pu_func Tryz.func13 rfl (by kernel_rfl) (by show _ ≤ 29; simp only [LN]; decide) (by simp only [IDS]) (by simp only [IDS]) (by simp only [IDS]) ?_
 rw [Tryz.ntmps13]
 refine wpT_seq ?_
 refine wpT_region (by kernel_rfl) (fun K hK => ?_)
 simp only [↓SP, SZ, ↓reduceIte, reduceCtorEq, nE, nA, nL, nT, sec_neq, bsT (len := 2) sle66 zo5 cel5 zr5 rfl rfl rfl, bsT (len := 3) sle23 zo45 cel45 zr45 rfl rfl rfl, bsT (len := 5) sle24 zo69 cel69 zr69 rfl rfl rfl, bsO_2, bsO_3, bsO_5]
 refine hK _ _ ?_
 clear hK K
 refine wpT_seq ?_
 refine wpT_region (by kernel_rfl) (fun K hK => ?_)
 simp only [↓SP, SZ, ↓reduceIte, reduceCtorEq, nE, nA, nL, nT, sec_neq, bsT (len := 2) sle66 zo5 cel5 zr5 rfl rfl rfl, bsT (len := 3) sle23 zo45 cel45 zr45 rfl rfl rfl, bsT (len := 5) sle24 zo69 cel69 zr69 rfl rfl rfl, bsO_2, bsO_3, bsO_5]
 refine hK _ _ ?_
 clear hK K
 refine wpT_seq ?_
 refine wpT_region (by kernel_rfl) (fun K hK => ?_)
 simp only [↓SP, SZ, ↓reduceIte, reduceCtorEq, nE, nA, nL, nT, sec_neq, bsT (len := 2) sle66 zo5 cel5 zr5 rfl rfl rfl, bsT (len := 3) sle23 zo45 cel45 zr45 rfl rfl rfl, bsT (len := 5) sle24 zo69 cel69 zr69 rfl rfl rfl, bsO_2, bsO_3, bsO_5]
 refine hK _ _ ?_
 clear hK K
 refine wpT_seq ?_
 refine wpT_region (by kernel_rfl) (fun K hK => ?_)
 simp only [↓SP, SZ, ↓reduceIte, reduceCtorEq, nE, nA, nL, nT, sec_neq, bsT (len := 2) sle66 zo5 cel5 zr5 rfl rfl rfl, bsT (len := 3) sle23 zo45 cel45 zr45 rfl rfl rfl, bsT (len := 5) sle24 zo69 cel69 zr69 rfl rfl rfl, bsO_2, bsO_3, bsO_5]
 refine Pu.freeze (c28 [1] (by simp)) 2 (LendL.cons (Lend.sl0 (E := 5) (s := 1) (es := [.int .u8 1]) (by simp only [↓SP, SZ, ↓reduceIte, reduceCtorEq, nE, nA, nL, nT, sec_neq]) rfl (by simp [AV.okc])) LendL.nil) ?_
 simp only [↓SP, SZ, ↓reduceIte, reduceCtorEq, nE, nA, nL, nT, sec_neq, bsT (len := 2) sle66 zo5 cel5 zr5 rfl rfl rfl, bsT (len := 3) sle23 zo45 cel45 zr45 rfl rfl rfl, bsT (len := 5) sle24 zo69 cel69 zr69 rfl rfl rfl, bsO_2, bsO_3, bsO_5]
 refine Pu.freeze (c28 [2] (by simp)) 3 (LendL.cons (Lend.sl0 (E := 5) (s := 1) (es := [.int .u8 2]) (by simp only [↓SP, SZ, ↓reduceIte, reduceCtorEq, nE, nA, nL, nT, sec_neq]) rfl (by simp [AV.okc])) LendL.nil) ?_
 simp only [↓SP, SZ, ↓reduceIte, reduceCtorEq, nE, nA, nL, nT, sec_neq, bsT (len := 2) sle66 zo5 cel5 zr5 rfl rfl rfl, bsT (len := 3) sle23 zo45 cel45 zr45 rfl rfl rfl, bsT (len := 5) sle24 zo69 cel69 zr69 rfl rfl rfl, bsO_2, bsO_3, bsO_5]
 refine Pu.freeze (c28 [3, 4] (by simp)) 4 (LendL.cons (Lend.sl0 (E := 5) (s := 1) (es := [.int .u8 3, .int .u8 4]) (by simp only [↓SP, SZ, ↓reduceIte, reduceCtorEq, nE, nA, nL, nT, sec_neq]) rfl (by simp [AV.okc])) LendL.nil) ?_
 simp only [↓SP, SZ, ↓reduceIte, reduceCtorEq, nE, nA, nL, nT, sec_neq, bsT (len := 2) sle66 zo5 cel5 zr5 rfl rfl rfl, bsT (len := 3) sle23 zo45 cel45 zr45 rfl rfl rfl, bsT (len := 5) sle24 zo69 cel69 zr69 rfl rfl rfl, bsO_2, bsO_3, bsO_5]
 refine Pu.call (c29 0 0) ?_
 simp only [↓SP, SZ, ↓reduceIte, reduceCtorEq, nE, nA, nL, nT, sec_neq, bsT (len := 2) sle66 zo5 cel5 zr5 rfl rfl rfl, bsT (len := 3) sle23 zo45 cel45 zr45 rfl rfl rfl, bsT (len := 5) sle24 zo69 cel69 zr69 rfl rfl rfl, bsO_2, bsO_3, bsO_5]
 refine Pu.call (c29 1 0) ?_
 simp only [↓SP, SZ, ↓reduceIte, reduceCtorEq, nE, nA, nL, nT, sec_neq, bsT (len := 2) sle66 zo5 cel5 zr5 rfl rfl rfl, bsT (len := 3) sle23 zo45 cel45 zr45 rfl rfl rfl, bsT (len := 5) sle24 zo69 cel69 zr69 rfl rfl rfl, bsO_2, bsO_3, bsO_5]
 refine Pu.call (c29 0 1) ?_
 simp only [↓SP, SZ, ↓reduceIte, reduceCtorEq, nE, nA, nL, nT, sec_neq, bsT (len := 2) sle66 zo5 cel5 zr5 rfl rfl rfl, bsT (len := 3) sle23 zo45 cel45 zr45 rfl rfl rfl, bsT (len := 5) sle24 zo69 cel69 zr69 rfl rfl rfl, bsO_2, bsO_3, bsO_5]
 refine Pu.call (c29 1 1) ?_
 simp only [↓SP, SZ, ↓reduceIte, reduceCtorEq, nE, nA, nL, nT, sec_neq, bsT (len := 2) sle66 zo5 cel5 zr5 rfl rfl rfl, bsT (len := 3) sle23 zo45 cel45 zr45 rfl rfl rfl, bsT (len := 5) sle24 zo69 cel69 zr69 rfl rfl rfl, bsO_2, bsO_3, bsO_5]
 refine Pu.call (c29 0 2) ?_
 simp only [↓SP, SZ, ↓reduceIte, reduceCtorEq, nE, nA, nL, nT, sec_neq, bsT (len := 2) sle66 zo5 cel5 zr5 rfl rfl rfl, bsT (len := 3) sle23 zo45 cel45 zr45 rfl rfl rfl, bsT (len := 5) sle24 zo69 cel69 zr69 rfl rfl rfl, bsO_2, bsO_3, bsO_5]
 refine hK _ _ ?_
 clear hK K
 refine wpT_ret ⟨.inr rfl, ?_⟩
 show optK (resA _ _ _ [.cell 0 26]) _
 simp only [SRO, ↓SP, SZ, ↓reduceIte, reduceCtorEq, nE, nA, nL, nT, sec_neq, bsT (len := 2) sle66 zo5 cel5 zr5 rfl rfl rfl, bsT (len := 3) sle23 zo45 cel45 zr45 rfl rfl rfl, bsT (len := 5) sle24 zo69 cel69 zr69 rfl rfl rfl, bsO_2, bsO_3, bsO_5]
 have e : exH.av = .agg [.lst [I 3], .lst [.agg [I 0, I 0, .lst [(byS 1).av]], .agg [I 0, I 1, .lst [(byS 2).av]], .agg [I 0, I 0, .lst [(byS 3).av, (byS 4).av]]], .lst [(Evn.mk 0 0).av, (Evn.mk 1 0).av, (Evn.mk 0 1).av, (Evn.mk 1 1).av, (Evn.mk 0 2).av]] := rfl
 rw [e]
 exact Lend.aggL (LendL.cons (Lend.sl0 (E := 3) (s := 1) (by simp only [↓SP, SZ, ↓reduceIte, reduceCtorEq, nE, nA, nL, nT, sec_neq]) rfl (by simp [AV.okc])) (LendL.cons (Lend.sl0 (E := 45) (s := 3) (by simp only [↓SP, SZ, ↓reduceIte, reduceCtorEq, nE, nA, nL, nT, sec_neq]) rfl (by simp [AV.okc])) (LendL.cons (Lend.sl0 (E := 69) (s := 2) (by simp only [↓SP, SZ, ↓reduceIte, reduceCtorEq, nE, nA, nL, nT, sec_neq]) rfl (by simp [AV.okc, Evn.av])) LendL.nil)))
theorem ex_lens : ∀ im ∈ exI, im.length < 4000000 ∧ ∀ l ∈ im, l.length < 4000000 := by decide +kernel
theorem of_lens (a b c : Int) : (ofI a b c).length < 4000000 ∧ ∀ l ∈ ofI a b c, l.length < 4000000 := by simp [ofI]
theorem z00 : ((0 : Int) != 0) = false := rfl
theorem w00 : IntKind.i64.wrap ((0 : Int) + 0) = 0 := rfl
theorem awakeF : Pu Tryz.prog (.fn (.func 5) [] []) [] (B true) := by
 refine pu_func Tryz.func5 rfl (by kernel_rfl) (by show _ ≤ 153; simp only [LN]; decide) (by simp only [IDS]) (by simp only [IDS]) (by simp only [IDS]) ?_
 rw [Tryz.ntmps5]
 have hfind := ex_finds
 obtain ⟨x11, x12, x13, x14⟩ := ex_conf1
 obtain ⟨x22, x23, x24⟩ := ex_conf2
 obtain ⟨x32, x33, x34⟩ := ex_conf3
 obtain ⟨d1, d2⟩ := ex_distinct
 have dd : (decide (histE exH = 0) && distB exH) = true := by rw [d1, d2]; rfl
 refine wpT_seq ?_
 refine wpT_region (by kernel_rfl) (fun K hK => ?_)
 simp only [↓SP, SZ, ↓reduceIte, reduceCtorEq, nE, nA, nL, nT, sec_neq, z00, w00]
 refine hK _ _ ?_
 clear hK K
 refine wpT_seq ?_
 refine wpT_region (by kernel_rfl) (fun K hK => ?_)
 simp only [↓SP, SZ, ↓reduceIte, reduceCtorEq, nE, nA, nL, nT, sec_neq, z00, w00]
 refine Pu.call exampleF ?_
 simp only [↓SP, SZ, ↓reduceIte, reduceCtorEq, nE, nA, nL, nT, sec_neq, z00, w00]
 refine hK _ _ ?_
 clear hK K
 refine wpT_seq ?_
 refine wpT_seq ?_
 refine wpT_region (by kernel_rfl) (fun K hK => ?_)
 simp only [↓SP, SZ, ↓reduceIte, reduceCtorEq, nE, nA, nL, nT, sec_neq, z00, w00, img_okc, img_cells, bsT (len := 4) sle41 zo28 cel28 zr28 rfl rfl rfl, bsO_4 (c := 1) (va := imgAV (ofI 0 0 0)) (vb := imgAV (ofI 1 0 0)) (vc := imgAV (ofI 1 2 0)) (vd := imgAV (ofI 3 4 0)) rfl rfl rfl rfl rfl rfl rfl rfl]
 refine Pu.call (c14 0 0 0) ?_
 simp only [↓SP, SZ, ↓reduceIte, reduceCtorEq, nE, nA, nL, nT, sec_neq, z00, w00, img_okc, img_cells, bsT (len := 4) sle41 zo28 cel28 zr28 rfl rfl rfl, bsO_4 (c := 1) (va := imgAV (ofI 0 0 0)) (vb := imgAV (ofI 1 0 0)) (vc := imgAV (ofI 1 2 0)) (vd := imgAV (ofI 3 4 0)) rfl rfl rfl rfl rfl rfl rfl rfl]
 refine Pu.call (c14 1 0 0) ?_
 simp only [↓SP, SZ, ↓reduceIte, reduceCtorEq, nE, nA, nL, nT, sec_neq, z00, w00, img_okc, img_cells, bsT (len := 4) sle41 zo28 cel28 zr28 rfl rfl rfl, bsO_4 (c := 1) (va := imgAV (ofI 0 0 0)) (vb := imgAV (ofI 1 0 0)) (vc := imgAV (ofI 1 2 0)) (vd := imgAV (ofI 3 4 0)) rfl rfl rfl rfl rfl rfl rfl rfl]
 refine Pu.call (c14 1 2 0) ?_
 simp only [↓SP, SZ, ↓reduceIte, reduceCtorEq, nE, nA, nL, nT, sec_neq, z00, w00, img_okc, img_cells, bsT (len := 4) sle41 zo28 cel28 zr28 rfl rfl rfl, bsO_4 (c := 1) (va := imgAV (ofI 0 0 0)) (vb := imgAV (ofI 1 0 0)) (vc := imgAV (ofI 1 2 0)) (vd := imgAV (ofI 3 4 0)) rfl rfl rfl rfl rfl rfl rfl rfl]
 refine Pu.call (c14 3 4 0) ?_
 simp only [↓SP, SZ, ↓reduceIte, reduceCtorEq, nE, nA, nL, nT, sec_neq, z00, w00, img_okc, img_cells, bsT (len := 4) sle41 zo28 cel28 zr28 rfl rfl rfl, bsO_4 (c := 1) (va := imgAV (ofI 0 0 0)) (vb := imgAV (ofI 1 0 0)) (vc := imgAV (ofI 1 2 0)) (vd := imgAV (ofI 3 4 0)) rfl rfl rfl rfl rfl rfl rfl rfl]
 refine hK _ _ ?_
 clear hK K
 refine wpT_block ?_
 refine wpT_loop ?_
 refine wpT_keep2 (i := 0) (j := 1) (o := .arr 26 3 [exH.av]) (q := .arr 28 1 (exI.map imgAV)) (by simp only [↓SP, SZ, ↓reduceIte, reduceCtorEq, nE, nA, nL, nT, sec_neq]) (by simp only [↓SP, SZ, ↓reduceIte, reduceCtorEq, nE, nA, nL, nT, sec_neq, exI]) ?_
 refine wpT_ind (fun (i : Nat) tm' h' => (∃ m, h' = Hp.of [(0, .arr 26 3 [exH.av]), (1, .arr 28 1 (exI.map imgAV))] (m + 2)) ∧ tm' 1 = .ptr 0 1 0 0 ∧ tm' 28 = .sl 1 4 0 4 ∧ tm' 29 = I 4 ∧ tm' 30 = I i ∧ i ≤ 4) (fun i => 4 - i) ?_ 0 ⟨⟨0, rfl⟩, rfl, rfl, rfl, rfl, by omega⟩
 rintro i tm' _ ⟨⟨m, rfl⟩, e1, e28, e29, e30, hi⟩ IH
 refine wpT_inLoop ?_
 refine wpT_seq ?_
 refine wpT_region (by kernel_rfl) (fun K hK => ?_)
 simp only [↓SP, SZ, ↓reduceIte, reduceCtorEq, nE, nA, nL, nT, sec_neq, z00, w00, e29, e30]
 refine hK _ _ ?_
 clear hK K
 refine wpT_seq ?_
 refine wpT_if (by rfl) (fun hc31 => ?_) (fun hc31 => ?_)
 ·
  have p31 := hc31
  try simp only [PB] at p31
  have hlt : i < 4 := by omega
  have hlx : i < exI.length := hlt
  have hg := at_map (f := imgAV) hlx
  have hgd : exI.getD i [] = exI[i] := by simp [hlx]
  obtain ⟨f1, f2, f3, f4⟩ := hfind i hlt
  rw [hgd] at f1 f2 f3 f4
  obtain ⟨l1, l2⟩ := ex_lens _ (List.getElem_mem hlx)
  have hex : exI.length = 4 := rfl
  have hz0 : (0 : Int) ≤ (i : Int) := by omega
  have hz1 : (i : Int) < ((4 : Nat) : Int) := by omega
  have dt1 : decide (firL i = firL i) = true := decide_eq_true rfl
  refine wpT_skip ?_
  refine wpT_seq ?_
  refine wpT_block ?_
  refine wpT_seq ?_
  refine wpT_region (by kernel_rfl) (fun K hK => ?_)
  simp only [↓SP, SZ, ↓reduceIte, reduceCtorEq, nE, nA, nL, nT, sec_neq, z00, w00, e28, e30, hg, hex, hz0, hz1, Int.toNat_natCast, ldO_arr, Option.bind_some, img_cells, hc31]
  refine hK _ _ ?_
  clear hK K
  refine wpT_seq ?_
  refine wpT_region (by kernel_rfl) (fun K hK => ?_)
  simp only [↓SP, SZ, ↓reduceIte, reduceCtorEq, nE, nA, nL, nT, sec_neq, z00, w00, e1, f1, f3, f4, hc31]
  refine Pu.call (c6 exH exI[i] ex_sm l1 l2) ?_
  simp only [↓SP, SZ, ↓reduceIte, reduceCtorEq, nE, nA, nL, nT, sec_neq, z00, w00, e1, f1, f3, f4, hc31]
  refine hK _ _ ?_
  clear hK K
  refine wpT_seq ?_
  refine wpT_region (by kernel_rfl) (fun K hK => ?_)
  simp only [↓SP, SZ, ↓reduceIte, reduceCtorEq, nE, nA, nL, nT, sec_neq, z00, w00, e1, f2, f3, f4, hc31]
  refine Pu.call (c8 exH exI[i] ex_sm l1 l2) ?_
  simp only [↓SP, SZ, ↓reduceIte, reduceCtorEq, nE, nA, nL, nT, sec_neq, z00, w00, e1, f2, f3, f4, hc31]
  refine hK _ _ ?_
  clear hK K
  refine wpT_seq ?_
  refine wpT_region (by kernel_rfl) (fun K hK => ?_)
  simp only [↓SP, SZ, ↓reduceIte, reduceCtorEq, nE, nA, nL, nT, sec_neq, z00, w00, f1, f2, f3, f4, dt1, hc31]
  refine Pu.call (c15 i (by omega)) ?_
  simp only [↓SP, SZ, ↓reduceIte, reduceCtorEq, nE, nA, nL, nT, sec_neq, z00, w00, f1, f2, f3, f4, dt1, hc31]
  refine Pu.call (c10 (firL i) (firL i) (by simp [firL]; omega)) ?_
  simp only [↓SP, SZ, ↓reduceIte, reduceCtorEq, nE, nA, nL, nT, sec_neq, z00, w00, f1, f2, f3, f4, dt1, hc31]
  refine Pu.call (c15 i (by omega)) ?_
  simp only [↓SP, SZ, ↓reduceIte, reduceCtorEq, nE, nA, nL, nT, sec_neq, z00, w00, f1, f2, f3, f4, dt1, hc31]
  refine Pu.call (c10 (firL i) (firL i) (by simp [firL]; omega)) ?_
  simp only [↓SP, SZ, ↓reduceIte, reduceCtorEq, nE, nA, nL, nT, sec_neq, z00, w00, f1, f2, f3, f4, dt1, hc31]
  refine hK _ _ ?_
  clear hK K
  refine wpT_ifF (by simp only [↓SP, SZ, ↓reduceIte, reduceCtorEq, nE, nA, nL, nT, sec_neq, z00, w00, hc31]) ?_
  refine wpT_skip ?_
  refine wpT_inBlock ?_
  refine wpT_region (by kernel_rfl) (fun K hK => ?_)
  simp only [↓SP, SZ, ↓reduceIte, reduceCtorEq, nE, nA, nL, nT, sec_neq, z00, w00, e30, wrap64 (x := (i : Int) + 1) (by omega) (by omega), hc31]
  refine hK _ _ ?_
  clear hK K
  refine wpT_keep2 (i := 0) (j := 1) (o := .arr 26 3 [exH.av]) (q := .arr 28 1 (exI.map imgAV)) (by simp only [↓SP, SZ, ↓reduceIte, reduceCtorEq, nE, nA, nL, nT, sec_neq]) (by simp only [↓SP, SZ, ↓reduceIte, reduceCtorEq, nE, nA, nL, nT, sec_neq]) ?_
  refine IH (i + 1) _ _ (by omega) ⟨⟨_, rfl⟩, by simp only [↓SP, SZ, ↓reduceIte, reduceCtorEq, nE, nA, nL, nT, sec_neq, e1], by simp only [↓SP, SZ, ↓reduceIte, reduceCtorEq, nE, nA, nL, nT, sec_neq, e28], by simp only [↓SP, SZ, ↓reduceIte, reduceCtorEq, nE, nA, nL, nT, sec_neq, e29], by simp only [↓SP, SZ, ↓reduceIte, reduceCtorEq, nE, nA, nL, nT, sec_neq, Int.natCast_add, Int.cast_ofNat_Int], by omega⟩
 ·
  have p31 := hc31
  try simp only [PB] at p31
  refine wpT_exit rfl ?_
  refine wpT_seq ?_
  refine wpT_drawn [(0, 1)] mixed (by kernel_rfl) (m := 10) rfl (fun K hK => ?_)
  simp only [↓SP, SZ, ↓reduceIte, reduceCtorEq, nE, nA, nL, nT, sec_neq, z00, w00, e1, x11, x12, hc31]
  refine Pu.callD (c14 0 2 0) ?_
  simp only [↓SP, SZ, ↓reduceIte, reduceCtorEq, nE, nA, nL, nT, sec_neq, z00, w00, e1, x11, x12, hc31]
  refine Pu.callD (c6 exH (ofI 0 2 0) ex_sm (of_lens _ _ _).1 (of_lens _ _ _).2) ?_
  simp only [↓SP, SZ, ↓reduceIte, reduceCtorEq, nE, nA, nL, nT, sec_neq, z00, w00, e1, x11, x12, hc31]
  refine hK _ _ ?_
  clear hK K
  refine wpT_seq ?_
  refine wpT_drawn [(0, 1), (0, 7), (1, 7), (2, 7)] mixed (by kernel_rfl) (m := 11) rfl (fun K hK => ?_)
  simp only [↓SP, SZ, ↓reduceIte, reduceCtorEq, nE, nA, nL, nT, sec_neq, z00, w00, e1, x12, x13, x14, hc31]
  refine Pu.callD (c14 0 2 0) ?_
  simp only [↓SP, SZ, ↓reduceIte, reduceCtorEq, nE, nA, nL, nT, sec_neq, z00, w00, e1, x12, x13, x14, hc31]
  refine Pu.callD (c16 exH (ofI 0 2 0) ex_sm (of_lens _ _ _).1 (of_lens _ _ _).2) ?_
  simp only [↓SP, SZ, ↓reduceIte, reduceCtorEq, nE, nA, nL, nT, sec_neq, z00, w00, e1, x12, x13, x14, hc31]
  refine hK _ _ ?_
  clear hK K
  refine wpT_seq ?_
  refine wpT_drawn [(0, 1), (0, 7), (1, 7), (2, 7)] mixed (by kernel_rfl) (m := 11) rfl (fun K hK => ?_)
  simp only [↓SP, SZ, ↓reduceIte, reduceCtorEq, nE, nA, nL, nT, sec_neq, z00, w00, e1, x22, x23, x24, hc31]
  refine Pu.callD (c14 1 5 0) ?_
  simp only [↓SP, SZ, ↓reduceIte, reduceCtorEq, nE, nA, nL, nT, sec_neq, z00, w00, e1, x22, x23, x24, hc31]
  refine Pu.callD (c16 exH (ofI 1 5 0) ex_sm (of_lens _ _ _).1 (of_lens _ _ _).2) ?_
  simp only [↓SP, SZ, ↓reduceIte, reduceCtorEq, nE, nA, nL, nT, sec_neq, z00, w00, e1, x22, x23, x24, hc31]
  refine hK _ _ ?_
  clear hK K
  refine wpT_seq ?_
  refine wpT_drawn [(0, 1), (0, 7), (1, 7), (2, 7)] mixed (by kernel_rfl) (m := 11) rfl (fun K hK => ?_)
  simp only [↓SP, SZ, ↓reduceIte, reduceCtorEq, nE, nA, nL, nT, sec_neq, z00, w00, e1, x32, x33, x34, hc31]
  refine Pu.callD (c14 3 2 0) ?_
  simp only [↓SP, SZ, ↓reduceIte, reduceCtorEq, nE, nA, nL, nT, sec_neq, z00, w00, e1, x32, x33, x34, hc31]
  refine Pu.callD (c16 exH (ofI 3 2 0) ex_sm (of_lens _ _ _).1 (of_lens _ _ _).2) ?_
  simp only [↓SP, SZ, ↓reduceIte, reduceCtorEq, nE, nA, nL, nT, sec_neq, z00, w00, e1, x32, x33, x34, hc31]
  refine hK _ _ ?_
  clear hK K
  refine wpT_seq ?_
  refine wpT_region (by kernel_rfl) (fun K hK => ?_)
  simp only [↓SP, SZ, ↓reduceIte, reduceCtorEq, nE, nA, nL, nT, sec_neq, z00, w00, hc31]
  refine hK _ _ ?_
  clear hK K
  refine wpT_seq ?_
  refine wpT_seq ?_
  refine wpT_region (by kernel_rfl) (fun K hK => ?_)
  simp only [↓SP, SZ, ↓reduceIte, reduceCtorEq, nE, nA, nL, nT, sec_neq, z00, w00, e1, dd, hc31]
  refine Pu.call (c18 exH ex_sm) ?_
  simp only [↓SP, SZ, ↓reduceIte, reduceCtorEq, nE, nA, nL, nT, sec_neq, z00, w00, e1, dd, hc31]
  refine hK _ _ ?_
  clear hK K
  refine wpT_ifF (by simp only [↓SP, SZ, ↓reduceIte, reduceCtorEq, nE, nA, nL, nT, sec_neq, z00, w00, hc31]) ?_
  refine wpT_skip ?_
  refine wpT_seq ?_
  refine wpT_drawn [(0, 3), (1, 3), (6, 9), (7, 9), (13, 16), (14, 16)] mixed (by kernel_rfl) (m := 20) rfl (fun K hK => ?_)
  simp only [↓SP, SZ, ↓reduceIte, reduceCtorEq, nE, nA, nL, nT, sec_neq, z00, w00, decide_true, hc31]
  refine Pu.callD (c17 0 1) ?_
  simp only [↓SP, SZ, ↓reduceIte, reduceCtorEq, nE, nA, nL, nT, sec_neq, z00, w00, decide_true, hc31]
  refine Pu.lentD (c19 [⟨0, 0, [byS 1]⟩] [⟨0, 0, [byS 1]⟩] (by simp) (by simp)) [m + 2 + 10 + 11 + 11 + 11 + 1] (.bool _) (.refl _) (LendL.cons (Lend.sl0 (E := 45) (s := 3) (es := [Wr.av ⟨0, 0, [byS 1]⟩]) (by simp only [↓SP, SZ, ↓reduceIte, reduceCtorEq, nE, nA, nL, nT, sec_neq]) rfl (wrs_okc [⟨0, 0, [byS 1]⟩])) (LendL.cons (.refl _) LendL.nil)) ?_
  simp only [↓SP, SZ, ↓reduceIte, reduceCtorEq, nE, nA, nL, nT, sec_neq, z00, w00, decide_true, hc31]
  refine Pu.callD (c17 1 5) ?_
  simp only [↓SP, SZ, ↓reduceIte, reduceCtorEq, nE, nA, nL, nT, sec_neq, z00, w00, decide_true, hc31]
  refine Pu.lentD (c19 [⟨0, 1, [byS 5]⟩] [⟨0, 1, [byS 5]⟩] (by simp) (by simp)) [m + 2 + 10 + 11 + 11 + 11 + 7] (.bool _) (.refl _) (LendL.cons (Lend.sl0 (E := 45) (s := 3) (es := [Wr.av ⟨0, 1, [byS 5]⟩]) (by simp only [↓SP, SZ, ↓reduceIte, reduceCtorEq, nE, nA, nL, nT, sec_neq]) rfl (wrs_okc [⟨0, 1, [byS 5]⟩])) (LendL.cons (.refl _) LendL.nil)) ?_
  simp only [↓SP, SZ, ↓reduceIte, reduceCtorEq, nE, nA, nL, nT, sec_neq, z00, w00, decide_true, hc31]
  refine Pu.callD (c17 1 4) ?_
  simp only [↓SP, SZ, ↓reduceIte, reduceCtorEq, nE, nA, nL, nT, sec_neq, z00, w00, decide_true, hc31]
  refine Pu.lentD (c19 [⟨0, 1, [byS 4]⟩] [⟨0, 1, [byS 4]⟩] (by simp) (by simp)) [m + 2 + 10 + 11 + 11 + 11 + 14] (.bool _) (.refl _) (LendL.cons (Lend.sl0 (E := 45) (s := 3) (es := [Wr.av ⟨0, 1, [byS 4]⟩]) (by simp only [↓SP, SZ, ↓reduceIte, reduceCtorEq, nE, nA, nL, nT, sec_neq]) rfl (wrs_okc [⟨0, 1, [byS 4]⟩])) (LendL.cons (.refl _) LendL.nil)) ?_
  simp only [↓SP, SZ, ↓reduceIte, reduceCtorEq, nE, nA, nL, nT, sec_neq, z00, w00, decide_true, hc31]
  refine hK _ _ ?_
  clear hK K
  refine wpT_ret ⟨.inr rfl, ?_⟩
  show optK (resA _ _ _ [.tmp 0]) _
  simp only [SRO, ↓SP, SZ, ↓reduceIte, reduceCtorEq, nE, nA, nL, nT, sec_neq, z00, w00, hc31]
  exact .refl _
end Go.Proofs.YtfdfkmcplhloaaaGreat
end

section
set_option linter.unusedSimpArgs false
set_option linter.unusedVariables false
namespace Go.Proofs.YtfdfkmcplhloaaaGreat
open Go.Proofs
open Nat renaming reduceEqDiff → nE, reduceAdd → nA, reduceLeDiff → nL, reduceLT → nT
set_option maxRecDepth 10000
theorem few_im {im : List (List Sec)} (e : fewI im = true) : im.length < 4000000 ∧ ∀ l ∈ im, l.length < 4000000 := by
  simp only [fewI, Bool.and_eq_true, decide_eq_true_eq, List.all_eq_true] at e
  exact ⟨by omega, fun l hl => by have := e.2 l hl; omega⟩
def imOk (im : List (List Sec)) : Prop := im.length < 4611686018427387904 ∧ ∀ l ∈ im, l.length < 4611686018427387904
theorem c4 (h : Hist) (im : List (List Sec)) (hs : h.ok) (hi : imOk im) : Pu Tryz.prog (.fn (.func 4) [] []) [h.av, imgAV im] (B (fewH h && fewI im)) := by
 refine pu_func Tryz.func4 rfl (by kernel_rfl) (by show _ ≤ 11; simp only [LN]; decide) (by simp only [IDS]) (by simp only [IDS]) (by simp only [IDS]) ?_
 rw [Tryz.ntmps4]
 refine wpT_seq ?_
 refine wpT_region (by kernel_rfl) (fun K hK => ?_)
 simp only [↓SP, SZ, ↓reduceIte, reduceCtorEq, nE, nA, nL, nT, sec_neq]
 refine hK _ _ ?_
 clear hK K
 refine wpT_seq ?_
 refine wpT_region (by kernel_rfl) (fun K hK => ?_)
 simp only [↓SP, SZ, ↓reduceIte, reduceCtorEq, nE, nA, nL, nT, sec_neq]
 refine Pu.call (c11 h hs) ?_
 simp only [↓SP, SZ, ↓reduceIte, reduceCtorEq, nE, nA, nL, nT, sec_neq]
 refine guardO_split (fun hg7 => ?_) (fun hg7 => ?_)
 ·
  have p7 := hg7
  try simp only [PB] at p7
  simp only [↓SP, SZ, ↓reduceIte, reduceCtorEq, nE, nA, nL, nT, sec_neq, hg7]
  refine Pu.call (c12 im hi.1 hi.2) ?_
  simp only [↓SP, SZ, ↓reduceIte, reduceCtorEq, nE, nA, nL, nT, sec_neq, hg7]
  refine hK _ _ ?_
  clear hK K
  refine wpT_ret ⟨.inr rfl, ?_⟩
  show optK (resA _ _ _ [.tmp 4]) _
  simp only [SRO, ↓SP, SZ, ↓reduceIte, reduceCtorEq, nE, nA, nL, nT, sec_neq, hg7]
  refine Lend.eq ?_
  rfl
 ·
  simp only [Bool.not_true, Bool.not_false] at hg7
  have p7 := hg7
  try simp only [PB] at p7
  simp only [↓SP, SZ, ↓reduceIte, reduceCtorEq, nE, nA, nL, nT, sec_neq, hg7]
  refine hK _ _ ?_
  clear hK K
  refine wpT_ret ⟨.inr rfl, ?_⟩
  show optK (resA _ _ _ [.tmp 4]) _
  simp only [SRO, ↓SP, SZ, ↓reduceIte, reduceCtorEq, nE, nA, nL, nT, sec_neq, hg7]
  refine Lend.eq ?_
  rfl
theorem bool_eql (a b : Bool) : opBinAny Tryz.prog .eql 4 (B a) (B b) = some (.bool (a == b)) := by kernel_rfl
end Go.Proofs.YtfdfkmcplhloaaaGreat
end

section
set_option linter.unusedSimpArgs false
set_option linter.unusedVariables false
namespace Go.Proofs.YtfdfkmcplhloaaaGreat
open Go.Proofs
open Nat renaming reduceEqDiff → nE, reduceAdd → nA, reduceLeDiff → nL, reduceLT → nT
set_option maxRecDepth 10000
/-- Whether all of the writes before a are in a set, or not before write k. -/
def gkI (h : Hist) (l : List Int) (k a : Nat) : Bool := (List.range a).all fun x => !befT (histRun h).2 x k || decide ((x : Int) ∈ l)
theorem gkI_succ {h : Hist} {l : List Int} {k a : Nat} : gkI h l k (a + 1) = (gkI h l k a && (!befT (histRun h).2 a k || decide ((a : Int) ∈ l))) := by
  rw [gkI, List.range_succ, List.all_append]
  simp [gkI]
def gkF (h : Hist) (l : List Int) (x : Int) : Bool := gkI h l x.toNat h.ws.length
def gkL (h : Hist) (l : List Int) (i : Nat) : List Int := (l.take i).filter (gkF h l)
theorem gkL_len (h : Hist) (l : List Int) (i : Nat) : (gkL h l i).length ≤ l.length := Nat.le_trans (List.length_filter_le _ _) (by simp; omega)
theorem gkL_succ {h : Hist} {l : List Int} {i : Nat} (hi : i < l.length) : gkL h l (i + 1) = gkL h l i ++ if gkF h l l[i] = true then [l[i]] else [] := by
  rw [gkL, List.take_add_one, List.getElem?_eq_getElem hi, List.filter_append, gkL]
  simp [List.filter_cons]
theorem setP_filter {n : Nat} {f : Int → Bool} : ∀ {p : Int} {l : List Int}, setP n p l = true → setP n p (l.filter f) = true
  | _, [], _ => rfl
  | p, x :: xs, h => by
    rw [setP] at h
    split at h
    · simp at h
    · rename_i hx
      have := setP_filter (f := f) h
      rw [List.filter_cons]
      split
      · rw [setP, if_neg hx]; exact this
      · exact setP_weak (by omega) this
theorem great_filter {h : Hist} {l : List Int} (hl : setP h.ws.length (-1) l = true) : gkL h l l.length = greatR (histRun h).2 h.ws.length l := by
  rw [gkL, List.take_length]
  refine setP_ext (setP_filter hl) (great_set _ _ _) fun x => ?_
  have hm := setP_mem hl
  rw [List.mem_filter, mem_greatR]
  constructor
  · rintro ⟨h1, h2⟩
    obtain ⟨b0, b1, _⟩ := hm x h1
    refine ⟨x.toNat, by omega, by omega, by rw [Int.toNat_of_nonneg b0]; exact h1, fun a ha hb => ?_⟩
    rw [gkF, gkI, List.all_eq_true] at h2
    have := h2 a (List.mem_range.2 ha)
    rw [hb] at this
    simpa using this
  · rintro ⟨b, rfl, h1, h2, h3⟩
    refine ⟨h2, ?_⟩
    rw [gkF, gkI, List.all_eq_true]
    intro a ha
    rw [Int.toNat_natCast]
    cases hb : befT (histRun h).2 a b with
    | false => rfl
    | true => simpa using h3 a (List.mem_range.1 ha) hb
theorem refGreat (h : Hist) (l : List Int) (hs : h.sm) (hl : l.length < 4000000) : Pu Tryz.prog (.fn (.func 27) [] []) [h.av, .lst (l.map I)] (.tup [.lst ((greatL h l).map I), I (setsE h [l])]) := by
 refine pu_func Tryz.func27 rfl (by kernel_rfl) (by show _ ≤ 61; simp only [LN]; decide) (by simp only [IDS, tab_idf]) (by simp only [IDS, tab_idf]) (by simp only [IDS, tab_idf]) ?_
 rw [Tryz.ntmps27]
 refine wpT_seq ?_
 refine wpT_region (by kernel_rfl) (fun K hK => ?_)
 simp only [↓SP, SZ, ↓reduceIte, reduceCtorEq, nE, nA, nL, nT, sec_neq, sec_eql, hist_cs]
 refine hK _ _ ?_
 clear hK K
 refine wpT_seq ?_
 refine wpT_seq ?_
 refine wpT_region (by kernel_rfl) (fun K hK => ?_)
 simp only [↓SP, SZ, ↓reduceIte, reduceCtorEq, nE, nA, nL, nT, sec_neq, sec_eql, hist_cs]
 refine Pu.call (c57 h l hs hl) ?_
 simp only [↓SP, SZ, ↓reduceIte, reduceCtorEq, nE, nA, nL, nT, sec_neq, sec_eql, hist_cs]
 refine hK _ _ ?_
 clear hK K
 refine wpT_seq ?_
 refine wpT_region (by kernel_rfl) (fun K hK => ?_)
 simp only [↓SP, SZ, ↓reduceIte, reduceCtorEq, nE, nA, nL, nT, sec_neq, sec_eql, hist_cs]
 refine hK _ _ ?_
 clear hK K
 refine wpT_if (by rfl) (fun hc16 => ?_) (fun hc16 => ?_)
 ·
  have p16 := hc16
  try simp only [PB] at p16
  have hx : greatL h l = [] := if_pos p16
  refine wpT_seq ?_
  refine wpT_region (by kernel_rfl) (fun K hK => ?_)
  simp only [↓SP, SZ, ↓reduceIte, reduceCtorEq, nE, nA, nL, nT, sec_neq, sec_eql, hist_cs, hc16]
  refine hK _ _ ?_
  clear hK K
  refine wpT_ret ⟨.inr rfl, ?_⟩
  show optK (resA _ _ _ [.tmp 4, .tmp 5]) _
  simp only [SRO, ↓SP, SZ, ↓reduceIte, reduceCtorEq, nE, nA, nL, nT, sec_neq, sec_eql, hist_cs, hc16]
  rw [hx]
  exact Lend.tupL (LendL.cons .nil0 (LendL.cons (.refl _) LendL.nil))
 ·
  have p16 := hc16
  try simp only [PB] at p16
  have e0 : setsE h [l] = 0 := by simpa using p16
  obtain ⟨eh, hset⟩ := sets_ok e0
  have hmb := setP_mem hset
  have hw4 := (hist_ok eh).2.1
  have hx : greatL h l = gkL h l l.length := (if_neg (by omega)).trans (great_filter hset).symm
  refine wpT_skip ?_
  refine wpT_seq ?_
  refine wpT_region (by kernel_rfl) (fun K hK => ?_)
  simp only [↓SP, SZ, ↓reduceIte, reduceCtorEq, nE, nA, nL, nT, sec_neq, sec_eql, hist_cs, hc16]
  refine Pu.call (c58 h hs eh) ?_
  simp only [↓SP, SZ, ↓reduceIte, reduceCtorEq, nE, nA, nL, nT, sec_neq, sec_eql, hist_cs, hc16]
  refine hK _ _ ?_
  clear hK K
  refine wpT_seq ?_
  refine wpT_region (by kernel_rfl) (fun K hK => ?_)
  simp only [↓SP, SZ, ↓reduceIte, reduceCtorEq, nE, nA, nL, nT, sec_neq, sec_eql, hist_cs, hc16]
  refine hK _ _ ?_
  clear hK K
  refine wpT_seq ?_
  refine wpT_seq ?_
  refine wpT_region (by kernel_rfl) (fun K hK => ?_)
  simp only [↓SP, SZ, ↓reduceIte, reduceCtorEq, nE, nA, nL, nT, sec_neq, sec_eql, hist_cs, hc16]
  refine hK _ _ ?_
  clear hK K
  refine wpT_block ?_
  refine wpT_loop ?_
  refine wpT_nilown 8 3 1 (by simp only [↓SP, SZ, ↓reduceIte, reduceCtorEq, nE, nA, nL, nT, sec_neq, sec_eql]) ?_
  refine wpT_keep2 (i := 0) (j := 1) (o := .arr 26 3 [h.av]) (q := .arr 3 1 ((gkL h l 0).map I)) (by simp only [↓SP, SZ, ↓reduceIte, reduceCtorEq, nE, nA, nL, nT, sec_neq, sec_eql]) (by simp only [↓SP, SZ, ↓reduceIte, reduceCtorEq, nE, nA, nL, nT, sec_neq, sec_eql]; rfl) ?_
  refine wpT_ind (fun (i : Nat) tm' h' => (∃ m, h' = Hp.of [(0, .arr 26 3 [h.av]), (1, .arr 3 1 ((gkL h l i).map I))] (m + 2)) ∧ tm' 1 = .lst (l.map I) ∧ tm' 2 = .ptr 0 1 0 0 ∧ tm' 7 = tabAV (tabR h) ∧ tm' 8 = .sl 1 (gkL h l i).length 0 (gkL h l i).length ∧ tm' 9 = I i ∧ i ≤ l.length) (fun i => l.length - i) ?_ 0 ⟨⟨0, rfl⟩, rfl, rfl, rfl, rfl, rfl, by omega⟩
  rintro i tm' _ ⟨⟨m, rfl⟩, e1, e2, e7, e8, e9, hi⟩ IH
  refine wpT_inLoop ?_
  refine wpT_seq ?_
  refine wpT_seq ?_
  refine wpT_region (by kernel_rfl) (fun K hK => ?_)
  simp only [↓SP, SZ, ↓reduceIte, reduceCtorEq, nE, nA, nL, nT, sec_neq, sec_eql, hist_cs, e1, e9]
  refine hK _ _ ?_
  clear hK K
  refine wpT_if (by rfl) (fun hc23 => ?_) (fun hc23 => ?_)
  ·
   have p23 := hc23
   try simp only [PB] at p23
   have hlt : i < l.length := by omega
   have hln := gkL_len h l i
   have m1 : (gkL h l i).length + 1 ≤ maxLen := by simp only [maxLen]; omega
   have m2 : ((gkL h l i).length + 1) * 8 ≤ 140737488355328 := by omega
   have hg := at_map (f := I) hlt
   obtain ⟨b0, b1, _⟩ := hmb _ (List.getElem_mem hlt)
   obtain ⟨k, hk⟩ := Int.eq_ofNat_of_zero_le b0
   refine wpT_skip ?_
   refine wpT_seq ?_
   refine wpT_block ?_
   refine wpT_seq ?_
   refine wpT_region (by kernel_rfl) (fun K hK => ?_)
   simp only [↓SP, SZ, ↓reduceIte, reduceCtorEq, nE, nA, nL, nT, sec_neq, sec_eql, hist_cs, hc23]
   refine hK _ _ ?_
   clear hK K
   refine wpT_seq ?_
   refine wpT_seq ?_
   refine wpT_region (by kernel_rfl) (fun K hK => ?_)
   simp only [↓SP, SZ, ↓reduceIte, reduceCtorEq, nE, nA, nL, nT, sec_neq, sec_eql, hist_cs, hc23]
   refine hK _ _ ?_
   clear hK K
   refine wpT_block ?_
   refine wpT_loop ?_
   refine wpT_ind (fun (a : Nat) tm2 h2 => (∃ m, h2 = Hp.of [(0, .arr 26 3 [h.av]), (1, .arr 3 1 ((gkL h l i).map I))] (m + 2)) ∧ tm2 1 = .lst (l.map I) ∧ tm2 2 = .ptr 0 1 0 0 ∧ tm2 7 = tabAV (tabR h) ∧ tm2 8 = .sl 1 (gkL h l i).length 0 (gkL h l i).length ∧ tm2 9 = I i ∧ tm2 10 = B (gkI h l k a) ∧ tm2 11 = I a ∧ a ≤ h.ws.length) (fun a => h.ws.length - a) ?_ 0 ⟨⟨_, rfl⟩, by simp only [↓SP, SZ, ↓reduceIte, reduceCtorEq, nE, nA, nL, nT, sec_neq, sec_eql, e1], by simp only [↓SP, SZ, ↓reduceIte, reduceCtorEq, nE, nA, nL, nT, sec_neq, sec_eql, e2], by simp only [↓SP, SZ, ↓reduceIte, reduceCtorEq, nE, nA, nL, nT, sec_neq, sec_eql, e7], by simp only [↓SP, SZ, ↓reduceIte, reduceCtorEq, nE, nA, nL, nT, sec_neq, sec_eql, e8], by simp only [↓SP, SZ, ↓reduceIte, reduceCtorEq, nE, nA, nL, nT, sec_neq, sec_eql, e9], rfl, rfl, by omega⟩
   clear e1 e2 e7 e8 e9
   rintro a tm2 _ ⟨⟨m', rfl⟩, e1, e2, e7, e8, e9, e10, e11, ha⟩ IH2
   refine wpT_inLoop ?_
   refine wpT_seq ?_
   refine wpT_seq ?_
   refine wpT_region (by kernel_rfl) (fun K hK => ?_)
   simp only [↓SP, SZ, ↓reduceIte, reduceCtorEq, nE, nA, nL, nT, sec_neq, sec_eql, hist_cs, e2, e11]
   refine hK _ _ ?_
   clear hK K
   refine wpT_if (by rfl) (fun hc30 => ?_) (fun hc30 => ?_)
   ·
    have p30 := hc30
    try simp only [PB] at p30
    have hlt2 : a < h.ws.length := by omega
    have hta := tabR_at hlt2
    have hrk := rowR_at (h := h) (a := a) (b := k) (by omega)
    refine wpT_skip ?_
    refine wpT_seq ?_
    refine wpT_block ?_
    refine wpT_drawn [] mixed (by kernel_rfl) (m := 20) rfl (fun K hK => ?_)
    simp only [↓SP, SZ, ↓reduceIte, reduceCtorEq, nE, nA, nL, nT, sec_neq, sec_eql, hist_cs, e1, e7, e9, e10, e11, hg, hk, tabAV, hta, hrk, hc30]
    refine guardD_split (fun hg34 => ?_) (fun hg34 => ?_)
    ·
     have p34 := hg34
     try simp only [PB] at p34
     have hp : gkI h l k a = true := p34
     simp only [↓SP, SZ, ↓reduceIte, reduceCtorEq, nE, nA, nL, nT, sec_neq, sec_eql, hist_cs, e1, e7, e9, e10, e11, hg, hk, tabAV, hta, hrk, hc30, hg34]
     refine guardD_split (fun hg46 => ?_) (fun hg46 => ?_)
     ·
      have p46 := hg46
      try simp only [PB] at p46
      have hb : befT (histRun h).2 a k = true := by simpa using p46
      have hv : gkI h l k (a + 1) = decide ((a : Int) ∈ l) := by rw [gkI_succ, hp, hb]; rfl
      simp only [↓SP, SZ, ↓reduceIte, reduceCtorEq, nE, nA, nL, nT, sec_neq, sec_eql, hist_cs, e1, e7, e9, e10, e11, hg, hk, tabAV, hta, hrk, hc30, hg34, hg46]
      refine Pu.callD (c59 l a (by omega)) ?_
      simp only [↓SP, SZ, ↓reduceIte, reduceCtorEq, nE, nA, nL, nT, sec_neq, sec_eql, hist_cs, e1, e7, e9, e10, e11, hg, hk, tabAV, hta, hrk, hc30, hg34, hg46]
      refine hK _ _ ?_
      clear hK K
      refine wpT_inBlock ?_
      refine wpT_region (by kernel_rfl) (fun K hK => ?_)
      simp only [↓SP, SZ, ↓reduceIte, reduceCtorEq, nE, nA, nL, nT, sec_neq, sec_eql, hist_cs, e11, wrap64 (x := (a : Int) + 1) (by omega) (by omega), hc30, hg34, hg46]
      refine hK _ _ ?_
      clear hK K
      refine wpT_keep2 (i := 0) (j := 1) (o := .arr 26 3 [h.av]) (q := .arr 3 1 ((gkL h l i).map I)) (by simp only [↓SP, SZ, ↓reduceIte, reduceCtorEq, nE, nA, nL, nT, sec_neq, sec_eql]) (by simp only [↓SP, SZ, ↓reduceIte, reduceCtorEq, nE, nA, nL, nT, sec_neq, sec_eql]) ?_
      refine IH2 (a + 1) _ _ (by omega) ⟨⟨_, rfl⟩, by simp only [↓SP, SZ, ↓reduceIte, reduceCtorEq, nE, nA, nL, nT, sec_neq, sec_eql, e1], by simp only [↓SP, SZ, ↓reduceIte, reduceCtorEq, nE, nA, nL, nT, sec_neq, sec_eql, e2], by simp only [↓SP, SZ, ↓reduceIte, reduceCtorEq, nE, nA, nL, nT, sec_neq, sec_eql, e7], by simp only [↓SP, SZ, ↓reduceIte, reduceCtorEq, nE, nA, nL, nT, sec_neq, sec_eql, e8], by simp only [↓SP, SZ, ↓reduceIte, reduceCtorEq, nE, nA, nL, nT, sec_neq, sec_eql, e9], by simp only [↓SP, SZ, ↓reduceIte, reduceCtorEq, nE, nA, nL, nT, sec_neq, sec_eql, hv], by simp only [↓SP, SZ, ↓reduceIte, reduceCtorEq, nE, nA, nL, nT, sec_neq, sec_eql, Int.natCast_add, Int.cast_ofNat_Int], by omega⟩
     ·
      simp only [Bool.not_true, Bool.not_false] at hg46
      have p46 := hg46
      try simp only [PB] at p46
      have hb : befT (histRun h).2 a k = false := by simpa using p46
      have hv : gkI h l k (a + 1) = true := by rw [gkI_succ, hp, hb]; rfl
      simp only [↓SP, SZ, ↓reduceIte, reduceCtorEq, nE, nA, nL, nT, sec_neq, sec_eql, hist_cs, e1, e7, e9, e10, e11, hg, hk, tabAV, hta, hrk, hc30, hg34, hg46]
      refine hK _ _ ?_
      clear hK K
      refine wpT_inBlock ?_
      refine wpT_region (by kernel_rfl) (fun K hK => ?_)
      simp only [↓SP, SZ, ↓reduceIte, reduceCtorEq, nE, nA, nL, nT, sec_neq, sec_eql, hist_cs, e11, wrap64 (x := (a : Int) + 1) (by omega) (by omega), hc30, hg34, hg46]
      refine hK _ _ ?_
      clear hK K
      refine wpT_keep2 (i := 0) (j := 1) (o := .arr 26 3 [h.av]) (q := .arr 3 1 ((gkL h l i).map I)) (by simp only [↓SP, SZ, ↓reduceIte, reduceCtorEq, nE, nA, nL, nT, sec_neq, sec_eql]) (by simp only [↓SP, SZ, ↓reduceIte, reduceCtorEq, nE, nA, nL, nT, sec_neq, sec_eql]) ?_
      refine IH2 (a + 1) _ _ (by omega) ⟨⟨_, rfl⟩, by simp only [↓SP, SZ, ↓reduceIte, reduceCtorEq, nE, nA, nL, nT, sec_neq, sec_eql, e1], by simp only [↓SP, SZ, ↓reduceIte, reduceCtorEq, nE, nA, nL, nT, sec_neq, sec_eql, e2], by simp only [↓SP, SZ, ↓reduceIte, reduceCtorEq, nE, nA, nL, nT, sec_neq, sec_eql, e7], by simp only [↓SP, SZ, ↓reduceIte, reduceCtorEq, nE, nA, nL, nT, sec_neq, sec_eql, e8], by simp only [↓SP, SZ, ↓reduceIte, reduceCtorEq, nE, nA, nL, nT, sec_neq, sec_eql, e9], by simp only [↓SP, SZ, ↓reduceIte, reduceCtorEq, nE, nA, nL, nT, sec_neq, sec_eql, hv], by simp only [↓SP, SZ, ↓reduceIte, reduceCtorEq, nE, nA, nL, nT, sec_neq, sec_eql, Int.natCast_add, Int.cast_ofNat_Int], by omega⟩
    ·
     simp only [Bool.not_true, Bool.not_false] at hg34
     have p34 := hg34
     try simp only [PB] at p34
     have hv : gkI h l k (a + 1) = false := by rw [gkI_succ, p34]; rfl
     simp only [↓SP, SZ, ↓reduceIte, reduceCtorEq, nE, nA, nL, nT, sec_neq, sec_eql, hist_cs, e1, e7, e9, e10, e11, hg, hk, tabAV, hta, hrk, hc30, hg34]
     refine hK _ _ ?_
     clear hK K
     refine wpT_inBlock ?_
     refine wpT_region (by kernel_rfl) (fun K hK => ?_)
     simp only [↓SP, SZ, ↓reduceIte, reduceCtorEq, nE, nA, nL, nT, sec_neq, sec_eql, hist_cs, e11, wrap64 (x := (a : Int) + 1) (by omega) (by omega), hc30, hg34]
     refine hK _ _ ?_
     clear hK K
     refine wpT_keep2 (i := 0) (j := 1) (o := .arr 26 3 [h.av]) (q := .arr 3 1 ((gkL h l i).map I)) (by simp only [↓SP, SZ, ↓reduceIte, reduceCtorEq, nE, nA, nL, nT, sec_neq, sec_eql]) (by simp only [↓SP, SZ, ↓reduceIte, reduceCtorEq, nE, nA, nL, nT, sec_neq, sec_eql]) ?_
     refine IH2 (a + 1) _ _ (by omega) ⟨⟨_, rfl⟩, by simp only [↓SP, SZ, ↓reduceIte, reduceCtorEq, nE, nA, nL, nT, sec_neq, sec_eql, e1], by simp only [↓SP, SZ, ↓reduceIte, reduceCtorEq, nE, nA, nL, nT, sec_neq, sec_eql, e2], by simp only [↓SP, SZ, ↓reduceIte, reduceCtorEq, nE, nA, nL, nT, sec_neq, sec_eql, e7], by simp only [↓SP, SZ, ↓reduceIte, reduceCtorEq, nE, nA, nL, nT, sec_neq, sec_eql, e8], by simp only [↓SP, SZ, ↓reduceIte, reduceCtorEq, nE, nA, nL, nT, sec_neq, sec_eql, e9], by simp only [↓SP, SZ, ↓reduceIte, reduceCtorEq, nE, nA, nL, nT, sec_neq, sec_eql, hv], by simp only [↓SP, SZ, ↓reduceIte, reduceCtorEq, nE, nA, nL, nT, sec_neq, sec_eql, Int.natCast_add, Int.cast_ofNat_Int], by omega⟩
   ·
    have p30 := hc30
    try simp only [PB] at p30
    have ha2 : a = h.ws.length := by omega
    have hF : gkI h l k a = gkF h l l[i] := by rw [ha2, gkF, hk, Int.toNat_natCast]
    have hgs := gkL_succ (h := h) hlt
    refine wpT_exit rfl ?_
    refine wpT_seq ?_
    refine wpT_region (by kernel_rfl) (fun K hK => ?_)
    simp only [↓SP, SZ, ↓reduceIte, reduceCtorEq, nE, nA, nL, nT, sec_neq, sec_eql, hist_cs, e10, hF, hc30]
    refine hK _ _ ?_
    clear hK K
    refine wpT_if (by rfl) (fun hc52 => ?_) (fun hc52 => ?_)
    ·
     have p52 := hc52
     try simp only [PB] at p52
     have hsel : gkL h l (i + 1) = gkL h l i ++ [l[i]] := by rw [hgs, if_pos hc52]
     refine wpT_region (by kernel_rfl) (fun K hK => ?_)
     simp only [↓SP, SZ, ↓reduceIte, reduceCtorEq, nE, nA, nL, nT, sec_neq, sec_eql, hist_cs, e1, e8, e9, hg, m1, m2, hc30, hc52]
     refine hK _ _ ?_
     clear hK K
     refine wpT_inBlock ?_
     refine wpT_region (by kernel_rfl) (fun K hK => ?_)
     simp only [↓SP, SZ, ↓reduceIte, reduceCtorEq, nE, nA, nL, nT, sec_neq, sec_eql, hist_cs, e9, wrap64 (x := (i : Int) + 1) (by omega) (by omega), hc30, hc52]
     refine hK _ _ ?_
     clear hK K
     first
       | (have hu := hsel
          refine wpT_keep2 (i := 0) (j := 1) (o := .arr 26 3 [h.av]) (q := .arr 3 1 ((gkL h l (i + 1)).map I)) (by simp only [↓SP, SZ, ↓reduceIte, reduceCtorEq, nE, nA, nL, nT, sec_neq, sec_eql]) (by simp only [↓SP, SZ, ↓reduceIte, reduceCtorEq, nE, nA, nL, nT, sec_neq, sec_eql, hsel, List.map_append]) ?_
          refine IH (i + 1) _ _ (by omega) ⟨⟨_, rfl⟩, by simp only [↓SP, SZ, ↓reduceIte, reduceCtorEq, nE, nA, nL, nT, sec_neq, sec_eql, e1], by simp only [↓SP, SZ, ↓reduceIte, reduceCtorEq, nE, nA, nL, nT, sec_neq, sec_eql, e2], by simp only [↓SP, SZ, ↓reduceIte, reduceCtorEq, nE, nA, nL, nT, sec_neq, sec_eql, e7], by simp only [↓SP, SZ, ↓reduceIte, reduceCtorEq, nE, nA, nL, nT, sec_neq, sec_eql, hsel], by simp only [↓SP, SZ, ↓reduceIte, reduceCtorEq, nE, nA, nL, nT, sec_neq, sec_eql, Int.natCast_add, Int.cast_ofNat_Int], by omega⟩)
       | (have hu := hself
          refine wpT_keep2 (i := 0) (j := 1) (o := .arr 26 3 [h.av]) (q := .arr 3 1 ((gkL h l (i + 1)).map I)) (by simp only [↓SP, SZ, ↓reduceIte, reduceCtorEq, nE, nA, nL, nT, sec_neq, sec_eql]) (by simp only [↓SP, SZ, ↓reduceIte, reduceCtorEq, nE, nA, nL, nT, sec_neq, sec_eql, hself]) ?_
          refine IH (i + 1) _ _ (by omega) ⟨⟨_, rfl⟩, by simp only [↓SP, SZ, ↓reduceIte, reduceCtorEq, nE, nA, nL, nT, sec_neq, sec_eql, e1], by simp only [↓SP, SZ, ↓reduceIte, reduceCtorEq, nE, nA, nL, nT, sec_neq, sec_eql, e2], by simp only [↓SP, SZ, ↓reduceIte, reduceCtorEq, nE, nA, nL, nT, sec_neq, sec_eql, e7], by simp only [↓SP, SZ, ↓reduceIte, reduceCtorEq, nE, nA, nL, nT, sec_neq, sec_eql, hself, e8], by simp only [↓SP, SZ, ↓reduceIte, reduceCtorEq, nE, nA, nL, nT, sec_neq, sec_eql, Int.natCast_add, Int.cast_ofNat_Int], by omega⟩)
    ·
     have p52 := hc52
     try simp only [PB] at p52
     have hself : gkL h l (i + 1) = gkL h l i := by rw [hgs, if_neg (by simp [hc52]), List.append_nil]
     refine wpT_skip ?_
     refine wpT_inBlock ?_
     refine wpT_region (by kernel_rfl) (fun K hK => ?_)
     simp only [↓SP, SZ, ↓reduceIte, reduceCtorEq, nE, nA, nL, nT, sec_neq, sec_eql, hist_cs, e9, wrap64 (x := (i : Int) + 1) (by omega) (by omega), hc30, hc52]
     refine hK _ _ ?_
     clear hK K
     first
       | (have hu := hsel
          refine wpT_keep2 (i := 0) (j := 1) (o := .arr 26 3 [h.av]) (q := .arr 3 1 ((gkL h l (i + 1)).map I)) (by simp only [↓SP, SZ, ↓reduceIte, reduceCtorEq, nE, nA, nL, nT, sec_neq, sec_eql]) (by simp only [↓SP, SZ, ↓reduceIte, reduceCtorEq, nE, nA, nL, nT, sec_neq, sec_eql, hsel, List.map_append]) ?_
          refine IH (i + 1) _ _ (by omega) ⟨⟨_, rfl⟩, by simp only [↓SP, SZ, ↓reduceIte, reduceCtorEq, nE, nA, nL, nT, sec_neq, sec_eql, e1], by simp only [↓SP, SZ, ↓reduceIte, reduceCtorEq, nE, nA, nL, nT, sec_neq, sec_eql, e2], by simp only [↓SP, SZ, ↓reduceIte, reduceCtorEq, nE, nA, nL, nT, sec_neq, sec_eql, e7], by simp only [↓SP, SZ, ↓reduceIte, reduceCtorEq, nE, nA, nL, nT, sec_neq, sec_eql, hsel], by simp only [↓SP, SZ, ↓reduceIte, reduceCtorEq, nE, nA, nL, nT, sec_neq, sec_eql, Int.natCast_add, Int.cast_ofNat_Int], by omega⟩)
       | (have hu := hself
          refine wpT_keep2 (i := 0) (j := 1) (o := .arr 26 3 [h.av]) (q := .arr 3 1 ((gkL h l (i + 1)).map I)) (by simp only [↓SP, SZ, ↓reduceIte, reduceCtorEq, nE, nA, nL, nT, sec_neq, sec_eql]) (by simp only [↓SP, SZ, ↓reduceIte, reduceCtorEq, nE, nA, nL, nT, sec_neq, sec_eql, hself]) ?_
          refine IH (i + 1) _ _ (by omega) ⟨⟨_, rfl⟩, by simp only [↓SP, SZ, ↓reduceIte, reduceCtorEq, nE, nA, nL, nT, sec_neq, sec_eql, e1], by simp only [↓SP, SZ, ↓reduceIte, reduceCtorEq, nE, nA, nL, nT, sec_neq, sec_eql, e2], by simp only [↓SP, SZ, ↓reduceIte, reduceCtorEq, nE, nA, nL, nT, sec_neq, sec_eql, e7], by simp only [↓SP, SZ, ↓reduceIte, reduceCtorEq, nE, nA, nL, nT, sec_neq, sec_eql, hself, e8], by simp only [↓SP, SZ, ↓reduceIte, reduceCtorEq, nE, nA, nL, nT, sec_neq, sec_eql, Int.natCast_add, Int.cast_ofNat_Int], by omega⟩)
  ·
   have p23 := hc23
   try simp only [PB] at p23
   have ha2 : i = l.length := by omega
   rw [ha2, ← hx] at e8 ⊢
   refine wpT_exit rfl ?_
   refine wpT_seq ?_
   refine wpT_region (by kernel_rfl) (fun K hK => ?_)
   simp only [↓SP, SZ, ↓reduceIte, reduceCtorEq, nE, nA, nL, nT, sec_neq, sec_eql, hist_cs, e8, hc23]
   refine hK _ _ ?_
   clear hK K
   refine wpT_ret ⟨.inr rfl, ?_⟩
   show optK (resA _ _ _ [.tmp 4, .tmp 5]) _
   simp only [SRO, ↓SP, SZ, ↓reduceIte, reduceCtorEq, nE, nA, nL, nT, sec_neq, sec_eql, hist_cs, hc23]
   rw [e0]
   refine Lend.tupL (LendL.cons (Lend.sl0 (E := 3) (s := 1) (by simp only [↓SP, SZ, ↓reduceIte, reduceCtorEq, nE, nA, nL, nT, sec_neq, sec_eql]) (by simp) (int_okc _)) (LendL.cons (.refl _) LendL.nil))
theorem refFind (h : Hist) (im : List (List Sec)) (hs : h.sm) (hl : im.length < 4000000) : Pu Tryz.prog (.fn (.func 7) [] []) [h.av, imgAV im] (.tup [.lst ((findL h im).map I), B (findB h im), I (judgeE h im)]) := by
 refine pu_func Tryz.func7 rfl (by kernel_rfl) (by show _ ≤ 33; simp only [LN]; decide) (by simp only [IDS, tab_idf]) (by simp only [IDS, tab_idf]) (by simp only [IDS, tab_idf]) ?_
 rw [Tryz.ntmps7]
 refine wpT_seq ?_
 refine wpT_region (by kernel_rfl) (fun K hK => ?_)
 simp only [↓SP, SZ, ↓reduceIte, reduceCtorEq, nE, nA, nL, nT, sec_neq, sec_eql]
 refine hK _ _ ?_
 clear hK K
 refine wpT_seq ?_
 refine wpT_seq ?_
 refine wpT_region (by kernel_rfl) (fun K hK => ?_)
 simp only [↓SP, SZ, ↓reduceIte, reduceCtorEq, nE, nA, nL, nT, sec_neq, sec_eql]
 refine Pu.call (c22 h im hs hl) ?_
 simp only [↓SP, SZ, ↓reduceIte, reduceCtorEq, nE, nA, nL, nT, sec_neq, sec_eql]
 refine hK _ _ ?_
 clear hK K
 refine wpT_seq ?_
 refine wpT_region (by kernel_rfl) (fun K hK => ?_)
 simp only [↓SP, SZ, ↓reduceIte, reduceCtorEq, nE, nA, nL, nT, sec_neq, sec_eql]
 refine hK _ _ ?_
 clear hK K
 refine wpT_if (by rfl) (fun hc15 => ?_) (fun hc15 => ?_)
 ·
  have p15 := hc15
  try simp only [PB] at p15
  have hx1 : findL h im = [] := if_pos (.inl p15)
  have hx2 : findB h im = false := by rw [findB, decide_eq_false p15]; rfl
  refine wpT_seq ?_
  refine wpT_region (by kernel_rfl) (fun K hK => ?_)
  simp only [↓SP, SZ, ↓reduceIte, reduceCtorEq, nE, nA, nL, nT, sec_neq, sec_eql, hc15]
  refine hK _ _ ?_
  clear hK K
  refine wpT_ret ⟨.inr rfl, ?_⟩
  show optK (resA _ _ _ [.tmp 4, .tmp 5, .tmp 6]) _
  simp only [SRO, ↓SP, SZ, ↓reduceIte, reduceCtorEq, nE, nA, nL, nT, sec_neq, sec_eql, hc15]
  rw [hx1, hx2]
  exact Lend.tupL (LendL.cons .nil0 (LendL.cons (.refl _) (LendL.cons (.refl _) LendL.nil)))
 ·
  have p15 := hc15
  try simp only [PB] at p15
  have e0 : judgeE h im = 0 := by simpa using p15
  have hx3 : decide (((candW h im).data.length : Int) > 0) = (confC h im).isSome := by
    rw [candW]
    cases confC h im with
    | none => rfl
    | some c => rfl
  refine wpT_skip ?_
  refine wpT_seq ?_
  refine wpT_region (by kernel_rfl) (fun K hK => ?_)
  simp only [↓SP, SZ, ↓reduceIte, reduceCtorEq, nE, nA, nL, nT, sec_neq, sec_eql, hc15]
  refine Pu.call (refCand h im hs e0) ?_
  simp only [↓SP, SZ, ↓reduceIte, reduceCtorEq, nE, nA, nL, nT, sec_neq, sec_eql, hc15]
  refine hK _ _ ?_
  clear hK K
  refine wpT_seq ?_
  refine wpT_seq ?_
  refine wpT_region (by kernel_rfl) (fun K hK => ?_)
  simp only [↓SP, SZ, ↓reduceIte, reduceCtorEq, nE, nA, nL, nT, sec_neq, sec_eql, wr_cs, hx3, hc15]
  refine guardO_split (fun hg26 => ?_) (fun hg26 => ?_)
  ·
   have p26 := hg26
   try simp only [PB] at p26
   have hu : (unkC (ctsH 0 h.ws) im).isSome = false := by simpa using p26
   have hcl : candL h im = leastC h im := if_neg (by simp [hu])
   simp only [↓SP, SZ, ↓reduceIte, reduceCtorEq, nE, nA, nL, nT, sec_neq, sec_eql, wr_cs, hx3, hc15, hg26]
   refine hK _ _ ?_
   clear hK K
   refine wpT_if (by rfl) (fun hc31 => ?_) (fun hc31 => ?_)
   ·
    have p31 := hc31
    try simp only [PB] at p31
    have hx1 : findL h im = [] := by first | exact hx1 | exact if_pos (.inr p31)
    have hx2 : findB h im = false := by first | exact hx2 | (rw [findB, p31]; simp)
    refine wpT_seq ?_
    refine wpT_region (by kernel_rfl) (fun K hK => ?_)
    simp only [↓SP, SZ, ↓reduceIte, reduceCtorEq, nE, nA, nL, nT, sec_neq, sec_eql, hc15, hg26, hc31]
    refine hK _ _ ?_
    clear hK K
    refine wpT_ret ⟨.inr rfl, ?_⟩
    show optK (resA _ _ _ [.tmp 4, .tmp 5, .tmp 6]) _
    simp only [SRO, ↓SP, SZ, ↓reduceIte, reduceCtorEq, nE, nA, nL, nT, sec_neq, sec_eql, hc15, hg26, hc31]
    rw [hx1, hx2, e0]
    exact Lend.tupL (LendL.cons .nil0 (LendL.cons (.refl _) (LendL.cons (.refl _) LendL.nil)))
   ·
    have p31 := hc31
    try simp only [PB] at p31
    have hx1 : findL h im = leastC h im := if_neg (by simp [e0, p31])
    have hx2 : findB h im = true := by rw [findB, p31, decide_eq_true e0]; rfl
    refine wpT_skip ?_
    refine wpT_seq ?_
    refine wpT_region (by kernel_rfl) (fun K hK => ?_)
    simp only [↓SP, SZ, ↓reduceIte, reduceCtorEq, nE, nA, nL, nT, sec_neq, sec_eql, hcl, hc15, hg26, hc31]
    refine hK _ _ ?_
    clear hK K
    refine wpT_ret ⟨.inr rfl, ?_⟩
    show optK (resA _ _ _ [.tmp 4, .tmp 5, .tmp 6]) _
    simp only [SRO, ↓SP, SZ, ↓reduceIte, reduceCtorEq, nE, nA, nL, nT, sec_neq, sec_eql, hc15, hg26, hc31]
    rw [hx1, hx2, e0]
    exact .refl _
  ·
   simp only [Bool.not_true, Bool.not_false] at hg26
   have p26 := hg26
   try simp only [PB] at p26
   have hu : (unkC (ctsH 0 h.ws) im).isSome = true := by simpa using p26
   have hcs : (confC h im).isSome = true := by
     rw [confC]
     cases hc : unkC (ctsH 0 h.ws) im with
     | none => rw [hc] at hu; simp at hu
     | some c => rfl
   have hx1 : findL h im = [] := if_pos (.inr hcs)
   have hx2 : findB h im = false := by rw [findB, hcs]; simp
   simp only [↓SP, SZ, ↓reduceIte, reduceCtorEq, nE, nA, nL, nT, sec_neq, sec_eql, wr_cs, hx3, hc15, hg26]
   refine hK _ _ ?_
   clear hK K
   refine wpT_ifT (by simp only [↓SP, SZ, ↓reduceIte, reduceCtorEq, nE, nA, nL, nT, sec_neq, sec_eql, hc15, hg26]) ?_
   have hx1 : findL h im = [] := by first | exact hx1 | exact if_pos (.inr p31)
   have hx2 : findB h im = false := by first | exact hx2 | (rw [findB, p31]; simp)
   refine wpT_seq ?_
   refine wpT_region (by kernel_rfl) (fun K hK => ?_)
   simp only [↓SP, SZ, ↓reduceIte, reduceCtorEq, nE, nA, nL, nT, sec_neq, sec_eql, hc15, hg26]
   refine hK _ _ ?_
   clear hK K
   refine wpT_ret ⟨.inr rfl, ?_⟩
   show optK (resA _ _ _ [.tmp 4, .tmp 5, .tmp 6]) _
   simp only [SRO, ↓SP, SZ, ↓reduceIte, reduceCtorEq, nE, nA, nL, nT, sec_neq, sec_eql, hc15, hg26]
   rw [hx1, hx2, e0]
   exact Lend.tupL (LendL.cons .nil0 (LendL.cons (.refl _) (LendL.cons (.refl _) LendL.nil)))
theorem ctsW_all {p : Ct → Bool} {v s : Int} {l : List Sec} : (ctsW v s l).all p = (List.range l.length).all fun j => p ⟨v, s + j, l.getD j sec0⟩ := by
  rw [Bool.eq_iff_iff, List.all_eq_true, List.all_eq_true]
  constructor
  · intro h j hj
    have hj := List.mem_range.1 hj
    refine h _ (mem_ctsW.2 ⟨rfl, by show s ≤ s + (j : Int); omega, ?_⟩)
    show l[(s + (j : Int) - s).toNat]? = some (l.getD j sec0)
    rw [show (s + (j : Int) - s).toNat = j by omega]
    simp [hj]
  · intro h c hc
    obtain ⟨h1, h2, h3⟩ := mem_ctsW.1 hc
    have hl := (List.getElem?_eq_some_iff.1 h3).1
    have := h _ (List.mem_range.2 hl)
    rw [List.getD_eq_getElem?_getD, h3] at this
    obtain ⟨cv, cs, cd⟩ := c
    simp only at h1 h2 this
    subst h1
    rw [show s + (((cs - s).toNat : Nat) : Int) = cs by omega] at this
    exact this
/-- Whether the first k sectors of write n allow it. -/
def alK (h : Hist) (im : List (List Sec)) (n k : Nat) : Bool := (List.range k).all fun j => alP h im n ⟨(wrAt h.ws n).vol, (wrAt h.ws n).start + j, (wrAt h.ws n).data.getD j sec0⟩
theorem alK_all {h : Hist} {im : List (List Sec)} {n : Nat} : alK h im n (wrAt h.ws n).data.length = allowedB h im n := by
  show _ = (wrAt h.ws n).cts.all (alP h im n)
  rw [Wr.cts, ctsW_all, alK]
theorem mtch {o : Option Int} {n : Int} {b : Bool} (hn : 0 ≤ n) (hb : ∀ a, o = some a → b = true) : (match (generalizing := false) o with | some a => decide (n ≤ a) | none => false) = (b && decide (o.getD (-1) ≥ n)) := by
  cases o with
  | none =>
    have : ¬ ((none : Option Int).getD (-1) ≥ n) := by show ¬ ((-1 : Int) ≥ n); omega
    rw [decide_eq_false this, Bool.and_false]
  | some a => rw [hb a rfl]; rfl
theorem alK_succ {h : Hist} {im : List (List Sec)} {n k : Nat} {x : Sec} (hd : distB h = true) (hx : imAt im (wrAt h.ws n).vol ((wrAt h.ws n).start + k) = x) : alK h im n (k + 1) = (alK h im n k && ((!decide (x = sec0)) && decide (authN h ⟨(wrAt h.ws n).vol, (wrAt h.ws n).start + k, x⟩ ≥ n))) := by
  rw [alK, List.range_succ, List.all_append, List.all_cons, List.all_nil, Bool.and_true]
  congr 1
  rw [alP]
  simp only [hx, authN]
  exact mtch (by omega) fun a ha => by
    obtain ⟨a0, a1, a2⟩ := author_some ha
    have := (author_of hd a0 a1 a2).2
    simp [this]
theorem refNewest (h : Hist) (im : List (List Sec)) (hs : h.sm) (hl : im.length < 4000000) : Pu Tryz.prog (.fn (.func 9) [] []) [h.av, imgAV im] (.tup [.lst ((newL h im).map I), B (findB h im), I (judgeE h im)]) := by
 refine pu_func Tryz.func9 rfl (by kernel_rfl) (by show _ ≤ 94; simp only [LN]; decide) (by simp only [IDS, tab_idf]) (by simp only [IDS, tab_idf]) (by simp only [IDS, tab_idf]) ?_
 rw [Tryz.ntmps9]
 refine wpT_seq ?_
 refine wpT_region (by kernel_rfl) (fun K hK => ?_)
 simp only [↓SP, SZ, ↓reduceIte, reduceCtorEq, nE, nA, nL, nT, sec_neq, sec_eql, hist_cs, wr_cs]
 refine hK _ _ ?_
 clear hK K
 refine wpT_seq ?_
 refine wpT_seq ?_
 refine wpT_region (by kernel_rfl) (fun K hK => ?_)
 simp only [↓SP, SZ, ↓reduceIte, reduceCtorEq, nE, nA, nL, nT, sec_neq, sec_eql, hist_cs, wr_cs]
 refine Pu.call (refFind h im hs hl) ?_
 simp only [↓SP, SZ, ↓reduceIte, reduceCtorEq, nE, nA, nL, nT, sec_neq, sec_eql, hist_cs, wr_cs]
 refine hK _ _ ?_
 clear hK K
 refine wpT_seq ?_
 refine wpT_region (by kernel_rfl) (fun K hK => ?_)
 simp only [↓SP, SZ, ↓reduceIte, reduceCtorEq, nE, nA, nL, nT, sec_neq, sec_eql, hist_cs, wr_cs]
 refine guardO_split (fun hg27 => ?_) (fun hg27 => ?_)
 ·
  have p27 := hg27
  try simp only [PB] at p27
  have e0 : judgeE h im = 0 := by simpa using p27
  simp only [↓SP, SZ, ↓reduceIte, reduceCtorEq, nE, nA, nL, nT, sec_neq, sec_eql, hist_cs, wr_cs, hg27]
  refine hK _ _ ?_
  clear hK K
  refine wpT_if (by rfl) (fun hc30 => ?_) (fun hc30 => ?_)
  ·
   have p30 := hc30
   try simp only [PB] at p30
   have hx2 : findB h im = false := by first | exact hx2 | simpa using p30
   have hx1 : newL h im = [] := by first | exact hx1 | (refine if_pos (.inr ?_); have := hx2; rw [findB, decide_eq_true e0, Bool.true_and] at this; simpa using this)
   refine wpT_seq ?_
   refine wpT_region (by kernel_rfl) (fun K hK => ?_)
   simp only [↓SP, SZ, ↓reduceIte, reduceCtorEq, nE, nA, nL, nT, sec_neq, sec_eql, hist_cs, wr_cs, hg27, hc30]
   refine hK _ _ ?_
   clear hK K
   refine wpT_ret ⟨.inr rfl, ?_⟩
   show optK (resA _ _ _ [.tmp 4, .tmp 5, .tmp 6]) _
   simp only [SRO, ↓SP, SZ, ↓reduceIte, reduceCtorEq, nE, nA, nL, nT, sec_neq, sec_eql, hist_cs, wr_cs, hg27, hc30]
   rw [hx1, hx2, e0]
   exact Lend.tupL (LendL.cons .nil0 (LendL.cons (.refl _) (LendL.cons (.refl _) LendL.nil)))
  ·
   have p30 := hc30
   try simp only [PB] at p30
   have hx2 : findB h im = true := by simpa using p30
   have hcn : (confC h im).isSome = false := by
     have := hx2
     rw [findB, decide_eq_true e0, Bool.true_and] at this
     simpa using this
   have hx1 : newL h im = newestC h im := if_neg (by simp [e0, hcn])
   obtain ⟨eh, hz, hd⟩ := judge_ok e0
   obtain ⟨hl8, hl4⟩ := im_small eh hz
   have hw := hs.2.1
   have hlz : (sizesOf im).length = im.length := by simp [sizesOf]
   refine wpT_skip ?_
   refine wpT_seq ?_
   refine wpT_region (by kernel_rfl) (fun K hK => ?_)
   simp only [↓SP, SZ, ↓reduceIte, reduceCtorEq, nE, nA, nL, nT, sec_neq, sec_eql, hist_cs, wr_cs, hg27, hc30]
   refine hK _ _ ?_
   clear hK K
   refine wpT_seq ?_
   refine wpT_seq ?_
   refine wpT_region (by kernel_rfl) (fun K hK => ?_)
   simp only [↓SP, SZ, ↓reduceIte, reduceCtorEq, nE, nA, nL, nT, sec_neq, sec_eql, hist_cs, wr_cs, hg27, hc30]
   refine hK _ _ ?_
   clear hK K
   refine wpT_block ?_
   refine wpT_loop ?_
   refine wpT_nilown 10 3 1 (by simp only [↓SP, SZ, ↓reduceIte, reduceCtorEq, nE, nA, nL, nT, sec_neq, sec_eql]) ?_
   refine wpT_keep2 (i := 0) (j := 1) (o := .arr 26 3 [h.av]) (q := .arr 3 1 ((selN (allowedB h im) 0).map I)) (by simp only [↓SP, SZ, ↓reduceIte, reduceCtorEq, nE, nA, nL, nT, sec_neq, sec_eql]) (by simp only [↓SP, SZ, ↓reduceIte, reduceCtorEq, nE, nA, nL, nT, sec_neq, sec_eql]; rfl) ?_
   refine wpT_ind (fun (i : Nat) tm' h' => (∃ m, 2 ≤ m ∧ h' = Hp.of [(0, .arr 26 3 [h.av]), (1, .arr 3 1 ((selN (allowedB h im) i).map I))] m) ∧ tm' 1 = imgAV im ∧ tm' 2 = .ptr 0 1 0 0 ∧ tm' 10 = .sl 1 (selN (allowedB h im) i).length 0 (selN (allowedB h im) i).length ∧ tm' 11 = I i ∧ i ≤ h.ws.length) (fun i => h.ws.length - i) ?_ 0 ⟨⟨2, Nat.le_refl _, rfl⟩, by simp only [↓SP, SZ, ↓reduceIte, reduceCtorEq, nE, nA, nL, nT, sec_neq, sec_eql], by simp only [↓SP, SZ, ↓reduceIte, reduceCtorEq, nE, nA, nL, nT, sec_neq, sec_eql], rfl, rfl, by omega⟩
   rintro i tm' _ ⟨⟨q, hq2, rfl⟩, e1, e2, e10, e11, hi⟩ IH
   have n0 : (0 = q) = False := by simp; omega
   have n1 : (1 = q) = False := by simp; omega
   have n2 : (q = 0) = False := by simp; omega
   have n3 : (q = 1) = False := by simp; omega
   refine wpT_inLoop ?_
   refine wpT_seq ?_
   refine wpT_seq ?_
   refine wpT_region (by kernel_rfl) (fun K hK => ?_)
   simp only [↓SP, SZ, ↓reduceIte, reduceCtorEq, nE, nA, nL, nT, sec_neq, sec_eql, hist_cs, wr_cs, n0, n1, n2, n3, e2, e11]
   refine hK _ _ ?_
   clear hK K
   refine wpT_if (by rfl) (fun hc36 => ?_) (fun hc36 => ?_)
   ·
    have p36 := hc36
    try simp only [PB] at p36
    have hlt : i < h.ws.length := by omega
    have hln := selN_length (allowedB h im) i
    have m1 : (selN (allowedB h im) i).length + 1 ≤ maxLen := by simp only [maxLen]; omega
    have m2 : ((selN (allowedB h im) i).length + 1) * 8 ≤ 140737488355328 := by omega
    have hg := at_map (f := Wr.av) hlt
    have hmem := List.getElem_mem hlt
    have hwn : wrAt h.ws (i : Int) = h.ws[i] := wrAt_eq (List.getElem?_eq_getElem hlt)
    obtain ⟨f1, f2, f3, f4, f5⟩ := fitsE_ok (fitsAll_mem (hist_ok eh).2.2.1 _ hmem)
    have hal : alK h im i (h.ws[i]).data.length = allowedB h im i := by rw [← hwn]; exact alK_all
    obtain ⟨v, hv⟩ := Int.eq_ofNat_of_zero_le f1
    obtain ⟨s, hs'⟩ := Int.eq_ofNat_of_zero_le f4
    have hvl : v < im.length := by rw [← hlz, hz]; omega
    have hgv := at_map (f := fun l : List Sec => AV.lst (l.map Sec.av)) hvl
    have hvm := hl4 _ (List.getElem_mem hvl)
    have hsz : h.sizes.getD (h.ws[i]).vol.toNat 0 = (im[v].length : Int) := by
      rw [← hz, hv, Int.toNat_natCast]
      simp [sizesOf, List.getD_eq_getElem?_getD, hvl]
    rw [hsz] at f5
    have hsucc := fun (k : Nat) (x : Sec) (hx : imAt im (h.ws[i]).vol ((h.ws[i]).start + k) = x) => alK_succ (h := h) (im := im) (n := i) (k := k) (x := x) hd (by rw [hwn]; exact hx)
    rw [hwn] at hsucc
    generalize h.ws[i] = w at *
    refine wpT_skip ?_
    refine wpT_seq ?_
    refine wpT_block ?_
    refine wpT_seq ?_
    refine wpT_region (by kernel_rfl) (fun K hK => ?_)
    simp only [↓SP, SZ, ↓reduceIte, reduceCtorEq, nE, nA, nL, nT, sec_neq, sec_eql, hist_cs, wr_cs, n0, n1, n2, n3, e2, e11, hg, hc36]
    refine hK _ _ ?_
    clear hK K
    refine wpT_seq ?_
    refine wpT_region (by kernel_rfl) (fun K hK => ?_)
    simp only [↓SP, SZ, ↓reduceIte, reduceCtorEq, nE, nA, nL, nT, sec_neq, sec_eql, hist_cs, wr_cs, hc36]
    refine hK _ _ ?_
    clear hK K
    refine wpT_seq ?_
    refine wpT_seq ?_
    refine wpT_region (by kernel_rfl) (fun K hK => ?_)
    simp only [↓SP, SZ, ↓reduceIte, reduceCtorEq, nE, nA, nL, nT, sec_neq, sec_eql, hist_cs, wr_cs, hc36]
    refine hK _ _ ?_
    clear hK K
    refine wpT_block ?_
    refine wpT_loop ?_
    refine wpT_keep3 (i := 0) (j := 1) (k := q) (o := .arr 26 3 [h.av]) (q := .arr 3 1 ((selN (allowedB h im) i).map I)) (r := .arr 45 3 [w.av]) (by simp only [↓SP, SZ, ↓reduceIte, reduceCtorEq, nE, nA, nL, nT, sec_neq, sec_eql, n0]) (by simp only [↓SP, SZ, ↓reduceIte, reduceCtorEq, nE, nA, nL, nT, sec_neq, sec_eql, n1]) (by simp only [↓SP, SZ, ↓reduceIte, reduceCtorEq, nE, nA, nL, nT, sec_neq, sec_eql]) ?_
    refine wpT_ind (fun (k : Nat) tm2 h2 => (∃ x, q < x ∧ h2 = Hp.of [(0, .arr 26 3 [h.av]), (1, .arr 3 1 ((selN (allowedB h im) i).map I)), (q, .arr 45 3 [w.av])] x) ∧ tm2 1 = imgAV im ∧ tm2 2 = .ptr 0 1 0 0 ∧ tm2 10 = .sl 1 (selN (allowedB h im) i).length 0 (selN (allowedB h im) i).length ∧ tm2 11 = I i ∧ tm2 12 = .ptr q 1 0 0 ∧ tm2 13 = B (alK h im i k) ∧ tm2 14 = I k ∧ k ≤ w.data.length) (fun k => w.data.length - k) ?_ 0 ⟨⟨_, Nat.lt_succ_self _, rfl⟩, by simp only [↓SP, SZ, ↓reduceIte, reduceCtorEq, nE, nA, nL, nT, sec_neq, sec_eql, e1], by simp only [↓SP, SZ, ↓reduceIte, reduceCtorEq, nE, nA, nL, nT, sec_neq, sec_eql, e2], by simp only [↓SP, SZ, ↓reduceIte, reduceCtorEq, nE, nA, nL, nT, sec_neq, sec_eql, e10], by simp only [↓SP, SZ, ↓reduceIte, reduceCtorEq, nE, nA, nL, nT, sec_neq, sec_eql, e11], by simp only [↓SP, SZ, ↓reduceIte, reduceCtorEq, nE, nA, nL, nT, sec_neq, sec_eql], rfl, rfl, by omega⟩
    clear e1 e2 e10 e11
    rintro k tm2 _ ⟨⟨x, hx, rfl⟩, e1, e2, e10, e11, e12, e13, e14, hk⟩ IH2
    have x0 : (0 = x) = False := by simp; omega
    have x1 : (1 = x) = False := by simp; omega
    have xq : (q = x) = False := by simp; omega
    have x2 : (x = 0) = False := by simp; omega
    have x3 : (x = 1) = False := by simp; omega
    have x4 : (x = q) = False := by simp; omega
    have y0 : (0 = x + 11) = False := by simp <;> omega
    have y1 : (1 = x + 11) = False := by simp <;> omega
    have y2 : (x + 11 = 0) = False := by simp <;> omega
    have y3 : (x + 11 = 1) = False := by simp <;> omega
    have y4 : (x + 11 = q) = False := by simp; omega
    have y5 : (q = x + 11) = False := by simp; omega
    refine wpT_inLoop ?_
    refine wpT_seq ?_
    refine wpT_seq ?_
    refine wpT_region (by kernel_rfl) (fun K hK => ?_)
    simp only [↓SP, SZ, ↓reduceIte, reduceCtorEq, nE, nA, nL, nT, sec_neq, sec_eql, hist_cs, wr_cs, e12, e14, n0, n1, n2, n3]
    refine hK _ _ ?_
    clear hK K
    refine wpT_if (by rfl) (fun hc48 => ?_) (fun hc48 => ?_)
    ·
     have p48 := hc48
     try simp only [PB] at p48
     have hkl : k < w.data.length := by omega
     have hk2 : s + k < im[v].length := by omega
     have hgk := at_map (f := Sec.av) hk2
     have hadd : IntKind.i64.wrap ((s : Int) + (k : Int)) = ((s + k : Nat) : Int) := by rw [wrap64 (by omega) (by omega)]; omega
     have hia : imAt im w.vol (w.start + k) = im[v][s + k] := by
       rw [hv, hs', show (s : Int) + (k : Int) = ((s + k : Nat) : Int) by omega]
       rw [imAt, Int.toNat_natCast, Int.toNat_natCast]
       simp [hvl, hk2]
     have hsu := hsucc k _ hia
     rw [hv, hs', show (s : Int) + (k : Int) = ((s + k : Nat) : Int) by omega] at hsu
     refine wpT_skip ?_
     refine wpT_seq ?_
     refine wpT_block ?_
     refine wpT_seq ?_
     refine wpT_drawn [(1, 11), (2, 11), (3, 11), (4, 11), (5, 11), (6, 11), (9, 11), (10, 11)] mixed (by kernel_rfl) (m := 13) rfl (fun K hK => ?_)
     simp only [↓SP, SZ, ↓reduceIte, reduceCtorEq, nE, nA, nL, nT, sec_neq, sec_eql, hist_cs, wr_cs, n0, n1, n2, n3, x0, x1, x2, x3, x4, xq, y0, y1, y2, y3, y4, y5, e1, e12, e14, imgAV, hv, hs', hgv, hadd, hgk, Wr.av, hc48]
     refine hK _ _ ?_
     clear hK K
     refine wpT_region (by kernel_rfl) (fun K hK => ?_)
     simp only [↓SP, SZ, ↓reduceIte, reduceCtorEq, nE, nA, nL, nT, sec_neq, sec_eql, hist_cs, wr_cs, n0, n1, n2, n3, x0, x1, x2, x3, x4, xq, y0, y1, y2, y3, y4, y5, e1, e2, e11, e12, e13, e14, hv, hs', hadd, Wr.av, secB0, hc48]
     refine guardO_split (fun hg63 => ?_) (fun hg63 => ?_)
     ·
      have p63 := hg63
      try simp only [PB] at p63
      have hp : alK h im i k = true := p63
      simp only [↓SP, SZ, ↓reduceIte, reduceCtorEq, nE, nA, nL, nT, sec_neq, sec_eql, hist_cs, wr_cs, n0, n1, n2, n3, x0, x1, x2, x3, x4, xq, y0, y1, y2, y3, y4, y5, e1, e2, e11, e12, e13, e14, hv, hs', hadd, Wr.av, secB0, hc48, hg63]
      refine guardO_split (fun hg68 => ?_) (fun hg68 => ?_)
      ·
       have p68 := hg68
       try simp only [PB] at p68
       have hne : decide (im[v][s + k] = sec0) = false := by simpa using p68
       have hva : alK h im i (k + 1) = decide (authN h ⟨v, ((s + k : Nat) : Int), im[v][s + k]⟩ ≥ i) := by rw [hsu, hp, hne]; rfl
       simp only [↓SP, SZ, ↓reduceIte, reduceCtorEq, nE, nA, nL, nT, sec_neq, sec_eql, hist_cs, wr_cs, n0, n1, n2, n3, x0, x1, x2, x3, x4, xq, y0, y1, y2, y3, y4, y5, e1, e2, e11, e12, e13, e14, hv, hs', hadd, Wr.av, secB0, hc48, hg63, hg68]
       refine Pu.call (c26 h ⟨v, (s + k : Nat), im[v][s + k]⟩ hs eh) ?_
       simp only [↓SP, SZ, ↓reduceIte, reduceCtorEq, nE, nA, nL, nT, sec_neq, sec_eql, hist_cs, wr_cs, n0, n1, n2, n3, x0, x1, x2, x3, x4, xq, y0, y1, y2, y3, y4, y5, e1, e2, e11, e12, e13, e14, hv, hs', hadd, Wr.av, secB0, hc48, hg63, hg68]
       refine hK _ _ ?_
       clear hK K
       refine wpT_inBlock ?_
       refine wpT_region (by kernel_rfl) (fun K hK => ?_)
       simp only [↓SP, SZ, ↓reduceIte, reduceCtorEq, nE, nA, nL, nT, sec_neq, sec_eql, hist_cs, wr_cs, e14, wrap64 (x := (k : Int) + 1) (by omega) (by omega), hc48, hg63, hg68]
       refine hK _ _ ?_
       clear hK K
       refine wpT_keep3 (i := 0) (j := 1) (k := q) (o := .arr 26 3 [h.av]) (q := .arr 3 1 ((selN (allowedB h im) i).map I)) (r := .arr 45 3 [w.av]) (by simp only [↓SP, SZ, ↓reduceIte, reduceCtorEq, nE, nA, nL, nT, sec_neq, sec_eql, x0, n0, y0, y2]) (by simp only [↓SP, SZ, ↓reduceIte, reduceCtorEq, nE, nA, nL, nT, sec_neq, sec_eql, x1, n1, y1, y3]) (by simp only [↓SP, SZ, ↓reduceIte, reduceCtorEq, nE, nA, nL, nT, sec_neq, sec_eql, xq, x4, y4, y5, n0, n1, n2, n3, Wr.av, hv, hs']) ?_
       refine IH2 (k + 1) _ _ (by omega) ⟨⟨_, by first | (simp only [↓SP, SZ, ↓reduceIte, reduceCtorEq, nE, nA, nL, nT, sec_neq, sec_eql]; done) | (simp only [↓SP, SZ, ↓reduceIte, reduceCtorEq, nE, nA, nL, nT, sec_neq, sec_eql]; omega), rfl⟩, by simp only [↓SP, SZ, ↓reduceIte, reduceCtorEq, nE, nA, nL, nT, sec_neq, sec_eql, e1], by simp only [↓SP, SZ, ↓reduceIte, reduceCtorEq, nE, nA, nL, nT, sec_neq, sec_eql, e2], by simp only [↓SP, SZ, ↓reduceIte, reduceCtorEq, nE, nA, nL, nT, sec_neq, sec_eql, e10], by simp only [↓SP, SZ, ↓reduceIte, reduceCtorEq, nE, nA, nL, nT, sec_neq, sec_eql, e11], by simp only [↓SP, SZ, ↓reduceIte, reduceCtorEq, nE, nA, nL, nT, sec_neq, sec_eql, e12], by simp only [↓SP, SZ, ↓reduceIte, reduceCtorEq, nE, nA, nL, nT, sec_neq, sec_eql, hva], by simp only [↓SP, SZ, ↓reduceIte, reduceCtorEq, nE, nA, nL, nT, sec_neq, sec_eql, Int.natCast_add, Int.cast_ofNat_Int], by omega⟩
      ·
       simp only [Bool.not_true, Bool.not_false] at hg68
       have p68 := hg68
       try simp only [PB] at p68
       have hne : decide (im[v][s + k] = sec0) = true := by simpa using p68
       have hva : alK h im i (k + 1) = false := by rw [hsu, hp, hne]; rfl
       simp only [↓SP, SZ, ↓reduceIte, reduceCtorEq, nE, nA, nL, nT, sec_neq, sec_eql, hist_cs, wr_cs, n0, n1, n2, n3, x0, x1, x2, x3, x4, xq, y0, y1, y2, y3, y4, y5, e1, e2, e11, e12, e13, e14, hv, hs', hadd, Wr.av, secB0, hc48, hg63, hg68]
       refine hK _ _ ?_
       clear hK K
       refine wpT_inBlock ?_
       refine wpT_region (by kernel_rfl) (fun K hK => ?_)
       simp only [↓SP, SZ, ↓reduceIte, reduceCtorEq, nE, nA, nL, nT, sec_neq, sec_eql, hist_cs, wr_cs, e14, wrap64 (x := (k : Int) + 1) (by omega) (by omega), hc48, hg63, hg68]
       refine hK _ _ ?_
       clear hK K
       refine wpT_keep3 (i := 0) (j := 1) (k := q) (o := .arr 26 3 [h.av]) (q := .arr 3 1 ((selN (allowedB h im) i).map I)) (r := .arr 45 3 [w.av]) (by simp only [↓SP, SZ, ↓reduceIte, reduceCtorEq, nE, nA, nL, nT, sec_neq, sec_eql, x0, n0, y0, y2]) (by simp only [↓SP, SZ, ↓reduceIte, reduceCtorEq, nE, nA, nL, nT, sec_neq, sec_eql, x1, n1, y1, y3]) (by simp only [↓SP, SZ, ↓reduceIte, reduceCtorEq, nE, nA, nL, nT, sec_neq, sec_eql, xq, x4, y4, y5, n0, n1, n2, n3, Wr.av, hv, hs']) ?_
       refine IH2 (k + 1) _ _ (by omega) ⟨⟨_, by first | (simp only [↓SP, SZ, ↓reduceIte, reduceCtorEq, nE, nA, nL, nT, sec_neq, sec_eql]; done) | (simp only [↓SP, SZ, ↓reduceIte, reduceCtorEq, nE, nA, nL, nT, sec_neq, sec_eql]; omega), rfl⟩, by simp only [↓SP, SZ, ↓reduceIte, reduceCtorEq, nE, nA, nL, nT, sec_neq, sec_eql, e1], by simp only [↓SP, SZ, ↓reduceIte, reduceCtorEq, nE, nA, nL, nT, sec_neq, sec_eql, e2], by simp only [↓SP, SZ, ↓reduceIte, reduceCtorEq, nE, nA, nL, nT, sec_neq, sec_eql, e10], by simp only [↓SP, SZ, ↓reduceIte, reduceCtorEq, nE, nA, nL, nT, sec_neq, sec_eql, e11], by simp only [↓SP, SZ, ↓reduceIte, reduceCtorEq, nE, nA, nL, nT, sec_neq, sec_eql, e12], by simp only [↓SP, SZ, ↓reduceIte, reduceCtorEq, nE, nA, nL, nT, sec_neq, sec_eql, hva], by simp only [↓SP, SZ, ↓reduceIte, reduceCtorEq, nE, nA, nL, nT, sec_neq, sec_eql, Int.natCast_add, Int.cast_ofNat_Int], by omega⟩
     ·
      simp only [Bool.not_true, Bool.not_false] at hg63
      have p63 := hg63
      try simp only [PB] at p63
      have hva : alK h im i (k + 1) = false := by rw [hsu, p63]; rfl
      simp only [↓SP, SZ, ↓reduceIte, reduceCtorEq, nE, nA, nL, nT, sec_neq, sec_eql, hist_cs, wr_cs, n0, n1, n2, n3, x0, x1, x2, x3, x4, xq, y0, y1, y2, y3, y4, y5, e1, e2, e11, e12, e13, e14, hv, hs', hadd, Wr.av, secB0, hc48, hg63]
      refine hK _ _ ?_
      clear hK K
      refine wpT_inBlock ?_
      refine wpT_region (by kernel_rfl) (fun K hK => ?_)
      simp only [↓SP, SZ, ↓reduceIte, reduceCtorEq, nE, nA, nL, nT, sec_neq, sec_eql, hist_cs, wr_cs, e14, wrap64 (x := (k : Int) + 1) (by omega) (by omega), hc48, hg63]
      refine hK _ _ ?_
      clear hK K
      refine wpT_keep3 (i := 0) (j := 1) (k := q) (o := .arr 26 3 [h.av]) (q := .arr 3 1 ((selN (allowedB h im) i).map I)) (r := .arr 45 3 [w.av]) (by simp only [↓SP, SZ, ↓reduceIte, reduceCtorEq, nE, nA, nL, nT, sec_neq, sec_eql, x0, n0, y0, y2]) (by simp only [↓SP, SZ, ↓reduceIte, reduceCtorEq, nE, nA, nL, nT, sec_neq, sec_eql, x1, n1, y1, y3]) (by simp only [↓SP, SZ, ↓reduceIte, reduceCtorEq, nE, nA, nL, nT, sec_neq, sec_eql, xq, x4, y4, y5, n0, n1, n2, n3, Wr.av, hv, hs']) ?_
      refine IH2 (k + 1) _ _ (by omega) ⟨⟨_, by first | (simp only [↓SP, SZ, ↓reduceIte, reduceCtorEq, nE, nA, nL, nT, sec_neq, sec_eql]; done) | (simp only [↓SP, SZ, ↓reduceIte, reduceCtorEq, nE, nA, nL, nT, sec_neq, sec_eql]; omega), rfl⟩, by simp only [↓SP, SZ, ↓reduceIte, reduceCtorEq, nE, nA, nL, nT, sec_neq, sec_eql, e1], by simp only [↓SP, SZ, ↓reduceIte, reduceCtorEq, nE, nA, nL, nT, sec_neq, sec_eql, e2], by simp only [↓SP, SZ, ↓reduceIte, reduceCtorEq, nE, nA, nL, nT, sec_neq, sec_eql, e10], by simp only [↓SP, SZ, ↓reduceIte, reduceCtorEq, nE, nA, nL, nT, sec_neq, sec_eql, e11], by simp only [↓SP, SZ, ↓reduceIte, reduceCtorEq, nE, nA, nL, nT, sec_neq, sec_eql, e12], by simp only [↓SP, SZ, ↓reduceIte, reduceCtorEq, nE, nA, nL, nT, sec_neq, sec_eql, hva], by simp only [↓SP, SZ, ↓reduceIte, reduceCtorEq, nE, nA, nL, nT, sec_neq, sec_eql, Int.natCast_add, Int.cast_ofNat_Int], by omega⟩
    ·
     have p48 := hc48
     try simp only [PB] at p48
     have hk3 : k = w.data.length := by omega
     rw [hk3, hal] at e13
     refine wpT_exit rfl ?_
     refine wpT_seq ?_
     refine wpT_region (by kernel_rfl) (fun K hK => ?_)
     simp only [↓SP, SZ, ↓reduceIte, reduceCtorEq, nE, nA, nL, nT, sec_neq, sec_eql, hist_cs, wr_cs, e13, hc48]
     refine hK _ _ ?_
     clear hK K
     refine wpT_if (by rfl) (fun hc81 => ?_) (fun hc81 => ?_)
     ·
      have p81 := hc81
      try simp only [PB] at p81
      have hsel : selN (allowedB h im) (i + 1) = selN (allowedB h im) i ++ [(i : Int)] := by rw [selN, if_pos hc81]
      refine wpT_region (by kernel_rfl) (fun K hK => ?_)
      simp only [↓SP, SZ, ↓reduceIte, reduceCtorEq, nE, nA, nL, nT, sec_neq, sec_eql, hist_cs, wr_cs, e10, e11, m1, m2, n0, n1, n2, n3, x0, x1, x2, x3, x4, xq, hc48, hc81]
      refine hK _ _ ?_
      clear hK K
      refine wpT_inBlock ?_
      refine wpT_region (by kernel_rfl) (fun K hK => ?_)
      simp only [↓SP, SZ, ↓reduceIte, reduceCtorEq, nE, nA, nL, nT, sec_neq, sec_eql, hist_cs, wr_cs, e11, wrap64 (x := (i : Int) + 1) (by omega) (by omega), hc48, hc81]
      refine hK _ _ ?_
      clear hK K
      first
        | (have hu := hsel
           refine wpT_keep2 (i := 0) (j := 1) (o := .arr 26 3 [h.av]) (q := .arr 3 1 ((selN (allowedB h im) (i + 1)).map I)) (by simp only [↓SP, SZ, ↓reduceIte, reduceCtorEq, nE, nA, nL, nT, sec_neq, sec_eql, n0, n2, x0, x2]) (by simp only [↓SP, SZ, ↓reduceIte, reduceCtorEq, nE, nA, nL, nT, sec_neq, sec_eql, n1, n3, x1, x3, hsel, List.map_append]) ?_
           refine IH (i + 1) _ _ (by omega) ⟨⟨_, by first | (simp only [↓SP, SZ, ↓reduceIte, reduceCtorEq, nE, nA, nL, nT, sec_neq, sec_eql]; done) | (simp only [↓SP, SZ, ↓reduceIte, reduceCtorEq, nE, nA, nL, nT, sec_neq, sec_eql]; omega), rfl⟩, by simp only [↓SP, SZ, ↓reduceIte, reduceCtorEq, nE, nA, nL, nT, sec_neq, sec_eql, e1], by simp only [↓SP, SZ, ↓reduceIte, reduceCtorEq, nE, nA, nL, nT, sec_neq, sec_eql, e2], by simp only [↓SP, SZ, ↓reduceIte, reduceCtorEq, nE, nA, nL, nT, sec_neq, sec_eql, hsel], by simp only [↓SP, SZ, ↓reduceIte, reduceCtorEq, nE, nA, nL, nT, sec_neq, sec_eql, Int.natCast_add, Int.cast_ofNat_Int], by omega⟩)
        | (have hu := hself
           refine wpT_keep2 (i := 0) (j := 1) (o := .arr 26 3 [h.av]) (q := .arr 3 1 ((selN (allowedB h im) (i + 1)).map I)) (by simp only [↓SP, SZ, ↓reduceIte, reduceCtorEq, nE, nA, nL, nT, sec_neq, sec_eql, n0, n2]) (by simp only [↓SP, SZ, ↓reduceIte, reduceCtorEq, nE, nA, nL, nT, sec_neq, sec_eql, n1, n3, hself]) ?_
           refine IH (i + 1) _ _ (by omega) ⟨⟨_, by first | (simp only [↓SP, SZ, ↓reduceIte, reduceCtorEq, nE, nA, nL, nT, sec_neq, sec_eql]; done) | (simp only [↓SP, SZ, ↓reduceIte, reduceCtorEq, nE, nA, nL, nT, sec_neq, sec_eql]; omega), rfl⟩, by simp only [↓SP, SZ, ↓reduceIte, reduceCtorEq, nE, nA, nL, nT, sec_neq, sec_eql, e1], by simp only [↓SP, SZ, ↓reduceIte, reduceCtorEq, nE, nA, nL, nT, sec_neq, sec_eql, e2], by simp only [↓SP, SZ, ↓reduceIte, reduceCtorEq, nE, nA, nL, nT, sec_neq, sec_eql, hself, e10], by simp only [↓SP, SZ, ↓reduceIte, reduceCtorEq, nE, nA, nL, nT, sec_neq, sec_eql, Int.natCast_add, Int.cast_ofNat_Int], by omega⟩)
     ·
      have p81 := hc81
      try simp only [PB] at p81
      have hself : selN (allowedB h im) (i + 1) = selN (allowedB h im) i := by rw [selN, if_neg (by simp [hc81]), List.append_nil]
      refine wpT_skip ?_
      refine wpT_inBlock ?_
      refine wpT_region (by kernel_rfl) (fun K hK => ?_)
      simp only [↓SP, SZ, ↓reduceIte, reduceCtorEq, nE, nA, nL, nT, sec_neq, sec_eql, hist_cs, wr_cs, e11, wrap64 (x := (i : Int) + 1) (by omega) (by omega), hc48, hc81]
      refine hK _ _ ?_
      clear hK K
      first
        | (have hu := hsel
           refine wpT_keep2 (i := 0) (j := 1) (o := .arr 26 3 [h.av]) (q := .arr 3 1 ((selN (allowedB h im) (i + 1)).map I)) (by simp only [↓SP, SZ, ↓reduceIte, reduceCtorEq, nE, nA, nL, nT, sec_neq, sec_eql, n0, n2, x0, x2]) (by simp only [↓SP, SZ, ↓reduceIte, reduceCtorEq, nE, nA, nL, nT, sec_neq, sec_eql, n1, n3, x1, x3, hsel, List.map_append]) ?_
           refine IH (i + 1) _ _ (by omega) ⟨⟨_, by first | (simp only [↓SP, SZ, ↓reduceIte, reduceCtorEq, nE, nA, nL, nT, sec_neq, sec_eql]; done) | (simp only [↓SP, SZ, ↓reduceIte, reduceCtorEq, nE, nA, nL, nT, sec_neq, sec_eql]; omega), rfl⟩, by simp only [↓SP, SZ, ↓reduceIte, reduceCtorEq, nE, nA, nL, nT, sec_neq, sec_eql, e1], by simp only [↓SP, SZ, ↓reduceIte, reduceCtorEq, nE, nA, nL, nT, sec_neq, sec_eql, e2], by simp only [↓SP, SZ, ↓reduceIte, reduceCtorEq, nE, nA, nL, nT, sec_neq, sec_eql, hsel], by simp only [↓SP, SZ, ↓reduceIte, reduceCtorEq, nE, nA, nL, nT, sec_neq, sec_eql, Int.natCast_add, Int.cast_ofNat_Int], by omega⟩)
        | (have hu := hself
           refine wpT_keep2 (i := 0) (j := 1) (o := .arr 26 3 [h.av]) (q := .arr 3 1 ((selN (allowedB h im) (i + 1)).map I)) (by simp only [↓SP, SZ, ↓reduceIte, reduceCtorEq, nE, nA, nL, nT, sec_neq, sec_eql, n0, n2]) (by simp only [↓SP, SZ, ↓reduceIte, reduceCtorEq, nE, nA, nL, nT, sec_neq, sec_eql, n1, n3, hself]) ?_
           refine IH (i + 1) _ _ (by omega) ⟨⟨_, by first | (simp only [↓SP, SZ, ↓reduceIte, reduceCtorEq, nE, nA, nL, nT, sec_neq, sec_eql]; done) | (simp only [↓SP, SZ, ↓reduceIte, reduceCtorEq, nE, nA, nL, nT, sec_neq, sec_eql]; omega), rfl⟩, by simp only [↓SP, SZ, ↓reduceIte, reduceCtorEq, nE, nA, nL, nT, sec_neq, sec_eql, e1], by simp only [↓SP, SZ, ↓reduceIte, reduceCtorEq, nE, nA, nL, nT, sec_neq, sec_eql, e2], by simp only [↓SP, SZ, ↓reduceIte, reduceCtorEq, nE, nA, nL, nT, sec_neq, sec_eql, hself, e10], by simp only [↓SP, SZ, ↓reduceIte, reduceCtorEq, nE, nA, nL, nT, sec_neq, sec_eql, Int.natCast_add, Int.cast_ofNat_Int], by omega⟩)
   ·
    have p36 := hc36
    try simp only [PB] at p36
    have hi2 : i = h.ws.length := by omega
    subst hi2
    have hal : selN (allowedB h im) h.ws.length = allowedL h im := rfl
    rw [hal] at e10 ⊢
    have hnl : (allowedL h im).length < 4000000 := Nat.lt_of_le_of_lt (selN_length _ _) hw
    have hnset : setP h.ws.length (-1) (allowedL h im) = true := setP_sel (Nat.le_refl _)
    have hse : setsE h [allowedL h im] = 0 := by
      unfold setsE
      rw [if_neg (by omega), if_pos (by simpa using hnset)]
    have hge : greatL h (allowedL h im) = newestC h im := if_neg (by omega)
    refine wpT_exit rfl ?_
    refine wpT_seq ?_
    refine wpT_region (by kernel_rfl) (fun K hK => ?_)
    simp only [↓SP, SZ, ↓reduceIte, reduceCtorEq, nE, nA, nL, nT, sec_neq, sec_eql, hist_cs, wr_cs, e2, e10, hge, hse, hc36]
    refine Pu.freeze (refGreat h (allowedL h im) hs hnl) 1 (LendL.cons (.refl _) (LendL.cons (Lend.sl0 (E := 3) (s := 1) (by simp only [↓SP, SZ, ↓reduceIte, reduceCtorEq, nE, nA, nL, nT, sec_neq, sec_eql]) (by simp) (int_okc _)) LendL.nil)) ?_
    simp only [↓SP, SZ, ↓reduceIte, reduceCtorEq, nE, nA, nL, nT, sec_neq, sec_eql, hist_cs, wr_cs, e2, e10, hge, hse, hc36]
    refine hK _ _ ?_
    clear hK K
    refine wpT_seq ?_
    refine wpT_region (by kernel_rfl) (fun K hK => ?_)
    simp only [↓SP, SZ, ↓reduceIte, reduceCtorEq, nE, nA, nL, nT, sec_neq, sec_eql, hist_cs, wr_cs, hc36]
    refine hK _ _ ?_
    clear hK K
    refine wpT_ret ⟨.inr rfl, ?_⟩
    show optK (resA _ _ _ [.tmp 4, .tmp 5, .tmp 6]) _
    simp only [SRO, ↓SP, SZ, ↓reduceIte, reduceCtorEq, nE, nA, nL, nT, sec_neq, sec_eql, hist_cs, wr_cs, hc36]
    rw [hx1, hx2, e0]
    exact .refl _
 ·
  simp only [Bool.not_true, Bool.not_false] at hg27
  have p27 := hg27
  try simp only [PB] at p27
  have hj : judgeE h im ≠ 0 := by simpa using p27
  have hx1 : newL h im = [] := if_pos (.inl hj)
  have hx2 : findB h im = false := by rw [findB, decide_eq_false hj]; rfl
  simp only [↓SP, SZ, ↓reduceIte, reduceCtorEq, nE, nA, nL, nT, sec_neq, sec_eql, hist_cs, wr_cs, hg27]
  refine hK _ _ ?_
  clear hK K
  refine wpT_ifT (by simp only [↓SP, SZ, ↓reduceIte, reduceCtorEq, nE, nA, nL, nT, sec_neq, sec_eql, hist_cs, wr_cs, hg27]) ?_
  have hx2 : findB h im = false := by first | exact hx2 | simpa using p30
  have hx1 : newL h im = [] := by first | exact hx1 | (refine if_pos (.inr ?_); have := hx2; rw [findB, decide_eq_true e0, Bool.true_and] at this; simpa using this)
  refine wpT_seq ?_
  refine wpT_region (by kernel_rfl) (fun K hK => ?_)
  simp only [↓SP, SZ, ↓reduceIte, reduceCtorEq, nE, nA, nL, nT, sec_neq, sec_eql, hist_cs, wr_cs, hg27]
  refine hK _ _ ?_
  clear hK K
  refine wpT_ret ⟨.inr rfl, ?_⟩
  show optK (resA _ _ _ [.tmp 4, .tmp 5, .tmp 6]) _
  simp only [SRO, ↓SP, SZ, ↓reduceIte, reduceCtorEq, nE, nA, nL, nT, sec_neq, sec_eql, hist_cs, wr_cs, hg27]
  rw [hx1, hx2]
  exact Lend.tupL (LendL.cons .nil0 (LendL.cons (.refl _) (LendL.cons (.refl _) LendL.nil)))
theorem c3 (h : Hist) (im : List (List Sec)) (hs : h.ok) (hi : imOk im) : Pu Tryz.prog (.fn (.func 3) [] []) [h.av, imgAV im] (B true) := by
 refine pu_func Tryz.func3 rfl (by kernel_rfl) (by show _ ≤ 81; simp only [LN]; decide) (by simp only [IDS, tab_idf]) (by simp only [IDS, tab_idf]) (by simp only [IDS, tab_idf]) ?_
 rw [Tryz.ntmps3]
 refine wpT_seq ?_
 refine wpT_region (by kernel_rfl) (fun K hK => ?_)
 simp only [↓SP, SZ, ↓reduceIte, reduceCtorEq, nE, nA, nL, nT, sec_neq, sec_eql, bool_eql]
 refine hK _ _ ?_
 clear hK K
 refine wpT_seq ?_
 refine wpT_seq ?_
 refine wpT_region (by kernel_rfl) (fun K hK => ?_)
 simp only [↓SP, SZ, ↓reduceIte, reduceCtorEq, nE, nA, nL, nT, sec_neq, sec_eql, bool_eql]
 refine Pu.call (c4 h im hs hi) ?_
 simp only [↓SP, SZ, ↓reduceIte, reduceCtorEq, nE, nA, nL, nT, sec_neq, sec_eql, bool_eql]
 refine hK _ _ ?_
 clear hK K
 refine wpT_if (by rfl) (fun hc20 => ?_) (fun hc20 => ?_)
 ·
  have p20 := hc20
  try simp only [PB] at p20
  refine wpT_seq ?_
  refine wpT_region (by kernel_rfl) (fun K hK => ?_)
  simp only [↓SP, SZ, ↓reduceIte, reduceCtorEq, nE, nA, nL, nT, sec_neq, sec_eql, bool_eql, hc20]
  refine Pu.call awakeF ?_
  simp only [↓SP, SZ, ↓reduceIte, reduceCtorEq, nE, nA, nL, nT, sec_neq, sec_eql, bool_eql, hc20]
  refine hK _ _ ?_
  clear hK K
  refine wpT_ret ⟨.inr rfl, ?_⟩
  show optK (resA _ _ _ [.tmp 4]) _
  simp only [SRO, ↓SP, SZ, ↓reduceIte, reduceCtorEq, nE, nA, nL, nT, sec_neq, sec_eql, bool_eql, hc20]
  exact .refl _
 ·
  have p20 := hc20
  try simp only [PB] at p20
  have hf : fewH h = true ∧ fewI im = true := by simpa using p20
  have hsm := few_sm hf.1
  obtain ⟨hl, hm⟩ := few_im hf.2
  have l1 : (findL h im).length < 4000000 := by
    unfold findL
    split
    · simp
    · exact Nat.lt_of_le_of_lt (selN_length _ _) hsm.2.1
  have l2 : (newL h im).length < 4000000 := by
    unfold newL
    split
    · simp
    · exact Nat.lt_of_le_of_lt (selN_length _ _) hsm.2.1
  refine wpT_skip ?_
  refine wpT_seq ?_
  refine wpT_region (by kernel_rfl) (fun K hK => ?_)
  simp only [↓SP, SZ, ↓reduceIte, reduceCtorEq, nE, nA, nL, nT, sec_neq, sec_eql, bool_eql, hc20]
  refine Pu.call (c6 h im hsm hl hm) ?_
  simp only [↓SP, SZ, ↓reduceIte, reduceCtorEq, nE, nA, nL, nT, sec_neq, sec_eql, bool_eql, hc20]
  refine hK _ _ ?_
  clear hK K
  refine wpT_seq ?_
  refine wpT_region (by kernel_rfl) (fun K hK => ?_)
  simp only [↓SP, SZ, ↓reduceIte, reduceCtorEq, nE, nA, nL, nT, sec_neq, sec_eql, bool_eql, hc20]
  refine Pu.call (refFind h im hsm hl) ?_
  simp only [↓SP, SZ, ↓reduceIte, reduceCtorEq, nE, nA, nL, nT, sec_neq, sec_eql, bool_eql, hc20]
  refine hK _ _ ?_
  clear hK K
  refine wpT_seq ?_
  refine wpT_region (by kernel_rfl) (fun K hK => ?_)
  simp only [↓SP, SZ, ↓reduceIte, reduceCtorEq, nE, nA, nL, nT, sec_neq, sec_eql, bool_eql, hc20]
  refine Pu.call (c8 h im hsm hl hm) ?_
  simp only [↓SP, SZ, ↓reduceIte, reduceCtorEq, nE, nA, nL, nT, sec_neq, sec_eql, bool_eql, hc20]
  refine hK _ _ ?_
  clear hK K
  refine wpT_seq ?_
  refine wpT_region (by kernel_rfl) (fun K hK => ?_)
  simp only [↓SP, SZ, ↓reduceIte, reduceCtorEq, nE, nA, nL, nT, sec_neq, sec_eql, bool_eql, hc20]
  refine Pu.call (refNewest h im hsm hl) ?_
  simp only [↓SP, SZ, ↓reduceIte, reduceCtorEq, nE, nA, nL, nT, sec_neq, sec_eql, bool_eql, hc20]
  refine hK _ _ ?_
  clear hK K
  refine wpT_seq ?_
  refine wpT_region (by kernel_rfl) (fun K hK => ?_)
  simp only [↓SP, SZ, ↓reduceIte, reduceCtorEq, nE, nA, nL, nT, sec_neq, sec_eql, bool_eql, hc20]
  refine Pu.call (c10 (findL h im) (findL h im) (by omega)) ?_
  simp only [↓SP, SZ, ↓reduceIte, reduceCtorEq, nE, nA, nL, nT, sec_neq, sec_eql, bool_eql, hc20]
  refine Pu.call (c10 (newL h im) (newL h im) (by omega)) ?_
  simp only [↓SP, SZ, ↓reduceIte, reduceCtorEq, nE, nA, nL, nT, sec_neq, sec_eql, bool_eql, hc20]
  refine Pu.call awakeF ?_
  simp only [↓SP, SZ, ↓reduceIte, reduceCtorEq, nE, nA, nL, nT, sec_neq, sec_eql, bool_eql, hc20]
  refine hK _ _ ?_
  clear hK K
  refine wpT_ret ⟨.inr rfl, ?_⟩
  show optK (resA _ _ _ [.tmp 4]) _
  simp only [SRO, ↓SP, SZ, ↓reduceIte, reduceCtorEq, nE, nA, nL, nT, sec_neq, sec_eql, bool_eql, hc20]
  exact .refl _
end Go.Proofs.YtfdfkmcplhloaaaGreat
end

section
set_option linter.unusedSimpArgs false
set_option linter.unusedVariables false
namespace Go.Proofs.YtfdfkmcplhloaaaGreat
open Go.Proofs
open Nat renaming reduceEqDiff → nE, reduceAdd → nA, reduceLeDiff → nL, reduceLT → nT
open Go.ChangeShapes Go.WideShapes Go.ChangeAt Go.RowKit
theorem fm_own : ownKnob Tryz.prog.godebug = none := by kernel_rfl
theorem fm_laid : laidOutB Tryz.prog = true := by kernel_rfl
theorem frozen_of_heap {W W' : World} (h : ∀ i, i < W.heap.size → W'.heap[i]? = W.heap[i]?) : ∀ a : Addr, a.block < W.heap.size → W'.frozen? a = W.frozen? a := fun a ha => by
  unfold World.frozen?
  rw [h _ ha]
theorem consistencyFinds_types : ∀ t ∈ [26, 28], Tryz.prog.readableRec t = true ∧ t < Tryz.prog.types.size := by
  intro t ht
  simp only [List.mem_cons, List.not_mem_nil, or_false] at ht
  rcases ht with rfl | rfl <;> exact ⟨by kernel_rfl, of_decide_eq_true (by kernel_rfl)⟩
set_option maxRecDepth 100000 in
theorem consistencyFinds_contract (H : Type) (enc : TypeId × Value → H) (W : World) (base : Nat) (args : Array Value) (ds gs : List (DataW H)) (before : List MemPlace)
    (hval : ∀ (j : Nat) t v, Tryz.f3.params[j]? = some t → args[j]? = some v → Value.okWide Tryz.prog W .any base t v)
    (hW : DataW.Whole enc Tryz.prog Tryz.f3.params.toList Rows.consistencyFindsSpec.vars false W args.toList ds gs before)
    (hz : (DataW.weightsEach Tryz.prog (Tryz.f3.params.toList ++ Rows.consistencyFindsSpec.plain.varTypes Tryz.prog) (ds ++ gs)).all (· ≤ reachBytes) = true) :
    Calls Tryz.prog 3 args W fun e W' => ∃ v, e = .returned v ∧ Rows.consistencyFindsSpec.post enc Tryz.prog Tryz.f3 false true false false W args v W' := by
  have hW' := hW
  have hlt := hW.lt
  obtain ⟨p, q, hA0, hV, rfl, hfz, hnd⟩ := hW
  have hA : DataW.TrodAll enc Tryz.prog W 0 (fun _ => true) true Tryz.f3.params.toList args.toList ds p := hA0
  rw [Tryz.params3] at hA hval hz
  have hAs := hA
  obtain ⟨v0, vs0, d0, ds0, p0, q0, hargs, rfl, rfl, h0, r0⟩ := trodAll_cons hA
  obtain ⟨v1, vs1, d1, ds1, p1, q1, rfl, rfl, rfl, h1, r1⟩ := trodAll_cons r0
  obtain ⟨rfl, rfl, rfl⟩ := trodAll_nil r1
  obtain rfl : args = #[v0, v1] := by cases args; simp_all
  obtain ⟨rfl, rfl⟩ := trodVars_none hV
  have hw0 : ∀ n ∈ d0.weights Tryz.prog 26, n ≤ reachBytes := fun n hn => by simpa using List.all_eq_true.1 hz n (DataW.weights_mem_each (j := 0) rfl rfl n hn)
  have hw1 : ∀ n ∈ d1.weights Tryz.prog 28, n ≤ reachBytes := fun n hn => by simpa using List.all_eq_true.1 hz n (DataW.weights_mem_each (j := 1) rfl rfl n hn)
  obtain ⟨a0, g0, r0'⟩ := dec_agg dec_hist (fun a => ⟨_, rfl⟩) (agg_of_wide Tryz.underlying26 (hval 0 _ v0 rfl rfl)) h0 hw0
  obtain ⟨a1, g1, r1'⟩ := dec_one dec_img (fun a => rfl) (one_of_wide Tryz.underlying28 (hval 1 _ v1 rfl rfl)) h1 hw1
  have hc := calls_of_pu (W := W) (cargs := #[v0, v1]) (c3 a0 a1 g0 ⟨g1.1, fun l hl => (g1.2 l hl).1⟩) Tryz.func3 rfl (by kernel_rfl) ((VRelL.one r0').cons1 (VRelL.one r1'))
  refine hc.mono fun e W' ⟨he, k1, k2, k3, k4⟩ => ?_
  subst he
  refine ⟨_, rfl, post_of_kept (pa := (p0 ++ (p1 ++ []))) (pv := []) hW' (fun _ _ _ => trodAll_cons_mk (shut_bool Tryz.underlying4 _) trodAll_mk0) (fun sp hs => ?_) (fun _ _ => rfl) (by simp) (keptBut_of_heap k1 k2 k4) (frozen_of_heap k4) (ok_one (by kernel_rfl) rfl (okWide_bool_mk Tryz.underlying4 _))⟩
  exact trodAll_stays fm_laid k3 k4 consistencyFinds_types (fun x hx => hlt x (by simpa using hx)) (fun x hx => hs x (by simpa using hx)) hAs
set_option maxRecDepth 100000 in
theorem consistencyFinds_lifted (os : Os) (started : os.Started) (H : Type) (enc : TypeId × Value → H) :
    ReturnsInHanded {} Tryz.checked os 3 .any (Rows.consistencyFindsSpec.pre6 enc Tryz.prog Tryz.f3 Rows.consistencyFindsRow.domain false) (Rows.consistencyFindsSpec.post enc Tryz.prog Tryz.f3 false true false false) := by
  refine returnsInHanded_of_change_sized (C := Tryz.checked) fm_own started (by kernel_rfl) Tryz.func3
    (ChangeSpec.witness6 (enc := enc) (C := Tryz.checked) false ⟨#[], #[.agg #[.slice none 0 0, .slice none 0 0, .slice none 0 0], .slice none 0 0], []⟩ 8 (by kernel_rfl) (by kernel_rfl) (by kernel_rfl) (by kernel_rfl)) ?_
  intro W base args ds gs before hval hW _ hsz _
  exact consistencyFinds_contract H enc W base args ds gs before hval hW hsz
theorem consistencyFinds_holds : Rows.ConsistencyFindsSaid :=
  OpenClaim.holds_of_wide 3 Tryz.f3 rfl rfl rfl rfl rfl rfl rfl ⟨rfl, rfl, rfl, rfl, rfl⟩ rfl rfl rfl rfl rfl (by kernel_rfl) Tryz.func3 (by kernel_rfl)
    (of_decide_eq_true (by kernel_rfl)) (by unfold Func.isWrapper; first | (rw [if_pos (by decide +kernel)]; kernel_rfl) | (rw [if_neg (by decide +kernel)]; exact ⟨rfl, rfl⟩))
    (fun os started H enc _ => consistencyFinds_lifted os started H enc)
end Go.Proofs.YtfdfkmcplhloaaaGreat
end
