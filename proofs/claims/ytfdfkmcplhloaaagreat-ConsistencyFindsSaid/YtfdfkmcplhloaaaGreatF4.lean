/- Walks: Find, Newest, Conflict.
  Walks: Newest.
  Walks: a copy of a history; a history with one more write.
  Walks: searches in lists.
  Walks: the reference's check of histories; small histories and images.
  Walks: the reference's check of histories.
  Walks: the reference's contents of writes; whether a history is distinct.
  Walks: the reference's sizes, authors, sets.
  Walks: the reference's table of the order of writes. -/
import Derived.Test.YtfdfkmcplhloaaaGreatF3
section
set_option linter.unusedSimpArgs false
set_option linter.unusedVariables false
namespace Go.Proofs.YtfdfkmcplhloaaaGreat
open Go.Proofs
open Nat renaming reduceEqDiff → nE, reduceAdd → nA, reduceLeDiff → nL, reduceLT → nT
set_option maxRecDepth 10000
def alP (h : Hist) (im : List (List Sec)) (n : Int) (c : Ct) : Bool := match assoc ⟨c.vol, c.sec, imAt im c.vol c.sec⟩ (ctsH 0 h.ws) with
  | some a => decide (n ≤ a)
  | none => false
theorem c50 (h : Hist) (im : List (List Sec)) (n : Int) (v k : Nat) (d : Sec) (hv : v < im.length) (hk : k < im[v].length) : CallV Tryz.prog (.fn (.func 50) [] [.ptr 0 1 0 0, .ptr 1 1 0 0]) [(Ct.mk v k d).av] (Hp.of [(0, .arr 52 1 [judgeAV h im]), (1, .arr 3 1 [I n])] 2) fun r h' =>
    r = B (alP h im n ⟨v, k, d⟩) ∧ h'.get 0 = some (.arr 52 1 [judgeAV h im]) ∧ h'.get 1 = some (.arr 3 1 [I n]) := by
 refine callV_func Tryz.func50 rfl (by kernel_rfl) (by show _ ≤ 40; simp only [LN]; decide) ?_
 rw [Tryz.ntmps50]
 have hg := at_map (f := fun l : List Sec => AV.lst (l.map Sec.av)) hv
 have hg2 := at_map (f := Sec.av) hk
 have hlk := lookM (ctsH 0 h.ws) ⟨v, k, im[v][k]⟩
 have hat : imAt im (v : Int) (k : Int) = im[v][k] := by simp [imAt, hv, hk]
 have hal : alP h im n ⟨v, k, d⟩ = match assoc ⟨(v : Int), (k : Int), im[v][k]⟩ (ctsH 0 h.ws) with
   | some a => decide (n ≤ a)
   | none => false := by rw [alP, hat]
 simp only [Ct.av] at hlk
 refine wpT_seq ?_
 refine wpT_region (by kernel_rfl) (fun K hK => ?_)
 simp only [↓SP, SZ, ↓reduceIte, reduceCtorEq, nE, nA, nL, nT, ct_okc, ct_isAgg, ct_cells, Ct.av]
 refine hK _ _ ?_
 clear hK K
 refine wpT_seq ?_
 refine wpT_drawn [(0, 14), (1, 14), (2, 14), (3, 14), (4, 14), (5, 14), (6, 14), (7, 14), (8, 14), (9, 14), (10, 14), (11, 14), (12, 14), (13, 14)] mixed (by kernel_rfl) (m := 16) rfl (fun K hK => ?_)
 simp only [↓SP, SZ, ↓reduceIte, reduceCtorEq, nE, nA, nL, nT, ct_okc, ct_isAgg, ct_cells, judgeAV, imgAV, hg, hg2]
 refine hK _ _ ?_
 clear hK K
 refine wpT_seq ?_
 refine wpT_drawn [] mixed (by kernel_rfl) (m := 14) rfl (fun K hK => ?_)
 simp only [↓SP, SZ, ↓reduceIte, reduceCtorEq, nE, nA, nL, nT, ct_okc, ct_isAgg, ct_cells, judgeAV, imgAV, writersAV, Sec.av, lk_cmap mp73, hlk]
 refine hK _ _ ?_
 clear hK K
 refine wpT_seq ?_
 refine wpT_region (by kernel_rfl) (fun K hK => ?_)
 simp only [↓SP, SZ, ↓reduceIte, reduceCtorEq, nE, nA, nL, nT, ct_okc, ct_isAgg, ct_cells]
 refine guardO_split (fun hg35 => ?_) (fun hg35 => ?_)
 ·
  have p35 := hg35
  try simp only [PB] at p35
  simp only [↓SP, SZ, ↓reduceIte, reduceCtorEq, nE, nA, nL, nT, ct_okc, ct_isAgg, ct_cells, hg35]
  refine hK _ _ ?_
  clear hK K
  refine wpT_ret ⟨.inr rfl, ?_⟩
  show optK (resA _ _ _ [.tmp 4]) _
  simp only [SRO, ↓SP, SZ, ↓reduceIte, reduceCtorEq, nE, nA, nL, nT, ct_okc, ct_isAgg, ct_cells, hg35]
  rw [hal]
  cases hx : assoc (⟨(v : Int), (k : Int), im[v][k]⟩ : Ct) (ctsH 0 h.ws) with
  | none => rw [hx] at p35; simp at p35; try simp only [↓SP, SZ, ↓reduceIte, reduceCtorEq, nE, nA, nL, nT, ct_okc, ct_isAgg, ct_cells, judgeAV, imgAV, writersAV]
  | some a => rw [hx] at p35; simp at p35; try simp only [↓SP, SZ, ↓reduceIte, reduceCtorEq, nE, nA, nL, nT, ct_okc, ct_isAgg, ct_cells, judgeAV, imgAV, writersAV, Option.getD_some]
 ·
  simp only [Bool.not_true, Bool.not_false] at hg35
  have p35 := hg35
  try simp only [PB] at p35
  simp only [↓SP, SZ, ↓reduceIte, reduceCtorEq, nE, nA, nL, nT, ct_okc, ct_isAgg, ct_cells, hg35]
  refine hK _ _ ?_
  clear hK K
  refine wpT_ret ⟨.inr rfl, ?_⟩
  show optK (resA _ _ _ [.tmp 4]) _
  simp only [SRO, ↓SP, SZ, ↓reduceIte, reduceCtorEq, nE, nA, nL, nT, ct_okc, ct_isAgg, ct_cells, hg35]
  rw [hal]
  cases hx : assoc (⟨(v : Int), (k : Int), im[v][k]⟩ : Ct) (ctsH 0 h.ws) with
  | none => rw [hx] at p35; simp at p35; try simp only [↓SP, SZ, ↓reduceIte, reduceCtorEq, nE, nA, nL, nT, ct_okc, ct_isAgg, ct_cells, judgeAV, imgAV, writersAV]
  | some a => rw [hx] at p35; simp at p35; try simp only [↓SP, SZ, ↓reduceIte, reduceCtorEq, nE, nA, nL, nT, ct_okc, ct_isAgg, ct_cells, judgeAV, imgAV, writersAV, Option.getD_some]
theorem al_call {h : Hist} {im : List (List Sec)} {n : Int} {v k : Nat} {d : Sec} (hv : v < im.length) (hk : k < im[v].length) {H : Hp} (h0 : H.get 0 = some (.arr 52 1 [judgeAV h im])) (h1 : H.get 1 = some (.arr 3 1 [I n])) {K : AV → Hp → Prop}
    (hK : ∀ H' : Hp, H'.nx = H.nx → (∀ j, H'.get j = H.get j) → K (B (alP h im n ⟨v, k, d⟩)) H') : CallV Tryz.prog (.fn (.func 50) [] [.ptr 0 1 0 0, .ptr 1 1 0 0]) [(Ct.mk v k d).av] H K := by
  let lo : List Loc := [⟨0, 0, .arr 52 1 [judgeAV h im], .arr 52 1 [judgeAV h im]⟩, ⟨1, 1, .arr 3 1 [I n], .arr 3 1 [I n]⟩]
  have hrn : ∀ x ∈ lo, RnO (Loc.has lo) (Loc.at lo) x.o x.o' := by
    intro y hy
    simp only [lo, List.mem_cons, List.not_mem_nil, or_false] at hy
    rcases hy with rfl | rfl
    · exact rn_judge _ _ _ _
    · exact .arr _ _ _ _ (RnL.idf (by simp only [IDF, and_tt]))
  refine CallV.local lo 2 (c50 h im n v k d hv hk) (by rfl) (by simp [lo]) (by simpa [lo] using ⟨h0, h1⟩) hrn ?_ ?_ ?_
  · exact Rn.fnL RnL.nil (RnL.cons (.ptr 0 1 0 0 (by simp [lo, Loc.has])) (RnL.cons (.ptr 1 1 0 0 (by simp [lo, Loc.has])) RnL.nil))
  · exact RnL.idf (by simp only [ct_idf, all_cons, all_nil, and_tt])
  · rintro v0 h2 ⟨rfl, a0, a1⟩
    refine ⟨_, lo, rfl, rfl, fun x hx => ⟨?_, hrn x hx⟩, .idf _ (.bool _), hK _ rfl fun j => ?_⟩
    · simp only [lo, List.mem_cons, List.not_mem_nil, or_false] at hx
      rcases hx with rfl | rfl
      · exact a0
      · exact a1
    · by_cases e0 : j = 0
      · subst e0; exact h0.symm
      · by_cases e1 : j = 1
        · subst e1; exact h1.symm
        · simp only [lo, List.map_cons, List.map_nil, upd_cons, upd_nil, if_neg e0, if_neg e1]
def alI (h : Hist) (im : List (List Sec)) (n : Int) (cs : List Ct) (H : Hp) : Prop := 2 ≤ H.nx ∧ H.get 0 = some (.arr 52 1 [judgeAV h im]) ∧ H.get 1 = some (.arr 3 1 [I n]) ∧ (wrAt h.ws n).cts.all (alP h im n) = cs.all (alP h im n)
theorem ct_in {h : Hist} {im : List (List Sec)} (eh : histE h = 0) (hz : sizesOf im = h.sizes) {w : Wr} (hw : w ∈ h.ws) {c : Ct} (hc : c ∈ w.cts) : ∃ (v k : Nat) (hv : v < im.length), k < im[v].length ∧ c = ⟨v, k, c.dat⟩ := by
  have hf := fitsAll_mem (hist_ok eh).2.2.1 _ hw
  obtain ⟨f1, f2, f3, f4, f5⟩ := fitsE_ok hf
  have hm := mem_cts.1 hc
  obtain ⟨g1, g2⟩ := contW_ge hm
  rw [contW, if_pos ⟨g1, g2⟩] at hm
  have hlt := (List.getElem?_eq_some_iff.1 hm).1
  have hl : (sizesOf im).length = im.length := by simp [sizesOf]
  have hvl : c.vol.toNat < im.length := by rw [← hl, hz]; omega
  have hk2 : (h.sizes).getD w.vol.toNat 0 = (im[c.vol.toNat].length : Int) := by
    rw [← hz, g1]
    simp [sizesOf, List.getD_eq_getElem?_getD, hvl]
  refine ⟨c.vol.toNat, c.sec.toNat, hvl, by omega, ?_⟩
  cases c
  simp only [Ct.mk.injEq, and_true]
  simp only at g1 g2
  omega
theorem c24 (h : Hist) (im : List (List Sec)) (hs : h.sm) (e : judgeE h im = 0) (n : Nat) (hn : n < h.ws.length) : Pu Tryz.prog (.fn (.func 24) [] []) [judgeAV h im, I n] (B (allowedB h im n)) := by
 refine pu_func Tryz.func24 rfl (by kernel_rfl) (by show _ ≤ 15; simp only [LN]; decide) (by simp only [IDS, chkAV_idf, ct_idf, judge_idf, judgeR_idf]) (by simp only [IDS, chkAV_idf, ct_idf, judge_idf, judgeR_idf]) (by simp only [IDS, chkAV_idf, ct_idf, judge_idf, judgeR_idf]) ?_
 rw [Tryz.ntmps24]
 obtain ⟨eh, hz, hd⟩ := judge_ok e
 have hg := at_map (f := Wr.av) hn
 have hm := List.getElem_mem hn
 have hwn : wrAt h.ws (n : Int) = h.ws[n] := wrAt_eq (List.getElem?_eq_getElem hn)
 obtain ⟨f1, f2, f3, f4, f5⟩ := fitsE_ok (fitsAll_mem (hist_ok eh).2.2.1 _ hm)
 have hvl : (h.ws[n]).vol.toNat < h.sizes.length := by omega
 have f6 := sizesE_le (hist_ok eh).1 _ (List.getElem_mem hvl)
 have f7 : h.sizes.getD (h.ws[n]).vol.toNat 0 = h.sizes[(h.ws[n]).vol.toNat] := by simp [hvl]
 have jc1 : (judgeAV h im).cells = [judgeAV h im] := rfl
 have jc2 : (judgeAV h im).okc = true := rfl
 have jc3 : (judgeAV h im).isAgg = false := rfl
 have hall : allowedB h im n = (wrAt h.ws n).cts.all (alP h im n) := rfl
 refine wpT_seq ?_
 refine wpT_region (by kernel_rfl) (fun K hK => ?_)
 simp only [↓SP, SZ, ↓reduceIte, reduceCtorEq, nE, nA, nL, nT, ct_okc, ct_isAgg, ct_cells, jc1, jc2, jc3]
 refine hK _ _ ?_
 clear hK K
 refine wpT_seq ?_
 refine wpT_drawB 9 [] mixed (by kernel_rfl) (m := 11) rfl (fun K hK => ?_)
 simp only [↓SP, SZ, ↓reduceIte, reduceCtorEq, nE, nA, nL, nT, ct_okc, ct_isAgg, ct_cells, jc1, jc2, jc3, judgeAV, hg]
 refine CallV.mono (c49 h.ws[n] (hs.2.2.2 _ hm) f4 (by omega) (.fn (.func 50) [] [.ptr 0 1 0 0, .ptr 1 1 0 0]) (alI h im n) (fun _ => allowedB h im n = false) _ ⟨by simp only [↓SP, SZ, ↓reduceIte, reduceCtorEq, nE, nA, nL, nT, ct_okc, ct_isAgg, ct_cells], by simp only [↓SP, SZ, ↓reduceIte, reduceCtorEq, nE, nA, nL, nT, ct_okc, ct_isAgg, ct_cells]; rfl, by simp only [↓SP, SZ, ↓reduceIte, reduceCtorEq, nE, nA, nL, nT, ct_okc, ct_isAgg, ct_cells], by rw [hwn]⟩ ?_ ?_) ?_
 · rintro cs a b ⟨q0, q1, q2, q3⟩ hn hab
   exact ⟨by omega, by rw [hab _ (by omega)]; exact q1, by rw [hab _ (by omega)]; exact q2, q3⟩
 · rintro c cs h' ⟨q0, q1, q2, q3⟩ hmem
   obtain ⟨v, k, hv, hk, hc⟩ := ct_in eh hz hm hmem
   rw [hc]
   rw [hc] at q3
   refine al_call hv hk q1 q2 fun H' hnx hget => ⟨⟨_, rfl, ?_⟩, by omega, fun j _ _ => hget j⟩
   rw [List.all_cons] at q3
   cases hp : alP h im n ⟨v, k, c.dat⟩ with
   | true =>
     rw [hp, Bool.true_and] at q3
     exact .inl ⟨rfl, by omega, by rw [hget]; exact q1, by rw [hget]; exact q2, q3⟩
   | false =>
     rw [hp, Bool.false_and] at q3
     exact .inr ⟨rfl, hall.trans q3⟩
 rintro v h5 hv
 obtain ⟨bb, rfl, hb⟩ : ∃ bb, v = .bool bb ∧ bb = allowedB h im n := by
   rcases hv with ⟨rfl, _, _, _, hv⟩ | ⟨rfl, hv⟩
   · exact ⟨true, rfl, by rw [hall, hv]; rfl⟩
   · exact ⟨false, rfl, hv.symm⟩
 simp only [↓SP, SZ, ↓reduceIte, reduceCtorEq, nE, nA, nL, nT, ct_okc, ct_isAgg, ct_cells, jc1, jc2, jc3, judgeAV, hg]
 refine hK _ _ ?_
 clear hK K
 refine wpT_ret ⟨.inr rfl, ?_⟩
 show optK (resA _ _ _ [.tmp 4]) _
 simp only [SRO, ↓SP, SZ, ↓reduceIte, reduceCtorEq, nE, nA, nL, nT, ct_okc, ct_isAgg, ct_cells, jc1, jc2, jc3]
 rw [hb]
 exact .refl _
def findL (h : Hist) (im : List (List Sec)) : List Int := if judgeE h im ≠ 0 ∨ (confC h im).isSome = true then [] else leastC h im
def findB (h : Hist) (im : List (List Sec)) : Bool := decide (judgeE h im = 0) && !(confC h im).isSome
def newL (h : Hist) (im : List (List Sec)) : List Int := if judgeE h im ≠ 0 ∨ (confC h im).isSome = true then [] else newestC h im
def conW (h : Hist) (im : List (List Sec)) : Wr := if judgeE h im ≠ 0 then wr0 else candW h im
def conB (h : Hist) (im : List (List Sec)) : Bool := decide (judgeE h im = 0) && (confC h im).isSome
theorem c6 (h : Hist) (im : List (List Sec)) (hs : h.sm) (hl : im.length < 4000000) (hm : ∀ l ∈ im, l.length < 4000000) : Pu Tryz.prog (.fn (.func 6) [] []) [h.av, imgAV im] (.tup [.lst ((findL h im).map I), B (findB h im), I (judgeE h im)]) := by
 refine pu_func Tryz.func6 rfl (by kernel_rfl) (by show _ ≤ 35; simp only [LN]; decide) (by simp only [IDS, chkAV_idf, ct_idf, judge_idf, judgeR_idf]) (by simp only [IDS, chkAV_idf, ct_idf, judge_idf, judgeR_idf]) (by simp only [IDS, chkAV_idf, ct_idf, judge_idf, judgeR_idf]) ?_
 rw [Tryz.ntmps6]
 refine wpT_seq ?_
 refine wpT_region (by kernel_rfl) (fun K hK => ?_)
 simp only [↓SP, SZ, ↓reduceIte, reduceCtorEq, nE, nA, nL, nT, ct_okc, ct_isAgg, ct_cells]
 refine hK _ _ ?_
 clear hK K
 refine wpT_seq ?_
 refine wpT_region (by kernel_rfl) (fun K hK => ?_)
 simp only [↓SP, SZ, ↓reduceIte, reduceCtorEq, nE, nA, nL, nT, ct_okc, ct_isAgg, ct_cells]
 refine Pu.call (c20 h im hs hl hm) ?_
 simp only [↓SP, SZ, ↓reduceIte, reduceCtorEq, nE, nA, nL, nT, ct_okc, ct_isAgg, ct_cells]
 refine hK _ _ ?_
 clear hK K
 refine wpT_seq ?_
 refine wpT_seq ?_
 refine wpT_region (by kernel_rfl) (fun K hK => ?_)
 simp only [↓SP, SZ, ↓reduceIte, reduceCtorEq, nE, nA, nL, nT, ct_okc, ct_isAgg, ct_cells]
 refine hK _ _ ?_
 clear hK K
 refine wpT_if (by rfl) (fun hc19 => ?_) (fun hc19 => ?_)
 ·
  have p19 := hc19
  try simp only [PB] at p19
  have hx1 : findL h im = [] := if_pos (.inl p19)
  have hx2 : findB h im = false := by rw [findB, decide_eq_false p19]; rfl
  refine wpT_seq ?_
  refine wpT_region (by kernel_rfl) (fun K hK => ?_)
  simp only [↓SP, SZ, ↓reduceIte, reduceCtorEq, nE, nA, nL, nT, ct_okc, ct_isAgg, ct_cells, hc19]
  refine hK _ _ ?_
  clear hK K
  refine wpT_ret ⟨.inr rfl, ?_⟩
  show optK (resA _ _ _ [.tmp 4, .tmp 5, .tmp 6]) _
  simp only [SRO, ↓SP, SZ, ↓reduceIte, reduceCtorEq, nE, nA, nL, nT, ct_okc, ct_isAgg, ct_cells, hc19]
  rw [hx1, hx2]
  exact Lend.tupL (LendL.cons .nil0 (LendL.cons (.refl _) (LendL.cons (.refl _) LendL.nil)))
 ·
  have p19 := hc19
  try simp only [PB] at p19
  have e0 : judgeE h im = 0 := by simpa using p19
  have hj : judgeR h im = judgeAV h im := if_neg (by omega)
  refine wpT_skip ?_
  refine wpT_seq ?_
  refine wpT_region (by kernel_rfl) (fun K hK => ?_)
  simp only [↓SP, SZ, ↓reduceIte, reduceCtorEq, nE, nA, nL, nT, ct_okc, ct_isAgg, ct_cells, hj, hc19]
  refine Pu.call (c21 h im hs e0) ?_
  simp only [↓SP, SZ, ↓reduceIte, reduceCtorEq, nE, nA, nL, nT, ct_okc, ct_isAgg, ct_cells, hj, hc19]
  refine hK _ _ ?_
  clear hK K
  refine wpT_seq ?_
  refine wpT_seq ?_
  refine wpT_region (by kernel_rfl) (fun K hK => ?_)
  simp only [↓SP, SZ, ↓reduceIte, reduceCtorEq, nE, nA, nL, nT, ct_okc, ct_isAgg, ct_cells, hc19]
  refine hK _ _ ?_
  clear hK K
  refine wpT_if (by rfl) (fun hc32 => ?_) (fun hc32 => ?_)
  ·
   have p32 := hc32
   try simp only [PB] at p32
   have hx1 : findL h im = [] := if_pos (.inr p32)
   have hx2 : findB h im = false := by rw [findB, p32]; simp
   refine wpT_seq ?_
   refine wpT_region (by kernel_rfl) (fun K hK => ?_)
   simp only [↓SP, SZ, ↓reduceIte, reduceCtorEq, nE, nA, nL, nT, ct_okc, ct_isAgg, ct_cells, hc19, hc32]
   refine hK _ _ ?_
   clear hK K
   refine wpT_ret ⟨.inr rfl, ?_⟩
   show optK (resA _ _ _ [.tmp 4, .tmp 5, .tmp 6]) _
   simp only [SRO, ↓SP, SZ, ↓reduceIte, reduceCtorEq, nE, nA, nL, nT, ct_okc, ct_isAgg, ct_cells, hc19, hc32]
   rw [hx1, hx2, e0]
   exact Lend.tupL (LendL.cons .nil0 (LendL.cons (.refl _) (LendL.cons (.refl _) LendL.nil)))
  ·
   have p32 := hc32
   try simp only [PB] at p32
   have hx1 : findL h im = leastC h im := if_neg (by simp [e0, p32])
   have hx2 : findB h im = true := by rw [findB, p32, decide_eq_true e0]; rfl
   have hcl : candL h im = leastC h im := if_neg (fun hu => by
     cases hk : unkC (ctsH 0 h.ws) im with
     | none => rw [hk] at hu; simp at hu
     | some c => rw [confC, hk] at p32; simp at p32)
   refine wpT_skip ?_
   refine wpT_seq ?_
   refine wpT_region (by kernel_rfl) (fun K hK => ?_)
   simp only [↓SP, SZ, ↓reduceIte, reduceCtorEq, nE, nA, nL, nT, ct_okc, ct_isAgg, ct_cells, hcl, hc19, hc32]
   refine hK _ _ ?_
   clear hK K
   refine wpT_ret ⟨.inr rfl, ?_⟩
   show optK (resA _ _ _ [.tmp 4, .tmp 5, .tmp 6]) _
   simp only [SRO, ↓SP, SZ, ↓reduceIte, reduceCtorEq, nE, nA, nL, nT, ct_okc, ct_isAgg, ct_cells, hc19, hc32]
   rw [hx1, hx2, e0]
   exact .refl _
theorem c16 (h : Hist) (im : List (List Sec)) (hs : h.sm) (hl : im.length < 4000000) (hm : ∀ l ∈ im, l.length < 4000000) : Pu Tryz.prog (.fn (.func 16) [] []) [h.av, imgAV im] (.tup [(conW h im).av, B (conB h im), I (judgeE h im)]) := by
 refine pu_func Tryz.func16 rfl (by kernel_rfl) (by show _ ≤ 32; simp only [LN]; decide) (by simp only [IDS, chkAV_idf, ct_idf, judge_idf, judgeR_idf]) (by simp only [IDS, chkAV_idf, ct_idf, judge_idf, judgeR_idf]) (by simp only [IDS, chkAV_idf, ct_idf, judge_idf, judgeR_idf]) ?_
 rw [Tryz.ntmps16]
 refine wpT_seq ?_
 refine wpT_region (by kernel_rfl) (fun K hK => ?_)
 simp only [↓SP, SZ, ↓reduceIte, reduceCtorEq, nE, nA, nL, nT, ct_okc, ct_isAgg, ct_cells]
 refine hK _ _ ?_
 clear hK K
 refine wpT_seq ?_
 refine wpT_region (by kernel_rfl) (fun K hK => ?_)
 simp only [↓SP, SZ, ↓reduceIte, reduceCtorEq, nE, nA, nL, nT, ct_okc, ct_isAgg, ct_cells]
 refine Pu.call (c20 h im hs hl hm) ?_
 simp only [↓SP, SZ, ↓reduceIte, reduceCtorEq, nE, nA, nL, nT, ct_okc, ct_isAgg, ct_cells]
 refine hK _ _ ?_
 clear hK K
 refine wpT_seq ?_
 refine wpT_seq ?_
 refine wpT_region (by kernel_rfl) (fun K hK => ?_)
 simp only [↓SP, SZ, ↓reduceIte, reduceCtorEq, nE, nA, nL, nT, ct_okc, ct_isAgg, ct_cells]
 refine hK _ _ ?_
 clear hK K
 refine wpT_if (by rfl) (fun hc19 => ?_) (fun hc19 => ?_)
 ·
  have p19 := hc19
  try simp only [PB] at p19
  have hx1 : conW h im = wr0 := if_pos p19
  have hx2 : conB h im = false := by rw [conB, decide_eq_false p19]; rfl
  refine wpT_seq ?_
  refine wpT_region (by kernel_rfl) (fun K hK => ?_)
  simp only [↓SP, SZ, ↓reduceIte, reduceCtorEq, nE, nA, nL, nT, ct_okc, ct_isAgg, ct_cells, hc19]
  refine hK _ _ ?_
  clear hK K
  refine wpT_ret ⟨.inr rfl, ?_⟩
  show optK (resA _ _ _ [.cell 4 45, .tmp 5, .tmp 6]) _
  simp only [SRO, ↓SP, SZ, ↓reduceIte, reduceCtorEq, nE, nA, nL, nT, ct_okc, ct_isAgg, ct_cells, hc19]
  rw [hx1, hx2]
  exact Lend.tupL (LendL.cons wrZ_lend (LendL.cons (.refl _) (LendL.cons (.refl _) LendL.nil)))
 ·
  have p19 := hc19
  try simp only [PB] at p19
  have e0 : judgeE h im = 0 := by simpa using p19
  have hj : judgeR h im = judgeAV h im := if_neg (by omega)
  have hx1 : conW h im = candW h im := if_neg (by omega)
  have hx2 : conB h im = (confC h im).isSome := by rw [conB, decide_eq_true e0, Bool.true_and]
  refine wpT_skip ?_
  refine wpT_seq ?_
  refine wpT_region (by kernel_rfl) (fun K hK => ?_)
  simp only [↓SP, SZ, ↓reduceIte, reduceCtorEq, nE, nA, nL, nT, ct_okc, ct_isAgg, ct_cells, hj, hc19]
  refine Pu.call (c21 h im hs e0) ?_
  simp only [↓SP, SZ, ↓reduceIte, reduceCtorEq, nE, nA, nL, nT, ct_okc, ct_isAgg, ct_cells, hj, hc19]
  refine hK _ _ ?_
  clear hK K
  refine wpT_seq ?_
  refine wpT_region (by kernel_rfl) (fun K hK => ?_)
  simp only [↓SP, SZ, ↓reduceIte, reduceCtorEq, nE, nA, nL, nT, ct_okc, ct_isAgg, ct_cells, hc19]
  refine hK _ _ ?_
  clear hK K
  refine wpT_ret ⟨.inr rfl, ?_⟩
  show optK (resA _ _ _ [.cell 4 45, .tmp 5, .tmp 6]) _
  simp only [SRO, ↓SP, SZ, ↓reduceIte, reduceCtorEq, nE, nA, nL, nT, ct_okc, ct_isAgg, ct_cells, hc19]
  rw [hx1, hx2, e0]
  exact .refl _
end Go.Proofs.YtfdfkmcplhloaaaGreat
end

section
set_option linter.unusedSimpArgs false
set_option linter.unusedVariables false
namespace Go.Proofs.YtfdfkmcplhloaaaGreat
open Go.Proofs
open Nat renaming reduceEqDiff → nE, reduceAdd → nA, reduceLeDiff → nL, reduceLT → nT
set_option maxRecDepth 10000
theorem c8 (h : Hist) (im : List (List Sec)) (hs : h.sm) (hl : im.length < 4000000) (hm : ∀ l ∈ im, l.length < 4000000) : Pu Tryz.prog (.fn (.func 8) [] []) [h.av, imgAV im] (.tup [.lst ((newL h im).map I), B (findB h im), I (judgeE h im)]) := by
 refine pu_func Tryz.func8 rfl (by kernel_rfl) (by show _ ≤ 62; simp only [LN]; decide) (by simp only [IDS, chkAV_idf, ct_idf, judge_idf, judgeR_idf]) (by simp only [IDS, chkAV_idf, ct_idf, judge_idf, judgeR_idf]) (by simp only [IDS, chkAV_idf, ct_idf, judge_idf, judgeR_idf]) ?_
 rw [Tryz.ntmps8]
 have hw := hs.2.1
 have k6 : loadV Tryz.prog 23 h.av 1 = some (.lst (h.ws.map Wr.av)) := by simp only [Hist.av, TY]; rfl
 refine wpT_seq ?_
 refine wpT_region (by kernel_rfl) (fun K hK => ?_)
 simp only [↓SP, SZ, ↓reduceIte, reduceCtorEq, nE, nA, nL, nT, ct_okc]
 refine hK _ _ ?_
 clear hK K
 refine wpT_seq ?_
 refine wpT_region (by kernel_rfl) (fun K hK => ?_)
 simp only [↓SP, SZ, ↓reduceIte, reduceCtorEq, nE, nA, nL, nT, ct_okc]
 refine Pu.call (c20 h im hs hl hm) ?_
 simp only [↓SP, SZ, ↓reduceIte, reduceCtorEq, nE, nA, nL, nT, ct_okc]
 refine hK _ _ ?_
 clear hK K
 refine wpT_seq ?_
 refine wpT_seq ?_
 refine wpT_region (by kernel_rfl) (fun K hK => ?_)
 simp only [↓SP, SZ, ↓reduceIte, reduceCtorEq, nE, nA, nL, nT, ct_okc]
 refine hK _ _ ?_
 clear hK K
 refine wpT_if (by rfl) (fun hc23 => ?_) (fun hc23 => ?_)
 ·
  have p23 := hc23
  try simp only [PB] at p23
  have hx1 : newL h im = [] := if_pos (.inl p23)
  have hx2 : findB h im = false := by rw [findB, decide_eq_false p23]; rfl
  refine wpT_seq ?_
  refine wpT_region (by kernel_rfl) (fun K hK => ?_)
  simp only [↓SP, SZ, ↓reduceIte, reduceCtorEq, nE, nA, nL, nT, ct_okc, hc23]
  refine hK _ _ ?_
  clear hK K
  refine wpT_ret ⟨.inr rfl, ?_⟩
  show optK (resA _ _ _ [.tmp 4, .tmp 5, .tmp 6]) _
  simp only [SRO, ↓SP, SZ, ↓reduceIte, reduceCtorEq, nE, nA, nL, nT, ct_okc, hc23]
  rw [hx1, hx2]
  exact Lend.tupL (LendL.cons .nil0 (LendL.cons (.refl _) (LendL.cons (.refl _) LendL.nil)))
 ·
  have p23 := hc23
  try simp only [PB] at p23
  have e0 : judgeE h im = 0 := by simpa using p23
  obtain ⟨eh, hz, hd⟩ := judge_ok e0
  have hj : judgeR h im = judgeAV h im := if_neg (by omega)
  refine wpT_skip ?_
  refine wpT_seq ?_
  refine wpT_seq ?_
  refine wpT_region (by kernel_rfl) (fun K hK => ?_)
  simp only [↓SP, SZ, ↓reduceIte, reduceCtorEq, nE, nA, nL, nT, ct_okc, hj, hc23]
  refine Pu.call (c21 h im hs e0) ?_
  simp only [↓SP, SZ, ↓reduceIte, reduceCtorEq, nE, nA, nL, nT, ct_okc, hj, hc23]
  refine hK _ _ ?_
  clear hK K
  refine wpT_seq ?_
  refine wpT_region (by kernel_rfl) (fun K hK => ?_)
  simp only [↓SP, SZ, ↓reduceIte, reduceCtorEq, nE, nA, nL, nT, ct_okc, show ((0 : Int) != 0) = false from rfl, hc23]
  refine hK _ _ ?_
  clear hK K
  refine wpT_if (by rfl) (fun hc36 => ?_) (fun hc36 => ?_)
  ·
   have p36 := hc36
   try simp only [PB] at p36
   have hx1 : newL h im = [] := if_pos (.inr p36)
   have hx2 : findB h im = false := by rw [findB, p36]; simp
   refine wpT_seq ?_
   refine wpT_region (by kernel_rfl) (fun K hK => ?_)
   simp only [↓SP, SZ, ↓reduceIte, reduceCtorEq, nE, nA, nL, nT, ct_okc, hc23, hc36]
   refine hK _ _ ?_
   clear hK K
   refine wpT_ret ⟨.inr rfl, ?_⟩
   show optK (resA _ _ _ [.tmp 4, .tmp 5, .tmp 6]) _
   simp only [SRO, ↓SP, SZ, ↓reduceIte, reduceCtorEq, nE, nA, nL, nT, ct_okc, hc23, hc36]
   rw [hx1, hx2, e0]
   exact Lend.tupL (LendL.cons .nil0 (LendL.cons (.refl _) (LendL.cons (.refl _) LendL.nil)))
  ·
   have p36 := hc36
   try simp only [PB] at p36
   have hx1 : newL h im = newestC h im := if_neg (by simp [e0, p36])
   have hx2 : findB h im = true := by rw [findB, p36, decide_eq_true e0]; rfl
   refine wpT_skip ?_
   refine wpT_seq ?_
   refine wpT_region (by kernel_rfl) (fun K hK => ?_)
   simp only [↓SP, SZ, ↓reduceIte, reduceCtorEq, nE, nA, nL, nT, ct_okc, hc23, hc36]
   refine hK _ _ ?_
   clear hK K
   refine wpT_seq ?_
   refine wpT_seq ?_
   refine wpT_region (by kernel_rfl) (fun K hK => ?_)
   simp only [↓SP, SZ, ↓reduceIte, reduceCtorEq, nE, nA, nL, nT, ct_okc, k6, hc23, hc36]
   refine hK _ _ ?_
   clear hK K
   refine wpT_block ?_
   refine wpT_loop ?_
   refine wpT_nilown 13 3 1 (by simp only [↓SP, SZ, ↓reduceIte, reduceCtorEq, nE, nA, nL, nT, ct_okc]) ?_
   refine wpT_keep3 (i := 0) (j := 1) (k := 2) (o := .arr 26 3 [h.av]) (q := .arr 45 3 [(candW h im).av]) (r := .arr 3 1 ((selN (allowedB h im) 0).map I)) (by simp only [↓SP, SZ, ↓reduceIte, reduceCtorEq, nE, nA, nL, nT, ct_okc]) (by simp only [↓SP, SZ, ↓reduceIte, reduceCtorEq, nE, nA, nL, nT, ct_okc]) (by simp only [↓SP, SZ, ↓reduceIte, reduceCtorEq, nE, nA, nL, nT, ct_okc]; rfl) ?_
   refine wpT_ind (fun (i : Nat) tm' h' => (∃ m, h' = Hp.of [(0, .arr 26 3 [h.av]), (1, .arr 45 3 [(candW h im).av]), (2, .arr 3 1 ((selN (allowedB h im) i).map I))] (m + 3)) ∧ tm' 2 = .ptr 0 1 0 0 ∧ tm' 7 = judgeAV h im ∧ tm' 13 = .sl 2 (selN (allowedB h im) i).length 0 (selN (allowedB h im) i).length ∧ tm' 40 = I h.ws.length ∧ tm' 41 = I i ∧ i ≤ h.ws.length) (fun i => h.ws.length - i) ?_ 0 ⟨⟨0, rfl⟩, rfl, by simp only [↓SP, SZ, ↓reduceIte, reduceCtorEq, nE, nA, nL, nT, ct_okc, hj], rfl, rfl, rfl, by omega⟩
   rintro i tm' _ ⟨⟨m, rfl⟩, f2, f7, f13, f40, f41, hi⟩ IH
   refine wpT_inLoop ?_
   refine wpT_seq ?_
   refine wpT_region (by kernel_rfl) (fun K hK => ?_)
   simp only [↓SP, SZ, ↓reduceIte, reduceCtorEq, nE, nA, nL, nT, ct_okc, f40, f41]
   refine hK _ _ ?_
   clear hK K
   refine wpT_seq ?_
   refine wpT_if (by rfl) (fun hc42 => ?_) (fun hc42 => ?_)
   ·
    have p42 := hc42
    try simp only [PB] at p42
    have hlt : i < h.ws.length := by omega
    have hln := selN_length (allowedB h im) i
    have m1 : (selN (allowedB h im) i).length + 1 ≤ maxLen := by simp only [maxLen]; omega
    have m2 : ((selN (allowedB h im) i).length + 1) * 8 ≤ 140737488355328 := by omega
    refine wpT_skip ?_
    refine wpT_seq ?_
    refine wpT_block ?_
    refine wpT_seq ?_
    refine wpT_region (by kernel_rfl) (fun K hK => ?_)
    simp only [↓SP, SZ, ↓reduceIte, reduceCtorEq, nE, nA, nL, nT, ct_okc, f41, hc42]
    refine hK _ _ ?_
    clear hK K
    refine wpT_seq ?_
    refine wpT_region (by kernel_rfl) (fun K hK => ?_)
    simp only [↓SP, SZ, ↓reduceIte, reduceCtorEq, nE, nA, nL, nT, ct_okc, f7, hc42]
    refine Pu.call (c24 h im hs e0 i hlt) ?_
    simp only [↓SP, SZ, ↓reduceIte, reduceCtorEq, nE, nA, nL, nT, ct_okc, f7, hc42]
    refine hK _ _ ?_
    clear hK K
    refine wpT_if (by rfl) (fun hc46 => ?_) (fun hc46 => ?_)
    ·
     have p46 := hc46
     try simp only [PB] at p46
     have hsel : selN (allowedB h im) (i + 1) = selN (allowedB h im) i ++ [(i : Int)] := by rw [selN, if_pos hc46]
     refine wpT_region (by kernel_rfl) (fun K hK => ?_)
     simp only [↓SP, SZ, ↓reduceIte, reduceCtorEq, nE, nA, nL, nT, ct_okc, f13, m1, m2, hc42, hc46]
     refine hK _ _ ?_
     clear hK K
     refine wpT_inBlock ?_
     refine wpT_region (by kernel_rfl) (fun K hK => ?_)
     simp only [↓SP, SZ, ↓reduceIte, reduceCtorEq, nE, nA, nL, nT, ct_okc, f41, wrap64 (x := (i : Int) + 1) (by omega) (by omega), hc42, hc46]
     refine hK _ _ ?_
     clear hK K
     first
       | (have hu := hsel
          refine wpT_keep3 (i := 0) (j := 1) (k := 2) (o := .arr 26 3 [h.av]) (q := .arr 45 3 [(candW h im).av]) (r := .arr 3 1 ((selN (allowedB h im) (i + 1)).map I)) (by simp only [↓SP, SZ, ↓reduceIte, reduceCtorEq, nE, nA, nL, nT, ct_okc]) (by simp only [↓SP, SZ, ↓reduceIte, reduceCtorEq, nE, nA, nL, nT, ct_okc]) (by simp only [↓SP, SZ, ↓reduceIte, reduceCtorEq, nE, nA, nL, nT, ct_okc, hsel, List.map_append]) ?_
          refine IH (i + 1) _ _ (by omega) ⟨⟨_, rfl⟩, by simp only [↓SP, SZ, ↓reduceIte, reduceCtorEq, nE, nA, nL, nT, ct_okc, f2], by simp only [↓SP, SZ, ↓reduceIte, reduceCtorEq, nE, nA, nL, nT, ct_okc, f7], by simp only [↓SP, SZ, ↓reduceIte, reduceCtorEq, nE, nA, nL, nT, ct_okc, hsel], by simp only [↓SP, SZ, ↓reduceIte, reduceCtorEq, nE, nA, nL, nT, ct_okc, f40], by simp only [↓SP, SZ, ↓reduceIte, reduceCtorEq, nE, nA, nL, nT, ct_okc, Int.natCast_add, Int.cast_ofNat_Int], by omega⟩)
       | (have hu := hself
          refine wpT_keep3 (i := 0) (j := 1) (k := 2) (o := .arr 26 3 [h.av]) (q := .arr 45 3 [(candW h im).av]) (r := .arr 3 1 ((selN (allowedB h im) (i + 1)).map I)) (by simp only [↓SP, SZ, ↓reduceIte, reduceCtorEq, nE, nA, nL, nT, ct_okc]) (by simp only [↓SP, SZ, ↓reduceIte, reduceCtorEq, nE, nA, nL, nT, ct_okc]) (by simp only [↓SP, SZ, ↓reduceIte, reduceCtorEq, nE, nA, nL, nT, ct_okc, hself]) ?_
          refine IH (i + 1) _ _ (by omega) ⟨⟨_, rfl⟩, by simp only [↓SP, SZ, ↓reduceIte, reduceCtorEq, nE, nA, nL, nT, ct_okc, f2], by simp only [↓SP, SZ, ↓reduceIte, reduceCtorEq, nE, nA, nL, nT, ct_okc, f7], by simp only [↓SP, SZ, ↓reduceIte, reduceCtorEq, nE, nA, nL, nT, ct_okc, hself, f13], by simp only [↓SP, SZ, ↓reduceIte, reduceCtorEq, nE, nA, nL, nT, ct_okc, f40], by simp only [↓SP, SZ, ↓reduceIte, reduceCtorEq, nE, nA, nL, nT, ct_okc, Int.natCast_add, Int.cast_ofNat_Int], by omega⟩)
    ·
     have p46 := hc46
     try simp only [PB] at p46
     have hself : selN (allowedB h im) (i + 1) = selN (allowedB h im) i := by rw [selN, if_neg (by simp [hc46]), List.append_nil]
     refine wpT_skip ?_
     refine wpT_inBlock ?_
     refine wpT_region (by kernel_rfl) (fun K hK => ?_)
     simp only [↓SP, SZ, ↓reduceIte, reduceCtorEq, nE, nA, nL, nT, ct_okc, f41, wrap64 (x := (i : Int) + 1) (by omega) (by omega), hc42, hc46]
     refine hK _ _ ?_
     clear hK K
     first
       | (have hu := hsel
          refine wpT_keep3 (i := 0) (j := 1) (k := 2) (o := .arr 26 3 [h.av]) (q := .arr 45 3 [(candW h im).av]) (r := .arr 3 1 ((selN (allowedB h im) (i + 1)).map I)) (by simp only [↓SP, SZ, ↓reduceIte, reduceCtorEq, nE, nA, nL, nT, ct_okc]) (by simp only [↓SP, SZ, ↓reduceIte, reduceCtorEq, nE, nA, nL, nT, ct_okc]) (by simp only [↓SP, SZ, ↓reduceIte, reduceCtorEq, nE, nA, nL, nT, ct_okc, hsel, List.map_append]) ?_
          refine IH (i + 1) _ _ (by omega) ⟨⟨_, rfl⟩, by simp only [↓SP, SZ, ↓reduceIte, reduceCtorEq, nE, nA, nL, nT, ct_okc, f2], by simp only [↓SP, SZ, ↓reduceIte, reduceCtorEq, nE, nA, nL, nT, ct_okc, f7], by simp only [↓SP, SZ, ↓reduceIte, reduceCtorEq, nE, nA, nL, nT, ct_okc, hsel], by simp only [↓SP, SZ, ↓reduceIte, reduceCtorEq, nE, nA, nL, nT, ct_okc, f40], by simp only [↓SP, SZ, ↓reduceIte, reduceCtorEq, nE, nA, nL, nT, ct_okc, Int.natCast_add, Int.cast_ofNat_Int], by omega⟩)
       | (have hu := hself
          refine wpT_keep3 (i := 0) (j := 1) (k := 2) (o := .arr 26 3 [h.av]) (q := .arr 45 3 [(candW h im).av]) (r := .arr 3 1 ((selN (allowedB h im) (i + 1)).map I)) (by simp only [↓SP, SZ, ↓reduceIte, reduceCtorEq, nE, nA, nL, nT, ct_okc]) (by simp only [↓SP, SZ, ↓reduceIte, reduceCtorEq, nE, nA, nL, nT, ct_okc]) (by simp only [↓SP, SZ, ↓reduceIte, reduceCtorEq, nE, nA, nL, nT, ct_okc, hself]) ?_
          refine IH (i + 1) _ _ (by omega) ⟨⟨_, rfl⟩, by simp only [↓SP, SZ, ↓reduceIte, reduceCtorEq, nE, nA, nL, nT, ct_okc, f2], by simp only [↓SP, SZ, ↓reduceIte, reduceCtorEq, nE, nA, nL, nT, ct_okc, f7], by simp only [↓SP, SZ, ↓reduceIte, reduceCtorEq, nE, nA, nL, nT, ct_okc, hself, f13], by simp only [↓SP, SZ, ↓reduceIte, reduceCtorEq, nE, nA, nL, nT, ct_okc, f40], by simp only [↓SP, SZ, ↓reduceIte, reduceCtorEq, nE, nA, nL, nT, ct_okc, Int.natCast_add, Int.cast_ofNat_Int], by omega⟩)
   ·
    have p42 := hc42
    try simp only [PB] at p42
    have hi2 : i = h.ws.length := by omega
    subst hi2
    have hal : selN (allowedB h im) h.ws.length = allowedL h im := rfl
    rw [hal] at f13 ⊢
    have hnl : (allowedL h im).length < 4000000 := Nat.lt_of_le_of_lt (selN_length _ _) hw
    have hnset : setP h.ws.length (-1) (allowedL h im) = true := setP_sel (Nat.le_refl _)
    have hse : setsE h [allowedL h im] = 0 := by
      unfold setsE
      rw [if_neg (by omega), if_pos (by simpa using hnset)]
    have hge : greatL h (allowedL h im) = newestC h im := if_neg (by omega)
    refine wpT_exit rfl ?_
    refine wpT_seq ?_
    refine wpT_region (by kernel_rfl) (fun K hK => ?_)
    simp only [↓SP, SZ, ↓reduceIte, reduceCtorEq, nE, nA, nL, nT, ct_okc, f2, f13, hc42]
    refine Pu.freeze (greatF h (allowedL h im) hs hnl) 2 (LendL.cons (.refl _) (LendL.cons (Lend.sl0 (E := 3) (s := 1) (by simp only [↓SP, SZ, ↓reduceIte, reduceCtorEq, nE, nA, nL, nT, ct_okc]) (by simp) (int_okc _)) LendL.nil)) ?_
    simp only [↓SP, SZ, ↓reduceIte, reduceCtorEq, nE, nA, nL, nT, ct_okc, f2, f13, hc42]
    refine hK _ _ ?_
    clear hK K
    refine wpT_seq ?_
    refine wpT_region (by kernel_rfl) (fun K hK => ?_)
    simp only [↓SP, SZ, ↓reduceIte, reduceCtorEq, nE, nA, nL, nT, ct_okc, hc42]
    refine hK _ _ ?_
    clear hK K
    refine wpT_ret ⟨.inr rfl, ?_⟩
    show optK (resA _ _ _ [.tmp 4, .tmp 5, .tmp 6]) _
    simp only [SRO, ↓SP, SZ, ↓reduceIte, reduceCtorEq, nE, nA, nL, nT, ct_okc, hc42]
    rw [hx1, hx2, e0, hge, hse]
    exact .refl _
end Go.Proofs.YtfdfkmcplhloaaaGreat
end

section
set_option linter.unusedSimpArgs false
set_option linter.unusedVariables false
namespace Go.Proofs.YtfdfkmcplhloaaaGreat
open Go.Proofs
open Nat renaming reduceEqDiff → nE, reduceAdd → nA, reduceLeDiff → nL, reduceLT → nT
set_option maxRecDepth 10000
def hcp (h : Hist) (i k j : Nat) : AV := .agg [.sl i h.sizes.length 0 h.sizes.length, .sl k h.ws.length 0 h.ws.length, .sl j h.evs.length 0 h.evs.length]
def hist0 : Hist := ⟨[], [], []⟩
def issueE (h : Hist) (w : Wr) : Int := if histE h ≠ 0 then histE h else if h.ws.length ≥ 4096 then 6 else fitsE h.sizes w
def issueR (h : Hist) (w : Wr) : Hist := if issueE h w ≠ 0 then hist0 else h.more w
def issueN (h : Hist) (w : Wr) : Int := if issueE h w ≠ 0 then 0 else h.ws.length
end Go.Proofs.YtfdfkmcplhloaaaGreat
end

section
set_option linter.unusedSimpArgs false
set_option linter.unusedVariables false
namespace Go.Proofs.YtfdfkmcplhloaaaGreat
open Go.Proofs
open Nat renaming reduceEqDiff → nE, reduceAdd → nA, reduceLeDiff → nL, reduceLT → nT
set_option maxRecDepth 10000
def subB (a b : List Int) : Bool := b.all fun x => decide (x ∈ a)
/-- Whether a write contains what a conflict shows. -/
def shP (c : Ct) (x : Wr) : Bool := decide (contW x c.vol c.sec = some c.dat)
end Go.Proofs.YtfdfkmcplhloaaaGreat
end

section
set_option linter.unusedSimpArgs false
set_option linter.unusedVariables false
namespace Go.Proofs.YtfdfkmcplhloaaaGreat
open Go.Proofs
open Nat renaming reduceEqDiff → nE, reduceAdd → nA, reduceLeDiff → nL, reduceLT → nT
set_option maxRecDepth 10000
def fewH (h : Hist) : Bool := decide (h.sizes.length ≤ 9) && (decide (h.ws.length ≤ 40) && (decide (h.evs.length ≤ 90) && (h.sizes.all (fun n => decide (n ≤ 24)) && h.ws.all fun w => decide (w.data.length ≤ 30))))
def fewI (im : List (List Sec)) : Bool := decide (im.length ≤ 9) && im.all fun l => decide (l.length ≤ 24)
theorem c11 (h : Hist) (hs : h.ok) : Pu Tryz.prog (.fn (.func 11) [] []) [h.av] (B (fewH h)) := by
 refine pu_func Tryz.func11 rfl (by kernel_rfl) (by show _ ≤ 49; simp only [LN]; decide) (by simp only [IDS]) (by simp only [IDS]) (by simp only [IDS]) ?_
 rw [Tryz.ntmps11]
 obtain ⟨z1, z2, z3, z4⟩ := hs
 refine wpT_seq ?_
 refine wpT_region (by kernel_rfl) (fun K hK => ?_)
 simp only [↓SP, SZ, ↓reduceIte, reduceCtorEq, nE, nA, nL, nT, sec_neq, hist_cs]
 refine hK _ _ ?_
 clear hK K
 refine wpT_seq ?_
 refine wpT_seq ?_
 refine wpT_region (by kernel_rfl) (fun K hK => ?_)
 simp only [↓SP, SZ, ↓reduceIte, reduceCtorEq, nE, nA, nL, nT, sec_neq, hist_cs]
 refine guardO_split (fun hg9 => ?_) (fun hg9 => ?_)
 ·
  have p9 := hg9
  try simp only [PB] at p9
  have y1 : h.sizes.length ≤ 9 := by omega
  simp only [↓SP, SZ, ↓reduceIte, reduceCtorEq, nE, nA, nL, nT, sec_neq, hist_cs, hg9]
  refine guardO_split (fun hg15 => ?_) (fun hg15 => ?_)
  ·
   have p15 := hg15
   try simp only [PB] at p15
   have y2 : h.ws.length ≤ 40 := by omega
   simp only [↓SP, SZ, ↓reduceIte, reduceCtorEq, nE, nA, nL, nT, sec_neq, hist_cs, hg9, hg15]
   refine hK _ _ ?_
   clear hK K
   refine wpT_if (by rfl) (fun hc20 => ?_) (fun hc20 => ?_)
   ·
    have p20 := hc20
    try simp only [PB] at p20
    have hx : fewH h = false := by
      first
        | exact hx
        | (rw [fewH, decide_eq_true y1, decide_eq_true y2, decide_eq_false (p := h.evs.length ≤ 90) (by omega)]; rfl)
    refine wpT_seq ?_
    refine wpT_region (by kernel_rfl) (fun K hK => ?_)
    simp only [↓SP, SZ, ↓reduceIte, reduceCtorEq, nE, nA, nL, nT, sec_neq, hist_cs, hg9, hg15, hc20]
    refine hK _ _ ?_
    clear hK K
    refine wpT_ret ⟨.inr rfl, ?_⟩
    show optK (resA _ _ _ [.tmp 2]) _
    simp only [SRO, ↓SP, SZ, ↓reduceIte, reduceCtorEq, nE, nA, nL, nT, sec_neq, hist_cs, hg9, hg15, hc20]
    rw [hx]
    exact .refl _
   ·
    have p20 := hc20
    try simp only [PB] at p20
    have y3 : h.evs.length ≤ 90 := by omega
    have hx0 : fewH h = (h.sizes.all (fun n => decide (n ≤ 24)) && h.ws.all fun w => decide (w.data.length ≤ 30)) := by rw [fewH, decide_eq_true y1, decide_eq_true y2, decide_eq_true y3]; simp
    refine wpT_skip ?_
    refine wpT_seq ?_
    refine wpT_seq ?_
    refine wpT_region (by kernel_rfl) (fun K hK => ?_)
    simp only [↓SP, SZ, ↓reduceIte, reduceCtorEq, nE, nA, nL, nT, sec_neq, hist_cs, hg9, hg15, hc20]
    refine hK _ _ ?_
    clear hK K
    refine wpT_block ?_
    refine wpT_loop ?_
    refine wpT_keep1 (i := 0) (o := .arr 26 3 [h.av]) (by simp only [↓SP, SZ, ↓reduceIte, reduceCtorEq, nE, nA, nL, nT, sec_neq]) ?_
    refine wpT_ind (fun (i : Nat) tm' h' => (∃ m, h' = Hp.of [(0, .arr 26 3 [h.av])] (m + 1)) ∧ tm' 1 = .ptr 0 1 0 0 ∧ tm' 3 = I i ∧ i ≤ h.sizes.length ∧ ((h.sizes.drop i).all fun n => decide (n ≤ 24)) = h.sizes.all fun n => decide (n ≤ 24)) (fun i => h.sizes.length - i) ?_ 0 ⟨⟨0, rfl⟩, rfl, rfl, by omega, rfl⟩
    rintro i tm' _ ⟨⟨m, rfl⟩, e1, e3, hi, hA⟩ IH
    refine wpT_inLoop ?_
    refine wpT_seq ?_
    refine wpT_seq ?_
    refine wpT_region (by kernel_rfl) (fun K hK => ?_)
    simp only [↓SP, SZ, ↓reduceIte, reduceCtorEq, nE, nA, nL, nT, sec_neq, hist_cs, e1, e3]
    refine hK _ _ ?_
    clear hK K
    refine wpT_if (by rfl) (fun hc25 => ?_) (fun hc25 => ?_)
    ·
     have p25 := hc25
     try simp only [PB] at p25
     have hlt : i < h.sizes.length := by omega
     have hg := at_map (f := I) hlt
     rw [List.drop_eq_getElem_cons hlt, List.all_cons] at hA
     refine wpT_skip ?_
     refine wpT_seq ?_
     refine wpT_block ?_
     refine wpT_seq ?_
     refine wpT_region (by kernel_rfl) (fun K hK => ?_)
     simp only [↓SP, SZ, ↓reduceIte, reduceCtorEq, nE, nA, nL, nT, sec_neq, hist_cs, e1, e3, hg, hc25]
     refine hK _ _ ?_
     clear hK K
     refine wpT_if (by rfl) (fun hc33 => ?_) (fun hc33 => ?_)
     ·
      have p33 := hc33
      try simp only [PB] at p33
      rw [decide_eq_false (by omega)] at hA
      have hx : fewH h = false := by rw [hx0, ← hA]; rfl
      refine wpT_seq ?_
      refine wpT_region (by kernel_rfl) (fun K hK => ?_)
      simp only [↓SP, SZ, ↓reduceIte, reduceCtorEq, nE, nA, nL, nT, sec_neq, hist_cs, hc25, hc33]
      refine hK _ _ ?_
      clear hK K
      refine wpT_ret ⟨.inr rfl, ?_⟩
      show optK (resA _ _ _ [.tmp 2]) _
      simp only [SRO, ↓SP, SZ, ↓reduceIte, reduceCtorEq, nE, nA, nL, nT, sec_neq, hist_cs, hc25, hc33]
      rw [hx]
      exact .refl _
     ·
      have p33 := hc33
      try simp only [PB] at p33
      rw [decide_eq_true (by omega), Bool.true_and] at hA
      refine wpT_skip ?_
      refine wpT_inBlock ?_
      refine wpT_region (by kernel_rfl) (fun K hK => ?_)
      simp only [↓SP, SZ, ↓reduceIte, reduceCtorEq, nE, nA, nL, nT, sec_neq, hist_cs, e3, wrap64 (x := (i : Int) + 1) (by omega) (by omega), hc25, hc33]
      refine hK _ _ ?_
      clear hK K
      refine wpT_keep1 (i := 0) (o := .arr 26 3 [h.av]) (by simp only [↓SP, SZ, ↓reduceIte, reduceCtorEq, nE, nA, nL, nT, sec_neq]) ?_
      refine IH (i + 1) _ _ (by omega) ⟨⟨_, rfl⟩, by simp only [↓SP, SZ, ↓reduceIte, reduceCtorEq, nE, nA, nL, nT, sec_neq, e1], by simp only [↓SP, SZ, ↓reduceIte, reduceCtorEq, nE, nA, nL, nT, sec_neq, Int.natCast_add, Int.cast_ofNat_Int], by omega, hA⟩
    ·
     have p25 := hc25
     try simp only [PB] at p25
     rw [List.drop_eq_nil_of_le (by omega)] at hA
     refine wpT_exit rfl ?_
     refine wpT_seq ?_
     refine wpT_seq ?_
     refine wpT_region (by kernel_rfl) (fun K hK => ?_)
     simp only [↓SP, SZ, ↓reduceIte, reduceCtorEq, nE, nA, nL, nT, sec_neq, hist_cs, hc25]
     refine hK _ _ ?_
     clear hK K
     refine wpT_block ?_
     refine wpT_loop ?_
     clear IH
     refine wpT_ind (fun (i : Nat) tm' h' => (∃ m, h' = Hp.of [(0, .arr 26 3 [h.av])] (m + 1)) ∧ tm' 1 = .ptr 0 1 0 0 ∧ tm' 4 = I i ∧ i ≤ h.ws.length ∧ ((h.ws.drop i).all fun w => decide (w.data.length ≤ 30)) = h.ws.all fun w => decide (w.data.length ≤ 30)) (fun i => h.ws.length - i) ?_ 0 ⟨⟨_, rfl⟩, by simp only [↓SP, SZ, ↓reduceIte, reduceCtorEq, nE, nA, nL, nT, sec_neq, e1], rfl, by omega, rfl⟩
     clear e1 e3
     rintro j tm' _ ⟨⟨m, rfl⟩, e1, e4, hj, hB⟩ IH
     refine wpT_inLoop ?_
     refine wpT_seq ?_
     refine wpT_seq ?_
     refine wpT_region (by kernel_rfl) (fun K hK => ?_)
     simp only [↓SP, SZ, ↓reduceIte, reduceCtorEq, nE, nA, nL, nT, sec_neq, hist_cs, e1, e4]
     refine hK _ _ ?_
     clear hK K
     refine wpT_if (by rfl) (fun hc38 => ?_) (fun hc38 => ?_)
     ·
      have p38 := hc38
      try simp only [PB] at p38
      have hlt : j < h.ws.length := by omega
      have hg := at_map (f := Wr.av) hlt
      have hwl := z4 _ (List.getElem_mem hlt)
      unfold Wr.ok at hwl
      rw [List.drop_eq_getElem_cons hlt, List.all_cons] at hB
      refine wpT_skip ?_
      refine wpT_seq ?_
      refine wpT_block ?_
      refine wpT_seq ?_
      refine wpT_region (by kernel_rfl) (fun K hK => ?_)
      simp only [↓SP, SZ, ↓reduceIte, reduceCtorEq, nE, nA, nL, nT, sec_neq, hist_cs, e1, e4, hg, Wr.av, hc38]
      refine hK _ _ ?_
      clear hK K
      refine wpT_if (by rfl) (fun hc48 => ?_) (fun hc48 => ?_)
      ·
       have p48 := hc48
       try simp only [PB] at p48
       rw [decide_eq_false (by omega)] at hB
       have hx : fewH h = false := by rw [hx0, ← hB]; simp
       refine wpT_seq ?_
       refine wpT_region (by kernel_rfl) (fun K hK => ?_)
       simp only [↓SP, SZ, ↓reduceIte, reduceCtorEq, nE, nA, nL, nT, sec_neq, hist_cs, hc38, hc48]
       refine hK _ _ ?_
       clear hK K
       refine wpT_ret ⟨.inr rfl, ?_⟩
       show optK (resA _ _ _ [.tmp 2]) _
       simp only [SRO, ↓SP, SZ, ↓reduceIte, reduceCtorEq, nE, nA, nL, nT, sec_neq, hist_cs, hc38, hc48]
       rw [hx]
       exact .refl _
      ·
       have p48 := hc48
       try simp only [PB] at p48
       rw [decide_eq_true (by omega), Bool.true_and] at hB
       refine wpT_skip ?_
       refine wpT_inBlock ?_
       refine wpT_region (by kernel_rfl) (fun K hK => ?_)
       simp only [↓SP, SZ, ↓reduceIte, reduceCtorEq, nE, nA, nL, nT, sec_neq, hist_cs, e4, wrap64 (x := (j : Int) + 1) (by omega) (by omega), hc38, hc48]
       refine hK _ _ ?_
       clear hK K
       refine wpT_keep1 (i := 0) (o := .arr 26 3 [h.av]) (by simp only [↓SP, SZ, ↓reduceIte, reduceCtorEq, nE, nA, nL, nT, sec_neq]) ?_
       refine IH (j + 1) _ _ (by omega) ⟨⟨_, rfl⟩, by simp only [↓SP, SZ, ↓reduceIte, reduceCtorEq, nE, nA, nL, nT, sec_neq, e1], by simp only [↓SP, SZ, ↓reduceIte, reduceCtorEq, nE, nA, nL, nT, sec_neq, Int.natCast_add, Int.cast_ofNat_Int], by omega, hB⟩
     ·
      have p38 := hc38
      try simp only [PB] at p38
      rw [List.drop_eq_nil_of_le (by omega)] at hB
      have hx : fewH h = true := by rw [hx0, ← hA, ← hB]; rfl
      refine wpT_exit rfl ?_
      refine wpT_seq ?_
      refine wpT_region (by kernel_rfl) (fun K hK => ?_)
      simp only [↓SP, SZ, ↓reduceIte, reduceCtorEq, nE, nA, nL, nT, sec_neq, hist_cs, hc38]
      refine hK _ _ ?_
      clear hK K
      refine wpT_ret ⟨.inr rfl, ?_⟩
      show optK (resA _ _ _ [.tmp 2]) _
      simp only [SRO, ↓SP, SZ, ↓reduceIte, reduceCtorEq, nE, nA, nL, nT, sec_neq, hist_cs, hc38]
      rw [hx]
      exact .refl _
  ·
   simp only [Bool.not_true, Bool.not_false] at hg15
   have p15 := hg15
   try simp only [PB] at p15
   have hx : fewH h = false := by rw [fewH, decide_eq_true y1, decide_eq_false (p := h.ws.length ≤ 40) (by omega)]; rfl
   simp only [↓SP, SZ, ↓reduceIte, reduceCtorEq, nE, nA, nL, nT, sec_neq, hist_cs, hg9, hg15]
   refine hK _ _ ?_
   clear hK K
   refine wpT_ifT (by simp only [↓SP, SZ, ↓reduceIte, reduceCtorEq, nE, nA, nL, nT, sec_neq, hist_cs, hg9, hg15]) ?_
   have hx : fewH h = false := by
     first
       | exact hx
       | (rw [fewH, decide_eq_true y1, decide_eq_true y2, decide_eq_false (p := h.evs.length ≤ 90) (by omega)]; rfl)
   refine wpT_seq ?_
   refine wpT_region (by kernel_rfl) (fun K hK => ?_)
   simp only [↓SP, SZ, ↓reduceIte, reduceCtorEq, nE, nA, nL, nT, sec_neq, hist_cs, hg9, hg15]
   refine hK _ _ ?_
   clear hK K
   refine wpT_ret ⟨.inr rfl, ?_⟩
   show optK (resA _ _ _ [.tmp 2]) _
   simp only [SRO, ↓SP, SZ, ↓reduceIte, reduceCtorEq, nE, nA, nL, nT, sec_neq, hist_cs, hg9, hg15]
   rw [hx]
   exact .refl _
 ·
  simp only [Bool.not_true, Bool.not_false] at hg9
  have p9 := hg9
  try simp only [PB] at p9
  have hx : fewH h = false := by rw [fewH, decide_eq_false (by omega)]; rfl
  simp only [↓SP, SZ, ↓reduceIte, reduceCtorEq, nE, nA, nL, nT, sec_neq, hist_cs, hg9]
  refine hK _ _ ?_
  clear hK K
  refine wpT_ifT (by simp only [↓SP, SZ, ↓reduceIte, reduceCtorEq, nE, nA, nL, nT, sec_neq, hist_cs, hg9]) ?_
  have hx : fewH h = false := by
    first
      | exact hx
      | (rw [fewH, decide_eq_true y1, decide_eq_true y2, decide_eq_false (p := h.evs.length ≤ 90) (by omega)]; rfl)
  refine wpT_seq ?_
  refine wpT_region (by kernel_rfl) (fun K hK => ?_)
  simp only [↓SP, SZ, ↓reduceIte, reduceCtorEq, nE, nA, nL, nT, sec_neq, hist_cs, hg9]
  refine hK _ _ ?_
  clear hK K
  refine wpT_ret ⟨.inr rfl, ?_⟩
  show optK (resA _ _ _ [.tmp 2]) _
  simp only [SRO, ↓SP, SZ, ↓reduceIte, reduceCtorEq, nE, nA, nL, nT, sec_neq, hist_cs, hg9]
  rw [hx]
  exact .refl _
theorem few_sm {h : Hist} (e : fewH h = true) : h.sm := by
  simp only [fewH, Bool.and_eq_true, decide_eq_true_eq, List.all_eq_true] at e
  obtain ⟨h1, h2, h3, h4, h5⟩ := e
  exact ⟨by omega, by omega, by omega, fun w hw => by have := h5 w hw; omega⟩
theorem c12 (im : List (List Sec)) (hl : im.length < 4611686018427387904) (hm : ∀ l ∈ im, l.length < 4611686018427387904) : Pu Tryz.prog (.fn (.func 12) [] []) [imgAV im] (B (fewI im)) := by
 refine pu_func Tryz.func12 rfl (by kernel_rfl) (by show _ ≤ 19; simp only [LN]; decide) (by simp only [IDS]) (by simp only [IDS]) (by simp only [IDS]) ?_
 rw [Tryz.ntmps12]
 refine wpT_seq ?_
 refine wpT_region (by kernel_rfl) (fun K hK => ?_)
 simp only [↓SP, SZ, ↓reduceIte, reduceCtorEq, nE, nA, nL, nT, sec_neq, imgAV]
 refine hK _ _ ?_
 clear hK K
 refine wpT_seq ?_
 refine wpT_seq ?_
 refine wpT_region (by kernel_rfl) (fun K hK => ?_)
 simp only [↓SP, SZ, ↓reduceIte, reduceCtorEq, nE, nA, nL, nT, sec_neq, imgAV]
 refine hK _ _ ?_
 clear hK K
 refine wpT_if (by rfl) (fun hc6 => ?_) (fun hc6 => ?_)
 ·
  have p6 := hc6
  try simp only [PB] at p6
  have hx : fewI im = false := by rw [fewI, decide_eq_false (by omega)]; rfl
  refine wpT_seq ?_
  refine wpT_region (by kernel_rfl) (fun K hK => ?_)
  simp only [↓SP, SZ, ↓reduceIte, reduceCtorEq, nE, nA, nL, nT, sec_neq, imgAV, hc6]
  refine hK _ _ ?_
  clear hK K
  refine wpT_ret ⟨.inr rfl, ?_⟩
  show optK (resA _ _ _ [.tmp 2]) _
  simp only [SRO, ↓SP, SZ, ↓reduceIte, reduceCtorEq, nE, nA, nL, nT, sec_neq, imgAV, hc6]
  rw [hx]
  exact .refl _
 ·
  have p6 := hc6
  try simp only [PB] at p6
  have hx0 : fewI im = im.all fun l => decide (l.length ≤ 24) := by rw [fewI, decide_eq_true (by omega), Bool.true_and]
  refine wpT_skip ?_
  refine wpT_seq ?_
  refine wpT_seq ?_
  refine wpT_region (by kernel_rfl) (fun K hK => ?_)
  simp only [↓SP, SZ, ↓reduceIte, reduceCtorEq, nE, nA, nL, nT, sec_neq, imgAV, hc6]
  refine hK _ _ ?_
  clear hK K
  refine wpT_block ?_
  refine wpT_loop ?_
  refine wpT_keep0 ?_
  refine wpT_ind (fun (i : Nat) tm' h' => (∃ m, h' = Hp.of [] m) ∧ tm' 0 = imgAV im ∧ tm' 3 = I i ∧ i ≤ im.length ∧ ((im.drop i).all fun l => decide (l.length ≤ 24)) = im.all fun l => decide (l.length ≤ 24)) (fun i => im.length - i) ?_ 0 ⟨⟨_, rfl⟩, rfl, rfl, by omega, rfl⟩
  rintro i tm' _ ⟨⟨m, rfl⟩, e0, e3, hi, hA⟩ IH
  refine wpT_inLoop ?_
  refine wpT_seq ?_
  refine wpT_seq ?_
  refine wpT_region (by kernel_rfl) (fun K hK => ?_)
  simp only [↓SP, SZ, ↓reduceIte, reduceCtorEq, nE, nA, nL, nT, sec_neq, imgAV, e0, e3]
  refine hK _ _ ?_
  clear hK K
  refine wpT_if (by rfl) (fun hc10 => ?_) (fun hc10 => ?_)
  ·
   have p10 := hc10
   try simp only [PB] at p10
   have hlt : i < im.length := by omega
   have hg := at_map (f := fun l : List Sec => AV.lst (l.map Sec.av)) hlt
   have hml := hm _ (List.getElem_mem hlt)
   rw [List.drop_eq_getElem_cons hlt, List.all_cons] at hA
   refine wpT_skip ?_
   refine wpT_seq ?_
   refine wpT_block ?_
   refine wpT_seq ?_
   refine wpT_region (by kernel_rfl) (fun K hK => ?_)
   simp only [↓SP, SZ, ↓reduceIte, reduceCtorEq, nE, nA, nL, nT, sec_neq, imgAV, e0, e3, hg, hc10]
   refine hK _ _ ?_
   clear hK K
   refine wpT_if (by rfl) (fun hc18 => ?_) (fun hc18 => ?_)
   ·
    have p18 := hc18
    try simp only [PB] at p18
    rw [decide_eq_false (by omega)] at hA
    have hx : fewI im = false := by rw [hx0, ← hA]; rfl
    refine wpT_seq ?_
    refine wpT_region (by kernel_rfl) (fun K hK => ?_)
    simp only [↓SP, SZ, ↓reduceIte, reduceCtorEq, nE, nA, nL, nT, sec_neq, imgAV, hc10, hc18]
    refine hK _ _ ?_
    clear hK K
    refine wpT_ret ⟨.inr rfl, ?_⟩
    show optK (resA _ _ _ [.tmp 2]) _
    simp only [SRO, ↓SP, SZ, ↓reduceIte, reduceCtorEq, nE, nA, nL, nT, sec_neq, imgAV, hc10, hc18]
    rw [hx]
    exact .refl _
   ·
    have p18 := hc18
    try simp only [PB] at p18
    rw [decide_eq_true (by omega), Bool.true_and] at hA
    refine wpT_skip ?_
    refine wpT_inBlock ?_
    refine wpT_region (by kernel_rfl) (fun K hK => ?_)
    simp only [↓SP, SZ, ↓reduceIte, reduceCtorEq, nE, nA, nL, nT, sec_neq, imgAV, e3, wrap64 (x := (i : Int) + 1) (by omega) (by omega), hc10, hc18]
    refine hK _ _ ?_
    clear hK K
    refine wpT_keep0 ?_
    refine IH (i + 1) _ _ (by omega) ⟨⟨_, rfl⟩, by simp only [↓SP, SZ, ↓reduceIte, reduceCtorEq, nE, nA, nL, nT, sec_neq, e0], by simp only [↓SP, SZ, ↓reduceIte, reduceCtorEq, nE, nA, nL, nT, sec_neq, Int.natCast_add, Int.cast_ofNat_Int], by omega, hA⟩
  ·
   have p10 := hc10
   try simp only [PB] at p10
   rw [List.drop_eq_nil_of_le (by omega)] at hA
   have hx : fewI im = true := by rw [hx0, ← hA]; rfl
   refine wpT_exit rfl ?_
   refine wpT_seq ?_
   refine wpT_region (by kernel_rfl) (fun K hK => ?_)
   simp only [↓SP, SZ, ↓reduceIte, reduceCtorEq, nE, nA, nL, nT, sec_neq, imgAV, hc10]
   refine hK _ _ ?_
   clear hK K
   refine wpT_ret ⟨.inr rfl, ?_⟩
   show optK (resA _ _ _ [.tmp 2]) _
   simp only [SRO, ↓SP, SZ, ↓reduceIte, reduceCtorEq, nE, nA, nL, nT, sec_neq, imgAV, hc10]
   rw [hx]
   exact .refl _
end Go.Proofs.YtfdfkmcplhloaaaGreat
end

section
set_option linter.unusedSimpArgs false
set_option linter.unusedVariables false
namespace Go.Proofs.YtfdfkmcplhloaaaGreat
open Go.Proofs
open Nat renaming reduceEqDiff → nE, reduceAdd → nA, reduceLeDiff → nL, reduceLT → nT
set_option maxRecDepth 10000
theorem evn_eq (x y : Evn) : eqT Tryz.prog 10 69 x.av y.av = some (decide (x = y)) := by
  have h : eqT Tryz.prog 10 69 x.av y.av = if (x.kind == y.kind) = true then (if (x.wr == y.wr) = true then some true else some false) else some false := by kernel_rfl
  rw [h]
  cases x; cases y
  simp only [beq_iff_eq, Evn.mk.injEq]
  repeat' split
  all_goals simp_all
theorem evn_guard : Tryz.prog.eqGuardType Tryz.prog.depth 69 = false := by kernel_rfl
theorem evn_eql (x y : Evn) : opBinAny Tryz.prog .eql 69 x.av y.av = some (.bool (decide (x = y))) := by
  have := evn_eq x y
  unfold Evn.av at this ⊢
  simp only [opBinAny, opBin, opEq, evn_guard, if_true, this, Option.map_some]
theorem idxP_lt {α : Type} (p : α → Bool) (i : Nat) (xs : List α) : (decide (idxP p i xs < 0)) = !xs.any p := by
  rw [← idxP_ge p i xs]
  by_cases h : idxP p i xs < 0
  · rw [decide_eq_true h, decide_eq_false (by omega)]; rfl
  · rw [decide_eq_false h, decide_eq_true (by omega)]; rfl
theorem any_eq {x : Evn} (xs : List Evn) : (xs.any fun y => decide (y = x)) = decide (x ∈ xs) := by
  by_cases h : x ∈ xs
  · rw [decide_eq_true h]; simpa using h
  · rw [decide_eq_false h]; simp; exact fun y hy e => h (e ▸ hy)
theorem c70 (es : List Evn) (x : Evn) (hl : es.length < 4611686018427387904) : Pu Tryz.prog (.fn (.func 70) [] []) [.lst (es.map Evn.av), x.av] (I (idxP (fun y => decide (y = x)) 0 es)) := by
 refine pu_func Tryz.func70 rfl (by kernel_rfl) (by show _ ≤ 19; simp only [LN]; decide) (by simp only [IDS]) (by simp only [IDS]) (by simp only [IDS]) ?_
 rw [Tryz.ntmps70]
 refine wpT_seq ?_
 refine wpT_region (by kernel_rfl) (fun K hK => ?_)
 simp only [↓SP, SZ, ↓reduceIte, reduceCtorEq, nE, nA, nL, nT, sec_neq]
 refine hK _ _ ?_
 clear hK K
 refine wpT_seq ?_
 refine wpT_seq ?_
 refine wpT_region (by kernel_rfl) (fun K hK => ?_)
 simp only [↓SP, SZ, ↓reduceIte, reduceCtorEq, nE, nA, nL, nT, sec_neq]
 refine hK _ _ ?_
 clear hK K
 refine wpT_block ?_
 refine wpT_loop ?_
 refine wpT_keep1 (i := 0) (o := .arr 69 2 [x.av]) (by simp only [↓SP, SZ, ↓reduceIte, reduceCtorEq, nE, nA, nL, nT, sec_neq]) ?_
 refine wpT_ind (fun (i : Nat) tm' h' => (∃ m, h' = Hp.of [(0, .arr 69 2 [x.av])] (m + 1)) ∧ tm' 0 = .lst (es.map Evn.av) ∧ tm' 3 = .ptr 0 1 0 0 ∧ tm' 5 = I i ∧ i ≤ es.length ∧ idxP (fun y => decide (y = x)) i (es.drop i) = idxP (fun y => decide (y = x)) 0 es) (fun i => es.length - i) ?_ 0 ⟨⟨0, rfl⟩, rfl, rfl, rfl, by omega, rfl⟩
 rintro i tm' _ ⟨⟨m, rfl⟩, e0, e3, e5, hi, hx⟩ IH
 refine wpT_inLoop ?_
 refine wpT_seq ?_
 refine wpT_seq ?_
 refine wpT_region (by kernel_rfl) (fun K hK => ?_)
 simp only [↓SP, SZ, ↓reduceIte, reduceCtorEq, nE, nA, nL, nT, sec_neq, e0, e5]
 refine hK _ _ ?_
 clear hK K
 refine wpT_if (by rfl) (fun hc9 => ?_) (fun hc9 => ?_)
 ·
  have p9 := hc9
  try simp only [PB] at p9
  have hlt : i < es.length := by omega
  have hg := at_map (f := Evn.av) hlt
  rw [List.drop_eq_getElem_cons hlt, idxP] at hx
  refine wpT_skip ?_
  refine wpT_seq ?_
  refine wpT_block ?_
  refine wpT_seq ?_
  refine wpT_drawn [] mixed (by kernel_rfl) (m := 6) rfl (fun K hK => ?_)
  simp only [↓SP, SZ, ↓reduceIte, reduceCtorEq, nE, nA, nL, nT, sec_neq, e0, e3, e5, hg, evn_eql, hc9]
  refine hK _ _ ?_
  clear hK K
  refine wpT_if (by rfl) (fun hc17 => ?_) (fun hc17 => ?_)
  ·
   have p17 := hc17
   try simp only [PB] at p17
   rw [if_pos (by simpa using p17)] at hx
   refine wpT_seq ?_
   refine wpT_region (by kernel_rfl) (fun K hK => ?_)
   simp only [↓SP, SZ, ↓reduceIte, reduceCtorEq, nE, nA, nL, nT, sec_neq, e5, hc9, hc17]
   refine hK _ _ ?_
   clear hK K
   refine wpT_ret ⟨.inr rfl, ?_⟩
   show optK (resA _ _ _ [.tmp 4]) _
   simp only [SRO, ↓SP, SZ, ↓reduceIte, reduceCtorEq, nE, nA, nL, nT, sec_neq, hc9, hc17]
   refine Lend.eq ?_
   rw [← hx]
  ·
   have p17 := hc17
   try simp only [PB] at p17
   rw [if_neg (by simpa using p17)] at hx
   refine wpT_skip ?_
   refine wpT_inBlock ?_
   refine wpT_region (by kernel_rfl) (fun K hK => ?_)
   simp only [↓SP, SZ, ↓reduceIte, reduceCtorEq, nE, nA, nL, nT, sec_neq, e5, wrap64 (x := (i : Int) + 1) (by omega) (by omega), hc9, hc17]
   refine hK _ _ ?_
   clear hK K
   refine wpT_keep1 (i := 0) (o := .arr 69 2 [x.av]) (by simp only [↓SP, SZ, ↓reduceIte, reduceCtorEq, nE, nA, nL, nT, sec_neq]) ?_
   refine IH (i + 1) _ _ (by omega) ⟨⟨_, rfl⟩, by simp only [↓SP, SZ, ↓reduceIte, reduceCtorEq, nE, nA, nL, nT, sec_neq, e0], by simp only [↓SP, SZ, ↓reduceIte, reduceCtorEq, nE, nA, nL, nT, sec_neq, e3], by simp only [↓SP, SZ, ↓reduceIte, reduceCtorEq, nE, nA, nL, nT, sec_neq, Int.natCast_add, Int.cast_ofNat_Int], by omega, hx⟩
 ·
  have p9 := hc9
  try simp only [PB] at p9
  rw [List.drop_eq_nil_of_le (by omega), idxP] at hx
  refine wpT_exit rfl ?_
  refine wpT_seq ?_
  refine wpT_region (by kernel_rfl) (fun K hK => ?_)
  simp only [↓SP, SZ, ↓reduceIte, reduceCtorEq, nE, nA, nL, nT, sec_neq, hc9]
  refine hK _ _ ?_
  clear hK K
  refine wpT_ret ⟨.inr rfl, ?_⟩
  show optK (resA _ _ _ [.tmp 4]) _
  simp only [SRO, ↓SP, SZ, ↓reduceIte, reduceCtorEq, nE, nA, nL, nT, sec_neq, hc9]
  refine Lend.eq ?_
  rw [← hx]
theorem c71 (n : Int) : Pu Tryz.prog (.fn (.func 71) [] []) [I n] (Evn.av ⟨0, n⟩) := by
 refine pu_func Tryz.func71 rfl (by kernel_rfl) (by show _ ≤ 5; simp only [LN]; decide) (by simp only [IDS]) (by simp only [IDS]) (by simp only [IDS]) ?_
 rw [Tryz.ntmps71]
 refine wpT_seq ?_
 refine wpT_region (by kernel_rfl) (fun K hK => ?_)
 simp only [↓SP, SZ, ↓reduceIte, reduceCtorEq, nE, nA, nL, nT, sec_neq]
 refine hK _ _ ?_
 clear hK K
 refine wpT_seq ?_
 refine wpT_region (by kernel_rfl) (fun K hK => ?_)
 simp only [↓SP, SZ, ↓reduceIte, reduceCtorEq, nE, nA, nL, nT, sec_neq]
 refine hK _ _ ?_
 clear hK K
 refine wpT_ret ⟨.inr rfl, ?_⟩
 show optK (resA _ _ _ [.cell 2 69]) _
 simp only [SRO, ↓SP, SZ, ↓reduceIte, reduceCtorEq, nE, nA, nL, nT, sec_neq]
 exact .refl _
theorem slE (es : List Evn) (k : Nat) (hk : k ≤ es.length) (g : Nat → Option Ob) : opSlice Tryz.prog 24 (.lst (es.map Evn.av)) none (some (I k)) g = some (.lst ((es.take k).map Evn.av)) := by
  have := slT_lst sle24 (c := 2) (by rfl) (by decide) (es.map Evn.av) none (some (I k)) g (l := 0) (u := k) rfl rfl (Nat.zero_le _) (by simpa using hk) (fun v hv => by
    obtain ⟨a, _, rfl⟩ := List.mem_map.1 hv
    rfl)
  rw [this]
  simp
/-- What is in a timeline stands among the events. -/
structure TL.has (t : TL) (es : List Evn) : Prop where
  iss : ∀ w : Int, (⟨0, w⟩ : Evn) ∈ es ↔ 0 ≤ w ∧ w < t.iss.length
  ack : ∀ w : Int, (⟨1, w⟩ : Evn) ∈ es ↔ 0 ≤ w ∧ w < t.iss.length ∧ 0 ≤ t.ack.getD w.toNat 0
theorem evS_has {n k : Nat} {t : TL} {x : Evn} {es : List Evn} (hg : t.good n k) (hh : t.has es) (he : evE n t x = 0) : (evS k t x).has (es ++ [x]) := by
  obtain ⟨a, b, c⟩ := evE_ok hg.le he
  have hl := hg.len
  rcases c with ⟨c1, c2⟩ | ⟨c1, c2⟩
  · rw [evS, if_pos c1]
    refine ⟨fun w => ?_, fun w => ?_⟩
    · have hx : (⟨0, w⟩ : Evn) = x ↔ w = t.iss.length := by
        cases x
        simp only [Evn.mk.injEq] at c1 c2 ⊢
        omega
      rw [List.mem_append, hh.iss, List.mem_singleton, hx]
      simp only [List.length_append, List.length_cons, List.length_nil]
      omega
    · have hx : ¬ (⟨1, w⟩ : Evn) = x := by rintro rfl; simp at c1
      rw [List.mem_append, hh.ack, List.mem_singleton]
      simp only [hx, or_false, List.length_append, List.length_cons, List.length_nil]
      constructor
      · rintro ⟨h1, h2, h3⟩
        refine ⟨h1, by omega, ?_⟩
        rw [List.getD_eq_getElem?_getD, List.getElem?_append_left (by omega), ← List.getD_eq_getElem?_getD]
        exact h3
      · rintro ⟨h1, h2, h3⟩
        by_cases hw : w = t.iss.length
        · rw [hw, Int.toNat_natCast, List.getD_eq_getElem?_getD, List.getElem?_append_right (by omega), hl, Nat.sub_self] at h3
          simp at h3
        · refine ⟨h1, by omega, ?_⟩
          rw [List.getD_eq_getElem?_getD, List.getElem?_append_left (by omega), ← List.getD_eq_getElem?_getD] at h3
          exact h3
  · have c3 : ¬ x.kind = 0 := by omega
    rw [evS, if_neg c3]
    refine ⟨fun w => ?_, fun w => ?_⟩
    · have hx : ¬ (⟨0, w⟩ : Evn) = x := by rintro rfl; simp at c1
      rw [List.mem_append, hh.iss, List.mem_singleton]
      simp only [hx, or_false]
    · have hx : (⟨1, w⟩ : Evn) = x ↔ w = x.wr := by
        cases x
        simp only [Evn.mk.injEq] at c1 ⊢
        omega
      rw [List.mem_append, hh.ack, List.mem_singleton, hx]
      simp only [List.getD_eq_getElem?_getD, List.getElem?_set]
      by_cases hw : w = x.wr
      · subst hw
        rw [if_pos rfl, if_pos (by omega)]
        simp only [Option.getD_some]
        exact ⟨fun _ => ⟨a, c2, by omega⟩, fun _ => .inr (by trivial)⟩
      · by_cases h0 : 0 ≤ w
        · rw [if_neg (by omega)]
          simp [hw]
        · simp [hw, h0]
theorem c42 (h : Hist) (hs : h.sm) : Pu Tryz.prog (.fn (.func 42) [] []) [h.av] (I (histE h)) := by
 refine pu_func Tryz.func42 rfl (by kernel_rfl) (by show _ ≤ 93; simp only [LN]; decide) (by simp only [IDS]) (by simp only [IDS]) (by simp only [IDS]) ?_
 rw [Tryz.ntmps42]
 have hh := hs.ok
 have hw := hs.2.1
 have he := hs.2.2.1
 refine wpT_seq ?_
 refine wpT_region (by kernel_rfl) (fun K hK => ?_)
 simp only [↓SP, SZ, ↓reduceIte, reduceCtorEq, nE, nA, nL, nT, evn_eql, hist_cs]
 refine hK _ _ ?_
 clear hK K
 refine wpT_seq ?_
 refine wpT_seq ?_
 refine wpT_region (by kernel_rfl) (fun K hK => ?_)
 simp only [↓SP, SZ, ↓reduceIte, reduceCtorEq, nE, nA, nL, nT, evn_eql, hist_cs]
 refine Pu.call (c68 h.sizes hh.1) ?_
 simp only [↓SP, SZ, ↓reduceIte, reduceCtorEq, nE, nA, nL, nT, evn_eql, hist_cs]
 refine hK _ _ ?_
 clear hK K
 refine wpT_seq ?_
 refine wpT_region (by kernel_rfl) (fun K hK => ?_)
 simp only [↓SP, SZ, ↓reduceIte, reduceCtorEq, nE, nA, nL, nT, evn_eql, hist_cs]
 refine hK _ _ ?_
 clear hK K
 refine wpT_if (by rfl) (fun hc13 => ?_) (fun hc13 => ?_)
 ·
  have p13 := hc13
  try simp only [PB] at p13
  have hx : histE h = sizesE h.sizes := if_pos p13
  refine wpT_seq ?_
  refine wpT_region (by kernel_rfl) (fun K hK => ?_)
  simp only [↓SP, SZ, ↓reduceIte, reduceCtorEq, nE, nA, nL, nT, evn_eql, hist_cs, hc13]
  refine hK _ _ ?_
  clear hK K
  refine wpT_ret ⟨.inr rfl, ?_⟩
  show optK (resA _ _ _ [.tmp 2]) _
  simp only [SRO, ↓SP, SZ, ↓reduceIte, reduceCtorEq, nE, nA, nL, nT, evn_eql, hist_cs, hc13]
  refine Lend.eq ?_
  first
    | rw [hx]
    | rw [hx3]
 ·
  have p13 := hc13
  try simp only [PB] at p13
  have hsz : sizesE h.sizes = 0 := by simpa using p13
  refine wpT_skip ?_
  refine wpT_seq ?_
  refine wpT_seq ?_
  refine wpT_region (by kernel_rfl) (fun K hK => ?_)
  simp only [↓SP, SZ, ↓reduceIte, reduceCtorEq, nE, nA, nL, nT, evn_eql, hist_cs, hc13]
  refine hK _ _ ?_
  clear hK K
  refine wpT_if (by rfl) (fun hc18 => ?_) (fun hc18 => ?_)
  ·
   have p18 := hc18
   try simp only [PB] at p18
   have hx : histE h = 6 := by rw [histE, if_neg (by omega), if_pos (by omega)]
   refine wpT_seq ?_
   refine wpT_region (by kernel_rfl) (fun K hK => ?_)
   simp only [↓SP, SZ, ↓reduceIte, reduceCtorEq, nE, nA, nL, nT, evn_eql, hist_cs, hc13, hc18]
   refine hK _ _ ?_
   clear hK K
   refine wpT_ret ⟨.inr rfl, ?_⟩
   show optK (resA _ _ _ [.tmp 2]) _
   simp only [SRO, ↓SP, SZ, ↓reduceIte, reduceCtorEq, nE, nA, nL, nT, evn_eql, hist_cs, hc13, hc18]
   refine Lend.eq ?_
   first
     | rw [hx]
     | rw [hx3]
  ·
   have p18 := hc18
   try simp only [PB] at p18
   refine wpT_skip ?_
   refine wpT_seq ?_
   refine wpT_seq ?_
   refine wpT_region (by kernel_rfl) (fun K hK => ?_)
   simp only [↓SP, SZ, ↓reduceIte, reduceCtorEq, nE, nA, nL, nT, evn_eql, hist_cs, hc13, hc18]
   refine hK _ _ ?_
   clear hK K
   refine wpT_block ?_
   refine wpT_loop ?_
   refine wpT_keep1 (i := 0) (o := .arr 26 3 [h.av]) (by simp only [↓SP, SZ, ↓reduceIte, reduceCtorEq, nE, nA, nL, nT, evn_eql]) ?_
   refine wpT_ind (fun (i : Nat) tm' h' => (∃ m, h' = Hp.of [(0, .arr 26 3 [h.av])] (m + 1)) ∧ tm' 1 = .ptr 0 1 0 0 ∧ tm' 4 = I i ∧ i ≤ h.ws.length ∧ fitsAll h.sizes (h.ws.drop i) = fitsAll h.sizes h.ws) (fun i => h.ws.length - i) ?_ 0 ⟨⟨0, rfl⟩, rfl, rfl, by omega, rfl⟩
   rintro i tm' _ ⟨⟨m, rfl⟩, e1, e4, hi, hx⟩ IH
   refine wpT_inLoop ?_
   refine wpT_seq ?_
   refine wpT_seq ?_
   refine wpT_region (by kernel_rfl) (fun K hK => ?_)
   simp only [↓SP, SZ, ↓reduceIte, reduceCtorEq, nE, nA, nL, nT, evn_eql, hist_cs, e1, e4]
   refine hK _ _ ?_
   clear hK K
   refine wpT_if (by rfl) (fun hc23 => ?_) (fun hc23 => ?_)
   ·
    have p23 := hc23
    try simp only [PB] at p23
    have hlt : i < h.ws.length := by omega
    have hg := at_map (f := Wr.av) hlt
    rw [List.drop_eq_getElem_cons hlt, fitsAll] at hx
    refine wpT_skip ?_
    refine wpT_seq ?_
    refine wpT_block ?_
    refine wpT_seq ?_
    refine wpT_drawn [] mixed (by kernel_rfl) (m := 9) rfl (fun K hK => ?_)
    simp only [↓SP, SZ, ↓reduceIte, reduceCtorEq, nE, nA, nL, nT, evn_eql, hist_cs, e1, e4, hg, hc23]
    refine Pu.callD (c69 h.sizes h.ws[i] (sizesE_le hsz)) ?_
    simp only [↓SP, SZ, ↓reduceIte, reduceCtorEq, nE, nA, nL, nT, evn_eql, hist_cs, e1, e4, hg, hc23]
    refine hK _ _ ?_
    clear hK K
    refine wpT_seq ?_
    refine wpT_region (by kernel_rfl) (fun K hK => ?_)
    simp only [↓SP, SZ, ↓reduceIte, reduceCtorEq, nE, nA, nL, nT, evn_eql, hist_cs, hc23]
    refine hK _ _ ?_
    clear hK K
    refine wpT_if (by rfl) (fun hc35 => ?_) (fun hc35 => ?_)
    ·
     have p35 := hc35
     try simp only [PB] at p35
     have hx3 : histE h = fitsE h.sizes h.ws[i] := by rw [histE, if_neg (by omega), if_neg (by omega), ← hx, if_pos p35, if_pos p35]
     refine wpT_seq ?_
     refine wpT_region (by kernel_rfl) (fun K hK => ?_)
     simp only [↓SP, SZ, ↓reduceIte, reduceCtorEq, nE, nA, nL, nT, evn_eql, hist_cs, hc23, hc35]
     refine hK _ _ ?_
     clear hK K
     refine wpT_ret ⟨.inr rfl, ?_⟩
     show optK (resA _ _ _ [.tmp 2]) _
     simp only [SRO, ↓SP, SZ, ↓reduceIte, reduceCtorEq, nE, nA, nL, nT, evn_eql, hist_cs, hc23, hc35]
     refine Lend.eq ?_
     first
       | rw [hx]
       | rw [hx3]
    ·
     have p35 := hc35
     try simp only [PB] at p35
     rw [if_neg (by omega)] at hx
     refine wpT_skip ?_
     refine wpT_inBlock ?_
     refine wpT_region (by kernel_rfl) (fun K hK => ?_)
     simp only [↓SP, SZ, ↓reduceIte, reduceCtorEq, nE, nA, nL, nT, evn_eql, hist_cs, e4, wrap64 (x := (i : Int) + 1) (by omega) (by omega), hc23, hc35]
     refine hK _ _ ?_
     clear hK K
     refine wpT_keep1 (i := 0) (o := .arr 26 3 [h.av]) (by simp only [↓SP, SZ, ↓reduceIte, reduceCtorEq, nE, nA, nL, nT, evn_eql]) ?_
     refine IH (i + 1) _ _ (by omega) ⟨⟨_, rfl⟩, by simp only [↓SP, SZ, ↓reduceIte, reduceCtorEq, nE, nA, nL, nT, evn_eql, e1], by simp only [↓SP, SZ, ↓reduceIte, reduceCtorEq, nE, nA, nL, nT, evn_eql, Int.natCast_add, Int.cast_ofNat_Int], by omega, hx⟩
   ·
    have p23 := hc23
    try simp only [PB] at p23
    rw [List.drop_eq_nil_of_le (by omega), fitsAll] at hx
    have hfa := hx.symm
    have hx0 : histE h = if (histRun h).1 ≠ 0 then (histRun h).1 else if (histRun h).2.iss.length < h.ws.length then 3 else 0 := by rw [histE, if_neg (by omega), if_neg (by omega), if_neg (by omega)]
    refine wpT_exit rfl ?_
    refine wpT_seq ?_
    refine wpT_region (by kernel_rfl) (fun K hK => ?_)
    simp only [↓SP, SZ, ↓reduceIte, reduceCtorEq, nE, nA, nL, nT, evn_eql, hist_cs, hc23]
    refine hK _ _ ?_
    clear hK K
    refine wpT_seq ?_
    refine wpT_seq ?_
    refine wpT_region (by kernel_rfl) (fun K hK => ?_)
    simp only [↓SP, SZ, ↓reduceIte, reduceCtorEq, nE, nA, nL, nT, evn_eql, hist_cs, hc23]
    refine hK _ _ ?_
    clear hK K
    refine wpT_block ?_
    refine wpT_loop ?_
    clear IH hi hx
    refine wpT_ind (fun (i : Nat) tm' h' => ∃ t : TL, (∃ m, h' = Hp.of [(0, .arr 26 3 [h.av])] (m + 1)) ∧ tm' 1 = .ptr 0 1 0 0 ∧ tm' 6 = I t.iss.length ∧ tm' 7 = I i ∧ i ≤ h.evs.length ∧ t.good h.ws.length i ∧ t.has (h.evs.take i) ∧ evRun h.ws.length i t (h.evs.drop i) = histRun h) (fun i => h.evs.length - i) ?_ 0 ⟨⟨[], []⟩, ⟨_, rfl⟩, by simp only [↓SP, SZ, ↓reduceIte, reduceCtorEq, nE, nA, nL, nT, evn_eql, e1], rfl, rfl, by omega, tl0_good _, ⟨fun w => by simp <;> omega, fun w => by simp <;> omega⟩, rfl⟩
    clear e1 e4
    rintro i tm' _ ⟨t, ⟨m, rfl⟩, e1, e6, e7, hi, hgd, hhas, hrun⟩ IH
    have htl := hgd.len
    have htn := hgd.le
    refine wpT_inLoop ?_
    refine wpT_seq ?_
    refine wpT_seq ?_
    refine wpT_region (by kernel_rfl) (fun K hK => ?_)
    simp only [↓SP, SZ, ↓reduceIte, reduceCtorEq, nE, nA, nL, nT, evn_eql, hist_cs, e1, e7]
    refine hK _ _ ?_
    clear hK K
    refine wpT_if (by rfl) (fun hc41 => ?_) (fun hc41 => ?_)
    ·
     have p41 := hc41
     try simp only [PB] at p41
     have hlt : i < h.evs.length := by omega
     have hg := at_map (f := Evn.av) hlt
     rw [List.drop_eq_getElem_cons hlt] at hrun
     have herr : ∀ e, e ≠ 0 → evE h.ws.length t h.evs[i] = e → histE h = e := fun e h0 h1 => by
       rw [evRun_err (by rw [h1]; exact h0)] at hrun
       have h2 : (histRun h).1 = e := by rw [← hrun]; exact h1
       rw [hx0, h2, if_pos h0]
     have hok : evE h.ws.length t h.evs[i] = 0 → (evS i t h.evs[i]).good h.ws.length (i + 1) ∧ (evS i t h.evs[i]).has (h.evs.take (i + 1)) ∧ evRun h.ws.length (i + 1) (evS i t h.evs[i]) (h.evs.drop (i + 1)) = histRun h := fun h0 => by
       have ht : h.evs.take (i + 1) = h.evs.take i ++ [h.evs[i]] := by rw [List.take_add_one, List.getElem?_eq_getElem hlt]; rfl
       rw [evRun_step h0, evT_ok h0] at hrun
       exact ⟨evS_good hgd h0, by rw [ht]; exact evS_has hgd hhas h0, hrun⟩
     refine wpT_skip ?_
     refine wpT_seq ?_
     refine wpT_block ?_
     refine wpT_seq ?_
     refine wpT_region (by kernel_rfl) (fun K hK => ?_)
     simp only [↓SP, SZ, ↓reduceIte, reduceCtorEq, nE, nA, nL, nT, evn_eql, hist_cs, e1, e7, hg, hc41]
     refine hK _ _ ?_
     clear hK K
     refine wpT_block ?_
     refine wpT_seq ?_
     refine wpT_region (by kernel_rfl) (fun K hK => ?_)
     simp only [↓SP, SZ, ↓reduceIte, reduceCtorEq, nE, nA, nL, nT, evn_eql, hist_cs, Evn.av, hc41]
     refine hK _ _ ?_
     clear hK K
     refine wpT_if (by rfl) (fun hc49 => ?_) (fun hc49 => ?_)
     ·
      have p49 := hc49
      try simp only [PB] at p49
      have hk0 : (h.evs[i]).kind = 0 := by simpa using p49
      have hev0 : evE h.ws.length t h.evs[i] = if (h.evs[i]).wr ≠ t.iss.length ∨ (h.evs[i]).wr ≥ h.ws.length then 3 else 0 := if_pos hk0
      refine wpT_seq ?_
      refine wpT_seq ?_
      refine wpT_region (by kernel_rfl) (fun K hK => ?_)
      simp only [↓SP, SZ, ↓reduceIte, reduceCtorEq, nE, nA, nL, nT, evn_eql, hist_cs, e1, e6, Evn.av, hc41, hc49]
      refine guardO_split (fun hg57 => ?_) (fun hg57 => ?_)
      ·
       have p57 := hg57
       try simp only [PB] at p57
       simp only [↓SP, SZ, ↓reduceIte, reduceCtorEq, nE, nA, nL, nT, evn_eql, hist_cs, e1, e6, Evn.av, hc41, hc49, hg57]
       refine hK _ _ ?_
       clear hK K
       refine wpT_if (by rfl) (fun hc63 => ?_) (fun hc63 => ?_)
       ·
        have p63 := hc63
        try simp only [PB] at p63
        have hx := herr 3 (by omega) (by rw [hev0]; exact if_pos (by first | exact .inl p57 | exact .inr (by omega)))
        refine wpT_seq ?_
        refine wpT_region (by kernel_rfl) (fun K hK => ?_)
        simp only [↓SP, SZ, ↓reduceIte, reduceCtorEq, nE, nA, nL, nT, evn_eql, hist_cs, hc41, hc49, hg57, hc63]
        refine hK _ _ ?_
        clear hK K
        refine wpT_ret ⟨.inr rfl, ?_⟩
        show optK (resA _ _ _ [.tmp 2]) _
        simp only [SRO, ↓SP, SZ, ↓reduceIte, reduceCtorEq, nE, nA, nL, nT, evn_eql, hist_cs, hc41, hc49, hg57, hc63]
        refine Lend.eq ?_
        first
          | rw [hx]
          | rw [hx3]
       ·
        have p63 := hc63
        try simp only [PB] at p63
        obtain ⟨g1, g2, g3⟩ := hok (by rw [hev0]; exact if_neg (by omega))
        have hlen : (evS i t h.evs[i]).iss.length = t.iss.length + 1 := by rw [evS, if_pos hk0]; simp
        refine wpT_skip ?_
        refine wpT_region (by kernel_rfl) (fun K hK => ?_)
        simp only [↓SP, SZ, ↓reduceIte, reduceCtorEq, nE, nA, nL, nT, evn_eql, hist_cs, e6, wrap64 (x := (t.iss.length : Int) + 1) (by omega) (by omega), hc41, hc49, hg57, hc63]
        refine hK _ _ ?_
        clear hK K
        refine wpT_inBlock ?_
        refine wpT_inBlock ?_
        refine wpT_region (by kernel_rfl) (fun K hK => ?_)
        simp only [↓SP, SZ, ↓reduceIte, reduceCtorEq, nE, nA, nL, nT, evn_eql, hist_cs, e7, wrap64 (x := (i : Int) + 1) (by omega) (by omega), hc41, hc49, hg57, hc63]
        refine hK _ _ ?_
        clear hK K
        refine wpT_keep1 (i := 0) (o := .arr 26 3 [h.av]) (by simp only [↓SP, SZ, ↓reduceIte, reduceCtorEq, nE, nA, nL, nT, evn_eql]) ?_
        refine IH (i + 1) _ _ (by omega) ⟨evS i t h.evs[i], ⟨_, rfl⟩, by simp only [↓SP, SZ, ↓reduceIte, reduceCtorEq, nE, nA, nL, nT, evn_eql, e1], by simp only [↓SP, SZ, ↓reduceIte, reduceCtorEq, nE, nA, nL, nT, evn_eql, e6, hlen, Int.natCast_add, Int.cast_ofNat_Int], by simp only [↓SP, SZ, ↓reduceIte, reduceCtorEq, nE, nA, nL, nT, evn_eql, Int.natCast_add, Int.cast_ofNat_Int], by omega, g1, g2, g3⟩
      ·
       simp only [Bool.not_true, Bool.not_false] at hg57
       have p57 := hg57
       try simp only [PB] at p57
       simp only [↓SP, SZ, ↓reduceIte, reduceCtorEq, nE, nA, nL, nT, evn_eql, hist_cs, e1, e6, Evn.av, hc41, hc49, hg57]
       refine hK _ _ ?_
       clear hK K
       refine wpT_ifT (by simp only [↓SP, SZ, ↓reduceIte, reduceCtorEq, nE, nA, nL, nT, evn_eql, hist_cs, hc41, hc49, hg57]) ?_
       have hx := herr 3 (by omega) (by rw [hev0]; exact if_pos (by first | exact .inl p57 | exact .inr (by omega)))
       refine wpT_seq ?_
       refine wpT_region (by kernel_rfl) (fun K hK => ?_)
       simp only [↓SP, SZ, ↓reduceIte, reduceCtorEq, nE, nA, nL, nT, evn_eql, hist_cs, hc41, hc49, hg57]
       refine hK _ _ ?_
       clear hK K
       refine wpT_ret ⟨.inr rfl, ?_⟩
       show optK (resA _ _ _ [.tmp 2]) _
       simp only [SRO, ↓SP, SZ, ↓reduceIte, reduceCtorEq, nE, nA, nL, nT, evn_eql, hist_cs, hc41, hc49, hg57]
       refine Lend.eq ?_
       first
         | rw [hx]
         | rw [hx3]
     ·
      have p49 := hc49
      try simp only [PB] at p49
      have hk0 : ¬ (h.evs[i]).kind = 0 := by simpa using p49
      refine wpT_seq ?_
      refine wpT_region (by kernel_rfl) (fun K hK => ?_)
      simp only [↓SP, SZ, ↓reduceIte, reduceCtorEq, nE, nA, nL, nT, evn_eql, hist_cs, Evn.av, hc41, hc49]
      refine hK _ _ ?_
      clear hK K
      refine wpT_if (by rfl) (fun hc66 => ?_) (fun hc66 => ?_)
      ·
       have p66 := hc66
       try simp only [PB] at p66
       have hx := herr 3 (by omega) (by rw [evE, if_neg hk0, if_neg (by simpa using p66)])
       refine wpT_seq ?_
       refine wpT_region (by kernel_rfl) (fun K hK => ?_)
       simp only [↓SP, SZ, ↓reduceIte, reduceCtorEq, nE, nA, nL, nT, evn_eql, hist_cs, hc41, hc49, hc66]
       refine hK _ _ ?_
       clear hK K
       refine wpT_ret ⟨.inr rfl, ?_⟩
       show optK (resA _ _ _ [.tmp 2]) _
       simp only [SRO, ↓SP, SZ, ↓reduceIte, reduceCtorEq, nE, nA, nL, nT, evn_eql, hist_cs, hc41, hc49, hc66]
       refine Lend.eq ?_
       first
         | rw [hx]
         | rw [hx3]
      ·
       have p66 := hc66
       try simp only [PB] at p66
       have hk1 : (h.evs[i]).kind = 1 := by simpa using p66
       have hxe : h.evs[i] = ⟨1, (h.evs[i]).wr⟩ := by
         generalize h.evs[i] = x at hk1
         cases x
         simp only at hk1
         subst hk1
         rfl
       have hev1 : evE h.ws.length t h.evs[i] = if (h.evs[i]).wr < 0 ∨ (h.evs[i]).wr ≥ t.iss.length then 7 else if t.ack.getD (h.evs[i]).wr.toNat 0 ≥ 0 then 8 else 0 := by rw [evE, if_neg hk0, if_pos hk1]
       have htl2 : (h.evs.take i).length < 4611686018427387904 := by rw [List.length_take]; omega
       refine wpT_seq ?_
       refine wpT_drawn [(0, 6), (1, 6), (3, 6)] mixed (by kernel_rfl) (m := 10) rfl (fun K hK => ?_)
       simp only [↓SP, SZ, ↓reduceIte, reduceCtorEq, nE, nA, nL, nT, evn_eql, hist_cs, e1, e7, Evn.av, Option.map_some, Option.map_none, rd_cut_ns, slE h.evs i hi, idxP_lt, any_eq, hc41, hc49, hc66]
       refine Pu.callD (c71 (h.evs[i]).wr) ?_
       simp only [↓SP, SZ, ↓reduceIte, reduceCtorEq, nE, nA, nL, nT, evn_eql, hist_cs, e1, e7, Evn.av, Option.map_some, Option.map_none, rd_cut_ns, slE h.evs i hi, idxP_lt, any_eq, hc41, hc49, hc66]
       refine Pu.callD (c70 (h.evs.take i) ⟨0, (h.evs[i]).wr⟩ htl2) ?_
       simp only [↓SP, SZ, ↓reduceIte, reduceCtorEq, nE, nA, nL, nT, evn_eql, hist_cs, e1, e7, Evn.av, Option.map_some, Option.map_none, rd_cut_ns, slE h.evs i hi, idxP_lt, any_eq, hc41, hc49, hc66]
       refine hK _ _ ?_
       clear hK K
       refine wpT_if (by rfl) (fun hc70 => ?_) (fun hc70 => ?_)
       ·
        have p70 := hc70
        try simp only [PB] at p70
        have h7 := hhas.iss (h.evs[i]).wr
        have hx := herr 7 (by omega) (by rw [hev1]; exact if_pos (by
          have : ¬ (⟨0, (h.evs[i]).wr⟩ : Evn) ∈ h.evs.take i := by simpa using p70
          rw [h7] at this
          omega))
        refine wpT_seq ?_
        refine wpT_region (by kernel_rfl) (fun K hK => ?_)
        simp only [↓SP, SZ, ↓reduceIte, reduceCtorEq, nE, nA, nL, nT, evn_eql, hist_cs, hc41, hc49, hc66, hc70]
        refine hK _ _ ?_
        clear hK K
        refine wpT_ret ⟨.inr rfl, ?_⟩
        show optK (resA _ _ _ [.tmp 2]) _
        simp only [SRO, ↓SP, SZ, ↓reduceIte, reduceCtorEq, nE, nA, nL, nT, evn_eql, hist_cs, hc41, hc49, hc66, hc70]
        refine Lend.eq ?_
        first
          | rw [hx]
          | rw [hx3]
       ·
        have p70 := hc70
        try simp only [PB] at p70
        have h7 := hhas.iss (h.evs[i]).wr
        have h8 := hhas.ack (h.evs[i]).wr
        have hin : (⟨0, (h.evs[i]).wr⟩ : Evn) ∈ h.evs.take i := by simpa using p70
        rw [h7] at hin
        refine wpT_seq ?_
        refine wpT_drawn [] mixed (by kernel_rfl) (m := 8) rfl (fun K hK => ?_)
        simp only [↓SP, SZ, ↓reduceIte, reduceCtorEq, nE, nA, nL, nT, evn_eql, hist_cs, e1, e7, Option.map_some, Option.map_none, rd_cut_ns, slE h.evs i hi, idxP_ge, any_eq, hc41, hc49, hc66, hc70]
        refine Pu.callD (c70 (h.evs.take i) h.evs[i] htl2) ?_
        simp only [↓SP, SZ, ↓reduceIte, reduceCtorEq, nE, nA, nL, nT, evn_eql, hist_cs, e1, e7, Option.map_some, Option.map_none, rd_cut_ns, slE h.evs i hi, idxP_ge, any_eq, hc41, hc49, hc66, hc70]
        refine hK _ _ ?_
        clear hK K
        refine wpT_if (by rfl) (fun hc80 => ?_) (fun hc80 => ?_)
        ·
         have p80 := hc80
         try simp only [PB] at p80
         have hm8 : h.evs[i] ∈ h.evs.take i := by simpa using p80
         rw [hxe, h8] at hm8
         have hx := herr 8 (by omega) (by rw [hev1, if_neg (by omega)]; exact if_pos hm8.2.2)
         refine wpT_seq ?_
         refine wpT_region (by kernel_rfl) (fun K hK => ?_)
         simp only [↓SP, SZ, ↓reduceIte, reduceCtorEq, nE, nA, nL, nT, evn_eql, hist_cs, hc41, hc49, hc66, hc70, hc80]
         refine hK _ _ ?_
         clear hK K
         refine wpT_ret ⟨.inr rfl, ?_⟩
         show optK (resA _ _ _ [.tmp 2]) _
         simp only [SRO, ↓SP, SZ, ↓reduceIte, reduceCtorEq, nE, nA, nL, nT, evn_eql, hist_cs, hc41, hc49, hc66, hc70, hc80]
         refine Lend.eq ?_
         first
           | rw [hx]
           | rw [hx3]
        ·
         have p80 := hc80
         try simp only [PB] at p80
         have hm8 : ¬ h.evs[i] ∈ h.evs.take i := by simpa using p80
         rw [hxe, h8] at hm8
         obtain ⟨g1, g2, g3⟩ := hok (by rw [hev1, if_neg (by omega), if_neg (fun h9 => hm8 ⟨hin.1, hin.2, h9⟩)])
         have hlen : (evS i t h.evs[i]).iss.length = t.iss.length := by rw [evS, if_neg hk0]
         refine wpT_skip ?_
         refine wpT_inBlock ?_
         refine wpT_inBlock ?_
         refine wpT_region (by kernel_rfl) (fun K hK => ?_)
         simp only [↓SP, SZ, ↓reduceIte, reduceCtorEq, nE, nA, nL, nT, evn_eql, hist_cs, e7, wrap64 (x := (i : Int) + 1) (by omega) (by omega), hc41, hc49, hc66, hc70, hc80]
         refine hK _ _ ?_
         clear hK K
         refine wpT_keep1 (i := 0) (o := .arr 26 3 [h.av]) (by simp only [↓SP, SZ, ↓reduceIte, reduceCtorEq, nE, nA, nL, nT, evn_eql]) ?_
         refine IH (i + 1) _ _ (by omega) ⟨evS i t h.evs[i], ⟨_, rfl⟩, by simp only [↓SP, SZ, ↓reduceIte, reduceCtorEq, nE, nA, nL, nT, evn_eql, e1], by simp only [↓SP, SZ, ↓reduceIte, reduceCtorEq, nE, nA, nL, nT, evn_eql, e6, hlen, Int.natCast_add, Int.cast_ofNat_Int], by simp only [↓SP, SZ, ↓reduceIte, reduceCtorEq, nE, nA, nL, nT, evn_eql, Int.natCast_add, Int.cast_ofNat_Int], by omega, g1, g2, g3⟩
    ·
     have p41 := hc41
     try simp only [PB] at p41
     rw [List.drop_eq_nil_of_le (by omega), evRun] at hrun
     have hr1 : (histRun h).1 = 0 := by rw [← hrun]
     have hr2 : (histRun h).2 = t := by rw [← hrun]
     refine wpT_exit rfl ?_
     refine wpT_seq ?_
     refine wpT_seq ?_
     refine wpT_region (by kernel_rfl) (fun K hK => ?_)
     simp only [↓SP, SZ, ↓reduceIte, reduceCtorEq, nE, nA, nL, nT, evn_eql, hist_cs, e1, e6, hc41]
     refine hK _ _ ?_
     clear hK K
     refine wpT_if (by rfl) (fun hc92 => ?_) (fun hc92 => ?_)
     ·
      have p92 := hc92
      try simp only [PB] at p92
      have hx : histE h = 3 := by rw [hx0, if_neg (by omega), hr2, if_pos (by omega)]
      refine wpT_seq ?_
      refine wpT_region (by kernel_rfl) (fun K hK => ?_)
      simp only [↓SP, SZ, ↓reduceIte, reduceCtorEq, nE, nA, nL, nT, evn_eql, hist_cs, hc41, hc92]
      refine hK _ _ ?_
      clear hK K
      refine wpT_ret ⟨.inr rfl, ?_⟩
      show optK (resA _ _ _ [.tmp 2]) _
      simp only [SRO, ↓SP, SZ, ↓reduceIte, reduceCtorEq, nE, nA, nL, nT, evn_eql, hist_cs, hc41, hc92]
      refine Lend.eq ?_
      first
        | rw [hx]
        | rw [hx3]
     ·
      have p92 := hc92
      try simp only [PB] at p92
      have hx : histE h = 0 := by rw [hx0, if_neg (by omega), hr2, if_neg (by omega)]
      refine wpT_skip ?_
      refine wpT_seq ?_
      refine wpT_region (by kernel_rfl) (fun K hK => ?_)
      simp only [↓SP, SZ, ↓reduceIte, reduceCtorEq, nE, nA, nL, nT, evn_eql, hist_cs, hc41, hc92]
      refine hK _ _ ?_
      clear hK K
      refine wpT_ret ⟨.inr rfl, ?_⟩
      show optK (resA _ _ _ [.tmp 2]) _
      simp only [SRO, ↓SP, SZ, ↓reduceIte, reduceCtorEq, nE, nA, nL, nT, evn_eql, hist_cs, hc41, hc92]
      refine Lend.eq ?_
      first
        | rw [hx]
        | rw [hx3]
end Go.Proofs.YtfdfkmcplhloaaaGreat
end

section
set_option linter.unusedSimpArgs false
set_option linter.unusedVariables false
namespace Go.Proofs.YtfdfkmcplhloaaaGreat
open Go.Proofs
open Nat renaming reduceEqDiff → nE, reduceAdd → nA, reduceLeDiff → nL, reduceLT → nT
set_option maxRecDepth 10000
def conS (w : Wr) (v k : Int) : Sec := (contW w v k).getD sec0
def conO (w : Wr) (v k : Int) : Bool := (contW w v k).isSome
theorem c56 (w : Wr) (v k : Int) (h3 : 0 ≤ w.start) (h4 : w.start < 4000000) (h5 : w.data.length < 4000000) : Pu Tryz.prog (.fn (.func 56) [] []) [w.av, I v, I k] (.tup [(conS w v k).av, B (conO w v k)]) := by
 refine pu_func Tryz.func56 rfl (by kernel_rfl) (by show _ ≤ 37; simp only [LN]; decide) (by simp only [IDS]) (by simp only [IDS]) (by simp only [IDS]) ?_
 rw [Tryz.ntmps56]
 have hwr : IntKind.i64.wrap (w.start + (w.data.length : Int)) = w.start + w.data.length := wrap64 (by omega) (by omega)
 refine wpT_seq ?_
 refine wpT_region (by kernel_rfl) (fun K hK => ?_)
 simp only [↓SP, SZ, ↓reduceIte, reduceCtorEq, nE, nA, nL, nT, sec_neq, sec_eql, Wr.av, hwr]
 refine hK _ _ ?_
 clear hK K
 refine wpT_seq ?_
 refine wpT_seq ?_
 refine wpT_region (by kernel_rfl) (fun K hK => ?_)
 simp only [↓SP, SZ, ↓reduceIte, reduceCtorEq, nE, nA, nL, nT, sec_neq, sec_eql, Wr.av, hwr]
 refine guardO_split (fun hg12 => ?_) (fun hg12 => ?_)
 ·
  have p12 := hg12
  try simp only [PB] at p12
  have hv : w.vol = v := by simpa using p12
  simp only [↓SP, SZ, ↓reduceIte, reduceCtorEq, nE, nA, nL, nT, sec_neq, sec_eql, Wr.av, hwr, hg12]
  refine guardO_split (fun hg18 => ?_) (fun hg18 => ?_)
  ·
   have p18 := hg18
   try simp only [PB] at p18
   simp only [↓SP, SZ, ↓reduceIte, reduceCtorEq, nE, nA, nL, nT, sec_neq, sec_eql, Wr.av, hwr, hg12, hg18]
   refine hK _ _ ?_
   clear hK K
   refine wpT_if (by rfl) (fun hc27 => ?_) (fun hc27 => ?_)
   ·
    have p27 := hc27
    try simp only [PB] at p27
    have hn2 : contW w v k = none := by
      first
        | exact hn
        | exact (if_pos ⟨hv, by omega⟩).trans (List.getElem?_eq_none (by omega))
    refine wpT_seq ?_
    refine wpT_region (by kernel_rfl) (fun K hK => ?_)
    simp only [↓SP, SZ, ↓reduceIte, reduceCtorEq, nE, nA, nL, nT, sec_neq, sec_eql, Wr.av, hwr, secB0, hg12, hg18, hc27]
    refine hK _ _ ?_
    clear hK K
    refine wpT_ret ⟨.inr rfl, ?_⟩
    show optK (resA _ _ _ [.cell 6 49, .tmp 7]) _
    simp only [SRO, ↓SP, SZ, ↓reduceIte, reduceCtorEq, nE, nA, nL, nT, sec_neq, sec_eql, Wr.av, hwr, hg12, hg18, hc27]
    rw [conS, conO, hn2]
    exact .refl _
   ·
    have p27 := hc27
    try simp only [PB] at p27
    obtain ⟨j, hj⟩ := Int.eq_ofNat_of_zero_le (a := k - w.start) (by omega)
    have hjl : j < w.data.length := by omega
    have hg := at_map (f := Sec.av) hjl
    have hc : contW w v k = some w.data[j] := by rw [contW, if_pos ⟨hv, by omega⟩, show (k - w.start).toNat = j by omega, List.getElem?_eq_getElem hjl]
    have hw2 : IntKind.i64.wrap (k - w.start) = (j : Int) := by rw [wrap64 (by omega) (by omega), hj]
    refine wpT_skip ?_
    refine wpT_seq ?_
    refine wpT_region (by kernel_rfl) (fun K hK => ?_)
    simp only [↓SP, SZ, ↓reduceIte, reduceCtorEq, nE, nA, nL, nT, sec_neq, sec_eql, Wr.av, hwr, hw2, hg, hg12, hg18, hc27]
    refine hK _ _ ?_
    clear hK K
    refine wpT_ret ⟨.inr rfl, ?_⟩
    show optK (resA _ _ _ [.cell 6 49, .tmp 7]) _
    simp only [SRO, ↓SP, SZ, ↓reduceIte, reduceCtorEq, nE, nA, nL, nT, sec_neq, sec_eql, Wr.av, hwr, hg12, hg18, hc27]
    rw [conS, conO, hc]
    exact .refl _
  ·
   simp only [Bool.not_true, Bool.not_false] at hg18
   have p18 := hg18
   try simp only [PB] at p18
   have hn : contW w v k = none := if_neg (fun h => by have := h.2; omega)
   simp only [↓SP, SZ, ↓reduceIte, reduceCtorEq, nE, nA, nL, nT, sec_neq, sec_eql, Wr.av, hwr, hg12, hg18]
   refine hK _ _ ?_
   clear hK K
   refine wpT_ifT (by simp only [↓SP, SZ, ↓reduceIte, reduceCtorEq, nE, nA, nL, nT, sec_neq, sec_eql, Wr.av, hwr, hg12, hg18]) ?_
   have hn2 : contW w v k = none := by
     first
       | exact hn
       | exact (if_pos ⟨hv, by omega⟩).trans (List.getElem?_eq_none (by omega))
   refine wpT_seq ?_
   refine wpT_region (by kernel_rfl) (fun K hK => ?_)
   simp only [↓SP, SZ, ↓reduceIte, reduceCtorEq, nE, nA, nL, nT, sec_neq, sec_eql, Wr.av, hwr, secB0, hg12, hg18]
   refine hK _ _ ?_
   clear hK K
   refine wpT_ret ⟨.inr rfl, ?_⟩
   show optK (resA _ _ _ [.cell 6 49, .tmp 7]) _
   simp only [SRO, ↓SP, SZ, ↓reduceIte, reduceCtorEq, nE, nA, nL, nT, sec_neq, sec_eql, Wr.av, hwr, hg12, hg18]
   rw [conS, conO, hn2]
   exact .refl _
 ·
  simp only [Bool.not_true, Bool.not_false] at hg12
  have p12 := hg12
  try simp only [PB] at p12
  have hn : contW w v k = none := if_neg (fun h => by have := h.1; simp_all)
  simp only [↓SP, SZ, ↓reduceIte, reduceCtorEq, nE, nA, nL, nT, sec_neq, sec_eql, Wr.av, hwr, hg12]
  refine hK _ _ ?_
  clear hK K
  refine wpT_ifT (by simp only [↓SP, SZ, ↓reduceIte, reduceCtorEq, nE, nA, nL, nT, sec_neq, sec_eql, Wr.av, hwr, hg12]) ?_
  have hn2 : contW w v k = none := by
    first
      | exact hn
      | exact (if_pos ⟨hv, by omega⟩).trans (List.getElem?_eq_none (by omega))
  refine wpT_seq ?_
  refine wpT_region (by kernel_rfl) (fun K hK => ?_)
  simp only [↓SP, SZ, ↓reduceIte, reduceCtorEq, nE, nA, nL, nT, sec_neq, sec_eql, Wr.av, hwr, secB0, hg12]
  refine hK _ _ ?_
  clear hK K
  refine wpT_ret ⟨.inr rfl, ?_⟩
  show optK (resA _ _ _ [.cell 6 49, .tmp 7]) _
  simp only [SRO, ↓SP, SZ, ↓reduceIte, reduceCtorEq, nE, nA, nL, nT, sec_neq, sec_eql, Wr.av, hwr, hg12]
  rw [conS, conO, hn2]
  exact .refl _
theorem conO_S {w : Wr} {v k : Int} {s : Sec} : (conO w v k && decide (conS w v k = s)) = decide (contW w v k = some s) := by
  unfold conO conS
  cases contW w v k with
  | none => simp
  | some a => simp
theorem assoc_none {α β : Type} [DecidableEq α] {c : α} : ∀ {m : List (α × β)}, assoc c m = none ↔ ∀ a, (c, a) ∉ m
  | [] => by simp [assoc]
  | (x, b) :: m => by
    rw [assoc]
    by_cases h : c = x
    · subst h
      rw [if_pos rfl]
      simp only [reduceCtorEq, false_iff]
      exact fun hh => hh b (by simp)
    · rw [if_neg h, assoc_none]
      constructor
      · intro hh a ha
        rcases List.mem_cons.1 ha with e | e
        · simp only [Prod.mk.injEq] at e; exact h e.1
        · exact hh a e
      · intro hh a ha
        exact hh a (List.mem_cons_of_mem _ ha)
/-- The contents before place k of write i. -/
def preM (ws : List Wr) (i k : Nat) : List (Ct × Int) := ctsH 0 (ws.take i) ++ (ctsW (wrAt ws i).vol (wrAt ws i).start ((wrAt ws i).data.take k)).map fun c => (c, (i : Int))
def sufM (ws : List Wr) (i k : Nat) : List (Ct × Int) := (ctsW (wrAt ws i).vol ((wrAt ws i).start + k) ((wrAt ws i).data.drop k)).map (fun c => (c, (i : Int))) ++ ctsH (i + 1) (ws.drop (i + 1))
theorem ctsW_append (v : Int) : ∀ (k : Int) (xs ys : List Sec), ctsW v k (xs ++ ys) = ctsW v k xs ++ ctsW v (k + xs.length) ys
  | k, [], ys => by simp [ctsW]
  | k, x :: xs, ys => by
    rw [List.cons_append, ctsW, ctsW, ctsW_append v (k + 1) xs ys, List.cons_append, List.length_cons, show k + 1 + (xs.length : Int) = k + ((xs.length + 1 : Nat) : Int) by omega]
theorem preM_known {ws : List Wr} {i k : Nat} (hi : i < ws.length) (hk : k < (wrAt ws i).data.length) : assoc ⟨(wrAt ws i).vol, (wrAt ws i).start + k, (wrAt ws i).data[k]⟩ (preM ws i k) = none ↔ ∀ j : Nat, j < i → contW (wrAt ws j) (wrAt ws i).vol ((wrAt ws i).start + k) ≠ some (wrAt ws i).data[k] := by
  rw [assoc_none]
  have hat : ∀ j : Nat, j < i → ∃ h : j < ws.length, wrAt ws j = ws[j] := fun j hj => ⟨by omega, wrAt_eq (List.getElem?_eq_getElem (by omega))⟩
  constructor
  · intro h j hj e
    obtain ⟨hjl, hw⟩ := hat j hj
    refine h (j : Int) (List.mem_append_left _ (mem_ctsH.2 ⟨j, by simp, ws[j], ?_, ?_⟩))
    · rw [List.getElem?_take, if_pos hj, List.getElem?_eq_getElem hjl]
    · rw [← hw]; exact mem_cts.2 e
  · intro h a ha
    rcases List.mem_append.1 ha with ha | ha
    · obtain ⟨j, h1, w, h2, h3⟩ := mem_ctsH.1 ha
      rw [List.getElem?_take] at h2
      split at h2
      · rename_i hj
        refine h j hj ?_
        rw [wrAt_eq h2]
        exact mem_cts.1 h3
      · simp at h2
    · obtain ⟨c, h1, h2⟩ := List.mem_map.1 ha
      simp only [Prod.mk.injEq] at h2
      obtain ⟨rfl, _⟩ := h2
      obtain ⟨_, _, h3⟩ := mem_ctsW.1 h1
      simp only at h3
      rw [show ((wrAt ws i).start + (k : Int) - (wrAt ws i).start).toNat = k by omega, List.getElem?_take, if_neg (by omega)] at h3
      simp at h3
theorem dist_step {ws : List Wr} {i k : Nat} (hk : k < (wrAt ws i).data.length) : distGo (preM ws i k) (sufM ws i k) = if assoc ⟨(wrAt ws i).vol, (wrAt ws i).start + k, (wrAt ws i).data[k]⟩ (preM ws i k) ≠ none ∨ (wrAt ws i).data[k] = sec0 then false else distGo (preM ws i (k + 1)) (sufM ws i (k + 1)) := by
  have e1 : sufM ws i k = (⟨(wrAt ws i).vol, (wrAt ws i).start + k, (wrAt ws i).data[k]⟩, (i : Int)) :: sufM ws i (k + 1) := by
    rw [sufM, List.drop_eq_getElem_cons hk, ctsW, List.map_cons, List.cons_append, sufM, show (wrAt ws i).start + (k : Int) + 1 = (wrAt ws i).start + ((k + 1 : Nat) : Int) by omega]
  have e2 : preM ws i (k + 1) = preM ws i k ++ [(⟨(wrAt ws i).vol, (wrAt ws i).start + k, (wrAt ws i).data[k]⟩, (i : Int))] := by
    rw [preM, preM, List.take_add_one, List.getElem?_eq_getElem hk, Option.toList_some, ctsW_append, List.map_append, ← List.append_assoc, List.length_take, Nat.min_eq_left (by omega)]
    rfl
  rw [e1, e2, dist_split]
theorem dist_begin {ws : List Wr} {i : Nat} (hi : i < ws.length) : ctsH 0 (ws.take i) = preM ws i 0 ∧ ctsH i (ws.drop i) = sufM ws i 0 := by
  have hw : wrAt ws i = ws[i] := wrAt_eq (List.getElem?_eq_getElem hi)
  refine ⟨by simp [preM, ctsW], ?_⟩
  rw [List.drop_eq_getElem_cons hi, ctsH, sufM, hw, List.drop_zero, show (ws[i]).start + ((0 : Nat) : Int) = (ws[i]).start by omega]
  rfl
theorem ctsH_append (ys : List Wr) : ∀ (i : Nat) (xs : List Wr), ctsH i (xs ++ ys) = ctsH i xs ++ ctsH (i + xs.length) ys
  | i, [] => by simp [ctsH]
  | i, x :: xs => by rw [List.cons_append, ctsH, ctsH, ctsH_append ys (i + 1) xs, List.append_assoc, List.length_cons, show i + 1 + xs.length = i + (xs.length + 1) by omega]
theorem dist_end {ws : List Wr} {i : Nat} (hi : i < ws.length) : preM ws i (wrAt ws i).data.length = ctsH 0 (ws.take (i + 1)) ∧ sufM ws i (wrAt ws i).data.length = ctsH (i + 1) (ws.drop (i + 1)) := by
  have hw : wrAt ws i = ws[i] := wrAt_eq (List.getElem?_eq_getElem hi)
  refine ⟨?_, by simp [sufM, ctsW]⟩
  rw [preM, List.take_length, List.take_add_one, List.getElem?_eq_getElem hi, Option.toList_some, ctsH_append, hw, List.length_take, Nat.min_eq_left (by omega), Nat.zero_add, ctsH, ctsH, List.append_nil]
  rfl
theorem start_small {h : Hist} (eh : histE h = 0) {w : Wr} (hw : w ∈ h.ws) : 0 ≤ w.start ∧ w.start < 4000000 := by
  obtain ⟨f1, f2, f3, f4, f5⟩ := fitsE_ok (fitsAll_mem (hist_ok eh).2.2.1 _ hw)
  have hvl : w.vol.toNat < h.sizes.length := by omega
  have f6 := sizesE_le (hist_ok eh).1 _ (List.getElem_mem hvl)
  have f7 : h.sizes.getD w.vol.toNat 0 = h.sizes[w.vol.toNat] := by simp [hvl]
  exact ⟨f4, by omega⟩
theorem c46 (h : Hist) (hs : h.sm) : Pu Tryz.prog (.fn (.func 46) [] []) [h.av] (B (decide (histE h = 0) && distB h)) := by
 refine pu_func Tryz.func46 rfl (by kernel_rfl) (by show _ ≤ 68; simp only [LN]; decide) (by simp only [IDS]) (by simp only [IDS]) (by simp only [IDS]) ?_
 rw [Tryz.ntmps46]
 refine wpT_seq ?_
 refine wpT_region (by kernel_rfl) (fun K hK => ?_)
 simp only [↓SP, SZ, ↓reduceIte, reduceCtorEq, nE, nA, nL, nT, sec_neq, sec_eql, hist_cs]
 refine hK _ _ ?_
 clear hK K
 refine wpT_seq ?_
 refine wpT_seq ?_
 refine wpT_region (by kernel_rfl) (fun K hK => ?_)
 simp only [↓SP, SZ, ↓reduceIte, reduceCtorEq, nE, nA, nL, nT, sec_neq, sec_eql, hist_cs]
 refine Pu.call (c42 h hs) ?_
 simp only [↓SP, SZ, ↓reduceIte, reduceCtorEq, nE, nA, nL, nT, sec_neq, sec_eql, hist_cs]
 refine hK _ _ ?_
 clear hK K
 refine wpT_if (by rfl) (fun hc11 => ?_) (fun hc11 => ?_)
 ·
  have p11 := hc11
  try simp only [PB] at p11
  have hx : (decide (histE h = 0) && distB h) = false := by rw [decide_eq_false p11]; rfl
  refine wpT_seq ?_
  refine wpT_region (by kernel_rfl) (fun K hK => ?_)
  simp only [↓SP, SZ, ↓reduceIte, reduceCtorEq, nE, nA, nL, nT, sec_neq, sec_eql, hist_cs, hc11]
  refine hK _ _ ?_
  clear hK K
  refine wpT_ret ⟨.inr rfl, ?_⟩
  show optK (resA _ _ _ [.tmp 2]) _
  simp only [SRO, ↓SP, SZ, ↓reduceIte, reduceCtorEq, nE, nA, nL, nT, sec_neq, sec_eql, hist_cs, hc11]
  refine Lend.eq ?_
  rw [hx]
 ·
  have p11 := hc11
  try simp only [PB] at p11
  have e0 : histE h = 0 := by simpa using p11
  have hx0 : (decide (histE h = 0) && distB h) = distB h := by rw [decide_eq_true e0, Bool.true_and]
  have hwl := hs.2.1
  refine wpT_skip ?_
  refine wpT_seq ?_
  refine wpT_seq ?_
  refine wpT_region (by kernel_rfl) (fun K hK => ?_)
  simp only [↓SP, SZ, ↓reduceIte, reduceCtorEq, nE, nA, nL, nT, sec_neq, sec_eql, hist_cs, hc11]
  refine hK _ _ ?_
  clear hK K
  refine wpT_block ?_
  refine wpT_loop ?_
  refine wpT_keep1 (i := 0) (o := .arr 26 3 [h.av]) (by simp only [↓SP, SZ, ↓reduceIte, reduceCtorEq, nE, nA, nL, nT, sec_neq, sec_eql]) ?_
  refine wpT_ind (fun (i : Nat) tm' h' => (∃ m, h' = Hp.of [(0, .arr 26 3 [h.av])] m ∧ 0 < m) ∧ tm' 1 = .ptr 0 1 0 0 ∧ tm' 3 = I i ∧ i ≤ h.ws.length ∧ distGo (ctsH 0 (h.ws.take i)) (ctsH i (h.ws.drop i)) = distB h) (fun i => h.ws.length - i) ?_ 0 ⟨⟨_, rfl, Nat.zero_lt_succ _⟩, rfl, rfl, by omega, rfl⟩
  rintro i tm' _ ⟨⟨p, rfl, hp⟩, e1, e3, hi, hD⟩ IH
  refine wpT_inLoop ?_
  refine wpT_seq ?_
  refine wpT_seq ?_
  refine wpT_region (by kernel_rfl) (fun K hK => ?_)
  simp only [↓SP, SZ, ↓reduceIte, reduceCtorEq, nE, nA, nL, nT, sec_neq, sec_eql, hist_cs, e1, e3]
  refine hK _ _ ?_
  clear hK K
  refine wpT_if (by rfl) (fun hc16 => ?_) (fun hc16 => ?_)
  ·
   have p16 := hc16
   try simp only [PB] at p16
   have hlt : i < h.ws.length := by omega
   have hg := at_map (f := Wr.av) hlt
   have hmi := List.getElem_mem hlt
   have hwi : wrAt h.ws (i : Int) = h.ws[i] := wrAt_eq (List.getElem?_eq_getElem hlt)
   have hdl := hs.2.2.2 _ hmi
   obtain ⟨hs0, hs1⟩ := start_small e0 hmi
   rw [(dist_begin hlt).1, (dist_begin hlt).2] at hD
   have n0 : ¬ 0 = p := by omega
   have n0' : ¬ p = 0 := by omega
   refine wpT_skip ?_
   refine wpT_seq ?_
   refine wpT_block ?_
   refine wpT_seq ?_
   refine wpT_region (by kernel_rfl) (fun K hK => ?_)
   simp only [↓SP, SZ, ↓reduceIte, reduceCtorEq, nE, nA, nL, nT, sec_neq, sec_eql, hist_cs, e1, e3, hg, hc16]
   refine hK _ _ ?_
   clear hK K
   refine wpT_seq ?_
   refine wpT_region (by kernel_rfl) (fun K hK => ?_)
   simp only [↓SP, SZ, ↓reduceIte, reduceCtorEq, nE, nA, nL, nT, sec_neq, sec_eql, hist_cs, hc16]
   refine hK _ _ ?_
   clear hK K
   refine wpT_block ?_
   refine wpT_loop ?_
   refine wpT_keep2 (i := 0) (j := p) (o := .arr 26 3 [h.av]) (q := .arr 45 3 [(h.ws[i]).av]) (by simp only [↓SP, SZ, ↓reduceIte, reduceCtorEq, nE, nA, nL, nT, sec_neq, sec_eql, n0]) (by simp only [↓SP, SZ, ↓reduceIte, reduceCtorEq, nE, nA, nL, nT, sec_neq, sec_eql]) ?_
   refine wpT_ind (fun (k : Nat) tm2 h2 => (∃ x, h2 = Hp.of [(0, .arr 26 3 [h.av]), (p, .arr 45 3 [(h.ws[i]).av])] x ∧ p < x) ∧ tm2 1 = .ptr 0 1 0 0 ∧ tm2 3 = I i ∧ tm2 4 = .ptr p 1 0 0 ∧ tm2 5 = I k ∧ k ≤ (h.ws[i]).data.length ∧ distGo (preM h.ws i k) (sufM h.ws i k) = distB h) (fun k => (h.ws[i]).data.length - k) ?_ 0 ⟨⟨_, rfl, by simp only [↓SP, SZ, ↓reduceIte, reduceCtorEq, nE, nA, nL, nT, sec_neq, sec_eql]; omega⟩, by simp only [↓SP, SZ, ↓reduceIte, reduceCtorEq, nE, nA, nL, nT, sec_neq, sec_eql, e1], by simp only [↓SP, SZ, ↓reduceIte, reduceCtorEq, nE, nA, nL, nT, sec_neq, sec_eql, e3], rfl, rfl, by omega, hD⟩
   clear e1 e3
   rintro k tm2 _ ⟨⟨x, rfl, hx⟩, e1, e3, e4, e5, hk, hD2⟩ IH2
   refine wpT_inLoop ?_
   refine wpT_seq ?_
   refine wpT_seq ?_
   refine wpT_region (by kernel_rfl) (fun K hK => ?_)
   simp only [↓SP, SZ, ↓reduceIte, reduceCtorEq, nE, nA, nL, nT, sec_neq, sec_eql, hist_cs, e4, e5, n0, n0', wr_cs]
   refine hK _ _ ?_
   clear hK K
   refine wpT_if (by rfl) (fun hc28 => ?_) (fun hc28 => ?_)
   ·
    have p28 := hc28
    try simp only [PB] at p28
    have hlt2 : k < (h.ws[i]).data.length := by omega
    have hg2 := at_map (f := Sec.av) hlt2
    have hlt3 : k < (wrAt h.ws (i : Int)).data.length := by rw [hwi]; exact hlt2
    rw [dist_step hlt3] at hD2
    simp only [hwi] at hD2
    refine wpT_skip ?_
    refine wpT_seq ?_
    refine wpT_block ?_
    refine wpT_seq ?_
    refine wpT_seq ?_
    refine wpT_region (by kernel_rfl) (fun K hK => ?_)
    simp only [↓SP, SZ, ↓reduceIte, reduceCtorEq, nE, nA, nL, nT, sec_neq, sec_eql, hist_cs, e4, e5, n0, n0', wr_cs, hg2, secB0, hc28]
    refine hK _ _ ?_
    clear hK K
    refine wpT_if (by rfl) (fun hc37 => ?_) (fun hc37 => ?_)
    ·
     have p37 := hc37
     try simp only [PB] at p37
     have hx : (decide (histE h = 0) && distB h) = false := by rw [hx0, ← hD2]; exact if_pos (.inr (by simpa using p37))
     refine wpT_seq ?_
     refine wpT_region (by kernel_rfl) (fun K hK => ?_)
     simp only [↓SP, SZ, ↓reduceIte, reduceCtorEq, nE, nA, nL, nT, sec_neq, sec_eql, hist_cs, hc28, hc37]
     refine hK _ _ ?_
     clear hK K
     refine wpT_ret ⟨.inr rfl, ?_⟩
     show optK (resA _ _ _ [.tmp 2]) _
     simp only [SRO, ↓SP, SZ, ↓reduceIte, reduceCtorEq, nE, nA, nL, nT, sec_neq, sec_eql, hist_cs, hc28, hc37]
     refine Lend.eq ?_
     rw [hx]
    ·
     have p37 := hc37
     try simp only [PB] at p37
     have hne : ¬ (h.ws[i]).data[k] = sec0 := by simpa using p37
     have hwr : IntKind.i64.wrap ((h.ws[i]).start + (k : Int)) = (h.ws[i]).start + k := wrap64 (by omega) (by omega)
     refine wpT_skip ?_
     refine wpT_seq ?_
     refine wpT_region (by kernel_rfl) (fun K hK => ?_)
     simp only [↓SP, SZ, ↓reduceIte, reduceCtorEq, nE, nA, nL, nT, sec_neq, sec_eql, hist_cs, hc28, hc37]
     refine hK _ _ ?_
     clear hK K
     refine wpT_block ?_
     refine wpT_loop ?_
     refine wpT_ind (fun (j : Nat) tm3 h3 => (∃ x, h3 = Hp.of [(0, .arr 26 3 [h.av]), (p, .arr 45 3 [(h.ws[i]).av])] x ∧ p < x) ∧ tm3 1 = .ptr 0 1 0 0 ∧ tm3 3 = I i ∧ tm3 4 = .ptr p 1 0 0 ∧ tm3 5 = I k ∧ tm3 6 = I j ∧ j ≤ i ∧ ∀ a : Nat, a < j → contW (wrAt h.ws a) (h.ws[i]).vol ((h.ws[i]).start + k) ≠ some (h.ws[i]).data[k]) (fun j => i - j) ?_ 0 ⟨⟨_, rfl, hx⟩, by simp only [↓SP, SZ, ↓reduceIte, reduceCtorEq, nE, nA, nL, nT, sec_neq, sec_eql, e1], by simp only [↓SP, SZ, ↓reduceIte, reduceCtorEq, nE, nA, nL, nT, sec_neq, sec_eql, e3], by simp only [↓SP, SZ, ↓reduceIte, reduceCtorEq, nE, nA, nL, nT, sec_neq, sec_eql, e4], by simp only [↓SP, SZ, ↓reduceIte, reduceCtorEq, nE, nA, nL, nT, sec_neq, sec_eql, e5], rfl, by omega, fun a ha => by omega⟩
     clear e1 e3 e4 e5
     rintro j tm3 _ ⟨⟨y, rfl, hy⟩, e1, e3, e4, e5, e6, hj, hA⟩ IH3
     refine wpT_inLoop ?_
     refine wpT_seq ?_
     refine wpT_seq ?_
     refine wpT_region (by kernel_rfl) (fun K hK => ?_)
     simp only [↓SP, SZ, ↓reduceIte, reduceCtorEq, nE, nA, nL, nT, sec_neq, sec_eql, hist_cs, e3, e6]
     refine hK _ _ ?_
     clear hK K
     refine wpT_if (by rfl) (fun hc40 => ?_) (fun hc40 => ?_)
     ·
      have p40 := hc40
      try simp only [PB] at p40
      have hlt4 : j < h.ws.length := by omega
      have hg4 := at_map (f := Wr.av) hlt4
      have hmj := List.getElem_mem hlt4
      have hwj : wrAt h.ws (j : Int) = h.ws[j] := wrAt_eq (List.getElem?_eq_getElem hlt4)
      obtain ⟨hj0, hj1⟩ := start_small e0 hmj
      have y0 : ¬ 0 = y + 15 := by omega
      have y0' : ¬ y + 15 = 0 := by omega
      have y1 : ¬ p = y + 15 := by omega
      have y1' : ¬ y + 15 = p := by omega
      refine wpT_skip ?_
      refine wpT_seq ?_
      refine wpT_block ?_
      refine wpT_seq ?_
      refine wpT_drawn [(0, 15), (1, 15), (3, 15), (4, 15), (5, 15), (6, 15), (7, 15), (8, 15), (11, 15)] mixed (by kernel_rfl) (m := 18) rfl (fun K hK => ?_)
      simp only [↓SP, SZ, ↓reduceIte, reduceCtorEq, nE, nA, nL, nT, sec_neq, sec_eql, hist_cs, e1, e4, e5, e6, n0, n0', wr_cs, hg4, hwr, y0, y0', y1, y1', hc40]
      refine Pu.callD (c56 h.ws[j] (h.ws[i]).vol ((h.ws[i]).start + k) hj0 hj1 (hs.2.2.2 _ hmj)) ?_
      simp only [↓SP, SZ, ↓reduceIte, reduceCtorEq, nE, nA, nL, nT, sec_neq, sec_eql, hist_cs, e1, e4, e5, e6, n0, n0', wr_cs, hg4, hwr, y0, y0', y1, y1', hc40]
      refine hK _ _ ?_
      clear hK K
      refine wpT_seq ?_
      refine wpT_drawn [] mixed (by kernel_rfl) (m := 10) rfl (fun K hK => ?_)
      simp only [↓SP, SZ, ↓reduceIte, reduceCtorEq, nE, nA, nL, nT, sec_neq, sec_eql, hist_cs, e4, e5, n0, n0', wr_cs, hg2, y0, y0', y1, y1', hc40]
      refine guardD_split (fun hg59 => ?_) (fun hg59 => ?_)
      ·
       have p59 := hg59
       try simp only [PB] at p59
       simp only [↓SP, SZ, ↓reduceIte, reduceCtorEq, nE, nA, nL, nT, sec_neq, sec_eql, hist_cs, e4, e5, n0, n0', wr_cs, hg2, y0, y0', y1, y1', hc40, hg59]
       refine hK _ _ ?_
       clear hK K
       refine wpT_if (by rfl) (fun hc67 => ?_) (fun hc67 => ?_)
       ·
        have p67 := hc67
        try simp only [PB] at p67
        have hcw : contW h.ws[j] (h.ws[i]).vol ((h.ws[i]).start + k) = some (h.ws[i]).data[k] := by
          have := conO_S (w := h.ws[j]) (v := (h.ws[i]).vol) (k := (h.ws[i]).start + k) (s := (h.ws[i]).data[k])
          rw [p59, decide_eq_true p67] at this
          simpa using this.symm
        have hkn := preM_known hlt hlt3
        simp only [hwi] at hkn
        have hji : j < i := by omega
        have hx : (decide (histE h = 0) && distB h) = false := by
          rw [hx0, ← hD2]
          refine if_pos (.inl fun hn => ?_)
          have := hkn.1 hn j hji
          rw [hwj] at this
          exact this hcw
        refine wpT_seq ?_
        refine wpT_region (by kernel_rfl) (fun K hK => ?_)
        simp only [↓SP, SZ, ↓reduceIte, reduceCtorEq, nE, nA, nL, nT, sec_neq, sec_eql, hist_cs, hc40, hg59, hc67]
        refine hK _ _ ?_
        clear hK K
        refine wpT_ret ⟨.inr rfl, ?_⟩
        show optK (resA _ _ _ [.tmp 2]) _
        simp only [SRO, ↓SP, SZ, ↓reduceIte, reduceCtorEq, nE, nA, nL, nT, sec_neq, sec_eql, hist_cs, hc40, hg59, hc67]
        refine Lend.eq ?_
        rw [hx]
       ·
        have p67 := hc67
        try simp only [PB] at p67
        have hncw : contW h.ws[j] (h.ws[i]).vol ((h.ws[i]).start + k) ≠ some (h.ws[i]).data[k] := by
          have := conO_S (w := h.ws[j]) (v := (h.ws[i]).vol) (k := (h.ws[i]).start + k) (s := (h.ws[i]).data[k])
          intro hc
          rw [decide_eq_true hc] at this
          first
            | (rw [p59, decide_eq_false p67] at this; simp at this; done)
            | (rw [p59] at this; simp at this; done)
        have hA2 : ∀ a : Nat, a < j + 1 → contW (wrAt h.ws a) (h.ws[i]).vol ((h.ws[i]).start + k) ≠ some (h.ws[i]).data[k] := fun a ha => by
          by_cases e : a = j
          · subst e; rw [hwj]; exact hncw
          · exact hA a (by omega)
        refine wpT_skip ?_
        refine wpT_inBlock ?_
        refine wpT_region (by kernel_rfl) (fun K hK => ?_)
        simp only [↓SP, SZ, ↓reduceIte, reduceCtorEq, nE, nA, nL, nT, sec_neq, sec_eql, hist_cs, e6, wrap64 (x := (j : Int) + 1) (by omega) (by omega), hc40, hg59, hc67]
        refine hK _ _ ?_
        clear hK K
        refine wpT_keep2 (i := 0) (j := p) (o := .arr 26 3 [h.av]) (q := .arr 45 3 [(h.ws[i]).av]) (by simp only [↓SP, SZ, ↓reduceIte, reduceCtorEq, nE, nA, nL, nT, sec_neq, sec_eql, n0, y0, y0']) (by simp only [↓SP, SZ, ↓reduceIte, reduceCtorEq, nE, nA, nL, nT, sec_neq, sec_eql, n0', y1, y1']) ?_
        refine IH3 (j + 1) _ _ (by omega) ⟨⟨_, rfl, by simp only [↓SP, SZ, ↓reduceIte, reduceCtorEq, nE, nA, nL, nT, sec_neq, sec_eql]; omega⟩, by simp only [↓SP, SZ, ↓reduceIte, reduceCtorEq, nE, nA, nL, nT, sec_neq, sec_eql, e1], by simp only [↓SP, SZ, ↓reduceIte, reduceCtorEq, nE, nA, nL, nT, sec_neq, sec_eql, e3], by simp only [↓SP, SZ, ↓reduceIte, reduceCtorEq, nE, nA, nL, nT, sec_neq, sec_eql, e4], by simp only [↓SP, SZ, ↓reduceIte, reduceCtorEq, nE, nA, nL, nT, sec_neq, sec_eql, e5], by simp only [↓SP, SZ, ↓reduceIte, reduceCtorEq, nE, nA, nL, nT, sec_neq, sec_eql, Int.natCast_add, Int.cast_ofNat_Int], by omega, hA2⟩
      ·
       simp only [Bool.not_true, Bool.not_false] at hg59
       have p59 := hg59
       try simp only [PB] at p59
       simp only [↓SP, SZ, ↓reduceIte, reduceCtorEq, nE, nA, nL, nT, sec_neq, sec_eql, hist_cs, e4, e5, n0, n0', wr_cs, hg2, y0, y0', y1, y1', hc40, hg59]
       refine hK _ _ ?_
       clear hK K
       refine wpT_ifF (by simp only [↓SP, SZ, ↓reduceIte, reduceCtorEq, nE, nA, nL, nT, sec_neq, sec_eql, hist_cs, hc40, hg59]) ?_
       have hncw : contW h.ws[j] (h.ws[i]).vol ((h.ws[i]).start + k) ≠ some (h.ws[i]).data[k] := by
         have := conO_S (w := h.ws[j]) (v := (h.ws[i]).vol) (k := (h.ws[i]).start + k) (s := (h.ws[i]).data[k])
         intro hc
         rw [decide_eq_true hc] at this
         first
           | (rw [p59, decide_eq_false p67] at this; simp at this; done)
           | (rw [p59] at this; simp at this; done)
       have hA2 : ∀ a : Nat, a < j + 1 → contW (wrAt h.ws a) (h.ws[i]).vol ((h.ws[i]).start + k) ≠ some (h.ws[i]).data[k] := fun a ha => by
         by_cases e : a = j
         · subst e; rw [hwj]; exact hncw
         · exact hA a (by omega)
       refine wpT_skip ?_
       refine wpT_inBlock ?_
       refine wpT_region (by kernel_rfl) (fun K hK => ?_)
       simp only [↓SP, SZ, ↓reduceIte, reduceCtorEq, nE, nA, nL, nT, sec_neq, sec_eql, hist_cs, e6, wrap64 (x := (j : Int) + 1) (by omega) (by omega), hc40, hg59]
       refine hK _ _ ?_
       clear hK K
       refine wpT_keep2 (i := 0) (j := p) (o := .arr 26 3 [h.av]) (q := .arr 45 3 [(h.ws[i]).av]) (by simp only [↓SP, SZ, ↓reduceIte, reduceCtorEq, nE, nA, nL, nT, sec_neq, sec_eql, n0, y0, y0']) (by simp only [↓SP, SZ, ↓reduceIte, reduceCtorEq, nE, nA, nL, nT, sec_neq, sec_eql, n0', y1, y1']) ?_
       refine IH3 (j + 1) _ _ (by omega) ⟨⟨_, rfl, by simp only [↓SP, SZ, ↓reduceIte, reduceCtorEq, nE, nA, nL, nT, sec_neq, sec_eql]; omega⟩, by simp only [↓SP, SZ, ↓reduceIte, reduceCtorEq, nE, nA, nL, nT, sec_neq, sec_eql, e1], by simp only [↓SP, SZ, ↓reduceIte, reduceCtorEq, nE, nA, nL, nT, sec_neq, sec_eql, e3], by simp only [↓SP, SZ, ↓reduceIte, reduceCtorEq, nE, nA, nL, nT, sec_neq, sec_eql, e4], by simp only [↓SP, SZ, ↓reduceIte, reduceCtorEq, nE, nA, nL, nT, sec_neq, sec_eql, e5], by simp only [↓SP, SZ, ↓reduceIte, reduceCtorEq, nE, nA, nL, nT, sec_neq, sec_eql, Int.natCast_add, Int.cast_ofNat_Int], by omega, hA2⟩
     ·
      have p40 := hc40
      try simp only [PB] at p40
      have hji : i = j := by omega
      subst hji
      have hkn := preM_known hlt hlt3
      simp only [hwi] at hkn
      rw [if_neg (fun hh => hh.elim (fun h1 => h1 (hkn.2 hA)) hne)] at hD2
      refine wpT_exit rfl ?_
      refine wpT_inBlock ?_
      refine wpT_region (by kernel_rfl) (fun K hK => ?_)
      simp only [↓SP, SZ, ↓reduceIte, reduceCtorEq, nE, nA, nL, nT, sec_neq, sec_eql, hist_cs, e5, wrap64 (x := (k : Int) + 1) (by omega) (by omega), hc40]
      refine hK _ _ ?_
      clear hK K
      refine wpT_keep2 (i := 0) (j := p) (o := .arr 26 3 [h.av]) (q := .arr 45 3 [(h.ws[i]).av]) (by simp only [↓SP, SZ, ↓reduceIte, reduceCtorEq, nE, nA, nL, nT, sec_neq, sec_eql, n0, n0']) (by simp only [↓SP, SZ, ↓reduceIte, reduceCtorEq, nE, nA, nL, nT, sec_neq, sec_eql, n0, n0']) ?_
      refine IH2 (k + 1) _ _ (by omega) ⟨⟨_, rfl, by simp only [↓SP, SZ, ↓reduceIte, reduceCtorEq, nE, nA, nL, nT, sec_neq, sec_eql]; omega⟩, by simp only [↓SP, SZ, ↓reduceIte, reduceCtorEq, nE, nA, nL, nT, sec_neq, sec_eql, e1], by simp only [↓SP, SZ, ↓reduceIte, reduceCtorEq, nE, nA, nL, nT, sec_neq, sec_eql, e3], by simp only [↓SP, SZ, ↓reduceIte, reduceCtorEq, nE, nA, nL, nT, sec_neq, sec_eql, e4], by simp only [↓SP, SZ, ↓reduceIte, reduceCtorEq, nE, nA, nL, nT, sec_neq, sec_eql, Int.natCast_add, Int.cast_ofNat_Int], by omega, hD2⟩
   ·
    have p28 := hc28
    try simp only [PB] at p28
    have hk2 : k = (h.ws[i]).data.length := by omega
    have hen := dist_end hlt
    rw [hwi] at hen
    rw [hk2, hen.1, hen.2] at hD2
    refine wpT_exit rfl ?_
    refine wpT_inBlock ?_
    refine wpT_region (by kernel_rfl) (fun K hK => ?_)
    simp only [↓SP, SZ, ↓reduceIte, reduceCtorEq, nE, nA, nL, nT, sec_neq, sec_eql, hist_cs, e3, wrap64 (x := (i : Int) + 1) (by omega) (by omega), hc28]
    refine hK _ _ ?_
    clear hK K
    refine wpT_keep1 (i := 0) (o := .arr 26 3 [h.av]) (by simp only [↓SP, SZ, ↓reduceIte, reduceCtorEq, nE, nA, nL, nT, sec_neq, sec_eql, n0, n0']) ?_
    refine IH (i + 1) _ _ (by omega) ⟨⟨_, rfl, by simp only [↓SP, SZ, ↓reduceIte, reduceCtorEq, nE, nA, nL, nT, sec_neq, sec_eql]; omega⟩, by simp only [↓SP, SZ, ↓reduceIte, reduceCtorEq, nE, nA, nL, nT, sec_neq, sec_eql, e1], by simp only [↓SP, SZ, ↓reduceIte, reduceCtorEq, nE, nA, nL, nT, sec_neq, sec_eql, Int.natCast_add, Int.cast_ofNat_Int], by omega, hD2⟩
  ·
   have p16 := hc16
   try simp only [PB] at p16
   rw [List.drop_eq_nil_of_le (by omega), ctsH] at hD
   have hx : (decide (histE h = 0) && distB h) = true := by rw [hx0, ← hD]; rfl
   refine wpT_exit rfl ?_
   refine wpT_seq ?_
   refine wpT_region (by kernel_rfl) (fun K hK => ?_)
   simp only [↓SP, SZ, ↓reduceIte, reduceCtorEq, nE, nA, nL, nT, sec_neq, sec_eql, hist_cs, hc16]
   refine hK _ _ ?_
   clear hK K
   refine wpT_ret ⟨.inr rfl, ?_⟩
   show optK (resA _ _ _ [.tmp 2]) _
   simp only [SRO, ↓SP, SZ, ↓reduceIte, reduceCtorEq, nE, nA, nL, nT, sec_neq, sec_eql, hist_cs, hc16]
   refine Lend.eq ?_
   rw [hx]
end Go.Proofs.YtfdfkmcplhloaaaGreat
end

section
set_option linter.unusedSimpArgs false
set_option linter.unusedVariables false
namespace Go.Proofs.YtfdfkmcplhloaaaGreat
open Go.Proofs
open Nat renaming reduceEqDiff → nE, reduceAdd → nA, reduceLeDiff → nL, reduceLT → nT
set_option maxRecDepth 10000
theorem sizes_take {im : List (List Sec)} {i : Nat} (h : i < im.length) : (sizesOf (im.take (i + 1))).map I = (sizesOf (im.take i)).map I ++ [I im[i].length] := by
  rw [sizesOf, sizesOf, List.take_add_one, List.getElem?_eq_getElem h, List.map_append, List.map_append]
  rfl
theorem c45 (im : List (List Sec)) (hl : im.length < 4000000) : Pu Tryz.prog (.fn (.func 45) [] []) [imgAV im] (.lst ((sizesOf im).map I)) := by
 refine pu_func Tryz.func45 rfl (by kernel_rfl) (by show _ ≤ 20; simp only [LN]; decide) (by simp only [IDS]) (by simp only [IDS]) (by simp only [IDS]) ?_
 rw [Tryz.ntmps45]
 refine wpT_seq ?_
 refine wpT_region (by kernel_rfl) (fun K hK => ?_)
 simp only [↓SP, SZ, ↓reduceIte, reduceCtorEq, nE, nA, nL, nT, sec_neq, sec_eql, imgAV]
 refine hK _ _ ?_
 clear hK K
 refine wpT_seq ?_
 refine wpT_region (by kernel_rfl) (fun K hK => ?_)
 simp only [↓SP, SZ, ↓reduceIte, reduceCtorEq, nE, nA, nL, nT, sec_neq, sec_eql, imgAV]
 refine hK _ _ ?_
 clear hK K
 refine wpT_seq ?_
 refine wpT_seq ?_
 refine wpT_region (by kernel_rfl) (fun K hK => ?_)
 simp only [↓SP, SZ, ↓reduceIte, reduceCtorEq, nE, nA, nL, nT, sec_neq, sec_eql, imgAV]
 refine hK _ _ ?_
 clear hK K
 refine wpT_block ?_
 refine wpT_loop ?_
 refine wpT_nilown 3 3 1 (by simp only [↓SP, SZ, ↓reduceIte, reduceCtorEq, nE, nA, nL, nT, sec_neq, sec_eql]) ?_
 refine wpT_keep1 (i := 0) (o := .arr 3 1 ((sizesOf (im.take 0)).map I)) (by simp only [↓SP, SZ, ↓reduceIte, reduceCtorEq, nE, nA, nL, nT, sec_neq, sec_eql]; rfl) ?_
 refine wpT_ind (fun (i : Nat) tm' h' => (∃ m, h' = Hp.of [(0, .arr 3 1 ((sizesOf (im.take i)).map I))] (m + 1)) ∧ tm' 0 = imgAV im ∧ tm' 3 = .sl 0 i 0 i ∧ tm' 4 = I i ∧ i ≤ im.length) (fun i => im.length - i) ?_ 0 ⟨⟨0, rfl⟩, rfl, rfl, rfl, by omega⟩
 rintro i tm' _ ⟨⟨m, rfl⟩, e0, e3, e4, hi⟩ IH
 refine wpT_inLoop ?_
 refine wpT_seq ?_
 refine wpT_seq ?_
 refine wpT_region (by kernel_rfl) (fun K hK => ?_)
 simp only [↓SP, SZ, ↓reduceIte, reduceCtorEq, nE, nA, nL, nT, sec_neq, sec_eql, imgAV, e0, e4]
 refine hK _ _ ?_
 clear hK K
 refine wpT_if (by rfl) (fun hc8 => ?_) (fun hc8 => ?_)
 ·
  have p8 := hc8
  try simp only [PB] at p8
  have hlt : i < im.length := by omega
  have hg := at_map (f := fun l : List Sec => AV.lst (l.map Sec.av)) hlt
  have q1 : i + 1 ≤ maxLen := by simp only [maxLen]; omega
  have q2 : (i + 1) * 8 ≤ 140737488355328 := by omega
  have q3 : (sizesOf (im.take i)).length = i := by simp [sizesOf]; omega
  refine wpT_skip ?_
  refine wpT_seq ?_
  refine wpT_block ?_
  refine wpT_region (by kernel_rfl) (fun K hK => ?_)
  simp only [↓SP, SZ, ↓reduceIte, reduceCtorEq, nE, nA, nL, nT, sec_neq, sec_eql, imgAV, e0, e3, e4, hg, q1, q2, q3, hc8]
  refine hK _ _ ?_
  clear hK K
  refine wpT_inBlock ?_
  refine wpT_region (by kernel_rfl) (fun K hK => ?_)
  simp only [↓SP, SZ, ↓reduceIte, reduceCtorEq, nE, nA, nL, nT, sec_neq, sec_eql, imgAV, e4, wrap64 (x := (i : Int) + 1) (by omega) (by omega), hc8]
  refine hK _ _ ?_
  clear hK K
  refine wpT_keep1 (i := 0) (o := .arr 3 1 ((sizesOf (im.take (i + 1))).map I)) (by simp only [↓SP, SZ, ↓reduceIte, reduceCtorEq, nE, nA, nL, nT, sec_neq, sec_eql, sizes_take hlt]) ?_
  refine IH (i + 1) _ _ (by omega) ⟨⟨_, rfl⟩, by simp only [↓SP, SZ, ↓reduceIte, reduceCtorEq, nE, nA, nL, nT, sec_neq, sec_eql, e0], by simp only [↓SP, SZ, ↓reduceIte, reduceCtorEq, nE, nA, nL, nT, sec_neq, sec_eql], by simp only [↓SP, SZ, ↓reduceIte, reduceCtorEq, nE, nA, nL, nT, sec_neq, sec_eql, Int.natCast_add, Int.cast_ofNat_Int], by omega⟩
 ·
  have p8 := hc8
  try simp only [PB] at p8
  have hi2 : i = im.length := by omega
  subst hi2
  refine wpT_exit rfl ?_
  refine wpT_seq ?_
  refine wpT_region (by kernel_rfl) (fun K hK => ?_)
  simp only [↓SP, SZ, ↓reduceIte, reduceCtorEq, nE, nA, nL, nT, sec_neq, sec_eql, imgAV, e3, List.take_length, hc8]
  refine hK _ _ ?_
  clear hK K
  refine wpT_ret ⟨.inr rfl, ?_⟩
  show optK (resA _ _ _ [.tmp 2]) _
  simp only [SRO, ↓SP, SZ, ↓reduceIte, reduceCtorEq, nE, nA, nL, nT, sec_neq, sec_eql, imgAV, hc8]
  exact Lend.sl0 (E := 3) (s := 1) (by simp only [↓SP, SZ, ↓reduceIte, reduceCtorEq, nE, nA, nL, nT, sec_neq, sec_eql, List.take_length]) (by simp [sizesOf]) (int_okc _)
theorem c43 (im : List (List Sec)) (hl : im.length < 4000000) : Pu Tryz.prog (.fn (.func 43) [] []) [imgAV im] (I (sizesE (sizesOf im))) := by
 refine pu_func Tryz.func43 rfl (by kernel_rfl) (by show _ ≤ 6; simp only [LN]; decide) (by simp only [IDS]) (by simp only [IDS]) (by simp only [IDS]) ?_
 rw [Tryz.ntmps43]
 refine wpT_seq ?_
 refine wpT_region (by kernel_rfl) (fun K hK => ?_)
 simp only [↓SP, SZ, ↓reduceIte, reduceCtorEq, nE, nA, nL, nT, sec_neq, sec_eql]
 refine hK _ _ ?_
 clear hK K
 refine wpT_seq ?_
 refine wpT_region (by kernel_rfl) (fun K hK => ?_)
 simp only [↓SP, SZ, ↓reduceIte, reduceCtorEq, nE, nA, nL, nT, sec_neq, sec_eql]
 refine Pu.call (c45 im hl) ?_
 simp only [↓SP, SZ, ↓reduceIte, reduceCtorEq, nE, nA, nL, nT, sec_neq, sec_eql]
 refine Pu.call (c68 (sizesOf im) (by simp [sizesOf]; omega)) ?_
 simp only [↓SP, SZ, ↓reduceIte, reduceCtorEq, nE, nA, nL, nT, sec_neq, sec_eql]
 refine hK _ _ ?_
 clear hK K
 refine wpT_ret ⟨.inr rfl, ?_⟩
 show optK (resA _ _ _ [.tmp 2]) _
 simp only [SRO, ↓SP, SZ, ↓reduceIte, reduceCtorEq, nE, nA, nL, nT, sec_neq, sec_eql]
 exact .refl _
theorem c94 (im : List (List Sec)) (w : Wr) (hl : im.length < 4000000) : Pu Tryz.prog (.fn (.func 94) [] []) [imgAV im, w.av] (I (fitsI im w)) := by
 refine pu_func Tryz.func94 rfl (by kernel_rfl) (by show _ ≤ 15; simp only [LN]; decide) (by simp only [IDS]) (by simp only [IDS]) (by simp only [IDS]) ?_
 rw [Tryz.ntmps94]
 refine wpT_seq ?_
 refine wpT_region (by kernel_rfl) (fun K hK => ?_)
 simp only [↓SP, SZ, ↓reduceIte, reduceCtorEq, nE, nA, nL, nT, sec_neq, sec_eql]
 refine hK _ _ ?_
 clear hK K
 refine wpT_seq ?_
 refine wpT_seq ?_
 refine wpT_region (by kernel_rfl) (fun K hK => ?_)
 simp only [↓SP, SZ, ↓reduceIte, reduceCtorEq, nE, nA, nL, nT, sec_neq, sec_eql]
 refine Pu.call (c43 im hl) ?_
 simp only [↓SP, SZ, ↓reduceIte, reduceCtorEq, nE, nA, nL, nT, sec_neq, sec_eql]
 refine hK _ _ ?_
 clear hK K
 refine wpT_seq ?_
 refine wpT_region (by kernel_rfl) (fun K hK => ?_)
 simp only [↓SP, SZ, ↓reduceIte, reduceCtorEq, nE, nA, nL, nT, sec_neq, sec_eql]
 refine hK _ _ ?_
 clear hK K
 refine wpT_if (by rfl) (fun hc9 => ?_) (fun hc9 => ?_)
 ·
  have p9 := hc9
  try simp only [PB] at p9
  have hx : fitsI im w = sizesE (sizesOf im) := if_pos p9
  refine wpT_seq ?_
  refine wpT_region (by kernel_rfl) (fun K hK => ?_)
  simp only [↓SP, SZ, ↓reduceIte, reduceCtorEq, nE, nA, nL, nT, sec_neq, sec_eql, hc9]
  refine hK _ _ ?_
  clear hK K
  refine wpT_ret ⟨.inr rfl, ?_⟩
  show optK (resA _ _ _ [.tmp 4]) _
  simp only [SRO, ↓SP, SZ, ↓reduceIte, reduceCtorEq, nE, nA, nL, nT, sec_neq, sec_eql, hc9]
  rw [hx]
  exact .refl _
 ·
  have p9 := hc9
  try simp only [PB] at p9
  have e0 : sizesE (sizesOf im) = 0 := by simpa using p9
  have hx : fitsI im w = fitsE (sizesOf im) w := if_neg (by omega)
  refine wpT_skip ?_
  refine wpT_seq ?_
  refine wpT_drawn [(1, 2)] mixed (by kernel_rfl) (m := 5) rfl (fun K hK => ?_)
  simp only [↓SP, SZ, ↓reduceIte, reduceCtorEq, nE, nA, nL, nT, sec_neq, sec_eql, hc9]
  refine Pu.callD (c45 im hl) ?_
  simp only [↓SP, SZ, ↓reduceIte, reduceCtorEq, nE, nA, nL, nT, sec_neq, sec_eql, hc9]
  refine Pu.callD (c69 (sizesOf im) w (sizesE_le e0)) ?_
  simp only [↓SP, SZ, ↓reduceIte, reduceCtorEq, nE, nA, nL, nT, sec_neq, sec_eql, hc9]
  refine hK _ _ ?_
  clear hK K
  refine wpT_ret ⟨.inr rfl, ?_⟩
  show optK (resA _ _ _ [.tmp 4]) _
  simp only [SRO, ↓SP, SZ, ↓reduceIte, reduceCtorEq, nE, nA, nL, nT, sec_neq, sec_eql, hc9]
  rw [hx]
  exact .refl _
theorem c59 (l : List Int) (n : Int) (hl : l.length < 4611686018427387904) : Pu Tryz.prog (.fn (.func 59) [] []) [.lst (l.map I), I n] (B (decide (n ∈ l))) := by
 refine pu_func Tryz.func59 rfl (by kernel_rfl) (by show _ ≤ 18; simp only [LN]; decide) (by simp only [IDS]) (by simp only [IDS]) (by simp only [IDS]) ?_
 rw [Tryz.ntmps59]
 refine wpT_seq ?_
 refine wpT_region (by kernel_rfl) (fun K hK => ?_)
 simp only [↓SP, SZ, ↓reduceIte, reduceCtorEq, nE, nA, nL, nT, sec_neq, sec_eql]
 refine hK _ _ ?_
 clear hK K
 refine wpT_seq ?_
 refine wpT_seq ?_
 refine wpT_region (by kernel_rfl) (fun K hK => ?_)
 simp only [↓SP, SZ, ↓reduceIte, reduceCtorEq, nE, nA, nL, nT, sec_neq, sec_eql]
 refine hK _ _ ?_
 clear hK K
 refine wpT_block ?_
 refine wpT_loop ?_
 refine wpT_keep0 ?_
 refine wpT_ind (fun (i : Nat) tm' h' => (∃ m, h' = Hp.of [] m) ∧ tm' 0 = .lst (l.map I) ∧ tm' 1 = I n ∧ tm' 5 = I i ∧ i ≤ l.length ∧ decide (n ∈ l.drop i) = decide (n ∈ l)) (fun i => l.length - i) ?_ 0 ⟨⟨_, rfl⟩, rfl, rfl, rfl, by omega, rfl⟩
 rintro i tm' _ ⟨⟨m, rfl⟩, e0, e1, e5, hi, hx⟩ IH
 refine wpT_inLoop ?_
 refine wpT_seq ?_
 refine wpT_seq ?_
 refine wpT_region (by kernel_rfl) (fun K hK => ?_)
 simp only [↓SP, SZ, ↓reduceIte, reduceCtorEq, nE, nA, nL, nT, sec_neq, sec_eql, e0, e5]
 refine hK _ _ ?_
 clear hK K
 refine wpT_if (by rfl) (fun hc9 => ?_) (fun hc9 => ?_)
 ·
  have p9 := hc9
  try simp only [PB] at p9
  have hlt : i < l.length := by omega
  have hg := at_map (f := I) hlt
  rw [List.drop_eq_getElem_cons hlt] at hx
  refine wpT_skip ?_
  refine wpT_seq ?_
  refine wpT_block ?_
  refine wpT_seq ?_
  refine wpT_region (by kernel_rfl) (fun K hK => ?_)
  simp only [↓SP, SZ, ↓reduceIte, reduceCtorEq, nE, nA, nL, nT, sec_neq, sec_eql, e0, e1, e5, hg, hc9]
  refine hK _ _ ?_
  clear hK K
  refine wpT_if (by rfl) (fun hc17 => ?_) (fun hc17 => ?_)
  ·
   have p17 := hc17
   try simp only [PB] at p17
   have hx2 : decide (n ∈ l) = true := by
     rw [← hx]
     have : l[i] = n := by simpa using p17
     simp [this]
   refine wpT_seq ?_
   refine wpT_region (by kernel_rfl) (fun K hK => ?_)
   simp only [↓SP, SZ, ↓reduceIte, reduceCtorEq, nE, nA, nL, nT, sec_neq, sec_eql, hc9, hc17]
   refine hK _ _ ?_
   clear hK K
   refine wpT_ret ⟨.inr rfl, ?_⟩
   show optK (resA _ _ _ [.tmp 4]) _
   simp only [SRO, ↓SP, SZ, ↓reduceIte, reduceCtorEq, nE, nA, nL, nT, sec_neq, sec_eql, hc9, hc17]
   rw [hx2]
   exact .refl _
  ·
   have p17 := hc17
   try simp only [PB] at p17
   have hx3 : decide (n ∈ l.drop (i + 1)) = decide (n ∈ l) := by
     refine Eq.trans ?_ hx
     have : ¬ n = l[i] := fun e => p17 (by simpa using e.symm)
     exact decide_eq_decide.2 (by simp only [List.mem_cons, this, false_or])
   refine wpT_skip ?_
   refine wpT_inBlock ?_
   refine wpT_region (by kernel_rfl) (fun K hK => ?_)
   simp only [↓SP, SZ, ↓reduceIte, reduceCtorEq, nE, nA, nL, nT, sec_neq, sec_eql, e5, wrap64 (x := (i : Int) + 1) (by omega) (by omega), hc9, hc17]
   refine hK _ _ ?_
   clear hK K
   refine wpT_keep0 ?_
   refine IH (i + 1) _ _ (by omega) ⟨⟨_, rfl⟩, by simp only [↓SP, SZ, ↓reduceIte, reduceCtorEq, nE, nA, nL, nT, sec_neq, sec_eql, e0], by simp only [↓SP, SZ, ↓reduceIte, reduceCtorEq, nE, nA, nL, nT, sec_neq, sec_eql, e1], by simp only [↓SP, SZ, ↓reduceIte, reduceCtorEq, nE, nA, nL, nT, sec_neq, sec_eql, Int.natCast_add, Int.cast_ofNat_Int], by omega, hx3⟩
 ·
  have p9 := hc9
  try simp only [PB] at p9
  rw [List.drop_eq_nil_of_le (by omega)] at hx
  refine wpT_exit rfl ?_
  refine wpT_seq ?_
  refine wpT_region (by kernel_rfl) (fun K hK => ?_)
  simp only [↓SP, SZ, ↓reduceIte, reduceCtorEq, nE, nA, nL, nT, sec_neq, sec_eql, hc9]
  refine hK _ _ ?_
  clear hK K
  refine wpT_ret ⟨.inr rfl, ?_⟩
  show optK (resA _ _ _ [.tmp 4]) _
  simp only [SRO, ↓SP, SZ, ↓reduceIte, reduceCtorEq, nE, nA, nL, nT, sec_neq, sec_eql, hc9]
  rw [← hx]
  exact .refl _
theorem c72 (l : List Int) (n : Nat) (hl : l.length < 4611686018427387904) : Pu Tryz.prog (.fn (.func 72) [] []) [.lst (l.map I), I n] (B (setP n (-1) l)) := by
 refine pu_func Tryz.func72 rfl (by kernel_rfl) (by show _ ≤ 41; simp only [LN]; decide) (by simp only [IDS]) (by simp only [IDS]) (by simp only [IDS]) ?_
 rw [Tryz.ntmps72]
 refine wpT_seq ?_
 refine wpT_region (by kernel_rfl) (fun K hK => ?_)
 simp only [↓SP, SZ, ↓reduceIte, reduceCtorEq, nE, nA, nL, nT, sec_neq, sec_eql]
 refine hK _ _ ?_
 clear hK K
 refine wpT_seq ?_
 refine wpT_seq ?_
 refine wpT_region (by kernel_rfl) (fun K hK => ?_)
 simp only [↓SP, SZ, ↓reduceIte, reduceCtorEq, nE, nA, nL, nT, sec_neq, sec_eql]
 refine hK _ _ ?_
 clear hK K
 refine wpT_block ?_
 refine wpT_loop ?_
 refine wpT_keep0 ?_
 refine wpT_ind (fun (i : Nat) tm' h' => (∃ m, h' = Hp.of [] m) ∧ tm' 0 = .lst (l.map I) ∧ tm' 1 = I n ∧ tm' 5 = I i ∧ i ≤ l.length ∧ setP n (prevI l i) (l.drop i) = setP n (-1) l) (fun i => l.length - i) ?_ 0 ⟨⟨_, rfl⟩, rfl, rfl, rfl, by omega, rfl⟩
 rintro i tm' _ ⟨⟨m, rfl⟩, e0, e1, e5, hi, hx⟩ IH
 refine wpT_inLoop ?_
 refine wpT_seq ?_
 refine wpT_seq ?_
 refine wpT_region (by kernel_rfl) (fun K hK => ?_)
 simp only [↓SP, SZ, ↓reduceIte, reduceCtorEq, nE, nA, nL, nT, sec_neq, sec_eql, e0, e5]
 refine hK _ _ ?_
 clear hK K
 refine wpT_if (by rfl) (fun hc9 => ?_) (fun hc9 => ?_)
 ·
  have p9 := hc9
  try simp only [PB] at p9
  have hlt : i < l.length := by omega
  have hg := at_map (f := I) hlt
  rw [List.drop_eq_getElem_cons hlt, setP] at hx
  refine wpT_skip ?_
  refine wpT_seq ?_
  refine wpT_block ?_
  refine wpT_seq ?_
  refine wpT_drawn [] mixed (by kernel_rfl) (m := 29) rfl (fun K hK => ?_)
  simp only [↓SP, SZ, ↓reduceIte, reduceCtorEq, nE, nA, nL, nT, sec_neq, sec_eql, e0, e1, e5, hg, hc9]
  refine guardD_split (fun hg17 => ?_) (fun hg17 => ?_)
  ·
   have p17 := hg17
   try simp only [PB] at p17
   simp only [↓SP, SZ, ↓reduceIte, reduceCtorEq, nE, nA, nL, nT, sec_neq, sec_eql, e0, e1, e5, hg, hc9, hg17]
   refine guardD_split (fun hg25 => ?_) (fun hg25 => ?_)
   ·
    have p25 := hg25
    try simp only [PB] at p25
    simp only [↓SP, SZ, ↓reduceIte, reduceCtorEq, nE, nA, nL, nT, sec_neq, sec_eql, e0, e1, e5, hg, hc9, hg17, hg25]
    refine guardD_split (fun hg28 => ?_) (fun hg28 => ?_)
    ·
     have p28 := hg28
     try simp only [PB] at p28
     have h0 : 0 < i := by omega
     obtain ⟨hlt1, hp⟩ := prevI_at hi h0
     have hg1 := at_map (f := I) hlt1
     have hw1 : IntKind.i64.wrap ((i : Int) - 1) = ((i - 1 : Nat) : Int) := by rw [wrap64 (by omega) (by omega)]; omega
     simp only [↓SP, SZ, ↓reduceIte, reduceCtorEq, nE, nA, nL, nT, sec_neq, sec_eql, e0, e1, e5, hg, hc9, hg17, hg25, hw1, hg1, hg28]
     refine hK _ _ ?_
     clear hK K
     refine wpT_if (by rfl) (fun hc40 => ?_) (fun hc40 => ?_)
     ·
      have p40 := hc40
      try simp only [PB] at p40
      have hx2 : setP n (-1) l = false := by
        rw [← hx]
        exact if_pos (by omega)
      refine wpT_seq ?_
      refine wpT_region (by kernel_rfl) (fun K hK => ?_)
      simp only [↓SP, SZ, ↓reduceIte, reduceCtorEq, nE, nA, nL, nT, sec_neq, sec_eql, hc9, hg17, hg25, hw1, hg1, hg28, hc40]
      refine hK _ _ ?_
      clear hK K
      refine wpT_ret ⟨.inr rfl, ?_⟩
      show optK (resA _ _ _ [.tmp 4]) _
      simp only [SRO, ↓SP, SZ, ↓reduceIte, reduceCtorEq, nE, nA, nL, nT, sec_neq, sec_eql, hc9, hg17, hg25, hw1, hg1, hg28, hc40]
      refine Lend.eq ?_
      first
        | rw [hx2]
        | rw [← hx]
     ·
      have p40 := hc40
      try simp only [PB] at p40
      rw [if_neg (by omega), ← prevI_succ hlt] at hx
      refine wpT_skip ?_
      refine wpT_inBlock ?_
      refine wpT_region (by kernel_rfl) (fun K hK => ?_)
      simp only [↓SP, SZ, ↓reduceIte, reduceCtorEq, nE, nA, nL, nT, sec_neq, sec_eql, e5, wrap64 (x := (i : Int) + 1) (by omega) (by omega), hc9, hg17, hg25, hw1, hg1, hg28, hc40]
      refine hK _ _ ?_
      clear hK K
      refine wpT_keep0 ?_
      refine IH (i + 1) _ _ (by omega) ⟨⟨_, rfl⟩, by simp only [↓SP, SZ, ↓reduceIte, reduceCtorEq, nE, nA, nL, nT, sec_neq, sec_eql, e0], by simp only [↓SP, SZ, ↓reduceIte, reduceCtorEq, nE, nA, nL, nT, sec_neq, sec_eql, e1], by simp only [↓SP, SZ, ↓reduceIte, reduceCtorEq, nE, nA, nL, nT, sec_neq, sec_eql, Int.natCast_add, Int.cast_ofNat_Int], by omega, hx⟩
    ·
     simp only [Bool.not_true, Bool.not_false] at hg28
     have p28 := hg28
     try simp only [PB] at p28
     have hi0 : i = 0 := by omega
     have hp : prevI l i = -1 := if_pos hi0
     simp only [↓SP, SZ, ↓reduceIte, reduceCtorEq, nE, nA, nL, nT, sec_neq, sec_eql, e0, e1, e5, hg, hc9, hg17, hg25, hg28]
     refine hK _ _ ?_
     clear hK K
     refine wpT_ifF (by simp only [↓SP, SZ, ↓reduceIte, reduceCtorEq, nE, nA, nL, nT, sec_neq, sec_eql, hc9, hg17, hg25, hg28]) ?_
     rw [if_neg (by omega), ← prevI_succ hlt] at hx
     refine wpT_skip ?_
     refine wpT_inBlock ?_
     refine wpT_region (by kernel_rfl) (fun K hK => ?_)
     simp only [↓SP, SZ, ↓reduceIte, reduceCtorEq, nE, nA, nL, nT, sec_neq, sec_eql, e5, wrap64 (x := (i : Int) + 1) (by omega) (by omega), hc9, hg17, hg25, hg28]
     refine hK _ _ ?_
     clear hK K
     refine wpT_keep0 ?_
     refine IH (i + 1) _ _ (by omega) ⟨⟨_, rfl⟩, by simp only [↓SP, SZ, ↓reduceIte, reduceCtorEq, nE, nA, nL, nT, sec_neq, sec_eql, e0], by simp only [↓SP, SZ, ↓reduceIte, reduceCtorEq, nE, nA, nL, nT, sec_neq, sec_eql, e1], by simp only [↓SP, SZ, ↓reduceIte, reduceCtorEq, nE, nA, nL, nT, sec_neq, sec_eql, Int.natCast_add, Int.cast_ofNat_Int], by omega, hx⟩
   ·
    simp only [Bool.not_true, Bool.not_false] at hg25
    have p25 := hg25
    try simp only [PB] at p25
    simp only [↓SP, SZ, ↓reduceIte, reduceCtorEq, nE, nA, nL, nT, sec_neq, sec_eql, e0, e1, e5, hg, hc9, hg17, hg25]
    refine hK _ _ ?_
    clear hK K
    refine wpT_ifT (by simp only [↓SP, SZ, ↓reduceIte, reduceCtorEq, nE, nA, nL, nT, sec_neq, sec_eql, hc9, hg17, hg25]) ?_
    have hx2 : setP n (-1) l = false := by
      rw [← hx]
      exact if_pos (by omega)
    refine wpT_seq ?_
    refine wpT_region (by kernel_rfl) (fun K hK => ?_)
    simp only [↓SP, SZ, ↓reduceIte, reduceCtorEq, nE, nA, nL, nT, sec_neq, sec_eql, hc9, hg17, hg25]
    refine hK _ _ ?_
    clear hK K
    refine wpT_ret ⟨.inr rfl, ?_⟩
    show optK (resA _ _ _ [.tmp 4]) _
    simp only [SRO, ↓SP, SZ, ↓reduceIte, reduceCtorEq, nE, nA, nL, nT, sec_neq, sec_eql, hc9, hg17, hg25]
    refine Lend.eq ?_
    first
      | rw [hx2]
      | rw [← hx]
  ·
   simp only [Bool.not_true, Bool.not_false] at hg17
   have p17 := hg17
   try simp only [PB] at p17
   simp only [↓SP, SZ, ↓reduceIte, reduceCtorEq, nE, nA, nL, nT, sec_neq, sec_eql, e0, e1, e5, hg, hc9, hg17]
   refine hK _ _ ?_
   clear hK K
   refine wpT_ifT (by simp only [↓SP, SZ, ↓reduceIte, reduceCtorEq, nE, nA, nL, nT, sec_neq, sec_eql, hc9, hg17]) ?_
   have hx2 : setP n (-1) l = false := by
     rw [← hx]
     exact if_pos (by omega)
   refine wpT_seq ?_
   refine wpT_region (by kernel_rfl) (fun K hK => ?_)
   simp only [↓SP, SZ, ↓reduceIte, reduceCtorEq, nE, nA, nL, nT, sec_neq, sec_eql, hc9, hg17]
   refine hK _ _ ?_
   clear hK K
   refine wpT_ret ⟨.inr rfl, ?_⟩
   show optK (resA _ _ _ [.tmp 4]) _
   simp only [SRO, ↓SP, SZ, ↓reduceIte, reduceCtorEq, nE, nA, nL, nT, sec_neq, sec_eql, hc9, hg17]
   refine Lend.eq ?_
   first
     | rw [hx2]
     | rw [← hx]
 ·
  have p9 := hc9
  try simp only [PB] at p9
  rw [List.drop_eq_nil_of_le (by omega), setP] at hx
  refine wpT_exit rfl ?_
  refine wpT_seq ?_
  refine wpT_region (by kernel_rfl) (fun K hK => ?_)
  simp only [↓SP, SZ, ↓reduceIte, reduceCtorEq, nE, nA, nL, nT, sec_neq, sec_eql, hc9]
  refine hK _ _ ?_
  clear hK K
  refine wpT_ret ⟨.inr rfl, ?_⟩
  show optK (resA _ _ _ [.tmp 4]) _
  simp only [SRO, ↓SP, SZ, ↓reduceIte, reduceCtorEq, nE, nA, nL, nT, sec_neq, sec_eql, hc9]
  refine Lend.eq ?_
  first
    | rw [hx2]
    | rw [← hx]
def authN (h : Hist) (c : Ct) : Int := (assoc c (ctsH 0 h.ws)).getD (-1)
theorem assoc_map_some {c : Ct} {n : Int} : ∀ {l : List Ct}, c ∈ l → assoc c (l.map fun x => (x, n)) = some n
  | [], h => by simp at h
  | y :: l, h => by
    rw [List.map_cons, assoc]
    by_cases e : c = y
    · rw [if_pos e]
    · rw [if_neg e]
      exact assoc_map_some (by rcases List.mem_cons.1 h with h | h; exact absurd h e; exact h)
theorem auth_step {ws : List Wr} {i : Nat} (hi : i < ws.length) (c : Ct) : assoc c (ctsH i (ws.drop i)) = if contW ws[i] c.vol c.sec = some c.dat then some (i : Int) else assoc c (ctsH (i + 1) (ws.drop (i + 1))) := by
  rw [List.drop_eq_getElem_cons hi, ctsH, assoc_app]
  by_cases h : contW ws[i] c.vol c.sec = some c.dat
  · rw [if_pos h, assoc_map_some (mem_cts.2 h)]
  · rw [if_neg h, assoc_map_none (fun hc => h (mem_cts.1 hc))]
theorem c26 (h : Hist) (c : Ct) (hs : h.sm) (eh : histE h = 0) : Pu Tryz.prog (.fn (.func 26) [] []) [h.av, I c.vol, I c.sec, c.dat.av] (I (authN h c)) := by
 refine pu_func Tryz.func26 rfl (by kernel_rfl) (by show _ ≤ 37; simp only [LN]; decide) (by simp only [IDS]) (by simp only [IDS]) (by simp only [IDS]) ?_
 rw [Tryz.ntmps26]
 have hwl := hs.2.1
 refine wpT_seq ?_
 refine wpT_region (by kernel_rfl) (fun K hK => ?_)
 simp only [↓SP, SZ, ↓reduceIte, reduceCtorEq, nE, nA, nL, nT, sec_neq, sec_eql, hist_cs]
 refine hK _ _ ?_
 clear hK K
 refine wpT_seq ?_
 refine wpT_seq ?_
 refine wpT_region (by kernel_rfl) (fun K hK => ?_)
 simp only [↓SP, SZ, ↓reduceIte, reduceCtorEq, nE, nA, nL, nT, sec_neq, sec_eql, hist_cs]
 refine hK _ _ ?_
 clear hK K
 refine wpT_block ?_
 refine wpT_loop ?_
 refine wpT_keep2 (i := 0) (j := 1) (o := .arr 26 3 [h.av]) (q := .arr 49 8 [c.dat.av]) (by simp only [↓SP, SZ, ↓reduceIte, reduceCtorEq, nE, nA, nL, nT, sec_neq, sec_eql]) (by simp only [↓SP, SZ, ↓reduceIte, reduceCtorEq, nE, nA, nL, nT, sec_neq, sec_eql]) ?_
 refine wpT_ind (fun (i : Nat) tm' h' => (∃ m, h' = Hp.of [(0, .arr 26 3 [h.av]), (1, .arr 49 8 [c.dat.av])] (m + 2)) ∧ tm' 1 = I c.vol ∧ tm' 2 = I c.sec ∧ tm' 4 = .ptr 0 1 0 0 ∧ tm' 7 = .ptr 1 1 0 0 ∧ tm' 9 = I i ∧ i ≤ h.ws.length ∧ assoc c (ctsH i (h.ws.drop i)) = assoc c (ctsH 0 h.ws)) (fun i => h.ws.length - i) ?_ 0 ⟨⟨0, rfl⟩, rfl, rfl, rfl, rfl, rfl, by omega, rfl⟩
 rintro i tm' _ ⟨⟨m, rfl⟩, e1, e2, e4, e7, e9, hi, hx⟩ IH
 refine wpT_inLoop ?_
 refine wpT_seq ?_
 refine wpT_seq ?_
 refine wpT_region (by kernel_rfl) (fun K hK => ?_)
 simp only [↓SP, SZ, ↓reduceIte, reduceCtorEq, nE, nA, nL, nT, sec_neq, sec_eql, hist_cs, e4, e9]
 refine hK _ _ ?_
 clear hK K
 refine wpT_if (by rfl) (fun hc16 => ?_) (fun hc16 => ?_)
 ·
  have p16 := hc16
  try simp only [PB] at p16
  have hlt : i < h.ws.length := by omega
  have hg := at_map (f := Wr.av) hlt
  have hmi := List.getElem_mem hlt
  obtain ⟨hj0, hj1⟩ := start_small eh hmi
  rw [auth_step hlt] at hx
  have hcs := conO_S (w := h.ws[i]) (v := c.vol) (k := c.sec) (s := c.dat)
  refine wpT_skip ?_
  refine wpT_seq ?_
  refine wpT_block ?_
  refine wpT_seq ?_
  refine wpT_region (by kernel_rfl) (fun K hK => ?_)
  simp only [↓SP, SZ, ↓reduceIte, reduceCtorEq, nE, nA, nL, nT, sec_neq, sec_eql, hist_cs, e1, e2, e4, e9, hg, hc16]
  refine Pu.call (c56 h.ws[i] c.vol c.sec hj0 hj1 (hs.2.2.2 _ hmi)) ?_
  simp only [↓SP, SZ, ↓reduceIte, reduceCtorEq, nE, nA, nL, nT, sec_neq, sec_eql, hist_cs, e1, e2, e4, e9, hg, hc16]
  refine hK _ _ ?_
  clear hK K
  refine wpT_seq ?_
  refine wpT_region (by kernel_rfl) (fun K hK => ?_)
  simp only [↓SP, SZ, ↓reduceIte, reduceCtorEq, nE, nA, nL, nT, sec_neq, sec_eql, hist_cs, e7, hc16]
  refine guardO_split (fun hg31 => ?_) (fun hg31 => ?_)
  ·
   have p31 := hg31
   try simp only [PB] at p31
   simp only [↓SP, SZ, ↓reduceIte, reduceCtorEq, nE, nA, nL, nT, sec_neq, sec_eql, hist_cs, e7, hc16, hg31]
   refine hK _ _ ?_
   clear hK K
   refine wpT_if (by rfl) (fun hc35 => ?_) (fun hc35 => ?_)
   ·
    have p35 := hc35
    try simp only [PB] at p35
    have hc : contW h.ws[i] c.vol c.sec = some c.dat := by
      rw [p31, decide_eq_true p35] at hcs
      simpa using hcs.symm
    rw [if_pos hc] at hx
    refine wpT_seq ?_
    refine wpT_region (by kernel_rfl) (fun K hK => ?_)
    simp only [↓SP, SZ, ↓reduceIte, reduceCtorEq, nE, nA, nL, nT, sec_neq, sec_eql, hist_cs, e9, hc16, hg31, hc35]
    refine hK _ _ ?_
    clear hK K
    refine wpT_ret ⟨.inr rfl, ?_⟩
    show optK (resA _ _ _ [.tmp 8]) _
    simp only [SRO, ↓SP, SZ, ↓reduceIte, reduceCtorEq, nE, nA, nL, nT, sec_neq, sec_eql, hist_cs, hc16, hg31, hc35]
    rw [authN, ← hx]
    exact .refl _
   ·
    have p35 := hc35
    try simp only [PB] at p35
    have hnc : ¬ contW h.ws[i] c.vol c.sec = some c.dat := by
      intro hc
      rw [decide_eq_true hc] at hcs
      first
        | (rw [p31, decide_eq_false p35] at hcs; simp at hcs; done)
        | (rw [p31] at hcs; simp at hcs; done)
    rw [if_neg hnc] at hx
    refine wpT_skip ?_
    refine wpT_inBlock ?_
    refine wpT_region (by kernel_rfl) (fun K hK => ?_)
    simp only [↓SP, SZ, ↓reduceIte, reduceCtorEq, nE, nA, nL, nT, sec_neq, sec_eql, hist_cs, e9, wrap64 (x := (i : Int) + 1) (by omega) (by omega), hc16, hg31, hc35]
    refine hK _ _ ?_
    clear hK K
    refine wpT_keep2 (i := 0) (j := 1) (o := .arr 26 3 [h.av]) (q := .arr 49 8 [c.dat.av]) (by simp only [↓SP, SZ, ↓reduceIte, reduceCtorEq, nE, nA, nL, nT, sec_neq, sec_eql]) (by simp only [↓SP, SZ, ↓reduceIte, reduceCtorEq, nE, nA, nL, nT, sec_neq, sec_eql]) ?_
    refine IH (i + 1) _ _ (by omega) ⟨⟨_, rfl⟩, by simp only [↓SP, SZ, ↓reduceIte, reduceCtorEq, nE, nA, nL, nT, sec_neq, sec_eql, e1], by simp only [↓SP, SZ, ↓reduceIte, reduceCtorEq, nE, nA, nL, nT, sec_neq, sec_eql, e2], by simp only [↓SP, SZ, ↓reduceIte, reduceCtorEq, nE, nA, nL, nT, sec_neq, sec_eql, e4], by simp only [↓SP, SZ, ↓reduceIte, reduceCtorEq, nE, nA, nL, nT, sec_neq, sec_eql, e7], by simp only [↓SP, SZ, ↓reduceIte, reduceCtorEq, nE, nA, nL, nT, sec_neq, sec_eql, Int.natCast_add, Int.cast_ofNat_Int], by omega, hx⟩
  ·
   simp only [Bool.not_true, Bool.not_false] at hg31
   have p31 := hg31
   try simp only [PB] at p31
   simp only [↓SP, SZ, ↓reduceIte, reduceCtorEq, nE, nA, nL, nT, sec_neq, sec_eql, hist_cs, e7, hc16, hg31]
   refine hK _ _ ?_
   clear hK K
   refine wpT_ifF (by simp only [↓SP, SZ, ↓reduceIte, reduceCtorEq, nE, nA, nL, nT, sec_neq, sec_eql, hist_cs, hc16, hg31]) ?_
   have hnc : ¬ contW h.ws[i] c.vol c.sec = some c.dat := by
     intro hc
     rw [decide_eq_true hc] at hcs
     first
       | (rw [p31, decide_eq_false p35] at hcs; simp at hcs; done)
       | (rw [p31] at hcs; simp at hcs; done)
   rw [if_neg hnc] at hx
   refine wpT_skip ?_
   refine wpT_inBlock ?_
   refine wpT_region (by kernel_rfl) (fun K hK => ?_)
   simp only [↓SP, SZ, ↓reduceIte, reduceCtorEq, nE, nA, nL, nT, sec_neq, sec_eql, hist_cs, e9, wrap64 (x := (i : Int) + 1) (by omega) (by omega), hc16, hg31]
   refine hK _ _ ?_
   clear hK K
   refine wpT_keep2 (i := 0) (j := 1) (o := .arr 26 3 [h.av]) (q := .arr 49 8 [c.dat.av]) (by simp only [↓SP, SZ, ↓reduceIte, reduceCtorEq, nE, nA, nL, nT, sec_neq, sec_eql]) (by simp only [↓SP, SZ, ↓reduceIte, reduceCtorEq, nE, nA, nL, nT, sec_neq, sec_eql]) ?_
   refine IH (i + 1) _ _ (by omega) ⟨⟨_, rfl⟩, by simp only [↓SP, SZ, ↓reduceIte, reduceCtorEq, nE, nA, nL, nT, sec_neq, sec_eql, e1], by simp only [↓SP, SZ, ↓reduceIte, reduceCtorEq, nE, nA, nL, nT, sec_neq, sec_eql, e2], by simp only [↓SP, SZ, ↓reduceIte, reduceCtorEq, nE, nA, nL, nT, sec_neq, sec_eql, e4], by simp only [↓SP, SZ, ↓reduceIte, reduceCtorEq, nE, nA, nL, nT, sec_neq, sec_eql, e7], by simp only [↓SP, SZ, ↓reduceIte, reduceCtorEq, nE, nA, nL, nT, sec_neq, sec_eql, Int.natCast_add, Int.cast_ofNat_Int], by omega, hx⟩
 ·
  have p16 := hc16
  try simp only [PB] at p16
  rw [List.drop_eq_nil_of_le (by omega), ctsH, assoc] at hx
  refine wpT_exit rfl ?_
  refine wpT_seq ?_
  refine wpT_region (by kernel_rfl) (fun K hK => ?_)
  simp only [↓SP, SZ, ↓reduceIte, reduceCtorEq, nE, nA, nL, nT, sec_neq, sec_eql, hist_cs, hc16]
  refine hK _ _ ?_
  clear hK K
  refine wpT_ret ⟨.inr rfl, ?_⟩
  show optK (resA _ _ _ [.tmp 8]) _
  simp only [SRO, ↓SP, SZ, ↓reduceIte, reduceCtorEq, nE, nA, nL, nT, sec_neq, sec_eql, hist_cs, hc16]
  rw [authN, ← hx]
  exact .refl _
theorem c22 (h : Hist) (im : List (List Sec)) (hs : h.sm) (hl : im.length < 4000000) : Pu Tryz.prog (.fn (.func 22) [] []) [h.av, imgAV im] (I (judgeE h im)) := by
 refine pu_func Tryz.func22 rfl (by kernel_rfl) (by show _ ≤ 26; simp only [LN]; decide) (by simp only [IDS]) (by simp only [IDS]) (by simp only [IDS]) ?_
 rw [Tryz.ntmps22]
 refine wpT_seq ?_
 refine wpT_region (by kernel_rfl) (fun K hK => ?_)
 simp only [↓SP, SZ, ↓reduceIte, reduceCtorEq, nE, nA, nL, nT, sec_neq, sec_eql, hist_cs]
 refine hK _ _ ?_
 clear hK K
 refine wpT_seq ?_
 refine wpT_seq ?_
 refine wpT_region (by kernel_rfl) (fun K hK => ?_)
 simp only [↓SP, SZ, ↓reduceIte, reduceCtorEq, nE, nA, nL, nT, sec_neq, sec_eql, hist_cs]
 refine Pu.call (c42 h hs) ?_
 simp only [↓SP, SZ, ↓reduceIte, reduceCtorEq, nE, nA, nL, nT, sec_neq, sec_eql, hist_cs]
 refine hK _ _ ?_
 clear hK K
 refine wpT_seq ?_
 refine wpT_region (by kernel_rfl) (fun K hK => ?_)
 simp only [↓SP, SZ, ↓reduceIte, reduceCtorEq, nE, nA, nL, nT, sec_neq, sec_eql, hist_cs]
 refine hK _ _ ?_
 clear hK K
 refine wpT_if (by rfl) (fun hc10 => ?_) (fun hc10 => ?_)
 ·
  have p10 := hc10
  try simp only [PB] at p10
  have hx : judgeE h im = histE h := if_pos p10
  refine wpT_seq ?_
  refine wpT_region (by kernel_rfl) (fun K hK => ?_)
  simp only [↓SP, SZ, ↓reduceIte, reduceCtorEq, nE, nA, nL, nT, sec_neq, sec_eql, hist_cs, hc10]
  refine hK _ _ ?_
  clear hK K
  refine wpT_ret ⟨.inr rfl, ?_⟩
  show optK (resA _ _ _ [.tmp 4]) _
  simp only [SRO, ↓SP, SZ, ↓reduceIte, reduceCtorEq, nE, nA, nL, nT, sec_neq, sec_eql, hist_cs, hc10]
  rw [hx]
  exact .refl _
 ·
  have p10 := hc10
  try simp only [PB] at p10
  have e0 : histE h = 0 := by simpa using p10
  refine wpT_skip ?_
  refine wpT_seq ?_
  refine wpT_seq ?_
  refine wpT_region (by kernel_rfl) (fun K hK => ?_)
  simp only [↓SP, SZ, ↓reduceIte, reduceCtorEq, nE, nA, nL, nT, sec_neq, sec_eql, hist_cs, hc10]
  refine Pu.call (c43 im hl) ?_
  simp only [↓SP, SZ, ↓reduceIte, reduceCtorEq, nE, nA, nL, nT, sec_neq, sec_eql, hist_cs, hc10]
  refine hK _ _ ?_
  clear hK K
  refine wpT_seq ?_
  refine wpT_region (by kernel_rfl) (fun K hK => ?_)
  simp only [↓SP, SZ, ↓reduceIte, reduceCtorEq, nE, nA, nL, nT, sec_neq, sec_eql, hist_cs, hc10]
  refine hK _ _ ?_
  clear hK K
  refine wpT_if (by rfl) (fun hc15 => ?_) (fun hc15 => ?_)
  ·
   have p15 := hc15
   try simp only [PB] at p15
   have hx : judgeE h im = sizesE (sizesOf im) := by rw [judgeE, if_neg (by omega), if_pos p15]
   refine wpT_seq ?_
   refine wpT_region (by kernel_rfl) (fun K hK => ?_)
   simp only [↓SP, SZ, ↓reduceIte, reduceCtorEq, nE, nA, nL, nT, sec_neq, sec_eql, hist_cs, hc10, hc15]
   refine hK _ _ ?_
   clear hK K
   refine wpT_ret ⟨.inr rfl, ?_⟩
   show optK (resA _ _ _ [.tmp 4]) _
   simp only [SRO, ↓SP, SZ, ↓reduceIte, reduceCtorEq, nE, nA, nL, nT, sec_neq, sec_eql, hist_cs, hc10, hc15]
   rw [hx]
   exact .refl _
  ·
   have p15 := hc15
   try simp only [PB] at p15
   have e1 : sizesE (sizesOf im) = 0 := by simpa using p15
   refine wpT_skip ?_
   refine wpT_seq ?_
   refine wpT_seq ?_
   refine wpT_drawn [(1, 2), (1, 3)] mixed (by kernel_rfl) (m := 6) rfl (fun K hK => ?_)
   simp only [↓SP, SZ, ↓reduceIte, reduceCtorEq, nE, nA, nL, nT, sec_neq, sec_eql, hist_cs, hc10, hc15]
   refine Pu.callD (c45 im hl) ?_
   simp only [↓SP, SZ, ↓reduceIte, reduceCtorEq, nE, nA, nL, nT, sec_neq, sec_eql, hist_cs, hc10, hc15]
   refine Pu.callD (c44 (sizesOf im) h.sizes (by simp [sizesOf]; omega)) ?_
   simp only [↓SP, SZ, ↓reduceIte, reduceCtorEq, nE, nA, nL, nT, sec_neq, sec_eql, hist_cs, hc10, hc15]
   refine hK _ _ ?_
   clear hK K
   refine wpT_if (by rfl) (fun hc22 => ?_) (fun hc22 => ?_)
   ·
    have p22 := hc22
    try simp only [PB] at p22
    have hx : judgeE h im = 22 := by rw [judgeE, if_neg (by omega), if_neg (by omega), if_pos (by simpa using p22)]
    refine wpT_seq ?_
    refine wpT_region (by kernel_rfl) (fun K hK => ?_)
    simp only [↓SP, SZ, ↓reduceIte, reduceCtorEq, nE, nA, nL, nT, sec_neq, sec_eql, hist_cs, hc10, hc15, hc22]
    refine hK _ _ ?_
    clear hK K
    refine wpT_ret ⟨.inr rfl, ?_⟩
    show optK (resA _ _ _ [.tmp 4]) _
    simp only [SRO, ↓SP, SZ, ↓reduceIte, reduceCtorEq, nE, nA, nL, nT, sec_neq, sec_eql, hist_cs, hc10, hc15, hc22]
    rw [hx]
    exact .refl _
   ·
    have p22 := hc22
    try simp only [PB] at p22
    have e2 : sizesOf im = h.sizes := by simpa using p22
    have hx0 : judgeE h im = if distB h = true then 0 else 1 := by rw [judgeE, if_neg (by omega), if_neg (by omega), if_neg (by simp [e2])]
    refine wpT_skip ?_
    refine wpT_seq ?_
    refine wpT_seq ?_
    refine wpT_region (by kernel_rfl) (fun K hK => ?_)
    simp only [↓SP, SZ, ↓reduceIte, reduceCtorEq, nE, nA, nL, nT, sec_neq, sec_eql, hist_cs, show decide (histE h = 0) = true from decide_eq_true e0, hc10, hc15, hc22]
    refine Pu.call (c46 h hs) ?_
    simp only [↓SP, SZ, ↓reduceIte, reduceCtorEq, nE, nA, nL, nT, sec_neq, sec_eql, hist_cs, show decide (histE h = 0) = true from decide_eq_true e0, hc10, hc15, hc22]
    refine hK _ _ ?_
    clear hK K
    refine wpT_if (by rfl) (fun hc25 => ?_) (fun hc25 => ?_)
    ·
     have p25 := hc25
     try simp only [PB] at p25
     have hx : judgeE h im = 1 := by rw [hx0, if_neg (by simp_all)]
     refine wpT_seq ?_
     refine wpT_region (by kernel_rfl) (fun K hK => ?_)
     simp only [↓SP, SZ, ↓reduceIte, reduceCtorEq, nE, nA, nL, nT, sec_neq, sec_eql, hist_cs, hc10, hc15, hc22, hc25]
     refine hK _ _ ?_
     clear hK K
     refine wpT_ret ⟨.inr rfl, ?_⟩
     show optK (resA _ _ _ [.tmp 4]) _
     simp only [SRO, ↓SP, SZ, ↓reduceIte, reduceCtorEq, nE, nA, nL, nT, sec_neq, sec_eql, hist_cs, hc10, hc15, hc22, hc25]
     rw [hx]
     exact .refl _
    ·
     have p25 := hc25
     try simp only [PB] at p25
     have hx : judgeE h im = 0 := by rw [hx0, if_pos (by simp_all)]
     refine wpT_skip ?_
     refine wpT_seq ?_
     refine wpT_region (by kernel_rfl) (fun K hK => ?_)
     simp only [↓SP, SZ, ↓reduceIte, reduceCtorEq, nE, nA, nL, nT, sec_neq, sec_eql, hist_cs, hc10, hc15, hc22, hc25]
     refine hK _ _ ?_
     clear hK K
     refine wpT_ret ⟨.inr rfl, ?_⟩
     show optK (resA _ _ _ [.tmp 4]) _
     simp only [SRO, ↓SP, SZ, ↓reduceIte, reduceCtorEq, nE, nA, nL, nT, sec_neq, sec_eql, hist_cs, hc10, hc15, hc22, hc25]
     rw [hx]
     exact .refl _
theorem c57 (h : Hist) (l : List Int) (hs : h.sm) (hl : l.length < 4000000) : Pu Tryz.prog (.fn (.func 57) [] []) [h.av, .lst (l.map I)] (I (setsE h [l])) := by
 refine pu_func Tryz.func57 rfl (by kernel_rfl) (by show _ ≤ 17; simp only [LN]; decide) (by simp only [IDS]) (by simp only [IDS]) (by simp only [IDS]) ?_
 rw [Tryz.ntmps57]
 refine wpT_seq ?_
 refine wpT_region (by kernel_rfl) (fun K hK => ?_)
 simp only [↓SP, SZ, ↓reduceIte, reduceCtorEq, nE, nA, nL, nT, sec_neq, sec_eql, hist_cs]
 refine hK _ _ ?_
 clear hK K
 refine wpT_seq ?_
 refine wpT_seq ?_
 refine wpT_region (by kernel_rfl) (fun K hK => ?_)
 simp only [↓SP, SZ, ↓reduceIte, reduceCtorEq, nE, nA, nL, nT, sec_neq, sec_eql, hist_cs]
 refine Pu.call (c42 h hs) ?_
 simp only [↓SP, SZ, ↓reduceIte, reduceCtorEq, nE, nA, nL, nT, sec_neq, sec_eql, hist_cs]
 refine hK _ _ ?_
 clear hK K
 refine wpT_seq ?_
 refine wpT_region (by kernel_rfl) (fun K hK => ?_)
 simp only [↓SP, SZ, ↓reduceIte, reduceCtorEq, nE, nA, nL, nT, sec_neq, sec_eql, hist_cs]
 refine hK _ _ ?_
 clear hK K
 refine wpT_if (by rfl) (fun hc9 => ?_) (fun hc9 => ?_)
 ·
  have p9 := hc9
  try simp only [PB] at p9
  have hx : setsE h [l] = histE h := if_pos p9
  refine wpT_seq ?_
  refine wpT_region (by kernel_rfl) (fun K hK => ?_)
  simp only [↓SP, SZ, ↓reduceIte, reduceCtorEq, nE, nA, nL, nT, sec_neq, sec_eql, hist_cs, hc9]
  refine hK _ _ ?_
  clear hK K
  refine wpT_ret ⟨.inr rfl, ?_⟩
  show optK (resA _ _ _ [.tmp 4]) _
  simp only [SRO, ↓SP, SZ, ↓reduceIte, reduceCtorEq, nE, nA, nL, nT, sec_neq, sec_eql, hist_cs, hc9]
  rw [hx]
  exact .refl _
 ·
  have p9 := hc9
  try simp only [PB] at p9
  have e0 : histE h = 0 := by simpa using p9
  have hx0 : setsE h [l] = if ([l].all fun l => setP h.ws.length (-1) l) = true then 0 else 2 := if_neg (by omega)
  refine wpT_skip ?_
  refine wpT_seq ?_
  refine wpT_seq ?_
  refine wpT_region (by kernel_rfl) (fun K hK => ?_)
  simp only [↓SP, SZ, ↓reduceIte, reduceCtorEq, nE, nA, nL, nT, sec_neq, sec_eql, hist_cs, hc9]
  refine Pu.call (c72 l h.ws.length (by omega)) ?_
  simp only [↓SP, SZ, ↓reduceIte, reduceCtorEq, nE, nA, nL, nT, sec_neq, sec_eql, hist_cs, hc9]
  refine hK _ _ ?_
  clear hK K
  refine wpT_if (by rfl) (fun hc16 => ?_) (fun hc16 => ?_)
  ·
   have p16 := hc16
   try simp only [PB] at p16
   have hx : setsE h [l] = 2 := by rw [hx0, if_neg (by simp_all)]
   refine wpT_seq ?_
   refine wpT_region (by kernel_rfl) (fun K hK => ?_)
   simp only [↓SP, SZ, ↓reduceIte, reduceCtorEq, nE, nA, nL, nT, sec_neq, sec_eql, hist_cs, hc9, hc16]
   refine hK _ _ ?_
   clear hK K
   refine wpT_ret ⟨.inr rfl, ?_⟩
   show optK (resA _ _ _ [.tmp 4]) _
   simp only [SRO, ↓SP, SZ, ↓reduceIte, reduceCtorEq, nE, nA, nL, nT, sec_neq, sec_eql, hist_cs, hc9, hc16]
   rw [hx]
   exact .refl _
  ·
   have p16 := hc16
   try simp only [PB] at p16
   have hx : setsE h [l] = 0 := by rw [hx0, if_pos (by simp_all)]
   refine wpT_skip ?_
   refine wpT_seq ?_
   refine wpT_region (by kernel_rfl) (fun K hK => ?_)
   simp only [↓SP, SZ, ↓reduceIte, reduceCtorEq, nE, nA, nL, nT, sec_neq, sec_eql, hist_cs, hc9, hc16]
   refine hK _ _ ?_
   clear hK K
   refine wpT_ret ⟨.inr rfl, ?_⟩
   show optK (resA _ _ _ [.tmp 4]) _
   simp only [SRO, ↓SP, SZ, ↓reduceIte, reduceCtorEq, nE, nA, nL, nT, sec_neq, sec_eql, hist_cs, hc9, hc16]
   rw [hx]
   exact .refl _
end Go.Proofs.YtfdfkmcplhloaaaGreat
end

section
set_option linter.unusedSimpArgs false
set_option linter.unusedVariables false
namespace Go.Proofs.YtfdfkmcplhloaaaGreat
open Go.Proofs
open Nat renaming reduceEqDiff → nE, reduceAdd → nA, reduceLeDiff → nL, reduceLT → nT
set_option maxRecDepth 10000
def mpL (n : Nat) (f : Nat → Bool) (b : Nat) : List Bool := (List.range n).map fun j => decide (j < b) && f j
theorem mpL_length (n : Nat) (f : Nat → Bool) (b : Nat) : (mpL n f b).length = n := by simp [mpL]
theorem mpL_zero (n : Nat) (f : Nat → Bool) : mpL n f 0 = List.replicate n false := by
  refine List.ext_getElem? fun i => ?_
  simp only [mpL, List.getElem?_map, List.getElem?_replicate, List.getElem?_range]
  by_cases h : i < n <;> simp [h]
theorem mpL_set {n : Nat} {f : Nat → Bool} {b : Nat} (h : b < n) : (mpL n f b).set b (f b) = mpL n f (b + 1) := by
  refine List.ext_getElem? fun i => ?_
  rw [List.getElem?_set, mpL_length]
  simp only [mpL, List.getElem?_map]
  by_cases hi : b = i
  · subst hi; simp [h]
  · rw [if_neg hi]
    by_cases hn : i < n
    · have : decide (i < b) = decide (i < b + 1) := decide_eq_decide.2 (by omega)
      simp [hn, this]
    · rw [List.getElem?_eq_none (by simp; omega)]; simp
theorem mpL_all (n : Nat) (f : Nat → Bool) : mpL n f n = (List.range n).map f := by
  refine List.map_congr_left fun j hj => ?_
  have := List.mem_range.1 hj
  simp [this]
def flL (c : Int) (k L : Nat) : List Int := List.replicate k c ++ List.replicate (L - k) 0
theorem flL_length {c : Int} {k L : Nat} (h : k ≤ L) : (flL c k L).length = L := by simp [flL]; omega
theorem flL_set {c : Int} {k L : Nat} (h : k < L) : (flL c k L).set k c = flL c (k + 1) L := by
  have e : List.replicate (L - k) (0 : Int) = 0 :: List.replicate (L - (k + 1)) 0 := by rw [show L - k = (L - (k + 1)) + 1 by omega, List.replicate_succ]
  rw [flL, flL, e, List.set_append_right _ _ (by simp)]
  simp only [List.length_replicate, Nat.sub_self, List.set_cons_zero]
  rw [List.replicate_succ']
  simp
theorem relF_tab {h : Hist} (e : histE h = 0) : relF 0 (List.replicate h.ws.length 0) (List.replicate h.ws.length (-1)) h.evs = ((histRun h).2.iss, (histRun h).2.ack) := by
  obtain ⟨_, _, _, h4, h5, h6, _, h8⟩ := hist_ok e
  have := relF_run 0 (-1) (xs := h.evs) (tl0_good h.ws.length) h4
  simp only [List.length_nil, Nat.sub_zero, List.nil_append, List.map_nil] at this
  rw [this]
  have e5 : (evRun h.ws.length 0 ⟨[], []⟩ h.evs).2.iss.length = h.ws.length := h5
  rw [e5, Nat.sub_self]
  simp only [List.replicate_zero, List.append_nil, Prod.mk.injEq]
  refine ⟨rfl, ?_⟩
  have hm : (evRun h.ws.length 0 ⟨[], []⟩ h.evs).2.ack.map (phi (-1)) = (evRun h.ws.length 0 ⟨[], []⟩ h.evs).2.ack.map id := List.map_congr_left fun x hx => by
    have := h8 x hx
    rw [phi]
    split
    · simp only [id]; omega
    · rfl
  rw [hm, List.map_id]
  rfl
def rowR (h : Hist) (a : Nat) : List Bool := (List.range h.ws.length).map fun b => befT (histRun h).2 a b
def tabR (h : Hist) : List (List Bool) := (List.range h.ws.length).map (rowR h)
def tabAV (t : List (List Bool)) : AV := .lst (t.map fun r => .lst (r.map B))
theorem tab_idf (t : List (List Bool)) : Idf (tabAV t) = True := eq_true (by simp only [tabAV, IDF, implies_true])
theorem tab_okc (t : List (List Bool)) : ∀ e ∈ t.map (fun r => AV.lst (r.map B)), e.okc = true := fun e he => by
  obtain ⟨a, _, rfl⟩ := List.mem_map.1 he
  rfl
theorem c58 (h : Hist) (hs : h.sm) (eh : histE h = 0) : Pu Tryz.prog (.fn (.func 58) [] []) [h.av] (tabAV (tabR h)) := by
 refine pu_func Tryz.func58 rfl (by kernel_rfl) (by show _ ≤ 95; simp only [LN]; decide) (by simp only [IDS, tab_idf]) (by simp only [IDS, tab_idf]) (by simp only [IDS, tab_idf]) ?_
 rw [Tryz.ntmps58]
 obtain ⟨_, hw4, _, h4, h5, h6, _⟩ := hist_ok eh
 have hel := hs.2.2.1
 have hin := evRun_in (tl0_good h.ws.length) h4
 refine wpT_seq ?_
 refine wpT_region (by kernel_rfl) (fun K hK => ?_)
 simp only [↓SP, SZ, ↓reduceIte, reduceCtorEq, nE, nA, nL, nT, sec_neq, hist_cs]
 refine hK _ _ ?_
 clear hK K
 refine wpT_seq ?_
 refine wpT_region (by kernel_rfl) (fun K hK => ?_)
 simp only [↓SP, SZ, ↓reduceIte, reduceCtorEq, nE, nA, nL, nT, sec_neq, hist_cs]
 refine hK _ _ ?_
 clear hK K
 refine wpT_seq ?_
 refine wpT_drawn [(1, 3)] mixed (by kernel_rfl) (m := 6) rfl (fun K hK => ?_)
 simp only [↓SP, SZ, ↓reduceIte, reduceCtorEq, nE, nA, nL, nT, sec_neq, hist_cs, msO_ok 8 h.ws.length h.ws.length (by omega) (Int.le_refl _) (by omega) (by omega), Int.toNat_natCast]
 refine hK _ _ ?_
 clear hK K
 refine wpT_seq ?_
 refine wpT_seq ?_
 refine wpT_region (by kernel_rfl) (fun K hK => ?_)
 simp only [↓SP, SZ, ↓reduceIte, reduceCtorEq, nE, nA, nL, nT, sec_neq, hist_cs]
 refine hK _ _ ?_
 clear hK K
 refine wpT_block ?_
 refine wpT_loop ?_
 refine wpT_keep3 (i := 0) (j := 2) (k := 4) (o := .arr 26 3 [h.av]) (q := .arr 3 1 ((flL (-1) 0 h.ws.length).map I)) (r := .arr 3 1 ((List.replicate h.ws.length (0 : Int)).map I)) (by simp only [↓SP, SZ, ↓reduceIte, reduceCtorEq, nE, nA, nL, nT, sec_neq]) (by simp only [↓SP, SZ, ↓reduceIte, reduceCtorEq, nE, nA, nL, nT, sec_neq, flL, List.map_replicate, List.replicate_zero, Nat.sub_zero]) (by simp only [↓SP, SZ, ↓reduceIte, reduceCtorEq, nE, nA, nL, nT, sec_neq, List.map_replicate]) ?_
 refine wpT_ind (fun (i : Nat) tm' h' => (∃ m, h' = Hp.of [(0, .arr 26 3 [h.av]), (2, .arr 3 1 ((flL (-1) i h.ws.length).map I)), (4, .arr 3 1 ((List.replicate h.ws.length (0 : Int)).map I))] m ∧ 5 ≤ m) ∧ tm' 1 = .ptr 0 1 0 0 ∧ tm' 3 = I h.ws.length ∧ tm' 4 = .sl 2 h.ws.length 0 h.ws.length ∧ tm' 5 = .sl 4 h.ws.length 0 h.ws.length ∧ tm' 6 = I i ∧ i ≤ h.ws.length) (fun i => h.ws.length - i) ?_ 0 ⟨⟨_, rfl, by simp only [↓SP, SZ, ↓reduceIte, reduceCtorEq, nE, nA, nL, nT, sec_neq]⟩, rfl, rfl, rfl, rfl, rfl, by omega⟩
 rintro i tm' _ ⟨⟨m, rfl, hm⟩, e1, e3, e4, e5, e6, hi⟩ IH
 refine wpT_inLoop ?_
 refine wpT_seq ?_
 refine wpT_seq ?_
 refine wpT_region (by kernel_rfl) (fun K hK => ?_)
 simp only [↓SP, SZ, ↓reduceIte, reduceCtorEq, nE, nA, nL, nT, sec_neq, hist_cs, e3, e6]
 refine hK _ _ ?_
 clear hK K
 refine wpT_if (by rfl) (fun hc21 => ?_) (fun hc21 => ?_)
 ·
  have p21 := hc21
  try simp only [PB] at p21
  have hlt : i < h.ws.length := by omega
  have hfl := flL_length (c := -1) hi
  have hg := at_map (f := I) (xs := flL (-1) i h.ws.length) (i := i) (by omega)
  have hz0 : (0 : Int) ≤ (i : Int) := by omega
  have hz1 : (i : Int) < (h.ws.length : Int) := by omega
  refine wpT_skip ?_
  refine wpT_seq ?_
  refine wpT_block ?_
  refine wpT_region (by kernel_rfl) (fun K hK => ?_)
  simp only [↓SP, SZ, ↓reduceIte, reduceCtorEq, nE, nA, nL, nT, sec_neq, hist_cs, e4, e6, hfl, hg, hz0, hz1, Int.toNat_natCast, stO_arr, Option.bind_some, hc21]
  refine hK _ _ ?_
  clear hK K
  refine wpT_inBlock ?_
  refine wpT_region (by kernel_rfl) (fun K hK => ?_)
  simp only [↓SP, SZ, ↓reduceIte, reduceCtorEq, nE, nA, nL, nT, sec_neq, hist_cs, e6, wrap64 (x := (i : Int) + 1) (by omega) (by omega), hc21]
  refine hK _ _ ?_
  clear hK K
  refine wpT_keep3 (i := 0) (j := 2) (k := 4) (o := .arr 26 3 [h.av]) (q := .arr 3 1 ((flL (-1) (i + 1) h.ws.length).map I)) (r := .arr 3 1 ((List.replicate h.ws.length (0 : Int)).map I)) (by simp only [↓SP, SZ, ↓reduceIte, reduceCtorEq, nE, nA, nL, nT, sec_neq]) (by simp only [↓SP, SZ, ↓reduceIte, reduceCtorEq, nE, nA, nL, nT, sec_neq, ← flL_set hlt, List.map_set]) (by simp only [↓SP, SZ, ↓reduceIte, reduceCtorEq, nE, nA, nL, nT, sec_neq]) ?_
  refine IH (i + 1) _ _ (by omega) ⟨⟨_, rfl, hm⟩, by simp only [↓SP, SZ, ↓reduceIte, reduceCtorEq, nE, nA, nL, nT, sec_neq, e1], by simp only [↓SP, SZ, ↓reduceIte, reduceCtorEq, nE, nA, nL, nT, sec_neq, e3], by simp only [↓SP, SZ, ↓reduceIte, reduceCtorEq, nE, nA, nL, nT, sec_neq, e4], by simp only [↓SP, SZ, ↓reduceIte, reduceCtorEq, nE, nA, nL, nT, sec_neq, e5], by simp only [↓SP, SZ, ↓reduceIte, reduceCtorEq, nE, nA, nL, nT, sec_neq, Int.natCast_add, Int.cast_ofNat_Int], by omega⟩
 ·
  have p21 := hc21
  try simp only [PB] at p21
  have hi2 : i = h.ws.length := by omega
  subst hi2
  have hfill : flL (-1) h.ws.length h.ws.length = List.replicate h.ws.length (-1) := by simp [flL]
  rw [hfill]
  refine wpT_exit rfl ?_
  refine wpT_seq ?_
  refine wpT_seq ?_
  refine wpT_region (by kernel_rfl) (fun K hK => ?_)
  simp only [↓SP, SZ, ↓reduceIte, reduceCtorEq, nE, nA, nL, nT, sec_neq, hist_cs, hc21]
  refine hK _ _ ?_
  clear hK K
  refine wpT_block ?_
  refine wpT_loop ?_
  clear IH
  refine wpT_ind (fun (i : Nat) tm' h' => ∃ iss ack : List Int, (∃ m, h' = Hp.of [(0, .arr 26 3 [h.av]), (2, .arr 3 1 (ack.map I)), (4, .arr 3 1 (iss.map I))] m ∧ 5 ≤ m) ∧ tm' 1 = .ptr 0 1 0 0 ∧ tm' 3 = I h.ws.length ∧ tm' 4 = .sl 2 h.ws.length 0 h.ws.length ∧ tm' 5 = .sl 4 h.ws.length 0 h.ws.length ∧ tm' 7 = I i ∧ i ≤ h.evs.length ∧ iss.length = h.ws.length ∧ ack.length = h.ws.length ∧ relF i iss ack (h.evs.drop i) = ((histRun h).2.iss, (histRun h).2.ack)) (fun i => h.evs.length - i) ?_ 0 ⟨_, _, ⟨_, rfl, hm⟩, by simp only [↓SP, SZ, ↓reduceIte, reduceCtorEq, nE, nA, nL, nT, sec_neq, e1], by simp only [↓SP, SZ, ↓reduceIte, reduceCtorEq, nE, nA, nL, nT, sec_neq, e3], by simp only [↓SP, SZ, ↓reduceIte, reduceCtorEq, nE, nA, nL, nT, sec_neq, e4], by simp only [↓SP, SZ, ↓reduceIte, reduceCtorEq, nE, nA, nL, nT, sec_neq, e5], rfl, by omega, by simp, by simp, relF_tab eh⟩
  clear e1 e3 e4 e5 e6
  rintro i tm' _ ⟨iss, ack, ⟨m, rfl, hm⟩, e1, e3, e4, e5, e7, hi, hli, hla, hrel⟩ IH
  refine wpT_inLoop ?_
  refine wpT_seq ?_
  refine wpT_seq ?_
  refine wpT_region (by kernel_rfl) (fun K hK => ?_)
  simp only [↓SP, SZ, ↓reduceIte, reduceCtorEq, nE, nA, nL, nT, sec_neq, hist_cs, e1, e7]
  refine hK _ _ ?_
  clear hK K
  refine wpT_if (by rfl) (fun hc31 => ?_) (fun hc31 => ?_)
  ·
   have p31 := hc31
   try simp only [PB] at p31
   have hlt : i < h.evs.length := by omega
   have hg := at_map (f := Evn.av) hlt
   rw [List.drop_eq_getElem_cons hlt, relF] at hrel
   obtain ⟨a1, a2, a3⟩ := hin _ (List.getElem_mem hlt)
   obtain ⟨k, hk⟩ := Int.eq_ofNat_of_zero_le a1
   rw [hk, Int.toNat_natCast] at hrel
   have hgi := at_map (f := I) (xs := iss) (i := k) (by omega)
   have hga := at_map (f := I) (xs := ack) (i := k) (by omega)
   have hz0 : (0 : Int) ≤ (k : Int) := by omega
   have hz1 : (k : Int) < (h.ws.length : Int) := by omega
   refine wpT_skip ?_
   refine wpT_seq ?_
   refine wpT_block ?_
   refine wpT_seq ?_
   refine wpT_region (by kernel_rfl) (fun K hK => ?_)
   simp only [↓SP, SZ, ↓reduceIte, reduceCtorEq, nE, nA, nL, nT, sec_neq, hist_cs, e1, e7, hg, evn_cs, hc31]
   refine hK _ _ ?_
   clear hK K
   refine wpT_if (by rfl) (fun hc40 => ?_) (fun hc40 => ?_)
   ·
    have p40 := hc40
    try simp only [PB] at p40
    have hk1 : ¬ (h.evs[i]).kind = 0 := by
      have : (h.evs[i]).kind = 1 := by simpa using p40
      omega
    rw [if_neg hk1] at hrel
    have hT : (ack.set k (i : Int)).length = h.ws.length := by simpa using hla
    refine wpT_region (by kernel_rfl) (fun K hK => ?_)
    simp only [↓SP, SZ, ↓reduceIte, reduceCtorEq, nE, nA, nL, nT, sec_neq, hist_cs, e1, e4, e7, hg, evn_cs, hk, hla, hga, hz0, hz1, Int.toNat_natCast, stO_arr, Option.bind_some, hc31, hc40]
    refine hK _ _ ?_
    clear hK K
    refine wpT_inBlock ?_
    refine wpT_region (by kernel_rfl) (fun K hK => ?_)
    simp only [↓SP, SZ, ↓reduceIte, reduceCtorEq, nE, nA, nL, nT, sec_neq, hist_cs, e7, wrap64 (x := (i : Int) + 1) (by omega) (by omega), hc31, hc40]
    refine hK _ _ ?_
    clear hK K
    first
      | (have hu := hT
         refine wpT_keep3 (i := 0) (j := 2) (k := 4) (o := .arr 26 3 [h.av]) (q := .arr 3 1 ((ack.set k (i : Int)).map I)) (r := .arr 3 1 (iss.map I)) (by simp only [↓SP, SZ, ↓reduceIte, reduceCtorEq, nE, nA, nL, nT, sec_neq]) (by simp only [↓SP, SZ, ↓reduceIte, reduceCtorEq, nE, nA, nL, nT, sec_neq, List.map_set]) (by simp only [↓SP, SZ, ↓reduceIte, reduceCtorEq, nE, nA, nL, nT, sec_neq]) ?_
         refine IH (i + 1) _ _ (by omega) ⟨iss, ack.set k (i : Int), ⟨_, rfl, hm⟩, by simp only [↓SP, SZ, ↓reduceIte, reduceCtorEq, nE, nA, nL, nT, sec_neq, e1], by simp only [↓SP, SZ, ↓reduceIte, reduceCtorEq, nE, nA, nL, nT, sec_neq, e3], by simp only [↓SP, SZ, ↓reduceIte, reduceCtorEq, nE, nA, nL, nT, sec_neq, e4], by simp only [↓SP, SZ, ↓reduceIte, reduceCtorEq, nE, nA, nL, nT, sec_neq, e5], by simp only [↓SP, SZ, ↓reduceIte, reduceCtorEq, nE, nA, nL, nT, sec_neq, Int.natCast_add, Int.cast_ofNat_Int], by omega, hli, hu, hrel⟩)
      | (have hu := hF
         refine wpT_keep3 (i := 0) (j := 2) (k := 4) (o := .arr 26 3 [h.av]) (q := .arr 3 1 (ack.map I)) (r := .arr 3 1 ((iss.set k (i : Int)).map I)) (by simp only [↓SP, SZ, ↓reduceIte, reduceCtorEq, nE, nA, nL, nT, sec_neq]) (by simp only [↓SP, SZ, ↓reduceIte, reduceCtorEq, nE, nA, nL, nT, sec_neq]) (by simp only [↓SP, SZ, ↓reduceIte, reduceCtorEq, nE, nA, nL, nT, sec_neq, List.map_set]) ?_
         refine IH (i + 1) _ _ (by omega) ⟨iss.set k (i : Int), ack, ⟨_, rfl, hm⟩, by simp only [↓SP, SZ, ↓reduceIte, reduceCtorEq, nE, nA, nL, nT, sec_neq, e1], by simp only [↓SP, SZ, ↓reduceIte, reduceCtorEq, nE, nA, nL, nT, sec_neq, e3], by simp only [↓SP, SZ, ↓reduceIte, reduceCtorEq, nE, nA, nL, nT, sec_neq, e4], by simp only [↓SP, SZ, ↓reduceIte, reduceCtorEq, nE, nA, nL, nT, sec_neq, e5], by simp only [↓SP, SZ, ↓reduceIte, reduceCtorEq, nE, nA, nL, nT, sec_neq, Int.natCast_add, Int.cast_ofNat_Int], by omega, hu, hla, hrel⟩)
   ·
    have p40 := hc40
    try simp only [PB] at p40
    have hk0 : (h.evs[i]).kind = 0 := by
      have : ¬ (h.evs[i]).kind = 1 := by simpa using p40
      omega
    rw [if_pos hk0] at hrel
    have hF : (iss.set k (i : Int)).length = h.ws.length := by simpa using hli
    refine wpT_region (by kernel_rfl) (fun K hK => ?_)
    simp only [↓SP, SZ, ↓reduceIte, reduceCtorEq, nE, nA, nL, nT, sec_neq, hist_cs, e1, e5, e7, hg, evn_cs, hk, hli, hgi, hz0, hz1, Int.toNat_natCast, stO_arr, Option.bind_some, hc31, hc40]
    refine hK _ _ ?_
    clear hK K
    refine wpT_inBlock ?_
    refine wpT_region (by kernel_rfl) (fun K hK => ?_)
    simp only [↓SP, SZ, ↓reduceIte, reduceCtorEq, nE, nA, nL, nT, sec_neq, hist_cs, e7, wrap64 (x := (i : Int) + 1) (by omega) (by omega), hc31, hc40]
    refine hK _ _ ?_
    clear hK K
    first
      | (have hu := hT
         refine wpT_keep3 (i := 0) (j := 2) (k := 4) (o := .arr 26 3 [h.av]) (q := .arr 3 1 ((ack.set k (i : Int)).map I)) (r := .arr 3 1 (iss.map I)) (by simp only [↓SP, SZ, ↓reduceIte, reduceCtorEq, nE, nA, nL, nT, sec_neq]) (by simp only [↓SP, SZ, ↓reduceIte, reduceCtorEq, nE, nA, nL, nT, sec_neq, List.map_set]) (by simp only [↓SP, SZ, ↓reduceIte, reduceCtorEq, nE, nA, nL, nT, sec_neq]) ?_
         refine IH (i + 1) _ _ (by omega) ⟨iss, ack.set k (i : Int), ⟨_, rfl, hm⟩, by simp only [↓SP, SZ, ↓reduceIte, reduceCtorEq, nE, nA, nL, nT, sec_neq, e1], by simp only [↓SP, SZ, ↓reduceIte, reduceCtorEq, nE, nA, nL, nT, sec_neq, e3], by simp only [↓SP, SZ, ↓reduceIte, reduceCtorEq, nE, nA, nL, nT, sec_neq, e4], by simp only [↓SP, SZ, ↓reduceIte, reduceCtorEq, nE, nA, nL, nT, sec_neq, e5], by simp only [↓SP, SZ, ↓reduceIte, reduceCtorEq, nE, nA, nL, nT, sec_neq, Int.natCast_add, Int.cast_ofNat_Int], by omega, hli, hu, hrel⟩)
      | (have hu := hF
         refine wpT_keep3 (i := 0) (j := 2) (k := 4) (o := .arr 26 3 [h.av]) (q := .arr 3 1 (ack.map I)) (r := .arr 3 1 ((iss.set k (i : Int)).map I)) (by simp only [↓SP, SZ, ↓reduceIte, reduceCtorEq, nE, nA, nL, nT, sec_neq]) (by simp only [↓SP, SZ, ↓reduceIte, reduceCtorEq, nE, nA, nL, nT, sec_neq]) (by simp only [↓SP, SZ, ↓reduceIte, reduceCtorEq, nE, nA, nL, nT, sec_neq, List.map_set]) ?_
         refine IH (i + 1) _ _ (by omega) ⟨iss.set k (i : Int), ack, ⟨_, rfl, hm⟩, by simp only [↓SP, SZ, ↓reduceIte, reduceCtorEq, nE, nA, nL, nT, sec_neq, e1], by simp only [↓SP, SZ, ↓reduceIte, reduceCtorEq, nE, nA, nL, nT, sec_neq, e3], by simp only [↓SP, SZ, ↓reduceIte, reduceCtorEq, nE, nA, nL, nT, sec_neq, e4], by simp only [↓SP, SZ, ↓reduceIte, reduceCtorEq, nE, nA, nL, nT, sec_neq, e5], by simp only [↓SP, SZ, ↓reduceIte, reduceCtorEq, nE, nA, nL, nT, sec_neq, Int.natCast_add, Int.cast_ofNat_Int], by omega, hu, hla, hrel⟩)
  ·
   have p31 := hc31
   try simp only [PB] at p31
   rw [List.drop_eq_nil_of_le (by omega), relF] at hrel
   simp only [Prod.mk.injEq] at hrel
   obtain ⟨rfl, rfl⟩ := hrel
   have n0 : ¬ 0 = m := by omega
   have n2 : ¬ 2 = m := by omega
   have n4 : ¬ 4 = m := by omega
   have n0' : ¬ m = 0 := by omega
   have n2' : ¬ m = 2 := by omega
   have n4' : ¬ m = 4 := by omega
   refine wpT_exit rfl ?_
   refine wpT_seq ?_
   refine wpT_region (by kernel_rfl) (fun K hK => ?_)
   simp only [↓SP, SZ, ↓reduceIte, reduceCtorEq, nE, nA, nL, nT, sec_neq, hist_cs, hc31]
   refine hK _ _ ?_
   clear hK K
   refine wpT_seq ?_
   refine wpT_seq ?_
   refine wpT_region (by kernel_rfl) (fun K hK => ?_)
   simp only [↓SP, SZ, ↓reduceIte, reduceCtorEq, nE, nA, nL, nT, sec_neq, hist_cs, hc31]
   refine hK _ _ ?_
   clear hK K
   refine wpT_block ?_
   refine wpT_loop ?_
   clear IH
   refine wpT_nilown 8 96 1 (by simp only [↓SP, SZ, ↓reduceIte, reduceCtorEq, nE, nA, nL, nT, sec_neq]) ?_
   refine wpT_keep4 (i := 0) (j := 2) (k := 4) (l := m) (o := .arr 26 3 [h.av]) (q := .arr 3 1 ((histRun h).2.ack.map I)) (r := .arr 3 1 ((histRun h).2.iss.map I)) (s := .arr 96 1 (((List.range 0).map (rowR h)).map fun r => .lst (r.map B))) (by simp only [↓SP, SZ, ↓reduceIte, reduceCtorEq, nE, nA, nL, nT, sec_neq, n0]) (by simp only [↓SP, SZ, ↓reduceIte, reduceCtorEq, nE, nA, nL, nT, sec_neq, n2]) (by simp only [↓SP, SZ, ↓reduceIte, reduceCtorEq, nE, nA, nL, nT, sec_neq, n4]) (by simp only [↓SP, SZ, ↓reduceIte, reduceCtorEq, nE, nA, nL, nT, sec_neq]; rfl) ?_
   refine wpT_ind (fun (a : Nat) tm' h' => (∃ y, h' = Hp.of [(0, .arr 26 3 [h.av]), (2, .arr 3 1 ((histRun h).2.ack.map I)), (4, .arr 3 1 ((histRun h).2.iss.map I)), (m, .arr 96 1 (((List.range a).map (rowR h)).map fun r => .lst (r.map B)))] y ∧ m < y) ∧ tm' 1 = .ptr 0 1 0 0 ∧ tm' 3 = I h.ws.length ∧ tm' 4 = .sl 2 h.ws.length 0 h.ws.length ∧ tm' 5 = .sl 4 h.ws.length 0 h.ws.length ∧ tm' 8 = .sl m a 0 a ∧ tm' 9 = I a ∧ a ≤ h.ws.length) (fun a => h.ws.length - a) ?_ 0 ⟨⟨_, rfl, by simp only [↓SP, SZ, ↓reduceIte, reduceCtorEq, nE, nA, nL, nT, sec_neq]; omega⟩, by simp only [↓SP, SZ, ↓reduceIte, reduceCtorEq, nE, nA, nL, nT, sec_neq, e1], by simp only [↓SP, SZ, ↓reduceIte, reduceCtorEq, nE, nA, nL, nT, sec_neq, e3], by simp only [↓SP, SZ, ↓reduceIte, reduceCtorEq, nE, nA, nL, nT, sec_neq, e4], by simp only [↓SP, SZ, ↓reduceIte, reduceCtorEq, nE, nA, nL, nT, sec_neq, e5], rfl, rfl, by omega⟩
   clear e1 e3 e4 e5 e7
   rintro a tm' _ ⟨⟨y, rfl, hy⟩, e1, e3, e4, e5, e8, e9, ha⟩ IH
   have y0 : ¬ 0 = y := by omega
   have y2 : ¬ 2 = y := by omega
   have y4 : ¬ 4 = y := by omega
   have ym : ¬ m = y := by omega
   have y0' : ¬ y = 0 := by omega
   have y2' : ¬ y = 2 := by omega
   have y4' : ¬ y = 4 := by omega
   have ym' : ¬ y = m := by omega
   refine wpT_inLoop ?_
   refine wpT_seq ?_
   refine wpT_seq ?_
   refine wpT_region (by kernel_rfl) (fun K hK => ?_)
   simp only [↓SP, SZ, ↓reduceIte, reduceCtorEq, nE, nA, nL, nT, sec_neq, hist_cs, e3, e9]
   refine hK _ _ ?_
   clear hK K
   refine wpT_if (by rfl) (fun hc61 => ?_) (fun hc61 => ?_)
   ·
    have p61 := hc61
    try simp only [PB] at p61
    have hlt : a < h.ws.length := by omega
    have q1 : a + 1 ≤ maxLen := by simp only [maxLen]; omega
    have q2 : (a + 1) * 24 ≤ 140737488355328 := by omega
    refine wpT_skip ?_
    refine wpT_seq ?_
    refine wpT_block ?_
    refine wpT_seq ?_
    refine wpT_region (by kernel_rfl) (fun K hK => ?_)
    simp only [↓SP, SZ, ↓reduceIte, reduceCtorEq, nE, nA, nL, nT, sec_neq, hist_cs, e3, msO_ok 1 h.ws.length h.ws.length (by omega) (Int.le_refl _) (by omega) (by omega), Int.toNat_natCast, hc61]
    refine hK _ _ ?_
    clear hK K
    refine wpT_seq ?_
    refine wpT_seq ?_
    refine wpT_region (by kernel_rfl) (fun K hK => ?_)
    simp only [↓SP, SZ, ↓reduceIte, reduceCtorEq, nE, nA, nL, nT, sec_neq, hist_cs, hc61]
    refine hK _ _ ?_
    clear hK K
    refine wpT_block ?_
    refine wpT_loop ?_
    refine wpT_keep5 (i := 0) (j := 2) (k := 4) (l := m) (m := y) (o := .arr 26 3 [h.av]) (q := .arr 3 1 ((histRun h).2.ack.map I)) (r := .arr 3 1 ((histRun h).2.iss.map I)) (s := .arr 96 1 (((List.range a).map (rowR h)).map fun r => .lst (r.map B))) (u := .arr 4 1 ((mpL h.ws.length (befT (histRun h).2 a) 0).map B)) (by simp only [↓SP, SZ, ↓reduceIte, reduceCtorEq, nE, nA, nL, nT, sec_neq, n0, y0]) (by simp only [↓SP, SZ, ↓reduceIte, reduceCtorEq, nE, nA, nL, nT, sec_neq, n2, y2]) (by simp only [↓SP, SZ, ↓reduceIte, reduceCtorEq, nE, nA, nL, nT, sec_neq, n4, y4]) (by simp only [↓SP, SZ, ↓reduceIte, reduceCtorEq, nE, nA, nL, nT, sec_neq, n0', n2', n4', ym]) (by simp only [↓SP, SZ, ↓reduceIte, reduceCtorEq, nE, nA, nL, nT, sec_neq, mpL_zero, List.map_replicate]) ?_
    refine wpT_ind (fun (b : Nat) tm2 h2 => (∃ z, h2 = Hp.of [(0, .arr 26 3 [h.av]), (2, .arr 3 1 ((histRun h).2.ack.map I)), (4, .arr 3 1 ((histRun h).2.iss.map I)), (m, .arr 96 1 (((List.range a).map (rowR h)).map fun r => .lst (r.map B))), (y, .arr 4 1 ((mpL h.ws.length (befT (histRun h).2 a) b).map B))] z ∧ y < z) ∧ tm2 1 = .ptr 0 1 0 0 ∧ tm2 3 = I h.ws.length ∧ tm2 4 = .sl 2 h.ws.length 0 h.ws.length ∧ tm2 5 = .sl 4 h.ws.length 0 h.ws.length ∧ tm2 8 = .sl m a 0 a ∧ tm2 9 = I a ∧ tm2 10 = .sl y h.ws.length 0 h.ws.length ∧ tm2 11 = I b ∧ b ≤ h.ws.length) (fun b => h.ws.length - b) ?_ 0 ⟨⟨_, rfl, by simp only [↓SP, SZ, ↓reduceIte, reduceCtorEq, nE, nA, nL, nT, sec_neq]; omega⟩, by simp only [↓SP, SZ, ↓reduceIte, reduceCtorEq, nE, nA, nL, nT, sec_neq, e1], by simp only [↓SP, SZ, ↓reduceIte, reduceCtorEq, nE, nA, nL, nT, sec_neq, e3], by simp only [↓SP, SZ, ↓reduceIte, reduceCtorEq, nE, nA, nL, nT, sec_neq, e4], by simp only [↓SP, SZ, ↓reduceIte, reduceCtorEq, nE, nA, nL, nT, sec_neq, e5], by simp only [↓SP, SZ, ↓reduceIte, reduceCtorEq, nE, nA, nL, nT, sec_neq, e8], by simp only [↓SP, SZ, ↓reduceIte, reduceCtorEq, nE, nA, nL, nT, sec_neq, e9], rfl, rfl, by omega⟩
    clear e1 e3 e4 e5 e8 e9
    rintro b tm2 _ ⟨⟨z, rfl, hz⟩, e1, e3, e4, e5, e8, e9, e10, e11, hb⟩ IH2
    refine wpT_inLoop ?_
    refine wpT_seq ?_
    refine wpT_seq ?_
    refine wpT_region (by kernel_rfl) (fun K hK => ?_)
    simp only [↓SP, SZ, ↓reduceIte, reduceCtorEq, nE, nA, nL, nT, sec_neq, hist_cs, e3, e11]
    refine hK _ _ ?_
    clear hK K
    refine wpT_if (by rfl) (fun hc68 => ?_) (fun hc68 => ?_)
    ·
     have p68 := hc68
     try simp only [PB] at p68
     have hltb : b < h.ws.length := by omega
     have hga := at_map (f := I) (xs := (histRun h).2.ack) (i := a) (by omega)
     have hgi := at_map (f := I) (xs := (histRun h).2.iss) (i := b) (by omega)
     have hgm := at_map (f := B) (xs := mpL h.ws.length (befT (histRun h).2 a) b) (i := b) (by rw [mpL_length]; omega)
     have ha0 : (0 : Int) ≤ (a : Int) := by omega
     have ha1 : (a : Int) < (h.ws.length : Int) := by omega
     have hb0 : (0 : Int) ≤ (b : Int) := by omega
     have hb1 : (b : Int) < (h.ws.length : Int) := by omega
     have c3 : (histRun h).2.ack.getD a 0 = (histRun h).2.ack[a] := by simp [h6, hlt]
     have c4 : (histRun h).2.iss.getD b 0 = (histRun h).2.iss[b] := by simp [h5, hltb]
     have hml := mpL_length h.ws.length (befT (histRun h).2 a) b
     refine wpT_skip ?_
     refine wpT_seq ?_
     refine wpT_block ?_
     refine wpT_drawn [] mixed (by kernel_rfl) (m := 20) rfl (fun K hK => ?_)
     simp only [↓SP, SZ, ↓reduceIte, reduceCtorEq, nE, nA, nL, nT, sec_neq, hist_cs, e4, e5, e9, e10, e11, h5, h6, hml, hga, hgi, hgm, ha0, ha1, hb0, hb1, y0, y2, y4, ym, y0', y2', y4', ym', Int.toNat_natCast, ldO_arr, stO_arr, Option.bind_some, hc68]
     refine guardD_split (fun hg78 => ?_) (fun hg78 => ?_)
     ·
      have p78 := hg78
      try simp only [PB] at p78
      have hbf : befT (histRun h).2 a b = decide ((histRun h).2.ack[a] < (histRun h).2.iss[b]) := by rw [befT, c3, c4, decide_eq_true p78, Bool.true_and]
      simp only [↓SP, SZ, ↓reduceIte, reduceCtorEq, nE, nA, nL, nT, sec_neq, hist_cs, e4, e5, e9, e10, e11, h5, h6, hml, hga, hgi, hgm, ha0, ha1, hb0, hb1, y0, y2, y4, ym, y0', y2', y4', ym', Int.toNat_natCast, ldO_arr, stO_arr, Option.bind_some, hc68, hg78]
      refine hK _ _ ?_
      clear hK K
      refine wpT_inBlock ?_
      refine wpT_region (by kernel_rfl) (fun K hK => ?_)
      simp only [↓SP, SZ, ↓reduceIte, reduceCtorEq, nE, nA, nL, nT, sec_neq, hist_cs, e11, wrap64 (x := (b : Int) + 1) (by omega) (by omega), hc68, hg78]
      refine hK _ _ ?_
      clear hK K
      refine wpT_keep5 (i := 0) (j := 2) (k := 4) (l := m) (m := y) (o := .arr 26 3 [h.av]) (q := .arr 3 1 ((histRun h).2.ack.map I)) (r := .arr 3 1 ((histRun h).2.iss.map I)) (s := .arr 96 1 (((List.range a).map (rowR h)).map fun r => .lst (r.map B))) (u := .arr 4 1 ((mpL h.ws.length (befT (histRun h).2 a) (b + 1)).map B)) (by simp only [↓SP, SZ, ↓reduceIte, reduceCtorEq, nE, nA, nL, nT, sec_neq, y0]) (by simp only [↓SP, SZ, ↓reduceIte, reduceCtorEq, nE, nA, nL, nT, sec_neq, y2]) (by simp only [↓SP, SZ, ↓reduceIte, reduceCtorEq, nE, nA, nL, nT, sec_neq, y4]) (by simp only [↓SP, SZ, ↓reduceIte, reduceCtorEq, nE, nA, nL, nT, sec_neq, n0', n2', n4', ym]) (by simp only [↓SP, SZ, ↓reduceIte, reduceCtorEq, nE, nA, nL, nT, sec_neq, ← mpL_set hltb, hbf, List.map_set]) ?_
      refine IH2 (b + 1) _ _ (by omega) ⟨⟨_, rfl, by simp only [↓SP, SZ, ↓reduceIte, reduceCtorEq, nE, nA, nL, nT, sec_neq]; omega⟩, by simp only [↓SP, SZ, ↓reduceIte, reduceCtorEq, nE, nA, nL, nT, sec_neq, e1], by simp only [↓SP, SZ, ↓reduceIte, reduceCtorEq, nE, nA, nL, nT, sec_neq, e3], by simp only [↓SP, SZ, ↓reduceIte, reduceCtorEq, nE, nA, nL, nT, sec_neq, e4], by simp only [↓SP, SZ, ↓reduceIte, reduceCtorEq, nE, nA, nL, nT, sec_neq, e5], by simp only [↓SP, SZ, ↓reduceIte, reduceCtorEq, nE, nA, nL, nT, sec_neq, e8], by simp only [↓SP, SZ, ↓reduceIte, reduceCtorEq, nE, nA, nL, nT, sec_neq, e9], by simp only [↓SP, SZ, ↓reduceIte, reduceCtorEq, nE, nA, nL, nT, sec_neq, e10], by simp only [↓SP, SZ, ↓reduceIte, reduceCtorEq, nE, nA, nL, nT, sec_neq, Int.natCast_add, Int.cast_ofNat_Int], by omega⟩
     ·
      simp only [Bool.not_true, Bool.not_false] at hg78
      have p78 := hg78
      try simp only [PB] at p78
      have hbf : befT (histRun h).2 a b = false := by rw [befT, c3, c4, decide_eq_false (by omega), Bool.false_and]
      simp only [↓SP, SZ, ↓reduceIte, reduceCtorEq, nE, nA, nL, nT, sec_neq, hist_cs, e4, e5, e9, e10, e11, h5, h6, hml, hga, hgi, hgm, ha0, ha1, hb0, hb1, y0, y2, y4, ym, y0', y2', y4', ym', Int.toNat_natCast, ldO_arr, stO_arr, Option.bind_some, hc68, hg78]
      refine hK _ _ ?_
      clear hK K
      refine wpT_inBlock ?_
      refine wpT_region (by kernel_rfl) (fun K hK => ?_)
      simp only [↓SP, SZ, ↓reduceIte, reduceCtorEq, nE, nA, nL, nT, sec_neq, hist_cs, e11, wrap64 (x := (b : Int) + 1) (by omega) (by omega), hc68, hg78]
      refine hK _ _ ?_
      clear hK K
      refine wpT_keep5 (i := 0) (j := 2) (k := 4) (l := m) (m := y) (o := .arr 26 3 [h.av]) (q := .arr 3 1 ((histRun h).2.ack.map I)) (r := .arr 3 1 ((histRun h).2.iss.map I)) (s := .arr 96 1 (((List.range a).map (rowR h)).map fun r => .lst (r.map B))) (u := .arr 4 1 ((mpL h.ws.length (befT (histRun h).2 a) (b + 1)).map B)) (by simp only [↓SP, SZ, ↓reduceIte, reduceCtorEq, nE, nA, nL, nT, sec_neq, y0]) (by simp only [↓SP, SZ, ↓reduceIte, reduceCtorEq, nE, nA, nL, nT, sec_neq, y2]) (by simp only [↓SP, SZ, ↓reduceIte, reduceCtorEq, nE, nA, nL, nT, sec_neq, y4]) (by simp only [↓SP, SZ, ↓reduceIte, reduceCtorEq, nE, nA, nL, nT, sec_neq, n0', n2', n4', ym]) (by simp only [↓SP, SZ, ↓reduceIte, reduceCtorEq, nE, nA, nL, nT, sec_neq, ← mpL_set hltb, hbf, List.map_set]) ?_
      refine IH2 (b + 1) _ _ (by omega) ⟨⟨_, rfl, by simp only [↓SP, SZ, ↓reduceIte, reduceCtorEq, nE, nA, nL, nT, sec_neq]; omega⟩, by simp only [↓SP, SZ, ↓reduceIte, reduceCtorEq, nE, nA, nL, nT, sec_neq, e1], by simp only [↓SP, SZ, ↓reduceIte, reduceCtorEq, nE, nA, nL, nT, sec_neq, e3], by simp only [↓SP, SZ, ↓reduceIte, reduceCtorEq, nE, nA, nL, nT, sec_neq, e4], by simp only [↓SP, SZ, ↓reduceIte, reduceCtorEq, nE, nA, nL, nT, sec_neq, e5], by simp only [↓SP, SZ, ↓reduceIte, reduceCtorEq, nE, nA, nL, nT, sec_neq, e8], by simp only [↓SP, SZ, ↓reduceIte, reduceCtorEq, nE, nA, nL, nT, sec_neq, e9], by simp only [↓SP, SZ, ↓reduceIte, reduceCtorEq, nE, nA, nL, nT, sec_neq, e10], by simp only [↓SP, SZ, ↓reduceIte, reduceCtorEq, nE, nA, nL, nT, sec_neq, Int.natCast_add, Int.cast_ofNat_Int], by omega⟩
    ·
     have p68 := hc68
     try simp only [PB] at p68
     have hb2 : b = h.ws.length := by omega
     rw [hb2, mpL_all]
     have z0 : ¬ 0 = z := by omega
     have z2 : ¬ 2 = z := by omega
     have z4 : ¬ 4 = z := by omega
     have zm : ¬ m = z := by omega
     have zy : ¬ y = z := by omega
     have zm' : ¬ z = m := by omega
     have hrs : ((List.range (a + 1)).map (rowR h)).map (fun r => AV.lst (r.map B)) = ((List.range a).map (rowR h)).map (fun r => AV.lst (r.map B)) ++ [AV.lst ((rowR h a).map B)] := by rw [List.range_succ, List.map_append, List.map_append]; rfl
     refine wpT_thawT 10 y (v := .sl y h.ws.length 0 h.ws.length) (v' := .lst ((rowR h a).map B)) (by simp only [↓SP, SZ, ↓reduceIte, reduceCtorEq, nE, nA, nL, nT, sec_neq, e10]) (Lend.sl0 (E := 4) (s := 1) (by simp only [↓SP, SZ, ↓reduceIte, reduceCtorEq, nE, nA, nL, nT, sec_neq, y0', y2', y4', ym']; rfl) (by simp [rowR]) (bool_okc _)) ?_
     refine wpT_exit rfl ?_
     refine wpT_region (by kernel_rfl) (fun K hK => ?_)
     simp only [↓SP, SZ, ↓reduceIte, reduceCtorEq, nE, nA, nL, nT, sec_neq, hist_cs, e8, q1, q2, n0', n2', n4', ym, z0, z2, z4, zm, zm', List.length_range, hc68]
     refine hK _ _ ?_
     clear hK K
     refine wpT_inBlock ?_
     refine wpT_region (by kernel_rfl) (fun K hK => ?_)
     simp only [↓SP, SZ, ↓reduceIte, reduceCtorEq, nE, nA, nL, nT, sec_neq, hist_cs, e9, wrap64 (x := (a : Int) + 1) (by omega) (by omega), hc68]
     refine hK _ _ ?_
     clear hK K
     refine wpT_keep4 (i := 0) (j := 2) (k := 4) (l := m) (o := .arr 26 3 [h.av]) (q := .arr 3 1 ((histRun h).2.ack.map I)) (r := .arr 3 1 ((histRun h).2.iss.map I)) (s := .arr 96 1 (((List.range (a + 1)).map (rowR h)).map fun r => .lst (r.map B))) (by simp only [↓SP, SZ, ↓reduceIte, reduceCtorEq, nE, nA, nL, nT, sec_neq, n0, y0, z0]) (by simp only [↓SP, SZ, ↓reduceIte, reduceCtorEq, nE, nA, nL, nT, sec_neq, n2, y2, z2]) (by simp only [↓SP, SZ, ↓reduceIte, reduceCtorEq, nE, nA, nL, nT, sec_neq, n4, y4, z4]) (by simp only [↓SP, SZ, ↓reduceIte, reduceCtorEq, nE, nA, nL, nT, sec_neq, hrs]) ?_
     refine IH (a + 1) _ _ (by omega) ⟨⟨_, rfl, by simp only [↓SP, SZ, ↓reduceIte, reduceCtorEq, nE, nA, nL, nT, sec_neq]; omega⟩, by simp only [↓SP, SZ, ↓reduceIte, reduceCtorEq, nE, nA, nL, nT, sec_neq, e1], by simp only [↓SP, SZ, ↓reduceIte, reduceCtorEq, nE, nA, nL, nT, sec_neq, e3], by simp only [↓SP, SZ, ↓reduceIte, reduceCtorEq, nE, nA, nL, nT, sec_neq, e4], by simp only [↓SP, SZ, ↓reduceIte, reduceCtorEq, nE, nA, nL, nT, sec_neq, e5], by simp only [↓SP, SZ, ↓reduceIte, reduceCtorEq, nE, nA, nL, nT, sec_neq], by simp only [↓SP, SZ, ↓reduceIte, reduceCtorEq, nE, nA, nL, nT, sec_neq, Int.natCast_add, Int.cast_ofNat_Int], by omega⟩
   ·
    have p61 := hc61
    try simp only [PB] at p61
    have ha2 : a = h.ws.length := by omega
    subst ha2
    refine wpT_exit rfl ?_
    refine wpT_seq ?_
    refine wpT_region (by kernel_rfl) (fun K hK => ?_)
    simp only [↓SP, SZ, ↓reduceIte, reduceCtorEq, nE, nA, nL, nT, sec_neq, hist_cs, e8, hc61]
    refine hK _ _ ?_
    clear hK K
    refine wpT_ret ⟨.inr rfl, ?_⟩
    show optK (resA _ _ _ [.tmp 2]) _
    simp only [SRO, ↓SP, SZ, ↓reduceIte, reduceCtorEq, nE, nA, nL, nT, sec_neq, hist_cs, hc61]
    show Lend _ (.sl m h.ws.length 0 h.ws.length) (.lst ((tabR h).map fun r => .lst (r.map B)))
    refine Lend.sl0 (E := 96) (s := 1) ?_ ?_ ?_
    · simp only [↓SP, SZ, ↓reduceIte, reduceCtorEq, nE, nA, nL, nT, sec_neq, n0', n2', n4', tabR]
    · simp [tabR]
    · exact tab_okc _
end Go.Proofs.YtfdfkmcplhloaaaGreat
end
