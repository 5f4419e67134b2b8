/- Walks: Find, Newest, Conflict.
  Walks: Newest.
  Walks: a copy of a history; a history with one more write.
  Walks: searches in lists.
  Walks: the reference's check of histories; small histories and images.
  Walks: the reference's check of histories.
  Walks: the reference's contents of writes; whether a history is distinct.
  Walks: the reference's sizes, authors, sets.
  Walks: the reference's table of the order of writes. -/
import Derived.Test.YtfdfkmcplhloaaaS3
section
set_option linter.unusedSimpArgs false
set_option linter.unusedVariables false
namespace Go.Proofs.Ytfdfkmcplhloaaa
open Go.Proofs
open Nat renaming reduceEqDiff → nE, reduceAdd → nA, reduceLeDiff → nL, reduceLT → nT
set_option maxRecDepth 10000
def alP (h : Hist) (im : List (List Sec)) (n : Int) (c : Ct) : Bool := match assoc ⟨c.vol, c.sec, imAt im c.vol c.sec⟩ (ctsH 0 h.ws) with
  | some a => decide (n ≤ a)
  | none => false
theorem c101 (h : Hist) (im : List (List Sec)) (n : Int) (v k : Nat) (d : Sec) (hv : v < im.length) (hk : k < im[v].length) : CallV Try.prog (.fn (.func 101) [] [.ptr 0 1 0 0, .ptr 1 1 0 0]) [(Ct.mk v k d).av] (Hp.of [(0, .arr 72 1 [judgeAV h im]), (1, .arr 3 1 [I n])] 2) fun r h' =>
    r = B (alP h im n ⟨v, k, d⟩) ∧ h'.get 0 = some (.arr 72 1 [judgeAV h im]) ∧ h'.get 1 = some (.arr 3 1 [I n]) := by
 refine callV_func Try.func101 rfl (by kernel_rfl) (by show _ ≤ 40; simp only [LN]; decide) ?_
 rw [Try.ntmps101]
 have hg := at_map (f := fun l : List Sec => AV.lst (l.map Sec.av)) hv
 have hg2 := at_map (f := Sec.av) hk
 have hlk := lookM (ctsH 0 h.ws) ⟨v, k, im[v][k]⟩
 have hat : imAt im (v : Int) (k : Int) = im[v][k] := by simp [imAt, hv, hk]
 have hal : alP h im n ⟨v, k, d⟩ = match assoc ⟨(v : Int), (k : Int), im[v][k]⟩ (ctsH 0 h.ws) with
   | some a => decide (n ≤ a)
   | none => false := by rw [alP, hat]
 simp only [Ct.av] at hlk
 refine wpT_seq ?_
 refine wpT_region (by kernel_rfl) (fun K hK => ?_)
 simp only [↓SP, SZ, ↓reduceIte, reduceCtorEq, nE, nA, nL, nT, ct_okc, ct_isAgg, ct_cells, Ct.av]
 refine hK _ _ ?_
 clear hK K
 refine wpT_seq ?_
 refine wpT_drawn [(0, 14), (1, 14), (2, 14), (3, 14), (4, 14), (5, 14), (6, 14), (7, 14), (8, 14), (9, 14), (10, 14), (11, 14), (12, 14), (13, 14)] mixed (by kernel_rfl) (m := 16) rfl (fun K hK => ?_)
 simp only [↓SP, SZ, ↓reduceIte, reduceCtorEq, nE, nA, nL, nT, ct_okc, ct_isAgg, ct_cells, judgeAV, imgAV, hg, hg2]
 refine hK _ _ ?_
 clear hK K
 refine wpT_seq ?_
 refine wpT_drawn [] mixed (by kernel_rfl) (m := 14) rfl (fun K hK => ?_)
 simp only [↓SP, SZ, ↓reduceIte, reduceCtorEq, nE, nA, nL, nT, ct_okc, ct_isAgg, ct_cells, judgeAV, imgAV, writersAV, Sec.av, lk_cmap mp65, hlk]
 refine hK _ _ ?_
 clear hK K
 refine wpT_seq ?_
 refine wpT_region (by kernel_rfl) (fun K hK => ?_)
 simp only [↓SP, SZ, ↓reduceIte, reduceCtorEq, nE, nA, nL, nT, ct_okc, ct_isAgg, ct_cells]
 refine guardO_split (fun hg35 => ?_) (fun hg35 => ?_)
 ·
  have p35 := hg35
  try simp only [PB] at p35
  simp only [↓SP, SZ, ↓reduceIte, reduceCtorEq, nE, nA, nL, nT, ct_okc, ct_isAgg, ct_cells, hg35]
  refine hK _ _ ?_
  clear hK K
  refine wpT_ret ⟨.inr rfl, ?_⟩
  show optK (resA _ _ _ [.tmp 4]) _
  simp only [SRO, ↓SP, SZ, ↓reduceIte, reduceCtorEq, nE, nA, nL, nT, ct_okc, ct_isAgg, ct_cells, hg35]
  rw [hal]
  cases hx : assoc (⟨(v : Int), (k : Int), im[v][k]⟩ : Ct) (ctsH 0 h.ws) with
  | none => rw [hx] at p35; simp at p35; try simp only [↓SP, SZ, ↓reduceIte, reduceCtorEq, nE, nA, nL, nT, ct_okc, ct_isAgg, ct_cells, judgeAV, imgAV, writersAV]
  | some a => rw [hx] at p35; simp at p35; try simp only [↓SP, SZ, ↓reduceIte, reduceCtorEq, nE, nA, nL, nT, ct_okc, ct_isAgg, ct_cells, judgeAV, imgAV, writersAV, Option.getD_some]
 ·
  simp only [Bool.not_true, Bool.not_false] at hg35
  have p35 := hg35
  try simp only [PB] at p35
  simp only [↓SP, SZ, ↓reduceIte, reduceCtorEq, nE, nA, nL, nT, ct_okc, ct_isAgg, ct_cells, hg35]
  refine hK _ _ ?_
  clear hK K
  refine wpT_ret ⟨.inr rfl, ?_⟩
  show optK (resA _ _ _ [.tmp 4]) _
  simp only [SRO, ↓SP, SZ, ↓reduceIte, reduceCtorEq, nE, nA, nL, nT, ct_okc, ct_isAgg, ct_cells, hg35]
  rw [hal]
  cases hx : assoc (⟨(v : Int), (k : Int), im[v][k]⟩ : Ct) (ctsH 0 h.ws) with
  | none => rw [hx] at p35; simp at p35; try simp only [↓SP, SZ, ↓reduceIte, reduceCtorEq, nE, nA, nL, nT, ct_okc, ct_isAgg, ct_cells, judgeAV, imgAV, writersAV]
  | some a => rw [hx] at p35; simp at p35; try simp only [↓SP, SZ, ↓reduceIte, reduceCtorEq, nE, nA, nL, nT, ct_okc, ct_isAgg, ct_cells, judgeAV, imgAV, writersAV, Option.getD_some]
theorem al_call {h : Hist} {im : List (List Sec)} {n : Int} {v k : Nat} {d : Sec} (hv : v < im.length) (hk : k < im[v].length) {H : Hp} (h0 : H.get 0 = some (.arr 72 1 [judgeAV h im])) (h1 : H.get 1 = some (.arr 3 1 [I n])) {K : AV → Hp → Prop}
    (hK : ∀ H' : Hp, H'.nx = H.nx → (∀ j, H'.get j = H.get j) → K (B (alP h im n ⟨v, k, d⟩)) H') : CallV Try.prog (.fn (.func 101) [] [.ptr 0 1 0 0, .ptr 1 1 0 0]) [(Ct.mk v k d).av] H K := by
  let lo : List Loc := [⟨0, 0, .arr 72 1 [judgeAV h im], .arr 72 1 [judgeAV h im]⟩, ⟨1, 1, .arr 3 1 [I n], .arr 3 1 [I n]⟩]
  have hrn : ∀ x ∈ lo, RnO (Loc.has lo) (Loc.at lo) x.o x.o' := by
    intro y hy
    simp only [lo, List.mem_cons, List.not_mem_nil, or_false] at hy
    rcases hy with rfl | rfl
    · exact rn_judge _ _ _ _
    · exact .arr _ _ _ _ (RnL.idf (by simp only [IDF, and_tt]))
  refine CallV.local lo 2 (c101 h im n v k d hv hk) (by rfl) (by simp [lo]) (by simpa [lo] using ⟨h0, h1⟩) hrn ?_ ?_ ?_
  · exact Rn.fnL RnL.nil (RnL.cons (.ptr 0 1 0 0 (by simp [lo, Loc.has])) (RnL.cons (.ptr 1 1 0 0 (by simp [lo, Loc.has])) RnL.nil))
  · exact RnL.idf (by simp only [ct_idf, all_cons, all_nil, and_tt])
  · rintro v0 h2 ⟨rfl, a0, a1⟩
    refine ⟨_, lo, rfl, rfl, fun x hx => ⟨?_, hrn x hx⟩, .idf _ (.bool _), hK _ rfl fun j => ?_⟩
    · simp only [lo, List.mem_cons, List.not_mem_nil, or_false] at hx
      rcases hx with rfl | rfl
      · exact a0
      · exact a1
    · by_cases e0 : j = 0
      · subst e0; exact h0.symm
      · by_cases e1 : j = 1
        · subst e1; exact h1.symm
        · simp only [lo, List.map_cons, List.map_nil, upd_cons, upd_nil, if_neg e0, if_neg e1]
def alI (h : Hist) (im : List (List Sec)) (n : Int) (cs : List Ct) (H : Hp) : Prop := 2 ≤ H.nx ∧ H.get 0 = some (.arr 72 1 [judgeAV h im]) ∧ H.get 1 = some (.arr 3 1 [I n]) ∧ (wrAt h.ws n).cts.all (alP h im n) = cs.all (alP h im n)
theorem ct_in {h : Hist} {im : List (List Sec)} (eh : histE h = 0) (hz : sizesOf im = h.sizes) {w : Wr} (hw : w ∈ h.ws) {c : Ct} (hc : c ∈ w.cts) : ∃ (v k : Nat) (hv : v < im.length), k < im[v].length ∧ c = ⟨v, k, c.dat⟩ := by
  have hf := fitsAll_mem (hist_ok eh).2.2.1 _ hw
  obtain ⟨f1, f2, f3, f4, f5⟩ := fitsE_ok hf
  have hm := mem_cts.1 hc
  obtain ⟨g1, g2⟩ := contW_ge hm
  rw [contW, if_pos ⟨g1, g2⟩] at hm
  have hlt := (List.getElem?_eq_some_iff.1 hm).1
  have hl : (sizesOf im).length = im.length := by simp [sizesOf]
  have hvl : c.vol.toNat < im.length := by rw [← hl, hz]; omega
  have hk2 : (h.sizes).getD w.vol.toNat 0 = (im[c.vol.toNat].length : Int) := by
    rw [← hz, g1]
    simp [sizesOf, List.getD_eq_getElem?_getD, hvl]
  refine ⟨c.vol.toNat, c.sec.toNat, hvl, by omega, ?_⟩
  cases c
  simp only [Ct.mk.injEq, and_true]
  simp only at g1 g2
  omega
theorem c57 (h : Hist) (im : List (List Sec)) (hs : h.sm) (e : judgeE h im = 0) (n : Nat) (hn : n < h.ws.length) : Pu Try.prog (.fn (.func 57) [] []) [judgeAV h im, I n] (B (allowedB h im n)) := by
 refine pu_func Try.func57 rfl (by kernel_rfl) (by show _ ≤ 15; simp only [LN]; decide) (by simp only [IDS, chkAV_idf, ct_idf, judge_idf, judgeR_idf]) (by simp only [IDS, chkAV_idf, ct_idf, judge_idf, judgeR_idf]) (by simp only [IDS, chkAV_idf, ct_idf, judge_idf, judgeR_idf]) ?_
 rw [Try.ntmps57]
 obtain ⟨eh, hz, hd⟩ := judge_ok e
 have hg := at_map (f := Wr.av) hn
 have hm := List.getElem_mem hn
 have hwn : wrAt h.ws (n : Int) = h.ws[n] := wrAt_eq (List.getElem?_eq_getElem hn)
 obtain ⟨f1, f2, f3, f4, f5⟩ := fitsE_ok (fitsAll_mem (hist_ok eh).2.2.1 _ hm)
 have hvl : (h.ws[n]).vol.toNat < h.sizes.length := by omega
 have f6 := sizesE_le (hist_ok eh).1 _ (List.getElem_mem hvl)
 have f7 : h.sizes.getD (h.ws[n]).vol.toNat 0 = h.sizes[(h.ws[n]).vol.toNat] := by simp [hvl]
 have jc1 : (judgeAV h im).cells = [judgeAV h im] := rfl
 have jc2 : (judgeAV h im).okc = true := rfl
 have jc3 : (judgeAV h im).isAgg = false := rfl
 have hall : allowedB h im n = (wrAt h.ws n).cts.all (alP h im n) := rfl
 refine wpT_seq ?_
 refine wpT_region (by kernel_rfl) (fun K hK => ?_)
 simp only [↓SP, SZ, ↓reduceIte, reduceCtorEq, nE, nA, nL, nT, ct_okc, ct_isAgg, ct_cells, jc1, jc2, jc3]
 refine hK _ _ ?_
 clear hK K
 refine wpT_seq ?_
 refine wpT_drawB 9 [] mixed (by kernel_rfl) (m := 11) rfl (fun K hK => ?_)
 simp only [↓SP, SZ, ↓reduceIte, reduceCtorEq, nE, nA, nL, nT, ct_okc, ct_isAgg, ct_cells, jc1, jc2, jc3, judgeAV, hg]
 refine CallV.mono (c65 h.ws[n] (hs.2.2.2 _ hm) f4 (by omega) (.fn (.func 101) [] [.ptr 0 1 0 0, .ptr 1 1 0 0]) (alI h im n) (fun _ => allowedB h im n = false) _ ⟨by simp only [↓SP, SZ, ↓reduceIte, reduceCtorEq, nE, nA, nL, nT, ct_okc, ct_isAgg, ct_cells], by simp only [↓SP, SZ, ↓reduceIte, reduceCtorEq, nE, nA, nL, nT, ct_okc, ct_isAgg, ct_cells]; rfl, by simp only [↓SP, SZ, ↓reduceIte, reduceCtorEq, nE, nA, nL, nT, ct_okc, ct_isAgg, ct_cells], by rw [hwn]⟩ ?_ ?_) ?_
 · rintro cs a b ⟨q0, q1, q2, q3⟩ hn hab
   exact ⟨by omega, by rw [hab _ (by omega)]; exact q1, by rw [hab _ (by omega)]; exact q2, q3⟩
 · rintro c cs h' ⟨q0, q1, q2, q3⟩ hmem
   obtain ⟨v, k, hv, hk, hc⟩ := ct_in eh hz hm hmem
   rw [hc]
   rw [hc] at q3
   refine al_call hv hk q1 q2 fun H' hnx hget => ⟨⟨_, rfl, ?_⟩, by omega, fun j _ _ => hget j⟩
   rw [List.all_cons] at q3
   cases hp : alP h im n ⟨v, k, c.dat⟩ with
   | true =>
     rw [hp, Bool.true_and] at q3
     exact .inl ⟨rfl, by omega, by rw [hget]; exact q1, by rw [hget]; exact q2, q3⟩
   | false =>
     rw [hp, Bool.false_and] at q3
     exact .inr ⟨rfl, hall.trans q3⟩
 rintro v h5 hv
 obtain ⟨bb, rfl, hb⟩ : ∃ bb, v = .bool bb ∧ bb = allowedB h im n := by
   rcases hv with ⟨rfl, _, _, _, hv⟩ | ⟨rfl, hv⟩
   · exact ⟨true, rfl, by rw [hall, hv]; rfl⟩
   · exact ⟨false, rfl, hv.symm⟩
 simp only [↓SP, SZ, ↓reduceIte, reduceCtorEq, nE, nA, nL, nT, ct_okc, ct_isAgg, ct_cells, jc1, jc2, jc3, judgeAV, hg]
 refine hK _ _ ?_
 clear hK K
 refine wpT_ret ⟨.inr rfl, ?_⟩
 show optK (resA _ _ _ [.tmp 4]) _
 simp only [SRO, ↓SP, SZ, ↓reduceIte, reduceCtorEq, nE, nA, nL, nT, ct_okc, ct_isAgg, ct_cells, jc1, jc2, jc3]
 rw [hb]
 exact .refl _
def findL (h : Hist) (im : List (List Sec)) : List Int := if judgeE h im ≠ 0 ∨ (confC h im).isSome = true then [] else leastC h im
def findB (h : Hist) (im : List (List Sec)) : Bool := decide (judgeE h im = 0) && !(confC h im).isSome
def newL (h : Hist) (im : List (List Sec)) : List Int := if judgeE h im ≠ 0 ∨ (confC h im).isSome = true then [] else newestC h im
def conW (h : Hist) (im : List (List Sec)) : Wr := if judgeE h im ≠ 0 then wr0 else candW h im
def conB (h : Hist) (im : List (List Sec)) : Bool := decide (judgeE h im = 0) && (confC h im).isSome
theorem c16 (h : Hist) (im : List (List Sec)) (hs : h.sm) (hl : im.length < 4000000) (hm : ∀ l ∈ im, l.length < 4000000) : Pu Try.prog (.fn (.func 16) [] []) [h.av, imgAV im] (.tup [.lst ((findL h im).map I), B (findB h im), I (judgeE h im)]) := by
 refine pu_func Try.func16 rfl (by kernel_rfl) (by show _ ≤ 35; simp only [LN]; decide) (by simp only [IDS, chkAV_idf, ct_idf, judge_idf, judgeR_idf]) (by simp only [IDS, chkAV_idf, ct_idf, judge_idf, judgeR_idf]) (by simp only [IDS, chkAV_idf, ct_idf, judge_idf, judgeR_idf]) ?_
 rw [Try.ntmps16]
 refine wpT_seq ?_
 refine wpT_region (by kernel_rfl) (fun K hK => ?_)
 simp only [↓SP, SZ, ↓reduceIte, reduceCtorEq, nE, nA, nL, nT, ct_okc, ct_isAgg, ct_cells]
 refine hK _ _ ?_
 clear hK K
 refine wpT_seq ?_
 refine wpT_region (by kernel_rfl) (fun K hK => ?_)
 simp only [↓SP, SZ, ↓reduceIte, reduceCtorEq, nE, nA, nL, nT, ct_okc, ct_isAgg, ct_cells]
 refine Pu.call (c37 h im hs hl hm) ?_
 simp only [↓SP, SZ, ↓reduceIte, reduceCtorEq, nE, nA, nL, nT, ct_okc, ct_isAgg, ct_cells]
 refine hK _ _ ?_
 clear hK K
 refine wpT_seq ?_
 refine wpT_seq ?_
 refine wpT_region (by kernel_rfl) (fun K hK => ?_)
 simp only [↓SP, SZ, ↓reduceIte, reduceCtorEq, nE, nA, nL, nT, ct_okc, ct_isAgg, ct_cells]
 refine hK _ _ ?_
 clear hK K
 refine wpT_if (by rfl) (fun hc19 => ?_) (fun hc19 => ?_)
 ·
  have p19 := hc19
  try simp only [PB] at p19
  have hx1 : findL h im = [] := if_pos (.inl p19)
  have hx2 : findB h im = false := by rw [findB, decide_eq_false p19]; rfl
  refine wpT_seq ?_
  refine wpT_region (by kernel_rfl) (fun K hK => ?_)
  simp only [↓SP, SZ, ↓reduceIte, reduceCtorEq, nE, nA, nL, nT, ct_okc, ct_isAgg, ct_cells, hc19]
  refine hK _ _ ?_
  clear hK K
  refine wpT_ret ⟨.inr rfl, ?_⟩
  show optK (resA _ _ _ [.tmp 4, .tmp 5, .tmp 6]) _
  simp only [SRO, ↓SP, SZ, ↓reduceIte, reduceCtorEq, nE, nA, nL, nT, ct_okc, ct_isAgg, ct_cells, hc19]
  rw [hx1, hx2]
  exact Lend.tupL (LendL.cons .nil0 (LendL.cons (.refl _) (LendL.cons (.refl _) LendL.nil)))
 ·
  have p19 := hc19
  try simp only [PB] at p19
  have e0 : judgeE h im = 0 := by simpa using p19
  have hj : judgeR h im = judgeAV h im := if_neg (by omega)
  refine wpT_skip ?_
  refine wpT_seq ?_
  refine wpT_region (by kernel_rfl) (fun K hK => ?_)
  simp only [↓SP, SZ, ↓reduceIte, reduceCtorEq, nE, nA, nL, nT, ct_okc, ct_isAgg, ct_cells, hj, hc19]
  refine Pu.call (c38 h im hs e0) ?_
  simp only [↓SP, SZ, ↓reduceIte, reduceCtorEq, nE, nA, nL, nT, ct_okc, ct_isAgg, ct_cells, hj, hc19]
  refine hK _ _ ?_
  clear hK K
  refine wpT_seq ?_
  refine wpT_seq ?_
  refine wpT_region (by kernel_rfl) (fun K hK => ?_)
  simp only [↓SP, SZ, ↓reduceIte, reduceCtorEq, nE, nA, nL, nT, ct_okc, ct_isAgg, ct_cells, hc19]
  refine hK _ _ ?_
  clear hK K
  refine wpT_if (by rfl) (fun hc32 => ?_) (fun hc32 => ?_)
  ·
   have p32 := hc32
   try simp only [PB] at p32
   have hx1 : findL h im = [] := if_pos (.inr p32)
   have hx2 : findB h im = false := by rw [findB, p32]; simp
   refine wpT_seq ?_
   refine wpT_region (by kernel_rfl) (fun K hK => ?_)
   simp only [↓SP, SZ, ↓reduceIte, reduceCtorEq, nE, nA, nL, nT, ct_okc, ct_isAgg, ct_cells, hc19, hc32]
   refine hK _ _ ?_
   clear hK K
   refine wpT_ret ⟨.inr rfl, ?_⟩
   show optK (resA _ _ _ [.tmp 4, .tmp 5, .tmp 6]) _
   simp only [SRO, ↓SP, SZ, ↓reduceIte, reduceCtorEq, nE, nA, nL, nT, ct_okc, ct_isAgg, ct_cells, hc19, hc32]
   rw [hx1, hx2, e0]
   exact Lend.tupL (LendL.cons .nil0 (LendL.cons (.refl _) (LendL.cons (.refl _) LendL.nil)))
  ·
   have p32 := hc32
   try simp only [PB] at p32
   have hx1 : findL h im = leastC h im := if_neg (by simp [e0, p32])
   have hx2 : findB h im = true := by rw [findB, p32, decide_eq_true e0]; rfl
   have hcl : candL h im = leastC h im := if_neg (fun hu => by
     cases hk : unkC (ctsH 0 h.ws) im with
     | none => rw [hk] at hu; simp at hu
     | some c => rw [confC, hk] at p32; simp at p32)
   refine wpT_skip ?_
   refine wpT_seq ?_
   refine wpT_region (by kernel_rfl) (fun K hK => ?_)
   simp only [↓SP, SZ, ↓reduceIte, reduceCtorEq, nE, nA, nL, nT, ct_okc, ct_isAgg, ct_cells, hcl, hc19, hc32]
   refine hK _ _ ?_
   clear hK K
   refine wpT_ret ⟨.inr rfl, ?_⟩
   show optK (resA _ _ _ [.tmp 4, .tmp 5, .tmp 6]) _
   simp only [SRO, ↓SP, SZ, ↓reduceIte, reduceCtorEq, nE, nA, nL, nT, ct_okc, ct_isAgg, ct_cells, hc19, hc32]
   rw [hx1, hx2, e0]
   exact .refl _
theorem c13 (h : Hist) (im : List (List Sec)) (hs : h.sm) (hl : im.length < 4000000) (hm : ∀ l ∈ im, l.length < 4000000) : Pu Try.prog (.fn (.func 13) [] []) [h.av, imgAV im] (.tup [(conW h im).av, B (conB h im), I (judgeE h im)]) := by
 refine pu_func Try.func13 rfl (by kernel_rfl) (by show _ ≤ 32; simp only [LN]; decide) (by simp only [IDS, chkAV_idf, ct_idf, judge_idf, judgeR_idf]) (by simp only [IDS, chkAV_idf, ct_idf, judge_idf, judgeR_idf]) (by simp only [IDS, chkAV_idf, ct_idf, judge_idf, judgeR_idf]) ?_
 rw [Try.ntmps13]
 refine wpT_seq ?_
 refine wpT_region (by kernel_rfl) (fun K hK => ?_)
 simp only [↓SP, SZ, ↓reduceIte, reduceCtorEq, nE, nA, nL, nT, ct_okc, ct_isAgg, ct_cells]
 refine hK _ _ ?_
 clear hK K
 refine wpT_seq ?_
 refine wpT_region (by kernel_rfl) (fun K hK => ?_)
 simp only [↓SP, SZ, ↓reduceIte, reduceCtorEq, nE, nA, nL, nT, ct_okc, ct_isAgg, ct_cells]
 refine Pu.call (c37 h im hs hl hm) ?_
 simp only [↓SP, SZ, ↓reduceIte, reduceCtorEq, nE, nA, nL, nT, ct_okc, ct_isAgg, ct_cells]
 refine hK _ _ ?_
 clear hK K
 refine wpT_seq ?_
 refine wpT_seq ?_
 refine wpT_region (by kernel_rfl) (fun K hK => ?_)
 simp only [↓SP, SZ, ↓reduceIte, reduceCtorEq, nE, nA, nL, nT, ct_okc, ct_isAgg, ct_cells]
 refine hK _ _ ?_
 clear hK K
 refine wpT_if (by rfl) (fun hc19 => ?_) (fun hc19 => ?_)
 ·
  have p19 := hc19
  try simp only [PB] at p19
  have hx1 : conW h im = wr0 := if_pos p19
  have hx2 : conB h im = false := by rw [conB, decide_eq_false p19]; rfl
  refine wpT_seq ?_
  refine wpT_region (by kernel_rfl) (fun K hK => ?_)
  simp only [↓SP, SZ, ↓reduceIte, reduceCtorEq, nE, nA, nL, nT, ct_okc, ct_isAgg, ct_cells, hc19]
  refine hK _ _ ?_
  clear hK K
  refine wpT_ret ⟨.inr rfl, ?_⟩
  show optK (resA _ _ _ [.cell 4 34, .tmp 5, .tmp 6]) _
  simp only [SRO, ↓SP, SZ, ↓reduceIte, reduceCtorEq, nE, nA, nL, nT, ct_okc, ct_isAgg, ct_cells, hc19]
  rw [hx1, hx2]
  exact Lend.tupL (LendL.cons wrZ_lend (LendL.cons (.refl _) (LendL.cons (.refl _) LendL.nil)))
 ·
  have p19 := hc19
  try simp only [PB] at p19
  have e0 : judgeE h im = 0 := by simpa using p19
  have hj : judgeR h im = judgeAV h im := if_neg (by omega)
  have hx1 : conW h im = candW h im := if_neg (by omega)
  have hx2 : conB h im = (confC h im).isSome := by rw [conB, decide_eq_true e0, Bool.true_and]
  refine wpT_skip ?_
  refine wpT_seq ?_
  refine wpT_region (by kernel_rfl) (fun K hK => ?_)
  simp only [↓SP, SZ, ↓reduceIte, reduceCtorEq, nE, nA, nL, nT, ct_okc, ct_isAgg, ct_cells, hj, hc19]
  refine Pu.call (c38 h im hs e0) ?_
  simp only [↓SP, SZ, ↓reduceIte, reduceCtorEq, nE, nA, nL, nT, ct_okc, ct_isAgg, ct_cells, hj, hc19]
  refine hK _ _ ?_
  clear hK K
  refine wpT_seq ?_
  refine wpT_region (by kernel_rfl) (fun K hK => ?_)
  simp only [↓SP, SZ, ↓reduceIte, reduceCtorEq, nE, nA, nL, nT, ct_okc, ct_isAgg, ct_cells, hc19]
  refine hK _ _ ?_
  clear hK K
  refine wpT_ret ⟨.inr rfl, ?_⟩
  show optK (resA _ _ _ [.cell 4 34, .tmp 5, .tmp 6]) _
  simp only [SRO, ↓SP, SZ, ↓reduceIte, reduceCtorEq, nE, nA, nL, nT, ct_okc, ct_isAgg, ct_cells, hc19]
  rw [hx1, hx2, e0]
  exact .refl _
end Go.Proofs.Ytfdfkmcplhloaaa
end

section
set_option linter.unusedSimpArgs false
set_option linter.unusedVariables false
namespace Go.Proofs.Ytfdfkmcplhloaaa
open Go.Proofs
open Nat renaming reduceEqDiff → nE, reduceAdd → nA, reduceLeDiff → nL, reduceLT → nT
set_option maxRecDepth 10000
theorem c24 (h : Hist) (im : List (List Sec)) (hs : h.sm) (hl : im.length < 4000000) (hm : ∀ l ∈ im, l.length < 4000000) : Pu Try.prog (.fn (.func 24) [] []) [h.av, imgAV im] (.tup [.lst ((newL h im).map I), B (findB h im), I (judgeE h im)]) := by
 refine pu_func Try.func24 rfl (by kernel_rfl) (by show _ ≤ 62; simp only [LN]; decide) (by simp only [IDS, chkAV_idf, ct_idf, judge_idf, judgeR_idf]) (by simp only [IDS, chkAV_idf, ct_idf, judge_idf, judgeR_idf]) (by simp only [IDS, chkAV_idf, ct_idf, judge_idf, judgeR_idf]) ?_
 rw [Try.ntmps24]
 have hw := hs.2.1
 have k6 : loadV Try.prog 23 h.av 1 = some (.lst (h.ws.map Wr.av)) := by simp only [Hist.av, TY]; rfl
 refine wpT_seq ?_
 refine wpT_region (by kernel_rfl) (fun K hK => ?_)
 simp only [↓SP, SZ, ↓reduceIte, reduceCtorEq, nE, nA, nL, nT, ct_okc]
 refine hK _ _ ?_
 clear hK K
 refine wpT_seq ?_
 refine wpT_region (by kernel_rfl) (fun K hK => ?_)
 simp only [↓SP, SZ, ↓reduceIte, reduceCtorEq, nE, nA, nL, nT, ct_okc]
 refine Pu.call (c37 h im hs hl hm) ?_
 simp only [↓SP, SZ, ↓reduceIte, reduceCtorEq, nE, nA, nL, nT, ct_okc]
 refine hK _ _ ?_
 clear hK K
 refine wpT_seq ?_
 refine wpT_seq ?_
 refine wpT_region (by kernel_rfl) (fun K hK => ?_)
 simp only [↓SP, SZ, ↓reduceIte, reduceCtorEq, nE, nA, nL, nT, ct_okc]
 refine hK _ _ ?_
 clear hK K
 refine wpT_if (by rfl) (fun hc23 => ?_) (fun hc23 => ?_)
 ·
  have p23 := hc23
  try simp only [PB] at p23
  have hx1 : newL h im = [] := if_pos (.inl p23)
  have hx2 : findB h im = false := by rw [findB, decide_eq_false p23]; rfl
  refine wpT_seq ?_
  refine wpT_region (by kernel_rfl) (fun K hK => ?_)
  simp only [↓SP, SZ, ↓reduceIte, reduceCtorEq, nE, nA, nL, nT, ct_okc, hc23]
  refine hK _ _ ?_
  clear hK K
  refine wpT_ret ⟨.inr rfl, ?_⟩
  show optK (resA _ _ _ [.tmp 4, .tmp 5, .tmp 6]) _
  simp only [SRO, ↓SP, SZ, ↓reduceIte, reduceCtorEq, nE, nA, nL, nT, ct_okc, hc23]
  rw [hx1, hx2]
  exact Lend.tupL (LendL.cons .nil0 (LendL.cons (.refl _) (LendL.cons (.refl _) LendL.nil)))
 ·
  have p23 := hc23
  try simp only [PB] at p23
  have e0 : judgeE h im = 0 := by simpa using p23
  obtain ⟨eh, hz, hd⟩ := judge_ok e0
  have hj : judgeR h im = judgeAV h im := if_neg (by omega)
  refine wpT_skip ?_
  refine wpT_seq ?_
  refine wpT_seq ?_
  refine wpT_region (by kernel_rfl) (fun K hK => ?_)
  simp only [↓SP, SZ, ↓reduceIte, reduceCtorEq, nE, nA, nL, nT, ct_okc, hj, hc23]
  refine Pu.call (c38 h im hs e0) ?_
  simp only [↓SP, SZ, ↓reduceIte, reduceCtorEq, nE, nA, nL, nT, ct_okc, hj, hc23]
  refine hK _ _ ?_
  clear hK K
  refine wpT_seq ?_
  refine wpT_region (by kernel_rfl) (fun K hK => ?_)
  simp only [↓SP, SZ, ↓reduceIte, reduceCtorEq, nE, nA, nL, nT, ct_okc, show ((0 : Int) != 0) = false from rfl, hc23]
  refine hK _ _ ?_
  clear hK K
  refine wpT_if (by rfl) (fun hc36 => ?_) (fun hc36 => ?_)
  ·
   have p36 := hc36
   try simp only [PB] at p36
   have hx1 : newL h im = [] := if_pos (.inr p36)
   have hx2 : findB h im = false := by rw [findB, p36]; simp
   refine wpT_seq ?_
   refine wpT_region (by kernel_rfl) (fun K hK => ?_)
   simp only [↓SP, SZ, ↓reduceIte, reduceCtorEq, nE, nA, nL, nT, ct_okc, hc23, hc36]
   refine hK _ _ ?_
   clear hK K
   refine wpT_ret ⟨.inr rfl, ?_⟩
   show optK (resA _ _ _ [.tmp 4, .tmp 5, .tmp 6]) _
   simp only [SRO, ↓SP, SZ, ↓reduceIte, reduceCtorEq, nE, nA, nL, nT, ct_okc, hc23, hc36]
   rw [hx1, hx2, e0]
   exact Lend.tupL (LendL.cons .nil0 (LendL.cons (.refl _) (LendL.cons (.refl _) LendL.nil)))
  ·
   have p36 := hc36
   try simp only [PB] at p36
   have hx1 : newL h im = newestC h im := if_neg (by simp [e0, p36])
   have hx2 : findB h im = true := by rw [findB, p36, decide_eq_true e0]; rfl
   refine wpT_skip ?_
   refine wpT_seq ?_
   refine wpT_region (by kernel_rfl) (fun K hK => ?_)
   simp only [↓SP, SZ, ↓reduceIte, reduceCtorEq, nE, nA, nL, nT, ct_okc, hc23, hc36]
   refine hK _ _ ?_
   clear hK K
   refine wpT_seq ?_
   refine wpT_seq ?_
   refine wpT_region (by kernel_rfl) (fun K hK => ?_)
   simp only [↓SP, SZ, ↓reduceIte, reduceCtorEq, nE, nA, nL, nT, ct_okc, k6, hc23, hc36]
   refine hK _ _ ?_
   clear hK K
   refine wpT_block ?_
   refine wpT_loop ?_
   refine wpT_nilown 13 3 1 (by simp only [↓SP, SZ, ↓reduceIte, reduceCtorEq, nE, nA, nL, nT, ct_okc]) ?_
   refine wpT_keep3 (i := 0) (j := 1) (k := 2) (o := .arr 26 3 [h.av]) (q := .arr 34 3 [(candW h im).av]) (r := .arr 3 1 ((selN (allowedB h im) 0).map I)) (by simp only [↓SP, SZ, ↓reduceIte, reduceCtorEq, nE, nA, nL, nT, ct_okc]) (by simp only [↓SP, SZ, ↓reduceIte, reduceCtorEq, nE, nA, nL, nT, ct_okc]) (by simp only [↓SP, SZ, ↓reduceIte, reduceCtorEq, nE, nA, nL, nT, ct_okc]; rfl) ?_
   refine wpT_ind (fun (i : Nat) tm' h' => (∃ m, h' = Hp.of [(0, .arr 26 3 [h.av]), (1, .arr 34 3 [(candW h im).av]), (2, .arr 3 1 ((selN (allowedB h im) i).map I))] (m + 3)) ∧ tm' 2 = .ptr 0 1 0 0 ∧ tm' 7 = judgeAV h im ∧ tm' 13 = .sl 2 (selN (allowedB h im) i).length 0 (selN (allowedB h im) i).length ∧ tm' 40 = I h.ws.length ∧ tm' 41 = I i ∧ i ≤ h.ws.length) (fun i => h.ws.length - i) ?_ 0 ⟨⟨0, rfl⟩, rfl, by simp only [↓SP, SZ, ↓reduceIte, reduceCtorEq, nE, nA, nL, nT, ct_okc, hj], rfl, rfl, rfl, by omega⟩
   rintro i tm' _ ⟨⟨m, rfl⟩, f2, f7, f13, f40, f41, hi⟩ IH
   refine wpT_inLoop ?_
   refine wpT_seq ?_
   refine wpT_region (by kernel_rfl) (fun K hK => ?_)
   simp only [↓SP, SZ, ↓reduceIte, reduceCtorEq, nE, nA, nL, nT, ct_okc, f40, f41]
   refine hK _ _ ?_
   clear hK K
   refine wpT_seq ?_
   refine wpT_if (by rfl) (fun hc42 => ?_) (fun hc42 => ?_)
   ·
    have p42 := hc42
    try simp only [PB] at p42
    have hlt : i < h.ws.length := by omega
    have hln := selN_length (allowedB h im) i
    have m1 : (selN (allowedB h im) i).length + 1 ≤ maxLen := by simp only [maxLen]; omega
    have m2 : ((selN (allowedB h im) i).length + 1) * 8 ≤ 140737488355328 := by omega
    refine wpT_skip ?_
    refine wpT_seq ?_
    refine wpT_block ?_
    refine wpT_seq ?_
    refine wpT_region (by kernel_rfl) (fun K hK => ?_)
    simp only [↓SP, SZ, ↓reduceIte, reduceCtorEq, nE, nA, nL, nT, ct_okc, f41, hc42]
    refine hK _ _ ?_
    clear hK K
    refine wpT_seq ?_
    refine wpT_region (by kernel_rfl) (fun K hK => ?_)
    simp only [↓SP, SZ, ↓reduceIte, reduceCtorEq, nE, nA, nL, nT, ct_okc, f7, hc42]
    refine Pu.call (c57 h im hs e0 i hlt) ?_
    simp only [↓SP, SZ, ↓reduceIte, reduceCtorEq, nE, nA, nL, nT, ct_okc, f7, hc42]
    refine hK _ _ ?_
    clear hK K
    refine wpT_if (by rfl) (fun hc46 => ?_) (fun hc46 => ?_)
    ·
     have p46 := hc46
     try simp only [PB] at p46
     have hsel : selN (allowedB h im) (i + 1) = selN (allowedB h im) i ++ [(i : Int)] := by rw [selN, if_pos hc46]
     refine wpT_region (by kernel_rfl) (fun K hK => ?_)
     simp only [↓SP, SZ, ↓reduceIte, reduceCtorEq, nE, nA, nL, nT, ct_okc, f13, m1, m2, hc42, hc46]
     refine hK _ _ ?_
     clear hK K
     refine wpT_inBlock ?_
     refine wpT_region (by kernel_rfl) (fun K hK => ?_)
     simp only [↓SP, SZ, ↓reduceIte, reduceCtorEq, nE, nA, nL, nT, ct_okc, f41, wrap64 (x := (i : Int) + 1) (by omega) (by omega), hc42, hc46]
     refine hK _ _ ?_
     clear hK K
     first
       | (have hu := hsel
          refine wpT_keep3 (i := 0) (j := 1) (k := 2) (o := .arr 26 3 [h.av]) (q := .arr 34 3 [(candW h im).av]) (r := .arr 3 1 ((selN (allowedB h im) (i + 1)).map I)) (by simp only [↓SP, SZ, ↓reduceIte, reduceCtorEq, nE, nA, nL, nT, ct_okc]) (by simp only [↓SP, SZ, ↓reduceIte, reduceCtorEq, nE, nA, nL, nT, ct_okc]) (by simp only [↓SP, SZ, ↓reduceIte, reduceCtorEq, nE, nA, nL, nT, ct_okc, hsel, List.map_append]) ?_
          refine IH (i + 1) _ _ (by omega) ⟨⟨_, rfl⟩, by simp only [↓SP, SZ, ↓reduceIte, reduceCtorEq, nE, nA, nL, nT, ct_okc, f2], by simp only [↓SP, SZ, ↓reduceIte, reduceCtorEq, nE, nA, nL, nT, ct_okc, f7], by simp only [↓SP, SZ, ↓reduceIte, reduceCtorEq, nE, nA, nL, nT, ct_okc, hsel], by simp only [↓SP, SZ, ↓reduceIte, reduceCtorEq, nE, nA, nL, nT, ct_okc, f40], by simp only [↓SP, SZ, ↓reduceIte, reduceCtorEq, nE, nA, nL, nT, ct_okc, Int.natCast_add, Int.cast_ofNat_Int], by omega⟩)
       | (have hu := hself
          refine wpT_keep3 (i := 0) (j := 1) (k := 2) (o := .arr 26 3 [h.av]) (q := .arr 34 3 [(candW h im).av]) (r := .arr 3 1 ((selN (allowedB h im) (i + 1)).map I)) (by simp only [↓SP, SZ, ↓reduceIte, reduceCtorEq, nE, nA, nL, nT, ct_okc]) (by simp only [↓SP, SZ, ↓reduceIte, reduceCtorEq, nE, nA, nL, nT, ct_okc]) (by simp only [↓SP, SZ, ↓reduceIte, reduceCtorEq, nE, nA, nL, nT, ct_okc, hself]) ?_
          refine IH (i + 1) _ _ (by omega) ⟨⟨_, rfl⟩, by simp only [↓SP, SZ, ↓reduceIte, reduceCtorEq, nE, nA, nL, nT, ct_okc, f2], by simp only [↓SP, SZ, ↓reduceIte, reduceCtorEq, nE, nA, nL, nT, ct_okc, f7], by simp only [↓SP, SZ, ↓reduceIte, reduceCtorEq, nE, nA, nL, nT, ct_okc, hself, f13], by simp only [↓SP, SZ, ↓reduceIte, reduceCtorEq, nE, nA, nL, nT, ct_okc, f40], by simp only [↓SP, SZ, ↓reduceIte, reduceCtorEq, nE, nA, nL, nT, ct_okc, Int.natCast_add, Int.cast_ofNat_Int], by omega⟩)
    ·
     have p46 := hc46
     try simp only [PB] at p46
     have hself : selN (allowedB h im) (i + 1) = selN (allowedB h im) i := by rw [selN, if_neg (by simp [hc46]), List.append_nil]
     refine wpT_skip ?_
     refine wpT_inBlock ?_
     refine wpT_region (by kernel_rfl) (fun K hK => ?_)
     simp only [↓SP, SZ, ↓reduceIte, reduceCtorEq, nE, nA, nL, nT, ct_okc, f41, wrap64 (x := (i : Int) + 1) (by omega) (by omega), hc42, hc46]
     refine hK _ _ ?_
     clear hK K
     first
       | (have hu := hsel
          refine wpT_keep3 (i := 0) (j := 1) (k := 2) (o := .arr 26 3 [h.av]) (q := .arr 34 3 [(candW h im).av]) (r := .arr 3 1 ((selN (allowedB h im) (i + 1)).map I)) (by simp only [↓SP, SZ, ↓reduceIte, reduceCtorEq, nE, nA, nL, nT, ct_okc]) (by simp only [↓SP, SZ, ↓reduceIte, reduceCtorEq, nE, nA, nL, nT, ct_okc]) (by simp only [↓SP, SZ, ↓reduceIte, reduceCtorEq, nE, nA, nL, nT, ct_okc, hsel, List.map_append]) ?_
          refine IH (i + 1) _ _ (by omega) ⟨⟨_, rfl⟩, by simp only [↓SP, SZ, ↓reduceIte, reduceCtorEq, nE, nA, nL, nT, ct_okc, f2], by simp only [↓SP, SZ, ↓reduceIte, reduceCtorEq, nE, nA, nL, nT, ct_okc, f7], by simp only [↓SP, SZ, ↓reduceIte, reduceCtorEq, nE, nA, nL, nT, ct_okc, hsel], by simp only [↓SP, SZ, ↓reduceIte, reduceCtorEq, nE, nA, nL, nT, ct_okc, f40], by simp only [↓SP, SZ, ↓reduceIte, reduceCtorEq, nE, nA, nL, nT, ct_okc, Int.natCast_add, Int.cast_ofNat_Int], by omega⟩)
       | (have hu := hself
          refine wpT_keep3 (i := 0) (j := 1) (k := 2) (o := .arr 26 3 [h.av]) (q := .arr 34 3 [(candW h im).av]) (r := .arr 3 1 ((selN (allowedB h im) (i + 1)).map I)) (by simp only [↓SP, SZ, ↓reduceIte, reduceCtorEq, nE, nA, nL, nT, ct_okc]) (by simp only [↓SP, SZ, ↓reduceIte, reduceCtorEq, nE, nA, nL, nT, ct_okc]) (by simp only [↓SP, SZ, ↓reduceIte, reduceCtorEq, nE, nA, nL, nT, ct_okc, hself]) ?_
          refine IH (i + 1) _ _ (by omega) ⟨⟨_, rfl⟩, by simp only [↓SP, SZ, ↓reduceIte, reduceCtorEq, nE, nA, nL, nT, ct_okc, f2], by simp only [↓SP, SZ, ↓reduceIte, reduceCtorEq, nE, nA, nL, nT, ct_okc, f7], by simp only [↓SP, SZ, ↓reduceIte, reduceCtorEq, nE, nA, nL, nT, ct_okc, hself, f13], by simp only [↓SP, SZ, ↓reduceIte, reduceCtorEq, nE, nA, nL, nT, ct_okc, f40], by simp only [↓SP, SZ, ↓reduceIte, reduceCtorEq, nE, nA, nL, nT, ct_okc, Int.natCast_add, Int.cast_ofNat_Int], by omega⟩)
   ·
    have p42 := hc42
    try simp only [PB] at p42
    have hi2 : i = h.ws.length := by omega
    subst hi2
    have hal : selN (allowedB h im) h.ws.length = allowedL h im := rfl
    rw [hal] at f13 ⊢
    have hnl : (allowedL h im).length < 4000000 := Nat.lt_of_le_of_lt (selN_length _ _) hw
    have hnset : setP h.ws.length (-1) (allowedL h im) = true := setP_sel (Nat.le_refl _)
    have hse : setsE h [allowedL h im] = 0 := by
      unfold setsE
      rw [if_neg (by omega), if_pos (by simpa using hnset)]
    have hge : greatL h (allowedL h im) = newestC h im := if_neg (by omega)
    refine wpT_exit rfl ?_
    refine wpT_seq ?_
    refine wpT_region (by kernel_rfl) (fun K hK => ?_)
    simp only [↓SP, SZ, ↓reduceIte, reduceCtorEq, nE, nA, nL, nT, ct_okc, f2, f13, hc42]
    refine Pu.freeze (greatF h (allowedL h im) hs hnl) 2 (LendL.cons (.refl _) (LendL.cons (Lend.sl0 (E := 3) (s := 1) (by simp only [↓SP, SZ, ↓reduceIte, reduceCtorEq, nE, nA, nL, nT, ct_okc]) (by simp) (int_okc _)) LendL.nil)) ?_
    simp only [↓SP, SZ, ↓reduceIte, reduceCtorEq, nE, nA, nL, nT, ct_okc, f2, f13, hc42]
    refine hK _ _ ?_
    clear hK K
    refine wpT_seq ?_
    refine wpT_region (by kernel_rfl) (fun K hK => ?_)
    simp only [↓SP, SZ, ↓reduceIte, reduceCtorEq, nE, nA, nL, nT, ct_okc, hc42]
    refine hK _ _ ?_
    clear hK K
    refine wpT_ret ⟨.inr rfl, ?_⟩
    show optK (resA _ _ _ [.tmp 4, .tmp 5, .tmp 6]) _
    simp only [SRO, ↓SP, SZ, ↓reduceIte, reduceCtorEq, nE, nA, nL, nT, ct_okc, hc42]
    rw [hx1, hx2, e0, hge, hse]
    exact .refl _
end Go.Proofs.Ytfdfkmcplhloaaa
end

section
set_option linter.unusedSimpArgs false
set_option linter.unusedVariables false
namespace Go.Proofs.Ytfdfkmcplhloaaa
open Go.Proofs
open Nat renaming reduceEqDiff → nE, reduceAdd → nA, reduceLeDiff → nL, reduceLT → nT
set_option maxRecDepth 10000
theorem cloneIn : NewV Try.prog (.fn (.func 90) [] []) [.lst []] 3 1 [] := by
 refine callV_func Try.func90 rfl (by kernel_rfl) (by show _ ≤ 8; simp only [LN]; decide) ?_
 rw [Try.ntmps90]
 refine wpT_seq ?_
 refine wpT_region (by kernel_rfl) (fun K hK => ?_)
 simp only [↓SP, SZ, ↓reduceIte, reduceCtorEq, nE, nA, nL, nT, ct_okc]
 refine hK _ _ ?_
 clear hK K
 refine wpT_seq ?_
 refine wpT_seq ?_
 refine wpT_isnil (xs := []) rfl sle22 (by decide) (fun b hb => ?_)
 refine wpT_if (by rfl) (fun hc4 => ?_) (fun hc4 => ?_)
 ·
  have p4 := hc4
  try simp only [PB] at p4
  refine wpT_seq ?_
  refine wpT_region (by kernel_rfl) (fun K hK => ?_)
  simp only [↓SP, SZ, ↓reduceIte, reduceCtorEq, nE, nA, nL, nT, ct_okc, hc4]
  refine hK _ _ ?_
  clear hK K
  refine wpT_nilown 2 3 1 (by simp only [↓SP, SZ, ↓reduceIte, reduceCtorEq, nE, nA, nL, nT, ct_okc]) ?_
  refine wpT_ret ⟨.inr rfl, ?_⟩
  show optK (resA _ _ _ [.tmp 2]) _
  simp only [SRO, ↓SP, SZ, ↓reduceIte, reduceCtorEq, nE, nA, nL, nT, ct_okc, hc4]
  exact ⟨0, rfl, rfl⟩
 ·
  have p4 := hc4
  try simp only [PB] at p4
  refine wpT_skip ?_
  refine wpT_seq ?_
  refine wpT_region (by kernel_rfl) (fun K hK => ?_)
  simp only [↓SP, SZ, ↓reduceIte, reduceCtorEq, nE, nA, nL, nT, ct_okc, hc4]
  refine hK _ _ ?_
  clear hK K
  refine wpT_nilown 2 3 1 (by simp only [↓SP, SZ, ↓reduceIte, reduceCtorEq, nE, nA, nL, nT, ct_okc]) ?_
  refine wpT_ret ⟨.inr rfl, ?_⟩
  show optK (resA _ _ _ [.tmp 2]) _
  simp only [SRO, ↓SP, SZ, ↓reduceIte, reduceCtorEq, nE, nA, nL, nT, ct_okc, hc4]
  exact ⟨0, rfl, rfl⟩
theorem cloneIc (y : Int) (ys : List Int) (hl : (y :: ys).length < 4000000000) : NewV Try.prog (.fn (.func 90) [] []) [.lst ((y :: ys).map I)] 3 1 ((y :: ys).map I) := by
 refine callV_func Try.func90 rfl (by kernel_rfl) (by show _ ≤ 8; simp only [LN]; decide) ?_
 rw [Try.ntmps90]
 have q0 : ∀ v ∈ (I y :: ys.map I), v.cells.length = 1 := by
   intro v hv
   rcases List.mem_cons.1 hv with rfl | hv
   · rfl
   · obtain ⟨a, _, rfl⟩ := List.mem_map.1 hv
     rfl
 have q1 : ys.length + 1 ≤ maxLen := by simp only [maxLen]; simp only [List.length_cons] at hl; omega
 have q2 : (ys.length + 1) * 8 ≤ 140737488355328 := by simp only [List.length_cons] at hl; omega
 refine wpT_seq ?_
 refine wpT_region (by kernel_rfl) (fun K hK => ?_)
 simp only [↓SP, SZ, ↓reduceIte, reduceCtorEq, nE, nA, nL, nT, ct_okc]
 refine hK _ _ ?_
 clear hK K
 refine wpT_seq ?_
 refine wpT_seq ?_
 refine wpT_isnil (xs := (y :: ys).map I) rfl sle22 (by decide) (fun b hb => ?_)
 obtain rfl := hb (by simp)
 refine wpT_if (by rfl) (fun hc4 => ?_) (fun hc4 => ?_)
 ·
  have p4 := hc4
  try simp only [PB] at p4
  simp at p4
 ·
  have p4 := hc4
  try simp only [PB] at p4
  refine wpT_skip ?_
  refine wpT_seq ?_
  refine wpT_region (by kernel_rfl) (fun K hK => ?_)
  simp only [↓SP, SZ, ↓reduceIte, reduceCtorEq, nE, nA, nL, nT, ct_okc, apO_nil0 q0, q1, q2, hc4]
  refine hK _ _ ?_
  clear hK K
  refine wpT_ret ⟨.inr rfl, ?_⟩
  show optK (resA _ _ _ [.tmp 2]) _
  simp only [SRO, ↓SP, SZ, ↓reduceIte, reduceCtorEq, nE, nA, nL, nT, ct_okc, hc4]
  exact ⟨0, by simp, rfl⟩
theorem cloneI (xs : List Int) (hl : xs.length < 4000000000) : Nu Try.prog (.fn (.func 90) [] []) [.lst (xs.map I)] 3 1 (xs.map I) := by
  refine ⟨?_, by simp only [IDF, implies_true], by simp only [IDF, and_tt], by simp only [IDF, and_tt, implies_true]⟩
  cases xs with
  | nil => exact cloneIn
  | cons y ys => exact cloneIc y ys hl
theorem cloneEn : NewV Try.prog (.fn (.func 91) [] []) [.lst []] 93 2 [] := by
 refine callV_func Try.func91 rfl (by kernel_rfl) (by show _ ≤ 8; simp only [LN]; decide) ?_
 rw [Try.ntmps91]
 refine wpT_seq ?_
 refine wpT_region (by kernel_rfl) (fun K hK => ?_)
 simp only [↓SP, SZ, ↓reduceIte, reduceCtorEq, nE, nA, nL, nT, ct_okc]
 refine hK _ _ ?_
 clear hK K
 refine wpT_seq ?_
 refine wpT_seq ?_
 refine wpT_isnil (xs := []) rfl sle24 (by decide) (fun b hb => ?_)
 refine wpT_if (by rfl) (fun hc4 => ?_) (fun hc4 => ?_)
 ·
  have p4 := hc4
  try simp only [PB] at p4
  refine wpT_seq ?_
  refine wpT_region (by kernel_rfl) (fun K hK => ?_)
  simp only [↓SP, SZ, ↓reduceIte, reduceCtorEq, nE, nA, nL, nT, ct_okc, hc4]
  refine hK _ _ ?_
  clear hK K
  refine wpT_nilown 2 93 2 (by simp only [↓SP, SZ, ↓reduceIte, reduceCtorEq, nE, nA, nL, nT, ct_okc]) ?_
  refine wpT_ret ⟨.inr rfl, ?_⟩
  show optK (resA _ _ _ [.tmp 2]) _
  simp only [SRO, ↓SP, SZ, ↓reduceIte, reduceCtorEq, nE, nA, nL, nT, ct_okc, hc4]
  exact ⟨0, rfl, rfl⟩
 ·
  have p4 := hc4
  try simp only [PB] at p4
  refine wpT_skip ?_
  refine wpT_seq ?_
  refine wpT_region (by kernel_rfl) (fun K hK => ?_)
  simp only [↓SP, SZ, ↓reduceIte, reduceCtorEq, nE, nA, nL, nT, ct_okc, hc4]
  refine hK _ _ ?_
  clear hK K
  refine wpT_nilown 2 93 2 (by simp only [↓SP, SZ, ↓reduceIte, reduceCtorEq, nE, nA, nL, nT, ct_okc]) ?_
  refine wpT_ret ⟨.inr rfl, ?_⟩
  show optK (resA _ _ _ [.tmp 2]) _
  simp only [SRO, ↓SP, SZ, ↓reduceIte, reduceCtorEq, nE, nA, nL, nT, ct_okc, hc4]
  exact ⟨0, rfl, rfl⟩
theorem cloneEc (y : Evn) (ys : List Evn) (hl : (y :: ys).length < 4000000000) : NewV Try.prog (.fn (.func 91) [] []) [.lst ((y :: ys).map Evn.av)] 93 2 ((y :: ys).map Evn.av) := by
 refine callV_func Try.func91 rfl (by kernel_rfl) (by show _ ≤ 8; simp only [LN]; decide) ?_
 rw [Try.ntmps91]
 have q0 : ∀ v ∈ (Evn.av y :: ys.map Evn.av), v.cells.length = 2 := by
   intro v hv
   rcases List.mem_cons.1 hv with rfl | hv
   · rfl
   · obtain ⟨a, _, rfl⟩ := List.mem_map.1 hv
     rfl
 have q1 : ys.length + 1 ≤ maxLen := by simp only [maxLen]; simp only [List.length_cons] at hl; omega
 have q2 : (ys.length + 1) * 16 ≤ 140737488355328 := by simp only [List.length_cons] at hl; omega
 refine wpT_seq ?_
 refine wpT_region (by kernel_rfl) (fun K hK => ?_)
 simp only [↓SP, SZ, ↓reduceIte, reduceCtorEq, nE, nA, nL, nT, ct_okc]
 refine hK _ _ ?_
 clear hK K
 refine wpT_seq ?_
 refine wpT_seq ?_
 refine wpT_isnil (xs := (y :: ys).map Evn.av) rfl sle24 (by decide) (fun b hb => ?_)
 obtain rfl := hb (by simp)
 refine wpT_if (by rfl) (fun hc4 => ?_) (fun hc4 => ?_)
 ·
  have p4 := hc4
  try simp only [PB] at p4
  simp at p4
 ·
  have p4 := hc4
  try simp only [PB] at p4
  refine wpT_skip ?_
  refine wpT_seq ?_
  refine wpT_region (by kernel_rfl) (fun K hK => ?_)
  simp only [↓SP, SZ, ↓reduceIte, reduceCtorEq, nE, nA, nL, nT, ct_okc, apO_nil0 q0, q1, q2, hc4]
  refine hK _ _ ?_
  clear hK K
  refine wpT_ret ⟨.inr rfl, ?_⟩
  show optK (resA _ _ _ [.tmp 2]) _
  simp only [SRO, ↓SP, SZ, ↓reduceIte, reduceCtorEq, nE, nA, nL, nT, ct_okc, hc4]
  exact ⟨0, by simp, rfl⟩
theorem cloneEv (xs : List Evn) (hl : xs.length < 4000000000) : Nu Try.prog (.fn (.func 91) [] []) [.lst (xs.map Evn.av)] 93 2 (xs.map Evn.av) := by
  refine ⟨?_, by simp only [IDF, evn_idf, implies_true], by simp only [IDF, and_tt], by simp only [IDF, evn_idf, and_tt, implies_true]⟩
  cases xs with
  | nil => exact cloneEn
  | cons y ys => exact cloneEc y ys hl
def hcp (h : Hist) (i k j : Nat) : AV := .agg [.sl i h.sizes.length 0 h.sizes.length, .sl k h.ws.length 0 h.ws.length, .sl j h.evs.length 0 h.evs.length]
theorem c46 (h : Hist) (hs : h.sm) : CallV Try.prog (.fn (.func 46) [] []) [h.av] (Hp.empty 0) fun v H => ∃ i k j, v = hcp h i k j ∧ (H.get i = some (.arr 3 1 (h.sizes.map I)) ∧ H.get k = some (.arr 34 3 (h.ws.map Wr.av)) ∧ H.get j = some (.arr 93 2 (h.evs.map Evn.av))) ∧ i ≠ k ∧ i ≠ j ∧ k ≠ j := by
 refine callV_func Try.func46 rfl (by kernel_rfl) (by show _ ≤ 32; simp only [LN]; decide) ?_
 rw [Try.ntmps46]
 have hz := hs.1
 have hw := hs.2.1
 have he := hs.2.2.1
 refine wpT_seq ?_
 refine wpT_region (by kernel_rfl) (fun K hK => ?_)
 simp only [↓SP, SZ, ↓reduceIte, reduceCtorEq, nE, nA, nL, nT, ct_okc, Hist.av]
 refine hK _ _ ?_
 clear hK K
 refine wpT_seq ?_
 refine wpT_drawn [(2, 3), (2, 4), (0, 7), (1, 7), (2, 7), (3, 7), (4, 7), (5, 7)] mixed (by kernel_rfl) (m := 9) rfl (fun K hK => ?_)
 simp only [↓SP, SZ, ↓reduceIte, reduceCtorEq, nE, nA, nL, nT, ct_okc, Hist.av]
 refine Nu.callD (cloneI h.sizes (by omega)) ?_
 simp only [↓SP, SZ, ↓reduceIte, reduceCtorEq, nE, nA, nL, nT, ct_okc, Hist.av]
 refine Nu.callD (cloneEv h.evs (by omega)) ?_
 simp only [↓SP, SZ, ↓reduceIte, reduceCtorEq, nE, nA, nL, nT, ct_okc, Hist.av]
 refine hK _ _ ?_
 clear hK K
 refine wpT_seq ?_
 refine wpT_seq ?_
 refine wpT_region (by kernel_rfl) (fun K hK => ?_)
 simp only [↓SP, SZ, ↓reduceIte, reduceCtorEq, nE, nA, nL, nT, ct_okc, Hist.av]
 refine hK _ _ ?_
 clear hK K
 refine wpT_block ?_
 refine wpT_loop ?_
 refine wpT_nilcell 9 1 34 3 (by simp only [↓SP, SZ, ↓reduceIte, reduceCtorEq, nE, nA, nL, nT, ct_okc]; rfl) (by rfl) (by rfl) ?_
 refine wpT_keep5 (i := 1) (j := 4) (k := 7) (l := 9) (m := 11) (o := .arr 26 3 [.agg [.nil0, .nil0, .nil0]]) (q := .arr 3 1 (h.sizes.map I)) (r := .arr 93 2 (h.evs.map Evn.av)) (s := .arr 26 3 [.agg [.sl 4 h.sizes.length 0 h.sizes.length, .sl 11 0 0 0, .sl 7 h.evs.length 0 h.evs.length]]) (u := .arr 34 3 []) (by simp only [↓SP, SZ, ↓reduceIte, reduceCtorEq, nE, nA, nL, nT, ct_okc]) (by simp only [↓SP, SZ, ↓reduceIte, reduceCtorEq, nE, nA, nL, nT, ct_okc]) (by simp only [↓SP, SZ, ↓reduceIte, reduceCtorEq, nE, nA, nL, nT, ct_okc]) (by simp only [↓SP, SZ, ↓reduceIte, reduceCtorEq, nE, nA, nL, nT, ct_okc]) (by simp only [↓SP, SZ, ↓reduceIte, reduceCtorEq, nE, nA, nL, nT, ct_okc]) ?_
 refine wpT_ind (fun (i : Nat) tm' h' => (∃ m, h' = Hp.of [(1, .arr 26 3 [.agg [.nil0, .nil0, .nil0]]), (4, .arr 3 1 (h.sizes.map I)), (7, .arr 93 2 (h.evs.map Evn.av)), (9, .arr 26 3 [.agg [.sl 4 h.sizes.length 0 h.sizes.length, .sl 11 i 0 i, .sl 7 h.evs.length 0 h.evs.length]]), (11, .arr 34 3 ((h.ws.take i).map Wr.av))] (m + 12)) ∧ tm' 2 = .ptr 1 1 0 0 ∧ tm' 3 = .ptr 9 1 0 0 ∧ tm' 14 = .lst (h.ws.map Wr.av) ∧ tm' 15 = I h.ws.length ∧ tm' 16 = I i ∧ i ≤ h.ws.length) (fun i => h.ws.length - i) ?_ 0 ⟨⟨0, rfl⟩, rfl, rfl, rfl, rfl, rfl, by omega⟩
 rintro i tm' _ ⟨⟨m, rfl⟩, e2, e3, e14, e15, e16, hi⟩ IH
 refine wpT_inLoop ?_
 refine wpT_seq ?_
 refine wpT_region (by kernel_rfl) (fun K hK => ?_)
 simp only [↓SP, SZ, ↓reduceIte, reduceCtorEq, nE, nA, nL, nT, ct_okc, Hist.av, e15, e16]
 refine hK _ _ ?_
 clear hK K
 refine wpT_seq ?_
 refine wpT_if (by rfl) (fun hc17 => ?_) (fun hc17 => ?_)
 ·
  have p17 := hc17
  try simp only [PB] at p17
  have hlt : i < h.ws.length := by omega
  have hg := at_map (f := Wr.av) hlt
  have hdl := hs.2.2.2 _ (List.getElem_mem hlt)
  have q1 : i + 1 ≤ maxLen := by simp only [maxLen]; omega
  have q2 : (i + 1) * 40 ≤ 140737488355328 := by omega
  have q4 : (h.ws.take (i + 1)).map Wr.av = (h.ws.take i).map Wr.av ++ [(h.ws[i]).av] := by rw [List.take_add_one, List.getElem?_eq_getElem hlt, List.map_append]; rfl
  refine wpT_skip ?_
  refine wpT_seq ?_
  refine wpT_block ?_
  refine wpT_seq ?_
  refine wpT_region (by kernel_rfl) (fun K hK => ?_)
  simp only [↓SP, SZ, ↓reduceIte, reduceCtorEq, nE, nA, nL, nT, ct_okc, Hist.av, e14, e16, hg, Wr.av, hc17]
  refine hK _ _ ?_
  clear hK K
  refine wpT_seq ?_
  refine wpT_region (by kernel_rfl) (fun K hK => ?_)
  simp only [↓SP, SZ, ↓reduceIte, reduceCtorEq, nE, nA, nL, nT, ct_okc, Hist.av, Wr.av, hc17]
  refine Nu.call (cloneS (h.ws[i]).data (by omega)) ?_
  simp only [↓SP, SZ, ↓reduceIte, reduceCtorEq, nE, nA, nL, nT, ct_okc, Hist.av, Wr.av, hc17]
  refine hK _ _ ?_
  clear hK K
  refine wpT_thaw (m + 12) (m + 13) (E := 34) (s := 3) (cs := [I (h.ws[i]).vol, I (h.ws[i]).start, .sl (m + 13) (h.ws[i]).data.length 0 (h.ws[i]).data.length]) (cs' := [I (h.ws[i]).vol, I (h.ws[i]).start, .lst ((h.ws[i]).data.map Sec.av)]) (by simp only [↓SP, SZ, ↓reduceIte, reduceCtorEq, nE, nA, nL, nT, ct_okc]) (by omega) (LendL.cons (.refl _) (LendL.cons (.refl _) (LendL.cons (Lend.sl0 (E := 44) (s := 8) (by simp only [↓SP, SZ, ↓reduceIte, reduceCtorEq, nE, nA, nL, nT, ct_okc]) (by simp) (secs_okc _)) LendL.nil))) ?_
  refine wpT_region (by kernel_rfl) (fun K hK => ?_)
  simp only [↓SP, SZ, ↓reduceIte, reduceCtorEq, nE, nA, nL, nT, ct_okc, Hist.av, e3, q1, q2, List.length_take, Nat.min_eq_left hi, hc17]
  refine hK _ _ ?_
  clear hK K
  refine wpT_inBlock ?_
  refine wpT_region (by kernel_rfl) (fun K hK => ?_)
  simp only [↓SP, SZ, ↓reduceIte, reduceCtorEq, nE, nA, nL, nT, ct_okc, Hist.av, e16, wrap64 (x := (i : Int) + 1) (by omega) (by omega), hc17]
  refine hK _ _ ?_
  clear hK K
  refine wpT_keep5 (i := 1) (j := 4) (k := 7) (l := 9) (m := 11) (o := .arr 26 3 [.agg [.nil0, .nil0, .nil0]]) (q := .arr 3 1 (h.sizes.map I)) (r := .arr 93 2 (h.evs.map Evn.av)) (s := .arr 26 3 [.agg [.sl 4 h.sizes.length 0 h.sizes.length, .sl 11 (i + 1) 0 (i + 1), .sl 7 h.evs.length 0 h.evs.length]]) (u := .arr 34 3 ((h.ws.take (i + 1)).map Wr.av)) (by simp only [↓SP, SZ, ↓reduceIte, reduceCtorEq, nE, nA, nL, nT, ct_okc]) (by simp only [↓SP, SZ, ↓reduceIte, reduceCtorEq, nE, nA, nL, nT, ct_okc]) (by simp only [↓SP, SZ, ↓reduceIte, reduceCtorEq, nE, nA, nL, nT, ct_okc]) (by simp only [↓SP, SZ, ↓reduceIte, reduceCtorEq, nE, nA, nL, nT, ct_okc]) (by simp only [↓SP, SZ, ↓reduceIte, reduceCtorEq, nE, nA, nL, nT, ct_okc, q4]; rfl) ?_
  refine IH (i + 1) _ _ (by omega) ⟨⟨_, rfl⟩, by simp only [↓SP, SZ, ↓reduceIte, reduceCtorEq, nE, nA, nL, nT, ct_okc, e2], by simp only [↓SP, SZ, ↓reduceIte, reduceCtorEq, nE, nA, nL, nT, ct_okc, e3], by simp only [↓SP, SZ, ↓reduceIte, reduceCtorEq, nE, nA, nL, nT, ct_okc, e14], by simp only [↓SP, SZ, ↓reduceIte, reduceCtorEq, nE, nA, nL, nT, ct_okc, e15], by simp only [↓SP, SZ, ↓reduceIte, reduceCtorEq, nE, nA, nL, nT, ct_okc, Int.natCast_add, Int.cast_ofNat_Int], by omega⟩
 ·
  have p17 := hc17
  try simp only [PB] at p17
  have hi2 : i = h.ws.length := by omega
  subst hi2
  refine wpT_exit rfl ?_
  refine wpT_seq ?_
  refine wpT_region (by kernel_rfl) (fun K hK => ?_)
  simp only [↓SP, SZ, ↓reduceIte, reduceCtorEq, nE, nA, nL, nT, ct_okc, Hist.av, e2, e3, hc17]
  refine hK _ _ ?_
  clear hK K
  refine wpT_ret ⟨.inr rfl, ?_⟩
  show optK (resA _ _ _ [.cell 2 26]) _
  simp only [SRO, ↓SP, SZ, ↓reduceIte, reduceCtorEq, nE, nA, nL, nT, ct_okc, Hist.av, hc17]
  simp only [↓SP, SZ, ↓reduceIte, reduceCtorEq, nE, nA, nL, nT, ct_okc, SR, Option.map_some, Option.bind_some, e2]
  exact ⟨4, 11, 7, rfl, ⟨by simp only [↓SP, SZ, ↓reduceIte, reduceCtorEq, nE, nA, nL, nT, ct_okc], by simp only [↓SP, SZ, ↓reduceIte, reduceCtorEq, nE, nA, nL, nT, ct_okc, List.take_length], by simp only [↓SP, SZ, ↓reduceIte, reduceCtorEq, nE, nA, nL, nT, ct_okc]⟩, by omega, by omega, by omega⟩
theorem hcp_frame {h0 : Hist} {fid : FuncId} (hp : CallV Try.prog (.fn (.func fid) [] []) [h0.av] (Hp.empty 0) fun v H => ∃ i k j, v = hcp h0 i k j ∧ (H.get i = some (.arr 3 1 (h0.sizes.map I)) ∧ H.get k = some (.arr 34 3 (h0.ws.map Wr.av)) ∧ H.get j = some (.arr 93 2 (h0.evs.map Evn.av))) ∧ i ≠ k ∧ i ≠ j ∧ k ≠ j) {h : Hp} {Kv : AV → Hp → Prop}
    (hk : Kv (hcp h0 h.nx (h.nx + 1) (h.nx + 2)) (((h.add (.arr 3 1 (h0.sizes.map I))).add (.arr 34 3 (h0.ws.map Wr.av))).add (.arr 93 2 (h0.evs.map Evn.av)))) :
    CallV Try.prog (.fn (.func fid) [] []) [h0.av] h Kv := by
  intro X w cf cargs H hfv hargs
  let l : List (Nat × Ob) := [(h.nx, .arr 3 1 (h0.sizes.map I)), (h.nx + 1, .arr 34 3 (h0.ws.map Wr.av)), (h.nx + 2, .arr 93 2 (h0.evs.map Evn.av))]
  have hpl : h.plus l (h.nx + 3) = ((h.add (.arr 3 1 (h0.sizes.map I))).add (.arr 34 3 (h0.ws.map Wr.av))).add (.arr 93 2 (h0.evs.map Evn.av)) := by
    unfold Hp.plus Hp.add
    congr 1
    funext j
    simp only [l, List.find?_cons, List.find?_nil]
    have b1 : (h.nx == h.nx + 1) = false := by simp
    have b2 : (h.nx == h.nx + 2) = false := by simp
    have b3 : (h.nx + 1 == h.nx + 2) = false := by simp
    by_cases e1 : j = h.nx
    · subst e1
      have c1 : ¬ h.nx = h.nx + 1 + 1 := by omega
      have c2 : ¬ h.nx = h.nx + 1 := by omega
      simp only [beq_self_eq_true, if_neg c1, if_neg c2, if_true]
    · by_cases e2 : j = h.nx + 1
      · subst e2
        have c1 : ¬ h.nx + 1 = h.nx + 1 + 1 := by omega
        simp only [b1, beq_self_eq_true, if_neg c1, if_true]
      · by_cases e3 : j = h.nx + 1 + 1
        · subst e3
          simp only [b2, b3, beq_self_eq_true, if_true]
        · have b1 : (h.nx == j) = false := by simpa using fun e => e1 e.symm
          have b2 : (h.nx + 1 == j) = false := by simpa using fun e => e2 e.symm
          have b3 : (h.nx + 2 == j) = false := by simpa using fun e => e3 e.symm
          simp only [b1, b2, b3, e1, e2, e3, if_false]
  refine (CallV.rename (r := hcp h0 h.nx (h.nx + 1) (h.nx + 2)) hp l ?_ ?_ (by simp only [IDF, and_tt]) (by simp only [IDF, hist_idf, and_tt]) (nx := h.nx + 3) (by omega) (by simp [l]) H (fun p hp hu => ?_) hfv hargs).mono ?_
  · rintro v g ⟨i, k, j, rfl, ⟨g1, g2, g3⟩, n1, n2, n3⟩
    refine ⟨fun id => if id = h.nx then i else if id = h.nx + 1 then k else j, ?_, ?_, ?_⟩
    · simp [l, g1, g2, g3]
    · have mk : ∀ (id t o n q : Nat), (∃ p ∈ l, p.1 = id) → (if id = h.nx then i else if id = h.nx + 1 then k else j) = q → Ren (fun id => ∃ p ∈ l, p.1 = id) (fun id => if id = h.nx then i else if id = h.nx + 1 then k else j) (.sl q t o n) (.sl id t o n) := by
        rintro id t o n q hm rfl
        exact .sl id t o n hm
      have hs : ∀ {a b : AV} {xs ys : List AV}, Ren (fun id => ∃ p ∈ l, p.1 = id) (fun id => if id = h.nx then i else if id = h.nx + 1 then k else j) a b → (∀ (m : Nat) x y, xs[m]? = some x → ys[m]? = some y → Ren (fun id => ∃ p ∈ l, p.1 = id) (fun id => if id = h.nx then i else if id = h.nx + 1 then k else j) x y) →
          ∀ (m : Nat) x y, (a :: xs)[m]? = some x → (b :: ys)[m]? = some y → Ren (fun id => ∃ p ∈ l, p.1 = id) (fun id => if id = h.nx then i else if id = h.nx + 1 then k else j) x y := by
        intro a b xs ys q1 q2 m x y hx hy
        cases m with
        | zero => simp at hx hy; subst hx; subst hy; exact q1
        | succ m => exact q2 m x y (by simpa using hx) (by simpa using hy)
      exact .agg _ _ rfl (hs (mk _ _ _ _ _ (by simp [l]) (by simp)) (hs (mk _ _ _ _ _ (by simp [l]) (by simp)) (hs (mk _ _ _ _ _ (by simp [l]) (by simp)) (fun m x y hx => by simp at hx))))
    · simp [l]
      refine ⟨⟨fun e => (n1 e).elim, fun e => (n2 e).elim⟩, ⟨fun e => (n1 e.symm).elim, fun e => (n3 e).elim⟩, fun e => (n2 e.symm).elim, fun e => (n3 e.symm).elim⟩
  · intro p hp
    simp only [l, List.mem_cons, List.not_mem_nil, or_false] at hp
    rcases hp with rfl | rfl | rfl
    · simp only [ObIdf, IDF, implies_true]
    · simp only [ObIdf, IDF, wr_idf, implies_true]
    · simp only [ObIdf, IDF, evn_idf, implies_true]
  · have := H.lt _ hu
    simp only [l, List.mem_cons, List.not_mem_nil, or_false] at hp
    rcases hp with rfl | rfl | rfl <;> simp only at this <;> omega
  · rintro c w' ⟨X', q1, q2, q3, q4⟩
    rw [hpl] at q3
    exact ⟨X', _, _, hk, q1, q2, q3⟩
theorem hcopied_call {h0 : Hist} (hs : h0.sm) {h : Hp} {Kv : AV → Hp → Prop}
    (hk : Kv (hcp h0 h.nx (h.nx + 1) (h.nx + 2)) (((h.add (.arr 3 1 (h0.sizes.map I))).add (.arr 34 3 (h0.ws.map Wr.av))).add (.arr 93 2 (h0.evs.map Evn.av)))) :
    CallV Try.prog (.fn (.func 46) [] []) [h0.av] h Kv := hcp_frame (c46 h0 hs) hk
def hist0 : Hist := ⟨[], [], []⟩
def issueE (h : Hist) (w : Wr) : Int := if histE h ≠ 0 then histE h else if h.ws.length ≥ 4096 then 6 else fitsE h.sizes w
def issueR (h : Hist) (w : Wr) : Hist := if issueE h w ≠ 0 then hist0 else h.more w
def issueN (h : Hist) (w : Wr) : Int := if issueE h w ≠ 0 then 0 else h.ws.length
theorem hist0_lend {g : Nat → Option Ob} : Lend g (.agg [.nil0, .nil0, .nil0]) hist0.av := Lend.aggL (LendL.cons .nil0 (LendL.cons .nil0 (LendL.cons .nil0 LendL.nil)))
theorem c19 (h : Hist) (w : Wr) (hs : h.sm) (hw : w.data.length < 4000000) : Pu Try.prog (.fn (.func 19) [] []) [h.av, w.av] (.tup [(issueR h w).av, I (issueN h w), I (issueE h w)]) := by
 refine pu_func Try.func19 rfl (by kernel_rfl) (by show _ ≤ 65; simp only [LN]; decide) (by simp only [IDS, chkAV_idf]) (by simp only [IDS, chkAV_idf]) (by simp only [IDS, chkAV_idf]) ?_
 rw [Try.ntmps19]
 have hh := hs.ok
 have hwl := hs.2.1
 have hel := hs.2.2.1
 have k0 : (chkAV h).cells.length = 5 ∧ (chkAV h).okc = true ∧ (chkAV h).isAgg = true := by
   unfold chkAV
   split <;> exact ⟨rfl, rfl, rfl⟩
 obtain ⟨k1, k2, k3⟩ := k0
 have k6 : loadV Try.prog 22 h.av 0 = some (.lst (h.sizes.map I)) := by simp only [Hist.av, TY]; rfl
 have k7 : loadV Try.prog 23 h.av 1 = some (.lst (h.ws.map Wr.av)) := by simp only [Hist.av, TY]; rfl
 refine wpT_seq ?_
 refine wpT_region (by kernel_rfl) (fun K hK => ?_)
 simp only [↓SP, SZ, ↓reduceIte, reduceCtorEq, nE, nA, nL, nT, ct_okc, k1, k2, k3, k6, k7]
 refine hK _ _ ?_
 clear hK K
 refine wpT_seq ?_
 refine wpT_seq ?_
 refine wpT_region (by kernel_rfl) (fun K hK => ?_)
 simp only [↓SP, SZ, ↓reduceIte, reduceCtorEq, nE, nA, nL, nT, ct_okc, k1, k2, k3, k6, k7]
 refine Pu.call (c43 h hs) ?_
 simp only [↓SP, SZ, ↓reduceIte, reduceCtorEq, nE, nA, nL, nT, ct_okc, k1, k2, k3, k6, k7]
 refine hK _ _ ?_
 clear hK K
 refine wpT_seq ?_
 refine wpT_region (by kernel_rfl) (fun K hK => ?_)
 simp only [↓SP, SZ, ↓reduceIte, reduceCtorEq, nE, nA, nL, nT, ct_okc, k1, k2, k3, k6, k7]
 refine hK _ _ ?_
 clear hK K
 refine wpT_if (by rfl) (fun hc20 => ?_) (fun hc20 => ?_)
 ·
  have p20 := hc20
  try simp only [PB] at p20
  have hx : issueE h w = histE h := if_pos p20
  have hx1 : issueR h w = hist0 := if_pos (by omega)
  have hx2 : issueN h w = 0 := if_pos (by omega)
  refine wpT_seq ?_
  refine wpT_region (by kernel_rfl) (fun K hK => ?_)
  simp only [↓SP, SZ, ↓reduceIte, reduceCtorEq, nE, nA, nL, nT, ct_okc, k1, k2, k3, k6, k7, hc20]
  refine hK _ _ ?_
  clear hK K
  refine wpT_ret ⟨.inr rfl, ?_⟩
  show optK (resA _ _ _ [.cell 4 26, .tmp 5, .tmp 6]) _
  simp only [SRO, ↓SP, SZ, ↓reduceIte, reduceCtorEq, nE, nA, nL, nT, ct_okc, k1, k2, k3, k6, k7, hc20]
  rw [hx1, hx2, hx]
  exact Lend.tupL (LendL.cons hist0_lend (LendL.cons (.refl _) (LendL.cons (.refl _) LendL.nil)))
 ·
  have p20 := hc20
  try simp only [PB] at p20
  have e0 : histE h = 0 := by simpa using p20
  have h1 := (hist_ok e0).1
  refine wpT_skip ?_
  refine wpT_seq ?_
  refine wpT_seq ?_
  refine wpT_region (by kernel_rfl) (fun K hK => ?_)
  simp only [↓SP, SZ, ↓reduceIte, reduceCtorEq, nE, nA, nL, nT, ct_okc, k1, k2, k3, k6, k7, hc20]
  refine hK _ _ ?_
  clear hK K
  refine wpT_if (by rfl) (fun hc26 => ?_) (fun hc26 => ?_)
  ·
   have p26 := hc26
   try simp only [PB] at p26
   have hx : issueE h w = 6 := by rw [issueE, if_neg (by omega), if_pos (by omega)]
   have hx1 : issueR h w = hist0 := if_pos (by omega)
   have hx2 : issueN h w = 0 := if_pos (by omega)
   refine wpT_seq ?_
   refine wpT_region (by kernel_rfl) (fun K hK => ?_)
   simp only [↓SP, SZ, ↓reduceIte, reduceCtorEq, nE, nA, nL, nT, ct_okc, k1, k2, k3, k6, k7, hc20, hc26]
   refine hK _ _ ?_
   clear hK K
   refine wpT_ret ⟨.inr rfl, ?_⟩
   show optK (resA _ _ _ [.cell 4 26, .tmp 5, .tmp 6]) _
   simp only [SRO, ↓SP, SZ, ↓reduceIte, reduceCtorEq, nE, nA, nL, nT, ct_okc, k1, k2, k3, k6, k7, hc20, hc26]
   rw [hx1, hx2, hx]
   exact Lend.tupL (LendL.cons hist0_lend (LendL.cons (.refl _) (LendL.cons (.refl _) LendL.nil)))
  ·
   have p26 := hc26
   try simp only [PB] at p26
   have hx : issueE h w = fitsE h.sizes w := by rw [issueE, if_neg (by omega), if_neg (by omega)]
   have hn := new_lens h1
   refine wpT_skip ?_
   refine wpT_seq ?_
   refine wpT_region (by kernel_rfl) (fun K hK => ?_)
   simp only [↓SP, SZ, ↓reduceIte, reduceCtorEq, nE, nA, nL, nT, ct_okc, k1, k2, k3, k6, k7, hc20, hc26]
   refine Pu.call (c44 h.sizes hh.1) ?_
   simp only [↓SP, SZ, ↓reduceIte, reduceCtorEq, nE, nA, nL, nT, ct_okc, k1, k2, k3, k6, k7, hc20, hc26]
   refine hK _ _ ?_
   clear hK K
   refine wpT_seq ?_
   refine wpT_seq ?_
   refine wpT_region (by kernel_rfl) (fun K hK => ?_)
   simp only [↓SP, SZ, ↓reduceIte, reduceCtorEq, nE, nA, nL, nT, ct_okc, k1, k2, k3, k6, k7, hc20, hc26]
   refine Pu.call (c45 (newImg h.sizes) w (by omega) hn.2 (by omega)) ?_
   simp only [↓SP, SZ, ↓reduceIte, reduceCtorEq, nE, nA, nL, nT, ct_okc, k1, k2, k3, k6, k7, hc20, hc26]
   refine hK _ _ ?_
   clear hK K
   refine wpT_seq ?_
   refine wpT_region (by kernel_rfl) (fun K hK => ?_)
   simp only [↓SP, SZ, ↓reduceIte, reduceCtorEq, nE, nA, nL, nT, ct_okc, k1, k2, k3, k6, k7, fits_new h1, hc20, hc26]
   refine hK _ _ ?_
   clear hK K
   refine wpT_if (by rfl) (fun hc38 => ?_) (fun hc38 => ?_)
   ·
    have p38 := hc38
    try simp only [PB] at p38
    have hx1 : issueR h w = hist0 := if_pos (by omega)
    have hx2 : issueN h w = 0 := if_pos (by omega)
    refine wpT_seq ?_
    refine wpT_region (by kernel_rfl) (fun K hK => ?_)
    simp only [↓SP, SZ, ↓reduceIte, reduceCtorEq, nE, nA, nL, nT, ct_okc, k1, k2, k3, k6, k7, fits_new h1, hc20, hc26, hc38]
    refine hK _ _ ?_
    clear hK K
    refine wpT_ret ⟨.inr rfl, ?_⟩
    show optK (resA _ _ _ [.cell 4 26, .tmp 5, .tmp 6]) _
    simp only [SRO, ↓SP, SZ, ↓reduceIte, reduceCtorEq, nE, nA, nL, nT, ct_okc, k1, k2, k3, k6, k7, hc20, hc26, hc38]
    rw [hx1, hx2, hx]
    exact Lend.tupL (LendL.cons hist0_lend (LendL.cons (.refl _) (LendL.cons (.refl _) LendL.nil)))
   ·
    have p38 := hc38
    try simp only [PB] at p38
    have hx3 : issueE h w = 0 := by omega
    have hx1 : issueR h w = h.more w := if_neg (by omega)
    have hx2 : issueN h w = h.ws.length := if_neg (by omega)
    have q1 : h.ws.length + 1 ≤ maxLen := by simp only [maxLen]; omega
    have q2 : (h.ws.length + 1) * 40 ≤ 140737488355328 := by omega
    have q3 : h.evs.length + 1 ≤ maxLen := by simp only [maxLen]; omega
    have q4 : (h.evs.length + 1) * 16 ≤ 140737488355328 := by omega
    refine wpT_skip ?_
    refine wpT_seq ?_
    refine wpT_region (by kernel_rfl) (fun K hK => ?_)
    simp only [↓SP, SZ, ↓reduceIte, reduceCtorEq, nE, nA, nL, nT, ct_okc, k1, k2, k3, k6, k7, hc20, hc26, hc38]
    refine hK _ _ ?_
    clear hK K
    refine wpT_seq ?_
    refine wpT_region (by kernel_rfl) (fun K hK => ?_)
    simp only [↓SP, SZ, ↓reduceIte, reduceCtorEq, nE, nA, nL, nT, ct_okc, k1, k2, k3, k6, k7, hcp, hc20, hc26, hc38]
    refine hcopied_call hs ?_
    simp only [↓SP, SZ, ↓reduceIte, reduceCtorEq, nE, nA, nL, nT, ct_okc, k1, k2, k3, k6, k7, hcp, hc20, hc26, hc38]
    refine hK _ _ ?_
    clear hK K
    refine wpT_seq ?_
    refine wpT_region (by kernel_rfl) (fun K hK => ?_)
    simp only [↓SP, SZ, ↓reduceIte, reduceCtorEq, nE, nA, nL, nT, ct_okc, k1, k2, k3, k6, k7, Wr.av, hc20, hc26, hc38]
    refine Nu.call (cloneS w.data (by omega)) ?_
    simp only [↓SP, SZ, ↓reduceIte, reduceCtorEq, nE, nA, nL, nT, ct_okc, k1, k2, k3, k6, k7, Wr.av, hc20, hc26, hc38]
    refine hK _ _ ?_
    clear hK K
    refine wpT_thaw 1 8 (E := 34) (s := 3) (cs := [I w.vol, I w.start, .sl 8 w.data.length 0 w.data.length]) (cs' := [I w.vol, I w.start, .lst (w.data.map Sec.av)]) (by simp only [↓SP, SZ, ↓reduceIte, reduceCtorEq, nE, nA, nL, nT, ct_okc]) (by omega) (LendL.cons (.refl _) (LendL.cons (.refl _) (LendL.cons (Lend.sl0 (E := 44) (s := 8) (by simp only [↓SP, SZ, ↓reduceIte, reduceCtorEq, nE, nA, nL, nT, ct_okc]) (by simp) (secs_okc _)) LendL.nil))) ?_
    refine wpT_seq ?_
    refine wpT_region (by kernel_rfl) (fun K hK => ?_)
    simp only [↓SP, SZ, ↓reduceIte, reduceCtorEq, nE, nA, nL, nT, ct_okc, k1, k2, k3, k6, k7, q1, q2, hc20, hc26, hc38]
    refine hK _ _ ?_
    clear hK K
    refine wpT_seq ?_
    refine wpT_region (by kernel_rfl) (fun K hK => ?_)
    simp only [↓SP, SZ, ↓reduceIte, reduceCtorEq, nE, nA, nL, nT, ct_okc, k1, k2, k3, k6, k7, q3, q4, hc20, hc26, hc38]
    refine hK _ _ ?_
    clear hK K
    refine wpT_seq ?_
    refine wpT_region (by kernel_rfl) (fun K hK => ?_)
    simp only [↓SP, SZ, ↓reduceIte, reduceCtorEq, nE, nA, nL, nT, ct_okc, k1, k2, k3, k6, k7, hc20, hc26, hc38]
    refine hK _ _ ?_
    clear hK K
    refine wpT_ret ⟨.inr rfl, ?_⟩
    show optK (resA _ _ _ [.cell 4 26, .tmp 5, .tmp 6]) _
    simp only [SRO, ↓SP, SZ, ↓reduceIte, reduceCtorEq, nE, nA, nL, nT, ct_okc, k1, k2, k3, k6, k7, hc20, hc26, hc38]
    rw [hx1, hx2, hx3]
    have a1 : (h.more w).av = .agg [.lst (h.sizes.map I), .lst (h.ws.map Wr.av ++ [w.av]), .lst (h.evs.map Evn.av ++ [.agg [I 0, I h.ws.length]])] := by simp [Hist.more, Hist.av, Evn.av]
    rw [a1]
    refine Lend.tupL (LendL.cons (Lend.aggL (LendL.cons (Lend.sl0 (E := 3) (s := 1) (by simp only [↓SP, SZ, ↓reduceIte, reduceCtorEq, nE, nA, nL, nT, ct_okc]) (by simp) (int_okc _)) (LendL.cons (Lend.sl0 (E := 34) (s := 3) (by simp only [↓SP, SZ, ↓reduceIte, reduceCtorEq, nE, nA, nL, nT, ct_okc, Wr.av]) (by simp) ?_) (LendL.cons (Lend.sl0 (E := 93) (s := 2) (by simp only [↓SP, SZ, ↓reduceIte, reduceCtorEq, nE, nA, nL, nT, ct_okc]) (by simp) ?_) LendL.nil)))) (LendL.cons (.refl _) (LendL.cons (.refl _) LendL.nil)))
    · intro e he
      rcases List.mem_append.1 he with he | he
      · exact wrs_okc _ e he
      · simp only [List.mem_singleton] at he; subst he; rfl
    · intro e he
      rcases List.mem_append.1 he with he | he
      · obtain ⟨a, _, rfl⟩ := List.mem_map.1 he; rfl
      · simp only [List.mem_singleton] at he; subst he; rfl
end Go.Proofs.Ytfdfkmcplhloaaa
end

section
set_option linter.unusedSimpArgs false
set_option linter.unusedVariables false
namespace Go.Proofs.Ytfdfkmcplhloaaa
open Go.Proofs
open Nat renaming reduceEqDiff → nE, reduceAdd → nA, reduceLeDiff → nL, reduceLT → nT
set_option maxRecDepth 10000
def subB (a b : List Int) : Bool := b.all fun x => decide (x ∈ a)
/-- Whether a write contains what a conflict shows. -/
def shP (c : Ct) (x : Wr) : Bool := decide (contW x c.vol c.sec = some c.dat)
end Go.Proofs.Ytfdfkmcplhloaaa
end

section
set_option linter.unusedSimpArgs false
set_option linter.unusedVariables false
namespace Go.Proofs.Ytfdfkmcplhloaaa
open Go.Proofs
open Nat renaming reduceEqDiff → nE, reduceAdd → nA, reduceLeDiff → nL, reduceLT → nT
set_option maxRecDepth 10000
def fewH (h : Hist) : Bool := decide (h.sizes.length ≤ 9) && (decide (h.ws.length ≤ 40) && (decide (h.evs.length ≤ 90) && (h.sizes.all (fun n => decide (n ≤ 24)) && h.ws.all fun w => decide (w.data.length ≤ 30))))
def fewI (im : List (List Sec)) : Bool := decide (im.length ≤ 9) && im.all fun l => decide (l.length ≤ 24)
theorem c8 (h : Hist) (hs : h.ok) : Pu Try.prog (.fn (.func 8) [] []) [h.av] (B (fewH h)) := by
 refine pu_func Try.func8 rfl (by kernel_rfl) (by show _ ≤ 49; simp only [LN]; decide) (by simp only [IDS]) (by simp only [IDS]) (by simp only [IDS]) ?_
 rw [Try.ntmps8]
 obtain ⟨z1, z2, z3, z4⟩ := hs
 refine wpT_seq ?_
 refine wpT_region (by kernel_rfl) (fun K hK => ?_)
 simp only [↓SP, SZ, ↓reduceIte, reduceCtorEq, nE, nA, nL, nT, sec_neq, hist_cs]
 refine hK _ _ ?_
 clear hK K
 refine wpT_seq ?_
 refine wpT_seq ?_
 refine wpT_region (by kernel_rfl) (fun K hK => ?_)
 simp only [↓SP, SZ, ↓reduceIte, reduceCtorEq, nE, nA, nL, nT, sec_neq, hist_cs]
 refine guardO_split (fun hg9 => ?_) (fun hg9 => ?_)
 ·
  have p9 := hg9
  try simp only [PB] at p9
  have y1 : h.sizes.length ≤ 9 := by omega
  simp only [↓SP, SZ, ↓reduceIte, reduceCtorEq, nE, nA, nL, nT, sec_neq, hist_cs, hg9]
  refine guardO_split (fun hg15 => ?_) (fun hg15 => ?_)
  ·
   have p15 := hg15
   try simp only [PB] at p15
   have y2 : h.ws.length ≤ 40 := by omega
   simp only [↓SP, SZ, ↓reduceIte, reduceCtorEq, nE, nA, nL, nT, sec_neq, hist_cs, hg9, hg15]
   refine hK _ _ ?_
   clear hK K
   refine wpT_if (by rfl) (fun hc20 => ?_) (fun hc20 => ?_)
   ·
    have p20 := hc20
    try simp only [PB] at p20
    have hx : fewH h = false := by
      first
        | exact hx
        | (rw [fewH, decide_eq_true y1, decide_eq_true y2, decide_eq_false (p := h.evs.length ≤ 90) (by omega)]; rfl)
    refine wpT_seq ?_
    refine wpT_region (by kernel_rfl) (fun K hK => ?_)
    simp only [↓SP, SZ, ↓reduceIte, reduceCtorEq, nE, nA, nL, nT, sec_neq, hist_cs, hg9, hg15, hc20]
    refine hK _ _ ?_
    clear hK K
    refine wpT_ret ⟨.inr rfl, ?_⟩
    show optK (resA _ _ _ [.tmp 2]) _
    simp only [SRO, ↓SP, SZ, ↓reduceIte, reduceCtorEq, nE, nA, nL, nT, sec_neq, hist_cs, hg9, hg15, hc20]
    rw [hx]
    exact .refl _
   ·
    have p20 := hc20
    try simp only [PB] at p20
    have y3 : h.evs.length ≤ 90 := by omega
    have hx0 : fewH h = (h.sizes.all (fun n => decide (n ≤ 24)) && h.ws.all fun w => decide (w.data.length ≤ 30)) := by rw [fewH, decide_eq_true y1, decide_eq_true y2, decide_eq_true y3]; simp
    refine wpT_skip ?_
    refine wpT_seq ?_
    refine wpT_seq ?_
    refine wpT_region (by kernel_rfl) (fun K hK => ?_)
    simp only [↓SP, SZ, ↓reduceIte, reduceCtorEq, nE, nA, nL, nT, sec_neq, hist_cs, hg9, hg15, hc20]
    refine hK _ _ ?_
    clear hK K
    refine wpT_block ?_
    refine wpT_loop ?_
    refine wpT_keep1 (i := 0) (o := .arr 26 3 [h.av]) (by simp only [↓SP, SZ, ↓reduceIte, reduceCtorEq, nE, nA, nL, nT, sec_neq]) ?_
    refine wpT_ind (fun (i : Nat) tm' h' => (∃ m, h' = Hp.of [(0, .arr 26 3 [h.av])] (m + 1)) ∧ tm' 1 = .ptr 0 1 0 0 ∧ tm' 3 = I i ∧ i ≤ h.sizes.length ∧ ((h.sizes.drop i).all fun n => decide (n ≤ 24)) = h.sizes.all fun n => decide (n ≤ 24)) (fun i => h.sizes.length - i) ?_ 0 ⟨⟨0, rfl⟩, rfl, rfl, by omega, rfl⟩
    rintro i tm' _ ⟨⟨m, rfl⟩, e1, e3, hi, hA⟩ IH
    refine wpT_inLoop ?_
    refine wpT_seq ?_
    refine wpT_seq ?_
    refine wpT_region (by kernel_rfl) (fun K hK => ?_)
    simp only [↓SP, SZ, ↓reduceIte, reduceCtorEq, nE, nA, nL, nT, sec_neq, hist_cs, e1, e3]
    refine hK _ _ ?_
    clear hK K
    refine wpT_if (by rfl) (fun hc25 => ?_) (fun hc25 => ?_)
    ·
     have p25 := hc25
     try simp only [PB] at p25
     have hlt : i < h.sizes.length := by omega
     have hg := at_map (f := I) hlt
     rw [List.drop_eq_getElem_cons hlt, List.all_cons] at hA
     refine wpT_skip ?_
     refine wpT_seq ?_
     refine wpT_block ?_
     refine wpT_seq ?_
     refine wpT_region (by kernel_rfl) (fun K hK => ?_)
     simp only [↓SP, SZ, ↓reduceIte, reduceCtorEq, nE, nA, nL, nT, sec_neq, hist_cs, e1, e3, hg, hc25]
     refine hK _ _ ?_
     clear hK K
     refine wpT_if (by rfl) (fun hc33 => ?_) (fun hc33 => ?_)
     ·
      have p33 := hc33
      try simp only [PB] at p33
      rw [decide_eq_false (by omega)] at hA
      have hx : fewH h = false := by rw [hx0, ← hA]; rfl
      refine wpT_seq ?_
      refine wpT_region (by kernel_rfl) (fun K hK => ?_)
      simp only [↓SP, SZ, ↓reduceIte, reduceCtorEq, nE, nA, nL, nT, sec_neq, hist_cs, hc25, hc33]
      refine hK _ _ ?_
      clear hK K
      refine wpT_ret ⟨.inr rfl, ?_⟩
      show optK (resA _ _ _ [.tmp 2]) _
      simp only [SRO, ↓SP, SZ, ↓reduceIte, reduceCtorEq, nE, nA, nL, nT, sec_neq, hist_cs, hc25, hc33]
      rw [hx]
      exact .refl _
     ·
      have p33 := hc33
      try simp only [PB] at p33
      rw [decide_eq_true (by omega), Bool.true_and] at hA
      refine wpT_skip ?_
      refine wpT_inBlock ?_
      refine wpT_region (by kernel_rfl) (fun K hK => ?_)
      simp only [↓SP, SZ, ↓reduceIte, reduceCtorEq, nE, nA, nL, nT, sec_neq, hist_cs, e3, wrap64 (x := (i : Int) + 1) (by omega) (by omega), hc25, hc33]
      refine hK _ _ ?_
      clear hK K
      refine wpT_keep1 (i := 0) (o := .arr 26 3 [h.av]) (by simp only [↓SP, SZ, ↓reduceIte, reduceCtorEq, nE, nA, nL, nT, sec_neq]) ?_
      refine IH (i + 1) _ _ (by omega) ⟨⟨_, rfl⟩, by simp only [↓SP, SZ, ↓reduceIte, reduceCtorEq, nE, nA, nL, nT, sec_neq, e1], by simp only [↓SP, SZ, ↓reduceIte, reduceCtorEq, nE, nA, nL, nT, sec_neq, Int.natCast_add, Int.cast_ofNat_Int], by omega, hA⟩
    ·
     have p25 := hc25
     try simp only [PB] at p25
     rw [List.drop_eq_nil_of_le (by omega)] at hA
     refine wpT_exit rfl ?_
     refine wpT_seq ?_
     refine wpT_seq ?_
     refine wpT_region (by kernel_rfl) (fun K hK => ?_)
     simp only [↓SP, SZ, ↓reduceIte, reduceCtorEq, nE, nA, nL, nT, sec_neq, hist_cs, hc25]
     refine hK _ _ ?_
     clear hK K
     refine wpT_block ?_
     refine wpT_loop ?_
     clear IH
     refine wpT_ind (fun (i : Nat) tm' h' => (∃ m, h' = Hp.of [(0, .arr 26 3 [h.av])] (m + 1)) ∧ tm' 1 = .ptr 0 1 0 0 ∧ tm' 4 = I i ∧ i ≤ h.ws.length ∧ ((h.ws.drop i).all fun w => decide (w.data.length ≤ 30)) = h.ws.all fun w => decide (w.data.length ≤ 30)) (fun i => h.ws.length - i) ?_ 0 ⟨⟨_, rfl⟩, by simp only [↓SP, SZ, ↓reduceIte, reduceCtorEq, nE, nA, nL, nT, sec_neq, e1], rfl, by omega, rfl⟩
     clear e1 e3
     rintro j tm' _ ⟨⟨m, rfl⟩, e1, e4, hj, hB⟩ IH
     refine wpT_inLoop ?_
     refine wpT_seq ?_
     refine wpT_seq ?_
     refine wpT_region (by kernel_rfl) (fun K hK => ?_)
     simp only [↓SP, SZ, ↓reduceIte, reduceCtorEq, nE, nA, nL, nT, sec_neq, hist_cs, e1, e4]
     refine hK _ _ ?_
     clear hK K
     refine wpT_if (by rfl) (fun hc38 => ?_) (fun hc38 => ?_)
     ·
      have p38 := hc38
      try simp only [PB] at p38
      have hlt : j < h.ws.length := by omega
      have hg := at_map (f := Wr.av) hlt
      have hwl := z4 _ (List.getElem_mem hlt)
      unfold Wr.ok at hwl
      rw [List.drop_eq_getElem_cons hlt, List.all_cons] at hB
      refine wpT_skip ?_
      refine wpT_seq ?_
      refine wpT_block ?_
      refine wpT_seq ?_
      refine wpT_region (by kernel_rfl) (fun K hK => ?_)
      simp only [↓SP, SZ, ↓reduceIte, reduceCtorEq, nE, nA, nL, nT, sec_neq, hist_cs, e1, e4, hg, Wr.av, hc38]
      refine hK _ _ ?_
      clear hK K
      refine wpT_if (by rfl) (fun hc48 => ?_) (fun hc48 => ?_)
      ·
       have p48 := hc48
       try simp only [PB] at p48
       rw [decide_eq_false (by omega)] at hB
       have hx : fewH h = false := by rw [hx0, ← hB]; simp
       refine wpT_seq ?_
       refine wpT_region (by kernel_rfl) (fun K hK => ?_)
       simp only [↓SP, SZ, ↓reduceIte, reduceCtorEq, nE, nA, nL, nT, sec_neq, hist_cs, hc38, hc48]
       refine hK _ _ ?_
       clear hK K
       refine wpT_ret ⟨.inr rfl, ?_⟩
       show optK (resA _ _ _ [.tmp 2]) _
       simp only [SRO, ↓SP, SZ, ↓reduceIte, reduceCtorEq, nE, nA, nL, nT, sec_neq, hist_cs, hc38, hc48]
       rw [hx]
       exact .refl _
      ·
       have p48 := hc48
       try simp only [PB] at p48
       rw [decide_eq_true (by omega), Bool.true_and] at hB
       refine wpT_skip ?_
       refine wpT_inBlock ?_
       refine wpT_region (by kernel_rfl) (fun K hK => ?_)
       simp only [↓SP, SZ, ↓reduceIte, reduceCtorEq, nE, nA, nL, nT, sec_neq, hist_cs, e4, wrap64 (x := (j : Int) + 1) (by omega) (by omega), hc38, hc48]
       refine hK _ _ ?_
       clear hK K
       refine wpT_keep1 (i := 0) (o := .arr 26 3 [h.av]) (by simp only [↓SP, SZ, ↓reduceIte, reduceCtorEq, nE, nA, nL, nT, sec_neq]) ?_
       refine IH (j + 1) _ _ (by omega) ⟨⟨_, rfl⟩, by simp only [↓SP, SZ, ↓reduceIte, reduceCtorEq, nE, nA, nL, nT, sec_neq, e1], by simp only [↓SP, SZ, ↓reduceIte, reduceCtorEq, nE, nA, nL, nT, sec_neq, Int.natCast_add, Int.cast_ofNat_Int], by omega, hB⟩
     ·
      have p38 := hc38
      try simp only [PB] at p38
      rw [List.drop_eq_nil_of_le (by omega)] at hB
      have hx : fewH h = true := by rw [hx0, ← hA, ← hB]; rfl
      refine wpT_exit rfl ?_
      refine wpT_seq ?_
      refine wpT_region (by kernel_rfl) (fun K hK => ?_)
      simp only [↓SP, SZ, ↓reduceIte, reduceCtorEq, nE, nA, nL, nT, sec_neq, hist_cs, hc38]
      refine hK _ _ ?_
      clear hK K
      refine wpT_ret ⟨.inr rfl, ?_⟩
      show optK (resA _ _ _ [.tmp 2]) _
      simp only [SRO, ↓SP, SZ, ↓reduceIte, reduceCtorEq, nE, nA, nL, nT, sec_neq, hist_cs, hc38]
      rw [hx]
      exact .refl _
  ·
   simp only [Bool.not_true, Bool.not_false] at hg15
   have p15 := hg15
   try simp only [PB] at p15
   have hx : fewH h = false := by rw [fewH, decide_eq_true y1, decide_eq_false (p := h.ws.length ≤ 40) (by omega)]; rfl
   simp only [↓SP, SZ, ↓reduceIte, reduceCtorEq, nE, nA, nL, nT, sec_neq, hist_cs, hg9, hg15]
   refine hK _ _ ?_
   clear hK K
   refine wpT_ifT (by simp only [↓SP, SZ, ↓reduceIte, reduceCtorEq, nE, nA, nL, nT, sec_neq, hist_cs, hg9, hg15]) ?_
   have hx : fewH h = false := by
     first
       | exact hx
       | (rw [fewH, decide_eq_true y1, decide_eq_true y2, decide_eq_false (p := h.evs.length ≤ 90) (by omega)]; rfl)
   refine wpT_seq ?_
   refine wpT_region (by kernel_rfl) (fun K hK => ?_)
   simp only [↓SP, SZ, ↓reduceIte, reduceCtorEq, nE, nA, nL, nT, sec_neq, hist_cs, hg9, hg15]
   refine hK _ _ ?_
   clear hK K
   refine wpT_ret ⟨.inr rfl, ?_⟩
   show optK (resA _ _ _ [.tmp 2]) _
   simp only [SRO, ↓SP, SZ, ↓reduceIte, reduceCtorEq, nE, nA, nL, nT, sec_neq, hist_cs, hg9, hg15]
   rw [hx]
   exact .refl _
 ·
  simp only [Bool.not_true, Bool.not_false] at hg9
  have p9 := hg9
  try simp only [PB] at p9
  have hx : fewH h = false := by rw [fewH, decide_eq_false (by omega)]; rfl
  simp only [↓SP, SZ, ↓reduceIte, reduceCtorEq, nE, nA, nL, nT, sec_neq, hist_cs, hg9]
  refine hK _ _ ?_
  clear hK K
  refine wpT_ifT (by simp only [↓SP, SZ, ↓reduceIte, reduceCtorEq, nE, nA, nL, nT, sec_neq, hist_cs, hg9]) ?_
  have hx : fewH h = false := by
    first
      | exact hx
      | (rw [fewH, decide_eq_true y1, decide_eq_true y2, decide_eq_false (p := h.evs.length ≤ 90) (by omega)]; rfl)
  refine wpT_seq ?_
  refine wpT_region (by kernel_rfl) (fun K hK => ?_)
  simp only [↓SP, SZ, ↓reduceIte, reduceCtorEq, nE, nA, nL, nT, sec_neq, hist_cs, hg9]
  refine hK _ _ ?_
  clear hK K
  refine wpT_ret ⟨.inr rfl, ?_⟩
  show optK (resA _ _ _ [.tmp 2]) _
  simp only [SRO, ↓SP, SZ, ↓reduceIte, reduceCtorEq, nE, nA, nL, nT, sec_neq, hist_cs, hg9]
  rw [hx]
  exact .refl _
theorem few_sm {h : Hist} (e : fewH h = true) : h.sm := by
  simp only [fewH, Bool.and_eq_true, decide_eq_true_eq, List.all_eq_true] at e
  obtain ⟨h1, h2, h3, h4, h5⟩ := e
  exact ⟨by omega, by omega, by omega, fun w hw => by have := h5 w hw; omega⟩
theorem c36 (im : List (List Sec)) (hl : im.length < 4611686018427387904) (hm : ∀ l ∈ im, l.length < 4611686018427387904) : Pu Try.prog (.fn (.func 36) [] []) [imgAV im] (B (fewI im)) := by
 refine pu_func Try.func36 rfl (by kernel_rfl) (by show _ ≤ 19; simp only [LN]; decide) (by simp only [IDS]) (by simp only [IDS]) (by simp only [IDS]) ?_
 rw [Try.ntmps36]
 refine wpT_seq ?_
 refine wpT_region (by kernel_rfl) (fun K hK => ?_)
 simp only [↓SP, SZ, ↓reduceIte, reduceCtorEq, nE, nA, nL, nT, sec_neq, imgAV]
 refine hK _ _ ?_
 clear hK K
 refine wpT_seq ?_
 refine wpT_seq ?_
 refine wpT_region (by kernel_rfl) (fun K hK => ?_)
 simp only [↓SP, SZ, ↓reduceIte, reduceCtorEq, nE, nA, nL, nT, sec_neq, imgAV]
 refine hK _ _ ?_
 clear hK K
 refine wpT_if (by rfl) (fun hc6 => ?_) (fun hc6 => ?_)
 ·
  have p6 := hc6
  try simp only [PB] at p6
  have hx : fewI im = false := by rw [fewI, decide_eq_false (by omega)]; rfl
  refine wpT_seq ?_
  refine wpT_region (by kernel_rfl) (fun K hK => ?_)
  simp only [↓SP, SZ, ↓reduceIte, reduceCtorEq, nE, nA, nL, nT, sec_neq, imgAV, hc6]
  refine hK _ _ ?_
  clear hK K
  refine wpT_ret ⟨.inr rfl, ?_⟩
  show optK (resA _ _ _ [.tmp 2]) _
  simp only [SRO, ↓SP, SZ, ↓reduceIte, reduceCtorEq, nE, nA, nL, nT, sec_neq, imgAV, hc6]
  rw [hx]
  exact .refl _
 ·
  have p6 := hc6
  try simp only [PB] at p6
  have hx0 : fewI im = im.all fun l => decide (l.length ≤ 24) := by rw [fewI, decide_eq_true (by omega), Bool.true_and]
  refine wpT_skip ?_
  refine wpT_seq ?_
  refine wpT_seq ?_
  refine wpT_region (by kernel_rfl) (fun K hK => ?_)
  simp only [↓SP, SZ, ↓reduceIte, reduceCtorEq, nE, nA, nL, nT, sec_neq, imgAV, hc6]
  refine hK _ _ ?_
  clear hK K
  refine wpT_block ?_
  refine wpT_loop ?_
  refine wpT_keep0 ?_
  refine wpT_ind (fun (i : Nat) tm' h' => (∃ m, h' = Hp.of [] m) ∧ tm' 0 = imgAV im ∧ tm' 3 = I i ∧ i ≤ im.length ∧ ((im.drop i).all fun l => decide (l.length ≤ 24)) = im.all fun l => decide (l.length ≤ 24)) (fun i => im.length - i) ?_ 0 ⟨⟨_, rfl⟩, rfl, rfl, by omega, rfl⟩
  rintro i tm' _ ⟨⟨m, rfl⟩, e0, e3, hi, hA⟩ IH
  refine wpT_inLoop ?_
  refine wpT_seq ?_
  refine wpT_seq ?_
  refine wpT_region (by kernel_rfl) (fun K hK => ?_)
  simp only [↓SP, SZ, ↓reduceIte, reduceCtorEq, nE, nA, nL, nT, sec_neq, imgAV, e0, e3]
  refine hK _ _ ?_
  clear hK K
  refine wpT_if (by rfl) (fun hc10 => ?_) (fun hc10 => ?_)
  ·
   have p10 := hc10
   try simp only [PB] at p10
   have hlt : i < im.length := by omega
   have hg := at_map (f := fun l : List Sec => AV.lst (l.map Sec.av)) hlt
   have hml := hm _ (List.getElem_mem hlt)
   rw [List.drop_eq_getElem_cons hlt, List.all_cons] at hA
   refine wpT_skip ?_
   refine wpT_seq ?_
   refine wpT_block ?_
   refine wpT_seq ?_
   refine wpT_region (by kernel_rfl) (fun K hK => ?_)
   simp only [↓SP, SZ, ↓reduceIte, reduceCtorEq, nE, nA, nL, nT, sec_neq, imgAV, e0, e3, hg, hc10]
   refine hK _ _ ?_
   clear hK K
   refine wpT_if (by rfl) (fun hc18 => ?_) (fun hc18 => ?_)
   ·
    have p18 := hc18
    try simp only [PB] at p18
    rw [decide_eq_false (by omega)] at hA
    have hx : fewI im = false := by rw [hx0, ← hA]; rfl
    refine wpT_seq ?_
    refine wpT_region (by kernel_rfl) (fun K hK => ?_)
    simp only [↓SP, SZ, ↓reduceIte, reduceCtorEq, nE, nA, nL, nT, sec_neq, imgAV, hc10, hc18]
    refine hK _ _ ?_
    clear hK K
    refine wpT_ret ⟨.inr rfl, ?_⟩
    show optK (resA _ _ _ [.tmp 2]) _
    simp only [SRO, ↓SP, SZ, ↓reduceIte, reduceCtorEq, nE, nA, nL, nT, sec_neq, imgAV, hc10, hc18]
    rw [hx]
    exact .refl _
   ·
    have p18 := hc18
    try simp only [PB] at p18
    rw [decide_eq_true (by omega), Bool.true_and] at hA
    refine wpT_skip ?_
    refine wpT_inBlock ?_
    refine wpT_region (by kernel_rfl) (fun K hK => ?_)
    simp only [↓SP, SZ, ↓reduceIte, reduceCtorEq, nE, nA, nL, nT, sec_neq, imgAV, e3, wrap64 (x := (i : Int) + 1) (by omega) (by omega), hc10, hc18]
    refine hK _ _ ?_
    clear hK K
    refine wpT_keep0 ?_
    refine IH (i + 1) _ _ (by omega) ⟨⟨_, rfl⟩, by simp only [↓SP, SZ, ↓reduceIte, reduceCtorEq, nE, nA, nL, nT, sec_neq, e0], by simp only [↓SP, SZ, ↓reduceIte, reduceCtorEq, nE, nA, nL, nT, sec_neq, Int.natCast_add, Int.cast_ofNat_Int], by omega, hA⟩
  ·
   have p10 := hc10
   try simp only [PB] at p10
   rw [List.drop_eq_nil_of_le (by omega)] at hA
   have hx : fewI im = true := by rw [hx0, ← hA]; rfl
   refine wpT_exit rfl ?_
   refine wpT_seq ?_
   refine wpT_region (by kernel_rfl) (fun K hK => ?_)
   simp only [↓SP, SZ, ↓reduceIte, reduceCtorEq, nE, nA, nL, nT, sec_neq, imgAV, hc10]
   refine hK _ _ ?_
   clear hK K
   refine wpT_ret ⟨.inr rfl, ?_⟩
   show optK (resA _ _ _ [.tmp 2]) _
   simp only [SRO, ↓SP, SZ, ↓reduceIte, reduceCtorEq, nE, nA, nL, nT, sec_neq, imgAV, hc10]
   rw [hx]
   exact .refl _
end Go.Proofs.Ytfdfkmcplhloaaa
end

section
set_option linter.unusedSimpArgs false
set_option linter.unusedVariables false
namespace Go.Proofs.Ytfdfkmcplhloaaa
open Go.Proofs
open Nat renaming reduceEqDiff → nE, reduceAdd → nA, reduceLeDiff → nL, reduceLT → nT
set_option maxRecDepth 10000
/-- What is in a timeline stands among the events. -/
structure TL.has (t : TL) (es : List Evn) : Prop where
  iss : ∀ w : Int, (⟨0, w⟩ : Evn) ∈ es ↔ 0 ≤ w ∧ w < t.iss.length
  ack : ∀ w : Int, (⟨1, w⟩ : Evn) ∈ es ↔ 0 ≤ w ∧ w < t.iss.length ∧ 0 ≤ t.ack.getD w.toNat 0
end Go.Proofs.Ytfdfkmcplhloaaa
end

section
set_option linter.unusedSimpArgs false
set_option linter.unusedVariables false
namespace Go.Proofs.Ytfdfkmcplhloaaa
open Go.Proofs
open Nat renaming reduceEqDiff → nE, reduceAdd → nA, reduceLeDiff → nL, reduceLT → nT
set_option maxRecDepth 10000
def conS (w : Wr) (v k : Int) : Sec := (contW w v k).getD sec0
def conO (w : Wr) (v k : Int) : Bool := (contW w v k).isSome
/-- The contents before place k of write i. -/
def preM (ws : List Wr) (i k : Nat) : List (Ct × Int) := ctsH 0 (ws.take i) ++ (ctsW (wrAt ws i).vol (wrAt ws i).start ((wrAt ws i).data.take k)).map fun c => (c, (i : Int))
def sufM (ws : List Wr) (i k : Nat) : List (Ct × Int) := (ctsW (wrAt ws i).vol ((wrAt ws i).start + k) ((wrAt ws i).data.drop k)).map (fun c => (c, (i : Int))) ++ ctsH (i + 1) (ws.drop (i + 1))
end Go.Proofs.Ytfdfkmcplhloaaa
end

section
set_option linter.unusedSimpArgs false
set_option linter.unusedVariables false
namespace Go.Proofs.Ytfdfkmcplhloaaa
open Go.Proofs
open Nat renaming reduceEqDiff → nE, reduceAdd → nA, reduceLeDiff → nL, reduceLT → nT
set_option maxRecDepth 10000
def authN (h : Hist) (c : Ct) : Int := (assoc c (ctsH 0 h.ws)).getD (-1)
end Go.Proofs.Ytfdfkmcplhloaaa
end

section
set_option linter.unusedSimpArgs false
set_option linter.unusedVariables false
namespace Go.Proofs.Ytfdfkmcplhloaaa
open Go.Proofs
open Nat renaming reduceEqDiff → nE, reduceAdd → nA, reduceLeDiff → nL, reduceLT → nT
set_option maxRecDepth 10000
def mpL (n : Nat) (f : Nat → Bool) (b : Nat) : List Bool := (List.range n).map fun j => decide (j < b) && f j
def flL (c : Int) (k L : Nat) : List Int := List.replicate k c ++ List.replicate (L - k) 0
def rowR (h : Hist) (a : Nat) : List Bool := (List.range h.ws.length).map fun b => befT (histRun h).2 a b
def tabR (h : Hist) : List (List Bool) := (List.range h.ws.length).map (rowR h)
def tabAV (t : List (List Bool)) : AV := .lst (t.map fun r => .lst (r.map B))
end Go.Proofs.Ytfdfkmcplhloaaa
end
