/- Walks: Find, Newest, Conflict.
  Walks: Newest.
  Walks: a copy of a history; a history with one more write.
  Walks: searches in lists.
  Walks: the reference's check of histories; small histories and images.
  Walks: the reference's check of histories.
  Walks: the reference's contents of writes; whether a history is distinct.
  Walks: the reference's sizes, authors, sets.
  Walks: the reference's table of the order of writes. -/
import Derived.Test.YtfdfkmcplhloaaaR3
section
set_option linter.unusedSimpArgs false
set_option linter.unusedVariables false
namespace Go.Proofs.Ytfdfkmcplhloaaa
open Go.Proofs
open Nat renaming reduceEqDiff → nE, reduceAdd → nA, reduceLeDiff → nL, reduceLT → nT
set_option maxRecDepth 10000
def alP (h : Hist) (im : List (List Sec)) (n : Int) (c : Ct) : Bool := match assoc ⟨c.vol, c.sec, imAt im c.vol c.sec⟩ (ctsH 0 h.ws) with
  | some a => decide (n ≤ a)
  | none => false
theorem c101 (h : Hist) (im : List (List Sec)) (n : Int) (v k : Nat) (d : Sec) (hv : v < im.length) (hk : k < im[v].length) : CallV Try.prog (.fn (.func 101) [] [.ptr 0 1 0 0, .ptr 1 1 0 0]) [(Ct.mk v k d).av] (Hp.of [(0, .arr 72 1 [judgeAV h im]), (1, .arr 3 1 [I n])] 2) fun r h' =>
    r = B (alP h im n ⟨v, k, d⟩) ∧ h'.get 0 = some (.arr 72 1 [judgeAV h im]) ∧ h'.get 1 = some (.arr 3 1 [I n]) := by
 refine callV_func Try.func101 rfl (by kernel_rfl) (by show _ ≤ 40; simp only [LN]; decide) ?_
 rw [Try.ntmps101]
 have hg := at_map (f := fun l : List Sec => AV.lst (l.map Sec.av)) hv
 have hg2 := at_map (f := Sec.av) hk
 have hlk := lookM (ctsH 0 h.ws) ⟨v, k, im[v][k]⟩
 have hat : imAt im (v : Int) (k : Int) = im[v][k] := by simp [imAt, hv, hk]
 have hal : alP h im n ⟨v, k, d⟩ = match assoc ⟨(v : Int), (k : Int), im[v][k]⟩ (ctsH 0 h.ws) with
   | some a => decide (n ≤ a)
   | none => false := by rw [alP, hat]
 simp only [Ct.av] at hlk
 refine wpT_seq ?_
 refine wpT_region (by kernel_rfl) (fun K hK => ?_)
 simp only [↓SP, SZ, ↓reduceIte, reduceCtorEq, nE, nA, nL, nT, ct_okc, ct_isAgg, ct_cells, Ct.av]
 refine hK _ _ ?_
 clear hK K
 refine wpT_seq ?_
 refine wpT_drawn [(0, 14), (1, 14), (2, 14), (3, 14), (4, 14), (5, 14), (6, 14), (7, 14), (8, 14), (9, 14), (10, 14), (11, 14), (12, 14), (13, 14)] mixed (by kernel_rfl) (m := 16) rfl (fun K hK => ?_)
 simp only [↓SP, SZ, ↓reduceIte, reduceCtorEq, nE, nA, nL, nT, ct_okc, ct_isAgg, ct_cells, judgeAV, imgAV, hg, hg2]
 refine hK _ _ ?_
 clear hK K
 refine wpT_seq ?_
 refine wpT_drawn [] mixed (by kernel_rfl) (m := 14) rfl (fun K hK => ?_)
 simp only [↓SP, SZ, ↓reduceIte, reduceCtorEq, nE, nA, nL, nT, ct_okc, ct_isAgg, ct_cells, judgeAV, imgAV, writersAV, Sec.av, lk_cmap mp65, hlk]
 refine hK _ _ ?_
 clear hK K
 refine wpT_seq ?_
 refine wpT_region (by kernel_rfl) (fun K hK => ?_)
 simp only [↓SP, SZ, ↓reduceIte, reduceCtorEq, nE, nA, nL, nT, ct_okc, ct_isAgg, ct_cells]
 refine guardO_split (fun hg35 => ?_) (fun hg35 => ?_)
 ·
  have p35 := hg35
  try simp only [PB] at p35
  simp only [↓SP, SZ, ↓reduceIte, reduceCtorEq, nE, nA, nL, nT, ct_okc, ct_isAgg, ct_cells, hg35]
  refine hK _ _ ?_
  clear hK K
  refine wpT_ret ⟨.inr rfl, ?_⟩
  show optK (resA _ _ _ [.tmp 4]) _
  simp only [SRO, ↓SP, SZ, ↓reduceIte, reduceCtorEq, nE, nA, nL, nT, ct_okc, ct_isAgg, ct_cells, hg35]
  rw [hal]
  cases hx : assoc (⟨(v : Int), (k : Int), im[v][k]⟩ : Ct) (ctsH 0 h.ws) with
  | none => rw [hx] at p35; simp at p35; try simp only [↓SP, SZ, ↓reduceIte, reduceCtorEq, nE, nA, nL, nT, ct_okc, ct_isAgg, ct_cells, judgeAV, imgAV, writersAV]
  | some a => rw [hx] at p35; simp at p35; try simp only [↓SP, SZ, ↓reduceIte, reduceCtorEq, nE, nA, nL, nT, ct_okc, ct_isAgg, ct_cells, judgeAV, imgAV, writersAV, Option.getD_some]
 ·
  simp only [Bool.not_true, Bool.not_false] at hg35
  have p35 := hg35
  try simp only [PB] at p35
  simp only [↓SP, SZ, ↓reduceIte, reduceCtorEq, nE, nA, nL, nT, ct_okc, ct_isAgg, ct_cells, hg35]
  refine hK _ _ ?_
  clear hK K
  refine wpT_ret ⟨.inr rfl, ?_⟩
  show optK (resA _ _ _ [.tmp 4]) _
  simp only [SRO, ↓SP, SZ, ↓reduceIte, reduceCtorEq, nE, nA, nL, nT, ct_okc, ct_isAgg, ct_cells, hg35]
  rw [hal]
  cases hx : assoc (⟨(v : Int), (k : Int), im[v][k]⟩ : Ct) (ctsH 0 h.ws) with
  | none => rw [hx] at p35; simp at p35; try simp only [↓SP, SZ, ↓reduceIte, reduceCtorEq, nE, nA, nL, nT, ct_okc, ct_isAgg, ct_cells, judgeAV, imgAV, writersAV]
  | some a => rw [hx] at p35; simp at p35; try simp only [↓SP, SZ, ↓reduceIte, reduceCtorEq, nE, nA, nL, nT, ct_okc, ct_isAgg, ct_cells, judgeAV, imgAV, writersAV, Option.getD_some]
theorem al_call {h : Hist} {im : List (List Sec)} {n : Int} {v k : Nat} {d : Sec} (hv : v < im.length) (hk : k < im[v].length) {H : Hp} (h0 : H.get 0 = some (.arr 72 1 [judgeAV h im])) (h1 : H.get 1 = some (.arr 3 1 [I n])) {K : AV → Hp → Prop}
    (hK : ∀ H' : Hp, H'.nx = H.nx → (∀ j, H'.get j = H.get j) → K (B (alP h im n ⟨v, k, d⟩)) H') : CallV Try.prog (.fn (.func 101) [] [.ptr 0 1 0 0, .ptr 1 1 0 0]) [(Ct.mk v k d).av] H K := by
  let lo : List Loc := [⟨0, 0, .arr 72 1 [judgeAV h im], .arr 72 1 [judgeAV h im]⟩, ⟨1, 1, .arr 3 1 [I n], .arr 3 1 [I n]⟩]
  have hrn : ∀ x ∈ lo, RnO (Loc.has lo) (Loc.at lo) x.o x.o' := by
    intro y hy
    simp only [lo, List.mem_cons, List.not_mem_nil, or_false] at hy
    rcases hy with rfl | rfl
    · exact rn_judge _ _ _ _
    · exact .arr _ _ _ _ (RnL.idf (by simp only [IDF, and_tt]))
  refine CallV.local lo 2 (c101 h im n v k d hv hk) (by rfl) (by simp [lo]) (by simpa [lo] using ⟨h0, h1⟩) hrn ?_ ?_ ?_
  · exact Rn.fnL RnL.nil (RnL.cons (.ptr 0 1 0 0 (by simp [lo, Loc.has])) (RnL.cons (.ptr 1 1 0 0 (by simp [lo, Loc.has])) RnL.nil))
  · exact RnL.idf (by simp only [ct_idf, all_cons, all_nil, and_tt])
  · rintro v0 h2 ⟨rfl, a0, a1⟩
    refine ⟨_, lo, rfl, rfl, fun x hx => ⟨?_, hrn x hx⟩, .idf _ (.bool _), hK _ rfl fun j => ?_⟩
    · simp only [lo, List.mem_cons, List.not_mem_nil, or_false] at hx
      rcases hx with rfl | rfl
      · exact a0
      · exact a1
    · by_cases e0 : j = 0
      · subst e0; exact h0.symm
      · by_cases e1 : j = 1
        · subst e1; exact h1.symm
        · simp only [lo, List.map_cons, List.map_nil, upd_cons, upd_nil, if_neg e0, if_neg e1]
def alI (h : Hist) (im : List (List Sec)) (n : Int) (cs : List Ct) (H : Hp) : Prop := 2 ≤ H.nx ∧ H.get 0 = some (.arr 72 1 [judgeAV h im]) ∧ H.get 1 = some (.arr 3 1 [I n]) ∧ (wrAt h.ws n).cts.all (alP h im n) = cs.all (alP h im n)
theorem ct_in {h : Hist} {im : List (List Sec)} (eh : histE h = 0) (hz : sizesOf im = h.sizes) {w : Wr} (hw : w ∈ h.ws) {c : Ct} (hc : c ∈ w.cts) : ∃ (v k : Nat) (hv : v < im.length), k < im[v].length ∧ c = ⟨v, k, c.dat⟩ := by
  have hf := fitsAll_mem (hist_ok eh).2.2.1 _ hw
  obtain ⟨f1, f2, f3, f4, f5⟩ := fitsE_ok hf
  have hm := mem_cts.1 hc
  obtain ⟨g1, g2⟩ := contW_ge hm
  rw [contW, if_pos ⟨g1, g2⟩] at hm
  have hlt := (List.getElem?_eq_some_iff.1 hm).1
  have hl : (sizesOf im).length = im.length := by simp [sizesOf]
  have hvl : c.vol.toNat < im.length := by rw [← hl, hz]; omega
  have hk2 : (h.sizes).getD w.vol.toNat 0 = (im[c.vol.toNat].length : Int) := by
    rw [← hz, g1]
    simp [sizesOf, List.getD_eq_getElem?_getD, hvl]
  refine ⟨c.vol.toNat, c.sec.toNat, hvl, by omega, ?_⟩
  cases c
  simp only [Ct.mk.injEq, and_true]
  simp only at g1 g2
  omega
theorem c57 (h : Hist) (im : List (List Sec)) (hs : h.sm) (e : judgeE h im = 0) (n : Nat) (hn : n < h.ws.length) : Pu Try.prog (.fn (.func 57) [] []) [judgeAV h im, I n] (B (allowedB h im n)) := by
 refine pu_func Try.func57 rfl (by kernel_rfl) (by show _ ≤ 15; simp only [LN]; decide) (by simp only [IDS, chkAV_idf, ct_idf, judge_idf, judgeR_idf]) (by simp only [IDS, chkAV_idf, ct_idf, judge_idf, judgeR_idf]) (by simp only [IDS, chkAV_idf, ct_idf, judge_idf, judgeR_idf]) ?_
 rw [Try.ntmps57]
 obtain ⟨eh, hz, hd⟩ := judge_ok e
 have hg := at_map (f := Wr.av) hn
 have hm := List.getElem_mem hn
 have hwn : wrAt h.ws (n : Int) = h.ws[n] := wrAt_eq (List.getElem?_eq_getElem hn)
 obtain ⟨f1, f2, f3, f4, f5⟩ := fitsE_ok (fitsAll_mem (hist_ok eh).2.2.1 _ hm)
 have hvl : (h.ws[n]).vol.toNat < h.sizes.length := by omega
 have f6 := sizesE_le (hist_ok eh).1 _ (List.getElem_mem hvl)
 have f7 : h.sizes.getD (h.ws[n]).vol.toNat 0 = h.sizes[(h.ws[n]).vol.toNat] := by simp [hvl]
 have jc1 : (judgeAV h im).cells = [judgeAV h im] := rfl
 have jc2 : (judgeAV h im).okc = true := rfl
 have jc3 : (judgeAV h im).isAgg = false := rfl
 have hall : allowedB h im n = (wrAt h.ws n).cts.all (alP h im n) := rfl
 refine wpT_seq ?_
 refine wpT_region (by kernel_rfl) (fun K hK => ?_)
 simp only [↓SP, SZ, ↓reduceIte, reduceCtorEq, nE, nA, nL, nT, ct_okc, ct_isAgg, ct_cells, jc1, jc2, jc3]
 refine hK _ _ ?_
 clear hK K
 refine wpT_seq ?_
 refine wpT_drawB 9 [] mixed (by kernel_rfl) (m := 11) rfl (fun K hK => ?_)
 simp only [↓SP, SZ, ↓reduceIte, reduceCtorEq, nE, nA, nL, nT, ct_okc, ct_isAgg, ct_cells, jc1, jc2, jc3, judgeAV, hg]
 refine CallV.mono (c65 h.ws[n] (hs.2.2.2 _ hm) f4 (by omega) (.fn (.func 101) [] [.ptr 0 1 0 0, .ptr 1 1 0 0]) (alI h im n) (fun _ => allowedB h im n = false) _ ⟨by simp only [↓SP, SZ, ↓reduceIte, reduceCtorEq, nE, nA, nL, nT, ct_okc, ct_isAgg, ct_cells], by simp only [↓SP, SZ, ↓reduceIte, reduceCtorEq, nE, nA, nL, nT, ct_okc, ct_isAgg, ct_cells]; rfl, by simp only [↓SP, SZ, ↓reduceIte, reduceCtorEq, nE, nA, nL, nT, ct_okc, ct_isAgg, ct_cells], by rw [hwn]⟩ ?_ ?_) ?_
 · rintro cs a b ⟨q0, q1, q2, q3⟩ hn hab
   exact ⟨by omega, by rw [hab _ (by omega)]; exact q1, by rw [hab _ (by omega)]; exact q2, q3⟩
 · rintro c cs h' ⟨q0, q1, q2, q3⟩ hmem
   obtain ⟨v, k, hv, hk, hc⟩ := ct_in eh hz hm hmem
   rw [hc]
   rw [hc] at q3
   refine al_call hv hk q1 q2 fun H' hnx hget => ⟨⟨_, rfl, ?_⟩, by omega, fun j _ _ => hget j⟩
   rw [List.all_cons] at q3
   cases hp : alP h im n ⟨v, k, c.dat⟩ with
   | true =>
     rw [hp, Bool.true_and] at q3
     exact .inl ⟨rfl, by omega, by rw [hget]; exact q1, by rw [hget]; exact q2, q3⟩
   | false =>
     rw [hp, Bool.false_and] at q3
     exact .inr ⟨rfl, hall.trans q3⟩
 rintro v h5 hv
 obtain ⟨bb, rfl, hb⟩ : ∃ bb, v = .bool bb ∧ bb = allowedB h im n := by
   rcases hv with ⟨rfl, _, _, _, hv⟩ | ⟨rfl, hv⟩
   · exact ⟨true, rfl, by rw [hall, hv]; rfl⟩
   · exact ⟨false, rfl, hv.symm⟩
 simp only [↓SP, SZ, ↓reduceIte, reduceCtorEq, nE, nA, nL, nT, ct_okc, ct_isAgg, ct_cells, jc1, jc2, jc3, judgeAV, hg]
 refine hK _ _ ?_
 clear hK K
 refine wpT_ret ⟨.inr rfl, ?_⟩
 show optK (resA _ _ _ [.tmp 4]) _
 simp only [SRO, ↓SP, SZ, ↓reduceIte, reduceCtorEq, nE, nA, nL, nT, ct_okc, ct_isAgg, ct_cells, jc1, jc2, jc3]
 rw [hb]
 exact .refl _
def findL (h : Hist) (im : List (List Sec)) : List Int := if judgeE h im ≠ 0 ∨ (confC h im).isSome = true then [] else leastC h im
def findB (h : Hist) (im : List (List Sec)) : Bool := decide (judgeE h im = 0) && !(confC h im).isSome
def newL (h : Hist) (im : List (List Sec)) : List Int := if judgeE h im ≠ 0 ∨ (confC h im).isSome = true then [] else newestC h im
def conW (h : Hist) (im : List (List Sec)) : Wr := if judgeE h im ≠ 0 then wr0 else candW h im
def conB (h : Hist) (im : List (List Sec)) : Bool := decide (judgeE h im = 0) && (confC h im).isSome
theorem c16 (h : Hist) (im : List (List Sec)) (hs : h.sm) (hl : im.length < 4000000) (hm : ∀ l ∈ im, l.length < 4000000) : Pu Try.prog (.fn (.func 16) [] []) [h.av, imgAV im] (.tup [.lst ((findL h im).map I), B (findB h im), I (judgeE h im)]) := by
 refine pu_func Try.func16 rfl (by kernel_rfl) (by show _ ≤ 35; simp only [LN]; decide) (by simp only [IDS, chkAV_idf, ct_idf, judge_idf, judgeR_idf]) (by simp only [IDS, chkAV_idf, ct_idf, judge_idf, judgeR_idf]) (by simp only [IDS, chkAV_idf, ct_idf, judge_idf, judgeR_idf]) ?_
 rw [Try.ntmps16]
 refine wpT_seq ?_
 refine wpT_region (by kernel_rfl) (fun K hK => ?_)
 simp only [↓SP, SZ, ↓reduceIte, reduceCtorEq, nE, nA, nL, nT, ct_okc, ct_isAgg, ct_cells]
 refine hK _ _ ?_
 clear hK K
 refine wpT_seq ?_
 refine wpT_region (by kernel_rfl) (fun K hK => ?_)
 simp only [↓SP, SZ, ↓reduceIte, reduceCtorEq, nE, nA, nL, nT, ct_okc, ct_isAgg, ct_cells]
 refine Pu.call (c37 h im hs hl hm) ?_
 simp only [↓SP, SZ, ↓reduceIte, reduceCtorEq, nE, nA, nL, nT, ct_okc, ct_isAgg, ct_cells]
 refine hK _ _ ?_
 clear hK K
 refine wpT_seq ?_
 refine wpT_seq ?_
 refine wpT_region (by kernel_rfl) (fun K hK => ?_)
 simp only [↓SP, SZ, ↓reduceIte, reduceCtorEq, nE, nA, nL, nT, ct_okc, ct_isAgg, ct_cells]
 refine hK _ _ ?_
 clear hK K
 refine wpT_if (by rfl) (fun hc19 => ?_) (fun hc19 => ?_)
 ·
  have p19 := hc19
  try simp only [PB] at p19
  have hx1 : findL h im = [] := if_pos (.inl p19)
  have hx2 : findB h im = false := by rw [findB, decide_eq_false p19]; rfl
  refine wpT_seq ?_
  refine wpT_region (by kernel_rfl) (fun K hK => ?_)
  simp only [↓SP, SZ, ↓reduceIte, reduceCtorEq, nE, nA, nL, nT, ct_okc, ct_isAgg, ct_cells, hc19]
  refine hK _ _ ?_
  clear hK K
  refine wpT_ret ⟨.inr rfl, ?_⟩
  show optK (resA _ _ _ [.tmp 4, .tmp 5, .tmp 6]) _
  simp only [SRO, ↓SP, SZ, ↓reduceIte, reduceCtorEq, nE, nA, nL, nT, ct_okc, ct_isAgg, ct_cells, hc19]
  rw [hx1, hx2]
  exact Lend.tupL (LendL.cons .nil0 (LendL.cons (.refl _) (LendL.cons (.refl _) LendL.nil)))
 ·
  have p19 := hc19
  try simp only [PB] at p19
  have e0 : judgeE h im = 0 := by simpa using p19
  have hj : judgeR h im = judgeAV h im := if_neg (by omega)
  refine wpT_skip ?_
  refine wpT_seq ?_
  refine wpT_region (by kernel_rfl) (fun K hK => ?_)
  simp only [↓SP, SZ, ↓reduceIte, reduceCtorEq, nE, nA, nL, nT, ct_okc, ct_isAgg, ct_cells, hj, hc19]
  refine Pu.call (c38 h im hs e0) ?_
  simp only [↓SP, SZ, ↓reduceIte, reduceCtorEq, nE, nA, nL, nT, ct_okc, ct_isAgg, ct_cells, hj, hc19]
  refine hK _ _ ?_
  clear hK K
  refine wpT_seq ?_
  refine wpT_seq ?_
  refine wpT_region (by kernel_rfl) (fun K hK => ?_)
  simp only [↓SP, SZ, ↓reduceIte, reduceCtorEq, nE, nA, nL, nT, ct_okc, ct_isAgg, ct_cells, hc19]
  refine hK _ _ ?_
  clear hK K
  refine wpT_if (by rfl) (fun hc32 => ?_) (fun hc32 => ?_)
  ·
   have p32 := hc32
   try simp only [PB] at p32
   have hx1 : findL h im = [] := if_pos (.inr p32)
   have hx2 : findB h im = false := by rw [findB, p32]; simp
   refine wpT_seq ?_
   refine wpT_region (by kernel_rfl) (fun K hK => ?_)
   simp only [↓SP, SZ, ↓reduceIte, reduceCtorEq, nE, nA, nL, nT, ct_okc, ct_isAgg, ct_cells, hc19, hc32]
   refine hK _ _ ?_
   clear hK K
   refine wpT_ret ⟨.inr rfl, ?_⟩
   show optK (resA _ _ _ [.tmp 4, .tmp 5, .tmp 6]) _
   simp only [SRO, ↓SP, SZ, ↓reduceIte, reduceCtorEq, nE, nA, nL, nT, ct_okc, ct_isAgg, ct_cells, hc19, hc32]
   rw [hx1, hx2, e0]
   exact Lend.tupL (LendL.cons .nil0 (LendL.cons (.refl _) (LendL.cons (.refl _) LendL.nil)))
  ·
   have p32 := hc32
   try simp only [PB] at p32
   have hx1 : findL h im = leastC h im := if_neg (by simp [e0, p32])
   have hx2 : findB h im = true := by rw [findB, p32, decide_eq_true e0]; rfl
   have hcl : candL h im = leastC h im := if_neg (fun hu => by
     cases hk : unkC (ctsH 0 h.ws) im with
     | none => rw [hk] at hu; simp at hu
     | some c => rw [confC, hk] at p32; simp at p32)
   refine wpT_skip ?_
   refine wpT_seq ?_
   refine wpT_region (by kernel_rfl) (fun K hK => ?_)
   simp only [↓SP, SZ, ↓reduceIte, reduceCtorEq, nE, nA, nL, nT, ct_okc, ct_isAgg, ct_cells, hcl, hc19, hc32]
   refine hK _ _ ?_
   clear hK K
   refine wpT_ret ⟨.inr rfl, ?_⟩
   show optK (resA _ _ _ [.tmp 4, .tmp 5, .tmp 6]) _
   simp only [SRO, ↓SP, SZ, ↓reduceIte, reduceCtorEq, nE, nA, nL, nT, ct_okc, ct_isAgg, ct_cells, hc19, hc32]
   rw [hx1, hx2, e0]
   exact .refl _
theorem c13 (h : Hist) (im : List (List Sec)) (hs : h.sm) (hl : im.length < 4000000) (hm : ∀ l ∈ im, l.length < 4000000) : Pu Try.prog (.fn (.func 13) [] []) [h.av, imgAV im] (.tup [(conW h im).av, B (conB h im), I (judgeE h im)]) := by
 refine pu_func Try.func13 rfl (by kernel_rfl) (by show _ ≤ 32; simp only [LN]; decide) (by simp only [IDS, chkAV_idf, ct_idf, judge_idf, judgeR_idf]) (by simp only [IDS, chkAV_idf, ct_idf, judge_idf, judgeR_idf]) (by simp only [IDS, chkAV_idf, ct_idf, judge_idf, judgeR_idf]) ?_
 rw [Try.ntmps13]
 refine wpT_seq ?_
 refine wpT_region (by kernel_rfl) (fun K hK => ?_)
 simp only [↓SP, SZ, ↓reduceIte, reduceCtorEq, nE, nA, nL, nT, ct_okc, ct_isAgg, ct_cells]
 refine hK _ _ ?_
 clear hK K
 refine wpT_seq ?_
 refine wpT_region (by kernel_rfl) (fun K hK => ?_)
 simp only [↓SP, SZ, ↓reduceIte, reduceCtorEq, nE, nA, nL, nT, ct_okc, ct_isAgg, ct_cells]
 refine Pu.call (c37 h im hs hl hm) ?_
 simp only [↓SP, SZ, ↓reduceIte, reduceCtorEq, nE, nA, nL, nT, ct_okc, ct_isAgg, ct_cells]
 refine hK _ _ ?_
 clear hK K
 refine wpT_seq ?_
 refine wpT_seq ?_
 refine wpT_region (by kernel_rfl) (fun K hK => ?_)
 simp only [↓SP, SZ, ↓reduceIte, reduceCtorEq, nE, nA, nL, nT, ct_okc, ct_isAgg, ct_cells]
 refine hK _ _ ?_
 clear hK K
 refine wpT_if (by rfl) (fun hc19 => ?_) (fun hc19 => ?_)
 ·
  have p19 := hc19
  try simp only [PB] at p19
  have hx1 : conW h im = wr0 := if_pos p19
  have hx2 : conB h im = false := by rw [conB, decide_eq_false p19]; rfl
  refine wpT_seq ?_
  refine wpT_region (by kernel_rfl) (fun K hK => ?_)
  simp only [↓SP, SZ, ↓reduceIte, reduceCtorEq, nE, nA, nL, nT, ct_okc, ct_isAgg, ct_cells, hc19]
  refine hK _ _ ?_
  clear hK K
  refine wpT_ret ⟨.inr rfl, ?_⟩
  show optK (resA _ _ _ [.cell 4 34, .tmp 5, .tmp 6]) _
  simp only [SRO, ↓SP, SZ, ↓reduceIte, reduceCtorEq, nE, nA, nL, nT, ct_okc, ct_isAgg, ct_cells, hc19]
  rw [hx1, hx2]
  exact Lend.tupL (LendL.cons wrZ_lend (LendL.cons (.refl _) (LendL.cons (.refl _) LendL.nil)))
 ·
  have p19 := hc19
  try simp only [PB] at p19
  have e0 : judgeE h im = 0 := by simpa using p19
  have hj : judgeR h im = judgeAV h im := if_neg (by omega)
  have hx1 : conW h im = candW h im := if_neg (by omega)
  have hx2 : conB h im = (confC h im).isSome := by rw [conB, decide_eq_true e0, Bool.true_and]
  refine wpT_skip ?_
  refine wpT_seq ?_
  refine wpT_region (by kernel_rfl) (fun K hK => ?_)
  simp only [↓SP, SZ, ↓reduceIte, reduceCtorEq, nE, nA, nL, nT, ct_okc, ct_isAgg, ct_cells, hj, hc19]
  refine Pu.call (c38 h im hs e0) ?_
  simp only [↓SP, SZ, ↓reduceIte, reduceCtorEq, nE, nA, nL, nT, ct_okc, ct_isAgg, ct_cells, hj, hc19]
  refine hK _ _ ?_
  clear hK K
  refine wpT_seq ?_
  refine wpT_region (by kernel_rfl) (fun K hK => ?_)
  simp only [↓SP, SZ, ↓reduceIte, reduceCtorEq, nE, nA, nL, nT, ct_okc, ct_isAgg, ct_cells, hc19]
  refine hK _ _ ?_
  clear hK K
  refine wpT_ret ⟨.inr rfl, ?_⟩
  show optK (resA _ _ _ [.cell 4 34, .tmp 5, .tmp 6]) _
  simp only [SRO, ↓SP, SZ, ↓reduceIte, reduceCtorEq, nE, nA, nL, nT, ct_okc, ct_isAgg, ct_cells, hc19]
  rw [hx1, hx2, e0]
  exact .refl _
end Go.Proofs.Ytfdfkmcplhloaaa
end

section
set_option linter.unusedSimpArgs false
set_option linter.unusedVariables false
namespace Go.Proofs.Ytfdfkmcplhloaaa
open Go.Proofs
open Nat renaming reduceEqDiff → nE, reduceAdd → nA, reduceLeDiff → nL, reduceLT → nT
set_option maxRecDepth 10000
theorem c24 (h : Hist) (im : List (List Sec)) (hs : h.sm) (hl : im.length < 4000000) (hm : ∀ l ∈ im, l.length < 4000000) : Pu Try.prog (.fn (.func 24) [] []) [h.av, imgAV im] (.tup [.lst ((newL h im).map I), B (findB h im), I (judgeE h im)]) := by
 refine pu_func Try.func24 rfl (by kernel_rfl) (by show _ ≤ 62; simp only [LN]; decide) (by simp only [IDS, chkAV_idf, ct_idf, judge_idf, judgeR_idf]) (by simp only [IDS, chkAV_idf, ct_idf, judge_idf, judgeR_idf]) (by simp only [IDS, chkAV_idf, ct_idf, judge_idf, judgeR_idf]) ?_
 rw [Try.ntmps24]
 have hw := hs.2.1
 have k6 : loadV Try.prog 23 h.av 1 = some (.lst (h.ws.map Wr.av)) := by simp only [Hist.av, TY]; rfl
 refine wpT_seq ?_
 refine wpT_region (by kernel_rfl) (fun K hK => ?_)
 simp only [↓SP, SZ, ↓reduceIte, reduceCtorEq, nE, nA, nL, nT, ct_okc]
 refine hK _ _ ?_
 clear hK K
 refine wpT_seq ?_
 refine wpT_region (by kernel_rfl) (fun K hK => ?_)
 simp only [↓SP, SZ, ↓reduceIte, reduceCtorEq, nE, nA, nL, nT, ct_okc]
 refine Pu.call (c37 h im hs hl hm) ?_
 simp only [↓SP, SZ, ↓reduceIte, reduceCtorEq, nE, nA, nL, nT, ct_okc]
 refine hK _ _ ?_
 clear hK K
 refine wpT_seq ?_
 refine wpT_seq ?_
 refine wpT_region (by kernel_rfl) (fun K hK => ?_)
 simp only [↓SP, SZ, ↓reduceIte, reduceCtorEq, nE, nA, nL, nT, ct_okc]
 refine hK _ _ ?_
 clear hK K
 refine wpT_if (by rfl) (fun hc23 => ?_) (fun hc23 => ?_)
 ·
  have p23 := hc23
  try simp only [PB] at p23
  have hx1 : newL h im = [] := if_pos (.inl p23)
  have hx2 : findB h im = false := by rw [findB, decide_eq_false p23]; rfl
  refine wpT_seq ?_
  refine wpT_region (by kernel_rfl) (fun K hK => ?_)
  simp only [↓SP, SZ, ↓reduceIte, reduceCtorEq, nE, nA, nL, nT, ct_okc, hc23]
  refine hK _ _ ?_
  clear hK K
  refine wpT_ret ⟨.inr rfl, ?_⟩
  show optK (resA _ _ _ [.tmp 4, .tmp 5, .tmp 6]) _
  simp only [SRO, ↓SP, SZ, ↓reduceIte, reduceCtorEq, nE, nA, nL, nT, ct_okc, hc23]
  rw [hx1, hx2]
  exact Lend.tupL (LendL.cons .nil0 (LendL.cons (.refl _) (LendL.cons (.refl _) LendL.nil)))
 ·
  have p23 := hc23
  try simp only [PB] at p23
  have e0 : judgeE h im = 0 := by simpa using p23
  obtain ⟨eh, hz, hd⟩ := judge_ok e0
  have hj : judgeR h im = judgeAV h im := if_neg (by omega)
  refine wpT_skip ?_
  refine wpT_seq ?_
  refine wpT_seq ?_
  refine wpT_region (by kernel_rfl) (fun K hK => ?_)
  simp only [↓SP, SZ, ↓reduceIte, reduceCtorEq, nE, nA, nL, nT, ct_okc, hj, hc23]
  refine Pu.call (c38 h im hs e0) ?_
  simp only [↓SP, SZ, ↓reduceIte, reduceCtorEq, nE, nA, nL, nT, ct_okc, hj, hc23]
  refine hK _ _ ?_
  clear hK K
  refine wpT_seq ?_
  refine wpT_region (by kernel_rfl) (fun K hK => ?_)
  simp only [↓SP, SZ, ↓reduceIte, reduceCtorEq, nE, nA, nL, nT, ct_okc, show ((0 : Int) != 0) = false from rfl, hc23]
  refine hK _ _ ?_
  clear hK K
  refine wpT_if (by rfl) (fun hc36 => ?_) (fun hc36 => ?_)
  ·
   have p36 := hc36
   try simp only [PB] at p36
   have hx1 : newL h im = [] := if_pos (.inr p36)
   have hx2 : findB h im = false := by rw [findB, p36]; simp
   refine wpT_seq ?_
   refine wpT_region (by kernel_rfl) (fun K hK => ?_)
   simp only [↓SP, SZ, ↓reduceIte, reduceCtorEq, nE, nA, nL, nT, ct_okc, hc23, hc36]
   refine hK _ _ ?_
   clear hK K
   refine wpT_ret ⟨.inr rfl, ?_⟩
   show optK (resA _ _ _ [.tmp 4, .tmp 5, .tmp 6]) _
   simp only [SRO, ↓SP, SZ, ↓reduceIte, reduceCtorEq, nE, nA, nL, nT, ct_okc, hc23, hc36]
   rw [hx1, hx2, e0]
   exact Lend.tupL (LendL.cons .nil0 (LendL.cons (.refl _) (LendL.cons (.refl _) LendL.nil)))
  ·
   have p36 := hc36
   try simp only [PB] at p36
   have hx1 : newL h im = newestC h im := if_neg (by simp [e0, p36])
   have hx2 : findB h im = true := by rw [findB, p36, decide_eq_true e0]; rfl
   refine wpT_skip ?_
   refine wpT_seq ?_
   refine wpT_region (by kernel_rfl) (fun K hK => ?_)
   simp only [↓SP, SZ, ↓reduceIte, reduceCtorEq, nE, nA, nL, nT, ct_okc, hc23, hc36]
   refine hK _ _ ?_
   clear hK K
   refine wpT_seq ?_
   refine wpT_seq ?_
   refine wpT_region (by kernel_rfl) (fun K hK => ?_)
   simp only [↓SP, SZ, ↓reduceIte, reduceCtorEq, nE, nA, nL, nT, ct_okc, k6, hc23, hc36]
   refine hK _ _ ?_
   clear hK K
   refine wpT_block ?_
   refine wpT_loop ?_
   refine wpT_nilown 13 3 1 (by simp only [↓SP, SZ, ↓reduceIte, reduceCtorEq, nE, nA, nL, nT, ct_okc]) ?_
   refine wpT_keep3 (i := 0) (j := 1) (k := 2) (o := .arr 26 3 [h.av]) (q := .arr 34 3 [(candW h im).av]) (r := .arr 3 1 ((selN (allowedB h im) 0).map I)) (by simp only [↓SP, SZ, ↓reduceIte, reduceCtorEq, nE, nA, nL, nT, ct_okc]) (by simp only [↓SP, SZ, ↓reduceIte, reduceCtorEq, nE, nA, nL, nT, ct_okc]) (by simp only [↓SP, SZ, ↓reduceIte, reduceCtorEq, nE, nA, nL, nT, ct_okc]; rfl) ?_
   refine wpT_ind (fun (i : Nat) tm' h' => (∃ m, h' = Hp.of [(0, .arr 26 3 [h.av]), (1, .arr 34 3 [(candW h im).av]), (2, .arr 3 1 ((selN (allowedB h im) i).map I))] (m + 3)) ∧ tm' 2 = .ptr 0 1 0 0 ∧ tm' 7 = judgeAV h im ∧ tm' 13 = .sl 2 (selN (allowedB h im) i).length 0 (selN (allowedB h im) i).length ∧ tm' 40 = I h.ws.length ∧ tm' 41 = I i ∧ i ≤ h.ws.length) (fun i => h.ws.length - i) ?_ 0 ⟨⟨0, rfl⟩, rfl, by simp only [↓SP, SZ, ↓reduceIte, reduceCtorEq, nE, nA, nL, nT, ct_okc, hj], rfl, rfl, rfl, by omega⟩
   rintro i tm' _ ⟨⟨m, rfl⟩, f2, f7, f13, f40, f41, hi⟩ IH
   refine wpT_inLoop ?_
   refine wpT_seq ?_
   refine wpT_region (by kernel_rfl) (fun K hK => ?_)
   simp only [↓SP, SZ, ↓reduceIte, reduceCtorEq, nE, nA, nL, nT, ct_okc, f40, f41]
   refine hK _ _ ?_
   clear hK K
   refine wpT_seq ?_
   refine wpT_if (by rfl) (fun hc42 => ?_) (fun hc42 => ?_)
   ·
    have p42 := hc42
    try simp only [PB] at p42
    have hlt : i < h.ws.length := by omega
    have hln := selN_length (allowedB h im) i
    have m1 : (selN (allowedB h im) i).length + 1 ≤ maxLen := by simp only [maxLen]; omega
    have m2 : ((selN (allowedB h im) i).length + 1) * 8 ≤ 140737488355328 := by omega
    refine wpT_skip ?_
    refine wpT_seq ?_
    refine wpT_block ?_
    refine wpT_seq ?_
    refine wpT_region (by kernel_rfl) (fun K hK => ?_)
    simp only [↓SP, SZ, ↓reduceIte, reduceCtorEq, nE, nA, nL, nT, ct_okc, f41, hc42]
    refine hK _ _ ?_
    clear hK K
    refine wpT_seq ?_
    refine wpT_region (by kernel_rfl) (fun K hK => ?_)
    simp only [↓SP, SZ, ↓reduceIte, reduceCtorEq, nE, nA, nL, nT, ct_okc, f7, hc42]
    refine Pu.call (c57 h im hs e0 i hlt) ?_
    simp only [↓SP, SZ, ↓reduceIte, reduceCtorEq, nE, nA, nL, nT, ct_okc, f7, hc42]
    refine hK _ _ ?_
    clear hK K
    refine wpT_if (by rfl) (fun hc46 => ?_) (fun hc46 => ?_)
    ·
     have p46 := hc46
     try simp only [PB] at p46
     have hsel : selN (allowedB h im) (i + 1) = selN (allowedB h im) i ++ [(i : Int)] := by rw [selN, if_pos hc46]
     refine wpT_region (by kernel_rfl) (fun K hK => ?_)
     simp only [↓SP, SZ, ↓reduceIte, reduceCtorEq, nE, nA, nL, nT, ct_okc, f13, m1, m2, hc42, hc46]
     refine hK _ _ ?_
     clear hK K
     refine wpT_inBlock ?_
     refine wpT_region (by kernel_rfl) (fun K hK => ?_)
     simp only [↓SP, SZ, ↓reduceIte, reduceCtorEq, nE, nA, nL, nT, ct_okc, f41, wrap64 (x := (i : Int) + 1) (by omega) (by omega), hc42, hc46]
     refine hK _ _ ?_
     clear hK K
     first
       | (have hu := hsel
          refine wpT_keep3 (i := 0) (j := 1) (k := 2) (o := .arr 26 3 [h.av]) (q := .arr 34 3 [(candW h im).av]) (r := .arr 3 1 ((selN (allowedB h im) (i + 1)).map I)) (by simp only [↓SP, SZ, ↓reduceIte, reduceCtorEq, nE, nA, nL, nT, ct_okc]) (by simp only [↓SP, SZ, ↓reduceIte, reduceCtorEq, nE, nA, nL, nT, ct_okc]) (by simp only [↓SP, SZ, ↓reduceIte, reduceCtorEq, nE, nA, nL, nT, ct_okc, hsel, List.map_append]) ?_
          refine IH (i + 1) _ _ (by omega) ⟨⟨_, rfl⟩, by simp only [↓SP, SZ, ↓reduceIte, reduceCtorEq, nE, nA, nL, nT, ct_okc, f2], by simp only [↓SP, SZ, ↓reduceIte, reduceCtorEq, nE, nA, nL, nT, ct_okc, f7], by simp only [↓SP, SZ, ↓reduceIte, reduceCtorEq, nE, nA, nL, nT, ct_okc, hsel], by simp only [↓SP, SZ, ↓reduceIte, reduceCtorEq, nE, nA, nL, nT, ct_okc, f40], by simp only [↓SP, SZ, ↓reduceIte, reduceCtorEq, nE, nA, nL, nT, ct_okc, Int.natCast_add, Int.cast_ofNat_Int], by omega⟩)
       | (have hu := hself
          refine wpT_keep3 (i := 0) (j := 1) (k := 2) (o := .arr 26 3 [h.av]) (q := .arr 34 3 [(candW h im).av]) (r := .arr 3 1 ((selN (allowedB h im) (i + 1)).map I)) (by simp only [↓SP, SZ, ↓reduceIte, reduceCtorEq, nE, nA, nL, nT, ct_okc]) (by simp only [↓SP, SZ, ↓reduceIte, reduceCtorEq, nE, nA, nL, nT, ct_okc]) (by simp only [↓SP, SZ, ↓reduceIte, reduceCtorEq, nE, nA, nL, nT, ct_okc, hself]) ?_
          refine IH (i + 1) _ _ (by omega) ⟨⟨_, rfl⟩, by simp only [↓SP, SZ, ↓reduceIte, reduceCtorEq, nE, nA, nL, nT, ct_okc, f2], by simp only [↓SP, SZ, ↓reduceIte, reduceCtorEq, nE, nA, nL, nT, ct_okc, f7], by simp only [↓SP, SZ, ↓reduceIte, reduceCtorEq, nE, nA, nL, nT, ct_okc, hself, f13], by simp only [↓SP, SZ, ↓reduceIte, reduceCtorEq, nE, nA, nL, nT, ct_okc, f40], by simp only [↓SP, SZ, ↓reduceIte, reduceCtorEq, nE, nA, nL, nT, ct_okc, Int.natCast_add, Int.cast_ofNat_Int], by omega⟩)
    ·
     have p46 := hc46
     try simp only [PB] at p46
     have hself : selN (allowedB h im) (i + 1) = selN (allowedB h im) i := by rw [selN, if_neg (by simp [hc46]), List.append_nil]
     refine wpT_skip ?_
     refine wpT_inBlock ?_
     refine wpT_region (by kernel_rfl) (fun K hK => ?_)
     simp only [↓SP, SZ, ↓reduceIte, reduceCtorEq, nE, nA, nL, nT, ct_okc, f41, wrap64 (x := (i : Int) + 1) (by omega) (by omega), hc42, hc46]
     refine hK _ _ ?_
     clear hK K
     first
       | (have hu := hsel
          refine wpT_keep3 (i := 0) (j := 1) (k := 2) (o := .arr 26 3 [h.av]) (q := .arr 34 3 [(candW h im).av]) (r := .arr 3 1 ((selN (allowedB h im) (i + 1)).map I)) (by simp only [↓SP, SZ, ↓reduceIte, reduceCtorEq, nE, nA, nL, nT, ct_okc]) (by simp only [↓SP, SZ, ↓reduceIte, reduceCtorEq, nE, nA, nL, nT, ct_okc]) (by simp only [↓SP, SZ, ↓reduceIte, reduceCtorEq, nE, nA, nL, nT, ct_okc, hsel, List.map_append]) ?_
          refine IH (i + 1) _ _ (by omega) ⟨⟨_, rfl⟩, by simp only [↓SP, SZ, ↓reduceIte, reduceCtorEq, nE, nA, nL, nT, ct_okc, f2], by simp only [↓SP, SZ, ↓reduceIte, reduceCtorEq, nE, nA, nL, nT, ct_okc, f7], by simp only [↓SP, SZ, ↓reduceIte, reduceCtorEq, nE, nA, nL, nT, ct_okc, hsel], by simp only [↓SP, SZ, ↓reduceIte, reduceCtorEq, nE, nA, nL, nT, ct_okc, f40], by simp only [↓SP, SZ, ↓reduceIte, reduceCtorEq, nE, nA, nL, nT, ct_okc, Int.natCast_add, Int.cast_ofNat_Int], by omega⟩)
       | (have hu := hself
          refine wpT_keep3 (i := 0) (j := 1) (k := 2) (o := .arr 26 3 [h.av]) (q := .arr 34 3 [(candW h im).av]) (r := .arr 3 1 ((selN (allowedB h im) (i + 1)).map I)) (by simp only [↓SP, SZ, ↓reduceIte, reduceCtorEq, nE, nA, nL, nT, ct_okc]) (by simp only [↓SP, SZ, ↓reduceIte, reduceCtorEq, nE, nA, nL, nT, ct_okc]) (by simp only [↓SP, SZ, ↓reduceIte, reduceCtorEq, nE, nA, nL, nT, ct_okc, hself]) ?_
          refine IH (i + 1) _ _ (by omega) ⟨⟨_, rfl⟩, by simp only [↓SP, SZ, ↓reduceIte, reduceCtorEq, nE, nA, nL, nT, ct_okc, f2], by simp only [↓SP, SZ, ↓reduceIte, reduceCtorEq, nE, nA, nL, nT, ct_okc, f7], by simp only [↓SP, SZ, ↓reduceIte, reduceCtorEq, nE, nA, nL, nT, ct_okc, hself, f13], by simp only [↓SP, SZ, ↓reduceIte, reduceCtorEq, nE, nA, nL, nT, ct_okc, f40], by simp only [↓SP, SZ, ↓reduceIte, reduceCtorEq, nE, nA, nL, nT, ct_okc, Int.natCast_add, Int.cast_ofNat_Int], by omega⟩)
   ·
    have p42 := hc42
    try simp only [PB] at p42
    have hi2 : i = h.ws.length := by omega
    subst hi2
    have hal : selN (allowedB h im) h.ws.length = allowedL h im := rfl
    rw [hal] at f13 ⊢
    have hnl : (allowedL h im).length < 4000000 := Nat.lt_of_le_of_lt (selN_length _ _) hw
    have hnset : setP h.ws.length (-1) (allowedL h im) = true := setP_sel (Nat.le_refl _)
    have hse : setsE h [allowedL h im] = 0 := by
      unfold setsE
      rw [if_neg (by omega), if_pos (by simpa using hnset)]
    have hge : greatL h (allowedL h im) = newestC h im := if_neg (by omega)
    refine wpT_exit rfl ?_
    refine wpT_seq ?_
    refine wpT_region (by kernel_rfl) (fun K hK => ?_)
    simp only [↓SP, SZ, ↓reduceIte, reduceCtorEq, nE, nA, nL, nT, ct_okc, f2, f13, hc42]
    refine Pu.freeze (greatF h (allowedL h im) hs hnl) 2 (LendL.cons (.refl _) (LendL.cons (Lend.sl0 (E := 3) (s := 1) (by simp only [↓SP, SZ, ↓reduceIte, reduceCtorEq, nE, nA, nL, nT, ct_okc]) (by simp) (int_okc _)) LendL.nil)) ?_
    simp only [↓SP, SZ, ↓reduceIte, reduceCtorEq, nE, nA, nL, nT, ct_okc, f2, f13, hc42]
    refine hK _ _ ?_
    clear hK K
    refine wpT_seq ?_
    refine wpT_region (by kernel_rfl) (fun K hK => ?_)
    simp only [↓SP, SZ, ↓reduceIte, reduceCtorEq, nE, nA, nL, nT, ct_okc, hc42]
    refine hK _ _ ?_
    clear hK K
    refine wpT_ret ⟨.inr rfl, ?_⟩
    show optK (resA _ _ _ [.tmp 4, .tmp 5, .tmp 6]) _
    simp only [SRO, ↓SP, SZ, ↓reduceIte, reduceCtorEq, nE, nA, nL, nT, ct_okc, hc42]
    rw [hx1, hx2, e0, hge, hse]
    exact .refl _
end Go.Proofs.Ytfdfkmcplhloaaa
end

section
set_option linter.unusedSimpArgs false
set_option linter.unusedVariables false
namespace Go.Proofs.Ytfdfkmcplhloaaa
open Go.Proofs
open Nat renaming reduceEqDiff → nE, reduceAdd → nA, reduceLeDiff → nL, reduceLT → nT
set_option maxRecDepth 10000
def hcp (h : Hist) (i k j : Nat) : AV := .agg [.sl i h.sizes.length 0 h.sizes.length, .sl k h.ws.length 0 h.ws.length, .sl j h.evs.length 0 h.evs.length]
def hist0 : Hist := ⟨[], [], []⟩
def issueE (h : Hist) (w : Wr) : Int := if histE h ≠ 0 then histE h else if h.ws.length ≥ 4096 then 6 else fitsE h.sizes w
def issueR (h : Hist) (w : Wr) : Hist := if issueE h w ≠ 0 then hist0 else h.more w
def issueN (h : Hist) (w : Wr) : Int := if issueE h w ≠ 0 then 0 else h.ws.length
end Go.Proofs.Ytfdfkmcplhloaaa
end

section
set_option linter.unusedSimpArgs false
set_option linter.unusedVariables false
namespace Go.Proofs.Ytfdfkmcplhloaaa
open Go.Proofs
open Nat renaming reduceEqDiff → nE, reduceAdd → nA, reduceLeDiff → nL, reduceLT → nT
set_option maxRecDepth 10000
def subB (a b : List Int) : Bool := b.all fun x => decide (x ∈ a)
theorem c42 (xs : List Wr) (fv : AV) (p : Wr → Bool) (hl : xs.length < 4611686018427387904) (hfv : Idf fv) (hp : ∀ x ∈ xs, Pu Try.prog fv [x.av] (B (p x))) : Pu Try.prog (.fn (.func 42) [] []) [.lst (xs.map Wr.av), fv] (I (idxP p 0 xs)) := by
 refine pu_func Try.func42 rfl (by kernel_rfl) (by show _ ≤ 19; simp only [LN]; decide) (by simp only [IDS, eq_true hfv]) (by simp only [IDS, eq_true hfv]) (by simp only [IDS, eq_true hfv]) ?_
 rw [Try.ntmps42]
 refine wpT_seq ?_
 refine wpT_region (by kernel_rfl) (fun K hK => ?_)
 simp only [↓SP, SZ, ↓reduceIte, reduceCtorEq, nE, nA, nL, nT, sec_neq, sec_eql]
 refine hK _ _ ?_
 clear hK K
 refine wpT_seq ?_
 refine wpT_seq ?_
 refine wpT_region (by kernel_rfl) (fun K hK => ?_)
 simp only [↓SP, SZ, ↓reduceIte, reduceCtorEq, nE, nA, nL, nT, sec_neq, sec_eql]
 refine hK _ _ ?_
 clear hK K
 refine wpT_block ?_
 refine wpT_loop ?_
 refine wpT_keep0 ?_
 refine wpT_ind (fun (i : Nat) tm' h' => (∃ m, h' = Hp.of [] m) ∧ tm' 0 = .lst (xs.map Wr.av) ∧ tm' 1 = fv ∧ tm' 7 = I xs.length ∧ tm' 8 = I i ∧ i ≤ xs.length ∧ idxP p i (xs.drop i) = idxP p 0 xs) (fun i => xs.length - i) ?_ 0 ⟨⟨_, rfl⟩, rfl, rfl, rfl, rfl, by omega, rfl⟩
 rintro i tm' _ ⟨⟨m, rfl⟩, e0, e1, e7, e8, hi, hx⟩ IH
 refine wpT_inLoop ?_
 refine wpT_seq ?_
 refine wpT_region (by kernel_rfl) (fun K hK => ?_)
 simp only [↓SP, SZ, ↓reduceIte, reduceCtorEq, nE, nA, nL, nT, sec_neq, sec_eql, e7, e8]
 refine hK _ _ ?_
 clear hK K
 refine wpT_seq ?_
 refine wpT_if (by rfl) (fun hc9 => ?_) (fun hc9 => ?_)
 ·
  have p9 := hc9
  try simp only [PB] at p9
  have hlt : i < xs.length := by omega
  have hg := at_map (f := Wr.av) hlt
  rw [List.drop_eq_getElem_cons hlt, idxP] at hx
  refine wpT_skip ?_
  refine wpT_seq ?_
  refine wpT_block ?_
  refine wpT_seq ?_
  refine wpT_region (by kernel_rfl) (fun K hK => ?_)
  simp only [↓SP, SZ, ↓reduceIte, reduceCtorEq, nE, nA, nL, nT, sec_neq, sec_eql, e8, hc9]
  refine hK _ _ ?_
  clear hK K
  refine wpT_seq ?_
  refine wpT_region (by kernel_rfl) (fun K hK => ?_)
  simp only [↓SP, SZ, ↓reduceIte, reduceCtorEq, nE, nA, nL, nT, sec_neq, sec_eql, e0, e1, hg, hc9]
  refine Pu.call (hp _ (List.getElem_mem hlt)) ?_
  simp only [↓SP, SZ, ↓reduceIte, reduceCtorEq, nE, nA, nL, nT, sec_neq, sec_eql, e0, e1, hg, hc9]
  refine hK _ _ ?_
  clear hK K
  refine wpT_if (by rfl) (fun hc16 => ?_) (fun hc16 => ?_)
  ·
   have p16 := hc16
   try simp only [PB] at p16
   rw [if_pos hc16] at hx
   refine wpT_seq ?_
   refine wpT_region (by kernel_rfl) (fun K hK => ?_)
   simp only [↓SP, SZ, ↓reduceIte, reduceCtorEq, nE, nA, nL, nT, sec_neq, sec_eql, hc9, hc16]
   refine hK _ _ ?_
   clear hK K
   refine wpT_ret ⟨.inr rfl, ?_⟩
   show optK (resA _ _ _ [.tmp 4]) _
   simp only [SRO, ↓SP, SZ, ↓reduceIte, reduceCtorEq, nE, nA, nL, nT, sec_neq, sec_eql, hc9, hc16]
   refine Lend.eq ?_
   rw [← hx]
  ·
   have p16 := hc16
   try simp only [PB] at p16
   rw [if_neg (by simp [hc16])] at hx
   refine wpT_skip ?_
   refine wpT_inBlock ?_
   refine wpT_region (by kernel_rfl) (fun K hK => ?_)
   simp only [↓SP, SZ, ↓reduceIte, reduceCtorEq, nE, nA, nL, nT, sec_neq, sec_eql, e8, wrap64 (x := (i : Int) + 1) (by omega) (by omega), hc9, hc16]
   refine hK _ _ ?_
   clear hK K
   refine wpT_keep0 ?_
   refine IH (i + 1) _ _ (by omega) ⟨⟨_, rfl⟩, by simp only [↓SP, SZ, ↓reduceIte, reduceCtorEq, nE, nA, nL, nT, sec_neq, sec_eql, e0], by simp only [↓SP, SZ, ↓reduceIte, reduceCtorEq, nE, nA, nL, nT, sec_neq, sec_eql, e1], by simp only [↓SP, SZ, ↓reduceIte, reduceCtorEq, nE, nA, nL, nT, sec_neq, sec_eql, e7], by simp only [↓SP, SZ, ↓reduceIte, reduceCtorEq, nE, nA, nL, nT, sec_neq, sec_eql, Int.natCast_add, Int.cast_ofNat_Int], by omega, hx⟩
 ·
  have p9 := hc9
  try simp only [PB] at p9
  rw [List.drop_eq_nil_of_le (by omega), idxP] at hx
  refine wpT_exit rfl ?_
  refine wpT_seq ?_
  refine wpT_region (by kernel_rfl) (fun K hK => ?_)
  simp only [↓SP, SZ, ↓reduceIte, reduceCtorEq, nE, nA, nL, nT, sec_neq, sec_eql, hc9]
  refine hK _ _ ?_
  clear hK K
  refine wpT_ret ⟨.inr rfl, ?_⟩
  show optK (resA _ _ _ [.tmp 4]) _
  simp only [SRO, ↓SP, SZ, ↓reduceIte, reduceCtorEq, nE, nA, nL, nT, sec_neq, sec_eql, hc9]
  refine Lend.eq ?_
  rw [← hx]
theorem c17 (xs : List Wr) (fv : AV) (p : Wr → Bool) (hl : xs.length < 4611686018427387904) (hfv : Idf fv) (hp : ∀ x ∈ xs, Pu Try.prog fv [x.av] (B (p x))) : Pu Try.prog (.fn (.func 17) [] []) [.lst (xs.map Wr.av), fv] (B (xs.any p)) := by
 refine pu_func Try.func17 rfl (by kernel_rfl) (by show _ ≤ 9; simp only [LN]; decide) (by simp only [IDS, eq_true hfv]) (by simp only [IDS, eq_true hfv]) (by simp only [IDS, eq_true hfv]) ?_
 rw [Try.ntmps17]
 refine wpT_seq ?_
 refine wpT_region (by kernel_rfl) (fun K hK => ?_)
 simp only [↓SP, SZ, ↓reduceIte, reduceCtorEq, nE, nA, nL, nT, sec_neq, sec_eql]
 refine hK _ _ ?_
 clear hK K
 refine wpT_seq ?_
 refine wpT_region (by kernel_rfl) (fun K hK => ?_)
 simp only [↓SP, SZ, ↓reduceIte, reduceCtorEq, nE, nA, nL, nT, sec_neq, sec_eql, idxP_ge]
 refine Pu.call (c42 xs fv p hl hfv hp) ?_
 simp only [↓SP, SZ, ↓reduceIte, reduceCtorEq, nE, nA, nL, nT, sec_neq, sec_eql, idxP_ge]
 refine hK _ _ ?_
 clear hK K
 refine wpT_ret ⟨.inr rfl, ?_⟩
 show optK (resA _ _ _ [.tmp 4]) _
 simp only [SRO, ↓SP, SZ, ↓reduceIte, reduceCtorEq, nE, nA, nL, nT, sec_neq, sec_eql]
 exact .refl _
/-- Whether a write contains what a conflict shows. -/
def shP (c : Ct) (x : Wr) : Bool := decide (contW x c.vol c.sec = some c.dat)
theorem c18 (c : Ct) (x : Wr) (h1 : 0 ≤ c.sec) (h2 : c.sec < 4000000) (h3 : 0 ≤ x.start) (h4 : x.start < 4000000) (h5 : x.data.length < 4000000) : Pu Try.prog (.fn (.func 18) [] [.cptr c.one.av]) [x.av] (B (shP c x)) := by
 refine pu_func Try.func18 rfl (by kernel_rfl) (by show _ ≤ 38; simp only [LN]; decide) (by simp only [IDS]) (by simp only [IDS]) (by simp only [IDS]) ?_
 rw [Try.ntmps18]
 have hwr : IntKind.i64.wrap (c.sec - x.start) = c.sec - x.start := wrap64 (by omega) (by omega)
 refine wpT_seq ?_
 refine wpT_region (by kernel_rfl) (fun K hK => ?_)
 simp only [↓SP, SZ, ↓reduceIte, reduceCtorEq, nE, nA, nL, nT, sec_neq, sec_eql, Ct.one, Wr.av, hwr]
 refine hK _ _ ?_
 clear hK K
 refine wpT_seq ?_
 refine wpT_region (by kernel_rfl) (fun K hK => ?_)
 simp only [↓SP, SZ, ↓reduceIte, reduceCtorEq, nE, nA, nL, nT, sec_neq, sec_eql, Ct.one, Wr.av, hwr]
 refine hK _ _ ?_
 clear hK K
 refine wpT_seq ?_
 refine wpT_drawn [] mixed (by kernel_rfl) (m := 29) rfl (fun K hK => ?_)
 simp only [↓SP, SZ, ↓reduceIte, reduceCtorEq, nE, nA, nL, nT, sec_neq, sec_eql, Ct.one, Wr.av, hwr]
 refine guardD_split (fun hg15 => ?_) (fun hg15 => ?_)
 ·
  have p15 := hg15
  try simp only [PB] at p15
  have hv : x.vol = c.vol := by simpa using p15
  simp only [↓SP, SZ, ↓reduceIte, reduceCtorEq, nE, nA, nL, nT, sec_neq, sec_eql, Ct.one, Wr.av, hwr, hg15]
  refine guardD_split (fun hg19 => ?_) (fun hg19 => ?_)
  ·
   have p19 := hg19
   try simp only [PB] at p19
   obtain ⟨k, hk⟩ := Int.eq_ofNat_of_zero_le (a := c.sec - x.start) (by simpa using p19)
   simp only [↓SP, SZ, ↓reduceIte, reduceCtorEq, nE, nA, nL, nT, sec_neq, sec_eql, Ct.one, Wr.av, hwr, hg15, hg19]
   refine guardD_split (fun hg26 => ?_) (fun hg26 => ?_)
   ·
    have p26 := hg26
    try simp only [PB] at p26
    have hkl : k < x.data.length := by rw [hk] at p26; simpa using p26
    have hg := at_map (f := Sec.av) hkl
    have hcw : contW x c.vol c.sec = some x.data[k] := by rw [contW, if_pos ⟨hv, by omega⟩, show (c.sec - x.start).toNat = k by omega, List.getElem?_eq_getElem hkl]
    have z1 : decide ((k : Int) ≥ 0) = true := decide_eq_true (by omega)
    have z2 : decide ((k : Int) < (x.data.length : Int)) = true := decide_eq_true (by omega)
    simp only [↓SP, SZ, ↓reduceIte, reduceCtorEq, nE, nA, nL, nT, sec_neq, sec_eql, Ct.one, Wr.av, hwr, hg15, hg19, hk, hg, z1, z2, hg26]
    refine hK _ _ ?_
    clear hK K
    refine wpT_ret ⟨.inr rfl, ?_⟩
    show optK (resA _ _ _ [.tmp 3]) _
    simp only [SRO, ↓SP, SZ, ↓reduceIte, reduceCtorEq, nE, nA, nL, nT, sec_neq, sec_eql, Ct.one, Wr.av, hwr, hg15, hg19, hk, hg, z1, z2, hg26]
    refine Lend.eq ?_
    rw [shP, hcw]
    simp
   ·
    simp only [Bool.not_true, Bool.not_false] at hg26
    have p26 := hg26
    try simp only [PB] at p26
    simp only [↓SP, SZ, ↓reduceIte, reduceCtorEq, nE, nA, nL, nT, sec_neq, sec_eql, Ct.one, Wr.av, hwr, hg15, hg19, hg26]
    refine hK _ _ ?_
    clear hK K
    refine wpT_ret ⟨.inr rfl, ?_⟩
    show optK (resA _ _ _ [.tmp 3]) _
    simp only [SRO, ↓SP, SZ, ↓reduceIte, reduceCtorEq, nE, nA, nL, nT, sec_neq, sec_eql, Ct.one, Wr.av, hwr, hg15, hg19, hg26]
    refine Lend.eq ?_
    have hcw : contW x c.vol c.sec = none := by rw [contW, if_pos ⟨hv, by omega⟩, List.getElem?_eq_none (by omega)]
    rw [shP, hcw]; rfl
  ·
   simp only [Bool.not_true, Bool.not_false] at hg19
   have p19 := hg19
   try simp only [PB] at p19
   simp only [↓SP, SZ, ↓reduceIte, reduceCtorEq, nE, nA, nL, nT, sec_neq, sec_eql, Ct.one, Wr.av, hwr, hg15, hg19]
   refine hK _ _ ?_
   clear hK K
   refine wpT_ret ⟨.inr rfl, ?_⟩
   show optK (resA _ _ _ [.tmp 3]) _
   simp only [SRO, ↓SP, SZ, ↓reduceIte, reduceCtorEq, nE, nA, nL, nT, sec_neq, sec_eql, Ct.one, Wr.av, hwr, hg15, hg19]
   refine Lend.eq ?_
   have hcw : contW x c.vol c.sec = none := if_neg (by omega)
   rw [shP, hcw]; rfl
 ·
  simp only [Bool.not_true, Bool.not_false] at hg15
  have p15 := hg15
  try simp only [PB] at p15
  simp only [↓SP, SZ, ↓reduceIte, reduceCtorEq, nE, nA, nL, nT, sec_neq, sec_eql, Ct.one, Wr.av, hwr, hg15]
  refine hK _ _ ?_
  clear hK K
  refine wpT_ret ⟨.inr rfl, ?_⟩
  show optK (resA _ _ _ [.tmp 3]) _
  simp only [SRO, ↓SP, SZ, ↓reduceIte, reduceCtorEq, nE, nA, nL, nT, sec_neq, sec_eql, Ct.one, Wr.av, hwr, hg15]
  refine Lend.eq ?_
  have hcw : contW x c.vol c.sec = none := if_neg (fun h => by have := h.1; simp_all)
  rw [shP, hcw]; rfl
end Go.Proofs.Ytfdfkmcplhloaaa
end

section
set_option linter.unusedSimpArgs false
set_option linter.unusedVariables false
namespace Go.Proofs.Ytfdfkmcplhloaaa
open Go.Proofs
open Nat renaming reduceEqDiff → nE, reduceAdd → nA, reduceLeDiff → nL, reduceLT → nT
set_option maxRecDepth 10000
def fewH (h : Hist) : Bool := decide (h.sizes.length ≤ 9) && (decide (h.ws.length ≤ 40) && (decide (h.evs.length ≤ 90) && (h.sizes.all (fun n => decide (n ≤ 24)) && h.ws.all fun w => decide (w.data.length ≤ 30))))
def fewI (im : List (List Sec)) : Bool := decide (im.length ≤ 9) && im.all fun l => decide (l.length ≤ 24)
theorem c8 (h : Hist) (hs : h.ok) : Pu Try.prog (.fn (.func 8) [] []) [h.av] (B (fewH h)) := by
 refine pu_func Try.func8 rfl (by kernel_rfl) (by show _ ≤ 49; simp only [LN]; decide) (by simp only [IDS]) (by simp only [IDS]) (by simp only [IDS]) ?_
 rw [Try.ntmps8]
 obtain ⟨z1, z2, z3, z4⟩ := hs
 refine wpT_seq ?_
 refine wpT_region (by kernel_rfl) (fun K hK => ?_)
 simp only [↓SP, SZ, ↓reduceIte, reduceCtorEq, nE, nA, nL, nT, sec_neq, hist_cs]
 refine hK _ _ ?_
 clear hK K
 refine wpT_seq ?_
 refine wpT_seq ?_
 refine wpT_region (by kernel_rfl) (fun K hK => ?_)
 simp only [↓SP, SZ, ↓reduceIte, reduceCtorEq, nE, nA, nL, nT, sec_neq, hist_cs]
 refine guardO_split (fun hg9 => ?_) (fun hg9 => ?_)
 ·
  have p9 := hg9
  try simp only [PB] at p9
  have y1 : h.sizes.length ≤ 9 := by omega
  simp only [↓SP, SZ, ↓reduceIte, reduceCtorEq, nE, nA, nL, nT, sec_neq, hist_cs, hg9]
  refine guardO_split (fun hg15 => ?_) (fun hg15 => ?_)
  ·
   have p15 := hg15
   try simp only [PB] at p15
   have y2 : h.ws.length ≤ 40 := by omega
   simp only [↓SP, SZ, ↓reduceIte, reduceCtorEq, nE, nA, nL, nT, sec_neq, hist_cs, hg9, hg15]
   refine hK _ _ ?_
   clear hK K
   refine wpT_if (by rfl) (fun hc20 => ?_) (fun hc20 => ?_)
   ·
    have p20 := hc20
    try simp only [PB] at p20
    have hx : fewH h = false := by
      first
        | exact hx
        | (rw [fewH, decide_eq_true y1, decide_eq_true y2, decide_eq_false (p := h.evs.length ≤ 90) (by omega)]; rfl)
    refine wpT_seq ?_
    refine wpT_region (by kernel_rfl) (fun K hK => ?_)
    simp only [↓SP, SZ, ↓reduceIte, reduceCtorEq, nE, nA, nL, nT, sec_neq, hist_cs, hg9, hg15, hc20]
    refine hK _ _ ?_
    clear hK K
    refine wpT_ret ⟨.inr rfl, ?_⟩
    show optK (resA _ _ _ [.tmp 2]) _
    simp only [SRO, ↓SP, SZ, ↓reduceIte, reduceCtorEq, nE, nA, nL, nT, sec_neq, hist_cs, hg9, hg15, hc20]
    rw [hx]
    exact .refl _
   ·
    have p20 := hc20
    try simp only [PB] at p20
    have y3 : h.evs.length ≤ 90 := by omega
    have hx0 : fewH h = (h.sizes.all (fun n => decide (n ≤ 24)) && h.ws.all fun w => decide (w.data.length ≤ 30)) := by rw [fewH, decide_eq_true y1, decide_eq_true y2, decide_eq_true y3]; simp
    refine wpT_skip ?_
    refine wpT_seq ?_
    refine wpT_seq ?_
    refine wpT_region (by kernel_rfl) (fun K hK => ?_)
    simp only [↓SP, SZ, ↓reduceIte, reduceCtorEq, nE, nA, nL, nT, sec_neq, hist_cs, hg9, hg15, hc20]
    refine hK _ _ ?_
    clear hK K
    refine wpT_block ?_
    refine wpT_loop ?_
    refine wpT_keep1 (i := 0) (o := .arr 26 3 [h.av]) (by simp only [↓SP, SZ, ↓reduceIte, reduceCtorEq, nE, nA, nL, nT, sec_neq]) ?_
    refine wpT_ind (fun (i : Nat) tm' h' => (∃ m, h' = Hp.of [(0, .arr 26 3 [h.av])] (m + 1)) ∧ tm' 1 = .ptr 0 1 0 0 ∧ tm' 3 = I i ∧ i ≤ h.sizes.length ∧ ((h.sizes.drop i).all fun n => decide (n ≤ 24)) = h.sizes.all fun n => decide (n ≤ 24)) (fun i => h.sizes.length - i) ?_ 0 ⟨⟨0, rfl⟩, rfl, rfl, by omega, rfl⟩
    rintro i tm' _ ⟨⟨m, rfl⟩, e1, e3, hi, hA⟩ IH
    refine wpT_inLoop ?_
    refine wpT_seq ?_
    refine wpT_seq ?_
    refine wpT_region (by kernel_rfl) (fun K hK => ?_)
    simp only [↓SP, SZ, ↓reduceIte, reduceCtorEq, nE, nA, nL, nT, sec_neq, hist_cs, e1, e3]
    refine hK _ _ ?_
    clear hK K
    refine wpT_if (by rfl) (fun hc25 => ?_) (fun hc25 => ?_)
    ·
     have p25 := hc25
     try simp only [PB] at p25
     have hlt : i < h.sizes.length := by omega
     have hg := at_map (f := I) hlt
     rw [List.drop_eq_getElem_cons hlt, List.all_cons] at hA
     refine wpT_skip ?_
     refine wpT_seq ?_
     refine wpT_block ?_
     refine wpT_seq ?_
     refine wpT_region (by kernel_rfl) (fun K hK => ?_)
     simp only [↓SP, SZ, ↓reduceIte, reduceCtorEq, nE, nA, nL, nT, sec_neq, hist_cs, e1, e3, hg, hc25]
     refine hK _ _ ?_
     clear hK K
     refine wpT_if (by rfl) (fun hc33 => ?_) (fun hc33 => ?_)
     ·
      have p33 := hc33
      try simp only [PB] at p33
      rw [decide_eq_false (by omega)] at hA
      have hx : fewH h = false := by rw [hx0, ← hA]; rfl
      refine wpT_seq ?_
      refine wpT_region (by kernel_rfl) (fun K hK => ?_)
      simp only [↓SP, SZ, ↓reduceIte, reduceCtorEq, nE, nA, nL, nT, sec_neq, hist_cs, hc25, hc33]
      refine hK _ _ ?_
      clear hK K
      refine wpT_ret ⟨.inr rfl, ?_⟩
      show optK (resA _ _ _ [.tmp 2]) _
      simp only [SRO, ↓SP, SZ, ↓reduceIte, reduceCtorEq, nE, nA, nL, nT, sec_neq, hist_cs, hc25, hc33]
      rw [hx]
      exact .refl _
     ·
      have p33 := hc33
      try simp only [PB] at p33
      rw [decide_eq_true (by omega), Bool.true_and] at hA
      refine wpT_skip ?_
      refine wpT_inBlock ?_
      refine wpT_region (by kernel_rfl) (fun K hK => ?_)
      simp only [↓SP, SZ, ↓reduceIte, reduceCtorEq, nE, nA, nL, nT, sec_neq, hist_cs, e3, wrap64 (x := (i : Int) + 1) (by omega) (by omega), hc25, hc33]
      refine hK _ _ ?_
      clear hK K
      refine wpT_keep1 (i := 0) (o := .arr 26 3 [h.av]) (by simp only [↓SP, SZ, ↓reduceIte, reduceCtorEq, nE, nA, nL, nT, sec_neq]) ?_
      refine IH (i + 1) _ _ (by omega) ⟨⟨_, rfl⟩, by simp only [↓SP, SZ, ↓reduceIte, reduceCtorEq, nE, nA, nL, nT, sec_neq, e1], by simp only [↓SP, SZ, ↓reduceIte, reduceCtorEq, nE, nA, nL, nT, sec_neq, Int.natCast_add, Int.cast_ofNat_Int], by omega, hA⟩
    ·
     have p25 := hc25
     try simp only [PB] at p25
     rw [List.drop_eq_nil_of_le (by omega)] at hA
     refine wpT_exit rfl ?_
     refine wpT_seq ?_
     refine wpT_seq ?_
     refine wpT_region (by kernel_rfl) (fun K hK => ?_)
     simp only [↓SP, SZ, ↓reduceIte, reduceCtorEq, nE, nA, nL, nT, sec_neq, hist_cs, hc25]
     refine hK _ _ ?_
     clear hK K
     refine wpT_block ?_
     refine wpT_loop ?_
     clear IH
     refine wpT_ind (fun (i : Nat) tm' h' => (∃ m, h' = Hp.of [(0, .arr 26 3 [h.av])] (m + 1)) ∧ tm' 1 = .ptr 0 1 0 0 ∧ tm' 4 = I i ∧ i ≤ h.ws.length ∧ ((h.ws.drop i).all fun w => decide (w.data.length ≤ 30)) = h.ws.all fun w => decide (w.data.length ≤ 30)) (fun i => h.ws.length - i) ?_ 0 ⟨⟨_, rfl⟩, by simp only [↓SP, SZ, ↓reduceIte, reduceCtorEq, nE, nA, nL, nT, sec_neq, e1], rfl, by omega, rfl⟩
     clear e1 e3
     rintro j tm' _ ⟨⟨m, rfl⟩, e1, e4, hj, hB⟩ IH
     refine wpT_inLoop ?_
     refine wpT_seq ?_
     refine wpT_seq ?_
     refine wpT_region (by kernel_rfl) (fun K hK => ?_)
     simp only [↓SP, SZ, ↓reduceIte, reduceCtorEq, nE, nA, nL, nT, sec_neq, hist_cs, e1, e4]
     refine hK _ _ ?_
     clear hK K
     refine wpT_if (by rfl) (fun hc38 => ?_) (fun hc38 => ?_)
     ·
      have p38 := hc38
      try simp only [PB] at p38
      have hlt : j < h.ws.length := by omega
      have hg := at_map (f := Wr.av) hlt
      have hwl := z4 _ (List.getElem_mem hlt)
      unfold Wr.ok at hwl
      rw [List.drop_eq_getElem_cons hlt, List.all_cons] at hB
      refine wpT_skip ?_
      refine wpT_seq ?_
      refine wpT_block ?_
      refine wpT_seq ?_
      refine wpT_region (by kernel_rfl) (fun K hK => ?_)
      simp only [↓SP, SZ, ↓reduceIte, reduceCtorEq, nE, nA, nL, nT, sec_neq, hist_cs, e1, e4, hg, Wr.av, hc38]
      refine hK _ _ ?_
      clear hK K
      refine wpT_if (by rfl) (fun hc48 => ?_) (fun hc48 => ?_)
      ·
       have p48 := hc48
       try simp only [PB] at p48
       rw [decide_eq_false (by omega)] at hB
       have hx : fewH h = false := by rw [hx0, ← hB]; simp
       refine wpT_seq ?_
       refine wpT_region (by kernel_rfl) (fun K hK => ?_)
       simp only [↓SP, SZ, ↓reduceIte, reduceCtorEq, nE, nA, nL, nT, sec_neq, hist_cs, hc38, hc48]
       refine hK _ _ ?_
       clear hK K
       refine wpT_ret ⟨.inr rfl, ?_⟩
       show optK (resA _ _ _ [.tmp 2]) _
       simp only [SRO, ↓SP, SZ, ↓reduceIte, reduceCtorEq, nE, nA, nL, nT, sec_neq, hist_cs, hc38, hc48]
       rw [hx]
       exact .refl _
      ·
       have p48 := hc48
       try simp only [PB] at p48
       rw [decide_eq_true (by omega), Bool.true_and] at hB
       refine wpT_skip ?_
       refine wpT_inBlock ?_
       refine wpT_region (by kernel_rfl) (fun K hK => ?_)
       simp only [↓SP, SZ, ↓reduceIte, reduceCtorEq, nE, nA, nL, nT, sec_neq, hist_cs, e4, wrap64 (x := (j : Int) + 1) (by omega) (by omega), hc38, hc48]
       refine hK _ _ ?_
       clear hK K
       refine wpT_keep1 (i := 0) (o := .arr 26 3 [h.av]) (by simp only [↓SP, SZ, ↓reduceIte, reduceCtorEq, nE, nA, nL, nT, sec_neq]) ?_
       refine IH (j + 1) _ _ (by omega) ⟨⟨_, rfl⟩, by simp only [↓SP, SZ, ↓reduceIte, reduceCtorEq, nE, nA, nL, nT, sec_neq, e1], by simp only [↓SP, SZ, ↓reduceIte, reduceCtorEq, nE, nA, nL, nT, sec_neq, Int.natCast_add, Int.cast_ofNat_Int], by omega, hB⟩
     ·
      have p38 := hc38
      try simp only [PB] at p38
      rw [List.drop_eq_nil_of_le (by omega)] at hB
      have hx : fewH h = true := by rw [hx0, ← hA, ← hB]; rfl
      refine wpT_exit rfl ?_
      refine wpT_seq ?_
      refine wpT_region (by kernel_rfl) (fun K hK => ?_)
      simp only [↓SP, SZ, ↓reduceIte, reduceCtorEq, nE, nA, nL, nT, sec_neq, hist_cs, hc38]
      refine hK _ _ ?_
      clear hK K
      refine wpT_ret ⟨.inr rfl, ?_⟩
      show optK (resA _ _ _ [.tmp 2]) _
      simp only [SRO, ↓SP, SZ, ↓reduceIte, reduceCtorEq, nE, nA, nL, nT, sec_neq, hist_cs, hc38]
      rw [hx]
      exact .refl _
  ·
   simp only [Bool.not_true, Bool.not_false] at hg15
   have p15 := hg15
   try simp only [PB] at p15
   have hx : fewH h = false := by rw [fewH, decide_eq_true y1, decide_eq_false (p := h.ws.length ≤ 40) (by omega)]; rfl
   simp only [↓SP, SZ, ↓reduceIte, reduceCtorEq, nE, nA, nL, nT, sec_neq, hist_cs, hg9, hg15]
   refine hK _ _ ?_
   clear hK K
   refine wpT_ifT (by simp only [↓SP, SZ, ↓reduceIte, reduceCtorEq, nE, nA, nL, nT, sec_neq, hist_cs, hg9, hg15]) ?_
   have hx : fewH h = false := by
     first
       | exact hx
       | (rw [fewH, decide_eq_true y1, decide_eq_true y2, decide_eq_false (p := h.evs.length ≤ 90) (by omega)]; rfl)
   refine wpT_seq ?_
   refine wpT_region (by kernel_rfl) (fun K hK => ?_)
   simp only [↓SP, SZ, ↓reduceIte, reduceCtorEq, nE, nA, nL, nT, sec_neq, hist_cs, hg9, hg15]
   refine hK _ _ ?_
   clear hK K
   refine wpT_ret ⟨.inr rfl, ?_⟩
   show optK (resA _ _ _ [.tmp 2]) _
   simp only [SRO, ↓SP, SZ, ↓reduceIte, reduceCtorEq, nE, nA, nL, nT, sec_neq, hist_cs, hg9, hg15]
   rw [hx]
   exact .refl _
 ·
  simp only [Bool.not_true, Bool.not_false] at hg9
  have p9 := hg9
  try simp only [PB] at p9
  have hx : fewH h = false := by rw [fewH, decide_eq_false (by omega)]; rfl
  simp only [↓SP, SZ, ↓reduceIte, reduceCtorEq, nE, nA, nL, nT, sec_neq, hist_cs, hg9]
  refine hK _ _ ?_
  clear hK K
  refine wpT_ifT (by simp only [↓SP, SZ, ↓reduceIte, reduceCtorEq, nE, nA, nL, nT, sec_neq, hist_cs, hg9]) ?_
  have hx : fewH h = false := by
    first
      | exact hx
      | (rw [fewH, decide_eq_true y1, decide_eq_true y2, decide_eq_false (p := h.evs.length ≤ 90) (by omega)]; rfl)
  refine wpT_seq ?_
  refine wpT_region (by kernel_rfl) (fun K hK => ?_)
  simp only [↓SP, SZ, ↓reduceIte, reduceCtorEq, nE, nA, nL, nT, sec_neq, hist_cs, hg9]
  refine hK _ _ ?_
  clear hK K
  refine wpT_ret ⟨.inr rfl, ?_⟩
  show optK (resA _ _ _ [.tmp 2]) _
  simp only [SRO, ↓SP, SZ, ↓reduceIte, reduceCtorEq, nE, nA, nL, nT, sec_neq, hist_cs, hg9]
  rw [hx]
  exact .refl _
theorem few_sm {h : Hist} (e : fewH h = true) : h.sm := by
  simp only [fewH, Bool.and_eq_true, decide_eq_true_eq, List.all_eq_true] at e
  obtain ⟨h1, h2, h3, h4, h5⟩ := e
  exact ⟨by omega, by omega, by omega, fun w hw => by have := h5 w hw; omega⟩
theorem c36 (im : List (List Sec)) (hl : im.length < 4611686018427387904) (hm : ∀ l ∈ im, l.length < 4611686018427387904) : Pu Try.prog (.fn (.func 36) [] []) [imgAV im] (B (fewI im)) := by
 refine pu_func Try.func36 rfl (by kernel_rfl) (by show _ ≤ 19; simp only [LN]; decide) (by simp only [IDS]) (by simp only [IDS]) (by simp only [IDS]) ?_
 rw [Try.ntmps36]
 refine wpT_seq ?_
 refine wpT_region (by kernel_rfl) (fun K hK => ?_)
 simp only [↓SP, SZ, ↓reduceIte, reduceCtorEq, nE, nA, nL, nT, sec_neq, imgAV]
 refine hK _ _ ?_
 clear hK K
 refine wpT_seq ?_
 refine wpT_seq ?_
 refine wpT_region (by kernel_rfl) (fun K hK => ?_)
 simp only [↓SP, SZ, ↓reduceIte, reduceCtorEq, nE, nA, nL, nT, sec_neq, imgAV]
 refine hK _ _ ?_
 clear hK K
 refine wpT_if (by rfl) (fun hc6 => ?_) (fun hc6 => ?_)
 ·
  have p6 := hc6
  try simp only [PB] at p6
  have hx : fewI im = false := by rw [fewI, decide_eq_false (by omega)]; rfl
  refine wpT_seq ?_
  refine wpT_region (by kernel_rfl) (fun K hK => ?_)
  simp only [↓SP, SZ, ↓reduceIte, reduceCtorEq, nE, nA, nL, nT, sec_neq, imgAV, hc6]
  refine hK _ _ ?_
  clear hK K
  refine wpT_ret ⟨.inr rfl, ?_⟩
  show optK (resA _ _ _ [.tmp 2]) _
  simp only [SRO, ↓SP, SZ, ↓reduceIte, reduceCtorEq, nE, nA, nL, nT, sec_neq, imgAV, hc6]
  rw [hx]
  exact .refl _
 ·
  have p6 := hc6
  try simp only [PB] at p6
  have hx0 : fewI im = im.all fun l => decide (l.length ≤ 24) := by rw [fewI, decide_eq_true (by omega), Bool.true_and]
  refine wpT_skip ?_
  refine wpT_seq ?_
  refine wpT_seq ?_
  refine wpT_region (by kernel_rfl) (fun K hK => ?_)
  simp only [↓SP, SZ, ↓reduceIte, reduceCtorEq, nE, nA, nL, nT, sec_neq, imgAV, hc6]
  refine hK _ _ ?_
  clear hK K
  refine wpT_block ?_
  refine wpT_loop ?_
  refine wpT_keep0 ?_
  refine wpT_ind (fun (i : Nat) tm' h' => (∃ m, h' = Hp.of [] m) ∧ tm' 0 = imgAV im ∧ tm' 3 = I i ∧ i ≤ im.length ∧ ((im.drop i).all fun l => decide (l.length ≤ 24)) = im.all fun l => decide (l.length ≤ 24)) (fun i => im.length - i) ?_ 0 ⟨⟨_, rfl⟩, rfl, rfl, by omega, rfl⟩
  rintro i tm' _ ⟨⟨m, rfl⟩, e0, e3, hi, hA⟩ IH
  refine wpT_inLoop ?_
  refine wpT_seq ?_
  refine wpT_seq ?_
  refine wpT_region (by kernel_rfl) (fun K hK => ?_)
  simp only [↓SP, SZ, ↓reduceIte, reduceCtorEq, nE, nA, nL, nT, sec_neq, imgAV, e0, e3]
  refine hK _ _ ?_
  clear hK K
  refine wpT_if (by rfl) (fun hc10 => ?_) (fun hc10 => ?_)
  ·
   have p10 := hc10
   try simp only [PB] at p10
   have hlt : i < im.length := by omega
   have hg := at_map (f := fun l : List Sec => AV.lst (l.map Sec.av)) hlt
   have hml := hm _ (List.getElem_mem hlt)
   rw [List.drop_eq_getElem_cons hlt, List.all_cons] at hA
   refine wpT_skip ?_
   refine wpT_seq ?_
   refine wpT_block ?_
   refine wpT_seq ?_
   refine wpT_region (by kernel_rfl) (fun K hK => ?_)
   simp only [↓SP, SZ, ↓reduceIte, reduceCtorEq, nE, nA, nL, nT, sec_neq, imgAV, e0, e3, hg, hc10]
   refine hK _ _ ?_
   clear hK K
   refine wpT_if (by rfl) (fun hc18 => ?_) (fun hc18 => ?_)
   ·
    have p18 := hc18
    try simp only [PB] at p18
    rw [decide_eq_false (by omega)] at hA
    have hx : fewI im = false := by rw [hx0, ← hA]; rfl
    refine wpT_seq ?_
    refine wpT_region (by kernel_rfl) (fun K hK => ?_)
    simp only [↓SP, SZ, ↓reduceIte, reduceCtorEq, nE, nA, nL, nT, sec_neq, imgAV, hc10, hc18]
    refine hK _ _ ?_
    clear hK K
    refine wpT_ret ⟨.inr rfl, ?_⟩
    show optK (resA _ _ _ [.tmp 2]) _
    simp only [SRO, ↓SP, SZ, ↓reduceIte, reduceCtorEq, nE, nA, nL, nT, sec_neq, imgAV, hc10, hc18]
    rw [hx]
    exact .refl _
   ·
    have p18 := hc18
    try simp only [PB] at p18
    rw [decide_eq_true (by omega), Bool.true_and] at hA
    refine wpT_skip ?_
    refine wpT_inBlock ?_
    refine wpT_region (by kernel_rfl) (fun K hK => ?_)
    simp only [↓SP, SZ, ↓reduceIte, reduceCtorEq, nE, nA, nL, nT, sec_neq, imgAV, e3, wrap64 (x := (i : Int) + 1) (by omega) (by omega), hc10, hc18]
    refine hK _ _ ?_
    clear hK K
    refine wpT_keep0 ?_
    refine IH (i + 1) _ _ (by omega) ⟨⟨_, rfl⟩, by simp only [↓SP, SZ, ↓reduceIte, reduceCtorEq, nE, nA, nL, nT, sec_neq, e0], by simp only [↓SP, SZ, ↓reduceIte, reduceCtorEq, nE, nA, nL, nT, sec_neq, Int.natCast_add, Int.cast_ofNat_Int], by omega, hA⟩
  ·
   have p10 := hc10
   try simp only [PB] at p10
   rw [List.drop_eq_nil_of_le (by omega)] at hA
   have hx : fewI im = true := by rw [hx0, ← hA]; rfl
   refine wpT_exit rfl ?_
   refine wpT_seq ?_
   refine wpT_region (by kernel_rfl) (fun K hK => ?_)
   simp only [↓SP, SZ, ↓reduceIte, reduceCtorEq, nE, nA, nL, nT, sec_neq, imgAV, hc10]
   refine hK _ _ ?_
   clear hK K
   refine wpT_ret ⟨.inr rfl, ?_⟩
   show optK (resA _ _ _ [.tmp 2]) _
   simp only [SRO, ↓SP, SZ, ↓reduceIte, reduceCtorEq, nE, nA, nL, nT, sec_neq, imgAV, hc10]
   rw [hx]
   exact .refl _
end Go.Proofs.Ytfdfkmcplhloaaa
end

section
set_option linter.unusedSimpArgs false
set_option linter.unusedVariables false
namespace Go.Proofs.Ytfdfkmcplhloaaa
open Go.Proofs
open Nat renaming reduceEqDiff → nE, reduceAdd → nA, reduceLeDiff → nL, reduceLT → nT
set_option maxRecDepth 10000
/-- What is in a timeline stands among the events. -/
structure TL.has (t : TL) (es : List Evn) : Prop where
  iss : ∀ w : Int, (⟨0, w⟩ : Evn) ∈ es ↔ 0 ≤ w ∧ w < t.iss.length
  ack : ∀ w : Int, (⟨1, w⟩ : Evn) ∈ es ↔ 0 ≤ w ∧ w < t.iss.length ∧ 0 ≤ t.ack.getD w.toNat 0
end Go.Proofs.Ytfdfkmcplhloaaa
end

section
set_option linter.unusedSimpArgs false
set_option linter.unusedVariables false
namespace Go.Proofs.Ytfdfkmcplhloaaa
open Go.Proofs
open Nat renaming reduceEqDiff → nE, reduceAdd → nA, reduceLeDiff → nL, reduceLT → nT
set_option maxRecDepth 10000
def conS (w : Wr) (v k : Int) : Sec := (contW w v k).getD sec0
def conO (w : Wr) (v k : Int) : Bool := (contW w v k).isSome
/-- The contents before place k of write i. -/
def preM (ws : List Wr) (i k : Nat) : List (Ct × Int) := ctsH 0 (ws.take i) ++ (ctsW (wrAt ws i).vol (wrAt ws i).start ((wrAt ws i).data.take k)).map fun c => (c, (i : Int))
def sufM (ws : List Wr) (i k : Nat) : List (Ct × Int) := (ctsW (wrAt ws i).vol ((wrAt ws i).start + k) ((wrAt ws i).data.drop k)).map (fun c => (c, (i : Int))) ++ ctsH (i + 1) (ws.drop (i + 1))
theorem start_small {h : Hist} (eh : histE h = 0) {w : Wr} (hw : w ∈ h.ws) : 0 ≤ w.start ∧ w.start < 4000000 := by
  obtain ⟨f1, f2, f3, f4, f5⟩ := fitsE_ok (fitsAll_mem (hist_ok eh).2.2.1 _ hw)
  have hvl : w.vol.toNat < h.sizes.length := by omega
  have f6 := sizesE_le (hist_ok eh).1 _ (List.getElem_mem hvl)
  have f7 : h.sizes.getD w.vol.toNat 0 = h.sizes[w.vol.toNat] := by simp [hvl]
  exact ⟨f4, by omega⟩
end Go.Proofs.Ytfdfkmcplhloaaa
end

section
set_option linter.unusedSimpArgs false
set_option linter.unusedVariables false
namespace Go.Proofs.Ytfdfkmcplhloaaa
open Go.Proofs
open Nat renaming reduceEqDiff → nE, reduceAdd → nA, reduceLeDiff → nL, reduceLT → nT
set_option maxRecDepth 10000
def authN (h : Hist) (c : Ct) : Int := (assoc c (ctsH 0 h.ws)).getD (-1)
end Go.Proofs.Ytfdfkmcplhloaaa
end

section
set_option linter.unusedSimpArgs false
set_option linter.unusedVariables false
namespace Go.Proofs.Ytfdfkmcplhloaaa
open Go.Proofs
open Nat renaming reduceEqDiff → nE, reduceAdd → nA, reduceLeDiff → nL, reduceLT → nT
set_option maxRecDepth 10000
def mpL (n : Nat) (f : Nat → Bool) (b : Nat) : List Bool := (List.range n).map fun j => decide (j < b) && f j
def flL (c : Int) (k L : Nat) : List Int := List.replicate k c ++ List.replicate (L - k) 0
def rowR (h : Hist) (a : Nat) : List Bool := (List.range h.ws.length).map fun b => befT (histRun h).2 a b
def tabR (h : Hist) : List (List Bool) := (List.range h.ws.length).map (rowR h)
def tabAV (t : List (List Bool)) : AV := .lst (t.map fun r => .lst (r.map B))
end Go.Proofs.Ytfdfkmcplhloaaa
end
