/- Walks: the greatest cut within a set.
  Walks: whether a set of writes is closed.
  Walks: copies of lists; an image copied, as owned arrays.
  Walks: an image behind writes.
  Walks: the image of a set of writes; closed sets; equal images.
  Walks: the contents of the writes of a history.
  Walks: the sectors of an image; what the search of a candidate does with them.
  Walks: the two visits in the search of a candidate.
  Walks: the search of a candidate. -/
import Derived.Test.YtfdfkmcplhloaaaGreatF2
section
set_option linter.unusedSimpArgs false
set_option linter.unusedVariables false
namespace Go.Proofs.YtfdfkmcplhloaaaGreat
open Go.Proofs
open Nat renaming reduceEqDiff → nE, reduceAdd → nA, reduceLeDiff → nL, reduceLT → nT
set_option maxRecDepth 10000
def greatC (t : TL) (l : List Int) (n : Nat) (done : List Int) (x : Nat) : Bool := decide ((x : Int) ∈ l) && (!decide ((x : Int) ∈ done) || (List.range n).all fun a => decide ((a : Int) ∈ l) || !befT t a x)
def greatM (t : TL) (l : List Int) (n : Nat) (done : List Int) (b j x : Nat) : Bool := if x = b then decide ((b : Int) ∈ l) && (List.range j).all fun a => decide ((a : Int) ∈ l) || !befT t a b else greatC t l n done x
theorem greatM_zero {t : TL} {l done : List Int} {n b x : Nat} (hb : ¬ (b : Int) ∈ done) : greatM t l n done b 0 x = greatC t l n done x := by
  unfold greatM greatC
  split
  · rename_i e; subst e; simp [hb]
  · rfl
theorem greatM_all {t : TL} {l done : List Int} {n b x : Nat} : greatM t l n done b n x = greatC t l n (done ++ [(b : Int)]) x := by
  unfold greatM greatC
  split
  · rename_i e; subst e; simp
  · rename_i e
    have : ¬ (x : Int) = b := by omega
    simp [this]
theorem greatM_succ {t : TL} {l done : List Int} {n b j x : Nat} : greatM t l n done b (j + 1) x = if x = b then greatM t l n done b j b && (decide ((j : Int) ∈ l) || !befT t j b) else greatM t l n done b j x := by
  unfold greatM
  by_cases h : x = b
  · subst h
    simp only [if_true, List.range_succ, List.all_append, List.all_cons, List.all_nil, Bool.and_true, Bool.and_assoc]
  · simp only [if_neg h]
def greatL (h : Hist) (l : List Int) : List Int := if setsE h [l] ≠ 0 then [] else greatR (histRun h).2 h.ws.length l
def grI (h : Hist) (l xs : List Int) (lid : Nat) (fid : FuncId) (ps : Array Tmp) (assign body : Code) (tm : Tm) (rem : List Int) (H : Hp) : Prop :=
  ∃ (done : List Int) (cur : List Bool), 7 ≤ H.nx ∧ H.get 2 = some (.arr 101 1 [relH h]) ∧ H.get 3 = some (.arr 102 1 [.lst [.lst ((markL h.ws.length l).map B)]]) ∧ H.get 4 = some (.arr 4 1 (cur.map B)) ∧ H.get 5 = some (.arr 105 1 [.sl 4 h.ws.length 0 h.ws.length]) ∧ H.get 6 = some (.loop lid fid ps assign body tm 64 .ready none) ∧ done ++ rem = xs ∧ cur.length = h.ws.length ∧ ∀ a, a < h.ws.length → cur.getD a false = greatC (histRun h).2 l h.ws.length done a
theorem setP_notin {n : Nat} {b : Int} {ys : List Int} : ∀ {p : Int} {done : List Int}, setP n p (done ++ b :: ys) = true → ¬ b ∈ done
  | _, [], _ => by simp
  | p, x :: xs, h => by
    rw [List.cons_append, setP] at h
    split at h
    · simp at h
    · have := setP_mem h b (by simp)
      simp only [List.mem_cons, not_or]
      exact ⟨by omega, setP_notin h⟩
theorem greatF (h : Hist) (l : List Int) (hs : h.sm) (hl : l.length < 4000000) : Pu Tryz.prog (.fn (.func 25) [] []) [h.av, .lst (l.map I)] (.tup [.lst ((greatL h l).map I), I (setsE h [l])]) := by
 refine pu_func Tryz.func25 rfl (by kernel_rfl) (by show _ ≤ 64; simp only [List.length_append, List.length_cons, List.length_nil]; decide) (by simp only [IDF, and_tt, implies_true]) (by simp only [IDF, and_tt, implies_true]) (by simp only [IDF, hist_idf, and_tt, implies_true]) ?_
 have hw := hs.2.1
 obtain ⟨rc1, rc2, rc3⟩ := setsR_cells h [l]
 have mc1 : (marksAV (setsM h [l])).cells = [marksAV (setsM h [l])] := rfl
 have mc2 : (marksAV (setsM h [l])).okc = true := rfl
 have mc3 : (marksAV (setsM h [l])).isAgg = false := rfl
 rw [Tryz.ntmps25]
 refine wpT_seq ?_
 refine wpT_region (by kernel_rfl) (fun K hK => ?_)
 simp only [↓SP, SZ, ↓reduceIte, reduceCtorEq, nE, nA, nL, nT, rc1, rc2, rc3, mc1, mc2, mc3]
 refine hK _ _ ?_
 clear hK K
 refine wpT_seq ?_
 refine wpT_region (by kernel_rfl) (fun K hK => ?_)
 simp only [↓SP, SZ, ↓reduceIte, reduceCtorEq, nE, nA, nL, nT, rc1, rc2, rc3, mc1, mc2, mc3]
 refine Pu.freeze (setsF h [l] hs (by simp) (by simpa using hl)) 1 (LendL.cons (.refl _) (LendL.cons (.refl _) (LendL.cons (Lend.sl0 (E := 22) (s := 1) (es := [.lst (l.map I)]) (by simp only [↓SP, SZ, ↓reduceIte, reduceCtorEq, nE, nA, nL, nT]) rfl (by simp [AV.okc])) LendL.nil))) ?_
 simp only [↓SP, SZ, ↓reduceIte, reduceCtorEq, nE, nA, nL, nT, rc1, rc2, rc3, mc1, mc2, mc3]
 refine hK _ _ ?_
 clear hK K
 refine wpT_seq ?_
 refine wpT_seq ?_
 refine wpT_region (by kernel_rfl) (fun K hK => ?_)
 simp only [↓SP, SZ, ↓reduceIte, reduceCtorEq, nE, nA, nL, nT, rc1, rc2, rc3, mc1, mc2, mc3]
 refine hK _ _ ?_
 clear hK K
 refine wpT_if (by rfl) (fun hc21 => ?_) (fun hc21 => ?_)
 ·
  have p21 := hc21
  try simp only [PB] at p21
  have hx : greatL h l = [] := if_pos p21
  refine wpT_seq ?_
  refine wpT_region (by kernel_rfl) (fun K hK => ?_)
  simp only [↓SP, SZ, ↓reduceIte, reduceCtorEq, nE, nA, nL, nT, rc1, rc2, rc3, mc1, mc2, mc3, hc21]
  refine hK _ _ ?_
  clear hK K
  refine wpT_ret ⟨.inr rfl, ?_⟩
  show optK (resA _ _ _ [.tmp 4, .tmp 5]) _
  simp only [SRO, ↓SP, SZ, ↓reduceIte, reduceCtorEq, nE, nA, nL, nT, rc1, rc2, rc3, mc1, mc2, mc3, hc21]
  rw [hx]
  exact Lend.tupL (LendL.cons .nil0 (LendL.cons (.refl _) LendL.nil))
 ·
  have p21 := hc21
  try simp only [PB] at p21
  have e0 : setsE h [l] = 0 := by simpa using p21
  have eh : histE h = 0 := by
    unfold setsE at e0
    split at e0
    · omega
    · rename_i h0; exact Classical.not_not.1 h0
  have hset : setP h.ws.length (-1) l = true := by
    unfold setsE at e0
    rw [if_neg (by omega)] at e0
    split at e0
    · rename_i h1; simpa using h1
    · simp at e0
  have hx : greatL h l = greatR (histRun h).2 h.ws.length l := if_neg (by omega)
  have hx1 : setsR h [l] = relH h := if_neg (by omega)
  have hx2 : setsM h [l] = [markL h.ws.length l] := if_neg (by omega)
  have rh1 : (relH h).cells = [relH h] := rfl
  have rh2 : (relH h).okc = true := rfl
  have rh3 : (relH h).isAgg = false := rfl
  refine wpT_skip ?_
  refine wpT_seq ?_
  refine wpT_region (by kernel_rfl) (fun K hK => ?_)
  simp only [↓SP, SZ, ↓reduceIte, reduceCtorEq, nE, nA, nL, nT, rc1, rc2, rc3, mc1, mc2, mc3, hx2, marksAV, markL_length, hc21]
  refine Nu.call (cloneM (markL h.ws.length l) (by rw [markL_length]; omega)) ?_
  simp only [↓SP, SZ, ↓reduceIte, reduceCtorEq, nE, nA, nL, nT, rc1, rc2, rc3, mc1, mc2, mc3, hx2, marksAV, markL_length, hc21]
  refine hK _ _ ?_
  clear hK K
  refine wpT_seq ?_
  refine wpT_seq ?_
  refine wpT_region (by kernel_rfl) (fun K hK => ?_)
  simp only [↓SP, SZ, ↓reduceIte, reduceCtorEq, nE, nA, nL, nT, rc1, rc2, rc3, mc1, mc2, mc3, hx2, marksAV, hc21]
  refine Pu.call (c53 (markL h.ws.length l)) ?_
  simp only [↓SP, SZ, ↓reduceIte, reduceCtorEq, nE, nA, nL, nT, rc1, rc2, rc3, mc1, mc2, mc3, hx2, marksAV, hc21]
  refine hK _ _ ?_
  clear hK K
  refine wpT_block ?_
  rw [hx1] at rc1 rc2 rc3 ⊢
  refine wpT_keep4 (i := 2) (j := 3) (k := 4) (l := 5) (o := .arr 101 1 [relH h]) (q := .arr 102 1 [.lst [.lst ((markL h.ws.length l).map B)]]) (r := .arr 4 1 ((markL h.ws.length l).map B)) (s := .arr 105 1 [.sl 4 h.ws.length 0 h.ws.length]) (by simp only [↓SP, SZ, ↓reduceIte, reduceCtorEq, nE, nA, nL, nT, rh1, rh2, rh3]) (by simp only [↓SP, SZ, ↓reduceIte, reduceCtorEq, nE, nA, nL, nT, hx2, marksAV]) (by simp only [↓SP, SZ, ↓reduceIte, reduceCtorEq, nE, nA, nL, nT]) (by simp only [↓SP, SZ, ↓reduceIte, reduceCtorEq, nE, nA, nL, nT, markL_length]) ?_
  refine wpT_ind (fun (_ : Unit) tm' h' => h' = Hp.of [(2, .arr 101 1 [relH h]), (3, .arr 102 1 [.lst [.lst ((markL h.ws.length l).map B)]]), (4, .arr 4 1 ((markL h.ws.length l).map B)), (5, .arr 105 1 [.sl 4 h.ws.length 0 h.ws.length])] 6 ∧ tm' 6 = .ptr 2 1 0 0 ∧ tm' 7 = .ptr 3 1 0 0 ∧ tm' 9 = .ptr 5 1 0 0 ∧ tm' 30 = .fn (.func 80) [] [.cptr (.lst ((markL h.ws.length l).map B))]) (fun _ => 0) ?_ () ⟨rfl, rfl, rfl, rfl, rfl⟩
  rintro _ tm' _ ⟨rfl, e6, e7, e9, e30⟩ -
  refine wpT_range (by simp only [↓SP, SZ, ↓reduceIte, reduceCtorEq, nE, nA, nL, nT, e30]; rfl) Tryz.func80 rfl (by kernel_rfl) (fun lid fid => ?_)
  have hml : memF 0 (markL h.ws.length l) = l := memF_mark hset
  refine CallV.mono (c80 (markL h.ws.length l) (by rw [markL_length]; omega) (.fn (.yield lid) [] []) (grI h l l lid fid #[31] _ _ tm') (fun _ => False) _ ⟨[], markL h.ws.length l, Nat.le_refl _, rfl, rfl, rfl, rfl, rfl, hml, markL_length _ _, fun a ha => by rw [markL_getD ha]; simp [greatC]⟩ (fun x ys h' hI hmem => ?_)) ?_
  obtain ⟨done, cur, q0, q2, q3, q4, q5, q6, q7, q8, q9⟩ := hI
  rw [hml] at hmem
  obtain ⟨m1, m2, _⟩ := setP_mem hset x hmem
  obtain ⟨b, rfl⟩ := Int.eq_ofNat_of_zero_le m1
  have hb : b < h.ws.length := by omega
  have hnd : ¬ (b : Int) ∈ done := setP_notin (n := h.ws.length) (p := -1) (ys := ys) (by rw [q7]; exact hset)
  refine callV_yield q6 rfl (by rfl) ?_
  show wpT _ _ _ _ _ (tm'.put (some 31) (I (b : Int))) _
  ·
   refine wpT_region (by kernel_rfl) (fun K hK => ?_)
   simp only [↓SP, SZ, ↓reduceIte, reduceCtorEq, nE, nA, nL, nT, rc1, rc2, rc3, mc1, mc2, mc3]
   refine hK _ _ ?_
   clear hK K
   refine wpT_beginRound (id := 6) (by simp only [↓SP, SZ, ↓reduceIte, reduceCtorEq, nE, nA, nL, nT, q6]; rfl) ?_
   refine wpT_block ?_
   refine wpT_seq ?_
   refine wpT_region (by kernel_rfl) (fun K hK => ?_)
   simp only [↓SP, SZ, ↓reduceIte, reduceCtorEq, nE, nA, nL, nT, rc1, rc2, rc3, mc1, mc2, mc3, e6, q2, relH, relAV]
   refine hK _ _ ?_
   clear hK K
   refine wpT_block ?_
   refine wpT_loop ?_
   refine wpT_ind (fun (j : Nat) tm2 h2 => ∃ cur : List Bool, 7 ≤ h2.nx ∧ h2.get 2 = some (.arr 101 1 [relH h]) ∧ h2.get 3 = some (.arr 102 1 [.lst [.lst ((markL h.ws.length l).map B)]]) ∧ h2.get 4 = some (.arr 4 1 (cur.map B)) ∧ h2.get 5 = some (.arr 105 1 [.sl 4 h.ws.length 0 h.ws.length]) ∧ h2.get 6 = some (.loop lid fid #[31] _ _ tm' 64 .busy none) ∧ tm2 6 = .ptr 2 1 0 0 ∧ tm2 7 = .ptr 3 1 0 0 ∧ tm2 9 = .ptr 5 1 0 0 ∧ tm2 10 = I b ∧ tm2 35 = I h.ws.length ∧ tm2 36 = I j ∧ j ≤ h.ws.length ∧ cur.length = h.ws.length ∧ ∀ a, a < h.ws.length → cur.getD a false = greatM (histRun h).2 l h.ws.length done b j a) (fun j => h.ws.length - j) ?_ 0 ⟨cur, by simp only [↓SP, SZ, ↓reduceIte, reduceCtorEq, nE, nA, nL, nT]; omega, by simp only [↓SP, SZ, ↓reduceIte, reduceCtorEq, nE, nA, nL, nT, q2], by simp only [↓SP, SZ, ↓reduceIte, reduceCtorEq, nE, nA, nL, nT, q3], by simp only [↓SP, SZ, ↓reduceIte, reduceCtorEq, nE, nA, nL, nT, q4], by simp only [↓SP, SZ, ↓reduceIte, reduceCtorEq, nE, nA, nL, nT, q5], rfl, by simp only [↓SP, SZ, ↓reduceIte, reduceCtorEq, nE, nA, nL, nT, e6], by simp only [↓SP, SZ, ↓reduceIte, reduceCtorEq, nE, nA, nL, nT, e7], by simp only [↓SP, SZ, ↓reduceIte, reduceCtorEq, nE, nA, nL, nT, e9], rfl, rfl, rfl, by omega, q8, fun a ha => by rw [greatM_zero hnd]; exact q9 a ha⟩
   rintro j tm2 h2 ⟨cur2, r0, r2, r3, r4, r5, r6, f6, f7, f9, f10, f35, f36, hj, hc, hM⟩ IH
   refine wpT_inLoop ?_
   refine wpT_seq ?_
   refine wpT_region (by kernel_rfl) (fun K hK => ?_)
   simp only [↓SP, SZ, ↓reduceIte, reduceCtorEq, nE, nA, nL, nT, rc1, rc2, rc3, mc1, mc2, mc3, f35, f36]
   refine hK _ _ ?_
   clear hK K
   refine wpT_seq ?_
   refine wpT_if (by rfl) (fun hc37 => ?_) (fun hc37 => ?_)
   ·
    have p37 := hc37
    try simp only [PB] at p37
    have hlt : j < h.ws.length := by omega
    have hg := at_map (f := B) (xs := cur2) (i := b) (by omega)
    have hgl := at_map (f := B) (xs := markL h.ws.length l) (i := j) (by rw [markL_length]; exact hlt)
    have hgl2 : (markL h.ws.length l)[j]'(by rw [markL_length]; exact hlt) = decide ((j : Int) ∈ l) := by simp [markL]
    rw [hgl2] at hgl
    have hz0 : (0 : Int) ≤ (b : Int) := by omega
    have hz1 : (b : Int) < (h.ws.length : Int) := by omega
    have hcb : cur2.getD b false = cur2[b] := by simp [hc, hb]
    have hMb := hM b hb
    have hnew : ∀ v : Bool, v = (greatM (histRun h).2 l h.ws.length done b j b && (decide ((j : Int) ∈ l) || !befT (histRun h).2 j b)) → ∀ a, a < h.ws.length → (cur2.set b v).getD a false = greatM (histRun h).2 l h.ws.length done b (j + 1) a := fun v hv a ha => by
      rw [getD_set (by omega), greatM_succ, hv]
      split
      · rfl
      · exact hM a ha
    refine wpT_skip ?_
    refine wpT_seq ?_
    refine wpT_block ?_
    refine wpT_seq ?_
    refine wpT_region (by kernel_rfl) (fun K hK => ?_)
    simp only [↓SP, SZ, ↓reduceIte, reduceCtorEq, nE, nA, nL, nT, rc1, rc2, rc3, mc1, mc2, mc3, f36, hc37]
    refine hK _ _ ?_
    clear hK K
    refine wpT_drawn [(0, 17)] mixed (by kernel_rfl) (m := 23) rfl (fun K hK => ?_)
    simp only [↓SP, SZ, ↓reduceIte, reduceCtorEq, nE, nA, nL, nT, rc1, rc2, rc3, mc1, mc2, mc3, f6, f7, f9, f10, r2, r3, r4, r5, hc, hg, hgl, hz0, hz1, Int.toNat_natCast, ldO_arr, stO_arr, Option.bind_some, hc37]
    refine guardD_split (fun hg45 => ?_) (fun hg45 => ?_)
    ·
     have p45 := hg45
     try simp only [PB] at p45
     simp only [↓SP, SZ, ↓reduceIte, reduceCtorEq, nE, nA, nL, nT, rc1, rc2, rc3, mc1, mc2, mc3, f6, f7, f9, f10, r2, r3, r4, r5, hc, hg, hgl, hz0, hz1, Int.toNat_natCast, ldO_arr, stO_arr, Option.bind_some, hc37, hg45]
     refine guardD_split (fun hg52 => ?_) (fun hg52 => ?_)
     ·
      have p52 := hg52
      try simp only [PB] at p52
      have hF := hnew (!befT (histRun h).2 j b) (by rw [← hMb, hcb, p45]; simp [p52])
      simp only [↓SP, SZ, ↓reduceIte, reduceCtorEq, nE, nA, nL, nT, rc1, rc2, rc3, mc1, mc2, mc3, f6, f7, f9, f10, r2, r3, r4, r5, hc, hg, hgl, hz0, hz1, Int.toNat_natCast, ldO_arr, stO_arr, Option.bind_some, hc37, hg45, hg52]
      refine Pu.callD (bef_call eh j b hlt hb) ?_
      simp only [↓SP, SZ, ↓reduceIte, reduceCtorEq, nE, nA, nL, nT, rc1, rc2, rc3, mc1, mc2, mc3, f6, f7, f9, f10, r2, r3, r4, r5, hc, hg, hgl, hz0, hz1, Int.toNat_natCast, ldO_arr, stO_arr, Option.bind_some, hc37, hg45, hg52]
      refine hK _ _ ?_
      clear hK K
      refine wpT_inBlock ?_
      refine wpT_region (by kernel_rfl) (fun K hK => ?_)
      simp only [↓SP, SZ, ↓reduceIte, reduceCtorEq, nE, nA, nL, nT, rc1, rc2, rc3, mc1, mc2, mc3, f36, wrap64 (x := (j : Int) + 1) (by omega) (by omega), hc37, hg45, hg52]
      refine hK _ _ ?_
      clear hK K
      first
        | (have hu := hT
           refine IH (j + 1) _ _ (by omega) ⟨cur2.set b true, ?_, ?_, ?_, ?_, ?_, ?_, ?_, ?_, ?_, ?_, ?_, ?_, by omega, by simpa using hc, hu⟩
           · simp only [↓SP, SZ, ↓reduceIte, reduceCtorEq, nE, nA, nL, nT]
           · simp only [↓SP, SZ, ↓reduceIte, reduceCtorEq, nE, nA, nL, nT, r2]
           · simp only [↓SP, SZ, ↓reduceIte, reduceCtorEq, nE, nA, nL, nT, r3]
           · simp only [↓SP, SZ, ↓reduceIte, reduceCtorEq, nE, nA, nL, nT, r4, List.map_set]
           · simp only [↓SP, SZ, ↓reduceIte, reduceCtorEq, nE, nA, nL, nT, r5]
           · simp only [↓SP, SZ, ↓reduceIte, reduceCtorEq, nE, nA, nL, nT, r6]
           · simp only [↓SP, SZ, ↓reduceIte, reduceCtorEq, nE, nA, nL, nT, f6]
           · simp only [↓SP, SZ, ↓reduceIte, reduceCtorEq, nE, nA, nL, nT, f7]
           · simp only [↓SP, SZ, ↓reduceIte, reduceCtorEq, nE, nA, nL, nT, f9]
           · simp only [↓SP, SZ, ↓reduceIte, reduceCtorEq, nE, nA, nL, nT, f10]
           · simp only [↓SP, SZ, ↓reduceIte, reduceCtorEq, nE, nA, nL, nT, f35]
           · simp only [↓SP, SZ, ↓reduceIte, reduceCtorEq, nE, nA, nL, nT, Int.natCast_add, Int.cast_ofNat_Int])
        | (have hu := hF
           refine IH (j + 1) _ _ (by omega) ⟨cur2.set b (!befT (histRun h).2 j b), ?_, ?_, ?_, ?_, ?_, ?_, ?_, ?_, ?_, ?_, ?_, ?_, by omega, by simpa using hc, hu⟩
           · simp only [↓SP, SZ, ↓reduceIte, reduceCtorEq, nE, nA, nL, nT]
           · simp only [↓SP, SZ, ↓reduceIte, reduceCtorEq, nE, nA, nL, nT, r2]
           · simp only [↓SP, SZ, ↓reduceIte, reduceCtorEq, nE, nA, nL, nT, r3]
           · simp only [↓SP, SZ, ↓reduceIte, reduceCtorEq, nE, nA, nL, nT, r4, List.map_set]
           · simp only [↓SP, SZ, ↓reduceIte, reduceCtorEq, nE, nA, nL, nT, r5]
           · simp only [↓SP, SZ, ↓reduceIte, reduceCtorEq, nE, nA, nL, nT, r6]
           · simp only [↓SP, SZ, ↓reduceIte, reduceCtorEq, nE, nA, nL, nT, f6]
           · simp only [↓SP, SZ, ↓reduceIte, reduceCtorEq, nE, nA, nL, nT, f7]
           · simp only [↓SP, SZ, ↓reduceIte, reduceCtorEq, nE, nA, nL, nT, f9]
           · simp only [↓SP, SZ, ↓reduceIte, reduceCtorEq, nE, nA, nL, nT, f10]
           · simp only [↓SP, SZ, ↓reduceIte, reduceCtorEq, nE, nA, nL, nT, f35]
           · simp only [↓SP, SZ, ↓reduceIte, reduceCtorEq, nE, nA, nL, nT, Int.natCast_add, Int.cast_ofNat_Int])
        | (have hu := hN
           refine IH (j + 1) _ _ (by omega) ⟨cur2.set b false, ?_, ?_, ?_, ?_, ?_, ?_, ?_, ?_, ?_, ?_, ?_, ?_, by omega, by simpa using hc, hu⟩
           · simp only [↓SP, SZ, ↓reduceIte, reduceCtorEq, nE, nA, nL, nT]
           · simp only [↓SP, SZ, ↓reduceIte, reduceCtorEq, nE, nA, nL, nT, r2]
           · simp only [↓SP, SZ, ↓reduceIte, reduceCtorEq, nE, nA, nL, nT, r3]
           · simp only [↓SP, SZ, ↓reduceIte, reduceCtorEq, nE, nA, nL, nT, r4, List.map_set]
           · simp only [↓SP, SZ, ↓reduceIte, reduceCtorEq, nE, nA, nL, nT, r5]
           · simp only [↓SP, SZ, ↓reduceIte, reduceCtorEq, nE, nA, nL, nT, r6]
           · simp only [↓SP, SZ, ↓reduceIte, reduceCtorEq, nE, nA, nL, nT, f6]
           · simp only [↓SP, SZ, ↓reduceIte, reduceCtorEq, nE, nA, nL, nT, f7]
           · simp only [↓SP, SZ, ↓reduceIte, reduceCtorEq, nE, nA, nL, nT, f9]
           · simp only [↓SP, SZ, ↓reduceIte, reduceCtorEq, nE, nA, nL, nT, f10]
           · simp only [↓SP, SZ, ↓reduceIte, reduceCtorEq, nE, nA, nL, nT, f35]
           · simp only [↓SP, SZ, ↓reduceIte, reduceCtorEq, nE, nA, nL, nT, Int.natCast_add, Int.cast_ofNat_Int])
     ·
      simp only [Bool.not_true, Bool.not_false] at hg52
      have p52 := hg52
      try simp only [PB] at p52
      have hT := hnew true (by rw [← hMb, hcb, p45]; simp [p52])
      simp only [↓SP, SZ, ↓reduceIte, reduceCtorEq, nE, nA, nL, nT, rc1, rc2, rc3, mc1, mc2, mc3, f6, f7, f9, f10, r2, r3, r4, r5, hc, hg, hgl, hz0, hz1, Int.toNat_natCast, ldO_arr, stO_arr, Option.bind_some, hc37, hg45, hg52]
      refine hK _ _ ?_
      clear hK K
      refine wpT_inBlock ?_
      refine wpT_region (by kernel_rfl) (fun K hK => ?_)
      simp only [↓SP, SZ, ↓reduceIte, reduceCtorEq, nE, nA, nL, nT, rc1, rc2, rc3, mc1, mc2, mc3, f36, wrap64 (x := (j : Int) + 1) (by omega) (by omega), hc37, hg45, hg52]
      refine hK _ _ ?_
      clear hK K
      first
        | (have hu := hT
           refine IH (j + 1) _ _ (by omega) ⟨cur2.set b true, ?_, ?_, ?_, ?_, ?_, ?_, ?_, ?_, ?_, ?_, ?_, ?_, by omega, by simpa using hc, hu⟩
           · simp only [↓SP, SZ, ↓reduceIte, reduceCtorEq, nE, nA, nL, nT]
           · simp only [↓SP, SZ, ↓reduceIte, reduceCtorEq, nE, nA, nL, nT, r2]
           · simp only [↓SP, SZ, ↓reduceIte, reduceCtorEq, nE, nA, nL, nT, r3]
           · simp only [↓SP, SZ, ↓reduceIte, reduceCtorEq, nE, nA, nL, nT, r4, List.map_set]
           · simp only [↓SP, SZ, ↓reduceIte, reduceCtorEq, nE, nA, nL, nT, r5]
           · simp only [↓SP, SZ, ↓reduceIte, reduceCtorEq, nE, nA, nL, nT, r6]
           · simp only [↓SP, SZ, ↓reduceIte, reduceCtorEq, nE, nA, nL, nT, f6]
           · simp only [↓SP, SZ, ↓reduceIte, reduceCtorEq, nE, nA, nL, nT, f7]
           · simp only [↓SP, SZ, ↓reduceIte, reduceCtorEq, nE, nA, nL, nT, f9]
           · simp only [↓SP, SZ, ↓reduceIte, reduceCtorEq, nE, nA, nL, nT, f10]
           · simp only [↓SP, SZ, ↓reduceIte, reduceCtorEq, nE, nA, nL, nT, f35]
           · simp only [↓SP, SZ, ↓reduceIte, reduceCtorEq, nE, nA, nL, nT, Int.natCast_add, Int.cast_ofNat_Int])
        | (have hu := hF
           refine IH (j + 1) _ _ (by omega) ⟨cur2.set b (!befT (histRun h).2 j b), ?_, ?_, ?_, ?_, ?_, ?_, ?_, ?_, ?_, ?_, ?_, ?_, by omega, by simpa using hc, hu⟩
           · simp only [↓SP, SZ, ↓reduceIte, reduceCtorEq, nE, nA, nL, nT]
           · simp only [↓SP, SZ, ↓reduceIte, reduceCtorEq, nE, nA, nL, nT, r2]
           · simp only [↓SP, SZ, ↓reduceIte, reduceCtorEq, nE, nA, nL, nT, r3]
           · simp only [↓SP, SZ, ↓reduceIte, reduceCtorEq, nE, nA, nL, nT, r4, List.map_set]
           · simp only [↓SP, SZ, ↓reduceIte, reduceCtorEq, nE, nA, nL, nT, r5]
           · simp only [↓SP, SZ, ↓reduceIte, reduceCtorEq, nE, nA, nL, nT, r6]
           · simp only [↓SP, SZ, ↓reduceIte, reduceCtorEq, nE, nA, nL, nT, f6]
           · simp only [↓SP, SZ, ↓reduceIte, reduceCtorEq, nE, nA, nL, nT, f7]
           · simp only [↓SP, SZ, ↓reduceIte, reduceCtorEq, nE, nA, nL, nT, f9]
           · simp only [↓SP, SZ, ↓reduceIte, reduceCtorEq, nE, nA, nL, nT, f10]
           · simp only [↓SP, SZ, ↓reduceIte, reduceCtorEq, nE, nA, nL, nT, f35]
           · simp only [↓SP, SZ, ↓reduceIte, reduceCtorEq, nE, nA, nL, nT, Int.natCast_add, Int.cast_ofNat_Int])
        | (have hu := hN
           refine IH (j + 1) _ _ (by omega) ⟨cur2.set b false, ?_, ?_, ?_, ?_, ?_, ?_, ?_, ?_, ?_, ?_, ?_, ?_, by omega, by simpa using hc, hu⟩
           · simp only [↓SP, SZ, ↓reduceIte, reduceCtorEq, nE, nA, nL, nT]
           · simp only [↓SP, SZ, ↓reduceIte, reduceCtorEq, nE, nA, nL, nT, r2]
           · simp only [↓SP, SZ, ↓reduceIte, reduceCtorEq, nE, nA, nL, nT, r3]
           · simp only [↓SP, SZ, ↓reduceIte, reduceCtorEq, nE, nA, nL, nT, r4, List.map_set]
           · simp only [↓SP, SZ, ↓reduceIte, reduceCtorEq, nE, nA, nL, nT, r5]
           · simp only [↓SP, SZ, ↓reduceIte, reduceCtorEq, nE, nA, nL, nT, r6]
           · simp only [↓SP, SZ, ↓reduceIte, reduceCtorEq, nE, nA, nL, nT, f6]
           · simp only [↓SP, SZ, ↓reduceIte, reduceCtorEq, nE, nA, nL, nT, f7]
           · simp only [↓SP, SZ, ↓reduceIte, reduceCtorEq, nE, nA, nL, nT, f9]
           · simp only [↓SP, SZ, ↓reduceIte, reduceCtorEq, nE, nA, nL, nT, f10]
           · simp only [↓SP, SZ, ↓reduceIte, reduceCtorEq, nE, nA, nL, nT, f35]
           · simp only [↓SP, SZ, ↓reduceIte, reduceCtorEq, nE, nA, nL, nT, Int.natCast_add, Int.cast_ofNat_Int])
    ·
     simp only [Bool.not_true, Bool.not_false] at hg45
     have p45 := hg45
     try simp only [PB] at p45
     have hN := hnew false (by rw [← hMb, hcb, p45]; rfl)
     simp only [↓SP, SZ, ↓reduceIte, reduceCtorEq, nE, nA, nL, nT, rc1, rc2, rc3, mc1, mc2, mc3, f6, f7, f9, f10, r2, r3, r4, r5, hc, hg, hgl, hz0, hz1, Int.toNat_natCast, ldO_arr, stO_arr, Option.bind_some, hc37, hg45]
     refine hK _ _ ?_
     clear hK K
     refine wpT_inBlock ?_
     refine wpT_region (by kernel_rfl) (fun K hK => ?_)
     simp only [↓SP, SZ, ↓reduceIte, reduceCtorEq, nE, nA, nL, nT, rc1, rc2, rc3, mc1, mc2, mc3, f36, wrap64 (x := (j : Int) + 1) (by omega) (by omega), hc37, hg45]
     refine hK _ _ ?_
     clear hK K
     first
       | (have hu := hT
          refine IH (j + 1) _ _ (by omega) ⟨cur2.set b true, ?_, ?_, ?_, ?_, ?_, ?_, ?_, ?_, ?_, ?_, ?_, ?_, by omega, by simpa using hc, hu⟩
          · simp only [↓SP, SZ, ↓reduceIte, reduceCtorEq, nE, nA, nL, nT]
          · simp only [↓SP, SZ, ↓reduceIte, reduceCtorEq, nE, nA, nL, nT, r2]
          · simp only [↓SP, SZ, ↓reduceIte, reduceCtorEq, nE, nA, nL, nT, r3]
          · simp only [↓SP, SZ, ↓reduceIte, reduceCtorEq, nE, nA, nL, nT, r4, List.map_set]
          · simp only [↓SP, SZ, ↓reduceIte, reduceCtorEq, nE, nA, nL, nT, r5]
          · simp only [↓SP, SZ, ↓reduceIte, reduceCtorEq, nE, nA, nL, nT, r6]
          · simp only [↓SP, SZ, ↓reduceIte, reduceCtorEq, nE, nA, nL, nT, f6]
          · simp only [↓SP, SZ, ↓reduceIte, reduceCtorEq, nE, nA, nL, nT, f7]
          · simp only [↓SP, SZ, ↓reduceIte, reduceCtorEq, nE, nA, nL, nT, f9]
          · simp only [↓SP, SZ, ↓reduceIte, reduceCtorEq, nE, nA, nL, nT, f10]
          · simp only [↓SP, SZ, ↓reduceIte, reduceCtorEq, nE, nA, nL, nT, f35]
          · simp only [↓SP, SZ, ↓reduceIte, reduceCtorEq, nE, nA, nL, nT, Int.natCast_add, Int.cast_ofNat_Int])
       | (have hu := hF
          refine IH (j + 1) _ _ (by omega) ⟨cur2.set b (!befT (histRun h).2 j b), ?_, ?_, ?_, ?_, ?_, ?_, ?_, ?_, ?_, ?_, ?_, ?_, by omega, by simpa using hc, hu⟩
          · simp only [↓SP, SZ, ↓reduceIte, reduceCtorEq, nE, nA, nL, nT]
          · simp only [↓SP, SZ, ↓reduceIte, reduceCtorEq, nE, nA, nL, nT, r2]
          · simp only [↓SP, SZ, ↓reduceIte, reduceCtorEq, nE, nA, nL, nT, r3]
          · simp only [↓SP, SZ, ↓reduceIte, reduceCtorEq, nE, nA, nL, nT, r4, List.map_set]
          · simp only [↓SP, SZ, ↓reduceIte, reduceCtorEq, nE, nA, nL, nT, r5]
          · simp only [↓SP, SZ, ↓reduceIte, reduceCtorEq, nE, nA, nL, nT, r6]
          · simp only [↓SP, SZ, ↓reduceIte, reduceCtorEq, nE, nA, nL, nT, f6]
          · simp only [↓SP, SZ, ↓reduceIte, reduceCtorEq, nE, nA, nL, nT, f7]
          · simp only [↓SP, SZ, ↓reduceIte, reduceCtorEq, nE, nA, nL, nT, f9]
          · simp only [↓SP, SZ, ↓reduceIte, reduceCtorEq, nE, nA, nL, nT, f10]
          · simp only [↓SP, SZ, ↓reduceIte, reduceCtorEq, nE, nA, nL, nT, f35]
          · simp only [↓SP, SZ, ↓reduceIte, reduceCtorEq, nE, nA, nL, nT, Int.natCast_add, Int.cast_ofNat_Int])
       | (have hu := hN
          refine IH (j + 1) _ _ (by omega) ⟨cur2.set b false, ?_, ?_, ?_, ?_, ?_, ?_, ?_, ?_, ?_, ?_, ?_, ?_, by omega, by simpa using hc, hu⟩
          · simp only [↓SP, SZ, ↓reduceIte, reduceCtorEq, nE, nA, nL, nT]
          · simp only [↓SP, SZ, ↓reduceIte, reduceCtorEq, nE, nA, nL, nT, r2]
          · simp only [↓SP, SZ, ↓reduceIte, reduceCtorEq, nE, nA, nL, nT, r3]
          · simp only [↓SP, SZ, ↓reduceIte, reduceCtorEq, nE, nA, nL, nT, r4, List.map_set]
          · simp only [↓SP, SZ, ↓reduceIte, reduceCtorEq, nE, nA, nL, nT, r5]
          · simp only [↓SP, SZ, ↓reduceIte, reduceCtorEq, nE, nA, nL, nT, r6]
          · simp only [↓SP, SZ, ↓reduceIte, reduceCtorEq, nE, nA, nL, nT, f6]
          · simp only [↓SP, SZ, ↓reduceIte, reduceCtorEq, nE, nA, nL, nT, f7]
          · simp only [↓SP, SZ, ↓reduceIte, reduceCtorEq, nE, nA, nL, nT, f9]
          · simp only [↓SP, SZ, ↓reduceIte, reduceCtorEq, nE, nA, nL, nT, f10]
          · simp only [↓SP, SZ, ↓reduceIte, reduceCtorEq, nE, nA, nL, nT, f35]
          · simp only [↓SP, SZ, ↓reduceIte, reduceCtorEq, nE, nA, nL, nT, Int.natCast_add, Int.cast_ofNat_Int])
   ·
    have p37 := hc37
    try simp only [PB] at p37
    refine wpT_exit rfl ?_
    refine wpT_inBlock ?_
    refine wpT_end ?_
    have hjn : j = h.ws.length := by omega
    subst hjn
    refine ⟨r6, true, rfl, .inl ⟨rfl, done ++ [(b : Int)], cur2, r0, ?_, ?_, ?_, ?_, rfl, by simpa using q7, hc, fun a ha => ?_⟩⟩
    · simp only [↓SP, SZ, ↓reduceIte, reduceCtorEq, nE, nA, nL, nT, r2]
    · simp only [↓SP, SZ, ↓reduceIte, reduceCtorEq, nE, nA, nL, nT, r3]
    · simp only [↓SP, SZ, ↓reduceIte, reduceCtorEq, nE, nA, nL, nT, r4]
    · simp only [↓SP, SZ, ↓reduceIte, reduceCtorEq, nE, nA, nL, nT, r5]
    · rw [hM a ha, greatM_all]
  rintro _ h2 (hI | hJ)
  rotate_left
  · exact hJ.elim
  ·
   obtain ⟨done, cur, q0, q2, q3, q4, q5, q6, q7, q8, q9⟩ := hI
   refine ⟨.ready, none, q6, by simp, ?_⟩
   simp only [Option.map_none, Option.toList_none, List.nil_append]
   refine wpT_inBlock ?_
   refine wpT_seq ?_
   refine wpT_region (by kernel_rfl) (fun K hK => ?_)
   simp only [↓SP, SZ, ↓reduceIte, reduceCtorEq, nE, nA, nL, nT, rc1, rc2, rc3, mc1, mc2, mc3, e9, q4, q5]
   refine Pu.freeze (c55 cur (by omega)) 4 (LendL.cons (Lend.sl0 (E := 4) (s := 1) (by simp only [↓SP, SZ, ↓reduceIte, reduceCtorEq, nE, nA, nL, nT, q4]) (by simpa using q8) (bool_okc _)) LendL.nil) ?_
   simp only [↓SP, SZ, ↓reduceIte, reduceCtorEq, nE, nA, nL, nT, rc1, rc2, rc3, mc1, mc2, mc3, e9, q4, q5]
   refine hK _ _ ?_
   clear hK K
   refine wpT_ret ⟨.inr rfl, ?_⟩
   show optK (resA _ _ _ [.tmp 4, .tmp 5]) _
   simp only [SRO, ↓SP, SZ, ↓reduceIte, reduceCtorEq, nE, nA, nL, nT, rc1, rc2, rc3, mc1, mc2, mc3]
   rw [List.append_nil] at q7
   subst q7
   have hm : memF 0 cur = greatL h done := by
     rw [memF_eq, q8, hx, greatR]
     refine selN_congr fun a ha => (q9 a ha).trans ?_
     rw [greatC]
     cases decide ((a : Int) ∈ done) <;> simp
   rw [hm, e0]
   exact .refl _
end Go.Proofs.YtfdfkmcplhloaaaGreat
end

section
set_option linter.unusedSimpArgs false
set_option linter.unusedVariables false
namespace Go.Proofs.YtfdfkmcplhloaaaGreat
open Go.Proofs
open Nat renaming reduceEqDiff → nE, reduceAdd → nA, reduceLeDiff → nL, reduceLT → nT
set_option maxRecDepth 10000
def icI (h : Hist) (l : List Int) (lid : Nat) (fid : FuncId) (ps : Array Tmp) (assign body : Code) (tm : Tm) (rem : List Int) (H : Hp) : Prop :=
  ∃ done : List Int, 5 ≤ H.nx ∧ H.get 0 = some (.arr 123 5 [chkAV h]) ∧ H.get 1 = some (.arr 4 1 [.bool false]) ∧ H.get 2 = some (.arr 4 1 ((markL h.ws.length done).map B)) ∧ H.get 3 = some (.arr 96 1 [.sl 2 h.ws.length 0 h.ws.length]) ∧ H.get 4 = some (.loop lid fid ps assign body tm 47 .ready none) ∧ done ++ rem = l
def icP (h : Hist) (l : List Int) (b : Int) : Bool := (List.range h.ws.length).all fun a => !befT (histRun h).2 a b.toNat || decide ((a : Int) ∈ l)
def icO (h : Hist) (l : List Int) (r : Bool) (m : Nat) (o : Ob) (H : Hp) : Prop := m < H.nx ∧ H.get 0 = some (.arr 123 5 [chkAV h]) ∧ H.get 1 = some (.arr 4 1 [.bool r]) ∧ H.get 2 = some (.arr 4 1 ((markL h.ws.length l).map B)) ∧ H.get 3 = some (.arr 96 1 [.sl 2 h.ws.length 0 h.ws.length]) ∧ H.get m = some o
def icQ (h : Hist) (l : List Int) (m : Nat) (o : Ob) (rem : List Int) (H : Hp) : Prop :=
  icO h l false m o H ∧ ∃ done : List Int, done ++ rem = l ∧ done.all (icP h l) = true
def icR (h : Hist) (l : List Int) (m : Nat) (o : Ob) (H : Hp) : Prop := icO h l false m o H ∧ l.all (icP h l) = false
end Go.Proofs.YtfdfkmcplhloaaaGreat
end

section
set_option linter.unusedSimpArgs false
set_option linter.unusedVariables false
namespace Go.Proofs.YtfdfkmcplhloaaaGreat
open Go.Proofs
open Nat renaming reduceEqDiff → nE, reduceAdd → nA, reduceLeDiff → nL, reduceLT → nT
set_option maxRecDepth 10000
theorem cloneSn : NewV Tryz.prog (.fn (.func 100) [] []) [.lst []] 49 8 [] := by
 refine callV_func Tryz.func100 rfl (by kernel_rfl) (by show _ ≤ 8; simp only [List.length_append, List.length_cons, List.length_nil]; decide) ?_
 rw [Tryz.ntmps100]
 refine wpT_seq ?_
 refine wpT_region (by kernel_rfl) (fun K hK => ?_)
 simp only [↓SP, SZ, ↓reduceIte, reduceCtorEq, nE, nA, nL, nT]
 refine hK _ _ ?_
 clear hK K
 refine wpT_seq ?_
 refine wpT_seq ?_
 refine wpT_isnil (xs := []) rfl sle43 (by decide) (fun b hb => ?_)
 refine wpT_if (by rfl) (fun hc4 => ?_) (fun hc4 => ?_)
 ·
  have p4 := hc4
  try simp only [PB] at p4
  refine wpT_seq ?_
  refine wpT_region (by kernel_rfl) (fun K hK => ?_)
  simp only [↓SP, SZ, ↓reduceIte, reduceCtorEq, nE, nA, nL, nT, hc4]
  refine hK _ _ ?_
  clear hK K
  refine wpT_nilown 2 49 8 (by simp only [↓SP, SZ, ↓reduceIte, reduceCtorEq, nE, nA, nL, nT]) ?_
  refine wpT_ret ⟨.inr rfl, ?_⟩
  show optK (resA _ _ _ [.tmp 2]) _
  simp only [SRO, ↓SP, SZ, ↓reduceIte, reduceCtorEq, nE, nA, nL, nT, hc4]
  exact ⟨0, rfl, rfl⟩
 ·
  have p4 := hc4
  try simp only [PB] at p4
  refine wpT_skip ?_
  refine wpT_seq ?_
  refine wpT_region (by kernel_rfl) (fun K hK => ?_)
  simp only [↓SP, SZ, ↓reduceIte, reduceCtorEq, nE, nA, nL, nT, hc4]
  refine hK _ _ ?_
  clear hK K
  refine wpT_nilown 2 49 8 (by simp only [↓SP, SZ, ↓reduceIte, reduceCtorEq, nE, nA, nL, nT]) ?_
  refine wpT_ret ⟨.inr rfl, ?_⟩
  show optK (resA _ _ _ [.tmp 2]) _
  simp only [SRO, ↓SP, SZ, ↓reduceIte, reduceCtorEq, nE, nA, nL, nT, hc4]
  exact ⟨0, rfl, rfl⟩
theorem cloneSc (y : Sec) (ys : List Sec) (hl : (y :: ys).length < 4000000000) : NewV Tryz.prog (.fn (.func 100) [] []) [.lst ((y :: ys).map Sec.av)] 49 8 ((y :: ys).map Sec.av) := by
 refine callV_func Tryz.func100 rfl (by kernel_rfl) (by show _ ≤ 8; simp only [List.length_append, List.length_cons, List.length_nil]; decide) ?_
 have q0 : ∀ v ∈ (Sec.av y :: ys.map Sec.av), v.cells.length = 8 := by
   intro v hv
   rcases List.mem_cons.1 hv with rfl | hv
   · rfl
   · obtain ⟨a, _, rfl⟩ := List.mem_map.1 hv
     rfl
 have q1 : ys.length + 1 ≤ maxLen := by simp only [maxLen]; simp only [List.length_cons] at hl; omega
 have q2 : (ys.length + 1) * 8 ≤ 140737488355328 := by simp only [List.length_cons] at hl; omega
 rw [Tryz.ntmps100]
 refine wpT_seq ?_
 refine wpT_region (by kernel_rfl) (fun K hK => ?_)
 simp only [↓SP, SZ, ↓reduceIte, reduceCtorEq, nE, nA, nL, nT]
 refine hK _ _ ?_
 clear hK K
 refine wpT_seq ?_
 refine wpT_seq ?_
 refine wpT_isnil (xs := (y :: ys).map Sec.av) rfl sle43 (by decide) (fun b hb => ?_)
 obtain rfl := hb (by simp)
 refine wpT_if (by rfl) (fun hc4 => ?_) (fun hc4 => ?_)
 ·
  have p4 := hc4
  try simp only [PB] at p4
  simp at p4
 ·
  have p4 := hc4
  try simp only [PB] at p4
  refine wpT_skip ?_
  refine wpT_seq ?_
  refine wpT_region (by kernel_rfl) (fun K hK => ?_)
  simp only [↓SP, SZ, ↓reduceIte, reduceCtorEq, nE, nA, nL, nT, apO_nil0 q0, q1, q2, hc4]
  refine hK _ _ ?_
  clear hK K
  refine wpT_ret ⟨.inr rfl, ?_⟩
  show optK (resA _ _ _ [.tmp 2]) _
  simp only [SRO, ↓SP, SZ, ↓reduceIte, reduceCtorEq, nE, nA, nL, nT, hc4]
  exact ⟨0, by simp, rfl⟩
theorem cloneS (xs : List Sec) (hl : xs.length < 4000000000) : Nu Tryz.prog (.fn (.func 100) [] []) [.lst (xs.map Sec.av)] 49 8 (xs.map Sec.av) := by
  refine ⟨?_, by simp only [IDF, sec_idf', implies_true], by simp only [IDF, and_tt], by simp only [IDF, sec_idf', and_tt, implies_true]⟩
  cases xs with
  | nil => exact cloneSn
  | cons y ys => exact cloneSc y ys hl
/-- An array of slices, each of which has an array of its own. -/
def famE (p : Nat × List Sec) : AV := .sl p.1 p.2.length 0 p.2.length
structure Fam (H : Hp) (a : Nat) (fs : List (Nat × List Sec)) : Prop where
  get : H.get a = some (.arr 43 1 (fs.map famE))
  mem : ∀ p ∈ fs, H.get p.1 = some (.arr 49 8 (p.2.map Sec.av)) ∧ a < p.1 ∧ p.1 < H.nx
  dup : (fs.map Prod.fst).Nodup
  lt : a < H.nx
def famIm (fs : List (Nat × List Sec)) : List (List Sec) := fs.map Prod.snd
theorem Fam.lend {H : Hp} {a : Nat} {fs : List (Nat × List Sec)} (f : Fam H a fs) : Lend H.get (.sl a fs.length 0 fs.length) (imgAV (famIm fs)) := by
  refine .sl a _ 0 _ 43 1 (fs.map famE) _ f.get (by simp) (by simp) (by simp [famIm]) (fun j x y hx hy => ?_) (fun y hy => ?_)
  · simp only [List.drop_zero] at hx
    rw [List.take_of_length_le (by simp), List.getElem?_map] at hx
    simp only [famIm, List.getElem?_map] at hy
    cases hj : fs[j]? with
    | none => rw [hj] at hx; simp at hx
    | some p =>
      rw [hj] at hx hy
      simp only [Option.map_some, Option.some.injEq] at hx hy
      subst hx; subst hy
      exact Lend.sl0 (f.mem p (List.mem_of_getElem? hj)).1 (by simp) (secs_okc _)
  · obtain ⟨l, _, rfl⟩ := List.mem_map.1 hy
    rfl
theorem Fam.up {H H' : Hp} {a : Nat} {fs : List (Nat × List Sec)} (f : Fam H a fs) (hn : H.nx ≤ H'.nx) (hg : ∀ j, j < H.nx → H'.get j = H.get j) : Fam H' a fs :=
  ⟨by rw [hg a f.lt]; exact f.get, fun p hp => ⟨by rw [hg _ (f.mem p hp).2.2]; exact (f.mem p hp).1, (f.mem p hp).2.1, Nat.lt_of_lt_of_le (f.mem p hp).2.2 hn⟩, f.dup, Nat.lt_of_lt_of_le f.lt hn⟩
theorem Fam.push {H : Hp} {a id : Nat} {fs : List (Nat × List Sec)} {H' : Hp} {l : List Sec} (f : Fam H a fs) (hid : H.nx ≤ id) (hid2 : id < H'.nx) (hn : H.nx ≤ H'.nx) (ha : H'.get a = some (.arr 43 1 (fs.map famE ++ [famE (id, l)])))
    (hd : H'.get id = some (.arr 49 8 (l.map Sec.av))) (hg : ∀ j, j < H.nx → j ≠ a → H'.get j = H.get j) : Fam H' a (fs ++ [(id, l)]) := by
  refine ⟨by rw [ha]; simp, fun p hp => ?_, ?_, Nat.lt_of_lt_of_le f.lt hn⟩
  · rcases List.mem_append.1 hp with hp | hp
    · obtain ⟨h1, h2, h3⟩ := f.mem p hp
      exact ⟨by rw [hg _ h3 (by omega)]; exact h1, h2, by omega⟩
    · simp only [List.mem_singleton] at hp
      subst hp
      exact ⟨hd, by have := f.lt; show a < id; omega, hid2⟩
  · rw [List.map_append, List.nodup_append]
    refine ⟨f.dup, by simp, fun x hx y hy => ?_⟩
    obtain ⟨p, hp, rfl⟩ := List.mem_map.1 hx
    have := (f.mem p hp).2.2
    simp at hy
    omega
theorem Fam.set {H H' : Hp} {a k id : Nat} {fs : List (Nat × List Sec)} {old new : List Sec} (f : Fam H a fs) (hk : fs[k]? = some (id, old)) (hl : new.length = old.length) (hn : H.nx ≤ H'.nx) (hd : H'.get id = some (.arr 49 8 (new.map Sec.av)))
    (hg : ∀ j, j < H.nx → j ≠ id → H'.get j = H.get j) : Fam H' a (fs.set k (id, new)) := by
  have hm := f.mem _ (List.mem_of_getElem? hk)
  have hkl := (List.getElem?_eq_some_iff.1 hk).1
  have e1 : (fs.set k (id, new)).map famE = fs.map famE := by
    refine List.ext_getElem? fun j => ?_
    simp only [List.getElem?_map, List.getElem?_set]
    by_cases hj : k = j
    · subst hj; rw [if_pos rfl, if_pos hkl, hk]; simp [famE, hl]
    · rw [if_neg hj]
  have e2 : (fs.set k (id, new)).map Prod.fst = fs.map Prod.fst := by
    refine List.ext_getElem? fun j => ?_
    simp only [List.getElem?_map, List.getElem?_set]
    by_cases hj : k = j
    · subst hj; rw [if_pos rfl, if_pos hkl, hk]; simp
    · rw [if_neg hj]
  refine ⟨?_, fun p hp => ?_, by rw [e2]; exact f.dup, Nat.lt_of_lt_of_le f.lt hn⟩
  · rw [e1, hg a f.lt (by have := hm.2.1; simp only at this; omega)]; exact f.get
  · obtain ⟨j, hj⟩ := List.getElem?_of_mem hp
    rw [List.getElem?_set] at hj
    split at hj
    · rename_i e
      obtain rfl := Option.some.inj hj
      exact ⟨hd, hm.2.1, Nat.lt_of_lt_of_le hm.2.2 hn⟩
    · rename_i e
      have hp' := List.mem_of_getElem? hj
      obtain ⟨h1, h2, h3⟩ := f.mem p hp'
      have hne : p.1 ≠ id := by
        intro e2
        have hjl := (List.getElem?_eq_some_iff.1 hj).1
        have a1 : (fs.map Prod.fst)[j]? = some id := by rw [List.getElem?_map, hj]; simp [e2]
        have a2 : (fs.map Prod.fst)[k]? = some id := by rw [List.getElem?_map, hk]; rfl
        have hj2 : j < (fs.map Prod.fst).length := by simpa using hjl
        have hk2 : k < (fs.map Prod.fst).length := by simpa using hkl
        have b1 := (List.getElem?_eq_some_iff.1 a1).2
        have b2 := (List.getElem?_eq_some_iff.1 a2).2
        have hpw := List.pairwise_iff_getElem.1 f.dup
        by_cases hlt : j < k
        · exact hpw j k hj2 hk2 hlt (b1.trans b2.symm)
        · exact hpw k j hk2 hj2 (by omega) (b2.trans b1.symm)
      exact ⟨by rw [hg _ h3 hne]; exact h1, h2, Nat.lt_of_lt_of_le h3 hn⟩
theorem c99 (im : List (List Sec)) (m : Nat) (hl : im.length ≤ 4096) (hm : ∀ l ∈ im, l.length < 4000000000) : CallV Tryz.prog (.fn (.func 99) [] []) [imgAV im, .fn (.func 100) [] []] (Hp.of [] m) fun v h' => v = .sl m im.length 0 im.length ∧ ∃ fs, famIm fs = im ∧ Fam h' m fs := by
 refine callV_func Tryz.func99 rfl (by kernel_rfl) (by show _ ≤ 25; simp only [List.length_append, List.length_cons, List.length_nil]; decide) ?_
 rw [Tryz.ntmps99]
 refine wpT_seq ?_
 refine wpT_region (by kernel_rfl) (fun K hK => ?_)
 simp only [↓SP, SZ, ↓reduceIte, reduceCtorEq, nE, nA, nL, nT, imgAV]
 refine hK _ _ ?_
 clear hK K
 refine wpT_seq ?_
 refine wpT_region (by kernel_rfl) (fun K hK => ?_)
 simp only [↓SP, SZ, ↓reduceIte, reduceCtorEq, nE, nA, nL, nT, imgAV, msO_ok 24 0 (im.length : Int) (by omega) (by omega) (by omega) (by omega), Int.toNat_zero, List.replicate_zero]
 refine hK _ _ ?_
 clear hK K
 refine wpT_seq ?_
 refine wpT_seq ?_
 refine wpT_region (by kernel_rfl) (fun K hK => ?_)
 simp only [↓SP, SZ, ↓reduceIte, reduceCtorEq, nE, nA, nL, nT, imgAV]
 refine hK _ _ ?_
 clear hK K
 refine wpT_block ?_
 refine wpT_loop ?_
 refine wpT_ind (fun (i : Nat) tm' h' => ∃ fs, Fam h' m fs ∧ famIm fs = im.take i ∧ tm' 1 = .fn (.func 100) [] [] ∧ tm' 5 = .sl m i 0 i ∧ tm' 11 = imgAV im ∧ tm' 12 = I im.length ∧ tm' 13 = I i ∧ i ≤ im.length) (fun i => im.length - i) ?_ 0 ⟨[], ⟨by simp only [↓SP, SZ, ↓reduceIte, reduceCtorEq, nE, nA, nL, nT], by simp, by simp, by simp only [↓SP, SZ, ↓reduceIte, reduceCtorEq, nE, nA, nL, nT]; omega⟩, rfl, rfl, rfl, rfl, rfl, rfl, by omega⟩
 rintro i tm' h' ⟨fs, hF, hI, e1, e5, e11, e12, e13, hi⟩ IH
 refine wpT_inLoop ?_
 refine wpT_seq ?_
 refine wpT_region (by kernel_rfl) (fun K hK => ?_)
 simp only [↓SP, SZ, ↓reduceIte, reduceCtorEq, nE, nA, nL, nT, imgAV, e12, e13]
 refine hK _ _ ?_
 clear hK K
 refine wpT_seq ?_
 refine wpT_if (by rfl) (fun hc14 => ?_) (fun hc14 => ?_)
 ·
  have p14 := hc14
  try simp only [PB] at p14
  have hlt : i < im.length := by omega
  have hg := at_map (f := fun l : List Sec => AV.lst (l.map Sec.av)) hlt
  have hfl : fs.length = i := by
    have := congrArg List.length hI
    simp [famIm] at this; omega
  have q1 : i + 1 ≤ maxLen := by simp only [maxLen]; omega
  have q2 : (i + 1) * 24 ≤ 140737488355328 := by omega
  have q3 : (fs.map famE).length = i := by simp [hfl]
  have hgt := hF.get
  have hln := hF.lt
  have n1 : ¬ m = h'.nx := by omega
  have n2 : ¬ h'.nx = m := by omega
  have n3 : ¬ m = h'.nx + 1 := by omega
  have n4 : ¬ h'.nx + 1 = m := by omega
  have n5 : ¬ h'.nx + 1 = h'.nx := by omega
  have n6 : ¬ h'.nx = h'.nx + 1 := by omega
  refine wpT_skip ?_
  refine wpT_seq ?_
  refine wpT_block ?_
  refine wpT_seq ?_
  refine wpT_region (by kernel_rfl) (fun K hK => ?_)
  simp only [↓SP, SZ, ↓reduceIte, reduceCtorEq, nE, nA, nL, nT, imgAV, e11, e13, hg, hc14]
  refine hK _ _ ?_
  clear hK K
  refine wpT_region (by kernel_rfl) (fun K hK => ?_)
  simp only [↓SP, SZ, ↓reduceIte, reduceCtorEq, nE, nA, nL, nT, imgAV, e1, e5, q1, q2, q3, hgt, n1, n2, n3, n4, n5, n6, hc14]
  refine Nu.call (cloneS im[i] (hm _ (List.getElem_mem hlt))) ?_
  simp only [↓SP, SZ, ↓reduceIte, reduceCtorEq, nE, nA, nL, nT, imgAV, e1, e5, q1, q2, q3, hgt, n1, n2, n3, n4, n5, n6, hc14]
  refine hK _ _ ?_
  clear hK K
  refine wpT_inBlock ?_
  refine wpT_region (by kernel_rfl) (fun K hK => ?_)
  simp only [↓SP, SZ, ↓reduceIte, reduceCtorEq, nE, nA, nL, nT, imgAV, e13, wrap64 (x := (i : Int) + 1) (by omega) (by omega), hc14]
  refine hK _ _ ?_
  clear hK K
  refine IH (i + 1) _ _ (by omega) ⟨fs ++ [(h'.nx, im[i])], hF.push (Nat.le_refl _) (by simp only [↓SP, SZ, ↓reduceIte, reduceCtorEq, nE, nA, nL, nT]; omega) (by simp only [↓SP, SZ, ↓reduceIte, reduceCtorEq, nE, nA, nL, nT]; omega) (by simp only [↓SP, SZ, ↓reduceIte, reduceCtorEq, nE, nA, nL, nT, n1, n2, n3, n4, n5, n6, hgt, famE]) (by simp only [↓SP, SZ, ↓reduceIte, reduceCtorEq, nE, nA, nL, nT, n1, n2, n3, n4, n5, n6]) (fun j hj hja => ?_), ?_, by simp only [↓SP, SZ, ↓reduceIte, reduceCtorEq, nE, nA, nL, nT, e1], by simp only [↓SP, SZ, ↓reduceIte, reduceCtorEq, nE, nA, nL, nT], by simp only [↓SP, SZ, ↓reduceIte, reduceCtorEq, nE, nA, nL, nT, e11], by simp only [↓SP, SZ, ↓reduceIte, reduceCtorEq, nE, nA, nL, nT, e12], by simp only [↓SP, SZ, ↓reduceIte, reduceCtorEq, nE, nA, nL, nT, Int.natCast_add, Int.cast_ofNat_Int], by omega⟩
  · have j1 : ¬ j = h'.nx := by omega
    have j2 : ¬ j = h'.nx + 1 := by omega
    have j3 : ¬ j = m := hja
    simp only [↓SP, SZ, ↓reduceIte, reduceCtorEq, nE, nA, nL, nT, j1, j2, j3]
  · rw [famIm, List.map_append, List.take_add_one, List.getElem?_eq_getElem hlt, ← hI]
    rfl
 ·
  have p14 := hc14
  try simp only [PB] at p14
  have hi2 : i = im.length := by omega
  subst hi2
  rw [List.take_length] at hI
  refine wpT_exit rfl ?_
  refine wpT_seq ?_
  refine wpT_region (by kernel_rfl) (fun K hK => ?_)
  simp only [↓SP, SZ, ↓reduceIte, reduceCtorEq, nE, nA, nL, nT, imgAV, e5, hc14]
  refine hK _ _ ?_
  clear hK K
  refine wpT_ret ⟨.inr rfl, ?_⟩
  show optK (resA _ _ _ [.tmp 4]) _
  simp only [SRO, ↓SP, SZ, ↓reduceIte, reduceCtorEq, nE, nA, nL, nT, imgAV, hc14]
  exact ⟨fs, hI, hF⟩
theorem c91 (im : List (List Sec)) (m : Nat) (hl : im.length ≤ 4096) (hm : ∀ l ∈ im, l.length < 4000000000) : CallV Tryz.prog (.fn (.func 91) [] []) [imgAV im] (Hp.of [] m) fun v h' => v = .sl m im.length 0 im.length ∧ ∃ fs, famIm fs = im ∧ Fam h' m fs := by
 refine callV_func Tryz.func91 rfl (by kernel_rfl) (by show _ ≤ 5; simp only [List.length_append, List.length_cons, List.length_nil]; decide) ?_
 rw [Tryz.ntmps91]
 refine wpT_seq ?_
 refine wpT_region (by kernel_rfl) (fun K hK => ?_)
 simp only [↓SP, SZ, ↓reduceIte, reduceCtorEq, nE, nA, nL, nT]
 refine hK _ _ ?_
 clear hK K
 refine wpT_seq ?_
 refine wpT_region (by kernel_rfl) (fun K hK => ?_)
 simp only [↓SP, SZ, ↓reduceIte, reduceCtorEq, nE, nA, nL, nT]
 refine (c99 im m hl hm).mono ?_
 rintro _ h2 ⟨rfl, fs, hI, hF⟩
 simp only [↓SP, SZ, ↓reduceIte, reduceCtorEq, nE, nA, nL, nT]
 refine hK _ _ ?_
 clear hK K
 refine wpT_ret ⟨.inr rfl, ?_⟩
 show optK (resA _ _ _ [.tmp 2]) _
 simp only [SRO, ↓SP, SZ, ↓reduceIte, reduceCtorEq, nE, nA, nL, nT]
 exact ⟨fs, hI, hF⟩
end Go.Proofs.YtfdfkmcplhloaaaGreat
end

section
set_option linter.unusedSimpArgs false
set_option linter.unusedVariables false
namespace Go.Proofs.YtfdfkmcplhloaaaGreat
open Go.Proofs
open Nat renaming reduceEqDiff → nE, reduceAdd → nA, reduceLeDiff → nL, reduceLT → nT
set_option maxRecDepth 10000
def applyRun : Nat → List (List Sec) → List Wr → List (List Sec) × Int × Int
  | _, im, [] => (im, 0, 0)
  | i, im, w :: ws => if fitsE (sizesOf im) w ≠ 0 then ([], (i : Int), fitsE (sizesOf im) w) else applyRun (i + 1) (applyW im w) ws
def applyE (im : List (List Sec)) (ws : List Wr) : List (List Sec) × Int × Int := if sizesE (sizesOf im) ≠ 0 then ([], 0, sizesE (sizesOf im)) else applyRun 0 im ws
theorem fitsE_ok {sz : List Int} {w : Wr} (h : fitsE sz w = 0) : 0 ≤ w.vol ∧ w.vol < sz.length ∧ 0 < w.data.length ∧ 0 ≤ w.start ∧ w.start + w.data.length ≤ sz.getD w.vol.toNat 0 := by
  unfold fitsE at h
  split at h
  · simp at h
  · split at h
    · simp at h
    · split at h
      · simp at h
      · omega
theorem slA (id L s : Nat) (old : List Sec) (hl : old.length = L) (hs : s ≤ L) {g : Nat → Option Ob} (hg : g id = some (.arr 49 8 (old.map Sec.av))) : opSlice Tryz.prog 43 (.sl id L 0 L) (some (I s)) none g = some (.sl id L s (L - s)) := by
  have := slT_sl sle43 (c := 8) (by rfl) (by decide) id L 0 L (some (I s)) none g hg (by simpa using hl) (l := s) (u := L) rfl rfl hs (Nat.le_refl _)
  simpa using this
theorem cpA (id L s : Nat) (old data : List Sec) (hl : old.length = L) (hs : s + data.length ≤ L) {g : Nat → Option Ob} (hg : g id = some (.arr 49 8 (old.map Sec.av))) :
    opCopy Tryz.prog 43 (.sl id L s (L - s)) (.lst (data.map Sec.av)) g = some (.int .i64 (data.length : Nat), .set id (.arr 49 8 (((old.take s ++ data) ++ old.drop (s + data.length)).map Sec.av))) := by
  have h := cpT (x := .lst (data.map Sec.av)) (xs := data.map Sec.av) sle43 (c := 8) (by rfl) (by decide) id L s (L - s) g rfl (fun v hv => by
    obtain ⟨a, _, rfl⟩ := List.mem_map.1 hv
    rfl) hg (by simpa using hl) (by omega)
  have hm : min (data.map Sec.av).length (L - s) = data.length := by simp; omega
  rw [hm] at h
  rw [h]
  have ht : (data.map Sec.av).take data.length = data.map Sec.av := List.take_of_length_le (by simp)
  simp only [List.map_append, List.map_take, List.map_drop, ht]
theorem c67 (im : List (List Sec)) (ws : List Wr) (hl : im.length < 4000000) (hm : ∀ l ∈ im, l.length < 4000000) (hw : ∀ w ∈ ws, w.data.length < 4000000) (hwl : ws.length < 4000000) : Pu Tryz.prog (.fn (.func 67) [] []) [imgAV im, .lst (ws.map Wr.av)] (.tup [imgAV (applyE im ws).1, I (applyE im ws).2.1, I (applyE im ws).2.2]) := by
 refine pu_func Tryz.func67 rfl (by kernel_rfl) (by show _ ≤ 46; simp only [List.length_append, List.length_cons, List.length_nil]; decide) (by simp only [IDF, img_idf, and_tt]) (by simp only [IDF, and_tt, implies_true]) (by simp only [IDF, img_idf, wr_idf, and_tt, implies_true]) ?_
 rw [Tryz.ntmps67]
 refine wpT_seq ?_
 refine wpT_region (by kernel_rfl) (fun K hK => ?_)
 simp only [↓SP, SZ, ↓reduceIte, reduceCtorEq, nE, nA, nL, nT]
 refine hK _ _ ?_
 clear hK K
 refine wpT_seq ?_
 refine wpT_seq ?_
 refine wpT_region (by kernel_rfl) (fun K hK => ?_)
 simp only [↓SP, SZ, ↓reduceIte, reduceCtorEq, nE, nA, nL, nT]
 refine Pu.call (c33 im (by omega)) ?_
 simp only [↓SP, SZ, ↓reduceIte, reduceCtorEq, nE, nA, nL, nT]
 refine hK _ _ ?_
 clear hK K
 refine wpT_seq ?_
 refine wpT_region (by kernel_rfl) (fun K hK => ?_)
 simp only [↓SP, SZ, ↓reduceIte, reduceCtorEq, nE, nA, nL, nT]
 refine hK _ _ ?_
 clear hK K
 refine wpT_if (by rfl) (fun hc15 => ?_) (fun hc15 => ?_)
 ·
  have p15 := hc15
  try simp only [PB] at p15
  have hx : applyE im ws = ([], 0, sizesE (sizesOf im)) := if_pos p15
  refine wpT_seq ?_
  refine wpT_region (by kernel_rfl) (fun K hK => ?_)
  simp only [↓SP, SZ, ↓reduceIte, reduceCtorEq, nE, nA, nL, nT, hc15]
  refine hK _ _ ?_
  clear hK K
  refine wpT_ret ⟨.inr rfl, ?_⟩
  show optK (resA _ _ _ [.tmp 4, .tmp 5, .tmp 6]) _
  simp only [SRO, ↓SP, SZ, ↓reduceIte, reduceCtorEq, nE, nA, nL, nT, hc15]
  rw [hx]
  exact Lend.tupL (LendL.cons .nil0 (LendL.cons (.refl _) (LendL.cons (.refl _) LendL.nil)))
 ·
  have p15 := hc15
  try simp only [PB] at p15
  have hs0 : sizesE (sizesOf im) = 0 := by simpa using p15
  have hx0 : applyE im ws = applyRun 0 im ws := if_neg (by omega)
  have hl8 : im.length ≤ 8 := by
    unfold sizesE at hs0
    split at hs0
    · simp at hs0
    · have : (sizesOf im).length = im.length := by simp [sizesOf]
      omega
  have hsl : (sizesOf im).length = im.length := by simp [sizesOf]
  have hle := sizesE_le hs0
  refine wpT_skip ?_
  refine wpT_seq ?_
  refine wpT_region (by kernel_rfl) (fun K hK => ?_)
  simp only [↓SP, SZ, ↓reduceIte, reduceCtorEq, nE, nA, nL, nT, hc15]
  refine (c91 im 0 (by omega) (fun l hl' => by have := hm l hl'; omega)).mono ?_
  rintro _ h2 ⟨rfl, fs0, hI0, hF0⟩
  simp only [↓SP, SZ, ↓reduceIte, reduceCtorEq, nE, nA, nL, nT, hc15]
  refine hK _ _ ?_
  clear hK K
  refine wpT_seq ?_
  refine wpT_seq ?_
  refine wpT_region (by kernel_rfl) (fun K hK => ?_)
  simp only [↓SP, SZ, ↓reduceIte, reduceCtorEq, nE, nA, nL, nT, List.length_map, hc15]
  refine hK _ _ ?_
  clear hK K
  refine wpT_block ?_
  refine wpT_loop ?_
  refine wpT_ind (fun (i : Nat) tm' h' => ∃ fs, Fam h' 0 fs ∧ sizesOf (famIm fs) = sizesOf im ∧ applyRun i (famIm fs) (ws.drop i) = applyRun 0 im ws ∧ tm' 8 = .sl 0 im.length 0 im.length ∧ tm' 19 = .lst (ws.map Wr.av) ∧ tm' 20 = I ws.length ∧ tm' 21 = I i ∧ i ≤ ws.length) (fun i => ws.length - i) ?_ 0 ⟨fs0, hF0, by rw [hI0], by rw [hI0]; rfl, rfl, rfl, rfl, rfl, by omega⟩
  rintro i tm' h' ⟨fs, hF, hsz, hrun, e8, e19, e20, e21, hi⟩ IH
  have hfl : fs.length = im.length := by
    have := congrArg List.length hsz
    simpa [sizesOf, famIm] using this
  refine wpT_inLoop ?_
  refine wpT_seq ?_
  refine wpT_region (by kernel_rfl) (fun K hK => ?_)
  simp only [↓SP, SZ, ↓reduceIte, reduceCtorEq, nE, nA, nL, nT, e20, e21]
  refine hK _ _ ?_
  clear hK K
  refine wpT_seq ?_
  refine wpT_if (by rfl) (fun hc22 => ?_) (fun hc22 => ?_)
  ·
   have p22 := hc22
   try simp only [PB] at p22
   have hlt : i < ws.length := by omega
   have hg := at_map (f := Wr.av) hlt
   have hwi := hw _ (List.getElem_mem hlt)
   rw [List.drop_eq_getElem_cons hlt, applyRun, hsz] at hrun
   have hln := hF.lt
   have n1 : ¬ 0 = h'.nx := by omega
   have n2 : ¬ h'.nx = 0 := by omega
   have hlent : ∀ (o o2 : Ob), Lend ((h'.add o).set h'.nx o2).get (.sl 0 im.length 0 im.length) (imgAV (famIm fs)) := fun o o2 => by
     have := (hF.up (H' := (h'.add o).set h'.nx o2) (by show h'.nx ≤ h'.nx + 1; omega) (fun j hj => by
       have j1 : ¬ j = h'.nx := by omega
       simp only [↓SP, SZ, ↓reduceIte, reduceCtorEq, nE, nA, nL, nT, j1])).lend
     rwa [hfl] at this
   refine wpT_skip ?_
   refine wpT_seq ?_
   refine wpT_block ?_
   refine wpT_seq ?_
   refine wpT_region (by kernel_rfl) (fun K hK => ?_)
   simp only [↓SP, SZ, ↓reduceIte, reduceCtorEq, nE, nA, nL, nT, e19, e21, hg, hc22]
   refine hK _ _ ?_
   clear hK K
   refine wpT_seq ?_
   refine wpT_seq ?_
   refine wpT_region (by kernel_rfl) (fun K hK => ?_)
   simp only [↓SP, SZ, ↓reduceIte, reduceCtorEq, nE, nA, nL, nT, e8, hc22]
   refine Pu.lent (c92 (famIm fs) ws[i] (by simp [famIm]; omega) (fun l hl' => ?_) (by omega)) (.int _ _) (.refl _) (LendL.cons (hlent _ _) (LendL.cons (.refl _) LendL.nil)) ?_
   · obtain ⟨j, hj⟩ := List.getElem?_of_mem hl'
     have : (sizesOf (famIm fs))[j]? = some (l.length : Int) := by rw [sizesOf, List.getElem?_map, hj]; rfl
     rw [hsz] at this
     have := hle _ (List.mem_of_getElem? this)
     omega
   simp only [↓SP, SZ, ↓reduceIte, reduceCtorEq, nE, nA, nL, nT, e8, hc22]
   refine hK _ _ ?_
   clear hK K
   refine wpT_seq ?_
   refine wpT_region (by kernel_rfl) (fun K hK => ?_)
   simp only [↓SP, SZ, ↓reduceIte, reduceCtorEq, nE, nA, nL, nT, hsz, hc22]
   refine hK _ _ ?_
   clear hK K
   refine wpT_if (by rfl) (fun hc30 => ?_) (fun hc30 => ?_)
   ·
    have p30 := hc30
    try simp only [PB] at p30
    rw [if_pos p30] at hrun
    refine wpT_seq ?_
    refine wpT_region (by kernel_rfl) (fun K hK => ?_)
    simp only [↓SP, SZ, ↓reduceIte, reduceCtorEq, nE, nA, nL, nT, hsz, hc22, hc30]
    refine hK _ _ ?_
    clear hK K
    refine wpT_ret ⟨.inr rfl, ?_⟩
    show optK (resA _ _ _ [.tmp 4, .tmp 5, .tmp 6]) _
    simp only [SRO, ↓SP, SZ, ↓reduceIte, reduceCtorEq, nE, nA, nL, nT, hc22, hc30]
    rw [hx0, ← hrun]
    exact Lend.tupL (LendL.cons .nil0 (LendL.cons (.refl _) (LendL.cons (.refl _) LendL.nil)))
   ·
    have p30 := hc30
    try simp only [PB] at p30
    rw [if_neg (by omega)] at hrun
    obtain ⟨k1, k2, k3, k4, k5⟩ := fitsE_ok (sz := sizesOf im) (w := ws[i]) (by simpa using p30)
    obtain ⟨v, hv⟩ := Int.eq_ofNat_of_zero_le k1
    obtain ⟨s, hs⟩ := Int.eq_ofNat_of_zero_le k4
    have hvl : v < fs.length := by omega
    obtain ⟨id, old, hp⟩ : ∃ id old, fs[v] = (id, old) := ⟨_, _, rfl⟩
    have hp2 : fs[v]? = some (id, old) := by rw [List.getElem?_eq_getElem hvl, hp]
    obtain ⟨hm1, hm2, hm3⟩ := hF.mem _ (List.mem_of_getElem? hp2)
    simp only at hm1 hm2 hm3
    have hgf : (fs.map famE)[v]? = some (.sl id old.length 0 old.length) := by rw [List.getElem?_map, hp2]; rfl
    have hfg := hF.get
    have n3 : ¬ id = h'.nx := by omega
    have n4 : ¬ h'.nx = id := by omega
    have n5 : ¬ id = 0 := by omega
    have n6 : ¬ 0 = id := by omega
    have hold : (sizesOf im).getD ws[i].vol.toNat 0 = (old.length : Int) := by
      rw [← hsz, hv, Int.toNat_natCast]
      simp [sizesOf, famIm, List.getD_eq_getElem?_getD, hp2]
    have hso : s + (ws[i]).data.length ≤ old.length := by omega
    have hz0 : (0 : Int) ≤ (v : Int) := by omega
    have hz1 : (v : Int) < (im.length : Int) := by omega
    refine wpT_skip ?_
    refine wpT_drawn [] mixed (by kernel_rfl) (m := 11) rfl (fun K hK => ?_)
    simp only [↓SP, SZ, ↓reduceIte, reduceCtorEq, nE, nA, nL, nT, e8, hv, hs, hfg, hgf, hm1, hfl, n1, n2, n3, n4, n5, n6, hz0, hz1, Int.toNat_natCast, Wr.av, ldO_arr, Option.bind_some, Option.map_none, rd_cut_sn, slA id old.length s old rfl (by omega), cpA id old.length s old (ws[i]).data rfl hso, hc22, hc30]
    refine hK _ _ ?_
    clear hK K
    refine wpT_inBlock ?_
    refine wpT_region (by kernel_rfl) (fun K hK => ?_)
    simp only [↓SP, SZ, ↓reduceIte, reduceCtorEq, nE, nA, nL, nT, e21, wrap64 (x := (i : Int) + 1) (by omega) (by omega), hc22, hc30]
    refine hK _ _ ?_
    clear hK K
    have him : applyW (famIm fs) ws[i] = famIm (fs.set v (id, (old.take s ++ (ws[i]).data) ++ old.drop (s + (ws[i]).data.length))) := by
      have hd : (famIm fs).getD v [] = old := by simp [famIm, List.getD_eq_getElem?_getD, hp2]
      rw [applyW, hv, hs, Int.toNat_natCast, Int.toNat_natCast, hd]
      simp only [famIm, List.map_set]
    refine IH (i + 1) _ _ (by omega) ⟨fs.set v (id, (old.take s ++ (ws[i]).data) ++ old.drop (s + (ws[i]).data.length)), hF.set hp2 (by simp only [List.length_append, List.length_take, List.length_drop]; omega) (by simp only [↓SP, SZ, ↓reduceIte, reduceCtorEq, nE, nA, nL, nT]; omega) (by simp only [↓SP, SZ, ↓reduceIte, reduceCtorEq, nE, nA, nL, nT]) (fun j hj hja => ?_), ?_, ?_, by simp only [↓SP, SZ, ↓reduceIte, reduceCtorEq, nE, nA, nL, nT, e8], by simp only [↓SP, SZ, ↓reduceIte, reduceCtorEq, nE, nA, nL, nT, e19], by simp only [↓SP, SZ, ↓reduceIte, reduceCtorEq, nE, nA, nL, nT, e20], by simp only [↓SP, SZ, ↓reduceIte, reduceCtorEq, nE, nA, nL, nT, Int.natCast_add, Int.cast_ofNat_Int], by omega⟩
    · have j1 : ¬ j = h'.nx := by omega
      simp only [↓SP, SZ, ↓reduceIte, reduceCtorEq, nE, nA, nL, nT, j1, hja]
    · rw [← him, applyW_sizes (by rw [hsz]; exact p30), hsz]
    · rw [← him]; exact hrun
  ·
   have p22 := hc22
   try simp only [PB] at p22
   rw [List.drop_eq_nil_of_le (by omega), applyRun] at hrun
   refine wpT_exit rfl ?_
   refine wpT_seq ?_
   refine wpT_region (by kernel_rfl) (fun K hK => ?_)
   simp only [↓SP, SZ, ↓reduceIte, reduceCtorEq, nE, nA, nL, nT, e8, hc22]
   refine hK _ _ ?_
   clear hK K
   refine wpT_ret ⟨.inr rfl, ?_⟩
   show optK (resA _ _ _ [.tmp 4, .tmp 5, .tmp 6]) _
   simp only [SRO, ↓SP, SZ, ↓reduceIte, reduceCtorEq, nE, nA, nL, nT, hc22]
   rw [hx0, ← hrun]
   have := hF.lend
   rw [hfl] at this
   exact Lend.tupL (LendL.cons this (LendL.cons (.refl _) (LendL.cons (.refl _) LendL.nil)))
end Go.Proofs.YtfdfkmcplhloaaaGreat
end

section
set_option linter.unusedSimpArgs false
set_option linter.unusedVariables false
namespace Go.Proofs.YtfdfkmcplhloaaaGreat
open Go.Proofs
open Nat renaming reduceEqDiff → nE, reduceAdd → nA, reduceLeDiff → nL, reduceLT → nT
set_option maxRecDepth 10000
theorem applyRun_ok {sz : List Int} : ∀ {ws : List Wr} {im : List (List Sec)} {i : Nat}, sizesOf im = sz → (∀ w ∈ ws, fitsE sz w = 0) → applyRun i im ws = (ws.foldl applyW im, 0, 0)
  | [], _, _, _, _ => rfl
  | w :: ws, im, i, hs, hw => by
    have hf : fitsE (sizesOf im) w = 0 := by rw [hs]; exact hw w (by simp)
    rw [applyRun, if_neg (by omega), List.foldl_cons]
    exact applyRun_ok ((applyW_sizes hf).trans hs) fun x hx => hw x (by simp [hx])
def imageE (h : Hist) (l : List Int) : Int := if histE h ≠ 0 then histE h else if setP h.ws.length (-1) l = true then 0 else 2
def imageR (h : Hist) (l : List Int) : List (List Sec) := if imageE h l ≠ 0 then [] else imgS h l
theorem wrAt_mem {ws : List Wr} {i : Int} (h0 : 0 ≤ i) (h1 : i < ws.length) : wrAt ws i ∈ ws := by
  have : i.toNat < ws.length := by omega
  rw [wrAt, List.getD_eq_getElem?_getD, List.getElem?_eq_getElem this]
  exact List.getElem_mem this
theorem image_apply {h : Hist} (e : histE h = 0) {l : List Int} (hl : setP h.ws.length (-1) l = true) : applyE (newImg h.sizes) (l.map (wrAt h.ws)) = (imgS h l, 0, 0) := by
  obtain ⟨h1, _, h3, _⟩ := hist_ok e
  have hm := setP_mem hl
  rw [applyE, sizes_new h1, if_neg (by omega), applyRun_ok (sizes_new h1) (fun w hw => ?_)]
  · rw [imgS, newImg, if_neg (by omega)]
  · obtain ⟨i, hi, rfl⟩ := List.mem_map.1 hw
    exact fitsAll_mem h3 _ (wrAt_mem (hm i hi).1 (hm i hi).2.1)
def imI (h : Hist) (l : List Int) (o : Ob) (rem : List Int) (H : Hp) : Prop :=
  ∃ done : List Int, 5 ≤ H.nx ∧ H.get 2 = some (.arr 23 1 [.sl 3 done.length 0 done.length]) ∧ H.get 3 = some (.arr 45 3 ((done.map (wrAt h.ws)).map Wr.av)) ∧ H.get 4 = some o ∧ done ++ rem = l
theorem c40 (h : Hist) (l : List Int) (hs : h.sm) (hl : l.length < 4000000) : Pu Tryz.prog (.fn (.func 40) [] []) [h.av, .lst (l.map I)] (.tup [imgAV (imageR h l), I (imageE h l)]) := by
 refine pu_func Tryz.func40 rfl (by kernel_rfl) (by show _ ≤ 51; simp only [List.length_append, List.length_cons, List.length_nil]; decide) (by simp only [IDF, img_idf, and_tt]) (by simp only [IDF, and_tt, implies_true]) (by simp only [IDF, hist_idf, and_tt, implies_true]) ?_
 have hh := hs.ok
 have hw := hs.2.1
 have k0 : (chkAV h).cells.length = 5 ∧ (chkAV h).okc = true ∧ (chkAV h).isAgg = true := by
   unfold chkAV
   split <;> exact ⟨rfl, rfl, rfl⟩
 obtain ⟨k1, k2, k3⟩ := k0
 have k5 : loadV Tryz.prog 123 (chkAV h) 0 = some (chkAV h) := by
   unfold chkAV
   split <;> (simp only [TY]; rfl)
 have k6 : loadV Tryz.prog 22 h.av 0 = some (.lst (h.sizes.map I)) := by simp only [Hist.av, TY]; rfl
 rw [Tryz.ntmps40]
 refine wpT_seq ?_
 refine wpT_region (by kernel_rfl) (fun K hK => ?_)
 simp only [↓SP, SZ, ↓reduceIte, reduceCtorEq, nE, nA, nL, nT, k1, k2, k3, k5, k6]
 refine hK _ _ ?_
 clear hK K
 refine wpT_seq ?_
 refine wpT_region (by kernel_rfl) (fun K hK => ?_)
 simp only [↓SP, SZ, ↓reduceIte, reduceCtorEq, nE, nA, nL, nT, k1, k2, k3, k5, k6]
 refine Pu.call (c60 h hs) ?_
 simp only [↓SP, SZ, ↓reduceIte, reduceCtorEq, nE, nA, nL, nT, k1, k2, k3, k5, k6]
 refine hK _ _ ?_
 clear hK K
 refine wpT_seq ?_
 refine wpT_seq ?_
 refine wpT_region (by kernel_rfl) (fun K hK => ?_)
 simp only [↓SP, SZ, ↓reduceIte, reduceCtorEq, nE, nA, nL, nT, k1, k2, k3, k5, k6]
 refine hK _ _ ?_
 clear hK K
 refine wpT_if (by rfl) (fun hc21 => ?_) (fun hc21 => ?_)
 ·
  have p21 := hc21
  try simp only [PB] at p21
  have hx : imageE h l = histE h := if_pos p21
  have hx2 : imageR h l = [] := if_pos (by omega)
  refine wpT_seq ?_
  refine wpT_region (by kernel_rfl) (fun K hK => ?_)
  simp only [↓SP, SZ, ↓reduceIte, reduceCtorEq, nE, nA, nL, nT, k1, k2, k3, k5, k6, hc21]
  refine hK _ _ ?_
  clear hK K
  refine wpT_ret ⟨.inr rfl, ?_⟩
  show optK (resA _ _ _ [.tmp 4, .tmp 5]) _
  simp only [SRO, ↓SP, SZ, ↓reduceIte, reduceCtorEq, nE, nA, nL, nT, k1, k2, k3, k5, k6, hc21]
  rw [hx2, hx]
  exact Lend.tupL (LendL.cons .nil0 (LendL.cons (.refl _) LendL.nil))
 ·
  have p21 := hc21
  try simp only [PB] at p21
  have e0 : histE h = 0 := by simpa using p21
  have hx : imageE h l = if setP h.ws.length (-1) l = true then 0 else 2 := if_neg (by omega)
  have h1 := (hist_ok e0).1
  refine wpT_skip ?_
  refine wpT_seq ?_
  refine wpT_seq ?_
  refine wpT_region (by kernel_rfl) (fun K hK => ?_)
  simp only [↓SP, SZ, ↓reduceIte, reduceCtorEq, nE, nA, nL, nT, k1, k2, k3, k5, k6, hc21]
  refine Pu.call (c64 h l e0 hs (by omega)) ?_
  simp only [↓SP, SZ, ↓reduceIte, reduceCtorEq, nE, nA, nL, nT, k1, k2, k3, k5, k6, hc21]
  refine hK _ _ ?_
  clear hK K
  refine wpT_if (by rfl) (fun hc26 => ?_) (fun hc26 => ?_)
  ·
   have p26 := hc26
   try simp only [PB] at p26
   have hx1 : imageE h l = 2 := by rw [hx, p26]; rfl
   have hx2 : imageR h l = [] := if_pos (by omega)
   refine wpT_seq ?_
   refine wpT_region (by kernel_rfl) (fun K hK => ?_)
   simp only [↓SP, SZ, ↓reduceIte, reduceCtorEq, nE, nA, nL, nT, k1, k2, k3, k5, k6, hc21, hc26]
   refine hK _ _ ?_
   clear hK K
   refine wpT_ret ⟨.inr rfl, ?_⟩
   show optK (resA _ _ _ [.tmp 4, .tmp 5]) _
   simp only [SRO, ↓SP, SZ, ↓reduceIte, reduceCtorEq, nE, nA, nL, nT, k1, k2, k3, k5, k6, hc21, hc26]
   rw [hx2, hx1]
   exact Lend.tupL (LendL.cons .nil0 (LendL.cons (.refl _) LendL.nil))
  ·
   have p26 := hc26
   try simp only [PB] at p26
   have hset : setP h.ws.length (-1) l = true := by simpa using p26
   have hx1 : imageE h l = 0 := by rw [hx, hset]; rfl
   have hx2 : imageR h l = imgS h l := if_neg (by omega)
   have hmb := setP_mem hset
   have hia := image_apply e0 hset
   refine wpT_skip ?_
   refine wpT_seq ?_
   refine wpT_region (by kernel_rfl) (fun K hK => ?_)
   simp only [↓SP, SZ, ↓reduceIte, reduceCtorEq, nE, nA, nL, nT, k1, k2, k3, k5, k6, hc21, hc26]
   refine Pu.call (c65 h.sizes hh.1) ?_
   simp only [↓SP, SZ, ↓reduceIte, reduceCtorEq, nE, nA, nL, nT, k1, k2, k3, k5, k6, hc21, hc26]
   refine hK _ _ ?_
   clear hK K
   refine wpT_seq ?_
   refine wpT_region (by kernel_rfl) (fun K hK => ?_)
   simp only [↓SP, SZ, ↓reduceIte, reduceCtorEq, nE, nA, nL, nT, k1, k2, k3, k5, k6, hc21, hc26]
   refine hK _ _ ?_
   clear hK K
   refine wpT_seq ?_
   refine wpT_seq ?_
   refine wpT_region (by kernel_rfl) (fun K hK => ?_)
   simp only [↓SP, SZ, ↓reduceIte, reduceCtorEq, nE, nA, nL, nT, k1, k2, k3, k5, k6, hc21, hc26]
   refine Pu.call (c66 h l) ?_
   simp only [↓SP, SZ, ↓reduceIte, reduceCtorEq, nE, nA, nL, nT, k1, k2, k3, k5, k6, hc21, hc26]
   refine hK _ _ ?_
   clear hK K
   refine wpT_block ?_
   refine wpT_nilvar 2 45 3 (by simp only [↓SP, SZ, ↓reduceIte, reduceCtorEq, nE, nA, nL, nT]; rfl) (by rfl) ?_
   refine wpT_keep2 (i := 2) (j := 3) (o := .arr 23 1 [.sl 3 0 0 0]) (q := .arr 45 3 []) (by simp only [↓SP, SZ, ↓reduceIte, reduceCtorEq, nE, nA, nL, nT]) (by simp only [↓SP, SZ, ↓reduceIte, reduceCtorEq, nE, nA, nL, nT]) ?_
   refine wpT_ind (fun (_ : Unit) tm' h' => h' = Hp.of [(2, .arr 23 1 [.sl 3 0 0 0]), (3, .arr 45 3 [])] 4 ∧ tm' 8 = imgAV (newImg h.sizes) ∧ tm' 10 = .ptr 2 1 0 0 ∧ tm' 35 = .fn (.func 90) [] [.cptr (.lst (l.map I)), .cptr (chkAV h)]) (fun _ => 0) ?_ () ⟨rfl, rfl, rfl, rfl⟩
   rintro _ tm' _ ⟨rfl, e8, e10, e35⟩ -
   refine wpT_rangeN (by simp only [↓SP, SZ, ↓reduceIte, reduceCtorEq, nE, nA, nL, nT, e35]; rfl) Tryz.func90 rfl (by kernel_rfl) (fun lid fid ca cb ea eb => ?_)
   refine CallV.mono (c90 h e0 l (by omega) (fun x hx => ⟨(hmb x hx).1, (hmb x hx).2.1⟩) (.fn (.yield lid) [] []) (imI h l (.loop lid fid #[36, 37] ca cb tm' 51 .ready none)) (fun _ => False) _ ⟨[], Nat.le_refl _, rfl, rfl, rfl, rfl⟩ (fun k hk ys h' hI => ?_)) ?_
   obtain ⟨done, q0, q2, q3, q4, q5⟩ := hI
   subst ea eb
   refine callV_yield q4 rfl (by rfl) ?_
   show wpT _ _ _ _ _ ((tm'.put (some 36) (I (k : Int))).put (some 37) (h.ws[k]).av) _
   have hdl : done.length < l.length := by rw [← q5]; simp
   have n2 : ¬ 2 = h'.nx := by omega
   have n3 : ¬ 3 = h'.nx := by omega
   have n4 : ¬ 4 = h'.nx := by omega
   have n2' : ¬ h'.nx = 2 := by omega
   have n3' : ¬ h'.nx = 3 := by omega
   have n4' : ¬ h'.nx = 4 := by omega
   have p2 : ¬ 2 = h'.nx + 1 := by omega
   have p3 : ¬ 3 = h'.nx + 1 := by omega
   have p4 : ¬ 4 = h'.nx + 1 := by omega
   have p2' : ¬ h'.nx + 1 = 2 := by omega
   have p3' : ¬ h'.nx + 1 = 3 := by omega
   have p4' : ¬ h'.nx + 1 = 4 := by omega
   have p5 : ¬ h'.nx = h'.nx + 1 := by omega
   have p5' : ¬ h'.nx + 1 = h'.nx := by omega
   have m1 : done.length + 1 ≤ maxLen := by simp only [maxLen]; omega
   have m2 : (done.length + 1) * 40 ≤ 140737488355328 := by omega
   have hwk : wrAt h.ws (k : Int) = h.ws[k] := wrAt_eq (List.getElem?_eq_getElem hk)
   ·
    refine wpT_region (by kernel_rfl) (fun K hK => ?_)
    simp only [↓SP, SZ, ↓reduceIte, reduceCtorEq, nE, nA, nL, nT, k1, k2, k3, k5, k6, q2, q3, q4, n2, n3, n4, n2', n3', n4']
    refine hK _ _ ?_
    clear hK K
    refine wpT_beginRound (id := 4) (by simp only [↓SP, SZ, ↓reduceIte, reduceCtorEq, nE, nA, nL, nT, q4, n4]; rfl) ?_
    refine wpT_block ?_
    refine wpT_region (by kernel_rfl) (fun K hK => ?_)
    simp only [↓SP, SZ, ↓reduceIte, reduceCtorEq, nE, nA, nL, nT, k1, k2, k3, k5, k6, e10, q2, q3, n2, n3, n4, n2', n3', n4', p2, p3, p4, p2', p3', p4', p5, p5', m1, m2]
    refine hK _ _ ?_
    clear hK K
    refine wpT_inBlock ?_
    refine wpT_end ?_
    refine ⟨by simp only [↓SP, SZ, ↓reduceIte, reduceCtorEq, nE, nA, nL, nT, q4, n2, n3, n4, n2', n3', n4', p2, p3, p4, p2', p3', p4', p5, p5'], true, rfl, .inl ⟨rfl, done ++ [(k : Int)], ?_, ?_, ?_, ?_, by simpa using q5⟩⟩
    · simp only [↓SP, SZ, ↓reduceIte, reduceCtorEq, nE, nA, nL, nT]; omega
    · simp only [↓SP, SZ, ↓reduceIte, reduceCtorEq, nE, nA, nL, nT, n2, n3, n4, n2', n3', n4', p2, p3, p4, p2', p3', p4', p5, p5']
    · simp only [↓SP, SZ, ↓reduceIte, reduceCtorEq, nE, nA, nL, nT, q3, hwk, List.map_append, n2, n3, n4, n2', n3', n4', p2, p3, p4, p2', p3', p4', p5, p5']
    · simp only [↓SP, SZ, ↓reduceIte, reduceCtorEq, nE, nA, nL, nT, n2, n3, n4, n2', n3', n4', p2, p3, p4, p2', p3', p4', p5, p5']
   rintro _ h2 (hI | hJ)
   rotate_left
   · exact hJ.elim
   ·
    obtain ⟨done, q0, q2, q3, q4, q5⟩ := hI
    rw [List.append_nil] at q5
    have q5 := q5.symm
    subst q5
    refine ⟨.ready, none, q4, by simp, ?_⟩
    simp only [Option.map_none, Option.toList_none, List.nil_append]
    refine wpT_inBlock ?_
    refine wpT_seq ?_
    refine wpT_region (by kernel_rfl) (fun K hK => ?_)
    simp only [↓SP, SZ, ↓reduceIte, reduceCtorEq, nE, nA, nL, nT, k1, k2, k3, k5, k6, e8, e10, q2, q3]
    refine Pu.freeze (c67 (newImg h.sizes) (l.map (wrAt h.ws)) ?_ ?_ ?_ ?_) 3 (LendL.cons (.refl _) (LendL.cons (Lend.sl0 (E := 45) (s := 3) (by simp only [↓SP, SZ, ↓reduceIte, reduceCtorEq, nE, nA, nL, nT, q3]) (by simp) (wrs_okc _)) LendL.nil)) ?_
    · have := (new_lens h1).1; omega
    · intro x hx
      rw [newImg, if_neg (by omega)] at hx
      obtain ⟨n, hn, rfl⟩ := List.mem_map.1 hx
      have := sizesE_le h1 n hn
      simp [zeros]; omega
    · intro w hw
      obtain ⟨i, hi, rfl⟩ := List.mem_map.1 hw
      exact hs.2.2.2 _ (wrAt_mem (hmb i hi).1 (hmb i hi).2.1)
    · simpa using hl
    simp only [↓SP, SZ, ↓reduceIte, reduceCtorEq, nE, nA, nL, nT, k1, k2, k3, k5, k6, e8, e10, q2, q3]
    refine hK _ _ ?_
    clear hK K
    refine wpT_seq ?_
    refine wpT_region (by kernel_rfl) (fun K hK => ?_)
    simp only [↓SP, SZ, ↓reduceIte, reduceCtorEq, nE, nA, nL, nT, k1, k2, k3, k5, k6]
    refine hK _ _ ?_
    clear hK K
    refine wpT_ret ⟨.inr rfl, ?_⟩
    show optK (resA _ _ _ [.tmp 4, .tmp 5]) _
    simp only [SRO, ↓SP, SZ, ↓reduceIte, reduceCtorEq, nE, nA, nL, nT, k1, k2, k3, k5, k6]
    rw [hx2, hx1, hia]
    exact .refl _
theorem c35 (l : List Sec) (n : Int) (hl : l.length < 4611686018427387904) : Pu Tryz.prog (.fn (.func 35) [] []) [.lst (l.map Sec.av), I n] (B (decide ((l.length : Int) = n))) := by
 refine pu_func Tryz.func35 rfl (by kernel_rfl) (by show _ ≤ 9; simp only [LN]; decide) (by simp only [IDS, chkAV_idf]) (by simp only [IDS, chkAV_idf]) (by simp only [IDS, chkAV_idf]) ?_
 rw [Tryz.ntmps35]
 refine wpT_seq ?_
 refine wpT_region (by kernel_rfl) (fun K hK => ?_)
 simp only [↓SP, SZ, ↓reduceIte, reduceCtorEq, nE, nA, nL, nT, sec_neq]
 refine hK _ _ ?_
 clear hK K
 refine wpT_seq ?_
 refine wpT_region (by kernel_rfl) (fun K hK => ?_)
 simp only [↓SP, SZ, ↓reduceIte, reduceCtorEq, nE, nA, nL, nT, sec_neq]
 refine hK _ _ ?_
 clear hK K
 refine wpT_ret ⟨.inr rfl, ?_⟩
 show optK (resA _ _ _ [.tmp 4]) _
 simp only [SRO, ↓SP, SZ, ↓reduceIte, reduceCtorEq, nE, nA, nL, nT, sec_neq]
 refine Lend.eq ?_
 first
   | rfl
   | (congr 1; by_cases h : (l.length : Int) = n <;> simp [h])
theorem c34 (xs : List (List Sec)) (ys : List Int) (hl : xs.length < 4000000) (hm : ∀ l ∈ xs, l.length < 4000000) : Pu Tryz.prog (.fn (.func 34) [] []) [imgAV xs, .lst (ys.map I), .fn (.func 35) [] []] (B (decide (sizesOf xs = ys))) := by
 refine pu_func Tryz.func34 rfl (by kernel_rfl) (by show _ ≤ 32; simp only [LN]; decide) (by simp only [IDS, chkAV_idf]) (by simp only [IDS, chkAV_idf]) (by simp only [IDS, chkAV_idf]) ?_
 rw [Tryz.ntmps34]
 have hsl : (sizesOf xs).length = xs.length := by simp [sizesOf]
 refine wpT_seq ?_
 refine wpT_region (by kernel_rfl) (fun K hK => ?_)
 simp only [↓SP, SZ, ↓reduceIte, reduceCtorEq, nE, nA, nL, nT, sec_neq]
 refine hK _ _ ?_
 clear hK K
 refine wpT_seq ?_
 refine wpT_seq ?_
 refine wpT_region (by kernel_rfl) (fun K hK => ?_)
 simp only [↓SP, SZ, ↓reduceIte, reduceCtorEq, nE, nA, nL, nT, sec_neq, imgAV]
 refine hK _ _ ?_
 clear hK K
 refine wpT_if (by rfl) (fun hc14 => ?_) (fun hc14 => ?_)
 ·
  have p14 := hc14
  try simp only [PB] at p14
  have hne : sizesOf xs ≠ ys := fun e => by subst e; simp [hsl] at p14
  refine wpT_seq ?_
  refine wpT_region (by kernel_rfl) (fun K hK => ?_)
  simp only [↓SP, SZ, ↓reduceIte, reduceCtorEq, nE, nA, nL, nT, sec_neq, hc14]
  refine hK _ _ ?_
  clear hK K
  refine wpT_ret ⟨.inr rfl, ?_⟩
  show optK (resA _ _ _ [.tmp 6]) _
  simp only [SRO, ↓SP, SZ, ↓reduceIte, reduceCtorEq, nE, nA, nL, nT, sec_neq, hc14]
  refine Lend.eq ?_
  first
    | simp only [hne, decide_false]
    | simp only [he, decide_true]
 ·
  have p14 := hc14
  try simp only [PB] at p14
  have hlen : xs.length = ys.length := by omega
  refine wpT_skip ?_
  refine wpT_seq ?_
  refine wpT_seq ?_
  refine wpT_region (by kernel_rfl) (fun K hK => ?_)
  simp only [↓SP, SZ, ↓reduceIte, reduceCtorEq, nE, nA, nL, nT, sec_neq, imgAV, hc14]
  refine hK _ _ ?_
  clear hK K
  refine wpT_block ?_
  refine wpT_loop ?_
  refine wpT_keep0 ?_
  refine wpT_ind (fun (i : Nat) tm' h' => (∃ m, h' = Hp.of [] m) ∧ tm' 1 = .lst (ys.map I) ∧ tm' 2 = .fn (.func 35) [] [] ∧ tm' 15 = imgAV xs ∧ tm' 16 = I xs.length ∧ tm' 17 = I i ∧ i ≤ xs.length ∧ (sizesOf xs).take i = ys.take i) (fun i => xs.length - i) ?_ 0 ⟨⟨_, rfl⟩, rfl, rfl, rfl, rfl, rfl, Nat.zero_le _, rfl⟩
  rintro i tm' _ ⟨⟨m, rfl⟩, e1, e2, e15, e16, e17, hi, hx⟩ IH
  refine wpT_inLoop ?_
  refine wpT_seq ?_
  refine wpT_region (by kernel_rfl) (fun K hK => ?_)
  simp only [↓SP, SZ, ↓reduceIte, reduceCtorEq, nE, nA, nL, nT, sec_neq, e16, e17]
  refine hK _ _ ?_
  clear hK K
  refine wpT_seq ?_
  refine wpT_if (by rfl) (fun hc18 => ?_) (fun hc18 => ?_)
  ·
   have p18 := hc18
   try simp only [PB] at p18
   have hlt : i < xs.length := by omega
   have hlt' : i < ys.length := by omega
   have hlt2 : i < (sizesOf xs).length := by omega
   have hsi : (sizesOf xs)[i] = (xs[i].length : Int) := by simp [sizesOf]
   have hg := at_map (f := fun l : List Sec => AV.lst (l.map Sec.av)) hlt
   have hg' := at_map (f := I) hlt'
   refine wpT_skip ?_
   refine wpT_seq ?_
   refine wpT_block ?_
   refine wpT_seq ?_
   refine wpT_region (by kernel_rfl) (fun K hK => ?_)
   simp only [↓SP, SZ, ↓reduceIte, reduceCtorEq, nE, nA, nL, nT, sec_neq, e15, e17, imgAV, hg, hc18]
   refine hK _ _ ?_
   clear hK K
   refine wpT_seq ?_
   refine wpT_region (by kernel_rfl) (fun K hK => ?_)
   simp only [↓SP, SZ, ↓reduceIte, reduceCtorEq, nE, nA, nL, nT, sec_neq, e1, hg', hc18]
   refine hK _ _ ?_
   clear hK K
   refine wpT_seq ?_
   refine wpT_region (by kernel_rfl) (fun K hK => ?_)
   simp only [↓SP, SZ, ↓reduceIte, reduceCtorEq, nE, nA, nL, nT, sec_neq, e2, hc18]
   refine Pu.call (c35 xs[i] ys[i] (by have := hm _ (List.getElem_mem hlt); omega)) ?_
   simp only [↓SP, SZ, ↓reduceIte, reduceCtorEq, nE, nA, nL, nT, sec_neq, e2, hc18]
   refine hK _ _ ?_
   clear hK K
   refine wpT_if (by rfl) (fun hc30 => ?_) (fun hc30 => ?_)
   ·
    have p30 := hc30
    try simp only [PB] at p30
    have hne : sizesOf xs ≠ ys := fun e => by subst e; simp [hsi] at p30
    refine wpT_seq ?_
    refine wpT_region (by kernel_rfl) (fun K hK => ?_)
    simp only [↓SP, SZ, ↓reduceIte, reduceCtorEq, nE, nA, nL, nT, sec_neq, hc18, hc30]
    refine hK _ _ ?_
    clear hK K
    refine wpT_ret ⟨.inr rfl, ?_⟩
    show optK (resA _ _ _ [.tmp 6]) _
    simp only [SRO, ↓SP, SZ, ↓reduceIte, reduceCtorEq, nE, nA, nL, nT, sec_neq, hc18, hc30]
    refine Lend.eq ?_
    first
      | simp only [hne, decide_false]
      | simp only [he, decide_true]
   ·
    have p30 := hc30
    try simp only [PB] at p30
    have hx' := take_step hlt2 hlt' hx (by rw [hsi]; simpa using p30)
    refine wpT_skip ?_
    refine wpT_inBlock ?_
    refine wpT_region (by kernel_rfl) (fun K hK => ?_)
    simp only [↓SP, SZ, ↓reduceIte, reduceCtorEq, nE, nA, nL, nT, sec_neq, e17, wrap64 (x := (i : Int) + 1) (by omega) (by omega), hc18, hc30]
    refine hK _ _ ?_
    clear hK K
    refine wpT_keep0 ?_
    refine IH (i + 1) _ _ (by omega) ⟨⟨_, rfl⟩, by simp only [↓SP, SZ, ↓reduceIte, reduceCtorEq, nE, nA, nL, nT, sec_neq, e1], by simp only [↓SP, SZ, ↓reduceIte, reduceCtorEq, nE, nA, nL, nT, sec_neq, e2], by simp only [↓SP, SZ, ↓reduceIte, reduceCtorEq, nE, nA, nL, nT, sec_neq, e15], by simp only [↓SP, SZ, ↓reduceIte, reduceCtorEq, nE, nA, nL, nT, sec_neq, e16], by simp only [↓SP, SZ, ↓reduceIte, reduceCtorEq, nE, nA, nL, nT, sec_neq, Int.natCast_add, Int.cast_ofNat_Int], by omega, hx'⟩
  ·
   have p18 := hc18
   try simp only [PB] at p18
   have he : sizesOf xs = ys := by
     rw [List.take_of_length_le (by omega), List.take_of_length_le (by omega)] at hx
     exact hx
   refine wpT_exit rfl ?_
   refine wpT_seq ?_
   refine wpT_region (by kernel_rfl) (fun K hK => ?_)
   simp only [↓SP, SZ, ↓reduceIte, reduceCtorEq, nE, nA, nL, nT, sec_neq, hc18]
   refine hK _ _ ?_
   clear hK K
   refine wpT_ret ⟨.inr rfl, ?_⟩
   show optK (resA _ _ _ [.tmp 6]) _
   simp only [SRO, ↓SP, SZ, ↓reduceIte, reduceCtorEq, nE, nA, nL, nT, sec_neq, hc18]
   refine Lend.eq ?_
   first
     | simp only [hne, decide_false]
     | simp only [he, decide_true]
end Go.Proofs.YtfdfkmcplhloaaaGreat
end

section
set_option linter.unusedSimpArgs false
set_option linter.unusedVariables false
namespace Go.Proofs.YtfdfkmcplhloaaaGreat
open Go.Proofs
open Nat renaming reduceEqDiff → nE, reduceAdd → nA, reduceLeDiff → nL, reduceLT → nT
set_option maxRecDepth 10000
theorem sec_eq9 (x y : Sec) : (eqT Tryz.prog 9 49 x.av y.av) = some (decide (x = y)) := by
  have h : (eqT Tryz.prog 9 49 x.av y.av) = if (x.a == y.a) = true then (if (x.b == y.b) = true then (if (x.c == y.c) = true then (if (x.d == y.d) = true then (if (x.e == y.e) = true then (if (x.f == y.f) = true then (if (x.g == y.g) = true then (if (x.h == y.h) = true then some true else some false) else some false) else some false) else some false) else some false) else some false) else some false) else some false := by kernel_rfl
  rw [h]
  cases x; cases y
  simp only [beq_iff_eq, Sec.mk.injEq]
  repeat' split
  all_goals simp_all
theorem ct_eq (x y : Ct) : eqT Tryz.prog 10 88 x.av y.av = some (decide (x = y)) := by
  have h : eqT Tryz.prog 10 88 x.av y.av = (eqT Tryz.prog 9 85 (.agg [I x.vol, I x.sec]) (.agg [I y.vol, I y.sec])).bind fun r => if r = true then (eqT Tryz.prog 9 49 x.dat.av y.dat.av).bind (fun r => if r = true then some true else some false) else some false := by kernel_rfl
  have h2 : eqT Tryz.prog 9 85 (.agg [I x.vol, I x.sec]) (.agg [I y.vol, I y.sec]) = if (x.vol == y.vol) = true then (if (x.sec == y.sec) = true then some true else some false) else some false := by kernel_rfl
  rw [h, h2, sec_eq9]
  cases x; cases y
  simp only [beq_iff_eq, Ct.mk.injEq]
  repeat' split
  all_goals simp_all
  split <;> simp_all
theorem int_eqT (x y : Int) : eqT Tryz.prog 10 3 (I x) (I y) = some (decide (x = y)) := by
  have h : eqT Tryz.prog 10 3 (I x) (I y) = some (x == y) := by kernel_rfl
  rw [h]; rfl
theorem ct_bits (c : Ct) : bitsA c.av c.av = true := by simp [Ct.av, bitsA, bit1]
theorem ct_okc (c : Ct) : c.av.okc = true := rfl
theorem ct_isAgg (c : Ct) : c.av.isAgg = true := rfl
theorem ct_cells (c : Ct) : c.av.cells.length = 10 := rfl
theorem ct_ld (c : Ct) : loadV Tryz.prog 88 c.av 0 = some c.av := by simp only [Ct.av, TY]; rfl
theorem ct_ldd (c : Ct) : loadV Tryz.prog 49 c.av 2 = some c.dat.av := by kernel_rfl
theorem ct_idf (c : Ct) : Idf c.av = True := eq_true (by simp only [Ct.av, IDF, and_tt, implies_true])
theorem c49 (w : Wr) (hl : w.data.length < 4000000) (hs0 : 0 ≤ w.start) (hs1 : w.start < 4000000) (yv : AV) (In : List Ct → Hp → Prop) (J : Hp → Prop) (H : Hp) (h0 : In w.cts H) (hst : ∀ cs a b, In cs a → a.nx ≤ b.nx → (∀ j, j < a.nx → b.get j = a.get j) → In cs b)
    (hy : ∀ c cs h', In (c :: cs) h' → c ∈ w.cts → CallV Tryz.prog yv [c.av] h' fun v h'' => (∃ b, v = .bool b ∧ ((b = true ∧ In cs h'') ∨ (b = false ∧ J h''))) ∧ h'.nx ≤ h''.nx ∧ ∀ j, H.nx ≤ j → j < h'.nx → h''.get j = h'.get j) :
    CallV Tryz.prog (.fn (.func 49) [] []) [w.av, yv] H fun v h' => (v = .bool true ∧ In [] h') ∨ (v = .bool false ∧ J h') := by
 refine callV_func Tryz.func49 rfl (by kernel_rfl) (by show _ ≤ 28; simp only [LN]; decide) ?_
 rw [Tryz.ntmps49]
 refine wpT_seq ?_
 refine wpT_region (by kernel_rfl) (fun K hK => ?_)
 simp only [↓SP, SZ, ↓reduceIte, reduceCtorEq, nE, nA, nL, nT, sec_neq]
 refine hK _ _ ?_
 clear hK K
 refine wpT_seq ?_
 refine wpT_seq ?_
 refine wpT_region (by kernel_rfl) (fun K hK => ?_)
 simp only [↓SP, SZ, ↓reduceIte, reduceCtorEq, nE, nA, nL, nT, sec_neq, Wr.av]
 refine hK _ _ ?_
 clear hK K
 refine wpT_block ?_
 refine wpT_loop ?_
 refine wpT_ind (fun (i : Nat) tm' h' => In (ctsW w.vol (w.start + i) (w.data.drop i)) h' ∧ H.nx < h'.nx ∧ h'.get H.nx = some (.arr 45 3 [w.av]) ∧ tm' 1 = yv ∧ tm' 2 = .ptr H.nx 1 0 0 ∧ tm' 8 = .lst (w.data.map Sec.av) ∧ tm' 9 = I w.data.length ∧ tm' 10 = I i ∧ i ≤ w.data.length) (fun i => w.data.length - i) ?_ 0 ⟨?_, by simp only [↓SP, SZ, ↓reduceIte, reduceCtorEq, nE, nA, nL, nT, sec_neq]; omega, by simp only [↓SP, SZ, ↓reduceIte, reduceCtorEq, nE, nA, nL, nT, sec_neq, Wr.av], rfl, rfl, rfl, rfl, rfl, by omega⟩
 rotate_left
 · rw [show w.start + ((0 : Nat) : Int) = w.start by omega, List.drop_zero]
   refine hst _ _ _ h0 (by simp only [↓SP, SZ, ↓reduceIte, reduceCtorEq, nE, nA, nL, nT, sec_neq]; omega) (fun j hj => ?_)
   have j1 : ¬ j = H.nx := by omega
   simp only [↓SP, SZ, ↓reduceIte, reduceCtorEq, nE, nA, nL, nT, sec_neq, j1]
 rintro i tm' h' ⟨hI, hn, hb, e1, e2, e8, e9, e10, hi⟩ IH
 refine wpT_inLoop ?_
 refine wpT_seq ?_
 refine wpT_region (by kernel_rfl) (fun K hK => ?_)
 simp only [↓SP, SZ, ↓reduceIte, reduceCtorEq, nE, nA, nL, nT, sec_neq, e9, e10]
 refine hK _ _ ?_
 clear hK K
 refine wpT_seq ?_
 refine wpT_if (by rfl) (fun hc11 => ?_) (fun hc11 => ?_)
 ·
  have p11 := hc11
  try simp only [PB] at p11
  have hlt : i < w.data.length := by omega
  have hg := at_map (f := Sec.av) hlt
  rw [List.drop_eq_getElem_cons hlt, ctsW] at hI
  have n1 : ¬ H.nx = h'.nx := by omega
  have n2 : ¬ h'.nx = H.nx := by omega
  have hcm : (⟨w.vol, w.start + i, w.data[i]⟩ : Ct) ∈ w.cts := mem_ctsW.2 ⟨rfl, by show w.start ≤ w.start + i; omega, by
    show w.data[(w.start + (i : Int) - w.start).toNat]? = some w.data[i]
    rw [show (w.start + (i : Int) - w.start).toNat = i by omega]
    exact List.getElem?_eq_getElem hlt⟩
  have hI2 : ∀ o o2 : Ob, In (⟨w.vol, w.start + i, w.data[i]⟩ :: ctsW w.vol (w.start + i + 1) (w.data.drop (i + 1))) ((h'.add o).set h'.nx o2) := fun o o2 => hst _ _ _ hI (by simp only [↓SP, SZ, ↓reduceIte, reduceCtorEq, nE, nA, nL, nT, sec_neq]; omega) (fun j hj => by
    have j1 : ¬ j = h'.nx := by omega
    simp only [↓SP, SZ, ↓reduceIte, reduceCtorEq, nE, nA, nL, nT, sec_neq, j1])
  have hwr : IntKind.i64.wrap (w.start + (i : Int)) = w.start + i := wrap64 (by omega) (by omega)
  refine wpT_skip ?_
  refine wpT_seq ?_
  refine wpT_block ?_
  refine wpT_seq ?_
  refine wpT_region (by kernel_rfl) (fun K hK => ?_)
  simp only [↓SP, SZ, ↓reduceIte, reduceCtorEq, nE, nA, nL, nT, sec_neq, e8, e10, hg, hc11]
  refine hK _ _ ?_
  clear hK K
  refine wpT_seq ?_
  refine wpT_region (by kernel_rfl) (fun K hK => ?_)
  simp only [↓SP, SZ, ↓reduceIte, reduceCtorEq, nE, nA, nL, nT, sec_neq, e1, e2, hb, n1, n2, Wr.av, Sec.av, hwr, hc11]
  refine CallV.mono (hy ⟨w.vol, w.start + i, w.data[i]⟩ _ _ (hI2 _ _) hcm) ?_
  rintro _ h3 ⟨⟨bb, rfl, hbb⟩, k1, k2⟩
  have k3 : h3.get H.nx = some (.arr 45 3 [w.av]) := by
    rw [k2 _ (Nat.le_refl _) (by simp only [↓SP, SZ, ↓reduceIte, reduceCtorEq, nE, nA, nL, nT, sec_neq]; omega)]
    simp only [↓SP, SZ, ↓reduceIte, reduceCtorEq, nE, nA, nL, nT, sec_neq, n1, hb]
  have k4 : H.nx < h3.nx := by
    have : h'.nx + 1 ≤ h3.nx := k1
    omega
  simp only [↓SP, SZ, ↓reduceIte, reduceCtorEq, nE, nA, nL, nT, sec_neq, e1, e2, hb, n1, n2, Wr.av, Sec.av, hwr, hc11]
  refine hK _ _ ?_
  clear hK K
  refine wpT_if (by rfl) (fun hc26 => ?_) (fun hc26 => ?_)
  ·
   have p26 := hc26
   try simp only [PB] at p26
   refine wpT_seq ?_
   refine wpT_region (by kernel_rfl) (fun K hK => ?_)
   simp only [↓SP, SZ, ↓reduceIte, reduceCtorEq, nE, nA, nL, nT, sec_neq, hc11, hc26]
   refine hK _ _ ?_
   clear hK K
   refine wpT_ret ⟨.inr rfl, ?_⟩
   show optK (resA _ _ _ [.tmp 4]) _
   simp only [SRO, ↓SP, SZ, ↓reduceIte, reduceCtorEq, nE, nA, nL, nT, sec_neq, hc11, hc26]
   rcases hbb with ⟨hbb, _⟩ | ⟨_, hbb⟩
   · simp_all
   · simp [hbb]
  ·
   have p26 := hc26
   try simp only [PB] at p26
   refine wpT_skip ?_
   refine wpT_inBlock ?_
   refine wpT_region (by kernel_rfl) (fun K hK => ?_)
   simp only [↓SP, SZ, ↓reduceIte, reduceCtorEq, nE, nA, nL, nT, sec_neq, e10, wrap64 (x := (i : Int) + 1) (by omega) (by omega), hc11, hc26]
   refine hK _ _ ?_
   clear hK K
   refine IH (i + 1) _ _ (by omega) ⟨?_, k4, k3, by simp only [↓SP, SZ, ↓reduceIte, reduceCtorEq, nE, nA, nL, nT, sec_neq, e1], by simp only [↓SP, SZ, ↓reduceIte, reduceCtorEq, nE, nA, nL, nT, sec_neq, e2], by simp only [↓SP, SZ, ↓reduceIte, reduceCtorEq, nE, nA, nL, nT, sec_neq, e8], by simp only [↓SP, SZ, ↓reduceIte, reduceCtorEq, nE, nA, nL, nT, sec_neq, e9], by simp only [↓SP, SZ, ↓reduceIte, reduceCtorEq, nE, nA, nL, nT, sec_neq, Int.natCast_add, Int.cast_ofNat_Int], by omega⟩
   rcases hbb with ⟨_, hbb⟩ | ⟨hbb, _⟩
   · rw [show w.start + ((i + 1 : Nat) : Int) = w.start + i + 1 by omega]; exact hbb
   · simp_all
 ·
  have p11 := hc11
  try simp only [PB] at p11
  rw [List.drop_eq_nil_of_le (by omega), ctsW] at hI
  refine wpT_exit rfl ?_
  refine wpT_seq ?_
  refine wpT_region (by kernel_rfl) (fun K hK => ?_)
  simp only [↓SP, SZ, ↓reduceIte, reduceCtorEq, nE, nA, nL, nT, sec_neq, hc11]
  refine hK _ _ ?_
  clear hK K
  refine wpT_ret ⟨.inr rfl, ?_⟩
  show optK (resA _ _ _ [.tmp 4]) _
  simp only [SRO, ↓SP, SZ, ↓reduceIte, reduceCtorEq, nE, nA, nL, nT, sec_neq, hc11]
  simp [hI]
def mapKs (m : List (Ct × Int)) : List AV := m.map fun p => p.1.av
def mapVs (m : List (Ct × Int)) : List AV := m.map fun p => I p.2
def mapO (m : List (Ct × Int)) : Ob := .map 88 3 (mapKs m) (mapVs m)
theorem lookM (m : List (Ct × Int)) (c : Ct) : lookA Tryz.prog 88 3 (mapKs m) (mapVs m) c.av true = some (.tup [I ((assoc c m).getD 0), B (assoc c m).isSome]) := by
  have h := look_map (P := Tryz.prog) (kt := 88) (et := 3) (f := Ct.av) (g := I) (z := I 0) ct_eq (by simp only [TY]) m c true
  rw [mapKs, mapVs, h]
  cases assoc c m <;> rfl
theorem updM (m : List (Ct × Int)) (c : Ct) (i : Int) : updA Tryz.prog 88 (mapKs m) (mapVs m) c.av (I i) = some (mapKs (putM c i m), mapVs (putM c i m)) :=
  upd_map (P := Tryz.prog) (kt := 88) (f := Ct.av) (g := I) ct_eq ct_bits m c i
theorem secB0 : opBuild Tryz.prog 49 [] = some sec0.av := by kernel_rfl
theorem c61 (m : List (Ct × Int)) (i : Int) (c : Ct) : CallV Tryz.prog (.fn (.func 61) [] [.ptr 0 1 0 0, .ptr 2 1 0 0]) [c.av] (Hp.of [(0, .arr 73 1 [.map 1]), (1, mapO m), (2, .arr 3 1 [I i])] 3) fun v h' =>
    v = B (!(assoc c m).isSome && !decide (c.dat = sec0)) ∧ h'.get 0 = some (.arr 73 1 [.map 1]) ∧ h'.get 1 = some (mapO (putM c i m)) ∧ h'.get 2 = some (.arr 3 1 [I i]) := by
 refine callV_func Tryz.func61 rfl (by kernel_rfl) (by show _ ≤ 24; simp only [LN]; decide) ?_
 rw [Tryz.ntmps61]
 refine wpT_seq ?_
 refine wpT_region (by kernel_rfl) (fun K hK => ?_)
 simp only [↓SP, SZ, ↓reduceIte, reduceCtorEq, nE, nA, nL, nT, ct_okc, ct_isAgg, ct_cells, ct_ld, ct_ldd, mapO, lk_map mp73, up_map mp73, lookM, updM, upO_some, lkO_some, Option.map_some]
 refine hK _ _ ?_
 clear hK K
 refine wpT_seq ?_
 refine wpT_region (by kernel_rfl) (fun K hK => ?_)
 simp only [↓SP, SZ, ↓reduceIte, reduceCtorEq, nE, nA, nL, nT, ct_okc, ct_isAgg, ct_cells, ct_ld, ct_ldd, mapO, lk_map mp73, up_map mp73, lookM, updM, upO_some, lkO_some, Option.map_some]
 refine hK _ _ ?_
 clear hK K
 refine wpT_seq ?_
 refine wpT_region (by kernel_rfl) (fun K hK => ?_)
 simp only [↓SP, SZ, ↓reduceIte, reduceCtorEq, nE, nA, nL, nT, ct_okc, ct_isAgg, ct_cells, ct_ld, ct_ldd, mapO, lk_map mp73, up_map mp73, lookM, updM, upO_some, lkO_some, Option.map_some]
 refine hK _ _ ?_
 clear hK K
 refine wpT_seq ?_
 refine wpT_region (by kernel_rfl) (fun K hK => ?_)
 simp only [↓SP, SZ, ↓reduceIte, reduceCtorEq, nE, nA, nL, nT, ct_okc, ct_isAgg, ct_cells, ct_ld, ct_ldd, mapO, lk_map mp73, up_map mp73, lookM, updM, upO_some, lkO_some, Option.map_some, secB0, sec_neq]
 refine guardO_split (fun hg18 => ?_) (fun hg18 => ?_)
 ·
  have p18 := hg18
  try simp only [PB] at p18
  simp only [↓SP, SZ, ↓reduceIte, reduceCtorEq, nE, nA, nL, nT, ct_okc, ct_isAgg, ct_cells, ct_ld, ct_ldd, mapO, lk_map mp73, up_map mp73, lookM, updM, upO_some, lkO_some, Option.map_some, secB0, sec_neq, hg18]
  refine hK _ _ ?_
  clear hK K
  refine wpT_ret ⟨.inr rfl, ?_⟩
  show optK (resA _ _ _ [.tmp 4]) _
  simp only [SRO, ↓SP, SZ, ↓reduceIte, reduceCtorEq, nE, nA, nL, nT, ct_okc, ct_isAgg, ct_cells, ct_ld, ct_ldd, mapO, lk_map mp73, up_map mp73, lookM, updM, upO_some, lkO_some, Option.map_some, hg18]
 ·
  simp only [Bool.not_true, Bool.not_false] at hg18
  have p18 := hg18
  try simp only [PB] at p18
  simp only [↓SP, SZ, ↓reduceIte, reduceCtorEq, nE, nA, nL, nT, ct_okc, ct_isAgg, ct_cells, ct_ld, ct_ldd, mapO, lk_map mp73, up_map mp73, lookM, updM, upO_some, lkO_some, Option.map_some, secB0, sec_neq, hg18]
  refine hK _ _ ?_
  clear hK K
  refine wpT_ret ⟨.inr rfl, ?_⟩
  show optK (resA _ _ _ [.tmp 4]) _
  simp only [SRO, ↓SP, SZ, ↓reduceIte, reduceCtorEq, nE, nA, nL, nT, ct_okc, ct_isAgg, ct_cells, ct_ld, ct_ldd, mapO, lk_map mp73, up_map mp73, lookM, updM, upO_some, lkO_some, Option.map_some, hg18]
  simp_all
theorem putM_new {c : Ct} {i : Int} {m : List (Ct × Int)} (h : assoc c m = none) : putM c i m = m ++ [(c, i)] := by
  cases hp : posM c m 0 with
  | none => exact (posM_none c m 0 hp).2 i
  | some j =>
    obtain ⟨_, b, _, h3⟩ := posM_at c m 0 j hp
    rw [h] at h3; simp at h3
/-- The call in the loop: the closure's objects lie elsewhere. -/
theorem coll_call (m : List (Ct × Int)) (i : Int) (c : Ct) (p : Nat) {H : Hp} {K : AV → Hp → Prop} (hp : 2 < p) (h1 : H.get 1 = some (mapO m)) (h2 : H.get 2 = some (.arr 73 1 [.map 1])) (h3 : H.get p = some (.arr 3 1 [I i]))
    (hK : K (B (!(assoc c m).isSome && !decide (c.dat = sec0))) (H.upd [(2, .arr 73 1 [.map 1]), (1, mapO (putM c i m)), (p, .arr 3 1 [I i])])) :
    CallV Tryz.prog (.fn (.func 61) [] [.ptr 2 1 0 0, .ptr p 1 0 0]) [c.av] H K := by
  have hm : ∀ (D : Nat → Prop) (q : Nat → Nat) (m : List (Ct × Int)), RnO D q (mapO m) (mapO m) := fun D q m => .map _ _ _ _ _ _ (RnL.idf (by simp only [mapKs, all_map, ct_idf, implies_true])) (RnL.idf (by simp only [mapVs, all_map, IDF, implies_true]))
  have hi : ∀ (D : Nat → Prop) (q : Nat → Nat), RnO D q (.arr 3 1 [I i]) (.arr 3 1 [I i]) := fun D q => .arr _ _ _ _ (RnL.idf (by simp only [IDF, and_tt, implies_true]))
  have hv : ∀ (l : List Loc), Loc.has l 1 → Loc.at l 1 = 1 → RnO (Loc.has l) (Loc.at l) (.arr 73 1 [.map 1]) (.arr 73 1 [.map 1]) := fun l a b =>
    .arr _ _ _ _ (RnL.cons (by have := Rn.map (D := Loc.has l) (q := Loc.at l) 1 a; rwa [b] at this) RnL.nil)
  refine CallV.local [⟨0, 2, .arr 73 1 [.map 1], .arr 73 1 [.map 1]⟩, ⟨1, 1, mapO m, mapO m⟩, ⟨2, p, .arr 3 1 [I i], .arr 3 1 [I i]⟩] 3
    (c61 m i c) ?_ (by simp) (by simpa using ⟨h2, h1, h3⟩) ?_ ?_ ?_ ?_
  · have a1 : ¬ 2 = p := by omega
    have a2 : ¬ 1 = p := by omega
    simp [Loc.okL, a1, a2]
  · intro y hy
    simp only [List.mem_cons, List.not_mem_nil, or_false] at hy
    rcases hy with rfl | rfl | rfl
    · exact hv _ (by simp [Loc.has]) rfl
    · exact hm _ _ _
    · exact hi _ _
  · exact Rn.fnL RnL.nil (RnL.cons (.ptr 0 1 0 0 (by simp [Loc.has])) (RnL.cons (.ptr 2 1 0 0 (by simp [Loc.has])) RnL.nil))
  · exact RnL.idf (by simp only [ct_idf, all_cons, all_nil, and_tt])
  · rintro v0 h0 ⟨rfl, g0, g1, g2⟩
    refine ⟨_, [⟨0, 2, .arr 73 1 [.map 1], .arr 73 1 [.map 1]⟩, ⟨1, 1, mapO (putM c i m), mapO (putM c i m)⟩, ⟨2, p, .arr 3 1 [I i], .arr 3 1 [I i]⟩], rfl, rfl, ?_, .idf _ (.bool _), hK⟩
    intro y hy
    simp only [List.mem_cons, List.not_mem_nil, or_false] at hy
    rcases hy with rfl | rfl | rfl
    · exact ⟨g0, hv _ (by simp [Loc.has]) rfl⟩
    · exact ⟨g1, hm _ _ _⟩
    · exact ⟨g2, hi _ _⟩
def writersAV (h : Hist) : AV := .cmap (mapKs (ctsH 0 h.ws)) (mapVs (ctsH 0 h.ws))
def collR (h : Hist) : AV := if distB h = true then writersAV h else .nilm
theorem writers_idf (h : Hist) : Idf (writersAV h) = True := eq_true (.cmap _ _ (by simp only [mapKs, all_map, ct_idf, implies_true]) (by simp only [mapVs, all_map, IDF, implies_true]))
theorem collR_idf (h : Hist) : Idf (collR h) = True := eq_true (by
  unfold collR
  split
  · simp only [writers_idf]
  · exact .nilm)
theorem dist_split {m r : List (Ct × Int)} {c : Ct} {i : Int} : distGo m ((c, i) :: r) = if assoc c m ≠ none ∨ c.dat = sec0 then false else distGo (m ++ [(c, i)]) r := by rw [distGo]
def coI (h : Hist) (p i : Nat) (cs : List Ct) (H : Hp) : Prop :=
  ∃ m, p < H.nx ∧ H.get 1 = some (mapO m) ∧ H.get 2 = some (.arr 73 1 [.map 1]) ∧ H.get p = some (.arr 3 1 [I i]) ∧ distGo m (cs.map (fun c => (c, (i : Int))) ++ ctsH (i + 1) (h.ws.drop (i + 1))) = distB h ∧ m ++ (cs.map (fun c => (c, (i : Int))) ++ ctsH (i + 1) (h.ws.drop (i + 1))) = ctsH 0 h.ws
theorem c31 (h : Hist) (hs : h.sm) (e : histE h = 0) : Pu Tryz.prog (.fn (.func 31) [] []) [h.av] (.tup [collR h, B (distB h)]) := by
 refine pu_func Tryz.func31 rfl (by kernel_rfl) (by show _ ≤ 24; simp only [LN]; decide) (by simp only [IDS, chkAV_idf, ct_idf, collR_idf]) (by simp only [IDS, chkAV_idf, ct_idf, collR_idf]) (by simp only [IDS, chkAV_idf, ct_idf, collR_idf]) ?_
 rw [Tryz.ntmps31]
 have hw := hs.2.1
 have hfit : ∀ w ∈ h.ws, fitsE h.sizes w = 0 := fitsAll_mem (hist_ok e).2.2.1
 have hsz := sizesE_le (hist_ok e).1
 refine wpT_seq ?_
 refine wpT_region (by kernel_rfl) (fun K hK => ?_)
 simp only [↓SP, SZ, ↓reduceIte, reduceCtorEq, nE, nA, nL, nT, ct_okc, ct_isAgg, ct_cells, ct_ld, ct_ldd]
 refine hK _ _ ?_
 clear hK K
 refine wpT_seq ?_
 refine wpT_region (by kernel_rfl) (fun K hK => ?_)
 simp only [↓SP, SZ, ↓reduceIte, reduceCtorEq, nE, nA, nL, nT, ct_okc, ct_isAgg, ct_cells, ct_ld, ct_ldd]
 refine hK _ _ ?_
 clear hK K
 refine wpT_seq ?_
 refine wpT_seq ?_
 refine wpT_region (by kernel_rfl) (fun K hK => ?_)
 simp only [↓SP, SZ, ↓reduceIte, reduceCtorEq, nE, nA, nL, nT, ct_okc, ct_isAgg, ct_cells, ct_ld, ct_ldd, Hist.av]
 refine hK _ _ ?_
 clear hK K
 refine wpT_block ?_
 refine wpT_loop ?_
 refine wpT_ind (fun (i : Nat) tm' h' => ∃ m, 2 < h'.nx ∧ h'.get 1 = some (mapO m) ∧ h'.get 2 = some (.arr 73 1 [.map 1]) ∧ distGo m (ctsH i (h.ws.drop i)) = distB h ∧ m ++ ctsH i (h.ws.drop i) = ctsH 0 h.ws ∧ tm' 4 = .ptr 2 1 0 0 ∧ tm' 10 = .lst (h.ws.map Wr.av) ∧ tm' 11 = I h.ws.length ∧ tm' 12 = I i ∧ i ≤ h.ws.length) (fun i => h.ws.length - i) ?_ 0 ⟨[], by simp only [↓SP, SZ, ↓reduceIte, reduceCtorEq, nE, nA, nL, nT, ct_okc, ct_isAgg, ct_cells, ct_ld, ct_ldd], by simp only [↓SP, SZ, ↓reduceIte, reduceCtorEq, nE, nA, nL, nT, ct_okc, ct_isAgg, ct_cells, ct_ld, ct_ldd]; rfl, by simp only [↓SP, SZ, ↓reduceIte, reduceCtorEq, nE, nA, nL, nT, ct_okc, ct_isAgg, ct_cells, ct_ld, ct_ldd], rfl, rfl, rfl, rfl, rfl, rfl, by omega⟩
 rintro i tm' h' ⟨m, hn, hm1, hm2, hd, ha, e4, e10, e11, e12, hi⟩ IH
 refine wpT_inLoop ?_
 refine wpT_seq ?_
 refine wpT_region (by kernel_rfl) (fun K hK => ?_)
 simp only [↓SP, SZ, ↓reduceIte, reduceCtorEq, nE, nA, nL, nT, ct_okc, ct_isAgg, ct_cells, ct_ld, ct_ldd, e11, e12]
 refine hK _ _ ?_
 clear hK K
 refine wpT_seq ?_
 refine wpT_if (by rfl) (fun hc13 => ?_) (fun hc13 => ?_)
 ·
  have p13 := hc13
  try simp only [PB] at p13
  have hlt : i < h.ws.length := by omega
  have hg := at_map (f := Wr.av) hlt
  have hm := List.getElem_mem hlt
  obtain ⟨f1, f2, f3, f4, f5⟩ := fitsE_ok (hfit _ hm)
  have hvl : (h.ws[i]).vol.toNat < h.sizes.length := by omega
  have f6 := hsz _ (List.getElem_mem hvl)
  have f7 : h.sizes.getD (h.ws[i]).vol.toNat 0 = h.sizes[(h.ws[i]).vol.toNat] := by simp [hvl]
  rw [List.drop_eq_getElem_cons hlt, ctsH] at hd ha
  have n1 : ¬ 1 = h'.nx := by omega
  have n2 : ¬ 2 = h'.nx := by omega
  have n1' : ¬ h'.nx = 1 := by omega
  have n2' : ¬ h'.nx = 2 := by omega
  have p1 : ¬ 1 = h'.nx + 1 := by omega
  have p2 : ¬ 2 = h'.nx + 1 := by omega
  have p3 : ¬ h'.nx = h'.nx + 1 := by omega
  have p3' : ¬ h'.nx + 1 = h'.nx := by omega
  refine wpT_skip ?_
  refine wpT_seq ?_
  refine wpT_block ?_
  refine wpT_seq ?_
  refine wpT_region (by kernel_rfl) (fun K hK => ?_)
  simp only [↓SP, SZ, ↓reduceIte, reduceCtorEq, nE, nA, nL, nT, ct_okc, ct_isAgg, ct_cells, ct_ld, ct_ldd, e10, e12, hg, hc13]
  refine hK _ _ ?_
  clear hK K
  refine wpT_seq ?_
  refine wpT_region (by kernel_rfl) (fun K hK => ?_)
  simp only [↓SP, SZ, ↓reduceIte, reduceCtorEq, nE, nA, nL, nT, ct_okc, ct_isAgg, ct_cells, ct_ld, ct_ldd, e4, n1, n2, p1, p2, p3, p3', hc13]
  refine CallV.mono (c49 h.ws[i] (hs.2.2.2 _ hm) f4 (by omega) (.fn (.func 61) [] [.ptr 2 1 0 0, .ptr h'.nx 1 0 0]) (coI h h'.nx i) (fun _ => distB h = false) _ ⟨m, by simp only [↓SP, SZ, ↓reduceIte, reduceCtorEq, nE, nA, nL, nT, ct_okc, ct_isAgg, ct_cells, ct_ld, ct_ldd]; omega, by simp only [↓SP, SZ, ↓reduceIte, reduceCtorEq, nE, nA, nL, nT, ct_okc, ct_isAgg, ct_cells, ct_ld, ct_ldd, hm1, n1, n2, p1, p2, p3, p3'], by simp only [↓SP, SZ, ↓reduceIte, reduceCtorEq, nE, nA, nL, nT, ct_okc, ct_isAgg, ct_cells, ct_ld, ct_ldd, hm2, n1, n2, p1, p2, p3, p3'], by simp only [↓SP, SZ, ↓reduceIte, reduceCtorEq, nE, nA, nL, nT, ct_okc, ct_isAgg, ct_cells, ct_ld, ct_ldd, n1, n2, p1, p2, p3, p3'], hd, ha⟩ ?_ ?_) ?_
  · rintro cs a b ⟨m, q0, q1, q2, q3, q4, q5⟩ hn hab
    exact ⟨m, by omega, by rw [hab _ (by omega)]; exact q1, by rw [hab _ (by omega)]; exact q2, by rw [hab _ q0]; exact q3, q4, q5⟩
  · rintro c cs h4 ⟨m, q0, q1, q2, q3, q4, q5⟩ -
    have t1 : ¬ 1 = h'.nx := n1
    have t2 : ¬ 2 = h'.nx := n2
    refine coll_call m i c h'.nx hn q1 q2 q3 ⟨⟨_, rfl, ?_⟩, Nat.le_refl _, fun j hj hj2 => ?_⟩
    · rw [List.map_cons, List.cons_append] at q4 q5
      by_cases hc : assoc c m ≠ none ∨ c.dat = sec0
      · right
        rw [dist_split, if_pos hc] at q4
        refine ⟨?_, q4.symm⟩
        rcases hc with hc | hc
        · cases hm : assoc c m with
          | none => exact absurd hm hc
          | some a => rfl
        · simp [hc]
      · left
        rw [dist_split, if_neg hc] at q4
        have h0 : assoc c m = none := Classical.byContradiction fun e => hc (.inl e)
        have h1 : ¬ c.dat = sec0 := fun e => hc (.inr e)
        refine ⟨by simp [h0, h1], m ++ [(c, (i : Int))], q0, ?_, ?_, ?_, q4, by rw [List.append_assoc]; exact q5⟩
        · simp only [↓SP, SZ, ↓reduceIte, reduceCtorEq, nE, nA, nL, nT, ct_okc, ct_isAgg, ct_cells, ct_ld, ct_ldd, putM_new h0]
        · simp only [↓SP, SZ, ↓reduceIte, reduceCtorEq, nE, nA, nL, nT, ct_okc, ct_isAgg, ct_cells, ct_ld, ct_ldd]
        · simp only [↓SP, SZ, ↓reduceIte, reduceCtorEq, nE, nA, nL, nT, ct_okc, ct_isAgg, ct_cells, ct_ld, ct_ldd, n1', n2']
    · have j1 : ¬ j = 1 := by have : h'.nx + 2 ≤ j := hj; omega
      have j2 : ¬ j = 2 := by have : h'.nx + 2 ≤ j := hj; omega
      have j3 : ¬ j = h'.nx := by have : h'.nx + 2 ≤ j := hj; omega
      simp only [↓SP, SZ, ↓reduceIte, reduceCtorEq, nE, nA, nL, nT, ct_okc, ct_isAgg, ct_cells, ct_ld, ct_ldd, j1, j2, j3]
  rintro v h5 hv
  obtain ⟨bb, rfl, hb⟩ : ∃ bb, v = .bool bb ∧ ((bb = true ∧ coI h h'.nx i [] h5) ∨ (bb = false ∧ distB h = false)) := by
    rcases hv with ⟨rfl, hv⟩ | ⟨rfl, hv⟩
    · exact ⟨true, rfl, .inl ⟨rfl, hv⟩⟩
    · exact ⟨false, rfl, .inr ⟨rfl, hv⟩⟩
  simp only [↓SP, SZ, ↓reduceIte, reduceCtorEq, nE, nA, nL, nT, ct_okc, ct_isAgg, ct_cells, ct_ld, ct_ldd, e4, n1, n2, p1, p2, p3, p3', hc13]
  refine hK _ _ ?_
  clear hK K
  refine wpT_seq ?_
  refine wpT_region (by kernel_rfl) (fun K hK => ?_)
  simp only [↓SP, SZ, ↓reduceIte, reduceCtorEq, nE, nA, nL, nT, ct_okc, ct_isAgg, ct_cells, ct_ld, ct_ldd, hc13]
  refine hK _ _ ?_
  clear hK K
  refine wpT_if (by rfl) (fun hc21 => ?_) (fun hc21 => ?_)
  ·
   have p21 := hc21
   try simp only [PB] at p21
   have hdf : distB h = false := by
     rcases hb with ⟨hb, _⟩ | ⟨_, hb⟩
     · simp_all
     · exact hb
   refine wpT_seq ?_
   refine wpT_region (by kernel_rfl) (fun K hK => ?_)
   simp only [↓SP, SZ, ↓reduceIte, reduceCtorEq, nE, nA, nL, nT, ct_okc, ct_isAgg, ct_cells, ct_ld, ct_ldd, hc13, hc21]
   refine hK _ _ ?_
   clear hK K
   refine wpT_ret ⟨.inr rfl, ?_⟩
   show optK (resA _ _ _ [.tmp 2, .tmp 3]) _
   simp only [SRO, ↓SP, SZ, ↓reduceIte, reduceCtorEq, nE, nA, nL, nT, ct_okc, ct_isAgg, ct_cells, ct_ld, ct_ldd, hc13, hc21]
   rw [hdf, show collR h = .nilm from if_neg (by simp [hdf])]
   exact .refl _
  ·
   have p21 := hc21
   try simp only [PB] at p21
   obtain ⟨m2, q0, q1, q2, q3, q4, q5⟩ : coI h h'.nx i [] h5 := by
     rcases hb with ⟨_, hb⟩ | ⟨hb, _⟩
     · exact hb
     · simp_all
   refine wpT_skip ?_
   refine wpT_inBlock ?_
   refine wpT_region (by kernel_rfl) (fun K hK => ?_)
   simp only [↓SP, SZ, ↓reduceIte, reduceCtorEq, nE, nA, nL, nT, ct_okc, ct_isAgg, ct_cells, ct_ld, ct_ldd, e12, wrap64 (x := (i : Int) + 1) (by omega) (by omega), hc13, hc21]
   refine hK _ _ ?_
   clear hK K
   refine IH (i + 1) _ _ (by omega) ⟨m2, by omega, by simp only [↓SP, SZ, ↓reduceIte, reduceCtorEq, nE, nA, nL, nT, ct_okc, ct_isAgg, ct_cells, ct_ld, ct_ldd, q1], by simp only [↓SP, SZ, ↓reduceIte, reduceCtorEq, nE, nA, nL, nT, ct_okc, ct_isAgg, ct_cells, ct_ld, ct_ldd, q2], q4, q5, by simp only [↓SP, SZ, ↓reduceIte, reduceCtorEq, nE, nA, nL, nT, ct_okc, ct_isAgg, ct_cells, ct_ld, ct_ldd, e4], by simp only [↓SP, SZ, ↓reduceIte, reduceCtorEq, nE, nA, nL, nT, ct_okc, ct_isAgg, ct_cells, ct_ld, ct_ldd, e10], by simp only [↓SP, SZ, ↓reduceIte, reduceCtorEq, nE, nA, nL, nT, ct_okc, ct_isAgg, ct_cells, ct_ld, ct_ldd, e11], by simp only [↓SP, SZ, ↓reduceIte, reduceCtorEq, nE, nA, nL, nT, ct_okc, ct_isAgg, ct_cells, ct_ld, ct_ldd, Int.natCast_add, Int.cast_ofNat_Int], by omega⟩
 ·
  have p13 := hc13
  try simp only [PB] at p13
  rw [List.drop_eq_nil_of_le (by omega), ctsH] at hd ha
  rw [List.append_nil] at ha
  refine wpT_exit rfl ?_
  refine wpT_seq ?_
  refine wpT_region (by kernel_rfl) (fun K hK => ?_)
  simp only [↓SP, SZ, ↓reduceIte, reduceCtorEq, nE, nA, nL, nT, ct_okc, ct_isAgg, ct_cells, ct_ld, ct_ldd, e4, hm2, hc13]
  refine hK _ _ ?_
  clear hK K
  refine wpT_ret ⟨.inr rfl, ?_⟩
  show optK (resA _ _ _ [.tmp 2, .tmp 3]) _
  simp only [SRO, ↓SP, SZ, ↓reduceIte, reduceCtorEq, nE, nA, nL, nT, ct_okc, ct_isAgg, ct_cells, ct_ld, ct_ldd, hc13]
  have hdt : distB h = true := by rw [← hd]; rfl
  rw [hdt, show collR h = writersAV h from if_pos hdt]
  refine Lend.tupL (LendL.cons ?_ (LendL.cons (.refl _) LendL.nil))
  rw [writersAV, ← ha]
  exact .map 1 _ _ _ _ hm1
theorem c18 (h : Hist) (hs : h.sm) : Pu Tryz.prog (.fn (.func 18) [] []) [h.av] (B (decide (histE h = 0) && distB h)) := by
 refine pu_func Tryz.func18 rfl (by kernel_rfl) (by show _ ≤ 14; simp only [LN]; decide) (by simp only [IDS, chkAV_idf, ct_idf]) (by simp only [IDS, chkAV_idf, ct_idf]) (by simp only [IDS, chkAV_idf, ct_idf]) ?_
 rw [Tryz.ntmps18]
 refine wpT_seq ?_
 refine wpT_region (by kernel_rfl) (fun K hK => ?_)
 simp only [↓SP, SZ, ↓reduceIte, reduceCtorEq, nE, nA, nL, nT, ct_okc, ct_isAgg, ct_cells, ct_ld, ct_ldd]
 refine hK _ _ ?_
 clear hK K
 refine wpT_seq ?_
 refine wpT_seq ?_
 refine wpT_region (by kernel_rfl) (fun K hK => ?_)
 simp only [↓SP, SZ, ↓reduceIte, reduceCtorEq, nE, nA, nL, nT, ct_okc, ct_isAgg, ct_cells, ct_ld, ct_ldd]
 refine Pu.call (c30 h hs) ?_
 simp only [↓SP, SZ, ↓reduceIte, reduceCtorEq, nE, nA, nL, nT, ct_okc, ct_isAgg, ct_cells, ct_ld, ct_ldd]
 refine hK _ _ ?_
 clear hK K
 refine wpT_if (by rfl) (fun hc7 => ?_) (fun hc7 => ?_)
 ·
  have p7 := hc7
  try simp only [PB] at p7
  refine wpT_seq ?_
  refine wpT_region (by kernel_rfl) (fun K hK => ?_)
  simp only [↓SP, SZ, ↓reduceIte, reduceCtorEq, nE, nA, nL, nT, ct_okc, ct_isAgg, ct_cells, ct_ld, ct_ldd, hc7]
  refine hK _ _ ?_
  clear hK K
  refine wpT_ret ⟨.inr rfl, ?_⟩
  show optK (resA _ _ _ [.tmp 2]) _
  simp only [SRO, ↓SP, SZ, ↓reduceIte, reduceCtorEq, nE, nA, nL, nT, ct_okc, ct_isAgg, ct_cells, ct_ld, ct_ldd, hc7]
  refine Lend.eq ?_
  rw [decide_eq_false p7]
  rfl
 ·
  have p7 := hc7
  try simp only [PB] at p7
  have e0 : histE h = 0 := by simpa using p7
  refine wpT_skip ?_
  refine wpT_seq ?_
  refine wpT_region (by kernel_rfl) (fun K hK => ?_)
  simp only [↓SP, SZ, ↓reduceIte, reduceCtorEq, nE, nA, nL, nT, ct_okc, ct_isAgg, ct_cells, ct_ld, ct_ldd, hc7]
  refine Pu.call (c31 h hs e0) ?_
  simp only [↓SP, SZ, ↓reduceIte, reduceCtorEq, nE, nA, nL, nT, ct_okc, ct_isAgg, ct_cells, ct_ld, ct_ldd, hc7]
  refine hK _ _ ?_
  clear hK K
  refine wpT_seq ?_
  refine wpT_region (by kernel_rfl) (fun K hK => ?_)
  simp only [↓SP, SZ, ↓reduceIte, reduceCtorEq, nE, nA, nL, nT, ct_okc, ct_isAgg, ct_cells, ct_ld, ct_ldd, hc7]
  refine hK _ _ ?_
  clear hK K
  refine wpT_ret ⟨.inr rfl, ?_⟩
  show optK (resA _ _ _ [.tmp 2]) _
  simp only [SRO, ↓SP, SZ, ↓reduceIte, reduceCtorEq, nE, nA, nL, nT, ct_okc, ct_isAgg, ct_cells, ct_ld, ct_ldd, hc7]
  rw [decide_eq_true e0]
  exact .refl _
def judgeAV (h : Hist) (im : List (List Sec)) : AV := .cptr (.agg [.lst (h.sizes.map I), .lst (h.ws.map Wr.av), .lst (h.evs.map Evn.av), imgAV im, writersAV h])
def judgeR (h : Hist) (im : List (List Sec)) : AV := if judgeE h im ≠ 0 then .nilp else judgeAV h im
theorem judge_idf (h : Hist) (im : List (List Sec)) : Idf (judgeAV h im) = True := eq_true (by simp only [judgeAV, IDF, wr_idf, evn_idf, img_idf, writers_idf, and_tt, implies_true])
theorem judgeR_idf (h : Hist) (im : List (List Sec)) : Idf (judgeR h im) = True := eq_true (by unfold judgeR; split <;> simp only [IDF, judge_idf])
theorem c20 (h : Hist) (im : List (List Sec)) (hs : h.sm) (hl : im.length < 4000000) (hm : ∀ l ∈ im, l.length < 4000000) : Pu Tryz.prog (.fn (.func 20) [] []) [h.av, imgAV im] (.tup [judgeR h im, I (judgeE h im)]) := by
 refine pu_func Tryz.func20 rfl (by kernel_rfl) (by show _ ≤ 37; simp only [LN]; decide) (by simp only [IDS, chkAV_idf, ct_idf, judgeR_idf]) (by simp only [IDS, chkAV_idf, ct_idf, judgeR_idf]) (by simp only [IDS, chkAV_idf, ct_idf, judgeR_idf]) ?_
 rw [Tryz.ntmps20]
 have k6 : loadV Tryz.prog 22 h.av 0 = some (.lst (h.sizes.map I)) := by simp only [Hist.av, TY]; rfl
 refine wpT_seq ?_
 refine wpT_region (by kernel_rfl) (fun K hK => ?_)
 simp only [↓SP, SZ, ↓reduceIte, reduceCtorEq, nE, nA, nL, nT, ct_okc, ct_isAgg, ct_cells, ct_ld, ct_ldd]
 refine hK _ _ ?_
 clear hK K
 refine wpT_seq ?_
 refine wpT_seq ?_
 refine wpT_region (by kernel_rfl) (fun K hK => ?_)
 simp only [↓SP, SZ, ↓reduceIte, reduceCtorEq, nE, nA, nL, nT, ct_okc, ct_isAgg, ct_cells, ct_ld, ct_ldd]
 refine Pu.call (c30 h hs) ?_
 simp only [↓SP, SZ, ↓reduceIte, reduceCtorEq, nE, nA, nL, nT, ct_okc, ct_isAgg, ct_cells, ct_ld, ct_ldd]
 refine hK _ _ ?_
 clear hK K
 refine wpT_seq ?_
 refine wpT_region (by kernel_rfl) (fun K hK => ?_)
 simp only [↓SP, SZ, ↓reduceIte, reduceCtorEq, nE, nA, nL, nT, ct_okc, ct_isAgg, ct_cells, ct_ld, ct_ldd]
 refine hK _ _ ?_
 clear hK K
 refine wpT_if (by rfl) (fun hc13 => ?_) (fun hc13 => ?_)
 ·
  have p13 := hc13
  try simp only [PB] at p13
  have hx : judgeE h im = histE h := if_pos p13
  have hx2 : judgeR h im = .nilp := if_pos (by omega)
  refine wpT_seq ?_
  refine wpT_region (by kernel_rfl) (fun K hK => ?_)
  simp only [↓SP, SZ, ↓reduceIte, reduceCtorEq, nE, nA, nL, nT, ct_okc, ct_isAgg, ct_cells, ct_ld, ct_ldd, hc13]
  refine hK _ _ ?_
  clear hK K
  refine wpT_ret ⟨.inr rfl, ?_⟩
  show optK (resA _ _ _ [.tmp 4, .tmp 5]) _
  simp only [SRO, ↓SP, SZ, ↓reduceIte, reduceCtorEq, nE, nA, nL, nT, ct_okc, ct_isAgg, ct_cells, ct_ld, ct_ldd, hc13]
  rw [hx, hx2]
  first
    | exact .refl _
    | exact Lend.tupL (LendL.cons (Lend.ptr1 (E := 81) (s := 5) (by simp only [↓SP, SZ, ↓reduceIte, reduceCtorEq, nE, nA, nL, nT, ct_okc, ct_isAgg, ct_cells, ct_ld, ct_ldd]; rfl) rfl) (LendL.cons (.refl _) LendL.nil))
 ·
  have p13 := hc13
  try simp only [PB] at p13
  have e0 : histE h = 0 := by simpa using p13
  refine wpT_skip ?_
  refine wpT_seq ?_
  refine wpT_seq ?_
  refine wpT_region (by kernel_rfl) (fun K hK => ?_)
  simp only [↓SP, SZ, ↓reduceIte, reduceCtorEq, nE, nA, nL, nT, ct_okc, ct_isAgg, ct_cells, ct_ld, ct_ldd, hc13]
  refine Pu.call (c33 im (by omega)) ?_
  simp only [↓SP, SZ, ↓reduceIte, reduceCtorEq, nE, nA, nL, nT, ct_okc, ct_isAgg, ct_cells, ct_ld, ct_ldd, hc13]
  refine hK _ _ ?_
  clear hK K
  refine wpT_seq ?_
  refine wpT_region (by kernel_rfl) (fun K hK => ?_)
  simp only [↓SP, SZ, ↓reduceIte, reduceCtorEq, nE, nA, nL, nT, ct_okc, ct_isAgg, ct_cells, ct_ld, ct_ldd, hc13]
  refine hK _ _ ?_
  clear hK K
  refine wpT_if (by rfl) (fun hc18 => ?_) (fun hc18 => ?_)
  ·
   have p18 := hc18
   try simp only [PB] at p18
   have hx : judgeE h im = sizesE (sizesOf im) := by rw [judgeE, if_neg (by omega), if_pos p18]
   have hx2 : judgeR h im = .nilp := if_pos (by omega)
   refine wpT_seq ?_
   refine wpT_region (by kernel_rfl) (fun K hK => ?_)
   simp only [↓SP, SZ, ↓reduceIte, reduceCtorEq, nE, nA, nL, nT, ct_okc, ct_isAgg, ct_cells, ct_ld, ct_ldd, hc13, hc18]
   refine hK _ _ ?_
   clear hK K
   refine wpT_ret ⟨.inr rfl, ?_⟩
   show optK (resA _ _ _ [.tmp 4, .tmp 5]) _
   simp only [SRO, ↓SP, SZ, ↓reduceIte, reduceCtorEq, nE, nA, nL, nT, ct_okc, ct_isAgg, ct_cells, ct_ld, ct_ldd, hc13, hc18]
   rw [hx, hx2]
   first
     | exact .refl _
     | exact Lend.tupL (LendL.cons (Lend.ptr1 (E := 81) (s := 5) (by simp only [↓SP, SZ, ↓reduceIte, reduceCtorEq, nE, nA, nL, nT, ct_okc, ct_isAgg, ct_cells, ct_ld, ct_ldd]; rfl) rfl) (LendL.cons (.refl _) LendL.nil))
  ·
   have p18 := hc18
   try simp only [PB] at p18
   have e1 : sizesE (sizesOf im) = 0 := by simpa using p18
   refine wpT_skip ?_
   refine wpT_seq ?_
   refine wpT_seq ?_
   refine wpT_region (by kernel_rfl) (fun K hK => ?_)
   simp only [↓SP, SZ, ↓reduceIte, reduceCtorEq, nE, nA, nL, nT, ct_okc, ct_isAgg, ct_cells, ct_ld, ct_ldd, k6, hc13, hc18]
   refine Pu.call (c34 im h.sizes hl hm) ?_
   simp only [↓SP, SZ, ↓reduceIte, reduceCtorEq, nE, nA, nL, nT, ct_okc, ct_isAgg, ct_cells, ct_ld, ct_ldd, k6, hc13, hc18]
   refine hK _ _ ?_
   clear hK K
   refine wpT_if (by rfl) (fun hc24 => ?_) (fun hc24 => ?_)
   ·
    have p24 := hc24
    try simp only [PB] at p24
    have hx : judgeE h im = 22 := by rw [judgeE, if_neg (by omega), if_neg (by omega), if_pos (by simpa using p24)]
    have hx2 : judgeR h im = .nilp := if_pos (by omega)
    refine wpT_seq ?_
    refine wpT_region (by kernel_rfl) (fun K hK => ?_)
    simp only [↓SP, SZ, ↓reduceIte, reduceCtorEq, nE, nA, nL, nT, ct_okc, ct_isAgg, ct_cells, ct_ld, ct_ldd, hc13, hc18, hc24]
    refine hK _ _ ?_
    clear hK K
    refine wpT_ret ⟨.inr rfl, ?_⟩
    show optK (resA _ _ _ [.tmp 4, .tmp 5]) _
    simp only [SRO, ↓SP, SZ, ↓reduceIte, reduceCtorEq, nE, nA, nL, nT, ct_okc, ct_isAgg, ct_cells, ct_ld, ct_ldd, hc13, hc18, hc24]
    rw [hx, hx2]
    first
      | exact .refl _
      | exact Lend.tupL (LendL.cons (Lend.ptr1 (E := 81) (s := 5) (by simp only [↓SP, SZ, ↓reduceIte, reduceCtorEq, nE, nA, nL, nT, ct_okc, ct_isAgg, ct_cells, ct_ld, ct_ldd]; rfl) rfl) (LendL.cons (.refl _) LendL.nil))
   ·
    have p24 := hc24
    try simp only [PB] at p24
    have e2 : sizesOf im = h.sizes := by simpa using p24
    have hx0 : judgeE h im = if distB h = true then 0 else 1 := by rw [judgeE, if_neg (by omega), if_neg (by omega), if_neg (by simp [e2])]
    refine wpT_skip ?_
    refine wpT_seq ?_
    refine wpT_region (by kernel_rfl) (fun K hK => ?_)
    simp only [↓SP, SZ, ↓reduceIte, reduceCtorEq, nE, nA, nL, nT, ct_okc, ct_isAgg, ct_cells, ct_ld, ct_ldd, hc13, hc18, hc24]
    refine Pu.call (c31 h hs e0) ?_
    simp only [↓SP, SZ, ↓reduceIte, reduceCtorEq, nE, nA, nL, nT, ct_okc, ct_isAgg, ct_cells, ct_ld, ct_ldd, hc13, hc18, hc24]
    refine hK _ _ ?_
    clear hK K
    refine wpT_seq ?_
    refine wpT_seq ?_
    refine wpT_region (by kernel_rfl) (fun K hK => ?_)
    simp only [↓SP, SZ, ↓reduceIte, reduceCtorEq, nE, nA, nL, nT, ct_okc, ct_isAgg, ct_cells, ct_ld, ct_ldd, hc13, hc18, hc24]
    refine hK _ _ ?_
    clear hK K
    refine wpT_if (by rfl) (fun hc31 => ?_) (fun hc31 => ?_)
    ·
     have p31 := hc31
     try simp only [PB] at p31
     have hx : judgeE h im = 1 := by rw [hx0, if_neg (by simp [p31])]
     have hx2 : judgeR h im = .nilp := if_pos (by omega)
     refine wpT_seq ?_
     refine wpT_region (by kernel_rfl) (fun K hK => ?_)
     simp only [↓SP, SZ, ↓reduceIte, reduceCtorEq, nE, nA, nL, nT, ct_okc, ct_isAgg, ct_cells, ct_ld, ct_ldd, hc13, hc18, hc24, hc31]
     refine hK _ _ ?_
     clear hK K
     refine wpT_ret ⟨.inr rfl, ?_⟩
     show optK (resA _ _ _ [.tmp 4, .tmp 5]) _
     simp only [SRO, ↓SP, SZ, ↓reduceIte, reduceCtorEq, nE, nA, nL, nT, ct_okc, ct_isAgg, ct_cells, ct_ld, ct_ldd, hc13, hc18, hc24, hc31]
     rw [hx, hx2]
     first
       | exact .refl _
       | exact Lend.tupL (LendL.cons (Lend.ptr1 (E := 81) (s := 5) (by simp only [↓SP, SZ, ↓reduceIte, reduceCtorEq, nE, nA, nL, nT, ct_okc, ct_isAgg, ct_cells, ct_ld, ct_ldd]; rfl) rfl) (LendL.cons (.refl _) LendL.nil))
    ·
     have p31 := hc31
     try simp only [PB] at p31
     have hd : distB h = true := by simpa using p31
     have hx : judgeE h im = 0 := by rw [hx0, if_pos hd]
     have hx2 : judgeR h im = judgeAV h im := if_neg (by omega)
     have hc : collR h = writersAV h := if_pos hd
     refine wpT_skip ?_
     refine wpT_seq ?_
     refine wpT_region (by kernel_rfl) (fun K hK => ?_)
     simp only [↓SP, SZ, ↓reduceIte, reduceCtorEq, nE, nA, nL, nT, ct_okc, ct_isAgg, ct_cells, ct_ld, ct_ldd, hc, Hist.av, imgAV, writersAV, hc13, hc18, hc24, hc31]
     refine hK _ _ ?_
     clear hK K
     refine wpT_ret ⟨.inr rfl, ?_⟩
     show optK (resA _ _ _ [.tmp 4, .tmp 5]) _
     simp only [SRO, ↓SP, SZ, ↓reduceIte, reduceCtorEq, nE, nA, nL, nT, ct_okc, ct_isAgg, ct_cells, ct_ld, ct_ldd, hc13, hc18, hc24, hc31]
     rw [hx, hx2]
     first
       | exact .refl _
       | exact Lend.tupL (LendL.cons (Lend.ptr1 (E := 81) (s := 5) (by simp only [↓SP, SZ, ↓reduceIte, reduceCtorEq, nE, nA, nL, nT, ct_okc, ct_isAgg, ct_cells, ct_ld, ct_ldd]; rfl) rfl) (LendL.cons (.refl _) LendL.nil))
end Go.Proofs.YtfdfkmcplhloaaaGreat
end

section
set_option linter.unusedSimpArgs false
set_option linter.unusedVariables false
namespace Go.Proofs.YtfdfkmcplhloaaaGreat
open Go.Proofs
open Nat renaming reduceEqDiff → nE, reduceAdd → nA, reduceLeDiff → nL, reduceLT → nT
set_option maxRecDepth 10000
theorem mem_imCts_at {im : List (List Sec)} {i k : Nat} (hi : i < im.length) (hk : k < im[i].length) : (⟨(i : Int), 0 + (k : Int), im[i][k]⟩ : Ct) ∈ imCts 0 im :=
  mem_imCts.2 ⟨i, by simp, by show (0 : Int) ≤ 0 + (k : Int); omega, im[i], List.getElem?_eq_getElem hi, by
    show im[i][((0 : Int) + (k : Int)).toNat]? = some im[i][k]
    rw [show ((0 : Int) + (k : Int)).toNat = k by omega]
    exact List.getElem?_eq_getElem hk⟩
theorem c36 (im : List (List Sec)) (hl : im.length < 4000000) (hm : ∀ l ∈ im, l.length < 4000000) (yv : AV) (In : List Ct → Hp → Prop) (J : Hp → Prop) (H : Hp) (h0 : In (imCts 0 im) H) (hst : ∀ cs a b, In cs a → a.nx ≤ b.nx → (∀ j, j < a.nx → b.get j = a.get j) → In cs b)
    (hy : ∀ c cs h', In (c :: cs) h' → c ∈ imCts 0 im → CallV Tryz.prog yv [.agg [I c.vol, I c.sec], c.dat.av] h' fun v h'' => ∃ b, v = .bool b ∧ ((b = true ∧ In cs h'') ∨ (b = false ∧ J h''))) :
    CallV Tryz.prog (.fn (.func 36) [] []) [imgAV im, yv] H fun _ h' => In [] h' ∨ J h' := by
 refine callV_func Tryz.func36 rfl (by kernel_rfl) (by show _ ≤ 31; simp only [LN]; decide) ?_
 rw [Tryz.ntmps36]
 refine wpT_seq ?_
 refine wpT_region (by kernel_rfl) (fun K hK => ?_)
 simp only [↓SP, SZ, ↓reduceIte, reduceCtorEq, nE, nA, nL, nT, sec_neq, imgAV]
 refine hK _ _ ?_
 clear hK K
 refine wpT_block ?_
 refine wpT_loop ?_
 refine wpT_ind (fun (i : Nat) tm' h' => In (imCts i (im.drop i)) h' ∧ tm' 1 = yv ∧ tm' 8 = imgAV im ∧ tm' 9 = I im.length ∧ tm' 10 = I i ∧ i ≤ im.length) (fun i => im.length - i) ?_ 0 ⟨by simpa using h0, rfl, rfl, rfl, rfl, by omega⟩
 rintro i tm' h' ⟨hI, e1, e8, e9, e10, hi⟩ IH
 refine wpT_inLoop ?_
 refine wpT_seq ?_
 refine wpT_region (by kernel_rfl) (fun K hK => ?_)
 simp only [↓SP, SZ, ↓reduceIte, reduceCtorEq, nE, nA, nL, nT, sec_neq, e9, e10]
 refine hK _ _ ?_
 clear hK K
 refine wpT_seq ?_
 refine wpT_if (by rfl) (fun hc11 => ?_) (fun hc11 => ?_)
 ·
  have p11 := hc11
  try simp only [PB] at p11
  have hlt : i < im.length := by omega
  have hg := at_map (f := fun l : List Sec => AV.lst (l.map Sec.av)) hlt
  have hli := hm _ (List.getElem_mem hlt)
  rw [List.drop_eq_getElem_cons hlt, imCts] at hI
  refine wpT_skip ?_
  refine wpT_seq ?_
  refine wpT_block ?_
  refine wpT_seq ?_
  refine wpT_region (by kernel_rfl) (fun K hK => ?_)
  simp only [↓SP, SZ, ↓reduceIte, reduceCtorEq, nE, nA, nL, nT, sec_neq, e8, e10, imgAV, hg, hc11]
  refine hK _ _ ?_
  clear hK K
  refine wpT_seq ?_
  refine wpT_region (by kernel_rfl) (fun K hK => ?_)
  simp only [↓SP, SZ, ↓reduceIte, reduceCtorEq, nE, nA, nL, nT, sec_neq, hc11]
  refine hK _ _ ?_
  clear hK K
  refine wpT_block ?_
  refine wpT_loop ?_
  refine wpT_ind (fun (k : Nat) tm2 h2 => In (ctsW i (0 + (k : Int)) (im[i].drop k) ++ imCts (i + 1) (im.drop (i + 1))) h2 ∧ tm2 1 = yv ∧ tm2 8 = imgAV im ∧ tm2 9 = I im.length ∧ tm2 10 = I i ∧ tm2 4 = I i ∧ tm2 15 = .lst (im[i].map Sec.av) ∧ tm2 16 = I im[i].length ∧ tm2 17 = I k ∧ k ≤ im[i].length) (fun k => im[i].length - k) ?_ 0 ⟨by simpa using hI, by simp only [↓SP, SZ, ↓reduceIte, reduceCtorEq, nE, nA, nL, nT, sec_neq, e1], by simp only [↓SP, SZ, ↓reduceIte, reduceCtorEq, nE, nA, nL, nT, sec_neq, e8], by simp only [↓SP, SZ, ↓reduceIte, reduceCtorEq, nE, nA, nL, nT, sec_neq, e9], by simp only [↓SP, SZ, ↓reduceIte, reduceCtorEq, nE, nA, nL, nT, sec_neq, e10], rfl, rfl, rfl, rfl, by omega⟩
  rintro k tm2 h2 ⟨hI2, f1, f8, f9, f10, f4, f15, f16, f17, hk⟩ IH2
  refine wpT_inLoop ?_
  refine wpT_seq ?_
  refine wpT_region (by kernel_rfl) (fun K hK => ?_)
  simp only [↓SP, SZ, ↓reduceIte, reduceCtorEq, nE, nA, nL, nT, sec_neq, f16, f17]
  refine hK _ _ ?_
  clear hK K
  refine wpT_seq ?_
  refine wpT_if (by rfl) (fun hc18 => ?_) (fun hc18 => ?_)
  ·
   have p18 := hc18
   try simp only [PB] at p18
   have hlt2 : k < im[i].length := by omega
   have hg2 := at_map (f := Sec.av) hlt2
   rw [List.drop_eq_getElem_cons hlt2, ctsW, List.cons_append] at hI2
   have hmem := mem_imCts_at hlt hlt2
   have hI3 : ∀ o o2 : Ob, In (⟨(i : Int), 0 + (k : Int), im[i][k]⟩ :: (ctsW i (0 + (k : Int) + 1) (im[i].drop (k + 1)) ++ imCts (i + 1) (im.drop (i + 1)))) ((h2.add o).set h2.nx o2) := fun o o2 => hst _ _ _ hI2 (by simp only [↓SP, SZ, ↓reduceIte, reduceCtorEq, nE, nA, nL, nT, sec_neq]; omega) (fun j hj => by
     have j1 : ¬ j = h2.nx := by omega
     simp only [↓SP, SZ, ↓reduceIte, reduceCtorEq, nE, nA, nL, nT, sec_neq, j1])
   have h0k : (0 : Int) + (k : Int) = (k : Int) := by omega
   refine wpT_skip ?_
   refine wpT_seq ?_
   refine wpT_block ?_
   refine wpT_seq ?_
   refine wpT_region (by kernel_rfl) (fun K hK => ?_)
   simp only [↓SP, SZ, ↓reduceIte, reduceCtorEq, nE, nA, nL, nT, sec_neq, f15, f17, hg2, hc18]
   refine hK _ _ ?_
   clear hK K
   refine wpT_seq ?_
   refine wpT_region (by kernel_rfl) (fun K hK => ?_)
   simp only [↓SP, SZ, ↓reduceIte, reduceCtorEq, nE, nA, nL, nT, sec_neq, f1, f4, f17, hc18]
   have hcall := hy ⟨(i : Int), 0 + (k : Int), im[i][k]⟩ _ _ (hI3 (.arr 49 8 [.agg [.int .u8 0, .int .u8 0, .int .u8 0, .int .u8 0, .int .u8 0, .int .u8 0, .int .u8 0, .int .u8 0]]) (.arr 49 8 [im[i][k].av])) hmem
   rw [show (⟨(i : Int), 0 + (k : Int), im[i][k]⟩ : Ct).sec = (k : Int) from h0k] at hcall
   refine CallV.mono hcall ?_
   rintro _ h3 ⟨bb, rfl, hbb⟩
   simp only [↓SP, SZ, ↓reduceIte, reduceCtorEq, nE, nA, nL, nT, sec_neq, f1, f4, f17, hc18]
   refine hK _ _ ?_
   clear hK K
   refine wpT_if (by rfl) (fun hc28 => ?_) (fun hc28 => ?_)
   ·
    have p28 := hc28
    try simp only [PB] at p28
    refine wpT_ret ⟨.inr rfl, ?_⟩
    show optK (resA _ _ _ []) _
    simp only [SRO, ↓SP, SZ, ↓reduceIte, reduceCtorEq, nE, nA, nL, nT, sec_neq, hc18, hc28]
    rcases hbb with ⟨hbb, _⟩ | ⟨_, hbb⟩
    · simp_all
    · exact .inr hbb
   ·
    have p28 := hc28
    try simp only [PB] at p28
    refine wpT_skip ?_
    refine wpT_inBlock ?_
    refine wpT_region (by kernel_rfl) (fun K hK => ?_)
    simp only [↓SP, SZ, ↓reduceIte, reduceCtorEq, nE, nA, nL, nT, sec_neq, f17, wrap64 (x := (k : Int) + 1) (by omega) (by omega), hc18, hc28]
    refine hK _ _ ?_
    clear hK K
    refine IH2 (k + 1) _ _ (by omega) ⟨?_, by simp only [↓SP, SZ, ↓reduceIte, reduceCtorEq, nE, nA, nL, nT, sec_neq, f1], by simp only [↓SP, SZ, ↓reduceIte, reduceCtorEq, nE, nA, nL, nT, sec_neq, f8], by simp only [↓SP, SZ, ↓reduceIte, reduceCtorEq, nE, nA, nL, nT, sec_neq, f9], by simp only [↓SP, SZ, ↓reduceIte, reduceCtorEq, nE, nA, nL, nT, sec_neq, f10], by simp only [↓SP, SZ, ↓reduceIte, reduceCtorEq, nE, nA, nL, nT, sec_neq, f4], by simp only [↓SP, SZ, ↓reduceIte, reduceCtorEq, nE, nA, nL, nT, sec_neq, f15], by simp only [↓SP, SZ, ↓reduceIte, reduceCtorEq, nE, nA, nL, nT, sec_neq, f16], by simp only [↓SP, SZ, ↓reduceIte, reduceCtorEq, nE, nA, nL, nT, sec_neq, Int.natCast_add, Int.cast_ofNat_Int], by omega⟩
    rcases hbb with ⟨_, hbb⟩ | ⟨hbb, _⟩
    · rw [show (0 : Int) + ((k + 1 : Nat) : Int) = 0 + (k : Int) + 1 by omega]; exact hbb
    · simp_all
  ·
   have p18 := hc18
   try simp only [PB] at p18
   rw [List.drop_eq_nil_of_le (by omega), ctsW, List.nil_append] at hI2
   refine wpT_exit rfl ?_
   refine wpT_inBlock ?_
   refine wpT_region (by kernel_rfl) (fun K hK => ?_)
   simp only [↓SP, SZ, ↓reduceIte, reduceCtorEq, nE, nA, nL, nT, sec_neq, f10, wrap64 (x := (i : Int) + 1) (by omega) (by omega), hc18]
   refine hK _ _ ?_
   clear hK K
   refine IH (i + 1) _ _ (by omega) ⟨hI2, by simp only [↓SP, SZ, ↓reduceIte, reduceCtorEq, nE, nA, nL, nT, sec_neq, f1], by simp only [↓SP, SZ, ↓reduceIte, reduceCtorEq, nE, nA, nL, nT, sec_neq, f8], by simp only [↓SP, SZ, ↓reduceIte, reduceCtorEq, nE, nA, nL, nT, sec_neq, f9], by simp only [↓SP, SZ, ↓reduceIte, reduceCtorEq, nE, nA, nL, nT, sec_neq, Int.natCast_add, Int.cast_ofNat_Int], by omega⟩
 ·
  have p11 := hc11
  try simp only [PB] at p11
  rw [List.drop_eq_nil_of_le (by omega), imCts] at hI
  refine wpT_exit rfl ?_
  refine wpT_end ⟨.inl rfl, ?_⟩
  show optK (resA _ _ _ []) _
  simp only [SRO, ↓SP, SZ, ↓reduceIte, reduceCtorEq, nE, nA, nL, nT, sec_neq, hc11]
  exact .inl hI
theorem c38 (c : Ct) : Pu Tryz.prog (.fn (.func 38) [] []) [.agg [I c.vol, I c.sec], c.dat.av] c.one.av := by
 refine pu_func Tryz.func38 rfl (by kernel_rfl) (by show _ ≤ 12; simp only [LN]; decide) (by simp only [IDS, chkAV_idf, ct_idf, judge_idf]) (by simp only [IDS, chkAV_idf, ct_idf, judge_idf]) (by simp only [IDS, chkAV_idf, ct_idf, judge_idf]) ?_
 rw [Tryz.ntmps38]
 refine wpT_seq ?_
 refine wpT_region (by kernel_rfl) (fun K hK => ?_)
 simp only [↓SP, SZ, ↓reduceIte, reduceCtorEq, nE, nA, nL, nT, sec_neq]
 refine hK _ _ ?_
 clear hK K
 refine wpT_seq ?_
 refine wpT_region (by kernel_rfl) (fun K hK => ?_)
 simp only [↓SP, SZ, ↓reduceIte, reduceCtorEq, nE, nA, nL, nT, sec_neq]
 refine hK _ _ ?_
 clear hK K
 refine wpT_ret ⟨.inr rfl, ?_⟩
 show optK (resA _ _ _ [.cell 4 45]) _
 simp only [SRO, ↓SP, SZ, ↓reduceIte, reduceCtorEq, nE, nA, nL, nT, sec_neq]
 exact Lend.aggL (LendL.cons (.refl _) (LendL.cons (.refl _) (LendL.cons (Lend.sl0 (E := 49) (s := 8) (es := [c.dat.av]) (by simp only [↓SP, SZ, ↓reduceIte, reduceCtorEq, nE, nA, nL, nT, sec_neq]) rfl (by simp [AV.okc, Sec.av])) LendL.nil)))
end Go.Proofs.YtfdfkmcplhloaaaGreat
end

section
set_option linter.unusedSimpArgs false
set_option linter.unusedVariables false
namespace Go.Proofs.YtfdfkmcplhloaaaGreat
open Go.Proofs
open Nat renaming reduceEqDiff → nE, reduceAdd → nA, reduceLeDiff → nL, reduceLT → nT
set_option maxRecDepth 10000
def reqO (r : List (Int × Bool)) : Ob := .map 3 4 (r.map fun p => I p.1) (r.map fun p => B p.2)
theorem int_bits (i : Int) : bitsA (I i) (I i) = true := by simp [bitsA, bit1]
theorem updB (m : List (Int × Bool)) (k : Int) (v : Bool) : updA Tryz.prog 3 (m.map fun p => I p.1) (m.map fun p => B p.2) (I k) (B v) = some ((putM k v m).map (fun p => I p.1), (putM k v m).map fun p => B p.2) :=
  upd_map (P := Tryz.prog) (kt := 3) (f := I) (g := B) int_eqT int_bits m k v
theorem lookB (m : List (Int × Bool)) (k : Int) : lookA Tryz.prog 3 4 (m.map fun p => I p.1) (m.map fun p => B p.2) (I k) false = some (B ((assoc k m).getD false)) := by
  have h := look_map (P := Tryz.prog) (kt := 3) (et := 4) (f := I) (g := B) (z := B false) int_eqT (by simp only [TY]) m k false
  rw [h]
  cases assoc k m <;> rfl
def candC1 (h : Hist) (im : List (List Sec)) (found : Bool) (cf : AV) (r : List (Int × Bool)) (H : Hp) : Prop :=
  H.get 0 = some (.arr 52 1 [judgeAV h im]) ∧ H.get 1 = some (.arr 45 3 [cf]) ∧ H.get 2 = some (.arr 4 1 [.bool found]) ∧ H.get 3 = some (.arr 82 1 [.map 4]) ∧ H.get 4 = some (reqO r)
def wrZ : AV := .agg [I 0, I 0, .nil0]
theorem c37 (h : Hist) (im : List (List Sec)) (r : List (Int × Bool)) (c : Ct) : CallV Tryz.prog (.fn (.func 37) [] [.ptr 0 1 0 0, .ptr 1 1 0 0, .ptr 2 1 0 0, .ptr 3 1 0 0]) [.agg [I c.vol, I c.sec], c.dat.av] (Hp.of [(0, .arr 52 1 [judgeAV h im]), (1, .arr 45 3 [wrZ]), (2, .arr 4 1 [.bool false]), (3, .arr 82 1 [.map 4]), (4, reqO r)] 5) fun v h' =>
    (c.dat = sec0 ∧ v = .bool true ∧ candC1 h im false wrZ r h') ∨ (c.dat ≠ sec0 ∧ ∃ n, assoc c (ctsH 0 h.ws) = some n ∧ v = .bool true ∧ candC1 h im false wrZ (putM n true r) h') ∨ (c.dat ≠ sec0 ∧ assoc c (ctsH 0 h.ws) = none ∧ v = .bool false ∧ candC1 h im true c.one.av r h') := by
 refine callV_func Tryz.func37 rfl (by kernel_rfl) (by show _ ≤ 32; simp only [LN]; decide) ?_
 rw [Tryz.ntmps37]
 refine wpT_seq ?_
 refine wpT_region (by kernel_rfl) (fun K hK => ?_)
 simp only [↓SP, SZ, ↓reduceIte, reduceCtorEq, nE, nA, nL, nT, sec_neq, sec_eql, reqO, wrZ]
 refine hK _ _ ?_
 clear hK K
 refine wpT_seq ?_
 refine wpT_seq ?_
 refine wpT_region (by kernel_rfl) (fun K hK => ?_)
 simp only [↓SP, SZ, ↓reduceIte, reduceCtorEq, nE, nA, nL, nT, sec_neq, sec_eql, reqO, wrZ, secB0]
 refine hK _ _ ?_
 clear hK K
 refine wpT_if (by rfl) (fun hc13 => ?_) (fun hc13 => ?_)
 ·
  have p13 := hc13
  try simp only [PB] at p13
  have hd : c.dat = sec0 := by simpa using p13
  refine wpT_seq ?_
  refine wpT_region (by kernel_rfl) (fun K hK => ?_)
  simp only [↓SP, SZ, ↓reduceIte, reduceCtorEq, nE, nA, nL, nT, sec_neq, sec_eql, reqO, wrZ, hc13]
  refine hK _ _ ?_
  clear hK K
  refine wpT_ret ⟨.inr rfl, ?_⟩
  show optK (resA _ _ _ [.tmp 8]) _
  simp only [SRO, ↓SP, SZ, ↓reduceIte, reduceCtorEq, nE, nA, nL, nT, sec_neq, sec_eql, reqO, wrZ, hc13]
  refine .inl ⟨hd, ?_, ?_, ?_, ?_, ?_⟩
  all_goals simp only [↓SP, SZ, ↓reduceIte, reduceCtorEq, nE, nA, nL, nT, sec_neq, sec_eql, judgeAV, writersAV, imgAV, wrZ, reqO]
 ·
  have p13 := hc13
  try simp only [PB] at p13
  have hd : c.dat ≠ sec0 := by simpa using p13
  have hlk := lookM (ctsH 0 h.ws) c
  simp only [Ct.av] at hlk
  refine wpT_skip ?_
  refine wpT_seq ?_
  refine wpT_drawn [] mixed (by kernel_rfl) (m := 13) rfl (fun K hK => ?_)
  simp only [↓SP, SZ, ↓reduceIte, reduceCtorEq, nE, nA, nL, nT, sec_neq, sec_eql, reqO, wrZ, judgeAV, imgAV, writersAV, Sec.av, lk_cmap mp73, hlk, hc13]
  refine hK _ _ ?_
  clear hK K
  refine wpT_seq ?_
  refine wpT_seq ?_
  refine wpT_region (by kernel_rfl) (fun K hK => ?_)
  simp only [↓SP, SZ, ↓reduceIte, reduceCtorEq, nE, nA, nL, nT, sec_neq, sec_eql, reqO, wrZ, Option.isSome_some, Option.isSome_none, hc13]
  refine hK _ _ ?_
  clear hK K
  refine wpT_if (by rfl) (fun hc26 => ?_) (fun hc26 => ?_)
  ·
   have p26 := hc26
   try simp only [PB] at p26
   have hn : assoc c (ctsH 0 h.ws) = none := by simpa using p26
   refine wpT_seq ?_
   refine wpT_region (by kernel_rfl) (fun K hK => ?_)
   simp only [↓SP, SZ, ↓reduceIte, reduceCtorEq, nE, nA, nL, nT, sec_neq, sec_eql, reqO, wrZ, Sec.av, hc13, hc26]
   refine Pu.call (c38 c) ?_
   simp only [↓SP, SZ, ↓reduceIte, reduceCtorEq, nE, nA, nL, nT, sec_neq, sec_eql, reqO, wrZ, Sec.av, hc13, hc26]
   refine hK _ _ ?_
   clear hK K
   refine wpT_seq ?_
   refine wpT_region (by kernel_rfl) (fun K hK => ?_)
   simp only [↓SP, SZ, ↓reduceIte, reduceCtorEq, nE, nA, nL, nT, sec_neq, sec_eql, reqO, wrZ, hc13, hc26]
   refine hK _ _ ?_
   clear hK K
   refine wpT_ret ⟨.inr rfl, ?_⟩
   show optK (resA _ _ _ [.tmp 8]) _
   simp only [SRO, ↓SP, SZ, ↓reduceIte, reduceCtorEq, nE, nA, nL, nT, sec_neq, sec_eql, reqO, wrZ, hc13, hc26]
   refine .inr (.inr ⟨hd, hn, ?_, ?_, ?_, ?_, ?_⟩)
   all_goals simp only [↓SP, SZ, ↓reduceIte, reduceCtorEq, nE, nA, nL, nT, sec_neq, sec_eql, judgeAV, writersAV, imgAV, wrZ, reqO]
  ·
   have p26 := hc26
   try simp only [PB] at p26
   have hs : (assoc c (ctsH 0 h.ws)).isSome = true := by simpa using p26
   obtain ⟨n, hn⟩ := Option.isSome_iff_exists.1 hs
   refine wpT_skip ?_
   refine wpT_seq ?_
   refine wpT_region (by kernel_rfl) (fun K hK => ?_)
   simp only [↓SP, SZ, ↓reduceIte, reduceCtorEq, nE, nA, nL, nT, sec_neq, sec_eql, reqO, wrZ, lk_map mp82, up_map mp82, updB, upO_some, Option.map_some, hn, Option.getD_some, hc13, hc26]
   refine hK _ _ ?_
   clear hK K
   refine wpT_seq ?_
   refine wpT_region (by kernel_rfl) (fun K hK => ?_)
   simp only [↓SP, SZ, ↓reduceIte, reduceCtorEq, nE, nA, nL, nT, sec_neq, sec_eql, reqO, wrZ, hc13, hc26]
   refine hK _ _ ?_
   clear hK K
   refine wpT_ret ⟨.inr rfl, ?_⟩
   show optK (resA _ _ _ [.tmp 8]) _
   simp only [SRO, ↓SP, SZ, ↓reduceIte, reduceCtorEq, nE, nA, nL, nT, sec_neq, sec_eql, reqO, wrZ, hc13, hc26]
   refine .inr (.inl ⟨hd, n, hn, ?_, ?_, ?_, ?_, ?_⟩)
   all_goals simp only [↓SP, SZ, ↓reduceIte, reduceCtorEq, nE, nA, nL, nT, sec_neq, sec_eql, judgeAV, writersAV, imgAV, wrZ, reqO]
def candC2 (h : Hist) (im : List (List Sec)) (found : Bool) (cf : AV) (H : Hp) : Prop :=
  H.get 0 = some (.arr 52 1 [judgeAV h im]) ∧ H.get 1 = some (.arr 45 3 [cf]) ∧ H.get 2 = some (.arr 4 1 [.bool found])
theorem c41 (h : Hist) (im : List (List Sec)) (v k : Nat) (d : Sec) (hv : v < im.length) (hk : k < im[v].length) : CallV Tryz.prog (.fn (.func 41) [] [.ptr 0 1 0 0, .ptr 1 1 0 0, .ptr 2 1 0 0]) [.agg [I v, I k], d.av] (Hp.of [(0, .arr 52 1 [judgeAV h im]), (1, .arr 45 3 [wrZ]), (2, .arr 4 1 [.bool false])] 3) fun r h' =>
    (d = im[v][k] ∧ r = .bool true ∧ candC2 h im false wrZ h') ∨ (d ≠ im[v][k] ∧ r = .bool false ∧ candC2 h im true (Ct.one ⟨v, k, d⟩).av h') := by
 refine callV_func Tryz.func41 rfl (by kernel_rfl) (by show _ ≤ 27; simp only [LN]; decide) ?_
 rw [Tryz.ntmps41]
 have hg := at_map (f := fun l : List Sec => AV.lst (l.map Sec.av)) hv
 have hg2 := at_map (f := Sec.av) hk
 refine wpT_seq ?_
 refine wpT_region (by kernel_rfl) (fun K hK => ?_)
 simp only [↓SP, SZ, ↓reduceIte, reduceCtorEq, nE, nA, nL, nT, sec_neq, sec_eql, wrZ]
 refine hK _ _ ?_
 clear hK K
 refine wpT_seq ?_
 refine wpT_seq ?_
 refine wpT_drawn [] mixed (by kernel_rfl) (m := 14) rfl (fun K hK => ?_)
 simp only [↓SP, SZ, ↓reduceIte, reduceCtorEq, nE, nA, nL, nT, sec_neq, sec_eql, wrZ, judgeAV, imgAV, hg, hg2]
 refine hK _ _ ?_
 clear hK K
 refine wpT_if (by rfl) (fun hc21 => ?_) (fun hc21 => ?_)
 ·
  have p21 := hc21
  try simp only [PB] at p21
  have hd : d ≠ im[v][k] := by simpa using p21
  refine wpT_region (by kernel_rfl) (fun K hK => ?_)
  simp only [↓SP, SZ, ↓reduceIte, reduceCtorEq, nE, nA, nL, nT, sec_neq, sec_eql, wrZ, hc21]
  refine Pu.call (c38 ⟨v, k, d⟩) ?_
  simp only [↓SP, SZ, ↓reduceIte, reduceCtorEq, nE, nA, nL, nT, sec_neq, sec_eql, wrZ, hc21]
  refine hK _ _ ?_
  clear hK K
  refine wpT_seq ?_
  refine wpT_region (by kernel_rfl) (fun K hK => ?_)
  simp only [↓SP, SZ, ↓reduceIte, reduceCtorEq, nE, nA, nL, nT, sec_neq, sec_eql, wrZ, hc21]
  refine hK _ _ ?_
  clear hK K
  refine wpT_ret ⟨.inr rfl, ?_⟩
  show optK (resA _ _ _ [.tmp 7]) _
  simp only [SRO, ↓SP, SZ, ↓reduceIte, reduceCtorEq, nE, nA, nL, nT, sec_neq, sec_eql, wrZ, hc21]
  refine .inr ⟨hd, ?_, ?_, ?_⟩
  all_goals simp only [↓SP, SZ, ↓reduceIte, reduceCtorEq, nE, nA, nL, nT, sec_neq, sec_eql, judgeAV, writersAV, imgAV, wrZ]
 ·
  have p21 := hc21
  try simp only [PB] at p21
  have hd : d = im[v][k] := by simpa using p21
  refine wpT_skip ?_
  refine wpT_seq ?_
  refine wpT_region (by kernel_rfl) (fun K hK => ?_)
  simp only [↓SP, SZ, ↓reduceIte, reduceCtorEq, nE, nA, nL, nT, sec_neq, sec_eql, wrZ, hc21]
  refine hK _ _ ?_
  clear hK K
  refine wpT_ret ⟨.inr rfl, ?_⟩
  show optK (resA _ _ _ [.tmp 7]) _
  simp only [SRO, ↓SP, SZ, ↓reduceIte, reduceCtorEq, nE, nA, nL, nT, sec_neq, sec_eql, wrZ, hc21]
  refine .inl ⟨hd, ?_, ?_, ?_⟩
  all_goals simp only [↓SP, SZ, ↓reduceIte, reduceCtorEq, nE, nA, nL, nT, sec_neq, sec_eql, judgeAV, writersAV, imgAV, wrZ]
theorem wrZ_idf : Idf wrZ := by simp only [wrZ, IDF, and_tt]
theorem rn_judge (D : Nat → Prop) (q : Nat → Nat) (h : Hist) (im : List (List Sec)) : RnO D q (.arr 52 1 [judgeAV h im]) (.arr 52 1 [judgeAV h im]) := .arr _ _ _ _ (RnL.idf (by simp only [all_cons, all_nil, judge_idf, and_tt]))
theorem rn_bool (D : Nat → Prop) (q : Nat → Nat) (b : Bool) : RnO D q (.arr 4 1 [.bool b]) (.arr 4 1 [.bool b]) := .arr _ _ _ _ (RnL.idf (by simp only [IDF, and_tt]))
theorem rn_wr (D : Nat → Prop) (q : Nat → Nat) {a : AV} (ha : Idf a) : RnO D q (.arr 45 3 [a]) (.arr 45 3 [a]) := .arr _ _ _ _ (RnL.idf (by simpa only [all_cons, all_nil, and_true] using ha))
theorem rn_req (D : Nat → Prop) (q : Nat → Nat) (r : List (Int × Bool)) : RnO D q (reqO r) (reqO r) := .map _ _ _ _ _ _ (RnL.idf (by simp only [all_map, IDF, implies_true])) (RnL.idf (by simp only [all_map, IDF, implies_true]))
theorem one_idf (c : Ct) : Idf c.one.av := by rw [wr_idf]; trivial
/-- The visits as they stand in 'candidate'. -/
def candH (h : Hist) (im : List (List Sec)) (found : Bool) (cf : AV) (r : List (Int × Bool)) (H : Hp) : Prop :=
  6 ≤ H.nx ∧ H.get 0 = some (.arr 52 1 [judgeAV h im]) ∧ H.get 1 = some (.arr 45 3 [wrZ]) ∧ H.get 2 = some (.arr 45 3 [cf]) ∧ H.get 3 = some (.arr 4 1 [.bool found]) ∧ H.get 5 = some (.arr 82 1 [.map 4]) ∧ H.get 4 = some (reqO r)
theorem cand1_call {h : Hist} {im : List (List Sec)} {r : List (Int × Bool)} {H : Hp} (c : Ct) (hH : candH h im false wrZ r H) {K : AV → Hp → Prop}
    (k1 : c.dat = sec0 → ∀ H', candH h im false wrZ r H' → K (.bool true) H')
    (k2 : ∀ n, c.dat ≠ sec0 → assoc c (ctsH 0 h.ws) = some n → ∀ H', candH h im false wrZ (putM n true r) H' → K (.bool true) H')
    (k3 : c.dat ≠ sec0 → assoc c (ctsH 0 h.ws) = none → ∀ H', candH h im true c.one.av r H' → K (.bool false) H') :
    CallV Tryz.prog (.fn (.func 37) [] [.ptr 0 1 0 0, .ptr 2 1 0 0, .ptr 3 1 0 0, .ptr 5 1 0 0]) [.agg [I c.vol, I c.sec], c.dat.av] H K := by
  obtain ⟨g0, g1, g2, g3, g4, g5, g6⟩ := hH
  have hv : ∀ (l : List Loc), Loc.has l 4 → Loc.at l 4 = 4 → RnO (Loc.has l) (Loc.at l) (.arr 82 1 [.map 4]) (.arr 82 1 [.map 4]) := fun l a b =>
    .arr _ _ _ _ (RnL.cons (by have := Rn.map (D := Loc.has l) (q := Loc.at l) 4 a; rwa [b] at this) RnL.nil)
  let lo : Bool → AV → List (Int × Bool) → List Loc := fun f w r => [⟨0, 0, .arr 52 1 [judgeAV h im], .arr 52 1 [judgeAV h im]⟩, ⟨1, 2, .arr 45 3 [w], .arr 45 3 [w]⟩, ⟨2, 3, .arr 4 1 [.bool f], .arr 4 1 [.bool f]⟩, ⟨3, 5, .arr 82 1 [.map 4], .arr 82 1 [.map 4]⟩, ⟨4, 4, reqO r, reqO r⟩]
  have hrn : ∀ (f : Bool) (w : AV) (r' : List (Int × Bool)), Idf w → ∀ x ∈ lo f w r', RnO (Loc.has (lo false wrZ r)) (Loc.at (lo false wrZ r)) x.o x.o' := by
    intro f w r' hw y hy
    simp only [lo, List.mem_cons, List.not_mem_nil, or_false] at hy
    rcases hy with rfl | rfl | rfl | rfl | rfl
    · exact rn_judge _ _ _ _
    · exact rn_wr _ _ hw
    · exact rn_bool _ _ _
    · exact hv _ (by simp [lo, Loc.has]) rfl
    · exact rn_req _ _ _
  refine CallV.local (lo false wrZ r) 5 (c37 h im r c) (by rfl) (by simp [lo]) ?_ (hrn _ _ _ wrZ_idf) ?_ ?_ ?_
  · simpa [lo] using ⟨g1, g3, g4, g5, g6⟩
  · exact Rn.fnL RnL.nil (RnL.cons (.ptr 0 1 0 0 (by simp [lo, Loc.has])) (RnL.cons (.ptr 1 1 0 0 (by simp [lo, Loc.has])) (RnL.cons (.ptr 2 1 0 0 (by simp [lo, Loc.has])) (RnL.cons (.ptr 3 1 0 0 (by simp [lo, Loc.has])) RnL.nil))))
  · exact RnL.idf (by simp only [sec_idf', IDF, and_tt])
  · have hfin : ∀ (f : Bool) (w : AV) (r' : List (Int × Bool)) (b : Bool) (h0 : Hp), Idf w → candC1 h im f w r' h0 → (∀ H', candH h im f w r' H' → K (.bool b) H') →
        ∃ (v : AV) (l' : List Loc), l'.map Loc.s = (lo false wrZ r).map Loc.s ∧ l'.map Loc.g = (lo false wrZ r).map Loc.g ∧ (∀ x ∈ l', h0.get x.s = some x.o ∧ RnO (Loc.has (lo false wrZ r)) (Loc.at (lo false wrZ r)) x.o x.o') ∧ Rn (Loc.has (lo false wrZ r)) (Loc.at (lo false wrZ r)) (.bool b) v ∧ K v (H.upd (l'.map fun x => (x.g, x.o'))) := by
      intro f w r' b h0 hw hc hK
      obtain ⟨z0, z1, z2, z3, z4⟩ := hc
      refine ⟨.bool b, lo f w r', rfl, rfl, fun x hx => ⟨?_, hrn f w r' hw x hx⟩, .idf _ (.bool _), hK _ ⟨g0, ?_, ?_, ?_, ?_, ?_, ?_⟩⟩
      · simp only [lo, List.mem_cons, List.not_mem_nil, or_false] at hx
        rcases hx with rfl | rfl | rfl | rfl | rfl
        · exact z0
        · exact z1
        · exact z2
        · exact z3
        · exact z4
      all_goals first
        | rfl
        | exact g2
    rintro v0 h0 (⟨a1, rfl, a3⟩ | ⟨a1, n, a2, rfl, a3⟩ | ⟨a1, a2, rfl, a3⟩)
    · exact hfin _ _ _ _ _ wrZ_idf a3 (k1 a1)
    · exact hfin _ _ _ _ _ wrZ_idf a3 (k2 n a1 a2)
    · exact hfin _ _ _ _ _ (one_idf c) a3 (k3 a1 a2)
end Go.Proofs.YtfdfkmcplhloaaaGreat
end

section
set_option linter.unusedSimpArgs false
set_option linter.unusedVariables false
namespace Go.Proofs.YtfdfkmcplhloaaaGreat
open Go.Proofs
open Nat renaming reduceEqDiff → nE, reduceAdd → nA, reduceLeDiff → nL, reduceLT → nT
set_option maxRecDepth 10000
def candH2 (h : Hist) (im : List (List Sec)) (found : Bool) (cf : AV) (H : Hp) : Prop :=
  4 ≤ H.nx ∧ H.get 0 = some (.arr 52 1 [judgeAV h im]) ∧ H.get 1 = some (.arr 45 3 [wrZ]) ∧ H.get 2 = some (.arr 45 3 [cf]) ∧ H.get 3 = some (.arr 4 1 [.bool found])
theorem cand2_call {h : Hist} {im : List (List Sec)} {H : Hp} (v k : Nat) (d : Sec) (hv : v < im.length) (hk : k < im[v].length) (hH : candH2 h im false wrZ H) {K : AV → Hp → Prop}
    (k1 : d = im[v][k] → ∀ H', candH2 h im false wrZ H' → K (.bool true) H') (k3 : d ≠ im[v][k] → ∀ H', candH2 h im true (Ct.one ⟨v, k, d⟩).av H' → K (.bool false) H') :
    CallV Tryz.prog (.fn (.func 41) [] [.ptr 0 1 0 0, .ptr 2 1 0 0, .ptr 3 1 0 0]) [.agg [I v, I k], d.av] H K := by
  obtain ⟨g0, g1, g2, g3, g4⟩ := hH
  let lo : Bool → AV → List Loc := fun f w => [⟨0, 0, .arr 52 1 [judgeAV h im], .arr 52 1 [judgeAV h im]⟩, ⟨1, 2, .arr 45 3 [w], .arr 45 3 [w]⟩, ⟨2, 3, .arr 4 1 [.bool f], .arr 4 1 [.bool f]⟩]
  have hrn : ∀ (f : Bool) (w : AV), Idf w → ∀ x ∈ lo f w, RnO (Loc.has (lo false wrZ)) (Loc.at (lo false wrZ)) x.o x.o' := by
    intro f w hw y hy
    simp only [lo, List.mem_cons, List.not_mem_nil, or_false] at hy
    rcases hy with rfl | rfl | rfl
    · exact rn_judge _ _ _ _
    · exact rn_wr _ _ hw
    · exact rn_bool _ _ _
  refine CallV.local (lo false wrZ) 3 (c41 h im v k d hv hk) (by rfl) (by simp [lo]) ?_ (hrn _ _ wrZ_idf) ?_ ?_ ?_
  · simpa [lo] using ⟨g1, g3, g4⟩
  · exact Rn.fnL RnL.nil (RnL.cons (.ptr 0 1 0 0 (by simp [lo, Loc.has])) (RnL.cons (.ptr 1 1 0 0 (by simp [lo, Loc.has])) (RnL.cons (.ptr 2 1 0 0 (by simp [lo, Loc.has])) RnL.nil)))
  · exact RnL.idf (by simp only [sec_idf', IDF, and_tt])
  · have hfin : ∀ (f : Bool) (w : AV) (b : Bool) (h0 : Hp), Idf w → candC2 h im f w h0 → (∀ H', candH2 h im f w H' → K (.bool b) H') →
        ∃ (v : AV) (l' : List Loc), l'.map Loc.s = (lo false wrZ).map Loc.s ∧ l'.map Loc.g = (lo false wrZ).map Loc.g ∧ (∀ x ∈ l', h0.get x.s = some x.o ∧ RnO (Loc.has (lo false wrZ)) (Loc.at (lo false wrZ)) x.o x.o') ∧ Rn (Loc.has (lo false wrZ)) (Loc.at (lo false wrZ)) (.bool b) v ∧ K v (H.upd (l'.map fun x => (x.g, x.o'))) := by
      intro f w b h0 hw hc hK
      obtain ⟨z0, z1, z2⟩ := hc
      refine ⟨.bool b, lo f w, rfl, rfl, fun x hx => ⟨?_, hrn f w hw x hx⟩, .idf _ (.bool _), hK _ ⟨g0, ?_, ?_, ?_, ?_⟩⟩
      · simp only [lo, List.mem_cons, List.not_mem_nil, or_false] at hx
        rcases hx with rfl | rfl | rfl
        · exact z0
        · exact z1
        · exact z2
      all_goals first
        | rfl
        | exact g2
    rintro v0 h0 (⟨a1, rfl, a3⟩ | ⟨a1, rfl, a3⟩)
    · exact hfin _ _ _ _ wrZ_idf a3 (k1 a1)
    · exact hfin _ _ _ _ (one_idf _) a3 (k3 a1)
def ukP (m : List (Ct × Int)) (c : Ct) : Bool := !decide (c.dat = sec0) && (assoc c m).isNone
def rqF (m : List (Ct × Int)) (c : Ct) : Option Int := if c.dat = sec0 then none else assoc c m
def cdS (h : Hist) (im : List (List Sec)) (cs : List Ct) (r : List (Int × Bool)) : Prop := unkC (ctsH 0 h.ws) im = cs.find? (ukP (ctsH 0 h.ws)) ∧ ∀ n, n ∈ reqL (ctsH 0 h.ws) im ↔ (assoc n r).getD false = true ∨ n ∈ cs.filterMap (rqF (ctsH 0 h.ws))
def cdI (h : Hist) (im : List (List Sec)) (cs : List Ct) (H : Hp) : Prop := ∃ r, candH h im false wrZ r H ∧ cdS h im cs r
def cdJ (h : Hist) (im : List (List Sec)) (H : Hp) : Prop := ∃ c r, candH h im true c.one.av r H ∧ unkC (ctsH 0 h.ws) im = some c
theorem cdS_zero {h : Hist} {im : List (List Sec)} {c : Ct} {cs : List Ct} {r : List (Int × Bool)} (hs : cdS h im (c :: cs) r) (hc : c.dat = sec0) : cdS h im cs r := by
  refine ⟨hs.1.trans ?_, fun n => (hs.2 n).trans ?_⟩
  · rw [List.find?_cons]; simp [ukP, hc]
  · simp [rqF, hc]
theorem cdS_some {h : Hist} {im : List (List Sec)} {c : Ct} {cs : List Ct} {r : List (Int × Bool)} {k : Int} (hs : cdS h im (c :: cs) r) (hc : c.dat ≠ sec0) (hk : assoc c (ctsH 0 h.ws) = some k) : cdS h im cs (putM k true r) := by
  refine ⟨hs.1.trans ?_, fun n => (hs.2 n).trans ?_⟩
  · rw [List.find?_cons]; simp [ukP, hk]
  · rw [assoc_put, List.filterMap_cons]
    simp only [rqF, if_neg hc, hk, List.mem_cons]
    by_cases e : n = k
    · simp [e]
    · simp [e]
theorem cdS_none {h : Hist} {im : List (List Sec)} {c : Ct} {cs : List Ct} {r : List (Int × Bool)} (hs : cdS h im (c :: cs) r) (hc : c.dat ≠ sec0) (hk : assoc c (ctsH 0 h.ws) = none) : unkC (ctsH 0 h.ws) im = some c := by
  rw [hs.1, List.find?_cons]; simp [ukP, hk, hc]
theorem candH_up {h : Hist} {im : List (List Sec)} {f : Bool} {w : AV} {r : List (Int × Bool)} {a b : Hp} (hc : candH h im f w r a) (hn : a.nx ≤ b.nx) (hab : ∀ j, j < a.nx → b.get j = a.get j) : candH h im f w r b := by
  obtain ⟨z0, z1, z2, z3, z4, z5, z6⟩ := hc
  exact ⟨by omega, by rw [hab _ (by omega)]; exact z1, by rw [hab _ (by omega)]; exact z2, by rw [hab _ (by omega)]; exact z3, by rw [hab _ (by omega)]; exact z4, by rw [hab _ (by omega)]; exact z5, by rw [hab _ (by omega)]; exact z6⟩
theorem candH2_up {h : Hist} {im : List (List Sec)} {f : Bool} {w : AV} {a b : Hp} (hc : candH2 h im f w a) (hn : a.nx ≤ b.nx) (hab : ∀ j, j < a.nx → b.get j = a.get j) : candH2 h im f w b := by
  obtain ⟨z0, z1, z2, z3, z4⟩ := hc
  exact ⟨by omega, by rw [hab _ (by omega)]; exact z1, by rw [hab _ (by omega)]; exact z2, by rw [hab _ (by omega)]; exact z3, by rw [hab _ (by omega)]; exact z4⟩
def dfP (im : List (List Sec)) (c : Ct) : Bool := !decide (c.dat = imAt im c.vol c.sec)
def cdI2 (h : Hist) (im x : List (List Sec)) (cs : List Ct) (H : Hp) : Prop := candH2 h im false wrZ H ∧ diffC x im = cs.find? (dfP im)
def cdJ2 (h : Hist) (im x : List (List Sec)) (H : Hp) : Prop := ∃ c : Ct, candH2 h im true c.one.av H ∧ diffC x im = some c
def candL (h : Hist) (im : List (List Sec)) : List Int := if (unkC (ctsH 0 h.ws) im).isSome = true then [] else leastC h im
def candW (h : Hist) (im : List (List Sec)) : Wr := match confC h im with | some c => c.one | none => wr0
theorem judge_ok {h : Hist} {im : List (List Sec)} (e : judgeE h im = 0) : histE h = 0 ∧ sizesOf im = h.sizes ∧ distB h = true := by
  unfold judgeE at e
  split at e
  · omega
  · split at e
    · omega
    · split at e
      · simp at e
      · split at e
        · exact ⟨by omega, by rename_i h3 _; exact Classical.not_not.1 h3, ‹_›⟩
        · simp at e
theorem im_small {h : Hist} {im : List (List Sec)} (e : histE h = 0) (hz : sizesOf im = h.sizes) : im.length ≤ 8 ∧ ∀ l ∈ im, l.length ≤ 4096 := by
  have h1 := (hist_ok e).1
  have hl : (sizesOf im).length = im.length := by simp [sizesOf]
  have hle := sizesE_le h1
  refine ⟨?_, fun l hl' => ?_⟩
  · unfold sizesE at h1
    split at h1
    · simp at h1
    · rw [hz] at hl; omega
  · have := hle (l.length : Int) (by rw [← hz]; exact List.mem_map.2 ⟨l, hl', rfl⟩)
    omega
theorem imgS_len {h : Hist} (e : histE h = 0) {l : List Int} (hl : setP h.ws.length (-1) l = true) : (imgS h l).length = h.sizes.length := by
  have := congrArg List.length (img_at e hl).1
  simpa [sizesOf] using this
theorem wrZ_lend {g : Nat → Option Ob} : Lend g wrZ wr0.av := Lend.aggL (LendL.cons (.refl _) (LendL.cons (.refl _) (LendL.cons .nil0 LendL.nil)))
theorem c21 (h : Hist) (im : List (List Sec)) (hs : h.sm) (e : judgeE h im = 0) : Pu Tryz.prog (.fn (.func 21) [] []) [judgeAV h im] (.tup [.lst ((candL h im).map I), (candW h im).av, B (confC h im).isSome, I 0]) := by
 refine pu_func Tryz.func21 rfl (by kernel_rfl) (by show _ ≤ 72; simp only [LN]; decide) (by simp only [IDS, chkAV_idf, ct_idf, judge_idf]) (by simp only [IDS, chkAV_idf, ct_idf, judge_idf]) (by simp only [IDS, chkAV_idf, ct_idf, judge_idf]) ?_
 rw [Tryz.ntmps21]
 obtain ⟨eh, hz, hd⟩ := judge_ok e
 obtain ⟨hl8, hl4⟩ := im_small eh hz
 have hw := hs.2.1
 have jc1 : (judgeAV h im).cells = [judgeAV h im] := rfl
 have jc2 : (judgeAV h im).okc = true := rfl
 have jc3 : (judgeAV h im).isAgg = false := rfl
 refine wpT_seq ?_
 refine wpT_region (by kernel_rfl) (fun K hK => ?_)
 simp only [↓SP, SZ, ↓reduceIte, reduceCtorEq, nE, nA, nL, nT, sec_neq, sec_eql, jc1, jc2, jc3]
 refine hK _ _ ?_
 clear hK K
 refine wpT_seq ?_
 refine wpT_region (by kernel_rfl) (fun K hK => ?_)
 simp only [↓SP, SZ, ↓reduceIte, reduceCtorEq, nE, nA, nL, nT, sec_neq, sec_eql, jc1, jc2, jc3]
 refine hK _ _ ?_
 clear hK K
 refine wpT_seq ?_
 refine wpT_region (by kernel_rfl) (fun K hK => ?_)
 simp only [↓SP, SZ, ↓reduceIte, reduceCtorEq, nE, nA, nL, nT, sec_neq, sec_eql, jc1, jc2, jc3]
 refine hK _ _ ?_
 clear hK K
 refine wpT_seq ?_
 refine wpT_region (by kernel_rfl) (fun K hK => ?_)
 simp only [↓SP, SZ, ↓reduceIte, reduceCtorEq, nE, nA, nL, nT, sec_neq, sec_eql, jc1, jc2, jc3]
 refine hK _ _ ?_
 clear hK K
 refine wpT_seq ?_
 refine wpT_region (by kernel_rfl) (fun K hK => ?_)
 simp only [↓SP, SZ, ↓reduceIte, reduceCtorEq, nE, nA, nL, nT, sec_neq, sec_eql, jc1, jc2, jc3, judgeAV, imgAV]
 refine CallV.mono (c36 im (by omega) (fun l hl => by have := hl4 l hl; omega) (.fn (.func 37) [] [.ptr 0 1 0 0, .ptr 2 1 0 0, .ptr 3 1 0 0, .ptr 5 1 0 0]) (cdI h im) (cdJ h im) _ ⟨[], ⟨by simp only [↓SP, SZ, ↓reduceIte, reduceCtorEq, nE, nA, nL, nT, sec_neq, sec_eql], by simp only [↓SP, SZ, ↓reduceIte, reduceCtorEq, nE, nA, nL, nT, sec_neq, sec_eql, jc1, jc2, jc3]; rfl, by simp only [↓SP, SZ, ↓reduceIte, reduceCtorEq, nE, nA, nL, nT, sec_neq, sec_eql]; rfl, by simp only [↓SP, SZ, ↓reduceIte, reduceCtorEq, nE, nA, nL, nT, sec_neq, sec_eql]; rfl, by simp only [↓SP, SZ, ↓reduceIte, reduceCtorEq, nE, nA, nL, nT, sec_neq, sec_eql], by simp only [↓SP, SZ, ↓reduceIte, reduceCtorEq, nE, nA, nL, nT, sec_neq, sec_eql], by simp only [↓SP, SZ, ↓reduceIte, reduceCtorEq, nE, nA, nL, nT, sec_neq, sec_eql]; rfl⟩, rfl, fun n => ⟨fun h => .inr h, fun h => h.elim (fun h => by simp [assoc] at h) id⟩⟩ ?_ ?_) ?_
 · rintro cs a b ⟨r, hc, hS⟩ hn hab
   exact ⟨r, candH_up hc hn hab, hS⟩
 · rintro c cs h' ⟨r, hc, hS⟩ -
   exact cand1_call c hc (fun a1 H' hH => ⟨true, rfl, .inl ⟨rfl, r, hH, cdS_zero hS a1⟩⟩) (fun n a1 a2 H' hH => ⟨true, rfl, .inl ⟨rfl, _, hH, cdS_some hS a1 a2⟩⟩) (fun a1 a2 H' hH => ⟨false, rfl, .inr ⟨rfl, c, r, hH, cdS_none hS a1 a2⟩⟩)
 rintro _ h2 hv
 obtain ⟨f, w, r, hH, hcase⟩ : ∃ f w r, candH h im f w r h2 ∧ ((f = true ∧ ∃ c : Ct, w = c.one.av ∧ unkC (ctsH 0 h.ws) im = some c) ∨ (f = false ∧ w = wrZ ∧ cdS h im [] r)) := by
   rcases hv with ⟨r, hc, hS⟩ | ⟨c, r, hc, hu⟩
   · exact ⟨false, wrZ, r, hc, .inr ⟨rfl, rfl, hS⟩⟩
   · exact ⟨true, c.one.av, r, hc, .inl ⟨rfl, c, rfl, hu⟩⟩
 obtain ⟨z0, z1, z2, z3, z4, z5, z6⟩ := hH
 simp only [↓SP, SZ, ↓reduceIte, reduceCtorEq, nE, nA, nL, nT, sec_neq, sec_eql, jc1, jc2, jc3, judgeAV, imgAV]
 refine hK _ _ ?_
 clear hK K
 refine wpT_seq ?_
 refine wpT_seq ?_
 refine wpT_region (by kernel_rfl) (fun K hK => ?_)
 simp only [↓SP, SZ, ↓reduceIte, reduceCtorEq, nE, nA, nL, nT, sec_neq, sec_eql, jc1, jc2, jc3, z4]
 refine hK _ _ ?_
 clear hK K
 refine wpT_if (by rfl) (fun hc21 => ?_) (fun hc21 => ?_)
 ·
  have p21 := hc21
  try simp only [PB] at p21
  obtain ⟨c, rfl, hu⟩ : ∃ c : Ct, w = c.one.av ∧ unkC (ctsH 0 h.ws) im = some c := by
    rcases hcase with ⟨_, hc⟩ | ⟨hf, _⟩
    · exact hc
    · simp_all
  refine wpT_seq ?_
  refine wpT_drawn [] mixed (by kernel_rfl) (m := 5) rfl (fun K hK => ?_)
  simp only [↓SP, SZ, ↓reduceIte, reduceCtorEq, nE, nA, nL, nT, sec_neq, sec_eql, jc1, jc2, jc3, z2, z3, wrZ, hc21]
  refine hK _ _ ?_
  clear hK K
  refine wpT_ret ⟨.inr rfl, ?_⟩
  show optK (resA _ _ _ [.tmp 2, .cell 3 45, .tmp 4, .tmp 5]) _
  simp only [SRO, ↓SP, SZ, ↓reduceIte, reduceCtorEq, nE, nA, nL, nT, sec_neq, sec_eql, jc1, jc2, jc3, hc21]
  have hcf : confC h im = some c := by rw [confC, hu]
  rw [show candL h im = [] from if_pos (by simp [hu]), show candW h im = c.one from by rw [candW, hcf], hcf]
  exact Lend.tupL (LendL.cons .nil0 (LendL.cons (.refl _) (LendL.cons (.refl _) (LendL.cons (.refl _) LendL.nil))))
 ·
  have p21 := hc21
  try simp only [PB] at p21
  obtain ⟨rfl, hS⟩ : w = wrZ ∧ cdS h im [] r := by
    rcases hcase with ⟨hf, _⟩ | ⟨_, hc⟩
    · simp_all
    · exact hc
  have hf : f = false := by simpa using p21
  subst hf
  have hu : unkC (ctsH 0 h.ws) im = none := hS.1
  have hreq : ∀ n, n ∈ reqL (ctsH 0 h.ws) im ↔ (assoc n r).getD false = true := fun n => (hS.2 n).trans (by simp)
  have hneed : selN (fun n => (assoc (n : Int) r).getD false) h.ws.length = neededL h im := selN_congr fun k _ => by
    have := hreq (k : Int)
    cases hb : (assoc (k : Int) r).getD false with
    | false => rw [hb] at this; simp at this; simp [this]
    | true => rw [hb] at this; simp at this; simp [this]
  refine wpT_skip ?_
  refine wpT_seq ?_
  refine wpT_region (by kernel_rfl) (fun K hK => ?_)
  simp only [↓SP, SZ, ↓reduceIte, reduceCtorEq, nE, nA, nL, nT, sec_neq, sec_eql, jc1, jc2, jc3, hc21]
  refine hK _ _ ?_
  clear hK K
  refine wpT_seq ?_
  refine wpT_seq ?_
  refine wpT_region (by kernel_rfl) (fun K hK => ?_)
  simp only [↓SP, SZ, ↓reduceIte, reduceCtorEq, nE, nA, nL, nT, sec_neq, sec_eql, jc1, jc2, jc3, z1, judgeAV, hc21]
  refine hK _ _ ?_
  clear hK K
  refine wpT_block ?_
  refine wpT_loop ?_
  obtain ⟨q, hq⟩ : ∃ q, h2.nx = q := ⟨_, rfl⟩
  have hq6 : 6 ≤ q := by omega
  refine wpT_nilown 9 3 1 (by simp only [↓SP, SZ, ↓reduceIte, reduceCtorEq, nE, nA, nL, nT, sec_neq, sec_eql]) ?_
  have n0 : ¬ 0 = q := by omega
  have n1 : ¬ 1 = q := by omega
  have n2 : ¬ 2 = q := by omega
  have n3 : ¬ 3 = q := by omega
  have n4 : ¬ 4 = q := by omega
  have n5 : ¬ 5 = q := by omega
  have n0' : ¬ q = 0 := by omega
  have n1' : ¬ q = 1 := by omega
  have n2' : ¬ q = 2 := by omega
  have n3' : ¬ q = 3 := by omega
  have n4' : ¬ q = 4 := by omega
  have n5' : ¬ q = 5 := by omega
  refine wpT_ind (fun (i : Nat) tm' h' => candH h im false wrZ r h' ∧ q < h'.nx ∧ h'.get q = some (.arr 3 1 ((selN (fun n => (assoc (n : Int) r).getD false) i).map I)) ∧ tm' 1 = .ptr 0 1 0 0 ∧ tm' 3 = .ptr 1 1 0 0 ∧ tm' 6 = .ptr 2 1 0 0 ∧ tm' 7 = .ptr 3 1 0 0 ∧ tm' 8 = .ptr 5 1 0 0 ∧ tm' 9 = .sl q (selN (fun n => (assoc (n : Int) r).getD false) i).length 0 (selN (fun n => (assoc (n : Int) r).getD false) i).length ∧ tm' 28 = I h.ws.length ∧ tm' 29 = I i ∧ i ≤ h.ws.length) (fun i => h.ws.length - i) ?_ 0 ⟨⟨by simp only [↓SP, SZ, ↓reduceIte, reduceCtorEq, nE, nA, nL, nT, sec_neq, sec_eql]; omega, by simp only [↓SP, SZ, ↓reduceIte, reduceCtorEq, nE, nA, nL, nT, sec_neq, sec_eql, hq, n0, z1], by simp only [↓SP, SZ, ↓reduceIte, reduceCtorEq, nE, nA, nL, nT, sec_neq, sec_eql, hq, n1, z2], by simp only [↓SP, SZ, ↓reduceIte, reduceCtorEq, nE, nA, nL, nT, sec_neq, sec_eql, hq, n2, z3], by simp only [↓SP, SZ, ↓reduceIte, reduceCtorEq, nE, nA, nL, nT, sec_neq, sec_eql, hq, n3, z4], by simp only [↓SP, SZ, ↓reduceIte, reduceCtorEq, nE, nA, nL, nT, sec_neq, sec_eql, hq, n5, z5], by simp only [↓SP, SZ, ↓reduceIte, reduceCtorEq, nE, nA, nL, nT, sec_neq, sec_eql, hq, n4, z6]⟩, by simp only [↓SP, SZ, ↓reduceIte, reduceCtorEq, nE, nA, nL, nT, sec_neq, sec_eql]; omega, by simp only [↓SP, SZ, ↓reduceIte, reduceCtorEq, nE, nA, nL, nT, sec_neq, sec_eql, hq]; rfl, rfl, rfl, rfl, rfl, rfl, by simp only [↓SP, SZ, ↓reduceIte, reduceCtorEq, nE, nA, nL, nT, sec_neq, sec_eql, hq]; rfl, rfl, rfl, by omega⟩
  clear hcase hS z0 z1 z2 z3 z4 z5 z6
  rintro i tm' h' ⟨⟨z0, z1, z2, z3, z4, z5, z6⟩, hqn, hqg, f1, f3, f6, f7, f8, f9, f28, f29, hi⟩ IH
  refine wpT_inLoop ?_
  refine wpT_seq ?_
  refine wpT_region (by kernel_rfl) (fun K hK => ?_)
  simp only [↓SP, SZ, ↓reduceIte, reduceCtorEq, nE, nA, nL, nT, sec_neq, sec_eql, jc1, jc2, jc3, f28, f29]
  refine hK _ _ ?_
  clear hK K
  refine wpT_seq ?_
  refine wpT_if (by rfl) (fun hc30 => ?_) (fun hc30 => ?_)
  ·
   have p30 := hc30
   try simp only [PB] at p30
   have hlt : i < h.ws.length := by omega
   have hln := selN_length (fun n => (assoc (n : Int) r).getD false) i
   have hcd : candH h im false wrZ r h' := ⟨z0, z1, z2, z3, z4, z5, z6⟩
   have m1 : (selN (fun n => (assoc (n : Int) r).getD false) i).length + 1 ≤ maxLen := by simp only [maxLen]; omega
   have m2 : ((selN (fun n => (assoc (n : Int) r).getD false) i).length + 1) * 8 ≤ 140737488355328 := by omega
   have n6 : ¬ q = h'.nx := by omega
   have n6' : ¬ h'.nx = q := by omega
   have s0 : ¬ 0 = h'.nx := by omega
   have s1 : ¬ 1 = h'.nx := by omega
   have s2 : ¬ 2 = h'.nx := by omega
   have s3 : ¬ 3 = h'.nx := by omega
   have s4 : ¬ 4 = h'.nx := by omega
   have s5 : ¬ 5 = h'.nx := by omega
   refine wpT_skip ?_
   refine wpT_seq ?_
   refine wpT_block ?_
   refine wpT_seq ?_
   refine wpT_region (by kernel_rfl) (fun K hK => ?_)
   simp only [↓SP, SZ, ↓reduceIte, reduceCtorEq, nE, nA, nL, nT, sec_neq, sec_eql, jc1, jc2, jc3, f29, hc30]
   refine hK _ _ ?_
   clear hK K
   refine wpT_seq ?_
   refine wpT_region (by kernel_rfl) (fun K hK => ?_)
   simp only [↓SP, SZ, ↓reduceIte, reduceCtorEq, nE, nA, nL, nT, sec_neq, sec_eql, jc1, jc2, jc3, f8, f29, z5, z6, reqO, lk_map mp82, lkO_some, lookB, hc30]
   refine hK _ _ ?_
   clear hK K
   refine wpT_if (by rfl) (fun hc34 => ?_) (fun hc34 => ?_)
   ·
    have p34 := hc34
    try simp only [PB] at p34
    have hsel : selN (fun n => (assoc (n : Int) r).getD false) (i + 1) = selN (fun n => (assoc (n : Int) r).getD false) i ++ [(i : Int)] := by rw [selN, if_pos p34]
    refine wpT_region (by kernel_rfl) (fun K hK => ?_)
    simp only [↓SP, SZ, ↓reduceIte, reduceCtorEq, nE, nA, nL, nT, sec_neq, sec_eql, jc1, jc2, jc3, f9, f29, hqg, n6, n6', m1, m2, hc30, hc34]
    refine hK _ _ ?_
    clear hK K
    refine wpT_inBlock ?_
    refine wpT_region (by kernel_rfl) (fun K hK => ?_)
    simp only [↓SP, SZ, ↓reduceIte, reduceCtorEq, nE, nA, nL, nT, sec_neq, sec_eql, jc1, jc2, jc3, f29, wrap64 (x := (i : Int) + 1) (by omega) (by omega), hc30, hc34]
    refine hK _ _ ?_
    clear hK K
    first
      | (have hu := hsel
         refine IH (i + 1) _ _ (by omega) ⟨⟨?_, ?_, ?_, ?_, ?_, ?_, ?_⟩, ?_, ?_, by simp only [↓SP, SZ, ↓reduceIte, reduceCtorEq, nE, nA, nL, nT, sec_neq, sec_eql, f1], by simp only [↓SP, SZ, ↓reduceIte, reduceCtorEq, nE, nA, nL, nT, sec_neq, sec_eql, f3], by simp only [↓SP, SZ, ↓reduceIte, reduceCtorEq, nE, nA, nL, nT, sec_neq, sec_eql, f6], by simp only [↓SP, SZ, ↓reduceIte, reduceCtorEq, nE, nA, nL, nT, sec_neq, sec_eql, f7], by simp only [↓SP, SZ, ↓reduceIte, reduceCtorEq, nE, nA, nL, nT, sec_neq, sec_eql, f8], by simp only [↓SP, SZ, ↓reduceIte, reduceCtorEq, nE, nA, nL, nT, sec_neq, sec_eql, hsel], by simp only [↓SP, SZ, ↓reduceIte, reduceCtorEq, nE, nA, nL, nT, sec_neq, sec_eql, f28], by simp only [↓SP, SZ, ↓reduceIte, reduceCtorEq, nE, nA, nL, nT, sec_neq, sec_eql, Int.natCast_add, Int.cast_ofNat_Int], by omega⟩
         · simp only [↓SP, SZ, ↓reduceIte, reduceCtorEq, nE, nA, nL, nT, sec_neq, sec_eql]; omega
         · simp only [↓SP, SZ, ↓reduceIte, reduceCtorEq, nE, nA, nL, nT, sec_neq, sec_eql, z1, n0, s0]
         · simp only [↓SP, SZ, ↓reduceIte, reduceCtorEq, nE, nA, nL, nT, sec_neq, sec_eql, z2, n1, s1]
         · simp only [↓SP, SZ, ↓reduceIte, reduceCtorEq, nE, nA, nL, nT, sec_neq, sec_eql, z3, n2, s2]
         · simp only [↓SP, SZ, ↓reduceIte, reduceCtorEq, nE, nA, nL, nT, sec_neq, sec_eql, z4, n3, s3]
         · simp only [↓SP, SZ, ↓reduceIte, reduceCtorEq, nE, nA, nL, nT, sec_neq, sec_eql, z5, n5, s5]
         · simp only [↓SP, SZ, ↓reduceIte, reduceCtorEq, nE, nA, nL, nT, sec_neq, sec_eql, z6, n4, s4, reqO]
         · simp only [↓SP, SZ, ↓reduceIte, reduceCtorEq, nE, nA, nL, nT, sec_neq, sec_eql]; omega
         · simp only [↓SP, SZ, ↓reduceIte, reduceCtorEq, nE, nA, nL, nT, sec_neq, sec_eql, n6, hsel, List.map_append])
      | (have hu := hself
         refine IH (i + 1) _ _ (by omega) ⟨hcd, hqn, by rw [hself]; exact hqg, by simp only [↓SP, SZ, ↓reduceIte, reduceCtorEq, nE, nA, nL, nT, sec_neq, sec_eql, f1], by simp only [↓SP, SZ, ↓reduceIte, reduceCtorEq, nE, nA, nL, nT, sec_neq, sec_eql, f3], by simp only [↓SP, SZ, ↓reduceIte, reduceCtorEq, nE, nA, nL, nT, sec_neq, sec_eql, f6], by simp only [↓SP, SZ, ↓reduceIte, reduceCtorEq, nE, nA, nL, nT, sec_neq, sec_eql, f7], by simp only [↓SP, SZ, ↓reduceIte, reduceCtorEq, nE, nA, nL, nT, sec_neq, sec_eql, f8], by simp only [↓SP, SZ, ↓reduceIte, reduceCtorEq, nE, nA, nL, nT, sec_neq, sec_eql, hself, f9], by simp only [↓SP, SZ, ↓reduceIte, reduceCtorEq, nE, nA, nL, nT, sec_neq, sec_eql, f28], by simp only [↓SP, SZ, ↓reduceIte, reduceCtorEq, nE, nA, nL, nT, sec_neq, sec_eql, Int.natCast_add, Int.cast_ofNat_Int], by omega⟩)
   ·
    have p34 := hc34
    try simp only [PB] at p34
    have hself : selN (fun n => (assoc (n : Int) r).getD false) (i + 1) = selN (fun n => (assoc (n : Int) r).getD false) i := by rw [selN, if_neg (by simp [p34]), List.append_nil]
    refine wpT_skip ?_
    refine wpT_inBlock ?_
    refine wpT_region (by kernel_rfl) (fun K hK => ?_)
    simp only [↓SP, SZ, ↓reduceIte, reduceCtorEq, nE, nA, nL, nT, sec_neq, sec_eql, jc1, jc2, jc3, f29, wrap64 (x := (i : Int) + 1) (by omega) (by omega), hc30, hc34]
    refine hK _ _ ?_
    clear hK K
    first
      | (have hu := hsel
         refine IH (i + 1) _ _ (by omega) ⟨⟨?_, ?_, ?_, ?_, ?_, ?_, ?_⟩, ?_, ?_, by simp only [↓SP, SZ, ↓reduceIte, reduceCtorEq, nE, nA, nL, nT, sec_neq, sec_eql, f1], by simp only [↓SP, SZ, ↓reduceIte, reduceCtorEq, nE, nA, nL, nT, sec_neq, sec_eql, f3], by simp only [↓SP, SZ, ↓reduceIte, reduceCtorEq, nE, nA, nL, nT, sec_neq, sec_eql, f6], by simp only [↓SP, SZ, ↓reduceIte, reduceCtorEq, nE, nA, nL, nT, sec_neq, sec_eql, f7], by simp only [↓SP, SZ, ↓reduceIte, reduceCtorEq, nE, nA, nL, nT, sec_neq, sec_eql, f8], by simp only [↓SP, SZ, ↓reduceIte, reduceCtorEq, nE, nA, nL, nT, sec_neq, sec_eql, hsel], by simp only [↓SP, SZ, ↓reduceIte, reduceCtorEq, nE, nA, nL, nT, sec_neq, sec_eql, f28], by simp only [↓SP, SZ, ↓reduceIte, reduceCtorEq, nE, nA, nL, nT, sec_neq, sec_eql, Int.natCast_add, Int.cast_ofNat_Int], by omega⟩
         · simp only [↓SP, SZ, ↓reduceIte, reduceCtorEq, nE, nA, nL, nT, sec_neq, sec_eql]; omega
         · simp only [↓SP, SZ, ↓reduceIte, reduceCtorEq, nE, nA, nL, nT, sec_neq, sec_eql, z1, n0, s0]
         · simp only [↓SP, SZ, ↓reduceIte, reduceCtorEq, nE, nA, nL, nT, sec_neq, sec_eql, z2, n1, s1]
         · simp only [↓SP, SZ, ↓reduceIte, reduceCtorEq, nE, nA, nL, nT, sec_neq, sec_eql, z3, n2, s2]
         · simp only [↓SP, SZ, ↓reduceIte, reduceCtorEq, nE, nA, nL, nT, sec_neq, sec_eql, z4, n3, s3]
         · simp only [↓SP, SZ, ↓reduceIte, reduceCtorEq, nE, nA, nL, nT, sec_neq, sec_eql, z5, n5, s5]
         · simp only [↓SP, SZ, ↓reduceIte, reduceCtorEq, nE, nA, nL, nT, sec_neq, sec_eql, z6, n4, s4, reqO]
         · simp only [↓SP, SZ, ↓reduceIte, reduceCtorEq, nE, nA, nL, nT, sec_neq, sec_eql]; omega
         · simp only [↓SP, SZ, ↓reduceIte, reduceCtorEq, nE, nA, nL, nT, sec_neq, sec_eql, n6, hsel, List.map_append])
      | (have hu := hself
         refine IH (i + 1) _ _ (by omega) ⟨hcd, hqn, by rw [hself]; exact hqg, by simp only [↓SP, SZ, ↓reduceIte, reduceCtorEq, nE, nA, nL, nT, sec_neq, sec_eql, f1], by simp only [↓SP, SZ, ↓reduceIte, reduceCtorEq, nE, nA, nL, nT, sec_neq, sec_eql, f3], by simp only [↓SP, SZ, ↓reduceIte, reduceCtorEq, nE, nA, nL, nT, sec_neq, sec_eql, f6], by simp only [↓SP, SZ, ↓reduceIte, reduceCtorEq, nE, nA, nL, nT, sec_neq, sec_eql, f7], by simp only [↓SP, SZ, ↓reduceIte, reduceCtorEq, nE, nA, nL, nT, sec_neq, sec_eql, f8], by simp only [↓SP, SZ, ↓reduceIte, reduceCtorEq, nE, nA, nL, nT, sec_neq, sec_eql, hself, f9], by simp only [↓SP, SZ, ↓reduceIte, reduceCtorEq, nE, nA, nL, nT, sec_neq, sec_eql, f28], by simp only [↓SP, SZ, ↓reduceIte, reduceCtorEq, nE, nA, nL, nT, sec_neq, sec_eql, Int.natCast_add, Int.cast_ofNat_Int], by omega⟩)
  ·
   have p30 := hc30
   try simp only [PB] at p30
   have hi2 : i = h.ws.length := by omega
   subst hi2
   rw [hneed] at hqg f9
   have hnl : (neededL h im).length < 4000000 := by
     have := selN_length (fun n => decide ((n : Int) ∈ reqL (ctsH 0 h.ws) im)) h.ws.length
     exact Nat.lt_of_le_of_lt this hw
   have hnset : setP h.ws.length (-1) (neededL h im) = true := setP_sel (Nat.le_refl _)
   have hse : setsE h [neededL h im] = 0 := by
     unfold setsE
     rw [if_neg (by omega), if_pos (by simpa using hnset)]
   have hle : leastL h (neededL h im) = leastC h im := if_neg (by omega)
   have hcset : setP h.ws.length (-1) (leastC h im) = true := least_set _ _ _
   have hie : imageE h (leastC h im) = 0 := by rw [imageE, if_neg (by omega), if_pos hcset]
   have hir : imageR h (leastC h im) = imgS h (leastC h im) := if_neg (by omega)
   have hcl : (leastC h im).length < 4000000 := Nat.lt_of_le_of_lt (selN_length _ _) hw
   refine wpT_exit rfl ?_
   refine wpT_seq ?_
   refine wpT_region (by kernel_rfl) (fun K hK => ?_)
   simp only [↓SP, SZ, ↓reduceIte, reduceCtorEq, nE, nA, nL, nT, sec_neq, sec_eql, jc1, jc2, jc3, f1, f9, z1, judgeAV, hc30]
   refine Pu.freeze (leastF h (neededL h im) hs hnl) q (LendL.cons (.refl _) (LendL.cons (Lend.sl0 (E := 3) (s := 1) (by simp only [↓SP, SZ, ↓reduceIte, reduceCtorEq, nE, nA, nL, nT, sec_neq, sec_eql, hqg]) (by simp) (int_okc _)) LendL.nil)) ?_
   simp only [↓SP, SZ, ↓reduceIte, reduceCtorEq, nE, nA, nL, nT, sec_neq, sec_eql, jc1, jc2, jc3, f1, f9, z1, judgeAV, hc30]
   refine hK _ _ ?_
   clear hK K
   refine wpT_seq ?_
   refine wpT_seq ?_
   refine wpT_region (by kernel_rfl) (fun K hK => ?_)
   simp only [↓SP, SZ, ↓reduceIte, reduceCtorEq, nE, nA, nL, nT, sec_neq, sec_eql, jc1, jc2, jc3, hc30]
   refine hK _ _ ?_
   clear hK K
   refine wpT_if (by rfl) (fun hc50 => ?_) (fun hc50 => ?_)
   ·
    have p50 := hc50
    try simp only [PB] at p50
    exfalso; omega
   ·
    have p50 := hc50
    try simp only [PB] at p50
    refine wpT_skip ?_
    refine wpT_seq ?_
    refine wpT_region (by kernel_rfl) (fun K hK => ?_)
    simp only [↓SP, SZ, ↓reduceIte, reduceCtorEq, nE, nA, nL, nT, sec_neq, sec_eql, jc1, jc2, jc3, f1, z1, n0, hle, judgeAV, hc30, hc50]
    refine Pu.call (c40 h (leastC h im) hs hcl) ?_
    simp only [↓SP, SZ, ↓reduceIte, reduceCtorEq, nE, nA, nL, nT, sec_neq, sec_eql, jc1, jc2, jc3, f1, z1, n0, hle, judgeAV, hc30, hc50]
    refine hK _ _ ?_
    clear hK K
    refine wpT_seq ?_
    refine wpT_seq ?_
    refine wpT_region (by kernel_rfl) (fun K hK => ?_)
    simp only [↓SP, SZ, ↓reduceIte, reduceCtorEq, nE, nA, nL, nT, sec_neq, sec_eql, jc1, jc2, jc3, hc30, hc50]
    refine hK _ _ ?_
    clear hK K
    refine wpT_if (by rfl) (fun hc63 => ?_) (fun hc63 => ?_)
    ·
     have p63 := hc63
     try simp only [PB] at p63
     exfalso; omega
    ·
     have p63 := hc63
     try simp only [PB] at p63
     refine wpT_skip ?_
     refine wpT_seq ?_
     refine wpT_region (by kernel_rfl) (fun K hK => ?_)
     simp only [↓SP, SZ, ↓reduceIte, reduceCtorEq, nE, nA, nL, nT, sec_neq, sec_eql, jc1, jc2, jc3, f1, f6, f7, hir, hc30, hc50, hc63]
     refine CallV.mono (c36 (imgS h (leastC h im)) ?_ ?_ (.fn (.func 41) [] [.ptr 0 1 0 0, .ptr 2 1 0 0, .ptr 3 1 0 0]) (cdI2 h im (imgS h (leastC h im))) (cdJ2 h im (imgS h (leastC h im))) _ ⟨⟨by simp only [↓SP, SZ, ↓reduceIte, reduceCtorEq, nE, nA, nL, nT, sec_neq, sec_eql]; omega, by simp only [↓SP, SZ, ↓reduceIte, reduceCtorEq, nE, nA, nL, nT, sec_neq, sec_eql, z1, n0], by simp only [↓SP, SZ, ↓reduceIte, reduceCtorEq, nE, nA, nL, nT, sec_neq, sec_eql, z2, n1], by simp only [↓SP, SZ, ↓reduceIte, reduceCtorEq, nE, nA, nL, nT, sec_neq, sec_eql, z3, n2], by simp only [↓SP, SZ, ↓reduceIte, reduceCtorEq, nE, nA, nL, nT, sec_neq, sec_eql, z4, n3]⟩, rfl⟩ ?_ ?_) ?_
     · rw [imgS_len eh hcset]; exact hs.1
     · intro l hl
       have := im_small (h := h) (im := imgS h (leastC h im)) eh (img_at eh hcset).1
       have := this.2 l hl; omega
     · rintro cs a b ⟨hc, hS⟩ hn hab
       exact ⟨candH2_up hc hn hab, hS⟩
     · rintro ⟨cv, cs', cd⟩ cs h' ⟨hc, hS⟩ hmem
       obtain ⟨v, e1, e2, l, e3, e4⟩ := mem_imCts.1 hmem
       simp only [Nat.zero_add] at e1 e2 e4
       obtain ⟨k, rfl⟩ := Int.eq_ofNat_of_zero_le e2
       subst e1
       rw [Int.toNat_natCast] at e4
       have hxs : sizesOf (imgS h (leastC h im)) = sizesOf im := (img_at eh hcset).1.trans hz.symm
       obtain ⟨hvl, hkl⟩ : ∃ hv : v < im.length, k < im[v].length := by
         have a1 : (sizesOf (imgS h (leastC h im)))[v]? = some (l.length : Int) := by rw [sizesOf, List.getElem?_map, e3]; rfl
         rw [hxs, sizesOf, List.getElem?_map] at a1
         cases hv : im[v]? with
         | none => rw [hv] at a1; simp at a1
         | some l2 =>
           rw [hv] at a1
           simp only [Option.map_some, Option.some.injEq] at a1
           obtain ⟨b1, b2⟩ := List.getElem?_eq_some_iff.1 hv
           refine ⟨b1, ?_⟩
           rw [b2]
           have := (List.getElem?_eq_some_iff.1 e4).1
           omega
       have hat : imAt im (v : Int) (k : Int) = im[v][k] := by simp [imAt, hvl, hkl]
       refine cand2_call v k cd hvl hkl hc (fun a1 H' hH => ⟨true, rfl, .inl ⟨rfl, hH, hS.trans ?_⟩⟩) (fun a1 H' hH => ⟨false, rfl, .inr ⟨rfl, _, hH, hS.trans ?_⟩⟩)
       · rw [List.find?_cons]; simp [dfP, hat, a1]
       · rw [List.find?_cons]; simp [dfP, hat, a1]
     rintro _ h3 hv3
     obtain ⟨f, w, hH3, hw1, hw2, hw3, hw4, hcase3⟩ : ∃ f w, candH2 h im f w h3 ∧ w.cells.length = 3 ∧ w.okc = true ∧ w.isAgg = true ∧ loadV Tryz.prog 45 w 0 = some w ∧ ((∃ c : Ct, f = true ∧ w = c.one.av ∧ diffC (imgS h (leastC h im)) im = some c) ∨ (f = false ∧ w = wrZ ∧ diffC (imgS h (leastC h im)) im = none)) := by
       rcases hv3 with ⟨hc, hS⟩ | ⟨c, hc, hS⟩
       · exact ⟨false, wrZ, hc, rfl, rfl, rfl, by simp only [wrZ, TY]; rfl, .inr ⟨rfl, rfl, hS⟩⟩
       · exact ⟨true, c.one.av, hc, rfl, rfl, rfl, wr_ld _, .inl ⟨c, rfl, rfl, hS⟩⟩
     obtain ⟨d0, d1, d2, d3, d4⟩ := hH3
     simp only [↓SP, SZ, ↓reduceIte, reduceCtorEq, nE, nA, nL, nT, sec_neq, sec_eql, jc1, jc2, jc3, f1, f6, f7, hir, hc30, hc50, hc63]
     refine hK _ _ ?_
     clear hK K
     refine wpT_seq ?_
     refine wpT_drawn [(2, 4)] mixed (by kernel_rfl) (m := 7) rfl (fun K hK => ?_)
     simp only [↓SP, SZ, ↓reduceIte, reduceCtorEq, nE, nA, nL, nT, sec_neq, sec_eql, jc1, jc2, jc3, f3, f6, f7, d2, d3, d4, hw1, hw2, hw3, hw4, wrZ, hc30, hc50, hc63]
     refine hK _ _ ?_
     clear hK K
     refine wpT_ret ⟨.inr rfl, ?_⟩
     show optK (resA _ _ _ [.tmp 2, .cell 3 45, .tmp 4, .tmp 5]) _
     simp only [SRO, ↓SP, SZ, ↓reduceIte, reduceCtorEq, nE, nA, nL, nT, sec_neq, sec_eql, jc1, jc2, jc3, hc30, hc50, hc63]
     have hcf : confC h im = diffC (imgS h (leastC h im)) im := by rw [confC, hu]
     rw [show candL h im = leastC h im from if_neg (by simp [hu])]
     simp only [↓SP, SZ, ↓reduceIte, reduceCtorEq, nE, nA, nL, nT, sec_neq, sec_eql, SR, Option.map_some, Option.bind_some, f3, hw1, hw2, hw3, hw4]
     rcases hcase3 with ⟨c, rfl, rfl, hdf⟩ | ⟨rfl, rfl, hdf⟩
     · rw [show candW h im = c.one from by rw [candW, hcf, hdf], hcf, hdf]
       exact .refl _
     · rw [show candW h im = wr0 from by rw [candW, hcf, hdf], hcf, hdf]
       exact Lend.tupL (LendL.cons (.refl _) (LendL.cons wrZ_lend (LendL.cons (.refl _) (LendL.cons (.refl _) LendL.nil))))
end Go.Proofs.YtfdfkmcplhloaaaGreat
end
