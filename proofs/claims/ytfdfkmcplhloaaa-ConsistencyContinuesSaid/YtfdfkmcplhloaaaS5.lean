/- Walks: the reference's least and greatest cuts.
  Walks: the reference's images behind writes.
  Walks: the reference's image of a set of writes; its candidates.
  Walks: the reference's candidates.
  Walks: the examples of chapter 18.
  Laws of chapter 18 that return true: Distinguishes, Conflicts, Shows.
  The law Continues returns true.
  The law Recovers returns true.
  Laws return true for all arguments, and leave them as they are: standbylaw18.ConsistencyDistinguishes, standbylaw18.ConsistencyConflicts, standbylaw18.ConsistencyShows, standbylaw18.ConsistencyContinues, standbylaw18.ConsistencyRecovers. -/
import Derived.Test.YtfdfkmcplhloaaaS4
import Derived.Test.YtfdfkmcplhloaaaRows
section
set_option linter.unusedSimpArgs false
set_option linter.unusedVariables false
namespace Go.Proofs.Ytfdfkmcplhloaaa
open Go.Proofs
open Nat renaming reduceEqDiff → nE, reduceAdd → nA, reduceLeDiff → nL, reduceLT → nT
set_option maxRecDepth 10000
def lsF (h : Hist) (l : List Int) (a : Nat) : Bool := decide ((a : Int) ∈ l) || l.any fun b => befT (histRun h).2 a b.toNat
def lsI (h : Hist) (l : List Int) (a i : Nat) : Bool := decide ((a : Int) ∈ l) || (l.take i).any fun b => befT (histRun h).2 a b.toNat
def grF (h : Hist) (l : List Int) (b : Nat) : Bool := decide ((b : Int) ∈ l) && (List.range h.ws.length).all fun a => decide ((a : Int) ∈ l) || !befT (histRun h).2 a b
end Go.Proofs.Ytfdfkmcplhloaaa
end

section
set_option linter.unusedSimpArgs false
set_option linter.unusedVariables false
namespace Go.Proofs.Ytfdfkmcplhloaaa
open Go.Proofs
open Nat renaming reduceEqDiff → nE, reduceAdd → nA, reduceLeDiff → nL, reduceLT → nT
set_option maxRecDepth 10000
def rcS (h : Hist) (im : List (List Sec)) (cs : List Ct) (rq : List Bool) : Prop := unkC (ctsH 0 h.ws) im = cs.find? (ukP (ctsH 0 h.ws)) ∧ ∀ n : Nat, n < h.ws.length → ((n : Int) ∈ reqL (ctsH 0 h.ws) im ↔ rq.getD n false = true ∨ (n : Int) ∈ cs.filterMap (rqF (ctsH 0 h.ws)))
/-- The contents from place k of volume v on. -/
def restC (im : List (List Sec)) (v k : Nat) : List Ct := ctsW v (k : Int) ((im.getD v []).drop k) ++ imCts (v + 1) (im.drop (v + 1))
end Go.Proofs.Ytfdfkmcplhloaaa
end

section
set_option linter.unusedSimpArgs false
set_option linter.unusedVariables false
namespace Go.Proofs.Ytfdfkmcplhloaaa
open Go.Proofs
open Nat renaming reduceEqDiff → nE, reduceAdd → nA, reduceLeDiff → nL, reduceLT → nT
set_option maxRecDepth 10000
def byS (b : Int) : Sec := ⟨b, 0, 0, 0, 0, 0, 0, 0⟩
def ofI (a b c : Int) : List (List Sec) := [[byS a, byS b, byS c]]
def exH : Hist := ⟨[3], [⟨0, 0, [byS 1]⟩, ⟨0, 1, [byS 2]⟩, ⟨0, 0, [byS 3, byS 4]⟩], [⟨0, 0⟩, ⟨1, 0⟩, ⟨0, 1⟩, ⟨1, 1⟩, ⟨0, 2⟩]⟩
def firL (n : Nat) : List Int := (List.range n).map fun i : Nat => (i : Int)
def exI : List (List (List Sec)) := [ofI 0 0 0, ofI 1 0 0, ofI 1 2 0, ofI 3 4 0]
theorem ex_distinct : histE exH = 0 ∧ distB exH = true := by decide +kernel
theorem ex_finds : ∀ i, i < 4 → findL exH (exI.getD i []) = firL i ∧ newL exH (exI.getD i []) = firL i ∧ findB exH (exI.getD i []) = true ∧ judgeE exH (exI.getD i []) = 0 := by decide +kernel
theorem ex_conf1 : findB exH (ofI 0 2 0) = false ∧ judgeE exH (ofI 0 2 0) = 0 ∧ conW exH (ofI 0 2 0) = ⟨0, 0, [byS 1]⟩ ∧ conB exH (ofI 0 2 0) = true := by decide +kernel
theorem ex_conf2 : judgeE exH (ofI 1 5 0) = 0 ∧ conW exH (ofI 1 5 0) = ⟨0, 1, [byS 5]⟩ ∧ conB exH (ofI 1 5 0) = true := by decide +kernel
theorem ex_conf3 : judgeE exH (ofI 3 2 0) = 0 ∧ conW exH (ofI 3 2 0) = ⟨0, 1, [byS 4]⟩ ∧ conB exH (ofI 3 2 0) = true := by decide +kernel
theorem ex_sm : exH.sm := by unfold Hist.sm; decide +kernel
theorem byS_build (b : Int) : opBuild Try.prog 44 [(0, .int .u8 b)] = some (byS b).av := by kernel_rfl
theorem c30 (n : Nat) (hn : n < 4000000) : Pu Try.prog (.fn (.func 30) [] []) [I n] (.lst ((firL n).map I)) := by
 refine pu_func Try.func30 rfl (by kernel_rfl) (by show _ ≤ 15; simp only [LN]; decide) (by simp only [IDS]) (by simp only [IDS]) (by simp only [IDS]) ?_
 rw [Try.ntmps30]
 refine wpT_seq ?_
 refine wpT_region (by kernel_rfl) (fun K hK => ?_)
 simp only [↓SP, SZ, ↓reduceIte, reduceCtorEq, nE, nA, nL, nT, sec_neq]
 refine hK _ _ ?_
 clear hK K
 refine wpT_seq ?_
 refine wpT_region (by kernel_rfl) (fun K hK => ?_)
 simp only [↓SP, SZ, ↓reduceIte, reduceCtorEq, nE, nA, nL, nT, sec_neq]
 refine hK _ _ ?_
 clear hK K
 refine wpT_seq ?_
 refine wpT_seq ?_
 refine wpT_region (by kernel_rfl) (fun K hK => ?_)
 simp only [↓SP, SZ, ↓reduceIte, reduceCtorEq, nE, nA, nL, nT, sec_neq]
 refine hK _ _ ?_
 clear hK K
 refine wpT_block ?_
 refine wpT_loop ?_
 refine wpT_nilown 3 3 1 (by simp only [↓SP, SZ, ↓reduceIte, reduceCtorEq, nE, nA, nL, nT, sec_neq]) ?_
 refine wpT_keep1 (i := 0) (o := .arr 3 1 ((firL 0).map I)) (by simp only [↓SP, SZ, ↓reduceIte, reduceCtorEq, nE, nA, nL, nT, sec_neq]; rfl) ?_
 refine wpT_ind (fun (i : Nat) tm' h' => (∃ m, h' = Hp.of [(0, .arr 3 1 ((firL i).map I))] (m + 1)) ∧ tm' 0 = I n ∧ tm' 3 = .sl 0 i 0 i ∧ tm' 4 = I i ∧ i ≤ n) (fun i => n - i) ?_ 0 ⟨⟨0, rfl⟩, rfl, rfl, rfl, by omega⟩
 rintro i tm' _ ⟨⟨m, rfl⟩, e0, e3, e4, hi⟩ IH
 refine wpT_inLoop ?_
 refine wpT_seq ?_
 refine wpT_seq ?_
 refine wpT_region (by kernel_rfl) (fun K hK => ?_)
 simp only [↓SP, SZ, ↓reduceIte, reduceCtorEq, nE, nA, nL, nT, sec_neq, e0, e4]
 refine hK _ _ ?_
 clear hK K
 refine wpT_if (by rfl) (fun hc7 => ?_) (fun hc7 => ?_)
 ·
  have p7 := hc7
  try simp only [PB] at p7
  have hlt : i < n := by omega
  have q1 : i + 1 ≤ maxLen := by simp only [maxLen]; omega
  have q2 : (i + 1) * 8 ≤ 140737488355328 := by omega
  have q3 : (firL i).length = i := by simp [firL]
  have q4 : (firL (i + 1)).map I = (firL i).map I ++ [I i] := by simp [firL, List.range_succ]
  refine wpT_skip ?_
  refine wpT_seq ?_
  refine wpT_block ?_
  refine wpT_region (by kernel_rfl) (fun K hK => ?_)
  simp only [↓SP, SZ, ↓reduceIte, reduceCtorEq, nE, nA, nL, nT, sec_neq, e3, e4, q1, q2, q3, hc7]
  refine hK _ _ ?_
  clear hK K
  refine wpT_inBlock ?_
  refine wpT_region (by kernel_rfl) (fun K hK => ?_)
  simp only [↓SP, SZ, ↓reduceIte, reduceCtorEq, nE, nA, nL, nT, sec_neq, e4, wrap64 (x := (i : Int) + 1) (by omega) (by omega), hc7]
  refine hK _ _ ?_
  clear hK K
  refine wpT_keep1 (i := 0) (o := .arr 3 1 ((firL (i + 1)).map I)) (by simp only [↓SP, SZ, ↓reduceIte, reduceCtorEq, nE, nA, nL, nT, sec_neq, q4]) ?_
  refine IH (i + 1) _ _ (by omega) ⟨⟨_, rfl⟩, by simp only [↓SP, SZ, ↓reduceIte, reduceCtorEq, nE, nA, nL, nT, sec_neq, e0], by simp only [↓SP, SZ, ↓reduceIte, reduceCtorEq, nE, nA, nL, nT, sec_neq], by simp only [↓SP, SZ, ↓reduceIte, reduceCtorEq, nE, nA, nL, nT, sec_neq, Int.natCast_add, Int.cast_ofNat_Int], by omega⟩
 ·
  have p7 := hc7
  try simp only [PB] at p7
  have hi2 : i = n := by omega
  subst hi2
  refine wpT_exit rfl ?_
  refine wpT_seq ?_
  refine wpT_region (by kernel_rfl) (fun K hK => ?_)
  simp only [↓SP, SZ, ↓reduceIte, reduceCtorEq, nE, nA, nL, nT, sec_neq, e3, hc7]
  refine hK _ _ ?_
  clear hK K
  refine wpT_ret ⟨.inr rfl, ?_⟩
  show optK (resA _ _ _ [.tmp 2]) _
  simp only [SRO, ↓SP, SZ, ↓reduceIte, reduceCtorEq, nE, nA, nL, nT, sec_neq, hc7]
  exact Lend.sl0 (E := 3) (s := 1) (by simp only [↓SP, SZ, ↓reduceIte, reduceCtorEq, nE, nA, nL, nT, sec_neq]) (by simp [firL]) (int_okc _)
theorem c29 (a b c : Int) : Pu Try.prog (.fn (.func 29) [] []) [.int .u8 a, .int .u8 b, .int .u8 c] (imgAV (ofI a b c)) := by
 refine pu_func Try.func29 rfl (by kernel_rfl) (by show _ ≤ 15; simp only [LN]; decide) (by simp only [IDS]) (by simp only [IDS]) (by simp only [IDS]) ?_
 rw [Try.ntmps29]
 refine wpT_seq ?_
 refine wpT_region (by kernel_rfl) (fun K hK => ?_)
 simp only [↓SP, SZ, ↓reduceIte, reduceCtorEq, nE, nA, nL, nT, sec_neq]
 refine hK _ _ ?_
 clear hK K
 refine wpT_seq ?_
 refine wpT_region (by kernel_rfl) (fun K hK => ?_)
 simp only [↓SP, SZ, ↓reduceIte, reduceCtorEq, nE, nA, nL, nT, sec_neq, byS_build, bsT (len := 3) sle32 zo44 cel44 zr44 rfl rfl rfl, bsO_3]
 refine hK _ _ ?_
 clear hK K
 refine wpT_ret ⟨.inr rfl, ?_⟩
 show optK (resA _ _ _ [.tmp 6]) _
 simp only [SRO, ↓SP, SZ, ↓reduceIte, reduceCtorEq, nE, nA, nL, nT, sec_neq]
 refine Lend.sl 1 1 0 1 32 1 [.sl 0 3 0 3] _ (by simp only [↓SP, SZ, ↓reduceIte, reduceCtorEq, nE, nA, nL, nT, sec_neq]) rfl (by omega) rfl (fun j x y hx hy => ?_) (fun y hy => ?_)
 · cases j with
   | zero =>
     simp [ofI] at hx hy
     subst hx; subst hy
     exact Lend.sl0 (E := 44) (s := 8) (es := [(byS a).av, (byS b).av, (byS c).av]) (by simp only [↓SP, SZ, ↓reduceIte, reduceCtorEq, nE, nA, nL, nT, sec_neq]) rfl (by simp [AV.okc, Sec.av])
   | succ j => simp at hx
 · simp only [ofI, List.map_cons, List.map_nil, List.mem_singleton] at hy
   subst hy; rfl
theorem c31 (at' s : Int) : Pu Try.prog (.fn (.func 31) [] []) [I at', .int .u8 s] (.lst ([(⟨0, at', [byS s]⟩ : Wr)].map Wr.av)) := by
 refine pu_func Try.func31 rfl (by kernel_rfl) (by show _ ≤ 11; simp only [LN]; decide) (by simp only [IDS]) (by simp only [IDS]) (by simp only [IDS]) ?_
 rw [Try.ntmps31]
 refine wpT_seq ?_
 refine wpT_region (by kernel_rfl) (fun K hK => ?_)
 simp only [↓SP, SZ, ↓reduceIte, reduceCtorEq, nE, nA, nL, nT, sec_neq]
 refine hK _ _ ?_
 clear hK K
 refine wpT_seq ?_
 refine wpT_region (by kernel_rfl) (fun K hK => ?_)
 simp only [↓SP, SZ, ↓reduceIte, reduceCtorEq, nE, nA, nL, nT, sec_neq, byS_build]
 refine hK _ _ ?_
 clear hK K
 refine wpT_ret ⟨.inr rfl, ?_⟩
 show optK (resA _ _ _ [.tmp 4]) _
 simp only [SRO, ↓SP, SZ, ↓reduceIte, reduceCtorEq, nE, nA, nL, nT, sec_neq]
 refine Lend.sl 1 1 0 1 34 3 [.agg [I 0, I at', .sl 0 1 0 1]] _ (by simp only [↓SP, SZ, ↓reduceIte, reduceCtorEq, nE, nA, nL, nT, sec_neq]) rfl (by omega) rfl (fun j x y hx hy => ?_) (fun y hy => by simp only [List.map_cons, List.map_nil, List.mem_singleton] at hy; subst hy; rfl)
 cases j with
 | zero =>
   simp at hx hy
   subst hx; subst hy
   exact Lend.aggL (LendL.cons (.refl _) (LendL.cons (.refl _) (LendL.cons (Lend.sl0 (E := 44) (s := 8) (es := [(byS s).av]) (by simp only [↓SP, SZ, ↓reduceIte, reduceCtorEq, nE, nA, nL, nT, sec_neq]) rfl (by simp [AV.okc, Sec.av])) LendL.nil)))
 | succ j => simp at hx
theorem c64 (k n : Int) : Pu Try.prog (.fn (.func 64) [] []) [I k, I n] (Evn.av ⟨k, n⟩) := by
 refine pu_func Try.func64 rfl (by kernel_rfl) (by show _ ≤ 8; simp only [LN]; decide) (by simp only [IDS]) (by simp only [IDS]) (by simp only [IDS]) ?_
 rw [Try.ntmps64]
 refine wpT_seq ?_
 refine wpT_region (by kernel_rfl) (fun K hK => ?_)
 simp only [↓SP, SZ, ↓reduceIte, reduceCtorEq, nE, nA, nL, nT, sec_neq]
 refine hK _ _ ?_
 clear hK K
 refine wpT_seq ?_
 refine wpT_region (by kernel_rfl) (fun K hK => ?_)
 simp only [↓SP, SZ, ↓reduceIte, reduceCtorEq, nE, nA, nL, nT, sec_neq]
 refine hK _ _ ?_
 clear hK K
 refine wpT_ret ⟨.inr rfl, ?_⟩
 show optK (resA _ _ _ [.cell 4 93]) _
 simp only [SRO, ↓SP, SZ, ↓reduceIte, reduceCtorEq, nE, nA, nL, nT, sec_neq]
 exact .refl _
theorem c63 (bs : List Int) (hl : bs.length < 4000000) : Pu Try.prog (.fn (.func 63) [] []) [.lst (bs.map fun b => .int .u8 b)] (.lst ((bs.map byS).map Sec.av)) := by
 refine pu_func Try.func63 rfl (by kernel_rfl) (by show _ ≤ 19; simp only [LN]; decide) (by simp only [IDS]) (by simp only [IDS]) (by simp only [IDS]) ?_
 rw [Try.ntmps63]
 refine wpT_seq ?_
 refine wpT_region (by kernel_rfl) (fun K hK => ?_)
 simp only [↓SP, SZ, ↓reduceIte, reduceCtorEq, nE, nA, nL, nT, sec_neq]
 refine hK _ _ ?_
 clear hK K
 refine wpT_seq ?_
 refine wpT_region (by kernel_rfl) (fun K hK => ?_)
 simp only [↓SP, SZ, ↓reduceIte, reduceCtorEq, nE, nA, nL, nT, sec_neq]
 refine hK _ _ ?_
 clear hK K
 refine wpT_seq ?_
 refine wpT_seq ?_
 refine wpT_region (by kernel_rfl) (fun K hK => ?_)
 simp only [↓SP, SZ, ↓reduceIte, reduceCtorEq, nE, nA, nL, nT, sec_neq]
 refine hK _ _ ?_
 clear hK K
 refine wpT_block ?_
 refine wpT_loop ?_
 refine wpT_nilown 3 44 8 (by simp only [↓SP, SZ, ↓reduceIte, reduceCtorEq, nE, nA, nL, nT, sec_neq]) ?_
 refine wpT_keep1 (i := 0) (o := .arr 44 8 (((bs.take 0).map byS).map Sec.av)) (by simp only [↓SP, SZ, ↓reduceIte, reduceCtorEq, nE, nA, nL, nT, sec_neq]) ?_
 refine wpT_ind (fun (i : Nat) tm' h' => (∃ m, h' = Hp.of [(0, .arr 44 8 (((bs.take i).map byS).map Sec.av))] (m + 1)) ∧ tm' 3 = .sl 0 i 0 i ∧ tm' 6 = .lst (bs.map fun b => .int .u8 b) ∧ tm' 7 = I bs.length ∧ tm' 8 = I i ∧ i ≤ bs.length) (fun i => bs.length - i) ?_ 0 ⟨⟨0, rfl⟩, rfl, rfl, rfl, rfl, by omega⟩
 rintro i tm' _ ⟨⟨m, rfl⟩, e3, e6, e7, e8, hi⟩ IH
 refine wpT_inLoop ?_
 refine wpT_seq ?_
 refine wpT_region (by kernel_rfl) (fun K hK => ?_)
 simp only [↓SP, SZ, ↓reduceIte, reduceCtorEq, nE, nA, nL, nT, sec_neq, e7, e8]
 refine hK _ _ ?_
 clear hK K
 refine wpT_seq ?_
 refine wpT_if (by rfl) (fun hc9 => ?_) (fun hc9 => ?_)
 ·
  have p9 := hc9
  try simp only [PB] at p9
  have hlt : i < bs.length := by omega
  have hg := at_map (f := fun b : Int => AV.int .u8 b) hlt
  have q1 : i + 1 ≤ maxLen := by simp only [maxLen]; omega
  have q2 : (i + 1) * 8 ≤ 140737488355328 := by omega
  have q4 : (((bs.take (i + 1)).map byS).map Sec.av) = (((bs.take i).map byS).map Sec.av) ++ [(byS bs[i]).av] := by rw [List.take_add_one, List.getElem?_eq_getElem hlt, List.map_append, List.map_append]; rfl
  refine wpT_skip ?_
  refine wpT_seq ?_
  refine wpT_block ?_
  refine wpT_seq ?_
  refine wpT_region (by kernel_rfl) (fun K hK => ?_)
  simp only [↓SP, SZ, ↓reduceIte, reduceCtorEq, nE, nA, nL, nT, sec_neq, e6, e8, hg, hc9]
  refine hK _ _ ?_
  clear hK K
  refine wpT_region (by kernel_rfl) (fun K hK => ?_)
  simp only [↓SP, SZ, ↓reduceIte, reduceCtorEq, nE, nA, nL, nT, sec_neq, e3, byS_build, q1, q2, List.length_take, Nat.min_eq_left hi, hc9]
  refine hK _ _ ?_
  clear hK K
  refine wpT_inBlock ?_
  refine wpT_region (by kernel_rfl) (fun K hK => ?_)
  simp only [↓SP, SZ, ↓reduceIte, reduceCtorEq, nE, nA, nL, nT, sec_neq, e8, wrap64 (x := (i : Int) + 1) (by omega) (by omega), hc9]
  refine hK _ _ ?_
  clear hK K
  refine wpT_keep1 (i := 0) (o := .arr 44 8 (((bs.take (i + 1)).map byS).map Sec.av)) (by simp only [↓SP, SZ, ↓reduceIte, reduceCtorEq, nE, nA, nL, nT, sec_neq, q4]) ?_
  refine IH (i + 1) _ _ (by omega) ⟨⟨_, rfl⟩, by simp only [↓SP, SZ, ↓reduceIte, reduceCtorEq, nE, nA, nL, nT, sec_neq], by simp only [↓SP, SZ, ↓reduceIte, reduceCtorEq, nE, nA, nL, nT, sec_neq, e6], by simp only [↓SP, SZ, ↓reduceIte, reduceCtorEq, nE, nA, nL, nT, sec_neq, e7], by simp only [↓SP, SZ, ↓reduceIte, reduceCtorEq, nE, nA, nL, nT, sec_neq, Int.natCast_add, Int.cast_ofNat_Int], by omega⟩
 ·
  have p9 := hc9
  try simp only [PB] at p9
  have hi2 : i = bs.length := by omega
  subst hi2
  refine wpT_exit rfl ?_
  refine wpT_seq ?_
  refine wpT_region (by kernel_rfl) (fun K hK => ?_)
  simp only [↓SP, SZ, ↓reduceIte, reduceCtorEq, nE, nA, nL, nT, sec_neq, e3, hc9]
  refine hK _ _ ?_
  clear hK K
  refine wpT_ret ⟨.inr rfl, ?_⟩
  show optK (resA _ _ _ [.tmp 2]) _
  simp only [SRO, ↓SP, SZ, ↓reduceIte, reduceCtorEq, nE, nA, nL, nT, sec_neq, hc9]
  exact Lend.sl0 (E := 44) (s := 8) (by simp only [↓SP, SZ, ↓reduceIte, reduceCtorEq, nE, nA, nL, nT, sec_neq, List.take_length]) (by simp) (secs_okc _)
theorem exampleF : Pu Try.prog (.fn (.func 28) [] []) [] exH.av := by
 refine pu_func Try.func28 rfl (by kernel_rfl) (by show _ ≤ 29; simp only [LN]; decide) (by simp only [IDS]) (by simp only [IDS]) (by simp only [IDS]) ?_
 rw [Try.ntmps28]
 refine wpT_seq ?_
 refine wpT_region (by kernel_rfl) (fun K hK => ?_)
 simp only [↓SP, SZ, ↓reduceIte, reduceCtorEq, nE, nA, nL, nT, sec_neq, bsT (len := 2) sle117 zo5 cel5 zr5 rfl rfl rfl, bsT (len := 3) sle23 zo34 cel34 zr34 rfl rfl rfl, bsT (len := 5) sle24 zo93 cel93 zr93 rfl rfl rfl, bsO_2, bsO_3, bsO_5]
 refine hK _ _ ?_
 clear hK K
 refine wpT_seq ?_
 refine wpT_region (by kernel_rfl) (fun K hK => ?_)
 simp only [↓SP, SZ, ↓reduceIte, reduceCtorEq, nE, nA, nL, nT, sec_neq, bsT (len := 2) sle117 zo5 cel5 zr5 rfl rfl rfl, bsT (len := 3) sle23 zo34 cel34 zr34 rfl rfl rfl, bsT (len := 5) sle24 zo93 cel93 zr93 rfl rfl rfl, bsO_2, bsO_3, bsO_5]
 refine hK _ _ ?_
 clear hK K
 refine wpT_seq ?_
 refine wpT_region (by kernel_rfl) (fun K hK => ?_)
 simp only [↓SP, SZ, ↓reduceIte, reduceCtorEq, nE, nA, nL, nT, sec_neq, bsT (len := 2) sle117 zo5 cel5 zr5 rfl rfl rfl, bsT (len := 3) sle23 zo34 cel34 zr34 rfl rfl rfl, bsT (len := 5) sle24 zo93 cel93 zr93 rfl rfl rfl, bsO_2, bsO_3, bsO_5]
 refine hK _ _ ?_
 clear hK K
 refine wpT_seq ?_
 refine wpT_region (by kernel_rfl) (fun K hK => ?_)
 simp only [↓SP, SZ, ↓reduceIte, reduceCtorEq, nE, nA, nL, nT, sec_neq, bsT (len := 2) sle117 zo5 cel5 zr5 rfl rfl rfl, bsT (len := 3) sle23 zo34 cel34 zr34 rfl rfl rfl, bsT (len := 5) sle24 zo93 cel93 zr93 rfl rfl rfl, bsO_2, bsO_3, bsO_5]
 refine Pu.freeze (c63 [1] (by simp)) 2 (LendL.cons (Lend.sl0 (E := 5) (s := 1) (es := [.int .u8 1]) (by simp only [↓SP, SZ, ↓reduceIte, reduceCtorEq, nE, nA, nL, nT, sec_neq]) rfl (by simp [AV.okc])) LendL.nil) ?_
 simp only [↓SP, SZ, ↓reduceIte, reduceCtorEq, nE, nA, nL, nT, sec_neq, bsT (len := 2) sle117 zo5 cel5 zr5 rfl rfl rfl, bsT (len := 3) sle23 zo34 cel34 zr34 rfl rfl rfl, bsT (len := 5) sle24 zo93 cel93 zr93 rfl rfl rfl, bsO_2, bsO_3, bsO_5]
 refine Pu.freeze (c63 [2] (by simp)) 3 (LendL.cons (Lend.sl0 (E := 5) (s := 1) (es := [.int .u8 2]) (by simp only [↓SP, SZ, ↓reduceIte, reduceCtorEq, nE, nA, nL, nT, sec_neq]) rfl (by simp [AV.okc])) LendL.nil) ?_
 simp only [↓SP, SZ, ↓reduceIte, reduceCtorEq, nE, nA, nL, nT, sec_neq, bsT (len := 2) sle117 zo5 cel5 zr5 rfl rfl rfl, bsT (len := 3) sle23 zo34 cel34 zr34 rfl rfl rfl, bsT (len := 5) sle24 zo93 cel93 zr93 rfl rfl rfl, bsO_2, bsO_3, bsO_5]
 refine Pu.freeze (c63 [3, 4] (by simp)) 4 (LendL.cons (Lend.sl0 (E := 5) (s := 1) (es := [.int .u8 3, .int .u8 4]) (by simp only [↓SP, SZ, ↓reduceIte, reduceCtorEq, nE, nA, nL, nT, sec_neq]) rfl (by simp [AV.okc])) LendL.nil) ?_
 simp only [↓SP, SZ, ↓reduceIte, reduceCtorEq, nE, nA, nL, nT, sec_neq, bsT (len := 2) sle117 zo5 cel5 zr5 rfl rfl rfl, bsT (len := 3) sle23 zo34 cel34 zr34 rfl rfl rfl, bsT (len := 5) sle24 zo93 cel93 zr93 rfl rfl rfl, bsO_2, bsO_3, bsO_5]
 refine Pu.call (c64 0 0) ?_
 simp only [↓SP, SZ, ↓reduceIte, reduceCtorEq, nE, nA, nL, nT, sec_neq, bsT (len := 2) sle117 zo5 cel5 zr5 rfl rfl rfl, bsT (len := 3) sle23 zo34 cel34 zr34 rfl rfl rfl, bsT (len := 5) sle24 zo93 cel93 zr93 rfl rfl rfl, bsO_2, bsO_3, bsO_5]
 refine Pu.call (c64 1 0) ?_
 simp only [↓SP, SZ, ↓reduceIte, reduceCtorEq, nE, nA, nL, nT, sec_neq, bsT (len := 2) sle117 zo5 cel5 zr5 rfl rfl rfl, bsT (len := 3) sle23 zo34 cel34 zr34 rfl rfl rfl, bsT (len := 5) sle24 zo93 cel93 zr93 rfl rfl rfl, bsO_2, bsO_3, bsO_5]
 refine Pu.call (c64 0 1) ?_
 simp only [↓SP, SZ, ↓reduceIte, reduceCtorEq, nE, nA, nL, nT, sec_neq, bsT (len := 2) sle117 zo5 cel5 zr5 rfl rfl rfl, bsT (len := 3) sle23 zo34 cel34 zr34 rfl rfl rfl, bsT (len := 5) sle24 zo93 cel93 zr93 rfl rfl rfl, bsO_2, bsO_3, bsO_5]
 refine Pu.call (c64 1 1) ?_
 simp only [↓SP, SZ, ↓reduceIte, reduceCtorEq, nE, nA, nL, nT, sec_neq, bsT (len := 2) sle117 zo5 cel5 zr5 rfl rfl rfl, bsT (len := 3) sle23 zo34 cel34 zr34 rfl rfl rfl, bsT (len := 5) sle24 zo93 cel93 zr93 rfl rfl rfl, bsO_2, bsO_3, bsO_5]
 refine Pu.call (c64 0 2) ?_
 simp only [↓SP, SZ, ↓reduceIte, reduceCtorEq, nE, nA, nL, nT, sec_neq, bsT (len := 2) sle117 zo5 cel5 zr5 rfl rfl rfl, bsT (len := 3) sle23 zo34 cel34 zr34 rfl rfl rfl, bsT (len := 5) sle24 zo93 cel93 zr93 rfl rfl rfl, bsO_2, bsO_3, bsO_5]
 refine hK _ _ ?_
 clear hK K
 refine wpT_ret ⟨.inr rfl, ?_⟩
 show optK (resA _ _ _ [.cell 0 26]) _
 simp only [SRO, ↓SP, SZ, ↓reduceIte, reduceCtorEq, nE, nA, nL, nT, sec_neq, bsT (len := 2) sle117 zo5 cel5 zr5 rfl rfl rfl, bsT (len := 3) sle23 zo34 cel34 zr34 rfl rfl rfl, bsT (len := 5) sle24 zo93 cel93 zr93 rfl rfl rfl, bsO_2, bsO_3, bsO_5]
 have e : exH.av = .agg [.lst [I 3], .lst [.agg [I 0, I 0, .lst [(byS 1).av]], .agg [I 0, I 1, .lst [(byS 2).av]], .agg [I 0, I 0, .lst [(byS 3).av, (byS 4).av]]], .lst [(Evn.mk 0 0).av, (Evn.mk 1 0).av, (Evn.mk 0 1).av, (Evn.mk 1 1).av, (Evn.mk 0 2).av]] := rfl
 rw [e]
 exact Lend.aggL (LendL.cons (Lend.sl0 (E := 3) (s := 1) (by simp only [↓SP, SZ, ↓reduceIte, reduceCtorEq, nE, nA, nL, nT, sec_neq]) rfl (by simp [AV.okc])) (LendL.cons (Lend.sl0 (E := 34) (s := 3) (by simp only [↓SP, SZ, ↓reduceIte, reduceCtorEq, nE, nA, nL, nT, sec_neq]) rfl (by simp [AV.okc])) (LendL.cons (Lend.sl0 (E := 93) (s := 2) (by simp only [↓SP, SZ, ↓reduceIte, reduceCtorEq, nE, nA, nL, nT, sec_neq]) rfl (by simp [AV.okc, Evn.av])) LendL.nil)))
theorem ex_lens : ∀ im ∈ exI, im.length < 4000000 ∧ ∀ l ∈ im, l.length < 4000000 := by decide +kernel
theorem of_lens (a b c : Int) : (ofI a b c).length < 4000000 ∧ ∀ l ∈ ofI a b c, l.length < 4000000 := by simp [ofI]
theorem z00 : ((0 : Int) != 0) = false := rfl
theorem w00 : IntKind.i64.wrap ((0 : Int) + 0) = 0 := rfl
theorem awakeF : Pu Try.prog (.fn (.func 9) [] []) [] (B true) := by
 refine pu_func Try.func9 rfl (by kernel_rfl) (by show _ ≤ 153; simp only [LN]; decide) (by simp only [IDS]) (by simp only [IDS]) (by simp only [IDS]) ?_
 rw [Try.ntmps9]
 have hfind := ex_finds
 obtain ⟨x11, x12, x13, x14⟩ := ex_conf1
 obtain ⟨x22, x23, x24⟩ := ex_conf2
 obtain ⟨x32, x33, x34⟩ := ex_conf3
 obtain ⟨d1, d2⟩ := ex_distinct
 have dd : (decide (histE exH = 0) && distB exH) = true := by rw [d1, d2]; rfl
 refine wpT_seq ?_
 refine wpT_region (by kernel_rfl) (fun K hK => ?_)
 simp only [↓SP, SZ, ↓reduceIte, reduceCtorEq, nE, nA, nL, nT, sec_neq, z00, w00]
 refine hK _ _ ?_
 clear hK K
 refine wpT_seq ?_
 refine wpT_region (by kernel_rfl) (fun K hK => ?_)
 simp only [↓SP, SZ, ↓reduceIte, reduceCtorEq, nE, nA, nL, nT, sec_neq, z00, w00]
 refine Pu.call exampleF ?_
 simp only [↓SP, SZ, ↓reduceIte, reduceCtorEq, nE, nA, nL, nT, sec_neq, z00, w00]
 refine hK _ _ ?_
 clear hK K
 refine wpT_seq ?_
 refine wpT_seq ?_
 refine wpT_region (by kernel_rfl) (fun K hK => ?_)
 simp only [↓SP, SZ, ↓reduceIte, reduceCtorEq, nE, nA, nL, nT, sec_neq, z00, w00, img_okc, img_cells, bsT (len := 4) sle60 zo30 cel30 zr30 rfl rfl rfl, bsO_4 (c := 1) (va := imgAV (ofI 0 0 0)) (vb := imgAV (ofI 1 0 0)) (vc := imgAV (ofI 1 2 0)) (vd := imgAV (ofI 3 4 0)) rfl rfl rfl rfl rfl rfl rfl rfl]
 refine Pu.call (c29 0 0 0) ?_
 simp only [↓SP, SZ, ↓reduceIte, reduceCtorEq, nE, nA, nL, nT, sec_neq, z00, w00, img_okc, img_cells, bsT (len := 4) sle60 zo30 cel30 zr30 rfl rfl rfl, bsO_4 (c := 1) (va := imgAV (ofI 0 0 0)) (vb := imgAV (ofI 1 0 0)) (vc := imgAV (ofI 1 2 0)) (vd := imgAV (ofI 3 4 0)) rfl rfl rfl rfl rfl rfl rfl rfl]
 refine Pu.call (c29 1 0 0) ?_
 simp only [↓SP, SZ, ↓reduceIte, reduceCtorEq, nE, nA, nL, nT, sec_neq, z00, w00, img_okc, img_cells, bsT (len := 4) sle60 zo30 cel30 zr30 rfl rfl rfl, bsO_4 (c := 1) (va := imgAV (ofI 0 0 0)) (vb := imgAV (ofI 1 0 0)) (vc := imgAV (ofI 1 2 0)) (vd := imgAV (ofI 3 4 0)) rfl rfl rfl rfl rfl rfl rfl rfl]
 refine Pu.call (c29 1 2 0) ?_
 simp only [↓SP, SZ, ↓reduceIte, reduceCtorEq, nE, nA, nL, nT, sec_neq, z00, w00, img_okc, img_cells, bsT (len := 4) sle60 zo30 cel30 zr30 rfl rfl rfl, bsO_4 (c := 1) (va := imgAV (ofI 0 0 0)) (vb := imgAV (ofI 1 0 0)) (vc := imgAV (ofI 1 2 0)) (vd := imgAV (ofI 3 4 0)) rfl rfl rfl rfl rfl rfl rfl rfl]
 refine Pu.call (c29 3 4 0) ?_
 simp only [↓SP, SZ, ↓reduceIte, reduceCtorEq, nE, nA, nL, nT, sec_neq, z00, w00, img_okc, img_cells, bsT (len := 4) sle60 zo30 cel30 zr30 rfl rfl rfl, bsO_4 (c := 1) (va := imgAV (ofI 0 0 0)) (vb := imgAV (ofI 1 0 0)) (vc := imgAV (ofI 1 2 0)) (vd := imgAV (ofI 3 4 0)) rfl rfl rfl rfl rfl rfl rfl rfl]
 refine hK _ _ ?_
 clear hK K
 refine wpT_block ?_
 refine wpT_loop ?_
 refine wpT_keep2 (i := 0) (j := 1) (o := .arr 26 3 [exH.av]) (q := .arr 30 1 (exI.map imgAV)) (by simp only [↓SP, SZ, ↓reduceIte, reduceCtorEq, nE, nA, nL, nT, sec_neq]) (by simp only [↓SP, SZ, ↓reduceIte, reduceCtorEq, nE, nA, nL, nT, sec_neq, exI]) ?_
 refine wpT_ind (fun (i : Nat) tm' h' => (∃ m, h' = Hp.of [(0, .arr 26 3 [exH.av]), (1, .arr 30 1 (exI.map imgAV))] (m + 2)) ∧ tm' 1 = .ptr 0 1 0 0 ∧ tm' 28 = .sl 1 4 0 4 ∧ tm' 29 = I 4 ∧ tm' 30 = I i ∧ i ≤ 4) (fun i => 4 - i) ?_ 0 ⟨⟨0, rfl⟩, rfl, rfl, rfl, rfl, by omega⟩
 rintro i tm' _ ⟨⟨m, rfl⟩, e1, e28, e29, e30, hi⟩ IH
 refine wpT_inLoop ?_
 refine wpT_seq ?_
 refine wpT_region (by kernel_rfl) (fun K hK => ?_)
 simp only [↓SP, SZ, ↓reduceIte, reduceCtorEq, nE, nA, nL, nT, sec_neq, z00, w00, e29, e30]
 refine hK _ _ ?_
 clear hK K
 refine wpT_seq ?_
 refine wpT_if (by rfl) (fun hc31 => ?_) (fun hc31 => ?_)
 ·
  have p31 := hc31
  try simp only [PB] at p31
  have hlt : i < 4 := by omega
  have hlx : i < exI.length := hlt
  have hg := at_map (f := imgAV) hlx
  have hgd : exI.getD i [] = exI[i] := by simp [hlx]
  obtain ⟨f1, f2, f3, f4⟩ := hfind i hlt
  rw [hgd] at f1 f2 f3 f4
  obtain ⟨l1, l2⟩ := ex_lens _ (List.getElem_mem hlx)
  have hex : exI.length = 4 := rfl
  have hz0 : (0 : Int) ≤ (i : Int) := by omega
  have hz1 : (i : Int) < ((4 : Nat) : Int) := by omega
  have dt1 : decide (firL i = firL i) = true := decide_eq_true rfl
  refine wpT_skip ?_
  refine wpT_seq ?_
  refine wpT_block ?_
  refine wpT_seq ?_
  refine wpT_region (by kernel_rfl) (fun K hK => ?_)
  simp only [↓SP, SZ, ↓reduceIte, reduceCtorEq, nE, nA, nL, nT, sec_neq, z00, w00, e28, e30, hg, hex, hz0, hz1, Int.toNat_natCast, ldO_arr, Option.bind_some, img_cells, hc31]
  refine hK _ _ ?_
  clear hK K
  refine wpT_seq ?_
  refine wpT_region (by kernel_rfl) (fun K hK => ?_)
  simp only [↓SP, SZ, ↓reduceIte, reduceCtorEq, nE, nA, nL, nT, sec_neq, z00, w00, e1, f1, f3, f4, hc31]
  refine Pu.call (c16 exH exI[i] ex_sm l1 l2) ?_
  simp only [↓SP, SZ, ↓reduceIte, reduceCtorEq, nE, nA, nL, nT, sec_neq, z00, w00, e1, f1, f3, f4, hc31]
  refine hK _ _ ?_
  clear hK K
  refine wpT_seq ?_
  refine wpT_region (by kernel_rfl) (fun K hK => ?_)
  simp only [↓SP, SZ, ↓reduceIte, reduceCtorEq, nE, nA, nL, nT, sec_neq, z00, w00, e1, f2, f3, f4, hc31]
  refine Pu.call (c24 exH exI[i] ex_sm l1 l2) ?_
  simp only [↓SP, SZ, ↓reduceIte, reduceCtorEq, nE, nA, nL, nT, sec_neq, z00, w00, e1, f2, f3, f4, hc31]
  refine hK _ _ ?_
  clear hK K
  refine wpT_seq ?_
  refine wpT_region (by kernel_rfl) (fun K hK => ?_)
  simp only [↓SP, SZ, ↓reduceIte, reduceCtorEq, nE, nA, nL, nT, sec_neq, z00, w00, f1, f2, f3, f4, dt1, hc31]
  refine Pu.call (c30 i (by omega)) ?_
  simp only [↓SP, SZ, ↓reduceIte, reduceCtorEq, nE, nA, nL, nT, sec_neq, z00, w00, f1, f2, f3, f4, dt1, hc31]
  refine Pu.call (c20 (firL i) (firL i) (by simp [firL]; omega)) ?_
  simp only [↓SP, SZ, ↓reduceIte, reduceCtorEq, nE, nA, nL, nT, sec_neq, z00, w00, f1, f2, f3, f4, dt1, hc31]
  refine Pu.call (c30 i (by omega)) ?_
  simp only [↓SP, SZ, ↓reduceIte, reduceCtorEq, nE, nA, nL, nT, sec_neq, z00, w00, f1, f2, f3, f4, dt1, hc31]
  refine Pu.call (c20 (firL i) (firL i) (by simp [firL]; omega)) ?_
  simp only [↓SP, SZ, ↓reduceIte, reduceCtorEq, nE, nA, nL, nT, sec_neq, z00, w00, f1, f2, f3, f4, dt1, hc31]
  refine hK _ _ ?_
  clear hK K
  refine wpT_ifF (by simp only [↓SP, SZ, ↓reduceIte, reduceCtorEq, nE, nA, nL, nT, sec_neq, z00, w00, hc31]) ?_
  refine wpT_skip ?_
  refine wpT_inBlock ?_
  refine wpT_region (by kernel_rfl) (fun K hK => ?_)
  simp only [↓SP, SZ, ↓reduceIte, reduceCtorEq, nE, nA, nL, nT, sec_neq, z00, w00, e30, wrap64 (x := (i : Int) + 1) (by omega) (by omega), hc31]
  refine hK _ _ ?_
  clear hK K
  refine wpT_keep2 (i := 0) (j := 1) (o := .arr 26 3 [exH.av]) (q := .arr 30 1 (exI.map imgAV)) (by simp only [↓SP, SZ, ↓reduceIte, reduceCtorEq, nE, nA, nL, nT, sec_neq]) (by simp only [↓SP, SZ, ↓reduceIte, reduceCtorEq, nE, nA, nL, nT, sec_neq]) ?_
  refine IH (i + 1) _ _ (by omega) ⟨⟨_, rfl⟩, by simp only [↓SP, SZ, ↓reduceIte, reduceCtorEq, nE, nA, nL, nT, sec_neq, e1], by simp only [↓SP, SZ, ↓reduceIte, reduceCtorEq, nE, nA, nL, nT, sec_neq, e28], by simp only [↓SP, SZ, ↓reduceIte, reduceCtorEq, nE, nA, nL, nT, sec_neq, e29], by simp only [↓SP, SZ, ↓reduceIte, reduceCtorEq, nE, nA, nL, nT, sec_neq, Int.natCast_add, Int.cast_ofNat_Int], by omega⟩
 ·
  have p31 := hc31
  try simp only [PB] at p31
  refine wpT_exit rfl ?_
  refine wpT_seq ?_
  refine wpT_drawn [(0, 1)] mixed (by kernel_rfl) (m := 10) rfl (fun K hK => ?_)
  simp only [↓SP, SZ, ↓reduceIte, reduceCtorEq, nE, nA, nL, nT, sec_neq, z00, w00, e1, x11, x12, hc31]
  refine Pu.callD (c29 0 2 0) ?_
  simp only [↓SP, SZ, ↓reduceIte, reduceCtorEq, nE, nA, nL, nT, sec_neq, z00, w00, e1, x11, x12, hc31]
  refine Pu.callD (c16 exH (ofI 0 2 0) ex_sm (of_lens _ _ _).1 (of_lens _ _ _).2) ?_
  simp only [↓SP, SZ, ↓reduceIte, reduceCtorEq, nE, nA, nL, nT, sec_neq, z00, w00, e1, x11, x12, hc31]
  refine hK _ _ ?_
  clear hK K
  refine wpT_seq ?_
  refine wpT_drawn [(0, 1), (0, 7), (1, 7), (2, 7)] mixed (by kernel_rfl) (m := 11) rfl (fun K hK => ?_)
  simp only [↓SP, SZ, ↓reduceIte, reduceCtorEq, nE, nA, nL, nT, sec_neq, z00, w00, e1, x12, x13, x14, hc31]
  refine Pu.callD (c29 0 2 0) ?_
  simp only [↓SP, SZ, ↓reduceIte, reduceCtorEq, nE, nA, nL, nT, sec_neq, z00, w00, e1, x12, x13, x14, hc31]
  refine Pu.callD (c13 exH (ofI 0 2 0) ex_sm (of_lens _ _ _).1 (of_lens _ _ _).2) ?_
  simp only [↓SP, SZ, ↓reduceIte, reduceCtorEq, nE, nA, nL, nT, sec_neq, z00, w00, e1, x12, x13, x14, hc31]
  refine hK _ _ ?_
  clear hK K
  refine wpT_seq ?_
  refine wpT_drawn [(0, 1), (0, 7), (1, 7), (2, 7)] mixed (by kernel_rfl) (m := 11) rfl (fun K hK => ?_)
  simp only [↓SP, SZ, ↓reduceIte, reduceCtorEq, nE, nA, nL, nT, sec_neq, z00, w00, e1, x22, x23, x24, hc31]
  refine Pu.callD (c29 1 5 0) ?_
  simp only [↓SP, SZ, ↓reduceIte, reduceCtorEq, nE, nA, nL, nT, sec_neq, z00, w00, e1, x22, x23, x24, hc31]
  refine Pu.callD (c13 exH (ofI 1 5 0) ex_sm (of_lens _ _ _).1 (of_lens _ _ _).2) ?_
  simp only [↓SP, SZ, ↓reduceIte, reduceCtorEq, nE, nA, nL, nT, sec_neq, z00, w00, e1, x22, x23, x24, hc31]
  refine hK _ _ ?_
  clear hK K
  refine wpT_seq ?_
  refine wpT_drawn [(0, 1), (0, 7), (1, 7), (2, 7)] mixed (by kernel_rfl) (m := 11) rfl (fun K hK => ?_)
  simp only [↓SP, SZ, ↓reduceIte, reduceCtorEq, nE, nA, nL, nT, sec_neq, z00, w00, e1, x32, x33, x34, hc31]
  refine Pu.callD (c29 3 2 0) ?_
  simp only [↓SP, SZ, ↓reduceIte, reduceCtorEq, nE, nA, nL, nT, sec_neq, z00, w00, e1, x32, x33, x34, hc31]
  refine Pu.callD (c13 exH (ofI 3 2 0) ex_sm (of_lens _ _ _).1 (of_lens _ _ _).2) ?_
  simp only [↓SP, SZ, ↓reduceIte, reduceCtorEq, nE, nA, nL, nT, sec_neq, z00, w00, e1, x32, x33, x34, hc31]
  refine hK _ _ ?_
  clear hK K
  refine wpT_seq ?_
  refine wpT_region (by kernel_rfl) (fun K hK => ?_)
  simp only [↓SP, SZ, ↓reduceIte, reduceCtorEq, nE, nA, nL, nT, sec_neq, z00, w00, hc31]
  refine hK _ _ ?_
  clear hK K
  refine wpT_seq ?_
  refine wpT_seq ?_
  refine wpT_region (by kernel_rfl) (fun K hK => ?_)
  simp only [↓SP, SZ, ↓reduceIte, reduceCtorEq, nE, nA, nL, nT, sec_neq, z00, w00, e1, dd, hc31]
  refine Pu.call (c10 exH ex_sm) ?_
  simp only [↓SP, SZ, ↓reduceIte, reduceCtorEq, nE, nA, nL, nT, sec_neq, z00, w00, e1, dd, hc31]
  refine hK _ _ ?_
  clear hK K
  refine wpT_ifF (by simp only [↓SP, SZ, ↓reduceIte, reduceCtorEq, nE, nA, nL, nT, sec_neq, z00, w00, hc31]) ?_
  refine wpT_skip ?_
  refine wpT_seq ?_
  refine wpT_drawn [(0, 3), (1, 3), (6, 9), (7, 9), (13, 16), (14, 16)] mixed (by kernel_rfl) (m := 20) rfl (fun K hK => ?_)
  simp only [↓SP, SZ, ↓reduceIte, reduceCtorEq, nE, nA, nL, nT, sec_neq, z00, w00, decide_true, hc31]
  refine Pu.callD (c31 0 1) ?_
  simp only [↓SP, SZ, ↓reduceIte, reduceCtorEq, nE, nA, nL, nT, sec_neq, z00, w00, decide_true, hc31]
  refine Pu.lentD (c15 [⟨0, 0, [byS 1]⟩] [⟨0, 0, [byS 1]⟩] (by simp) (by simp)) [m + 2 + 10 + 11 + 11 + 11 + 1] (.bool _) (.refl _) (LendL.cons (Lend.sl0 (E := 34) (s := 3) (es := [Wr.av ⟨0, 0, [byS 1]⟩]) (by simp only [↓SP, SZ, ↓reduceIte, reduceCtorEq, nE, nA, nL, nT, sec_neq]) rfl (wrs_okc [⟨0, 0, [byS 1]⟩])) (LendL.cons (.refl _) LendL.nil)) ?_
  simp only [↓SP, SZ, ↓reduceIte, reduceCtorEq, nE, nA, nL, nT, sec_neq, z00, w00, decide_true, hc31]
  refine Pu.callD (c31 1 5) ?_
  simp only [↓SP, SZ, ↓reduceIte, reduceCtorEq, nE, nA, nL, nT, sec_neq, z00, w00, decide_true, hc31]
  refine Pu.lentD (c15 [⟨0, 1, [byS 5]⟩] [⟨0, 1, [byS 5]⟩] (by simp) (by simp)) [m + 2 + 10 + 11 + 11 + 11 + 7] (.bool _) (.refl _) (LendL.cons (Lend.sl0 (E := 34) (s := 3) (es := [Wr.av ⟨0, 1, [byS 5]⟩]) (by simp only [↓SP, SZ, ↓reduceIte, reduceCtorEq, nE, nA, nL, nT, sec_neq]) rfl (wrs_okc [⟨0, 1, [byS 5]⟩])) (LendL.cons (.refl _) LendL.nil)) ?_
  simp only [↓SP, SZ, ↓reduceIte, reduceCtorEq, nE, nA, nL, nT, sec_neq, z00, w00, decide_true, hc31]
  refine Pu.callD (c31 1 4) ?_
  simp only [↓SP, SZ, ↓reduceIte, reduceCtorEq, nE, nA, nL, nT, sec_neq, z00, w00, decide_true, hc31]
  refine Pu.lentD (c15 [⟨0, 1, [byS 4]⟩] [⟨0, 1, [byS 4]⟩] (by simp) (by simp)) [m + 2 + 10 + 11 + 11 + 11 + 14] (.bool _) (.refl _) (LendL.cons (Lend.sl0 (E := 34) (s := 3) (es := [Wr.av ⟨0, 1, [byS 4]⟩]) (by simp only [↓SP, SZ, ↓reduceIte, reduceCtorEq, nE, nA, nL, nT, sec_neq]) rfl (wrs_okc [⟨0, 1, [byS 4]⟩])) (LendL.cons (.refl _) LendL.nil)) ?_
  simp only [↓SP, SZ, ↓reduceIte, reduceCtorEq, nE, nA, nL, nT, sec_neq, z00, w00, decide_true, hc31]
  refine hK _ _ ?_
  clear hK K
  refine wpT_ret ⟨.inr rfl, ?_⟩
  show optK (resA _ _ _ [.tmp 0]) _
  simp only [SRO, ↓SP, SZ, ↓reduceIte, reduceCtorEq, nE, nA, nL, nT, sec_neq, z00, w00, hc31]
  exact .refl _
end Go.Proofs.Ytfdfkmcplhloaaa
end

section
set_option linter.unusedSimpArgs false
set_option linter.unusedVariables false
namespace Go.Proofs.Ytfdfkmcplhloaaa
open Go.Proofs
open Nat renaming reduceEqDiff → nE, reduceAdd → nA, reduceLeDiff → nL, reduceLT → nT
set_option maxRecDepth 10000
theorem few_im {im : List (List Sec)} (e : fewI im = true) : im.length < 4000000 ∧ ∀ l ∈ im, l.length < 4000000 := by
  simp only [fewI, Bool.and_eq_true, decide_eq_true_eq, List.all_eq_true] at e
  exact ⟨by omega, fun l hl => by have := e.2 l hl; omega⟩
def imOk (im : List (List Sec)) : Prop := im.length < 4611686018427387904 ∧ ∀ l ∈ im, l.length < 4611686018427387904
theorem c12 (h : Hist) (im : List (List Sec)) (hs : h.ok) (hi : imOk im) : Pu Try.prog (.fn (.func 12) [] []) [h.av, imgAV im] (B (fewH h && fewI im)) := by
 refine pu_func Try.func12 rfl (by kernel_rfl) (by show _ ≤ 11; simp only [LN]; decide) (by simp only [IDS]) (by simp only [IDS]) (by simp only [IDS]) ?_
 rw [Try.ntmps12]
 refine wpT_seq ?_
 refine wpT_region (by kernel_rfl) (fun K hK => ?_)
 simp only [↓SP, SZ, ↓reduceIte, reduceCtorEq, nE, nA, nL, nT, sec_neq]
 refine hK _ _ ?_
 clear hK K
 refine wpT_seq ?_
 refine wpT_region (by kernel_rfl) (fun K hK => ?_)
 simp only [↓SP, SZ, ↓reduceIte, reduceCtorEq, nE, nA, nL, nT, sec_neq]
 refine Pu.call (c8 h hs) ?_
 simp only [↓SP, SZ, ↓reduceIte, reduceCtorEq, nE, nA, nL, nT, sec_neq]
 refine guardO_split (fun hg7 => ?_) (fun hg7 => ?_)
 ·
  have p7 := hg7
  try simp only [PB] at p7
  simp only [↓SP, SZ, ↓reduceIte, reduceCtorEq, nE, nA, nL, nT, sec_neq, hg7]
  refine Pu.call (c36 im hi.1 hi.2) ?_
  simp only [↓SP, SZ, ↓reduceIte, reduceCtorEq, nE, nA, nL, nT, sec_neq, hg7]
  refine hK _ _ ?_
  clear hK K
  refine wpT_ret ⟨.inr rfl, ?_⟩
  show optK (resA _ _ _ [.tmp 4]) _
  simp only [SRO, ↓SP, SZ, ↓reduceIte, reduceCtorEq, nE, nA, nL, nT, sec_neq, hg7]
  refine Lend.eq ?_
  rfl
 ·
  simp only [Bool.not_true, Bool.not_false] at hg7
  have p7 := hg7
  try simp only [PB] at p7
  simp only [↓SP, SZ, ↓reduceIte, reduceCtorEq, nE, nA, nL, nT, sec_neq, hg7]
  refine hK _ _ ?_
  clear hK K
  refine wpT_ret ⟨.inr rfl, ?_⟩
  show optK (resA _ _ _ [.tmp 4]) _
  simp only [SRO, ↓SP, SZ, ↓reduceIte, reduceCtorEq, nE, nA, nL, nT, sec_neq, hg7]
  refine Lend.eq ?_
  rfl
theorem bool_eql (a b : Bool) : opBinAny Try.prog .eql 4 (B a) (B b) = some (.bool (a == b)) := by kernel_rfl
theorem conW_len (h : Hist) (im : List (List Sec)) : (conW h im).data.length < 2 := by
  unfold conW candW
  split
  · simp [wr0]
  · split
    · simp [Ct.one]
    · simp [wr0]
theorem same1 (w : Wr) (hw : w.data.length < 2) : Pu Try.prog (.fn (.func 15) [] []) [.lst ([w].map Wr.av), .lst ([w].map Wr.av)] (B true) := by
  have := c15 [w] [w] (by simp) (by simp; omega)
  simpa using this
end Go.Proofs.Ytfdfkmcplhloaaa
end

section
set_option linter.unusedSimpArgs false
set_option linter.unusedVariables false
namespace Go.Proofs.Ytfdfkmcplhloaaa
open Go.Proofs
open Nat renaming reduceEqDiff → nE, reduceAdd → nA, reduceLeDiff → nL, reduceLT → nT
set_option maxRecDepth 10000
theorem more_sm {h : Hist} {w : Wr} (hs : fewH h = true) (hw : w.data.length < 4000000) : (h.more w).sm := by
  simp only [fewH, Bool.and_eq_true, decide_eq_true_eq, List.all_eq_true] at hs
  obtain ⟨h1, h2, h3, h4, h5⟩ := hs
  refine ⟨by show h.sizes.length < 4000000; omega, by simp [Hist.more]; omega, by simp [Hist.more]; omega, fun x hx => ?_⟩
  simp only [Hist.more, List.mem_append, List.mem_singleton] at hx
  rcases hx with hx | rfl
  · have := h5 x hx; omega
  · exact hw
/-- What is found does not change. -/
theorem continue_all {h : Hist} {w : Wr} {im : List (List Sec)} (hj : judgeE h im = 0) (hm : histE (h.more w) = 0) (hd : distB (h.more w) = true) (hno : ∀ k : Nat, (hk : k < w.data.length) → imAt im w.vol (w.start + k) ≠ w.data[k]) :
    judgeE (h.more w) im = 0 ∧ findL (h.more w) im = findL h im ∧ findB (h.more w) im = findB h im ∧ conW (h.more w) im = conW h im ∧ conB (h.more w) im = conB h im := by
  obtain ⟨eh, hz, hdh⟩ := judge_ok hj
  obtain ⟨c1, c2, c3⟩ := continue_ eh hno
  have hz2 : sizesOf im = (h.more w).sizes := hz
  have hs : sizesE (sizesOf im) = 0 := by rw [hz]; exact (hist_ok eh).1
  have hj2 : judgeE (h.more w) im = 0 := by rw [judgeE, if_neg (by omega), if_neg (by omega), if_neg (by simp [hz2]), if_pos hd]
  have hcf : confC (h.more w) im = confC h im := by rw [confC, confC, c1, c2, c3]
  refine ⟨hj2, ?_, ?_, ?_, ?_⟩
  · rw [findL, findL, hj, hj2, hcf, c2]
  · rw [findB, findB, hj, hj2, hcf]
  · rw [conW, conW, hj, hj2, candW, candW, hcf]
  · rw [conB, conB, hj, hj2, hcf]
theorem findL_len {h : Hist} {im : List (List Sec)} (hs : h.sm) : (findL h im).length < 4611686018427387904 := by
  have := hs.2.1
  have h2 := selN_length (fun i => decide ((i : Int) ∈ leastC h im)) h.ws.length
  unfold findL
  split
  · simp
  · unfold leastC leastR
    have := selN_length
    refine Nat.lt_of_le_of_lt (selN_length _ _) (by omega)
theorem c6 (h : Hist) (im : List (List Sec)) (w : Wr) (hs : h.ok) (hi : imOk im) (hwo : w.ok) : Pu Try.prog (.fn (.func 6) [] []) [h.av, imgAV im, w.av] (B true) := by
 refine pu_func Try.func6 rfl (by kernel_rfl) (by show _ ≤ 135; simp only [LN]; decide) (by simp only [IDS]) (by simp only [IDS]) (by simp only [IDS]) ?_
 rw [Try.ntmps6]
 refine wpT_seq ?_
 refine wpT_region (by kernel_rfl) (fun K hK => ?_)
 simp only [↓SP, SZ, ↓reduceIte, reduceCtorEq, nE, nA, nL, nT, sec_neq, sec_eql, bool_eql, hist_cs, wr_cs]
 refine hK _ _ ?_
 clear hK K
 refine wpT_seq ?_
 refine wpT_seq ?_
 refine wpT_region (by kernel_rfl) (fun K hK => ?_)
 simp only [↓SP, SZ, ↓reduceIte, reduceCtorEq, nE, nA, nL, nT, sec_neq, sec_eql, bool_eql, hist_cs, wr_cs]
 refine Pu.call (c12 h im hs hi) ?_
 simp only [↓SP, SZ, ↓reduceIte, reduceCtorEq, nE, nA, nL, nT, sec_neq, sec_eql, bool_eql, hist_cs, wr_cs]
 refine guardO_split (fun hg28 => ?_) (fun hg28 => ?_)
 ·
  have p28 := hg28
  try simp only [PB] at p28
  have hf : fewH h = true ∧ fewI im = true := by simpa using p28
  simp only [↓SP, SZ, ↓reduceIte, reduceCtorEq, nE, nA, nL, nT, sec_neq, sec_eql, bool_eql, hist_cs, wr_cs, hg28]
  refine hK _ _ ?_
  clear hK K
  refine wpT_if (by rfl) (fun hc33 => ?_) (fun hc33 => ?_)
  ·
   have p33 := hc33
   try simp only [PB] at p33
   refine wpT_seq ?_
   refine wpT_region (by kernel_rfl) (fun K hK => ?_)
   simp only [↓SP, SZ, ↓reduceIte, reduceCtorEq, nE, nA, nL, nT, sec_neq, sec_eql, bool_eql, hist_cs, wr_cs, hg28, hc33]
   refine Pu.call awakeF ?_
   simp only [↓SP, SZ, ↓reduceIte, reduceCtorEq, nE, nA, nL, nT, sec_neq, sec_eql, bool_eql, hist_cs, wr_cs, hg28, hc33]
   refine hK _ _ ?_
   clear hK K
   refine wpT_ret ⟨.inr rfl, ?_⟩
   show optK (resA _ _ _ [.tmp 6]) _
   simp only [SRO, ↓SP, SZ, ↓reduceIte, reduceCtorEq, nE, nA, nL, nT, sec_neq, sec_eql, bool_eql, hist_cs, wr_cs, hg28, hc33]
   exact .refl _
  ·
   have p33 := hc33
   try simp only [PB] at p33
   have hsm := few_sm hf.1
   obtain ⟨hl, hm⟩ := few_im hf.2
   have hw24 : w.data.length ≤ 24 := by omega
   refine wpT_skip ?_
   refine wpT_seq ?_
   refine wpT_region (by kernel_rfl) (fun K hK => ?_)
   simp only [↓SP, SZ, ↓reduceIte, reduceCtorEq, nE, nA, nL, nT, sec_neq, sec_eql, bool_eql, hist_cs, wr_cs, hg28, hc33]
   refine Pu.call (c19 h w hsm (by omega)) ?_
   simp only [↓SP, SZ, ↓reduceIte, reduceCtorEq, nE, nA, nL, nT, sec_neq, sec_eql, bool_eql, hist_cs, wr_cs, hg28, hc33]
   refine hK _ _ ?_
   clear hK K
   refine wpT_seq ?_
   refine wpT_seq ?_
   refine wpT_region (by kernel_rfl) (fun K hK => ?_)
   simp only [↓SP, SZ, ↓reduceIte, reduceCtorEq, nE, nA, nL, nT, sec_neq, sec_eql, bool_eql, hist_cs, wr_cs, hg28, hc33]
   refine guardO_split (fun hg44 => ?_) (fun hg44 => ?_)
   ·
    have p44 := hg44
    try simp only [PB] at p44
    have hie : issueE h w = 0 := by simpa using p44
    have hir : issueR h w = h.more w := if_neg (by omega)
    have hms := more_sm (w := w) hf.1 (by omega)
    simp only [↓SP, SZ, ↓reduceIte, reduceCtorEq, nE, nA, nL, nT, sec_neq, sec_eql, bool_eql, hist_cs, wr_cs, hg28, hc33, hir, hg44]
    refine Pu.call (c10 (h.more w) hms) ?_
    simp only [↓SP, SZ, ↓reduceIte, reduceCtorEq, nE, nA, nL, nT, sec_neq, sec_eql, bool_eql, hist_cs, wr_cs, hg28, hc33, hir, hg44]
    refine hK _ _ ?_
    clear hK K
    refine wpT_if (by rfl) (fun hc48 => ?_) (fun hc48 => ?_)
    ·
     have p48 := hc48
     try simp only [PB] at p48
     refine wpT_seq ?_
     refine wpT_region (by kernel_rfl) (fun K hK => ?_)
     simp only [↓SP, SZ, ↓reduceIte, reduceCtorEq, nE, nA, nL, nT, sec_neq, sec_eql, bool_eql, hist_cs, wr_cs, hg28, hc33, hir, hg44, hc48]
     refine Pu.call awakeF ?_
     simp only [↓SP, SZ, ↓reduceIte, reduceCtorEq, nE, nA, nL, nT, sec_neq, sec_eql, bool_eql, hist_cs, wr_cs, hg28, hc33, hir, hg44, hc48]
     refine hK _ _ ?_
     clear hK K
     refine wpT_ret ⟨.inr rfl, ?_⟩
     show optK (resA _ _ _ [.tmp 6]) _
     simp only [SRO, ↓SP, SZ, ↓reduceIte, reduceCtorEq, nE, nA, nL, nT, sec_neq, sec_eql, bool_eql, hist_cs, wr_cs, hg28, hc33, hir, hg44, hc48]
     exact .refl _
    ·
     have p48 := hc48
     try simp only [PB] at p48
     have hdm : histE (h.more w) = 0 ∧ distB (h.more w) = true := by simpa using p48
     refine wpT_skip ?_
     refine wpT_seq ?_
     refine wpT_region (by kernel_rfl) (fun K hK => ?_)
     simp only [↓SP, SZ, ↓reduceIte, reduceCtorEq, nE, nA, nL, nT, sec_neq, sec_eql, bool_eql, hist_cs, wr_cs, hg28, hc33, hir, hg44, hc48]
     refine Pu.call (c16 h im hsm hl hm) ?_
     simp only [↓SP, SZ, ↓reduceIte, reduceCtorEq, nE, nA, nL, nT, sec_neq, sec_eql, bool_eql, hist_cs, wr_cs, hg28, hc33, hir, hg44, hc48]
     refine hK _ _ ?_
     clear hK K
     refine wpT_seq ?_
     refine wpT_seq ?_
     refine wpT_region (by kernel_rfl) (fun K hK => ?_)
     simp only [↓SP, SZ, ↓reduceIte, reduceCtorEq, nE, nA, nL, nT, sec_neq, sec_eql, bool_eql, hist_cs, wr_cs, hg28, hc33, hir, hg44, hc48]
     refine hK _ _ ?_
     clear hK K
     refine wpT_if (by rfl) (fun hc58 => ?_) (fun hc58 => ?_)
     ·
      have p58 := hc58
      try simp only [PB] at p58
      refine wpT_seq ?_
      refine wpT_region (by kernel_rfl) (fun K hK => ?_)
      simp only [↓SP, SZ, ↓reduceIte, reduceCtorEq, nE, nA, nL, nT, sec_neq, sec_eql, bool_eql, hist_cs, wr_cs, hg28, hc33, hir, hg44, hc48, hc58]
      refine Pu.call awakeF ?_
      simp only [↓SP, SZ, ↓reduceIte, reduceCtorEq, nE, nA, nL, nT, sec_neq, sec_eql, bool_eql, hist_cs, wr_cs, hg28, hc33, hir, hg44, hc48, hc58]
      refine hK _ _ ?_
      clear hK K
      refine wpT_ret ⟨.inr rfl, ?_⟩
      show optK (resA _ _ _ [.tmp 6]) _
      simp only [SRO, ↓SP, SZ, ↓reduceIte, reduceCtorEq, nE, nA, nL, nT, sec_neq, sec_eql, bool_eql, hist_cs, wr_cs, hg28, hc33, hir, hg44, hc48, hc58]
      exact .refl _
     ·
      have p58 := hc58
      try simp only [PB] at p58
      have hj : judgeE h im = 0 := by simpa using p58
      obtain ⟨eh, hz, hdh⟩ := judge_ok hj
      have hfe : fitsE h.sizes w = 0 := by
        unfold issueE at hie
        rw [if_neg (by omega)] at hie
        split at hie
        · simp at hie
        · exact hie
      obtain ⟨k1, k2, k3, k4, k5⟩ := fitsE_ok hfe
      obtain ⟨v, hv⟩ := Int.eq_ofNat_of_zero_le k1
      obtain ⟨s, hs'⟩ := Int.eq_ofNat_of_zero_le k4
      have hlz : (sizesOf im).length = im.length := by simp [sizesOf]
      have hvl : v < im.length := by rw [← hlz, hz]; omega
      have hgv := at_map (f := fun l : List Sec => AV.lst (l.map Sec.av)) hvl
      have hsz : h.sizes.getD w.vol.toNat 0 = (im[v].length : Int) := by
        rw [← hz, hv, Int.toNat_natCast]
        simp [sizesOf, List.getD_eq_getElem?_getD, hvl]
      have hvm := hm _ (List.getElem_mem hvl)
      refine wpT_skip ?_
      refine wpT_seq ?_
      refine wpT_seq ?_
      refine wpT_region (by kernel_rfl) (fun K hK => ?_)
      simp only [↓SP, SZ, ↓reduceIte, reduceCtorEq, nE, nA, nL, nT, sec_neq, sec_eql, bool_eql, hist_cs, wr_cs, hg28, hc33, hir, hg44, hc48, hc58]
      refine hK _ _ ?_
      clear hK K
      refine wpT_block ?_
      refine wpT_loop ?_
      refine wpT_keep3 (i := 0) (j := 1) (k := 2) (o := .arr 26 3 [h.av]) (q := .arr 34 3 [w.av]) (r := .arr 26 3 [(h.more w).av]) (by simp only [↓SP, SZ, ↓reduceIte, reduceCtorEq, nE, nA, nL, nT, sec_neq, sec_eql, bool_eql]) (by simp only [↓SP, SZ, ↓reduceIte, reduceCtorEq, nE, nA, nL, nT, sec_neq, sec_eql, bool_eql]) (by simp only [↓SP, SZ, ↓reduceIte, reduceCtorEq, nE, nA, nL, nT, sec_neq, sec_eql, bool_eql, hir]) ?_
      refine wpT_ind (fun (k : Nat) tm' h' => (∃ m, 3 ≤ m ∧ h' = Hp.of [(0, .arr 26 3 [h.av]), (1, .arr 34 3 [w.av]), (2, .arr 26 3 [(h.more w).av])] m) ∧ tm' 1 = imgAV im ∧ tm' 3 = .ptr 0 1 0 0 ∧ tm' 5 = .ptr 1 1 0 0 ∧ tm' 6 = .bool false ∧ tm' 7 = .ptr 2 1 0 0 ∧ tm' 10 = .lst ((findL h im).map I) ∧ tm' 11 = B (findB h im) ∧ tm' 61 = .lst (w.data.map Sec.av) ∧ tm' 62 = I w.data.length ∧ tm' 63 = I k ∧ k ≤ w.data.length ∧ ∀ j : Nat, (hj : j < k) → (hj2 : j < w.data.length) → imAt im w.vol (w.start + j) ≠ w.data[j]) (fun k => w.data.length - k) ?_ 0 ⟨⟨_, by simp only [↓SP, SZ, ↓reduceIte, reduceCtorEq, nE, nA, nL, nT, sec_neq, sec_eql, bool_eql], rfl⟩, by simp only [↓SP, SZ, ↓reduceIte, reduceCtorEq, nE, nA, nL, nT, sec_neq, sec_eql, bool_eql], by simp only [↓SP, SZ, ↓reduceIte, reduceCtorEq, nE, nA, nL, nT, sec_neq, sec_eql, bool_eql], by simp only [↓SP, SZ, ↓reduceIte, reduceCtorEq, nE, nA, nL, nT, sec_neq, sec_eql, bool_eql], by simp only [↓SP, SZ, ↓reduceIte, reduceCtorEq, nE, nA, nL, nT, sec_neq, sec_eql, bool_eql], by simp only [↓SP, SZ, ↓reduceIte, reduceCtorEq, nE, nA, nL, nT, sec_neq, sec_eql, bool_eql], by simp only [↓SP, SZ, ↓reduceIte, reduceCtorEq, nE, nA, nL, nT, sec_neq, sec_eql, bool_eql], by simp only [↓SP, SZ, ↓reduceIte, reduceCtorEq, nE, nA, nL, nT, sec_neq, sec_eql, bool_eql], by simp only [↓SP, SZ, ↓reduceIte, reduceCtorEq, nE, nA, nL, nT, sec_neq, sec_eql, bool_eql], by simp only [↓SP, SZ, ↓reduceIte, reduceCtorEq, nE, nA, nL, nT, sec_neq, sec_eql, bool_eql], rfl, by omega, fun j hj => absurd hj (by omega)⟩
      rintro k tm' _ ⟨⟨m, hm3, rfl⟩, e1, e3, e5, e6, e7, e10, e11, e61, e62, e63, hk, hnoe⟩ IH
      refine wpT_inLoop ?_
      refine wpT_seq ?_
      refine wpT_region (by kernel_rfl) (fun K hK => ?_)
      simp only [↓SP, SZ, ↓reduceIte, reduceCtorEq, nE, nA, nL, nT, sec_neq, sec_eql, bool_eql, hist_cs, wr_cs, e62, e63]
      refine hK _ _ ?_
      clear hK K
      refine wpT_seq ?_
      refine wpT_if (by rfl) (fun hc64 => ?_) (fun hc64 => ?_)
      ·
       have p64 := hc64
       try simp only [PB] at p64
       have hlt : k < w.data.length := by omega
       have hg := at_map (f := Sec.av) hlt
       have hk2 : s + k < im[v].length := by omega
       have hgk := at_map (f := Sec.av) hk2
       have hadd : IntKind.i64.wrap ((s : Int) + (k : Int)) = ((s + k : Nat) : Int) := by rw [wrap64 (by omega) (by omega)]; omega
       have hia : imAt im w.vol (w.start + k) = im[v][s + k] := by
         rw [hv, hs', show (s : Int) + (k : Int) = ((s + k : Nat) : Int) by omega]
         rw [imAt, Int.toNat_natCast, Int.toNat_natCast]
         simp [hvl, hk2]
       have m0 : (0 = m) = False := by simp; omega
       have m1 : (1 = m) = False := by simp; omega
       have m2 : (2 = m) = False := by simp; omega
       refine wpT_skip ?_
       refine wpT_seq ?_
       refine wpT_block ?_
       refine wpT_seq ?_
       refine wpT_region (by kernel_rfl) (fun K hK => ?_)
       simp only [↓SP, SZ, ↓reduceIte, reduceCtorEq, nE, nA, nL, nT, sec_neq, sec_eql, bool_eql, hist_cs, wr_cs, e63, e61, hg, hc64]
       refine hK _ _ ?_
       clear hK K
       refine wpT_seq ?_
       refine wpT_drawn [] mixed (by kernel_rfl) (m := 13) rfl (fun K hK => ?_)
       simp only [↓SP, SZ, ↓reduceIte, reduceCtorEq, nE, nA, nL, nT, sec_neq, sec_eql, bool_eql, hist_cs, wr_cs, m0, m1, m2, e1, e5, e63, imgAV, hv, hs', hgv, hadd, hgk, Wr.av, hc64]
       refine hK _ _ ?_
       clear hK K
       refine wpT_if (by rfl) (fun hc80 => ?_) (fun hc80 => ?_)
       ·
        have p80 := hc80
        try simp only [PB] at p80
        refine wpT_seq ?_
        refine wpT_region (by kernel_rfl) (fun K hK => ?_)
        simp only [↓SP, SZ, ↓reduceIte, reduceCtorEq, nE, nA, nL, nT, sec_neq, sec_eql, bool_eql, hist_cs, wr_cs, hc64, hc80]
        refine Pu.call awakeF ?_
        simp only [↓SP, SZ, ↓reduceIte, reduceCtorEq, nE, nA, nL, nT, sec_neq, sec_eql, bool_eql, hist_cs, wr_cs, hc64, hc80]
        refine hK _ _ ?_
        clear hK K
        refine wpT_ret ⟨.inr rfl, ?_⟩
        show optK (resA _ _ _ [.tmp 6]) _
        simp only [SRO, ↓SP, SZ, ↓reduceIte, reduceCtorEq, nE, nA, nL, nT, sec_neq, sec_eql, bool_eql, hist_cs, wr_cs, hc64, hc80]
        exact .refl _
       ·
        have p80 := hc80
        try simp only [PB] at p80
        refine wpT_skip ?_
        refine wpT_inBlock ?_
        refine wpT_region (by kernel_rfl) (fun K hK => ?_)
        simp only [↓SP, SZ, ↓reduceIte, reduceCtorEq, nE, nA, nL, nT, sec_neq, sec_eql, bool_eql, hist_cs, wr_cs, e63, wrap64 (x := (k : Int) + 1) (by omega) (by omega), hc64, hc80]
        refine hK _ _ ?_
        clear hK K
        refine wpT_keep3 (i := 0) (j := 1) (k := 2) (o := .arr 26 3 [h.av]) (q := .arr 34 3 [w.av]) (r := .arr 26 3 [(h.more w).av]) (by simp only [↓SP, SZ, ↓reduceIte, reduceCtorEq, nE, nA, nL, nT, sec_neq, sec_eql, bool_eql, m0]) (by simp only [↓SP, SZ, ↓reduceIte, reduceCtorEq, nE, nA, nL, nT, sec_neq, sec_eql, bool_eql, m1, Wr.av, hv, hs']) (by simp only [↓SP, SZ, ↓reduceIte, reduceCtorEq, nE, nA, nL, nT, sec_neq, sec_eql, bool_eql, m2]) ?_
        refine IH (k + 1) _ _ (by omega) ⟨⟨_, by first | (simp only [↓SP, SZ, ↓reduceIte, reduceCtorEq, nE, nA, nL, nT, sec_neq, sec_eql, bool_eql]; done) | (simp only [↓SP, SZ, ↓reduceIte, reduceCtorEq, nE, nA, nL, nT, sec_neq, sec_eql, bool_eql]; omega), rfl⟩, by simp only [↓SP, SZ, ↓reduceIte, reduceCtorEq, nE, nA, nL, nT, sec_neq, sec_eql, bool_eql, e1], by simp only [↓SP, SZ, ↓reduceIte, reduceCtorEq, nE, nA, nL, nT, sec_neq, sec_eql, bool_eql, e3], by simp only [↓SP, SZ, ↓reduceIte, reduceCtorEq, nE, nA, nL, nT, sec_neq, sec_eql, bool_eql, e5], by simp only [↓SP, SZ, ↓reduceIte, reduceCtorEq, nE, nA, nL, nT, sec_neq, sec_eql, bool_eql, e6], by simp only [↓SP, SZ, ↓reduceIte, reduceCtorEq, nE, nA, nL, nT, sec_neq, sec_eql, bool_eql, e7], by simp only [↓SP, SZ, ↓reduceIte, reduceCtorEq, nE, nA, nL, nT, sec_neq, sec_eql, bool_eql, e10], by simp only [↓SP, SZ, ↓reduceIte, reduceCtorEq, nE, nA, nL, nT, sec_neq, sec_eql, bool_eql, e11], by simp only [↓SP, SZ, ↓reduceIte, reduceCtorEq, nE, nA, nL, nT, sec_neq, sec_eql, bool_eql, e61], by simp only [↓SP, SZ, ↓reduceIte, reduceCtorEq, nE, nA, nL, nT, sec_neq, sec_eql, bool_eql, e62], by simp only [↓SP, SZ, ↓reduceIte, reduceCtorEq, nE, nA, nL, nT, sec_neq, sec_eql, bool_eql, Int.natCast_add, Int.cast_ofNat_Int], by omega, fun j hj hj2 => ?_⟩
        rcases Nat.lt_or_ge j k with h1 | h1
        · exact hnoe j h1 hj2
        · obtain rfl : j = k := by omega
          rw [hia]; exact fun h => p80 h
      ·
       have p64 := hc64
       try simp only [PB] at p64
       obtain ⟨a1, a2, a3, a4, a5⟩ := continue_all hj hdm.1 hdm.2 (fun k hk2 => hnoe k (by omega) hk2)
       have m0 : (0 = m) = False := by simp; omega
       have m1 : (1 = m) = False := by simp; omega
       have m2 : (2 = m) = False := by simp; omega
       refine wpT_exit rfl ?_
       refine wpT_seq ?_
       refine wpT_region (by kernel_rfl) (fun K hK => ?_)
       simp only [↓SP, SZ, ↓reduceIte, reduceCtorEq, nE, nA, nL, nT, sec_neq, sec_eql, bool_eql, hist_cs, wr_cs, m0, m1, m2, e1, e7, e10, e11, hc64]
       refine Pu.call (c16 (h.more w) im hms hl hm) ?_
       simp only [↓SP, SZ, ↓reduceIte, reduceCtorEq, nE, nA, nL, nT, sec_neq, sec_eql, bool_eql, hist_cs, wr_cs, m0, m1, m2, e1, e7, e10, e11, hc64]
       refine hK _ _ ?_
       clear hK K
       refine wpT_seq ?_
       refine wpT_region (by kernel_rfl) (fun K hK => ?_)
       simp only [↓SP, SZ, ↓reduceIte, reduceCtorEq, nE, nA, nL, nT, sec_neq, sec_eql, bool_eql, hist_cs, wr_cs, m0, m1, m2, e1, e3, e7, e10, e11, hc64]
       refine Pu.call (c13 h im hsm hl hm) ?_
       simp only [↓SP, SZ, ↓reduceIte, reduceCtorEq, nE, nA, nL, nT, sec_neq, sec_eql, bool_eql, hist_cs, wr_cs, m0, m1, m2, e1, e3, e7, e10, e11, hc64]
       refine hK _ _ ?_
       clear hK K
       refine wpT_seq ?_
       refine wpT_region (by kernel_rfl) (fun K hK => ?_)
       simp only [↓SP, SZ, ↓reduceIte, reduceCtorEq, nE, nA, nL, nT, sec_neq, sec_eql, bool_eql, hist_cs, wr_cs, m0, m1, m2, e1, e3, e7, e10, e11, hc64]
       refine Pu.call (c13 (h.more w) im hms hl hm) ?_
       simp only [↓SP, SZ, ↓reduceIte, reduceCtorEq, nE, nA, nL, nT, sec_neq, sec_eql, bool_eql, hist_cs, wr_cs, m0, m1, m2, e1, e3, e7, e10, e11, hc64]
       refine hK _ _ ?_
       clear hK K
       refine wpT_seq ?_
       refine wpT_region (by kernel_rfl) (fun K hK => ?_)
       simp only [↓SP, SZ, ↓reduceIte, reduceCtorEq, nE, nA, nL, nT, sec_neq, sec_eql, bool_eql, hist_cs, wr_cs, m0, m1, m2, e1, e3, e7, e10, e11, hj, a1, a2, a3, a4, a5, z00, w00, hc64]
       refine Pu.call (c20 (findL h im) (findL h im) (findL_len hsm)) ?_
       simp only [↓SP, SZ, ↓reduceIte, reduceCtorEq, nE, nA, nL, nT, sec_neq, sec_eql, bool_eql, hist_cs, wr_cs, m0, m1, m2, e1, e3, e7, e10, e11, hj, a1, a2, a3, a4, a5, z00, w00, hc64]
       refine Pu.lent (same1 (conW h im) (conW_len h im)) (.bool _) (.refl _) (LendL.cons (Lend.sl0 (E := 34) (s := 3) (es := [(conW h im).av]) (by simp only [↓SP, SZ, ↓reduceIte, reduceCtorEq, nE, nA, nL, nT, sec_neq, sec_eql, bool_eql, m0, m1, m2]) rfl (wrs_okc [conW h im])) (LendL.cons (Lend.sl0 (E := 34) (s := 3) (es := [(conW h im).av]) (by simp only [↓SP, SZ, ↓reduceIte, reduceCtorEq, nE, nA, nL, nT, sec_neq, sec_eql, bool_eql, m0, m1, m2]) rfl (wrs_okc [conW h im])) LendL.nil)) ?_
       simp only [↓SP, SZ, ↓reduceIte, reduceCtorEq, nE, nA, nL, nT, sec_neq, sec_eql, bool_eql, hist_cs, wr_cs, m0, m1, m2, e1, e3, e7, e10, e11, hj, a1, a2, a3, a4, a5, z00, w00, hc64]
       refine Pu.call awakeF ?_
       simp only [↓SP, SZ, ↓reduceIte, reduceCtorEq, nE, nA, nL, nT, sec_neq, sec_eql, bool_eql, hist_cs, wr_cs, m0, m1, m2, e1, e3, e7, e10, e11, hj, a1, a2, a3, a4, a5, z00, w00, hc64]
       refine hK _ _ ?_
       clear hK K
       refine wpT_ret ⟨.inr rfl, ?_⟩
       show optK (resA _ _ _ [.tmp 6]) _
       simp only [SRO, ↓SP, SZ, ↓reduceIte, reduceCtorEq, nE, nA, nL, nT, sec_neq, sec_eql, bool_eql, hist_cs, wr_cs, hc64]
       exact .refl _
   ·
    simp only [Bool.not_true, Bool.not_false] at hg44
    have p44 := hg44
    try simp only [PB] at p44
    simp only [↓SP, SZ, ↓reduceIte, reduceCtorEq, nE, nA, nL, nT, sec_neq, sec_eql, bool_eql, hist_cs, wr_cs, hg28, hc33, hg44]
    refine hK _ _ ?_
    clear hK K
    refine wpT_ifT (by simp only [↓SP, SZ, ↓reduceIte, reduceCtorEq, nE, nA, nL, nT, sec_neq, sec_eql, bool_eql, hist_cs, wr_cs, hg28, hc33, hg44]) ?_
    refine wpT_seq ?_
    refine wpT_region (by kernel_rfl) (fun K hK => ?_)
    simp only [↓SP, SZ, ↓reduceIte, reduceCtorEq, nE, nA, nL, nT, sec_neq, sec_eql, bool_eql, hist_cs, wr_cs, hg28, hc33, hg44]
    refine Pu.call awakeF ?_
    simp only [↓SP, SZ, ↓reduceIte, reduceCtorEq, nE, nA, nL, nT, sec_neq, sec_eql, bool_eql, hist_cs, wr_cs, hg28, hc33, hg44]
    refine hK _ _ ?_
    clear hK K
    refine wpT_ret ⟨.inr rfl, ?_⟩
    show optK (resA _ _ _ [.tmp 6]) _
    simp only [SRO, ↓SP, SZ, ↓reduceIte, reduceCtorEq, nE, nA, nL, nT, sec_neq, sec_eql, bool_eql, hist_cs, wr_cs, hg28, hc33, hg44]
    exact .refl _
 ·
  simp only [Bool.not_true, Bool.not_false] at hg28
  have p28 := hg28
  try simp only [PB] at p28
  simp only [↓SP, SZ, ↓reduceIte, reduceCtorEq, nE, nA, nL, nT, sec_neq, sec_eql, bool_eql, hist_cs, wr_cs, hg28]
  refine hK _ _ ?_
  clear hK K
  refine wpT_ifT (by simp only [↓SP, SZ, ↓reduceIte, reduceCtorEq, nE, nA, nL, nT, sec_neq, sec_eql, bool_eql, hist_cs, wr_cs, hg28]) ?_
  refine wpT_seq ?_
  refine wpT_region (by kernel_rfl) (fun K hK => ?_)
  simp only [↓SP, SZ, ↓reduceIte, reduceCtorEq, nE, nA, nL, nT, sec_neq, sec_eql, bool_eql, hist_cs, wr_cs, hg28]
  refine Pu.call awakeF ?_
  simp only [↓SP, SZ, ↓reduceIte, reduceCtorEq, nE, nA, nL, nT, sec_neq, sec_eql, bool_eql, hist_cs, wr_cs, hg28]
  refine hK _ _ ?_
  clear hK K
  refine wpT_ret ⟨.inr rfl, ?_⟩
  show optK (resA _ _ _ [.tmp 6]) _
  simp only [SRO, ↓SP, SZ, ↓reduceIte, reduceCtorEq, nE, nA, nL, nT, sec_neq, sec_eql, bool_eql, hist_cs, wr_cs, hg28]
  exact .refl _
end Go.Proofs.Ytfdfkmcplhloaaa
end

section
set_option linter.unusedSimpArgs false
set_option linter.unusedVariables false
namespace Go.Proofs.Ytfdfkmcplhloaaa
open Go.Proofs
open Nat renaming reduceEqDiff → nE, reduceAdd → nA, reduceLeDiff → nL, reduceLT → nT
set_option maxRecDepth 10000
def inB (set : List Int) (i : Nat) : Bool := decide ((i : Int) ∈ set)
end Go.Proofs.Ytfdfkmcplhloaaa
end

section
set_option linter.unusedSimpArgs false
set_option linter.unusedVariables false
namespace Go.Proofs.Ytfdfkmcplhloaaa
open Go.Proofs
open Go.ChangeShapes Go.WideShapes Go.ChangeAt Go.RowKit
theorem fm_own : ownKnob Try.prog.godebug = none := by kernel_rfl
theorem fm_laid : laidOutB Try.prog = true := by kernel_rfl
theorem frozen_of_heap {W W' : World} (h : ∀ i, i < W.heap.size → W'.heap[i]? = W.heap[i]?) : ∀ a : Addr, a.block < W.heap.size → W'.frozen? a = W.frozen? a := fun a ha => by
  unfold World.frozen?
  rw [h _ ha]
theorem consistencyContinues_types : ∀ t ∈ [26, 30, 34], Try.prog.readableRec t = true ∧ t < Try.prog.types.size := by
  intro t ht
  simp only [List.mem_cons, List.not_mem_nil, or_false] at ht
  rcases ht with rfl | rfl | rfl <;> exact ⟨by kernel_rfl, of_decide_eq_true (by kernel_rfl)⟩
set_option maxRecDepth 100000 in
theorem consistencyContinues_contract (H : Type) (enc : TypeId × Value → H) (W : World) (base : Nat) (args : Array Value) (ds gs : List (DataW H)) (before : List MemPlace)
    (hval : ∀ (j : Nat) t v, Try.f6.params[j]? = some t → args[j]? = some v → Value.okWide Try.prog W .any base t v)
    (hW : DataW.Whole enc Try.prog Try.f6.params.toList Rows.consistencyContinuesSpec.vars false W args.toList ds gs before)
    (hz : (DataW.weightsEach Try.prog (Try.f6.params.toList ++ Rows.consistencyContinuesSpec.plain.varTypes Try.prog) (ds ++ gs)).all (· ≤ reachBytes) = true) :
    Calls Try.prog 6 args W fun e W' => ∃ v, e = .returned v ∧ Rows.consistencyContinuesSpec.post enc Try.prog Try.f6 false true false false W args v W' := by
  have hW' := hW
  have hlt := hW.lt
  obtain ⟨p, q, hA0, hV, rfl, hfz, hnd⟩ := hW
  have hA : DataW.TrodAll enc Try.prog W 0 (fun _ => true) true Try.f6.params.toList args.toList ds p := hA0
  rw [Try.params6] at hA hval hz
  have hAs := hA
  obtain ⟨v0, vs0, d0, ds0, p0, q0, hargs, rfl, rfl, h0, r0⟩ := trodAll_cons hA
  obtain ⟨v1, vs1, d1, ds1, p1, q1, rfl, rfl, rfl, h1, r1⟩ := trodAll_cons r0
  obtain ⟨v2, vs2, d2, ds2, p2, q2, rfl, rfl, rfl, h2, r2⟩ := trodAll_cons r1
  obtain ⟨rfl, rfl, rfl⟩ := trodAll_nil r2
  obtain rfl : args = #[v0, v1, v2] := by cases args; simp_all
  obtain ⟨rfl, rfl⟩ := trodVars_none hV
  have hw0 : ∀ n ∈ d0.weights Try.prog 26, n ≤ reachBytes := fun n hn => by simpa using List.all_eq_true.1 hz n (DataW.weights_mem_each (j := 0) rfl rfl n hn)
  have hw1 : ∀ n ∈ d1.weights Try.prog 30, n ≤ reachBytes := fun n hn => by simpa using List.all_eq_true.1 hz n (DataW.weights_mem_each (j := 1) rfl rfl n hn)
  have hw2 : ∀ n ∈ d2.weights Try.prog 34, n ≤ reachBytes := fun n hn => by simpa using List.all_eq_true.1 hz n (DataW.weights_mem_each (j := 2) rfl rfl n hn)
  obtain ⟨a0, g0, r0'⟩ := dec_agg dec_hist (fun a => ⟨_, rfl⟩) (agg_of_wide Try.underlying26 (hval 0 _ v0 rfl rfl)) h0 hw0
  obtain ⟨a1, g1, r1'⟩ := dec_one dec_img (fun a => rfl) (one_of_wide Try.underlying30 (hval 1 _ v1 rfl rfl)) h1 hw1
  obtain ⟨a2, g2, r2'⟩ := dec_agg dec_wr (fun a => ⟨_, rfl⟩) (agg_of_wide Try.underlying34 (hval 2 _ v2 rfl rfl)) h2 hw2
  have hc := calls_of_pu (W := W) (cargs := #[v0, v1, v2]) (c6 a0 a1 a2 g0 ⟨g1.1, fun l hl => (g1.2 l hl).1⟩ g2) Try.func6 rfl (by kernel_rfl) ((VRelL.one r0').cons1 ((VRelL.one r1').cons1 (VRelL.one r2')))
  refine hc.mono fun e W' ⟨he, k1, k2, k3, k4⟩ => ?_
  subst he
  refine ⟨_, rfl, post_of_kept (pa := (p0 ++ (p1 ++ (p2 ++ [])))) (pv := []) hW' (fun _ _ _ => trodAll_cons_mk (shut_bool Try.underlying4 _) trodAll_mk0) (fun sp hs => ?_) (fun _ _ => rfl) (by simp) (keptBut_of_heap k1 k2 k4) (frozen_of_heap k4) (ok_one (by kernel_rfl) rfl (okWide_bool_mk Try.underlying4 _))⟩
  exact trodAll_stays fm_laid k3 k4 consistencyContinues_types (fun x hx => hlt x (by simpa using hx)) (fun x hx => hs x (by simpa using hx)) hAs
set_option maxRecDepth 100000 in
theorem consistencyContinues_lifted (os : Os) (started : os.Started) (H : Type) (enc : TypeId × Value → H) :
    ReturnsInHanded {} Try.checked os 6 .any (Rows.consistencyContinuesSpec.pre6 enc Try.prog Try.f6 Rows.consistencyContinuesRow.domain false) (Rows.consistencyContinuesSpec.post enc Try.prog Try.f6 false true false false) := by
  refine returnsInHanded_of_change_sized (C := Try.checked) fm_own started (by kernel_rfl) Try.func6
    (ChangeSpec.witness6 (enc := enc) (C := Try.checked) false ⟨#[], #[.agg #[.slice none 0 0, .slice none 0 0, .slice none 0 0], .slice none 0 0, .agg #[.int .i64 0, .int .i64 0, .slice none 0 0]], []⟩ 8 (by kernel_rfl) (by kernel_rfl) (by kernel_rfl) (by kernel_rfl)) ?_
  intro W base args ds gs before hval hW _ hsz _
  exact consistencyContinues_contract H enc W base args ds gs before hval hW hsz
theorem consistencyContinues_holds : Rows.ConsistencyContinuesSaid :=
  OpenClaim.holds_of_wide 6 Try.f6 rfl rfl rfl rfl rfl rfl rfl ⟨rfl, rfl, rfl, rfl, rfl⟩ rfl rfl rfl rfl rfl (by kernel_rfl) Try.func6 (by kernel_rfl)
    (of_decide_eq_true (by kernel_rfl)) (by unfold Func.isWrapper; first | (rw [if_pos (by decide +kernel)]; kernel_rfl) | (rw [if_neg (by decide +kernel)]; exact ⟨rfl, rfl⟩))
    (fun os started H enc _ => consistencyContinues_lifted os started H enc)
end Go.Proofs.Ytfdfkmcplhloaaa
end
