/- The abstract logic, part 17: regions that are carried out in any order: one walk in the text's order is enough. Own work; over whatever program P.
  The abstract logic, part 18: the words by which simp carries out regions in any order, and calls. Own work; over whatever program P.
  The abstract logic, part 19: the words by which simp reads types, memory and indices. Own work; over whatever program P.
  The abstract logic, part 20: the words in packs. Own work; over whatever program P.
  The abstract logic, part 21: nil slices that become ours, slices compared with nil. Own work; over whatever program P.
  The abstract logic, part 22: ranges over functions: the loop's record as an owned object, the statement, a round. Own work; over whatever program P.
  The abstract logic, part 23: regions in any order whose last operations come in a chain behind all others: the chain is walked in the text's order, with calls of whatever kind. Own work; over whatever program P.
  The abstract logic, part 24: from what a row reads to abstract values, from a contract to what a row asks behind the call. Own work; over whatever program P.
  The abstract logic, part 25: maps whose keys are encodings. Own work; over whatever program P.
  The abstract logic, part 26: a call that is proved on a small heap of its own numbers holds on every heap that has these objects under other numbers. Own work; over whatever program P.
  The abstract logic, part 27: a range over a function whose code has names. Own work; over whatever program P.
  The abstract logic, part 28: an owned array, kept in a part of an object, is lent for good. Own work; over whatever program P. -/
import Derived.Test.YtfdfkmcplhloaaaGreatB2
import Derived.WideKeyArgs
import Derived.ChangeSame
import Derived.WalkKit
import Derived.ProofKit
import Derived.OpenShut
import Derived.JoinedCond
import Derived.SizedLaws
section
set_option linter.unusedSimpArgs false
set_option linter.unusedVariables false
namespace Go.Proofs.YtfdfkmcplhloaaaGreat

/-! ### What is looked up in the region's text -/
def afterOns (o : Oper) : List Nat := (o.after.toList.filter (Region.binds .any)).map (·.on)
def befs (ops : List Oper) : List Nat := ops.foldl (fun acc o => acc ++ [(afterOns o).foldl (fun m j => m ||| (1 <<< j) ||| acc.getD j 0) 0]) []
def bef (B : List Nat) (i j : Nat) : Bool := (B.getD i 0).testBit j
def each (ops : List Oper) (f : Nat → Oper → Bool) : Bool := (List.range ops.length).all fun i => match ops[i]? with | some o => f i o | none => true
def pairOk (a b : Oper) : Bool := (wkOp a.op && (wkOp b.op || rkOp b.op)) || (rkOp a.op && wkOp b.op)
def drawOk (n : Nat) (ops : List Oper) (pairs : List (Nat × Nat)) : Bool :=
  let B := befs ops
  regOk n ops && each ops fun i o => (afterOns o).all (fun k => decide (k < i)) && each ops fun j q =>
    (!bef B i j || (afterOns o).any fun k => k == j || bef B k j) &&
    (match q.dst with
     | some t => (i == j || o.dst != some t) && (!(o.looksAt ops.toArray).contains t || bef B i j || bef B j i)
     | none => true) &&
    (!decide (i < j) || bef B j i || !pairOk o q || pairs.contains (i, j))

theorem each_spec {ops : List Oper} {f : Nat → Oper → Bool} (h : each ops f = true) {i : Nat} {o : Oper} (ho : ops[i]? = some o) : f i o = true := by
  have := List.all_eq_true.1 h i (List.mem_range.2 (List.getElem?_eq_some_iff.1 ho).1)
  simpa [ho] using this

structure Sta (n : Nat) (ops : List Oper) (B : Nat → Nat → Prop) (pairs : List (Nat × Nat)) : Prop where
  reg : regOk n ops = true
  back : ∀ (i : Nat) (o : Oper), ops[i]? = some o → ∀ k ∈ afterOns o, k < i
  closed : ∀ (i : Nat) (o : Oper) (j : Nat) (q : Oper), ops[i]? = some o → ops[j]? = some q → B i j → ∃ k ∈ afterOns o, k = j ∨ B k j
  uniq : ∀ (i : Nat) (o : Oper) (j : Nat) (q : Oper) (t : Nat), ops[i]? = some o → ops[j]? = some q → o.dst = some t → q.dst = some t → i = j
  look : ∀ (i : Nat) (o : Oper) (j : Nat) (q : Oper) (t : Nat), ops[i]? = some o → ops[j]? = some q → t ∈ o.looksAt ops.toArray → q.dst = some t → B i j ∨ B j i
  conf : ∀ (i : Nat) (o : Oper) (j : Nat) (q : Oper), ops[i]? = some o → ops[j]? = some q → i < j → ¬ B j i → pairOk o q = true → (i, j) ∈ pairs

theorem drawOk_spec {n : Nat} {ops : List Oper} {pairs : List (Nat × Nat)} (h : drawOk n ops pairs = true) : Sta n ops (fun i j => bef (befs ops) i j = true) pairs := by
  simp only [drawOk, Bool.and_eq_true] at h
  obtain ⟨h0, h⟩ := h
  have h1 := fun {i : Nat} {o : Oper} (ho : ops[i]? = some o) => each_spec h ho
  simp only [Bool.and_eq_true] at h1
  have h2 := fun {i : Nat} {o : Oper} {j : Nat} {q : Oper} (ho : ops[i]? = some o) (hq : ops[j]? = some q) => each_spec (h1 ho).2 hq
  simp only [Bool.and_eq_true] at h2
  refine ⟨h0, fun i o ho k hk => by simpa using List.all_eq_true.1 (h1 ho).1 k hk, ?_, ?_, ?_, ?_⟩
  · intro i o j q ho hq hb
    have := (h2 ho hq).1.1
    rw [hb] at this
    simpa using this
  · intro i o j q t ho hq e1 e2
    have := (h2 ho hq).1.2
    simp only [e2, Bool.and_eq_true] at this
    have := this.1
    rw [e1] at this
    simpa using this
  · intro i o j q t ho hq hl e2
    have := (h2 ho hq).1.2
    simp only [e2, Bool.and_eq_true] at this
    have := this.2
    simpa [hl] using this
  · intro i o j q ho hq hlt hnb hp
    have := (h2 ho hq).2
    have hb : bef (befs ops) j i = false := by simpa using hnb
    simpa [hlt, hb, hp] using this

/-! ### The walk in the text's order -/
def regDraw (P : Program) (all : List Oper) (base : Nat) : List Oper → Nat → Tm → Hp → (List (Option Nat × List Nat) → Tm → Hp → Prop) → Prop
  | [], _, tm, h, L => L [] tm h
  | o :: rest, i, tm, h, L => gcond all tm o (stepD P o tm h (base + i) fun v wr rd => regDraw P all base rest (i + 1) (tm.put o.dst v) (h.wr wr) fun l => L ((wr.map (·.1), rd) :: l))
      (regDraw P all base rest (i + 1) (tm.put o.dst (.tup [])) h fun l => L ((none, []) :: l))

def sep (a b : Option Nat × List Nat) : Prop := (∀ id, a.1 = some id → id ∉ b.2 ∧ b.1 ≠ some id) ∧ ∀ id, b.1 = some id → id ∉ a.2
def sepAt (log : List (Option Nat × List Nat)) (p : Nat × Nat) : Prop :=
  match log[p.1]?, log[p.2]? with
  | some a, some b => sep a b
  | _, _ => True
def seps (log : List (Option Nat × List Nat)) (pairs : List (Nat × Nat)) : Prop := ∀ p ∈ pairs, sepAt log p

def tmK (tm : Tm) : List Oper → List Dr → Nat → Tm
  | o :: ops, d :: ds, k + 1 => tmK (tm.put o.dst d.v) ops ds k
  | _, _, _ => tm
def hpK (h : Hp) : List Dr → Nat → Hp
  | d :: ds, k + 1 => hpK (h.wr d.wr) ds k
  | _, _ => h

theorem tmK_succ : ∀ {ops : List Oper} {ds : List Dr} {tm : Tm} {k : Nat} {o : Oper} {d : Dr}, ops[k]? = some o → ds[k]? = some d → tmK tm ops ds (k + 1) = (tmK tm ops ds k).put o.dst d.v
  | [], _, _, _, _, _, h, _ => by simp at h
  | o :: ops, [], _, _, _, _, _, h => by simp at h
  | o :: ops, d :: ds, tm, 0, o', d', h1, h2 => by
    simp at h1 h2
    subst h1; subst h2
    cases ops <;> cases ds <;> rfl
  | o :: ops, d :: ds, tm, k + 1, o', d', h1, h2 => by
    simp only [List.getElem?_cons_succ] at h1 h2
    show tmK (tm.put o.dst d.v) ops ds (k + 1) = _
    rw [tmK_succ h1 h2]
    rfl
theorem hpK_succ : ∀ {ds : List Dr} {h : Hp} {k : Nat} {d : Dr}, ds[k]? = some d → hpK h ds (k + 1) = (hpK h ds k).wr d.wr
  | [], _, _, _, h => by simp at h
  | d :: ds, h, 0, d', h2 => by
    simp at h2
    subst h2
    cases ds <;> rfl
  | d :: ds, h, k + 1, d', h2 => by
    simp only [List.getElem?_cons_succ] at h2
    show hpK (h.wr d.wr) ds (k + 1) = _
    rw [hpK_succ h2]
    rfl
theorem hpK_nx : ∀ {ds : List Dr} {h : Hp} {k : Nat}, (hpK h ds k).nx = h.nx
  | [], h, k => by cases k <;> rfl
  | d :: ds, h, 0 => rfl
  | d :: ds, h, k + 1 => by show (hpK (h.wr d.wr) ds k).nx = _; rw [hpK_nx, wr_nx]

section
variable {P : Program} {n : Nat} {ops : List Oper}

/-- What is known of the operations after the walk. -/
def Known (P : Program) (n : Nat) (ops : List Oper) (base : Nat) (tm : Tm) (h : Hp) (i : Nat) (rest : List Oper) (ds : List Dr) : Prop :=
  ds.length = rest.length ∧ ∀ k o d, rest[k]? = some o → ds[k]? = some d → Det P n ops.toArray o (tmK tm rest ds k) (hpK h ds k).get (base + (i + k)) d ∧ (d.wr ≠ none → wkOp o.op = true) ∧ (d.rd ≠ [] → rkOp o.op = true)

theorem regDraw_ex (hn : ∀ o ∈ ops, dstOk n o) {base : Nat} : ∀ (rest : List Oper) (i : Nat) (tm : Tm) (h : Hp) (L : List (Option Nat × List Nat) → Tm → Hp → Prop), regDraw P ops base rest i tm h L →
    ∃ ds : List Dr, Known P n ops base tm h i rest ds ∧ L (ds.map fun d => (d.wid, d.rd)) (tmK tm rest ds rest.length) (hpK h ds rest.length)
  | [], i, tm, h, L, hr => ⟨[], ⟨rfl, fun k o d ho => by simp at ho⟩, hr⟩
  | o :: rest, i, tm, h, L, hr => by
    have hn' : ∀ o ∈ ops.toArray.toList, dstOk n o := by simpa using hn
    simp only [regDraw] at hr
    have cons : ∀ (d : Dr) (ds : List Dr), Det P n ops.toArray o tm h.get (base + i) d → (d.wr ≠ none → wkOp o.op = true) → (d.rd ≠ [] → rkOp o.op = true) → Known P n ops base (tm.put o.dst d.v) (h.wr d.wr) (i + 1) rest ds → Known P n ops base tm h i (o :: rest) (d :: ds) := by
      intro d ds h1 h2 h3 ⟨h4, h5⟩
      refine ⟨by simp [h4], fun k o' d' ho hd => ?_⟩
      cases k with
      | zero =>
        simp at ho hd
        subst ho; subst hd
        exact ⟨by simpa [tmK, hpK] using h1, h2, h3⟩
      | succ k =>
        have := h5 k o' d' (by simpa using ho) (by simpa using hd)
        rw [show i + 1 + k = i + (k + 1) by omega] at this
        exact this
    rcases gcond_split hr with ⟨hg, hs⟩ | ⟨hg, hs⟩
    · obtain ⟨d, h1, h2, h3, h4⟩ := det_step (arr := ops.toArray) hn' (by simpa using hg) hs
      obtain ⟨ds, h5, h6⟩ := regDraw_ex hn rest (i + 1) _ _ _ h2
      exact ⟨d :: ds, cons d ds h1 h3 h4 h5, h6⟩
    · obtain ⟨ds, h5, h6⟩ := regDraw_ex hn rest (i + 1) _ _ _ hs
      exact ⟨⟨.tup [], none, []⟩ :: ds, cons _ ds (det_skip hn' (by simpa using hg)) (fun h => absurd rfl h) (fun h => absurd rfl h) h5, h6⟩

/-! ### States after a set of operations -/
def TmOk (ops : List Oper) (ds : List Dr) (tm0 : Tm) (S : Nat → Prop) (tm : Tm) : Prop :=
  ∀ t, (∃ i o d, S i ∧ ops[i]? = some o ∧ ds[i]? = some d ∧ o.dst = some t ∧ tm t = d.v) ∨ ((∀ i o, S i → ops[i]? = some o → o.dst ≠ some t) ∧ tm t = tm0 t)
def HpOk (ds : List Dr) (g0 : Nat → Option Ob) (S : Nat → Prop) (g : Nat → Option Ob) : Prop :=
  ∀ id, (∃ i d o, S i ∧ ds[i]? = some d ∧ d.wr = some (id, o) ∧ g id = some o ∧ ∀ j d', S j → ds[j]? = some d' → i < j → d'.wid ≠ some id) ∨ ((∀ i d, S i → ds[i]? = some d → d.wid ≠ some id) ∧ g id = g0 id)

variable {ds : List Dr} {tm0 : Tm} {S : Nat → Prop} {tm : Tm} {g0 : Nat → Option Ob}

theorem TmOk.step {i : Nat} {o : Oper} {d : Dr} (h : TmOk ops ds tm0 S tm) (ho : ops[i]? = some o) (hd : ds[i]? = some d) : TmOk ops ds tm0 (fun j => S j ∨ j = i) (tm.put o.dst d.v) := by
  intro t
  by_cases ht : o.dst = some t
  · exact .inl ⟨i, o, d, .inr rfl, ho, hd, ht, by simp [ht, Tm.put]⟩
  · have hput : (tm.put o.dst d.v) t = tm t := by
      cases hdst : o.dst with
      | none => rfl
      | some t' =>
        have : t ≠ t' := fun e => ht (by rw [hdst, e])
        simp [Tm.put, this]
    rcases h t with ⟨i', o', d', h1, h2, h3, h4, h5⟩ | ⟨h1, h2⟩
    · exact .inl ⟨i', o', d', .inl h1, h2, h3, h4, hput.trans h5⟩
    · refine .inr ⟨fun j q hj hq => ?_, hput.trans h2⟩
      rcases hj with hj | rfl
      · exact h1 j q hj hq
      · rw [ho] at hq; obtain rfl := Option.some.inj hq; exact ht

theorem HpOk.step {hp : Hp} {i : Nat} {d : Dr} (h : HpOk ds g0 S hp.get) (hd : ds[i]? = some d) (hl : ∀ j d' id, S j → ds[j]? = some d' → i < j → d.wid = some id → d'.wid ≠ some id) : HpOk ds g0 (fun j => S j ∨ j = i) (hp.wr d.wr).get := by
  intro id
  by_cases hw : d.wid = some id
  · simp only [Dr.wid, Option.map_eq_some_iff] at hw
    obtain ⟨⟨id', o⟩, h1, rfl⟩ := hw
    refine .inl ⟨i, d, o, .inr rfl, hd, h1, by simp [h1, Hp.wr], fun j d' hj hd' hlt => ?_⟩
    rcases hj with hj | rfl
    · exact hl j d' _ hj hd' hlt (by simp [Dr.wid, h1])
    · omega
  · have hput : (hp.wr d.wr).get id = hp.get id := by
      cases hwr : d.wr with
      | none => rfl
      | some p =>
        have : id ≠ p.1 := fun e => hw (by simp [Dr.wid, hwr, e])
        simp [Hp.wr, this]
    rcases h id with ⟨i', d', o, h1, h2, h3, h4, h5⟩ | ⟨h1, h2⟩
    · refine .inl ⟨i', d', o, .inl h1, h2, h3, hput.trans h4, fun j d'' hj hd' hlt => ?_⟩
      rcases hj with hj | rfl
      · exact h5 j d'' hj hd' hlt
      · rw [hd] at hd'; obtain rfl := Option.some.inj hd'; exact hw
    · refine .inr ⟨fun j d'' hj hd' => ?_, hput.trans h2⟩
      rcases hj with hj | rfl
      · exact h1 j d'' hj hd'
      · rw [hd] at hd'; obtain rfl := Option.some.inj hd'; exact hw

theorem TmOk.congr {S' : Nat → Prop} (h : TmOk ops ds tm0 S tm) (hs : ∀ i, i < ops.length → (S i ↔ S' i)) : TmOk ops ds tm0 S' tm := by
  intro t
  have lt : ∀ {i o}, ops[i]? = some o → i < ops.length := fun h => (List.getElem?_eq_some_iff.1 h).1
  rcases h t with ⟨i, o, d, h1, h2, h3⟩ | ⟨h1, h2⟩
  · exact .inl ⟨i, o, d, (hs i (lt h2)).1 h1, h2, h3⟩
  · exact .inr ⟨fun j q hj hq => h1 j q ((hs j (lt hq)).2 hj) hq, h2⟩
theorem HpOk.congr {S' : Nat → Prop} {g : Nat → Option Ob} (h : HpOk ds g0 S g) (hs : ∀ i, i < ds.length → (S i ↔ S' i)) : HpOk ds g0 S' g := by
  intro id
  have lt : ∀ {i : Nat} {d : Dr}, ds[i]? = some d → i < ds.length := fun h => (List.getElem?_eq_some_iff.1 h).1
  rcases h id with ⟨i, d, o, h1, h2, h3, h4, h5⟩ | ⟨h1, h2⟩
  · exact .inl ⟨i, d, o, (hs i (lt h2)).1 h1, h2, h3, h4, fun j d' hj hd => h5 j d' ((hs j (lt hd)).2 hj) hd⟩
  · exact .inr ⟨fun j q hj hq => h1 j q ((hs j (lt hq)).2 hj) hq, h2⟩

theorem TmOk.uniq {tm' : Tm} (hu : ∀ (i : Nat) (o : Oper) (j : Nat) (q : Oper) (t : Nat), ops[i]? = some o → ops[j]? = some q → o.dst = some t → q.dst = some t → i = j) (h : TmOk ops ds tm0 S tm) (h' : TmOk ops ds tm0 S tm') : tm = tm' := by
  funext t
  rcases h t with ⟨i, o, d, h1, h2, h3, h4, h5⟩ | ⟨h1, h2⟩ <;> rcases h' t with ⟨i', o', d', k1, k2, k3, k4, k5⟩ | ⟨k1, k2⟩
  · obtain rfl := hu i o i' o' t h2 k2 h4 k4
    rw [h3] at k3; obtain rfl := Option.some.inj k3
    rw [h5, k5]
  · exact absurd h4 (k1 i o h1 h2)
  · exact absurd k4 (h1 i' o' k1 k2)
  · rw [h2, k2]
theorem HpOk.uniq {g g' : Nat → Option Ob} (h : HpOk ds g0 S g) (h' : HpOk ds g0 S g') : g = g' := by
  funext id
  have wid : ∀ {d : Dr} {o : Ob}, d.wr = some (id, o) → d.wid = some id := fun h => by simp [Dr.wid, h]
  rcases h id with ⟨i, d, o, h1, h2, h3, h4, h5⟩ | ⟨h1, h2⟩ <;> rcases h' id with ⟨i', d', o', k1, k2, k3, k4, k5⟩ | ⟨k1, k2⟩
  · rcases Nat.lt_trichotomy i i' with hlt | rfl | hlt
    · exact absurd (wid k3) (h5 i' d' k1 k2 hlt)
    · rw [h2] at k2; obtain rfl := Option.some.inj k2
      rw [h3] at k3; simp at k3; subst k3
      rw [h4, k4]
    · exact absurd (wid h3) (k5 i d h1 h2 hlt)
  · exact absurd (wid h3) (k1 i d h1 h2)
  · exact absurd (wid k3) (h1 i' d' k1 k2)
  · rw [h2, k2]

/-! ### The orders -/
variable {base : Nat} {h0 : Hp} {B : Nat → Nat → Prop} {pairs : List (Nat × Nat)}

def Down (ops : List Oper) (S : Nat → Prop) : Prop := ∀ i o, S i → ops[i]? = some o → ∀ k ∈ afterOns o, S k

theorem Sta.down (st : Sta n ops B pairs) (hS : Down ops S) : ∀ i, (∀ o j q, ops[i]? = some o → (∀ k ∈ afterOns o, S k) → ops[j]? = some q → B i j → S j ∧ j < i) := by
  intro i
  induction i using Nat.strongRecOn with
  | _ i ih =>
    intro o j q ho hk hq hb
    obtain ⟨k, h1, h2⟩ := st.closed i o j q ho hq hb
    have hlt := st.back i o ho k h1
    have hSk := hk k h1
    rcases h2 with rfl | h2
    · exact ⟨hSk, hlt⟩
    · have hkl : k < ops.length := by have := (List.getElem?_eq_some_iff.1 ho).1; omega
      obtain ⟨h3, h4⟩ := ih k hlt ops[k] j q (List.getElem?_eq_getElem hkl) (fun k' hk' => hS k _ hSk (List.getElem?_eq_getElem hkl) k' hk') hq h2
      exact ⟨h3, by omega⟩

theorem Sta.lt (st : Sta n ops B pairs) {i j : Nat} {o q : Oper} (ho : ops[i]? = some o) (hq : ops[j]? = some q) (hb : B i j) : j < i :=
  (st.down (S := fun _ => True) (fun _ _ _ _ _ _ => trivial) i o j q ho (fun _ _ => trivial) hq hb).2

/-- Which operations cannot change places. -/
theorem Sta.apart (st : Sta n ops B pairs) (kn : Known P n ops base tm0 h0 0 ops ds) (hsep : seps (ds.map fun d => (d.wid, d.rd)) pairs) {i j : Nat} {o q : Oper} {d e : Dr} (hlt : i < j) (ho : ops[i]? = some o) (hq : ops[j]? = some q) (hd : ds[i]? = some d) (he : ds[j]? = some e)
    (hc : (∃ id, d.wid = some id ∧ (id ∈ e.rd ∨ e.wid = some id)) ∨ ∃ id, e.wid = some id ∧ id ∈ d.rd) : B j i := by
  by_cases hb : B j i
  · exact hb
  · exfalso
    have k1 := (kn.2 i o d ho hd).2
    have k2 := (kn.2 j q e hq he).2
    have w1 : ∀ {d : Dr} {id : Nat}, d.wid = some id → d.wr ≠ none := fun h e => by simp [Dr.wid, e] at h
    have r1 : ∀ {d : Dr} {id : Nat}, id ∈ d.rd → d.rd ≠ [] := fun h e => by rw [e] at h; simp at h
    have hp : pairOk o q = true := by
      unfold pairOk
      rcases hc with ⟨id, h1, h2 | h2⟩ | ⟨id, h1, h2⟩
      · simp [k1.1 (w1 h1), k2.2 (r1 h2)]
      · simp [k1.1 (w1 h1), k2.1 (w1 h2)]
      · simp [k1.2 (r1 h2), k2.1 (w1 h1)]
    have hs := hsep _ (st.conf i o j q ho hq hlt hb hp)
    unfold sepAt at hs
    simp only [List.getElem?_map, hd, he, Option.map_some] at hs
    rcases hc with ⟨id, h1, h2 | h2⟩ | ⟨id, h1, h2⟩
    · exact (hs.1 id h1).1 h2
    · exact (hs.1 id h1).2 h2
    · exact hs.2 id h1 h2

theorem text_ok (st : Sta n ops B pairs) (hl : ds.length = ops.length) : ∀ k, k ≤ ops.length → TmOk ops ds tm0 (fun j => j < k) (tmK tm0 ops ds k) ∧ HpOk ds h0.get (fun j => j < k) (hpK h0 ds k).get
  | 0, _ => by
    have e1 : tmK tm0 ops ds 0 = tm0 := by cases ops <;> cases ds <;> rfl
    have e2 : hpK h0 ds 0 = h0 := by cases ds <;> rfl
    rw [e1, e2]
    exact ⟨fun t => .inr ⟨fun i o h => by omega, rfl⟩, fun id => .inr ⟨fun i d h => by omega, rfl⟩⟩
  | k + 1, hk => by
    obtain ⟨h1, h2⟩ := text_ok st hl k (by omega)
    have ho : ops[k]? = some ops[k] := List.getElem?_eq_getElem (by omega)
    have hd : ds[k]? = some ds[k] := List.getElem?_eq_getElem (by omega)
    rw [tmK_succ ho hd, hpK_succ hd]
    exact ⟨(h1.step ho hd).congr fun i _ => by omega, (h2.step hd fun j d' id hj _ hlt => by omega).congr fun i _ => by omega⟩

structure Inv (n : Nat) (ops : List Oper) (ds : List Dr) (tm0 : Tm) (h0 : Hp) (base : Nat) (S : Nat → Prop) (tm : Tm) (h : Hp) (X : Cx) (w : World) (a : Act) : Prop where
  tmo : TmOk ops ds tm0 S tm
  hpo : HpOk ds h0.get S h.get
  nx : h.nx = base + ops.length
  hr : HRel h X w
  fr : FRel n tm X w a
  used : ∀ id, X.used id → id < base ∨ ∃ i, S i ∧ id = base + i

theorem Inv.take {ro : Option Nat} {Q : Exit → Act → World → Prop} {h : Hp} {X : Cx} {w : World} {a : Act} {i : Nat} {o : Oper} {next : Act → World → Prop} (st : Sta n ops B pairs) (kn : Known P n ops base tm0 h0 0 ops ds) (hsep : seps (ds.map fun d => (d.wid, d.rd)) pairs) (hS : Down ops S)
    (I : Inv n ops ds tm0 h0 base S tm h X w a) (ho : ops[i]? = some o) (hi : ¬ S i) (hk : ∀ k ∈ afterOns o, S k)
    (hnext : ∀ tm' h' X' w' a', Inv n ops ds tm0 h0 base (fun j => S j ∨ j = i) tm' h' X' w' a' → Ev X w X' w' → a'.defers = a.defers → next a' w') : wpOpIn (fen ro) 0 P ops.toArray Q i next a w := by
  have hilt : i < ops.length := (List.getElem?_eq_some_iff.1 ho).1
  have hd : ds[i]? = some (ds[i]'(by rw [kn.1]; exact hilt)) := List.getElem?_eq_getElem _
  generalize ds[i]'(by rw [kn.1]; exact hilt) = d at hd
  obtain ⟨hdet, _, _⟩ := kn.2 i o d ho hd
  obtain ⟨ht, hh⟩ := text_ok (tm0 := tm0) (h0 := h0) st kn.1 i (by omega)
  have opAt : ∀ {j : Nat} {e : Dr}, ds[j]? = some e → ∃ q, ops[j]? = some q := fun {j e} he => ⟨ops[j]'(by rw [← kn.1]; exact (List.getElem?_eq_some_iff.1 he).1), List.getElem?_eq_getElem _⟩
  have pred : ∀ {j : Nat} {q : Oper}, ops[j]? = some q → B i j → S j ∧ j < i := fun hq hb => st.down hS i o _ _ ho hk hq hb
  -- an operation that was carried out and stands later in the text does not touch what this one touches
  have later : ∀ {j : Nat} {e : Dr}, S j → ds[j]? = some e → i < j → ((∃ id, d.wid = some id ∧ (id ∈ e.rd ∨ e.wid = some id)) ∨ ∃ id, e.wid = some id ∧ id ∈ d.rd) → False := by
    intro j e hj he hlt hc
    obtain ⟨q, hq⟩ := opAt he
    exact hi ((st.down hS j q i o hq (fun k hk' => hS j q hj hq k hk') ho (st.apart kn hsep hlt ho hq hd he hc)).1)
  have hsame : ∀ t ∈ o.looksAt ops.toArray, tm t = tmK tm0 ops ds i t := by
    intro t htl
    rcases ht t with ⟨j, q, e, h1, h2, h3, h4, h5⟩ | ⟨h1, h2⟩
    · have hj := pred h2 ((st.look i o j q t ho h2 htl h4).elim (fun h => h) fun hb => by
        have := st.lt h2 ho hb
        have h1 : j < i := h1
        omega)
      rcases I.tmo t with ⟨j', q', e', k1, k2, k3, k4, k5⟩ | ⟨k1, k2⟩
      · obtain rfl := st.uniq j q j' q' t h2 k2 h4 k4
        rw [h3] at k3; obtain rfl := Option.some.inj k3
        rw [h5, k5]
      · exact absurd h4 (k1 j q hj.1 h2)
    · rcases I.tmo t with ⟨j', q', e', k1, k2, k3, k4, k5⟩ | ⟨k1, k2⟩
      · rcases st.look i o j' q' t ho k2 htl k4 with hb | hb
        · exact absurd k4 (h1 j' q' (pred k2 hb).2 k2)
        · exact absurd (st.down hS j' q' i o k2 (fun k hk' => hS j' q' k1 k2 k hk') ho hb).1 hi
      · rw [h2, k2]
  have hag : Agree d.rd (hpK h0 ds i).get h.get := by
    intro id hid ob hob
    have earlier : ∀ {j : Nat} {e : Dr}, j < i → ds[j]? = some e → e.wid = some id → S j := by
      intro j e hlt he hw
      obtain ⟨q, hq⟩ := opAt he
      exact (pred hq (st.apart kn hsep hlt hq ho he hd (.inl ⟨id, hw, .inl hid⟩))).1
    have wid : ∀ {d : Dr} {o : Ob}, d.wr = some (id, o) → d.wid = some id := fun h => by simp [Dr.wid, h]
    rcases hh id with ⟨j, e, o', h1, h2, h3, h4, h5⟩ | ⟨h1, h2⟩
    · rcases I.hpo id with ⟨j', e', o2, k1, k2, k3, k4, k5⟩ | ⟨k1, k2⟩
      · rcases Nat.lt_trichotomy j j' with hlt | rfl | hlt
        · rcases Nat.lt_trichotomy j' i with hlt' | rfl | hlt'
          · exact absurd (wid k3) (h5 j' e' hlt' k2 hlt)
          · exact absurd k1 hi
          · exact (later k1 k2 hlt' (.inr ⟨id, wid k3, hid⟩)).elim
        · rw [h2] at k2; obtain rfl := Option.some.inj k2
          rw [h3] at k3; simp at k3; subst k3
          rw [k4, ← h4, hob]
        · exact absurd (wid h3) (k5 j e (earlier h1 h2 (wid h3)) h2 hlt)
      · exact absurd (wid h3) (k1 j e (earlier h1 h2 (wid h3)) h2)
    · rcases I.hpo id with ⟨j', e', o2, k1, k2, k3, k4, k5⟩ | ⟨k1, k2⟩
      · rcases Nat.lt_trichotomy j' i with hlt' | rfl | hlt'
        · exact absurd (wid k3) (h1 j' e' hlt' k2)
        · exact absurd k1 hi
        · exact (later k1 k2 hlt' (.inr ⟨id, wid k3, hid⟩)).elim
      · rw [k2, ← h2, hob]
  have hfree : ¬ X.used (base + (0 + i)) := fun hu => by
    rcases I.used _ hu with h | ⟨j, hj, e⟩
    · omega
    · have : i = j := by omega
      exact hi (this ▸ hj)
  have main := hdet ro tm h X w a next Q hsame hag (by rw [I.nx]; omega) I.hr I.fr hfree fun c X' w' hev hv hr' hu => by
    refine hnext (tm.put o.dst d.v) (h.wr d.wr) X' w' _ ⟨I.tmo.step ho hd, I.hpo.step hd fun j e id hj he hlt hw hw' => later hj he hlt (.inl ⟨id, hw, .inr hw'⟩), by rw [wr_nx]; exact I.nx, hr', ?_, fun id hid => ?_⟩ hev ?_
    · refine (I.fr.mono I.hr.ok hev).put hv fun t ht => ?_
      have := regOk_spec st.reg o (List.mem_of_getElem? ho)
      simpa [dstOk, ht] using this
    · rcases hu id hid with h | rfl
      · exact (I.used id h).imp (fun h => h) fun ⟨j, hj, e⟩ => ⟨j, .inl hj, e⟩
      · exact .inr ⟨i, .inr rfl, by omega⟩
    · cases o.dst <;> rfl
  unfold wpOpIn
  have harr : ops.toArray[i]? = some o := by simpa using ho
  simp only [harr]
  exact main

theorem any_ok {ro : Option Nat} {Q : Exit → Act → World → Prop} {X0 : Cx} {w0 : World} {Df : List Deferred} (st : Sta n ops B pairs) (kn : Known P n ops base tm0 h0 0 ops ds) (hsep : seps (ds.map fun d => (d.wid, d.rd)) pairs) (hnx : h0.nx = base + ops.length)
    (hQ : ∀ X w a, Ev X0 w0 X w → FRel n (tmK tm0 ops ds ops.length) X w a → HRel (hpK h0 ds ops.length) X w → a.defers = Df → Q .normal a w) :
    ∀ (fuel : Nat) (listed : Array Bool) (un : List Nat) (tm : Tm) (h : Hp) (X : Cx) (w : World) (a : Act), listed.size = ops.length → un.Nodup → un.length ≤ fuel → (∀ i, i < ops.length → listed.getD i false = false → i ∈ un) → Down ops (fun i => listed.getD i false = true) →
      Inv n ops ds tm0 h0 base (fun i => listed.getD i false = true) tm h X w a → Ev X0 w0 X w → a.defers = Df → wpAnyIn (fen ro) 0 P .any ops.toArray Q fuel listed a w := by
  have done : ∀ (listed : Array Bool) (tm : Tm) (h : Hp) (X : Cx) (w : World) (a : Act), (∀ i, i < ops.length → listed.getD i false = true) → Inv n ops ds tm0 h0 base (fun i => listed.getD i false = true) tm h X w a → Ev X0 w0 X w → a.defers = Df → Q .normal a w := by
    intro listed tm h X w a hall I hev hdf
    obtain ⟨h1, h2⟩ := text_ok (tm0 := tm0) (h0 := h0) st kn.1 ops.length (Nat.le_refl _)
    have e1 := (I.tmo.congr (S' := fun j => j < ops.length) fun i hi => ⟨fun _ => hi, fun _ => hall i hi⟩).uniq st.uniq h1
    have e2 := (I.hpo.congr (S' := fun j => j < ops.length) fun i hi => ⟨fun _ => by rw [← kn.1]; exact hi, fun _ => hall i (by rw [← kn.1]; exact hi)⟩).uniq h2
    have e3 : h = hpK h0 ds ops.length := by
      have : h.nx = (hpK h0 ds ops.length).nx := by rw [I.nx, hpK_nx, hnx]
      cases h
      cases hh : hpK h0 ds ops.length
      rw [hh] at this e2
      simp_all
    exact hQ X w a hev (e1 ▸ I.fr) (e3 ▸ I.hr) hdf
  have emp : ∀ (listed : Array Bool), listed.size = ops.length → Region.ready .any ops.toArray listed = [] → ∀ i, i < ops.length → listed.getD i false = true := by
    intro listed hsz hr i
    induction i using Nat.strongRecOn with
    | _ i ih =>
      intro hi
      by_cases hl : listed.getD i false = true
      · exact hl
      · exfalso
        have hm : i ∈ Region.ready .any ops.toArray listed := by
          refine mem_ready.2 ⟨?_, ops[i], by simp [hi], fun e he hb => ?_⟩
          · have hlt : i < listed.size := by omega
            simpa [Array.getD_eq_getD_getElem?, hlt] using hl
          · have hk : e.on ∈ afterOns ops[i] := List.mem_map.2 ⟨e, List.mem_filter.2 ⟨by simpa using he, hb⟩, rfl⟩
            have := st.back i _ (List.getElem?_eq_getElem hi) _ hk
            exact ih _ this (by omega)
        rw [hr] at hm
        simp at hm
  intro fuel
  induction fuel with
  | zero =>
    intro listed un tm h X w a hsz hnd hle hun hS I hev hdf
    have hall : ∀ i, i < ops.length → listed.getD i false = true := fun i hi => by
      cases hl : listed.getD i false with
      | true => rfl
      | false =>
        have := hun i hi hl
        have : un = [] := List.eq_nil_of_length_eq_zero (by omega)
        simp_all
    refine ⟨?_, done listed tm h X w a hall I hev hdf⟩
    cases hr : Region.ready .any ops.toArray listed with
    | nil => rfl
    | cons i is =>
      have hm : i ∈ Region.ready .any ops.toArray listed := by rw [hr]; simp
      obtain ⟨h1, o, h2, _⟩ := mem_ready.1 hm
      have hi : i < ops.length := by simpa using (Array.getElem?_eq_some_iff.1 h2).1
      have := hall i hi
      have hlt : i < listed.size := by omega
      simp [Array.getD_eq_getD_getElem?, hlt] at h1 this
      rw [h1] at this
      simp at this
  | succ fuel ih =>
    intro listed un tm h X w a hsz hnd hle hun hS I hev hdf
    refine ⟨fun hr => done listed tm h X w a (emp listed hsz hr) I hev hdf, fun i hm => ?_⟩
    obtain ⟨h1, o, h2, h3⟩ := mem_ready.1 hm
    have hi : i < ops.length := by simpa using (Array.getElem?_eq_some_iff.1 h2).1
    have hlt : i < listed.size := by omega
    have ho : ops[i]? = some o := by simpa using h2
    have hni : listed.getD i false = false := by
      simp [Array.getD_eq_getD_getElem?, hlt] at h1 ⊢
      exact h1
    have hiff : ∀ j, j < ops.length → ((listed.getD j false = true ∨ j = i) ↔ (listed.setIfInBounds i true).getD j false = true) := by
      intro j hj
      by_cases e : i = j
      · subst e
        simp [Array.getD_eq_getD_getElem?, hlt]
      · rw [getD_set_ne false e]
        exact ⟨fun h => h.elim id fun e' => absurd e'.symm e, .inl⟩
    have hout : ∀ j, ¬ j < ops.length → (listed.setIfInBounds i true).getD j false = false ∧ listed.getD j false = false := fun j hj => by
      have h1 : ¬ j < listed.size := by omega
      simp [Array.getD_eq_getD_getElem?, h1]
    have hk : ∀ k ∈ afterOns o, listed.getD k false = true := fun k hk => by
      obtain ⟨e, he, rfl⟩ := List.mem_map.1 hk
      obtain ⟨he1, he2⟩ := List.mem_filter.1 he
      exact h3 e (by simpa using he1) he2
    refine Inv.take st kn hsep hS I ho (by simp [hni]) hk fun tm' h' X' w' a' I' hev' hdf' => ?_
    refine ih (listed.setIfInBounds i true) (un.erase i) tm' h' X' w' a' (by simpa using hsz) (hnd.erase i) ?_ ?_ ?_ ?_ (hev.trans hev') (hdf'.trans hdf)
    · rw [List.length_erase_of_mem (hun i hi hni)]; omega
    · intro j hj hjl
      have hne : j ≠ i := fun e => by
        have := (hiff j hj).1 (.inr e)
        rw [this] at hjl; simp at hjl
      have hjl' : listed.getD j false = false := by
        cases hh : listed.getD j false with
        | false => rfl
        | true => have := (hiff j hj).1 (.inl hh); rw [this] at hjl; simp at hjl
      exact (List.mem_erase_of_ne hne).2 (hun j hj hjl')
    · intro j q hj hq k hk'
      have hjl : j < ops.length := (List.getElem?_eq_some_iff.1 hq).1
      have hkj := st.back j q hq k hk'
      refine (hiff k (by omega)).1 (.inl ?_)
      rcases (hiff j hjl).2 hj with h | rfl
      · exact hS j q h hq k hk'
      · rw [ho] at hq; obtain rfl := Option.some.inj hq; exact hk k hk'
    · refine ⟨I'.tmo.congr fun j hj => hiff j hj, I'.hpo.congr fun j hj => hiff j (by rw [← kn.1]; exact hj), I'.nx, I'.hr, I'.fr, fun id hid => (I'.used id hid).imp (fun h => h) fun ⟨j, hj, e⟩ => ⟨j, ?_, e⟩⟩
      by_cases hjl : j < ops.length
      · exact (hiff j hjl).1 hj
      · rcases hj with hj | rfl
        · rw [(hout j hjl).2] at hj; simp at hj
        · exact absurd hi hjl

/-- A region that is carried out in any order. -/
theorem wpT_draw {ro : Option Nat} {k : List Item} {R : Exit → Tm → Hp → Prop} {tm : Tm} {h : Hp} {id : Nat} {l : List Oper} (pairs : List (Nat × Nat)) (hm : P.follows .mixedOrders = true) (hok : drawOk n l pairs = true)
    (hw : ∀ K : Tm → Hp → Prop, (∀ tm' h', wpT P ro n k R tm' h' → K tm' h') → regDraw P l h.nx l 0 tm ⟨h.get, h.nx + l.length⟩ (fun log tm' h' => seps log pairs ∧ K tm' h')) :
    wpT P ro n (.code (.region id l.toArray true) :: k) R tm h := by
  have st := drawOk_spec hok
  refine wpT_ofRegion (K := fun tm' h' => wpT P ro n k R tm' h') (fun X w a hf H => ?_) (fun _ _ hk => hk)
  refine wpIn_region_any hm ?_
  obtain ⟨ds, kn, hsep, hK⟩ := regDraw_ex (P := P) (n := n) (ops := l) (regOk_spec st.reg) l 0 tm _ _ (hw _ fun _ _ h => h)
  let h1 : Hp := ⟨h.get, h.nx + l.length⟩
  have H1 : HRel h1 X w := ⟨H.ok, fun id hu => by have := H.lt id hu; simp only [h1]; omega, H.dead, H.obj⟩
  obtain ⟨H2, hev2⟩ := H1.drew
  have h0 := any_ok (ro := ro) (X0 := X) (w0 := w) (Df := a.defers) (Q := fun e a' w' => e = .normal ∧ a'.defers = a.defers ∧ ∃ tm' h' X', wpT P ro n k R tm' h' ∧ Ev X w X' w' ∧ FRel n tm' X' w' a' ∧ HRel h' X' w')
    st kn hsep rfl (fun X' w' a' hev hf' H' hdf => ⟨rfl, hdf, _, _, X', hK, hev, hf', H'⟩)
    l.length (Array.replicate l.length false) (List.range l.length) tm h1 X w.drew a (by simp) List.nodup_range (by simp) (fun i hi _ => by simpa using hi) (fun i o hi => by
      simp [Array.getD_eq_getD_getElem?, Array.getElem?_replicate] at hi
      split at hi <;> simp at hi)
    ⟨fun t => .inr ⟨fun i o hi => by
      simp [Array.getD_eq_getD_getElem?, Array.getElem?_replicate] at hi
      split at hi <;> simp at hi, rfl⟩, fun id => .inr ⟨fun i o hi => by
      simp [Array.getD_eq_getD_getElem?, Array.getElem?_replicate] at hi
      split at hi <;> simp at hi, rfl⟩, rfl, H2, hf.mono H.ok hev2, fun id hu => .inl (H.lt id hu)⟩ hev2 rfl
  simpa using h0
end
end Go.Proofs.YtfdfkmcplhloaaaGreat
end

section
set_option linter.unusedSimpArgs false
set_option linter.unusedVariables false
namespace Go.Proofs.YtfdfkmcplhloaaaGreat
section
variable {P : Program} {n i base nid : Nat} {all rest : List Oper} {tm : Tm} {h : Hp} {L : List (Option Nat × List Nat) → Tm → Hp → Prop} {K : AV → Option (Nat × Ob) → List Nat → Prop} {g : Nat → Option Ob}

/-- A contract that leaves memory alone, with what its values are. -/
structure Pu (P : Program) (fv : AV) (args : List AV) (r : AV) : Prop where
  pv : PureV P fv args r
  hr : Idf r
  hf : Idf fv
  ha : ∀ a ∈ args, Idf a

theorem Pu.call {fv r : AV} {args : List AV} {Kv : AV → Hp → Prop} (hp : Pu P fv args r) (hk : Kv r h) : CallV P fv args h Kv := (hp.pv.frame hp.hr hp.hf hp.ha).mono fun _ _ ⟨h1, h2⟩ => h1 ▸ h2 ▸ hk
theorem Pu.lent {fv fv' r : AV} {args args' : List AV} {Kv : AV → Hp → Prop} (hp : Pu P fv' args' r) (hs : Scal r) (hf : Lend h.get fv fv') (ha : LendL h.get args args') (hk : Kv r h) : CallV P fv args h Kv := (hp.pv.lend hs hf ha hp.hf hp.ha).mono fun _ _ ⟨h1, h2⟩ => h1 ▸ h2 ▸ hk
theorem Pu.callD {fv r : AV} {args : List AV} (hp : Pu P fv args r) (hk : K r none []) : CallD P fv args g nid K := .pure r hp.pv hp.hr hp.hf hp.ha hk
theorem Pu.lentD {fv fv' r : AV} {args args' : List AV} (hp : Pu P fv' args' r) (rd : List Nat) (hs : Scal r) (hf : Lend (fun id => if id ∈ rd then g id else none) fv fv') (ha : LendL (fun id => if id ∈ rd then g id else none) args args') (hk : K r none rd) : CallD P fv args g nid K :=
  .lend rd fv' r args' hp.pv hs hf ha hp.hf hp.ha hk

structure Nu (P : Program) (fv : AV) (args : List AV) (E : TypeId) (s : Nat) (es : List AV) : Prop where
  pv : NewV P fv args E s es
  hr : ∀ e ∈ es, Idf e
  hf : Idf fv
  ha : ∀ a ∈ args, Idf a
theorem Nu.call {fv : AV} {args : List AV} {E s : Nat} {es : List AV} {Kv : AV → Hp → Prop} (hp : Nu P fv args E s es) (hk : Kv (.sl h.nx es.length 0 es.length) (h.add (.arr E s es))) : CallV P fv args h Kv := (hp.pv.frame hp.hr hp.hf hp.ha).mono fun _ _ ⟨h1, h2⟩ => h1 ▸ h2 ▸ hk
theorem Nu.callD {fv : AV} {args : List AV} {E s : Nat} {es : List AV} (hp : Nu P fv args E s es) (hk : K (.sl nid es.length 0 es.length) (some (nid, .arr E s es)) []) : CallD P fv args g nid K := .new E s es hp.pv hp.hr hp.hf hp.ha hk

theorem Nu.lent {fv fv' : AV} {args args' : List AV} {E s : Nat} {es : List AV} {Kv : AV → Hp → Prop} (hp : Nu P fv' args' E s es) (he : ∀ e ∈ es, Scal e) (hf : Lend h.get fv fv') (ha : LendL h.get args args') (hk : Kv (.sl h.nx es.length 0 es.length) (h.add (.arr E s es))) : CallV P fv args h Kv := (hp.pv.lend he hf ha hp.hf hp.ha).mono fun _ _ ⟨h1, h2⟩ => h1 ▸ h2 ▸ hk
theorem Nu.lentD {fv fv' : AV} {args args' : List AV} {E s : Nat} {es : List AV} (hp : Nu P fv' args' E s es) (rd : List Nat) (he : ∀ e ∈ es, Scal e) (hf : Lend (fun id => if id ∈ rd then g id else none) fv fv') (ha : LendL (fun id => if id ∈ rd then g id else none) args args') (hk : K (.sl nid es.length 0 es.length) (some (nid, .arr E s es)) rd) : CallD P fv args g nid K :=
  .newL rd fv' args' E s es hp.pv he hf ha hp.hf hp.ha hk

/-! ### Regions in any order -/
def kontD (P : Program) (all : List Oper) (base : Nat) (rest : List Oper) (i : Nat) (tm : Tm) (d : Option Nat) (h : Hp) (L : List (Option Nat × List Nat) → Tm → Hp → Prop) : AV → Option (Nat × Ob) → List Nat → Prop :=
  fun v wr rd => regDraw P all base rest (i + 1) (tm.put d v) (h.wr wr) fun l => L ((wr.map (·.1), rd) :: l)
theorem kontD_none {d : Option Nat} {v : AV} {rd : List Nat} : kontD P all base rest i tm d h L v none rd = regDraw P all base rest (i + 1) (tm.put d v) h (fun l => L ((none, rd) :: l)) := rfl
theorem kontD_some {d : Option Nat} {v : AV} {rd : List Nat} {id : Nat} {o : Ob} : kontD P all base rest i tm d h L v (some (id, o)) rd = regDraw P all base rest (i + 1) (tm.put d v) (h.set id o) (fun l => L ((some id, rd) :: l)) := rfl

def guardD (P : Program) (all : List Oper) (base : Nat) (o : Oper) (rest : List Oper) (i : Nat) (tm : Tm) (h : Hp) (L : List (Option Nat × List Nat) → Tm → Hp → Prop) (want : Bool) (v : AV) : Prop :=
  gval v want (stepD P o tm h (base + i) (kontD P all base rest i tm o.dst h L)) (regDraw P all base rest (i + 1) (tm.put o.dst (.tup [])) h fun l => L ((none, []) :: l))
def guardG (P : Program) (all : List Oper) (base : Nat) (o : Oper) (rest : List Oper) (i : Nat) (tm : Tm) (h : Hp) (L : List (Option Nat × List Nat) → Tm → Hp → Prop) (want : Bool) (g : Option Nat) : Prop :=
  match g with
  | some g => guardD P all base o rest i tm h L want (tm g)
  | none => False
/-- One operation by its parts. -/
def opS (P : Program) (op : Op) (tm : Tm) (h : Hp) (nid : Nat) (K : AV → Option (Nat × Ob) → List Nat → Prop) : Prop :=
  match callee? op with
  | some (f, args) => CallD P (evA tm f) (args.toList.map (evA tm)) h.get nid K
  | none => optK (opD P op tm h.get nid) fun r => K r.1 (efW nid r.2) (rdOf op tm)
theorem regDraw_nil : regDraw P all base [] i tm h L = L [] tm h := rfl
theorem regDraw_cons {d : Option Nat} {op : Op} {ty : TypeId} {pos : String} {aft : Array Edge} : regDraw P all base (⟨d, op, ty, pos, aft, none⟩ :: rest) i tm h L = opS P op tm h (base + i) (kontD P all base rest i tm d h L) := rfl
theorem regDraw_guard {d : Option Nat} {j : Nat} {want : Bool} {op : Op} {ty : TypeId} {pos : String} {aft : Array Edge} : regDraw P all base (⟨d, op, ty, pos, aft, some (j, want)⟩ :: rest) i tm h L = guardG P all base ⟨d, op, ty, pos, aft, some (j, want)⟩ rest i tm h L want (dstAt all j) := by
  show gcond _ _ _ _ _ = _
  unfold gcond guardG dstAt
  simp only
  cases (all[j]?).bind (·.dst) <;> rfl
theorem guardG_some {o : Oper} {want : Bool} {g : Nat} : guardG P all base o rest i tm h L want (some g) = guardD P all base o rest i tm h L want (tm g) := rfl
theorem guardD_bool {d : Option Nat} {op : Op} {ty : TypeId} {pos : String} {aft : Array Edge} {gd : Option (Nat × Bool)} {want b : Bool} : guardD P all base ⟨d, op, ty, pos, aft, gd⟩ rest i tm h L want (.bool b) =
    if b = want then opS P op tm h (base + i) (kontD P all base rest i tm d h L) else regDraw P all base rest (i + 1) (tm.put d (.tup [])) h fun l => L ((none, []) :: l) := rfl
theorem guardD_undef {d : Option Nat} {op : Op} {ty : TypeId} {pos : String} {aft : Array Edge} {gd : Option (Nat × Bool)} {want : Bool} : guardD P all base ⟨d, op, ty, pos, aft, gd⟩ rest i tm h L want (.tup []) = regDraw P all base rest (i + 1) (tm.put d (.tup [])) h fun l => L ((none, []) :: l) := rfl

def dV (o : Option AV) (rd : List Nat) (K : AV → Option (Nat × Ob) → List Nat → Prop) : Prop := match o with | some v => K v none rd | none => False
def dE (o : Option (AV × Ef)) (nid : Nat) (rd : List Nat) (K : AV → Option (Nat × Ob) → List Nat → Prop) : Prop := match o with | some p => K p.1 (efW nid p.2) rd | none => False
def dS (o : Option Ef) (nid : Nat) (rd : List Nat) (K : AV → Option (Nat × Ob) → List Nat → Prop) : Prop := match o with | some e => K .junk (efW nid e) rd | none => False
theorem dV_some {v : AV} {rd : List Nat} : dV (some v) rd K = K v none rd := rfl
theorem dV_ite {c : Prop} [Decidable c] {a : Option AV} {rd : List Nat} : dV (if c then a else none) rd K = (c ∧ dV a rd K) := by split <;> simp [*, dV]
theorem dE_non {v : AV} {rd : List Nat} : dE (some (v, .non)) nid rd K = K v none rd := rfl
theorem dE_set {v : AV} {rd : List Nat} {id : Nat} {o : Ob} : dE (some (v, .set id o)) nid rd K = K v (some (id, o)) rd := rfl
theorem dE_new {v : AV} {rd : List Nat} {o : Ob} : dE (some (v, .new o)) nid rd K = K v (some (nid, o)) rd := rfl
theorem dE_ite {c : Prop} [Decidable c] {a : Option (AV × Ef)} {rd : List Nat} : dE (if c then a else none) nid rd K = (c ∧ dE a nid rd K) := by split <;> simp [*, dE]
theorem dS_set {rd : List Nat} {id : Nat} {o : Ob} : dS (some (.set id o)) nid rd K = K .junk (some (id, o)) rd := rfl

theorem opS_pure {op : Op} {r : Option AV} {rd : List Nat} (h1 : callee? op = none) (h2 : opD P op tm h.get nid = non r) (h3 : rdOf op tm = rd) : opS P op tm h nid K = dV r rd K := by
  unfold opS
  simp only [h1, h2, h3]
  cases r <;> rfl
theorem opS_ef {op : Op} {r : Option (AV × Ef)} {rd : List Nat} (h1 : callee? op = none) (h2 : opD P op tm h.get nid = r) (h3 : rdOf op tm = rd) : opS P op tm h nid K = dE r nid rd K := by
  unfold opS
  simp only [h1, h2, h3]
  cases r <;> rfl
theorem sd_move {x : Operand} : opS P (.move x) tm h nid K = K (evA tm x) none [] := rfl
theorem sd_assign {x : Operand} : opS P (.assign x) tm h nid K = K (evA tm x) none [] := rfl
def pickD (c a b : AV) (K : AV → Option (Nat × Ob) → List Nat → Prop) : Prop := match c with | .bool t => if t = true then K a none [] else K b none [] | _ => False
theorem pickD_bool {t : Bool} {a b : AV} : pickD (.bool t) a b K = if t = true then K a none [] else K b none [] := rfl
theorem sd_pick {c a b : Operand} : opS P (.pick c a b) tm h nid K = pickD (evA tm c) (evA tm a) (evA tm b) K := by
  rw [opS_ef rfl rfl rfl]
  simp only [opD]
  cases evA tm c <;> first
    | rfl
    | (simp only [pickD, dE_non]; split <;> rfl)
theorem sd_load {t : TypeId} {a : Operand} : opS P (.load t a) tm h nid K = dV (opLoad P t (evA tm a) h.get) (topId (evA tm a)) K := opS_pure rfl rfl (by simp [rdOf, rkOp, Op.operands])
theorem sd_build {t : TypeId} {ps : Array (Nat × Operand)} : opS P (.build t ps) tm h nid K = dV (opBuild P t (ps.toList.map fun p => (p.1, evA tm p.2))) [] K := opS_pure rfl rfl rfl
theorem sd_nilCheck {x : Operand} : opS P (.nilCheck x) tm h nid K = dV (opNilCheck (evA tm x) h.get) (topId (evA tm x)) K := opS_pure rfl rfl (by simp [rdOf, rkOp, Op.operands])
theorem sd_bin {op : BinOp} {t t' : TypeId} {x y : Operand} : opS P (.binOp op t x y t') tm h nid K = dV (opBinAny P op t (evA tm x) (evA tm y)) [] K := opS_pure rfl rfl rfl
theorem sd_un {op : UnOp} {t : TypeId} {x : Operand} : opS P (.unOp op t x) tm h nid K = dV (opUn op (evA tm x)) [] K := opS_pure rfl rfl rfl
theorem sd_convert {s d : TypeId} {x : Operand} : opS P (.convert s d x) tm h nid K = dV (opConvert P s d (evA tm x)) [] K := opS_pure rfl rfl rfl
theorem sd_makeFunc {f : Fn} {a c : Array Operand} : opS P (.makeFunc f a c) tm h nid K = K (.fn f (a.toList.map (evA tm)) (c.toList.map (evA tm))) none [] := rfl
theorem sd_slice {t : TypeId} {x : Operand} {lo hi : Option Operand} : opS P (.slice t x lo hi none) tm h nid K = dV (opSlice P t (evA tm x) (lo.map (evA tm)) (hi.map (evA tm)) h.get) (rdOf (.slice t x lo hi none) tm) K := opS_pure rfl rfl rfl
theorem dE_iteb {b : Bool} {a : Option (AV × Ef)} {rd : List Nat} : dE (if b = true then a else none) nid rd K = (b = true ∧ dE a nid rd K) := dE_ite
theorem dE_pure {r : Option AV} {rd : List Nat} : dE (Proofs.YtfdfkmcplhloaaaGreat.non r) nid rd K = dV r rd K := by cases r <;> rfl
theorem sd_fieldAddr {t : TypeId} {x : Operand} {f : Nat} : opS P (.fieldAddr t x f) tm h nid K = (live (evA tm x) h.get = true ∧ dV (opFieldAddr P t (evA tm x) f) (topId (evA tm x)) K) := by
  rw [opS_ef (rd := topId (evA tm x)) rfl rfl (by simp [rdOf, rkOp, Op.operands])]
  simp only [opD, dE_iteb, dE_pure]
theorem sd_field {t : TypeId} {x : Operand} {f : Nat} : opS P (.field t x f) tm h nid K = dV (opField P t (evA tm x) f) [] K := opS_pure rfl rfl rfl
theorem sd_indexAddr {t : TypeId} {x y : Operand} : opS P (.indexAddr t x y) tm h nid K = (hasInfo P t = true ∧ dV (opIndexAddr P t (evA tm x) (evA tm y) h.get) (topId (evA tm x) ++ topId (evA tm y)) K) := by
  rw [opS_ef (rd := topId (evA tm x) ++ topId (evA tm y)) rfl rfl (by simp [rdOf, rkOp, Op.operands])]
  simp only [opD, dE_iteb, dE_pure]
theorem sd_extract {x : Operand} {j : Nat} : opS P (.extract x j) tm h nid K = dV (opExtract (evA tm x) j) [] K := opS_pure rfl rfl rfl
theorem sd_len {t : TypeId} {x : Operand} : opS P (.call ⟨.builtin .len, #[x], #[t]⟩) tm h nid K = dV (opLen P t (evA tm x) h.get) (topId (evA tm x)) K := opS_pure rfl rfl (by simp [rdOf, rkOp, Op.operands, Call.operands])
theorem sd_append {t : TypeId} {s x : Operand} : opS P (.call ⟨.builtin .append, #[s, x], #[t, t]⟩) tm h nid K = dE (opAppend P t (evA tm s) (evA tm x) h.get nid) nid (topId (evA tm s) ++ topId (evA tm x)) K := by
  rw [opS_ef (rd := topId (evA tm s) ++ topId (evA tm x)) rfl rfl (by simp [rdOf, rkOp, Op.operands, Call.operands])]
  simp only [opD, opCallB, List.map_cons, List.map_nil, if_true]
theorem sd_copy {t : TypeId} {s x : Operand} : opS P (.call ⟨.builtin .copy, #[s, x], #[t, t]⟩) tm h nid K = dE (opCopy P t (evA tm s) (evA tm x) h.get) nid (topId (evA tm s) ++ topId (evA tm x)) K := by
  rw [opS_ef (rd := topId (evA tm s) ++ topId (evA tm x)) rfl rfl (by simp [rdOf, rkOp, Op.operands, Call.operands])]
  simp only [opD, opCallB, List.map_cons, List.map_nil, if_true]
theorem sd_store {t : TypeId} {a x : Operand} : opS P (.store t a x) tm h nid K = dS (opStore P t (evA tm a) (evA tm x) h.get) nid (topId (evA tm a) ++ topId (evA tm x)) K := by
  rw [opS_ef (rd := topId (evA tm a) ++ topId (evA tm x)) rfl rfl (by simp [rdOf, rkOp, Op.operands])]
  simp only [opD]
  cases opStore P t (evA tm a) (evA tm x) h.get <;> rfl
theorem sd_box {E : TypeId} {x : Operand} : opS P (.box E x) tm h nid K = ((evA tm x).okc = true ∧ K (.ptr nid 1 0 0) (some (nid, .arr E (evA tm x).cells.length [evA tm x])) []) := by
  rw [opS_ef (rd := []) rfl rfl rfl]
  simp only [opD, opBox, dE_iteb, dE_new]
def allocD (E : TypeId) (z : Option AV) (nid : Nat) (K : AV → Option (Nat × Ob) → List Nat → Prop) : Prop := match z with | some z => z.okc = true ∧ K (.ptr nid 1 0 0) (some (nid, .arr E z.cells.length [z])) [] | none => False
theorem allocD_some {E : TypeId} {z : AV} : allocD E (some z) nid K = (z.okc = true ∧ K (.ptr nid 1 0 0) (some (nid, .arr E z.cells.length [z])) []) := rfl
theorem sd_alloc {E : TypeId} : opS P (.alloc E) tm h nid K = allocD E (zeroA P E) nid K := by
  rw [opS_ef (rd := []) rfl rfl rfl]
  simp only [opD, opAlloc]
  cases zeroA P E with
  | none => rfl
  | some z => simp only [Option.bind_some, opBox, dE_iteb, dE_new, allocD_some]
theorem sd_buildSlice {t : TypeId} {len : Nat} {ps : Array (Nat × Operand)} : opS P (.buildSlice t len ps) tm h nid K = dE (opBuildSlice P t len (ps.toList.map fun p => (p.1, evA tm p.2)) nid) nid [] K := opS_ef rfl rfl rfl
theorem sd_makeSlice {t : TypeId} {l c : Operand} : opS P (.makeSlice t l c) tm h nid K = dE (opMakeSlice P t (evA tm l) (evA tm c) nid) nid [] K := opS_ef rfl rfl rfl
theorem sd_lookup {t : TypeId} {m k : Operand} {ok : Bool} : opS P (.lookup t m k ok) tm h nid K = dV (opLookup P t (evA tm m) (evA tm k) ok h.get) (topId (evA tm m) ++ topId (evA tm k)) K := opS_pure rfl rfl (by simp [rdOf, rkOp, Op.operands])
theorem sd_mapUpdate {t : TypeId} {m k x : Operand} : opS P (.mapUpdate t m k x) tm h nid K = dS (opUpd P t (evA tm m) (evA tm k) (evA tm x) h.get) nid (topId (evA tm m) ++ topId (evA tm k) ++ topId (evA tm x)) K := by
  rw [opS_ef (rd := topId (evA tm m) ++ topId (evA tm k) ++ topId (evA tm x)) rfl rfl (by simp [rdOf, rkOp, Op.operands])]
  simp only [opD]
  cases opUpd P t (evA tm m) (evA tm k) (evA tm x) h.get <;> rfl
def newD (p : Option (TypeId × TypeId)) (nid : Nat) (K : AV → Option (Nat × Ob) → List Nat → Prop) : Prop := match p with | some p => K (.map nid) (some (nid, .map p.1 p.2 [] [])) [] | none => False
theorem newD_some {a b : TypeId} : newD (some (a, b)) nid K = K (.map nid) (some (nid, .map a b [] [])) [] := rfl
theorem sd_makeMap {t : TypeId} : opS P (.makeMap t none) tm h nid K = newD (mapKV t P) nid K := by
  rw [opS_ef (rd := []) rfl rfl rfl]
  simp only [opD]
  cases mapKV t P with
  | none => rfl
  | some p => simp only [Option.map_some, dE_new, newD]
theorem top_cmap {a b : List AV} : topId (.cmap a b) = [] := rfl
theorem sd_call {f : Operand} {args : Array Operand} {ts : Array TypeId} : opS P (.call ⟨.value f, args, ts⟩) tm h nid K = CallD P (evA tm f) (args.toList.map (evA tm)) h.get nid K := rfl

theorem top_ptr {a b c d : Nat} : topId (.ptr a b c d) = [a] := rfl
theorem top_sl {a b c d : Nat} : topId (.sl a b c d) = [a] := rfl
theorem top_map {a : Nat} : topId (.map a) = [a] := rfl
theorem top_int {k : IntKind} {j : Int} : topId (.int k j) = [] := rfl
theorem top_bool {b : Bool} : topId (.bool b) = [] := rfl
theorem top_lst {xs : List AV} : topId (.lst xs) = [] := rfl
theorem top_nil0 : topId .nil0 = [] := rfl
theorem top_cptr {v : AV} : topId (.cptr v) = [] := rfl
theorem top_agg {xs : List AV} : topId (.agg xs) = [] := rfl
theorem top_fn {f : Fn} {a b : List AV} : topId (.fn f a b) = [] := rfl

theorem seps_nil {log : List (Option Nat × List Nat)} : seps log [] = True := by simp [seps]
theorem seps_cons {log : List (Option Nat × List Nat)} {p : Nat × Nat} {ps : List (Nat × Nat)} : seps log (p :: ps) = (sepAt log p ∧ seps log ps) := by simp [seps]
def sepO (a b : Option (Option Nat × List Nat)) : Prop := match a, b with | some a, some b => sep a b | _, _ => True
theorem sepAt_eq {log : List (Option Nat × List Nat)} {j k : Nat} : sepAt log (j, k) = sepO log[j]? log[k]? := rfl
theorem sepO_some {a b : Option Nat × List Nat} : sepO (some a) (some b) = sep a b := rfl
theorem sep_nn {a b : List Nat} : sep (none, a) (none, b) = True := by simp [sep]
theorem sep_sn {j : Nat} {a b : List Nat} : sep (some j, a) (none, b) = (j ∉ b) := by simp [sep]
theorem sep_ns {j : Nat} {a b : List Nat} : sep (none, a) (some j, b) = (j ∉ a) := by simp [sep]
theorem sep_ss {j k : Nat} {a b : List Nat} : sep (some j, a) (some k, b) = ((j ∉ b ∧ ¬ k = j) ∧ k ∉ a) := by simp [sep]
end

section
variable {P : Program} {n : Nat} {tm : Tm} {h : Hp}
def Hp.up (h : Hp) (m : Nat) : Hp := ⟨h.get, h.nx + m⟩
theorem get_up {m : Nat} : (h.up m).get = h.get := rfl
theorem nx_up {m : Nat} : (h.up m).nx = h.nx + m := rfl
theorem get_empty {m j : Nat} : (Hp.empty m).get j = none := rfl
theorem nx_empty {m : Nat} : (Hp.empty m).nx = m := rfl
theorem wpT_drawn {ro : Option Nat} {k : List Item} {R : Exit → Tm → Hp → Prop} {id m : Nat} {l : List Oper} (pairs : List (Nat × Nat)) (hm : P.follows .mixedOrders = true) (hok : drawOk n l pairs = true) (hl : l.length = m)
    (hw : ∀ K : Tm → Hp → Prop, (∀ tm' h', wpT P ro n k R tm' h' → K tm' h') → regDraw P l h.nx l 0 tm (h.up m) (fun log tm' h' => seps log pairs ∧ K tm' h')) :
    wpT P ro n (.code (.region id l.toArray true) :: k) R tm h := wpT_draw pairs hm hok (hl ▸ hw)

/-! ### Splitting at a guard, leaves -/
theorem guardO_split {all rest : List Oper} {d : Option Nat} {op : Op} {K : Tm → Hp → Prop} {want b : Bool} (h1 : b = want → stepO P op tm h (kont P n all rest tm d K)) (h2 : b = (!want) → regSeq P n all rest (tm.put d (.tup [])) h K) : guardO P n all d op rest tm h K want (.bool b) := by
  rw [guardO_bool]
  by_cases e : b = want
  · rw [if_pos e]; exact h1 e
  · rw [if_neg e]; exact h2 (by cases b <;> cases want <;> simp_all)
theorem guardO_tt {all rest : List Oper} {d : Option Nat} {op : Op} {K : Tm → Hp → Prop} : guardO P n all d op rest tm h K true (.bool true) = stepO P op tm h (kont P n all rest tm d K) := rfl
theorem guardO_ff {all rest : List Oper} {d : Option Nat} {op : Op} {K : Tm → Hp → Prop} : guardO P n all d op rest tm h K false (.bool false) = stepO P op tm h (kont P n all rest tm d K) := rfl
theorem guardO_tf {all rest : List Oper} {d : Option Nat} {op : Op} {K : Tm → Hp → Prop} : guardO P n all d op rest tm h K true (.bool false) = regSeq P n all rest (tm.put d (.tup [])) h K := rfl
theorem guardO_ft {all rest : List Oper} {d : Option Nat} {op : Op} {K : Tm → Hp → Prop} : guardO P n all d op rest tm h K false (.bool true) = regSeq P n all rest (tm.put d (.tup [])) h K := rfl
section
variable {all rest : List Oper} {base i : Nat} {d : Option Nat} {op : Op} {ty : TypeId} {pos : String} {aft : Array Edge} {gd : Option (Nat × Bool)} {L : List (Option Nat × List Nat) → Tm → Hp → Prop}
theorem guardD_split {want b : Bool} (h1 : b = want → opS P op tm h (base + i) (kontD P all base rest i tm d h L)) (h2 : b = (!want) → regDraw P all base rest (i + 1) (tm.put d (.tup [])) h fun l => L ((none, []) :: l)) : guardD P all base ⟨d, op, ty, pos, aft, gd⟩ rest i tm h L want (.bool b) := by
  rw [guardD_bool]
  by_cases e : b = want
  · rw [if_pos e]; exact h1 e
  · rw [if_neg e]; exact h2 (by cases b <;> cases want <;> simp_all)
theorem guardD_tt : guardD P all base ⟨d, op, ty, pos, aft, gd⟩ rest i tm h L true (.bool true) = opS P op tm h (base + i) (kontD P all base rest i tm d h L) := rfl
theorem guardD_ff : guardD P all base ⟨d, op, ty, pos, aft, gd⟩ rest i tm h L false (.bool false) = opS P op tm h (base + i) (kontD P all base rest i tm d h L) := rfl
theorem guardD_tf : guardD P all base ⟨d, op, ty, pos, aft, gd⟩ rest i tm h L true (.bool false) = regDraw P all base rest (i + 1) (tm.put d (.tup [])) h fun l => L ((none, []) :: l) := rfl
theorem guardD_ft : guardD P all base ⟨d, op, ty, pos, aft, gd⟩ rest i tm h L false (.bool true) = regDraw P all base rest (i + 1) (tm.put d (.tup [])) h fun l => L ((none, []) :: l) := rfl
end
theorem wpT_ifT {ro : Option Nat} {R : Exit → Tm → Hp → Prop} {k : List Item} {c : Operand} {x y : Code} (hc : evA tm c = .bool true) (hw : wpT P ro n (.code x :: k) R tm h) : wpT P ro n (.code (.cond c x y) :: k) R tm h := wpT_if hc (fun _ => hw) fun e => by simp at e
theorem wpT_ifF {ro : Option Nat} {R : Exit → Tm → Hp → Prop} {k : List Item} {c : Operand} {x y : Code} (hc : evA tm c = .bool false) (hw : wpT P ro n (.code y :: k) R tm h) : wpT P ro n (.code (.cond c x y) :: k) R tm h := wpT_if hc (fun e => by simp at e) fun _ => hw
variable {g : Nat → Option Ob}
theorem res_nil : resA P tm g [] = some [] := rfl
theorem res_tmp {t : Nat} {rs : List ResultVar} : resA P tm g (.tmp t :: rs) = (resA P tm g rs).map fun l => tm t :: l := rfl
theorem res_cell {a t : Nat} {rs : List ResultVar} : resA P tm g (.cell a t :: rs) = (opLoad P t (tm a) g).bind fun v => (resA P tm g rs).map fun l => v :: l := rfl
theorem optK_some {α : Type} {a : α} {K : α → Prop} : optK (some a) K = K a := rfl
theorem ret_one {v : AV} : retA [v] = v := rfl
theorem ret_nil : retA [] = .tup [] := rfl
theorem ret_two {v w : AV} {l : List AV} : retA (v :: w :: l) = .tup (v :: w :: l) := rfl
theorem Lend.eq {a b : AV} (h : a = b) : Lend g a b := h ▸ .refl a
theorem LendL.eq {a b : List AV} (h : a = b) : LendL g a b := h ▸ LendL.refl a

/-! ### What is kept of the memory -/
section
variable {ro : Option Nat} {todo : List Item} {R : Exit → Tm → Hp → Prop}
theorem wpT_keep0 (hw : wpT P ro n todo R tm (Hp.of [] h.nx)) : wpT P ro n todo R tm h := wpT_drop [] (by simp) (Nat.le_refl _) hw
theorem wpT_keep1 {i : Nat} {o : Ob} (h1 : h.get i = some o) (hw : wpT P ro n todo R tm (Hp.of [(i, o)] h.nx)) : wpT P ro n todo R tm h := wpT_drop _ (by simp [h1]) (Nat.le_refl _) hw
theorem wpT_keep2 {i j : Nat} {o q : Ob} (h1 : h.get i = some o) (h2 : h.get j = some q) (hw : wpT P ro n todo R tm (Hp.of [(i, o), (j, q)] h.nx)) : wpT P ro n todo R tm h := wpT_drop _ (by simp [h1, h2]) (Nat.le_refl _) hw
theorem wpT_keep3 {i j k : Nat} {o q r : Ob} (h1 : h.get i = some o) (h2 : h.get j = some q) (h3 : h.get k = some r) (hw : wpT P ro n todo R tm (Hp.of [(i, o), (j, q), (k, r)] h.nx)) : wpT P ro n todo R tm h := wpT_drop _ (by simp [h1, h2, h3]) (Nat.le_refl _) hw
theorem wpT_keep4 {i j k l : Nat} {o q r s : Ob} (h1 : h.get i = some o) (h2 : h.get j = some q) (h3 : h.get k = some r) (h4 : h.get l = some s) (hw : wpT P ro n todo R tm (Hp.of [(i, o), (j, q), (k, r), (l, s)] h.nx)) : wpT P ro n todo R tm h := wpT_drop _ (by simp [h1, h2, h3, h4]) (Nat.le_refl _) hw
theorem wpT_keep5 {i j k l m : Nat} {o q r s u : Ob} (h1 : h.get i = some o) (h2 : h.get j = some q) (h3 : h.get k = some r) (h4 : h.get l = some s) (h5 : h.get m = some u) (hw : wpT P ro n todo R tm (Hp.of [(i, o), (j, q), (k, r), (l, s), (m, u)] h.nx)) : wpT P ro n todo R tm h := wpT_drop _ (by simp [h1, h2, h3, h4, h5]) (Nat.le_refl _) hw
end

theorem ex_tup {xs : List AV} {i : Nat} : opExtract (.tup xs) i = xs[i]? := rfl
/-! ### Ids -/
theorem idf_int {k : IntKind} {j : Int} : Idf (.int k j) = True := eq_true (.int k j)
theorem idf_bool {b : Bool} : Idf (.bool b) = True := eq_true (.bool b)
theorem idf_nil0 : Idf .nil0 = True := eq_true .nil0
theorem idf_nilf : Idf .nilf = True := eq_true .nilf
theorem idf_nilm : Idf .nilm = True := eq_true .nilm
theorem idf_nilp : Idf .nilp = True := eq_true .nilp
theorem idf_lst {xs : List AV} : Idf (.lst xs) = ∀ x ∈ xs, Idf x := propext ⟨fun h => by cases h; assumption, .lst xs⟩
theorem idf_agg {xs : List AV} : Idf (.agg xs) = ∀ x ∈ xs, Idf x := propext ⟨fun h => by cases h; assumption, .agg xs⟩
theorem idf_tup {xs : List AV} : Idf (.tup xs) = ∀ x ∈ xs, Idf x := propext ⟨fun h => by cases h; assumption, .tup xs⟩
theorem idf_cptr {v : AV} : Idf (.cptr v) = Idf v := propext ⟨fun h => by cases h; assumption, .cptr v⟩
theorem idf_fn {f : Fn} {a b : List AV} : Idf (.fn f a b) = ((∀ x ∈ a, Idf x) ∧ ∀ x ∈ b, Idf x) := propext ⟨fun h => by cases h; exact ⟨‹_›, ‹_›⟩, fun h => .fn f a b h.1 h.2⟩
theorem all_nil {p : AV → Prop} : (∀ x ∈ ([] : List AV), p x) = True := by simp
theorem all_cons {p : AV → Prop} {a : AV} {l : List AV} : (∀ x ∈ a :: l, p x) = (p a ∧ ∀ x ∈ l, p x) := by simp
theorem all_map {α : Type} {p : AV → Prop} {f : α → AV} {l : List α} : (∀ x ∈ l.map f, p x) = ∀ x ∈ l, p (f x) := by simp

theorem pu_func {f : FuncId} {fn : Func} {c : Code} {first caps args : List AV} {r : AV} (hf : P.funcs[f]? = some fn) (hb : fn.body = some c) (hname : (fn.name == "runtime.NumGoroutine") = false)
    (hlen : (first ++ args ++ caps).length ≤ fn.ntmps) (hr : Idf r) (hfv : Idf (.fn (.func f) first caps)) (ha : ∀ a ∈ args, Idf a)
    (hw : wpT P none fn.ntmps [.code c] (fun e tm' h' => (e = .normal ∨ e = .ret) ∧ optK (resA P tm' h'.get fn.results.toList) fun vs => Lend h'.get (retA vs) r) (tm0 (first ++ args ++ caps)) (Hp.empty 0)) :
    Pu P (.fn (.func f) first caps) args r := ⟨pure_func hf hb hname hlen hw, hr, hfv, ha⟩
end
end Go.Proofs.YtfdfkmcplhloaaaGreat
end

section
set_option linter.unusedSimpArgs false
set_option linter.unusedVariables false
namespace Go.Proofs.YtfdfkmcplhloaaaGreat
section
variable {P : Program} {tm : Tm} {h : Hp} {g : Nat → Option Ob} {Kv : AV → Hp → Prop}

theorem optS_ite {c : Prop} [Decidable c] {a : Option Ef} : optS (if c then a else none) Kv h = (c ∧ optS a Kv h) := by split <;> simp [*, optS]
theorem dS_ite {c : Prop} [Decidable c] {a : Option Ef} {nid : Nat} {rd : List Nat} {K : AV → Option (Nat × Ob) → List Nat → Prop} : dS (if c then a else none) nid rd K = (c ∧ dS a nid rd K) := by split <;> simp [*, dS]

/-! ### len -/
def lenO (tot len : Nat) (o : Option Ob) : Option AV := match o with
  | some (.arr _ _ es) => if es.length = tot then some (.int .i64 len) else none
  | _ => none
theorem lenO_some {tot len E s : Nat} {es : List AV} : lenO tot len (some (.arr E s es)) = if es.length = tot then some (.int .i64 len) else none := rfl
theorem lenT_lst {t e : TypeId} (hu : sliceElem P t = some e) (xs : List AV) (g : Nat → Option Ob) : opLen P t (.lst xs) g = some (.int .i64 xs.length) := len_lst hu
theorem lenT_nil0 {t e : TypeId} (hu : sliceElem P t = some e) (g : Nat → Option Ob) : opLen P t .nil0 g = some (.int .i64 0) := len_nil0 hu
theorem lenT_sl {t e : TypeId} (hu : sliceElem P t = some e) (id tot off len : Nat) (g : Nat → Option Ob) : opLen P t (.sl id tot off len) g = lenO tot len (g id) := by
  simp only [opLen, sliceElem_spec hu]
  rfl

/-! ### indices -/
def idxO (c : Nat) (o : Option AV) : Option AV := o.bind fun v => if v.cells.length = c then some (.cptr v) else none
theorem idxO_some {c : Nat} {v : AV} : idxO c (some v) = if v.cells.length = c then some (.cptr v) else none := rfl
def iaO (c id tot off len : Nat) (n : Int) (o : Option Ob) : Option AV := match o with
  | some (.arr _ s es) => if es.length = tot ∧ s = c ∧ off + len ≤ tot then (if 0 ≤ n ∧ n < len then some (.ptr id tot (off + n.toNat) 0) else none) else none
  | _ => none
theorem iaO_some {c id tot off len E s : Nat} {n : Int} {es : List AV} : iaO c id tot off len n (some (.arr E s es)) = if es.length = tot ∧ s = c ∧ off + len ≤ tot then (if 0 ≤ n ∧ n < len then some (.ptr id tot (off + n.toNat) 0) else none) else none := rfl
theorem iaT_lst {t e c : Nat} (hu : sliceElem P t = some e) (hc : P.cellsOf e = c) (xs : List AV) (k : IntKind) (i : Nat) (g : Nat → Option Ob) : opIndexAddr P t (.lst xs) (.int k i) g = idxO c xs[i]? := by
  simp only [opIndexAddr, hu, Option.bind_some, hc, Int.toNat_natCast]
  split
  · rfl
  · rename_i hn
    have : xs[i]? = none := List.getElem?_eq_none (by omega)
    rw [this]; rfl
theorem iaT_lst0 {t e c : Nat} (hu : sliceElem P t = some e) (hc : P.cellsOf e = c) (xs : List AV) (k : IntKind) (g : Nat → Option Ob) : opIndexAddr P t (.lst xs) (.int k 0) g = idxO c xs[0]? := by
  simpa using iaT_lst hu hc xs k 0 g
theorem iaT_sl {t e c : Nat} (hu : sliceElem P t = some e) (hc : P.cellsOf e = c) (id tot off len : Nat) (k : IntKind) (n : Int) (g : Nat → Option Ob) : opIndexAddr P t (.sl id tot off len) (.int k n) g = iaO c id tot off len n (g id) := by
  simp only [opIndexAddr, hu, Option.bind_some, hc]
  rfl

/-! ### fields -/
def fcO (b : Bool) (o : Option AV) : Option AV := o.bind fun r => if r.okc = true ∧ (r.isAgg = true → b = true) then some (.cptr r) else none
theorem fcO_some {b : Bool} {r : AV} : fcO b (some r) = if r.okc = true ∧ (r.isAgg = true → b = true) then some (.cptr r) else none := rfl
def fieldTO (P : Program) (t f : Nat) : Option (Nat × Nat) := (fieldOf P t f).map fun fl => (fl.type, fl.offset)
theorem fieldTO_spec {t f ft o : Nat} (h : fieldTO P t f = some (ft, o)) : ∃ fl, fieldOf P t f = some fl ∧ fl.type = ft ∧ fl.offset = o := by
  simpa [fieldTO, Option.map_eq_some_iff] using h
theorem fpT {t f ft o : Nat} (hf : fieldTO P t f = some (ft, o)) (hz : (P.cellsOf ft == 0) = false) (id tot i off : Nat) : opFieldAddr P t (.ptr id tot i off) f = some (.ptr id tot i (off + o)) := by
  obtain ⟨fl, hf', rfl, rfl⟩ := fieldTO_spec hf
  exact fa_ptr hf' (by simpa using hz)
theorem fcT {t f ft o : Nat} {b : Bool} (hf : fieldTO P t f = some (ft, o)) (hz : (P.cellsOf ft == 0) = false) (hb : aggT P ft = some b) (v : AV) : opFieldAddr P t (.cptr v) f = fcO b (partA P ft v.cells o) := by
  obtain ⟨fl, hf', rfl, rfl⟩ := fieldTO_spec hf
  have hz' : P.cellsOf fl.type ≠ 0 := by simpa using hz
  simp only [opFieldAddr, hf', Option.bind_some, if_neg hz', hb, fcO, Option.some.injEq]
theorem fgT {t f ft o : Nat} (hf : fieldTO P t f = some (ft, o)) (xs : List AV) : opField P t (.agg xs) f = partA P ft xs o := by
  obtain ⟨fl, hf', rfl, rfl⟩ := fieldTO_spec hf
  exact fld_agg hf'
theorem paT {t : Nat} (hb : aggT P t = some false) (cs : List AV) (o : Nat) : partA P t cs o = cs[o]? := partA_cell hb
theorem paT' {t c : Nat} (hb : aggT P t = some true) (hc : P.cellsOf t = c) (cs : List AV) (o : Nat) : partA P t cs o = if o + c ≤ cs.length then some (.agg ((cs.drop o).take c)) else none := by
  subst hc
  simp [partA, hb]
theorem lvT {t : Nat} (hb : aggT P t = some false) (v : AV) (o : Nat) : loadV P t v o = v.cells[o]? := loadV_cell hb
theorem lvT' {t c : Nat} (hb : aggT P t = some true) (hc : P.cellsOf t = c) (xs : List AV) : loadV P t (.agg xs) 0 = if xs.length = c then some (.agg xs) else if 0 + c ≤ xs.length then some (.agg ((xs.drop 0).take c)) else none := by
  subst hc
  simp [loadV, hb, AV.isAgg, AV.cells]

/-! ### stores -/
def stO (c id tot i off : Nat) (x : AV) (o : Option Ob) : Option Ef := match o with
  | some (.arr E s es) => if es.length = tot then (es[i]?).bind fun e => if x.okc = true ∧ x.cells.length = c ∧ off + x.cells.length ≤ e.cells.length then some (.set id (.arr E s (es.set i (storeV e off x)))) else none else none
  | _ => none
theorem stT {t c : Nat} (hc : P.cellsOf t = c) (hz : (c == 0) = false) (id tot i off : Nat) (x : AV) (g : Nat → Option Ob) : opStore P t (.ptr id tot i off) x g = stO c id tot i off x (g id) := by
  subst hc
  have hz' : P.cellsOf t ≠ 0 := by simpa using hz
  simp only [opStore, stO]
  cases g id with
  | none => rfl
  | some o => cases o <;> simp [hz']
theorem stO_one {c id off E s : Nat} {x e : AV} : stO c id 1 0 off x (some (.arr E s [e])) = if x.okc = true ∧ x.cells.length = c ∧ off + x.cells.length ≤ e.cells.length then some (.set id (.arr E s [storeV e off x])) else none := rfl
theorem stO_at {c id tot i off E s : Nat} {x e : AV} {es : List AV} (hl : es.length = tot) (he : es[i]? = some e) : stO c id tot i off x (some (.arr E s es)) = if x.okc = true ∧ x.cells.length = c ∧ off + x.cells.length ≤ e.cells.length then some (.set id (.arr E s (es.set i (storeV e off x)))) else none := by
  simp [stO, hl, he]
theorem sv_one {e x : AV} (h1 : e.isAgg = false) (h2 : x.isAgg = false) : storeV e 0 x = x := by
  cases e <;> cases x <;> simp_all [storeV, AV.isAgg, AV.cells]
theorem sv_oneb {e x : AV} (h : (e.isAgg || x.isAgg) = false) : storeV e 0 x = x := by
  simp only [Bool.or_eq_false_iff] at h
  exact sv_one h.1 h.2
theorem sv_whole {xs ys : List AV} (h1 : ys.length = xs.length) : storeV (.agg xs) 0 (.agg ys) = .agg ys := by
  simp [storeV, AV.isAgg, AV.cells, h1]
theorem sv_cell {xs : List AV} {x : AV} {off : Nat} (h2 : x.isAgg = false) (h3 : off < xs.length) : storeV (.agg xs) off x = .agg (xs.set off x) := by
  have hx : x.cells = [x] := by cases x <;> simp_all [AV.isAgg, AV.cells]
  have e : (AV.agg xs).cells = xs := rfl
  unfold storeV
  rw [if_neg (fun hh => by have := hh.2.2; rw [h2] at this; simp [AV.isAgg] at this), e, hx, List.length_singleton, List.set_eq_take_append_cons_drop, if_pos h3]
  simp

theorem sv_cellb {xs : List AV} {x : AV} {off : Nat} (h : (!x.isAgg && decide (off < xs.length)) = true) : storeV (.agg xs) off x = .agg (xs.set off x) := by
  simp only [Bool.and_eq_true, Bool.not_eq_true', decide_eq_true_eq] at h
  exact sv_cell h.1 h.2

/-! ### build -/
def bdO (pl : List (Nat × Nat)) (z : List AV) (parts : List (Nat × AV)) : Option AV := (fillL (pl[·]?) z parts).map .agg
theorem bdT {t : Nat} {pl : List (Nat × Nat)} {z : List AV} (hp : placeL P t = some pl) (hz : zeroA P t = some (.agg z)) (parts : List (Nat × AV)) : opBuild P t parts = bdO pl z parts := by
  simp [opBuild, hp, hz, AV.isAgg, AV.cells, bdO]
theorem bdO_nil {pl : List (Nat × Nat)} {z : List AV} : bdO pl z [] = some (.agg z) := rfl
theorem bdO_cons {pl : List (Nat × Nat)} {z : List AV} {i o : Nat} {v : AV} {rest : List (Nat × AV)} (hp : pl[i]? = some (o, 1)) (h1 : v.isAgg = false) (h2 : v.okc = true) (h3 : o < z.length) : bdO pl z ((i, v) :: rest) = bdO pl (z.set o v) rest := by
  have hx : v.cells = [v] := by cases v <;> simp_all [AV.isAgg, AV.cells]
  simp only [bdO, fillL, hp, Option.bind_some, hx, List.length_singleton, h2, true_and]
  rw [if_pos (by omega), List.set_eq_take_append_cons_drop, if_pos h3]
  simp
/-- One part more. -/
def bdP (pl : List (Nat × Nat)) (z : List AV) (v : AV) (rest : List (Nat × AV)) : Option (Nat × Nat) → Option AV
  | some (o, c) => if v.isAgg = false then (if (v.okc && (c == 1) && decide (o < z.length)) = true then bdO pl (z.set o v) rest else none) else (if (v.okc && (v.cells.length == c) && decide (o + c ≤ z.length)) = true then bdO pl (z.take o ++ v.cells ++ z.drop (o + c)) rest else none)
  | none => none
theorem bdP_some {pl : List (Nat × Nat)} {z : List AV} {v : AV} {rest : List (Nat × AV)} {o c : Nat} : bdP pl z v rest (some (o, c)) = if v.isAgg = false then (if (v.okc && (c == 1) && decide (o < z.length)) = true then bdO pl (z.set o v) rest else none) else (if (v.okc && (v.cells.length == c) && decide (o + c ≤ z.length)) = true then bdO pl (z.take o ++ v.cells ++ z.drop (o + c)) rest else none) := rfl
theorem bdO_step {pl : List (Nat × Nat)} {z : List AV} {i : Nat} {v : AV} {rest : List (Nat × AV)} : bdO pl z ((i, v) :: rest) = bdP pl z v rest pl[i]? := by
  cases hp : pl[i]? with
  | none => simp [bdO, fillL, hp, bdP]
  | some p =>
    obtain ⟨o, c⟩ := p
    simp only [bdO, fillL, hp, Option.bind_some, bdP]
    cases hv : v.isAgg with
    | false =>
      have hx : v.cells = [v] := by cases v <;> simp_all [AV.isAgg, AV.cells]
      simp only [hx, List.length_singleton, if_true]
      by_cases h1 : v.okc = true ∧ 1 = c ∧ o + c ≤ z.length
      · obtain ⟨h1, rfl, h3⟩ := h1
        rw [if_pos ⟨h1, rfl, h3⟩, if_pos (by simp [h1]; omega), List.set_eq_take_append_cons_drop, if_pos (by omega)]
        simp
      · rw [if_neg h1, if_neg (by simp only [Bool.and_eq_true, beq_iff_eq, decide_eq_true_eq]; rintro ⟨⟨a, b⟩, c'⟩; exact h1 ⟨a, b.symm, by omega⟩)]
        rfl
    | true =>
      simp only [Bool.true_eq_false, if_false]
      by_cases h1 : v.okc = true ∧ v.cells.length = c ∧ o + c ≤ z.length
      · rw [if_pos h1, if_pos (by simp [h1]), h1.2.1]
      · rw [if_neg h1, if_neg (by simp only [Bool.and_eq_true, beq_iff_eq, decide_eq_true_eq]; rintro ⟨⟨a, b⟩, c'⟩; exact h1 ⟨a, b, c'⟩)]
        rfl
theorem bdO_part {pl : List (Nat × Nat)} {z : List AV} {i o c : Nat} {xs : List AV} {rest : List (Nat × AV)} (hp : pl[i]? = some (o, c)) (h1 : xs.length = c) (h3 : o + c ≤ z.length) : bdO pl z ((i, .agg xs) :: rest) = bdO pl (z.take o ++ xs ++ z.drop (o + c)) rest := by
  simp only [bdO, fillL, hp, Option.bind_some, AV.cells, AV.okc, true_and]
  rw [if_pos ⟨h1, h3⟩, h1]

/-! ### new slices -/
def bsO (e c : Nat) (z : AV) (len : Nat) (parts : List (Nat × AV)) (nid : Nat) : Option (AV × Ef) := (setAll c (List.replicate len z) parts).map fun es => (.sl nid len 0 len, .new (.arr e c es))
theorem bsT {t e c len : Nat} {z : AV} (hu : sliceElem P t = some e) (hz : zeroOk P e = true) (hc : P.cellsOf e = c) (hza : zeroA P e = some z) (hk : z.okc = true) (hl : z.cells.length = c) (hlen : (decide (0 < len ∧ len * c ≤ 16777216)) = true) (parts : List (Nat × AV)) (nid : Nat) :
    opBuildSlice P t len parts nid = bsO e c z len parts nid := by
  subst hc
  have hlen : 0 < len ∧ len * P.cellsOf e ≤ 16777216 := by simpa using hlen
  simp only [opBuildSlice, hu, Option.bind_some, hz, true_and, hza, hk, hl, hlen, if_true, and_true]
  rw [if_neg (by omega)]
  rfl
theorem bsO_one {e c nid : Nat} {z v : AV} (h1 : v.okc = true) (h2 : v.cells.length = c) : bsO e c z 1 [(0, v)] nid = some (.sl nid 1 0 1, .new (.arr e c [v])) := by
  simp [bsO, setAll, h1, h2]
theorem bsT0 {t e : Nat} (hu : sliceElem P t = some e) (hz : zeroOk P e = true) (nid : Nat) : opBuildSlice P t 0 [] nid = some (.nil0, .non) := by
  simp [opBuildSlice, hu, hz]
def msO (e c by' : Nat) (z : AV) (n k : Int) (nid : Nat) : Option (AV × Ef) := if 0 ≤ n ∧ n ≤ k ∧ k ≤ 9223372036854775807 ∧ (by' : Int) * k ≤ 281474976710656 then some (.sl nid n.toNat 0 n.toNat, .new (.arr e c (List.replicate n.toNat z))) else none
theorem msT {t e c by' : Nat} {z : AV} (hu : sliceElem P t = some e) (hz : zeroOk P e = true) (hc : P.cellsOf e = c) (hb : P.bytesOf e = by') (hza : zeroA P e = some z) (hk : z.okc = true) (hl : z.cells.length = c) (k k' : IntKind) (n m : Int) (nid : Nat) :
    opMakeSlice P t (.int k n) (.int k' m) nid = msO e c by' z n m nid := by
  subst hc; subst hb
  simp only [opMakeSlice, hu, Option.bind_some, hz, if_true, hza, hk, hl, true_and]
  rfl

/-! ### append, copy, cut -/
def apN (e c by' nid : Nat) (xs : List AV) : Option (AV × Ef) := match xs with
  | [] => some (.nil0, .non)
  | x :: xs' => if (x :: xs').length ≤ maxLen ∧ (x :: xs').length * by' ≤ 140737488355328 then some (.sl nid (x :: xs').length 0 (x :: xs').length, .new (.arr e c (x :: xs'))) else none
def apS (e c by' id tot off len : Nat) (xs : List AV) (o : Option Ob) : Option (AV × Ef) := match o with
  | some (.arr E s es) => if es.length = tot ∧ off = 0 ∧ len = tot ∧ E = e ∧ s = c ∧ tot + xs.length ≤ maxLen ∧ (tot + xs.length) * by' ≤ 140737488355328 then some (.sl id (tot + xs.length) 0 (tot + xs.length), .set id (.arr E s (es ++ xs))) else none
  | _ => none
def apO (e c by' nid : Nat) (s : AV) (g : Nat → Option Ob) (xs : Option (List AV)) : Option (AV × Ef) := xs.bind fun xs => if ∀ v ∈ xs, v.cells.length = c then (match s with
  | .nil0 => apN e c by' nid xs
  | .sl id tot off len => apS e c by' id tot off len xs (g id)
  | _ => none) else none
theorem apT {t e c by' : Nat} (hu : sliceElem P t = some e) (hz : zeroOk P e = true) (hc : P.cellsOf e = c) (hb : P.bytesOf e = by') (s x : AV) (g : Nat → Option Ob) (nid : Nat) : opAppend P t s x g nid = apO e c by' nid s g (rdS g x) := by
  subst hc; subst hb
  simp only [opAppend, hu, Option.bind_some, hz, if_true]
  rfl
theorem apO_nil0 {e c by' nid : Nat} {xs : List AV} (hx : ∀ v ∈ xs, v.cells.length = c) : apO e c by' nid .nil0 g (some xs) = apN e c by' nid xs := by
  simp only [apO, Option.bind_some]
  rw [if_pos hx]
theorem apO_sl {e c by' nid id tot off len : Nat} {xs : List AV} (hx : ∀ v ∈ xs, v.cells.length = c) : apO e c by' nid (.sl id tot off len) g (some xs) = apS e c by' id tot off len xs (g id) := by
  simp only [apO, Option.bind_some]
  rw [if_pos hx]
theorem apN_cons {e c by' nid : Nat} {x : AV} {xs : List AV} : apN e c by' nid (x :: xs) = if (x :: xs).length ≤ maxLen ∧ (x :: xs).length * by' ≤ 140737488355328 then some (.sl nid (x :: xs).length 0 (x :: xs).length, .new (.arr e c (x :: xs))) else none := rfl
theorem apN_nil {e c by' nid : Nat} : apN e c by' nid [] = some (.nil0, .non) := rfl
theorem apS_some {e c by' id tot len s : Nat} {xs es : List AV} : apS e c by' id tot 0 len xs (some (.arr e s es)) = if es.length = tot ∧ len = tot ∧ s = c ∧ tot + xs.length ≤ maxLen ∧ (tot + xs.length) * by' ≤ 140737488355328 then some (.sl id (tot + xs.length) 0 (tot + xs.length), .set id (.arr e s (es ++ xs))) else none := by simp [apS]
theorem rd_lst {xs : List AV} : rdS g (.lst xs) = some xs := rfl
theorem rd_nil0 : rdS g .nil0 = some [] := rfl
def rdO (tot off len : Nat) (o : Option Ob) : Option (List AV) := match o with
  | some (.arr _ _ es) => if es.length = tot ∧ off + len ≤ tot then some ((es.drop off).take len) else none
  | _ => none
theorem rd_sl {id tot off len : Nat} : rdS g (.sl id tot off len) = rdO tot off len (g id) := rfl
theorem rdO_some {tot off len E s : Nat} {es : List AV} : rdO tot off len (some (.arr E s es)) = if es.length = tot ∧ off + len ≤ tot then some ((es.drop off).take len) else none := rfl
theorem apO_ite {e c by' nid : Nat} {s : AV} {q : Prop} [Decidable q] {xs : Option (List AV)} : apO e c by' nid s g (if q then xs else none) = if q then apO e c by' nid s g xs else none := by split <;> simp [apO]

theorem cpT {t e c : Nat} (hu : sliceElem P t = some e) (hc : P.cellsOf e = c) (hz : (c == 0) = false) (id tot off len : Nat) (x : AV) (g : Nat → Option Ob) {xs : List AV} {E : TypeId} {es : List AV} (hr : rdS g x = some xs) (hx : ∀ v ∈ xs, v.cells.length = c) (hg : g id = some (.arr E c es)) (hl : es.length = tot) (hle : off + len ≤ tot) :
    opCopy P t (.sl id tot off len) x g = some (.int .i64 (min xs.length len : Nat), .set id (.arr E c (es.take off ++ xs.take (min xs.length len) ++ es.drop (off + min xs.length len)))) := by
  subst hc
  have hz' : P.cellsOf e ≠ 0 := by simpa using hz
  simp only [opCopy, hu, Option.bind_some, if_neg hz', hr, hg]
  rw [if_pos hx, if_pos ⟨hl, trivial, hle⟩]
theorem slT_lst {t e c : Nat} (hu : sliceElem P t = some e) (hc : P.cellsOf e = c) (hz : (c == 0) = false) (xs : List AV) (lo hi : Option AV) (g : Nat → Option Ob) {l u : Nat} (hl : bnd 0 lo = some (l : Int)) (hh : bnd xs.length hi = some (u : Int)) (h1 : l ≤ u) (h2 : u ≤ xs.length) (h3 : ∀ v ∈ xs, v.cells.length = c) :
    opSlice P t (.lst xs) lo hi g = some (.lst ((xs.drop l).take (u - l))) := by
  subst hc
  have hz' : P.cellsOf e ≠ 0 := by simpa using hz
  simp only [opSlice, hu, Option.bind_some, if_neg hz', hl, hh, Int.toNat_natCast]
  rw [if_pos ⟨by omega, by omega, by omega, h3⟩]
theorem slT_sl {t e c : Nat} (hu : sliceElem P t = some e) (hc : P.cellsOf e = c) (hz : (c == 0) = false) (id tot off len : Nat) (lo hi : Option AV) (g : Nat → Option Ob) {l u : Nat} {E : TypeId} {es : List AV} (hg : g id = some (.arr E c es)) (hle : es.length = tot) (hl : bnd 0 lo = some (l : Int)) (hh : bnd len hi = some (u : Int)) (h1 : l ≤ u) (h2 : u ≤ len) :
    opSlice P t (.sl id tot off len) lo hi g = some (.sl id tot (off + l) (u - l)) := by
  subst hc
  have hz' : P.cellsOf e ≠ 0 := by simpa using hz
  simp only [opSlice, hu, Option.bind_some, if_neg hz', hg, hl, hh, Int.toNat_natCast]
  rw [if_pos ⟨hle, trivial⟩, if_pos ⟨by omega, by omega, by omega⟩]

def nilO (id tot i off : Nat) (o : Option Ob) : Option AV := match o with | some (.arr _ _ es) => if es.length = tot ∧ 0 < tot then some (.ptr id tot i off) else none | _ => none
theorem nilc_ptrO {id tot i off : Nat} : opNilCheck (.ptr id tot i off) g = nilO id tot i off (g id) := by
  unfold opNilCheck nilO
  first
    | (simp only; done)
    | (simp only
       cases g id with
       | none => rfl
       | some o => cases o <;> rfl)
theorem nilO_one {id i off E s : Nat} {v : AV} : nilO id 1 i off (some (.arr E s [v])) = some (.ptr id 1 i off) := rfl

end
end Go.Proofs.YtfdfkmcplhloaaaGreat
end

section
set_option linter.unusedSimpArgs false
set_option linter.unusedVariables false
namespace Go.Proofs.YtfdfkmcplhloaaaGreat
theorem SP : ((((((type_of% @regSeq_cons) ∧ (type_of% @regSeq_nil)) ∧ ((type_of% @regSeq_guard) ∧ (type_of% @guardJ_some))) ∧ (((type_of% @guardO_tt) ∧ (type_of% @guardO_ff)) ∧ ((type_of% @guardO_tf) ∧ ((type_of% @guardO_ft) ∧ (type_of% @guardO_undef))))) ∧ ((((type_of% @kont_apply) ∧ (type_of% @sx_move)) ∧ ((type_of% @sx_assign) ∧ ((type_of% @sx_pick) ∧ (type_of% @sx_load)))) ∧ (((type_of% @sx_build) ∧ (type_of% @sx_nilCheck)) ∧ ((type_of% @sx_bin) ∧ ((type_of% @sx_un) ∧ (type_of% @sx_convert)))))) ∧ (((((type_of% @sx_makeFunc) ∧ (type_of% @sx_slice)) ∧ ((type_of% @sx_fieldAddr) ∧ (type_of% @sx_field))) ∧ (((type_of% @sx_indexAddr) ∧ (type_of% @sx_extract)) ∧ ((type_of% @sx_len) ∧ ((type_of% @sx_append) ∧ (type_of% @sx_copy))))) ∧ ((((type_of% @sx_max) ∧ (type_of% @sx_min)) ∧ ((type_of% @sx_store) ∧ ((type_of% @sx_box) ∧ (type_of% @sx_alloc)))) ∧ (((type_of% @sx_buildSlice) ∧ (type_of% @sx_makeSlice)) ∧ ((type_of% @sx_lookup) ∧ ((type_of% @sx_mapUpdate) ∧ (type_of% @sx_makeMap))))))) ∧ ((((((type_of% @sx_call) ∧ (type_of% @regDraw_cons)) ∧ ((type_of% @regDraw_nil) ∧ (type_of% @regDraw_guard))) ∧ (((type_of% @guardG_some) ∧ (type_of% @guardD_tt)) ∧ ((type_of% @guardD_ff) ∧ ((type_of% @guardD_tf) ∧ (type_of% @guardD_ft))))) ∧ ((((type_of% @guardD_undef) ∧ (type_of% @kontD_none)) ∧ ((type_of% @kontD_some) ∧ ((type_of% @sd_move) ∧ (type_of% @sd_assign)))) ∧ (((type_of% @sd_pick) ∧ (type_of% @sd_load)) ∧ ((type_of% @sd_build) ∧ ((type_of% @sd_nilCheck) ∧ (type_of% @sd_bin)))))) ∧ (((((type_of% @sd_un) ∧ (type_of% @sd_convert)) ∧ ((type_of% @sd_makeFunc) ∧ ((type_of% @sd_slice) ∧ (type_of% @sd_fieldAddr)))) ∧ (((type_of% @sd_field) ∧ (type_of% @sd_indexAddr)) ∧ ((type_of% @sd_extract) ∧ ((type_of% @sd_len) ∧ (type_of% @sd_append))))) ∧ ((((type_of% @sd_copy) ∧ (type_of% @sd_store)) ∧ ((type_of% @sd_box) ∧ ((type_of% @sd_alloc) ∧ (type_of% @sd_buildSlice)))) ∧ (((type_of% @sd_makeSlice) ∧ (type_of% @sd_lookup)) ∧ ((type_of% @sd_mapUpdate) ∧ ((type_of% @sd_makeMap) ∧ (type_of% @sd_call))))))) := ⟨⟨⟨⟨⟨⟨@regSeq_cons, @regSeq_nil⟩, ⟨@regSeq_guard, @guardJ_some⟩⟩, ⟨⟨@guardO_tt, @guardO_ff⟩, ⟨@guardO_tf, ⟨@guardO_ft, @guardO_undef⟩⟩⟩⟩, ⟨⟨⟨@kont_apply, @sx_move⟩, ⟨@sx_assign, ⟨@sx_pick, @sx_load⟩⟩⟩, ⟨⟨@sx_build, @sx_nilCheck⟩, ⟨@sx_bin, ⟨@sx_un, @sx_convert⟩⟩⟩⟩⟩, ⟨⟨⟨⟨@sx_makeFunc, @sx_slice⟩, ⟨@sx_fieldAddr, @sx_field⟩⟩, ⟨⟨@sx_indexAddr, @sx_extract⟩, ⟨@sx_len, ⟨@sx_append, @sx_copy⟩⟩⟩⟩, ⟨⟨⟨@sx_max, @sx_min⟩, ⟨@sx_store, ⟨@sx_box, @sx_alloc⟩⟩⟩, ⟨⟨@sx_buildSlice, @sx_makeSlice⟩, ⟨@sx_lookup, ⟨@sx_mapUpdate, @sx_makeMap⟩⟩⟩⟩⟩⟩, ⟨⟨⟨⟨⟨@sx_call, @regDraw_cons⟩, ⟨@regDraw_nil, @regDraw_guard⟩⟩, ⟨⟨@guardG_some, @guardD_tt⟩, ⟨@guardD_ff, ⟨@guardD_tf, @guardD_ft⟩⟩⟩⟩, ⟨⟨⟨@guardD_undef, @kontD_none⟩, ⟨@kontD_some, ⟨@sd_move, @sd_assign⟩⟩⟩, ⟨⟨@sd_pick, @sd_load⟩, ⟨@sd_build, ⟨@sd_nilCheck, @sd_bin⟩⟩⟩⟩⟩, ⟨⟨⟨⟨@sd_un, @sd_convert⟩, ⟨@sd_makeFunc, ⟨@sd_slice, @sd_fieldAddr⟩⟩⟩, ⟨⟨@sd_field, @sd_indexAddr⟩, ⟨@sd_extract, ⟨@sd_len, @sd_append⟩⟩⟩⟩, ⟨⟨⟨@sd_copy, @sd_store⟩, ⟨@sd_box, ⟨@sd_alloc, @sd_buildSlice⟩⟩⟩, ⟨⟨@sd_makeSlice, @sd_lookup⟩, ⟨@sd_mapUpdate, ⟨@sd_makeMap, @sd_call⟩⟩⟩⟩⟩⟩⟩
theorem SX : (((((((type_of% @dstAt_zero) ∧ (type_of% @dstAt_succ)) ∧ ((type_of% @ev_tmp) ∧ (type_of% @ev_func))) ∧ (((type_of% @ev_int) ∧ (type_of% @ev_bool)) ∧ ((type_of% @ev_nilslice) ∧ ((type_of% @ev_nilfunc) ∧ (type_of% @ev_nilmap))))) ∧ ((((type_of% @ev_nilptr) ∧ (type_of% @put_apply)) ∧ ((type_of% @put_none) ∧ ((type_of% @optV_some) ∧ (type_of% @optV_ite)))) ∧ (((type_of% @optE_non) ∧ (type_of% @optE_set)) ∧ ((type_of% @optE_new) ∧ ((type_of% @optE_ite) ∧ (type_of% @optS_set)))))) ∧ (((((type_of% @optS_ite) ∧ (type_of% @newM_some)) ∧ ((type_of% @newD_some) ∧ (type_of% @lkO_some))) ∧ (((type_of% @upO_some) ∧ (type_of% @top_cmap)) ∧ ((type_of% @allocK_some) ∧ ((type_of% @pickK_bool) ∧ (type_of% @dV_some))))) ∧ ((((type_of% @dV_ite) ∧ (type_of% @dE_non)) ∧ ((type_of% @dE_set) ∧ ((type_of% @dE_new) ∧ (type_of% @dE_ite)))) ∧ (((type_of% @dS_set) ∧ (type_of% @dS_ite)) ∧ ((type_of% @allocD_some) ∧ ((type_of% @pickD_bool) ∧ (type_of% @bin_add))))))) ∧ ((((((type_of% @bin_sub) ∧ (type_of% @bin_mul)) ∧ ((type_of% @bin_eql) ∧ (type_of% @bin_neq))) ∧ (((type_of% @bin_lss) ∧ (type_of% @bin_leq)) ∧ ((type_of% @bin_gtr) ∧ ((type_of% @bin_geq) ∧ (type_of% @un_not))))) ∧ ((((type_of% @ex_tup) ∧ (type_of% @max_int)) ∧ ((type_of% @min_int) ∧ ((type_of% @cells_int) ∧ (type_of% @cells_bool)))) ∧ (((type_of% @cells_str) ∧ (type_of% @cells_lst)) ∧ ((type_of% @cells_nil0) ∧ ((type_of% @cells_nilp) ∧ (type_of% @cells_nilf)))))) ∧ (((((type_of% @cells_nilm) ∧ (type_of% @cells_sl)) ∧ ((type_of% @cells_ptr) ∧ (type_of% @cells_cptr))) ∧ (((type_of% @cells_fn) ∧ (type_of% @cells_map)) ∧ ((type_of% @cells_cmap) ∧ ((type_of% @cells_agg) ∧ (type_of% @isAgg_agg))))) ∧ ((((type_of% @isAgg_int) ∧ (type_of% @isAgg_bool)) ∧ ((type_of% @isAgg_lst) ∧ ((type_of% @isAgg_nil0) ∧ (type_of% @isAgg_sl)))) ∧ (((type_of% @isAgg_ptr) ∧ (type_of% @isAgg_cptr)) ∧ ((type_of% @isAgg_fn) ∧ ((type_of% @isAgg_map) ∧ (type_of% @isAgg_cmap)))))))) ∧ (((((((type_of% @isAgg_nilp) ∧ (type_of% @isAgg_nilf)) ∧ ((type_of% @isAgg_nilm) ∧ (type_of% @okc_agg))) ∧ (((type_of% @okc_int) ∧ (type_of% @okc_bool)) ∧ ((type_of% @okc_str) ∧ ((type_of% @okc_lst) ∧ (type_of% @okc_nil0))))) ∧ ((((type_of% @okc_nilp) ∧ (type_of% @okc_nilf)) ∧ ((type_of% @okc_nilm) ∧ ((type_of% @okc_sl) ∧ (type_of% @okc_ptr)))) ∧ (((type_of% @okc_cptr) ∧ (type_of% @okc_fn)) ∧ ((type_of% @okc_map) ∧ ((type_of% @okc_cmap) ∧ (type_of% @get_add)))))) ∧ (((((type_of% @get_set) ∧ (type_of% @nx_add)) ∧ ((type_of% @nx_set) ∧ (type_of% @get_up))) ∧ (((type_of% @nx_up) ∧ (type_of% @get_empty)) ∧ ((type_of% @nx_empty) ∧ ((type_of% @of_cons) ∧ (type_of% @of_nil))))) ∧ ((((type_of% @of_nx) ∧ (type_of% @ld_ptr)) ∧ ((type_of% @ldO_one) ∧ ((type_of% @ld_cptr) ∧ (type_of% @live_ptr)))) ∧ (((type_of% @live_cptr) ∧ (type_of% @liveO_one)) ∧ ((type_of% @nilc_cptr) ∧ ((type_of% @nilc_ptrO) ∧ (type_of% @nilO_one))))))) ∧ ((((((type_of% @lenO_some) ∧ (type_of% @idxO_some)) ∧ ((type_of% @iaO_some) ∧ (type_of% @fcO_some))) ∧ (((type_of% @stO_one) ∧ (type_of% @sv_oneb)) ∧ ((type_of% @sv_whole) ∧ ((type_of% @sv_cellb) ∧ (type_of% @bdO_nil))))) ∧ ((((type_of% @bdO_step) ∧ (type_of% @bdP_some)) ∧ ((type_of% @bsO_one) ∧ ((type_of% @apN_nil) ∧ (type_of% @apN_cons)))) ∧ (((type_of% @apS_some) ∧ (type_of% @apO_nil0)) ∧ ((type_of% @apO_sl) ∧ ((type_of% @rd_lst) ∧ (type_of% @rd_nil0)))))) ∧ (((((type_of% @rd_sl) ∧ (type_of% @rdO_some)) ∧ ((type_of% @top_ptr) ∧ ((type_of% @top_sl) ∧ (type_of% @top_map)))) ∧ (((type_of% @top_int) ∧ (type_of% @top_bool)) ∧ ((type_of% @top_lst) ∧ ((type_of% @top_nil0) ∧ (type_of% @top_cptr))))) ∧ ((((type_of% @top_agg) ∧ (type_of% @top_fn)) ∧ ((type_of% @seps_nil) ∧ ((type_of% @seps_cons) ∧ (type_of% @sepAt_eq)))) ∧ (((type_of% @sepO_some) ∧ (type_of% @sep_nn)) ∧ ((type_of% @sep_sn) ∧ ((type_of% @sep_ns) ∧ (type_of% @sep_ss)))))))) := ⟨⟨⟨⟨⟨⟨⟨@dstAt_zero, @dstAt_succ⟩, ⟨@ev_tmp, @ev_func⟩⟩, ⟨⟨@ev_int, @ev_bool⟩, ⟨@ev_nilslice, ⟨@ev_nilfunc, @ev_nilmap⟩⟩⟩⟩, ⟨⟨⟨@ev_nilptr, @put_apply⟩, ⟨@put_none, ⟨@optV_some, @optV_ite⟩⟩⟩, ⟨⟨@optE_non, @optE_set⟩, ⟨@optE_new, ⟨@optE_ite, @optS_set⟩⟩⟩⟩⟩, ⟨⟨⟨⟨@optS_ite, @newM_some⟩, ⟨@newD_some, @lkO_some⟩⟩, ⟨⟨@upO_some, @top_cmap⟩, ⟨@allocK_some, ⟨@pickK_bool, @dV_some⟩⟩⟩⟩, ⟨⟨⟨@dV_ite, @dE_non⟩, ⟨@dE_set, ⟨@dE_new, @dE_ite⟩⟩⟩, ⟨⟨@dS_set, @dS_ite⟩, ⟨@allocD_some, ⟨@pickD_bool, @bin_add⟩⟩⟩⟩⟩⟩, ⟨⟨⟨⟨⟨@bin_sub, @bin_mul⟩, ⟨@bin_eql, @bin_neq⟩⟩, ⟨⟨@bin_lss, @bin_leq⟩, ⟨@bin_gtr, ⟨@bin_geq, @un_not⟩⟩⟩⟩, ⟨⟨⟨@ex_tup, @max_int⟩, ⟨@min_int, ⟨@cells_int, @cells_bool⟩⟩⟩, ⟨⟨@cells_str, @cells_lst⟩, ⟨@cells_nil0, ⟨@cells_nilp, @cells_nilf⟩⟩⟩⟩⟩, ⟨⟨⟨⟨@cells_nilm, @cells_sl⟩, ⟨@cells_ptr, @cells_cptr⟩⟩, ⟨⟨@cells_fn, @cells_map⟩, ⟨@cells_cmap, ⟨@cells_agg, @isAgg_agg⟩⟩⟩⟩, ⟨⟨⟨@isAgg_int, @isAgg_bool⟩, ⟨@isAgg_lst, ⟨@isAgg_nil0, @isAgg_sl⟩⟩⟩, ⟨⟨@isAgg_ptr, @isAgg_cptr⟩, ⟨@isAgg_fn, ⟨@isAgg_map, @isAgg_cmap⟩⟩⟩⟩⟩⟩⟩, ⟨⟨⟨⟨⟨⟨@isAgg_nilp, @isAgg_nilf⟩, ⟨@isAgg_nilm, @okc_agg⟩⟩, ⟨⟨@okc_int, @okc_bool⟩, ⟨@okc_str, ⟨@okc_lst, @okc_nil0⟩⟩⟩⟩, ⟨⟨⟨@okc_nilp, @okc_nilf⟩, ⟨@okc_nilm, ⟨@okc_sl, @okc_ptr⟩⟩⟩, ⟨⟨@okc_cptr, @okc_fn⟩, ⟨@okc_map, ⟨@okc_cmap, @get_add⟩⟩⟩⟩⟩, ⟨⟨⟨⟨@get_set, @nx_add⟩, ⟨@nx_set, @get_up⟩⟩, ⟨⟨@nx_up, @get_empty⟩, ⟨@nx_empty, ⟨@of_cons, @of_nil⟩⟩⟩⟩, ⟨⟨⟨@of_nx, @ld_ptr⟩, ⟨@ldO_one, ⟨@ld_cptr, @live_ptr⟩⟩⟩, ⟨⟨@live_cptr, @liveO_one⟩, ⟨@nilc_cptr, ⟨@nilc_ptrO, @nilO_one⟩⟩⟩⟩⟩⟩, ⟨⟨⟨⟨⟨@lenO_some, @idxO_some⟩, ⟨@iaO_some, @fcO_some⟩⟩, ⟨⟨@stO_one, @sv_oneb⟩, ⟨@sv_whole, ⟨@sv_cellb, @bdO_nil⟩⟩⟩⟩, ⟨⟨⟨@bdO_step, @bdP_some⟩, ⟨@bsO_one, ⟨@apN_nil, @apN_cons⟩⟩⟩, ⟨⟨@apS_some, @apO_nil0⟩, ⟨@apO_sl, ⟨@rd_lst, @rd_nil0⟩⟩⟩⟩⟩, ⟨⟨⟨⟨@rd_sl, @rdO_some⟩, ⟨@top_ptr, ⟨@top_sl, @top_map⟩⟩⟩, ⟨⟨@top_int, @top_bool⟩, ⟨@top_lst, ⟨@top_nil0, @top_cptr⟩⟩⟩⟩, ⟨⟨⟨@top_agg, @top_fn⟩, ⟨@seps_nil, ⟨@seps_cons, @sepAt_eq⟩⟩⟩, ⟨⟨@sepO_some, @sep_nn⟩, ⟨@sep_sn, ⟨@sep_ns, @sep_ss⟩⟩⟩⟩⟩⟩⟩⟩
theorem tm0_at {l : List AV} {t : Nat} : tm0 l t = l.getD t .junk := rfl
theorem SW : (((((type_of% @Option.map_some.{0,0}) ∧ ((type_of% @and_true) ∧ (type_of% @true_and))) ∧ ((type_of% @List.getElem?_cons_zero.{0}) ∧ ((type_of% @List.getElem?_cons_succ.{0}) ∧ (type_of% @List.length_cons.{0})))) ∧ (((type_of% @List.length_nil.{0}) ∧ ((type_of% @List.map_cons.{0,0}) ∧ (type_of% @List.map_nil.{0,0}))) ∧ (((type_of% @Nat.left_eq_add) ∧ (type_of% @Nat.add_eq_left)) ∧ ((type_of% @List.set_cons_zero.{0}) ∧ (type_of% @List.set_cons_succ.{0}))))) ∧ ((((type_of% @Bool.false_eq_true) ∧ ((type_of% @false_implies) ∧ (type_of% @implies_true.{0}))) ∧ (((type_of% @implies_true.{1}) ∧ (type_of% @Bool.not_true)) ∧ ((type_of% @Bool.not_false) ∧ (type_of% @not_true_eq_false)))) ∧ (((type_of% @not_false_eq_true) ∧ ((type_of% @List.not_mem_nil.{0}) ∧ (type_of% @List.mem_cons.{0}))) ∧ (((type_of% @or_false) ∧ (type_of% @false_or)) ∧ ((type_of% @List.drop_zero.{0}) ∧ (type_of% @List.drop_succ_cons.{0})))))) ∧ (((((type_of% @List.drop_nil.{0}) ∧ ((type_of% @List.cons_append.{0}) ∧ (type_of% @List.mem_singleton.{0}))) ∧ ((type_of% @Nat.le_refl) ∧ ((type_of% @List.take_succ_cons.{0}) ∧ (type_of% @List.take_zero.{0})))) ∧ (((type_of% @List.take_nil.{0}) ∧ ((type_of% @List.length_replicate.{0}) ∧ (type_of% @List.length_append.{0}))) ∧ (((type_of% @forall_eq.{1}) ∧ (type_of% @forall_eq_or_imp.{1})) ∧ ((type_of% @decide_true) ∧ (type_of% @Bool.or_false))))) ∧ ((((type_of% @Bool.false_or) ∧ ((type_of% @Bool.and_self) ∧ (type_of% @Bool.or_self))) ∧ (((type_of% @Bool.true_and) ∧ (type_of% @Bool.and_true)) ∧ ((type_of% @beq_self_eq_true.{0}) ∧ (type_of% @List.nil_append.{0})))) ∧ (((type_of% @List.append_nil.{0}) ∧ ((type_of% @List.getD_cons_zero.{0}) ∧ (type_of% @List.getD_cons_succ.{0}))) ∧ (((type_of% @List.length_map.{0,0}) ∧ (type_of% @tm0_at)) ∧ ((type_of% @Nat.zero_add) ∧ (type_of% @Nat.add_zero)))))) := ⟨⟨⟨⟨⟨@Option.map_some.{0,0}, ⟨@and_true, @true_and⟩⟩, ⟨@List.getElem?_cons_zero.{0}, ⟨@List.getElem?_cons_succ.{0}, @List.length_cons.{0}⟩⟩⟩, ⟨⟨@List.length_nil.{0}, ⟨@List.map_cons.{0,0}, @List.map_nil.{0,0}⟩⟩, ⟨⟨@Nat.left_eq_add, @Nat.add_eq_left⟩, ⟨@List.set_cons_zero.{0}, @List.set_cons_succ.{0}⟩⟩⟩⟩, ⟨⟨⟨@Bool.false_eq_true, ⟨@false_implies, @implies_true.{0}⟩⟩, ⟨⟨@implies_true.{1}, @Bool.not_true⟩, ⟨@Bool.not_false, @not_true_eq_false⟩⟩⟩, ⟨⟨@not_false_eq_true, ⟨@List.not_mem_nil.{0}, @List.mem_cons.{0}⟩⟩, ⟨⟨@or_false, @false_or⟩, ⟨@List.drop_zero.{0}, @List.drop_succ_cons.{0}⟩⟩⟩⟩⟩, ⟨⟨⟨⟨@List.drop_nil.{0}, ⟨@List.cons_append.{0}, @List.mem_singleton.{0}⟩⟩, ⟨@Nat.le_refl, ⟨@List.take_succ_cons.{0}, @List.take_zero.{0}⟩⟩⟩, ⟨⟨@List.take_nil.{0}, ⟨@List.length_replicate.{0}, @List.length_append.{0}⟩⟩, ⟨⟨@forall_eq.{1}, @forall_eq_or_imp.{1}⟩, ⟨@decide_true, @Bool.or_false⟩⟩⟩⟩, ⟨⟨⟨@Bool.false_or, ⟨@Bool.and_self, @Bool.or_self⟩⟩, ⟨⟨@Bool.true_and, @Bool.and_true⟩, ⟨@beq_self_eq_true.{0}, @List.nil_append.{0}⟩⟩⟩, ⟨⟨@List.append_nil.{0}, ⟨@List.getD_cons_zero.{0}, @List.getD_cons_succ.{0}⟩⟩, ⟨⟨@List.length_map.{0,0}, @tm0_at⟩, ⟨@Nat.zero_add, @Nat.add_zero⟩⟩⟩⟩⟩⟩
theorem SR : ((type_of% @res_nil) ∧ ((type_of% @res_tmp) ∧ (type_of% @res_cell))) ∧ (((type_of% @optK_some) ∧ (type_of% @ret_one)) ∧ ((type_of% @ret_nil) ∧ (type_of% @ret_two))) := ⟨⟨@res_nil, ⟨@res_tmp, @res_cell⟩⟩, ⟨⟨@optK_some, @ret_one⟩, ⟨@ret_nil, @ret_two⟩⟩⟩
theorem IDF : (((type_of% @idf_int) ∧ ((type_of% @idf_bool) ∧ (type_of% @idf_nil0))) ∧ (((type_of% @idf_nilf) ∧ (type_of% @idf_nilm)) ∧ ((type_of% @idf_nilp) ∧ (type_of% @idf_lst)))) ∧ (((type_of% @idf_agg) ∧ ((type_of% @idf_tup) ∧ (type_of% @idf_cptr))) ∧ (((type_of% @idf_fn) ∧ (type_of% @all_nil)) ∧ ((type_of% @all_cons) ∧ (type_of% @all_map)))) := ⟨⟨⟨@idf_int, ⟨@idf_bool, @idf_nil0⟩⟩, ⟨⟨@idf_nilf, @idf_nilm⟩, ⟨@idf_nilp, @idf_lst⟩⟩⟩, ⟨⟨@idf_agg, ⟨@idf_tup, @idf_cptr⟩⟩, ⟨⟨@idf_fn, @all_nil⟩, ⟨@all_cons, @all_map⟩⟩⟩⟩
theorem and_tt : (True ∧ True) = True := by simp
end Go.Proofs.YtfdfkmcplhloaaaGreat
end

section
set_option linter.unusedSimpArgs false
set_option linter.unusedVariables false
namespace Go.Proofs.YtfdfkmcplhloaaaGreat
section
variable {P : Program} {X : Cx} {w : World} {h : Hp} {ro : Option Nat} {n : Nat} {todo : List Item} {R : Exit → Tm → Hp → Prop} {tm : Tm}

theorem sv_w {e x : AV} (hh : (e.isAgg && x.isAgg && (x.cells.length == e.cells.length)) = true) : storeV e 0 x = x := by
  simp only [Bool.and_eq_true, beq_iff_eq] at hh
  unfold storeV
  rw [if_pos ⟨rfl, hh.2, by rw [hh.1.1, hh.1.2]⟩]
theorem nil_own' (H : HRel h X w) {c : Value} (hc : VRel X w .nil0 c) (E s : Nat) : Ev X w (X.put h.nx ⟨0, s, c⟩) w ∧ HRel (h.add (.arr E s [])) (X.put h.nx ⟨0, s, c⟩) w ∧ VRel (X.put h.nx ⟨0, s, c⟩) w (.sl h.nx 0 0 0) c := by
  have hnu : ¬ X.used h.nx := fun hu => by have := H.lt _ hu; omega
  cases hc with
  | nil0 A =>
    have hp := H.put (w' := w) (id := h.nx) (nx' := h.nx + 1) (r' := ⟨0, s, .slice A 0 0⟩) (o := .arr E s []) (row := none)
      (.inl ⟨by cases hg : X.own h.nx with | none => rfl | some r => exact absurd (H.ok.ids _ r hg) hnu, hnu⟩) (World.grownBy.refl w none) (fun b hb => by simp at hb) (fun b hb => by cases A <;> simp [blockOf] at hb) (by omega) (by omega)
      (fun he => ⟨.slice A 0 0, [], by simp [Cx.put], .inl ⟨A, rfl, rfl, rfl⟩, by simp, by simp, by simpa [flat] using VRelL.nil⟩)
    refine ⟨hp.2, hp.1, .sl _ 0 0 0 _ rfl (.inl rfl) fun r hr => ?_⟩
    simp only [Cx.put, if_true, Option.some.injEq] at hr
    subst hr
    exact ⟨Nat.le_refl _, fun _ => ⟨by omega, A, 0, 0, A, rfl, by simp, fun h => absurd rfl h⟩⟩

theorem wpT_nilown (t : Nat) (E : TypeId) (s : Nat) (ht : tm t = .nil0) (hw : wpT P ro n todo R (tm.put (some t) (.sl h.nx 0 0 0)) (h.add (.arr E s []))) : wpT P ro n todo R tm h := by
  intro X w b cs a B h1 h2 h3 h4 h5 h6
  have hc := h4.2 t
  rw [ht] at hc
  obtain ⟨X', hev, H', hv⟩ := nil_own h5 hc E s
  have hfr : FRel n (tm.put (some t) (.sl h.nx 0 0 0)) X' w a := by
    refine ⟨h4.1, fun t' => ?_⟩
    show VRel X' w (if t' = t then _ else tm t') _
    by_cases e : t' = t
    · subst e; rw [if_pos rfl]; exact hv
    · rw [if_neg e]; exact (h4.2 t').mono h5.ok hev
  obtain ⟨e, tm2, h2', X2, w2, a2, todo2, g1, g2, g3, g4, g5, g6, g7⟩ := hw X' w b cs a B h1 h2 h3 hfr H' (h6.mono hev)
  exact ⟨e, tm2, h2', X2, w2, a2, todo2, g1, g2, hev.trans g3, g4, g5, g6, g7⟩

/-- The same for a nil slice within a struct that lies in a box. -/
theorem wpT_nilcell (id k : Nat) (E : TypeId) (s : Nat) {E0 : TypeId} {s0 : Nat} {cs0 : List AV} (hg : h.get id = some (.arr E0 s0 [.agg cs0])) (hk : cs0[k]? = some .nil0) (hlt : (id == h.nx) = false)
    (hw : wpT P ro n todo R tm ((h.set id (.arr E0 s0 [.agg (cs0.set k (.sl h.nx 0 0 0))])).add (.arr E s []))) : wpT P ro n todo R tm h := by
  intro X w b cs a B h1 h2 h3 h4 h5 h6
  have hne : id ≠ h.nx := by simpa using hlt
  obtain ⟨cv, xs, k1, k2, k3, k4, k5⟩ := h5.own_of_get hg
  have hfl : flat [.agg cs0] = cs0 := by simp [flat, AV.cells]
  have hkl : k < xs.length := by
    rw [k5.1, hfl]
    exact (List.getElem?_eq_some_iff.1 hk).1
  have hc : VRel X w .nil0 xs[k] := k5.2 k _ _ (by rw [hfl]; exact hk) (List.getElem?_eq_getElem hkl)
  obtain ⟨hev, H', hv⟩ := nil_own' h5 hc E s
  generalize hX' : X.put h.nx ⟨0, s, xs[k]⟩ = X' at hev H' hv
  have hown : X'.own id = X.own id := by rw [← hX']; simp [Cx.put, hne]
  have hget : ∀ j, j ≠ id → ((h.set id (.arr E0 s0 [.agg (cs0.set k (.sl h.nx 0 0 0))])).add (.arr E s [])).get j = (h.add (.arr E s [])).get j := by
    intro j hj
    show (if j = h.nx then _ else if j = id then _ else h.get j) = (if j = h.nx then _ else h.get j)
    rw [if_neg hj]
  have hgid : ((h.set id (.arr E0 s0 [.agg (cs0.set k (.sl h.nx 0 0 0))])).add (.arr E s [])).get id = some (.arr E0 s0 [.agg (cs0.set k (.sl h.nx 0 0 0))]) := by
    show (if id = h.nx then _ else if id = id then _ else h.get id) = _
    rw [if_neg hne, if_pos rfl]
  have H2 : HRel ((h.set id (.arr E0 s0 [.agg (cs0.set k (.sl h.nx 0 0 0))])).add (.arr E s [])) X' w := by
    refine ⟨H'.ok, H'.lt, fun j hj => ?_, fun j o hj => ?_⟩
    · by_cases e : j = id
      · subst e; rw [hgid] at hj; simp at hj
      · rw [hget j e] at hj; exact H'.dead j hj
    · by_cases e : j = id
      · subst e
        rw [hgid] at hj
        obtain rfl := Option.some.inj hj
        refine ⟨cv, xs, hown.trans k1, k2, fun e he => ?_, k4, ?_⟩
        · simp only [List.mem_singleton] at he
          subst he
          have := (k3 (.agg cs0) (by simp)).1
          simp only [AV.cells] at this
          exact ⟨by simpa [AV.cells] using this, rfl⟩
        · have hfl' : flat [.agg (cs0.set k (.sl h.nx 0 0 0))] = cs0.set k (.sl h.nx 0 0 0) := by simp [flat, AV.cells]
          rw [hfl']
          refine ⟨by rw [k5.1, hfl]; simp, fun i v c hi hcc => ?_⟩
          rw [List.getElem?_set] at hi
          split at hi
          · rename_i e
            subst e
            split at hi
            · obtain rfl := Option.some.inj hi
              rw [List.getElem?_eq_getElem hkl] at hcc
              obtain rfl := Option.some.inj hcc
              exact hv
            · simp at hi
          · exact (k5.2 i v c (by rw [hfl]; exact hi) hcc).mono h5.ok hev
      · rw [hget j e] at hj; exact H'.obj j o hj
  obtain ⟨e, tm2, h2', X2, w2, a2, todo2, g1, g2, g3, g4, g5, g6, g7⟩ := hw X' w b cs a B h1 h2 h3 (h4.mono h5.ok hev) H2 (h6.mono hev)
  exact ⟨e, tm2, h2', X2, w2, a2, todo2, g1, g2, hev.trans g3, g4, g5, g6, g7⟩

/-- A slice is compared with nil: a slice with elements is not nil; of others nothing is known. -/
theorem wpT_isnil {id d x e : Nat} {t t' ty1 ty2 : TypeId} {p1 p2 : String} {a1 a2 : Array Edge} {xs : List AV} {y : TypeId} (hx : tm x = .lst xs) (hu : sliceElem P t = some y) (hd : (decide (d < n) && decide (e < n) && !(d == x)) = true)
    (hw : ∀ c, (xs ≠ [] → c = false) → wpT P ro n todo R ((tm.put (some d) (.lst xs)).put (some e) (.bool c)) h) :
    wpT P ro n (.code (.region id #[⟨some d, .move (.tmp x), ty1, p1, a1, none⟩, ⟨some e, .binOp .eql t (.tmp d) (.const (.slice none 0 0)) t', ty2, p2, a2, none⟩] false) :: todo) R tm h := by
  simp only [Bool.and_eq_true, decide_eq_true_eq] at hd
  refine wpT_ofRegion (K := fun tm' h' => ∃ c, (xs ≠ [] → c = false) ∧ tm' = (tm.put (some d) (.lst xs)).put (some e) (.bool c) ∧ h' = h) (fun X w a hf H => ?_) (fun tm' h' ⟨c, h1, h2, h3⟩ => h2 ▸ h3 ▸ hw c h1)
  refine wpIn_region ?_
  have hv := hf.2 x
  rw [hx] at hv
  have hsl : ∃ A ln cap, a.tmps.getD x undef = .slice A ln cap ∧ (xs ≠ [] → A.isNone = false) := by
    generalize a.tmps.getD x undef = c at hv
    cases hv with
    | lnil A cap => exact ⟨A, 0, cap, rfl, fun h => absurd rfl h⟩
    | lst _ fs s ad len cap => exact ⟨some ad, len, cap, rfl, fun _ => rfl⟩
  obtain ⟨A, ln, cap, hc, hA⟩ := hsl
  have hf1 : FRel n (tm.put (some d) (.lst xs)) X w (a.put (some d) (a.tmps.getD x undef)) := hf.put hv fun t ht => by simp at ht; omega
  have hev : (a.put (some d) (a.tmps.getD x undef)).eval (.tmp d) = .slice A ln cap := by
    have : d < a.tmps.size := by rw [hf.1]; exact hd.1.1
    simp [Act.put, Act.eval, Array.getD_eq_getD_getElem?, this, ← hc]
  have hrun : (binOp .eql t (.slice A ln cap) (.slice none 0 0)).run P w = .ok (.bool A.isNone) w := by
    have e1 : binOp .eql t (.slice A ln cap) (.slice none 0 0) = (Op.equal t (.slice A ln cap) (.slice none 0 0) >>= fun r => pure (.bool r)) := rfl
    have e2 : (Op.equal t (.slice A ln cap) (.slice none 0 0)).run P w = .ok A.isNone w := by
      show (Op.equalIn ((Op.maxDepth - 1) + 1) t (.slice A ln cap) (.slice none 0 0)).run P w = _
      rw [Op.equalIn, Sem.run_bind, run_underlying (sliceElem_spec hu)]
      cases A <;> rfl
    rw [e1, Sem.run_bind, e2]
    rfl
  have step1 : ∀ (next : Act → World → Prop) Q, next (a.put (some d) (a.tmps.getD x undef)) w → Oper.wpIn (fen ro) 0 P ⟨some d, .move (.tmp x), ty1, p1, a1, none⟩ a w next Q := by
    intro next Q hn
    refine ⟨about_wide ro _ a.eval w, ?_⟩
    rw [Oper.semAt_eq _ _ _ (fun c => by simp)]
    have hr : (execOp a.eval ⟨some d, .move (.tmp x), ty1, p1, a1, none⟩).run P w = .ok (.value (a.tmps.getD x undef)) w := by simp [execOp, Act.eval]
    rw [hr]
    exact hn
  have step2 : ∀ (next : Act → World → Prop) Q, next ((a.put (some d) (a.tmps.getD x undef)).put (some e) (.bool A.isNone)) w → Oper.wpIn (fen ro) 0 P ⟨some e, .binOp .eql t (.tmp d) (.const (.slice none 0 0)) t', ty2, p2, a2, none⟩ (a.put (some d) (a.tmps.getD x undef)) w next Q := by
    intro next Q hn
    refine ⟨about_wide ro _ _ w, ?_⟩
    rw [Oper.semAt_eq _ _ _ (fun c => by simp)]
    have hgd : (eqGuard .eql t (.tmp d) (.const (.slice none 0 0)) (.slice A ln cap) (.slice none 0 0)).run P w = .ok () w := by simp [eqGuard]
    have hr : (execOp (a.put (some d) (a.tmps.getD x undef)).eval ⟨some e, .binOp .eql t (.tmp d) (.const (.slice none 0 0)) t', ty2, p2, a2, none⟩).run P w = .ok (.value (.bool A.isNone)) w := by
      have hcn : (a.put (some d) (a.tmps.getD x undef)).eval (.const (.slice none 0 0)) = .slice none 0 0 := rfl
      simp only [execOp, hev, hcn, Sem.run_bind, hgd, Result.andThen_ok, hrun]
      rfl
    rw [hr]
    exact hn
  show wpOpsIn (fen ro) 0 P _ _ [0, 1] a w
  simp only [wpOpsIn, List.getElem?_toArray, List.getElem?_cons_zero, List.getElem?_cons_succ, Region.wanted, if_true]
  refine step1 _ _ (step2 _ _ ⟨trivial, rfl, _, h, X, ⟨A.isNone, hA, rfl, rfl⟩, Ev.refl X w, ?_, H⟩)
  exact hf1.put (.bool _) fun t ht => by simp at ht; omega
end
end Go.Proofs.YtfdfkmcplhloaaaGreat
end

section
set_option linter.unusedSimpArgs false
set_option linter.unusedVariables false
namespace Go.Proofs.YtfdfkmcplhloaaaGreat
section
variable {P : Program} {X : Cx} {w : World} {h : Hp} {n : Nat} {R : Exit → Tm → Hp → Prop} {tm : Tm} {k : List Item}

/-- The parameters are filled. -/
def putAll : List Nat → List AV → Tm → Tm
  | p :: ps, a :: as, tm => putAll ps as (tm.put (some p) a)
  | _, _, tm => tm

theorem params_ok {nt : Nat} : ∀ {ps : List Nat} {as : List AV} {cs : List Value} {tm : Tm} {tmps : Array Value}, ps.length = as.length → VRelL X w as cs → (∀ p ∈ ps, p < nt) → tmps.size = nt → (∀ t, VRel X w (tm t) (tmps.getD t undef)) →
    ((ps.zip cs).foldl (fun tmps (q : Nat × Value) => tmps.setIfInBounds q.1 q.2) tmps).size = nt ∧ ∀ t, VRel X w (putAll ps as tm t) (((ps.zip cs).foldl (fun tmps (q : Nat × Value) => tmps.setIfInBounds q.1 q.2) tmps).getD t undef)
  | [], as, cs, tm, tmps, hl, hr, hp, hsz, ht => ⟨by simpa using hsz, by simpa [putAll] using ht⟩
  | p :: ps, [], cs, tm, tmps, hl, _, _, _, _ => by simp at hl
  | p :: ps, a :: as, [], tm, tmps, hl, hr, _, _, _ => by have := hr.1; simp at this
  | p :: ps, a :: as, c :: cs, tm, tmps, hl, hr, hp, hsz, ht => by
    simp only [List.zip_cons_cons, List.foldl_cons, putAll]
    refine params_ok (by simpa using hl) ⟨by simpa using hr.1, fun j a c ha hc => hr.2 (j + 1) a c (by simpa using ha) (by simpa using hc)⟩ (fun q hq => hp q (by simp [hq])) (by simpa using hsz) fun t => ?_
    have hlt : p < tmps.size := by rw [hsz]; exact hp p (by simp)
    simp only [Tm.put]
    by_cases e : t = p
    · subst e
      rw [if_pos rfl]
      simpa [Array.getD_eq_getD_getElem?, hlt] using hr.2 0 a c rfl rfl
    · rw [if_neg e]
      have := ht t
      simp only [Array.getD_eq_getD_getElem?] at this ⊢
      rw [Array.getElem?_setIfInBounds_ne (Ne.symm e)]
      exact this

theorem grown_putObj (w : World) (l : Nat) (o : Obj) : w.grownBy (w.putObj l o) (some l) := grownBy_putObj' w l o

theorem grow2 {A B C : World} (h : A.grownBy B none) (k : B.grownBy C none) : A.grownBy C none :=
  ⟨k.os.trans h.os, k.tape.trans h.tape, k.output.trans h.output, Nat.le_trans h.size k.size, fun b hb hn => (k.block b (Nat.lt_of_lt_of_le hb h.size) hn).trans (h.block b hb hn)⟩

/-- The record changes: its state and the jump. -/
theorem loop_put {id l : Nat} {fn : FuncId} {ps : Array Tmp} {assign body : Code} {tmL : Tm} {nt : Nat} {st st' : LoopState} {pd pd' : Option Code} (H : HRel h X w) (hg : h.get id = some (.loop l fn ps assign body tmL nt st pd)) :
    ∃ r : Loop, w.heap[l]? = some (.loop r) ∧ r.state = st ∧ r.pending = pd ∧ r.params = ps ∧ r.fn = fn ∧ r.assign = assign ∧ r.body = body ∧ r.tmps.size = nt ∧ (∀ t, VRel X w (tmL t) (r.tmps.getD t undef)) ∧
      HRel (h.set id (.loop l fn ps assign body tmL nt st' pd')) (X.put id ⟨0, 0, .map (some l)⟩) (w.putObj l (.loop { r with state := st', pending := pd' })) ∧ Ev X w (X.put id ⟨0, 0, .map (some l)⟩) (w.putObj l (.loop { r with state := st', pending := pd' })) := by
  obtain ⟨r, h1, h2, ⟨e1, e2, e3, e4, e5, e6, e7⟩, h4⟩ := H.obj id _ hg
  have hlt : l < w.heap.size := (Array.getElem?_eq_some_iff.1 h2).1
  have hid : id < h.nx := H.lt id (H.ok.ids id _ h1)
  have hp := H.put (w' := w.putObj l (.loop { r with state := st', pending := pd' })) (id := id) (nx' := h.nx) (r' := ⟨0, 0, .map (some l)⟩) (o := .loop l fn ps assign body tmL nt st' pd') (row := some l)
    (.inr ⟨_, h1, .inl rfl⟩) (grown_putObj w l _) (fun b hb => ⟨_, h1, by simpa [blockOf] using hb⟩)
    (fun b hb => by
      have : l = b := by simpa [blockOf] using hb
      subst this
      exact ⟨by simpa using hlt, .inr ⟨_, h1, rfl⟩⟩) (Nat.le_refl _) hid
    (fun he => ⟨{ r with state := st', pending := pd' }, by simp [Cx.put], World.putObj_heap_same hlt, ⟨e1, e2, e3, e4, rfl, rfl, e7⟩, fun t => (h4 t).mono H.ok he⟩)
  exact ⟨r, h2, e5, e6, e2, e1, e3, e4, e7, h4, hp.1, hp.2⟩

/-- How a round ends: the record, what yield hands back. -/
def roundEnd (id l : Nat) (fn : FuncId) (ps : Array Tmp) (assign body : Code) (tmL : Tm) (nt : Nat) (K : AV → Hp → Prop) (e : Exit) (h2 : Hp) : Prop :=
  h2.get id = some (.loop l fn ps assign body tmL nt .busy none) ∧
  match e with
  | .normal => K (.bool true) (h2.set id (.loop l fn ps assign body tmL nt .ready none))
  | .ret => K (.bool false) (h2.set id (.loop l fn ps assign body tmL nt .done (some .ret)))
  | .exit b => K (.bool false) (h2.set id (.loop l fn ps assign body tmL nt .done (some (.exit b))))
  | _ => False

theorem wpT_beginRound {id l : Nat} {fn : FuncId} {ps : Array Tmp} {assign body : Code} {tmL : Tm} {nt : Nat} (hg : h.get id = some (.loop l fn ps assign body tmL nt .ready none))
    (hw : wpT P (some l) n k R tm (h.set id (.loop l fn ps assign body tmL nt .busy none))) : wpT P (some l) n (.beginRound :: k) R tm h := by
  intro X w b cs a B h1 h2 h3 h4 h5 h6
  obtain ⟨r, g0, g1, g2, g3, g4, g5, g6, g7, g8, H', hev⟩ := loop_put (st' := .busy) (pd' := none) h5 hg
  obtain ⟨e, tm', h', X', w', a', todo', k1, k2, k3, k4, k5, k6, k7⟩ := hw _ _ b cs a B h1 h2 (by simpa using h3) (h4.mono h5.ok hev) H' (h6.mono hev)
  refine ⟨e, tm', h', X', w', a', todo', k1, k2, hev.trans k3, k4, k5, k6, .head (stepR_beginRound h1 ?_) k7⟩
  rw [run_beginRound g0 g1, g2]

theorem callV_yield {id l : Nat} {fn : FuncId} {ps : Array Tmp} {assign body : Code} {tmL : Tm} {nt : Nat} {args : List AV} {K : AV → Hp → Prop}
    (hg : h.get id = some (.loop l fn ps assign body tmL nt .ready none)) (hl : ps.toList.length = args.length) (hps : (ps.toList.all fun p => decide (p < nt)) = true)
    (hw : wpT P (some l) nt [.code assign, .beginRound, .code body] (fun e _ h2 => roundEnd id l fn ps assign body tmL nt K e h2) (putAll ps.toList args tmL) h) :
    CallV P (.fn (.yield l) [] []) args h K := by
  intro X w cf cargs H hfv hargs
  cases hfv with
  | fn _ _ _ c1 c2 h1 h2 r1 r2 =>
    have e1 : c1 = #[] := by simpa using h1
    have e2 : c2 = #[] := by simpa using h2
    subst e1; subst e2
    obtain ⟨r, hr, g1, g2, g3, g4, g5, g6, g7, g8, _, _⟩ := loop_put (st' := .ready) (pd' := none) H hg
    refine ⟨{ target := .fn (.yield l) #[], args := #[] ++ cargs }, rfl, ?_⟩
    have hsz : cargs.size = r.params.size := by
      rw [g3]
      have := hargs.1
      simp only [Array.length_toList] at this hl
      omega
    have hrun : (invoke (.fn (.yield l) #[]) (#[] ++ cargs)).run P w = .ok (.round l r.fn ((r.params.zip cargs).foldl (fun tmps (t, a) => tmps.setIfInBounds t a) r.tmps) r.assign r.body) w := by
      have : (invoke (.fn (.yield l) #[]) (#[] ++ cargs)) = Instr.yield l cargs := by simp [invoke, callFunc]
      rw [this]
      exact run_yield hr hsz
    simp only [hrun]
    have hz : (r.params.zip cargs).foldl (fun tmps (t, a) => tmps.setIfInBounds t a) r.tmps = (ps.toList.zip cargs.toList).foldl (fun tmps (q : Nat × Value) => tmps.setIfInBounds q.1 q.2) r.tmps := by
      rw [g3, ← Array.foldl_toList, Array.toList_zip]
    have hfill := params_ok (X := X) (w := w) (tm := tmL) (tmps := r.tmps) (nt := nt) hl hargs (fun p hp => by simpa using List.all_eq_true.1 hps p hp) g7 g8
    rw [hz]
    refine ⟨trivial, fun c cs _ => ?_⟩
    let b : Frame := { (default : Frame) with fn := r.fn, kind := .normal, roundOf := some l }
    generalize hT : (ps.toList.zip cargs.toList).foldl (fun tmps (q : Nat × Value) => tmps.setIfInBounds q.1 q.2) r.tmps = T at hfill
    have hb0 : Frame.round l r.fn T r.assign r.body .normal = b.atR { tmps := T, defers := [] } [.code assign, .beginRound, .code body] := by
      simp [Frame.round, Frame.atR, b, g5, g6]
    rw [hb0]
    obtain ⟨e, tm', h', X', w', a', todo', k1, k2, k3, k4, k5, k6, k7⟩ := hw X w b (c :: cs) { tmps := T, defers := [] } w.heap.size rfl rfl (Nat.le_refl _) hfill H rfl
    obtain ⟨q1, q2⟩ := k1
    cases e with
    | normal =>
      obtain rfl : todo' = [] := k2
      obtain ⟨r', u0, u1, u2, u3, u4, u5, u6, u7, u8, H', hev⟩ := loop_put (st' := .ready) (pd' := none) k5 q1
      refine ⟨.returned (.bool true), _, ⟨_, rfl, _, .bool true, _, q2, k3.trans hev, .bool _, H'⟩, comesIn_wide.2 (Steps.trans k7 (.one (stepR_round_end rfl rfl (run_endRound none u0))))⟩
    | ret =>
      obtain ⟨k', rfl⟩ := k2
      obtain ⟨r', u0, u1, u2, u3, u4, u5, u6, u7, u8, H', hev⟩ := loop_put (st' := .done) (pd' := some .ret) k5 q1
      refine ⟨.returned (.bool false), _, ⟨_, rfl, _, .bool false, _, q2, k3.trans hev, .bool _, H'⟩, comesIn_wide.2 (Steps.trans k7 (.one (stepR_round_ret rfl rfl (run_endRound (some .ret) u0))))⟩
    | exit x =>
      obtain ⟨k', rfl, hx⟩ := k2
      obtain ⟨r', u0, u1, u2, u3, u4, u5, u6, u7, u8, H', hev⟩ := loop_put (st' := .done) (pd' := some (.exit x)) k5 q1
      refine ⟨.returned (.bool false), _, ⟨_, rfl, _, .bool false, _, q2, k3.trans hev, .bool _, H'⟩, comesIn_wide.2 (Steps.trans k7 (.one (stepR_round_exit rfl rfl hx (run_endRound (some (.exit x)) u0))))⟩
    | goto x => exact q2.elim
    | panic x => exact q2.elim
    | outgrown => exact q2.elim

/-- What is asked when the function that was ranged over has returned. -/
def rangeEnd (P : Program) (n : Nat) (k : List Item) (R : Exit → Tm → Hp → Prop) (id l : Nat) (fn : FuncId) (ps : Array Tmp) (assign body : Code) (tm : Tm) (h' : Hp) : Prop :=
  ∃ st pd, h'.get id = some (.loop l fn ps assign body tm n st pd) ∧ st ≠ .busy ∧ wpT P none n ((pd.map Item.code).toList ++ k) R tm (h'.set id (.loop l fn ps assign body tm n .exhausted pd))

theorem wpT_range {g : Operand} {ps : Array Tmp} {assign body : Code} {f : FuncId} {fn : Func} {c : Code} {first caps : List AV} (hev : evA tm g = .fn (.func f) first caps) (hf : P.funcs[f]? = some fn) (hb : fn.body = some c) (hname : (fn.name == "runtime.NumGoroutine") = false)
    (hw : ∀ (l : Nat) (fid : FuncId), CallV P (.fn (.func f) first caps) [.fn (.yield l) [] []] (h.add (.loop l fid ps assign body tm n .ready none)) fun _ h' => rangeEnd P n k R h.nx l fid ps assign body tm h') :
    wpT P none n (.code (.rangeFunc g ps assign body) :: k) R tm h := by
  intro X w b cs a B h1 h2 h3 h4 h5 h6
  obtain ⟨rs, d1, d2, d3⟩ := h6
  -- the block for deferred calls, the record
  let l0 := w.heap.size
  let l := w.heap.size + 1
  let w1 := w.alloc (.deferred (some []))
  let rec0 : Loop := { state := .ready, pending := none, fn := b.fn, tmps := a.tmps, params := ps, assign, body, defers := w.heap.size }
  let w2 := w1.alloc (.loop rec0)
  have hnu : ¬ X.used h.nx := fun hu => by have := h5.lt _ hu; omega
  have hown0 : X.own h.nx = none := by cases hg : X.own h.nx with | none => rfl | some r => exact absurd (h5.ok.ids _ r hg) hnu
  have hgr : w.grownBy w2 none := grow2 (World.grownBy_alloc w _ none) (World.grownBy_alloc w1 _ none)
  have hsz1 : w1.heap.size = w.heap.size + 1 := by simp [w1]
  have hl2 : w2.heap[l]? = some (.loop rec0) := by
    have := World.alloc_heap_new w1 (.loop rec0)
    rwa [hsz1] at this
  have hp := h5.put (w' := w2) (id := h.nx) (nx' := h.nx + 1) (r' := ⟨0, 0, .map (some l)⟩) (o := .loop l b.fn ps assign body tm n .ready none) (row := none)
    (.inl ⟨hown0, hnu⟩) hgr (fun b hb => by simp at hb)
    (fun b hb => by
      have : l = b := by simpa [blockOf] using hb
      subst this
      exact ⟨by simp [w2, hsz1, l], .inl (by simp [l])⟩) (by omega) (by omega)
    (fun he => ⟨rec0, by simp [Cx.put], hl2, ⟨rfl, rfl, rfl, rfl, rfl, rfl, h4.1⟩, fun t => (h4.2 t).mono h5.ok he⟩)
  obtain ⟨H2, hev2⟩ := hp
  have henter : (Instr.enterLoop b.fn a.tmps ps assign body b.roundOf).run P w = .ok (l, [markOf l0]) w2 := by
    rw [h1]; exact run_enterLoop_outer b.fn a.tmps ps assign body
  have hfv : VRel (X.put h.nx ⟨0, 0, .map (some l)⟩) w2 (.fn (.func f) first caps) (a.eval g) := by
    rw [← hev]; exact (h4.eval g).mono h5.ok hev2
  have hyv : VRelL (X.put h.nx ⟨0, 0, .map (some l)⟩) w2 [.fn (.yield l) [] []] (#[.func (.yield l) #[] #[]] : Array Value).toList :=
    VRelL.one (.fn _ _ _ _ _ rfl rfl (fun j a c ha => by simp at ha) (fun j a c ha => by simp at ha))
  obtain ⟨d, q1, q2⟩ := hw l b.fn _ w2 (a.eval g) #[.func (.yield l) #[] #[]] H2 hfv hyv
  have hres : (resolve a.eval (rangeCall g l) 0).run P w2 = .ok d w2 := by
    simpa [rangeCall, resolve, Act.eval] using q1
  have hinv : ∃ args, (invoke d.target d.args).run P w2 = .ok (.enter f args) w2 := by
    generalize a.eval g = cg at hfv q1
    cases hfv with
    | fn _ _ _ c1 c2 g1 g2 r1 r2 =>
      have hd : d = { target := .fn (.func f) c2, args := c1 ++ #[.func (.yield l) #[] #[]] } := by
        have : (Deferred.ofValue (.func (.func f) c1 c2) #[.func (.yield l) #[] #[]]).run P w2 = .ok { target := .fn (.func f) c2, args := c1 ++ #[.func (.yield l) #[] #[]] } w2 := rfl
        rw [this] at q1
        simpa using q1.symm
      subst hd
      have hname' : ¬ fn.name = "runtime.NumGoroutine" := by simpa using hname
      exact ⟨c1 ++ #[.func (.yield l) #[] #[]] ++ c2, by simp [invoke, callFunc, hf, hname', hb]⟩
  obtain ⟨args, hinv⟩ := hinv
  rw [hinv] at q2
  have hstep := stepR_rangeFunc (P := P) (b := b) (a := a) (k := k) (cs := cs) (w := w) henter hres hinv
  obtain ⟨e, w3, fr, ⟨v, rfl, X3, r3, h3', ⟨st, pd, s1, s2, s3⟩, s4, s5, s6⟩, hcome, hfn, hlv⟩ := q2 (b.atR { a with defers := [markOf l0] ++ a.defers } (.inRangeFunc l :: k) :: cs)
  obtain ⟨r', u0, u1, u2, u3, u4, u5, u6, u7, u8, H', hev'⟩ := loop_put (st' := .exhausted) (pd' := pd) s6 s1
  have hend : (Instr.endLoop l).run P w3 = .ok pd (w3.putObj l (.loop { r' with state := .exhausted, pending := pd })) := by
    rw [run_endLoop u0 (by rw [u1]; exact s2), u2]
  have hall : Ev X w _ (w3.putObj l (.loop { r' with state := .exhausted, pending := pd })) := hev2.trans (s4.trans hev')
  have hmark : DRel none B (X3.put h.nx ⟨0, 0, .map (some l)⟩) (w3.putObj l (.loop { r' with state := .exhausted, pending := pd })) ([markOf l0] ++ a.defers) := by
    have hd0 : DRel none B (X.put h.nx ⟨0, 0, .map (some l)⟩) w2 ([markOf l0] ++ a.defers) := by
      have hd1 : DRel none B (X.put h.nx ⟨0, 0, .map (some l)⟩) w2 a.defers := DRel.mono (ro := none) ⟨rs, d1, d2, d3⟩ hev2
      obtain ⟨rs', z1, z2, z3⟩ := hd1
      refine ⟨l0 :: rs, by simp [d1], ?_, ?_⟩
      · refine List.nodup_cons.2 ⟨fun hm => ?_, d2⟩
        have := (Array.getElem?_eq_some_iff.1 (d3 l0 hm).2.1).1
        simp [l0] at this
      · intro r hr
        rcases List.mem_cons.1 hr with rfl | hr
        · refine ⟨h3, ?_, ?_, ?_⟩
          · have e1 : w1.heap[l0]? = some (.deferred (some [])) := World.alloc_heap_new w _
            have : w2.heap[l0]? = w1.heap[l0]? := (World.grownBy_alloc w1 (.loop rec0) none).block l0 (by rw [hsz1]; simp [l0]) (by simp)
            rw [this, e1]
          · rintro ⟨j, rj, hj, hbj⟩
            simp only [Cx.put] at hj
            split at hj
            · obtain rfl := Option.some.inj hj
              simp [blockOf, l, l0] at hbj
            · have := h5.ok.blk j rj l0 hj hbj
              simp [l0] at this
          · intro hi
            have := (h5.ok.imm l0 hi).1
            simp [l0] at this
        · obtain ⟨y1, y2, y3, y4⟩ := d3 r hr
          have hlt := (Array.getElem?_eq_some_iff.1 y2).1
          refine ⟨y1, (hev2.kept r hlt y3).trans y2, fun ho => ?_, y4⟩
          rcases hev2.owned r ho with y5 | y5
          · exact y3 y5
          · omega
    exact DRel.mono hd0 (s4.trans hev')
  obtain ⟨e, tm', h', X', w', a', todo', k1, k2, k3, k4, k5, k6, k7⟩ := s3 _ _ b cs { a with defers := [markOf l0] ++ a.defers } B h1 h2 (Nat.le_trans h3 hall.size) ⟨h4.1, fun t => (h4.2 t).mono h5.ok hall⟩ H' hmark
  refine ⟨e, tm', h', X', w', a', todo', k1, k2, hall.trans k3, k4, k5, k6, ?_⟩
  refine .head hstep (Steps.trans hcome (.head ?_ (.head (stepR_endRangeFunc hend) k7)))
  rw [← finish_atR_inRangeFunc l v]
  exact step_leave_returned hlv

/-! ### Words for cuts -/
theorem sx_index {t : TypeId} {x i : Operand} {Kv : AV → Hp → Prop} : stepO P (.index t x i) tm h Kv = optV (opIndexS P t (evA tm x) (evA tm i)) Kv h := stepO_pure rfl rfl
theorem sd_index {t : TypeId} {x i : Operand} {nid : Nat} {K : AV → Option (Nat × Ob) → List Nat → Prop} : opS P (.index t x i) tm h nid K = dV (opIndexS P t (evA tm x) (evA tm i)) [] K := opS_pure rfl rfl rfl
theorem rd_cut_sn {t : TypeId} {x a : Operand} : rdOf (.slice t x (some a) none none) tm = topId (evA tm x) ++ topId (evA tm a) := by simp [rdOf, rkOp, Op.operands]
theorem rd_cut_ns {t : TypeId} {x a : Operand} : rdOf (.slice t x none (some a) none) tm = topId (evA tm x) ++ topId (evA tm a) := by simp [rdOf, rkOp, Op.operands]
theorem rd_cut_nn {t : TypeId} {x : Operand} : rdOf (.slice t x none none none) tm = topId (evA tm x) := by simp [rdOf, rkOp, Op.operands]
theorem rd_cut_ss {t : TypeId} {x a b : Operand} : rdOf (.slice t x (some a) (some b) none) tm = topId (evA tm x) ++ topId (evA tm a) ++ topId (evA tm b) := by simp [rdOf, rkOp, Op.operands]
theorem stO_arr {c id tot i off E s : Nat} {x : AV} {es : List AV} : stO c id tot i off x (some (.arr E s es)) = if es.length = tot then (es[i]?).bind fun e => if x.okc = true ∧ x.cells.length = c ∧ off + x.cells.length ≤ e.cells.length then some (.set id (.arr E s (es.set i (storeV e off x)))) else none else none := rfl

/-! ### All is lent but a box, whose struct is lent too -/
theorem wpT_lend2 {ro : Option Nat} {todo : List Item} {i j : Nat} {o : Ob} {E s : Nat} {cs cs' : List AV} (h1 : h.get i = some o) (h2 : h.get j = some (.arr E s [.agg cs])) (hij : (i == j) = false)
    (hl : LendL (fun id => if id = i then none else if id = j then none else h.get id) cs cs') (hw : wpT P ro n todo R tm (Hp.of [(i, o), (j, .arr E s [.agg cs'])] h.nx)) : wpT P ro n todo R tm h := by
  have hij' : i ≠ j := by simpa using hij
  refine wpT_weak (h' := Hp.of [(i, o), (j, .arr E s [.agg cs'])] h.nx) (Nat.le_refl _) (fun id o' hg => ?_) (fun t => .refl _) hw
  have hgone : ∀ id ob, (fun id => if id = i then none else if id = j then none else h.get id) id = some ob → gone h (Hp.of [(i, o), (j, .arr E s [.agg cs'])] h.nx) id = some ob := by
    intro id ob hh
    simp only at hh
    by_cases e1 : id = i
    · simp [e1] at hh
    · by_cases e2 : id = j
      · rw [if_neg e1, if_pos e2] at hh; simp at hh
      · rw [if_neg e1, if_neg e2] at hh
        unfold gone
        simp only [of_cons, if_neg e1, if_neg e2, of_nil]
        exact hh
  rw [of_cons, of_cons] at hg
  by_cases e1 : id = i
  · rw [if_pos e1] at hg
    obtain rfl := Option.some.inj hg
    exact ⟨o, e1 ▸ h1, .inl rfl⟩
  · by_cases e2 : id = j
    · rw [if_neg e1, if_pos e2] at hg
      obtain rfl := Option.some.inj hg
      refine ⟨_, e2 ▸ h2, .inr ⟨E, s, [.agg cs], [.agg cs'], rfl, rfl, LendL.cons (Lend.aggL ⟨hl.1, fun m a b ha hb => (hl.2 m a b ha hb).weak hgone⟩) LendL.nil, by simp [AV.okc]⟩⟩
    · rw [if_neg e1, if_neg e2, of_nil] at hg
      simp at hg
end
end Go.Proofs.YtfdfkmcplhloaaaGreat
end

section
set_option linter.unusedSimpArgs false
set_option linter.unusedVariables false
namespace Go.Proofs.YtfdfkmcplhloaaaGreat
section
variable {P : Program} {n : Nat} {ops : List Oper} {B : Nat → Nat → Prop} {pairs : List (Nat × Nat)} {base b : Nat} {tm0 : Tm} {h0 : Hp} {ds : List Dr}

theorem tmK_take : ∀ {ops : List Oper} {ds : List Dr} {tm : Tm} {k b : Nat}, k ≤ b → tmK tm (ops.take b) ds k = tmK tm ops ds k
  | [], ds, tm, k, b, h => by simp
  | o :: ops, [], tm, k, b, h => by cases b <;> cases k <;> simp [tmK]
  | o :: ops, d :: ds, tm, 0, b, h => by cases b <;> simp [tmK]
  | o :: ops, d :: ds, tm, k + 1, 0, h => by omega
  | o :: ops, d :: ds, tm, k + 1, b + 1, h => by
    simp only [List.take_succ_cons, tmK]
    exact tmK_take (by omega)

def barOk (ops : List Oper) (b : Nat) : Bool := decide (b ≤ ops.length) && (List.range ops.length).all fun i => decide (i < b) || (List.range i).all fun j => bef (befs ops) i j
theorem barOk_spec (h : barOk ops b = true) : b ≤ ops.length ∧ ∀ i j, b ≤ i → i < ops.length → j < i → bef (befs ops) i j = true := by
  simp only [barOk, Bool.and_eq_true, decide_eq_true_eq] at h
  refine ⟨h.1, fun i j h1 h2 h3 => ?_⟩
  have h4 := List.all_eq_true.1 h.2 i (List.mem_range.2 h2)
  have h5 : decide (i < b) = false := decide_eq_false (by omega)
  rw [h5, Bool.false_or] at h4
  exact List.all_eq_true.1 h4 j (List.mem_range.2 h3)

theorem pre_at {i : Nat} (h : i < b) : (ops.take b)[i]? = ops[i]? := by rw [List.getElem?_take, if_pos h]

/-- What is known of the operations ahead of the chain. -/
def KnownB (P : Program) (n : Nat) (ops : List Oper) (base : Nat) (tm0 : Tm) (h0 : Hp) (b : Nat) (ds : List Dr) : Prop :=
  ds.length = b ∧ ∀ i o d, ops[i]? = some o → ds[i]? = some d → Det P n ops.toArray o (tmK tm0 ops ds i) (hpK h0 ds i).get (base + (0 + i)) d ∧ (d.wr ≠ none → wkOp o.op = true) ∧ (d.rd ≠ [] → rkOp o.op = true)

theorem Known.bar (hb : b ≤ ops.length) (kn : Known P n ops base tm0 h0 0 (ops.take b) ds) : KnownB P n ops base tm0 h0 b ds := by
  have hl : ds.length = b := by rw [kn.1, List.length_take]; omega
  refine ⟨hl, fun i o d ho hd => ?_⟩
  have hi : i < b := by rw [← hl]; exact (List.getElem?_eq_some_iff.1 hd).1
  have := kn.2 i o d (by rw [pre_at hi]; exact ho) hd
  rwa [tmK_take (by omega)] at this

theorem Sta.apartB (st : Sta n ops B pairs) (kn : KnownB P n ops base tm0 h0 b ds) (hsep : seps (ds.map fun d => (d.wid, d.rd)) pairs) {i j : Nat} {o q : Oper} {d e : Dr} (hlt : i < j) (ho : ops[i]? = some o) (hq : ops[j]? = some q) (hd : ds[i]? = some d) (he : ds[j]? = some e)
    (hc : (∃ id, d.wid = some id ∧ (id ∈ e.rd ∨ e.wid = some id)) ∨ ∃ id, e.wid = some id ∧ id ∈ d.rd) : B j i := by
  by_cases hb : B j i
  · exact hb
  · exfalso
    have k1 := (kn.2 i o d ho hd).2
    have k2 := (kn.2 j q e hq he).2
    have w1 : ∀ {d : Dr} {id : Nat}, d.wid = some id → d.wr ≠ none := fun h e => by simp [Dr.wid, e] at h
    have r1 : ∀ {d : Dr} {id : Nat}, id ∈ d.rd → d.rd ≠ [] := fun h e => by rw [e] at h; simp at h
    have hp : pairOk o q = true := by
      unfold pairOk
      rcases hc with ⟨id, h1, h2 | h2⟩ | ⟨id, h1, h2⟩
      · simp [k1.1 (w1 h1), k2.2 (r1 h2)]
      · simp [k1.1 (w1 h1), k2.1 (w1 h2)]
      · simp [k1.2 (r1 h2), k2.1 (w1 h1)]
    have hs := hsep _ (st.conf i o j q ho hq hlt hb hp)
    unfold sepAt at hs
    simp only [List.getElem?_map, hd, he, Option.map_some] at hs
    rcases hc with ⟨id, h1, h2 | h2⟩ | ⟨id, h1, h2⟩
    · exact (hs.1 id h1).1 h2
    · exact (hs.1 id h1).2 h2
    · exact hs.2 id h1 h2

theorem text_okB (hl : ds.length = b) (hb : b ≤ ops.length) : ∀ k, k ≤ b → TmOk ops ds tm0 (fun j => j < k) (tmK tm0 ops ds k) ∧ HpOk ds h0.get (fun j => j < k) (hpK h0 ds k).get
  | 0, _ => by
    have e1 : tmK tm0 ops ds 0 = tm0 := by cases ops <;> cases ds <;> rfl
    have e2 : hpK h0 ds 0 = h0 := by cases ds <;> rfl
    rw [e1, e2]
    exact ⟨fun t => .inr ⟨fun i o h => by omega, rfl⟩, fun id => .inr ⟨fun i d h => by omega, rfl⟩⟩
  | k + 1, hk => by
    obtain ⟨h1, h2⟩ := text_okB hl hb k (by omega)
    have ho : ops[k]? = some ops[k] := List.getElem?_eq_getElem (by omega)
    have hd : ds[k]? = some ds[k] := List.getElem?_eq_getElem (by omega)
    rw [tmK_succ ho hd, hpK_succ hd]
    exact ⟨(h1.step ho hd).congr fun i _ => by omega, (h2.step hd fun j d' id hj _ hlt => by omega).congr fun i _ => by omega⟩

variable {S : Nat → Prop} {tm : Tm}
theorem Inv.takeB {ro : Option Nat} {Q : Exit → Act → World → Prop} {h : Hp} {X : Cx} {w : World} {a : Act} {i : Nat} {o : Oper} {next : Act → World → Prop} (st : Sta n ops B pairs) (kn : KnownB P n ops base tm0 h0 b ds) (hbl : b ≤ ops.length) (hib : i < b) (hsep : seps (ds.map fun d => (d.wid, d.rd)) pairs) (hS : Down ops S)
    (I : Inv n ops ds tm0 h0 base S tm h X w a) (ho : ops[i]? = some o) (hi : ¬ S i) (hk : ∀ k ∈ afterOns o, S k)
    (hnext : ∀ tm' h' X' w' a', Inv n ops ds tm0 h0 base (fun j => S j ∨ j = i) tm' h' X' w' a' → Ev X w X' w' → a'.defers = a.defers → next a' w') : wpOpIn (fen ro) 0 P ops.toArray Q i next a w := by
  have hilt : i < ops.length := (List.getElem?_eq_some_iff.1 ho).1
  have hd : ds[i]? = some (ds[i]'(by rw [kn.1]; exact hib)) := List.getElem?_eq_getElem _
  generalize ds[i]'(by rw [kn.1]; exact hib) = d at hd
  obtain ⟨hdet, _, _⟩ := kn.2 i o d ho hd
  obtain ⟨ht, hh⟩ := text_okB (tm0 := tm0) (h0 := h0) (ops := ops) kn.1 hbl i (by omega)
  have opAt : ∀ {j : Nat} {e : Dr}, ds[j]? = some e → ∃ q, ops[j]? = some q := fun {j e} he => ⟨ops[j]'(by have := (List.getElem?_eq_some_iff.1 he).1; have := kn.1; omega), List.getElem?_eq_getElem _⟩
  have pred : ∀ {j : Nat} {q : Oper}, ops[j]? = some q → B i j → S j ∧ j < i := fun hq hb => st.down hS i o _ _ ho hk hq hb
  -- an operation that was carried out and stands later in the text does not touch what this one touches
  have later : ∀ {j : Nat} {e : Dr}, S j → ds[j]? = some e → i < j → ((∃ id, d.wid = some id ∧ (id ∈ e.rd ∨ e.wid = some id)) ∨ ∃ id, e.wid = some id ∧ id ∈ d.rd) → False := by
    intro j e hj he hlt hc
    obtain ⟨q, hq⟩ := opAt he
    exact hi ((st.down hS j q i o hq (fun k hk' => hS j q hj hq k hk') ho (st.apartB kn hsep hlt ho hq hd he hc)).1)
  have hsame : ∀ t ∈ o.looksAt ops.toArray, tm t = tmK tm0 ops ds i t := by
    intro t htl
    rcases ht t with ⟨j, q, e, h1, h2, h3, h4, h5⟩ | ⟨h1, h2⟩
    · have hj := pred h2 ((st.look i o j q t ho h2 htl h4).elim (fun h => h) fun hb => by
        have := st.lt h2 ho hb
        have h1 : j < i := h1
        omega)
      rcases I.tmo t with ⟨j', q', e', k1, k2, k3, k4, k5⟩ | ⟨k1, k2⟩
      · obtain rfl := st.uniq j q j' q' t h2 k2 h4 k4
        rw [h3] at k3; obtain rfl := Option.some.inj k3
        rw [h5, k5]
      · exact absurd h4 (k1 j q hj.1 h2)
    · rcases I.tmo t with ⟨j', q', e', k1, k2, k3, k4, k5⟩ | ⟨k1, k2⟩
      · rcases st.look i o j' q' t ho k2 htl k4 with hb | hb
        · exact absurd k4 (h1 j' q' (pred k2 hb).2 k2)
        · exact absurd (st.down hS j' q' i o k2 (fun k hk' => hS j' q' k1 k2 k hk') ho hb).1 hi
      · rw [h2, k2]
  have hag : Agree d.rd (hpK h0 ds i).get h.get := by
    intro id hid ob hob
    have earlier : ∀ {j : Nat} {e : Dr}, j < i → ds[j]? = some e → e.wid = some id → S j := by
      intro j e hlt he hw
      obtain ⟨q, hq⟩ := opAt he
      exact (pred hq (st.apartB kn hsep hlt hq ho he hd (.inl ⟨id, hw, .inl hid⟩))).1
    have wid : ∀ {d : Dr} {o : Ob}, d.wr = some (id, o) → d.wid = some id := fun h => by simp [Dr.wid, h]
    rcases hh id with ⟨j, e, o', h1, h2, h3, h4, h5⟩ | ⟨h1, h2⟩
    · rcases I.hpo id with ⟨j', e', o2, k1, k2, k3, k4, k5⟩ | ⟨k1, k2⟩
      · rcases Nat.lt_trichotomy j j' with hlt | rfl | hlt
        · rcases Nat.lt_trichotomy j' i with hlt' | rfl | hlt'
          · exact absurd (wid k3) (h5 j' e' hlt' k2 hlt)
          · exact absurd k1 hi
          · exact (later k1 k2 hlt' (.inr ⟨id, wid k3, hid⟩)).elim
        · rw [h2] at k2; obtain rfl := Option.some.inj k2
          rw [h3] at k3; simp at k3; subst k3
          rw [k4, ← h4, hob]
        · exact absurd (wid h3) (k5 j e (earlier h1 h2 (wid h3)) h2 hlt)
      · exact absurd (wid h3) (k1 j e (earlier h1 h2 (wid h3)) h2)
    · rcases I.hpo id with ⟨j', e', o2, k1, k2, k3, k4, k5⟩ | ⟨k1, k2⟩
      · rcases Nat.lt_trichotomy j' i with hlt' | rfl | hlt'
        · exact absurd (wid k3) (h1 j' e' hlt' k2)
        · exact absurd k1 hi
        · exact (later k1 k2 hlt' (.inr ⟨id, wid k3, hid⟩)).elim
      · rw [k2, ← h2, hob]
  have hfree : ¬ X.used (base + (0 + i)) := fun hu => by
    rcases I.used _ hu with h | ⟨j, hj, e⟩
    · omega
    · have : i = j := by omega
      exact hi (this ▸ hj)
  have main := hdet ro tm h X w a next Q hsame hag (by rw [I.nx]; omega) I.hr I.fr hfree fun c X' w' hev hv hr' hu => by
    refine hnext (tm.put o.dst d.v) (h.wr d.wr) X' w' _ ⟨I.tmo.step ho hd, I.hpo.step hd fun j e id hj he hlt hw hw' => later hj he hlt (.inl ⟨id, hw, .inr hw'⟩), by rw [wr_nx]; exact I.nx, hr', ?_, fun id hid => ?_⟩ hev ?_
    · refine (I.fr.mono I.hr.ok hev).put hv fun t ht => ?_
      have := regOk_spec st.reg o (List.mem_of_getElem? ho)
      simpa [dstOk, ht] using this
    · rcases hu id hid with h | rfl
      · exact (I.used id h).imp (fun h => h) fun ⟨j, hj, e⟩ => ⟨j, .inl hj, e⟩
      · exact .inr ⟨i, .inr rfl, by omega⟩
    · cases o.dst <;> rfl
  unfold wpOpIn
  have harr : ops.toArray[i]? = some o := by simpa using ho
  simp only [harr]
  exact main


/-- The operations ahead of the chain, in any order; then what is asked of the chain. -/
theorem any_okB {ro : Option Nat} {Q : Exit → Act → World → Prop} {X0 : Cx} {w0 : World} {Df : List Deferred} (st : Sta n ops B pairs) (kn : KnownB P n ops base tm0 h0 b ds) (hbl : b ≤ ops.length) (hbar : ∀ i j, b ≤ i → i < ops.length → j < i → B i j)
    (hsep : seps (ds.map fun d => (d.wid, d.rd)) pairs) (hnx : h0.nx = base + ops.length)
    (hT : ∀ (fuel : Nat) (listed : Array Bool) (X : Cx) (w : World) (a : Act), ops.length - b ≤ fuel → listed.size = ops.length → (∀ i, i < ops.length → (listed.getD i false = true ↔ i < b)) → Ev X0 w0 X w → FRel n (tmK tm0 ops ds b) X w a → HRel (hpK h0 ds b) X w → a.defers = Df → wpAnyIn (fen ro) 0 P .any ops.toArray Q fuel listed a w) :
    ∀ (m fuel : Nat) (listed : Array Bool) (un : List Nat) (tm : Tm) (h : Hp) (X : Cx) (w : World) (a : Act), listed.size = ops.length → un.Nodup → un.length ≤ m → m + (ops.length - b) ≤ fuel → (∀ i, i < b → listed.getD i false = false → i ∈ un) → (∀ i, b ≤ i → listed.getD i false = false) → Down ops (fun i => listed.getD i false = true) →
      Inv n ops ds tm0 h0 base (fun i => listed.getD i false = true) tm h X w a → Ev X0 w0 X w → a.defers = Df → wpAnyIn (fen ro) 0 P .any ops.toArray Q fuel listed a w := by
  have done : ∀ (fuel : Nat) (listed : Array Bool) (tm : Tm) (h : Hp) (X : Cx) (w : World) (a : Act), ops.length - b ≤ fuel → listed.size = ops.length → (∀ i, i < b → listed.getD i false = true) → (∀ i, b ≤ i → listed.getD i false = false) → Inv n ops ds tm0 h0 base (fun i => listed.getD i false = true) tm h X w a → Ev X0 w0 X w → a.defers = Df → wpAnyIn (fen ro) 0 P .any ops.toArray Q fuel listed a w := by
    intro fuel listed tm h X w a hfu hsz hall hno I hev hdf
    obtain ⟨h1, h2⟩ := text_okB (tm0 := tm0) (h0 := h0) (ops := ops) kn.1 hbl b (Nat.le_refl _)
    have hiff : ∀ i, (listed.getD i false = true ↔ i < b) := fun i => ⟨fun h => by
      by_cases e : i < b
      · exact e
      · rw [hno i (by omega)] at h; simp at h, hall i⟩
    have e1 := (I.tmo.congr (S' := fun j => j < b) fun i _ => hiff i).uniq st.uniq h1
    have e2 := (I.hpo.congr (S' := fun j => j < b) fun i _ => hiff i).uniq h2
    have e3 : h = hpK h0 ds b := by
      have : h.nx = (hpK h0 ds b).nx := by rw [I.nx, hpK_nx, hnx]
      cases h
      cases hh : hpK h0 ds b
      rw [hh] at this e2
      simp_all
    exact hT fuel listed X w a hfu hsz (fun i _ => hiff i) hev (e1 ▸ I.fr) (e3 ▸ I.hr) hdf
  intro m
  induction m with
  | zero =>
    intro fuel listed un tm h X w a hsz hnd hle hfu hun hno hS I hev hdf
    refine done fuel listed tm h X w a (by omega) hsz (fun i hi => ?_) hno I hev hdf
    cases hl : listed.getD i false with
    | true => rfl
    | false =>
      have := hun i hi hl
      have : un = [] := List.eq_nil_of_length_eq_zero (by omega)
      simp_all
  | succ m ih =>
    intro fuel listed un tm h X w a hsz hnd hle hfu hun hno hS I hev hdf
    by_cases hall : ∀ i, i < b → listed.getD i false = true
    · exact done fuel listed tm h X w a (by omega) hsz hall hno I hev hdf
    obtain ⟨fuel, rfl⟩ : ∃ f, fuel = f + 1 := ⟨fuel - 1, by omega⟩
    have small : ∀ i, i ∈ Region.ready .any ops.toArray listed → i < b := by
      intro i hm
      obtain ⟨h1, o, h2, h3⟩ := mem_ready.1 hm
      have hi : i < ops.length := by simpa using (Array.getElem?_eq_some_iff.1 h2).1
      by_cases e : i < b
      · exact e
      · refine absurd (fun j hj => ?_) hall
        have ho : ops[i]? = some o := by simpa using h2
        have hk : ∀ k ∈ afterOns o, listed.getD k false = true := fun k hk => by
          obtain ⟨e, he, rfl⟩ := List.mem_map.1 hk
          obtain ⟨he1, he2⟩ := List.mem_filter.1 he
          exact h3 e (by simpa using he1) he2
        exact (st.down hS i o j ops[j] ho hk (List.getElem?_eq_getElem (by omega)) (hbar i j (by omega) hi (by omega))).1
    -- the least that is not listed is ready
    have nonempty : Region.ready .any ops.toArray listed ≠ [] := by
      intro hr
      refine hall fun i => ?_
      induction i using Nat.strongRecOn with
      | _ i ihh =>
        intro hi
        by_cases hl : listed.getD i false = true
        · exact hl
        · exfalso
          have hil : i < ops.length := by omega
          have hm : i ∈ Region.ready .any ops.toArray listed := by
            refine mem_ready.2 ⟨?_, ops[i], by simp [hil], fun e he hb => ?_⟩
            · have hlt : i < listed.size := by omega
              simpa [Array.getD_eq_getD_getElem?, hlt] using hl
            · have hk : e.on ∈ afterOns ops[i] := List.mem_map.2 ⟨e, List.mem_filter.2 ⟨by simpa using he, hb⟩, rfl⟩
              have := st.back i _ (List.getElem?_eq_getElem hil) _ hk
              exact ihh _ this (by omega)
          rw [hr] at hm
          simp at hm
    refine ⟨fun hr => absurd hr nonempty, fun i hm => ?_⟩
    have hib := small i hm
    obtain ⟨h1, o, h2, h3⟩ := mem_ready.1 hm
    have hi : i < ops.length := by simpa using (Array.getElem?_eq_some_iff.1 h2).1
    have hlt : i < listed.size := by omega
    have ho : ops[i]? = some o := by simpa using h2
    have hni : listed.getD i false = false := by
      simp [Array.getD_eq_getD_getElem?, hlt] at h1 ⊢
      exact h1
    have hiff : ∀ j, ((listed.getD j false = true ∨ j = i) ↔ (listed.setIfInBounds i true).getD j false = true) := by
      intro j
      by_cases e : i = j
      · subst e
        simp [Array.getD_eq_getD_getElem?, hlt]
      · rw [getD_set_ne false e]
        exact ⟨fun h => h.elim id fun e' => absurd e'.symm e, .inl⟩
    have hk : ∀ k ∈ afterOns o, listed.getD k false = true := fun k hk => by
      obtain ⟨e, he, rfl⟩ := List.mem_map.1 hk
      obtain ⟨he1, he2⟩ := List.mem_filter.1 he
      exact h3 e (by simpa using he1) he2
    refine Inv.takeB st kn hbl hib hsep hS I ho (by simp [hni]) hk fun tm' h' X' w' a' I' hev' hdf' => ?_
    refine ih fuel (listed.setIfInBounds i true) (un.erase i) tm' h' X' w' a' (by simpa using hsz) (hnd.erase i) ?_ (by omega) ?_ ?_ ?_ ?_ (hev.trans hev') (hdf'.trans hdf)
    · rw [List.length_erase_of_mem (hun i hib hni)]; omega
    · intro j hj hjl
      have hne : j ≠ i := fun e => by
        have := (hiff j).1 (.inr e)
        rw [this] at hjl; simp at hjl
      have hjl' : listed.getD j false = false := by
        cases hh : listed.getD j false with
        | false => rfl
        | true => have := (hiff j).1 (.inl hh); rw [this] at hjl; simp at hjl
      exact (List.mem_erase_of_ne hne).2 (hun j hj hjl')
    · intro j hj
      cases hh : (listed.setIfInBounds i true).getD j false with
      | false => rfl
      | true =>
        rcases (hiff j).2 hh with h | h
        · rw [hno j hj] at h; simp at h
        · omega
    · intro j q hj hq k hk'
      refine (hiff k).1 (.inl ?_)
      rcases (hiff j).2 hj with h | rfl
      · exact hS j q h hq k hk'
      · rw [ho] at hq; obtain rfl := Option.some.inj hq; exact hk k hk'
    · exact ⟨I'.tmo.congr fun j _ => hiff j, I'.hpo.congr fun j _ => hiff j, I'.nx, I'.hr, I'.fr, fun id hid => (I'.used id hid).imp (fun h => h) fun ⟨j, hj, e⟩ => ⟨j, (hiff j).1 hj, e⟩⟩

/-- The chain, in the text's order. -/
theorem any_chain {ro : Option Nat} {Q : Exit → Act → World → Prop} {X0 : Cx} {w0 : World} {D : List Deferred} {K : Tm → Hp → Prop} (st : Sta n ops B pairs) (hn : ∀ o ∈ ops, dstOk n o) (hbar : ∀ i j, b ≤ i → i < ops.length → j < i → B i j)
    (hQ : ∀ tm h X w a, K tm h → Ev X0 w0 X w → FRel n tm X w a → HRel h X w → a.defers = D → Q .normal a w) :
    ∀ (rest : List Oper) (k fuel : Nat) (listed : Array Bool) (tm : Tm) (h : Hp) (X : Cx) (w : World) (a : Act), b ≤ k → k ≤ ops.length → ops.drop k = rest → ops.length - k ≤ fuel → listed.size = ops.length → (∀ i, i < ops.length → (listed.getD i false = true ↔ i < k)) → Ev X0 w0 X w → FRel n tm X w a → HRel h X w → a.defers = D →
      regSeq P n ops rest tm h K → wpAnyIn (fen ro) 0 P .any ops.toArray Q fuel listed a w
  | [], k, fuel, listed, tm, h, X, w, a, hbk, hkl, hd, hfu, hsz, hl, hev, hf, H, hD, hr => by
    have hk : k = ops.length := by
      have := congrArg List.length hd
      simp at this
      omega
    subst hk
    have hq := hQ tm h X w a hr hev hf H hD
    have hr : Region.ready .any ops.toArray listed = [] := by
      cases hr : Region.ready .any ops.toArray listed with
      | nil => rfl
      | cons i is =>
        have hm : i ∈ Region.ready .any ops.toArray listed := by rw [hr]; simp
        obtain ⟨h1, o, h2, _⟩ := mem_ready.1 hm
        have hi : i < ops.length := by simpa using (Array.getElem?_eq_some_iff.1 h2).1
        have := (hl i hi).2 hi
        have hlt : i < listed.size := by omega
        simp [Array.getD_eq_getD_getElem?, hlt] at h1 this
        rw [h1] at this
        simp at this
    cases fuel with
    | zero => exact ⟨hr, hq⟩
    | succ fuel => exact ⟨fun _ => hq, fun i hm => by rw [hr] at hm; simp at hm⟩
  | o :: rest, k, fuel, listed, tm, h, X, w, a, hbk, hkl, hd, hfu, hsz, hl, hev, hf, H, hD, hr => by
    have hk : k < ops.length := by
      have := congrArg List.length hd
      simp at this
      omega
    have ho : ops[k]? = some o := by
      have : (ops.drop k)[0]? = some o := by rw [hd]; rfl
      simpa using this
    obtain ⟨fuel, rfl⟩ : ∃ f, fuel = f + 1 := ⟨fuel - 1, by omega⟩
    have hS : Down ops (fun i => listed.getD i false = true) := by
      intro i q hi hq j hj
      have hil : i < ops.length := (List.getElem?_eq_some_iff.1 hq).1
      have := st.back i q hq j hj
      have := (hl i hil).1 hi
      exact (hl j (by omega)).2 (by omega)
    have only : ∀ i, i ∈ Region.ready .any ops.toArray listed → i = k := by
      intro i hm
      obtain ⟨h1, q, h2, h3⟩ := mem_ready.1 hm
      have hi : i < ops.length := by simpa using (Array.getElem?_eq_some_iff.1 h2).1
      have hq : ops[i]? = some q := by simpa using h2
      have hni : ¬ i < k := fun hlt => by
        have := (hl i hi).2 hlt
        have hlt : i < listed.size := by omega
        simp [Array.getD_eq_getD_getElem?, hlt] at h1 this
        rw [h1] at this
        simp at this
      by_cases e : i = k
      · exact e
      · exfalso
        have hk' : ∀ j ∈ afterOns q, listed.getD j false = true := fun j hj => by
          obtain ⟨e, he, rfl⟩ := List.mem_map.1 hj
          obtain ⟨he1, he2⟩ := List.mem_filter.1 he
          exact h3 e (by simpa using he1) he2
        have := (st.down hS i q k o hq hk' ho (hbar i k (by omega) hi (by omega))).1
        have := (hl k hk).1 this
        omega
    have isready : k ∈ Region.ready .any ops.toArray listed := by
      refine mem_ready.2 ⟨?_, o, by simpa using ho, fun e he hb => ?_⟩
      · have hlt : k < listed.size := by omega
        have : ¬ listed.getD k false = true := fun h => by have := (hl k hk).1 h; omega
        simpa [Array.getD_eq_getD_getElem?, hlt] using this
      · have hkk : e.on ∈ afterOns o := List.mem_map.2 ⟨e, List.mem_filter.2 ⟨by simpa using he, hb⟩, rfl⟩
        have := st.back k _ ho _ hkk
        exact (hl _ (by omega)).2 this
    refine ⟨fun hr => by rw [hr] at isready; simp at isready, fun i hm => ?_⟩
    obtain rfl := only i hm
    have hdo : dstOk n o := hn o (List.mem_of_getElem? ho)
    simp only [regSeq] at hr
    have hd' : ops.drop (i + 1) = rest := by rw [← List.drop_drop, hd]; rfl
    have hl' : ∀ j, j < ops.length → ((listed.setIfInBounds i true).getD j false = true ↔ j < i + 1) := by
      intro j hj
      have hlt : i < listed.size := by omega
      by_cases e : i = j
      · subst e
        simp [Array.getD_eq_getD_getElem?, hlt]
      · rw [getD_set_ne false e, hl j hj]
        omega
    have harr : ops.toArray[i]? = some o := by simpa using ho
    unfold wpOpIn
    simp only [harr]
    have hn' : ∀ o ∈ ops.toArray.toList, dstOk n o := by simpa using hn
    have hr' : gcond ops.toArray.toList tm o (stepF P o tm h fun v h' => regSeq P n ops rest (tm.put o.dst v) h' K) (regSeq P n ops rest (tm.put o.dst (.tup [])) h K) := by simpa using hr
    rcases gcond_ok hf hn' hr' with ⟨h1, h2⟩ | ⟨h1, h2⟩
    · rw [if_pos h1]
      refine stepF_ok H hf hdo h2 fun v h' c X' w' h3 h4 h5 h6 => ?_
      refine any_chain st hn hbar hQ rest (i + 1) fuel (listed.setIfInBounds i true) _ h' X' w' _ (by omega) (by omega) hd' (by omega) (by simpa using hsz) hl' (hev.trans h4) ((hf.mono H.ok h4).put h5 fun t ht => by simpa [dstOk, ht] using hdo) h6 ?_ h3
      cases o.dst <;> exact hD
    · rw [if_neg (by simp [h1])]
      refine ⟨about_wide ro o a.eval w, ?_⟩
      refine any_chain st hn hbar hQ rest (i + 1) fuel (listed.setIfInBounds i true) _ h X w _ (by omega) (by omega) hd' (by omega) (by simpa using hsz) hl' hev (hf.put (.tup [] #[] rfl fun j a c ha => by simp at ha) fun t ht => by simpa [dstOk, ht] using hdo) H ?_ h2
      cases o.dst <;> exact hD
end

section
variable {P : Program} {n : Nat}
/-- A region that is carried out in any order, with a chain at its end. -/
theorem wpT_drawB {ro : Option Nat} {k : List Item} {R : Exit → Tm → Hp → Prop} {tm : Tm} {h : Hp} {id m : Nat} {l : List Oper} (b : Nat) (pairs : List (Nat × Nat)) (hm : P.follows .mixedOrders = true) (hok : (drawOk n l pairs && barOk l b) = true) (hl : l.length = m)
    (hw : ∀ K : Tm → Hp → Prop, (∀ tm' h', wpT P ro n k R tm' h' → K tm' h') → regDraw P l h.nx (l.take b) 0 tm (h.up m) (fun log tm' h' => seps log pairs ∧ regSeq P n l (l.drop b) tm' h' K)) :
    wpT P ro n (.code (.region id l.toArray true) :: k) R tm h := by
  subst hl
  simp only [Bool.and_eq_true] at hok
  have st := drawOk_spec hok.1
  obtain ⟨hbl, hbar⟩ := barOk_spec hok.2
  refine wpT_ofRegion (K := fun tm' h' => wpT P ro n k R tm' h') (fun X w a hf H => ?_) (fun _ _ hk => hk)
  refine wpIn_region_any hm ?_
  obtain ⟨ds, kn, hsep, hK⟩ := regDraw_ex (P := P) (n := n) (ops := l) (regOk_spec st.reg) (l.take b) 0 tm _ _ (hw _ fun _ _ h => h)
  have hln : (l.take b).length = b := by rw [List.length_take]; omega
  rw [hln, tmK_take (Nat.le_refl _)] at hK
  let h1 : Hp := ⟨h.get, h.nx + l.length⟩
  have H1 : HRel h1 X w := ⟨H.ok, fun id hu => by have := H.lt id hu; simp only [h1]; omega, H.dead, H.obj⟩
  obtain ⟨H2, hev2⟩ := H1.drew
  have knB : KnownB P n l h.nx tm h1 b ds := Known.bar hbl kn
  have h0 := any_okB (ro := ro) (X0 := X) (w0 := w) (Df := a.defers) (Q := fun e a' w' => e = .normal ∧ a'.defers = a.defers ∧ ∃ tm' h' X', wpT P ro n k R tm' h' ∧ Ev X w X' w' ∧ FRel n tm' X' w' a' ∧ HRel h' X' w')
    st knB hbl hbar hsep rfl
    (fun fuel listed X' w' a' hfu hsz hl hev hf' H' hdf => any_chain (K := fun tm' h' => wpT P ro n k R tm' h') st (regOk_spec st.reg) hbar (fun tm2 h2 X2 w2 a2 k1 k2 k3 k4 k5 => ⟨rfl, k5, tm2, h2, X2, k1, k2, k3, k4⟩) (l.drop b) b fuel listed _ _ X' w' a' (Nat.le_refl _) hbl rfl hfu hsz hl hev hf' H' hdf hK)
    b l.length (Array.replicate l.length false) (List.range b) tm h1 X w.drew a (by simp) List.nodup_range (by simp) (by omega) (fun i hi _ => by simpa using hi) (fun i _ => by
      simp [Array.getD_eq_getD_getElem?, Array.getElem?_replicate]
      split <;> simp) (fun i o hi => by
      simp [Array.getD_eq_getD_getElem?, Array.getElem?_replicate] at hi
      split at hi <;> simp at hi)
    ⟨fun t => .inr ⟨fun i o hi => by
      simp [Array.getD_eq_getD_getElem?, Array.getElem?_replicate] at hi
      split at hi <;> simp at hi, rfl⟩, fun id => .inr ⟨fun i o hi => by
      simp [Array.getD_eq_getD_getElem?, Array.getElem?_replicate] at hi
      split at hi <;> simp at hi, rfl⟩, rfl, H2, hf.mono H.ok hev2, fun id hu => .inl (H.lt id hu)⟩ hev2 rfl
  simpa using h0
end
end Go.Proofs.YtfdfkmcplhloaaaGreat
end

section
set_option linter.unusedSimpArgs false
set_option linter.unusedVariables false
namespace Go.Proofs.YtfdfkmcplhloaaaGreat
open Go.ChangeShapes Go.WideShapes
section
variable {P : Program}

/-- What a call is given: all blocks lie there, none is written. -/
def inX (w : World) : Cx := ⟨fun _ => none, fun b => b < w.heap.size, fun _ => False⟩

/-- What is read as a type is related to an abstract value. -/
def Dec (P : Program) (t : TypeId) {α : Type} (f : α → AV) (good : α → Prop) : Prop :=
  ∀ (H : Type) (enc : TypeId × Value → H) (w : World) (sp : Nat → Bool) (fuel : Nat) (cs : List Value) (x : DataW H × List MemPlace), DataW.trod enc P w 0 sp true fuel t cs = some x → (∀ n ∈ x.1.weights P t, n ≤ reachBytes) →
    ∃ a, good a ∧ VRelL (inX w) w (f a).cells cs ∧ ∀ u ∈ cs, u.oneCell' = true

theorem dec_int {t : TypeId} {k : IntKind} (hu : P.underlying t = some (.int k)) : Dec P t (fun n => AV.int k n) (fun _ => True) := by
  intro H enc w sp fuel cs x h _
  obtain ⟨n, rfl, rfl, hw⟩ := DataW.trod_int hu h
  exact ⟨n, trivial, VRelL.one (.int k n), by simp [Value.oneCell']⟩
theorem dec_bool {t : TypeId} (hu : P.underlying t = some .bool) : Dec P t (fun b => AV.bool b) (fun _ => True) := by
  intro H enc w sp fuel cs x h _
  obtain ⟨b, rfl, rfl⟩ := DataW.trod_bool hu h
  exact ⟨b, trivial, VRelL.one (.bool b), by simp [Value.oneCell']⟩

theorem cells_spec {w : World} {a : Addr} {n : Nat} {cs : List Value} (h : w.cells? 0 a n = some cs) : cs.length = n ∧ ∀ (j : Nat) u, cs[j]? = some u → w.cell? (a.add j) = some u := by
  unfold World.cells? at h
  rw [if_pos (Nat.zero_le _)] at h
  have hl : cs.length = n := by simpa using mapM_some_length h
  refine ⟨hl, fun j u hu => ?_⟩
  have hj : j < n := by rw [← hl]; exact (List.getElem?_eq_some_iff.1 hu).1
  have := mapM_some_get h j j (by simp [hj])
  rw [this, hu]

theorem cell_lt {w : World} {a : Addr} {u : Value} (h : w.cell? a = some u) : a.block < w.heap.size := by
  unfold World.cell? at h
  split at h
  · rename_i e
    exact (Array.getElem?_eq_some_iff.1 e).1
  · simp at h

theorem weightsAll_mem {H : Type} {e : TypeId} {d : DataW H} : ∀ {l : List (DataW H)}, d ∈ l → ∀ n ∈ d.weights P e, n ∈ DataW.weightsAll P e l
  | c :: l, hd, n, hn => by
    simp only [DataW.weightsAll, List.mem_append]
    rcases List.mem_cons.1 hd with rfl | hd
    · exact .inl hn
    · exact .inr (weightsAll_mem hd n hn)
theorem dec_slice {t e : TypeId} {α : Type} {f : α → AV} {good : α → Prop} (hu : P.underlying t = some (.slice e)) (he : Dec P e f good) (hc : ∀ a, (f a).cells.length = P.cellsOf e) (hk : ∀ a, (f a).okc = true) (hs : (P.cellsOf e == 0) = false) :
    Dec P t (fun xs : List α => AV.lst (xs.map f)) (fun xs => xs.length * P.bytesOf e ≤ reachBytes ∧ ∀ a ∈ xs, good a) := by
  intro H enc w sp fuel cs x h hw
  have hs' : P.cellsOf e ≠ 0 := by simpa using hs
  rcases DataW.trod_slice hu h with ⟨rfl, rfl⟩ | ⟨ad, len, cap, elems, rest, n, rfl, rfl, rfl, h1, h2, h3, h4, h5, _⟩
  · exact ⟨[], ⟨by simp, by simp⟩, VRelL.one (.lnil none 0), by simp [Value.oneCell']⟩
  · simp only [DataW.weights, hu, List.mem_cons, List.mem_append, forall_eq_or_imp] at hw
    obtain ⟨hw0, hw1⟩ := hw
    have key : ∀ m, m ≤ len → ∃ (xs : List α) (fs : List Value), xs.length = m ∧ fs.length = m * P.cellsOf e ∧ VRelL (inX w) w (flat (xs.map f)) fs ∧ (∀ u ∈ fs, u.oneCell' = true) ∧ (∀ (j : Nat) u, fs[j]? = some u → w.cell? (ad.add j) = some u) ∧ ∀ a ∈ xs, good a := by
      intro m
      induction m with
      | zero => exact fun _ => ⟨[], [], rfl, by simp, VRelL.nil, by simp, by simp, by simp⟩
      | succ m ih =>
        intro hm
        obtain ⟨xs, fs, k1, k2, k3, k4, k5, k6⟩ := ih (by omega)
        have h6 := h5 m (by omega)
        rw [List.getElem?_eq_getElem (by omega)] at h6
        simp only [Option.bind_eq_some_iff] at h6
        obtain ⟨cs, h7, h8⟩ := h6
        obtain ⟨h9, h10⟩ := cells_spec h7
        obtain ⟨a, g1, g2, g3⟩ := he H enc w sp n cs _ h8 (fun q hq => hw1 q (.inl (weightsAll_mem (List.mem_map.2 ⟨_, List.getElem_mem (by omega), rfl⟩) q hq)))
        refine ⟨xs ++ [a], fs ++ cs, by simp [k1], by rw [List.length_append, k2, h9, Nat.succ_mul], ?_, ?_, ?_, ?_⟩
        · rw [List.map_append, flat_append]
          refine k3.append ?_
          simpa [flat] using g2
        · intro u hu
          rcases List.mem_append.1 hu with hu | hu
          · exact k4 u hu
          · exact g3 u hu
        · intro j u hu
          by_cases hj : j < fs.length
          · rw [List.getElem?_append_left hj] at hu
            exact k5 j u hu
          · rw [List.getElem?_append_right (by omega)] at hu
            have := h10 _ u hu
            rwa [add_add, ← k2, Nat.add_sub_cancel' (by omega)] at this
        · intro y hy
          rcases List.mem_append.1 hy with hy | hy
          · exact k6 y hy
          · simp only [List.mem_singleton] at hy
            subst hy
            exact g1
    obtain ⟨xs, fs, k1, k2, k3, k4, k5, k6⟩ := key len (Nat.le_refl _)
    refine ⟨xs, ⟨?_, k6⟩, VRelL.one ?_, by simp [Value.oneCell']⟩
    · simp only [List.length_map] at hw0
      refine Nat.le_trans (Nat.mul_le_mul_right _ ?_) hw0
      omega
    by_cases h0 : len = 0
    · subst h0
      obtain rfl : xs = [] := List.eq_nil_of_length_eq_zero k1
      exact .lnil _ _
    · have hpos : 0 < fs.length := by rw [k2]; exact Nat.mul_pos (by omega) (by omega)
      have hb : ad.block < w.heap.size := by
        have := cell_lt (k5 0 fs[0] (List.getElem?_eq_getElem hpos))
        rwa [add_block] at this
      refine .lst (xs.map f) fs (P.cellsOf e) ad len cap (by simpa using k1) h2 (fun y hy => ?_) hb k3.1 k4 k5 k3.2
      obtain ⟨a, _, rfl⟩ := List.mem_map.1 hy
      exact ⟨hc a, hk a⟩

theorem struct_fields {t : TypeId} {fs : Array Field} {H : Type} {enc : TypeId × Value → H} {w : World} {sp : Nat → Bool} {fuel : Nat} {cs : List Value} {x : DataW H × List MemPlace} (hu : P.underlying t = some (.struct fs)) (h : DataW.trod enc P w 0 sp true fuel t cs = some x) (hw : ∀ n ∈ x.1.weights P t, n ≤ reachBytes) :
    cs.length = P.cellsOf t ∧ ∀ (i ft o : Nat), ((fs[i]?).map fun f => (f.type, f.offset)) = some (ft, o) → ∃ n y, DataW.trod enc P w 0 sp true n ft ((cs.drop o).take (P.cellsOf ft)) = some y ∧ ∀ n ∈ y.1.weights P ft, n ≤ reachBytes := by
  obtain ⟨xs, n, rfl, rfl, h1, h2, h3⟩ := DataW.trod_struct hu h
  refine ⟨h1, fun i ft o hfo => ?_⟩
  obtain ⟨f, hf, e⟩ := Option.map_eq_some_iff.1 hfo
  obtain ⟨rfl, rfl⟩ := Prod.mk.inj e
  have hi : i < xs.length := by rw [h2]; exact (Array.getElem?_eq_some_iff.1 hf).1
  refine ⟨n, xs[i], by rw [h3 i f hf, List.getElem?_eq_getElem hi], fun q hq => hw q ?_⟩
  simp only [DataW.weights, hu]
  exact DataW.weights_mem_each (j := i) (t := f.type) (d := xs[i].1) (by simp [hf]) (by simp [List.getElem?_eq_getElem hi]) q hq
theorem array_elems {t e : TypeId} {m : Nat} {H : Type} {enc : TypeId × Value → H} {w : World} {sp : Nat → Bool} {fuel : Nat} {cs : List Value} {x : DataW H × List MemPlace} (hu : P.underlying t = some (.array m e)) (h : DataW.trod enc P w 0 sp true fuel t cs = some x) (hw : ∀ n ∈ x.1.weights P t, n ≤ reachBytes) :
    cs.length = P.cellsOf t ∧ ∀ i, i < m → ∃ n y, DataW.trod enc P w 0 sp true n e ((cs.drop (i * P.cellsOf e)).take (P.cellsOf e)) = some y ∧ ∀ n ∈ y.1.weights P e, n ≤ reachBytes := by
  obtain ⟨xs, n, rfl, rfl, h1, h2, h3⟩ := DataW.trod_array hu h
  refine ⟨h1, fun i hi => ⟨n, xs[i], by rw [h3 i hi, List.getElem?_eq_getElem (by omega)], fun q hq => hw q ?_⟩⟩
  simp only [DataW.weights, hu]
  exact weightsAll_mem (List.mem_map.2 ⟨_, List.getElem_mem (by omega), rfl⟩) q hq

theorem VRelL.cons1 {X : Cx} {w : World} {a : AV} {c : Value} {as : List AV} {cs : List Value} (h1 : VRelL X w [a] [c]) (h2 : VRelL X w as cs) : VRelL X w (a :: as) (c :: cs) := h1.append h2

/-- An argument that is a struct. -/
theorem dec_agg {t : TypeId} {α : Type} {f : α → AV} {good : α → Prop} {H : Type} {enc : TypeId × Value → H} {w : World} {sp : Nat → Bool} {v : Value} {d : DataW H} {ps : List MemPlace} (hd : Dec P t f good) (hf : ∀ a, ∃ xs, f a = .agg xs) (hv : ∃ cs, v = .agg cs) (h : DataW.Trod enc P w 0 sp true t v d ps) (hw : ∀ n ∈ d.weights P t, n ≤ reachBytes) :
    ∃ a, good a ∧ VRel (inX w) w (f a) v := by
  obtain ⟨cs, rfl⟩ := hv
  obtain ⟨fuel, h⟩ := h
  obtain ⟨a, h1, h2, h3⟩ := hd H enc w sp fuel _ _ h hw
  obtain ⟨xs, hx⟩ := hf a
  refine ⟨a, h1, ?_⟩
  rw [hx] at h2 ⊢
  exact .agg xs cs (by simpa [Value.cells, AV.cells] using h2.1) (by simpa [Value.cells] using h3) fun j x c hxj hc => h2.2 j x c hxj (by simpa [Value.cells] using hc)
theorem dec_one {t : TypeId} {α : Type} {f : α → AV} {good : α → Prop} {H : Type} {enc : TypeId × Value → H} {w : World} {sp : Nat → Bool} {v : Value} {d : DataW H} {ps : List MemPlace} (hd : Dec P t f good) (hf : ∀ a, (f a).cells = [f a]) (hv : v.cells = #[v]) (h : DataW.Trod enc P w 0 sp true t v d ps) (hw : ∀ n ∈ d.weights P t, n ≤ reachBytes) :
    ∃ a, good a ∧ VRel (inX w) w (f a) v := by
  obtain ⟨fuel, h⟩ := h
  obtain ⟨a, h1, h2, h3⟩ := hd H enc w sp fuel _ _ h hw
  refine ⟨a, h1, ?_⟩
  rw [hf, hv] at h2
  exact h2.2 0 _ _ rfl rfl
theorem agg_of_wide {t : TypeId} {b : Nat} {w : World} {fs : Array Field} {v : Value} (hu : P.underlying t = some (.struct fs)) (h : Value.okWide P w .any b t v) : ∃ cs, v = .agg cs := by
  unfold Value.okWide at h
  rw [hu] at h
  obtain ⟨cs, h1, _⟩ := h
  exact ⟨cs, h1⟩

/-- A contract, as the kit writes calls. -/
theorem calls_of_pu {f : FuncId} {fn : Func} {c : Code} {args : List AV} {b : Bool} {W : World} {cargs : Array Value} (hp : Pu P (.fn (.func f) [] []) args (.bool b)) (hf : P.funcs[f]? = some fn) (hb : fn.body = some c) (hname : (fn.name == "runtime.NumGoroutine") = false)
    (hargs : VRelL (inX W) W args cargs.toList) : Calls P f cargs W fun e W' => e = .returned (.bool b) ∧ W'.os = W.os ∧ W'.output = W.output ∧ W.heap.size ≤ W'.heap.size ∧ ∀ i, i < W.heap.size → W'.heap[i]? = W.heap[i]? := by
  have hfv : VRel (inX W) W (.fn (.func f) [] []) (.func (.func f) #[] #[]) := .fn _ _ _ _ _ rfl rfl (fun j a c ha => by simp at ha) (fun j a c ha => by simp at ha)
  obtain ⟨d, h1, h2⟩ := hp.pv (inX W) W (.func (.func f) #[] #[]) cargs (empty_rel (fun _ h => h) fun _ h => h.elim) hfv hargs
  have hd : d = { target := .fn (.func f) #[], args := #[] ++ cargs } := by
    have : (Deferred.ofValue (.func (.func f) #[] #[]) cargs).run P W = .ok { target := .fn (.func f) #[], args := #[] ++ cargs } W := rfl
    rw [this] at h1
    simpa using h1.symm
  subst hd
  have hname' : ¬ fn.name = "runtime.NumGoroutine" := by simpa using hname
  have hinv : (invoke (.fn (.func f) #[]) (#[] ++ cargs)).run P W = .ok (.enter f cargs) W := by
    simp [invoke, callFunc, hf, hname', hb]
  simp only [hinv] at h2
  refine h2.mono ?_
  rintro e w' ⟨v, rfl, X', r, h', rfl, hev, hv, _⟩
  cases hv
  exact ⟨rfl, hev.os, hev.output, hev.size, fun i hi => hev.kept i hi (fun ⟨_, _, h, _⟩ => by simp [inX] at h)⟩

section
variable {H : Type} {enc : TypeId × Value → H}
theorem keptBut_of_heap {W W' : World} {may : MemPlace → Prop} (h1 : W'.os = W.os) (h2 : W'.output = W.output) (h3 : ∀ i, i < W.heap.size → W'.heap[i]? = W.heap[i]?) : W.keptBut W' may := by
  refine ⟨h1, h2, fun i hi => ?_⟩
  rw [h3 i hi, Array.getElem?_eq_getElem hi]
  cases W.heap[i] <;> simp

theorem trodAll_stays {W W' : World} {sp' : Nat → Bool} (hl : laidOutB P = true) (hsz : W.heap.size ≤ W'.heap.size) (h3 : ∀ i, i < W.heap.size → W'.heap[i]? = W.heap[i]?) :
    ∀ {ts : List TypeId} {vs : List Value} {ds : List (DataW H)} {ps : List MemPlace}, (∀ t ∈ ts, P.readableRec t = true ∧ t < P.types.size) → (∀ p ∈ ps, p.block < W.heap.size) → (∀ p ∈ ps, sp' p.block = true) → DataW.TrodAll enc P W 0 (fun _ => true) true ts vs ds ps → DataW.TrodAll enc P W' 0 sp' true ts vs ds ps
  | [], [], [], ps, _, _, _, h => h
  | [], [], _ :: _, ps, _, _, _, h => h.elim
  | [], _ :: _, _, ps, _, _, _, h => by cases h
  | t :: ts, vs, ds, ps, hr, hlt, hs, h => by
    obtain ⟨v, vs', d, ds', p, q, rfl, rfl, rfl, h1, h2⟩ := trodAll_cons h
    refine ⟨p, q, Go.WideElems.Trod_stays hl (hr t (by simp)).1 (hr t (by simp)).2 h1 (fun x hx => ?_) (fun x hx => hs x (by simp [hx])), trodAll_stays hl hsz h3 (fun t ht => hr t (by simp [ht])) (fun x hx => hlt x (by simp [hx])) (fun x hx => hs x (by simp [hx])) h2, rfl⟩
    have hb := hlt x (by simp [hx])
    cases x with
    | cell b off => exact cell_of_heap (h3 b hb)
    | map b => exact h3 b hb

theorem post_of_kept {f : Func} {s : ChangeSpec} {apart fresh handsOn again : Bool} {W W' : World} {args : Array Value} {v : Value} {ds gs : List (DataW H)} {before pa pv : List MemPlace}
    (hW : DataW.Whole enc P f.params.toList s.vars apart W args.toList ds gs before)
    (hres : ∀ (b : Nat) (sp : Nat → Bool) (hd : Bool), DataW.TrodAll enc P W' b sp hd f.resultTypes.toList (v.resultList f.resultTypes.size) (s.fn H (ds ++ gs)).results [])
    (hargs : ∀ sp : Nat → Bool, (∀ p ∈ before, sp p.block = true) → DataW.TrodAll enc P W' 0 sp true f.params.toList args.toList (s.fn H (ds ++ gs)).args pa)
    (hvars : ∀ sp : Nat → Bool, (∀ p ∈ before, sp p.block = true) → DataW.TrodVars enc P W' sp s.vars (s.fn H (ds ++ gs)).vars pv)
    (hps : before = pa ++ pv) (hk : W.keptBut W' (· ∈ before)) (hfz : ∀ a, a.block < W.heap.size → W'.frozen? a = W.frozen? a)
    (hok : ∀ (j : Nat) (t : TypeId) (r : Value), f.resultTypes[j]? = some t → (v.resultList f.resultTypes.size)[j]? = some r → Value.okWide P W' .any 0 t r) :
    s.post enc P f apart fresh handsOn again W args v W' := by
  have hold : ∀ p ∈ before, (fun b => decide (b < W.heap.size)) p.block = true := fun p hp => by simpa using hW.lt p hp
  have hlt := hW.lt
  refine ⟨ds, gs, before, [], pa, pv, hW, hres _ _ _, hargs _ hold, hvars _ hold, World.keptBut_mono (fun p hp => ⟨hp, ?_⟩) hk, fun _ => ?_⟩
  · rw [hps, List.mem_append] at hp
    exact Or.inr hp
  · obtain ⟨_, _, _, _, _, hz, hn⟩ := hW
    refine ⟨hok, _, _, ([] ++ pa) ++ pv, ⟨[] ++ pa, pv, trodAll_append (hargs _ (fun _ _ => rfl)) (hres _ _ _), hvars _ (fun _ _ => rfl), rfl, ?_, ?_⟩, ?_⟩
    · intro b off hp
      have hp' : MemPlace.cell b off ∈ before := by rw [hps]; simpa using hp
      rw [hfz _ (hlt _ hp')]
      exact hz b off hp'
    · intro ha
      have := hn ha
      rw [hps] at this
      simpa using this
    · intro p hp _
      rw [hps]
      simpa using hp
end
end
end Go.Proofs.YtfdfkmcplhloaaaGreat
end

section
set_option linter.unusedSimpArgs false
set_option linter.unusedVariables false
namespace Go.Proofs.YtfdfkmcplhloaaaGreat
section
variable {α β : Type} [DecidableEq α] {P : Program}

def assoc (k : α) : List (α × β) → Option β
  | [] => none
  | (a, b) :: m => if k = a then some b else assoc k m
def putM (k : α) (v : β) : List (α × β) → List (α × β)
  | [] => [(k, v)]
  | (a, b) :: m => if k = a then (a, v) :: m else (a, b) :: putM k v m

/-- Where a key stands first. -/
def posM (k : α) : List (α × β) → Nat → Option Nat
  | [], _ => none
  | (a, _) :: m, i => if k = a then some i else posM k m (i + 1)

theorem findA_map {kt : TypeId} {f : α → AV} (he : ∀ a b, eqT P 10 kt (f a) (f b) = some (decide (a = b))) (k : α) : ∀ (m : List (α × β)) (i : Nat), findA P kt (f k) (m.map fun p => f p.1) i = some (posM k m i)
  | [], _ => rfl
  | (a, b) :: m, i => by
    simp only [List.map_cons, findA, he, Option.bind_some, posM, decide_eq_true_eq]
    by_cases h : k = a
    · simp [h]
    · simp only [if_neg h]; exact findA_map he k m (i + 1)

theorem posM_at (k : α) : ∀ (m : List (α × β)) (i j : Nat), posM k m i = some j → i ≤ j ∧ ∃ b, m[j - i]? = some (k, b) ∧ assoc k m = some b
  | [], _, _, h => by simp [posM] at h
  | (a, b) :: m, i, j, h => by
    simp only [posM] at h
    split at h
    · rename_i e
      obtain rfl := Option.some.inj h
      subst e
      exact ⟨Nat.le_refl _, b, by simp, by simp [assoc]⟩
    · rename_i e
      obtain ⟨h1, b', h2, h3⟩ := posM_at k m (i + 1) j h
      refine ⟨by omega, b', ?_, by simp [assoc, e, h3]⟩
      rw [show j - i = (j - (i + 1)) + 1 by omega]
      simpa using h2
theorem posM_none (k : α) : ∀ (m : List (α × β)) (i : Nat), posM k m i = none → assoc k m = none ∧ ∀ v, putM k v m = m ++ [(k, v)]
  | [], _, _ => ⟨rfl, fun _ => rfl⟩
  | (a, b) :: m, i, h => by
    simp only [posM] at h
    split at h
    · simp at h
    · rename_i e
      obtain ⟨h1, h2⟩ := posM_none k m (i + 1) h
      exact ⟨by simp [assoc, e, h1], fun v => by simp [putM, e, h2]⟩
theorem posM_set (k : α) (v : β) : ∀ (m : List (α × β)) (i j : Nat), posM k m i = some j → putM k v m = m.set (j - i) (k, v)
  | [], _, _, h => by simp [posM] at h
  | (a, b) :: m, i, j, h => by
    simp only [posM] at h
    split at h
    · rename_i e
      obtain rfl := Option.some.inj h
      subst e
      simp [putM]
    · rename_i e
      have h1 := (posM_at k m (i + 1) j h).1
      rw [show j - i = (j - (i + 1)) + 1 by omega]
      simp [putM, e, posM_set k v m (i + 1) j h]

theorem look_map {kt et : TypeId} {f : α → AV} {g : β → AV} {z : AV} (he : ∀ a b, eqT P 10 kt (f a) (f b) = some (decide (a = b))) (hz : zeroA P et = some z) (m : List (α × β)) (k : α) (ok : Bool) :
    lookA P kt et (m.map fun p => f p.1) (m.map fun p => g p.2) (f k) ok = some (if ok = true then .tup [((assoc k m).map g).getD z, .bool (assoc k m).isSome] else ((assoc k m).map g).getD z) := by
  unfold lookA
  rw [if_pos (by rw [he]; simp), findA_map he]
  simp only [Option.bind_some]
  cases hp : posM k m 0 with
  | none =>
    obtain ⟨h1, _⟩ := posM_none k m 0 hp
    simp only [hz, Option.map_some, h1, Option.map_none, Option.getD_none, Option.isSome_none]
  | some j =>
    obtain ⟨_, b, h2, h3⟩ := posM_at k m 0 j hp
    simp only [Nat.sub_zero] at h2
    simp only [List.getElem?_map, h2, Option.map_some, h3, Option.getD_some, Option.isSome_some]

theorem upd_map {kt : TypeId} {f : α → AV} {g : β → AV} (he : ∀ a b, eqT P 10 kt (f a) (f b) = some (decide (a = b))) (hb : ∀ a, bitsA (f a) (f a) = true) (m : List (α × β)) (k : α) (v : β) :
    updA P kt (m.map fun p => f p.1) (m.map fun p => g p.2) (f k) (g v) = some ((putM k v m).map (fun p => f p.1), (putM k v m).map fun p => g p.2) := by
  unfold updA
  rw [if_pos (by rw [he]; simp), findA_map he]
  simp only [Option.bind_some]
  cases hp : posM k m 0 with
  | none =>
    obtain ⟨_, h2⟩ := posM_none k m 0 hp
    simp only [h2, List.map_append, List.map_cons, List.map_nil]
  | some j =>
    obtain ⟨_, b, h2, h3⟩ := posM_at k m 0 j hp
    simp only [Nat.sub_zero] at h2
    have h4 := posM_set k v m 0 j hp
    simp only [Nat.sub_zero] at h4
    simp only [List.getElem?_map, h2, Option.map_some, Option.bind_some, hb, if_true, h4, List.map_set, Option.some.injEq, Prod.mk.injEq, and_true]
    refine (List.ext_getElem? fun i => ?_)
    rw [List.getElem?_set]
    split
    · rename_i e
      subst e
      simp only [List.getElem?_map, h2, Option.map_some]
      rw [if_pos]
      rw [List.length_map]
      exact (List.getElem?_eq_some_iff.1 h2).1
    · rfl

theorem assoc_put (k k' : α) (v : β) : ∀ m : List (α × β), assoc k' (putM k v m) = if k' = k then some v else assoc k' m
  | [] => by simp [putM, assoc]
  | (a, b) :: m => by
    simp only [putM]
    by_cases h : k = a
    · subst h
      rw [if_pos rfl]
      simp only [assoc]
      by_cases h' : k' = k <;> simp [h']
    · rw [if_neg h]
      simp only [assoc, assoc_put k k' v m]
      by_cases h' : k' = a
      · subst h'
        rw [if_pos rfl, if_pos rfl, if_neg (fun e => h e.symm)]
      · rw [if_neg h', if_neg h']
end
end Go.Proofs.YtfdfkmcplhloaaaGreat
end

section
set_option linter.unusedSimpArgs false
set_option linter.unusedVariables false
namespace Go.Proofs.YtfdfkmcplhloaaaGreat
section
variable {P : Program} {X : Cx} {w : World} {h : Hp}

/-- A value with the numbers of the small heap, and the same with those of the great one. -/
inductive Rn (D : Nat → Prop) (q : Nat → Nat) : AV → AV → Prop
  | idf (a : AV) (h : Idf a) : Rn D q a a
  | sl (id tot off len : Nat) (hd : D id) : Rn D q (.sl id tot off len) (.sl (q id) tot off len)
  | ptr (id tot i off : Nat) (hd : D id) : Rn D q (.ptr id tot i off) (.ptr (q id) tot i off)
  | map (id : Nat) (hd : D id) : Rn D q (.map id) (.map (q id))
  | agg (xs ys : List AV) (hl : xs.length = ys.length) (hr : ∀ (j : Nat) a b, xs[j]? = some a → ys[j]? = some b → Rn D q a b) : Rn D q (.agg xs) (.agg ys)
  | tup (xs ys : List AV) (hl : xs.length = ys.length) (hr : ∀ (j : Nat) a b, xs[j]? = some a → ys[j]? = some b → Rn D q a b) : Rn D q (.tup xs) (.tup ys)
  | fn (f : Fn) (x1 x2 y1 y2 : List AV) (h1 : x1.length = y1.length) (h2 : x2.length = y2.length) (r1 : ∀ (j : Nat) a b, x1[j]? = some a → y1[j]? = some b → Rn D q a b) (r2 : ∀ (j : Nat) a b, x2[j]? = some a → y2[j]? = some b → Rn D q a b) : Rn D q (.fn f x1 x2) (.fn f y1 y2)

def RnL (D : Nat → Prop) (q : Nat → Nat) (xs ys : List AV) : Prop := xs.length = ys.length ∧ ∀ (j : Nat) a b, xs[j]? = some a → ys[j]? = some b → Rn D q a b
variable {D : Nat → Prop} {q : Nat → Nat}
theorem RnL.nil : RnL D q [] [] := ⟨rfl, fun j a b h => by simp at h⟩
theorem RnL.cons {x y : AV} {xs ys : List AV} (h1 : Rn D q x y) (h2 : RnL D q xs ys) : RnL D q (x :: xs) (y :: ys) := by
  refine ⟨by simp [h2.1], fun j a b ha hb => ?_⟩
  cases j with
  | zero => simp at ha hb; subst ha; subst hb; exact h1
  | succ j => exact h2.2 j a b (by simpa using ha) (by simpa using hb)
theorem RnL.idf {xs : List AV} (hx : ∀ x ∈ xs, Idf x) : RnL D q xs xs := ⟨rfl, fun j a b ha hb => by rw [ha] at hb; obtain rfl := Option.some.inj hb; exact .idf a (hx a (List.mem_of_getElem? ha))⟩
theorem Rn.aggL {xs ys : List AV} (h : RnL D q xs ys) : Rn D q (.agg xs) (.agg ys) := .agg xs ys h.1 h.2
theorem Rn.tupL {xs ys : List AV} (h : RnL D q xs ys) : Rn D q (.tup xs) (.tup ys) := .tup xs ys h.1 h.2
theorem Rn.fnL {f : Fn} {x1 x2 y1 y2 : List AV} (h : RnL D q x1 y1) (h' : RnL D q x2 y2) : Rn D q (.fn f x1 x2) (.fn f y1 y2) := .fn f x1 x2 y1 y2 h.1 h'.1 h.2 h'.2

/-- From the great numbers to the small ones. -/
theorem Rn.down {X' : Cx} (hi : ∀ b, X.imm b → X'.imm b) (hu : ∀ id, D id → X'.used id) (ho : ∀ id, D id → X'.own id = X.own (q id)) {a b : AV} (hr : Rn D q a b) : ∀ {c : Value}, VRel X w b c → VRel X' w a c := by
  induction hr with
  | idf a h => intro c hc; exact hc.idf hi (fun _ _ => rfl) h
  | sl id tot off len hd =>
    intro c hc
    cases hc with
    | sl _ _ _ _ _ h1 h2 h3 => exact .sl id tot off len c h1 (hu id hd) fun r hr => h3 r (by rw [← ho id hd]; exact hr)
  | ptr id tot i off hd =>
    intro c hc
    cases hc with
    | ptr _ _ _ _ _ h1 h2 h3 => exact .ptr id tot i off c h1 (hu id hd) fun r hr => h3 r (by rw [← ho id hd]; exact hr)
  | map id hd =>
    intro c hc
    cases hc with
    | map _ _ h1 h2 h3 => exact .map id c h1 (hu id hd) fun r hr => h3 r (by rw [← ho id hd]; exact hr)
  | agg xs ys hl hr ih =>
    intro c hc
    cases hc with
    | agg _ cs hl' ho' hr' =>
      refine .agg xs cs (by omega) ho' fun j a c ha hc => ?_
      have hlt : j < ys.length := by rw [← hl]; exact (List.getElem?_eq_some_iff.1 ha).1
      exact ih j a _ ha (List.getElem?_eq_getElem hlt) (hr' j _ c (List.getElem?_eq_getElem hlt) hc)
  | tup xs ys hl hr ih =>
    intro c hc
    cases hc with
    | tup _ cs hl' hr' =>
      refine .tup xs cs (by omega) fun j a c ha hc => ?_
      have hlt : j < ys.length := by rw [← hl]; exact (List.getElem?_eq_some_iff.1 ha).1
      exact ih j a _ ha (List.getElem?_eq_getElem hlt) (hr' j _ c (List.getElem?_eq_getElem hlt) hc)
  | fn f x1 x2 y1 y2 h1 h2 r1 r2 ih1 ih2 =>
    intro c hc
    cases hc with
    | fn _ _ _ c1 c2 k1 k2 s1 s2 =>
      refine .fn f x1 x2 c1 c2 (by omega) (by omega) (fun j a c ha hc => ?_) fun j a c ha hc => ?_
      · have hlt : j < y1.length := by rw [← h1]; exact (List.getElem?_eq_some_iff.1 ha).1
        exact ih1 j a _ ha (List.getElem?_eq_getElem hlt) (s1 j _ c (List.getElem?_eq_getElem hlt) hc)
      · have hlt : j < y2.length := by rw [← h2]; exact (List.getElem?_eq_some_iff.1 ha).1
        exact ih2 j a _ ha (List.getElem?_eq_getElem hlt) (s2 j _ c (List.getElem?_eq_getElem hlt) hc)

/-- And back. -/
theorem Rn.up {X' : Cx} (hi : ∀ b, X.imm b → X'.imm b) (hu : ∀ id, D id → X'.used (q id)) (ho : ∀ id, D id → X'.own (q id) = X.own id) {a b : AV} (hr : Rn D q a b) : ∀ {c : Value}, VRel X w a c → VRel X' w b c := by
  induction hr with
  | idf a h => intro c hc; exact hc.idf hi (fun _ _ => rfl) h
  | sl id tot off len hd =>
    intro c hc
    cases hc with
    | sl _ _ _ _ _ h1 h2 h3 => exact .sl _ tot off len c h1 (hu id hd) fun r hr => h3 r (by rw [← ho id hd]; exact hr)
  | ptr id tot i off hd =>
    intro c hc
    cases hc with
    | ptr _ _ _ _ _ h1 h2 h3 => exact .ptr _ tot i off c h1 (hu id hd) fun r hr => h3 r (by rw [← ho id hd]; exact hr)
  | map id hd =>
    intro c hc
    cases hc with
    | map _ _ h1 h2 h3 => exact .map _ c h1 (hu id hd) fun r hr => h3 r (by rw [← ho id hd]; exact hr)
  | agg xs ys hl hr ih =>
    intro c hc
    cases hc with
    | agg _ cs hl' ho' hr' =>
      refine .agg ys cs (by omega) ho' fun j b c hb hc => ?_
      have hlt : j < xs.length := by rw [hl]; exact (List.getElem?_eq_some_iff.1 hb).1
      exact ih j _ b (List.getElem?_eq_getElem hlt) hb (hr' j _ c (List.getElem?_eq_getElem hlt) hc)
  | tup xs ys hl hr ih =>
    intro c hc
    cases hc with
    | tup _ cs hl' hr' =>
      refine .tup ys cs (by omega) fun j b c hb hc => ?_
      have hlt : j < xs.length := by rw [hl]; exact (List.getElem?_eq_some_iff.1 hb).1
      exact ih j _ b (List.getElem?_eq_getElem hlt) hb (hr' j _ c (List.getElem?_eq_getElem hlt) hc)
  | fn f x1 x2 y1 y2 h1 h2 r1 r2 ih1 ih2 =>
    intro c hc
    cases hc with
    | fn _ _ _ c1 c2 k1 k2 s1 s2 =>
      refine .fn f y1 y2 c1 c2 (by omega) (by omega) (fun j b c hb hc => ?_) fun j b c hb hc => ?_
      · have hlt : j < x1.length := by rw [h1]; exact (List.getElem?_eq_some_iff.1 hb).1
        exact ih1 j _ b (List.getElem?_eq_getElem hlt) hb (s1 j _ c (List.getElem?_eq_getElem hlt) hc)
      · have hlt : j < x2.length := by rw [h2]; exact (List.getElem?_eq_some_iff.1 hb).1
        exact ih2 j _ b (List.getElem?_eq_getElem hlt) hb (s2 j _ c (List.getElem?_eq_getElem hlt) hc)

theorem Rn.cells {a b : AV} (hr : Rn D q a b) : RnL D q a.cells b.cells ∧ a.okc = b.okc := by
  cases hr with
  | idf a h => exact ⟨RnL.idf h.cells, rfl⟩
  | sl id tot off len hd => exact ⟨RnL.cons (.sl id tot off len hd) RnL.nil, rfl⟩
  | ptr id tot i off hd => exact ⟨RnL.cons (.ptr id tot i off hd) RnL.nil, rfl⟩
  | map id hd => exact ⟨RnL.cons (.map id hd) RnL.nil, rfl⟩
  | agg xs ys hl hr => exact ⟨⟨hl, hr⟩, rfl⟩
  | tup xs ys hl hr => exact ⟨RnL.cons (.tup xs ys hl hr) RnL.nil, rfl⟩
  | fn f x1 x2 y1 y2 h1 h2 r1 r2 => exact ⟨RnL.cons (.fn f x1 x2 y1 y2 h1 h2 r1 r2) RnL.nil, rfl⟩

theorem RnL.append {as bs cs ds : List AV} (h1 : RnL D q as bs) (h2 : RnL D q cs ds) : RnL D q (as ++ cs) (bs ++ ds) := by
  refine ⟨by simp [h1.1, h2.1], fun j a b ha hb => ?_⟩
  by_cases hj : j < as.length
  · rw [List.getElem?_append_left hj] at ha
    rw [List.getElem?_append_left (by rw [← h1.1]; exact hj)] at hb
    exact h1.2 j a b ha hb
  · rw [List.getElem?_append_right (by omega)] at ha
    rw [List.getElem?_append_right (by rw [← h1.1]; omega), ← h1.1] at hb
    exact h2.2 _ a b ha hb
theorem RnL.flat : ∀ {xs ys : List AV}, RnL D q xs ys → RnL D q (flat xs) (flat ys)
  | [], [], _ => RnL.nil
  | [], y :: ys, h => by simp [RnL] at h
  | x :: xs, [], h => by simp [RnL] at h
  | x :: xs, y :: ys, h => by
    rw [flat_cons, flat_cons]
    exact (h.2 0 x y rfl rfl).cells.1.append (RnL.flat ⟨by simpa using h.1, fun j a b ha hb => h.2 (j + 1) a b (by simpa using ha) (by simpa using hb)⟩)

/-- Objects, renamed. -/
inductive RnO (D : Nat → Prop) (q : Nat → Nat) : Ob → Ob → Prop
  | arr (E : TypeId) (s : Nat) (es es' : List AV) (h : RnL D q es es') : RnO D q (.arr E s es) (.arr E s es')
  | map (kt et : TypeId) (ks ks' vs vs' : List AV) (h1 : RnL D q ks ks') (h2 : RnL D q vs vs') : RnO D q (.map kt et ks vs) (.map kt et ks' vs')

theorem vrelL_of {X' : Cx} {as bs : List AV} {cs : List Value} (hl : as.length = bs.length) (hr : ∀ (j : Nat) a b, as[j]? = some a → bs[j]? = some b → ∀ c, VRel X w a c → VRel X' w b c) (h : VRelL X w as cs) : VRelL X' w bs cs := by
  refine ⟨by rw [← hl]; exact h.1, fun j b c hb hc => ?_⟩
  have hlt : j < as.length := by rw [hl]; exact (List.getElem?_eq_some_iff.1 hb).1
  exact hr j _ b (List.getElem?_eq_getElem hlt) hb c (h.2 j _ c (List.getElem?_eq_getElem hlt) hc)

theorem RnO.down {X' : Cx} (hi : ∀ b, X.imm b → X'.imm b) (hu : ∀ id, D id → X'.used id) (ho : ∀ id, D id → X'.own id = X.own (q id)) {id : Nat} (hd : D id) {a b : Ob} (hr : RnO D q a b) (h : ORel X w (q id) b) : ORel X' w id a := by
  cases hr with
  | arr E s es es' hl =>
    obtain ⟨cv, xs, h1, h2, h3, h4, h5⟩ := h
    refine ⟨cv, xs, by rw [ho id hd, h1, hl.1], by rw [hl.1]; exact h2, fun e he => ?_, h4, vrelL_of hl.flat.1.symm (fun j a b ha hb c hc => Rn.down hi hu ho (hl.flat.2 j b a hb ha) hc) h5⟩
    obtain ⟨j, hj⟩ := List.getElem?_of_mem he
    have hlt : j < es'.length := by rw [← hl.1]; exact (List.getElem?_eq_some_iff.1 hj).1
    have hc := (hl.2 j e _ hj (List.getElem?_eq_getElem hlt)).cells
    have := h3 _ (List.getElem_mem hlt)
    exact ⟨by rw [hc.1.1]; exact this.1, by rw [hc.2]; exact this.2⟩
  | map kt et ks ks' vs vs' g1 g2 =>
    obtain ⟨r, es, clock, k1, k2, k3, k4, k5, k6⟩ := h
    refine ⟨r, es, clock, by rw [ho id hd]; exact k1, k2, by rw [g1.1]; exact k3, by rw [g2.1]; exact k4, fun j a c ha hc => ?_, fun j a c ha hc => ?_⟩
    · have hlt : j < ks'.length := by rw [← g1.1]; exact (List.getElem?_eq_some_iff.1 ha).1
      exact Rn.down hi hu ho (g1.2 j a _ ha (List.getElem?_eq_getElem hlt)) (k5 j _ c (List.getElem?_eq_getElem hlt) hc)
    · have hlt : j < vs'.length := by rw [← g2.1]; exact (List.getElem?_eq_some_iff.1 ha).1
      exact Rn.down hi hu ho (g2.2 j a _ ha (List.getElem?_eq_getElem hlt)) (k6 j _ c (List.getElem?_eq_getElem hlt) hc)

theorem RnO.up {X' : Cx} (hi : ∀ b, X.imm b → X'.imm b) (hu : ∀ id, D id → X'.used (q id)) (ho : ∀ id, D id → X'.own (q id) = X.own id) {id : Nat} (hd : D id) {a b : Ob} (hr : RnO D q a b) (h : ORel X w id a) : ORel X' w (q id) b := by
  cases hr with
  | arr E s es es' hl =>
    obtain ⟨cv, xs, h1, h2, h3, h4, h5⟩ := h
    refine ⟨cv, xs, by rw [ho id hd, h1, hl.1], by rw [← hl.1]; exact h2, fun e he => ?_, h4, vrelL_of hl.flat.1 (fun j a b ha hb c hc => Rn.up hi hu ho (hl.flat.2 j a b ha hb) hc) h5⟩
    obtain ⟨j, hj⟩ := List.getElem?_of_mem he
    have hlt : j < es.length := by rw [hl.1]; exact (List.getElem?_eq_some_iff.1 hj).1
    have hc := (hl.2 j _ e (List.getElem?_eq_getElem hlt) hj).cells
    have := h3 _ (List.getElem_mem hlt)
    exact ⟨by rw [← hc.1.1]; exact this.1, by rw [← hc.2]; exact this.2⟩
  | map kt et ks ks' vs vs' g1 g2 =>
    obtain ⟨r, es, clock, k1, k2, k3, k4, k5, k6⟩ := h
    refine ⟨r, es, clock, by rw [ho id hd]; exact k1, k2, by rw [← g1.1]; exact k3, by rw [← g2.1]; exact k4, fun j b c hb hc => ?_, fun j b c hb hc => ?_⟩
    · have hlt : j < ks.length := by rw [g1.1]; exact (List.getElem?_eq_some_iff.1 hb).1
      exact Rn.up hi hu ho (g1.2 j _ b (List.getElem?_eq_getElem hlt) hb) (k5 j _ c (List.getElem?_eq_getElem hlt) hc)
    · have hlt : j < vs.length := by rw [g2.1]; exact (List.getElem?_eq_some_iff.1 hb).1
      exact Rn.up hi hu ho (g2.2 j _ b (List.getElem?_eq_getElem hlt) hb) (k6 j _ c (List.getElem?_eq_getElem hlt) hc)

/-- A heap in which some objects have changed. -/
def Hp.upd (h : Hp) (l : List (Nat × Ob)) : Hp := ⟨fun j => match l.find? (fun p => p.1 == j) with | some p => some p.2 | none => h.get j, h.nx⟩

theorem upd_nil {j : Nat} : (h.upd []).get j = h.get j := rfl
theorem upd_cons {i j : Nat} {o : Ob} {l : List (Nat × Ob)} : (h.upd ((i, o) :: l)).get j = if j = i then some o else (h.upd l).get j := by
  simp only [Hp.upd, List.find?_cons]
  by_cases e : i = j
  · subst e; simp
  · have : (i == j) = false := by simpa using e
    rw [this, if_neg (fun h => e h.symm)]
theorem upd_nx {l : List (Nat × Ob)} : (h.upd l).nx = h.nx := rfl

/-- Objects: their numbers in the small heap, in the great one; what they are in the small one, in the great one. -/
structure Loc where
  s : Nat
  g : Nat
  o : Ob
  o' : Ob

def Loc.at (l : List Loc) (s : Nat) : Nat := ((l.find? fun x => x.s == s).map Loc.g).getD 0
def Loc.has (l : List Loc) (s : Nat) : Prop := ∃ x ∈ l, x.s = s
def Loc.okL (l : List Loc) : Bool := (l.map Loc.s).Nodup && (l.map Loc.g).Nodup

theorem nodup_find {α β : Type} [BEq β] [LawfulBEq β] {f : α → β} : ∀ {l : List α} {x : α}, (l.map f).Nodup → x ∈ l → l.find? (fun y => f y == f x) = some x
  | [], _, _, h => by simp at h
  | y :: l, x, hn, h => by
    simp only [List.map_cons, List.nodup_cons] at hn
    rw [List.find?_cons]
    rcases List.mem_cons.1 h with rfl | h
    · simp
    · have hne : (f y == f x) = false := by
        cases he : f y == f x with
        | false => rfl
        | true => exact absurd (List.mem_map.2 ⟨x, h, (beq_iff_eq.1 he).symm⟩) hn.1
      rw [hne]
      exact nodup_find hn.2 h

theorem Loc.at_mem {l : List Loc} (hn : (l.map Loc.s).Nodup) {x : Loc} (hx : x ∈ l) : Loc.at l x.s = x.g := by
  unfold Loc.at
  rw [nodup_find (f := Loc.s) hn hx]
  rfl

theorem CallV.local {fv0 fv : AV} {args0 args : List AV} {K0 K : AV → Hp → Prop} (l : List Loc) (k : Nat) (hp : CallV P fv0 args0 (Hp.of (l.map fun x => (x.s, x.o)) k) K0) (hok : Loc.okL l = true) (hk : ∀ x ∈ l, x.s < k)
    (hget : ∀ x ∈ l, h.get x.g = some x.o') (hob : ∀ x ∈ l, RnO (Loc.has l) (Loc.at l) x.o x.o') (hf : Rn (Loc.has l) (Loc.at l) fv0 fv) (ha : RnL (Loc.has l) (Loc.at l) args0 args)
    (hK : ∀ v0 h0, K0 v0 h0 → ∃ (v : AV) (l' : List Loc), l'.map Loc.s = l.map Loc.s ∧ l'.map Loc.g = l.map Loc.g ∧ (∀ x ∈ l', h0.get x.s = some x.o ∧ RnO (Loc.has l) (Loc.at l) x.o x.o') ∧ Rn (Loc.has l) (Loc.at l) v0 v ∧ K v (h.upd (l'.map fun x => (x.g, x.o')))) :
    CallV P fv args h K := by
  intro X w cf cargs H hfv hargs
  simp only [Loc.okL, Bool.and_eq_true, decide_eq_true_eq] at hok
  obtain ⟨hns, hng⟩ := hok
  have hat : ∀ x ∈ l, Loc.at l x.s = x.g := fun x hx => Loc.at_mem hns hx
  have hhas : ∀ {id}, Loc.has l id → ∃ x ∈ l, x.s = id ∧ Loc.at l id = x.g := fun {id} ⟨x, hx, e⟩ => ⟨x, hx, e, by rw [← e]; exact hat x hx⟩
  have hinj : ∀ i j, Loc.has l i → Loc.has l j → Loc.at l i = Loc.at l j → i = j := by
    intro i j hi hj e
    obtain ⟨x, hx, rfl, ex⟩ := hhas hi
    obtain ⟨y, hy, rfl, ey⟩ := hhas hj
    rw [ex, ey] at e
    have h1 := nodup_find (f := Loc.g) hng hx
    have h2 := nodup_find (f := Loc.g) hng hy
    rw [e, h2] at h1
    rw [Option.some.inj h1]
  have dec : ∀ id, Loc.has l id ∨ ¬ Loc.has l id := fun id => Classical.em _
  let X0 : Cx := ⟨fun j => @ite _ (Loc.has l j) (Classical.propDecidable _) (X.own (Loc.at l j)) none, X.imm, Loc.has l⟩
  have own0 : ∀ id, Loc.has l id → X0.own id = X.own (Loc.at l id) := fun id hd => by simp only [X0]; rw [if_pos hd]
  have own0' : ∀ id r, X0.own id = some r → Loc.has l id ∧ X.own (Loc.at l id) = some r := fun id r hr => by
    rcases dec id with hd | hd
    · exact ⟨hd, by rw [← own0 id hd]; exact hr⟩
    · simp only [X0] at hr; rw [if_neg hd] at hr; simp at hr
  have owned0 : ∀ b, X0.Owned b → X.Owned b := fun b ⟨j, r, h1, h2⟩ => ⟨Loc.at l j, r, (own0' j r h1).2, h2⟩
  have getof : ∀ {l : List Loc} {m : Nat} {x : Loc}, (l.map Loc.s).Nodup → x ∈ l → (Hp.of (l.map fun x => (x.s, x.o)) m).get x.s = some x.o := by
    intro l m x hn hx
    have : (l.map fun x => (x.s, x.o)).find? (fun p => p.1 == x.s) = some (x.s, x.o) := by
      rw [List.find?_map]
      have := nodup_find (f := Loc.s) hn hx
      have e : ((fun p : Nat × Ob => p.1 == x.s) ∘ fun x : Loc => (x.s, x.o)) = fun y : Loc => y.s == x.s := rfl
      rw [e, this]
      rfl
    simp only [Hp.of, this, Option.map_some]
  have H0 : HRel (Hp.of (l.map fun x => (x.s, x.o)) k) X0 w := by
    refine ⟨⟨fun b hb => ⟨(H.ok.imm b hb).1, fun ho => (H.ok.imm b hb).2 (owned0 b ho)⟩, fun id r hr => (own0' id r hr).1, fun id r b hr hb => H.ok.blk _ r b (own0' id r hr).2 hb, fun i1 i2 r1 r2 b h1 h2 hb1 hb2 => ?_⟩, ?_, ?_, ?_⟩
    · exact hinj i1 i2 (own0' i1 r1 h1).1 (own0' i2 r2 h2).1 (H.ok.inj _ _ r1 r2 b (own0' i1 r1 h1).2 (own0' i2 r2 h2).2 hb1 hb2)
    · rintro id ⟨x, hx, rfl⟩
      exact hk x hx
    · intro id hg
      rcases dec id with hd | hd
      · obtain ⟨x, hx, rfl⟩ := hd
        rw [getof hns hx] at hg
        simp at hg
      · simp only [X0]; rw [if_neg hd]
    · intro id o hg
      have hm := of_mem hg
      obtain ⟨x, hx, e⟩ := List.mem_map.1 hm
      simp only [Prod.mk.injEq] at e
      obtain ⟨rfl, rfl⟩ := e
      refine RnO.down (X := X) (X' := X0) (D := Loc.has l) (q := Loc.at l) (fun _ h => h) (fun id hd => hd) own0 ⟨x, hx, rfl⟩ (hob x hx) ?_
      rw [hat x hx]
      exact H.obj x.g x.o' (hget x hx)
  have hfv0 : VRel X0 w fv0 cf := Rn.down (X := X) (X' := X0) (D := Loc.has l) (q := Loc.at l) (fun _ h => h) (fun id hd => hd) own0 hf hfv
  have hargs0 : VRelL X0 w args0 cargs.toList := vrelL_of ha.1.symm (fun j a b hb hc c hcc => Rn.down (X := X) (X' := X0) (D := Loc.has l) (q := Loc.at l) (fun _ h => h) (fun id hd => hd) own0 (ha.2 j b a hc hb) hcc) hargs
  refine (hp X0 w cf cargs H0 hfv0 hargs0).mono ?_
  rintro c w' ⟨X1, v0, h1, hk0, hev, hv, H1⟩
  obtain ⟨v, l', e1, e2, hl', hvr, hKv⟩ := hK v0 h1 hk0
  have hns' : (l'.map Loc.s).Nodup := by rw [e1]; exact hns
  have hng' : (l'.map Loc.g).Nodup := by rw [e2]; exact hng
  have pair : ∀ x' ∈ l', Loc.has l x'.s ∧ Loc.at l x'.s = x'.g := by
    intro x' hx'
    obtain ⟨j, hj⟩ := List.getElem?_of_mem hx'
    have hlt : j < l.length := by
      have := congrArg List.length e1
      simp only [List.length_map] at this
      rw [← this]; exact (List.getElem?_eq_some_iff.1 hj).1
    have hs : (l'.map Loc.s)[j]? = (l.map Loc.s)[j]? := by rw [e1]
    have hg : (l'.map Loc.g)[j]? = (l.map Loc.g)[j]? := by rw [e2]
    simp only [List.getElem?_map, hj, List.getElem?_eq_getElem hlt, Option.map_some, Option.some.injEq] at hs hg
    refine ⟨⟨l[j], List.getElem_mem hlt, hs.symm⟩, ?_⟩
    rw [hs, hat _ (List.getElem_mem hlt), hg]
  have pair' : ∀ id, Loc.has l id → ∃ x' ∈ l', x'.s = id := by
    rintro id ⟨x, hx, rfl⟩
    have : x.s ∈ l'.map Loc.s := by rw [e1]; exact List.mem_map.2 ⟨x, hx, rfl⟩
    obtain ⟨x', hx', e⟩ := List.mem_map.1 this
    exact ⟨x', hx', e⟩
  let G : Nat → Prop := fun j => ∃ x ∈ l, x.g = j
  have hG : ∀ j, G j ↔ ∃ x' ∈ l', x'.g = j := fun j => by
    constructor
    · rintro ⟨x, hx, rfl⟩
      have : x.g ∈ l'.map Loc.g := by rw [e2]; exact List.mem_map.2 ⟨x, hx, rfl⟩
      obtain ⟨x', hx', e⟩ := List.mem_map.1 this
      exact ⟨x', hx', e⟩
    · rintro ⟨x, hx, rfl⟩
      have : x.g ∈ l.map Loc.g := by rw [← e2]; exact List.mem_map.2 ⟨x, hx, rfl⟩
      obtain ⟨x', hx', e⟩ := List.mem_map.1 this
      exact ⟨x', hx', e⟩
  let X2 : Cx := ⟨fun j => match l'.find? (fun x => x.g == j) with | some x => X1.own x.s | none => X.own j, X1.imm, X.used⟩
  have own2 : ∀ x' ∈ l', X2.own x'.g = X1.own x'.s := fun x' hx' => by simp only [X2, nodup_find (f := Loc.g) hng' hx']
  have own2n : ∀ j, ¬ G j → X2.own j = X.own j := fun j hj => by
    have : l'.find? (fun x => x.g == j) = none := by
      rw [List.find?_eq_none]
      intro x hx e
      exact hj ((hG j).2 ⟨x, hx, by simpa using e⟩)
    simp only [X2, this]
  have own2c : ∀ j r, X2.own j = some r → (∃ x' ∈ l', x'.g = j ∧ X1.own x'.s = some r) ∨ (¬ G j ∧ X.own j = some r) := by
    intro j r hj
    rcases Classical.em (G j) with hg | hg
    · obtain ⟨x', hx', rfl⟩ := (hG j).1 hg
      exact .inl ⟨x', hx', rfl, by rw [← own2 x' hx']; exact hj⟩
    · exact .inr ⟨hg, by rw [← own2n j hg]; exact hj⟩
  have usedG : ∀ x ∈ l, X.used x.g := fun x hx => by
    have ho := H.obj x.g x.o' (hget x hx)
    cases hoo : x.o' with
    | arr E s es => rw [hoo] at ho; obtain ⟨cv, xs, k1, _⟩ := ho; exact H.ok.ids _ _ k1
    | map kt et ks vs => rw [hoo] at ho; obtain ⟨r, es, clock, k1, _⟩ := ho; exact H.ok.ids _ _ k1
    | loop l fn ps assign body tm nt st pend => rw [hoo] at ho; obtain ⟨r, k1, _⟩ := ho; exact H.ok.ids _ _ k1
  have owned1 : ∀ b, X1.Owned b → X0.Owned b ∨ w.heap.size ≤ b := hev.owned
  -- blocks that are held outside
  have outside : ∀ j r b, ¬ G j → X.own j = some r → blockOf r.cv = some b → ¬ X0.Owned b ∧ b < w.heap.size := by
    intro j r b hj hr hb
    refine ⟨fun ⟨i, r', h1', h2'⟩ => ?_, H.ok.blk j r b hr hb⟩
    obtain ⟨hd, hr'⟩ := own0' i r' h1'
    have := H.ok.inj _ _ r r' b hr hr' hb h2'
    obtain ⟨x, hx, rfl, ex⟩ := hhas hd
    exact hj ⟨x, hx, by rw [this, ex]⟩
  have hev2 : Ev X w X2 w' := by
    refine ⟨hev.os, hev.tape, hev.output, hev.size, fun b hb hno => hev.kept b hb fun ho => hno (owned0 b ho), ?_, fun b hb => hev.imm b hb, fun b hb => ?_, fun _ h => h, ?_⟩
    · rintro b ⟨j, r, hj, hb⟩
      rcases own2c j r hj with ⟨x', hx', rfl, h3⟩ | ⟨_, h3⟩
      · rcases owned1 b ⟨_, r, h3, hb⟩ with h4 | h4
        · exact .inl (owned0 b h4)
        · exact .inr h4
      · exact .inl ⟨j, r, h3, hb⟩
    · rcases hev.imm' b hb with h3 | h3 | h3
      · exact .inl h3
      · exact .inr (.inl (owned0 b h3))
      · exact .inr (.inr h3)
    · intro id r' hu hr'
      rcases own2c id r' hr' with ⟨x', hx', rfl, h3⟩ | ⟨_, h3⟩
      · obtain ⟨hd, ea⟩ := pair x' hx'
        obtain ⟨r, h4, h5⟩ := hev.ids x'.s r' hd h3
        refine ⟨r, ?_, h5⟩
        rw [← ea, ← own0 _ hd]
        exact h4
      · exact ⟨r', h3, .inl rfl⟩
  have usedD : ∀ id, Loc.has l id → X2.used (Loc.at l id) := fun id hd => by
    obtain ⟨x, hx, rfl, ex⟩ := hhas hd
    rw [ex]
    exact usedG x hx
  have ownD : ∀ id, Loc.has l id → X2.own (Loc.at l id) = X1.own id := fun id hd => by
    obtain ⟨x', hx', rfl⟩ := pair' id hd
    rw [(pair x' hx').2]
    exact own2 x' hx'
  refine ⟨X2, v, _, hKv, hev2, Rn.up (X := X1) (X' := X2) (fun _ h => h) usedD ownD hvr hv, ⟨⟨?_, ?_, ?_, ?_⟩, ?_, ?_, ?_⟩⟩
  · refine fun b hb => ⟨(H1.ok.imm b hb).1, ?_⟩
    rintro ⟨j, r, hj, hbl⟩
    rcases own2c j r hj with ⟨x', hx', rfl, h3⟩ | ⟨hg, h3⟩
    · exact (H1.ok.imm b hb).2 ⟨_, r, h3, hbl⟩
    · obtain ⟨g1, g2⟩ := outside j r b hg h3 hbl
      rcases hev.imm' b hb with h4 | h4 | h4
      · exact (H.ok.imm b h4).2 ⟨j, r, h3, hbl⟩
      · exact g1 h4
      · omega
  · intro j r hj
    rcases own2c j r hj with ⟨x', hx', rfl, h3⟩ | ⟨_, h3⟩
    · obtain ⟨hd, ea⟩ := pair x' hx'
      have := usedD _ hd
      rw [ea] at this
      exact this
    · exact H.ok.ids j r h3
  · intro j r b hj hb
    rcases own2c j r hj with ⟨x', hx', rfl, h3⟩ | ⟨_, h3⟩
    · exact H1.ok.blk _ r b h3 hb
    · exact Nat.lt_of_lt_of_le (H.ok.blk j r b h3 hb) hev.size
  · intro i1 i2 r1 r2 b k1 k2 hb1 hb2
    rcases own2c i1 r1 k1 with ⟨x1, m1, rfl, j1⟩ | ⟨n1, j1⟩ <;> rcases own2c i2 r2 k2 with ⟨x2, m2, rfl, j2⟩ | ⟨n2, j2⟩
    · have := H1.ok.inj _ _ r1 r2 b j1 j2 hb1 hb2
      rw [← (pair x1 m1).2, ← (pair x2 m2).2, this]
    · obtain ⟨g1, g2⟩ := outside _ r2 b n2 j2 hb2
      rcases owned1 b ⟨_, r1, j1, hb1⟩ with h4 | h4
      · exact absurd h4 g1
      · omega
    · obtain ⟨g1, g2⟩ := outside _ r1 b n1 j1 hb1
      rcases owned1 b ⟨_, r2, j2, hb2⟩ with h4 | h4
      · exact absurd h4 g1
      · omega
    · exact H.ok.inj _ _ r1 r2 b j1 j2 hb1 hb2
  · exact fun id hu => H.lt id hu
  · intro j hj
    simp only [Hp.upd] at hj
    split at hj
    · simp at hj
    · rename_i e
      have hng : ¬ G j := fun hg => by
        obtain ⟨x', hx', rfl⟩ := (hG j).1 hg
        have := List.find?_eq_none.1 e (x'.g, x'.o') (List.mem_map.2 ⟨x', hx', rfl⟩)
        simp at this
      rw [own2n j hng]
      exact H.dead j hj
  · intro j o hj
    simp only [Hp.upd] at hj
    split at hj
    · rename_i p hp'
      obtain rfl := Option.some.inj hj
      obtain ⟨x', hx', rfl⟩ := List.mem_map.1 (List.mem_of_find?_eq_some hp')
      have hjj : x'.g = j := by simpa using List.find?_some hp'
      subst hjj
      obtain ⟨hd, ea⟩ := pair x' hx'
      have := RnO.up (X := X1) (X' := X2) (fun _ h => h) usedD ownD hd (hl' x' hx').2 (H1.obj x'.s x'.o (hl' x' hx').1)
      rw [ea] at this
      exact this
    · rename_i e
      have hng : ¬ G j := fun hg => by
        obtain ⟨x', hx', rfl⟩ := (hG j).1 hg
        have := List.find?_eq_none.1 e (x'.g, x'.o') (List.mem_map.2 ⟨x', hx', rfl⟩)
        simp at this
      exact (H.obj j o hj).kept H.ok hev2 (own2n j hng) fun r b hr hb => hev.kept b (outside j r b hng hr hb).2 (outside j r b hng hr hb).1
/-- A nil slice in a box becomes an owned array without elements. -/
theorem wpT_nilvar {ro : Option Nat} {n : Nat} {todo : List Item} {R : Exit → Tm → Hp → Prop} {tm : Tm} (id : Nat) (E : TypeId) (s : Nat) {E0 : TypeId} {s0 : Nat} (hg : h.get id = some (.arr E0 s0 [.nil0])) (hlt : (id == h.nx) = false)
    (hw : wpT P ro n todo R tm ((h.set id (.arr E0 s0 [.sl h.nx 0 0 0])).add (.arr E s []))) : wpT P ro n todo R tm h := by
  intro X w b cs a B h1 h2 h3 h4 h5 h6
  have hne : id ≠ h.nx := by simpa using hlt
  obtain ⟨cv, xs, k1, k2, k3, k4, k5⟩ := h5.own_of_get hg
  have hfl : flat [.nil0] = [.nil0] := rfl
  have hkl : 0 < xs.length := by rw [k5.1, hfl]; simp
  have hc : VRel X w .nil0 xs[0] := k5.2 0 _ _ (by rw [hfl]; rfl) (List.getElem?_eq_getElem hkl)
  obtain ⟨hev, H', hv⟩ := nil_own' h5 hc E s
  generalize hX' : X.put h.nx ⟨0, s, xs[0]⟩ = X' at hev H' hv
  have hown : X'.own id = X.own id := by rw [← hX']; simp [Cx.put, hne]
  have hget : ∀ j, j ≠ id → ((h.set id (.arr E0 s0 [.sl h.nx 0 0 0])).add (.arr E s [])).get j = (h.add (.arr E s [])).get j := by
    intro j hj
    show (if j = h.nx then _ else if j = id then _ else h.get j) = (if j = h.nx then _ else h.get j)
    rw [if_neg hj]
  have hgid : ((h.set id (.arr E0 s0 [.sl h.nx 0 0 0])).add (.arr E s [])).get id = some (.arr E0 s0 [.sl h.nx 0 0 0]) := by
    show (if id = h.nx then _ else if id = id then _ else h.get id) = _
    rw [if_neg hne, if_pos rfl]
  have H2 : HRel ((h.set id (.arr E0 s0 [.sl h.nx 0 0 0])).add (.arr E s [])) X' w := by
    refine ⟨H'.ok, H'.lt, fun j hj => ?_, fun j o hj => ?_⟩
    · by_cases e : j = id
      · subst e; rw [hgid] at hj; simp at hj
      · rw [hget j e] at hj; exact H'.dead j hj
    · by_cases e : j = id
      · subst e
        rw [hgid] at hj
        obtain rfl := Option.some.inj hj
        refine ⟨cv, xs, hown.trans k1, k2, fun e he => ?_, k4, ?_⟩
        · simp only [List.mem_singleton] at he
          subst he
          exact ⟨(k3 .nil0 (by simp)).1, rfl⟩
        · refine ⟨k5.1, fun i v c hi hcc => ?_⟩
          have hi : [AV.sl h.nx 0 0 0][i]? = some v := hi
          cases i with
          | zero =>
            simp only [List.getElem?_cons_zero, Option.some.injEq] at hi
            subst hi
            rw [List.getElem?_eq_getElem hkl] at hcc
            obtain rfl := Option.some.inj hcc
            exact hv
          | succ i => simp at hi
      · rw [hget j e] at hj; exact H'.obj j o hj
  obtain ⟨e, tm2, h2', X2, w2, a2, todo2, g1, g2, g3, g4, g5, g6, g7⟩ := hw X' w b cs a B h1 h2 h3 (h4.mono h5.ok hev) H2 (h6.mono hev)
  exact ⟨e, tm2, h2', X2, w2, a2, todo2, g1, g2, hev.trans g3, g4, g5, g6, g7⟩
/-- A call whose arguments are lent for good: what is lent is owned no longer. -/
theorem Pu.freeze {fv r : AV} {args args' : List AV} {Kv : AV → Hp → Prop} (hp : Pu P fv args' r) (id : Nat) (ha : LendL (fun j => if j = id then h.get j else none) args args') (hk : Kv r (h.del id)) : CallV P fv args h Kv := by
  intro X w cf cargs H hfv hargs
  have hgone : ∀ j o, (fun j => if j = id then h.get j else none) j = some o → gone h (h.del id) j = some o := by
    intro j o hj
    simp only at hj
    split at hj
    · rename_i e
      subst e
      simp only [gone, Hp.del, if_true]
      exact hj
    · simp at hj
  obtain ⟨X', L, H'⟩ := drop_ok (h' := h.del id) H (Nat.le_refl _) (fun j o hj => by
    simp only [Hp.del] at hj
    split at hj
    · simp at hj
    · exact ⟨o, hj, .inl rfl⟩)
  have hf' : VRel X' w fv cf := hfv.mono H.ok L.ev
  have ha' : VRelL X' w args' cargs.toList := vrelL_of ha.1 (fun j a b h1 h2 c hc => ((ha.2 j a b h1 h2).weak hgone).rel H L hc) hargs
  refine ((hp.call hk) X' w cf cargs H' hf' ha').mono ?_
  rintro c w' ⟨X2, v, h2, k1, k2, k3, k4⟩
  exact ⟨X2, v, h2, k1, L.ev.trans k2, k3, k4⟩
theorem get_del {j i : Nat} : (h.del i).get j = if j = i then none else h.get j := rfl
theorem nx_del {i : Nat} : (h.del i).nx = h.nx := rfl
end
end Go.Proofs.YtfdfkmcplhloaaaGreat
end

section
set_option linter.unusedSimpArgs false
set_option linter.unusedVariables false
namespace Go.Proofs.YtfdfkmcplhloaaaGreat
section
variable {P : Program} {h : Hp} {n : Nat} {R : Exit → Tm → Hp → Prop} {tm : Tm} {k : List Item}
theorem wpT_rangeN {g : Operand} {ps : Array Tmp} {assign body : Code} {f : FuncId} {fn : Func} {c : Code} {first caps : List AV} (hev : evA tm g = .fn (.func f) first caps) (hf : P.funcs[f]? = some fn) (hb : fn.body = some c) (hname : (fn.name == "runtime.NumGoroutine") = false)
    (hw : ∀ (l : Nat) (fid : FuncId) (ca cb : Code), ca = assign → cb = body → CallV P (.fn (.func f) first caps) [.fn (.yield l) [] []] (h.add (.loop l fid ps ca cb tm n .ready none)) fun _ h' => rangeEnd P n k R h.nx l fid ps ca cb tm h') :
    wpT P none n (.code (.rangeFunc g ps assign body) :: k) R tm h := wpT_range hev hf hb hname fun l fid => hw l fid assign body rfl rfl
end
end Go.Proofs.YtfdfkmcplhloaaaGreat
end

section
set_option linter.unusedSimpArgs false
set_option linter.unusedVariables false
namespace Go.Proofs.YtfdfkmcplhloaaaGreat
section
variable {P : Program} {h : Hp} {n : Nat} {R : Exit → Tm → Hp → Prop} {tm : Tm} {todo : List Item} {ro : Option Nat}
theorem wpT_thaw (p c : Nat) {E s : Nat} {cs cs' : List AV} (hp : h.get p = some (.arr E s [.agg cs])) (hpc : ¬ p = c) (hl : LendL (fun id => if id = c then h.get c else none) cs cs')
    (hw : wpT P ro n todo R tm ((h.set p (.arr E s [.agg cs'])).del c)) : wpT P ro n todo R tm h := by
  have hgone : ∀ j o, (fun id => if id = c then h.get c else none) j = some o → gone h ((h.set p (.arr E s [.agg cs'])).del c) j = some o := by
    intro j o hj
    simp only at hj
    split at hj
    · rename_i e
      subst e
      simp only [gone, Hp.del, if_true]
      exact hj
    · simp at hj
  refine wpT_weak (h' := (h.set p (.arr E s [.agg cs'])).del c) (Nat.le_refl _) (fun id o' ho => ?_) (fun t => .refl _) hw
  simp only [Hp.del, Hp.set] at ho
  split at ho
  · simp at ho
  · split at ho
    · rename_i e1 e2
      subst e2
      obtain rfl := Option.some.inj ho
      refine ⟨_, hp, .inr ⟨E, s, _, _, rfl, rfl, LendL.cons (Lend.aggL ⟨hl.1, fun j a b ha hb => (hl.2 j a b ha hb).weak hgone⟩) LendL.nil, fun e he => ?_⟩⟩
      simp only [List.mem_singleton] at he
      subst he; rfl
    · exact ⟨o', ho, .inl rfl⟩
/-- The same for the elements of an array. -/
theorem wpT_thawO (p c : Nat) {E s : Nat} {es es' : List AV} (hp : h.get p = some (.arr E s es)) (hpc : ¬ p = c) (hl : LendL (fun id => if id = c then h.get c else none) es es') (hk : ∀ e ∈ es', e.okc = true)
    (hw : wpT P ro n todo R tm ((h.set p (.arr E s es')).del c)) : wpT P ro n todo R tm h := by
  have hgone : ∀ j o, (fun id => if id = c then h.get c else none) j = some o → gone h ((h.set p (.arr E s es')).del c) j = some o := by
    intro j o hj
    simp only at hj
    split at hj
    · rename_i e
      subst e
      simp only [gone, Hp.del, if_true]
      exact hj
    · simp at hj
  refine wpT_weak (h' := (h.set p (.arr E s es')).del c) (Nat.le_refl _) (fun id o' ho => ?_) (fun t => .refl _) hw
  simp only [Hp.del, Hp.set] at ho
  split at ho
  · simp at ho
  · split at ho
    · rename_i e1 e2
      subst e2
      obtain rfl := Option.some.inj ho
      exact ⟨_, hp, .inr ⟨E, s, _, _, rfl, rfl, ⟨hl.1, fun j a b ha hb => (hl.2 j a b ha hb).weak hgone⟩, hk⟩⟩
    · exact ⟨o', ho, .inl rfl⟩
/-- The same for a temporary. -/
theorem wpT_thawT (t c : Nat) {v v' : AV} (ht : tm t = v) (hl : Lend (fun id => if id = c then h.get c else none) v v') (hw : wpT P ro n todo R (tm.put (some t) v') (h.del c)) : wpT P ro n todo R tm h := by
  have hgone : ∀ j o, (fun id => if id = c then h.get c else none) j = some o → gone h (h.del c) j = some o := by
    intro j o hj
    simp only at hj
    split at hj
    · rename_i e
      subst e
      simp only [gone, Hp.del, if_true]
      exact hj
    · simp at hj
  refine wpT_weak (h' := h.del c) (tm' := tm.put (some t) v') (Nat.le_refl _) (fun id o' ho => ?_) (fun k => ?_) hw
  · simp only [Hp.del] at ho
    split at ho
    · simp at ho
    · exact ⟨o', ho, .inl rfl⟩
  · by_cases e : k = t
    · subst e
      rw [ht]
      have : (tm.put (some k) v') k = v' := by simp [put_apply]
      rw [this]
      exact hl.weak hgone
    · have : (tm.put (some t) v') k = tm k := by simp [put_apply, e]
      rw [this]
      exact .refl _
end
section
theorem bsO_2 {e c nid : Nat} {z va vb : AV} (hva : va.okc = true) (kva : va.cells.length = c) (hvb : vb.okc = true) (kvb : vb.cells.length = c) : bsO e c z 2 [(0, va), (1, vb)] nid = some (.sl nid 2 0 2, .new (.arr e c [va, vb])) := by
  simp [bsO, setAll, hva, kva, hvb, kvb, List.replicate]
theorem bsO_3 {e c nid : Nat} {z va vb vc : AV} (hva : va.okc = true) (kva : va.cells.length = c) (hvb : vb.okc = true) (kvb : vb.cells.length = c) (hvc : vc.okc = true) (kvc : vc.cells.length = c) : bsO e c z 3 [(0, va), (1, vb), (2, vc)] nid = some (.sl nid 3 0 3, .new (.arr e c [va, vb, vc])) := by
  simp [bsO, setAll, hva, kva, hvb, kvb, hvc, kvc, List.replicate]
theorem bsO_4 {e c nid : Nat} {z va vb vc vd : AV} (hva : va.okc = true) (kva : va.cells.length = c) (hvb : vb.okc = true) (kvb : vb.cells.length = c) (hvc : vc.okc = true) (kvc : vc.cells.length = c) (hvd : vd.okc = true) (kvd : vd.cells.length = c) : bsO e c z 4 [(0, va), (1, vb), (2, vc), (3, vd)] nid = some (.sl nid 4 0 4, .new (.arr e c [va, vb, vc, vd])) := by
  simp [bsO, setAll, hva, kva, hvb, kvb, hvc, kvc, hvd, kvd, List.replicate]
theorem bsO_5 {e c nid : Nat} {z va vb vc vd ve : AV} (hva : va.okc = true) (kva : va.cells.length = c) (hvb : vb.okc = true) (kvb : vb.cells.length = c) (hvc : vc.okc = true) (kvc : vc.cells.length = c) (hvd : vd.okc = true) (kvd : vd.cells.length = c) (hve : ve.okc = true) (kve : ve.cells.length = c) : bsO e c z 5 [(0, va), (1, vb), (2, vc), (3, vd), (4, ve)] nid = some (.sl nid 5 0 5, .new (.arr e c [va, vb, vc, vd, ve])) := by
  simp [bsO, setAll, hva, kva, hvb, kvb, hvc, kvc, hvd, kvd, hve, kve, List.replicate]
theorem bsO_6 {e c nid : Nat} {z va vb vc vd ve vf : AV} (hva : va.okc = true) (kva : va.cells.length = c) (hvb : vb.okc = true) (kvb : vb.cells.length = c) (hvc : vc.okc = true) (kvc : vc.cells.length = c) (hvd : vd.okc = true) (kvd : vd.cells.length = c) (hve : ve.okc = true) (kve : ve.cells.length = c) (hvf : vf.okc = true) (kvf : vf.cells.length = c) : bsO e c z 6 [(0, va), (1, vb), (2, vc), (3, vd), (4, ve), (5, vf)] nid = some (.sl nid 6 0 6, .new (.arr e c [va, vb, vc, vd, ve, vf])) := by
  simp [bsO, setAll, hva, kva, hvb, kvb, hvc, kvc, hvd, kvd, hve, kve, hvf, kvf, List.replicate]
end
end Go.Proofs.YtfdfkmcplhloaaaGreat
end
