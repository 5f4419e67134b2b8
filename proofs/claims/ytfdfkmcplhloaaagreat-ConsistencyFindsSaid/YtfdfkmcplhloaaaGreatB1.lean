/- The abstract logic, part 1: abstract values, what they say of a world, and how worlds go on. Own work; over whatever program P.
  The abstract logic, part 2: owned objects and how they change. Own work; over whatever program P.
  The abstract logic, part 3: what the operations on values and memory yield, abstractly; and that the model agrees. Own work; over whatever program P.
  The abstract logic, part 4: operations that compute addresses and values. Own work; over whatever program P.
  The abstract logic, part 5: operations that make and change memory. Own work; over whatever program P.
  The abstract logic, part 6: slices that are read, appended to, copied, built, made. Own work; over whatever program P.
  The abstract logic, part 7: structs and slices that are built, made, cut, copied. Own work; over whatever program P.
  The abstract logic, part 8: cutting, copying, lengths, equality. Own work; over whatever program P. -/
import Derived.CallsIn
import Derived.RangeFuncIn
import Derived.RangeFuncLeaves
import Derived.OrdersIn
import Derived.Laws.AppendOwn
import Derived.Laws.OwnMore
import Derived.Laws.MakeOwn
import Derived.KernelRfl
import Derived.Laws.StructEq
import Derived.ChangeKeysEq
section
set_option linter.unusedSimpArgs false
set_option linter.unusedVariables false
namespace Go.Proofs.YtfdfkmcplhloaaaGreat

/-- Abstract values. 'lst': a slice by its content, never written again. 'sl', 'ptr', 'map': parts of an object that the walk owns. -/
inductive AV where
  | junk
  | int (k : IntKind) (n : Int)
  | bool (b : Bool)
  | str (s : ByteArray)
  | nilp
  | nilf
  | nilm
  | nil0
  | lst (xs : List AV)
  | sl (id tot off len : Nat)
  | ptr (id tot i off : Nat)
  | cptr (v : AV)
  | fn (f : Fn) (first caps : List AV)
  | agg (xs : List AV)
  | tup (xs : List AV)
  | map (id : Nat)
  | cmap (ks vs : List AV)
  deriving Inhabited

def AV.cells : AV → List AV
  | .agg xs => xs
  | v => [v]

/-- May lie in memory. -/
def AV.okc : AV → Bool
  | .junk | .tup _ => false
  | _ => true

def AV.isAgg : AV → Bool
  | .agg _ => true
  | _ => false

def flat (xs : List AV) : List AV := xs.flatMap AV.cells

/-- The concrete side of an owned object: how many elements, cells an element, and the slice (or map) value. -/
structure Rec where
  tot : Nat
  s : Nat
  cv : Value

def blockOf : Value → Option Nat
  | .slice (some a) _ cap => if cap = 0 then none else some a.block
  | .map (some r) => some r
  | _ => none

structure Cx where
  own : Nat → Option Rec
  imm : Nat → Prop
  used : Nat → Prop

def Cx.Owned (X : Cx) (b : Nat) : Prop := ∃ id r, X.own id = some r ∧ blockOf r.cv = some b

/-- The part of a slice value, as the model makes it; where nothing is left behind it, its address is open. -/
def SubOf (cv : Value) (off len s : Nat) (c : Value) : Prop :=
  ∃ A n cap A', cv = .slice A n cap ∧ c = .slice A' len (cap - off) ∧ (cap ≠ off → A' = A.map (·.add (off * s)))

inductive VRel (X : Cx) (w : World) : AV → Value → Prop
  | junk (c : Value) : VRel X w .junk c
  | int (k : IntKind) (n : Int) : VRel X w (.int k n) (.int k n)
  | bool (b : Bool) : VRel X w (.bool b) (.bool b)
  | str (s : ByteArray) : VRel X w (.str s) (.string s)
  | nilp : VRel X w .nilp (.pointer none)
  | nilf : VRel X w .nilf .nilFunc
  | nilm : VRel X w .nilm (.map none)
  | nil0 (A : Option Addr) : VRel X w .nil0 (.slice A 0 0)
  | lnil (A : Option Addr) (cap : Nat) : VRel X w (.lst []) (.slice A 0 cap)
  | lst (xs : List AV) (fs : List Value) (s : Nat) (ad : Addr) (len cap : Nat) (h0 : xs.length = len) (hc : len ≤ cap) (hs : ∀ x ∈ xs, x.cells.length = s ∧ x.okc = true)
      (hi : X.imm ad.block) (hf : fs.length = (flat xs).length) (ho : ∀ u ∈ fs, u.oneCell' = true) (hw : ∀ (j : Nat) u, fs[j]? = some u → w.cell? (ad.add j) = some u)
      (hr : ∀ (j : Nat) a c, (flat xs)[j]? = some a → fs[j]? = some c → VRel X w a c) : VRel X w (.lst xs) (.slice (some ad) len cap)
  | cptr (v : AV) (fs : List Value) (ad : Addr) (hi : X.imm ad.block) (hf : fs.length = v.cells.length) (hok : v.okc = true) (ho : ∀ u ∈ fs, u.oneCell' = true) (hw : ∀ (j : Nat) u, fs[j]? = some u → w.cell? (ad.add j) = some u)
      (hr : ∀ (j : Nat) a c, v.cells[j]? = some a → fs[j]? = some c → VRel X w a c) : VRel X w (.cptr v) (.pointer (some ad))
  | agg (xs : List AV) (cs : Array Value) (hl : cs.size = xs.length) (ho : ∀ u ∈ cs.toList, u.oneCell' = true) (hr : ∀ (j : Nat) a c, xs[j]? = some a → cs[j]? = some c → VRel X w a c) : VRel X w (.agg xs) (.agg cs)
  | tup (xs : List AV) (cs : Array Value) (hl : cs.size = xs.length) (hr : ∀ (j : Nat) a c, xs[j]? = some a → cs[j]? = some c → VRel X w a c) : VRel X w (.tup xs) (.tuple cs)
  | fn (f : Fn) (x1 x2 : List AV) (c1 c2 : Array Value) (h1 : c1.size = x1.length) (h2 : c2.size = x2.length) (r1 : ∀ (j : Nat) a c, x1[j]? = some a → c1[j]? = some c → VRel X w a c)
      (r2 : ∀ (j : Nat) a c, x2[j]? = some a → c2[j]? = some c → VRel X w a c) : VRel X w (.fn f x1 x2) (.func f c1 c2)
  | sl (id tot off len : Nat) (c : Value) (ho : c.oneCell' = true) (hid : X.used id) (hv : ∀ r, X.own id = some r → tot ≤ r.tot ∧ (tot = r.tot → off + len ≤ tot ∧ SubOf r.cv off len r.s c)) : VRel X w (.sl id tot off len) c
  | ptr (id tot i off : Nat) (c : Value) (ho : c.oneCell' = true) (hid : X.used id) (hv : ∀ r, X.own id = some r → tot ≤ r.tot ∧ (tot = r.tot → ∃ g n cap, r.cv = .slice (some ⟨g, 0, none⟩) n cap ∧ c = .pointer (some ⟨g, i * r.s + off, none⟩))) : VRel X w (.ptr id tot i off) c
  | map (id : Nat) (c : Value) (ho : c.oneCell' = true) (hid : X.used id) (hv : ∀ r, X.own id = some r → r.tot = 0 → c = r.cv) : VRel X w (.map id) c
  | cmap (ks vs : List AV) (b : Nat) (es : Array MapEntry) (clock : Nat) (hi : X.imm b) (hb : w.heap[b]? = some (.map es clock)) (h1 : es.size = ks.length) (h2 : es.size = vs.length)
      (r1 : ∀ (j : Nat) a c, ks[j]? = some a → (es[j]?).map MapEntry.key = some c → VRel X w a c) (r2 : ∀ (j : Nat) a c, vs[j]? = some a → (es[j]?).map MapEntry.val = some c → VRel X w a c) : VRel X w (.cmap ks vs) (.map (some b))

/-- Two lists, place by place. -/
def VRelL (X : Cx) (w : World) (as : List AV) (cs : List Value) : Prop := cs.length = as.length ∧ ∀ (j : Nat) a c, as[j]? = some a → cs[j]? = some c → VRel X w a c

/-- How a world and what is owned go on: what is not owned stays; nothing is owned or called immutable that somebody else may hold. -/
structure Ev (X : Cx) (w : World) (X' : Cx) (w' : World) : Prop where
  os : w'.os = w.os
  tape : w'.tape = w.tape
  output : w'.output = w.output
  size : w.heap.size ≤ w'.heap.size
  kept : ∀ b, b < w.heap.size → ¬ X.Owned b → w'.heap[b]? = w.heap[b]?
  owned : ∀ b, X'.Owned b → X.Owned b ∨ w.heap.size ≤ b
  imm : ∀ b, X.imm b → X'.imm b
  imm' : ∀ b, X'.imm b → X.imm b ∨ X.Owned b ∨ w.heap.size ≤ b
  used : ∀ id, X.used id → X'.used id
  ids : ∀ id r', X.used id → X'.own id = some r' → ∃ r, X.own id = some r ∧ (r = r' ∨ r.tot < r'.tot)

structure Ok (X : Cx) (w : World) : Prop where
  imm : ∀ b, X.imm b → b < w.heap.size ∧ ¬ X.Owned b
  ids : ∀ id r, X.own id = some r → X.used id
  blk : ∀ id r b, X.own id = some r → blockOf r.cv = some b → b < w.heap.size
  inj : ∀ i1 i2 r1 r2 b, X.own i1 = some r1 → X.own i2 = some r2 → blockOf r1.cv = some b → blockOf r2.cv = some b → i1 = i2

theorem Ev.refl (X : Cx) (w : World) : Ev X w X w :=
  ⟨rfl, rfl, rfl, Nat.le_refl _, fun _ _ _ => rfl, fun _ h => .inl h, fun _ h => h, fun _ h => .inl h, fun _ h => h, fun _ r' _ h => ⟨r', h, .inl rfl⟩⟩

theorem Ev.trans {X1 X2 X3 : Cx} {w1 w2 w3 : World} (h : Ev X1 w1 X2 w2) (k : Ev X2 w2 X3 w3) : Ev X1 w1 X3 w3 where
  os := k.os.trans h.os
  tape := k.tape.trans h.tape
  output := k.output.trans h.output
  size := Nat.le_trans h.size k.size
  kept := fun b hb hn => (k.kept b (Nat.lt_of_lt_of_le hb h.size) (fun ho => (h.owned b ho).elim hn (fun hl => by omega))).trans (h.kept b hb hn)
  owned := fun b hb => (k.owned b hb).elim (fun h2 => h.owned b h2) (fun h2 => .inr (by have := h.size; omega))
  imm := fun b hb => k.imm b (h.imm b hb)
  imm' := fun b hb => by
    rcases k.imm' b hb with h1 | h1 | h1
    · exact h.imm' b h1
    · exact (h.owned b h1).elim (fun x => .inr (.inl x)) (fun x => .inr (.inr x))
    · exact .inr (.inr (by have := h.size; omega))
  used := fun id hid => k.used id (h.used id hid)
  ids := fun id r' hid hr => by
    obtain ⟨r2, h2, e2⟩ := k.ids id r' (h.used id hid) hr
    obtain ⟨r1, h1, e1⟩ := h.ids id r2 hid h2
    refine ⟨r1, h1, ?_⟩
    rcases e1 with rfl | e1
    · exact e2
    · rcases e2 with rfl | e2
      · exact .inr e1
      · exact .inr (Nat.lt_trans e1 e2)

theorem Ev.below {X X' : Cx} {w w' : World} (h : Ev X w X' w') (hn : ∀ b, ¬ X.Owned b) : ∀ b, b < w.heap.size → w'.heap[b]? = w.heap[b]? := fun b hb => h.kept b hb (hn b)

theorem cell_of_heap {w w' : World} {a : Addr} (h : w'.heap[a.block]? = w.heap[a.block]?) : w'.cell? a = w.cell? a := by simp [World.cell?, h]

theorem add_block (a : Addr) (j : Nat) : (a.add j).block = a.block := by unfold Addr.add; split <;> rfl

theorem VRel.mono {X X' : Cx} {w w' : World} (hok : Ok X w) (he : Ev X w X' w') {a : AV} {c : Value} (h : VRel X w a c) : VRel X' w' a c := by
  have hk : ∀ b, X.imm b → w'.heap[b]? = w.heap[b]? := fun b hb => he.kept b (hok.imm b hb).1 (hok.imm b hb).2
  induction h with
  | junk c => exact .junk c
  | int k n => exact .int k n
  | bool b => exact .bool b
  | str s => exact .str s
  | nilp => exact .nilp
  | nilf => exact .nilf
  | nilm => exact .nilm
  | nil0 A => exact .nil0 A
  | lnil A cap => exact .lnil A cap
  | lst xs fs s ad len cap h0 hc hs hi hf ho hw hr ih =>
    exact .lst xs fs s ad len cap h0 hc hs (he.imm _ hi) hf ho (fun j u hu => (cell_of_heap (by rw [add_block]; exact hk _ hi)).trans (hw j u hu)) ih
  | cptr v fs ad hi hf hok' ho hw hr ih =>
    exact .cptr v fs ad (he.imm _ hi) hf hok' ho (fun j u hu => (cell_of_heap (by rw [add_block]; exact hk _ hi)).trans (hw j u hu)) ih
  | agg xs cs hl ho hr ih => exact .agg xs cs hl ho ih
  | tup xs cs hl hr ih => exact .tup xs cs hl ih
  | fn f x1 x2 c1 c2 h1 h2 r1 r2 ih1 ih2 => exact .fn f x1 x2 c1 c2 h1 h2 ih1 ih2
  | sl id tot off len c ho hid hv =>
    refine .sl id tot off len c ho (he.used id hid) fun r' hr' => ?_
    obtain ⟨r, hr, e⟩ := he.ids id r' hid hr'
    obtain ⟨h1, h2⟩ := hv r hr
    rcases e with rfl | e
    · exact ⟨h1, h2⟩
    · exact ⟨by omega, fun h => by omega⟩
  | ptr id tot i off c ho hid hv =>
    refine .ptr id tot i off c ho (he.used id hid) fun r' hr' => ?_
    obtain ⟨r, hr, e⟩ := he.ids id r' hid hr'
    obtain ⟨h1, h2⟩ := hv r hr
    rcases e with rfl | e
    · exact ⟨h1, h2⟩
    · exact ⟨by omega, fun h => by omega⟩
  | map id c ho hid hv =>
    refine .map id c ho (he.used id hid) fun r' hr' h0 => ?_
    obtain ⟨r, hr, e⟩ := he.ids id r' hid hr'
    rcases e with rfl | e
    · exact hv r hr h0
    · omega
  | cmap ks vs b es clock hi hb h1 h2 r1 r2 ih1 ih2 =>
    exact .cmap ks vs b es clock (he.imm _ hi) ((hk _ hi).trans hb) h1 h2 ih1 ih2

end Go.Proofs.YtfdfkmcplhloaaaGreat
end

section
set_option linter.unusedSimpArgs false
set_option linter.unusedVariables false
namespace Go.Proofs.YtfdfkmcplhloaaaGreat

inductive Ob where
  | arr (E : TypeId) (s : Nat) (es : List AV)
  | map (kt et : TypeId) (ks vs : List AV)
  | loop (l : Nat) (fn : FuncId) (ps : Array Tmp) (assign body : Code) (tm : Nat → AV) (nt : Nat) (st : LoopState) (pend : Option Code)

structure Hp where
  get : Nat → Option Ob
  nx : Nat

def Hp.empty (n : Nat) : Hp := ⟨fun _ => none, n⟩
def Hp.set (h : Hp) (id : Nat) (o : Ob) : Hp := ⟨fun j => if j = id then some o else h.get j, h.nx⟩
def Hp.add (h : Hp) (o : Ob) : Hp := ⟨fun j => if j = h.nx then some o else h.get j, h.nx + 1⟩
def Hp.del (h : Hp) (id : Nat) : Hp := ⟨fun j => if j = id then none else h.get j, h.nx⟩

def Row (w : World) (E s : Nat) (cv : Value) (n : Nat) (xs : List Value) : Prop :=
  (∃ A, cv = .slice A 0 0 ∧ n = 0 ∧ xs = []) ∨ (∃ g cap, cv = .slice (some ⟨g, 0, none⟩) n cap ∧ 0 < cap ∧ w.ownsRow 0 E s cv n xs)

def ORel (X : Cx) (w : World) (id : Nat) : Ob → Prop
  | .arr E s es => ∃ cv xs, X.own id = some ⟨es.length, s, cv⟩ ∧ Row w E s cv es.length xs ∧ (∀ e ∈ es, e.cells.length = s ∧ e.okc = true) ∧ (∀ u ∈ xs, u.oneCell' = true) ∧ VRelL X w (flat es) xs
  | .map _ _ ks vs => ∃ (r : Nat) (es : Array MapEntry) (clock : Nat), X.own id = some ⟨0, 0, .map (some r)⟩ ∧ w.heap[r]? = some (.map es clock) ∧ es.size = ks.length ∧ es.size = vs.length ∧
      (∀ (j : Nat) a c, ks[j]? = some a → (es[j]?).map MapEntry.key = some c → VRel X w a c) ∧ (∀ (j : Nat) a c, vs[j]? = some a → (es[j]?).map MapEntry.val = some c → VRel X w a c)
  | .loop l fn ps assign body tm nt st pend => ∃ r : Loop, X.own id = some ⟨0, 0, .map (some l)⟩ ∧ w.heap[l]? = some (.loop r) ∧ (r.fn = fn ∧ r.params = ps ∧ r.assign = assign ∧ r.body = body ∧ r.state = st ∧ r.pending = pend ∧ r.tmps.size = nt) ∧
      ∀ t, VRel X w (tm t) (r.tmps.getD t undef)

structure HRel (h : Hp) (X : Cx) (w : World) : Prop where
  ok : Ok X w
  lt : ∀ id, X.used id → id < h.nx
  dead : ∀ id, h.get id = none → X.own id = none
  obj : ∀ id o, h.get id = some o → ORel X w id o

theorem VRelL.mono {X X' : Cx} {w w' : World} (hok : Ok X w) (he : Ev X w X' w') {as : List AV} {cs : List Value} (h : VRelL X w as cs) : VRelL X' w' as cs :=
  ⟨h.1, fun j a c ha hc => (h.2 j a c ha hc).mono hok he⟩

theorem Row.kept {w w' : World} {E s : Nat} {cv : Value} {n : Nat} {xs : List Value} (h : Row w E s cv n xs) (hb : ∀ b, blockOf cv = some b → w'.heap[b]? = w.heap[b]?) : Row w' E s cv n xs := by
  rcases h with h | ⟨g, cap, rfl, hc, h1, h2⟩
  · exact .inl h
  · refine .inr ⟨g, cap, rfl, hc, h1, ?_⟩
    rcases h2 with h2 | ⟨g', cap', cur, he, h3, h4, h5⟩
    · exact .inl h2
    · refine .inr ⟨g', cap', cur, he, h3, ?_, h5⟩
      simp only [Value.slice.injEq, Option.some.injEq, Addr.mk.injEq, and_true, true_and] at he
      obtain ⟨rfl, rfl⟩ := he
      rw [hb g (by simp [blockOf]; omega)]
      exact h4

theorem ORel.kept {X X' : Cx} {w w' : World} {id : Nat} {o : Ob} (hok : Ok X w) (he : Ev X w X' w') (h : ORel X w id o) (hown : X'.own id = X.own id)
    (hb : ∀ r b, X.own id = some r → blockOf r.cv = some b → w'.heap[b]? = w.heap[b]?) : ORel X' w' id o := by
  cases o with
  | arr E s es =>
    obtain ⟨cv, xs, h1, h2, h3, h4, h5⟩ := h
    exact ⟨cv, xs, hown.trans h1, h2.kept (fun b hb' => hb _ b h1 hb'), h3, h4, h5.mono hok he⟩
  | map kt et ks vs =>
    obtain ⟨r, es, clock, h1, h2, h3, h4, h5, h6⟩ := h
    exact ⟨r, es, clock, hown.trans h1, (hb _ r h1 rfl).trans h2, h3, h4, fun j a c ha hc => (h5 j a c ha hc).mono hok he, fun j a c ha hc => (h6 j a c ha hc).mono hok he⟩
  | loop l fn ps assign body tm nt st pend =>
    obtain ⟨r, h1, h2, h3, h4⟩ := h
    exact ⟨r, hown.trans h1, (hb _ l h1 rfl).trans h2, h3, fun t => (h4 t).mono hok he⟩

def Cx.put (X : Cx) (id : Nat) (r : Rec) : Cx := ⟨fun j => if j = id then some r else X.own j, X.imm, fun j => j = id ∨ X.used j⟩

/-- One object is new, or has changed: in its own block, or in a new one. -/
theorem HRel.put {h : Hp} {X : Cx} {w w' : World} (H : HRel h X w) {id nx' : Nat} {r' : Rec} {o : Ob} {row : Option Nat}
    (hc : (X.own id = none ∧ ¬ X.used id) ∨ ∃ r, X.own id = some r ∧ (r = r' ∨ r.tot < r'.tot))
    (hg : w.grownBy w' row) (hrow : ∀ b, row = some b → ∃ r, X.own id = some r ∧ blockOf r.cv = some b)
    (hb : ∀ b, blockOf r'.cv = some b → b < w'.heap.size ∧ (w.heap.size ≤ b ∨ ∃ r, X.own id = some r ∧ blockOf r.cv = some b))
    (hn : h.nx ≤ nx') (hid : id < nx') (ho : Ev X w (X.put id r') w' → ORel (X.put id r') w' id o) :
    HRel ⟨fun j => if j = id then some o else h.get j, nx'⟩ (X.put id r') w' ∧ Ev X w (X.put id r') w' := by
  have hkept : ∀ b, b < w.heap.size → (∀ r, X.own id = some r → blockOf r.cv ≠ some b) → w'.heap[b]? = w.heap[b]? := fun b hlt hne =>
    hg.block b hlt fun e => by obtain ⟨r, h1, h2⟩ := hrow b e.symm; exact hne r h1 h2
  have howned : ∀ b, (X.put id r').Owned b → X.Owned b ∨ w.heap.size ≤ b := by
    rintro b ⟨j, r, hj, hbl⟩
    simp only [Cx.put] at hj
    split at hj
    · obtain rfl : r' = r := by simpa using hj
      rcases (hb b hbl).2 with h1 | ⟨r0, h1, h2⟩
      · exact .inr h1
      · exact .inl ⟨id, r0, h1, h2⟩
    · exact .inl ⟨j, r, hj, hbl⟩
  have hev : Ev X w (X.put id r') w' := by
    refine ⟨hg.os, hg.tape, hg.output, hg.size, fun b hlt hno => hkept b hlt fun r h1 h2 => hno ⟨id, r, h1, h2⟩, howned, fun _ h => h, fun _ h => .inl h, fun j hj => .inr hj, ?_⟩
    intro j rj hu hj
    simp only [Cx.put] at hj
    split at hj
    · rename_i e
      subst e
      obtain rfl : r' = rj := by simpa using hj
      rcases hc with ⟨_, h2⟩ | h2
      · exact absurd hu h2
      · exact h2
    · exact ⟨rj, hj, .inl rfl⟩
  have hother : ∀ j r b, j ≠ id → X.own j = some r → blockOf r.cv = some b → w'.heap[b]? = w.heap[b]? := fun j r b hj hr hbl =>
    hkept b (H.ok.blk j r b hr hbl) fun r0 h1 h2 => hj (H.ok.inj j id r r0 b hr h1 hbl h2)
  refine ⟨⟨⟨fun b hi => ⟨Nat.lt_of_lt_of_le (H.ok.imm b hi).1 hg.size, fun ho' => ?_⟩, ?_, ?_, ?_⟩, ?_, ?_, ?_⟩, hev⟩
  · rcases howned b ho' with h1 | h1
    · exact (H.ok.imm b hi).2 h1
    · have := (H.ok.imm b hi).1; omega
  · intro j r hj
    simp only [Cx.put] at hj ⊢
    split at hj
    · exact .inl ‹_›
    · exact .inr (H.ok.ids j r hj)
  · intro j r b hj hbl
    simp only [Cx.put] at hj
    split at hj
    · obtain rfl : r' = r := by simpa using hj
      exact (hb b hbl).1
    · exact Nat.lt_of_lt_of_le (H.ok.blk j r b hj hbl) hg.size
  · intro i1 i2 r1 r2 b h1 h2 hb1 hb2
    simp only [Cx.put] at h1 h2
    split at h1 <;> split at h2
    · simp_all
    · obtain rfl : r' = r1 := by simpa using h1
      rcases (hb b hb1).2 with h3 | ⟨r0, h3, h4⟩
      · have := H.ok.blk i2 r2 b h2 hb2; omega
      · have := H.ok.inj id i2 r0 r2 b h3 h2 h4 hb2; simp_all
    · obtain rfl : r' = r2 := by simpa using h2
      rcases (hb b hb2).2 with h3 | ⟨r0, h3, h4⟩
      · have := H.ok.blk i1 r1 b h1 hb1; omega
      · have := H.ok.inj i1 id r1 r0 b h1 h3 hb1 h4; simp_all
    · exact H.ok.inj i1 i2 r1 r2 b h1 h2 hb1 hb2
  · rintro j (rfl | hu)
    · exact hid
    · exact Nat.lt_of_lt_of_le (H.lt j hu) hn
  · intro j hj
    simp only [Cx.put] at hj ⊢
    split at hj
    · simp at hj
    · rename_i e; rw [if_neg e]; exact H.dead j hj
  · intro j oj hj
    simp only at hj
    split at hj
    · rename_i e
      subst e
      obtain rfl : o = oj := by simpa using hj
      exact ho hev
    · rename_i e
      exact (H.obj j oj hj).kept H.ok hev (by simp [Cx.put, e]) (fun r b hr hbl => hother j r b e hr hbl)

theorem HRel.own_of_get {h : Hp} {X : Cx} {w : World} (H : HRel h X w) {id E s : Nat} {es : List AV} (hg : h.get id = some (.arr E s es)) :
    ∃ cv xs, X.own id = some ⟨es.length, s, cv⟩ ∧ Row w E s cv es.length xs ∧ (∀ e ∈ es, e.cells.length = s ∧ e.okc = true) ∧ (∀ u ∈ xs, u.oneCell' = true) ∧ VRelL X w (flat es) xs := H.obj id _ hg

/-- The heap is as it was; the world has drawn. -/
theorem HRel.drew {h : Hp} {X : Cx} {w : World} (H : HRel h X w) : HRel h X w.drew ∧ Ev X w X w.drew := by
  have e : Ev X w X w.drew := ⟨rfl, rfl, rfl, Nat.le_refl _, fun _ _ _ => rfl, fun _ h => .inl h, fun _ h => h, fun _ h => .inl h, fun _ h => h, fun _ r' _ h => ⟨r', h, .inl rfl⟩⟩
  exact ⟨⟨⟨H.ok.imm, H.ok.ids, H.ok.blk, H.ok.inj⟩, H.lt, H.dead, fun id o ho => (H.obj id o ho).kept H.ok e rfl fun _ _ _ _ => rfl⟩, e⟩

end Go.Proofs.YtfdfkmcplhloaaaGreat
end

section
set_option linter.unusedSimpArgs false
set_option linter.unusedVariables false
namespace Go.Proofs.YtfdfkmcplhloaaaGreat

inductive Ef where
  | non
  | set (id : Nat) (o : Ob)
  | new (o : Ob)

def Hp.app (h : Hp) (nid : Nat) : Ef → Hp
  | .non => h
  | .set id o => ⟨fun j => if j = id then some o else h.get j, h.nx⟩
  | .new o => ⟨fun j => if j = nid then some o else h.get j, max h.nx (nid + 1)⟩

def ofCell : Value → AV
  | .int k n => .int k n
  | .bool b => .bool b
  | .string s => .str s
  | .pointer none => .nilp
  | .nilFunc => .nilf
  | .map none => .nilm
  | .slice none 0 0 => .nil0
  | _ => .junk

def ofConst : Value → AV
  | .agg cs => if cs.toList.all Value.oneCell' = true then .agg (cs.toList.map ofCell) else .junk
  | v => ofCell v

theorem ofCell_rel (X : Cx) (w : World) (v : Value) : VRel X w (ofCell v) v := by
  unfold ofCell
  split
  · exact .int _ _
  · exact .bool _
  · exact .str _
  · exact .nilp
  · exact .nilf
  · exact .nilm
  · exact .nil0 _
  · exact .junk _

theorem ofConst_rel (X : Cx) (w : World) (v : Value) : VRel X w (ofConst v) v := by
  unfold ofConst
  split
  · rename_i cs
    split
    · rename_i h
      refine .agg _ cs (by simp) (fun u hu => by simpa using List.all_eq_true.1 h u hu) fun j a c ha hc => ?_
      simp only [List.getElem?_map, Option.map_eq_some_iff] at ha
      obtain ⟨c', h1, rfl⟩ := ha
      have : c' = c := by
        have h2 : cs.toList[j]? = some c := by simpa using hc
        rw [h1] at h2; simpa using h2
      subst this
      exact ofCell_rel X w c'
    · exact .junk _
  · exact ofCell_rel X w v

def evA (tm : Nat → AV) : Operand → AV
  | .tmp t => tm t
  | .const v => ofConst v
  | .global _ => .junk
  | .func f => .fn (.func f) [] []

/-! ### Types -/
section types
variable (P : Program)

def aggT (t : TypeId) : Option Bool := (P.underlying t).map fun
  | .struct _ | .array _ _ => true
  | _ => false

theorem info_of_underlying {P : Program} {t : TypeId} {d : TypeDesc} (h : P.underlying t = some d) : ∃ i, P.info? t = some i := by
  unfold Program.underlying at h
  cases hi : P.info? t with
  | none => simp [hi] at h
  | some i => exact ⟨i, rfl⟩

theorem run_isAgg {P : Program} {t : TypeId} {ag : Bool} (h : aggT P t = some ag) (w : World) : (isAgg t).run P w = .ok ag w := by
  unfold aggT at h
  cases hu : P.underlying t with
  | none => simp [hu] at h
  | some d =>
    simp only [hu, Option.map_some, Option.some.injEq] at h
    unfold isAgg
    rw [Sem.run_bind, run_underlying hu w]
    cases d <;> simp_all

theorem run_sizeOf {P : Program} {t : TypeId} {ag : Bool} (h : aggT P t = some ag) (w : World) : (sizeOf t).run P w = .ok (P.cellsOf t) w := by
  unfold aggT at h
  cases hu : P.underlying t with
  | none => simp [hu] at h
  | some d =>
    obtain ⟨i, hi⟩ := info_of_underlying hu
    simp [sizeOf, typeInfo, hi, Program.cellsOf]

/-- A part of a struct or an array. -/
def partA (t : TypeId) (cs : List AV) (off : Nat) : Option AV :=
  (aggT P t).bind fun ag => if ag = true then (if off + P.cellsOf t ≤ cs.length then some (.agg ((cs.drop off).take (P.cellsOf t))) else none) else cs[off]?

/-- A variable of type t that lies 'off' cells within v. -/
def loadV (t : TypeId) (v : AV) (off : Nat) : Option AV :=
  (aggT P t).bind fun ag =>
    if ag = true then
      (if off = 0 ∧ v.isAgg = true ∧ v.cells.length = P.cellsOf t then some v
       else if off + P.cellsOf t ≤ v.cells.length then some (.agg ((v.cells.drop off).take (P.cellsOf t))) else none)
    else v.cells[off]?

def storeV (e : AV) (off : Nat) (x : AV) : AV :=
  if off = 0 ∧ x.cells.length = e.cells.length ∧ x.isAgg = e.isAgg then x else .agg (e.cells.take off ++ x.cells ++ e.cells.drop (off + x.cells.length))
end types

/-! ### Cells -/
section cells
variable {X : Cx} {w : World}

theorem VRel.cells {v : AV} {c : Value} (h : VRel X w v c) (hv : v.okc = true) : VRelL X w v.cells c.cells.toList ∧ ∀ u ∈ c.cells.toList, u.oneCell' = true := by
  have one : ∀ {v : AV} {c : Value}, VRel X w v c → v.cells = [v] → c.cells = #[c] → c.oneCell' = true → VRelL X w v.cells c.cells.toList ∧ ∀ u ∈ c.cells.toList, u.oneCell' = true := by
    intro v c h h1 h2 h3
    rw [h1, h2]
    refine ⟨⟨rfl, fun j a c' ha hc => ?_⟩, by simpa using h3⟩
    cases j with
    | zero => simp only [List.getElem?_cons_zero, Option.some.injEq] at ha hc; subst ha; subst hc; exact h
    | succ j => simp at ha
  cases h with
  | junk c => simp [AV.okc] at hv
  | tup xs cs hl hr => simp [AV.okc] at hv
  | agg xs cs hl ho hr =>
    refine ⟨⟨by simpa [AV.cells, Value.cells] using hl, fun j a c ha hc => hr j a c ha (by simpa [Value.cells] using hc)⟩, by simpa [Value.cells] using ho⟩
  | int k n => exact one (.int k n) rfl rfl rfl
  | bool b => exact one (.bool b) rfl rfl rfl
  | str s => exact one (.str s) rfl rfl rfl
  | nilp => exact one .nilp rfl rfl rfl
  | nilf => exact one .nilf rfl rfl rfl
  | nilm => exact one .nilm rfl rfl rfl
  | nil0 A => exact one (.nil0 A) rfl rfl rfl
  | lnil A cap => exact one (.lnil A cap) rfl rfl rfl
  | lst xs fs s ad len cap h0 hc hs hi hf ho hw hr => exact one (.lst xs fs s ad len cap h0 hc hs hi hf ho hw hr) rfl rfl rfl
  | cptr v fs ad hi hf hok ho hw hr => exact one (.cptr v fs ad hi hf hok ho hw hr) rfl rfl rfl
  | fn f x1 x2 c1 c2 h1 h2 r1 r2 => exact one (.fn f x1 x2 c1 c2 h1 h2 r1 r2) rfl rfl rfl
  | cmap ks vs b es clock hi hb h1 h2 r1 r2 => exact one (.cmap ks vs b es clock hi hb h1 h2 r1 r2) rfl rfl rfl
  | sl id tot off len c ho hid hv' => exact one (.sl id tot off len c ho hid hv') rfl (by cases c <;> simp_all [Value.oneCell', Value.cells]) ho
  | ptr id tot i off c ho hid hv' => exact one (.ptr id tot i off c ho hid hv') rfl (by cases c <;> simp_all [Value.oneCell', Value.cells]) ho
  | map id c ho hid hv' => exact one (.map id c ho hid hv') rfl (by cases c <;> simp_all [Value.oneCell', Value.cells]) ho

theorem add_add (a : Addr) (i j : Nat) : (a.add i).add j = a.add (i + j) := by
  unfold Addr.add
  by_cases hi : i = 0 <;> by_cases hj : j = 0 <;> simp [hi, hj, Nat.add_assoc]

theorem add_at (g o i : Nat) : (⟨g, o, none⟩ : Addr).add i = ⟨g, o + i, none⟩ := by unfold Addr.add; split <;> simp_all

theorem VRelL.sub {as : List AV} {cs : List Value} (h : VRelL X w as cs) (k n : Nat) : VRelL X w ((as.drop k).take n) ((cs.drop k).take n) := by
  refine ⟨by simp [h.1], fun j a c ha hc => ?_⟩
  rw [List.getElem?_take] at ha hc
  split at ha
  · rename_i hj
    rw [if_pos hj] at hc
    exact h.2 (k + j) a c (by simpa using ha) (by simpa using hc)
  · simp at ha

theorem flat_nil : flat [] = [] := rfl
theorem flat_cons (x : AV) (xs : List AV) : flat (x :: xs) = x.cells ++ flat xs := rfl
theorem flat_append (xs ys : List AV) : flat (xs ++ ys) = flat xs ++ flat ys := by simp [flat]

theorem flat_length {es : List AV} {s : Nat} (hs : ∀ e ∈ es, e.cells.length = s) : (flat es).length = es.length * s := by
  induction es with
  | nil => simp [flat]
  | cons x xs ih =>
    rw [flat_cons, List.length_append, ih (fun e he => hs e (by simp [he])), hs x (by simp), List.length_cons, Nat.succ_mul, Nat.add_comm]

theorem flat_at {es : List AV} {s i : Nat} {e : AV} (hs : ∀ e ∈ es, e.cells.length = s) (hi : es[i]? = some e) : ((flat es).drop (i * s)).take s = e.cells := by
  induction es generalizing i with
  | nil => simp at hi
  | cons x xs ih =>
    have hx : x.cells.length = s := hs x (by simp)
    rw [flat_cons]
    cases i with
    | zero =>
      simp only [List.getElem?_cons_zero, Option.some.injEq] at hi
      subst hi
      simp [hx]
    | succ i =>
      have hi' : xs[i]? = some e := by simpa using hi
      have h2 : (x.cells ++ flat xs).drop ((i + 1) * s) = (flat xs).drop (i * s) := by
        rw [List.drop_append, List.drop_eq_nil_of_le (by rw [hx, Nat.succ_mul]; omega), hx, Nat.succ_mul, Nat.add_sub_cancel, List.nil_append]
      rw [h2]
      exact ih (fun e he => hs e (by simp [he])) hi'

/-- Loading out of cells that are known. -/
theorem run_load_cells {P : Program} {t : TypeId} {v r : AV} {fs : List Value} {a0 : Addr} {off : Nat} (hrel : VRelL X w v.cells fs) (ho : ∀ u ∈ fs, u.oneCell' = true)
    (hw : ∀ (j : Nat) u, fs[j]? = some u → w.cell? (a0.add j) = some u) (hl : loadV P t v off = some r) :
    ∃ c, (loadVar t (a0.add off)).run P w = .ok c w ∧ VRel X w r c := by
  unfold loadV at hl
  cases hag : aggT P t with
  | none => simp [hag] at hl
  | some ag =>
    have h1 := run_isAgg hag w
    have h2 := run_sizeOf hag w
    simp only [hag, Option.bind_some] at hl
    cases ag with
    | false =>
      simp only [Bool.false_eq_true, if_false] at hl
      have hlt : off < fs.length := by rw [hrel.1]; exact (List.getElem?_eq_some_iff.1 hl).1
      have hc := hw off fs[off] (by simp [hlt])
      refine ⟨fs[off], ?_, hrel.2 off r _ hl (by simp [hlt])⟩
      unfold loadVar
      rw [Sem.run_bind, h1]
      simp [hc]
    | true =>
      simp only [if_true] at hl
      have key : off + P.cellsOf t ≤ fs.length → (loadVar t (a0.add off)).run P w = .ok (.agg ((fs.drop off).take (P.cellsOf t)).toArray) w := by
        intro hle
        have hll : ((fs.drop off).take (P.cellsOf t)).length = P.cellsOf t := by simp; omega
        have h3 := run_loadCells_list (P := P) w (a0.add off) ((fs.drop off).take (P.cellsOf t)) (fun j u hu => by
          rw [add_add]
          rw [List.getElem?_take] at hu
          split at hu
          · exact hw _ u (by simpa using hu)
          · simp at hu)
        rw [hll] at h3
        unfold loadVar
        rw [Sem.run_bind, h1]
        simp only [Result.andThen_ok, if_true, Sem.run_bind, h2, h3, Sem.run_pure]
      have sub1 : ∀ u ∈ ((fs.drop off).take (P.cellsOf t)), u.oneCell' = true := fun u hu => ho u (List.mem_of_mem_drop (List.mem_of_mem_take hu))
      have hsub := hrel.sub off (P.cellsOf t)
      split at hl
      · rename_i hc
        obtain ⟨rfl, hvag, hlen⟩ := hc
        obtain rfl : v = r := by simpa using hl
        refine ⟨_, key (by rw [hrel.1, hlen]; omega), ?_⟩
        cases v <;> simp [AV.isAgg] at hvag
        rename_i xs
        simp only [AV.cells, List.drop_zero] at hsub hlen sub1 ⊢
        rw [List.take_of_length_le (by omega)] at hsub
        exact .agg xs _ (by simpa using hsub.1) (by simpa using sub1) (fun j a c ha hc => hsub.2 j a c ha (by simpa using hc))
      · split at hl
        · rename_i hle
          obtain rfl := Option.some.inj hl
          refine ⟨_, key (by rw [hrel.1]; exact hle), .agg _ _ (by simpa using hsub.1) (by simpa using sub1) (fun j a c ha hc => hsub.2 j a c ha (by simpa using hc))⟩
        · simp at hl
end cells

/-! ### Reading memory -/
section reading
variable (P : Program)

def opLoad (t : TypeId) (a : AV) (h : Nat → Option Ob) : Option AV :=
  match a with
  | .ptr id tot i off =>
    match h id with
    | some (.arr _ _ es) => if es.length = tot then (es[i]?).bind fun e => loadV P t e off else none
    | _ => none
  | .cptr v => loadV P t v 0
  | _ => none

variable {P} {X : Cx} {w : World} {h : Hp}

/-- What is owned, opened: the block, its cells. -/
theorem HRel.opened {id E s : Nat} {es : List AV} (H : HRel h X w) (hg : h.get id = some (.arr E s es)) (hne : es ≠ []) :
    ∃ g cap xs, X.own id = some ⟨es.length, s, .slice (some ⟨g, 0, none⟩) es.length cap⟩ ∧ 0 < cap ∧ w.ownsRow 0 E s (.slice (some ⟨g, 0, none⟩) es.length cap) es.length xs ∧
      (∀ e ∈ es, e.cells.length = s ∧ e.okc = true) ∧ (∀ u ∈ xs, u.oneCell' = true) ∧ VRelL X w (flat es) xs ∧ (∀ (j : Nat) u, xs[j]? = some u → w.cell? ⟨g, j, none⟩ = some u) := by
  obtain ⟨cv, xs, h1, h2, h3, h4, h5⟩ := H.own_of_get hg
  rcases h2 with ⟨A, _, h0, _⟩ | ⟨g, cap, rfl, hc, hrow⟩
  · exact absurd (List.eq_nil_of_length_eq_zero h0) hne
  · refine ⟨g, cap, xs, h1, hc, hrow, h3, h4, h5, fun j u hu => ?_⟩
    have := hrow.cells (g := g) rfl j u hu
    rwa [add_at, Nat.zero_add] at this

theorem opLoad_ok (H : HRel h X w) {t : TypeId} {a r : AV} {c : Value} (ha : VRel X w a c) (hop : opLoad P t a h.get = some r) :
    ∃ cv, (Instr.loadAt t c).run P w = .ok cv w ∧ VRel X w r cv := by
  unfold opLoad at hop
  split at hop
  · rename_i id tot i off
    split at hop
    · rename_i E s es hg
      split at hop
      · rename_i htot
        simp only [Option.bind_eq_some_iff] at hop
        obtain ⟨e, he, hl⟩ := hop
        have hne : es ≠ [] := by rintro rfl; simp at he
        obtain ⟨g, cap, xs, h1, hcap, hrow, hes, hone, hrel, hcell⟩ := H.opened hg hne
        cases ha with
        | ptr _ _ _ _ _ ho hid hv =>
          obtain ⟨_, hv⟩ := hv _ h1
          obtain ⟨g', n', cap', hcv, rfl⟩ := hv htot.symm
          simp only [Value.slice.injEq, Option.some.injEq, Addr.mk.injEq, and_true] at hcv
          obtain ⟨rfl, rfl, rfl⟩ := hcv
          have hs : ∀ e ∈ es, e.cells.length = s := fun e he => (hes e he).1
          have hsub := hrel.sub (i * s) s
          rw [flat_at hs he] at hsub
          have key := run_load_cells (P := P) (a0 := ⟨g, i * s, none⟩) hsub (fun u hu => hone u (List.mem_of_mem_drop (List.mem_of_mem_take hu))) (fun j u hu => by
            rw [add_at]
            rw [List.getElem?_take] at hu
            split at hu
            · exact hcell _ u (by simpa using hu)
            · simp at hu) hl
          rw [add_at] at key
          obtain ⟨cv, h3, h4⟩ := key
          exact ⟨cv, by simpa [Instr.loadAt, Instr.sureAddr] using h3, h4⟩
      · simp at hop
    · simp at hop
  · rename_i v
    cases ha with
    | cptr _ fs ad hi hf hok ho hw hr =>
      have key := run_load_cells (P := P) (a0 := ad) (v := v) (fs := fs) ⟨hf, hr⟩ ho hw hop
      obtain ⟨cv, h3, h4⟩ := key
      have : ad.add 0 = ad := by simp [Addr.add]
      rw [this] at h3
      exact ⟨cv, by simpa [Instr.loadAt, Instr.sureAddr] using h3, h4⟩
  · simp at hop
end reading
end Go.Proofs.YtfdfkmcplhloaaaGreat
end

section
set_option linter.unusedSimpArgs false
set_option linter.unusedVariables false
namespace Go.Proofs.YtfdfkmcplhloaaaGreat
section
variable (P : Program)

def fieldOf (t : TypeId) (f : Nat) : Option Field := (P.underlying t).bind fun
  | .struct fs => fs[f]?
  | _ => none

def opFieldAddr (t : TypeId) (x : AV) (f : Nat) : Option AV :=
  (fieldOf P t f).bind fun fl =>
    if P.cellsOf fl.type = 0 then none else
    match x with
    | .ptr id tot i off => some (.ptr id tot i (off + fl.offset))
    | .cptr v => (partA P fl.type v.cells fl.offset).bind fun r => if r.okc = true ∧ (r.isAgg = true → aggT P fl.type = some true) then some (.cptr r) else none
    | _ => none

def opField (t : TypeId) (x : AV) (f : Nat) : Option AV :=
  (fieldOf P t f).bind fun fl =>
    match x with
    | .agg xs => partA P fl.type xs fl.offset
    | _ => none

def sliceElem (t : TypeId) : Option TypeId := (P.underlying t).bind fun
  | .slice e => some e
  | _ => none

def arrayElem (t : TypeId) : Option (Nat × TypeId) := (P.underlying t).bind fun
  | .array n e => some (n, e)
  | _ => none

def opIndexAddr (t : TypeId) (x i : AV) (h : Nat → Option Ob) : Option AV :=
  match i with
  | .int _ n =>
    match x with
    | .lst xs => (sliceElem P t).bind fun e => if 0 ≤ n ∧ n < xs.length then (xs[n.toNat]?).bind fun v => if v.cells.length = P.cellsOf e then some (.cptr v) else none else none
    | .sl id tot off len => (sliceElem P t).bind fun e =>
      match h id with
      | some (.arr _ s es) => if es.length = tot ∧ s = P.cellsOf e ∧ off + len ≤ tot then (if 0 ≤ n ∧ n < len then some (.ptr id tot (off + n.toNat) 0) else none) else none
      | _ => none
    | _ => none
  | _ => none

def opNilCheck (x : AV) (h : Nat → Option Ob) : Option AV :=
  match x with
  | .ptr id tot i off =>
    match h id with
    | some (.arr _ _ es) => if es.length = tot ∧ 0 < tot then some (.ptr id tot i off) else none
    | _ => none
  | .cptr v => some (.cptr v)
  | _ => none

def opExtract (x : AV) (i : Nat) : Option AV :=
  match x with
  | .tup xs => xs[i]?
  | _ => none

def opUn (op : UnOp) (x : AV) : Option AV :=
  match op, x with
  | .not, .bool b => some (.bool !b)
  | .neg, .int k n => some (.int k (k.wrap (0 - n)))
  | _, _ => none

def eqOne : AV → AV → Option Bool
  | .int k a, .int k' b => if k = k' then some (a == b) else none
  | .bool a, .bool b => some (a == b)
  | .str a, .str b => some (a == b)
  | _, _ => none

def opBin (op : BinOp) (x y : AV) : Option AV :=
  match x, y with
  | .int k a, .int k' b =>
    if k = k' then
      match op with
      | .add => some (.int k (k.wrap (a + b)))
      | .sub => some (.int k (k.wrap (a - b)))
      | .mul => some (.int k (k.wrap (a * b)))
      | .quo => if b = 0 then none else some (.int k (k.wrap (a.tdiv b)))
      | .rem => if b = 0 then none else some (.int k (a.tmod b))
      | .eql => some (.bool (a == b))
      | .neq => some (.bool (a != b))
      | .lss => some (.bool (decide (a < b)))
      | .leq => some (.bool (decide (a ≤ b)))
      | .gtr => some (.bool (decide (a > b)))
      | .geq => some (.bool (decide (a ≥ b)))
      | .shr => if b < 0 then none else some (.int k (a.fdiv (2 ^ (min b.toNat k.bits))))
      | .shl => if b < 0 then none else some (.int k (k.wrap (a * 2 ^ (min b.toNat k.bits))))
      | .and => some (.int k (k.wrap ((BitVec.ofInt k.bits a &&& BitVec.ofInt k.bits b).toNat)))
      | _ => none
    else none
  | _, _ => none

def opBool (op : BinOp) (x y : AV) : Option AV :=
  match op, x, y with
  | .eql, .bool a, .bool b => some (.bool (a == b))
  | .neq, .bool a, .bool b => some (.bool (!(a == b)))
  | _, _, _ => none

variable {P} {X : Cx} {w : World} {h : Hp}

theorem run_part {t : TypeId} {as : List AV} {cs : Array Value} {off : Nat} {r : AV} (hrel : VRelL X w as cs.toList) (ho : ∀ u ∈ cs.toList, u.oneCell' = true) (hp : partA P t as off = some r) :
    ∃ c, (part t cs off).run P w = .ok c w ∧ VRel X w r c := by
  unfold partA at hp
  cases hag : aggT P t with
  | none => simp [hag] at hp
  | some ag =>
    have h1 := run_isAgg hag w
    have h2 := run_sizeOf hag w
    simp only [hag, Option.bind_some] at hp
    have hlen : cs.size = as.length := by simpa using hrel.1
    cases ag with
    | false =>
      simp only [Bool.false_eq_true, if_false] at hp
      have hlt : off < cs.size := by rw [hlen]; exact (List.getElem?_eq_some_iff.1 hp).1
      refine ⟨cs[off], ?_, hrel.2 off r _ hp (by simp [hlt])⟩
      unfold part
      rw [Sem.run_bind, h1]
      simp [hlt]
    | true =>
      simp only [if_true] at hp
      split at hp
      · rename_i hle
        obtain rfl := Option.some.inj hp
        have hsub := hrel.sub off (P.cellsOf t)
        refine ⟨.agg (cs.extract off (off + P.cellsOf t)), ?_, ?_⟩
        · unfold part
          rw [Sem.run_bind, h1]
          simp only [Result.andThen_ok, if_true, Sem.run_bind, h2, Sem.run_pure]
        · have e : (cs.extract off (off + P.cellsOf t)).toList = (cs.toList.drop off).take (P.cellsOf t) := by simp [Array.toList_extract, List.extract_eq_take_drop]
          refine .agg _ _ ?_ ?_ ?_
          · simp only [Array.size_extract, List.length_take, List.length_drop]; omega
          · rw [e]; exact fun u hu => ho u (List.mem_of_mem_drop (List.mem_of_mem_take hu))
          · intro j a c ha hc
            refine hsub.2 j a c ha ?_
            rw [← e, Array.getElem?_toList]; exact hc
      · simp at hp

theorem fieldOf_spec {t : TypeId} {f : Nat} {fl : Field} (hf : fieldOf P t f = some fl) : ∃ fs, P.underlying t = some (.struct fs) ∧ fs[f]? = some fl := by
  unfold fieldOf at hf
  cases hu : P.underlying t with
  | none => simp [hu] at hf
  | some d => cases d <;> simp [hu] at hf; exact ⟨_, rfl, hf⟩

theorem opField_ok {t : TypeId} {x r : AV} {f : Nat} {c : Value} (hx : VRel X w x c) (hop : opField P t x f = some r) :
    ∃ cv, (Instr.field t c f).run P w = .ok cv w ∧ VRel X w r cv := by
  unfold opField at hop
  simp only [Option.bind_eq_some_iff] at hop
  obtain ⟨fl, hfl, hop⟩ := hop
  obtain ⟨fs, hu, hfs⟩ := fieldOf_spec hfl
  split at hop
  · rename_i xs
    cases hx with
    | agg _ cs hl ho hr =>
      obtain ⟨cv, h1, h2⟩ := run_part (P := P) (cs := cs) (as := xs) ⟨by simpa using hl, fun j a c ha hc => hr j a c ha (by simpa using hc)⟩ ho hop
      refine ⟨cv, ?_, h2⟩
      unfold Instr.field
      rw [Sem.run_bind, run_underlying hu w]
      simp [hfs, asAgg, h1]
  · simp at hop

theorem run_fieldPlace {a : Addr} {fl : Field} (hz : P.cellsOf fl.type ≠ 0) : (fieldPlace a fl).run P w = .ok (a.add fl.offset) w := by
  unfold fieldPlace
  cases hi : P.info? fl.type with
  | none => simp [Program.cellsOf, hi] at hz
  | some i =>
    have : i.size ≠ 0 := by simpa [Program.cellsOf, hi] using hz
    simp [sizeOf, typeInfo, hi, this]

theorem opFieldAddr_ok {t : TypeId} {x r : AV} {f : Nat} {c : Value} (hx : VRel X w x c) (H : HRel h X w) (hlive : ∀ id tot i off, x = .ptr id tot i off → ∃ E s es, h.get id = some (.arr E s es) ∧ es.length = tot ∧ 0 < tot)
    (hop : opFieldAddr P t x f = some r) : ∃ cv, (Instr.fieldAt t c f).run P w = .ok cv w ∧ VRel X w r cv := by
  unfold opFieldAddr at hop
  simp only [Option.bind_eq_some_iff] at hop
  obtain ⟨fl, hfl, hop⟩ := hop
  obtain ⟨fs, hu, hfs⟩ := fieldOf_spec hfl
  split at hop
  · simp at hop
  rename_i hz
  have hfp := fun a => run_fieldPlace (P := P) (w := w) (a := a) hz
  have hrun : ∀ ad, (Instr.fieldAt t (.pointer (some ad)) f).run P w = .ok (.pointer (some (ad.add fl.offset))) w := by
    intro ad
    unfold Instr.fieldAt
    rw [Sem.run_bind, run_underlying hu w]
    simp [hfs, Instr.sureAddr, hfp]
  split at hop
  · rename_i id tot i off
    obtain rfl := Option.some.inj hop
    obtain ⟨E, s, es, hg, htot, hpos⟩ := hlive id tot i off rfl
    have hne : es ≠ [] := by rintro rfl; simp at htot; omega
    obtain ⟨g, cap, xs, h1, hcap, hrow, hes, hone, hrel, hcell⟩ := H.opened hg hne
    cases hx with
    | ptr _ _ _ _ _ ho hid hv =>
      obtain ⟨_, hv'⟩ := hv _ h1
      obtain ⟨g', n', cap', hcv, rfl⟩ := hv' htot.symm
      simp only [Value.slice.injEq, Option.some.injEq, Addr.mk.injEq, and_true] at hcv
      obtain ⟨rfl, rfl, rfl⟩ := hcv
      refine ⟨_, hrun _, .ptr _ _ _ _ _ rfl hid fun r hr => ?_⟩
      obtain rfl : _ = r := Option.some.inj (h1.symm.trans hr)
      exact ⟨by simp [htot], fun _ => ⟨g, _, _, rfl, by rw [add_at, Nat.add_assoc]⟩⟩
  · rename_i v
    simp only [Option.bind_eq_some_iff] at hop
    obtain ⟨r', hp, hop⟩ := hop
    split at hop
    · rename_i hok
      obtain rfl := Option.some.inj hop
      cases hx with
      | cptr _ fs' ad hi hf hvok ho hw hr =>
        refine ⟨_, hrun ad, ?_⟩
        have hrel : VRelL X w v.cells fs' := ⟨hf, hr⟩
        unfold partA at hp
        cases hag : aggT P fl.type with
        | none => simp [hag] at hp
        | some ag =>
          simp only [hag, Option.bind_some] at hp
          cases ag with
          | false =>
            simp only [Bool.false_eq_true, if_false] at hp
            have hna : r'.isAgg ≠ true := fun h => by have := hok.2 h; simp [hag] at this
            have hcells : r'.cells = [r'] := by cases r' <;> simp_all [AV.cells, AV.isAgg]
            have hlt : fl.offset < fs'.length := by rw [hf]; exact (List.getElem?_eq_some_iff.1 hp).1
            refine .cptr _ [fs'[fl.offset]] _ (by rw [add_block]; exact hi) (by simp [hcells]) hok.1 (by simpa using ho _ (List.getElem_mem hlt)) (fun j u hu => ?_) (fun j a c ha hc => ?_)
            · cases j with
              | zero =>
                simp only [List.getElem?_cons_zero, Option.some.injEq] at hu
                subst hu
                rw [add_add, Nat.add_zero]
                exact hw _ _ (by simp [hlt])
              | succ j => simp at hu
            · rw [hcells] at ha
              cases j with
              | zero =>
                simp only [List.getElem?_cons_zero, Option.some.injEq] at ha hc
                subst ha; subst hc
                exact hr _ _ _ hp (by simp [hlt])
              | succ j => simp at ha
          | true =>
            simp only [if_true] at hp
            split at hp
            · rename_i hle
              obtain rfl := Option.some.inj hp
              have hsub := hrel.sub fl.offset (P.cellsOf fl.type)
              refine .cptr _ ((fs'.drop fl.offset).take (P.cellsOf fl.type)) _ (by rw [add_block]; exact hi) hsub.1 rfl (fun u hu => ho u (List.mem_of_mem_drop (List.mem_of_mem_take hu))) (fun j u hu => ?_) hsub.2
              rw [add_add]
              rw [List.getElem?_take] at hu
              split at hu
              · exact hw _ u (by simpa using hu)
              · simp at hu
            · simp at hp
    · simp at hop
  · simp at hop

theorem sliceElem_spec {t e : TypeId} (hf : sliceElem P t = some e) : P.underlying t = some (.slice e) := by
  unfold sliceElem at hf
  cases hu : P.underlying t with
  | none => simp [hu] at hf
  | some d => cases d <;> simp [hu] at hf; simp [hf]

theorem VRel.of_lst {xs : List AV} {c : Value} {i : Nat} {v : AV} (hx : VRel X w (.lst xs) c) (hi : xs[i]? = some v) :
    ∃ ad len cap s, c = .slice (some ad) len cap ∧ xs.length = len ∧ len ≤ cap ∧ v.cells.length = s ∧ VRel X w (.cptr v) (.pointer (some (ad.add (i * s)))) := by
  cases hx with
  | lnil A cap => simp at hi
  | lst _ fs s ad len cap h0 hc hs hib hf ho hw hr =>
    have hs' : ∀ e ∈ xs, e.cells.length = s := fun e he => (hs e he).1
    have hvm : v ∈ xs := List.mem_of_getElem? hi
    refine ⟨ad, len, cap, s, rfl, h0, hc, hs' v hvm, ?_⟩
    have hsub := (show VRelL X w (flat xs) fs from ⟨hf, hr⟩).sub (i * s) s
    rw [flat_at hs' hi] at hsub
    refine .cptr v _ _ (by rw [add_block]; exact hib) hsub.1 (hs v hvm).2 (fun u hu => ho u (List.mem_of_mem_drop (List.mem_of_mem_take hu))) (fun j u hu => ?_) hsub.2
    rw [add_add]
    rw [List.getElem?_take] at hu
    split at hu
    · exact hw _ u (by simpa using hu)
    · simp at hu

theorem run_sizeOf_ne {t : TypeId} (hz : P.cellsOf t ≠ 0) (w : World) : (sizeOf t).run P w = .ok (P.cellsOf t) w := by
  cases hi : P.info? t with
  | none => simp [Program.cellsOf, hi] at hz
  | some i => simp [sizeOf, typeInfo, hi, Program.cellsOf]

theorem run_indexAt_slice {t e : TypeId} (hu : P.underlying t = some (.slice e)) (hi : (P.info? e).isSome = true) {ad : Addr} {len cap : Nat} {k : IntKind} {n : Int} (h0 : 0 ≤ n) (h1 : n < len) :
    (Instr.indexAt t (.slice (some ad) len cap) (.int k n)).run P w = .ok (.pointer (some (ad.add (n.toNat * P.cellsOf e)))) w := by
  obtain ⟨i, hi⟩ := Option.isSome_iff_exists.1 hi
  unfold Instr.indexAt
  simp [asIntOf, run_underlying hu, h0, h1, sizeOf, typeInfo, hi, Program.cellsOf]

theorem opIndexAddr_ok {t : TypeId} {x i r : AV} {c ci : Value} (H : HRel h X w) (hx : VRel X w x c) (hi : VRel X w i ci) (hinf : ∀ e, sliceElem P t = some e → (P.info? e).isSome = true)
    (hop : opIndexAddr P t x i h.get = some r) : ∃ cv, (Instr.indexAt t c ci).run P w = .ok cv w ∧ VRel X w r cv := by
  unfold opIndexAddr at hop
  split at hop
  · rename_i k n
    cases hi
    split at hop
    · rename_i xs
      simp only [Option.bind_eq_some_iff] at hop
      obtain ⟨e, he, hop⟩ := hop
      have hu := sliceElem_spec he
      split at hop
      · rename_i hb
        simp only [Option.bind_eq_some_iff] at hop
        obtain ⟨v, hv, hop⟩ := hop
        split at hop
        · rename_i hsz
          obtain rfl := Option.some.inj hop
          obtain ⟨ad, len, cap, s, rfl, h1, h2, h3, h4⟩ := hx.of_lst hv
          refine ⟨_, run_indexAt_slice hu (hinf e he) hb.1 (by omega), ?_⟩
          rw [← hsz, h3]
          exact h4
        · simp at hop
      · simp at hop
    · rename_i id tot off len
      simp only [Option.bind_eq_some_iff] at hop
      obtain ⟨e, he, hop⟩ := hop
      have hu := sliceElem_spec he
      split at hop
      · rename_i E s es hg
        split at hop
        · rename_i hc1
          obtain ⟨htot, rfl, hle⟩ := hc1
          split at hop
          · rename_i hb
            obtain rfl := Option.some.inj hop
            have hne : es ≠ [] := by rintro rfl; simp at htot; omega
            obtain ⟨g, cap, xs, h1, hcap, hrow, hes, hone, hrel, hcell⟩ := H.opened hg hne
            cases hx with
            | sl _ _ _ _ _ ho hid hv =>
              obtain ⟨_, hv'⟩ := hv _ h1
              obtain ⟨hle', A0, n0, cap0, A', hcv, rfl, hA⟩ := hv' htot.symm
              simp only [Value.slice.injEq] at hcv
              obtain ⟨rfl, rfl, rfl⟩ := hcv
              have hcaplt : off < cap := by
                rcases hrow.2 with ⟨h', _⟩ | ⟨g', cap', cur, h', _, _, hnc, _⟩
                · simp at h'
                · simp only [Value.slice.injEq, Option.some.injEq, Addr.mk.injEq, and_true, true_and] at h'
                  omega
              obtain rfl := hA (by omega)
              simp only [Option.map_some]
              refine ⟨_, run_indexAt_slice hu (hinf e he) hb.1 hb.2, .ptr _ _ _ _ _ rfl hid fun r hr => ?_⟩
              obtain rfl : _ = r := Option.some.inj (h1.symm.trans hr)
              exact ⟨by simp [htot], fun _ => ⟨g, _, _, rfl, by rw [add_at, add_at, Nat.zero_add, Nat.add_mul, Nat.add_zero]⟩⟩
          · simp at hop
        · simp at hop
      · simp at hop
    · simp at hop
  · simp at hop

theorem opNilCheck_ok (H : HRel h X w) {x r : AV} {c : Value} (hx : VRel X w x c) (hop : opNilCheck x h.get = some r) : ∃ ad, c = .pointer (some ad) ∧ r = x := by
  unfold opNilCheck at hop
  split at hop
  · rename_i id tot i off
    split at hop
    · rename_i E s es hg
      split at hop
      · rename_i hc
        obtain rfl := Option.some.inj hop
        have hne : es ≠ [] := by rintro rfl; simp at hc; omega
        obtain ⟨g, cap, xs, h1, _⟩ := H.opened hg hne
        cases hx with
        | ptr _ _ _ _ _ ho hid hv =>
          obtain ⟨_, hv'⟩ := hv _ h1
          obtain ⟨g', n', cap', hcv, rfl⟩ := hv' hc.1.symm
          exact ⟨_, rfl, rfl⟩
      · simp at hop
    · simp at hop
  · obtain rfl := Option.some.inj hop
    cases hx with
    | cptr _ fs ad => exact ⟨_, rfl, rfl⟩
  · simp at hop

theorem opExtract_ok {x r : AV} {i : Nat} {c : Value} (hx : VRel X w x c) (hop : opExtract x i = some r) : ∃ cv, (Instr.extract c i).run P w = .ok cv w ∧ VRel X w r cv := by
  unfold opExtract at hop
  split at hop
  · rename_i xs
    cases hx with
    | tup _ cs hl hr =>
      have hlt : i < cs.size := by rw [hl]; exact (List.getElem?_eq_some_iff.1 hop).1
      exact ⟨cs[i], by simp [Instr.extract, hlt], hr i r _ hop (by simp [hlt])⟩
  · simp at hop

theorem opUn_ok {op : UnOp} {x r : AV} {c : Value} (hx : VRel X w x c) (hop : opUn op x = some r) : ∃ cv, (Op.unary op c).run P w = .ok cv w ∧ VRel X w r cv := by
  unfold opUn at hop
  split at hop
  · cases hx; obtain rfl := Option.some.inj hop; exact ⟨_, rfl, .bool _⟩
  · cases hx; obtain rfl := Option.some.inj hop; exact ⟨_, rfl, .int _ _⟩
  · simp at hop

theorem opBin_ok {op : BinOp} {t : TypeId} {x y r : AV} {ox oy : Operand} {c d : Value} (hx : VRel X w x c) (hy : VRel X w y d) (hop : opBin op x y = some r) :
    ∃ cv, (do eqGuard op t ox oy c d; binOp op t c d : Sem Value).run P w = .ok cv w ∧ VRel X w r cv := by
  unfold opBin at hop
  split at hop
  · rename_i k a k' b
    cases hx; cases hy
    split at hop
    · rename_i hk
      subst hk
      have hg : (eqGuard op t ox oy (.int k a) (.int k b)).run P w = .ok () w := by
        unfold eqGuard
        cases op <;> rfl
      rw [Sem.run_bind, hg]
      simp only [Result.andThen_ok]
      cases op <;> simp at hop
      case add => subst hop; exact ⟨_, by simp [binOp, Op.intArith], .int _ _⟩
      case sub => subst hop; exact ⟨_, by simp [binOp, Op.intArith], .int _ _⟩
      case mul => subst hop; exact ⟨_, by simp [binOp, Op.intArith], .int _ _⟩
      case quo => obtain ⟨hb, rfl⟩ := hop; exact ⟨_, by simp [binOp, Op.intDiv, hb], .int _ _⟩
      case rem => obtain ⟨hb, rfl⟩ := hop; exact ⟨_, by simp [binOp, Op.intDiv, hb], .int _ _⟩
      case eql => subst hop; exact ⟨_, by simp [binOp, Op.intCmp], .bool _⟩
      case neq => subst hop; exact ⟨_, by simp [binOp, Op.intCmp], .bool _⟩
      case lss => subst hop; exact ⟨_, by simp [binOp, Op.intCmp], .bool _⟩
      case leq => subst hop; exact ⟨_, by simp [binOp, Op.intCmp], .bool _⟩
      case gtr => subst hop; exact ⟨_, by simp [binOp, Op.intCmp], .bool _⟩
      case geq => subst hop; exact ⟨_, by simp [binOp, Op.intCmp], .bool _⟩
      case shr => obtain ⟨hb, rfl⟩ := hop; exact ⟨_, by simp [binOp, Op.shift, Int.not_lt.2 hb], .int _ _⟩
      case shl => obtain ⟨hb, rfl⟩ := hop; exact ⟨_, by simp [binOp, Op.shift, Int.not_lt.2 hb], .int _ _⟩
      case and => subst hop; exact ⟨_, by simp [binOp, Op.intBits], .int _ _⟩
    · simp at hop
  · simp at hop
end
end Go.Proofs.YtfdfkmcplhloaaaGreat
end

section
set_option linter.unusedSimpArgs false
set_option linter.unusedVariables false
namespace Go.Proofs.YtfdfkmcplhloaaaGreat
section
variable {P : Program} {X : Cx} {w : World} {h : Hp}

theorem Cx.put_self {X : Cx} {id : Nat} {r : Rec} (ho : X.own id = some r) (hu : X.used id) : X.put id r = X := by
  cases X with
  | mk own imm used =>
    unfold Cx.put
    congr 1
    · funext j; by_cases e : j = id
      · subst e; simp at ho; simp [ho]
      · simp [e]
    · funext j
      exact propext ⟨fun h => h.elim (fun e => e ▸ hu) (fun h => h), .inr⟩

theorem VRelL.nil : VRelL X w [] [] := ⟨rfl, fun j a c ha _ => by simp at ha⟩

theorem VRelL.append {as bs : List AV} {cs ds : List Value} (h1 : VRelL X w as cs) (h2 : VRelL X w bs ds) : VRelL X w (as ++ bs) (cs ++ ds) := by
  refine ⟨by simp [h1.1, h2.1], fun j a c ha hc => ?_⟩
  by_cases hj : j < as.length
  · rw [List.getElem?_append_left hj] at ha
    rw [List.getElem?_append_left (by rw [h1.1]; exact hj)] at hc
    exact h1.2 j a c ha hc
  · rw [List.getElem?_append_right (by omega)] at ha
    rw [List.getElem?_append_right (by rw [h1.1]; omega), h1.1] at hc
    exact h2.2 _ a c ha hc

theorem VRelL.take {as : List AV} {cs : List Value} (h : VRelL X w as cs) (n : Nat) : VRelL X w (as.take n) (cs.take n) := by simpa using h.sub 0 n
theorem VRelL.drop {as : List AV} {cs : List Value} (h : VRelL X w as cs) (n : Nat) : VRelL X w (as.drop n) (cs.drop n) := by
  have := h.sub n (as.length + cs.length)
  rwa [List.take_of_length_le (by simp; omega), List.take_of_length_le (by simp; omega)] at this

theorem VRelL.one {a : AV} {c : Value} (h : VRel X w a c) : VRelL X w [a] [c] := by
  refine ⟨rfl, fun j a' c' ha hc => ?_⟩
  cases j with
  | zero => simp at ha hc; subst ha; subst hc; exact h
  | succ j => simp at ha

theorem blockOf_some {a : Addr} {n cap b : Nat} (hb : blockOf (.slice (some a) n cap) = some b) : b = a.block := by
  simp only [blockOf] at hb
  split at hb <;> simp_all

/-- A new block. -/
theorem new_ok (H : HRel h X w) {nid : Nat} (hf : ¬ X.used nid) {E s cap : Nat} {es : List AV} {cs : Array Value} (hle : es.length ≤ cap) (hpos : 0 < cap) (hmax : cap ≤ maxLen) (hsz : cs.size = cap * s)
    (hes : ∀ e ∈ es, e.cells.length = s ∧ e.okc = true) (hone : ∀ u ∈ cs.toList.take (es.length * s), u.oneCell' = true) (hrel : VRelL X w (flat es) (cs.toList.take (es.length * s))) :
    HRel (h.app nid (.new (.arr E s es))) (X.put nid ⟨es.length, s, .slice (some ⟨w.heap.size, 0, none⟩) es.length cap⟩) (w.alloc (.cells cs E)) ∧
      Ev X w (X.put nid ⟨es.length, s, .slice (some ⟨w.heap.size, 0, none⟩) es.length cap⟩) (w.alloc (.cells cs E)) := by
  have hown : X.own nid = none := by
    cases ho : X.own nid with
    | none => rfl
    | some r => exact absurd (H.ok.ids nid r ho) hf
  refine H.put (row := none) (.inl ⟨hown, hf⟩) (World.grownBy_alloc w _ none) (fun b hb => by simp at hb) (fun b hb => ?_) (Nat.le_max_left _ _) (by omega) (fun hev => ?_)
  · have : b = w.heap.size := blockOf_some hb
    subst this
    exact ⟨by simp, .inl (Nat.le_refl _)⟩
  · refine ⟨_, _, by simp [Cx.put], .inr ⟨w.heap.size, cap, rfl, hpos, by rw [hrel.1, flat_length fun e he => (hes e he).1], .inr ⟨w.heap.size, cap, cs, rfl, Nat.zero_le _, heap_alloc_new w _, hle, hmax, hsz, rfl⟩⟩, hes, hone, hrel.mono H.ok hev⟩

theorem ptr_new {nid s : Nat} {X' : Cx} {g cap : Nat} {w' : World} : VRel (X'.put nid ⟨1, s, .slice (some ⟨g, 0, none⟩) 1 cap⟩) w' (.ptr nid 1 0 0) (.pointer (some ⟨g, 0, none⟩)) := by
  refine .ptr _ _ _ _ _ rfl (.inl rfl) fun r hr => ?_
  simp only [Cx.put, if_true, Option.some.injEq] at hr
  subst hr
  exact ⟨Nat.le_refl _, fun _ => ⟨g, _, _, rfl, by simp⟩⟩

theorem sl_new {nid s n : Nat} {X' : Cx} {g cap : Nat} {w' : World} (hp : 0 < cap) : VRel (X'.put nid ⟨n, s, .slice (some ⟨g, 0, none⟩) n cap⟩) w' (.sl nid n 0 n) (.slice (some ⟨g, 0, none⟩) n cap) := by
  refine .sl _ _ _ _ _ rfl (.inl rfl) fun r hr => ?_
  simp only [Cx.put, if_true, Option.some.injEq] at hr
  subst hr
  exact ⟨Nat.le_refl _, fun _ => ⟨by omega, _, _, _, some ⟨g, 0, none⟩, rfl, rfl, fun _ => by simp [Addr.add]⟩⟩

/-! ### alloc, box -/
def opBox (E : TypeId) (x : AV) (nid : Nat) : Option (AV × Ef) :=
  if x.okc = true then some (.ptr nid 1 0 0, .new (.arr E x.cells.length [x])) else none

theorem newVar_ok (H : HRel h X w) {nid : Nat} (hf : ¬ X.used nid) {E : TypeId} {x : AV} {c : Value} (hx : VRel X w x c) (hok : x.okc = true) :
    ∃ X', (newVar E c).run P w = .ok ⟨w.heap.size, 0, none⟩ (w.alloc (.cells c.cells E)) ∧ Ev X w X' (w.alloc (.cells c.cells E)) ∧ VRel X' (w.alloc (.cells c.cells E)) (.ptr nid 1 0 0) (.pointer (some ⟨w.heap.size, 0, none⟩)) ∧
      HRel (h.app nid (.new (.arr E x.cells.length [x]))) X' (w.alloc (.cells c.cells E)) ∧ X' = X.put nid ⟨1, x.cells.length, .slice (some ⟨w.heap.size, 0, none⟩) 1 1⟩ := by
  obtain ⟨hc, ho⟩ := hx.cells hok
  have hl : c.cells.size = x.cells.length := by simpa using hc.1
  obtain ⟨h1, h2⟩ := new_ok H hf (E := E) (s := x.cells.length) (cap := 1) (es := [x]) (cs := c.cells) (by simp) (by omega) (by simp [maxLen]) (by simp [hl]) (by simpa using hok)
    (fun u hu => ho u (List.mem_of_mem_take hu)) (by rw [List.take_of_length_le (by simp [hl])]; simpa [flat] using hc)
  exact ⟨_, by simp [newVar, newRow], h2, ptr_new, h1, rfl⟩

theorem opBox_ok (H : HRel h X w) {nid : Nat} (hf : ¬ X.used nid) {E : TypeId} {x r : AV} {ef : Ef} {c : Value} (hx : VRel X w x c) (hop : opBox E x nid = some (r, ef)) :
    ∃ cv w' X', (Instr.box E c).run P w = .ok cv w' ∧ Ev X w X' w' ∧ VRel X' w' r cv ∧ HRel (h.app nid ef) X' w' ∧ (∀ id, X'.used id → X.used id ∨ id = nid) := by
  unfold opBox at hop
  split at hop
  · rename_i hok
    obtain ⟨rfl, rfl⟩ := Prod.mk.inj (Option.some.inj hop)
    obtain ⟨X', h1, h2, h3, h4, h5⟩ := newVar_ok (P := P) (E := E) H hf hx hok
    exact ⟨_, _, X', by simp [Instr.box, h1], h2, h3, h4, fun id hid => by subst h5; exact hid.symm⟩
  · simp at hop

def zeroA (P : Program) (t : TypeId) : Option AV := ((P.info? t).bind (·.zero)).map ofConst

def opAlloc (P : Program) (E : TypeId) (nid : Nat) : Option (AV × Ef) := (zeroA P E).bind fun z => opBox E z nid

theorem zeroA_spec {t : TypeId} {z : AV} (hz : zeroA P t = some z) : ∃ i v, P.info? t = some i ∧ i.zero = some v ∧ z = ofConst v := by
  unfold zeroA at hz
  cases hi : P.info? t with
  | none => simp [hi] at hz
  | some i =>
    cases hv : i.zero with
    | none => simp [hi, hv] at hz
    | some v => exact ⟨i, v, rfl, hv, by simpa [hi, hv] using hz.symm⟩

theorem opAlloc_ok (H : HRel h X w) {nid : Nat} (hf : ¬ X.used nid) {E : TypeId} {r : AV} {ef : Ef} (hop : opAlloc P E nid = some (r, ef)) :
    ∃ cv w' X', (Instr.alloc E true (.tuple #[])).run P w = .ok cv w' ∧ Ev X w X' w' ∧ VRel X' w' r cv ∧ HRel (h.app nid ef) X' w' ∧ (∀ id, X'.used id → X.used id ∨ id = nid) := by
  unfold opAlloc at hop
  simp only [Option.bind_eq_some_iff] at hop
  obtain ⟨z, hz, hop⟩ := hop
  obtain ⟨i, v, hi, hv, rfl⟩ := zeroA_spec hz
  obtain ⟨cv, w', X', h1, h2⟩ := opBox_ok (P := P) H hf (ofConst_rel X w v) hop
  refine ⟨cv, w', X', ?_, h2⟩
  unfold Instr.alloc zeroValue typeInfo
  simp only [Sem.run_bind, run_program, Result.andThen_ok, hi, hv, Sem.run_pure]
  simpa [Instr.box] using h1

/-! ### In place -/
theorem flat_take {es : List AV} {s : Nat} (hs : ∀ e ∈ es, e.cells.length = s) (k : Nat) : flat (es.take k) = (flat es).take (k * s) := by
  induction es generalizing k with
  | nil => simp [flat]
  | cons x xs ih =>
    have hx : x.cells.length = s := hs x (by simp)
    cases k with
    | zero => simp [flat]
    | succ k =>
      have h1 : x.cells.take ((k + 1) * s) = x.cells := List.take_of_length_le (by rw [hx, Nat.succ_mul]; omega)
      rw [List.take_succ_cons, flat_cons, flat_cons, ih (fun e he => hs e (by simp [he])), List.take_append, hx, h1, Nat.succ_mul, Nat.add_sub_cancel]

theorem flat_drop {es : List AV} {s : Nat} (hs : ∀ e ∈ es, e.cells.length = s) (k : Nat) : flat (es.drop k) = (flat es).drop (k * s) := by
  induction es generalizing k with
  | nil => simp [flat]
  | cons x xs ih =>
    have hx : x.cells.length = s := hs x (by simp)
    cases k with
    | zero => simp
    | succ k =>
      have h1 : x.cells.drop ((k + 1) * s) = [] := List.drop_eq_nil_of_le (by rw [hx, Nat.succ_mul]; omega)
      rw [List.drop_succ_cons, flat_cons, ih (fun e he => hs e (by simp [he])), List.drop_append, hx, h1, Nat.succ_mul, Nat.add_sub_cancel, List.nil_append]

theorem storeV_cells {e x : AV} {off : Nat} (hle : off + x.cells.length ≤ e.cells.length) : (storeV e off x).cells = e.cells.take off ++ x.cells ++ e.cells.drop (off + x.cells.length) := by
  unfold storeV
  split
  · rename_i hc
    obtain ⟨rfl, h2, _⟩ := hc
    simp [h2]
  · rfl

theorem storeV_okc {e x : AV} {off : Nat} (hx : x.okc = true) : (storeV e off x).okc = true := by
  unfold storeV
  split
  · exact hx
  · rfl

theorem flat_set {es : List AV} {s i off : Nat} {e x : AV} (hs : ∀ e ∈ es, e.cells.length = s) (hi : es[i]? = some e) (hle : off + x.cells.length ≤ e.cells.length) :
    flat (es.set i (storeV e off x)) = (flat es).take (i * s + off) ++ x.cells ++ (flat es).drop (i * s + off + x.cells.length) := by
  have hlt : i < es.length := (List.getElem?_eq_some_iff.1 hi).1
  have he : es[i] = e := (List.getElem?_eq_some_iff.1 hi).2
  have hes : e.cells.length = s := hs e (he ▸ List.getElem_mem hlt)
  have hsplit : es = es.take i ++ e :: es.drop (i + 1) := by
    rw [← he]; simp
  have hset : es.set i (storeV e off x) = es.take i ++ storeV e off x :: es.drop (i + 1) := by
    rw [List.set_eq_take_append_cons_drop, if_pos hlt]
  have hfl : flat es = (flat es).take (i * s) ++ (e.cells ++ (flat es).drop ((i + 1) * s)) := by
    conv => lhs; rw [hsplit]
    rw [flat_append, flat_cons, flat_take hs, flat_drop hs]
  have hlen1 : ((flat es).take (i * s)).length = i * s := by
    rw [List.length_take, flat_length hs]
    have := Nat.mul_le_mul_right s (Nat.le_of_lt hlt)
    omega
  rw [hset, flat_append, flat_cons, flat_take hs, flat_drop hs, storeV_cells hle]
  generalize (flat es).take (i * s) = A at *
  generalize (flat es).drop ((i + 1) * s) = B at *
  rw [hfl, ← hlen1]
  have h1 : (A ++ (e.cells ++ B)).take (A.length + off) = A ++ e.cells.take off := by
    rw [List.take_append, List.take_of_length_le (by omega), Nat.add_sub_cancel_left, List.take_append, show off - e.cells.length = 0 by omega]
    simp
  have h2 : (A ++ (e.cells ++ B)).drop (A.length + off + x.cells.length) = e.cells.drop (off + x.cells.length) ++ B := by
    rw [List.drop_append, List.drop_eq_nil_of_le (by omega), List.nil_append, show A.length + off + x.cells.length - A.length = off + x.cells.length by omega, List.drop_append,
      show off + x.cells.length - e.cells.length = 0 by omega]
    simp
  rw [h1, h2]
  simp

theorem splice_ok (H : HRel h X w) {id E s g cap o nid : Nat} {es es' as : List AV} {vs : List Value} {xs : List Value}
    (hg : h.get id = some (.arr E s es)) (hown : X.own id = some ⟨es.length, s, .slice (some ⟨g, 0, none⟩) es.length cap⟩) (hcap : 0 < cap)
    (hrow : w.ownsRow 0 E s (.slice (some ⟨g, 0, none⟩) es.length cap) es.length xs) (hone : ∀ u ∈ xs, u.oneCell' = true) (hrel : VRelL X w (flat es) xs)
    (hfit : o + vs.length ≤ es.length * s) (hvo : ∀ u ∈ vs, u.oneCell' = true) (hvr : VRelL X w as vs)
    (hfl : flat es' = (flat es).take o ++ as ++ (flat es).drop (o + as.length)) (hlen : es'.length = es.length) (hes' : ∀ e ∈ es', e.cells.length = s ∧ e.okc = true) :
    ∃ w', (storeCells ⟨g, o, none⟩ vs).run P w = .ok () w' ∧ HRel (h.app nid (.set id (.arr E s es'))) X w' ∧ Ev X w X w' := by
  rcases hrow.2 with ⟨h', _⟩ | ⟨g', cap', cur, h', hb, hgg, hnc, hcm, hcs, htake⟩
  · simp at h'
  simp only [Value.slice.injEq, Option.some.injEq, Addr.mk.injEq, and_true, true_and] at h'
  obtain ⟨rfl, rfl⟩ := h'
  have hN : es.length * s ≤ cur.size := by rw [hcs]; exact Nat.mul_le_mul_right _ hnc
  have hst := run_storeCells_at P g o E vs 0 cur w hgg (by omega) hvo
  simp only [Nat.add_zero] at hst
  have hu : X.used id := H.ok.ids id _ hown
  have hxl : xs.length = es.length * s := hrow.1
  have htk : (cur.toList.take o ++ vs ++ cur.toList.drop (o + vs.length)).take (es.length * s) = xs.take o ++ vs ++ xs.drop (o + vs.length) := by
    rw [← htake]
    apply List.ext_getElem?
    intro j
    simp only [List.getElem?_take, List.getElem?_append, List.length_append, List.length_take, List.getElem?_drop, Array.length_toList]
    have : o ≤ cur.size := by omega
    simp only [Nat.min_eq_left this]
    split <;> split <;> (try split) <;> (try split) <;> (try split) <;> first | rfl | omega | (congr 1; omega) | skip
    all_goals first | rfl | omega | (simp; omega) | (rw [List.getElem?_eq_none]; simp; omega)
  have hput := H.put (id := id) (nx' := h.nx) (r' := ⟨es.length, s, .slice (some ⟨g, 0, none⟩) es.length cap⟩) (o := .arr E s es') (row := some g)
    (w' := w.setRow g (cur.toList.take o ++ vs ++ cur.toList.drop (o + vs.length)).toArray) (.inr ⟨_, hown, .inl rfl⟩)
    ⟨rfl, rfl, rfl, by simp, fun k _ hk => setRow_other w g k _ (fun e => hk (by simp [e]))⟩
    (fun b hb => by
      obtain rfl : g = b := (by simpa using hb)
      exact ⟨_, hown, by simp [blockOf]; omega⟩)
    (fun b hb => by
      have : b = g := blockOf_some hb
      subst this
      exact ⟨by simpa using (Array.getElem?_eq_some_iff.1 hgg).1, .inr ⟨_, hown, hb⟩⟩) (Nat.le_refl _) (H.lt id hu)
    (fun hev => by
      refine ⟨.slice (some ⟨g, 0, none⟩) es.length cap, xs.take o ++ vs ++ xs.drop (o + vs.length), by simp [Cx.put, hlen], .inr ⟨g, cap, by rw [hlen], hcap, ?_, .inr ⟨g, cap, _, by rw [hlen], Nat.zero_le _, setRow_heap w g cur _ E _ hgg, by omega, hcm, ?_, ?_⟩⟩, hes', ?_, ?_⟩
      · simp [hxl, hlen]; omega
      · simp; omega
      · rw [hlen]; exact htk
      · intro u hu'
        simp only [List.mem_append] at hu'
        rcases hu' with (h1 | h1) | h1
        · exact hone u (List.mem_of_mem_take h1)
        · exact hvo u h1
        · exact hone u (List.mem_of_mem_drop h1)
      · rw [hfl, ← hvr.1]
        exact (((hrel.take o).append hvr).append (hrel.drop _)).mono H.ok hev)
  rw [Cx.put_self hown hu] at hput
  exact ⟨_, hst, hput.1, hput.2⟩

def opStore (P : Program) (t : TypeId) (a x : AV) (h : Nat → Option Ob) : Option Ef :=
  match a with
  | .ptr id tot i off =>
    match h id with
    | some (.arr E s es) =>
      if es.length = tot then
        (es[i]?).bind fun e => if x.okc = true ∧ x.cells.length = P.cellsOf t ∧ P.cellsOf t ≠ 0 ∧ off + x.cells.length ≤ e.cells.length then some (.set id (.arr E s (es.set i (storeV e off x)))) else none
      else none
    | _ => none
  | _ => none

theorem opStore_ok (H : HRel h X w) {nid : Nat} {t : TypeId} {a x : AV} {ef : Ef} {ca cx : Value} (ha : VRel X w a ca) (hx : VRel X w x cx) (hop : opStore P t a x h.get = some ef) :
    ∃ w', (Instr.storeAt t ca cx).run P w = .ok () w' ∧ Ev X w X w' ∧ HRel (h.app nid ef) X w' := by
  unfold opStore at hop
  split at hop
  · rename_i id tot i off
    split at hop
    · rename_i E s es hg
      split at hop
      · rename_i htot
        simp only [Option.bind_eq_some_iff] at hop
        obtain ⟨e, he, hop⟩ := hop
        split at hop
        · rename_i hc
          obtain ⟨hok, hsz, hnz, hle⟩ := hc
          obtain rfl := Option.some.inj hop
          have hne : es ≠ [] := by rintro rfl; simp at he
          obtain ⟨g, cap, xs, h1, hcap, hrow, hes, hone, hrel, hcell⟩ := H.opened hg hne
          cases ha with
          | ptr _ _ _ _ _ ho hid hv =>
            obtain ⟨_, hv'⟩ := hv _ h1
            obtain ⟨g', n', cap', hcv, rfl⟩ := hv' htot.symm
            simp only [Value.slice.injEq, Option.some.injEq, Addr.mk.injEq, and_true] at hcv
            obtain ⟨rfl, rfl, rfl⟩ := hcv
            have hs : ∀ e ∈ es, e.cells.length = s := fun e he => (hes e he).1
            obtain ⟨hxc, hxo⟩ := hx.cells hok
            have hlt : i < es.length := (List.getElem?_eq_some_iff.1 he).1
            have hem : e ∈ es := List.mem_of_getElem? he
            have hmul : (i + 1) * s ≤ es.length * s := Nat.mul_le_mul_right s hlt
            have hlen : cx.cells.toList.length = x.cells.length := hxc.1
            have hse : e.cells.length = s := hs e hem
            obtain ⟨w', hst, hH, hE⟩ := splice_ok (P := P) (nid := nid) (o := i * s + off) H hg h1 hcap hrow hone hrel (by rw [hlen, Nat.succ_mul] at *; omega) hxo hxc (flat_set hs he hle) (by simp)
              (fun e' he' => by
                rcases List.mem_or_eq_of_mem_set he' with h2 | h2
                · exact hes e' h2
                · subst h2
                  refine ⟨?_, storeV_okc hok⟩
                  rw [storeV_cells hle]
                  simp; omega)
            refine ⟨w', ?_, hE, hH⟩
            unfold Instr.storeAt storeVar
            simp only [Sem.run_bind, Instr.sureAddr, Sem.run_pure, Result.andThen_ok, run_sizeOf_ne hnz w]
            have : cx.cells.size = P.cellsOf t := by rw [← hsz, ← hlen]; simp
            simp [this, hst]
        · simp at hop
      · simp at hop
    · simp at hop
  · simp at hop
end
end Go.Proofs.YtfdfkmcplhloaaaGreat
end

section
set_option linter.unusedSimpArgs false
set_option linter.unusedVariables false
namespace Go.Proofs.YtfdfkmcplhloaaaGreat
section
variable {P : Program} {X : Cx} {w : World} {h : Hp}

/-- The contents of a slice. -/
def rdS (h : Nat → Option Ob) : AV → Option (List AV)
  | .lst xs => some xs
  | .nil0 => some []
  | .sl id tot off len =>
    match h id with
    | some (.arr _ _ es) => if es.length = tot ∧ off + len ≤ tot then some ((es.drop off).take len) else none
    | _ => none
  | _ => none

/-- The same, concretely: the cells. -/
structure Src (X : Cx) (w : World) (c : Value) (xs : List AV) (s : Nat) (news : List Value) (A : Option Addr) (cap : Nat) : Prop where
  eq : c = .slice A xs.length cap
  len : news.length = xs.length * s
  rel : VRelL X w (flat xs) news
  one : ∀ u ∈ news, u.oneCell' = true
  okc : ∀ x ∈ xs, x.okc = true
  le : xs.length ≤ cap
  cell : xs ≠ [] → ∃ ad, A = some ad ∧ ∀ (j : Nat) u, news[j]? = some u → w.cell? (ad.add j) = some u

theorem rdS_ok (H : HRel h X w) {x : AV} {c : Value} {xs : List AV} {s : Nat} (hx : VRel X w x c) (hr : rdS h.get x = some xs) (hs : ∀ v ∈ xs, v.cells.length = s) : ∃ news A cap, Src X w c xs s news A cap := by
  unfold rdS at hr
  split at hr
  · obtain rfl := Option.some.inj hr
    cases hx with
    | lnil A cap => exact ⟨[], A, cap, rfl, by simp, VRelL.nil, by simp, by simp, by simp, fun h => absurd rfl h⟩
    | lst _ fs s' ad len cap h0 hc hs' hi hf ho hw hr => 
      refine ⟨fs, some ad, cap, by rw [h0], by rw [hf, flat_length hs], ⟨hf, hr⟩, ho, fun v hv => (hs' v hv).2, by omega, fun _ => ⟨ad, rfl, hw⟩⟩
  · obtain rfl := Option.some.inj hr
    cases hx with
    | nil0 A => exact ⟨[], A, 0, rfl, by simp, VRelL.nil, by simp, by simp, by simp, fun h => absurd rfl h⟩
  · rename_i id tot off len
    split at hr
    · rename_i E s' es hg
      split at hr
      · rename_i hc
        obtain ⟨htot, hle⟩ := hc
        obtain rfl := Option.some.inj hr
        obtain ⟨cv, fs, h1, h2, h3, h4, h5⟩ := H.own_of_get hg
        cases hx with
        | sl _ _ _ _ _ ho hid hv =>
          obtain ⟨_, hv'⟩ := hv _ h1
          obtain ⟨_, A0, n0, cap0, A', hcv, rfl, hA⟩ := hv' htot.symm
          have hlen : ((es.drop off).take len).length = len := by simp; omega
          have hs3 : ∀ e ∈ es, e.cells.length = s' := fun e he => (h3 e he).1
          rcases h2 with ⟨A, rfl, h0, rfl⟩ | ⟨g, cap, rfl, hcap, hrow⟩
          · have : es = [] := List.eq_nil_of_length_eq_zero h0
            subst this
            have hl0 : len = 0 := by simp at htot; omega
            have ho0 : off = 0 := by simp at htot; omega
            subst hl0; subst ho0
            exact ⟨[], A', cap0 - 0, by simp, by simp, by simpa [flat] using VRelL.nil, by simp, by simp, by simp, fun h => absurd (by simp) h⟩
          · simp only [Value.slice.injEq] at hcv
            obtain ⟨rfl, rfl, rfl⟩ := hcv
            have hne : ∀ v ∈ (es.drop off).take len, v.cells.length = s' ∧ v.okc = true := fun v hv => h3 v (List.mem_of_mem_drop (List.mem_of_mem_take hv))
            have hcap' : es.length ≤ cap := by
              rcases hrow.2 with ⟨h', _⟩ | ⟨g', cap', cur, h', _, _, hnc, _⟩
              · simp at h'
              · simp only [Value.slice.injEq, Option.some.injEq, Addr.mk.injEq, and_true, true_and] at h'
                omega
            have hss : (es.drop off).take len ≠ [] → s' = s := fun hne' => by
              obtain ⟨v, hv⟩ := List.exists_mem_of_ne_nil _ hne'
              rw [← (hne v hv).1, hs v hv]
            refine ⟨(fs.drop (off * s')).take (len * s'), A', cap - off, by rw [hlen], ?_, ?_, ?_, fun v hv => (hne v hv).2, by rw [hlen]; omega, ?_⟩
            · rw [hlen]
              by_cases hl : len = 0
              · subst hl; simp
              · have : s' = s := hss (by intro h0; rw [h0] at hlen; simp at hlen; omega)
                subst this
                have := hrow.1
                rw [List.length_take, List.length_drop, this, ← Nat.sub_mul]
                exact Nat.min_eq_left (Nat.mul_le_mul_right _ (by omega))
            · rw [flat_take (s := s') (fun e he => hs3 e (List.mem_of_mem_drop he)), flat_drop hs3]
              exact h5.sub _ _
            · exact fun u hu => h4 u (List.mem_of_mem_drop (List.mem_of_mem_take hu))
            · intro hne'
              have hlpos : len ≠ 0 := by rintro rfl; simp at hne'
              refine ⟨_, hA (by omega), fun j u hu => ?_⟩
              rw [List.getElem?_take] at hu
              split at hu
              · rw [add_add]
                exact hrow.cells (g := g) rfl _ u (by simpa using hu)
              · simp at hu
      · simp at hr
    · simp at hr
  · simp at hr

/-! ### append -/
def zeroOk (P : Program) (e : TypeId) : Bool :=
  match P.info? e with
  | some i => match i.zero with
    | some z => z.cells.size == i.size && decide (0 < i.size)
    | none => false
  | none => false

theorem zeroOk_spec {e : TypeId} (hz : zeroOk P e = true) : ∃ i z, P.info? e = some i ∧ i.zero = some z ∧ z.cells.size = i.size ∧ 0 < i.size ∧ P.cellsOf e = i.size ∧ P.bytesOf e = i.bytes := by
  unfold zeroOk at hz
  cases hi : P.info? e with
  | none => simp [hi] at hz
  | some i =>
    cases hz' : i.zero with
    | none => simp [hi, hz'] at hz
    | some z =>
      simp [hi, hz'] at hz
      exact ⟨i, z, rfl, hz', hz.1, hz.2, by simp [Program.cellsOf, hi], by simp [Program.bytesOf, hi]⟩

theorem run_append_zero {t ty e : TypeId} (ht : P.underlying t = some (.slice e)) (hi : (P.info? e).isSome = true) (A : Option Addr) (n cap : Nat) (hle : n ≤ cap) (B : Option Addr) (c : Nat) :
    (Builtin.append_ #[t, t] ty #[.slice A n cap, .slice B 0 c]).run P w = .ok (.slice A n cap) w := by
  obtain ⟨i, hi⟩ := Option.isSome_iff_exists.1 hi
  cases A <;> cases B <;> simp [Builtin.append_, run_underlying ht, sizeOf, typeInfo, hi, Builtin.lenOf, Builtin.firstCells, loadCells, loadCellsFrom, hle, storeCells]

def opAppend (P : Program) (t : TypeId) (s x : AV) (h : Nat → Option Ob) (nid : Nat) : Option (AV × Ef) :=
  (sliceElem P t).bind fun e => if zeroOk P e = true then
    (rdS h x).bind fun xs => if ∀ v ∈ xs, v.cells.length = P.cellsOf e then
      match s with
      | .nil0 => match xs with
        | [] => some (.nil0, .non)
        | x :: xs' => if (x :: xs').length ≤ maxLen ∧ (x :: xs').length * P.bytesOf e ≤ 140737488355328 then some (.sl nid (x :: xs').length 0 (x :: xs').length, .new (.arr e (P.cellsOf e) (x :: xs'))) else none
      | .sl id tot off len =>
        match h id with
        | some (.arr E s es) => if es.length = tot ∧ off = 0 ∧ len = tot ∧ E = e ∧ s = P.cellsOf e ∧ tot + xs.length ≤ maxLen ∧ (tot + xs.length) * P.bytesOf e ≤ 140737488355328 then
            some (.sl id (tot + xs.length) 0 (tot + xs.length), .set id (.arr E s (es ++ xs))) else none
        | _ => none
      | _ => none
    else none
  else none

theorem zeroCells_size (z : Array Value) (n : Nat) : (Builtin.zeroCells z n).size = n * z.size := by simp [Builtin.zeroCells]

/-- A row that has grown, or was made by an append: the owned object is put anew. -/
theorem grown_ok (H : HRel h X w) {id nx' tot s E old need : Nat} {es : List AV} {cvo : Value} {olds news : List Value} {i : TypeInfo} {z : Value} {e : TypeId}
    (hc : (X.own id = none ∧ ¬ X.used id) ∨ X.own id = some ⟨tot, s, cvo⟩) (hlt : X.own id = some ⟨tot, s, cvo⟩ → tot < need)
    (hEe : E = e) (hsz : s = i.size) (hz : z.cells.size = i.size) (hpos : 0 < i.size)
    (hneed : es.length = need) (hn0 : 0 < need) (hmax : need ≤ maxLen) (ho : old < need)
    (hes : ∀ x ∈ es, x.cells.length = s ∧ x.okc = true) (hlen : (olds ++ news).length = need * s) (hone : ∀ u ∈ olds ++ news, u.oneCell' = true) (hrel : VRelL X w (flat es) (olds ++ news))
    (hn : h.nx ≤ nx') (hid : id < nx') :
    HRel ⟨fun j => if j = id then some (.arr E s es) else h.get j, nx'⟩ (X.put id ⟨need, s, .slice (some ⟨w.heap.size, 0, none⟩) need (grownCap w need old e)⟩)
      (w.drew.alloc (.cells (olds.toArray ++ news.toArray ++ Builtin.zeroCells z.cells (grownCap w need old e - need)) E)) ∧
    Ev X w (X.put id ⟨need, s, .slice (some ⟨w.heap.size, 0, none⟩) need (grownCap w need old e)⟩)
      (w.drew.alloc (.cells (olds.toArray ++ news.toArray ++ Builtin.zeroCells z.cells (grownCap w need old e - need)) E)) := by
  subst hEe hsz hneed
  have hge := grownCap_ge w es.length old E
  have hcm : grownCap w es.length old E ≤ maxLen := grownCap_le_maxLen w es.length old E hmax
  refine H.put (row := none) ?_ ⟨rfl, rfl, rfl, by simp, fun k hk _ => heap_alloc_old w.drew _ k hk⟩ (fun b hb => by simp at hb) (fun b hb => ?_) hn hid (fun hev => ?_)
  · rcases hc with h1 | h1
    · exact .inl h1
    · exact .inr ⟨_, h1, .inr (hlt h1)⟩
  · have : b = w.heap.size := blockOf_some hb
    subst this
    exact ⟨by simp, .inl (Nat.le_refl _)⟩
  · refine ⟨.slice (some ⟨w.heap.size, 0, none⟩) es.length (grownCap w es.length old E), olds ++ news, by simp [Cx.put], .inr ⟨w.heap.size, _, rfl, by omega, hlen, .inr ⟨w.heap.size, _, _, rfl, Nat.zero_le _, heap_alloc_new w.drew _, hge, hcm, ?_, ?_⟩⟩, hes, hone, hrel.mono H.ok hev⟩
    · have : olds.length + news.length = es.length * i.size := by simpa using hlen
      simp only [Array.size_append, List.size_toArray, zeroCells_size, hz, this, ← Nat.add_mul]
      congr 1
      omega
    · simp only [Array.toList_append, ← hlen]
      exact List.take_left

theorem opAppend_ok (H : HRel h X w) {nid : Nat} (hf : ¬ X.used nid) {t ty : TypeId} {s x r : AV} {ef : Ef} {cs cx : Value} (hs : VRel X w s cs) (hx : VRel X w x cx) (hop : opAppend P t s x h.get nid = some (r, ef)) :
    ∃ cv w' X', (Builtin.append_ #[t, t] ty #[cs, cx]).run P w = .ok cv w' ∧ Ev X w X' w' ∧ VRel X' w' r cv ∧ HRel (h.app nid ef) X' w' ∧ (∀ id, X'.used id → X.used id ∨ id = nid) := by
  unfold opAppend at hop
  simp only [Option.bind_eq_some_iff] at hop
  obtain ⟨e, he, hop⟩ := hop
  have ht := sliceElem_spec he
  split at hop
  · rename_i hz
    obtain ⟨i, z, hi, hiz, hzs, hpos, hcells, hbytes⟩ := zeroOk_spec hz
    simp only [Option.bind_eq_some_iff] at hop
    obtain ⟨xs, hxs, hop⟩ := hop
    split at hop
    · rename_i hsz
      obtain ⟨news, A, capx, S⟩ := rdS_ok H hx hxs hsz
      rw [hcells] at S
      have hinf : (P.info? e).isSome = true := by simp [hi]
      obtain rfl := S.eq
      split at hop
      · -- nil0
        cases hs with
        | nil0 B =>
          cases xs with
          | nil =>
            simp only [Option.some.injEq, Prod.mk.injEq] at hop
            obtain ⟨rfl, rfl⟩ := hop
            exact ⟨_, w, X, run_append_zero ht hinf B 0 0 (Nat.le_refl _) A capx, Ev.refl X w, .nil0 B, H, fun id h => .inl h⟩
          | cons x1 xs1 =>
            simp only at hop
            split at hop
            · rename_i hb
              obtain ⟨rfl, rfl⟩ := Prod.mk.inj (Option.some.inj hop)
              obtain ⟨ad, rfl, hcell⟩ := S.cell (by simp)
              have hl : news.length = (x1 :: xs1).length * i.size := S.len
              have hb1 : ((x1 :: xs1).length : Int) ≤ 9223372036854775807 := by have := hb.1; simp only [maxLen] at this; omega
              have hown : X.own nid = none := by
                cases ho : X.own nid with
                | none => rfl
                | some r => exact absurd (H.ok.ids nid r ho) hf
              have hg := grown_ok (id := nid) (nx' := max h.nx (nid + 1)) (tot := 0) (cvo := .slice none 0 0) (E := e) (s := P.cellsOf e) (old := 0) (need := (x1 :: xs1).length) (es := x1 :: xs1) (olds := []) (news := news) (i := i) (z := z) (e := e) H
                (.inl ⟨hown, hf⟩) (fun h => by rw [hown] at h; cases h) rfl hcells hzs hpos rfl (by simp) hb.1 (by simp) (fun v hv => ⟨hsz v hv, S.okc v hv⟩) (by rw [hcells]; simpa using hl) (by simpa using S.one) (by simpa using S.rel) (Nat.le_max_left _ _) (by omega)
              have hrun : (Builtin.append_ #[t, t] ty #[.slice B 0 0, .slice (some ad) (x1 :: xs1).length capx]).run P w = .ok (.slice (some ⟨w.heap.size, 0, none⟩) (x1 :: xs1).length (grownCap w (x1 :: xs1).length 0 e))
                  (w.drew.alloc (.cells (([] : List Value).toArray ++ news.toArray ++ Builtin.zeroCells z.cells (grownCap w (x1 :: xs1).length 0 e - (x1 :: xs1).length)) e)) := by
                cases B with
                | none =>
                  have := run_append_nil (P := P) w t ty e i z ht hi hiz ad (x1 :: xs1).length capx news hl hcell (by simp) hb1 (by have := hb.2; rw [hbytes] at this; omega)
                  simpa using this
                | some b =>
                  have := run_append_grow (P := P) w t ty e i z ht hi hiz b 0 0 [] (by simp) (by simp) ad (x1 :: xs1).length capx news hl hcell (by simp) (by simpa using hb1) (growslice_fits (by simp) (by simpa [hbytes] using hb.2))
                  simpa using this
              exact ⟨_, _, _, hrun, hg.2, sl_new (Nat.lt_of_lt_of_le (by simp) (grownCap_ge w (x1 :: xs1).length 0 e)), hg.1, fun id hid => hid.symm⟩
            · simp at hop
      · -- sl
        rename_i id tot off len
        split at hop
        · rename_i E s' es hg
          split at hop
          · rename_i hc
            obtain ⟨htot, rfl, rfl, rfl, rfl, hm1, hm2⟩ := hc
            obtain ⟨rfl, rfl⟩ := Prod.mk.inj (Option.some.inj hop)
            obtain ⟨cv, fs, h1, h2, h3, h4, h5⟩ := H.own_of_get hg
            have hid := H.ok.ids id _ h1
            cases hs with
            | sl _ _ _ _ _ ho hid' hv =>
              obtain ⟨_, hv'⟩ := hv _ h1
              obtain ⟨_, A0, n0, cap0, A', hcv0, rfl, hA⟩ := hv' htot.symm
              by_cases hx0 : xs = []
              · subst hx0
                have hcle : len ≤ cap0 - 0 := by
                  rcases h2 with ⟨B, rfl, h0, _⟩ | ⟨g, cap, rfl, hcap, hrow⟩
                  · omega
                  · simp only [Value.slice.injEq] at hcv0
                    obtain ⟨rfl, rfl, rfl⟩ := hcv0
                    rcases hrow.2 with ⟨h', _⟩ | ⟨g', cap', cur, h', _, _, hnc, _⟩
                    · simp at h'
                    · simp only [Value.slice.injEq, Option.some.injEq, Addr.mk.injEq, and_true, true_and] at h'
                      omega
                refine ⟨_, w, X, run_append_zero ht hinf A' len (cap0 - 0) hcle A capx, Ev.refl X w, ?_, ?_, fun id h => .inl h⟩
                · simpa using VRel.sl _ _ _ _ _ ho hid' hv
                · have : (h.app nid (.set id (.arr E (P.cellsOf E) (es ++ [])))) = h := by
                    cases h with
                    | mk get nx =>
                      simp only [Hp.app, List.append_nil, Hp.mk.injEq, and_true]
                      funext j
                      split
                      · rename_i e; subst e; exact hg.symm
                      · rfl
                  rw [this]; exact H
              · obtain ⟨ad, rfl, hcell⟩ := S.cell hx0
                have hxpos : 0 < xs.length := List.length_pos_iff.2 hx0
                have hl : news.length = xs.length * i.size := S.len
                have hes : ∀ v ∈ es ++ xs, v.cells.length = P.cellsOf E ∧ v.okc = true := fun v hv => by
                  rcases List.mem_append.1 hv with h | h
                  · exact h3 v h
                  · exact ⟨hsz v h, S.okc v h⟩
                have hfl : flat (es ++ xs) = flat es ++ flat xs := flat_append _ _
                have hrel : VRelL X w (flat (es ++ xs)) (fs ++ news) := by rw [hfl]; exact h5.append S.rel
                have hone : ∀ u ∈ fs ++ news, u.oneCell' = true := fun u hu => (List.mem_append.1 hu).elim (h4 u) (S.one u)
                have hm1' : len + xs.length ≤ 9223372036854775807 := by simp only [maxLen] at hm1; omega
                have hfsl : fs.length = len * i.size := by
                  rcases h2 with ⟨B, _, h0, rfl⟩ | ⟨g, cap, _, _, hrow⟩
                  · have : len = 0 := by omega
                    simp [this]
                  · rw [hrow.1, htot, hcells]
                have grow : ∀ (b : Option Addr) (old : Nat), old < len + xs.length → (Builtin.append_ #[t, t] ty #[.slice A' len (cap0 - 0), .slice (some ad) xs.length capx]).run P w =
                      .ok (.slice (some ⟨w.heap.size, 0, none⟩) (len + xs.length) (grownCap w (len + xs.length) old E)) (w.drew.alloc (.cells (fs.toArray ++ news.toArray ++ Builtin.zeroCells z.cells (grownCap w (len + xs.length) old E - (len + xs.length))) E)) →
                    ∃ cv' w' X', (Builtin.append_ #[t, t] ty #[.slice A' len (cap0 - 0), .slice (some ad) xs.length capx]).run P w = .ok cv' w' ∧ Ev X w X' w' ∧ VRel X' w' (.sl id (len + xs.length) 0 (len + xs.length)) cv' ∧
                      HRel (h.app nid (.set id (.arr E (P.cellsOf E) (es ++ xs)))) X' w' ∧ (∀ id, X'.used id → X.used id ∨ id = nid) := by
                  intro b old hold hrun
                  have hg' := grown_ok (id := id) (nx' := h.nx) (tot := es.length) (cvo := cv) (E := E) (s := P.cellsOf E) (old := old) (need := len + xs.length) (es := es ++ xs) (olds := fs) (news := news) (i := i) (z := z) (e := E) H
                    (.inr h1) (fun _ => by omega) rfl hcells hzs hpos (by simp [htot]) (by omega) hm1 hold hes (by simp [hfsl, hl, hcells, Nat.add_mul]) hone hrel (Nat.le_refl _) (H.lt id hid)
                  exact ⟨_, _, _, hrun, hg'.2, sl_new (by have := grownCap_ge w (len + xs.length) old E; omega), hg'.1, fun j hj => by
                    rcases hj with rfl | hj
                    · exact .inl hid
                    · exact .inl hj⟩
                rcases h2 with ⟨B, rfl, h0, rfl⟩ | ⟨g, cap, rfl, hcap, hrow⟩
                · have hl0 : len = 0 := by omega
                  refine grow B 0 (by omega) ?_
                  subst hl0
                  simp only [Value.slice.injEq] at hcv0
                  obtain ⟨_, _, rfl⟩ := hcv0
                  cases A' with
                  | none =>
                    have := run_append_nil (P := P) w t ty E i z ht hi hiz ad xs.length capx news hl hcell hxpos (by omega) (by rw [hbytes, Nat.zero_add] at hm2; omega)
                    simpa using this
                  | some b =>
                    have := run_append_grow (P := P) w t ty E i z ht hi hiz b 0 0 [] (by simp) (by simp) ad xs.length capx news hl hcell (by omega) (by omega) (growslice_fits (by omega) (by rw [hbytes] at hm2; exact hm2))
                    simpa using this
                · simp only [Value.slice.injEq] at hcv0
                  obtain ⟨rfl, rfl, rfl⟩ := hcv0
                  obtain rfl : A' = some ⟨g, 0, none⟩ := (hA (by omega)).trans (by simp [Addr.add])
                  rcases hrow.2 with ⟨h', _⟩ | ⟨g', cap', cur, h', hb, hgg, hnc, hcm, hcs, htake⟩
                  · simp at h'
                  simp only [Value.slice.injEq, Option.some.injEq, Addr.mk.injEq, and_true, true_and] at h'
                  obtain ⟨rfl, rfl⟩ := h'
                  by_cases hroom : len + xs.length ≤ cap
                  · have hfit : len * i.size + news.length ≤ cur.size := by rw [hl, hcs, hcells, ← Nat.add_mul]; exact Nat.mul_le_mul_right _ hroom
                    have hr := run_append_room (P := P) w t ty E i ht hi g len cap cur hgg ad xs.length capx news hl hcell S.one hroom hfit
                    have hput := H.put (id := id) (nx' := h.nx) (r' := ⟨len + xs.length, P.cellsOf E, .slice (some ⟨g, 0, none⟩) (len + xs.length) cap⟩) (o := .arr E (P.cellsOf E) (es ++ xs)) (row := some g)
                      (w' := w.setRow g (cur.toList.take (len * i.size) ++ news ++ cur.toList.drop (len * i.size + news.length)).toArray) (.inr ⟨_, h1, .inr (by simp; omega)⟩)
                      ⟨rfl, rfl, rfl, by simp, fun k _ hk => setRow_other w g k _ (fun e => hk (by simp [e]))⟩
                      (fun b hb => by
                        obtain rfl : g = b := (by simpa using hb)
                        exact ⟨_, h1, by simp [blockOf]; omega⟩)
                      (fun b hb => by
                        have : b = g := blockOf_some hb
                        subst this
                        exact ⟨by simpa using (Array.getElem?_eq_some_iff.1 hgg).1, .inr ⟨_, h1, by simp [blockOf]; omega⟩⟩) (Nat.le_refl _) (H.lt id hid)
                      (fun hev => by
                        have hll : (fs ++ news).length = (len + xs.length) * P.cellsOf E := by simp [hfsl, hl, hcells, Nat.add_mul]
                        have hel : (es ++ xs).length = len + xs.length := by simp [htot]
                        refine ⟨.slice (some ⟨g, 0, none⟩) (len + xs.length) cap, fs ++ news, by simp [Cx.put, hel], .inr ⟨g, cap, by rw [hel], hcap, by rw [hel]; exact hll, .inr ⟨g, cap, _, by rw [hel], Nat.zero_le _, setRow_heap w g cur _ E _ hgg, by rw [hel]; exact hroom, hcm, ?_, ?_⟩⟩, hes, hone, hrel.mono H.ok hev⟩
                        · simp only [List.size_toArray, List.length_append, List.length_take, List.length_drop, Array.length_toList]
                          omega
                        · rw [hel, ← hll]
                          have : cur.toList.take (len * i.size) = fs := by rw [← htake, htot, hcells]
                          simp only [this]
                          exact List.take_left)
                    refine ⟨_, _, _, hr, hput.2, sl_new hcap, hput.1, fun j hj => ?_⟩
                    rcases hj with rfl | hj
                    · exact .inl hid
                    · exact .inl hj
                  · refine grow none cap (by omega) ?_
                    have holds : ∀ (j : Nat) u, fs[j]? = some u → w.cell? ((⟨g, 0, none⟩ : Addr).add j) = some u := hrow.cells (g := g) rfl
                    exact run_append_grow (P := P) w t ty E i z ht hi hiz ⟨g, 0, none⟩ len cap fs hfsl holds ad xs.length capx news hl hcell (by omega) (by omega) (growslice_fits (by omega) (by rw [← hbytes]; exact hm2))
          · simp at hop
        · simp at hop
      · simp at hop
    · simp at hop
  · simp at hop
end
end Go.Proofs.YtfdfkmcplhloaaaGreat
end

section
set_option linter.unusedSimpArgs false
set_option linter.unusedVariables false
namespace Go.Proofs.YtfdfkmcplhloaaaGreat
section
variable {P : Program} {X : Cx} {w : World} {h : Hp}

theorem zip_fold (off : Nat) : ∀ (vs : List Value) (k : Nat) (cs : Array Value), off + k + vs.length ≤ cs.size →
    ((vs.zipIdx k).foldl (fun (cs : Array Value) (p : Value × Nat) => cs.setIfInBounds (off + p.2) p.1) cs).toList = cs.toList.take (off + k) ++ vs ++ cs.toList.drop (off + k + vs.length)
  | [], k, cs, _ => by simp
  | v :: vs, k, cs, hle => by
    simp only [List.length_cons] at hle
    rw [List.zipIdx_cons, List.foldl_cons, zip_fold off vs (k + 1) _ (by simp; omega)]
    simp only [Array.toList_setIfInBounds]
    have hk : off + k < cs.toList.length := by simp; omega
    rw [show off + (k + 1) = off + k + 1 by omega, List.take_set, List.take_succ_eq_append_getElem hk, List.drop_set_of_lt (by omega), List.set_append_right _ _ (by simp; omega)]
    simp only [List.length_take, List.append_assoc, List.length_cons]
    rw [Nat.min_eq_left (by omega), Nat.sub_self]
    simp [Nat.add_assoc, Nat.add_comm 1]

def fillL (place : Nat → Option (Nat × Nat)) (cells : List AV) : List (Nat × AV) → Option (List AV)
  | [] => some cells
  | (i, v) :: rest => (place i).bind fun p => if v.okc = true ∧ v.cells.length = p.2 ∧ p.1 + p.2 ≤ cells.length then fillL place (cells.take p.1 ++ v.cells ++ cells.drop (p.1 + v.cells.length)) rest else none

theorem fill_ok {place placeC : Nat → Option (Nat × Nat)} {ρa : Operand → AV} {ρc : Operand → Value} (hp : ∀ i p, place i = some p → placeC i = some p) (hρ : ∀ x, VRel X w (ρa x) (ρc x)) :
    ∀ (parts : List (Nat × Operand)) (cells : List AV) (cellsC : Array Value) (r : List AV), VRelL X w cells cellsC.toList → (∀ u ∈ cellsC.toList, u.oneCell' = true) →
      fillL place cells (parts.map fun p => (p.1, ρa p.2)) = some r →
      ∃ rc : Array Value, Instr.fill placeC cellsC (parts.map fun p => (p.1, ρc p.2)) = some rc ∧ VRelL X w r rc.toList ∧ ∀ u ∈ rc.toList, u.oneCell' = true
  | [], cells, cellsC, r, h1, h2, h3 => by
    obtain rfl := Option.some.inj h3
    exact ⟨cellsC, rfl, h1, h2⟩
  | (i, x) :: rest, cells, cellsC, r, h1, h2, h3 => by
    simp only [List.map_cons, fillL, Option.bind_eq_some_iff] at h3
    obtain ⟨p, hpl, h3⟩ := h3
    split at h3
    · rename_i hc
      obtain ⟨hok, hsz, hle⟩ := hc
      obtain ⟨hv, hvo⟩ := (hρ x).cells hok
      have hsz' : (ρc x).cells.size = p.2 := by rw [← hsz]; simpa using hv.1
      have hcl : cellsC.size = cells.length := by simpa using h1.1
      have hz := zip_fold p.1 (ρc x).cells.toList 0 cellsC (by simp; omega)
      simp only [Nat.add_zero] at hz
      have hz' : ((ρc x).cells.zipIdx.foldl (fun (cs : Array Value) (q : Value × Nat) => cs.setIfInBounds (p.1 + q.2) q.1) cellsC).toList = cellsC.toList.take p.1 ++ (ρc x).cells.toList ++ cellsC.toList.drop (p.1 + (ρc x).cells.toList.length) := by
        rw [← hz, ← Array.foldl_toList, Array.toList_zipIdx]
      obtain ⟨rc, h4, h5, h6⟩ := fill_ok hp hρ rest (cells.take p.1 ++ (ρa x).cells ++ cells.drop (p.1 + (ρa x).cells.length)) ((ρc x).cells.zipIdx.foldl (fun (cs : Array Value) (q : Value × Nat) => cs.setIfInBounds (p.1 + q.2) q.1) cellsC) r
        (by rw [hz', hv.1]; exact ((h1.take _).append hv).append (h1.drop _))
        (by
          rw [hz']
          intro u hu
          simp only [List.mem_append] at hu
          rcases hu with (h | h) | h
          · exact h2 u (List.mem_of_mem_take h)
          · exact hvo u h
          · exact h2 u (List.mem_of_mem_drop h)) h3
      refine ⟨rc, ?_, h5, h6⟩
      simp only [List.map_cons, Instr.fill, hp i p hpl]
      rw [if_neg (by simp [hsz']; omega)]
      exact h4
    · simp at h3

def placeL (P : Program) (t : TypeId) : Option (List (Nat × Nat)) :=
  match P.underlying t with
  | some (.struct fs) => fs.toList.mapM (fun f => (P.info? f.type).map fun i => (f.offset, i.size))
  | some (.array n e) => (P.info? e).map fun ie => (List.range n).map fun i => (i * ie.size, ie.size)
  | _ => none

def opBuild (P : Program) (t : TypeId) (parts : List (Nat × AV)) : Option AV :=
  (placeL P t).bind fun pl => (zeroA P t).bind fun z => if z.isAgg = true then (fillL (pl[·]?) z.cells parts).map .agg else none

theorem opBuild_ok {t : TypeId} {parts : Array (Nat × Operand)} {ρa : Operand → AV} {ρc : Operand → Value} {r : AV} (hρ : ∀ x, VRel X w (ρa x) (ρc x)) (hop : opBuild P t (parts.toList.map fun p => (p.1, ρa p.2)) = some r) :
    ∃ cv, (Instr.build t (parts.map fun p => (p.1, ρc p.2))).run P w = .ok cv w ∧ VRel X w r cv := by
  unfold opBuild at hop
  simp only [Option.bind_eq_some_iff] at hop
  obtain ⟨pl, hpl, z, hz, hop⟩ := hop
  split at hop
  · rename_i hag
    simp only [Option.map_eq_some_iff] at hop
    obtain ⟨cells, hfill, rfl⟩ := hop
    obtain ⟨it, v, hit, hv, rfl⟩ := zeroA_spec hz
    have hok : (ofConst v).okc = true := by cases hc : ofConst v <;> simp_all [AV.isAgg, AV.okc]
    obtain ⟨hzc, hzo⟩ := (ofConst_rel X w v).cells hok
    cases hu : P.underlying t with
    | none => simp [placeL, hu] at hpl
    | some d =>
      have main : ∀ placeC : Nat → Option (Nat × Nat), (∀ i p, pl[i]? = some p → placeC i = some p) → (∀ rc, Instr.fill placeC v.cells (parts.toList.map fun p => (p.1, ρc p.2)) = some rc → P.built t (parts.map fun p => (p.1, ρc p.2)).toList = some rc) →
          ∃ cv, (Instr.build t (parts.map fun p => (p.1, ρc p.2))).run P w = .ok cv w ∧ VRel X w (.agg cells) cv := by
        intro placeC hpc hb
        obtain ⟨rc, h1, h2, h3⟩ := fill_ok hpc hρ parts.toList (ofConst v).cells v.cells cells hzc hzo hfill
        refine ⟨.agg rc, run_build w t _ rc (hb rc h1), .agg _ _ (by simpa using h2.1) h3 fun j a c ha hc => h2.2 j a c ha (by simpa using hc)⟩
      cases d <;> simp only [placeL, hu] at hpl <;> try (simp at hpl; done)
      case array n e =>
        cases hie : P.info? e with
        | none => simp [hie] at hpl
        | some ie =>
          simp only [hie, Option.map_some, Option.some.injEq] at hpl
          subst hpl
          refine main (fun i => some (i * ie.size, ie.size)) (fun i p hp => ?_) (fun rc hrc => ?_)
          · simp only [List.getElem?_map, Option.map_eq_some_iff] at hp
            obtain ⟨j, hj, rfl⟩ := hp
            rw [List.getElem?_range] at hj
            · simp at hj; subst hj; rfl
            · by_cases hlt : i < n
              · exact hlt
              · rw [List.getElem?_eq_none (by simp; omega)] at hj; simp at hj
          · simpa [Program.built, hit, hu, hv, hie] using hrc
      case struct fs =>
        refine main (pl.toArray[·]?) (fun i p hp => by simpa using hp) (fun rc hrc => ?_)
        simpa [Program.built, hit, hu, hv, hpl] using hrc
  · simp at hop

/-! ### A slice out of a list of elements -/
def setAll (s : Nat) (es : List AV) : List (Nat × AV) → Option (List AV)
  | [] => some es
  | (i, v) :: rest => if i < es.length ∧ v.okc = true ∧ v.cells.length = s then setAll s (es.set i v) rest else none

theorem flat_set' {es : List AV} {s i : Nat} {x : AV} (hs : ∀ e ∈ es, e.cells.length = s) (hi : i < es.length) (hx : x.cells.length = s) :
    flat (es.set i x) = (flat es).take (i * s) ++ x.cells ++ (flat es).drop (i * s + x.cells.length) := by
  rw [List.set_eq_take_append_cons_drop, if_pos hi, flat_append, flat_cons, flat_take hs, flat_drop hs, hx, Nat.succ_mul, List.append_assoc]

theorem setAll_ok {ρa : Operand → AV} {ρc : Operand → Value} {s : Nat} (hρ : ∀ x, VRel X w (ρa x) (ρc x)) :
    ∀ (parts : List (Nat × Operand)) (es : List AV) (cellsC : Array Value) (r : List AV), (∀ e ∈ es, e.cells.length = s ∧ e.okc = true) → VRelL X w (flat es) cellsC.toList → (∀ u ∈ cellsC.toList, u.oneCell' = true) →
      setAll s es (parts.map fun p => (p.1, ρa p.2)) = some r →
      ∃ rc : Array Value, Instr.fill (fun i => some (i * s, s)) cellsC (parts.map fun p => (p.1, ρc p.2)) = some rc ∧ VRelL X w (flat r) rc.toList ∧ (∀ u ∈ rc.toList, u.oneCell' = true) ∧ (∀ e ∈ r, e.cells.length = s ∧ e.okc = true) ∧ r.length = es.length
  | [], es, cellsC, r, h0, h1, h2, h3 => by
    obtain rfl := Option.some.inj h3
    exact ⟨cellsC, rfl, h1, h2, h0, rfl⟩
  | (i, x) :: rest, es, cellsC, r, h0, h1, h2, h3 => by
    simp only [List.map_cons, setAll] at h3
    split at h3
    · rename_i hc
      obtain ⟨hlt, hok, hsz⟩ := hc
      obtain ⟨hv, hvo⟩ := (hρ x).cells hok
      have hsz' : (ρc x).cells.size = s := by rw [← hsz]; simpa using hv.1
      have hs : ∀ e ∈ es, e.cells.length = s := fun e he => (h0 e he).1
      have hcl : cellsC.size = es.length * s := by rw [← flat_length hs]; simpa using h1.1
      have hmul : (i + 1) * s ≤ es.length * s := Nat.mul_le_mul_right s hlt
      rw [Nat.succ_mul] at hmul
      have hz := zip_fold (i * s) (ρc x).cells.toList 0 cellsC (by simp; omega)
      simp only [Nat.add_zero] at hz
      have hz' : ((ρc x).cells.zipIdx.foldl (fun (cs : Array Value) (q : Value × Nat) => cs.setIfInBounds (i * s + q.2) q.1) cellsC).toList = cellsC.toList.take (i * s) ++ (ρc x).cells.toList ++ cellsC.toList.drop (i * s + (ρc x).cells.toList.length) := by
        rw [← hz, ← Array.foldl_toList, Array.toList_zipIdx]
      obtain ⟨rc, h4, h5, h6, h7, h8⟩ := setAll_ok hρ rest (es.set i (ρa x)) ((ρc x).cells.zipIdx.foldl (fun (cs : Array Value) (q : Value × Nat) => cs.setIfInBounds (i * s + q.2) q.1) cellsC) r
        (fun e he => by
          rcases List.mem_or_eq_of_mem_set he with h | rfl
          · exact h0 e h
          · exact ⟨hsz, hok⟩)
        (by rw [hz', flat_set' hs hlt hsz, hv.1]; exact ((h1.take _).append hv).append (h1.drop _))
        (by
          rw [hz']
          intro u hu
          simp only [List.mem_append] at hu
          rcases hu with (h | h) | h
          · exact h2 u (List.mem_of_mem_take h)
          · exact hvo u h
          · exact h2 u (List.mem_of_mem_drop h)) h3
      refine ⟨rc, ?_, h5, h6, h7, by simpa using h8⟩
      simp only [List.map_cons, Instr.fill]
      rw [if_neg (by simp [hsz']; omega)]
      exact h4
    · simp at h3

/-- n copies of the zero value, as the model lays them. -/
theorem rep_rel {z : AV} {v : Value} {s : Nat} (hz : VRelL X w z.cells v.cells.toList) (hs : z.cells.length = s) (hpos : 0 < s) (n : Nat) :
    VRelL X w (flat (List.replicate n z)) ((Array.range (n * s)).map (v.cells[· % v.cells.size]!)).toList := by
  have hvs : v.cells.size = s := by rw [← hs]; simpa using hz.1
  have hall : ∀ e ∈ List.replicate n z, e.cells.length = s := fun e he => by rw [(List.mem_replicate.1 he).2]; exact hs
  refine ⟨by simp [flat_length hall], fun j a c ha hc => ?_⟩
  have hj : j < n * s := by
    have := (List.getElem?_eq_some_iff.1 ha).1
    rw [flat_length hall] at this
    simpa using this
  have hq : j / s < n := by rw [Nat.div_lt_iff_lt_mul hpos]; exact hj
  have hr : j % s < s := Nat.mod_lt _ hpos
  have hfa := flat_at hall (i := j / s) (e := z) (by rw [List.getElem?_replicate, if_pos hq])
  have ha' : z.cells[j % s]? = some a := by
    rw [← hfa, List.getElem?_take, if_pos hr, List.getElem?_drop, Nat.mul_comm, Nat.div_add_mod]
    exact ha
  refine hz.2 (j % s) a c ha' ?_
  have : ((Array.range (n * s)).map (v.cells[· % v.cells.size]!)).toList[j]? = some (v.cells[j % v.cells.size]!) := by simp [hj]
  rw [this] at hc
  obtain rfl := Option.some.inj hc
  have hlt : j % v.cells.size < v.cells.size := by rw [hvs]; exact hr
  rw [← hvs, Array.getElem?_toList, Array.getElem?_eq_getElem hlt, getElem!_pos v.cells (j % v.cells.size) hlt]

theorem rep_one {v : Value} {s : Nat} (hv : ∀ u ∈ v.cells.toList, u.oneCell' = true) (hs : v.cells.size = s) (hpos : 0 < s) (n : Nat) : ∀ u ∈ ((Array.range (n * s)).map (v.cells[· % v.cells.size]!)).toList, u.oneCell' = true := by
  intro u hu
  simp only [Array.toList_map, List.mem_map] at hu
  obtain ⟨j, _, rfl⟩ := hu
  have hlt : j % v.cells.size < v.cells.size := Nat.mod_lt _ (by omega)
  rw [getElem!_pos v.cells (j % v.cells.size) hlt]
  exact hv _ (by simp)

/-- A new slice of length 0 and capacity 0, and what stands for it. -/
theorem new0_ok (H : HRel h X w) {nid : Nat} (hf : ¬ X.used nid) {E s : Nat} (cs : Array Value) :
    HRel (h.app nid (.new (.arr E s []))) (X.put nid ⟨0, s, .slice (some ⟨w.heap.size, 0, none⟩) 0 0⟩) (w.alloc (.cells cs E)) ∧ Ev X w (X.put nid ⟨0, s, .slice (some ⟨w.heap.size, 0, none⟩) 0 0⟩) (w.alloc (.cells cs E)) := by
  have hown : X.own nid = none := by
    cases ho : X.own nid with
    | none => rfl
    | some r => exact absurd (H.ok.ids nid r ho) hf
  exact H.put (row := none) (.inl ⟨hown, hf⟩) (World.grownBy_alloc w _ none) (fun b hb => by simp at hb) (fun b hb => by simp [blockOf] at hb) (Nat.le_max_left _ _) (by omega)
    (fun hev => ⟨.slice (some ⟨w.heap.size, 0, none⟩) 0 0, [], by simp [Cx.put], .inl ⟨some ⟨w.heap.size, 0, none⟩, rfl, rfl, rfl⟩, by simp, by simp, by simpa [flat] using VRelL.nil⟩)

def opBuildSlice (P : Program) (t : TypeId) (len : Nat) (parts : List (Nat × AV)) (nid : Nat) : Option (AV × Ef) :=
  (sliceElem P t).bind fun e => if zeroOk P e = true ∧ len * P.cellsOf e ≤ 16777216 then
    (if len = 0 ∧ parts = [] then some (.nil0, .non) else
      (zeroA P e).bind fun z => if z.okc = true ∧ z.cells.length = P.cellsOf e ∧ 0 < len then
        (setAll (P.cellsOf e) (List.replicate len z) parts).map fun es => (.sl nid len 0 len, .new (.arr e (P.cellsOf e) es)) else none)
  else none

theorem run_buildSlice {t e : TypeId} {i : TypeInfo} {z : Value} (ht : P.underlying t = some (.slice e)) (hi : P.info? e = some i) (hz : i.zero = some z) (len : Nat) (hle : len * i.size ≤ 16777216) (parts : Array (Nat × Value)) (rc : Array Value)
    (hf : Instr.fill (fun j => some (j * i.size, i.size)) ((Array.range (len * i.size)).map (z.cells[· % z.cells.size]!)) parts.toList = some rc) :
    (Instr.buildSlice t len parts).run P w = .ok (.slice (some ⟨w.heap.size, 0, none⟩) len len) (w.alloc (.cells rc e)) := by
  unfold Instr.buildSlice
  have hle' : ¬ (16777216 < len * i.size) := by omega
  by_cases h0 : len * i.size = 0
  · have hf' : Instr.fill (fun j => some (j * i.size, i.size)) #[] parts.toList = some rc := by
      rw [h0, show Array.range 0 = (#[] : Array Nat) from rfl] at hf; simpa using hf
    simp [run_underlying ht, sizeOf, typeInfo, hi, h0, hf', newRow, show Array.range 0 = (#[] : Array Nat) from rfl]
  · simp [run_underlying ht, sizeOf, typeInfo, hi, hle', h0, zeroValue, hz, hf, newRow]

theorem opBuildSlice_ok (H : HRel h X w) {nid : Nat} (hf : ¬ X.used nid) {t : TypeId} {len : Nat} {parts : Array (Nat × Operand)} {ρa : Operand → AV} {ρc : Operand → Value} {r : AV} {ef : Ef} (hρ : ∀ x, VRel X w (ρa x) (ρc x))
    (hop : opBuildSlice P t len (parts.toList.map fun p => (p.1, ρa p.2)) nid = some (r, ef)) :
    ∃ cv w' X', (Instr.buildSlice t len (parts.map fun p => (p.1, ρc p.2))).run P w = .ok cv w' ∧ Ev X w X' w' ∧ VRel X' w' r cv ∧ HRel (h.app nid ef) X' w' ∧ (∀ id, X'.used id → X.used id ∨ id = nid) := by
  unfold opBuildSlice at hop
  simp only [Option.bind_eq_some_iff] at hop
  obtain ⟨e, he, hop⟩ := hop
  have ht := sliceElem_spec he
  split at hop
  · rename_i hz
    obtain ⟨hz, hsm⟩ := hz
    obtain ⟨i, z, hi, hiz, hzs, hpos, hcells, hbytes⟩ := zeroOk_spec hz
    rw [hcells] at hsm
    split at hop
    · rename_i hc
      obtain ⟨rfl, hp⟩ := hc
      have hp' : parts = #[] := by simpa using hp
      subst hp'
      obtain ⟨rfl, rfl⟩ := Prod.mk.inj (Option.some.inj hop)
      have hrun := run_buildSlice (P := P) (w := w) ht hi hiz 0 (by omega) #[] #[] (by simp [Instr.fill])
      obtain ⟨h1, h2⟩ := new0_ok (E := e) (s := 0) H hf #[]
      refine ⟨_, _, X, by simpa using hrun, ?_, .nil0 _, ?_, fun id h => .inl h⟩
      · exact ⟨rfl, rfl, rfl, by simp, fun b hb _ => heap_alloc_old w _ b hb, fun _ h => .inl h, fun _ h => h, fun _ h => .inl h, fun _ h => h, fun _ r' _ h => ⟨r', h, .inl rfl⟩⟩
      · have e0 : Ev X w X (w.alloc (.cells #[] e)) := ⟨rfl, rfl, rfl, by simp, fun b hb _ => heap_alloc_old w _ b hb, fun _ h => .inl h, fun _ h => h, fun _ h => .inl h, fun _ h => h, fun _ r' _ h => ⟨r', h, .inl rfl⟩⟩
        exact ⟨⟨fun b hb => ⟨by have := (H.ok.imm b hb).1; simp; omega, (H.ok.imm b hb).2⟩, H.ok.ids, fun id r b h3 h4 => by have := H.ok.blk id r b h3 h4; simp; omega, H.ok.inj⟩, H.lt, H.dead,
          fun id o ho => (H.obj id o ho).kept H.ok e0 rfl fun r b hr hb => heap_alloc_old w _ b (H.ok.blk id r b hr hb)⟩
    · simp only [Option.bind_eq_some_iff] at hop
      obtain ⟨za, hza, hop⟩ := hop
      obtain ⟨i', v, hi', hv, rfl⟩ := zeroA_spec hza
      rw [hi] at hi'
      obtain rfl := Option.some.inj hi'
      rw [hiz] at hv
      obtain rfl := Option.some.inj hv
      split at hop
      · rename_i hc
        obtain ⟨hok, hzl, hlen⟩ := hc
        simp only [Option.map_eq_some_iff] at hop
        obtain ⟨es, hes, hop⟩ := hop
        obtain ⟨rfl, rfl⟩ := Prod.mk.inj hop
        obtain ⟨hzc, hzo⟩ := (ofConst_rel X w z).cells hok
        rw [hcells] at hzl hes ⊢
        obtain ⟨rc, h1, h2, h3, h4, h5⟩ := setAll_ok hρ parts.toList (List.replicate len (ofConst z)) ((Array.range (len * i.size)).map (z.cells[· % z.cells.size]!)) es
          (fun e he => by rw [(List.mem_replicate.1 he).2]; exact ⟨hzl, hok⟩) (rep_rel hzc hzl hpos len) (rep_one hzo hzs hpos len) hes
        have hrun := run_buildSlice (P := P) (w := w) ht hi hiz len hsm (parts.map fun p => (p.1, ρc p.2)) rc (by simpa using h1)
        have hel : es.length = len := by simpa using h5
        have hrcs : rc.size = len * i.size := by
          have := h2.1
          rw [flat_length (fun e he => (h4 e he).1), hel] at this
          simpa using this
        have hlm : len ≤ maxLen := by
          have : len * 1 ≤ len * i.size := Nat.mul_le_mul_left _ hpos
          simp only [maxLen]; omega
        obtain ⟨h6, h7⟩ := new_ok H hf (E := e) (s := i.size) (cap := len) (es := es) (cs := rc) (by omega) hlen hlm hrcs h4 (fun u hu => h3 u (List.mem_of_mem_take hu)) (by rw [List.take_of_length_le (by simp [hrcs, hel])]; exact h2)
        rw [hel] at h6 h7
        exact ⟨_, _, _, hrun, h7, sl_new hlen, h6, fun id hid => hid.symm⟩
      · simp at hop
  · simp at hop

/-! ### make -/
def opMakeSlice (P : Program) (t : TypeId) (len cap : AV) (nid : Nat) : Option (AV × Ef) :=
  match len, cap with
  | .int _ n, .int _ c =>
    (sliceElem P t).bind fun e => if zeroOk P e = true then
      (zeroA P e).bind fun z => if z.okc = true ∧ z.cells.length = P.cellsOf e ∧ 0 ≤ n ∧ n ≤ c ∧ c ≤ 9223372036854775807 ∧ (P.bytesOf e : Int) * c ≤ 281474976710656 then
        some (.sl nid n.toNat 0 n.toNat, .new (.arr e (P.cellsOf e) (List.replicate n.toNat z))) else none
    else none
  | _, _ => none

theorem opMakeSlice_ok (H : HRel h X w) {nid : Nat} (hf : ¬ X.used nid) {t : TypeId} {len cap r : AV} {ef : Ef} {cl cc : Value} (hl : VRel X w len cl) (hc : VRel X w cap cc) (hop : opMakeSlice P t len cap nid = some (r, ef)) :
    ∃ cv w' X', (Instr.makeSlice t cl cc).run P w = .ok cv w' ∧ Ev X w X' w' ∧ VRel X' w' r cv ∧ HRel (h.app nid ef) X' w' ∧ (∀ id, X'.used id → X.used id ∨ id = nid) := by
  unfold opMakeSlice at hop
  split at hop
  · rename_i k1 n k2 c
    cases hl; cases hc
    simp only [Option.bind_eq_some_iff] at hop
    obtain ⟨e, he, hop⟩ := hop
    have ht := sliceElem_spec he
    split at hop
    · rename_i hz
      obtain ⟨i, z, hi, hiz, hzs, hpos, hcells, hbytes⟩ := zeroOk_spec hz
      simp only [Option.bind_eq_some_iff] at hop
      obtain ⟨za, hza, hop⟩ := hop
      obtain ⟨i', v, hi', hv, rfl⟩ := zeroA_spec hza
      rw [hi] at hi'
      obtain rfl := Option.some.inj hi'
      rw [hiz] at hv
      obtain rfl := Option.some.inj hv
      split at hop
      · rename_i hc
        obtain ⟨hok, hzl, h0, hnc, hc63, hcb⟩ := hc
        obtain ⟨rfl, rfl⟩ := Prod.mk.inj (Option.some.inj hop)
        obtain ⟨hzc, hzo⟩ := (ofConst_rel X w z).cells hok
        rw [hcells] at hzl ⊢
        rw [hbytes] at hcb
        have hrun := run_make (P := P) w t e i z ht hi hiz k1 k2 n c h0 hnc hcb hc63
        by_cases hc0 : c = 0
        · subst hc0
          have hn0 : n = 0 := by omega
          subst hn0
          obtain ⟨h1, h2⟩ := new0_ok (E := e) (s := i.size) H hf (madeCells z.cells ((0 : Int).toNat * i.size))
          refine ⟨_, _, _, hrun, h2, ?_, h1, fun id hid => hid.symm⟩
          refine .sl _ _ _ _ _ rfl (.inl rfl) fun r hr => ?_
          simp only [Cx.put, if_true, Option.some.injEq] at hr
          subst hr
          exact ⟨Nat.le_refl _, fun _ => ⟨by omega, _, _, _, _, rfl, rfl, fun h => absurd rfl h⟩⟩
        · have hcpos : 0 < c.toNat := by omega
          have hle : n.toNat ≤ c.toNat := by omega
          have hall : ∀ e ∈ List.replicate n.toNat (ofConst z), e.cells.length = i.size ∧ e.okc = true := fun e he => by rw [(List.mem_replicate.1 he).2]; exact ⟨hzl, hok⟩
          have hrr := rep_rel hzc hzl hpos c.toNat
          have htk := hrr.take (n.toNat * i.size)
          have hfl : (flat (List.replicate c.toNat (ofConst z))).take (n.toNat * i.size) = flat (List.replicate n.toNat (ofConst z)) := by
            rw [← flat_take (fun e he => by rw [(List.mem_replicate.1 he).2]; exact hzl), List.take_replicate, Nat.min_eq_left hle]
          rw [hfl] at htk
          obtain ⟨h1, h2⟩ := new_ok H hf (E := e) (s := i.size) (cap := c.toNat) (es := List.replicate n.toNat (ofConst z)) (cs := madeCells z.cells (c.toNat * i.size)) (by simpa using hle) hcpos (by simp only [maxLen]; omega) (size_madeCells _ _) hall
            (fun u hu => rep_one hzo hzs hpos c.toNat u (List.mem_of_mem_take hu)) (by simpa [madeCells] using htk)
          simp only [List.length_replicate] at h1 h2
          exact ⟨_, _, _, hrun, h2, sl_new hcpos, h1, fun id hid => hid.symm⟩
      · simp at hop
    · simp at hop
  · simp at hop
end
end Go.Proofs.YtfdfkmcplhloaaaGreat
end

section
set_option linter.unusedSimpArgs false
set_option linter.unusedVariables false
namespace Go.Proofs.YtfdfkmcplhloaaaGreat
section
variable {P : Program} {X : Cx} {w : World} {h : Hp}

/-! ### len -/
def opLen (P : Program) (t : TypeId) (x : AV) (h : Nat → Option Ob) : Option AV :=
  match P.underlying t, x with
  | some (.slice _), x => (match x with
    | .lst xs => some (.int .i64 xs.length)
    | .nil0 => some (.int .i64 0)
    | .sl id tot _ len => (match h id with
      | some (.arr _ _ es) => if es.length = tot then some (.int .i64 len) else none
      | _ => none)
    | _ => none)
  | some .string, .str s => some (.int .i64 s.size)
  | _, _ => none

theorem opLen_ok (H : HRel h X w) {t ty : TypeId} {x r : AV} {c : Value} (hx : VRel X w x c) (hop : opLen P t x h.get = some r) : ∃ cv, (Builtin.len_ #[t] ty #[c]).run P w = .ok cv w ∧ VRel X w r cv := by
  unfold opLen at hop
  split at hop
  · rename_i e x0 hu
    have hrun : ∀ A n cap, (Builtin.len_ #[t] ty #[.slice A n cap]).run P w = .ok (.int .i64 n) w := fun A n cap => by simp [Builtin.len_, run_underlying hu, goInt]
    split at hop
    · obtain rfl := Option.some.inj hop
      cases hx with
      | lnil A cap => exact ⟨_, hrun _ _ _, by simpa using VRel.int .i64 0⟩
      | lst xs fs s ad len cap h0 => exact ⟨_, hrun _ _ _, by rw [h0]; exact .int _ _⟩
    · obtain rfl := Option.some.inj hop
      cases hx with
      | nil0 A => exact ⟨_, hrun _ _ _, by simpa using VRel.int .i64 0⟩
    · rename_i id tot off len
      split at hop
      · rename_i E s es hg
        split at hop
        · rename_i htot
          obtain rfl := Option.some.inj hop
          obtain ⟨cv, fs, h1, h2, h3, h4, h5⟩ := H.own_of_get hg
          cases hx with
          | sl _ _ _ _ _ ho hid hv =>
            obtain ⟨_, hv'⟩ := hv _ h1
            obtain ⟨_, A0, n0, cap0, A', hcv, rfl, hA⟩ := hv' htot.symm
            exact ⟨_, hrun _ _ _, .int _ _⟩
        · simp at hop
      · simp at hop
    · simp at hop
  · rename_i s hu
    obtain rfl := Option.some.inj hop
    cases hx
    exact ⟨.int .i64 s.size, by simp [Builtin.len_, run_underlying hu, goInt], .int _ _⟩
  · simp at hop

/-! ### x[lo:hi] -/
def bnd (d : Nat) : Option AV → Option Int
  | none => some d
  | some (.int _ n) => some n
  | _ => none

def opSlice (P : Program) (t : TypeId) (x : AV) (lo hi : Option AV) (h : Nat → Option Ob) : Option AV :=
  (sliceElem P t).bind fun e => if P.cellsOf e = 0 then none else
    match x with
    | .lst xs => (bnd 0 lo).bind fun l => (bnd xs.length hi).bind fun u =>
      if 0 ≤ l ∧ l ≤ u ∧ u ≤ xs.length ∧ (∀ v ∈ xs, v.cells.length = P.cellsOf e) then some (.lst ((xs.drop l.toNat).take (u.toNat - l.toNat))) else none
    | .sl id tot off len =>
      match h id with
      | some (.arr _ s es) => if es.length = tot ∧ s = P.cellsOf e then
          (bnd 0 lo).bind fun l => (bnd len hi).bind fun u => if 0 ≤ l ∧ l ≤ u ∧ u ≤ len then some (.sl id tot (off + l.toNat) (u.toNat - l.toNat)) else none
        else none
      | _ => none
    | .nil0 => (bnd 0 lo).bind fun l => (bnd 0 hi).bind fun u => if l = 0 ∧ u = 0 then some .nil0 else none
    | _ => none

theorem run_bnd {d : Nat} {lo : Option AV} {loC : Option Value} {l : Int} (hr : ∀ v, lo = some v → ∃ c, loC = some c ∧ VRel X w v c) (hn : lo = none → loC = none) (hb : bnd d lo = some l) :
    (lo = none ∧ loC = none ∧ l = d) ∨ ∃ k, loC = some (.int k l) := by
  cases lo with
  | none => exact .inl ⟨rfl, hn rfl, by simpa [bnd] using hb.symm⟩
  | some v =>
    obtain ⟨c, hc, hv⟩ := hr v rfl
    cases v <;> simp [bnd] at hb
    subst hb
    cases hv
    exact .inr ⟨_, hc⟩

theorem run_sliceAt {t e : TypeId} (hu : P.underlying t = some (.slice e)) (hz : P.cellsOf e ≠ 0) {A : Option Addr} {len cap : Nat} {lo hi : Option AV} {loC hiC : Option Value} {l u : Int}
    (hlr : ∀ v, lo = some v → ∃ c, loC = some c ∧ VRel X w v c) (hln : lo = none → loC = none) (hhr : ∀ v, hi = some v → ∃ c, hiC = some c ∧ VRel X w v c) (hhn : hi = none → hiC = none)
    (hl : bnd 0 lo = some l) (hh : bnd len hi = some u) (h0 : 0 ≤ l) (h1 : l ≤ u) (h2 : u ≤ cap) :
    (Instr.sliceAt t (.slice A len cap) loC hiC none).run P w = .ok (.slice (if cap = l.toNat then A else A.map (·.add (l.toNat * P.cellsOf e))) (u.toNat - l.toNat) (cap - l.toNat)) w := by
  have hsz := run_sizeOf_ne hz w
  have e1 : ∀ k, (Instr.sliceBound (.int k u) cap .sliceAcap).run P w = .ok u.toNat w := fun k => by simp [Instr.sliceBound, asIntOf, show 0 ≤ u by omega, h2]
  have e2 : ∀ k, (Instr.sliceBound (.int k l) u.toNat .sliceB).run P w = .ok l.toNat w := fun k => by simp [Instr.sliceBound, asIntOf, h0]; omega
  unfold Instr.sliceAt
  rw [Sem.run_bind, run_underlying hu w]
  simp only [Result.andThen_ok]
  unfold Instr.slice
  rw [Sem.run_bind, run_underlying hu w]
  simp only [Result.andThen_ok]
  rcases run_bnd hhr hhn hh with ⟨_, rfl, rfl⟩ | ⟨k2, rfl⟩ <;> rcases run_bnd hlr hln hl with ⟨_, rfl, rfl⟩ | ⟨k1, rfl⟩
  · simp [Instr.sliceBounds, hsz]
  · have e2' : ∀ k, (Instr.sliceBound (.int k l) len .sliceB).run P w = .ok l.toNat w := fun k => by have := e2 k; simpa using this
    simp [Instr.sliceBounds, hsz, e2']
  · simp [Instr.sliceBounds, hsz, e1]
  · simp [Instr.sliceBounds, hsz, e1, e2]

theorem opSlice_ok (H : HRel h X w) {t : TypeId} {x r : AV} {lo hi : Option AV} {c : Value} {loC hiC : Option Value} (hx : VRel X w x c)
    (hlr : ∀ v, lo = some v → ∃ c, loC = some c ∧ VRel X w v c) (hln : lo = none → loC = none) (hhr : ∀ v, hi = some v → ∃ c, hiC = some c ∧ VRel X w v c) (hhn : hi = none → hiC = none)
    (hop : opSlice P t x lo hi h.get = some r) : ∃ cv, (Instr.sliceAt t c loC hiC none).run P w = .ok cv w ∧ VRel X w r cv := by
  unfold opSlice at hop
  simp only [Option.bind_eq_some_iff] at hop
  obtain ⟨e, he, hop⟩ := hop
  have hu := sliceElem_spec he
  split at hop
  · simp at hop
  rename_i hz
  split at hop
  · rename_i xs
    simp only [Option.bind_eq_some_iff] at hop
    obtain ⟨l, hl, u, hh, hop⟩ := hop
    split at hop
    · rename_i hc
      obtain ⟨h0, h1, h2, hsz⟩ := hc
      obtain rfl := Option.some.inj hop
      cases hx with
      | lnil A cap =>
        simp only [List.length_nil] at h2 hh
        have hu0 : u = 0 := by omega
        have hl0 : l = 0 := by omega
        subst hu0; subst hl0
        exact ⟨_, run_sliceAt hu hz hlr hln hhr hhn hl hh h0 h1 (by omega), by simpa using VRel.lnil _ _⟩
      | lst _ fs s ad len cap h0' hcap hs hi' hf ho hw hr =>
        refine ⟨_, run_sliceAt hu hz hlr hln hhr hhn hl (by rw [← h0']; exact hh) h0 h1 (by omega), ?_⟩
        by_cases hlen : u.toNat - l.toNat = 0
        · rw [hlen]; simpa using VRel.lnil _ _
        · have hne : xs ≠ [] := by rintro rfl; simp at h2; omega
          obtain ⟨v, hv⟩ := List.exists_mem_of_ne_nil _ hne
          obtain rfl : s = P.cellsOf e := by rw [← (hs v hv).1, hsz v hv]
          have hs' : ∀ v ∈ xs, v.cells.length = P.cellsOf e := hsz
          rw [if_neg (by omega)]
          have hsub := (show VRelL X w (flat xs) fs from ⟨hf, hr⟩).sub (l.toNat * P.cellsOf e) ((u.toNat - l.toNat) * P.cellsOf e)
          have hfl : flat ((xs.drop l.toNat).take (u.toNat - l.toNat)) = ((flat xs).drop (l.toNat * P.cellsOf e)).take ((u.toNat - l.toNat) * P.cellsOf e) := by
            rw [flat_take (fun v hv => hs' v (List.mem_of_mem_drop hv)), flat_drop hs']
          refine .lst _ ((fs.drop (l.toNat * P.cellsOf e)).take ((u.toNat - l.toNat) * P.cellsOf e)) (P.cellsOf e) _ _ _ (by simp; omega) (by omega) (fun v hv => hs v (List.mem_of_mem_drop (List.mem_of_mem_take hv))) (by rw [add_block]; exact hi')
            (by rw [hfl]; exact hsub.1) (fun u hu => ho u (List.mem_of_mem_drop (List.mem_of_mem_take hu))) (fun j u hu => ?_) (by rw [hfl]; exact hsub.2)
          rw [List.getElem?_take] at hu
          split at hu
          · rw [add_add]; exact hw _ u (by simpa using hu)
          · simp at hu
    · simp at hop
  · rename_i id tot off len
    split at hop
    · rename_i E s es hg
      split at hop
      · rename_i hc
        obtain ⟨htot, rfl⟩ := hc
        simp only [Option.bind_eq_some_iff] at hop
        obtain ⟨l, hl, u, hh, hop⟩ := hop
        split at hop
        · rename_i hb
          obtain ⟨h0, h1, h2⟩ := hb
          obtain rfl := Option.some.inj hop
          obtain ⟨cv, fs, g1, g2, g3, g4, g5⟩ := H.own_of_get hg
          cases hx with
          | sl _ _ _ _ _ ho hid hv =>
            obtain ⟨_, hv'⟩ := hv _ g1
            obtain ⟨hle, A0, n0, cap0, A', hcv, rfl, hA⟩ := hv' htot.symm
            have hn0 : n0 = es.length ∧ es.length ≤ cap0 := by
              rcases g2 with ⟨A, rfl, g0, _⟩ | ⟨g, cap, rfl, gc, grow⟩
              · simp only [Value.slice.injEq] at hcv; omega
              · simp only [Value.slice.injEq] at hcv
                obtain ⟨rfl, rfl, rfl⟩ := hcv
                rcases grow.2 with ⟨h', _⟩ | ⟨g', cap', cur, h', _, _, hnc, _⟩
                · simp at h'
                · simp only [Value.slice.injEq, Option.some.injEq, Addr.mk.injEq, and_true, true_and] at h'
                  omega
            refine ⟨_, run_sliceAt hu hz hlr hln hhr hhn hl hh h0 h1 (by omega), ?_⟩
            refine .sl _ _ _ _ _ rfl hid fun r hr => ?_
            obtain rfl : _ = r := Option.some.inj (g1.symm.trans hr)
            refine ⟨by simp [htot], fun _ => ⟨by omega, A0, n0, cap0, (if cap0 - off = l.toNat then A' else A'.map (·.add (l.toNat * P.cellsOf e))), hcv, ?_, fun hne => ?_⟩⟩
            · rw [show cap0 - off - l.toNat = cap0 - (off + l.toNat) by omega]
            · rw [if_neg (by omega), hA (by omega)]
              simp [Option.map_map, Function.comp_def, add_add, Nat.add_mul]
        · simp at hop
      · simp at hop
    · simp at hop
  · simp only [Option.bind_eq_some_iff] at hop
    obtain ⟨l, hl, u, hh, hop⟩ := hop
    split at hop
    · rename_i hc
      obtain ⟨rfl, rfl⟩ := hc
      obtain rfl := Option.some.inj hop
      cases hx with
      | nil0 A => exact ⟨_, run_sliceAt hu hz hlr hln hhr hhn hl hh (by omega) (by omega) (by omega), by simpa using VRel.nil0 _⟩
    · simp at hop
  · simp at hop

/-! ### copy -/
def opCopy (P : Program) (t : TypeId) (dst src : AV) (h : Nat → Option Ob) : Option (AV × Ef) :=
  (sliceElem P t).bind fun e => if P.cellsOf e = 0 then none else
    (rdS h src).bind fun xs => if ∀ v ∈ xs, v.cells.length = P.cellsOf e then
      match dst with
      | .sl id tot off len =>
        match h id with
        | some (.arr E s es) => if es.length = tot ∧ s = P.cellsOf e ∧ off + len ≤ tot then
            some (.int .i64 (min xs.length len : Nat), .set id (.arr E s (es.take off ++ xs.take (min xs.length len) ++ es.drop (off + min xs.length len)))) else none
        | _ => none
      | _ => none
    else none

theorem set_same (H : HRel h X w) {id nid : Nat} {o : Ob} (hg : h.get id = some o) : h.app nid (.set id o) = h := by
  cases h with
  | mk get nx =>
    simp only [Hp.app, Hp.mk.injEq, and_true]
    funext j
    split
    · rename_i e; subst e; exact hg.symm
    · rfl

theorem opCopy_ok (H : HRel h X w) {nid : Nat} {t ty : TypeId} {d s r : AV} {ef : Ef} {cd cs : Value} (hd : VRel X w d cd) (hs : VRel X w s cs) (hop : opCopy P t d s h.get = some (r, ef)) :
    ∃ cv w', (Builtin.copy_ #[t, t] ty #[cd, cs]).run P w = .ok cv w' ∧ Ev X w X w' ∧ VRel X w' r cv ∧ HRel (h.app nid ef) X w' := by
  unfold opCopy at hop
  simp only [Option.bind_eq_some_iff] at hop
  obtain ⟨e, he, hop⟩ := hop
  have hu := sliceElem_spec he
  split at hop
  · simp at hop
  rename_i hz
  have hsz := fun w => run_sizeOf_ne hz w
  simp only [Option.bind_eq_some_iff] at hop
  obtain ⟨xs, hxs, hop⟩ := hop
  split at hop
  · rename_i hxsz
    obtain ⟨news, A, capx, S⟩ := rdS_ok H hs hxs hxsz
    obtain rfl := S.eq
    split at hop
    · rename_i id tot off len
      split at hop
      · rename_i E s' es hg
        split at hop
        · rename_i hc
          obtain ⟨htot, rfl, hle⟩ := hc
          obtain ⟨rfl, rfl⟩ := Prod.mk.inj (Option.some.inj hop)
          obtain ⟨cv, fs, g1, g2, g3, g4, g5⟩ := H.own_of_get hg
          cases hd with
          | sl _ _ _ _ _ ho hid hv =>
            obtain ⟨_, hv'⟩ := hv _ g1
            obtain ⟨_, A0, n0, cap0, A', hcv, rfl, hA⟩ := hv' htot.symm
            have hnz : ∀ B : Option Addr, (Builtin.firstCells (P.cellsOf e) 0 (.slice B xs.length capx)).run P w = .ok #[] w := by
              intro B; cases B <;> simp [Builtin.firstCells, loadCells, loadCellsFrom]
            by_cases hm : min xs.length len = 0
            · have hsame : es.take off ++ xs.take (min xs.length len) ++ es.drop (off + min xs.length len) = es := by simp [hm]
              rw [hsame, set_same H hg]
              refine ⟨.int .i64 0, w, ?_, Ev.refl X w, by rw [hm]; exact .int _ _, H⟩
              have hm' : Nat.min xs.length len = 0 := hm
              cases A' <;> simp [Builtin.copy_, run_underlying hu, Builtin.lenOf, hm', hsz, hnz, goInt, storeCells]
            · have hne : es ≠ [] := by rintro rfl; simp at htot; omega
              obtain ⟨g, cap, fs', g1', hcap, grow, g3', g4', g5', hcell⟩ := H.opened hg hne
              have := Option.some.inj (g1.symm.trans g1')
              simp only [Rec.mk.injEq, true_and] at this
              subst this
              simp only [Value.slice.injEq] at hcv
              obtain ⟨rfl, rfl, rfl⟩ := hcv
              have hcapo : cap ≠ off := by
                rcases grow.2 with ⟨h', _⟩ | ⟨g', cap', cur, h', _, _, hnc, _⟩
                · simp at h'
                · simp only [Value.slice.injEq, Option.some.injEq, Addr.mk.injEq, and_true, true_and] at h'
                  omega
              obtain rfl := hA hcapo
              obtain ⟨ad, rfl, hsrc⟩ := S.cell (by rintro rfl; simp at hm)
              obtain ⟨m, hmd⟩ : ∃ m, m = min xs.length len := ⟨_, rfl⟩
              have hmd' : Nat.min xs.length len = m := hmd.symm
              rw [← hmd] at hm ⊢
              have hml : m ≤ xs.length := by omega
              have hmr : m ≤ len := by omega
              have htk : (news.take (m * P.cellsOf e)).length = m * P.cellsOf e := by
                rw [List.length_take, S.len]; exact Nat.min_eq_left (Nat.mul_le_mul_right _ hml)
              have hfc := run_firstCells_some (P := P) w (P.cellsOf e) m ad xs.length capx (news.take (m * P.cellsOf e)) htk (fun j v hv => by
                rw [List.getElem?_take] at hv
                split at hv
                · exact hsrc j v hv
                · simp at hv)
              have hrelx : VRelL X w (flat (xs.take m)) (news.take (m * P.cellsOf e)) := by rw [flat_take hxsz]; exact S.rel.take _
              have hes : ∀ v ∈ es, v.cells.length = P.cellsOf e := fun v hv => (g3 v hv).1
              have hxm : (xs.take m).length = m := by simp; omega
              obtain ⟨w', hst, hH, hE⟩ := splice_ok (P := P) (nid := nid) (o := off * P.cellsOf e) (vs := news.take (m * P.cellsOf e)) (as := flat (xs.take m)) (es' := es.take off ++ xs.take m ++ es.drop (off + m)) H hg g1 hcap grow g4' g5'
                (by rw [htk, ← Nat.add_mul]; exact Nat.mul_le_mul_right _ (by omega)) (fun u hu => S.one u (List.mem_of_mem_take hu)) hrelx
                (by rw [flat_append, flat_append, flat_take hes, flat_drop hes, flat_length (es := xs.take m) (s := P.cellsOf e) (fun v hv => hxsz v (List.mem_of_mem_take hv)), hxm, ← Nat.add_mul])
                (by simp; omega)
                (fun v hv => by
                  simp only [List.mem_append] at hv
                  rcases hv with (h | h) | h
                  · exact g3 v (List.mem_of_mem_take h)
                  · exact ⟨hxsz v (List.mem_of_mem_take h), S.okc v (List.mem_of_mem_take h)⟩
                  · exact g3 v (List.mem_of_mem_drop h))
              refine ⟨.int .i64 m, w', ?_, hE, .int _ _, hH⟩
              simp [Builtin.copy_, run_underlying hu, Builtin.lenOf, hmd', hsz, hfc, goInt, add_at, hst]
        · simp at hop
      · simp at hop
    · simp at hop
  · simp at hop

/-! ### == of bools, arrays, structs -/
def eqT (P : Program) : Nat → TypeId → AV → AV → Option Bool
  | 0, _, _, _ => none
  | d + 1, t, x, y =>
    match P.underlying t with
    | some .bool => (match x, y with
      | .bool a, .bool b => some (a == b)
      | _, _ => none)
    | some (.int _) => (match x, y with
      | .int k a, .int k' b => if k = k' then some (a == b) else none
      | _, _ => none)
    | some .string => (match x, y with
      | .str a, .str b => some (a == b)
      | _, _ => none)
    | some (.array n e) => (match x, y with
      | .agg xs, .agg ys => if (P.info? e).isSome = true then (List.range n).foldr (fun i acc => (partA P e xs (i * P.cellsOf e)).bind fun a => (partA P e ys (i * P.cellsOf e)).bind fun b => (eqT P d e a b).bind fun r => if r = true then acc else some false) (some true) else none
      | _, _ => none)
    | some (.struct fs) => (match x, y with
      | .agg xs, .agg ys => if P.stoodInHeld t = false then fs.toList.foldr (fun f acc => if f.name ≠ "_" then (partA P f.type xs f.offset).bind fun a => (partA P f.type ys f.offset).bind fun b => (eqT P d f.type a b).bind fun r => if r = true then acc else some false else none) (some true) else none
      | _, _ => none)
    | _ => none

theorem eqT_ok : ∀ (d : Nat) {t : TypeId} {x y : AV} {c c' : Value} {r : Bool}, VRel X w x c → VRel X w y c' → eqT P d t x y = some r → ∀ k, (Op.equalIn (d + k) t c c').run P w = .ok r w
  | 0, t, x, y, c, c', r, hx, hy, h, k => by simp [eqT] at h
  | d + 1, t, x, y, c, c', r, hx, hy, hh, k => by
    rw [show d + 1 + k = d + k + 1 by omega]
    unfold eqT at hh
    split at hh
    · rename_i hu
      split at hh
      · cases hx; cases hy
        obtain rfl := Option.some.inj hh
        exact run_equalIn_bool w (d + k) t _ _ hu
      · simp at hh
    · rename_i kk hu
      split at hh
      · cases hx; cases hy
        split at hh
        · rename_i e; subst e
          obtain rfl := Option.some.inj hh
          exact run_equalIn_int w (d + k) t _ kk _ _ hu
        · simp at hh
      · simp at hh
    · rename_i hu
      split at hh
      · cases hx; cases hy
        obtain rfl := Option.some.inj hh
        rw [beq_toListBytes]
        exact run_equalIn_string w (d + k) t _ _ hu
      · simp at hh
    · rename_i n e hu
      split at hh
      · rename_i xs ys
        split at hh
        · rename_i hinf
          obtain ⟨i, hi⟩ := Option.isSome_iff_exists.1 hinf
          cases hx with
          | agg _ cs hl ho hr =>
            cases hy with
            | agg _ ds hl' ho' hr' =>
              rw [run_equalIn_array w (d + k) cs ds hu hi]
              have hrx : VRelL X w xs cs.toList := ⟨by simpa using hl, fun j a c ha hc => hr j a c ha (by simpa using hc)⟩
              have hry : VRelL X w ys ds.toList := ⟨by simpa using hl', fun j a c ha hc => hr' j a c ha (by simpa using hc)⟩
              generalize List.range n = is at hh
              induction is generalizing r with
              | nil => obtain rfl := Option.some.inj hh; simp [Op.eqItems]
              | cons j is ih =>
                simp only [List.foldr_cons, Option.bind_eq_some_iff] at hh
                obtain ⟨a, ha, b, hb, q, hq, hh⟩ := hh
                obtain ⟨ca, h1, h2⟩ := run_part (P := P) hrx ho ha
                obtain ⟨cb, h3, h4⟩ := run_part (P := P) hry ho' hb
                have h5 := eqT_ok d h2 h4 hq k
                simp only [Op.eqItems, Sem.run_bind, h1, Result.andThen_ok, h3, h5]
                cases q
                · simp at hh; subst hh; simp
                · simp only [if_true] at hh
                  simpa using ih _ hh
        · simp at hh
      · simp at hh
    · rename_i fs hu
      split at hh
      · rename_i xs ys
        split at hh
        · rename_i hst
          cases hx with
          | agg _ cs hl ho hr =>
            cases hy with
            | agg _ ds hl' ho' hr' =>
              have hfo : P.fieldsOf t = fs := by simp [Program.fieldsOf, hu]
              rw [run_equalIn_struct w (d + k) t cs ds (by rw [hfo]; exact hu) hst, hfo]
              have hrx : VRelL X w xs cs.toList := ⟨by simpa using hl, fun j a c ha hc => hr j a c ha (by simpa using hc)⟩
              have hry : VRelL X w ys ds.toList := ⟨by simpa using hl', fun j a c ha hc => hr' j a c ha (by simpa using hc)⟩
              generalize fs.toList = fl at hh
              induction fl generalizing r with
              | nil => obtain rfl := Option.some.inj hh; simp [Op.eqFields]
              | cons f fl ih =>
                simp only [List.foldr_cons] at hh
                split at hh
                · rename_i hn
                  simp only [Option.bind_eq_some_iff] at hh
                  obtain ⟨a, ha, b, hb, q, hq, hh⟩ := hh
                  obtain ⟨ca, h1, h2⟩ := run_part (P := P) hrx ho ha
                  obtain ⟨cb, h3, h4⟩ := run_part (P := P) hry ho' hb
                  have h5 := eqT_ok d h2 h4 hq k
                  simp only [Op.eqFields, hn, ne_eq, not_false_eq_true, if_true, Sem.run_bind, h1, Result.andThen_ok, h3, h5]
                  cases q
                  · simp at hh; subst hh; simp
                  · simp only [if_true] at hh
                    simpa using ih _ hh
                · simp at hh
        · simp at hh
      · simp at hh
    · simp at hh

def isBoolT (P : Program) (t : TypeId) : Bool :=
  match P.underlying t with
  | some .bool => true
  | _ => false

theorem isBoolT_spec {t : TypeId} (h : isBoolT P t = true) : P.underlying t = some .bool := by
  unfold isBoolT at h
  split at h <;> simp_all

def opEq (P : Program) (op : BinOp) (t : TypeId) (x y : AV) : Option AV :=
  match op, x, y with
  | .eql, .bool a, .bool b => if isBoolT P t = true then some (.bool (a == b)) else none
  | .neq, .bool a, .bool b => if isBoolT P t = true then some (.bool (!(a == b))) else none
  | .eql, .agg xs, .agg ys => if P.eqGuardType P.depth t = false then (eqT P 10 t (.agg xs) (.agg ys)).map .bool else none
  | .neq, .agg xs, .agg ys => if P.eqGuardType P.depth t = false then (eqT P 10 t (.agg xs) (.agg ys)).map fun b => .bool (!b) else none
  | _, _, _ => none

theorem opEq_ok {op : BinOp} {t : TypeId} {x y r : AV} {ox oy : Operand} {c d : Value} (hx : VRel X w x c) (hy : VRel X w y d) (hop : opEq P op t x y = some r) :
    ∃ cv, (do eqGuard op t ox oy c d; binOp op t c d : Sem Value).run P w = .ok cv w ∧ VRel X w r cv := by
  unfold opEq at hop
  split at hop
  · split at hop
    · rename_i hu
      cases hx; cases hy
      obtain rfl := Option.some.inj hop
      exact ⟨_, by simp [eqGuard, binOp, run_equal_bool w t _ _ (isBoolT_spec hu)], .bool _⟩
    · simp at hop
  · split at hop
    · rename_i hu
      cases hx; cases hy
      obtain rfl := Option.some.inj hop
      exact ⟨_, by simp [eqGuard, binOp, run_equal_bool w t _ _ (isBoolT_spec hu)], .bool _⟩
    · simp at hop
  · split at hop
    · rename_i hg
      simp only [Option.map_eq_some_iff] at hop
      obtain ⟨b, hb, rfl⟩ := hop
      have h1 := eqT_ok 10 hx hy hb 9990
      cases hx; cases hy
      refine ⟨.bool b, ?_, .bool _⟩
      have h2 : ∀ xs ys, (eqGuard .eql t ox oy (.agg xs) (.agg ys)).run P w = .ok () w := fun xs ys => by simp [eqGuard, hg]
      rw [Sem.run_bind, h2]
      simp only [Result.andThen_ok, binOp, Op.equal, Op.maxDepth, Sem.run_bind, Sem.run_pure]
      simp only [Nat.reduceAdd] at h1
      rw [h1]
      rfl
    · simp at hop
  · split at hop
    · rename_i hg
      simp only [Option.map_eq_some_iff] at hop
      obtain ⟨b, hb, rfl⟩ := hop
      have h1 := eqT_ok 10 hx hy hb 9990
      cases hx; cases hy
      refine ⟨.bool (!b), ?_, .bool _⟩
      have h2 : ∀ xs ys, (eqGuard .neq t ox oy (.agg xs) (.agg ys)).run P w = .ok () w := fun xs ys => by simp [eqGuard, hg]
      rw [Sem.run_bind, h2]
      simp only [Result.andThen_ok, binOp, Op.equal, Op.maxDepth, Sem.run_bind, Sem.run_pure]
      simp only [Nat.reduceAdd] at h1
      rw [h1]
      rfl
    · simp at hop
  · simp at hop
end
end Go.Proofs.YtfdfkmcplhloaaaGreat
end
