/- The abstract logic, part 8m: maps: made, looked up, written. Own work; over whatever program P.
  The abstract logic, part 9: frames, and one operation. Own work; over whatever program P.
  The abstract logic, part 10: calls, regions in the order of the text, and the rest of a function. Own work; over whatever program P.
  The abstract logic, part 11: the rest of a function, its rules; a function's contract out of its body. Own work; over whatever program P.
  The abstract logic, part 12: the words by which simp carries out operations. Own work; over whatever program P.
  The abstract logic, part 13: values without ids, what is lent and frozen, and calls whose callee is proved at the empty heap. Own work; over whatever program P.
  The abstract logic, part 14: contracts out of the empty heap, and what a call leaves that is new. Own work; over whatever program P.
  The abstract logic, part 15: what an operation looks at, and regions that are carried out in any order. Own work; over whatever program P.
  The abstract logic, part 16: regions that are carried out in any order. Own work; over whatever program P. -/
import Derived.Test.YtfdfkmcplhloaaaGreatB1
import Derived.MapKept
import Derived.RangeFuncRecord
import Derived.RangeFuncCalls
section
set_option linter.unusedSimpArgs false
set_option linter.unusedVariables false
namespace Go.Proofs.YtfdfkmcplhloaaaGreat
section
variable {P : Program} {X : Cx} {w : World} {h : Hp}

/-- Where a key stands among others; none: it cannot be told. -/
def findA (P : Program) (kt : TypeId) (k : AV) : List AV → Nat → Option (Option Nat)
  | [], _ => some none
  | y :: ys, i => (eqT P 10 kt k y).bind fun b => if b = true then some (some i) else findA P kt k ys (i + 1)

def FoundAt (es : List MapEntry) (i : Nat) (r : Option Nat) (o : Option (Nat × Value)) : Prop :=
  match r with
  | none => o = none
  | some j => ∃ e, i ≤ j ∧ es[j - i]? = some e ∧ o = some (j, e.val)

theorem sameNow_eqT {kt : TypeId} {d : TypeDesc} (hd : P.underlying kt = some d) {x y : AV} {c c' : Value} {b : Bool} (hx : VRel X w x c) (hy : VRel X w y c') (h : eqT P 10 kt x y = some b) :
    Instr.sameNow d c c' = some b ∨ Instr.sameNow d c c' = none := by
  unfold eqT at h
  rw [hd] at h
  split at h
  · rename_i e
    obtain rfl := Option.some.inj e
    split at h
    · cases hx; cases hy; left; simpa [Instr.sameNow] using h
    · simp at h
  · rename_i e
    obtain rfl := Option.some.inj e
    split at h
    · cases hx; cases hy
      split at h
      · rename_i e; subst e; left; simpa [Instr.sameNow] using h
      · simp at h
    · simp at h
  · rename_i e
    obtain rfl := Option.some.inj e
    split at h
    · cases hx; cases hy; left; simpa [Instr.sameNow] using h
    · simp at h
  · rename_i e
    obtain rfl := Option.some.inj e
    right; cases c <;> cases c' <;> rfl
  · rename_i e
    obtain rfl := Option.some.inj e
    right; cases c <;> cases c' <;> rfl
  · simp at h

theorem findA_ok {kt : TypeId} {d : TypeDesc} (hd : P.underlying kt = some d) {x : AV} {c : Value} (hx : VRel X w x c) : ∀ (ks : List AV) (es : List MapEntry) (i : Nat) (r : Option Nat), es.length = ks.length →
    (∀ (j : Nat) a c', ks[j]? = some a → (es[j]?).map MapEntry.key = some c' → VRel X w a c') → findA P kt x ks i = some r →
    ∃ o, FoundAt es i r o ∧ (Instr.findAsking kt c es i).run P w = .ok o w ∧ (Instr.findNow d c es i = none ∨ Instr.findNow d c es i = some o)
  | [], [], i, r, _, _, h => by
    obtain rfl := Option.some.inj h
    exact ⟨none, rfl, by simp [Instr.findAsking], .inr rfl⟩
  | [], _ :: _, _, _, hl, _, _ => by simp at hl
  | _ :: _, [], _, _, hl, _, _ => by simp at hl
  | y :: ys, e :: es, i, r, hl, hk, h => by
    simp only [findA, Option.bind_eq_some_iff] at h
    obtain ⟨b, hb, h⟩ := h
    have hy := hk 0 y e.key rfl rfl
    have h1 := eqT_ok 10 hx hy hb 9990
    have h1' : (Op.equal kt c e.key).run P w = .ok b w := by
      simp only [Op.equal, Op.maxDepth]
      exact h1
    have h2 := sameNow_eqT hd hx hy hb
    cases b with
    | true =>
      simp only [if_true, Option.some.injEq] at h
      subst h
      refine ⟨some (i, e.val), ⟨e, Nat.le_refl _, by simp, rfl⟩, by simp [Instr.findAsking, Sem.run_bind, h1'], ?_⟩
      rcases h2 with h2 | h2
      · right; simp [Instr.findNow, h2]
      · left; simp [Instr.findNow, h2]
    | false =>
      simp only [Bool.false_eq_true, if_false] at h
      obtain ⟨o, g1, g2, g3⟩ := findA_ok hd hx ys es (i + 1) r (by simpa using hl) (fun j a c' ha hc => hk (j + 1) a c' (by simpa using ha) (by simpa using hc)) h
      refine ⟨o, ?_, by simp [Instr.findAsking, Sem.run_bind, h1', g2], ?_⟩
      · unfold FoundAt at g1 ⊢
        split at g1
        · exact g1
        · rename_i j
          obtain ⟨e', k1, k2, k3⟩ := g1
          exact ⟨e', by omega, by rw [show j - i = (j - (i + 1)) + 1 by omega]; simpa using k2, k3⟩
      · rcases h2 with h2 | h2
        · simp only [Instr.findNow, h2]; exact g3
        · left; simp [Instr.findNow, h2]

theorem run_findKeyA {kt : TypeId} {x : AV} {c : Value} (hx : VRel X w x c) {ks : List AV} {es : List MapEntry} {r : Option Nat} (hl : es.length = ks.length) {d : TypeDesc} (hd : P.underlying kt = some d)
    (hk : ∀ (j : Nat) a c', ks[j]? = some a → (es[j]?).map MapEntry.key = some c' → VRel X w a c') (h : findA P kt x ks 0 = some r) :
    ∃ o, FoundAt es 0 r o ∧ (Instr.findKey kt c es).run P w = .ok o w := by
  obtain ⟨o, g1, g2, g3⟩ := findA_ok hd hx ks es 0 r hl hk h
  refine ⟨o, g1, ?_⟩
  unfold Instr.findKey
  rw [Sem.run_bind, run_underlying hd]
  simp only [Result.andThen_ok]
  rcases g3 with g3 | g3
  · rw [g3]; exact g2
  · rw [g3]; simp

/-- A key of which == can be asked can be hashed. -/
theorem check_of_eqT (em : Bool) : ∀ (d : Nat) {t : TypeId} {x : AV} {c : Value}, VRel X w x c → eqT P d t x x = some true → ∀ k, (Instr.checkKey em (d + k) t c).run P w = .ok () w
  | 0, t, x, c, hx, h, k => by simp [eqT] at h
  | d + 1, t, x, c, hx, hh, k => by
    rw [show d + 1 + k = d + k + 1 by omega]
    unfold eqT at hh
    unfold Instr.checkKey
    split at hh
    · rename_i hu
      split at hh
      · cases hx; simp [Sem.run_bind, run_underlying hu]
      · simp at hh
    · rename_i kk hu
      split at hh
      · cases hx; simp [Sem.run_bind, run_underlying hu]
      · simp at hh
    · rename_i hu
      split at hh
      · cases hx; simp [Sem.run_bind, run_underlying hu]
      · simp at hh
    · rename_i n e hu
      split at hh
      · rename_i xs
        split at hh
        · rename_i hinf
          obtain ⟨i, hi⟩ := Option.isSome_iff_exists.1 hinf
          cases hx with
          | agg _ cs hl ho hr =>
            have hrx : VRelL X w xs cs.toList := ⟨by simpa using hl, fun j a c ha hc => hr j a c ha (by simpa using hc)⟩
            rw [Sem.run_bind, run_underlying hu]
            simp only [Result.andThen_ok, Std.Legacy.Range.forIn_eq_forIn_range', Std.Legacy.Range.size, Nat.sub_zero, Nat.add_one_sub_one, Nat.div_one]
            rw [List.range_eq_range'] at hh
            generalize List.range' 0 n = is at hh
            induction is with
            | nil => simp
            | cons j is ih =>
              simp only [List.foldr_cons, Option.bind_eq_some_iff] at hh
              obtain ⟨a, ha, b, hb, q, hq, hh⟩ := hh
              obtain rfl : a = b := by rw [ha] at hb; exact Option.some.inj hb
              obtain ⟨ca, h1, h2⟩ := run_part (P := P) hrx ho ha
              cases q with
              | false => simp at hh
              | true =>
                have h5 := check_of_eqT em d h2 hq k
                have hsz : (sizeOf e).run P w = .ok (P.cellsOf e) w := by simp [sizeOf, typeInfo, hi, Program.cellsOf]
                simp only [if_true] at hh
                have ih' := ih hh
                simp only [Sem.run_bind] at ih'
                simp only [List.forIn_cons, Sem.run_bind, hsz, Result.andThen_ok, h1, h5, Sem.run_pure]
                exact ih'
        · simp at hh
      · simp at hh
    · rename_i fs hu
      split at hh
      · rename_i xs
        split at hh
        · rename_i hst
          cases hx with
          | agg _ cs hl ho hr =>
            have hrx : VRelL X w xs cs.toList := ⟨by simpa using hl, fun j a c ha hc => hr j a c ha (by simpa using hc)⟩
            rw [Sem.run_bind, run_underlying hu]
            simp only [Result.andThen_ok]
            rw [← Array.forIn_toList]
            generalize fs.toList = fl at hh
            induction fl with
            | nil => simp
            | cons f fl ih =>
              simp only [List.foldr_cons] at hh
              split at hh
              · rename_i hn
                simp only [Option.bind_eq_some_iff] at hh
                obtain ⟨a, ha, b, hb, q, hq, hh⟩ := hh
                obtain rfl : a = b := by rw [ha] at hb; exact Option.some.inj hb
                obtain ⟨ca, h1, h2⟩ := run_part (P := P) hrx ho ha
                cases q with
                | false => simp at hh
                | true =>
                  have h5 := check_of_eqT em d h2 hq k
                  simp only [if_true] at hh
                  have ih' := ih hh
                  simp only [Sem.run_bind] at ih'
                  rw [List.forIn_cons, if_pos hn]
                  simp only [Sem.run_bind, Result.andThen_ok, h1, h5, Sem.run_pure]
                  exact ih'
              · simp at hh
        · simp at hh
      · simp at hh
    · simp at hh

theorem run_checkA {em : Bool} {kt : TypeId} {x : AV} {c : Value} (hx : VRel X w x c) (h : eqT P 10 kt x x = some true) : (Instr.checkKey em 10000 kt c).run P w = .ok () w := check_of_eqT em 10 hx h 9990

def mapKV (t : TypeId) (P : Program) : Option (TypeId × TypeId) :=
  match P.underlying t with
  | some (.map k e) => some (k, e)
  | _ => none
theorem mapKV_spec {t k e : TypeId} (h : mapKV t P = some (k, e)) : P.underlying t = some (.map k e) := by
  unfold mapKV at h
  split at h <;> simp_all

/-- What a look-up yields, out of the keys and the elements. -/
def lookA (P : Program) (kt et : TypeId) (ks vs : List AV) (k : AV) (ok : Bool) : Option AV :=
  if eqT P 10 kt k k = some true then
    (findA P kt k ks 0).bind fun r =>
      ((match r with
        | some j => (vs[j]?).map fun v => (v, true)
        | none => (zeroA P et).map fun z => (z, false)) : Option (AV × Bool)).map fun p => if ok = true then .tup [p.1, .bool p.2] else p.1
  else none

def opLookup (P : Program) (t : TypeId) (m k : AV) (ok : Bool) (g : Nat → Option Ob) : Option AV :=
  (mapKV t P).bind fun p =>
    match m with
    | .map id => (match g id with
      | some (.map _ _ ks vs) => lookA P p.1 p.2 ks vs k ok
      | _ => none)
    | .cmap ks vs => lookA P p.1 p.2 ks vs k ok
    | _ => none

theorem run_zeroA {t : TypeId} {z : AV} (hz : zeroA P t = some z) : ∃ cv, (zeroValue t).run P w = .ok cv w ∧ VRel X w z cv := by
  obtain ⟨i, v, hi, hv, rfl⟩ := zeroA_spec hz
  refine ⟨v, ?_, ofConst_rel X w v⟩
  unfold zeroValue typeInfo
  simp only [Sem.run_bind, run_program, Result.andThen_ok, hi, hv, Sem.run_pure]

theorem run_lookA {t kt et : TypeId} (ht : P.underlying t = some (.map kt et)) {ks vs : List AV} {k r : AV} {ok : Bool} {ck : Value} {b clock : Nat} {es : Array MapEntry} (hb : w.heap[b]? = some (.map es clock)) (hk : VRel X w k ck)
    (h1 : es.size = ks.length) (h2 : es.size = vs.length) (r1 : ∀ (j : Nat) a c, ks[j]? = some a → (es[j]?).map MapEntry.key = some c → VRel X w a c) (r2 : ∀ (j : Nat) a c, vs[j]? = some a → (es[j]?).map MapEntry.val = some c → VRel X w a c)
    (h : lookA P kt et ks vs k ok = some r) : ∃ cv, (Instr.lookup t (.map (some b)) ck ok).run P w = .ok cv w ∧ VRel X w r cv := by
  unfold lookA at h
  split at h
  · rename_i hkk
    simp only [Option.bind_eq_some_iff, Option.map_eq_some_iff] at h
    obtain ⟨o, ho, p, hp, rfl⟩ := h
    have hd : ∃ d, P.underlying kt = some d := by
      cases hu : P.underlying kt with
      | none => simp [eqT, hu] at hkk
      | some d => exact ⟨d, rfl⟩
    obtain ⟨d, hd⟩ := hd
    obtain ⟨fo, g1, g2⟩ := run_findKeyA (es := es.toList) hk (by simpa using h1) hd (fun j a c ha hc => r1 j a c ha (by simpa using hc)) ho
    have hchk := run_checkA (em := es.isEmpty) hk hkk
    have fin : ∃ cv, VRel X w p.1 cv ∧ (Instr.lookup t (.map (some b)) ck ok).run P w = .ok (if ok = true then .tuple #[cv, .bool p.2] else cv) w := by
      unfold Instr.lookup
      cases o with
      | some j =>
        simp only [Option.map_eq_some_iff] at hp
        obtain ⟨v, hv, rfl⟩ := hp
        obtain ⟨e, _, k2, rfl⟩ := g1
        refine ⟨e.val, r2 j v e.val hv (by simp only [Nat.sub_zero, Array.getElem?_toList] at k2; rw [k2]; rfl), ?_⟩
        simp only [Sem.run_bind, run_underlying ht, Result.andThen_ok, MapKept.run_getObj_map hb, Sem.run_pure, hchk, g2]
      | none =>
        simp only [Option.map_eq_some_iff] at hp
        obtain ⟨z, hz, rfl⟩ := hp
        obtain rfl := g1
        obtain ⟨cz, k1, k2⟩ := run_zeroA (X := X) (w := w) hz
        refine ⟨cz, k2, ?_⟩
        simp only [Sem.run_bind, run_underlying ht, Result.andThen_ok, MapKept.run_getObj_map hb, Sem.run_pure, hchk, g2, k1]
    obtain ⟨cv, k1, k2⟩ := fin
    refine ⟨_, k2, ?_⟩
    cases ok with
    | false => simpa using k1
    | true =>
      simp only [if_true]
      refine .tup _ _ rfl fun j a c ha hc => ?_
      match j with
      | 0 => simp at ha hc; subst ha; subst hc; exact k1
      | 1 => simp at ha hc; subst ha; subst hc; exact .bool _
      | j + 2 => simp at ha
  · simp at h

theorem opLookup_ok (H : HRel h X w) {t : TypeId} {m k r : AV} {ok : Bool} {cm ck : Value} (hm : VRel X w m cm) (hk : VRel X w k ck) (hop : opLookup P t m k ok h.get = some r) : ∃ cv, (Instr.lookup t cm ck ok).run P w = .ok cv w ∧ VRel X w r cv := by
  simp only [opLookup, Option.bind_eq_some_iff] at hop
  obtain ⟨⟨kt, et⟩, ht, hop⟩ := hop
  have ht := mapKV_spec ht
  split at hop
  · rename_i id
    split at hop
    · rename_i kt' et' ks vs hg
      obtain ⟨b, es, clock, k1, k2, k3, k4, k5, k6⟩ := H.obj id _ hg
      cases hm with
      | map _ _ ho hid hv =>
        obtain rfl := hv _ k1 rfl
        exact run_lookA ht k2 hk k3 k4 k5 k6 hop
    · simp at hop
  · rename_i ks vs
    cases hm with
    | cmap _ _ b es clock hi hb h1 h2 r1 r2 => exact run_lookA ht hb hk h1 h2 r1 r2 hop
  · simp at hop

def bit1 : AV → AV → Bool
  | .int k a, .int k' b => decide (k = k') && a == b
  | .bool a, .bool b => a == b
  | .str a, .str b => decide (a = b)
  | _, _ => false
def bitsA : AV → AV → Bool
  | .agg xs, .agg ys => xs.length == ys.length && (xs.zip ys).all fun p => bit1 p.1 p.2
  | x, y => bit1 x y

theorem bit1_ok {n : Nat} {x y : AV} {c c' : Value} (hx : VRel X w x c) (hy : VRel X w y c') (h : bit1 x y = true) : Instr.sameBits n c c' = true ∧ x = y := by
  unfold bit1 at h
  split at h
  · cases hx; cases hy
    simp only [Bool.and_eq_true, decide_eq_true_eq, beq_iff_eq] at h
    obtain ⟨rfl, rfl⟩ := h
    exact ⟨by simp [Instr.sameBits], rfl⟩
  · cases hx; cases hy
    simp only [beq_iff_eq] at h
    subst h
    exact ⟨by simp [Instr.sameBits], rfl⟩
  · cases hx; cases hy
    simp only [decide_eq_true_eq] at h
    subst h
    exact ⟨by simp [Instr.sameBits, MapKept.bytes_beq], rfl⟩
  · simp at h

theorem zip_bits {n : Nat} : ∀ {xs ys : List AV} {cs ds : List Value}, VRelL X w xs cs → VRelL X w ys ds → xs.length = ys.length → ((xs.zip ys).all fun p => bit1 p.1 p.2) = true → ((cs.zip ds).all fun p => Instr.sameBits n p.1 p.2) = true ∧ xs = ys
  | [], [], cs, ds, h1, h2, _, _ => by
    obtain rfl : cs = [] := List.eq_nil_of_length_eq_zero (by simpa using h1.1)
    exact ⟨rfl, rfl⟩
  | [], _ :: _, _, _, _, _, hl, _ => by simp at hl
  | _ :: _, [], _, _, _, _, hl, _ => by simp at hl
  | x :: xs, y :: ys, cs, ds, h1, h2, hl, h => by
    obtain ⟨c, cs, rfl⟩ : ∃ c l, cs = c :: l := by
      cases cs with
      | nil => simp [VRelL] at h1
      | cons c l => exact ⟨c, l, rfl⟩
    obtain ⟨d, ds, rfl⟩ : ∃ c l, ds = c :: l := by
      cases ds with
      | nil => simp [VRelL] at h2
      | cons c l => exact ⟨c, l, rfl⟩
    simp only [List.zip_cons_cons, List.all_cons, Bool.and_eq_true] at h ⊢
    obtain ⟨g1, g2⟩ := bit1_ok (n := n) (h1.2 0 x c rfl rfl) (h2.2 0 y d rfl rfl) h.1
    obtain ⟨g3, g4⟩ := zip_bits (n := n) (cs := cs) (ds := ds) ⟨by simpa using h1.1, fun j a c ha hc => h1.2 (j + 1) a c (by simpa using ha) (by simpa using hc)⟩ ⟨by simpa using h2.1, fun j a c ha hc => h2.2 (j + 1) a c (by simpa using ha) (by simpa using hc)⟩ (by simpa using hl) h.2
    exact ⟨⟨g1, g3⟩, by rw [g2, g4]⟩

theorem bits_ok {n : Nat} {x y : AV} {c c' : Value} (hx : VRel X w x c) (hy : VRel X w y c') (h : bitsA x y = true) : Instr.sameBits (n + 1) c c' = true ∧ x = y := by
  unfold bitsA at h
  split at h
  · rename_i xs ys
    cases hx with
    | agg _ cs hl ho hr =>
      cases hy with
      | agg _ ds hl' ho' hr' =>
        simp only [Bool.and_eq_true, beq_iff_eq] at h
        obtain ⟨g1, g2⟩ := zip_bits (n := n) (cs := cs.toList) (ds := ds.toList) ⟨by simpa using hl, fun j a c ha hc => hr j a c ha (by simpa using hc)⟩ ⟨by simpa using hl', fun j a c ha hc => hr' j a c ha (by simpa using hc)⟩ h.1 h.2
        refine ⟨?_, by rw [g2]⟩
        unfold Instr.sameBits
        simp only [Bool.and_eq_true, beq_iff_eq]
        exact ⟨by omega, g1⟩
  · exact bit1_ok hx hy h

/-- The keys and the elements of a map that is written at a key. -/
def updA (P : Program) (kt : TypeId) (ks vs : List AV) (k v : AV) : Option (List AV × List AV) :=
  if eqT P 10 kt k k = some true then
    (findA P kt k ks 0).bind fun r =>
      match r with
      | some j => (ks[j]?).bind fun y => if bitsA y k = true then some (ks, vs.set j v) else none
      | none => some (ks ++ [k], vs ++ [v])
  else none

/-- A map is written at a key. -/
def opUpd (P : Program) (t : TypeId) (m k v : AV) (g : Nat → Option Ob) : Option Ef :=
  (mapKV t P).bind fun p =>
    match m with
    | .map id => (match g id with
      | some (.map a b ks vs) => (updA P p.1 ks vs k v).map fun q => .set id (.map a b q.1 q.2)
      | _ => none)
    | _ => none

theorem grownBy_setIn (w : World) (b : Nat) (o : Obj) : w.grownBy { w with heap := w.heap.setIfInBounds b o } (some b) := by
  refine ⟨rfl, rfl, rfl, by simp, fun k hk hne => ?_⟩
  have : k ≠ b := fun e => hne (by rw [e])
  simp [Ne.symm this]
theorem map_put {id : Nat} {o : Ob} {b : Nat} {o1 o2 : Obj} (H : HRel h X w) (hg : h.get id = some o) (hown : X.own id = some ⟨0, 0, .map (some b)⟩) (hb : w.heap[b]? = some o1) {o' : Ob}
    (ho : Ev X w (X.put id ⟨0, 0, .map (some b)⟩) { w with heap := w.heap.setIfInBounds b o2 } → ORel (X.put id ⟨0, 0, .map (some b)⟩) { w with heap := w.heap.setIfInBounds b o2 } id o') :
    Ev X w X { w with heap := w.heap.setIfInBounds b o2 } ∧ HRel (h.set id o') X { w with heap := w.heap.setIfInBounds b o2 } := by
  have hlt : b < w.heap.size := (Array.getElem?_eq_some_iff.1 hb).1
  have hput : X.put id ⟨0, 0, .map (some b)⟩ = X := by
    unfold Cx.put
    have e1 : (fun j => if j = id then some (⟨0, 0, .map (some b)⟩ : Rec) else X.own j) = X.own := by
      funext j
      split
      · rename_i e; rw [e, hown]
      · rfl
    have e2 : (fun j => j = id ∨ X.used j) = X.used := by
      funext j
      refine propext ⟨fun hj => hj.elim (fun e => e ▸ H.ok.ids id _ hown) (fun h => h), .inr⟩
    rw [e1, e2]
  have hgr : w.grownBy { w with heap := w.heap.setIfInBounds b o2 } (some b) := grownBy_setIn w b o2
  obtain ⟨k1, k2⟩ := HRel.put (id := id) (nx' := h.nx) (r' := ⟨0, 0, .map (some b)⟩) (o := o') (row := some b) H (.inr ⟨_, hown, .inl rfl⟩) hgr (fun b' e => ⟨_, hown, by obtain rfl := Option.some.inj e; rfl⟩)
    (fun b' e => ⟨by obtain rfl : b = b' := by simpa [blockOf] using e
                     simpa using hlt, .inr ⟨_, hown, e⟩⟩) (Nat.le_refl _) (H.lt id (H.ok.ids id _ hown)) ho
  rw [hput] at k1 k2
  exact ⟨k2, k1⟩

theorem opUpd_ok (H : HRel h X w) {t : TypeId} {m k v : AV} {cm ck cv : Value} {nid : Nat} {e : Ef} (hm : VRel X w m cm) (hk : VRel X w k ck) (hv : VRel X w v cv) (hop : opUpd P t m k v h.get = some e) :
    ∃ w', (Instr.mapUpdate t cm ck cv).run P w = .ok () w' ∧ Ev X w X w' ∧ HRel (h.app nid e) X w' := by
  simp only [opUpd, Option.bind_eq_some_iff] at hop
  obtain ⟨⟨kt, et⟩, ht, hop⟩ := hop
  have ht := mapKV_spec ht
  split at hop
  · rename_i id
    split at hop
    · rename_i a b ks vs hg
      simp only [Option.map_eq_some_iff] at hop
      obtain ⟨q, hop, rfl⟩ := hop
      unfold updA at hop
      split at hop
      · rename_i hkk
        simp only [Option.bind_eq_some_iff] at hop
        obtain ⟨r, hr, hop⟩ := hop
        obtain ⟨bl, es, clock, k1, k2, k3, k4, k5, k6⟩ := H.obj id _ hg
        have hd : ∃ d, P.underlying kt = some d := by
          cases hu : P.underlying kt with
          | none => simp [eqT, hu] at hkk
          | some d => exact ⟨d, rfl⟩
        obtain ⟨d, hd⟩ := hd
        obtain ⟨fo, g1, g2⟩ := run_findKeyA (es := es.toList) hk (by simpa using k3) hd (fun j a c ha hc => k5 j a c ha (by simpa using hc)) hr
        have hchk := run_checkA (em := false) hk hkk
        cases hm with
        | map _ _ ho hid hvm =>
          obtain rfl := hvm _ k1 rfl
          have run : ∀ o2, (Instr.mapUpdate t (.map (some bl)) ck cv).run P w = (setObj bl o2).run P w → (Instr.mapUpdate t (.map (some bl)) ck cv).run P w = .ok () { w with heap := w.heap.setIfInBounds bl o2 } := fun o2 he => by
            rw [he, MapKept.run_setObj_map _ k2]
          have hlt : bl < w.heap.size := (Array.getElem?_eq_some_iff.1 k2).1
          have hset : ∀ o2, ({ w with heap := w.heap.setIfInBounds bl o2 } : World).heap[bl]? = some o2 := fun o2 => by simp [hlt]
          have hown' : (X.put id ⟨0, 0, .map (some bl)⟩).own id = some ⟨0, 0, .map (some bl)⟩ := by simp [Cx.put]
          cases r with
          | some j =>
            simp only [Option.bind_eq_some_iff] at hop
            obtain ⟨y, hy, hop⟩ := hop
            split at hop
            · rename_i hbit
              obtain rfl := Option.some.inj hop
              obtain ⟨en, _, m2, rfl⟩ := g1
              simp only [Nat.sub_zero, Array.getElem?_toList] at m2
              have hjlt : j < es.size := (Array.getElem?_eq_some_iff.1 m2).1
              have hye := k5 j y en.key hy (by rw [m2]; rfl)
              obtain ⟨sb, rfl⟩ := bits_ok (n := 9999) hye hk hbit
              have hstay : (Instr.keyThatStays (((es[j]?).map (·.key)).getD ck) ck).run P w = .ok ck w := by
                rw [m2]
                simp only [Option.map_some, Option.getD_some, Instr.keyThatStays]
                rw [if_pos sb]
                simp
              refine ⟨_, run (.map (es.modify j fun e => { e with key := ck, val := cv }) clock) ?_, ?_⟩
              · unfold Instr.mapUpdate
                simp only [Sem.run_bind, run_underlying ht, Result.andThen_ok, MapKept.run_getObj_map k2, hchk, g2, hstay]
              · refine map_put H hg k1 k2 fun hev => ?_
                refine ⟨bl, _, clock, hown', hset _, by simpa using k3, by simpa using k4, fun i a c ha hc => ?_, fun i a c ha hc => ?_⟩
                · rw [Array.getElem?_modify] at hc
                  by_cases hij : j = i
                  · subst hij
                    rw [m2] at hc
                    simp at hc
                    subst hc
                    rw [hy] at ha
                    obtain rfl := Option.some.inj ha
                    exact hk.mono H.ok hev
                  · rw [if_neg hij] at hc
                    exact (k5 i a c ha hc).mono H.ok hev
                · rw [Array.getElem?_modify] at hc
                  by_cases hij : j = i
                  · subst hij
                    rw [m2] at hc
                    simp at hc
                    subst hc
                    rw [List.getElem?_set_self (by omega)] at ha
                    obtain rfl := Option.some.inj ha
                    exact hv.mono H.ok hev
                  · rw [if_neg hij] at hc
                    rw [List.getElem?_set_ne hij] at ha
                    exact (k6 i a c ha hc).mono H.ok hev
            · simp at hop
          | none =>
            simp only [Option.some.injEq] at hop
            subst hop
            obtain rfl := g1
            refine ⟨_, run (.map (es.push { key := ck, val := cv, born := clock }) (clock + 1)) ?_, ?_⟩
            · unfold Instr.mapUpdate
              simp only [Sem.run_bind, run_underlying ht, Result.andThen_ok, MapKept.run_getObj_map k2, hchk, g2]
            · refine map_put H hg k1 k2 fun hev => ?_
              refine ⟨bl, _, clock + 1, hown', hset _, by simp [k3], by simp [k4], fun i a c ha hc => ?_, fun i a c ha hc => ?_⟩
              · rw [Array.getElem?_push] at hc
                split at hc
                · rename_i e
                  subst e
                  simp at hc
                  subst hc
                  rw [List.getElem?_append_right (by omega), k3] at ha
                  simp at ha
                  subst ha
                  exact hk.mono H.ok hev
                · have : i < es.size := by
                    cases hq : es[i]? with
                    | none => simp [hq] at hc
                    | some _ => exact (Array.getElem?_eq_some_iff.1 hq).1
                  rw [List.getElem?_append_left (by omega)] at ha
                  exact (k5 i a c ha hc).mono H.ok hev
              · rw [Array.getElem?_push] at hc
                split at hc
                · rename_i e
                  subst e
                  simp at hc
                  subst hc
                  rw [List.getElem?_append_right (by omega), k4] at ha
                  simp at ha
                  subst ha
                  exact hv.mono H.ok hev
                · have : i < es.size := by
                    cases hq : es[i]? with
                    | none => simp [hq] at hc
                    | some _ => exact (Array.getElem?_eq_some_iff.1 hq).1
                  rw [List.getElem?_append_left (by omega)] at ha
                  exact (k6 i a c ha hc).mono H.ok hev
      · simp at hop
    · simp at hop
  · simp at hop

/-- A map is made. -/
theorem opMakeMap_ok (H : HRel h X w) {nid : Nat} (hf : ¬ X.used nid) (t kt et : TypeId) : ∃ cv w' X', (Instr.makeMap t none).run P w = .ok cv w' ∧ Ev X w X' w' ∧ VRel X' w' (.map nid) cv ∧ HRel (h.app nid (.new (.map kt et [] []))) X' w' ∧ (∀ id, X'.used id → X.used id ∨ id = nid) := by
  have hno : X.own nid = none := by
    cases ho : X.own nid with
    | none => rfl
    | some r => exact absurd (H.ok.ids nid r ho) hf
  have hsz : w.heap.size < (w.alloc (.map #[] 0)).heap.size := (Array.getElem?_eq_some_iff.1 (MapKept.heap_alloc w (.map #[] 0)).1).1
  have hbl : ∀ b, w.heap.size = b → b < (w.alloc (.map #[] 0)).heap.size ∧ (w.heap.size ≤ b ∨ ∃ r, X.own nid = some r ∧ blockOf r.cv = some b) := fun b e => e ▸ ⟨hsz, .inl (Nat.le_refl _)⟩
  obtain ⟨k1, k2⟩ := HRel.put (id := nid) (nx' := max h.nx (nid + 1)) (r' := ⟨0, 0, .map (some w.heap.size)⟩) (o := .map kt et [] []) (row := none) H (.inl ⟨hno, hf⟩) (World.grownBy_alloc w (.map #[] 0) none) (fun b e => by simp at e)
    (fun b e => hbl b (by simpa [blockOf] using e)) (by omega) (by omega)
    (fun _ => ⟨w.heap.size, #[], 0, by simp [Cx.put], (MapKept.heap_alloc w _).1, rfl, rfl, fun j a c ha => by simp at ha, fun j a c ha => by simp at ha⟩)
  refine ⟨_, _, _, rfl, k2, .map nid _ rfl (.inl rfl) (fun r hr _ => ?_), k1, fun id hid => ?_⟩
  · simp [Cx.put] at hr
    subst hr
    rfl
  · rcases hid with e | e
    · exact .inr e
    · exact .inl e
end
end Go.Proofs.YtfdfkmcplhloaaaGreat
end

section
set_option linter.unusedSimpArgs false
set_option linter.unusedVariables false
namespace Go.Proofs.YtfdfkmcplhloaaaGreat

abbrev Tm := Nat → AV
def Tm.put (tm : Tm) (d : Option Nat) (v : AV) : Tm :=
  match d with
  | some d => fun t => if t = d then v else tm t
  | none => tm

def live (x : AV) (h : Nat → Option Ob) : Bool :=
  match x with
  | .ptr id tot _ _ => (match h id with
    | some (.arr _ _ es) => decide (es.length = tot ∧ 0 < tot)
    | _ => false)
  | _ => true

def opConvert (P : Program) (s d : TypeId) (x : AV) : Option AV :=
  match P.underlying s, P.underlying d, x with
  | some (.int _), some (.int k), .int _ n => some (.int k (k.wrap n))
  | _, _, _ => none

def opIndexS (P : Program) (t : TypeId) (x i : AV) : Option AV :=
  match P.underlying t, x, i with
  | some .string, .str s, .int _ n => if 0 ≤ n then (s[n.toNat]?).map fun b => .int .u8 b.toNat else none
  | _, _, _ => none

def hasInfo (P : Program) (t : TypeId) : Bool :=
  match sliceElem P t with
  | some e => (P.info? e).isSome
  | none => true

def non (o : Option AV) : Option (AV × Ef) := o.map fun v => (v, .non)

def opBinAny (P : Program) (op : BinOp) (t : TypeId) (x y : AV) : Option AV :=
  match opBin op x y with
  | some r => some r
  | none => opEq P op t x y

def opCallB (P : Program) (b : Builtin) (args : List AV) (ts : List TypeId) (h : Nat → Option Ob) (nid : Nat) : Option (AV × Ef) :=
  match b, args, ts with
  | .len, [x], [t] => non (opLen P t x h)
  | .append, [s, x], [t, t'] => if t = t' then opAppend P t s x h nid else none
  | .copy, [d, s], [t, t'] => if t = t' then opCopy P t d s h else none
  | .max, [.int k a, .int _ b], _ => some (.int k (if b > a then b else a), .non)
  | .min, [.int k a, .int _ b], _ => some (.int k (if b < a then b else a), .non)
  | _, _, _ => none

/-- One operation that is no call of a function. -/
def opD (P : Program) (o : Op) (tm : Tm) (h : Nat → Option Ob) (nid : Nat) : Option (AV × Ef) :=
  match o with
  | .move x => some (evA tm x, .non)
  | .assign x => some (evA tm x, .non)
  | .pick c a b => (match evA tm c with
    | .bool t => some (if t = true then evA tm a else evA tm b, .non)
    | _ => none)
  | .alloc E => opAlloc P E nid
  | .box E x => opBox E (evA tm x) nid
  | .build t parts => non (opBuild P t (parts.toList.map fun p => (p.1, evA tm p.2)))
  | .buildSlice t len parts => opBuildSlice P t len (parts.toList.map fun p => (p.1, evA tm p.2)) nid
  | .load t a => non (opLoad P t (evA tm a) h)
  | .store t a x => (opStore P t (evA tm a) (evA tm x) h).map fun e => (.junk, e)
  | .nilCheck x => non (opNilCheck (evA tm x) h)
  | .binOp op t x y _ => non (opBinAny P op t (evA tm x) (evA tm y))
  | .unOp op _ x => non (opUn op (evA tm x))
  | .convert s d x => non (opConvert P s d (evA tm x))
  | .makeFunc f first caps => some (.fn f (first.toList.map (evA tm)) (caps.toList.map (evA tm)), .non)
  | .makeSlice t l c => opMakeSlice P t (evA tm l) (evA tm c) nid
  | .slice t x lo hi none => non (opSlice P t (evA tm x) (lo.map (evA tm)) (hi.map (evA tm)) h)
  | .fieldAddr t x f => if live (evA tm x) h = true then non (opFieldAddr P t (evA tm x) f) else none
  | .field t x f => non (opField P t (evA tm x) f)
  | .indexAddr t x i => if hasInfo P t = true then non (opIndexAddr P t (evA tm x) (evA tm i) h) else none
  | .extract x i => non (opExtract (evA tm x) i)
  | .index t x i => non (opIndexS P t (evA tm x) (evA tm i))
  | .call { callee := .builtin b, args, argTypes } => opCallB P b (args.toList.map (evA tm)) argTypes.toList h nid
  | .lookup t m k ok => non (opLookup P t (evA tm m) (evA tm k) ok h)
  | .mapUpdate t m k x => (opUpd P t (evA tm m) (evA tm k) (evA tm x) h).map fun e => (.junk, e)
  | .makeMap t none => (mapKV t P).map fun p => (.map nid, .new (.map p.1 p.2 [] []))
  | _ => none

section
variable {P : Program} {X : Cx} {w : World} {h : Hp}

theorem live_spec {x : AV} (hl : live x h.get = true) : ∀ id tot i off, x = .ptr id tot i off → ∃ E s es, h.get id = some (.arr E s es) ∧ es.length = tot ∧ 0 < tot := by
  rintro id tot i off rfl
  unfold live at hl
  simp only at hl
  split at hl
  · rename_i E s es hg
    exact ⟨E, s, es, hg, by simpa using hl⟩
  · simp at hl

theorem opConvert_ok {s d : TypeId} {x r : AV} {c : Value} (hx : VRel X w x c) (hop : opConvert P s d x = some r) : ∃ cv, (convert s d c).run P w = .ok cv w ∧ VRel X w r cv := by
  unfold opConvert at hop
  split at hop
  · rename_i k1 k k2 n hs hd
    obtain rfl := Option.some.inj hop
    cases hx
    exact ⟨.int k (k.wrap n), by simp [convert, run_underlying hs, run_underlying hd, Conv.intToInt], .int _ _⟩
  · simp at hop

theorem opIndexS_ok {t : TypeId} {x i r : AV} {cx ci : Value} (hx : VRel X w x cx) (hi : VRel X w i ci) (hop : opIndexS P t x i = some r) : ∃ cv, (Instr.index t cx ci).run P w = .ok cv w ∧ VRel X w r cv := by
  unfold opIndexS at hop
  split at hop
  · rename_i s k n hu
    cases hx
    cases hi
    split at hop
    · rename_i h0
      simp only [Option.map_eq_some_iff] at hop
      obtain ⟨b, hb, rfl⟩ := hop
      refine ⟨.int .u8 b.toNat, ?_, .int _ _⟩
      simp [Instr.index, asIntOf, Sem.run_bind, run_underlying hu, h0, hb]
    · simp at hop
  · simp at hop

/-- What an operation comes to. -/
def Yields1 (P : Program) (ρ : Operand → Value) (o : Oper) (w : World) (c : Value) (w' : World) : Prop :=
  (execOp ρ o).run P w = .ok (.value c) w' ∨ ((execOp ρ o).run P w = .ok .skip w' ∧ c = undef)

def Yields (P : Program) (ρ : Operand → Value) (o : Oper) (X : Cx) (w : World) (h' : Hp) (v : AV) (nid : Nat) : Prop :=
  ∃ c w' X', Yields1 P ρ o w c w' ∧ Ev X w X' w' ∧ VRel X' w' v c ∧ HRel h' X' w' ∧ (∀ id, X'.used id → X.used id ∨ id = nid)

theorem yields_pure {ρ : Operand → Value} {o : Oper} {nid : Nat} {r : Option AV} {v : AV} {ef : Ef} (H : HRel h X w) (hop : non r = some (v, ef)) (hr : ∀ v, r = some v → ∃ c, (execOp ρ o).run P w = .ok (.value c) w ∧ VRel X w v c) :
    Yields P ρ o X w (h.app nid ef) v nid := by
  unfold non at hop
  simp only [Option.map_eq_some_iff, Prod.mk.injEq] at hop
  obtain ⟨v', hv, rfl, rfl⟩ := hop
  obtain ⟨c, h1, h2⟩ := hr v' hv
  exact ⟨c, w, X, .inl h1, Ev.refl X w, h2, H, fun id h => .inl h⟩

theorem vrels_of {tm : Tm} {ρ : Operand → Value} (hρ : ∀ x, VRel X w (evA tm x) (ρ x)) (xs : Array Operand) : ∀ (j : Nat) a c, (xs.toList.map (evA tm))[j]? = some a → (xs.map ρ)[j]? = some c → VRel X w a c := by
  intro j a c ha hc
  simp only [List.getElem?_map, Option.map_eq_some_iff, Array.getElem?_toList] at ha
  simp only [Array.getElem?_map, Option.map_eq_some_iff] at hc
  obtain ⟨x, h1, rfl⟩ := ha
  obtain ⟨y, h2, rfl⟩ := hc
  rw [h1] at h2
  obtain rfl := Option.some.inj h2
  exact hρ x

theorem opD_ok (H : HRel h X w) {tm : Tm} {ρ : Operand → Value} (hρ : ∀ x, VRel X w (evA tm x) (ρ x)) {nid : Nat} (hf : ¬ X.used nid) {o : Oper} {v : AV} {ef : Ef} (hop : opD P o.op tm h.get nid = some (v, ef)) :
    Yields P ρ o X w (h.app nid ef) v nid := by
  unfold opD at hop
  split at hop
  case h_1 x he => 
    obtain ⟨rfl, rfl⟩ := Prod.mk.inj (Option.some.inj hop)
    exact ⟨ρ x, w, X, .inl (by simp [execOp, he]), Ev.refl X w, hρ x, H, fun id h => .inl h⟩
  case h_2 x he =>
    obtain ⟨rfl, rfl⟩ := Prod.mk.inj (Option.some.inj hop)
    exact ⟨ρ x, w, X, .inl (by simp [execOp, he]), Ev.refl X w, hρ x, H, fun id h => .inl h⟩
  case h_3 c a b he =>
    split at hop
    · rename_i t ht
      obtain ⟨rfl, rfl⟩ := Prod.mk.inj (Option.some.inj hop)
      have hc := hρ c
      rw [ht] at hc
      cases hcv : ρ c <;> rw [hcv] at hc <;> cases hc
      exact ⟨if t then ρ a else ρ b, w, X, .inl (by simp [execOp, he, hcv, asBool]), Ev.refl X w, by split <;> exact hρ _, H, fun id h => .inl h⟩
    · simp at hop
  case h_4 E he =>
    obtain ⟨cv, w', X', h1, h2, h3, h4, h5⟩ := opAlloc_ok H hf hop
    exact ⟨cv, w', X', .inl (by simp [execOp, he, h1]), h2, h3, h4, h5⟩
  case h_5 E x he =>
    obtain ⟨cv, w', X', h1, h2, h3, h4, h5⟩ := opBox_ok (P := P) H hf (hρ x) hop
    exact ⟨cv, w', X', .inl (by simp [execOp, he, h1]), h2, h3, h4, h5⟩
  case h_6 t parts he =>
    refine yields_pure H hop fun v hv => ?_
    obtain ⟨cv, h1, h2⟩ := opBuild_ok hρ hv
    exact ⟨cv, by simp [execOp, he, h1], h2⟩
  case h_7 t len parts he =>
    obtain ⟨cv, w', X', h1, h2, h3, h4, h5⟩ := opBuildSlice_ok H hf hρ hop
    exact ⟨cv, w', X', .inl (by simp [execOp, he, h1]), h2, h3, h4, h5⟩
  case h_8 t a he =>
    refine yields_pure H hop fun v hv => ?_
    obtain ⟨cv, h1, h2⟩ := opLoad_ok H (hρ a) hv
    exact ⟨cv, by simp [execOp, he, h1], h2⟩
  case h_9 t a x he =>
    simp only [Option.map_eq_some_iff, Prod.mk.injEq] at hop
    obtain ⟨e, h0, rfl, rfl⟩ := hop
    obtain ⟨w', h1, h2, h3⟩ := opStore_ok (nid := nid) H (hρ a) (hρ x) h0
    exact ⟨undef, w', X, .inr ⟨by simp [execOp, he, h1], rfl⟩, h2, .junk _, h3, fun id h => .inl h⟩
  case h_10 x he =>
    refine yields_pure H hop fun v hv => ?_
    obtain ⟨ad, h1, rfl⟩ := opNilCheck_ok H (hρ x) hv
    exact ⟨ρ x, by simp [execOp, he, h1], hρ x⟩
  case h_11 op t x y yt he =>
    refine yields_pure H hop fun v hv => ?_
    have key : ∃ cv, (do eqGuard op t x y (ρ x) (ρ y); binOp op t (ρ x) (ρ y) : Sem Value).run P w = .ok cv w ∧ VRel X w v cv := by
      unfold opBinAny at hv
      split at hv
      · rename_i r hr
        obtain rfl := Option.some.inj hv
        exact opBin_ok (hρ x) (hρ y) hr
      · exact opEq_ok (hρ x) (hρ y) hv
    obtain ⟨cv, h1, h2⟩ := key
    refine ⟨cv, ?_, h2⟩
    simp only [execOp, he, Sem.run_bind] at h1 ⊢
    rw [h1]
    rfl
  case h_12 op t x he =>
    refine yields_pure H hop fun v hv => ?_
    obtain ⟨cv, h1, h2⟩ := opUn_ok (P := P) (hρ x) hv
    exact ⟨cv, by simp [execOp, he, h1], h2⟩
  case h_13 s d x he =>
    refine yields_pure H hop fun v hv => ?_
    obtain ⟨cv, h1, h2⟩ := opConvert_ok (hρ x) hv
    exact ⟨cv, by simp [execOp, he, h1], h2⟩
  case h_14 f first caps he =>
    obtain ⟨rfl, rfl⟩ := Prod.mk.inj (Option.some.inj hop)
    exact ⟨.func f (first.map ρ) (caps.map ρ), w, X, .inl (by simp [execOp, he, Instr.makeFunc]), Ev.refl X w, .fn _ _ _ _ _ (by simp) (by simp) (vrels_of hρ first) (vrels_of hρ caps), H, fun id h => .inl h⟩
  case h_15 t l c he =>
    obtain ⟨cv, w', X', h1, h2, h3, h4, h5⟩ := opMakeSlice_ok H hf (hρ l) (hρ c) hop
    exact ⟨cv, w', X', .inl (by simp [execOp, he, h1]), h2, h3, h4, h5⟩
  case h_16 t x lo hi he =>
    refine yields_pure H hop fun v hv => ?_
    obtain ⟨cv, h1, h2⟩ := opSlice_ok (loC := lo.map ρ) (hiC := hi.map ρ) H (hρ x) (fun v hv => by
        obtain ⟨y, rfl, rfl⟩ := Option.map_eq_some_iff.1 hv
        exact ⟨_, rfl, hρ y⟩) (fun hn => by simpa using hn) (fun v hv => by
        obtain ⟨y, rfl, rfl⟩ := Option.map_eq_some_iff.1 hv
        exact ⟨_, rfl, hρ y⟩) (fun hn => by simpa using hn) hv
    exact ⟨cv, by simp [execOp, he, h1], h2⟩
  case h_17 t x f he =>
    split at hop
    · rename_i hl
      refine yields_pure H hop fun v hv => ?_
      obtain ⟨cv, h1, h2⟩ := opFieldAddr_ok (hρ x) H (live_spec hl) hv
      exact ⟨cv, by simp [execOp, he, h1], h2⟩
    · simp at hop
  case h_18 t x f he =>
    refine yields_pure H hop fun v hv => ?_
    obtain ⟨cv, h1, h2⟩ := opField_ok (hρ x) hv
    exact ⟨cv, by simp [execOp, he, h1], h2⟩
  case h_19 t x i he =>
    split at hop
    · rename_i hi
      refine yields_pure H hop fun v hv => ?_
      obtain ⟨cv, h1, h2⟩ := opIndexAddr_ok H (hρ x) (hρ i) (fun e he => by simpa [hasInfo, he] using hi) hv
      exact ⟨cv, by simp [execOp, he, h1], h2⟩
    · simp at hop
  case h_20 x i he =>
    refine yields_pure H hop fun v hv => ?_
    obtain ⟨cv, h1, h2⟩ := opExtract_ok (P := P) (hρ x) hv
    exact ⟨cv, by simp [execOp, he, h1], h2⟩
  case h_21 t x i he =>
    refine yields_pure H hop fun v hv => ?_
    obtain ⟨cv, h1, h2⟩ := opIndexS_ok (hρ x) (hρ i) hv
    exact ⟨cv, by simp [execOp, he, h1], h2⟩
  case h_22 b args ts he =>
    unfold opCallB at hop
    split at hop
    · rename_i x t ha ht
      refine yields_pure H hop fun v hv => ?_
      obtain ⟨y, rfl⟩ : ∃ y, args = #[y] := by
        cases args with
        | mk l => match l with
          | [] => simp at ha
          | [y] => exact ⟨y, rfl⟩
          | y :: z :: l => simp at ha
      obtain rfl : ts = #[t] := by cases ts; simp_all
      simp only [List.map_cons, List.map_nil, List.cons.injEq, and_true] at ha
      subst ha
      obtain ⟨cv, h1, h2⟩ := opLen_ok (ty := o.type) H (hρ y) hv
      exact ⟨cv, by simp [execOp, he, resolve, invoke, builtin, h1], h2⟩
    · rename_i s x t t' ha ht
      split at hop
      · rename_i e
        subst e
        obtain ⟨y, z, rfl⟩ : ∃ y z, args = #[y, z] := by
          cases args with
          | mk l => match l with
            | [] => simp at ha
            | [y] => simp at ha
            | [y, z] => exact ⟨y, z, rfl⟩
            | y :: z :: z' :: l => simp at ha
        obtain rfl : ts = #[t, t] := by cases ts; simp_all
        simp only [List.map_cons, List.map_nil, List.cons.injEq, and_true] at ha
        obtain ⟨rfl, rfl⟩ := ha
        obtain ⟨cv, w', X', h1, h2, h3, h4, h5⟩ := opAppend_ok (ty := o.type) H hf (hρ y) (hρ z) hop
        exact ⟨cv, w', X', .inl (by simp [execOp, he, resolve, invoke, builtin, h1]), h2, h3, h4, h5⟩
      · simp at hop
    · rename_i d s t t' ha ht
      split at hop
      · rename_i e
        subst e
        obtain ⟨y, z, rfl⟩ : ∃ y z, args = #[y, z] := by
          cases args with
          | mk l => match l with
            | [] => simp at ha
            | [y] => simp at ha
            | [y, z] => exact ⟨y, z, rfl⟩
            | y :: z :: z' :: l => simp at ha
        obtain rfl : ts = #[t, t] := by cases ts; simp_all
        simp only [List.map_cons, List.map_nil, List.cons.injEq, and_true] at ha
        obtain ⟨rfl, rfl⟩ := ha
        obtain ⟨cv, w', h1, h2, h3, h4⟩ := opCopy_ok (ty := o.type) (nid := nid) H (hρ y) (hρ z) hop
        exact ⟨cv, w', X, .inl (by simp [execOp, he, resolve, invoke, builtin, h1]), h2, h3, h4, fun id h => .inl h⟩
      · simp at hop
    · rename_i k a k' b ha
      obtain ⟨rfl, rfl⟩ := Prod.mk.inj (Option.some.inj hop)
      obtain ⟨y, z, rfl⟩ : ∃ y z, args = #[y, z] := by
        cases args with
        | mk l => match l with
          | [] => simp at ha
          | [y] => simp at ha
          | [y, z] => exact ⟨y, z, rfl⟩
          | y :: z :: z' :: l => simp at ha
      simp only [List.map_cons, List.map_nil, List.cons.injEq, and_true] at ha
      have hy := hρ y
      have hz := hρ z
      rw [ha.1] at hy
      rw [ha.2] at hz
      cases hyv : ρ y <;> rw [hyv] at hy <;> cases hy
      cases hzv : ρ z <;> rw [hzv] at hz <;> cases hz
      exact ⟨_, w, X, .inl (by simp [execOp, he, resolve, invoke, builtin, Builtin.max_, Builtin.max2, hyv, hzv]), Ev.refl X w, .int _ _, H, fun id h => .inl h⟩
    · rename_i k a k' b ha
      obtain ⟨rfl, rfl⟩ := Prod.mk.inj (Option.some.inj hop)
      obtain ⟨y, z, rfl⟩ : ∃ y z, args = #[y, z] := by
        cases args with
        | mk l => match l with
          | [] => simp at ha
          | [y] => simp at ha
          | [y, z] => exact ⟨y, z, rfl⟩
          | y :: z :: z' :: l => simp at ha
      simp only [List.map_cons, List.map_nil, List.cons.injEq, and_true] at ha
      have hy := hρ y
      have hz := hρ z
      rw [ha.1] at hy
      rw [ha.2] at hz
      cases hyv : ρ y <;> rw [hyv] at hy <;> cases hy
      cases hzv : ρ z <;> rw [hzv] at hz <;> cases hz
      exact ⟨_, w, X, .inl (by simp [execOp, he, resolve, invoke, builtin, Builtin.min_, Builtin.min2, hyv, hzv]), Ev.refl X w, .int _ _, H, fun id h => .inl h⟩
    · simp at hop
  case h_23 t m k ok he =>
    refine yields_pure H hop fun v hv => ?_
    obtain ⟨cv, h1, h2⟩ := opLookup_ok H (hρ m) (hρ k) hv
    exact ⟨cv, by simp [execOp, he, h1], h2⟩
  case h_24 t m k x he =>
    simp only [Option.map_eq_some_iff, Prod.mk.injEq] at hop
    obtain ⟨e, h0, rfl, rfl⟩ := hop
    obtain ⟨w', h1, h2, h3⟩ := opUpd_ok (nid := nid) H (hρ m) (hρ k) (hρ x) h0
    exact ⟨undef, w', X, .inr ⟨by simp [execOp, he, h1], rfl⟩, h2, .junk _, h3, fun id h => .inl h⟩
  case h_25 t he =>
    simp only [Option.map_eq_some_iff, Prod.mk.injEq] at hop
    obtain ⟨p, h0, rfl, rfl⟩ := hop
    obtain ⟨cv, w', X', h1, h2, h3, h4, h5⟩ := opMakeMap_ok (P := P) H hf t p.1 p.2
    exact ⟨cv, w', X', .inl (by simp [execOp, he, h1]), h2, h3, h4, h5⟩
  case h_26 => simp at hop
end
end Go.Proofs.YtfdfkmcplhloaaaGreat
end

section
set_option linter.unusedSimpArgs false
set_option linter.unusedVariables false
namespace Go.Proofs.YtfdfkmcplhloaaaGreat

/-- A function value is called. -/
def GoesF (P : Program) (cf : Value) (args : Array Value) (w : World) (R : Value → World → Prop) : Prop :=
  ∃ d, (Deferred.ofValue cf args).run P w = .ok d w ∧
    match (invoke d.target d.args).run P w with
    | .ok (.value v) w' => R v w'
    | .ok (.enter f as) w' => Calls P f as w' fun e w'' => ∃ v, e = .returned v ∧ R v w''
    | .ok (.round l f tmps assign body) w' => RoundIn Fence.wide 0 P l f tmps assign body w' fun e w'' => ∃ v, e = .returned v ∧ R v w''
    | _ => False

def CallV (P : Program) (fv : AV) (args : List AV) (h : Hp) (K : AV → Hp → Prop) : Prop :=
  ∀ (X : Cx) (w : World) (cf : Value) (cargs : Array Value), HRel h X w → VRel X w fv cf → VRelL X w args cargs.toList →
    GoesF P cf cargs w fun c w' => ∃ X' r h', K r h' ∧ Ev X w X' w' ∧ VRel X' w' r c ∧ HRel h' X' w'

theorem GoesF.mono {P : Program} {cf : Value} {args : Array Value} {w : World} {R R' : Value → World → Prop} (h : GoesF P cf args w R) (hr : ∀ v w', R v w' → R' v w') : GoesF P cf args w R' := by
  obtain ⟨d, h1, h2⟩ := h
  refine ⟨d, h1, ?_⟩
  generalize (invoke d.target d.args).run P w = r at h2 ⊢
  cases r with
  | halt x w' => exact h2
  | ok nx w' =>
    cases nx <;> first
      | exact hr _ _ h2
      | exact h2.mono fun e w' ⟨v, h3, h4⟩ => ⟨v, h3, hr _ _ h4⟩
      | exact h2

theorem CallV.mono {P : Program} {fv : AV} {args : List AV} {h : Hp} {K K' : AV → Hp → Prop} (hc : CallV P fv args h K) (hk : ∀ r h', K r h' → K' r h') : CallV P fv args h K' :=
  fun X w cf cargs H hf ha => (hc X w cf cargs H hf ha).mono fun _ _ ⟨X', r, h', h1, h2⟩ => ⟨X', r, h', hk _ _ h1, h2⟩

/-! ### Frames -/
def FRel (n : Nat) (tm : Tm) (X : Cx) (w : World) (a : Act) : Prop := a.tmps.size = n ∧ ∀ t, VRel X w (tm t) (a.tmps.getD t undef)

section
variable {P : Program} {X : Cx} {w : World} {h : Hp}

theorem FRel.mono {n : Nat} {tm : Tm} {X' : Cx} {w' : World} {a : Act} (hf : FRel n tm X w a) (hok : Ok X w) (he : Ev X w X' w') : FRel n tm X' w' a := ⟨hf.1, fun t => (hf.2 t).mono hok he⟩

theorem FRel.eval {n : Nat} {tm : Tm} {a : Act} (hf : FRel n tm X w a) (x : Operand) : VRel X w (evA tm x) (a.eval x) := by
  cases x with
  | tmp t => exact hf.2 t
  | const v => exact ofConst_rel X w v
  | global g => exact .junk _
  | func f => exact .fn _ _ _ _ _ rfl rfl (fun j a c ha => by simp at ha) (fun j a c ha => by simp at ha)

theorem FRel.put {n : Nat} {tm : Tm} {a : Act} {d : Option Nat} {v : AV} {c : Value} (hf : FRel n tm X w a) (hv : VRel X w v c) (hd : ∀ t, d = some t → t < n) : FRel n (tm.put d v) X w (a.put d c) := by
  cases d with
  | none => exact hf
  | some d =>
    refine ⟨by simp [Act.put, hf.1], fun t => ?_⟩
    have hlt := hd d rfl
    simp only [Tm.put, Act.put]
    by_cases e : t = d
    · subst e
      rw [if_pos rfl]
      have : t < a.tmps.size := by rw [hf.1]; exact hlt
      simp [Array.getD_eq_getD_getElem?, this, hv]
    · rw [if_neg e]
      have := hf.2 t
      simp only [Array.getD_eq_getD_getElem?] at this ⊢
      rw [Array.getElem?_setIfInBounds_ne (Ne.symm e)]
      exact this

/-! ### One region, in the text's order -/
def dstOk (n : Nat) (o : Oper) : Prop :=
  match o.dst with
  | some d => d < n
  | none => True

def gval (v : AV) (want : Bool) (A B : Prop) : Prop :=
  match v with
  | .bool b => if b = want then A else B
  | .tup [] => B
  | _ => False

def gcond (all : List Oper) (tm : Tm) (o : Oper) (A B : Prop) : Prop :=
  match o.guard with
  | none => A
  | some (j, want) =>
    match (all[j]?).bind (·.dst) with
    | some d => gval (tm d) want A B
    | none => False

def optK {α : Type} (o : Option α) (K : α → Prop) : Prop :=
  match o with
  | some a => K a
  | none => False

def callee? : Op → Option (Operand × Array Operand)
  | .call { callee := .value f, args, .. } => some (f, args)
  | _ => none

def stepF (P : Program) (o : Oper) (tm : Tm) (h : Hp) (K : AV → Hp → Prop) : Prop :=
  match callee? o.op with
  | some (f, args) => CallV P (evA tm f) (args.toList.map (evA tm)) h K
  | none => optK (opD P o.op tm h.get h.nx) fun r => K r.1 (h.app h.nx r.2)

def regSeq (P : Program) (n : Nat) (all : List Oper) : List Oper → Tm → Hp → (Tm → Hp → Prop) → Prop
  | [], tm, h, K => K tm h
  | o :: rest, tm, h, K => gcond all tm o (stepF P o tm h fun v h' => regSeq P n all rest (tm.put o.dst v) h' K) (regSeq P n all rest (tm.put o.dst (.tup [])) h K)

theorem gcond_ok {arr : Array Oper} {n : Nat} {tm : Tm} {a : Act} {o : Oper} {A B : Prop} (hf : FRel n tm X w a) (hn : ∀ o ∈ arr.toList, dstOk n o) (hg : gcond arr.toList tm o A B) :
    (Region.wanted o (yielded arr a.tmps) = true ∧ A) ∨ (Region.wanted o (yielded arr a.tmps) = false ∧ B) := by
  unfold gcond at hg
  unfold Region.wanted
  split at hg
  · rename_i e
    simp [e, hg]
  · rename_i j want e
    simp only [e]
    split at hg
    · rename_i d hd
      have hv := hf.2 d
      unfold gval at hg
      simp only [Array.getElem?_toList] at hd
      have hlt : d < a.tmps.size := by
        rw [hf.1]
        obtain ⟨oj, h1, h2⟩ := Option.bind_eq_some_iff.1 hd
        have := hn oj (by simpa using Array.mem_of_getElem? h1)
        simpa [dstOk, h2] using this
      have hy : yielded arr a.tmps j = match a.tmps[d] with | .bool b => some b | _ => none := by
        unfold yielded
        rw [hd]
        simp only [Option.bind_some, Array.getElem?_eq_getElem hlt]
        cases a.tmps[d] <;> rfl
      have hgd : a.tmps.getD d undef = a.tmps[d] := by simp [Array.getD_eq_getD_getElem?, hlt]
      rw [hgd] at hv
      split at hg
      · rename_i b hb
        rw [hb] at hv
        cases hc : a.tmps[d] <;> rw [hc] at hv <;> cases hv
        rw [hc] at hy
        simp only [hy]
        split at hg
        · rename_i e2; subst e2; exact .inl ⟨by simp, hg⟩
        · rename_i e2; exact .inr ⟨by simpa using e2, hg⟩
      · rename_i hb
        rw [hb] at hv
        cases hc : a.tmps[d] <;> rw [hc] at hv <;> cases hv
        rw [hc] at hy
        exact .inr ⟨by simp [hy], hg⟩
      · exact hg.elim
    · exact hg.elim

def fen (ro : Option Nat) : Fence := { Fence.wide with round := ro }

theorem about_wide (ro : Option Nat) (o : Oper) (ρ : Operand → Value) (w : World) : ∀ f, o.about P w ρ = some f → (fen ro).fn f := fun _ _ => trivial

theorem callsIn_fen {ro : Option Nat} {n : Nat} {f : FuncId} {args : Array Value} {w : World} {R : Ending → World → Prop} (hc : Calls P f args w R) : CallsIn (fen ro) n P f args w R := by
  cases ro with
  | none => exact callsIn_wide.2 hc
  | some l => exact CallsIn.inRound l (callsIn_wide.2 hc)

theorem roundIn_fen {ro : Option Nat} {l f : Nat} {tmps : Array Value} {assign body : Code} {w : World} {R : Ending → World → Prop} (hc : RoundIn Fence.wide 0 P l f tmps assign body w R) : RoundIn (fen ro) 0 P l f tmps assign body w R := hc

theorem evA_map {n : Nat} {tm : Tm} {a : Act} (hf : FRel n tm X w a) (args : Array Operand) : VRelL X w (args.toList.map (evA tm)) (args.map a.eval).toList := by
  refine ⟨by simp, fun j x c hx hc => ?_⟩
  exact vrels_of (fun x => hf.eval x) args j x c hx (by simpa using hc)

/-- One operation, as the fenced walk takes it. -/
theorem stepF_ok {ro : Option Nat} {n : Nat} {tm : Tm} {a : Act} {o : Oper} {K : AV → Hp → Prop} {next : Act → World → Prop} {Q : Exit → Act → World → Prop} (H : HRel h X w) (hf : FRel n tm X w a) (hd : dstOk n o) (hs : stepF P o tm h K)
    (hnext : ∀ v h' c X' w', K v h' → Ev X w X' w' → VRel X' w' v c → HRel h' X' w' → next (a.put o.dst c) w') : o.wpIn (fen ro) 0 P a w next Q := by
  unfold stepF at hs
  refine ⟨about_wide ro o a.eval w, ?_⟩
  split at hs
  · rename_i f args hc
    have hop : ∃ ts, o.op = .call { callee := .value f, args := args, argTypes := ts } := by
      unfold callee? at hc
      split at hc
      · rename_i e
        simp only [Option.some.injEq, Prod.mk.injEq] at hc
        obtain ⟨rfl, rfl⟩ := hc
        exact ⟨_, e⟩
      · simp at hc
    obtain ⟨ts, hop⟩ := hop
    have hsem : o.semAt (fen ro).round a.eval = execOp a.eval o := Oper.semAt_eq _ _ _ (fun c => by rw [hop]; simp)
    rw [hsem]
    obtain ⟨d, h1, h2⟩ := hs X w (a.eval f) (args.map a.eval) H (hf.eval f) (evA_map hf args)
    have hrun : (execOp a.eval o).run P w = (invoke d.target d.args).run P w := by
      simp only [execOp, hop, resolve, Sem.run_bind, h1, Result.andThen_ok]
    rw [hrun]
    split at h2
    · rename_i v w' hr
      rw [hr]
      obtain ⟨X', r, h', h3, h4, h5, h6⟩ := h2
      exact hnext r h' v X' w' h3 h4 h5 h6
    · rename_i f' as w' hr
      rw [hr]
      refine ⟨by simp [fen, Fence.wide], callsIn_fen (h2.mono ?_)⟩
      rintro e w'' ⟨v, rfl, X', r, h', h3, h4, h5, h6⟩
      exact hnext r h' v X' w'' h3 h4 h5 h6
    · rename_i l f' tmps assign body w' hr
      rw [hr]
      refine ⟨by simp [fen, Fence.wide], roundIn_fen (h2.mono ?_)⟩
      rintro e w'' ⟨v, rfl, X', r, h', h3, h4, h5, h6⟩
      exact hnext r h' v X' w'' h3 h4 h5 h6
    · exact h2.elim
  · rename_i hc
    unfold optK at hs
    split at hs
    · rename_i r hr
      obtain ⟨v, ef⟩ := r
      obtain ⟨c, w', X', h1, h2, h3, h4, h5⟩ := opD_ok H (fun x => hf.eval x) (fun hu => by have := H.lt _ hu; omega) hr
      have hnd : ∀ c, o.op ≠ .defer c := fun c hcc => by rw [hcc] at hr; simp [opD] at hr
      have hsem : o.semAt (fen ro).round a.eval = execOp a.eval o := Oper.semAt_eq _ _ _ hnd
      rw [hsem]
      rcases h1 with h1 | ⟨h1, rfl⟩
      · rw [h1]; exact hnext v _ c X' w' hs h2 h3 h4
      · rw [h1]; exact hnext v _ undef X' w' hs h2 h3 h4
    · exact hs.elim

theorem regSeq_ok {ro : Option Nat} {n : Nat} {arr : Array Oper} {Q : Exit → Act → World → Prop} {K : Tm → Hp → Prop} {X0 : Cx} {w0 : World} {D : List Deferred}
    (hn : ∀ o ∈ arr.toList, dstOk n o) (hQ : ∀ tm h X w a, K tm h → Ev X0 w0 X w → FRel n tm X w a → HRel h X w → a.defers = D → Q .normal a w) :
    ∀ (ops : List Oper) (i : Nat) (tm : Tm) (h : Hp) (X : Cx) (w : World) (a : Act), arr.toList.drop i = ops → Ev X0 w0 X w → FRel n tm X w a → HRel h X w → a.defers = D → regSeq P n arr.toList ops tm h K →
      wpOpsIn (fen ro) 0 P arr Q (List.range' i ops.length) a w
  | [], i, tm, h, X, w, a, _, hev, hf, H, hD, hr => by
    simp only [List.length_nil, List.range'_zero, wpOpsIn]
    exact hQ tm h X w a hr hev hf H hD
  | o :: rest, i, tm, h, X, w, a, he, hev, hf, H, hD, hr => by
    have hi : arr[i]? = some o := by
      have : (arr.toList.drop i)[0]? = some o := by rw [he]; rfl
      simpa using this
    have hd : dstOk n o := hn o (by simpa using Array.mem_of_getElem? hi)
    simp only [regSeq] at hr
    have he' : arr.toList.drop (i + 1) = rest := by
      rw [← List.drop_drop, he]; rfl
    simp only [List.length_cons, List.range'_succ, wpOpsIn, hi]
    rcases gcond_ok hf hn hr with ⟨h1, h2⟩ | ⟨h1, h2⟩
    · rw [if_pos h1]
      refine stepF_ok H hf hd h2 fun v h' c X' w' h3 h4 h5 h6 => ?_
      refine regSeq_ok hn hQ rest (i + 1) _ h' X' w' _ he' (hev.trans h4) ((hf.mono H.ok h4).put h5 fun t ht => by simpa [dstOk, ht] using hd) h6 ?_ h3
      cases o.dst <;> exact hD
    · rw [if_neg (by simp [h1])]
      refine ⟨about_wide ro o a.eval w, ?_⟩
      refine regSeq_ok hn hQ rest (i + 1) _ h X w _ he' hev (hf.put (.tup [] #[] rfl fun j a c ha => by simp at ha) fun t ht => by simpa [dstOk, ht] using hd) H ?_ h2
      cases o.dst <;> exact hD
end
end Go.Proofs.YtfdfkmcplhloaaaGreat
end

section
set_option linter.unusedSimpArgs false
set_option linter.unusedVariables false
namespace Go.Proofs.YtfdfkmcplhloaaaGreat

def markOf (r : Nat) : Deferred := { target := .collected r, args := #[] }

/-- The marks of ranges over functions that a frame bears. -/
def DRel (ro : Option Nat) (B : Nat) (X : Cx) (w : World) (df : List Deferred) : Prop :=
  match ro with
  | some _ => df = []
  | none => ∃ rs : List Nat, df = rs.map markOf ∧ rs.Nodup ∧ ∀ r ∈ rs, B ≤ r ∧ w.heap[r]? = some (.deferred (some [])) ∧ ¬ X.Owned r ∧ ¬ X.imm r

def EndsAt : Exit → List Item → Prop
  | .normal, k => k = []
  | .ret, k => ∃ k', k = .code .ret :: k'
  | .exit id, k => ∃ k', k = .code (.exit id) :: k' ∧ exitTo id k' = none
  | _, _ => False

/-- From here to the end of the frame. -/
def wpT (P : Program) (ro : Option Nat) (n : Nat) (todo : List Item) (R : Exit → Tm → Hp → Prop) (tm : Tm) (h : Hp) : Prop :=
  ∀ (X : Cx) (w : World) (b : Frame) (cs : List Frame) (a : Act) (B : Nat), b.roundOf = ro → b.kind = .normal → B ≤ w.heap.size → FRel n tm X w a → HRel h X w → DRel ro B X w a.defers →
    ∃ e tm' h' X' w' a' todo', R e tm' h' ∧ EndsAt e todo' ∧ Ev X w X' w' ∧ FRel n tm' X' w' a' ∧ HRel h' X' w' ∧ DRel ro B X' w' a'.defers ∧ Steps P (lone (b.atR a todo) cs w) (lone (b.atR a' todo') cs w')

section
variable {P : Program} {X : Cx} {w : World} {h : Hp} {ro : Option Nat} {n : Nat} {R : Exit → Tm → Hp → Prop} {tm : Tm} {k : List Item}

theorem DRel.mono {B : Nat} {X' : Cx} {w' : World} {df : List Deferred} (hd : DRel ro B X w df) (he : Ev X w X' w') : DRel ro B X' w' df := by
  cases ro with
  | some l => exact hd
  | none =>
    obtain ⟨rs, h1, h2, h3⟩ := hd
    refine ⟨rs, h1, h2, fun r hr => ?_⟩
    obtain ⟨h4, h5, h6, h7⟩ := h3 r hr
    have hlt : r < w.heap.size := (Array.getElem?_eq_some_iff.1 h5).1
    refine ⟨h4, (he.kept r hlt h6).trans h5, fun ho => ?_, fun hi => ?_⟩
    · rcases he.owned r ho with h8 | h8
      · exact h6 h8
      · omega
    · rcases he.imm' r hi with h8 | h8 | h8
      · exact h7 h8
      · exact h6 h8
      · omega

theorem wpT.mono {R' : Exit → Tm → Hp → Prop} {todo : List Item} (hw : wpT P ro n todo R tm h) (hr : ∀ e tm h, R e tm h → R' e tm h) : wpT P ro n todo R' tm h :=
  fun X w b cs a B h1 h2 h3 h4 h5 h6 => let ⟨e, tm', h', X', w', a', todo', g1, g2⟩ := hw X w b cs a B h1 h2 h3 h4 h5 h6; ⟨e, tm', h', X', w', a', todo', hr _ _ _ g1, g2⟩

/-- A step that turns neither frame nor world. -/
theorem wpT_step {todo todo2 : List Item} (hs : ∀ (w : World) (b : Frame) (cs : List Frame) (a : Act), b.roundOf = ro → (∀ x, ∀ X, FRel n tm X w a → VRel X w (evA tm x) (a.eval x)) → (∃ X, FRel n tm X w a) → step P (lone (b.atR a todo) cs w) = .next (lone (b.atR a todo2) cs w))
    (hw : wpT P ro n todo2 R tm h) : wpT P ro n todo R tm h := by
  intro X w b cs a B h1 h2 h3 h4 h5 h6
  obtain ⟨e, tm', h', X', w', a', todo', g1, g2, g3, g4, g5, g6, g7⟩ := hw X w b cs a B h1 h2 h3 h4 h5 h6
  exact ⟨e, tm', h', X', w', a', todo', g1, g2, g3, g4, g5, g6, .head (hs w b cs a h1 (fun x X hf => hf.eval x) ⟨X, h4⟩) g7⟩

theorem wpT_skip (hw : wpT P ro n k R tm h) : wpT P ro n (.code .skip :: k) R tm h := wpT_step (fun _ _ _ _ _ _ _ => stepR_skip) hw
theorem wpT_label {l : Nat} (hw : wpT P ro n k R tm h) : wpT P ro n (.code (.label l) :: k) R tm h := wpT_step (fun _ _ _ _ _ _ _ => stepR_label) hw
theorem wpT_seq {x y : Code} (hw : wpT P ro n (.code x :: .code y :: k) R tm h) : wpT P ro n (.code (.seq x y) :: k) R tm h := wpT_step (fun _ _ _ _ _ _ _ => stepR_seq) hw
theorem wpT_block {id : Nat} {c : Code} (hw : wpT P ro n (.code c :: .inBlock id :: k) R tm h) : wpT P ro n (.code (.block id c) :: k) R tm h := wpT_step (fun _ _ _ _ _ _ _ => stepR_block) hw
theorem wpT_inBlock {id : Nat} (hw : wpT P ro n k R tm h) : wpT P ro n (.inBlock id :: k) R tm h := wpT_step (fun _ _ _ _ _ _ _ => stepR_inBlock) hw
theorem wpT_loop {c : Code} (hw : wpT P ro n (.inLoop c :: k) R tm h) : wpT P ro n (.code (.loop c) :: k) R tm h := by
  intro X w b cs a B h1 h2 h3 h4 h5 h6
  obtain ⟨e, tm', h', X', w', a', todo', g1, g2, g3, g4, g5, g6, g7⟩ := hw X w b cs a B h1 h2 h3 h4 h5 h6
  refine ⟨e, tm', h', X', w', a', todo', g1, g2, g3, g4, g5, g6, ?_⟩
  -- both come to the same machine in one step
  obtain ⟨m, hm⟩ := g7
  cases m with
  | zero =>
    simp only [runN, Stepped.next.injEq] at hm
    have h7 : todo' = .inLoop c :: k := by
      have := congrArg (fun m : Machine => (m.gs[0]?).map fun g => g.frame.todo) hm
      simpa [lone, Frame.atR] using this.symm
    subst h7
    cases e <;> simp [EndsAt] at g2
  | succ m =>
    refine ⟨m + 1, ?_⟩
    simp only [runN, stepR_inLoop, stepR_loop] at hm ⊢
    exact hm
theorem wpT_inLoop {c : Code} (hw : wpT P ro n (.code c :: .inLoop c :: k) R tm h) : wpT P ro n (.inLoop c :: k) R tm h := wpT_step (fun _ _ _ _ _ _ _ => stepR_inLoop) hw
theorem wpT_exit {id : Nat} {k' : List Item} (he : exitTo id k = some k') (hw : wpT P ro n k' R tm h) : wpT P ro n (.code (.exit id) :: k) R tm h := wpT_step (fun _ _ _ _ _ _ _ => stepR_exit he) hw

theorem wpT_cond {c : Operand} {x y : Code} {t : Bool} (hc : evA tm c = .bool t) (hw : wpT P ro n (.code (if t = true then x else y) :: k) R tm h) : wpT P ro n (.code (.cond c x y) :: k) R tm h := by
  refine wpT_step (fun w b cs a _ hev hX => ?_) hw
  obtain ⟨X, hX⟩ := hX
  have h1 := hev c X hX
  rw [hc] at h1
  cases hcv : a.eval c <;> rw [hcv] at h1 <;> cases h1
  exact stepR_cond hcv

theorem wpT_end (hr : R .normal tm h) : wpT P ro n [] R tm h :=
  fun X w b cs a B _ _ _ h4 h5 h6 => ⟨.normal, tm, h, X, w, a, [], hr, rfl, Ev.refl X w, h4, h5, h6, .refl P _⟩
theorem wpT_ret (hr : R .ret tm h) : wpT P ro n (.code .ret :: k) R tm h :=
  fun X w b cs a B _ _ _ h4 h5 h6 => ⟨.ret, tm, h, X, w, a, .code .ret :: k, hr, ⟨k, rfl⟩, Ev.refl X w, h4, h5, h6, .refl P _⟩
theorem wpT_out {id : Nat} (he : exitTo id k = none) (hr : R (.exit id) tm h) : wpT P ro n (.code (.exit id) :: k) R tm h :=
  fun X w b cs a B _ _ _ h4 h5 h6 => ⟨.exit id, tm, h, X, w, a, .code (.exit id) :: k, hr, ⟨k, rfl, he⟩, Ev.refl X w, h4, h5, h6, .refl P _⟩

def regOk (n : Nat) (ops : List Oper) : Bool := ops.all fun o => match o.dst with | some d => decide (d < n) | none => true
theorem regOk_spec {ops : List Oper} (hr : regOk n ops = true) : ∀ o ∈ ops, dstOk n o := by
  intro o ho
  have := List.all_eq_true.1 hr o ho
  unfold dstOk
  split <;> simp_all

theorem room_fen (ro : Option Nat) (m : Nat) : (fen ro).room m := fun _ hd => by simp [fen, Fence.wide] at hd

/-- A region, as the walk of its operations says. -/
theorem wpT_ofRegion {id : Nat} {ops : Array Oper} {draw : Bool} {K : Tm → Hp → Prop}
    (hreg : ∀ (X : Cx) (w : World) (a : Act), FRel n tm X w a → HRel h X w → (Code.region id ops draw).wpIn (fen ro) 0 P (fun e a' w' => e = .normal ∧ a'.defers = a.defers ∧ ∃ tm' h' X', K tm' h' ∧ Ev X w X' w' ∧ FRel n tm' X' w' a' ∧ HRel h' X' w') a w)
    (hk : ∀ tm' h', K tm' h' → wpT P ro n k R tm' h') : wpT P ro n (.code (.region id ops draw) :: k) R tm h := by
  intro X w b cs a B h1 h2 h3 h4 h5 h6
  obtain ⟨e, a1, w1, ⟨rfl, hdf, tm1, h1', X1, hK, hev, hf1, H1⟩, harr⟩ := hreg X w a h4 h5 b k cs h1 trivial (room_fen ro _)
  obtain ⟨e, tm', h', X', w', a', todo', g1, g2, g3, g4, g5, g6, g7⟩ := hk tm1 h1' hK X1 w1 b cs a1 B h1 h2 (Nat.le_trans h3 hev.size) hf1 H1 (by rw [hdf]; exact h6.mono hev)
  exact ⟨e, tm', h', X', w', a', todo', g1, g2, hev.trans g3, g4, g5, g6, Steps.trans (StepsIn.steps harr) g7⟩

theorem wpT_region {id : Nat} {l : List Oper} (hok : regOk n l = true) (hw : ∀ K : Tm → Hp → Prop, (∀ tm' h', wpT P ro n k R tm' h' → K tm' h') → regSeq P n l l tm h K) :
    wpT P ro n (.code (.region id l.toArray false) :: k) R tm h := by
  let ops := l.toArray
  refine wpT_ofRegion (K := fun tm' h' => wpT P ro n k R tm' h') (fun X w a hf H => ?_) (fun _ _ hk => hk)
  refine wpIn_region ?_
  have := regSeq_ok (ro := ro) (P := P) (arr := ops) (n := n) (X0 := X) (w0 := w) (D := a.defers) (K := fun tm' h' => wpT P ro n k R tm' h')
    (Q := fun e a' w' => e = .normal ∧ a'.defers = a.defers ∧ ∃ tm' h' X', wpT P ro n k R tm' h' ∧ Ev X w X' w' ∧ FRel n tm' X' w' a' ∧ HRel h' X' w') (regOk_spec (by simpa [ops] using hok))
    (fun tm h X w a hK hev hf H hD => ⟨rfl, hD, tm, h, X, hK, hev, hf, H⟩) ops.toList 0 tm h X w a rfl (Ev.refl X w) hf H rfl (by simpa [ops] using hw _ fun _ _ h => h)
  rw [List.range_eq_range']
  simpa [ops] using this

/-! ### A function's results -/
def resA (P : Program) (tm : Tm) (h : Nat → Option Ob) : List ResultVar → Option (List AV)
  | [] => some []
  | .tmp t :: rs => (resA P tm h rs).map fun l => tm t :: l
  | .cell a t :: rs => (opLoad P t (tm a) h).bind fun v => (resA P tm h rs).map fun l => v :: l

def retA : List AV → AV
  | [v] => v
  | vs => .tup vs

theorem run_cell (H : HRel h X w) {t : TypeId} {a v : AV} {c : Value} (ha : VRel X w a c) (hl : opLoad P t a h.get = some v) : ∃ cv, (do loadVar t (← asAddr c) : Sem Value).run P w = .ok cv w ∧ VRel X w v cv := by
  obtain ⟨cv, h1, h2⟩ := opLoad_ok H ha hl
  refine ⟨cv, ?_, h2⟩
  unfold Instr.loadAt at h1
  have key : ∀ c, (Instr.sureAddr c >>= loadVar t).run P w = .ok cv w → ∃ ad, c = .pointer (some ad) := by
    intro c hc
    cases c <;> simp [Instr.sureAddr] at hc
    rename_i o
    cases o with
    | none => simp [Instr.sureAddr] at hc
    | some ad => exact ⟨ad, rfl⟩
  obtain ⟨ad, rfl⟩ := key c h1
  simpa [Instr.sureAddr, asAddr] using h1

def resF (tmps : Array Value) : ResultVar → Sem Value
  | .tmp t => pure (tmps.getD t undef)
  | .cell x t => do loadVar t (← asAddr (tmps.getD x undef))

theorem results_eq (fn : Func) (tmps : Array Value) : results fn tmps = (fn.results.mapM (resF tmps) >>= fun vs => pure (if h : vs.size = 1 then vs[0] else .tuple vs)) := by
  unfold results
  congr 1

theorem run_results (H : HRel h X w) {a : Act} (hf : FRel n tm X w a) : ∀ (rs : List ResultVar) (vs : List AV), resA P tm h.get rs = some vs →
    ∃ cs : List Value, (rs.mapM (resF a.tmps)).run P w = .ok cs w ∧ VRelL X w vs cs
  | [], vs, hr => by
    obtain rfl := Option.some.inj hr
    exact ⟨[], by simp, VRelL.nil⟩
  | .tmp t :: rs, vs, hr => by
    simp only [resA, Option.map_eq_some_iff] at hr
    obtain ⟨l, hl, rfl⟩ := hr
    obtain ⟨cs, h1, h2⟩ := run_results H hf rs l hl
    refine ⟨a.tmps.getD t undef :: cs, ?_, (VRelL.one (hf.2 t)).append h2⟩
    simp only [List.mapM_cons, resF, Sem.run_bind, Sem.run_pure, Result.andThen_ok, h1]
  | .cell x t :: rs, vs, hr => by
    simp only [resA, Option.bind_eq_some_iff, Option.map_eq_some_iff] at hr
    obtain ⟨v, hv, l, hl, rfl⟩ := hr
    obtain ⟨cs, h1, h2⟩ := run_results H hf rs l hl
    obtain ⟨cv, h3, h4⟩ := run_cell H (hf.2 x) hv
    refine ⟨cv :: cs, ?_, (VRelL.one h4).append h2⟩
    rw [List.mapM_cons, Sem.run_bind]
    simp only [resF]
    rw [h3]
    simp only [Result.andThen_ok, Sem.run_bind, h1, Sem.run_pure]

theorem results_ok (H : HRel h X w) {a : Act} (hf : FRel n tm X w a) {fn : Func} {vs : List AV} (hr : resA P tm h.get fn.results.toList = some vs) : ∃ c, (results fn a.tmps).run P w = .ok c w ∧ VRel X w (retA vs) c := by
  obtain ⟨cs, h1, h2⟩ := run_results H hf _ _ hr
  rw [results_eq, Sem.run_bind, Array.mapM_eq_mapM_toList, Sem.run_map, h1]
  refine ⟨(if h : cs.length = 1 then cs[0] else .tuple cs.toArray), ?_, ?_⟩
  · simp only [Result.andThen_ok, Sem.run_pure]
    try rfl
  · have hl := h2.1
    match vs, hl, h2 with
    | [], hl, h2 =>
      have : cs = [] := List.eq_nil_of_length_eq_zero hl
      subst this
      exact .tup [] #[] rfl fun j a c ha => by simp at ha
    | [v], hl, h2 =>
      have hl' : cs.length = 1 := hl
      rw [dif_pos hl']
      exact h2.2 0 v _ rfl (by simp [hl'])
    | v1 :: v2 :: vs, hl, h2 =>
      rw [dif_neg (by rw [hl]; simp)]
      exact .tup _ _ (by simpa using hl) fun j a c ha hc => h2.2 j a c ha (by simpa using hc)

/-! ### Leaving -/
theorem VRel.world {w' : World} (hk : ∀ b, X.imm b → w'.heap[b]? = w.heap[b]?) {a : AV} {c : Value} (h : VRel X w a c) : VRel X w' a c := by
  induction h with
  | junk c => exact .junk c
  | int k n => exact .int k n
  | bool b => exact .bool b
  | str s => exact .str s
  | nilp => exact .nilp
  | nilf => exact .nilf
  | nilm => exact .nilm
  | nil0 A => exact .nil0 A
  | lnil A cap => exact .lnil A cap
  | lst xs fs s ad len cap h0 hc hs hi hf ho hw hr ih => exact .lst xs fs s ad len cap h0 hc hs hi hf ho (fun j u hu => (cell_of_heap (by rw [add_block]; exact hk _ hi)).trans (hw j u hu)) ih
  | cptr v fs ad hi hf hok' ho hw hr ih => exact .cptr v fs ad hi hf hok' ho (fun j u hu => (cell_of_heap (by rw [add_block]; exact hk _ hi)).trans (hw j u hu)) ih
  | agg xs cs hl ho hr ih => exact .agg xs cs hl ho ih
  | tup xs cs hl hr ih => exact .tup xs cs hl ih
  | fn f x1 x2 c1 c2 h1 h2 r1 r2 ih1 ih2 => exact .fn f x1 x2 c1 c2 h1 h2 ih1 ih2
  | sl id tot off len c ho hid hv => exact .sl id tot off len c ho hid hv
  | ptr id tot i off c ho hid hv => exact .ptr id tot i off c ho hid hv
  | map id c ho hid hv => exact .map id c ho hid hv
  | cmap ks vs b es clock hi hb h1 h2 r1 r2 ih1 ih2 => exact .cmap ks vs b es clock hi ((hk _ hi).trans hb) h1 h2 ih1 ih2

theorem ORel.world {w' : World} {id : Nat} {o : Ob} (hk : ∀ b, X.imm b → w'.heap[b]? = w.heap[b]?) (hb : ∀ r b, X.own id = some r → blockOf r.cv = some b → w'.heap[b]? = w.heap[b]?) (h : ORel X w id o) : ORel X w' id o := by
  cases o with
  | arr E s es =>
    obtain ⟨cv, xs, h1, h2, h3, h4, h5⟩ := h
    exact ⟨cv, xs, h1, h2.kept (fun b hb' => hb _ b h1 hb'), h3, h4, h5.1, fun j a c ha hc => (h5.2 j a c ha hc).world hk⟩
  | map kt et ks vs =>
    obtain ⟨r, es, clock, h1, h2, h3, h4, h5, h6⟩ := h
    exact ⟨r, es, clock, h1, (hb _ r h1 rfl).trans h2, h3, h4, fun j a c ha hc => (h5 j a c ha hc).world hk, fun j a c ha hc => (h6 j a c ha hc).world hk⟩
  | loop l fn ps assign body tm nt st pend =>
    obtain ⟨r, h1, h2, h3, h4⟩ := h
    exact ⟨r, h1, (hb _ l h1 rfl).trans h2, h3, fun t => (h4 t).world hk⟩

theorem HRel.world {w' : World} (H : HRel h X w) (hs : w.heap.size ≤ w'.heap.size) (hk : ∀ b, X.imm b → w'.heap[b]? = w.heap[b]?) (ho : ∀ b, X.Owned b → w'.heap[b]? = w.heap[b]?) : HRel h X w' :=
  ⟨⟨fun b hb => ⟨Nat.lt_of_lt_of_le (H.ok.imm b hb).1 hs, (H.ok.imm b hb).2⟩, H.ok.ids, fun id r b h1 h2 => Nat.lt_of_lt_of_le (H.ok.blk id r b h1 h2) hs, H.ok.inj⟩, H.lt, H.dead,
    fun id o hg => (H.obj id o hg).world hk fun r b h1 h2 => ho b ⟨id, r, h1, h2⟩⟩

theorem leaves_ok {fn : Func} {tmps : Array Value} {R : Ending → World → Prop} {X0 : Cx} {w0 : World} (hres : ∀ w', Ev X0 w0 X w' → HRel h X w' → (∀ b, X.imm b → w'.heap[b]? = w.heap[b]?) → ∃ v, (results fn tmps).run P w' = .ok v w' ∧ R (.returned v) w') :
    ∀ (rs : List Nat) (w1 : World), rs.Nodup → (∀ r ∈ rs, w0.heap.size ≤ r ∧ w1.heap[r]? = some (.deferred (some [])) ∧ ¬ X.Owned r ∧ ¬ X.imm r) → Ev X0 w0 X w1 → HRel h X w1 → (∀ b, X.imm b → w1.heap[b]? = w.heap[b]?) →
      LeavesInM Fence.wide 0 P fn tmps R (rs.map markOf) .returning w1
  | [], w1, _, _, hev, H, hi => by
    obtain ⟨v, h1, h2⟩ := hres w1 hev H hi
    exact ⟨v, h1, h2⟩
  | r :: rs, w1, hnd, hr, hev, H, hi => by
    obtain ⟨h1, h2, h3, h4⟩ := hr r (by simp)
    have hlt : r < w1.heap.size := (Array.getElem?_eq_some_iff.1 h2).1
    have hnd' := List.nodup_cons.1 hnd
    have hother : ∀ b, b ≠ r → (w1.putObj r (.deferred none)).heap[b]? = w1.heap[b]? := fun b hb => World.putObj_heap_other hb
    have hsz : (w1.putObj r (.deferred none)).heap.size = w1.heap.size := by simp [World.putObj]
    have hki : ∀ b, X.imm b → (w1.putObj r (.deferred none)).heap[b]? = w1.heap[b]? := fun b hb => hother b (fun e => h4 (e ▸ hb))
    have hko : ∀ b, X.Owned b → (w1.putObj r (.deferred none)).heap[b]? = w1.heap[b]? := fun b hb => hother b (fun e => h3 (e ▸ hb))
    refine ⟨by simp, .inl ⟨r, w1.putObj r (.deferred none), rfl, run_takeDeferred h2, ?_⟩⟩
    refine leaves_ok hres rs _ hnd'.2 (fun r' hr' => ?_) ?_ (H.world (by omega) hki hko) (fun b hb => (hki b hb).trans (hi b hb))
    · obtain ⟨g1, g2, g3, g4⟩ := hr r' (by simp [hr'])
      exact ⟨g1, (hother r' (fun e => hnd'.1 (e ▸ hr'))).trans g2, g3, g4⟩
    · exact ⟨hev.os, hev.tape, hev.output, by rw [hsz]; exact hev.size, fun b hb hno => (hother b (by omega)).trans (hev.kept b hb hno), hev.owned, hev.imm, hev.imm', hev.used, hev.ids⟩

/-! ### A contract -/
def tm0 (l : List AV) : Tm := fun t => l.getD t .junk

theorem VRelL.toArray {as bs : List AV} {cs ds : Array Value} (h1 : VRelL X w as cs.toList) (h2 : VRelL X w bs ds.toList) : VRelL X w (as ++ bs) (cs ++ ds).toList := by
  rw [Array.toList_append]; exact h1.append h2

theorem callV_func {f : FuncId} {fn : Func} {c : Code} {first caps args : List AV} {K : AV → Hp → Prop} (hf : P.funcs[f]? = some fn) (hb : fn.body = some c) (hname : (fn.name == "runtime.NumGoroutine") = false)
    (hlen : (first ++ args ++ caps).length ≤ fn.ntmps)
    (hw : wpT P none fn.ntmps [.code c] (fun e tm' h' => (e = .normal ∨ e = .ret) ∧ optK (resA P tm' h'.get fn.results.toList) fun vs => K (retA vs) h') (tm0 (first ++ args ++ caps)) h) :
    CallV P (.fn (.func f) first caps) args h K := by
  intro X w cf cargs H hfv hargs
  cases hfv with
  | fn _ _ _ c1 c2 h1 h2 r1 r2 =>
    refine ⟨{ target := .fn (.func f) c2, args := c1 ++ cargs }, rfl, ?_⟩
    have hrun : (invoke (.fn (.func f) c2) (c1 ++ cargs)).run P w = .ok (.enter f (c1 ++ cargs ++ c2)) w := by
      have hname' : ¬ fn.name = "runtime.NumGoroutine" := by simpa using hname
      simp [invoke, callFunc, hf, hname', hb]
    simp only [hrun]
    intro cs
    have hall : VRelL X w (first ++ args ++ caps) (c1 ++ cargs ++ c2).toList :=
      VRelL.toArray (VRelL.toArray ⟨by simpa using h1, fun j a c ha hc => r1 j a c ha (by simpa using hc)⟩ hargs) ⟨by simpa using h2, fun j a c ha hc => r2 j a c ha (by simpa using hc)⟩
    have hsz : (c1 ++ cargs ++ c2).size = (first ++ args ++ caps).length := by simpa using hall.1
    let b : Frame := { (default : Frame) with fn := f, kind := .normal, roundOf := none }
    have henter : Frame.enter P f (c1 ++ cargs ++ c2) .normal = b.atR { tmps := (c1 ++ cargs ++ c2) ++ Array.replicate (fn.ntmps - (c1 ++ cargs ++ c2).size) undef, defers := [] } [.code c] := by
      simp [Frame.enter, Frame.atR, hf, hb, b]
    have hfr : FRel fn.ntmps (tm0 (first ++ args ++ caps)) X w { tmps := (c1 ++ cargs ++ c2) ++ Array.replicate (fn.ntmps - (c1 ++ cargs ++ c2).size) undef, defers := [] } := by
      refine ⟨by simp only [Array.size_append, Array.size_replicate] at hsz ⊢; omega, fun t => ?_⟩
      unfold tm0
      by_cases ht : t < (first ++ args ++ caps).length
      · have h3 : (first ++ args ++ caps)[t]? = some ((first ++ args ++ caps).getD t .junk) := by rw [List.getD_eq_getElem?_getD, List.getElem?_eq_getElem ht]; rfl
        have h4 : ((c1 ++ cargs ++ c2) ++ Array.replicate (fn.ntmps - (c1 ++ cargs ++ c2).size) undef).getD t undef = (c1 ++ cargs ++ c2)[t]'(by omega) := by
          rw [Array.getD_eq_getD_getElem?, Array.getElem?_append_left (by omega), Array.getElem?_eq_getElem (by omega)]; rfl
        rw [h4]
        exact hall.2 t _ _ h3 (by rw [Array.getElem?_toList, Array.getElem?_eq_getElem (by omega)])
      · rw [List.getD_eq_getElem?_getD, List.getElem?_eq_none (by omega)]
        exact .junk _
    obtain ⟨e, tm', h', X', w', a', todo', ⟨he, hK⟩, g2, g3, g4, g5, g6, g7⟩ := hw X w b cs _ w.heap.size rfl rfl (Nat.le_refl _) hfr H ⟨[], rfl, List.nodup_nil, by simp⟩
    obtain ⟨rs, d1, d2, d3⟩ := g6
    unfold optK at hK
    cases hra : resA P tm' h'.get fn.results.toList with
    | none => simp [hra] at hK
    | some vs =>
      simp only [hra] at hK
      have hl := leaves_ok (P := P) (X := X') (h := h') (w := w') (X0 := X) (w0 := w) (fn := fn) (tmps := a'.tmps)
        (R := fun e w'' => ∃ v, e = .returned v ∧ ∃ X' r h', K r h' ∧ Ev X w X' w'' ∧ VRel X' w'' r v ∧ HRel h' X' w'')
        (fun w'' hev H'' hi => by
          obtain ⟨cv, k1, k2⟩ := results_ok (fn := fn) H'' (⟨g4.1, fun t => (g4.2 t).world hi⟩ : FRel fn.ntmps tm' X' w'' a') hra
          exact ⟨cv, k1, cv, rfl, X', _, h', hK, hev, k2, H''⟩) rs w' d2 d3 g3 g5 (fun _ _ => rfl)
      rw [← henter] at g7
      have hstep : ∃ todo, Steps P (lone (b.atR a' todo') cs w') (lone { b.atR a' todo with mode := .returning } cs w') := by
        rcases he with rfl | rfl
        · obtain rfl : todo' = [] := g2
          exact ⟨[], .one (stepR_end rfl)⟩
        · obtain ⟨k', rfl⟩ := g2
          exact ⟨_, .one (stepR_ret rfl)⟩
      obtain ⟨todo, hstep⟩ := hstep
      obtain ⟨e', w'', fr', hR, hs, hfn, hl'⟩ := leaves_stepsInM (F := Fence.wide) (n := 0) (rs.map markOf) .returning w' { b.atR a' todo with mode := .returning } cs rfl d1 rfl hf rfl trivial (room_wide _) hl
      refine ⟨e', w'', fr', hR, ?_, hfn, hl'⟩
      exact Comes.of_steps (Steps.trans g7 hstep) (comesIn_wide.1 hs)
end
end Go.Proofs.YtfdfkmcplhloaaaGreat
end

section
set_option linter.unusedSimpArgs false
set_option linter.unusedVariables false
namespace Go.Proofs.YtfdfkmcplhloaaaGreat
section
variable {P : Program} {n : Nat} {all rest : List Oper} {tm : Tm} {h : Hp} {K : Tm → Hp → Prop} {Kv : AV → Hp → Prop}

/-- One operation in a region. -/
def stepO (P : Program) (op : Op) (tm : Tm) (h : Hp) (K : AV → Hp → Prop) : Prop :=
  match callee? op with
  | some (f, args) => CallV P (evA tm f) (args.toList.map (evA tm)) h K
  | none => optK (opD P op tm h.get h.nx) fun r => K r.1 (h.app h.nx r.2)

/-- What follows an operation, as a word that simp does not look into. -/
def kont (P : Program) (n : Nat) (all rest : List Oper) (tm : Tm) (d : Option Nat) (K : Tm → Hp → Prop) : AV → Hp → Prop := fun v h => regSeq P n all rest (tm.put d v) h K
theorem kont_apply {d : Option Nat} {v : AV} : kont P n all rest tm d K v h = regSeq P n all rest (tm.put d v) h K := rfl

def guardO (P : Program) (n : Nat) (all : List Oper) (d : Option Nat) (op : Op) (rest : List Oper) (tm : Tm) (h : Hp) (K : Tm → Hp → Prop) (want : Bool) (v : AV) : Prop :=
  gval v want (stepO P op tm h (kont P n all rest tm d K)) (regSeq P n all rest (tm.put d (.tup [])) h K)
def guardJ (P : Program) (n : Nat) (all : List Oper) (d : Option Nat) (op : Op) (rest : List Oper) (tm : Tm) (h : Hp) (K : Tm → Hp → Prop) (want : Bool) (g : Option Nat) : Prop :=
  match g with
  | some g => guardO P n all d op rest tm h K want (tm g)
  | none => False
def dstAt (all : List Oper) (j : Nat) : Option Nat := (all[j]?).bind (·.dst)

theorem regSeq_nil : regSeq P n all [] tm h K = K tm h := rfl
theorem regSeq_cons {d : Option Nat} {op : Op} {ty : TypeId} {pos : String} {aft : Array Edge} : regSeq P n all (⟨d, op, ty, pos, aft, none⟩ :: rest) tm h K = stepO P op tm h (kont P n all rest tm d K) := rfl
theorem regSeq_guard {d : Option Nat} {j : Nat} {want : Bool} {op : Op} {ty : TypeId} {pos : String} {aft : Array Edge} : regSeq P n all (⟨d, op, ty, pos, aft, some (j, want)⟩ :: rest) tm h K =
    guardJ P n all d op rest tm h K want (dstAt all j) := by
  show gcond _ _ _ _ _ = _
  unfold gcond guardJ dstAt
  simp only
  cases (all[j]?).bind (·.dst) <;> rfl
theorem guardJ_some {d : Option Nat} {op : Op} {want : Bool} {g : Nat} : guardJ P n all d op rest tm h K want (some g) = guardO P n all d op rest tm h K want (tm g) := rfl
theorem guardO_bool {d : Option Nat} {op : Op} {want b : Bool} : guardO P n all d op rest tm h K want (.bool b) = if b = want then stepO P op tm h (kont P n all rest tm d K) else regSeq P n all rest (tm.put d (.tup [])) h K := rfl
theorem guardO_undef {d : Option Nat} {op : Op} {want : Bool} : guardO P n all d op rest tm h K want (.tup []) = regSeq P n all rest (tm.put d (.tup [])) h K := rfl
theorem dstAt_zero {o : Oper} {l : List Oper} : dstAt (o :: l) 0 = o.dst := rfl
theorem dstAt_succ {o : Oper} {l : List Oper} {j : Nat} : dstAt (o :: l) (j + 1) = dstAt l j := rfl

def maxA (x y : AV) : Option AV := match x, y with
  | .int k a, .int _ b => some (.int k (if b > a then b else a))
  | _, _ => none
def minA (x y : AV) : Option AV := match x, y with
  | .int k a, .int _ b => some (.int k (if b < a then b else a))
  | _, _ => none
def optV (o : Option AV) (Kv : AV → Hp → Prop) (h : Hp) : Prop := match o with | some v => Kv v h | none => False
def optE (o : Option (AV × Ef)) (Kv : AV → Hp → Prop) (h : Hp) : Prop := match o with | some p => Kv p.1 (h.app h.nx p.2) | none => False
def optS (o : Option Ef) (Kv : AV → Hp → Prop) (h : Hp) : Prop := match o with | some e => Kv .junk (h.app h.nx e) | none => False
theorem optV_some {v : AV} : optV (some v) Kv h = Kv v h := rfl
theorem optV_ite {c : Prop} [Decidable c] {a : Option AV} : optV (if c then a else none) Kv h = (c ∧ optV a Kv h) := by split <;> simp [*, optV]
theorem optE_non {v : AV} : optE (some (v, .non)) Kv h = Kv v h := rfl
theorem optE_set {v : AV} {id : Nat} {o : Ob} : optE (some (v, .set id o)) Kv h = Kv v (h.set id o) := rfl
theorem app_new {o : Ob} : h.app h.nx (.new o) = h.add o := by simp [Hp.app, Hp.add, Nat.max_eq_right]
theorem optE_new {v : AV} {o : Ob} : optE (some (v, .new o)) Kv h = Kv v (h.add o) := by simp only [optE, app_new]
theorem optE_ite {c : Prop} [Decidable c] {a : Option (AV × Ef)} : optE (if c then a else none) Kv h = (c ∧ optE a Kv h) := by split <;> simp [*, optE]
theorem optS_set {id : Nat} {o : Ob} : optS (some (.set id o)) Kv h = Kv .junk (h.set id o) := rfl

theorem stepO_pure {op : Op} {r : Option AV} (h1 : callee? op = none) (h2 : opD P op tm h.get h.nx = non r) : stepO P op tm h Kv = optV r Kv h := by
  unfold stepO
  simp only [h1, h2]
  cases r <;> rfl
theorem stepO_ef {op : Op} {r : Option (AV × Ef)} (h1 : callee? op = none) (h2 : opD P op tm h.get h.nx = r) : stepO P op tm h Kv = optE r Kv h := by
  unfold stepO
  simp only [h1, h2]
  cases r <;> rfl

theorem sx_move {x : Operand} : stepO P (.move x) tm h Kv = Kv (evA tm x) h := rfl
theorem sx_assign {x : Operand} : stepO P (.assign x) tm h Kv = Kv (evA tm x) h := rfl
def pickK (c a b : AV) (Kv : AV → Hp → Prop) (h : Hp) : Prop := match c with | .bool t => if t = true then Kv a h else Kv b h | _ => False
theorem pickK_bool {t : Bool} {a b : AV} : pickK (.bool t) a b Kv h = if t = true then Kv a h else Kv b h := rfl
theorem sx_pick {c a b : Operand} : stepO P (.pick c a b) tm h Kv = pickK (evA tm c) (evA tm a) (evA tm b) Kv h := by
  rw [stepO_ef rfl rfl]
  simp only [opD]
  cases evA tm c <;> first
    | rfl
    | (simp only [pickK, optE_non]; split <;> rfl)
theorem sx_load {t : TypeId} {a : Operand} : stepO P (.load t a) tm h Kv = optV (opLoad P t (evA tm a) h.get) Kv h := stepO_pure rfl rfl
theorem sx_build {t : TypeId} {ps : Array (Nat × Operand)} : stepO P (.build t ps) tm h Kv = optV (opBuild P t (ps.toList.map fun p => (p.1, evA tm p.2))) Kv h := stepO_pure rfl rfl
theorem sx_nilCheck {x : Operand} : stepO P (.nilCheck x) tm h Kv = optV (opNilCheck (evA tm x) h.get) Kv h := stepO_pure rfl rfl
theorem sx_bin {op : BinOp} {t t' : TypeId} {x y : Operand} : stepO P (.binOp op t x y t') tm h Kv = optV (opBinAny P op t (evA tm x) (evA tm y)) Kv h := stepO_pure rfl rfl
theorem sx_un {op : UnOp} {t : TypeId} {x : Operand} : stepO P (.unOp op t x) tm h Kv = optV (opUn op (evA tm x)) Kv h := stepO_pure rfl rfl
theorem sx_convert {s d : TypeId} {x : Operand} : stepO P (.convert s d x) tm h Kv = optV (opConvert P s d (evA tm x)) Kv h := stepO_pure rfl rfl
theorem sx_makeFunc {f : Fn} {a c : Array Operand} : stepO P (.makeFunc f a c) tm h Kv = Kv (.fn f (a.toList.map (evA tm)) (c.toList.map (evA tm))) h := rfl
theorem sx_slice {t : TypeId} {x : Operand} {lo hi : Option Operand} : stepO P (.slice t x lo hi none) tm h Kv = optV (opSlice P t (evA tm x) (lo.map (evA tm)) (hi.map (evA tm)) h.get) Kv h := stepO_pure rfl rfl
theorem optE_iteb {b : Bool} {a : Option (AV × Ef)} : optE (if b = true then a else none) Kv h = (b = true ∧ optE a Kv h) := optE_ite
theorem optE_pure {r : Option AV} : optE (non r) Kv h = optV r Kv h := by cases r <;> rfl
theorem sx_fieldAddr {t : TypeId} {x : Operand} {f : Nat} : stepO P (.fieldAddr t x f) tm h Kv = (live (evA tm x) h.get = true ∧ optV (opFieldAddr P t (evA tm x) f) Kv h) := by
  rw [stepO_ef rfl rfl]
  simp only [opD, optE_iteb, optE_pure]
theorem sx_field {t : TypeId} {x : Operand} {f : Nat} : stepO P (.field t x f) tm h Kv = optV (opField P t (evA tm x) f) Kv h := stepO_pure rfl rfl
theorem sx_indexAddr {t : TypeId} {x i : Operand} : stepO P (.indexAddr t x i) tm h Kv = (hasInfo P t = true ∧ optV (opIndexAddr P t (evA tm x) (evA tm i) h.get) Kv h) := by
  rw [stepO_ef rfl rfl]
  simp only [opD, optE_iteb, optE_pure]
theorem sx_extract {x : Operand} {i : Nat} : stepO P (.extract x i) tm h Kv = optV (opExtract (evA tm x) i) Kv h := stepO_pure rfl rfl
theorem sx_len {t : TypeId} {x : Operand} : stepO P (.call ⟨.builtin .len, #[x], #[t]⟩) tm h Kv = optV (opLen P t (evA tm x) h.get) Kv h := stepO_pure rfl rfl
theorem sx_append {t : TypeId} {s x : Operand} : stepO P (.call ⟨.builtin .append, #[s, x], #[t, t]⟩) tm h Kv = optE (opAppend P t (evA tm s) (evA tm x) h.get h.nx) Kv h := by
  rw [stepO_ef rfl rfl]
  simp only [opD, opCallB, List.map_cons, List.map_nil, if_true]
theorem sx_copy {t : TypeId} {s x : Operand} : stepO P (.call ⟨.builtin .copy, #[s, x], #[t, t]⟩) tm h Kv = optE (opCopy P t (evA tm s) (evA tm x) h.get) Kv h := by
  rw [stepO_ef rfl rfl]
  simp only [opD, opCallB, List.map_cons, List.map_nil, if_true]
theorem sx_max {t t' : TypeId} {s x : Operand} : stepO P (.call ⟨.builtin .max, #[s, x], #[t, t']⟩) tm h Kv = optV (maxA (evA tm s) (evA tm x)) Kv h := by
  rw [stepO_ef rfl rfl]
  simp only [opD, opCallB, List.map_cons, List.map_nil]
  cases evA tm s <;> cases evA tm x <;> rfl
theorem sx_min {t t' : TypeId} {s x : Operand} : stepO P (.call ⟨.builtin .min, #[s, x], #[t, t']⟩) tm h Kv = optV (minA (evA tm s) (evA tm x)) Kv h := by
  rw [stepO_ef rfl rfl]
  simp only [opD, opCallB, List.map_cons, List.map_nil]
  cases evA tm s <;> cases evA tm x <;> rfl
theorem max_int {k k' : IntKind} {a b : Int} : maxA (.int k a) (.int k' b) = some (.int k (if b > a then b else a)) := rfl
theorem min_int {k k' : IntKind} {a b : Int} : minA (.int k a) (.int k' b) = some (.int k (if b < a then b else a)) := rfl
theorem sx_store {t : TypeId} {a x : Operand} : stepO P (.store t a x) tm h Kv = optS (opStore P t (evA tm a) (evA tm x) h.get) Kv h := by
  rw [stepO_ef rfl rfl]
  simp only [opD]
  cases opStore P t (evA tm a) (evA tm x) h.get <;> rfl
theorem sx_box {E : TypeId} {x : Operand} : stepO P (.box E x) tm h Kv = ((evA tm x).okc = true ∧ Kv (.ptr h.nx 1 0 0) (h.add (.arr E (evA tm x).cells.length [evA tm x]))) := by
  rw [stepO_ef rfl rfl]
  simp only [opD, opBox, optE_iteb, optE_new]
def allocK (E : TypeId) (z : Option AV) (Kv : AV → Hp → Prop) (h : Hp) : Prop := match z with | some z => z.okc = true ∧ Kv (.ptr h.nx 1 0 0) (h.add (.arr E z.cells.length [z])) | none => False
theorem allocK_some {E : TypeId} {z : AV} : allocK E (some z) Kv h = (z.okc = true ∧ Kv (.ptr h.nx 1 0 0) (h.add (.arr E z.cells.length [z]))) := rfl
theorem sx_alloc {E : TypeId} : stepO P (.alloc E) tm h Kv = allocK E (zeroA P E) Kv h := by
  rw [stepO_ef rfl rfl]
  simp only [opD, opAlloc]
  cases zeroA P E with
  | none => rfl
  | some z => simp only [Option.bind_some, opBox, optE_iteb, optE_new, allocK_some]
theorem sx_buildSlice {t : TypeId} {len : Nat} {ps : Array (Nat × Operand)} : stepO P (.buildSlice t len ps) tm h Kv = optE (opBuildSlice P t len (ps.toList.map fun p => (p.1, evA tm p.2)) h.nx) Kv h := stepO_ef rfl rfl
theorem sx_makeSlice {t : TypeId} {l c : Operand} : stepO P (.makeSlice t l c) tm h Kv = optE (opMakeSlice P t (evA tm l) (evA tm c) h.nx) Kv h := stepO_ef rfl rfl
theorem sx_lookup {t : TypeId} {m k : Operand} {ok : Bool} : stepO P (.lookup t m k ok) tm h Kv = optV (opLookup P t (evA tm m) (evA tm k) ok h.get) Kv h := stepO_pure rfl rfl
theorem sx_mapUpdate {t : TypeId} {m k x : Operand} : stepO P (.mapUpdate t m k x) tm h Kv = optS (opUpd P t (evA tm m) (evA tm k) (evA tm x) h.get) Kv h := by
  rw [stepO_ef rfl rfl]
  simp only [opD]
  cases opUpd P t (evA tm m) (evA tm k) (evA tm x) h.get <;> rfl
def newM (p : Option (TypeId × TypeId)) (Kv : AV → Hp → Prop) (h : Hp) : Prop := match p with | some p => Kv (.map h.nx) (h.add (.map p.1 p.2 [] [])) | none => False
theorem newM_some {a b : TypeId} : newM (some (a, b)) Kv h = Kv (.map h.nx) (h.add (.map a b [] [])) := rfl
theorem sx_makeMap {t : TypeId} : stepO P (.makeMap t none) tm h Kv = newM (mapKV t P) Kv h := by
  rw [stepO_ef rfl rfl]
  simp only [opD]
  cases mapKV t P with
  | none => rfl
  | some p => simp only [Option.map_some, optE_new, newM]
def lkO (P : Program) (kt et : TypeId) (k : AV) (ok : Bool) (o : Option Ob) : Option AV := match o with | some (.map _ _ ks vs) => lookA P kt et ks vs k ok | _ => none
theorem lkO_some {kt et a b : TypeId} {ks vs : List AV} {k : AV} {ok : Bool} : lkO P kt et k ok (some (.map a b ks vs)) = lookA P kt et ks vs k ok := rfl
theorem lk_map {t kt et : TypeId} {id : Nat} {k : AV} {ok : Bool} {g : Nat → Option Ob} (ht : mapKV t P = some (kt, et)) : opLookup P t (.map id) k ok g = lkO P kt et k ok (g id) := by
  simp only [opLookup, ht, Option.bind_some, lkO] <;> (cases g id with
    | none => rfl
    | some o => cases o <;> rfl)
theorem lk_cmap {t kt et : TypeId} {ks vs : List AV} {k : AV} {ok : Bool} {g : Nat → Option Ob} (ht : mapKV t P = some (kt, et)) : opLookup P t (.cmap ks vs) k ok g = lookA P kt et ks vs k ok := by
  simp only [opLookup, ht, Option.bind_some]
def upO (P : Program) (kt : TypeId) (id : Nat) (k v : AV) (o : Option Ob) : Option Ef := match o with | some (.map a b ks vs) => (updA P kt ks vs k v).map fun q => .set id (.map a b q.1 q.2) | _ => none
theorem upO_some {kt a b : TypeId} {id : Nat} {ks vs : List AV} {k v : AV} : upO P kt id k v (some (.map a b ks vs)) = (updA P kt ks vs k v).map fun q => .set id (.map a b q.1 q.2) := rfl
theorem up_map {t kt et : TypeId} {id : Nat} {k v : AV} {g : Nat → Option Ob} (ht : mapKV t P = some (kt, et)) : opUpd P t (.map id) k v g = upO P kt id k v (g id) := by
  simp only [opUpd, ht, Option.bind_some, upO] <;> (cases g id with
    | none => rfl
    | some o => cases o <;> rfl)
theorem sx_call {f : Operand} {args : Array Operand} {ts : Array TypeId} : stepO P (.call ⟨.value f, args, ts⟩) tm h Kv = CallV P (evA tm f) (args.toList.map (evA tm)) h Kv := rfl

theorem ev_tmp {t : Nat} : evA tm (.tmp t) = tm t := rfl
theorem ev_func {f : FuncId} : evA tm (.func f) = .fn (.func f) [] [] := rfl
theorem ev_int {k : IntKind} {i : Int} : evA tm (.const (.int k i)) = .int k i := rfl
theorem ev_bool {b : Bool} : evA tm (.const (.bool b)) = .bool b := rfl
theorem ev_nilslice : evA tm (.const (.slice none 0 0)) = .nil0 := rfl
theorem ev_nilfunc : evA tm (.const .nilFunc) = .nilf := rfl
theorem ev_nilmap : evA tm (.const (.map none)) = .nilm := rfl
theorem ev_nilptr : evA tm (.const (.pointer none)) = .nilp := rfl
theorem put_apply {d t : Nat} {v : AV} : (tm.put (some d) v) t = if t = d then v else tm t := rfl
theorem put_none {v : AV} : tm.put none v = tm := rfl

theorem bin_add {t : TypeId} {k : IntKind} {a b : Int} : opBinAny P .add t (.int k a) (.int k b) = some (.int k (k.wrap (a + b))) := by simp [opBinAny, opBin]
theorem bin_sub {t : TypeId} {k : IntKind} {a b : Int} : opBinAny P .sub t (.int k a) (.int k b) = some (.int k (k.wrap (a - b))) := by simp [opBinAny, opBin]
theorem bin_mul {t : TypeId} {k : IntKind} {a b : Int} : opBinAny P .mul t (.int k a) (.int k b) = some (.int k (k.wrap (a * b))) := by simp [opBinAny, opBin]
theorem bin_shr {t : TypeId} {k : IntKind} {a b : Int} (hb : 0 ≤ b) : opBinAny P .shr t (.int k a) (.int k b) = some (.int k (a.fdiv (2 ^ (min b.toNat k.bits)))) := by simp [opBinAny, opBin, Int.not_lt.2 hb]
theorem bin_shl {t : TypeId} {k : IntKind} {a b : Int} (hb : 0 ≤ b) : opBinAny P .shl t (.int k a) (.int k b) = some (.int k (k.wrap (a * 2 ^ (min b.toNat k.bits)))) := by simp [opBinAny, opBin, Int.not_lt.2 hb]
theorem bin_and {t : TypeId} {k : IntKind} {a b : Int} : opBinAny P .and t (.int k a) (.int k b) = some (.int k (k.wrap ((BitVec.ofInt k.bits a &&& BitVec.ofInt k.bits b).toNat))) := by simp [opBinAny, opBin]
theorem bin_eql {t : TypeId} {k : IntKind} {a b : Int} : opBinAny P .eql t (.int k a) (.int k b) = some (.bool (a == b)) := by simp [opBinAny, opBin]
theorem bin_neq {t : TypeId} {k : IntKind} {a b : Int} : opBinAny P .neq t (.int k a) (.int k b) = some (.bool (a != b)) := by simp [opBinAny, opBin]
theorem bin_lss {t : TypeId} {k : IntKind} {a b : Int} : opBinAny P .lss t (.int k a) (.int k b) = some (.bool (decide (a < b))) := by simp [opBinAny, opBin]
theorem bin_leq {t : TypeId} {k : IntKind} {a b : Int} : opBinAny P .leq t (.int k a) (.int k b) = some (.bool (decide (a ≤ b))) := by simp [opBinAny, opBin]
theorem bin_gtr {t : TypeId} {k : IntKind} {a b : Int} : opBinAny P .gtr t (.int k a) (.int k b) = some (.bool (decide (a > b))) := by simp [opBinAny, opBin]
theorem bin_geq {t : TypeId} {k : IntKind} {a b : Int} : opBinAny P .geq t (.int k a) (.int k b) = some (.bool (decide (a ≥ b))) := by simp [opBinAny, opBin]
theorem un_not {b : Bool} : opUn .not (.bool b) = some (.bool !b) := rfl

theorem wrap64 {x : Int} (h1 : -9223372036854775808 ≤ x) (h2 : x ≤ 9223372036854775807) : IntKind.i64.wrap x = x := by
  rw [IntKind.wrap_i64]; omega

/-! ### Cells, heaps -/
theorem cells_int {k : IntKind} {i : Int} : (AV.int k i).cells = [.int k i] := rfl
theorem cells_bool {b : Bool} : (AV.bool b).cells = [.bool b] := rfl
theorem cells_str {b : ByteArray} : (AV.str b).cells = [.str b] := rfl
theorem cells_lst {xs : List AV} : (AV.lst xs).cells = [.lst xs] := rfl
theorem cells_nil0 : AV.nil0.cells = [.nil0] := rfl
theorem cells_nilp : AV.nilp.cells = [.nilp] := rfl
theorem cells_nilf : AV.nilf.cells = [.nilf] := rfl
theorem cells_nilm : AV.nilm.cells = [.nilm] := rfl
theorem cells_sl {a b c d : Nat} : (AV.sl a b c d).cells = [.sl a b c d] := rfl
theorem cells_ptr {a b c d : Nat} : (AV.ptr a b c d).cells = [.ptr a b c d] := rfl
theorem cells_cptr {v : AV} : (AV.cptr v).cells = [.cptr v] := rfl
theorem cells_fn {f : Fn} {a b : List AV} : (AV.fn f a b).cells = [.fn f a b] := rfl
theorem cells_map {i : Nat} : (AV.map i).cells = [.map i] := rfl
theorem cells_cmap {a b : List AV} : (AV.cmap a b).cells = [.cmap a b] := rfl
theorem cells_agg {xs : List AV} : (AV.agg xs).cells = xs := rfl
theorem isAgg_agg {xs : List AV} : (AV.agg xs).isAgg = true := rfl
theorem isAgg_int {k : IntKind} {i : Int} : (AV.int k i).isAgg = false := rfl
theorem isAgg_bool {b : Bool} : (AV.bool b).isAgg = false := rfl
theorem isAgg_lst {xs : List AV} : (AV.lst xs).isAgg = false := rfl
theorem isAgg_nil0 : AV.nil0.isAgg = false := rfl
theorem isAgg_sl {a b c d : Nat} : (AV.sl a b c d).isAgg = false := rfl
theorem isAgg_ptr {a b c d : Nat} : (AV.ptr a b c d).isAgg = false := rfl
theorem isAgg_cptr {v : AV} : (AV.cptr v).isAgg = false := rfl
theorem isAgg_fn {f : Fn} {a b : List AV} : (AV.fn f a b).isAgg = false := rfl
theorem isAgg_map {i : Nat} : (AV.map i).isAgg = false := rfl
theorem isAgg_cmap {a b : List AV} : (AV.cmap a b).isAgg = false := rfl
theorem isAgg_nilp : AV.nilp.isAgg = false := rfl
theorem isAgg_nilf : AV.nilf.isAgg = false := rfl
theorem isAgg_nilm : AV.nilm.isAgg = false := rfl
theorem okc_agg {xs : List AV} : (AV.agg xs).okc = true := rfl
theorem okc_int {k : IntKind} {i : Int} : (AV.int k i).okc = true := rfl
theorem okc_bool {b : Bool} : (AV.bool b).okc = true := rfl
theorem okc_str {b : ByteArray} : (AV.str b).okc = true := rfl
theorem okc_lst {xs : List AV} : (AV.lst xs).okc = true := rfl
theorem okc_nil0 : AV.nil0.okc = true := rfl
theorem okc_nilp : AV.nilp.okc = true := rfl
theorem okc_nilf : AV.nilf.okc = true := rfl
theorem okc_nilm : AV.nilm.okc = true := rfl
theorem okc_sl {a b c d : Nat} : (AV.sl a b c d).okc = true := rfl
theorem okc_ptr {a b c d : Nat} : (AV.ptr a b c d).okc = true := rfl
theorem okc_cptr {v : AV} : (AV.cptr v).okc = true := rfl
theorem okc_fn {f : Fn} {a b : List AV} : (AV.fn f a b).okc = true := rfl
theorem okc_map {i : Nat} : (AV.map i).okc = true := rfl
theorem okc_cmap {a b : List AV} : (AV.cmap a b).okc = true := rfl

theorem get_add {o : Ob} {j : Nat} : (h.add o).get j = if j = h.nx then some o else h.get j := rfl
theorem get_set {o : Ob} {i j : Nat} : (h.set i o).get j = if j = i then some o else h.get j := rfl
theorem nx_add {o : Ob} : (h.add o).nx = h.nx + 1 := rfl
theorem nx_set {o : Ob} {i : Nat} : (h.set i o).nx = h.nx := rfl

variable {g : Nat → Option Ob}
def ldO (P : Program) (t : TypeId) (tot i off : Nat) (o : Option Ob) : Option AV :=
  match o with
  | some (.arr _ _ es) => if es.length = tot then (es[i]?).bind fun e => loadV P t e off else none
  | _ => none
theorem ld_ptr {t : TypeId} {id tot i off : Nat} : opLoad P t (.ptr id tot i off) g = ldO P t tot i off (g id) := by
  unfold opLoad ldO
  first
    | (simp only; done)
    | (simp only
       cases g id with
       | none => rfl
       | some o => cases o <;> rfl)
theorem ldO_one {t E s off : Nat} {v : AV} : ldO P t 1 0 off (some (.arr E s [v])) = loadV P t v off := rfl
theorem ldO_at {t E s tot i off : Nat} {es : List AV} {v : AV} (hl : es.length = tot) (hv : es[i]? = some v) : ldO P t tot i off (some (.arr E s es)) = loadV P t v off := by
  simp [ldO, hl, hv]
theorem ld_cptr {t : TypeId} {v : AV} : opLoad P t (.cptr v) g = loadV P t v 0 := rfl
theorem loadV_cell {t : TypeId} {v : AV} {off : Nat} (ha : aggT P t = some false) : loadV P t v off = v.cells[off]? := by simp [loadV, ha]
theorem loadV_whole {t : TypeId} {v : AV} (ha : aggT P t = some true) (h1 : v.isAgg = true) (h2 : v.cells.length = P.cellsOf t) : loadV P t v 0 = some v := by simp [loadV, ha, h1, h2]
theorem loadV_part {t : TypeId} {v : AV} {off : Nat} (ha : aggT P t = some true) (h0 : off ≠ 0) (h2 : off + P.cellsOf t ≤ v.cells.length) : loadV P t v off = some (.agg ((v.cells.drop off).take (P.cellsOf t))) := by simp [loadV, ha, h0, h2]
theorem partA_cell {t : TypeId} {cs : List AV} {off : Nat} (ha : aggT P t = some false) : partA P t cs off = cs[off]? := by simp [partA, ha]
theorem partA_agg {t : TypeId} {cs : List AV} {off : Nat} (ha : aggT P t = some true) (h2 : off + P.cellsOf t ≤ cs.length) : partA P t cs off = some (.agg ((cs.drop off).take (P.cellsOf t))) := by simp [partA, ha, h2]

def liveO (tot : Nat) (o : Option Ob) : Bool := match o with | some (.arr _ _ es) => decide (es.length = tot ∧ 0 < tot) | _ => false
theorem live_ptr {id tot i off : Nat} : live (.ptr id tot i off) g = liveO tot (g id) := by
  unfold live liveO
  first
    | (simp only; done)
    | (simp only
       cases g id with
       | none => rfl
       | some o => cases o <;> rfl)
theorem live_cptr {v : AV} : live (.cptr v) g = true := rfl
theorem liveO_one {E s : Nat} {v : AV} : liveO 1 (some (.arr E s [v])) = true := rfl
theorem nilc_cptr {v : AV} : opNilCheck (.cptr v) g = some (.cptr v) := rfl
theorem nilc_ptr {id tot i off E s : Nat} {es : List AV} (hg : g id = some (.arr E s es)) (hl : es.length = tot) (hp : 0 < tot) : opNilCheck (.ptr id tot i off) g = some (.ptr id tot i off) := by simp [opNilCheck, hg, hl, hp]

theorem fa_ptr {t : TypeId} {id tot i off f : Nat} {fl : Field} (hf : fieldOf P t f = some fl) (hz : P.cellsOf fl.type ≠ 0) : opFieldAddr P t (.ptr id tot i off) f = some (.ptr id tot i (off + fl.offset)) := by simp [opFieldAddr, hf, hz]
theorem fa_cptr {t : TypeId} {v r : AV} {f : Nat} {fl : Field} (hf : fieldOf P t f = some fl) (hz : P.cellsOf fl.type ≠ 0) (hp : partA P fl.type v.cells fl.offset = some r) (ho : r.okc = true) (hg : r.isAgg = true → aggT P fl.type = some true) :
    opFieldAddr P t (.cptr v) f = some (.cptr r) := by simp [opFieldAddr, hf, hz, hp, ho]; exact hg
theorem fld_agg {t : TypeId} {xs : List AV} {f : Nat} {fl : Field} (hf : fieldOf P t f = some fl) : opField P t (.agg xs) f = partA P fl.type xs fl.offset := by simp [opField, hf]

theorem len_lst {t e : TypeId} {xs : List AV} (hu : sliceElem P t = some e) : opLen P t (.lst xs) g = some (.int .i64 xs.length) := by simp [opLen, sliceElem_spec hu]
theorem len_nil0 {t e : TypeId} (hu : sliceElem P t = some e) : opLen P t .nil0 g = some (.int .i64 0) := by simp [opLen, sliceElem_spec hu]
theorem len_sl {t e : TypeId} {id tot off len E s : Nat} {es : List AV} (hu : sliceElem P t = some e) (hg : g id = some (.arr E s es)) (hl : es.length = tot) : opLen P t (.sl id tot off len) g = some (.int .i64 len) := by simp [opLen, sliceElem_spec hu, hg, hl]
theorem ia_lst {t e : TypeId} {xs : List AV} {k : IntKind} {i : Nat} {v : AV} (hu : sliceElem P t = some e) (hv : xs[i]? = some v) (hc : v.cells.length = P.cellsOf e) : opIndexAddr P t (.lst xs) (.int k i) g = some (.cptr v) := by
  have : i < xs.length := (List.getElem?_eq_some_iff.1 hv).1
  simp only [opIndexAddr, hu, Option.bind_some, Int.toNat_natCast, hv, hc, if_true]
  rw [if_pos ⟨by omega, by omega⟩]
theorem ia_sl {t e : TypeId} {id tot off len E i : Nat} {es : List AV} {k : IntKind} (hu : sliceElem P t = some e) (hg : g id = some (.arr E (P.cellsOf e) es)) (hl : es.length = tot) (hol : off + len ≤ tot) (hi : i < len) :
    opIndexAddr P t (.sl id tot off len) (.int k i) g = some (.ptr id tot (off + i) 0) := by
  simp only [opIndexAddr, hu, Option.bind_some, hg, Int.toNat_natCast]
  rw [if_pos ⟨hl, trivial, hol⟩, if_pos ⟨by omega, by omega⟩]

/-- A loop's head: what holds there, and what goes down. -/
theorem wpT_ind {α : Type} {ro : Option Nat} {R : Exit → Tm → Hp → Prop} {todo : List Item} (I : α → Tm → Hp → Prop) (μ : α → Nat)
    (step : ∀ a tm h, I a tm h → (∀ b tm' h', μ b < μ a → I b tm' h' → wpT P ro n todo R tm' h') → wpT P ro n todo R tm h) (a : α) (h0 : I a tm h) : wpT P ro n todo R tm h := by
  have key : ∀ m a tm h, μ a = m → I a tm h → wpT P ro n todo R tm h := by
    intro m
    induction m using Nat.strongRecOn with
    | _ m ih => exact fun a tm h hm hI => step a tm h hI fun b tm' h' hlt hb => ih (μ b) (hm ▸ hlt) b tm' h' rfl hb
  exact key _ a tm h rfl h0

theorem wpT_if {ro : Option Nat} {R : Exit → Tm → Hp → Prop} {k : List Item} {c : Operand} {x y : Code} {t : Bool} (hc : evA tm c = .bool t) (h1 : t = true → wpT P ro n (.code x :: k) R tm h) (h2 : t = false → wpT P ro n (.code y :: k) R tm h) :
    wpT P ro n (.code (.cond c x y) :: k) R tm h := by
  refine wpT_cond hc ?_
  cases t
  · simpa using h2 rfl
  · simpa using h1 rfl
end
end Go.Proofs.YtfdfkmcplhloaaaGreat
end

section
set_option linter.unusedSimpArgs false
set_option linter.unusedVariables false
namespace Go.Proofs.YtfdfkmcplhloaaaGreat

/-- Names no owned object. -/
inductive Idf : AV → Prop
  | junk : Idf .junk
  | int (k : IntKind) (n : Int) : Idf (.int k n)
  | bool (b : Bool) : Idf (.bool b)
  | str (s : ByteArray) : Idf (.str s)
  | nilp : Idf .nilp
  | nilf : Idf .nilf
  | nilm : Idf .nilm
  | nil0 : Idf .nil0
  | lst (xs : List AV) (h : ∀ x ∈ xs, Idf x) : Idf (.lst xs)
  | cptr (v : AV) (h : Idf v) : Idf (.cptr v)
  | fn (f : Fn) (a b : List AV) (h1 : ∀ x ∈ a, Idf x) (h2 : ∀ x ∈ b, Idf x) : Idf (.fn f a b)
  | agg (xs : List AV) (h : ∀ x ∈ xs, Idf x) : Idf (.agg xs)
  | tup (xs : List AV) (h : ∀ x ∈ xs, Idf x) : Idf (.tup xs)
  | cmap (a b : List AV) (h1 : ∀ x ∈ a, Idf x) (h2 : ∀ x ∈ b, Idf x) : Idf (.cmap a b)

section
variable {P : Program} {X : Cx} {w : World} {h : Hp}

theorem Idf.cells {v : AV} (hv : Idf v) : ∀ x ∈ v.cells, Idf x := by
  cases hv with
  | agg xs h => exact h
  | _ => intro x hx; simp only [AV.cells, List.mem_singleton] at hx; subst hx; constructor <;> assumption

theorem Idf.flat {xs : List AV} (hv : ∀ x ∈ xs, Idf x) : ∀ x ∈ flat xs, Idf x := by
  intro x hx
  obtain ⟨v, h1, h2⟩ := List.mem_flatMap.1 hx
  exact (hv v h1).cells x h2

theorem VRel.idf {X' : Cx} {w' : World} (hi' : ∀ b, X.imm b → X'.imm b) (hk : ∀ b, X.imm b → w'.heap[b]? = w.heap[b]?) {a : AV} {c : Value} (h : VRel X w a c) : Idf a → VRel X' w' a c := by
  have mem : ∀ {xs : List AV} {j : Nat} {a : AV}, xs[j]? = some a → a ∈ xs := fun h => List.mem_of_getElem? h
  induction h with
  | junk c => intro _; exact .junk c
  | int k n => intro _; exact .int k n
  | bool b => intro _; exact .bool b
  | str s => intro _; exact .str s
  | nilp => intro _; exact .nilp
  | nilf => intro _; exact .nilf
  | nilm => intro _; exact .nilm
  | nil0 A => intro _; exact .nil0 A
  | lnil A cap => intro _; exact .lnil A cap
  | lst xs fs s ad len cap h0 hc hs hi hf ho hw hr ih =>
    intro hv
    cases hv with
    | lst _ hv =>
      exact .lst xs fs s ad len cap h0 hc hs (hi' _ hi) hf ho (fun j u hu => (cell_of_heap (by rw [add_block]; exact hk _ hi)).trans (hw j u hu)) fun j a c ha hc' => ih j a c ha hc' (Idf.flat hv a (mem ha))
  | cptr v fs ad hi hf hok' ho hw hr ih =>
    intro hv
    cases hv with
    | cptr _ hv => exact .cptr v fs ad (hi' _ hi) hf hok' ho (fun j u hu => (cell_of_heap (by rw [add_block]; exact hk _ hi)).trans (hw j u hu)) fun j a c ha hc' => ih j a c ha hc' (hv.cells a (mem ha))
  | agg xs cs hl ho hr ih =>
    intro hv
    cases hv with
    | agg _ hv => exact .agg xs cs hl ho fun j a c ha hc => ih j a c ha hc (hv a (mem ha))
  | tup xs cs hl hr ih =>
    intro hv
    cases hv with
    | tup _ hv => exact .tup xs cs hl fun j a c ha hc => ih j a c ha hc (hv a (mem ha))
  | fn f x1 x2 c1 c2 h1 h2 r1 r2 ih1 ih2 =>
    intro hv
    cases hv with
    | fn _ _ _ g1 g2 => exact .fn f x1 x2 c1 c2 h1 h2 (fun j a c ha hc => ih1 j a c ha hc (g1 a (mem ha))) fun j a c ha hc => ih2 j a c ha hc (g2 a (mem ha))
  | sl id tot off len c ho hid hv => intro hv'; cases hv'
  | ptr id tot i off c ho hid hv => intro hv'; cases hv'
  | map id c ho hid hv => intro hv'; cases hv'
  | cmap ks vs b es clock hi hb h1 h2 r1 r2 ih1 ih2 =>
    intro hv
    cases hv with
    | cmap _ _ g1 g2 => exact .cmap ks vs b es clock (hi' _ hi) ((hk _ hi).trans hb) h1 h2 (fun j a c ha hc => ih1 j a c ha hc (g1 a (mem ha))) fun j a c ha hc => ih2 j a c ha hc (g2 a (mem ha))

theorem VRelL.idf {X' : Cx} {w' : World} (hi' : ∀ b, X.imm b → X'.imm b) (hk : ∀ b, X.imm b → w'.heap[b]? = w.heap[b]?) {as : List AV} {cs : List Value} (hr : VRelL X w as cs) (ha : ∀ a ∈ as, Idf a) : VRelL X' w' as cs :=
  ⟨hr.1, fun j a c h1 h2 => (hr.2 j a c h1 h2).idf hi' hk (ha a (List.mem_of_getElem? h1))⟩

/-! ### Lending -/
/-- What is written of a value once objects are no longer owned, but known not to change. -/
inductive Lend (g : Nat → Option Ob) : AV → AV → Prop
  | refl (a : AV) : Lend g a a
  | junk (a : AV) : Lend g a .junk
  | nil0 : Lend g .nil0 (.lst [])
  | sl (id tot off len : Nat) (E : TypeId) (s : Nat) (es ys : List AV) (hg : g id = some (.arr E s es)) (hl : es.length = tot) (hle : off + len ≤ tot) (hy : ys.length = len)
      (hr : ∀ (j : Nat) a b, ((es.drop off).take len)[j]? = some a → ys[j]? = some b → Lend g a b) (hk : ∀ y ∈ ys, y.okc = true) : Lend g (.sl id tot off len) (.lst ys)
  | ptr (id tot i : Nat) (E : TypeId) (s : Nat) (es : List AV) (a v : AV) (hg : g id = some (.arr E s es)) (hl : es.length = tot) (he : es[i]? = some a) (hr : Lend g a v) (hk : v.okc = true) : Lend g (.ptr id tot i 0) (.cptr v)
  | agg (xs ys : List AV) (hl : xs.length = ys.length) (hr : ∀ (j : Nat) a b, xs[j]? = some a → ys[j]? = some b → Lend g a b) : Lend g (.agg xs) (.agg ys)
  | tup (xs ys : List AV) (hl : xs.length = ys.length) (hr : ∀ (j : Nat) a b, xs[j]? = some a → ys[j]? = some b → Lend g a b) : Lend g (.tup xs) (.tup ys)
  | fn (f : Fn) (x1 x2 y1 y2 : List AV) (h1 : x1.length = y1.length) (h2 : x2.length = y2.length) (r1 : ∀ (j : Nat) a b, x1[j]? = some a → y1[j]? = some b → Lend g a b) (r2 : ∀ (j : Nat) a b, x2[j]? = some a → y2[j]? = some b → Lend g a b) : Lend g (.fn f x1 x2) (.fn f y1 y2)
  | map (id : Nat) (kt et : TypeId) (ks vs : List AV) (hg : g id = some (.map kt et ks vs)) : Lend g (.map id) (.cmap ks vs)

/-- A list lent, element by element. -/
def LendL (g : Nat → Option Ob) (xs ys : List AV) : Prop := xs.length = ys.length ∧ ∀ (j : Nat) a b, xs[j]? = some a → ys[j]? = some b → Lend g a b

theorem LendL.nil {g : Nat → Option Ob} : LendL g [] [] := ⟨rfl, fun j a b h => by simp at h⟩
theorem LendL.cons {g : Nat → Option Ob} {x y : AV} {xs ys : List AV} (h1 : Lend g x y) (h2 : LendL g xs ys) : LendL g (x :: xs) (y :: ys) := by
  refine ⟨by simp [h2.1], fun j a b ha hb => ?_⟩
  cases j with
  | zero => simp at ha hb; subst ha; subst hb; exact h1
  | succ j => exact h2.2 j a b (by simpa using ha) (by simpa using hb)
theorem LendL.refl {g : Nat → Option Ob} (xs : List AV) : LendL g xs xs := ⟨rfl, fun j a b ha hb => by rw [ha] at hb; obtain rfl := Option.some.inj hb; exact .refl _⟩
theorem LendL.append {g : Nat → Option Ob} {xs ys as bs : List AV} (h1 : LendL g xs ys) (h2 : LendL g as bs) : LendL g (xs ++ as) (ys ++ bs) := by
  refine ⟨by simp [h1.1, h2.1], fun j a b ha hb => ?_⟩
  by_cases hj : j < xs.length
  · rw [List.getElem?_append_left hj] at ha
    rw [List.getElem?_append_left (by rw [← h1.1]; exact hj)] at hb
    exact h1.2 j a b ha hb
  · rw [List.getElem?_append_right (by omega)] at ha
    rw [List.getElem?_append_right (by rw [← h1.1]; omega), ← h1.1] at hb
    exact h2.2 _ a b ha hb

theorem Lend.slw {g : Nat → Option Ob} {id tot off len E s : Nat} {es : List AV} (hg : g id = some (.arr E s es)) (hl : es.length = tot) (hle : off + len ≤ tot) (hk : ∀ e ∈ es, e.okc = true) : Lend g (.sl id tot off len) (.lst ((es.drop off).take len)) :=
  .sl id tot off len E s es _ hg hl hle (by simp; omega) (fun j a b ha hb => by rw [ha] at hb; obtain rfl := Option.some.inj hb; exact .refl _) fun y hy => hk y (List.mem_of_mem_drop (List.mem_of_mem_take hy))
theorem Lend.sl0 {g : Nat → Option Ob} {id E s n : Nat} {es : List AV} (hg : g id = some (.arr E s es)) (hl : es.length = n) (hk : ∀ e ∈ es, e.okc = true) : Lend g (.sl id n 0 n) (.lst es) := by
  have := Lend.slw (off := 0) (len := n) hg hl (by omega) hk
  subst hl
  simpa using this
theorem Lend.ptr1 {g : Nat → Option Ob} {id E s : Nat} {v : AV} (hg : g id = some (.arr E s [v])) (hk : v.okc = true) : Lend g (.ptr id 1 0 0) (.cptr v) :=
  .ptr id 1 0 E s [v] v v hg rfl rfl (.refl v) hk
theorem Lend.aggL {g : Nat → Option Ob} {xs ys : List AV} (h : LendL g xs ys) : Lend g (.agg xs) (.agg ys) := .agg xs ys h.1 h.2
theorem Lend.tupL {g : Nat → Option Ob} {xs ys : List AV} (h : LendL g xs ys) : Lend g (.tup xs) (.tup ys) := .tup xs ys h.1 h.2
theorem Lend.fnL {g : Nat → Option Ob} {f : Fn} {x1 x2 y1 y2 : List AV} (h : LendL g x1 y1) (h' : LendL g x2 y2) : Lend g (.fn f x1 x2) (.fn f y1 y2) := .fn f x1 x2 y1 y2 h.1 h'.1 h.2 h'.2

theorem Lend.cells {g : Nat → Option Ob} {a b : AV} (hl : Lend g a b) (hb : b.okc = true) : LendL g a.cells b.cells := by
  cases hl with
  | refl => exact LendL.refl _
  | junk => simp [AV.okc] at hb
  | nil0 => exact LendL.cons .nil0 LendL.nil
  | sl id tot off len E s es ys hg hl hle hy hr hk => exact LendL.cons (.sl id tot off len E s es ys hg hl hle hy hr hk) LendL.nil
  | ptr id tot i E s es a v hg hl he hr hk => exact LendL.cons (.ptr id tot i E s es a v hg hl he hr hk) LendL.nil
  | agg xs ys hl hr => exact ⟨hl, hr⟩
  | tup xs ys hl hr => simp [AV.okc] at hb
  | fn f x1 x2 y1 y2 h1 h2 r1 r2 => exact LendL.cons (.fn f x1 x2 y1 y2 h1 h2 r1 r2) LendL.nil
  | map id kt et ks vs hg => exact LendL.cons (.map id kt et ks vs hg) LendL.nil

theorem LendL.flat {g : Nat → Option Ob} : ∀ {xs ys : List AV}, LendL g xs ys → (∀ y ∈ ys, y.okc = true) → LendL g (flat xs) (flat ys)
  | [], [], _, _ => LendL.nil
  | [], y :: ys, h, _ => by simp [LendL] at h
  | x :: xs, [], h, _ => by simp [LendL] at h
  | x :: xs, y :: ys, h, hk => by
    have h1 : Lend g x y := h.2 0 x y rfl rfl
    have h2 : LendL g xs ys := ⟨by simpa using h.1, fun j a b ha hb => h.2 (j + 1) a b (by simpa using ha) (by simpa using hb)⟩
    have h3 := (h1.cells (hk y (by simp))).append (LendL.flat h2 fun z hz => hk z (by simp [hz]))
    simpa [Proofs.YtfdfkmcplhloaaaGreat.flat] using h3

/-- How far the context may move for what is lent. -/
structure Lends (g : Nat → Option Ob) (h : Hp) (X X' : Cx) (w : World) : Prop where
  ev : Ev X w X' w
  get : ∀ id o, g id = some o → h.get id = some o
  imm : ∀ id o r b, g id = some o → X.own id = some r → blockOf r.cv = some b → X'.imm b

theorem cell_of_row {w : World} {E s n cap g0 : Nat} {xs : List Value} (hrow : w.ownsRow 0 E s (.slice (some ⟨g0, 0, none⟩) n cap) n xs) (j : Nat) (u : Value) (hu : xs[j]? = some u) : w.cell? ((⟨g0, 0, none⟩ : Addr).add j) = some u :=
  hrow.cells (g := g0) rfl j u hu

theorem conv_cells {g : Nat → Option Ob} {X' : Cx} {a b : AV} (hl : Lend g a b) (hb : b.okc = true) (hq : ∀ c, VRel X w a c → VRel X' w b c) {cs : List Value} (hr : VRelL X w a.cells cs) (ho : ∀ u ∈ cs, u.oneCell' = true) : VRelL X' w b.cells cs := by
  have one : ∀ {a b : AV}, a.cells = [a] → b.cells = [b] → (∀ c, VRel X w a c → VRel X' w b c) → VRelL X w a.cells cs → VRelL X' w b.cells cs := by
    intro a b h1 h2 hq hr
    rw [h1] at hr
    rw [h2]
    match cs, hr with
    | [c], hr => exact VRelL.one (hq c (hr.2 0 a c rfl rfl))
    | [], hr => simp [VRelL] at hr
    | c :: d :: cs, hr => simp [VRelL] at hr
  have agg : ∀ {xs ys : List AV}, xs.length = ys.length → (∀ c, VRel X w (.agg xs) c → VRel X' w (.agg ys) c) → VRelL X w xs cs → VRelL X' w ys cs := by
    intro xs ys h1 hq hr
    have := hq (.agg cs.toArray) (.agg xs cs.toArray (by simpa using hr.1) (by simpa using ho) fun j a c ha hc => hr.2 j a c ha (by simpa using hc))
    cases this with
    | agg _ _ hl' ho' hr' => exact ⟨by simpa using hl', fun j a c ha hc => hr' j a c ha (by simpa using hc)⟩
  cases hl with
  | refl =>
    cases a <;> first
      | exact one rfl rfl hq hr
      | exact agg rfl hq hr
  | junk => simp [AV.okc] at hb
  | nil0 => exact one rfl rfl hq hr
  | sl id tot off len E s es ys hg hl hle hy hr' hk => exact one rfl rfl hq hr
  | ptr id tot i E s es a v hg hl he hr' hk => exact one rfl rfl hq hr
  | agg xs ys hl hr' => exact agg hl hq hr
  | tup xs ys hl hr' => simp [AV.okc] at hb
  | fn f x1 x2 y1 y2 h1 h2 r1 r2 => exact one rfl rfl hq hr
  | map id kt et ks vs hg => exact one rfl rfl hq hr

theorem conv_flat {g : Nat → Option Ob} {X' : Cx} : ∀ {xs ys : List AV} {cs : List Value}, LendL g xs ys → (∀ y ∈ ys, y.okc = true) → (∀ (j : Nat) a b, xs[j]? = some a → ys[j]? = some b → ∀ c, VRel X w a c → VRel X' w b c) →
    VRelL X w (flat xs) cs → (∀ u ∈ cs, u.oneCell' = true) → VRelL X' w (flat ys) cs
  | [], [], cs, _, _, _, hr, _ => by
    have : cs = [] := List.eq_nil_of_length_eq_zero hr.1
    subst this
    exact VRelL.nil
  | [], y :: ys, cs, h, _, _, _, _ => by simp [LendL] at h
  | x :: xs, [], cs, h, _, _, _, _ => by simp [LendL] at h
  | x :: xs, y :: ys, cs, h, hk, hq, hr, ho => by
    have h1 : Lend g x y := h.2 0 x y rfl rfl
    have h2 : LendL g xs ys := ⟨by simpa using h.1, fun j a b ha hb => h.2 (j + 1) a b (by simpa using ha) (by simpa using hb)⟩
    have e : flat (x :: xs) = x.cells ++ flat xs := by simp [Proofs.YtfdfkmcplhloaaaGreat.flat]
    have e' : flat (y :: ys) = y.cells ++ flat ys := by simp [Proofs.YtfdfkmcplhloaaaGreat.flat]
    rw [e] at hr
    rw [e']
    have ha := hr.take x.cells.length
    have hb := hr.drop x.cells.length
    simp only [List.take_left', List.drop_left'] at ha hb
    have := (conv_cells h1 (hk y (by simp)) (hq 0 x y rfl rfl) ha fun u hu => ho u (List.mem_of_mem_take hu)).append
      (conv_flat h2 (fun z hz => hk z (by simp [hz])) (fun j a b ha hb => hq (j + 1) a b (by simpa using ha) (by simpa using hb)) hb fun u hu => ho u (List.mem_of_mem_drop hu))
    rwa [List.take_append_drop] at this

theorem Lend.rel {g : Nat → Option Ob} {X' : Cx} (H : HRel h X w) (L : Lends g h X X' w) {a b : AV} (hl : Lend g a b) : ∀ {c : Value}, VRel X w a c → VRel X' w b c := by
  induction hl with
  | refl a => intro c hc; exact hc.mono H.ok L.ev
  | junk a => intro c hc; exact .junk c
  | nil0 => intro c hc; cases hc with | nil0 A => exact .lnil A 0
  | sl id tot off len E s es ys hg hlen hle hy hr hk ih =>
    intro c hc
    have hg' := L.get id _ hg
    obtain ⟨cv, xs, h1, h2, h3, h4, h5⟩ := H.own_of_get hg'
    cases hc with
    | sl _ _ _ _ _ ho hid hv =>
      obtain ⟨_, hv'⟩ := hv _ h1
      obtain ⟨_, A0, n0, cap0, A', hcv, rfl, hA⟩ := hv' hlen.symm
      have hs3 : ∀ e ∈ es, e.cells.length = s := fun e he => (h3 e he).1
      by_cases h0 : len = 0
      · subst h0
        obtain rfl : ys = [] := List.eq_nil_of_length_eq_zero hy
        exact .lnil _ _
      · rcases h2 with ⟨A, rfl, h0', rfl⟩ | ⟨g0, cap, rfl, hcap, hrow⟩
        · omega
        · simp only [Value.slice.injEq] at hcv
          obtain ⟨rfl, rfl, rfl⟩ := hcv
          have hcap' : es.length ≤ cap := by
            rcases hrow.2 with ⟨h', _⟩ | ⟨g', cap', cur, h', _, _, hnc, _⟩
            · simp at h'
            · simp only [Value.slice.injEq, Option.some.injEq, Addr.mk.injEq, and_true, true_and] at h'
              omega
          obtain rfl := hA (by omega)
          have hsub : LendL g ((es.drop off).take len) ys := ⟨by simp; omega, hr⟩
          have hfl := hsub.flat hk
          have hsl : ∀ e ∈ (es.drop off).take len, e.cells.length = s := fun e he => hs3 e (List.mem_of_mem_drop (List.mem_of_mem_take he))
          have hrel : VRelL X w (flat ((es.drop off).take len)) ((xs.drop (off * s)).take (len * s)) := by
            rw [flat_take (s := s) (fun e he => hs3 e (List.mem_of_mem_drop he)), flat_drop hs3]
            exact h5.sub _ _
          refine .lst ys ((xs.drop (off * s)).take (len * s)) s _ len (cap - off) hy (by omega) (fun y hy' => ?_) (L.imm id _ _ _ hg h1 (by simp [blockOf, add_block]; omega)) (by rw [hrel.1, hfl.1]) (fun u hu => h4 u (List.mem_of_mem_drop (List.mem_of_mem_take hu))) (fun j u hu => ?_) (fun j b c hb hc => ?_)
          · obtain ⟨j, hj⟩ := List.getElem?_of_mem hy'
            have hlt : j < ((es.drop off).take len).length := by rw [hsub.1]; exact (List.getElem?_eq_some_iff.1 hj).1
            have := ((hr j _ y (List.getElem?_eq_getElem hlt) hj).cells (hk y hy')).1
            exact ⟨by rw [← this]; exact hsl _ (List.getElem_mem hlt), hk y hy'⟩
          · rw [List.getElem?_take] at hu
            split at hu
            · rw [add_add]
              exact cell_of_row hrow _ u (by simpa using hu)
            · simp at hu
          · exact (conv_flat hsub hk (fun j a b ha hb c => ih j a b ha hb) hrel (fun u hu => h4 u (List.mem_of_mem_drop (List.mem_of_mem_take hu)))).2 j b c hb hc
  | ptr id tot i E s es a v hg hlen he hr hk ih =>
    intro c hc
    have hg' := L.get id _ hg
    obtain ⟨cv, xs, h1, h2, h3, h4, h5⟩ := H.own_of_get hg'
    have hilt : i < es.length := (List.getElem?_eq_some_iff.1 he).1
    have hm : a ∈ es := List.mem_of_getElem? he
    cases hc with
    | ptr _ _ _ _ _ ho hid hv =>
      obtain ⟨_, hv'⟩ := hv _ h1
      obtain ⟨g0, n0, cap0, hcv, rfl⟩ := hv' hlen.symm
      have hs3 : ∀ e ∈ es, e.cells.length = s := fun e he => (h3 e he).1
      rcases h2 with ⟨A, rfl, h0', rfl⟩ | ⟨g1, cap, rfl, hcap, hrow⟩
      · omega
      · simp only [Value.slice.injEq, Option.some.injEq, Addr.mk.injEq, and_true, true_and] at hcv
        obtain ⟨rfl, rfl, rfl⟩ := hcv
        have hrel : VRelL X w a.cells ((xs.drop (i * s)).take s) := by
          have := h5.sub (i * s) s
          rwa [flat_at hs3 he] at this
        have hone : ∀ u ∈ (xs.drop (i * s)).take s, u.oneCell' = true := fun u hu => h4 u (List.mem_of_mem_drop (List.mem_of_mem_take hu))
        have hc' := conv_cells hr hk (fun c => ih) hrel hone
        refine .cptr v _ _ (L.imm id _ _ _ hg h1 (by simp [blockOf]; omega)) hc'.1 hk hone (fun j u hu => ?_) hc'.2
        rw [List.getElem?_take] at hu
        split at hu
        · have := cell_of_row hrow (i * s + j) u (by simpa using hu)
          have e : (⟨g1, 0, none⟩ : Addr).add (i * s + j) = (⟨g1, i * s + 0, none⟩ : Addr).add j := by
            by_cases h0 : i * s = 0
            · simp [h0]
            · by_cases hj : j = 0
              · simp [Addr.add, h0, hj]
              · simp [Addr.add, h0, hj]
          rw [← e]
          exact this
        · simp at hu
  | agg xs ys hl hr ih =>
    intro c hc
    cases hc with
    | agg _ cs hl' ho hr' =>
      refine .agg ys cs (by omega) ho fun j b c hb hc => ?_
      have hlt : j < xs.length := by rw [hl]; exact (List.getElem?_eq_some_iff.1 hb).1
      exact ih j _ b (List.getElem?_eq_getElem hlt) hb (hr' j _ c (List.getElem?_eq_getElem hlt) hc)
  | tup xs ys hl hr ih =>
    intro c hc
    cases hc with
    | tup _ cs hl' hr' =>
      refine .tup ys cs (by omega) fun j b c hb hc => ?_
      have hlt : j < xs.length := by rw [hl]; exact (List.getElem?_eq_some_iff.1 hb).1
      exact ih j _ b (List.getElem?_eq_getElem hlt) hb (hr' j _ c (List.getElem?_eq_getElem hlt) hc)
  | fn f x1 x2 y1 y2 h1 h2 r1 r2 ih1 ih2 =>
    intro c hc
    cases hc with
    | fn _ _ _ c1 c2 k1 k2 s1 s2 =>
      refine .fn f y1 y2 c1 c2 (by omega) (by omega) (fun j b c hb hc => ?_) fun j b c hb hc => ?_
      · have hlt : j < x1.length := by rw [h1]; exact (List.getElem?_eq_some_iff.1 hb).1
        exact ih1 j _ b (List.getElem?_eq_getElem hlt) hb (s1 j _ c (List.getElem?_eq_getElem hlt) hc)
      · have hlt : j < x2.length := by rw [h2]; exact (List.getElem?_eq_some_iff.1 hb).1
        exact ih2 j _ b (List.getElem?_eq_getElem hlt) hb (s2 j _ c (List.getElem?_eq_getElem hlt) hc)
  | map id kt et ks vs hg =>
    intro c hc
    obtain ⟨b, es, clock, k1, k2, k3, k4, k5, k6⟩ := H.obj id _ (L.get id _ hg)
    cases hc with
    | map _ _ ho hid hv =>
      obtain rfl := hv _ k1 rfl
      exact .cmap ks vs b es clock (L.imm id _ _ _ hg k1 rfl) k2 k3 k4 (fun j a c ha hc => (k5 j a c ha hc).mono H.ok L.ev) fun j a c ha hc => (k6 j a c ha hc).mono H.ok L.ev

/-! ### The state of a walk is weakened -/
/-- The objects that are owned no longer. -/
def gone (h h' : Hp) : Nat → Option Ob := fun id => match h'.get id with | none => h.get id | some _ => none

def ObLend (g : Nat → Option Ob) (o o' : Ob) : Prop := o = o' ∨ ∃ E s es es', o = .arr E s es ∧ o' = .arr E s es' ∧ LendL g es es' ∧ ∀ e ∈ es', e.okc = true

theorem drop_ok {h' : Hp} (H : HRel h X w) (hnx : h.nx ≤ h'.nx) (ho : ∀ id o', h'.get id = some o' → ∃ o, h.get id = some o ∧ ObLend (gone h h') o o') :
    ∃ X', Lends (gone h h') h X X' w ∧ HRel h' X' w := by
  let X' : Cx := ⟨fun id => match h'.get id with | none => none | some _ => X.own id, fun b => X.imm b ∨ ∃ id r, gone h h' id ≠ none ∧ X.own id = some r ∧ blockOf r.cv = some b, X.used⟩
  have hown : ∀ id r, X'.own id = some r → X.own id = some r ∧ ∃ o', h'.get id = some o' := by
    intro id r hr
    simp only [X'] at hr
    split at hr
    · simp at hr
    · rename_i o' ho'; exact ⟨hr, o', ho'⟩
  have hgone : ∀ id, gone h h' id ≠ none → h'.get id = none ∧ gone h h' id = h.get id := by
    intro id hg
    unfold gone at hg ⊢
    split at hg
    · rename_i e; exact ⟨e, by simp only [e]⟩
    · simp at hg
  have hev : Ev X w X' w := ⟨rfl, rfl, rfl, Nat.le_refl _, fun _ _ _ => rfl, fun b ⟨id, r, h1, h2⟩ => .inl ⟨id, r, (hown id r h1).1, h2⟩, fun b hb => .inl hb,
    fun b hb => hb.elim .inl fun ⟨id, r, _, h1, h2⟩ => .inr (.inl ⟨id, r, h1, h2⟩), fun _ h => h, fun id r _ hr => ⟨r, (hown id r hr).1, .inl rfl⟩⟩
  have L : Lends (gone h h') h X X' w := ⟨hev, fun id o hg => by rw [← (hgone id (by rw [hg]; simp)).2]; exact hg, fun id o r b hg h1 h2 => .inr ⟨id, r, by rw [hg]; simp, h1, h2⟩⟩
  refine ⟨X', L, ⟨⟨fun b hb => ?_, fun id r hr => H.ok.ids id r (hown id r hr).1, fun id r b hr hb => H.ok.blk id r b (hown id r hr).1 hb, fun i1 i2 r1 r2 b h1 h2 => H.ok.inj i1 i2 r1 r2 b (hown _ _ h1).1 (hown _ _ h2).1⟩,
    fun id hu => Nat.lt_of_lt_of_le (H.lt id hu) hnx, fun id hg => by simp only [X', hg], fun id o' hg => ?_⟩⟩
  · rcases hb with hb | ⟨id, r, hg, h1, h2⟩
    · exact ⟨(H.ok.imm b hb).1, fun ⟨id, r, h1, h2⟩ => (H.ok.imm b hb).2 ⟨id, r, (hown id r h1).1, h2⟩⟩
    · refine ⟨H.ok.blk id r b h1 h2, fun ⟨id', r', h1', h2'⟩ => ?_⟩
      obtain ⟨h3, o', h4⟩ := hown id' r' h1'
      have := H.ok.inj id id' r r' b h1 h3 h2 h2'
      subst this
      rw [(hgone id hg).1] at h4
      simp at h4
  · obtain ⟨o, h1, h2⟩ := ho id o' hg
    have hown' : X'.own id = X.own id := by simp only [X', hg]
    rcases h2 with rfl | ⟨E, s, es, es', rfl, rfl, h3, h4⟩
    · exact (H.obj id o h1).kept H.ok hev hown' fun _ _ _ _ => rfl
    · obtain ⟨cv, xs, k1, k2, k3, k4, k5⟩ := H.own_of_get h1
      refine ⟨cv, xs, by rw [hown', k1, h3.1], by rw [← h3.1]; exact k2, fun e he => ?_, k4, ?_⟩
      · obtain ⟨j, hj⟩ := List.getElem?_of_mem he
        have hlt : j < es.length := by rw [h3.1]; exact (List.getElem?_eq_some_iff.1 hj).1
        have := ((h3.2 j _ e (List.getElem?_eq_getElem hlt) hj).cells (h4 e he)).1
        exact ⟨by rw [← this]; exact (k3 _ (List.getElem_mem hlt)).1, h4 e he⟩
      · exact conv_flat h3 h4 (fun j a b ha hb c hc => (h3.2 j a b ha hb).rel H L hc) k5 k4

theorem wpT_weak {ro : Option Nat} {n : Nat} {todo : List Item} {R : Exit → Tm → Hp → Prop} {tm tm' : Tm} {h' : Hp} (hnx : h.nx ≤ h'.nx) (ho : ∀ id o', h'.get id = some o' → ∃ o, h.get id = some o ∧ ObLend (gone h h') o o')
    (ht : ∀ t, Lend (gone h h') (tm t) (tm' t)) (hw : wpT P ro n todo R tm' h') : wpT P ro n todo R tm h := by
  intro X w b cs a B h1 h2 h3 h4 h5 h6
  obtain ⟨X', L, H'⟩ := drop_ok h5 hnx ho
  obtain ⟨e, tm2, h2', X2, w2, a2, todo2, g1, g2, g3, g4, g5, g6, g7⟩ := hw X' w b cs a B h1 h2 h3 ⟨h4.1, fun t => (ht t).rel h5 L (h4.2 t)⟩ H' (h6.mono L.ev)
  exact ⟨e, tm2, h2', X2, w2, a2, todo2, g1, g2, L.ev.trans g3, g4, g5, g6, g7⟩

/-- A heap by a list of its objects. -/
def Hp.of (l : List (Nat × Ob)) (nx : Nat) : Hp := ⟨fun id => (l.find? (fun p => p.1 == id)).map (·.2), nx⟩
theorem of_nil {n id : Nat} : (Hp.of [] n).get id = none := rfl
theorem of_cons {n id i : Nat} {o : Ob} {l : List (Nat × Ob)} : (Hp.of ((i, o) :: l) n).get id = if id = i then some o else (Hp.of l n).get id := by
  by_cases e : i = id
  · subst e; simp [Hp.of]
  · have e' : ¬ id = i := fun h => e h.symm
    have e2 : (i == id) = false := by simpa using e
    simp [Hp.of, List.find?_cons, e2, e']
theorem of_nx {n : Nat} {l : List (Nat × Ob)} : (Hp.of l n).nx = n := rfl
theorem of_mem {n id : Nat} {o : Ob} {l : List (Nat × Ob)} (hg : (Hp.of l n).get id = some o) : (id, o) ∈ l := by
  simp only [Hp.of, Option.map_eq_some_iff] at hg
  obtain ⟨p, h1, rfl⟩ := hg
  have := List.find?_some h1
  have hm := List.mem_of_find?_eq_some h1
  have this : p.1 = id := by simpa using this
  subst this
  exact hm

/-- Objects are forgotten. -/
theorem wpT_drop {ro : Option Nat} {n m : Nat} {todo : List Item} {R : Exit → Tm → Hp → Prop} {tm : Tm} (l : List (Nat × Ob)) (hl : ∀ p ∈ l, h.get p.1 = some p.2) (hn : h.nx ≤ m) (hw : wpT P ro n todo R tm (Hp.of l m)) : wpT P ro n todo R tm h :=
  wpT_weak (h' := Hp.of l m) hn (fun id o' hg => ⟨o', hl _ (of_mem hg), .inl rfl⟩) (fun t => .refl _) hw

/-! ### Calls of what is proved at the empty heap -/
theorem empty_rel {m : Nat} {w : World} {I : Nat → Prop} {U : Nat → Prop} (hi : ∀ b, I b → b < w.heap.size) (hu : ∀ id, U id → id < m) : HRel (Hp.empty m) ⟨fun _ => none, I, U⟩ w :=
  ⟨⟨fun b hb => ⟨hi b hb, fun ⟨_, _, h, _⟩ => by simp at h⟩, fun _ _ h => by simp at h, fun _ _ _ h => by simp at h, fun _ _ _ _ _ h => by simp at h⟩, hu, fun _ _ => rfl, fun _ _ h => by simp [Hp.empty] at h⟩

/-- Numbers, truths, strings: nothing of memory. -/
inductive Scal : AV → Prop
  | int (k : IntKind) (n : Int) : Scal (.int k n)
  | bool (b : Bool) : Scal (.bool b)
  | str (s : ByteArray) : Scal (.str s)
  | tup (xs : List AV) (h : ∀ x ∈ xs, Scal x) : Scal (.tup xs)

theorem Scal.rel {X' : Cx} {w' : World} {a : AV} (hs : Scal a) : ∀ {c : Value}, VRel X w a c → VRel X' w' a c := by
  induction hs with
  | int k n => intro c h; cases h; exact .int k n
  | bool b => intro c h; cases h; exact .bool b
  | str s => intro c h; cases h; exact .str s
  | tup xs hx ih =>
    intro c h
    cases h with
    | tup _ cs hl hr => exact .tup xs cs hl fun j a c ha hc => ih a (List.mem_of_getElem? ha) (hr j a c ha hc)

/-- A call that leaves memory as it is. -/
def PureV (P : Program) (fv : AV) (args : List AV) (r : AV) : Prop := CallV P fv args (Hp.empty 0) fun v _ => v = r

theorem back_ok {X2 : Cx} {w' : World} {I : Nat → Prop} {U : Nat → Prop} (H : HRel h X w) (hI : ∀ b, X.imm b → I b) (hI' : ∀ b, I b → X.imm b ∨ X.Owned b) (hev : Ev ⟨fun _ => none, I, U⟩ w X2 w') : Ev X w X w' ∧ HRel h X w' := by
  have hno : ∀ b, ¬ Cx.Owned ⟨fun _ => none, I, U⟩ b := fun b ⟨_, _, h, _⟩ => by simp at h
  have he : Ev X w X w' := ⟨hev.os, hev.tape, hev.output, hev.size, fun b hb _ => hev.kept b hb (hno b), fun _ h => .inl h, fun _ h => h, fun _ h => .inl h, fun _ h => h, fun _ r _ h => ⟨r, h, .inl rfl⟩⟩
  exact ⟨he, H.world hev.size (fun b hb => hev.kept b (H.ok.imm b hb).1 (hno b)) fun b ⟨id, r, h1, h2⟩ => hev.kept b (H.ok.blk id r b h1 h2) (hno b)⟩

/-- The callee only looks at what it is given, and returns numbers. -/
theorem PureV.lendX {fv fv' r : AV} {args args' : List AV} (hp : PureV P fv' args' r) (hs : Scal r) (hf : Lend h.get fv fv') (ha : LendL h.get args args') (hf' : Idf fv') (ha' : ∀ a ∈ args', Idf a)
    {cf : Value} {cargs : Array Value} (H : HRel h X w) (hfv : VRel X w fv cf) (hargs : VRelL X w args cargs.toList) :
    GoesF P cf cargs w fun c w' => ∃ X', Ev X w X' w' ∧ VRel X' w' r c ∧ HRel h X' w' ∧ ∀ id, X'.used id → X.used id := by
  let X1 : Cx := ⟨fun _ => none, fun b => X.imm b ∨ X.Owned b, X.used⟩
  have hev : Ev X w X1 w := ⟨rfl, rfl, rfl, Nat.le_refl _, fun _ _ _ => rfl, fun b ⟨_, _, h, _⟩ => by simp [X1] at h, fun b hb => .inl hb, fun b hb => hb.elim .inl fun h => .inr (.inl h), fun _ h => h, fun _ _ _ h => by simp [X1] at h⟩
  have L : Lends h.get h X X1 w := ⟨hev, fun _ _ h => h, fun id o r b _ h1 h2 => .inr ⟨id, r, h1, h2⟩⟩
  have hfv1 := hf.rel H L hfv
  have hargs1 : VRelL X1 w args' cargs.toList := ⟨by rw [hargs.1, ha.1], fun j b c hb hc => by
    have hlt : j < args.length := by rw [ha.1]; exact (List.getElem?_eq_some_iff.1 hb).1
    exact (ha.2 j _ b (List.getElem?_eq_getElem hlt) hb).rel H L (hargs.2 j _ c (List.getElem?_eq_getElem hlt) hc)⟩
  let X2 : Cx := ⟨fun _ => none, X1.imm, fun _ => False⟩
  have hX2 : HRel (Hp.empty 0) X2 w := empty_rel (fun b hb => hb.elim (fun h => (H.ok.imm b h).1) fun ⟨id, r, h1, h2⟩ => H.ok.blk id r b h1 h2) fun _ h => h.elim
  refine (hp X2 w cf cargs hX2 (VRel.idf (X := X1) (X' := X2) (fun _ h => h) (fun _ _ => rfl) hfv1 hf') (VRelL.idf (X := X1) (X' := X2) (fun _ h => h) (fun _ _ => rfl) hargs1 ha')).mono ?_
  rintro c w' ⟨X3, v, h3, rfl, hev3, hv, _⟩
  obtain ⟨g1, g2⟩ := back_ok H (fun b h => .inl h) (fun b h => h) hev3
  exact ⟨X, g1, hs.rel hv, g2, fun _ h => h⟩
theorem PureV.lend {fv fv' r : AV} {args args' : List AV} (hp : PureV P fv' args' r) (hs : Scal r) (hf : Lend h.get fv fv') (ha : LendL h.get args args') (hf' : Idf fv') (ha' : ∀ a ∈ args', Idf a) : CallV P fv args h fun v h' => v = r ∧ h' = h :=
  fun X w cf cargs H hfv hargs => (hp.lendX hs hf ha hf' ha' H hfv hargs).mono fun _ _ ⟨X', h1, h2, h3, _⟩ => ⟨X', r, h, ⟨rfl, rfl⟩, h1, h2, h3⟩

/-- The callee's arguments name no owned object, nor does what it returns. -/
theorem PureV.frameX {fv r : AV} {args : List AV} (hp : PureV P fv args r) (hr : Idf r) (hf : Idf fv) (ha : ∀ a ∈ args, Idf a)
    {cf : Value} {cargs : Array Value} (H : HRel h X w) (hfv : VRel X w fv cf) (hargs : VRelL X w args cargs.toList) :
    GoesF P cf cargs w fun c w' => ∃ X', Ev X w X' w' ∧ VRel X' w' r c ∧ HRel h X' w' ∧ ∀ id, X'.used id → X.used id := by
  let X2 : Cx := ⟨fun _ => none, X.imm, fun _ => False⟩
  have hX2 : HRel (Hp.empty 0) X2 w := empty_rel (fun b hb => (H.ok.imm b hb).1) fun _ h => h.elim
  refine (hp X2 w cf cargs hX2 (VRel.idf (X := X) (X' := X2) (fun _ h => h) (fun _ _ => rfl) hfv hf) (VRelL.idf (X := X) (X' := X2) (fun _ h => h) (fun _ _ => rfl) hargs ha)).mono ?_
  rintro c w' ⟨X3, v, h3, rfl, hev3, hv, H3⟩
  have hno : ∀ b, ¬ X2.Owned b := fun b ⟨_, _, h, _⟩ => by simp [X2] at h
  obtain ⟨g1, g2⟩ := back_ok H (fun b h => h) (fun b h => .inl h) hev3
  let X4 : Cx := ⟨X.own, fun b => X3.imm b, X.used⟩
  have himm : ∀ b, X3.imm b → X.imm b ∨ w.heap.size ≤ b := fun b hb => (hev3.imm' b hb).elim .inl fun h => h.elim (fun h => (hno b h).elim) .inr
  have hnot : ∀ b, X3.imm b → ¬ X.Owned b := fun b hb hown => by
    rcases himm b hb with h | h
    · exact (H.ok.imm b h).2 hown
    · obtain ⟨id, r, h1, h2⟩ := hown
      have := H.ok.blk id r b h1 h2; omega
  have he : Ev X w X4 w' := ⟨g1.os, g1.tape, g1.output, g1.size, g1.kept, fun _ h => .inl h, fun b hb => hev3.imm b hb, fun b hb => (himm b hb).elim .inl fun h => .inr (.inr h), fun _ h => h, fun _ r _ h => ⟨r, h, .inl rfl⟩⟩
  refine ⟨X4, he, VRel.idf (X := X3) (X' := X4) (fun _ h => h) (fun _ _ => rfl) hv hr, ⟨⟨fun b hb => ⟨(H3.ok.imm b hb).1, hnot b hb⟩, H.ok.ids, g2.ok.blk, H.ok.inj⟩, H.lt, H.dead, fun id o hg => ?_⟩, fun _ h => h⟩
  exact (H.obj id o hg).kept H.ok he rfl fun r b h1 h2 => hev3.kept b (H.ok.blk id r b h1 h2) (hno b)
theorem PureV.frame {fv r : AV} {args : List AV} (hp : PureV P fv args r) (hr : Idf r) (hf : Idf fv) (ha : ∀ a ∈ args, Idf a) : CallV P fv args h fun v h' => v = r ∧ h' = h :=
  fun X w cf cargs H hfv hargs => (hp.frameX hr hf ha H hfv hargs).mono fun _ _ ⟨X', h1, h2, h3, _⟩ => ⟨X', r, h, ⟨rfl, rfl⟩, h1, h2, h3⟩

end
end Go.Proofs.YtfdfkmcplhloaaaGreat
end

section
set_option linter.unusedSimpArgs false
set_option linter.unusedVariables false
namespace Go.Proofs.YtfdfkmcplhloaaaGreat
section
variable {P : Program} {X : Cx} {w : World} {h : Hp}

theorem gone_empty {m : Nat} : gone h (Hp.empty m) = h.get := rfl

theorem CallV.lendOut {fv r : AV} {args : List AV} {h0 : Hp} {K : AV → Hp → Prop} (hc : CallV P fv args h0 K) (hk : ∀ v h, K v h → Lend h.get v r) : CallV P fv args h0 fun v _ => v = r := by
  refine fun X w cf cargs H hf ha => (hc X w cf cargs H hf ha).mono ?_
  rintro c w' ⟨X', v, h', h1, h2, h3, h4⟩
  obtain ⟨X2, L, H2⟩ := drop_ok (h' := Hp.empty h'.nx) h4 (Nat.le_refl _) (fun id o' hg => by simp [Hp.empty] at hg)
  exact ⟨X2, r, _, rfl, h2.trans L.ev, (hk v h' h1).rel h4 L h3, H2⟩

/-- A function that leaves memory as it is: out of its body. -/
theorem pure_func {f : FuncId} {fn : Func} {c : Code} {first caps args : List AV} {r : AV} (hf : P.funcs[f]? = some fn) (hb : fn.body = some c) (hname : (fn.name == "runtime.NumGoroutine") = false)
    (hlen : (first ++ args ++ caps).length ≤ fn.ntmps)
    (hw : wpT P none fn.ntmps [.code c] (fun e tm' h' => (e = .normal ∨ e = .ret) ∧ optK (resA P tm' h'.get fn.results.toList) fun vs => Lend h'.get (retA vs) r) (tm0 (first ++ args ++ caps)) (Hp.empty 0)) :
    PureV P (.fn (.func f) first caps) args r :=
  CallV.lendOut (K := fun v h' => Lend h'.get v r) (callV_func hf hb hname hlen hw) fun _ _ h => h

/-- Values up to the names of what is new. -/
inductive Ren (D : Nat → Prop) (q : Nat → Nat) : AV → AV → Prop
  | idf (a : AV) (h : Idf a) : Ren D q a a
  | sl (id tot off len : Nat) (hd : D id) : Ren D q (.sl (q id) tot off len) (.sl id tot off len)
  | agg (xs ys : List AV) (hl : xs.length = ys.length) (hr : ∀ (j : Nat) a b, xs[j]? = some a → ys[j]? = some b → Ren D q a b) : Ren D q (.agg xs) (.agg ys)
  | tup (xs ys : List AV) (hl : xs.length = ys.length) (hr : ∀ (j : Nat) a b, xs[j]? = some a → ys[j]? = some b → Ren D q a b) : Ren D q (.tup xs) (.tup ys)

def ObIdf : Ob → Prop
  | .arr _ _ es => ∀ e ∈ es, Idf e
  | .map _ _ ks vs => (∀ e ∈ ks, Idf e) ∧ ∀ e ∈ vs, Idf e
  | .loop .. => False

theorem Ren.rel {D : Nat → Prop} {q : Nat → Nat} {X' : Cx} (hi' : ∀ b, X.imm b → X'.imm b)
    (hq : ∀ id tot off len c, D id → VRel X w (.sl (q id) tot off len) c → VRel X' w (.sl id tot off len) c) {a b : AV} (hr : Ren D q a b) : ∀ {c : Value}, VRel X w a c → VRel X' w b c := by
  induction hr with
  | idf a h => intro c hc; exact hc.idf hi' (fun _ _ => rfl) h
  | sl id tot off len hd => intro c hc; exact hq _ _ _ _ _ hd hc
  | agg xs ys hl hr ih =>
    intro c hc
    cases hc with
    | agg _ cs hl' ho hr' =>
      refine .agg ys cs (by omega) ho fun j b c hb hc => ?_
      have hlt : j < xs.length := by rw [hl]; exact (List.getElem?_eq_some_iff.1 hb).1
      exact ih j _ b (List.getElem?_eq_getElem hlt) hb (hr' j _ c (List.getElem?_eq_getElem hlt) hc)
  | tup xs ys hl hr ih =>
    intro c hc
    cases hc with
    | tup _ cs hl' hr' =>
      refine .tup ys cs (by omega) fun j b c hb hc => ?_
      have hlt : j < xs.length := by rw [hl]; exact (List.getElem?_eq_some_iff.1 hb).1
      exact ih j _ b (List.getElem?_eq_getElem hlt) hb (hr' j _ c (List.getElem?_eq_getElem hlt) hc)

/-- The heap with new objects. -/
def Hp.plus (h : Hp) (l : List (Nat × Ob)) (nx : Nat) : Hp := ⟨fun j => match l.find? (fun p => p.1 == j) with | some p => some p.2 | none => h.get j, nx⟩

theorem CallV.rename {fv r : AV} {args : List AV} {K : AV → Hp → Prop} (hp : CallV P fv args (Hp.empty 0) K) (l : List (Nat × Ob))
    (hK : ∀ v h2, K v h2 → ∃ q : Nat → Nat, (∀ p ∈ l, h2.get (q p.1) = some p.2) ∧ Ren (fun id => ∃ p ∈ l, p.1 = id) q v r ∧ ∀ p ∈ l, ∀ p' ∈ l, q p.1 = q p'.1 → p.1 = p'.1)
    (hob : ∀ p ∈ l, ObIdf p.2) (hf : Idf fv) (ha : ∀ a ∈ args, Idf a) {nx : Nat} (hnx : h.nx ≤ nx) (hlt : ∀ p ∈ l, p.1 < nx) {cf : Value} {cargs : Array Value} (H : HRel h X w) (hfree : ∀ p ∈ l, ¬ X.used p.1) (hfv : VRel X w fv cf) (hargs : VRelL X w args cargs.toList) :
    GoesF P cf cargs w fun c w' => ∃ X', Ev X w X' w' ∧ VRel X' w' r c ∧ HRel (h.plus l nx) X' w' ∧ ∀ id, X'.used id → X.used id ∨ ∃ p ∈ l, p.1 = id := by
  let X1 : Cx := ⟨fun _ => none, X.imm, fun _ => False⟩
  have hX1 : HRel (Hp.empty 0) X1 w := empty_rel (fun b hb => (H.ok.imm b hb).1) fun _ h => h.elim
  refine (hp X1 w cf cargs hX1 (VRel.idf (X := X) (X' := X1) (fun _ h => h) (fun _ _ => rfl) hfv hf) (VRelL.idf (X := X) (X' := X1) (fun _ h => h) (fun _ _ => rfl) hargs ha)).mono ?_
  rintro c w' ⟨X2, v, h2, hk, hev, hv, H2⟩
  obtain ⟨q, hobj, hr, hq⟩ := hK v h2 hk
  have hno : ∀ b, ¬ X1.Owned b := fun b ⟨_, _, h, _⟩ => by simp [X1] at h
  obtain ⟨g1, g2⟩ := back_ok H (fun b h => h) (fun b h => .inl h) hev
  have hown2 : ∀ b, X2.Owned b → w.heap.size ≤ b := fun b hb => (hev.owned b hb).elim (fun h => (hno b h).elim) id
  have himm : ∀ b, X2.imm b → X.imm b ∨ w.heap.size ≤ b := fun b hb => (hev.imm' b hb).elim .inl fun h => h.elim (fun h => (hno b h).elim) .inr
  let X3 : Cx := ⟨fun j => match l.find? (fun p => p.1 == j) with | some p => X2.own (q p.1) | none => X.own j, X2.imm, fun j => X.used j ∨ ∃ p ∈ l, p.1 = j⟩
  have hown3 : ∀ j r, X3.own j = some r → (∃ p ∈ l, p.1 = j ∧ X2.own (q p.1) = some r) ∨ ((∀ p ∈ l, p.1 ≠ j) ∧ X.own j = some r) := by
    intro j r hj
    simp only [X3] at hj
    split at hj
    · rename_i p hp'
      exact .inl ⟨p, List.mem_of_find?_eq_some hp', by simpa using List.find?_some hp', hj⟩
    · rename_i hp'
      refine .inr ⟨fun p hm hqe => ?_, hj⟩
      have := List.find?_eq_none.1 hp' p hm
      simp [hqe] at this
  have hlow : ∀ j r b, X.own j = some r → blockOf r.cv = some b → b < w.heap.size := fun j r b h1 h2 => H.ok.blk j r b h1 h2
  have hhigh : ∀ j r b, X2.own j = some r → blockOf r.cv = some b → w.heap.size ≤ b := fun j r b h1 h2 => hown2 b ⟨j, r, h1, h2⟩
  have he : Ev X w X3 w' := by
    refine ⟨g1.os, g1.tape, g1.output, g1.size, fun b hb _ => hev.kept b hb (hno b), ?_, fun b hb => hev.imm b hb, fun b hb => (himm b hb).elim .inl fun h => .inr (.inr h), fun _ h => .inl h, ?_⟩
    · rintro b ⟨j, r, h1, h2⟩
      rcases hown3 j r h1 with ⟨p, _, _, h3⟩ | ⟨_, h3⟩
      · exact .inr (hhigh _ r b h3 h2)
      · exact .inl ⟨j, r, h3, h2⟩
    · intro id r' hu hr'
      rcases hown3 id r' hr' with ⟨p, hm, rfl, h3⟩ | ⟨_, h3⟩
      · exact absurd hu (hfree p hm)
      · exact ⟨r', h3, .inl rfl⟩
  refine ⟨X3, he, ?_, ⟨⟨?_, ?_, ?_, ?_⟩, ?_, ?_, ?_⟩, fun id h => h⟩
  · refine hr.rel (X := X2) (X' := X3) (fun _ h => h) (fun id tot off len c hd hc => ?_) hv
    obtain ⟨p, hm, rfl⟩ := hd
    cases hc with
    | sl _ _ _ _ _ ho hid hv' =>
      refine .sl _ tot off len c ho (.inr ⟨p, hm, rfl⟩) fun r hr' => ?_
      rcases hown3 _ r hr' with ⟨p', hm', hqe, h3⟩ | ⟨h3, _⟩
      · rw [hqe] at h3
        exact hv' r h3
      · exact absurd rfl (h3 p hm)
  · refine fun b hb => ⟨(H2.ok.imm b hb).1, ?_⟩
    rintro ⟨j, r, h1, h2⟩
    rcases hown3 j r h1 with ⟨p, _, _, h3⟩ | ⟨_, h3⟩
    · exact (H2.ok.imm b hb).2 ⟨_, r, h3, h2⟩
    · rcases himm b hb with h4 | h4
      · exact (H.ok.imm b h4).2 ⟨j, r, h3, h2⟩
      · have := hlow j r b h3 h2; omega
  · intro j r hj
    rcases hown3 j r hj with ⟨p, hm, hqe, _⟩ | ⟨_, h3⟩
    · exact .inr ⟨p, hm, hqe⟩
    · exact .inl (H.ok.ids j r h3)
  · intro j r b hj hb
    rcases hown3 j r hj with ⟨p, _, _, h3⟩ | ⟨_, h3⟩
    · exact H2.ok.blk _ r b h3 hb
    · exact Nat.lt_of_lt_of_le (hlow j r b h3 hb) hev.size
  · intro i1 i2 r1 r2 b h1 h2 hb1 hb2
    rcases hown3 i1 r1 h1 with ⟨p1, m1, e1, k1⟩ | ⟨n1, k1⟩ <;> rcases hown3 i2 r2 h2 with ⟨p2, m2, e2, k2⟩ | ⟨n2, k2⟩
    · have := H2.ok.inj _ _ r1 r2 b k1 k2 hb1 hb2
      rw [← e1, ← e2, hq p1 m1 p2 m2 this]
    · have := hhigh _ r1 b k1 hb1; have := hlow _ r2 b k2 hb2; omega
    · have := hlow _ r1 b k1 hb1; have := hhigh _ r2 b k2 hb2; omega
    · exact H.ok.inj i1 i2 r1 r2 b k1 k2 hb1 hb2
  · rintro j (hu | ⟨p, hm, rfl⟩)
    · exact Nat.lt_of_lt_of_le (H.lt j hu) hnx
    · exact hlt p hm
  · intro j hj
    simp only [Hp.plus] at hj
    split at hj
    · simp at hj
    · rename_i e
      have : X3.own j = X.own j := by simp only [X3, e]
      exact this.trans (H.dead j hj)
  · intro j o hj
    simp only [Hp.plus] at hj
    split at hj
    · rename_i p hp'
      obtain rfl := Option.some.inj hj
      have hm := List.mem_of_find?_eq_some hp'
      have ho := H2.obj (q p.1) p.2 (hobj p hm)
      have hownj : X3.own j = X2.own (q p.1) := by simp only [X3, hp']
      have hid := hob p hm
      cases hpo : p.2 with
      | arr E s es =>
        rw [hpo] at ho hid
        obtain ⟨cv, xs, k1, k2, k3, k4, k5⟩ := ho
        exact ⟨cv, xs, hownj.trans k1, k2, k3, k4, VRelL.idf (X := X2) (X' := X3) (fun _ h => h) (fun _ _ => rfl) k5 (Idf.flat hid)⟩
      | map kt et ks vs =>
        rw [hpo] at ho hid
        obtain ⟨r, es, clock, k1, k2, k3, k4, k5, k6⟩ := ho
        exact ⟨r, es, clock, hownj.trans k1, k2, k3, k4, fun i a c h1 h2 => VRel.idf (X := X2) (X' := X3) (fun _ h => h) (fun _ _ => rfl) (k5 i a c h1 h2) (hid.1 a (List.mem_of_getElem? h1)), fun i a c h1 h2 => VRel.idf (X := X2) (X' := X3) (fun _ h => h) (fun _ _ => rfl) (k6 i a c h1 h2) (hid.2 a (List.mem_of_getElem? h1))⟩
      | loop l fn ps assign body tm nt st pend => rw [hpo] at hid; exact hid.elim
    · rename_i e
      have hownj : X3.own j = X.own j := by simp only [X3, e]
      exact (H.obj j o hj).kept H.ok he hownj fun r b h1 h2 => hev.kept b (hlow j r b h1 h2) (hno b)

/-- A call that leaves one new array, which nobody else knows. -/
def NewV (P : Program) (fv : AV) (args : List AV) (E : TypeId) (s : Nat) (es : List AV) : Prop :=
  CallV P fv args (Hp.empty 0) fun v h => ∃ id, v = .sl id es.length 0 es.length ∧ h.get id = some (.arr E s es)

theorem NewV.rename {fv : AV} {args : List AV} {E s : Nat} {es : List AV} (hp : NewV P fv args E s es) (he : ∀ e ∈ es, Idf e) (hf : Idf fv) (ha : ∀ a ∈ args, Idf a) {nid nx : Nat} (hnx : h.nx ≤ nx) (hlt : nid < nx)
    {cf : Value} {cargs : Array Value} (H : HRel h X w) (hfree : ¬ X.used nid) (hfv : VRel X w fv cf) (hargs : VRelL X w args cargs.toList) :
    GoesF P cf cargs w fun c w' => ∃ X', Ev X w X' w' ∧ VRel X' w' (.sl nid es.length 0 es.length) c ∧ HRel ⟨fun j => if j = nid then some (.arr E s es) else h.get j, nx⟩ X' w' ∧ ∀ id, X'.used id → X.used id ∨ id = nid := by
  refine (CallV.rename (r := .sl nid es.length 0 es.length) hp [(nid, .arr E s es)] ?_ (by simpa [ObIdf] using he) hf ha hnx (by simpa using hlt) H (by simpa using hfree) hfv hargs).mono ?_
  · rintro v h2 ⟨id, rfl, hg⟩
    exact ⟨fun _ => id, by simpa using hg, .sl nid _ _ _ ⟨(nid, .arr E s es), by simp, rfl⟩, by simp⟩
  · rintro c w' ⟨X', h1, h2, h3, h4⟩
    refine ⟨X', h1, h2, ?_, fun id hid => (h4 id hid).imp (fun h => h) fun ⟨p, hp, e⟩ => by simp at hp; subst hp; exact e.symm⟩
    have : h.plus [(nid, .arr E s es)] nx = ⟨fun j => if j = nid then some (.arr E s es) else h.get j, nx⟩ := by
      unfold Hp.plus
      congr 1
      funext j
      by_cases e : j = nid
      · subst e; simp
      · have : (nid == j) = false := by simpa using fun h => e h.symm
        simp [List.find?_cons, this, e]
    rwa [this] at h3

theorem Scal.cells {a : AV} (hs : Scal a) : a.cells = [a] := by cases hs <;> rfl
theorem Scal.flat {es : List AV} (he : ∀ e ∈ es, Scal e) : ∀ x ∈ flat es, Scal x := by
  intro x hx
  obtain ⟨v, h1, h2⟩ := List.mem_flatMap.1 hx
  rw [(he v h1).cells, List.mem_singleton] at h2
  subst h2
  exact he _ h1

/-- The callee only looks at what it is given, and leaves one new array of numbers. -/
theorem NewV.lendX {fv fv' : AV} {args args' : List AV} {E s : Nat} {es : List AV} (hp : NewV P fv' args' E s es) (he : ∀ e ∈ es, Scal e) (hf : Lend h.get fv fv') (ha : LendL h.get args args') (hf' : Idf fv') (ha' : ∀ a ∈ args', Idf a)
    {nid nx : Nat} (hnx : h.nx ≤ nx) (hlt : nid < nx) {cf : Value} {cargs : Array Value} (H : HRel h X w) (hfree : ¬ X.used nid) (hfv : VRel X w fv cf) (hargs : VRelL X w args cargs.toList) :
    GoesF P cf cargs w fun c w' => ∃ X', Ev X w X' w' ∧ VRel X' w' (.sl nid es.length 0 es.length) c ∧ HRel ⟨fun j => if j = nid then some (.arr E s es) else h.get j, nx⟩ X' w' ∧ ∀ id, X'.used id → X.used id ∨ id = nid := by
  let X1 : Cx := ⟨fun _ => none, fun b => X.imm b ∨ X.Owned b, X.used⟩
  have hev : Ev X w X1 w := ⟨rfl, rfl, rfl, Nat.le_refl _, fun _ _ _ => rfl, fun b ⟨_, _, h, _⟩ => by simp [X1] at h, fun b hb => .inl hb, fun b hb => hb.elim .inl fun h => .inr (.inl h), fun _ h => h, fun _ _ _ h => by simp [X1] at h⟩
  have L : Lends h.get h X X1 w := ⟨hev, fun _ _ h => h, fun id o r b _ h1 h2 => .inr ⟨id, r, h1, h2⟩⟩
  have hfv1 := hf.rel H L hfv
  have hargs1 : VRelL X1 w args' cargs.toList := ⟨by rw [hargs.1, ha.1], fun j b c hb hc => by
    have hlt : j < args.length := by rw [ha.1]; exact (List.getElem?_eq_some_iff.1 hb).1
    exact (ha.2 j _ b (List.getElem?_eq_getElem hlt) hb).rel H L (hargs.2 j _ c (List.getElem?_eq_getElem hlt) hc)⟩
  let X2 : Cx := ⟨fun _ => none, X1.imm, fun _ => False⟩
  have hX2 : HRel (Hp.empty 0) X2 w := empty_rel (fun b hb => hb.elim (fun h => (H.ok.imm b h).1) fun ⟨id, r, h1, h2⟩ => H.ok.blk id r b h1 h2) fun _ h => h.elim
  refine (hp X2 w cf cargs hX2 (VRel.idf (X := X1) (X' := X2) (fun _ h => h) (fun _ _ => rfl) hfv1 hf') (VRelL.idf (X := X1) (X' := X2) (fun _ h => h) (fun _ _ => rfl) hargs1 ha')).mono ?_
  rintro c w' ⟨X3, v, h2, ⟨id, rfl, hg⟩, hev3, hv, H3⟩
  obtain ⟨g1, g2⟩ := back_ok H (fun b h => .inl h) (fun b h => h) hev3
  have hno : ∀ b, ¬ X2.Owned b := fun b ⟨_, _, h, _⟩ => by simp [X2] at h
  obtain ⟨cv, xs, k1, k2, k3, k4, k5⟩ := H3.own_of_get hg
  have hhigh : ∀ b, blockOf cv = some b → w.heap.size ≤ b := fun b hb => (hev3.owned b ⟨id, _, k1, hb⟩).elim (fun h => (hno b h).elim) fun h => h
  let X4 : Cx := ⟨fun j => if j = nid then some ⟨es.length, s, cv⟩ else X.own j, X.imm, fun j => X.used j ∨ j = nid⟩
  have hown4 : ∀ j r, X4.own j = some r → (j = nid ∧ r = ⟨es.length, s, cv⟩) ∨ (j ≠ nid ∧ X.own j = some r) := by
    intro j r hj
    simp only [X4] at hj
    split at hj
    · exact .inl ⟨by assumption, (Option.some.inj hj).symm⟩
    · exact .inr ⟨by assumption, hj⟩
  have hlow : ∀ j r b, X.own j = some r → blockOf r.cv = some b → b < w.heap.size := fun j r b h1 h2 => H.ok.blk j r b h1 h2
  have hev4 : Ev X w X4 w' := by
    refine ⟨g1.os, g1.tape, g1.output, g1.size, g1.kept, ?_, fun _ h => h, fun _ h => .inl h, fun _ h => .inl h, ?_⟩
    · rintro b ⟨j, r, h1, h2⟩
      rcases hown4 j r h1 with ⟨_, rfl⟩ | ⟨_, h3⟩
      · exact .inr (hhigh b h2)
      · exact .inl ⟨j, r, h3, h2⟩
    · intro j r' hu hr'
      rcases hown4 j r' hr' with ⟨rfl, _⟩ | ⟨_, h3⟩
      · exact absurd hu hfree
      · exact ⟨r', h3, .inl rfl⟩
  refine ⟨X4, hev4, ?_, ⟨⟨?_, ?_, ?_, ?_⟩, ?_, ?_, ?_⟩, fun _ h => h⟩
  · cases hv with
    | sl _ _ _ _ _ ho hid hv' =>
      refine .sl _ _ _ _ _ ho (.inr rfl) fun r hr => ?_
      rcases hown4 _ r hr with ⟨_, rfl⟩ | ⟨h3, _⟩
      · exact hv' _ k1
      · exact absurd rfl h3
  · refine fun b hb => ⟨Nat.lt_of_lt_of_le (H.ok.imm b hb).1 g1.size, ?_⟩
    rintro ⟨j, r, h1, h2⟩
    rcases hown4 j r h1 with ⟨_, rfl⟩ | ⟨_, h3⟩
    · have := hhigh b h2; have := (H.ok.imm b hb).1; omega
    · exact (H.ok.imm b hb).2 ⟨j, r, h3, h2⟩
  · intro j r hj
    rcases hown4 j r hj with ⟨h1, _⟩ | ⟨_, h3⟩
    · exact .inr h1
    · exact .inl (H.ok.ids j r h3)
  · intro j r b hj hb
    rcases hown4 j r hj with ⟨_, rfl⟩ | ⟨_, h3⟩
    · exact H3.ok.blk id _ b k1 hb
    · exact Nat.lt_of_lt_of_le (hlow j r b h3 hb) g1.size
  · intro i1 i2 r1 r2 b h1 h2 hb1 hb2
    rcases hown4 i1 r1 h1 with ⟨e1, rfl⟩ | ⟨n1, k1'⟩ <;> rcases hown4 i2 r2 h2 with ⟨e2, rfl⟩ | ⟨n2, k2'⟩
    · rw [e1, e2]
    · have := hhigh b hb1; have := hlow _ r2 b k2' hb2; omega
    · have := hlow _ r1 b k1' hb1; have := hhigh b hb2; omega
    · exact H.ok.inj i1 i2 r1 r2 b k1' k2' hb1 hb2
  · rintro j (hu | rfl)
    · exact Nat.lt_of_lt_of_le (H.lt j hu) hnx
    · exact hlt
  · intro j hj
    simp only at hj
    split at hj
    · simp at hj
    · rename_i e
      simp only [X4, if_neg e]
      exact H.dead j hj
  · intro j o hj
    simp only at hj
    split at hj
    · rename_i e
      obtain rfl := Option.some.inj hj
      subst e
      refine ⟨cv, xs, by simp [X4], k2, k3, k4, k5.1, fun i a c ha hc => ?_⟩
      exact (Scal.flat he a (List.mem_of_getElem? ha)).rel (k5.2 i a c ha hc)
    · rename_i e
      exact (H.obj j o hj).kept H.ok hev4 (by simp only [X4, if_neg e]) fun r b h1 h2 => hev3.kept b (hlow j r b h1 h2) (hno b)


theorem NewV.frame {fv : AV} {args : List AV} {E s : Nat} {es : List AV} (hp : NewV P fv args E s es) (he : ∀ e ∈ es, Idf e) (hf : Idf fv) (ha : ∀ a ∈ args, Idf a) : CallV P fv args h fun v h' => v = .sl h.nx es.length 0 es.length ∧ h' = h.add (.arr E s es) := by
  intro X w cf cargs H hfv hargs
  refine (hp.rename he hf ha (nid := h.nx) (nx := h.nx + 1) (by omega) (by omega) H (fun hu => by have := H.lt _ hu; omega) hfv hargs).mono ?_
  rintro c w' ⟨X', h1, h2, h3, h4⟩
  exact ⟨X', _, _, ⟨rfl, rfl⟩, h1, h2, h3⟩

theorem NewV.lend {fv fv' : AV} {args args' : List AV} {E s : Nat} {es : List AV} (hp : NewV P fv' args' E s es) (he : ∀ e ∈ es, Scal e) (hf : Lend h.get fv fv') (ha : LendL h.get args args') (hf' : Idf fv') (ha' : ∀ a ∈ args', Idf a) : CallV P fv args h fun v h' => v = .sl h.nx es.length 0 es.length ∧ h' = h.add (.arr E s es) := by
  intro X w cf cargs H hfv hargs
  refine (hp.lendX he hf ha hf' ha' (nid := h.nx) (nx := h.nx + 1) (by omega) (by omega) H (fun hu => by have := H.lt _ hu; omega) hfv hargs).mono ?_
  rintro c w' ⟨X', h1, h2, h3, h4⟩
  exact ⟨X', _, _, ⟨rfl, rfl⟩, h1, h2, h3⟩

/-- A nil slice becomes an array of ours, of no elements. -/
theorem nil_own (H : HRel h X w) {c : Value} (hc : VRel X w .nil0 c) (E s : Nat) : ∃ X', Ev X w X' w ∧ HRel (h.add (.arr E s [])) X' w ∧ VRel X' w (.sl h.nx 0 0 0) c := by
  have hnu : ¬ X.used h.nx := fun hu => by have := H.lt _ hu; omega
  cases hc with
  | nil0 A =>
    have hp := H.put (w' := w) (id := h.nx) (nx' := h.nx + 1) (r' := ⟨0, s, .slice A 0 0⟩) (o := .arr E s []) (row := none)
      (.inl ⟨by cases hg : X.own h.nx with | none => rfl | some r => exact absurd (H.ok.ids _ r hg) hnu, hnu⟩) (World.grownBy.refl w none) (fun b hb => by simp at hb) (fun b hb => by cases A <;> simp [blockOf] at hb) (by omega) (by omega)
      (fun he => ⟨.slice A 0 0, [], by simp [Cx.put], .inl ⟨A, rfl, rfl, rfl⟩, by simp, by simp, by simpa [flat] using VRelL.nil⟩)
    refine ⟨_, hp.2, hp.1, .sl _ 0 0 0 _ rfl (.inl rfl) fun r hr => ?_⟩
    simp only [Cx.put, if_true, Option.some.injEq] at hr
    subst hr
    exact ⟨Nat.le_refl _, fun _ => ⟨by omega, A, 0, 0, A, rfl, by simp, fun h => absurd rfl h⟩⟩
end
end Go.Proofs.YtfdfkmcplhloaaaGreat
end

section
set_option linter.unusedSimpArgs false
set_option linter.unusedVariables false
namespace Go.Proofs.YtfdfkmcplhloaaaGreat
section
variable {P : Program} {X : Cx} {w : World} {h : Hp}

def topId : AV → List Nat
  | .sl id _ _ _ => [id]
  | .ptr id _ _ _ => [id]
  | .map id => [id]
  | _ => []

def isLen : Callee → Bool
  | .builtin .len => true
  | _ => false

def rkOp : Op → Bool
  | .load .. | .store .. | .nilCheck .. | .slice .. | .fieldAddr .. | .indexAddr .. | .call .. | .lookup .. | .mapUpdate .. => true
  | _ => false
def wkOp : Op → Bool
  | .alloc .. | .box .. | .buildSlice .. | .makeSlice .. | .store .. | .mapUpdate .. | .makeMap .. => true
  | .call c => !isLen c.callee
  | _ => false

def rdOf (o : Op) (tm : Tm) : List Nat := if rkOp o = true then o.operands.toList.flatMap fun x => topId (evA tm x) else []

def Agree (l : List Nat) (g g' : Nat → Option Ob) : Prop := ∀ id ∈ l, ∀ ob, g id = some ob → g' id = some ob

variable {g g' : Nat → Option Ob}
theorem rdS_loc {x : AV} {r : List AV} (ha : Agree (topId x) g g') (h : rdS g x = some r) : rdS g' x = some r := by
  cases x <;> try exact h
  case sl id tot off len =>
    simp only [rdS] at h ⊢
    cases hg : g id with
    | none => simp [hg] at h
    | some ob => rw [hg] at h; rw [ha id (by simp [topId]) ob hg]; exact h
theorem opLoad_loc {t : TypeId} {x r : AV} (ha : Agree (topId x) g g') (h : opLoad P t x g = some r) : opLoad P t x g' = some r := by
  cases x <;> try exact h
  case ptr id tot i off =>
    simp only [opLoad] at h ⊢
    cases hg : g id with
    | none => simp [hg] at h
    | some ob => rw [hg] at h; rw [ha id (by simp [topId]) ob hg]; exact h
theorem opStore_loc {t : TypeId} {a x : AV} {r : Ef} (ha : Agree (topId a) g g') (h : opStore P t a x g = some r) : opStore P t a x g' = some r := by
  cases a <;> try exact h
  case ptr id tot i off =>
    simp only [opStore] at h ⊢
    cases hg : g id with
    | none => simp [hg] at h
    | some ob => rw [hg] at h; rw [ha id (by simp [topId]) ob hg]; exact h
theorem opNilCheck_loc {x r : AV} (ha : Agree (topId x) g g') (h : opNilCheck x g = some r) : opNilCheck x g' = some r := by
  cases x <;> try exact h
  case ptr id tot i off =>
    simp only [opNilCheck] at h ⊢
    cases hg : g id with
    | none => simp [hg] at h
    | some ob => rw [hg] at h; rw [ha id (by simp [topId]) ob hg]; exact h
theorem live_loc {x : AV} (ha : Agree (topId x) g g') (h : live x g = true) : live x g' = true := by
  cases x <;> try exact h
  case ptr id tot i off =>
    simp only [live] at h ⊢
    cases hg : g id with
    | none => simp [hg] at h
    | some ob => rw [hg] at h; rw [ha id (by simp [topId]) ob hg]; exact h
theorem opIndexAddr_loc {t : TypeId} {x i r : AV} (ha : Agree (topId x) g g') (h : opIndexAddr P t x i g = some r) : opIndexAddr P t x i g' = some r := by
  cases i <;> try exact h
  cases x <;> try exact h
  case int.sl k n id tot off len =>
    simp only [opIndexAddr, Option.bind_eq_some_iff] at h ⊢
    obtain ⟨e, h1, h2⟩ := h
    refine ⟨e, h1, ?_⟩
    cases hg : g id with
    | none => simp [hg] at h2
    | some ob => rw [hg] at h2; rw [ha id (by simp [topId]) ob hg]; exact h2
theorem opLen_loc {t : TypeId} {x r : AV} (ha : Agree (topId x) g g') (h : opLen P t x g = some r) : opLen P t x g' = some r := by
  have same : ∀ x, topId x = [] → opLen P t x g = some r → opLen P t x g' = some r := by
    intro x hx h
    unfold opLen at h ⊢
    cases hu : P.underlying t with
    | none => simp [hu] at h
    | some d =>
      rw [hu] at h
      cases d <;> cases x <;> first | exact h | simp [topId] at hx
  cases x <;> try exact same _ rfl h
  case ptr id tot i off =>
    unfold opLen at h ⊢
    cases hu : P.underlying t with
    | none => simp [hu] at h
    | some d => rw [hu] at h; cases d <;> exact h
  case map id =>
    unfold opLen at h ⊢
    cases hu : P.underlying t with
    | none => simp [hu] at h
    | some d => rw [hu] at h; cases d <;> exact h
  case sl id tot off len =>
    unfold opLen at h ⊢
    cases hu : P.underlying t with
    | none => simp [hu] at h
    | some d =>
      rw [hu] at h
      cases d <;> try exact h
      simp only at h ⊢
      cases hg : g id with
      | none => simp [hg] at h
      | some ob => rw [hg] at h; rw [ha id (by simp [topId]) ob hg]; exact h
theorem opSlice_loc {t : TypeId} {x r : AV} {lo hi : Option AV} (ha : Agree (topId x) g g') (h : opSlice P t x lo hi g = some r) : opSlice P t x lo hi g' = some r := by
  cases x <;> try exact h
  case sl id tot off len =>
    simp only [opSlice, Option.bind_eq_some_iff] at h ⊢
    obtain ⟨e, h1, h2⟩ := h
    refine ⟨e, h1, ?_⟩
    cases hg : g id with
    | none => simp [hg] at h2
    | some ob => rw [hg] at h2; rw [ha id (by simp [topId]) ob hg]; exact h2
theorem opAppend_loc {t : TypeId} {s x : AV} {nid : Nat} {r : AV × Ef} (ha : Agree (topId s) g g') (hb : Agree (topId x) g g') (h : opAppend P t s x g nid = some r) : opAppend P t s x g' nid = some r := by
  simp only [opAppend, Option.bind_eq_some_iff] at h ⊢
  obtain ⟨e, h1, h2⟩ := h
  refine ⟨e, h1, ?_⟩
  split at h2
  · rename_i hz
    rw [if_pos hz]
    simp only [Option.bind_eq_some_iff] at h2 ⊢
    obtain ⟨xs, h3, h4⟩ := h2
    refine ⟨xs, rdS_loc hb h3, ?_⟩
    split at h4
    · rename_i hc
      rw [if_pos hc]
      cases s <;> try exact h4
      case sl id tot off len =>
        simp only at h4 ⊢
        cases hg : g id with
        | none => simp [hg] at h4
        | some ob => rw [hg] at h4; rw [ha id (by simp [topId]) ob hg]; exact h4
    · simp at h4
  · simp at h2
theorem opCopy_loc {t : TypeId} {d x : AV} {r : AV × Ef} (ha : Agree (topId d) g g') (hb : Agree (topId x) g g') (h : opCopy P t d x g = some r) : opCopy P t d x g' = some r := by
  simp only [opCopy, Option.bind_eq_some_iff] at h ⊢
  obtain ⟨e, h1, h2⟩ := h
  refine ⟨e, h1, ?_⟩
  split at h2
  · simp at h2
  · rename_i hz
    rw [if_neg hz]
    simp only [Option.bind_eq_some_iff] at h2 ⊢
    obtain ⟨xs, h3, h4⟩ := h2
    refine ⟨xs, rdS_loc hb h3, ?_⟩
    split at h4
    · rename_i hc
      rw [if_pos hc]
      cases d <;> try exact h4
      case sl id tot off len =>
        simp only at h4 ⊢
        cases hg : g id with
        | none => simp [hg] at h4
        | some ob => rw [hg] at h4; rw [ha id (by simp [topId]) ob hg]; exact h4
    · simp at h4

theorem opLookup_loc {t : TypeId} {m k r : AV} {ok : Bool} (ha : Agree (topId m) g g') (h : opLookup P t m k ok g = some r) : opLookup P t m k ok g' = some r := by
  cases m <;> try exact h
  case map id =>
    simp only [opLookup, Option.bind_eq_some_iff] at h ⊢
    obtain ⟨e, h1, h2⟩ := h
    refine ⟨e, h1, ?_⟩
    cases hg : g id with
    | none => simp [hg] at h2
    | some ob => rw [hg] at h2; rw [ha id (by simp [topId]) ob hg]; exact h2
theorem opUpd_loc {t : TypeId} {m k x : AV} {r : Ef} (ha : Agree (topId m) g g') (h : opUpd P t m k x g = some r) : opUpd P t m k x g' = some r := by
  cases m <;> try exact h
  case map id =>
    simp only [opUpd, Option.bind_eq_some_iff] at h ⊢
    obtain ⟨e, h1, h2⟩ := h
    refine ⟨e, h1, ?_⟩
    cases hg : g id with
    | none => simp [hg] at h2
    | some ob => rw [hg] at h2; rw [ha id (by simp [topId]) ob hg]; exact h2
theorem non_map {a b : Option AV} {r : AV × Ef} (hi : ∀ v, a = some v → b = some v) (h : non a = some r) : non b = some r := by
  cases ha : a with
  | none => simp [ha, non] at h
  | some v => rw [ha] at h; rw [hi v ha]; exact h

theorem opD_local {o : Op} {tm tm' : Tm} {nid : Nat} {r : AV × Ef} (hop : opD P o tm g nid = some r) (ht : ∀ x ∈ o.operands, evA tm' x = evA tm x) (ha : Agree (rdOf o tm) g g') : opD P o tm' g' nid = some r := by
  have rd : rkOp o = true → ∀ x ∈ o.operands, Agree (topId (evA tm x)) g g' := by
    intro hr x hx id hid ob hg
    refine ha id ?_ ob hg
    unfold rdOf
    rw [if_pos hr]
    exact List.mem_flatMap.2 ⟨x, by simpa using hx, hid⟩
  have maps : ∀ l : Array Operand, (∀ x ∈ l, x ∈ o.operands) → l.toList.map (evA tm') = l.toList.map (evA tm) := fun l hl => List.map_congr_left fun x hx => ht x (hl x (by simpa using hx))
  have parts : ∀ l : Array (Nat × Operand), (∀ p ∈ l, p.2 ∈ o.operands) → l.toList.map (fun p => (p.1, evA tm' p.2)) = l.toList.map (fun p => (p.1, evA tm p.2)) := fun l hl => List.map_congr_left fun p hp => by rw [ht p.2 (hl p (by simpa using hp))]
  unfold opD at hop
  split at hop
  all_goals try (simp only [opD]; simp only [Op.operands, List.mem_toArray, List.mem_cons, List.not_mem_nil, or_false, forall_eq_or_imp, forall_eq] at ht)
  case h_1 x => rw [ht]; exact hop
  case h_2 x => rw [ht]; exact hop
  case h_3 c a b => rw [ht.1, ht.2.1, ht.2.2]; exact hop
  case h_4 => exact hop
  case h_5 => rw [ht]; exact hop
  case h_6 t ps => rw [parts ps (fun p hp => by simp only [Op.operands]; simpa using ⟨p.1, hp⟩)]; exact hop
  case h_7 t len ps => rw [parts ps (fun p hp => by simp only [Op.operands]; simpa using ⟨p.1, hp⟩)]; exact hop
  case h_8 t a => rw [ht]; exact non_map (fun v => opLoad_loc (rd rfl a (by simp [Op.operands]))) hop
  case h_9 t a x =>
    rw [ht.1, ht.2]
    simp only [Option.map_eq_some_iff] at hop ⊢
    obtain ⟨e, h1, h2⟩ := hop
    exact ⟨e, opStore_loc (rd rfl a (by simp [Op.operands])) h1, h2⟩
  case h_10 x => rw [ht]; exact non_map (fun v => opNilCheck_loc (rd rfl x (by simp [Op.operands]))) hop
  case h_11 => rw [ht.1, ht.2]; exact hop
  case h_12 => rw [ht]; exact hop
  case h_13 => rw [ht]; exact hop
  case h_14 f first caps => rw [maps first (fun x hx => by simp [Op.operands, hx]), maps caps (fun x hx => by simp [Op.operands, hx])]; exact hop
  case h_15 => rw [ht.1, ht.2]; exact hop
  case h_16 t x lo hi =>
    have e1 : evA tm' x = evA tm x := ht x (by simp [Op.operands])
    have e2 : lo.map (evA tm') = lo.map (evA tm) := by
      cases lo with
      | none => rfl
      | some l => simp [ht l (by simp [Op.operands])]
    have e3 : hi.map (evA tm') = hi.map (evA tm) := by
      cases hi with
      | none => rfl
      | some l => simp [ht l (by simp [Op.operands])]
    rw [e1, e2, e3]
    exact non_map (fun v => opSlice_loc (rd rfl x (by simp [Op.operands]))) hop
  case h_17 t x f =>
    rw [ht]
    split at hop
    · rename_i hl
      rw [if_pos (live_loc (rd rfl x (by simp [Op.operands])) hl)]
      exact hop
    · simp at hop
  case h_18 => rw [ht]; exact hop
  case h_19 t x i =>
    rw [ht.1, ht.2]
    split at hop
    · rename_i hl
      rw [if_pos hl]
      exact non_map (fun v => opIndexAddr_loc (rd rfl x (by simp [Op.operands]))) hop
    · simp at hop
  case h_20 => rw [ht]; exact hop
  case h_21 => rw [ht.1, ht.2]; exact hop
  case h_22 b args ts =>
    rw [maps args (fun x hx => by simp [Op.operands, Call.operands, hx])]
    have rda : ∀ v ∈ args.toList.map (evA tm), Agree (topId v) g g' := fun v hv => by
      obtain ⟨x, hx, rfl⟩ := List.mem_map.1 hv
      exact rd rfl x (by simp [Op.operands, Call.operands]; simpa using hx)
    generalize args.toList.map (evA tm) = as at hop rda
    unfold opCallB at hop ⊢
    split at hop
    · exact non_map (fun v => opLen_loc (rda _ (by simp))) hop
    · split at hop
      · rename_i e; subst e; simp only [if_true]; exact opAppend_loc (rda _ (by simp)) (rda _ (by simp)) hop
      · simp at hop
    · split at hop
      · rename_i e; subst e; simp only [if_true]; exact opCopy_loc (rda _ (by simp)) (rda _ (by simp)) hop
      · simp at hop
    · exact hop
    · exact hop
    · simp at hop
  case h_23 t m k ok => rw [ht.1, ht.2]; exact non_map (fun v => opLookup_loc (rd rfl m (by simp [Op.operands]))) hop
  case h_24 t m k x =>
    rw [ht.1, ht.2.1, ht.2.2]
    simp only [Option.map_eq_some_iff] at hop ⊢
    obtain ⟨e, h1, h2⟩ := hop
    exact ⟨e, opUpd_loc (rd rfl m (by simp [Op.operands])) h1, h2⟩
  case h_25 => exact hop
  case h_26 => simp at hop
end
end Go.Proofs.YtfdfkmcplhloaaaGreat
end

section
set_option linter.unusedSimpArgs false
set_option linter.unusedVariables false
namespace Go.Proofs.YtfdfkmcplhloaaaGreat

/-- What one operation came to: its value, what it wrote, what it looked at. -/
structure Dr where
  v : AV
  wr : Option (Nat × Ob)
  rd : List Nat

def Dr.wid (d : Dr) : Option Nat := d.wr.map (·.1)

def efW (nid : Nat) : Ef → Option (Nat × Ob)
  | .non => none
  | .set id o => some (id, o)
  | .new o => some (nid, o)

def Hp.wr (h : Hp) : Option (Nat × Ob) → Hp
  | none => h
  | some (id, o) => ⟨fun j => if j = id then some o else h.get j, h.nx⟩

theorem app_wr {h : Hp} {nid : Nat} {ef : Ef} (hn : nid < h.nx) : h.app nid ef = h.wr (efW nid ef) := by
  cases ef with
  | non => rfl
  | set id o => rfl
  | new o => simp only [Hp.app, Hp.wr, efW]; congr 1; omega

theorem wr_nx {h : Hp} {x : Option (Nat × Ob)} : (h.wr x).nx = h.nx := by cases x <;> rfl

section
variable {P : Program} {X : Cx} {w : World} {h : Hp}

/-! ### Calls -/
inductive CallD (P : Program) (fv : AV) (args : List AV) (g : Nat → Option Ob) (nid : Nat) (K : AV → Option (Nat × Ob) → List Nat → Prop) : Prop
  | pure (r : AV) (hp : PureV P fv args r) (hr : Idf r) (hf : Idf fv) (ha : ∀ a ∈ args, Idf a) (hk : K r none [])
  | lend (rd : List Nat) (fv' r : AV) (args' : List AV) (hp : PureV P fv' args' r) (hr : Scal r) (hf : Lend (fun id => if id ∈ rd then g id else none) fv fv') (ha : LendL (fun id => if id ∈ rd then g id else none) args args')
      (hf' : Idf fv') (ha' : ∀ a ∈ args', Idf a) (hk : K r none rd)
  | new (E : TypeId) (s : Nat) (es : List AV) (hp : NewV P fv args E s es) (he : ∀ e ∈ es, Idf e) (hf : Idf fv) (ha : ∀ a ∈ args, Idf a) (hk : K (.sl nid es.length 0 es.length) (some (nid, .arr E s es)) [])
  | newL (rd : List Nat) (fv' : AV) (args' : List AV) (E : TypeId) (s : Nat) (es : List AV) (hp : NewV P fv' args' E s es) (he : ∀ e ∈ es, Scal e) (hf : Lend (fun id => if id ∈ rd then g id else none) fv fv') (ha : LendL (fun id => if id ∈ rd then g id else none) args args')
      (hf' : Idf fv') (ha' : ∀ a ∈ args', Idf a) (hk : K (.sl nid es.length 0 es.length) (some (nid, .arr E s es)) rd)

theorem Lend.weak {g g' : Nat → Option Ob} (hg : ∀ id o, g id = some o → g' id = some o) {a b : AV} (h : Lend g a b) : Lend g' a b := by
  induction h with
  | refl a => exact .refl a
  | junk a => exact .junk a
  | nil0 => exact .nil0
  | sl id tot off len E s es ys h1 h2 h3 h4 h5 h6 ih => exact .sl id tot off len E s es ys (hg _ _ h1) h2 h3 h4 ih h6
  | ptr id tot i E s es a v h1 h2 h3 h4 h5 ih => exact .ptr id tot i E s es a v (hg _ _ h1) h2 h3 ih h5
  | agg xs ys h1 h2 ih => exact .agg xs ys h1 ih
  | tup xs ys h1 h2 ih => exact .tup xs ys h1 ih
  | fn f x1 x2 y1 y2 h1 h2 h3 h4 i1 i2 => exact .fn f x1 x2 y1 y2 h1 h2 i1 i2
  | map id kt et ks vs h1 => exact .map id kt et ks vs (hg _ _ h1)

theorem goes_wpIn {ro : Option Nat} {a : Act} {o : Oper} {f : Operand} {args : Array Operand} {next : Act → World → Prop} {Q : Exit → Act → World → Prop} (hc : callee? o.op = some (f, args))
    (hg : GoesF P (a.eval f) (args.map a.eval) w fun c w' => next (a.put o.dst c) w') : o.wpIn (fen ro) 0 P a w next Q := by
  refine ⟨about_wide ro o a.eval w, ?_⟩
  have hop : ∃ ts, o.op = .call { callee := .value f, args := args, argTypes := ts } := by
    unfold callee? at hc
    split at hc
    · rename_i e
      simp only [Option.some.injEq, Prod.mk.injEq] at hc
      obtain ⟨rfl, rfl⟩ := hc
      exact ⟨_, e⟩
    · simp at hc
  obtain ⟨ts, hop⟩ := hop
  have hsem : o.semAt (fen ro).round a.eval = execOp a.eval o := Oper.semAt_eq _ _ _ (fun c => by rw [hop]; simp)
  rw [hsem]
  obtain ⟨d, h1, h2⟩ := hg
  have hrun : (execOp a.eval o).run P w = (invoke d.target d.args).run P w := by
    simp only [execOp, hop, resolve, Sem.run_bind, h1, Result.andThen_ok]
  rw [hrun]
  split at h2
  · rename_i v w' hr
    rw [hr]
    exact h2
  · rename_i f' as w' hr
    rw [hr]
    refine ⟨by simp [fen, Fence.wide], callsIn_fen (h2.mono ?_)⟩
    rintro e w'' ⟨v, rfl, h3⟩
    exact h3
  · rename_i l f' tmps assign body w' hr
    rw [hr]
    refine ⟨by simp [fen, Fence.wide], roundIn_fen (h2.mono ?_)⟩
    rintro e w'' ⟨v, rfl, h3⟩
    exact h3
  · exact h2.elim

/-! ### One operation, wherever it comes -/
def Det (P : Program) (n : Nat) (arr : Array Oper) (o : Oper) (tm : Tm) (g : Nat → Option Ob) (nid : Nat) (d : Dr) : Prop :=
  ∀ (ro : Option Nat) (tm' : Tm) (h' : Hp) (X : Cx) (w : World) (a : Act) (next : Act → World → Prop) (Q : Exit → Act → World → Prop), (∀ t ∈ o.looksAt arr, tm' t = tm t) → Agree d.rd g h'.get → nid < h'.nx → HRel h' X w → FRel n tm' X w a → ¬ X.used nid →
    (∀ c X' w', Ev X w X' w' → VRel X' w' d.v c → HRel (h'.wr d.wr) X' w' → (∀ id, X'.used id → X.used id ∨ id = nid) → next (a.put o.dst c) w') →
    if Region.wanted o (yielded arr a.tmps) = true then o.wpIn (fen ro) 0 P a w next Q else (∀ f, o.about P w a.eval = some f → (fen ro).fn f) ∧ next (a.put o.dst undef) w

def stepD (P : Program) (o : Oper) (tm : Tm) (h : Hp) (nid : Nat) (K : AV → Option (Nat × Ob) → List Nat → Prop) : Prop :=
  match callee? o.op with
  | some (f, args) => CallD P (evA tm f) (args.toList.map (evA tm)) h.get nid K
  | none => optK (opD P o.op tm h.get nid) fun r => K r.1 (efW nid r.2) (rdOf o.op tm)

theorem gcond_split {all : List Oper} {tm : Tm} {o : Oper} {A B : Prop} (h : gcond all tm o A B) : (gcond all tm o True False ∧ A) ∨ (gcond all tm o False True ∧ B) := by
  unfold gcond gval at *
  split at h
  · exact .inl ⟨by trivial, h⟩
  · split at h
    · split at h
      · split at h <;> simp_all
      · exact .inr ⟨by simp_all, h⟩
      · exact h.elim
    · exact h.elim

theorem gcond_congr {arr : Array Oper} {tm tm' : Tm} {o : Oper} {A B : Prop} (h : gcond arr.toList tm o A B) (ht : ∀ t ∈ o.looksAt arr, tm' t = tm t) : gcond arr.toList tm' o A B := by
  unfold gcond at *
  cases hg : o.guard with
  | none => simpa [hg] using h
  | some p =>
    obtain ⟨j, want⟩ := p
    simp only [hg] at h ⊢
    cases hd : (arr.toList[j]?).bind (·.dst) with
    | none => rw [hd] at h; exact h
    | some d =>
      rw [hd] at h
      simp only at h ⊢
      rw [ht d]
      · exact h
      · unfold Oper.looksAt
        refine List.mem_append_right _ ?_
        simp only [hg]
        simp only [Array.getElem?_toList] at hd
        simp [hd]

theorem det_skip {n : Nat} {arr : Array Oper} {o : Oper} {tm : Tm} {g : Nat → Option Ob} {nid : Nat} (hn : ∀ o ∈ arr.toList, dstOk n o) (hg : gcond arr.toList tm o False True) : Det P n arr o tm g nid ⟨.tup [], none, []⟩ := by
  intro ro tm' h' X w a next Q ht _ _ H hf _ hnext
  rcases gcond_ok hf hn (gcond_congr hg ht) with ⟨h1, h2⟩ | ⟨h1, _⟩
  · exact h2.elim
  · rw [if_neg (by simp [h1])]
    exact ⟨about_wide ro o a.eval w, hnext _ X w (Ev.refl X w) (.tup [] #[] rfl fun j a c ha => by simp at ha) H fun id h => .inl h⟩

theorem evs_eq {arr : Array Oper} {o : Oper} {tm tm' : Tm} (ht : ∀ t ∈ o.looksAt arr, tm' t = tm t) : ∀ x ∈ o.op.operands, evA tm' x = evA tm x := by
  intro x hx
  cases x with
  | tmp t =>
    refine ht t ?_
    unfold Oper.looksAt
    exact List.mem_append_left _ (List.mem_filterMap.2 ⟨.tmp t, by simpa using hx, rfl⟩)
  | const v => rfl
  | global g => rfl
  | func f => rfl

theorem callee_operands {op : Op} {f : Operand} {args : Array Operand} (hc : callee? op = some (f, args)) : f ∈ op.operands ∧ ∀ x ∈ args, x ∈ op.operands := by
  unfold callee? at hc
  split at hc
  · simp only [Option.some.injEq, Prod.mk.injEq] at hc
    obtain ⟨rfl, rfl⟩ := hc
    exact ⟨by simp [Op.operands, Call.operands], fun x hx => by simp [Op.operands, Call.operands, hx]⟩
  · simp at hc

theorem det_step {n : Nat} {arr : Array Oper} {o : Oper} {tm : Tm} {h : Hp} {nid : Nat} {K : AV → Option (Nat × Ob) → List Nat → Prop} (hn : ∀ o ∈ arr.toList, dstOk n o) (hg : gcond arr.toList tm o True False) (hs : stepD P o tm h nid K) :
    ∃ d : Dr, Det P n arr o tm h.get nid d ∧ K d.v d.wr d.rd ∧ (d.wr ≠ none → wkOp o.op = true) ∧ (d.rd ≠ [] → rkOp o.op = true) := by
  have wanted : ∀ {tm' : Tm} {X : Cx} {w : World} {a : Act}, FRel n tm' X w a → (∀ t ∈ o.looksAt arr, tm' t = tm t) → Region.wanted o (yielded arr a.tmps) = true := by
    intro tm' X w a hf ht
    rcases gcond_ok hf hn (gcond_congr hg ht) with ⟨h1, _⟩ | ⟨_, h2⟩
    · exact h1
    · exact h2.elim
  unfold stepD at hs
  cases hc : callee? o.op with
  | some p =>
    obtain ⟨f, args⟩ := p
    simp only [hc] at hs
    obtain ⟨hfo, hargo⟩ := callee_operands hc
    have hk : wkOp o.op = true ∧ rkOp o.op = true := by
      unfold callee? at hc
      split at hc
      · rename_i e; rw [e]; exact ⟨rfl, rfl⟩
      · simp at hc
    have ev : ∀ {tm' : Tm}, (∀ t ∈ o.looksAt arr, tm' t = tm t) → evA tm' f = evA tm f ∧ args.toList.map (evA tm') = args.toList.map (evA tm) := fun ht =>
      ⟨evs_eq ht f hfo, List.map_congr_left fun x hx => evs_eq ht x (hargo x (by simpa using hx))⟩
    cases hs with
    | pure r hp hr hf ha hk' =>
      refine ⟨⟨r, none, []⟩, ?_, hk', fun h => absurd rfl h, fun h => absurd rfl h⟩
      intro ro tm' h' X w a next Q ht _ _ H hfr _ hnext
      rw [if_pos (wanted hfr ht)]
      obtain ⟨e1, e2⟩ := ev ht
      refine goes_wpIn hc ((PureV.frameX hp hr hf ha H (by rw [← e1]; exact hfr.eval f) (by rw [← e2]; exact evA_map hfr args)).mono ?_)
      rintro c w' ⟨X', h1, h2, h3, h4⟩
      exact hnext c X' w' h1 h2 h3 fun id hid => .inl (h4 id hid)
    | lend rd fv' r args' hp hr hf ha hf' ha' hk' =>
      refine ⟨⟨r, none, rd⟩, ?_, hk', fun h => absurd rfl h, fun _ => hk.2⟩
      intro ro tm' h' X w a next Q ht hag _ H hfr _ hnext
      rw [if_pos (wanted hfr ht)]
      obtain ⟨e1, e2⟩ := ev ht
      have wk : ∀ id ob, (fun id => if id ∈ rd then h.get id else none) id = some ob → h'.get id = some ob := fun id ob hi => by
        simp only at hi
        split at hi
        · rename_i hm; exact hag id hm ob hi
        · simp at hi
      refine goes_wpIn hc ((PureV.lendX hp hr (hf.weak wk) ⟨ha.1, fun j a b h1 h2 => (ha.2 j a b h1 h2).weak wk⟩ hf' ha' H (by rw [← e1]; exact hfr.eval f) (by rw [← e2]; exact evA_map hfr args)).mono ?_)
      rintro c w' ⟨X', h1, h2, h3, h4⟩
      exact hnext c X' w' h1 h2 h3 fun id hid => .inl (h4 id hid)
    | new E s es hp he hf ha hk' =>
      refine ⟨⟨.sl nid es.length 0 es.length, some (nid, .arr E s es), []⟩, ?_, hk', fun _ => hk.1, fun h => absurd rfl h⟩
      intro ro tm' h' X w a next Q ht _ hlt H hfr hfree hnext
      rw [if_pos (wanted hfr ht)]
      obtain ⟨e1, e2⟩ := ev ht
      refine goes_wpIn hc ((hp.rename he hf ha (nid := nid) (nx := h'.nx) (Nat.le_refl _) hlt H hfree (by rw [← e1]; exact hfr.eval f) (by rw [← e2]; exact evA_map hfr args)).mono ?_)
      rintro c w' ⟨X', h1, h2, h3, h4⟩
      exact hnext c X' w' h1 h2 h3 h4
    | newL rd fv' args' E s es hp he hf ha hf' ha' hk' =>
      refine ⟨⟨.sl nid es.length 0 es.length, some (nid, .arr E s es), rd⟩, ?_, hk', fun _ => hk.1, fun _ => hk.2⟩
      intro ro tm' h' X w a next Q ht hag hlt H hfr hfree hnext
      rw [if_pos (wanted hfr ht)]
      obtain ⟨e1, e2⟩ := ev ht
      have wk : ∀ id ob, (fun id => if id ∈ rd then h.get id else none) id = some ob → h'.get id = some ob := fun id ob hi => by
        simp only at hi
        split at hi
        · rename_i hm; exact hag id hm ob hi
        · simp at hi
      refine goes_wpIn hc ((hp.lendX he (hf.weak wk) ⟨ha.1, fun j a b h1 h2 => (ha.2 j a b h1 h2).weak wk⟩ hf' ha' (nid := nid) (nx := h'.nx) (Nat.le_refl _) hlt H hfree (by rw [← e1]; exact hfr.eval f) (by rw [← e2]; exact evA_map hfr args)).mono ?_)
      rintro c w' ⟨X', h1, h2, h3, h4⟩
      exact hnext c X' w' h1 h2 h3 h4
  | none =>
    simp only [hc] at hs
    unfold optK at hs
    split at hs
    · rename_i r hr
      obtain ⟨v, ef⟩ := r
      refine ⟨⟨v, efW nid ef, rdOf o.op tm⟩, ?_, hs, ?_, fun h => by
        cases hk : rkOp o.op with
        | true => rfl
        | false => exact absurd (by simp [rdOf, hk]) h⟩
      · intro ro tm' h' X w a next Q ht hag hlt H hfr hfree hnext
        rw [if_pos (wanted hfr ht)]
        obtain ⟨c, w', X', h1, h2, h3, h4, h5⟩ := opD_ok H (fun x => hfr.eval x) hfree (opD_local hr (evs_eq ht) hag)
        rw [app_wr hlt] at h4
        refine ⟨about_wide ro o a.eval w, ?_⟩
        have hnd : ∀ c, o.op ≠ .defer c := fun c hcc => by rw [hcc] at hr; simp [opD] at hr
        have hsem : o.semAt (fen ro).round a.eval = execOp a.eval o := Oper.semAt_eq _ _ _ hnd
        rw [hsem]
        rcases h1 with h1 | ⟨h1, rfl⟩
        · rw [h1]; exact hnext c X' w' h2 h3 h4 h5
        · rw [h1]; exact hnext undef X' w' h2 h3 h4 h5
      · intro hne
        simp only at hne
        have non' : ∀ a : Option AV, non a = some (v, ef) → efW nid ef = none := fun a ha => by
          cases a with
          | none => simp [non] at ha
          | some x => simp [non] at ha; obtain ⟨_, rfl⟩ := ha; rfl
        revert hr
        unfold opD
        split
        all_goals intro hr
        case h_17 => split at hr <;> first | exact absurd (non' _ hr) hne | simp at hr
        case h_19 => split at hr <;> first | exact absurd (non' _ hr) hne | simp at hr
        case h_3 => split at hr <;> first | (obtain ⟨rfl, rfl⟩ := Prod.mk.inj (Option.some.inj hr); exact absurd rfl hne) | simp at hr
        case h_22 b args ts he =>
          unfold opCallB at hr
          split at hr
          · exact absurd (non' _ hr) hne
          all_goals first
            | (rw [he]; rfl)
            | simp at hr
        all_goals first
          | exact absurd (non' _ hr) hne
          | (obtain ⟨rfl, rfl⟩ := Prod.mk.inj (Option.some.inj hr); exact absurd rfl hne)
          | (rename_i he; rw [he]; rfl)
          | simp at hr
    · exact hs.elim
end
end Go.Proofs.YtfdfkmcplhloaaaGreat
end
