import PyProof.Rows.All
import Wide.All
import OpenK.AllK
import Wide.FinOn
import HandS.ForMost
import HandS.Wide
import HandS.IsInst
import HandS.OwnEq
import HandS.Defaults
import HandS.CallLocal
import HandS.MakeKw
import HandS.Zip
import HandS.TupAny
import HandS.Style
import HandS.SlotsOwn
import HandS.Codes
import HandS.Flow
import KE.GoesMore
import HandS.Head0
import HandS.Head1
import HandS.Head2
import HandS.HeadEnd
import HandS.HeadHook1
import HandS.HeadHook2
import HandS.HeadHook3
import HandS.HeadHook4
import PySem.Challenge.RW_sizeladders_k41_whole_nowhere_ahead
set_option Elab.async false
set_option linter.all false
set_option maxRecDepth 100000
set_option maxHeartbeats 4000000
set_option Elab.async false
/-! Plain law: ladders of sizes over the rationals, and where two of them part. No program in sight. -/
namespace Sz

/-! ### indices -/
/-- the last number below n of which p is so -/
def lastB (p : Nat → Bool) : Nat → Option Nat
  | 0 => none
  | n + 1 => if p n then some n else lastB p n
/-- the first number below n of which p is so -/
def firstB (p : Nat → Bool) : Nat → Option Nat
  | 0 => none
  | n + 1 => match firstB p n with
    | some i => some i
    | none => if p n then some n else none

theorem lastB_some {p : Nat → Bool} : ∀ {n i : Nat}, lastB p n = some i ↔ (i < n ∧ p i = true ∧ ∀ j, i < j → j < n → p j = false)
  | 0, i => by simp [lastB]
  | n + 1, i => by
    unfold lastB
    by_cases h : p n = true
    · rw [if_pos h]
      constructor
      · intro e
        cases e
        exact ⟨by omega, h, fun j h1 h2 => by omega⟩
      · rintro ⟨h1, h2, h3⟩
        by_cases e : i = n
        · rw [e]
        · have := h3 n (by omega) (by omega)
          rw [h] at this
          cases this
    · rw [if_neg h, lastB_some]
      constructor
      · rintro ⟨h1, h2, h3⟩
        refine ⟨by omega, h2, fun j h4 h5 => ?_⟩
        by_cases e : j = n
        · rw [e]; simpa using h
        · exact h3 j h4 (by omega)
      · rintro ⟨h1, h2, h3⟩
        by_cases e : i = n
        · rw [e] at h2; exact absurd h2 h
        · exact ⟨by omega, h2, fun j h4 h5 => h3 j h4 (by omega)⟩
theorem lastB_none {p : Nat → Bool} : ∀ {n : Nat}, lastB p n = none ↔ ∀ j, j < n → p j = false
  | 0 => by simp [lastB]
  | n + 1 => by
    unfold lastB
    by_cases h : p n = true
    · rw [if_pos h]
      constructor
      · intro e; cases e
      · intro z
        have := z n (by omega)
        rw [h] at this
        cases this
    · rw [if_neg h, lastB_none]
      constructor
      · intro z j hj
        by_cases e : j = n
        · rw [e]; simpa using h
        · exact z j (by omega)
      · intro z j hj
        exact z j (by omega)
theorem firstB_some {p : Nat → Bool} : ∀ {n i : Nat}, firstB p n = some i ↔ (i < n ∧ p i = true ∧ ∀ j, j < i → p j = false) := by
  intro n
  induction n with
  | zero => intro i; simp [firstB]
  | succ n ih =>
    intro i
    unfold firstB
    cases e : firstB p n with
    | some k =>
      have hk := (ih (i := k)).mp e
      constructor
      · intro z
        cases z
        exact ⟨by omega, hk.2.1, hk.2.2⟩
      · rintro ⟨h1, h2, h3⟩
        show some k = some i
        rcases Nat.lt_trichotomy k i with q | q | q
        · have := h3 k q
          rw [hk.2.1] at this
          cases this
        · rw [q]
        · have := hk.2.2 i q
          rw [h2] at this
          cases this
    | none =>
      have hn : ∀ j, j < n → p j = false := by
        intro j hj
        cases hp : p j with
        | false => rfl
        | true =>
          exfalso
          -- the least such
          have : ∃ m, m < n ∧ p m = true ∧ ∀ l, l < m → p l = false := by
            clear e ih
            induction j using Nat.strongRecOn with
            | _ j ihj =>
              by_cases hl : ∀ l, l < j → p l = false
              · exact ⟨j, hj, hp, hl⟩
              · have ⟨l, hl⟩ := Classical.not_forall.mp hl
                have ⟨h1, h2⟩ := Classical.not_imp.mp hl
                exact ihj l h1 (by omega) (by simpa using h2)
          obtain ⟨m, hm⟩ := this
          have := (ih (i := m)).mpr hm
          rw [e] at this
          cases this
      show (if p n = true then some n else none) = some i ↔ _
      constructor
      · intro z
        split at z
        · rename_i hp
          cases z
          exact ⟨by omega, hp, hn⟩
        · cases z
      · rintro ⟨h1, h2, h3⟩
        by_cases q : i = n
        · rw [← q, if_pos h2]
        · have := hn i (by omega)
          rw [h2] at this
          cases this
theorem firstB_none {p : Nat → Bool} : ∀ {n : Nat}, firstB p n = none ↔ ∀ j, j < n → p j = false := by
  intro n
  constructor
  · intro e j hj
    cases hp : p j with
    | false => rfl
    | true =>
      exfalso
      have : ∃ m, m < n ∧ p m = true ∧ ∀ l, l < m → p l = false := by
        induction j using Nat.strongRecOn with
        | _ j ihj =>
          by_cases hl : ∀ l, l < j → p l = false
          · exact ⟨j, hj, hp, hl⟩
          · have ⟨l, hl⟩ := Classical.not_forall.mp hl
            have ⟨h1, h2⟩ := Classical.not_imp.mp hl
            exact ihj l h1 (by omega) (by simpa using h2)
      obtain ⟨m, hm⟩ := this
      have := (firstB_some (i := m)).mpr hm
      rw [e] at this
      cases this
  · intro h
    cases e : firstB p n with
    | none => rfl
    | some i =>
      have := firstB_some.mp e
      rw [h i this.1] at this
      cases this.2.1

/-! ### ladders -/
inductive Rule | up | down | near
  deriving DecidableEq
structure Lad where
  marks : List Rat
  rule : Rule
  least : Option Rat
  most : Option Rat
/-- the mark at a place -/
def at' (qs : List Rat) (i : Nat) : Rat := qs.getD i 0
def mid (a b : Rat) : Rat := (a + b) / 2
/-- rows that rise -/
def Rises (qs : List Rat) : Prop := ∀ i, i + 1 < qs.length → at' qs i < at' qs (i + 1)
def slipB (qs : List Rat) : Bool := (List.range (qs.length - 1)).all fun i => decide (at' qs i < at' qs (i + 1))
theorem Rises.lt {qs : List Rat} (h : Rises qs) : ∀ {i j : Nat}, i < j → j < qs.length → at' qs i < at' qs j := by
  intro i j hij
  induction j with
  | zero => omega
  | succ j ih =>
    intro hj
    have h1 := h j hj
    by_cases e : i = j
    · rw [e]; exact h1
    · have := ih (by omega) (by omega)
      grind
theorem Rises.le {qs : List Rat} (h : Rises qs) {i j : Nat} (hij : i ≤ j) (hj : j < qs.length) : at' qs i ≤ at' qs j := by
  by_cases e : i = j
  · rw [e]; grind
  · have := h.lt (show i < j by omega) hj
    grind

def sizeUp (qs : List Rat) (x : Rat) : Option Nat := firstB (fun i => !decide (at' qs i < x)) qs.length
def sizeDown (qs : List Rat) (x : Rat) : Option Nat := lastB (fun i => !decide (x < at' qs i)) qs.length
def nearP (qs : List Rat) (x : Rat) (i : Nat) : Bool := decide (0 < i) && !decide (x < mid (at' qs (i - 1)) (at' qs i))
def sizeNear (qs : List Rat) (x : Rat) : Option Nat := some ((lastB (nearP qs x) qs.length).getD 0)
def sizeBy (r : Rule) (qs : List Rat) (x : Rat) : Option Nat := match r with
  | .up => sizeUp qs x
  | .down => sizeDown qs x
  | .near => sizeNear qs x
/-- from the least to the most -/
def letsIn (L : Lad) (x : Rat) : Bool :=
  (match L.least with | some a => !decide (x < a) | none => true) && (match L.most with | some b => !decide (b < x) | none => true)
def size (L : Lad) (x : Rat) : Option Nat := if letsIn L x then sizeBy L.rule L.marks x else none

/-! ### stretches -/
structure Strt where
  low : Option Rat
  high : Option Rat
  li : Bool
  hi : Bool
def isSome (low high : Option Rat) (li hi : Bool) : Bool := match low, high with
  | some a, some b => decide (a < b) || (decide (a = b) && li && hi)
  | _, _ => true
/-- as its making keeps it -/
def mkS (low high : Option Rat) (li hi : Bool) : Strt := ⟨low, high, low.isSome && li, high.isSome && hi⟩
def mem (s : Strt) (x : Rat) : Prop :=
  (∀ a, s.low = some a → a < x ∨ (s.li = true ∧ a = x)) ∧ (∀ b, s.high = some b → x < b ∨ (s.hi = true ∧ x = b))
def laterB (s t : Strt) : Option Rat × Bool := match s.low, t.low with
  | none, _ => (t.low, t.li)
  | some _, none => (s.low, s.li)
  | some a, some b => if a < b then (t.low, t.li) else if a = b then (s.low, s.li && t.li) else (s.low, s.li)
def earlierE (s t : Strt) : Option Rat × Bool := match s.high, t.high with
  | none, _ => (t.high, t.hi)
  | some _, none => (s.high, s.hi)
  | some a, some b => if b < a then (t.high, t.hi) else if a = b then (s.high, s.hi && t.hi) else (s.high, s.hi)
def cut (s t : Strt) : Option Strt :=
  if isSome (laterB s t).1 (earlierE s t).1 (laterB s t).2 (earlierE s t).2 then some (mkS (laterB s t).1 (earlierE s t).1 (laterB s t).2 (earlierE s t).2) else none
/-- a stretch whose flags speak of ends that are there -/
def Strt.ok (s : Strt) : Prop := (s.low = none → s.li = false) ∧ (s.high = none → s.hi = false)
theorem mkS_ok (low high : Option Rat) (li hi : Bool) : (mkS low high li hi).ok := by
  constructor <;> intro h <;> simp [mkS] at h ⊢ <;> simp [h]

theorem later_low {s t : Strt} (x : Rat) :
    (∀ a, (laterB s t).1 = some a → a < x ∨ ((laterB s t).2 = true ∧ a = x)) ↔ (∀ a, s.low = some a → a < x ∨ (s.li = true ∧ a = x)) ∧ (∀ a, t.low = some a → a < x ∨ (t.li = true ∧ a = x)) := by
  obtain ⟨sl, sh, si, sj⟩ := s
  obtain ⟨tl, th, ti, tj⟩ := t
  cases sl with
  | none => simp [laterB]
  | some a =>
    cases tl with
    | none => simp [laterB]
    | some b =>
      simp only [laterB]
      by_cases h1 : a < b
      · rw [if_pos h1]; simp; grind
      · rw [if_neg h1]
        by_cases h2 : a = b
        · rw [if_pos h2]; subst h2; simp; grind
        · rw [if_neg h2]; simp; grind
theorem earlier_high {s t : Strt} (x : Rat) :
    (∀ a, (earlierE s t).1 = some a → x < a ∨ ((earlierE s t).2 = true ∧ x = a)) ↔ (∀ a, s.high = some a → x < a ∨ (s.hi = true ∧ x = a)) ∧ (∀ a, t.high = some a → x < a ∨ (t.hi = true ∧ x = a)) := by
  obtain ⟨sl, sh, si, sj⟩ := s
  obtain ⟨tl, th, ti, tj⟩ := t
  cases sh with
  | none => simp [earlierE]
  | some a =>
    cases th with
    | none => simp [earlierE]
    | some b =>
      simp only [earlierE]
      by_cases h1 : b < a
      · rw [if_pos h1]; simp; grind
      · rw [if_neg h1]
        by_cases h2 : a = b
        · rw [if_pos h2]; subst h2; simp; grind
        · rw [if_neg h2]; simp; grind
theorem mem_mkS {low high : Option Rat} {li hi : Bool} {x : Rat} :
    mem (mkS low high li hi) x ↔ (∀ a, low = some a → a < x ∨ (li = true ∧ a = x)) ∧ (∀ b, high = some b → x < b ∨ (hi = true ∧ x = b)) := by
  unfold mem mkS
  cases low <;> cases high <;> simp
theorem isSome_of {low high : Option Rat} {li hi : Bool} {x : Rat} (h1 : ∀ a, low = some a → a < x ∨ (li = true ∧ a = x)) (h2 : ∀ b, high = some b → x < b ∨ (hi = true ∧ x = b)) : isSome low high li hi = true := by
  cases low with
  | none => rfl
  | some a =>
    cases high with
    | none => rfl
    | some b =>
      have h1 := h1 a rfl
      have h2 := h2 b rfl
      unfold isSome
      grind
/-- what is in both -/
theorem mem_cut {s t : Strt} {x : Rat} : (∃ c, cut s t = some c ∧ mem c x) ↔ mem s x ∧ mem t x := by
  have hl := later_low (s := s) (t := t) x
  have hh := earlier_high (s := s) (t := t) x
  constructor
  · rintro ⟨c, e, m⟩
    unfold cut at e
    split at e
    · cases e
      have := mem_mkS.mp m
      exact ⟨⟨(hl.mp this.1).1, (hh.mp this.2).1⟩, ⟨(hl.mp this.1).2, (hh.mp this.2).2⟩⟩
    · cases e
  · rintro ⟨m1, m2⟩
    have a1 := hl.mpr ⟨m1.1, m2.1⟩
    have a2 := hh.mpr ⟨m1.2, m2.2⟩
    refine ⟨_, ?_, mem_mkS.mpr ⟨a1, a2⟩⟩
    unfold cut
    rw [if_pos (isSome_of a1 a2)]

/-- the measures that come to a mark by a rule alone -/
def strBy (r : Rule) (qs : List Rat) (i : Nat) : Strt := match r with
  | .up => mkS (if 0 < i then some (at' qs (i - 1)) else none) (some (at' qs i)) false true
  | .down => mkS (some (at' qs i)) (if i + 1 < qs.length then some (at' qs (i + 1)) else none) true false
  | .near => mkS (if 0 < i then some (mid (at' qs (i - 1)) (at' qs i)) else none) (if i + 1 < qs.length then some (mid (at' qs i) (at' qs (i + 1))) else none) true false
def stretch (L : Lad) (i : Nat) : Option Strt := cut (strBy L.rule L.marks i) (mkS L.least L.most true true)

theorem mid_lt {a b : Rat} (h : a < b) : a < mid a b ∧ mid a b < b := by
  unfold mid
  constructor <;> grind
theorem mids_lt {qs : List Rat} (h : Rises qs) {i j : Nat} (h0 : 0 < i) (hij : i < j) (hj : j < qs.length) : mid (at' qs (i - 1)) (at' qs i) < mid (at' qs (j - 1)) (at' qs j) := by
  have h1 := h.lt hij hj
  have h2 := h.lt (show i - 1 < j - 1 by omega) (by omega)
  unfold mid
  grind
theorem mids_le {qs : List Rat} (h : Rises qs) {i j : Nat} (h0 : 0 < i) (hij : i ≤ j) (hj : j < qs.length) : mid (at' qs (i - 1)) (at' qs i) ≤ mid (at' qs (j - 1)) (at' qs j) := by
  by_cases e : i = j
  · rw [e]; grind
  · have := mids_lt h h0 (show i < j by omega) hj
    grind

theorem up_iff {qs : List Rat} (h : Rises qs) {i : Nat} (hi : i < qs.length) (x : Rat) : sizeUp qs x = some i ↔ mem (strBy .up qs i) x := by
  unfold sizeUp strBy
  rw [firstB_some]
  dsimp only
  rw [mem_mkS]
  constructor
  · rintro ⟨_, h1, h2⟩
    refine ⟨fun a e => ?_, fun b e => ?_⟩
    · split at e
      · rename_i h0
        cases e
        have := h2 (i - 1) (by omega)
        grind
      · cases e
    · cases e
      grind
  · rintro ⟨h1, h2⟩
    have h2 := h2 _ rfl
    refine ⟨hi, by grind, fun j hj => ?_⟩
    have h1 := h1 (at' qs (i - 1)) (by rw [if_pos (by omega)])
    have h3 := h.le (show j ≤ i - 1 by omega) (by omega)
    grind
theorem down_iff {qs : List Rat} (h : Rises qs) {i : Nat} (hi : i < qs.length) (x : Rat) : sizeDown qs x = some i ↔ mem (strBy .down qs i) x := by
  unfold sizeDown strBy
  rw [lastB_some]
  dsimp only
  rw [mem_mkS]
  constructor
  · rintro ⟨_, h1, h2⟩
    refine ⟨fun a e => ?_, fun b e => ?_⟩
    · cases e
      grind
    · split at e
      · rename_i h0
        cases e
        have := h2 (i + 1) (by omega) h0
        grind
      · cases e
  · rintro ⟨h1, h2⟩
    have h1 := h1 _ rfl
    refine ⟨hi, by grind, fun j hj hl => ?_⟩
    have h2 := h2 (at' qs (i + 1)) (by rw [if_pos (by omega)])
    have h3 := h.le (show i + 1 ≤ j by omega) hl
    grind
theorem near_some {qs : List Rat} (hne : 0 < qs.length) (x : Rat) : ∃ i, i < qs.length ∧ sizeNear qs x = some i := by
  unfold sizeNear
  cases e : lastB (nearP qs x) qs.length with
  | none => exact ⟨0, hne, rfl⟩
  | some i => exact ⟨i, (lastB_some.mp e).1, rfl⟩
theorem near_iff {qs : List Rat} (h : Rises qs) {i : Nat} (hi : i < qs.length) (x : Rat) : sizeNear qs x = some i ↔ mem (strBy .near qs i) x := by
  unfold sizeNear strBy
  dsimp only
  rw [mem_mkS]
  have hsome : ∀ k, lastB (nearP qs x) qs.length = some k ↔ (k < qs.length ∧ (0 < k ∧ ¬ x < mid (at' qs (k - 1)) (at' qs k)) ∧ ∀ j, k < j → j < qs.length → x < mid (at' qs (j - 1)) (at' qs j)) := by
    intro k
    rw [lastB_some]
    unfold nearP
    constructor
    · rintro ⟨a, b, c⟩
      refine ⟨a, by simpa using b, fun j h1 h2 => ?_⟩
      have := c j h1 h2
      have h0 : 0 < j := by omega
      simpa [h0] using this
    · rintro ⟨a, b, c⟩
      refine ⟨a, by simpa using b, fun j h1 h2 => ?_⟩
      have := c j h1 h2
      simp [this]
  cases e : lastB (nearP qs x) qs.length with
  | none =>
    have hn := lastB_none.mp e
    have hn : ∀ j, 0 < j → j < qs.length → x < mid (at' qs (j - 1)) (at' qs j) := by
      intro j h0 hj
      have := hn j hj
      unfold nearP at this
      simpa [h0] using this
    simp only [Option.getD_none, Option.some.injEq]
    constructor
    · intro z
      subst z
      refine ⟨fun a q => ?_, fun b q => ?_⟩
      · simp at q
      · split at q
        · rename_i h1
          cases q
          exact .inl (hn 1 (by omega) h1)
        · cases q
    · rintro ⟨h1, h2⟩
      by_cases z : 0 < i
      · have h1 := h1 _ (by rw [if_pos z])
        have := hn i z hi
        grind
      · omega
  | some k =>
    have hk := (hsome k).mp e
    simp only [Option.getD_some, Option.some.injEq]
    constructor
    · intro z
      subst z
      refine ⟨fun a q => ?_, fun b q => ?_⟩
      · rw [if_pos hk.2.1.1] at q
        cases q
        grind
      · split at q
        · rename_i h1
          cases q
          exact .inl (hk.2.2 (k + 1) (by omega) h1)
        · cases q
    · rintro ⟨h1, h2⟩
      rcases Nat.lt_trichotomy k i with q | q | q
      · have h1 := h1 _ (by rw [if_pos (by omega)])
        have := hk.2.2 i q hi
        grind
      · exact q
      · have h2 := h2 _ (by rw [if_pos (show i + 1 < qs.length by omega)])
        have h3 := mids_le h (show 0 < i + 1 by omega) (show i + 1 ≤ k by omega) hk.1
        have e1 : i + 1 - 1 = i := by omega
        rw [e1] at h3
        have := hk.2.1.2
        grind
theorem by_iff {r : Rule} {qs : List Rat} (h : Rises qs) {i : Nat} (hi : i < qs.length) (x : Rat) : sizeBy r qs x = some i ↔ mem (strBy r qs i) x := by
  cases r with
  | up => exact up_iff h hi x
  | down => exact down_iff h hi x
  | near => exact near_iff h hi x
theorem by_lt {r : Rule} {qs : List Rat} {i : Nat} {x : Rat} (h0 : 0 < qs.length) (e : sizeBy r qs x = some i) : i < qs.length := by
  cases r with
  | up => exact (firstB_some.mp e).1
  | down => exact (lastB_some.mp e).1
  | near =>
    obtain ⟨j, h1, h2⟩ := near_some h0 x
    have e : sizeNear qs x = some i := e
    rw [h2] at e
    cases e
    exact h1
theorem letsIn_iff {L : Lad} {x : Rat} : letsIn L x = true ↔ mem (mkS L.least L.most true true) x := by
  rw [mem_mkS]
  unfold letsIn
  cases L.least <;> cases L.most <;> simp <;> grind
/-- whole promise (a): a measure comes to size i just where it is in i's stretch -/
theorem size_iff {L : Lad} (h : Rises L.marks) (h0 : 0 < L.marks.length) {i : Nat} {x : Rat} : size L x = some i ↔ (i < L.marks.length ∧ ∃ c, stretch L i = some c ∧ mem c x) := by
  unfold size stretch
  rw [mem_cut]
  constructor
  · intro e
    split at e
    · rename_i hl
      have hi := by_lt h0 e
      exact ⟨hi, (by_iff h hi x).mp e, letsIn_iff.mp hl⟩
    · cases e
  · rintro ⟨hi, m1, m2⟩
    rw [if_pos (letsIn_iff.mpr m2)]
    exact (by_iff h hi x).mpr m1

/-! ### the ends of all stretches -/
def endsOf (s : Option Strt) : List Rat := match s with
  | none => []
  | some c => c.low.toList ++ c.high.toList
def ends (L : Lad) : List Rat := (List.range L.marks.length).flatMap fun i => endsOf (stretch L i)
theorem mem_ends {L : Lad} {i : Nat} {c : Strt} {e : Rat} (hi : i < L.marks.length) (hc : stretch L i = some c) (he : c.low = some e ∨ c.high = some e) : e ∈ ends L := by
  unfold ends
  rw [List.mem_flatMap]
  refine ⟨i, List.mem_range.mpr hi, ?_⟩
  rw [hc]
  show e ∈ c.low.toList ++ c.high.toList
  rcases he with he | he <;> rw [he] <;> simp
/-- where sizes differ, an end lies between -/
theorem end_between {L : Lad} (h : Rises L.marks) (h0 : 0 < L.marks.length) {x y : Rat} (hxy : x < y) (hne : size L x ≠ size L y) : ∃ e ∈ ends L, x ≤ e ∧ e ≤ y := by
  have key : ∀ {i : Nat} {c : Strt}, i < L.marks.length → stretch L i = some c → (mem c x ∧ ¬ mem c y) ∨ (mem c y ∧ ¬ mem c x) → ∃ e ∈ ends L, x ≤ e ∧ e ≤ y := by
    intro i c hi hc hm
    rcases hm with ⟨m1, m2⟩ | ⟨m1, m2⟩
    · -- y is above the high end
      have hl : ∀ a, c.low = some a → a < y ∨ (c.li = true ∧ a = y) := fun a e => .inl (by have := m1.1 a e; grind)
      have : ¬ ∀ b, c.high = some b → y < b ∨ (c.hi = true ∧ y = b) := fun z => m2 ⟨hl, z⟩
      obtain ⟨b, hb⟩ := Classical.not_forall.mp this
      obtain ⟨h1, h2⟩ := Classical.not_imp.mp hb
      refine ⟨b, mem_ends hi hc (.inr h1), ?_, ?_⟩
      · have := m1.2 b h1; grind
      · grind
    · have hl : ∀ b, c.high = some b → x < b ∨ (c.hi = true ∧ x = b) := fun a e => .inl (by have := m1.2 a e; grind)
      have : ¬ ∀ a, c.low = some a → a < x ∨ (c.li = true ∧ a = x) := fun z => m2 ⟨z, hl⟩
      obtain ⟨b, hb⟩ := Classical.not_forall.mp this
      obtain ⟨h1, h2⟩ := Classical.not_imp.mp hb
      refine ⟨b, mem_ends hi hc (.inl h1), ?_, ?_⟩
      · grind
      · have := m1.1 b h1; grind
  cases e : size L x with
  | some i =>
    obtain ⟨hi, c, hc, m1⟩ := (size_iff h h0).mp e
    refine key hi hc (.inl ⟨m1, fun m2 => hne ?_⟩)
    rw [e, (size_iff h h0).mpr ⟨hi, c, hc, m2⟩]
  | none =>
    cases e2 : size L y with
    | none => rw [e, e2] at hne; exact absurd rfl hne
    | some j =>
      obtain ⟨hi, c, hc, m1⟩ := (size_iff h h0).mp e2
      refine key hi hc (.inr ⟨m1, fun m2 => ?_⟩)
      have := (size_iff h h0).mpr ⟨hi, c, hc, m2⟩
      rw [e] at this
      cases this
/-! ### points and where two ladders part -/
/-- put among rising ones, unless it is there -/
def ins (q : Rat) : List Rat → List Rat
  | [] => [q]
  | a :: l => if a < q then a :: ins q l else if a = q then a :: l else q :: a :: l
def pointsOf (lo hi : Rat) (es : List Rat) : List Rat := es.foldl (fun ps e => if lo < e ∧ e ≤ hi then ins e ps else ps) [lo]
theorem mem_ins {q x : Rat} : ∀ {l : List Rat}, x ∈ ins q l ↔ x = q ∨ x ∈ l
  | [] => by simp [ins]
  | a :: l => by
    unfold ins
    by_cases h1 : a < q
    · rw [if_pos h1, List.mem_cons, mem_ins, List.mem_cons]
      constructor <;> grind
    · rw [if_neg h1]
      by_cases h2 : a = q
      · rw [if_pos h2]; subst h2; simp
      · rw [if_neg h2]; simp
theorem ins_sorted {q : Rat} : ∀ {l : List Rat}, l.Pairwise (· < ·) → (ins q l).Pairwise (· < ·)
  | [], _ => by simp [ins]
  | a :: l, h => by
    have h' := List.pairwise_cons.mp h
    unfold ins
    by_cases h1 : a < q
    · rw [if_pos h1, List.pairwise_cons]
      refine ⟨fun b hb => ?_, ins_sorted h'.2⟩
      rcases mem_ins.mp hb with e | hb
      · rw [e]; exact h1
      · exact h'.1 b hb
    · rw [if_neg h1]
      by_cases h2 : a = q
      · rw [if_pos h2]; exact h
      · rw [if_neg h2, List.pairwise_cons]
        refine ⟨fun b hb => ?_, h⟩
        rcases List.mem_cons.mp hb with e | hb
        · rw [e]; grind
        · have := h'.1 b hb; grind
/-- what holds of the points so far -/
structure PtsOk (lo hi : Rat) (seen : List Rat) (ps : List Rat) : Prop where
  head : ∃ r, ps = lo :: r
  sorted : ps.Pairwise (· < ·)
  bnd : ∀ x ∈ ps, lo ≤ x ∧ x ≤ hi
  has : ∀ e ∈ seen, lo < e → e ≤ hi → e ∈ ps
  from' : ∀ x ∈ ps, x = lo ∨ x ∈ seen
theorem PtsOk.start {lo hi : Rat} (h : lo ≤ hi) : PtsOk lo hi [] [lo] := ⟨⟨[], rfl⟩, by simp, by simp [h], by simp, by simp⟩
theorem PtsOk.step {lo hi : Rat} {seen ps : List Rat} (P : PtsOk lo hi seen ps) (e : Rat) : PtsOk lo hi (seen ++ [e]) (if lo < e ∧ e ≤ hi then ins e ps else ps) := by
  by_cases h : lo < e ∧ e ≤ hi
  · rw [if_pos h]
    refine ⟨?_, ins_sorted P.sorted, fun x hx => ?_, fun x hx h1 h2 => ?_, fun x hx => ?_⟩
    · obtain ⟨r, hr⟩ := P.head
      rw [hr]
      unfold ins
      rw [if_pos h.1]
      exact ⟨_, rfl⟩
    · rcases mem_ins.mp hx with q | hx
      · rw [q]; exact ⟨by grind, h.2⟩
      · exact P.bnd x hx
    · rcases List.mem_append.mp hx with hx | hx
      · exact mem_ins.mpr (.inr (P.has x hx h1 h2))
      · simp at hx
        exact mem_ins.mpr (.inl hx)
    · rcases mem_ins.mp hx with q | hx
      · exact .inr (by simp [q])
      · rcases P.from' x hx with q | q
        · exact .inl q
        · exact .inr (List.mem_append_left _ q)
  · rw [if_neg h]
    refine ⟨P.head, P.sorted, P.bnd, fun x hx h1 h2 => ?_, fun x hx => ?_⟩
    · rcases List.mem_append.mp hx with hx | hx
      · exact P.has x hx h1 h2
      · simp at hx
        subst hx
        exact absurd ⟨h1, h2⟩ h
    · rcases P.from' x hx with q | q
      · exact .inl q
      · exact .inr (List.mem_append_left _ q)
theorem PtsOk.fold {lo hi : Rat} : ∀ {es seen ps : List Rat}, PtsOk lo hi seen ps → PtsOk lo hi (seen ++ es) (es.foldl (fun ps e => if lo < e ∧ e ≤ hi then ins e ps else ps) ps)
  | [], seen, ps, P => by simpa using P
  | e :: es, seen, ps, P => by
    have := PtsOk.fold (es := es) (P.step e)
    rw [List.append_assoc] at this
    exact this
theorem points_ok {lo hi : Rat} (h : lo ≤ hi) (es : List Rat) : PtsOk lo hi es (pointsOf lo hi es) := by
  have := PtsOk.fold (es := es) (PtsOk.start h)
  rwa [List.nil_append] at this

/-- alike but for a shift -/
def alike (h t : Option Nat) (m : Int) : Prop := match h, t with
  | none, none => True
  | some i, some j => (j : Int) = (i : Int) + m
  | _, _ => False
instance (h t : Option Nat) (m : Int) : Decidable (alike h t m) := by
  unfold alike
  cases h <;> cases t <;> infer_instance
theorem alike_swap {h t : Option Nat} {m : Int} : alike t h (0 - m) ↔ alike h t m := by
  unfold alike
  cases h <;> cases t <;> simp <;> omega

/-- what parting tells: where (false: at, true: behind), the sizes there -/
inductive Part
  | alike
  | part (p : Rat) (behind : Bool) (h t : Option Nat)
def partGo (s1 s2 : Rat → Option Nat) (m : Int) (hi : Rat) : List Rat → Part
  | [] => .alike
  | p :: r =>
    if ¬ alike (s1 p) (s2 p) m then .part p false (s1 p) (s2 p)
    else if p < hi then
      (if ¬ alike (s1 (mid p (r.headD hi))) (s2 (mid p (r.headD hi))) m then .part p true (s1 (mid p (r.headD hi))) (s2 (mid p (r.headD hi)))
      else partGo s1 s2 m hi r)
    else partGo s1 s2 m hi r
def parting (L1 L2 : Lad) (lo hi : Rat) (m : Int) : Part := partGo (size L1) (size L2) m hi (pointsOf lo hi (ends L1 ++ ends L2))

/-- whole promise (d) -/
def Spec (s1 s2 : Rat → Option Nat) (m : Int) (lo hi : Rat) : Part → Prop
  | .alike => ∀ x, lo ≤ x → x ≤ hi → alike (s1 x) (s2 x) m
  | .part p false h t => lo ≤ p ∧ p ≤ hi ∧ (∀ x, lo ≤ x → x < p → alike (s1 x) (s2 x) m) ∧ ¬ alike h t m ∧ s1 p = h ∧ s2 p = t
  | .part p true h t => lo ≤ p ∧ p < hi ∧ (∀ x, lo ≤ x → x ≤ p → alike (s1 x) (s2 x) m) ∧ ¬ alike h t m ∧ ∃ z, p < z ∧ z ≤ hi ∧ ∀ y, p < y → y < z → s1 y = h ∧ s2 y = t

/-- sizes are one between two points in a row -/
theorem partGo_spec {s1 s2 : Rat → Option Nat} {m : Int} {lo hi : Rat} :
    ∀ {ps : List Rat} {p : Rat}, (p :: ps).Pairwise (· < ·) → (∀ x ∈ p :: ps, x ≤ hi) → lo ≤ p →
      (∀ x y, p < x → x < y → y ≤ hi → (∀ e ∈ ps, ¬ (x ≤ e ∧ e ≤ y)) → s1 x = s1 y ∧ s2 x = s2 y) →
      (∀ x, lo ≤ x → x < p → alike (s1 x) (s2 x) m) → Spec s1 s2 m lo hi (partGo s1 s2 m hi (p :: ps)) := by
  intro ps
  induction ps with
  | nil =>
    intro p hs hb hlo hc ha
    have hp : p ≤ hi := hb p (by simp)
    unfold partGo
    by_cases h1 : ¬ alike (s1 p) (s2 p) m
    · rw [if_pos h1]
      exact ⟨hlo, hp, ha, h1, rfl, rfl⟩
    · rw [if_neg h1]
      have h1 : alike (s1 p) (s2 p) m := Classical.not_not.mp h1
      have hle : ∀ x, lo ≤ x → x ≤ p → alike (s1 x) (s2 x) m := by
        intro x h2 h3
        by_cases e : x = p
        · rw [e]; exact h1
        · exact ha x h2 (by grind)
      by_cases h2 : p < hi
      · rw [if_pos h2]
        have hm := mid_lt h2
        have same : ∀ y, p < y → y ≤ hi → s1 y = s1 (mid p hi) ∧ s2 y = s2 (mid p hi) := by
          intro y y1 y2
          by_cases e : y = mid p hi
          · rw [e]; exact ⟨rfl, rfl⟩
          · by_cases l : y < mid p hi
            · exact hc y (mid p hi) y1 l (by grind) (by simp)
            · have := hc (mid p hi) y hm.1 (by grind) y2 (by simp)
              exact ⟨this.1.symm, this.2.symm⟩
        have e0 : ([] : List Rat).headD hi = hi := rfl
        rw [e0]
        by_cases h3 : ¬ alike (s1 (mid p hi)) (s2 (mid p hi)) m
        · rw [if_pos h3]
          exact ⟨hlo, h2, hle, h3, hi, h2, by grind, fun y y1 y2 => same y y1 (by grind)⟩
        · rw [if_neg h3]
          have h3 := Classical.not_not.mp h3
          unfold partGo
          intro x x1 x2
          by_cases l : x ≤ p
          · exact hle x x1 l
          · obtain ⟨a, b⟩ := same x (by grind) x2
            rw [a, b]; exact h3
      · rw [if_neg h2]
        unfold partGo
        intro x x1 x2
        exact hle x x1 (by grind)
  | cons q ps ih =>
    intro p hs hb hlo hc ha
    have hs' := List.pairwise_cons.mp hs
    have hpq : p < q := hs'.1 q (by simp)
    have hq : q ≤ hi := hb q (by simp)
    unfold partGo
    by_cases h1 : ¬ alike (s1 p) (s2 p) m
    · rw [if_pos h1]
      exact ⟨hlo, by grind, ha, h1, rfl, rfl⟩
    · rw [if_neg h1]
      have h1 : alike (s1 p) (s2 p) m := Classical.not_not.mp h1
      have hle : ∀ x, lo ≤ x → x ≤ p → alike (s1 x) (s2 x) m := by
        intro x h2 h3
        by_cases e : x = p
        · rw [e]; exact h1
        · exact ha x h2 (by grind)
      rw [if_pos (show p < hi by grind)]
      have hm := mid_lt hpq
      have e0 : (q :: ps).headD hi = q := rfl
      rw [e0]
      have far : ∀ e ∈ q :: ps, q ≤ e := by
        intro e he
        rcases List.mem_cons.mp he with z | z
        · rw [z]; grind
        · have := (List.pairwise_cons.mp hs'.2).1 e z
          grind
      have same : ∀ y, p < y → y < q → s1 y = s1 (mid p q) ∧ s2 y = s2 (mid p q) := by
        intro y y1 y2
        by_cases e : y = mid p q
        · rw [e]; exact ⟨rfl, rfl⟩
        · by_cases l : y < mid p q
          · exact hc y (mid p q) y1 l (by grind) fun e he => by have := far e he; grind
          · have := hc (mid p q) y hm.1 (by grind) (by grind) fun e he => by have := far e he; grind
            exact ⟨this.1.symm, this.2.symm⟩
      by_cases h3 : ¬ alike (s1 (mid p q)) (s2 (mid p q)) m
      · rw [if_pos h3]
        exact ⟨hlo, by grind, hle, h3, q, hpq, hq, same⟩
      · rw [if_neg h3]
        have h3 := Classical.not_not.mp h3
        refine ih hs'.2 (fun x hx => hb x (List.mem_cons_of_mem _ hx)) (by grind) (fun x y x1 x2 x3 hn => ?_) fun x x1 x2 => ?_
        · refine hc x y (by grind) x2 x3 fun e he => ?_
          rcases List.mem_cons.mp he with z | z
          · rw [z]; grind
          · exact hn e z
        · by_cases l : x ≤ p
          · exact hle x x1 l
          · obtain ⟨a, b⟩ := same x (by grind) x2
            rw [a, b]; exact h3
/-- a ladder as it may stand -/
structure Lad.Ok (L : Lad) : Prop where
  rises : Rises L.marks
  pos : 0 < L.marks.length
  few : L.marks.length ≤ 24
  span : ∀ a b, L.least = some a → L.most = some b → a ≤ b
theorem parting_spec {L1 L2 : Lad} (h1 : L1.Ok) (h2 : L2.Ok) {lo hi : Rat} (h : lo ≤ hi) (m : Int) : Spec (size L1) (size L2) m lo hi (parting L1 L2 lo hi m) := by
  have P := points_ok h (ends L1 ++ ends L2)
  unfold parting
  obtain ⟨r, hr⟩ := P.head
  have hs := P.sorted
  have hb := P.bnd
  have hh := P.has
  rw [hr] at hs hb hh ⊢
  refine partGo_spec hs (fun x hx => (hb x hx).2) (by grind) (fun x y x1 x2 x3 hn => ?_) fun x x1 x2 => by grind
  have no : ∀ e, e ∈ ends L1 ++ ends L2 → ¬ (x ≤ e ∧ e ≤ y) := by
    intro e he ⟨e1, e2⟩
    rcases List.mem_cons.mp (hh e he (by grind) (by grind)) with z | z
    · grind
    · exact hn e z ⟨e1, e2⟩
  constructor
  · refine Classical.byContradiction fun z => ?_
    obtain ⟨e, he, e1, e2⟩ := end_between h1.rises h1.pos x2 z
    exact no e (List.mem_append_left _ he) ⟨e1, e2⟩
  · refine Classical.byContradiction fun z => ?_
    obtain ⟨e, he, e1, e2⟩ := end_between h2.rises h2.pos x2 z
    exact no e (List.mem_append_right _ he) ⟨e1, e2⟩

/-! ### there is one answer alone -/
variable {s1 s2 : Rat → Option Nat} {m : Int} {lo hi : Rat}
theorem Spec.uniq {r r' : Part} (a : Spec s1 s2 m lo hi r) (b : Spec s1 s2 m lo hi r') : r = r' := by
  -- a place where they part, told from the two sides
  have atat : ∀ {p p' h t h' t'}, Spec s1 s2 m lo hi (.part p false h t) → Spec s1 s2 m lo hi (.part p' false h' t') → p = p' ∧ h = h' ∧ t = t' := by
    rintro p p' h t h' t' ⟨a1, a2, a3, a4, a5, a6⟩ ⟨b1, b2, b3, b4, b5, b6⟩
    have e : p = p' := by
      rcases (show p < p' ∨ p = p' ∨ p' < p by grind) with q | q | q
      · have := b3 p a1 q; rw [a5, a6] at this; exact absurd this a4
      · exact q
      · have := a3 p' b1 q; rw [b5, b6] at this; exact absurd this b4
    subst e
    exact ⟨rfl, by rw [← a5, b5], by rw [← a6, b6]⟩
  have atbe : ∀ {p p' h t h' t'}, Spec s1 s2 m lo hi (.part p false h t) → Spec s1 s2 m lo hi (.part p' true h' t') → False := by
    rintro p p' h t h' t' ⟨a1, a2, a3, a4, a5, a6⟩ ⟨b1, b2, b3, b4, z, b5, b6, b7⟩
    by_cases q : p ≤ p'
    · have := b3 p a1 q; rw [a5, a6] at this; exact a4 this
    · obtain ⟨y, y1, y2, y3⟩ : ∃ y, p' < y ∧ y < z ∧ y < p := by
        by_cases l : z ≤ p
        · have := mid_lt b5; exact ⟨mid p' z, this.1, this.2, by grind⟩
        · have := mid_lt (show p' < p by grind); exact ⟨mid p' p, this.1, by grind, this.2⟩
      obtain ⟨e1, e2⟩ := b7 y y1 y2
      have := a3 y (by grind) y3
      rw [e1, e2] at this
      exact b4 this
  have bebe : ∀ {p p' h t h' t'}, Spec s1 s2 m lo hi (.part p true h t) → Spec s1 s2 m lo hi (.part p' true h' t') → p = p' ∧ h = h' ∧ t = t' := by
    have lt : ∀ {p p' h t h' t'}, Spec s1 s2 m lo hi (.part p true h t) → Spec s1 s2 m lo hi (.part p' true h' t') → ¬ p < p' := by
      rintro p p' h t h' t' ⟨a1, a2, a3, a4, z, a5, a6, a7⟩ ⟨b1, b2, b3, b4, _⟩ q
      obtain ⟨y, y1, y2, y3⟩ : ∃ y, p < y ∧ y < z ∧ y ≤ p' := by
        by_cases l : z ≤ p'
        · have := mid_lt a5; exact ⟨mid p z, this.1, this.2, by grind⟩
        · exact ⟨p', q, by grind, by grind⟩
      obtain ⟨e1, e2⟩ := a7 y y1 y2
      have := b3 y (by grind) y3
      rw [e1, e2] at this
      exact a4 this
    rintro p p' h t h' t' A B
    have e : p = p' := by
      have := lt A B
      have := lt B A
      grind
    subst e
    obtain ⟨a1, a2, a3, a4, z, a5, a6, a7⟩ := A
    obtain ⟨b1, b2, b3, b4, z', b5, b6, b7⟩ := B
    obtain ⟨y, y1, y2, y3⟩ : ∃ y, p < y ∧ y < z ∧ y < z' := by
      by_cases l : z ≤ z'
      · have := mid_lt a5; exact ⟨mid p z, this.1, this.2, by grind⟩
      · have := mid_lt b5; exact ⟨mid p z', this.1, by grind, this.2⟩
    obtain ⟨c1, c2⟩ := a7 y y1 y2
    obtain ⟨d1, d2⟩ := b7 y y1 y3
    exact ⟨rfl, by rw [← c1, d1], by rw [← c2, d2]⟩
  have alp : ∀ {p b h t}, Spec s1 s2 m lo hi .alike → Spec s1 s2 m lo hi (.part p b h t) → False := by
    intro p b h t A B
    cases b with
    | false =>
      obtain ⟨b1, b2, b3, b4, b5, b6⟩ := B
      have := A p b1 b2
      rw [b5, b6] at this
      exact b4 this
    | true =>
      obtain ⟨b1, b2, b3, b4, z, b5, b6, b7⟩ := B
      have hm := mid_lt b5
      obtain ⟨e1, e2⟩ := b7 _ hm.1 hm.2
      have := A (mid p z) (by grind) (by grind)
      rw [e1, e2] at this
      exact b4 this
  cases r with
  | alike =>
    cases r' with
    | alike => rfl
    | part p b' h t => exact (alp a b).elim
  | part p bb h t =>
    cases r' with
    | alike => exact (alp b a).elim
    | part p' bb' h' t' =>
      cases bb with
      | false =>
        cases bb' with
        | false => obtain ⟨e1, e2, e3⟩ := atat a b; rw [e1, e2, e3]
        | true => exact (atbe a b).elim
      | true =>
        cases bb' with
        | false => exact (atbe b a).elim
        | true => obtain ⟨e1, e2, e3⟩ := bebe a b; rw [e1, e2, e3]
/-- the other way about -/
def Part.swap : Part → Part
  | .alike => .alike
  | .part p b h t => .part p b t h
theorem Spec.swap {r : Part} (a : Spec s1 s2 m lo hi r) : Spec s2 s1 (0 - m) lo hi r.swap := by
  cases r with
  | alike => exact fun x x1 x2 => alike_swap.mpr (a x x1 x2)
  | part p b h t =>
    cases b with
    | false =>
      obtain ⟨a1, a2, a3, a4, a5, a6⟩ := a
      exact ⟨a1, a2, fun x x1 x2 => alike_swap.mpr (a3 x x1 x2), fun z => a4 (alike_swap.mp z), a6, a5⟩
    | true =>
      obtain ⟨a1, a2, a3, a4, z, a5, a6, a7⟩ := a
      exact ⟨a1, a2, fun x x1 x2 => alike_swap.mpr (a3 x x1 x2), fun z => a4 (alike_swap.mp z), z, a5, a6, fun y y1 y2 => (a7 y y1 y2).symm⟩
section
variable {L1 L2 : Lad} (h1 : L1.Ok) (h2 : L2.Ok)
include h1 h2
theorem parting_of (h : lo ≤ hi) {r : Part} (a : Spec (size L1) (size L2) m lo hi r) : parting L1 L2 lo hi m = r := (parting_spec h1 h2 h m).uniq a
/-- whole promise (d), the other way about -/
theorem parting_swap (h : lo ≤ hi) : parting L2 L1 lo hi (0 - m) = (parting L1 L2 lo hi m).swap := parting_of h2 h1 h (parting_spec h1 h2 h m).swap
theorem alike_all (h : lo ≤ hi) (e : parting L1 L2 lo hi m = .alike) {x : Rat} (x1 : lo ≤ x) (x2 : x ≤ hi) : alike (size L1 x) (size L2 x) m := by
  have := parting_spec h1 h2 h m
  rw [e] at this
  exact this x x1 x2
/-- .. where they are alike, on each lesser span -/
theorem alike_less (h : lo ≤ hi) (e : parting L1 L2 lo hi m = .alike) {a b : Rat} (x1 : lo ≤ a) (x2 : a ≤ b) (x3 : b ≤ hi) : parting L1 L2 a b m = .alike :=
  parting_of h1 h2 x2 fun x y1 y2 => alike_all h1 h2 h e (by grind) (by grind)
theorem part_not (h : lo ≤ hi) {p : Rat} {b : Bool} {i j : Option Nat} (e : parting L1 L2 lo hi m = .part p b i j) : ¬ alike i j m ∧ lo ≤ p ∧ p ≤ hi := by
  have := parting_spec h1 h2 h m
  rw [e] at this
  cases b with
  | false => exact ⟨this.2.2.2.1, this.1, this.2.1⟩
  | true => exact ⟨this.2.2.2.1, this.1, by have := this.2.1; grind⟩
/-- .. ahead of what is told, and up to it where it is told behind -/
theorem ahead_alike (h : lo ≤ hi) {p : Rat} {b : Bool} {i j : Option Nat} (e : parting L1 L2 lo hi m = .part p b i j) {x : Rat} (x1 : lo ≤ x) (x2 : x ≤ p) (x3 : b = true ∨ x < p) : parting L1 L2 lo x m = .alike := by
  have := parting_spec h1 h2 h m
  rw [e] at this
  refine parting_of h1 h2 x1 fun y y1 y2 => ?_
  cases b with
  | false => exact this.2.2.1 y y1 (by grind)
  | true => exact this.2.2.1 y y1 (by grind)
theorem at_sizes (h : lo ≤ hi) {p : Rat} {i j : Option Nat} (e : parting L1 L2 lo hi m = .part p false i j) : size L1 p = i ∧ size L2 p = j := by
  have := parting_spec h1 h2 h m
  rw [e] at this
  exact ⟨this.2.2.2.2.1, this.2.2.2.2.2⟩
/-- .. and no more on any span that goes on -/
theorem further (h : lo ≤ hi) {p : Rat} {b : Bool} {i j : Option Nat} (e : parting L1 L2 lo hi m = .part p b i j) {x : Rat} (x1 : p ≤ x) (x2 : x ≤ hi) (x3 : b = false ∨ p < x) : parting L1 L2 lo x m = .part p b i j := by
  have := parting_spec h1 h2 h m
  rw [e] at this
  have hlo := (part_not h1 h2 h e).2.1
  refine parting_of h1 h2 (by grind) ?_
  cases b with
  | false =>
    obtain ⟨a1, a2, a3, a4, a5, a6⟩ := this
    exact ⟨a1, x1, a3, a4, a5, a6⟩
  | true =>
    obtain ⟨a1, a2, a3, a4, z, a5, a6, a7⟩ := this
    have hx : p < x := by grind
    refine ⟨a1, hx, a3, a4, if z ≤ x then z else x, ?_, ?_, fun y y1 y2 => a7 y y1 ?_⟩
    · split <;> grind
    · split <;> grind
    · split at y2 <;> grind
end
end Sz

/-! Where each def of the linked text stands; its names by slot, parameters first. Printed by gen.py. -/
namespace Sz
open PySem L2
def top (i : Nat) : Stmt := PySem.Challenge.pw_sizeladders_k41_whole_nowhere_ahead.main.body.getD i (.Pass ⟨0, 0, 0, 0⟩)
abbrev s_is_whole : Stmt := top 11
abbrev N_is_whole : List Str := ["thing"]
theorem sc_is_whole : FnScope N_is_whole ["thing"] (defScope s_is_whole) := ⟨rfl, rfl, rfl, by decide +kernel, rfl, by decide +kernel, by decide +kernel⟩
abbrev s_common_part : Stmt := top 12
abbrev N_common_part : List Str := ["many", "few"]
theorem sc_common_part : FnScope N_common_part ["many", "few"] (defScope s_common_part) := ⟨rfl, rfl, rfl, by decide +kernel, rfl, by decide +kernel, by decide +kernel⟩
abbrev s_midst : Stmt := top 14
abbrev N_midst : List Str := ["here", "there"]
theorem sc_midst : FnScope N_midst ["here", "there"] (defScope s_midst) := ⟨rfl, rfl, rfl, by decide +kernel, rfl, by decide +kernel, by decide +kernel⟩
abbrev s_put_among : Stmt := top 16
abbrev N_put_among : List Str := ["some", "measure", "at"]
theorem sc_put_among : FnScope N_put_among ["some", "measure"] (defScope s_put_among) := ⟨rfl, rfl, rfl, by decide +kernel, rfl, by decide +kernel, by decide +kernel⟩
abbrev s_ends_of : Stmt := top 17
abbrev N_ends_of : List Str := ["ladder", "found", "number", "stretch", "end"]
theorem sc_ends_of : FnScope N_ends_of ["ladder"] (defScope s_ends_of) := ⟨rfl, rfl, rfl, by decide +kernel, rfl, by decide +kernel, by decide +kernel⟩
abbrev s_points_of : Stmt := top 18
abbrev N_points_of : List Str := ["one", "other", "low", "high", "some", "end"]
theorem sc_points_of : FnScope N_points_of ["one", "other", "low", "high"] (defScope s_points_of) := ⟨rfl, rfl, rfl, by decide +kernel, rfl, by decide +kernel, by decide +kernel⟩
abbrev s_are_alike : Stmt := top 19
abbrev N_are_alike : List Str := ["here", "there", "shift"]
theorem sc_are_alike : FnScope N_are_alike ["here", "there", "shift"] (defScope s_are_alike) := ⟨rfl, rfl, rfl, by decide +kernel, rfl, by decide +kernel, by decide +kernel⟩
abbrev s_parting : Stmt := top 20
abbrev N_parting : List Str := ["one", "other", "low", "high", "shift", "points", "at", "point", "here", "there", "further"]
theorem sc_parting : FnScope N_parting ["one", "other", "low", "high", "shift"] (defScope s_parting) := ⟨rfl, rfl, rfl, by decide +kernel, rfl, by decide +kernel, by decide +kernel⟩
abbrev s_is_end : Stmt := top 22
abbrev N_is_end : List Str := ["thing"]
theorem sc_is_end : FnScope N_is_end ["thing"] (defScope s_is_end) := ⟨rfl, rfl, rfl, by decide +kernel, rfl, by decide +kernel, by decide +kernel⟩
abbrev s_is_some : Stmt := top 23
abbrev N_is_some : List Str := ["low", "high", "low_in", "high_in"]
theorem sc_is_some : FnScope N_is_some ["low", "high", "low_in", "high_in"] (defScope s_is_some) := ⟨rfl, rfl, rfl, by decide +kernel, rfl, by decide +kernel, by decide +kernel⟩
abbrev s_later_begin : Stmt := top 26
abbrev N_later_begin : List Str := ["here", "there"]
theorem sc_later_begin : FnScope N_later_begin ["here", "there"] (defScope s_later_begin) := ⟨rfl, rfl, rfl, by decide +kernel, rfl, by decide +kernel, by decide +kernel⟩
abbrev s_earlier_end : Stmt := top 27
abbrev N_earlier_end : List Str := ["here", "there"]
theorem sc_earlier_end : FnScope N_earlier_end ["here", "there"] (defScope s_earlier_end) := ⟨rfl, rfl, rfl, by decide +kernel, rfl, by decide +kernel, by decide +kernel⟩
abbrev s_is_measure_or_none : Stmt := top 30
abbrev N_is_measure_or_none : List Str := ["thing"]
theorem sc_is_measure_or_none : FnScope N_is_measure_or_none ["thing"] (defScope s_is_measure_or_none) := ⟨rfl, rfl, rfl, by decide +kernel, rfl, by decide +kernel, by decide +kernel⟩
abbrev s_are_measures : Stmt := top 31
abbrev N_are_measures : List Str := ["thing", "fewest", "most", "one"]
theorem sc_are_measures : FnScope N_are_measures ["thing", "fewest", "most"] (defScope s_are_measures) := ⟨rfl, rfl, rfl, by decide +kernel, rfl, by decide +kernel, by decide +kernel⟩
abbrev s_first_slip : Stmt := top 32
abbrev N_first_slip : List Str := ["rows", "row"]
theorem sc_first_slip : FnScope N_first_slip ["rows"] (defScope s_first_slip) := ⟨rfl, rfl, rfl, by decide +kernel, rfl, by decide +kernel, by decide +kernel⟩
abbrev s_up_size : Stmt := top 33
abbrev N_up_size : List Str := ["marks", "measure", "number", "mark"]
theorem sc_up_size : FnScope N_up_size ["marks", "measure"] (defScope s_up_size) := ⟨rfl, rfl, rfl, by decide +kernel, rfl, by decide +kernel, by decide +kernel⟩
abbrev s_down_size : Stmt := top 34
abbrev N_down_size : List Str := ["marks", "measure", "found", "number", "mark"]
theorem sc_down_size : FnScope N_down_size ["marks", "measure"] (defScope s_down_size) := ⟨rfl, rfl, rfl, by decide +kernel, rfl, by decide +kernel, by decide +kernel⟩
abbrev s_near_size : Stmt := top 35
abbrev N_near_size : List Str := ["marks", "measure", "found", "number"]
theorem sc_near_size : FnScope N_near_size ["marks", "measure"] (defScope s_near_size) := ⟨rfl, rfl, rfl, by decide +kernel, rfl, by decide +kernel, by decide +kernel⟩
abbrev s_up_stretch : Stmt := top 36
abbrev N_up_stretch : List Str := ["marks", "number", "low"]
theorem sc_up_stretch : FnScope N_up_stretch ["marks", "number"] (defScope s_up_stretch) := ⟨rfl, rfl, rfl, by decide +kernel, rfl, by decide +kernel, by decide +kernel⟩
abbrev s_down_stretch : Stmt := top 37
abbrev N_down_stretch : List Str := ["marks", "number", "high"]
theorem sc_down_stretch : FnScope N_down_stretch ["marks", "number"] (defScope s_down_stretch) := ⟨rfl, rfl, rfl, by decide +kernel, rfl, by decide +kernel, by decide +kernel⟩
abbrev s_near_stretch : Stmt := top 38
abbrev N_near_stretch : List Str := ["marks", "number", "low", "high"]
theorem sc_near_stretch : FnScope N_near_stretch ["marks", "number"] (defScope s_near_stretch) := ⟨rfl, rfl, rfl, by decide +kernel, rfl, by decide +kernel, by decide +kernel⟩
abbrev s_is_rule : Stmt := top 41
abbrev N_is_rule : List Str := ["thing"]
theorem sc_is_rule : FnScope N_is_rule ["thing"] (defScope s_is_rule) := ⟨rfl, rfl, rfl, by decide +kernel, rfl, by decide +kernel, by decide +kernel⟩
abbrev s_is_size : Stmt := top 44
abbrev N_is_size : List Str := ["thing"]
theorem sc_is_size : FnScope N_is_size ["thing"] (defScope s_is_size) := ⟨rfl, rfl, rfl, by decide +kernel, rfl, by decide +kernel, by decide +kernel⟩
abbrev s_shows_parting : Stmt := top 45
abbrev N_shows_parting : List Str := ["one", "other", "low", "high", "shift", "thing", "due"]
theorem sc_shows_parting : FnScope N_shows_parting ["one", "other", "low", "high", "shift", "thing"] (defScope s_shows_parting) := ⟨rfl, rfl, rfl, by decide +kernel, rfl, by decide +kernel, by decide +kernel⟩
abbrev s_l_hand_at : Stmt := top 47
abbrev N_l_hand_at : List Str := ["_law_script", "_law_k", "_law_cell"]
theorem sc_l_hand_at : FnScope N_l_hand_at ["_law_script", "_law_k"] (defScope s_l_hand_at) := ⟨rfl, rfl, rfl, by decide +kernel, rfl, by decide +kernel, by decide +kernel⟩
abbrev s_l_take : Stmt := top 48
abbrev N_l_take : List Str := ["_law_hand", "_law_many", "_law_digit", "_law_primes", "_law_prime", "_law_drawn"]
theorem sc_l_take : FnScope N_l_take ["_law_hand", "_law_many"] (defScope s_l_take) := ⟨rfl, rfl, rfl, by decide +kernel, rfl, by decide +kernel, by decide +kernel⟩
abbrev s_l_pick : Stmt := top 49
abbrev N_l_pick : List Str := ["_law_hand", "_law_some"]
theorem sc_l_pick : FnScope N_l_pick ["_law_hand", "_law_some"] (defScope s_l_pick) := ⟨rfl, rfl, rfl, by decide +kernel, rfl, by decide +kernel, by decide +kernel⟩
abbrev s_l_grain : Stmt := top 50
abbrev N_l_grain : List Str := ["_law_hand"]
theorem sc_l_grain : FnScope N_l_grain ["_law_hand"] (defScope s_l_grain) := ⟨rfl, rfl, rfl, by decide +kernel, rfl, by decide +kernel, by decide +kernel⟩
abbrev s_l_drawn_marks : Stmt := top 51
abbrev N_l_drawn_marks : List Str := ["_law_hand", "_law_many", "_law_steady", "_law_marks", "_law_step", "_law_k"]
theorem sc_l_drawn_marks : FnScope N_l_drawn_marks ["_law_hand"] (defScope s_l_drawn_marks) := ⟨rfl, rfl, rfl, by decide +kernel, rfl, by decide +kernel, by decide +kernel⟩
abbrev s_l_drawn_ladder : Stmt := top 52
abbrev N_l_drawn_ladder : List Str := ["_law_hand", "_law_marks", "_law_manner", "_law_floor", "_law_roof"]
theorem sc_l_drawn_ladder : FnScope N_l_drawn_ladder ["_law_hand"] (defScope s_l_drawn_ladder) := ⟨rfl, rfl, rfl, by decide +kernel, rfl, by decide +kernel, by decide +kernel⟩
abbrev s_l_measure : Stmt := top 53
abbrev N_l_measure : List Str := ["_law_x", "_law_grain_here"]
theorem sc_l_measure : FnScope N_l_measure ["_law_x", "_law_grain_here"] (defScope s_l_measure) := ⟨rfl, rfl, rfl, by decide +kernel, rfl, by decide +kernel, by decide +kernel⟩
abbrev s_l_made : Stmt := top 54
abbrev N_l_made : List Str := ["_law_ladder", "_law_grain_here", "_law_marks", "_law_x"]
theorem sc_l_made : FnScope N_l_made ["_law_ladder", "_law_grain_here"] (defScope s_l_made) := ⟨rfl, rfl, rfl, by decide +kernel, rfl, by decide +kernel, by decide +kernel⟩
abbrev s_l_points : Stmt := top 55
abbrev N_l_points : List Str := ["_law_ladder", "_law_marks", "_law_manner", "_law_floor", "_law_roof", "_law_found", "_law_a", "_law_b", "_law_x"]
theorem sc_l_points : FnScope N_l_points ["_law_ladder"] (defScope s_l_points) := ⟨rfl, rfl, rfl, by decide +kernel, rfl, by decide +kernel, by decide +kernel⟩
abbrev s_l_two_ladder : Stmt := top 56
abbrev N_l_two_ladder : List Str := ["_law_hand", "_law_ladder", "_law_marks", "_law_manner", "_law_floor", "_law_roof", "_law_kind", "_law_at", "_law_far", "_law_gap"]
theorem sc_l_two_ladder : FnScope N_l_two_ladder ["_law_hand", "_law_ladder"] (defScope s_l_two_ladder) := ⟨rfl, rfl, rfl, by decide +kernel, rfl, by decide +kernel, by decide +kernel⟩
abbrev s_l_alike : Stmt := top 57
abbrev N_l_alike : List Str := ["_law_here", "_law_there", "_law_moved"]
theorem sc_l_alike : FnScope N_l_alike ["_law_here", "_law_there", "_law_moved"] (defScope s_l_alike) := ⟨rfl, rfl, rfl, by decide +kernel, rfl, by decide +kernel, by decide +kernel⟩
abbrev s_l_span : Stmt := top 58
abbrev N_l_span : List Str := ["_law_hand", "_law_left", "_law_right_here", "_law_points_here", "_law_some", "_law_turn"]
theorem sc_l_span : FnScope N_l_span ["_law_hand", "_law_left", "_law_right_here"] (defScope s_l_span) := ⟨rfl, rfl, rfl, by decide +kernel, rfl, by decide +kernel, by decide +kernel⟩
abbrev s_l_between : Stmt := top 59
abbrev N_l_between : List Str := ["_law_hand", "_law_start", "_law_goal", "_law_parts", "_law_step"]
theorem sc_l_between : FnScope N_l_between ["_law_hand", "_law_start", "_law_goal"] (defScope s_l_between) := ⟨rfl, rfl, rfl, by decide +kernel, rfl, by decide +kernel, by decide +kernel⟩
abbrev s_l_sizes_alike : Stmt := top 60
abbrev N_l_sizes_alike : List Str := ["_law_hand", "_law_first", "_law_second", "_law_start", "_law_goal", "_law_moved", "_law_measure_here", "_law_turn"]
theorem sc_l_sizes_alike : FnScope N_l_sizes_alike ["_law_hand", "_law_first", "_law_second", "_law_start", "_law_goal", "_law_moved"] (defScope s_l_sizes_alike) := ⟨rfl, rfl, rfl, by decide +kernel, rfl, by decide +kernel, by decide +kernel⟩
abbrev s_l_ahead_right : Stmt := top 61
abbrev N_l_ahead_right : List Str := ["_law_hand", "_law_first", "_law_second", "_law_start", "_law_told", "_law_moved", "_law_point", "_law_near"]
theorem sc_l_ahead_right : FnScope N_l_ahead_right ["_law_hand", "_law_first", "_law_second", "_law_start", "_law_told", "_law_moved"] (defScope s_l_ahead_right) := ⟨rfl, rfl, rfl, by decide +kernel, rfl, by decide +kernel, by decide +kernel⟩
abbrev s_l_right : Stmt := top 62
abbrev N_l_right : List Str := ["_law_hand", "_law_first", "_law_second", "_law_ends", "_law_moved", "_law_start", "_law_goal", "_law_told", "_law_back", "_law_near", "_law_further"]
theorem sc_l_right : FnScope N_l_right ["_law_hand", "_law_first", "_law_second", "_law_ends", "_law_moved"] (defScope s_l_right) := ⟨rfl, rfl, rfl, by decide +kernel, rfl, by decide +kernel, by decide +kernel⟩
abbrev s_law : Stmt := top 63
abbrev N_law : List Str := ["_law_script", "_law_k", "_law_hand", "_law_grain_here", "_law_here", "_law_there", "_law_moved", "_law_span_here", "_law_ends"]
theorem sc_law : FnScope N_law ["_law_script"] (defScope s_law) := ⟨rfl, rfl, rfl, by decide +kernel, rfl, by decide +kernel, by decide +kernel⟩
abbrev s_M_init : Stmt := inClass (top 13) 0
abbrev N_M_init : List Str := ["self", "top", "bottom", "part"]
theorem sc_M_init : FnScope N_M_init ["self", "top", "bottom"] (defScope s_M_init) := ⟨rfl, rfl, rfl, by decide +kernel, rfl, by decide +kernel, by decide +kernel⟩
abbrev s_M_eq : Stmt := inClass (top 13) 1
abbrev N_M_eq : List Str := ["self", "other"]
theorem sc_M_eq : FnScope N_M_eq ["self", "other"] (defScope s_M_eq) := ⟨rfl, rfl, rfl, by decide +kernel, rfl, by decide +kernel, by decide +kernel⟩
abbrev s_M_plus : Stmt := inClass (top 13) 4
abbrev N_M_plus : List Str := ["self", "other"]
theorem sc_M_plus : FnScope N_M_plus ["self", "other"] (defScope s_M_plus) := ⟨rfl, rfl, rfl, by decide +kernel, rfl, by decide +kernel, by decide +kernel⟩
abbrev s_M_minus : Stmt := inClass (top 13) 5
abbrev N_M_minus : List Str := ["self", "other"]
theorem sc_M_minus : FnScope N_M_minus ["self", "other"] (defScope s_M_minus) := ⟨rfl, rfl, rfl, by decide +kernel, rfl, by decide +kernel, by decide +kernel⟩
abbrev s_M_times : Stmt := inClass (top 13) 6
abbrev N_M_times : List Str := ["self", "other"]
theorem sc_M_times : FnScope N_M_times ["self", "other"] (defScope s_M_times) := ⟨rfl, rfl, rfl, by decide +kernel, rfl, by decide +kernel, by decide +kernel⟩
abbrev s_M_parted : Stmt := inClass (top 13) 7
abbrev N_M_parted : List Str := ["self", "many"]
theorem sc_M_parted : FnScope N_M_parted ["self", "many"] (defScope s_M_parted) := ⟨rfl, rfl, rfl, by decide +kernel, rfl, by decide +kernel, by decide +kernel⟩
abbrev s_M_is_below : Stmt := inClass (top 13) 8
abbrev N_M_is_below : List Str := ["self", "other", "alike", "here", "there"]
theorem sc_M_is_below : FnScope N_M_is_below ["self", "other", "alike"] (defScope s_M_is_below) := ⟨rfl, rfl, rfl, by decide +kernel, rfl, by decide +kernel, by decide +kernel⟩
abbrev s_S_init : Stmt := inClass (top 25) 0
abbrev N_S_init : List Str := ["self", "low", "high", "low_in", "high_in"]
theorem sc_S_init : FnScope N_S_init ["self", "low", "high", "low_in", "high_in"] (defScope s_S_init) := ⟨rfl, rfl, rfl, by decide +kernel, rfl, by decide +kernel, by decide +kernel⟩
abbrev s_S_cut : Stmt := inClass (top 25) 7
abbrev N_S_cut : List Str := ["self", "other", "low", "low_in", "high", "high_in"]
theorem sc_S_cut : FnScope N_S_cut ["self", "other"] (defScope s_S_cut) := ⟨rfl, rfl, rfl, by decide +kernel, rfl, by decide +kernel, by decide +kernel⟩
abbrev s_L_init : Stmt := inClass (top 42) 0
abbrev N_L_init : List Str := ["self", "marks", "rule", "least", "most", "row"]
theorem sc_L_init : FnScope N_L_init ["self", "marks", "rule", "least", "most"] (defScope s_L_init) := ⟨rfl, rfl, rfl, by decide +kernel, rfl, by decide +kernel, by decide +kernel⟩
abbrev s_L_lets_in : Stmt := inClass (top 42) 1
abbrev N_L_lets_in : List Str := ["self", "measure"]
theorem sc_L_lets_in : FnScope N_L_lets_in ["self", "measure"] (defScope s_L_lets_in) := ⟨rfl, rfl, rfl, by decide +kernel, rfl, by decide +kernel, by decide +kernel⟩
abbrev s_L_size : Stmt := inClass (top 42) 2
abbrev N_L_size : List Str := ["self", "measure", "chosen"]
theorem sc_L_size : FnScope N_L_size ["self", "measure"] (defScope s_L_size) := ⟨rfl, rfl, rfl, by decide +kernel, rfl, by decide +kernel, by decide +kernel⟩
abbrev s_L_check_size : Stmt := inClass (top 42) 3
abbrev N_L_check_size : List Str := ["self", "number"]
theorem sc_L_check_size : FnScope N_L_check_size ["self", "number"] (defScope s_L_check_size) := ⟨rfl, rfl, rfl, by decide +kernel, rfl, by decide +kernel, by decide +kernel⟩
abbrev s_L_stretch : Stmt := inClass (top 42) 4
abbrev N_L_stretch : List Str := ["self", "number", "chosen"]
theorem sc_L_stretch : FnScope N_L_stretch ["self", "number"] (defScope s_L_stretch) := ⟨rfl, rfl, rfl, by decide +kernel, rfl, by decide +kernel, by decide +kernel⟩
abbrev s_L_len : Stmt := inClass (top 42) 5
abbrev N_L_len : List Str := ["self"]
theorem sc_L_len : FnScope N_L_len ["self"] (defScope s_L_len) := ⟨rfl, rfl, rfl, by decide +kernel, rfl, by decide +kernel, by decide +kernel⟩
/-! what the head tells -/
def d_is_whole : He.DefD := ⟨("is_whole", none), "is_whole", "is_whole", defArgs s_is_whole, defBody s_is_whole, defScope s_is_whole, [], []⟩
def d_common_part : He.DefD := ⟨("common_part", none), "common_part", "common_part", defArgs s_common_part, defBody s_common_part, defScope s_common_part, [], []⟩
def d_midst : He.DefD := ⟨("midst", none), "midst", "midst", defArgs s_midst, defBody s_midst, defScope s_midst, [], []⟩
def d_put_among : He.DefD := ⟨("put_among", none), "put_among", "put_among", defArgs s_put_among, defBody s_put_among, defScope s_put_among, [], []⟩
def d_ends_of : He.DefD := ⟨("ends_of", none), "ends_of", "ends_of", defArgs s_ends_of, defBody s_ends_of, defScope s_ends_of, [], []⟩
def d_points_of : He.DefD := ⟨("points_of", none), "points_of", "points_of", defArgs s_points_of, defBody s_points_of, defScope s_points_of, [], []⟩
def d_are_alike : He.DefD := ⟨("are_alike", none), "are_alike", "are_alike", defArgs s_are_alike, defBody s_are_alike, defScope s_are_alike, [], []⟩
def d_parting : He.DefD := ⟨("parting", none), "parting", "parting", defArgs s_parting, defBody s_parting, defScope s_parting, [.int 0], []⟩
def d_is_end : He.DefD := ⟨("is_end", none), "is_end", "is_end", defArgs s_is_end, defBody s_is_end, defScope s_is_end, [], []⟩
def d_is_some : He.DefD := ⟨("is_some", none), "is_some", "is_some", defArgs s_is_some, defBody s_is_some, defScope s_is_some, [], []⟩
def d_later_begin : He.DefD := ⟨("later_begin", none), "later_begin", "later_begin", defArgs s_later_begin, defBody s_later_begin, defScope s_later_begin, [], []⟩
def d_earlier_end : He.DefD := ⟨("earlier_end", none), "earlier_end", "earlier_end", defArgs s_earlier_end, defBody s_earlier_end, defScope s_earlier_end, [], []⟩
def d_is_measure_or_none : He.DefD := ⟨("is_measure_or_none", none), "is_measure_or_none", "is_measure_or_none", defArgs s_is_measure_or_none, defBody s_is_measure_or_none, defScope s_is_measure_or_none, [], []⟩
def d_are_measures : He.DefD := ⟨("are_measures", none), "are_measures", "are_measures", defArgs s_are_measures, defBody s_are_measures, defScope s_are_measures, [], []⟩
def d_first_slip : He.DefD := ⟨("first_slip", none), "first_slip", "first_slip", defArgs s_first_slip, defBody s_first_slip, defScope s_first_slip, [], []⟩
def d_up_size : He.DefD := ⟨("up_size", none), "up_size", "up_size", defArgs s_up_size, defBody s_up_size, defScope s_up_size, [], []⟩
def d_down_size : He.DefD := ⟨("down_size", none), "down_size", "down_size", defArgs s_down_size, defBody s_down_size, defScope s_down_size, [], []⟩
def d_near_size : He.DefD := ⟨("near_size", none), "near_size", "near_size", defArgs s_near_size, defBody s_near_size, defScope s_near_size, [], []⟩
def d_up_stretch : He.DefD := ⟨("up_stretch", none), "up_stretch", "up_stretch", defArgs s_up_stretch, defBody s_up_stretch, defScope s_up_stretch, [], []⟩
def d_down_stretch : He.DefD := ⟨("down_stretch", none), "down_stretch", "down_stretch", defArgs s_down_stretch, defBody s_down_stretch, defScope s_down_stretch, [], []⟩
def d_near_stretch : He.DefD := ⟨("near_stretch", none), "near_stretch", "near_stretch", defArgs s_near_stretch, defBody s_near_stretch, defScope s_near_stretch, [], []⟩
def d_is_rule : He.DefD := ⟨("is_rule", none), "is_rule", "is_rule", defArgs s_is_rule, defBody s_is_rule, defScope s_is_rule, [], []⟩
def d_is_size : He.DefD := ⟨("is_size", none), "is_size", "is_size", defArgs s_is_size, defBody s_is_size, defScope s_is_size, [], []⟩
def d_shows_parting : He.DefD := ⟨("shows_parting", none), "shows_parting", "shows_parting", defArgs s_shows_parting, defBody s_shows_parting, defScope s_shows_parting, [], []⟩
def d_l_hand_at : He.DefD := ⟨("_law_hand_at", none), "_law_hand_at", "_law_hand_at", defArgs s_l_hand_at, defBody s_l_hand_at, defScope s_l_hand_at, [], []⟩
def d_l_take : He.DefD := ⟨("_law_take", none), "_law_take", "_law_take", defArgs s_l_take, defBody s_l_take, defScope s_l_take, [], []⟩
def d_l_pick : He.DefD := ⟨("_law_pick", none), "_law_pick", "_law_pick", defArgs s_l_pick, defBody s_l_pick, defScope s_l_pick, [], []⟩
def d_l_grain : He.DefD := ⟨("_law_grain", none), "_law_grain", "_law_grain", defArgs s_l_grain, defBody s_l_grain, defScope s_l_grain, [], []⟩
def d_l_drawn_marks : He.DefD := ⟨("_law_drawn_marks", none), "_law_drawn_marks", "_law_drawn_marks", defArgs s_l_drawn_marks, defBody s_l_drawn_marks, defScope s_l_drawn_marks, [], []⟩
def d_l_drawn_ladder : He.DefD := ⟨("_law_drawn_ladder", none), "_law_drawn_ladder", "_law_drawn_ladder", defArgs s_l_drawn_ladder, defBody s_l_drawn_ladder, defScope s_l_drawn_ladder, [], []⟩
def d_l_measure : He.DefD := ⟨("_law_measure", none), "_law_measure", "_law_measure", defArgs s_l_measure, defBody s_l_measure, defScope s_l_measure, [], []⟩
def d_l_made : He.DefD := ⟨("_law_made", none), "_law_made", "_law_made", defArgs s_l_made, defBody s_l_made, defScope s_l_made, [], []⟩
def d_l_points : He.DefD := ⟨("_law_points", none), "_law_points", "_law_points", defArgs s_l_points, defBody s_l_points, defScope s_l_points, [], []⟩
def d_l_two_ladder : He.DefD := ⟨("_law_two_ladder", none), "_law_two_ladder", "_law_two_ladder", defArgs s_l_two_ladder, defBody s_l_two_ladder, defScope s_l_two_ladder, [], []⟩
def d_l_alike : He.DefD := ⟨("_law_alike", none), "_law_alike", "_law_alike", defArgs s_l_alike, defBody s_l_alike, defScope s_l_alike, [], []⟩
def d_l_span : He.DefD := ⟨("_law_span", none), "_law_span", "_law_span", defArgs s_l_span, defBody s_l_span, defScope s_l_span, [], []⟩
def d_l_between : He.DefD := ⟨("_law_between", none), "_law_between", "_law_between", defArgs s_l_between, defBody s_l_between, defScope s_l_between, [], []⟩
def d_l_sizes_alike : He.DefD := ⟨("_law_sizes_alike", none), "_law_sizes_alike", "_law_sizes_alike", defArgs s_l_sizes_alike, defBody s_l_sizes_alike, defScope s_l_sizes_alike, [], []⟩
def d_l_ahead_right : He.DefD := ⟨("_law_ahead_right", none), "_law_ahead_right", "_law_ahead_right", defArgs s_l_ahead_right, defBody s_l_ahead_right, defScope s_l_ahead_right, [], []⟩
def d_l_right : He.DefD := ⟨("_law_right", none), "_law_right", "_law_right", defArgs s_l_right, defBody s_l_right, defScope s_l_right, [], []⟩
def d_law : He.DefD := ⟨("law", none), "law", "law", defArgs s_law, defBody s_law, defScope s_law, [], []⟩
def d_M_init : He.DefD := ⟨("Measure", some "__init__"), "__init__", "Measure.__init__", defArgs s_M_init, defBody s_M_init, defScope s_M_init, [.int 1], []⟩
def d_M_eq : He.DefD := ⟨("Measure", some "__eq__"), "__eq__", "Measure.__eq__", defArgs s_M_eq, defBody s_M_eq, defScope s_M_eq, [], []⟩
def d_M_plus : He.DefD := ⟨("Measure", some "plus"), "plus", "Measure.plus", defArgs s_M_plus, defBody s_M_plus, defScope s_M_plus, [], []⟩
def d_M_minus : He.DefD := ⟨("Measure", some "minus"), "minus", "Measure.minus", defArgs s_M_minus, defBody s_M_minus, defScope s_M_minus, [], []⟩
def d_M_times : He.DefD := ⟨("Measure", some "times"), "times", "Measure.times", defArgs s_M_times, defBody s_M_times, defScope s_M_times, [], []⟩
def d_M_parted : He.DefD := ⟨("Measure", some "parted"), "parted", "Measure.parted", defArgs s_M_parted, defBody s_M_parted, defScope s_M_parted, [.int 2], []⟩
def d_M_is_below : He.DefD := ⟨("Measure", some "is_below"), "is_below", "Measure.is_below", defArgs s_M_is_below, defBody s_M_is_below, defScope s_M_is_below, [.bl false], []⟩
def d_S_init : He.DefD := ⟨("Stretch", some "__init__"), "__init__", "Stretch.__init__", defArgs s_S_init, defBody s_S_init, defScope s_S_init, [.bl false, .bl true], []⟩
def d_S_cut : He.DefD := ⟨("Stretch", some "cut"), "cut", "Stretch.cut", defArgs s_S_cut, defBody s_S_cut, defScope s_S_cut, [], []⟩
def d_L_init : He.DefD := ⟨("Ladder", some "__init__"), "__init__", "Ladder.__init__", defArgs s_L_init, defBody s_L_init, defScope s_L_init, [.str "up", .non, .non], []⟩
def d_L_lets_in : He.DefD := ⟨("Ladder", some "lets_in"), "lets_in", "Ladder.lets_in", defArgs s_L_lets_in, defBody s_L_lets_in, defScope s_L_lets_in, [], []⟩
def d_L_size : He.DefD := ⟨("Ladder", some "size"), "size", "Ladder.size", defArgs s_L_size, defBody s_L_size, defScope s_L_size, [], []⟩
def d_L_check_size : He.DefD := ⟨("Ladder", some "check_size"), "check_size", "Ladder.check_size", defArgs s_L_check_size, defBody s_L_check_size, defScope s_L_check_size, [], []⟩
def d_L_stretch : He.DefD := ⟨("Ladder", some "stretch"), "stretch", "Ladder.stretch", defArgs s_L_stretch, defBody s_L_stretch, defScope s_L_stretch, [], []⟩
def d_L_len : He.DefD := ⟨("Ladder", some "__len__"), "__len__", "Ladder.__len__", defArgs s_L_len, defBody s_L_len, defScope s_L_len, [], []⟩
def fns : List He.DefD := [d_is_whole, d_common_part, d_midst, d_put_among, d_ends_of, d_points_of, d_are_alike, d_parting, d_is_end, d_is_some, d_later_begin, d_earlier_end, d_is_measure_or_none, d_are_measures, d_first_slip, d_up_size, d_down_size, d_near_size, d_up_stretch, d_down_stretch, d_near_stretch, d_is_rule, d_is_size, d_shows_parting, d_l_hand_at, d_l_take, d_l_pick, d_l_grain, d_l_drawn_marks, d_l_drawn_ladder, d_l_measure, d_l_made, d_l_points, d_l_two_ladder, d_l_alike, d_l_span, d_l_between, d_l_sizes_alike, d_l_ahead_right, d_l_right, d_law, d_M_init, d_M_eq, d_M_plus, d_M_minus, d_M_times, d_M_parted, d_M_is_below, d_S_init, d_S_cut, d_L_init, d_L_lets_in, d_L_size, d_L_check_size, d_L_stretch, d_L_len]
def facts : List He.Fa := [.free "isinstance", .free "int", .free "bool", .free "abs", .free "len", .free "range", .free "enumerate", .free "all", .free "tuple", .free "str", .free "zip", .free "min", .free "max", .glo "is_whole", .glo "common_part", .glo "midst", .glo "put_among", .glo "ends_of", .glo "points_of", .glo "are_alike", .glo "parting", .glo "is_end", .glo "is_some", .glo "later_begin", .glo "earlier_end", .glo "is_measure_or_none", .glo "are_measures", .glo "first_slip", .glo "up_size", .glo "down_size", .glo "near_size", .glo "up_stretch", .glo "down_stretch", .glo "near_stretch", .glo "is_rule", .glo "is_size", .glo "shows_parting", .glo "_law_hand_at", .glo "_law_take", .glo "_law_pick", .glo "_law_grain", .glo "_law_drawn_marks", .glo "_law_drawn_ladder", .glo "_law_measure", .glo "_law_made", .glo "_law_points", .glo "_law_two_ladder", .glo "_law_alike", .glo "_law_span", .glo "_law_between", .glo "_law_sizes_alike", .glo "_law_ahead_right", .glo "_law_right", .glo "law", .glo "Measure", .glo "Stretch", .glo "Ladder", .glo "SIZES", .glo "STRETCHES", .int "MOST_MARKS" 24, .cls "Measure", .cls "Stretch", .cls "Ladder", .mkr "Measure", .mkr "Stretch", .mkr "Ladder", .noat "Measure" "top", .noat "Measure" "bottom", .noat "Stretch" "low", .noat "Stretch" "high", .noat "Stretch" "low_in", .noat "Stretch" "high_in", .noat "Ladder" "marks", .noat "Ladder" "rule", .noat "Ladder" "least", .noat "Ladder" "most", .meth "Measure" "__eq__", .meth "Measure" "plus", .meth "Measure" "minus", .meth "Measure" "times", .meth "Measure" "parted", .meth "Measure" "is_below", .meth "Stretch" "cut", .meth "Ladder" "lets_in", .meth "Ladder" "size", .meth "Ladder" "check_size", .meth "Ladder" "stretch", .meth "Ladder" "__len__"]
def tabs : List He.Tab := [(fun K => He.ga K "SIZES", ["up", "down", "near"]), (fun K => He.ga K "STRETCHES", ["up", "down", "near"])]
/-- more of the classes and the two tables -/
def more (K : PySem.W.Frag) : Bool :=
  He.valsB K (He.ga K "SIZES") [("up", .glo "up_size"), ("down", .glo "down_size"), ("near", .glo "near_size")] &&
  (He.valsB K (He.ga K "STRETCHES") [("up", .glo "up_stretch"), ("down", .glo "down_stretch"), ("near", .glo "near_stretch")] &&
  (He.eqO (PySem.W.findIn K (.ref (He.ga K "Measure")) "__class__") (some (some (.builtin "object.__class__"))) &&
  (He.eqO (PySem.W.specialIn K (.builtin "object.__class__") "__get__") (some (some (.builtin "getset_descriptor.__get__"))) &&
  (decide (PySem.W.takesIn K (.builtin "object.__class__") = some true) &&
  (decide (PySem.W.mroIn K (He.ga K "Measure") (.type "object") = some true) &&
  (decide (PySem.W.kitOne K (.ref (He.ga K "Measure")) (.ref (He.ga K "Measure")) = some true) &&
  He.eqO (PySem.W.findIn K (.ref (He.ga K "Measure")) "__ne__") (some (some (.builtin "object.__ne__")))))))))
/-- what is known of the text as the top has left it -/
structure Txt (K : PySem.W.Frag) (mg : Str → Option Value) (w : World) : Prop where
  ex : ∃ h : Heap, K.In h ∧ h.Ns mainGlobals mg ∧ He.SaysX facts fns tabs [] more w h K
section
variable {K : PySem.W.Frag} {mg : Str → Option Value} {w : World} (T : Txt K mg w)
include T
theorem Txt.D (i : Nat) {d : He.DefD} (h : fns[i]? = some d := by rfl) : ∃ fd, FunD K d.name d.qual d.params d.body d.scope (d.dvs K) (d.kws K) (He.fAd K d.at_) fd :=
  let ⟨_, _, _, S⟩ := T.ex
  S.t.d.def_ i h
theorem Txt.more' : more K = true :=
  let ⟨_, _, _, S⟩ := T.ex
  S.more
theorem Txt.tab (i : Nat) {t : He.Tab} (h : tabs[i]? = some t := by rfl) : ∃ es n, KDict K w (t.1 K) es n :=
  let ⟨_, _, _, S⟩ := T.ex
  S.t.tab i h
theorem Txt.free_isinstance : mg "isinstance" = none :=
  let ⟨_, X, G, S⟩ := T.ex
  He.free_ok X G (S.t.d.fact 0)
theorem Txt.free_int : mg "int" = none :=
  let ⟨_, X, G, S⟩ := T.ex
  He.free_ok X G (S.t.d.fact 1)
theorem Txt.free_bool : mg "bool" = none :=
  let ⟨_, X, G, S⟩ := T.ex
  He.free_ok X G (S.t.d.fact 2)
theorem Txt.free_abs : mg "abs" = none :=
  let ⟨_, X, G, S⟩ := T.ex
  He.free_ok X G (S.t.d.fact 3)
theorem Txt.free_len : mg "len" = none :=
  let ⟨_, X, G, S⟩ := T.ex
  He.free_ok X G (S.t.d.fact 4)
theorem Txt.free_range : mg "range" = none :=
  let ⟨_, X, G, S⟩ := T.ex
  He.free_ok X G (S.t.d.fact 5)
theorem Txt.free_enumerate : mg "enumerate" = none :=
  let ⟨_, X, G, S⟩ := T.ex
  He.free_ok X G (S.t.d.fact 6)
theorem Txt.free_all : mg "all" = none :=
  let ⟨_, X, G, S⟩ := T.ex
  He.free_ok X G (S.t.d.fact 7)
theorem Txt.free_tuple : mg "tuple" = none :=
  let ⟨_, X, G, S⟩ := T.ex
  He.free_ok X G (S.t.d.fact 8)
theorem Txt.free_str : mg "str" = none :=
  let ⟨_, X, G, S⟩ := T.ex
  He.free_ok X G (S.t.d.fact 9)
theorem Txt.free_zip : mg "zip" = none :=
  let ⟨_, X, G, S⟩ := T.ex
  He.free_ok X G (S.t.d.fact 10)
theorem Txt.free_min : mg "min" = none :=
  let ⟨_, X, G, S⟩ := T.ex
  He.free_ok X G (S.t.d.fact 11)
theorem Txt.free_max : mg "max" = none :=
  let ⟨_, X, G, S⟩ := T.ex
  He.free_ok X G (S.t.d.fact 12)
theorem Txt.glo_is_whole : mg "is_whole" = some (.ref (He.ga K "is_whole")) :=
  let ⟨_, X, G, S⟩ := T.ex
  He.glo_ok X G (S.t.d.fact 13)
theorem Txt.glo_common_part : mg "common_part" = some (.ref (He.ga K "common_part")) :=
  let ⟨_, X, G, S⟩ := T.ex
  He.glo_ok X G (S.t.d.fact 14)
theorem Txt.glo_midst : mg "midst" = some (.ref (He.ga K "midst")) :=
  let ⟨_, X, G, S⟩ := T.ex
  He.glo_ok X G (S.t.d.fact 15)
theorem Txt.glo_put_among : mg "put_among" = some (.ref (He.ga K "put_among")) :=
  let ⟨_, X, G, S⟩ := T.ex
  He.glo_ok X G (S.t.d.fact 16)
theorem Txt.glo_ends_of : mg "ends_of" = some (.ref (He.ga K "ends_of")) :=
  let ⟨_, X, G, S⟩ := T.ex
  He.glo_ok X G (S.t.d.fact 17)
theorem Txt.glo_points_of : mg "points_of" = some (.ref (He.ga K "points_of")) :=
  let ⟨_, X, G, S⟩ := T.ex
  He.glo_ok X G (S.t.d.fact 18)
theorem Txt.glo_are_alike : mg "are_alike" = some (.ref (He.ga K "are_alike")) :=
  let ⟨_, X, G, S⟩ := T.ex
  He.glo_ok X G (S.t.d.fact 19)
theorem Txt.glo_parting : mg "parting" = some (.ref (He.ga K "parting")) :=
  let ⟨_, X, G, S⟩ := T.ex
  He.glo_ok X G (S.t.d.fact 20)
theorem Txt.glo_is_end : mg "is_end" = some (.ref (He.ga K "is_end")) :=
  let ⟨_, X, G, S⟩ := T.ex
  He.glo_ok X G (S.t.d.fact 21)
theorem Txt.glo_is_some : mg "is_some" = some (.ref (He.ga K "is_some")) :=
  let ⟨_, X, G, S⟩ := T.ex
  He.glo_ok X G (S.t.d.fact 22)
theorem Txt.glo_later_begin : mg "later_begin" = some (.ref (He.ga K "later_begin")) :=
  let ⟨_, X, G, S⟩ := T.ex
  He.glo_ok X G (S.t.d.fact 23)
theorem Txt.glo_earlier_end : mg "earlier_end" = some (.ref (He.ga K "earlier_end")) :=
  let ⟨_, X, G, S⟩ := T.ex
  He.glo_ok X G (S.t.d.fact 24)
theorem Txt.glo_is_measure_or_none : mg "is_measure_or_none" = some (.ref (He.ga K "is_measure_or_none")) :=
  let ⟨_, X, G, S⟩ := T.ex
  He.glo_ok X G (S.t.d.fact 25)
theorem Txt.glo_are_measures : mg "are_measures" = some (.ref (He.ga K "are_measures")) :=
  let ⟨_, X, G, S⟩ := T.ex
  He.glo_ok X G (S.t.d.fact 26)
theorem Txt.glo_first_slip : mg "first_slip" = some (.ref (He.ga K "first_slip")) :=
  let ⟨_, X, G, S⟩ := T.ex
  He.glo_ok X G (S.t.d.fact 27)
theorem Txt.glo_up_size : mg "up_size" = some (.ref (He.ga K "up_size")) :=
  let ⟨_, X, G, S⟩ := T.ex
  He.glo_ok X G (S.t.d.fact 28)
theorem Txt.glo_down_size : mg "down_size" = some (.ref (He.ga K "down_size")) :=
  let ⟨_, X, G, S⟩ := T.ex
  He.glo_ok X G (S.t.d.fact 29)
theorem Txt.glo_near_size : mg "near_size" = some (.ref (He.ga K "near_size")) :=
  let ⟨_, X, G, S⟩ := T.ex
  He.glo_ok X G (S.t.d.fact 30)
theorem Txt.glo_up_stretch : mg "up_stretch" = some (.ref (He.ga K "up_stretch")) :=
  let ⟨_, X, G, S⟩ := T.ex
  He.glo_ok X G (S.t.d.fact 31)
theorem Txt.glo_down_stretch : mg "down_stretch" = some (.ref (He.ga K "down_stretch")) :=
  let ⟨_, X, G, S⟩ := T.ex
  He.glo_ok X G (S.t.d.fact 32)
theorem Txt.glo_near_stretch : mg "near_stretch" = some (.ref (He.ga K "near_stretch")) :=
  let ⟨_, X, G, S⟩ := T.ex
  He.glo_ok X G (S.t.d.fact 33)
theorem Txt.glo_is_rule : mg "is_rule" = some (.ref (He.ga K "is_rule")) :=
  let ⟨_, X, G, S⟩ := T.ex
  He.glo_ok X G (S.t.d.fact 34)
theorem Txt.glo_is_size : mg "is_size" = some (.ref (He.ga K "is_size")) :=
  let ⟨_, X, G, S⟩ := T.ex
  He.glo_ok X G (S.t.d.fact 35)
theorem Txt.glo_shows_parting : mg "shows_parting" = some (.ref (He.ga K "shows_parting")) :=
  let ⟨_, X, G, S⟩ := T.ex
  He.glo_ok X G (S.t.d.fact 36)
theorem Txt.glo_l_hand_at : mg "_law_hand_at" = some (.ref (He.ga K "_law_hand_at")) :=
  let ⟨_, X, G, S⟩ := T.ex
  He.glo_ok X G (S.t.d.fact 37)
theorem Txt.glo_l_take : mg "_law_take" = some (.ref (He.ga K "_law_take")) :=
  let ⟨_, X, G, S⟩ := T.ex
  He.glo_ok X G (S.t.d.fact 38)
theorem Txt.glo_l_pick : mg "_law_pick" = some (.ref (He.ga K "_law_pick")) :=
  let ⟨_, X, G, S⟩ := T.ex
  He.glo_ok X G (S.t.d.fact 39)
theorem Txt.glo_l_grain : mg "_law_grain" = some (.ref (He.ga K "_law_grain")) :=
  let ⟨_, X, G, S⟩ := T.ex
  He.glo_ok X G (S.t.d.fact 40)
theorem Txt.glo_l_drawn_marks : mg "_law_drawn_marks" = some (.ref (He.ga K "_law_drawn_marks")) :=
  let ⟨_, X, G, S⟩ := T.ex
  He.glo_ok X G (S.t.d.fact 41)
theorem Txt.glo_l_drawn_ladder : mg "_law_drawn_ladder" = some (.ref (He.ga K "_law_drawn_ladder")) :=
  let ⟨_, X, G, S⟩ := T.ex
  He.glo_ok X G (S.t.d.fact 42)
theorem Txt.glo_l_measure : mg "_law_measure" = some (.ref (He.ga K "_law_measure")) :=
  let ⟨_, X, G, S⟩ := T.ex
  He.glo_ok X G (S.t.d.fact 43)
theorem Txt.glo_l_made : mg "_law_made" = some (.ref (He.ga K "_law_made")) :=
  let ⟨_, X, G, S⟩ := T.ex
  He.glo_ok X G (S.t.d.fact 44)
theorem Txt.glo_l_points : mg "_law_points" = some (.ref (He.ga K "_law_points")) :=
  let ⟨_, X, G, S⟩ := T.ex
  He.glo_ok X G (S.t.d.fact 45)
theorem Txt.glo_l_two_ladder : mg "_law_two_ladder" = some (.ref (He.ga K "_law_two_ladder")) :=
  let ⟨_, X, G, S⟩ := T.ex
  He.glo_ok X G (S.t.d.fact 46)
theorem Txt.glo_l_alike : mg "_law_alike" = some (.ref (He.ga K "_law_alike")) :=
  let ⟨_, X, G, S⟩ := T.ex
  He.glo_ok X G (S.t.d.fact 47)
theorem Txt.glo_l_span : mg "_law_span" = some (.ref (He.ga K "_law_span")) :=
  let ⟨_, X, G, S⟩ := T.ex
  He.glo_ok X G (S.t.d.fact 48)
theorem Txt.glo_l_between : mg "_law_between" = some (.ref (He.ga K "_law_between")) :=
  let ⟨_, X, G, S⟩ := T.ex
  He.glo_ok X G (S.t.d.fact 49)
theorem Txt.glo_l_sizes_alike : mg "_law_sizes_alike" = some (.ref (He.ga K "_law_sizes_alike")) :=
  let ⟨_, X, G, S⟩ := T.ex
  He.glo_ok X G (S.t.d.fact 50)
theorem Txt.glo_l_ahead_right : mg "_law_ahead_right" = some (.ref (He.ga K "_law_ahead_right")) :=
  let ⟨_, X, G, S⟩ := T.ex
  He.glo_ok X G (S.t.d.fact 51)
theorem Txt.glo_l_right : mg "_law_right" = some (.ref (He.ga K "_law_right")) :=
  let ⟨_, X, G, S⟩ := T.ex
  He.glo_ok X G (S.t.d.fact 52)
theorem Txt.glo_law : mg "law" = some (.ref (He.ga K "law")) :=
  let ⟨_, X, G, S⟩ := T.ex
  He.glo_ok X G (S.t.d.fact 53)
theorem Txt.glo_Measure : mg "Measure" = some (.ref (He.ga K "Measure")) :=
  let ⟨_, X, G, S⟩ := T.ex
  He.glo_ok X G (S.t.d.fact 54)
theorem Txt.glo_Stretch : mg "Stretch" = some (.ref (He.ga K "Stretch")) :=
  let ⟨_, X, G, S⟩ := T.ex
  He.glo_ok X G (S.t.d.fact 55)
theorem Txt.glo_Ladder : mg "Ladder" = some (.ref (He.ga K "Ladder")) :=
  let ⟨_, X, G, S⟩ := T.ex
  He.glo_ok X G (S.t.d.fact 56)
theorem Txt.glo_SIZES : mg "SIZES" = some (.ref (He.ga K "SIZES")) :=
  let ⟨_, X, G, S⟩ := T.ex
  He.glo_ok X G (S.t.d.fact 57)
theorem Txt.glo_STRETCHES : mg "STRETCHES" = some (.ref (He.ga K "STRETCHES")) :=
  let ⟨_, X, G, S⟩ := T.ex
  He.glo_ok X G (S.t.d.fact 58)
theorem Txt.int_MOST_MARKS : ∃ t, mg "MOST_MARKS" = some (.int 24 t) :=
  let ⟨_, X, G, S⟩ := T.ex
  He.int_ok X G (S.t.d.fact 59)
theorem Txt.cls_Measure : Cls K (He.ga K "Measure") :=
  let ⟨_, X, G, S⟩ := T.ex
  He.cls_ok (S.t.d.fact 60)
theorem Txt.cls_Stretch : Cls K (He.ga K "Stretch") :=
  let ⟨_, X, G, S⟩ := T.ex
  He.cls_ok (S.t.d.fact 61)
theorem Txt.cls_Ladder : Cls K (He.ga K "Ladder") :=
  let ⟨_, X, G, S⟩ := T.ex
  He.cls_ok (S.t.d.fact 62)
theorem Txt.mkr_Measure : Mk K (He.ga K "Measure") (He.ma K (He.ga K "Measure") "__init__") :=
  let ⟨_, X, G, S⟩ := T.ex
  He.mkr_ok (S.t.d.fact 63)
theorem Txt.mkr_Stretch : Mk K (He.ga K "Stretch") (He.ma K (He.ga K "Stretch") "__init__") :=
  let ⟨_, X, G, S⟩ := T.ex
  He.mkr_ok (S.t.d.fact 64)
theorem Txt.mkr_Ladder : Mk K (He.ga K "Ladder") (He.ma K (He.ga K "Ladder") "__init__") :=
  let ⟨_, X, G, S⟩ := T.ex
  He.mkr_ok (S.t.d.fact 65)
theorem Txt.noat_Measure_top : NoAttr K (He.ga K "Measure") "top" :=
  let ⟨_, X, G, S⟩ := T.ex
  He.noat_ok (S.t.d.fact 66)
theorem Txt.noat_Measure_bottom : NoAttr K (He.ga K "Measure") "bottom" :=
  let ⟨_, X, G, S⟩ := T.ex
  He.noat_ok (S.t.d.fact 67)
theorem Txt.noat_Stretch_low : NoAttr K (He.ga K "Stretch") "low" :=
  let ⟨_, X, G, S⟩ := T.ex
  He.noat_ok (S.t.d.fact 68)
theorem Txt.noat_Stretch_high : NoAttr K (He.ga K "Stretch") "high" :=
  let ⟨_, X, G, S⟩ := T.ex
  He.noat_ok (S.t.d.fact 69)
theorem Txt.noat_Stretch_low_in : NoAttr K (He.ga K "Stretch") "low_in" :=
  let ⟨_, X, G, S⟩ := T.ex
  He.noat_ok (S.t.d.fact 70)
theorem Txt.noat_Stretch_high_in : NoAttr K (He.ga K "Stretch") "high_in" :=
  let ⟨_, X, G, S⟩ := T.ex
  He.noat_ok (S.t.d.fact 71)
theorem Txt.noat_Ladder_marks : NoAttr K (He.ga K "Ladder") "marks" :=
  let ⟨_, X, G, S⟩ := T.ex
  He.noat_ok (S.t.d.fact 72)
theorem Txt.noat_Ladder_rule : NoAttr K (He.ga K "Ladder") "rule" :=
  let ⟨_, X, G, S⟩ := T.ex
  He.noat_ok (S.t.d.fact 73)
theorem Txt.noat_Ladder_least : NoAttr K (He.ga K "Ladder") "least" :=
  let ⟨_, X, G, S⟩ := T.ex
  He.noat_ok (S.t.d.fact 74)
theorem Txt.noat_Ladder_most : NoAttr K (He.ga K "Ladder") "most" :=
  let ⟨_, X, G, S⟩ := T.ex
  He.noat_ok (S.t.d.fact 75)
theorem Txt.meth_Measure_eq : Meth K (He.ga K "Measure") "__eq__" (He.ma K (He.ga K "Measure") "__eq__") :=
  let ⟨_, X, G, S⟩ := T.ex
  He.meth_ok (S.t.d.fact 76)
theorem Txt.meth_Measure_plus : Meth K (He.ga K "Measure") "plus" (He.ma K (He.ga K "Measure") "plus") :=
  let ⟨_, X, G, S⟩ := T.ex
  He.meth_ok (S.t.d.fact 77)
theorem Txt.meth_Measure_minus : Meth K (He.ga K "Measure") "minus" (He.ma K (He.ga K "Measure") "minus") :=
  let ⟨_, X, G, S⟩ := T.ex
  He.meth_ok (S.t.d.fact 78)
theorem Txt.meth_Measure_times : Meth K (He.ga K "Measure") "times" (He.ma K (He.ga K "Measure") "times") :=
  let ⟨_, X, G, S⟩ := T.ex
  He.meth_ok (S.t.d.fact 79)
theorem Txt.meth_Measure_parted : Meth K (He.ga K "Measure") "parted" (He.ma K (He.ga K "Measure") "parted") :=
  let ⟨_, X, G, S⟩ := T.ex
  He.meth_ok (S.t.d.fact 80)
theorem Txt.meth_Measure_is_below : Meth K (He.ga K "Measure") "is_below" (He.ma K (He.ga K "Measure") "is_below") :=
  let ⟨_, X, G, S⟩ := T.ex
  He.meth_ok (S.t.d.fact 81)
theorem Txt.meth_Stretch_cut : Meth K (He.ga K "Stretch") "cut" (He.ma K (He.ga K "Stretch") "cut") :=
  let ⟨_, X, G, S⟩ := T.ex
  He.meth_ok (S.t.d.fact 82)
theorem Txt.meth_Ladder_lets_in : Meth K (He.ga K "Ladder") "lets_in" (He.ma K (He.ga K "Ladder") "lets_in") :=
  let ⟨_, X, G, S⟩ := T.ex
  He.meth_ok (S.t.d.fact 83)
theorem Txt.meth_Ladder_size : Meth K (He.ga K "Ladder") "size" (He.ma K (He.ga K "Ladder") "size") :=
  let ⟨_, X, G, S⟩ := T.ex
  He.meth_ok (S.t.d.fact 84)
theorem Txt.meth_Ladder_check_size : Meth K (He.ga K "Ladder") "check_size" (He.ma K (He.ga K "Ladder") "check_size") :=
  let ⟨_, X, G, S⟩ := T.ex
  He.meth_ok (S.t.d.fact 85)
theorem Txt.meth_Ladder_stretch : Meth K (He.ga K "Ladder") "stretch" (He.ma K (He.ga K "Ladder") "stretch") :=
  let ⟨_, X, G, S⟩ := T.ex
  He.meth_ok (S.t.d.fact 86)
theorem Txt.meth_Ladder_len : Meth K (He.ga K "Ladder") "__len__" (He.ma K (He.ga K "Ladder") "__len__") :=
  let ⟨_, X, G, S⟩ := T.ex
  He.meth_ok (S.t.d.fact 87)
theorem Txt.d_is_whole : ∃ fd, FunD K "is_whole" "is_whole" (defArgs s_is_whole) (defBody s_is_whole) (defScope s_is_whole) [] [] (He.fAd K ("is_whole", none)) fd := T.D 0
theorem Txt.d_common_part : ∃ fd, FunD K "common_part" "common_part" (defArgs s_common_part) (defBody s_common_part) (defScope s_common_part) [] [] (He.fAd K ("common_part", none)) fd := T.D 1
theorem Txt.d_midst : ∃ fd, FunD K "midst" "midst" (defArgs s_midst) (defBody s_midst) (defScope s_midst) [] [] (He.fAd K ("midst", none)) fd := T.D 2
theorem Txt.d_put_among : ∃ fd, FunD K "put_among" "put_among" (defArgs s_put_among) (defBody s_put_among) (defScope s_put_among) [] [] (He.fAd K ("put_among", none)) fd := T.D 3
theorem Txt.d_ends_of : ∃ fd, FunD K "ends_of" "ends_of" (defArgs s_ends_of) (defBody s_ends_of) (defScope s_ends_of) [] [] (He.fAd K ("ends_of", none)) fd := T.D 4
theorem Txt.d_points_of : ∃ fd, FunD K "points_of" "points_of" (defArgs s_points_of) (defBody s_points_of) (defScope s_points_of) [] [] (He.fAd K ("points_of", none)) fd := T.D 5
theorem Txt.d_are_alike : ∃ fd, FunD K "are_alike" "are_alike" (defArgs s_are_alike) (defBody s_are_alike) (defScope s_are_alike) [] [] (He.fAd K ("are_alike", none)) fd := T.D 6
theorem Txt.d_parting : ∃ fd, FunD K "parting" "parting" (defArgs s_parting) (defBody s_parting) (defScope s_parting) [.int 0] [] (He.fAd K ("parting", none)) fd := T.D 7
theorem Txt.d_is_end : ∃ fd, FunD K "is_end" "is_end" (defArgs s_is_end) (defBody s_is_end) (defScope s_is_end) [] [] (He.fAd K ("is_end", none)) fd := T.D 8
theorem Txt.d_is_some : ∃ fd, FunD K "is_some" "is_some" (defArgs s_is_some) (defBody s_is_some) (defScope s_is_some) [] [] (He.fAd K ("is_some", none)) fd := T.D 9
theorem Txt.d_later_begin : ∃ fd, FunD K "later_begin" "later_begin" (defArgs s_later_begin) (defBody s_later_begin) (defScope s_later_begin) [] [] (He.fAd K ("later_begin", none)) fd := T.D 10
theorem Txt.d_earlier_end : ∃ fd, FunD K "earlier_end" "earlier_end" (defArgs s_earlier_end) (defBody s_earlier_end) (defScope s_earlier_end) [] [] (He.fAd K ("earlier_end", none)) fd := T.D 11
theorem Txt.d_is_measure_or_none : ∃ fd, FunD K "is_measure_or_none" "is_measure_or_none" (defArgs s_is_measure_or_none) (defBody s_is_measure_or_none) (defScope s_is_measure_or_none) [] [] (He.fAd K ("is_measure_or_none", none)) fd := T.D 12
theorem Txt.d_are_measures : ∃ fd, FunD K "are_measures" "are_measures" (defArgs s_are_measures) (defBody s_are_measures) (defScope s_are_measures) [] [] (He.fAd K ("are_measures", none)) fd := T.D 13
theorem Txt.d_first_slip : ∃ fd, FunD K "first_slip" "first_slip" (defArgs s_first_slip) (defBody s_first_slip) (defScope s_first_slip) [] [] (He.fAd K ("first_slip", none)) fd := T.D 14
theorem Txt.d_up_size : ∃ fd, FunD K "up_size" "up_size" (defArgs s_up_size) (defBody s_up_size) (defScope s_up_size) [] [] (He.fAd K ("up_size", none)) fd := T.D 15
theorem Txt.d_down_size : ∃ fd, FunD K "down_size" "down_size" (defArgs s_down_size) (defBody s_down_size) (defScope s_down_size) [] [] (He.fAd K ("down_size", none)) fd := T.D 16
theorem Txt.d_near_size : ∃ fd, FunD K "near_size" "near_size" (defArgs s_near_size) (defBody s_near_size) (defScope s_near_size) [] [] (He.fAd K ("near_size", none)) fd := T.D 17
theorem Txt.d_up_stretch : ∃ fd, FunD K "up_stretch" "up_stretch" (defArgs s_up_stretch) (defBody s_up_stretch) (defScope s_up_stretch) [] [] (He.fAd K ("up_stretch", none)) fd := T.D 18
theorem Txt.d_down_stretch : ∃ fd, FunD K "down_stretch" "down_stretch" (defArgs s_down_stretch) (defBody s_down_stretch) (defScope s_down_stretch) [] [] (He.fAd K ("down_stretch", none)) fd := T.D 19
theorem Txt.d_near_stretch : ∃ fd, FunD K "near_stretch" "near_stretch" (defArgs s_near_stretch) (defBody s_near_stretch) (defScope s_near_stretch) [] [] (He.fAd K ("near_stretch", none)) fd := T.D 20
theorem Txt.d_is_rule : ∃ fd, FunD K "is_rule" "is_rule" (defArgs s_is_rule) (defBody s_is_rule) (defScope s_is_rule) [] [] (He.fAd K ("is_rule", none)) fd := T.D 21
theorem Txt.d_is_size : ∃ fd, FunD K "is_size" "is_size" (defArgs s_is_size) (defBody s_is_size) (defScope s_is_size) [] [] (He.fAd K ("is_size", none)) fd := T.D 22
theorem Txt.d_shows_parting : ∃ fd, FunD K "shows_parting" "shows_parting" (defArgs s_shows_parting) (defBody s_shows_parting) (defScope s_shows_parting) [] [] (He.fAd K ("shows_parting", none)) fd := T.D 23
theorem Txt.d_l_hand_at : ∃ fd, FunD K "_law_hand_at" "_law_hand_at" (defArgs s_l_hand_at) (defBody s_l_hand_at) (defScope s_l_hand_at) [] [] (He.fAd K ("_law_hand_at", none)) fd := T.D 24
theorem Txt.d_l_take : ∃ fd, FunD K "_law_take" "_law_take" (defArgs s_l_take) (defBody s_l_take) (defScope s_l_take) [] [] (He.fAd K ("_law_take", none)) fd := T.D 25
theorem Txt.d_l_pick : ∃ fd, FunD K "_law_pick" "_law_pick" (defArgs s_l_pick) (defBody s_l_pick) (defScope s_l_pick) [] [] (He.fAd K ("_law_pick", none)) fd := T.D 26
theorem Txt.d_l_grain : ∃ fd, FunD K "_law_grain" "_law_grain" (defArgs s_l_grain) (defBody s_l_grain) (defScope s_l_grain) [] [] (He.fAd K ("_law_grain", none)) fd := T.D 27
theorem Txt.d_l_drawn_marks : ∃ fd, FunD K "_law_drawn_marks" "_law_drawn_marks" (defArgs s_l_drawn_marks) (defBody s_l_drawn_marks) (defScope s_l_drawn_marks) [] [] (He.fAd K ("_law_drawn_marks", none)) fd := T.D 28
theorem Txt.d_l_drawn_ladder : ∃ fd, FunD K "_law_drawn_ladder" "_law_drawn_ladder" (defArgs s_l_drawn_ladder) (defBody s_l_drawn_ladder) (defScope s_l_drawn_ladder) [] [] (He.fAd K ("_law_drawn_ladder", none)) fd := T.D 29
theorem Txt.d_l_measure : ∃ fd, FunD K "_law_measure" "_law_measure" (defArgs s_l_measure) (defBody s_l_measure) (defScope s_l_measure) [] [] (He.fAd K ("_law_measure", none)) fd := T.D 30
theorem Txt.d_l_made : ∃ fd, FunD K "_law_made" "_law_made" (defArgs s_l_made) (defBody s_l_made) (defScope s_l_made) [] [] (He.fAd K ("_law_made", none)) fd := T.D 31
theorem Txt.d_l_points : ∃ fd, FunD K "_law_points" "_law_points" (defArgs s_l_points) (defBody s_l_points) (defScope s_l_points) [] [] (He.fAd K ("_law_points", none)) fd := T.D 32
theorem Txt.d_l_two_ladder : ∃ fd, FunD K "_law_two_ladder" "_law_two_ladder" (defArgs s_l_two_ladder) (defBody s_l_two_ladder) (defScope s_l_two_ladder) [] [] (He.fAd K ("_law_two_ladder", none)) fd := T.D 33
theorem Txt.d_l_alike : ∃ fd, FunD K "_law_alike" "_law_alike" (defArgs s_l_alike) (defBody s_l_alike) (defScope s_l_alike) [] [] (He.fAd K ("_law_alike", none)) fd := T.D 34
theorem Txt.d_l_span : ∃ fd, FunD K "_law_span" "_law_span" (defArgs s_l_span) (defBody s_l_span) (defScope s_l_span) [] [] (He.fAd K ("_law_span", none)) fd := T.D 35
theorem Txt.d_l_between : ∃ fd, FunD K "_law_between" "_law_between" (defArgs s_l_between) (defBody s_l_between) (defScope s_l_between) [] [] (He.fAd K ("_law_between", none)) fd := T.D 36
theorem Txt.d_l_sizes_alike : ∃ fd, FunD K "_law_sizes_alike" "_law_sizes_alike" (defArgs s_l_sizes_alike) (defBody s_l_sizes_alike) (defScope s_l_sizes_alike) [] [] (He.fAd K ("_law_sizes_alike", none)) fd := T.D 37
theorem Txt.d_l_ahead_right : ∃ fd, FunD K "_law_ahead_right" "_law_ahead_right" (defArgs s_l_ahead_right) (defBody s_l_ahead_right) (defScope s_l_ahead_right) [] [] (He.fAd K ("_law_ahead_right", none)) fd := T.D 38
theorem Txt.d_l_right : ∃ fd, FunD K "_law_right" "_law_right" (defArgs s_l_right) (defBody s_l_right) (defScope s_l_right) [] [] (He.fAd K ("_law_right", none)) fd := T.D 39
theorem Txt.d_law : ∃ fd, FunD K "law" "law" (defArgs s_law) (defBody s_law) (defScope s_law) [] [] (He.fAd K ("law", none)) fd := T.D 40
theorem Txt.d_M_init : ∃ fd, FunD K "__init__" "Measure.__init__" (defArgs s_M_init) (defBody s_M_init) (defScope s_M_init) [.int 1] [] (He.fAd K ("Measure", some "__init__")) fd := T.D 41
theorem Txt.d_M_eq : ∃ fd, FunD K "__eq__" "Measure.__eq__" (defArgs s_M_eq) (defBody s_M_eq) (defScope s_M_eq) [] [] (He.fAd K ("Measure", some "__eq__")) fd := T.D 42
theorem Txt.d_M_plus : ∃ fd, FunD K "plus" "Measure.plus" (defArgs s_M_plus) (defBody s_M_plus) (defScope s_M_plus) [] [] (He.fAd K ("Measure", some "plus")) fd := T.D 43
theorem Txt.d_M_minus : ∃ fd, FunD K "minus" "Measure.minus" (defArgs s_M_minus) (defBody s_M_minus) (defScope s_M_minus) [] [] (He.fAd K ("Measure", some "minus")) fd := T.D 44
theorem Txt.d_M_times : ∃ fd, FunD K "times" "Measure.times" (defArgs s_M_times) (defBody s_M_times) (defScope s_M_times) [] [] (He.fAd K ("Measure", some "times")) fd := T.D 45
theorem Txt.d_M_parted : ∃ fd, FunD K "parted" "Measure.parted" (defArgs s_M_parted) (defBody s_M_parted) (defScope s_M_parted) [.int 2] [] (He.fAd K ("Measure", some "parted")) fd := T.D 46
theorem Txt.d_M_is_below : ∃ fd, FunD K "is_below" "Measure.is_below" (defArgs s_M_is_below) (defBody s_M_is_below) (defScope s_M_is_below) [.bl false] [] (He.fAd K ("Measure", some "is_below")) fd := T.D 47
theorem Txt.d_S_init : ∃ fd, FunD K "__init__" "Stretch.__init__" (defArgs s_S_init) (defBody s_S_init) (defScope s_S_init) [.bl false, .bl true] [] (He.fAd K ("Stretch", some "__init__")) fd := T.D 48
theorem Txt.d_S_cut : ∃ fd, FunD K "cut" "Stretch.cut" (defArgs s_S_cut) (defBody s_S_cut) (defScope s_S_cut) [] [] (He.fAd K ("Stretch", some "cut")) fd := T.D 49
theorem Txt.d_L_init : ∃ fd, FunD K "__init__" "Ladder.__init__" (defArgs s_L_init) (defBody s_L_init) (defScope s_L_init) [.str "up", .non, .non] [] (He.fAd K ("Ladder", some "__init__")) fd := T.D 50
theorem Txt.d_L_lets_in : ∃ fd, FunD K "lets_in" "Ladder.lets_in" (defArgs s_L_lets_in) (defBody s_L_lets_in) (defScope s_L_lets_in) [] [] (He.fAd K ("Ladder", some "lets_in")) fd := T.D 51
theorem Txt.d_L_size : ∃ fd, FunD K "size" "Ladder.size" (defArgs s_L_size) (defBody s_L_size) (defScope s_L_size) [] [] (He.fAd K ("Ladder", some "size")) fd := T.D 52
theorem Txt.d_L_check_size : ∃ fd, FunD K "check_size" "Ladder.check_size" (defArgs s_L_check_size) (defBody s_L_check_size) (defScope s_L_check_size) [] [] (He.fAd K ("Ladder", some "check_size")) fd := T.D 53
theorem Txt.d_L_stretch : ∃ fd, FunD K "stretch" "Ladder.stretch" (defArgs s_L_stretch) (defBody s_L_stretch) (defScope s_L_stretch) [] [] (He.fAd K ("Ladder", some "stretch")) fd := T.D 54
theorem Txt.d_L_len : ∃ fd, FunD K "__len__" "Ladder.__len__" (defArgs s_L_len) (defBody s_L_len) (defScope s_L_len) [] [] (He.fAd K ("Ladder", some "__len__")) fd := T.D 55
end
end Sz

/-! The head: the top run once in the kernel, what it leaves told by names. -/
namespace Sz
open PySem PySem.Spec PyProof.Rows L2
abbrev RR : PySem.W.OpenRow := PySem.W.OpenLaw.row PySem.Challenge.rw_sizeladders_k41_whole_nowhere_ahead
abbrev hk : PySem.W.Hook := He.hookX 5 facts fns tabs [] more
def ob (s : PySem.W.SharedT) : He.AlX := He.obsX 5 facts fns tabs [] more (HandSHeadRun.getT s)
theorem ob_eq (s : PySem.W.SharedT) : ob s = hk.obs s.abs := He.obsX_eq (HandSHeadRun.getT_eq s)
def others : List Str := RR.prog.main.scope.names.filterMap fun p => if p.1 = ("law" : Str) then none else some p.1
theorem run_t (w : World) : HandSHeadRun.RunEq RR (PySem.W.view RR.prog [63]) hk ob 6000 others (w.withFollow "special-get-raises" true) := by
  intro os
  kernel_rfl
theorem run_f (w : World) : HandSHeadRun.RunEq RR (PySem.W.view RR.prog [63]) hk ob 6000 others (w.withFollow "special-get-raises" false) := by
  intro os
  kernel_rfl
theorem run (w : World) : HandSHeadRun.RunEq RR (PySem.W.view RR.prog [63]) hk ob 6000 others w :=
  PySem.W.byRow2 "special-get-raises" (P := HandSHeadRun.RunEq RR (PySem.W.view RR.prog [63]) hk ob 6000 others) run_f run_t w
end Sz

/-! Rules of the hand layer that this program wants besides: enumerate of a tuple; == and != by an own __eq__ with both answers; tuples of such compared; len by an own __len__; a method called with a keyword. -/
namespace SzR
open PySem PySem.Spec PyProof.Rows L2
open AutoSeq1 (wpAny_loadPart')

/-! ### weakening -/
theorem PE.imp {X : Cx} {e : Expr} {t t' : TE} (h : PE X e t) (i : ∀ σ H Q, t' σ H Q → t σ H Q) : PE X e t' :=
  ⟨fun pins s σ H Q I q => h.run pins s σ H Q I (i σ H Q q)⟩
theorem PT.imp {X : Cx} {e : Expr} {t t' : TT} (h : PT X e t) (i : ∀ σ H Q, t' σ H Q → t σ H Q) : PT X e t' :=
  ⟨fun pins s σ H Q I q => h.run pins s σ H Q I (i σ H Q q)⟩

/-! ### enumerate of a tuple -/
abbrev enumTH (h : Heap) (l : Addr) : Heap :=
  Heap.push (Heap.push h { cls := .type "tuple_iterator", data := .fields #[.ref l, .int 0 0] }) ⟨.type "enumerate", none, .fields #[.none, .bool false, .ref h.objs.size, rawInt 0, .none, .none], #[]⟩
theorem meets_enumT (l : Addr) (items : Array Value) (n : Nat) (dct : Option Addr) (sl : Array (Option Value)) :
    Meets (Builtin.«enumerate.__new__» ⟨[.type "enumerate", .ref l], []⟩) (fun _ R s =>
      s.heap.get? l = some { cls := .type "tuple", dict := dct, data := .seq items n, slots := sl } ∧
      R (.ok (.ret (.ref (s.heap.push { cls := .type "tuple_iterator", data := .fields #[.ref l, .int 0 0] }).objs.size)))
        { s with heap := enumTH s.heap l }) :=
  .of_wp fun prog w A R s h => by
    obtain ⟨hp, g, d, tk, os⟩ := s
    obtain ⟨hl, h⟩ := h
    have hsub := sub_enumerate
    have hT : Heap.IsTuple (Shared.heap ⟨hp, g, d, tk, os⟩) l items := ⟨_, hl, rfl, n, rfl⟩
    wp_walk using wpAny_loadPart' hl
    refine wpAny_stack_any fun st => wpAny_pure ?_
    split
    · rename_i c _ _ _ _ _
      cases (c == Value.type "enumerate") <;> (wp_walk using wpAny_loadPart' hl, wpAny_pyIter_tuple hT) <;> exact ⟨_, rfl, h⟩
    · wp_walk using wpAny_loadPart' hl, wpAny_pyIter_tuple hT
      exact ⟨_, rfl, h⟩
section
variable {prog : Program} {w : World} {A : Around} {E : Value → Shared → Prop} {s : Shared}
theorem call_enumT {l : Addr} {items : Array Value} {Q : Value → Shared → Prop} (hT : s.heap.IsTuple l items)
    (h : ∀ h', IsEnum h' (s.heap.objs.size + 1) s.heap.objs.size 0 .none → h'.IsTupleIter s.heap.objs.size l 0 →
      (∀ b o, s.heap.get? b = some o → h'.get? b = some o) → Q (.ref (s.heap.objs.size + 1)) { s with heap := h' }) :
    wpAny (model prog w) A (call (.type "enumerate") [.ref l]) Q E s := by
  obtain ⟨⟨c, dct, dt, sl⟩, hl, hc, n, hd⟩ := hT
  replace hc : c = .type "tuple" := hc
  replace hd : dt = .seq items n := hd
  subst hc hd
  refine callType_new F.called_enumerate (by decide) (F.typeCall_enumerate_1 _) (F.newCall_enumerate_1 _)
    (fun obj => F.args_object_init_2 obj _) F.entry_enumerate_new (meets_enumT l items n dct sl) ⟨hl, ?_⟩
  have hz : (s.heap.push { cls := .type "tuple_iterator", data := .fields #[.ref l, .int 0 0] }).objs.size = s.heap.objs.size + 1 := by
    exact Heap.size_push ..
  show _ ∧ _
  rw [hz]
  have he : IsEnum (enumTH s.heap l) (s.heap.objs.size + 1) s.heap.objs.size 0 .none := by
    have z := Heap.get?_push_size (s.heap.push { cls := .type "tuple_iterator", data := .fields #[.ref l, .int 0 0] })
      (o := ⟨.type "enumerate", none, .fields #[.none, .bool false, .ref s.heap.objs.size, rawInt 0, .none, .none], #[]⟩) rfl
    rw [hz] at z
    exact z
  refine ⟨⟨_, he, rfl⟩, h _ he ⟨_, Heap.get?_push_of_some _ (Heap.get?_push_size _ rfl), rfl, rfl⟩ fun b o x => ?_⟩
  exact Heap.get?_push_of_some _ (Heap.get?_push_of_some _ x)
end
/-- the tuple at a, each item in a new pair with its number -/
def IteT (K : PySem.W.Frag) (a : Addr) (xs : List V) : It :=
  ⟨fun i H => i < xs.length ∧ SqT K H a xs,
   fun i H v H' => ∃ T x, v = .ref T ∧ H T = none ∧ H' = upd H T (.tup [.int (i : Nat), x]) ∧ xs[i]? = some x,
   fun i H => SqT K H a xs ∧ i = xs.length⟩
theorem turn_enumT {P : Program} {w : World} {K : PySem.W.Frag} {elts : List Expr} {kk : Nat} {tpos : Pos} {xs : List V} (a e it : Addr) :
    Turn P w K (.Tuple elts kk tpos) (IteT K a xs) [e, it] e
      (fun i h => (∃ old, IsEnum h e it ((i : Nat) : Int) old) ∧ h.IsTupleIter it a i ∧ e ≠ it ∧ a ≠ it ∧ e ≠ a) where
  mem := by simp
  obj := fun i h st b hb => by
    obtain ⟨⟨old, he⟩, ⟨o, ho, hc, hd⟩, _⟩ := st
    rcases (show b = e ∨ b = it by simpa using hb) with z | z
    · rw [z]
      exact ⟨_, he, fun v q => nomatch q⟩
    · rw [z]
      exact ⟨o, ho, fun v q => by rw [hd] at q; cases q⟩
  keep := fun i h h' st k => by
    obtain ⟨⟨old, he⟩, hi, r⟩ := st
    exact ⟨⟨old, k e (by simp) _ he⟩, hi.at fun o q => k it (by simp) o q, r⟩
  item := by
    intro X hP hw hK hc i pins s σ H E I hf st hg
    subst hP hw hK
    obtain ⟨⟨old, he⟩, hit, hne, hai, hea⟩ := st
    obtain ⟨hlt, hq⟩ := hg
    obtain ⟨its, rv, p, hz⟩ := I.tuple hq
    have hel : e < s.heap.objs.size := Heap.lt_size he
    have hil : it < s.heap.objs.size := by
      obtain ⟨_, q, _⟩ := hit
      exact Heap.lt_size q
    have hn : i < its.toArray.size := by
      rw [List.size_toArray, ← rv.length]
      exact hlt
    refine wpAny_pyNext_enum_itemD (n := its.toArray.size) (Draws.tuple (prog := X.prog) (w := X.w) (A := X.A.in1) (I.ok.hd hc) it a hai its.toArray)
      he ⟨hit, p⟩ hn hne (by simp [hne, hea]) fun u h' tk hu ho hst hT hsz hk => ?_
    obtain ⟨x, hx⟩ : ∃ x, xs[i]? = some x := ⟨_, List.getElem?_eq_getElem hlt⟩
    obtain ⟨u', hu', ru⟩ := rv.get hx
    have eu : u = u' := by
      have z : its[i]? = some u := by simpa using hu
      rw [hu'] at z
      exact (Option.some.inj z).symm
    subst eu
    refine ⟨_, rfl, wpAny_letOwnedTupleGo_enum (s := { s with heap := h', toks := tk + 1 }) ho fun h'' he' sb => ?_⟩
    have hT2 : h''.get? s.heap.objs.size = some { cls := .type "tuple", data := .seq #[.int i tk, u] } := (sb.2 _ (Nat.ne_of_gt hel)).trans hT
    have new : ObjOk X.prog X.w (upd H s.heap.objs.size (.tup [.int (i : Nat), x])) h'' s.heap.objs.size (.tup [.int (i : Nat), x]) := by
      exact ⟨by show 2 ≤ sizeLine; decide, [.int i tk, u], .cons ⟨_, rfl⟩ (.cons ru .nil), ⟨_, hT2, rfl, _, rfl⟩⟩
    have I1 : Inv X pins σ (upd H s.heap.objs.size (.tup [.int (i : Nat), x])) { s with heap := h'', toks := tk + 1 } := by
      refine I.turnedNew (ch := [e, it]) (fun b ob hb q => ?_) hf (Nat.le_refl _) new
      exact (sb.2 b (fun z => hb (by simp [z]))).trans (hk b ob (fun z => hb (by simp [z])) (fun z => hb (by simp [z])) q)
    refine ⟨.ref s.heap.objs.size, _, I1, rfl, ⟨_, x, rfl, I.hok.fresh (Nat.le_refl _), rfl, hx⟩, ⟨⟨u, ?_⟩, ?_, hne, hai, hea⟩, fun b hb => ?_⟩
    · have e1 : ((i + 1 : Nat) : Int) = (i : Int) + 1 := by omega
      rw [e1]
      exact he'
    · exact hst.1.at fun o q => (sb.2 it (Ne.symm hne)).trans q
    · have hb' : b < s.heap.objs.size := by
        rcases (show b = e ∨ b = it by simpa using hb) with z | z
        · rw [z]; exact hel
        · rw [z]; exact hil
      rw [upd_ne (Nat.ne_of_lt hb')]
      exact (hf b hb).1
  done := by
    intro X hP hw hK hc i pins s σ H E I hf st hg
    subst hP hw hK
    obtain ⟨⟨old, he⟩, hit, hne, hai, hea⟩ := st
    obtain ⟨hq, hx⟩ := hg
    obtain ⟨its, rv, p, hz⟩ := I.tuple hq
    obtain ⟨f0, f1, f2, f3, f4, f5⟩ := hf it (by simp)
    have hn : i = its.toArray.size := by
      rw [List.size_toArray, ← rv.length]
      exact hx
    refine wpAny_pyNext_enum_endD (n := its.toArray.size) (Draws.tuple (prog := X.prog) (w := X.w) (A := X.A.in1) (I.ok.hd hc) it a hai its.toArray)
      he ⟨hn ▸ hit, p⟩ fun h' eb => ⟨rfl, ?_⟩
    exact I.turned (t' := s.toks) (fun b o hb q => eb b o hb q) f0 f1 f3 f4 f5
  self := fun A i s Q E st h => by
    obtain ⟨⟨_, he⟩, _⟩ := st
    exact wpAny_pyIter_enum he h
def iEnumT (K : PySem.W.Frag) (ta : TA) : TI := fun σ H R => ta σ H fun vs H1 => ∃ a xs, vs = [.ref a] ∧ SqT K H1 a xs ∧ R (IteT K a xs) H1
theorem pi_enumT {X : Cx} {e : Expr} {ta : TA} {p pos tpos : Pos} {elts : List Expr} {kk : Nat} (hg : Gl X "enumerate") (hm : X.mg "enumerate" = none)
    (ha : PA X [e] ta) (hs : starEach [e] X.env = [(false, eval e X.env)] := by rfl) :
    PI X (.Tuple elts kk tpos) (.Call (.Name "enumerate" p) [e] [] pos) (iEnumT X.K ta) := by
  refine ⟨fun pins s σ H R I h => ?_⟩
  refine Call_ (ld_blt I hg hm boot_enumerate (PyProof.Rows.callWith_type1 (thn (ha.run pos pins s σ H _ I h) fun us s1 ⟨vs, H1, I1, r1, q1⟩ => ?_) hs rfl))
  obtain ⟨a, xs, ex, hq, q⟩ := q1
  subst ex
  cases r1 with
  | cons r rr =>
    cases rr
    cases r
    obtain ⟨its, rv, p', hz⟩ := I1.tuple hq
    refine call_enumT p' fun h' he hit hk => wpAny_pyIter_enum he ?_
    have I2 : Inv X pins σ H1 { s1 with heap := h' } := I1.kept (t' := s1.toks) hk
    have hal : a < s1.heap.objs.size := by
      obtain ⟨o, ho, _⟩ := p'
      exact Heap.lt_size ho
    refine ⟨s1.heap.objs.size + 1, [s1.heap.objs.size + 1, s1.heap.objs.size], _, _, H1, rfl, I2, turn_enumT a (s1.heap.objs.size + 1) s1.heap.objs.size,
      ⟨⟨.none, he⟩, hit, Nat.succ_ne_self _, Nat.ne_of_lt hal, Nat.ne_of_gt (Nat.lt_succ_of_lt hal)⟩, fun b hb => ?_, q⟩
    have hle : s1.heap.objs.size ≤ b := by
      rcases (show b = s1.heap.objs.size + 1 ∨ b = s1.heap.objs.size by simpa using hb) with z | z
      · rw [z]; exact Nat.le_add_right _ _
      · rw [z]; exact Nat.le_refl _
    exact I1.fpOk hle (I1.hok.fresh hle)
/-- for i, x in enumerate(t): by an invariant over the turn -/
theorem for_enumT {K : PySem.W.Frag} {a : Addr} {xs : List V} {g : TG} {tb : TS} {D : Ends} {σ : L2.St} {H : Hp} (Pv : Nat → L2.St → Hp → Prop) (h0 : Pv 0 σ H)
    (hl : ∀ i σ H, i ≤ xs.length → Pv i σ H → SqT K H a xs)
    (hs : ∀ i x σ H T, xs[i]? = some x → Pv i σ H → H T = none →
      g (.ref T) σ (upd H T (.tup [.int (i : Nat), x])) fun σ2 H2 => tb { D with nx := Pv (i + 1), ct := Pv (i + 1), bk := D.nx } σ2 H2)
    (hd : ∀ σ H, Pv xs.length σ H → D.nx σ H) :
    ∃ W : Nat → Nat → L2.St → Hp → Prop, (∃ m, W 0 m σ H) ∧ ∀ i m σ H, W i m σ H → ((IteT K a xs).stop i H ∧ D.nx σ H) ∨
      ((IteT K a xs).go i H ∧ ∃ N : L2.St → Hp → Prop, (∀ σ' H', N σ' H' → ∃ m', m' < m ∧ W (i + 1) m' σ' H') ∧
        ∀ x H', (IteT K a xs).yld i H x H' → g x σ H' fun σ2 H2 => tb { D with nx := N, ct := N, bk := D.nx } σ2 H2) := by
  refine ⟨fun i m σ H => i ≤ xs.length ∧ m = xs.length - i ∧ Pv i σ H, ⟨xs.length, Nat.zero_le _, by omega, h0⟩, fun i m σ H ⟨hi, hm, hp⟩ => ?_⟩
  by_cases e : i = xs.length
  · subst e
    exact .inl ⟨⟨hl _ _ _ hi hp, rfl⟩, hd _ _ hp⟩
  · have hlt : i < xs.length := by omega
    refine .inr ⟨⟨hlt, hl _ _ _ hi hp⟩, Pv (i + 1), fun σ' H' z => ⟨m - 1, by omega, by omega, by omega, z⟩, fun x H' y => ?_⟩
    obtain ⟨T, x', rfl, hT, rfl, hx⟩ := y
    exact hs i x' σ H T hx hp hT
end SzR

/-! Rules, the second part: == and != by an own __eq__; tuples of such; len by an own __len__; a method called with a keyword. -/
namespace SzR
open PySem PySem.Spec PyProof.Rows L2
open AutoSeq1 (wpAny_loadPart')

/-! ### == by an own __eq__, both answers -/
/-- two instances of the class at C, its def for the operator: the promise sp -/
def rOwn2 (C : Addr) (sp : Sp) : R2 := fun x y H Q => ∃ a b dx dy fs gs, x = .ref a ∧ y = .ref b ∧ H a = some (.ins C dx fs) ∧ H b = some (.ins C dy gs) ∧ sp [x, y] H Q E0
theorem op_eqI {X : Cx} {k : Nat} {C : Addr} {sp : Sp} (m : C8.Met X.prog X.w X.K X.mg X.base k C "__eq__" sp []) (hr : Room k X.A) : OpR X (compareOp .Eq) (rOwn2 C sp) := by
  intro pins s σ H x y v u Q I rx ry h
  obtain ⟨a, b, dx, dy, fs, gs, rfl, rfl, ha, hb, q⟩ := h
  cases (show v = Value.ref a from rx)
  cases (show u = Value.ref b from ry)
  obtain ⟨f, fd, ps, ds, hc, hm, F, bd, vd⟩ := m.ex
  obtain ⟨mA, J, _⟩ := ins_get I.hok ha
  obtain ⟨mB, J', _⟩ := ins_get I.hok hb
  obtain ⟨od, J, _⟩ := J.look
  obtain ⟨od', J', _⟩ := J'.look
  obtain ⟨n, hF⟩ := I.fr
  show wpAny (model X.prog X.w) X.A (richCompare .Eq (.ref a) (.ref b)) (EP X pins σ Q) X.xe s
  refine PySem.W.cmp_K (op := .Eq) (tb := .ref C) hr.units0 hF I.ok.mod.kin J J'.type (by simp [PySem.W.notFirst]) hm.at_ hm.fn ?_
  have r2 : Vals [V.ref a, V.ref b] [Value.ref a, Value.ref b] := .cons rfl (.cons rfl .nil)
  refine wpAny_mono (run_fn F hr bd vd pass0 I r2 q) (fun w s' z => ?_) fun _ _ x => x
  obtain ⟨z', H', I', rz, qz⟩ := z
  exact SlX.cmpback rz ⟨z', H', I', rz, qz⟩

/-! ### != by object.__ne__ and an own __eq__ -/
section
variable {prog : Program} {w : World} {A : Around} {E : Value → Shared → Prop} {s : Shared} {K : PySem.W.Frag} {x y C f : Addr} {ox oy : Obj} {od od' : Option Obj}
theorem ne_inst {Q : Value → Shared → Prop} (hu : A.units + 1 < cLine) (X : K.In s.heap) (I : PySem.W.InstAt s.heap x ox C od) (J : PySem.W.InstAt s.heap y oy C od')
    (hn : PySem.W.findIn K (.ref C) "__ne__" = some (some (.builtin "object.__ne__"))) (he : PySem.W.findIn K (.ref C) "__eq__" = some (some (.ref f)))
    (hf : PySem.W.isFn K (.ref f) = true) (hm : PySem.W.mroIn K C (.type "object") = some true)
    (h : wpAny (model prog w) A.in1 (call (.ref f) [.ref x, .ref y]) (fun v s' => ∃ b, v = .bool b ∧ Q (.bool (!b)) s') E s) :
    wpAny (model prog w) A (richCompare .NotEq (.ref x) (.ref y)) Q E s := by
  have body : wpAny (model prog w) A (call (.builtin "object.__ne__") [.ref x, .ref y]) (fun v s' => ∃ b, v = .bool b ∧ Q (.bool b) s') E s := by
    refine wpAny_call (codeAny_call_builtin F.slot_enumerate_ne.plain F.cmpEntry_ne (@PySem.W.check_slot (model prog w) _ _ s "object.__ne__" "object" "__ne__"
      (.ref x) [.ref y] [] _ F.cmpKind_ne F.cmpSplit_ne (I.type.andThen (PySem.W.looks_mroIn X hm)) (F.cmpArgs_ne _ _) ?_))
    unfold Builtin.«object.__ne__»
    repeat (first
      | with_reducible refine wpAny_cRoomFor (show A.in1.units < cLine by exact hu) ?_
      | (refine wpAny_bind (m := callSpecialIfBound? (.ref x) (Str.ofString "__eq__") [.ref y]) (PySem.W.ifBound_K X I he hf (wpAny_mono h (fun r s' hr => by
          obtain ⟨b, rfl, hq⟩ := hr
          refine wpAny_bind (m := truthy (.bool b)) (wpAny_truthy_bool ?_)
          first | exact wpAny_pure ⟨!b, rfl, hq⟩ | exact wpAny_pure (wpAny_pure ⟨!b, rfl, hq⟩)) fun _ _ e => e)))
      | wp_step)
  have one : wpAny (model prog w) A (tryCompare (.ref x) "__ne__" (.ref y)) (fun r s' => ∃ b, r = some (.bool b) ∧ Q (.bool b) s') E s := by
    unfold tryCompare
    refine wpAny_bind ?_
    simp only [callSpecialIfBound?, bindSpecialIfBound?]
    refine wpAny_holding (wpAny_bind (wpAny_bind (wpAny_bind (I.type.here ((PySem.W.looks_findIn X hn).here ?_)))))
    refine wpAny_bind (wpAny_askSetting (wpAny_ite ?_))
    have fin : wpAny (model prog w) A (call (.builtin "object.__ne__") ([.ref x] ++ [.ref y]) >>= fun v => pure (some v))
        (fun r s' => ∃ b, r = some (.bool b) ∧ Q (.bool b) s') E s := by
      refine wpAny_bind (wpAny_mono body (fun v s' z => ?_) fun _ _ e => e)
      obtain ⟨b, rfl, q⟩ := z
      exact wpAny_pure ⟨b, rfl, q⟩
    have fin2 : wpAny (model prog w) A (call (.builtin "object.__ne__") ([.ref x] ++ [.ref y]) >>= fun v => pure (some v))
        (fun r s' => wpAny (model prog w) A (match r with | some .notImplemented | none => pure none | some v => pure (some v)) (fun r s' => ∃ b, r = some (.bool b) ∧ Q (.bool b) s') E s') E s := by
      refine wpAny_mono fin (fun r s' z => ?_) fun _ _ e => e
      obtain ⟨b, rfl, q⟩ := z
      exact wpAny_pure ⟨b, rfl, q⟩
    split
    · exact wpAny_bind (wpAny_of_eq (F.slot_enumerate_ne.bind _) (wpAny_pure (by exact fin2)))
    · exact wpAny_tryCatch (wpAny_bind (wpAny_of_eq (F.slot_enumerate_ne.bind _) (wpAny_pure (by exact fin2))))
  unfold richCompare
  simp only [oneThing_ref]
  refine wpAny_holding (wpAny_bind (wpAny_cRoomFor (Nat.lt_of_succ_lt hu) ?_))
  refine wpAny_bind (I.type.here (wpAny_bind (J.type.here ?_)))
  rw [show (Value.ref C != Value.ref C) = false from by simp]
  simp only [Bool.false_eq_true, if_false]
  refine wpAny_bind (wpAny_pure ?_)
  simp only [Bool.false_eq_true, if_false]
  refine wpAny_bind (wpAny_mono one (fun r s' z => ?_) fun _ _ e => e)
  obtain ⟨b, rfl, q⟩ := z
  exact wpAny_pure q
end
def rOwnNe (C : Addr) (sp : Sp) : R2 := fun x y H Q => ∃ a b dx dy fs gs, x = .ref a ∧ y = .ref b ∧ H a = some (.ins C dx fs) ∧ H b = some (.ins C dy gs) ∧
  sp [x, y] H (fun v H' => ∃ c, v = .bl c ∧ Q (.bl (!c)) H') E0
theorem op_neI {X : Cx} {k : Nat} {C : Addr} {sp : Sp} (m : C8.Met X.prog X.w X.K X.mg X.base k C "__eq__" sp []) (hr : Room (k + 1) X.A)
    (hn : PySem.W.findIn X.K (.ref C) "__ne__" = some (some (.builtin "object.__ne__"))) (ho : PySem.W.mroIn X.K C (.type "object") = some true) : OpR X (compareOp .NotEq) (rOwnNe C sp) := by
  intro pins s σ H x y v u Q I rx ry h
  obtain ⟨a, b, dx, dy, fs, gs, rfl, rfl, ha, hb, q⟩ := h
  cases (show v = Value.ref a from rx)
  cases (show u = Value.ref b from ry)
  obtain ⟨f, fd, ps, ds, hc, hm, F, bd, vd⟩ := m.ex
  cases vd
  obtain ⟨mA, J, _⟩ := ins_get I.hok ha
  obtain ⟨mB, J', _⟩ := ins_get I.hok hb
  obtain ⟨od, J, _⟩ := J.look
  obtain ⟨od', J', _⟩ := J'.look
  show wpAny (model X.prog X.w) X.A (richCompare .NotEq (.ref a) (.ref b)) (EP X pins σ Q) X.xe s
  refine ne_inst (by have := hr.units; omega) I.kIn J J' hn hm.at_ hm.fn ho ?_
  have r2 : Vals [V.ref a, V.ref b] [Value.ref a, Value.ref b] := .cons rfl (.cons rfl .nil)
  have hl := F.len _ _ _ _ q
  have bt := bd s [.ref a, .ref b] I.kIn (by simpa using hl)
  refine wpAny_call (codeAny_mono (F.run X.A.in1 X.stack s H ⟨[.ref a, .ref b], []⟩ [.ref a, .ref b] [.ref a, .ref b] _ E0 hr.in1 I.env0.in1 (by simpa using bt) r2 q) fun r s' hq => ?_)
  cases r with
  | error e => exact hq.elim
  | ok fl =>
    cases fl with
    | ret u =>
      obtain ⟨z, H', I', rz, c, ec, qz⟩ := I.after hq
      subst ec
      cases rz
      exact ⟨c, rfl, .bl (!c), H', I', rfl, qz⟩
    | next => exact False.elim hq
    | brk => exact False.elim hq
    | cont => exact False.elim hq

/-! ### tuples: == where all pairs are flat -/
def zipEq (xs ys : List V) : Bool := (List.range (min xs.length ys.length)).all (fun j => eqV (xs.getD j .non) (ys.getD j .non)) && decide (xs.length = ys.length)
def rEqZ (K : PySem.W.Frag) : R2 := fun x y H Q => ∃ a b xs ys, x = .ref a ∧ y = .ref b ∧ SqT K H a xs ∧ SqT K H b ys ∧
  (∀ j, j < min xs.length ys.length → flatV (xs.getD j .non) = true ∧ flatV (ys.getD j .non) = true) ∧ Q (.bl (zipEq xs ys)) H
theorem op_eqZ {X : Cx} (hu : X.A.units < cLine) : OpR X (compareOp .Eq) (rEqZ X.K) := by
  intro pins s σ H x y v u Q I rx ry h
  obtain ⟨a, b, xs, ys, rfl, rfl, ha, hb, hf, q⟩ := h
  cases (show v = Value.ref a from rx)
  cases (show u = Value.ref b from ry)
  obtain ⟨its, r, e, _⟩ := I.tuple ha
  obtain ⟨its2, r2, e2, _⟩ := I.tuple hb
  have l1 : its.toArray.size = xs.length := by rw [List.size_toArray, r.length]
  have l2 : its2.toArray.size = ys.length := by rw [List.size_toArray, r2.length]
  refine SeqAt.eq_tupleAt (e := fun j => eqV (xs.getD j .non) (ys.getD j .non)) e e2 hu (fun j h1 h2 => ?_) ?_
  · have k1 : j < xs.length := by rw [← l1]; exact h1
    have k2 : j < ys.length := by rw [← l2]; exact h2
    obtain ⟨f1, f2⟩ := hf j (by omega)
    have g1 : xs[j]? = some (xs.getD j .non) := by simp [List.getD, k1]
    have g2 : ys[j]? = some (ys.getD j .non) := by simp [List.getD, k2]
    obtain ⟨u1, e3, r3⟩ := r.get g1
    obtain ⟨u2, e4, r4⟩ := r2.get g2
    have q1 : its.toArray[j] = u1 := by
      have z : its[j]? = some its.toArray[j] := by
        rw [List.getElem?_eq_getElem (by simpa using h1)] <;> simp
      rw [e3] at z
      exact (Option.some.inj z).symm
    have q2 : its2.toArray[j] = u2 := by
      have z : its2[j]? = some its2.toArray[j] := by
        rw [List.getElem?_eq_getElem (by simpa using h2)] <;> simp
      rw [e4] at z
      exact (Option.some.inj z).symm
    rw [q1, q2]
    exact eqAt_V r3 r4 f1 f2
  · refine ⟨.bl (zipEq xs ys), H, I, ?_, q⟩
    show Value.bool _ = Value.bool _
    unfold zipEq
    rw [l1, l2, Bool.beq_eq_decide_eq]

/-! ### tuples: != where item by item they are equal -/
section
variable {prog : Program} {w : World} {A : Around} {R : Result → Shared → Prop}
theorem tuple_neG (l b : Addr) (its jts : Array Value) (n m : Nat) (dd ee : Option Addr) (sl sm : Array (Option Value)) (hsz : its.size = jts.size) (I : Nat → Shared → Prop)
    (turn : ∀ i (h1 : i < its.size) (h2 : i < jts.size) s, I i s →
      wpAny (model prog w) A.in1 (eqBool its[i] jts[i]) (fun r s' => r = true ∧ I (i + 1) s') (fun e s' => R (.error e) s') s)
    (fin : ∀ s, I its.size s → R (.ok (.ret (.bool false))) s) {s : Shared} (hl1 : s.heap.get? l = some ⟨.type "tuple", dd, .seq its n, sl⟩)
    (hb1 : s.heap.get? b = some ⟨.type "tuple", ee, .seq jts m, sm⟩) (h : I 0 s) :
    wpAny (model prog w) A.in1 (Builtin.«tuple.__ne__» ⟨[.ref l, .ref b], []⟩) (GQ.FinOf prog w A R) (fun e s' => R (.error e) s') s := by
  have f2 := AutoSeq1.sub_tuple_tuple
  have hZ : (its.toList.zip jts.toList).length = its.size := by simp [hsz]
  have h0 := h
  obtain ⟨hp, g, d, tk, os⟩ := s
  wp_walk using wpAny_loadPart' hl1, wpAny_loadPart' hb1,
    wpAny_forIn_list _ (fun rest b s' => b.1 = none ∧ ∃ i, rest = (its.toList.zip jts.toList).drop i ∧ i ≤ its.size ∧ I i s') _
  case turn =>
    rintro ⟨y, x⟩ rest b s' ⟨hb', i, hz, hi, hI⟩
    have hlt : i < (its.toList.zip jts.toList).length := by
      rcases Nat.lt_or_ge i (its.toList.zip jts.toList).length with h' | h'
      · exact h'
      · rw [List.drop_of_length_le h'] at hz
        cases hz
    have h1 : i < its.size := hZ ▸ hlt
    have h2 : i < jts.size := hsz ▸ h1
    rw [List.drop_eq_getElem_cons hlt] at hz
    injection hz with hyx hrest
    have hy : y = its[i] := by
      have z := congrArg Prod.fst hyx
      simpa using z
    have hx : x = jts[i] := by
      have z := congrArg Prod.snd hyx
      simpa using z
    subst hy hx
    refine wpAny_bind (wpAny_mono (turn i h1 h2 s' hI) (fun r s2 q2 => ?_) fun _ _ x => x)
    obtain ⟨hr, q2⟩ := q2
    subst hr
    wp_walk
    exact ⟨rfl, i + 1, hrest, h1, q2⟩
  case fin =>
    rintro ⟨b1, b2⟩ s' ⟨hb', i, hz, hi, hI⟩
    simp only at hb'
    subst hb'
    have hge : its.size ≤ i := by
      rcases Nat.lt_or_ge i (its.toList.zip jts.toList).length with h' | h'
      · rw [List.drop_eq_getElem_cons h'] at hz
        cases hz
      · exact hZ ▸ h'
    have hR : R (.ok (.ret (.bool false))) s' := fin s' ((show i = its.size by omega) ▸ hI)
    wp_walk
    simpa [Builtin.Tuple.tupleCompareSizes, hsz] using hR
  case h =>
    exact ⟨rfl, 0, rfl, Nat.zero_le _, h0⟩
end
theorem rc_tupNe {prog : Program} {w : World} {A : Around} {E : Value → Shared → Prop} {s : Shared} {l b : Addr} {its jts : Array Value} {Q : Value → Shared → Prop} (hsz : its.size = jts.size) (hu : A.units < cLine)
    (I : Nat → Shared → Prop) (hl : s.heap.IsTuple l its) (hb : s.heap.IsTuple b jts)
    (turn : ∀ i (h1 : i < its.size) (h2 : i < jts.size) s, I i s → wpAny (model prog w) A.in1 (eqBool its[i] jts[i]) (fun r s' => r = true ∧ I (i + 1) s') E s)
    (fin : ∀ s, I its.size s → Q (.bool false) s) (h : I 0 s) : wpAny (model prog w) A (richCompare .NotEq (.ref l) (.ref b)) Q E s := by
  obtain ⟨⟨c1, dd, d1, sl⟩, ho, hc, n, hd⟩ := id hl
  obtain ⟨⟨c2, ee, d2, sm⟩, ho2, hc2, m, hd2⟩ := id hb
  simp only at hc hd hc2 hd2
  subst hc hd hc2 hd2
  refine wpAny_richCompare_same_room (op := .NotEq) ⟨_, ho, rfl⟩ ⟨_, ho2, rfl⟩ F.slot_tuple_ne
    (GQ.call_here F.slot_tuple_ne ⟨_, ho, rfl⟩ F.entry_tuple_ne (F.args_tuple_ne_2 _ _) ?_) hu
  exact tuple_neG (R := wants (fun v s' => v ≠ .notImplemented ∧ Q v s') E) l b its jts n m dd ee sl sm hsz I turn (fun s' q => ⟨(fun x => nomatch x), fin s' q⟩) ho ho2 h
/-- x != y of two tuples whose items D tells to be equal -/
def rNeG (K : PySem.W.Frag) (D : Eqv) : R2 := fun x y H Q => DTup K D x y H ∧ ∀ H', Ext H H' → Q (.bl false) H'
theorem op_neG {X : Cx} {n : Nat} {D : Eqv} (hD : Mon D) (h : EqG X n D) (hr : Room (n + 1) X.A) : OpR X (compareOp .NotEq) (rNeG X.K D) := by
  intro pins s σ H x y v u Q I rx ry hq
  obtain ⟨⟨a, b, xs, ys, rfl, rfl, ha, hb, p⟩, q⟩ := hq
  cases rx
  cases ry
  obtain ⟨its, r, e, z⟩ := I.tuple ha
  obtain ⟨its2, r2, e2, z2⟩ := I.tuple hb
  have hsz : its.toArray.size = its2.toArray.size := by
    rw [List.size_toArray, List.size_toArray, ← r.length, ← r2.length]
    exact p.1
  show wpAny (model X.prog X.w) X.A (richCompare .NotEq (.ref a) (.ref b)) (EP X pins σ Q) X.xe s
  refine rc_tupNe hsz hr.units0 (fun _ s' => LoopI X pins σ H s') e e2 (fun i h1 h2 s' q => turnG hD h ⟨hr, rfl⟩ p r r2 i h1 h2 s' q) (fun s' z => ?_) ⟨H, I, Ext.rfl'⟩
  obtain ⟨H', I', e'⟩ := z
  exact ⟨.bl false, H', I', rfl, q H' e'⟩
end SzR

/-! Rules, the third part: len by an own __len__; calls with keywords of defs that have defaults. -/
namespace SzR
open PySem PySem.Spec PyProof.Rows L2

/-! ### len by an own __len__ -/
theorem len_own {prog : Program} {w : World} {A : Around} {E : Value → Shared → Prop} {s : Shared} {K : PySem.W.Frag} {x C f : Addr} {ox : Obj} {od : Option Obj} {Q : Value → Shared → Prop}
    (X : K.In s.heap) (I : PySem.W.InstAt s.heap x ox C od) (hs : PySem.W.findIn K (.ref C) "__len__" = some (some (.ref f))) (hf : PySem.W.isFn K (.ref f) = true)
    (h : wpAny (model prog w) A.in1 (call (.ref f) [.ref x]) (fun v s' => ∃ (n : Nat) (t : Tok), v = .int (n : Int) t ∧ n < 2 ^ 63 ∧ ∀ u tk, Q (.int (n : Int) u) { s' with toks := tk }) E s) :
    wpAny (model prog w) A (call (.builtin "len") [.ref x]) Q E s := by
  refine Calls.call_function_entry kind_len plain_len entry_len (args_len1 _) ?_
  unfold Builtin.«len»
  refine wpAny_bind (m := oneArg "len" _) (wpAny_pure ?_)
  refine wpAny_bind (m := callSpecial? (.ref x) (PySem.Str.ofString "__len__")) (PySem.W.special_fn X I hs (beq_iff_eq.mp hf) (wpAny_mono h (fun v s' z => ?_) fun _ _ e => e))
  obtain ⟨n, t, rfl, hn, q⟩ := z
  refine wpAny_bind (wpAny_holding (wpAny_pure ?_))
  refine wpAny_bind (wpAny_letGo ?_)
  show wpAny _ _ (if (n : Int) < 0 then _ else _) _ _ _
  rw [if_neg (by omega)]
  show wpAny _ _ (if (n : Int) ≥ 2 ^ 63 then _ else _) _ _ _
  rw [if_neg (by omega)]
  exact wpAny_bind (wpAny_mkInt (wpAny_pure ⟨_, rfl, q _ _⟩))
def rLenI (C : Addr) (sp : Sp) : List V → Hp → VK → Prop := fun xs H Q => ∃ a dx fs, xs = [.ref a] ∧ H a = some (.ins C dx fs) ∧
  sp [.ref a] H (fun v H' => ∃ n : Nat, v = .int (n : Int) ∧ n < 2 ^ 63 ∧ Q (.int (n : Int)) H') E0
theorem call_lenI {X : Cx} {k : Nat} {C : Addr} {sp : Sp} (m : C8.Met X.prog X.w X.K X.mg X.base k C "__len__" sp []) (hr : Room (k + 1) X.A) : CallR X (.builtin "len") (rLenI C sp) := by
  intro pins s σ H xs us Q I r h
  obtain ⟨a, dx, fs, rfl, ha, q⟩ := h
  obtain ⟨u, rfl, ru⟩ := vals1 r
  cases (show u = Value.ref a from ru)
  obtain ⟨f, fd, ps, ds, hc, hm, F, bd, vd⟩ := m.ex
  cases vd
  obtain ⟨mA, J, _⟩ := ins_get I.hok ha
  obtain ⟨od, J, _⟩ := J.look
  refine len_own I.kIn J hm.at_ hm.fn ?_
  have r2 : Vals [V.ref a] [Value.ref a] := .cons rfl .nil
  have hl := F.len _ _ _ _ q
  have bt := bd s [.ref a] I.kIn (by simpa using hl)
  refine wpAny_call (codeAny_mono (F.run X.A.in1 X.stack s H ⟨[.ref a], []⟩ [.ref a] [.ref a] _ E0 hr.in1 I.env0.in1 (by simpa using bt) r2 q) fun r s' hq => ?_)
  cases r with
  | error e => exact hq.elim
  | ok fl =>
    cases fl with
    | ret u =>
      obtain ⟨z, H', I', rz, n, en, hn, qz⟩ := I.after hq
      subst en
      obtain ⟨t, e⟩ := (show ∃ t, u = Value.int (n : Int) t from rz)
      exact ⟨n, t, e, hn, fun u tk => ⟨.int (n : Int), H', I'.tok tk, ⟨u, rfl⟩, qz⟩⟩
    | next => exact False.elim hq
    | brk => exact False.elim hq
    | cont => exact False.elim hq

/-! ### keywords of a def with defaults -/
theorem kb1 {K : PySem.W.Frag} {x qual : Str} {params : Arguments} {body : List Stmt} {scope : Scope} {dvs : List V} {f : Addr} {fd : FuncData} {ps : List Str}
    (F : FunD K x qual params body scope dvs [] f fd) (n : Nat) (ks : List Str) (g : {α : Type} → List α → List α → List α → List α) (hd : dvs ≠ [])
    (hrel : ∀ {vs ds zs : List V} {us its ws : List Value}, Vals vs us → Vals ds its → Vals zs ws → Vals (g vs ds zs) (g us its ws))
    (h : ∀ (T : Addr) (kV doc pm : Value) (an : Option Addr) (cdv ct : Value) (us its ws : List Value), us.length = n → its.length = dvs.length → ws.length = ks.length →
      ∃ k, bindArgs (PySem.W.fnOf x qual params body scope (.ref T) kV doc pm an cdv ct) ⟨us, ks.zip ws⟩ = seqItems? (.ref T) >>= k ∧ k (some its.toArray) = pure (ps.zip (g us its ws))) :
    ∃ gg, KBn K fd ps n ks gg (fun vs zs => g vs dvs zs) := by
  obtain ⟨oc, od, dV, kV, doc, pm, an, cdv, ct, osl, rfl, lk, hcd, hD, _⟩ := F.ex
  rcases hD with ⟨e, _⟩ | ⟨_, T, o, its, m, rfl, lT, oT, rT⟩
  · exact absurd e hd
  · refine ⟨fun us ws => g us its ws, ⟨fun s us ws X l1 l2 => ?_, fun r1 r2 => hrel r1 rT r2⟩⟩
    obtain ⟨k, e1, e2⟩ := h T kV doc pm an cdv ct us its ws l1 rT.length.symm l2
    refine BindsTo.of_looks fun M => ?_
    rw [e1]
    exact looks_items X lT oT (.of_pure e2)
/-- o.m(e, .., k = v, ..) -/
def tMethN (C : Addr) (m : Str) (n k : Nat) (sp : Sp) (gV : List V → List V → List V) (ta : TE) (t tk : TA) : TE := fun σ H Q => ta σ H fun x H1 => ∃ a dx fs, x = .ref a ∧ H1 a = some (.ins C dx fs) ∧ fs.lookup m = none ∧
  t σ H1 fun vs H2 => tk σ H2 fun zs H3 => vs.length = n ∧ zs.length = k ∧ sp (gV (x :: vs) zs) H3 Q E0
theorem pe_methN {X : Cx} {k n : Nat} {f C : Addr} {fd : FuncData} {ps ks : List Str} {sp : Sp} {m : Str} {apos pos : Pos} {o e : Expr} {es : List Expr} {kws : List Keyword} {ta : TE} {t tk : TA}
    {g : List Value → List Value → List Value} {gV : List V → List V → List V} {pl : Sem Bool} (he : PE X o ta) (c : Cls X.K C) (hm : Meth X.K C m f) (F : FnOk X.prog X.w X.K X.mg X.base CX0 k f fd ps sp)
    (hr : Room k X.A) (hb : KBn X.K fd ps (n + 1) ks g gV) (ha : PA X (e :: es) t) (hkw : PK X kws tk)
    (hall : (backToKw pos (keywordEach kws X.env)).all (·.1.isSome) = true := by rfl) (hks : (backToKw pos (keywordEach kws X.env)).filterMap (·.1) = ks := by rfl)
    (hst : starEach (e :: es) X.env = (false, eval e X.env) :: starEach es X.env := by rfl)
    (hpl : ((backTo pos (starEach (e :: es) X.env)).any (·.1) || (backToKw pos (keywordEach kws X.env)).any (·.1.isNone)) = false := by rfl)
    (ht : eval (.Call (.Attribute o m apos) (e :: es) kws pos) X.env = (do
      let ov ← eval o X.env
      standAt apos.atName
      let (f, first) ← holding [ov] (getMethod ov m pl)
      callWith pos f first (backTo pos (starEach (e :: es) X.env)) (backToKw pos (keywordEach kws X.env))) := by rfl) :
    PE X (.Call (.Attribute o m apos) (e :: es) kws pos) (tMethN C m n ks.length sp gV ta t tk) := by
  refine ⟨fun pins s σ H Q I h => ?_⟩
  refine PySem.W.methodCall_KW (pl := pl) (thn (he.run pins s σ H _ I h) fun u s1 ⟨x, H1, I1, rx, a, dx, fs, ex, ea, l, q⟩ => ?_) ht
  subst ex
  obtain rfl : u = Value.ref a := rx
  refine getmeth_ok I1 ea c hm l ?_
  refine PySem.W.callWith_KW (first := [.ref a]) (h₀ := X.base) I.ok.mod.kin hm.kp hall (thn (ha.run pos pins s1 σ H1 _ I1 q) fun us s2 ⟨vs, H2, I2, r, q2⟩ => ?_) hpl hst
  refine thn (hkw.run pos pins s2 σ H2 _ I2 q2) fun ws s3 ⟨zs, H3, I3, rz, l1, l2, q3⟩ => ⟨I3.kIn, ?_⟩
  rw [hks]
  exact run_fnN (us := .ref a :: us) (vs := .ref a :: vs) F hr hb pass0 I3 (.cons rfl r) rz (by simpa using l1) l2 q3
end SzR

/-! What stands for what: a Measure for a rational, how many figures it has; promises of measures. -/
namespace Sz
open PySem PySem.Spec PyProof.Rows L2
/-! ### sizes in bits -/
/-- top and bottom have fewer than n figures -/
def Bd (n : Nat) (q : Rat) : Prop := q.num.natAbs < 2 ^ n ∧ q.den < 2 ^ n
theorem Bd.mono {n m : Nat} {q : Rat} (h : Bd n q) (l : n ≤ m) : Bd m q :=
  ⟨Nat.lt_of_lt_of_le h.1 (Nat.pow_le_pow_right (by decide) l), Nat.lt_of_lt_of_le h.2 (Nat.pow_le_pow_right (by decide) l)⟩
theorem bd_mkRat {n : Nat} {t : Int} {b : Nat} (h1 : t.natAbs < 2 ^ n) (h2 : b < 2 ^ n) (hb : 0 < b) : Bd n (mkRat t b) := by
  have h0 : b ≠ 0 := by omega
  constructor
  · rw [Rat.num_mkRat, if_neg h0]
    refine Nat.lt_of_le_of_lt ?_ h1
    have := Int.natAbs_ediv_le_natAbs t (b.gcd t.natAbs : Nat)
    exact this
  · rw [Rat.den_mkRat, if_neg h0]
    exact Nat.lt_of_le_of_lt (Nat.div_le_self _ _) h2
theorem natAbs_mul_lt {i j : Int} {a b : Nat} (ha : i.natAbs < 2 ^ a) (hb : j.natAbs < 2 ^ b) : (i * j).natAbs < 2 ^ (a + b) := by
  rw [Int.natAbs_mul, Nat.pow_add]
  exact Nat.mul_lt_mul'' ha hb
theorem den_mul_lt {i j a b : Nat} (ha : i < 2 ^ a) (hb : j < 2 ^ b) : i * j < 2 ^ (a + b) := by
  rw [Nat.pow_add]
  exact Nat.mul_lt_mul'' ha hb
theorem Bd.cross {n m : Nat} {q r : Rat} (h : Bd n q) (k : Bd m r) : (q.num * (r.den : Int)).natAbs < 2 ^ (n + m) := natAbs_mul_lt h.1 (by simpa using k.2)
theorem Bd.add {n m : Nat} {q r : Rat} (h : Bd n q) (k : Bd m r) : Bd (n + m + 1) (q + r) := by
  rw [Rat.add_def']
  have h1 := h.cross k
  have h2 := k.cross h
  rw [Nat.add_comm m n] at h2
  have h3 := den_mul_lt h.2 k.2
  have e : 2 ^ (n + m + 1) = 2 ^ (n + m) + 2 ^ (n + m) := by rw [Nat.pow_succ]; omega
  refine bd_mkRat ?_ (by omega) (Nat.mul_pos q.den_pos r.den_pos)
  have := Int.natAbs_add_le (q.num * r.den) (r.num * q.den)
  omega
theorem Bd.sub {n m : Nat} {q r : Rat} (h : Bd n q) (k : Bd m r) : Bd (n + m + 1) (q - r) := by
  rw [Rat.sub_def']
  have h1 := h.cross k
  have h2 := k.cross h
  rw [Nat.add_comm m n] at h2
  have h3 := den_mul_lt h.2 k.2
  have e : 2 ^ (n + m + 1) = 2 ^ (n + m) + 2 ^ (n + m) := by rw [Nat.pow_succ]; omega
  refine bd_mkRat ?_ (by omega) (Nat.mul_pos q.den_pos r.den_pos)
  have := Int.natAbs_sub_le (q.num * r.den) (r.num * q.den)
  omega
theorem Bd.mul {n m : Nat} {q r : Rat} (h : Bd n q) (k : Bd m r) : Bd (n + m) (q * r) := by
  rw [Rat.mul_def']
  exact bd_mkRat (natAbs_mul_lt h.1 k.1) (den_mul_lt h.2 k.2) (Nat.mul_pos q.den_pos r.den_pos)
theorem div_eq_mk (q : Rat) {m : Nat} (h : 0 < m) : mkRat q.num (q.den * m) = q / (m : Rat) := by
  have e : (q.num : Rat) / (q.den : Rat) = q := by rw [← Rat.mkRat_eq_div, Rat.mkRat_self]
  have hm : (m : Rat) ≠ 0 := by
    intro z
    have : m = 0 := by exact_mod_cast z
    omega
  have hd : (q.den : Rat) ≠ 0 := by
    intro z
    have : q.den = 0 := by exact_mod_cast z
    exact q.den_nz this
  rw [Rat.mkRat_eq_div, Rat.natCast_mul]
  grind
theorem Bd.div {n : Nat} {q : Rat} {m k : Nat} (h : Bd n q) (hm : 0 < m) (hk : m < 2 ^ k) : Bd (n + k) (q / (m : Rat)) := by
  rw [← div_eq_mk q hm]
  exact bd_mkRat (Nat.lt_of_lt_of_le h.1 (Nat.pow_le_pow_right (by decide) (by omega))) (den_mul_lt h.2 hk) (Nat.mul_pos q.den_pos hm)
theorem Bd.mid {n m : Nat} {q r : Rat} (h : Bd n q) (k : Bd m r) : Bd (n + m + 3) (mid q r) := by
  have := (h.add k).div (m := 2) (k := 2) (by decide) (by decide)
  exact this
theorem ofNat_mk (k : Nat) : mkRat (k : Int) 1 = (k : Rat) := by
  rw [Rat.mkRat_one]
  rfl
theorem bd_nat {n k : Nat} (h : k < 2 ^ n) (h0 : 0 < n) : Bd n (k : Rat) := by
  rw [← ofNat_mk]
  refine bd_mkRat (by simpa using h) ?_ (by decide)
  exact Nat.one_lt_two_pow (by omega)

/-! ### measures on the heap -/
abbrev CM (K : PySem.W.Frag) : Addr := He.ga K "Measure"
abbrev CS (K : PySem.W.Frag) : Addr := He.ga K "Stretch"
abbrev CL (K : PySem.W.Frag) : Addr := He.ga K "Ladder"
/-- the attributes, in the order of their stores -/
def mF (q : Rat) : List (Str × V) := putF "bottom" (.int q.den) (putF "top" (.int q.num) [])
theorem mF_top (q : Rat) : (mF q).lookup ("top" : Str) = some (.int q.num) := by
  unfold mF
  rw [lookup_putF, if_neg (by decide +kernel), lookup_putF, if_pos rfl]
theorem mF_bottom (q : Rat) : (mF q).lookup ("bottom" : Str) = some (.int q.den) := by
  unfold mF
  rw [lookup_putF, if_pos rfl]
theorem mF_no (q : Rat) {m : Str} (h1 : ¬ m = "top") (h2 : ¬ m = "bottom") : (mF q).lookup m = none := by
  unfold mF
  rw [lookup_putF, if_neg h2, lookup_putF, if_neg h1]
  rfl
section
variable {K : PySem.W.Frag} {H H' : Hp} {v : V} {q : Rat}
def Mv (K : PySem.W.Frag) (H : Hp) (v : V) (q : Rat) : Prop := ∃ p dx, v = .ref p ∧ H p = some (.ins (CM K) dx (mF q))
theorem Mv.up (h : Mv K H v q) (e : Same H H') : Mv K H' v q := let ⟨p, dx, a, b⟩ := h; ⟨p, dx, a, e _ _ b⟩
theorem Mv.ne (h : Mv K H v q) : v ≠ .non := by
  obtain ⟨p, dx, rfl, _⟩ := h
  exact fun z => nomatch z
/-- a measure or None -/
def MO (K : PySem.W.Frag) (H : Hp) (v : V) : Option Rat → Prop
  | none => v = .non
  | some q => Mv K H v q
theorem MO.up {o : Option Rat} (h : MO K H v o) (e : Same H H') : MO K H' v o := by
  cases o with
  | none => exact h
  | some q => exact Mv.up h e
/-- values row by row -/
abbrev Ms (K : PySem.W.Frag) (H : Hp) (vs : List V) (qs : List Rat) : Prop := Paired (Mv K H) vs qs
theorem Ms.up {vs : List V} {qs : List Rat} (h : Ms K H vs qs) (e : Same H H') : Ms K H' vs qs := Paired.mapP h fun _ _ z => z.up e
theorem Same.upd {p : Addr} {o : HO} (h : H p = none) : Same H (upd H p o) := fun a u e => by rw [upd_ne (ne_of_none e h)]; exact e
theorem Same.upd' {H1 : Hp} {p : Addr} {o : HO} (x : Same H H1) (h : H1 p = none) : Same H (L2.upd H1 p o) := x.trans (Same.upd h)
end
/-- size numbers as values -/
def oV : Option Nat → V
  | none => .non
  | some i => .int (i : Int)

/-! ### promises -/
section
variable (K : PySem.W.Frag)
def spWhole : Sp := fun vs H Q _ => ∃ i : Int, vs = [.int i] ∧ Q (.bl true) H
def spCommon : Sp := fun vs H Q _ => ∃ a b : Nat, vs = [.int (a : Int), .int (b : Int)] ∧ Q (.int (Nat.gcd a b : Nat)) H
/-- __init__: a bottom above nought -/
def spMkM : Sp := fun vs H Q _ => ∃ (x dx : Addr) (t : Int) (b : Nat), vs = [.ref x, .int t, .int (b : Int)] ∧ H x = some (.ins (CM K) dx []) ∧ 0 < b ∧ b < 2 ^ 8000 ∧
  Q .non (upd H x (.ins (CM K) dx (mF (mkRat t b))))
def spEqM : Sp := fun vs H Q _ => ∃ x y q r, vs = [x, y] ∧ Mv K H x q ∧ Mv K H y r ∧ Q (.bl (decide (q = r))) H
def spBin (f : Rat → Rat → Rat) : Sp := fun vs H Q _ => ∃ x y q r, vs = [x, y] ∧ Mv K H x q ∧ Mv K H y r ∧ Bd 2000 q ∧ Bd 2000 r ∧ ∀ v H', Same H H' → Mv K H' v (f q r) → Q v H'
def spParted : Sp := fun vs H Q _ => ∃ x q, ∃ m : Nat, vs = [x, .int (m : Int)] ∧ Mv K H x q ∧ Bd 4000 q ∧ 0 < m ∧ m < 2 ^ 64 ∧ ∀ v H', Same H H' → Mv K H' v (q / (m : Rat)) → Q v H'
def spBelow : Sp := fun vs H Q _ => ∃ x y q r al, vs = [x, y, .bl al] ∧ Mv K H x q ∧ Mv K H y r ∧ Bd 4000 q ∧ Bd 4000 r ∧ Q (.bl (decide (q < r) || (al && decide (q = r)))) H
def spMid : Sp := fun vs H Q _ => ∃ x y q r, vs = [x, y] ∧ Mv K H x q ∧ Mv K H y r ∧ Bd 1900 q ∧ Bd 1900 r ∧ ∀ v H', Same H H' → Mv K H' v (mid q r) → Q v H'
end
/-- what a Measure's tops and bottoms say of order -/
theorem lt_cross (q r : Rat) : (q.num * (r.den : Int) < r.num * (q.den : Int)) ↔ q < r := (Rat.lt_iff q r).symm
theorem eq_cross (q r : Rat) : (q.num * (r.den : Int) = r.num * (q.den : Int)) ↔ q = r := Rat.eq_iff_mul_eq_mul.symm
end Sz

/-! Measures: each def keeps its promise. -/
namespace Sz
open PySem PySem.Spec PyProof.Rows L2 SzR
section
variable {P : Program} {w : World} {K : PySem.W.Frag} {mg : Str → Option Value} {base : Heap}
theorem Txt.insM (T : Txt K mg w) : C8.InsC K (CM K) := by
  have h := T.more'
  unfold more at h
  simp only [Bool.and_eq_true, decide_eq_true_eq] at h
  obtain ⟨_, _, h1, h2, h3, h4, h5, _⟩ := h
  exact ⟨T.cls_Measure, He.eqO_ok h1, He.eqO_ok h2, h3, h4, h5⟩
theorem Txt.neM (T : Txt K mg w) : PySem.W.findIn K (.ref (CM K)) "__ne__" = some (some (.builtin "object.__ne__")) := by
  have h := T.more'
  unfold more at h
  simp only [Bool.and_eq_true, decide_eq_true_eq] at h
  exact He.eqO_ok h.2.2.2.2.2.2.2
theorem ok_is_whole (T : Txt K mg w) : C8.Cal P w K mg base 1 "is_whole" spWhole [] := by
  obtain ⟨fd, F⟩ := T.d_is_whole
  refine ⟨_, fd, ["thing"], [], F.ok sc_is_whole (fun vs H Q E h => ?_) (fun cdv A outer s H vs Q E hr h => ?_), T.glo_is_whole, F.kp, F.bindsN (fun _ _ _ _ _ _ us hl => match us, hl with | [_], _ => rfl), .nil⟩
  · obtain ⟨i, rfl, _⟩ := h
    rfl
  · obtain ⟨i, rfl, k⟩ := h
    refine ⟨_, PSs.nox (pss_one (ps_ret (pe_and
      (pe_callB call_isi (by rfl) T.free_isinstance (by decide +kernel) (pa_cons (pv 0) (pa_cons (pe_bltn (v := .ty "int") (by rfl) T.free_int (by decide +kernel) rfl) pa_nil)))
      (pe_one (pe_not (pe_callB call_isi (by rfl) T.free_isinstance (by decide +kernel) (pa_cons (pv 0) (pa_cons (pe_bltn (v := .ty "bool") (by rfl) T.free_bool (by decide +kernel) rfl) pa_nil)))))))), ?_⟩
    refine ⟨_, rfl, _, _, _, _, true, rfl, .ty _, .base (.int i), kit_ty (by decide +kernel), true, rfl, iteT ?_⟩
    exact ⟨_, rfl, _, _, _, _, false, rfl, .ty _, .base (.int i), kit_ty (by decide +kernel), false, rfl, k⟩
theorem ok_common (T : Txt K mg w) : C8.Cal P w K mg base 1 "common_part" spCommon [] := by
  obtain ⟨fd, F⟩ := T.d_common_part
  refine ⟨_, fd, ["many", "few"], [], F.ok sc_common_part (fun vs H Q E h => ?_) (fun cdv A outer s H vs Q E hr h => ?_), T.glo_common_part, F.kp, F.bindsN (fun _ _ _ _ _ _ us hl => match us, hl with | [_, _], _ => rfl), .nil⟩
  · obtain ⟨a, b, rfl, _⟩ := h
    rfl
  · obtain ⟨a, b, rfl, k⟩ := h
    refine ⟨_, PSs.nox (pss_cons (ps_while PassesOwn.never (pt_cmpR op_gt (pv 1) pe_int (nomark _))
        (pss_one (ps_par (i := 0) (j := 1) rfl sc_common_part.nd rfl rfl (by decide) rfl rfl (pa_cons (pv 1) (pa_cons (pe_op op_mod (pv 0) (pv 1)) pa_nil)) rfl)))
      (pss_one (ps_ret (pv 0)))), ?_⟩
    refine while_by (fun σ H' => H' = H ∧ ∃ m n : Nat, σ = [some (.int (m : Int)), some (.int (n : Int))] ∧ Nat.gcd m n = Nat.gcd a b)
      (fun σ _ => match σ with | [_, some (.int n)] => n.toNat | _ => 0) ⟨rfl, a, b, rfl, rfl⟩ ?_ ?_
    · rintro σ H' ⟨rfl, m, n, rfl, e⟩
      refine ⟨_, rfl, _, _, rfl, rfl, _, rfl, ?_⟩
      by_cases h0 : 0 < n
      · have hd : decide ((0 : Int) < (n : Int)) = true := decide_eq_true (by omega)
        rw [hd]
        refine iteT ?_
        refine ⟨_, rfl, _, rfl, _, rfl, _, _, rfl, rfl, (by omega), _, _, rfl, ⟨rfl, n, m % n, rfl, ?_⟩, ?_⟩
        · rw [← e, Nat.gcd_comm m n, Nat.gcd_rec n m, Nat.gcd_comm]
        · show ((m : Int) % (n : Int)).toNat < (n : Int).toNat
          have := Nat.mod_lt m h0
          omega
      · have hn : n = 0 := by omega
        subst hn
        refine iteF ?_
        refine ⟨_, rfl, ?_⟩
        rw [Nat.gcd_zero_right] at e
        rw [e]
        exact k
    · rintro σ H' Q1 Q2 i ⟨x, hx, i1, j1, e1, e2, c, e3, q⟩
      exact ⟨x, hx, i1, j1, e1, e2, c, e3, i _ _ q⟩
theorem abs_nat (t : Int) : (if t < 0 then -t else t) = (t.natAbs : Int) := by
  split <;> omega
theorem ok_M_init (T : Txt K mg w) (c1 : C8.Cal P w K mg base 1 "is_whole" spWhole []) (c2 : C8.Cal P w K mg base 1 "common_part" spCommon []) :
    ∃ fd, FunD K "__init__" "Measure.__init__" (defArgs s_M_init) (defBody s_M_init) (defScope s_M_init) [.int 1] [] (He.ma K (CM K) "__init__") fd ∧
      FnOk P w K mg base C8.CX0 2 (He.ma K (CM K) "__init__") fd ["self", "top", "bottom"] (spMkM K) := by
  obtain ⟨fd, F⟩ := T.d_M_init
  refine ⟨fd, F, F.ok sc_M_init (fun vs H Q E h => ?_) (fun cdv A outer s H vs Q E hr h => ?_)⟩
  · obtain ⟨x, dx, t, b, rfl, _⟩ := h
    rfl
  · obtain ⟨x, dx, t, b, rfl, hx, hb, hb8, k⟩ := h
    refine ⟨_, PSs.nox (pss_cons (ps_if (PW.pt (pw_or (pt_not (pt_val (C8.pe_c c1 hr (by decide) (by rfl) (pa_cons (pv 1) pa_nil))))
          (pw_or1 (pt_not (pt_val (C8.pe_c c1 hr (by decide) (by rfl) (pa_cons (pv 2) pa_nil))))))) pss_never pss_nil)
      (pss_cons (ps_if (pt_cmpR op_eq (pv 2) pe_int (nomark _)) pss_never pss_nil)
      (pss_cons (ps_set (i := 3) sc_M_init.nd rfl (Or.inl rfl) (C8.pe_c c2 hr (by decide) (by rfl)
        (pa_cons (pe_callB call_abs (by rfl) T.free_abs (by decide +kernel) (pa_cons (pv 1) pa_nil)) (pa_cons (pe_callB call_abs (by rfl) T.free_abs (by decide +kernel) (pa_cons (pv 2) pa_nil)) pa_nil))))
      (pss_cons (ps_if (pt_cmpR op_lt (pv 2) pe_int (nomark _)) (pss_one (ps_set (i := 3) sc_M_init.nd rfl (Or.inl rfl) (pe_op op_sub pe_int (pv 3)))) pss_nil)
      (pss_cons (ps_fld (pv 0) (pe_op op_fdivW (pv 1) (pv 3)) rfl)
      (pss_one (ps_fld (pv 0) (pe_op op_fdivW (pv 2) (pv 3)) rfl))))))), ?_⟩
    refine ⟨_, rfl, t, rfl, true, rfl, iteF ?_⟩
    refine ⟨_, rfl, (b : Int), rfl, true, rfl, iteF ?_⟩
    refine ⟨_, rfl, rfl, _, rfl, ?_⟩
    rw [decide_eq_false (fun e : V.int (b : Int) = V.int 0 => by injection e with e; omega)]
    refine iteF ?_
    refine ⟨_, rfl, t, rfl, _, rfl, (b : Int), rfl, t.natAbs, b, ?_, ?_⟩
    · rw [abs_nat, abs_nat, Int.natAbs_natCast]
      rfl
    refine ⟨_, rfl, _, _, rfl, rfl, _, rfl, ?_⟩
    rw [decide_eq_false (show ¬ ((b : Int) < 0) by omega)]
    refine iteF ?_
    have hg : 0 < Nat.gcd t.natAbs b := Nat.gcd_pos_of_pos_right _ hb
    have hgb : Nat.gcd t.natAbs b < 2 ^ 8000 := Nat.lt_of_le_of_lt (Nat.gcd_le_right _ hb) hb8
    have hdiv : ∀ i : Int, CDivW i ((Nat.gcd t.natAbs b : Nat) : Int) := fun i => wide_div (b := 8000) (by omega) (by simpa using hgb) (by decide) (by decide)
    refine ⟨_, rfl, _, rfl, _, _, rfl, rfl, hdiv _, _, rfl, x, CM K, dx, _, rfl, hx, T.cls_Measure, T.noat_Measure_top, (by show 0 < 1000; decide), ?_⟩
    refine ⟨_, rfl, _, rfl, _, _, rfl, rfl, hdiv _, _, rfl, x, CM K, dx, _, rfl, upd_same, T.cls_Measure, T.noat_Measure_bottom, (by show 1 < 1000; decide), ?_⟩
    have e1 : (mkRat t b).num = t / ((Nat.gcd t.natAbs b : Nat) : Int) := by
      rw [Rat.num_mkRat, if_neg (by omega), Nat.gcd_comm]
    have e2 : ((mkRat t b).den : Int) = (b : Int) / ((Nat.gcd t.natAbs b : Nat) : Int) := by
      rw [Rat.den_mkRat, if_neg (by omega), Nat.gcd_comm]
      exact Int.natCast_ediv _ _
    have e3 : mF (mkRat t b) = putF "bottom" (V.int ((b : Int) / ((Nat.gcd t.natAbs b : Nat) : Int))) (putF "top" (V.int (t / ((Nat.gcd t.natAbs b : Nat) : Int))) []) := by
      unfold mF
      rw [e1, e2]
    rw [upd_upd, ← e3]
    exact k
/-- Measure(t, b); Measure(t) -/
theorem mak_M2 (T : Txt K mg w) (c1 : C8.Cal P w K mg base 1 "is_whole" spWhole []) (c2 : C8.Cal P w K mg base 1 "common_part" spCommon []) : C8.Mak P w K mg base 2 "Measure" (CM K) (spMkM K) [] := by
  obtain ⟨fd, F, O⟩ := ok_M_init (base := base) (P := P) T c1 c2
  obtain ⟨ds, h1, h2⟩ := F.binds1 (ps := ["self", "top", "bottom"]) 3 1 (by simp) (by simp) (fun T kV doc pm an cdv ct us its hu hi => ⟨_, rfl, match us, its, hu, hi with | [_, _, _], [_], _, _ => rfl⟩)
  cases h1
  exact ⟨_, fd, _, [], T.mkr_Measure, O, T.glo_Measure, h2, .nil⟩
theorem mak_M1 (T : Txt K mg w) (c1 : C8.Cal P w K mg base 1 "is_whole" spWhole []) (c2 : C8.Cal P w K mg base 1 "common_part" spCommon []) : C8.Mak P w K mg base 2 "Measure" (CM K) (spMkM K) [.int 1] := by
  obtain ⟨fd, F, O⟩ := ok_M_init (base := base) (P := P) T c1 c2
  obtain ⟨ds, h1, h2⟩ := F.binds1 (ps := ["self", "top", "bottom"]) 2 0 (by simp) (by simp) (fun T kV doc pm an cdv ct us its hu hi => ⟨_, rfl, match us, its, hu, hi with | [_, _], [_], _, _ => rfl⟩)
  exact ⟨_, fd, _, ds, T.mkr_Measure, O, T.glo_Measure, h2, h1⟩
end
end Sz

/-! Measures, the second part: ==, the four reckonings, is_below, midst. -/
namespace Sz
open PySem PySem.Spec PyProof.Rows L2 SzR
section
variable {P : Program} {w : World} {K : PySem.W.Frag} {mg : Str → Option Value} {base : Heap}
theorem made3 {H : Hp} {x dx : Addr} {o o' : HO} (nx : H x = none) (nd : H dx = none) : Same H (upd (upd (upd H dx (.own x)) x o) x o') := fun b u e => by
  rw [upd_upd, upd_ne (ne_of_none e nx), upd_ne (ne_of_none e nd)]
  exact e
theorem Mv.at {H : Hp} {x : V} {q : Rat} {m : Str} (h : Mv K H x q) (h1 : ¬ m = "top") (h2 : ¬ m = "bottom") {R : Prop} (r : R) :
    ∃ a dx fs, x = .ref a ∧ H a = some (.ins (CM K) dx fs) ∧ fs.lookup m = none ∧ R := by
  obtain ⟨p, dx, e, hp⟩ := h
  exact ⟨p, dx, _, e, hp, mF_no q h1 h2, r⟩
theorem mul_ok {n m : Nat} {i j : Int} (h1 : i.natAbs < 2 ^ n) (h2 : j.natAbs < 2 ^ m) (h0 : 0 < n) (h3 : 0 < m) (h : n + m ≤ 1000000) : CMulW i j := wide_mul h1 h2 h0 h3 h
theorem Bd.n {n : Nat} {q : Rat} (h : Bd n q) : q.num.natAbs < 2 ^ n := h.1
theorem Bd.d {n : Nat} {q : Rat} (h : Bd n q) : (q.den : Int).natAbs < 2 ^ n := by simpa using h.2
theorem Bd.dd {n m k : Nat} {q r : Rat} (h : Bd n q) (h' : Bd m r) (hk : n + m ≤ k) : q.den * r.den < 2 ^ k := Nat.lt_of_lt_of_le (den_mul_lt h.2 h'.2) (Nat.pow_le_pow_right (by decide) hk)
theorem ok_M_eq (T : Txt K mg w) : C8.Met P w K mg base 1 (CM K) "__eq__" (spEqM K) [] := by
  obtain ⟨fd, F⟩ := T.d_M_eq
  refine ⟨_, fd, ["self", "other"], [], T.cls_Measure, T.meth_Measure_eq, F.ok sc_M_eq (fun vs H Q E h => ?_) (fun cdv A outer s H vs Q E hr h => ?_), F.bindsN (fun _ _ _ _ _ _ us hl => match us, hl with | [_, _], _ => rfl), .nil⟩
  · obtain ⟨x, y, q, r, rfl, _⟩ := h
    rfl
  · obtain ⟨x, y, q, r, rfl, ⟨p, dx, rfl, hp⟩, ⟨p', dx', rfl, hp'⟩, k⟩ := h
    refine ⟨_, PSs.nox (pss_one (ps_ret (pe_and
      (pe_callB (C8.call_isC T.insM) (by rfl) T.free_isinstance (by decide +kernel) (pa_cons (pv 1) (pa_cons (pe_glob (v := .ref (CM K)) (by rfl) T.glo_Measure rfl) pa_nil)))
      (pe_and (pe_cmpR op_eq (pe_fld (pv 0) rfl) (pe_fld (pv 1) rfl) (nomark _)) (pe_one (pe_cmpR op_eq (pe_fld (pv 0) rfl) (pe_fld (pv 1) rfl) (nomark _))))))), ?_⟩
    refine ⟨_, rfl, p', dx', _, rfl, hp', true, rfl, iteT ?_⟩
    refine ⟨_, rfl, p, _, dx, _, _, rfl, hp, T.cls_Measure, T.noat_Measure_top, mF_top _, _, rfl, p', _, dx', _, _, rfl, hp', T.cls_Measure, T.noat_Measure_top, mF_top _, rfl, _, rfl, ?_⟩
    by_cases e1 : q.num = r.num
    · rw [decide_eq_true (congrArg V.int e1)]
      refine iteT ?_
      refine ⟨_, rfl, p, _, dx, _, _, rfl, hp, T.cls_Measure, T.noat_Measure_bottom, mF_bottom _, _, rfl, p', _, dx', _, _, rfl, hp', T.cls_Measure, T.noat_Measure_bottom, mF_bottom _, rfl, ?_⟩
      have e : decide (V.int (q.den : Int) = V.int (r.den : Int)) = decide (q = r) := by
        by_cases e2 : q = r
        · rw [decide_eq_true e2, e2]
          exact decide_eq_true rfl
        · rw [decide_eq_false e2]
          refine decide_eq_false fun z => e2 (Rat.ext e1 ?_)
          injection z with z
          exact_mod_cast z
      rw [e]
      exact k
    · rw [decide_eq_false (fun z : V.int q.num = V.int r.num => e1 (by injection z))]
      refine iteF ?_
      rw [decide_eq_false (fun z => e1 (by rw [z]))] at k
      exact k
theorem ok_plus (T : Txt K mg w) (mk : C8.Mak P w K mg base 2 "Measure" (CM K) (spMkM K) []) : C8.Met P w K mg base 4 (CM K) "plus" (spBin K (· + ·)) [] := by
  obtain ⟨fd, F⟩ := T.d_M_plus
  refine ⟨_, fd, ["self", "other"], [], T.cls_Measure, T.meth_Measure_plus, F.ok sc_M_plus (fun vs H Q E h => ?_) (fun cdv A outer s H vs Q E hr h => ?_), F.bindsN (fun _ _ _ _ _ _ us hl => match us, hl with | [_, _], _ => rfl), .nil⟩
  · obtain ⟨x, y, q, r, rfl, _⟩ := h
    rfl
  · obtain ⟨x, y, q, r, rfl, ⟨p, dx, rfl, hp⟩, ⟨p', dx', rfl, hp'⟩, b1, b2, k⟩ := h
    refine ⟨_, PSs.nox (pss_one (ps_ret (C8.pe_mk mk hr (by decide) (by rfl)
      (pa_cons (pe_op op_add (pe_op op_mulW (pe_fld (pv 0) rfl) (pe_fld (pv 1) rfl)) (pe_op op_mulW (pe_fld (pv 1) rfl) (pe_fld (pv 0) rfl)))
        (pa_cons (pe_op op_mulW (pe_fld (pv 0) rfl) (pe_fld (pv 1) rfl)) pa_nil))))), ?_⟩
    refine ⟨_, rfl, p, _, dx, _, _, rfl, hp, T.cls_Measure, T.noat_Measure_top, mF_top _, _, rfl, p', _, dx', _, _, rfl, hp', T.cls_Measure, T.noat_Measure_bottom, mF_bottom _, _, _, rfl, rfl, mul_ok b1.n b2.d (by decide) (by decide) (by decide), ?_⟩
    refine ⟨_, rfl, p', _, dx', _, _, rfl, hp', T.cls_Measure, T.noat_Measure_top, mF_top _, _, rfl, p, _, dx, _, _, rfl, hp, T.cls_Measure, T.noat_Measure_bottom, mF_bottom _, _, _, rfl, rfl, mul_ok b2.n b1.d (by decide) (by decide) (by decide), _, _, rfl, rfl, ?_⟩
    refine ⟨_, rfl, p, _, dx, _, _, rfl, hp, T.cls_Measure, T.noat_Measure_bottom, mF_bottom _, _, rfl, p', _, dx', _, _, rfl, hp', T.cls_Measure, T.noat_Measure_bottom, mF_bottom _, _, _, rfl, rfl, mul_ok b1.d b2.d (by decide) (by decide) (by decide), ?_⟩
    intro z dz nz ndz nez
    refine ⟨z, dz, _, q.den * r.den, rfl, upd_same, Nat.mul_pos q.den_pos r.den_pos, b1.dd b2 (by decide), rfl, ?_⟩
    exact k _ _ (made3 nz ndz) ⟨z, dz, rfl, by show _ = some (HO.ins (CM K) dz (mF (q + r))); rw [Rat.add_def']; exact upd_same⟩
theorem ok_minus (T : Txt K mg w) (mk : C8.Mak P w K mg base 2 "Measure" (CM K) (spMkM K) []) : C8.Met P w K mg base 4 (CM K) "minus" (spBin K (· - ·)) [] := by
  obtain ⟨fd, F⟩ := T.d_M_minus
  refine ⟨_, fd, ["self", "other"], [], T.cls_Measure, T.meth_Measure_minus, F.ok sc_M_minus (fun vs H Q E h => ?_) (fun cdv A outer s H vs Q E hr h => ?_), F.bindsN (fun _ _ _ _ _ _ us hl => match us, hl with | [_, _], _ => rfl), .nil⟩
  · obtain ⟨x, y, q, r, rfl, _⟩ := h
    rfl
  · obtain ⟨x, y, q, r, rfl, ⟨p, dx, rfl, hp⟩, ⟨p', dx', rfl, hp'⟩, b1, b2, k⟩ := h
    refine ⟨_, PSs.nox (pss_one (ps_ret (C8.pe_mk mk hr (by decide) (by rfl)
      (pa_cons (pe_op op_sub (pe_op op_mulW (pe_fld (pv 0) rfl) (pe_fld (pv 1) rfl)) (pe_op op_mulW (pe_fld (pv 1) rfl) (pe_fld (pv 0) rfl)))
        (pa_cons (pe_op op_mulW (pe_fld (pv 0) rfl) (pe_fld (pv 1) rfl)) pa_nil))))), ?_⟩
    refine ⟨_, rfl, p, _, dx, _, _, rfl, hp, T.cls_Measure, T.noat_Measure_top, mF_top _, _, rfl, p', _, dx', _, _, rfl, hp', T.cls_Measure, T.noat_Measure_bottom, mF_bottom _, _, _, rfl, rfl, mul_ok b1.n b2.d (by decide) (by decide) (by decide), ?_⟩
    refine ⟨_, rfl, p', _, dx', _, _, rfl, hp', T.cls_Measure, T.noat_Measure_top, mF_top _, _, rfl, p, _, dx, _, _, rfl, hp, T.cls_Measure, T.noat_Measure_bottom, mF_bottom _, _, _, rfl, rfl, mul_ok b2.n b1.d (by decide) (by decide) (by decide), _, _, rfl, rfl, ?_⟩
    refine ⟨_, rfl, p, _, dx, _, _, rfl, hp, T.cls_Measure, T.noat_Measure_bottom, mF_bottom _, _, rfl, p', _, dx', _, _, rfl, hp', T.cls_Measure, T.noat_Measure_bottom, mF_bottom _, _, _, rfl, rfl, mul_ok b1.d b2.d (by decide) (by decide) (by decide), ?_⟩
    intro z dz nz ndz nez
    refine ⟨z, dz, _, q.den * r.den, rfl, upd_same, Nat.mul_pos q.den_pos r.den_pos, b1.dd b2 (by decide), rfl, ?_⟩
    exact k _ _ (made3 nz ndz) ⟨z, dz, rfl, by show _ = some (HO.ins (CM K) dz (mF (q - r))); rw [Rat.sub_def']; exact upd_same⟩
theorem ok_times (T : Txt K mg w) (mk : C8.Mak P w K mg base 2 "Measure" (CM K) (spMkM K) []) : C8.Met P w K mg base 4 (CM K) "times" (spBin K (· * ·)) [] := by
  obtain ⟨fd, F⟩ := T.d_M_times
  refine ⟨_, fd, ["self", "other"], [], T.cls_Measure, T.meth_Measure_times, F.ok sc_M_times (fun vs H Q E h => ?_) (fun cdv A outer s H vs Q E hr h => ?_), F.bindsN (fun _ _ _ _ _ _ us hl => match us, hl with | [_, _], _ => rfl), .nil⟩
  · obtain ⟨x, y, q, r, rfl, _⟩ := h
    rfl
  · obtain ⟨x, y, q, r, rfl, ⟨p, dx, rfl, hp⟩, ⟨p', dx', rfl, hp'⟩, b1, b2, k⟩ := h
    refine ⟨_, PSs.nox (pss_one (ps_ret (C8.pe_mk mk hr (by decide) (by rfl)
      (pa_cons (pe_op op_mulW (pe_fld (pv 0) rfl) (pe_fld (pv 1) rfl)) (pa_cons (pe_op op_mulW (pe_fld (pv 0) rfl) (pe_fld (pv 1) rfl)) pa_nil))))), ?_⟩
    refine ⟨_, rfl, p, _, dx, _, _, rfl, hp, T.cls_Measure, T.noat_Measure_top, mF_top _, _, rfl, p', _, dx', _, _, rfl, hp', T.cls_Measure, T.noat_Measure_top, mF_top _, _, _, rfl, rfl, mul_ok b1.n b2.n (by decide) (by decide) (by decide), ?_⟩
    refine ⟨_, rfl, p, _, dx, _, _, rfl, hp, T.cls_Measure, T.noat_Measure_bottom, mF_bottom _, _, rfl, p', _, dx', _, _, rfl, hp', T.cls_Measure, T.noat_Measure_bottom, mF_bottom _, _, _, rfl, rfl, mul_ok b1.d b2.d (by decide) (by decide) (by decide), ?_⟩
    intro z dz nz ndz nez
    refine ⟨z, dz, _, q.den * r.den, rfl, upd_same, Nat.mul_pos q.den_pos r.den_pos, b1.dd b2 (by decide), rfl, ?_⟩
    exact k _ _ (made3 nz ndz) ⟨z, dz, rfl, by show _ = some (HO.ins (CM K) dz (mF (q * r))); rw [Rat.mul_def']; exact upd_same⟩
theorem ok_parted (T : Txt K mg w) (mk : C8.Mak P w K mg base 2 "Measure" (CM K) (spMkM K) []) :
    C8.Met P w K mg base 4 (CM K) "parted" (spParted K) [] ∧ C8.Met P w K mg base 4 (CM K) "parted" (spParted K) [.int 2] := by
  obtain ⟨fd, F⟩ := T.d_M_parted
  have O : FnOk P w K mg base C8.CX0 4 (He.fAd K ("Measure", some "parted")) fd ["self", "many"] (spParted K) := by
    refine F.ok sc_M_parted (fun vs H Q E h => ?_) (fun cdv A outer s H vs Q E hr h => ?_)
    · obtain ⟨x, q, m, rfl, _⟩ := h
      rfl
    · obtain ⟨x, q, m, rfl, ⟨p, dx, rfl, hp⟩, b1, hm, hm2, k⟩ := h
      refine ⟨_, PSs.nox (pss_one (ps_ret (C8.pe_mk mk hr (by decide) (by rfl)
        (pa_cons (pe_fld (pv 0) rfl) (pa_cons (pe_op op_mulW (pe_fld (pv 0) rfl) (pv 1)) pa_nil))))), ?_⟩
      refine ⟨_, rfl, p, _, dx, _, _, rfl, hp, T.cls_Measure, T.noat_Measure_top, mF_top _, ?_⟩
      refine ⟨_, rfl, p, _, dx, _, _, rfl, hp, T.cls_Measure, T.noat_Measure_bottom, mF_bottom _, _, rfl, _, _, rfl, rfl, mul_ok (m := 64) b1.d (by simpa using hm2) (by decide) (by decide) (by decide), ?_⟩
      intro z dz nz ndz nez
      refine ⟨z, dz, _, q.den * m, rfl, upd_same, Nat.mul_pos q.den_pos hm, ?_, rfl, ?_⟩
      · exact Nat.lt_of_lt_of_le (den_mul_lt b1.2 hm2) (Nat.pow_le_pow_right (by decide) (by decide))
      · exact k _ _ (made3 nz ndz) ⟨z, dz, rfl, by rw [← div_eq_mk q hm]; exact upd_same⟩
  obtain ⟨ds, h1, h2⟩ := F.binds1 (ps := ["self", "many"]) 2 1 (by simp) (by simp) (fun T kV doc pm an cdv ct us its hu hi => ⟨_, rfl, match us, its, hu, hi with | [_, _], [_], _, _ => rfl⟩)
  obtain ⟨ds', h1', h2'⟩ := F.binds1 (ps := ["self", "many"]) 1 0 (by simp) (by simp) (fun T kV doc pm an cdv ct us its hu hi => ⟨_, rfl, match us, its, hu, hi with | [_], [_], _, _ => rfl⟩)
  exact ⟨⟨_, fd, _, ds, T.cls_Measure, T.meth_Measure_parted, O, h2, h1⟩, ⟨_, fd, _, ds', T.cls_Measure, T.meth_Measure_parted, O, h2', h1'⟩⟩
theorem ok_below0 (T : Txt K mg w) : ∃ fd, FunD K "is_below" "Measure.is_below" (defArgs s_M_is_below) (defBody s_M_is_below) (defScope s_M_is_below) [.bl false] [] (He.fAd K ("Measure", some "is_below")) fd ∧
    FnOk P w K mg base C8.CX0 1 (He.fAd K ("Measure", some "is_below")) fd ["self", "other", "alike"] (spBelow K) := by
  obtain ⟨fd, F⟩ := T.d_M_is_below
  refine ⟨fd, F, F.ok sc_M_is_below (fun vs H Q E h => ?_) (fun cdv A outer s H vs Q E hr h => ?_)⟩
  · obtain ⟨x, y, q, r, al, rfl, _⟩ := h
    rfl
  · obtain ⟨x, y, q, r, al, rfl, ⟨p, dx, rfl, hp⟩, ⟨p', dx', rfl, hp'⟩, b1, b2, k⟩ := h
    refine ⟨_, PSs.nox (pss_cons (ps_par (i := 3) (j := 4) rfl sc_M_is_below.nd rfl rfl (by decide) rfl rfl
        (pa_cons (pe_op op_mulW (pe_fld (pv 0) rfl) (pe_fld (pv 1) rfl)) (pa_cons (pe_op op_mulW (pe_fld (pv 1) rfl) (pe_fld (pv 0) rfl)) pa_nil)) rfl)
      (pss_one (ps_ret (pe_or (pe_cmpR op_lt (pv 3) (pv 4) (nomark _)) (pe_one (pe_and (pv 2) (pe_one (pe_cmpR op_eq (pv 3) (pv 4) (nomark _))))))))), ?_⟩
    refine ⟨_, rfl, p, _, dx, _, _, rfl, hp, T.cls_Measure, T.noat_Measure_top, mF_top _, _, rfl, p', _, dx', _, _, rfl, hp', T.cls_Measure, T.noat_Measure_bottom, mF_bottom _, _, _, rfl, rfl, mul_ok b1.n b2.d (by decide) (by decide) (by decide), ?_⟩
    refine ⟨_, rfl, p', _, dx', _, _, rfl, hp', T.cls_Measure, T.noat_Measure_top, mF_top _, _, rfl, p, _, dx, _, _, rfl, hp, T.cls_Measure, T.noat_Measure_bottom, mF_bottom _, _, _, rfl, rfl, mul_ok b2.n b1.d (by decide) (by decide) (by decide), _, _, rfl, ?_⟩
    refine ⟨_, rfl, _, rfl, _, _, rfl, rfl, _, rfl, ?_⟩
    have e1 : decide (q.num * (r.den : Int) < r.num * (q.den : Int)) = decide (q < r) := decide_eq_decide.mpr (lt_cross q r)
    have e2 : decide (V.int (q.num * (r.den : Int)) = V.int (r.num * (q.den : Int))) = decide (q = r) := by
      refine decide_eq_decide.mpr ⟨fun z => (eq_cross q r).mp (by injection z), fun z => congrArg V.int ((eq_cross q r).mpr z)⟩
    rw [e1]
    cases c1 : decide (q < r) with
    | true =>
      refine iteT ?_
      rw [c1] at k
      exact k
    | false =>
      refine iteF ?_
      rw [c1, Bool.false_or] at k
      refine ⟨_, rfl, al, rfl, ?_⟩
      cases al with
      | false => exact iteF k
      | true =>
        refine iteT ?_
        refine ⟨_, rfl, _, rfl, rfl, ?_⟩
        rw [e2]
        exact k
theorem ok_below (T : Txt K mg w) : C8.Met P w K mg base 1 (CM K) "is_below" (spBelow K) [.bl false] := by
  obtain ⟨fd, F, O⟩ := ok_below0 (P := P) (base := base) T
  obtain ⟨ds, h1, h2⟩ := F.binds1 (ps := ["self", "other", "alike"]) 2 0 (by simp) (by simp) (fun T kV doc pm an cdv ct us its hu hi => ⟨_, rfl, match us, its, hu, hi with | [_, _], [_], _, _ => rfl⟩)
  exact ⟨_, fd, _, ds, T.cls_Measure, T.meth_Measure_is_below, O, h2, h1⟩
theorem ok_midst (T : Txt K mg w) (c1 : C8.Met P w K mg base 4 (CM K) "plus" (spBin K (· + ·)) []) (c2 : C8.Met P w K mg base 4 (CM K) "parted" (spParted K) [.int 2]) :
    C8.Cal P w K mg base 5 "midst" (spMid K) [] := by
  obtain ⟨fd, F⟩ := T.d_midst
  refine ⟨_, fd, ["here", "there"], [], F.ok sc_midst (fun vs H Q E h => ?_) (fun cdv A outer s H vs Q E hr h => ?_), T.glo_midst, F.kp, F.bindsN (fun _ _ _ _ _ _ us hl => match us, hl with | [_, _], _ => rfl), .nil⟩
  · obtain ⟨x, y, q, r, rfl, _⟩ := h
    rfl
  · obtain ⟨x, y, q, r, rfl, hx, hy, b1, b2, k⟩ := h
    refine ⟨_, PSs.nox (pss_one (ps_ret (C8.pe_mt0 c2 hr (by decide) (C8.pe_mt c1 hr (by decide) (pv 0) (pa_cons (pv 1) pa_nil))))), ?_⟩
    refine ⟨_, rfl, hx.at (by decide +kernel) (by decide +kernel) ⟨_, rfl, x, y, q, r, rfl, hx, hy, b1.mono (by decide), b2.mono (by decide), fun v H' e hv => ?_⟩⟩
    refine hv.at (by decide +kernel) (by decide +kernel) ⟨v, q + r, 2, rfl, hv, (b1.add b2).mono (by decide), by decide, by decide, fun v' H'' e' hv' => ?_⟩
    exact k v' H'' (e.trans e') hv'
end
end Sz

/-! Stretches: each def keeps its promise. -/
namespace Sz
open PySem PySem.Spec PyProof.Rows L2 SzR
/-- the attributes of a stretch, in the order of their stores -/
def sF (l h : V) (a b : Bool) : List (Str × V) := putF "high_in" (.bl b) (putF "low_in" (.bl a) (putF "high" h (putF "low" l [])))
section
variable (l h : V) (a b : Bool)
theorem sF_low : (sF l h a b).lookup ("low" : Str) = some l := by
  unfold sF
  rw [lookup_putF, if_neg (by decide +kernel), lookup_putF, if_neg (by decide +kernel), lookup_putF, if_neg (by decide +kernel), lookup_putF, if_pos rfl]
theorem sF_high : (sF l h a b).lookup ("high" : Str) = some h := by
  unfold sF
  rw [lookup_putF, if_neg (by decide +kernel), lookup_putF, if_neg (by decide +kernel), lookup_putF, if_pos rfl]
theorem sF_li : (sF l h a b).lookup ("low_in" : Str) = some (.bl a) := by
  unfold sF
  rw [lookup_putF, if_neg (by decide +kernel), lookup_putF, if_pos rfl]
theorem sF_hi : (sF l h a b).lookup ("high_in" : Str) = some (.bl b) := by
  unfold sF
  rw [lookup_putF, if_pos rfl]
theorem sF_cut : (sF l h a b).lookup ("cut" : Str) = none := by
  unfold sF
  rw [lookup_putF, if_neg (by decide +kernel), lookup_putF, if_neg (by decide +kernel), lookup_putF, if_neg (by decide +kernel), lookup_putF, if_neg (by decide +kernel)]
  rfl
end
def BdO (n : Nat) (o : Option Rat) : Prop := ∀ q, o = some q → Bd n q
theorem BdO.some {n : Nat} {q : Rat} (h : Bd n q) : BdO n (some q) := fun r e => by cases e; exact h
theorem BdO.none {n : Nat} : BdO n none := fun r e => nomatch e
theorem BdO.mono {n m : Nat} {o : Option Rat} (h : BdO n o) (l : n ≤ m) : BdO m o := fun q e => (h q e).mono l
def BdS (n : Nat) (s : Strt) : Prop := BdO n s.low ∧ BdO n s.high
/-- a stretch stands at v -/
def Sv (K : PySem.W.Frag) (H : Hp) (v : V) (s : Strt) : Prop := ∃ p dx l h, v = .ref p ∧ H p = some (.ins (CS K) dx (sF l h s.li s.hi)) ∧ MO K H l s.low ∧ MO K H h s.high
theorem Sv.up {K : PySem.W.Frag} {H H' : Hp} {v : V} {s : Strt} (h : Sv K H v s) (e : Same H H') : Sv K H' v s :=
  let ⟨p, dx, l, r, a, b, c, d⟩ := h
  ⟨p, dx, l, r, a, e _ _ b, c.up e, d.up e⟩
def SO (K : PySem.W.Frag) (H : Hp) (v : V) : Option Strt → Prop
  | none => v = .non
  | some s => Sv K H v s
theorem SO.up {K : PySem.W.Frag} {H H' : Hp} {v : V} {o : Option Strt} (h : SO K H v o) (e : Same H H') : SO K H' v o := by
  cases o with
  | none => exact h
  | some s => exact Sv.up h e
section
variable (K : PySem.W.Frag)
def spIsEnd : Sp := fun vs H Q _ => ∃ x o, vs = [x] ∧ MO K H x o ∧ Q (.bl true) H
def spIsSome : Sp := fun vs H Q _ => ∃ x y o u a b, vs = [x, y, .bl a, .bl b] ∧ MO K H x o ∧ MO K H y u ∧ BdO 4000 o ∧ BdO 4000 u ∧ Q (.bl (isSome o u a b)) H
def spMkS : Sp := fun vs H Q _ => ∃ (z dx : Addr) (x y : V) (o u : Option Rat) (a b : Bool), vs = [.ref z, x, y, .bl a, .bl b] ∧ H z = some (.ins (CS K) dx []) ∧ MO K H x o ∧ MO K H y u ∧ BdO 4000 o ∧ BdO 4000 u ∧ isSome o u a b = true ∧
  Q .non (upd H z (.ins (CS K) dx (sF x y (o.isSome && a) (u.isSome && b))))
def spLater : Sp := fun vs H Q _ => ∃ x y s t, vs = [x, y] ∧ Sv K H x s ∧ Sv K H y t ∧ BdS 4000 s ∧ BdS 4000 t ∧
  ∀ p l H', Same H H' → H' p = some (.tup [l, .bl (laterB s t).2]) → MO K H' l (laterB s t).1 → Q (.ref p) H'
def spEarlier : Sp := fun vs H Q _ => ∃ x y s t, vs = [x, y] ∧ Sv K H x s ∧ Sv K H y t ∧ BdS 4000 s ∧ BdS 4000 t ∧
  ∀ p l H', Same H H' → H' p = some (.tup [l, .bl (earlierE s t).2]) → MO K H' l (earlierE s t).1 → Q (.ref p) H'
def spCut : Sp := fun vs H Q _ => ∃ x y s t, vs = [x, y] ∧ Sv K H x s ∧ Sv K H y t ∧ BdS 4000 s ∧ BdS 4000 t ∧ ∀ v H', Same H H' → SO K H' v (cut s t) → Q v H'
end
theorem later_bd {n : Nat} {s t : Strt} (h : BdS n s) (k : BdS n t) : BdO n (laterB s t).1 := by
  obtain ⟨sl, sh, si, sj⟩ := s
  obtain ⟨tl, th, ti, tj⟩ := t
  have h1 : BdO n sl := h.1
  have k1 : BdO n tl := k.1
  cases sl with
  | none => exact k1
  | some a =>
    cases tl with
    | none => exact h1
    | some b =>
      show BdO n (if a < b then (some b, ti) else if a = b then (some a, si && ti) else (some a, si)).1
      split
      · exact k1
      · split <;> exact h1
theorem earlier_bd {n : Nat} {s t : Strt} (h : BdS n s) (k : BdS n t) : BdO n (earlierE s t).1 := by
  obtain ⟨sl, sh, si, sj⟩ := s
  obtain ⟨tl, th, ti, tj⟩ := t
  have h1 : BdO n sh := h.2
  have k1 : BdO n th := k.2
  cases sh with
  | none => exact k1
  | some a =>
    cases th with
    | none => exact h1
    | some b =>
      show BdO n (if b < a then (some b, tj) else if a = b then (some a, sj && tj) else (some a, sj)).1
      split
      · exact k1
      · split <;> exact h1
section
variable {P : Program} {w : World} {K : PySem.W.Frag} {mg : Str → Option Value} {base : Heap}
theorem MO.dec {H : Hp} {v : V} {o : Option Rat} (h : MO K H v o) : decide (v = .non) = o.isNone := by
  cases o with
  | none => exact decide_eq_true h
  | some q => exact decide_eq_false (Mv.ne h)
theorem ok_is_end (T : Txt K mg w) : C8.Cal P w K mg base 1 "is_end" (spIsEnd K) [] := by
  obtain ⟨fd, F⟩ := T.d_is_end
  refine ⟨_, fd, ["thing"], [], F.ok sc_is_end (fun vs H Q E h => ?_) (fun cdv A outer s H vs Q E hr h => ?_), T.glo_is_end, F.kp, F.bindsN (fun _ _ _ _ _ _ us hl => match us, hl with | [_], _ => rfl), .nil⟩
  · obtain ⟨x, o, rfl, _⟩ := h
    rfl
  · obtain ⟨x, o, rfl, hx, k⟩ := h
    refine ⟨_, PSs.nox (pss_one (ps_ret (pe_or (pe_cmp (pc_isN (pv 0))) (pe_one
      (pe_callB (C8.call_isC T.insM) (by rfl) T.free_isinstance (by decide +kernel) (pa_cons (pv 0) (pa_cons (pe_glob (v := .ref (CM K)) (by rfl) T.glo_Measure rfl) pa_nil))))))), ?_⟩
    refine ⟨_, rfl, _, rfl, ?_⟩
    rw [hx.dec]
    cases o with
    | none => exact iteT k
    | some q =>
      refine iteF ?_
      obtain ⟨p, dx, rfl, hp⟩ := hx
      exact ⟨_, rfl, p, dx, _, rfl, hp, k⟩
theorem ok_is_some (T : Txt K mg w) (c1 : C8.Met P w K mg base 1 (CM K) "is_below" (spBelow K) [.bl false]) (c2 : C8.Met P w K mg base 1 (CM K) "__eq__" (spEqM K) []) : C8.Cal P w K mg base 2 "is_some" (spIsSome K) [] := by
  obtain ⟨fd, F⟩ := T.d_is_some
  refine ⟨_, fd, ["low", "high", "low_in", "high_in"], [], F.ok sc_is_some (fun vs H Q E h => ?_) (fun cdv A outer s H vs Q E hr h => ?_), T.glo_is_some, F.kp, F.bindsN (fun _ _ _ _ _ _ us hl => match us, hl with | [_, _, _, _], _ => rfl), .nil⟩
  · obtain ⟨x, y, o, u, a, b, rfl, _⟩ := h
    rfl
  · obtain ⟨x, y, o, u, a, b, rfl, hx, hy, b1, b2, k⟩ := h
    refine ⟨_, PSs.nox (pss_cons (ps_if (PW.pt (pw_or (pt_cmp (pc_isN (pv 0))) (pw_or1 (pt_cmp (pc_isN (pv 1)))))) (pss_one (ps_ret pe_bl)) pss_nil)
      (pss_one (ps_ret (pe_or (C8.pe_mt c1 hr (by decide) (pv 0) (pa_cons (pv 1) pa_nil))
        (pe_one (pe_and (pe_cmpR (op_eqI c2 hr) (pv 0) (pv 1) (nomark _)) (pe_and (pv 2) (pe_one (pv 3))))))))), ?_⟩
    refine ⟨_, rfl, _, rfl, ?_⟩
    rw [hx.dec]
    cases o with
    | none => exact iteT (iteT k)
    | some q =>
      refine iteF ?_
      refine ⟨_, rfl, _, rfl, ?_⟩
      rw [hy.dec]
      cases u with
      | none => exact iteT k
      | some r =>
        refine iteF ?_
        have hx' : Mv K H x q := hx
        have hy' : Mv K H y r := hy
        refine ⟨_, rfl, hx'.at (by decide +kernel) (by decide +kernel) ⟨_, rfl, x, y, q, r, false, rfl, hx', hy', b1 _ rfl, b2 _ rfl, _, rfl, ?_⟩⟩
        rw [Bool.false_and, Bool.or_false]
        have k : Q (.bl (decide (q < r) || (decide (q = r) && a && b))) H := k
        cases c1 : decide (q < r) with
        | true =>
          rw [c1] at k
          exact iteT k
        | false =>
          rw [c1, Bool.false_or] at k
          refine iteF ?_
          obtain ⟨p, dx, rfl, hp⟩ := id hx'
          obtain ⟨p', dx', rfl, hp'⟩ := id hy'
          refine ⟨_, rfl, _, rfl, p, p', dx, dx', _, _, rfl, rfl, hp, hp', _, _, q, r, rfl, hx', hy', _, rfl, ?_⟩
          cases c2 : decide (q = r) with
          | false =>
            rw [c2] at k
            exact iteF k
          | true =>
            rw [c2, Bool.true_and] at k
            refine iteT ?_
            refine ⟨_, rfl, a, rfl, ?_⟩
            cases a with
            | false => exact iteF k
            | true => exact iteT ⟨_, rfl, k⟩
theorem ok_S_init (T : Txt K mg w) (c1 : C8.Cal P w K mg base 1 "is_end" (spIsEnd K) []) (c2 : C8.Cal P w K mg base 2 "is_some" (spIsSome K) []) : C8.Mak P w K mg base 3 "Stretch" (CS K) (spMkS K) [] := by
  obtain ⟨fd, F⟩ := T.d_S_init
  have O : FnOk P w K mg base C8.CX0 3 (He.ma K (CS K) "__init__") fd ["self", "low", "high", "low_in", "high_in"] (spMkS K) := by
    refine F.ok sc_S_init (fun vs H Q E h => ?_) (fun cdv A outer s H vs Q E hr h => ?_)
    · obtain ⟨z, dx, x, y, o, u, a, b, rfl, _⟩ := h
      rfl
    · obtain ⟨z, dx, x, y, o, u, a, b, rfl, hz, hx, hy, b1, b2, hs, k⟩ := h
      refine ⟨_, PSs.nox <| pss_cons (ps_if (PW.pt <| pw_or (pt_not <| pt_val <| C8.pe_c c1 hr (by decide) (by rfl) (pa_cons (pv 1) pa_nil))
            <| pw_or (pt_not <| pt_val <| C8.pe_c c1 hr (by decide) (by rfl) (pa_cons (pv 2) pa_nil))
            <| pw_or (pt_not <| pt_val <| pe_callB call_isi (by rfl) T.free_isinstance (by decide +kernel) (pa_cons (pv 3) (pa_cons (pe_bltn (v := .ty "bool") (by rfl) T.free_bool (by decide +kernel) rfl) pa_nil)))
            <| pw_or1 (pt_not <| pt_val <| pe_callB call_isi (by rfl) T.free_isinstance (by decide +kernel) (pa_cons (pv 4) (pa_cons (pe_bltn (v := .ty "bool") (by rfl) T.free_bool (by decide +kernel) rfl) pa_nil))))
          pss_never pss_nil)
        <| pss_cons (ps_if (pt_not <| pt_val <| C8.pe_c c2 hr (by decide) (by rfl) (pa_cons (pv 1) (pa_cons (pv 2) (pa_cons (pv 3) (pa_cons (pv 4) pa_nil))))) pss_never pss_nil)
        <| pss_cons (ps_fld (pv 0) (pv 1) rfl)
        <| pss_cons (ps_fld (pv 0) (pv 2) rfl)
        <| pss_cons (ps_fld (pv 0) (pe_and (pe_cmp (pc_notN (pv 1))) (pe_one (pv 3))) rfl)
        <| pss_one <| ps_fld (pv 0) (pe_and (pe_cmp (pc_notN (pv 2))) (pe_one (pv 4))) rfl, ?_⟩
      refine ⟨_, rfl, _, o, rfl, hx, true, rfl, iteF ?_⟩
      refine ⟨_, rfl, _, u, rfl, hy, true, rfl, iteF ?_⟩
      refine ⟨_, rfl, _, _, _, _, true, rfl, .ty _, .base (.bl a), kit_ty (by decide +kernel), true, rfl, iteF ?_⟩
      refine ⟨_, rfl, _, _, _, _, true, rfl, .ty _, .base (.bl b), kit_ty (by decide +kernel), true, rfl, iteF ?_⟩
      refine ⟨_, rfl, _, rfl, _, rfl, _, rfl, _, _, o, u, a, b, rfl, hx, hy, b1, b2, true, congrArg V.bl hs, iteF ?_⟩
      refine ⟨_, rfl, _, rfl, z, CS K, dx, _, rfl, hz, T.cls_Stretch, T.noat_Stretch_low, (by show 0 < 1000; decide), ?_⟩
      refine ⟨_, rfl, _, rfl, z, CS K, dx, _, rfl, upd_same, T.cls_Stretch, T.noat_Stretch_high, (by show 1 < 1000; decide), ?_⟩
      have e : ∀ X Y : Bool, upd (upd (upd (upd H z (.ins (CS K) dx (putF "low" x []))) z (.ins (CS K) dx (putF "high" y (putF "low" x [])))) z
          (.ins (CS K) dx (putF "low_in" (.bl X) (putF "high" y (putF "low" x []))))) z (.ins (CS K) dx (putF "high_in" (.bl Y) (putF "low_in" (.bl X) (putF "high" y (putF "low" x [])))))
            = upd H z (.ins (CS K) dx (sF x y X Y)) := fun X Y => by
        rw [upd_upd, upd_upd, upd_upd]
        rfl
      cases o with
      | none =>
        have hx : x = .non := hx
        subst hx
        refine ⟨_, rfl, false, rfl, iteF ⟨_, rfl, z, CS K, dx, _, rfl, upd_same, T.cls_Stretch, T.noat_Stretch_low_in, (by show 2 < 1000; decide), ?_⟩⟩
        cases u with
        | none =>
          have hy : y = .non := hy
          subst hy
          refine ⟨_, rfl, false, rfl, iteF ⟨_, rfl, z, CS K, dx, _, rfl, upd_same, T.cls_Stretch, T.noat_Stretch_high_in, (by show 3 < 1000; decide), ?_⟩⟩
          rw [e]
          exact k
        | some r =>
          obtain ⟨p', dx', rfl, hp'⟩ := hy
          refine ⟨_, rfl, true, rfl, iteT ⟨_, rfl, _, rfl, z, CS K, dx, _, rfl, upd_same, T.cls_Stretch, T.noat_Stretch_high_in, (by show 3 < 1000; decide), ?_⟩⟩
          rw [e]
          exact k
      | some q =>
        obtain ⟨p, dp, rfl, hp⟩ := hx
        refine ⟨_, rfl, true, rfl, iteT ⟨_, rfl, _, rfl, z, CS K, dx, _, rfl, upd_same, T.cls_Stretch, T.noat_Stretch_low_in, (by show 2 < 1000; decide), ?_⟩⟩
        cases u with
        | none =>
          have hy : y = .non := hy
          subst hy
          refine ⟨_, rfl, false, rfl, iteF ⟨_, rfl, z, CS K, dx, _, rfl, upd_same, T.cls_Stretch, T.noat_Stretch_high_in, (by show 3 < 1000; decide), ?_⟩⟩
          rw [e]
          exact k
        | some r =>
          obtain ⟨p', dx', rfl, hp'⟩ := hy
          refine ⟨_, rfl, true, rfl, iteT ⟨_, rfl, _, rfl, z, CS K, dx, _, rfl, upd_same, T.cls_Stretch, T.noat_Stretch_high_in, (by show 3 < 1000; decide), ?_⟩⟩
          rw [e]
          exact k
  have b := F.binds1 (ps := ["self", "low", "high", "low_in", "high_in"]) 5 2 (by simp) (by simp) (fun T kV doc pm an cdv ct us its hu hi => ⟨_, rfl, match us, its, hu, hi with | [_, _, _, _, _], [_, _], _, _ => rfl⟩)
  obtain ⟨ds, h1, h2⟩ := b
  cases h1
  exact ⟨_, fd, _, [], T.mkr_Stretch, O, T.glo_Stretch, h2, .nil⟩
end
end Sz

/-! Stretches, the second part: what is in two of them. -/
namespace Sz
open PySem PySem.Spec PyProof.Rows L2 SzR
section
variable {P : Program} {w : World} {K : PySem.W.Frag} {mg : Str → Option Value} {base : Heap}
theorem ok_later_begin (T : Txt K mg w) (c1 : C8.Met P w K mg base 1 (CM K) "is_below" (spBelow K) [.bl false]) (c2 : C8.Met P w K mg base 1 (CM K) "__eq__" (spEqM K) []) : C8.Cal P w K mg base 2 "later_begin" (spLater K) [] := by
  obtain ⟨fd, F⟩ := T.d_later_begin
  refine ⟨_, fd, ["here", "there"], [], F.ok sc_later_begin (fun vs H Q E h => ?_) (fun cdv A outer s H vs Q E hr h => ?_), T.glo_later_begin, F.kp, F.bindsN (fun _ _ _ _ _ _ us hl => match us, hl with | [_, _], _ => rfl), .nil⟩
  · obtain ⟨x, y, s, t, rfl, _⟩ := h
    rfl
  · obtain ⟨x, y, s, t, rfl, ⟨p, dx, l, r, rfl, hp, hl, hh⟩, ⟨p', dx', l', r', rfl, hp', hl', hh'⟩, b1, b2, k⟩ := h
    refine ⟨_, PSs.nox <| pss_cons (ps_if (PW.pt <| pw_or (pt_cmp (pc_isN (pe_fld (pv 0) rfl))) <| pw_or1 <| PW.pt <| pw_and (pt_cmp (pc_notN (pe_fld (pv 1) rfl)))
          <| pw_and1 <| pt_val <| C8.pe_mt c1 hr (by decide) (pe_fld (pv 0) rfl) (pa_cons (pe_fld (pv 1) rfl) pa_nil)) (pss_one <| ps_ret <| pe_tup (pa_cons (pe_fld (pv 1) rfl) (pa_cons (pe_fld (pv 1) rfl) pa_nil))) pss_nil)
      <| pss_cons (ps_if (PW.pt <| pw_and (pt_cmp (pc_notN (pe_fld (pv 1) rfl))) <| pw_and1 <| pt_cmpR (op_eqI c2 hr) (pe_fld (pv 0) rfl) (pe_fld (pv 1) rfl) (nomark _))
          (pss_one <| ps_ret <| pe_tup (pa_cons (pe_fld (pv 0) rfl) (pa_cons (pe_and (pe_fld (pv 0) rfl) (pe_one (pe_fld (pv 1) rfl))) pa_nil))) pss_nil)
      <| pss_one <| ps_ret <| pe_tup (pa_cons (pe_fld (pv 0) rfl) (pa_cons (pe_fld (pv 0) rfl) pa_nil)), ?_⟩
    have f0 : ∀ {R : V → Prop}, R l → ∃ v, [some (V.ref p), some (V.ref p')][0]? = some (some v) ∧ ∃ a C d fs u, v = .ref a ∧ H a = some (.ins C d fs) ∧ Cls K C ∧ NoAttr K C "low" ∧ fs.lookup ("low" : Str) = some u ∧ R u :=
      fun z => ⟨_, rfl, p, _, dx, _, _, rfl, hp, T.cls_Stretch, T.noat_Stretch_low, sF_low .., z⟩
    have f1 : ∀ {R : V → Prop}, R l' → ∃ v, [some (V.ref p), some (V.ref p')][1]? = some (some v) ∧ ∃ a C d fs u, v = .ref a ∧ H a = some (.ins C d fs) ∧ Cls K C ∧ NoAttr K C "low" ∧ fs.lookup ("low" : Str) = some u ∧ R u :=
      fun z => ⟨_, rfl, p', _, dx', _, _, rfl, hp', T.cls_Stretch, T.noat_Stretch_low, sF_low .., z⟩
    have g0 : ∀ {R : V → Prop}, R (.bl s.li) → ∃ v, [some (V.ref p), some (V.ref p')][0]? = some (some v) ∧ ∃ a C d fs u, v = .ref a ∧ H a = some (.ins C d fs) ∧ Cls K C ∧ NoAttr K C "low_in" ∧ fs.lookup ("low_in" : Str) = some u ∧ R u :=
      fun z => ⟨_, rfl, p, _, dx, _, _, rfl, hp, T.cls_Stretch, T.noat_Stretch_low_in, sF_li .., z⟩
    have g1 : ∀ {R : V → Prop}, R (.bl t.li) → ∃ v, [some (V.ref p), some (V.ref p')][1]? = some (some v) ∧ ∃ a C d fs u, v = .ref a ∧ H a = some (.ins C d fs) ∧ Cls K C ∧ NoAttr K C "low_in" ∧ fs.lookup ("low_in" : Str) = some u ∧ R u :=
      fun z => ⟨_, rfl, p', _, dx', _, _, rfl, hp', T.cls_Stretch, T.noat_Stretch_low_in, sF_li .., z⟩
    have done : ∀ (v : V) (b : Bool) (o : Option Rat), MO K H v o → (laterB s t) = (o, b) → ([v, V.bl b].length ≤ sizeLine ∧ ∀ z, H z = none → Q (.ref z) (upd H z (.tup [v, .bl b]))) := fun v b o hv e =>
      ⟨by show 2 ≤ sizeLine; decide, fun z hz => k z v _ (Same.upd hz) (by rw [e]; exact upd_same) (by rw [e]; exact hv.up (Same.upd hz))⟩
    refine f0 ⟨_, rfl, ?_⟩
    rw [hl.dec]
    cases es : s.low with
    | none =>
      refine iteT (iteT (f1 (g1 (done _ _ _ hl' ?_))))
      unfold laterB
      rw [es]
    | some q =>
      refine iteF ?_
      refine f1 ⟨_, rfl, ?_⟩
      rw [hl'.dec]
      have Hx : Mv K H l q := by rw [es] at hl; exact hl
      cases et : t.low with
      | none =>
        refine iteF (iteF ?_)
        refine f1 ⟨_, rfl, ?_⟩
        rw [hl'.dec, et]
        refine iteF (iteF ?_)
        refine f0 (g0 (done _ _ _ hl ?_))
        unfold laterB
        rw [es, et]
      | some u =>
        have Hy : Mv K H l' u := by rw [et] at hl'; exact hl'
        refine iteT ?_
        refine f0 (Hx.at (by decide +kernel) (by decide +kernel) (f1 ⟨l, l', q, u, false, rfl, Hx, Hy, b1.1 _ es, b2.1 _ et, _, rfl, ?_⟩))
        rw [Bool.false_and, Bool.or_false]
        by_cases c : q < u
        · rw [decide_eq_true c]
          refine iteT (f1 (g1 (done _ _ _ hl' ?_)))
          unfold laterB
          rw [es, et]
          show (if q < u then _ else _) = _
          rw [if_pos c]
        · rw [decide_eq_false c]
          refine iteF ?_
          refine f1 ⟨_, rfl, ?_⟩
          rw [hl'.dec, et]
          refine iteT ?_
          obtain ⟨a1, d1, e1, h1'⟩ := id Hx
          obtain ⟨a2, d2, e2, h2'⟩ := id Hy
          refine f0 (f1 ⟨a1, a2, d1, d2, _, _, e1, e2, h1', h2', _, _, q, u, rfl, Hx, Hy, _, rfl, ?_⟩)
          by_cases c' : q = u
          · rw [decide_eq_true c']
            refine iteT (f0 (g0 ⟨_, rfl, ?_⟩))
            have em : laterB s t = (s.low, s.li && t.li) := by
              unfold laterB
              rw [es, et]
              show (if q < u then _ else _) = _
              rw [if_neg c, if_pos c']
            cases ei : s.li with
            | true => exact iteT (g1 (done _ _ _ hl (by rw [em, ei, Bool.true_and])))
            | false => exact iteF (done _ _ _ hl (by rw [em, ei, Bool.false_and]))
          · rw [decide_eq_false c']
            refine iteF (f0 (g0 (done _ _ _ hl ?_)))
            unfold laterB
            rw [es, et]
            show (if q < u then _ else _) = _
            rw [if_neg c, if_neg c']
theorem ok_earlier_end (T : Txt K mg w) (c1 : C8.Met P w K mg base 1 (CM K) "is_below" (spBelow K) [.bl false]) (c2 : C8.Met P w K mg base 1 (CM K) "__eq__" (spEqM K) []) : C8.Cal P w K mg base 2 "earlier_end" (spEarlier K) [] := by
  obtain ⟨fd, F⟩ := T.d_earlier_end
  refine ⟨_, fd, ["here", "there"], [], F.ok sc_earlier_end (fun vs H Q E h => ?_) (fun cdv A outer s H vs Q E hr h => ?_), T.glo_earlier_end, F.kp, F.bindsN (fun _ _ _ _ _ _ us hl => match us, hl with | [_, _], _ => rfl), .nil⟩
  · obtain ⟨x, y, s, t, rfl, _⟩ := h
    rfl
  · obtain ⟨x, y, s, t, rfl, ⟨p, dx, l, r, rfl, hp, hl, hh⟩, ⟨p', dx', l', r', rfl, hp', hl', hh'⟩, b1, b2, k⟩ := h
    refine ⟨_, PSs.nox <| pss_cons (ps_if (PW.pt <| pw_or (pt_cmp (pc_isN (pe_fld (pv 0) rfl))) <| pw_or1 <| PW.pt <| pw_and (pt_cmp (pc_notN (pe_fld (pv 1) rfl)))
          <| pw_and1 <| pt_val <| C8.pe_mt c1 hr (by decide) (pe_fld (pv 1) rfl) (pa_cons (pe_fld (pv 0) rfl) pa_nil)) (pss_one <| ps_ret <| pe_tup (pa_cons (pe_fld (pv 1) rfl) (pa_cons (pe_fld (pv 1) rfl) pa_nil))) pss_nil)
      <| pss_cons (ps_if (PW.pt <| pw_and (pt_cmp (pc_notN (pe_fld (pv 1) rfl))) <| pw_and1 <| pt_cmpR (op_eqI c2 hr) (pe_fld (pv 0) rfl) (pe_fld (pv 1) rfl) (nomark _))
          (pss_one <| ps_ret <| pe_tup (pa_cons (pe_fld (pv 0) rfl) (pa_cons (pe_and (pe_fld (pv 0) rfl) (pe_one (pe_fld (pv 1) rfl))) pa_nil))) pss_nil)
      <| pss_one <| ps_ret <| pe_tup (pa_cons (pe_fld (pv 0) rfl) (pa_cons (pe_fld (pv 0) rfl) pa_nil)), ?_⟩
    have f0 : ∀ {R : V → Prop}, R r → ∃ v, [some (V.ref p), some (V.ref p')][0]? = some (some v) ∧ ∃ a C d fs u, v = .ref a ∧ H a = some (.ins C d fs) ∧ Cls K C ∧ NoAttr K C "high" ∧ fs.lookup ("high" : Str) = some u ∧ R u :=
      fun z => ⟨_, rfl, p, _, dx, _, _, rfl, hp, T.cls_Stretch, T.noat_Stretch_high, sF_high .., z⟩
    have f1 : ∀ {R : V → Prop}, R r' → ∃ v, [some (V.ref p), some (V.ref p')][1]? = some (some v) ∧ ∃ a C d fs u, v = .ref a ∧ H a = some (.ins C d fs) ∧ Cls K C ∧ NoAttr K C "high" ∧ fs.lookup ("high" : Str) = some u ∧ R u :=
      fun z => ⟨_, rfl, p', _, dx', _, _, rfl, hp', T.cls_Stretch, T.noat_Stretch_high, sF_high .., z⟩
    have g0 : ∀ {R : V → Prop}, R (.bl s.hi) → ∃ v, [some (V.ref p), some (V.ref p')][0]? = some (some v) ∧ ∃ a C d fs u, v = .ref a ∧ H a = some (.ins C d fs) ∧ Cls K C ∧ NoAttr K C "high_in" ∧ fs.lookup ("high_in" : Str) = some u ∧ R u :=
      fun z => ⟨_, rfl, p, _, dx, _, _, rfl, hp, T.cls_Stretch, T.noat_Stretch_high_in, sF_hi .., z⟩
    have g1 : ∀ {R : V → Prop}, R (.bl t.hi) → ∃ v, [some (V.ref p), some (V.ref p')][1]? = some (some v) ∧ ∃ a C d fs u, v = .ref a ∧ H a = some (.ins C d fs) ∧ Cls K C ∧ NoAttr K C "high_in" ∧ fs.lookup ("high_in" : Str) = some u ∧ R u :=
      fun z => ⟨_, rfl, p', _, dx', _, _, rfl, hp', T.cls_Stretch, T.noat_Stretch_high_in, sF_hi .., z⟩
    have done : ∀ (v : V) (b : Bool) (o : Option Rat), MO K H v o → (earlierE s t) = (o, b) → ([v, V.bl b].length ≤ sizeLine ∧ ∀ z, H z = none → Q (.ref z) (upd H z (.tup [v, .bl b]))) := fun v b o hv e =>
      ⟨by show 2 ≤ sizeLine; decide, fun z hz => k z v _ (Same.upd hz) (by rw [e]; exact upd_same) (by rw [e]; exact hv.up (Same.upd hz))⟩
    refine f0 ⟨_, rfl, ?_⟩
    rw [hh.dec]
    cases es : s.high with
    | none =>
      refine iteT (iteT (f1 (g1 (done _ _ _ hh' ?_))))
      unfold earlierE
      rw [es]
    | some q =>
      refine iteF ?_
      refine f1 ⟨_, rfl, ?_⟩
      rw [hh'.dec]
      have Hx : Mv K H r q := by rw [es] at hh; exact hh
      cases et : t.high with
      | none =>
        refine iteF (iteF ?_)
        refine f1 ⟨_, rfl, ?_⟩
        rw [hh'.dec, et]
        refine iteF (iteF ?_)
        refine f0 (g0 (done _ _ _ hh ?_))
        unfold earlierE
        rw [es, et]
      | some u =>
        have Hy : Mv K H r' u := by rw [et] at hh'; exact hh'
        refine iteT ?_
        refine f1 (Hy.at (by decide +kernel) (by decide +kernel) (f0 ⟨r', r, u, q, false, rfl, Hy, Hx, b2.2 _ et, b1.2 _ es, _, rfl, ?_⟩))
        rw [Bool.false_and, Bool.or_false]
        by_cases c : u < q
        · rw [decide_eq_true c]
          refine iteT (f1 (g1 (done _ _ _ hh' ?_)))
          unfold earlierE
          rw [es, et]
          show (if u < q then _ else _) = _
          rw [if_pos c]
        · rw [decide_eq_false c]
          refine iteF ?_
          refine f1 ⟨_, rfl, ?_⟩
          rw [hh'.dec, et]
          refine iteT ?_
          obtain ⟨a1, d1, e1, h1'⟩ := id Hx
          obtain ⟨a2, d2, e2, h2'⟩ := id Hy
          refine f0 (f1 ⟨a1, a2, d1, d2, _, _, e1, e2, h1', h2', _, _, q, u, rfl, Hx, Hy, _, rfl, ?_⟩)
          by_cases c' : q = u
          · rw [decide_eq_true c']
            refine iteT (f0 (g0 ⟨_, rfl, ?_⟩))
            have em : earlierE s t = (s.high, s.hi && t.hi) := by
              unfold earlierE
              rw [es, et]
              show (if u < q then _ else _) = _
              rw [if_neg c, if_pos c']
            cases ei : s.hi with
            | true => exact iteT (g1 (done _ _ _ hh (by rw [em, ei, Bool.true_and])))
            | false => exact iteF (done _ _ _ hh (by rw [em, ei, Bool.false_and]))
          · rw [decide_eq_false c']
            refine iteF (f0 (g0 (done _ _ _ hh ?_)))
            unfold earlierE
            rw [es, et]
            show (if u < q then _ else _) = _
            rw [if_neg c, if_neg c']
theorem ok_cut (T : Txt K mg w) (c1 : C8.Cal P w K mg base 2 "later_begin" (spLater K) []) (c2 : C8.Cal P w K mg base 2 "earlier_end" (spEarlier K) [])
    (c3 : C8.Cal P w K mg base 2 "is_some" (spIsSome K) []) (c4 : C8.Mak P w K mg base 3 "Stretch" (CS K) (spMkS K) []) : C8.Met P w K mg base 5 (CS K) "cut" (spCut K) [] := by
  obtain ⟨fd, F⟩ := T.d_S_cut
  refine ⟨_, fd, ["self", "other"], [], T.cls_Stretch, T.meth_Stretch_cut, F.ok sc_S_cut (fun vs H Q E h => ?_) (fun cdv A outer s H vs Q E hr h => ?_), F.bindsN (fun _ _ _ _ _ _ us hl => match us, hl with | [_, _], _ => rfl), .nil⟩
  · obtain ⟨x, y, s, t, rfl, _⟩ := h
    rfl
  · obtain ⟨x, y, s, t, rfl, hx, hy, b1, b2, k⟩ := h
    refine ⟨_, PSs.nox <| pss_cons (ps_asg (C8.pe_c c1 hr (by decide) (by rfl) (pa_cons (pv 0) (pa_cons (pv 1) pa_nil)))
        (pg_tup rfl (pgs_cons (pg_name (i := 2) sc_S_cut.nd rfl (Or.inl rfl)) (pgs_cons (pg_name (i := 3) sc_S_cut.nd rfl (Or.inl rfl)) pgs_nil))))
      <| pss_cons (ps_asg (C8.pe_c c2 hr (by decide) (by rfl) (pa_cons (pv 0) (pa_cons (pv 1) pa_nil)))
        (pg_tup rfl (pgs_cons (pg_name (i := 4) sc_S_cut.nd rfl (Or.inl rfl)) (pgs_cons (pg_name (i := 5) sc_S_cut.nd rfl (Or.inl rfl)) pgs_nil))))
      <| pss_cons (ps_if (pt_not <| pt_val <| C8.pe_c c3 hr (by decide) (by rfl) (pa_cons (pv 2) (pa_cons (pv 4) (pa_cons (pv 3) (pa_cons (pv 5) pa_nil))))) (pss_one (ps_ret pe_non)) pss_nil)
      <| pss_one <| ps_ret <| C8.pe_mk c4 hr (by decide) (by rfl) (pa_cons (pv 2) (pa_cons (pv 4) (pa_cons (pv 3) (pa_cons (pv 5) pa_nil)))), ?_⟩
    refine ⟨_, rfl, _, rfl, _, _, s, t, rfl, hx, hy, b1, b2, fun p l H1 e1 hp hl => ?_⟩
    refine ⟨p, _, rfl, SqT.of hp, rfl, _, _, rfl, _, _, rfl, rfl, ?_⟩
    refine ⟨_, rfl, _, rfl, _, _, s, t, rfl, hx.up e1, hy.up e1, b1, b2, fun p' r H2 e2 hp' hr' => ?_⟩
    refine ⟨p', _, rfl, SqT.of hp', rfl, _, _, rfl, _, _, rfl, rfl, ?_⟩
    refine ⟨_, rfl, _, rfl, _, rfl, _, rfl, _, _, _, _, _, _, rfl, hl.up e2, hr', later_bd b1 b2, earlier_bd b1 b2, _, rfl, ?_⟩
    cases c : isSome (laterB s t).1 (earlierE s t).1 (laterB s t).2 (earlierE s t).2 with
    | false =>
      refine iteT ?_
      refine k .non H2 (e1.trans e2) ?_
      unfold cut
      rw [if_neg (by rw [c]; exact Bool.false_ne_true)]
      rfl
    | true =>
      refine iteF ?_
      refine ⟨_, rfl, _, rfl, _, rfl, _, rfl, fun z dz nz ndz nez => ?_⟩
      have sm : Same H2 (upd (upd H2 dz (.own z)) z (.ins (CS K) dz [])) := fun b u e => by
        rw [upd_ne (ne_of_none e nz), upd_ne (ne_of_none e ndz)]
        exact e
      refine ⟨z, dz, _, _, _, _, _, _, rfl, upd_same, (hl.up e2).up sm, hr'.up sm, later_bd b1 b2, earlier_bd b1 b2, c, rfl, ?_⟩
      refine k _ _ ((e1.trans e2).trans (made3 nz ndz)) ?_
      unfold cut
      rw [if_pos c]
      exact ⟨z, dz, _, _, rfl, upd_same, (hl.up e2).up (made3 nz ndz), hr'.up (made3 nz ndz)⟩
end
end Sz

/-! Ladders: what stands for one; the defs by a rule. -/
namespace Sz
open PySem PySem.Spec PyProof.Rows L2 SzR
/-- a rule's word -/
def Rule.s : Rule → Str
  | .up => "up"
  | .down => "down"
  | .near => "near"
def Rule.v (r : Rule) : V := .str r.s
/-- the attributes of a ladder, in the order of their stores -/
def lF (T : Addr) (r l m : V) : List (Str × V) := putF "most" m (putF "least" l (putF "rule" r (putF "marks" (.ref T) [])))
section
variable (T : Addr) (r l m : V)
theorem lF_marks : (lF T r l m).lookup ("marks" : Str) = some (.ref T) := by
  unfold lF
  rw [lookup_putF, if_neg (by decide +kernel), lookup_putF, if_neg (by decide +kernel), lookup_putF, if_neg (by decide +kernel), lookup_putF, if_pos rfl]
theorem lF_rule : (lF T r l m).lookup ("rule" : Str) = some r := by
  unfold lF
  rw [lookup_putF, if_neg (by decide +kernel), lookup_putF, if_neg (by decide +kernel), lookup_putF, if_pos rfl]
theorem lF_least : (lF T r l m).lookup ("least" : Str) = some l := by
  unfold lF
  rw [lookup_putF, if_neg (by decide +kernel), lookup_putF, if_pos rfl]
theorem lF_most : (lF T r l m).lookup ("most" : Str) = some m := by
  unfold lF
  rw [lookup_putF, if_pos rfl]
theorem lF_no {x : Str} (h1 : ¬ x = "marks") (h2 : ¬ x = "rule") (h3 : ¬ x = "least") (h4 : ¬ x = "most") : (lF T r l m).lookup x = none := by
  unfold lF
  rw [lookup_putF, if_neg h4, lookup_putF, if_neg h3, lookup_putF, if_neg h2, lookup_putF, if_neg h1]
  rfl
end
/-- marks that stand in a tuple at T -/
structure Mks (K : PySem.W.Frag) (H : Hp) (T : Addr) (qs : List Rat) : Prop where
  ex : ∃ ms, H T = some (.tup ms) ∧ Ms K H ms qs
theorem Mks.up {K : PySem.W.Frag} {H H' : Hp} {T : Addr} {qs : List Rat} (h : Mks K H T qs) (e : Same H H') : Mks K H' T qs :=
  let ⟨ms, a, b⟩ := h
  ⟨ms, e _ _ a, b.up e⟩
theorem ms_at {K : PySem.W.Frag} {H : Hp} {ms : List V} {qs : List Rat} (h : Ms K H ms qs) {i : Nat} (hi : i < qs.length) : ∃ v, ms[i]? = some v ∧ Mv K H v (at' qs i) := by
  induction h generalizing i with
  | nil => exact absurd hi (Nat.not_lt_zero _)
  | cons a t ih =>
    cases i with
    | zero => exact ⟨_, rfl, a⟩
    | succ i => exact ih (i := i) (by simpa using hi)
theorem ms_len {K : PySem.W.Frag} {H : Hp} {ms : List V} {qs : List Rat} (h : Ms K H ms qs) : ms.length = qs.length := Paired.length h
/-- how large numbers stand in a ladder -/
structure Lad.Bnd (L : Lad) : Prop where
  marks : ∀ q ∈ L.marks, Bd 64 q
  least : BdO 64 L.least
  most : BdO 64 L.most
theorem bd_at {qs : List Rat} {n : Nat} (h : ∀ q ∈ qs, Bd n q) {i : Nat} (hi : i < qs.length) : Bd n (at' qs i) := by
  refine h _ ?_
  unfold at'
  rw [List.getD_eq_getElem?_getD, List.getElem?_eq_getElem hi]
  exact List.getElem_mem hi
/-- a ladder stands at v -/
def Lv (K : PySem.W.Frag) (H : Hp) (v : V) (L : Lad) : Prop := ∃ p dx T l m, v = .ref p ∧ H p = some (.ins (CL K) dx (lF T L.rule.v l m)) ∧ Mks K H T L.marks ∧ MO K H l L.least ∧ MO K H m L.most
theorem Lv.up {K : PySem.W.Frag} {H H' : Hp} {v : V} {L : Lad} (h : Lv K H v L) (e : Same H H') : Lv K H' v L :=
  let ⟨p, dx, T, l, m, a, b, c, d, f⟩ := h
  ⟨p, dx, T, l, m, a, e _ _ b, c.up e, d.up e, f.up e⟩
/-- the defs by a rule -/
def szN : Rule → Str
  | .up => "up_size"
  | .down => "down_size"
  | .near => "near_size"
def stN : Rule → Str
  | .up => "up_stretch"
  | .down => "down_stretch"
  | .near => "near_stretch"
section
variable (K : PySem.W.Frag)
def spAreM : Sp := fun vs H Q _ => ∃ T qs, vs = [.ref T, .int 1, .int 24] ∧ Mks K H T qs ∧ 0 < qs.length ∧ qs.length ≤ 24 ∧ ∀ H', Same H H' → Q (.bl true) H'
def spSlip : Sp := fun vs H Q _ => ∃ T qs, vs = [.ref T] ∧ Mks K H T qs ∧ qs.length ≤ 24 ∧ Rises qs ∧ (∀ q ∈ qs, Bd 64 q) ∧ Q .non H
def spSz (r : Rule) : Sp := fun vs H Q _ => ∃ T qs x q, vs = [.ref T, x] ∧ Mks K H T qs ∧ 0 < qs.length ∧ qs.length ≤ 24 ∧ (∀ q ∈ qs, Bd 64 q) ∧ Mv K H x q ∧ Bd 3000 q ∧ ∀ H', Same H H' → Q (oV (sizeBy r qs q)) H'
def spSt (r : Rule) : Sp := fun vs H Q _ => ∃ T qs, ∃ i : Nat, vs = [.ref T, .int (i : Int)] ∧ Mks K H T qs ∧ i < qs.length ∧ qs.length ≤ 24 ∧ Rises qs ∧ (∀ q ∈ qs, Bd 64 q) ∧ ∀ v H', Same H H' → Sv K H' v (strBy r qs i) → Q v H'
def spIsRule : Sp := fun vs H Q _ => ∃ r : Rule, vs = [r.v] ∧ Q (.bl true) H
end
section
variable {P : Program} {w : World} {K : PySem.W.Frag} {mg : Str → Option Value} {base : Heap}
theorem Txt.sizes (T : Txt K mg w) (r : Rule) : KDct K w (He.ga K "SIZES") r.s (.ref (He.ga K (szN r))) := by
  have h := T.more'
  unfold more at h
  simp only [Bool.and_eq_true] at h
  obtain ⟨es, n, D⟩ := T.tab 0 rfl
  have key : ∀ q : Str × He.Dv, q ∈ [(("up" : Str), He.Dv.glo "up_size"), ("down", .glo "down_size"), ("near", .glo "near_size")] → KDct K w (He.ga K "SIZES") q.1 (q.2.v K) := fun q hq => by
    obtain ⟨u, e, ru⟩ := He.valsB_ok h.1 hq
    exact ⟨es, n, u, D.at_, D.lit, e, ru⟩
  cases r
  · exact key _ (.head _)
  · exact key _ (.tail _ (.head _))
  · exact key _ (.tail _ (.tail _ (.head _)))
theorem Txt.stretches (T : Txt K mg w) (r : Rule) : KDct K w (He.ga K "STRETCHES") r.s (.ref (He.ga K (stN r))) := by
  have h := T.more'
  unfold more at h
  simp only [Bool.and_eq_true] at h
  obtain ⟨es, n, D⟩ := T.tab 1 rfl
  have key : ∀ q : Str × He.Dv, q ∈ [(("up" : Str), He.Dv.glo "up_stretch"), ("down", .glo "down_stretch"), ("near", .glo "near_stretch")] → KDct K w (He.ga K "STRETCHES") q.1 (q.2.v K) := fun q hq => by
    obtain ⟨u, e, ru⟩ := He.valsB_ok h.2.1 hq
    exact ⟨es, n, u, D.at_, D.lit, e, ru⟩
  cases r
  · exact key _ (.head _)
  · exact key _ (.tail _ (.head _))
  · exact key _ (.tail _ (.tail _ (.head _)))
theorem yes_in {σ : L2.St} {H : Hp} {A B : Hp → Prop} (h : A H) : tYes σ H (fun b H3 => if b = true then A H3 else B H3) := by
  show (if true = true then A H else B H)
  rw [if_pos rfl]
  exact h
theorem ok_is_mon (T : Txt K mg w) : C8.Cal P w K mg base 1 "is_measure_or_none" (spIsEnd K) [] := by
  obtain ⟨fd, F⟩ := T.d_is_measure_or_none
  refine ⟨_, fd, ["thing"], [], F.ok sc_is_measure_or_none (fun vs H Q E h => ?_) (fun cdv A outer s H vs Q E hr h => ?_), T.glo_is_measure_or_none, F.kp, F.bindsN (fun _ _ _ _ _ _ us hl => match us, hl with | [_], _ => rfl), .nil⟩
  · obtain ⟨x, o, rfl, _⟩ := h
    rfl
  · obtain ⟨x, o, rfl, hx, k⟩ := h
    refine ⟨_, PSs.nox <| pss_one <| ps_ret <| pe_or (pe_cmp (pc_isN (pv 0))) <| pe_one <|
      pe_callB (C8.call_isC T.insM) (by rfl) T.free_isinstance (by decide +kernel) (pa_cons (pv 0) (pa_cons (pe_glob (v := .ref (CM K)) (by rfl) T.glo_Measure rfl) pa_nil)), ?_⟩
    refine ⟨_, rfl, _, rfl, ?_⟩
    rw [hx.dec]
    cases o with
    | none => exact iteT k
    | some q =>
      refine iteF ?_
      obtain ⟨p, dx, rfl, hp⟩ := hx
      exact ⟨_, rfl, p, dx, _, rfl, hp, k⟩
theorem ok_are_measures (T : Txt K mg w) : C8.Cal P w K mg base 1 "are_measures" (spAreM K) [] := by
  obtain ⟨fd, F⟩ := T.d_are_measures
  refine ⟨_, fd, ["thing", "fewest", "most"], [], F.ok sc_are_measures (fun vs H Q E h => ?_) (fun cdv A outer s H vs Q E hr h => ?_), T.glo_are_measures, F.kp, F.bindsN (fun _ _ _ _ _ _ us hl => match us, hl with | [_, _, _], _ => rfl), .nil⟩
  · obtain ⟨x, qs, rfl, _⟩ := h
    rfl
  · obtain ⟨x, qs, rfl, ⟨ms, hx, hm⟩, h1, h2, k⟩ := h
    have hl := ms_len hm
    refine ⟨_, PSs.nox <| pss_cons (ps_if (PW.pt <| pw_or (pt_not <| pt_val <| pe_callB call_isi (by rfl) T.free_isinstance (by decide +kernel) (pa_cons (pv 0) (pa_cons (pe_bltn (v := .ty "tuple") (by rfl) T.free_tuple (by decide +kernel) rfl) pa_nil)))
        <| pw_or1 <| pt_not <| pt_chain op_le op_le (pv 1) (pe_callB call_len_seq (by rfl) T.free_len PySem.boot_len (pa_cons (pv 0) pa_nil)) (pv 2)) (pss_one (ps_ret pe_bl)) pss_nil)
      <| pss_one <| ps_ret <| pe_callB (cr_all rfl) (by rfl) T.free_all (by decide +kernel) (pa_cons (pe_lc (own := [("one", 3)]) (g := gName 3) (tt := tYes) rfl sc_are_measures.nd (pi_tup (pv 0))
          (blkOk_by (own := [("one", 3)]) (N := N_are_measures) (sc := defScope s_are_measures) (by decide +kernel)) (fun _ _ _ _ _ => pg_name (i := 3) sc_are_measures.nd rfl (Or.inl rfl)) (fun _ _ _ _ _ => pts_nil)
          (fun _ _ _ _ _ => pe_callB (C8.call_isC T.insM) (by rfl) T.free_isinstance (by decide +kernel) (pa_cons (pv 3) (pa_cons (pe_glob (v := .ref (CM K)) (by rfl) T.glo_Measure rfl) pa_nil)))) pa_nil), ?_⟩
    refine ⟨_, rfl, _, _, _, _, true, rfl, .ty _, .base (.tup hx), kit_ty (by decide +kernel), true, rfl, iteF ?_⟩
    refine ⟨_, rfl, _, rfl, _, _, rfl, .inr (SqT.of hx), _, _, rfl, rfl, true, by rw [hl]; exact congrArg V.bl (decide_eq_true (by omega)), iteT ?_⟩
    refine ⟨_, rfl, _, _, rfl, rfl, true, by rw [hl]; exact congrArg V.bl (decide_eq_true (by omega)), iteF ?_⟩
    refine ⟨_, rfl, x, rfl, ⟨_, SqT.of hx⟩, fun D hD => ?_⟩
    refine lc_tup (K := K) (a := x) (xs := ms) (fun i H' => Same H H' ∧ H' D = some (.lst ((List.replicate i true).map V.bl))) ⟨Same.upd hD, upd_same⟩ (fun i H' _ h => SqT.of (h.1 _ _ hx)) ?_ ?_
    · rintro i y H' hi ⟨e, hd⟩
      have hlt : i < qs.length := by
        have := (List.getElem?_eq_some_iff.mp hi).1
        omega
      obtain ⟨v, hv, q⟩ := ms_at hm hlt
      rw [hi] at hv
      cases hv
      obtain ⟨p, dx, rfl, hp⟩ := q
      refine ⟨rfl, yes_in ?_⟩
      refine ⟨_, rfl, p, dx, _, rfl, e _ _ hp, _, hd, ?_, ?_, ?_⟩
      · rw [List.length_map, List.length_replicate]
        exact small1000 (by omega)
      · exact fun b o q => by rw [upd_ne (ne_of_none q hD)]; exact e _ _ q
      · rw [upd_same, List.replicate_succ', List.map_append]
        rfl
    · rintro H' ⟨e, hd⟩
      refine ⟨D, _, rfl, SqL.of hd, ?_⟩
      have ea : (List.replicate ms.length true).all id = true := by simp
      rw [ea]
      exact k H' e
theorem ok_first_slip (T : Txt K mg w) (c1 : C8.Met P w K mg base 1 (CM K) "is_below" (spBelow K) [.bl false]) : C8.Cal P w K mg base 2 "first_slip" (spSlip K) [] := by
  obtain ⟨fd, F⟩ := T.d_first_slip
  refine ⟨_, fd, ["rows"], [], F.ok sc_first_slip (fun vs H Q E h => ?_) (fun cdv A outer s H vs Q E hr h => ?_), T.glo_first_slip, F.kp, F.bindsN (fun _ _ _ _ _ _ us hl => match us, hl with | [_], _ => rfl), .nil⟩
  · obtain ⟨x, qs, rfl, _⟩ := h
    rfl
  · obtain ⟨x, qs, rfl, ⟨ms, hx, hm⟩, h2, hR, hB, k⟩ := h
    have hl := ms_len hm
    refine ⟨_, PSs.nox <| pss_cons (ps_for PassesOwn.never rfl (pi_range2 (by rfl) T.free_range (pa_cons pe_int (pa_cons (pe_callB call_len_seq (by rfl) T.free_len PySem.boot_len (pa_cons (pv 0) pa_nil)) pa_nil))) (pg_name (i := 1) sc_first_slip.nd rfl (Or.inl rfl))
        (pss_one <| ps_if (pt_not <| pt_val <| C8.pe_mt c1 hr (by decide) (pe_ix ix_tup (pv 0) (pe_op op_sub (pv 1) pe_int) (fun _ _ => rfl)) (pa_cons (pe_ix ix_tup (pv 0) (pv 1) (fun _ _ => rfl)) pa_nil)) (pss_one (ps_ret (pv 1))) pss_nil))
      <| pss_one (ps_ret pe_non), ?_⟩
    refine ⟨_, rfl, x, ms, rfl, .inr (SqT.of hx), _, _, rfl, (by rw [hl]; omega), for_range (lo := 1) (n := ((ms.length : Int) - 1).toNat) (fun i σ H' => H' = H ∧ ∃ v, σ = [some (.ref x), v]) ⟨rfl, none, rfl⟩ ?_ ?_⟩
    · rintro i σ H' hi ⟨rfl, v, rfl⟩
      have hi1 : i + 1 < qs.length := by omega
      obtain ⟨y, hy, qy⟩ := ms_at hm (show i < qs.length by omega)
      obtain ⟨z, hz, qz⟩ := ms_at hm hi1
      refine ⟨_, rfl, _, rfl, _, _, rfl, rfl, x, ms, _, y, rfl, rfl, SqT.of hx, at_of (by omega) hy, ?_⟩
      refine qy.at (by decide +kernel) (by decide +kernel) ⟨_, rfl, _, rfl, x, ms, _, z, rfl, rfl, SqT.of hx, at_of (by omega) hz, ?_⟩
      refine ⟨y, z, _, _, false, rfl, qy, qz, (bd_at hB (by omega)).mono (by decide), (bd_at hB hi1).mono (by decide), _, rfl, ?_⟩
      rw [decide_eq_true (hR i hi1)]
      exact iteF ⟨rfl, _, rfl⟩
    · rintro σ H' ⟨rfl, v, rfl⟩
      exact k
theorem ok_is_rule (T : Txt K mg w) : C8.Cal P w K mg base 1 "is_rule" spIsRule [] := by
  obtain ⟨fd, F⟩ := T.d_is_rule
  obtain ⟨es, n, D⟩ := T.tab 0 rfl
  refine ⟨_, fd, ["thing"], [], F.ok sc_is_rule (fun vs H Q E h => ?_) (fun cdv A outer s H vs Q E hr h => ?_), T.glo_is_rule, F.kp, F.bindsN (fun _ _ _ _ _ _ us hl => match us, hl with | [_], _ => rfl), .nil⟩
  · obtain ⟨r, rfl, _⟩ := h
    rfl
  · obtain ⟨r, rfl, k⟩ := h
    refine ⟨_, PSs.nox <| pss_one <| ps_ret <| pe_and (pe_callB call_isi (by rfl) T.free_isinstance (by decide +kernel) (pa_cons (pv 0) (pa_cons (pe_bltn (v := .ty "str") (by rfl) T.free_str (by decide +kernel) rfl) pa_nil)))
      <| pe_one <| pe_cmpR (op_in_kd D) (pv 0) (pe_glob (v := .ref (He.ga K "SIZES")) (by rfl) T.glo_SIZES rfl) (by rfl), ?_⟩
    obtain ⟨_, _, u, _, _, e, _⟩ := T.sizes r
    refine ⟨_, rfl, _, _, _, _, true, rfl, .ty _, .base (.str r.s), kit_ty (by decide +kernel), true, rfl, iteT ?_⟩
    exact ⟨_, rfl, r.s, some u, rfl, rfl, e, k⟩
end
end Sz

/-! Ladders, the second part: which size a measure comes to, which stretch a size has, by each rule. -/
namespace Sz
open PySem PySem.Spec PyProof.Rows L2 SzR
section
variable {P : Program} {w : World} {K : PySem.W.Frag} {mg : Str → Option Value} {base : Heap}
theorem ok_up_size (T : Txt K mg w) (c1 : C8.Met P w K mg base 1 (CM K) "is_below" (spBelow K) [.bl false]) : C8.CalAt P w K mg base 7 (He.ga K "up_size") (spSz K .up) := by
  obtain ⟨fd, F⟩ := T.d_up_size
  refine ⟨fd, ["marks", "measure"], F.ok sc_up_size (fun vs H Q E h => ?_) (fun cdv A outer s H vs Q E hr h => ?_), F.kp, F.bindsN (fun _ _ _ _ _ _ us hl => match us, hl with | [_, _], _ => rfl)⟩
  · obtain ⟨x, qs, y, q, rfl, _⟩ := h
    rfl
  · obtain ⟨x, qs, y, q, rfl, ⟨ms, hx, hm⟩, h0, h24, hB, hy, bq, k⟩ := h
    have hl := ms_len hm
    refine ⟨_, PSs.nox <| pss_cons (ps_for PassesOwn.never rfl (pi_enumT (by rfl) T.free_enumerate (pa_cons (pv 0) pa_nil))
        (pg_tup rfl (pgs_cons (pg_name (i := 2) sc_up_size.nd rfl (Or.inl rfl)) (pgs_cons (pg_name (i := 3) sc_up_size.nd rfl (Or.inl rfl)) pgs_nil)))
        (pss_one <| ps_if (pt_not <| pt_val <| C8.pe_mt c1 hr (by decide) (pv 3) (pa_cons (pv 1) pa_nil)) (pss_one (ps_ret (pv 2))) pss_nil))
      <| pss_one (ps_ret pe_non), ?_⟩
    refine ⟨_, rfl, x, ms, rfl, SqT.of hx, for_enumT (fun i σ H' => Same H H' ∧ (∃ a b, σ = [some (.ref x), some y, a, b]) ∧ ∀ j, j < i → at' qs j < q) ⟨Same.refl H, ⟨none, none, rfl⟩, fun j h => absurd h (Nat.not_lt_zero j)⟩
      (fun i σ H' _ h => SqT.of (h.1 _ _ hx)) ?_ ?_⟩
    · rintro i v σ H' N hi ⟨e, ⟨a, b, rfl⟩, hj⟩ hN
      have hlt : i < qs.length := by
        have := (List.getElem?_eq_some_iff.mp hi).1
        omega
      obtain ⟨v', hv, qv⟩ := ms_at hm hlt
      rw [hi] at hv
      cases hv
      have e1 := e.trans (Same.upd (o := .tup [.int (i : Nat), v]) hN)
      refine ⟨N, _, rfl, SqT.of upd_same, rfl, _, _, rfl, _, _, rfl, rfl, ?_⟩
      refine ⟨_, rfl, (qv.up e1).at (by decide +kernel) (by decide +kernel) ⟨_, rfl, _, _, _, _, false, rfl, qv.up e1, hy.up e1, (bd_at hB hlt).mono (by decide), bq.mono (by decide), _, rfl, ?_⟩⟩
      rw [Bool.false_and, Bool.or_false]
      by_cases c : at' qs i < q
      · rw [decide_eq_true c]
        refine iteF ⟨e1, ⟨_, _, rfl⟩, fun j hj' => ?_⟩
        by_cases z : j = i
        · rw [z]; exact c
        · exact hj j (by omega)
      · rw [decide_eq_false c]
        refine iteT ⟨_, rfl, ?_⟩
        have es : sizeBy .up qs q = some i := by
          refine firstB_some.mpr ⟨hlt, by rw [decide_eq_false c]; rfl, fun j hj' => ?_⟩
          rw [decide_eq_true (hj j hj')]
          rfl
        have k := k _ e1
        rw [es] at k
        exact k
    · rintro σ H' ⟨e, _, hj⟩
      have es : sizeBy .up qs q = none := by
        refine firstB_none.mpr fun j hj' => ?_
        rw [decide_eq_true (hj j (by omega))]
        rfl
      have k := k _ e
      rw [es] at k
      exact k
theorem ok_down_size (T : Txt K mg w) (c1 : C8.Met P w K mg base 1 (CM K) "is_below" (spBelow K) [.bl false]) : C8.CalAt P w K mg base 7 (He.ga K "down_size") (spSz K .down) := by
  obtain ⟨fd, F⟩ := T.d_down_size
  refine ⟨fd, ["marks", "measure"], F.ok sc_down_size (fun vs H Q E h => ?_) (fun cdv A outer s H vs Q E hr h => ?_), F.kp, F.bindsN (fun _ _ _ _ _ _ us hl => match us, hl with | [_, _], _ => rfl)⟩
  · obtain ⟨x, qs, y, q, rfl, _⟩ := h
    rfl
  · obtain ⟨x, qs, y, q, rfl, ⟨ms, hx, hm⟩, h0, h24, hB, hy, bq, k⟩ := h
    have hl := ms_len hm
    refine ⟨_, PSs.nox <| pss_cons (ps_set (i := 2) sc_down_size.nd rfl (Or.inl rfl) pe_non) <| pss_cons (ps_for PassesOwn.never rfl (pi_enumT (by rfl) T.free_enumerate (pa_cons (pv 0) pa_nil))
        (pg_tup rfl (pgs_cons (pg_name (i := 3) sc_down_size.nd rfl (Or.inl rfl)) (pgs_cons (pg_name (i := 4) sc_down_size.nd rfl (Or.inl rfl)) pgs_nil)))
        (pss_one <| ps_if (pt_not <| pt_val <| C8.pe_mt c1 hr (by decide) (pv 1) (pa_cons (pv 4) pa_nil)) (pss_one (ps_set (i := 2) sc_down_size.nd rfl (Or.inl rfl) (pv 3))) pss_nil))
      <| pss_one (ps_ret (pv 2)), ?_⟩
    refine ⟨_, rfl, x, ms, rfl, SqT.of hx, for_enumT (fun i σ H' => Same H H' ∧ ∃ a b, σ = [some (.ref x), some y, some (oV (lastB (fun i => !decide (q < at' qs i)) i)), a, b]) ⟨Same.refl H, none, none, rfl⟩
      (fun i σ H' _ h => SqT.of (h.1 _ _ hx)) ?_ ?_⟩
    · rintro i v σ H' N hi ⟨e, a, b, rfl⟩ hN
      have hlt : i < qs.length := by
        have := (List.getElem?_eq_some_iff.mp hi).1
        omega
      obtain ⟨v', hv, qv⟩ := ms_at hm hlt
      rw [hi] at hv
      cases hv
      have e1 := e.trans (Same.upd (o := .tup [.int (i : Nat), v]) hN)
      refine ⟨N, _, rfl, SqT.of upd_same, rfl, _, _, rfl, _, _, rfl, rfl, ?_⟩
      refine ⟨_, rfl, (hy.up e1).at (by decide +kernel) (by decide +kernel) ⟨_, rfl, _, _, _, _, false, rfl, hy.up e1, qv.up e1, bq.mono (by decide), (bd_at hB hlt).mono (by decide), _, rfl, ?_⟩⟩
      rw [Bool.false_and, Bool.or_false]
      by_cases c : q < at' qs i
      · rw [decide_eq_true c]
        refine iteF ⟨e1, some (.int (i : Int)), some v, ?_⟩
        have el : lastB (fun i => !decide (q < at' qs i)) (i + 1) = lastB (fun i => !decide (q < at' qs i)) i := by
          show (if (!decide (q < at' qs i)) = true then some i else _) = _
          rw [decide_eq_true c]
          rfl
        rw [el]
        rfl
      · rw [decide_eq_false c]
        refine iteT ⟨_, rfl, e1, some (.int (i : Int)), some v, ?_⟩
        have el : lastB (fun i => !decide (q < at' qs i)) (i + 1) = some i := by
          show (if (!decide (q < at' qs i)) = true then some i else _) = _
          rw [decide_eq_false c]
          rfl
        rw [el]
        rfl
    · rintro σ H' ⟨e, a, b, rfl⟩
      refine ⟨_, rfl, ?_⟩
      rw [hl]
      exact k _ e
theorem ok_near_size (T : Txt K mg w) (c1 : C8.Met P w K mg base 1 (CM K) "is_below" (spBelow K) [.bl false]) (c2 : C8.Cal P w K mg base 5 "midst" (spMid K) []) : C8.CalAt P w K mg base 7 (He.ga K "near_size") (spSz K .near) := by
  obtain ⟨fd, F⟩ := T.d_near_size
  refine ⟨fd, ["marks", "measure"], F.ok sc_near_size (fun vs H Q E h => ?_) (fun cdv A outer s H vs Q E hr h => ?_), F.kp, F.bindsN (fun _ _ _ _ _ _ us hl => match us, hl with | [_, _], _ => rfl)⟩
  · obtain ⟨x, qs, y, q, rfl, _⟩ := h
    rfl
  · obtain ⟨x, qs, y, q, rfl, ⟨ms, hx, hm⟩, h0, h24, hB, hy, bq, k⟩ := h
    have hl := ms_len hm
    refine ⟨_, PSs.nox <| pss_cons (ps_set (i := 2) sc_near_size.nd rfl (Or.inl rfl) pe_int) <| pss_cons (ps_for PassesOwn.never rfl (pi_range2 (by rfl) T.free_range (pa_cons pe_int (pa_cons (pe_callB call_len_seq (by rfl) T.free_len PySem.boot_len (pa_cons (pv 0) pa_nil)) pa_nil)))
        (pg_name (i := 3) sc_near_size.nd rfl (Or.inl rfl))
        (pss_one <| ps_if (pt_not <| pt_val <| C8.pe_mt c1 hr (by decide) (pv 1) (pa_cons (C8.pe_c c2 hr (by decide) (by rfl) (pa_cons (pe_ix ix_tup (pv 0) (pe_op op_sub (pv 3) pe_int) (fun _ _ => rfl)) (pa_cons (pe_ix ix_tup (pv 0) (pv 3) (fun _ _ => rfl)) pa_nil))) pa_nil))
          (pss_one (ps_set (i := 2) sc_near_size.nd rfl (Or.inl rfl) (pv 3))) pss_nil))
      <| pss_one (ps_ret (pv 2)), ?_⟩
    refine ⟨_, rfl, x, ms, rfl, .inr (SqT.of hx), _, _, rfl, (by rw [hl]; omega), for_range (lo := 1) (n := ((ms.length : Int) - 1).toNat)
      (fun i σ H' => Same H H' ∧ ∃ a, σ = [some (.ref x), some y, some (.int ((lastB (nearP qs q) (i + 1)).getD 0 : Nat)), a]) ⟨Same.refl H, none, rfl⟩ ?_ ?_⟩
    · rintro i σ H' hi ⟨e, a, rfl⟩
      have hi1 : i + 1 < qs.length := by omega
      obtain ⟨u, hu, qu⟩ := ms_at hm (show i < qs.length by omega)
      obtain ⟨z, hz, qz⟩ := ms_at hm hi1
      have bu := bd_at hB (show i < qs.length by omega)
      have bz := bd_at hB hi1
      refine ⟨_, rfl, (hy.up e).at (by decide +kernel) (by decide +kernel) ?_⟩
      refine ⟨_, rfl, _, rfl, _, _, rfl, rfl, x, ms, _, u, rfl, rfl, SqT.of (e _ _ hx), at_of (by omega) hu, ?_⟩
      refine ⟨_, rfl, _, rfl, x, ms, _, z, rfl, rfl, SqT.of (e _ _ hx), at_of (by omega) hz, ?_⟩
      refine ⟨_, _, _, _, rfl, qu.up e, qz.up e, bu.mono (by decide), bz.mono (by decide), fun v H2 e2 hv => ?_⟩
      refine ⟨_, _, _, _, false, rfl, hy.up (e.trans e2), hv, bq.mono (by decide), (bu.mid bz).mono (by decide), _, rfl, ?_⟩
      rw [Bool.false_and, Bool.or_false]
      have ep : nearP qs q (i + 1) = !decide (q < mid (at' qs i) (at' qs (i + 1))) := by
        unfold nearP
        rw [decide_eq_true (Nat.succ_pos i), Bool.true_and]
        rfl
      have el : lastB (nearP qs q) (i + 1 + 1) = if (!decide (q < mid (at' qs i) (at' qs (i + 1)))) = true then some (i + 1) else lastB (nearP qs q) (i + 1) := by
        rw [← ep]
        rfl
      by_cases c : q < mid (at' qs i) (at' qs (i + 1))
      · rw [decide_eq_true c] at el ⊢
        refine iteF ⟨e.trans e2, some (.int (1 + (i : Int))), ?_⟩
        rw [el]
        rfl
      · rw [decide_eq_false c] at el ⊢
        refine iteT ⟨_, rfl, e.trans e2, some (.int (1 + (i : Int))), ?_⟩
        rw [el]
        have e3 : ((1 : Int) + (i : Int)) = ((i + 1 : Nat) : Int) := by omega
        rw [e3]
        rfl
    · rintro σ H' ⟨e, a, rfl⟩
      refine ⟨_, rfl, ?_⟩
      have e3 : ((ms.length : Int) - 1).toNat + 1 = qs.length := by omega
      rw [e3]
      exact k _ e
theorem bdO_if {n : Nat} {c : Prop} [Decidable c] {q : Rat} (h : c → Bd n q) : BdO n (if c then some q else none) := by
  by_cases z : c
  · rw [if_pos z]; exact BdO.some (h z)
  · rw [if_neg z]; exact BdO.none
theorem mO_if {H : Hp} {c : Prop} [Decidable c] {q : Rat} {v : V} (h1 : c → Mv K H v q) (h2 : ¬ c → v = .non) : MO K H v (if c then some q else none) := by
  by_cases z : c
  · rw [if_pos z]; exact h1 z
  · rw [if_neg z]; exact h2 z
/-- a stretch made: what its making asks, what stands behind -/
theorem sv_made {H : Hp} {z dz : Addr} {x y : V} {o u : Option Rat} {a b : Bool} (nz : H z = none) (nd : H dz = none) (hx : MO K H x o) (hy : MO K H y u) :
    Sv K (upd (upd (upd H dz (.own z)) z (.ins (CS K) dz [])) z (.ins (CS K) dz (sF x y (o.isSome && a) (u.isSome && b)))) (.ref z) (mkS o u a b) :=
  ⟨z, dz, x, y, rfl, upd_same, hx.up (made3 nz nd), hy.up (made3 nz nd)⟩
theorem same2 {H : Hp} {x dx : Addr} {o : HO} (nx : H x = none) (nd : H dx = none) : Same H (upd (upd H dx (.own x)) x o) := fun b u e => by
  rw [upd_ne (ne_of_none e nx), upd_ne (ne_of_none e nd)]
  exact e
theorem ok_up_stretch (T : Txt K mg w) (c4 : C8.Mak P w K mg base 3 "Stretch" (CS K) (spMkS K) []) : C8.CalAt P w K mg base 7 (He.ga K "up_stretch") (spSt K .up) := by
  obtain ⟨fd, F⟩ := T.d_up_stretch
  refine ⟨fd, ["marks", "number"], F.ok sc_up_stretch (fun vs H Q E h => ?_) (fun cdv A outer s H vs Q E hr h => ?_), F.kp, F.bindsN (fun _ _ _ _ _ _ us hl => match us, hl with | [_, _], _ => rfl)⟩
  · obtain ⟨x, qs, i, rfl, _⟩ := h
    rfl
  · obtain ⟨x, qs, i, rfl, ⟨ms, hx, hm⟩, hi, h24, hR, hB, k⟩ := h
    refine ⟨_, PSs.nox <| pss_cons (ps_set (i := 2) sc_up_stretch.nd rfl (Or.inl rfl) (pe_ifExp (pt_cmpR op_gt (pv 1) pe_int (nomark _)) (pe_ix ix_tup (pv 0) (pe_op op_sub (pv 1) pe_int) (fun _ _ => rfl)) pe_non))
      <| pss_one <| ps_ret <| C8.pe_mk c4 hr (by decide) (by rfl) (pa_cons (pv 2) (pa_cons (pe_ix ix_tup (pv 0) (pv 1) (fun _ _ => rfl)) (pa_cons pe_bl (pa_cons pe_bl pa_nil)))), ?_⟩
    obtain ⟨u, hu, qu⟩ := ms_at hm hi
    have fin : ∀ v, MO K H v (if 0 < i then some (at' qs (i - 1)) else none) → ∃ v', [some (V.ref x), some (V.int (i : Int)), some v][2]? = some (some v') ∧ ∃ v2, [some (V.ref x), some (V.int (i : Int)), some v][0]? = some (some v2) ∧
        ∃ v3, [some (V.ref x), some (V.int (i : Int)), some v][1]? = some (some v3) ∧ rIxT K v2 v3 H fun v4 H2 => ∀ z dz, H2 z = none → H2 dz = none → dz ≠ z →
          spMkS K ([.ref z] ++ [v', v4, .bl false, .bl true]) (upd (upd H2 dz (.own z)) z (.ins (CS K) dz [])) (fun v H3 => v = .non ∧ Q (.ref z) H3) C8.E0 := fun v hv => by
      refine ⟨_, rfl, _, rfl, _, rfl, x, ms, _, u, rfl, rfl, SqT.of hx, at_of rfl hu, fun z dz nz ndz nez => ?_⟩
      have b1 : BdO 4000 (if 0 < i then some (at' qs (i - 1)) else none) := bdO_if fun c => (bd_at hB (by omega)).mono (by decide)
      have b2 : BdO 4000 (some (at' qs i)) := BdO.some ((bd_at hB hi).mono (by decide))
      refine ⟨z, dz, _, _, _, some (at' qs i), _, _, rfl, upd_same, hv.up (same2 nz ndz), Mv.up qu (same2 nz ndz), b1, b2, ?_, rfl, ?_⟩
      · by_cases c : 0 < i
        · rw [if_pos c]
          show (decide _ || _) = true
          have e := hR (i - 1) (by omega)
          rw [show i - 1 + 1 = i by omega] at e
          rw [decide_eq_true e]
          rfl
        · rw [if_neg c]
          rfl
      · exact k _ _ (made3 nz ndz) (sv_made (o := if 0 < i then some (at' qs (i - 1)) else none) (u := some (at' qs i)) nz ndz hv qu)
    refine ⟨_, rfl, _, _, rfl, rfl, _, rfl, ?_⟩
    by_cases c : 0 < i
    · rw [decide_eq_true (show (0 : Int) < (i : Int) by omega)]
      obtain ⟨u', hu', qu'⟩ := ms_at hm (show i - 1 < qs.length by omega)
      exact iteT ⟨_, rfl, _, rfl, _, _, rfl, rfl, x, ms, _, u', rfl, rfl, SqT.of hx, at_of (by omega) hu', fin _ (mO_if (fun _ => qu') fun z => absurd c z)⟩
    · rw [decide_eq_false (show ¬ (0 : Int) < (i : Int) by omega)]
      exact iteF (fin _ (mO_if (fun z => absurd z c) fun _ => rfl))
end
end Sz

/-! Ladders, the third part: the other stretches; the class. -/
namespace Sz
open PySem PySem.Spec PyProof.Rows L2 SzR
section
variable {P : Program} {w : World} {K : PySem.W.Frag} {mg : Str → Option Value} {base : Heap}
theorem ok_down_stretch (T : Txt K mg w) (c4 : C8.Mak P w K mg base 3 "Stretch" (CS K) (spMkS K) []) : C8.CalAt P w K mg base 7 (He.ga K "down_stretch") (spSt K .down) := by
  obtain ⟨fd, F⟩ := T.d_down_stretch
  refine ⟨fd, ["marks", "number"], F.ok sc_down_stretch (fun vs H Q E h => ?_) (fun cdv A outer s H vs Q E hr h => ?_), F.kp, F.bindsN (fun _ _ _ _ _ _ us hl => match us, hl with | [_, _], _ => rfl)⟩
  · obtain ⟨x, qs, i, rfl, _⟩ := h
    rfl
  · obtain ⟨x, qs, i, rfl, ⟨ms, hx, hm⟩, hi, h24, hR, hB, k⟩ := h
    have hl := ms_len hm
    refine ⟨_, PSs.nox <| pss_cons (ps_set (i := 2) sc_down_stretch.nd rfl (Or.inl rfl) (pe_ifExp (pt_cmpR op_lt (pe_op op_add (pv 1) pe_int) (pe_callB call_len_seq (by rfl) T.free_len PySem.boot_len (pa_cons (pv 0) pa_nil)) (nomark _))
          (pe_ix ix_tup (pv 0) (pe_op op_add (pv 1) pe_int) (fun _ _ => rfl)) pe_non))
      <| pss_one <| ps_ret <| C8.pe_mk c4 hr (by decide) (by rfl) (pa_cons (pe_ix ix_tup (pv 0) (pv 1) (fun _ _ => rfl)) (pa_cons (pv 2) (pa_cons pe_bl (pa_cons pe_bl pa_nil)))), ?_⟩
    obtain ⟨u, hu, qu⟩ := ms_at hm hi
    have fin : ∀ v, MO K H v (if i + 1 < qs.length then some (at' qs (i + 1)) else none) → ∃ v2, [some (V.ref x), some (V.int (i : Int)), some v][0]? = some (some v2) ∧
        ∃ v3, [some (V.ref x), some (V.int (i : Int)), some v][1]? = some (some v3) ∧ rIxT K v2 v3 H fun v4 H2 => ∃ v', [some (V.ref x), some (V.int (i : Int)), some v][2]? = some (some v') ∧ ∀ z dz, H2 z = none → H2 dz = none → dz ≠ z →
          spMkS K ([.ref z] ++ [v4, v', .bl true, .bl false]) (upd (upd H2 dz (.own z)) z (.ins (CS K) dz [])) (fun v H3 => v = .non ∧ Q (.ref z) H3) C8.E0 := fun v hv => by
      refine ⟨_, rfl, _, rfl, x, ms, _, u, rfl, rfl, SqT.of hx, at_of rfl hu, _, rfl, fun z dz nz ndz nez => ?_⟩
      have b1 : BdO 4000 (if i + 1 < qs.length then some (at' qs (i + 1)) else none) := bdO_if fun c => (bd_at hB c).mono (by decide)
      have b2 : BdO 4000 (some (at' qs i)) := BdO.some ((bd_at hB hi).mono (by decide))
      refine ⟨z, dz, _, _, some (at' qs i), _, _, _, rfl, upd_same, Mv.up qu (same2 nz ndz), hv.up (same2 nz ndz), b2, b1, ?_, rfl, ?_⟩
      · by_cases c : i + 1 < qs.length
        · rw [if_pos c]
          show (decide _ || _) = true
          rw [decide_eq_true (hR i c)]
          rfl
        · rw [if_neg c]
          rfl
      · exact k _ _ (made3 nz ndz) (sv_made (o := some (at' qs i)) (u := if i + 1 < qs.length then some (at' qs (i + 1)) else none) nz ndz qu hv)
    refine ⟨_, rfl, _, _, rfl, rfl, _, rfl, x, ms, rfl, .inr (SqT.of hx), _, _, rfl, rfl, _, rfl, ?_⟩
    by_cases c : i + 1 < qs.length
    · rw [decide_eq_true (show (i : Int) + 1 < (ms.length : Int) by omega)]
      obtain ⟨u', hu', qu'⟩ := ms_at hm c
      exact iteT ⟨_, rfl, _, rfl, _, _, rfl, rfl, x, ms, _, u', rfl, rfl, SqT.of hx, at_of (by omega) hu', fin _ (mO_if (fun _ => qu') fun z => absurd c z)⟩
    · rw [decide_eq_false (show ¬ (i : Int) + 1 < (ms.length : Int) by omega)]
      exact iteF (fin _ (mO_if (fun z => absurd z c) fun _ => rfl))
theorem ok_near_stretch (T : Txt K mg w) (c2 : C8.Cal P w K mg base 5 "midst" (spMid K) []) (c4 : C8.Mak P w K mg base 3 "Stretch" (CS K) (spMkS K) []) : C8.CalAt P w K mg base 7 (He.ga K "near_stretch") (spSt K .near) := by
  obtain ⟨fd, F⟩ := T.d_near_stretch
  refine ⟨fd, ["marks", "number"], F.ok sc_near_stretch (fun vs H Q E h => ?_) (fun cdv A outer s H vs Q E hr h => ?_), F.kp, F.bindsN (fun _ _ _ _ _ _ us hl => match us, hl with | [_, _], _ => rfl)⟩
  · obtain ⟨x, qs, i, rfl, _⟩ := h
    rfl
  · obtain ⟨x, qs, i, rfl, ⟨ms, hx, hm⟩, hi, h24, hR, hB, k⟩ := h
    have hl := ms_len hm
    refine ⟨_, PSs.nox <| pss_cons (ps_set (i := 2) sc_near_stretch.nd rfl (Or.inl rfl) (pe_ifExp (pt_cmpR op_gt (pv 1) pe_int (nomark _))
          (C8.pe_c c2 hr (by decide) (by rfl) (pa_cons (pe_ix ix_tup (pv 0) (pe_op op_sub (pv 1) pe_int) (fun _ _ => rfl)) (pa_cons (pe_ix ix_tup (pv 0) (pv 1) (fun _ _ => rfl)) pa_nil))) pe_non))
      <| pss_cons (ps_set (i := 3) sc_near_stretch.nd rfl (Or.inl rfl) (pe_ifExp (pt_cmpR op_lt (pe_op op_add (pv 1) pe_int) (pe_callB call_len_seq (by rfl) T.free_len PySem.boot_len (pa_cons (pv 0) pa_nil)) (nomark _))
          (C8.pe_c c2 hr (by decide) (by rfl) (pa_cons (pe_ix ix_tup (pv 0) (pv 1) (fun _ _ => rfl)) (pa_cons (pe_ix ix_tup (pv 0) (pe_op op_add (pv 1) pe_int) (fun _ _ => rfl)) pa_nil))) pe_non))
      <| pss_one <| ps_ret <| C8.pe_mk c4 hr (by decide) (by rfl) (pa_cons (pv 2) (pa_cons (pv 3) (pa_cons pe_bl (pa_cons pe_bl pa_nil)))), ?_⟩
    obtain ⟨u, hu, qu⟩ := ms_at hm hi
    have bu := bd_at hB hi
    have bl : BdO 4000 (if 0 < i then some (mid (at' qs (i - 1)) (at' qs i)) else none) := bdO_if fun c => ((bd_at hB (show i - 1 < qs.length by omega)).mid bu).mono (by decide)
    have bh : BdO 4000 (if i + 1 < qs.length then some (mid (at' qs i) (at' qs (i + 1))) else none) := bdO_if fun c => (bu.mid (bd_at hB c)).mono (by decide)
    have some_ : isSome (if 0 < i then some (mid (at' qs (i - 1)) (at' qs i)) else none) (if i + 1 < qs.length then some (mid (at' qs i) (at' qs (i + 1))) else none) true false = true := by
      by_cases c : 0 < i
      · rw [if_pos c]
        by_cases d : i + 1 < qs.length
        · rw [if_pos d]
          show (decide _ || _) = true
          have e : mid (at' qs (i - 1)) (at' qs i) < mid (at' qs i) (at' qs (i + 1)) := mids_lt hR c (Nat.lt_succ_self i) d
          rw [decide_eq_true e]
          rfl
        · rw [if_neg d]
          rfl
      · rw [if_neg c]
        rfl
    have fin : ∀ v v' H2, Same H H2 → MO K H2 v (if 0 < i then some (mid (at' qs (i - 1)) (at' qs i)) else none) → MO K H2 v' (if i + 1 < qs.length then some (mid (at' qs i) (at' qs (i + 1))) else none) →
        ∃ a, [some (V.ref x), some (V.int (i : Int)), some v, some v'][2]? = some (some a) ∧ ∃ a', [some (V.ref x), some (V.int (i : Int)), some v, some v'][3]? = some (some a') ∧ ∀ z dz, H2 z = none → H2 dz = none → dz ≠ z →
          spMkS K ([.ref z] ++ [a, a', .bl true, .bl false]) (upd (upd H2 dz (.own z)) z (.ins (CS K) dz [])) (fun v H3 => v = .non ∧ Q (.ref z) H3) C8.E0 := fun v v' H2 e hv hv' => by
      refine ⟨_, rfl, _, rfl, fun z dz nz ndz nez => ?_⟩
      refine ⟨z, dz, _, _, _, _, _, _, rfl, upd_same, hv.up (same2 nz ndz), hv'.up (same2 nz ndz), bl, bh, some_, rfl, ?_⟩
      exact k _ _ (e.trans (made3 nz ndz)) (sv_made nz ndz hv hv')
    have fin2 : ∀ v H1, Same H H1 → MO K H1 v (if 0 < i then some (mid (at' qs (i - 1)) (at' qs i)) else none) →
        ∃ a, [some (V.ref x), some (V.int (i : Int)), some v, none][1]? = some (some a) ∧ ∃ n m : Int, a = .int n ∧ V.int 1 = .int m ∧
        ∃ a0, [some (V.ref x), some (V.int (i : Int)), some v, none][0]? = some (some a0) ∧ ∃ p ys, [a0] = [V.ref p] ∧ (SqL K H1 p ys ∨ SqT K H1 p ys) ∧ ∃ n' m' : Int, V.int (n + m) = .int n' ∧ V.int (ys.length : Int) = .int m' ∧ ∃ c, V.bl (decide (n' < m')) = .bl c ∧
        if c = true then (tCall (spMid K) [] C8.E0 (tCons (tOp (rIxT K) (tVar 0) (tVar 1)) (tCons (tOp (rIxT K) (tVar 0) (tOp (rI0 fun i j => .int (i + j)) (tVar 1) (tC (.int 1)))) tNil))) [some (V.ref x), some (V.int (i : Int)), some v, none] H1 (fun v' H2 => ∃ a, [some (V.ref x), some (V.int (i : Int)), some v, some v'][2]? = some (some a) ∧ ∃ a', [some (V.ref x), some (V.int (i : Int)), some v, some v'][3]? = some (some a') ∧ ∀ z dz, H2 z = none → H2 dz = none → dz ≠ z →
          spMkS K ([.ref z] ++ [a, a', .bl true, .bl false]) (upd (upd H2 dz (.own z)) z (.ins (CS K) dz [])) (fun v H3 => v = .non ∧ Q (.ref z) H3) C8.E0)
        else (∃ a, [some (V.ref x), some (V.int (i : Int)), some v, some V.non][2]? = some (some a) ∧ ∃ a', [some (V.ref x), some (V.int (i : Int)), some v, some V.non][3]? = some (some a') ∧ ∀ z dz, H1 z = none → H1 dz = none → dz ≠ z →
          spMkS K ([.ref z] ++ [a, a', .bl true, .bl false]) (upd (upd H1 dz (.own z)) z (.ins (CS K) dz [])) (fun v H3 => v = .non ∧ Q (.ref z) H3) C8.E0) := fun v H1 e hv => by
      refine ⟨_, rfl, _, _, rfl, rfl, _, rfl, x, ms, rfl, .inr (SqT.of (e _ _ hx)), _, _, rfl, rfl, _, rfl, ?_⟩
      by_cases c : i + 1 < qs.length
      · rw [decide_eq_true (show (i : Int) + 1 < (ms.length : Int) by omega)]
        obtain ⟨u', hu', qu'⟩ := ms_at hm c
        refine iteT ⟨_, rfl, _, rfl, x, ms, _, u, rfl, rfl, SqT.of (e _ _ hx), at_of rfl hu, _, rfl, _, rfl, _, _, rfl, rfl, x, ms, _, u', rfl, rfl, SqT.of (e _ _ hx), at_of (by omega) hu', ?_⟩
        refine ⟨_, _, _, _, rfl, qu.up e, qu'.up e, bu.mono (by decide), (bd_at hB c).mono (by decide), fun v2 H2 e2 hv2 => ?_⟩
        exact fin _ _ _ (e.trans e2) (hv.up e2) (mO_if (fun _ => hv2) fun z => absurd c z)
      · rw [decide_eq_false (show ¬ (i : Int) + 1 < (ms.length : Int) by omega)]
        exact iteF (fin _ _ _ e hv (mO_if (fun z => absurd z c) fun _ => rfl))
    refine ⟨_, rfl, _, _, rfl, rfl, _, rfl, ?_⟩
    by_cases c : 0 < i
    · rw [decide_eq_true (show (0 : Int) < (i : Int) by omega)]
      obtain ⟨u', hu', qu'⟩ := ms_at hm (show i - 1 < qs.length by omega)
      refine iteT ⟨_, rfl, _, rfl, _, _, rfl, rfl, x, ms, _, u', rfl, rfl, SqT.of hx, at_of (by omega) hu', _, rfl, _, rfl, x, ms, _, u, rfl, rfl, SqT.of hx, at_of rfl hu, ?_⟩
      refine ⟨_, _, _, _, rfl, qu', qu, (bd_at hB (show i - 1 < qs.length by omega)).mono (by decide), bu.mono (by decide), fun v2 H2 e2 hv2 => ?_⟩
      exact fin2 _ _ e2 (mO_if (fun _ => hv2) fun z => absurd c z)
    · rw [decide_eq_false (show ¬ (0 : Int) < (i : Int) by omega)]
      exact iteF (fin2 _ _ (Same.refl H) (mO_if (fun z => absurd z c) fun _ => rfl))
end
end Sz

/-! Ladders, the fourth part: the class. -/
namespace Sz
open PySem PySem.Spec PyProof.Rows L2 SzR
section
variable (K : PySem.W.Frag)
/-- __init__: marks that rise, a rule, least and most -/
def spMkL : Sp := fun vs H Q _ => ∃ (z dx T : Addr) (x y : V) (L : Lad), vs = [.ref z, .ref T, L.rule.v, x, y] ∧ H z = some (.ins (CL K) dx []) ∧ Mks K H T L.marks ∧ MO K H x L.least ∧ MO K H y L.most ∧ L.Ok ∧ L.Bnd ∧
  ∀ H1, Same H H1 → Q .non (upd H1 z (.ins (CL K) dx (lF T L.rule.v x y)))
def spLets : Sp := fun vs H Q _ => ∃ v L x q, vs = [v, x] ∧ Lv K H v L ∧ L.Bnd ∧ Mv K H x q ∧ Bd 3000 q ∧ Q (.bl (letsIn L q)) H
def spSize : Sp := fun vs H Q _ => ∃ v L x q, vs = [v, x] ∧ Lv K H v L ∧ L.Ok ∧ L.Bnd ∧ Mv K H x q ∧ Bd 3000 q ∧ ∀ H', Same H H' → Q (oV (size L q)) H'
def spCheck : Sp := fun vs H Q _ => ∃ v L, ∃ i : Nat, vs = [v, .int (i : Int)] ∧ Lv K H v L ∧ i < L.marks.length ∧ Q .non H
def spStr : Sp := fun vs H Q _ => ∃ v L, ∃ i : Nat, vs = [v, .int (i : Int)] ∧ Lv K H v L ∧ L.Ok ∧ L.Bnd ∧ i < L.marks.length ∧ ∀ u H', Same H H' → SO K H' u (stretch L i) → Q u H'
def spLen : Sp := fun vs H Q _ => ∃ v L, vs = [v] ∧ Lv K H v L ∧ L.Ok ∧ Q (.int (L.marks.length : Nat)) H
end
theorem strBy_bd {L : Lad} (h : L.Bnd) {i : Nat} (hi : i < L.marks.length) (r : Rule) : BdS 200 (strBy r L.marks i) := by
  have b : ∀ j, j < L.marks.length → Bd 64 (at' L.marks j) := fun j hj => bd_at h.marks hj
  cases r with
  | up => exact ⟨bdO_if fun c => (b _ (by omega)).mono (by decide), BdO.some ((b _ hi).mono (by decide))⟩
  | down => exact ⟨BdO.some ((b _ hi).mono (by decide)), bdO_if fun c => (b _ c).mono (by decide)⟩
  | near => exact ⟨bdO_if fun c => ((b _ (by omega)).mid (b _ hi)).mono (by decide), bdO_if fun c => ((b _ hi).mid (b _ c)).mono (by decide)⟩
theorem all_bd {L : Lad} (h : L.Bnd) : BdS 200 (mkS L.least L.most true true) := ⟨h.least.mono (by decide), h.most.mono (by decide)⟩
theorem cut_bd {n : Nat} {s t c : Strt} (h : BdS n s) (k : BdS n t) (e : cut s t = some c) : BdS n c := by
  unfold cut at e
  split at e
  · cases e
    exact ⟨later_bd h k, earlier_bd h k⟩
  · cases e
theorem stretch_bd {L : Lad} (h : L.Bnd) {i : Nat} (hi : i < L.marks.length) {c : Strt} (e : stretch L i = some c) : BdS 200 c := cut_bd (strBy_bd h hi L.rule) (all_bd h) e
section
variable {P : Program} {w : World} {K : PySem.W.Frag} {mg : Str → Option Value} {base : Heap}
theorem ok_L_init (T : Txt K mg w) (c1 : C8.Cal P w K mg base 1 "are_measures" (spAreM K) []) (c2 : C8.Cal P w K mg base 1 "is_rule" spIsRule []) (c3 : C8.Cal P w K mg base 1 "is_measure_or_none" (spIsEnd K) [])
    (c4 : C8.Met P w K mg base 1 (CM K) "is_below" (spBelow K) [.bl false]) (c5 : C8.Cal P w K mg base 2 "first_slip" (spSlip K) []) :
    ∃ fd, FunD K "__init__" "Ladder.__init__" (defArgs s_L_init) (defBody s_L_init) (defScope s_L_init) [.str "up", .non, .non] [] (He.ma K (CL K) "__init__") fd ∧
      FnOk P w K mg base C8.CX0 4 (He.ma K (CL K) "__init__") fd ["self", "marks", "rule", "least", "most"] (spMkL K) := by
  obtain ⟨fd, F⟩ := T.d_L_init
  obtain ⟨t24, g24⟩ := T.int_MOST_MARKS
  refine ⟨fd, F, F.ok sc_L_init (fun vs H Q E h => ?_) (fun cdv A outer s H vs Q E hr h => ?_)⟩
  · obtain ⟨z, dx, x, l, m, L, rfl, _⟩ := h
    rfl
  · obtain ⟨z, dx, x, l, m, L, rfl, hz, hM, hl, hm, ok, bd, k⟩ := h
    refine ⟨_, PSs.nox <| pss_cons (ps_if (PW.pt <| pw_or (pt_not <| pt_val <| C8.pe_c c1 hr (by decide) (by rfl) (pa_cons (pv 1) (pa_cons pe_int (pa_cons (pe_glob (v := .int 24) (by rfl) g24 ⟨_, rfl⟩) pa_nil))))
          <| pw_or1 <| pt_not <| pt_val <| C8.pe_c c2 hr (by decide) (by rfl) (pa_cons (pv 2) pa_nil)) pss_never pss_nil)
      <| pss_cons (ps_if (PW.pt <| pw_or (pt_not <| pt_val <| C8.pe_c c3 hr (by decide) (by rfl) (pa_cons (pv 3) pa_nil))
          <| pw_or1 <| pt_not <| pt_val <| C8.pe_c c3 hr (by decide) (by rfl) (pa_cons (pv 4) pa_nil)) pss_never pss_nil)
      <| pss_cons (ps_if (PW.pt <| pw_and (pt_cmp (pc_notN (pv 3))) <| pw_and (pt_cmp (pc_notN (pv 4))) <| pw_and1 <| pt_val <| C8.pe_mt c4 hr (by decide) (pv 4) (pa_cons (pv 3) pa_nil)) pss_never pss_nil)
      <| pss_cons (ps_set (i := 5) sc_L_init.nd rfl (Or.inl rfl) (C8.pe_c c5 hr (by decide) (by rfl) (pa_cons (pv 1) pa_nil)))
      <| pss_cons (ps_if (pt_cmp (pc_notN (pv 5))) pss_never pss_nil)
      <| pss_cons (ps_fld (pv 0) (pv 1) rfl) <| pss_cons (ps_fld (pv 0) (pv 2) rfl) <| pss_cons (ps_fld (pv 0) (pv 3) rfl) <| pss_one <| ps_fld (pv 0) (pv 4) rfl, ?_⟩
    refine ⟨_, rfl, x, L.marks, rfl, hM, ok.pos, ok.few, fun H1 e1 => ⟨true, rfl, iteF ?_⟩⟩
    refine ⟨_, rfl, L.rule, rfl, true, rfl, iteF ?_⟩
    refine ⟨_, rfl, _, L.least, rfl, hl.up e1, true, rfl, iteF ?_⟩
    refine ⟨_, rfl, _, L.most, rfl, hm.up e1, true, rfl, iteF ?_⟩
    refine ⟨_, rfl, _, rfl, ?_⟩
    rw [hl.dec]
    cases e3 : L.least with
    | none =>
      refine iteF (iteF ?_)
      refine ⟨_, rfl, x, L.marks, rfl, hM.up e1, ok.few, ok.rises, bd.marks, _, rfl, false, rfl, iteF ?_⟩
      refine ⟨_, rfl, _, rfl, z, CL K, dx, _, rfl, e1 _ _ hz, T.cls_Ladder, T.noat_Ladder_marks, (by show 0 < 1000; decide), ?_⟩
      refine ⟨_, rfl, _, rfl, z, CL K, dx, _, rfl, upd_same, T.cls_Ladder, T.noat_Ladder_rule, (by show 1 < 1000; decide), ?_⟩
      refine ⟨_, rfl, _, rfl, z, CL K, dx, _, rfl, upd_same, T.cls_Ladder, T.noat_Ladder_least, (by show 2 < 1000; decide), ?_⟩
      refine ⟨_, rfl, _, rfl, z, CL K, dx, _, rfl, upd_same, T.cls_Ladder, T.noat_Ladder_most, (by show 3 < 1000; decide), ?_⟩
      rw [upd_upd, upd_upd, upd_upd]
      exact k H1 e1
    | some a =>
      refine iteT ⟨_, rfl, _, rfl, ?_⟩
      rw [hm.dec]
      cases e4 : L.most with
      | none =>
        refine iteF (iteF ?_)
        refine ⟨_, rfl, x, L.marks, rfl, hM.up e1, ok.few, ok.rises, bd.marks, _, rfl, false, rfl, iteF ?_⟩
        refine ⟨_, rfl, _, rfl, z, CL K, dx, _, rfl, e1 _ _ hz, T.cls_Ladder, T.noat_Ladder_marks, (by show 0 < 1000; decide), ?_⟩
        refine ⟨_, rfl, _, rfl, z, CL K, dx, _, rfl, upd_same, T.cls_Ladder, T.noat_Ladder_rule, (by show 1 < 1000; decide), ?_⟩
        refine ⟨_, rfl, _, rfl, z, CL K, dx, _, rfl, upd_same, T.cls_Ladder, T.noat_Ladder_least, (by show 2 < 1000; decide), ?_⟩
        refine ⟨_, rfl, _, rfl, z, CL K, dx, _, rfl, upd_same, T.cls_Ladder, T.noat_Ladder_most, (by show 3 < 1000; decide), ?_⟩
        rw [upd_upd, upd_upd, upd_upd]
        exact k H1 e1
      | some b =>
        rw [e3] at hl
        rw [e4] at hm
        have hl : Mv K H l a := hl
        have hm : Mv K H m b := hm
        refine iteT ⟨_, rfl, (hm.up e1).at (by decide +kernel) (by decide +kernel) ⟨_, rfl, _, _, b, a, false, rfl, hm.up e1, hl.up e1, (bd.most b e4).mono (by decide), (bd.least a e3).mono (by decide), _, rfl, ?_⟩⟩
        rw [Bool.false_and, Bool.or_false, decide_eq_false (by have := ok.span a b e3 e4; grind)]
        refine iteF ?_
        refine ⟨_, rfl, x, L.marks, rfl, hM.up e1, ok.few, ok.rises, bd.marks, _, rfl, false, rfl, iteF ?_⟩
        refine ⟨_, rfl, _, rfl, z, CL K, dx, _, rfl, e1 _ _ hz, T.cls_Ladder, T.noat_Ladder_marks, (by show 0 < 1000; decide), ?_⟩
        refine ⟨_, rfl, _, rfl, z, CL K, dx, _, rfl, upd_same, T.cls_Ladder, T.noat_Ladder_rule, (by show 1 < 1000; decide), ?_⟩
        refine ⟨_, rfl, _, rfl, z, CL K, dx, _, rfl, upd_same, T.cls_Ladder, T.noat_Ladder_least, (by show 2 < 1000; decide), ?_⟩
        refine ⟨_, rfl, _, rfl, z, CL K, dx, _, rfl, upd_same, T.cls_Ladder, T.noat_Ladder_most, (by show 3 < 1000; decide), ?_⟩
        rw [upd_upd, upd_upd, upd_upd]
        exact k H1 e1
end
end Sz

/-! Ladders, the fifth part: made in three ways; the methods. -/
namespace Sz
open PySem PySem.Spec PyProof.Rows L2 SzR
section
variable {P : Program} {w : World} {K : PySem.W.Frag} {mg : Str → Option Value} {base : Heap}
/-- Ladder's __init__ as it is called -/
structure MkLad (P : Program) (w : World) (K : PySem.W.Frag) (mg : Str → Option Value) (base : Heap) : Prop where
  ex : ∃ fd, FnOk P w K mg base C8.CX0 4 (He.ma K (CL K) "__init__") fd ["self", "marks", "rule", "least", "most"] (spMkL K) ∧
    (∃ ds, Binds K fd ["self", "marks", "rule", "least", "most"] ds ∧ Vals [.str "up", .non, .non] ds) ∧
    (∃ g, KBn K fd ["self", "marks", "rule", "least", "most"] 2 ["rule"] g (fun vs zs => vs ++ (zs ++ [.non, .non]))) ∧
    (∃ g, KBn K fd ["self", "marks", "rule", "least", "most"] 2 ["most", "rule", "least"] g (fun vs zs => vs ++ ((zs.drop 1).take 1 ++ (zs.drop 2 ++ zs.take 1))))
theorem mk_lad (T : Txt K mg w) (h : ∃ fd, FunD K "__init__" "Ladder.__init__" (defArgs s_L_init) (defBody s_L_init) (defScope s_L_init) [.str "up", .non, .non] [] (He.ma K (CL K) "__init__") fd ∧
      FnOk P w K mg base C8.CX0 4 (He.ma K (CL K) "__init__") fd ["self", "marks", "rule", "least", "most"] (spMkL K)) : MkLad P w K mg base := by
  obtain ⟨fd, F, O⟩ := h
  obtain ⟨ds, h1, h2⟩ := F.binds1 (ps := ["self", "marks", "rule", "least", "most"]) 2 0 (by simp) (by simp) (fun T kV doc pm an cdv ct us its hu hi => ⟨_, rfl, match us, its, hu, hi with | [_, _], [_, _, _], _, _ => rfl⟩)
  obtain ⟨g1, b1⟩ := kb1 (ps := ["self", "marks", "rule", "least", "most"]) F 2 ["rule"] (fun vs ds zs => vs ++ (zs ++ ds.drop 1)) (by simp) (fun r1 r2 r3 => r1.append (r3.append (r2.drop 1)))
    (fun T kV doc pm an cdv ct us its ws hu hi hw => match us, its, ws, hu, hi, hw with
      | [_, _], [_, _, _], [_], _, _, _ => ⟨_, by first | rfl | with_unfolding_all rfl, by first | rfl | with_unfolding_all rfl | kernel_rfl⟩)
  obtain ⟨g2, b2⟩ := kb1 (ps := ["self", "marks", "rule", "least", "most"]) F 2 ["most", "rule", "least"] (fun vs _ zs => vs ++ ((zs.drop 1).take 1 ++ (zs.drop 2 ++ zs.take 1))) (by simp)
    (fun r1 r2 r3 => r1.append (((r3.drop 1).take 1).append ((r3.drop 2).append (r3.take 1))))
    (fun T kV doc pm an cdv ct us its ws hu hi hw => match us, its, ws, hu, hi, hw with
      | [_, _], [_, _, _], [_, _, _], _, _, _ => ⟨_, by first | rfl | with_unfolding_all rfl, by first | rfl | with_unfolding_all rfl | kernel_rfl⟩)
  exact ⟨fd, O, ⟨ds, h2, h1⟩, ⟨g1, b1⟩, ⟨g2, b2⟩⟩
theorem Lv.at {H : Hp} {x : V} {L : Lad} {m : Str} (h : Lv K H x L) (h1 : ¬ m = "marks") (h2 : ¬ m = "rule") (h3 : ¬ m = "least") (h4 : ¬ m = "most") {R : Prop} (r : R) :
    ∃ a dx fs, x = .ref a ∧ H a = some (.ins (CL K) dx fs) ∧ fs.lookup m = none ∧ R := by
  obtain ⟨p, dx, T, l, u, e, hp, _⟩ := h
  exact ⟨p, dx, _, e, hp, lF_no T _ l u h1 h2 h3 h4, r⟩
theorem ok_lets_in (T : Txt K mg w) (c1 : C8.Met P w K mg base 1 (CM K) "is_below" (spBelow K) [.bl false]) : C8.Met P w K mg base 2 (CL K) "lets_in" (spLets K) [] := by
  obtain ⟨fd, F⟩ := T.d_L_lets_in
  refine ⟨_, fd, ["self", "measure"], [], T.cls_Ladder, T.meth_Ladder_lets_in, F.ok sc_L_lets_in (fun vs H Q E h => ?_) (fun cdv A outer s H vs Q E hr h => ?_), F.bindsN (fun _ _ _ _ _ _ us hl => match us, hl with | [_, _], _ => rfl), .nil⟩
  · obtain ⟨v, L, x, q, rfl, _⟩ := h
    rfl
  · obtain ⟨v, L, x, q, rfl, ⟨p, dx, M, l, m, rfl, hp, hM, hl, hm⟩, bd, hx, bx, k⟩ := h
    refine ⟨_, PSs.nox <| pss_cons (ps_if (PW.pt <| pw_and (pt_cmp (pc_notN (pe_fld (pv 0) rfl))) <| pw_and1 <| pt_val <| C8.pe_mt c1 hr (by decide) (pv 1) (pa_cons (pe_fld (pv 0) rfl) pa_nil)) (pss_one (ps_ret pe_bl)) pss_nil)
      <| pss_one <| ps_ret <| pe_or (pe_cmp (pc_isN (pe_fld (pv 0) rfl))) <| pe_one <| pe_not <| C8.pe_mt c1 hr (by decide) (pe_fld (pv 0) rfl) (pa_cons (pv 1) pa_nil), ?_⟩
    have k : Q (.bl ((match L.least with | some a => !decide (q < a) | none => true) && (match L.most with | some b => !decide (b < q) | none => true))) H := k
    have fin : (match L.least with | some a => !decide (q < a) | none => true) = true → ∃ v, [some (V.ref p), some x][0]? = some (some v) ∧ ∃ a C d fs u, v = V.ref a ∧ H a = some (.ins C d fs) ∧ Cls K C ∧ NoAttr K C "most" ∧ fs.lookup ("most" : Str) = some u ∧
        ∃ c, V.bl (decide (u = .non)) = .bl c ∧ if c = true then Q (.bl true) H else (tNotV (tMeth (CM K) "is_below" (spBelow K) [.bl false] C8.E0 (tFld K (tVar 0) "most") (tCons (tVar 1) tNil)) [some (V.ref p), some x] H Q) := fun e => by
      rw [e, Bool.true_and] at k
      refine ⟨_, rfl, p, _, dx, _, _, rfl, hp, T.cls_Ladder, T.noat_Ladder_most, lF_most .., _, rfl, ?_⟩
      rw [hm.dec]
      cases e2 : L.most with
      | none =>
        rw [e2] at k
        exact iteT k
      | some b =>
        rw [e2] at k hm
        have hm : Mv K H m b := hm
        refine iteF ⟨_, rfl, p, _, dx, _, _, rfl, hp, T.cls_Ladder, T.noat_Ladder_most, lF_most .., hm.at (by decide +kernel) (by decide +kernel) ⟨_, rfl, _, _, _, _, false, rfl, hm, hx, (bd.most b e2).mono (by decide), bx.mono (by decide), _, rfl, ?_⟩⟩
        rw [Bool.false_and, Bool.or_false]
        exact k
    refine ⟨_, rfl, p, _, dx, _, _, rfl, hp, T.cls_Ladder, T.noat_Ladder_least, lF_least .., _, rfl, ?_⟩
    rw [hl.dec]
    cases e1 : L.least with
    | none => exact iteF (iteF (fin (by rw [e1])))
    | some a =>
      have hl' := hl
      rw [e1] at hl'
      have hl' : Mv K H l a := hl'
      refine iteT ⟨_, rfl, hx.at (by decide +kernel) (by decide +kernel) ⟨_, rfl, p, _, dx, _, _, rfl, hp, T.cls_Ladder, T.noat_Ladder_least, lF_least .., _, _, _, _, false, rfl, hx, hl', bx.mono (by decide), (bd.least a e1).mono (by decide), _, rfl, ?_⟩⟩
      rw [Bool.false_and, Bool.or_false]
      cases c : decide (q < a) with
      | true =>
        rw [e1] at k
        simp only [c] at k
        exact iteT k
      | false => exact iteF (fin (by rw [e1]; simp only [c]; rfl))
theorem ok_check (T : Txt K mg w) : C8.Met P w K mg base 1 (CL K) "check_size" (spCheck K) [] := by
  obtain ⟨fd, F⟩ := T.d_L_check_size
  refine ⟨_, fd, ["self", "number"], [], T.cls_Ladder, T.meth_Ladder_check_size, F.ok sc_L_check_size (fun vs H Q E h => ?_) (fun cdv A outer s H vs Q E hr h => ?_), F.bindsN (fun _ _ _ _ _ _ us hl => match us, hl with | [_, _], _ => rfl), .nil⟩
  · obtain ⟨v, L, i, rfl, _⟩ := h
    rfl
  · obtain ⟨v, L, i, rfl, ⟨p, dx, M, l, m, rfl, hp, ⟨ms, hM, hq⟩, hl, hm⟩, hi, k⟩ := h
    have hlen := ms_len hq
    refine ⟨_, PSs.nox <| pss_one <| ps_if (PW.pt <| pw_or (pt_not <| pt_val <| pe_callB call_isi (by rfl) T.free_isinstance (by decide +kernel) (pa_cons (pv 1) (pa_cons (pe_bltn (v := .ty "int") (by rfl) T.free_int (by decide +kernel) rfl) pa_nil)))
        <| pw_or (pt_val <| pe_callB call_isi (by rfl) T.free_isinstance (by decide +kernel) (pa_cons (pv 1) (pa_cons (pe_bltn (v := .ty "bool") (by rfl) T.free_bool (by decide +kernel) rfl) pa_nil)))
        <| pw_or1 <| pt_not <| pt_chain op_le op_lt pe_int (pv 1) (pe_callB call_len_seq (by rfl) T.free_len PySem.boot_len (pa_cons (pe_fld (pv 0) rfl) pa_nil))) pss_never pss_nil, ?_⟩
    refine ⟨_, rfl, _, _, _, _, true, rfl, .ty _, .base (.int _), kit_ty (by decide +kernel), true, rfl, iteF ?_⟩
    refine ⟨_, rfl, _, _, _, _, false, rfl, .ty _, .base (.int _), kit_ty (by decide +kernel), false, rfl, iteF ?_⟩
    refine ⟨_, rfl, _, _, rfl, rfl, true, congrArg V.bl (decide_eq_true (by omega)), iteT ?_⟩
    refine ⟨_, rfl, p, _, dx, _, _, rfl, hp, T.cls_Ladder, T.noat_Ladder_marks, lF_marks .., M, ms, rfl, .inr (SqT.of hM), _, _, rfl, rfl, true, congrArg V.bl (decide_eq_true (by omega)), iteF k⟩
theorem ok_len (T : Txt K mg w) : C8.Met P w K mg base 1 (CL K) "__len__" (spLen K) [] := by
  obtain ⟨fd, F⟩ := T.d_L_len
  refine ⟨_, fd, ["self"], [], T.cls_Ladder, T.meth_Ladder_len, F.ok sc_L_len (fun vs H Q E h => ?_) (fun cdv A outer s H vs Q E hr h => ?_), F.bindsN (fun _ _ _ _ _ _ us hl => match us, hl with | [_], _ => rfl), .nil⟩
  · obtain ⟨v, L, rfl, _⟩ := h
    rfl
  · obtain ⟨v, L, rfl, ⟨p, dx, M, l, m, rfl, hp, ⟨ms, hM, hq⟩, hl, hm⟩, ok, k⟩ := h
    refine ⟨_, PSs.nox <| pss_one <| ps_ret <| pe_callB call_len_seq (by rfl) T.free_len PySem.boot_len (pa_cons (pe_fld (pv 0) rfl) pa_nil), ?_⟩
    refine ⟨_, rfl, p, _, dx, _, _, rfl, hp, T.cls_Ladder, T.noat_Ladder_marks, lF_marks .., M, ms, rfl, .inr (SqT.of hM), ?_⟩
    rw [ms_len hq]
    exact k
theorem ok_size (T : Txt K mg w) (c1 : C8.Met P w K mg base 2 (CL K) "lets_in" (spLets K) []) (c2 : ∀ r, C8.CalAt P w K mg base 7 (He.ga K (szN r)) (spSz K r)) : C8.Met P w K mg base 8 (CL K) "size" (spSize K) [] := by
  obtain ⟨fd, F⟩ := T.d_L_size
  refine ⟨_, fd, ["self", "measure"], [], T.cls_Ladder, T.meth_Ladder_size, F.ok sc_L_size (fun vs H Q E h => ?_) (fun cdv A outer s H vs Q E hr h => ?_), F.bindsN (fun _ _ _ _ _ _ us hl => match us, hl with | [_, _], _ => rfl), .nil⟩
  · obtain ⟨v, L, x, q, rfl, _⟩ := h
    rfl
  · obtain ⟨v, L, x, q, rfl, hv, ok, bd, hx, bx, k⟩ := h
    obtain ⟨fd2, ps2, F2, kp2, b2⟩ := (c2 L.rule).ex
    refine ⟨_, PSs.nox <| pss_cons (ps_if (pt_not <| pt_val <| C8.pe_mt c1 hr (by decide) (pv 0) (pa_cons (pv 1) pa_nil)) (pss_one (ps_ret pe_non)) pss_nil)
      <| pss_cons (ps_set (i := 2) sc_L_size.nd rfl (Or.inl rfl) (pe_ix ix_kdict (pe_glob (v := .ref (He.ga K "SIZES")) (by rfl) T.glo_SIZES rfl) (pe_fld (pv 0) rfl) (fun _ _ => rfl)))
      <| pss_one <| ps_ret <| pe_callL (i := 2) (dvs := []) (E := C8.E0) F2 (hr.mono (by decide)) rfl (Or.inl rfl) kp2 b2 .nil C8.pass0 (pa_cons (pe_fld (pv 0) rfl) (pa_cons (pv 1) pa_nil)), ?_⟩
    refine ⟨_, rfl, hv.at (by decide +kernel) (by decide +kernel) (by decide +kernel) (by decide +kernel) ⟨_, rfl, _, L, _, q, rfl, hv, bd, hx, bx, _, rfl, ?_⟩⟩
    have k : ∀ H', Same H H' → Q (oV (if letsIn L q then sizeBy L.rule L.marks q else none)) H' := k
    cases e : letsIn L q with
    | false =>
      have k := k H (Same.refl H)
      rw [e] at k
      exact iteT k
    | true =>
      refine iteF ?_
      obtain ⟨p, dx, M, l, m, rfl, hp, hM, hl, hm⟩ := hv
      refine ⟨_, rfl, p, _, dx, _, _, rfl, hp, T.cls_Ladder, T.noat_Ladder_rule, lF_rule .., _, _, _, rfl, rfl, T.sizes L.rule, ?_⟩
      refine ⟨rfl, _, rfl, p, _, dx, _, _, rfl, hp, T.cls_Ladder, T.noat_Ladder_marks, lF_marks .., _, rfl, M, L.marks, _, q, rfl, hM, ok.pos, ok.few, bd.marks, hx, bx, fun H' e' => ?_⟩
      have k := k H' e'
      rw [e] at k
      exact k
theorem isSome_all {L : Lad} (ok : L.Ok) : isSome L.least L.most true true = true := by
  cases e1 : L.least with
  | none => rfl
  | some a =>
    cases e2 : L.most with
    | none => rfl
    | some b =>
      have h := ok.span a b e1 e2
      unfold isSome
      by_cases c : a < b
      · simp [c]
      · have : a = b := by grind
        simp [this]
theorem ok_stretch (T : Txt K mg w) (c1 : C8.Met P w K mg base 1 (CL K) "check_size" (spCheck K) []) (c2 : ∀ r, C8.CalAt P w K mg base 7 (He.ga K (stN r)) (spSt K r))
    (c3 : C8.Met P w K mg base 5 (CS K) "cut" (spCut K) []) (c4 : C8.Mak P w K mg base 3 "Stretch" (CS K) (spMkS K) []) : C8.Met P w K mg base 8 (CL K) "stretch" (spStr K) [] := by
  obtain ⟨fd, F⟩ := T.d_L_stretch
  refine ⟨_, fd, ["self", "number"], [], T.cls_Ladder, T.meth_Ladder_stretch, F.ok sc_L_stretch (fun vs H Q E h => ?_) (fun cdv A outer s H vs Q E hr h => ?_), F.bindsN (fun _ _ _ _ _ _ us hl => match us, hl with | [_, _], _ => rfl), .nil⟩
  · obtain ⟨v, L, i, rfl, _⟩ := h
    rfl
  · obtain ⟨v, L, i, rfl, hv, ok, bd, hi, k⟩ := h
    obtain ⟨fd2, ps2, F2, kp2, b2⟩ := (c2 L.rule).ex
    refine ⟨_, PSs.nox <| pss_cons (ps_expr (C8.pe_mt c1 hr (by decide) (pv 0) (pa_cons (pv 1) pa_nil)))
      <| pss_cons (ps_set (i := 2) sc_L_stretch.nd rfl (Or.inl rfl) (pe_ix ix_kdict (pe_glob (v := .ref (He.ga K "STRETCHES")) (by rfl) T.glo_STRETCHES rfl) (pe_fld (pv 0) rfl) (fun _ _ => rfl)))
      <| pss_one <| ps_ret <| C8.pe_mt c3 hr (by decide) (pe_callL (i := 2) (dvs := []) (E := C8.E0) F2 (hr.mono (by decide)) rfl (Or.inl rfl) kp2 b2 .nil C8.pass0 (pa_cons (pe_fld (pv 0) rfl) (pa_cons (pv 1) pa_nil)))
        (pa_cons (C8.pe_mk c4 hr (by decide) (by rfl) (pa_cons (pe_fld (pv 0) rfl) (pa_cons (pe_fld (pv 0) rfl) (pa_cons pe_bl (pa_cons pe_bl pa_nil))))) pa_nil), ?_⟩
    refine ⟨_, rfl, hv.at (by decide +kernel) (by decide +kernel) (by decide +kernel) (by decide +kernel) ⟨_, rfl, _, L, i, rfl, hv, hi, ?_⟩⟩
    obtain ⟨p, dx, M, l, m, rfl, hp, hM, hl, hm⟩ := hv
    refine ⟨_, rfl, p, _, dx, _, _, rfl, hp, T.cls_Ladder, T.noat_Ladder_rule, lF_rule .., _, _, _, rfl, rfl, T.stretches L.rule, ?_⟩
    refine ⟨rfl, _, rfl, p, _, dx, _, _, rfl, hp, T.cls_Ladder, T.noat_Ladder_marks, lF_marks .., _, rfl, M, L.marks, i, rfl, hM, hi, ok.few, ok.rises, bd.marks, fun u H1 e1 hu => ?_⟩
    obtain ⟨pu, du, lu, hu', rfl, hpu, hlu, hhu⟩ := id hu
    refine ⟨pu, du, _, rfl, hpu, sF_cut .., ?_⟩
    have hp1 := e1 _ _ hp
    refine ⟨_, rfl, p, _, dx, _, _, rfl, hp1, T.cls_Ladder, T.noat_Ladder_least, lF_least .., _, rfl, p, _, dx, _, _, rfl, hp1, T.cls_Ladder, T.noat_Ladder_most, lF_most .., fun z dz nz ndz nez => ?_⟩
    refine ⟨z, dz, _, _, L.least, L.most, true, true, rfl, upd_same, (hl.up e1).up (same2 nz ndz), (hm.up e1).up (same2 nz ndz), bd.least.mono (by decide), bd.most.mono (by decide), isSome_all ok, rfl, ?_⟩
    refine ⟨_, _, strBy L.rule L.marks i, mkS L.least L.most true true, rfl, hu.up (made3 nz ndz), sv_made nz ndz (hl.up e1) (hm.up e1), ?_, ?_, fun v2 H2 e2 hv2 => ?_⟩
    · exact ⟨(strBy_bd bd hi L.rule).1.mono (by decide), (strBy_bd bd hi L.rule).2.mono (by decide)⟩
    · exact ⟨(all_bd bd).1.mono (by decide), (all_bd bd).2.mono (by decide)⟩
    · exact k v2 H2 ((e1.trans (made3 nz ndz)).trans e2) hv2
end
end Sz

/-! Where two ladders part: points. -/
namespace Sz
open PySem PySem.Spec PyProof.Rows L2 SzR
/-- all but one list stands as it was -/
def SameX (l : Addr) (H H' : Hp) : Prop := ∀ b o, b ≠ l → H b = some o → H' b = some o
theorem SameX.of {l : Addr} {H H' : Hp} (e : Same H H') : SameX l H H' := fun b o _ q => e b o q
theorem SameX.trans {l : Addr} {H H1 H2 : Hp} (a : SameX l H H1) (b : SameX l H1 H2) : SameX l H H2 := fun c o h q => b c o h (a c o h q)
theorem SameX.upd {l : Addr} {H : Hp} {o : HO} : SameX l H (upd H l o) := fun b u h q => by rw [upd_ne h]; exact q
/-- what is no list stays through it -/
theorem Mv.upx {K : PySem.W.Frag} {H H' : Hp} {l : Addr} {v : V} {q : Rat} {xs : List V} (h : Mv K H v q) (hl : H l = some (.lst xs)) (e : SameX l H H') : Mv K H' v q := by
  obtain ⟨p, dx, a, b⟩ := h
  exact ⟨p, dx, a, e _ _ (ne_of b hl (fun z => nomatch z)) b⟩
theorem Ms.upx {K : PySem.W.Frag} {H H' : Hp} {l : Addr} {vs : List V} {qs : List Rat} {xs : List V} (h : Ms K H vs qs) (hl : H l = some (.lst xs)) (e : SameX l H H') : Ms K H' vs qs :=
  Paired.mapP h fun _ _ z => z.upx hl e
/-- .. new since H -/
theorem SameX.same {l : Addr} {H H1 H2 : Hp} (hn : H l = none) (e : Same H H1) (x : SameX l H1 H2) : Same H H2 := fun b o q => x b o (ne_of_none q hn) (e b o q)
theorem paired_append {α β : Type} {F : α → β → Prop} : ∀ {l1 l2 : List α} {m1 m2 : List β}, Paired F l1 m1 → Paired F l2 m2 → Paired F (l1 ++ l2) (m1 ++ m2)
  | _, _, _, _, .nil, h => h
  | _, _, _, _, .cons a t, h => .cons a (paired_append t h)
theorem paired_take {α β : Type} {F : α → β → Prop} : ∀ (n : Nat) {l : List α} {m : List β}, Paired F l m → Paired F (l.take n) (m.take n)
  | 0, _, _, _ => .nil
  | n + 1, _, _, .nil => .nil
  | n + 1, _, _, .cons a t => .cons a (paired_take n t)
theorem paired_drop {α β : Type} {F : α → β → Prop} : ∀ (n : Nat) {l : List α} {m : List β}, Paired F l m → Paired F (l.drop n) (m.drop n)
  | 0, _, _, h => h
  | n + 1, _, _, .nil => .nil
  | n + 1, _, _, .cons _ t => paired_drop n t
theorem paired_mem {α β : Type} {F : α → β → Prop} : ∀ {l : List α} {m : List β}, Paired F l m → ∀ {i : Nat} {x : α}, l[i]? = some x → ∃ y, m[i]? = some y ∧ F x y
  | _, _, .nil, i, x, h => by simp at h
  | _, _, .cons a t, 0, x, h => by
    simp at h
    subst h
    exact ⟨_, rfl, a⟩
  | _, _, .cons a t, i + 1, x, h => paired_mem t (i := i) (by simpa using h)
theorem ins_eq {q : Rat} : ∀ {qs : List Rat} {k : Nat}, (∀ j, j < k → at' qs j < q) → k ≤ qs.length → (k < qs.length → ¬ at' qs k < q) →
    ins q qs = if k < qs.length ∧ at' qs k = q then qs else qs.take k ++ q :: qs.drop k
  | [], k, h1, h2, h3 => by
    have : k = 0 := by simpa using h2
    subst this
    rfl
  | a :: l, 0, h1, h2, h3 => by
    have c : ¬ a < q := h3 (by simp)
    unfold ins
    rw [if_neg c]
    by_cases e : a = q
    · rw [if_pos e, if_pos ⟨by simp, e⟩]
    · rw [if_neg e, if_neg (fun z => e z.2)]
      rfl
  | a :: l, k + 1, h1, h2, h3 => by
    have c : a < q := h1 0 (by omega)
    unfold ins
    rw [if_pos c, ins_eq (qs := l) (k := k) (fun j hj => h1 (j + 1) (by omega)) (by simpa using h2) (fun hk => h3 (by simpa using hk))]
    by_cases e : k < l.length ∧ at' l k = q
    · rw [if_pos e, if_pos ⟨by simpa using e.1, e.2⟩]
    · rw [if_neg e, if_neg (fun z => e ⟨by simpa using z.1, z.2⟩)]
      rfl
theorem ins_len {q : Rat} : ∀ {qs : List Rat}, (ins q qs).length ≤ qs.length + 1
  | [] => by simp [ins]
  | a :: l => by
    unfold ins
    split
    · have := ins_len (q := q) (qs := l)
      simp only [List.length_cons]
      omega
    · split <;> simp
section
variable (K : PySem.W.Frag)
def spPut : Sp := fun vs H Q _ => ∃ l x ms qs q, vs = [.ref l, x] ∧ H l = some (.lst ms) ∧ Ms K H ms qs ∧ Mv K H x q ∧ qs.length ≤ 1000 ∧ (∀ r ∈ qs, Bd 1000 r) ∧ Bd 1000 q ∧
  ∀ ms' H', SameX l H H' → H' l = some (.lst ms') → Ms K H' ms' (ins q qs) → Q .non H'
def spEnds : Sp := fun vs H Q _ => ∃ v L, vs = [v] ∧ Lv K H v L ∧ L.Ok ∧ L.Bnd ∧ ∀ D ms H', Same H H' → H' D = some (.lst ms) → Ms K H' ms (ends L) → Q (.ref D) H'
def spPoints : Sp := fun vs H Q _ => ∃ v1 v2 x y L1 L2 lo hi, vs = [v1, v2, x, y] ∧ Lv K H v1 L1 ∧ Lv K H v2 L2 ∧ L1.Ok ∧ L1.Bnd ∧ L2.Ok ∧ L2.Bnd ∧ Mv K H x lo ∧ Mv K H y hi ∧ Bd 1000 lo ∧ Bd 1000 hi ∧
  ∀ D ms H', Same H H' → H' D = some (.lst ms) → Ms K H' ms (pointsOf lo hi (ends L1 ++ ends L2)) → Q (.ref D) H'
def spAlike : Sp := fun vs H Q _ => ∃ h t m, vs = [oV h, oV t, .int m] ∧ Q (.bl (decide (alike h t m))) H
end
section
variable {P : Program} {w : World} {K : PySem.W.Frag} {mg : Str → Option Value} {base : Heap}
theorem ok_put (T : Txt K mg w) (c1 : C8.Met P w K mg base 1 (CM K) "is_below" (spBelow K) [.bl false]) (c2 : C8.Met P w K mg base 1 (CM K) "__eq__" (spEqM K) []) : C8.Cal P w K mg base 3 "put_among" (spPut K) [] := by
  obtain ⟨fd, F⟩ := T.d_put_among
  refine ⟨_, fd, ["some", "measure"], [], F.ok sc_put_among (fun vs H Q E h => ?_) (fun cdv A outer s H vs Q E hr h => ?_), T.glo_put_among, F.kp, F.bindsN (fun _ _ _ _ _ _ us hl => match us, hl with | [_, _], _ => rfl), .nil⟩
  · obtain ⟨l, x, ms, qs, q, rfl, _⟩ := h
    rfl
  · obtain ⟨l, x, ms, qs, q, rfl, hl, hm, hx, h1000, hB, bq, k⟩ := h
    have hlen := ms_len hm
    have small : ms.length < sizeLine := small1000 (by omega)
    have line : sizeLine < 2 ^ 63 := line63
    refine ⟨_, PSs.nox <| pss_cons (ps_set (i := 2) sc_put_among.nd rfl (Or.inl rfl) pe_int)
      <| pss_cons (ps_while PassesOwn.never (PW.pt <| pw_and (pt_cmpR op_lt (pv 2) (pe_callB call_len_seq (by rfl) T.free_len PySem.boot_len (pa_cons (pv 0) pa_nil)) (nomark _))
          <| pw_and1 <| pt_val <| C8.pe_mt c1 hr (by decide) (pe_ix ix_list (pv 0) (pv 2) (fun _ _ => rfl)) (pa_cons (pv 1) pa_nil))
        (pss_one <| ps_aug (i := 2) sc_put_among.nd rfl (Or.inl rfl) pe_int ip_add))
      <| pss_one <| ps_if (PW.pt <| pw_or (pt_cmpR op_eq (pv 2) (pe_callB call_len_seq (by rfl) T.free_len PySem.boot_len (pa_cons (pv 0) pa_nil)) (nomark _))
          <| pw_or1 <| pt_cmpR (op_neI c2 hr T.neM T.insM.hm) (pe_ix ix_list (pv 0) (pv 2) (fun _ _ => rfl)) (pv 1) (nomark _))
        (pss_one <| ps_expr <| pe_bm PySem.F.plainAttrs_list PySem.F.slot_list_insert PySem.F.type_list_insert mt_insert (pv 0) (pa_cons (pv 2) (pa_cons (pv 1) pa_nil))) pss_nil, ?_⟩
    refine while_by (fun σ H' => H' = H ∧ ∃ i : Nat, σ = [some (.ref l), some x, some (.int (i : Int))] ∧ i ≤ qs.length ∧ ∀ j, j < i → at' qs j < q)
      (fun σ _ => match σ with | [_, _, some (.int n)] => qs.length - n.toNat | _ => 0) ⟨rfl, 0, rfl, Nat.zero_le _, fun j h => absurd h (Nat.not_lt_zero j)⟩ ?_ ?_
    · rintro σ H' ⟨rfl, i, rfl, hi, hj⟩
      have fin : (i < qs.length → ¬ at' qs i < q) → ∃ v, [some (V.ref l), some x, some (V.int (i : Int))][2]? = some (some v) ∧ ∃ v0, [some (V.ref l), some x, some (V.int (i : Int))][0]? = some (some v0) ∧ ∃ p ys, [v0] = [V.ref p] ∧ (SqL K H' p ys ∨ SqT K H' p ys) ∧
          rEq v (.int (ys.length : Nat)) H' fun z H2 => ∃ c, z = .bl c ∧ if c = true then (if true = true then
            ((tBM K "list" (fun x vs H Q => ∃ (l : Addr) (xs : List V) (i : Int) (y : V), x = .ref l ∧ vs = [.int i, y] ∧ H l = some (.lst xs) ∧ xs.length < sizeLine ∧ 0 ≤ i ∧ i < 2 ^ 63 ∧ Q .non (upd H l (.lst (xs.take i.toNat ++ [y] ++ xs.drop i.toNat)))) (tVar 0) (tCons (tVar 2) (tCons (tVar 1) tNil)))
              [some (V.ref l), some x, some (V.int (i : Int))] H2 fun _ H3 => Q .non H3) else Q .non H2)
            else (tTest (tOp (rOwnNe (CM K) (spEqM K)) (tOp (rIxL K) (tVar 0) (tVar 2)) (tVar 1))) [some (V.ref l), some x, some (V.int (i : Int))] H2 fun c H3 => if c = true then
            ((tBM K "list" (fun x vs H Q => ∃ (l : Addr) (xs : List V) (i : Int) (y : V), x = .ref l ∧ vs = [.int i, y] ∧ H l = some (.lst xs) ∧ xs.length < sizeLine ∧ 0 ≤ i ∧ i < 2 ^ 63 ∧ Q .non (upd H l (.lst (xs.take i.toNat ++ [y] ++ xs.drop i.toNat)))) (tVar 0) (tCons (tVar 2) (tCons (tVar 1) tNil)))
              [some (V.ref l), some x, some (V.int (i : Int))] H3 fun _ H4 => Q .non H4) else Q .non H3 := fun hge => by
        have eq := ins_eq hj hi hge
        have put : ¬ (i < qs.length ∧ at' qs i = q) → (tBM K "list" (fun x vs H Q => ∃ (l : Addr) (xs : List V) (i : Int) (y : V), x = .ref l ∧ vs = [.int i, y] ∧ H l = some (.lst xs) ∧ xs.length < sizeLine ∧ 0 ≤ i ∧ i < 2 ^ 63 ∧ Q .non (upd H l (.lst (xs.take i.toNat ++ [y] ++ xs.drop i.toNat)))) (tVar 0) (tCons (tVar 2) (tCons (tVar 1) tNil)))
              [some (V.ref l), some x, some (V.int (i : Int))] H' fun _ H3 => Q .non H3 := fun hn => by
          refine ⟨_, rfl, .inl ⟨rfl, _, SqL.of hl⟩, _, rfl, _, rfl, l, ms, (i : Int), x, rfl, rfl, hl, small, by omega, by omega, ?_⟩
          have up := SameX.upd (l := l) (H := H') (o := .lst (ms.take (i : Int).toNat ++ [x] ++ ms.drop (i : Int).toNat))
          refine k _ _ up upd_same ?_
          rw [eq, if_neg hn, Int.toNat_natCast, List.append_assoc]
          rw [Int.toNat_natCast, List.append_assoc] at up
          exact paired_append (paired_take i (hm.upx hl up)) (.cons (hx.upx hl up) (paired_drop i (hm.upx hl up)))
        refine ⟨_, rfl, _, rfl, l, ms, rfl, .inl (SqL.of hl), rfl, _, rfl, ?_⟩
        by_cases c : i = qs.length
        · rw [decide_eq_true (show V.int (i : Int) = V.int ((ms.length : Nat) : Int) by rw [c, hlen])]
          exact iteT (iteT (put fun z => by omega))
        · rw [decide_eq_false (show ¬ V.int (i : Int) = V.int ((ms.length : Nat) : Int) from fun z => c (by injection z with z; omega))]
          refine iteF ?_
          have hlt : i < qs.length := by omega
          obtain ⟨v, hv, qv⟩ := ms_at hm hlt
          obtain ⟨pa, da, ea, ha⟩ := id qv
          obtain ⟨pb, db, eb, hb⟩ := id hx
          refine ⟨_, rfl, _, rfl, l, ms, _, v, rfl, rfl, SqL.of hl, atI_nat hv, _, rfl, pa, pb, da, db, _, _, ea, eb, ha, hb, v, x, _, q, rfl, qv, hx, _, rfl, _, rfl, ?_⟩
          by_cases d : at' qs i = q
          · rw [decide_eq_true d]
            refine iteF (k ms H' (SameX.of (Same.refl _)) hl ?_)
            rw [eq, if_pos ⟨hlt, d⟩]
            exact hm
          · rw [decide_eq_false d]
            exact iteT (put fun z => d z.2)
      refine ⟨_, rfl, _, rfl, l, ms, rfl, .inl (SqL.of hl), _, _, rfl, rfl, _, rfl, ?_⟩
      by_cases c : i < qs.length
      · rw [decide_eq_true (show (i : Int) < ((ms.length : Nat) : Int) by omega)]
        refine iteT ?_
        obtain ⟨v, hv, qv⟩ := ms_at hm c
        refine ⟨_, rfl, _, rfl, l, ms, _, v, rfl, rfl, SqL.of hl, atI_nat hv, qv.at (by decide +kernel) (by decide +kernel) ⟨_, rfl, v, x, _, q, false, rfl, qv, hx, (bd_at hB c).mono (by decide), bq.mono (by decide), _, rfl, ?_⟩⟩
        rw [Bool.false_and, Bool.or_false]
        by_cases d : at' qs i < q
        · rw [decide_eq_true d]
          refine iteT ⟨_, rfl, _, _, rfl, rfl, ⟨rfl, i + 1, rfl, by omega, fun j hj' => ?_⟩, ?_⟩
          · by_cases z : j = i
            · rw [z]; exact d
            · exact hj j (by omega)
          · show qs.length - ((i : Int) + 1).toNat < qs.length - (i : Int).toNat
            omega
        · rw [decide_eq_false d]
          exact iteF (fin fun _ => d)
      · rw [decide_eq_false (show ¬ (i : Int) < ((ms.length : Nat) : Int) by omega)]
        exact iteF (iteF (fin fun z => absurd z c))
    · intro σ H' Q1 Q2 imp h
      obtain ⟨a, ha, b, hb, p, ys, e1, e2, n, m, e3, e4, c, e5, h⟩ := h
      refine ⟨a, ha, b, hb, p, ys, e1, e2, n, m, e3, e4, c, e5, ?_⟩
      cases c with
      | false => exact iteF (imp _ _ (by simpa using h))
      | true =>
        have h := (show (if true = true then _ else _) from h)
        rw [if_pos rfl] at h
        refine iteT ?_
        obtain ⟨a, ha, b, hb, p, xs, n, y, e6, e7, e8, e9, pp, dd, ff, e10, e11, e12, a2, ha2, x2, y2, q2, r2, al, e13, e14, e15, e16, e17, c, e18, h⟩ := h
        exact ⟨a, ha, b, hb, p, xs, n, y, e6, e7, e8, e9, pp, dd, ff, e10, e11, e12, a2, ha2, x2, y2, q2, r2, al, e13, e14, e15, e16, e17, c, e18, imp _ _ h⟩
end
end Sz

/-! Where two ladders part, the second part: all ends, the points, parting. -/
namespace Sz
open PySem PySem.Spec PyProof.Rows L2 SzR
theorem flat_take {α : Type} {f : Nat → List α} {n i : Nat} (h : i < n) : ((List.range n).take (i + 1)).flatMap f = ((List.range n).take i).flatMap f ++ f i := by
  rw [List.take_succ, List.flatMap_append]
  have e : (List.range n)[i]? = some i := by
    rw [List.getElem?_eq_getElem (by simpa using h)]
    simp
  rw [e]
  simp
theorem range_flat {α : Type} {f : Nat → List α} : ∀ n : Nat, (List.range (n + 1)).flatMap f = (List.range n).flatMap f ++ f n := fun n => by
  rw [List.range_succ, List.flatMap_append]
  simp
/-- for i, x in enumerate(xs): by an invariant over the turn, the list standing still -/
theorem for_enumL {K : PySem.W.Frag} {a : Addr} {xs : List V} {g : TG} {tb : TS} {D : Ends} {σ : L2.St} {H : Hp} (Pv : Nat → L2.St → Hp → Prop) (h0 : Pv 0 σ H)
    (hl : ∀ i σ H, i ≤ xs.length → Pv i σ H → SqL K H a xs)
    (hs : ∀ i x σ H N, xs[i]? = some x → Pv i σ H → H N = none →
      g (.ref N) σ (upd H N (.tup [.int (i : Nat), x])) fun σ2 H2 => tb { D with nx := Pv (i + 1), ct := Pv (i + 1), bk := D.nx } σ2 H2)
    (hd : ∀ σ H, Pv xs.length σ H → D.nx σ H) :
    ∃ W : Nat → Nat → L2.St → Hp → Prop, (∃ m, W 0 m σ H) ∧ ∀ i m σ H, W i m σ H → ((Ite K a).stop i H ∧ D.nx σ H) ∨
      ((Ite K a).go i H ∧ ∃ N : L2.St → Hp → Prop, (∀ σ' H', N σ' H' → ∃ m', m' < m ∧ W (i + 1) m' σ' H') ∧
        ∀ x H', (Ite K a).yld i H x H' → g x σ H' fun σ2 H2 => tb { D with nx := N, ct := N, bk := D.nx } σ2 H2) := by
  refine ⟨fun i m σ H => i ≤ xs.length ∧ m = xs.length - i ∧ Pv i σ H, ⟨xs.length, Nat.zero_le _, by omega, h0⟩, fun i m σ H ⟨hi, hm, hp⟩ => ?_⟩
  by_cases e : i = xs.length
  · subst e
    exact .inl ⟨⟨xs, hl _ _ _ hi hp, Nat.le_refl _⟩, hd _ _ hp⟩
  · have hlt : i < xs.length := by omega
    have q := hl _ _ _ hi hp
    refine .inr ⟨⟨xs, _, q, List.getElem?_eq_getElem hlt⟩, Pv (i + 1), fun σ' H' z => ⟨m - 1, by omega, by omega, by omega, z⟩, fun x H' y => ?_⟩
    obtain ⟨N, x', rfl, hN, rfl, hx⟩ := y
    exact hs i x' σ H N (hx xs q) hp hN
section
variable {P : Program} {w : World} {K : PySem.W.Frag} {mg : Str → Option Value} {base : Heap}
/-- the measures among values that may be None -/
theorem optPick {H : Hp} {o : Option Rat} {v : V} (h : MO K H v o) : (v = .non ∧ o.toList = []) ∨ (v ≠ .non ∧ ∃ q, o.toList = [q] ∧ Mv K H v q) := by
  cases o with
  | none => exact .inl ⟨h, rfl⟩
  | some q => exact .inr ⟨Mv.ne h, q, rfl, h⟩
theorem ok_ends_of (T : Txt K mg w) (c1 : C8.Met P w K mg base 1 (CL K) "__len__" (spLen K) []) (c2 : C8.Met P w K mg base 8 (CL K) "stretch" (spStr K) []) : C8.Cal P w K mg base 9 "ends_of" (spEnds K) [] := by
  obtain ⟨fd, F⟩ := T.d_ends_of
  refine ⟨_, fd, ["ladder"], [], F.ok sc_ends_of (fun vs H Q E h => ?_) (fun cdv A outer s H vs Q E hr h => ?_), T.glo_ends_of, F.kp, F.bindsN (fun _ _ _ _ _ _ us hl => match us, hl with | [_], _ => rfl), .nil⟩
  · obtain ⟨v, L, rfl, _⟩ := h
    rfl
  · obtain ⟨v, L, rfl, hv, ok, bd, k⟩ := h
    refine ⟨_, PSs.nox <| pss_cons (ps_set (i := 1) sc_ends_of.nd rfl (Or.inl rfl) (pe_lst pa_nil))
      <| pss_cons (ps_for PassesOwn.never rfl (pi_range1 (by rfl) T.free_range (pa_cons (pe_callB (call_lenI c1 (hr.mono (by decide))) (by rfl) T.free_len PySem.boot_len (pa_cons (pv 0) pa_nil)) pa_nil)) (pg_name (i := 2) sc_ends_of.nd rfl (Or.inl rfl))
        (pss_cons (ps_set (i := 3) sc_ends_of.nd rfl (Or.inl rfl) (C8.pe_mt c2 hr (by decide) (pv 0) (pa_cons (pv 2) pa_nil)))
          <| pss_one <| ps_if (pt_cmp (pc_notN (pv 3))) (pss_one <| ps_expr <| pe_bm PySem.F.plainAttrs_list PySem.F.slot_list_extend PySem.F.type_list_extend mt_extend (pv 1)
            (pa_cons (pe_lc (own := [("end", 4)]) (g := gName 4) (tt := tB (tNotN (tVar 4))) rfl sc_ends_of.nd (pi_tup (pe_tup (pa_cons (pe_fld (pv 3) rfl) (pa_cons (pe_fld (pv 3) rfl) pa_nil))))
              (blkOk_by (own := [("end", 4)]) (N := N_ends_of) (sc := defScope s_ends_of) (by decide +kernel)) (fun _ _ _ _ _ => pg_name (i := 4) sc_ends_of.nd rfl (Or.inl rfl)) (fun _ _ _ _ _ => pts_one (pt_cmp (pc_notN (pv 4)))) (fun _ _ _ _ _ => pv 4)) pa_nil)) pss_nil))
      <| pss_one (ps_ret (pv 1)), ?_⟩
    refine ⟨by show 0 ≤ sizeLine; exact Nat.zero_le _, fun D hD => ?_⟩
    have e0 : Same H (upd H D (.lst [])) := Same.upd hD
    obtain ⟨p, dx, M, l, m, rfl, hp, _⟩ := id hv
    refine ⟨_, rfl, p, dx, _, rfl, e0 _ _ hp, _, L, rfl, hv.up e0, ok, L.marks.length, rfl, (by have := ok.few; omega), ?_⟩
    refine ⟨_, rfl, (by omega), (by have := ok.few; omega), ?_⟩
    refine for_range (lo := 0) (n := ((L.marks.length : Nat) : Int).toNat) (fun i σ H' => Same H H' ∧ ∃ ms a b, σ = [some (.ref p), some (.ref D), a, b, none] ∧ H' D = some (.lst ms) ∧ Ms K H' ms ((List.range i).flatMap fun j => endsOf (stretch L j)) ∧ ms.length ≤ 2 * i)
      ⟨e0, [], none, none, rfl, upd_same, .nil, Nat.le_refl _⟩ ?_ ?_
    · rintro i σ H' hi ⟨e, ms, a, b, rfl, hms, hq, hlen⟩
      have hi' : i < L.marks.length := by simpa using hi
      have few := ok.few
      refine ⟨_, rfl, (hv.up e).at (by decide +kernel) (by decide +kernel) (by decide +kernel) (by decide +kernel) ⟨_, rfl, _, L, i, ?_, hv.up e, ok, bd, hi', fun u H2 e2 hu => ?_⟩⟩
      · rw [show ((0 : Int) + (i : Int)) = (i : Int) by omega]
        rfl
      · have eD := e2 _ _ hms
        refine ⟨_, rfl, _, rfl, ?_⟩
        cases es : stretch L i with
        | none =>
          rw [es] at hu
          have hu : u = .non := hu
          subst hu
          refine iteF ⟨e.trans e2, ms, _, _, rfl, eD, ?_, by omega⟩
          rw [range_flat, es]
          show Ms K H2 ms (_ ++ [])
          rw [List.append_nil]
          exact hq.up e2
        | some c =>
          rw [es] at hu
          obtain ⟨pu, du, lu, hu', rfl, hpu, hlu, hhu⟩ := hu
          refine iteT ?_
          refine ⟨_, rfl, .inl ⟨rfl, _, SqL.of eD⟩, ?_⟩
          refine ⟨_, rfl, pu, _, du, _, _, rfl, hpu, T.cls_Stretch, T.noat_Stretch_low, sF_low .., _, rfl, pu, _, du, _, _, rfl, hpu, T.cls_Stretch, T.noat_Stretch_high, sF_high .., (by show 2 ≤ sizeLine; decide), fun t ht => ?_⟩
          have et : Same H2 (upd H2 t (.tup [lu, hu'])) := Same.upd ht
          refine ⟨t, rfl, ⟨_, SqT.of upd_same⟩, fun D2 hD2 => ?_⟩
          have e3 : Same (upd H2 t (.tup [lu, hu'])) (upd (upd H2 t (.tup [lu, hu'])) D2 (.lst [])) := Same.upd hD2
          have n2 : H2 D2 = none := Same.free et hD2
          refine lc_tup (K := K) (a := t) (xs := [lu, hu']) (fun j H' => Same H2 H' ∧ H' t = some (.tup [lu, hu']) ∧ ∃ acc, H' D2 = some (.lst acc) ∧ Ms K H' acc (([c.low, c.high].take j).flatMap Option.toList) ∧ acc.length ≤ j)
            ⟨et.trans e3, e3 _ _ upd_same, [], upd_same, .nil, Nat.le_refl _⟩ (fun j H' _ h => SqT.of h.2.1) ?_ ?_
          · rintro j y H' hj ⟨e4, h4, acc, hacc, hm4, hl4⟩
            have ho : ∃ o, [c.low, c.high][j]? = some o ∧ MO K H2 y o := by
              match j, hj with
              | 0, hj =>
                cases hj
                exact ⟨_, rfl, hlu⟩
              | 1, hj =>
                cases hj
                exact ⟨_, rfl, hhu⟩
              | j + 2, hj => simp at hj
            obtain ⟨o, ho, hyo⟩ := ho
            have tk : ([c.low, c.high].take (j + 1)).flatMap Option.toList = ([c.low, c.high].take j).flatMap Option.toList ++ o.toList := by
              rw [List.take_succ, List.flatMap_append, ho]
              simp
            have hj2 : j < 2 := (List.getElem?_eq_some_iff.mp hj).1
            refine ⟨rfl, _, rfl, _, rfl, ?_⟩
            rcases optPick (hyo.up e4) with ⟨ey, eo⟩ | ⟨ny, q, eo, my⟩
            · rw [ey]
              refine iteF ⟨e4, h4, acc, hacc, ?_, by omega⟩
              rw [tk, eo, List.append_nil]
              exact hm4
            · rw [decide_eq_false ny]
              refine iteT ⟨_, rfl, acc, hacc, small1000 (by omega), ?_⟩
              have x4 : SameX D2 H' (upd H' D2 (.lst (acc ++ [y]))) := SameX.upd
              have nt : t ≠ D2 := ne_of_none upd_same hD2
              refine ⟨SameX.same n2 e4 x4, x4 _ _ nt h4, acc ++ [y], upd_same, ?_, by simp; omega⟩
              rw [tk, eo]
              exact paired_append (hm4.upx hacc x4) (.cons (my.upx hacc x4) .nil)
          · rintro H' ⟨e4, h4, acc, hacc, hm4, hl4⟩
            have hl4 : acc.length ≤ 2 := hl4
            have nD : D ≠ D2 := ne_of_none eD n2
            refine ⟨D, D2, ms, acc, rfl, rfl, e4 _ _ eD, hacc, Nat.le_of_lt (small1000 (by omega)), ?_⟩
            have x5 : SameX D H' (upd H' D (.lst (ms ++ acc))) := SameX.upd
            refine ⟨SameX.same hD (e.trans (e2.trans e4)) x5, ms ++ acc, _, _, rfl, upd_same, ?_, by rw [List.length_append]; omega⟩
            have ee : endsOf (some c) = ([c.low, c.high].take ([lu, hu'].length)).flatMap Option.toList := by
              show c.low.toList ++ c.high.toList = c.low.toList ++ (c.high.toList ++ [])
              rw [List.append_nil]
            rw [range_flat, es, ee]
            exact paired_append ((hq.up (e2.trans e4)).upx (e4 _ _ eD) x5) (hm4.upx (e4 _ _ eD) x5)
    · rintro σ H' ⟨e, ms, a, b, rfl, hms, hq, hlen⟩
      exact ⟨_, rfl, k D ms H' e hms hq⟩
theorem ok_alike (T : Txt K mg w) : C8.Cal P w K mg base 1 "are_alike" spAlike [] := by
  obtain ⟨fd, F⟩ := T.d_are_alike
  refine ⟨_, fd, ["here", "there", "shift"], [], F.ok sc_are_alike (fun vs H Q E h => ?_) (fun cdv A outer s H vs Q E hr h => ?_), T.glo_are_alike, F.kp, F.bindsN (fun _ _ _ _ _ _ us hl => match us, hl with | [_, _, _], _ => rfl), .nil⟩
  · obtain ⟨h, t, m, rfl, _⟩ := h
    rfl
  · obtain ⟨h, t, m, rfl, k⟩ := h
    refine ⟨_, PSs.nox <| pss_cons (ps_if (PW.pt <| pw_or (pt_cmp (pc_isN (pv 0))) <| pw_or1 <| pt_cmp (pc_isN (pv 1))) (pss_one <| ps_ret <| pe_and (pe_cmp (pc_isN (pv 0))) <| pe_one <| pe_cmp (pc_isN (pv 1))) pss_nil)
      <| pss_one <| ps_ret <| pe_cmpR op_eq (pv 1) (pe_op op_add (pv 0) (pv 2)) (nomark _), ?_⟩
    cases h with
    | none =>
      refine ⟨_, rfl, true, rfl, iteT (iteT ⟨_, rfl, true, rfl, iteT ⟨_, rfl, ?_⟩⟩)⟩
      cases t with
      | none => exact k
      | some j => exact k
    | some i =>
      refine ⟨_, rfl, false, rfl, iteF ⟨_, rfl, ?_⟩⟩
      cases t with
      | none => exact ⟨true, rfl, iteT ⟨_, rfl, false, rfl, iteF k⟩⟩
      | some j =>
        refine ⟨false, rfl, iteF ⟨_, rfl, _, rfl, _, rfl, _, _, rfl, rfl, rfl, ?_⟩⟩
        have e : decide (V.int (j : Int) = V.int ((i : Int) + m)) = decide (alike (some i) (some j) m) := by
          refine decide_eq_decide.mpr ⟨fun z => ?_, fun z => congrArg V.int z⟩
          injection z
        show Q (.bl (decide (V.int (j : Int) = V.int ((i : Int) + m)))) H
        rw [e]
        exact k
end
end Sz

/-! Where two ladders part, the third part: the points; parting. -/
namespace Sz
open PySem PySem.Spec PyProof.Rows L2 SzR
/-- what parting tells stands at v -/
def PartV (K : PySem.W.Frag) (H : Hp) (v : V) : Part → Prop
  | .alike => ∃ t, v = .ref t ∧ H t = some (.tup [.str "alike"])
  | .part p b h t => ∃ a x, v = .ref a ∧ H a = some (.tup [.str "part", x, .str (if b then "behind" else "at"), oV h, oV t]) ∧ Mv K H x p
theorem PartV.up {K : PySem.W.Frag} {H H' : Hp} {v : V} {r : Part} (h : PartV K H v r) (e : Same H H') : PartV K H' v r := by
  cases r with
  | alike =>
    obtain ⟨t, a, b⟩ := h
    exact ⟨t, a, e _ _ b⟩
  | part p b i j =>
    obtain ⟨t, x, a, b, c⟩ := h
    exact ⟨t, x, a, e _ _ b, c.up e⟩
def spParting (K : PySem.W.Frag) : Sp := fun vs H Q _ => ∃ v1 v2 x y L1 L2 lo hi m, vs = [v1, v2, x, y, .int m] ∧ Lv K H v1 L1 ∧ Lv K H v2 L2 ∧ L1.Ok ∧ L1.Bnd ∧ L2.Ok ∧ L2.Bnd ∧ Mv K H x lo ∧ Mv K H y hi ∧ Bd 1000 lo ∧ Bd 1000 hi ∧
  ∀ v H', Same H H' → PartV K H' v (parting L1 L2 lo hi m) → Q v H'
theorem ends_bd {L : Lad} (h : L.Bnd) {e : Rat} (he : e ∈ ends L) : Bd 200 e := by
  unfold ends at he
  obtain ⟨i, hi, he⟩ := List.mem_flatMap.mp he
  have hi := List.mem_range.mp hi
  cases es : stretch L i with
  | none =>
    rw [es] at he
    exact absurd he (by simp [endsOf])
  | some c =>
    rw [es] at he
    have b := stretch_bd h hi es
    have he : e ∈ c.low.toList ++ c.high.toList := he
    rcases List.mem_append.mp he with z | z
    · exact b.1 e (by simpa using z)
    · exact b.2 e (by simpa using z)
theorem ends_len (L : Lad) : (ends L).length ≤ 2 * L.marks.length := by
  unfold ends
  generalize L.marks.length = n
  induction n with
  | zero => simp
  | succ n ih =>
    rw [range_flat, List.length_append]
    have : (endsOf (stretch L n)).length ≤ 2 := by
      cases stretch L n with
      | none => simp [endsOf]
      | some c =>
        show (c.low.toList ++ c.high.toList).length ≤ 2
        cases c.low <;> cases c.high <;> simp
    omega
theorem points_len {lo hi : Rat} : ∀ {es ps : List Rat}, (es.foldl (fun ps e => if lo < e ∧ e ≤ hi then ins e ps else ps) ps).length ≤ ps.length + es.length
  | [], ps => by simp
  | e :: es, ps => by
    have := points_len (lo := lo) (hi := hi) (es := es) (ps := if lo < e ∧ e ≤ hi then ins e ps else ps)
    simp only [List.foldl_cons, List.length_cons]
    have : (if lo < e ∧ e ≤ hi then ins e ps else ps).length ≤ ps.length + 1 := by
      split
      · exact ins_len
      · omega
    omega
theorem points_bd {n : Nat} {lo hi : Rat} : ∀ {es ps : List Rat}, (∀ e ∈ es, Bd n e) → (∀ p ∈ ps, Bd n p) → ∀ p ∈ es.foldl (fun ps e => if lo < e ∧ e ≤ hi then ins e ps else ps) ps, Bd n p
  | [], ps, h1, h2 => h2
  | e :: es, ps, h1, h2 => by
    refine points_bd (es := es) (fun x hx => h1 x (List.mem_cons_of_mem _ hx)) fun x hx => ?_
    have hx : x ∈ (if lo < e ∧ e ≤ hi then ins e ps else ps) := hx
    split at hx
    · rcases mem_ins.mp hx with z | z
      · rw [z]; exact h1 e (by simp)
      · exact h2 x z
    · exact h2 x hx
section
variable {P : Program} {w : World} {K : PySem.W.Frag} {mg : Str → Option Value} {base : Heap}
/-- is_below with its keyword -/
structure BelK (P : Program) (w : World) (K : PySem.W.Frag) (mg : Str → Option Value) (base : Heap) : Prop where
  ex : ∃ fd g, FnOk P w K mg base C8.CX0 1 (He.ma K (CM K) "is_below") fd ["self", "other", "alike"] (spBelow K) ∧ KBn K fd ["self", "other", "alike"] 2 ["alike"] g (fun vs zs => vs ++ zs)
theorem bel_k (T : Txt K mg w) : BelK P w K mg base := by
  obtain ⟨fd, F, O⟩ := ok_below0 (P := P) (base := base) T
  obtain ⟨g, b⟩ := kb1 (ps := ["self", "other", "alike"]) F 2 ["alike"] (fun vs _ zs => vs ++ zs) (by simp) (fun r1 _ r3 => r1.append r3)
    (fun T kV doc pm an cdv ct us its ws hu hi hw => match us, its, ws, hu, hi, hw with
      | [_, _], [_], [_], _, _, _ => ⟨_, by first | rfl | with_unfolding_all rfl, by first | rfl | with_unfolding_all rfl | kernel_rfl⟩)
  exact ⟨fd, g, O, b⟩
theorem fold_take {α β : Type} {f : α → β → α} {s : α} {l : List β} {i : Nat} {x : β} (h : l[i]? = some x) : (l.take (i + 1)).foldl f s = f ((l.take i).foldl f s) x := by
  rw [List.take_succ, h, List.foldl_append]
  rfl
theorem ok_points (T : Txt K mg w) (c1 : C8.Met P w K mg base 1 (CM K) "is_below" (spBelow K) [.bl false]) (c2 : BelK P w K mg base) (c3 : C8.Cal P w K mg base 3 "put_among" (spPut K) [])
    (c4 : C8.Cal P w K mg base 9 "ends_of" (spEnds K) []) : C8.Cal P w K mg base 10 "points_of" (spPoints K) [] := by
  obtain ⟨fd, F⟩ := T.d_points_of
  obtain ⟨fdb, gb, Ob, bb⟩ := c2.ex
  refine ⟨_, fd, ["one", "other", "low", "high"], [], F.ok sc_points_of (fun vs H Q E h => ?_) (fun cdv A outer s H vs Q E hr h => ?_), T.glo_points_of, F.kp, F.bindsN (fun _ _ _ _ _ _ us hl => match us, hl with | [_, _, _, _], _ => rfl), .nil⟩
  · obtain ⟨v1, v2, x, y, L1, L2, lo, hi, rfl, _⟩ := h
    rfl
  · obtain ⟨v1, v2, x, y, L1, L2, lo, hi, rfl, h1, h2, ok1, bd1, ok2, bd2, hx, hy, bx, by', k⟩ := h
    refine ⟨_, PSs.nox <| pss_cons (ps_set (i := 4) sc_points_of.nd rfl (Or.inl rfl) (pe_lst (pa_cons (pv 2) pa_nil)))
      <| pss_cons (ps_for PassesOwn.never rfl (pi_list (pe_op op_cat (C8.pe_c c4 hr (by decide) (by rfl) (pa_cons (pv 0) pa_nil)) (C8.pe_c c4 hr (by decide) (by rfl) (pa_cons (pv 1) pa_nil)))) (pg_name (i := 5) sc_points_of.nd rfl (Or.inl rfl))
        (pss_one <| ps_if (PW.pt <| pw_and (pt_val <| C8.pe_mt c1 hr (by decide) (pv 2) (pa_cons (pv 5) pa_nil))
            <| pw_and1 <| pt_val <| pe_methN (pv 5) T.cls_Measure T.meth_Measure_is_below Ob (hr.mono (by decide)) bb (pa_cons (pv 3) pa_nil) (pk_cons pe_bl pk_nil))
          (pss_one <| ps_expr <| C8.pe_c c3 hr (by decide) (by rfl) (pa_cons (pv 4) (pa_cons (pv 5) pa_nil))) pss_nil))
      <| pss_one (ps_ret (pv 4)), ?_⟩
    refine ⟨_, rfl, by show 1 ≤ sizeLine; decide, fun S hS => ?_⟩
    have e0 : Same H (upd H S (.lst [x])) := Same.upd hS
    refine ⟨_, rfl, _, L1, rfl, h1.up e0, ok1, bd1, fun D1 m1 H1 e1 hD1 hm1 => ?_⟩
    refine ⟨_, rfl, _, L2, rfl, (h2.up e0).up e1, ok2, bd2, fun D2 m2 H2 e2 hD2 hm2 => ?_⟩
    have l1 := ms_len hm1
    have l2 := ms_len hm2
    have z1 := ends_len L1
    have z2 := ends_len L2
    have f1 := ok1.few
    have f2 := ok2.few
    refine ⟨D1, D2, m1, m2, rfl, rfl, e2 _ _ hD1, hD2, Nat.le_of_lt (small1000 (by omega)), fun a ha => ?_⟩
    have e3 : Same H2 (upd H2 a (.lst (m1 ++ m2))) := Same.upd ha
    have hS2 : H2 S = some (.lst [x]) := e2 _ _ (e1 _ _ upd_same)
    have naS : a ≠ S := fun z => by rw [z, hS2] at ha; cases ha
    refine ⟨a, rfl, ⟨_, SqL.of upd_same⟩, ?_⟩
    have hes : Ms K (upd H2 a (.lst (m1 ++ m2))) (m1 ++ m2) (ends L1 ++ ends L2) := paired_append ((hm1.up e2).up e3) (hm2.up e3)
    have bes : ∀ e ∈ ends L1 ++ ends L2, Bd 1000 e := fun e he => by
      rcases List.mem_append.mp he with z | z
      · exact (ends_bd bd1 z).mono (by decide)
      · exact (ends_bd bd2 z).mono (by decide)
    have eall : Same H (upd H2 a (.lst (m1 ++ m2))) := ((e0.trans e1).trans e2).trans e3
    refine for_list (K := K) (a := a) (xs := m1 ++ m2)
      (fun i σ H' => SameX S (upd H2 a (.lst (m1 ++ m2))) H' ∧ ∃ ms b, σ = [some v1, some v2, some x, some y, some (.ref S), b] ∧ H' S = some (.lst ms) ∧ Ms K H' ms (((ends L1 ++ ends L2).take i).foldl (fun ps e => if lo < e ∧ e ≤ hi then ins e ps else ps) [lo]))
      ⟨SameX.of (Same.refl _), [x], none, rfl, e3 _ _ hS2, .cons (hx.up eall) .nil⟩
      (fun i σ H' _ h => SqL.of (h.1 _ _ naS upd_same)) ?_ ?_
    · rintro i u σ H' hi' ⟨e, ms, b, rfl, hms, hq⟩
      have hilt := (List.getElem?_eq_some_iff.mp hi').1
      rw [List.length_append] at hilt
      obtain ⟨q, hq', hu⟩ := paired_mem hes hi'
      have hS3 := e3 _ _ hS2
      have bq := bes q (List.mem_of_getElem? hq')
      have hx' := (hx.up eall).upx hS3 e
      have hy' := (hy.up eall).upx hS3 e
      have hu' := hu.upx hS3 e
      refine ⟨_, rfl, hx'.at (by decide +kernel) (by decide +kernel) ⟨_, rfl, _, _, lo, q, false, rfl, hx', hu', bx.mono (by decide), bq.mono (by decide), _, rfl, ?_⟩⟩
      rw [Bool.false_and, Bool.or_false]
      have ft := fold_take (f := fun ps e => if lo < e ∧ e ≤ hi then ins e ps else ps) (s := [lo]) hq'
      by_cases c : lo < q
      · rw [decide_eq_true c]
        refine iteT ⟨_, rfl, hu'.at (by decide +kernel) (by decide +kernel) ⟨_, rfl, rfl, rfl, _, _, q, hi, true, rfl, hu', hy', bq.mono (by decide), by'.mono (by decide), _, rfl, ?_⟩⟩
        have ec : (decide (q < hi) || (true && decide (q = hi))) = decide (q ≤ hi) := by
          rw [Bool.true_and]
          by_cases d : q ≤ hi
          · rw [decide_eq_true d]
            by_cases d1 : q < hi
            · rw [decide_eq_true d1]; rfl
            · rw [decide_eq_true (show q = hi by grind), Bool.or_true]
          · rw [decide_eq_false d, decide_eq_false (show ¬ q < hi by grind), decide_eq_false (show ¬ q = hi by grind)]
            rfl
        rw [ec]
        by_cases d : q ≤ hi
        · rw [decide_eq_true d]
          refine iteT ?_
          have hlen : (((ends L1 ++ ends L2).take i).foldl (fun ps e => if lo < e ∧ e ≤ hi then ins e ps else ps) [lo]).length ≤ 1000 := by
            have := points_len (lo := lo) (hi := hi) (es := (ends L1 ++ ends L2).take i) (ps := [lo])
            have := List.length_take_le' i (ends L1 ++ ends L2)
            simp only [List.length_append, List.length_singleton] at *
            omega
          refine ⟨_, rfl, _, rfl, S, _, ms, _, q, rfl, hms, hq, hu', hlen, ?_, bq, fun ms' H'' ex hms' hq'' => ?_⟩
          · exact points_bd (fun z hz => bes z (List.mem_of_mem_take hz)) (fun z hz => by simp at hz; rw [hz]; exact bx)
          · refine ⟨e.trans ex, ms', _, rfl, hms', ?_⟩
            rw [ft, if_pos ⟨c, d⟩]
            exact hq''
        · rw [decide_eq_false d]
          refine iteF ⟨e, ms, _, rfl, hms, ?_⟩
          rw [ft, if_neg (fun z => d z.2)]
          exact hq
      · rw [decide_eq_false c]
        refine iteF (iteF ⟨e, ms, _, rfl, hms, ?_⟩)
        rw [ft, if_neg (fun z => c z.1)]
        exact hq
    · rintro σ H' ⟨e, ms, b, rfl, hms, hq⟩
      refine ⟨_, rfl, k S ms H' ?_ hms ?_⟩
      · exact SameX.same hS eall e
      · rw [show (m1 ++ m2).length = (ends L1 ++ ends L2).length by rw [List.length_append, List.length_append, l1, l2], List.take_length] at hq
        exact hq
end
end Sz

/-! Where two ladders part, the fourth part: parting and its look. -/
namespace Sz
open PySem PySem.Spec PyProof.Rows L2 SzR
theorem drop_at {qs : List Rat} {i : Nat} (h : i < qs.length) : qs.drop i = at' qs i :: qs.drop (i + 1) := by
  rw [List.drop_eq_getElem_cons h]
  unfold at'
  rw [List.getD_eq_getElem?_getD, List.getElem?_eq_getElem h]
  rfl
theorem head_next {qs : List Rat} {i : Nat} (hi : Rat) : (qs.drop (i + 1)).headD hi = if i + 1 < qs.length then at' qs (i + 1) else hi := by
  by_cases h : i + 1 < qs.length
  · rw [if_pos h, drop_at h]
    rfl
  · rw [if_neg h, List.drop_eq_nil_of_le (by omega)]
    rfl
theorem partGo_cons {s1 s2 : Rat → Option Nat} {m : Int} {hi p : Rat} {r : List Rat} : partGo s1 s2 m hi (p :: r) =
    (if ¬ alike (s1 p) (s2 p) m then .part p false (s1 p) (s2 p)
    else if p < hi then
      (if ¬ alike (s1 (mid p (r.headD hi))) (s2 (mid p (r.headD hi))) m then .part p true (s1 (mid p (r.headD hi))) (s2 (mid p (r.headD hi)))
      else partGo s1 s2 m hi r)
    else partGo s1 s2 m hi r) := rfl
theorem oV_ty (H : Hp) {K : PySem.W.Frag} (o : Option Nat) : (o = none ∧ oV o = .non) ∨ ∃ i, o = some i ∧ oV o = .int (i : Int) := by
  cases o with
  | none => exact .inl ⟨rfl, rfl⟩
  | some i => exact .inr ⟨i, rfl, rfl⟩
section
variable {P : Program} {w : World} {K : PySem.W.Frag} {mg : Str → Option Value} {base : Heap}
theorem ok_parting (T : Txt K mg w) (c1 : C8.Met P w K mg base 1 (CM K) "is_below" (spBelow K) [.bl false]) (c2 : C8.Met P w K mg base 8 (CL K) "size" (spSize K) []) (c3 : C8.Cal P w K mg base 1 "are_alike" spAlike [])
    (c4 : C8.Cal P w K mg base 5 "midst" (spMid K) []) (c5 : C8.Cal P w K mg base 10 "points_of" (spPoints K) []) : C8.Cal P w K mg base 11 "parting" (spParting K) [] := by
  obtain ⟨fd, F⟩ := T.d_parting
  obtain ⟨ds, hv, hb⟩ := F.binds1 (ps := ["one", "other", "low", "high", "shift"]) 5 1 (by simp) (by simp) (fun T kV doc pm an cdv ct us its hu hi => ⟨_, rfl, match us, its, hu, hi with | [_, _, _, _, _], [_], _, _ => rfl⟩)
  cases hv
  refine ⟨_, fd, ["one", "other", "low", "high", "shift"], [], F.ok sc_parting (fun vs H Q E h => ?_) (fun cdv A outer s H vs Q E hr h => ?_), T.glo_parting, F.kp, hb, .nil⟩
  · obtain ⟨v1, v2, x, y, L1, L2, lo, hi, m, rfl, _⟩ := h
    rfl
  · obtain ⟨v1, v2, x, y, L1, L2, lo, hi, m, rfl, h1, h2, ok1, bd1, ok2, bd2, hx, hy, bx, by', k⟩ := h
    refine ⟨_, PSs.nox <| pss_cons (ps_set (i := 5) sc_parting.nd rfl (Or.inl rfl) (C8.pe_c c5 hr (by decide) (by rfl) (pa_cons (pv 0) (pa_cons (pv 1) (pa_cons (pv 2) (pa_cons (pv 3) pa_nil))))))
      <| pss_cons (ps_for PassesOwn.never rfl (pi_enum (by rfl) T.free_enumerate (pa_cons (pv 5) pa_nil))
        (pg_tup rfl (pgs_cons (pg_name (i := 6) sc_parting.nd rfl (Or.inl rfl)) (pgs_cons (pg_name (i := 7) sc_parting.nd rfl (Or.inl rfl)) pgs_nil)))
        (pss_cons (ps_par (i := 8) (j := 9) rfl sc_parting.nd rfl rfl (by decide) rfl rfl (pa_cons (C8.pe_mt c2 hr (by decide) (pv 0) (pa_cons (pv 7) pa_nil)) (pa_cons (C8.pe_mt c2 hr (by decide) (pv 1) (pa_cons (pv 7) pa_nil)) pa_nil)) rfl)
        <| pss_cons (ps_if (pt_not <| pt_val <| C8.pe_c c3 hr (by decide) (by rfl) (pa_cons (pv 8) (pa_cons (pv 9) (pa_cons (pv 4) pa_nil))))
            (pss_one <| ps_ret <| pe_tup (pa_cons pe_str (pa_cons (pv 7) (pa_cons pe_str (pa_cons (pv 8) (pa_cons (pv 9) pa_nil)))))) pss_nil)
        <| pss_one <| ps_if (pt_val <| C8.pe_mt c1 hr (by decide) (pv 7) (pa_cons (pv 3) pa_nil))
            (pss_cons (ps_set (i := 10) sc_parting.nd rfl (Or.inl rfl) (C8.pe_c c4 hr (by decide) (by rfl) (pa_cons (pv 7) (pa_cons (pe_ix ix_list (pe_op op_cat (pv 5) (pe_lst (pa_cons (pv 3) pa_nil))) (pe_op op_add (pv 6) pe_int) (fun _ _ => rfl)) pa_nil))))
            <| pss_cons (ps_par (i := 8) (j := 9) rfl sc_parting.nd rfl rfl (by decide) rfl rfl (pa_cons (C8.pe_mt c2 hr (by decide) (pv 0) (pa_cons (pv 10) pa_nil)) (pa_cons (C8.pe_mt c2 hr (by decide) (pv 1) (pa_cons (pv 10) pa_nil)) pa_nil)) rfl)
            <| pss_one <| ps_if (pt_not <| pt_val <| C8.pe_c c3 hr (by decide) (by rfl) (pa_cons (pv 8) (pa_cons (pv 9) (pa_cons (pv 4) pa_nil))))
              (pss_one <| ps_ret <| pe_tup (pa_cons pe_str (pa_cons (pv 7) (pa_cons pe_str (pa_cons (pv 8) (pa_cons (pv 9) pa_nil)))))) pss_nil) pss_nil))
      <| pss_one <| ps_ret <| pe_tup (pa_cons pe_str pa_nil), ?_⟩
    refine ⟨_, rfl, _, rfl, _, rfl, _, rfl, _, _, _, _, L1, L2, lo, hi, rfl, h1, h2, ok1, bd1, ok2, bd2, hx, hy, bx, by', fun D ms H1 e1 hD hq => ?_⟩
    have hlen := ms_len hq
    have bps : ∀ p ∈ pointsOf lo hi (ends L1 ++ ends L2), Bd 1000 p := points_bd (fun e he => by
      rcases List.mem_append.mp he with z | z
      · exact (ends_bd bd1 z).mono (by decide)
      · exact (ends_bd bd2 z).mono (by decide)) (fun z hz => by simp at hz; rw [hz]; exact bx)
    have plen : (pointsOf lo hi (ends L1 ++ ends L2)).length ≤ 900 := by
      have z0 : (pointsOf lo hi (ends L1 ++ ends L2)).length ≤ _ := points_len (lo := lo) (hi := hi) (es := ends L1 ++ ends L2) (ps := [lo])
      have z1 := ends_len L1
      have z2 := ends_len L2
      have f1 := ok1.few
      have f2 := ok2.few
      rw [List.length_append] at z0
      simp only [List.length_singleton] at z0
      omega
    have k : ∀ v H', Same H H' → PartV K H' v (partGo (size L1) (size L2) m hi (pointsOf lo hi (ends L1 ++ ends L2))) → Q v H' := k
    generalize pointsOf lo hi (ends L1 ++ ends L2) = ps at hq hlen bps plen k
    refine ⟨_, rfl, D, ms, rfl, SqL.of hD, ?_⟩
    refine for_enumL (K := K) (a := D) (xs := ms) (fun i σ H' => Same H1 H' ∧ (∃ a b c d e, σ = [some v1, some v2, some x, some y, some (.int m), some (.ref D), a, b, c, d, e]) ∧ partGo (size L1) (size L2) m hi (ps.drop i) = partGo (size L1) (size L2) m hi ps)
      ⟨Same.refl _, ⟨none, none, none, none, none, rfl⟩, rfl⟩ (fun i σ H' _ h => SqL.of (h.1 _ _ hD)) ?_ ?_
    · rintro i u σ H' N hi' ⟨e, ⟨a, b, c, d, f, rfl⟩, hR⟩ hN
      have hilt := (List.getElem?_eq_some_iff.mp hi').1
      have hlt : i < ps.length := by omega
      obtain ⟨u', hu', qu⟩ := ms_at hq hlt
      rw [hi'] at hu'
      cases hu'
      have bp := bd_at bps hlt
      have eN : Same H' (upd H' N (.tup [.int (i : Nat), u])) := Same.upd hN
      have e2 : Same H (upd H' N (.tup [.int (i : Nat), u])) := (e1.trans e).trans eN
      have e3 : Same H1 (upd H' N (.tup [.int (i : Nat), u])) := e.trans eN
      rw [drop_at hlt, partGo_cons] at hR
      refine ⟨N, _, rfl, SqT.of upd_same, rfl, _, _, rfl, _, _, rfl, rfl, ?_⟩
      refine ⟨_, rfl, (h1.up e2).at (by decide +kernel) (by decide +kernel) (by decide +kernel) (by decide +kernel) ⟨_, rfl, _, L1, _, _, rfl, h1.up e2, ok1, bd1, qu.up e3, bp.mono (by decide), fun H2 e4 => ?_⟩⟩
      refine ⟨_, rfl, ((h2.up e2).up e4).at (by decide +kernel) (by decide +kernel) (by decide +kernel) (by decide +kernel) ⟨_, rfl, _, L2, _, _, rfl, (h2.up e2).up e4, ok2, bd2, (qu.up e3).up e4, bp.mono (by decide), fun H3 e5 => ?_⟩⟩
      have e6 := (e3.trans e4).trans e5
      have e7 := (e2.trans e4).trans e5
      refine ⟨_, _, rfl, ?_⟩
      refine ⟨_, rfl, _, rfl, _, rfl, size L1 (at' ps i), size L2 (at' ps i), m, rfl, _, rfl, ?_⟩
      by_cases al : alike (size L1 (at' ps i)) (size L2 (at' ps i)) m
      · rw [decide_eq_true al]
        rw [if_neg (fun z => z al)] at hR
        refine iteF ?_
        refine ⟨_, rfl, (qu.up e6).at (by decide +kernel) (by decide +kernel) ⟨_, rfl, _, _, _, hi, false, rfl, qu.up e6, hy.up e7, bp.mono (by decide), by'.mono (by decide), _, rfl, ?_⟩⟩
        rw [Bool.false_and, Bool.or_false]
        by_cases c2 : at' ps i < hi
        · rw [decide_eq_true c2]
          rw [if_pos c2] at hR
          refine iteT ?_
          -- further
          refine ⟨_, rfl, _, rfl, _, rfl, by show 1 ≤ sizeLine; decide, fun B hB => ?_⟩
          have e8 : Same H3 (upd H3 B (.lst [y])) := Same.upd hB
          refine ⟨D, B, ms, [y], rfl, rfl, e8 _ _ (e6 _ _ hD), upd_same, (by simp only [List.length_singleton]; exact Nat.le_of_lt (small1000 (by omega))), fun B2 hB2 => ?_⟩
          have e9 : Same (upd H3 B (.lst [y])) (upd (upd H3 B (.lst [y])) B2 (.lst (ms ++ [y]))) := Same.upd hB2
          have e10 := (e6.trans e8).trans e9
          have e11 := (e7.trans e8).trans e9
          have hd := head_next (qs := ps) (i := i) hi
          obtain ⟨z, hz, qz, bz⟩ : ∃ z, (ms ++ [y])[i + 1]? = some z ∧ Mv K (upd (upd H3 B (.lst [y])) B2 (.lst (ms ++ [y]))) z ((ps.drop (i + 1)).headD hi) ∧ Bd 1000 ((ps.drop (i + 1)).headD hi) := by
            rw [hd]
            by_cases g : i + 1 < ps.length
            · rw [if_pos g]
              obtain ⟨z, hz, qz⟩ := ms_at hq g
              exact ⟨z, by rw [List.getElem?_append_left (by omega)]; exact hz, qz.up e10, bd_at bps g⟩
            · rw [if_neg g]
              refine ⟨y, ?_, hy.up e11, by'⟩
              rw [List.getElem?_append_right (by omega), show i + 1 - ms.length = 0 by omega]
              rfl
          refine ⟨_, rfl, _, _, rfl, rfl, B2, ms ++ [y], _, z, rfl, rfl, SqL.of upd_same, at_of (j := i + 1) (by omega) hz, ?_⟩
          refine ⟨_, _, _, _, rfl, qu.up e10, qz, bp.mono (by decide), bz.mono (by decide), fun g H4 e12 hg => ?_⟩
          have bg : Bd 3000 (mid (at' ps i) ((ps.drop (i + 1)).headD hi)) := (bp.mid bz).mono (by decide)
          have e13 := e11.trans e12
          refine ⟨_, rfl, (h1.up e13).at (by decide +kernel) (by decide +kernel) (by decide +kernel) (by decide +kernel) ⟨_, rfl, _, L1, _, _, rfl, h1.up e13, ok1, bd1, hg, bg, fun H5 e14 => ?_⟩⟩
          refine ⟨_, rfl, ((h2.up e13).up e14).at (by decide +kernel) (by decide +kernel) (by decide +kernel) (by decide +kernel) ⟨_, rfl, _, L2, _, _, rfl, (h2.up e13).up e14, ok2, bd2, hg.up e14, bg, fun H6 e15 => ?_⟩⟩
          have e16 := ((e10.trans e12).trans e14).trans e15
          have e17 := (e13.trans e14).trans e15
          refine ⟨_, _, rfl, ?_⟩
          refine ⟨_, rfl, _, rfl, _, rfl, size L1 (mid (at' ps i) ((ps.drop (i + 1)).headD hi)), size L2 (mid (at' ps i) ((ps.drop (i + 1)).headD hi)), m, rfl, _, rfl, ?_⟩
          by_cases al2 : alike (size L1 (mid (at' ps i) ((ps.drop (i + 1)).headD hi))) (size L2 (mid (at' ps i) ((ps.drop (i + 1)).headD hi))) m
          · rw [decide_eq_true al2]
            rw [if_neg (fun z => z al2)] at hR
            exact iteF ⟨e16, ⟨_, _, _, _, _, rfl⟩, hR⟩
          · rw [decide_eq_false al2]
            rw [if_pos al2] at hR
            refine iteT ?_
            refine ⟨_, rfl, _, rfl, _, rfl, by show 5 ≤ sizeLine; decide, fun R hRn => ?_⟩
            refine k _ _ (e17.trans (Same.upd hRn)) ?_
            rw [← hR]
            exact ⟨R, u, rfl, upd_same, (qu.up e16).up (Same.upd hRn)⟩
        · rw [decide_eq_false c2]
          rw [if_neg c2] at hR
          exact iteF ⟨e6, ⟨_, _, _, _, _, rfl⟩, hR⟩
      · rw [decide_eq_false al]
        rw [if_pos al] at hR
        refine iteT ?_
        refine ⟨_, rfl, _, rfl, _, rfl, by show 5 ≤ sizeLine; decide, fun R hRn => ?_⟩
        refine k _ _ (e7.trans (Same.upd hRn)) ?_
        rw [← hR]
        exact ⟨R, u, rfl, upd_same, (qu.up e6).up (Same.upd hRn)⟩
    · rintro σ H' ⟨e, ⟨a, b, c, d, f, rfl⟩, hR⟩
      rw [List.drop_eq_nil_of_le (by omega)] at hR
      refine ⟨by show 1 ≤ sizeLine; decide, fun R hRn => ?_⟩
      refine k _ _ ((e1.trans e).trans (Same.upd hRn)) ?_
      rw [← hR]
      exact ⟨R, rfl, upd_same⟩
end
end Sz

/-! Where two ladders part, the fifth part: tellings looked at. -/
namespace Sz
open PySem PySem.Spec PyProof.Rows L2 SzR
def RM (K : PySem.W.Frag) (a b : Addr) (H : Hp) : Prop := ∃ q, Mv K H (.ref a) q ∧ Mv K H (.ref b) q
/-- flat and the same, or the same measure -/
def DM (K : PySem.W.Frag) : Eqv := fun x y H => DFlat x y H ∨ DIns (CM K) (RM K) x y H
theorem mon_DM {K : PySem.W.Frag} : Mon (DM K) := Mon.or mon_flat (mon_ins fun _ _ _ _ e ⟨q, h, k⟩ => ⟨q, h.up e, k.up e⟩)
theorem eqDM {X : Cx} (c : C8.Met X.prog X.w X.K X.mg X.base 1 (CM X.K) "__eq__" (spEqM X.K) []) : EqG X 1 (DM X.K) := by
  obtain ⟨f, fd, ps, ds, hc, hm, F, bd, vd⟩ := c.ex
  cases vd
  refine EqG.or (eqG_flat.mono (by decide)) (eqG_ins (CX := C8.CX0) (E := C8.E0) (F.imp fun vs H Q E h => ?_) hm.at_ hm.fn bd C8.pass0)
  obtain ⟨a, b, rfl, ⟨q, h, k⟩, z⟩ := h
  refine ⟨_, _, q, q, rfl, h, k, ?_⟩
  rw [decide_eq_true rfl]
  exact z H Ext.rfl'
theorem Mv.dm {K : PySem.W.Frag} {H : Hp} {x y : V} {q : Rat} (h : Mv K H x q) (k : Mv K H y q) : DM K x y H := by
  obtain ⟨a, dx, rfl, ha⟩ := h
  obtain ⟨b, dy, rfl, hb⟩ := k
  exact .inr ⟨a, b, dx, dy, _, _, rfl, rfl, ha, hb, q, ⟨a, dx, rfl, ha⟩, ⟨b, dy, rfl, hb⟩⟩
theorem dm_str {K : PySem.W.Frag} {H : Hp} (s : Str) : DM K (.str s) (.str s) H := .inl ⟨rfl, rfl, by simp [eqV]⟩
theorem flat_oV (o : Option Nat) : flatV (oV o) = true := by cases o <;> rfl
theorem dm_oV {K : PySem.W.Frag} {H : Hp} (o : Option Nat) : DM K (oV o) (oV o) H := .inl ⟨flat_oV o, flat_oV o, by cases o <;> simp [oV, eqV]⟩
theorem prs_nil {D : Eqv} {H : Hp} : Prs D [] [] H := ⟨rfl, fun i x y h => by simp at h⟩
theorem prs_cons {D : Eqv} {H : Hp} {x y : V} {xs ys : List V} (h : D x y H) (k : Prs D xs ys H) : Prs D (x :: xs) (y :: ys) H := by
  refine ⟨by simp [k.1], fun i u v e1 e2 => ?_⟩
  cases i with
  | zero =>
    cases e1
    cases e2
    exact h
  | succ i => exact k.2 i u v e1 e2
theorem PartV.dm {K : PySem.W.Frag} {H : Hp} {v v' : V} {r : Part} (h : PartV K H v r) (k : PartV K H v' r) : DTup K (DM K) v v' H := by
  cases r with
  | alike =>
    obtain ⟨t, rfl, ht⟩ := h
    obtain ⟨t', rfl, ht'⟩ := k
    exact ⟨t, t', _, _, rfl, rfl, SqT.of ht, SqT.of ht', prs_cons (dm_str _) prs_nil⟩
  | part p b i j =>
    obtain ⟨t, x, rfl, ht, hx⟩ := h
    obtain ⟨t', x', rfl, ht', hx'⟩ := k
    exact ⟨t, t', _, _, rfl, rfl, SqT.of ht, SqT.of ht', prs_cons (dm_str _) (prs_cons (hx.dm hx') (prs_cons (dm_str _) (prs_cons (dm_oV _) (prs_cons (dm_oV _) prs_nil))))⟩
def spIsSize : Sp := fun vs H Q _ => ∃ o, vs = [oV o] ∧ Q (.bl true) H
def spShows (K : PySem.W.Frag) : Sp := fun vs H Q _ => ∃ v1 v2 x y L1 L2 lo hi m z, vs = [v1, v2, x, y, .int m, z] ∧ Lv K H v1 L1 ∧ Lv K H v2 L2 ∧ L1.Ok ∧ L1.Bnd ∧ L2.Ok ∧ L2.Bnd ∧ Mv K H x lo ∧ Mv K H y hi ∧ Bd 1000 lo ∧ Bd 1000 hi ∧
  PartV K H z (parting L1 L2 lo hi m) ∧ ∀ H', Same H H' → Q (.bl true) H'
section
variable {P : Program} {w : World} {K : PySem.W.Frag} {mg : Str → Option Value} {base : Heap}
theorem ok_is_size (T : Txt K mg w) : C8.Cal P w K mg base 1 "is_size" spIsSize [] := by
  obtain ⟨fd, F⟩ := T.d_is_size
  refine ⟨_, fd, ["thing"], [], F.ok sc_is_size (fun vs H Q E h => ?_) (fun cdv A outer s H vs Q E hr h => ?_), T.glo_is_size, F.kp, F.bindsN (fun _ _ _ _ _ _ us hl => match us, hl with | [_], _ => rfl), .nil⟩
  · obtain ⟨o, rfl, _⟩ := h
    rfl
  · obtain ⟨o, rfl, k⟩ := h
    refine ⟨_, PSs.nox <| pss_one <| ps_ret <| pe_or (pe_cmp (pc_isN (pv 0))) <| pe_one <| pe_and
      (pe_callB call_isi (by rfl) T.free_isinstance (by decide +kernel) (pa_cons (pv 0) (pa_cons (pe_bltn (v := .ty "int") (by rfl) T.free_int (by decide +kernel) rfl) pa_nil)))
      <| pe_one <| pe_not <| pe_callB call_isi (by rfl) T.free_isinstance (by decide +kernel) (pa_cons (pv 0) (pa_cons (pe_bltn (v := .ty "bool") (by rfl) T.free_bool (by decide +kernel) rfl) pa_nil)), ?_⟩
    refine ⟨_, rfl, _, rfl, ?_⟩
    cases o with
    | none => exact iteT k
    | some i =>
      refine iteF ?_
      refine ⟨_, rfl, _, _, _, _, true, rfl, .ty _, .base (.int _), kit_ty (by decide +kernel), true, rfl, iteT ?_⟩
      exact ⟨_, rfl, _, _, _, _, false, rfl, .ty _, .base (.int _), kit_ty (by decide +kernel), false, rfl, k⟩
theorem ok_shows (T : Txt K mg w) (c1 : C8.Cal P w K mg base 11 "parting" (spParting K) []) (c2 : C8.Cal P w K mg base 1 "is_size" spIsSize []) (c3 : C8.Met P w K mg base 1 (CM K) "__eq__" (spEqM K) []) : C8.Cal P w K mg base 12 "shows_parting" (spShows K) [] := by
  obtain ⟨fd, F⟩ := T.d_shows_parting
  refine ⟨_, fd, ["one", "other", "low", "high", "shift", "thing"], [], F.ok sc_shows_parting (fun vs H Q E h => ?_) (fun cdv A outer s H vs Q E hr h => ?_), T.glo_shows_parting, F.kp, F.bindsN (fun _ _ _ _ _ _ us hl => match us, hl with | [_, _, _, _, _, _], _ => rfl), .nil⟩
  · obtain ⟨v1, v2, x, y, L1, L2, lo, hi, m, z, rfl, _⟩ := h
    rfl
  · obtain ⟨v1, v2, x, y, L1, L2, lo, hi, m, z, rfl, h1, h2, ok1, bd1, ok2, bd2, hx, hy, bx, by', hz, k⟩ := h
    refine ⟨_, PSs.nox <| pss_cons (ps_set (i := 6) sc_shows_parting.nd rfl (Or.inl rfl) (C8.pe_c c1 hr (by decide) (by rfl) (pa_cons (pv 0) (pa_cons (pv 1) (pa_cons (pv 2) (pa_cons (pv 3) (pa_cons (pv 4) pa_nil)))))))
      <| pss_cons (ps_if (PW.pt <| pw_or (pt_not <| pt_val <| pe_callB call_isi (by rfl) T.free_isinstance (by decide +kernel) (pa_cons (pv 5) (pa_cons (pe_bltn (v := .ty "tuple") (by rfl) T.free_tuple (by decide +kernel) rfl) pa_nil)))
          <| pw_or (pt_cmpR op_ne (pe_callB call_len_seq (by rfl) T.free_len PySem.boot_len (pa_cons (pv 5) pa_nil)) (pe_callB call_len_seq (by rfl) T.free_len PySem.boot_len (pa_cons (pv 6) pa_nil)) (nomark _))
          <| pw_or1 <| pt_not <| pt_val <| pe_callB call_isi (by rfl) T.free_isinstance (by decide +kernel) (pa_cons (pe_ix ix_tup (pv 5) pe_int (fun _ _ => rfl)) (pa_cons (pe_bltn (v := .ty "str") (by rfl) T.free_str (by decide +kernel) rfl) pa_nil))) (pss_one (ps_ret pe_bl)) pss_nil)
      <| pss_cons (ps_if (pt_cmpR op_eq (pe_callB call_len_seq (by rfl) T.free_len PySem.boot_len (pa_cons (pv 6) pa_nil)) pe_int (nomark _)) (pss_one <| ps_ret <| pe_cmpR op_eq (pe_ix ix_tup (pv 5) pe_int (fun _ _ => rfl)) (pe_ix ix_tup (pv 6) pe_int (fun _ _ => rfl)) (nomark _)) pss_nil)
      <| pss_cons (ps_if (PW.pt <| pw_or (pt_not <| pt_val <| pe_callB (C8.call_isC T.insM) (by rfl) T.free_isinstance (by decide +kernel) (pa_cons (pe_ix ix_tup (pv 5) pe_int (fun _ _ => rfl)) (pa_cons (pe_glob (v := .ref (CM K)) (by rfl) T.glo_Measure rfl) pa_nil)))
          <| pw_or1 <| pt_not <| pt_val <| pe_callB call_isi (by rfl) T.free_isinstance (by decide +kernel) (pa_cons (pe_ix ix_tup (pv 5) pe_int (fun _ _ => rfl)) (pa_cons (pe_bltn (v := .ty "str") (by rfl) T.free_str (by decide +kernel) rfl) pa_nil))) (pss_one (ps_ret pe_bl)) pss_nil)
      <| pss_one <| ps_ret <| pe_and (C8.pe_c c2 hr (by decide) (by rfl) (pa_cons (pe_ix ix_tup (pv 5) pe_int (fun _ _ => rfl)) pa_nil))
        <| pe_and (C8.pe_c c2 hr (by decide) (by rfl) (pa_cons (pe_ix ix_tup (pv 5) pe_int (fun _ _ => rfl)) pa_nil))
        <| pe_one <| pe_cmpR (op_eqG (rcG_tup mon_DM (eqDM c3)) (hr.mono (by decide))) (pv 5) (pv 6) (nomark _), ?_⟩
    refine ⟨_, rfl, _, rfl, _, rfl, _, rfl, _, rfl, _, _, _, _, L1, L2, lo, hi, m, rfl, h1, h2, ok1, bd1, ok2, bd2, hx, hy, bx, by', fun u H1 e1 hu => ?_⟩
    have hz1 := hz.up e1
    have hd := hz1.dm hu
    generalize parting L1 L2 lo hi m = r at hz hz1 hu hd
    cases r with
    | alike =>
      obtain ⟨t, rfl, ht⟩ := hz1
      obtain ⟨t', rfl, ht'⟩ := hu
      refine ⟨_, rfl, _, _, _, _, true, rfl, .ty _, .base (.tup ht), kit_ty (by decide +kernel), true, rfl, iteF ?_⟩
      refine ⟨_, rfl, t, _, rfl, .inr (SqT.of ht), _, rfl, t', _, rfl, .inr (SqT.of ht'), rfl, false, rfl, iteF ?_⟩
      refine ⟨_, rfl, t, _, _, _, rfl, rfl, SqT.of ht, at_of (j := 0) rfl rfl, _, _, _, _, true, rfl, .ty _, .base (.str _), kit_ty (by decide +kernel), true, rfl, iteF ?_⟩
      refine ⟨_, rfl, t', _, rfl, .inr (SqT.of ht'), rfl, true, rfl, iteT ?_⟩
      refine ⟨_, rfl, t, _, _, _, rfl, rfl, SqT.of ht, at_of (j := 0) rfl rfl, _, rfl, t', _, _, _, rfl, rfl, SqT.of ht', at_of (j := 0) rfl rfl, rfl, ?_⟩
      rw [decide_eq_true rfl]
      exact k H1 e1
    | part p b i j =>
      obtain ⟨t, x1, rfl, ht, hx1⟩ := hz1
      obtain ⟨t', x2, rfl, ht', hx2⟩ := hu
      refine ⟨_, rfl, _, _, _, _, true, rfl, .ty _, .base (.tup ht), kit_ty (by decide +kernel), true, rfl, iteF ?_⟩
      refine ⟨_, rfl, t, _, rfl, .inr (SqT.of ht), _, rfl, t', _, rfl, .inr (SqT.of ht'), rfl, false, rfl, iteF ?_⟩
      refine ⟨_, rfl, t, _, _, _, rfl, rfl, SqT.of ht, at_of (j := 0) rfl rfl, _, _, _, _, true, rfl, .ty _, .base (.str _), kit_ty (by decide +kernel), true, rfl, iteF ?_⟩
      refine ⟨_, rfl, t', _, rfl, .inr (SqT.of ht'), rfl, false, rfl, iteF ?_⟩
      obtain ⟨a1, d1, rfl, ha1⟩ := hx1
      refine ⟨_, rfl, t, _, _, _, rfl, rfl, SqT.of ht, at_of (j := 1) rfl rfl, _, _, _, rfl, ha1, true, rfl, iteF ?_⟩
      refine ⟨_, rfl, t, _, _, _, rfl, rfl, SqT.of ht, at_of (j := 2) rfl rfl, _, _, _, _, true, rfl, .ty _, .base (.str _), kit_ty (by decide +kernel), true, rfl, iteF ?_⟩
      refine ⟨_, rfl, t, _, _, _, rfl, rfl, SqT.of ht, at_of (j := 3) rfl rfl, i, rfl, true, rfl, iteT ?_⟩
      refine ⟨_, rfl, t, _, _, _, rfl, rfl, SqT.of ht, at_of (j := 4) rfl rfl, j, rfl, true, rfl, iteT ?_⟩
      exact ⟨_, rfl, _, rfl, hd, fun H' e => k H' (e1.trans e)⟩
end
end Sz

/-! The law's own defs, the first part: the hand, its digits, what is picked. -/
namespace Sz
open PySem PySem.Spec PyProof.Rows L2 SzR
/-- the hand at h: three numbers, the last at most c -/
def HandAt (H : Hp) (h : Addr) (c : Int) : Prop := ∃ a b n : Int, H h = some (.lst [.int a, .int b, .int n]) ∧ 0 ≤ a ∧ 0 ≤ b ∧ b ≤ 2305843009214300000 ∧ 0 ≤ n ∧ n ≤ c
theorem HandAt.mono {H : Hp} {h : Addr} {c d : Int} (k : HandAt H h c) (l : c ≤ d) : HandAt H h d :=
  let ⟨a, b, n, e, h1, h2, h3, h4, h5⟩ := k
  ⟨a, b, n, e, h1, h2, h3, h4, by omega⟩
theorem HandAt.up {H H' : Hp} {h : Addr} {c : Int} (k : HandAt H h c) (s : Same H H') : HandAt H' h c :=
  let ⟨a, b, n, e, z⟩ := k
  ⟨a, b, n, s _ _ e, z⟩
theorem HandAt.ne {H : Hp} {h b : Addr} {c : Int} {o : HO} (k : HandAt H h c) (e : H b = some o) (ho : ∀ xs, o ≠ .lst xs) : b ≠ h := fun z => by
  obtain ⟨_, _, _, e2, _⟩ := k
  rw [← z, e] at e2
  cases e2
  exact ho _ rfl
theorem HandAt.nn {H : Hp} {h b : Addr} {c : Int} (k : HandAt H h c) (e : H b = none) : b ≠ h := fun z => by
  obtain ⟨_, _, _, e2, _⟩ := k
  rw [← z, e] at e2
  cases e2
def spTake : Sp := fun vs H Q _ => ∃ h m c, vs = [.ref h, .int m] ∧ HandAt H h c ∧ c ≤ 900000 ∧ 1 ≤ m ∧ m < 1073741824 ∧ ∀ d H', 0 ≤ d → d < m → SameX h H H' → HandAt H' h (c + 1) → Q (.int d) H'
def spPick : Sp := fun vs H Q _ => ∃ h l c xs, vs = [.ref h, .ref l] ∧ HandAt H h c ∧ c ≤ 900000 ∧ l ≠ h ∧ H l = some (.lst xs) ∧ 1 ≤ xs.length ∧ xs.length ≤ 1000 ∧
  ∀ v H', v ∈ xs → SameX h H H' → HandAt H' h (c + 1) → Q v H'
def spGrain : Sp := fun vs H Q _ => ∃ h c, vs = [.ref h] ∧ HandAt H h c ∧ c ≤ 900000 ∧ ∀ g H', 1 ≤ g → g ≤ 12000000000 → SameX h H H' → HandAt H' h (c + 1) → Q (.int g) H'
abbrev primesL : List V := [V.int 2147483647, .int 2147483629, .int 2147483587, .int 2147483579, .int 2147483563, .int 2147483549, .int 2147483543, .int 2147483497]
theorem primes_at {r : Int} (h1 : 0 ≤ r) (h2 : r < 8) : ∃ p, 0 < p ∧ p < 2147483648 ∧
    atI primesL r = some (.int p) := by
  have : r = 0 ∨ r = 1 ∨ r = 2 ∨ r = 3 ∨ r = 4 ∨ r = 5 ∨ r = 6 ∨ r = 7 := by omega
  rcases this with h | h | h | h | h | h | h | h <;> (rw [h]; exact ⟨_, by decide, by decide, rfl⟩)
section
variable {P : Program} {w : World} {K : PySem.W.Frag} {mg : Str → Option Value} {base : Heap}
theorem ok_take (T : Txt K mg w) : C8.Cal P w K mg base 1 "_law_take" spTake [] := by
  obtain ⟨fd, F⟩ := T.d_l_take
  refine ⟨_, fd, ["_law_hand", "_law_many"], [], F.ok sc_l_take (fun vs H Q E h => ?_) (fun cdv A outer s H vs Q E hr h => ?_), T.glo_l_take, F.kp, F.bindsN (fun _ _ _ _ _ _ us hl => match us, hl with | [_, _], _ => rfl), .nil⟩
  · obtain ⟨h, m, c, rfl, _⟩ := h
    rfl
  · obtain ⟨h, m, c, rfl, ⟨a, b, n, hh, a0, b0, b1, n0, n1⟩, hc, m1, m2, k⟩ := h
    refine ⟨_, PSs.nox <| pss_cons (ps_if (pt_cmpR op_gt (pe_ix ix_list (pv 0) pe_int (fun _ _ => rfl)) pe_int (nomark _))
        (pss_cons (ps_set (i := 2) sc_l_take.nd rfl (Or.inl rfl) (pe_op op_mod (pe_ix ix_list (pv 0) pe_int (fun _ _ => rfl)) (pv 1)))
        <| pss_cons (ps_asg (pe_op op_fdiv (pe_ix ix_list (pv 0) pe_int (fun _ _ => rfl)) (pv 1)) (pg_sub (pv 0) pe_int set_list))
        <| pss_one (ps_ret (pv 2))) pss_nil)
      <| pss_cons (ps_asg (pe_op op_add (pe_ix ix_list (pv 0) pe_int (fun _ _ => rfl)) pe_int) (pg_sub (pv 0) pe_int set_list))
      <| pss_cons (ps_set (i := 3) sc_l_take.nd rfl (Or.inl rfl) (pe_lst (pa_cons pe_int (pa_cons pe_int (pa_cons pe_int (pa_cons pe_int (pa_cons pe_int (pa_cons pe_int (pa_cons pe_int (pa_cons pe_int pa_nil))))))))))
      <| pss_cons (ps_set (i := 4) sc_l_take.nd rfl (Or.inl rfl) (pe_ix ix_list (pv 3) (pe_op op_mod (pe_ix ix_list (pv 0) pe_int (fun _ _ => rfl)) pe_int) (fun _ _ => rfl)))
      <| pss_cons (ps_set (i := 5) sc_l_take.nd rfl (Or.inl rfl) (pe_op op_mod (pe_op op_pow (pe_op op_add (pe_ix ix_list (pv 0) pe_int (fun _ _ => rfl)) (pe_op op_mul pe_int (pe_ix ix_list (pv 0) pe_int (fun _ _ => rfl)))) pe_int) (pv 4)))
      <| pss_one <| ps_ret <| pe_op op_mod (pe_op op_fdiv (pe_op op_mod (pe_op op_mul (pv 5) (pe_op op_add (pe_op op_mod (pv 5) pe_int) (pe_ix ix_list (pv 0) pe_int (fun _ _ => rfl)))) (pv 4)) pe_int) (pv 1), ?_⟩
    refine ⟨_, rfl, h, _, 0, _, rfl, rfl, SqL.of hh, rfl, a, _, rfl, rfl, decide (a > 0), rfl, ?_⟩
    by_cases c0 : a > 0
    · rw [decide_eq_true c0]
      refine iteT ?_
      refine ⟨_, rfl, h, _, 0, _, rfl, rfl, SqL.of hh, rfl, _, rfl, _, _, rfl, rfl, (by omega), ?_⟩
      refine ⟨_, rfl, h, _, 0, _, rfl, rfl, SqL.of hh, rfl, _, rfl, _, _, rfl, rfl, ⟨by omega, m2⟩, ?_⟩
      refine ⟨_, rfl, h, _, 0, 0, rfl, rfl, hh, rfl, ?_⟩
      refine ⟨_, rfl, k (a % m) _ (Int.emod_nonneg a (by omega)) (Int.emod_lt_of_pos a (by omega)) SameX.upd ⟨a / m, b, n, upd_same, Int.ediv_nonneg a0 (by omega), b0, b1, n0, by omega⟩⟩
    · rw [decide_eq_false c0]
      refine iteF ?_
      obtain ⟨p, p0, p1, hp⟩ := primes_at (r := (n + 1) % 8) (by omega) (by omega)
      refine ⟨_, rfl, h, _, 2, _, rfl, rfl, SqL.of hh, rfl, _, _, rfl, rfl, ?_⟩
      refine ⟨_, rfl, h, _, 2, 2, rfl, rfl, hh, rfl, ?_⟩
      refine ⟨by show 8 ≤ sizeLine; decide, fun D hD => ?_⟩
      have e1 : Same (upd H h (.lst [V.int a, .int b, .int (n + 1)])) (upd (upd H h (.lst [V.int a, .int b, .int (n + 1)])) D (.lst primesL)) := Same.upd hD
      have hh2 := e1 _ _ (show upd H h (.lst [V.int a, .int b, .int (n + 1)]) h = some (.lst [V.int a, .int b, .int (n + 1)]) from upd_same)
      refine ⟨_, rfl, _, rfl, h, _, 2, _, rfl, rfl, SqL.of hh2, rfl, _, _, rfl, rfl, (by show (0 : Int) < 8; decide), D, _, _, _, rfl, rfl, SqL.of upd_same, hp, ?_⟩
      refine ⟨_, rfl, h, _, 1, _, rfl, rfl, SqL.of hh2, rfl, _, rfl, h, _, 2, _, rfl, rfl, SqL.of hh2, rfl, 7919, n + 1, rfl, rfl, .inl ⟨by decide, by decide⟩, _, _, rfl, rfl, _, _, rfl, rfl, ⟨by decide, by decide, ?_⟩, _, rfl, _, _, rfl, rfl, p0, ?_⟩
      · omega
      · have d1 := Int.emod_nonneg ((b + 7919 * (n + 1)) ^ (5 : Int).toNat) (show p ≠ 0 by omega)
        have d2 := Int.emod_lt_of_pos ((b + 7919 * (n + 1)) ^ (5 : Int).toNat) p0
        refine ⟨_, rfl, _, rfl, _, _, rfl, rfl, (by show (0 : Int) < 1009; decide), _, rfl, h, _, 2, _, rfl, rfl, SqL.of hh2, rfl, _, _, rfl, rfl, _, _, rfl, rfl, .inl ⟨Int.lt_of_lt_of_le (by decide) d1, Int.lt_trans d2 (by omega)⟩, ?_⟩
        refine ⟨_, rfl, _, _, rfl, rfl, p0, _, _, rfl, rfl, ⟨by decide, by decide⟩, _, rfl, _, _, rfl, rfl, (by omega), ?_⟩
        refine k _ _ (Int.emod_nonneg _ (by omega)) (Int.emod_lt_of_pos _ (by omega)) (SameX.upd.trans (SameX.of e1)) ⟨a, b, n + 1, hh2, a0, b0, b1, by omega, by omega⟩
theorem ok_pick (T : Txt K mg w) (c1 : C8.Cal P w K mg base 1 "_law_take" spTake []) : C8.Cal P w K mg base 2 "_law_pick" spPick [] := by
  obtain ⟨fd, F⟩ := T.d_l_pick
  refine ⟨_, fd, ["_law_hand", "_law_some"], [], F.ok sc_l_pick (fun vs H Q E h => ?_) (fun cdv A outer s H vs Q E hr h => ?_), T.glo_l_pick, F.kp, F.bindsN (fun _ _ _ _ _ _ us hl => match us, hl with | [_, _], _ => rfl), .nil⟩
  · obtain ⟨h, l, c, xs, rfl, _⟩ := h
    rfl
  · obtain ⟨h, l, c, xs, rfl, hh, hc, nl, hl, x1, x2, k⟩ := h
    refine ⟨_, PSs.nox <| pss_one <| ps_ret <| pe_ix ix_list (pv 1) (C8.pe_c c1 hr (by decide) (by rfl) (pa_cons (pv 0) (pa_cons (pe_callB call_len_seq (by rfl) T.free_len PySem.boot_len (pa_cons (pv 1) pa_nil)) pa_nil))) (fun _ _ => rfl), ?_⟩
    refine ⟨_, rfl, _, rfl, _, rfl, l, _, rfl, .inl (SqL.of hl), h, _, c, rfl, hh, hc, by omega, by omega, fun d H' d0 d1 e hh' => ?_⟩
    have ed : d.toNat < xs.length := by omega
    refine ⟨l, xs, d, xs[d.toNat], rfl, rfl, SqL.of (e _ _ nl hl), at_of (j := d.toNat) (by omega) (List.getElem?_eq_getElem ed), k _ _ (List.getElem_mem ed) e hh'⟩
theorem ok_grain (T : Txt K mg w) (c1 : C8.Cal P w K mg base 2 "_law_pick" spPick []) : C8.Cal P w K mg base 3 "_law_grain" spGrain [] := by
  obtain ⟨fd, F⟩ := T.d_l_grain
  refine ⟨_, fd, ["_law_hand"], [], F.ok sc_l_grain (fun vs H Q E h => ?_) (fun cdv A outer s H vs Q E hr h => ?_), T.glo_l_grain, F.kp, F.bindsN (fun _ _ _ _ _ _ us hl => match us, hl with | [_], _ => rfl), .nil⟩
  · obtain ⟨h, c, rfl, _⟩ := h
    rfl
  · obtain ⟨h, c, rfl, hh, hc, k⟩ := h
    refine ⟨_, PSs.nox <| pss_one <| ps_ret <| C8.pe_c c1 hr (by decide) (by rfl) (pa_cons (pv 0) (pa_cons (pe_lst (pa_cons pe_int (pa_cons pe_int (pa_cons pe_int (pa_cons pe_int (pa_cons pe_int (pa_cons pe_int (pa_cons (pe_op op_mul pe_int (pe_op op_pow pe_int pe_int)) pa_nil)))))))) pa_nil)), ?_⟩
    refine ⟨_, rfl, 10, 9, rfl, rfl, ⟨by decide, by decide, by decide⟩, 12, 10 ^ 9, rfl, rfl, .inl ⟨by decide, by decide⟩, by show 7 ≤ sizeLine; decide, fun D hD => ?_⟩
    have e0 : Same H (upd H D (.lst [V.int 4, .int 8, .int 12, .int 28, .int 336, .int 388, .int (12 * 10 ^ 9)])) := Same.upd hD
    refine ⟨h, D, c, _, rfl, hh.up e0, hc, hh.nn hD, upd_same, by decide, by decide, fun v H' hv e hh' => ?_⟩
    have hv : v = .int 4 ∨ v = .int 8 ∨ v = .int 12 ∨ v = .int 28 ∨ v = .int 336 ∨ v = .int 388 ∨ v = .int 12000000000 := by simpa using hv
    have e1 : SameX h H H' := (SameX.of e0).trans e
    rcases hv with rfl | rfl | rfl | rfl | rfl | rfl | rfl <;> exact k _ _ (by decide) (by decide) e1 hh'
end
end Sz

/-! The law's own defs, the second part: a hand is made; marks and ladders are drawn. -/
namespace Sz
open PySem PySem.Spec PyProof.Rows L2 SzR
/-- what the law knows of a ladder: marks, a rule, a least, a most, in parts of one -/
structure LL where
  ms : List Int
  r : Rule
  fl : Option Int
  ro : Option Int
def iV : Option Int → V
  | none => .non
  | some x => .int x
structure LMarks (B : Int) (ms : List Int) : Prop where
  few : 1 ≤ ms.length ∧ ms.length ≤ 24
  rise : ms.Pairwise (fun a b => a + 4 ≤ b)
  bd : ∀ x ∈ ms, -B ≤ x ∧ x ≤ B
structure LL.WF (B : Int) (D : LL) : Prop where
  mks : LMarks B D.ms
  fl : ∀ x, D.fl = some x → -B ≤ x ∧ x ≤ B
  ro : ∀ x, D.ro = some x → -B ≤ x ∧ x ≤ B
  span : ∀ f r, D.fl = some f → D.ro = some r → f ≤ r
theorem LL.WF.mono {B C : Int} {D : LL} (h : D.WF B) (l : B ≤ C) : D.WF C :=
  ⟨⟨h.mks.few, h.mks.rise, fun x z => by have := h.mks.bd x z; omega⟩, fun x z => by have := h.fl x z; omega, fun x z => by have := h.ro x z; omega, h.span⟩
/-- it stands at v, apart from the hand -/
def LD (h : Addr) (H : Hp) (v : V) (D : LL) : Prop := ∃ t m, v = .ref t ∧ t ≠ h ∧ m ≠ h ∧ H t = some (.tup [.ref m, D.r.v, iV D.fl, iV D.ro]) ∧ H m = some (.lst (D.ms.map V.int))
theorem LD.upx {h : Addr} {H H' : Hp} {v : V} {D : LL} (k : LD h H v D) (e : SameX h H H') : LD h H' v D :=
  let ⟨t, m, a, b, c, d, f⟩ := k
  ⟨t, m, a, b, c, e _ _ b d, e _ _ c f⟩
def spDM : Sp := fun vs H Q _ => ∃ h c, vs = [.ref h] ∧ HandAt H h c ∧ c ≤ 500000 ∧ ∀ m ms H', m ≠ h → SameX h H H' → HandAt H' h (c + 100) → H' m = some (.lst (ms.map V.int)) → LMarks 1000 ms → Q (.ref m) H'
def spDL : Sp := fun vs H Q _ => ∃ h c, vs = [.ref h] ∧ HandAt H h c ∧ c ≤ 500000 ∧ ∀ v D H', SameX h H H' → HandAt H' h (c + 200) → LD h H' v D → D.WF 2000 → Q v H'
def spHand (K : PySem.W.Frag) : Sp := fun vs H Q _ => ∃ s, ∃ k : Nat, ∃ ns : List Int, vs = [.ref s, .int (k : Int)] ∧ k ≤ 5 ∧ SqL K H s (ns.map V.int) ∧ ns.length ≤ 1000 ∧ ∀ h H', Same H H' → H h = none → HandAt H' h 0 → Q (.ref h) H'
theorem last_at {xs : List V} {v : V} : atI (xs ++ [v]) (-1) = some v := by
  unfold atI ixN
  rw [if_neg (by decide), if_pos (by simp; omega)]
  show (xs ++ [v])[((-1 : Int) + ((xs ++ [v]).length : Int)).toNat]? = some v
  rw [show ((-1 : Int) + ((xs ++ [v]).length : Int)).toNat = xs.length by simp; omega, List.getElem?_append_right (Nat.le_refl _)]
  simp
theorem pw_snoc {l : List Int} {z x : Int} (h : (l ++ [z]).Pairwise (fun a b => a + 4 ≤ b)) (k : z + 4 ≤ x) : ((l ++ [z]) ++ [x]).Pairwise (fun a b => a + 4 ≤ b) := by
  rw [List.pairwise_append]
  refine ⟨h, by simp, fun a ha b hb => ?_⟩
  have hb : b = x := by simpa using hb
  rw [hb]
  rcases List.mem_append.mp ha with q | q
  · have := (List.pairwise_append.mp h).2.2 a q z (by simp)
    omega
  · have : a = z := by simpa using q
    omega
theorem bit_small : ∀ b : Bool, -(2 ^ 64 : Int) < (if b = true then 1 else 0) ∧ (if b = true then (1 : Int) else 0) < 2 ^ 64 := by decide
/-- a list that is not empty, from behind -/
theorem snoc_of {l : List Int} (h : 1 ≤ l.length) : ∃ k z, l = k ++ [z] := by
  refine ⟨l.dropLast, l.getLast (fun e => by rw [e] at h; exact absurd h (by decide)), ?_⟩
  rw [List.dropLast_concat_getLast]
theorem getn {l : List Int} {i : Nat} (h : i < l.length) : (l.map V.int)[i]? = some (.int (l[i])) := by
  rw [List.getElem?_map, List.getElem?_eq_getElem h]
  rfl
section
variable {P : Program} {w : World} {K : PySem.W.Frag} {mg : Str → Option Value} {base : Heap}
theorem ok_hand_at (T : Txt K mg w) : C8.Cal P w K mg base 1 "_law_hand_at" (spHand K) [] := by
  obtain ⟨fd, F⟩ := T.d_l_hand_at
  refine ⟨_, fd, ["_law_script", "_law_k"], [], F.ok sc_l_hand_at (fun vs H Q E h => ?_) (fun cdv A outer s H vs Q E hr h => ?_), T.glo_l_hand_at, F.kp, F.bindsN (fun _ _ _ _ _ _ us hl => match us, hl with | [_, _], _ => rfl), .nil⟩
  · obtain ⟨s, k, ns, rfl, _⟩ := h
    rfl
  · obtain ⟨s, k, ns, rfl, k5, hs, hn, q⟩ := h
    refine ⟨_, PSs.nox <| pss_cons (ps_set (i := 2) sc_l_hand_at.nd rfl (Or.inl rfl) pe_int)
      <| pss_cons (ps_if (pt_cmpR op_lt (pv 1) (pe_callB call_len_seq (by rfl) T.free_len PySem.boot_len (pa_cons (pv 0) pa_nil)) (nomark _)) (pss_one <| ps_set (i := 2) sc_l_hand_at.nd rfl (Or.inl rfl) (pe_ix ix_list (pv 0) (pv 1) (fun _ _ => rfl))) pss_nil)
      <| pss_one <| ps_ret <| pe_lst <| pa_cons (pe_op op_mul (pe_callB call_abs (by rfl) T.free_abs (by decide +kernel) (pa_cons (pv 2) pa_nil)) (pe_callTy call_int1 (by rfl) T.free_int (by decide +kernel)
          (pa_cons (pe_cmpR op_ge (pe_callB call_abs (by rfl) T.free_abs (by decide +kernel) (pa_cons (pv 2) pa_nil)) (pe_op op_pow pe_int pe_int) (nomark _)) pa_nil)))
        <| pa_cons (pe_op op_add (pe_op op_mod (pv 2) pe_int) (pe_op op_mul pe_int (pv 1))) <| pa_cons pe_int pa_nil, ?_⟩
    have key : ∀ i : Int, (fun σ H' => H' = H ∧ σ = [some (V.ref s), some (.int (k : Int)), some (.int i)]) = (fun σ H' => H' = H ∧ σ = [some (V.ref s), some (.int (k : Int)), some (.int i)]) := fun _ => rfl
    have fin : ∀ i : Int, ∀ D : Addr, H D = none → ∃ b : Int, 0 ≤ b ∧ b ≤ 2305843009214300000 ∧ b = i % 2305843009213693951 + 104729 * (k : Int) := fun i D hD => by
      have h1 := Int.emod_nonneg i (show (2305843009213693951 : Int) ≠ 0 by decide)
      have h2 := Int.emod_lt_of_pos i (show (0 : Int) < 2305843009213693951 by decide)
      exact ⟨_, by omega, by omega, rfl⟩
    have body : ∀ i : Int, ∃ n : Int, n = (if i < 0 then -i else i) ∧ 0 ≤ n := fun i => by
      refine ⟨_, rfl, ?_⟩
      split <;> omega
    have last : ∀ i : Int, ∀ c : Bool, ∀ D : Addr, H D = none → Q (.ref D) (upd H D (.lst [.int ((if i < 0 then -i else i) * (if c then 1 else 0)), .int (i % 2305843009213693951 + 104729 * (k : Int)), .int 0])) := fun i c D hD => by
      obtain ⟨n, hn1, hn2⟩ := body i
      obtain ⟨b, b0, b1, hb⟩ := fin i D hD
      rw [← hn1, ← hb]
      refine q D _ (Same.upd hD) hD ⟨_, b, 0, upd_same, ?_, b0, b1, by decide, by decide⟩
      cases c
      · show 0 ≤ n * 0
        omega
      · show 0 ≤ n * 1
        omega
    refine ⟨_, rfl, _, rfl, s, _, rfl, .inl hs, _, _, rfl, rfl, _, rfl, ?_⟩
    by_cases c0 : (k : Int) < ((ns.map V.int).length : Int)
    · rw [decide_eq_true c0]
      refine iteT ?_
      have hk : k < ns.length := by simpa using c0
      refine ⟨_, rfl, _, rfl, s, _, _, _, rfl, rfl, hs, at_of (j := k) rfl (getn hk), ?_⟩
      refine ⟨_, rfl, _, rfl, _, rfl, _, rfl, 10, 18, rfl, rfl, ⟨by decide, by decide, by decide⟩, _, _, rfl, rfl, .inr ⟨_, rfl, _, _, rfl, rfl, .inr ?_, ?_⟩⟩
      · exact bit_small _
      · refine ⟨_, rfl, _, _, rfl, rfl, (by show (0 : Int) < 2305843009213693951; decide), _, rfl, _, _, rfl, rfl, .inl ⟨by decide, by decide⟩, _, _, rfl, rfl, (by show 3 ≤ sizeLine; decide), fun D hD => ?_⟩
        exact last _ _ D hD
    · rw [decide_eq_false c0]
      refine iteF ?_
      refine ⟨_, rfl, _, rfl, _, rfl, _, rfl, 10, 18, rfl, rfl, ⟨by decide, by decide, by decide⟩, _, _, rfl, rfl, .inr ⟨_, rfl, _, _, rfl, rfl, .inr ?_, ?_⟩⟩
      · exact bit_small _
      · refine ⟨_, rfl, _, _, rfl, rfl, (by show (0 : Int) < 2305843009213693951; decide), _, rfl, _, _, rfl, rfl, .inl ⟨by decide, by decide⟩, _, _, rfl, rfl, (by show 3 ≤ sizeLine; decide), fun D hD => ?_⟩
        exact last _ _ D hD
theorem ok_drawn_marks (T : Txt K mg w) (c1 : C8.Cal P w K mg base 1 "_law_take" spTake []) (c2 : C8.Cal P w K mg base 2 "_law_pick" spPick []) : C8.Cal P w K mg base 3 "_law_drawn_marks" spDM [] := by
  obtain ⟨fd, F⟩ := T.d_l_drawn_marks
  refine ⟨_, fd, ["_law_hand"], [], F.ok sc_l_drawn_marks (fun vs H Q E h => ?_) (fun cdv A outer s H vs Q E hr h => ?_), T.glo_l_drawn_marks, F.kp, F.bindsN (fun _ _ _ _ _ _ us hl => match us, hl with | [_], _ => rfl), .nil⟩
  · obtain ⟨h, c, rfl, _⟩ := h
    rfl
  · obtain ⟨h, c, rfl, hh, hc, q⟩ := h
    refine ⟨_, PSs.nox <| pss_cons (ps_par (i := 1) (j := 2) rfl sc_l_drawn_marks.nd rfl rfl (by decide) rfl rfl
          (pa_cons (pe_op op_add pe_int (C8.pe_c c1 hr (by decide) (by rfl) (pa_cons (pv 0) (pa_cons (C8.pe_c c2 hr (by decide) (by rfl) (pa_cons (pv 0) (pa_cons (pe_lst (pa_cons pe_int (pa_cons pe_int (pa_cons pe_int (pa_cons pe_int (pa_cons pe_int pa_nil)))))) pa_nil))) pa_nil))))
            (pa_cons (C8.pe_c c1 hr (by decide) (by rfl) (pa_cons (pv 0) (pa_cons pe_int pa_nil))) pa_nil)) rfl)
      <| pss_cons (ps_par (i := 3) (j := 4) rfl sc_l_drawn_marks.nd rfl rfl (by decide) rfl rfl
          (pa_cons (pe_lst (pa_cons (pe_op op_mul pe_int (pe_op op_sub (C8.pe_c c1 hr (by decide) (by rfl) (pa_cons (pv 0) (pa_cons pe_int pa_nil))) pe_int)) pa_nil))
            (pa_cons (pe_op op_mul pe_int (pe_op op_add pe_int (C8.pe_c c1 hr (by decide) (by rfl) (pa_cons (pv 0) (pa_cons pe_int pa_nil))))) pa_nil)) rfl)
      <| pss_cons (ps_for PassesOwn.never rfl (pi_range1 (by rfl) T.free_range (pa_cons (pe_op op_sub (pv 1) pe_int) pa_nil)) (pg_name (i := 5) sc_l_drawn_marks.nd rfl (Or.inl rfl))
          (pss_one <| ps_expr <| pe_bm PySem.F.plainAttrs_list PySem.F.slot_list_append PySem.F.type_list_append mt_append (pv 3)
            (pa_cons (pe_op op_add (pe_ix ix_list (pv 3) (pe_un un_neg pe_int) (fun _ _ => rfl)) (pe_ifExp (pt_cmpR op_eq (pv 2) pe_int (nomark _)) (pv 4) (pe_op op_mul pe_int (pe_op op_add pe_int (C8.pe_c c1 hr (by decide) (by rfl) (pa_cons (pv 0) (pa_cons pe_int pa_nil))))))) pa_nil)))
      <| pss_one (ps_ret (pv 3)), ?_⟩
    refine ⟨_, rfl, _, rfl, by show 5 ≤ sizeLine; decide, fun D hD => ?_⟩
    have e0 : Same H (upd H D (.lst [.int 2, .int 4, .int 6, .int 6, .int 24])) := Same.upd hD
    refine ⟨h, D, c, _, rfl, hh.up e0, by omega, hh.nn hD, upd_same, by decide, by decide, fun v H1 hv x1 hh1 => ?_⟩
    have hv : ∃ n : Int, v = .int n ∧ 1 ≤ n ∧ n ≤ 24 := by
      have hv : v = .int 2 ∨ v = .int 4 ∨ v = .int 6 ∨ v = .int 24 := by simpa using hv
      rcases hv with rfl | rfl | rfl | rfl <;> exact ⟨_, rfl, by decide, by decide⟩
    obtain ⟨n, rfl, n1, n2⟩ := hv
    refine ⟨h, n, c + 1, rfl, hh1, by omega, by omega, by omega, fun m H2 m1 m2 x2 hh2 => ?_⟩
    refine ⟨_, _, rfl, rfl, _, rfl, h, 2, c + 1 + 1, rfl, hh2, by omega, by omega, by omega, fun sd H3 s1 s2 x3 hh3 => ?_⟩
    refine ⟨_, _, rfl, ?_⟩
    refine ⟨_, rfl, h, 60, _, rfl, hh3, by omega, by omega, by omega, fun a H4 a1 a2 x4 hh4 => ?_⟩
    refine ⟨_, _, rfl, rfl, _, _, rfl, rfl, .inl ⟨by decide, by decide⟩, by show 1 ≤ sizeLine; decide, fun M hM => ?_⟩
    have e4 : Same H4 (upd H4 M (.lst [.int (4 * (a - 20))])) := Same.upd hM
    refine ⟨_, rfl, h, 8, _, rfl, hh4.up e4, by omega, by omega, by omega, fun b H5 b1 b2 x5 hh5 => ?_⟩
    refine ⟨_, _, rfl, rfl, _, _, rfl, rfl, .inl ⟨by decide, by decide⟩, _, _, rfl, ?_⟩
    have xa : SameX h H H5 := ((((((SameX.of e0).trans x1).trans x2).trans x3).trans x4).trans (SameX.of e4)).trans x5
    have nM : M ≠ h := hh4.nn hM
    have hM5 : H5 M = some (.lst [.int (4 * (a - 20))]) := x5 _ _ nM upd_same
    refine ⟨_, rfl, _, _, rfl, rfl, _, rfl, by omega, by omega, ?_⟩
    have xb4 : SameX h H H4 := ((((SameX.of e0).trans x1).trans x2).trans x3).trans x4
    have h0 : ∀ x ∈ ([] ++ [4 * (a - 20)] : List Int), -80 ≤ x ∧ x ≤ 160 + 36 * ((0 : Nat) : Int) := fun x hx => by
      have : x = 4 * (a - 20) := by simpa using hx
      omega
    have hMn : H M = none := by
      cases e : H M with
      | none => rfl
      | some o =>
        have := xb4 _ _ nM e
        rw [hM] at this
        cases this
    refine for_range (lo := 0) (n := (1 + m - 1).toNat) (fun i σ H' => SameX h H H' ∧ HandAt H' h (c + 6 + i) ∧ ∃ l z u, σ = [some (.ref h), some (.int (1 + m)), some (.int sd), some (.ref M), some (.int (4 * (1 + b))), u] ∧ H' M = some (.lst ((l ++ [z]).map V.int)) ∧ l.length = i ∧
        (l ++ [z]).Pairwise (fun a b => a + 4 ≤ b) ∧ ∀ x ∈ l ++ [z], -80 ≤ x ∧ x ≤ 160 + 36 * (i : Int))
      ⟨xa, hh5.mono (by omega), [], 4 * (a - 20), none, rfl, hM5, rfl, by simp, h0⟩ ?_ ?_
    · rintro i σ H' hi ⟨x6, hh6, l, z, u, rfl, hM6, hl, hp, hb⟩
      have hz := hb z (by simp)
      have mp : (l ++ [z]).map V.int = l.map V.int ++ [.int z] := by simp
      have few : ((l ++ [z]).map V.int).length < sizeLine := small1000 (by simp; omega)
      refine ⟨_, rfl, .inl ⟨rfl, _, SqL.of hM6⟩, ?_⟩
      refine ⟨_, rfl, _, rfl, M, _, _, _, rfl, rfl, SqL.of hM6, (by rw [mp]; exact last_at), _, rfl, rfl, _, rfl, ?_⟩
      have fin : ∀ (s : Int) (H7 : Hp), 4 ≤ s → s ≤ 36 → SameX h H' H7 → HandAt H7 h (c + 6 + (i + 1 : Nat)) → True → ∃ l' z' u', (some (V.ref h) :: some (.int (1 + m)) :: some (.int sd) :: some (.ref M) :: some (.int (4 * (1 + b))) :: [some (V.int (0 + (i : Int)))]) = [some (.ref h), some (.int (1 + m)), some (.int sd), some (.ref M), some (.int (4 * (1 + b))), u'] ∧
          (upd H7 M (.lst ((l ++ [z]).map V.int ++ [.int (z + s)]))) M = some (.lst ((l' ++ [z']).map V.int)) ∧ l'.length = i + 1 ∧ (l' ++ [z']).Pairwise (fun a b => a + 4 ≤ b) ∧ ∀ x ∈ l' ++ [z'], -80 ≤ x ∧ x ≤ 160 + 36 * ((i + 1 : Nat) : Int) := fun s H7 s1 s2 x7 hh7 _ => by
        refine ⟨l ++ [z], z + s, _, rfl, ?_, by simp [hl], pw_snoc hp (by omega), fun x hx => ?_⟩
        · rw [upd_same]
          simp
        · rcases List.mem_append.mp hx with g | g
          · have := hb x g
            omega
          · have : x = z + s := by simpa using g
            omega
      have hup : ∀ (s : Int) (H7 : Hp), SameX h H' H7 → HandAt H7 h (c + 6 + (i + 1 : Nat)) → H7 M = some (.lst ((l ++ [z]).map V.int)) → HandAt (upd H7 M (.lst ((l ++ [z]).map V.int ++ [.int (z + s)]))) h (c + 6 + (i + 1 : Nat)) := fun s H7 x7 hh7 _ => by
        obtain ⟨a', b', n', h1, h2⟩ := hh7
        exact ⟨a', b', n', by rw [upd_ne (Ne.symm nM)]; exact h1, h2⟩
      have xup : ∀ (s : Int) (H7 : Hp), SameX h H' H7 → SameX h H (upd H7 M (.lst ((l ++ [z]).map V.int ++ [.int (z + s)]))) := fun s H7 x7 b o nb eb => by
        rw [upd_ne (ne_of_none eb hMn)]
        exact x7 _ _ nb (x6 _ _ nb eb)
      by_cases c0 : sd = 0
      · rw [decide_eq_true (congrArg V.int c0)]
        refine iteT ⟨_, rfl, _, _, rfl, rfl, M, _, _, rfl, rfl, hM6, few, ?_⟩
        exact ⟨xup _ H' (SameX.of (Same.refl _)), hup _ H' (SameX.of (Same.refl _)) (hh6.mono (by omega)) hM6, fin _ H' (by omega) (by omega) (SameX.of (Same.refl _)) (hh6.mono (by omega)) trivial⟩
      · rw [decide_eq_false (fun e => c0 (by injection e))]
        refine iteF ⟨_, rfl, h, 9, _, rfl, hh6, by omega, by omega, by omega, fun d H7 d1 d2 x7 hh7 => ?_⟩
        have hM7 := x7 _ _ nM hM6
        refine ⟨_, _, rfl, rfl, _, _, rfl, rfl, .inl ⟨by decide, by decide⟩, _, _, rfl, rfl, M, _, _, rfl, rfl, hM7, few, ?_⟩
        exact ⟨xup _ H7 x7, hup _ H7 x7 (hh7.mono (by omega)) hM7, fin _ H7 (by omega) (by omega) x7 (hh7.mono (by omega)) trivial⟩
    · rintro σ H' ⟨x6, hh6, l, z, u, rfl, hM6, hl, hp, hb⟩
      refine ⟨_, rfl, q M (l ++ [z]) H' nM x6 (hh6.mono (by omega)) hM6 ⟨by simp; omega, hp, fun x hx => ?_⟩⟩
      have := hb x hx
      omega
end
end Sz

/-! The law's own defs, the third part: a ladder is drawn; it is made. -/
namespace Sz
open PySem PySem.Spec PyProof.Rows L2 SzR
def mq (g x : Int) : Rat := mkRat x g.toNat
def LL.lad (D : LL) (g : Int) : Lad := ⟨D.ms.map (mq g), D.r, D.fl.map (mq g), D.ro.map (mq g)⟩
theorem mq_lt {g x y : Int} (hg : 1 ≤ g) (h : x < y) : mq g x < mq g y := by
  unfold mq
  rw [Rat.mkRat_eq_div, Rat.mkRat_eq_div]
  have hp : (0 : Rat) < (g.toNat : Rat) := by exact_mod_cast (show 0 < g.toNat by omega)
  have hx : (x : Rat) < (y : Rat) := by exact_mod_cast h
  rw [Rat.div_def, Rat.div_def]
  exact Rat.mul_lt_mul_of_pos_right hx (Rat.inv_pos.mpr hp)
theorem mq_le {g x y : Int} (hg : 1 ≤ g) (h : x ≤ y) : mq g x ≤ mq g y := by
  rcases Int.lt_or_eq_of_le h with q | q
  · exact Rat.le_of_lt (mq_lt hg q)
  · rw [q]
    exact Rat.le_refl
theorem mq_bd {g x : Int} (h1 : 1 ≤ g) (h2 : g ≤ 12000000000) (b : -100000 ≤ x ∧ x ≤ 100000) : Bd 64 (mq g x) := bd_mkRat (by omega) (by omega) (by omega)
theorem LL.ok {D : LL} {g B : Int} (h : D.WF B) (hg : 1 ≤ g) : (D.lad g).Ok := by
  have hl : (D.lad g).marks.length = D.ms.length := by simp [LL.lad]
  refine ⟨fun i hi => ?_, by have := h.mks.few; omega, by have := h.mks.few; omega, fun a b ha hb => ?_⟩
  · have h1 : i + 1 < D.ms.length := by omega
    have e : ∀ j (hj : j < D.ms.length), at' (D.lad g).marks j = mq g D.ms[j] := fun j hj => by
      unfold at' LL.lad
      rw [List.getD_eq_getElem?_getD, List.getElem?_map, List.getElem?_eq_getElem hj]
      rfl
    rw [e i (by omega), e (i + 1) h1]
    have := List.pairwise_iff_getElem.mp h.mks.rise i (i + 1) (by omega) h1 (by omega)
    exact mq_lt hg (by omega)
  · unfold LL.lad at ha hb
    cases e1 : D.fl with
    | none =>
      rw [e1] at ha
      exact nomatch ha
    | some f =>
      cases e2 : D.ro with
      | none =>
        rw [e2] at hb
        exact nomatch hb
      | some r =>
        rw [e1] at ha
        rw [e2] at hb
        cases ha
        cases hb
        exact mq_le hg (h.span f r e1 e2)
theorem LL.bnd {D : LL} {g B : Int} (h : D.WF B) (hB : B ≤ 100000) (h1 : 1 ≤ g) (h2 : g ≤ 12000000000) : (D.lad g).Bnd := by
  refine ⟨fun q hq => ?_, fun q hq => ?_, fun q hq => ?_⟩
  · obtain ⟨x, hx, rfl⟩ := List.mem_map.mp hq
    have := h.mks.bd x hx
    exact mq_bd h1 h2 (by omega)
  · cases e1 : D.fl with
    | none =>
      have hq : D.fl.map (mq g) = some q := hq
      rw [e1] at hq
      exact nomatch hq
    | some f =>
      have hq : D.fl.map (mq g) = some q := hq
      rw [e1] at hq
      cases hq
      have := h.fl f e1
      exact mq_bd h1 h2 (by omega)
  · cases e1 : D.ro with
    | none =>
      have hq : D.ro.map (mq g) = some q := hq
      rw [e1] at hq
      exact nomatch hq
    | some f =>
      have hq : D.ro.map (mq g) = some q := hq
      rw [e1] at hq
      cases hq
      have := h.ro f e1
      exact mq_bd h1 h2 (by omega)
section
variable {P : Program} {w : World} {K : PySem.W.Frag} {mg : Str → Option Value} {base : Heap}
theorem ok_drawn_ladder (T : Txt K mg w) (c1 : C8.Cal P w K mg base 1 "_law_take" spTake []) (c2 : C8.Cal P w K mg base 2 "_law_pick" spPick []) (c3 : C8.Cal P w K mg base 3 "_law_drawn_marks" spDM []) : C8.Cal P w K mg base 4 "_law_drawn_ladder" spDL [] := by
  obtain ⟨fd, F⟩ := T.d_l_drawn_ladder
  refine ⟨_, fd, ["_law_hand"], [], F.ok sc_l_drawn_ladder (fun vs H Q E h => ?_) (fun cdv A outer s H vs Q E hr h => ?_), T.glo_l_drawn_ladder, F.kp, F.bindsN (fun _ _ _ _ _ _ us hl => match us, hl with | [_], _ => rfl), .nil⟩
  · obtain ⟨h, c, rfl, _⟩ := h
    rfl
  · obtain ⟨h, c, rfl, hh, hc, q⟩ := h
    refine ⟨_, PSs.nox <| pss_cons (ps_par (i := 1) (j := 2) rfl sc_l_drawn_ladder.nd rfl rfl (by decide) rfl rfl
          (pa_cons (C8.pe_c c3 hr (by decide) (by rfl) (pa_cons (pv 0) pa_nil)) (pa_cons (C8.pe_c c2 hr (by decide) (by rfl) (pa_cons (pv 0) (pa_cons (pe_lst (pa_cons pe_str (pa_cons pe_str (pa_cons pe_str pa_nil)))) pa_nil))) pa_nil)) rfl)
      <| pss_cons (ps_asg (pe_tup (pa_cons pe_non (pa_cons pe_non pa_nil))) (pg_tup rfl (pgs_cons (pg_name (i := 3) sc_l_drawn_ladder.nd rfl (Or.inl rfl)) (pgs_cons (pg_name (i := 4) sc_l_drawn_ladder.nd rfl (Or.inl rfl)) pgs_nil))))
      <| pss_cons (ps_if (pt_cmpR op_eq (C8.pe_c c1 hr (by decide) (by rfl) (pa_cons (pv 0) (pa_cons pe_int pa_nil))) pe_int (nomark _))
          (pss_one <| ps_set (i := 3) sc_l_drawn_ladder.nd rfl (Or.inl rfl) (pe_op op_add (pe_op op_sub (pe_ix ix_list (pv 1) pe_int (fun _ _ => rfl)) pe_int) (pe_op op_mul pe_int (C8.pe_c c1 hr (by decide) (by rfl) (pa_cons (pv 0) (pa_cons pe_int pa_nil)))))) pss_nil)
      <| pss_cons (ps_if (pt_cmpR op_eq (C8.pe_c c1 hr (by decide) (by rfl) (pa_cons (pv 0) (pa_cons pe_int pa_nil))) pe_int (nomark _))
          (pss_one <| ps_set (i := 4) sc_l_drawn_ladder.nd rfl (Or.inl rfl) (pe_callB (call_max2 rfl) (by rfl) T.free_max (by decide +kernel)
            (pa_cons (pe_op op_sub (pe_op op_add (pe_ix ix_list (pv 1) (pe_un un_neg pe_int) (fun _ _ => rfl)) pe_int) (pe_op op_mul pe_int (C8.pe_c c1 hr (by decide) (by rfl) (pa_cons (pv 0) (pa_cons pe_int pa_nil)))))
              (pa_cons (pe_ifExp (pt_cmp (pc_isN (pv 3))) (pe_op op_sub (pe_ix ix_list (pv 1) pe_int (fun _ _ => rfl)) pe_int) (pv 3)) pa_nil)))) pss_nil)
      <| pss_one <| ps_ret <| pe_tup <| pa_cons (pv 1) <| pa_cons (pv 2) <| pa_cons (pv 3) <| pa_cons (pv 4) pa_nil, ?_⟩
    refine ⟨_, rfl, h, c, rfl, hh, hc, fun m ms H1 nm x1 hh1 hm1 hms => ?_⟩
    refine ⟨_, rfl, by show 3 ≤ sizeLine; decide, fun D hD => ?_⟩
    have e1 : Same H1 (upd H1 D (.lst [.str "up", .str "down", .str "near"])) := Same.upd hD
    refine ⟨h, D, _, _, rfl, hh1.up e1, by omega, hh1.nn hD, upd_same, by decide, by decide, fun v H2 hv x2 hh2 => ?_⟩
    have hv : ∃ r : Rule, v = r.v := by
      have hv : v = .str "up" ∨ v = .str "down" ∨ v = .str "near" := by simpa using hv
      rcases hv with rfl | rfl | rfl
      · exact ⟨.up, rfl⟩
      · exact ⟨.down, rfl⟩
      · exact ⟨.near, rfl⟩
    obtain ⟨r, rfl⟩ := hv
    have xx2 : SameX h H H2 := (x1.trans (SameX.of e1)).trans x2
    have hm2 := x2 _ _ nm (e1 _ _ hm1)
    have hms2 : LMarks 2000 ms := ⟨hms.few, hms.rise, fun x hx => by have := hms.bd x hx; omega⟩
    obtain ⟨k0, z, ez⟩ := snoc_of hms.few.1
    have mp : ms.map V.int = k0.map V.int ++ [.int z] := by rw [ez]; simp
    have few0 : 0 < ms.length := hms.few.1
    have bz := hms.bd z (by rw [ez]; simp)
    have b0 := hms.bd ms[0] (List.getElem_mem hms.few.1)
    refine ⟨_, _, rfl, by show 2 ≤ sizeLine; decide, fun N hN => ⟨N, _, rfl, SqT.of upd_same, rfl, _, _, rfl, _, _, rfl, rfl, ?_⟩⟩
    have eN : Same H2 (upd H2 N (.tup [.non, .non])) := Same.upd hN
    replace hh2 := hh2.up eN
    replace hm2 := eN _ _ hm2
    replace xx2 := xx2.trans (SameX.of eN)
    refine ⟨_, rfl, h, 3, _, rfl, hh2, by omega, by omega, by omega, fun d H3 d1 d2 x3 hh3 => ?_⟩
    have xx3 := xx2.trans x3
    have hm3 := x3 _ _ nm hm2
    refine ⟨rfl, _, rfl, ?_⟩
    by_cases c0 : d = 0
    · rw [decide_eq_true (congrArg V.int c0)]
      refine iteT ⟨_, rfl, m, _, _, _, rfl, rfl, SqL.of hm3, at_of (j := 0) rfl (getn hms.few.1), _, _, rfl, rfl, _, rfl, h, 30, _, rfl, hh3, by omega, by omega, by omega, fun d4 H5 q1 q2 x5 hh5 => ?_⟩
      have xx5 := xx3.trans x5
      have hm5 := x5 _ _ nm hm3
      refine ⟨_, _, rfl, rfl, .inl ⟨by decide, by decide⟩, _, _, rfl, rfl, ?_⟩
      refine ⟨_, rfl, h, 3, _, rfl, hh5, by omega, by omega, by omega, fun d2 H6 p1 p2 x6 hh6 => ?_⟩
      have xx6 := SameX.trans xx5 x6
      have hm6 := x6 _ _ nm (by first | exact hm3 | exact hm5)
      refine ⟨rfl, _, rfl, ?_⟩
      by_cases c2 : d2 = 0
      · rw [decide_eq_true (congrArg V.int c2)]
        refine iteT ⟨_, rfl, _, rfl, m, _, _, _, rfl, rfl, SqL.of hm6, (by rw [mp]; exact last_at), _, _, rfl, rfl, _, rfl, h, 30, _, rfl, hh6, by omega, by omega, by omega, fun d3 H7 p3 p4 x7 hh7 => ?_⟩
        have xx7 := xx6.trans x7
        have hm7 := x7 _ _ nm hm6
        refine ⟨_, _, rfl, rfl, .inl ⟨by decide, by decide⟩, _, _, rfl, rfl, _, rfl, false, rfl, iteF ⟨_, rfl, _, _, rfl, ?_⟩⟩
        refine ⟨_, rfl, _, rfl, _, rfl, _, rfl, by show 4 ≤ sizeLine; decide, fun t ht => ?_⟩
        have hro : ∃ ro : Int, ro = (if (ms[0] - 12 + 2 * d4) > z + 12 - 2 * d3 then (ms[0] - 12 + 2 * d4) else z + 12 - 2 * d3) ∧ -2000 ≤ ro ∧ ro ≤ 2000 ∧ (ms[0] - 12 + 2 * d4) ≤ ro := by
          refine ⟨_, rfl, ?_⟩
          split <;> omega
        obtain ⟨ro, e, r1, r2, r3⟩ := hro
        refine q (.ref t) ⟨ms, r, (some (ms[0] - 12 + 2 * d4)), some ro⟩ _ (xx7.trans (SameX.of (Same.upd ht))) ((hh7.mono (by omega)).up (Same.upd ht)) ⟨t, m, rfl, hh7.nn ht, nm, ?_, Same.upd ht _ _ hm7⟩ ⟨hms2, ?_, ?_, ?_⟩
        · rw [upd_same, e]
          rfl
        · intro y hy
          cases hy
          omega
        · intro y hy
          cases hy
          omega
        · intro y y' hy hy'
          cases hy
          cases hy'
          exact r3
      · rw [decide_eq_false (fun e => c2 (by injection e))]
        refine iteF ⟨_, rfl, _, rfl, _, rfl, _, rfl, by show 4 ≤ sizeLine; decide, fun t ht => ?_⟩
        refine q (.ref t) ⟨ms, r, (some (ms[0] - 12 + 2 * d4)), none⟩ _ (xx6.trans (SameX.of (Same.upd ht))) ((hh6.mono (by omega)).up (Same.upd ht)) ⟨t, m, rfl, hh6.nn ht, nm, upd_same, Same.upd ht _ _ hm6⟩ ⟨hms2, ?_, ?_, ?_⟩
        · intro y hy
          cases hy
          omega
        · exact fun y hy => nomatch hy
        · exact fun _ y _ hy => nomatch hy
    · rw [decide_eq_false (fun e => c0 (by injection e))]
      refine iteF ?_
      refine ⟨_, rfl, h, 3, _, rfl, hh3, by omega, by omega, by omega, fun d2 H6 p1 p2 x6 hh6 => ?_⟩
      have xx6 := SameX.trans xx3 x6
      have hm6 := x6 _ _ nm (by first | exact hm3 | exact hm5)
      refine ⟨rfl, _, rfl, ?_⟩
      by_cases c2 : d2 = 0
      · rw [decide_eq_true (congrArg V.int c2)]
        refine iteT ⟨_, rfl, _, rfl, m, _, _, _, rfl, rfl, SqL.of hm6, (by rw [mp]; exact last_at), _, _, rfl, rfl, _, rfl, h, 30, _, rfl, hh6, by omega, by omega, by omega, fun d3 H7 p3 p4 x7 hh7 => ?_⟩
        have xx7 := xx6.trans x7
        have hm7 := x7 _ _ nm hm6
        refine ⟨_, _, rfl, rfl, .inl ⟨by decide, by decide⟩, _, _, rfl, rfl, _, rfl, true, rfl, iteT ⟨_, rfl, m, _, _, _, rfl, rfl, SqL.of hm7, at_of (j := 0) rfl (getn hms.few.1), _, _, rfl, rfl, _, _, rfl, ?_⟩⟩
        refine ⟨_, rfl, _, rfl, _, rfl, _, rfl, by show 4 ≤ sizeLine; decide, fun t ht => ?_⟩
        have hro : ∃ ro : Int, ro = (if ms[0] - 12 > z + 12 - 2 * d3 then ms[0] - 12 else z + 12 - 2 * d3) ∧ -2000 ≤ ro ∧ ro ≤ 2000 ∧ ms[0] - 12 ≤ ro := by
          refine ⟨_, rfl, ?_⟩
          split <;> omega
        obtain ⟨ro, e, r1, r2, r3⟩ := hro
        refine q (.ref t) ⟨ms, r, none, some ro⟩ _ (xx7.trans (SameX.of (Same.upd ht))) ((hh7.mono (by omega)).up (Same.upd ht)) ⟨t, m, rfl, hh7.nn ht, nm, ?_, Same.upd ht _ _ hm7⟩ ⟨hms2, ?_, ?_, ?_⟩
        · rw [upd_same, e]
          rfl
        · exact fun y hy => nomatch hy
        · intro y hy
          cases hy
          omega
        · exact fun y _ hy => nomatch hy
      · rw [decide_eq_false (fun e => c2 (by injection e))]
        refine iteF ⟨_, rfl, _, rfl, _, rfl, _, rfl, by show 4 ≤ sizeLine; decide, fun t ht => ?_⟩
        refine q (.ref t) ⟨ms, r, none, none⟩ _ (xx6.trans (SameX.of (Same.upd ht))) ((hh6.mono (by omega)).up (Same.upd ht)) ⟨t, m, rfl, hh6.nn ht, nm, upd_same, Same.upd ht _ _ hm6⟩ ⟨hms2, ?_, ?_, ?_⟩
        · exact fun y hy => nomatch hy
        · exact fun y hy => nomatch hy
        · exact fun _ y _ hy => nomatch hy
end
end Sz

/-! The law's own defs, the fourth part: ladders are made; points. -/
namespace Sz
open PySem PySem.Spec PyProof.Rows L2 SzR
theorem lc_zip {K : PySem.W.Frag} {a b : Addr} {xs ys : List V} {g : TG} {tt : TT} {te : TE} {vs : List Nat} {σ : L2.St} {H1 : Hp} {D : Addr} {Qd : Hp → Prop} (Pv : Nat → Hp → Prop) (h0 : Pv 0 (upd H1 D (.lst [])))
    (hl : ∀ i H, Pv i H → SqL K H a xs ∧ SqL K H b ys)
    (hs : ∀ i x y N H, xs[i]? = some x → ys[i]? = some y → Pv i H → H N = none → g (.ref N) (wipe σ vs) (upd H N (.tup [x, y])) fun σ2 H2 => wipe σ2 vs = wipe σ vs ∧ tt σ2 H2 fun b H3 =>
      if b = true then te σ2 H3 fun y H4 => ∃ acc, H4 D = some (.lst acc) ∧ acc.length < sizeLine ∧ Pv (i + 1) (upd H4 D (.lst (acc ++ [y]))) else Pv (i + 1) H3) (hd : ∀ i H, Pv i H → Qd H) :
    ∃ W : Nat → Nat → Hp → Prop, (∃ m, W 0 m (upd H1 D (.lst []))) ∧ ∀ i m H, W i m H →
      ((Itz K a b).stop i H ∧ Qd H) ∨ ((Itz K a b).go i H ∧ ∃ Nx : Hp → Prop, (∀ H', Nx H' → ∃ m', m' < m ∧ W (i + 1) m' H') ∧ ∀ x H', (Itz K a b).yld i H x H' → g x (wipe σ vs) H' fun σ2 H2 => wipe σ2 vs = wipe σ vs ∧ tt σ2 H2 fun b H3 =>
        if b = true then te σ2 H3 fun y H4 => ∃ acc, H4 D = some (.lst acc) ∧ acc.length < sizeLine ∧ Nx (upd H4 D (.lst (acc ++ [y]))) else Nx H3) := by
  refine ⟨fun i m H => m = min xs.length ys.length - i ∧ i ≤ min xs.length ys.length ∧ Pv i H, ⟨_, rfl, Nat.zero_le _, h0⟩, ?_⟩
  rintro i m H ⟨rfl, hi, p⟩
  obtain ⟨q, q2⟩ := hl i H p
  by_cases hlt : i < min xs.length ys.length
  · have h1 : i < xs.length := by omega
    have h2 : i < ys.length := by omega
    refine .inr ⟨⟨xs, ys, xs[i], ys[i], q, q2, by simp [h1], by simp [h2]⟩, Pv (i + 1), fun H' p' => ⟨min xs.length ys.length - (i + 1), by omega, rfl, hlt, p'⟩, fun x H' y => ?_⟩
    obtain ⟨N, x1, y1, rfl, hN, rfl, f1, f2⟩ := y
    exact hs i x1 y1 N H (f1 xs q) (f2 ys q2) p hN
  · exact .inl ⟨⟨xs, ys, q, q2, by omega⟩, hd i H p⟩
def spMsr (K : PySem.W.Frag) : Sp := fun vs H Q _ => ∃ o g, vs = [iV o, .int g] ∧ 1 ≤ g ∧ g ≤ 12000000000 ∧ ∀ v H', Same H H' → MO K H' v (o.map (mq g)) → Q v H'
def spMade (K : PySem.W.Frag) : Sp := fun vs H Q _ => ∃ h v g D, vs = [v, .int g] ∧ LD h H v D ∧ D.WF 50000 ∧ 1 ≤ g ∧ g ≤ 12000000000 ∧ ∀ u H', Same H H' → Lv K H' u (D.lad g) → Q u H'
def spLPts : Sp := fun vs H Q _ => ∃ h v D, vs = [v] ∧ LD h H v D ∧ D.WF 50000 ∧ ∀ (l : Addr) (ns : List Int) (H' : Hp), Same H H' → H l = none → H' l = some (.lst (ns.map V.int)) → 1 ≤ ns.length → ns.length ≤ 100 → (∀ x ∈ ns, -50000 ≤ x ∧ x ≤ 50000) → Q (.ref l) H'
section
variable {P : Program} {w : World} {K : PySem.W.Frag} {mg : Str → Option Value} {base : Heap}
theorem Mv.made {H : Hp} {z dz : Addr} {q : Rat} (nz : H z = none) (ndz : H dz = none) : Same H (upd (upd (upd H dz (.own z)) z (.ins (CM K) dz [])) z (.ins (CM K) dz (mF q))) ∧
    Mv K (upd (upd (upd H dz (.own z)) z (.ins (CM K) dz [])) z (.ins (CM K) dz (mF q))) (.ref z) q := ⟨made3 nz ndz, z, dz, rfl, upd_same⟩
theorem ok_l_measure (T : Txt K mg w) (mk : C8.Mak P w K mg base 2 "Measure" (CM K) (spMkM K) []) : C8.Cal P w K mg base 4 "_law_measure" (spMsr K) [] := by
  obtain ⟨fd, F⟩ := T.d_l_measure
  refine ⟨_, fd, ["_law_x", "_law_grain_here"], [], F.ok sc_l_measure (fun vs H Q E h => ?_) (fun cdv A outer s H vs Q E hr h => ?_), T.glo_l_measure, F.kp, F.bindsN (fun _ _ _ _ _ _ us hl => match us, hl with | [_, _], _ => rfl), .nil⟩
  · obtain ⟨o, g, rfl, _⟩ := h
    rfl
  · obtain ⟨o, g, rfl, g1, g2, q⟩ := h
    refine ⟨_, PSs.nox <| pss_one <| ps_ret <| pe_ifExp (pt_cmp (pc_isN (pv 0))) pe_non (C8.pe_mk mk hr (by decide) (by rfl) (pa_cons (pv 0) (pa_cons (pv 1) pa_nil))), ?_⟩
    cases o with
    | none => exact ⟨_, rfl, true, rfl, iteT (q _ _ (Same.refl _) rfl)⟩
    | some x =>
      refine ⟨_, rfl, false, rfl, iteF ⟨_, rfl, _, rfl, fun z dz nz ndz nez => ?_⟩⟩
      refine ⟨z, dz, x, g.toNat, by show _ = [V.ref z, .int x, .int ((g.toNat : Nat) : Int)]; rw [Int.toNat_of_nonneg (by omega)]; rfl, upd_same, by omega, Nat.lt_of_lt_of_le (show g.toNat < 2 ^ 64 by omega) (Nat.pow_le_pow_right (by decide) (by decide)), rfl, ?_⟩
      exact q _ _ (Mv.made (K := K) nz ndz).1 (Mv.made nz ndz).2
theorem lad_made {H H1 : Hp} {z dz M : Addr} {x y : V} {L : Lad} (nz : H z = none) (ndz : H dz = none) (hM : Mks K H M L.marks) (hx : MO K H x L.least) (hy : MO K H y L.most) (e : Same (upd (upd H dz (.own z)) z (.ins (CL K) dz [])) H1) :
    Same H (upd H1 z (.ins (CL K) dz (lF M L.rule.v x y))) ∧ Lv K (upd H1 z (.ins (CL K) dz (lF M L.rule.v x y))) (.ref z) L := by
  have s : Same H (upd H1 z (.ins (CL K) dz (lF M L.rule.v x y))) := fun b o q => by
    rw [upd_ne (ne_of_none q nz)]
    exact ((same2 nz ndz).trans e) b o q
  exact ⟨s, z, dz, M, x, y, rfl, upd_same, hM.up s, hx.up s, hy.up s⟩
theorem ok_made (T : Txt K mg w) (mk : C8.Mak P w K mg base 2 "Measure" (CM K) (spMkM K) []) (ml : MkLad P w K mg base) (c1 : C8.Cal P w K mg base 4 "_law_measure" (spMsr K) []) : C8.Cal P w K mg base 6 "_law_made" (spMade K) [] := by
  obtain ⟨fd, F⟩ := T.d_l_made
  obtain ⟨fdL, O, ⟨dsL, bL, vL⟩, ⟨g1, k1⟩, ⟨g2, k2⟩⟩ := ml.ex
  refine ⟨_, fd, ["_law_ladder", "_law_grain_here"], [], F.ok sc_l_made (fun vs H Q E h => ?_) (fun cdv A outer s H vs Q E hr h => ?_), T.glo_l_made, F.kp, F.bindsN (fun _ _ _ _ _ _ us hl => match us, hl with | [_, _], _ => rfl), .nil⟩
  · obtain ⟨h, v, g, D, rfl, _⟩ := h
    rfl
  · obtain ⟨h, v, g, D, rfl, ⟨t, m, rfl, nt, nm, ht, hm⟩, wf, gg1, gg2, q⟩ := h
    refine ⟨_, PSs.nox <| pss_cons (ps_set (i := 2) sc_l_made.nd rfl (Or.inl rfl) (pe_callTy call_tuple_of (by rfl) T.free_tuple (by decide +kernel)
          (pa_cons (pe_lc (own := [("_law_x", 3)]) (g := gName 3) (tt := tYes) rfl sc_l_made.nd (pi_list (pe_ix ix_tup (pv 0) pe_int (fun _ _ => rfl)))
            (blkOk_by (own := [("_law_x", 3)]) (N := N_l_made) (sc := defScope s_l_made) (by decide +kernel)) (fun _ _ _ _ _ => pg_name (i := 3) sc_l_made.nd rfl (Or.inl rfl)) (fun _ _ _ _ _ => pts_nil)
            (fun _ _ _ _ _ => C8.pe_mk mk hr (by decide) (by rfl) (pa_cons (pv 3) (pa_cons (pv 1) pa_nil)))) pa_nil)))
      <| pss_cons (ps_if (PW.pt <| pw_and (pt_cmp (pc_isN (pe_ix ix_tup (pv 0) pe_int (fun _ _ => rfl)))) <| pw_and1 <| pt_cmp (pc_isN (pe_ix ix_tup (pv 0) pe_int (fun _ _ => rfl))))
          (pss_one <| ps_ret <| pe_ifExp (pt_cmpR op_eq (pe_ix ix_tup (pv 0) pe_int (fun _ _ => rfl)) pe_str (nomark _))
            (pe_make (E := C8.E0) T.mkr_Ladder O (hr.mono (by decide)) (by rfl) T.glo_Ladder bL vL C8.pass0 (pa_cons (pv 2) pa_nil))
            (pe_makeN (E := C8.E0) (n := 1) T.mkr_Ladder O (hr.mono (by decide)) (by rfl) T.glo_Ladder k1 C8.pass0 (pa_cons (pv 2) pa_nil) (pk_cons (pe_ix ix_tup (pv 0) pe_int (fun _ _ => rfl)) pk_nil))) pss_nil)
      <| pss_one <| ps_ret <| pe_makeN (E := C8.E0) (n := 1) T.mkr_Ladder O (hr.mono (by decide)) (by rfl) T.glo_Ladder k2 C8.pass0 (pa_cons (pv 2) pa_nil)
          (pk_cons (C8.pe_c c1 hr (by decide) (by rfl) (pa_cons (pe_ix ix_tup (pv 0) pe_int (fun _ _ => rfl)) (pa_cons (pv 1) pa_nil)))
            (pk_cons (pe_ix ix_tup (pv 0) pe_int (fun _ _ => rfl)) (pk_cons (C8.pe_c c1 hr (by decide) (by rfl) (pa_cons (pe_ix ix_tup (pv 0) pe_int (fun _ _ => rfl)) (pa_cons (pv 1) pa_nil))) pk_nil))), ?_⟩
    refine ⟨_, rfl, t, _, _, _, rfl, rfl, SqT.of ht, at_of (j := 0) rfl rfl, m, rfl, ⟨_, SqL.of hm⟩, fun A1 hA => ?_⟩
    have few := wf.mks.few
    refine lc_list (K := K) (a := m) (xs := D.ms.map V.int) (fun i H' => Same H H' ∧ ∃ acc, H' A1 = some (.lst acc) ∧ Ms K H' acc ((D.ms.take i).map (mq g))) ⟨Same.upd hA, [], upd_same, .nil⟩ (fun i H' _ z => SqL.of (z.1 _ _ hm)) ?_ ?_
    · rintro i y H' hi ⟨e, acc, ha, hq⟩
      have hi2 : i < D.ms.length := by simpa using (List.getElem?_eq_some_iff.mp hi).1
      rw [getn hi2] at hi
      cases hi
      refine ⟨rfl, yes_in ?_⟩
      refine ⟨_, rfl, _, rfl, fun z dz nz ndz nez => ?_⟩
      refine ⟨z, dz, D.ms[i], g.toNat, by show _ = [V.ref z, .int _, .int ((g.toNat : Nat) : Int)]; rw [Int.toNat_of_nonneg (by omega)]; rfl, upd_same, by omega, Nat.lt_of_lt_of_le (show g.toNat < 2 ^ 64 by omega) (Nat.pow_le_pow_right (by decide) (by decide)), rfl, ?_⟩
      have e2 := (Mv.made (K := K) (q := mkRat D.ms[i] g.toNat) nz ndz).1
      have m2 := (Mv.made (K := K) (q := mkRat D.ms[i] g.toNat) nz ndz).2
      have la := ms_len hq
      refine ⟨acc, e2 _ _ ha, ?_, ?_, _, upd_same, ?_⟩
      · rw [la, List.length_map, List.length_take]
        exact small1000 (by omega)
      · exact SameX.same hA (e.trans e2) SameX.upd
      · have tk : (D.ms.take (i + 1)).map (mq g) = (D.ms.take i).map (mq g) ++ [mq g D.ms[i]] := by
          rw [List.take_succ, List.getElem?_eq_getElem hi2, List.map_append]
          rfl
        rw [tk]
        exact paired_append ((hq.up e2).upx (e2 _ _ ha) SameX.upd) (.cons (m2.upx (e2 _ _ ha) SameX.upd) .nil)
    · rintro H1 ⟨e, acc, ha, hq⟩
      have hq : Ms K H1 acc ((D.ms.take (D.ms.map V.int).length).map (mq g)) := hq
      rw [List.length_map, List.take_length] at hq
      refine ⟨A1, acc, rfl, .inl ⟨SqL.of ha, fun M hM => ?_⟩⟩
      have e1 : Same H1 (upd H1 M (.tup acc)) := Same.upd hM
      have mks : Mks K (upd H1 M (.tup acc)) M (D.lad g).marks := ⟨acc, upd_same, hq.up e1⟩
      have e2 := e.trans e1
      have ht2 := e2 _ _ ht
      generalize upd H1 M (.tup acc) = H2 at mks e2 ht2
      have ok : (D.lad g).Ok := LL.ok wf gg1
      have bd : (D.lad g).Bnd := LL.bnd wf (by decide) gg1 gg2
      have fin : ∀ (H3 : Hp) (x y : V), Same H H3 → Mks K H3 M (D.lad g).marks → MO K H3 x (D.lad g).least → MO K H3 y (D.lad g).most → ∀ z dz, H3 z = none → H3 dz = none →
          spMkL K [.ref z, .ref M, D.r.v, x, y] (upd (upd H3 dz (.own z)) z (.ins (CL K) dz [])) (fun v H4 => v = .non ∧ Q (.ref z) H4) C8.E0 := fun H3 x y e3 mk3 hx hy z dz nz ndz => by
        have s2 := same2 (o := .ins (CL K) dz []) nz ndz
        refine ⟨z, dz, M, x, y, D.lad g, rfl, upd_same, mk3.up s2, hx.up s2, hy.up s2, ok, bd, fun H4 e4 => ⟨rfl, ?_⟩⟩
        obtain ⟨z1, z2⟩ := lad_made nz ndz mk3 hx hy e4
        exact q _ _ (e3.trans z1) z2
      clear hq ha e hm wf few
      have rest : ∀ (fl ro : Option Int), D.fl = fl → D.ro = ro → H2 t = some (.tup [.ref m, D.r.v, iV fl, iV ro]) → (fl = none → ro = none → False) →
          (tMakeN (CL K) 1 3 (spMkL K) (fun vs zs => vs ++ ((zs.drop 1).take 1 ++ (zs.drop 2 ++ zs.take 1))) C8.E0 (tCons (tVar 2) tNil)
            (tCons (tCall (spMsr K) [] C8.E0 (tCons (tOp (rIxT K) (tVar 0) (tC (.int 3))) (tCons (tVar 1) tNil))) (tCons (tOp (rIxT K) (tVar 0) (tC (.int 1))) (tCons (tCall (spMsr K) [] C8.E0 (tCons (tOp (rIxT K) (tVar 0) (tC (.int 2))) (tCons (tVar 1) tNil))) tNil))))
            [some (V.ref t), some (.int g), some (.ref M), none] H2 Q := fun fl ro e1 e2' ht3 _ => by
        refine ⟨_, rfl, _, rfl, t, _, _, _, rfl, rfl, SqT.of ht3, at_of (j := 3) rfl rfl, _, rfl, ro, g, rfl, gg1, gg2, fun v3 H3 e3 m3 => ?_⟩
        refine ⟨_, rfl, t, _, _, _, rfl, rfl, SqT.of (e3 _ _ ht3), at_of (j := 1) rfl rfl, _, rfl, t, _, _, _, rfl, rfl, SqT.of (e3 _ _ ht3), at_of (j := 2) rfl rfl, _, rfl, fl, g, rfl, gg1, gg2, fun v4 H4 e4 m4 => ?_⟩
        refine ⟨rfl, rfl, fun z dz nz ndz nez => ?_⟩
        exact fin H4 v4 v3 ((e2.trans e3).trans e4) ((mks.up e3).up e4) (by show MO K H4 v4 (D.fl.map (mq g)); rw [e1]; exact m4) (by show MO K H4 v3 (D.ro.map (mq g)); rw [e2']; exact m3.up e4) z dz nz ndz
      refine ⟨_, rfl, t, _, _, _, rfl, rfl, SqT.of ht2, at_of (j := 2) rfl rfl, _, rfl, ?_⟩
      cases e1 : D.fl with
      | some f =>
        rw [e1] at ht2
        exact iteF (iteF (rest _ _ e1 rfl ht2 (fun z => nomatch z)))
      | none =>
        rw [e1] at ht2
        refine iteT ⟨_, rfl, t, _, _, _, rfl, rfl, SqT.of ht2, at_of (j := 3) rfl rfl, _, rfl, ?_⟩
        cases e3 : D.ro with
        | some f =>
          rw [e3] at ht2
          exact iteF (rest _ _ e1 e3 ht2 (fun _ z => nomatch z))
        | none =>
          rw [e3] at ht2
          refine iteT ⟨_, rfl, t, _, _, _, rfl, rfl, SqT.of ht2, at_of (j := 1) rfl rfl, rfl, _, rfl, ?_⟩
          have l1 : MO K H2 .non (D.lad g).least := by show MO K H2 .non (D.fl.map (mq g)); rw [e1]; rfl
          have l2 : MO K H2 .non (D.lad g).most := by show MO K H2 .non (D.ro.map (mq g)); rw [e3]; rfl
          have fin2 := fin H2 .non .non e2 mks l1 l2
          cases er : D.r with
          | up =>
            rw [er] at fin2
            exact iteT ⟨_, rfl, fun z dz nz ndz nez => fin2 z dz nz ndz⟩
          | down =>
            rw [er] at fin2 ht2
            exact iteF ⟨_, rfl, _, rfl, t, _, _, _, rfl, rfl, SqT.of ht2, at_of (j := 1) rfl rfl, rfl, rfl, fun z dz nz ndz nez => fin2 z dz nz ndz⟩
          | near =>
            rw [er] at fin2 ht2
            exact iteF ⟨_, rfl, _, rfl, t, _, _, _, rfl, rfl, SqT.of ht2, at_of (j := 1) rfl rfl, rfl, rfl, fun z dz nz ndz nez => fin2 z dz nz ndz⟩
end
end Sz

/-! The law's own defs, the fifth part: points where sizes may end; a span. -/
namespace Sz
open PySem PySem.Spec PyProof.Rows L2 SzR
/-- whole numbers at l, that lie between bounds -/
def IntsB (B : Int) (H : Hp) (l : Addr) (n : Nat) : Prop := ∃ ns : List Int, H l = some (.lst (ns.map V.int)) ∧ ns.length ≤ n ∧ ∀ x ∈ ns, -B ≤ x ∧ x ≤ B
theorem cut_tail {xs : List V} : cutV xs (some 1) none = xs.drop 1 := by
  unfold cutV
  rw [HT.sIx_none, show HT.sIx xs.length 0 (some 1) = min 1 xs.length from HT.sIx_nat xs.length 0 1]
  rcases Nat.eq_zero_or_pos xs.length with h | h
  · have : xs = [] := List.eq_nil_of_length_eq_zero h
    rw [this]
    rfl
  · rw [show min 1 xs.length = 1 by omega, ← List.length_drop, List.take_length]
section
variable {P : Program} {w : World} {K : PySem.W.Frag} {mg : Str → Option Value} {base : Heap}
theorem ok_l_points (T : Txt K mg w) : C8.Cal P w K mg base 1 "_law_points" spLPts [] := by
  obtain ⟨fd, F⟩ := T.d_l_points
  refine ⟨_, fd, ["_law_ladder"], [], F.ok sc_l_points (fun vs H Q E h => ?_) (fun cdv A outer s H vs Q E hr h => ?_), T.glo_l_points, F.kp, F.bindsN (fun _ _ _ _ _ _ us hl => match us, hl with | [_], _ => rfl), .nil⟩
  · obtain ⟨h, v, D, rfl, _⟩ := h
    rfl
  · obtain ⟨h, v, D, rfl, ⟨t, m, rfl, nt, nm, ht, hm⟩, wf, q⟩ := h
    refine ⟨_, PSs.nox <| pss_cons (ps_asg (pv 0) (pg_tup rfl (pgs_cons (pg_name (i := 1) sc_l_points.nd rfl (Or.inl rfl)) (pgs_cons (pg_name (i := 2) sc_l_points.nd rfl (Or.inl rfl)) (pgs_cons (pg_name (i := 3) sc_l_points.nd rfl (Or.inl rfl)) (pgs_cons (pg_name (i := 4) sc_l_points.nd rfl (Or.inl rfl)) pgs_nil))))))
      <| pss_cons (ps_set (i := 5) sc_l_points.nd rfl (Or.inl rfl) (pe_op op_cat
          (pe_lc (own := [("_law_a", 6), ("_law_b", 7)]) (g := gTup K 2 (gCons (gName 6) (gCons (gName 7) gNil))) (tt := tYes) rfl sc_l_points.nd (pi_zip (by rfl) T.free_zip (pa_cons (pv 1) (pa_cons (pe_slice sl_list (pv 1) (po_some pe_int) po_none) pa_nil)))
            (blkOk_by (own := [("_law_a", 6), ("_law_b", 7)]) (N := N_l_points) (sc := defScope s_l_points) (by decide +kernel))
            (fun _ _ _ _ _ => by
              refine pg_tup (n := 2) rfl (pgs_cons ?_ (pgs_cons ?_ pgs_nil))
              · exact pg_name (i := 6) sc_l_points.nd rfl (Or.inl rfl)
              · exact pg_name (i := 7) sc_l_points.nd rfl (Or.inl rfl)) (fun _ _ _ _ _ => pts_nil)
            (fun _ _ _ _ _ => pe_op op_fdiv (pe_op op_add (pv 6) (pv 7)) pe_int)) (pv 1)))
      <| pss_one <| ps_ret <| pe_op op_cat (pv 5) (pe_lc (own := [("_law_x", 8)]) (g := gName 8) (tt := tB (tNotN (tVar 8))) rfl sc_l_points.nd (pi_tup (pe_tup (pa_cons (pv 3) (pa_cons (pv 4) pa_nil))))
          (blkOk_by (own := [("_law_x", 8)]) (N := N_l_points) (sc := defScope s_l_points) (by decide +kernel)) (fun _ _ _ _ _ => pg_name (i := 8) sc_l_points.nd rfl (Or.inl rfl)) (fun _ _ _ _ _ => pts_one (pt_cmp (pc_notN (pv 8)))) (fun _ _ _ _ _ => pv 8)), ?_⟩
    have few := wf.mks.few
    refine ⟨_, rfl, t, _, rfl, SqT.of ht, rfl, _, _, rfl, _, _, rfl, _, _, rfl, _, _, rfl, rfl, ?_⟩
    refine ⟨_, rfl, _, rfl, 1, rfl, m, _, rfl, SqL.of hm, fun S hS => ?_⟩
    have eS : Same H (upd H S (.lst (cutV (D.ms.map V.int) (some 1) none))) := Same.upd hS
    refine ⟨m, S, _, _, rfl, SqL.of (eS _ _ hm), SqL.of upd_same, fun A1 hA => ?_⟩
    have hS1 : upd H S (.lst (cutV (D.ms.map V.int) (some 1) none)) S = some (.lst ((D.ms.drop 1).map V.int)) := by
      rw [upd_same, cut_tail, List.map_drop]
    have n1 : H A1 = none := Same.free eS hA
    refine lc_zip (K := K) (a := m) (b := S) (xs := D.ms.map V.int) (ys := cutV (D.ms.map V.int) (some 1) none) (fun i H' => Same (upd H S (.lst (cutV (D.ms.map V.int) (some 1) none))) H' ∧ ∃ ns : List Int, H' A1 = some (.lst (ns.map V.int)) ∧ ns.length ≤ i ∧ ns.length ≤ 24 ∧ ∀ x ∈ ns, -50000 ≤ x ∧ x ≤ 50000)
      ⟨Same.upd hA, [], upd_same, by simp, by simp, by simp⟩ (fun i H' z => ⟨SqL.of (z.1 _ _ (eS _ _ hm)), SqL.of (z.1 _ _ upd_same)⟩) ?_ ?_
    · rintro i x y N H' hx hy ⟨e, ns, ha, l1, l2, hb⟩ hN
      rw [cut_tail] at hy
      rw [List.getElem?_map] at hx
      rw [← List.map_drop, List.getElem?_map] at hy
      obtain ⟨x, hx2, rfl⟩ := Option.map_eq_some_iff.mp hx
      obtain ⟨y, hy2, rfl⟩ := Option.map_eq_some_iff.mp hy
      have bx := wf.mks.bd x (List.mem_of_getElem? hx2)
      have by' := wf.mks.bd y (List.mem_of_mem_drop (List.mem_of_getElem? hy2))
      have li := (List.getElem?_eq_some_iff.mp hx2).1
      refine ⟨N, _, rfl, SqT.of upd_same, rfl, _, _, rfl, _, _, rfl, rfl, rfl, yes_in ?_⟩
      refine ⟨_, rfl, _, rfl, _, _, rfl, rfl, _, _, rfl, rfl, ⟨by decide, by decide⟩, ?_⟩
      have eN : Same H' (upd H' N (.tup [.int x, .int y])) := Same.upd hN
      refine ⟨_, eN _ _ ha, ?_, ?_, ns ++ [(x + y) / 2], ?_, ?_, ?_, ?_⟩
      · rw [List.length_map]
        exact small1000 (by omega)
      · exact SameX.same hA (e.trans eN) SameX.upd
      · rw [upd_same, List.map_append]
        rfl
      · rw [List.length_append]
        simp only [List.length_singleton]
        omega
      · rw [List.length_append]
        simp only [List.length_singleton]
        omega
      · intro z hz
        rcases List.mem_append.mp hz with g | g
        · exact hb z g
        · have : z = (x + y) / 2 := by simpa using g
          omega
    · rintro i H' ⟨e, ns, ha, l1, l2, hb⟩
      refine ⟨_, rfl, A1, m, _, _, rfl, rfl, ha, e _ _ (eS _ _ hm), ?_, fun B hB => ?_⟩
      · rw [List.length_map, List.length_map]
        exact Nat.le_of_lt (small1000 (by omega))
      · have eB : Same H' (upd H' B (.lst (ns.map V.int ++ D.ms.map V.int))) := Same.upd hB
        have hB1 : upd H' B (.lst (ns.map V.int ++ D.ms.map V.int)) B = some (.lst ((ns ++ D.ms).map V.int)) := by rw [upd_same, List.map_append]
        have eH : Same H (upd H' B (.lst (ns.map V.int ++ D.ms.map V.int))) := (eS.trans e).trans eB
        generalize upd H' B (.lst (ns.map V.int ++ D.ms.map V.int)) = H2 at hB1 eH
        refine ⟨_, rfl, _, rfl, _, rfl, (by show 2 ≤ sizeLine; decide), fun t2 ht2 => ?_⟩
        have et : Same H2 (upd H2 t2 (.tup [iV D.fl, iV D.ro])) := Same.upd ht2
        refine ⟨t2, rfl, ⟨_, SqT.of upd_same⟩, fun D2 hD2 => ?_⟩
        have nb : B ≠ D2 := ne_of_none (et _ _ hB1) hD2
        have n2 : H2 D2 = none := Same.free et hD2
        refine lc_tup (K := K) (a := t2) (xs := [iV D.fl, iV D.ro]) (fun j H' => Same H2 H' ∧ H' t2 = some (.tup [iV D.fl, iV D.ro]) ∧ ∃ xs : List Int, H' D2 = some (.lst (xs.map V.int)) ∧ xs.length ≤ j ∧ ∀ x ∈ xs, -50000 ≤ x ∧ x ≤ 50000)
          ⟨et.trans (Same.upd hD2), Same.upd hD2 _ _ upd_same, [], upd_same, by simp, by simp⟩ (fun j H' _ z => SqT.of z.2.1) ?_ ?_
        · rintro j y H' hj ⟨e4, h4, xs, hxs, lx, bx⟩
          have hj2 : j < 2 := (List.getElem?_eq_some_iff.mp hj).1
          have hy : y = .non ∨ ∃ x : Int, y = .int x ∧ -50000 ≤ x ∧ x ≤ 50000 := by
            have one : ∀ o : Option Int, (∀ x, o = some x → -50000 ≤ x ∧ x ≤ 50000) → iV o = .non ∨ ∃ x : Int, iV o = .int x ∧ -50000 ≤ x ∧ x ≤ 50000 := fun o ho => by
              cases o with
              | none => exact .inl rfl
              | some x => exact .inr ⟨x, rfl, ho x rfl⟩
            match j, hj with
            | 0, hj =>
              cases hj
              exact one _ wf.fl
            | 1, hj =>
              cases hj
              exact one _ wf.ro
            | j + 2, hj => simp at hj
          refine ⟨rfl, _, rfl, _, rfl, ?_⟩
          rcases hy with rfl | ⟨x, rfl, x1, x2⟩
          · exact iteF ⟨e4, h4, xs, hxs, by omega, bx⟩
          · refine iteT ⟨_, rfl, _, hxs, ?_, ?_, ?_, xs ++ [x], ?_, ?_, ?_⟩
            · rw [List.length_map]
              exact small1000 (by omega)
            · exact SameX.same n2 e4 SameX.upd
            · rw [upd_ne (ne_of_none upd_same hD2)]
              exact h4
            · rw [upd_same, List.map_append]
              rfl
            · rw [List.length_append]
              simp only [List.length_singleton]
              omega
            · intro z hz
              rcases List.mem_append.mp hz with g | g
              · exact bx z g
              · have : z = x := by simpa using g
                omega
        · rintro H3 ⟨e4, h4, xs, hxs, lx, bx⟩
          have lx : xs.length ≤ 2 := lx
          refine ⟨B, D2, _, _, rfl, rfl, e4 _ _ hB1, hxs, ?_, fun R hR => ?_⟩
          · rw [List.length_map, List.length_map, List.length_append]
            exact Nat.le_of_lt (small1000 (by omega))
          · refine q R ((ns ++ D.ms) ++ xs) _ ((eH.trans e4).trans (Same.upd hR)) (Same.free (eH.trans e4) hR) (by rw [upd_same]; simp only [List.map_append]) ?_ ?_ ?_
            · rw [List.length_append, List.length_append]
              omega
            · rw [List.length_append, List.length_append]
              omega
            · intro z hz
              rcases List.mem_append.mp hz with g | g
              · rcases List.mem_append.mp g with g | g
                · exact hb z g
                · exact wf.mks.bd z g
              · exact bx z g
end
end Sz

/-! The law's own defs, the sixth part: a span; marks moved, in plain Lean. -/
namespace Sz
open PySem PySem.Spec PyProof.Rows L2 SzR
theorem tand_val {tA tB : TT} {σ : L2.St} {H : Hp} {a b : Bool} {Q : Bool → Hp → Prop} (hA : ∀ Q' : Bool → Hp → Prop, Q' a H → tA σ H Q') (hB : ∀ Q' : Bool → Hp → Prop, Q' b H → tB σ H Q') (h : Q (a && b) H) : tAnd tA tB σ H Q :=
  hA _ (by
    cases a
    · exact h
    · exact hB _ h)
theorem cut_head {xs : List V} {k : Nat} : cutV xs none (some (k : Int)) = xs.take k := by
  unfold cutV
  rw [HT.sIx_none, HT.sIx_nat]
  rcases Nat.le_total k xs.length with h | h
  · rw [show min k xs.length - 0 = k by omega]
    rfl
  · rw [show min k xs.length - 0 = xs.length by omega, List.take_of_length_le (show xs.length ≤ k from h)]
    exact List.take_length
theorem cut_from {xs : List V} {k : Nat} : cutV xs (some (k : Int)) none = xs.drop k := by
  unfold cutV
  rw [HT.sIx_none, HT.sIx_nat]
  rcases Nat.le_total k xs.length with h | h
  · rw [show min k xs.length = k by omega, ← List.length_drop, List.take_length]
  · rw [show min k xs.length = xs.length by omega, List.drop_length, List.drop_of_length_le h]
    exact List.take_nil
theorem LMarks.lt {B : Int} {ms : List Int} (h : LMarks B ms) {i j : Nat} (hi : i < ms.length) (hj : j < ms.length) (ij : i < j) : ms[i] + 4 ≤ ms[j] :=
  List.pairwise_iff_getElem.mp h.rise i j hi hj ij
theorem LMarks.front {B x : Int} {ms : List Int} (h : LMarks B ms) (few : ms.length < 24) (p : 0 < ms.length) (hx : x + 4 ≤ ms[0]) (b : -40000 ≤ x) (hB : B ≤ 40000) : LMarks 40000 ([x] ++ ms) := by
  refine ⟨by simp; omega, ?_, fun y hy => ?_⟩
  · show (x :: ms).Pairwise _
    refine List.pairwise_cons.mpr ⟨fun y hy => ?_, h.rise⟩
    obtain ⟨i, hi, rfl⟩ := List.getElem_of_mem hy
    rcases Nat.eq_zero_or_pos i with z | z
    · subst z
      exact hx
    · have := h.lt p hi z
      omega
  · rcases List.mem_append.mp hy with g | g
    · have : y = x := by simpa using g
      have := h.bd _ (List.getElem_mem p)
      omega
    · have := h.bd y g
      omega
theorem LMarks.back {B x z : Int} {k0 : List Int} (h : LMarks B (k0 ++ [z])) (few : (k0 ++ [z]).length < 24) (hx : z + 4 ≤ x) (b : x ≤ 40000) (hB : B ≤ 40000) : LMarks 40000 ((k0 ++ [z]) ++ [x]) := by
  refine ⟨by simp at few ⊢; omega, pw_snoc h.rise hx, fun y hy => ?_⟩
  rcases List.mem_append.mp hy with g | g
  · have := h.bd y g
    omega
  · have : y = x := by simpa using g
    have := h.bd z (by simp)
    omega
theorem LMarks.less {B : Int} {ms : List Int} (h : LMarks B ms) (two : 1 < ms.length) (hB : B ≤ 40000) (k : Nat) : LMarks 40000 (ms.take k ++ ms.drop (k + 1)) := by
  rw [← List.eraseIdx_eq_take_drop_succ]
  have s := List.eraseIdx_sublist ms k
  have l := s.length_le
  have l2 : ms.length ≤ (ms.eraseIdx k).length + 1 := by
    rw [List.length_eraseIdx]
    split <;> omega
  have := h.few
  refine ⟨by omega, h.rise.sublist s, fun y hy => ?_⟩
  have := h.bd y (s.subset hy)
  omega
theorem LMarks.moved {B y : Int} {ms : List Int} (h : LMarks B ms) {k : Nat} (hk : k < ms.length) (hB : B ≤ 40000) (h1 : y ≤ ms[k]) (h2 : ∀ j (hj : j < ms.length), j < k → ms[j] + 4 ≤ y) (b : -40000 ≤ y) :
    LMarks 40000 (ms.take k ++ [y] ++ ms.drop (k + 1)) := by
  have few := h.few
  have lt : (ms.take k).length = k := by rw [List.length_take]; omega
  refine ⟨?_, ?_, fun z hz => ?_⟩
  · rw [List.length_append, List.length_append, List.length_drop, lt]
    simp only [List.length_singleton]
    omega
  · rw [List.append_assoc]
    refine List.pairwise_append.mpr ⟨h.rise.sublist (List.take_sublist _ _), ?_, ?_⟩
    · show (y :: ms.drop (k + 1)).Pairwise _
      refine List.pairwise_cons.mpr ⟨fun z hz => ?_, h.rise.sublist (List.drop_sublist _ _)⟩
      obtain ⟨i, hi, rfl⟩ := List.mem_drop_iff_getElem.mp hz
      have := h.lt hk (by omega : k + 1 + i < ms.length) (by omega)
      omega
    · intro a ha z hz
      obtain ⟨i, hi, rfl⟩ := List.mem_take_iff_getElem.mp ha
      have hi' : i < k ∧ i < ms.length := by omega
      rcases List.mem_cons.mp (show z ∈ y :: ms.drop (k + 1) from hz) with g | g
      · rw [g]
        exact h2 i hi'.2 hi'.1
      · obtain ⟨j, hj, rfl⟩ := List.mem_drop_iff_getElem.mp g
        exact h.lt hi'.2 (by omega : k + 1 + j < ms.length) (by omega)
  · rcases List.mem_append.mp hz with g | g
    · rcases List.mem_append.mp g with g | g
      · have := h.bd z (List.mem_of_mem_take g)
        omega
      · have : z = y := by simpa using g
        have := h.bd _ (List.getElem_mem hk)
        omega
    · have := h.bd z (List.mem_of_mem_drop g)
      omega
def SpanAt (h : Addr) (H : Hp) (v : V) (lo hi : Int) : Prop := ∃ t, v = .ref t ∧ t ≠ h ∧ H t = some (.tup [.int lo, .int hi])
def spSpan : Sp := fun vs H Q _ => ∃ h v1 v2 c D1 D2, vs = [.ref h, v1, v2] ∧ HandAt H h c ∧ c ≤ 500000 ∧ LD h H v1 D1 ∧ LD h H v2 D2 ∧ D1.WF 50000 ∧ D2.WF 50000 ∧
  ∀ v lo hi H', SameX h H H' → HandAt H' h (c + 10) → SpanAt h H' v lo hi → lo ≤ hi → -60000 ≤ lo → hi ≤ 60000 → Q v H'
section
variable {P : Program} {w : World} {K : PySem.W.Frag} {mg : Str → Option Value} {base : Heap}
theorem ok_span (T : Txt K mg w) (c1 : C8.Cal P w K mg base 1 "_law_take" spTake []) (c2 : C8.Cal P w K mg base 2 "_law_pick" spPick []) (c3 : C8.Cal P w K mg base 1 "_law_points" spLPts []) : C8.Cal P w K mg base 3 "_law_span" spSpan [] := by
  obtain ⟨fd, F⟩ := T.d_l_span
  refine ⟨_, fd, ["_law_hand", "_law_left", "_law_right_here"], [], F.ok sc_l_span (fun vs H Q E h => ?_) (fun cdv A outer s H vs Q E hr h => ?_), T.glo_l_span, F.kp, F.bindsN (fun _ _ _ _ _ _ us hl => match us, hl with | [_, _, _], _ => rfl), .nil⟩
  · obtain ⟨h, v1, v2, c, D1, D2, rfl, _⟩ := h
    rfl
  · obtain ⟨h, v1, v2, c, D1, D2, rfl, hh, hc, h1, h2, wf1, wf2, q⟩ := h
    refine ⟨_, PSs.nox <| pss_cons (ps_set (i := 3) sc_l_span.nd rfl (Or.inr rfl) (pe_op op_cat (C8.pe_c c3 hr (by decide) (by rfl) (pa_cons (pv 1) pa_nil)) (C8.pe_c c3 hr (by decide) (by rfl) (pa_cons (pv 2) pa_nil))))
      <| pss_cons (ps_setLc (i := 4) (own := [("_law_turn", 5)]) (g := gName 5) (tt := tYes) rfl sc_l_span.nd rfl rfl rfl (pi_range1 (by rfl) T.free_range (pa_cons pe_int pa_nil))
          (blkOk_by (own := [("_law_turn", 5)]) (N := N_l_span) (sc := defScope s_l_span) (by decide +kernel)) (fun _ _ _ _ _ => pg_name (i := 5) sc_l_span.nd rfl (Or.inl rfl)) (fun _ _ _ _ _ => pts_nil)
          (fun _ _ _ _ _ => pe_op op_add (C8.pe_c c2 hr (by decide) (by rfl) (pa_cons (pv 0) (pa_cons (pv 3) pa_nil))) (pe_op op_mul pe_int (pe_op op_sub (C8.pe_c c1 hr (by decide) (by rfl) (pa_cons (pv 0) (pa_cons pe_int pa_nil))) pe_int))))
      <| pss_cons (ps_if (pt_cmpR op_eq (C8.pe_c c1 hr (by decide) (by rfl) (pa_cons (pv 0) (pa_cons pe_int pa_nil))) pe_int (nomark _))
          (pss_one <| ps_set (i := 4) sc_l_span.nd rfl (Or.inl rfl) (pe_lst (pa_cons (pe_op op_sub (pe_callB (cr_min rfl) (by rfl) T.free_min (by decide +kernel) (pa_cons (pv 3) pa_nil)) (pe_op op_mul pe_int (C8.pe_c c1 hr (by decide) (by rfl) (pa_cons (pv 0) (pa_cons pe_int pa_nil)))))
            (pa_cons (pe_op op_add (pe_callB (cr_max rfl) (by rfl) T.free_max (by decide +kernel) (pa_cons (pv 3) pa_nil)) (pe_op op_mul pe_int (C8.pe_c c1 hr (by decide) (by rfl) (pa_cons (pv 0) (pa_cons pe_int pa_nil))))) pa_nil)))) pss_nil)
      <| pss_one <| ps_ret <| pe_tup <| pa_cons (pe_callB (cr_min rfl) (by rfl) T.free_min (by decide +kernel) (pa_cons (pv 4) pa_nil)) <| pa_cons (pe_callB (cr_max rfl) (by rfl) T.free_max (by decide +kernel) (pa_cons (pv 4) pa_nil)) pa_nil, ?_⟩
    refine ⟨_, rfl, h, v1, D1, rfl, h1, wf1, fun l1 n1 H1 e1 f1 hl1 n1a n1b n1c => ?_⟩
    refine ⟨_, rfl, h, v2, D2, rfl, h2.upx (SameX.of e1), wf2, fun l2 n2 H2 e2 f2 hl2 n2a n2b n2c => ?_⟩
    refine ⟨l1, l2, _, _, rfl, rfl, e2 _ _ hl1, hl2, ?_, fun L hL => ?_⟩
    · rw [List.length_map, List.length_map]
      exact Nat.le_of_lt (small1000 (by omega))
    obtain ⟨ns, ens⟩ : ∃ ns, ns = n1 ++ n2 := ⟨_, rfl⟩
    have eL : Same H2 (upd H2 L (.lst (n1.map V.int ++ n2.map V.int))) := Same.upd hL
    have hLv : upd H2 L (.lst (n1.map V.int ++ n2.map V.int)) L = some (.lst (ns.map V.int)) := by rw [upd_same, ens, List.map_append]
    have eH : Same H (upd H2 L (.lst (n1.map V.int ++ n2.map V.int))) := (e1.trans e2).trans eL
    have hh2 : HandAt (upd H2 L (.lst (n1.map V.int ++ n2.map V.int))) h c := hh.up eH
    have nL : L ≠ h := (hh.up (e1.trans e2)).nn hL
    generalize upd H2 L (.lst (n1.map V.int ++ n2.map V.int)) = H3 at hLv eH hh2
    have lns : 1 ≤ ns.length ∧ ns.length ≤ 200 := by rw [ens, List.length_append]; omega
    have bns : ∀ x ∈ ns, -50000 ≤ x ∧ x ≤ 50000 := fun x hx => by
      rw [ens] at hx
      rcases List.mem_append.mp hx with g | g
      · exact n1c x g
      · exact n2c x g
    refine ⟨_, rfl, by decide, by decide, fun D hD => ?_⟩
    have nD : D ≠ h := hh2.nn hD
    have nLD : L ≠ D := ne_of_none hLv hD
    refine lc_range (lo := 0) (n := (2 : Int).toNat) (fun i H' => SameX h H3 H' ∧ HandAt H' h (c + 2 * (i : Int)) ∧ ∃ xs : List Int, H' D = some (.lst (xs.map V.int)) ∧ xs.length = i ∧ ∀ x ∈ xs, -60000 ≤ x ∧ x ≤ 60000)
      ⟨SameX.of (Same.upd hD), (hh2.up (Same.upd hD)).mono (by omega), [], upd_same, rfl, by simp⟩ ?_ ?_
    · rintro i H' hi ⟨x, hk, xs, hxs, lx, bx⟩
      have hi : i < 2 := hi
      refine ⟨rfl, yes_in ?_⟩
      refine ⟨_, rfl, _, rfl, h, L, _, _, rfl, hk, by omega, nL, x _ _ nL hLv, by rw [List.length_map]; omega, by rw [List.length_map]; omega, fun v H4 hv x4 hk4 => ?_⟩
      obtain ⟨p, hp, rfl⟩ := List.mem_map.mp hv
      refine ⟨_, rfl, h, 5, _, rfl, hk4, by omega, by omega, by omega, fun d H5 d1 d2 x5 hk5 => ?_⟩
      refine ⟨_, _, rfl, rfl, _, _, rfl, rfl, .inl ⟨by decide, by decide⟩, _, _, rfl, rfl, xs.map V.int, x5 _ _ nD (x4 _ _ nD hxs), ?_, ?_, ?_, xs ++ [p + 2 * (d - 2)], ?_, ?_, ?_⟩
      · rw [List.length_map]
        exact small1000 (by omega)
      · intro b o nb eb
        rw [upd_ne (ne_of_none eb hD)]
        exact x5 _ _ nb (x4 _ _ nb (x _ _ nb eb))
      · obtain ⟨a', b', n', g1, g2, g3, g4, g5, g6⟩ := hk5
        exact ⟨a', b', n', by rw [upd_ne (Ne.symm nD)]; exact g1, g2, g3, g4, g5, by omega⟩
      · rw [upd_same, List.map_append]
        rfl
      · simp [lx]
      · intro z hz
        rcases List.mem_append.mp hz with g | g
        · exact bx z g
        · have : z = p + 2 * (d - 2) := by simpa using g
          have := bns p hp
          omega
    · rintro H' ⟨x, hk, xs, hxs, lx, bx⟩
      have lx : xs.length = 2 := lx
      have fin : ∀ (S : Addr) (xs : List Int) (H5 : Hp), S ≠ h → H5 S = some (.lst (xs.map V.int)) → 1 ≤ xs.length → (∀ x ∈ xs, -60000 ≤ x ∧ x ≤ 60000) → SameX h H3 H5 → HandAt H5 h (c + 10) →
          ∀ m, m ∈ xs → (∀ y, y ∈ xs → m ≤ y) → ∀ m', m' ∈ xs → (∀ y, y ∈ xs → y ≤ m') → ∀ p, H5 p = none → Q (.ref p) (upd H5 p (.tup [.int m, .int m'])) := fun S xs H5 nS hS l1 bx x5 hk5 m hm hm2 m' hm' hm2' p hp => by
        have b1 := bx m hm
        have b2 := bx m' hm'
        refine q (.ref p) m m' _ (((SameX.of eH).trans x5).trans (SameX.of (Same.upd hp))) (hk5.up (Same.upd hp)) ⟨p, rfl, hk5.nn hp, upd_same⟩ (hm2 m' hm') b1.1 b2.2
      refine ⟨_, rfl, h, 3, _, rfl, hk, by omega, by omega, by omega, fun d H5 d1 d2 x5 hk5 => ?_⟩
      refine ⟨rfl, _, rfl, ?_⟩
      by_cases c0 : d = 0
      · rw [decide_eq_true (congrArg V.int c0)]
        have hL5 := x5 _ _ nL (x _ _ nL hLv)
        refine iteT ⟨_, rfl, L, ns, rfl, SqL.of hL5, by omega, fun mn hmn hmn2 => ?_⟩
        refine ⟨_, rfl, h, 20, _, rfl, hk5, by omega, by omega, by omega, fun a H6 a1 a2 x6 hk6 => ?_⟩
        refine ⟨_, _, rfl, rfl, .inl ⟨by decide, by decide⟩, _, _, rfl, rfl, _, rfl, L, ns, rfl, SqL.of (x6 _ _ nL hL5), by omega, fun mx hmx hmx2 => ?_⟩
        refine ⟨_, rfl, h, 20, _, rfl, hk6, by omega, by omega, by omega, fun b H7 b1 b2 x7 hk7 => ?_⟩
        refine ⟨_, _, rfl, rfl, .inl ⟨by decide, by decide⟩, _, _, rfl, rfl, by show 2 ≤ sizeLine; decide, fun S hS => ?_⟩
        have eS : Same H7 (upd H7 S (.lst [.int (mn - 2 * a), .int (mx + 2 * b)])) := Same.upd hS
        have hSv : upd H7 S (.lst [.int (mn - 2 * a), .int (mx + 2 * b)]) S = some (.lst (([mn - 2 * a, mx + 2 * b] : List Int).map V.int)) := upd_same
        have k1 := bns mn hmn
        have k2 := bns mx hmx
        have bb : ∀ x ∈ ([mn - 2 * a, mx + 2 * b] : List Int), -60000 ≤ x ∧ x ≤ 60000 := fun x hx => by
          have : x = mn - 2 * a ∨ x = mx + 2 * b := by simpa using hx
          omega
        have hk8 := (hk7.up eS).mono (show c + 2 * ((2 : Int).toNat : Int) + 1 + 1 + 1 ≤ c + 10 by omega)
        have x8 : SameX h H3 (upd H7 S (.lst [.int (mn - 2 * a), .int (mx + 2 * b)])) := (((x.trans x5).trans x6).trans x7).trans (SameX.of eS)
        refine ⟨_, rfl, S, _, rfl, SqL.of hSv, by simp, fun m hm hm2 => ⟨_, rfl, S, _, rfl, SqL.of hSv, by simp, fun m' hm' hm2' => ⟨by show 2 ≤ sizeLine; decide, fun p hp => ?_⟩⟩⟩
        exact fin S _ _ (hk7.nn hS) hSv (by simp) bb x8 hk8 m hm hm2 m' hm' hm2' p hp
      · rw [decide_eq_false (fun e => c0 (by injection e))]
        have hD5 := x5 _ _ nD hxs
        refine iteF ⟨_, rfl, D, xs, rfl, SqL.of hD5, by omega, fun m hm hm2 => ⟨_, rfl, D, xs, rfl, SqL.of hD5, by omega, fun m' hm' hm2' => ⟨by show 2 ≤ sizeLine; decide, fun p hp => ?_⟩⟩⟩
        exact fin D xs H5 nD hD5 (by omega) bx (x.trans x5) (hk5.mono (show c + 2 * ((2 : Int).toNat : Int) + 1 ≤ c + 10 by omega)) m hm hm2 m' hm' hm2' p hp
end
end Sz

/-! The law's own defs, the seventh part: the other ladder. -/
namespace Sz
open PySem PySem.Spec PyProof.Rows L2 SzR
def spTwo : Sp := fun vs H Q _ => ∃ h v c D, vs = [.ref h, v] ∧ HandAt H h c ∧ c ≤ 400000 ∧ LD h H v D ∧ D.WF 2000 ∧
  ∀ u E H', SameX h H H' → HandAt H' h (c + 300) → LD h H' u E → E.WF 50000 → Q u H'
theorem next_and {tA tB : TT} {t u rest : TS} {D : Ends} {σ : L2.St} {H : Hp} {a b : Bool} {a1 : VK} {a2 a3 : L2.St → Hp → Prop} (hA : ∀ Q' : Bool → Hp → Prop, Q' a H → tA σ H Q') (hB : ∀ Q' : Bool → Hp → Prop, Q' b H → tB σ H Q')
    (h : if (a && b) = true then t { D with nx := rest D } σ H else u { D with nx := rest D } σ H) : tNext { nx := tSeq (tIfS (tAnd tA tB) t u) rest D, rt := a1, bk := a2, ct := a3 } σ H :=
  tand_val (Q := fun c H1 => if c = true then t { D with nx := rest D } σ H1 else u { D with nx := rest D } σ H1) hA hB h
theorem set_if {i k : Nat} {t : TT} {ta tb : TE} {rest : TS} {D : Ends} {σ : L2.St} {H : Hp} {v x : V} {b : Bool} {a1 : VK} {a2 a3 : L2.St → Hp → Prop} (hT : ∀ Q' : Bool → Hp → Prop, Q' b H → t (σ.set i (some v)) H Q')
    (ha : b = true → ∀ Q' : VK, Q' x H → ta (σ.set i (some v)) H Q') (hb : b = false → ∀ Q' : VK, Q' x H → tb (σ.set i (some v)) H Q') (h : rest D ((σ.set i (some v)).set k (some x)) H) :
    gName i v σ H ({ nx := tSeq (tAsg (tIf t ta tb) (gName k)) rest D, rt := a1, bk := a2, ct := a3 } : Ends).nx :=
  hT _ (by
    cases b
    · exact hb rfl _ h
    · exact ha rfl _ h)
section
variable {P : Program} {w : World} {K : PySem.W.Frag} {mg : Str → Option Value} {base : Heap}
theorem ok_two (T : Txt K mg w) (c1 : C8.Cal P w K mg base 1 "_law_take" spTake []) (c2 : C8.Cal P w K mg base 2 "_law_pick" spPick []) (c3 : C8.Cal P w K mg base 4 "_law_drawn_ladder" spDL []) : C8.Cal P w K mg base 5 "_law_two_ladder" spTwo [] := by
  obtain ⟨fd, F⟩ := T.d_l_two_ladder
  refine ⟨_, fd, ["_law_hand", "_law_ladder"], [], F.ok sc_l_two_ladder (fun vs H Q E h => ?_) (fun cdv A outer s H vs Q E hr h => ?_), T.glo_l_two_ladder, F.kp, F.bindsN (fun _ _ _ _ _ _ us hl => match us, hl with | [_, _], _ => rfl), .nil⟩
  · obtain ⟨h, v, c, D, rfl, _⟩ := h
    rfl
  · obtain ⟨h, v, c, D, rfl, hh, hc, ⟨t, m, rfl, nt, nm, ht, hm⟩, wf, q⟩ := h
    refine ⟨_, PSs.nox <| pss_cons (ps_asg (pv 1) (pg_tup rfl (pgs_cons (pg_name (i := 2) sc_l_two_ladder.nd rfl (Or.inl rfl)) (pgs_cons (pg_name (i := 3) sc_l_two_ladder.nd rfl (Or.inl rfl)) (pgs_cons (pg_name (i := 4) sc_l_two_ladder.nd rfl (Or.inl rfl)) (pgs_cons (pg_name (i := 5) sc_l_two_ladder.nd rfl (Or.inl rfl)) pgs_nil))))))
      <| pss_cons (ps_set (i := 6) sc_l_two_ladder.nd rfl (Or.inl rfl) (C8.pe_c c1 hr (by decide) (by rfl) (pa_cons (pv 0) (pa_cons pe_int pa_nil))))
      <| pss_cons (ps_if (pt_cmpR op_eq (pv 6) pe_int (nomark _)) (pss_one <| ps_ret <| C8.pe_c c3 hr (by decide) (by rfl) (pa_cons (pv 0) pa_nil)) pss_nil)
      <| pss_cons (ps_if (pt_cmpR op_eq (pv 6) pe_int (nomark _)) (pss_one <| ps_ret <| pe_tup <| pa_cons (pv 2) <| pa_cons (C8.pe_c c2 hr (by decide) (by rfl) (pa_cons (pv 0) (pa_cons (pe_lst (pa_cons pe_str (pa_cons pe_str (pa_cons pe_str pa_nil)))) pa_nil))) <| pa_cons (pv 4) <| pa_cons (pv 5) pa_nil) pss_nil)
      <| pss_cons (ps_if (PW.pt <| pw_and (pt_cmpR op_eq (pv 6) pe_int (nomark _)) <| pw_and1 <| pt_cmpR op_lt (pe_callB call_len_seq (by rfl) T.free_len PySem.boot_len (pa_cons (pv 2) pa_nil)) pe_int (nomark _))
          (pss_one <| ps_ret <| pe_tup <| pa_cons (pe_op op_cat (pe_lst (pa_cons (pe_op op_sub (pe_ix ix_list (pv 2) pe_int (fun _ _ => rfl)) (pe_op op_mul pe_int (pe_op op_add pe_int (C8.pe_c c1 hr (by decide) (by rfl) (pa_cons (pv 0) (pa_cons pe_int pa_nil)))))) pa_nil)) (pv 2)) <| pa_cons (pv 3) <| pa_cons (pv 4) <| pa_cons (pv 5) pa_nil) pss_nil)
      <| pss_cons (ps_if (PW.pt <| pw_and (pt_cmpR op_eq (pv 6) pe_int (nomark _)) <| pw_and1 <| pt_cmpR op_lt (pe_callB call_len_seq (by rfl) T.free_len PySem.boot_len (pa_cons (pv 2) pa_nil)) pe_int (nomark _))
          (pss_one <| ps_ret <| pe_tup <| pa_cons (pe_op op_cat (pv 2) (pe_lst (pa_cons (pe_op op_add (pe_ix ix_list (pv 2) (pe_un un_neg pe_int) (fun _ _ => rfl)) (pe_op op_mul pe_int (pe_op op_add pe_int (C8.pe_c c1 hr (by decide) (by rfl) (pa_cons (pv 0) (pa_cons pe_int pa_nil)))))) pa_nil))) <| pa_cons (pv 3) <| pa_cons (pv 4) <| pa_cons (pv 5) pa_nil) pss_nil)
      <| pss_cons (ps_if (PW.pt <| pw_and (pt_cmpR op_eq (pv 6) pe_int (nomark _)) <| pw_and1 <| pt_cmpR op_gt (pe_callB call_len_seq (by rfl) T.free_len PySem.boot_len (pa_cons (pv 2) pa_nil)) pe_int (nomark _))
          (pss_cons (ps_set (i := 7) sc_l_two_ladder.nd rfl (Or.inl rfl) (pe_op op_add pe_int (C8.pe_c c1 hr (by decide) (by rfl) (pa_cons (pv 0) (pa_cons (pe_op op_sub (pe_callB call_len_seq (by rfl) T.free_len PySem.boot_len (pa_cons (pv 2) pa_nil)) pe_int) pa_nil)))))
            <| pss_one <| ps_ret <| pe_tup <| pa_cons (pe_op op_cat (pe_slice sl_list (pv 2) po_none (po_some (pv 7))) (pe_slice sl_list (pv 2) (po_some (pe_op op_add (pv 7) pe_int)) po_none)) <| pa_cons (pv 3) <| pa_cons (pv 4) <| pa_cons (pv 5) pa_nil) pss_nil)
      <| pss_cons (ps_if (pt_cmpR op_eq (pv 6) pe_int (nomark _))
          (pss_cons (ps_set (i := 8) sc_l_two_ladder.nd rfl (Or.inl rfl) (pe_op op_add (pe_ifExp (pt_cmp (pc_isN (pv 5))) (pe_ix ix_list (pv 2) (pe_un un_neg pe_int) (fun _ _ => rfl)) (pv 5)) (pe_op op_mul pe_int (C8.pe_c c1 hr (by decide) (by rfl) (pa_cons (pv 0) (pa_cons pe_int pa_nil))))))
            <| pss_one <| ps_ret <| pe_tup <| pa_cons (pv 2) <| pa_cons (pv 3) <| pa_cons (pv 4) <| pa_cons (pe_ifExp (pt_cmp (pc_isN (pv 4))) (pv 8) (pe_callB (call_max2 rfl) (by rfl) T.free_max (by decide +kernel) (pa_cons (pv 4) (pa_cons (pv 8) pa_nil)))) pa_nil) pss_nil)
      <| pss_cons (ps_set (i := 7) sc_l_two_ladder.nd rfl (Or.inl rfl) (C8.pe_c c1 hr (by decide) (by rfl) (pa_cons (pv 0) (pa_cons (pe_callB call_len_seq (by rfl) T.free_len PySem.boot_len (pa_cons (pv 2) pa_nil)) pa_nil))))
      <| pss_cons (ps_set (i := 9) sc_l_two_ladder.nd rfl (Or.inl rfl) (pe_ifExp (pt_cmpR op_eq (pv 7) pe_int (nomark _)) pe_int (pe_op op_sub (pe_ix ix_list (pv 2) (pv 7) (fun _ _ => rfl)) (pe_ix ix_list (pv 2) (pe_op op_sub (pv 7) pe_int) (fun _ _ => rfl)))))
      <| pss_one <| ps_ret <| pe_tup <| pa_cons (pe_op op_cat (pe_op op_cat (pe_slice sl_list (pv 2) po_none (po_some (pv 7))) (pe_lst (pa_cons (pe_op op_sub (pe_ix ix_list (pv 2) (pv 7) (fun _ _ => rfl)) (pe_op op_mul pe_int (C8.pe_c c1 hr (by decide) (by rfl) (pa_cons (pv 0) (pa_cons (pe_op op_fdiv (pv 9) pe_int) pa_nil))))) pa_nil)))
          (pe_slice sl_list (pv 2) (po_some (pe_op op_add (pv 7) pe_int)) po_none)) <| pa_cons (pv 3) <| pa_cons (pv 4) <| pa_cons (pv 5) pa_nil, ?_⟩
    have few := wf.mks.few
    have few0 : 0 < D.ms.length := few.1
    have lm : (D.ms.map V.int).length = D.ms.length := List.length_map ..
    have wf2 : D.WF 50000 := wf.mono (by decide)
    have lm40 : LMarks 40000 D.ms := (wf.mono (by decide : (2000 : Int) ≤ 40000)).mks
    obtain ⟨k0, z, ez⟩ := snoc_of few.1
    have mp : D.ms.map V.int = k0.map V.int ++ [.int z] := by rw [ez]; simp
    have bz := wf.mks.bd z (by rw [ez]; simp)
    have b0 := wf.mks.bd D.ms[0] (List.getElem_mem few0)
    refine ⟨_, rfl, t, _, rfl, SqT.of ht, rfl, _, _, rfl, _, _, rfl, _, _, rfl, _, _, rfl, rfl, ?_⟩
    refine ⟨_, rfl, h, 7, _, rfl, hh, by omega, by omega, by omega, fun k H1 k1 k2 x1 hh1 => ?_⟩
    have hm1 := x1 _ _ nm hm
    -- the end of each way
    have fin : ∀ (u : Addr) (l : Addr) (E : LL) (H2 : Hp), SameX h H1 H2 → HandAt H2 h (c + 10) → H2 l = some (.lst (E.ms.map V.int)) → l ≠ h → E.WF 50000 → H2 u = none → Q (.ref u) (upd H2 u (.tup [.ref l, E.r.v, iV E.fl, iV E.ro])) := fun u l E H2 x2 hk hl nl we hu =>
      q (.ref u) E _ ((x1.trans x2).trans (SameX.of (Same.upd hu))) ((hk.mono (by omega)).up (Same.upd hu)) ⟨u, l, rfl, hk.nn hu, nl, upd_same, Same.upd hu _ _ hl⟩ we
    refine ⟨_, rfl, rfl, _, rfl, ?_⟩
    by_cases a0 : k = 0
    · rw [decide_eq_true (congrArg V.int a0)]
      refine iteT ⟨_, rfl, h, c + 1, rfl, hh1, by omega, fun v E H2 x2 hk hE we => ?_⟩
      exact q v E H2 (x1.trans x2) (hk.mono (by omega)) hE (we.mono (by decide))
    rw [decide_eq_false (fun e => a0 (by injection e))]
    refine iteF ⟨_, rfl, rfl, _, rfl, ?_⟩
    by_cases a1 : k = 1
    · rw [decide_eq_true (congrArg V.int a1)]
      refine iteT ⟨_, rfl, _, rfl, by show 3 ≤ sizeLine; decide, fun R hR => ?_⟩
      have eR : Same H1 (upd H1 R (.lst [.str "up", .str "down", .str "near"])) := Same.upd hR
      refine ⟨h, R, _, _, rfl, hh1.up eR, by omega, hh1.nn hR, upd_same, by decide, by decide, fun v H2 hv x2 hk => ?_⟩
      have hv : ∃ r : Rule, v = r.v := by
        have hv : v = .str "up" ∨ v = .str "down" ∨ v = .str "near" := by simpa using hv
        rcases hv with rfl | rfl | rfl
        · exact ⟨.up, rfl⟩
        · exact ⟨.down, rfl⟩
        · exact ⟨.near, rfl⟩
      obtain ⟨r, rfl⟩ := hv
      refine ⟨_, rfl, _, rfl, by show 4 ≤ sizeLine; decide, fun u hu => ?_⟩
      exact fin u m ⟨D.ms, r, D.fl, D.ro⟩ H2 ((SameX.of eR).trans x2) (hk.mono (by omega)) (x2 _ _ nm (eR _ _ hm1)) nm ⟨wf2.mks, wf2.fl, wf2.ro, wf2.span⟩ hu
    rw [decide_eq_false (fun e => a1 (by injection e))]
    refine iteF ?_
    refine next_and (a := decide (V.int k = V.int 2)) (b := decide (((D.ms.map V.int).length : Int) < 24)) (fun Q' q' => ⟨_, rfl, rfl, _, rfl, q'⟩) (fun Q' q' => ⟨_, rfl, m, _, rfl, .inl (SqL.of hm1), _, _, rfl, rfl, _, rfl, q'⟩) ?_
    by_cases a2 : k = 2 ∧ ((D.ms.map V.int).length : Int) < 24
    · rw [decide_eq_true (congrArg V.int a2.1), decide_eq_true a2.2]
      refine iteT ⟨_, rfl, m, _, _, _, rfl, rfl, SqL.of hm1, at_of (j := 0) rfl (getn few0), ?_⟩
      refine ⟨_, rfl, h, 5, _, rfl, hh1, by omega, by omega, by omega, fun d H2 d1 d2 x2 hk => ?_⟩
      have hm2 := x2 _ _ nm hm1
      refine ⟨_, _, rfl, rfl, _, _, rfl, rfl, .inl ⟨by decide, by decide⟩, _, _, rfl, rfl, by show 1 ≤ sizeLine; decide, fun R hR => ?_⟩
      have eR : Same H2 (upd H2 R (.lst [.int (D.ms[0] - 4 * (1 + d))])) := Same.upd hR
      refine ⟨_, rfl, R, m, _, _, rfl, rfl, upd_same, eR _ _ hm2, ?_, fun S hS => ?_⟩
      · rw [lm]
        exact Nat.le_of_lt (small1000 (by simp only [List.length_singleton]; omega))
      have eS : Same _ (upd (upd H2 R (.lst [.int (D.ms[0] - 4 * (1 + d))])) S (.lst ([.int (D.ms[0] - 4 * (1 + d))] ++ D.ms.map V.int))) := Same.upd hS
      refine ⟨_, rfl, _, rfl, _, rfl, by show 4 ≤ sizeLine; decide, fun u hu => ?_⟩
      have l24 : D.ms.length < 24 := by omega
      exact fin u S ⟨[D.ms[0] - 4 * (1 + d)] ++ D.ms, D.r, D.fl, D.ro⟩ _ (x2.trans (SameX.of (eR.trans eS))) ((hk.up (eR.trans eS)).mono (by omega)) upd_same ((hk.up eR).nn hS)
        ⟨by
          have := wf.mks.front l24 few0 (x := D.ms[0] - 4 * (1 + d)) (by omega) (by omega) (by decide)
          exact ⟨this.few, this.rise, fun x hx => by have := this.bd x hx; omega⟩, wf2.fl, wf2.ro, wf2.span⟩ hu
    rw [show (decide (V.int k = V.int 2) && decide (((D.ms.map V.int).length : Int) < 24)) = false by
      rw [Bool.and_eq_false_iff]
      by_cases g : k = 2
      · exact .inr (decide_eq_false (fun e => a2 ⟨g, e⟩))
      · exact .inl (decide_eq_false (fun e => g (by injection e)))]
    refine iteF ?_
    refine next_and (a := decide (V.int k = V.int 3)) (b := decide (((D.ms.map V.int).length : Int) < 24)) (fun Q' q' => ⟨_, rfl, rfl, _, rfl, q'⟩) (fun Q' q' => ⟨_, rfl, m, _, rfl, .inl (SqL.of hm1), _, _, rfl, rfl, _, rfl, q'⟩) ?_
    by_cases a3 : k = 3 ∧ ((D.ms.map V.int).length : Int) < 24
    · rw [decide_eq_true (congrArg V.int a3.1), decide_eq_true a3.2]
      refine iteT ⟨_, rfl, _, rfl, _, rfl, m, _, _, _, rfl, rfl, SqL.of hm1, (by rw [mp]; exact last_at), ?_⟩
      refine ⟨_, rfl, h, 5, _, rfl, hh1, by omega, by omega, by omega, fun d H2 d1 d2 x2 hk => ?_⟩
      have hm2 := x2 _ _ nm hm1
      refine ⟨_, _, rfl, rfl, _, _, rfl, rfl, .inl ⟨by decide, by decide⟩, _, _, rfl, rfl, by show 1 ≤ sizeLine; decide, fun R hR => ?_⟩
      have eR : Same H2 (upd H2 R (.lst [.int (z + 4 * (1 + d))])) := Same.upd hR
      refine ⟨m, R, _, _, rfl, rfl, eR _ _ hm2, upd_same, ?_, fun S hS => ?_⟩
      · rw [lm]
        exact Nat.le_of_lt (small1000 (by simp only [List.length_singleton]; omega))
      have eS : Same _ (upd (upd H2 R (.lst [.int (z + 4 * (1 + d))])) S (.lst (D.ms.map V.int ++ [.int (z + 4 * (1 + d))]))) := Same.upd hS
      refine ⟨_, rfl, _, rfl, _, rfl, by show 4 ≤ sizeLine; decide, fun u hu => ?_⟩
      have l24 : D.ms.length < 24 := by omega
      exact fin u S ⟨D.ms ++ [z + 4 * (1 + d)], D.r, D.fl, D.ro⟩ _ (x2.trans (SameX.of (eR.trans eS))) ((hk.up (eR.trans eS)).mono (by omega)) (by rw [upd_same, List.map_append]; rfl) ((hk.up eR).nn hS)
        ⟨by
          have h0 := wf.mks
          rw [ez] at h0 l24
          have := h0.back l24 (x := z + 4 * (1 + d)) (by omega) (by omega) (by decide)
          rw [← ez] at this
          exact ⟨this.few, this.rise, fun x hx => by have := this.bd x hx; omega⟩, wf2.fl, wf2.ro, wf2.span⟩ hu
    rw [show (decide (V.int k = V.int 3) && decide (((D.ms.map V.int).length : Int) < 24)) = false by
      rw [Bool.and_eq_false_iff]
      by_cases g : k = 3
      · exact .inr (decide_eq_false (fun e => a3 ⟨g, e⟩))
      · exact .inl (decide_eq_false (fun e => g (by injection e)))]
    refine iteF ?_
    refine next_and (a := decide (V.int k = V.int 4)) (b := decide (((D.ms.map V.int).length : Int) > 1)) (fun Q' q' => ⟨_, rfl, rfl, _, rfl, q'⟩) (fun Q' q' => ⟨_, rfl, m, _, rfl, .inl (SqL.of hm1), _, _, rfl, rfl, _, rfl, q'⟩) ?_
    by_cases a4 : k = 4 ∧ ((D.ms.map V.int).length : Int) > 1
    · rw [decide_eq_true (congrArg V.int a4.1), decide_eq_true a4.2]
      refine iteT ⟨_, rfl, _, rfl, m, _, rfl, .inl (SqL.of hm1), _, _, rfl, rfl, h, _, _, rfl, hh1, by omega, by omega, by omega, fun d H2 d1 d2 x2 hk => ?_⟩
      have hm2 := x2 _ _ nm hm1
      obtain ⟨j, hj⟩ : ∃ j : Nat, (j : Int) = 1 + d := ⟨(1 + d).toNat, by omega⟩
      have hc1 : cutV (D.ms.map V.int) none (some (1 + d)) = (D.ms.take j).map V.int := by rw [← hj, cut_head, List.map_take]
      have hc2 : cutV (D.ms.map V.int) (some (1 + d + 1)) none = (D.ms.drop (j + 1)).map V.int := by rw [show 1 + d + 1 = ((j + 1 : Nat) : Int) by omega, cut_from, List.map_drop]
      refine ⟨_, _, rfl, rfl, _, rfl, _, rfl, _, rfl, m, _, rfl, SqL.of hm2, fun R hR => ?_⟩
      have eR : Same H2 (upd H2 R (.lst (cutV (D.ms.map V.int) none (some (1 + d))))) := Same.upd hR
      refine ⟨_, rfl, _, rfl, _, _, rfl, rfl, _, rfl, m, _, rfl, SqL.of (eR _ _ hm2), fun S hS => ?_⟩
      have eS : Same (upd H2 R (.lst (cutV (D.ms.map V.int) none (some (1 + d))))) (upd (upd H2 R (.lst (cutV (D.ms.map V.int) none (some (1 + d))))) S (.lst (cutV (D.ms.map V.int) (some (1 + d + 1)) none))) := Same.upd hS
      have q1 := cutV_length (D.ms.map V.int) none (some (1 + d))
      have q2 := cutV_length (D.ms.map V.int) (some (1 + d + 1)) none
      refine ⟨R, S, _, _, rfl, rfl, eS _ _ upd_same, upd_same, Nat.le_of_lt (small1000 (by omega)), fun U hU => ?_⟩
      have eU := (eR.trans eS).trans (Same.upd (o := .lst (cutV (D.ms.map V.int) none (some (1 + d)) ++ cutV (D.ms.map V.int) (some (1 + d + 1)) none)) hU)
      refine ⟨_, rfl, _, rfl, _, rfl, by show 4 ≤ sizeLine; decide, fun u hu => ?_⟩
      exact fin u U ⟨D.ms.take j ++ D.ms.drop (j + 1), D.r, D.fl, D.ro⟩ _ (x2.trans (SameX.of eU)) ((hk.up eU).mono (by omega)) (by rw [upd_same, hc1, hc2, List.map_append]) ((hk.up (eR.trans eS)).nn hU)
        ⟨by
          have := wf.mks.less (by omega) (by decide) j
          exact ⟨this.few, this.rise, fun x hx => by have := this.bd x hx; omega⟩, wf2.fl, wf2.ro, wf2.span⟩ hu
    rw [show (decide (V.int k = V.int 4) && decide (((D.ms.map V.int).length : Int) > 1)) = false by
      rw [Bool.and_eq_false_iff]
      by_cases g : k = 4
      · exact .inr (decide_eq_false (fun e => a4 ⟨g, e⟩))
      · exact .inl (decide_eq_false (fun e => g (by injection e)))]
    refine iteF ⟨_, rfl, rfl, _, rfl, ?_⟩
    by_cases a5 : k = 5
    · rw [decide_eq_true (congrArg V.int a5)]
      refine iteT ⟨_, rfl, _, rfl, ?_⟩
      have bf := wf.fl
      have br := wf.ro
      cases e5 : D.ro with
      | none =>
        refine iteT ⟨_, rfl, _, rfl, m, _, _, _, rfl, rfl, SqL.of hm1, (by rw [mp]; exact last_at), _, rfl, h, 9, _, rfl, hh1, by omega, by omega, by omega, fun d H2 d1 d2 x2 hk => ?_⟩
        have hm2 := x2 _ _ nm hm1
        cases e4 : D.fl with
        | none =>
          refine ⟨_, _, rfl, rfl, .inl ⟨by decide, by decide⟩, _, _, rfl, rfl, _, rfl, _, rfl, _, rfl, _, rfl, true, rfl, iteT ⟨_, rfl, by show 4 ≤ sizeLine; decide, fun u hu => ?_⟩⟩
          refine fin u m ⟨D.ms, D.r, none, some (z + 2 * d)⟩ H2 x2 (hk.mono (by omega)) hm2 nm ⟨wf2.mks, ?_, ?_, ?_⟩ hu
          · exact fun y hy => nomatch hy
          · intro y hy
            cases hy
            omega
          · exact fun y _ hy => nomatch hy
        | some f0 =>
          have bf0 := bf f0 e4
          refine ⟨_, _, rfl, rfl, .inl ⟨by decide, by decide⟩, _, _, rfl, rfl, _, rfl, _, rfl, _, rfl, _, rfl, false, rfl, iteF ⟨_, rfl, _, rfl, _, _, rfl, by show 4 ≤ sizeLine; decide, fun u hu => ?_⟩⟩
          refine fin u m ⟨D.ms, D.r, some f0, some (if (z + 2 * d) > f0 then (z + 2 * d) else f0)⟩ H2 x2 (hk.mono (by omega)) hm2 nm ⟨wf2.mks, ?_, ?_, ?_⟩ hu
          · intro y hy
            cases hy
            omega
          · intro y hy
            cases hy
            split <;> omega
          · intro y y' hy hy'
            cases hy
            cases hy'
            split <;> omega
      | some r0 =>
        have br0 := br r0 e5
        refine iteF ⟨_, rfl, _, rfl, h, 9, _, rfl, hh1, by omega, by omega, by omega, fun d H2 d1 d2 x2 hk => ?_⟩
        have hm2 := x2 _ _ nm hm1
        cases e4 : D.fl with
        | none =>
          refine ⟨_, _, rfl, rfl, .inl ⟨by decide, by decide⟩, _, _, rfl, rfl, _, rfl, _, rfl, _, rfl, _, rfl, true, rfl, iteT ⟨_, rfl, by show 4 ≤ sizeLine; decide, fun u hu => ?_⟩⟩
          refine fin u m ⟨D.ms, D.r, none, some (r0 + 2 * d)⟩ H2 x2 (hk.mono (by omega)) hm2 nm ⟨wf2.mks, ?_, ?_, ?_⟩ hu
          · exact fun y hy => nomatch hy
          · intro y hy
            cases hy
            omega
          · exact fun y _ hy => nomatch hy
        | some f0 =>
          have bf0 := bf f0 e4
          refine ⟨_, _, rfl, rfl, .inl ⟨by decide, by decide⟩, _, _, rfl, rfl, _, rfl, _, rfl, _, rfl, _, rfl, false, rfl, iteF ⟨_, rfl, _, rfl, _, _, rfl, by show 4 ≤ sizeLine; decide, fun u hu => ?_⟩⟩
          refine fin u m ⟨D.ms, D.r, some f0, some (if (r0 + 2 * d) > f0 then (r0 + 2 * d) else f0)⟩ H2 x2 (hk.mono (by omega)) hm2 nm ⟨wf2.mks, ?_, ?_, ?_⟩ hu
          · intro y hy
            cases hy
            omega
          · intro y hy
            cases hy
            split <;> omega
          · intro y y' hy hy'
            cases hy
            cases hy'
            split <;> omega
    rw [decide_eq_false (fun e => a5 (by injection e))]
    refine iteF ⟨_, rfl, _, rfl, m, _, rfl, .inl (SqL.of hm1), h, _, _, rfl, hh1, by omega, by omega, by omega, fun d H2 d1 d2 x2 hk => ?_⟩
    have hm2 := x2 _ _ nm hm1
    obtain ⟨j, hj⟩ : ∃ j : Nat, (j : Int) = d := ⟨d.toNat, by omega⟩
    have jl : j < D.ms.length := by omega
    have jl1 : j - 1 < D.ms.length := by omega
    obtain ⟨G, hG, hG2⟩ : ∃ G : Int, G = (if d = 0 then 4 else D.ms[j] - D.ms[j - 1]) ∧ 4 ≤ G ∧ G ≤ 4000 ∧ (0 < j → G = D.ms[j] - D.ms[j - 1]) ∧ (j = 0 → G = 4) := by
      refine ⟨_, rfl, ?_⟩
      by_cases g : d = 0
      · rw [if_pos g]
        exact ⟨by decide, by decide, fun z => by omega, fun _ => rfl⟩
      · rw [if_neg g]
        have l1 := wf.mks.lt jl1 jl (by omega)
        have l2 := wf.mks.bd _ (List.getElem_mem jl)
        have l3 := wf.mks.bd _ (List.getElem_mem jl1)
        exact ⟨by omega, by omega, fun _ => rfl, fun z => by omega⟩
    refine set_if (x := .int G) (b := decide (V.int d = V.int 0)) (fun Q' q' => ⟨_, rfl, rfl, _, rfl, q'⟩) (fun e Q' q' => ?_) (fun e Q' q' => ?_) ?_
    · have e0 : d = 0 := by
        have := of_decide_eq_true e
        injection this
      rw [hG, if_pos e0] at q'
      exact q'
    · have e0 : d ≠ 0 := fun g => by
        have := of_decide_eq_false e
        exact this (congrArg V.int g)
      rw [hG, if_neg e0] at q'
      exact ⟨_, rfl, _, rfl, m, _, _, _, rfl, rfl, SqL.of hm2, at_of (j := j) hj.symm (getn jl), _, rfl, _, rfl, _, _, rfl, rfl, m, _, _, _, rfl, rfl, SqL.of hm2, at_of (j := j - 1) (by omega) (getn jl1), _, _, rfl, rfl, q'⟩
    have hc1 : cutV (D.ms.map V.int) none (some d) = (D.ms.take j).map V.int := by rw [← hj, cut_head, List.map_take]
    have hc2 : cutV (D.ms.map V.int) (some (d + 1)) none = (D.ms.drop (j + 1)).map V.int := by rw [show d + 1 = ((j + 1 : Nat) : Int) by omega, cut_from, List.map_drop]
    refine ⟨_, rfl, _, rfl, _, rfl, m, _, rfl, SqL.of hm2, fun R hR => ?_⟩
    have eR : Same H2 (upd H2 R (.lst (cutV (D.ms.map V.int) none (some d)))) := Same.upd hR
    refine ⟨_, rfl, _, rfl, m, _, _, _, rfl, rfl, SqL.of (eR _ _ hm2), at_of (j := j) hj.symm (getn jl), ?_⟩
    refine ⟨_, rfl, _, rfl, _, _, rfl, rfl, ⟨by decide, by decide⟩, h, G / 4, _, rfl, hk.up eR, by omega, by omega, by omega, fun f H3 f1 f2 x3 hk3 => ?_⟩
    have hm3 := x3 _ _ nm (eR _ _ hm2)
    have nR : R ≠ h := hk.nn hR
    have hR3 := x3 _ _ nR (show upd H2 R (.lst (cutV (D.ms.map V.int) none (some d))) R = _ from upd_same)
    refine ⟨_, _, rfl, rfl, .inl ⟨by decide, by decide⟩, _, _, rfl, rfl, by show 1 ≤ sizeLine; decide, fun S hS => ?_⟩
    have eS : Same H3 (upd H3 S (.lst [.int (D.ms[j] - 4 * f)])) := Same.upd hS
    have q1 := cutV_length (D.ms.map V.int) none (some d)
    have q2 := cutV_length (D.ms.map V.int) (some (d + 1)) none
    refine ⟨R, S, _, _, rfl, rfl, eS _ _ hR3, upd_same, Nat.le_of_lt (small1000 (by simp only [List.length_singleton]; omega)), fun U hU => ?_⟩
    have eU := eS.trans (Same.upd (o := .lst (cutV (D.ms.map V.int) none (some d) ++ [.int (D.ms[j] - 4 * f)])) hU)
    have hU4 : upd (upd H3 S (.lst [.int (D.ms[j] - 4 * f)])) U (.lst (cutV (D.ms.map V.int) none (some d) ++ [.int (D.ms[j] - 4 * f)])) U = some (.lst (cutV (D.ms.map V.int) none (some d) ++ [.int (D.ms[j] - 4 * f)])) := upd_same
    have hm4 := eU _ _ hm3
    have hk4 := hk3.up eU
    have x4 := (x2.trans (SameX.of eR)).trans (x3.trans (SameX.of eU))
    generalize upd (upd H3 S (.lst [.int (D.ms[j] - 4 * f)])) U (.lst (cutV (D.ms.map V.int) none (some d) ++ [.int (D.ms[j] - 4 * f)])) = H4 at hU4 hm4 hk4 x4
    refine ⟨_, rfl, _, rfl, _, _, rfl, rfl, _, rfl, m, _, rfl, SqL.of hm4, fun W hW => ?_⟩
    have eW : Same H4 (upd H4 W (.lst (cutV (D.ms.map V.int) (some (d + 1)) none))) := Same.upd hW
    refine ⟨U, W, _, _, rfl, rfl, eW _ _ hU4, upd_same, Nat.le_of_lt (small1000 (by rw [List.length_append]; simp only [List.length_singleton]; omega)), fun Z hZ => ?_⟩
    have eZ := eW.trans (Same.upd (o := .lst ((cutV (D.ms.map V.int) none (some d) ++ [.int (D.ms[j] - 4 * f)]) ++ cutV (D.ms.map V.int) (some (d + 1)) none)) hZ)
    refine ⟨_, rfl, _, rfl, _, rfl, by show 4 ≤ sizeLine; decide, fun u hu => ?_⟩
    have bj := wf.mks.bd _ (List.getElem_mem jl)
    exact fin u Z ⟨D.ms.take j ++ [D.ms[j] - 4 * f] ++ D.ms.drop (j + 1), D.r, D.fl, D.ro⟩ _ (x4.trans (SameX.of eZ)) ((hk4.up eZ).mono (by omega)) (by rw [upd_same, hc1, hc2]; simp only [List.map_append]; rfl) ((hk4.up eW).nn hZ)
      ⟨by
        have := wf.mks.moved (k := j) jl (y := D.ms[j] - 4 * f) (by decide) (by omega) (fun i hi ij => by
          have g1 := hG2.2.2.1 (by omega)
          rcases Nat.lt_or_eq_of_le (show i ≤ j - 1 by omega) with g | g
          · have := wf.mks.lt hi jl1 g
            omega
          · subst g
            omega) (by omega)
        exact ⟨this.few, this.rise, fun x hx => by have := this.bd x hx; omega⟩, wf2.fl, wf2.ro, wf2.span⟩ hu
end
end Sz

/-! The law's own defs, the eighth part: what lasts while the hand draws; between; sizes alike. -/
namespace Sz
open PySem PySem.Spec PyProof.Rows L2 SzR
section
variable {K : PySem.W.Frag} {H H' : Hp} {h : Addr} {c : Int}
theorem HandAt.keep {b : Addr} {o : HO} (k : HandAt H h c) (e : SameX h H H') (q : H b = some o) (ho : ∀ xs, o ≠ .lst xs) : H' b = some o := e _ _ (k.ne q ho) q
theorem Mv.hx {v : V} {q : Rat} (z : Mv K H v q) (k : HandAt H h c) (e : SameX h H H') : Mv K H' v q :=
  let ⟨p, dx, a, b⟩ := z
  ⟨p, dx, a, k.keep e b (fun _ w => nomatch w)⟩
theorem MO.hx {v : V} {o : Option Rat} (z : MO K H v o) (k : HandAt H h c) (e : SameX h H H') : MO K H' v o := by
  cases o with
  | none => exact z
  | some q => exact Mv.hx z k e
theorem Ms.hx {vs : List V} {qs : List Rat} (z : Ms K H vs qs) (k : HandAt H h c) (e : SameX h H H') : Ms K H' vs qs := Paired.mapP z fun _ _ y => Mv.hx y k e
theorem Lv.hx {v : V} {L : Lad} (z : Lv K H v L) (k : HandAt H h c) (e : SameX h H H') : Lv K H' v L := by
  obtain ⟨p, dx, T, l, m, a, b, ⟨ms, ht, hm⟩, h1, h2⟩ := z
  exact ⟨p, dx, T, l, m, a, k.keep e b (fun _ w => nomatch w), ⟨ms, k.keep e ht (fun _ w => nomatch w), hm.hx k e⟩, h1.hx k e, h2.hx k e⟩
theorem PartV.hx {v : V} {r : Part} (z : PartV K H v r) (k : HandAt H h c) (e : SameX h H H') : PartV K H' v r := by
  cases r with
  | alike =>
    obtain ⟨t, a, b⟩ := z
    exact ⟨t, a, k.keep e b (fun _ w => nomatch w)⟩
  | part p b i j =>
    obtain ⟨t, x, a, b, d⟩ := z
    exact ⟨t, x, a, k.keep e b (fun _ w => nomatch w), d.hx k e⟩
end
theorem between_in {s g : Rat} {p t : Nat} (hp : 0 < p) (ht : t ≤ p) (h : s ≤ g) : s ≤ s + (g - s) / (p : Rat) * (t : Rat) ∧ s + (g - s) / (p : Rat) * (t : Rat) ≤ g := by
  have hp' : (0 : Rat) < (p : Rat) := by exact_mod_cast hp
  have ht' : (t : Rat) ≤ (p : Rat) := by exact_mod_cast ht
  have h0 : (0 : Rat) ≤ (t : Rat) := by exact_mod_cast Nat.zero_le t
  have hi : (0 : Rat) < (p : Rat)⁻¹ := Rat.inv_pos.mpr hp'
  have hd : (0 : Rat) ≤ g - s := by grind
  have e : (g - s) / (p : Rat) * (p : Rat) = g - s := by
    rw [Rat.div_def, Rat.mul_assoc, Rat.inv_mul_cancel _ (by grind), Rat.mul_one]
  have hx : (0 : Rat) ≤ (g - s) / (p : Rat) := by
    rw [Rat.div_def]
    exact Rat.mul_nonneg hd (Rat.le_of_lt hi)
  have h1 : (0 : Rat) ≤ (g - s) / (p : Rat) * (t : Rat) := Rat.mul_nonneg hx h0
  have h2 : (g - s) / (p : Rat) * (t : Rat) ≤ (g - s) / (p : Rat) * (p : Rat) := Rat.mul_le_mul_of_nonneg_left ht' hx
  rw [e] at h2
  constructor <;> grind
def spBtw (K : PySem.W.Frag) : Sp := fun vs H Q _ => ∃ h x y c s g n m, vs = [.ref h, x, y] ∧ HandAt H h c ∧ c ≤ 800000 ∧ Mv K H x s ∧ Mv K H y g ∧ Bd n s ∧ Bd m g ∧ n ≤ 300 ∧ m ≤ 1000 ∧
  ∀ v q H', SameX h H H' → HandAt H' h (c + 2) → Mv K H' v q → Bd (2 * n + m + 17) q → (s ≤ g → s ≤ q ∧ q ≤ g) → Q v H'
def spSizes (K : PySem.W.Frag) : Sp := fun vs H Q _ => ∃ h v1 v2 x y L1 L2 lo hi m c, vs = [.ref h, v1, v2, x, y, .int m] ∧ HandAt H h c ∧ c ≤ 700000 ∧ Lv K H v1 L1 ∧ Lv K H v2 L2 ∧ L1.Ok ∧ L1.Bnd ∧ L2.Ok ∧ L2.Bnd ∧ Mv K H x lo ∧ Mv K H y hi ∧ Bd 300 lo ∧ Bd 1000 hi ∧ lo ≤ hi ∧
  (∀ z, lo ≤ z → z ≤ hi → alike (size L1 z) (size L2 z) m) ∧ ∀ H', SameX h H H' → HandAt H' h (c + 40) → Q (.bl true) H'
section
variable {P : Program} {w : World} {K : PySem.W.Frag} {mg : Str → Option Value} {base : Heap}
theorem ok_l_alike (T : Txt K mg w) : C8.Cal P w K mg base 1 "_law_alike" spAlike [] := by
  obtain ⟨fd, F⟩ := T.d_l_alike
  refine ⟨_, fd, ["_law_here", "_law_there", "_law_moved"], [], F.ok sc_l_alike (fun vs H Q E h => ?_) (fun cdv A outer s H vs Q E hr h => ?_), T.glo_l_alike, F.kp, F.bindsN (fun _ _ _ _ _ _ us hl => match us, hl with | [_, _, _], _ => rfl), .nil⟩
  · obtain ⟨h, t, m, rfl, _⟩ := h
    rfl
  · obtain ⟨h, t, m, rfl, k⟩ := h
    refine ⟨_, PSs.nox <| pss_cons (ps_if (PW.pt <| pw_or (pt_cmp (pc_isN (pv 0))) <| pw_or1 <| pt_cmp (pc_isN (pv 1))) (pss_one <| ps_ret <| pe_and (pe_cmp (pc_isN (pv 0))) <| pe_one <| pe_cmp (pc_isN (pv 1))) pss_nil)
      <| pss_one <| ps_ret <| pe_cmpR op_eq (pv 1) (pe_op op_add (pv 0) (pv 2)) (nomark _), ?_⟩
    cases h with
    | none =>
      refine ⟨_, rfl, true, rfl, iteT (iteT ⟨_, rfl, true, rfl, iteT ⟨_, rfl, ?_⟩⟩)⟩
      cases t with
      | none => exact k
      | some j => exact k
    | some i =>
      refine ⟨_, rfl, false, rfl, iteF ⟨_, rfl, ?_⟩⟩
      cases t with
      | none => exact ⟨true, rfl, iteT ⟨_, rfl, false, rfl, iteF k⟩⟩
      | some j =>
        refine ⟨false, rfl, iteF ⟨_, rfl, _, rfl, _, rfl, _, _, rfl, rfl, rfl, ?_⟩⟩
        have e : decide (V.int (j : Int) = V.int ((i : Int) + m)) = decide (alike (some i) (some j) m) := by
          refine decide_eq_decide.mpr ⟨fun z => ?_, fun z => congrArg V.int z⟩
          injection z
        show Q (.bl (decide (V.int (j : Int) = V.int ((i : Int) + m)))) H
        rw [e]
        exact k
theorem ok_between (T : Txt K mg w) (c1 : C8.Cal P w K mg base 1 "_law_take" spTake []) (mk : C8.Mak P w K mg base 2 "Measure" (CM K) (spMkM K) [.int 1]) (p1 : C8.Met P w K mg base 4 (CM K) "plus" (spBin K (· + ·)) [])
    (p2 : C8.Met P w K mg base 4 (CM K) "minus" (spBin K (· - ·)) []) (p3 : C8.Met P w K mg base 4 (CM K) "times" (spBin K (· * ·)) []) (p4 : C8.Met P w K mg base 4 (CM K) "parted" (spParted K) []) : C8.Cal P w K mg base 5 "_law_between" (spBtw K) [] := by
  obtain ⟨fd, F⟩ := T.d_l_between
  refine ⟨_, fd, ["_law_hand", "_law_start", "_law_goal"], [], F.ok sc_l_between (fun vs H Q E h => ?_) (fun cdv A outer s H vs Q E hr h => ?_), T.glo_l_between, F.kp, F.bindsN (fun _ _ _ _ _ _ us hl => match us, hl with | [_, _, _], _ => rfl), .nil⟩
  · obtain ⟨h, x, y, c, s, g, n, m, rfl, _⟩ := h
    rfl
  · obtain ⟨h, x, y, c, s, g, n, m, rfl, hh, hc, hx, hy, bx, by', n3, m3, q⟩ := h
    refine ⟨_, PSs.nox <| pss_cons (ps_set (i := 3) sc_l_between.nd rfl (Or.inl rfl) (pe_op op_add pe_int (C8.pe_c c1 hr (by decide) (by rfl) (pa_cons (pv 0) (pa_cons pe_int pa_nil)))))
      <| pss_cons (ps_set (i := 4) sc_l_between.nd rfl (Or.inl rfl) (C8.pe_mt p4 hr (by decide) (C8.pe_mt p2 hr (by decide) (pv 2) (pa_cons (pv 1) pa_nil)) (pa_cons (pv 3) pa_nil)))
      <| pss_one <| ps_ret <| C8.pe_mt p1 hr (by decide) (pv 1) (pa_cons (C8.pe_mt p3 hr (by decide) (pv 4) (pa_cons (C8.pe_mk mk hr (by decide) (by rfl) (pa_cons (C8.pe_c c1 hr (by decide) (by rfl) (pa_cons (pv 0) (pa_cons (pe_op op_add (pv 3) pe_int) pa_nil))) pa_nil)) pa_nil)) pa_nil), ?_⟩
    refine ⟨_, rfl, h, 97, c, rfl, hh, by omega, by decide, by decide, fun d H1 d1 d2 x1 hh1 => ?_⟩
    obtain ⟨p, hp⟩ : ∃ p : Nat, (p : Int) = 2 + d := ⟨(2 + d).toNat, by omega⟩
    have hx1 := hx.hx hh x1
    have hy1 := hy.hx hh x1
    refine ⟨_, _, rfl, rfl, ?_⟩
    refine ⟨_, rfl, hy1.at (by decide +kernel) (by decide +kernel) ⟨_, rfl, _, _, g, s, rfl, hy1, hx1, by'.mono (by omega), bx.mono (by omega), fun v1 H2 e2 hv1 => ?_⟩⟩
    have b1 := by'.sub bx
    refine hv1.at (by decide +kernel) (by decide +kernel) ⟨_, rfl, v1, _, p, by rw [hp]; rfl, hv1, b1.mono (by omega), by omega, Nat.lt_of_lt_of_le (show p < 2 ^ 7 by omega) (Nat.pow_le_pow_right (by decide) (by decide)), fun v2 H3 e3 hv2 => ?_⟩
    have b2 := b1.div (m := p) (k := 7) (by omega) (by omega)
    have hh3 := hh1.up (e2.trans e3)
    have hx3 := hx1.up (e2.trans e3)
    refine ⟨_, rfl, hx3.at (by decide +kernel) (by decide +kernel) ?_⟩
    refine ⟨_, rfl, hv2.at (by decide +kernel) (by decide +kernel) ?_⟩
    refine ⟨_, rfl, _, rfl, _, _, rfl, rfl, h, 2 + d + 1, _, rfl, hh3, by omega, by omega, by omega, fun t H4 t1 t2 x4 hh4 => ?_⟩
    obtain ⟨tn, htn⟩ : ∃ tn : Nat, (tn : Int) = t := ⟨t.toNat, by omega⟩
    subst htn
    intro z dz nz ndz nez
    refine ⟨z, dz, _, 1, rfl, upd_same, by decide, Nat.lt_of_lt_of_le (show 1 < 2 ^ 1 by decide) (Nat.pow_le_pow_right (by decide) (by decide)), rfl, ?_⟩
    have e5 := (Mv.made (K := K) (q := mkRat (tn : Int) 1) nz ndz).1
    have hz := (Mv.made (K := K) (q := mkRat (tn : Int) 1) nz ndz).2
    have hv4 := (hv2.hx hh3 x4).up e5
    have hx5 := (hx3.hx hh3 x4).up e5
    have bt : Bd 7 (mkRat (tn : Int) 1) := by
      rw [ofNat_mk]
      exact bd_nat (by omega) (by decide)
    refine ⟨_, _, _, _, rfl, hv4, hz, b2.mono (by omega), bt.mono (by decide), fun v6 H6 e6 hv6 => ?_⟩
    have b3 := b2.mul bt
    refine ⟨_, _, _, _, rfl, hx5.up e6, hv6, bx.mono (by omega), b3.mono (by omega), fun v7 H7 e7 hv7 => ?_⟩
    have b4 := bx.add b3
    have ee := (e5.trans e6).trans e7
    refine q v7 _ H7 (((x1.trans (SameX.of (e2.trans e3))).trans x4).trans (SameX.of ee)) ((hh4.up ee).mono (by omega)) hv7 (b4.mono (by omega)) fun hl => ?_
    rw [ofNat_mk]
    exact between_in (by omega) (by omega) hl
theorem ok_sizes_alike (T : Txt K mg w) (c1 : C8.Cal P w K mg base 5 "_law_between" (spBtw K) []) (c2 : C8.Met P w K mg base 8 (CL K) "size" (spSize K) []) (c3 : C8.Cal P w K mg base 1 "_law_alike" spAlike []) : C8.Cal P w K mg base 9 "_law_sizes_alike" (spSizes K) [] := by
  obtain ⟨fd, F⟩ := T.d_l_sizes_alike
  refine ⟨_, fd, ["_law_hand", "_law_first", "_law_second", "_law_start", "_law_goal", "_law_moved"], [], F.ok sc_l_sizes_alike (fun vs H Q E h => ?_) (fun cdv A outer s H vs Q E hr h => ?_), T.glo_l_sizes_alike, F.kp, F.bindsN (fun _ _ _ _ _ _ us hl => match us, hl with | [_, _, _, _, _, _], _ => rfl), .nil⟩
  · obtain ⟨h, v1, v2, x, y, L1, L2, lo, hi, m, c, rfl, _⟩ := h
    rfl
  · obtain ⟨h, v1, v2, x, y, L1, L2, lo, hi, m, c, rfl, hh, hc, h1, h2, ok1, bd1, ok2, bd2, hx, hy, bx, by', hl, al, q⟩ := h
    refine ⟨_, PSs.nox <| pss_cons (ps_for PassesOwn.never rfl (pi_list (pe_op op_cat (pe_lst (pa_cons (pv 3) (pa_cons (pv 4) pa_nil)))
          (pe_lc (own := [("_law_turn", 7)]) (g := gName 7) (tt := tYes) rfl sc_l_sizes_alike.nd (pi_range1 (by rfl) T.free_range (pa_cons pe_int pa_nil))
            (blkOk_by (own := [("_law_turn", 7)]) (N := N_l_sizes_alike) (sc := defScope s_l_sizes_alike) (by decide +kernel)) (fun _ _ _ _ _ => pg_name (i := 7) sc_l_sizes_alike.nd rfl (Or.inl rfl)) (fun _ _ _ _ _ => pts_nil)
            (fun _ _ _ _ _ => C8.pe_c c1 hr (by decide) (by rfl) (pa_cons (pv 0) (pa_cons (pv 3) (pa_cons (pv 4) pa_nil))))))) (pg_name (i := 6) sc_l_sizes_alike.nd rfl (Or.inl rfl))
        (pss_one <| ps_if (pt_not <| pt_val <| C8.pe_c c3 hr (by decide) (by rfl) (pa_cons (C8.pe_mt c2 hr (by decide) (pv 1) (pa_cons (pv 6) pa_nil)) (pa_cons (C8.pe_mt c2 hr (by decide) (pv 2) (pa_cons (pv 6) pa_nil)) (pa_cons (pv 5) pa_nil)))) (pss_one (ps_ret pe_bl)) pss_nil))
      <| pss_one (ps_ret pe_bl), ?_⟩
    refine ⟨_, rfl, _, rfl, by show 2 ≤ sizeLine; decide, fun A1 hA => ?_⟩
    have eA : Same H (upd H A1 (.lst [x, y])) := Same.upd hA
    have nA : A1 ≠ h := hh.nn hA
    have hA1 : upd H A1 (.lst [x, y]) A1 = some (.lst [x, y]) := upd_same
    have hhA := hh.up eA
    generalize upd H A1 (.lst [x, y]) = H0 at eA hA1 hhA
    refine ⟨_, rfl, by decide, by decide, fun D hD => ?_⟩
    have nD : D ≠ h := hhA.nn hD
    refine lc_range (lo := 0) (n := (15 : Int).toNat) (fun i H' => SameX h H0 H' ∧ HandAt H' h (c + 2 * (i : Int)) ∧ ∃ acc qs, H' D = some (.lst acc) ∧ Ms K H' acc qs ∧ qs.length = i ∧ ∀ z ∈ qs, lo ≤ z ∧ z ≤ hi ∧ Bd 2900 z)
      ⟨SameX.of (Same.upd hD), (hhA.up (Same.upd hD)).mono (by omega), [], [], upd_same, .nil, rfl, by simp⟩ ?_ ?_
    · rintro i H' hi' ⟨x1, hk, acc, qs, hacc, hq, lq, bq⟩
      have hi' : i < 15 := hi'
      have hx1 := (hx.up eA).hx hhA x1
      have hy1 := (hy.up eA).hx hhA x1
      refine ⟨rfl, yes_in ?_⟩
      refine ⟨_, rfl, _, rfl, _, rfl, h, x, y, _, lo, hi, 300, 1000, rfl, hk, by omega, hx1, hy1, bx, by', by decide, by decide, fun v z H2 x2 hk2 hv bz hz => ?_⟩
      have hz := hz hl
      have xu : SameX D H2 (upd H2 D (.lst (acc ++ [v]))) := SameX.upd
      have hD2 := x2 _ _ nD hacc
      refine ⟨acc, hD2, small1000 (by rw [ms_len hq]; omega), ?_, ?_, acc ++ [v], qs ++ [z], upd_same, ?_, by simp [lq], ?_⟩
      · intro b o nb eb
        rw [upd_ne (ne_of_none eb hD)]
        exact x2 _ _ nb (x1 _ _ nb eb)
      · obtain ⟨a', b', n', g1, g2, g3, g4, g5, g6⟩ := hk2
        exact ⟨a', b', n', by rw [upd_ne (Ne.symm nD)]; exact g1, g2, g3, g4, g5, by omega⟩
      · exact paired_append ((hq.hx hk x2).upx hD2 xu) (.cons (hv.upx hD2 xu) .nil)
      · intro u hu
        rcases List.mem_append.mp hu with g | g
        · exact bq u g
        · have : u = z := by simpa using g
          rw [this]
          exact ⟨hz.1, hz.2, bz.mono (by decide)⟩
    · rintro H' ⟨x1, hk, acc, qs, hacc, hq, lq, bq⟩
      have lq : qs.length = 15 := lq
      have la := ms_len hq
      refine ⟨A1, D, _, _, rfl, rfl, x1 _ _ nA hA1, hacc, Nat.le_of_lt (small1000 (by simp; omega)), fun B hB => ?_⟩
      have eB : Same H' (upd H' B (.lst ([x, y] ++ acc))) := Same.upd hB
      have hxB := ((hx.up eA).hx hhA x1).up eB
      have hyB := ((hy.up eA).hx hhA x1).up eB
      have hall : Ms K (upd H' B (.lst ([x, y] ++ acc))) ([x, y] ++ acc) ([lo, hi] ++ qs) := paired_append (.cons hxB (.cons hyB .nil)) (hq.up eB)
      have ball : ∀ z ∈ [lo, hi] ++ qs, lo ≤ z ∧ z ≤ hi ∧ Bd 2900 z := fun z hz => by
        rcases List.mem_append.mp hz with g | g
        · have : z = lo ∨ z = hi := by simpa using g
          rcases this with rfl | rfl
          · exact ⟨Rat.le_refl, hl, bx.mono (by decide)⟩
          · exact ⟨hl, Rat.le_refl, by'.mono (by decide)⟩
        · exact bq z g
      have h1B := ((h1.up eA).hx hhA x1).up eB
      have h2B := ((h2.up eA).hx hhA x1).up eB
      have hkB := hk.up eB
      have xB : SameX h H (upd H' B (.lst ([x, y] ++ acc))) := ((SameX.of eA).trans x1).trans (SameX.of eB)
      refine ⟨B, rfl, ⟨_, SqL.of upd_same⟩, ?_⟩
      refine for_list (K := K) (a := B) (xs := [x, y] ++ acc) (fun i σ H2 => Same (upd H' B (.lst ([x, y] ++ acc))) H2 ∧ ∃ a b, σ = [some (.ref h), some v1, some v2, some x, some y, some (.int m), a, b])
        ⟨Same.refl _, none, none, rfl⟩ (fun i σ H2 _ z => SqL.of (z.1 _ _ upd_same)) ?_ ?_
      · rintro i u σ H2 hi' ⟨e, a, b, rfl⟩
        obtain ⟨z, hz, hu⟩ := paired_mem hall hi'
        have bz := ball z (List.mem_of_getElem? hz)
        have h1e := h1B.up e
        refine ⟨_, rfl, h1e.at (by decide +kernel) (by decide +kernel) (by decide +kernel) (by decide +kernel) ⟨_, rfl, _, L1, _, _, rfl, h1e, ok1, bd1, hu.up e, bz.2.2.mono (by decide), fun H3 e3 => ?_⟩⟩
        have h2e := (h2B.up e).up e3
        refine ⟨_, rfl, h2e.at (by decide +kernel) (by decide +kernel) (by decide +kernel) (by decide +kernel) ⟨_, rfl, _, L2, _, _, rfl, h2e, ok2, bd2, (hu.up e).up e3, bz.2.2.mono (by decide), fun H4 e4 => ?_⟩⟩
        refine ⟨_, rfl, size L1 z, size L2 z, m, rfl, _, rfl, ?_⟩
        rw [decide_eq_true (al z bz.1 bz.2.1)]
        exact iteF ⟨(e.trans e3).trans e4, _, _, rfl⟩
      · rintro σ H2 ⟨e, a, b, rfl⟩
        exact q H2 (xB.trans (SameX.of e)) ((hkB.up e).mono (by omega))
end
end Sz

/-! The law's own defs, the ninth part: what is told is right. -/
namespace Sz
open PySem PySem.Spec PyProof.Rows L2 SzR
theorem partGo_mem {s1 s2 : Rat → Option Nat} {m : Int} {hi p : Rat} {b : Bool} {i j : Option Nat} : ∀ {ps : List Rat}, partGo s1 s2 m hi ps = .part p b i j → p ∈ ps
  | [], e => nomatch e
  | x :: r, e => by
    rw [partGo_cons] at e
    split at e
    · cases e
      exact List.mem_cons_self
    · split at e
      · split at e
        · cases e
          exact List.mem_cons_self
        · exact List.mem_cons_of_mem _ (partGo_mem e)
      · exact List.mem_cons_of_mem _ (partGo_mem e)
theorem told_bd {L1 L2 : Lad} (b1 : L1.Bnd) (b2 : L2.Bnd) {lo hi p : Rat} {m : Int} {b : Bool} {i j : Option Nat} (hl : Bd 64 lo) (e : parting L1 L2 lo hi m = .part p b i j) : Bd 200 p :=
  points_bd (fun z hz => by
    rcases List.mem_append.mp hz with g | g
    · exact ends_bd b1 g
    · exact ends_bd b2 g) (fun z hz => by
    have : z = lo := by simpa using hz
    rw [this]
    exact hl.mono (by decide)) p (partGo_mem e)
def spAhead (K : PySem.W.Frag) : Sp := fun vs H Q _ => ∃ h v1 v2 x t L1 L2 lo hi m c p b i j, vs = [.ref h, v1, v2, x, t, .int m] ∧ HandAt H h c ∧ c ≤ 600000 ∧ Lv K H v1 L1 ∧ Lv K H v2 L2 ∧ L1.Ok ∧ L1.Bnd ∧ L2.Ok ∧ L2.Bnd ∧ Mv K H x lo ∧ Bd 64 lo ∧ lo ≤ hi ∧
  parting L1 L2 lo hi m = .part p b i j ∧ PartV K H t (.part p b i j) ∧ ∀ H', SameX h H H' → HandAt H' h (c + 100) → Q (.bl true) H'
def spRight (K : PySem.W.Frag) : Sp := fun vs H Q _ => ∃ h v1 v2 t x y L1 L2 lo hi m c, vs = [.ref h, v1, v2, .ref t, .int m] ∧ HandAt H h c ∧ c ≤ 500000 ∧ Lv K H v1 L1 ∧ Lv K H v2 L2 ∧ L1.Ok ∧ L1.Bnd ∧ L2.Ok ∧ L2.Bnd ∧ H t = some (.tup [x, y]) ∧ Mv K H x lo ∧ Mv K H y hi ∧ Bd 64 lo ∧ Bd 64 hi ∧ lo ≤ hi ∧
  ∀ H', SameX h H H' → HandAt H' h (c + 200) → Q (.bl true) H'
section
variable {P : Program} {w : World} {K : PySem.W.Frag} {mg : Str → Option Value} {base : Heap}
theorem alike_v {H : Hp} {A : Addr} (hA : H A = none) : PartV K (upd H A (.tup [.str "alike"])) (.ref A) .alike := ⟨A, rfl, upd_same⟩
theorem ok_ahead (T : Txt K mg w) (c1 : C8.Cal P w K mg base 5 "_law_between" (spBtw K) []) (c2 : C8.Met P w K mg base 8 (CL K) "size" (spSize K) []) (c3 : C8.Met P w K mg base 1 (CM K) "is_below" (spBelow K) [.bl false]) (c4 : C8.Cal P w K mg base 11 "parting" (spParting K) [])
    (c5 : C8.Cal P w K mg base 9 "_law_sizes_alike" (spSizes K) []) (c6 : C8.Met P w K mg base 1 (CM K) "__eq__" (spEqM K) []) : C8.Cal P w K mg base 12 "_law_ahead_right" (spAhead K) [] := by
  obtain ⟨fd, F⟩ := T.d_l_ahead_right
  refine ⟨_, fd, ["_law_hand", "_law_first", "_law_second", "_law_start", "_law_told", "_law_moved"], [], F.ok sc_l_ahead_right (fun vs H Q E h => ?_) (fun cdv A outer s H vs Q E hr h => ?_), T.glo_l_ahead_right, F.kp, F.bindsN (fun _ _ _ _ _ _ us hl => match us, hl with | [_, _, _, _, _, _], _ => rfl), .nil⟩
  · obtain ⟨h, v1, v2, x, t, L1, L2, lo, hi, m, c, p, b, i, j, rfl, _⟩ := h
    rfl
  · obtain ⟨h, v1, v2, x, t, L1, L2, lo, hi, m, c, p, b, i, j, rfl, hh, hc, h1, h2, ok1, bd1, ok2, bd2, hx, bx, hl, ep, ht, q⟩ := h
    refine ⟨_, PSs.nox <| pss_cons (ps_set (i := 6) sc_l_ahead_right.nd rfl (Or.inl rfl) (pe_ix ix_tup (pv 4) pe_int (fun _ _ => rfl)))
      <| pss_cons (ps_set (i := 7) sc_l_ahead_right.nd rfl (Or.inl rfl) (C8.pe_c c1 hr (by decide) (by rfl) (pa_cons (pv 0) (pa_cons (pv 3) (pa_cons (pv 6) pa_nil)))))
      <| pss_cons (ps_if (PW.pt <| pw_or (pt_cmpR op_eq (pe_ix ix_tup (pv 4) pe_int (fun _ _ => rfl)) pe_str (nomark _)) <| pw_or1 <| pt_val <| C8.pe_mt c3 hr (by decide) (pv 7) (pa_cons (pv 6) pa_nil))
          (pss_cons (ps_if (pt_cmpR (op_neG mon_DM (eqDM c6) (hr.mono (by decide))) (C8.pe_c c4 hr (by decide) (by rfl) (pa_cons (pv 1) (pa_cons (pv 2) (pa_cons (pv 3) (pa_cons (pv 7) (pa_cons (pv 5) pa_nil)))))) (pe_tup (pa_cons pe_str pa_nil)) (nomark _)) (pss_one (ps_ret pe_bl)) pss_nil)
            <| pss_one <| ps_if (pt_not <| pt_val <| C8.pe_c c5 hr (by decide) (by rfl) (pa_cons (pv 0) (pa_cons (pv 1) (pa_cons (pv 2) (pa_cons (pv 3) (pa_cons (pv 7) (pa_cons (pv 5) pa_nil))))))) (pss_one (ps_ret pe_bl)) pss_nil) pss_nil)
      <| pss_cons (ps_if (pt_cmpR op_eq (pe_ix ix_tup (pv 4) pe_int (fun _ _ => rfl)) pe_str (nomark _))
          (pss_one <| ps_ret <| pe_cmpR (op_eqG (rcG_tup mon_DM (eqDM c6)) (hr.mono (by decide))) (pe_tup (pa_cons (C8.pe_mt c2 hr (by decide) (pv 1) (pa_cons (pv 6) pa_nil)) (pa_cons (C8.pe_mt c2 hr (by decide) (pv 2) (pa_cons (pv 6) pa_nil)) pa_nil))) (pe_slice sl_tup (pv 4) (po_some pe_int) po_none) (nomark _)) pss_nil)
      <| pss_one <| ps_ret <| pe_cmpR (op_eqG (rcG_tup mon_DM (eqDM c6)) (hr.mono (by decide))) (C8.pe_c c4 hr (by decide) (by rfl) (pa_cons (pv 1) (pa_cons (pv 2) (pa_cons (pv 3) (pa_cons (pv 6) (pa_cons (pv 5) pa_nil)))))) (pe_tup (pa_cons pe_str pa_nil)) (nomark _), ?_⟩
    have bp := told_bd bd1 bd2 bx ep
    obtain ⟨na, p1, p2⟩ := part_not ok1 ok2 hl ep
    obtain ⟨ta, xp, rfl, hta, hxp⟩ := ht
    refine ⟨_, rfl, ta, _, _, _, rfl, rfl, SqT.of hta, at_of (j := 1) rfl rfl, ?_⟩
    refine ⟨_, rfl, _, rfl, _, rfl, h, x, xp, c, lo, p, 64, 200, rfl, hh, by omega, hx, hxp, bx, bp, by decide, by decide, fun v z H1 x1 hh1 hv bz hz => ?_⟩
    obtain ⟨z1, z2⟩ := hz p1
    have h1a := h1.hx hh x1
    have h2a := h2.hx hh x1
    have hxa := hx.hx hh x1
    have hxpa := hxp.hx hh x1
    have hta1 := hh.keep x1 hta (fun _ w => nomatch w)
    cases b with
    | true =>
      have al := ahead_alike ok1 ok2 hl ep z1 z2 (.inl rfl)
      have al2 := ahead_alike ok1 ok2 hl ep p1 Rat.le_refl (.inl rfl)
      refine ⟨_, rfl, ta, _, _, _, rfl, rfl, SqT.of hta1, at_of (j := 2) rfl rfl, rfl, _, rfl, iteT (iteT ?_)⟩
      refine ⟨_, rfl, _, rfl, _, rfl, _, rfl, _, rfl, v1, v2, x, v, L1, L2, lo, z, m, rfl, h1a, h2a, ok1, bd1, ok2, bd2, hxa, hv, bx.mono (by decide), bz.mono (by decide), fun r H2 e2 hr2 => ?_⟩
      rw [al] at hr2
      refine ⟨by show 1 ≤ sizeLine; decide, fun N hN => ⟨(hr2.up (Same.upd hN)).dm (alike_v hN), fun H3 e3 => ⟨_, rfl, iteF ?_⟩⟩⟩
      have ee := (e2.trans (Same.upd (o := .tup [.str "alike"]) hN)).trans e3
      have h1b := h1a.up ee
      have h2b := h2a.up ee
      refine ⟨_, rfl, _, rfl, _, rfl, _, rfl, _, rfl, _, rfl, h, v1, v2, x, v, L1, L2, lo, z, m, _, rfl, hh1.up ee, by omega, h1b, h2b, ok1, bd1, ok2, bd2, hxa.up ee, hv.up ee, bx.mono (by decide), bz.mono (by decide), z1,
        fun y y1 y2 => alike_all ok1 ok2 z1 al y1 y2, fun H4 x4 hh4 => ⟨_, rfl, iteF ?_⟩⟩
      have hta4 := (hh1.up ee).keep x4 (ee _ _ hta1) (fun _ w => nomatch w)
      refine ⟨_, rfl, ta, _, _, _, rfl, rfl, SqT.of hta4, at_of (j := 2) rfl rfl, rfl, _, rfl, iteF ?_⟩
      have hhe := hh1.up ee
      refine ⟨_, rfl, _, rfl, _, rfl, _, rfl, _, rfl, v1, v2, x, xp, L1, L2, lo, p, m, rfl, h1b.hx hhe x4, h2b.hx hhe x4, ok1, bd1, ok2, bd2, (hxa.up ee).hx hhe x4, (hxpa.up ee).hx hhe x4, bx.mono (by decide), bp.mono (by decide), fun r5 H5 e5 hr5 => ?_⟩
      rw [al2] at hr5
      refine ⟨by show 1 ≤ sizeLine; decide, fun N5 hN5 => ⟨(hr5.up (Same.upd hN5)).dm (alike_v hN5), fun H6 e6 => ?_⟩⟩
      have e56 := (e5.trans (Same.upd (o := .tup [.str "alike"]) hN5)).trans e6
      exact q H6 (((x1.trans (SameX.of ee)).trans x4).trans (SameX.of e56)) ((hh4.up e56).mono (by omega))
    | false =>
      obtain ⟨s1, s2⟩ := at_sizes ok1 ok2 hl ep
      refine ⟨_, rfl, ta, _, _, _, rfl, rfl, SqT.of hta1, at_of (j := 2) rfl rfl, rfl, _, rfl, iteF ?_⟩
      refine ⟨_, rfl, hv.at (by decide +kernel) (by decide +kernel) ⟨_, rfl, _, _, z, p, false, rfl, hv, hxpa, bz.mono (by decide), bp.mono (by decide), _, rfl, ?_⟩⟩
      rw [Bool.false_and, Bool.or_false]
      by_cases c0 : z < p
      · rw [decide_eq_true c0]
        have al := ahead_alike ok1 ok2 hl ep z1 z2 (.inr c0)
        refine iteT ?_
        refine ⟨_, rfl, _, rfl, _, rfl, _, rfl, _, rfl, v1, v2, x, v, L1, L2, lo, z, m, rfl, h1a, h2a, ok1, bd1, ok2, bd2, hxa, hv, bx.mono (by decide), bz.mono (by decide), fun r H2 e2 hr2 => ?_⟩
        rw [al] at hr2
        refine ⟨by show 1 ≤ sizeLine; decide, fun N hN => ⟨(hr2.up (Same.upd hN)).dm (alike_v hN), fun H3 e3 => ⟨_, rfl, iteF ?_⟩⟩⟩
        have ee := (e2.trans (Same.upd (o := .tup [.str "alike"]) hN)).trans e3
        have h1b := h1a.up ee
        have h2b := h2a.up ee
        refine ⟨_, rfl, _, rfl, _, rfl, _, rfl, _, rfl, _, rfl, h, v1, v2, x, v, L1, L2, lo, z, m, _, rfl, hh1.up ee, by omega, h1b, h2b, ok1, bd1, ok2, bd2, hxa.up ee, hv.up ee, bx.mono (by decide), bz.mono (by decide), z1,
          fun y y1 y2 => alike_all ok1 ok2 z1 al y1 y2, fun H4 x4 hh4 => ⟨_, rfl, iteF ?_⟩⟩
        have hhe := hh1.up ee
        have hta4 := hhe.keep x4 (ee _ _ hta1) (fun _ w => nomatch w)
        have h1c := h1b.hx hhe x4
        have h2c := h2b.hx hhe x4
        have hxp4 := (hxpa.up ee).hx hhe x4
        have x04 := (x1.trans (SameX.of ee)).trans x4
        refine ⟨_, rfl, ta, _, _, _, rfl, rfl, SqT.of hta4, at_of (j := 2) rfl rfl, rfl, _, rfl, iteT ?_⟩
        refine ⟨_, rfl, h1c.at (by decide +kernel) (by decide +kernel) (by decide +kernel) (by decide +kernel) ⟨_, rfl, _, L1, _, _, rfl, h1c, ok1, bd1, hxp4, bp.mono (by decide), fun H5 e5 => ?_⟩⟩
        have h2d := h2c.up e5
        refine ⟨_, rfl, h2d.at (by decide +kernel) (by decide +kernel) (by decide +kernel) (by decide +kernel) ⟨_, rfl, _, L2, _, _, rfl, h2d, ok2, bd2, hxp4.up e5, bp.mono (by decide), fun H6 e6 => ?_⟩⟩
        rw [s1, s2]
        refine ⟨by show 2 ≤ sizeLine; decide, fun N hN => ?_⟩
        have e7 := (e5.trans e6).trans (Same.upd (o := .tup [oV i, oV j]) hN)
        refine ⟨_, rfl, 3, rfl, ta, _, rfl, SqT.of (e7 _ _ hta4), (by show ¬ (HT.sIx 5 0 (some 3) = 0 ∧ HT.sIx 5 5 none = 5); decide), fun S hS => ?_⟩
        have e8 : Same (upd H6 N (.tup [oV i, oV j])) (upd (upd H6 N (.tup [oV i, oV j])) S (.tup [oV i, oV j])) := Same.upd hS
        refine ⟨⟨N, S, _, _, rfl, rfl, SqT.of (e8 _ _ upd_same), SqT.of upd_same, prs_cons (dm_oV _) (prs_cons (dm_oV _) prs_nil)⟩, fun H9 e9 => ?_⟩
        have e10 := (e7.trans e8).trans e9
        exact q H9 (x04.trans (SameX.of e10)) ((hh4.up e10).mono (by omega))
      · rw [decide_eq_false c0]
        refine iteF ?_
        refine ⟨_, rfl, ta, _, _, _, rfl, rfl, SqT.of hta1, at_of (j := 2) rfl rfl, rfl, _, rfl, iteT ?_⟩
        refine ⟨_, rfl, h1a.at (by decide +kernel) (by decide +kernel) (by decide +kernel) (by decide +kernel) ⟨_, rfl, _, L1, _, _, rfl, h1a, ok1, bd1, hxpa, bp.mono (by decide), fun H5 e5 => ?_⟩⟩
        have h2d := h2a.up e5
        refine ⟨_, rfl, h2d.at (by decide +kernel) (by decide +kernel) (by decide +kernel) (by decide +kernel) ⟨_, rfl, _, L2, _, _, rfl, h2d, ok2, bd2, hxpa.up e5, bp.mono (by decide), fun H6 e6 => ?_⟩⟩
        rw [s1, s2]
        refine ⟨by show 2 ≤ sizeLine; decide, fun N hN => ?_⟩
        have e7 := (e5.trans e6).trans (Same.upd (o := .tup [oV i, oV j]) hN)
        refine ⟨_, rfl, 3, rfl, ta, _, rfl, SqT.of (e7 _ _ hta1), (by show ¬ (HT.sIx 5 0 (some 3) = 0 ∧ HT.sIx 5 5 none = 5); decide), fun S hS => ?_⟩
        have e8 : Same (upd H6 N (.tup [oV i, oV j])) (upd (upd H6 N (.tup [oV i, oV j])) S (.tup [oV i, oV j])) := Same.upd hS
        refine ⟨⟨N, S, _, _, rfl, rfl, SqT.of (e8 _ _ upd_same), SqT.of upd_same, prs_cons (dm_oV _) (prs_cons (dm_oV _) prs_nil)⟩, fun H9 e9 => ?_⟩
        have e10 := (e7.trans e8).trans e9
        exact q H9 (x1.trans (SameX.of e10)) ((hh1.up e10).mono (by omega))
end
end Sz

/-! The law's own defs, the tenth part: right; the law. -/
namespace Sz
open PySem PySem.Spec PyProof.Rows L2 SzR
theorem lt_units {k : Nat} {A : Around} (r : Room k A) : A.units < cLine := by
  have := r.un
  omega
theorem cut_three {a b c d e : V} : cutV [a, b, c, d, e] none (some 3) = [a, b, c] := rfl
def spLaw (K : PySem.W.Frag) : Sp := fun vs H Q _ => ∃ a, ∃ ns : List Int, vs = [.ref a] ∧ SqL K H a (ns.map V.int) ∧ ns.length ≤ 63 ∧ ∀ H', Same H H' → Q (.bl true) H'
section
variable {P : Program} {w : World} {K : PySem.W.Frag} {mg : Str → Option Value} {base : Heap}
theorem ok_right (T : Txt K mg w) (c1 : C8.Cal P w K mg base 5 "_law_between" (spBtw K) []) (c2 : C8.Cal P w K mg base 12 "shows_parting" (spShows K) []) (c3 : C8.Met P w K mg base 1 (CM K) "is_below" (spBelow K) [.bl false]) (c4 : C8.Cal P w K mg base 11 "parting" (spParting K) [])
    (c5 : C8.Cal P w K mg base 9 "_law_sizes_alike" (spSizes K) []) (c6 : C8.Met P w K mg base 1 (CM K) "__eq__" (spEqM K) []) (c7 : C8.Cal P w K mg base 1 "_law_alike" spAlike []) (c8 : C8.Cal P w K mg base 12 "_law_ahead_right" (spAhead K) []) : C8.Cal P w K mg base 13 "_law_right" (spRight K) [] := by
  obtain ⟨fd, F⟩ := T.d_l_right
  refine ⟨_, fd, ["_law_hand", "_law_first", "_law_second", "_law_ends", "_law_moved"], [], F.ok sc_l_right (fun vs H Q E h => ?_) (fun cdv A outer s H vs Q E hr h => ?_), T.glo_l_right, F.kp, F.bindsN (fun _ _ _ _ _ _ us hl => match us, hl with | [_, _, _, _, _], _ => rfl), .nil⟩
  · obtain ⟨h, v1, v2, t, x, y, L1, L2, lo, hi, m, c, rfl, _⟩ := h
    rfl
  · obtain ⟨h, v1, v2, t, x, y, L1, L2, lo, hi, m, c, rfl, hh, hc, h1, h2, ok1, bd1, ok2, bd2, ht, hx, hy, bx, by', hl, q⟩ := h
    have hu : (cxOf C8.CX0 P w K mg base N_l_right "_law_right" (defScope s_l_right) (He.fAd K ("_law_right", none)) cdv A outer s H E).nox.A.units < cLine := by
      exact lt_units hr
    refine ⟨_, PSs.nox <| pss_cons (ps_asg (pv 3) (pg_tup rfl (pgs_cons (pg_name (i := 5) sc_l_right.nd rfl (Or.inl rfl)) (pgs_cons (pg_name (i := 6) sc_l_right.nd rfl (Or.inl rfl)) pgs_nil))))
      <| pss_cons (ps_par (i := 7) (j := 8) rfl sc_l_right.nd rfl rfl (by decide) rfl rfl
          (pa_cons (C8.pe_c c4 hr (by decide) (by rfl) (pa_cons (pv 1) (pa_cons (pv 2) (pa_cons (pv 5) (pa_cons (pv 6) (pa_cons (pv 4) pa_nil))))))
            (pa_cons (C8.pe_c c4 hr (by decide) (by rfl) (pa_cons (pv 2) (pa_cons (pv 1) (pa_cons (pv 5) (pa_cons (pv 6) (pa_cons (pe_op op_sub pe_int (pv 4)) pa_nil)))))) pa_nil)) rfl)
      <| pss_cons (ps_if (pt_cmpR op_notBl (C8.pe_c c2 hr (by decide) (by rfl) (pa_cons (pv 1) (pa_cons (pv 2) (pa_cons (pv 5) (pa_cons (pv 6) (pa_cons (pv 4) (pa_cons (pv 7) pa_nil))))))) pe_bl (nomark _)) (pss_one (ps_ret pe_bl)) pss_nil)
      <| pss_cons (ps_if (pt_cmpR op_notBl (C8.pe_c c2 hr (by decide) (by rfl) (pa_cons (pv 2) (pa_cons (pv 1) (pa_cons (pv 5) (pa_cons (pv 6) (pa_cons (pe_op op_sub pe_int (pv 4)) (pa_cons (pv 8) pa_nil))))))) pe_bl (nomark _)) (pss_one (ps_ret pe_bl)) pss_nil)
      <| pss_cons (ps_if (pt_cmpR (op_eqZ hu) (pv 7) (pe_tup (pa_cons pe_str pa_nil)) (nomark _))
          (pss_cons (ps_set (i := 9) sc_l_right.nd rfl (Or.inl rfl) (C8.pe_c c1 hr (by decide) (by rfl) (pa_cons (pv 0) (pa_cons (pv 5) (pa_cons (pv 6) pa_nil)))))
            <| pss_cons (ps_if (PW.pt <| pw_or (pt_cmpR (op_neG mon_DM (eqDM c6) (hr.mono (by decide))) (pv 8) (pv 7) (nomark _)) <| pw_or1 <| pt_cmpR (op_neG mon_DM (eqDM c6) (hr.mono (by decide)))
                (C8.pe_c c4 hr (by decide) (by rfl) (pa_cons (pv 1) (pa_cons (pv 2) (pa_cons (pv 9) (pa_cons (pv 6) (pa_cons (pv 4) pa_nil)))))) (pv 7) (nomark _)) (pss_one (ps_ret pe_bl)) pss_nil)
            <| pss_one <| ps_ret <| C8.pe_c c5 hr (by decide) (by rfl) (pa_cons (pv 0) (pa_cons (pv 1) (pa_cons (pv 2) (pa_cons (pv 5) (pa_cons (pv 6) (pa_cons (pv 4) pa_nil))))))) pss_nil)
      <| pss_cons (ps_if (PW.pt <| pw_or (pt_cmpR (op_neG mon_DM (eqDM c6) (hr.mono (by decide))) (pv 8) (pe_op op_catT (pe_slice sl_tup (pv 7) po_none (po_some pe_int))
              (pe_tup (pa_cons (pe_ix ix_tup (pv 7) pe_int (fun _ _ => rfl)) (pa_cons (pe_ix ix_tup (pv 7) pe_int (fun _ _ => rfl)) pa_nil)))) (nomark _))
            <| pw_or1 <| pt_val <| C8.pe_c c7 hr (by decide) (by rfl) (pa_cons (pe_ix ix_tup (pv 7) pe_int (fun _ _ => rfl)) (pa_cons (pe_ix ix_tup (pv 7) pe_int (fun _ _ => rfl)) (pa_cons (pv 4) pa_nil)))) (pss_one (ps_ret pe_bl)) pss_nil)
      <| pss_cons (ps_if (pt_not <| pt_val <| C8.pe_c c8 hr (by decide) (by rfl) (pa_cons (pv 0) (pa_cons (pv 1) (pa_cons (pv 2) (pa_cons (pv 5) (pa_cons (pv 7) (pa_cons (pv 4) pa_nil))))))) (pss_one (ps_ret pe_bl)) pss_nil)
      <| pss_cons (ps_set (i := 10) sc_l_right.nd rfl (Or.inl rfl) (C8.pe_c c1 hr (by decide) (by rfl) (pa_cons (pv 0) (pa_cons (pe_ix ix_tup (pv 7) pe_int (fun _ _ => rfl)) (pa_cons (pv 6) pa_nil)))))
      <| pss_cons (ps_if (PW.pt <| pw_or (pt_cmpR op_eq (pe_ix ix_tup (pv 7) pe_int (fun _ _ => rfl)) pe_str (nomark _)) <| pw_or1 <| pt_val <| C8.pe_mt c3 hr (by decide) (pe_ix ix_tup (pv 7) pe_int (fun _ _ => rfl)) (pa_cons (pv 10) pa_nil))
          (pss_one <| ps_ret <| pe_cmpR (op_eqG (rcG_tup mon_DM (eqDM c6)) (hr.mono (by decide))) (C8.pe_c c4 hr (by decide) (by rfl) (pa_cons (pv 1) (pa_cons (pv 2) (pa_cons (pv 5) (pa_cons (pv 10) (pa_cons (pv 4) pa_nil)))))) (pv 7) (nomark _)) pss_nil)
      <| pss_one (ps_ret pe_bl), ?_⟩
    have sw := parting_swap ok1 ok2 hl (m := m)
    refine ⟨_, rfl, t, _, rfl, SqT.of ht, rfl, _, _, rfl, _, _, rfl, rfl, ?_⟩
    refine ⟨_, rfl, _, rfl, _, rfl, _, rfl, _, rfl, v1, v2, x, y, L1, L2, lo, hi, m, rfl, h1, h2, ok1, bd1, ok2, bd2, hx, hy, bx.mono (by decide), by'.mono (by decide), fun r1 H1 e1 hr1 => ?_⟩
    refine ⟨_, rfl, _, rfl, _, rfl, _, rfl, _, rfl, _, _, rfl, rfl, v2, v1, x, y, L2, L1, lo, hi, 0 - m, rfl, h2.up e1, h1.up e1, ok2, bd2, ok1, bd1, hx.up e1, hy.up e1, bx.mono (by decide), by'.mono (by decide), fun r2 H2 e2 hr2 => ?_⟩
    refine ⟨_, _, rfl, ?_⟩
    have e12 := e1.trans e2
    refine ⟨_, rfl, _, rfl, _, rfl, _, rfl, _, rfl, _, rfl, v1, v2, x, y, L1, L2, lo, hi, m, r1, rfl, h1.up e12, h2.up e12, ok1, bd1, ok2, bd2, hx.up e12, hy.up e12, bx.mono (by decide), by'.mono (by decide), hr1.up e2, fun H3 e3 => ?_⟩
    refine ⟨_, _, rfl, rfl, _, rfl, iteF ?_⟩
    have e13 := e12.trans e3
    refine ⟨_, rfl, _, rfl, _, rfl, _, rfl, _, rfl, _, _, rfl, rfl, _, rfl, v2, v1, x, y, L2, L1, lo, hi, 0 - m, r2, rfl, h2.up e13, h1.up e13, ok2, bd2, ok1, bd1, hx.up e13, hy.up e13, bx.mono (by decide), by'.mono (by decide), hr2.up e3, fun H4 e4 => ?_⟩
    refine ⟨_, _, rfl, rfl, _, rfl, iteF ?_⟩
    have e14 := e13.trans e4
    have k1 := hr1.up ((e2.trans e3).trans e4)
    have k2 := hr2.up (e3.trans e4)
    rw [sw] at k2
    refine ⟨_, rfl, by show 1 ≤ sizeLine; decide, fun N hN => ?_⟩
    have e5 := e14.trans (Same.upd (o := .tup [.str "alike"]) hN)
    replace k1 := k1.up (Same.upd (o := .tup [.str "alike"]) hN)
    replace k2 := k2.up (Same.upd (o := .tup [.str "alike"]) hN)
    have hNv : upd H4 N (.tup [.str "alike"]) N = some (.tup [.str "alike"]) := upd_same
    generalize upd H4 N (.tup [.str "alike"]) = H5 at e5 k1 k2 hNv
    have hh5 := hh.up e5
    have h15 := h1.up e5
    have h25 := h2.up e5
    have hx5 := hx.up e5
    have hy5 := hy.up e5
    cases ep : parting L1 L2 lo hi m with
    | alike =>
      rw [ep] at k1 k2
      have k2 : PartV K H5 r2 .alike := k2
      obtain ⟨ta, rfl, hta⟩ := id k1
      refine ⟨ta, N, _, _, rfl, rfl, SqT.of hta, SqT.of hNv, (fun j hj => by
        have : j = 0 := by
          have hj : j < 1 := hj
          omega
        subst this
        exact ⟨rfl, rfl⟩), _, rfl, iteT ?_⟩
      refine ⟨_, rfl, _, rfl, _, rfl, h, x, y, c, lo, hi, 64, 64, rfl, hh5, by omega, hx5, hy5, bx, by', by decide, by decide, fun v z H6 x6 hh6 hv bz hz => ?_⟩
      obtain ⟨z1, z2⟩ := hz hl
      have al := alike_less ok1 ok2 hl ep z1 z2 Rat.le_refl
      have k16 := k1.hx hh5 x6
      have k26 := k2.hx hh5 x6
      have h16 := h15.hx hh5 x6
      have h26 := h25.hx hh5 x6
      have hx6 := hx5.hx hh5 x6
      have hy6 := hy5.hx hh5 x6
      refine ⟨_, rfl, _, rfl, k26.dm k16, fun H7 e7 => ⟨_, rfl, iteF ?_⟩⟩
      refine ⟨_, rfl, _, rfl, _, rfl, _, rfl, _, rfl, v1, v2, v, y, L1, L2, z, hi, m, rfl, h16.up e7, h26.up e7, ok1, bd1, ok2, bd2, hv.up e7, hy6.up e7, bz.mono (by decide), by'.mono (by decide), fun r8 H8 e8 hr8 => ?_⟩
      rw [al] at hr8
      have e78 := e7.trans e8
      refine ⟨_, rfl, hr8.dm (k16.up e78), fun H9 e9 => ⟨_, rfl, iteF ?_⟩⟩
      have e79 := e78.trans e9
      refine ⟨_, rfl, _, rfl, _, rfl, _, rfl, _, rfl, _, rfl, h, v1, v2, x, y, L1, L2, lo, hi, m, _, rfl, hh6.up e79, by omega, h16.up e79, h26.up e79, ok1, bd1, ok2, bd2, hx6.up e79, hy6.up e79, bx.mono (by decide), by'.mono (by decide), hl,
        fun u u1 u2 => alike_all ok1 ok2 hl ep u1 u2, fun H10 x10 hh10 => ?_⟩
      exact q H10 (((SameX.of e5).trans x6).trans ((SameX.of e79).trans x10)) (hh10.mono (by omega))
    | part p b i j =>
      rw [ep] at k1 k2
      have k2 : PartV K H5 r2 (.part p b j i) := k2
      have bp := told_bd bd1 bd2 bx ep
      obtain ⟨na, p1, p2⟩ := part_not ok1 ok2 hl ep
      obtain ⟨ta, xp, rfl, hta, hxp⟩ := id k1
      refine ⟨ta, N, _, _, rfl, rfl, SqT.of hta, SqT.of hNv, (fun j hj => by
        have : j = 0 := by
          have hj : j < 1 := hj
          omega
        subst this
        exact ⟨rfl, rfl⟩), _, rfl, iteF ?_⟩
      -- the other way about
      refine ⟨_, rfl, _, rfl, 3, rfl, ta, _, rfl, SqT.of hta, (by show ¬ (HT.sIx 5 0 none = 0 ∧ HT.sIx 5 5 (some 3) = 5); decide), fun S hS => ?_⟩
      have e6 : Same H5 (upd H5 S (.tup [.str "part", xp, .str (if b then "behind" else "at")])) := Same.upd hS
      have hSv : upd H5 S (.tup [.str "part", xp, .str (if b then "behind" else "at")]) S = some (.tup [.str "part", xp, .str (if b then "behind" else "at")]) := upd_same
      rw [cut_three]
      generalize upd H5 S (.tup [.str "part", xp, .str (if b then "behind" else "at")]) = H6 at e6 hSv
      have hta6 := e6 _ _ hta
      refine ⟨_, rfl, ta, _, _, _, rfl, rfl, SqT.of hta6, at_of (j := 4) rfl rfl, _, rfl, ta, _, _, _, rfl, rfl, SqT.of hta6, at_of (j := 3) rfl rfl, by show 2 ≤ sizeLine; decide, fun U hU => ?_⟩
      have e7 : Same H6 (upd H6 U (.tup [oV j, oV i])) := Same.upd hU
      refine ⟨S, U, _, _, rfl, rfl, SqT.of (e7 _ _ hSv), SqT.of upd_same, (fun z => nomatch z), (by show 5 ≤ sizeLine; decide), (fun z => nomatch z), fun _ W hW => ?_⟩
      have e8 : Same (upd H6 U (.tup [oV j, oV i])) (upd (upd H6 U (.tup [oV j, oV i])) W (.tup ([.str "part", xp, .str (if b then "behind" else "at")] ++ [oV j, oV i]))) := Same.upd hW
      have e58 := (e6.trans e7).trans e8
      refine ⟨(k2.up e58).dm (r := .part p b j i) ⟨W, xp, rfl, upd_same, hxp.up e58⟩, fun H9 e9 => ⟨_, rfl, iteF ?_⟩⟩
      have e59 := e58.trans e9
      have hta9 := e59 _ _ hta
      refine ⟨_, rfl, ta, _, _, _, rfl, rfl, SqT.of hta9, at_of (j := 3) rfl rfl, _, rfl, ta, _, _, _, rfl, rfl, SqT.of hta9, at_of (j := 4) rfl rfl, _, rfl, i, j, m, rfl, _, rfl, ?_⟩
      rw [decide_eq_false na]
      refine iteF ?_
      -- ahead
      have hh9 := hh5.up e59
      refine ⟨_, rfl, _, rfl, _, rfl, _, rfl, _, rfl, _, rfl, h, v1, v2, x, .ref ta, L1, L2, lo, hi, m, c, p, b, i, j, rfl, hh9, by omega, h15.up e59, h25.up e59, ok1, bd1, ok2, bd2, hx5.up e59, bx, hl, ep, k1.up e59, fun H10 x10 hh10 => ⟨_, rfl, iteF ?_⟩⟩
      have hta10 := hh9.keep x10 hta9 (fun _ w => nomatch w)
      have hxp10 := (hxp.up e59).hx hh9 x10
      have hy10 := (hy5.up e59).hx hh9 x10
      refine ⟨_, rfl, _, rfl, ta, _, _, _, rfl, rfl, SqT.of hta10, at_of (j := 1) rfl rfl, _, rfl, h, xp, y, _, p, hi, 200, 64, rfl, hh10, by omega, hxp10, hy10, bp, by', by decide, by decide, fun v z H11 x11 hh11 hv bz hz => ?_⟩
      obtain ⟨z1, z2⟩ := hz p2
      have hta11 := hh10.keep x11 hta10 (fun _ w => nomatch w)
      have hxp11 := hxp10.hx hh10 x11
      have xall := ((SameX.of e5).trans (SameX.of e59)).trans (x10.trans x11)
      have h111 := ((h15.up e59).hx hh9 x10).hx hh10 x11
      have h211 := ((h25.up e59).hx hh9 x10).hx hh10 x11
      have hx11 := ((hx5.up e59).hx hh9 x10).hx hh10 x11
      have k111 := ((k1.up e59).hx hh9 x10).hx hh10 x11
      have go : ∀ (nx : b = false ∨ p < z) (r : V) (H12 : Hp), Same H11 H12 → PartV K H12 r (parting L1 L2 lo z m) → DTup K (DM K) r (.ref ta) H12 := fun nx r H12 e12 hr => by
        rw [further ok1 ok2 hl ep z1 z2 nx] at hr
        exact hr.dm (k111.up e12)
      cases b with
      | false =>
        refine ⟨_, rfl, ta, _, _, _, rfl, rfl, SqT.of hta11, at_of (j := 2) rfl rfl, rfl, _, rfl, iteT (iteT ?_)⟩
        refine ⟨_, rfl, _, rfl, _, rfl, _, rfl, _, rfl, v1, v2, x, v, L1, L2, lo, z, m, rfl, h111, h211, ok1, bd1, ok2, bd2, hx11, hv, bx.mono (by decide), bz.mono (by decide), fun r12 H12 e12 hr12 => ?_⟩
        exact ⟨_, rfl, go (.inl rfl) r12 H12 e12 hr12, fun H13 e13 => q H13 (xall.trans (SameX.of (e12.trans e13))) ((hh11.up (e12.trans e13)).mono (by omega))⟩
      | true =>
        refine ⟨_, rfl, ta, _, _, _, rfl, rfl, SqT.of hta11, at_of (j := 2) rfl rfl, rfl, _, rfl, iteF ?_⟩
        refine ⟨_, rfl, ta, _, _, _, rfl, rfl, SqT.of hta11, at_of (j := 1) rfl rfl, hxp11.at (by decide +kernel) (by decide +kernel) ⟨_, rfl, _, _, p, z, false, rfl, hxp11, hv, bp.mono (by decide), bz.mono (by decide), _, rfl, ?_⟩⟩
        rw [Bool.false_and, Bool.or_false]
        by_cases c0 : p < z
        · rw [decide_eq_true c0]
          refine iteT ?_
          refine ⟨_, rfl, _, rfl, _, rfl, _, rfl, _, rfl, v1, v2, x, v, L1, L2, lo, z, m, rfl, h111, h211, ok1, bd1, ok2, bd2, hx11, hv, bx.mono (by decide), bz.mono (by decide), fun r12 H12 e12 hr12 => ?_⟩
          exact ⟨_, rfl, go (.inr c0) r12 H12 e12 hr12, fun H13 e13 => q H13 (xall.trans (SameX.of (e12.trans e13))) ((hh11.up (e12.trans e13)).mono (by omega))⟩
        · rw [decide_eq_false c0]
          exact iteF (q H11 xall (hh11.mono (by omega)))
theorem ok_law (T : Txt K mg w) (c1 : C8.Cal P w K mg base 1 "_law_hand_at" (spHand K) []) (c2 : C8.Cal P w K mg base 3 "_law_grain" spGrain []) (c3 : C8.Cal P w K mg base 4 "_law_drawn_ladder" spDL []) (c4 : C8.Cal P w K mg base 5 "_law_two_ladder" spTwo [])
    (c5 : C8.Cal P w K mg base 2 "_law_pick" spPick []) (c6 : C8.Cal P w K mg base 3 "_law_span" spSpan []) (c7 : C8.Cal P w K mg base 13 "_law_right" (spRight K) []) (c8 : C8.Cal P w K mg base 6 "_law_made" (spMade K) []) (mk : C8.Mak P w K mg base 2 "Measure" (CM K) (spMkM K) []) :
    ∀ fd, FunD K "law" "law" (defArgs s_law) (defBody s_law) (defScope s_law) [] [] (He.fAd K ("law", none)) fd → FnOk P w K mg base C8.CX0 14 (He.fAd K ("law", none)) fd ["_law_script"] (spLaw K) := by
  intro fd F
  refine F.ok sc_law (fun vs H Q E h => ?_) (fun cdv A outer s H vs Q E hr h => ?_)
  · obtain ⟨a, ns, rfl, _⟩ := h
    rfl
  · obtain ⟨a, ns, rfl, hs, hn, q⟩ := h
    refine ⟨_, PSs.nox <| pss_cons (ps_for PassesOwn.never rfl (pi_range1 (by rfl) T.free_range (pa_cons (pe_op op_add pe_int (pe_callB (call_min2 rfl) (by rfl) T.free_min (by decide +kernel) (pa_cons pe_int (pa_cons (pe_callB call_len_seq (by rfl) T.free_len PySem.boot_len (pa_cons (pv 0) pa_nil)) pa_nil)))) pa_nil)) (pg_name (i := 1) sc_law.nd rfl (Or.inl rfl))
        (pss_cons (ps_set (i := 2) sc_law.nd rfl (Or.inl rfl) (C8.pe_c c1 hr (by decide) (by rfl) (pa_cons (pv 0) (pa_cons (pv 1) pa_nil))))
          <| pss_cons (ps_par (i := 3) (j := 4) rfl sc_law.nd rfl rfl (by decide) rfl rfl (pa_cons (C8.pe_c c2 hr (by decide) (by rfl) (pa_cons (pv 2) pa_nil)) (pa_cons (C8.pe_c c3 hr (by decide) (by rfl) (pa_cons (pv 2) pa_nil)) pa_nil)) rfl)
          <| pss_cons (ps_par (i := 5) (j := 6) rfl sc_law.nd rfl rfl (by decide) rfl rfl (pa_cons (C8.pe_c c4 hr (by decide) (by rfl) (pa_cons (pv 2) (pa_cons (pv 4) pa_nil)))
              (pa_cons (C8.pe_c c5 hr (by decide) (by rfl) (pa_cons (pv 2) (pa_cons (pe_lst (pa_cons pe_int (pa_cons pe_int (pa_cons pe_int (pa_cons (pe_un un_neg pe_int) pa_nil))))) pa_nil))) pa_nil)) rfl)
          <| pss_cons (ps_set (i := 7) sc_law.nd rfl (Or.inl rfl) (C8.pe_c c6 hr (by decide) (by rfl) (pa_cons (pv 2) (pa_cons (pv 4) (pa_cons (pv 5) pa_nil)))))
          <| pss_cons (ps_set (i := 8) sc_law.nd rfl (Or.inl rfl) (pe_tup (pa_cons (C8.pe_mk mk hr (by decide) (by rfl) (pa_cons (pe_ix ix_tup (pv 7) pe_int (fun _ _ => rfl)) (pa_cons (pv 3) pa_nil)))
              (pa_cons (C8.pe_mk mk hr (by decide) (by rfl) (pa_cons (pe_ix ix_tup (pv 7) pe_int (fun _ _ => rfl)) (pa_cons (pv 3) pa_nil))) pa_nil))))
          <| pss_one <| ps_if (pt_not <| pt_val <| C8.pe_c c7 hr (by decide) (by rfl) (pa_cons (pv 2) (pa_cons (C8.pe_c c8 hr (by decide) (by rfl) (pa_cons (pv 4) (pa_cons (pv 3) pa_nil))) (pa_cons (C8.pe_c c8 hr (by decide) (by rfl) (pa_cons (pv 5) (pa_cons (pv 3) pa_nil))) (pa_cons (pv 8) (pa_cons (pv 6) pa_nil))))))
              (pss_one (ps_ret pe_bl)) pss_nil))
      <| pss_one (ps_ret pe_bl), ?_⟩
    have ln : (ns.map V.int).length = ns.length := List.length_map ..
    obtain ⟨M, hM, hM2⟩ : ∃ M : Int, M = 2 + (if ((ns.map V.int).length : Int) < 3 then ((ns.map V.int).length : Int) else 3) ∧ 0 ≤ M ∧ M ≤ 5 := by
      refine ⟨_, rfl, ?_⟩
      split <;> omega
    refine ⟨_, rfl, a, _, rfl, .inl hs, _, _, rfl, _, _, rfl, rfl, _, rfl, ?_, ?_, ?_⟩
    · rw [← hM]; omega
    · rw [← hM]; omega
    rw [← hM]
    refine for_range (lo := 0) (n := M.toNat) (fun i σ H' => Same H H' ∧ ∃ b c d e f g h k, σ = [some (.ref a), b, c, d, e, f, g, h, k]) ⟨Same.refl _, none, none, none, none, none, none, none, none, rfl⟩ ?_ ?_
    · rintro i σ H0 hi ⟨e0, _, _, _, _, _, _, _, _, rfl⟩
      have i5 : i ≤ 5 := by omega
      refine ⟨_, rfl, _, rfl, a, i, ns, ?_, i5, hs.ext e0, by omega, fun h H1 e1 n1 hh1 => ?_⟩
      · rw [show ((0 : Int) + (i : Int)) = (i : Int) by omega]
        rfl
      refine ⟨_, rfl, h, 0, rfl, hh1, by decide, fun g H2 g1 g2 x2 hh2 => ?_⟩
      refine ⟨_, rfl, h, _, rfl, hh2, by decide, fun v1 D1 H3 x3 hh3 hd1 wf1 => ?_⟩
      refine ⟨_, _, rfl, ?_⟩
      refine ⟨_, rfl, _, rfl, h, v1, _, D1, rfl, hh3, by decide, hd1, wf1, fun v2 D2 H4 x4 hh4 hd2 wf2 => ?_⟩
      refine ⟨_, rfl, _, rfl, by show 4 ≤ sizeLine; decide, fun R hR => ?_⟩
      have eR : Same H4 (upd H4 R (.lst [.int 0, .int 0, .int 1, .int (-1)])) := Same.upd hR
      refine ⟨h, R, _, _, rfl, hh4.up eR, by decide, hh4.nn hR, upd_same, by decide, by decide, fun v H5 hv x5 hh5 => ?_⟩
      have hv : ∃ m : Int, v = .int m := by
        have hv : v = .int 0 ∨ v = .int 1 ∨ v = .int (-1) := by simpa using hv
        rcases hv with rfl | rfl | rfl <;> exact ⟨_, rfl⟩
      obtain ⟨m, rfl⟩ := hv
      refine ⟨_, _, rfl, ?_⟩
      have hd15 := ((hd1.upx x4).upx (SameX.of eR)).upx x5
      have hd25 := (hd2.upx (SameX.of eR)).upx x5
      have wf15 : D1.WF 50000 := wf1.mono (by decide)
      refine ⟨_, rfl, _, rfl, _, rfl, h, v1, v2, _, D1, D2, rfl, hh5, by decide, hd15, hd25, wf15, wf2, fun v lo hi H6 x6 hh6 hsp hl bl bh => ?_⟩
      obtain ⟨ts, rfl, nts, hts⟩ := hsp
      have gb : g.toNat < 2 ^ 8000 := Nat.lt_of_lt_of_le (show g.toNat < 2 ^ 64 by omega) (Nat.pow_le_pow_right (by decide) (by decide))
      refine ⟨_, rfl, ts, _, _, _, rfl, rfl, SqT.of hts, at_of (j := 0) rfl rfl, _, rfl, fun z dz nz ndz nez => ?_⟩
      refine ⟨z, dz, lo, g.toNat, by show _ = [V.ref z, .int _, .int ((g.toNat : Nat) : Int)]; rw [Int.toNat_of_nonneg (by omega)]; rfl, upd_same, by omega, gb, rfl, ?_⟩
      have e7 := (Mv.made (K := K) (q := mkRat lo g.toNat) nz ndz).1
      have m7 := (Mv.made (K := K) (q := mkRat lo g.toNat) nz ndz).2
      generalize upd (upd (upd H6 dz (.own z)) z (.ins (CM K) dz [])) z (.ins (CM K) dz (mF (mkRat lo g.toNat))) = H7 at e7 m7
      refine ⟨_, rfl, ts, _, _, _, rfl, rfl, SqT.of (e7 _ _ hts), at_of (j := 1) rfl rfl, _, rfl, fun z2 dz2 nz2 ndz2 nez2 => ?_⟩
      refine ⟨z2, dz2, hi, g.toNat, by show _ = [V.ref z2, .int _, .int ((g.toNat : Nat) : Int)]; rw [Int.toNat_of_nonneg (by omega)]; rfl, upd_same, by omega, gb, rfl, ?_⟩
      have e8 := (Mv.made (K := K) (q := mkRat hi g.toNat) nz2 ndz2).1
      have m8 := (Mv.made (K := K) (q := mkRat hi g.toNat) nz2 ndz2).2
      generalize upd (upd (upd H7 dz2 (.own z2)) z2 (.ins (CM K) dz2 [])) z2 (.ins (CM K) dz2 (mF (mkRat hi g.toNat))) = H8 at e8 m8
      refine ⟨by show 2 ≤ sizeLine; decide, fun te hte => ?_⟩
      have e9 : Same H8 (upd H8 te (.tup [.ref z, .ref z2])) := Same.upd hte
      have m79 := (m7.up e8).up e9
      have m89 := m8.up e9
      have e69 := (e7.trans e8).trans e9
      have hte9 : upd H8 te (.tup [.ref z, .ref z2]) te = some (.tup [.ref z, .ref z2]) := upd_same
      generalize upd H8 te (.tup [.ref z, .ref z2]) = H9 at e9 m79 m89 e69 hte9
      have hd19 := (hd15.upx x6).upx (SameX.of e69)
      have hd29 := (hd25.upx x6).upx (SameX.of e69)
      refine ⟨_, rfl, _, rfl, _, rfl, h, v1, g, D1, rfl, hd19, wf15, g1, g2, fun w1 H10 e10 hw1 => ?_⟩
      refine ⟨_, rfl, _, rfl, h, v2, g, D2, rfl, hd29.upx (SameX.of e10), wf2, g1, g2, fun w2 H11 e11 hw2 => ?_⟩
      have e911 := e10.trans e11
      refine ⟨_, rfl, _, rfl, h, w1, w2, te, .ref z, .ref z2, D1.lad g, D2.lad g, mq g lo, mq g hi, m, _, rfl, (hh6.up e69).up e911, by decide, hw1.up e11, hw2, LL.ok wf15 g1, LL.bnd wf15 (by decide) g1 g2, LL.ok wf2 g1, LL.bnd wf2 (by decide) g1 g2,
        e911 _ _ hte9, m79.up e911, m89.up e911, mq_bd g1 g2 (by omega), mq_bd g1 g2 (by omega), mq_le g1 hl, fun H12 x12 hh12 => ⟨_, rfl, iteF ⟨?_, _, _, _, _, _, _, _, _, rfl⟩⟩⟩
      have xx : SameX h H1 H12 := ((((((x2.trans x3).trans x4).trans (SameX.of eR)).trans x5).trans x6).trans (SameX.of (e69.trans e911))).trans x12
      exact e0.trans (SameX.same n1 e1 xx)
    · rintro σ H' ⟨e, _, _, _, _, _, _, _, _, rfl⟩
      exact q H' e
theorem law_binds {fd : FuncData} (F : FunD K "law" "law" (defArgs s_law) (defBody s_law) (defScope s_law) [] [] (He.fAd K ("law", none)) fd) (s : Shared) (v : Value) : BindsTo s fd ⟨[v], []⟩ [("_law_script", v)] := by
  have b := FunD.bindsA (ps := ["_law_script"]) F fun _ _ _ _ _ _ us hl => match us, hl with | [_], _ => rfl
  exact b s [v] rfl
end
end Sz

/-! All promises put together; the end. -/
namespace Sz
open PySem PySem.Spec PyProof.Rows L2 SzR
theorem all_law {P : Program} {w : World} {K : PySem.W.Frag} {mg : Str → Option Value} {base : Heap} (T : Txt K mg w) (fd : FuncData) (F : FunD K "law" "law" (defArgs s_law) (defBody s_law) (defScope s_law) [] [] (He.fAd K ("law", none)) fd) :
    FnOk P w K mg base C8.CX0 14 (He.fAd K ("law", none)) fd ["_law_script"] (spLaw K) := by
  have whole := ok_is_whole (P := P) (base := base) T
  have common := ok_common (P := P) (base := base) T
  have mk2 := mak_M2 T whole common
  have mk1 := mak_M1 T whole common
  have eqM := ok_M_eq (P := P) (base := base) T
  have plus := ok_plus T mk2
  have minus := ok_minus T mk2
  have times := ok_times T mk2
  obtain ⟨parted, parted2⟩ := ok_parted T mk2
  have below := ok_below (P := P) (base := base) T
  have mid := ok_midst T plus parted2
  have isEnd := ok_is_end (P := P) (base := base) T
  have isSome := ok_is_some T below eqM
  have mkS := ok_S_init T isEnd isSome
  have later := ok_later_begin T below eqM
  have earlier := ok_earlier_end T below eqM
  have cut := ok_cut T later earlier isSome mkS
  have isMon := ok_is_mon (P := P) (base := base) T
  have areM := ok_are_measures (P := P) (base := base) T
  have slip := ok_first_slip T below
  have isRule := ok_is_rule (P := P) (base := base) T
  have szs : ∀ r, C8.CalAt P w K mg base 7 (He.ga K (szN r)) (spSz K r) := fun r => by
    cases r with
    | up => exact ok_up_size T below
    | down => exact ok_down_size T below
    | near => exact ok_near_size T below mid
  have sts : ∀ r, C8.CalAt P w K mg base 7 (He.ga K (stN r)) (spSt K r) := fun r => by
    cases r with
    | up => exact ok_up_stretch T mkS
    | down => exact ok_down_stretch T mkS
    | near => exact ok_near_stretch T mid mkS
  have mkL := mk_lad T (ok_L_init T areM isRule isMon below slip)
  have lets := ok_lets_in T below
  have check := ok_check (P := P) (base := base) T
  have len := ok_len (P := P) (base := base) T
  have size := ok_size T lets szs
  have stretch := ok_stretch T check sts cut mkS
  have put := ok_put T below eqM
  have ends := ok_ends_of T len stretch
  have alike := ok_alike (P := P) (base := base) T
  have points := ok_points T below (bel_k T) put ends
  have part := ok_parting T below size alike mid points
  have isSize := ok_is_size (P := P) (base := base) T
  have shows := ok_shows T part isSize eqM
  have take := ok_take (P := P) (base := base) T
  have pick := ok_pick T take
  have grain := ok_grain T pick
  have hand := ok_hand_at (P := P) (base := base) T
  have marks := ok_drawn_marks T take pick
  have lad := ok_drawn_ladder T take pick marks
  have msr := ok_l_measure T mk2
  have made := ok_made T mk2 mkL msr
  have pts := ok_l_points (P := P) (base := base) T
  have span := ok_span T take pick pts
  have two := ok_two T take pick lad
  have lalike := ok_l_alike (P := P) (base := base) T
  have btw := ok_between T take mk1 plus minus times parted
  have sizes := ok_sizes_alike T btw size lalike
  have ahead := ok_ahead T btw size below part sizes eqM
  have right := ok_right T btw shows below part sizes eqM lalike ahead
  exact ok_law T hand grain lad two pick span right made mk2 fd F
end Sz
open PySem PySem.W PySem.Calls PyProof.Rows
theorem PySem.Challenge.cw_sizeladders_k41_whole_nowhere_ahead_holds : PySem.Challenge.rw_sizeladders_k41_whole_nowhere_ahead.Holds := by
  w_on; o_law
  refine HandSHeadRun.head_any (r := OpenLaw.row PySem.Challenge.rw_sizeladders_k41_whole_nowhere_ahead) (q := view (OpenLaw.row PySem.Challenge.rw_sizeladders_k41_whole_nowhere_ahead).prog [63]) (H := Sz.hk) (ob := Sz.ob) (M := 6000) (loose := Sz.others)
    (d := HandSHeadRun.topDef (OpenLaw.row PySem.Challenge.rw_sizeladders_k41_whole_nowhere_ahead).prog 63) (kwd := []) Sz.ob_eq
    (by kernel_rfl) (fun s => by kernel_rfl) Sz.run (by kernel_rfl) (by kernel_rfl) (by kernel_rfl) (by rfl) (by first | assumption | decide +kernel) (by decide +kernel) ⟨rfl, rfl, rfl, rfl, rfl, by decide +kernel⟩ ?hw ?hc
  case hw => w_witness2
  case hc =>
    refine L2.walk_ofE (l := PySem.Challenge.rw_sizeladders_k41_whole_nowhere_ahead) (n := 63) (k := 14) (x := "_law_script") (CX := C8.CX0) rfl (by decide) (by kernel_rfl) ⟨rfl, by decide, by decide⟩ ?F (fun _ _ _ _ z => z)
    intro w mg fa h Y G hmg0
    obtain ⟨K, KX, c⟩ := Y
    have hmg : mg ("law" : PySem.Str) = some (.ref fa) := by
      have e : (HandSHeadRun.topDef (OpenLaw.row PySem.Challenge.rw_sizeladders_k41_whole_nowhere_ahead).prog 63).name = ("law" : PySem.Str) := by kernel_rfl
      rw [← e]
      exact hmg0
    have T : Sz.Txt K mg w := ⟨h, KX, G, c⟩
    obtain ⟨fd, F⟩ := T.d_law
    have ea : fa = He.fAd K ("law", none) := by
      have e2 := hmg.symm.trans T.glo_law
      cases e2
      rfl
    subst ea
    exact ⟨K, fd, Sz.spLaw K, KX, fun s v => Sz.law_binds F s v, fun H a ns hl _ hS => ⟨a, ns, rfl, hS, hl, fun _ _ => rfl⟩, fun base _ _ => Sz.all_law T fd F⟩

