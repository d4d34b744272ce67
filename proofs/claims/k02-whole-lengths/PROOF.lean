import PyProof.Rows.All
import Wide.All
import OpenK.AllK
import Wide.FinOn
import HandS.ForMost
import HandS.IsInst
import HandS.Style
import HandS.SortRule
import HandS.WideBits
import HandS.EndBits
import KE.IntBitsLaws
import KE.DataEq
import PySem.Challenge.RW_neighboursums_k02_whole_lengths
set_option Elab.async false
/-! The mathematics of rows: plain Lean. -/
namespace NB
/-- f, .., l make n -/
def IsRow (n f l : Int) : Prop := f ≤ l ∧ (f + l) * (l - f + 1) = 2 * n
/-- by the first, then by the second -/
def Lt (p q : Int × Int) : Prop := p.1 < q.1 ∨ (p.1 = q.1 ∧ p.2 < q.2)
instance (p q : Int × Int) : Decidable (Lt p q) := by unfold Lt; infer_instance
theorem Lt.irrefl {p : Int × Int} (h : Lt p p) : False := by unfold Lt at h; omega
theorem Lt.asymm {p q : Int × Int} (h : Lt p q) (h' : Lt q p) : False := by unfold Lt at h h'; omega
theorem uniq : ∀ {l m : List (Int × Int)}, l.Pairwise Lt → m.Pairwise Lt → (∀ x, x ∈ l ↔ x ∈ m) → l = m
  | [], [], _, _, _ => rfl
  | [], y :: m, _, _, h => absurd ((h y).mpr List.mem_cons_self) (by simp)
  | x :: l, [], _, _, h => absurd ((h x).mp List.mem_cons_self) (by simp)
  | x :: l, y :: m, hl, hm, h => by
    rw [List.pairwise_cons] at hl hm
    have e : x = y := by
      rcases List.mem_cons.mp ((h x).mp List.mem_cons_self) with e | h1
      · exact e
      rcases List.mem_cons.mp ((h y).mpr List.mem_cons_self) with e | h2
      · exact e.symm
      exact (Lt.asymm (hm.1 x h1) (hl.1 y h2)).elim
    subst e
    have := uniq hl.2 hm.2 (fun z => by
      constructor
      · intro hz
        rcases List.mem_cons.mp ((h z).mp (List.mem_cons_of_mem _ hz)) with e | h1
        · subst e; exact (Lt.irrefl (hl.1 _ hz)).elim
        · exact h1
      · intro hz
        rcases List.mem_cons.mp ((h z).mpr (List.mem_cons_of_mem _ hz)) with e | h1
        · subst e; exact (Lt.irrefl (hm.1 _ hz)).elim
        · exact h1)
    rw [this]

/-- all rows of n, in order; the high ones -/
structure Rows (n : Int) (ps : List (Int × Int)) : Prop where
  srt : ps.Pairwise Lt
  mem : ∀ f l, (f, l) ∈ ps ↔ IsRow n f l
structure HRows (n : Int) (ps : List (Int × Int)) : Prop where
  srt : ps.Pairwise Lt
  mem : ∀ f l, (f, l) ∈ ps ↔ IsRow n f l ∧ 0 < f
theorem Rows.uniq {n : Int} {ps qs : List (Int × Int)} (a : Rows n ps) (b : Rows n qs) : ps = qs :=
  NB.uniq a.srt b.srt fun ⟨f, l⟩ => (a.mem f l).trans (b.mem f l).symm
theorem HRows.uniq {n : Int} {ps qs : List (Int × Int)} (a : HRows n ps) (b : HRows n qs) : ps = qs :=
  NB.uniq a.srt b.srt fun ⟨f, l⟩ => (a.mem f l).trans (b.mem f l).symm
theorem Rows.high {n : Int} {ps : List (Int × Int)} (a : Rows n ps) : HRows n (ps.filter fun p => decide (0 < p.1)) := by
  refine ⟨a.srt.filter _, fun f l => ?_⟩
  rw [List.mem_filter, a.mem]
  simp

theorem two_tri (L : Int) : 2 * (L * (L - 1) / 2) = L * (L - 1) := by
  have : L = 2 * (L / 2) ∨ L = 2 * (L / 2) + 1 := by omega
  generalize L / 2 = k at this
  rcases this with e | e
  · subst e
    rw [Int.mul_assoc, Int.mul_ediv_cancel_left _ (by decide)]
  · subst e
    have : (2 * k + 1) * (2 * k + 1 - 1) = 2 * (k * (2 * k + 1)) := by
      rw [Int.add_sub_cancel, Int.mul_comm, Int.mul_assoc]
    rw [this, Int.mul_ediv_cancel_left _ (by decide)]
theorem two_tri' (L : Int) : 2 * (L * (L + 1) / 2) = L * (L + 1) := by
  have h := two_tri (L + 1)
  rw [Int.add_sub_cancel] at h
  rw [Int.mul_comm L]
  exact h
/-- a row's equation by its length -/
theorem isRow_len {n f L : Int} (hL : 0 < L) : IsRow n f (f + L - 1) ↔ L * f = n - L * (L - 1) / 2 := by
  have t := two_tri L
  have e : (f + (f + L - 1)) * (f + L - 1 - f + 1) = 2 * (L * f) + L * (L - 1) := by
    have e1 : f + L - 1 - f + 1 = L := by omega
    have e2 : f + (f + L - 1) = 2 * f + (L - 1) := by omega
    rw [e1, e2, Int.add_mul, Int.mul_assoc, Int.mul_comm f L, Int.mul_comm (L - 1) L]
  unfold IsRow
  rw [e]
  constructor
  · rintro ⟨_, h⟩; omega
  · intro h; exact ⟨by omega, by omega⟩

/-- row_of: the row of a length -/
def rowOf (n L : Int) : Option (Int × Int) :=
  if (n - L * (L - 1) / 2) % L = 0 then some ((n - L * (L - 1) / 2) / L, (n - L * (L - 1) / 2) / L + L - 1) else none
theorem rowOf_iff {n L f l : Int} (hL : 0 < L) : rowOf n L = some (f, l) ↔ l = f + L - 1 ∧ IsRow n f l := by
  unfold rowOf
  generalize hx : n - L * (L - 1) / 2 = x
  constructor
  · intro h
    split at h
    · rename_i h0
      injection h with h
      injection h with h1 h2
      subst h1 h2
      refine ⟨rfl, (isRow_len hL).mpr ?_⟩
      rw [hx, Int.mul_ediv_cancel' (Int.dvd_of_emod_eq_zero h0)]
    · cases h
  · rintro ⟨e, h⟩
    subst e
    have h := (isRow_len hL).mp h
    rw [hx] at h
    rw [if_pos (by rw [← h]; exact Int.mul_emod_right _ _), ← h, Int.mul_ediv_cancel_left _ (by omega)]
theorem rowOf_none {n L : Int} (hL : 0 < L) : rowOf n L = none ↔ ∀ f, ¬ IsRow n f (f + L - 1) := by
  constructor
  · intro h f hr
    have := (rowOf_iff hL).mpr ⟨rfl, hr⟩
    rw [h] at this; cases this
  · intro h
    cases e : rowOf n L with
    | none => rfl
    | some p =>
      obtain ⟨f, l⟩ := p
      obtain ⟨e1, e2⟩ := (rowOf_iff hL).mp e
      rw [e1] at e2
      exact (h f e2).elim
/-- as the law reckons it -/
def dueOf (n L : Int) : Option (Int × Int) :=
  if (2 * n - L * (L - 1)) % (2 * L) = 0 then some ((2 * n - L * (L - 1)) / L / 2, (2 * n - L * (L - 1)) / L / 2 + L - 1) else none
theorem dueOf_eq {n L : Int} (hL : 0 < L) : dueOf n L = rowOf n L := by
  unfold dueOf rowOf
  have t := two_tri L
  generalize hx : L * (L - 1) / 2 = x at *
  have e : 2 * n - L * (L - 1) = 2 * (n - x) := by omega
  rw [e]
  have e2 : 2 * (n - x) % (2 * L) = 2 * ((n - x) % L) := Int.mul_emod_mul_of_pos _ _ (by decide)
  rw [e2]
  by_cases h : (n - x) % L = 0
  · rw [if_pos h, if_pos (by omega)]
    have e3 : 2 * (n - x) / L / 2 = (n - x) / L := by
      obtain ⟨k, hk⟩ := Int.dvd_of_emod_eq_zero h
      rw [hk, show 2 * (L * k) = L * (2 * k) by rw [Int.mul_left_comm], Int.mul_ediv_cancel_left _ (by omega), Int.mul_ediv_cancel_left _ (by decide), Int.mul_ediv_cancel_left _ (by omega)]
    rw [e3]
  · rw [if_neg h, if_neg (by omega)]

/-! ### what the law reckons: by the lengths from 1 on -/
def acc (n : Int) : Nat → List (Int × Int)
  | 0 => []
  | k + 1 => match rowOf n (k + 1 : Nat) with
    | some p => acc n k ++ [p]
    | none => acc n k
theorem acc_some {n : Int} {k : Nat} {p : Int × Int} (h : rowOf n (k + 1 : Nat) = some p) : acc n (k + 1) = acc n k ++ [p] := by
  rw [acc, h]
theorem acc_none {n : Int} {k : Nat} (h : rowOf n (k + 1 : Nat) = none) : acc n (k + 1) = acc n k := by
  rw [acc, h]
theorem acc_mem {n : Int} : ∀ {K : Nat} {f l : Int}, (f, l) ∈ acc n K ↔ ∃ L : Nat, 1 ≤ L ∧ L ≤ K ∧ rowOf n L = some (f, l)
  | 0, f, l => by
    constructor
    · intro h; cases h
    · rintro ⟨L, h1, h2, _⟩; omega
  | k + 1, f, l => by
    have ih := acc_mem (n := n) (K := k) (f := f) (l := l)
    have step : (∃ L : Nat, 1 ≤ L ∧ L ≤ k + 1 ∧ rowOf n L = some (f, l)) ↔ (∃ L : Nat, 1 ≤ L ∧ L ≤ k ∧ rowOf n L = some (f, l)) ∨ rowOf n (k + 1 : Nat) = some (f, l) := by
      constructor
      · rintro ⟨L, h1, h2, h3⟩
        by_cases e : L = k + 1
        · subst e; exact .inr h3
        · exact .inl ⟨L, h1, by omega, h3⟩
      · rintro (⟨L, h1, h2, h3⟩ | h)
        · exact ⟨L, h1, by omega, h3⟩
        · exact ⟨k + 1, by omega, by omega, h⟩
    rw [step, ← ih]
    cases e : rowOf n (k + 1 : Nat) with
    | none => rw [acc_none e]; simp
    | some p => rw [acc_some e, List.mem_append, List.mem_singleton]; simp [eq_comm]
theorem acc_len {n : Int} : ∀ {K : Nat}, (acc n K).length ≤ K
  | 0 => Nat.le_refl _
  | k + 1 => by
    have ih := acc_len (n := n) (K := k)
    unfold acc
    split
    · rw [List.length_append]; simp only [List.length_cons, List.length_nil]; omega
    · omega
theorem tri_mono {a b : Int} (h0 : 0 ≤ a) (h : a ≤ b) : a * (a + 1) / 2 ≤ b * (b + 1) / 2 := by
  have h1 : a * (a + 1) ≤ b * (b + 1) := Int.mul_le_mul h (by omega) (by omega) (by omega)
  have := two_tri' a
  have := two_tri' b
  omega
theorem tri_step (L : Int) : L * (L - 1) / 2 + L = L * (L + 1) / 2 := by
  have h1 := two_tri L
  have h2 := two_tri' L
  have e1 : L * (L - 1) = L * L - L := by rw [Int.mul_sub, Int.mul_one]
  have e2 : L * (L + 1) = L * L + L := by rw [Int.mul_add, Int.mul_one]
  omega
/-- a row's length says whether it is high -/
theorem row_high {n f L : Int} (hL : 0 < L) (h : IsRow n f (f + L - 1)) : 0 < f ↔ L * (L + 1) / 2 ≤ n := by
  have e := (isRow_len hL).mp h
  have t := tri_step L
  constructor
  · intro hf
    have : L * 1 ≤ L * f := Int.mul_le_mul_of_nonneg_left (by omega) (by omega)
    omega
  · intro hn
    refine Decidable.byContradiction fun hc => ?_
    have : L * f ≤ L * 0 := Int.mul_le_mul_of_nonneg_left (by omega) (by omega)
    omega
/-- longer rows begin earlier -/
theorem row_anti {n f g L M : Int} (hL : 0 < L) (h : L < M) (hg : 0 < g) (a : IsRow n f (f + L - 1)) (b : IsRow n g (g + M - 1)) : g < f := by
  have e1 := (isRow_len hL).mp a
  have e2 := (isRow_len (show 0 < M by omega)).mp b
  refine Decidable.byContradiction fun hc => ?_
  have h1 : L * f ≤ L * g := Int.mul_le_mul_of_nonneg_left (by omega) (by omega)
  have h2 : L * g < M * g := Int.mul_lt_mul_of_pos_right h hg
  have h3 : L * (L - 1) ≤ M * (M - 1) := Int.mul_le_mul (by omega) (by omega) (by omega) (by omega)
  have := two_tri L
  have := two_tri M
  omega
theorem acc_high {n : Int} : ∀ {K : Nat}, (K : Int) * ((K : Int) + 1) / 2 ≤ n → ∀ p ∈ acc n K, 0 < p.1 := by
  intro K hK ⟨f, l⟩ hp
  obtain ⟨L, h1, h2, h3⟩ := acc_mem.mp hp
  obtain ⟨e, hr⟩ := (rowOf_iff (by omega)).mp h3
  subst e
  exact (row_high (by omega) hr).mpr (Int.le_trans (tri_mono (by omega) (by omega)) hK)
theorem acc_srt {n : Int} : ∀ {K : Nat}, (K : Int) * ((K : Int) + 1) / 2 ≤ n → (acc n K).reverse.Pairwise Lt
  | 0, _ => List.Pairwise.nil
  | k + 1, hK => by
    have hk : (k : Int) * ((k : Int) + 1) / 2 ≤ n := Int.le_trans (tri_mono (by omega) (by omega)) hK
    have ih := acc_srt (n := n) (K := k) hk
    unfold acc
    split
    · rename_i p hp
      obtain ⟨g, m⟩ := p
      rw [List.reverse_append]
      show List.Pairwise Lt ((g, m) :: (acc n k).reverse)
      rw [List.pairwise_cons]
      refine ⟨fun ⟨f, l⟩ hm => ?_, ih⟩
      obtain ⟨L, h1, h2, h3⟩ := acc_mem.mp (List.mem_reverse.mp hm)
      obtain ⟨e1, r1⟩ := (rowOf_iff (by omega)).mp h3
      obtain ⟨e2, r2⟩ := (rowOf_iff (by omega)).mp hp
      subst e1
      subst e2
      have hg : 0 < g := (row_high (by omega) r2).mpr hK
      exact .inl (row_anti (L := L) (M := ((k + 1 : Nat) : Int)) (by omega) (by omega) hg r1 r2)
    · exact ih
/-- behind the loop: the high rows -/
theorem acc_rows {n : Int} {K : Nat} (h1 : (K : Int) * ((K : Int) + 1) / 2 ≤ n) (h2 : n < ((K : Int) + 1) * ((K : Int) + 1 + 1) / 2) : HRows n (acc n K).reverse := by
  refine ⟨acc_srt h1, fun f l => ?_⟩
  rw [List.mem_reverse]
  constructor
  · intro h
    have hf := acc_high h1 _ h
    obtain ⟨L, a1, a2, a3⟩ := acc_mem.mp h
    exact ⟨((rowOf_iff (by omega)).mp a3).2, hf⟩
  · rintro ⟨hr, hf⟩
    have hle := hr.1
    obtain ⟨L, eL⟩ := Int.eq_ofNat_of_zero_le (show 0 ≤ l - f + 1 by omega)
    have el : l = f + (L : Int) - 1 := by omega
    have hL : 0 < (L : Int) := by omega
    have hr' : IsRow n f (f + (L : Int) - 1) := el ▸ hr
    have hn := (row_high hL hr').mp hf
    refine acc_mem.mpr ⟨L, by omega, ?_, (rowOf_iff hL).mpr ⟨el, hr⟩⟩
    refine Decidable.byContradiction fun hc => ?_
    have := tri_mono (a := (K : Int) + 1) (b := (L : Int)) (by omega) (by omega)
    omega
/-- the rows below nought -/
theorem low_iff {n f l : Int} (hn : 0 < n) : IsRow n f l ∧ ¬ 0 < f ↔ IsRow n (1 - f) l ∧ 0 < 1 - f := by
  have e : ∀ f l : Int, (1 - f + l) * (l - (1 - f) + 1) = (f + l) * (l - f + 1) := fun f l => by
    rw [show l - (1 - f) + 1 = f + l by omega, show 1 - f + l = l - f + 1 by omega, Int.mul_comm]
  unfold IsRow
  rw [e]
  constructor
  · rintro ⟨⟨h1, h2⟩, h3⟩
    refine ⟨⟨?_, h2⟩, by omega⟩
    refine Decidable.byContradiction fun hc => ?_
    have : (f + l) * (l - f + 1) ≤ 0 := Int.mul_nonpos_of_nonpos_of_nonneg (by omega) (by omega)
    omega
  · rintro ⟨⟨h1, h2⟩, h3⟩
    exact ⟨⟨by omega, h2⟩, by omega⟩
/-- all rows: the high ones, and each's fellow -/
theorem Rows.of_high {n : Int} (hn : 0 < n) {ps qs : List (Int × Int)} (h : HRows n ps) (hs : qs.Pairwise Lt) (hm : ∀ x, x ∈ qs ↔ x ∈ ps ++ ps.map fun p : Int × Int => ((1 - p.1, p.2) : Int × Int)) : Rows n qs := by
  refine ⟨hs, fun f l => ?_⟩
  rw [hm, List.mem_append, h.mem, List.mem_map]
  have key : (∃ a, a ∈ ps ∧ (1 - a.1, a.2) = (f, l)) ↔ IsRow n f l ∧ ¬ 0 < f := by
    rw [low_iff hn]
    constructor
    · rintro ⟨⟨g, m⟩, h1, h2⟩
      injection h2 with h2 h3
      have e1 : 1 - f = g := by simp only at h2; omega
      simp only at h3
      subst h3
      rw [e1]
      exact (h.mem _ _).mp h1
    · rintro h1
      refine ⟨(1 - f, l), (h.mem _ _).mpr h1, ?_⟩
      rw [show 1 - (1 - f) = f by omega]
  rw [key]
  constructor
  · rintro (⟨a, _⟩ | ⟨a, _⟩) <;> exact a
  · intro a
    by_cases hf : 0 < f
    · exact .inl ⟨a, hf⟩
    · exact .inr ⟨a, hf⟩
/-- the two kinds are apart: their lists one behind the other are without doubles -/
theorem whole_nodup {n : Int} {ps : List (Int × Int)} (h : HRows n ps) : (ps ++ ps.map fun p : Int × Int => ((1 - p.1, p.2) : Int × Int)).Nodup := by
  have nd : ps.Nodup := h.srt.imp fun {a b} hab e => by subst e; exact Lt.irrefl hab
  rw [List.nodup_append]
  refine ⟨nd, ?_, ?_⟩
  · refine List.pairwise_map.mpr (nd.imp fun {a b} hab e => hab ?_)
    obtain ⟨a1, a2⟩ := a
    obtain ⟨b1, b2⟩ := b
    injection e with e1 e2
    simp only at e1 e2
    rw [e2, show a1 = b1 by omega]
  · rintro ⟨f, l⟩ ha ⟨g, m⟩ hb e
    obtain ⟨⟨c, d⟩, h1, h2⟩ := List.mem_map.mp hb
    have x1 := ((h.mem _ _).mp ha).2
    have x2 := ((h.mem _ _).mp h1).2
    injection h2 with h2 h3
    injection e with e1 e2
    simp only at h2
    omega
end NB

set_option Elab.async false
/-! parts_of. -/
namespace NB
def low (n : Int) : Nat → List Int
  | 0 => []
  | k + 1 => if n % ((k + 1 : Nat) : Int) = 0 then low n k ++ [((k + 1 : Nat) : Int)] else low n k
def high (n : Int) : Nat → List Int
  | 0 => []
  | k + 1 => if n % ((k + 1 : Nat) : Int) = 0 ∧ ((k + 1 : Nat) : Int) * ((k + 1 : Nat) : Int) < n then high n k ++ [n / ((k + 1 : Nat) : Int)] else high n k
theorem low_len {n : Int} : ∀ {k : Nat}, (low n k).length ≤ k
  | 0 => Nat.le_refl _
  | k + 1 => by
    have ih := low_len (n := n) (k := k)
    unfold low
    split
    · rw [List.length_append]; simp only [List.length_cons, List.length_nil]; omega
    · omega
theorem high_len {n : Int} : ∀ {k : Nat}, (high n k).length ≤ k
  | 0 => Nat.le_refl _
  | k + 1 => by
    have ih := high_len (n := n) (k := k)
    unfold high
    split
    · rw [List.length_append]; simp only [List.length_cons, List.length_nil]; omega
    · omega
theorem low_mem {n d : Int} : ∀ {k : Nat}, d ∈ low n k ↔ 0 < d ∧ d ≤ k ∧ n % d = 0
  | 0 => by
    constructor
    · intro h; cases h
    · rintro ⟨h1, h2, _⟩; omega
  | k + 1 => by
    have ih := low_mem (n := n) (d := d) (k := k)
    unfold low
    split
    · rename_i h
      rw [List.mem_append, List.mem_singleton, ih]
      constructor
      · rintro (⟨a, b, c⟩ | e)
        · exact ⟨a, by omega, c⟩
        · subst e; exact ⟨by omega, by omega, h⟩
      · rintro ⟨a, b, c⟩
        by_cases e : d = ((k + 1 : Nat) : Int)
        · exact .inr e
        · exact .inl ⟨a, by omega, c⟩
    · rename_i h
      rw [ih]
      constructor
      · rintro ⟨a, b, c⟩; exact ⟨a, by omega, c⟩
      · rintro ⟨a, b, c⟩
        refine ⟨a, ?_, c⟩
        by_cases e : d = ((k + 1 : Nat) : Int)
        · subst e; exact absurd c h
        · omega
theorem high_mem {n e : Int} : ∀ {k : Nat}, e ∈ high n k ↔ ∃ d : Int, 0 < d ∧ d ≤ k ∧ n % d = 0 ∧ d * d < n ∧ e = n / d
  | 0 => by
    constructor
    · intro h; cases h
    · rintro ⟨d, h1, h2, _⟩; omega
  | k + 1 => by
    have ih := high_mem (n := n) (e := e) (k := k)
    unfold high
    split
    · rename_i h
      rw [List.mem_append, List.mem_singleton, ih]
      constructor
      · rintro (⟨d, a, b, c⟩ | e)
        · exact ⟨d, a, by omega, c⟩
        · exact ⟨_, by omega, Int.le_refl _, h.1, h.2, e⟩
      · rintro ⟨d, a, b, c1, c2, c3⟩
        by_cases x : d = ((k + 1 : Nat) : Int)
        · subst x; exact .inr c3
        · exact .inl ⟨d, a, by omega, c1, c2, c3⟩
    · rename_i h
      rw [ih]
      constructor
      · rintro ⟨d, a, b, c⟩; exact ⟨d, a, by omega, c⟩
      · rintro ⟨d, a, b, c1, c2, c3⟩
        refine ⟨d, a, ?_, c1, c2, c3⟩
        by_cases x : d = ((k + 1 : Nat) : Int)
        · subst x; exact absurd ⟨c1, c2⟩ h
        · omega
theorem low_nodup {n : Int} : ∀ {k : Nat}, (low n k).Nodup
  | 0 => List.nodup_nil
  | k + 1 => by
    have ih := low_nodup (n := n) (k := k)
    unfold low
    split
    · rw [List.nodup_append]
      refine ⟨ih, by simp, fun a ha b hb e => ?_⟩
      have := (low_mem.mp ha).2.1
      rw [List.mem_singleton] at hb
      omega
    · exact ih
/-- the great part beside d is beyond k -/
theorem great {n d : Int} {k : Nat} (h1 : 0 < d) (h2 : d ≤ k) (h3 : n % d = 0) (h4 : d * d < n) (hk : (k : Int) * k ≤ n) : (k : Int) < n / d := by
  refine Decidable.byContradiction fun hc => ?_
  have e : d * (n / d) = n := Int.mul_ediv_cancel' (Int.dvd_of_emod_eq_zero h3)
  have hlt : d < n / d := by
    refine Decidable.byContradiction fun hx => ?_
    have : d * (n / d) ≤ d * d := Int.mul_le_mul_of_nonneg_left (by omega) (by omega)
    omega
  -- n = d * (n/d) < k * k when d < n/d ≤ k
  have h5 : d * (n / d) < (n / d) * (n / d) := Int.mul_lt_mul_of_pos_right hlt (by omega)
  have h6 : (n / d) * (n / d) ≤ (k : Int) * k := Int.mul_le_mul (by omega) (by omega) (by omega) (by omega)
  omega
theorem div_inj {n d e : Int} (hn : 0 < n) (h1 : 0 < d) (h2 : 0 < e) (h3 : n % d = 0) (h4 : n % e = 0) (h : n / d = n / e) : d = e := by
  have a := Int.mul_ediv_cancel' (Int.dvd_of_emod_eq_zero h3)
  have b := Int.mul_ediv_cancel' (Int.dvd_of_emod_eq_zero h4)
  rw [h] at a
  have hp : n / e ≠ 0 := by
    intro z
    rw [z] at b
    omega
  exact Int.eq_of_mul_eq_mul_right hp (a.trans b.symm)
theorem high_nodup {n : Int} (hn : 0 < n) : ∀ {k : Nat}, (high n k).Nodup
  | 0 => List.nodup_nil
  | k + 1 => by
    have ih := high_nodup hn (k := k)
    unfold high
    split
    · rename_i h
      rw [List.nodup_append]
      refine ⟨ih, by simp, fun a ha b hb e => ?_⟩
      obtain ⟨d, a1, a2, a3, a4, a5⟩ := high_mem.mp ha
      rw [List.mem_singleton] at hb
      have := div_inj hn a1 (by omega) a3 h.1 (a5.symm.trans (e.trans hb))
      omega
    · exact ih
def parts (n : Int) (k : Nat) : List Int := low n k ++ (high n k).reverse
theorem parts_mem {n d : Int} {k : Nat} (hn : 0 < n) (h2 : n < ((k : Int) + 1) * ((k : Int) + 1)) : d ∈ parts n k ↔ 0 < d ∧ n % d = 0 := by
  unfold parts
  rw [List.mem_append, List.mem_reverse, low_mem, high_mem]
  constructor
  · rintro (⟨a, _, c⟩ | ⟨e, a, b, c, x, rfl⟩)
    · exact ⟨a, c⟩
    · have q := Int.mul_ediv_cancel' (Int.dvd_of_emod_eq_zero c)
      refine ⟨Int.pos_of_mul_pos_right (a := e) (by omega) (by omega), ?_⟩
      have q' : n = (n / e) * e := by rw [Int.mul_comm]; exact q.symm
      generalize n / e = m at q'
      rw [q']
      exact Int.mul_emod_right _ _
  · rintro ⟨a, c⟩
    by_cases hd : d ≤ k
    · exact .inl ⟨a, hd, c⟩
    · refine .inr ?_
      have q := Int.mul_ediv_cancel' (Int.dvd_of_emod_eq_zero c)
      have hp : 0 < n / d := Int.pos_of_mul_pos_right (a := d) (by omega) (by omega)
      -- e = n / d is below d
      have hlt : n / d < (k : Int) + 1 := by
        refine Decidable.byContradiction fun hx => ?_
        have : ((k : Int) + 1) * ((k : Int) + 1) ≤ d * (n / d) := Int.mul_le_mul (by omega) (by omega) (by omega) (by omega)
        omega
      have e2 : n / (n / d) = d := by
        refine Int.ediv_eq_of_eq_mul_right (by omega) ?_
        rw [Int.mul_comm]; exact q.symm
      refine ⟨n / d, hp, by omega, ?_, ?_, e2.symm⟩
      · have q' : n = (n / d) * d := by rw [Int.mul_comm]; exact q.symm
        generalize n / d = m at q'
        rw [q']
        exact Int.mul_emod_right _ _
      · have : (n / d) * (n / d) < d * (n / d) := Int.mul_lt_mul_of_pos_right (by omega) hp
        omega
theorem parts_nodup {n : Int} {k : Nat} (hn : 0 < n) (hk : (k : Int) * k ≤ n) : (parts n k).Nodup := by
  unfold parts
  rw [List.nodup_append]
  refine ⟨low_nodup, (List.reverse_perm _).nodup_iff.mpr (high_nodup hn), fun a ha b hb e => ?_⟩
  have h1 := (low_mem.mp ha).2.1
  obtain ⟨d, a1, a2, a3, a4, a5⟩ := high_mem.mp (List.mem_reverse.mp hb)
  have h := great a1 a2 a3 a4 hk
  omega
theorem parts_len {n : Int} {k : Nat} : (parts n k).length ≤ 2 * k := by
  unfold parts
  rw [List.length_append, List.length_reverse]
  have := low_len (n := n) (k := k)
  have := high_len (n := n) (k := k)
  omega
/-- what a list of all parts of a number is -/
structure Parts (n : Int) (ds : List Int) : Prop where
  nd : ds.Nodup
  mem : ∀ d, d ∈ ds ↔ 0 < d ∧ n % d = 0
theorem parts_ok {n : Int} {k : Nat} (hn : 0 < n) (h1 : (k : Int) * k ≤ n) (h2 : n < ((k : Int) + 1) * ((k : Int) + 1)) : Parts n (parts n k) := ⟨parts_nodup hn h1, fun _ => parts_mem hn h2⟩
/-- the rows by the parts of twice the number -/
theorem found_mem {n : Int} {ds : List Int} (h : Parts (2 * n) ds) {f l : Int} : (f, l) ∈ ds.filterMap (rowOf n) ↔ IsRow n f l := by
  rw [List.mem_filterMap]
  constructor
  · rintro ⟨L, hL, e⟩
    exact ((rowOf_iff ((h.mem L).mp hL).1).mp e).2
  · intro hr
    have hle := hr.1
    refine ⟨l - f + 1, (h.mem _).mpr ⟨by omega, ?_⟩, (rowOf_iff (by omega)).mpr ⟨by omega, hr⟩⟩
    rw [← hr.2]
    exact Int.mul_emod_left _ _
theorem nodup_filterMap {α β : Type} {f : α → Option β} {l : List α} (h : l.Nodup) (inj : ∀ a ∈ l, ∀ b ∈ l, ∀ x, f a = some x → f b = some x → a = b) : (l.filterMap f).Nodup := by
  induction l with
  | nil => exact List.nodup_nil
  | cons a r ih =>
    rw [List.nodup_cons] at h
    have ih' := ih h.2 fun x hx y hy => inj x (List.mem_cons_of_mem _ hx) y (List.mem_cons_of_mem _ hy)
    rw [List.filterMap_cons]
    split
    · exact ih'
    · rename_i x hx
      rw [List.nodup_cons]
      refine ⟨fun hm => ?_, ih'⟩
      obtain ⟨b, hb, e⟩ := List.mem_filterMap.mp hm
      have := inj a List.mem_cons_self b (List.mem_cons_of_mem _ hb) x hx e
      subst this
      exact h.1 hb
theorem found_nodup {n : Int} {ds : List Int} (h : Parts (2 * n) ds) : (ds.filterMap (rowOf n)).Nodup := by
  refine nodup_filterMap h.nd fun a ha b hb ⟨f, l⟩ e1 e2 => ?_
  have a1 := ((rowOf_iff ((h.mem a).mp ha).1).mp e1).1
  have b1 := ((rowOf_iff ((h.mem b).mp hb).1).mp e2).1
  omega
/-- sorted: each pair not behind the next; the same pairs, none twice -/
theorem strict_of {qs : List (Int × Int)} (h : qs.Pairwise fun p q => ¬ Lt q p) (nd : qs.Nodup) : qs.Pairwise Lt := by
  refine (h.and nd).imp fun {p q} ⟨a, b⟩ => ?_
  obtain ⟨p1, p2⟩ := p
  obtain ⟨q1, q2⟩ := q
  unfold Lt at *
  simp only at *
  by_cases e1 : p1 = q1
  · by_cases e2 : p2 = q2
    · subst e1 e2; exact (b rfl).elim
    · omega
  · omega
theorem rows_ok {n : Int} {ds : List Int} (h : Parts (2 * n) ds) {qs : List (Int × Int)} (hs : qs.Pairwise fun p q => ¬ Lt q p) (hp : qs.Perm (ds.filterMap (rowOf n))) : Rows n qs :=
  ⟨strict_of hs (hp.nodup_iff.mpr (found_nodup h)), fun _ _ => hp.mem_iff.trans (found_mem h)⟩
theorem whole_ok {n : Int} (hn : 0 < n) {ps qs : List (Int × Int)} (h : HRows n ps) (hs : qs.Pairwise fun p q => ¬ Lt q p) (hp : qs.Perm (ps ++ ps.map fun p : Int × Int => ((1 - p.1, p.2) : Int × Int))) : Rows n qs :=
  Rows.of_high hn h (strict_of hs (hp.nodup_iff.mpr (whole_nodup h))) fun _ => hp.mem_iff
end NB

set_option Elab.async false
set_option maxRecDepth 100000
set_option maxHeartbeats 4000000
/-! Words of our own over the hand layer. -/
namespace NB
open PySem L2
abbrev ib (i : Int) : Nat := Builtin.Int.intBits i
/-- a def of the top, as callers know it -/
def Callee (P : Program) (w : World) (K : PySem.W.Frag) (mg : Str → Option Value) (base : Heap) (k : Nat) (x : Str) (ps : List Str) (sp : Sp) : Prop :=
  ∃ f fd, mg x = some (.ref f) ∧ PySem.W.keepIn K (.ref f) = true ∧ Binds K fd ps [] ∧ FnOk P w K mg base CX0 k f fd ps sp
/-- the built-ins' names are no names of the module -/
structure Bt (mg : Str → Option Value) : Prop where
  isinstance_ : mg "isinstance" = none
  int_ : mg "int" = none
  bool_ : mg "bool" = none
  list_ : mg "list" = none
  tuple_ : mg "tuple" = none
  len_ : mg "len" = none
  max_ : mg "max" = none
  min_ : mg "min" = none
  sorted_ : mg "sorted" = none
  range_ : mg "range" = none
  sum_ : mg "sum" = none
  all_ : mg "all" = none
  zip_ : mg "zip" = none
  set_ : mg "set" = none
/-! ### pairs -/
/-- at t a pair of two ints -/
def IsP (H : Hp) (x : V) (p : Int × Int) : Prop := ∃ t, x = .ref t ∧ H t = some (.tup [.int p.1, .int p.2])
abbrev PL (H : Hp) (xs : List V) (ps : List (Int × Int)) : Prop := Paired (IsP H) xs ps
theorem IsP.same {H H' : Hp} (e : Same H H') {x : V} {p : Int × Int} (h : IsP H x p) : IsP H' x p := let ⟨t, a, b⟩ := h; ⟨t, a, e _ _ b⟩
theorem PL.same {H H' : Hp} (e : Same H H') {xs : List V} {ps : List (Int × Int)} (h : PL H xs ps) : PL H' xs ps := Paired.mapP h fun _ _ => IsP.same e
theorem PL.append {H : Hp} : ∀ {xs ys : List V} {ps qs : List (Int × Int)}, PL H xs ps → PL H ys qs → PL H (xs ++ ys) (ps ++ qs)
  | _, _, _, _, .nil, h => h
  | _, _, _, _, .cons a t, h => .cons a (PL.append t h)
theorem PL.reverse {H : Hp} : ∀ {xs : List V} {ps : List (Int × Int)}, PL H xs ps → PL H xs.reverse ps.reverse
  | _, _, .nil => .nil
  | _, _, .cons a t => by
    rw [List.reverse_cons, List.reverse_cons]
    exact PL.append (PL.reverse t) (.cons a .nil)
theorem PL.get {H : Hp} : ∀ {xs : List V} {ps : List (Int × Int)} {i : Nat} {x : V}, PL H xs ps → xs[i]? = some x → ∃ p, ps[i]? = some p ∧ IsP H x p
  | _, _, i, _, .nil, e => by simp at e
  | _, _, 0, _, .cons a t, e => by simp at e; subst e; exact ⟨_, rfl, a⟩
  | _, _, i + 1, x, .cons a t, e => by
    obtain ⟨p, h1, h2⟩ := PL.get (i := i) (x := x) t (by simpa using e)
    exact ⟨p, by simpa using h1, h2⟩
/-- at a a list of pairs, a thing of the program's own -/
def LP (H : Hp) (a : Addr) (ps : List (Int × Int)) : Prop := ∃ xs, H a = some (.lst xs) ∧ PL H xs ps
theorem LP.same {H H' : Hp} (e : Same H H') {a : Addr} {ps : List (Int × Int)} (h : LP H a ps) : LP H' a ps := let ⟨xs, h1, h2⟩ := h; ⟨xs, e _ _ h1, h2.same e⟩
theorem Same.new {H : Hp} {p : Addr} {o : HO} (h : H p = none) : Same H (upd H p o) := fun a u e => by
  rw [upd_ne (ne_of_none e h)]
  exact e
/-- an object that H does not know may change -/
theorem Same.mut {H H' : Hp} {p : Addr} {o : HO} (e : Same H H') (h : H p = none) : Same H (upd H' p o) := fun a u ha => by
  rw [upd_ne (ne_of_none ha h)]
  exact e a u ha
theorem ne_new {H : Hp} {p q : Addr} (h : H p = none) (h' : H q ≠ none) : q ≠ p := fun e => h' (e ▸ h)
/-! ### sorted, of pairs -/
def keyOf (H : Hp) : V → Int × Int
  | .ref t => match H t with
    | some (.tup [.int a, .int b]) => (a, b)
    | _ => (0, 0)
  | _ => (0, 0)
theorem IsP.key {H : Hp} {x : V} {p : Int × Int} (h : IsP H x p) : keyOf H x = p := by
  obtain ⟨t, rfl, h⟩ := h
  unfold keyOf
  simp only [h]
theorem PL.keys {H : Hp} : ∀ {xs : List V} {ps : List (Int × Int)}, PL H xs ps → xs.map (keyOf H) = ps
  | _, _, .nil => rfl
  | _, _, .cons a t => by rw [List.map_cons, a.key, PL.keys t]
theorem PL.mem {H : Hp} : ∀ {xs : List V} {ps : List (Int × Int)}, PL H xs ps → ∀ x ∈ xs, IsP H x (keyOf H x)
  | _, _, .nil, _, h => nomatch h
  | _, _, .cons a t, x, h => by
    rcases List.mem_cons.mp h with e | h
    · subst e; rw [a.key]; exact a
    · exact PL.mem t x h
theorem PL.of_keys {H : Hp} : ∀ {ys : List V}, (∀ x ∈ ys, IsP H x (keyOf H x)) → PL H ys (ys.map (keyOf H))
  | [], _ => .nil
  | y :: r, h => .cons (h y List.mem_cons_self) (PL.of_keys fun x hx => h x (List.mem_cons_of_mem _ hx))
theorem srt_facts {H : Hp} {xs ys : List V} {ps : List (Int × Int)} (hp : PL H xs ps) (h1 : SrtO.Srtd (ltP (keyOf H)) ys) (h2 : SrtO.Stb (ltP (keyOf H)) ys xs) :
    ∃ qs, PL H ys qs ∧ (qs.Pairwise fun p q => ¬ Lt q p) ∧ qs.Perm ps := by
  have hm : ∀ x ∈ ys, IsP H x (keyOf H x) := fun x hx => hp.mem x (h2.perm.mem_iff.mp hx)
  refine ⟨ys.map (keyOf H), PL.of_keys hm, ?_, ?_⟩
  · refine List.pairwise_map.mpr (List.Pairwise.imp (fun {x y} h => ?_) h1)
    have h' := SrtO.lexB_no.mp h
    unfold Lt
    omega
  · rw [← hp.keys]
    exact h2.perm.map _
theorem rd_sorted {K : PySem.W.Frag} {H : Hp} {a : Addr} {xs : List V} {ps : List (Int × Int)} {Q : VK} (hs : SqL K H a xs) (hp : PL H xs ps)
    (q : ∀ ys qs p, PL H ys qs → (qs.Pairwise fun p q => ¬ Lt q p) → qs.Perm ps → H p = none → Q (.ref p) (upd H p (.lst ys))) : rSortedPO K [.ref a] H Q := by
  refine ⟨a, xs, keyOf H, rfl, hs, fun x hx => hp.mem x hx, fun ys p h1 h2 hn => ?_⟩
  obtain ⟨qs, a, b, c⟩ := srt_facts hp h1 h2
  exact q ys qs p a b c hn
/-! ### data -/
def dat (ps : List (Int × Int)) : List PyData := ps.map fun p => PyData.tuple [.int p.1, .int p.2]
theorem PL.dat {K : PySem.W.Frag} {H : Hp} : ∀ {xs : List V} {ps : List (Int × Int)}, PL H xs ps → DpAll K H xs (NB.dat ps)
  | _, _, .nil => .nil
  | _, _, .cons a t => by
    obtain ⟨t1, e, h⟩ := a
    subst e
    exact .cons (.tup (SqT.of h) (.cons (.int _) (.cons (.int _) .nil))) (PL.dat t)
theorem LP.dat {K : PySem.W.Frag} {H : Hp} {a : Addr} {ps : List (Int × Int)} (h : LP H a ps) : Dp K H (.ref a) (.list (NB.dat ps)) :=
  let ⟨_, h1, h2⟩ := h
  .lst (SqL.of h1) h2.dat
theorem eqv_dat : ∀ ps qs : List (Int × Int), PyData.eqvAll (dat ps) (dat qs) = decide (ps = qs)
  | [], [] => by simp [dat, PyData.eqvAll]
  | [], q :: r => by simp [dat, PyData.eqvAll]
  | p :: r, [] => by simp [dat, PyData.eqvAll]
  | (a, b) :: r, (c, d) :: r' => by
    have ih := eqv_dat r r'
    unfold dat at *
    rw [List.map_cons, List.map_cons, PyData.eqvAll, ih, PyData.eqv, PyData.eqvAll, PyData.eqvAll, PyData.eqvAll, PyData.eqv, PyData.eqv]
    by_cases e1 : a = c <;> by_cases e2 : b = d <;> by_cases e3 : r = r' <;> simp [e1, e2, e3]
theorem lay_dat : ∀ ps : List (Int × Int), PyData.canLayAll0 (dat ps) = true
  | [] => rfl
  | (a, b) :: r => by
    have ih := lay_dat r
    unfold dat at *
    rw [List.map_cons, PyData.canLayAll0, ih]
    rfl
theorem dep_dat : ∀ ps : List (Int × Int), PyData.depthAll (dat ps) ≤ 2
  | [] => by decide
  | (a, b) :: r => by
    have ih := dep_dat r
    unfold dat at *
    rw [List.map_cons]
    simp only [PyData.depthAll, PyData.depth] at *
    omega
theorem shaped_dat (ps : List (Int × Int)) : SeqAt.shaped (.list (dat ps)) = true := by
  have h1 := lay_dat ps
  have h2 := dep_dat ps
  unfold SeqAt.shaped
  rw [Bool.and_eq_true]
  refine ⟨?_, ?_⟩
  · simp only [PyData.canLay0]; exact h1
  · refine decide_eq_true ?_
    simp only [PyData.depth]
    omega
theorem rd_eq {K : PySem.W.Frag} {H : Hp} {a b : Addr} {ps qs : List (Int × Int)} {Q : VK} (h1 : LP H a ps) (h2 : LP H b qs) (q : Q (.bl (decide (ps = qs))) H) : rEqD K (.ref a) (.ref b) H Q :=
  ⟨_, _, h1.dat, h2.dat, shaped_dat ps, shaped_dat qs, by rw [PyData.eqv, eqv_dat]; exact q⟩
theorem rd_ne {K : PySem.W.Frag} {H : Hp} {a b : Addr} {ps qs : List (Int × Int)} {Q : VK} (h1 : LP H a ps) (h2 : LP H b qs) (q : Q (.bl (!decide (ps = qs))) H) : rNeD K (.ref a) (.ref b) H Q :=
  ⟨_, _, h1.dat, h2.dat, shaped_dat ps, shaped_dat qs, by rw [PyData.eqv, eqv_dat]; exact q⟩
theorem IsP.dat {K : PySem.W.Frag} {H : Hp} {x : V} {p : Int × Int} (h : IsP H x p) : Dp K H x (.tuple [.int p.1, .int p.2]) := by
  obtain ⟨t, e, h⟩ := h
  subst e
  exact .tup (SqT.of h) (.cons (.int _) (.cons (.int _) .nil))
theorem shaped_p (p : Int × Int) : SeqAt.shaped (.tuple [.int p.1, .int p.2]) = true := by
  obtain ⟨a, b⟩ := p
  simp [SeqAt.shaped, PyData.canLay0, PyData.canLayAll0, PyData.depth, PyData.depthAll]
theorem eqv_p (p q : Int × Int) : PyData.eqv (.tuple [.int p.1, .int p.2]) (.tuple [.int q.1, .int q.2]) = decide (p = q) := by
  obtain ⟨a, b⟩ := p
  obtain ⟨c, d⟩ := q
  rw [PyData.eqv, PyData.eqvAll, PyData.eqvAll, PyData.eqvAll, PyData.eqv, PyData.eqv]
  by_cases e1 : a = c <;> by_cases e2 : b = d <;> simp [e1, e2]
theorem rd_eqP {K : PySem.W.Frag} {H : Hp} {x y : V} {p q : Int × Int} {Q : VK} (h1 : IsP H x p) (h2 : IsP H y q) (h : Q (.bl (decide (p = q))) H) : rEqD K x y H Q :=
  ⟨_, _, h1.dat, h2.dat, shaped_p p, shaped_p q, by rw [eqv_p]; exact h⟩
theorem rd_neP {K : PySem.W.Frag} {H : Hp} {x y : V} {p q : Int × Int} {Q : VK} (h1 : IsP H x p) (h2 : IsP H y q) (h : Q (.bl (!decide (p = q))) H) : rNeD K x y H Q :=
  ⟨_, _, h1.dat, h2.dat, shaped_p p, shaped_p q, by rw [eqv_p]; exact h⟩
/-- a pair or None -/
def IsO (H : Hp) (x : V) : Option (Int × Int) → Prop
  | none => x = .non
  | some p => IsP H x p
def datO : Option (Int × Int) → PyData
  | none => .none
  | some p => .tuple [.int p.1, .int p.2]
theorem IsO.same {H H' : Hp} (e : Same H H') {x : V} : ∀ {o : Option (Int × Int)}, IsO H x o → IsO H' x o
  | none, h => h
  | some _, h => IsP.same e h
theorem IsO.dat {K : PySem.W.Frag} {H : Hp} {x : V} : ∀ {o : Option (Int × Int)}, IsO H x o → Dp K H x (datO o)
  | none, h => by
    cases (show x = .non from h)
    exact .non
  | some _, h => IsP.dat h
theorem shaped_o : ∀ o : Option (Int × Int), SeqAt.shaped (datO o) = true
  | none => by decide
  | some p => shaped_p p
theorem eqv_o : ∀ o u : Option (Int × Int), PyData.eqv (datO o) (datO u) = decide (o = u)
  | none, none => rfl
  | none, some p => by simp [datO, PyData.eqv]
  | some p, none => by simp [datO, PyData.eqv]
  | some p, some q => by
    show PyData.eqv (.tuple [.int p.1, .int p.2]) (.tuple [.int q.1, .int q.2]) = _
    rw [eqv_p]
    simp
theorem rd_eqO {K : PySem.W.Frag} {H : Hp} {x y : V} {p q : Option (Int × Int)} {Q : VK} (h1 : IsO H x p) (h2 : IsO H y q) (h : Q (.bl (decide (p = q))) H) : rEqD K x y H Q :=
  ⟨_, _, h1.dat, h2.dat, shaped_o p, shaped_o q, by rw [eqv_o]; exact h⟩
theorem rd_neO {K : PySem.W.Frag} {H : Hp} {x y : V} {p q : Option (Int × Int)} {Q : VK} (h1 : IsO H x p) (h2 : IsO H y q) (h : Q (.bl (!decide (p = q))) H) : rNeD K x y H Q :=
  ⟨_, _, h1.dat, h2.dat, shaped_o p, shaped_o q, by rw [eqv_o]; exact h⟩
/-! ### isinstance of an int -/
theorem rd_isi_int {K : PySem.W.Frag} {H : Hp} {i : Int} {T : String} {b : Bool} {Q : VK} (h : kitB "int" T = some b) (q : Q (.bl b) H) : rIsi K [.int i, .ty T] H Q :=
  ⟨_, _, _, _, b, rfl, .ty T, .base (.int i), kit_ty h, q⟩
theorem rd_isi_lst {K : PySem.W.Frag} {H : Hp} {a : Addr} {xs : List V} {T : String} {b : Bool} {Q : VK} (e : H a = some (.lst xs)) (h : kitB "list" T = some b) (q : Q (.bl b) H) : rIsi K [.ref a, .ty T] H Q :=
  ⟨_, _, _, _, b, rfl, .ty T, .base (.lst e), kit_ty h, q⟩
theorem rd_isi_tup {K : PySem.W.Frag} {H : Hp} {a : Addr} {xs : List V} {T : String} {b : Bool} {Q : VK} (e : H a = some (.tup xs)) (h : kitB "tuple" T = some b) (q : Q (.bl b) H) : rIsi K [.ref a, .ty T] H Q :=
  ⟨_, _, _, _, b, rfl, .ty T, .base (.tup e), kit_ty h, q⟩
theorem ib_of {i : Int} {m : Nat} (h : i.natAbs < 2 ^ m) : ib i ≤ m := PySem.intBits_le_iff.mpr h
theorem itB {b : Bool} {A B : Prop} (hb : b = true) (h : A) : if b = true then A else B := by rw [if_pos hb]; exact h
theorem itN {b : Bool} {A B : Prop} (hb : b = false) (h : B) : if b = true then A else B := by rw [hb]; exact h
theorem iteNN {c A B : Prop} [Decidable c] (hc : ¬ c) (h : A) : if (!decide c) = true then A else B := by
  rw [decide_eq_false hc]
  exact h
theorem iteD {c A B : Prop} [Decidable c] (hc : c) (h : A) : if decide c = true then A else B := by
  rw [decide_eq_true hc]
  exact h
theorem iteDN {c A B : Prop} [Decidable c] (hc : ¬ c) (h : B) : if decide c = true then A else B := by
  rw [decide_eq_false hc]
  exact h
/-! ### a while, turns counted -/
theorem while_nat {c : TT} {tb : TS} {D : Ends} {σ : L2.St} {H : Hp} (M : Nat) (Pv : Nat → L2.St → Hp → Prop) (h0 : Pv 0 σ H)
    (hs : ∀ k m σ H, k + m = M → Pv k σ H → c σ H fun b H1 => if b = true then ∃ N : L2.St → Hp → Prop, (∀ σ' H', N σ' H' → ∃ m', m' < m ∧ ∃ k, k + m' = M ∧ Pv k σ' H') ∧ tb { D with nx := N, ct := N, bk := D.nx } σ H1 else D.nx σ H1) : tWhile c tb D σ H := by
  refine ⟨fun m σ H => ∃ k, k + m = M ∧ Pv k σ H, ⟨M, 0, Nat.zero_add _, h0⟩, ?_⟩
  rintro m σ H ⟨k, e, p⟩
  exact hs k m σ H e p
/-- one turn more -/
theorem turn_nat {M k m : Nat} (Pv : Nat → L2.St → Hp → Prop) (e : k + m = M) (h : k < M) : ∀ σ' H', Pv (k + 1) σ' H' → ∃ m', m' < m ∧ ∃ k, k + m' = M ∧ Pv k σ' H' := fun _ _ p => ⟨m - 1, by omega, k + 1, by omega, p⟩
theorem small1000' {n : Nat} (h : n ≤ 100000) : n < sizeLine := Nat.lt_of_le_of_lt h (by decide)
theorem tif_o {t : TT} {ta tb : TE} {σ : L2.St} {H : Hp} {Q : VK} {o : Option (Int × Int)} (b : Bool) (ht : ∀ Qt : Bool → Hp → Prop, Qt b H → t σ H Qt)
    (h1 : b = true → ∀ Qe : VK, (∀ x H', Same H H' → IsO H' x o → Qe x H') → ta σ H Qe) (h2 : b = false → ∀ Qe : VK, (∀ x H', Same H H' → IsO H' x o → Qe x H') → tb σ H Qe)
    (hq : ∀ x H', Same H H' → IsO H' x o → Q x H') : tIf t ta tb σ H Q := by
  refine ht _ ?_
  cases b with
  | true => exact h1 rfl Q hq
  | false => exact h2 rfl Q hq
/-! ### promises -/
/-- is_whole of an int -/
def spWhole : Sp := fun vs H Q _ => ∃ i : Int, vs = [.int i] ∧ Q (.bl true) H
def spCheck : Sp := fun vs H Q _ => ∃ i : Int, vs = [.int i] ∧ 1 ≤ i ∧ i ≤ 1000000 ∧ Q .non H
def spParts : Sp := fun vs H Q _ => ∃ n : Int, vs = [.int n] ∧ 0 < n ∧ n ≤ 2000000 ∧ ∀ (ds : List Int) p H', Parts n ds → ds.length ≤ 3000 → Same H H' → H p = none → H' p = some (.lst (ds.map V.int)) → Q (.ref p) H'
def spRow : Sp := fun vs H Q _ => ∃ n L : Int, vs = [.int n, .int L] ∧ 1 ≤ n ∧ n ≤ 1000000 ∧ 1 ≤ L ∧ ib L ≤ 2000000 ∧ ∀ x H', Same H H' → IsO H' x (rowOf n L) → Q x H'
def spRows : Sp := fun vs H Q _ => ∃ n : Int, vs = [.int n] ∧ 1 ≤ n ∧ n ≤ 1000000 ∧ ∀ ps p H', Rows n ps → ps.length ≤ 3000 → Same H H' → H p = none → LP H' p ps → Q (.ref p) H'
def spHigh : Sp := fun vs H Q _ => ∃ n : Int, vs = [.int n] ∧ 1 ≤ n ∧ n ≤ 1000000 ∧ ∀ ps p H', HRows n ps → ps.length ≤ 3000 → Same H H' → H p = none → LP H' p ps → Q (.ref p) H'
/-! ### the law's helpers -/
def Bits (ns : List Int) : Prop := ∀ z ∈ ns, ib z ≤ 1048576
def spCellAt (K : PySem.W.Frag) : Sp := fun vs H Q _ => ∃ (a : Addr) (ns : List Int) (k : Int), vs = [.ref a, .int k] ∧ SqL K H a (ns.map V.int) ∧ Bits ns ∧ 0 ≤ k ∧ k < 2 ^ 62 ∧ ∀ c, ib c ≤ 1048576 → Q (.int c) H
def spDraw : Sp := fun vs H Q _ => ∃ c k m : Int, vs = [.int c, .int k, .int m] ∧ 0 ≤ k ∧ 0 < m ∧ ∀ r H', 0 ≤ r → r < m → Same H H' → Q (.int r) H'
def spValue : Sp := fun vs H Q _ => ∃ c t : Int, vs = [.int c, .int t] ∧ ib c ≤ 1048576 ∧ 0 ≤ t ∧ t ≤ 100 ∧ ∀ v H', 0 ≤ v → ib v ≤ 1048577 → Same H H' → Q (.int v) H'
def spNumber (K : PySem.W.Frag) : Sp := fun vs H Q _ => ∃ (a : Addr) (ns : List Int) (k : Int), vs = [.ref a, .int k] ∧ SqL K H a (ns.map V.int) ∧ Bits ns ∧ 0 ≤ k ∧ k < 2 ^ 62 ∧ ∀ n H', 1 ≤ n → n ≤ 1000000 → Same H H' → Q (.int n) H'
def primes : List Int := [1000003, 1000033, 1000037, 1000039, 1000081, 1000099, 1000117, 1000121, 1000133, 1000151, 1000159, 1000171, 1000183, 1000187, 1000193, 1000199]
theorem prime_at {i : Int} (h0 : 0 ≤ i) (h : i < 16) : ∃ p : Int, 0 < p ∧ atI (primes.map V.int) i = some (.int p) := by
  obtain ⟨j, rfl⟩ := Int.eq_ofNat_of_zero_le h0
  have hj : j < primes.length := by show j < 16; omega
  have hp : ∀ p ∈ primes, 0 < p := by decide
  refine ⟨primes[j], hp _ (List.getElem_mem hj), atI_nat ?_⟩
  rw [List.getElem?_map, List.getElem?_eq_getElem hj]
  rfl
theorem at_int {ns : List Int} {k : Int} (h0 : 0 ≤ k) (h : k < ns.length) : ∃ z ∈ ns, atI (ns.map V.int) k = some (.int z) := by
  obtain ⟨j, rfl⟩ := Int.eq_ofNat_of_zero_le h0
  have hj : j < ns.length := by omega
  refine ⟨ns[j], List.getElem_mem hj, atI_nat ?_⟩
  rw [List.getElem?_map, List.getElem?_eq_getElem hj]
  rfl
theorem ib_add {x y : Int} {m n : Nat} (hx : ib x ≤ m) (hy : ib y ≤ n) : ib (x + y) ≤ max m n + 1 := PySem.intBits_add_le hx hy
theorem ib_sub {x y : Int} {m n : Nat} (hx : ib x ≤ m) (hy : ib y ≤ n) : ib (x - y) ≤ max m n + 1 := PySem.intBits_sub_le hx hy
theorem ib_mul {x y : Int} {m n : Nat} (hx : ib x ≤ m) (hy : ib y ≤ n) : ib (x * y) ≤ m + n := PySem.intBits_mul_le hx hy
theorem mulx {x y : Int} {m n : Nat} (hx : ib x ≤ m) (hy : ib y ≤ n) (h : m + n ≤ 134217728) : CMulX x y := by
  show (ib x : Int) + (ib y : Int) ≤ 134217728
  omega
theorem cut_int (ns : List Int) (lo hi : Option Int) : ∃ ns' : List Int, cutV (ns.map V.int) lo hi = ns'.map V.int ∧ (∀ z ∈ ns', z ∈ ns) ∧ ns'.length ≤ ns.length := by
  refine ⟨(ns.drop (HT.sIx (ns.map V.int).length 0 lo)).take (HT.sIx (ns.map V.int).length (ns.map V.int).length hi - HT.sIx (ns.map V.int).length 0 lo), ?_, fun z hz => List.mem_of_mem_drop (List.mem_of_mem_take hz), ?_⟩
  · unfold cutV
    rw [List.map_take, List.map_drop]
  · rw [List.length_take, List.length_drop]
    omega
/-- the law's own loop: range(0, max(1, l), 1 + l // d) -/
theorem rg3 {l d : Nat} (hl : l ≤ 63) (hd : d = 3 ∨ d = 4 ∨ d = 6) : ∃ n : Nat, n ≤ 64 ∧ RgC 0 (if (l : Int) > 1 then (l : Int) else 1) (1 + (l : Int) / (d : Int)) n := by
  have key : ∀ d : Nat, d = 3 ∨ d = 4 ∨ d = 6 → ∀ l : Nat, l < 64 → (1 + (l : Int) / (d : Int)) ≠ 0 ∧ (1 + (l : Int) / (d : Int)).natAbs < 1073741824 ∧ Builtin.Range.small 0 (if (l : Int) > 1 then (l : Int) else 1) (1 + (l : Int) / (d : Int)) = true ∧ (Builtin.Range.rangeSize 0 (if (l : Int) > 1 then (l : Int) else 1) (1 + (l : Int) / (d : Int))).toNat ≤ 64 ∧ Builtin.Range.rangeSize 0 (if (l : Int) > 1 then (l : Int) else 1) (1 + (l : Int) / (d : Int)) = ((Builtin.Range.rangeSize 0 (if (l : Int) > 1 then (l : Int) else 1) (1 + (l : Int) / (d : Int))).toNat : Int) := by
    rintro d (rfl | rfl | rfl) <;> decide +kernel
  obtain ⟨h1, h2, h3, h4, h5⟩ := key d hd l (by omega)
  exact ⟨_, h4, h1, h2, h3, h5⟩
theorem by_ok {l d i n : Nat} (hl : l ≤ 63) (hd : d = 3 ∨ d = 4 ∨ d = 6) (hi : i < n) (hn : n ≤ 64) : 0 ≤ (0 : Int) + (i : Int) * (1 + (l : Int) / (d : Int)) ∧ (0 : Int) + (i : Int) * (1 + (l : Int) / (d : Int)) < 2 ^ 62 := by
  have hc : 0 ≤ (1 + (l : Int) / (d : Int)) ∧ (1 + (l : Int) / (d : Int)) ≤ 100 := by rcases hd with rfl | rfl | rfl <;> omega
  have h1 : (i : Int) * (1 + (l : Int) / (d : Int)) ≤ 64 * 100 := Int.mul_le_mul (by omega) hc.2 hc.1 (by decide)
  have h2 : 0 ≤ (i : Int) * (1 + (l : Int) / (d : Int)) := Int.mul_nonneg (by omega) hc.1
  omega
/-- a law's: a list of at most 63 ints is handed in, True comes out -/
def spLaw (K : PySem.W.Frag) : Sp := fun vs H Q _ => ∃ (a : Addr) (ns : List Int), vs = [.ref a] ∧ SqL K H a (ns.map V.int) ∧ ns.length ≤ 63 ∧ Bits ns ∧ ∀ H', Q (.bl true) H'
/-- a row's sum and length are small -/
theorem isRow_small {n f l : Int} (h1 : 1 ≤ n) (h2 : n ≤ 1000000) (h : IsRow n f l) : 0 < f + l ∧ f + l ≤ 2000000 ∧ 0 < l - f + 1 ∧ l - f + 1 ≤ 2000000 := by
  obtain ⟨a, b⟩ := h
  have hL : 0 < l - f + 1 := by omega
  have hs : 0 < f + l := Int.pos_of_mul_pos_left (b := l - f + 1) (by omega) (by omega)
  have d1 : f + l ≤ 2 * n := Int.le_of_dvd (show 0 < 2 * n by omega) ⟨_, b.symm⟩
  have d2 : l - f + 1 ≤ 2 * n := Int.le_of_dvd (show 0 < 2 * n by omega) ⟨f + l, by rw [Int.mul_comm (l - f + 1)]; exact b.symm⟩
  omega
theorem hr15 : HRows 15 [(1, 5), (4, 6), (7, 8), (15, 15)] := acc_rows (n := 15) (K := 5) (by decide) (by decide)
theorem hr2 : HRows 2 [(2, 2)] := acc_rows (n := 2) (K := 1) (by decide) (by decide)
theorem r2 : Rows 2 [(-1, 2), (2, 2)] := Rows.of_high (by decide) hr2 (by decide) fun x => by
  show x ∈ [((-1, 2) : Int × Int), (2, 2)] ↔ x ∈ [((2, 2) : Int × Int), (-1, 2)]
  rw [List.mem_cons, List.mem_cons, List.mem_cons, List.mem_cons]
  simp only [List.not_mem_nil, or_false]
  exact or_comm
end NB

set_option Elab.async false
set_option maxRecDepth 100000
set_option maxHeartbeats 4000000
/-! Comprehensions over a list of pairs; rows or None. -/
namespace NB
open PySem L2
abbrev gPair (K : PySem.W.Frag) (i j : Nat) : TG := gTup K 2 (gCons (gName i) (gCons (gName j) gNil))
/-- [an int of f, l for f, l in pairs] -/
theorem lc_ints {K : PySem.W.Frag} {a : Addr} {xs : List V} {ps : List (Int × Int)} {te : TE} {vs : List Nat} {σ : L2.St} {H1 : Hp} {D : Addr} {Qd : Hp → Prop} {i j : Nat} (g : H1 a = some (.lst xs)) (gx : PL H1 xs ps) (nD : H1 D = none) (F : Int × Int → Int) (hz : ps.length ≤ 90000)
    (hw : ∀ v u : V, wipe (((wipe σ vs).set i (some v)).set j (some u)) vs = wipe σ vs)
    (he : ∀ p ∈ ps, ∀ (H' : Hp) (Qc : VK), Qc (.int (F p)) H' → te (((wipe σ vs).set i (some (.int p.1))).set j (some (.int p.2))) H' Qc)
    (hd : ∀ H', Same H1 H' → H' D = some (.lst ((ps.map F).map V.int)) → Qd H') :
    ∃ W : Nat → Nat → Hp → Prop, (∃ m, W 0 m (upd H1 D (.lst []))) ∧ ∀ k m H, W k m H →
      ((Itl K a).stop k H ∧ Qd H) ∨ ((Itl K a).go k H ∧ ∃ Nx : Hp → Prop, (∀ H', Nx H' → ∃ m', m' < m ∧ W (k + 1) m' H') ∧ ∀ x H', (Itl K a).yld k H x H' → gPair K i j x (wipe σ vs) H' fun σ2 H2 => wipe σ2 vs = wipe σ vs ∧ tYes σ2 H2 fun b H3 =>
        if b = true then te σ2 H3 fun y H4 => ∃ acc, H4 D = some (.lst acc) ∧ acc.length < sizeLine ∧ Nx (upd H4 D (.lst (acc ++ [y]))) else Nx H3) := by
  have naD : a ≠ D := ne_of_none g nD
  refine lc_list (xs := xs) (fun k H' => Same H1 H' ∧ H' D = some (.lst (((ps.take k).map F).map V.int))) ⟨Same.new nD, upd_same⟩ ?_ ?_ ?_
  · rintro k H' _ ⟨hS, _⟩
    exact SqL.of (hS _ _ g)
  · rintro k x H' hx ⟨hS, gD⟩
    obtain ⟨⟨f, l⟩, hpk, t, rfl, ht⟩ := gx.get hx
    have hk : k < xs.length := (List.getElem?_eq_some_iff.mp hx).1
    have hll := gx.length
    have htk : ps.take (k + 1) = ps.take k ++ [(f, l)] := by rw [List.take_add_one, hpk]; rfl
    refine ⟨t, _, rfl, SqT.of (hS _ _ ht), rfl, _, _, rfl, _, _, rfl, rfl, hw _ _, ?_⟩
    refine he (f, l) (List.mem_of_getElem? hpk) H' _ ⟨_, gD, small1000' ?_, Same.mut hS nD, ?_⟩
    · rw [List.length_map, List.length_map, List.length_take]
      omega
    · rw [upd_same, htk, List.map_append, List.map_append]
      rfl
  · rintro H' ⟨hS, gD⟩
    rw [gx.length, List.take_length] at gD
    exact hd H' hS gD
/-- [a pair of f, l for f, l in pairs] -/
theorem lc_prs {K : PySem.W.Frag} {a : Addr} {xs : List V} {ps : List (Int × Int)} {te : TE} {vs : List Nat} {σ : L2.St} {H1 : Hp} {D : Addr} {Qd : Hp → Prop} {i j : Nat} (g : H1 a = some (.lst xs)) (gx : PL H1 xs ps) (nD : H1 D = none) (F : Int × Int → Int × Int) (hz : ps.length ≤ 90000)
    (hw : ∀ v u : V, wipe (((wipe σ vs).set i (some v)).set j (some u)) vs = wipe σ vs)
    (he : ∀ p ∈ ps, ∀ (H' : Hp) (Qc : VK), (∀ t, H' t = none → Qc (.ref t) (upd H' t (.tup [.int (F p).1, .int (F p).2]))) → te (((wipe σ vs).set i (some (.int p.1))).set j (some (.int p.2))) H' Qc)
    (hd : ∀ H', Same H1 H' → LP H' D (ps.map F) → Qd H') :
    ∃ W : Nat → Nat → Hp → Prop, (∃ m, W 0 m (upd H1 D (.lst []))) ∧ ∀ k m H, W k m H →
      ((Itl K a).stop k H ∧ Qd H) ∨ ((Itl K a).go k H ∧ ∃ Nx : Hp → Prop, (∀ H', Nx H' → ∃ m', m' < m ∧ W (k + 1) m' H') ∧ ∀ x H', (Itl K a).yld k H x H' → gPair K i j x (wipe σ vs) H' fun σ2 H2 => wipe σ2 vs = wipe σ vs ∧ tYes σ2 H2 fun b H3 =>
        if b = true then te σ2 H3 fun y H4 => ∃ acc, H4 D = some (.lst acc) ∧ acc.length < sizeLine ∧ Nx (upd H4 D (.lst (acc ++ [y]))) else Nx H3) := by
  have naD : a ≠ D := ne_of_none g nD
  refine lc_list (xs := xs) (fun k H' => Same H1 H' ∧ ∃ acc, H' D = some (.lst acc) ∧ PL H' acc ((ps.take k).map F)) ⟨Same.new nD, _, upd_same, .nil⟩ ?_ ?_ ?_
  · rintro k H' _ ⟨hS, _⟩
    exact SqL.of (hS _ _ g)
  · rintro k x H' hx ⟨hS, acc, gD, ga⟩
    obtain ⟨⟨f, l⟩, hpk, t, rfl, ht⟩ := gx.get hx
    have hk : k < xs.length := (List.getElem?_eq_some_iff.mp hx).1
    have hll := gx.length
    have htk : ps.take (k + 1) = ps.take k ++ [(f, l)] := by rw [List.take_add_one, hpk]; rfl
    refine ⟨t, _, rfl, SqT.of (hS _ _ ht), rfl, _, _, rfl, _, _, rfl, rfl, hw _ _, ?_⟩
    refine he (f, l) (List.mem_of_getElem? hpk) H' _ fun u nu => ?_
    have gD' : upd H' u (.tup [.int (F (f, l)).1, .int (F (f, l)).2]) D = some (.lst acc) := by rw [upd_ne (ne_of_none gD nu)]; exact gD
    have same : ∀ o x q, IsP (upd H' u (.tup [.int (F (f, l)).1, .int (F (f, l)).2])) x q → IsP (upd (upd H' u (.tup [.int (F (f, l)).1, .int (F (f, l)).2])) D (.lst o)) x q := fun o x q ⟨t, e, h⟩ => ⟨t, e, by rw [upd_ne (ne_of h gD' (fun z => nomatch z))]; exact h⟩
    refine ⟨acc, gD', small1000' ?_, Same.mut (hS.trans (Same.new nu)) nD, _, upd_same, ?_⟩
    · have := ga.length
      rw [List.length_map, List.length_take] at this
      omega
    · rw [htk, List.map_append]
      exact PL.append (Paired.mapP (ga.same (Same.new nu)) (same _)) (.cons (same _ _ _ ⟨u, rfl, upd_same⟩) .nil)
  · rintro H' ⟨hS, acc, gD, ga⟩
    rw [gx.length, List.take_length] at ga
    exact hd H' hS ⟨acc, gD, ga⟩
/-- the longest high row: the first -/
def spLongest : Sp := fun vs H Q _ => ∃ n : Int, vs = [.int n] ∧ 1 ≤ n ∧ n ≤ 1000000 ∧ ∀ p ps x H', HRows n (p :: ps) → Same H H' → IsP H' x p → Q x H'
theorem HRows.one {n : Int} (hn : 1 ≤ n) {ps : List (Int × Int)} (h : HRows n ps) : (n, n) ∈ ps := (h.mem n n).mpr ⟨⟨Int.le_refl _, by rw [Int.sub_self, Int.zero_add, Int.mul_one]; omega⟩, by omega⟩
theorem HRows.ne {n : Int} (hn : 1 ≤ n) {ps : List (Int × Int)} (h : HRows n ps) : ∃ p qs, ps = p :: qs := by
  have := h.one hn
  cases ps with
  | nil => cases this
  | cons p qs => exact ⟨p, qs, rfl⟩
end NB

set_option Elab.async false
set_option maxRecDepth 100000
namespace NB
open PySem L2
def topS (i : Nat) : Stmt := PySem.Challenge.pw_neighboursums_k02_whole_lengths.main.body.getD i (.Pass ⟨0, 0, 0, 0⟩)
end NB

set_option Elab.async false
set_option maxRecDepth 100000
set_option maxHeartbeats 4000000
set_option linter.unusedVariables false
namespace NB
open PySem L2
section
variable {P : Program} {w : World} {K : PySem.W.Frag} {mg : Str → Option Value} {base : Heap}
/-! ### is_whole, check_number -/
abbrev s_is_whole : Stmt := topS 6
theorem sc_is_whole : FnScope ["thing"] ["thing"] (defScope s_is_whole) := ⟨rfl, rfl, rfl, by decide +kernel, rfl, by decide +kernel, by decide +kernel⟩
theorem ok_is_whole {f : Addr} {fd : FuncData} (F : Fun K "is_whole" "is_whole" s_is_whole f fd) (B : Bt mg) : FnOk P w K mg base CX0 1 f fd ["thing"] spWhole := by
  refine F.ok sc_is_whole (fun vs H Q E h => ?_) (fun cdv A outer s H vs Q E hr h => ?_)
  · obtain ⟨i, rfl, _⟩ := h
    rfl
  · obtain ⟨i, rfl, q⟩ := h
    refine ⟨_, (pss_one (ps_ret (pe_and (pe_callB call_isi (by rfl) B.isinstance_ (by decide +kernel) (pa_cons (pv 0) (pa_cons (pe_bltn (v := .ty "int") (by rfl) B.int_ (by decide +kernel) rfl) pa_nil))) (pe_one (pe_not (pe_callB call_isi (by rfl) B.isinstance_ (by decide +kernel) (pa_cons (pv 0) (pa_cons (pe_bltn (v := .ty "bool") (by rfl) B.bool_ (by decide +kernel) rfl) pa_nil)))))))), ?_⟩
    refine ⟨_, rfl, _, _, _, _, true, rfl, .ty "int", .base (.int i), kit_ty (by decide +kernel), true, rfl, iteT ?_⟩
    exact ⟨_, rfl, _, _, _, _, false, rfl, .ty "bool", .base (.int i), kit_ty (by decide +kernel), false, rfl, q⟩
abbrev s_check_number : Stmt := topS 7
theorem sc_check_number : FnScope ["number"] ["number"] (defScope s_check_number) := ⟨rfl, rfl, rfl, by decide +kernel, rfl, by decide +kernel, by decide +kernel⟩
theorem ok_check_number {f : Addr} {fd : FuncData} (F : Fun K "check_number" "check_number" s_check_number f fd) (B : Bt mg) {t : Tok} (m_GREATEST : mg "GREATEST" = some (.int 1000000 t)) (C_is_whole : Callee P w K mg base 1 "is_whole" ["thing"] spWhole) : FnOk P w K mg base CX0 2 f fd ["number"] spCheck := by
  refine F.ok sc_check_number (fun vs H Q E h => ?_) (fun cdv A outer s H vs Q E hr h => ?_)
  · obtain ⟨i, rfl, _⟩ := h
    rfl
  · obtain ⟨i, rfl, h1, h2, q⟩ := h
    obtain ⟨f_is_whole, fd_is_whole, m_is_whole, k_is_whole, b_is_whole, G_is_whole⟩ := C_is_whole
    refine ⟨_, (pss_one (ps_if (PW.pt (pw_or (pt_not (pt_val (pe_call G_is_whole (hr.mono (by decide)) rfl m_is_whole k_is_whole b_is_whole .nil pass0 (pa_cons (pv 0) pa_nil)))) (pw_or1 (pt_not (pt_chain op_le op_le pe_int (pv 0) (pe_glob (v := .int 1000000) rfl m_GREATEST ⟨_, rfl⟩)))))) (pss_one ps_never) pss_nil)), ?_⟩
    refine ⟨_, rfl, i, rfl, _, rfl, iteF ?_⟩
    refine ⟨_, rfl, _, _, rfl, rfl, _, rfl, ?_⟩
    rw [decide_eq_true h1]
    refine iteT ?_
    refine ⟨_, _, rfl, rfl, _, rfl, ?_⟩
    rw [decide_eq_true h2]
    exact iteF q
end
end NB

set_option Elab.async false
set_option maxRecDepth 100000
set_option maxHeartbeats 4000000
set_option linter.unusedVariables false
namespace NB
open PySem L2
section
variable {P : Program} {w : World} {K : PySem.W.Frag} {mg : Str → Option Value} {base : Heap}
/-! ### row_of -/
abbrev s_row_of : Stmt := topS 9
theorem sc_row_of : FnScope ["number", "length", "first"] ["number", "length"] (defScope s_row_of) := ⟨rfl, rfl, rfl, by decide +kernel, rfl, by decide +kernel, by decide +kernel⟩
theorem ok_row_of {f : Addr} {fd : FuncData} (F : Fun K "row_of" "row_of" s_row_of f fd) (B : Bt mg) : FnOk P w K mg base CX0 1 f fd ["number", "length"] spRow := by
  refine F.ok sc_row_of (fun vs H Q E h => ?_) (fun cdv A outer s H vs Q E hr h => ?_)
  · obtain ⟨n, L, rfl, _⟩ := h
    rfl
  · obtain ⟨n, L, rfl, hn, hn2, hL, hb, q⟩ := h
    refine ⟨_, (pss_cons (ps_set (i := 2) sc_row_of.nd rfl (Or.inl rfl) (pe_op op_sub (pv 0) (pe_op op_fdiv (pe_op op_mulX (pv 1) (pe_op op_sub (pv 1) pe_int)) pe_int)))
      (pss_cons (ps_if (pt_cmpR op_ne (pe_op op_mod (pv 2) (pv 1)) pe_int (nomark _)) (pss_one (ps_ret pe_non)) pss_nil)
      (pss_cons (ps_set (i := 2) sc_row_of.nd rfl (Or.inl rfl) (pe_op op_fdivW (pv 2) (pv 1)))
      (pss_one (ps_ret (pe_tup (pa_cons (pv 2) (pa_cons (pe_op op_sub (pe_op op_add (pv 2) (pv 1)) pe_int) pa_nil)))))))), ?_⟩
    refine ⟨_, rfl, _, rfl, _, rfl, _, _, rfl, rfl, _, _, rfl, rfl, ?c1, _, _, rfl, rfl, ⟨by decide, by decide⟩, _, _, rfl, rfl, ?_⟩
    case c1 =>
      have h1 := PySem.intBits_sub_le hb (show ib 1 ≤ 1 by decide)
      show (ib L : Int) + (ib (L - 1) : Int) ≤ 134217728
      have h2 : ib (L - 1) ≤ 2000001 := Nat.le_trans h1 (by decide)
      omega
    refine ⟨_, rfl, _, rfl, _, _, rfl, rfl, (show 0 < L by omega), rfl, _, rfl, ?_⟩
    by_cases hd : (n - L * (L - 1) / 2) % L = 0
    · have e : rowOf n L = some ((n - L * (L - 1) / 2) / L, (n - L * (L - 1) / 2) / L + L - 1) := by unfold rowOf; rw [if_pos hd]
      have hle : L ≤ 2000000 := by
        have h := ((rowOf_iff (L := L) (by omega)).mp e).2.2
        generalize (n - L * (L - 1) / 2) / L = f at h
        have e2 : f + L - 1 - f + 1 = L := by omega
        rw [e2] at h
        exact Int.le_trans (Int.le_of_dvd (show 0 < 2 * n by omega) ⟨f + (f + L - 1), by rw [Int.mul_comm L]; exact h.symm⟩) (by omega)
      refine iteNS (congrArg V.int hd) ?_
      refine ⟨_, rfl, _, rfl, _, _, rfl, rfl, wide_div (b := 64) (by omega) (by omega) (by decide) (by decide), ?_⟩
      refine ⟨_, rfl, _, rfl, _, rfl, _, _, rfl, rfl, _, _, rfl, rfl, (by show 2 ≤ sizeLine; decide), fun p np => ?_⟩
      exact q (.ref p) _ (Same.new np) (by rw [e]; exact ⟨p, rfl, upd_same⟩)
    · have e : rowOf n L = none := by unfold rowOf; rw [if_neg hd]
      exact iteNN (fun z => hd (V.int.inj z)) (q .non _ (Same.refl _) (by rw [e]; rfl))
end
end NB

set_option Elab.async false
set_option maxRecDepth 100000
set_option maxHeartbeats 4000000
set_option linter.unusedVariables false
namespace NB
open PySem L2
section
variable {P : Program} {w : World} {K : PySem.W.Frag} {mg : Str → Option Value} {base : Heap}
/-! ### parts_of -/
abbrev s_parts_of : Stmt := topS 8
theorem sc_parts_of : FnScope ["number", "low", "high", "part"] ["number"] (defScope s_parts_of) := ⟨rfl, rfl, rfl, by decide +kernel, rfl, by decide +kernel, by decide +kernel⟩
theorem ok_parts_of {f : Addr} {fd : FuncData} (F : Fun K "parts_of" "parts_of" s_parts_of f fd) (B : Bt mg) : FnOk P w K mg base CX0 1 f fd ["number"] spParts := by
  refine F.ok sc_parts_of (fun vs H Q E h => ?_) (fun cdv A outer s H vs Q E hr h => ?_)
  · obtain ⟨i, rfl, _⟩ := h
    rfl
  · obtain ⟨n, rfl, hn, hn2, q⟩ := h
    refine ⟨_, (pss_cons (ps_par3 (i := 1) (j := 2) (l := 3) rfl sc_parts_of.nd rfl rfl rfl (by decide) (by decide) (by decide) rfl rfl rfl (pa_cons (pe_lst pa_nil) (pa_cons (pe_lst pa_nil) (pa_cons pe_int pa_nil))) (by rfl))
      (pss_cons (ps_while PassesOwn.never (pt_cmpR op_le (pe_op op_mul (pv 3) (pv 3)) (pv 0) (nomark _))
        (pss_cons (ps_if (pt_cmpR op_eq (pe_op op_mod (pv 0) (pv 3)) pe_int (nomark _)) (pss_cons (ps_expr (pe_bm PySem.F.plainAttrs_list PySem.F.slot_list_append PySem.F.type_list_append mt_append (pv 1) (pa_cons (pv 3) pa_nil)))
          (pss_one (ps_if (pt_cmpR op_lt (pe_op op_mul (pv 3) (pv 3)) (pv 0) (nomark _)) (pss_one (ps_expr (pe_bm PySem.F.plainAttrs_list PySem.F.slot_list_append PySem.F.type_list_append mt_append (pv 2) (pa_cons (pe_op op_fdivW (pv 0) (pv 3)) pa_nil)))) pss_nil))) pss_nil)
        (pss_one (ps_set (i := 3) sc_parts_of.nd rfl (Or.inl rfl) (pe_op op_add (pv 3) pe_int)))))
      (pss_one (ps_ret (pe_op op_cat (pv 1) (pe_revL (pv 2))))))), ?_⟩
    refine ⟨(by show 0 ≤ sizeLine; decide), fun p1 np1 => ⟨(by show 0 ≤ sizeLine; decide), fun p2 np2 => ⟨_, _, _, rfl, ?_⟩⟩⟩
    have n12 : p2 ≠ p1 := fun e => by subst e; rw [upd_same] at np2; cases np2
    have np2' : H p2 = none := by rw [upd_ne n12] at np2; exact np2
    refine while_nat 1500 (fun k σ H' => σ = [some (.int n), some (.ref p1), some (.ref p2), some (.int ((k + 1 : Nat) : Int))] ∧ (k : Int) * k ≤ n ∧ Same H H' ∧ H' p1 = some (.lst ((low n k).map V.int)) ∧ H' p2 = some (.lst ((high n k).map V.int))) ⟨rfl, by omega, (Same.new np1).trans (Same.new np2), by rw [upd_ne n12.symm, upd_same]; rfl, upd_same⟩ ?_
    rintro k m σ H' e ⟨rfl, hk, hS, h1, h2⟩
    have kb : k < 1500 := by
      refine Decidable.byContradiction fun hc => ?_
      have : (1500 : Int) * 1500 ≤ (k : Int) * k := Int.mul_le_mul (by omega) (by omega) (by omega) (by omega)
      omega
    refine ⟨_, rfl, _, rfl, _, _, rfl, rfl, .inl ⟨by omega, by omega⟩, _, rfl, _, _, rfl, rfl, _, rfl, ?_⟩
    refine ite2 (fun ht => ?_) fun ht => ?_
    · have ht := of_decide_eq_true ht
      refine ⟨_, turn_nat _ e kb, ?_⟩
      -- if number % part == 0
      refine ⟨_, rfl, _, rfl, _, _, rfl, rfl, by omega, rfl, _, rfl, ?_⟩
      have sl := low_len (n := n) (k := k)
      have sh := high_len (n := n) (k := k)
      have h12 : ∀ o, (upd H' p1 o) p2 = some (.lst ((high n k).map V.int)) := fun o => by rw [upd_ne n12]; exact h2
      refine ite2 (fun hd => ?_) fun hd => ?_
      · have hd : n % ((k + 1 : Nat) : Int) = 0 := by simpa using of_decide_eq_true hd
        have el : low n (k + 1) = low n k ++ [((k + 1 : Nat) : Int)] := by rw [low, if_pos hd]
        refine ⟨_, rfl, .inl ⟨rfl, _, SqL.of h1⟩, _, rfl, p1, _, _, rfl, rfl, h1, small1000' (by rw [List.length_map]; omega), ?_⟩
        refine ⟨_, rfl, _, rfl, _, _, rfl, rfl, .inl ⟨by omega, by omega⟩, _, rfl, _, _, rfl, rfl, _, rfl, ?_⟩
        refine ite2 (fun hq => ?_) fun hq => ?_
        · have hq := of_decide_eq_true hq
          have eh : high n (k + 1) = high n k ++ [n / ((k + 1 : Nat) : Int)] := by rw [high, if_pos ⟨hd, hq⟩]
          refine ⟨_, rfl, .inl ⟨rfl, _, SqL.of (h12 _)⟩, _, rfl, _, rfl, _, _, rfl, rfl, wide_div (b := 64) (by omega) (by omega) (by decide) (by decide), p2, _, _, rfl, rfl, h12 _, small1000' (by rw [List.length_map]; omega), ?_⟩
          refine ⟨_, rfl, _, _, rfl, rfl, ?_⟩
          refine ⟨rfl, ht, Same.mut (Same.mut hS np1) np2', ?_, ?_⟩
          · rw [upd_ne n12.symm, upd_same, el, List.map_append]
            rfl
          · rw [upd_same, eh, List.map_append]
            rfl
        · have hq : ¬ (((k + 1 : Nat) : Int) * ((k + 1 : Nat) : Int) < n) := fun z => hq (decide_eq_true z)
          have eh : high n (k + 1) = high n k := by rw [high, if_neg fun z => hq z.2]
          refine ⟨_, rfl, _, _, rfl, rfl, ?_⟩
          refine ⟨rfl, ht, Same.mut hS np1, ?_, ?_⟩
          · rw [upd_same, el, List.map_append]
            rfl
          · rw [upd_ne n12, eh]
            exact h2
      · have hd : ¬ n % ((k + 1 : Nat) : Int) = 0 := fun z => hd (decide_eq_true (congrArg V.int z))
        refine ⟨_, rfl, _, _, rfl, rfl, ?_⟩
        refine ⟨rfl, ht, hS, ?_, ?_⟩
        · rw [h1, low, if_neg hd]
        · rw [h2, high, if_neg fun z => hd z.1]
    · have ht : ¬ (((k + 1 : Nat) : Int) * ((k + 1 : Nat) : Int) ≤ n) := fun z => ht (decide_eq_true z)
      have ec : ((k + 1 : Nat) : Int) = (k : Int) + 1 := by omega
      rw [ec] at ht
      refine ⟨_, rfl, _, rfl, p2, _, rfl, SqL.of h2, fun p3 np3 => ?_⟩
      have n31 : p1 ≠ p3 := ne_of_none h1 np3
      refine ⟨p1, p3, _, _, rfl, rfl, by rw [upd_ne n31]; exact h1, upd_same, ?_, fun p4 np4 => ?_⟩
      · rw [List.length_reverse, List.length_map, List.length_map]
        have sl := low_len (n := n) (k := k)
        have sh := high_len (n := n) (k := k)
        exact Nat.le_of_lt (small1000' (by omega))
      · have ok := parts_ok hn hk (by omega)
        refine q _ p4 _ ok ?_ ((hS.trans (Same.new np3)).trans (Same.new np4)) ((hS.trans (Same.new np3)).free np4) ?_
        · have := parts_len (n := n) (k := k)
          omega
        · rw [upd_same]
          unfold parts
          rw [List.map_append, List.map_reverse]
/-! ### rows_of -/
abbrev s_rows_of : Stmt := topS 10
theorem sc_rows_of : FnScope ["number", "found", "length", "row"] ["number"] (defScope s_rows_of) := ⟨rfl, rfl, rfl, by decide +kernel, rfl, by decide +kernel, by decide +kernel⟩
theorem ok_rows_of {f : Addr} {fd : FuncData} (F : Fun K "rows_of" "rows_of" s_rows_of f fd) (B : Bt mg) (C_parts_of : Callee P w K mg base 1 "parts_of" ["number"] spParts) (C_row_of : Callee P w K mg base 1 "row_of" ["number", "length"] spRow) : FnOk P w K mg base CX0 2 f fd ["number"] spRows := by
  refine F.ok sc_rows_of (fun vs H Q E h => ?_) (fun cdv A outer s H vs Q E hr h => ?_)
  · obtain ⟨n, rfl, _⟩ := h
    rfl
  · obtain ⟨n, rfl, hn, hn2, q⟩ := h
    obtain ⟨f_parts_of, fd_parts_of, m_parts_of, k_parts_of, b_parts_of, G_parts_of⟩ := C_parts_of
    obtain ⟨f_row_of, fd_row_of, m_row_of, k_row_of, b_row_of, G_row_of⟩ := C_row_of
    refine ⟨_, (pss_cons (ps_set (i := 1) sc_rows_of.nd rfl (Or.inl rfl) (pe_lst pa_nil))
      (pss_cons (ps_for PassesOwn.never rfl (pi_list (pe_call G_parts_of (hr.mono (by decide)) rfl m_parts_of k_parts_of b_parts_of .nil pass0 (pa_cons (pe_op op_mul pe_int (pv 0)) pa_nil))) (pg_name (i := 2) sc_rows_of.nd rfl (.inl rfl))
        (pss_cons (ps_set (i := 3) sc_rows_of.nd rfl (Or.inl rfl) (pe_call G_row_of (hr.mono (by decide)) rfl m_row_of k_row_of b_row_of .nil pass0 (pa_cons (pv 0) (pa_cons (pv 2) pa_nil))))
        (pss_one (ps_if (pt_cmpR op_notN (pv 3) pe_non (nomark _)) (pss_one (ps_expr (pe_bm PySem.F.plainAttrs_list PySem.F.slot_list_append PySem.F.type_list_append mt_append (pv 1) (pa_cons (pv 3) pa_nil)))) pss_nil))))
      (pss_one (ps_ret (pe_callB cr_sortedPO (by rfl) B.sorted_ (by decide +kernel) (pa_cons (pv 1) pa_nil)))))), ?_⟩
    refine ⟨(by show 0 ≤ sizeLine; decide), fun p1 np1 => ?_⟩
    refine ⟨_, rfl, _, _, rfl, rfl, .inl ⟨by decide, by decide⟩, 2 * n, rfl, by omega, by omega, fun ds p2 H2 hP hl s2 np2 h2 => ?_⟩
    have h1 : H2 p1 = some (.lst []) := s2 _ _ upd_same
    have s02 : Same H H2 := (Same.new np1).trans s2
    have n12 : p2 ≠ p1 := ne_new np2 (by rw [upd_same]; exact fun z => nomatch z) |>.symm
    refine ⟨p2, rfl, ⟨_, SqL.of h2⟩, for_list (xs := ds.map V.int) (fun i σ H' => ∃ x1 x2 xs, σ = [some (.int n), some (.ref p1), x1, x2] ∧ Same H H' ∧ H' p2 = some (.lst (ds.map V.int)) ∧ H' p1 = some (.lst xs) ∧ PL H' xs ((ds.take i).filterMap (rowOf n)) ∧ xs.length ≤ i) ?h0 ?hl ?hs ?hd⟩
    case h0 => exact ⟨_, _, [], rfl, s02, h2, h1, .nil, Nat.le_refl _⟩
    case hl =>
      rintro i σ H' _ ⟨_, _, _, rfl, _, h, _⟩
      exact SqL.of h
    case hs =>
      rintro i x σ H' hx ⟨x1, x2, xs, rfl, hS, g2, g1, hpl, hlen⟩
      have hi : i < ds.length := by
        have := (List.getElem?_eq_some_iff.mp hx).1
        rwa [List.length_map] at this
      have ex : x = .int ds[i] := by
        rw [List.getElem?_map, List.getElem?_eq_getElem hi] at hx
        exact (Option.some.inj hx).symm
      subst ex
      have hd0 := (hP.mem ds[i]).mp (List.getElem_mem hi)
      have htk : ds.take (i + 1) = ds.take i ++ [ds[i]] := by rw [List.take_add_one, List.getElem?_eq_getElem hi]; rfl
      have hle : ds[i] ≤ 2 * n := Int.le_of_dvd (by omega) (Int.dvd_of_emod_eq_zero hd0.2)
      refine ⟨_, rfl, _, rfl, n, ds[i], rfl, hn, hn2, by omega, ?_, fun x H3 s3 hx3 => ?_⟩
      · exact Nat.le_trans (ib_of (m := 64) (by omega)) (by decide)
      · have g13 := s3 _ _ g1
        cases hso : rowOf n ds[i] with
        | none =>
          rw [hso] at hx3
          cases (show x = .non from hx3)
          refine ⟨_, rfl, rfl, _, rfl, iteNS rfl ?_⟩
          refine ⟨_, _, xs, rfl, hS.trans s3, s3 _ _ g2, g13, ?_, by omega⟩
          rw [htk, List.filterMap_append, List.filterMap_cons, hso]
          simpa using hpl.same s3
        | some fl =>
          rw [hso] at hx3
          obtain ⟨p, rfl, h3⟩ := (show IsP H3 x fl from hx3)
          refine ⟨_, rfl, rfl, _, rfl, ?_⟩
          refine itB rfl ?_
          refine ⟨_, rfl, .inl ⟨rfl, _, SqL.of g13⟩, _, rfl, p1, _, _, rfl, rfl, g13, small1000' (by omega), ?_⟩
          refine ⟨_, _, _, rfl, Same.mut (hS.trans s3) np1, by rw [upd_ne n12]; exact s3 _ _ g2, upd_same, ?_, ?_⟩
          · have same : ∀ x q, IsP H3 x q → IsP (upd H3 p1 (.lst (xs ++ [.ref p]))) x q := fun x q ⟨t, e, h⟩ => ⟨t, e, by rw [upd_ne (ne_of h g13 (fun z => nomatch z))]; exact h⟩
            rw [htk, List.filterMap_append, List.filterMap_cons, hso]
            exact PL.append (Paired.mapP (hpl.same s3) same) (.cons (same _ _ ⟨p, rfl, h3⟩) .nil)
          · rw [List.length_append]
            simp only [List.length_cons, List.length_nil]
            omega
    case hd =>
      rintro σ H' ⟨x1, x2, xs, rfl, hS, g2, g1, hpl, hlen⟩
      rw [List.length_map] at hlen
      rw [List.length_map, List.take_length] at hpl
      refine ⟨_, rfl, ?_⟩
      refine rd_sorted (SqL.of g1) hpl fun ys qs p hq hs hp np => ?_
      refine q qs p _ (rows_ok hP hs hp) ?_ (hS.trans (Same.new np)) (hS.free np) ⟨ys, upd_same, hq.same (Same.new np)⟩
      rw [hp.length_eq, ← hpl.length]
      omega
end
end NB

set_option Elab.async false
set_option maxRecDepth 100000
set_option maxHeartbeats 4000000
set_option linter.unusedVariables false
namespace NB
open PySem L2
section
variable {P : Program} {w : World} {K : PySem.W.Frag} {mg : Str → Option Value} {base : Heap}
abbrev s_high_rows : Stmt := topS 11
theorem sc_high_rows : FnScope ["number", "row"] ["number"] (defScope s_high_rows) := ⟨rfl, rfl, rfl, by decide +kernel, rfl, by decide +kernel, by decide +kernel⟩
theorem ok_high_rows {f : Addr} {fd : FuncData} (F : Fun K "high_rows" "high_rows" s_high_rows f fd) (C_check_number : Callee P w K mg base 2 "check_number" ["number"] spCheck) (C_rows_of : Callee P w K mg base 2 "rows_of" ["number"] spRows) : FnOk P w K mg base CX0 3 f fd ["number"] spHigh := by
  refine F.ok sc_high_rows (fun vs H Q E h => ?_) (fun cdv A outer s H vs Q E hr h => ?_)
  · obtain ⟨n, rfl, _⟩ := h
    rfl
  · obtain ⟨n, rfl, hn, hn2, q⟩ := h
    obtain ⟨f_check_number, fd_check_number, m_check_number, k_check_number, b_check_number, G_check_number⟩ := C_check_number
    obtain ⟨f_rows_of, fd_rows_of, m_rows_of, k_rows_of, b_rows_of, G_rows_of⟩ := C_rows_of
    refine ⟨_, (pss_cons (ps_expr (pe_call G_check_number (hr.mono (by decide)) rfl m_check_number k_check_number b_check_number .nil pass0 (pa_cons (pv 0) pa_nil)))
      (pss_one (ps_ret (pe_lc (g := (gName 1)) (own := [("row", 1)]) rfl sc_high_rows.nd (pi_list (pe_call G_rows_of (hr.mono (by decide)) rfl m_rows_of k_rows_of b_rows_of .nil pass0 (pa_cons (pv 0) pa_nil))) (blkOk_by (N := ["number", "row"]) (sc := defScope s_high_rows) (by decide +kernel)) (fun _ _ _ _ _ => (pg_name (i := 1) sc_high_rows.nd rfl (.inl rfl))) (fun _ _ _ _ _ => (pts_one (pt_cmpR op_gt (pe_ix (r := rIxT K) ix_tup (pv 1) pe_int (fun _ _ => rfl)) pe_int (nomark _)))) (fun _ _ _ _ _ => (pv 1)))))), ?_⟩
    refine ⟨_, rfl, n, rfl, hn, hn2, _, rfl, n, rfl, hn, hn2, fun ps p H1 hR hl s1 np h1 => ?_⟩
    obtain ⟨xs, g, hp⟩ := h1
    refine ⟨p, rfl, ⟨xs, SqL.of g⟩, fun D nD => ?_⟩
    have npD : p ≠ D := ne_of_none g nD
    refine lc_list (xs := xs) (fun i H' => Same H H' ∧ H' p = some (.lst xs) ∧ PL H' xs ps ∧ ∃ acc, H' D = some (.lst acc) ∧ PL H' acc ((ps.take i).filter fun p => decide (0 < p.1)) ∧ acc.length ≤ i) ?h0 ?hl ?hs ?hd
    case h0 => exact ⟨s1.trans (Same.new nD), by rw [upd_ne npD]; exact g, hp.same (Same.new nD), [], upd_same, .nil, Nat.le_refl _⟩
    case hl =>
      rintro i H' _ ⟨_, h, _⟩
      exact SqL.of h
    case hs =>
      rintro i x H' hx ⟨hS, g1, gp, acc, gD, ga, hlen⟩
      obtain ⟨⟨a, b⟩, hpi, t, rfl, ht⟩ := gp.get hx
      have hi : i < xs.length := (List.getElem?_eq_some_iff.mp hx).1
      have htk : ps.take (i + 1) = ps.take i ++ [(a, b)] := by rw [List.take_add_one, hpi]; rfl
      refine ⟨rfl, ?_⟩
      refine ⟨_, rfl, t, _, 0, _, rfl, rfl, SqT.of ht, atI_nat (j := 0) rfl, _, _, rfl, rfl, _, rfl, ?_⟩
      have same : ∀ o x q, IsP H' x q → IsP (upd H' D (.lst o)) x q := fun o x q ⟨t, e, h⟩ => ⟨t, e, by rw [upd_ne (ne_of h gD (fun z => nomatch z))]; exact h⟩
      refine ite2 (fun hc => ?_) fun hc => ?_
      · have hc := of_decide_eq_true hc
        refine ⟨_, rfl, acc, gD, small1000' ?_, ?_⟩
        · have := hp.length
          omega
        · refine ⟨Same.mut hS (s1.free nD), by rw [upd_ne npD]; exact g1, Paired.mapP gp (same _), _, upd_same, ?_, ?_⟩
          · have e1 : ([(a, b)] : List (Int × Int)).filter (fun p => decide (0 < p.1)) = [(a, b)] := by simpa using hc
            rw [htk, List.filter_append, e1]
            exact PL.append (Paired.mapP ga (same _)) (.cons (same _ _ _ ⟨t, rfl, ht⟩) .nil)
          · rw [List.length_append]
            simp only [List.length_cons, List.length_nil]
            omega
      · have hc : ¬ 0 < a := fun z => hc (decide_eq_true z)
        refine ⟨hS, g1, gp, acc, gD, ?_, by omega⟩
        have e1 : ([(a, b)] : List (Int × Int)).filter (fun p => decide (0 < p.1)) = [] := by simpa using hc
        rw [htk, List.filter_append, e1, List.append_nil]
        exact ga
    case hd =>
      rintro H' ⟨hS, g1, gp, acc, gD, ga, hlen⟩
      have el := hp.length
      rw [el, List.take_length] at ga
      exact q _ D H' hR.high (by have := ga.length; omega) hS (s1.free nD) ⟨acc, gD, ga⟩
end
end NB

set_option Elab.async false
set_option maxRecDepth 100000
set_option maxHeartbeats 4000000
set_option linter.unusedVariables false
namespace NB
open PySem L2
section
variable {P : Program} {w : World} {K : PySem.W.Frag} {mg : Str → Option Value} {base : Heap}
abbrev s_longest : Stmt := topS 12
theorem sc_longest : FnScope ["number"] ["number"] (defScope s_longest) := ⟨rfl, rfl, rfl, by decide +kernel, rfl, by decide +kernel, by decide +kernel⟩
theorem ok_longest {f : Addr} {fd : FuncData} (F : Fun K "longest" "longest" s_longest f fd) (C_high_rows : Callee P w K mg base 3 "high_rows" ["number"] spHigh) : FnOk P w K mg base CX0 4 f fd ["number"] spLongest := by
  refine F.ok sc_longest (fun vs H Q E h => ?_) (fun cdv A outer s H vs Q E hr h => ?_)
  · obtain ⟨n, rfl, _⟩ := h
    rfl
  · obtain ⟨n, rfl, hn, hn2, q⟩ := h
    obtain ⟨f_high_rows, fd_high_rows, m_high_rows, k_high_rows, b_high_rows, G_high_rows⟩ := C_high_rows
    refine ⟨_, (pss_one (ps_ret (pe_ix (r := rIxL K) ix_list (pe_call G_high_rows (hr.mono (by decide)) rfl m_high_rows k_high_rows b_high_rows .nil pass0 (pa_cons (pv 0) pa_nil)) pe_int (fun _ _ => rfl)))), ?_⟩
    refine ⟨_, rfl, n, rfl, hn, hn2, fun ps p H1 hps hl s1 np h1 => ?_⟩
    obtain ⟨xs, g, hp⟩ := h1
    obtain ⟨p0, qs, rfl⟩ := hps.ne hn
    cases hp with
    | cons hx ht => exact ⟨p, _, 0, _, rfl, rfl, SqL.of g, atI_nat (j := 0) rfl, q _ _ _ _ hps s1 hx⟩
abbrev s_of_length : Stmt := topS 13
theorem sc_of_length : FnScope ["number", "length"] ["number", "length"] (defScope s_of_length) := ⟨rfl, rfl, rfl, by decide +kernel, rfl, by decide +kernel, by decide +kernel⟩
theorem ok_of_length {f : Addr} {fd : FuncData} (F : Fun K "of_length" "of_length" s_of_length f fd) (C_check_number : Callee P w K mg base 2 "check_number" ["number"] spCheck) (C_is_whole : Callee P w K mg base 1 "is_whole" ["thing"] spWhole) (C_row_of : Callee P w K mg base 1 "row_of" ["number", "length"] spRow) : FnOk P w K mg base CX0 3 f fd ["number", "length"] spRow := by
  refine F.ok sc_of_length (fun vs H Q E h => ?_) (fun cdv A outer s H vs Q E hr h => ?_)
  · obtain ⟨_, _, rfl, _⟩ := h
    rfl
  · obtain ⟨n, L, rfl, hn, hn2, hL, hb, q⟩ := h
    obtain ⟨f_check_number, fd_check_number, m_check_number, k_check_number, b_check_number, G_check_number⟩ := C_check_number
    obtain ⟨f_is_whole, fd_is_whole, m_is_whole, k_is_whole, b_is_whole, G_is_whole⟩ := C_is_whole
    obtain ⟨f_row_of, fd_row_of, m_row_of, k_row_of, b_row_of, G_row_of⟩ := C_row_of
    refine ⟨_, (pss_cons (ps_expr (pe_call G_check_number (hr.mono (by decide)) rfl m_check_number k_check_number b_check_number .nil pass0 (pa_cons (pv 0) pa_nil)))
      (pss_cons (ps_if (PW.pt (pw_or (pt_not (pt_val (pe_call G_is_whole (hr.mono (by decide)) rfl m_is_whole k_is_whole b_is_whole .nil pass0 (pa_cons (pv 1) pa_nil)))) (pw_or1 (pt_cmpR op_lt (pv 1) pe_int (nomark _))))) (pss_one ps_never) pss_nil)
      (pss_one (ps_ret (pe_call G_row_of (hr.mono (by decide)) rfl m_row_of k_row_of b_row_of .nil pass0 (pa_cons (pv 0) (pa_cons (pv 1) pa_nil))))))), ?_⟩
    refine ⟨_, rfl, n, rfl, hn, hn2, ?_⟩
    refine ⟨_, rfl, L, rfl, _, rfl, iteF ?_⟩
    refine ⟨_, rfl, _, _, rfl, rfl, _, rfl, iteDN (show ¬ L < 1 by omega) ?_⟩
    exact ⟨_, rfl, _, rfl, n, L, rfl, hn, hn2, hL, hb, q⟩
end
end NB

set_option Elab.async false
set_option maxRecDepth 100000
set_option maxHeartbeats 4000000
set_option linter.unusedVariables false
namespace NB
open PySem L2
section
variable {P : Program} {w : World} {K : PySem.W.Frag} {mg : Str → Option Value} {base : Heap}
/-! ### the law's helpers -/
abbrev s__law_cell_at : Stmt := topS 15
theorem sc__law_cell_at : FnScope ["_law_script", "_law_k"] ["_law_script", "_law_k"] (defScope s__law_cell_at) := ⟨rfl, rfl, rfl, by decide +kernel, rfl, by decide +kernel, by decide +kernel⟩
theorem ok__law_cell_at {f : Addr} {fd : FuncData} (F : Fun K "_law_cell_at" "_law_cell_at" s__law_cell_at f fd) (B : Bt mg) : FnOk P w K mg base CX0 1 f fd ["_law_script", "_law_k"] (spCellAt K) := by
  refine F.ok sc__law_cell_at (fun vs H Q E h => ?_) (fun cdv A outer s H vs Q E hr h => ?_)
  · obtain ⟨_, _, _, rfl, _⟩ := h
    rfl
  · obtain ⟨a, ns, k, rfl, hS, hb, h0, hk, q⟩ := h
    refine ⟨_, (pss_cons (ps_if (pt_cmpR op_lt (pv 1) (pe_callB call_len_seq (by rfl) B.len_ (by decide +kernel) (pa_cons (pv 0) pa_nil)) (nomark _)) (pss_one (ps_ret (pe_ix (r := rIxL K) ix_list (pv 0) (pv 1) (fun _ _ => rfl)))) pss_nil)
      (pss_one (ps_ret pe_int))), ?_⟩
    refine ⟨_, rfl, _, rfl, a, _, rfl, .inl hS, _, _, rfl, rfl, _, rfl, ?_⟩
    refine ite2 (fun hc => ?_) fun hc => ?_
    · have hc : k < ns.length := by
        have := of_decide_eq_true hc
        rwa [List.length_map] at this
      obtain ⟨z, hz, e⟩ := at_int h0 hc
      exact ⟨_, rfl, _, rfl, a, _, _, _, rfl, rfl, hS, e, q z (hb z hz)⟩
    · exact q 0 (by decide)
abbrev s__law_draw : Stmt := topS 16
theorem sc__law_draw : FnScope ["_law_cell", "_law_k", "_law_many", "_law_primes"] ["_law_cell", "_law_k", "_law_many"] (defScope s__law_draw) := ⟨rfl, rfl, rfl, by decide +kernel, rfl, by decide +kernel, by decide +kernel⟩
theorem ok__law_draw {f : Addr} {fd : FuncData} (F : Fun K "_law_draw" "_law_draw" s__law_draw f fd) : FnOk P w K mg base CX0 1 f fd ["_law_cell", "_law_k", "_law_many"] spDraw := by
  refine F.ok sc__law_draw (fun vs H Q E h => ?_) (fun cdv A outer s H vs Q E hr h => ?_)
  · obtain ⟨_, _, _, rfl, _⟩ := h
    rfl
  · obtain ⟨c, k, m, rfl, h0, hm, q⟩ := h
    refine ⟨_, (pss_cons (ps_set (i := 3) sc__law_draw.nd rfl (Or.inl rfl) (pe_tup (pa_cons pe_int (pa_cons pe_int (pa_cons pe_int (pa_cons pe_int (pa_cons pe_int (pa_cons pe_int (pa_cons pe_int (pa_cons pe_int (pa_cons pe_int (pa_cons pe_int (pa_cons pe_int (pa_cons pe_int (pa_cons pe_int (pa_cons pe_int (pa_cons pe_int (pa_cons pe_int pa_nil))))))))))))))))))
      (pss_one (ps_ret (pe_op op_mod (pe_op op_mod (pe_op op_add (pe_op op_mul (pv 0) pe_int) (pe_op op_mul (pv 1) pe_int)) (pe_ix (r := rIxT K) ix_tup (pv 3) (pe_op op_mod (pv 1) pe_int) (fun _ _ => rfl))) (pv 2))))), ?_⟩
    refine ⟨(by show 16 ≤ sizeLine; decide), fun p np => ?_⟩
    obtain ⟨r, hr0, er⟩ := prime_at (i := k % 16) (by omega) (by omega)
    refine ⟨_, rfl, _, _, rfl, rfl, .inr ⟨by decide, by decide⟩, _, rfl, _, _, rfl, rfl, .inr ⟨by decide, by decide⟩, _, _, rfl, rfl, _, rfl, _, rfl, _, _, rfl, rfl, (by show (0 : Int) < 16; decide), p, _, _, _, rfl, rfl, SqT.of upd_same, er, _, _, rfl, rfl, hr0, _, rfl, _, _, rfl, rfl, hm, ?_⟩
    exact q _ _ (Int.emod_nonneg _ (by omega)) (Int.emod_lt_of_pos _ hm) (Same.new np)
abbrev s__law_value : Stmt := topS 17
theorem sc__law_value : FnScope ["_law_cell", "_law_turn", "_law_mixed"] ["_law_cell", "_law_turn"] (defScope s__law_value) := ⟨rfl, rfl, rfl, by decide +kernel, rfl, by decide +kernel, by decide +kernel⟩
theorem ok__law_value {f : Addr} {fd : FuncData} (F : Fun K "_law_value" "_law_value" s__law_value f fd) (C__law_draw : Callee P w K mg base 1 "_law_draw" ["_law_cell", "_law_k", "_law_many"] spDraw) : FnOk P w K mg base CX0 2 f fd ["_law_cell", "_law_turn"] spValue := by
  refine F.ok sc__law_value (fun vs H Q E h => ?_) (fun cdv A outer s H vs Q E hr h => ?_)
  · obtain ⟨_, _, rfl, _⟩ := h
    rfl
  · obtain ⟨c, t, rfl, hb, h0, ht, q⟩ := h
    obtain ⟨f__law_draw, fd__law_draw, m__law_draw, k__law_draw, b__law_draw, G__law_draw⟩ := C__law_draw
    refine ⟨_, (pss_cons (ps_if (pt_cmpR op_ge (pv 0) (pe_op op_pow pe_int pe_int) (nomark _)) (pss_one (ps_ret (pe_op op_shr (pe_op op_sub (pv 0) (pe_op op_pow pe_int pe_int)) (pe_op op_mul pe_int (pv 1))))) pss_nil)
      (pss_cons (ps_set (i := 2) sc__law_value.nd rfl (Or.inl rfl) (pe_call G__law_draw (hr.mono (by decide)) rfl m__law_draw k__law_draw b__law_draw .nil pass0 (pa_cons (pe_op op_mulX (pe_op op_add (pv 0) (pe_op op_mul pe_int (pv 1))) (pe_op op_add (pe_op op_add (pv 0) (pe_op op_mul pe_int (pv 1))) pe_int)) (pa_cons (pe_op op_add (pe_op op_mod (pv 1) pe_int) pe_int) (pa_cons pe_int pa_nil)))))
      (pss_one (ps_ret (pe_op op_add (pe_op op_mul (pv 2) pe_int) (pe_call G__law_draw (hr.mono (by decide)) rfl m__law_draw k__law_draw b__law_draw .nil pass0 (pa_cons (pe_op op_add (pe_op op_mulX (pe_op op_add (pv 0) (pe_op op_mul pe_int (pv 1))) (pe_op op_add (pv 0) pe_int)) (pe_op op_mul pe_int (pv 1))) (pa_cons (pe_op op_add (pe_op op_mod (pv 1) pe_int) pe_int) (pa_cons pe_int pa_nil))))))))), ?_⟩
    refine ⟨_, rfl, _, _, rfl, rfl, ⟨by decide, by decide, by decide⟩, _, _, rfl, rfl, _, rfl, ?_⟩
    refine ite2 (fun hc => ?_) fun hc => ?_
    · have e18 : (10 : Int) ^ Int.toNat 18 = 1000000000000000000 := by decide
      have hc : (10 : Int) ^ Int.toNat 18 ≤ c := of_decide_eq_true hc
      refine ⟨_, rfl, _, _, rfl, rfl, ⟨by decide, by decide, by decide⟩, _, _, rfl, rfl, _, rfl, _, _, rfl, rfl, .inl ⟨by decide, by decide⟩, _, _, rfl, rfl, (show 0 ≤ 3 * t by omega), ?_⟩
      have hp : (0 : Int) < 2 ^ (3 * t).toNat := PySem.W.kbt_pos _
      have hz : 0 ≤ c - (10 : Int) ^ Int.toNat 18 := by omega
      have hz2 : c - (10 : Int) ^ Int.toNat 18 ≤ c := by rw [e18]; omega
      refine q ((c - (10 : Int) ^ Int.toNat 18) / 2 ^ (3 * t).toNat) _ (Int.ediv_nonneg hz (by omega)) ?_ (Same.refl _)
      generalize c - (10 : Int) ^ Int.toNat 18 = d at hz hz2
      have hq := Int.ediv_nonneg hz (show (0 : Int) ≤ 2 ^ (3 * t).toNat by omega)
      have hq2 := Int.ediv_le_self (2 ^ (3 * t).toNat) hz
      exact Nat.le_trans (PySem.intBits_le_of_natAbs (y := c) (by omega) hb) (by decide)
    · have l0 : ib (977 * t) ≤ 64 := ib_of (by omega)
      have l1 : ib (31 * t) ≤ 64 := ib_of (by omega)
      have b1 := ib_add hb l0
      have b2 := ib_add hb l1
      have b3 := ib_add b2 (show ib 5 ≤ 64 by decide)
      have b4 := ib_add hb (show ib 7 ≤ 64 by decide)
      refine ⟨_, rfl, _, rfl, _, _, rfl, rfl, .inl ⟨by decide, by decide⟩, _, _, rfl, rfl, _, rfl, _, rfl, _, _, rfl, rfl, .inl ⟨by decide, by decide⟩, _, _, rfl, rfl, _, _, rfl, rfl, _, _, rfl, rfl, mulx b1 b3 (by decide), _, rfl, _, _, rfl, rfl, (by show (0 : Int) < 9; decide), _, _, rfl, rfl, _, _, _, rfl, (show 0 ≤ t % 9 + 1 by omega), by decide, fun r H1 r0 r1 s1 => ?_⟩
      refine ⟨_, rfl, _, _, rfl, rfl, .inr ⟨by decide, by decide⟩, _, rfl, _, rfl, _, _, rfl, rfl, .inl ⟨by decide, by decide⟩, _, _, rfl, rfl, _, rfl, _, _, rfl, rfl, _, _, rfl, rfl, mulx b2 b4 (by decide), _, rfl, _, _, rfl, rfl, .inl ⟨by decide, by decide⟩, _, _, rfl, rfl, _, rfl, _, _, rfl, rfl, (by show (0 : Int) < 7; decide), _, _, rfl, rfl, _, _, _, rfl, (show 0 ≤ t % 7 + 2 by omega), by decide, fun r' H2 r0' r1' s2 => ?_⟩
      refine ⟨_, _, rfl, rfl, ?_⟩
      exact q _ _ (show 0 ≤ r * 1000003 + r' by omega) (Nat.le_trans (ib_of (m := 64) (by omega)) (by decide)) (s1.trans s2)
end
end NB

set_option Elab.async false
set_option maxRecDepth 100000
set_option maxHeartbeats 4000000
set_option linter.unusedVariables false
namespace NB
open PySem L2
section
variable {P : Program} {w : World} {K : PySem.W.Frag} {mg : Str → Option Value} {base : Heap}
abbrev s__law_number : Stmt := topS 18
theorem sc__law_number : FnScope ["_law_script", "_law_by", "_law_cell", "_law_value_here", "_law_some"] ["_law_script", "_law_by"] (defScope s__law_number) := ⟨rfl, rfl, rfl, by decide +kernel, rfl, by decide +kernel, by decide +kernel⟩
theorem ok__law_number {f : Addr} {fd : FuncData} (F : Fun K "_law_number" "_law_number" s__law_number f fd) (C__law_cell_at : Callee P w K mg base 1 "_law_cell_at" ["_law_script", "_law_k"] (spCellAt K)) (C__law_value : Callee P w K mg base 2 "_law_value" ["_law_cell", "_law_turn"] spValue) : FnOk P w K mg base CX0 3 f fd ["_law_script", "_law_by"] (spNumber K) := by
  refine F.ok sc__law_number (fun vs H Q E h => ?_) (fun cdv A outer s H vs Q E hr h => ?_)
  · obtain ⟨_, _, _, rfl, _⟩ := h
    rfl
  · obtain ⟨a, ns, k, rfl, hS, hb, h0, hk, q⟩ := h
    obtain ⟨f__law_cell_at, fd__law_cell_at, m__law_cell_at, k__law_cell_at, b__law_cell_at, G__law_cell_at⟩ := C__law_cell_at
    obtain ⟨f__law_value, fd__law_value, m__law_value, k__law_value, b__law_value, G__law_value⟩ := C__law_value
    refine ⟨_, (pss_cons (ps_set (i := 2) sc__law_number.nd rfl (Or.inl rfl) (pe_call G__law_cell_at (hr.mono (by decide)) rfl m__law_cell_at k__law_cell_at b__law_cell_at .nil pass0 (pa_cons (pv 0) (pa_cons (pv 1) pa_nil))))
      (pss_cons (ps_set (i := 3) sc__law_number.nd rfl (Or.inl rfl) (pe_call G__law_value (hr.mono (by decide)) rfl m__law_value k__law_value b__law_value .nil pass0 (pa_cons (pv 2) (pa_cons pe_int pa_nil))))
      (pss_cons (ps_set (i := 4) sc__law_number.nd rfl (Or.inl rfl) (pe_tup (pa_cons (pe_op op_add pe_int (pe_op op_mod (pv 3) pe_int)) (pa_cons (pe_op op_add pe_int (pe_op op_mod (pv 3) (pe_op op_pow pe_int pe_int))) (pa_cons (pe_op op_mul (pe_op op_mul (pe_op op_mul (pe_op op_add pe_int (pe_op op_mod (pv 3) pe_int)) (pe_op op_pow pe_int pe_int)) pe_int) pe_int) (pa_cons (pe_op op_shl pe_int (pe_op op_mod (pe_op op_fdiv (pv 3) pe_int) pe_int)) pa_nil))))))
      (pss_one (ps_ret (pe_ix (r := rIxT K) ix_tup (pv 4) (pe_op op_mod (pe_call G__law_value (hr.mono (by decide)) rfl m__law_value k__law_value b__law_value .nil pass0 (pa_cons (pv 2) (pa_cons pe_int pa_nil))) pe_int) (fun _ _ => rfl))))))), ?_⟩
    refine ⟨_, rfl, _, rfl, a, ns, k, rfl, hS, hb, h0, hk, fun c bc => ?_⟩
    refine ⟨_, rfl, c, 2, rfl, bc, by decide, by decide, fun v H1 v0 vb s1 => ?_⟩
    have e20 : 0 ≤ v / 7 % 20 ∧ v / 7 % 20 < 20 := by omega
    refine ⟨_, rfl, _, _, rfl, rfl, (by show (0 : Int) < 60; decide), _, _, rfl, rfl, _, rfl, _, _, rfl, rfl, ⟨by decide, by decide, by decide⟩, _, _, rfl, rfl, (by show (0 : Int) < 10 ^ 6; decide), _, _, rfl, rfl, _, rfl, _, _, rfl, rfl, (by show (0 : Int) < 300; decide), _, _, rfl, rfl, _, _, rfl, rfl, ⟨by decide, by decide, by decide⟩, _, _, rfl, rfl, .inr ⟨by decide, by decide⟩, _, _, rfl, rfl, .inr ⟨by decide, by decide⟩, _, _, rfl, rfl, .inr ⟨by decide, by decide⟩, _, rfl, _, _, rfl, rfl, ⟨by decide, by decide⟩, _, _, rfl, rfl, (by show (0 : Int) < 20; decide), _, _, rfl, rfl, ⟨e20.1, by omega, by decide⟩, (by show 4 ≤ sizeLine; decide), fun p np => ?_⟩
    refine ⟨_, rfl, _, rfl, c, 1, rfl, bc, by decide, by decide, fun v' H2 v0' vb' s2 => ?_⟩
    refine ⟨_, _, rfl, rfl, (by show (0 : Int) < 4; decide), ?_⟩
    have hall : ∀ z ∈ [1 + v % 60, 1 + v % 10 ^ 6, (1 + v % 300) * 3 ^ 2 * 5 * 7, 1 * 2 ^ (v / 7 % 20).toNat], 1 ≤ z ∧ z ≤ 1000000 := by
      have hsh : 1 ≤ (2 : Int) ^ (v / 7 % 20).toNat ∧ (2 : Int) ^ (v / 7 % 20).toNat ≤ 1000000 := by
        have : ∀ j : Nat, j < 20 → 1 ≤ (2 : Int) ^ j ∧ (2 : Int) ^ j ≤ 1000000 := by decide
        exact this _ (by omega)
      intro z hz
      simp only [List.mem_cons, List.not_mem_nil, or_false] at hz
      rcases hz with rfl | rfl | rfl | rfl
      · omega
      · have : (10 : Int) ^ 6 = 1000000 := by decide
        rw [this]
        omega
      · have : (3 : Int) ^ 2 = 9 := by decide
        rw [this]
        omega
      · rw [Int.one_mul]
        exact hsh
    obtain ⟨z, hz, e⟩ := at_int (ns := [1 + v % 60, 1 + v % 10 ^ 6, (1 + v % 300) * 3 ^ 2 * 5 * 7, 1 * 2 ^ (v / 7 % 20).toNat]) (k := v' % 4) (by omega) (by show v' % 4 < 4; omega)
    exact ⟨p, _, _, _, rfl, rfl, SqT.of (s2 _ _ upd_same), e, q z H2 (hall z hz).1 (hall z hz).2 ((s1.trans (Same.new np)).trans s2)⟩
end
end NB

set_option Elab.async false
set_option maxRecDepth 100000
set_option maxHeartbeats 4000000
set_option linter.unusedVariables false
namespace NB
open PySem L2
section
variable {P : Program} {w : World} {K : PySem.W.Frag} {mg : Str → Option Value} {base : Heap}
abbrev s__law_high : Stmt := topS 19
theorem sc__law_high : FnScope ["_law_number_here", "_law_found", "_law_length", "_law_left"] ["_law_number_here"] (defScope s__law_high) := ⟨rfl, rfl, rfl, by decide +kernel, rfl, by decide +kernel, by decide +kernel⟩
theorem ok__law_high {f : Addr} {fd : FuncData} (F : Fun K "_law_high" "_law_high" s__law_high f fd) : FnOk P w K mg base CX0 1 f fd ["_law_number_here"] spHigh := by
  refine F.ok sc__law_high (fun vs H Q E h => ?_) (fun cdv A outer s H vs Q E hr h => ?_)
  · obtain ⟨n, rfl, _⟩ := h
    rfl
  · obtain ⟨n, rfl, hn, hn2, q⟩ := h
    refine ⟨_, (pss_cons (ps_par (i := 1) (j := 2) rfl sc__law_high.nd rfl rfl (by decide) rfl rfl (pa_cons (pe_lst pa_nil) (pa_cons pe_int pa_nil)) (by rfl))
      (pss_cons (ps_while PassesOwn.never (pt_cmpR op_le (pe_op op_fdiv (pe_op op_mul (pv 2) (pe_op op_add (pv 2) pe_int)) pe_int) (pv 0) (nomark _))
        (pss_cons (ps_set (i := 3) sc__law_high.nd rfl (Or.inl rfl) (pe_op op_sub (pv 0) (pe_op op_fdiv (pe_op op_mul (pv 2) (pe_op op_sub (pv 2) pe_int)) pe_int)))
        (pss_cons (ps_if (pt_cmpR op_eq (pe_op op_mod (pv 3) (pv 2)) pe_int (nomark _)) (pss_one (ps_expr (pe_bm PySem.F.plainAttrs_list PySem.F.slot_list_append PySem.F.type_list_append mt_append (pv 1) (pa_cons (pe_tup (pa_cons (pe_op op_fdivW (pv 3) (pv 2)) (pa_cons (pe_op op_sub (pe_op op_add (pe_op op_fdivW (pv 3) (pv 2)) (pv 2)) pe_int) pa_nil))) pa_nil)))) pss_nil)
        (pss_one (ps_set (i := 2) sc__law_high.nd rfl (Or.inl rfl) (pe_op op_add (pv 2) pe_int))))))
      (pss_one (ps_ret (pe_revL (pv 1)))))), ?_⟩
    refine ⟨(by show 0 ≤ sizeLine; decide), fun p1 np1 => ⟨_, _, rfl, ?_⟩⟩
    refine while_nat 1500 (fun k σ H' => ∃ x xs, σ = [some (.int n), some (.ref p1), some (.int ((k + 1 : Nat) : Int)), x] ∧ (k : Int) * ((k : Int) + 1) / 2 ≤ n ∧ Same H H' ∧ H' p1 = some (.lst xs) ∧ PL H' xs (acc n k) ∧ xs.length ≤ k) ⟨_, [], rfl, by show (0 : Int) ≤ n; omega, Same.new np1, upd_same, .nil, Nat.le_refl _⟩ ?_
    rintro k m σ H' e ⟨x, xs, rfl, hk, hS, h1, hp, hlen⟩
    have kb : k < 1500 := by
      refine Decidable.byContradiction fun hc => ?_
      have := tri_mono (a := 1500) (b := (k : Int)) (by decide) (by omega)
      omega
    have ec : ((k + 1 : Nat) : Int) = (k : Int) + 1 := by omega
    refine ⟨_, rfl, _, rfl, _, _, rfl, rfl, _, _, rfl, rfl, .inl ⟨by omega, by omega⟩, _, _, rfl, rfl, ⟨by decide, by decide⟩, _, rfl, _, _, rfl, rfl, _, rfl, ?_⟩
    refine ite2 (fun ht => ?_) fun ht => ?_
    · have ht := of_decide_eq_true ht
      refine ⟨_, turn_nat _ e kb, ?_⟩
      refine ⟨_, rfl, _, rfl, _, rfl, _, _, rfl, rfl, _, _, rfl, rfl, .inl ⟨by omega, by omega⟩, _, _, rfl, rfl, ⟨by decide, by decide⟩, _, _, rfl, rfl, ?_⟩
      refine ⟨_, rfl, _, rfl, _, _, rfl, rfl, (show (0 : Int) < ((k + 1 : Nat) : Int) by omega), rfl, _, rfl, ?_⟩
      by_cases hd : (n - ((k + 1 : Nat) : Int) * (((k + 1 : Nat) : Int) - 1) / 2) % ((k + 1 : Nat) : Int) = 0
      · refine iteD (congrArg V.int hd) ?_
        have wd : CDivW (n - ((k + 1 : Nat) : Int) * (((k + 1 : Nat) : Int) - 1) / 2) ((k + 1 : Nat) : Int) := wide_div (b := 64) (by omega) (by omega) (by decide) (by decide)
        refine ⟨_, rfl, .inl ⟨rfl, _, SqL.of h1⟩, _, rfl, _, rfl, _, _, rfl, rfl, wd, _, rfl, _, rfl, _, _, rfl, rfl, wd, _, rfl, _, _, rfl, rfl, _, _, rfl, rfl, (by show 2 ≤ sizeLine; decide), fun p np => ?_⟩
        have n1p : p1 ≠ p := ne_of_none h1 np
        refine ⟨p1, _, _, rfl, rfl, by rw [upd_ne n1p]; exact h1, small1000' (by omega), ?_⟩
        refine ⟨_, rfl, _, _, rfl, rfl, ?_⟩
        have g1 : (upd H' p (.tup [.int ((n - ((k + 1 : Nat) : Int) * (((k + 1 : Nat) : Int) - 1) / 2) / ((k + 1 : Nat) : Int)), .int ((n - ((k + 1 : Nat) : Int) * (((k + 1 : Nat) : Int) - 1) / 2) / ((k + 1 : Nat) : Int) + ((k + 1 : Nat) : Int) - 1)])) p1 = some (.lst xs) := by rw [upd_ne n1p]; exact h1
        have er : rowOf n ((k + 1 : Nat) : Int) = some ((n - ((k + 1 : Nat) : Int) * (((k + 1 : Nat) : Int) - 1) / 2) / ((k + 1 : Nat) : Int), (n - ((k + 1 : Nat) : Int) * (((k + 1 : Nat) : Int) - 1) / 2) / ((k + 1 : Nat) : Int) + ((k + 1 : Nat) : Int) - 1) := by unfold rowOf; rw [if_pos hd]
        refine ⟨_, _, rfl, ?_, Same.mut (hS.trans (Same.new np)) np1, upd_same, ?_, ?_⟩
        · rw [ec] at ht ⊢
          exact ht
        · rw [acc_some er]
          have same : ∀ (H2 : Hp) o x q, H2 p1 = some (.lst xs) → IsP H2 x q → IsP (upd H2 p1 (.lst o)) x q := fun H2 o x q z ⟨t, e, h⟩ => ⟨t, e, by rw [upd_ne (ne_of h z (fun z => nomatch z))]; exact h⟩
          exact PL.append (Paired.mapP (hp.same (Same.new np)) fun x q => same _ _ x q g1) (.cons (same _ _ _ _ g1 ⟨p, rfl, upd_same⟩) .nil)
        · rw [List.length_append]
          simp only [List.length_cons, List.length_nil]
          omega
      · refine iteDN (fun z => hd (V.int.inj z)) ?_
        have er : rowOf n ((k + 1 : Nat) : Int) = none := by unfold rowOf; rw [if_neg hd]
        refine ⟨_, rfl, _, _, rfl, rfl, ?_⟩
        refine ⟨_, xs, rfl, ?_, hS, h1, ?_, by omega⟩
        · rw [ec] at ht ⊢
          exact ht
        · rw [acc_none er]
          exact hp
    · have ht : ¬ (((k + 1 : Nat) : Int) * (((k + 1 : Nat) : Int) + 1) / 2 ≤ n) := fun z => ht (decide_eq_true z)
      rw [ec] at ht
      refine ⟨_, rfl, p1, xs, rfl, SqL.of h1, fun p np => ?_⟩
      refine q _ p _ (acc_rows hk (by omega)) ?_ (hS.trans (Same.new np)) (hS.free np) ⟨_, upd_same, (hp.same (Same.new np)).reverse⟩
      rw [List.length_reverse, ← hp.length]
      omega
end
end NB

set_option Elab.async false
set_option maxRecDepth 100000
set_option maxHeartbeats 4000000
set_option linter.unusedVariables false
namespace NB
open PySem L2
section
variable {P : Program} {w : World} {K : PySem.W.Frag} {mg : Str → Option Value} {base : Heap}
theorem pl_head {H : Hp} {xs : List V} {p : Int × Int} {ps : List (Int × Int)} (h : PL H xs (p :: ps)) : ∃ x r, xs = x :: r ∧ IsP H x p := by
  cases h with
  | cons a t => exact ⟨_, _, rfl, a⟩
/-- the lengths that are asked -/
def LensOk (zs : List Int) : Prop := ∀ z ∈ zs, 1 ≤ z ∧ ib z ≤ 1100000
theorem lens_small {zs : List Int} (h : ∀ z ∈ zs, 1 ≤ z ∧ z ≤ 2000000) : LensOk zs := fun z hz => ⟨(h z hz).1, Nat.le_trans (ib_of (m := 64) (by have := h z hz; omega)) (by decide)⟩
theorem due_small {n z : Int} (h1 : 1 ≤ n) (h2 : n ≤ 1000000) (hz : 1 ≤ z) (hd : (2 * n - z * (z - 1)) % (2 * z) = 0) : z ≤ 2000000 := by
  have e : dueOf n z = some ((2 * n - z * (z - 1)) / z / 2, (2 * n - z * (z - 1)) / z / 2 + z - 1) := by unfold dueOf; rw [if_pos hd]
  rw [dueOf_eq (by omega)] at e
  have h := isRow_small h1 h2 ((rowOf_iff (L := z) (by omega)).mp e).2
  omega
theorem row15_4 : rowOf 15 4 = none := by decide
theorem row1_2 : rowOf 1 2 = some (0, 1) := by decide
theorem row15_2 : rowOf 15 2 = some (7, 8) := by decide
abbrev s_law : Stmt := topS 20
theorem sc_law : FnScope ["_law_script", "_law_by", "_law_number_here", "_law_high_here", "_law_value_here", "_law_lengths", "_law_length", "_law_left", "_law_due", "_law_found", "_law_first", "_law_last"] ["_law_script"] (defScope s_law) := ⟨rfl, rfl, rfl, by decide +kernel, rfl, by decide +kernel, by decide +kernel⟩
theorem ok_law {f : Addr} {fd : FuncData} (F : Fun K "law" "law" s_law f fd) (B : Bt mg) (C__law_number : Callee P w K mg base 3 "_law_number" ["_law_script", "_law_by"] (spNumber K)) (C__law_high : Callee P w K mg base 1 "_law_high" ["_law_number_here"] spHigh)
    (C__law_cell_at : Callee P w K mg base 1 "_law_cell_at" ["_law_script", "_law_k"] (spCellAt K)) (C__law_value : Callee P w K mg base 2 "_law_value" ["_law_cell", "_law_turn"] spValue) (C_longest : Callee P w K mg base 4 "longest" ["number"] spLongest) (C_of_length : Callee P w K mg base 3 "of_length" ["number", "length"] spRow) : FnOk P w K mg base CX0 5 f fd ["_law_script"] (spLaw K) := by
  refine F.ok sc_law (fun vs H Q E h => ?_) (fun cdv A outer s H vs Q E hr h => ?_)
  · obtain ⟨_, _, rfl, _⟩ := h
    rfl
  · obtain ⟨a, ns0, rfl, hS0, hl0, hb0, q⟩ := h
    obtain ⟨f__law_number, fd__law_number, m__law_number, k__law_number, b__law_number, G__law_number⟩ := C__law_number
    obtain ⟨f__law_high, fd__law_high, m__law_high, k__law_high, b__law_high, G__law_high⟩ := C__law_high
    obtain ⟨f__law_cell_at, fd__law_cell_at, m__law_cell_at, k__law_cell_at, b__law_cell_at, G__law_cell_at⟩ := C__law_cell_at
    obtain ⟨f__law_value, fd__law_value, m__law_value, k__law_value, b__law_value, G__law_value⟩ := C__law_value
    obtain ⟨f_longest, fd_longest, m_longest, k_longest, b_longest, G_longest⟩ := C_longest
    obtain ⟨f_of_length, fd_of_length, m_of_length, k_of_length, b_of_length, G_of_length⟩ := C_of_length
    refine ⟨_, (pss_cons (ps_set (i := 0) sc_law.nd rfl (Or.inl rfl) (pe_slice sl_list (pv 0) po_none (po_some pe_int)))
      (pss_cons (ps_for PassesOwn.never rfl (pi_range3 rfl B.range_ (pa_cons pe_int (pa_cons (pe_callB (call_max2 rfl) (by rfl) B.max_ (by decide +kernel) (pa_cons pe_int (pa_cons (pe_callB call_len_seq (by rfl) B.len_ (by decide +kernel) (pa_cons (pv 0) pa_nil)) pa_nil))) (pa_cons (pe_op op_add pe_int (pe_op op_fdiv (pe_callB call_len_seq (by rfl) B.len_ (by decide +kernel) (pa_cons (pv 0) pa_nil)) pe_int)) pa_nil)))) (pg_name (i := 1) sc_law.nd rfl (.inl rfl))
        (pss_cons (ps_set (i := 2) sc_law.nd rfl (Or.inl rfl) (pe_call G__law_number (hr.mono (by decide)) rfl m__law_number k__law_number b__law_number .nil pass0 (pa_cons (pv 0) (pa_cons (pv 1) pa_nil))))
        (pss_cons (ps_set (i := 3) sc_law.nd rfl (Or.inl rfl) (pe_call G__law_high (hr.mono (by decide)) rfl m__law_high k__law_high b__law_high .nil pass0 (pa_cons (pv 2) pa_nil)))
        (pss_cons (ps_if (PW.pt (pw_or (pt_cmpR (r := rNeD K) (op_neD hr.units) (pe_call G_longest (hr.mono (by decide)) rfl m_longest k_longest b_longest .nil pass0 (pa_cons (pv 2) pa_nil)) (pe_ix (r := rIxL K) ix_list (pv 3) pe_int (fun _ _ => rfl)) (nomark _)) (pw_or1 (pt_not (pt_val (pe_callB call_isi (by rfl) B.isinstance_ (by decide +kernel) (pa_cons (pe_call G_longest (hr.mono (by decide)) rfl m_longest k_longest b_longest .nil pass0 (pa_cons (pv 2) pa_nil)) (pa_cons (pe_bltn (v := .ty "tuple") (by rfl) B.tuple_ (by decide +kernel) rfl) pa_nil)))))))) (pss_one (ps_ret pe_bl)) pss_nil)
        (pss_cons (ps_set (i := 4) sc_law.nd rfl (Or.inl rfl) (pe_call G__law_value (hr.mono (by decide)) rfl m__law_value k__law_value b__law_value .nil pass0 (pa_cons (pe_call G__law_cell_at (hr.mono (by decide)) rfl m__law_cell_at k__law_cell_at b__law_cell_at .nil pass0 (pa_cons (pv 0) (pa_cons (pv 1) pa_nil))) (pa_cons pe_int pa_nil))))
        (pss_cons (ps_set (i := 5) sc_law.nd rfl (Or.inl rfl) (pe_lst (pa_cons pe_int (pa_cons pe_int (pa_cons pe_int (pa_cons pe_int (pa_cons (pe_op op_add pe_int (pe_op op_mod (pv 4) pe_int)) (pa_cons (pe_op op_mul pe_int (pv 2)) (pa_cons (pe_op op_add (pe_op op_pow pe_int pe_int) (pv 4)) pa_nil)))))))))
        (pss_cons (ps_set (i := 5) sc_law.nd rfl (Or.inl rfl) (pe_op op_cat (pv 5) (pe_lc (g := (gTup K 2 (gCons (gName 10) (gCons (gName 11) gNil)))) (own := [("_law_first", 10), ("_law_last", 11)]) rfl sc_law.nd (pi_list (pv 3)) (blkOk_by (N := ["_law_script", "_law_by", "_law_number_here", "_law_high_here", "_law_value_here", "_law_lengths", "_law_length", "_law_left", "_law_due", "_law_found", "_law_first", "_law_last"]) (sc := defScope s_law) (by decide +kernel)) (fun _ _ _ _ _ => (pg_tup rfl (pgs_cons (pg_name (i := 10) sc_law.nd rfl (.inl rfl)) (pgs_cons (pg_name (i := 11) sc_law.nd rfl (.inl rfl)) pgs_nil)))) (fun _ _ _ _ _ => pts_nil) (fun _ _ _ _ _ => (pe_op op_add (pe_op op_sub (pv 11) (pv 10)) pe_int)))))
        (pss_one (ps_for PassesOwn.never rfl (pi_list (pe_op op_cat (pv 5) (pe_lc (g := (gTup K 2 (gCons (gName 10) (gCons (gName 11) gNil)))) (own := [("_law_first", 10), ("_law_last", 11)]) rfl sc_law.nd (pi_list (pv 3)) (blkOk_by (N := ["_law_script", "_law_by", "_law_number_here", "_law_high_here", "_law_value_here", "_law_lengths", "_law_length", "_law_left", "_law_due", "_law_found", "_law_first", "_law_last"]) (sc := defScope s_law) (by decide +kernel)) (fun _ _ _ _ _ => (pg_tup rfl (pgs_cons (pg_name (i := 10) sc_law.nd rfl (.inl rfl)) (pgs_cons (pg_name (i := 11) sc_law.nd rfl (.inl rfl)) pgs_nil)))) (fun _ _ _ _ _ => pts_nil) (fun _ _ _ _ _ => (pe_op op_add (pv 10) (pv 11)))))) (pg_name (i := 6) sc_law.nd rfl (.inl rfl))
          (pss_cons (ps_set (i := 7) sc_law.nd rfl (Or.inl rfl) (pe_op op_sub (pe_op op_mul pe_int (pv 2)) (pe_op op_mulX (pv 6) (pe_op op_sub (pv 6) pe_int))))
          (pss_cons (ps_set (i := 8) sc_law.nd rfl (Or.inl rfl) (pe_ifExp (pt_cmpR op_eq (pe_op op_mod (pv 7) (pe_op op_mul pe_int (pv 6))) pe_int (nomark _)) (pe_tup (pa_cons (pe_op op_fdiv (pe_op op_fdivW (pv 7) (pv 6)) pe_int) (pa_cons (pe_op op_sub (pe_op op_add (pe_op op_fdiv (pe_op op_fdivW (pv 7) (pv 6)) pe_int) (pv 6)) pe_int) pa_nil))) pe_non))
          (pss_cons (ps_set (i := 9) sc_law.nd rfl (Or.inl rfl) (pe_call G_of_length (hr.mono (by decide)) rfl m_of_length k_of_length b_of_length .nil pass0 (pa_cons (pv 2) (pa_cons (pv 6) pa_nil))))
          (pss_one (ps_if (PW.pt (pw_or (pt_cmpR (r := rNeD K) (op_neD hr.units) (pv 9) (pv 8) (nomark _)) (pw_or1 (PW.pt (pw_and (pt_cmpR op_notN (pv 8) pe_non (nomark _)) (pw_and1 (pt_not (pt_val (pe_callB call_isi (by rfl) B.isinstance_ (by decide +kernel) (pa_cons (pv 9) (pa_cons (pe_bltn (v := .ty "tuple") (by rfl) B.tuple_ (by decide +kernel) rfl) pa_nil))))))))))) (pss_one (ps_ret pe_bl)) pss_nil))))))))))))))
      (pss_cons (ps_if (PW.pt (pw_or (pt_cmpR op_notN (pe_call G_of_length (hr.mono (by decide)) rfl m_of_length k_of_length b_of_length .nil pass0 (pa_cons pe_int (pa_cons pe_int pa_nil))) pe_non (nomark _)) (pw_or1 (pt_cmpR (r := rNeD K) (op_neD hr.units) (pe_call G_of_length (hr.mono (by decide)) rfl m_of_length k_of_length b_of_length .nil pass0 (pa_cons pe_int (pa_cons pe_int pa_nil))) (pe_tup (pa_cons pe_int (pa_cons pe_int pa_nil))) (nomark _))))) (pss_one (ps_ret pe_bl)) pss_nil)
      (pss_one (ps_ret (pe_and (pe_cmpR (r := rEqD K) (op_eqD hr.units) (pe_call G_longest (hr.mono (by decide)) rfl m_longest k_longest b_longest .nil pass0 (pa_cons pe_int pa_nil)) (pe_tup (pa_cons pe_int (pa_cons pe_int pa_nil))) (nomark _)) (pe_one (pe_cmpR (r := rEqD K) (op_eqD hr.units) (pe_call G_of_length (hr.mono (by decide)) rfl m_of_length k_of_length b_of_length .nil pass0 (pa_cons pe_int (pa_cons pe_int pa_nil))) (pe_tup (pa_cons pe_int (pa_cons pe_int pa_nil))) (nomark _))))))))), ?_⟩
    -- script[:63]
    obtain ⟨ns, ens, hsub, hlen⟩ := cut_int ns0 none (some 63)
    refine ⟨_, rfl, 63, rfl, a, _, rfl, hS0, fun p np => ?_⟩
    rw [ens]
    have hb : Bits ns := fun z hz => hb0 z (hsub z hz)
    have hl : ns.length ≤ 63 := by omega
    clear hS0 hb0 hl0 ens hsub hlen
    -- for by in range(..)
    have lm : (ns.map V.int).length = ns.length := List.length_map ..
    refine ⟨_, rfl, p, _, rfl, .inl (SqL.of upd_same), _, _, rfl, ?_⟩
    refine ⟨_, rfl, p, _, rfl, .inl (SqL.of upd_same), _, _, rfl, rfl, ⟨by decide, by decide⟩, _, _, rfl, rfl, ?_⟩
    obtain ⟨n, hn, hrg⟩ := rg3 (d := 4) hl (.inr (.inl rfl))
    refine ⟨_, _, _, n, rfl, (by rw [lm]; exact hrg), ?_⟩
    rw [lm]
    generalize hH1 : upd H p (.lst (ns.map V.int)) = H1
    have gp : H1 p = some (.lst (ns.map V.int)) := by rw [← hH1]; exact upd_same
    refine for_rangeC (fun i σ H' => ∃ x1 x2 x3 x4 x5 x6 x7 x8 x9 x10 x11, σ = [some (.ref p), x1, x2, x3, x4, x5, x6, x7, x8, x9, x10, x11] ∧ Same H1 H') ⟨_, _, _, _, _, _, _, _, _, _, _, rfl, Same.refl _⟩ ?_ ?_
    · rintro i σ H2 hi ⟨x1, x2, x3, x4, x5, x6, x7, x8, x9, x10, x11, rfl, s2⟩
      obtain ⟨hby0, hby1⟩ := by_ok hl (.inr (.inl rfl)) hi hn
      -- number, high
      refine ⟨_, rfl, _, rfl, p, ns, _, rfl, SqL.of (s2 _ _ gp), hb, hby0, hby1, fun n H3 n1 n2 s3 => ?_⟩
      refine ⟨_, rfl, n, rfl, n1, n2, fun ps ph H4 hps hlps s4 nph h4 => ?_⟩
      obtain ⟨xh, gh, hxh⟩ := h4
      obtain ⟨p1, qs, rfl⟩ := hps.ne n1
      obtain ⟨xh1, xr, rfl, hx1⟩ := pl_head hxh
      -- longest
      refine ⟨_, rfl, n, rfl, n1, n2, fun p0 ps0 x0 H5 h0 s5 hx0 => ?_⟩
      cases hps.uniq h0
      refine ⟨_, rfl, ph, _, 0, _, rfl, rfl, SqL.of (s5 _ _ gh), atI_nat (j := 0) rfl, ?_⟩
      refine rd_neP hx0 (hx1.same s5) ⟨_, rfl, iteNS rfl ?_⟩
      refine ⟨_, rfl, n, rfl, n1, n2, fun p0' ps0' x0' H6 h0' s6 hx0' => ?_⟩
      obtain ⟨t, rfl, ht⟩ := hx0'
      refine ⟨_, _, _, _, true, rfl, .ty "tuple", .base (.tup ht), kit_ty (by decide +kernel), true, rfl, iteF ?_⟩
      -- value
      have s16 : Same H1 H6 := (((s2.trans s3).trans s4).trans s5).trans s6
      refine ⟨_, rfl, _, rfl, p, ns, _, rfl, SqL.of (s16 _ _ gp), hb, hby0, hby1, fun c bc => ⟨c, 5, rfl, bc, by decide, by decide, fun v H7 v0 vb s7 => ?_⟩⟩
      -- lengths
      refine ⟨_, rfl, _, _, rfl, rfl, (by show (0 : Int) < 100; decide), _, _, rfl, rfl, _, rfl, _, _, rfl, rfl, .inl ⟨by decide, by decide⟩, _, _, rfl, rfl, ⟨by decide, by decide, by decide⟩, _, rfl, _, _, rfl, rfl, (by show 7 ≤ sizeLine; decide), fun pl npl => ?_⟩
      have e30 : (10 : Int) ^ Int.toNat 30 = 1000000000000000000000000000000 := by decide
      have l0 : LensOk [1, 2, 3, 4, 1 + v % 100, 2 * n, (10 : Int) ^ Int.toNat 30 + v] := by
        intro z hz
        simp only [List.mem_cons, List.not_mem_nil, or_false] at hz
        rcases hz with rfl | rfl | rfl | rfl | rfl | rfl | rfl
        · exact ⟨by decide, by decide⟩
        · exact ⟨by decide, by decide⟩
        · exact ⟨by decide, by decide⟩
        · exact ⟨by decide, by decide⟩
        · exact ⟨by omega, Nat.le_trans (ib_of (m := 64) (by omega)) (by decide)⟩
        · exact ⟨by omega, Nat.le_trans (ib_of (m := 64) (by omega)) (by decide)⟩
        · rw [e30]
          exact ⟨by omega, Nat.le_trans (ib_add (show ib 1000000000000000000000000000000 ≤ 1048577 by decide) vb) (by decide)⟩
      have glen : ∀ (H' : Hp), upd H' pl (.lst [.int 1, .int 2, .int 3, .int 4, .int (1 + v % 100), .int (2 * n), .int ((10 : Int) ^ Int.toNat 30 + v)]) pl = some (.lst (([1, 2, 3, 4, 1 + v % 100, 2 * n, (10 : Int) ^ Int.toNat 30 + v] : List Int).map V.int)) := fun H' => upd_same
      generalize hzs : [1, 2, 3, 4, 1 + v % 100, 2 * n, (10 : Int) ^ Int.toNat 30 + v] = zs0 at l0 glen
      have zl0 : zs0.length = 7 := by rw [← hzs]; rfl
      have s17 : Same H4 H7 := (s5.trans s6).trans s7
      have g8 : (upd H7 pl (.lst [.int 1, .int 2, .int 3, .int 4, .int (1 + v % 100), .int (2 * n), .int ((10 : Int) ^ Int.toNat 30 + v)])) ph = some (.lst (xh1 :: xr)) := by rw [upd_ne (ne_of_none (s17 _ _ gh) npl)]; exact s17 _ _ gh
      have hx8 := (hxh.same s17).same (Same.new (o := .lst [.int 1, .int 2, .int 3, .int 4, .int (1 + v % 100), .int (2 * n), .int ((10 : Int) ^ Int.toNat 30 + v)]) npl)
      have s18 := (s16.trans s7).trans (Same.new (o := .lst [.int 1, .int 2, .int 3, .int 4, .int (1 + v % 100), .int (2 * n), .int ((10 : Int) ^ Int.toNat 30 + v)]) npl)
      have glen := glen H7
      generalize upd H7 pl (.lst [.int 1, .int 2, .int 3, .int 4, .int (1 + v % 100), .int (2 * n), .int ((10 : Int) ^ Int.toNat 30 + v)]) = H8 at g8 hx8 s18 glen
      clear hzs
      -- lengths + [last - first + 1 ..]
      refine ⟨_, rfl, _, rfl, ph, rfl, ⟨_, SqL.of g8⟩, fun D nD => ?_⟩
      refine lc_ints g8 hx8 nD (fun p : Int × Int => p.2 - p.1 + 1) (by omega) (fun _ _ => rfl) (fun p hp H' Qc qc => ⟨_, rfl, _, rfl, _, _, rfl, rfl, _, _, rfl, rfl, qc⟩) fun H9 s9 gD => ?_
      refine ⟨pl, D, _, _, rfl, rfl, s9 _ _ glen, gD, Nat.le_of_lt (small1000' (by rw [List.length_map, List.length_map, List.length_map]; omega)), fun p10 np10 => ?_⟩
      rw [← List.map_append]
      have l1 : LensOk (zs0 ++ (p1 :: qs).map fun p : Int × Int => p.2 - p.1 + 1) := by
        intro z hz
        rcases List.mem_append.mp hz with hz | hz
        · exact l0 z hz
        · obtain ⟨⟨a, b⟩, hm, rfl⟩ := List.mem_map.mp hz
          have := isRow_small n1 n2 ((hps.mem a b).mp hm).1
          exact ⟨by omega, Nat.le_trans (ib_of (m := 64) (by omega)) (by decide)⟩
      have zl1 : (zs0 ++ (p1 :: qs).map fun p : Int × Int => p.2 - p.1 + 1).length ≤ 4000 := by rw [List.length_append, List.length_map]; omega
      generalize (zs0 ++ (p1 :: qs).map fun p : Int × Int => p.2 - p.1 + 1) = zs1 at l1 zl1
      have s20 := s9.trans (Same.new (o := .lst (zs1.map V.int)) np10)
      have g20 : (upd H9 p10 (.lst (zs1.map V.int))) p10 = some (.lst (zs1.map V.int)) := upd_same
      generalize upd H9 p10 (.lst (zs1.map V.int)) = H10 at s20 g20
      -- for length in lengths + [first + last ..]
      refine ⟨_, rfl, _, rfl, ph, rfl, ⟨_, SqL.of (s20 _ _ g8)⟩, fun D2 nD2 => ?_⟩
      refine lc_ints (s20 _ _ g8) (hx8.same s20) nD2 (fun p : Int × Int => p.1 + p.2) (by omega) (fun _ _ => rfl) (fun p hp H' Qc qc => ⟨_, rfl, _, rfl, _, _, rfl, rfl, qc⟩) fun H11 s11 gD2 => ?_
      refine ⟨p10, D2, _, _, rfl, rfl, s11 _ _ g20, gD2, Nat.le_of_lt (small1000' (by rw [List.length_map, List.length_map, List.length_map]; omega)), fun p12 np12 => ?_⟩
      rw [← List.map_append]
      have l2 : LensOk (zs1 ++ (p1 :: qs).map fun p : Int × Int => p.1 + p.2) := by
        intro z hz
        rcases List.mem_append.mp hz with hz | hz
        · exact l1 z hz
        · obtain ⟨⟨a, b⟩, hm, rfl⟩ := List.mem_map.mp hz
          have := isRow_small n1 n2 ((hps.mem a b).mp hm).1
          exact ⟨by omega, Nat.le_trans (ib_of (m := 64) (by omega)) (by decide)⟩
      generalize (zs1 ++ (p1 :: qs).map fun p : Int × Int => p.1 + p.2) = zs at l2
      have s22 := (s20.trans s11).trans (Same.new (o := .lst (zs.map V.int)) np12)
      have g22 : (upd H11 p12 (.lst (zs.map V.int))) p12 = some (.lst (zs.map V.int)) := upd_same
      generalize upd H11 p12 (.lst (zs.map V.int)) = H12 at s22 g22
      refine ⟨p12, rfl, ⟨_, SqL.of g22⟩, for_list (xs := zs.map V.int) (fun i σ H' => ∃ x1 x6 x7 x8 x9 x10 x11, σ = [some (.ref p), x1, some (.int n), some (.ref ph), some (.int v), some (.ref p10), x6, x7, x8, x9, x10, x11] ∧ Same H12 H') ⟨_, _, _, _, _, _, _, rfl, Same.refl _⟩ ?_ ?_ ?_⟩
      · rintro i σ H' _ ⟨_, _, _, _, _, _, _, rfl, hS⟩
        exact SqL.of (hS _ _ g22)
      · rintro i x σ H13 hx ⟨x1, x6, x7, x8, x9, x10, x11, rfl, s13⟩
        obtain ⟨z, hz, rfl⟩ := List.mem_map.mp (List.mem_of_getElem? hx)
        obtain ⟨z1, zb⟩ := l2 z hz
        have zb1 : ib (z - 1) ≤ 1100001 := Nat.le_trans (ib_sub zb (show ib 1 ≤ 1 by decide)) (by decide)
        -- left
        refine ⟨_, rfl, _, _, rfl, rfl, .inl ⟨by decide, by decide⟩, _, rfl, _, rfl, _, _, rfl, rfl, _, _, rfl, rfl, mulx zb zb1 (by decide), _, _, rfl, rfl, ?_⟩
        -- due
        have wd : (2 * n - z * (z - 1)) % (2 * z) = 0 → CDivW (2 * n - z * (z - 1)) z := fun hd => by
          have := due_small n1 n2 z1 hd
          exact wide_div (b := 64) (by omega) (by omega) (by decide) (by decide)
        dsimp only [gName, tSeq, tAsg]
        refine tif_o (o := rowOf n z) (decide ((2 * n - z * (z - 1)) % (2 * z) = 0)) ?_ ?_ ?_ ?_
        · intro Qt qt
          refine ⟨_, rfl, _, rfl, _, _, rfl, rfl, .inl ⟨by decide, by decide⟩, _, _, rfl, rfl, (show 0 < 2 * z by omega), rfl, _, rfl, ?_⟩
          have e : decide ((fun i j => V.int (i % j)) (2 * n - z * (z - 1)) (2 * z) = V.int 0) = decide ((2 * n - z * (z - 1)) % (2 * z) = 0) := by
            by_cases h : (2 * n - z * (z - 1)) % (2 * z) = 0
            · rw [decide_eq_true h]
              exact decide_eq_true (congrArg V.int h)
            · rw [decide_eq_false h]
              exact decide_eq_false fun x => h (V.int.inj x)
          refine Eq.mp (congrArg (fun b => Qt b H13) e.symm) qt
        · intro hd Qe qe
          have hd := of_decide_eq_true hd
          refine ⟨_, rfl, _, rfl, _, _, rfl, rfl, wd hd, _, _, rfl, rfl, ⟨by decide, by decide⟩, _, rfl, _, rfl, _, _, rfl, rfl, wd hd, _, _, rfl, rfl, ⟨by decide, by decide⟩, _, rfl, _, _, rfl, rfl, _, _, rfl, rfl, (by show 2 ≤ sizeLine; decide), fun pd npd => ?_⟩
          refine qe _ _ (Same.new npd) ?_
          rw [← dueOf_eq (show 0 < z by omega), dueOf, if_pos hd]
          exact ⟨pd, rfl, upd_same⟩
        · intro hd Qe qe
          have hd := of_decide_eq_false hd
          refine qe .non _ (Same.refl _) ?_
          rw [← dueOf_eq (show 0 < z by omega), dueOf, if_neg hd]
          rfl
        intro xd H14 s14 hxd
        -- found
        refine ⟨_, rfl, _, rfl, n, z, rfl, n1, n2, z1, Nat.le_trans zb (by decide), fun xf H15 s15 hxf => ?_⟩
        have hxd := hxd.same s15
        refine ⟨_, rfl, _, rfl, ?_⟩
        refine rd_neO hxf hxd ⟨_, rfl, iteNS rfl ?_⟩
        have s115 : Same H12 H15 := (s13.trans s14).trans s15
        cases ho : rowOf n z with
        | none =>
          rw [ho] at hxd
          cases (show xd = .non from hxd)
          refine ⟨_, rfl, rfl, _, rfl, iteNS rfl ?_⟩
          exact ⟨_, _, _, _, _, _, _, rfl, s115⟩
        | some fl =>
          rw [ho] at hxd hxf
          obtain ⟨td, rfl, hd⟩ := (show IsP H15 xd fl from hxd)
          obtain ⟨tf, rfl, hf⟩ := (show IsP H15 xf fl from hxf)
          refine ⟨_, rfl, rfl, _, rfl, ?_⟩
          refine itB rfl ?_
          refine ⟨_, rfl, _, _, _, _, true, rfl, .ty "tuple", .base (.tup hf), kit_ty (by decide +kernel), true, rfl, ?_⟩
          exact ⟨_, _, _, _, _, _, _, rfl, s115⟩
      · rintro σ H13 ⟨x1, x6, x7, x8, x9, x10, x11, rfl, s13⟩
        exact ⟨_, _, _, _, _, _, _, _, _, _, _, rfl, (s18.trans s22).trans s13⟩
    · rintro σ H2 ⟨x1, x2, x3, x4, x5, x6, x7, x8, x9, x10, x11, rfl, s2⟩
      refine ⟨15, 4, rfl, by decide, by decide, by decide, by decide, fun x H3 s3 hx => ?_⟩
      rw [row15_4] at hx
      cases (show x = .non from hx)
      refine ⟨rfl, _, rfl, iteNS rfl ?_⟩
      refine ⟨1, 2, rfl, by decide, by decide, by decide, by decide, fun x H4 s4 hx => ?_⟩
      rw [row1_2] at hx
      refine ⟨(by show 2 ≤ sizeLine; decide), fun t nt => ?_⟩
      refine rd_neP (q := (0, 1)) (IsP.same (Same.new nt) hx) ⟨t, rfl, upd_same⟩ ⟨_, rfl, iteNS rfl ?_⟩
      refine ⟨15, rfl, by decide, by decide, fun p0 ps0 x0 H5 h0 s5 hx0 => ?_⟩
      cases hr15.uniq h0
      refine ⟨(by show 2 ≤ sizeLine; decide), fun t nt => ?_⟩
      refine rd_eqP (q := (1, 5)) (IsP.same (Same.new nt) hx0) ⟨t, rfl, upd_same⟩ ⟨_, rfl, iteD rfl ?_⟩
      refine ⟨15, 2, rfl, by decide, by decide, by decide, by decide, fun x H6 s6 hx => ?_⟩
      rw [row15_2] at hx
      refine ⟨(by show 2 ≤ sizeLine; decide), fun t nt => ?_⟩
      exact rd_eqP (q := (7, 8)) (IsP.same (Same.new nt) hx) ⟨t, rfl, upd_same⟩ (q _)
end
end NB

set_option Elab.async false
set_option maxRecDepth 100000
set_option maxHeartbeats 4000000
set_option linter.unusedVariables false
namespace NB
open PySem L2
section
variable {P : Program} {w : World} {K : PySem.W.Frag} {mg : Str → Option Value} {base : Heap}
theorem mkC {P : Program} {w : World} {K : PySem.W.Frag} {mg : Str → Option Value} {base : Heap} {x : Str} {q : Str} {st : Stmt} {f : Addr} {fd : FuncData} {ps : List Str} {k : Nat} {sp : Sp} (m : mg x = some (.ref f)) (F : Fun K x q st f fd) (b : Binds K fd ps []) (G : FnOk P w K mg base CX0 k f fd ps sp) : Callee P w K mg base k x ps sp := ⟨f, fd, m, F.kp, b, G⟩
end
theorem all_mk {l : PySem.W.OpenLaw} {w : World} {K : PySem.W.Frag} {h : Heap} {mg : Str → Option Value} {fa : Addr} (X : K.In h) (G : h.Ns mainGlobals mg) (hfa : mg "law" = some (.ref fa))
    {f_is_whole : Addr} {od_is_whole an_is_whole : Option Addr} {sl_is_whole : Array (Option Value)} {oc_is_whole kV_is_whole dc_is_whole pm_is_whole cd_is_whole ct_is_whole : Value}
    (a_is_whole : PySem.W.nsIn K mainGlobals "is_whole" = some (some (.ref f_is_whole))) (l_is_whole : K.lookup f_is_whole = some ⟨oc_is_whole, od_is_whole, .func (PySem.W.fnOf "is_whole" "is_whole" (defArgs s_is_whole) (defBody s_is_whole) (defScope s_is_whole) .none kV_is_whole dc_is_whole pm_is_whole an_is_whole cd_is_whole ct_is_whole), sl_is_whole⟩) (c_is_whole : PySem.W.codeIn K cd_is_whole "is_whole" = true) (k_is_whole : PySem.W.keepIn K (.ref f_is_whole) = true)
    {f_check_number : Addr} {od_check_number an_check_number : Option Addr} {sl_check_number : Array (Option Value)} {oc_check_number kV_check_number dc_check_number pm_check_number cd_check_number ct_check_number : Value}
    (a_check_number : PySem.W.nsIn K mainGlobals "check_number" = some (some (.ref f_check_number))) (l_check_number : K.lookup f_check_number = some ⟨oc_check_number, od_check_number, .func (PySem.W.fnOf "check_number" "check_number" (defArgs s_check_number) (defBody s_check_number) (defScope s_check_number) .none kV_check_number dc_check_number pm_check_number an_check_number cd_check_number ct_check_number), sl_check_number⟩) (c_check_number : PySem.W.codeIn K cd_check_number "check_number" = true) (k_check_number : PySem.W.keepIn K (.ref f_check_number) = true)
    {f_parts_of : Addr} {od_parts_of an_parts_of : Option Addr} {sl_parts_of : Array (Option Value)} {oc_parts_of kV_parts_of dc_parts_of pm_parts_of cd_parts_of ct_parts_of : Value}
    (a_parts_of : PySem.W.nsIn K mainGlobals "parts_of" = some (some (.ref f_parts_of))) (l_parts_of : K.lookup f_parts_of = some ⟨oc_parts_of, od_parts_of, .func (PySem.W.fnOf "parts_of" "parts_of" (defArgs s_parts_of) (defBody s_parts_of) (defScope s_parts_of) .none kV_parts_of dc_parts_of pm_parts_of an_parts_of cd_parts_of ct_parts_of), sl_parts_of⟩) (c_parts_of : PySem.W.codeIn K cd_parts_of "parts_of" = true) (k_parts_of : PySem.W.keepIn K (.ref f_parts_of) = true)
    {f_row_of : Addr} {od_row_of an_row_of : Option Addr} {sl_row_of : Array (Option Value)} {oc_row_of kV_row_of dc_row_of pm_row_of cd_row_of ct_row_of : Value}
    (a_row_of : PySem.W.nsIn K mainGlobals "row_of" = some (some (.ref f_row_of))) (l_row_of : K.lookup f_row_of = some ⟨oc_row_of, od_row_of, .func (PySem.W.fnOf "row_of" "row_of" (defArgs s_row_of) (defBody s_row_of) (defScope s_row_of) .none kV_row_of dc_row_of pm_row_of an_row_of cd_row_of ct_row_of), sl_row_of⟩) (c_row_of : PySem.W.codeIn K cd_row_of "row_of" = true) (k_row_of : PySem.W.keepIn K (.ref f_row_of) = true)
    {f_rows_of : Addr} {od_rows_of an_rows_of : Option Addr} {sl_rows_of : Array (Option Value)} {oc_rows_of kV_rows_of dc_rows_of pm_rows_of cd_rows_of ct_rows_of : Value}
    (a_rows_of : PySem.W.nsIn K mainGlobals "rows_of" = some (some (.ref f_rows_of))) (l_rows_of : K.lookup f_rows_of = some ⟨oc_rows_of, od_rows_of, .func (PySem.W.fnOf "rows_of" "rows_of" (defArgs s_rows_of) (defBody s_rows_of) (defScope s_rows_of) .none kV_rows_of dc_rows_of pm_rows_of an_rows_of cd_rows_of ct_rows_of), sl_rows_of⟩) (c_rows_of : PySem.W.codeIn K cd_rows_of "rows_of" = true) (k_rows_of : PySem.W.keepIn K (.ref f_rows_of) = true)
    {f_high_rows : Addr} {od_high_rows an_high_rows : Option Addr} {sl_high_rows : Array (Option Value)} {oc_high_rows kV_high_rows dc_high_rows pm_high_rows cd_high_rows ct_high_rows : Value}
    (a_high_rows : PySem.W.nsIn K mainGlobals "high_rows" = some (some (.ref f_high_rows))) (l_high_rows : K.lookup f_high_rows = some ⟨oc_high_rows, od_high_rows, .func (PySem.W.fnOf "high_rows" "high_rows" (defArgs s_high_rows) (defBody s_high_rows) (defScope s_high_rows) .none kV_high_rows dc_high_rows pm_high_rows an_high_rows cd_high_rows ct_high_rows), sl_high_rows⟩) (c_high_rows : PySem.W.codeIn K cd_high_rows "high_rows" = true) (k_high_rows : PySem.W.keepIn K (.ref f_high_rows) = true)
    {f_longest : Addr} {od_longest an_longest : Option Addr} {sl_longest : Array (Option Value)} {oc_longest kV_longest dc_longest pm_longest cd_longest ct_longest : Value}
    (a_longest : PySem.W.nsIn K mainGlobals "longest" = some (some (.ref f_longest))) (l_longest : K.lookup f_longest = some ⟨oc_longest, od_longest, .func (PySem.W.fnOf "longest" "longest" (defArgs s_longest) (defBody s_longest) (defScope s_longest) .none kV_longest dc_longest pm_longest an_longest cd_longest ct_longest), sl_longest⟩) (c_longest : PySem.W.codeIn K cd_longest "longest" = true) (k_longest : PySem.W.keepIn K (.ref f_longest) = true)
    {f_of_length : Addr} {od_of_length an_of_length : Option Addr} {sl_of_length : Array (Option Value)} {oc_of_length kV_of_length dc_of_length pm_of_length cd_of_length ct_of_length : Value}
    (a_of_length : PySem.W.nsIn K mainGlobals "of_length" = some (some (.ref f_of_length))) (l_of_length : K.lookup f_of_length = some ⟨oc_of_length, od_of_length, .func (PySem.W.fnOf "of_length" "of_length" (defArgs s_of_length) (defBody s_of_length) (defScope s_of_length) .none kV_of_length dc_of_length pm_of_length an_of_length cd_of_length ct_of_length), sl_of_length⟩) (c_of_length : PySem.W.codeIn K cd_of_length "of_length" = true) (k_of_length : PySem.W.keepIn K (.ref f_of_length) = true)
    {f__law_cell_at : Addr} {od__law_cell_at an__law_cell_at : Option Addr} {sl__law_cell_at : Array (Option Value)} {oc__law_cell_at kV__law_cell_at dc__law_cell_at pm__law_cell_at cd__law_cell_at ct__law_cell_at : Value}
    (a__law_cell_at : PySem.W.nsIn K mainGlobals "_law_cell_at" = some (some (.ref f__law_cell_at))) (l__law_cell_at : K.lookup f__law_cell_at = some ⟨oc__law_cell_at, od__law_cell_at, .func (PySem.W.fnOf "_law_cell_at" "_law_cell_at" (defArgs s__law_cell_at) (defBody s__law_cell_at) (defScope s__law_cell_at) .none kV__law_cell_at dc__law_cell_at pm__law_cell_at an__law_cell_at cd__law_cell_at ct__law_cell_at), sl__law_cell_at⟩) (c__law_cell_at : PySem.W.codeIn K cd__law_cell_at "_law_cell_at" = true) (k__law_cell_at : PySem.W.keepIn K (.ref f__law_cell_at) = true)
    {f__law_draw : Addr} {od__law_draw an__law_draw : Option Addr} {sl__law_draw : Array (Option Value)} {oc__law_draw kV__law_draw dc__law_draw pm__law_draw cd__law_draw ct__law_draw : Value}
    (a__law_draw : PySem.W.nsIn K mainGlobals "_law_draw" = some (some (.ref f__law_draw))) (l__law_draw : K.lookup f__law_draw = some ⟨oc__law_draw, od__law_draw, .func (PySem.W.fnOf "_law_draw" "_law_draw" (defArgs s__law_draw) (defBody s__law_draw) (defScope s__law_draw) .none kV__law_draw dc__law_draw pm__law_draw an__law_draw cd__law_draw ct__law_draw), sl__law_draw⟩) (c__law_draw : PySem.W.codeIn K cd__law_draw "_law_draw" = true) (k__law_draw : PySem.W.keepIn K (.ref f__law_draw) = true)
    {f__law_value : Addr} {od__law_value an__law_value : Option Addr} {sl__law_value : Array (Option Value)} {oc__law_value kV__law_value dc__law_value pm__law_value cd__law_value ct__law_value : Value}
    (a__law_value : PySem.W.nsIn K mainGlobals "_law_value" = some (some (.ref f__law_value))) (l__law_value : K.lookup f__law_value = some ⟨oc__law_value, od__law_value, .func (PySem.W.fnOf "_law_value" "_law_value" (defArgs s__law_value) (defBody s__law_value) (defScope s__law_value) .none kV__law_value dc__law_value pm__law_value an__law_value cd__law_value ct__law_value), sl__law_value⟩) (c__law_value : PySem.W.codeIn K cd__law_value "_law_value" = true) (k__law_value : PySem.W.keepIn K (.ref f__law_value) = true)
    {f__law_number : Addr} {od__law_number an__law_number : Option Addr} {sl__law_number : Array (Option Value)} {oc__law_number kV__law_number dc__law_number pm__law_number cd__law_number ct__law_number : Value}
    (a__law_number : PySem.W.nsIn K mainGlobals "_law_number" = some (some (.ref f__law_number))) (l__law_number : K.lookup f__law_number = some ⟨oc__law_number, od__law_number, .func (PySem.W.fnOf "_law_number" "_law_number" (defArgs s__law_number) (defBody s__law_number) (defScope s__law_number) .none kV__law_number dc__law_number pm__law_number an__law_number cd__law_number ct__law_number), sl__law_number⟩) (c__law_number : PySem.W.codeIn K cd__law_number "_law_number" = true) (k__law_number : PySem.W.keepIn K (.ref f__law_number) = true)
    {f__law_high : Addr} {od__law_high an__law_high : Option Addr} {sl__law_high : Array (Option Value)} {oc__law_high kV__law_high dc__law_high pm__law_high cd__law_high ct__law_high : Value}
    (a__law_high : PySem.W.nsIn K mainGlobals "_law_high" = some (some (.ref f__law_high))) (l__law_high : K.lookup f__law_high = some ⟨oc__law_high, od__law_high, .func (PySem.W.fnOf "_law_high" "_law_high" (defArgs s__law_high) (defBody s__law_high) (defScope s__law_high) .none kV__law_high dc__law_high pm__law_high an__law_high cd__law_high ct__law_high), sl__law_high⟩) (c__law_high : PySem.W.codeIn K cd__law_high "_law_high" = true) (k__law_high : PySem.W.keepIn K (.ref f__law_high) = true)
    {f_law : Addr} {od_law an_law : Option Addr} {sl_law : Array (Option Value)} {oc_law kV_law dc_law pm_law cd_law ct_law : Value}
    (a_law : PySem.W.nsIn K mainGlobals "law" = some (some (.ref f_law))) (l_law : K.lookup f_law = some ⟨oc_law, od_law, .func (PySem.W.fnOf "law" "law" (defArgs s_law) (defBody s_law) (defScope s_law) .none kV_law dc_law pm_law an_law cd_law ct_law), sl_law⟩) (c_law : PySem.W.codeIn K cd_law "law" = true) (k_law : PySem.W.keepIn K (.ref f_law) = true)
    {t_GREATEST : Tok} (h_GREATEST : PySem.W.nsIn K mainGlobals "GREATEST" = some (some (.int 1000000 t_GREATEST)))
    (z_isinstance : PySem.W.nsIn K mainGlobals "isinstance" = some none)
    (z_int : PySem.W.nsIn K mainGlobals "int" = some none)
    (z_bool : PySem.W.nsIn K mainGlobals "bool" = some none)
    (z_list : PySem.W.nsIn K mainGlobals "list" = some none)
    (z_tuple : PySem.W.nsIn K mainGlobals "tuple" = some none)
    (z_len : PySem.W.nsIn K mainGlobals "len" = some none)
    (z_max : PySem.W.nsIn K mainGlobals "max" = some none)
    (z_min : PySem.W.nsIn K mainGlobals "min" = some none)
    (z_sorted : PySem.W.nsIn K mainGlobals "sorted" = some none)
    (z_range : PySem.W.nsIn K mainGlobals "range" = some none)
    (z_sum : PySem.W.nsIn K mainGlobals "sum" = some none)
    (z_all : PySem.W.nsIn K mainGlobals "all" = some none)
    (z_zip : PySem.W.nsIn K mainGlobals "zip" = some none)
    (z_set : PySem.W.nsIn K mainGlobals "set" = some none)
    : ∃ fd : FuncData, (∀ (s : Shared) (v : Value), BindsTo s fd ⟨[v], []⟩ [("_law_script", v)]) ∧ ∀ base : Heap, K.In base → base.Ns mainGlobals mg → FnOk l.prog w K mg base CX0 5 fa fd ["_law_script"] (spLaw K) := by
  have e := hfa.symm.trans (PySem.W.mg_of X G a_law)
  cases e
  have B : Bt mg := ⟨PySem.W.mg_none_of X G z_isinstance, PySem.W.mg_none_of X G z_int, PySem.W.mg_none_of X G z_bool, PySem.W.mg_none_of X G z_list, PySem.W.mg_none_of X G z_tuple, PySem.W.mg_none_of X G z_len, PySem.W.mg_none_of X G z_max, PySem.W.mg_none_of X G z_min, PySem.W.mg_none_of X G z_sorted, PySem.W.mg_none_of X G z_range, PySem.W.mg_none_of X G z_sum, PySem.W.mg_none_of X G z_all, PySem.W.mg_none_of X G z_zip, PySem.W.mg_none_of X G z_set⟩
  have g_GREATEST := PySem.W.mg_of X G h_GREATEST
  have F_is_whole := fun_mk (st := s_is_whole) l_is_whole c_is_whole k_is_whole
  have b_is_whole := F_is_whole.binds (ps := ["thing"]) fun _ _ _ _ _ _ us hl => match us, hl with | [_], _ => rfl
  have F_check_number := fun_mk (st := s_check_number) l_check_number c_check_number k_check_number
  have b_check_number := F_check_number.binds (ps := ["number"]) fun _ _ _ _ _ _ us hl => match us, hl with | [_], _ => rfl
  have F_parts_of := fun_mk (st := s_parts_of) l_parts_of c_parts_of k_parts_of
  have b_parts_of := F_parts_of.binds (ps := ["number"]) fun _ _ _ _ _ _ us hl => match us, hl with | [_], _ => rfl
  have F_row_of := fun_mk (st := s_row_of) l_row_of c_row_of k_row_of
  have b_row_of := F_row_of.binds (ps := ["number", "length"]) fun _ _ _ _ _ _ us hl => match us, hl with | [_, _], _ => rfl
  have F_rows_of := fun_mk (st := s_rows_of) l_rows_of c_rows_of k_rows_of
  have b_rows_of := F_rows_of.binds (ps := ["number"]) fun _ _ _ _ _ _ us hl => match us, hl with | [_], _ => rfl
  have F_high_rows := fun_mk (st := s_high_rows) l_high_rows c_high_rows k_high_rows
  have b_high_rows := F_high_rows.binds (ps := ["number"]) fun _ _ _ _ _ _ us hl => match us, hl with | [_], _ => rfl
  have F_longest := fun_mk (st := s_longest) l_longest c_longest k_longest
  have b_longest := F_longest.binds (ps := ["number"]) fun _ _ _ _ _ _ us hl => match us, hl with | [_], _ => rfl
  have F_of_length := fun_mk (st := s_of_length) l_of_length c_of_length k_of_length
  have b_of_length := F_of_length.binds (ps := ["number", "length"]) fun _ _ _ _ _ _ us hl => match us, hl with | [_, _], _ => rfl
  have F__law_cell_at := fun_mk (st := s__law_cell_at) l__law_cell_at c__law_cell_at k__law_cell_at
  have b__law_cell_at := F__law_cell_at.binds (ps := ["_law_script", "_law_k"]) fun _ _ _ _ _ _ us hl => match us, hl with | [_, _], _ => rfl
  have F__law_draw := fun_mk (st := s__law_draw) l__law_draw c__law_draw k__law_draw
  have b__law_draw := F__law_draw.binds (ps := ["_law_cell", "_law_k", "_law_many"]) fun _ _ _ _ _ _ us hl => match us, hl with | [_, _, _], _ => rfl
  have F__law_value := fun_mk (st := s__law_value) l__law_value c__law_value k__law_value
  have b__law_value := F__law_value.binds (ps := ["_law_cell", "_law_turn"]) fun _ _ _ _ _ _ us hl => match us, hl with | [_, _], _ => rfl
  have F__law_number := fun_mk (st := s__law_number) l__law_number c__law_number k__law_number
  have b__law_number := F__law_number.binds (ps := ["_law_script", "_law_by"]) fun _ _ _ _ _ _ us hl => match us, hl with | [_, _], _ => rfl
  have F__law_high := fun_mk (st := s__law_high) l__law_high c__law_high k__law_high
  have b__law_high := F__law_high.binds (ps := ["_law_number_here"]) fun _ _ _ _ _ _ us hl => match us, hl with | [_], _ => rfl
  have F_law := fun_mk (st := s_law) l_law c_law k_law
  refine ⟨PySem.W.fnOf "law" "law" (defArgs s_law) (defBody s_law) (defScope s_law) .none kV_law dc_law pm_law an_law cd_law ct_law, fun s v => .of_eq rfl, fun base _ _ => ?_⟩
  have C_is_whole := mkC (PySem.W.mg_of X G a_is_whole) F_is_whole b_is_whole (ok_is_whole (P := l.prog) (w := w) (base := base) F_is_whole B)
  have C_check_number := mkC (PySem.W.mg_of X G a_check_number) F_check_number b_check_number (ok_check_number (P := l.prog) (w := w) (base := base) F_check_number B g_GREATEST C_is_whole)
  have C_parts_of := mkC (PySem.W.mg_of X G a_parts_of) F_parts_of b_parts_of (ok_parts_of (P := l.prog) (w := w) (base := base) F_parts_of B)
  have C_row_of := mkC (PySem.W.mg_of X G a_row_of) F_row_of b_row_of (ok_row_of (P := l.prog) (w := w) (base := base) F_row_of B)
  have C_rows_of := mkC (PySem.W.mg_of X G a_rows_of) F_rows_of b_rows_of (ok_rows_of (P := l.prog) (w := w) (base := base) F_rows_of B C_parts_of C_row_of)
  have C_high_rows := mkC (PySem.W.mg_of X G a_high_rows) F_high_rows b_high_rows (ok_high_rows (P := l.prog) (w := w) (base := base) F_high_rows C_check_number C_rows_of)
  have C_longest := mkC (PySem.W.mg_of X G a_longest) F_longest b_longest (ok_longest (P := l.prog) (w := w) (base := base) F_longest C_high_rows)
  have C_of_length := mkC (PySem.W.mg_of X G a_of_length) F_of_length b_of_length (ok_of_length (P := l.prog) (w := w) (base := base) F_of_length C_check_number C_is_whole C_row_of)
  have C__law_cell_at := mkC (PySem.W.mg_of X G a__law_cell_at) F__law_cell_at b__law_cell_at (ok__law_cell_at (P := l.prog) (w := w) (base := base) F__law_cell_at B)
  have C__law_draw := mkC (PySem.W.mg_of X G a__law_draw) F__law_draw b__law_draw (ok__law_draw (P := l.prog) (w := w) (base := base) F__law_draw )
  have C__law_value := mkC (PySem.W.mg_of X G a__law_value) F__law_value b__law_value (ok__law_value (P := l.prog) (w := w) (base := base) F__law_value C__law_draw)
  have C__law_number := mkC (PySem.W.mg_of X G a__law_number) F__law_number b__law_number (ok__law_number (P := l.prog) (w := w) (base := base) F__law_number C__law_cell_at C__law_value)
  have C__law_high := mkC (PySem.W.mg_of X G a__law_high) F__law_high b__law_high (ok__law_high (P := l.prog) (w := w) (base := base) F__law_high )
  exact ok_law F_law B C__law_number C__law_high C__law_cell_at C__law_value C_longest C_of_length
theorem walk {l : PySem.W.OpenLaw} {q : Program} {loose : List Str} {XP : (Str → Option Value) → Heap → Prop} {YP : World → Heap → Prop} {d : DefRec} {K : Params → PySem.W.Frag} (hn : l.most = some 63) (hdf : d.params.defaults = [])
    (hY : ∀ (w : World) (h : Heap), YP w h → (K w.params).In h)
    (F : ∀ (w : World) (mg : Str → Option Value) (fa : Addr) (h : Heap), (K w.params).In h → h.Ns mainGlobals mg → mg d.name = some (.ref fa) →
      ∃ fd : FuncData, (∀ (s : Shared) (u : Value), BindsTo s fd ⟨[u], []⟩ [("_law_script", u)]) ∧ ∀ base : Heap, (K w.params).In base → base.Ns mainGlobals mg → FnOk l.prog w (K w.params) mg base CX0 5 fa fd ["_law_script"] (spLaw (K w.params))) :
    PySem.W.WalkO q loose XP YP l.row.toRowW d [] (fun f vs => PySem.call f vs) :=
  L2.walk_ofB (n := 63) (k := 5) (x := "_law_script") (CX := fun _ => CX0) (sp := fun w => spLaw (K w.params)) hn (by decide) hdf ⟨rfl, by decide, by decide⟩ hY F (fun _ _ a ns hl hb _ hS => ⟨a, ns, rfl, hS, hl, hb, fun _ => rfl⟩) fun _ _ _ _ _ z => z
end NB
open PySem PySem.W PyProof.Rows
set_option maxRecDepth 100000 in
set_option maxHeartbeats 0 in
theorem PySem.Challenge.cw_neighboursums_k02_whole_lengths_holds : PySem.Challenge.rw_neighboursums_k02_whole_lengths.Holds := by
  w_on; o_law; k_head; (case hw => w_witness2)
  k_fill
  refine NB.walk (l := PySem.Challenge.rw_neighboursums_k02_whole_lengths) rfl rfl (fun w h Y => PySem.W.kIn_of Y) ?F
  case F =>
    intro w mg fa h KX G hmg
    refine' NB.all_mk KX G hmg ?a_is_whole ?l_is_whole ?c_is_whole ?k_is_whole ?a_check_number ?l_check_number ?c_check_number ?k_check_number ?a_parts_of ?l_parts_of ?c_parts_of ?k_parts_of ?a_row_of ?l_row_of ?c_row_of ?k_row_of ?a_rows_of ?l_rows_of ?c_rows_of ?k_rows_of ?a_high_rows ?l_high_rows ?c_high_rows ?k_high_rows ?a_longest ?l_longest ?c_longest ?k_longest ?a_of_length ?l_of_length ?c_of_length ?k_of_length ?a__law_cell_at ?l__law_cell_at ?c__law_cell_at ?k__law_cell_at ?a__law_draw ?l__law_draw ?c__law_draw ?k__law_draw ?a__law_value ?l__law_value ?c__law_value ?k__law_value ?a__law_number ?l__law_number ?c__law_number ?k__law_number ?a__law_high ?l__law_high ?c__law_high ?k__law_high ?a_law ?l_law ?c_law ?k_law ?h_GREATEST ?z_isinstance ?z_int ?z_bool ?z_list ?z_tuple ?z_len ?z_max ?z_min ?z_sorted ?z_range ?z_sum ?z_all ?z_zip ?z_set
    (case a_is_whole => k_is)
    (case l_is_whole => k_is)
    (case c_is_whole => k_is)
    (case k_is_whole => k_is)
    (case a_check_number => k_is)
    (case l_check_number => k_is)
    (case c_check_number => k_is)
    (case k_check_number => k_is)
    (case a_parts_of => k_is)
    (case l_parts_of => k_is)
    (case c_parts_of => k_is)
    (case k_parts_of => k_is)
    (case a_row_of => k_is)
    (case l_row_of => k_is)
    (case c_row_of => k_is)
    (case k_row_of => k_is)
    (case a_rows_of => k_is)
    (case l_rows_of => k_is)
    (case c_rows_of => k_is)
    (case k_rows_of => k_is)
    (case a_high_rows => k_is)
    (case l_high_rows => k_is)
    (case c_high_rows => k_is)
    (case k_high_rows => k_is)
    (case a_longest => k_is)
    (case l_longest => k_is)
    (case c_longest => k_is)
    (case k_longest => k_is)
    (case a_of_length => k_is)
    (case l_of_length => k_is)
    (case c_of_length => k_is)
    (case k_of_length => k_is)
    (case a__law_cell_at => k_is)
    (case l__law_cell_at => k_is)
    (case c__law_cell_at => k_is)
    (case k__law_cell_at => k_is)
    (case a__law_draw => k_is)
    (case l__law_draw => k_is)
    (case c__law_draw => k_is)
    (case k__law_draw => k_is)
    (case a__law_value => k_is)
    (case l__law_value => k_is)
    (case c__law_value => k_is)
    (case k__law_value => k_is)
    (case a__law_number => k_is)
    (case l__law_number => k_is)
    (case c__law_number => k_is)
    (case k__law_number => k_is)
    (case a__law_high => k_is)
    (case l__law_high => k_is)
    (case c__law_high => k_is)
    (case k__law_high => k_is)
    (case a_law => k_is)
    (case l_law => k_is)
    (case c_law => k_is)
    (case k_law => k_is)
    (case h_GREATEST => k_is)
    (case z_isinstance => k_is)
    (case z_int => k_is)
    (case z_bool => k_is)
    (case z_list => k_is)
    (case z_tuple => k_is)
    (case z_len => k_is)
    (case z_max => k_is)
    (case z_min => k_is)
    (case z_sorted => k_is)
    (case z_range => k_is)
    (case z_sum => k_is)
    (case z_all => k_is)
    (case z_zip => k_is)
    (case z_set => k_is)
#print axioms PySem.Challenge.cw_neighboursums_k02_whole_lengths_holds

