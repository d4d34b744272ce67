import PyProof.Rows.All
import Wide.All
import OpenK.AllK
import Wide.FinOn
import HandS.ForMost
import HandS.IsInst
import HandS.Style
import HandS.SortRule
import HandS.WideBits
import HandS.EndBits
import KE.IntBitsLaws
import KE.DataEq
import PySem.Challenge.RW_neighboursums_k04_by_hand
set_option Elab.async false
/-! The mathematics of rows: plain Lean. -/
namespace NB
/-- f, .., l make n -/
def IsRow (n f l : Int) : Prop := f ≤ l ∧ (f + l) * (l - f + 1) = 2 * n
/-- by the first, then by the second -/
def Lt (p q : Int × Int) : Prop := p.1 < q.1 ∨ (p.1 = q.1 ∧ p.2 < q.2)
instance (p q : Int × Int) : Decidable (Lt p q) := by unfold Lt; infer_instance
theorem Lt.irrefl {p : Int × Int} (h : Lt p p) : False := by unfold Lt at h; omega
theorem Lt.asymm {p q : Int × Int} (h : Lt p q) (h' : Lt q p) : False := by unfold Lt at h h'; omega
theorem uniq : ∀ {l m : List (Int × Int)}, l.Pairwise Lt → m.Pairwise Lt → (∀ x, x ∈ l ↔ x ∈ m) → l = m
  | [], [], _, _, _ => rfl
  | [], y :: m, _, _, h => absurd ((h y).mpr List.mem_cons_self) (by simp)
  | x :: l, [], _, _, h => absurd ((h x).mp List.mem_cons_self) (by simp)
  | x :: l, y :: m, hl, hm, h => by
    rw [List.pairwise_cons] at hl hm
    have e : x = y := by
      rcases List.mem_cons.mp ((h x).mp List.mem_cons_self) with e | h1
      · exact e
      rcases List.mem_cons.mp ((h y).mpr List.mem_cons_self) with e | h2
      · exact e.symm
      exact (Lt.asymm (hm.1 x h1) (hl.1 y h2)).elim
    subst e
    have := uniq hl.2 hm.2 (fun z => by
      constructor
      · intro hz
        rcases List.mem_cons.mp ((h z).mp (List.mem_cons_of_mem _ hz)) with e | h1
        · subst e; exact (Lt.irrefl (hl.1 _ hz)).elim
        · exact h1
      · intro hz
        rcases List.mem_cons.mp ((h z).mpr (List.mem_cons_of_mem _ hz)) with e | h1
        · subst e; exact (Lt.irrefl (hm.1 _ hz)).elim
        · exact h1)
    rw [this]

/-- all rows of n, in order; the high ones -/
structure Rows (n : Int) (ps : List (Int × Int)) : Prop where
  srt : ps.Pairwise Lt
  mem : ∀ f l, (f, l) ∈ ps ↔ IsRow n f l
structure HRows (n : Int) (ps : List (Int × Int)) : Prop where
  srt : ps.Pairwise Lt
  mem : ∀ f l, (f, l) ∈ ps ↔ IsRow n f l ∧ 0 < f
theorem Rows.uniq {n : Int} {ps qs : List (Int × Int)} (a : Rows n ps) (b : Rows n qs) : ps = qs :=
  NB.uniq a.srt b.srt fun ⟨f, l⟩ => (a.mem f l).trans (b.mem f l).symm
theorem HRows.uniq {n : Int} {ps qs : List (Int × Int)} (a : HRows n ps) (b : HRows n qs) : ps = qs :=
  NB.uniq a.srt b.srt fun ⟨f, l⟩ => (a.mem f l).trans (b.mem f l).symm
theorem Rows.high {n : Int} {ps : List (Int × Int)} (a : Rows n ps) : HRows n (ps.filter fun p => decide (0 < p.1)) := by
  refine ⟨a.srt.filter _, fun f l => ?_⟩
  rw [List.mem_filter, a.mem]
  simp

theorem two_tri (L : Int) : 2 * (L * (L - 1) / 2) = L * (L - 1) := by
  have : L = 2 * (L / 2) ∨ L = 2 * (L / 2) + 1 := by omega
  generalize L / 2 = k at this
  rcases this with e | e
  · subst e
    rw [Int.mul_assoc, Int.mul_ediv_cancel_left _ (by decide)]
  · subst e
    have : (2 * k + 1) * (2 * k + 1 - 1) = 2 * (k * (2 * k + 1)) := by
      rw [Int.add_sub_cancel, Int.mul_comm, Int.mul_assoc]
    rw [this, Int.mul_ediv_cancel_left _ (by decide)]
theorem two_tri' (L : Int) : 2 * (L * (L + 1) / 2) = L * (L + 1) := by
  have h := two_tri (L + 1)
  rw [Int.add_sub_cancel] at h
  rw [Int.mul_comm L]
  exact h
/-- a row's equation by its length -/
theorem isRow_len {n f L : Int} (hL : 0 < L) : IsRow n f (f + L - 1) ↔ L * f = n - L * (L - 1) / 2 := by
  have t := two_tri L
  have e : (f + (f + L - 1)) * (f + L - 1 - f + 1) = 2 * (L * f) + L * (L - 1) := by
    have e1 : f + L - 1 - f + 1 = L := by omega
    have e2 : f + (f + L - 1) = 2 * f + (L - 1) := by omega
    rw [e1, e2, Int.add_mul, Int.mul_assoc, Int.mul_comm f L, Int.mul_comm (L - 1) L]
  unfold IsRow
  rw [e]
  constructor
  · rintro ⟨_, h⟩; omega
  · intro h; exact ⟨by omega, by omega⟩

/-- row_of: the row of a length -/
def rowOf (n L : Int) : Option (Int × Int) :=
  if (n - L * (L - 1) / 2) % L = 0 then some ((n - L * (L - 1) / 2) / L, (n - L * (L - 1) / 2) / L + L - 1) else none
theorem rowOf_iff {n L f l : Int} (hL : 0 < L) : rowOf n L = some (f, l) ↔ l = f + L - 1 ∧ IsRow n f l := by
  unfold rowOf
  generalize hx : n - L * (L - 1) / 2 = x
  constructor
  · intro h
    split at h
    · rename_i h0
      injection h with h
      injection h with h1 h2
      subst h1 h2
      refine ⟨rfl, (isRow_len hL).mpr ?_⟩
      rw [hx, Int.mul_ediv_cancel' (Int.dvd_of_emod_eq_zero h0)]
    · cases h
  · rintro ⟨e, h⟩
    subst e
    have h := (isRow_len hL).mp h
    rw [hx] at h
    rw [if_pos (by rw [← h]; exact Int.mul_emod_right _ _), ← h, Int.mul_ediv_cancel_left _ (by omega)]
theorem rowOf_none {n L : Int} (hL : 0 < L) : rowOf n L = none ↔ ∀ f, ¬ IsRow n f (f + L - 1) := by
  constructor
  · intro h f hr
    have := (rowOf_iff hL).mpr ⟨rfl, hr⟩
    rw [h] at this; cases this
  · intro h
    cases e : rowOf n L with
    | none => rfl
    | some p =>
      obtain ⟨f, l⟩ := p
      obtain ⟨e1, e2⟩ := (rowOf_iff hL).mp e
      rw [e1] at e2
      exact (h f e2).elim
/-- as the law reckons it -/
def dueOf (n L : Int) : Option (Int × Int) :=
  if (2 * n - L * (L - 1)) % (2 * L) = 0 then some ((2 * n - L * (L - 1)) / L / 2, (2 * n - L * (L - 1)) / L / 2 + L - 1) else none
theorem dueOf_eq {n L : Int} (hL : 0 < L) : dueOf n L = rowOf n L := by
  unfold dueOf rowOf
  have t := two_tri L
  generalize hx : L * (L - 1) / 2 = x at *
  have e : 2 * n - L * (L - 1) = 2 * (n - x) := by omega
  rw [e]
  have e2 : 2 * (n - x) % (2 * L) = 2 * ((n - x) % L) := Int.mul_emod_mul_of_pos _ _ (by decide)
  rw [e2]
  by_cases h : (n - x) % L = 0
  · rw [if_pos h, if_pos (by omega)]
    have e3 : 2 * (n - x) / L / 2 = (n - x) / L := by
      obtain ⟨k, hk⟩ := Int.dvd_of_emod_eq_zero h
      rw [hk, show 2 * (L * k) = L * (2 * k) by rw [Int.mul_left_comm], Int.mul_ediv_cancel_left _ (by omega), Int.mul_ediv_cancel_left _ (by decide), Int.mul_ediv_cancel_left _ (by omega)]
    rw [e3]
  · rw [if_neg h, if_neg (by omega)]

/-! ### what the law reckons: by the lengths from 1 on -/
def acc (n : Int) : Nat → List (Int × Int)
  | 0 => []
  | k + 1 => match rowOf n (k + 1 : Nat) with
    | some p => acc n k ++ [p]
    | none => acc n k
theorem acc_some {n : Int} {k : Nat} {p : Int × Int} (h : rowOf n (k + 1 : Nat) = some p) : acc n (k + 1) = acc n k ++ [p] := by
  rw [acc, h]
theorem acc_none {n : Int} {k : Nat} (h : rowOf n (k + 1 : Nat) = none) : acc n (k + 1) = acc n k := by
  rw [acc, h]
theorem acc_mem {n : Int} : ∀ {K : Nat} {f l : Int}, (f, l) ∈ acc n K ↔ ∃ L : Nat, 1 ≤ L ∧ L ≤ K ∧ rowOf n L = some (f, l)
  | 0, f, l => by
    constructor
    · intro h; cases h
    · rintro ⟨L, h1, h2, _⟩; omega
  | k + 1, f, l => by
    have ih := acc_mem (n := n) (K := k) (f := f) (l := l)
    have step : (∃ L : Nat, 1 ≤ L ∧ L ≤ k + 1 ∧ rowOf n L = some (f, l)) ↔ (∃ L : Nat, 1 ≤ L ∧ L ≤ k ∧ rowOf n L = some (f, l)) ∨ rowOf n (k + 1 : Nat) = some (f, l) := by
      constructor
      · rintro ⟨L, h1, h2, h3⟩
        by_cases e : L = k + 1
        · subst e; exact .inr h3
        · exact .inl ⟨L, h1, by omega, h3⟩
      · rintro (⟨L, h1, h2, h3⟩ | h)
        · exact ⟨L, h1, by omega, h3⟩
        · exact ⟨k + 1, by omega, by omega, h⟩
    rw [step, ← ih]
    cases e : rowOf n (k + 1 : Nat) with
    | none => rw [acc_none e]; simp
    | some p => rw [acc_some e, List.mem_append, List.mem_singleton]; simp [eq_comm]
theorem acc_len {n : Int} : ∀ {K : Nat}, (acc n K).length ≤ K
  | 0 => Nat.le_refl _
  | k + 1 => by
    have ih := acc_len (n := n) (K := k)
    unfold acc
    split
    · rw [List.length_append]; simp only [List.length_cons, List.length_nil]; omega
    · omega
theorem tri_mono {a b : Int} (h0 : 0 ≤ a) (h : a ≤ b) : a * (a + 1) / 2 ≤ b * (b + 1) / 2 := by
  have h1 : a * (a + 1) ≤ b * (b + 1) := Int.mul_le_mul h (by omega) (by omega) (by omega)
  have := two_tri' a
  have := two_tri' b
  omega
theorem tri_step (L : Int) : L * (L - 1) / 2 + L = L * (L + 1) / 2 := by
  have h1 := two_tri L
  have h2 := two_tri' L
  have e1 : L * (L - 1) = L * L - L := by rw [Int.mul_sub, Int.mul_one]
  have e2 : L * (L + 1) = L * L + L := by rw [Int.mul_add, Int.mul_one]
  omega
/-- a row's length says whether it is high -/
theorem row_high {n f L : Int} (hL : 0 < L) (h : IsRow n f (f + L - 1)) : 0 < f ↔ L * (L + 1) / 2 ≤ n := by
  have e := (isRow_len hL).mp h
  have t := tri_step L
  constructor
  · intro hf
    have : L * 1 ≤ L * f := Int.mul_le_mul_of_nonneg_left (by omega) (by omega)
    omega
  · intro hn
    refine Decidable.byContradiction fun hc => ?_
    have : L * f ≤ L * 0 := Int.mul_le_mul_of_nonneg_left (by omega) (by omega)
    omega
/-- longer rows begin earlier -/
theorem row_anti {n f g L M : Int} (hL : 0 < L) (h : L < M) (hg : 0 < g) (a : IsRow n f (f + L - 1)) (b : IsRow n g (g + M - 1)) : g < f := by
  have e1 := (isRow_len hL).mp a
  have e2 := (isRow_len (show 0 < M by omega)).mp b
  refine Decidable.byContradiction fun hc => ?_
  have h1 : L * f ≤ L * g := Int.mul_le_mul_of_nonneg_left (by omega) (by omega)
  have h2 : L * g < M * g := Int.mul_lt_mul_of_pos_right h hg
  have h3 : L * (L - 1) ≤ M * (M - 1) := Int.mul_le_mul (by omega) (by omega) (by omega) (by omega)
  have := two_tri L
  have := two_tri M
  omega
theorem acc_high {n : Int} : ∀ {K : Nat}, (K : Int) * ((K : Int) + 1) / 2 ≤ n → ∀ p ∈ acc n K, 0 < p.1 := by
  intro K hK ⟨f, l⟩ hp
  obtain ⟨L, h1, h2, h3⟩ := acc_mem.mp hp
  obtain ⟨e, hr⟩ := (rowOf_iff (by omega)).mp h3
  subst e
  exact (row_high (by omega) hr).mpr (Int.le_trans (tri_mono (by omega) (by omega)) hK)
theorem acc_srt {n : Int} : ∀ {K : Nat}, (K : Int) * ((K : Int) + 1) / 2 ≤ n → (acc n K).reverse.Pairwise Lt
  | 0, _ => List.Pairwise.nil
  | k + 1, hK => by
    have hk : (k : Int) * ((k : Int) + 1) / 2 ≤ n := Int.le_trans (tri_mono (by omega) (by omega)) hK
    have ih := acc_srt (n := n) (K := k) hk
    unfold acc
    split
    · rename_i p hp
      obtain ⟨g, m⟩ := p
      rw [List.reverse_append]
      show List.Pairwise Lt ((g, m) :: (acc n k).reverse)
      rw [List.pairwise_cons]
      refine ⟨fun ⟨f, l⟩ hm => ?_, ih⟩
      obtain ⟨L, h1, h2, h3⟩ := acc_mem.mp (List.mem_reverse.mp hm)
      obtain ⟨e1, r1⟩ := (rowOf_iff (by omega)).mp h3
      obtain ⟨e2, r2⟩ := (rowOf_iff (by omega)).mp hp
      subst e1
      subst e2
      have hg : 0 < g := (row_high (by omega) r2).mpr hK
      exact .inl (row_anti (L := L) (M := ((k + 1 : Nat) : Int)) (by omega) (by omega) hg r1 r2)
    · exact ih
/-- behind the loop: the high rows -/
theorem acc_rows {n : Int} {K : Nat} (h1 : (K : Int) * ((K : Int) + 1) / 2 ≤ n) (h2 : n < ((K : Int) + 1) * ((K : Int) + 1 + 1) / 2) : HRows n (acc n K).reverse := by
  refine ⟨acc_srt h1, fun f l => ?_⟩
  rw [List.mem_reverse]
  constructor
  · intro h
    have hf := acc_high h1 _ h
    obtain ⟨L, a1, a2, a3⟩ := acc_mem.mp h
    exact ⟨((rowOf_iff (by omega)).mp a3).2, hf⟩
  · rintro ⟨hr, hf⟩
    have hle := hr.1
    obtain ⟨L, eL⟩ := Int.eq_ofNat_of_zero_le (show 0 ≤ l - f + 1 by omega)
    have el : l = f + (L : Int) - 1 := by omega
    have hL : 0 < (L : Int) := by omega
    have hr' : IsRow n f (f + (L : Int) - 1) := el ▸ hr
    have hn := (row_high hL hr').mp hf
    refine acc_mem.mpr ⟨L, by omega, ?_, (rowOf_iff hL).mpr ⟨el, hr⟩⟩
    refine Decidable.byContradiction fun hc => ?_
    have := tri_mono (a := (K : Int) + 1) (b := (L : Int)) (by omega) (by omega)
    omega
/-- the rows below nought -/
theorem low_iff {n f l : Int} (hn : 0 < n) : IsRow n f l ∧ ¬ 0 < f ↔ IsRow n (1 - f) l ∧ 0 < 1 - f := by
  have e : ∀ f l : Int, (1 - f + l) * (l - (1 - f) + 1) = (f + l) * (l - f + 1) := fun f l => by
    rw [show l - (1 - f) + 1 = f + l by omega, show 1 - f + l = l - f + 1 by omega, Int.mul_comm]
  unfold IsRow
  rw [e]
  constructor
  · rintro ⟨⟨h1, h2⟩, h3⟩
    refine ⟨⟨?_, h2⟩, by omega⟩
    refine Decidable.byContradiction fun hc => ?_
    have : (f + l) * (l - f + 1) ≤ 0 := Int.mul_nonpos_of_nonpos_of_nonneg (by omega) (by omega)
    omega
  · rintro ⟨⟨h1, h2⟩, h3⟩
    exact ⟨⟨by omega, h2⟩, by omega⟩
/-- all rows: the high ones, and each's fellow -/
theorem Rows.of_high {n : Int} (hn : 0 < n) {ps qs : List (Int × Int)} (h : HRows n ps) (hs : qs.Pairwise Lt) (hm : ∀ x, x ∈ qs ↔ x ∈ ps ++ ps.map fun p : Int × Int => ((1 - p.1, p.2) : Int × Int)) : Rows n qs := by
  refine ⟨hs, fun f l => ?_⟩
  rw [hm, List.mem_append, h.mem, List.mem_map]
  have key : (∃ a, a ∈ ps ∧ (1 - a.1, a.2) = (f, l)) ↔ IsRow n f l ∧ ¬ 0 < f := by
    rw [low_iff hn]
    constructor
    · rintro ⟨⟨g, m⟩, h1, h2⟩
      injection h2 with h2 h3
      have e1 : 1 - f = g := by simp only at h2; omega
      simp only at h3
      subst h3
      rw [e1]
      exact (h.mem _ _).mp h1
    · rintro h1
      refine ⟨(1 - f, l), (h.mem _ _).mpr h1, ?_⟩
      rw [show 1 - (1 - f) = f by omega]
  rw [key]
  constructor
  · rintro (⟨a, _⟩ | ⟨a, _⟩) <;> exact a
  · intro a
    by_cases hf : 0 < f
    · exact .inl ⟨a, hf⟩
    · exact .inr ⟨a, hf⟩
/-- the two kinds are apart: their lists one behind the other are without doubles -/
theorem whole_nodup {n : Int} {ps : List (Int × Int)} (h : HRows n ps) : (ps ++ ps.map fun p : Int × Int => ((1 - p.1, p.2) : Int × Int)).Nodup := by
  have nd : ps.Nodup := h.srt.imp fun {a b} hab e => by subst e; exact Lt.irrefl hab
  rw [List.nodup_append]
  refine ⟨nd, ?_, ?_⟩
  · refine List.pairwise_map.mpr (nd.imp fun {a b} hab e => hab ?_)
    obtain ⟨a1, a2⟩ := a
    obtain ⟨b1, b2⟩ := b
    injection e with e1 e2
    simp only at e1 e2
    rw [e2, show a1 = b1 by omega]
  · rintro ⟨f, l⟩ ha ⟨g, m⟩ hb e
    obtain ⟨⟨c, d⟩, h1, h2⟩ := List.mem_map.mp hb
    have x1 := ((h.mem _ _).mp ha).2
    have x2 := ((h.mem _ _).mp h1).2
    injection h2 with h2 h3
    injection e with e1 e2
    simp only at h2
    omega
end NB

set_option Elab.async false
/-! parts_of. -/
namespace NB
def low (n : Int) : Nat → List Int
  | 0 => []
  | k + 1 => if n % ((k + 1 : Nat) : Int) = 0 then low n k ++ [((k + 1 : Nat) : Int)] else low n k
def high (n : Int) : Nat → List Int
  | 0 => []
  | k + 1 => if n % ((k + 1 : Nat) : Int) = 0 ∧ ((k + 1 : Nat) : Int) * ((k + 1 : Nat) : Int) < n then high n k ++ [n / ((k + 1 : Nat) : Int)] else high n k
theorem low_len {n : Int} : ∀ {k : Nat}, (low n k).length ≤ k
  | 0 => Nat.le_refl _
  | k + 1 => by
    have ih := low_len (n := n) (k := k)
    unfold low
    split
    · rw [List.length_append]; simp only [List.length_cons, List.length_nil]; omega
    · omega
theorem high_len {n : Int} : ∀ {k : Nat}, (high n k).length ≤ k
  | 0 => Nat.le_refl _
  | k + 1 => by
    have ih := high_len (n := n) (k := k)
    unfold high
    split
    · rw [List.length_append]; simp only [List.length_cons, List.length_nil]; omega
    · omega
theorem low_mem {n d : Int} : ∀ {k : Nat}, d ∈ low n k ↔ 0 < d ∧ d ≤ k ∧ n % d = 0
  | 0 => by
    constructor
    · intro h; cases h
    · rintro ⟨h1, h2, _⟩; omega
  | k + 1 => by
    have ih := low_mem (n := n) (d := d) (k := k)
    unfold low
    split
    · rename_i h
      rw [List.mem_append, List.mem_singleton, ih]
      constructor
      · rintro (⟨a, b, c⟩ | e)
        · exact ⟨a, by omega, c⟩
        · subst e; exact ⟨by omega, by omega, h⟩
      · rintro ⟨a, b, c⟩
        by_cases e : d = ((k + 1 : Nat) : Int)
        · exact .inr e
        · exact .inl ⟨a, by omega, c⟩
    · rename_i h
      rw [ih]
      constructor
      · rintro ⟨a, b, c⟩; exact ⟨a, by omega, c⟩
      · rintro ⟨a, b, c⟩
        refine ⟨a, ?_, c⟩
        by_cases e : d = ((k + 1 : Nat) : Int)
        · subst e; exact absurd c h
        · omega
theorem high_mem {n e : Int} : ∀ {k : Nat}, e ∈ high n k ↔ ∃ d : Int, 0 < d ∧ d ≤ k ∧ n % d = 0 ∧ d * d < n ∧ e = n / d
  | 0 => by
    constructor
    · intro h; cases h
    · rintro ⟨d, h1, h2, _⟩; omega
  | k + 1 => by
    have ih := high_mem (n := n) (e := e) (k := k)
    unfold high
    split
    · rename_i h
      rw [List.mem_append, List.mem_singleton, ih]
      constructor
      · rintro (⟨d, a, b, c⟩ | e)
        · exact ⟨d, a, by omega, c⟩
        · exact ⟨_, by omega, Int.le_refl _, h.1, h.2, e⟩
      · rintro ⟨d, a, b, c1, c2, c3⟩
        by_cases x : d = ((k + 1 : Nat) : Int)
        · subst x; exact .inr c3
        · exact .inl ⟨d, a, by omega, c1, c2, c3⟩
    · rename_i h
      rw [ih]
      constructor
      · rintro ⟨d, a, b, c⟩; exact ⟨d, a, by omega, c⟩
      · rintro ⟨d, a, b, c1, c2, c3⟩
        refine ⟨d, a, ?_, c1, c2, c3⟩
        by_cases x : d = ((k + 1 : Nat) : Int)
        · subst x; exact absurd ⟨c1, c2⟩ h
        · omega
theorem low_nodup {n : Int} : ∀ {k : Nat}, (low n k).Nodup
  | 0 => List.nodup_nil
  | k + 1 => by
    have ih := low_nodup (n := n) (k := k)
    unfold low
    split
    · rw [List.nodup_append]
      refine ⟨ih, by simp, fun a ha b hb e => ?_⟩
      have := (low_mem.mp ha).2.1
      rw [List.mem_singleton] at hb
      omega
    · exact ih
/-- the great part beside d is beyond k -/
theorem great {n d : Int} {k : Nat} (h1 : 0 < d) (h2 : d ≤ k) (h3 : n % d = 0) (h4 : d * d < n) (hk : (k : Int) * k ≤ n) : (k : Int) < n / d := by
  refine Decidable.byContradiction fun hc => ?_
  have e : d * (n / d) = n := Int.mul_ediv_cancel' (Int.dvd_of_emod_eq_zero h3)
  have hlt : d < n / d := by
    refine Decidable.byContradiction fun hx => ?_
    have : d * (n / d) ≤ d * d := Int.mul_le_mul_of_nonneg_left (by omega) (by omega)
    omega
  -- n = d * (n/d) < k * k when d < n/d ≤ k
  have h5 : d * (n / d) < (n / d) * (n / d) := Int.mul_lt_mul_of_pos_right hlt (by omega)
  have h6 : (n / d) * (n / d) ≤ (k : Int) * k := Int.mul_le_mul (by omega) (by omega) (by omega) (by omega)
  omega
theorem div_inj {n d e : Int} (hn : 0 < n) (h1 : 0 < d) (h2 : 0 < e) (h3 : n % d = 0) (h4 : n % e = 0) (h : n / d = n / e) : d = e := by
  have a := Int.mul_ediv_cancel' (Int.dvd_of_emod_eq_zero h3)
  have b := Int.mul_ediv_cancel' (Int.dvd_of_emod_eq_zero h4)
  rw [h] at a
  have hp : n / e ≠ 0 := by
    intro z
    rw [z] at b
    omega
  exact Int.eq_of_mul_eq_mul_right hp (a.trans b.symm)
theorem high_nodup {n : Int} (hn : 0 < n) : ∀ {k : Nat}, (high n k).Nodup
  | 0 => List.nodup_nil
  | k + 1 => by
    have ih := high_nodup hn (k := k)
    unfold high
    split
    · rename_i h
      rw [List.nodup_append]
      refine ⟨ih, by simp, fun a ha b hb e => ?_⟩
      obtain ⟨d, a1, a2, a3, a4, a5⟩ := high_mem.mp ha
      rw [List.mem_singleton] at hb
      have := div_inj hn a1 (by omega) a3 h.1 (a5.symm.trans (e.trans hb))
      omega
    · exact ih
def parts (n : Int) (k : Nat) : List Int := low n k ++ (high n k).reverse
theorem parts_mem {n d : Int} {k : Nat} (hn : 0 < n) (h2 : n < ((k : Int) + 1) * ((k : Int) + 1)) : d ∈ parts n k ↔ 0 < d ∧ n % d = 0 := by
  unfold parts
  rw [List.mem_append, List.mem_reverse, low_mem, high_mem]
  constructor
  · rintro (⟨a, _, c⟩ | ⟨e, a, b, c, x, rfl⟩)
    · exact ⟨a, c⟩
    · have q := Int.mul_ediv_cancel' (Int.dvd_of_emod_eq_zero c)
      refine ⟨Int.pos_of_mul_pos_right (a := e) (by omega) (by omega), ?_⟩
      have q' : n = (n / e) * e := by rw [Int.mul_comm]; exact q.symm
      generalize n / e = m at q'
      rw [q']
      exact Int.mul_emod_right _ _
  · rintro ⟨a, c⟩
    by_cases hd : d ≤ k
    · exact .inl ⟨a, hd, c⟩
    · refine .inr ?_
      have q := Int.mul_ediv_cancel' (Int.dvd_of_emod_eq_zero c)
      have hp : 0 < n / d := Int.pos_of_mul_pos_right (a := d) (by omega) (by omega)
      -- e = n / d is below d
      have hlt : n / d < (k : Int) + 1 := by
        refine Decidable.byContradiction fun hx => ?_
        have : ((k : Int) + 1) * ((k : Int) + 1) ≤ d * (n / d) := Int.mul_le_mul (by omega) (by omega) (by omega) (by omega)
        omega
      have e2 : n / (n / d) = d := by
        refine Int.ediv_eq_of_eq_mul_right (by omega) ?_
        rw [Int.mul_comm]; exact q.symm
      refine ⟨n / d, hp, by omega, ?_, ?_, e2.symm⟩
      · have q' : n = (n / d) * d := by rw [Int.mul_comm]; exact q.symm
        generalize n / d = m at q'
        rw [q']
        exact Int.mul_emod_right _ _
      · have : (n / d) * (n / d) < d * (n / d) := Int.mul_lt_mul_of_pos_right (by omega) hp
        omega
theorem parts_nodup {n : Int} {k : Nat} (hn : 0 < n) (hk : (k : Int) * k ≤ n) : (parts n k).Nodup := by
  unfold parts
  rw [List.nodup_append]
  refine ⟨low_nodup, (List.reverse_perm _).nodup_iff.mpr (high_nodup hn), fun a ha b hb e => ?_⟩
  have h1 := (low_mem.mp ha).2.1
  obtain ⟨d, a1, a2, a3, a4, a5⟩ := high_mem.mp (List.mem_reverse.mp hb)
  have h := great a1 a2 a3 a4 hk
  omega
theorem parts_len {n : Int} {k : Nat} : (parts n k).length ≤ 2 * k := by
  unfold parts
  rw [List.length_append, List.length_reverse]
  have := low_len (n := n) (k := k)
  have := high_len (n := n) (k := k)
  omega
/-- what a list of all parts of a number is -/
structure Parts (n : Int) (ds : List Int) : Prop where
  nd : ds.Nodup
  mem : ∀ d, d ∈ ds ↔ 0 < d ∧ n % d = 0
theorem parts_ok {n : Int} {k : Nat} (hn : 0 < n) (h1 : (k : Int) * k ≤ n) (h2 : n < ((k : Int) + 1) * ((k : Int) + 1)) : Parts n (parts n k) := ⟨parts_nodup hn h1, fun _ => parts_mem hn h2⟩
/-- the rows by the parts of twice the number -/
theorem found_mem {n : Int} {ds : List Int} (h : Parts (2 * n) ds) {f l : Int} : (f, l) ∈ ds.filterMap (rowOf n) ↔ IsRow n f l := by
  rw [List.mem_filterMap]
  constructor
  · rintro ⟨L, hL, e⟩
    exact ((rowOf_iff ((h.mem L).mp hL).1).mp e).2
  · intro hr
    have hle := hr.1
    refine ⟨l - f + 1, (h.mem _).mpr ⟨by omega, ?_⟩, (rowOf_iff (by omega)).mpr ⟨by omega, hr⟩⟩
    rw [← hr.2]
    exact Int.mul_emod_left _ _
theorem nodup_filterMap {α β : Type} {f : α → Option β} {l : List α} (h : l.Nodup) (inj : ∀ a ∈ l, ∀ b ∈ l, ∀ x, f a = some x → f b = some x → a = b) : (l.filterMap f).Nodup := by
  induction l with
  | nil => exact List.nodup_nil
  | cons a r ih =>
    rw [List.nodup_cons] at h
    have ih' := ih h.2 fun x hx y hy => inj x (List.mem_cons_of_mem _ hx) y (List.mem_cons_of_mem _ hy)
    rw [List.filterMap_cons]
    split
    · exact ih'
    · rename_i x hx
      rw [List.nodup_cons]
      refine ⟨fun hm => ?_, ih'⟩
      obtain ⟨b, hb, e⟩ := List.mem_filterMap.mp hm
      have := inj a List.mem_cons_self b (List.mem_cons_of_mem _ hb) x hx e
      subst this
      exact h.1 hb
theorem found_nodup {n : Int} {ds : List Int} (h : Parts (2 * n) ds) : (ds.filterMap (rowOf n)).Nodup := by
  refine nodup_filterMap h.nd fun a ha b hb ⟨f, l⟩ e1 e2 => ?_
  have a1 := ((rowOf_iff ((h.mem a).mp ha).1).mp e1).1
  have b1 := ((rowOf_iff ((h.mem b).mp hb).1).mp e2).1
  omega
/-- sorted: each pair not behind the next; the same pairs, none twice -/
theorem strict_of {qs : List (Int × Int)} (h : qs.Pairwise fun p q => ¬ Lt q p) (nd : qs.Nodup) : qs.Pairwise Lt := by
  refine (h.and nd).imp fun {p q} ⟨a, b⟩ => ?_
  obtain ⟨p1, p2⟩ := p
  obtain ⟨q1, q2⟩ := q
  unfold Lt at *
  simp only at *
  by_cases e1 : p1 = q1
  · by_cases e2 : p2 = q2
    · subst e1 e2; exact (b rfl).elim
    · omega
  · omega
theorem rows_ok {n : Int} {ds : List Int} (h : Parts (2 * n) ds) {qs : List (Int × Int)} (hs : qs.Pairwise fun p q => ¬ Lt q p) (hp : qs.Perm (ds.filterMap (rowOf n))) : Rows n qs :=
  ⟨strict_of hs (hp.nodup_iff.mpr (found_nodup h)), fun _ _ => hp.mem_iff.trans (found_mem h)⟩
theorem whole_ok {n : Int} (hn : 0 < n) {ps qs : List (Int × Int)} (h : HRows n ps) (hs : qs.Pairwise fun p q => ¬ Lt q p) (hp : qs.Perm (ps ++ ps.map fun p : Int × Int => ((1 - p.1, p.2) : Int × Int))) : Rows n qs :=
  Rows.of_high hn h (strict_of hs (hp.nodup_iff.mpr (whole_nodup h))) fun _ => hp.mem_iff
end NB

set_option Elab.async false
/-! Powers of 2 and odd parts. -/
namespace NB
theorem two_pos (k : Nat) : (1 : Int) ≤ 2 ^ k := by
  have := Int.pow_pos (n := 2) (m := k) (by decide)
  omega
theorem pow_succ2 (k : Nat) : (2 : Int) ^ (k + 1) = 2 * 2 ^ k := by rw [Int.pow_succ, Int.mul_comm]
theorem pow_mono2 {a b : Nat} (h : a ≤ b) : (2 : Int) ^ a ≤ 2 ^ b := by
  induction b with
  | zero => have : a = 0 := by omega
            subst this; exact Int.le_refl _
  | succ b ih =>
    by_cases e : a = b + 1
    · subst e; exact Int.le_refl _
    · have := ih (by omega)
      have := two_pos b
      rw [pow_succ2]
      omega
theorem pow_inj2 {a b : Nat} (h : (2 : Int) ^ a = 2 ^ b) : a = b := by
  have key : ∀ {a b : Nat}, a < b → (2 : Int) ^ a < 2 ^ b := fun {a b} hab => by
    have h1 := pow_mono2 (show a + 1 ≤ b from hab)
    have := two_pos a
    rw [pow_succ2] at h1
    omega
  rcases Nat.lt_trichotomy a b with h1 | h1 | h1
  · have := key h1; omega
  · exact h1
  · have := key h1; omega
theorem pow_small {k : Nat} {o n : Int} (ho : 1 ≤ o) (h : n = 2 ^ k * o) (hn : n ≤ 1000000) : k < 20 := by
  refine Decidable.byContradiction fun hc => ?_
  have h1 := pow_mono2 (show 20 ≤ k by omega)
  have h2 : (2 : Int) ^ 20 = 1048576 := by decide
  have h3 : (2 : Int) ^ k * 1 ≤ 2 ^ k * o := Int.mul_le_mul_of_nonneg_left ho (by omega)
  omega
/-- every number has its odd part -/
theorem split_odd : ∀ {N : Nat} {n : Int}, n ≤ N → 1 ≤ n → ∃ (e : Nat) (o : Int), n = 2 ^ e * o ∧ o % 2 = 1 ∧ 1 ≤ o
  | 0, n, h1, h2 => by omega
  | N + 1, n, h1, h2 => by
    by_cases h : n % 2 = 1
    · exact ⟨0, n, by simp, h, h2⟩
    · obtain ⟨e, o, h3, h4, h5⟩ := split_odd (N := N) (n := n / 2) (by omega) (by omega)
      refine ⟨e + 1, o, ?_, h4, h5⟩
      rw [pow_succ2, Int.mul_assoc, ← h3]
      omega
theorem odd_uniq : ∀ {e e' : Nat} {o o' : Int}, o % 2 = 1 → o' % 2 = 1 → (2 : Int) ^ e * o = 2 ^ e' * o' → e = e' ∧ o = o'
  | 0, 0, o, o', _, _, h => by simp at h; exact ⟨rfl, h⟩
  | 0, e' + 1, o, o', h1, _, h => by
    rw [pow_succ2, Int.mul_assoc] at h
    simp at h
    omega
  | e + 1, 0, o, o', _, h2, h => by
    rw [pow_succ2, Int.mul_assoc] at h
    simp at h
    omega
  | e + 1, e' + 1, o, o', h1, h2, h => by
    rw [pow_succ2, pow_succ2, Int.mul_assoc, Int.mul_assoc] at h
    obtain ⟨a, b⟩ := odd_uniq (e := e) (e' := e') h1 h2 (by omega)
    exact ⟨by omega, b⟩
theorem odd_mul {a b : Int} (h1 : a % 2 = 1) (h2 : b % 2 = 1) : a * b % 2 = 1 := by
  rw [Int.mul_emod, h1, h2]
  decide
/-- an odd number that goes into a power of 2 is 1 -/
theorem odd_dvd : ∀ {k : Nat} {a b : Int}, 0 < a → a % 2 = 1 → a * b = 2 ^ k → a = 1
  | 0, a, b, h0, _, h => by
    have : a ∣ 1 := ⟨b, by simpa using h.symm⟩
    have := Int.le_of_dvd (by decide) this
    omega
  | k + 1, a, b, h0, h1, h => by
    have hb : b % 2 = 0 := by
      refine Decidable.byContradiction fun hc => ?_
      have := odd_mul h1 (show b % 2 = 1 by omega)
      rw [h, pow_succ2] at this
      omega
    obtain ⟨c, rfl⟩ : ∃ c, b = 2 * c := ⟨b / 2, by omega⟩
    rw [pow_succ2, Int.mul_left_comm] at h
    exact odd_dvd (k := k) h0 h1 (show a * c = 2 ^ k by omega)
/-- a power of 2 has no high row of two or more -/
theorem pow_no_row {e : Nat} {f l : Int} (h : IsRow (2 ^ e) f l) (hf : 0 < f) (hl : f < l) : False := by
  obtain ⟨_, h⟩ := h
  rw [← pow_succ2] at h
  by_cases hp : (f + l) % 2 = 1
  · have := odd_dvd (k := e + 1) (by omega) hp h
    omega
  · have h' : (l - f + 1) * (f + l) = 2 ^ (e + 1) := by rw [Int.mul_comm]; exact h
    have := odd_dvd (k := e + 1) (by omega) (show (l - f + 1) % 2 = 1 by omega) h'
    omega
/-- the length that judged takes -/
def jlen (e : Nat) (o : Int) : Int := if 2 * 2 ^ e < o then 2 * 2 ^ e else o
theorem jrow {e : Nat} {o n : Int} (ho : o % 2 = 1) (h3 : 3 ≤ o) (hn : n = 2 ^ e * o) : ∃ f l, rowOf n (jlen e o) = some (f, l) ∧ IsRow n f l ∧ 0 < f ∧ f < l := by
  have hm := two_pos e
  unfold jlen
  generalize hM : (2 : Int) ^ e = m at *
  by_cases hc : 2 * m < o
  · rw [if_pos hc]
    -- f = (o + 1) / 2 - m
    have hr : IsRow n ((o + 1) / 2 - m) ((o + 1) / 2 - m + 2 * m - 1) := by
      refine (isRow_len (by omega)).mpr ?_
      have t := two_tri (2 * m)
      have e1 : 2 * m * (2 * m - 1) = 2 * (m * (2 * m - 1)) := by rw [Int.mul_assoc]
      have e2 : 2 * m * ((o + 1) / 2 - m) = m * (o + 1 - 2 * m) := by
        rw [Int.mul_right_comm, Int.mul_comm _ m, Int.mul_comm 2]
        congr 1
        omega
      have e3 : m * (o + 1 - 2 * m) = m * o - m * (2 * m - 1) := by
        rw [← Int.mul_sub]
        congr 1
        omega
      omega
    exact ⟨_, _, (rowOf_iff (by omega)).mpr ⟨rfl, hr⟩, hr, by omega, by omega⟩
  · rw [if_neg hc]
    have hr : IsRow n (m - (o - 1) / 2) (m - (o - 1) / 2 + o - 1) := by
      refine (isRow_len (by omega)).mpr ?_
      have t := two_tri o
      have e2 : o * (m - (o - 1) / 2) = m * o - o * ((o - 1) / 2) := by rw [Int.mul_sub, Int.mul_comm o m]
      have e3 : o * (o - 1) = 2 * (o * ((o - 1) / 2)) := by
        rw [Int.mul_left_comm]
        congr 1
        omega
      omega
    exact ⟨_, _, (rowOf_iff (by omega)).mpr ⟨rfl, hr⟩, hr, by omega, by omega⟩
theorem HRows.pow {e : Nat} {ps : List (Int × Int)} (h : HRows (2 ^ e) ps) : ps = [(2 ^ e, 2 ^ e)] := by
  refine h.uniq ⟨List.pairwise_singleton .., fun f l => ?_⟩
  rw [List.mem_singleton]
  have hp := two_pos e
  constructor
  · intro x
    injection x with x1 x2
    subst x1 x2
    exact ⟨⟨Int.le_refl _, by rw [Int.sub_self, Int.zero_add, Int.mul_one]; omega⟩, by omega⟩
  · rintro ⟨hr, hf⟩
    by_cases hl : f < l
    · exact (pow_no_row hr hf hl).elim
    · obtain ⟨h1, h2⟩ := hr
      have : f = l := by omega
      subst this
      rw [Int.sub_self, Int.zero_add, Int.mul_one] at h2
      rw [show f = 2 ^ e by omega]
theorem HRows.two {n f l : Int} {ps : List (Int × Int)} (hn : 1 ≤ n) (h : HRows n ps) (hr : IsRow n f l) (hf : 0 < f) (hl : f < l) : 1 < ps.length := by
  have m1 := (h.mem f l).mpr ⟨hr, hf⟩
  have m2 : (n, n) ∈ ps := (h.mem n n).mpr ⟨⟨Int.le_refl _, by rw [Int.sub_self, Int.zero_add, Int.mul_one]; omega⟩, by omega⟩
  match ps, m1, m2 with
  | [], m1, _ => cases m1
  | [p], m1, m2 =>
    rw [List.mem_singleton] at m1 m2
    subst m1
    injection m2 with a b
    omega
  | _ :: _ :: _, _, _ => simp
end NB

set_option Elab.async false
set_option maxRecDepth 100000
set_option maxHeartbeats 4000000
/-! Words of our own over the hand layer. -/
namespace NB
open PySem L2
abbrev ib (i : Int) : Nat := Builtin.Int.intBits i
/-- a def of the top, as callers know it -/
def Callee (P : Program) (w : World) (K : PySem.W.Frag) (mg : Str → Option Value) (base : Heap) (k : Nat) (x : Str) (ps : List Str) (sp : Sp) : Prop :=
  ∃ f fd, mg x = some (.ref f) ∧ PySem.W.keepIn K (.ref f) = true ∧ Binds K fd ps [] ∧ FnOk P w K mg base CX0 k f fd ps sp
/-- the built-ins' names are no names of the module -/
structure Bt (mg : Str → Option Value) : Prop where
  isinstance_ : mg "isinstance" = none
  int_ : mg "int" = none
  bool_ : mg "bool" = none
  list_ : mg "list" = none
  tuple_ : mg "tuple" = none
  len_ : mg "len" = none
  max_ : mg "max" = none
  min_ : mg "min" = none
  sorted_ : mg "sorted" = none
  range_ : mg "range" = none
  sum_ : mg "sum" = none
  all_ : mg "all" = none
  zip_ : mg "zip" = none
  set_ : mg "set" = none
/-! ### pairs -/
/-- at t a pair of two ints -/
def IsP (H : Hp) (x : V) (p : Int × Int) : Prop := ∃ t, x = .ref t ∧ H t = some (.tup [.int p.1, .int p.2])
abbrev PL (H : Hp) (xs : List V) (ps : List (Int × Int)) : Prop := Paired (IsP H) xs ps
theorem IsP.same {H H' : Hp} (e : Same H H') {x : V} {p : Int × Int} (h : IsP H x p) : IsP H' x p := let ⟨t, a, b⟩ := h; ⟨t, a, e _ _ b⟩
theorem PL.same {H H' : Hp} (e : Same H H') {xs : List V} {ps : List (Int × Int)} (h : PL H xs ps) : PL H' xs ps := Paired.mapP h fun _ _ => IsP.same e
theorem PL.append {H : Hp} : ∀ {xs ys : List V} {ps qs : List (Int × Int)}, PL H xs ps → PL H ys qs → PL H (xs ++ ys) (ps ++ qs)
  | _, _, _, _, .nil, h => h
  | _, _, _, _, .cons a t, h => .cons a (PL.append t h)
theorem PL.reverse {H : Hp} : ∀ {xs : List V} {ps : List (Int × Int)}, PL H xs ps → PL H xs.reverse ps.reverse
  | _, _, .nil => .nil
  | _, _, .cons a t => by
    rw [List.reverse_cons, List.reverse_cons]
    exact PL.append (PL.reverse t) (.cons a .nil)
theorem PL.get {H : Hp} : ∀ {xs : List V} {ps : List (Int × Int)} {i : Nat} {x : V}, PL H xs ps → xs[i]? = some x → ∃ p, ps[i]? = some p ∧ IsP H x p
  | _, _, i, _, .nil, e => by simp at e
  | _, _, 0, _, .cons a t, e => by simp at e; subst e; exact ⟨_, rfl, a⟩
  | _, _, i + 1, x, .cons a t, e => by
    obtain ⟨p, h1, h2⟩ := PL.get (i := i) (x := x) t (by simpa using e)
    exact ⟨p, by simpa using h1, h2⟩
/-- at a a list of pairs, a thing of the program's own -/
def LP (H : Hp) (a : Addr) (ps : List (Int × Int)) : Prop := ∃ xs, H a = some (.lst xs) ∧ PL H xs ps
theorem LP.same {H H' : Hp} (e : Same H H') {a : Addr} {ps : List (Int × Int)} (h : LP H a ps) : LP H' a ps := let ⟨xs, h1, h2⟩ := h; ⟨xs, e _ _ h1, h2.same e⟩
theorem Same.new {H : Hp} {p : Addr} {o : HO} (h : H p = none) : Same H (upd H p o) := fun a u e => by
  rw [upd_ne (ne_of_none e h)]
  exact e
/-- an object that H does not know may change -/
theorem Same.mut {H H' : Hp} {p : Addr} {o : HO} (e : Same H H') (h : H p = none) : Same H (upd H' p o) := fun a u ha => by
  rw [upd_ne (ne_of_none ha h)]
  exact e a u ha
theorem ne_new {H : Hp} {p q : Addr} (h : H p = none) (h' : H q ≠ none) : q ≠ p := fun e => h' (e ▸ h)
/-! ### sorted, of pairs -/
def keyOf (H : Hp) : V → Int × Int
  | .ref t => match H t with
    | some (.tup [.int a, .int b]) => (a, b)
    | _ => (0, 0)
  | _ => (0, 0)
theorem IsP.key {H : Hp} {x : V} {p : Int × Int} (h : IsP H x p) : keyOf H x = p := by
  obtain ⟨t, rfl, h⟩ := h
  unfold keyOf
  simp only [h]
theorem PL.keys {H : Hp} : ∀ {xs : List V} {ps : List (Int × Int)}, PL H xs ps → xs.map (keyOf H) = ps
  | _, _, .nil => rfl
  | _, _, .cons a t => by rw [List.map_cons, a.key, PL.keys t]
theorem PL.mem {H : Hp} : ∀ {xs : List V} {ps : List (Int × Int)}, PL H xs ps → ∀ x ∈ xs, IsP H x (keyOf H x)
  | _, _, .nil, _, h => nomatch h
  | _, _, .cons a t, x, h => by
    rcases List.mem_cons.mp h with e | h
    · subst e; rw [a.key]; exact a
    · exact PL.mem t x h
theorem PL.of_keys {H : Hp} : ∀ {ys : List V}, (∀ x ∈ ys, IsP H x (keyOf H x)) → PL H ys (ys.map (keyOf H))
  | [], _ => .nil
  | y :: r, h => .cons (h y List.mem_cons_self) (PL.of_keys fun x hx => h x (List.mem_cons_of_mem _ hx))
theorem srt_facts {H : Hp} {xs ys : List V} {ps : List (Int × Int)} (hp : PL H xs ps) (h1 : SrtO.Srtd (ltP (keyOf H)) ys) (h2 : SrtO.Stb (ltP (keyOf H)) ys xs) :
    ∃ qs, PL H ys qs ∧ (qs.Pairwise fun p q => ¬ Lt q p) ∧ qs.Perm ps := by
  have hm : ∀ x ∈ ys, IsP H x (keyOf H x) := fun x hx => hp.mem x (h2.perm.mem_iff.mp hx)
  refine ⟨ys.map (keyOf H), PL.of_keys hm, ?_, ?_⟩
  · refine List.pairwise_map.mpr (List.Pairwise.imp (fun {x y} h => ?_) h1)
    have h' := SrtO.lexB_no.mp h
    unfold Lt
    omega
  · rw [← hp.keys]
    exact h2.perm.map _
theorem rd_sorted {K : PySem.W.Frag} {H : Hp} {a : Addr} {xs : List V} {ps : List (Int × Int)} {Q : VK} (hs : SqL K H a xs) (hp : PL H xs ps)
    (q : ∀ ys qs p, PL H ys qs → (qs.Pairwise fun p q => ¬ Lt q p) → qs.Perm ps → H p = none → Q (.ref p) (upd H p (.lst ys))) : rSortedPO K [.ref a] H Q := by
  refine ⟨a, xs, keyOf H, rfl, hs, fun x hx => hp.mem x hx, fun ys p h1 h2 hn => ?_⟩
  obtain ⟨qs, a, b, c⟩ := srt_facts hp h1 h2
  exact q ys qs p a b c hn
/-! ### data -/
def dat (ps : List (Int × Int)) : List PyData := ps.map fun p => PyData.tuple [.int p.1, .int p.2]
theorem PL.dat {K : PySem.W.Frag} {H : Hp} : ∀ {xs : List V} {ps : List (Int × Int)}, PL H xs ps → DpAll K H xs (NB.dat ps)
  | _, _, .nil => .nil
  | _, _, .cons a t => by
    obtain ⟨t1, e, h⟩ := a
    subst e
    exact .cons (.tup (SqT.of h) (.cons (.int _) (.cons (.int _) .nil))) (PL.dat t)
theorem LP.dat {K : PySem.W.Frag} {H : Hp} {a : Addr} {ps : List (Int × Int)} (h : LP H a ps) : Dp K H (.ref a) (.list (NB.dat ps)) :=
  let ⟨_, h1, h2⟩ := h
  .lst (SqL.of h1) h2.dat
theorem eqv_dat : ∀ ps qs : List (Int × Int), PyData.eqvAll (dat ps) (dat qs) = decide (ps = qs)
  | [], [] => by simp [dat, PyData.eqvAll]
  | [], q :: r => by simp [dat, PyData.eqvAll]
  | p :: r, [] => by simp [dat, PyData.eqvAll]
  | (a, b) :: r, (c, d) :: r' => by
    have ih := eqv_dat r r'
    unfold dat at *
    rw [List.map_cons, List.map_cons, PyData.eqvAll, ih, PyData.eqv, PyData.eqvAll, PyData.eqvAll, PyData.eqvAll, PyData.eqv, PyData.eqv]
    by_cases e1 : a = c <;> by_cases e2 : b = d <;> by_cases e3 : r = r' <;> simp [e1, e2, e3]
theorem lay_dat : ∀ ps : List (Int × Int), PyData.canLayAll0 (dat ps) = true
  | [] => rfl
  | (a, b) :: r => by
    have ih := lay_dat r
    unfold dat at *
    rw [List.map_cons, PyData.canLayAll0, ih]
    rfl
theorem dep_dat : ∀ ps : List (Int × Int), PyData.depthAll (dat ps) ≤ 2
  | [] => by decide
  | (a, b) :: r => by
    have ih := dep_dat r
    unfold dat at *
    rw [List.map_cons]
    simp only [PyData.depthAll, PyData.depth] at *
    omega
theorem shaped_dat (ps : List (Int × Int)) : SeqAt.shaped (.list (dat ps)) = true := by
  have h1 := lay_dat ps
  have h2 := dep_dat ps
  unfold SeqAt.shaped
  rw [Bool.and_eq_true]
  refine ⟨?_, ?_⟩
  · simp only [PyData.canLay0]; exact h1
  · refine decide_eq_true ?_
    simp only [PyData.depth]
    omega
theorem rd_eq {K : PySem.W.Frag} {H : Hp} {a b : Addr} {ps qs : List (Int × Int)} {Q : VK} (h1 : LP H a ps) (h2 : LP H b qs) (q : Q (.bl (decide (ps = qs))) H) : rEqD K (.ref a) (.ref b) H Q :=
  ⟨_, _, h1.dat, h2.dat, shaped_dat ps, shaped_dat qs, by rw [PyData.eqv, eqv_dat]; exact q⟩
theorem rd_ne {K : PySem.W.Frag} {H : Hp} {a b : Addr} {ps qs : List (Int × Int)} {Q : VK} (h1 : LP H a ps) (h2 : LP H b qs) (q : Q (.bl (!decide (ps = qs))) H) : rNeD K (.ref a) (.ref b) H Q :=
  ⟨_, _, h1.dat, h2.dat, shaped_dat ps, shaped_dat qs, by rw [PyData.eqv, eqv_dat]; exact q⟩
theorem IsP.dat {K : PySem.W.Frag} {H : Hp} {x : V} {p : Int × Int} (h : IsP H x p) : Dp K H x (.tuple [.int p.1, .int p.2]) := by
  obtain ⟨t, e, h⟩ := h
  subst e
  exact .tup (SqT.of h) (.cons (.int _) (.cons (.int _) .nil))
theorem shaped_p (p : Int × Int) : SeqAt.shaped (.tuple [.int p.1, .int p.2]) = true := by
  obtain ⟨a, b⟩ := p
  simp [SeqAt.shaped, PyData.canLay0, PyData.canLayAll0, PyData.depth, PyData.depthAll]
theorem eqv_p (p q : Int × Int) : PyData.eqv (.tuple [.int p.1, .int p.2]) (.tuple [.int q.1, .int q.2]) = decide (p = q) := by
  obtain ⟨a, b⟩ := p
  obtain ⟨c, d⟩ := q
  rw [PyData.eqv, PyData.eqvAll, PyData.eqvAll, PyData.eqvAll, PyData.eqv, PyData.eqv]
  by_cases e1 : a = c <;> by_cases e2 : b = d <;> simp [e1, e2]
theorem rd_eqP {K : PySem.W.Frag} {H : Hp} {x y : V} {p q : Int × Int} {Q : VK} (h1 : IsP H x p) (h2 : IsP H y q) (h : Q (.bl (decide (p = q))) H) : rEqD K x y H Q :=
  ⟨_, _, h1.dat, h2.dat, shaped_p p, shaped_p q, by rw [eqv_p]; exact h⟩
theorem rd_neP {K : PySem.W.Frag} {H : Hp} {x y : V} {p q : Int × Int} {Q : VK} (h1 : IsP H x p) (h2 : IsP H y q) (h : Q (.bl (!decide (p = q))) H) : rNeD K x y H Q :=
  ⟨_, _, h1.dat, h2.dat, shaped_p p, shaped_p q, by rw [eqv_p]; exact h⟩
/-- a pair or None -/
def IsO (H : Hp) (x : V) : Option (Int × Int) → Prop
  | none => x = .non
  | some p => IsP H x p
def datO : Option (Int × Int) → PyData
  | none => .none
  | some p => .tuple [.int p.1, .int p.2]
theorem IsO.same {H H' : Hp} (e : Same H H') {x : V} : ∀ {o : Option (Int × Int)}, IsO H x o → IsO H' x o
  | none, h => h
  | some _, h => IsP.same e h
theorem IsO.dat {K : PySem.W.Frag} {H : Hp} {x : V} : ∀ {o : Option (Int × Int)}, IsO H x o → Dp K H x (datO o)
  | none, h => by
    cases (show x = .non from h)
    exact .non
  | some _, h => IsP.dat h
theorem shaped_o : ∀ o : Option (Int × Int), SeqAt.shaped (datO o) = true
  | none => by decide
  | some p => shaped_p p
theorem eqv_o : ∀ o u : Option (Int × Int), PyData.eqv (datO o) (datO u) = decide (o = u)
  | none, none => rfl
  | none, some p => by simp [datO, PyData.eqv]
  | some p, none => by simp [datO, PyData.eqv]
  | some p, some q => by
    show PyData.eqv (.tuple [.int p.1, .int p.2]) (.tuple [.int q.1, .int q.2]) = _
    rw [eqv_p]
    simp
theorem rd_eqO {K : PySem.W.Frag} {H : Hp} {x y : V} {p q : Option (Int × Int)} {Q : VK} (h1 : IsO H x p) (h2 : IsO H y q) (h : Q (.bl (decide (p = q))) H) : rEqD K x y H Q :=
  ⟨_, _, h1.dat, h2.dat, shaped_o p, shaped_o q, by rw [eqv_o]; exact h⟩
theorem rd_neO {K : PySem.W.Frag} {H : Hp} {x y : V} {p q : Option (Int × Int)} {Q : VK} (h1 : IsO H x p) (h2 : IsO H y q) (h : Q (.bl (!decide (p = q))) H) : rNeD K x y H Q :=
  ⟨_, _, h1.dat, h2.dat, shaped_o p, shaped_o q, by rw [eqv_o]; exact h⟩
/-! ### isinstance of an int -/
theorem rd_isi_int {K : PySem.W.Frag} {H : Hp} {i : Int} {T : String} {b : Bool} {Q : VK} (h : kitB "int" T = some b) (q : Q (.bl b) H) : rIsi K [.int i, .ty T] H Q :=
  ⟨_, _, _, _, b, rfl, .ty T, .base (.int i), kit_ty h, q⟩
theorem rd_isi_lst {K : PySem.W.Frag} {H : Hp} {a : Addr} {xs : List V} {T : String} {b : Bool} {Q : VK} (e : H a = some (.lst xs)) (h : kitB "list" T = some b) (q : Q (.bl b) H) : rIsi K [.ref a, .ty T] H Q :=
  ⟨_, _, _, _, b, rfl, .ty T, .base (.lst e), kit_ty h, q⟩
theorem rd_isi_tup {K : PySem.W.Frag} {H : Hp} {a : Addr} {xs : List V} {T : String} {b : Bool} {Q : VK} (e : H a = some (.tup xs)) (h : kitB "tuple" T = some b) (q : Q (.bl b) H) : rIsi K [.ref a, .ty T] H Q :=
  ⟨_, _, _, _, b, rfl, .ty T, .base (.tup e), kit_ty h, q⟩
theorem ib_of {i : Int} {m : Nat} (h : i.natAbs < 2 ^ m) : ib i ≤ m := PySem.intBits_le_iff.mpr h
theorem itB {b : Bool} {A B : Prop} (hb : b = true) (h : A) : if b = true then A else B := by rw [if_pos hb]; exact h
theorem itN {b : Bool} {A B : Prop} (hb : b = false) (h : B) : if b = true then A else B := by rw [hb]; exact h
theorem iteNN {c A B : Prop} [Decidable c] (hc : ¬ c) (h : A) : if (!decide c) = true then A else B := by
  rw [decide_eq_false hc]
  exact h
theorem iteD {c A B : Prop} [Decidable c] (hc : c) (h : A) : if decide c = true then A else B := by
  rw [decide_eq_true hc]
  exact h
theorem iteDN {c A B : Prop} [Decidable c] (hc : ¬ c) (h : B) : if decide c = true then A else B := by
  rw [decide_eq_false hc]
  exact h
/-! ### a while, turns counted -/
theorem while_nat {c : TT} {tb : TS} {D : Ends} {σ : L2.St} {H : Hp} (M : Nat) (Pv : Nat → L2.St → Hp → Prop) (h0 : Pv 0 σ H)
    (hs : ∀ k m σ H, k + m = M → Pv k σ H → c σ H fun b H1 => if b = true then ∃ N : L2.St → Hp → Prop, (∀ σ' H', N σ' H' → ∃ m', m' < m ∧ ∃ k, k + m' = M ∧ Pv k σ' H') ∧ tb { D with nx := N, ct := N, bk := D.nx } σ H1 else D.nx σ H1) : tWhile c tb D σ H := by
  refine ⟨fun m σ H => ∃ k, k + m = M ∧ Pv k σ H, ⟨M, 0, Nat.zero_add _, h0⟩, ?_⟩
  rintro m σ H ⟨k, e, p⟩
  exact hs k m σ H e p
/-- one turn more -/
theorem turn_nat {M k m : Nat} (Pv : Nat → L2.St → Hp → Prop) (e : k + m = M) (h : k < M) : ∀ σ' H', Pv (k + 1) σ' H' → ∃ m', m' < m ∧ ∃ k, k + m' = M ∧ Pv k σ' H' := fun _ _ p => ⟨m - 1, by omega, k + 1, by omega, p⟩
theorem small1000' {n : Nat} (h : n ≤ 100000) : n < sizeLine := Nat.lt_of_le_of_lt h (by decide)
theorem tif_o {t : TT} {ta tb : TE} {σ : L2.St} {H : Hp} {Q : VK} {o : Option (Int × Int)} (b : Bool) (ht : ∀ Qt : Bool → Hp → Prop, Qt b H → t σ H Qt)
    (h1 : b = true → ∀ Qe : VK, (∀ x H', Same H H' → IsO H' x o → Qe x H') → ta σ H Qe) (h2 : b = false → ∀ Qe : VK, (∀ x H', Same H H' → IsO H' x o → Qe x H') → tb σ H Qe)
    (hq : ∀ x H', Same H H' → IsO H' x o → Q x H') : tIf t ta tb σ H Q := by
  refine ht _ ?_
  cases b with
  | true => exact h1 rfl Q hq
  | false => exact h2 rfl Q hq
/-! ### promises -/
/-- is_whole of an int -/
def spWhole : Sp := fun vs H Q _ => ∃ i : Int, vs = [.int i] ∧ Q (.bl true) H
def spCheck : Sp := fun vs H Q _ => ∃ i : Int, vs = [.int i] ∧ 1 ≤ i ∧ i ≤ 1000000 ∧ Q .non H
def spParts : Sp := fun vs H Q _ => ∃ n : Int, vs = [.int n] ∧ 0 < n ∧ n ≤ 2000000 ∧ ∀ (ds : List Int) p H', Parts n ds → ds.length ≤ 3000 → Same H H' → H p = none → H' p = some (.lst (ds.map V.int)) → Q (.ref p) H'
def spRow : Sp := fun vs H Q _ => ∃ n L : Int, vs = [.int n, .int L] ∧ 1 ≤ n ∧ n ≤ 1000000 ∧ 1 ≤ L ∧ ib L ≤ 2000000 ∧ ∀ x H', Same H H' → IsO H' x (rowOf n L) → Q x H'
def spRows : Sp := fun vs H Q _ => ∃ n : Int, vs = [.int n] ∧ 1 ≤ n ∧ n ≤ 1000000 ∧ ∀ ps p H', Rows n ps → ps.length ≤ 3000 → Same H H' → H p = none → LP H' p ps → Q (.ref p) H'
def spHigh : Sp := fun vs H Q _ => ∃ n : Int, vs = [.int n] ∧ 1 ≤ n ∧ n ≤ 1000000 ∧ ∀ ps p H', HRows n ps → ps.length ≤ 3000 → Same H H' → H p = none → LP H' p ps → Q (.ref p) H'
/-! ### the law's helpers -/
def Bits (ns : List Int) : Prop := ∀ z ∈ ns, ib z ≤ 1048576
def spCellAt (K : PySem.W.Frag) : Sp := fun vs H Q _ => ∃ (a : Addr) (ns : List Int) (k : Int), vs = [.ref a, .int k] ∧ SqL K H a (ns.map V.int) ∧ Bits ns ∧ 0 ≤ k ∧ k < 2 ^ 62 ∧ ∀ c, ib c ≤ 1048576 → Q (.int c) H
def spDraw : Sp := fun vs H Q _ => ∃ c k m : Int, vs = [.int c, .int k, .int m] ∧ 0 ≤ k ∧ 0 < m ∧ ∀ r H', 0 ≤ r → r < m → Same H H' → Q (.int r) H'
def spValue : Sp := fun vs H Q _ => ∃ c t : Int, vs = [.int c, .int t] ∧ ib c ≤ 1048576 ∧ 0 ≤ t ∧ t ≤ 100 ∧ ∀ v H', 0 ≤ v → ib v ≤ 1048577 → Same H H' → Q (.int v) H'
def spNumber (K : PySem.W.Frag) : Sp := fun vs H Q _ => ∃ (a : Addr) (ns : List Int) (k : Int), vs = [.ref a, .int k] ∧ SqL K H a (ns.map V.int) ∧ Bits ns ∧ 0 ≤ k ∧ k < 2 ^ 62 ∧ ∀ n H', 1 ≤ n → n ≤ 1000000 → Same H H' → Q (.int n) H'
def primes : List Int := [1000003, 1000033, 1000037, 1000039, 1000081, 1000099, 1000117, 1000121, 1000133, 1000151, 1000159, 1000171, 1000183, 1000187, 1000193, 1000199]
theorem prime_at {i : Int} (h0 : 0 ≤ i) (h : i < 16) : ∃ p : Int, 0 < p ∧ atI (primes.map V.int) i = some (.int p) := by
  obtain ⟨j, rfl⟩ := Int.eq_ofNat_of_zero_le h0
  have hj : j < primes.length := by show j < 16; omega
  have hp : ∀ p ∈ primes, 0 < p := by decide
  refine ⟨primes[j], hp _ (List.getElem_mem hj), atI_nat ?_⟩
  rw [List.getElem?_map, List.getElem?_eq_getElem hj]
  rfl
theorem at_int {ns : List Int} {k : Int} (h0 : 0 ≤ k) (h : k < ns.length) : ∃ z ∈ ns, atI (ns.map V.int) k = some (.int z) := by
  obtain ⟨j, rfl⟩ := Int.eq_ofNat_of_zero_le h0
  have hj : j < ns.length := by omega
  refine ⟨ns[j], List.getElem_mem hj, atI_nat ?_⟩
  rw [List.getElem?_map, List.getElem?_eq_getElem hj]
  rfl
theorem ib_add {x y : Int} {m n : Nat} (hx : ib x ≤ m) (hy : ib y ≤ n) : ib (x + y) ≤ max m n + 1 := PySem.intBits_add_le hx hy
theorem ib_sub {x y : Int} {m n : Nat} (hx : ib x ≤ m) (hy : ib y ≤ n) : ib (x - y) ≤ max m n + 1 := PySem.intBits_sub_le hx hy
theorem ib_mul {x y : Int} {m n : Nat} (hx : ib x ≤ m) (hy : ib y ≤ n) : ib (x * y) ≤ m + n := PySem.intBits_mul_le hx hy
theorem mulx {x y : Int} {m n : Nat} (hx : ib x ≤ m) (hy : ib y ≤ n) (h : m + n ≤ 134217728) : CMulX x y := by
  show (ib x : Int) + (ib y : Int) ≤ 134217728
  omega
theorem cut_int (ns : List Int) (lo hi : Option Int) : ∃ ns' : List Int, cutV (ns.map V.int) lo hi = ns'.map V.int ∧ (∀ z ∈ ns', z ∈ ns) ∧ ns'.length ≤ ns.length := by
  refine ⟨(ns.drop (HT.sIx (ns.map V.int).length 0 lo)).take (HT.sIx (ns.map V.int).length (ns.map V.int).length hi - HT.sIx (ns.map V.int).length 0 lo), ?_, fun z hz => List.mem_of_mem_drop (List.mem_of_mem_take hz), ?_⟩
  · unfold cutV
    rw [List.map_take, List.map_drop]
  · rw [List.length_take, List.length_drop]
    omega
/-- the law's own loop: range(0, max(1, l), 1 + l // d) -/
theorem rg3 {l d : Nat} (hl : l ≤ 63) (hd : d = 3 ∨ d = 4 ∨ d = 6) : ∃ n : Nat, n ≤ 64 ∧ RgC 0 (if (l : Int) > 1 then (l : Int) else 1) (1 + (l : Int) / (d : Int)) n := by
  have key : ∀ d : Nat, d = 3 ∨ d = 4 ∨ d = 6 → ∀ l : Nat, l < 64 → (1 + (l : Int) / (d : Int)) ≠ 0 ∧ (1 + (l : Int) / (d : Int)).natAbs < 1073741824 ∧ Builtin.Range.small 0 (if (l : Int) > 1 then (l : Int) else 1) (1 + (l : Int) / (d : Int)) = true ∧ (Builtin.Range.rangeSize 0 (if (l : Int) > 1 then (l : Int) else 1) (1 + (l : Int) / (d : Int))).toNat ≤ 64 ∧ Builtin.Range.rangeSize 0 (if (l : Int) > 1 then (l : Int) else 1) (1 + (l : Int) / (d : Int)) = ((Builtin.Range.rangeSize 0 (if (l : Int) > 1 then (l : Int) else 1) (1 + (l : Int) / (d : Int))).toNat : Int) := by
    rintro d (rfl | rfl | rfl) <;> decide +kernel
  obtain ⟨h1, h2, h3, h4, h5⟩ := key d hd l (by omega)
  exact ⟨_, h4, h1, h2, h3, h5⟩
theorem by_ok {l d i n : Nat} (hl : l ≤ 63) (hd : d = 3 ∨ d = 4 ∨ d = 6) (hi : i < n) (hn : n ≤ 64) : 0 ≤ (0 : Int) + (i : Int) * (1 + (l : Int) / (d : Int)) ∧ (0 : Int) + (i : Int) * (1 + (l : Int) / (d : Int)) < 2 ^ 62 := by
  have hc : 0 ≤ (1 + (l : Int) / (d : Int)) ∧ (1 + (l : Int) / (d : Int)) ≤ 100 := by rcases hd with rfl | rfl | rfl <;> omega
  have h1 : (i : Int) * (1 + (l : Int) / (d : Int)) ≤ 64 * 100 := Int.mul_le_mul (by omega) hc.2 hc.1 (by decide)
  have h2 : 0 ≤ (i : Int) * (1 + (l : Int) / (d : Int)) := Int.mul_nonneg (by omega) hc.1
  omega
/-- a law's: a list of at most 63 ints is handed in, True comes out -/
def spLaw (K : PySem.W.Frag) : Sp := fun vs H Q _ => ∃ (a : Addr) (ns : List Int), vs = [.ref a] ∧ SqL K H a (ns.map V.int) ∧ ns.length ≤ 63 ∧ Bits ns ∧ ∀ H', Q (.bl true) H'
/-- a row's sum and length are small -/
theorem isRow_small {n f l : Int} (h1 : 1 ≤ n) (h2 : n ≤ 1000000) (h : IsRow n f l) : 0 < f + l ∧ f + l ≤ 2000000 ∧ 0 < l - f + 1 ∧ l - f + 1 ≤ 2000000 := by
  obtain ⟨a, b⟩ := h
  have hL : 0 < l - f + 1 := by omega
  have hs : 0 < f + l := Int.pos_of_mul_pos_left (b := l - f + 1) (by omega) (by omega)
  have d1 : f + l ≤ 2 * n := Int.le_of_dvd (show 0 < 2 * n by omega) ⟨_, b.symm⟩
  have d2 : l - f + 1 ≤ 2 * n := Int.le_of_dvd (show 0 < 2 * n by omega) ⟨f + l, by rw [Int.mul_comm (l - f + 1)]; exact b.symm⟩
  omega
theorem hr15 : HRows 15 [(1, 5), (4, 6), (7, 8), (15, 15)] := acc_rows (n := 15) (K := 5) (by decide) (by decide)
theorem hr2 : HRows 2 [(2, 2)] := acc_rows (n := 2) (K := 1) (by decide) (by decide)
theorem r2 : Rows 2 [(-1, 2), (2, 2)] := Rows.of_high (by decide) hr2 (by decide) fun x => by
  show x ∈ [((-1, 2) : Int × Int), (2, 2)] ↔ x ∈ [((2, 2) : Int × Int), (-1, 2)]
  rw [List.mem_cons, List.mem_cons, List.mem_cons, List.mem_cons]
  simp only [List.not_mem_nil, or_false]
  exact or_comm
end NB

set_option Elab.async false
set_option maxRecDepth 100000
set_option maxHeartbeats 4000000
/-! Comprehensions over a list of pairs; rows or None. -/
namespace NB
open PySem L2
abbrev gPair (K : PySem.W.Frag) (i j : Nat) : TG := gTup K 2 (gCons (gName i) (gCons (gName j) gNil))
/-- [an int of f, l for f, l in pairs] -/
theorem lc_ints {K : PySem.W.Frag} {a : Addr} {xs : List V} {ps : List (Int × Int)} {te : TE} {vs : List Nat} {σ : L2.St} {H1 : Hp} {D : Addr} {Qd : Hp → Prop} {i j : Nat} (g : H1 a = some (.lst xs)) (gx : PL H1 xs ps) (nD : H1 D = none) (F : Int × Int → Int) (hz : ps.length ≤ 90000)
    (hw : ∀ v u : V, wipe (((wipe σ vs).set i (some v)).set j (some u)) vs = wipe σ vs)
    (he : ∀ p ∈ ps, ∀ (H' : Hp) (Qc : VK), Qc (.int (F p)) H' → te (((wipe σ vs).set i (some (.int p.1))).set j (some (.int p.2))) H' Qc)
    (hd : ∀ H', Same H1 H' → H' D = some (.lst ((ps.map F).map V.int)) → Qd H') :
    ∃ W : Nat → Nat → Hp → Prop, (∃ m, W 0 m (upd H1 D (.lst []))) ∧ ∀ k m H, W k m H →
      ((Itl K a).stop k H ∧ Qd H) ∨ ((Itl K a).go k H ∧ ∃ Nx : Hp → Prop, (∀ H', Nx H' → ∃ m', m' < m ∧ W (k + 1) m' H') ∧ ∀ x H', (Itl K a).yld k H x H' → gPair K i j x (wipe σ vs) H' fun σ2 H2 => wipe σ2 vs = wipe σ vs ∧ tYes σ2 H2 fun b H3 =>
        if b = true then te σ2 H3 fun y H4 => ∃ acc, H4 D = some (.lst acc) ∧ acc.length < sizeLine ∧ Nx (upd H4 D (.lst (acc ++ [y]))) else Nx H3) := by
  have naD : a ≠ D := ne_of_none g nD
  refine lc_list (xs := xs) (fun k H' => Same H1 H' ∧ H' D = some (.lst (((ps.take k).map F).map V.int))) ⟨Same.new nD, upd_same⟩ ?_ ?_ ?_
  · rintro k H' _ ⟨hS, _⟩
    exact SqL.of (hS _ _ g)
  · rintro k x H' hx ⟨hS, gD⟩
    obtain ⟨⟨f, l⟩, hpk, t, rfl, ht⟩ := gx.get hx
    have hk : k < xs.length := (List.getElem?_eq_some_iff.mp hx).1
    have hll := gx.length
    have htk : ps.take (k + 1) = ps.take k ++ [(f, l)] := by rw [List.take_add_one, hpk]; rfl
    refine ⟨t, _, rfl, SqT.of (hS _ _ ht), rfl, _, _, rfl, _, _, rfl, rfl, hw _ _, ?_⟩
    refine he (f, l) (List.mem_of_getElem? hpk) H' _ ⟨_, gD, small1000' ?_, Same.mut hS nD, ?_⟩
    · rw [List.length_map, List.length_map, List.length_take]
      omega
    · rw [upd_same, htk, List.map_append, List.map_append]
      rfl
  · rintro H' ⟨hS, gD⟩
    rw [gx.length, List.take_length] at gD
    exact hd H' hS gD
/-- [a pair of f, l for f, l in pairs] -/
theorem lc_prs {K : PySem.W.Frag} {a : Addr} {xs : List V} {ps : List (Int × Int)} {te : TE} {vs : List Nat} {σ : L2.St} {H1 : Hp} {D : Addr} {Qd : Hp → Prop} {i j : Nat} (g : H1 a = some (.lst xs)) (gx : PL H1 xs ps) (nD : H1 D = none) (F : Int × Int → Int × Int) (hz : ps.length ≤ 90000)
    (hw : ∀ v u : V, wipe (((wipe σ vs).set i (some v)).set j (some u)) vs = wipe σ vs)
    (he : ∀ p ∈ ps, ∀ (H' : Hp) (Qc : VK), (∀ t, H' t = none → Qc (.ref t) (upd H' t (.tup [.int (F p).1, .int (F p).2]))) → te (((wipe σ vs).set i (some (.int p.1))).set j (some (.int p.2))) H' Qc)
    (hd : ∀ H', Same H1 H' → LP H' D (ps.map F) → Qd H') :
    ∃ W : Nat → Nat → Hp → Prop, (∃ m, W 0 m (upd H1 D (.lst []))) ∧ ∀ k m H, W k m H →
      ((Itl K a).stop k H ∧ Qd H) ∨ ((Itl K a).go k H ∧ ∃ Nx : Hp → Prop, (∀ H', Nx H' → ∃ m', m' < m ∧ W (k + 1) m' H') ∧ ∀ x H', (Itl K a).yld k H x H' → gPair K i j x (wipe σ vs) H' fun σ2 H2 => wipe σ2 vs = wipe σ vs ∧ tYes σ2 H2 fun b H3 =>
        if b = true then te σ2 H3 fun y H4 => ∃ acc, H4 D = some (.lst acc) ∧ acc.length < sizeLine ∧ Nx (upd H4 D (.lst (acc ++ [y]))) else Nx H3) := by
  have naD : a ≠ D := ne_of_none g nD
  refine lc_list (xs := xs) (fun k H' => Same H1 H' ∧ ∃ acc, H' D = some (.lst acc) ∧ PL H' acc ((ps.take k).map F)) ⟨Same.new nD, _, upd_same, .nil⟩ ?_ ?_ ?_
  · rintro k H' _ ⟨hS, _⟩
    exact SqL.of (hS _ _ g)
  · rintro k x H' hx ⟨hS, acc, gD, ga⟩
    obtain ⟨⟨f, l⟩, hpk, t, rfl, ht⟩ := gx.get hx
    have hk : k < xs.length := (List.getElem?_eq_some_iff.mp hx).1
    have hll := gx.length
    have htk : ps.take (k + 1) = ps.take k ++ [(f, l)] := by rw [List.take_add_one, hpk]; rfl
    refine ⟨t, _, rfl, SqT.of (hS _ _ ht), rfl, _, _, rfl, _, _, rfl, rfl, hw _ _, ?_⟩
    refine he (f, l) (List.mem_of_getElem? hpk) H' _ fun u nu => ?_
    have gD' : upd H' u (.tup [.int (F (f, l)).1, .int (F (f, l)).2]) D = some (.lst acc) := by rw [upd_ne (ne_of_none gD nu)]; exact gD
    have same : ∀ o x q, IsP (upd H' u (.tup [.int (F (f, l)).1, .int (F (f, l)).2])) x q → IsP (upd (upd H' u (.tup [.int (F (f, l)).1, .int (F (f, l)).2])) D (.lst o)) x q := fun o x q ⟨t, e, h⟩ => ⟨t, e, by rw [upd_ne (ne_of h gD' (fun z => nomatch z))]; exact h⟩
    refine ⟨acc, gD', small1000' ?_, Same.mut (hS.trans (Same.new nu)) nD, _, upd_same, ?_⟩
    · have := ga.length
      rw [List.length_map, List.length_take] at this
      omega
    · rw [htk, List.map_append]
      exact PL.append (Paired.mapP (ga.same (Same.new nu)) (same _)) (.cons (same _ _ _ ⟨u, rfl, upd_same⟩) .nil)
  · rintro H' ⟨hS, acc, gD, ga⟩
    rw [gx.length, List.take_length] at ga
    exact hd H' hS ⟨acc, gD, ga⟩
/-- the longest high row: the first -/
def spLongest : Sp := fun vs H Q _ => ∃ n : Int, vs = [.int n] ∧ 1 ≤ n ∧ n ≤ 1000000 ∧ ∀ p ps x H', HRows n (p :: ps) → Same H H' → IsP H' x p → Q x H'
theorem HRows.one {n : Int} (hn : 1 ≤ n) {ps : List (Int × Int)} (h : HRows n ps) : (n, n) ∈ ps := (h.mem n n).mpr ⟨⟨Int.le_refl _, by rw [Int.sub_self, Int.zero_add, Int.mul_one]; omega⟩, by omega⟩
theorem HRows.ne {n : Int} (hn : 1 ≤ n) {ps : List (Int × Int)} (h : HRows n ps) : ∃ p qs, ps = p :: qs := by
  have := h.one hn
  cases ps with
  | nil => cases this
  | cons p qs => exact ⟨p, qs, rfl⟩
end NB

set_option Elab.async false
set_option maxRecDepth 100000
set_option maxHeartbeats 4000000
/-! Answers: instances of Sum and Power. -/
namespace NB
open PySem L2
/-- an own class, as the top has made it -/
structure ClsF (K : PySem.W.Frag) (mg : Str → Option Value) (x : Str) (C : Addr) : Prop where
  m : mg x = some (.ref C)
  cl : Cls K C
  ha : PySem.W.findIn K (.ref C) "__class__" = some (some (.builtin "object.__class__"))
  hn : PySem.W.specialIn K (.builtin "object.__class__") "__get__" = some (some (.builtin "getset_descriptor.__get__"))
  htk : PySem.W.takesIn K (.builtin "object.__class__") = some true
  hm : PySem.W.mroIn K C (.type "object") = some true
/-- it can be made, by its __init__ -/
def Makes (P : Program) (w : World) (K : PySem.W.Frag) (mg : Str → Option Value) (base : Heap) (C : Addr) (ps : List Str) (sp : Sp) : Prop :=
  ∃ f fd, Mk K C f ∧ Binds K fd ps [] ∧ FnOk P w K mg base CX0 1 f fd ps sp
/-- it has a method -/
def HasM (P : Program) (w : World) (K : PySem.W.Frag) (mg : Str → Option Value) (base : Heap) (C : Addr) (m : Str) (ps : List Str) (sp : Sp) : Prop :=
  ∃ f fd, Meth K C m f ∧ Binds K fd ps [] ∧ FnOk P w K mg base CX0 1 f fd ps sp
theorem k_fl : ¬ (("first" : Str) = "last") := by decide +kernel
def sumF (f l : Int) : List (Str × V) := putF "last" (.int l) (putF "first" (.int f) [])
def powF (o : Int) : List (Str × V) := putF "often" (.int o) []
theorem sumF_first (f l : Int) : (sumF f l).lookup ("first" : Str) = some (.int f) := by
  unfold sumF
  rw [lookup_putF, if_neg k_fl, lookup_putF, if_pos rfl]
theorem sumF_last (f l : Int) : (sumF f l).lookup ("last" : Str) = some (.int l) := by
  unfold sumF
  rw [lookup_putF, if_pos rfl]
theorem powF_often (o : Int) : (powF o).lookup ("often" : Str) = some (.int o) := by
  unfold powF
  rw [lookup_putF, if_pos rfl]
theorem sumF_shows (f l : Int) : (sumF f l).lookup ("shows" : Str) = none := by
  unfold sumF
  rw [lookup_putF, if_neg (by decide +kernel), lookup_putF, if_neg (by decide +kernel)]
  all_goals rfl
theorem powF_shows (o : Int) : (powF o).lookup ("shows" : Str) = none := by
  unfold powF
  rw [lookup_putF, if_neg (by decide +kernel)]
  all_goals rfl
def SumAt (C : Addr) (H : Hp) (a : Addr) (f l : Int) : Prop := ∃ dx, H a = some (.ins C dx (sumF f l))
def PowAt (C : Addr) (H : Hp) (a : Addr) (o : Int) : Prop := ∃ dx, H a = some (.ins C dx (powF o))
theorem SumAt.same {C : Addr} {H H' : Hp} {a : Addr} {f l : Int} (e : Same H H') (h : SumAt C H a f l) : SumAt C H' a f l := let ⟨dx, h⟩ := h; ⟨dx, e _ _ h⟩
theorem PowAt.same {C : Addr} {H H' : Hp} {a : Addr} {o : Int} (e : Same H H') (h : PowAt C H a o) : PowAt C H' a o := let ⟨dx, h⟩ := h; ⟨dx, e _ _ h⟩
/-- the sum's word, by its own reckoning -/
def sumSays (f l n : Int) : Bool := decide (0 < f ∧ f < l ∧ (f + l) * (l - f + 1) = 2 * n)
def powSays (o n : Int) (m : Int) : Bool := decide (0 ≤ o ∧ o < m ∧ (2 : Int) ^ o.toNat = n)
def spSumInit (C : Addr) : Sp := fun vs H Q _ => ∃ (p dx : Addr) (f l : Int), vs = [.ref p, .int f, .int l] ∧ H p = some (.ins C dx []) ∧ ∀ H' : Hp, SumAt C H' p f l → (∀ b o, H b = some o → b ≠ p → H' b = some o) → Q .non H'
def spPowInit (C : Addr) : Sp := fun vs H Q _ => ∃ (p dx : Addr) (o : Int), vs = [.ref p, .int o] ∧ H p = some (.ins C dx []) ∧ ∀ H' : Hp, PowAt C H' p o → (∀ b o, H b = some o → b ≠ p → H' b = some o) → Q .non H'
def spSumShows (C : Addr) : Sp := fun vs H Q _ => ∃ (a : Addr) (f l n : Int), vs = [.ref a, .int n] ∧ SumAt C H a f l ∧ ib f ≤ 1000 ∧ ib l ≤ 1000 ∧ Q (.bl (sumSays f l n)) H
def spPowShows (C : Addr) : Sp := fun vs H Q _ => ∃ (a : Addr) (o n : Int), vs = [.ref a, .int n] ∧ PowAt C H a o ∧ Q (.bl (powSays o n 40)) H
/-- what judged hands back: the row of that length, or the power -/
def spJudged (CS CP : Addr) : Sp := fun vs H Q _ => ∃ n : Int, vs = [.int n] ∧ 1 ≤ n ∧ n ≤ 1000000 ∧
  (∀ (e : Nat) (o f l : Int) x H', n = 2 ^ e * o → o % 2 = 1 → 3 ≤ o → rowOf n (jlen e o) = some (f, l) → IsRow n f l → 0 < f → f < l → Same H H' → SumAt CS H' x f l → Q (.ref x) H') ∧
  (∀ (e : Nat) x H', n = 2 ^ e → e < 20 → Same H H' → PowAt CP H' x (e : Int) → Q (.ref x) H')
/-- a written chain and an and, of numbers -/
theorem sum_chain {f l n : Int} {Q : VK} {H : Hp} (h : Q (.bl (sumSays f l n)) H) :
    if decide (0 < f) = true then (∃ i j, V.int f = .int i ∧ V.int l = .int j ∧ Q (.bl (decide (i < j) && decide ((f + l) * (l - f + 1) = 2 * n))) H) else Q (.bl false) H := by
  unfold sumSays at h
  by_cases h0 : 0 < f
  · rw [if_pos (decide_eq_true h0)]
    refine ⟨f, l, rfl, rfl, ?_⟩
    have e : (decide (f < l) && decide ((f + l) * (l - f + 1) = 2 * n)) = decide (0 < f ∧ f < l ∧ (f + l) * (l - f + 1) = 2 * n) := by
      by_cases h1 : f < l <;> by_cases h2 : (f + l) * (l - f + 1) = 2 * n <;> simp [h0, h1, h2]
    rw [e]
    exact h
  · rw [if_neg (by simpa using h0)]
    have e : decide (0 < f ∧ f < l ∧ (f + l) * (l - f + 1) = 2 * n) = false := decide_eq_false fun x => h0 x.1
    rw [e] at h
    exact h
/-- isinstance of these classes -/
structure Kit (K : PySem.W.Frag) (CA CS CP : Addr) : Prop where
  sa : PySem.W.kitOne K (.ref CS) (.ref CA) = some true
  pa : PySem.W.kitOne K (.ref CP) (.ref CA) = some true
  ss : PySem.W.kitOne K (.ref CS) (.ref CS) = some true
  sp : PySem.W.kitOne K (.ref CS) (.ref CP) = some false
  ps : PySem.W.kitOne K (.ref CP) (.ref CS) = some false
  pp : PySem.W.kitOne K (.ref CP) (.ref CP) = some true
theorem ClsF.ty {K : PySem.W.Frag} {mg : Str → Option Value} {x : Str} {C : Addr} (c : ClsF K mg x C) {H : Hp} {a dx : Addr} {fs : List (Str × V)} (h : H a = some (.ins C dx fs)) : TyX K H (.ref a) (.ref C) := .base (.ins h c.cl c.ha c.hn c.htk c.hm)
/-- [True for each int] -/
theorem lc_true {K : PySem.W.Frag} {a : Addr} {xs : List V} {te : TE} {vs : List Nat} {σ : L2.St} {H1 : Hp} {D : Addr} {Qd : Hp → Prop} {j : Nat} (g : H1 a = some (.lst xs)) (nD : H1 D = none) (hx : ∀ x ∈ xs, ∃ i, x = V.int i) (hz : xs.length ≤ 90000)
    (hw : ∀ v : V, wipe ((wipe σ vs).set j (some v)) vs = wipe σ vs)
    (he : ∀ (i : Int) (H' : Hp) (Qc : VK), Qc (.bl true) H' → te ((wipe σ vs).set j (some (.int i))) H' Qc)
    (hd : ∀ H', Same H1 H' → H' D = some (.lst ((List.replicate xs.length true).map V.bl)) → Qd H') :
    ∃ W : Nat → Nat → Hp → Prop, (∃ m, W 0 m (upd H1 D (.lst []))) ∧ ∀ k m H, W k m H →
      ((Itl K a).stop k H ∧ Qd H) ∨ ((Itl K a).go k H ∧ ∃ Nx : Hp → Prop, (∀ H', Nx H' → ∃ m', m' < m ∧ W (k + 1) m' H') ∧ ∀ x H', (Itl K a).yld k H x H' → gName j x (wipe σ vs) H' fun σ2 H2 => wipe σ2 vs = wipe σ vs ∧ tYes σ2 H2 fun b H3 =>
        if b = true then te σ2 H3 fun y H4 => ∃ acc, H4 D = some (.lst acc) ∧ acc.length < sizeLine ∧ Nx (upd H4 D (.lst (acc ++ [y]))) else Nx H3) := by
  have naD : a ≠ D := ne_of_none g nD
  refine lc_list (xs := xs) (fun k H' => Same H1 H' ∧ H' D = some (.lst ((List.replicate k true).map V.bl))) ⟨Same.new nD, upd_same⟩ ?_ ?_ ?_
  · rintro k H' _ ⟨hS, _⟩
    exact SqL.of (hS _ _ g)
  · rintro k x H' hk ⟨hS, gD⟩
    obtain ⟨i, rfl⟩ := hx x (List.mem_of_getElem? hk)
    have hk' : k < xs.length := (List.getElem?_eq_some_iff.mp hk).1
    refine ⟨hw _, ?_⟩
    refine he i H' _ ⟨_, gD, small1000' ?_, Same.mut hS nD, ?_⟩
    · rw [List.length_map, List.length_replicate]
      omega
    · rw [upd_same, List.replicate_succ', List.map_append]
      rfl
  · rintro H' ⟨hS, gD⟩
    exact hd H' hS gD
def spSays : Sp := fun vs H Q _ => ∃ a b : Bool, vs = [.bl a, .bl b] ∧ Q (.bl (decide (a = b))) H
def spDue (CS CP : Addr) : Sp := fun vs H Q _ => (∃ (a : Addr) (f l n : Int), vs = [.int n, .ref a] ∧ SumAt CS H a f l ∧ ib f ≤ 1000 ∧ ib l ≤ 1000 ∧ Q (.bl (sumSays f l n)) H) ∨
  (∃ (a : Addr) (o n : Int), vs = [.int n, .ref a] ∧ PowAt CP H a o ∧ Q (.bl (powSays o n 21)) H)
def spRight (K : PySem.W.Frag) : Sp := fun vs H Q _ => ∃ (n : Int) (a : Addr) (ms : List Int), vs = [.int n, .ref a] ∧ SqL K H a (ms.map V.int) ∧ 1 ≤ n ∧ n ≤ 1000000 ∧ ∀ H', Same H H' → Q (.bl true) H'
theorem row_ib {n f l : Int} (h1 : 1 ≤ n) (h2 : n ≤ 1000000) (h : IsRow n f l) : ib f ≤ 1000 ∧ ib l ≤ 1000 := by
  have := isRow_small h1 h2 h
  exact ⟨Nat.le_trans (ib_of (m := 64) (by omega)) (by decide), Nat.le_trans (ib_of (m := 64) (by omega)) (by decide)⟩
theorem sumSays_row {n f l : Int} (h : IsRow n f l) (hf : 0 < f) (hl : f < l) : sumSays f l n = true := decide_eq_true ⟨hf, hl, h.2⟩
theorem powSays_pow {e : Nat} (h : e < 20) {m : Int} (hm : 20 ≤ m) : powSays (e : Int) (2 ^ e) m = true := decide_eq_true ⟨by omega, by omega, by rw [Int.toNat_natCast]⟩
theorem powSays_40 {e : Nat} (h : e < 20) (n : Int) : powSays (e : Int) n 40 = powSays (e : Int) n 21 := by
  unfold powSays
  have h1 : (e : Int) < 40 := by omega
  have h2 : (e : Int) < 21 := by omega
  simp [h1, h2]
/-- an expression's value by what is known of it -/
theorem to_any {te : TE} {σ : L2.St} {H : Hp} {Q : VK} (P : V → Hp → Prop) (h : ∀ Qe : VK, (∀ x H', P x H' → Qe x H') → te σ H Qe) (q : ∀ x H', P x H' → Q x H') : te σ H Q := h Q q
theorem powSays_30 {z n : Int} (hn : n ≤ 1000000) : powSays z n 40 = powSays z n 30 := by
  unfold powSays
  by_cases h0 : 0 ≤ z
  · by_cases h1 : z < 30
    · have h2 : z < 40 := by omega
      simp [h0, h1, h2]
    · have hp : ¬ (2 : Int) ^ z.toNat = n := fun e => by
        have h3 := pow_mono2 (show 30 ≤ z.toNat by omega)
        have h4 : (2 : Int) ^ 30 = 1073741824 := by decide
        omega
      simp [hp]
  · simp [h0]
theorem cut_pl {H : Hp} {xs : List V} {ps : List (Int × Int)} (h : PL H xs ps) (lo hi : Option Int) : ∃ ps', PL H (cutV xs lo hi) ps' ∧ (∀ p ∈ ps', p ∈ ps) ∧ ps'.length ≤ ps.length := by
  have dr : ∀ (k : Nat) {xs : List V} {ps : List (Int × Int)}, PL H xs ps → PL H (xs.drop k) (ps.drop k) := fun k => by
    induction k with
    | zero => intro xs ps h; exact h
    | succ k ih =>
      intro xs ps h
      cases h with
      | nil => exact .nil
      | cons a t => exact ih t
  have tk : ∀ (k : Nat) {xs : List V} {ps : List (Int × Int)}, PL H xs ps → PL H (xs.take k) (ps.take k) := fun k => by
    induction k with
    | zero => intro xs ps h; exact .nil
    | succ k ih =>
      intro xs ps h
      cases h with
      | nil => exact .nil
      | cons a t => exact .cons a (ih t)
  unfold cutV
  refine ⟨_, tk _ (dr _ h), fun p hp => List.mem_of_mem_drop (List.mem_of_mem_take hp), ?_⟩
  rw [List.length_take, List.length_drop]
  omega
/-- numbers of at most twenty-one digits -/
def Sm (i : Int) : Prop := -1000000000000000000000 ≤ i ∧ i ≤ 1000000000000000000000
theorem Sm.ib {i : Int} (h : Sm i) : NB.ib i ≤ 1000 := by
  unfold Sm at h
  exact Nat.le_trans (ib_of (m := 80) (by omega)) (by decide)
def SmP (ps : List (Int × Int)) : Prop := ∀ p ∈ ps, Sm p.1 ∧ Sm p.2
end NB

set_option Elab.async false
set_option maxRecDepth 100000
namespace NB
open PySem L2
def topS (i : Nat) : Stmt := PySem.Challenge.pw_neighboursums_k04_by_hand.main.body.getD i (.Pass ⟨0, 0, 0, 0⟩)
end NB

set_option Elab.async false
set_option maxRecDepth 100000
set_option maxHeartbeats 4000000
set_option linter.unusedVariables false
namespace NB
open PySem L2
section
variable {P : Program} {w : World} {K : PySem.W.Frag} {mg : Str → Option Value} {base : Heap}
/-! ### the law's helpers -/
abbrev s__law_cell_at : Stmt := topS 5
theorem sc__law_cell_at : FnScope ["_law_script", "_law_k"] ["_law_script", "_law_k"] (defScope s__law_cell_at) := ⟨rfl, rfl, rfl, by decide +kernel, rfl, by decide +kernel, by decide +kernel⟩
theorem ok__law_cell_at {f : Addr} {fd : FuncData} (F : Fun K "_law_cell_at" "_law_cell_at" s__law_cell_at f fd) (B : Bt mg) : FnOk P w K mg base CX0 1 f fd ["_law_script", "_law_k"] (spCellAt K) := by
  refine F.ok sc__law_cell_at (fun vs H Q E h => ?_) (fun cdv A outer s H vs Q E hr h => ?_)
  · obtain ⟨_, _, _, rfl, _⟩ := h
    rfl
  · obtain ⟨a, ns, k, rfl, hS, hb, h0, hk, q⟩ := h
    refine ⟨_, (pss_cons (ps_if (pt_cmpR op_lt (pv 1) (pe_callB call_len_seq (by rfl) B.len_ (by decide +kernel) (pa_cons (pv 0) pa_nil)) (nomark _)) (pss_one (ps_ret (pe_ix (r := rIxL K) ix_list (pv 0) (pv 1) (fun _ _ => rfl)))) pss_nil)
      (pss_one (ps_ret pe_int))), ?_⟩
    refine ⟨_, rfl, _, rfl, a, _, rfl, .inl hS, _, _, rfl, rfl, _, rfl, ?_⟩
    refine ite2 (fun hc => ?_) fun hc => ?_
    · have hc : k < ns.length := by
        have := of_decide_eq_true hc
        rwa [List.length_map] at this
      obtain ⟨z, hz, e⟩ := at_int h0 hc
      exact ⟨_, rfl, _, rfl, a, _, _, _, rfl, rfl, hS, e, q z (hb z hz)⟩
    · exact q 0 (by decide)
abbrev s__law_draw : Stmt := topS 6
theorem sc__law_draw : FnScope ["_law_cell", "_law_k", "_law_many", "_law_primes"] ["_law_cell", "_law_k", "_law_many"] (defScope s__law_draw) := ⟨rfl, rfl, rfl, by decide +kernel, rfl, by decide +kernel, by decide +kernel⟩
theorem ok__law_draw {f : Addr} {fd : FuncData} (F : Fun K "_law_draw" "_law_draw" s__law_draw f fd) : FnOk P w K mg base CX0 1 f fd ["_law_cell", "_law_k", "_law_many"] spDraw := by
  refine F.ok sc__law_draw (fun vs H Q E h => ?_) (fun cdv A outer s H vs Q E hr h => ?_)
  · obtain ⟨_, _, _, rfl, _⟩ := h
    rfl
  · obtain ⟨c, k, m, rfl, h0, hm, q⟩ := h
    refine ⟨_, (pss_cons (ps_set (i := 3) sc__law_draw.nd rfl (Or.inl rfl) (pe_tup (pa_cons pe_int (pa_cons pe_int (pa_cons pe_int (pa_cons pe_int (pa_cons pe_int (pa_cons pe_int (pa_cons pe_int (pa_cons pe_int (pa_cons pe_int (pa_cons pe_int (pa_cons pe_int (pa_cons pe_int (pa_cons pe_int (pa_cons pe_int (pa_cons pe_int (pa_cons pe_int pa_nil))))))))))))))))))
      (pss_one (ps_ret (pe_op op_mod (pe_op op_mod (pe_op op_add (pe_op op_mul (pv 0) pe_int) (pe_op op_mul (pv 1) pe_int)) (pe_ix (r := rIxT K) ix_tup (pv 3) (pe_op op_mod (pv 1) pe_int) (fun _ _ => rfl))) (pv 2))))), ?_⟩
    refine ⟨(by show 16 ≤ sizeLine; decide), fun p np => ?_⟩
    obtain ⟨r, hr0, er⟩ := prime_at (i := k % 16) (by omega) (by omega)
    refine ⟨_, rfl, _, _, rfl, rfl, .inr ⟨by decide, by decide⟩, _, rfl, _, _, rfl, rfl, .inr ⟨by decide, by decide⟩, _, _, rfl, rfl, _, rfl, _, rfl, _, _, rfl, rfl, (by show (0 : Int) < 16; decide), p, _, _, _, rfl, rfl, SqT.of upd_same, er, _, _, rfl, rfl, hr0, _, rfl, _, _, rfl, rfl, hm, ?_⟩
    exact q _ _ (Int.emod_nonneg _ (by omega)) (Int.emod_lt_of_pos _ hm) (Same.new np)
abbrev s__law_value : Stmt := topS 7
theorem sc__law_value : FnScope ["_law_cell", "_law_turn", "_law_mixed"] ["_law_cell", "_law_turn"] (defScope s__law_value) := ⟨rfl, rfl, rfl, by decide +kernel, rfl, by decide +kernel, by decide +kernel⟩
theorem ok__law_value {f : Addr} {fd : FuncData} (F : Fun K "_law_value" "_law_value" s__law_value f fd) (C__law_draw : Callee P w K mg base 1 "_law_draw" ["_law_cell", "_law_k", "_law_many"] spDraw) : FnOk P w K mg base CX0 2 f fd ["_law_cell", "_law_turn"] spValue := by
  refine F.ok sc__law_value (fun vs H Q E h => ?_) (fun cdv A outer s H vs Q E hr h => ?_)
  · obtain ⟨_, _, rfl, _⟩ := h
    rfl
  · obtain ⟨c, t, rfl, hb, h0, ht, q⟩ := h
    obtain ⟨f__law_draw, fd__law_draw, m__law_draw, k__law_draw, b__law_draw, G__law_draw⟩ := C__law_draw
    refine ⟨_, (pss_cons (ps_if (pt_cmpR op_ge (pv 0) (pe_op op_pow pe_int pe_int) (nomark _)) (pss_one (ps_ret (pe_op op_shr (pe_op op_sub (pv 0) (pe_op op_pow pe_int pe_int)) (pe_op op_mul pe_int (pv 1))))) pss_nil)
      (pss_cons (ps_set (i := 2) sc__law_value.nd rfl (Or.inl rfl) (pe_call G__law_draw (hr.mono (by decide)) rfl m__law_draw k__law_draw b__law_draw .nil pass0 (pa_cons (pe_op op_mulX (pe_op op_add (pv 0) (pe_op op_mul pe_int (pv 1))) (pe_op op_add (pe_op op_add (pv 0) (pe_op op_mul pe_int (pv 1))) pe_int)) (pa_cons (pe_op op_add (pe_op op_mod (pv 1) pe_int) pe_int) (pa_cons pe_int pa_nil)))))
      (pss_one (ps_ret (pe_op op_add (pe_op op_mul (pv 2) pe_int) (pe_call G__law_draw (hr.mono (by decide)) rfl m__law_draw k__law_draw b__law_draw .nil pass0 (pa_cons (pe_op op_add (pe_op op_mulX (pe_op op_add (pv 0) (pe_op op_mul pe_int (pv 1))) (pe_op op_add (pv 0) pe_int)) (pe_op op_mul pe_int (pv 1))) (pa_cons (pe_op op_add (pe_op op_mod (pv 1) pe_int) pe_int) (pa_cons pe_int pa_nil))))))))), ?_⟩
    refine ⟨_, rfl, _, _, rfl, rfl, ⟨by decide, by decide, by decide⟩, _, _, rfl, rfl, _, rfl, ?_⟩
    refine ite2 (fun hc => ?_) fun hc => ?_
    · have e18 : (10 : Int) ^ Int.toNat 18 = 1000000000000000000 := by decide
      have hc : (10 : Int) ^ Int.toNat 18 ≤ c := of_decide_eq_true hc
      refine ⟨_, rfl, _, _, rfl, rfl, ⟨by decide, by decide, by decide⟩, _, _, rfl, rfl, _, rfl, _, _, rfl, rfl, .inl ⟨by decide, by decide⟩, _, _, rfl, rfl, (show 0 ≤ 3 * t by omega), ?_⟩
      have hp : (0 : Int) < 2 ^ (3 * t).toNat := PySem.W.kbt_pos _
      have hz : 0 ≤ c - (10 : Int) ^ Int.toNat 18 := by omega
      have hz2 : c - (10 : Int) ^ Int.toNat 18 ≤ c := by rw [e18]; omega
      refine q ((c - (10 : Int) ^ Int.toNat 18) / 2 ^ (3 * t).toNat) _ (Int.ediv_nonneg hz (by omega)) ?_ (Same.refl _)
      generalize c - (10 : Int) ^ Int.toNat 18 = d at hz hz2
      have hq := Int.ediv_nonneg hz (show (0 : Int) ≤ 2 ^ (3 * t).toNat by omega)
      have hq2 := Int.ediv_le_self (2 ^ (3 * t).toNat) hz
      exact Nat.le_trans (PySem.intBits_le_of_natAbs (y := c) (by omega) hb) (by decide)
    · have l0 : ib (977 * t) ≤ 64 := ib_of (by omega)
      have l1 : ib (31 * t) ≤ 64 := ib_of (by omega)
      have b1 := ib_add hb l0
      have b2 := ib_add hb l1
      have b3 := ib_add b2 (show ib 5 ≤ 64 by decide)
      have b4 := ib_add hb (show ib 7 ≤ 64 by decide)
      refine ⟨_, rfl, _, rfl, _, _, rfl, rfl, .inl ⟨by decide, by decide⟩, _, _, rfl, rfl, _, rfl, _, rfl, _, _, rfl, rfl, .inl ⟨by decide, by decide⟩, _, _, rfl, rfl, _, _, rfl, rfl, _, _, rfl, rfl, mulx b1 b3 (by decide), _, rfl, _, _, rfl, rfl, (by show (0 : Int) < 9; decide), _, _, rfl, rfl, _, _, _, rfl, (show 0 ≤ t % 9 + 1 by omega), by decide, fun r H1 r0 r1 s1 => ?_⟩
      refine ⟨_, rfl, _, _, rfl, rfl, .inr ⟨by decide, by decide⟩, _, rfl, _, rfl, _, _, rfl, rfl, .inl ⟨by decide, by decide⟩, _, _, rfl, rfl, _, rfl, _, _, rfl, rfl, _, _, rfl, rfl, mulx b2 b4 (by decide), _, rfl, _, _, rfl, rfl, .inl ⟨by decide, by decide⟩, _, _, rfl, rfl, _, rfl, _, _, rfl, rfl, (by show (0 : Int) < 7; decide), _, _, rfl, rfl, _, _, _, rfl, (show 0 ≤ t % 7 + 2 by omega), by decide, fun r' H2 r0' r1' s2 => ?_⟩
      refine ⟨_, _, rfl, rfl, ?_⟩
      exact q _ _ (show 0 ≤ r * 1000003 + r' by omega) (Nat.le_trans (ib_of (m := 64) (by omega)) (by decide)) (s1.trans s2)
end
end NB

set_option Elab.async false
set_option maxRecDepth 100000
set_option maxHeartbeats 4000000
set_option linter.unusedVariables false
namespace NB
open PySem L2
section
variable {P : Program} {w : World} {K : PySem.W.Frag} {mg : Str → Option Value} {base : Heap}
abbrev s__law_number : Stmt := topS 9
theorem sc__law_number : FnScope ["_law_script", "_law_by", "_law_cell", "_law_value_here", "_law_some"] ["_law_script", "_law_by"] (defScope s__law_number) := ⟨rfl, rfl, rfl, by decide +kernel, rfl, by decide +kernel, by decide +kernel⟩
theorem ok__law_number {f : Addr} {fd : FuncData} (F : Fun K "_law_number" "_law_number" s__law_number f fd) (C__law_cell_at : Callee P w K mg base 1 "_law_cell_at" ["_law_script", "_law_k"] (spCellAt K)) (C__law_value : Callee P w K mg base 2 "_law_value" ["_law_cell", "_law_turn"] spValue) : FnOk P w K mg base CX0 3 f fd ["_law_script", "_law_by"] (spNumber K) := by
  refine F.ok sc__law_number (fun vs H Q E h => ?_) (fun cdv A outer s H vs Q E hr h => ?_)
  · obtain ⟨_, _, _, rfl, _⟩ := h
    rfl
  · obtain ⟨a, ns, k, rfl, hS, hb, h0, hk, q⟩ := h
    obtain ⟨f__law_cell_at, fd__law_cell_at, m__law_cell_at, k__law_cell_at, b__law_cell_at, G__law_cell_at⟩ := C__law_cell_at
    obtain ⟨f__law_value, fd__law_value, m__law_value, k__law_value, b__law_value, G__law_value⟩ := C__law_value
    refine ⟨_, (pss_cons (ps_set (i := 2) sc__law_number.nd rfl (Or.inl rfl) (pe_call G__law_cell_at (hr.mono (by decide)) rfl m__law_cell_at k__law_cell_at b__law_cell_at .nil pass0 (pa_cons (pv 0) (pa_cons (pv 1) pa_nil))))
      (pss_cons (ps_set (i := 3) sc__law_number.nd rfl (Or.inl rfl) (pe_call G__law_value (hr.mono (by decide)) rfl m__law_value k__law_value b__law_value .nil pass0 (pa_cons (pv 2) (pa_cons pe_int pa_nil))))
      (pss_cons (ps_set (i := 4) sc__law_number.nd rfl (Or.inl rfl) (pe_tup (pa_cons (pe_op op_add pe_int (pe_op op_mod (pv 3) pe_int)) (pa_cons (pe_op op_add pe_int (pe_op op_mod (pv 3) (pe_op op_pow pe_int pe_int))) (pa_cons (pe_op op_mul (pe_op op_mul (pe_op op_mul (pe_op op_add pe_int (pe_op op_mod (pv 3) pe_int)) (pe_op op_pow pe_int pe_int)) pe_int) pe_int) (pa_cons (pe_op op_shl pe_int (pe_op op_mod (pe_op op_fdiv (pv 3) pe_int) pe_int)) pa_nil))))))
      (pss_one (ps_ret (pe_ix (r := rIxT K) ix_tup (pv 4) (pe_op op_mod (pe_call G__law_value (hr.mono (by decide)) rfl m__law_value k__law_value b__law_value .nil pass0 (pa_cons (pv 2) (pa_cons pe_int pa_nil))) pe_int) (fun _ _ => rfl))))))), ?_⟩
    refine ⟨_, rfl, _, rfl, a, ns, k, rfl, hS, hb, h0, hk, fun c bc => ?_⟩
    refine ⟨_, rfl, c, 2, rfl, bc, by decide, by decide, fun v H1 v0 vb s1 => ?_⟩
    have e20 : 0 ≤ v / 7 % 20 ∧ v / 7 % 20 < 20 := by omega
    refine ⟨_, rfl, _, _, rfl, rfl, (by show (0 : Int) < 60; decide), _, _, rfl, rfl, _, rfl, _, _, rfl, rfl, ⟨by decide, by decide, by decide⟩, _, _, rfl, rfl, (by show (0 : Int) < 10 ^ 6; decide), _, _, rfl, rfl, _, rfl, _, _, rfl, rfl, (by show (0 : Int) < 300; decide), _, _, rfl, rfl, _, _, rfl, rfl, ⟨by decide, by decide, by decide⟩, _, _, rfl, rfl, .inr ⟨by decide, by decide⟩, _, _, rfl, rfl, .inr ⟨by decide, by decide⟩, _, _, rfl, rfl, .inr ⟨by decide, by decide⟩, _, rfl, _, _, rfl, rfl, ⟨by decide, by decide⟩, _, _, rfl, rfl, (by show (0 : Int) < 20; decide), _, _, rfl, rfl, ⟨e20.1, by omega, by decide⟩, (by show 4 ≤ sizeLine; decide), fun p np => ?_⟩
    refine ⟨_, rfl, _, rfl, c, 1, rfl, bc, by decide, by decide, fun v' H2 v0' vb' s2 => ?_⟩
    refine ⟨_, _, rfl, rfl, (by show (0 : Int) < 4; decide), ?_⟩
    have hall : ∀ z ∈ [1 + v % 60, 1 + v % 10 ^ 6, (1 + v % 300) * 3 ^ 2 * 5 * 7, 1 * 2 ^ (v / 7 % 20).toNat], 1 ≤ z ∧ z ≤ 1000000 := by
      have hsh : 1 ≤ (2 : Int) ^ (v / 7 % 20).toNat ∧ (2 : Int) ^ (v / 7 % 20).toNat ≤ 1000000 := by
        have : ∀ j : Nat, j < 20 → 1 ≤ (2 : Int) ^ j ∧ (2 : Int) ^ j ≤ 1000000 := by decide
        exact this _ (by omega)
      intro z hz
      simp only [List.mem_cons, List.not_mem_nil, or_false] at hz
      rcases hz with rfl | rfl | rfl | rfl
      · omega
      · have : (10 : Int) ^ 6 = 1000000 := by decide
        rw [this]
        omega
      · have : (3 : Int) ^ 2 = 9 := by decide
        rw [this]
        omega
      · rw [Int.one_mul]
        exact hsh
    obtain ⟨z, hz, e⟩ := at_int (ns := [1 + v % 60, 1 + v % 10 ^ 6, (1 + v % 300) * 3 ^ 2 * 5 * 7, 1 * 2 ^ (v / 7 % 20).toNat]) (k := v' % 4) (by omega) (by show v' % 4 < 4; omega)
    exact ⟨p, _, _, _, rfl, rfl, SqT.of (s2 _ _ upd_same), e, q z H2 (hall z hz).1 (hall z hz).2 ((s1.trans (Same.new np)).trans s2)⟩
end
end NB

set_option Elab.async false
set_option maxRecDepth 100000
set_option maxHeartbeats 4000000
set_option linter.unusedVariables false
namespace NB
open PySem L2
section
variable {P : Program} {w : World} {K : PySem.W.Frag} {mg : Str → Option Value} {base : Heap}
abbrev s__law_high : Stmt := topS 10
theorem sc__law_high : FnScope ["_law_number_here", "_law_found", "_law_length", "_law_left"] ["_law_number_here"] (defScope s__law_high) := ⟨rfl, rfl, rfl, by decide +kernel, rfl, by decide +kernel, by decide +kernel⟩
theorem ok__law_high {f : Addr} {fd : FuncData} (F : Fun K "_law_high" "_law_high" s__law_high f fd) : FnOk P w K mg base CX0 1 f fd ["_law_number_here"] spHigh := by
  refine F.ok sc__law_high (fun vs H Q E h => ?_) (fun cdv A outer s H vs Q E hr h => ?_)
  · obtain ⟨n, rfl, _⟩ := h
    rfl
  · obtain ⟨n, rfl, hn, hn2, q⟩ := h
    refine ⟨_, (pss_cons (ps_par (i := 1) (j := 2) rfl sc__law_high.nd rfl rfl (by decide) rfl rfl (pa_cons (pe_lst pa_nil) (pa_cons pe_int pa_nil)) (by rfl))
      (pss_cons (ps_while PassesOwn.never (pt_cmpR op_le (pe_op op_fdiv (pe_op op_mul (pv 2) (pe_op op_add (pv 2) pe_int)) pe_int) (pv 0) (nomark _))
        (pss_cons (ps_set (i := 3) sc__law_high.nd rfl (Or.inl rfl) (pe_op op_sub (pv 0) (pe_op op_fdiv (pe_op op_mul (pv 2) (pe_op op_sub (pv 2) pe_int)) pe_int)))
        (pss_cons (ps_if (pt_cmpR op_eq (pe_op op_mod (pv 3) (pv 2)) pe_int (nomark _)) (pss_one (ps_expr (pe_bm PySem.F.plainAttrs_list PySem.F.slot_list_append PySem.F.type_list_append mt_append (pv 1) (pa_cons (pe_tup (pa_cons (pe_op op_fdivW (pv 3) (pv 2)) (pa_cons (pe_op op_sub (pe_op op_add (pe_op op_fdivW (pv 3) (pv 2)) (pv 2)) pe_int) pa_nil))) pa_nil)))) pss_nil)
        (pss_one (ps_set (i := 2) sc__law_high.nd rfl (Or.inl rfl) (pe_op op_add (pv 2) pe_int))))))
      (pss_one (ps_ret (pe_revL (pv 1)))))), ?_⟩
    refine ⟨(by show 0 ≤ sizeLine; decide), fun p1 np1 => ⟨_, _, rfl, ?_⟩⟩
    refine while_nat 1500 (fun k σ H' => ∃ x xs, σ = [some (.int n), some (.ref p1), some (.int ((k + 1 : Nat) : Int)), x] ∧ (k : Int) * ((k : Int) + 1) / 2 ≤ n ∧ Same H H' ∧ H' p1 = some (.lst xs) ∧ PL H' xs (acc n k) ∧ xs.length ≤ k) ⟨_, [], rfl, by show (0 : Int) ≤ n; omega, Same.new np1, upd_same, .nil, Nat.le_refl _⟩ ?_
    rintro k m σ H' e ⟨x, xs, rfl, hk, hS, h1, hp, hlen⟩
    have kb : k < 1500 := by
      refine Decidable.byContradiction fun hc => ?_
      have := tri_mono (a := 1500) (b := (k : Int)) (by decide) (by omega)
      omega
    have ec : ((k + 1 : Nat) : Int) = (k : Int) + 1 := by omega
    refine ⟨_, rfl, _, rfl, _, _, rfl, rfl, _, _, rfl, rfl, .inl ⟨by omega, by omega⟩, _, _, rfl, rfl, ⟨by decide, by decide⟩, _, rfl, _, _, rfl, rfl, _, rfl, ?_⟩
    refine ite2 (fun ht => ?_) fun ht => ?_
    · have ht := of_decide_eq_true ht
      refine ⟨_, turn_nat _ e kb, ?_⟩
      refine ⟨_, rfl, _, rfl, _, rfl, _, _, rfl, rfl, _, _, rfl, rfl, .inl ⟨by omega, by omega⟩, _, _, rfl, rfl, ⟨by decide, by decide⟩, _, _, rfl, rfl, ?_⟩
      refine ⟨_, rfl, _, rfl, _, _, rfl, rfl, (show (0 : Int) < ((k + 1 : Nat) : Int) by omega), rfl, _, rfl, ?_⟩
      by_cases hd : (n - ((k + 1 : Nat) : Int) * (((k + 1 : Nat) : Int) - 1) / 2) % ((k + 1 : Nat) : Int) = 0
      · refine iteD (congrArg V.int hd) ?_
        have wd : CDivW (n - ((k + 1 : Nat) : Int) * (((k + 1 : Nat) : Int) - 1) / 2) ((k + 1 : Nat) : Int) := wide_div (b := 64) (by omega) (by omega) (by decide) (by decide)
        refine ⟨_, rfl, .inl ⟨rfl, _, SqL.of h1⟩, _, rfl, _, rfl, _, _, rfl, rfl, wd, _, rfl, _, rfl, _, _, rfl, rfl, wd, _, rfl, _, _, rfl, rfl, _, _, rfl, rfl, (by show 2 ≤ sizeLine; decide), fun p np => ?_⟩
        have n1p : p1 ≠ p := ne_of_none h1 np
        refine ⟨p1, _, _, rfl, rfl, by rw [upd_ne n1p]; exact h1, small1000' (by omega), ?_⟩
        refine ⟨_, rfl, _, _, rfl, rfl, ?_⟩
        have g1 : (upd H' p (.tup [.int ((n - ((k + 1 : Nat) : Int) * (((k + 1 : Nat) : Int) - 1) / 2) / ((k + 1 : Nat) : Int)), .int ((n - ((k + 1 : Nat) : Int) * (((k + 1 : Nat) : Int) - 1) / 2) / ((k + 1 : Nat) : Int) + ((k + 1 : Nat) : Int) - 1)])) p1 = some (.lst xs) := by rw [upd_ne n1p]; exact h1
        have er : rowOf n ((k + 1 : Nat) : Int) = some ((n - ((k + 1 : Nat) : Int) * (((k + 1 : Nat) : Int) - 1) / 2) / ((k + 1 : Nat) : Int), (n - ((k + 1 : Nat) : Int) * (((k + 1 : Nat) : Int) - 1) / 2) / ((k + 1 : Nat) : Int) + ((k + 1 : Nat) : Int) - 1) := by unfold rowOf; rw [if_pos hd]
        refine ⟨_, _, rfl, ?_, Same.mut (hS.trans (Same.new np)) np1, upd_same, ?_, ?_⟩
        · rw [ec] at ht ⊢
          exact ht
        · rw [acc_some er]
          have same : ∀ (H2 : Hp) o x q, H2 p1 = some (.lst xs) → IsP H2 x q → IsP (upd H2 p1 (.lst o)) x q := fun H2 o x q z ⟨t, e, h⟩ => ⟨t, e, by rw [upd_ne (ne_of h z (fun z => nomatch z))]; exact h⟩
          exact PL.append (Paired.mapP (hp.same (Same.new np)) fun x q => same _ _ x q g1) (.cons (same _ _ _ _ g1 ⟨p, rfl, upd_same⟩) .nil)
        · rw [List.length_append]
          simp only [List.length_cons, List.length_nil]
          omega
      · refine iteDN (fun z => hd (V.int.inj z)) ?_
        have er : rowOf n ((k + 1 : Nat) : Int) = none := by unfold rowOf; rw [if_neg hd]
        refine ⟨_, rfl, _, _, rfl, rfl, ?_⟩
        refine ⟨_, xs, rfl, ?_, hS, h1, ?_, by omega⟩
        · rw [ec] at ht ⊢
          exact ht
        · rw [acc_none er]
          exact hp
    · have ht : ¬ (((k + 1 : Nat) : Int) * (((k + 1 : Nat) : Int) + 1) / 2 ≤ n) := fun z => ht (decide_eq_true z)
      rw [ec] at ht
      refine ⟨_, rfl, p1, xs, rfl, SqL.of h1, fun p np => ?_⟩
      refine q _ p _ (acc_rows hk (by omega)) ?_ (hS.trans (Same.new np)) (hS.free np) ⟨_, upd_same, (hp.same (Same.new np)).reverse⟩
      rw [List.length_reverse, ← hp.length]
      omega
end
end NB

set_option Elab.async false
set_option maxRecDepth 100000
set_option maxHeartbeats 4000000
set_option linter.unusedVariables false
namespace NB
open PySem L2
section
variable {P : Program} {w : World} {K : PySem.W.Frag} {mg : Str → Option Value} {base : Heap}
theorem dV (a b : Int) : decide (V.int a = V.int b) = decide (a = b) := by
  by_cases h : a = b
  · rw [decide_eq_true h, decide_eq_true (congrArg V.int h)]
  · rw [decide_eq_false h, decide_eq_false fun x => h (V.int.inj x)]
theorem bl_eq {Q : VK} {H : Hp} {a b : Bool} (e : a = b) (h : Q (.bl b) H) : Q (.bl a) H := e ▸ h
abbrev s_Sum___init__ : Stmt := inClass (topS 2) 0
theorem sc_Sum___init__ : FnScope ["self", "first", "last"] ["self", "first", "last"] (defScope s_Sum___init__) := ⟨rfl, rfl, rfl, by decide +kernel, rfl, by decide +kernel, by decide +kernel⟩
theorem ok_Sum_init {f CS : Addr} {fd : FuncData} (F : Fun K "__init__" "Sum.__init__" s_Sum___init__ f fd) (C_Sum : ClsF K mg "Sum" CS) (nf : NoAttr K CS "first") (nl : NoAttr K CS "last") : FnOk P w K mg base CX0 1 f fd ["self", "first", "last"] (spSumInit CS) := by
  refine F.ok sc_Sum___init__ (fun vs H Q E h => ?_) (fun cdv A outer s H vs Q E hr h => ?_)
  · obtain ⟨_, _, _, _, rfl, _⟩ := h
    rfl
  · obtain ⟨p, dx, a, b, rfl, hp, k⟩ := h
    refine ⟨_, (pss_cons (ps_fld (pv 0) (pv 1) rfl)
      (pss_one (ps_fld (pv 0) (pv 2) rfl))), ?_⟩
    refine ⟨_, rfl, _, rfl, p, CS, dx, _, rfl, hp, C_Sum.cl, nf, (by show 0 < 1000; decide), _, rfl, _, rfl, p, CS, dx, _, rfl, upd_same, C_Sum.cl, nl, (by show 1 < 1000; decide), ?_⟩
    refine k _ ⟨dx, upd_same⟩ fun b o e hb => ?_
    rw [upd_ne hb, upd_ne hb]
    exact e
abbrev s_Power___init__ : Stmt := inClass (topS 3) 0
theorem sc_Power___init__ : FnScope ["self", "often"] ["self", "often"] (defScope s_Power___init__) := ⟨rfl, rfl, rfl, by decide +kernel, rfl, by decide +kernel, by decide +kernel⟩
theorem ok_Power_init {f CP : Addr} {fd : FuncData} (F : Fun K "__init__" "Power.__init__" s_Power___init__ f fd) (C_Power : ClsF K mg "Power" CP) (no : NoAttr K CP "often") : FnOk P w K mg base CX0 1 f fd ["self", "often"] (spPowInit CP) := by
  refine F.ok sc_Power___init__ (fun vs H Q E h => ?_) (fun cdv A outer s H vs Q E hr h => ?_)
  · obtain ⟨_, _, _, rfl, _⟩ := h
    rfl
  · obtain ⟨p, dx, a, rfl, hp, k⟩ := h
    refine ⟨_, (pss_one (ps_fld (pv 0) (pv 1) rfl)), ?_⟩
    refine ⟨_, rfl, _, rfl, p, CP, dx, _, rfl, hp, C_Power.cl, no, (by show 0 < 1000; decide), ?_⟩
    refine k _ ⟨dx, upd_same⟩ fun b o e hb => ?_
    rw [upd_ne hb]
    exact e
abbrev s_Sum_shows : Stmt := inClass (topS 2) 1
theorem sc_Sum_shows : FnScope ["self", "number", "first", "last"] ["self", "number"] (defScope s_Sum_shows) := ⟨rfl, rfl, rfl, by decide +kernel, rfl, by decide +kernel, by decide +kernel⟩
theorem ok_Sum_shows {f CS : Addr} {fd : FuncData} (F : Fun K "shows" "Sum.shows" s_Sum_shows f fd) (C_Sum : ClsF K mg "Sum" CS) (nf : NoAttr K CS "first") (nl : NoAttr K CS "last") : FnOk P w K mg base CX0 1 f fd ["self", "number"] (spSumShows CS) := by
  refine F.ok sc_Sum_shows (fun vs H Q E h => ?_) (fun cdv A outer s H vs Q E hr h => ?_)
  · obtain ⟨_, _, _, _, rfl, _⟩ := h
    rfl
  · obtain ⟨a, x, y, n, rfl, ⟨dx, ha⟩, bx, bY, q⟩ := h
    refine ⟨_, (pss_cons (ps_par (i := 2) (j := 3) rfl sc_Sum_shows.nd rfl rfl (by decide) rfl rfl (pa_cons (pe_fld (pv 0) rfl) (pa_cons (pe_fld (pv 0) rfl) pa_nil)) (by rfl))
      (pss_one (ps_ret (pe_and (pe_chain op_lt op_lt pe_int (pv 2) (pv 3)) (pe_one (pe_cmpR op_eq (pe_op op_mulX (pe_op op_add (pv 2) (pv 3)) (pe_op op_add (pe_op op_sub (pv 3) (pv 2)) pe_int)) (pe_op op_mul pe_int (pv 1)) (nomark _))))))), ?_⟩
    refine ⟨_, rfl, a, CS, dx, _, _, rfl, ha, C_Sum.cl, nf, sumF_first x y, _, rfl, a, CS, dx, _, _, rfl, ha, C_Sum.cl, nl, sumF_last x y, _, _, rfl, ?_⟩
    refine ⟨_, rfl, _, _, rfl, rfl, _, rfl, ?_⟩
    by_cases h0 : 0 < x
    · refine iteD h0 ?_
      refine ⟨_, rfl, _, _, rfl, rfl, _, rfl, ?_⟩
      by_cases h1 : x < y
      · refine iteD h1 ?_
        refine ⟨_, rfl, _, rfl, _, _, rfl, rfl, _, rfl, _, rfl, _, _, rfl, rfl, _, _, rfl, rfl, _, _, rfl, rfl, mulx (ib_add bx bY) (ib_add (ib_sub bY bx) (show ib 1 ≤ 1000 by decide)) (by decide), _, rfl, _, _, rfl, rfl, .inl ⟨by decide, by decide⟩, rfl, ?_⟩
        refine bl_eq (Q := Q) ((dV _ _).trans ?_) q
        unfold sumSays
        by_cases h2 : (x + y) * (y - x + 1) = 2 * n <;> simp [h0, h1, h2]
      · refine iteDN h1 ?_
        refine bl_eq (Q := Q) (b := sumSays x y n) ?_ q
        unfold sumSays
        simp [h1]
    · refine iteDN h0 ?_
      refine ⟨_, rfl, iteF ?_⟩
      refine bl_eq (Q := Q) (b := sumSays x y n) ?_ q
      unfold sumSays
      simp [h0]
abbrev s_Power_shows : Stmt := inClass (topS 3) 1
theorem sc_Power_shows : FnScope ["self", "number"] ["self", "number"] (defScope s_Power_shows) := ⟨rfl, rfl, rfl, by decide +kernel, rfl, by decide +kernel, by decide +kernel⟩
theorem ok_Power_shows {f CP : Addr} {fd : FuncData} (F : Fun K "shows" "Power.shows" s_Power_shows f fd) (C_Power : ClsF K mg "Power" CP) (no : NoAttr K CP "often") : FnOk P w K mg base CX0 1 f fd ["self", "number"] (spPowShows CP) := by
  refine F.ok sc_Power_shows (fun vs H Q E h => ?_) (fun cdv A outer s H vs Q E hr h => ?_)
  · obtain ⟨_, _, _, rfl, _⟩ := h
    rfl
  · obtain ⟨a, o, n, rfl, ⟨dx, ha⟩, q⟩ := h
    refine ⟨_, (pss_one (ps_ret (pe_and (pe_chain op_le op_lt pe_int (pe_fld (pv 0) rfl) pe_int) (pe_one (pe_cmpR op_eq (pe_op op_shl pe_int (pe_fld (pv 0) rfl)) (pv 1) (nomark _)))))), ?_⟩
    refine ⟨_, rfl, a, CP, dx, _, _, rfl, ha, C_Power.cl, no, powF_often o, _, _, rfl, rfl, _, rfl, ?_⟩
    by_cases h0 : 0 ≤ o
    · refine iteD h0 ?_
      refine ⟨_, _, rfl, rfl, _, rfl, ?_⟩
      by_cases h1 : o < 40
      · refine iteD h1 ?_
        refine ⟨_, rfl, a, CP, dx, _, _, rfl, ha, C_Power.cl, no, powF_often o, _, _, rfl, rfl, ⟨h0, by omega, by decide⟩, _, rfl, rfl, ?_⟩
        refine bl_eq (Q := Q) ((dV _ _).trans ?_) q
        unfold powSays
        rw [Int.one_mul]
        by_cases h2 : (2 : Int) ^ o.toNat = n <;> simp [h0, h1, h2]
      · refine iteDN h1 ?_
        refine bl_eq (Q := Q) (b := powSays o n 40) ?_ q
        unfold powSays
        simp [h1]
    · refine iteDN h0 ?_
      refine ⟨_, rfl, iteF ?_⟩
      refine bl_eq (Q := Q) (b := powSays o n 40) ?_ q
      unfold powSays
      simp [h0]
end
end NB

set_option Elab.async false
set_option maxRecDepth 100000
set_option maxHeartbeats 4000000
set_option linter.unusedVariables false
namespace NB
open PySem L2
section
variable {P : Program} {w : World} {K : PySem.W.Frag} {mg : Str → Option Value} {base : Heap}
abbrev s__law_says : Stmt := topS 8
theorem sc__law_says : FnScope ["_law_said", "_law_due"] ["_law_said", "_law_due"] (defScope s__law_says) := ⟨rfl, rfl, rfl, by decide +kernel, rfl, by decide +kernel, by decide +kernel⟩
theorem ok__law_says {f : Addr} {fd : FuncData} (F : Fun K "_law_says" "_law_says" s__law_says f fd) (B : Bt mg) : FnOk P w K mg base CX0 1 f fd ["_law_said", "_law_due"] spSays := by
  refine F.ok sc__law_says (fun vs H Q E h => ?_) (fun cdv A outer s H vs Q E hr h => ?_)
  · obtain ⟨_, _, rfl, _⟩ := h
    rfl
  · obtain ⟨a, b, rfl, q⟩ := h
    refine ⟨_, (pss_one (ps_ret (pe_and (pe_callB call_isi (by rfl) B.isinstance_ (by decide +kernel) (pa_cons (pv 0) (pa_cons (pe_bltn (v := .ty "bool") (by rfl) B.bool_ (by decide +kernel) rfl) pa_nil))) (pe_one (pe_cmpR op_eq (pv 0) (pv 1) (nomark _)))))), ?_⟩
    refine ⟨_, rfl, _, _, _, _, true, rfl, .ty "bool", .base (.bl a), kit_ty (by decide +kernel), true, rfl, iteT ?_⟩
    refine ⟨_, rfl, _, rfl, rfl, ?_⟩
    have e : decide (V.bl a = V.bl b) = decide (a = b) := by
      by_cases h : a = b
      · rw [decide_eq_true h, decide_eq_true (congrArg V.bl h)]
      · rw [decide_eq_false h, decide_eq_false fun x => h (V.bl.inj x)]
    exact bl_eq (Q := Q) e q
end
end NB

set_option Elab.async false
set_option maxRecDepth 100000
set_option maxHeartbeats 4000000
set_option linter.unusedVariables false
namespace NB
open PySem L2
section
variable {P : Program} {w : World} {K : PySem.W.Frag} {mg : Str → Option Value} {base : Heap}
abbrev s_law : Stmt := topS 11
theorem sc_law : FnScope ["_law_script", "_law_by", "_law_number_here", "_law_pairs", "_law_first", "_law_last", "_law_due", "_law_answer", "_law_often"] ["_law_script"] (defScope s_law) := ⟨rfl, rfl, rfl, by decide +kernel, rfl, by decide +kernel, by decide +kernel⟩
theorem ok_law {f CS CP : Addr} {fd : FuncData} (F : Fun K "law" "law" s_law f fd) (B : Bt mg) (C_Sum : ClsF K mg "Sum" CS) (C_Power : ClsF K mg "Power" CP) (nf : NoAttr K CS "first") (nl : NoAttr K CS "last") (no : NoAttr K CP "often") (K_Sum : Makes P w K mg base CS ["self", "first", "last"] (spSumInit CS)) (K_Power : Makes P w K mg base CP ["self", "often"] (spPowInit CP))
    (S_Sum : HasM P w K mg base CS "shows" ["self", "number"] (spSumShows CS)) (S_Power : HasM P w K mg base CP "shows" ["self", "number"] (spPowShows CP)) (C__law_number : Callee P w K mg base 3 "_law_number" ["_law_script", "_law_by"] (spNumber K)) (C__law_high : Callee P w K mg base 1 "_law_high" ["_law_number_here"] spHigh)
    (C__law_says : Callee P w K mg base 1 "_law_says" ["_law_said", "_law_due"] spSays) : FnOk P w K mg base CX0 4 f fd ["_law_script"] (spLaw K) := by
  refine F.ok sc_law (fun vs H Q E h => ?_) (fun cdv A outer s H vs Q E hr h => ?_)
  · obtain ⟨_, _, rfl, _⟩ := h
    rfl
  · obtain ⟨a, ns0, rfl, hS0, hl0, hb0, q⟩ := h
    obtain ⟨f__law_number, fd__law_number, m__law_number, k__law_number, b__law_number, G__law_number⟩ := C__law_number
    obtain ⟨f__law_high, fd__law_high, m__law_high, k__law_high, b__law_high, G__law_high⟩ := C__law_high
    obtain ⟨f__law_says, fd__law_says, m__law_says, k__law_says, b__law_says, G__law_says⟩ := C__law_says
    obtain ⟨fi_Sum, fdi_Sum, M_Sum, b_Sum, G_Sum⟩ := K_Sum
    have m_Sum := C_Sum.m
    obtain ⟨fi_Power, fdi_Power, M_Power, b_Power, G_Power⟩ := K_Power
    have m_Power := C_Power.m
    obtain ⟨f_shows_Sum, fd_shows_Sum, m_shows_Sum, b_shows_Sum, G_shows_Sum⟩ := S_Sum
    have c_shows_Sum := C_Sum.cl
    obtain ⟨f_shows_Power, fd_shows_Power, m_shows_Power, b_shows_Power, G_shows_Power⟩ := S_Power
    have c_shows_Power := C_Power.cl
    refine ⟨_, (pss_cons (ps_set (i := 0) sc_law.nd rfl (Or.inl rfl) (pe_slice sl_list (pv 0) po_none (po_some pe_int)))
      (pss_cons (ps_for PassesOwn.never rfl (pi_range3 rfl B.range_ (pa_cons pe_int (pa_cons (pe_callB (call_max2 rfl) (by rfl) B.max_ (by decide +kernel) (pa_cons pe_int (pa_cons (pe_callB call_len_seq (by rfl) B.len_ (by decide +kernel) (pa_cons (pv 0) pa_nil)) pa_nil))) (pa_cons (pe_op op_add pe_int (pe_op op_fdiv (pe_callB call_len_seq (by rfl) B.len_ (by decide +kernel) (pa_cons (pv 0) pa_nil)) pe_int)) pa_nil)))) (pg_name (i := 1) sc_law.nd rfl (.inl rfl))
        (pss_cons (ps_set (i := 2) sc_law.nd rfl (Or.inl rfl) (pe_call G__law_number (hr.mono (by decide)) rfl m__law_number k__law_number b__law_number .nil pass0 (pa_cons (pv 0) (pa_cons (pv 1) pa_nil))))
        (pss_cons (ps_set (i := 3) sc_law.nd rfl (Or.inl rfl) (pe_slice sl_list (pe_call G__law_high (hr.mono (by decide)) rfl m__law_high k__law_high b__law_high .nil pass0 (pa_cons (pv 2) pa_nil)) po_none (po_some pe_int)))
        (pss_cons (ps_set (i := 3) sc_law.nd rfl (Or.inl rfl) (pe_op op_cat (pe_op op_cat (pv 3) (pe_lc (g := (gTup K 2 (gCons (gName 4) (gCons (gName 5) gNil)))) (own := [("_law_first", 4), ("_law_last", 5)]) rfl sc_law.nd (pi_list (pv 3)) (blkOk_by (N := ["_law_script", "_law_by", "_law_number_here", "_law_pairs", "_law_first", "_law_last", "_law_due", "_law_answer", "_law_often"]) (sc := defScope s_law) (by decide +kernel)) (fun _ _ _ _ _ => (pg_tup rfl (pgs_cons (pg_name (i := 4) sc_law.nd rfl (.inl rfl)) (pgs_cons (pg_name (i := 5) sc_law.nd rfl (.inl rfl)) pgs_nil)))) (fun _ _ _ _ _ => pts_nil) (fun _ _ _ _ _ => (pe_tup (pa_cons (pe_op op_sub pe_int (pv 4)) (pa_cons (pv 5) pa_nil)))))) (pe_lc (g := (gTup K 2 (gCons (gName 4) (gCons (gName 5) gNil)))) (own := [("_law_first", 4), ("_law_last", 5)]) rfl sc_law.nd (pi_list (pv 3)) (blkOk_by (N := ["_law_script", "_law_by", "_law_number_here", "_law_pairs", "_law_first", "_law_last", "_law_due", "_law_answer", "_law_often"]) (sc := defScope s_law) (by decide +kernel)) (fun _ _ _ _ _ => (pg_tup rfl (pgs_cons (pg_name (i := 4) sc_law.nd rfl (.inl rfl)) (pgs_cons (pg_name (i := 5) sc_law.nd rfl (.inl rfl)) pgs_nil)))) (fun _ _ _ _ _ => pts_nil) (fun _ _ _ _ _ => (pe_tup (pa_cons (pv 5) (pa_cons (pv 4) pa_nil)))))))
        (pss_cons (ps_set (i := 3) sc_law.nd rfl (Or.inl rfl) (pe_op op_cat (pe_op op_cat (pv 3) (pe_lc (g := (gTup K 2 (gCons (gName 4) (gCons (gName 5) gNil)))) (own := [("_law_first", 4), ("_law_last", 5)]) rfl sc_law.nd (pi_list (pv 3)) (blkOk_by (N := ["_law_script", "_law_by", "_law_number_here", "_law_pairs", "_law_first", "_law_last", "_law_due", "_law_answer", "_law_often"]) (sc := defScope s_law) (by decide +kernel)) (fun _ _ _ _ _ => (pg_tup rfl (pgs_cons (pg_name (i := 4) sc_law.nd rfl (.inl rfl)) (pgs_cons (pg_name (i := 5) sc_law.nd rfl (.inl rfl)) pgs_nil)))) (fun _ _ _ _ _ => pts_nil) (fun _ _ _ _ _ => (pe_tup (pa_cons (pe_op op_add (pv 4) pe_int) (pa_cons (pv 5) pa_nil)))))) (pe_lst (pa_cons (pe_tup (pa_cons pe_int (pa_cons pe_int pa_nil))) (pa_cons (pe_tup (pa_cons (pe_un un_neg pe_int) (pa_cons pe_int pa_nil))) (pa_cons (pe_tup (pa_cons (pe_op op_pow pe_int pe_int) (pa_cons (pe_op op_add (pe_op op_pow pe_int pe_int) pe_int) pa_nil))) pa_nil))))))
        (pss_cons (ps_for PassesOwn.never rfl (pi_list (pv 3)) (pg_tup rfl (pgs_cons (pg_name (i := 4) sc_law.nd rfl (.inl rfl)) (pgs_cons (pg_name (i := 5) sc_law.nd rfl (.inl rfl)) pgs_nil)))
          (pss_cons (ps_set (i := 6) sc_law.nd rfl (Or.inl rfl) (pe_and (pe_chain op_lt op_lt pe_int (pv 4) (pv 5)) (pe_one (pe_cmpR op_eq (pe_op op_mulX (pe_callB (cr_sum rfl) (by rfl) B.sum_ (by decide +kernel) (pa_cons (pe_lst (pa_cons (pv 4) (pa_cons (pv 5) pa_nil))) pa_nil)) (pe_op op_add (pe_op op_sub (pv 5) (pv 4)) pe_int)) (pe_op op_mul pe_int (pv 2)) (nomark _)))))
          (pss_cons (ps_set (i := 7) sc_law.nd rfl (Or.inl rfl) (pe_make M_Sum G_Sum (hr.mono (by decide)) rfl m_Sum b_Sum .nil pass0 (pa_cons (pv 4) (pa_cons (pv 5) pa_nil))))
          (pss_one (ps_if (PW.pt (pw_or (pt_cmpR (r := rNeD K) (op_neD hr.units) (pe_tup (pa_cons (pe_fld (pv 7) rfl) (pa_cons (pe_fld (pv 7) rfl) pa_nil))) (pe_tup (pa_cons (pv 4) (pa_cons (pv 5) pa_nil))) (nomark _)) (pw_or1 (pt_not (pt_val (pe_call G__law_says (hr.mono (by decide)) rfl m__law_says k__law_says b__law_says .nil pass0 (pa_cons (pe_meth (pv 7) c_shows_Sum m_shows_Sum G_shows_Sum (hr.mono (by decide)) b_shows_Sum .nil pass0 (pa_cons (pv 2) pa_nil)) (pa_cons (pv 6) pa_nil)))))))) (pss_one (ps_ret pe_bl)) pss_nil)))))
        (pss_one (ps_for PassesOwn.never rfl (pi_list (pe_lst (pa_cons pe_int (pa_cons pe_int (pa_cons pe_int (pa_cons pe_int (pa_cons pe_int (pa_cons pe_int (pa_cons (pe_un un_neg pe_int) (pa_cons (pe_un un_neg (pe_op op_pow pe_int pe_int)) (pa_cons pe_int (pa_cons (pe_op op_pow pe_int pe_int) (pa_cons (pe_op op_mod (pv 2) pe_int) pa_nil))))))))))))) (pg_name (i := 8) sc_law.nd rfl (.inl rfl))
          (pss_cons (ps_set (i := 6) sc_law.nd rfl (Or.inl rfl) (pe_and (pe_chain op_le op_lt pe_int (pv 8) pe_int) (pe_one (pe_cmpR op_eq (pe_op op_shl pe_int (pv 8)) (pv 2) (nomark _)))))
          (pss_one (ps_if (PW.pt (pw_or (pt_cmpR op_ne (pe_fld (pe_make M_Power G_Power (hr.mono (by decide)) rfl m_Power b_Power .nil pass0 (pa_cons (pv 8) pa_nil)) rfl) (pv 8) (nomark _)) (pw_or1 (pt_not (pt_val (pe_call G__law_says (hr.mono (by decide)) rfl m__law_says k__law_says b__law_says .nil pass0 (pa_cons (pe_meth (pe_make M_Power G_Power (hr.mono (by decide)) rfl m_Power b_Power .nil pass0 (pa_cons (pv 8) pa_nil)) c_shows_Power m_shows_Power G_shows_Power (hr.mono (by decide)) b_shows_Power .nil pass0 (pa_cons (pv 2) pa_nil)) (pa_cons (pv 6) pa_nil)))))))) (pss_one (ps_ret pe_bl)) pss_nil)))))))))))
      (pss_one (ps_ret (pe_and (pe_cmpR op_isBl (pe_meth (pe_make M_Sum G_Sum (hr.mono (by decide)) rfl m_Sum b_Sum .nil pass0 (pa_cons pe_int (pa_cons pe_int pa_nil))) c_shows_Sum m_shows_Sum G_shows_Sum (hr.mono (by decide)) b_shows_Sum .nil pass0 (pa_cons pe_int pa_nil)) pe_bl (nomark _)) (pe_and (pe_cmpR op_isBl (pe_meth (pe_make M_Sum G_Sum (hr.mono (by decide)) rfl m_Sum b_Sum .nil pass0 (pa_cons pe_int (pa_cons pe_int pa_nil))) c_shows_Sum m_shows_Sum G_shows_Sum (hr.mono (by decide)) b_shows_Sum .nil pass0 (pa_cons pe_int pa_nil)) pe_bl (nomark _)) (pe_one (pe_cmpR op_isBl (pe_meth (pe_make M_Power G_Power (hr.mono (by decide)) rfl m_Power b_Power .nil pass0 (pa_cons pe_int pa_nil)) c_shows_Power m_shows_Power G_shows_Power (hr.mono (by decide)) b_shows_Power .nil pass0 (pa_cons pe_int pa_nil)) pe_bl (nomark _))))))))), ?_⟩
    -- script[:63]
    obtain ⟨ns, ens, hsub, hlen⟩ := cut_int ns0 none (some 63)
    refine ⟨_, rfl, 63, rfl, a, _, rfl, hS0, fun p np => ?_⟩
    rw [ens]
    have hb : Bits ns := fun z hz => hb0 z (hsub z hz)
    have hl : ns.length ≤ 63 := by omega
    clear hS0 hb0 hl0 ens hsub hlen
    -- for by in range(..)
    have lm : (ns.map V.int).length = ns.length := List.length_map ..
    refine ⟨_, rfl, p, _, rfl, .inl (SqL.of upd_same), _, _, rfl, ?_⟩
    refine ⟨_, rfl, p, _, rfl, .inl (SqL.of upd_same), _, _, rfl, rfl, ⟨by decide, by decide⟩, _, _, rfl, rfl, ?_⟩
    obtain ⟨n, hn, hrg⟩ := rg3 (d := 4) hl (.inr (.inl rfl))
    refine ⟨_, _, _, n, rfl, (by rw [lm]; exact hrg), ?_⟩
    rw [lm]
    generalize hH1 : upd H p (.lst (ns.map V.int)) = H1
    have gp : H1 p = some (.lst (ns.map V.int)) := by rw [← hH1]; exact upd_same
    refine for_rangeC (fun i σ H' => ∃ x1 x2 x3 x4 x5 x6 x7 x8, σ = [some (.ref p), x1, x2, x3, x4, x5, x6, x7, x8] ∧ Same H1 H') ⟨_, _, _, _, _, _, _, _, rfl, Same.refl _⟩ ?_ ?_
    · rintro i σ H2 hi ⟨x1, x2, x3, x4, x5, x6, x7, x8, rfl, s2⟩
      obtain ⟨hby0, hby1⟩ := by_ok hl (.inr (.inl rfl)) hi hn
      -- number; its first four rows
      refine ⟨_, rfl, _, rfl, p, ns, _, rfl, SqL.of (s2 _ _ gp), hb, hby0, hby1, fun n H3 n1 n2 s3 => ?_⟩
      refine ⟨_, rfl, n, rfl, n1, n2, fun ps0 ph H4 hps hlps s4 nph h4 => ?_⟩
      obtain ⟨xh, gh, hxh⟩ := h4
      refine ⟨4, rfl, ph, _, rfl, SqL.of gh, fun pa npa => ?_⟩
      obtain ⟨ps, hpl, hsub, hlen⟩ := cut_pl hxh none (some 4)
      generalize cutV xh none (some 4) = xa at hpl
      have sm0 : ∀ p ∈ ps, -2000000 ≤ p.1 ∧ p.1 ≤ 2000000 ∧ -2000000 ≤ p.2 ∧ p.2 ≤ 2000000 := fun ⟨a, b⟩ hp => by
        have := isRow_small n1 n2 ((hps.mem a b).mp (hsub _ hp)).1
        simp only
        omega
      have hlp : ps.length ≤ 3000 := by omega
      have s5 : Same H4 _ := Same.new (o := .lst xa) npa
      have ga : upd H4 pa (.lst xa) pa = some (.lst xa) := upd_same
      have hpa := hpl.same s5
      have s15 := ((s2.trans s3).trans s4).trans s5
      generalize upd H4 pa (.lst xa) = H5 at s5 ga hpa s15
      clear hps hlps gh hxh hsub hpl hlen
      -- + [(1 - first, last) ..] + [(last, first) ..]
      refine ⟨_, rfl, _, rfl, pa, rfl, ⟨_, SqL.of ga⟩, fun D nD => ?_⟩
      refine lc_prs ga hpa nD (fun p => (1 - p.1, p.2)) (by omega) (fun _ _ => rfl) (fun p hp H' Qc qc => ⟨_, rfl, _, _, rfl, rfl, _, rfl, (by show 2 ≤ sizeLine; decide), qc⟩) fun H6 s6 hD => ?_
      obtain ⟨xD, gD, hxD⟩ := hD
      have hxa6 := hpa.same s6
      have l1 := hxa6.length
      have l2 := hxD.length
      rw [List.length_map] at l2
      refine ⟨pa, D, _, _, rfl, rfl, s6 _ _ ga, gD, Nat.le_of_lt (small1000' (by omega)), fun pb npb => ?_⟩
      have s7 : Same H6 _ := Same.new (o := .lst (xa ++ xD)) npb
      have gb : upd H6 pb (.lst (xa ++ xD)) pb = some (.lst (xa ++ xD)) := upd_same
      have hxb := (hxa6.append hxD).same s7
      have s57 := s6.trans s7
      generalize upd H6 pb (.lst (xa ++ xD)) = H7 at s7 gb hxb s57
      refine ⟨_, rfl, pa, rfl, ⟨_, SqL.of (s57 _ _ ga)⟩, fun D2 nD2 => ?_⟩
      refine lc_prs (s57 _ _ ga) (hpa.same s57) nD2 (fun p => (p.2, p.1)) (by omega) (fun _ _ => rfl) (fun p hp H' Qc qc => ⟨_, rfl, _, rfl, (by show 2 ≤ sizeLine; decide), qc⟩) fun H8 s8 hD2 => ?_
      obtain ⟨xD2, gD2, hxD2⟩ := hD2
      have l3 := hxD2.length
      rw [List.length_map] at l3
      refine ⟨pb, D2, _, _, rfl, rfl, s8 _ _ gb, gD2, Nat.le_of_lt (small1000' (by rw [List.length_append]; omega)), fun pc npc => ?_⟩
      have hxc8 := (hxb.same s8).append hxD2
      have sm1 : ∀ p ∈ (ps ++ ps.map fun p : Int × Int => ((1 - p.1, p.2) : Int × Int)) ++ ps.map (fun p : Int × Int => ((p.2, p.1) : Int × Int)), -2000001 ≤ p.1 ∧ p.1 ≤ 2000001 ∧ -2000001 ≤ p.2 ∧ p.2 ≤ 2000001 := by
        intro p hp
        rcases List.mem_append.mp hp with hp | hp
        · rcases List.mem_append.mp hp with hp | hp
          · have := sm0 p hp
            omega
          · obtain ⟨⟨a, b⟩, hm, rfl⟩ := List.mem_map.mp hp
            have := sm0 _ hm
            simp only at this ⊢
            omega
        · obtain ⟨⟨a, b⟩, hm, rfl⟩ := List.mem_map.mp hp
          have := sm0 _ hm
          simp only at this ⊢
          omega
      have hlc : ((ps ++ ps.map fun p : Int × Int => ((1 - p.1, p.2) : Int × Int)) ++ ps.map (fun p : Int × Int => ((p.2, p.1) : Int × Int))).length ≤ 9000 := by
        rw [List.length_append, List.length_append, List.length_map, List.length_map]
        omega
      generalize (ps ++ ps.map fun p : Int × Int => ((1 - p.1, p.2) : Int × Int)) ++ ps.map (fun p : Int × Int => ((p.2, p.1) : Int × Int)) = ps1 at hxc8 sm1 hlc
      have s9 : Same H8 _ := Same.new (o := .lst (xa ++ xD ++ xD2)) npc
      have gc : upd H8 pc (.lst (xa ++ xD ++ xD2)) pc = some (.lst (xa ++ xD ++ xD2)) := upd_same
      have hxc := hxc8.same s9
      have s19 := ((s15.trans s57).trans s8).trans s9
      generalize upd H8 pc (.lst (xa ++ xD ++ xD2)) = H9 at s9 gc hxc s19
      generalize xa ++ xD ++ xD2 = xc at gc hxc
      clear s9 s8 hxD2 gD2 nD2 hxb gb s7 s57 hxa6 hxD gD s6 nD
      -- + [(first + 1, last) ..] + [(0, 1), ..]
      refine ⟨_, rfl, _, rfl, pc, rfl, ⟨_, SqL.of gc⟩, fun D nD => ?_⟩
      refine lc_prs gc hxc nD (fun p => (p.1 + 1, p.2)) (by omega) (fun _ _ => rfl) (fun p hp H' Qc qc => ⟨_, rfl, _, _, rfl, rfl, _, rfl, (by show 2 ≤ sizeLine; decide), qc⟩) fun H10 s10 hD => ?_
      obtain ⟨xD, gD, hxD⟩ := hD
      have hxc10 := hxc.same s10
      have l4 := hxc10.length
      have l5 := hxD.length
      rw [List.length_map] at l5
      refine ⟨pc, D, _, _, rfl, rfl, s10 _ _ gc, gD, Nat.le_of_lt (small1000' (by omega)), fun pd npd => ?_⟩
      have e20 : (10 : Int) ^ Int.toNat 20 = 100000000000000000000 := by decide
      refine ⟨(by show 2 ≤ sizeLine; decide), fun t1 nt1 => ⟨1, rfl, (by show 2 ≤ sizeLine; decide), fun t2 nt2 => ⟨_, _, rfl, rfl, ⟨by decide, by decide, by decide⟩, _, _, rfl, rfl, ⟨by decide, by decide, by decide⟩, _, _, rfl, rfl, (by show 2 ≤ sizeLine; decide), fun t3 nt3 => ⟨(by show 3 ≤ sizeLine; decide), fun pe npe => ?_⟩⟩⟩⟩
      have sd : Same H10 _ := Same.new (o := .lst (xc ++ xD)) npd
      have st1 := Same.new (o := .tup [.int 0, .int 1]) nt1
      have st2 := Same.new (o := .tup [.int (-1), .int 1]) nt2
      have st3 := Same.new (o := .tup [.int ((10 : Int) ^ Int.toNat 20), .int ((10 : Int) ^ Int.toNat 20 + 1)]) nt3
      have se := Same.new (o := .lst [.ref t1, .ref t2, .ref t3]) npe
      have gd := se _ _ (st3 _ _ (st2 _ _ (st1 _ _ (upd_same (H := H10) (a := pd) (o := .lst (xc ++ xD))))))
      have s1e := (((sd.trans st1).trans st2).trans st3).trans se
      have hx1 := (hxc10.append hxD).same s1e
      have hx2 : PL _ [.ref t1, .ref t2, .ref t3] [(0, 1), (-1, 1), ((10 : Int) ^ Int.toNat 20, (10 : Int) ^ Int.toNat 20 + 1)] := .cons ⟨t1, rfl, se _ _ (st3 _ _ (st2 _ _ (upd_same)))⟩ (.cons ⟨t2, rfl, se _ _ (st3 _ _ upd_same)⟩ (.cons ⟨t3, rfl, se _ _ upd_same⟩ .nil))
      refine ⟨pd, pe, _, _, rfl, rfl, gd, upd_same, Nat.le_of_lt (small1000' (by rw [List.length_append]; show _ + _ + 3 ≤ _; omega)), fun pf npf => ?_⟩
      have hx3 := hx1.append hx2
      have s20 := (s10.trans s1e).trans (Same.new (o := .lst (xc ++ xD ++ [.ref t1, .ref t2, .ref t3])) npf)
      have hx4 := hx3.same (Same.new (o := .lst (xc ++ xD ++ [.ref t1, .ref t2, .ref t3])) npf)
      have gf := upd_same (H := upd (upd (upd (upd (upd H10 pd (.lst (xc ++ xD))) t1 (.tup [.int 0, .int 1])) t2 (.tup [.int (-1), .int 1])) t3 (.tup [.int ((10 : Int) ^ Int.toNat 20), .int ((10 : Int) ^ Int.toNat 20 + 1)])) pe (.lst [.ref t1, .ref t2, .ref t3])) (a := pf) (o := .lst (xc ++ xD ++ [.ref t1, .ref t2, .ref t3]))
      have sm2 : SmP (ps1 ++ (ps1.map fun p : Int × Int => ((p.1 + 1, p.2) : Int × Int)) ++ [(0, 1), (-1, 1), ((10 : Int) ^ Int.toNat 20, (10 : Int) ^ Int.toNat 20 + 1)]) := by
        intro p hp
        unfold Sm
        rcases List.mem_append.mp hp with hp | hp
        · rcases List.mem_append.mp hp with hp | hp
          · have := sm1 p hp
            omega
          · obtain ⟨⟨a, b⟩, hm, rfl⟩ := List.mem_map.mp hp
            have := sm1 _ hm
            simp only at this ⊢
            omega
        · simp only [List.mem_cons, List.not_mem_nil, or_false] at hp
          rw [e20] at hp
          rcases hp with rfl | rfl | rfl <;> simp only <;> omega
      generalize (ps1 ++ (ps1.map fun p : Int × Int => ((p.1 + 1, p.2) : Int × Int)) ++ [(0, 1), (-1, 1), ((10 : Int) ^ Int.toNat 20, (10 : Int) ^ Int.toNat 20 + 1)]) = ps2 at hx4 sm2
      generalize upd (upd (upd (upd (upd (upd H10 pd (.lst (xc ++ xD))) t1 (.tup [.int 0, .int 1])) t2 (.tup [.int (-1), .int 1])) t3 (.tup [.int ((10 : Int) ^ Int.toNat 20), .int ((10 : Int) ^ Int.toNat 20 + 1)])) pe (.lst [.ref t1, .ref t2, .ref t3])) pf (.lst (xc ++ xD ++ [.ref t1, .ref t2, .ref t3])) = H11 at s20 hx4 gf
      generalize xc ++ xD ++ [.ref t1, .ref t2, .ref t3] = xf at hx4 gf
      clear hx3 hx2 hx1 s1e gd se st3 st2 st1 sd
      -- for first, last in pairs
      refine ⟨_, rfl, pf, rfl, ⟨_, SqL.of gf⟩, for_list (xs := xf) (fun i σ H' => ∃ x1 x4 x5 x6 x7 x8, σ = [some (.ref p), x1, some (.int n), some (.ref pf), x4, x5, x6, x7, x8] ∧ Same H11 H') ⟨_, _, _, _, _, _, rfl, Same.refl _⟩ ?_ ?_ ?_⟩
      · rintro i σ H' _ ⟨_, _, _, _, _, _, rfl, s⟩
        exact SqL.of (s _ _ gf)
      · rintro i x σ H12 hx ⟨x1, x4, x5, x6, x7, x8, rfl, s12⟩
        obtain ⟨⟨a, b⟩, hpi, t, rfl, ht⟩ := hx4.get hx
        obtain ⟨sa, sb⟩ := sm2 _ (List.mem_of_getElem? hpi)
        have ba := sa.ib
        have bb := sb.ib
        refine ⟨t, _, rfl, SqT.of (s12 _ _ ht), rfl, _, _, rfl, _, _, rfl, rfl, ?_⟩
        -- due
        dsimp only [tSeq, tAsg]
        refine to_any (P := fun x H' => x = .bl (sumSays a b n) ∧ Same H12 H') ?_ ?_
        · intro Q q
          refine ⟨_, rfl, _, _, rfl, rfl, _, rfl, ?_⟩
          by_cases h0 : 0 < a
          · refine iteD h0 ?_
            refine ⟨_, rfl, _, _, rfl, rfl, _, rfl, ?_⟩
            by_cases h1 : a < b
            · refine iteD h1 ?_
              refine ⟨_, rfl, _, rfl, (by show 2 ≤ sizeLine; decide), fun l nl => ⟨l, [a, b], rfl, SqL.of upd_same, ?_⟩⟩
              have es : ([a, b] : List Int).sum = a + b := by simp
              refine ⟨_, rfl, _, rfl, _, _, rfl, rfl, _, _, rfl, rfl, _, _, rfl, rfl, ?_, _, rfl, _, _, rfl, rfl, .inl ⟨by decide, by decide⟩, rfl, q _ _ ⟨?_, Same.new nl⟩⟩
              · rw [es]
                exact mulx (ib_add ba bb) (ib_add (ib_sub bb ba) (show ib 1 ≤ 1000 by decide)) (by decide)
              · refine congrArg V.bl ((dV _ _).trans ?_)
                rw [es]
                unfold sumSays
                by_cases h2 : (a + b) * (b - a + 1) = 2 * n <;> simp [h0, h1, h2]
            · refine iteDN h1 (q _ _ ⟨?_, Same.refl _⟩)
              unfold sumSays
              simp [h1]
          · refine iteDN h0 ⟨_, rfl, iteF (q _ _ ⟨?_, Same.refl _⟩)⟩
            unfold sumSays
            simp [h0]
        rintro _ H13 ⟨rfl, s13⟩
        -- the answer
        refine ⟨_, rfl, _, rfl, fun x dx nx ndx nex => ?_⟩
        refine ⟨x, dx, a, b, rfl, upd_same, fun H14 hS kp => ⟨rfl, ?_⟩⟩
        obtain ⟨dx', hx14⟩ := hS
        have s14 := Same.made nx ndx kp
        refine ⟨_, rfl, x, CS, dx', _, _, rfl, hx14, C_Sum.cl, nf, sumF_first _ _, _, rfl, x, CS, dx', _, _, rfl, hx14, C_Sum.cl, nl, sumF_last _ _, (by show 2 ≤ sizeLine; decide), fun u1 nu1 => ⟨_, rfl, _, rfl, (by show 2 ≤ sizeLine; decide), fun u2 nu2 => ?_⟩⟩
        refine rd_neP (p := (a, b)) (q := (a, b)) ⟨u1, rfl, Same.new nu2 _ _ upd_same⟩ ⟨u2, rfl, upd_same⟩ ⟨_, rfl, iteNS rfl ?_⟩
        have s15 := (Same.new (o := .tup [.int a, .int b]) nu1).trans (Same.new (o := .tup [.int a, .int b]) nu2)
        have hx15 := s15 _ _ hx14
        refine ⟨_, rfl, x, dx', _, rfl, hx15, sumF_shows _ _, _, rfl, x, a, b, n, rfl, ⟨dx', hx15⟩, ba, bb, ?_⟩
        refine ⟨_, rfl, _, _, rfl, _, rfl, itN (by simp) ?_⟩
        exact ⟨_, _, _, _, _, _, rfl, ((s12.trans s13).trans s14).trans s15⟩
      · rintro σ H12 ⟨x1, x4, x5, x6, x7, x8, rfl, s12⟩
        have m20 : 0 ≤ n % 20 ∧ n % 20 < 20 := by omega
        refine ⟨1, rfl, _, _, rfl, rfl, ⟨by decide, by decide, by decide⟩, _, rfl, _, _, rfl, rfl, ⟨by decide, by decide, by decide⟩, _, rfl, _, _, rfl, rfl, (by show (0 : Int) < 20; decide), (by show 11 ≤ sizeLine; decide), fun pl npl => ?_⟩
        have sl := Same.new (o := .lst [.int 0, .int 1, .int 2, .int 5, .int 19, .int 20, .int (-1), .int (-((10 : Int) ^ Int.toNat 20)), .int 39, .int ((10 : Int) ^ Int.toNat 3), .int (n % 20)]) npl
        have gl : upd H12 pl (.lst [.int 0, .int 1, .int 2, .int 5, .int 19, .int 20, .int (-1), .int (-((10 : Int) ^ Int.toNat 20)), .int 39, .int ((10 : Int) ^ Int.toNat 3), .int (n % 20)]) pl = some (.lst (([0, 1, 2, 5, 19, 20, -1, -((10 : Int) ^ Int.toNat 20), 39, (10 : Int) ^ Int.toNat 3, n % 20] : List Int).map V.int)) := upd_same
        generalize upd H12 pl (.lst [.int 0, .int 1, .int 2, .int 5, .int 19, .int 20, .int (-1), .int (-((10 : Int) ^ Int.toNat 20)), .int 39, .int ((10 : Int) ^ Int.toNat 3), .int (n % 20)]) = H13 at sl gl
        generalize ([0, 1, 2, 5, 19, 20, -1, -((10 : Int) ^ Int.toNat 20), 39, (10 : Int) ^ Int.toNat 3, n % 20] : List Int) = zs at gl
        refine ⟨pl, rfl, ⟨_, SqL.of gl⟩, for_list (xs := zs.map V.int) (fun i σ H' => ∃ x1 x4 x5 x6 x7 x8, σ = [some (.ref p), x1, some (.int n), some (.ref pf), x4, x5, x6, x7, x8] ∧ Same H13 H') ⟨_, _, _, _, _, _, rfl, Same.refl _⟩ ?_ ?_ ?_⟩
        · rintro i σ H' _ ⟨_, _, _, _, _, _, rfl, s⟩
          exact SqL.of (s _ _ gl)
        · rintro i xv σ H14 hxv ⟨x1, x4, x5, x6, x7, x8, rfl, s14⟩
          obtain ⟨z, hz, rfl⟩ := List.mem_map.mp (List.mem_of_getElem? hxv)
          dsimp only [tSeq, tAsg, gName]
          refine to_any (P := fun x H' => x = .bl (powSays z n 30) ∧ H' = H14) ?_ ?_
          · intro Q q
            refine ⟨_, rfl, _, _, rfl, rfl, _, rfl, ?_⟩
            by_cases h0 : 0 ≤ z
            · refine iteD h0 ?_
              refine ⟨_, _, rfl, rfl, _, rfl, ?_⟩
              by_cases h1 : z < 30
              · refine iteD h1 ?_
                refine ⟨_, rfl, _, _, rfl, rfl, ⟨h0, by omega, by decide⟩, _, rfl, rfl, q _ _ ⟨?_, rfl⟩⟩
                refine congrArg V.bl ((dV _ _).trans ?_)
                unfold powSays
                rw [Int.one_mul]
                by_cases h2 : (2 : Int) ^ z.toNat = n <;> simp [h0, h1, h2]
              · refine iteDN h1 (q _ _ ⟨?_, rfl⟩)
                unfold powSays
                simp [h1]
            · refine iteDN h0 ⟨_, rfl, iteF (q _ _ ⟨?_, rfl⟩)⟩
              unfold powSays
              simp [h0]
          rintro _ H15 ⟨rfl, rfl⟩
          refine ⟨_, rfl, fun x dx nx ndx nex => ?_⟩
          refine ⟨x, dx, z, rfl, upd_same, fun H16 hP kp => ⟨rfl, ?_⟩⟩
          have s16 := Same.made nx ndx kp
          obtain ⟨dx', hx16⟩ := hP
          refine ⟨x, CP, dx', _, _, rfl, hx16, C_Power.cl, no, powF_often _, _, rfl, rfl, _, rfl, iteNS rfl ?_⟩
          refine ⟨_, rfl, fun y dy ny ndy ney => ?_⟩
          refine ⟨y, dy, z, rfl, upd_same, fun H17 hP kp => ⟨rfl, ?_⟩⟩
          have s17 := Same.made ny ndy kp
          obtain ⟨dy', hy17⟩ := hP
          refine ⟨y, dy', _, rfl, hy17, powF_shows _, _, rfl, y, z, n, rfl, ⟨dy', hy17⟩, ?_⟩
          refine ⟨_, rfl, _, _, rfl, _, rfl, itN (by rw [powSays_30 n2]; simp) ?_⟩
          exact ⟨_, _, _, _, _, _, rfl, (s14.trans s16).trans s17⟩
        · rintro σ H14 ⟨x1, x4, x5, x6, x7, x8, rfl, s14⟩
          exact ⟨_, _, _, _, _, _, _, _, rfl, (((s19.trans s20).trans s12).trans sl).trans s14⟩
    · rintro σ H2 ⟨x1, x2, x3, x4, x5, x6, x7, x8, rfl, s2⟩
      refine fun x dx nx ndx nex => ?_
      refine ⟨x, dx, 1, 5, rfl, upd_same, fun H3 hS kp => ⟨rfl, ?_⟩⟩
      obtain ⟨dx', hx⟩ := hS
      refine ⟨x, dx', _, rfl, hx, sumF_shows _ _, x, 1, 5, 15, rfl, ⟨dx', hx⟩, by decide, by decide, _, _, rfl, rfl, _, rfl, iteD (show sumSays 1 5 15 = true by decide) ?_⟩
      refine fun x dx nx ndx nex => ?_
      refine ⟨x, dx, 15, 15, rfl, upd_same, fun H4 hS kp => ⟨rfl, ?_⟩⟩
      obtain ⟨dx', hx⟩ := hS
      refine ⟨x, dx', _, rfl, hx, sumF_shows _ _, x, 15, 15, 15, rfl, ⟨dx', hx⟩, by decide, by decide, _, _, rfl, rfl, _, rfl, iteD (show sumSays 15 15 15 = false by decide) ?_⟩
      refine fun x dx nx ndx nex => ?_
      refine ⟨x, dx, 4, rfl, upd_same, fun H5 hP kp => ⟨rfl, ?_⟩⟩
      obtain ⟨dx', hx⟩ := hP
      refine ⟨x, dx', _, rfl, hx, powF_shows _, x, 4, 16, rfl, ⟨dx', hx⟩, _, _, rfl, rfl, ?_⟩
      exact q _
end
end NB

set_option Elab.async false
set_option maxRecDepth 100000
set_option maxHeartbeats 4000000
set_option linter.unusedVariables false
namespace NB
open PySem L2
section
variable {P : Program} {w : World} {K : PySem.W.Frag} {mg : Str → Option Value} {base : Heap}
theorem mkC {P : Program} {w : World} {K : PySem.W.Frag} {mg : Str → Option Value} {base : Heap} {x : Str} {q : Str} {st : Stmt} {f : Addr} {fd : FuncData} {ps : List Str} {k : Nat} {sp : Sp} (m : mg x = some (.ref f)) (F : Fun K x q st f fd) (b : Binds K fd ps []) (G : FnOk P w K mg base CX0 k f fd ps sp) : Callee P w K mg base k x ps sp := ⟨f, fd, m, F.kp, b, G⟩
end
theorem all_mk {l : PySem.W.OpenLaw} {w : World} {K : PySem.W.Frag} {h : Heap} {mg : Str → Option Value} {fa : Addr} (X : K.In h) (G : h.Ns mainGlobals mg) (hfa : mg "law" = some (.ref fa))
    {f__law_cell_at : Addr} {od__law_cell_at an__law_cell_at : Option Addr} {sl__law_cell_at : Array (Option Value)} {oc__law_cell_at kV__law_cell_at dc__law_cell_at pm__law_cell_at cd__law_cell_at ct__law_cell_at : Value}
    (a__law_cell_at : PySem.W.nsIn K mainGlobals "_law_cell_at" = some (some (.ref f__law_cell_at))) (l__law_cell_at : K.lookup f__law_cell_at = some ⟨oc__law_cell_at, od__law_cell_at, .func (PySem.W.fnOf "_law_cell_at" "_law_cell_at" (defArgs s__law_cell_at) (defBody s__law_cell_at) (defScope s__law_cell_at) .none kV__law_cell_at dc__law_cell_at pm__law_cell_at an__law_cell_at cd__law_cell_at ct__law_cell_at), sl__law_cell_at⟩) (c__law_cell_at : PySem.W.codeIn K cd__law_cell_at "_law_cell_at" = true) (k__law_cell_at : PySem.W.keepIn K (.ref f__law_cell_at) = true)
    {f__law_draw : Addr} {od__law_draw an__law_draw : Option Addr} {sl__law_draw : Array (Option Value)} {oc__law_draw kV__law_draw dc__law_draw pm__law_draw cd__law_draw ct__law_draw : Value}
    (a__law_draw : PySem.W.nsIn K mainGlobals "_law_draw" = some (some (.ref f__law_draw))) (l__law_draw : K.lookup f__law_draw = some ⟨oc__law_draw, od__law_draw, .func (PySem.W.fnOf "_law_draw" "_law_draw" (defArgs s__law_draw) (defBody s__law_draw) (defScope s__law_draw) .none kV__law_draw dc__law_draw pm__law_draw an__law_draw cd__law_draw ct__law_draw), sl__law_draw⟩) (c__law_draw : PySem.W.codeIn K cd__law_draw "_law_draw" = true) (k__law_draw : PySem.W.keepIn K (.ref f__law_draw) = true)
    {f__law_value : Addr} {od__law_value an__law_value : Option Addr} {sl__law_value : Array (Option Value)} {oc__law_value kV__law_value dc__law_value pm__law_value cd__law_value ct__law_value : Value}
    (a__law_value : PySem.W.nsIn K mainGlobals "_law_value" = some (some (.ref f__law_value))) (l__law_value : K.lookup f__law_value = some ⟨oc__law_value, od__law_value, .func (PySem.W.fnOf "_law_value" "_law_value" (defArgs s__law_value) (defBody s__law_value) (defScope s__law_value) .none kV__law_value dc__law_value pm__law_value an__law_value cd__law_value ct__law_value), sl__law_value⟩) (c__law_value : PySem.W.codeIn K cd__law_value "_law_value" = true) (k__law_value : PySem.W.keepIn K (.ref f__law_value) = true)
    {f__law_number : Addr} {od__law_number an__law_number : Option Addr} {sl__law_number : Array (Option Value)} {oc__law_number kV__law_number dc__law_number pm__law_number cd__law_number ct__law_number : Value}
    (a__law_number : PySem.W.nsIn K mainGlobals "_law_number" = some (some (.ref f__law_number))) (l__law_number : K.lookup f__law_number = some ⟨oc__law_number, od__law_number, .func (PySem.W.fnOf "_law_number" "_law_number" (defArgs s__law_number) (defBody s__law_number) (defScope s__law_number) .none kV__law_number dc__law_number pm__law_number an__law_number cd__law_number ct__law_number), sl__law_number⟩) (c__law_number : PySem.W.codeIn K cd__law_number "_law_number" = true) (k__law_number : PySem.W.keepIn K (.ref f__law_number) = true)
    {f__law_high : Addr} {od__law_high an__law_high : Option Addr} {sl__law_high : Array (Option Value)} {oc__law_high kV__law_high dc__law_high pm__law_high cd__law_high ct__law_high : Value}
    (a__law_high : PySem.W.nsIn K mainGlobals "_law_high" = some (some (.ref f__law_high))) (l__law_high : K.lookup f__law_high = some ⟨oc__law_high, od__law_high, .func (PySem.W.fnOf "_law_high" "_law_high" (defArgs s__law_high) (defBody s__law_high) (defScope s__law_high) .none kV__law_high dc__law_high pm__law_high an__law_high cd__law_high ct__law_high), sl__law_high⟩) (c__law_high : PySem.W.codeIn K cd__law_high "_law_high" = true) (k__law_high : PySem.W.keepIn K (.ref f__law_high) = true)
    {f__law_says : Addr} {od__law_says an__law_says : Option Addr} {sl__law_says : Array (Option Value)} {oc__law_says kV__law_says dc__law_says pm__law_says cd__law_says ct__law_says : Value}
    (a__law_says : PySem.W.nsIn K mainGlobals "_law_says" = some (some (.ref f__law_says))) (l__law_says : K.lookup f__law_says = some ⟨oc__law_says, od__law_says, .func (PySem.W.fnOf "_law_says" "_law_says" (defArgs s__law_says) (defBody s__law_says) (defScope s__law_says) .none kV__law_says dc__law_says pm__law_says an__law_says cd__law_says ct__law_says), sl__law_says⟩) (c__law_says : PySem.W.codeIn K cd__law_says "_law_says" = true) (k__law_says : PySem.W.keepIn K (.ref f__law_says) = true)
    {f_law : Addr} {od_law an_law : Option Addr} {sl_law : Array (Option Value)} {oc_law kV_law dc_law pm_law cd_law ct_law : Value}
    (a_law : PySem.W.nsIn K mainGlobals "law" = some (some (.ref f_law))) (l_law : K.lookup f_law = some ⟨oc_law, od_law, .func (PySem.W.fnOf "law" "law" (defArgs s_law) (defBody s_law) (defScope s_law) .none kV_law dc_law pm_law an_law cd_law ct_law), sl_law⟩) (c_law : PySem.W.codeIn K cd_law "law" = true) (k_law : PySem.W.keepIn K (.ref f_law) = true)
    {CS CP : Addr}
    (y_hn : PySem.W.specialIn K (.builtin "object.__class__") "__get__" = some (some (.builtin "getset_descriptor.__get__"))) (y_htk : PySem.W.takesIn K (.builtin "object.__class__") = some true)
    (ya_Sum : PySem.W.nsIn K mainGlobals "Sum" = some (some (.ref CS))) (yp_Sum : PySem.W.plainGet K CS Str.empty = true) (yh_Sum : PySem.W.hasDictIn K CS = true) (yo_Sum : PySem.W.plainOver K CS = true) (ys_Sum : PySem.W.findIn K (.ref CS) "__setattr__" = some (some (.builtin "object.__setattr__"))) (yc_Sum : PySem.W.findIn K (.ref CS) "__class__" = some (some (.builtin "object.__class__"))) (ym_Sum : PySem.W.mroIn K CS (.type "object") = some true)
    (yk_Sum : PySem.W.keepIn K (.ref CS) = true) (yw_Sum : PySem.W.makesIn K CS = true)
    (yn_Sum_first : PySem.W.findIn K (.ref CS) "first" = some none)
    (yn_Sum_last : PySem.W.findIn K (.ref CS) "last" = some none)
    {f_Sum___init__ : Addr} {od_Sum___init__ an_Sum___init__ : Option Addr} {sl_Sum___init__ : Array (Option Value)} {oc_Sum___init__ kV_Sum___init__ dc_Sum___init__ pm_Sum___init__ cd_Sum___init__ ct_Sum___init__ : Value}
    (a_Sum___init__ : PySem.W.findIn K (.ref CS) "__init__" = some (some (.ref f_Sum___init__))) (i_Sum___init__ : PySem.W.isFn K (.ref f_Sum___init__) = true) (l_Sum___init__ : K.lookup f_Sum___init__ = some ⟨oc_Sum___init__, od_Sum___init__, .func (PySem.W.fnOf "__init__" "Sum.__init__" (defArgs s_Sum___init__) (defBody s_Sum___init__) (defScope s_Sum___init__) .none kV_Sum___init__ dc_Sum___init__ pm_Sum___init__ an_Sum___init__ cd_Sum___init__ ct_Sum___init__), sl_Sum___init__⟩) (c_Sum___init__ : PySem.W.codeIn K cd_Sum___init__ "Sum.__init__" = true) (k_Sum___init__ : PySem.W.keepIn K (.ref f_Sum___init__) = true)
    {f_Sum_shows : Addr} {od_Sum_shows an_Sum_shows : Option Addr} {sl_Sum_shows : Array (Option Value)} {oc_Sum_shows kV_Sum_shows dc_Sum_shows pm_Sum_shows cd_Sum_shows ct_Sum_shows : Value}
    (a_Sum_shows : PySem.W.findIn K (.ref CS) "shows" = some (some (.ref f_Sum_shows))) (i_Sum_shows : PySem.W.isFn K (.ref f_Sum_shows) = true) (l_Sum_shows : K.lookup f_Sum_shows = some ⟨oc_Sum_shows, od_Sum_shows, .func (PySem.W.fnOf "shows" "Sum.shows" (defArgs s_Sum_shows) (defBody s_Sum_shows) (defScope s_Sum_shows) .none kV_Sum_shows dc_Sum_shows pm_Sum_shows an_Sum_shows cd_Sum_shows ct_Sum_shows), sl_Sum_shows⟩) (c_Sum_shows : PySem.W.codeIn K cd_Sum_shows "Sum.shows" = true) (k_Sum_shows : PySem.W.keepIn K (.ref f_Sum_shows) = true)
    (ya_Power : PySem.W.nsIn K mainGlobals "Power" = some (some (.ref CP))) (yp_Power : PySem.W.plainGet K CP Str.empty = true) (yh_Power : PySem.W.hasDictIn K CP = true) (yo_Power : PySem.W.plainOver K CP = true) (ys_Power : PySem.W.findIn K (.ref CP) "__setattr__" = some (some (.builtin "object.__setattr__"))) (yc_Power : PySem.W.findIn K (.ref CP) "__class__" = some (some (.builtin "object.__class__"))) (ym_Power : PySem.W.mroIn K CP (.type "object") = some true)
    (yk_Power : PySem.W.keepIn K (.ref CP) = true) (yw_Power : PySem.W.makesIn K CP = true)
    (yn_Power_often : PySem.W.findIn K (.ref CP) "often" = some none)
    {f_Power___init__ : Addr} {od_Power___init__ an_Power___init__ : Option Addr} {sl_Power___init__ : Array (Option Value)} {oc_Power___init__ kV_Power___init__ dc_Power___init__ pm_Power___init__ cd_Power___init__ ct_Power___init__ : Value}
    (a_Power___init__ : PySem.W.findIn K (.ref CP) "__init__" = some (some (.ref f_Power___init__))) (i_Power___init__ : PySem.W.isFn K (.ref f_Power___init__) = true) (l_Power___init__ : K.lookup f_Power___init__ = some ⟨oc_Power___init__, od_Power___init__, .func (PySem.W.fnOf "__init__" "Power.__init__" (defArgs s_Power___init__) (defBody s_Power___init__) (defScope s_Power___init__) .none kV_Power___init__ dc_Power___init__ pm_Power___init__ an_Power___init__ cd_Power___init__ ct_Power___init__), sl_Power___init__⟩) (c_Power___init__ : PySem.W.codeIn K cd_Power___init__ "Power.__init__" = true) (k_Power___init__ : PySem.W.keepIn K (.ref f_Power___init__) = true)
    {f_Power_shows : Addr} {od_Power_shows an_Power_shows : Option Addr} {sl_Power_shows : Array (Option Value)} {oc_Power_shows kV_Power_shows dc_Power_shows pm_Power_shows cd_Power_shows ct_Power_shows : Value}
    (a_Power_shows : PySem.W.findIn K (.ref CP) "shows" = some (some (.ref f_Power_shows))) (i_Power_shows : PySem.W.isFn K (.ref f_Power_shows) = true) (l_Power_shows : K.lookup f_Power_shows = some ⟨oc_Power_shows, od_Power_shows, .func (PySem.W.fnOf "shows" "Power.shows" (defArgs s_Power_shows) (defBody s_Power_shows) (defScope s_Power_shows) .none kV_Power_shows dc_Power_shows pm_Power_shows an_Power_shows cd_Power_shows ct_Power_shows), sl_Power_shows⟩) (c_Power_shows : PySem.W.codeIn K cd_Power_shows "Power.shows" = true) (k_Power_shows : PySem.W.keepIn K (.ref f_Power_shows) = true)
    (z_isinstance : PySem.W.nsIn K mainGlobals "isinstance" = some none)
    (z_int : PySem.W.nsIn K mainGlobals "int" = some none)
    (z_bool : PySem.W.nsIn K mainGlobals "bool" = some none)
    (z_list : PySem.W.nsIn K mainGlobals "list" = some none)
    (z_tuple : PySem.W.nsIn K mainGlobals "tuple" = some none)
    (z_len : PySem.W.nsIn K mainGlobals "len" = some none)
    (z_max : PySem.W.nsIn K mainGlobals "max" = some none)
    (z_min : PySem.W.nsIn K mainGlobals "min" = some none)
    (z_sorted : PySem.W.nsIn K mainGlobals "sorted" = some none)
    (z_range : PySem.W.nsIn K mainGlobals "range" = some none)
    (z_sum : PySem.W.nsIn K mainGlobals "sum" = some none)
    (z_all : PySem.W.nsIn K mainGlobals "all" = some none)
    (z_zip : PySem.W.nsIn K mainGlobals "zip" = some none)
    (z_set : PySem.W.nsIn K mainGlobals "set" = some none)
    : ∃ fd : FuncData, (∀ (s : Shared) (v : Value), BindsTo s fd ⟨[v], []⟩ [("_law_script", v)]) ∧ ∀ base : Heap, K.In base → base.Ns mainGlobals mg → FnOk l.prog w K mg base CX0 4 fa fd ["_law_script"] (spLaw K) := by
  have e := hfa.symm.trans (PySem.W.mg_of X G a_law)
  cases e
  have B : Bt mg := ⟨PySem.W.mg_none_of X G z_isinstance, PySem.W.mg_none_of X G z_int, PySem.W.mg_none_of X G z_bool, PySem.W.mg_none_of X G z_list, PySem.W.mg_none_of X G z_tuple, PySem.W.mg_none_of X G z_len, PySem.W.mg_none_of X G z_max, PySem.W.mg_none_of X G z_min, PySem.W.mg_none_of X G z_sorted, PySem.W.mg_none_of X G z_range, PySem.W.mg_none_of X G z_sum, PySem.W.mg_none_of X G z_all, PySem.W.mg_none_of X G z_zip, PySem.W.mg_none_of X G z_set⟩
  have F__law_cell_at := fun_mk (st := s__law_cell_at) l__law_cell_at c__law_cell_at k__law_cell_at
  have b__law_cell_at := F__law_cell_at.binds (ps := ["_law_script", "_law_k"]) fun _ _ _ _ _ _ us hl => match us, hl with | [_, _], _ => rfl
  have F__law_draw := fun_mk (st := s__law_draw) l__law_draw c__law_draw k__law_draw
  have b__law_draw := F__law_draw.binds (ps := ["_law_cell", "_law_k", "_law_many"]) fun _ _ _ _ _ _ us hl => match us, hl with | [_, _, _], _ => rfl
  have F__law_value := fun_mk (st := s__law_value) l__law_value c__law_value k__law_value
  have b__law_value := F__law_value.binds (ps := ["_law_cell", "_law_turn"]) fun _ _ _ _ _ _ us hl => match us, hl with | [_, _], _ => rfl
  have F__law_number := fun_mk (st := s__law_number) l__law_number c__law_number k__law_number
  have b__law_number := F__law_number.binds (ps := ["_law_script", "_law_by"]) fun _ _ _ _ _ _ us hl => match us, hl with | [_, _], _ => rfl
  have F__law_high := fun_mk (st := s__law_high) l__law_high c__law_high k__law_high
  have b__law_high := F__law_high.binds (ps := ["_law_number_here"]) fun _ _ _ _ _ _ us hl => match us, hl with | [_], _ => rfl
  have F__law_says := fun_mk (st := s__law_says) l__law_says c__law_says k__law_says
  have b__law_says := F__law_says.binds (ps := ["_law_said", "_law_due"]) fun _ _ _ _ _ _ us hl => match us, hl with | [_, _], _ => rfl
  have F_law := fun_mk (st := s_law) l_law c_law k_law
  have C_Sum : ClsF K mg "Sum" CS := ⟨PySem.W.mg_of X G ya_Sum, ⟨yp_Sum, yh_Sum, yo_Sum, ys_Sum⟩, yc_Sum, y_hn, y_htk, ym_Sum⟩
  have nf : NoAttr K CS "first" := yn_Sum_first
  have nl : NoAttr K CS "last" := yn_Sum_last
  have F_Sum___init__ := fun_mk (st := s_Sum___init__) l_Sum___init__ c_Sum___init__ k_Sum___init__
  have b_Sum___init__ := F_Sum___init__.binds (ps := ["self", "first", "last"]) fun _ _ _ _ _ _ us hl => match us, hl with | [_, _, _], _ => rfl
  have F_Sum_shows := fun_mk (st := s_Sum_shows) l_Sum_shows c_Sum_shows k_Sum_shows
  have b_Sum_shows := F_Sum_shows.binds (ps := ["self", "number"]) fun _ _ _ _ _ _ us hl => match us, hl with | [_, _], _ => rfl
  have C_Power : ClsF K mg "Power" CP := ⟨PySem.W.mg_of X G ya_Power, ⟨yp_Power, yh_Power, yo_Power, ys_Power⟩, yc_Power, y_hn, y_htk, ym_Power⟩
  have no : NoAttr K CP "often" := yn_Power_often
  have F_Power___init__ := fun_mk (st := s_Power___init__) l_Power___init__ c_Power___init__ k_Power___init__
  have b_Power___init__ := F_Power___init__.binds (ps := ["self", "often"]) fun _ _ _ _ _ _ us hl => match us, hl with | [_, _], _ => rfl
  have F_Power_shows := fun_mk (st := s_Power_shows) l_Power_shows c_Power_shows k_Power_shows
  have b_Power_shows := F_Power_shows.binds (ps := ["self", "number"]) fun _ _ _ _ _ _ us hl => match us, hl with | [_, _], _ => rfl
  refine ⟨PySem.W.fnOf "law" "law" (defArgs s_law) (defBody s_law) (defScope s_law) .none kV_law dc_law pm_law an_law cd_law ct_law, fun s v => .of_eq rfl, fun base _ _ => ?_⟩
  have K_Sum : Makes l.prog w K mg base CS _ _ := ⟨_, _, ⟨yw_Sum, a_Sum___init__, i_Sum___init__, yk_Sum⟩, b_Sum___init__, ok_Sum_init F_Sum___init__ C_Sum nf nl⟩
  have S_Sum : HasM l.prog w K mg base CS "shows" _ _ := ⟨_, _, ⟨a_Sum_shows, i_Sum_shows, k_Sum_shows⟩, b_Sum_shows, ok_Sum_shows F_Sum_shows C_Sum nf nl⟩
  have K_Power : Makes l.prog w K mg base CP _ _ := ⟨_, _, ⟨yw_Power, a_Power___init__, i_Power___init__, yk_Power⟩, b_Power___init__, ok_Power_init F_Power___init__ C_Power no⟩
  have S_Power : HasM l.prog w K mg base CP "shows" _ _ := ⟨_, _, ⟨a_Power_shows, i_Power_shows, k_Power_shows⟩, b_Power_shows, ok_Power_shows F_Power_shows C_Power no⟩
  have C__law_cell_at := mkC (PySem.W.mg_of X G a__law_cell_at) F__law_cell_at b__law_cell_at (ok__law_cell_at (P := l.prog) (w := w) (base := base) F__law_cell_at B)
  have C__law_draw := mkC (PySem.W.mg_of X G a__law_draw) F__law_draw b__law_draw (ok__law_draw (P := l.prog) (w := w) (base := base) F__law_draw )
  have C__law_value := mkC (PySem.W.mg_of X G a__law_value) F__law_value b__law_value (ok__law_value (P := l.prog) (w := w) (base := base) F__law_value C__law_draw)
  have C__law_number := mkC (PySem.W.mg_of X G a__law_number) F__law_number b__law_number (ok__law_number (P := l.prog) (w := w) (base := base) F__law_number C__law_cell_at C__law_value)
  have C__law_high := mkC (PySem.W.mg_of X G a__law_high) F__law_high b__law_high (ok__law_high (P := l.prog) (w := w) (base := base) F__law_high )
  have C__law_says := mkC (PySem.W.mg_of X G a__law_says) F__law_says b__law_says (ok__law_says (P := l.prog) (w := w) (base := base) F__law_says B)
  exact ok_law F_law B C_Sum C_Power nf nl no K_Sum K_Power S_Sum S_Power C__law_number C__law_high C__law_says
theorem walk {l : PySem.W.OpenLaw} {q : Program} {loose : List Str} {XP : (Str → Option Value) → Heap → Prop} {YP : World → Heap → Prop} {d : DefRec} {K : Params → PySem.W.Frag} (hn : l.most = some 63) (hdf : d.params.defaults = [])
    (hY : ∀ (w : World) (h : Heap), YP w h → (K w.params).In h)
    (F : ∀ (w : World) (mg : Str → Option Value) (fa : Addr) (h : Heap), (K w.params).In h → h.Ns mainGlobals mg → mg d.name = some (.ref fa) →
      ∃ fd : FuncData, (∀ (s : Shared) (u : Value), BindsTo s fd ⟨[u], []⟩ [("_law_script", u)]) ∧ ∀ base : Heap, (K w.params).In base → base.Ns mainGlobals mg → FnOk l.prog w (K w.params) mg base CX0 4 fa fd ["_law_script"] (spLaw (K w.params))) :
    PySem.W.WalkO q loose XP YP l.row.toRowW d [] (fun f vs => PySem.call f vs) :=
  L2.walk_ofB (n := 63) (k := 4) (x := "_law_script") (CX := fun _ => CX0) (sp := fun w => spLaw (K w.params)) hn (by decide) hdf ⟨rfl, by decide, by decide⟩ hY F (fun _ _ a ns hl hb _ hS => ⟨a, ns, rfl, hS, hl, hb, fun _ => rfl⟩) fun _ _ _ _ _ z => z
end NB
open PySem PySem.W PyProof.Rows
set_option maxRecDepth 100000 in
set_option maxHeartbeats 0 in
theorem PySem.Challenge.cw_neighboursums_k04_by_hand_holds : PySem.Challenge.rw_neighboursums_k04_by_hand.Holds := by
  w_on; o_law; k_head; (case hw => w_witness2)
  k_fill
  refine NB.walk (l := PySem.Challenge.rw_neighboursums_k04_by_hand) rfl rfl (fun w h Y => PySem.W.kIn_of Y) ?F
  case F =>
    intro w mg fa h KX G hmg
    refine' NB.all_mk KX G hmg ?a__law_cell_at ?l__law_cell_at ?c__law_cell_at ?k__law_cell_at ?a__law_draw ?l__law_draw ?c__law_draw ?k__law_draw ?a__law_value ?l__law_value ?c__law_value ?k__law_value ?a__law_number ?l__law_number ?c__law_number ?k__law_number ?a__law_high ?l__law_high ?c__law_high ?k__law_high ?a__law_says ?l__law_says ?c__law_says ?k__law_says ?a_law ?l_law ?c_law ?k_law ?y_hn ?y_htk ?ya_Sum ?yp_Sum ?yh_Sum ?yo_Sum ?ys_Sum ?yc_Sum ?ym_Sum ?yk_Sum ?yw_Sum ?yn_Sum_first ?yn_Sum_last ?a_Sum___init__ ?i_Sum___init__ ?l_Sum___init__ ?c_Sum___init__ ?k_Sum___init__ ?a_Sum_shows ?i_Sum_shows ?l_Sum_shows ?c_Sum_shows ?k_Sum_shows ?ya_Power ?yp_Power ?yh_Power ?yo_Power ?ys_Power ?yc_Power ?ym_Power ?yk_Power ?yw_Power ?yn_Power_often ?a_Power___init__ ?i_Power___init__ ?l_Power___init__ ?c_Power___init__ ?k_Power___init__ ?a_Power_shows ?i_Power_shows ?l_Power_shows ?c_Power_shows ?k_Power_shows ?z_isinstance ?z_int ?z_bool ?z_list ?z_tuple ?z_len ?z_max ?z_min ?z_sorted ?z_range ?z_sum ?z_all ?z_zip ?z_set
    (case a__law_cell_at => k_is)
    (case l__law_cell_at => k_is)
    (case c__law_cell_at => k_is)
    (case k__law_cell_at => k_is)
    (case a__law_draw => k_is)
    (case l__law_draw => k_is)
    (case c__law_draw => k_is)
    (case k__law_draw => k_is)
    (case a__law_value => k_is)
    (case l__law_value => k_is)
    (case c__law_value => k_is)
    (case k__law_value => k_is)
    (case a__law_number => k_is)
    (case l__law_number => k_is)
    (case c__law_number => k_is)
    (case k__law_number => k_is)
    (case a__law_high => k_is)
    (case l__law_high => k_is)
    (case c__law_high => k_is)
    (case k__law_high => k_is)
    (case a__law_says => k_is)
    (case l__law_says => k_is)
    (case c__law_says => k_is)
    (case k__law_says => k_is)
    (case a_law => k_is)
    (case l_law => k_is)
    (case c_law => k_is)
    (case k_law => k_is)
    (case y_hn => k_is)
    (case y_htk => k_is)
    (case ya_Sum => k_is)
    (case yp_Sum => k_is)
    (case yh_Sum => k_is)
    (case yo_Sum => k_is)
    (case ys_Sum => k_is)
    (case yc_Sum => k_is)
    (case ym_Sum => k_is)
    (case yk_Sum => k_is)
    (case yw_Sum => k_is)
    (case yn_Sum_first => k_is)
    (case yn_Sum_last => k_is)
    (case a_Sum___init__ => k_is)
    (case i_Sum___init__ => k_is)
    (case l_Sum___init__ => k_is)
    (case c_Sum___init__ => k_is)
    (case k_Sum___init__ => k_is)
    (case a_Sum_shows => k_is)
    (case i_Sum_shows => k_is)
    (case l_Sum_shows => k_is)
    (case c_Sum_shows => k_is)
    (case k_Sum_shows => k_is)
    (case ya_Power => k_is)
    (case yp_Power => k_is)
    (case yh_Power => k_is)
    (case yo_Power => k_is)
    (case ys_Power => k_is)
    (case yc_Power => k_is)
    (case ym_Power => k_is)
    (case yk_Power => k_is)
    (case yw_Power => k_is)
    (case yn_Power_often => k_is)
    (case a_Power___init__ => k_is)
    (case i_Power___init__ => k_is)
    (case l_Power___init__ => k_is)
    (case c_Power___init__ => k_is)
    (case k_Power___init__ => k_is)
    (case a_Power_shows => k_is)
    (case i_Power_shows => k_is)
    (case l_Power_shows => k_is)
    (case c_Power_shows => k_is)
    (case k_Power_shows => k_is)
    (case z_isinstance => k_is)
    (case z_int => k_is)
    (case z_bool => k_is)
    (case z_list => k_is)
    (case z_tuple => k_is)
    (case z_len => k_is)
    (case z_max => k_is)
    (case z_min => k_is)
    (case z_sorted => k_is)
    (case z_range => k_is)
    (case z_sum => k_is)
    (case z_all => k_is)
    (case z_zip => k_is)
    (case z_set => k_is)
#print axioms PySem.Challenge.cw_neighboursums_k04_by_hand_holds

