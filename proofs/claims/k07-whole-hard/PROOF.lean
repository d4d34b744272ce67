import PyProof.Rows.All
import Wide.All
import OpenK.AllK
import Wide.FinOn
import HandS.ForMost
import HandS.IsInst
import HandS.Style
import HandS.SortRule
import HandS.WideBits
import HandS.EndBits
import KE.IntBitsLaws
import KE.DataEq
import KE.KEqDeep
import HandS.TupSets
import HandS.Deep
import PySem.Challenge.RW_neighboursums_k07_whole_hard
set_option Elab.async false
/-! The mathematics of rows: plain Lean. -/
namespace NB
/-- f, .., l make n -/
def IsRow (n f l : Int) : Prop := f ≤ l ∧ (f + l) * (l - f + 1) = 2 * n
/-- by the first, then by the second -/
def Lt (p q : Int × Int) : Prop := p.1 < q.1 ∨ (p.1 = q.1 ∧ p.2 < q.2)
instance (p q : Int × Int) : Decidable (Lt p q) := by unfold Lt; infer_instance
theorem Lt.irrefl {p : Int × Int} (h : Lt p p) : False := by unfold Lt at h; omega
theorem Lt.asymm {p q : Int × Int} (h : Lt p q) (h' : Lt q p) : False := by unfold Lt at h h'; omega
theorem uniq : ∀ {l m : List (Int × Int)}, l.Pairwise Lt → m.Pairwise Lt → (∀ x, x ∈ l ↔ x ∈ m) → l = m
  | [], [], _, _, _ => rfl
  | [], y :: m, _, _, h => absurd ((h y).mpr List.mem_cons_self) (by simp)
  | x :: l, [], _, _, h => absurd ((h x).mp List.mem_cons_self) (by simp)
  | x :: l, y :: m, hl, hm, h => by
    rw [List.pairwise_cons] at hl hm
    have e : x = y := by
      rcases List.mem_cons.mp ((h x).mp List.mem_cons_self) with e | h1
      · exact e
      rcases List.mem_cons.mp ((h y).mpr List.mem_cons_self) with e | h2
      · exact e.symm
      exact (Lt.asymm (hm.1 x h1) (hl.1 y h2)).elim
    subst e
    have := uniq hl.2 hm.2 (fun z => by
      constructor
      · intro hz
        rcases List.mem_cons.mp ((h z).mp (List.mem_cons_of_mem _ hz)) with e | h1
        · subst e; exact (Lt.irrefl (hl.1 _ hz)).elim
        · exact h1
      · intro hz
        rcases List.mem_cons.mp ((h z).mpr (List.mem_cons_of_mem _ hz)) with e | h1
        · subst e; exact (Lt.irrefl (hm.1 _ hz)).elim
        · exact h1)
    rw [this]

/-- all rows of n, in order; the high ones -/
structure Rows (n : Int) (ps : List (Int × Int)) : Prop where
  srt : ps.Pairwise Lt
  mem : ∀ f l, (f, l) ∈ ps ↔ IsRow n f l
structure HRows (n : Int) (ps : List (Int × Int)) : Prop where
  srt : ps.Pairwise Lt
  mem : ∀ f l, (f, l) ∈ ps ↔ IsRow n f l ∧ 0 < f
theorem Rows.uniq {n : Int} {ps qs : List (Int × Int)} (a : Rows n ps) (b : Rows n qs) : ps = qs :=
  NB.uniq a.srt b.srt fun ⟨f, l⟩ => (a.mem f l).trans (b.mem f l).symm
theorem HRows.uniq {n : Int} {ps qs : List (Int × Int)} (a : HRows n ps) (b : HRows n qs) : ps = qs :=
  NB.uniq a.srt b.srt fun ⟨f, l⟩ => (a.mem f l).trans (b.mem f l).symm
theorem Rows.high {n : Int} {ps : List (Int × Int)} (a : Rows n ps) : HRows n (ps.filter fun p => decide (0 < p.1)) := by
  refine ⟨a.srt.filter _, fun f l => ?_⟩
  rw [List.mem_filter, a.mem]
  simp

theorem two_tri (L : Int) : 2 * (L * (L - 1) / 2) = L * (L - 1) := by
  have : L = 2 * (L / 2) ∨ L = 2 * (L / 2) + 1 := by omega
  generalize L / 2 = k at this
  rcases this with e | e
  · subst e
    rw [Int.mul_assoc, Int.mul_ediv_cancel_left _ (by decide)]
  · subst e
    have : (2 * k + 1) * (2 * k + 1 - 1) = 2 * (k * (2 * k + 1)) := by
      rw [Int.add_sub_cancel, Int.mul_comm, Int.mul_assoc]
    rw [this, Int.mul_ediv_cancel_left _ (by decide)]
theorem two_tri' (L : Int) : 2 * (L * (L + 1) / 2) = L * (L + 1) := by
  have h := two_tri (L + 1)
  rw [Int.add_sub_cancel] at h
  rw [Int.mul_comm L]
  exact h
/-- a row's equation by its length -/
theorem isRow_len {n f L : Int} (hL : 0 < L) : IsRow n f (f + L - 1) ↔ L * f = n - L * (L - 1) / 2 := by
  have t := two_tri L
  have e : (f + (f + L - 1)) * (f + L - 1 - f + 1) = 2 * (L * f) + L * (L - 1) := by
    have e1 : f + L - 1 - f + 1 = L := by omega
    have e2 : f + (f + L - 1) = 2 * f + (L - 1) := by omega
    rw [e1, e2, Int.add_mul, Int.mul_assoc, Int.mul_comm f L, Int.mul_comm (L - 1) L]
  unfold IsRow
  rw [e]
  constructor
  · rintro ⟨_, h⟩; omega
  · intro h; exact ⟨by omega, by omega⟩

/-- row_of: the row of a length -/
def rowOf (n L : Int) : Option (Int × Int) :=
  if (n - L * (L - 1) / 2) % L = 0 then some ((n - L * (L - 1) / 2) / L, (n - L * (L - 1) / 2) / L + L - 1) else none
theorem rowOf_iff {n L f l : Int} (hL : 0 < L) : rowOf n L = some (f, l) ↔ l = f + L - 1 ∧ IsRow n f l := by
  unfold rowOf
  generalize hx : n - L * (L - 1) / 2 = x
  constructor
  · intro h
    split at h
    · rename_i h0
      injection h with h
      injection h with h1 h2
      subst h1 h2
      refine ⟨rfl, (isRow_len hL).mpr ?_⟩
      rw [hx, Int.mul_ediv_cancel' (Int.dvd_of_emod_eq_zero h0)]
    · cases h
  · rintro ⟨e, h⟩
    subst e
    have h := (isRow_len hL).mp h
    rw [hx] at h
    rw [if_pos (by rw [← h]; exact Int.mul_emod_right _ _), ← h, Int.mul_ediv_cancel_left _ (by omega)]
theorem rowOf_none {n L : Int} (hL : 0 < L) : rowOf n L = none ↔ ∀ f, ¬ IsRow n f (f + L - 1) := by
  constructor
  · intro h f hr
    have := (rowOf_iff hL).mpr ⟨rfl, hr⟩
    rw [h] at this; cases this
  · intro h
    cases e : rowOf n L with
    | none => rfl
    | some p =>
      obtain ⟨f, l⟩ := p
      obtain ⟨e1, e2⟩ := (rowOf_iff hL).mp e
      rw [e1] at e2
      exact (h f e2).elim
/-- as the law reckons it -/
def dueOf (n L : Int) : Option (Int × Int) :=
  if (2 * n - L * (L - 1)) % (2 * L) = 0 then some ((2 * n - L * (L - 1)) / L / 2, (2 * n - L * (L - 1)) / L / 2 + L - 1) else none
theorem dueOf_eq {n L : Int} (hL : 0 < L) : dueOf n L = rowOf n L := by
  unfold dueOf rowOf
  have t := two_tri L
  generalize hx : L * (L - 1) / 2 = x at *
  have e : 2 * n - L * (L - 1) = 2 * (n - x) := by omega
  rw [e]
  have e2 : 2 * (n - x) % (2 * L) = 2 * ((n - x) % L) := Int.mul_emod_mul_of_pos _ _ (by decide)
  rw [e2]
  by_cases h : (n - x) % L = 0
  · rw [if_pos h, if_pos (by omega)]
    have e3 : 2 * (n - x) / L / 2 = (n - x) / L := by
      obtain ⟨k, hk⟩ := Int.dvd_of_emod_eq_zero h
      rw [hk, show 2 * (L * k) = L * (2 * k) by rw [Int.mul_left_comm], Int.mul_ediv_cancel_left _ (by omega), Int.mul_ediv_cancel_left _ (by decide), Int.mul_ediv_cancel_left _ (by omega)]
    rw [e3]
  · rw [if_neg h, if_neg (by omega)]

/-! ### what the law reckons: by the lengths from 1 on -/
def acc (n : Int) : Nat → List (Int × Int)
  | 0 => []
  | k + 1 => match rowOf n (k + 1 : Nat) with
    | some p => acc n k ++ [p]
    | none => acc n k
theorem acc_some {n : Int} {k : Nat} {p : Int × Int} (h : rowOf n (k + 1 : Nat) = some p) : acc n (k + 1) = acc n k ++ [p] := by
  rw [acc, h]
theorem acc_none {n : Int} {k : Nat} (h : rowOf n (k + 1 : Nat) = none) : acc n (k + 1) = acc n k := by
  rw [acc, h]
theorem acc_mem {n : Int} : ∀ {K : Nat} {f l : Int}, (f, l) ∈ acc n K ↔ ∃ L : Nat, 1 ≤ L ∧ L ≤ K ∧ rowOf n L = some (f, l)
  | 0, f, l => by
    constructor
    · intro h; cases h
    · rintro ⟨L, h1, h2, _⟩; omega
  | k + 1, f, l => by
    have ih := acc_mem (n := n) (K := k) (f := f) (l := l)
    have step : (∃ L : Nat, 1 ≤ L ∧ L ≤ k + 1 ∧ rowOf n L = some (f, l)) ↔ (∃ L : Nat, 1 ≤ L ∧ L ≤ k ∧ rowOf n L = some (f, l)) ∨ rowOf n (k + 1 : Nat) = some (f, l) := by
      constructor
      · rintro ⟨L, h1, h2, h3⟩
        by_cases e : L = k + 1
        · subst e; exact .inr h3
        · exact .inl ⟨L, h1, by omega, h3⟩
      · rintro (⟨L, h1, h2, h3⟩ | h)
        · exact ⟨L, h1, by omega, h3⟩
        · exact ⟨k + 1, by omega, by omega, h⟩
    rw [step, ← ih]
    cases e : rowOf n (k + 1 : Nat) with
    | none => rw [acc_none e]; simp
    | some p => rw [acc_some e, List.mem_append, List.mem_singleton]; simp [eq_comm]
theorem acc_len {n : Int} : ∀ {K : Nat}, (acc n K).length ≤ K
  | 0 => Nat.le_refl _
  | k + 1 => by
    have ih := acc_len (n := n) (K := k)
    unfold acc
    split
    · rw [List.length_append]; simp only [List.length_cons, List.length_nil]; omega
    · omega
theorem tri_mono {a b : Int} (h0 : 0 ≤ a) (h : a ≤ b) : a * (a + 1) / 2 ≤ b * (b + 1) / 2 := by
  have h1 : a * (a + 1) ≤ b * (b + 1) := Int.mul_le_mul h (by omega) (by omega) (by omega)
  have := two_tri' a
  have := two_tri' b
  omega
theorem tri_step (L : Int) : L * (L - 1) / 2 + L = L * (L + 1) / 2 := by
  have h1 := two_tri L
  have h2 := two_tri' L
  have e1 : L * (L - 1) = L * L - L := by rw [Int.mul_sub, Int.mul_one]
  have e2 : L * (L + 1) = L * L + L := by rw [Int.mul_add, Int.mul_one]
  omega
/-- a row's length says whether it is high -/
theorem row_high {n f L : Int} (hL : 0 < L) (h : IsRow n f (f + L - 1)) : 0 < f ↔ L * (L + 1) / 2 ≤ n := by
  have e := (isRow_len hL).mp h
  have t := tri_step L
  constructor
  · intro hf
    have : L * 1 ≤ L * f := Int.mul_le_mul_of_nonneg_left (by omega) (by omega)
    omega
  · intro hn
    refine Decidable.byContradiction fun hc => ?_
    have : L * f ≤ L * 0 := Int.mul_le_mul_of_nonneg_left (by omega) (by omega)
    omega
/-- longer rows begin earlier -/
theorem row_anti {n f g L M : Int} (hL : 0 < L) (h : L < M) (hg : 0 < g) (a : IsRow n f (f + L - 1)) (b : IsRow n g (g + M - 1)) : g < f := by
  have e1 := (isRow_len hL).mp a
  have e2 := (isRow_len (show 0 < M by omega)).mp b
  refine Decidable.byContradiction fun hc => ?_
  have h1 : L * f ≤ L * g := Int.mul_le_mul_of_nonneg_left (by omega) (by omega)
  have h2 : L * g < M * g := Int.mul_lt_mul_of_pos_right h hg
  have h3 : L * (L - 1) ≤ M * (M - 1) := Int.mul_le_mul (by omega) (by omega) (by omega) (by omega)
  have := two_tri L
  have := two_tri M
  omega
theorem acc_high {n : Int} : ∀ {K : Nat}, (K : Int) * ((K : Int) + 1) / 2 ≤ n → ∀ p ∈ acc n K, 0 < p.1 := by
  intro K hK ⟨f, l⟩ hp
  obtain ⟨L, h1, h2, h3⟩ := acc_mem.mp hp
  obtain ⟨e, hr⟩ := (rowOf_iff (by omega)).mp h3
  subst e
  exact (row_high (by omega) hr).mpr (Int.le_trans (tri_mono (by omega) (by omega)) hK)
theorem acc_srt {n : Int} : ∀ {K : Nat}, (K : Int) * ((K : Int) + 1) / 2 ≤ n → (acc n K).reverse.Pairwise Lt
  | 0, _ => List.Pairwise.nil
  | k + 1, hK => by
    have hk : (k : Int) * ((k : Int) + 1) / 2 ≤ n := Int.le_trans (tri_mono (by omega) (by omega)) hK
    have ih := acc_srt (n := n) (K := k) hk
    unfold acc
    split
    · rename_i p hp
      obtain ⟨g, m⟩ := p
      rw [List.reverse_append]
      show List.Pairwise Lt ((g, m) :: (acc n k).reverse)
      rw [List.pairwise_cons]
      refine ⟨fun ⟨f, l⟩ hm => ?_, ih⟩
      obtain ⟨L, h1, h2, h3⟩ := acc_mem.mp (List.mem_reverse.mp hm)
      obtain ⟨e1, r1⟩ := (rowOf_iff (by omega)).mp h3
      obtain ⟨e2, r2⟩ := (rowOf_iff (by omega)).mp hp
      subst e1
      subst e2
      have hg : 0 < g := (row_high (by omega) r2).mpr hK
      exact .inl (row_anti (L := L) (M := ((k + 1 : Nat) : Int)) (by omega) (by omega) hg r1 r2)
    · exact ih
/-- behind the loop: the high rows -/
theorem acc_rows {n : Int} {K : Nat} (h1 : (K : Int) * ((K : Int) + 1) / 2 ≤ n) (h2 : n < ((K : Int) + 1) * ((K : Int) + 1 + 1) / 2) : HRows n (acc n K).reverse := by
  refine ⟨acc_srt h1, fun f l => ?_⟩
  rw [List.mem_reverse]
  constructor
  · intro h
    have hf := acc_high h1 _ h
    obtain ⟨L, a1, a2, a3⟩ := acc_mem.mp h
    exact ⟨((rowOf_iff (by omega)).mp a3).2, hf⟩
  · rintro ⟨hr, hf⟩
    have hle := hr.1
    obtain ⟨L, eL⟩ := Int.eq_ofNat_of_zero_le (show 0 ≤ l - f + 1 by omega)
    have el : l = f + (L : Int) - 1 := by omega
    have hL : 0 < (L : Int) := by omega
    have hr' : IsRow n f (f + (L : Int) - 1) := el ▸ hr
    have hn := (row_high hL hr').mp hf
    refine acc_mem.mpr ⟨L, by omega, ?_, (rowOf_iff hL).mpr ⟨el, hr⟩⟩
    refine Decidable.byContradiction fun hc => ?_
    have := tri_mono (a := (K : Int) + 1) (b := (L : Int)) (by omega) (by omega)
    omega
/-- the rows below nought -/
theorem low_iff {n f l : Int} (hn : 0 < n) : IsRow n f l ∧ ¬ 0 < f ↔ IsRow n (1 - f) l ∧ 0 < 1 - f := by
  have e : ∀ f l : Int, (1 - f + l) * (l - (1 - f) + 1) = (f + l) * (l - f + 1) := fun f l => by
    rw [show l - (1 - f) + 1 = f + l by omega, show 1 - f + l = l - f + 1 by omega, Int.mul_comm]
  unfold IsRow
  rw [e]
  constructor
  · rintro ⟨⟨h1, h2⟩, h3⟩
    refine ⟨⟨?_, h2⟩, by omega⟩
    refine Decidable.byContradiction fun hc => ?_
    have : (f + l) * (l - f + 1) ≤ 0 := Int.mul_nonpos_of_nonpos_of_nonneg (by omega) (by omega)
    omega
  · rintro ⟨⟨h1, h2⟩, h3⟩
    exact ⟨⟨by omega, h2⟩, by omega⟩
/-- all rows: the high ones, and each's fellow -/
theorem Rows.of_high {n : Int} (hn : 0 < n) {ps qs : List (Int × Int)} (h : HRows n ps) (hs : qs.Pairwise Lt) (hm : ∀ x, x ∈ qs ↔ x ∈ ps ++ ps.map fun p : Int × Int => ((1 - p.1, p.2) : Int × Int)) : Rows n qs := by
  refine ⟨hs, fun f l => ?_⟩
  rw [hm, List.mem_append, h.mem, List.mem_map]
  have key : (∃ a, a ∈ ps ∧ (1 - a.1, a.2) = (f, l)) ↔ IsRow n f l ∧ ¬ 0 < f := by
    rw [low_iff hn]
    constructor
    · rintro ⟨⟨g, m⟩, h1, h2⟩
      injection h2 with h2 h3
      have e1 : 1 - f = g := by simp only at h2; omega
      simp only at h3
      subst h3
      rw [e1]
      exact (h.mem _ _).mp h1
    · rintro h1
      refine ⟨(1 - f, l), (h.mem _ _).mpr h1, ?_⟩
      rw [show 1 - (1 - f) = f by omega]
  rw [key]
  constructor
  · rintro (⟨a, _⟩ | ⟨a, _⟩) <;> exact a
  · intro a
    by_cases hf : 0 < f
    · exact .inl ⟨a, hf⟩
    · exact .inr ⟨a, hf⟩
/-- the two kinds are apart: their lists one behind the other are without doubles -/
theorem whole_nodup {n : Int} {ps : List (Int × Int)} (h : HRows n ps) : (ps ++ ps.map fun p : Int × Int => ((1 - p.1, p.2) : Int × Int)).Nodup := by
  have nd : ps.Nodup := h.srt.imp fun {a b} hab e => by subst e; exact Lt.irrefl hab
  rw [List.nodup_append]
  refine ⟨nd, ?_, ?_⟩
  · refine List.pairwise_map.mpr (nd.imp fun {a b} hab e => hab ?_)
    obtain ⟨a1, a2⟩ := a
    obtain ⟨b1, b2⟩ := b
    injection e with e1 e2
    simp only at e1 e2
    rw [e2, show a1 = b1 by omega]
  · rintro ⟨f, l⟩ ha ⟨g, m⟩ hb e
    obtain ⟨⟨c, d⟩, h1, h2⟩ := List.mem_map.mp hb
    have x1 := ((h.mem _ _).mp ha).2
    have x2 := ((h.mem _ _).mp h1).2
    injection h2 with h2 h3
    injection e with e1 e2
    simp only at h2
    omega
end NB

set_option Elab.async false
/-! parts_of. -/
namespace NB
def low (n : Int) : Nat → List Int
  | 0 => []
  | k + 1 => if n % ((k + 1 : Nat) : Int) = 0 then low n k ++ [((k + 1 : Nat) : Int)] else low n k
def high (n : Int) : Nat → List Int
  | 0 => []
  | k + 1 => if n % ((k + 1 : Nat) : Int) = 0 ∧ ((k + 1 : Nat) : Int) * ((k + 1 : Nat) : Int) < n then high n k ++ [n / ((k + 1 : Nat) : Int)] else high n k
theorem low_len {n : Int} : ∀ {k : Nat}, (low n k).length ≤ k
  | 0 => Nat.le_refl _
  | k + 1 => by
    have ih := low_len (n := n) (k := k)
    unfold low
    split
    · rw [List.length_append]; simp only [List.length_cons, List.length_nil]; omega
    · omega
theorem high_len {n : Int} : ∀ {k : Nat}, (high n k).length ≤ k
  | 0 => Nat.le_refl _
  | k + 1 => by
    have ih := high_len (n := n) (k := k)
    unfold high
    split
    · rw [List.length_append]; simp only [List.length_cons, List.length_nil]; omega
    · omega
theorem low_mem {n d : Int} : ∀ {k : Nat}, d ∈ low n k ↔ 0 < d ∧ d ≤ k ∧ n % d = 0
  | 0 => by
    constructor
    · intro h; cases h
    · rintro ⟨h1, h2, _⟩; omega
  | k + 1 => by
    have ih := low_mem (n := n) (d := d) (k := k)
    unfold low
    split
    · rename_i h
      rw [List.mem_append, List.mem_singleton, ih]
      constructor
      · rintro (⟨a, b, c⟩ | e)
        · exact ⟨a, by omega, c⟩
        · subst e; exact ⟨by omega, by omega, h⟩
      · rintro ⟨a, b, c⟩
        by_cases e : d = ((k + 1 : Nat) : Int)
        · exact .inr e
        · exact .inl ⟨a, by omega, c⟩
    · rename_i h
      rw [ih]
      constructor
      · rintro ⟨a, b, c⟩; exact ⟨a, by omega, c⟩
      · rintro ⟨a, b, c⟩
        refine ⟨a, ?_, c⟩
        by_cases e : d = ((k + 1 : Nat) : Int)
        · subst e; exact absurd c h
        · omega
theorem high_mem {n e : Int} : ∀ {k : Nat}, e ∈ high n k ↔ ∃ d : Int, 0 < d ∧ d ≤ k ∧ n % d = 0 ∧ d * d < n ∧ e = n / d
  | 0 => by
    constructor
    · intro h; cases h
    · rintro ⟨d, h1, h2, _⟩; omega
  | k + 1 => by
    have ih := high_mem (n := n) (e := e) (k := k)
    unfold high
    split
    · rename_i h
      rw [List.mem_append, List.mem_singleton, ih]
      constructor
      · rintro (⟨d, a, b, c⟩ | e)
        · exact ⟨d, a, by omega, c⟩
        · exact ⟨_, by omega, Int.le_refl _, h.1, h.2, e⟩
      · rintro ⟨d, a, b, c1, c2, c3⟩
        by_cases x : d = ((k + 1 : Nat) : Int)
        · subst x; exact .inr c3
        · exact .inl ⟨d, a, by omega, c1, c2, c3⟩
    · rename_i h
      rw [ih]
      constructor
      · rintro ⟨d, a, b, c⟩; exact ⟨d, a, by omega, c⟩
      · rintro ⟨d, a, b, c1, c2, c3⟩
        refine ⟨d, a, ?_, c1, c2, c3⟩
        by_cases x : d = ((k + 1 : Nat) : Int)
        · subst x; exact absurd ⟨c1, c2⟩ h
        · omega
theorem low_nodup {n : Int} : ∀ {k : Nat}, (low n k).Nodup
  | 0 => List.nodup_nil
  | k + 1 => by
    have ih := low_nodup (n := n) (k := k)
    unfold low
    split
    · rw [List.nodup_append]
      refine ⟨ih, by simp, fun a ha b hb e => ?_⟩
      have := (low_mem.mp ha).2.1
      rw [List.mem_singleton] at hb
      omega
    · exact ih
/-- the great part beside d is beyond k -/
theorem great {n d : Int} {k : Nat} (h1 : 0 < d) (h2 : d ≤ k) (h3 : n % d = 0) (h4 : d * d < n) (hk : (k : Int) * k ≤ n) : (k : Int) < n / d := by
  refine Decidable.byContradiction fun hc => ?_
  have e : d * (n / d) = n := Int.mul_ediv_cancel' (Int.dvd_of_emod_eq_zero h3)
  have hlt : d < n / d := by
    refine Decidable.byContradiction fun hx => ?_
    have : d * (n / d) ≤ d * d := Int.mul_le_mul_of_nonneg_left (by omega) (by omega)
    omega
  -- n = d * (n/d) < k * k when d < n/d ≤ k
  have h5 : d * (n / d) < (n / d) * (n / d) := Int.mul_lt_mul_of_pos_right hlt (by omega)
  have h6 : (n / d) * (n / d) ≤ (k : Int) * k := Int.mul_le_mul (by omega) (by omega) (by omega) (by omega)
  omega
theorem div_inj {n d e : Int} (hn : 0 < n) (h1 : 0 < d) (h2 : 0 < e) (h3 : n % d = 0) (h4 : n % e = 0) (h : n / d = n / e) : d = e := by
  have a := Int.mul_ediv_cancel' (Int.dvd_of_emod_eq_zero h3)
  have b := Int.mul_ediv_cancel' (Int.dvd_of_emod_eq_zero h4)
  rw [h] at a
  have hp : n / e ≠ 0 := by
    intro z
    rw [z] at b
    omega
  exact Int.eq_of_mul_eq_mul_right hp (a.trans b.symm)
theorem high_nodup {n : Int} (hn : 0 < n) : ∀ {k : Nat}, (high n k).Nodup
  | 0 => List.nodup_nil
  | k + 1 => by
    have ih := high_nodup hn (k := k)
    unfold high
    split
    · rename_i h
      rw [List.nodup_append]
      refine ⟨ih, by simp, fun a ha b hb e => ?_⟩
      obtain ⟨d, a1, a2, a3, a4, a5⟩ := high_mem.mp ha
      rw [List.mem_singleton] at hb
      have := div_inj hn a1 (by omega) a3 h.1 (a5.symm.trans (e.trans hb))
      omega
    · exact ih
def parts (n : Int) (k : Nat) : List Int := low n k ++ (high n k).reverse
theorem parts_mem {n d : Int} {k : Nat} (hn : 0 < n) (h2 : n < ((k : Int) + 1) * ((k : Int) + 1)) : d ∈ parts n k ↔ 0 < d ∧ n % d = 0 := by
  unfold parts
  rw [List.mem_append, List.mem_reverse, low_mem, high_mem]
  constructor
  · rintro (⟨a, _, c⟩ | ⟨e, a, b, c, x, rfl⟩)
    · exact ⟨a, c⟩
    · have q := Int.mul_ediv_cancel' (Int.dvd_of_emod_eq_zero c)
      refine ⟨Int.pos_of_mul_pos_right (a := e) (by omega) (by omega), ?_⟩
      have q' : n = (n / e) * e := by rw [Int.mul_comm]; exact q.symm
      generalize n / e = m at q'
      rw [q']
      exact Int.mul_emod_right _ _
  · rintro ⟨a, c⟩
    by_cases hd : d ≤ k
    · exact .inl ⟨a, hd, c⟩
    · refine .inr ?_
      have q := Int.mul_ediv_cancel' (Int.dvd_of_emod_eq_zero c)
      have hp : 0 < n / d := Int.pos_of_mul_pos_right (a := d) (by omega) (by omega)
      -- e = n / d is below d
      have hlt : n / d < (k : Int) + 1 := by
        refine Decidable.byContradiction fun hx => ?_
        have : ((k : Int) + 1) * ((k : Int) + 1) ≤ d * (n / d) := Int.mul_le_mul (by omega) (by omega) (by omega) (by omega)
        omega
      have e2 : n / (n / d) = d := by
        refine Int.ediv_eq_of_eq_mul_right (by omega) ?_
        rw [Int.mul_comm]; exact q.symm
      refine ⟨n / d, hp, by omega, ?_, ?_, e2.symm⟩
      · have q' : n = (n / d) * d := by rw [Int.mul_comm]; exact q.symm
        generalize n / d = m at q'
        rw [q']
        exact Int.mul_emod_right _ _
      · have : (n / d) * (n / d) < d * (n / d) := Int.mul_lt_mul_of_pos_right (by omega) hp
        omega
theorem parts_nodup {n : Int} {k : Nat} (hn : 0 < n) (hk : (k : Int) * k ≤ n) : (parts n k).Nodup := by
  unfold parts
  rw [List.nodup_append]
  refine ⟨low_nodup, (List.reverse_perm _).nodup_iff.mpr (high_nodup hn), fun a ha b hb e => ?_⟩
  have h1 := (low_mem.mp ha).2.1
  obtain ⟨d, a1, a2, a3, a4, a5⟩ := high_mem.mp (List.mem_reverse.mp hb)
  have h := great a1 a2 a3 a4 hk
  omega
theorem parts_len {n : Int} {k : Nat} : (parts n k).length ≤ 2 * k := by
  unfold parts
  rw [List.length_append, List.length_reverse]
  have := low_len (n := n) (k := k)
  have := high_len (n := n) (k := k)
  omega
/-- what a list of all parts of a number is -/
structure Parts (n : Int) (ds : List Int) : Prop where
  nd : ds.Nodup
  mem : ∀ d, d ∈ ds ↔ 0 < d ∧ n % d = 0
theorem parts_ok {n : Int} {k : Nat} (hn : 0 < n) (h1 : (k : Int) * k ≤ n) (h2 : n < ((k : Int) + 1) * ((k : Int) + 1)) : Parts n (parts n k) := ⟨parts_nodup hn h1, fun _ => parts_mem hn h2⟩
/-- the rows by the parts of twice the number -/
theorem found_mem {n : Int} {ds : List Int} (h : Parts (2 * n) ds) {f l : Int} : (f, l) ∈ ds.filterMap (rowOf n) ↔ IsRow n f l := by
  rw [List.mem_filterMap]
  constructor
  · rintro ⟨L, hL, e⟩
    exact ((rowOf_iff ((h.mem L).mp hL).1).mp e).2
  · intro hr
    have hle := hr.1
    refine ⟨l - f + 1, (h.mem _).mpr ⟨by omega, ?_⟩, (rowOf_iff (by omega)).mpr ⟨by omega, hr⟩⟩
    rw [← hr.2]
    exact Int.mul_emod_left _ _
theorem nodup_filterMap {α β : Type} {f : α → Option β} {l : List α} (h : l.Nodup) (inj : ∀ a ∈ l, ∀ b ∈ l, ∀ x, f a = some x → f b = some x → a = b) : (l.filterMap f).Nodup := by
  induction l with
  | nil => exact List.nodup_nil
  | cons a r ih =>
    rw [List.nodup_cons] at h
    have ih' := ih h.2 fun x hx y hy => inj x (List.mem_cons_of_mem _ hx) y (List.mem_cons_of_mem _ hy)
    rw [List.filterMap_cons]
    split
    · exact ih'
    · rename_i x hx
      rw [List.nodup_cons]
      refine ⟨fun hm => ?_, ih'⟩
      obtain ⟨b, hb, e⟩ := List.mem_filterMap.mp hm
      have := inj a List.mem_cons_self b (List.mem_cons_of_mem _ hb) x hx e
      subst this
      exact h.1 hb
theorem found_nodup {n : Int} {ds : List Int} (h : Parts (2 * n) ds) : (ds.filterMap (rowOf n)).Nodup := by
  refine nodup_filterMap h.nd fun a ha b hb ⟨f, l⟩ e1 e2 => ?_
  have a1 := ((rowOf_iff ((h.mem a).mp ha).1).mp e1).1
  have b1 := ((rowOf_iff ((h.mem b).mp hb).1).mp e2).1
  omega
/-- sorted: each pair not behind the next; the same pairs, none twice -/
theorem strict_of {qs : List (Int × Int)} (h : qs.Pairwise fun p q => ¬ Lt q p) (nd : qs.Nodup) : qs.Pairwise Lt := by
  refine (h.and nd).imp fun {p q} ⟨a, b⟩ => ?_
  obtain ⟨p1, p2⟩ := p
  obtain ⟨q1, q2⟩ := q
  unfold Lt at *
  simp only at *
  by_cases e1 : p1 = q1
  · by_cases e2 : p2 = q2
    · subst e1 e2; exact (b rfl).elim
    · omega
  · omega
theorem rows_ok {n : Int} {ds : List Int} (h : Parts (2 * n) ds) {qs : List (Int × Int)} (hs : qs.Pairwise fun p q => ¬ Lt q p) (hp : qs.Perm (ds.filterMap (rowOf n))) : Rows n qs :=
  ⟨strict_of hs (hp.nodup_iff.mpr (found_nodup h)), fun _ _ => hp.mem_iff.trans (found_mem h)⟩
theorem whole_ok {n : Int} (hn : 0 < n) {ps qs : List (Int × Int)} (h : HRows n ps) (hs : qs.Pairwise fun p q => ¬ Lt q p) (hp : qs.Perm (ps ++ ps.map fun p : Int × Int => ((1 - p.1, p.2) : Int × Int))) : Rows n qs :=
  Rows.of_high hn h (strict_of hs (hp.nodup_iff.mpr (whole_nodup h))) fun _ => hp.mem_iff
end NB

set_option Elab.async false
/-! Powers of 2 and odd parts. -/
namespace NB
theorem two_pos (k : Nat) : (1 : Int) ≤ 2 ^ k := by
  have := Int.pow_pos (n := 2) (m := k) (by decide)
  omega
theorem pow_succ2 (k : Nat) : (2 : Int) ^ (k + 1) = 2 * 2 ^ k := by rw [Int.pow_succ, Int.mul_comm]
theorem pow_mono2 {a b : Nat} (h : a ≤ b) : (2 : Int) ^ a ≤ 2 ^ b := by
  induction b with
  | zero => have : a = 0 := by omega
            subst this; exact Int.le_refl _
  | succ b ih =>
    by_cases e : a = b + 1
    · subst e; exact Int.le_refl _
    · have := ih (by omega)
      have := two_pos b
      rw [pow_succ2]
      omega
theorem pow_inj2 {a b : Nat} (h : (2 : Int) ^ a = 2 ^ b) : a = b := by
  have key : ∀ {a b : Nat}, a < b → (2 : Int) ^ a < 2 ^ b := fun {a b} hab => by
    have h1 := pow_mono2 (show a + 1 ≤ b from hab)
    have := two_pos a
    rw [pow_succ2] at h1
    omega
  rcases Nat.lt_trichotomy a b with h1 | h1 | h1
  · have := key h1; omega
  · exact h1
  · have := key h1; omega
theorem pow_small {k : Nat} {o n : Int} (ho : 1 ≤ o) (h : n = 2 ^ k * o) (hn : n ≤ 1000000) : k < 20 := by
  refine Decidable.byContradiction fun hc => ?_
  have h1 := pow_mono2 (show 20 ≤ k by omega)
  have h2 : (2 : Int) ^ 20 = 1048576 := by decide
  have h3 : (2 : Int) ^ k * 1 ≤ 2 ^ k * o := Int.mul_le_mul_of_nonneg_left ho (by omega)
  omega
/-- every number has its odd part -/
theorem split_odd : ∀ {N : Nat} {n : Int}, n ≤ N → 1 ≤ n → ∃ (e : Nat) (o : Int), n = 2 ^ e * o ∧ o % 2 = 1 ∧ 1 ≤ o
  | 0, n, h1, h2 => by omega
  | N + 1, n, h1, h2 => by
    by_cases h : n % 2 = 1
    · exact ⟨0, n, by simp, h, h2⟩
    · obtain ⟨e, o, h3, h4, h5⟩ := split_odd (N := N) (n := n / 2) (by omega) (by omega)
      refine ⟨e + 1, o, ?_, h4, h5⟩
      rw [pow_succ2, Int.mul_assoc, ← h3]
      omega
theorem odd_uniq : ∀ {e e' : Nat} {o o' : Int}, o % 2 = 1 → o' % 2 = 1 → (2 : Int) ^ e * o = 2 ^ e' * o' → e = e' ∧ o = o'
  | 0, 0, o, o', _, _, h => by simp at h; exact ⟨rfl, h⟩
  | 0, e' + 1, o, o', h1, _, h => by
    rw [pow_succ2, Int.mul_assoc] at h
    simp at h
    omega
  | e + 1, 0, o, o', _, h2, h => by
    rw [pow_succ2, Int.mul_assoc] at h
    simp at h
    omega
  | e + 1, e' + 1, o, o', h1, h2, h => by
    rw [pow_succ2, pow_succ2, Int.mul_assoc, Int.mul_assoc] at h
    obtain ⟨a, b⟩ := odd_uniq (e := e) (e' := e') h1 h2 (by omega)
    exact ⟨by omega, b⟩
theorem odd_mul {a b : Int} (h1 : a % 2 = 1) (h2 : b % 2 = 1) : a * b % 2 = 1 := by
  rw [Int.mul_emod, h1, h2]
  decide
/-- an odd number that goes into a power of 2 is 1 -/
theorem odd_dvd : ∀ {k : Nat} {a b : Int}, 0 < a → a % 2 = 1 → a * b = 2 ^ k → a = 1
  | 0, a, b, h0, _, h => by
    have : a ∣ 1 := ⟨b, by simpa using h.symm⟩
    have := Int.le_of_dvd (by decide) this
    omega
  | k + 1, a, b, h0, h1, h => by
    have hb : b % 2 = 0 := by
      refine Decidable.byContradiction fun hc => ?_
      have := odd_mul h1 (show b % 2 = 1 by omega)
      rw [h, pow_succ2] at this
      omega
    obtain ⟨c, rfl⟩ : ∃ c, b = 2 * c := ⟨b / 2, by omega⟩
    rw [pow_succ2, Int.mul_left_comm] at h
    exact odd_dvd (k := k) h0 h1 (show a * c = 2 ^ k by omega)
/-- a power of 2 has no high row of two or more -/
theorem pow_no_row {e : Nat} {f l : Int} (h : IsRow (2 ^ e) f l) (hf : 0 < f) (hl : f < l) : False := by
  obtain ⟨_, h⟩ := h
  rw [← pow_succ2] at h
  by_cases hp : (f + l) % 2 = 1
  · have := odd_dvd (k := e + 1) (by omega) hp h
    omega
  · have h' : (l - f + 1) * (f + l) = 2 ^ (e + 1) := by rw [Int.mul_comm]; exact h
    have := odd_dvd (k := e + 1) (by omega) (show (l - f + 1) % 2 = 1 by omega) h'
    omega
/-- the length that judged takes -/
def jlen (e : Nat) (o : Int) : Int := if 2 * 2 ^ e < o then 2 * 2 ^ e else o
theorem jrow {e : Nat} {o n : Int} (ho : o % 2 = 1) (h3 : 3 ≤ o) (hn : n = 2 ^ e * o) : ∃ f l, rowOf n (jlen e o) = some (f, l) ∧ IsRow n f l ∧ 0 < f ∧ f < l := by
  have hm := two_pos e
  unfold jlen
  generalize hM : (2 : Int) ^ e = m at *
  by_cases hc : 2 * m < o
  · rw [if_pos hc]
    -- f = (o + 1) / 2 - m
    have hr : IsRow n ((o + 1) / 2 - m) ((o + 1) / 2 - m + 2 * m - 1) := by
      refine (isRow_len (by omega)).mpr ?_
      have t := two_tri (2 * m)
      have e1 : 2 * m * (2 * m - 1) = 2 * (m * (2 * m - 1)) := by rw [Int.mul_assoc]
      have e2 : 2 * m * ((o + 1) / 2 - m) = m * (o + 1 - 2 * m) := by
        rw [Int.mul_right_comm, Int.mul_comm _ m, Int.mul_comm 2]
        congr 1
        omega
      have e3 : m * (o + 1 - 2 * m) = m * o - m * (2 * m - 1) := by
        rw [← Int.mul_sub]
        congr 1
        omega
      omega
    exact ⟨_, _, (rowOf_iff (by omega)).mpr ⟨rfl, hr⟩, hr, by omega, by omega⟩
  · rw [if_neg hc]
    have hr : IsRow n (m - (o - 1) / 2) (m - (o - 1) / 2 + o - 1) := by
      refine (isRow_len (by omega)).mpr ?_
      have t := two_tri o
      have e2 : o * (m - (o - 1) / 2) = m * o - o * ((o - 1) / 2) := by rw [Int.mul_sub, Int.mul_comm o m]
      have e3 : o * (o - 1) = 2 * (o * ((o - 1) / 2)) := by
        rw [Int.mul_left_comm]
        congr 1
        omega
      omega
    exact ⟨_, _, (rowOf_iff (by omega)).mpr ⟨rfl, hr⟩, hr, by omega, by omega⟩
theorem HRows.pow {e : Nat} {ps : List (Int × Int)} (h : HRows (2 ^ e) ps) : ps = [(2 ^ e, 2 ^ e)] := by
  refine h.uniq ⟨List.pairwise_singleton .., fun f l => ?_⟩
  rw [List.mem_singleton]
  have hp := two_pos e
  constructor
  · intro x
    injection x with x1 x2
    subst x1 x2
    exact ⟨⟨Int.le_refl _, by rw [Int.sub_self, Int.zero_add, Int.mul_one]; omega⟩, by omega⟩
  · rintro ⟨hr, hf⟩
    by_cases hl : f < l
    · exact (pow_no_row hr hf hl).elim
    · obtain ⟨h1, h2⟩ := hr
      have : f = l := by omega
      subst this
      rw [Int.sub_self, Int.zero_add, Int.mul_one] at h2
      rw [show f = 2 ^ e by omega]
theorem HRows.two {n f l : Int} {ps : List (Int × Int)} (hn : 1 ≤ n) (h : HRows n ps) (hr : IsRow n f l) (hf : 0 < f) (hl : f < l) : 1 < ps.length := by
  have m1 := (h.mem f l).mpr ⟨hr, hf⟩
  have m2 : (n, n) ∈ ps := (h.mem n n).mpr ⟨⟨Int.le_refl _, by rw [Int.sub_self, Int.zero_add, Int.mul_one]; omega⟩, by omega⟩
  match ps, m1, m2 with
  | [], m1, _ => cases m1
  | [p], m1, m2 =>
    rw [List.mem_singleton] at m1 m2
    subst m1
    injection m2 with a b
    omega
  | _ :: _ :: _, _, _ => simp
end NB

set_option Elab.async false
set_option maxRecDepth 100000
/-! The least number with so many rows: the program's search, the law's, and the numbers up to 729. -/
namespace NB
/-- one turn of least_from's loop: often is i + 1 -/
def lstep (rest : Int → Int → Option Int) (p many : Int) (best : Option Int) (i : Nat) : Option Int :=
  if many % (1 + (i : Int) + 1) = 0 then
    match rest (many / (1 + (i : Int) + 1)) (1 + (i : Int)) with
    | none => best
    | some r => some (match best with
      | none => r * p ^ (i + 1)
      | some b => if r * p ^ (i + 1) < b then r * p ^ (i + 1) else b)
  else best
def leastF : List Int → Int → Int → Option Int
  | [], many, _ => if many = 1 then some 1 else none
  | p :: ps, many, most => if many = 1 then some 1 else (List.range most.toNat).foldl (lstep (leastF ps) p many) none
def prs : List Int := [3, 5, 7, 11, 13, 17]
def tgt : Nat → Nat
  | 1 => 1 | 2 => 3 | 3 => 9 | 4 => 15 | 5 => 81 | 6 => 45 | 7 => 729 | 8 => 105 | 9 => 225 | 10 => 405 | _ => 0
/-- the ways to part a count; fuel: its halvings -/
def waysF : Nat → Int → Int → List (List Int)
  | 0, many, _ => if many = 1 then [[]] else []
  | k + 1, many, most => (if many = 1 then [[]] else []) ++ (List.range ((if most < many then most else many) + 1 - 2).toNat).flatMap fun (i : Nat) =>
      if many % (2 + (i : Int)) = 0 then (waysF k (many / (2 + (i : Int))) (2 + (i : Int))).map fun r => (2 + (i : Int)) :: r else []
def prodF (way : List Int) : Int := (prs.zip way).foldl (fun a pf => a * pf.1 ^ (pf.2 - 1).toNat) 1
def prodsF (many : Int) : List Int := (waysF 6 many many).map prodF
/-- the program's is the least of the law's -/
theorem least_ok : ∀ m : Nat, m < 61 → 1 ≤ m → ∃ r, leastF prs m m = some r ∧ r ∈ prodsF m ∧ ∀ x ∈ prodsF m, r ≤ x := by
  have key : ∀ m : Nat, m < 61 → 1 ≤ m → (match leastF prs m m with
    | some r => decide (r ∈ prodsF m) && (prodsF m).all fun x => decide (r ≤ x)
    | none => false) = true := by decide +kernel
  intro m h1 h2
  have h := key m h1 h2
  cases e : leastF prs m m with
  | none => rw [e] at h; cases h
  | some r =>
    rw [e] at h
    simp only [Bool.and_eq_true, List.all_eq_true, decide_eq_true_eq] at h
    exact ⟨r, rfl, h.1, h.2⟩
theorem least_tgt : ∀ c : Nat, c < 11 → 1 ≤ c → leastF prs c c = some (tgt c : Int) := by decide +kernel
theorem tgt_ok : ∀ c : Nat, c < 11 → 1 ≤ c → 1 ≤ tgt c ∧ tgt c ≤ 729 := by decide
def kOf : Nat → Nat → Nat
  | 0, _ => 0
  | f + 1, n => let k := kOf f n; if (k + 1) * (k + 2) / 2 ≤ n then k + 1 else k
theorem kOf_ok : ∀ n : Nat, n < 730 → 1 ≤ n → ((kOf 40 n : Nat) : Int) * ((kOf 40 n : Nat) + 1) / 2 ≤ n ∧ (n : Int) < ((kOf 40 n : Nat) + 1) * ((kOf 40 n : Nat) + 1 + 1) / 2 := by decide +kernel
def cnt (n : Nat) : Nat := (acc n (kOf 40 n)).length
theorem cnt_few : ∀ n : Nat, n < 730 → 1 ≤ n → 10 < cnt n ∨ (1 ≤ cnt n ∧ tgt (cnt n) ≤ n) := by decide +kernel
theorem cnt_tgt : ∀ c : Nat, c < 11 → 1 ≤ c → cnt (tgt c) = c := by decide +kernel
theorem cnt_of {n : Nat} {ps : List (Int × Int)} (h1 : 1 ≤ n) (h2 : n < 730) (h : HRows n ps) : ps.length = cnt n := by
  obtain ⟨a, b⟩ := kOf_ok n h2 h1
  rw [h.uniq (acc_rows a b), List.length_reverse]
  rfl
/-- how many ways at most -/
def sB (many : Int) (k : Nat) : Nat := ((List.range k).map fun (i : Nat) => if many % (2 + (i : Int)) = 0 then (many / (2 + (i : Int))).toNat * (many / (2 + (i : Int))).toNat else 0).sum
theorem sB_succ (many : Int) (k : Nat) : sB many (k + 1) = sB many k + if many % (2 + (k : Int)) = 0 then (many / (2 + (k : Int))).toNat * (many / (2 + (k : Int))).toNat else 0 := by
  unfold sB
  rw [List.range_succ, List.map_append, List.sum_append]
  simp
theorem sB_mono (many : Int) : ∀ {k j : Nat}, k ≤ j → sB many k ≤ sB many j
  | k, 0, h => by
    have : k = 0 := by omega
    subst this
    exact Nat.le_refl _
  | k, j + 1, h => by
    by_cases e : k = j + 1
    · subst e; exact Nat.le_refl _
    · have := sB_mono many (show k ≤ j by omega)
      rw [sB_succ]
      omega
theorem sB_table : ∀ m : Nat, m < 61 → 2 ≤ m → sB (m : Int) 60 ≤ m * m := by decide +kernel
theorem flat_len {many : Int} {F : Nat → List (List Int)} : ∀ {k : Nat}, (∀ i, i < k → many % (2 + (i : Int)) = 0 → (F i).length ≤ (many / (2 + (i : Int))).toNat * (many / (2 + (i : Int))).toNat) →
    ((List.range k).flatMap fun (i : Nat) => if many % (2 + (i : Int)) = 0 then F i else []).length ≤ sB many k
  | 0, _ => Nat.le_refl _
  | k + 1, h => by
    have ih := flat_len (many := many) (F := F) (k := k) fun i hi => h i (by omega)
    rw [List.range_succ, List.flatMap_append, List.length_append, sB_succ]
    have h2 := h k (by omega)
    by_cases e : many % (2 + (k : Int)) = 0
    · rw [if_pos e]
      have h3 := h2 e
      simp only [List.flatMap_cons, List.flatMap_nil, List.append_nil, if_pos e]
      omega
    · rw [if_neg e]
      simp only [List.flatMap_cons, List.flatMap_nil, List.append_nil, if_neg e]
      simp only [List.length_nil]
      omega
theorem waysF_len : ∀ {n : Nat} {many most : Int}, 1 ≤ many → many ≤ 60 → (waysF n many most).length ≤ many.toNat * many.toNat
  | 0, many, most, h1, h2 => by
    unfold waysF
    split
    · rename_i e
      subst e
      decide
    · exact Nat.zero_le _
  | n + 1, many, most, h1, h2 => by
    unfold waysF
    rw [List.length_append]
    have key : ∀ k : Nat, k ≤ 60 → ((List.range k).flatMap fun (i : Nat) => if many % (2 + (i : Int)) = 0 then (waysF n (many / (2 + (i : Int))) (2 + (i : Int))).map fun r => (2 + (i : Int)) :: r else []).length ≤ sB many k := fun k hk => by
      refine flat_len fun i hi hd => ?_
      rw [List.length_map]
      have hq := Int.mul_ediv_cancel' (Int.dvd_of_emod_eq_zero hd)
      refine waysF_len ?_ ?_
      · exact Int.pos_of_mul_pos_right (a := 2 + (i : Int)) (by omega) (by omega)
      · have := Int.ediv_le_self (2 + (i : Int)) (show 0 ≤ many by omega)
        omega
    by_cases e : many = 1
    · subst e
      rw [if_pos rfl]
      have e2 : ((if most < 1 then most else 1) + 1 - 2 : Int).toNat = 0 := by split <;> omega
      rw [e2]
      exact Nat.le_refl 1
    · rw [if_neg e]
      obtain ⟨m, rfl⟩ := Int.eq_ofNat_of_zero_le (show 0 ≤ many by omega)
      have h3 := key ((if most < (m : Int) then most else (m : Int)) + 1 - 2).toNat (by split <;> omega)
      have h4 := sB_mono (m : Int) (show ((if most < (m : Int) then most else (m : Int)) + 1 - 2).toNat ≤ 60 by split <;> omega)
      have h5 := sB_table m (by omega) (by omega)
      rw [Int.toNat_natCast]
      simp only [List.length_nil]
      omega
theorem waysF_mem : ∀ {n : Nat} {many most : Int}, 1 ≤ many → many ≤ 60 → ∀ w ∈ waysF n many most, ∀ f ∈ w, 2 ≤ f ∧ f ≤ 60
  | 0, many, most, h1, h2, w, hw, f, hf => by
    unfold waysF at hw
    split at hw
    · rw [List.mem_singleton] at hw
      subst hw
      cases hf
    · cases hw
  | n + 1, many, most, h1, h2, w, hw, f, hf => by
    unfold waysF at hw
    rcases List.mem_append.mp hw with hw | hw
    · split at hw
      · rw [List.mem_singleton] at hw
        subst hw
        cases hf
      · cases hw
    · obtain ⟨i, hi, hw⟩ := List.mem_flatMap.mp hw
      have hi := List.mem_range.mp hi
      have hk : (i : Int) < 59 := by
        have : ((if most < many then most else many) + 1 - 2).toNat ≤ 59 := by split <;> omega
        omega
      split at hw
      · rename_i hd
        obtain ⟨r, hr, rfl⟩ := List.mem_map.mp hw
        rcases List.mem_cons.mp hf with rfl | hf
        · omega
        · have hq := Int.mul_ediv_cancel' (Int.dvd_of_emod_eq_zero hd)
          have := Int.ediv_le_self (2 + (i : Int)) (show 0 ≤ many by omega)
          exact waysF_mem (n := n) (Int.pos_of_mul_pos_right (a := 2 + (i : Int)) (by omega) (by omega)) (by omega) r hr f hf
      · cases hw
/-- the search as a loop -/
def foldF (ps : List Int) (many : Int) (k : Nat) : Option Int := match ps with
  | [] => none
  | p :: r => (List.range k).foldl (lstep (leastF r) p many) none
theorem leastF_eq (ps : List Int) (many most : Int) : leastF ps many most = if many = 1 then some 1 else foldF ps many most.toNat := by
  cases ps <;> rfl
theorem foldF_succ (p : Int) (r : List Int) (many : Int) (k : Nat) : foldF (p :: r) many (k + 1) = lstep (leastF r) p many (foldF (p :: r) many k) k := by
  unfold foldF
  simp only
  rw [List.range_succ, List.foldl_append]
  rfl
theorem waysF_wlen : ∀ {n : Nat} {many most : Int}, ∀ w ∈ waysF n many most, w.length ≤ n
  | 0, many, most, w, hw => by
    unfold waysF at hw
    split at hw
    · rw [List.mem_singleton] at hw
      subst hw
      exact Nat.le_refl _
    · cases hw
  | n + 1, many, most, w, hw => by
    unfold waysF at hw
    rcases List.mem_append.mp hw with hw | hw
    · split at hw
      · rw [List.mem_singleton] at hw
        subst hw
        exact Nat.zero_le _
      · cases hw
    · obtain ⟨i, _, hw⟩ := List.mem_flatMap.mp hw
      split at hw
      · obtain ⟨r, hr, rfl⟩ := List.mem_map.mp hw
        have := waysF_wlen (n := n) r hr
        rw [List.length_cons]
        omega
      · cases hw
end NB

set_option Elab.async false
set_option maxRecDepth 100000
set_option maxHeartbeats 4000000
/-! The hard numbers: how many rows, the first, and what is told of them. -/
namespace NB
/-- how many lengths to K have a row -/
def many (n : Int) : Nat → Nat → Nat
  | 0, c => c
  | K + 1, c => match rowOf n (K + 1 : Nat) with
    | none => many n K c
    | some _ => many n K (c + 1)
theorem many_eq (n : Int) : ∀ K c, many n K c = (acc n K).length + c
  | 0, c => by
    show c = 0 + c
    omega
  | K + 1, c => by
    unfold many
    cases h : rowOf n (K + 1 : Nat) with
    | none => rw [acc_none h]; exact many_eq n K c
    | some p =>
      rw [acc_some h, List.length_append]
      have := many_eq n K (c + 1)
      show many n K (c + 1) = _
      rw [this, List.length_singleton]
      omega
theorem many_of {n : Int} {K c : Nat} {ps : List (Int × Int)} (h : HRows n ps) (h1 : (K : Int) * ((K : Int) + 1) / 2 ≤ n) (h2 : n < ((K : Int) + 1) * ((K : Int) + 1 + 1) / 2) (hc : many n K 0 = c) : ps.length = c := by
  rw [HRows.uniq h (acc_rows h1 h2), List.length_reverse, ← hc, many_eq]
  omega
def hards : List (Int × Int) := [(675675, 96), (765765, 96), (945945, 96), (720720, 48), (994009, 3), (999983, 2), (1000000, 7)]
theorem c1 : many 675675 1161 0 = 96 := by decide +kernel
theorem c2 : many 765765 1237 0 = 96 := by decide +kernel
theorem c3 : many 945945 1374 0 = 96 := by decide +kernel
theorem c4 : many 720720 1200 0 = 48 := by decide +kernel
theorem c5 : many 994009 1409 0 = 3 := by decide +kernel
theorem c6 : many 999983 1413 0 = 2 := by decide +kernel
theorem c7 : many 1000000 1413 0 = 7 := by decide +kernel
theorem hard_ok : ∀ p ∈ hards, 1 ≤ p.1 ∧ p.1 ≤ 1000000 ∧ ∀ ps, HRows p.1 ps → (ps.length : Int) = p.2 := by
  intro p hp
  simp only [hards, List.mem_cons, List.not_mem_nil, or_false] at hp
  rcases hp with rfl | rfl | rfl | rfl | rfl | rfl | rfl
  · exact ⟨by decide, by decide, fun ps h => by rw [many_of h (by decide) (by decide) c1]; rfl⟩
  · exact ⟨by decide, by decide, fun ps h => by rw [many_of h (by decide) (by decide) c2]; rfl⟩
  · exact ⟨by decide, by decide, fun ps h => by rw [many_of h (by decide) (by decide) c3]; rfl⟩
  · exact ⟨by decide, by decide, fun ps h => by rw [many_of h (by decide) (by decide) c4]; rfl⟩
  · exact ⟨by decide, by decide, fun ps h => by rw [many_of h (by decide) (by decide) c5]; rfl⟩
  · exact ⟨by decide, by decide, fun ps h => by rw [many_of h (by decide) (by decide) c6]; rfl⟩
  · exact ⟨by decide, by decide, fun ps h => by rw [many_of h (by decide) (by decide) c7]; rfl⟩
/-- a row from 1 on is the first -/
theorem head_one {n m : Int} {p : Int × Int} {ps : List (Int × Int)} (h : HRows n (p :: ps)) (hr : IsRow n 1 m) : p = (1, m) := by
  have hm := (h.mem 1 m).mpr ⟨hr, by decide⟩
  rcases List.mem_cons.mp hm with e | hm
  · exact e.symm
  · exfalso
    have hlt := (List.pairwise_cons.mp h.srt).1 _ hm
    obtain ⟨a, b⟩ := p
    have hp := (h.mem a b).mp List.mem_cons_self
    unfold Lt at hlt
    simp only at hlt
    have ha : a = 1 := by omega
    subst ha
    have hb : b < m := by omega
    have e1 := hp.1.2
    have e2 := hr.2
    have e3 : (1 + b) * (b - 1 + 1) ≤ (1 + b) * (m - 1 + 1) := Int.mul_le_mul_of_nonneg_left (by omega) (by have := hp.1.1; omega)
    have e4 : (1 + b) * (m - 1 + 1) < (1 + m) * (m - 1 + 1) := Int.mul_lt_mul_of_pos_right (by omega) (by have := hr.1; omega)
    omega
/-- numbers of which just this is told -/
structure Alone (N f l : Int) : Prop where
  lo : 1 ≤ N
  hi : N ≤ 1000000
  one : ∀ (e : Nat) (o f' l' : Int), N = 2 ^ e * o → o % 2 = 1 → rowOf N (jlen e o) = some (f', l') → f' = f ∧ l' = l
  no : ∀ e : Nat, N ≠ 2 ^ e
theorem alone_of {N f l : Int} (e : Nat) (o : Int) (h : N = 2 ^ e * o) (ho : o % 2 = 1) (h3 : 3 ≤ o) (lo : 1 ≤ N) (hi : N ≤ 1000000) (hr : rowOf N (jlen e o) = some (f, l)) : Alone N f l where
  lo := lo
  hi := hi
  one := fun e' o' f' l' h' ho' hr' => by
    obtain ⟨a, b⟩ := odd_uniq ho ho' (h.symm.trans h')
    subst a
    subst b
    rw [hr] at hr'
    cases hr'
    exact ⟨rfl, rfl⟩
  no := fun e' h' => by
    obtain ⟨_, b⟩ := odd_uniq (o' := 1) ho (by decide) (show (2 : Int) ^ e * o = 2 ^ e' * 1 by rw [Int.mul_one, ← h, ← h'])
    omega
theorem alone1 : Alone 786432 262143 262145 := alone_of 18 3 (by decide) (by decide) (by decide) (by decide) (by decide) (by decide)
theorem alone2 : Alone 999983 499991 499992 := alone_of 0 999983 (by decide) (by decide) (by decide) (by decide) (by decide) (by decide)
theorem alone3 : Alone 999958 249988 249991 := alone_of 1 499979 (by decide) (by decide) (by decide) (by decide) (by decide) (by decide)
theorem pow19 {e : Nat} {o : Int} (h : (524288 : Int) = 2 ^ e * o) (ho : o % 2 = 1) (h3 : 3 ≤ o) : False := by
  obtain ⟨_, b⟩ := odd_uniq (o := 1) (o' := o) (by decide) ho (show (2 : Int) ^ 19 * 1 = 2 ^ e * o from h ▸ by decide)
  omega
end NB

set_option Elab.async false
set_option maxRecDepth 100000
set_option maxHeartbeats 4000000
/-! Words of our own over the hand layer. -/
namespace NB
open PySem L2
abbrev ib (i : Int) : Nat := Builtin.Int.intBits i
/-- a def of the top, as callers know it -/
def Callee (P : Program) (w : World) (K : PySem.W.Frag) (mg : Str → Option Value) (base : Heap) (k : Nat) (x : Str) (ps : List Str) (sp : Sp) : Prop :=
  ∃ f fd, mg x = some (.ref f) ∧ PySem.W.keepIn K (.ref f) = true ∧ Binds K fd ps [] ∧ FnOk P w K mg base CX0 k f fd ps sp
/-- the built-ins' names are no names of the module -/
structure Bt (mg : Str → Option Value) : Prop where
  isinstance_ : mg "isinstance" = none
  int_ : mg "int" = none
  bool_ : mg "bool" = none
  list_ : mg "list" = none
  tuple_ : mg "tuple" = none
  len_ : mg "len" = none
  max_ : mg "max" = none
  min_ : mg "min" = none
  sorted_ : mg "sorted" = none
  range_ : mg "range" = none
  sum_ : mg "sum" = none
  all_ : mg "all" = none
  zip_ : mg "zip" = none
  set_ : mg "set" = none
/-! ### pairs -/
/-- at t a pair of two ints -/
def IsP (H : Hp) (x : V) (p : Int × Int) : Prop := ∃ t, x = .ref t ∧ H t = some (.tup [.int p.1, .int p.2])
abbrev PL (H : Hp) (xs : List V) (ps : List (Int × Int)) : Prop := Paired (IsP H) xs ps
theorem IsP.same {H H' : Hp} (e : Same H H') {x : V} {p : Int × Int} (h : IsP H x p) : IsP H' x p := let ⟨t, a, b⟩ := h; ⟨t, a, e _ _ b⟩
theorem PL.same {H H' : Hp} (e : Same H H') {xs : List V} {ps : List (Int × Int)} (h : PL H xs ps) : PL H' xs ps := Paired.mapP h fun _ _ => IsP.same e
theorem PL.append {H : Hp} : ∀ {xs ys : List V} {ps qs : List (Int × Int)}, PL H xs ps → PL H ys qs → PL H (xs ++ ys) (ps ++ qs)
  | _, _, _, _, .nil, h => h
  | _, _, _, _, .cons a t, h => .cons a (PL.append t h)
theorem PL.reverse {H : Hp} : ∀ {xs : List V} {ps : List (Int × Int)}, PL H xs ps → PL H xs.reverse ps.reverse
  | _, _, .nil => .nil
  | _, _, .cons a t => by
    rw [List.reverse_cons, List.reverse_cons]
    exact PL.append (PL.reverse t) (.cons a .nil)
theorem PL.get {H : Hp} : ∀ {xs : List V} {ps : List (Int × Int)} {i : Nat} {x : V}, PL H xs ps → xs[i]? = some x → ∃ p, ps[i]? = some p ∧ IsP H x p
  | _, _, i, _, .nil, e => by simp at e
  | _, _, 0, _, .cons a t, e => by simp at e; subst e; exact ⟨_, rfl, a⟩
  | _, _, i + 1, x, .cons a t, e => by
    obtain ⟨p, h1, h2⟩ := PL.get (i := i) (x := x) t (by simpa using e)
    exact ⟨p, by simpa using h1, h2⟩
/-- at a a list of pairs, a thing of the program's own -/
def LP (H : Hp) (a : Addr) (ps : List (Int × Int)) : Prop := ∃ xs, H a = some (.lst xs) ∧ PL H xs ps
theorem LP.same {H H' : Hp} (e : Same H H') {a : Addr} {ps : List (Int × Int)} (h : LP H a ps) : LP H' a ps := let ⟨xs, h1, h2⟩ := h; ⟨xs, e _ _ h1, h2.same e⟩
theorem Same.new {H : Hp} {p : Addr} {o : HO} (h : H p = none) : Same H (upd H p o) := fun a u e => by
  rw [upd_ne (ne_of_none e h)]
  exact e
/-- an object that H does not know may change -/
theorem Same.mut {H H' : Hp} {p : Addr} {o : HO} (e : Same H H') (h : H p = none) : Same H (upd H' p o) := fun a u ha => by
  rw [upd_ne (ne_of_none ha h)]
  exact e a u ha
theorem ne_new {H : Hp} {p q : Addr} (h : H p = none) (h' : H q ≠ none) : q ≠ p := fun e => h' (e ▸ h)
/-! ### sorted, of pairs -/
def keyOf (H : Hp) : V → Int × Int
  | .ref t => match H t with
    | some (.tup [.int a, .int b]) => (a, b)
    | _ => (0, 0)
  | _ => (0, 0)
theorem IsP.key {H : Hp} {x : V} {p : Int × Int} (h : IsP H x p) : keyOf H x = p := by
  obtain ⟨t, rfl, h⟩ := h
  unfold keyOf
  simp only [h]
theorem PL.keys {H : Hp} : ∀ {xs : List V} {ps : List (Int × Int)}, PL H xs ps → xs.map (keyOf H) = ps
  | _, _, .nil => rfl
  | _, _, .cons a t => by rw [List.map_cons, a.key, PL.keys t]
theorem PL.mem {H : Hp} : ∀ {xs : List V} {ps : List (Int × Int)}, PL H xs ps → ∀ x ∈ xs, IsP H x (keyOf H x)
  | _, _, .nil, _, h => nomatch h
  | _, _, .cons a t, x, h => by
    rcases List.mem_cons.mp h with e | h
    · subst e; rw [a.key]; exact a
    · exact PL.mem t x h
theorem PL.of_keys {H : Hp} : ∀ {ys : List V}, (∀ x ∈ ys, IsP H x (keyOf H x)) → PL H ys (ys.map (keyOf H))
  | [], _ => .nil
  | y :: r, h => .cons (h y List.mem_cons_self) (PL.of_keys fun x hx => h x (List.mem_cons_of_mem _ hx))
theorem srt_facts {H : Hp} {xs ys : List V} {ps : List (Int × Int)} (hp : PL H xs ps) (h1 : SrtO.Srtd (ltP (keyOf H)) ys) (h2 : SrtO.Stb (ltP (keyOf H)) ys xs) :
    ∃ qs, PL H ys qs ∧ (qs.Pairwise fun p q => ¬ Lt q p) ∧ qs.Perm ps := by
  have hm : ∀ x ∈ ys, IsP H x (keyOf H x) := fun x hx => hp.mem x (h2.perm.mem_iff.mp hx)
  refine ⟨ys.map (keyOf H), PL.of_keys hm, ?_, ?_⟩
  · refine List.pairwise_map.mpr (List.Pairwise.imp (fun {x y} h => ?_) h1)
    have h' := SrtO.lexB_no.mp h
    unfold Lt
    omega
  · rw [← hp.keys]
    exact h2.perm.map _
theorem rd_sorted {K : PySem.W.Frag} {H : Hp} {a : Addr} {xs : List V} {ps : List (Int × Int)} {Q : VK} (hs : SqL K H a xs) (hp : PL H xs ps)
    (q : ∀ ys qs p, PL H ys qs → (qs.Pairwise fun p q => ¬ Lt q p) → qs.Perm ps → H p = none → Q (.ref p) (upd H p (.lst ys))) : rSortedPO K [.ref a] H Q := by
  refine ⟨a, xs, keyOf H, rfl, hs, fun x hx => hp.mem x hx, fun ys p h1 h2 hn => ?_⟩
  obtain ⟨qs, a, b, c⟩ := srt_facts hp h1 h2
  exact q ys qs p a b c hn
/-! ### data -/
def dat (ps : List (Int × Int)) : List PyData := ps.map fun p => PyData.tuple [.int p.1, .int p.2]
theorem PL.dat {K : PySem.W.Frag} {H : Hp} : ∀ {xs : List V} {ps : List (Int × Int)}, PL H xs ps → DpAll K H xs (NB.dat ps)
  | _, _, .nil => .nil
  | _, _, .cons a t => by
    obtain ⟨t1, e, h⟩ := a
    subst e
    exact .cons (.tup (SqT.of h) (.cons (.int _) (.cons (.int _) .nil))) (PL.dat t)
theorem LP.dat {K : PySem.W.Frag} {H : Hp} {a : Addr} {ps : List (Int × Int)} (h : LP H a ps) : Dp K H (.ref a) (.list (NB.dat ps)) :=
  let ⟨_, h1, h2⟩ := h
  .lst (SqL.of h1) h2.dat
theorem eqv_dat : ∀ ps qs : List (Int × Int), PyData.eqvAll (dat ps) (dat qs) = decide (ps = qs)
  | [], [] => by simp [dat, PyData.eqvAll]
  | [], q :: r => by simp [dat, PyData.eqvAll]
  | p :: r, [] => by simp [dat, PyData.eqvAll]
  | (a, b) :: r, (c, d) :: r' => by
    have ih := eqv_dat r r'
    unfold dat at *
    rw [List.map_cons, List.map_cons, PyData.eqvAll, ih, PyData.eqv, PyData.eqvAll, PyData.eqvAll, PyData.eqvAll, PyData.eqv, PyData.eqv]
    by_cases e1 : a = c <;> by_cases e2 : b = d <;> by_cases e3 : r = r' <;> simp [e1, e2, e3]
theorem lay_dat : ∀ ps : List (Int × Int), PyData.canLayAll0 (dat ps) = true
  | [] => rfl
  | (a, b) :: r => by
    have ih := lay_dat r
    unfold dat at *
    rw [List.map_cons, PyData.canLayAll0, ih]
    rfl
theorem dep_dat : ∀ ps : List (Int × Int), PyData.depthAll (dat ps) ≤ 2
  | [] => by decide
  | (a, b) :: r => by
    have ih := dep_dat r
    unfold dat at *
    rw [List.map_cons]
    simp only [PyData.depthAll, PyData.depth] at *
    omega
theorem shaped_dat (ps : List (Int × Int)) : SeqAt.shaped (.list (dat ps)) = true := by
  have h1 := lay_dat ps
  have h2 := dep_dat ps
  unfold SeqAt.shaped
  rw [Bool.and_eq_true]
  refine ⟨?_, ?_⟩
  · simp only [PyData.canLay0]; exact h1
  · refine decide_eq_true ?_
    simp only [PyData.depth]
    omega
theorem rd_eq {K : PySem.W.Frag} {H : Hp} {a b : Addr} {ps qs : List (Int × Int)} {Q : VK} (h1 : LP H a ps) (h2 : LP H b qs) (q : Q (.bl (decide (ps = qs))) H) : rEqD K (.ref a) (.ref b) H Q :=
  ⟨_, _, h1.dat, h2.dat, shaped_dat ps, shaped_dat qs, by rw [PyData.eqv, eqv_dat]; exact q⟩
theorem rd_ne {K : PySem.W.Frag} {H : Hp} {a b : Addr} {ps qs : List (Int × Int)} {Q : VK} (h1 : LP H a ps) (h2 : LP H b qs) (q : Q (.bl (!decide (ps = qs))) H) : rNeD K (.ref a) (.ref b) H Q :=
  ⟨_, _, h1.dat, h2.dat, shaped_dat ps, shaped_dat qs, by rw [PyData.eqv, eqv_dat]; exact q⟩
theorem IsP.dat {K : PySem.W.Frag} {H : Hp} {x : V} {p : Int × Int} (h : IsP H x p) : Dp K H x (.tuple [.int p.1, .int p.2]) := by
  obtain ⟨t, e, h⟩ := h
  subst e
  exact .tup (SqT.of h) (.cons (.int _) (.cons (.int _) .nil))
theorem shaped_p (p : Int × Int) : SeqAt.shaped (.tuple [.int p.1, .int p.2]) = true := by
  obtain ⟨a, b⟩ := p
  simp [SeqAt.shaped, PyData.canLay0, PyData.canLayAll0, PyData.depth, PyData.depthAll]
theorem eqv_p (p q : Int × Int) : PyData.eqv (.tuple [.int p.1, .int p.2]) (.tuple [.int q.1, .int q.2]) = decide (p = q) := by
  obtain ⟨a, b⟩ := p
  obtain ⟨c, d⟩ := q
  rw [PyData.eqv, PyData.eqvAll, PyData.eqvAll, PyData.eqvAll, PyData.eqv, PyData.eqv]
  by_cases e1 : a = c <;> by_cases e2 : b = d <;> simp [e1, e2]
theorem rd_eqP {K : PySem.W.Frag} {H : Hp} {x y : V} {p q : Int × Int} {Q : VK} (h1 : IsP H x p) (h2 : IsP H y q) (h : Q (.bl (decide (p = q))) H) : rEqD K x y H Q :=
  ⟨_, _, h1.dat, h2.dat, shaped_p p, shaped_p q, by rw [eqv_p]; exact h⟩
theorem rd_neP {K : PySem.W.Frag} {H : Hp} {x y : V} {p q : Int × Int} {Q : VK} (h1 : IsP H x p) (h2 : IsP H y q) (h : Q (.bl (!decide (p = q))) H) : rNeD K x y H Q :=
  ⟨_, _, h1.dat, h2.dat, shaped_p p, shaped_p q, by rw [eqv_p]; exact h⟩
/-- a pair or None -/
def IsO (H : Hp) (x : V) : Option (Int × Int) → Prop
  | none => x = .non
  | some p => IsP H x p
def datO : Option (Int × Int) → PyData
  | none => .none
  | some p => .tuple [.int p.1, .int p.2]
theorem IsO.same {H H' : Hp} (e : Same H H') {x : V} : ∀ {o : Option (Int × Int)}, IsO H x o → IsO H' x o
  | none, h => h
  | some _, h => IsP.same e h
theorem IsO.dat {K : PySem.W.Frag} {H : Hp} {x : V} : ∀ {o : Option (Int × Int)}, IsO H x o → Dp K H x (datO o)
  | none, h => by
    cases (show x = .non from h)
    exact .non
  | some _, h => IsP.dat h
theorem shaped_o : ∀ o : Option (Int × Int), SeqAt.shaped (datO o) = true
  | none => by decide
  | some p => shaped_p p
theorem eqv_o : ∀ o u : Option (Int × Int), PyData.eqv (datO o) (datO u) = decide (o = u)
  | none, none => rfl
  | none, some p => by simp [datO, PyData.eqv]
  | some p, none => by simp [datO, PyData.eqv]
  | some p, some q => by
    show PyData.eqv (.tuple [.int p.1, .int p.2]) (.tuple [.int q.1, .int q.2]) = _
    rw [eqv_p]
    simp
theorem rd_eqO {K : PySem.W.Frag} {H : Hp} {x y : V} {p q : Option (Int × Int)} {Q : VK} (h1 : IsO H x p) (h2 : IsO H y q) (h : Q (.bl (decide (p = q))) H) : rEqD K x y H Q :=
  ⟨_, _, h1.dat, h2.dat, shaped_o p, shaped_o q, by rw [eqv_o]; exact h⟩
theorem rd_neO {K : PySem.W.Frag} {H : Hp} {x y : V} {p q : Option (Int × Int)} {Q : VK} (h1 : IsO H x p) (h2 : IsO H y q) (h : Q (.bl (!decide (p = q))) H) : rNeD K x y H Q :=
  ⟨_, _, h1.dat, h2.dat, shaped_o p, shaped_o q, by rw [eqv_o]; exact h⟩
/-! ### isinstance of an int -/
theorem rd_isi_int {K : PySem.W.Frag} {H : Hp} {i : Int} {T : String} {b : Bool} {Q : VK} (h : kitB "int" T = some b) (q : Q (.bl b) H) : rIsi K [.int i, .ty T] H Q :=
  ⟨_, _, _, _, b, rfl, .ty T, .base (.int i), kit_ty h, q⟩
theorem rd_isi_lst {K : PySem.W.Frag} {H : Hp} {a : Addr} {xs : List V} {T : String} {b : Bool} {Q : VK} (e : H a = some (.lst xs)) (h : kitB "list" T = some b) (q : Q (.bl b) H) : rIsi K [.ref a, .ty T] H Q :=
  ⟨_, _, _, _, b, rfl, .ty T, .base (.lst e), kit_ty h, q⟩
theorem rd_isi_tup {K : PySem.W.Frag} {H : Hp} {a : Addr} {xs : List V} {T : String} {b : Bool} {Q : VK} (e : H a = some (.tup xs)) (h : kitB "tuple" T = some b) (q : Q (.bl b) H) : rIsi K [.ref a, .ty T] H Q :=
  ⟨_, _, _, _, b, rfl, .ty T, .base (.tup e), kit_ty h, q⟩
theorem ib_of {i : Int} {m : Nat} (h : i.natAbs < 2 ^ m) : ib i ≤ m := PySem.intBits_le_iff.mpr h
theorem itB {b : Bool} {A B : Prop} (hb : b = true) (h : A) : if b = true then A else B := by rw [if_pos hb]; exact h
theorem itN {b : Bool} {A B : Prop} (hb : b = false) (h : B) : if b = true then A else B := by rw [hb]; exact h
theorem iteNN {c A B : Prop} [Decidable c] (hc : ¬ c) (h : A) : if (!decide c) = true then A else B := by
  rw [decide_eq_false hc]
  exact h
theorem iteD {c A B : Prop} [Decidable c] (hc : c) (h : A) : if decide c = true then A else B := by
  rw [decide_eq_true hc]
  exact h
theorem iteDN {c A B : Prop} [Decidable c] (hc : ¬ c) (h : B) : if decide c = true then A else B := by
  rw [decide_eq_false hc]
  exact h
/-! ### a while, turns counted -/
theorem while_nat {c : TT} {tb : TS} {D : Ends} {σ : L2.St} {H : Hp} (M : Nat) (Pv : Nat → L2.St → Hp → Prop) (h0 : Pv 0 σ H)
    (hs : ∀ k m σ H, k + m = M → Pv k σ H → c σ H fun b H1 => if b = true then ∃ N : L2.St → Hp → Prop, (∀ σ' H', N σ' H' → ∃ m', m' < m ∧ ∃ k, k + m' = M ∧ Pv k σ' H') ∧ tb { D with nx := N, ct := N, bk := D.nx } σ H1 else D.nx σ H1) : tWhile c tb D σ H := by
  refine ⟨fun m σ H => ∃ k, k + m = M ∧ Pv k σ H, ⟨M, 0, Nat.zero_add _, h0⟩, ?_⟩
  rintro m σ H ⟨k, e, p⟩
  exact hs k m σ H e p
/-- one turn more -/
theorem turn_nat {M k m : Nat} (Pv : Nat → L2.St → Hp → Prop) (e : k + m = M) (h : k < M) : ∀ σ' H', Pv (k + 1) σ' H' → ∃ m', m' < m ∧ ∃ k, k + m' = M ∧ Pv k σ' H' := fun _ _ p => ⟨m - 1, by omega, k + 1, by omega, p⟩
theorem small1000' {n : Nat} (h : n ≤ 100000) : n < sizeLine := Nat.lt_of_le_of_lt h (by decide)
theorem tif_o {t : TT} {ta tb : TE} {σ : L2.St} {H : Hp} {Q : VK} {o : Option (Int × Int)} (b : Bool) (ht : ∀ Qt : Bool → Hp → Prop, Qt b H → t σ H Qt)
    (h1 : b = true → ∀ Qe : VK, (∀ x H', Same H H' → IsO H' x o → Qe x H') → ta σ H Qe) (h2 : b = false → ∀ Qe : VK, (∀ x H', Same H H' → IsO H' x o → Qe x H') → tb σ H Qe)
    (hq : ∀ x H', Same H H' → IsO H' x o → Q x H') : tIf t ta tb σ H Q := by
  refine ht _ ?_
  cases b with
  | true => exact h1 rfl Q hq
  | false => exact h2 rfl Q hq
/-! ### promises -/
/-- is_whole of an int -/
def spWhole : Sp := fun vs H Q _ => ∃ i : Int, vs = [.int i] ∧ Q (.bl true) H
def spCheck : Sp := fun vs H Q _ => ∃ i : Int, vs = [.int i] ∧ 1 ≤ i ∧ i ≤ 1000000 ∧ Q .non H
def spParts : Sp := fun vs H Q _ => ∃ n : Int, vs = [.int n] ∧ 0 < n ∧ n ≤ 2000000 ∧ ∀ (ds : List Int) p H', Parts n ds → ds.length ≤ 3000 → Same H H' → H p = none → H' p = some (.lst (ds.map V.int)) → Q (.ref p) H'
def spRow : Sp := fun vs H Q _ => ∃ n L : Int, vs = [.int n, .int L] ∧ 1 ≤ n ∧ n ≤ 1000000 ∧ 1 ≤ L ∧ ib L ≤ 2000000 ∧ ∀ x H', Same H H' → IsO H' x (rowOf n L) → Q x H'
def spRows : Sp := fun vs H Q _ => ∃ n : Int, vs = [.int n] ∧ 1 ≤ n ∧ n ≤ 1000000 ∧ ∀ ps p H', Rows n ps → ps.length ≤ 3000 → Same H H' → H p = none → LP H' p ps → Q (.ref p) H'
def spHigh : Sp := fun vs H Q _ => ∃ n : Int, vs = [.int n] ∧ 1 ≤ n ∧ n ≤ 1000000 ∧ ∀ ps p H', HRows n ps → ps.length ≤ 3000 → Same H H' → H p = none → LP H' p ps → Q (.ref p) H'
/-! ### the law's helpers -/
def Bits (ns : List Int) : Prop := ∀ z ∈ ns, ib z ≤ 1048576
def spCellAt (K : PySem.W.Frag) : Sp := fun vs H Q _ => ∃ (a : Addr) (ns : List Int) (k : Int), vs = [.ref a, .int k] ∧ SqL K H a (ns.map V.int) ∧ Bits ns ∧ 0 ≤ k ∧ k < 2 ^ 62 ∧ ∀ c, ib c ≤ 1048576 → Q (.int c) H
def spDraw : Sp := fun vs H Q _ => ∃ c k m : Int, vs = [.int c, .int k, .int m] ∧ 0 ≤ k ∧ 0 < m ∧ ∀ r H', 0 ≤ r → r < m → Same H H' → Q (.int r) H'
def spValue : Sp := fun vs H Q _ => ∃ c t : Int, vs = [.int c, .int t] ∧ ib c ≤ 1048576 ∧ 0 ≤ t ∧ t ≤ 100 ∧ ∀ v H', 0 ≤ v → ib v ≤ 1048577 → Same H H' → Q (.int v) H'
def spNumber (K : PySem.W.Frag) : Sp := fun vs H Q _ => ∃ (a : Addr) (ns : List Int) (k : Int), vs = [.ref a, .int k] ∧ SqL K H a (ns.map V.int) ∧ Bits ns ∧ 0 ≤ k ∧ k < 2 ^ 62 ∧ ∀ n H', 1 ≤ n → n ≤ 1000000 → Same H H' → Q (.int n) H'
def primes : List Int := [1000003, 1000033, 1000037, 1000039, 1000081, 1000099, 1000117, 1000121, 1000133, 1000151, 1000159, 1000171, 1000183, 1000187, 1000193, 1000199]
theorem prime_at {i : Int} (h0 : 0 ≤ i) (h : i < 16) : ∃ p : Int, 0 < p ∧ atI (primes.map V.int) i = some (.int p) := by
  obtain ⟨j, rfl⟩ := Int.eq_ofNat_of_zero_le h0
  have hj : j < primes.length := by show j < 16; omega
  have hp : ∀ p ∈ primes, 0 < p := by decide
  refine ⟨primes[j], hp _ (List.getElem_mem hj), atI_nat ?_⟩
  rw [List.getElem?_map, List.getElem?_eq_getElem hj]
  rfl
theorem at_int {ns : List Int} {k : Int} (h0 : 0 ≤ k) (h : k < ns.length) : ∃ z ∈ ns, atI (ns.map V.int) k = some (.int z) := by
  obtain ⟨j, rfl⟩ := Int.eq_ofNat_of_zero_le h0
  have hj : j < ns.length := by omega
  refine ⟨ns[j], List.getElem_mem hj, atI_nat ?_⟩
  rw [List.getElem?_map, List.getElem?_eq_getElem hj]
  rfl
theorem ib_add {x y : Int} {m n : Nat} (hx : ib x ≤ m) (hy : ib y ≤ n) : ib (x + y) ≤ max m n + 1 := PySem.intBits_add_le hx hy
theorem ib_sub {x y : Int} {m n : Nat} (hx : ib x ≤ m) (hy : ib y ≤ n) : ib (x - y) ≤ max m n + 1 := PySem.intBits_sub_le hx hy
theorem ib_mul {x y : Int} {m n : Nat} (hx : ib x ≤ m) (hy : ib y ≤ n) : ib (x * y) ≤ m + n := PySem.intBits_mul_le hx hy
theorem mulx {x y : Int} {m n : Nat} (hx : ib x ≤ m) (hy : ib y ≤ n) (h : m + n ≤ 134217728) : CMulX x y := by
  show (ib x : Int) + (ib y : Int) ≤ 134217728
  omega
theorem cut_int (ns : List Int) (lo hi : Option Int) : ∃ ns' : List Int, cutV (ns.map V.int) lo hi = ns'.map V.int ∧ (∀ z ∈ ns', z ∈ ns) ∧ ns'.length ≤ ns.length := by
  refine ⟨(ns.drop (HT.sIx (ns.map V.int).length 0 lo)).take (HT.sIx (ns.map V.int).length (ns.map V.int).length hi - HT.sIx (ns.map V.int).length 0 lo), ?_, fun z hz => List.mem_of_mem_drop (List.mem_of_mem_take hz), ?_⟩
  · unfold cutV
    rw [List.map_take, List.map_drop]
  · rw [List.length_take, List.length_drop]
    omega
/-- the law's own loop: range(0, max(1, l), 1 + l // d) -/
theorem rg3 {l d : Nat} (hl : l ≤ 63) (hd : d = 3 ∨ d = 4 ∨ d = 6) : ∃ n : Nat, n ≤ 64 ∧ RgC 0 (if (l : Int) > 1 then (l : Int) else 1) (1 + (l : Int) / (d : Int)) n := by
  have key : ∀ d : Nat, d = 3 ∨ d = 4 ∨ d = 6 → ∀ l : Nat, l < 64 → (1 + (l : Int) / (d : Int)) ≠ 0 ∧ (1 + (l : Int) / (d : Int)).natAbs < 1073741824 ∧ Builtin.Range.small 0 (if (l : Int) > 1 then (l : Int) else 1) (1 + (l : Int) / (d : Int)) = true ∧ (Builtin.Range.rangeSize 0 (if (l : Int) > 1 then (l : Int) else 1) (1 + (l : Int) / (d : Int))).toNat ≤ 64 ∧ Builtin.Range.rangeSize 0 (if (l : Int) > 1 then (l : Int) else 1) (1 + (l : Int) / (d : Int)) = ((Builtin.Range.rangeSize 0 (if (l : Int) > 1 then (l : Int) else 1) (1 + (l : Int) / (d : Int))).toNat : Int) := by
    rintro d (rfl | rfl | rfl) <;> decide +kernel
  obtain ⟨h1, h2, h3, h4, h5⟩ := key d hd l (by omega)
  exact ⟨_, h4, h1, h2, h3, h5⟩
theorem by_ok {l d i n : Nat} (hl : l ≤ 63) (hd : d = 3 ∨ d = 4 ∨ d = 6) (hi : i < n) (hn : n ≤ 64) : 0 ≤ (0 : Int) + (i : Int) * (1 + (l : Int) / (d : Int)) ∧ (0 : Int) + (i : Int) * (1 + (l : Int) / (d : Int)) < 2 ^ 62 := by
  have hc : 0 ≤ (1 + (l : Int) / (d : Int)) ∧ (1 + (l : Int) / (d : Int)) ≤ 100 := by rcases hd with rfl | rfl | rfl <;> omega
  have h1 : (i : Int) * (1 + (l : Int) / (d : Int)) ≤ 64 * 100 := Int.mul_le_mul (by omega) hc.2 hc.1 (by decide)
  have h2 : 0 ≤ (i : Int) * (1 + (l : Int) / (d : Int)) := Int.mul_nonneg (by omega) hc.1
  omega
/-- a law's: a list of at most 63 ints is handed in, True comes out -/
def spLaw (K : PySem.W.Frag) : Sp := fun vs H Q _ => ∃ (a : Addr) (ns : List Int), vs = [.ref a] ∧ SqL K H a (ns.map V.int) ∧ ns.length ≤ 63 ∧ Bits ns ∧ ∀ H', Q (.bl true) H'
/-- a row's sum and length are small -/
theorem isRow_small {n f l : Int} (h1 : 1 ≤ n) (h2 : n ≤ 1000000) (h : IsRow n f l) : 0 < f + l ∧ f + l ≤ 2000000 ∧ 0 < l - f + 1 ∧ l - f + 1 ≤ 2000000 := by
  obtain ⟨a, b⟩ := h
  have hL : 0 < l - f + 1 := by omega
  have hs : 0 < f + l := Int.pos_of_mul_pos_left (b := l - f + 1) (by omega) (by omega)
  have d1 : f + l ≤ 2 * n := Int.le_of_dvd (show 0 < 2 * n by omega) ⟨_, b.symm⟩
  have d2 : l - f + 1 ≤ 2 * n := Int.le_of_dvd (show 0 < 2 * n by omega) ⟨f + l, by rw [Int.mul_comm (l - f + 1)]; exact b.symm⟩
  omega
theorem hr15 : HRows 15 [(1, 5), (4, 6), (7, 8), (15, 15)] := acc_rows (n := 15) (K := 5) (by decide) (by decide)
theorem hr2 : HRows 2 [(2, 2)] := acc_rows (n := 2) (K := 1) (by decide) (by decide)
theorem r2 : Rows 2 [(-1, 2), (2, 2)] := Rows.of_high (by decide) hr2 (by decide) fun x => by
  show x ∈ [((-1, 2) : Int × Int), (2, 2)] ↔ x ∈ [((2, 2) : Int × Int), (-1, 2)]
  rw [List.mem_cons, List.mem_cons, List.mem_cons, List.mem_cons]
  simp only [List.not_mem_nil, or_false]
  exact or_comm
end NB

set_option Elab.async false
set_option maxRecDepth 100000
set_option maxHeartbeats 4000000
/-! Comprehensions over a list of pairs; rows or None. -/
namespace NB
open PySem L2
abbrev gPair (K : PySem.W.Frag) (i j : Nat) : TG := gTup K 2 (gCons (gName i) (gCons (gName j) gNil))
/-- [an int of f, l for f, l in pairs] -/
theorem lc_ints {K : PySem.W.Frag} {a : Addr} {xs : List V} {ps : List (Int × Int)} {te : TE} {vs : List Nat} {σ : L2.St} {H1 : Hp} {D : Addr} {Qd : Hp → Prop} {i j : Nat} (g : H1 a = some (.lst xs)) (gx : PL H1 xs ps) (nD : H1 D = none) (F : Int × Int → Int) (hz : ps.length ≤ 90000)
    (hw : ∀ v u : V, wipe (((wipe σ vs).set i (some v)).set j (some u)) vs = wipe σ vs)
    (he : ∀ p ∈ ps, ∀ (H' : Hp) (Qc : VK), Qc (.int (F p)) H' → te (((wipe σ vs).set i (some (.int p.1))).set j (some (.int p.2))) H' Qc)
    (hd : ∀ H', Same H1 H' → H' D = some (.lst ((ps.map F).map V.int)) → Qd H') :
    ∃ W : Nat → Nat → Hp → Prop, (∃ m, W 0 m (upd H1 D (.lst []))) ∧ ∀ k m H, W k m H →
      ((Itl K a).stop k H ∧ Qd H) ∨ ((Itl K a).go k H ∧ ∃ Nx : Hp → Prop, (∀ H', Nx H' → ∃ m', m' < m ∧ W (k + 1) m' H') ∧ ∀ x H', (Itl K a).yld k H x H' → gPair K i j x (wipe σ vs) H' fun σ2 H2 => wipe σ2 vs = wipe σ vs ∧ tYes σ2 H2 fun b H3 =>
        if b = true then te σ2 H3 fun y H4 => ∃ acc, H4 D = some (.lst acc) ∧ acc.length < sizeLine ∧ Nx (upd H4 D (.lst (acc ++ [y]))) else Nx H3) := by
  have naD : a ≠ D := ne_of_none g nD
  refine lc_list (xs := xs) (fun k H' => Same H1 H' ∧ H' D = some (.lst (((ps.take k).map F).map V.int))) ⟨Same.new nD, upd_same⟩ ?_ ?_ ?_
  · rintro k H' _ ⟨hS, _⟩
    exact SqL.of (hS _ _ g)
  · rintro k x H' hx ⟨hS, gD⟩
    obtain ⟨⟨f, l⟩, hpk, t, rfl, ht⟩ := gx.get hx
    have hk : k < xs.length := (List.getElem?_eq_some_iff.mp hx).1
    have hll := gx.length
    have htk : ps.take (k + 1) = ps.take k ++ [(f, l)] := by rw [List.take_add_one, hpk]; rfl
    refine ⟨t, _, rfl, SqT.of (hS _ _ ht), rfl, _, _, rfl, _, _, rfl, rfl, hw _ _, ?_⟩
    refine he (f, l) (List.mem_of_getElem? hpk) H' _ ⟨_, gD, small1000' ?_, Same.mut hS nD, ?_⟩
    · rw [List.length_map, List.length_map, List.length_take]
      omega
    · rw [upd_same, htk, List.map_append, List.map_append]
      rfl
  · rintro H' ⟨hS, gD⟩
    rw [gx.length, List.take_length] at gD
    exact hd H' hS gD
/-- [a pair of f, l for f, l in pairs] -/
theorem lc_prs {K : PySem.W.Frag} {a : Addr} {xs : List V} {ps : List (Int × Int)} {te : TE} {vs : List Nat} {σ : L2.St} {H1 : Hp} {D : Addr} {Qd : Hp → Prop} {i j : Nat} (g : H1 a = some (.lst xs)) (gx : PL H1 xs ps) (nD : H1 D = none) (F : Int × Int → Int × Int) (hz : ps.length ≤ 90000)
    (hw : ∀ v u : V, wipe (((wipe σ vs).set i (some v)).set j (some u)) vs = wipe σ vs)
    (he : ∀ p ∈ ps, ∀ (H' : Hp) (Qc : VK), (∀ t, H' t = none → Qc (.ref t) (upd H' t (.tup [.int (F p).1, .int (F p).2]))) → te (((wipe σ vs).set i (some (.int p.1))).set j (some (.int p.2))) H' Qc)
    (hd : ∀ H', Same H1 H' → LP H' D (ps.map F) → Qd H') :
    ∃ W : Nat → Nat → Hp → Prop, (∃ m, W 0 m (upd H1 D (.lst []))) ∧ ∀ k m H, W k m H →
      ((Itl K a).stop k H ∧ Qd H) ∨ ((Itl K a).go k H ∧ ∃ Nx : Hp → Prop, (∀ H', Nx H' → ∃ m', m' < m ∧ W (k + 1) m' H') ∧ ∀ x H', (Itl K a).yld k H x H' → gPair K i j x (wipe σ vs) H' fun σ2 H2 => wipe σ2 vs = wipe σ vs ∧ tYes σ2 H2 fun b H3 =>
        if b = true then te σ2 H3 fun y H4 => ∃ acc, H4 D = some (.lst acc) ∧ acc.length < sizeLine ∧ Nx (upd H4 D (.lst (acc ++ [y]))) else Nx H3) := by
  have naD : a ≠ D := ne_of_none g nD
  refine lc_list (xs := xs) (fun k H' => Same H1 H' ∧ ∃ acc, H' D = some (.lst acc) ∧ PL H' acc ((ps.take k).map F)) ⟨Same.new nD, _, upd_same, .nil⟩ ?_ ?_ ?_
  · rintro k H' _ ⟨hS, _⟩
    exact SqL.of (hS _ _ g)
  · rintro k x H' hx ⟨hS, acc, gD, ga⟩
    obtain ⟨⟨f, l⟩, hpk, t, rfl, ht⟩ := gx.get hx
    have hk : k < xs.length := (List.getElem?_eq_some_iff.mp hx).1
    have hll := gx.length
    have htk : ps.take (k + 1) = ps.take k ++ [(f, l)] := by rw [List.take_add_one, hpk]; rfl
    refine ⟨t, _, rfl, SqT.of (hS _ _ ht), rfl, _, _, rfl, _, _, rfl, rfl, hw _ _, ?_⟩
    refine he (f, l) (List.mem_of_getElem? hpk) H' _ fun u nu => ?_
    have gD' : upd H' u (.tup [.int (F (f, l)).1, .int (F (f, l)).2]) D = some (.lst acc) := by rw [upd_ne (ne_of_none gD nu)]; exact gD
    have same : ∀ o x q, IsP (upd H' u (.tup [.int (F (f, l)).1, .int (F (f, l)).2])) x q → IsP (upd (upd H' u (.tup [.int (F (f, l)).1, .int (F (f, l)).2])) D (.lst o)) x q := fun o x q ⟨t, e, h⟩ => ⟨t, e, by rw [upd_ne (ne_of h gD' (fun z => nomatch z))]; exact h⟩
    refine ⟨acc, gD', small1000' ?_, Same.mut (hS.trans (Same.new nu)) nD, _, upd_same, ?_⟩
    · have := ga.length
      rw [List.length_map, List.length_take] at this
      omega
    · rw [htk, List.map_append]
      exact PL.append (Paired.mapP (ga.same (Same.new nu)) (same _)) (.cons (same _ _ _ ⟨u, rfl, upd_same⟩) .nil)
  · rintro H' ⟨hS, acc, gD, ga⟩
    rw [gx.length, List.take_length] at ga
    exact hd H' hS ⟨acc, gD, ga⟩
/-- the longest high row: the first -/
def spLongest : Sp := fun vs H Q _ => ∃ n : Int, vs = [.int n] ∧ 1 ≤ n ∧ n ≤ 1000000 ∧ ∀ p ps x H', HRows n (p :: ps) → Same H H' → IsP H' x p → Q x H'
theorem HRows.one {n : Int} (hn : 1 ≤ n) {ps : List (Int × Int)} (h : HRows n ps) : (n, n) ∈ ps := (h.mem n n).mpr ⟨⟨Int.le_refl _, by rw [Int.sub_self, Int.zero_add, Int.mul_one]; omega⟩, by omega⟩
theorem HRows.ne {n : Int} (hn : 1 ≤ n) {ps : List (Int × Int)} (h : HRows n ps) : ∃ p qs, ps = p :: qs := by
  have := h.one hn
  cases ps with
  | nil => cases this
  | cons p qs => exact ⟨p, qs, rfl⟩
/-- an expression's value by what is known of it -/
theorem to_any {te : TE} {σ : L2.St} {H : Hp} {Q : VK} (P : V → Hp → Prop) (h : ∀ Qe : VK, (∀ x H', P x H' → Qe x H') → te σ H Qe) (q : ∀ x H', P x H' → Q x H') : te σ H Q := h Q q
end NB

set_option Elab.async false
set_option maxRecDepth 100000
set_option maxHeartbeats 4000000
/-! Answers: instances of Sum and Power. -/
namespace NB
open PySem L2
/-- an own class, as the top has made it -/
structure ClsF (K : PySem.W.Frag) (mg : Str → Option Value) (x : Str) (C : Addr) : Prop where
  m : mg x = some (.ref C)
  cl : Cls K C
  ha : PySem.W.findIn K (.ref C) "__class__" = some (some (.builtin "object.__class__"))
  hn : PySem.W.specialIn K (.builtin "object.__class__") "__get__" = some (some (.builtin "getset_descriptor.__get__"))
  htk : PySem.W.takesIn K (.builtin "object.__class__") = some true
  hm : PySem.W.mroIn K C (.type "object") = some true
/-- it can be made, by its __init__ -/
def Makes (P : Program) (w : World) (K : PySem.W.Frag) (mg : Str → Option Value) (base : Heap) (C : Addr) (ps : List Str) (sp : Sp) : Prop :=
  ∃ f fd, Mk K C f ∧ Binds K fd ps [] ∧ FnOk P w K mg base CX0 1 f fd ps sp
/-- it has a method -/
def HasM (P : Program) (w : World) (K : PySem.W.Frag) (mg : Str → Option Value) (base : Heap) (C : Addr) (m : Str) (ps : List Str) (sp : Sp) : Prop :=
  ∃ f fd, Meth K C m f ∧ Binds K fd ps [] ∧ FnOk P w K mg base CX0 1 f fd ps sp
theorem k_fl : ¬ (("first" : Str) = "last") := by decide +kernel
def sumF (f l : Int) : List (Str × V) := putF "last" (.int l) (putF "first" (.int f) [])
def powF (o : Int) : List (Str × V) := putF "often" (.int o) []
theorem sumF_first (f l : Int) : (sumF f l).lookup ("first" : Str) = some (.int f) := by
  unfold sumF
  rw [lookup_putF, if_neg k_fl, lookup_putF, if_pos rfl]
theorem sumF_last (f l : Int) : (sumF f l).lookup ("last" : Str) = some (.int l) := by
  unfold sumF
  rw [lookup_putF, if_pos rfl]
theorem powF_often (o : Int) : (powF o).lookup ("often" : Str) = some (.int o) := by
  unfold powF
  rw [lookup_putF, if_pos rfl]
theorem sumF_shows (f l : Int) : (sumF f l).lookup ("shows" : Str) = none := by
  unfold sumF
  rw [lookup_putF, if_neg (by decide +kernel), lookup_putF, if_neg (by decide +kernel)]
  all_goals rfl
theorem powF_shows (o : Int) : (powF o).lookup ("shows" : Str) = none := by
  unfold powF
  rw [lookup_putF, if_neg (by decide +kernel)]
  all_goals rfl
def SumAt (C : Addr) (H : Hp) (a : Addr) (f l : Int) : Prop := ∃ dx, H a = some (.ins C dx (sumF f l))
def PowAt (C : Addr) (H : Hp) (a : Addr) (o : Int) : Prop := ∃ dx, H a = some (.ins C dx (powF o))
theorem SumAt.same {C : Addr} {H H' : Hp} {a : Addr} {f l : Int} (e : Same H H') (h : SumAt C H a f l) : SumAt C H' a f l := let ⟨dx, h⟩ := h; ⟨dx, e _ _ h⟩
theorem PowAt.same {C : Addr} {H H' : Hp} {a : Addr} {o : Int} (e : Same H H') (h : PowAt C H a o) : PowAt C H' a o := let ⟨dx, h⟩ := h; ⟨dx, e _ _ h⟩
/-- the sum's word, by its own reckoning -/
def sumSays (f l n : Int) : Bool := decide (0 < f ∧ f < l ∧ (f + l) * (l - f + 1) = 2 * n)
def powSays (o n : Int) (m : Int) : Bool := decide (0 ≤ o ∧ o < m ∧ (2 : Int) ^ o.toNat = n)
def spSumInit (C : Addr) : Sp := fun vs H Q _ => ∃ (p dx : Addr) (f l : Int), vs = [.ref p, .int f, .int l] ∧ H p = some (.ins C dx []) ∧ ∀ H' : Hp, SumAt C H' p f l → (∀ b o, H b = some o → b ≠ p → H' b = some o) → Q .non H'
def spPowInit (C : Addr) : Sp := fun vs H Q _ => ∃ (p dx : Addr) (o : Int), vs = [.ref p, .int o] ∧ H p = some (.ins C dx []) ∧ ∀ H' : Hp, PowAt C H' p o → (∀ b o, H b = some o → b ≠ p → H' b = some o) → Q .non H'
def spSumShows (C : Addr) : Sp := fun vs H Q _ => ∃ (a : Addr) (f l n : Int), vs = [.ref a, .int n] ∧ SumAt C H a f l ∧ ib f ≤ 1000 ∧ ib l ≤ 1000 ∧ Q (.bl (sumSays f l n)) H
def spPowShows (C : Addr) : Sp := fun vs H Q _ => ∃ (a : Addr) (o n : Int), vs = [.ref a, .int n] ∧ PowAt C H a o ∧ Q (.bl (powSays o n 40)) H
/-- what judged hands back: the row of that length, or the power -/
def spJudged (CS CP : Addr) : Sp := fun vs H Q _ => ∃ n : Int, vs = [.int n] ∧ 1 ≤ n ∧ n ≤ 1000000 ∧
  (∀ (e : Nat) (o f l : Int) x H', n = 2 ^ e * o → o % 2 = 1 → 3 ≤ o → rowOf n (jlen e o) = some (f, l) → IsRow n f l → 0 < f → f < l → Same H H' → SumAt CS H' x f l → Q (.ref x) H') ∧
  (∀ (e : Nat) x H', n = 2 ^ e → e < 20 → Same H H' → PowAt CP H' x (e : Int) → Q (.ref x) H')
/-- a written chain and an and, of numbers -/
theorem sum_chain {f l n : Int} {Q : VK} {H : Hp} (h : Q (.bl (sumSays f l n)) H) :
    if decide (0 < f) = true then (∃ i j, V.int f = .int i ∧ V.int l = .int j ∧ Q (.bl (decide (i < j) && decide ((f + l) * (l - f + 1) = 2 * n))) H) else Q (.bl false) H := by
  unfold sumSays at h
  by_cases h0 : 0 < f
  · rw [if_pos (decide_eq_true h0)]
    refine ⟨f, l, rfl, rfl, ?_⟩
    have e : (decide (f < l) && decide ((f + l) * (l - f + 1) = 2 * n)) = decide (0 < f ∧ f < l ∧ (f + l) * (l - f + 1) = 2 * n) := by
      by_cases h1 : f < l <;> by_cases h2 : (f + l) * (l - f + 1) = 2 * n <;> simp [h0, h1, h2]
    rw [e]
    exact h
  · rw [if_neg (by simpa using h0)]
    have e : decide (0 < f ∧ f < l ∧ (f + l) * (l - f + 1) = 2 * n) = false := decide_eq_false fun x => h0 x.1
    rw [e] at h
    exact h
/-- isinstance of these classes -/
structure Kit (K : PySem.W.Frag) (CA CS CP : Addr) : Prop where
  sa : PySem.W.kitOne K (.ref CS) (.ref CA) = some true
  pa : PySem.W.kitOne K (.ref CP) (.ref CA) = some true
  ss : PySem.W.kitOne K (.ref CS) (.ref CS) = some true
  sp : PySem.W.kitOne K (.ref CS) (.ref CP) = some false
  ps : PySem.W.kitOne K (.ref CP) (.ref CS) = some false
  pp : PySem.W.kitOne K (.ref CP) (.ref CP) = some true
theorem ClsF.ty {K : PySem.W.Frag} {mg : Str → Option Value} {x : Str} {C : Addr} (c : ClsF K mg x C) {H : Hp} {a dx : Addr} {fs : List (Str × V)} (h : H a = some (.ins C dx fs)) : TyX K H (.ref a) (.ref C) := .base (.ins h c.cl c.ha c.hn c.htk c.hm)
/-- [True for each int] -/
theorem lc_true {K : PySem.W.Frag} {a : Addr} {xs : List V} {te : TE} {vs : List Nat} {σ : L2.St} {H1 : Hp} {D : Addr} {Qd : Hp → Prop} {j : Nat} (g : H1 a = some (.lst xs)) (nD : H1 D = none) (hx : ∀ x ∈ xs, ∃ i, x = V.int i) (hz : xs.length ≤ 90000)
    (hw : ∀ v : V, wipe ((wipe σ vs).set j (some v)) vs = wipe σ vs)
    (he : ∀ (i : Int) (H' : Hp) (Qc : VK), Qc (.bl true) H' → te ((wipe σ vs).set j (some (.int i))) H' Qc)
    (hd : ∀ H', Same H1 H' → H' D = some (.lst ((List.replicate xs.length true).map V.bl)) → Qd H') :
    ∃ W : Nat → Nat → Hp → Prop, (∃ m, W 0 m (upd H1 D (.lst []))) ∧ ∀ k m H, W k m H →
      ((Itl K a).stop k H ∧ Qd H) ∨ ((Itl K a).go k H ∧ ∃ Nx : Hp → Prop, (∀ H', Nx H' → ∃ m', m' < m ∧ W (k + 1) m' H') ∧ ∀ x H', (Itl K a).yld k H x H' → gName j x (wipe σ vs) H' fun σ2 H2 => wipe σ2 vs = wipe σ vs ∧ tYes σ2 H2 fun b H3 =>
        if b = true then te σ2 H3 fun y H4 => ∃ acc, H4 D = some (.lst acc) ∧ acc.length < sizeLine ∧ Nx (upd H4 D (.lst (acc ++ [y]))) else Nx H3) := by
  have naD : a ≠ D := ne_of_none g nD
  refine lc_list (xs := xs) (fun k H' => Same H1 H' ∧ H' D = some (.lst ((List.replicate k true).map V.bl))) ⟨Same.new nD, upd_same⟩ ?_ ?_ ?_
  · rintro k H' _ ⟨hS, _⟩
    exact SqL.of (hS _ _ g)
  · rintro k x H' hk ⟨hS, gD⟩
    obtain ⟨i, rfl⟩ := hx x (List.mem_of_getElem? hk)
    have hk' : k < xs.length := (List.getElem?_eq_some_iff.mp hk).1
    refine ⟨hw _, ?_⟩
    refine he i H' _ ⟨_, gD, small1000' ?_, Same.mut hS nD, ?_⟩
    · rw [List.length_map, List.length_replicate]
      omega
    · rw [upd_same, List.replicate_succ', List.map_append]
      rfl
  · rintro H' ⟨hS, gD⟩
    exact hd H' hS gD
def spSays : Sp := fun vs H Q _ => ∃ a b : Bool, vs = [.bl a, .bl b] ∧ Q (.bl (decide (a = b))) H
def spDue (CS CP : Addr) : Sp := fun vs H Q _ => (∃ (a : Addr) (f l n : Int), vs = [.int n, .ref a] ∧ SumAt CS H a f l ∧ ib f ≤ 1000 ∧ ib l ≤ 1000 ∧ Q (.bl (sumSays f l n)) H) ∨
  (∃ (a : Addr) (o n : Int), vs = [.int n, .ref a] ∧ PowAt CP H a o ∧ Q (.bl (powSays o n 21)) H)
def spRight (K : PySem.W.Frag) : Sp := fun vs H Q _ => ∃ (n : Int) (a : Addr) (ms : List Int), vs = [.int n, .ref a] ∧ SqL K H a (ms.map V.int) ∧ 1 ≤ n ∧ n ≤ 1000000 ∧ ∀ H', Same H H' → Q (.bl true) H'
theorem row_ib {n f l : Int} (h1 : 1 ≤ n) (h2 : n ≤ 1000000) (h : IsRow n f l) : ib f ≤ 1000 ∧ ib l ≤ 1000 := by
  have := isRow_small h1 h2 h
  exact ⟨Nat.le_trans (ib_of (m := 64) (by omega)) (by decide), Nat.le_trans (ib_of (m := 64) (by omega)) (by decide)⟩
theorem sumSays_row {n f l : Int} (h : IsRow n f l) (hf : 0 < f) (hl : f < l) : sumSays f l n = true := decide_eq_true ⟨hf, hl, h.2⟩
theorem powSays_pow {e : Nat} (h : e < 20) {m : Int} (hm : 20 ≤ m) : powSays (e : Int) (2 ^ e) m = true := decide_eq_true ⟨by omega, by omega, by rw [Int.toNat_natCast]⟩
theorem powSays_40 {e : Nat} (h : e < 20) (n : Int) : powSays (e : Int) n 40 = powSays (e : Int) n 21 := by
  unfold powSays
  have h1 : (e : Int) < 40 := by omega
  have h2 : (e : Int) < 21 := by omega
  simp [h1, h2]
theorem powSays_30 {z n : Int} (hn : n ≤ 1000000) : powSays z n 40 = powSays z n 30 := by
  unfold powSays
  by_cases h0 : 0 ≤ z
  · by_cases h1 : z < 30
    · have h2 : z < 40 := by omega
      simp [h0, h1, h2]
    · have hp : ¬ (2 : Int) ^ z.toNat = n := fun e => by
        have h3 := pow_mono2 (show 30 ≤ z.toNat by omega)
        have h4 : (2 : Int) ^ 30 = 1073741824 := by decide
        omega
      simp [hp]
  · simp [h0]
theorem cut_pl {H : Hp} {xs : List V} {ps : List (Int × Int)} (h : PL H xs ps) (lo hi : Option Int) : ∃ ps', PL H (cutV xs lo hi) ps' ∧ (∀ p ∈ ps', p ∈ ps) ∧ ps'.length ≤ ps.length := by
  have dr : ∀ (k : Nat) {xs : List V} {ps : List (Int × Int)}, PL H xs ps → PL H (xs.drop k) (ps.drop k) := fun k => by
    induction k with
    | zero => intro xs ps h; exact h
    | succ k ih =>
      intro xs ps h
      cases h with
      | nil => exact .nil
      | cons a t => exact ih t
  have tk : ∀ (k : Nat) {xs : List V} {ps : List (Int × Int)}, PL H xs ps → PL H (xs.take k) (ps.take k) := fun k => by
    induction k with
    | zero => intro xs ps h; exact .nil
    | succ k ih =>
      intro xs ps h
      cases h with
      | nil => exact .nil
      | cons a t => exact .cons a (ih t)
  unfold cutV
  refine ⟨_, tk _ (dr _ h), fun p hp => List.mem_of_mem_drop (List.mem_of_mem_take hp), ?_⟩
  rw [List.length_take, List.length_drop]
  omega
/-- numbers of at most twenty-one digits -/
def Sm (i : Int) : Prop := -1000000000000000000000 ≤ i ∧ i ≤ 1000000000000000000000
theorem Sm.ib {i : Int} (h : Sm i) : NB.ib i ≤ 1000 := by
  unfold Sm at h
  exact Nat.le_trans (ib_of (m := 80) (by omega)) (by decide)
def SmP (ps : List (Int × Int)) : Prop := ∀ p ∈ ps, Sm p.1 ∧ Sm p.2
end NB

set_option Elab.async false
set_option maxRecDepth 100000
set_option maxHeartbeats 4000000
/-! Words for the least numbers: lists of ints compared, lists of lists, promises. -/
namespace NB
open PySem L2
theorem ints_dat {K : PySem.W.Frag} {H : Hp} : ∀ ns : List Int, DpAll K H (ns.map V.int) (ns.map PyData.int)
  | [] => .nil
  | n :: r => .cons (.int n) (ints_dat r)
theorem shaped_ints (ns : List Int) : SeqAt.shaped (.list (ns.map PyData.int)) = true := by
  have h1 : ∀ ns : List Int, PyData.canLayAll0 (ns.map PyData.int) = true := fun ns => by
    induction ns with
    | nil => rfl
    | cons n r ih => rw [List.map_cons, PyData.canLayAll0, ih]; rfl
  have h2 : ∀ ns : List Int, PyData.depthAll (ns.map PyData.int) ≤ 2 := fun ns => by
    induction ns with
    | nil => decide
    | cons n r ih =>
      rw [List.map_cons]
      simp only [PyData.depthAll, PyData.depth] at *
      omega
  unfold SeqAt.shaped
  rw [Bool.and_eq_true]
  have h3 := h2 ns
  refine ⟨?_, decide_eq_true ?_⟩
  · simp only [PyData.canLay0]
    exact h1 ns
  · simp only [PyData.depth]
    omega
theorem rd_eqI {K : PySem.W.Frag} {H : Hp} {a b : Addr} {ns ms : List Int} {Q : VK} (h1 : SqL K H a (ns.map V.int)) (h2 : SqL K H b (ms.map V.int)) (q : Q (.bl (decide (ns = ms))) H) : rEqD K (.ref a) (.ref b) H Q :=
  ⟨_, _, .lst h1 (ints_dat ns), .lst h2 (ints_dat ms), shaped_ints ns, shaped_ints ms, by rw [PyData.eqv, PySem.W.ked_eqvAll]; exact q⟩
theorem rd_neI {K : PySem.W.Frag} {H : Hp} {a b : Addr} {ns ms : List Int} {Q : VK} (h1 : SqL K H a (ns.map V.int)) (h2 : SqL K H b (ms.map V.int)) (q : Q (.bl (!decide (ns = ms))) H) : rNeD K (.ref a) (.ref b) H Q :=
  ⟨_, _, .lst h1 (ints_dat ns), .lst h2 (ints_dat ms), shaped_ints ns, shaped_ints ms, by rw [PyData.eqv, PySem.W.ked_eqvAll]; exact q⟩
theorem cut_tail (p : Int) (ps : List Int) : cutV ((p :: ps).map V.int) (some 1) none = ps.map V.int := by
  unfold cutV
  rw [show HT.sIx ((p :: ps).map V.int).length 0 (some 1) = 1 by
    rw [show (1 : Int) = ((1 : Nat) : Int) from rfl, HT.sIx_nat]
    rw [List.length_map, List.length_cons]
    omega, HT.sIx_none]
  rw [List.map_cons, List.drop_one, List.tail_cons]
  exact List.take_of_length_le (by simp)
def oV : Option Int → V
  | none => .non
  | some r => .int r
/-- lists of ints, new against H0, in the list at p -/
def LW (H0 H : Hp) (p : Addr) (ws : List (List Int)) : Prop := ∃ xs, H p = some (.lst xs) ∧ Paired (fun x (w : List Int) => ∃ t, x = V.ref t ∧ H0 t = none ∧ t ≠ p ∧ H t = some (.lst (w.map V.int))) xs ws
theorem LW.same {H0 H H' : Hp} {p : Addr} {ws : List (List Int)} (e : Same H H') (h : LW H0 H p ws) : LW H0 H' p ws := by
  obtain ⟨xs, g, r⟩ := h
  exact ⟨xs, e _ _ g, Paired.mapP r fun _ _ ⟨t, a, b, c, d⟩ => ⟨t, a, b, c, e _ _ d⟩⟩
def spLeastFrom (K : PySem.W.Frag) (n : Nat) : Sp := fun vs H Q _ => ∃ (many most : Int) (a : Addr) (ps : List Int), vs = [.int many, .ref a, .int most] ∧ SqL K H a (ps.map V.int) ∧ ps.length ≤ n ∧ (∀ p ∈ ps, 1 ≤ p ∧ p ≤ 17) ∧ 1 ≤ many ∧ many ≤ 60 ∧ 0 ≤ most ∧ most ≤ 60 ∧
  ∀ H', Same H H' → Q (oV (leastF ps many most)) H'
def spLeastWith : Sp := fun vs H Q _ => ∃ m : Nat, vs = [.int (m : Int)] ∧ 1 ≤ m ∧ m < 61 ∧ ∀ r H', leastF prs m m = some r → Same H H' → Q (.int r) H'
def spWays (n : Nat) : Sp := fun vs H Q _ => ∃ many most : Int, vs = [.int many, .int most] ∧ 1 ≤ many ∧ many ≤ 60 ∧ many < 2 ^ (n + 1) ∧ 1 ≤ most ∧ most ≤ 60 ∧ ∀ p H', Same H H' → H p = none → LW H H' p (waysF n many most) → Q (.ref p) H'
def spLLeast : Sp := fun vs H Q _ => ∃ m : Nat, vs = [.int (m : Int)] ∧ 1 ≤ m ∧ m < 61 ∧ ∀ r H', r ∈ prodsF m → (∀ x ∈ prodsF m, r ≤ x) → Same H H' → Q (.int r) H'
theorem paired_get {α β : Type} {R : α → β → Prop} : ∀ {l : List α} {m : List β} {i : Nat} {x : α}, Paired R l m → l[i]? = some x → ∃ y, m[i]? = some y ∧ R x y
  | _, _, i, _, .nil, e => by simp at e
  | _, _, 0, _, .cons a t, e => by simp at e; subst e; exact ⟨_, rfl, a⟩
  | _, _, i + 1, x, .cons a t, e => by
    obtain ⟨p, h1, h2⟩ := paired_get (i := i) (x := x) t (by simpa using e)
    exact ⟨p, by simpa using h1, h2⟩
theorem Vals_app {α β : Type} {R : α → β → Prop} : ∀ {xs ys : List α} {ps qs : List β}, Paired R xs ps → Paired R ys qs → Paired R (xs ++ ys) (ps ++ qs)
  | _, _, _, _, .nil, h => h
  | _, _, _, _, .cons a t, h => .cons a (Vals_app t h)
end NB

set_option Elab.async false
set_option maxRecDepth 100000
set_option maxHeartbeats 4000000
/-! Sets of tuples of ints, up to three thousand different ones: the table. -/
namespace TT
open PySem PySem.Spec PyProof.Rows L2
/-- the masks up to there -/
def Msk (m : Nat) : Prop := m = 7 ∨ m = 31 ∨ m = 127 ∨ m = 511 ∨ m = 2047 ∨ m = 8191
theorem Msk.le {m : Nat} (h : Msk m) : m ≤ 8191 := by
  rcases h with h | h | h | h | h | h <;> omega
theorem Msk.odd {m : Nat} (h : Msk m) : m % 2 = 1 := by
  rcases h with h | h | h | h | h | h <;> subst h <;> rfl
theorem lcg_tail (m i : Nat) : ∀ k, lcgI m ((i * 5 + 1) % (m + 1)) k = lcgI m i (k + 1)
  | 0 => rfl
  | k + 1 => congrArg (fun z => (z * 5 + 1) % (m + 1)) (lcg_tail m i k)
theorem lcg_plus (m i a : Nat) : ∀ k, lcgI m (lcgI m i a) k = lcgI m i (a + k)
  | 0 => rfl
  | k + 1 => congrArg (fun z => (z * 5 + 1) % (m + 1)) (lcg_plus m i a k)
/-- n steps from x on, their bits gathered: all of them, and back at 0 -/
def sweep (m : Nat) : Nat → Nat → Nat → Bool
  | 0, x, acc => acc == 2 ^ (m + 1) - 1 && x == 0
  | n + 1, x, acc => match acc ||| 2 ^ x with
    | 0 => false
    | a + 1 => match (x * 5 + 1) % (m + 1) with
      | 0 => sweep m n 0 (a + 1)
      | y + 1 => sweep m n (y + 1) (a + 1)
theorem sweep_step {m n x acc : Nat} (h : sweep m (n + 1) x acc = true) : sweep m n ((x * 5 + 1) % (m + 1)) (acc ||| 2 ^ x) = true := by
  unfold sweep at h
  split at h
  · cases h
  · rename_i a e
    rw [e]
    split at h
    · rename_i e2
      rw [e2]
      exact h
    · rename_i y e2
      rw [e2]
      exact h
theorem sweep_met {m : Nat} : ∀ (n x acc : Nat), sweep m n x acc = true → ∀ j, j ≤ m → acc.testBit j = true ∨ ∃ k, k < n ∧ lcgI m x k = j
  | 0, x, acc, h, j, hj => by
    unfold sweep at h
    rw [Bool.and_eq_true, beq_iff_eq] at h
    refine .inl ?_
    rw [h.1, Nat.testBit_two_pow_sub_one]
    exact decide_eq_true (Nat.lt_succ_of_le hj)
  | n + 1, x, acc, h, j, hj => by
    rcases sweep_met n _ _ (sweep_step h) j hj with q | ⟨k, hk, e⟩
    · rw [Nat.testBit_or, Bool.or_eq_true, Nat.testBit_two_pow] at q
      rcases q with q | q
      · exact .inl q
      · exact .inr ⟨0, Nat.succ_pos n, of_decide_eq_true q⟩
    · exact .inr ⟨k + 1, Nat.succ_lt_succ hk, (lcg_tail m x k).symm.trans e⟩
theorem sweep_end {m : Nat} : ∀ (n x acc : Nat), sweep m n x acc = true → lcgI m x n = 0
  | 0, x, acc, h => by
    unfold sweep at h
    rw [Bool.and_eq_true, beq_iff_eq, beq_iff_eq] at h
    exact h.2
  | n + 1, x, acc, h => (lcg_tail m x n).symm.trans (sweep_end n _ _ (sweep_step h))
theorem all7 : sweep 7 8 0 0 = true := by decide +kernel
theorem all31 : sweep 31 32 0 0 = true := by decide +kernel
theorem all127 : sweep 127 128 0 0 = true := by decide +kernel
theorem all511 : sweep 511 512 0 0 = true := by decide +kernel
theorem all2047 : sweep 2047 2048 0 0 = true := by decide +kernel
theorem all8191 : sweep 8191 8192 0 0 = true := by decide +kernel
theorem swept {m : Nat} (h : Msk m) : sweep m (m + 1) 0 0 = true := by
  rcases h with h | h | h | h | h | h <;> subst h
  · exact all7
  · exact all31
  · exact all127
  · exact all511
  · exact all2047
  · exact all8191
theorem from0 {m : Nat} (h : Msk m) {j : Nat} (hj : j ≤ m) : ∃ k, k < m + 1 ∧ lcgI m 0 k = j := by
  rcases sweep_met _ _ _ (swept h) j hj with q | q
  · rw [Nat.zero_testBit] at q
    cases q
  · exact q
theorem round0 {m : Nat} (h : Msk m) : lcgI m 0 (m + 1) = 0 := sweep_end _ _ _ (swept h)
theorem lcg_reach {m : Nat} (h : Msk m) {i j : Nat} (hi : i ≤ m) (hj : j ≤ m) : ∃ k, k ≤ m ∧ lcgI m i k = j := by
  obtain ⟨a, ha, rfl⟩ := from0 h hi
  obtain ⟨b, hb, rfl⟩ := from0 h hj
  by_cases c : a ≤ b
  · refine ⟨b - a, by omega, ?_⟩
    rw [lcg_plus, Nat.add_sub_cancel' c]
  · refine ⟨m + 1 + b - a, by omega, ?_⟩
    rw [lcg_plus, show a + (m + 1 + b - a) = m + 1 + b by omega, ← lcg_plus, round0 h]
theorem run_reach {m : Nat} (h : Msk m) (x : Int) {j : Nat} (hj : j ≤ m) : ∃ n, n ≤ m + 12 ∧ runI m (SetTable.bits x) n = j := by
  obtain ⟨k, hk, e⟩ := lcg_reach h (runI_le m (SetTable.bits x) 12) hj
  exact ⟨12 + k, by omega, (runI_tail (bits_lt x) k).trans e⟩
theorem way_reach {m : Nat} (h : Msk m) (x : Int) {j : Nat} (hj : j ≤ m) : ∃ k, k < 10 * SetTable.turns m ∧ way m x k = j := by
  obtain ⟨n, hn, e⟩ := run_reach h x hj
  obtain ⟨k, hk, e2⟩ := run_nth m (SetTable.bits x) n
  refine ⟨k, by unfold SetTable.turns; omega, ?_⟩
  exact (congrArg SetTable.Probe.j e2).trans e
theorem way_in (m : Nat) (x : Int) (k : Nat) : way m x k ≤ m := by
  have h0 : SetTable.bits x % (m + 1) ≤ m := Nat.le_of_lt_succ (Nat.mod_lt _ (Nat.succ_pos _))
  have h1 := runEnd_bd h0
  have h2 := nth_in (m := m) k (runAt m (SetTable.bits x % (m + 1)) (SetTable.bits x)) (by
    show SetTable.bits x % (m + 1) + (SetTable.runEnd m (SetTable.bits x % (m + 1)) - SetTable.bits x % (m + 1)) ≤ m
    omega)
  have h3 : way m x k + (nth m (runAt m (SetTable.bits x % (m + 1)) (SetTable.bits x)) k).more ≤ m := h2
  omega
/-- a table of n entries -/
structure Tab (t : SetTable) (n : Nat) : Prop where
  up : Ris t.place.toList
  clean : t.dummies = #[]
  num : t.place.size = n
  msk : Msk t.mask
  low : ∀ x ∈ t.place.toList, x ≤ t.mask
variable {t : SetTable} {n : Nat}
theorem Tab.gap (T : Tab t n) (hn : n ≤ t.mask) (x : Int) : ∃ K, K < 10 * SetTable.turns t.mask ∧ way t.mask x K ∉ t.place.toList ∧ ∀ k, k < K → way t.mask x k ∈ t.place.toList := by
  obtain ⟨j, hj, hno⟩ := st_missing t.place.toList (t.mask + 1) (by rw [Array.length_toList, T.num]; omega)
  obtain ⟨k, hk, e⟩ := way_reach T.msk x (Nat.le_of_lt_succ hj)
  obtain ⟨K, a, b, c⟩ := st_least (p := fun k => ¬ way t.mask x k ∈ t.place.toList) k (by show ¬ way t.mask x k ∈ _; rw [e]; exact hno)
  exact ⟨K, Nat.lt_of_le_of_lt a hk, b, fun i hi => Decidable.byContradiction fun z => c i hi z⟩
theorem Tab.one_more (T : Tab t n) {j : Nat} (hj : j ≤ t.mask) (hno : j ∉ t.place.toList) : (t.put j).2 = SetTable.below t.place j ∧ SetTable.below t.place j ≤ n ∧ Tab (t.put j).1 (n + 1) ∧ (t.put j).1.fill = n + 1 := by
  obtain ⟨c1, _, _⟩ := below_cut T.up j
  have hle : SetTable.below t.place j ≤ t.place.toList.length := by rw [Array.length_toList]; exact c1
  have hnew : t.place[SetTable.below t.place j]? ≠ some j := fun e => hno (List.mem_of_getElem? ((Array.getElem?_toList ..).trans e))
  have hl : (t.put j).1.place.toList.length = n + 1 := by
    rw [put_place t j, len_ins _ hle, Array.length_toList, T.num]
  have hs : (t.put j).1.place.size = n + 1 := by rw [← Array.length_toList]; exact hl
  refine ⟨rfl, T.num ▸ c1, ⟨ris_insert T.up hnew, put_dm T.clean j, hs, T.msk, fun x hx => ?_⟩, ?_⟩
  · rw [put_place t j] at hx
    rcases mem_ins.1 hx with e | z
    · exact e ▸ hj
    · exact T.low x z
  · show (t.put j).1.place.size + (t.put j).1.dummies.size = n + 1
    rw [put_dm T.clean j, hs]
    rfl
/-! ### laid anew -/
theorem seat_found {m : Nat} (h : Msk m) (ow : Array (Option Nat)) (x : Int) {j : Nat} (hj : j ≤ m) (hf : oAt ow j = none) :
    ∃ i, i ≤ m ∧ SetTable.layClean.free m ow (SetTable.turns m) (SetTable.bits x % (m + 1)) (SetTable.bits x) = some i ∧ oAt ow i = none := by
  obtain ⟨r, hr, e⟩ := run_reach h x hj
  have hw : way m x (off m (SetTable.bits x % (m + 1)) (SetTable.bits x) r) = j := by
    refine Eq.trans (congrArg SetTable.Probe.j (nth_off m r _ _)) ?_
    rw [itL_run]
    exact e
  obtain ⟨K, a, b, c⟩ := st_least (p := fun k => oAt ow (way m x k) = none) _ (by show oAt ow (way m x _) = none; rw [hw]; exact hf)
  refine ⟨way m x K, way_in m x K, free_spec m ow (SetTable.turns m) r _ _ K (by unfold SetTable.turns; omega) a (fun k hk => ?_) ?_, b⟩
  · have := c k hk
    cases z : oAt ow (nth m (runAt m (SetTable.bits x % (m + 1)) (SetTable.bits x)) k).j with
    | some _ => rfl
    | none => exact absurd z this
  · rw [show oAt ow (nth m (runAt m (SetTable.bits x % (m + 1)) (SetTable.bits x)) K).j = none from b]
    rfl
/-- the first n have each their own seat -/
structure Seat (m n : Nat) (ow : Array (Option Nat)) : Prop where
  size : ow.size = m + 1
  each : ∀ k, k < n → ∃ j, j ≤ m ∧ oAt ow j = some k
  few : ∃ l : List Nat, l.length = n ∧ ∀ j, j ≤ m → oAt ow j ≠ none → j ∈ l
theorem Seat.next {m n : Nat} (h : Msk m) {ow : Array (Option Nat)} (S : Seat m n ow) (hn : n ≤ m) (x : Int) :
    ∃ j, SetTable.layClean.free m ow (SetTable.turns m) (SetTable.bits x % (m + 1)) (SetTable.bits x) = some j ∧ Seat m (n + 1) (ow.setIfInBounds j (some n)) := by
  obtain ⟨l, hl, hin⟩ := S.few
  obtain ⟨j0, h0, hno⟩ := st_missing l (m + 1) (by omega)
  have hj0 : oAt ow j0 = none := Decidable.byContradiction fun z => hno (hin j0 (Nat.le_of_lt_succ h0) z)
  obtain ⟨j, hj, e, hf⟩ := seat_found h ow x (Nat.le_of_lt_succ h0) hj0
  have hb : j < ow.size := by rw [S.size]; omega
  have here := oAt_set_self (some n) hb
  refine ⟨j, e, ⟨(Array.size_setIfInBounds ..).trans S.size, fun k hk => ?_, j :: l, by rw [List.length_cons, hl], fun i hi z => ?_⟩⟩
  · by_cases c : k < n
    · obtain ⟨i, hi, q⟩ := S.each k c
      have ne : i ≠ j := fun z => by rw [z, hf] at q; cases q
      exact ⟨i, hi, (oAt_set_ne _ ne).trans q⟩
    · obtain rfl : k = n := by omega
      exact ⟨j, hj, here⟩
  · by_cases c : i = j
    · exact c ▸ List.mem_cons_self
    · rw [oAt_set_ne _ c] at z
      exact List.mem_cons_of_mem _ (hin i hi z)
theorem seats {m : Nat} (h : Msk m) : ∀ (xs : List Int) (n : Nat) (ow : Array (Option Nat)), Seat m n ow → n + xs.length ≤ m → ∃ ow', xs.foldl (stepF m) (some (ow, n)) = some (ow', n + xs.length) ∧ Seat m (n + xs.length) ow'
  | [], n, ow, S, _ => ⟨ow, rfl, S⟩
  | x :: r, n, ow, S, hl => by
    have el : n + (x :: r).length = n + 1 + r.length := by rw [List.length_cons]; omega
    rw [el] at hl ⊢
    obtain ⟨j, e, S'⟩ := S.next h (by omega) x
    rw [List.foldl_cons, stepF_some e]
    exact seats h r (n + 1) _ S' hl
theorem relaid_at (t : SetTable) {hs : Array Int} {wanted M : Nat} (hw : SetTable.sizeAbove wanted - 1 = M) (hM : Msk M) (hn : hs.size ≤ M) :
    ∃ t' order, t.relaid hs wanted = some (t', order) ∧ order.toList.Perm (List.range hs.size) ∧ Tab t' hs.size ∧ t'.mask = M ∧ t'.led = t.led ∧ t'.plain = t.plain := by
  obtain ⟨ow, e, S⟩ := seats hM hs.toList 0 (Array.replicate (M + 1) none) ⟨Array.size_replicate, fun k hk => absurd hk (Nat.not_lt_zero k), [], rfl, fun j hj z => absurd (oAt_init hj) z⟩ (by rw [Array.length_toList]; omega)
  rw [Array.length_toList, Nat.zero_add] at e S
  have hlay : SetTable.layClean M hs = some ow := by rw [layClean_eq, e]; rfl
  have hre : t.relaid hs wanted = some (tabOf t M ow, ((liveOf M ow).map (·.2)).toArray) := by
    rw [relaid_eq, hw, hlay]
    rfl
  obtain ⟨r1, r2⟩ := ris_live (fun j => ow.getD j none) (List.range (M + 1)) List.pairwise_lt_range
  have r1 : Ris ((liveOf M ow).map (·.1)) := r1
  have r2 : ∀ x ∈ (liveOf M ow).map (·.1), x ∈ List.range (M + 1) := r2
  have live : ∀ k, k < hs.size → k ∈ (liveOf M ow).map (·.2) := fun k hk => by
    obtain ⟨j, a, b⟩ := S.each k hk
    exact List.mem_map.mpr ⟨(j, k), (mem_live S.size).2 ⟨a, b⟩, rfl⟩
  have hlen : (liveOf M ow).length = hs.size := by
    obtain ⟨l, l1, l2⟩ := S.few
    have up := nat_nodup_len _ l (List.Pairwise.imp (fun z => Nat.ne_of_lt z) r1) fun x hx => by
      obtain ⟨⟨y, k⟩, hq, rfl⟩ := List.mem_map.mp hx
      obtain ⟨a, b⟩ := (mem_live S.size).1 hq
      exact l2 y a (by rw [b]; exact fun z => nomatch z)
    have dn := nat_nodup_len (List.range hs.size) ((liveOf M ow).map (·.2)) List.nodup_range fun k hk => live k (List.mem_range.mp hk)
    rw [List.length_map, l1] at up
    rw [List.length_map, List.length_range] at dn
    omega
  refine ⟨_, _, hre, perm_range hs.size _ ((List.length_map ..).trans hlen) live, ⟨r1, rfl, ?_, hM, fun x hx => Nat.le_of_lt_succ (List.mem_range.mp (r2 x hx))⟩, rfl, rfl, rfl⟩
  show ((liveOf M ow).map (·.1)).toArray.size = hs.size
  rw [List.size_toArray, List.length_map, hlen]
end TT

set_option Elab.async false
set_option maxRecDepth 100000
set_option maxHeartbeats 4000000
/-! Sets of tuples of ints: one tuple more. -/
namespace TT
open PySem PySem.Spec PyProof.Rows L2
/-- at a the set of the tuples L, all different -/
structure At (P : Program) (w : World) (h : Heap) (a : Addr) (L : List (Addr × List Int)) (es : Array (Int × Value)) (ep : Nat) (t : SetTable) : Prop where
  obj : ∃ o, h.get? a = some o ∧ o.ExactSet ∧ o.data = .set es ep t
  rows : es.toList = rowsOf P w L
  tab : Tab t L.length
  diff : (L.map (·.2)).Nodup
  tups : ∀ p ∈ L, IsT P w h p.2 p.1
  pl : t.plain = true
  ld : w.params.followText "set-order" = true ∨ t.led = true
  loose : L.length * 5 < t.mask * 3
section
variable {P : Program} {w : World} {A : Around} {E : Value → Shared → Prop} {s : Shared} {a : Addr} {L : List (Addr × List Int)} {es : Array (Int × Value)} {ep : Nat} {t : SetTable}
theorem rows_size {L : List (Addr × List Int)} {es : Array (Int × Value)} (h : es.toList = rowsOf P w L) : es.size = L.length := by
  rw [← Array.length_toList, h]
  exact List.length_map ..
theorem rows_at {L : List (Addr × List Int)} {es : Array (Int × Value)} (h : es.toList = rowsOf P w L) {i : Nat} {p : Addr × List Int} (hp : L[i]? = some p) : es[i]? = some (thash P w p.2, Value.ref p.1) := by
  rw [← Array.getElem?_toList, h]
  exact (List.getElem?_map ..).trans (congrArg (Option.map _) hp)
theorem At.fit (R : At P w s.heap a L es ep t) : t.fits es.size = true := by
  have h1 := R.tab.num
  have h2 := rows_size R.rows
  have h3 := R.loose
  have h4 : t.fill = L.length := by unfold SetTable.fill; rw [R.tab.clean, h1]; rfl
  unfold SetTable.fits
  rw [h4, h1, h2, Bool.and_eq_true, beq_iff_eq, decide_eq_true_eq]
  omega
theorem At.stays (R : At P w s.heap a L es ep t) : ¬ t.gaveWay = true := by
  unfold SetTable.gaveWay
  rw [R.tab.msk.odd]
  decide
abbrev stepAt (m : Nat) (x : Int) (c : Nat) : SetTable.Probe := nth m (runAt m (SetTable.bits x % (m + 1)) (SetTable.bits x)) c
theorem stepAt_plus (m : Nat) (x : Int) (c q : Nat) : nth m (stepAt m x c) q = stepAt m x (c + q) := (nth_add m c _ q).symm
theorem no_dummy (m : Nat) : ∀ (k : Nat) (p : SetTable.Probe), p.dummy = none → (nth m p k).dummy = none
  | 0, _, h => h
  | k + 1, p, h => no_dummy m k (adv m p) (by unfold adv; split <;> exact h)
/-- the search for a tuple that isn't in: from the c-th step on, to the first free place K -/
theorem look (R : At P w s.heap a L es ep t) {x : Addr} {k : List Int} (hx : IsT P w s.heap k x) (hu : A.units < cLine) (hk : k ∉ L.map (·.2)) {K : Nat} (hf : K < 10 * SetTable.turns t.mask)
    (hK : way t.mask (thash P w k) K ∉ t.place.toList) (hb : ∀ c, c < K → way t.mask (thash P w k) c ∈ t.place.toList) {Q : SetFound → Shared → Prop} (hq : Q (.free (way t.mask (thash P w k) K) false) s) :
    ∀ (f c : Nat) (st : Option SetTable.Probe), st.getD (t.probeStart (thash P w k)) = stepAt t.mask (thash P w k) c → c ≤ K → K - c < f → wpAny (model P w) A (setSearchFrom a (.ref x) (thash P w k) true f st) Q E s
  | 0, _, _, _, _, h => absurd h (Nat.not_lt_zero _)
  | f + 1, c, st, hst, hc, hfu => by
    obtain ⟨o, ho, hex, hd⟩ := R.obj
    rw [setSearchFrom_succ]
    refine wpAny_bind (wpAny_setState_of ho hd R.fit ?_)
    dsimp only
    refine wp_if_neg R.stays ?_
    try refine wpAny_bind (wpAny_pure ?_)
    have way_of : ∀ q, (nth t.mask (stepAt t.mask (thash P w k) c) q).j = way t.mask (thash P w k) (c + q) := fun q => congrArg SetTable.Probe.j (stepAt_plus ..)
    have word := go_spec t R.tab.up R.tab.clean (fun i => (es[i]?.map (·.1)).getD 0) (thash P w k) (10 * SetTable.turns t.mask) (K - c) (stepAt t.mask (thash P w k) c) (no_dummy _ _ _ rfl) (by omega)
      (fun q hq => by rw [way_of]; exact hb _ (by omega)) (by rw [way_of, Nat.add_sub_cancel' hc]; exact hK)
    rcases word with ⟨q, i, hq1, hi, _, _, hpr⟩ | ⟨_, hpr⟩
    · -- one of the same hash: another tuple
      have hp : t.probe (fun i => (es[i]?.map (·.1)).getD 0) (thash P w k) (st.getD (t.probeStart (thash P w k))) = some (.candidate (way t.mask (thash P w k) (c + q)) i (stepAt t.mask (thash P w k) (c + (q + 1)))) := by
        rw [hst, ← way_of, ← stepAt_plus]
        exact hpr
      rw [hp]
      dsimp only
      rw [way_of] at hi
      have hil : i < L.length := by
        have h1 := (List.getElem?_eq_some_iff.mp hi).1
        rw [Array.length_toList, R.tab.num] at h1
        exact h1
      obtain ⟨y, hy⟩ : ∃ y, L[i]? = some y := ⟨_, List.getElem?_eq_getElem hil⟩
      have hm : y ∈ L := List.mem_of_getElem? hy
      have hne : ¬ y.2 = k := fun e => hk (List.mem_map.mpr ⟨y, hm, e⟩)
      have tail : wpAny (model P w) A (searchRest a (.ref x) (thash P w k) true f es t (way t.mask (thash P w k) (c + q)) i (stepAt t.mask (thash P w k) (c + (q + 1)))) Q E s := by
        unfold searchRest
        rw [rows_at R.rows hy]
        dsimp only
        refine wpAny_bind (wpAny_holding (wpAny_eqBool_tuple hu (R.tups y hm) hx ?_))
        refine wpAny_bind (wpAny_setState_of ho hd R.fit ?_)
        dsimp only
        refine wp_if_neg (by simp [hne]) ?_
        try refine wpAny_bind (wpAny_pure ?_)
        rw [sameMem]
        dsimp only
        have live := slot_live R.tab.up hi
        simp only [if_true, live, rows_at R.rows hy]
        refine wpAny_bind (wpAny_isSame_ref_self (wpAny_bind (wpAny_pure ?_)))
        simp only [if_true]
        refine wp_if_neg (by simp [hne]) ?_
        exact look R hx hu hk hf hK hb hq f (c + (q + 1)) _ rfl (by omega) (by omega)
      by_cases hl : t.led = true
      · refine wp_if_neg (by simp [hl]) ?_
        try refine wpAny_bind (wpAny_pure ?_)
        exact tail
      · refine wp_if_pos (by simp [hl]) ?_
        refine wpAny_bind (seen_tup hx (fun u hu2 => ?_) ?_)
        · obtain ⟨e, he, rfl⟩ := List.mem_map.mp hu2
          have he1 : e ∈ es ∧ e.1 = thash P w k := by simpa using he
          have he2 : e ∈ rowsOf P w L := by rw [← R.rows]; simpa using he1.1
          obtain ⟨p2, hp2, rfl⟩ := List.mem_map.mp he2
          exact ⟨p2.2, p2.1, rfl, R.tups p2 hp2⟩
        · refine wp_if_neg (by decide) ?_
          try refine wpAny_bind (wpAny_pure ?_)
          exact tail
    · -- the free place
      have hp : t.probe (fun i => (es[i]?.map (·.1)).getD 0) (thash P w k) (st.getD (t.probeStart (thash P w k))) = some (.empty (way t.mask (thash P w k) K) none) := by
        have e : way t.mask (thash P w k) K = (nth t.mask (stepAt t.mask (thash P w k) c) (K - c)).j := by rw [way_of, Nat.add_sub_cancel' hc]
        rw [hst, e]
        exact hpr
      rw [hp]
      dsimp only
      exact wpAny_pure hq
/-- laid anew, larger -/
theorem relay {o : Obj} (ho : s.heap.get? a = some o) (hex : o.ExactSet) (hd : o.data = .set es ep t) (hr : es.toList = rowsOf P w L) (T : Tab t L.length) (hfl : L.length ≤ t.mask) (nd : (L.map (·.2)).Nodup) (tups : ∀ p ∈ L, IsT P w s.heap p.2 p.1) (pl : t.plain = true)
    (ld : w.params.followText "set-order" = true ∨ t.led = true) {wanted M : Nat} (hw : SetTable.sizeAbove wanted - 1 = M) (hM : Msk M) (hmax : SetTable.sizeAbove wanted ≤ 8192) (hn : L.length * 5 < M * 3) {Q : Unit → Shared → Prop}
    (hq : ∀ h' L' es' ep' t', Heap.SameBut a s.heap h' → At P w h' a L' es' ep' t' → L'.Perm L → Q () { s with heap := h' }) : wpAny (model P w) A (setRelay a wanted) Q E s := by
  have hz := rows_size hr
  have hML := hM.le
  have hfit : t.fits es.size = true := by
    have h4 : t.fill = L.length := by unfold SetTable.fill; rw [T.clean, T.num]; rfl
    unfold SetTable.fits
    rw [h4, T.num, hz, Bool.and_eq_true, beq_iff_eq, decide_eq_true_eq]
    omega
  obtain ⟨t', order, e, hp, T', em, el, epl⟩ := relaid_at t (hs := es.map (·.1)) (wanted := wanted) hw hM (by rw [Array.size_map, hz]; omega)
  rw [Array.size_map, hz] at hp T'
  obtain ⟨L2, r1, r2, _⟩ := order_rows L es order hr hp
  have hz2 : (order.filterMap (es[·]?)).size = es.size := by rw [rows_size r1, r2.length_eq, hz]
  rw [setRelay_eq]
  refine wpAny_bind (wpAny_setState_of ho hd hfit ?_)
  dsimp only
  refine wp_if_neg (by rw [sizeLine_eq]; omega) ?_
  try refine wpAny_bind (wpAny_pure ?_)
  rw [e]
  dsimp only
  refine wpAny_bind ?_
  refine wp_if_neg (by rw [hz2]; simp) ?_
  try refine wpAny_bind (wpAny_pure ?_)
  refine wpAny_pure ?_
  dsimp only
  refine wpAny_storeSet_of ho hd ?_ (by rw [hz2, hz, sizeLine_eq]; omega)
  have sb : Heap.SameBut a s.heap (s.heap.update a (Obj.putSet (order.filterMap (es[·]?)) t')) := Heap.SameBut.update ..
  refine hq _ L2 _ (ep + 1) t' sb ⟨⟨_, store_at ho hd, ⟨hex.1, hex.2.1, hex.2.2⟩, rfl⟩, r1, by rw [r2.length_eq]; exact T', (r2.map (·.2)).nodup_iff.mpr nd, fun p hm => isT_same (tups p (r2.mem_iff.mp hm)) ho hd sb, epl.trans pl, ?_, by rw [r2.length_eq, em]; exact hn⟩ r2
  rw [el]
  exact ld
theorem size5 : SetTable.sizeAbove (SetTable.grown 5) = 32 := by decide +kernel
theorem size19 : SetTable.sizeAbove (SetTable.grown 19) = 128 := by decide +kernel
theorem size77 : SetTable.sizeAbove (SetTable.grown 77) = 512 := by decide +kernel
theorem size307 : SetTable.sizeAbove (SetTable.grown 307) = 2048 := by decide +kernel
theorem size1229 : SetTable.sizeAbove (SetTable.grown 1229) = 8192 := by decide +kernel
/-- a new tuple put in -/
theorem put_in (R : At P w s.heap a L es ep t) {x : Addr} {k : List Int} (hx : IsT P w s.heap k x) (hu : A.units < cLine) (hk : k ∉ L.map (·.2)) (hmost : L.length < 3000) {Q : Bool → Shared → Prop}
    (hq : ∀ h' L' es' ep' t', Heap.SameBut a s.heap h' → At P w h' a L' es' ep' t' → L'.Perm ((x, k) :: L) → Q true { s with heap := h' }) : wpAny (model P w) A (setAddHashed a (.ref x) (thash P w k)) Q E s := by
  obtain ⟨o, ho, hex, hd⟩ := R.obj
  have hz := rows_size R.rows
  have hroom := R.loose
  have hM := R.tab.msk.le
  obtain ⟨K, hf, hK, hb⟩ := R.tab.gap (by omega) (thash P w k)
  unfold setAddHashed
  refine wpAny_holding ?_
  rw [show (100000 : Nat) = 99999 + 1 from rfl, setAddHashedIn_succ]
  refine wpAny_bind (wpAny_setState_of ho hd R.fit ?_)
  dsimp only
  refine wp_if_neg (by simp [byScan, Value.scannable]) ?_
  try refine wpAny_bind (wpAny_pure ?_)
  refine wpAny_bind ?_
  unfold setSearch
  refine look R hx hu hk hf hK hb ?_ 100000 0 none rfl (Nat.zero_le _) (by unfold SetTable.turns at hf; omega)
  dsimp only
  refine wpAny_bind (wpAny_setState_of ho hd R.fit ?_)
  dsimp only
  obtain ⟨q1, q2, q3, q4⟩ := R.tab.one_more (way_in t.mask (thash P w k) K) hK
  have m1 : (t.put (way t.mask (thash P w k) K)).1.mask = t.mask := rfl
  have m2 : (t.put (way t.mask (thash P w k) K)).1.led = t.led := rfl
  have m3 : (t.put (way t.mask (thash P w k) K)).1.plain = true := R.pl
  generalize t.put (way t.mask (thash P w k) K) = pt at q1 q3 q4 m1 m2 m3 ⊢
  obtain ⟨t1, p⟩ := pt
  dsimp only at q1 q3 q4 m1 m2 m3 ⊢
  subst q1
  first
    | (refine wpAny_bind ?_; refine wp_if_pos m3 ?_; refine hashBy_tup hx ?_)
    | refine wp_if_pos m3 (wpAny_bind (hashBy_tup hx ?_))
  simp only [if_true]
  generalize SetTable.below t.place (way t.mask (thash P w k) K) = p at q2 ⊢
  have rows1 : (SetTable.insertAt es p (thash P w k, Value.ref x)).toList = rowsOf P w (L.take p ++ (x, k) :: L.drop p) := by
    rw [SetTable.toList_insertAt, rows_put, R.rows]
  have pm := put_perm L p (x, k)
  have hz1 := rows_size rows1
  rw [pm.length_eq, List.length_cons] at hz1
  have nd1 : ((L.take p ++ (x, k) :: L.drop p).map (·.2)).Nodup := (pm.map (·.2)).nodup_iff.mpr (List.nodup_cons.mpr ⟨hk, R.diff⟩)
  have T1 : Tab t1 (L.take p ++ (x, k) :: L.drop p).length := by rw [pm.length_eq]; exact q3
  generalize SetTable.insertAt es p (thash P w k, Value.ref x) = es1 at rows1 hz1 ⊢
  generalize L.take p ++ (x, k) :: L.drop p = L1 at pm nd1 rows1 T1
  have hl1 : L1.length = L.length + 1 := pm.length_eq
  refine wpAny_bind (wpAny_storeSet_of ho hd ?_ (by rw [hz1, sizeLine_eq]; omega))
  have sb : Heap.SameBut a s.heap (s.heap.update a (Obj.putSet es1 t1)) := Heap.SameBut.update ..
  have ho1 := store_at (es' := es1) (t' := t1) ho hd
  generalize s.heap.update a (Obj.putSet es1 t1) = h1 at sb ho1 ⊢
  have tup1 : ∀ p ∈ L1, IsT P w h1 p.2 p.1 := fun p hp => by
    rcases List.mem_cons.mp (pm.mem_iff.mp hp) with e | z
    · exact e ▸ isT_same hx ho hd sb
    · exact isT_same (R.tups p z) ho hd sb
  have ld1 : w.params.followText "set-order" = true ∨ t1.led = true := m2 ▸ R.ld
  by_cases full : t1.tooFull = true
  · first
      | (refine wpAny_bind ?_; refine wp_if_pos (by simp [full]) ?_)
      | (refine wp_if_pos (by simp [full]) ?_; refine wpAny_bind ?_)
    have hfull : (L.length + 1) * 5 ≥ t.mask * 3 := by
      unfold SetTable.tooFull at full
      rw [decide_eq_true_eq, q4, m1] at full
      exact full
    rw [hz]
    have grow : ∀ M, SetTable.sizeAbove (SetTable.grown (L.length + 1)) = M + 1 → Msk M → (L.length + 1) * 5 < M * 3 → wpAny (model P w) A (setRelay a (SetTable.grown (L.length + 1))) (fun _ s' => wpAny (model P w) A (pure true) Q E s') E { s with heap := h1 } := fun M a1 a2 a3 => by
      have := a2.le
      refine relay (s := { s with heap := h1 }) ho1 ⟨hex.1, hex.2.1, hex.2.2⟩ rfl rows1 T1 (by rw [hl1, m1]; omega) nd1 tup1 m3 ld1 (by rw [a1]; rfl) a2 (by omega) (by rw [hl1]; exact a3) ?_
      intro h2 L2 es2 ep2 t2 sb2 R2 pm2
      exact wpAny_pure (hq h2 L2 es2 ep2 t2 (sb.trans sb2) R2 (pm2.trans pm))
    rcases R.tab.msk with e | e | e | e | e | e
    · obtain e2 : L.length + 1 = 5 := by omega
      exact grow 31 (by rw [e2, size5]) (.inr (.inl rfl)) (by omega)
    · obtain e2 : L.length + 1 = 19 := by omega
      exact grow 127 (by rw [e2, size19]) (.inr (.inr (.inl rfl))) (by omega)
    · obtain e2 : L.length + 1 = 77 := by omega
      exact grow 511 (by rw [e2, size77]) (.inr (.inr (.inr (.inl rfl)))) (by omega)
    · obtain e2 : L.length + 1 = 307 := by omega
      exact grow 2047 (by rw [e2, size307]) (.inr (.inr (.inr (.inr (.inl rfl))))) (by omega)
    · obtain e2 : L.length + 1 = 1229 := by omega
      exact grow 8191 (by rw [e2, size1229]) (.inr (.inr (.inr (.inr (.inr rfl))))) (by omega)
    · exfalso
      omega
  · first
      | refine wp_if_neg (by simp [full]) ?_
      | (refine wpAny_bind ?_; refine wp_if_neg (by simp [full]) ?_; refine wpAny_pure ?_)
    refine wpAny_pure (hq h1 L1 es1 (ep + 1) t1 sb ⟨⟨_, ho1, ⟨hex.1, hex.2.1, hex.2.2⟩, rfl⟩, rows1, T1, nd1, tup1, m3, ld1, ?_⟩ pm)
    unfold SetTable.tooFull at full
    rw [decide_eq_true_eq, q4, m1] at full
    rw [hl1, m1]
    omega
end
end TT

set_option Elab.async false
set_option maxRecDepth 100000
set_option maxHeartbeats 4000000
/-! sorted(set(xs)), xs a list of different pairs of ints. -/
namespace TT
open PySem PySem.Spec PyProof.Rows L2
section
variable {P : Program} {w : World} {A : Around} {E : Value → Shared → Prop} {s : Shared}
theorem At.moved {h h' : Heap} {a : Addr} {L : List (Addr × List Int)} {es : Array (Int × Value)} {ep : Nat} {t : SetTable} (R : At P w h a L es ep t) (ha : ∀ o, h.get? a = some o → h'.get? a = some o) (ht : ∀ p ∈ L, IsT P w h' p.2 p.1) : At P w h' a L es ep t :=
  let ⟨o, ho, r⟩ := R.obj
  ⟨⟨o, ha o ho, r⟩, R.rows, R.tab, R.diff, ht, R.pl, R.ld, R.loose⟩
/-- the object that set() begins with -/
abbrev blank (w : World) : Obj := { cls := .type "set", dict := none, data := .set #[] 0 (.fresh 0 0 (!w.params.followText "set-order")) }
theorem at_blank {h : Heap} {a : Addr} (ho : h.get? a = some (blank w)) : At P w h a [] #[] 0 (.fresh 0 0 (!w.params.followText "set-order")) where
  obj := ⟨_, ho, ⟨rfl, rfl, rfl⟩, rfl⟩
  rows := rfl
  tab := ⟨List.Pairwise.nil, rfl, rfl, .inl rfl, fun x hx => nomatch hx⟩
  diff := List.nodup_nil
  tups := fun p hp => nomatch hp
  pl := rfl
  ld := by
    show _ ∨ (!w.params.followText "set-order") = true
    cases w.params.followText "set-order" <;> simp
  loose := by
    show 0 * 5 < 7 * 3
    decide
theorem take_one {α : Type} {l : List α} {i : Nat} {x : α} (h : l[i]? = some x) : l.take (i + 1) = l.take i ++ [x] := by
  rw [List.take_add_one, h]
  rfl
/-- another one isn't among the first -/
theorem not_yet {ks L : List (Addr × List Int)} {i : Nat} {p : Addr × List Int} (nd : (ks.map (·.2)).Nodup) (hp : ks[i]? = some p) (hL : L.Perm (ks.take i)) : p.2 ∉ L.map (·.2) := fun hm => by
  rw [(hL.map (·.2)).mem_iff, List.map_take] at hm
  obtain ⟨j, hj, e⟩ := List.getElem_of_mem hm
  have hji : j < i := by
    rw [List.length_take] at hj
    omega
  have hi : i < (ks.map (·.2)).length := by
    rw [List.length_map]
    exact (List.getElem?_eq_some_iff.mp hp).1
  have e2 : (ks.map (·.2))[i] = p.2 := by
    have q := congrArg (Option.map (fun z : Addr × List Int => z.2)) hp
    rw [← List.getElem?_map, List.getElem?_eq_getElem hi] at q
    exact Option.some.inj q
  rw [List.getElem_take] at e
  exact List.pairwise_iff_getElem.mp nd j i (Nat.lt_trans hji hi) hi hji (e.trans e2.symm)
/-- the loop of update -/
theorem fill {I : Addr} {fp wr : List Addr} {G : Array GenState → Array GenState → Prop} {n : Nat} {Pv : Nat → Value → Prop} {St : Nat → Shared → Prop} {R : Result → Shared → Prop} (W : WalksS P w A.in1 I fp wr G n Pv St) (S : Addr) (hS : S ∉ fp)
    (ks : List (Addr × List Int)) (hn : n = ks.length) (h300 : ks.length ≤ 3000) (nd : (ks.map (·.2)).Nodup) (hv : ∀ i v, Pv i v → ∃ p, ks[i]? = some p ∧ v = .ref p.1) (h0 : Heap) (hk : ∀ p ∈ ks, IsT P w h0 p.2 p.1) (hS0 : h0.get? S = none)
    (hw0 : ∀ b ∈ wr, h0.get? b = none) (hu : A.in1.units < cLine) : ∀ (k i : Nat) (s : Shared), n - i = k → i ≤ n → St i s → (∀ b o, h0.get? b = some o → s.heap.get? b = some o) → (∃ L es ep t, At P w s.heap S L es ep t ∧ L.Perm (ks.take i)) →
      (∀ s' L es ep t, Moved (S :: wr) G s s' → At P w s'.heap S L es ep t → L.Perm (ks.take n) → (∀ b o, h0.get? b = some o → s'.heap.get? b = some o) → R (.ok (.ret .none)) s') → codeAny (model P w) A (.builtin "set.update.loop" ⟨[.ref S, .ref I], []⟩) R s := by
  have hSw : S ∉ wr := fun h => hS (W.sub _ h)
  have more : ∀ b ∈ wr, b ∈ S :: wr := fun b => List.mem_cons_of_mem S
  have still : ∀ {s s' : Shared}, Moved wr G s s' → (∀ b o, h0.get? b = some o → s.heap.get? b = some o) → ∀ b o, h0.get? b = some o → s'.heap.get? b = some o := fun mv kp b o e =>
    mv.heap b o (fun z => by rw [hw0 b z] at e; cases e) (kp b o e)
  have within : ∀ {i : Nat} {L : List (Addr × List Int)}, L.Perm (ks.take i) → ∀ p ∈ L, p ∈ ks := fun pm p hp => List.mem_of_mem_take (pm.mem_iff.mp hp)
  intro k
  induction k with
  | zero =>
    intro i s hki hi hst kp ⟨L, es, ep, t, hL, pm⟩ fin
    obtain rfl : i = n := by omega
    refine codeAny_builtin F.entry_set_update_loop ?_
    rw [Around.under_plainId F.plain_set_update_loop _]
    show wpAny _ A.in1 (pyNext (.ref I) >>= _) _ _ s
    refine wpAny_bind (W.done s _ _ hst fun s' mv => ?_)
    show wpAny _ A.in1 (ret Value.none) _ _ s'
    have kp' := still mv kp
    exact wpAny_pure (fin s' L es ep t (mv.mono more) (hL.moved (fun o e => mv.heap S o hSw e) fun p hp => isT_keep (hk p (within pm p hp)) kp') pm kp')
  | succ k ih =>
    intro i s hki hi hst kp ⟨L, es, ep, t, hL, pm⟩ fin
    have hlt : i < n := by omega
    refine codeAny_builtin F.entry_set_update_loop ?_
    rw [Around.under_plainId F.plain_set_update_loop _]
    show wpAny _ A.in1 (pyNext (.ref I) >>= _) _ _ s
    refine wpAny_bind (W.item i s _ _ hlt hst fun v s' hP hst' mv => ?_)
    obtain ⟨p, hp, rfl⟩ := hv i v hP
    have kp' := still mv kp
    have hL' : At P w s'.heap S L es ep t := hL.moved (fun o e => mv.heap S o hSw e) fun q hq => isT_keep (hk q (within pm q hq)) kp'
    have hx : IsT P w s'.heap p.2 p.1 := isT_keep (hk p (List.mem_of_getElem? hp)) kp'
    have hlen : L.length < 3000 := by
      rw [pm.length_eq, List.length_take]
      omega
    show wpAny _ A.in1 (holding [Value.ref p.1] (setAdd S (.ref p.1)) >>= _) _ _ s'
    refine wpAny_bind (wpAny_holding ?_)
    unfold setAdd
    refine wpAny_holding ?_
    refine wpAny_bind (wpAny_pyHash_tuple hu hx ?_)
    refine put_in (s := { s' with toks := s'.toks + (p.2.length + 1) }) hL' hx hu (not_yet nd hp pm) hlen fun h' L' es' ep' t' sb hL2 pm2 => ?_
    have pm3 : L'.Perm (ks.take (i + 1)) := by
      rw [take_one hp]
      exact pm2.trans ((List.Perm.cons p pm).trans (List.perm_append_singleton p _).symm)
    have kp2 : ∀ b o, h0.get? b = some o → h'.get? b = some o := fun b o e => (sb.2 b fun z => by rw [z, hS0] at e; cases e).trans (kp' b o e)
    refine wpAny_pure ⟨plainId_quiet F.plain_set_update_loop _, ih (i + 1) _ (by omega) hlt (W.frame _ s' _ _ hst' (Nat.le_add_right _ _) fun b hb o e => ?_) kp2 ⟨L', es', ep', t', hL2, pm3⟩ fun s2 L2 es2 ep2 t2 mv2 hS2 pm4 kp3 => ?_⟩
    · exact (sb.2 b fun z : b = S => hS (z ▸ hb)).trans e
    · refine fin s2 L2 es2 ep2 t2 (Moved.trans W.gtrans ((mv.mono more).then_heap (Nat.le_add_right _ _) fun b o hb e => ?_) mv2) hS2 pm4 kp3
      exact (sb.2 b fun z : b = S => hb (z ▸ List.mem_cons_self)).trans e
set_option maxRecDepth 100000 in
set_option maxHeartbeats 3200000 in
/-- set(xs) -/
theorem call_set {l : Addr} {items : Array Value} (ks : List (Addr × List Int)) {Q : Value → Shared → Prop} (hh : A.handled = none) (hl : s.heap.IsList l items) (hit : items.toList = ks.map fun p => Value.ref p.1) (hk : ∀ p ∈ ks, IsT P w s.heap p.2 p.1)
    (h300 : ks.length ≤ 3000) (nd : (ks.map (·.2)).Nodup) (hu : A.units + 3 < cLine)
    (fin : ∀ (h' : Heap) (tk : Nat) L es ep t, At P w h' s.heap.objs.size L es ep t → L.Perm ks → (∀ b o, s.heap.get? b = some o → h'.get? b = some o) → Q (.ref s.heap.objs.size) { s with heap := h', toks := tk }) : wpAny (model P w) A (call (.type "set") [.ref l]) Q E s := by
  have hsz : items.size = ks.length := by rw [← Array.length_toList, hit, List.length_map]
  obtain ⟨c, tl, hmro⟩ := F.called_set.mro
  have hmade := F.called_set.made
  have hsub := F.called_set.sub
  refine wpAny_call (codeAny_of_tree ?_)
  show wpAny _ _ (callAny (.type "set") _) _ _ _
  refine wpAny_pure ⟨Code.quiet_builtin _ (by decide +kernel), codeAny_builtin F.entry_type_call ?_⟩
  rw [Around.under_plain (weight_type_call_type "set" [.ref l] []) rfl]
  have t1 := F.called_set.notType
  have t2 := F.called_set.canCreate
  have t3 := F.typeCall_set_1 (.ref l)
  repeat (any_goals (first | assumption | wp_step))

  refine codeAny_mono (code_set_led1 (.ref l) (E := E) (Q₁ := fun ob s1 => ob = .ref s.heap.objs.size ∧ s1 = { s with heap := s.heap.push (blank w) }) ⟨rfl, rfl⟩) fun r s1 hr => ?_
  cases r with
  | error e => exact hr
  | ok fl =>
    cases fl with
    | ret ob =>
      obtain ⟨rfl, rfl⟩ := hr
      have at0 : (s.heap.push (blank w)).get? s.heap.objs.size = some (blank w) := Heap.get?_push_size _ rfl
      have ty0 : Shared.TypeIs { s with heap := s.heap.push (blank w) } (.ref s.heap.objs.size) "set" := ⟨_, at0, rfl⟩
      have i1 := F.called_set.init.lookup
      have i2 := F.called_set.init.bind (.ref s.heap.objs.size)
      repeat (any_goals (first | assumption | wp_step))

      refine codeAny_mono (codeAny_call_builtin (R := wants (fun r s2 => r = .none ∧ ∃ h' tk L es ep t, s2 = { s with heap := h', toks := tk } ∧ At P w h' s.heap.objs.size L es ep t ∧ L.Perm ks ∧ (∀ b o, s.heap.get? b = some o → h'.get? b = some o)) E) F.called_set.init.plain F.entry_set_init (check_set_init_1 ty0 ?_)) fun r2 s2 hr2 => ?_
      · obtain ⟨ol, hol, hcl, nl, hdl⟩ := hl
        obtain ⟨oc, od, oda, os⟩ := ol
        simp only at hcl hdl
        subst hcl; subst hdl
        have hol1 : (s.heap.push (blank w)).get? l = some { cls := .type "list", dict := od, data := .seq items nl, slots := os } := Heap.get?_push_of_some _ hol
        have b1 := F.sub_list_set
        have b2 := F.sub_list_frozenset
        have b3 : (Value.type "list" == Value.type "dict") = false := by decide
        have hl1 : (s.heap.push (blank w)).IsList l items := ⟨_, hol1, rfl, nl, rfl⟩
        unfold Builtin.«set.__init__» noKeywords Builtin.Frozenset.updateFrom
        generalize hPI : pyIter = PI
        wp_walk
        subst hPI

        refine wpAny_pyIter_list hl1 ?_
        refine wpAny_bind (wpAny_runValue ?_)
        have hlS : l < s.heap.objs.size := Heap.lt_size hol
        have hh3 : A.in1.in1.in1.handled = none := by simp [hh]
        have z1 : (s.heap.push (blank w)).objs.size = s.heap.objs.size + 1 := Heap.size_push ..
        have nI : l ≠ (s.heap.push (blank w)).objs.size := fun e => by
          rw [e, z1] at hlS
          exact Nat.not_succ_lt_self hlS
        have nS : s.heap.objs.size ∉ [(s.heap.push (blank w)).objs.size, l] := by
          rw [z1, List.mem_cons, List.mem_singleton]
          rintro (e | e)
          · exact Nat.succ_ne_self _ e.symm
          · exact Nat.ne_of_gt hlS e
        have hv : ∀ (i : Nat) (v : Value), items[i]? = some v → ∃ p, ks[i]? = some p ∧ v = .ref p.1 := fun i v hv => by
          rw [← Array.getElem?_toList, hit, List.getElem?_map] at hv
          obtain ⟨p, hp, e⟩ := Option.map_eq_some_iff.mp hv
          exact ⟨p, hp, e.symm⟩
        have no : ∀ b, s.heap.objs.size ≤ b → s.heap.get? b = none := fun b hb => by
          cases q : s.heap.get? b with
          | none => rfl
          | some o => exact absurd (Nat.lt_of_lt_of_le (Heap.lt_size q) hb) (Nat.lt_irrefl _)
        refine fill ((Walks.list hh3 _ l nI items).toS) s.heap.objs.size nS ks hsz h300 nd hv s.heap hk (no _ (Nat.le_refl _)) (fun b hb => no b (by rw [List.mem_singleton.mp hb, z1]; omega)) hu (items.size - 0) 0 _ (by omega) (Nat.zero_le _)
          ⟨⟨_, Heap.get?_push_size _ rfl, rfl, rfl⟩, (hl1.push _)⟩ (fun b o e => Heap.get?_push_of_some _ (Heap.get?_push_of_some _ e)) ?hA ?hB
        case hA => exact ⟨[], #[], 0, _, at_blank (Heap.get?_push_of_some _ at0), List.Perm.refl []⟩
        case hB =>
          intro s' L es ep t mv hS pm kp
          obtain ⟨h', g2, d2, tk', o2⟩ := s'
          have e1 : g2 = s.gens := mv.gens
          have e2 : d2 = s.drawn := mv.drawn
          have e3 : o2 = s.os := mv.os
          subst e1; subst e2; subst e3
          show wpAny _ _ _ _ _ _
          refine wpAny_pure ?_
          show wpAny _ _ (ret Value.none) _ _ _
          rw [hsz, List.take_length] at pm
          exact wpAny_pure ⟨rfl, h', tk', L, es, ep, t, rfl, hS, pm, kp⟩

      · cases r2 with
        | error e => exact hr2
        | ok f2 =>
          cases f2 with
          | ret r =>
            obtain ⟨rfl, h', tk, L, es, ep, t, rfl, hS, pm, kp⟩ := hr2
            repeat (any_goals (first | assumption | wp_step))
            exact fin _ _ _ _ _ _ hS pm kp
          | _ => exact hr2.elim
    | _ => exact hr.elim
end
end TT

set_option Elab.async false
set_option maxRecDepth 100000
set_option maxHeartbeats 4000000
/-! sorted(set(xs)), xs a list of different pairs of ints: sorted, and the rule. -/
namespace TT
open PySem PySem.Spec PyProof.Rows L2
section
variable {P : Program} {w : World} {A : Around} {E : Value → Shared → Prop} {s : Shared}
/-- sorted(a set of pairs) -/
theorem sorted_set {a : Addr} {L : List (Addr × List Int)} {es : Array (Int × Value)} {ep : Nat} {t : SetTable} {k : Value → Int × Int} {Q : Value → Shared → Prop} (R : At P w s.heap a L es ep t) (hh : A.handled = none) (hmost : L.length ≤ 3000) (hp : ∀ p ∈ L, Srt.IsPair s.heap (.ref p.1) (k (.ref p.1)).1 (k (.ref p.1)).2)
    (hq : ∀ s' p (out : List Value), (∀ b o, s.heap.get? b = some o → s'.heap.get? b = some o) → s'.gens = s.gens → s'.os = s.os → s.heap.objs.size ≤ p → (∃ c, s'.heap.get? p = some (seqObj "list" out.toArray c)) → SrtO.Srtd (fun v u => SrtO.lexB (k v) (k u)) out →
      out.Perm (L.map fun q => Value.ref q.1) → Q (.ref p) s') : wpAny (model P w) A (call (.builtin "sorted") [.ref a]) Q E s := by
  obtain ⟨o, ho, hex, hd⟩ := R.obj
  have hz := rows_size R.rows
  refine Calls.call_function_entry kind_sorted plain_sorted entry_sorted (args_sorted1 _) ?_
  unfold Builtin.«sorted»
  refine wpAny_bind (m := checkCount "sorted" 1 1 _) (wpAny_pure ?_)
  refine wpAny_bind (collect_set (A := A.in1) hh ⟨o, ho, hex.1, hd⟩ R.fit (by unfold scanBound; omega) R.tab.up R.ld fun s1 vs k1 z1 g1 o1 pm => ?_)
  have hes : es.toList.map (·.2) = L.map fun q => Value.ref q.1 := by
    rw [R.rows]
    exact List.map_map ..
  rw [hes] at pm
  have hvl : vs.length ≤ 3000 := by
    rw [pm.length_eq, List.length_map]
    omega
  refine wpAny_bind (wpAny_newList ?_ (by rw [sizeLine_eq]; omega))
  have hoL : (s1.heap.push (seqObj "list" vs.toArray 0)).get? s1.heap.objs.size = some (seqObj "list" vs.toArray 0) := Heap.get?_push_size _ rfl
  have pr : ∀ v ∈ vs, Srt.IsPair (s1.heap.push (seqObj "list" vs.toArray 0)) v (k v).1 (k v).2 := fun v hv => by
    obtain ⟨q, hm, rfl⟩ := List.mem_map.mp (pm.mem_iff.mp hv)
    exact (hp q hm).keeps fun b o e _ => Heap.get?_push_of_some _ (k1 b o e)
  refine wpAny_bind (wpAny_holding (wpAny_call_entry slot_list_sort ⟨_, hoL, rfl⟩ entry_list_sort (SrtO.list_sort_ord (s := { s1 with heap := s1.heap.push (seqObj "list" vs.toArray 0) }) (SrtO.swo_lex k) hoL (by rw [sizeLine_eq]; omega) (fun h2 => SrtO.pairs_sortableO (by omega) pr fun o e => ?_) fun out hs hb => ⟨_, rfl, ?_⟩) (args_list_sort _)))
  · cases hoL.symm.trans e
    intro z
    exact absurd (Value.type.inj z) (by decide)
  · refine wpAny_pure ⟨_, rfl, hq _ s1.heap.objs.size out (fun b u e => ?_) g1 o1 z1 (sortedHeap_at (vs := vs) (out := out.toArray) hoL) hs (hb.perm.trans pm)⟩
    have q := k1 b u e
    have hlt := Heap.lt_size q
    show (sortedHeap (s1.heap.push (seqObj "list" vs.toArray 0)) s1.heap.objs.size vs out.toArray).get? b = some u
    rw [sortedHeap_old (Nat.ne_of_lt hlt) (by rw [size_push']; exact Nat.lt_succ_of_lt hlt)]
    exact Heap.get?_push_of_some _ q
end
end TT

set_option Elab.async false
set_option maxRecDepth 100000
set_option maxHeartbeats 4000000
/-! sorted(set(xs)) as a rule of the hand layer. -/
namespace NB
open PySem PySem.Spec PyProof.Rows L2
/-- the addresses of the pairs, and what they hold -/
theorem pairs_of {H : Hp} : ∀ {xs : List V} {ps : List (Int × Int)} {us : List Value}, PL H xs ps → Vals xs us →
    ∃ ks : List (Addr × List Int), us = ks.map (fun z => Value.ref z.1) ∧ xs = ks.map (fun z => V.ref z.1) ∧ ks.map (·.2) = ps.map (fun p => [p.1, p.2]) ∧ ∀ z ∈ ks, H z.1 = some (.tup (z.2.map V.int))
  | _, _, _, .nil, .nil => ⟨[], rfl, rfl, rfl, fun z hz => nomatch hz⟩
  | _, _, _, .cons (b := p) hx hr, .cons r t => by
    obtain ⟨ks, e1, e2, e3, e4⟩ := pairs_of hr t
    obtain ⟨a, rfl, ha⟩ := hx
    cases r
    refine ⟨(a, [p.1, p.2]) :: ks, by rw [e1]; rfl, by rw [e2]; rfl, by rw [List.map_cons, List.map_cons, e3], fun z hz => ?_⟩
    rcases List.mem_cons.mp hz with e | hz
    · rw [e]
      exact ha
    · exact e4 z hz
def tSrtSet (K : PySem.W.Frag) (ta : TE) : TE := fun σ H Q => ta σ H fun x H1 => ∃ (l : Addr) (xs : List V) (ps : List (Int × Int)), x = .ref l ∧ SqL K H1 l xs ∧ PL H1 xs ps ∧ ps.Nodup ∧ xs.length ≤ 3000 ∧
  ∀ ys qs r, PL H1 ys qs → (qs.Pairwise fun p q => ¬ Lt q p) → qs.Perm ps → H1 r = none → Q (.ref r) (upd H1 r (.lst ys))
section
variable {X : Cx}
theorem pe_sortedSet {a : Expr} {ta : TE} {p p2 q pos : Pos} (hc : X.calm = true) (hg : Gl X "sorted") (hm : X.mg "sorted" = none) (hg2 : Gl X "set") (hm2 : X.mg "set" = none) (hu : X.A.units + 64 < cLine) (ha : PE X a ta)
    (na : starEach [a] X.env = (false, eval a X.env) :: starEach [] X.env := by rfl) : PE X (.Call (.Name "sorted" p) [.Call (.Name "set" p2) [a] [] q] [] pos) (tSrtSet X.K ta) := by
  refine ⟨fun pins s σ H Q I h => ?_⟩
  refine Call_ (ld_blt I hg hm (show PySem.bootBuiltins "sorted" = some (.builtin "sorted") by decide +kernel) ?_)
  refine PyProof.Rows.callWith_builtin1 (PyProof.Rows.args_cons ?_ rfl) rfl rfl
  refine Call_ (ld_blt I hg2 hm2 PyProof.Rows.boot_set ?_)
  refine PyProof.Rows.callWith_type1 (PyProof.Rows.args_cons (thn (ha.run pins s σ H _ I h) fun v s1 ⟨x, H1, I1, r1, q1⟩ => PyProof.Rows.args_nil ?_) na) na rfl
  obtain ⟨l, xs, ps, rfl, hq, hp, nd, hlen, fin⟩ := q1
  cases r1
  obtain ⟨its, rv, pl, hz⟩ := I1.list hq
  obtain ⟨ks, e1, e2, e3, e4⟩ := pairs_of hp rv
  have hkl : ks.length ≤ 3000 := by
    rw [e2, List.length_map] at hlen
    exact hlen
  have hnd : (ks.map (·.2)).Nodup := by
    rw [e3]
    refine List.pairwise_map.mpr (List.Pairwise.imp (fun {x y} hne e => hne ?_) nd)
    obtain ⟨x1, x2⟩ := x
    obtain ⟨y1, y2⟩ := y
    injection e with a1 a2
    injection a2 with a2 _
    cases a1
    cases a2
    rfl
  refine TT.call_set ks (I1.ok.hd hc) pl.isList (by rw [← e1]) (fun z hz => I1.isT (SqT.of (e4 z hz))) hkl hnd (by omega) fun h' tk L es ep t R pm kp => ?_
  refine PyProof.Rows.args_nil ?_
  have I2 : Inv X pins σ H1 { s1 with heap := h', toks := tk } := I1.kept fun b o e => kp b o e
  refine TT.sorted_set (k := fun u => keyOf H1 (backV u)) R (I2.ok.hd hc) (by rw [pm.length_eq]; exact hkl) (fun z hz => ?_) fun s' r out kp2 g o hr hat hs pm2 => ?_
  · have hz1 := pm.mem_iff.mp hz
    have ht := e4 z hz1
    have hIs := hp.mem (.ref z.1) (by rw [e2]; exact List.mem_map.mpr ⟨z, hz1, rfl⟩)
    obtain ⟨t1, et, ht1⟩ := hIs
    cases et
    obtain ⟨_, its2, rt, ob, ho, hcl, n, hd⟩ := I2.hok _ _ ht1
    obtain ⟨u1, u2, rfl, ri, rj⟩ := vals2 rt
    obtain ⟨k1, rfl⟩ := ri
    obtain ⟨k2, rfl⟩ := rj
    exact ⟨z.1, ob, k1, k2, n, rfl, ho, hcl, hd⟩
  · obtain ⟨c, hat⟩ := hat
    have pm3 : out.Perm its := by
      rw [e1]
      exact pm2.trans (pm.map _)
    have refs : ∀ u ∈ out, ∃ a, u = Value.ref a := fun u hu => by
      have := pm3.mem_iff.mp hu
      rw [e1] at this
      obtain ⟨z, _, rfl⟩ := List.mem_map.mp this
      exact ⟨_, rfl⟩
    have hperm : (out.map backV).Perm xs := by
      have : xs = its.map backV := by
        rw [e1, e2, List.map_map]
        rfl
      rw [this]
      exact pm3.map _
    have hn : H1 r = none := I2.hok.fresh hr
    have hl2 : (out.map backV).length ≤ sizeLine := by
      rw [hperm.length_eq]
      exact hz
    have J : Inv X pins σ (upd H1 r (.lst (out.map backV))) { ({ s1 with heap := h', toks := tk } : Shared) with heap := s'.heap, gens := s'.gens, drawn := s'.drawn, toks := s'.toks } :=
      I2.call (ch := []) (Un.laid kp2 hr hn) (I2.hok.laid kp2 hr ⟨hl2, out, c, vals_back refs, hat⟩) (by rw [g]; exact I2.bare) (fun _ z => nomatch z)
    have e : s' = { ({ s1 with heap := h', toks := tk } : Shared) with heap := s'.heap, gens := s'.gens, drawn := s'.drawn, toks := s'.toks } := by
      cases s'
      cases s1
      cases o
      rfl
    rw [e]
    have hm1 : ∀ x ∈ out.map backV, IsP H1 x (keyOf H1 x) := fun x hx => hp.mem x (hperm.mem_iff.mp hx)
    refine ⟨.ref r, _, J, rfl, fin _ _ r (PL.of_keys hm1) ?_ ?_ hn⟩
    · refine List.pairwise_map.mpr (List.Pairwise.imp (fun {x y} h => ?_) (SrtO.srtd_map (lt := ltP (keyOf H1)) (f := backV) hs))
      have h' := SrtO.lexB_no.mp h
      unfold Lt
      omega
    · rw [← hp.keys]
      exact hperm.map _
end
end NB

set_option Elab.async false
set_option maxRecDepth 100000
set_option maxHeartbeats 4000000
/-! Words for the hard numbers. -/
namespace NB
open PySem L2
theorem lt_nodup {ps : List (Int × Int)} (h : ps.Pairwise Lt) : ps.Nodup := List.Pairwise.imp (fun {x y} a e => by cases e; exact Lt.irrefl a) h
/-- all rows are twice as many as the high ones -/
theorem rows_twice {n : Int} {ps es : List (Int × Int)} (hn : 0 < n) (h : HRows n ps) (e : Rows n es) : es.length = 2 * ps.length := by
  have pm : es.Perm (ps ++ ps.map fun p : Int × Int => ((1 - p.1, p.2) : Int × Int)) := by
    refine (List.perm_ext_iff_of_nodup (lt_nodup e.srt) (whole_nodup h)).mpr fun x => ?_
    obtain ⟨f, l⟩ := x
    rw [e.mem, List.mem_append, h.mem]
    have lo := low_iff (f := f) (l := l) hn
    constructor
    · intro hr
      by_cases hf : 0 < f
      · exact .inl ⟨hr, hf⟩
      · refine .inr (List.mem_map.mpr ⟨(1 - f, l), (h.mem _ _).mpr (lo.mp ⟨hr, hf⟩), ?_⟩)
        show ((1 - (1 - f), l) : Int × Int) = (f, l)
        rw [show 1 - (1 - f) = f by omega]
    · rintro (⟨hr, _⟩ | hm)
      · exact hr
      · obtain ⟨⟨g, k⟩, hg, eg⟩ := List.mem_map.mp hm
        have e1 : 1 - g = f := congrArg Prod.fst eg
        have e2 : k = l := congrArg Prod.snd eg
        subst e1
        subst e2
        have := (h.mem _ _).mp hg
        exact (lo.mpr ⟨by rw [show 1 - (1 - g) = g by omega]; exact this.1, by omega⟩).1
  rw [pm.length_eq, List.length_append, List.length_map]
  omega
theorem row_long {n f l : Int} (h : IsRow n f l) : 0 < l - f + 1 ∧ rowOf n (l - f + 1) = some (f, l) := by
  have hL : 0 < l - f + 1 := by
    have := h.1
    omega
  exact ⟨hL, (rowOf_iff hL).mpr ⟨by omega, h⟩⟩
theorem row_sum {n f l : Int} (h1 : 1 ≤ n) (h2 : n ≤ 1000000) (h : IsRow n f l) : rowOf n (f + l) = some (1 - f, l) := by
  obtain ⟨a, _, _, _⟩ := isRow_small h1 h2 h
  refine (rowOf_iff a).mpr ⟨by omega, by omega, ?_⟩
  rw [show 1 - f + l = l - f + 1 by omega, show l - (1 - f) + 1 = f + l by omega, Int.mul_comm]
  exact h.2
theorem row_two {n : Int} (h1 : 1 ≤ n) : rowOf n (2 * n) = some (1 - n, n) := by
  refine (rowOf_iff (by omega)).mpr ⟨by omega, by omega, ?_⟩
  rw [show 1 - n + n = 1 by omega, show n - (1 - n) + 1 = 2 * n by omega, Int.one_mul]
/-- no length beyond n but 2 n -/
theorem row_none {n L : Int} (h1 : 1 ≤ n) (hL : n < L) (hne : L ≠ 2 * n) : rowOf n L = none := by
  refine (rowOf_none (by omega)).mpr fun f hr => ?_
  have e := hr.2
  rw [show f + L - 1 - f + 1 = L by omega] at e
  have hs : 0 < f + (f + L - 1) := Int.pos_of_mul_pos_left (b := L) (by omega) (by omega)
  by_cases h2 : f + (f + L - 1) = 1
  · rw [h2] at e
    omega
  · have := Int.mul_le_mul_of_nonneg_right (show 2 ≤ f + (f + L - 1) by omega) (show 0 ≤ L by omega)
    omega
/-! ### x in a list of pairs -/
theorem any_dat (p : Int × Int) : ∀ ps : List (Int × Int), ((dat ps).any fun z => PyData.eqv z (.tuple [.int p.1, .int p.2])) = decide (p ∈ ps)
  | [] => by simp [dat]
  | q :: r => by
    have ih := any_dat p r
    unfold dat at *
    rw [List.map_cons, List.any_cons, ih, eqv_p]
    by_cases e : q = p
    · simp [e]
    · have e' : ¬ p = q := fun z => e z.symm
      simp [e, e']
theorem any_none : ∀ ps : List (Int × Int), ((dat ps).any fun z => PyData.eqv z .none) = false
  | [] => rfl
  | q :: r => by
    have ih := any_none r
    unfold dat at *
    rw [List.map_cons, List.any_cons, ih]
    rfl
theorem rd_inP {K : PySem.W.Frag} {H : Hp} {x : V} {b : Addr} {p : Int × Int} {ps : List (Int × Int)} {Q : VK} (h1 : IsP H x p) (h2 : LP H b ps) (q : Q (.bl (decide (p ∈ ps))) H) : rInD K x (.ref b) H Q :=
  ⟨_, _, h1.dat, h2.dat, shaped_p p, shaped_dat ps, by rw [any_dat]; exact q⟩
theorem rd_inN {K : PySem.W.Frag} {H : Hp} {b : Addr} {ps : List (Int × Int)} {Q : VK} (h2 : LP H b ps) (q : Q (.bl false) H) : rInD K .non (.ref b) H Q :=
  ⟨_, _, .non, h2.dat, by decide, shaped_dat ps, by rw [any_none]; exact q⟩
theorem r65 {k : Nat} {A : Around} (r : Room k A) : A.units + 65 < cLine := by
  have := r.un
  omega
theorem small_sum {n : Nat} (h : n ≤ 90000) : n ≤ sizeLine := Nat.le_trans h (by decide)
theorem sorted_same {ps qs : List (Int × Int)} (h : ps.Pairwise Lt) (hs : qs.Pairwise fun p q => ¬ Lt q p) (hp : qs.Perm ps) : qs = ps :=
  uniq (strict_of hs (hp.nodup_iff.mpr (lt_nodup h))) h fun x => hp.mem_iff
theorem LP.len {H : Hp} {a : Addr} {ps : List (Int × Int)} (h : LP H a ps) : ∃ xs, H a = some (.lst xs) ∧ PL H xs ps ∧ xs.length = ps.length := let ⟨xs, g, p⟩ := h; ⟨xs, g, p, p.length⟩
/-- a written list of pairs -/
def LitP (t : TA) (σ : L2.St) (ps : List (Int × Int)) : Prop := ∀ (H : Hp) (Q : List V → Hp → Prop), (∀ xs H', Same H H' → PL H' xs ps → Q xs H') → t σ H Q
theorem lit_nil {σ : L2.St} : LitP tNil σ [] := fun H Q h => h [] H (Same.refl H) .nil
theorem lit_cons {σ : L2.St} {ta tb : TE} {tr : TA} {ps : List (Int × Int)} (a b : Int) (ha : ∀ (H : Hp) (Qa : VK), Qa (.int a) H → ta σ H Qa) (hb : ∀ (H : Hp) (Qb : VK), Qb (.int b) H → tb σ H Qb) (hr : LitP tr σ ps) : LitP (tCons (tTup (tCons ta (tCons tb tNil))) tr) σ ((a, b) :: ps) := fun H Q h =>
  ha H _ (hb H _ ⟨(by show 2 ≤ sizeLine; decide), fun p np => hr _ _ fun xs H' s k => h (.ref p :: xs) H' ((Same.new np).trans s) (.cons ⟨p, rfl, s _ _ upd_same⟩ k)⟩)
theorem lst_lit {σ : L2.St} {H : Hp} {Q : VK} {t : TA} {ps : List (Int × Int)} (h : LitP t σ ps) (hl : ps.length ≤ 90000) (q : ∀ p xs H', Same H H' → H' p = some (.lst xs) → PL H' xs ps → Q (.ref p) H') : tLst t σ H Q :=
  h H _ fun xs H' s k => ⟨by rw [k.length]; exact small_sum hl, fun p np => q p xs _ (s.trans (Same.new np)) upd_same (k.same (Same.new np))⟩
/-! ### promises -/
def spPairs : Sp := fun vs H Q _ => ∃ (a : Addr) (ps : List (Int × Int)), vs = [.ref a] ∧ LP H a ps ∧ Q (.bl true) H
def spNum : Sp := fun vs H Q _ => ∃ n : Int, vs = [.int n] ∧ 1 ≤ n ∧ n ≤ 1000000 ∧ ∀ H', Same H H' → Q (.bl true) H'
def spKnown : Sp := fun vs H Q _ => ∃ k : Int, vs = [.int k] ∧ 0 ≤ k ∧ ∀ H', Same H H' → Q (.bl true) H'
end NB

set_option Elab.async false
set_option maxRecDepth 100000
namespace NB
open PySem L2
def topS (i : Nat) : Stmt := PySem.Challenge.pw_neighboursums_k07_whole_hard.main.body.getD i (.Pass ⟨0, 0, 0, 0⟩)
end NB

set_option Elab.async false
set_option maxRecDepth 100000
set_option maxHeartbeats 4000000
set_option linter.unusedVariables false
namespace NB
open PySem L2
section
variable {P : Program} {w : World} {K : PySem.W.Frag} {mg : Str → Option Value} {base : Heap}
/-! ### is_whole, check_number -/
abbrev s_is_whole : Stmt := topS 7
theorem sc_is_whole : FnScope ["thing"] ["thing"] (defScope s_is_whole) := ⟨rfl, rfl, rfl, by decide +kernel, rfl, by decide +kernel, by decide +kernel⟩
theorem ok_is_whole {f : Addr} {fd : FuncData} (F : Fun K "is_whole" "is_whole" s_is_whole f fd) (B : Bt mg) : FnOk P w K mg base CX0 1 f fd ["thing"] spWhole := by
  refine F.ok sc_is_whole (fun vs H Q E h => ?_) (fun cdv A outer s H vs Q E hr h => ?_)
  · obtain ⟨i, rfl, _⟩ := h
    rfl
  · obtain ⟨i, rfl, q⟩ := h
    refine ⟨_, (pss_one (ps_ret (pe_and (pe_callB call_isi (by rfl) B.isinstance_ (by decide +kernel) (pa_cons (pv 0) (pa_cons (pe_bltn (v := .ty "int") (by rfl) B.int_ (by decide +kernel) rfl) pa_nil))) (pe_one (pe_not (pe_callB call_isi (by rfl) B.isinstance_ (by decide +kernel) (pa_cons (pv 0) (pa_cons (pe_bltn (v := .ty "bool") (by rfl) B.bool_ (by decide +kernel) rfl) pa_nil)))))))), ?_⟩
    refine ⟨_, rfl, _, _, _, _, true, rfl, .ty "int", .base (.int i), kit_ty (by decide +kernel), true, rfl, iteT ?_⟩
    exact ⟨_, rfl, _, _, _, _, false, rfl, .ty "bool", .base (.int i), kit_ty (by decide +kernel), false, rfl, q⟩
end
end NB

set_option Elab.async false
set_option maxRecDepth 100000
set_option maxHeartbeats 4000000
set_option linter.unusedVariables false
namespace NB
open PySem L2
section
variable {P : Program} {w : World} {K : PySem.W.Frag} {mg : Str → Option Value} {base : Heap}
abbrev s_check_number : Stmt := topS 8
theorem sc_check_number : FnScope ["number"] ["number"] (defScope s_check_number) := ⟨rfl, rfl, rfl, by decide +kernel, rfl, by decide +kernel, by decide +kernel⟩
theorem ok_check_number {f : Addr} {fd : FuncData} (F : Fun K "check_number" "check_number" s_check_number f fd) (B : Bt mg) {t : Tok} (m_GREATEST : mg "GREATEST" = some (.int 1000000 t)) (C_is_whole : Callee P w K mg base 1 "is_whole" ["thing"] spWhole) : FnOk P w K mg base CX0 2 f fd ["number"] spCheck := by
  refine F.ok sc_check_number (fun vs H Q E h => ?_) (fun cdv A outer s H vs Q E hr h => ?_)
  · obtain ⟨i, rfl, _⟩ := h
    rfl
  · obtain ⟨i, rfl, h1, h2, q⟩ := h
    obtain ⟨f_is_whole, fd_is_whole, m_is_whole, k_is_whole, b_is_whole, G_is_whole⟩ := C_is_whole
    refine ⟨_, (pss_one (ps_if (PW.pt (pw_or (pt_not (pt_val (pe_call G_is_whole (hr.mono (by decide)) rfl m_is_whole k_is_whole b_is_whole .nil pass0 (pa_cons (pv 0) pa_nil)))) (pw_or1 (pt_not (pt_chain op_le op_le pe_int (pv 0) (pe_glob (v := .int 1000000) rfl m_GREATEST ⟨_, rfl⟩)))))) (pss_one ps_never) pss_nil)), ?_⟩
    refine ⟨_, rfl, i, rfl, _, rfl, iteF ?_⟩
    refine ⟨_, rfl, _, _, rfl, rfl, _, rfl, ?_⟩
    rw [decide_eq_true h1]
    refine iteT ?_
    refine ⟨_, _, rfl, rfl, _, rfl, ?_⟩
    rw [decide_eq_true h2]
    exact iteF q
end
end NB

set_option Elab.async false
set_option maxRecDepth 100000
set_option maxHeartbeats 4000000
set_option linter.unusedVariables false
namespace NB
open PySem L2
section
variable {P : Program} {w : World} {K : PySem.W.Frag} {mg : Str → Option Value} {base : Heap}
/-! ### row_of -/
abbrev s_row_of : Stmt := topS 10
theorem sc_row_of : FnScope ["number", "length", "first"] ["number", "length"] (defScope s_row_of) := ⟨rfl, rfl, rfl, by decide +kernel, rfl, by decide +kernel, by decide +kernel⟩
theorem ok_row_of {f : Addr} {fd : FuncData} (F : Fun K "row_of" "row_of" s_row_of f fd) (B : Bt mg) : FnOk P w K mg base CX0 1 f fd ["number", "length"] spRow := by
  refine F.ok sc_row_of (fun vs H Q E h => ?_) (fun cdv A outer s H vs Q E hr h => ?_)
  · obtain ⟨n, L, rfl, _⟩ := h
    rfl
  · obtain ⟨n, L, rfl, hn, hn2, hL, hb, q⟩ := h
    refine ⟨_, (pss_cons (ps_set (i := 2) sc_row_of.nd rfl (Or.inl rfl) (pe_op op_sub (pv 0) (pe_op op_fdiv (pe_op op_mulX (pv 1) (pe_op op_sub (pv 1) pe_int)) pe_int)))
      (pss_cons (ps_if (pt_cmpR op_ne (pe_op op_mod (pv 2) (pv 1)) pe_int (nomark _)) (pss_one (ps_ret pe_non)) pss_nil)
      (pss_cons (ps_set (i := 2) sc_row_of.nd rfl (Or.inl rfl) (pe_op op_fdivW (pv 2) (pv 1)))
      (pss_one (ps_ret (pe_tup (pa_cons (pv 2) (pa_cons (pe_op op_sub (pe_op op_add (pv 2) (pv 1)) pe_int) pa_nil)))))))), ?_⟩
    refine ⟨_, rfl, _, rfl, _, rfl, _, _, rfl, rfl, _, _, rfl, rfl, ?c1, _, _, rfl, rfl, ⟨by decide, by decide⟩, _, _, rfl, rfl, ?_⟩
    case c1 =>
      have h1 := PySem.intBits_sub_le hb (show ib 1 ≤ 1 by decide)
      show (ib L : Int) + (ib (L - 1) : Int) ≤ 134217728
      have h2 : ib (L - 1) ≤ 2000001 := Nat.le_trans h1 (by decide)
      omega
    refine ⟨_, rfl, _, rfl, _, _, rfl, rfl, (show 0 < L by omega), rfl, _, rfl, ?_⟩
    by_cases hd : (n - L * (L - 1) / 2) % L = 0
    · have e : rowOf n L = some ((n - L * (L - 1) / 2) / L, (n - L * (L - 1) / 2) / L + L - 1) := by unfold rowOf; rw [if_pos hd]
      have hle : L ≤ 2000000 := by
        have h := ((rowOf_iff (L := L) (by omega)).mp e).2.2
        generalize (n - L * (L - 1) / 2) / L = f at h
        have e2 : f + L - 1 - f + 1 = L := by omega
        rw [e2] at h
        exact Int.le_trans (Int.le_of_dvd (show 0 < 2 * n by omega) ⟨f + (f + L - 1), by rw [Int.mul_comm L]; exact h.symm⟩) (by omega)
      refine iteNS (congrArg V.int hd) ?_
      refine ⟨_, rfl, _, rfl, _, _, rfl, rfl, wide_div (b := 64) (by omega) (by omega) (by decide) (by decide), ?_⟩
      refine ⟨_, rfl, _, rfl, _, rfl, _, _, rfl, rfl, _, _, rfl, rfl, (by show 2 ≤ sizeLine; decide), fun p np => ?_⟩
      exact q (.ref p) _ (Same.new np) (by rw [e]; exact ⟨p, rfl, upd_same⟩)
    · have e : rowOf n L = none := by unfold rowOf; rw [if_neg hd]
      exact iteNN (fun z => hd (V.int.inj z)) (q .non _ (Same.refl _) (by rw [e]; rfl))
end
end NB

set_option Elab.async false
set_option maxRecDepth 100000
set_option maxHeartbeats 4000000
set_option linter.unusedVariables false
namespace NB
open PySem L2
section
variable {P : Program} {w : World} {K : PySem.W.Frag} {mg : Str → Option Value} {base : Heap}
/-! ### parts_of -/
abbrev s_parts_of : Stmt := topS 9
theorem sc_parts_of : FnScope ["number", "low", "high", "part"] ["number"] (defScope s_parts_of) := ⟨rfl, rfl, rfl, by decide +kernel, rfl, by decide +kernel, by decide +kernel⟩
theorem ok_parts_of {f : Addr} {fd : FuncData} (F : Fun K "parts_of" "parts_of" s_parts_of f fd) (B : Bt mg) : FnOk P w K mg base CX0 1 f fd ["number"] spParts := by
  refine F.ok sc_parts_of (fun vs H Q E h => ?_) (fun cdv A outer s H vs Q E hr h => ?_)
  · obtain ⟨i, rfl, _⟩ := h
    rfl
  · obtain ⟨n, rfl, hn, hn2, q⟩ := h
    refine ⟨_, (pss_cons (ps_par3 (i := 1) (j := 2) (l := 3) rfl sc_parts_of.nd rfl rfl rfl (by decide) (by decide) (by decide) rfl rfl rfl (pa_cons (pe_lst pa_nil) (pa_cons (pe_lst pa_nil) (pa_cons pe_int pa_nil))) (by rfl))
      (pss_cons (ps_while PassesOwn.never (pt_cmpR op_le (pe_op op_mul (pv 3) (pv 3)) (pv 0) (nomark _))
        (pss_cons (ps_if (pt_cmpR op_eq (pe_op op_mod (pv 0) (pv 3)) pe_int (nomark _)) (pss_cons (ps_expr (pe_bm PySem.F.plainAttrs_list PySem.F.slot_list_append PySem.F.type_list_append mt_append (pv 1) (pa_cons (pv 3) pa_nil)))
          (pss_one (ps_if (pt_cmpR op_lt (pe_op op_mul (pv 3) (pv 3)) (pv 0) (nomark _)) (pss_one (ps_expr (pe_bm PySem.F.plainAttrs_list PySem.F.slot_list_append PySem.F.type_list_append mt_append (pv 2) (pa_cons (pe_op op_fdivW (pv 0) (pv 3)) pa_nil)))) pss_nil))) pss_nil)
        (pss_one (ps_set (i := 3) sc_parts_of.nd rfl (Or.inl rfl) (pe_op op_add (pv 3) pe_int)))))
      (pss_one (ps_ret (pe_op op_cat (pv 1) (pe_revL (pv 2))))))), ?_⟩
    refine ⟨(by show 0 ≤ sizeLine; decide), fun p1 np1 => ⟨(by show 0 ≤ sizeLine; decide), fun p2 np2 => ⟨_, _, _, rfl, ?_⟩⟩⟩
    have n12 : p2 ≠ p1 := fun e => by subst e; rw [upd_same] at np2; cases np2
    have np2' : H p2 = none := by rw [upd_ne n12] at np2; exact np2
    refine while_nat 1500 (fun k σ H' => σ = [some (.int n), some (.ref p1), some (.ref p2), some (.int ((k + 1 : Nat) : Int))] ∧ (k : Int) * k ≤ n ∧ Same H H' ∧ H' p1 = some (.lst ((low n k).map V.int)) ∧ H' p2 = some (.lst ((high n k).map V.int))) ⟨rfl, by omega, (Same.new np1).trans (Same.new np2), by rw [upd_ne n12.symm, upd_same]; rfl, upd_same⟩ ?_
    rintro k m σ H' e ⟨rfl, hk, hS, h1, h2⟩
    have kb : k < 1500 := by
      refine Decidable.byContradiction fun hc => ?_
      have : (1500 : Int) * 1500 ≤ (k : Int) * k := Int.mul_le_mul (by omega) (by omega) (by omega) (by omega)
      omega
    refine ⟨_, rfl, _, rfl, _, _, rfl, rfl, .inl ⟨by omega, by omega⟩, _, rfl, _, _, rfl, rfl, _, rfl, ?_⟩
    refine ite2 (fun ht => ?_) fun ht => ?_
    · have ht := of_decide_eq_true ht
      refine ⟨_, turn_nat _ e kb, ?_⟩
      -- if number % part == 0
      refine ⟨_, rfl, _, rfl, _, _, rfl, rfl, by omega, rfl, _, rfl, ?_⟩
      have sl := low_len (n := n) (k := k)
      have sh := high_len (n := n) (k := k)
      have h12 : ∀ o, (upd H' p1 o) p2 = some (.lst ((high n k).map V.int)) := fun o => by rw [upd_ne n12]; exact h2
      refine ite2 (fun hd => ?_) fun hd => ?_
      · have hd : n % ((k + 1 : Nat) : Int) = 0 := by simpa using of_decide_eq_true hd
        have el : low n (k + 1) = low n k ++ [((k + 1 : Nat) : Int)] := by rw [low, if_pos hd]
        refine ⟨_, rfl, .inl ⟨rfl, _, SqL.of h1⟩, _, rfl, p1, _, _, rfl, rfl, h1, small1000' (by rw [List.length_map]; omega), ?_⟩
        refine ⟨_, rfl, _, rfl, _, _, rfl, rfl, .inl ⟨by omega, by omega⟩, _, rfl, _, _, rfl, rfl, _, rfl, ?_⟩
        refine ite2 (fun hq => ?_) fun hq => ?_
        · have hq := of_decide_eq_true hq
          have eh : high n (k + 1) = high n k ++ [n / ((k + 1 : Nat) : Int)] := by rw [high, if_pos ⟨hd, hq⟩]
          refine ⟨_, rfl, .inl ⟨rfl, _, SqL.of (h12 _)⟩, _, rfl, _, rfl, _, _, rfl, rfl, wide_div (b := 64) (by omega) (by omega) (by decide) (by decide), p2, _, _, rfl, rfl, h12 _, small1000' (by rw [List.length_map]; omega), ?_⟩
          refine ⟨_, rfl, _, _, rfl, rfl, ?_⟩
          refine ⟨rfl, ht, Same.mut (Same.mut hS np1) np2', ?_, ?_⟩
          · rw [upd_ne n12.symm, upd_same, el, List.map_append]
            rfl
          · rw [upd_same, eh, List.map_append]
            rfl
        · have hq : ¬ (((k + 1 : Nat) : Int) * ((k + 1 : Nat) : Int) < n) := fun z => hq (decide_eq_true z)
          have eh : high n (k + 1) = high n k := by rw [high, if_neg fun z => hq z.2]
          refine ⟨_, rfl, _, _, rfl, rfl, ?_⟩
          refine ⟨rfl, ht, Same.mut hS np1, ?_, ?_⟩
          · rw [upd_same, el, List.map_append]
            rfl
          · rw [upd_ne n12, eh]
            exact h2
      · have hd : ¬ n % ((k + 1 : Nat) : Int) = 0 := fun z => hd (decide_eq_true (congrArg V.int z))
        refine ⟨_, rfl, _, _, rfl, rfl, ?_⟩
        refine ⟨rfl, ht, hS, ?_, ?_⟩
        · rw [h1, low, if_neg hd]
        · rw [h2, high, if_neg fun z => hd z.1]
    · have ht : ¬ (((k + 1 : Nat) : Int) * ((k + 1 : Nat) : Int) ≤ n) := fun z => ht (decide_eq_true z)
      have ec : ((k + 1 : Nat) : Int) = (k : Int) + 1 := by omega
      rw [ec] at ht
      refine ⟨_, rfl, _, rfl, p2, _, rfl, SqL.of h2, fun p3 np3 => ?_⟩
      have n31 : p1 ≠ p3 := ne_of_none h1 np3
      refine ⟨p1, p3, _, _, rfl, rfl, by rw [upd_ne n31]; exact h1, upd_same, ?_, fun p4 np4 => ?_⟩
      · rw [List.length_reverse, List.length_map, List.length_map]
        have sl := low_len (n := n) (k := k)
        have sh := high_len (n := n) (k := k)
        exact Nat.le_of_lt (small1000' (by omega))
      · have ok := parts_ok hn hk (by omega)
        refine q _ p4 _ ok ?_ ((hS.trans (Same.new np3)).trans (Same.new np4)) ((hS.trans (Same.new np3)).free np4) ?_
        · have := parts_len (n := n) (k := k)
          omega
        · rw [upd_same]
          unfold parts
          rw [List.map_append, List.map_reverse]
/-! ### rows_of -/
abbrev s_rows_of : Stmt := topS 11
theorem sc_rows_of : FnScope ["number", "found", "length", "row"] ["number"] (defScope s_rows_of) := ⟨rfl, rfl, rfl, by decide +kernel, rfl, by decide +kernel, by decide +kernel⟩
theorem ok_rows_of {f : Addr} {fd : FuncData} (F : Fun K "rows_of" "rows_of" s_rows_of f fd) (B : Bt mg) (C_parts_of : Callee P w K mg base 1 "parts_of" ["number"] spParts) (C_row_of : Callee P w K mg base 1 "row_of" ["number", "length"] spRow) : FnOk P w K mg base CX0 2 f fd ["number"] spRows := by
  refine F.ok sc_rows_of (fun vs H Q E h => ?_) (fun cdv A outer s H vs Q E hr h => ?_)
  · obtain ⟨n, rfl, _⟩ := h
    rfl
  · obtain ⟨n, rfl, hn, hn2, q⟩ := h
    obtain ⟨f_parts_of, fd_parts_of, m_parts_of, k_parts_of, b_parts_of, G_parts_of⟩ := C_parts_of
    obtain ⟨f_row_of, fd_row_of, m_row_of, k_row_of, b_row_of, G_row_of⟩ := C_row_of
    refine ⟨_, (pss_cons (ps_set (i := 1) sc_rows_of.nd rfl (Or.inl rfl) (pe_lst pa_nil))
      (pss_cons (ps_for PassesOwn.never rfl (pi_list (pe_call G_parts_of (hr.mono (by decide)) rfl m_parts_of k_parts_of b_parts_of .nil pass0 (pa_cons (pe_op op_mul pe_int (pv 0)) pa_nil))) (pg_name (i := 2) sc_rows_of.nd rfl (.inl rfl))
        (pss_cons (ps_set (i := 3) sc_rows_of.nd rfl (Or.inl rfl) (pe_call G_row_of (hr.mono (by decide)) rfl m_row_of k_row_of b_row_of .nil pass0 (pa_cons (pv 0) (pa_cons (pv 2) pa_nil))))
        (pss_one (ps_if (pt_cmpR op_notN (pv 3) pe_non (nomark _)) (pss_one (ps_expr (pe_bm PySem.F.plainAttrs_list PySem.F.slot_list_append PySem.F.type_list_append mt_append (pv 1) (pa_cons (pv 3) pa_nil)))) pss_nil))))
      (pss_one (ps_ret (pe_callB cr_sortedPO (by rfl) B.sorted_ (by decide +kernel) (pa_cons (pv 1) pa_nil)))))), ?_⟩
    refine ⟨(by show 0 ≤ sizeLine; decide), fun p1 np1 => ?_⟩
    refine ⟨_, rfl, _, _, rfl, rfl, .inl ⟨by decide, by decide⟩, 2 * n, rfl, by omega, by omega, fun ds p2 H2 hP hl s2 np2 h2 => ?_⟩
    have h1 : H2 p1 = some (.lst []) := s2 _ _ upd_same
    have s02 : Same H H2 := (Same.new np1).trans s2
    have n12 : p2 ≠ p1 := ne_new np2 (by rw [upd_same]; exact fun z => nomatch z) |>.symm
    refine ⟨p2, rfl, ⟨_, SqL.of h2⟩, for_list (xs := ds.map V.int) (fun i σ H' => ∃ x1 x2 xs, σ = [some (.int n), some (.ref p1), x1, x2] ∧ Same H H' ∧ H' p2 = some (.lst (ds.map V.int)) ∧ H' p1 = some (.lst xs) ∧ PL H' xs ((ds.take i).filterMap (rowOf n)) ∧ xs.length ≤ i) ?h0 ?hl ?hs ?hd⟩
    case h0 => exact ⟨_, _, [], rfl, s02, h2, h1, .nil, Nat.le_refl _⟩
    case hl =>
      rintro i σ H' _ ⟨_, _, _, rfl, _, h, _⟩
      exact SqL.of h
    case hs =>
      rintro i x σ H' hx ⟨x1, x2, xs, rfl, hS, g2, g1, hpl, hlen⟩
      have hi : i < ds.length := by
        have := (List.getElem?_eq_some_iff.mp hx).1
        rwa [List.length_map] at this
      have ex : x = .int ds[i] := by
        rw [List.getElem?_map, List.getElem?_eq_getElem hi] at hx
        exact (Option.some.inj hx).symm
      subst ex
      have hd0 := (hP.mem ds[i]).mp (List.getElem_mem hi)
      have htk : ds.take (i + 1) = ds.take i ++ [ds[i]] := by rw [List.take_add_one, List.getElem?_eq_getElem hi]; rfl
      have hle : ds[i] ≤ 2 * n := Int.le_of_dvd (by omega) (Int.dvd_of_emod_eq_zero hd0.2)
      refine ⟨_, rfl, _, rfl, n, ds[i], rfl, hn, hn2, by omega, ?_, fun x H3 s3 hx3 => ?_⟩
      · exact Nat.le_trans (ib_of (m := 64) (by omega)) (by decide)
      · have g13 := s3 _ _ g1
        cases hso : rowOf n ds[i] with
        | none =>
          rw [hso] at hx3
          cases (show x = .non from hx3)
          refine ⟨_, rfl, rfl, _, rfl, iteNS rfl ?_⟩
          refine ⟨_, _, xs, rfl, hS.trans s3, s3 _ _ g2, g13, ?_, by omega⟩
          rw [htk, List.filterMap_append, List.filterMap_cons, hso]
          simpa using hpl.same s3
        | some fl =>
          rw [hso] at hx3
          obtain ⟨p, rfl, h3⟩ := (show IsP H3 x fl from hx3)
          refine ⟨_, rfl, rfl, _, rfl, ?_⟩
          refine itB rfl ?_
          refine ⟨_, rfl, .inl ⟨rfl, _, SqL.of g13⟩, _, rfl, p1, _, _, rfl, rfl, g13, small1000' (by omega), ?_⟩
          refine ⟨_, _, _, rfl, Same.mut (hS.trans s3) np1, by rw [upd_ne n12]; exact s3 _ _ g2, upd_same, ?_, ?_⟩
          · have same : ∀ x q, IsP H3 x q → IsP (upd H3 p1 (.lst (xs ++ [.ref p]))) x q := fun x q ⟨t, e, h⟩ => ⟨t, e, by rw [upd_ne (ne_of h g13 (fun z => nomatch z))]; exact h⟩
            rw [htk, List.filterMap_append, List.filterMap_cons, hso]
            exact PL.append (Paired.mapP (hpl.same s3) same) (.cons (same _ _ ⟨p, rfl, h3⟩) .nil)
          · rw [List.length_append]
            simp only [List.length_cons, List.length_nil]
            omega
    case hd =>
      rintro σ H' ⟨x1, x2, xs, rfl, hS, g2, g1, hpl, hlen⟩
      rw [List.length_map] at hlen
      rw [List.length_map, List.take_length] at hpl
      refine ⟨_, rfl, ?_⟩
      refine rd_sorted (SqL.of g1) hpl fun ys qs p hq hs hp np => ?_
      refine q qs p _ (rows_ok hP hs hp) ?_ (hS.trans (Same.new np)) (hS.free np) ⟨ys, upd_same, hq.same (Same.new np)⟩
      rw [hp.length_eq, ← hpl.length]
      omega
end
end NB

set_option Elab.async false
set_option maxRecDepth 100000
set_option maxHeartbeats 4000000
set_option linter.unusedVariables false
namespace NB
open PySem L2
section
variable {P : Program} {w : World} {K : PySem.W.Frag} {mg : Str → Option Value} {base : Heap}
abbrev s_high_rows : Stmt := topS 13
theorem sc_high_rows : FnScope ["number", "row"] ["number"] (defScope s_high_rows) := ⟨rfl, rfl, rfl, by decide +kernel, rfl, by decide +kernel, by decide +kernel⟩
theorem ok_high_rows {f : Addr} {fd : FuncData} (F : Fun K "high_rows" "high_rows" s_high_rows f fd) (C_check_number : Callee P w K mg base 2 "check_number" ["number"] spCheck) (C_rows_of : Callee P w K mg base 2 "rows_of" ["number"] spRows) : FnOk P w K mg base CX0 3 f fd ["number"] spHigh := by
  refine F.ok sc_high_rows (fun vs H Q E h => ?_) (fun cdv A outer s H vs Q E hr h => ?_)
  · obtain ⟨n, rfl, _⟩ := h
    rfl
  · obtain ⟨n, rfl, hn, hn2, q⟩ := h
    obtain ⟨f_check_number, fd_check_number, m_check_number, k_check_number, b_check_number, G_check_number⟩ := C_check_number
    obtain ⟨f_rows_of, fd_rows_of, m_rows_of, k_rows_of, b_rows_of, G_rows_of⟩ := C_rows_of
    refine ⟨_, (pss_cons (ps_expr (pe_call G_check_number (hr.mono (by decide)) rfl m_check_number k_check_number b_check_number .nil pass0 (pa_cons (pv 0) pa_nil)))
      (pss_one (ps_ret (pe_lc (g := (gName 1)) (own := [("row", 1)]) rfl sc_high_rows.nd (pi_list (pe_call G_rows_of (hr.mono (by decide)) rfl m_rows_of k_rows_of b_rows_of .nil pass0 (pa_cons (pv 0) pa_nil))) (blkOk_by (N := ["number", "row"]) (sc := defScope s_high_rows) (by decide +kernel)) (fun _ _ _ _ _ => (pg_name (i := 1) sc_high_rows.nd rfl (.inl rfl))) (fun _ _ _ _ _ => (pts_one (pt_cmpR op_gt (pe_ix (r := rIxT K) ix_tup (pv 1) pe_int (fun _ _ => rfl)) pe_int (nomark _)))) (fun _ _ _ _ _ => (pv 1)))))), ?_⟩
    refine ⟨_, rfl, n, rfl, hn, hn2, _, rfl, n, rfl, hn, hn2, fun ps p H1 hR hl s1 np h1 => ?_⟩
    obtain ⟨xs, g, hp⟩ := h1
    refine ⟨p, rfl, ⟨xs, SqL.of g⟩, fun D nD => ?_⟩
    have npD : p ≠ D := ne_of_none g nD
    refine lc_list (xs := xs) (fun i H' => Same H H' ∧ H' p = some (.lst xs) ∧ PL H' xs ps ∧ ∃ acc, H' D = some (.lst acc) ∧ PL H' acc ((ps.take i).filter fun p => decide (0 < p.1)) ∧ acc.length ≤ i) ?h0 ?hl ?hs ?hd
    case h0 => exact ⟨s1.trans (Same.new nD), by rw [upd_ne npD]; exact g, hp.same (Same.new nD), [], upd_same, .nil, Nat.le_refl _⟩
    case hl =>
      rintro i H' _ ⟨_, h, _⟩
      exact SqL.of h
    case hs =>
      rintro i x H' hx ⟨hS, g1, gp, acc, gD, ga, hlen⟩
      obtain ⟨⟨a, b⟩, hpi, t, rfl, ht⟩ := gp.get hx
      have hi : i < xs.length := (List.getElem?_eq_some_iff.mp hx).1
      have htk : ps.take (i + 1) = ps.take i ++ [(a, b)] := by rw [List.take_add_one, hpi]; rfl
      refine ⟨rfl, ?_⟩
      refine ⟨_, rfl, t, _, 0, _, rfl, rfl, SqT.of ht, atI_nat (j := 0) rfl, _, _, rfl, rfl, _, rfl, ?_⟩
      have same : ∀ o x q, IsP H' x q → IsP (upd H' D (.lst o)) x q := fun o x q ⟨t, e, h⟩ => ⟨t, e, by rw [upd_ne (ne_of h gD (fun z => nomatch z))]; exact h⟩
      refine ite2 (fun hc => ?_) fun hc => ?_
      · have hc := of_decide_eq_true hc
        refine ⟨_, rfl, acc, gD, small1000' ?_, ?_⟩
        · have := hp.length
          omega
        · refine ⟨Same.mut hS (s1.free nD), by rw [upd_ne npD]; exact g1, Paired.mapP gp (same _), _, upd_same, ?_, ?_⟩
          · have e1 : ([(a, b)] : List (Int × Int)).filter (fun p => decide (0 < p.1)) = [(a, b)] := by simpa using hc
            rw [htk, List.filter_append, e1]
            exact PL.append (Paired.mapP ga (same _)) (.cons (same _ _ _ ⟨t, rfl, ht⟩) .nil)
          · rw [List.length_append]
            simp only [List.length_cons, List.length_nil]
            omega
      · have hc : ¬ 0 < a := fun z => hc (decide_eq_true z)
        refine ⟨hS, g1, gp, acc, gD, ?_, by omega⟩
        have e1 : ([(a, b)] : List (Int × Int)).filter (fun p => decide (0 < p.1)) = [] := by simpa using hc
        rw [htk, List.filter_append, e1, List.append_nil]
        exact ga
    case hd =>
      rintro H' ⟨hS, g1, gp, acc, gD, ga, hlen⟩
      have el := hp.length
      rw [el, List.take_length] at ga
      exact q _ D H' hR.high (by have := ga.length; omega) hS (s1.free nD) ⟨acc, gD, ga⟩
end
end NB

set_option Elab.async false
set_option maxRecDepth 100000
set_option maxHeartbeats 4000000
set_option linter.unusedVariables false
namespace NB
open PySem L2
section
variable {P : Program} {w : World} {K : PySem.W.Frag} {mg : Str → Option Value} {base : Heap}
abbrev s_all_rows : Stmt := topS 12
theorem sc_all_rows : FnScope ["number"] ["number"] (defScope s_all_rows) := ⟨rfl, rfl, rfl, by decide +kernel, rfl, by decide +kernel, by decide +kernel⟩
theorem ok_all_rows {f : Addr} {fd : FuncData} (F : Fun K "all_rows" "all_rows" s_all_rows f fd) (C_check_number : Callee P w K mg base 2 "check_number" ["number"] spCheck) (C_rows_of : Callee P w K mg base 2 "rows_of" ["number"] spRows) : FnOk P w K mg base CX0 3 f fd ["number"] spRows := by
  refine F.ok sc_all_rows (fun vs H Q E h => ?_) (fun cdv A outer s H vs Q E hr h => ?_)
  · obtain ⟨n, rfl, _⟩ := h
    rfl
  · obtain ⟨n, rfl, hn, hn2, q⟩ := h
    obtain ⟨f_check_number, fd_check_number, m_check_number, k_check_number, b_check_number, G_check_number⟩ := C_check_number
    obtain ⟨f_rows_of, fd_rows_of, m_rows_of, k_rows_of, b_rows_of, G_rows_of⟩ := C_rows_of
    refine ⟨_, (pss_cons (ps_expr (pe_call G_check_number (hr.mono (by decide)) rfl m_check_number k_check_number b_check_number .nil pass0 (pa_cons (pv 0) pa_nil)))
      (pss_one (ps_ret (pe_call G_rows_of (hr.mono (by decide)) rfl m_rows_of k_rows_of b_rows_of .nil pass0 (pa_cons (pv 0) pa_nil))))), ?_⟩
    exact ⟨_, rfl, n, rfl, hn, hn2, _, rfl, n, rfl, hn, hn2, q⟩
end
end NB

set_option Elab.async false
set_option maxRecDepth 100000
set_option maxHeartbeats 4000000
set_option linter.unusedVariables false
namespace NB
open PySem L2
section
variable {P : Program} {w : World} {K : PySem.W.Frag} {mg : Str → Option Value} {base : Heap}
abbrev s_longest : Stmt := topS 14
theorem sc_longest : FnScope ["number"] ["number"] (defScope s_longest) := ⟨rfl, rfl, rfl, by decide +kernel, rfl, by decide +kernel, by decide +kernel⟩
theorem ok_longest {f : Addr} {fd : FuncData} (F : Fun K "longest" "longest" s_longest f fd) (C_high_rows : Callee P w K mg base 3 "high_rows" ["number"] spHigh) : FnOk P w K mg base CX0 4 f fd ["number"] spLongest := by
  refine F.ok sc_longest (fun vs H Q E h => ?_) (fun cdv A outer s H vs Q E hr h => ?_)
  · obtain ⟨n, rfl, _⟩ := h
    rfl
  · obtain ⟨n, rfl, hn, hn2, q⟩ := h
    obtain ⟨f_high_rows, fd_high_rows, m_high_rows, k_high_rows, b_high_rows, G_high_rows⟩ := C_high_rows
    refine ⟨_, (pss_one (ps_ret (pe_ix (r := rIxL K) ix_list (pe_call G_high_rows (hr.mono (by decide)) rfl m_high_rows k_high_rows b_high_rows .nil pass0 (pa_cons (pv 0) pa_nil)) pe_int (fun _ _ => rfl)))), ?_⟩
    refine ⟨_, rfl, n, rfl, hn, hn2, fun ps p H1 hps hl s1 np h1 => ?_⟩
    obtain ⟨xs, g, hp⟩ := h1
    obtain ⟨p0, qs, rfl⟩ := hps.ne hn
    cases hp with
    | cons hx ht => exact ⟨p, _, 0, _, rfl, rfl, SqL.of g, atI_nat (j := 0) rfl, q _ _ _ _ hps s1 hx⟩
abbrev s_of_length : Stmt := topS 15
theorem sc_of_length : FnScope ["number", "length"] ["number", "length"] (defScope s_of_length) := ⟨rfl, rfl, rfl, by decide +kernel, rfl, by decide +kernel, by decide +kernel⟩
theorem ok_of_length {f : Addr} {fd : FuncData} (F : Fun K "of_length" "of_length" s_of_length f fd) (C_check_number : Callee P w K mg base 2 "check_number" ["number"] spCheck) (C_is_whole : Callee P w K mg base 1 "is_whole" ["thing"] spWhole) (C_row_of : Callee P w K mg base 1 "row_of" ["number", "length"] spRow) : FnOk P w K mg base CX0 3 f fd ["number", "length"] spRow := by
  refine F.ok sc_of_length (fun vs H Q E h => ?_) (fun cdv A outer s H vs Q E hr h => ?_)
  · obtain ⟨_, _, rfl, _⟩ := h
    rfl
  · obtain ⟨n, L, rfl, hn, hn2, hL, hb, q⟩ := h
    obtain ⟨f_check_number, fd_check_number, m_check_number, k_check_number, b_check_number, G_check_number⟩ := C_check_number
    obtain ⟨f_is_whole, fd_is_whole, m_is_whole, k_is_whole, b_is_whole, G_is_whole⟩ := C_is_whole
    obtain ⟨f_row_of, fd_row_of, m_row_of, k_row_of, b_row_of, G_row_of⟩ := C_row_of
    refine ⟨_, (pss_cons (ps_expr (pe_call G_check_number (hr.mono (by decide)) rfl m_check_number k_check_number b_check_number .nil pass0 (pa_cons (pv 0) pa_nil)))
      (pss_cons (ps_if (PW.pt (pw_or (pt_not (pt_val (pe_call G_is_whole (hr.mono (by decide)) rfl m_is_whole k_is_whole b_is_whole .nil pass0 (pa_cons (pv 1) pa_nil)))) (pw_or1 (pt_cmpR op_lt (pv 1) pe_int (nomark _))))) (pss_one ps_never) pss_nil)
      (pss_one (ps_ret (pe_call G_row_of (hr.mono (by decide)) rfl m_row_of k_row_of b_row_of .nil pass0 (pa_cons (pv 0) (pa_cons (pv 1) pa_nil))))))), ?_⟩
    refine ⟨_, rfl, n, rfl, hn, hn2, ?_⟩
    refine ⟨_, rfl, L, rfl, _, rfl, iteF ?_⟩
    refine ⟨_, rfl, _, _, rfl, rfl, _, rfl, iteDN (show ¬ L < 1 by omega) ?_⟩
    exact ⟨_, rfl, _, rfl, n, L, rfl, hn, hn2, hL, hb, q⟩
end
end NB

set_option Elab.async false
set_option maxRecDepth 100000
set_option maxHeartbeats 4000000
set_option linter.unusedVariables false
namespace NB
open PySem L2
section
variable {P : Program} {w : World} {K : PySem.W.Frag} {mg : Str → Option Value} {base : Heap}
/-! ### the law's helpers -/
abbrev s__law_cell_at : Stmt := topS 26
theorem sc__law_cell_at : FnScope ["_law_script", "_law_k"] ["_law_script", "_law_k"] (defScope s__law_cell_at) := ⟨rfl, rfl, rfl, by decide +kernel, rfl, by decide +kernel, by decide +kernel⟩
theorem ok__law_cell_at {f : Addr} {fd : FuncData} (F : Fun K "_law_cell_at" "_law_cell_at" s__law_cell_at f fd) (B : Bt mg) : FnOk P w K mg base CX0 1 f fd ["_law_script", "_law_k"] (spCellAt K) := by
  refine F.ok sc__law_cell_at (fun vs H Q E h => ?_) (fun cdv A outer s H vs Q E hr h => ?_)
  · obtain ⟨_, _, _, rfl, _⟩ := h
    rfl
  · obtain ⟨a, ns, k, rfl, hS, hb, h0, hk, q⟩ := h
    refine ⟨_, (pss_cons (ps_if (pt_cmpR op_lt (pv 1) (pe_callB call_len_seq (by rfl) B.len_ (by decide +kernel) (pa_cons (pv 0) pa_nil)) (nomark _)) (pss_one (ps_ret (pe_ix (r := rIxL K) ix_list (pv 0) (pv 1) (fun _ _ => rfl)))) pss_nil)
      (pss_one (ps_ret pe_int))), ?_⟩
    refine ⟨_, rfl, _, rfl, a, _, rfl, .inl hS, _, _, rfl, rfl, _, rfl, ?_⟩
    refine ite2 (fun hc => ?_) fun hc => ?_
    · have hc : k < ns.length := by
        have := of_decide_eq_true hc
        rwa [List.length_map] at this
      obtain ⟨z, hz, e⟩ := at_int h0 hc
      exact ⟨_, rfl, _, rfl, a, _, _, _, rfl, rfl, hS, e, q z (hb z hz)⟩
    · exact q 0 (by decide)
abbrev s__law_draw : Stmt := topS 27
theorem sc__law_draw : FnScope ["_law_cell", "_law_k", "_law_many", "_law_primes"] ["_law_cell", "_law_k", "_law_many"] (defScope s__law_draw) := ⟨rfl, rfl, rfl, by decide +kernel, rfl, by decide +kernel, by decide +kernel⟩
theorem ok__law_draw {f : Addr} {fd : FuncData} (F : Fun K "_law_draw" "_law_draw" s__law_draw f fd) : FnOk P w K mg base CX0 1 f fd ["_law_cell", "_law_k", "_law_many"] spDraw := by
  refine F.ok sc__law_draw (fun vs H Q E h => ?_) (fun cdv A outer s H vs Q E hr h => ?_)
  · obtain ⟨_, _, _, rfl, _⟩ := h
    rfl
  · obtain ⟨c, k, m, rfl, h0, hm, q⟩ := h
    refine ⟨_, (pss_cons (ps_set (i := 3) sc__law_draw.nd rfl (Or.inl rfl) (pe_tup (pa_cons pe_int (pa_cons pe_int (pa_cons pe_int (pa_cons pe_int (pa_cons pe_int (pa_cons pe_int (pa_cons pe_int (pa_cons pe_int (pa_cons pe_int (pa_cons pe_int (pa_cons pe_int (pa_cons pe_int (pa_cons pe_int (pa_cons pe_int (pa_cons pe_int (pa_cons pe_int pa_nil))))))))))))))))))
      (pss_one (ps_ret (pe_op op_mod (pe_op op_mod (pe_op op_add (pe_op op_mul (pv 0) pe_int) (pe_op op_mul (pv 1) pe_int)) (pe_ix (r := rIxT K) ix_tup (pv 3) (pe_op op_mod (pv 1) pe_int) (fun _ _ => rfl))) (pv 2))))), ?_⟩
    refine ⟨(by show 16 ≤ sizeLine; decide), fun p np => ?_⟩
    obtain ⟨r, hr0, er⟩ := prime_at (i := k % 16) (by omega) (by omega)
    refine ⟨_, rfl, _, _, rfl, rfl, .inr ⟨by decide, by decide⟩, _, rfl, _, _, rfl, rfl, .inr ⟨by decide, by decide⟩, _, _, rfl, rfl, _, rfl, _, rfl, _, _, rfl, rfl, (by show (0 : Int) < 16; decide), p, _, _, _, rfl, rfl, SqT.of upd_same, er, _, _, rfl, rfl, hr0, _, rfl, _, _, rfl, rfl, hm, ?_⟩
    exact q _ _ (Int.emod_nonneg _ (by omega)) (Int.emod_lt_of_pos _ hm) (Same.new np)
abbrev s__law_value : Stmt := topS 28
theorem sc__law_value : FnScope ["_law_cell", "_law_turn", "_law_mixed"] ["_law_cell", "_law_turn"] (defScope s__law_value) := ⟨rfl, rfl, rfl, by decide +kernel, rfl, by decide +kernel, by decide +kernel⟩
theorem ok__law_value {f : Addr} {fd : FuncData} (F : Fun K "_law_value" "_law_value" s__law_value f fd) (C__law_draw : Callee P w K mg base 1 "_law_draw" ["_law_cell", "_law_k", "_law_many"] spDraw) : FnOk P w K mg base CX0 2 f fd ["_law_cell", "_law_turn"] spValue := by
  refine F.ok sc__law_value (fun vs H Q E h => ?_) (fun cdv A outer s H vs Q E hr h => ?_)
  · obtain ⟨_, _, rfl, _⟩ := h
    rfl
  · obtain ⟨c, t, rfl, hb, h0, ht, q⟩ := h
    obtain ⟨f__law_draw, fd__law_draw, m__law_draw, k__law_draw, b__law_draw, G__law_draw⟩ := C__law_draw
    refine ⟨_, (pss_cons (ps_if (pt_cmpR op_ge (pv 0) (pe_op op_pow pe_int pe_int) (nomark _)) (pss_one (ps_ret (pe_op op_shr (pe_op op_sub (pv 0) (pe_op op_pow pe_int pe_int)) (pe_op op_mul pe_int (pv 1))))) pss_nil)
      (pss_cons (ps_set (i := 2) sc__law_value.nd rfl (Or.inl rfl) (pe_call G__law_draw (hr.mono (by decide)) rfl m__law_draw k__law_draw b__law_draw .nil pass0 (pa_cons (pe_op op_mulX (pe_op op_add (pv 0) (pe_op op_mul pe_int (pv 1))) (pe_op op_add (pe_op op_add (pv 0) (pe_op op_mul pe_int (pv 1))) pe_int)) (pa_cons (pe_op op_add (pe_op op_mod (pv 1) pe_int) pe_int) (pa_cons pe_int pa_nil)))))
      (pss_one (ps_ret (pe_op op_add (pe_op op_mul (pv 2) pe_int) (pe_call G__law_draw (hr.mono (by decide)) rfl m__law_draw k__law_draw b__law_draw .nil pass0 (pa_cons (pe_op op_add (pe_op op_mulX (pe_op op_add (pv 0) (pe_op op_mul pe_int (pv 1))) (pe_op op_add (pv 0) pe_int)) (pe_op op_mul pe_int (pv 1))) (pa_cons (pe_op op_add (pe_op op_mod (pv 1) pe_int) pe_int) (pa_cons pe_int pa_nil))))))))), ?_⟩
    refine ⟨_, rfl, _, _, rfl, rfl, ⟨by decide, by decide, by decide⟩, _, _, rfl, rfl, _, rfl, ?_⟩
    refine ite2 (fun hc => ?_) fun hc => ?_
    · have e18 : (10 : Int) ^ Int.toNat 18 = 1000000000000000000 := by decide
      have hc : (10 : Int) ^ Int.toNat 18 ≤ c := of_decide_eq_true hc
      refine ⟨_, rfl, _, _, rfl, rfl, ⟨by decide, by decide, by decide⟩, _, _, rfl, rfl, _, rfl, _, _, rfl, rfl, .inl ⟨by decide, by decide⟩, _, _, rfl, rfl, (show 0 ≤ 3 * t by omega), ?_⟩
      have hp : (0 : Int) < 2 ^ (3 * t).toNat := PySem.W.kbt_pos _
      have hz : 0 ≤ c - (10 : Int) ^ Int.toNat 18 := by omega
      have hz2 : c - (10 : Int) ^ Int.toNat 18 ≤ c := by rw [e18]; omega
      refine q ((c - (10 : Int) ^ Int.toNat 18) / 2 ^ (3 * t).toNat) _ (Int.ediv_nonneg hz (by omega)) ?_ (Same.refl _)
      generalize c - (10 : Int) ^ Int.toNat 18 = d at hz hz2
      have hq := Int.ediv_nonneg hz (show (0 : Int) ≤ 2 ^ (3 * t).toNat by omega)
      have hq2 := Int.ediv_le_self (2 ^ (3 * t).toNat) hz
      exact Nat.le_trans (PySem.intBits_le_of_natAbs (y := c) (by omega) hb) (by decide)
    · have l0 : ib (977 * t) ≤ 64 := ib_of (by omega)
      have l1 : ib (31 * t) ≤ 64 := ib_of (by omega)
      have b1 := ib_add hb l0
      have b2 := ib_add hb l1
      have b3 := ib_add b2 (show ib 5 ≤ 64 by decide)
      have b4 := ib_add hb (show ib 7 ≤ 64 by decide)
      refine ⟨_, rfl, _, rfl, _, _, rfl, rfl, .inl ⟨by decide, by decide⟩, _, _, rfl, rfl, _, rfl, _, rfl, _, _, rfl, rfl, .inl ⟨by decide, by decide⟩, _, _, rfl, rfl, _, _, rfl, rfl, _, _, rfl, rfl, mulx b1 b3 (by decide), _, rfl, _, _, rfl, rfl, (by show (0 : Int) < 9; decide), _, _, rfl, rfl, _, _, _, rfl, (show 0 ≤ t % 9 + 1 by omega), by decide, fun r H1 r0 r1 s1 => ?_⟩
      refine ⟨_, rfl, _, _, rfl, rfl, .inr ⟨by decide, by decide⟩, _, rfl, _, rfl, _, _, rfl, rfl, .inl ⟨by decide, by decide⟩, _, _, rfl, rfl, _, rfl, _, _, rfl, rfl, _, _, rfl, rfl, mulx b2 b4 (by decide), _, rfl, _, _, rfl, rfl, .inl ⟨by decide, by decide⟩, _, _, rfl, rfl, _, rfl, _, _, rfl, rfl, (by show (0 : Int) < 7; decide), _, _, rfl, rfl, _, _, _, rfl, (show 0 ≤ t % 7 + 2 by omega), by decide, fun r' H2 r0' r1' s2 => ?_⟩
      refine ⟨_, _, rfl, rfl, ?_⟩
      exact q _ _ (show 0 ≤ r * 1000003 + r' by omega) (Nat.le_trans (ib_of (m := 64) (by omega)) (by decide)) (s1.trans s2)
end
end NB

set_option Elab.async false
set_option maxRecDepth 100000
set_option maxHeartbeats 4000000
set_option linter.unusedVariables false
namespace NB
open PySem L2
section
variable {P : Program} {w : World} {K : PySem.W.Frag} {mg : Str → Option Value} {base : Heap}
abbrev s__law_whole : Stmt := topS 29
theorem sc__law_whole : FnScope ["_law_number"] ["_law_number"] (defScope s__law_whole) := ⟨rfl, rfl, rfl, by decide +kernel, rfl, by decide +kernel, by decide +kernel⟩
theorem ok__law_whole {f : Addr} {fd : FuncData} (F : Fun K "_law_whole" "_law_whole" s__law_whole f fd) (B : Bt mg) : FnOk P w K mg base CX0 1 f fd ["_law_number"] spWhole := by
  refine F.ok sc__law_whole (fun vs H Q E h => ?_) (fun cdv A outer s H vs Q E hr h => ?_)
  · obtain ⟨i, rfl, _⟩ := h
    rfl
  · obtain ⟨i, rfl, q⟩ := h
    refine ⟨_, (pss_one (ps_ret (pe_and (pe_callB call_isi (by rfl) B.isinstance_ (by decide +kernel) (pa_cons (pv 0) (pa_cons (pe_bltn (v := .ty "int") (by rfl) B.int_ (by decide +kernel) rfl) pa_nil))) (pe_one (pe_not (pe_callB call_isi (by rfl) B.isinstance_ (by decide +kernel) (pa_cons (pv 0) (pa_cons (pe_bltn (v := .ty "bool") (by rfl) B.bool_ (by decide +kernel) rfl) pa_nil)))))))), ?_⟩
    refine ⟨_, rfl, _, _, _, _, true, rfl, .ty "int", .base (.int i), kit_ty (by decide +kernel), true, rfl, iteT ?_⟩
    exact ⟨_, rfl, _, _, _, _, false, rfl, .ty "bool", .base (.int i), kit_ty (by decide +kernel), false, rfl, q⟩
end
end NB

set_option Elab.async false
set_option maxRecDepth 100000
set_option maxHeartbeats 4000000
set_option linter.unusedVariables false
namespace NB
open PySem L2
section
variable {P : Program} {w : World} {K : PySem.W.Frag} {mg : Str → Option Value} {base : Heap}
/-! ### the program's search -/
abbrev s_least_from : Stmt := topS 23
theorem sc_least_from : FnScope ["many", "primes", "most", "best", "often", "rest", "found", "turn"] ["many", "primes", "most"] (defScope s_least_from) := ⟨rfl, rfl, rfl, by decide +kernel, rfl, by decide +kernel, by decide +kernel⟩
theorem ok_least_none {f : Addr} {fd : FuncData} (F : Fun K "least_from" "least_from" s_least_from f fd) : FnOk P w K mg base CX0 1 f fd ["many", "primes", "most"] (fun _ _ _ _ => False) :=
  F.ok sc_least_from (fun vs H Q E h => h.elim) (fun cdv A outer s H vs Q E hr h => h.elim)
theorem ok_least_step {f : Addr} {fd : FuncData} (F : Fun K "least_from" "least_from" s_least_from f fd) (B : Bt mg) (m_least_from : mg "least_from" = some (.ref f)) (b_least_from : Binds K fd ["many", "primes", "most"] []) {j : Nat} {spG : Sp} (G_least_from : FnOk P w K mg base CX0 j f fd ["many", "primes", "most"] spG) (n : Nat)
    (hG : ∀ vs H Q E, 1 ≤ n → spLeastFrom K (n - 1) vs H Q E → spG vs H Q E) : FnOk P w K mg base CX0 (j + 1) f fd ["many", "primes", "most"] (spLeastFrom K n) := by
  have k_least_from := F.kp
  refine F.ok sc_least_from (fun vs H Q E h => ?_) (fun cdv A outer s H vs Q E hr h => ?_)
  · obtain ⟨_, _, _, _, rfl, _⟩ := h
    rfl
  · obtain ⟨many, most, a, ps, rfl, hS, hlen, hps, m1, m2, t1, t2, q⟩ := h
    refine ⟨_, (pss_cons (ps_if (pt_cmpR op_eq (pv 0) pe_int (nomark _)) (pss_one (ps_ret pe_int)) pss_nil)
      (pss_cons (ps_set (i := 3) sc_least_from.nd rfl (Or.inl rfl) pe_non)
      (pss_cons (ps_for PassesOwn.never rfl (pi_range2 rfl B.range_ (pa_cons pe_int (pa_cons (pe_op op_add (pv 2) pe_int) pa_nil))) (pg_name (i := 4) sc_least_from.nd rfl (.inl rfl))
        (pss_one (ps_if (PW.pt (pw_and (pt_cmpR op_eq (pe_op op_mod (pv 0) (pe_op op_add (pv 4) pe_int)) pe_int (nomark _)) (pw_and1 (pt_cmpR (r := rNeD K) (op_neD hr.units) (pv 1) (pe_lst pa_nil) (nomark _))))) (pss_cons (ps_set (i := 5) sc_least_from.nd rfl (Or.inl rfl) (pe_call G_least_from (hr.mono (Nat.le_refl _)) rfl m_least_from k_least_from b_least_from .nil pass0 (pa_cons (pe_op op_fdivW (pv 0) (pe_op op_add (pv 4) pe_int)) (pa_cons (pe_slice sl_list (pv 1) (po_some pe_int) po_none) (pa_cons (pv 4) pa_nil)))))
          (pss_one (ps_if (pt_cmpR op_notN (pv 5) pe_non (nomark _)) (pss_cons (ps_set (i := 6) sc_least_from.nd rfl (Or.inl rfl) (pv 5))
            (pss_cons (ps_for PassesOwn.never rfl (pi_range1 rfl B.range_ (pa_cons (pv 4) pa_nil)) (pg_name (i := 7) sc_least_from.nd rfl (.inl rfl))
              (pss_one (ps_set (i := 6) sc_least_from.nd rfl (Or.inl rfl) (pe_op op_mul (pv 6) (pe_ix (r := rIxL K) ix_list (pv 1) pe_int (fun _ _ => rfl))))))
            (pss_one (ps_set (i := 3) sc_least_from.nd rfl (Or.inl rfl) (pe_ifExp (pt_cmpR op_isN (pv 3) pe_non (nomark _)) (pv 6) (pe_callB (call_min2 rfl) (by rfl) B.min_ (by decide +kernel) (pa_cons (pv 3) (pa_cons (pv 6) pa_nil)))))))) pss_nil))) pss_nil)))
      (pss_one (ps_ret (pv 3)))))), ?_⟩
    rw [leastF_eq] at q
    refine ⟨_, rfl, rfl, _, rfl, ?_⟩
    by_cases hm : many = 1
    · refine iteD (congrArg V.int hm) ?_
      rw [if_pos hm] at q
      exact q _ (Same.refl _)
    · refine iteDN (fun x => hm (V.int.inj x)) ?_
      rw [if_neg hm] at q
      have en : (most + 1 - 1).toNat = most.toNat := by congr 1; omega
      refine ⟨_, rfl, _, _, rfl, rfl, 1, most + 1, rfl, ⟨by decide, by decide, by omega, by omega⟩, ?_⟩
      rw [en]
      refine for_range (fun i σ H' => ∃ x4 x5 x6 x7, σ = [some (.int many), some (.ref a), some (.int most), some (oV (foldF ps many i)), x4, x5, x6, x7] ∧ Same H H') ⟨_, _, _, _, by cases ps <;> rfl, Same.refl _⟩ ?_ ?_
      · rintro i σ H1 hi ⟨x4, x5, x6, x7, rfl, s1⟩
        have hi60 : (i : Int) < 60 := by omega
        refine ⟨_, rfl, _, rfl, _, _, rfl, rfl, _, _, rfl, rfl, (show (0 : Int) < 1 + (i : Int) + 1 by omega), rfl, _, rfl, ?_⟩
        have nothing : many % (1 + (i : Int) + 1) ≠ 0 ∨ ps = [] → foldF ps many (i + 1) = foldF ps many i := by
          rintro (h | h)
          · cases ps with
            | nil => rfl
            | cons p r => rw [foldF_succ, lstep, if_neg h]
          · subst h; rfl
        have fin : ∀ (o : Option Int) (x4 x5 x6 x7 : Option V) (H' : Hp), foldF ps many (i + 1) = o → Same H H' → ∃ y4 y5 y6 y7, [some (V.int many), some (V.ref a), some (V.int most), some (oV o), x4, x5, x6, x7] = [some (V.int many), some (V.ref a), some (V.int most), some (oV (foldF ps many (i + 1))), y4, y5, y6, y7] ∧ Same H H' := fun o x4 x5 x6 x7 H' e s => by
          subst e
          exact ⟨_, _, _, _, rfl, s⟩
        by_cases hd : many % (1 + (i : Int) + 1) = 0
        · refine iteD (congrArg V.int hd) ?_
          refine ⟨_, rfl, (by show 0 ≤ sizeLine; decide), fun l nl => ?_⟩
          refine rd_neI (ms := []) (Same.seq (Same.new nl) (Same.seq s1 hS)) (SqL.of upd_same) ⟨_, rfl, ?_⟩
          have s2 := s1.trans (Same.new (o := .lst []) nl)
          generalize upd H1 l (.lst []) = H2 at s2
          cases ps with
          | nil =>
            refine iteNS rfl ?_
            exact fin _ _ _ _ _ _ (nothing (.inr rfl)) s2
          | cons p r =>
            refine iteNN (by simp) ?_
            obtain ⟨hp1, hp2⟩ := hps p List.mem_cons_self
            have hq := Int.mul_ediv_cancel' (Int.dvd_of_emod_eq_zero hd)
            have hq1 : 1 ≤ many / (1 + (i : Int) + 1) := Int.pos_of_mul_pos_right (a := 1 + (i : Int) + 1) (by omega) (by omega)
            have hq2 : many / (1 + (i : Int) + 1) ≤ 60 := Int.le_trans (Int.ediv_le_self (1 + (i : Int) + 1) (by omega)) m2
            have hS2 := Same.seq s2 hS
            refine ⟨_, rfl, _, rfl, _, _, rfl, rfl, _, _, rfl, rfl, wide_div (b := 64) (by omega) (by omega) (by decide) (by decide), _, rfl, 1, rfl, a, _, rfl, hS2, fun p2 np2 => ?_⟩
            rw [cut_tail]
            rw [List.length_cons] at hlen
            refine ⟨_, rfl, hG _ _ _ _ (by omega) ⟨_, _, p2, r, rfl, SqL.of upd_same, by omega, fun x hx => hps x (List.mem_cons_of_mem _ hx), hq1, hq2, by omega, by omega, fun H3 s3 => ?_⟩⟩
            have s03 : Same H H3 := (s2.trans (Same.new np2)).trans s3
            have hS3 := Same.seq s03 hS
            cases hrest : leastF r (many / (1 + (i : Int) + 1)) (1 + (i : Int)) with
            | none =>
              refine ⟨_, rfl, rfl, _, rfl, iteNS rfl ?_⟩
              exact fin (foldF (p :: r) many i) _ _ _ _ _ (by rw [foldF_succ, lstep, if_pos hd, hrest]) s03
            | some rr =>
              refine ⟨_, rfl, rfl, _, rfl, itB rfl ?_⟩
              refine ⟨_, rfl, ?_⟩
              have ei : (1 + (i : Int)).toNat = i + 1 := by omega
              refine ⟨_, rfl, _, rfl, by omega, by omega, ?_⟩
              rw [ei]
              refine for_range (fun j σ H' => ∃ x7, σ = [some (.int many), some (.ref a), some (.int most), some (oV (foldF (p :: r) many i)), some (.int (1 + (i : Int))), some (.int rr), some (.int (rr * p ^ j)), x7] ∧ H' = H3) ⟨_, by rw [Int.pow_zero, Int.mul_one]; rfl, rfl⟩ ?_ ?_
              · rintro j σ H' hj ⟨x7, rfl, rfl⟩
                refine ⟨_, rfl, _, rfl, a, _, 0, _, rfl, rfl, hS3, atI_nat (j := 0) rfl, _, _, rfl, rfl, .inr ⟨by omega, by omega⟩, ?_⟩
                have e2 : rr * p ^ j * p = rr * p ^ (j + 1) := by rw [Int.pow_succ, Int.mul_assoc]
                exact ⟨some (V.int (0 + (j : Int))), congrArg (fun z => [some (V.int many), some (V.ref a), some (V.int most), some (oV (foldF (p :: r) many i)), some (V.int (1 + (i : Int))), some (V.int rr), some (V.int z), some (V.int (0 + (j : Int)))]) e2, rfl⟩
              · rintro σ H' ⟨x7, rfl, rfl⟩
                refine ⟨_, rfl, rfl, _, rfl, ?_⟩
                cases hbest : foldF (p :: r) many i with
                | none =>
                  refine iteD rfl ?_
                  refine ⟨_, rfl, ?_⟩
                  exact fin (some (rr * p ^ (i + 1))) _ _ _ _ _ (by rw [foldF_succ, lstep, if_pos hd, hrest, hbest]) s03
                | some b =>
                  refine iteDN (fun x => nomatch x) ?_
                  refine ⟨_, rfl, _, rfl, _, _, rfl, ?_⟩
                  exact fin (some (if rr * p ^ (i + 1) < b then rr * p ^ (i + 1) else b)) _ _ _ _ _ (by rw [foldF_succ, lstep, if_pos hd, hrest, hbest]) s03
        · refine iteDN (fun x => hd (V.int.inj x)) ?_
          refine iteF ?_
          exact fin _ _ _ _ _ _ (nothing (.inl hd)) s1
      · rintro σ H1 ⟨x4, x5, x6, x7, rfl, s1⟩
        exact ⟨_, rfl, q _ s1⟩
theorem ok_least_from {f : Addr} {fd : FuncData} (F : Fun K "least_from" "least_from" s_least_from f fd) (B : Bt mg) (m_least_from : mg "least_from" = some (.ref f)) (b_least_from : Binds K fd ["many", "primes", "most"] []) : ∀ n : Nat, FnOk P w K mg base CX0 (n + 2) f fd ["many", "primes", "most"] (spLeastFrom K n)
  | 0 => ok_least_step F B m_least_from b_least_from (ok_least_none F) 0 (fun _ _ _ _ h _ => absurd h (by decide))
  | n + 1 => ok_least_step F B m_least_from b_least_from (ok_least_from F B m_least_from b_least_from n) (n + 1) (fun _ _ _ _ _ h => h)
abbrev s_least_with : Stmt := topS 24
theorem sc_least_with : FnScope ["many"] ["many"] (defScope s_least_with) := ⟨rfl, rfl, rfl, by decide +kernel, rfl, by decide +kernel, by decide +kernel⟩
theorem ok_least_with {f : Addr} {fd : FuncData} (F : Fun K "least_with" "least_with" s_least_with f fd) (B : Bt mg) {t : Tok} (m_MOST : mg "MOST" = some (.int 60 t)) (C_is_whole : Callee P w K mg base 1 "is_whole" ["thing"] spWhole) (C_least_from : Callee P w K mg base 8 "least_from" ["many", "primes", "most"] (spLeastFrom K 6)) : FnOk P w K mg base CX0 9 f fd ["many"] spLeastWith := by
  refine F.ok sc_least_with (fun vs H Q E h => ?_) (fun cdv A outer s H vs Q E hr h => ?_)
  · obtain ⟨_, rfl, _⟩ := h
    rfl
  · obtain ⟨m, rfl, h1, h2, q⟩ := h
    obtain ⟨f_is_whole, fd_is_whole, m_is_whole, k_is_whole, b_is_whole, G_is_whole⟩ := C_is_whole
    obtain ⟨f_least_from, fd_least_from, m_least_from, k_least_from, b_least_from, G_least_from⟩ := C_least_from
    refine ⟨_, (pss_cons (ps_if (PW.pt (pw_or (pt_not (pt_val (pe_call G_is_whole (hr.mono (by decide)) rfl m_is_whole k_is_whole b_is_whole .nil pass0 (pa_cons (pv 0) pa_nil)))) (pw_or1 (pt_not (pt_chain op_le op_le pe_int (pv 0) (pe_glob (v := .int 60) rfl m_MOST ⟨_, rfl⟩)))))) (pss_one ps_never) pss_nil)
      (pss_one (ps_ret (pe_call G_least_from (hr.mono (by decide)) rfl m_least_from k_least_from b_least_from .nil pass0 (pa_cons (pv 0) (pa_cons (pe_lst (pa_cons pe_int (pa_cons pe_int (pa_cons pe_int (pa_cons pe_int (pa_cons pe_int (pa_cons pe_int pa_nil))))))) (pa_cons (pv 0) pa_nil))))))), ?_⟩
    refine ⟨_, rfl, _, rfl, _, rfl, iteF ?_⟩
    refine ⟨_, rfl, _, _, rfl, rfl, _, rfl, iteD (show (1 : Int) ≤ (m : Int) by omega) ?_⟩
    refine ⟨_, _, rfl, rfl, _, rfl, ?_⟩
    rw [decide_eq_true (show (m : Int) ≤ 60 by omega)]
    refine iteF ?_
    refine ⟨_, rfl, (by show 6 ≤ sizeLine; decide), fun p np => ⟨_, rfl, ?_⟩⟩
    refine ⟨_, _, p, prs, rfl, SqL.of upd_same, by decide, by decide, by omega, by omega, by omega, by omega, fun H' s' => ?_⟩
    obtain ⟨r, hr, _⟩ := least_ok m h2 h1
    rw [hr]
    exact q r H' hr ((Same.new np).trans s')
end
end NB

set_option Elab.async false
set_option maxRecDepth 100000
set_option maxHeartbeats 4000000
set_option linter.unusedVariables false
namespace NB
open PySem L2
section
variable {P : Program} {w : World} {K : PySem.W.Frag} {mg : Str → Option Value} {base : Heap}
theorem dV (a b : Int) : decide (V.int a = V.int b) = decide (a = b) := by
  by_cases h : a = b
  · rw [decide_eq_true h, decide_eq_true (congrArg V.int h)]
  · rw [decide_eq_false h, decide_eq_false fun x => h (V.int.inj x)]
theorem bl_eq {Q : VK} {H : Hp} {a b : Bool} (e : a = b) (h : Q (.bl b) H) : Q (.bl a) H := e ▸ h
abbrev s_Sum___init__ : Stmt := inClass (topS 18) 0
theorem sc_Sum___init__ : FnScope ["self", "first", "last"] ["self", "first", "last"] (defScope s_Sum___init__) := ⟨rfl, rfl, rfl, by decide +kernel, rfl, by decide +kernel, by decide +kernel⟩
theorem ok_Sum_init {f CS : Addr} {fd : FuncData} (F : Fun K "__init__" "Sum.__init__" s_Sum___init__ f fd) (C_Sum : ClsF K mg "Sum" CS) (nf : NoAttr K CS "first") (nl : NoAttr K CS "last") : FnOk P w K mg base CX0 1 f fd ["self", "first", "last"] (spSumInit CS) := by
  refine F.ok sc_Sum___init__ (fun vs H Q E h => ?_) (fun cdv A outer s H vs Q E hr h => ?_)
  · obtain ⟨_, _, _, _, rfl, _⟩ := h
    rfl
  · obtain ⟨p, dx, a, b, rfl, hp, k⟩ := h
    refine ⟨_, (pss_cons (ps_fld (pv 0) (pv 1) rfl)
      (pss_one (ps_fld (pv 0) (pv 2) rfl))), ?_⟩
    refine ⟨_, rfl, _, rfl, p, CS, dx, _, rfl, hp, C_Sum.cl, nf, (by show 0 < 1000; decide), _, rfl, _, rfl, p, CS, dx, _, rfl, upd_same, C_Sum.cl, nl, (by show 1 < 1000; decide), ?_⟩
    refine k _ ⟨dx, upd_same⟩ fun b o e hb => ?_
    rw [upd_ne hb, upd_ne hb]
    exact e
abbrev s_Power___init__ : Stmt := inClass (topS 19) 0
theorem sc_Power___init__ : FnScope ["self", "often"] ["self", "often"] (defScope s_Power___init__) := ⟨rfl, rfl, rfl, by decide +kernel, rfl, by decide +kernel, by decide +kernel⟩
theorem ok_Power_init {f CP : Addr} {fd : FuncData} (F : Fun K "__init__" "Power.__init__" s_Power___init__ f fd) (C_Power : ClsF K mg "Power" CP) (no : NoAttr K CP "often") : FnOk P w K mg base CX0 1 f fd ["self", "often"] (spPowInit CP) := by
  refine F.ok sc_Power___init__ (fun vs H Q E h => ?_) (fun cdv A outer s H vs Q E hr h => ?_)
  · obtain ⟨_, _, _, rfl, _⟩ := h
    rfl
  · obtain ⟨p, dx, a, rfl, hp, k⟩ := h
    refine ⟨_, (pss_one (ps_fld (pv 0) (pv 1) rfl)), ?_⟩
    refine ⟨_, rfl, _, rfl, p, CP, dx, _, rfl, hp, C_Power.cl, no, (by show 0 < 1000; decide), ?_⟩
    refine k _ ⟨dx, upd_same⟩ fun b o e hb => ?_
    rw [upd_ne hb]
    exact e
abbrev s_Sum_shows : Stmt := inClass (topS 18) 1
theorem sc_Sum_shows : FnScope ["self", "number", "first", "last"] ["self", "number"] (defScope s_Sum_shows) := ⟨rfl, rfl, rfl, by decide +kernel, rfl, by decide +kernel, by decide +kernel⟩
theorem ok_Sum_shows {f CS : Addr} {fd : FuncData} (F : Fun K "shows" "Sum.shows" s_Sum_shows f fd) (C_Sum : ClsF K mg "Sum" CS) (nf : NoAttr K CS "first") (nl : NoAttr K CS "last") : FnOk P w K mg base CX0 1 f fd ["self", "number"] (spSumShows CS) := by
  refine F.ok sc_Sum_shows (fun vs H Q E h => ?_) (fun cdv A outer s H vs Q E hr h => ?_)
  · obtain ⟨_, _, _, _, rfl, _⟩ := h
    rfl
  · obtain ⟨a, x, y, n, rfl, ⟨dx, ha⟩, bx, bY, q⟩ := h
    refine ⟨_, (pss_cons (ps_par (i := 2) (j := 3) rfl sc_Sum_shows.nd rfl rfl (by decide) rfl rfl (pa_cons (pe_fld (pv 0) rfl) (pa_cons (pe_fld (pv 0) rfl) pa_nil)) (by rfl))
      (pss_one (ps_ret (pe_and (pe_chain op_lt op_lt pe_int (pv 2) (pv 3)) (pe_one (pe_cmpR op_eq (pe_op op_mulX (pe_op op_add (pv 2) (pv 3)) (pe_op op_add (pe_op op_sub (pv 3) (pv 2)) pe_int)) (pe_op op_mul pe_int (pv 1)) (nomark _))))))), ?_⟩
    refine ⟨_, rfl, a, CS, dx, _, _, rfl, ha, C_Sum.cl, nf, sumF_first x y, _, rfl, a, CS, dx, _, _, rfl, ha, C_Sum.cl, nl, sumF_last x y, _, _, rfl, ?_⟩
    refine ⟨_, rfl, _, _, rfl, rfl, _, rfl, ?_⟩
    by_cases h0 : 0 < x
    · refine iteD h0 ?_
      refine ⟨_, rfl, _, _, rfl, rfl, _, rfl, ?_⟩
      by_cases h1 : x < y
      · refine iteD h1 ?_
        refine ⟨_, rfl, _, rfl, _, _, rfl, rfl, _, rfl, _, rfl, _, _, rfl, rfl, _, _, rfl, rfl, _, _, rfl, rfl, mulx (ib_add bx bY) (ib_add (ib_sub bY bx) (show ib 1 ≤ 1000 by decide)) (by decide), _, rfl, _, _, rfl, rfl, .inl ⟨by decide, by decide⟩, rfl, ?_⟩
        refine bl_eq (Q := Q) ((dV _ _).trans ?_) q
        unfold sumSays
        by_cases h2 : (x + y) * (y - x + 1) = 2 * n <;> simp [h0, h1, h2]
      · refine iteDN h1 ?_
        refine bl_eq (Q := Q) (b := sumSays x y n) ?_ q
        unfold sumSays
        simp [h1]
    · refine iteDN h0 ?_
      refine ⟨_, rfl, iteF ?_⟩
      refine bl_eq (Q := Q) (b := sumSays x y n) ?_ q
      unfold sumSays
      simp [h0]
abbrev s_Power_shows : Stmt := inClass (topS 19) 1
theorem sc_Power_shows : FnScope ["self", "number"] ["self", "number"] (defScope s_Power_shows) := ⟨rfl, rfl, rfl, by decide +kernel, rfl, by decide +kernel, by decide +kernel⟩
theorem ok_Power_shows {f CP : Addr} {fd : FuncData} (F : Fun K "shows" "Power.shows" s_Power_shows f fd) (C_Power : ClsF K mg "Power" CP) (no : NoAttr K CP "often") : FnOk P w K mg base CX0 1 f fd ["self", "number"] (spPowShows CP) := by
  refine F.ok sc_Power_shows (fun vs H Q E h => ?_) (fun cdv A outer s H vs Q E hr h => ?_)
  · obtain ⟨_, _, _, rfl, _⟩ := h
    rfl
  · obtain ⟨a, o, n, rfl, ⟨dx, ha⟩, q⟩ := h
    refine ⟨_, (pss_one (ps_ret (pe_and (pe_chain op_le op_lt pe_int (pe_fld (pv 0) rfl) pe_int) (pe_one (pe_cmpR op_eq (pe_op op_shl pe_int (pe_fld (pv 0) rfl)) (pv 1) (nomark _)))))), ?_⟩
    refine ⟨_, rfl, a, CP, dx, _, _, rfl, ha, C_Power.cl, no, powF_often o, _, _, rfl, rfl, _, rfl, ?_⟩
    by_cases h0 : 0 ≤ o
    · refine iteD h0 ?_
      refine ⟨_, _, rfl, rfl, _, rfl, ?_⟩
      by_cases h1 : o < 40
      · refine iteD h1 ?_
        refine ⟨_, rfl, a, CP, dx, _, _, rfl, ha, C_Power.cl, no, powF_often o, _, _, rfl, rfl, ⟨h0, by omega, by decide⟩, _, rfl, rfl, ?_⟩
        refine bl_eq (Q := Q) ((dV _ _).trans ?_) q
        unfold powSays
        rw [Int.one_mul]
        by_cases h2 : (2 : Int) ^ o.toNat = n <;> simp [h0, h1, h2]
      · refine iteDN h1 ?_
        refine bl_eq (Q := Q) (b := powSays o n 40) ?_ q
        unfold powSays
        simp [h1]
    · refine iteDN h0 ?_
      refine ⟨_, rfl, iteF ?_⟩
      refine bl_eq (Q := Q) (b := powSays o n 40) ?_ q
      unfold powSays
      simp [h0]
end
end NB

set_option Elab.async false
set_option maxRecDepth 100000
set_option maxHeartbeats 4000000
set_option linter.unusedVariables false
namespace NB
open PySem L2
section
variable {P : Program} {w : World} {K : PySem.W.Frag} {mg : Str → Option Value} {base : Heap}
theorem IsO.pair {H : Hp} {x : V} {o : Option (Int × Int)} {f l : Int} (h : IsO H x o) (e : o = some (f, l)) : ∃ t, x = .ref t ∧ H t = some (.tup [.int f, .int l]) := by
  subst e
  exact h
abbrev s_judged : Stmt := topS 22
theorem sc_judged : FnScope ["number", "odd", "often", "length", "first", "last"] ["number"] (defScope s_judged) := ⟨rfl, rfl, rfl, by decide +kernel, rfl, by decide +kernel, by decide +kernel⟩
theorem ok_judged {f CS CP : Addr} {fd : FuncData} (F : Fun K "judged" "judged" s_judged f fd) (B : Bt mg) (C_check_number : Callee P w K mg base 2 "check_number" ["number"] spCheck) (C_row_of : Callee P w K mg base 1 "row_of" ["number", "length"] spRow)
    (C_Sum : ClsF K mg "Sum" CS) (C_Power : ClsF K mg "Power" CP) (K_Sum : Makes P w K mg base CS ["self", "first", "last"] (spSumInit CS)) (K_Power : Makes P w K mg base CP ["self", "often"] (spPowInit CP)) : FnOk P w K mg base CX0 3 f fd ["number"] (spJudged CS CP) := by
  refine F.ok sc_judged (fun vs H Q E h => ?_) (fun cdv A outer s H vs Q E hr h => ?_)
  · obtain ⟨_, rfl, _⟩ := h
    rfl
  · obtain ⟨n, rfl, hn, hn2, qS, qP⟩ := h
    obtain ⟨f_check_number, fd_check_number, m_check_number, k_check_number, b_check_number, G_check_number⟩ := C_check_number
    obtain ⟨f_row_of, fd_row_of, m_row_of, k_row_of, b_row_of, G_row_of⟩ := C_row_of
    obtain ⟨fi_Sum, fdi_Sum, M_Sum, b_Sum, G_Sum⟩ := K_Sum
    have m_Sum := C_Sum.m
    obtain ⟨fi_Power, fdi_Power, M_Power, b_Power, G_Power⟩ := K_Power
    have m_Power := C_Power.m
    refine ⟨_, (pss_cons (ps_expr (pe_call G_check_number (hr.mono (by decide)) rfl m_check_number k_check_number b_check_number .nil pass0 (pa_cons (pv 0) pa_nil)))
      (pss_cons (ps_par (i := 1) (j := 2) rfl sc_judged.nd rfl rfl (by decide) rfl rfl (pa_cons (pv 0) (pa_cons pe_int pa_nil)) (by rfl))
      (pss_cons (ps_while PassesOwn.never (pt_cmpR op_eq (pe_op op_mod (pv 1) pe_int) pe_int (nomark _))
        (pss_one (ps_par (i := 1) (j := 2) rfl sc_judged.nd rfl rfl (by decide) rfl rfl (pa_cons (pe_op op_fdiv (pv 1) pe_int) (pa_cons (pe_op op_add (pv 2) pe_int) pa_nil)) (by rfl))))
      (pss_cons (ps_if (pt_cmpR op_eq (pv 1) pe_int (nomark _)) (pss_one (ps_ret (pe_make M_Power G_Power (hr.mono (by decide)) rfl m_Power b_Power .nil pass0 (pa_cons (pv 2) pa_nil)))) pss_nil)
      (pss_cons (ps_set (i := 3) sc_judged.nd rfl (Or.inl rfl) (pe_callB (call_min2 rfl) (by rfl) B.min_ (by decide +kernel) (pa_cons (pv 1) (pa_cons (pe_op op_mul pe_int (pe_op op_fdivW (pv 0) (pv 1))) pa_nil))))
      (pss_cons (ps_if (pt_cmpR op_eq (pv 3) (pe_op op_mul pe_int (pe_op op_fdivW (pv 0) (pv 1))) (nomark _)) (pss_one (ps_ret (pe_make M_Sum G_Sum (hr.mono (by decide)) rfl m_Sum b_Sum .nil pass0 (pa_cons (pe_ix (r := rIxT K) ix_tup (pe_call G_row_of (hr.mono (by decide)) rfl m_row_of k_row_of b_row_of .nil pass0 (pa_cons (pv 0) (pa_cons (pv 3) pa_nil))) pe_int (fun _ _ => rfl)) (pa_cons (pe_ix (r := rIxT K) ix_tup (pe_call G_row_of (hr.mono (by decide)) rfl m_row_of k_row_of b_row_of .nil pass0 (pa_cons (pv 0) (pa_cons (pv 3) pa_nil))) pe_int (fun _ _ => rfl)) pa_nil))))) pss_nil)
      (pss_cons (ps_asg (pe_call G_row_of (hr.mono (by decide)) rfl m_row_of k_row_of b_row_of .nil pass0 (pa_cons (pv 0) (pa_cons (pv 1) pa_nil))) (pg_tup rfl (pgs_cons (pg_name (i := 4) sc_judged.nd rfl (.inl rfl)) (pgs_cons (pg_name (i := 5) sc_judged.nd rfl (.inl rfl)) pgs_nil))))
      (pss_one (ps_ret (pe_make M_Sum G_Sum (hr.mono (by decide)) rfl m_Sum b_Sum .nil pass0 (pa_cons (pv 4) (pa_cons (pv 5) pa_nil)))))))))))), ?_⟩
    refine ⟨_, rfl, n, rfl, hn, hn2, ?_⟩
    refine ⟨_, rfl, _, _, rfl, ?_⟩
    refine while_nat 20 (fun k σ H' => ∃ o, σ = [some (.int n), some (.int o), some (.int (k : Int)), none, none, none] ∧ 1 ≤ o ∧ n = 2 ^ k * o ∧ H' = H) ⟨n, rfl, hn, by simp, rfl⟩ ?_
    rintro k m σ H' e ⟨o, rfl, ho, hno, rfl⟩
    have kb : k < 20 := pow_small ho hno hn2
    have hp := two_pos k
    have ole : o ≤ n := by
      have := Int.mul_le_mul_of_nonneg_right hp (show 0 ≤ o by omega)
      omega
    refine ⟨_, rfl, _, _, rfl, rfl, (by show (0 : Int) < 2; decide), rfl, _, rfl, ?_⟩
    by_cases hev : o % 2 = 0
    · refine iteD (congrArg V.int hev) ?_
      refine ⟨_, turn_nat _ e kb, ?_⟩
      refine ⟨_, rfl, _, _, rfl, rfl, ⟨by decide, by decide⟩, _, rfl, _, _, rfl, rfl, _, _, rfl, ?_⟩
      refine ⟨o / 2, rfl, by omega, ?_, rfl⟩
      rw [hno, pow_succ2, Int.mul_comm 2, Int.mul_assoc]
      congr 1
      omega
    · refine iteDN (fun x => hev (V.int.inj x)) ?_
      have hodd : o % 2 = 1 := by omega
      -- if odd == 1
      refine ⟨_, rfl, rfl, _, rfl, ?_⟩
      by_cases h1 : o = 1
      · refine iteD (congrArg V.int h1) ?_
        refine ⟨_, rfl, fun x dx nx ndx nex => ?_⟩
        refine ⟨x, dx, _, rfl, upd_same, fun H2 hP kp => ⟨rfl, ?_⟩⟩
        exact qP k x H2 (by rw [hno, h1, Int.mul_one]) kb (Same.made nx ndx kp) hP
      · refine iteDN (fun x => h1 (V.int.inj x)) ?_
        have h3 : 3 ≤ o := by omega
        have hdiv : n / o = 2 ^ k := by
          rw [hno, Int.mul_comm]
          exact Int.mul_ediv_cancel_left _ (by omega)
        have wd : CDivW n o := wide_div (b := 64) (by omega) (by omega) (by decide) (by decide)
        obtain ⟨f1, l1, hrow, hr, hf, hl⟩ := jrow (e := k) hodd h3 hno
        have hsm := isRow_small hn hn2 hr
        have key := fun (x : Addr) H2 => qS k o f1 l1 x H2 hno hodd h3 hrow hr hf hl
        have hk20 : (2 : Int) ^ k ≤ 1000000 := by
          have := Int.mul_le_mul_of_nonneg_left ho (show (0 : Int) ≤ 2 ^ k by omega)
          omega
        -- length
        refine ⟨_, rfl, _, rfl, _, rfl, _, _, rfl, rfl, wd, _, _, rfl, rfl, .inl ⟨by decide, by decide⟩, _, _, rfl, ?_⟩
        rw [hdiv]
        -- the test
        refine ⟨_, rfl, _, rfl, _, rfl, _, _, rfl, rfl, wd, _, _, rfl, rfl, .inl ⟨by decide, by decide⟩, rfl, _, rfl, ?_⟩
        unfold jlen at hrow
        by_cases hc : 2 * 2 ^ k < o
        · rw [if_pos hc] at hrow
          refine iteD (by rw [hdiv, if_pos hc]) ?_
          rw [if_pos hc]
          have hb : ib (2 * 2 ^ k) ≤ 2000000 := Nat.le_trans (ib_of (m := 64) (by omega)) (by decide)
          refine ⟨_, rfl, _, rfl, n, 2 * 2 ^ k, rfl, hn, hn2, by omega, hb, fun x H2 s2 hx => ?_⟩
          obtain ⟨t, rfl, ht⟩ := hx.pair hrow
          refine ⟨t, _, 0, _, rfl, rfl, SqT.of ht, atI_nat (j := 0) rfl, ?_⟩
          refine ⟨_, rfl, _, rfl, n, 2 * 2 ^ k, rfl, hn, hn2, by omega, hb, fun x H3 s3 hx => ?_⟩
          obtain ⟨t', rfl, ht'⟩ := hx.pair hrow
          refine ⟨t', _, 1, _, rfl, rfl, SqT.of ht', atI_nat (j := 1) rfl, fun x dx nx ndx nex => ?_⟩
          refine ⟨x, dx, _, _, rfl, upd_same, fun H4 hS kp => ⟨rfl, ?_⟩⟩
          exact key x H4 ((s2.trans s3).trans (Same.made nx ndx kp)) hS
        · rw [if_neg hc] at hrow
          refine iteDN (fun x => ?_) ?_
          · rw [hdiv, if_neg hc] at x
            have := V.int.inj x
            omega
          have hb : ib o ≤ 2000000 := Nat.le_trans (ib_of (m := 64) (by omega)) (by decide)
          refine ⟨_, rfl, _, rfl, n, o, rfl, hn, hn2, ho, hb, fun x H2 s2 hx => ?_⟩
          obtain ⟨t, rfl, ht⟩ := hx.pair hrow
          refine ⟨t, _, rfl, SqT.of ht, rfl, _, _, rfl, _, _, rfl, rfl, ?_⟩
          refine ⟨_, rfl, _, rfl, fun x dx nx ndx nex => ?_⟩
          refine ⟨x, dx, _, _, rfl, upd_same, fun H4 hS kp => ⟨rfl, ?_⟩⟩
          exact key x H4 (s2.trans (Same.made nx ndx kp)) hS
end
end NB

set_option Elab.async false
set_option maxRecDepth 100000
set_option pp.maxSteps 600
set_option maxHeartbeats 4000000
set_option linter.unusedVariables false
namespace NB
open PySem L2
section
variable {P : Program} {w : World} {K : PySem.W.Frag} {mg : Str → Option Value} {base : Heap}
abbrev s__law_are_pairs : Stmt := topS 30
theorem sc__law_are_pairs : FnScope ["_law_rows", "_law_row"] ["_law_rows"] (defScope s__law_are_pairs) := ⟨rfl, rfl, rfl, by decide +kernel, rfl, by decide +kernel, by decide +kernel⟩
theorem ok__law_are_pairs {f : Addr} {fd : FuncData} (F : Fun K "_law_are_pairs" "_law_are_pairs" s__law_are_pairs f fd) (B : Bt mg) (C__law_whole : Callee P w K mg base 1 "_law_whole" ["_law_number"] spWhole) : FnOk P w K mg base CX0 2 f fd ["_law_rows"] spPairs := by
  refine F.ok sc__law_are_pairs (fun vs H Q E h => ?_) (fun cdv A outer s H vs Q E hr h => ?_)
  · obtain ⟨_, _, rfl, _⟩ := h
    rfl
  · obtain ⟨a, ps, rfl, ⟨xs, g, hp⟩, q⟩ := h
    obtain ⟨f__law_whole, fd__law_whole, m__law_whole, k__law_whole, b__law_whole, G__law_whole⟩ := C__law_whole
    refine ⟨_, (pss_cons (ps_for PassesOwn.never rfl (pi_list (pv 0)) (pg_name (i := 1) sc__law_are_pairs.nd rfl (.inl rfl))
        (pss_cons (ps_if (PW.pt (pw_or (pt_not (pt_val (pe_callB call_isi (by rfl) B.isinstance_ (by decide +kernel) (pa_cons (pv 1) (pa_cons (pe_bltn (v := .ty "tuple") (by rfl) B.tuple_ (by decide +kernel) rfl) pa_nil))))) (pw_or1 (pt_cmpR op_ne (pe_callB call_len_seq (by rfl) B.len_ (by decide +kernel) (pa_cons (pv 1) pa_nil)) pe_int (nomark _))))) (pss_one (ps_ret pe_bl)) pss_nil)
        (pss_one (ps_if (PW.pt (pw_or (pt_not (pt_val (pe_call G__law_whole (hr.mono (by decide)) rfl m__law_whole k__law_whole b__law_whole .nil pass0 (pa_cons (pe_ix (r := rIxT K) ix_tup (pv 1) pe_int (fun _ _ => rfl)) pa_nil)))) (pw_or1 (pt_not (pt_val (pe_call G__law_whole (hr.mono (by decide)) rfl m__law_whole k__law_whole b__law_whole .nil pass0 (pa_cons (pe_ix (r := rIxT K) ix_tup (pv 1) pe_int (fun _ _ => rfl)) pa_nil))))))) (pss_one (ps_ret pe_bl)) pss_nil))))
      (pss_one (ps_ret pe_bl))), ?_⟩
    refine ⟨_, rfl, a, rfl, ⟨xs, SqL.of g⟩, ?_⟩
    refine for_list (xs := xs) (fun _ σ H' => ∃ x1, σ = [some (.ref a), x1] ∧ H' = H) ⟨_, rfl, rfl⟩ ?_ ?_ ?_
    · rintro i σ H' _ ⟨_, _, rfl⟩
      exact SqL.of g
    · rintro i x σ H' hx ⟨x1, rfl, rfl⟩
      obtain ⟨⟨f0, l0⟩, _, t, rfl, ht⟩ := hp.get hx
      refine ⟨_, rfl, _, _, _, _, true, rfl, .ty "tuple", .base (.tup ht), kit_ty (by decide +kernel), _, rfl, iteF ?_⟩
      refine ⟨_, rfl, t, _, rfl, .inr (SqT.of ht), rfl, _, rfl, iteNS rfl ?_⟩
      refine ⟨_, rfl, t, _, 0, _, rfl, rfl, SqT.of ht, atI_nat (j := 0) rfl, f0, rfl, _, rfl, iteF ?_⟩
      refine ⟨_, rfl, t, _, 1, _, rfl, rfl, SqT.of ht, atI_nat (j := 1) rfl, l0, rfl, _, rfl, iteF ?_⟩
      exact ⟨_, rfl, rfl⟩
    · rintro σ H' ⟨x1, rfl, rfl⟩
      exact q
abbrev s__law_rows_right : Stmt := topS 31
theorem sc__law_rows_right : FnScope ["_law_number", "_law_high", "_law_every", "_law_first", "_law_last", "_law_long", "_law_length", "_law_found"] ["_law_number"] (defScope s__law_rows_right) := ⟨rfl, rfl, rfl, by decide +kernel, rfl, by decide +kernel, by decide +kernel⟩
theorem ok__law_rows_right {f : Addr} {fd : FuncData} (F : Fun K "_law_rows_right" "_law_rows_right" s__law_rows_right f fd) (B : Bt mg) (C_high_rows : Callee P w K mg base 3 "high_rows" ["number"] spHigh) (C_all_rows : Callee P w K mg base 3 "all_rows" ["number"] spRows) (C_longest : Callee P w K mg base 4 "longest" ["number"] spLongest)
    (C_of_length : Callee P w K mg base 3 "of_length" ["number", "length"] spRow) (C__law_are_pairs : Callee P w K mg base 2 "_law_are_pairs" ["_law_rows"] spPairs) : FnOk P w K mg base CX0 5 f fd ["_law_number"] spNum := by
  refine F.ok sc__law_rows_right (fun vs H Q E h => ?_) (fun cdv A outer s H vs Q E hr h => ?_)
  · obtain ⟨_, rfl, _⟩ := h
    rfl
  · obtain ⟨n, rfl, n1, n2, q⟩ := h
    obtain ⟨f_high_rows, fd_high_rows, m_high_rows, k_high_rows, b_high_rows, G_high_rows⟩ := C_high_rows
    obtain ⟨f_all_rows, fd_all_rows, m_all_rows, k_all_rows, b_all_rows, G_all_rows⟩ := C_all_rows
    obtain ⟨f_longest, fd_longest, m_longest, k_longest, b_longest, G_longest⟩ := C_longest
    obtain ⟨f_of_length, fd_of_length, m_of_length, k_of_length, b_of_length, G_of_length⟩ := C_of_length
    obtain ⟨f__law_are_pairs, fd__law_are_pairs, m__law_are_pairs, k__law_are_pairs, b__law_are_pairs, G__law_are_pairs⟩ := C__law_are_pairs
    refine ⟨_, (pss_cons (ps_par (i := 1) (j := 2) rfl sc__law_rows_right.nd rfl rfl (by decide) rfl rfl (pa_cons (pe_call G_high_rows (hr.mono (by decide)) rfl m_high_rows k_high_rows b_high_rows .nil pass0 (pa_cons (pv 0) pa_nil)) (pa_cons (pe_call G_all_rows (hr.mono (by decide)) rfl m_all_rows k_all_rows b_all_rows .nil pass0 (pa_cons (pv 0) pa_nil)) pa_nil)) (by rfl))
      (pss_cons (ps_if (PW.pt (pw_or (pt_not (pt_val (pe_call G__law_are_pairs (hr.mono (by decide)) rfl m__law_are_pairs k__law_are_pairs b__law_are_pairs .nil pass0 (pa_cons (pe_op op_cat (pe_op op_cat (pv 1) (pv 2)) (pe_lst (pa_cons (pe_call G_longest (hr.mono (by decide)) rfl m_longest k_longest b_longest .nil pass0 (pa_cons (pv 0) pa_nil)) pa_nil))) pa_nil)))) (pw_or1 (pt_cmpR op_ne (pe_callB call_len_seq (by rfl) B.len_ (by decide +kernel) (pa_cons (pv 2) pa_nil)) (pe_op op_mul pe_int (pe_callB call_len_seq (by rfl) B.len_ (by decide +kernel) (pa_cons (pv 1) pa_nil))) (nomark _))))) (pss_one (ps_ret pe_bl)) pss_nil)
      (pss_cons (ps_if (PW.pt (pw_or (pt_cmpR (r := rNeD K) (op_neD hr.units) (pv 1) (pe_sortedSet rfl (by rfl) B.sorted_ (by rfl) B.set_ hr.units (pv 1)) (nomark _)) (pw_or (pt_cmpR (r := rNeD K) (op_neD hr.units) (pv 2) (pe_sortedSet rfl (by rfl) B.sorted_ (by rfl) B.set_ hr.units (pv 2)) (nomark _)) (pw_or1 (pt_cmpR (r := rNeD K) (op_neD hr.units) (pe_call G_longest (hr.mono (by decide)) rfl m_longest k_longest b_longest .nil pass0 (pa_cons (pv 0) pa_nil)) (pe_ix (r := rIxL K) ix_list (pv 1) pe_int (fun _ _ => rfl)) (nomark _)))))) (pss_one (ps_ret pe_bl)) pss_nil)
      (pss_cons (ps_for PassesOwn.never rfl (pi_list (pv 2)) (pg_tup rfl (pgs_cons (pg_name (i := 3) sc__law_rows_right.nd rfl (.inl rfl)) (pgs_cons (pg_name (i := 4) sc__law_rows_right.nd rfl (.inl rfl)) pgs_nil)))
        (pss_cons (ps_if (PW.pt (pw_or (pt_cmpR op_gt (pv 3) (pv 4) (nomark _)) (pw_or1 (pt_cmpR op_ne (pe_op op_mulX (pe_op op_add (pv 3) (pv 4)) (pe_op op_add (pe_op op_sub (pv 4) (pv 3)) pe_int)) (pe_op op_mul pe_int (pv 0)) (nomark _))))) (pss_one (ps_ret pe_bl)) pss_nil)
        (pss_one (ps_if (pt_cmpR op_ne (pe_cmpR (r := rInD K) (op_inD (r65 hr)) (pe_tup (pa_cons (pv 3) (pa_cons (pv 4) pa_nil))) (pv 1) (by rfl)) (pe_cmpR op_gt (pv 3) pe_int (nomark _)) (nomark _)) (pss_one (ps_ret pe_bl)) pss_nil))))
      (pss_cons (ps_for PassesOwn.never rfl (pi_list (pe_op op_cat (pe_slice sl_list (pv 1) po_none (po_some pe_int)) (pe_slice sl_list (pv 1) (po_some (pe_un un_neg pe_int)) po_none))) (pg_tup rfl (pgs_cons (pg_name (i := 3) sc__law_rows_right.nd rfl (.inl rfl)) (pgs_cons (pg_name (i := 4) sc__law_rows_right.nd rfl (.inl rfl)) pgs_nil)))
        (pss_cons (ps_set (i := 5) sc__law_rows_right.nd rfl (Or.inl rfl) (pe_op op_add (pe_op op_sub (pv 4) (pv 3)) pe_int))
        (pss_cons (ps_if (pt_cmpR (r := rNeD K) (op_neD hr.units) (pe_call G_of_length (hr.mono (by decide)) rfl m_of_length k_of_length b_of_length .nil pass0 (pa_cons (pv 0) (pa_cons (pv 5) pa_nil))) (pe_tup (pa_cons (pv 3) (pa_cons (pv 4) pa_nil))) (nomark _)) (pss_one (ps_ret pe_bl)) pss_nil)
        (pss_cons (ps_if (pt_cmpR (r := rNeD K) (op_neD hr.units) (pe_call G_of_length (hr.mono (by decide)) rfl m_of_length k_of_length b_of_length .nil pass0 (pa_cons (pv 0) (pa_cons (pe_op op_add (pv 3) (pv 4)) pa_nil))) (pe_tup (pa_cons (pe_op op_sub pe_int (pv 3)) (pa_cons (pv 4) pa_nil))) (nomark _)) (pss_one (ps_ret pe_bl)) pss_nil)
        (pss_one (ps_for PassesOwn.never rfl (pi_tup (pe_tup (pa_cons (pe_op op_sub (pv 5) pe_int) (pa_cons (pe_op op_add (pv 5) pe_int) (pa_cons (pe_op op_sub (pe_op op_add (pv 3) (pv 4)) pe_int) (pa_cons (pe_op op_add (pe_op op_add (pv 3) (pv 4)) pe_int) pa_nil)))))) (pg_name (i := 6) sc__law_rows_right.nd rfl (.inl rfl))
          (pss_one (ps_if (pt_cmpR op_gt (pv 6) pe_int (nomark _)) (pss_cons (ps_set (i := 7) sc__law_rows_right.nd rfl (Or.inl rfl) (pe_call G_of_length (hr.mono (by decide)) rfl m_of_length k_of_length b_of_length .nil pass0 (pa_cons (pv 0) (pa_cons (pv 6) pa_nil))))
            (pss_cons (ps_if (PW.pt (pw_and (pt_cmpR op_notN (pv 7) pe_non (nomark _)) (pw_and1 (pt_not (pt_val (pe_call G__law_are_pairs (hr.mono (by decide)) rfl m__law_are_pairs k__law_are_pairs b__law_are_pairs .nil pass0 (pa_cons (pe_lst (pa_cons (pv 7) pa_nil)) pa_nil))))))) (pss_one (ps_ret pe_bl)) pss_nil)
            (pss_one (ps_if (pt_cmpR op_ne (pe_cmpR op_notN (pv 7) pe_non (nomark _)) (pe_cmpR (r := rInD K) (op_inD (r65 hr)) (pv 7) (pv 2) (by rfl)) (nomark _)) (pss_one (ps_ret pe_bl)) pss_nil)))) pss_nil))))))))
      (pss_cons (ps_for PassesOwn.never rfl (pi_tup (pe_tup (pa_cons (pe_op op_add (pv 0) pe_int) (pa_cons (pe_op op_add (pe_op op_mul pe_int (pv 0)) pe_int) (pa_cons (pe_op op_add (pe_op op_pow pe_int pe_int) (pv 0)) pa_nil))))) (pg_name (i := 6) sc__law_rows_right.nd rfl (.inl rfl))
        (pss_one (ps_if (PW.pt (pw_and (pt_cmpR op_ne (pv 6) (pe_op op_mul pe_int (pv 0)) (nomark _)) (pw_and1 (pt_cmpR op_notN (pe_call G_of_length (hr.mono (by decide)) rfl m_of_length k_of_length b_of_length .nil pass0 (pa_cons (pv 0) (pa_cons (pv 6) pa_nil))) pe_non (nomark _))))) (pss_one (ps_ret pe_bl)) pss_nil)))
      (pss_one (ps_ret (pe_cmpR (r := rEqD K) (op_eqD hr.units) (pe_call G_of_length (hr.mono (by decide)) rfl m_of_length k_of_length b_of_length .nil pass0 (pa_cons (pv 0) (pa_cons (pe_op op_mul pe_int (pv 0)) pa_nil))) (pe_tup (pa_cons (pe_op op_sub pe_int (pv 0)) (pa_cons (pv 0) pa_nil))) (nomark _)))))))))), ?_⟩
    -- the two lists
    refine ⟨_, rfl, n, rfl, n1, n2, fun ps ph H1 hps hlp s1 nph lh => ?_⟩
    refine ⟨_, rfl, n, rfl, n1, n2, fun es pe H2 hes hle s2 npe le => ⟨_, _, rfl, ?_⟩⟩
    have lh2 : LP H2 ph ps := LP.same s2 lh
    have s12 := s1.trans s2
    have htw := rows_twice (by omega) hps hes
    obtain ⟨xh, gh, ph2⟩ := lh2
    obtain ⟨xe, ge, pe2⟩ := le
    have hlh := ph2.length
    have hlE := pe2.length
    clear lh s1 s2
    -- all pairs; twice as many
    refine ⟨_, rfl, _, rfl, ph, pe, xh, xe, rfl, rfl, gh, ge, small_sum (by omega), fun p3 np3 => ?_⟩
    refine ⟨_, rfl, n, rfl, n1, n2, fun p0 ps0 x H3 hps0 s3 hx => ?_⟩
    cases HRows.uniq hps hps0
    refine ⟨(by show 1 ≤ sizeLine; decide), fun p4 np4 => ?_⟩
    have g3 : upd H2 p3 (.lst (xh ++ xe)) p3 = some (.lst (xh ++ xe)) := upd_same
    have s23 := Same.new (o := .lst (xh ++ xe)) np3
    have sH3 := (s12.trans s23).trans s3
    have g3' := s3 _ _ g3
    refine ⟨p3, p4, _, _, rfl, rfl, (Same.new np4) _ _ g3', upd_same, (by rw [List.length_append]; exact small_sum (show xh.length + xe.length + 1 ≤ 90000 by omega)), fun p5 np5 => ?_⟩
    have g5 : upd (upd H3 p4 (.lst [x])) p5 (.lst (xh ++ xe ++ [x])) p5 = some (.lst (xh ++ xe ++ [x])) := upd_same
    have s35 := (Same.new (o := .lst [x]) np4).trans (Same.new (o := .lst (xh ++ xe ++ [x])) np5)
    have s25 := (s23.trans s3).trans s35
    have sH5 := s12.trans s25
    have hx5 := hx.same s35
    have lh5 : LP _ ph (p0 :: ps0) := LP.same s25 ⟨xh, gh, ph2⟩
    have le5 : LP _ pe es := LP.same s25 ⟨xe, ge, pe2⟩
    have l5 : LP _ p5 ((p0 :: ps0) ++ es ++ [p0]) := ⟨_, g5, PL.append (PL.append (ph2.same s25) (pe2.same s25)) (.cons hx5 .nil)⟩
    generalize upd (upd H3 p4 (.lst [x])) p5 (.lst (xh ++ xe ++ [x])) = H5 at s25 sH5 hx5 lh5 le5 l5
    clear hx g3 g3' s23 sH3 s35 g5 gh ge ph2 pe2 s12 np4 np5 np3 s3 s25
    refine ⟨p5, _, rfl, l5, _, rfl, iteF ?_⟩
    obtain ⟨xh, gh, ph5, hlh⟩ := lh5.len
    obtain ⟨xe, ge, pe5, hle⟩ := le5.len
    refine ⟨_, rfl, pe, _, rfl, .inl (SqL.of ge), _, rfl, ph, _, rfl, .inl (SqL.of gh), _, _, rfl, rfl, .inl ⟨by decide, by decide⟩, rfl, _, rfl, iteNS (congrArg V.int (by rw [hle, htw, hlh]; omega)) ?_⟩
    -- sorted, no two alike
    refine ⟨_, rfl, _, rfl, ph, xh, (p0 :: ps0), rfl, SqL.of gh, ph5, lt_nodup hps.srt, by omega, fun ys qs r hys hsrt hperm nr => ?_⟩
    cases sorted_same hps.srt hsrt hperm
    have s6 := Same.new (o := .lst ys) nr
    refine rd_ne (lh5.same s6) ⟨ys, upd_same, hys.same s6⟩ ⟨_, rfl, iteNS rfl ?_⟩
    have lh6 := lh5.same s6
    have le6 := le5.same s6
    have sH6 := sH5.trans s6
    generalize upd H5 r (.lst ys) = H6 at lh6 le6 sH6
    clear s6 hys
    obtain ⟨xe6, ge6, pe6, hle6⟩ := le6.len
    refine ⟨_, rfl, _, rfl, pe, xe6, es, rfl, SqL.of ge6, pe6, lt_nodup hes.srt, by omega, fun ys2 qs2 r2 hys2 hsrt2 hperm2 nr2 => ?_⟩
    cases sorted_same hes.srt hsrt2 hperm2
    have s7 := Same.new (o := .lst ys2) nr2
    refine rd_ne (le6.same s7) ⟨ys2, upd_same, hys2.same s7⟩ ⟨_, rfl, iteNS rfl ?_⟩
    have lh7 := lh6.same s7
    have le7 := le6.same s7
    have sH7 := sH6.trans s7
    generalize upd H6 r2 (.lst ys2) = H7 at lh7 le7 sH7
    clear s7 hys2
    -- the longest is the first
    refine ⟨_, rfl, n, rfl, n1, n2, fun p0' ps0' x8 H8 hps8 s8 hx8 => ?_⟩
    have ee := HRows.uniq hps hps8
    obtain ⟨e1, e2⟩ := List.cons.inj ee
    subst e1 e2
    have lh8 := lh7.same s8
    have le8 := le7.same s8
    have sH8 := sH7.trans s8
    clear sH7 sH6 sH5 lh7 le7 lh6 le6 lh5 le5
    obtain ⟨xh8, gh8, ph8⟩ := id lh8
    obtain ⟨xe8, ge8, pe8⟩ := id le8
    cases ph8 with
    | cons hy0 hyr =>
    rename_i y0 xr
    refine ⟨_, rfl, ph, _, 0, _, rfl, rfl, SqL.of gh8, atI_nat (j := 0) rfl, ?_⟩
    refine rd_neP hx8 hy0 ⟨_, rfl, iteNS rfl ?_⟩
    -- each of all the rows
    refine ⟨_, rfl, pe, rfl, ⟨xe8, SqL.of ge8⟩, ?_⟩
    refine for_list (xs := xe8) (fun _ σ H' => ∃ x3 x4, σ = [some (.int n), some (.ref ph), some (.ref pe), x3, x4, none, none, none] ∧ Same H8 H') ⟨_, _, rfl, Same.refl _⟩ ?_ ?_ ?_
    · rintro i σ H' _ ⟨_, _, _, s9⟩
      exact SqL.of (s9 _ _ ge8)
    · rintro i x9 σ H9 hx9 ⟨x3, x4, rfl, s9⟩
      obtain ⟨⟨f0, l0⟩, hi, t, rfl, ht⟩ := (pe8.same s9).get hx9
      have hr0 := (hes.mem f0 l0).mp (List.mem_of_getElem? hi)
      have hsm := isRow_small n1 n2 hr0
      refine ⟨t, _, rfl, SqT.of ht, rfl, _, _, rfl, _, _, rfl, rfl, ?_⟩
      refine ⟨_, rfl, _, rfl, _, _, rfl, rfl, _, rfl, iteDN (show ¬ l0 < f0 by have := hr0.1; omega) ?_⟩
      refine ⟨_, rfl, _, rfl, _, _, rfl, rfl, _, rfl, _, rfl, _, _, rfl, rfl, _, _, rfl, rfl, _, _, rfl, rfl, mulx (ib_of (m := 64) (by omega)) (ib_of (m := 64) (by omega)) (by decide), _, rfl, _, _, rfl, rfl, .inl ⟨by decide, by decide⟩, rfl, _, rfl, iteNS (congrArg V.int hr0.2) ?_⟩
      refine ⟨_, rfl, _, rfl, (by show 2 ≤ sizeLine; decide), fun t2 nt2 => ⟨_, rfl, ?_⟩⟩
      refine rd_inP (p := (f0, l0)) (ps := p0 :: ps0) ⟨t2, rfl, upd_same⟩ ((lh8.same s9).same (Same.new nt2)) ?_
      have eb : decide ((f0, l0) ∈ p0 :: ps0) = decide (0 < f0) := decide_eq_decide.mpr ((hps.mem f0 l0).trans ⟨fun z => z.2, fun z => ⟨hr0, z⟩⟩)
      refine ⟨_, rfl, _, _, rfl, rfl, rfl, _, rfl, iteNS (congrArg V.bl eb) ?_⟩
      exact ⟨_, _, rfl, s9.trans (Same.new nt2)⟩
    · rintro σ H9 ⟨x3, x4, rfl, s9⟩
      have lh9 := lh8.same s9
      have le9 := le8.same s9
      have sH9 := sH8.trans s9
      clear gh8 ge8 hy0 hyr pe8 s9 lh8 le8 sH8 hx8
      obtain ⟨xh, gh, ph9, hlh⟩ := lh9.len
      -- the first three and the last three
      refine ⟨_, rfl, 3, rfl, ph, xh, rfl, SqL.of gh, fun pa npa => ?_⟩
      have sa := Same.new (o := .lst (cutV xh none (some 3))) npa
      refine ⟨_, rfl, _, rfl, -3, rfl, ph, xh, rfl, SqL.of (sa _ _ gh), fun pb npb => ?_⟩
      have sb := Same.new (o := .lst (cutV xh (some (-3)) none)) npb
      obtain ⟨qa, ca, ma, la⟩ := cut_pl ph9 none (some 3)
      obtain ⟨qb, cb, mb, lb⟩ := cut_pl ph9 (some (-3)) none
      have lca := ca.length
      have lcb := cb.length
      refine ⟨pa, pb, _, _, rfl, rfl, sb _ _ upd_same, upd_same, small_sum (by omega), fun pc npc => ?_⟩
      have sc := Same.new (o := .lst (cutV xh none (some 3) ++ cutV xh (some (-3)) none)) npc
      have sabc := (sa.trans sb).trans sc
      have pl := (PL.append ca cb).same sabc
      have mem : ∀ p ∈ qa ++ qb, p ∈ p0 :: ps0 := fun p hp => (List.mem_append.mp hp).elim (ma p) (mb p)
      have gc : upd (upd (upd H9 pa (.lst (cutV xh none (some 3)))) pb (.lst (cutV xh (some (-3)) none))) pc (.lst (cutV xh none (some 3) ++ cutV xh (some (-3)) none)) pc = some (.lst (cutV xh none (some 3) ++ cutV xh (some (-3)) none)) := upd_same
      have le10 := le9.same sabc
      have sH10 := sH9.trans sabc
      generalize hxs : cutV xh none (some 3) ++ cutV xh (some (-3)) none = xs at pl gc le10 sH10 ⊢
      generalize qa ++ qb = qs at pl mem
      generalize upd (upd (upd H9 pa (.lst (cutV xh none (some 3)))) pb (.lst (cutV xh (some (-3)) none))) pc (.lst xs) = H10 at pl gc le10 sH10 ⊢
      refine ⟨pc, rfl, ⟨xs, SqL.of gc⟩, ?_⟩
      have small : ∀ L : Int, L ≤ 2000100 → -100 ≤ L → ib L ≤ 2000000 := fun L a b => Nat.le_trans (ib_of (m := 64) (by omega)) (by decide)
      refine for_list (xs := xs) (fun _ σ H' => ∃ x3 x4 x5 x6 x7, σ = [some (.int n), some (.ref ph), some (.ref pe), x3, x4, x5, x6, x7] ∧ Same H10 H') ⟨_, _, _, _, _, rfl, Same.refl _⟩ ?_ ?_ ?_
      · rintro i σ H' _ ⟨_, _, _, _, _, _, s11⟩
        exact SqL.of (s11 _ _ gc)
      · rintro i y σ H11 hy ⟨x3, x4, x5, x6, x7, rfl, s11⟩
        obtain ⟨⟨f0, l0⟩, hi, t, rfl, ht⟩ := (pl.same s11).get hy
        have hm0 := (hps.mem f0 l0).mp (mem _ (List.mem_of_getElem? hi))
        have hr0 := hm0.1
        have hsm := isRow_small n1 n2 hr0
        have hlong := row_long hr0
        have hsum := row_sum n1 n2 hr0
        refine ⟨t, _, rfl, SqT.of ht, rfl, _, _, rfl, _, _, rfl, rfl, ?_⟩
        refine ⟨_, rfl, _, rfl, _, _, rfl, rfl, _, _, rfl, rfl, ?_⟩
        refine ⟨_, rfl, _, rfl, n, l0 - f0 + 1, rfl, n1, n2, by omega, small _ (by omega) (by omega), fun y1 H12 s12 hy1 => ?_⟩
        rw [hlong.2] at hy1
        refine ⟨_, rfl, _, rfl, (by show 2 ≤ sizeLine; decide), fun t3 nt3 => ?_⟩
        refine rd_neP (p := (f0, l0)) (q := (f0, l0)) (IsP.same (Same.new nt3) hy1) ⟨t3, rfl, upd_same⟩ ⟨_, rfl, iteNS rfl ?_⟩
        have s13 := (s11.trans s12).trans (Same.new (o := .tup [.int f0, .int l0]) nt3)
        generalize upd H12 t3 (.tup [.int f0, .int l0]) = H13 at s13
        refine ⟨_, rfl, _, rfl, _, rfl, _, _, rfl, rfl, n, f0 + l0, rfl, n1, n2, by omega, small _ (by omega) (by omega), fun y2 H14 s14 hy2 => ?_⟩
        rw [hsum] at hy2
        refine ⟨_, rfl, _, _, rfl, rfl, _, rfl, (by show 2 ≤ sizeLine; decide), fun t4 nt4 => ?_⟩
        refine rd_neP (p := (1 - f0, l0)) (q := (1 - f0, l0)) (IsP.same (Same.new nt4) hy2) ⟨t4, rfl, upd_same⟩ ⟨_, rfl, iteNS rfl ?_⟩
        have s15 := (s13.trans s14).trans (Same.new (o := .tup [.int (1 - f0), .int l0]) nt4)
        generalize upd H14 t4 (.tup [.int (1 - f0), .int l0]) = H15 at s15
        -- the lengths beside
        refine ⟨_, rfl, _, _, rfl, rfl, _, rfl, _, _, rfl, rfl, _, rfl, _, rfl, _, _, rfl, rfl, _, _, rfl, rfl, _, rfl, _, rfl, _, _, rfl, rfl, _, _, rfl, rfl, (by show 4 ≤ sizeLine; decide), fun t5 nt5 => ?_⟩
        refine ⟨t5, rfl, ⟨_, SqT.of upd_same⟩, ?_⟩
        have g5 : upd H15 t5 (.tup ([l0 - f0 + 1 - 1, l0 - f0 + 1 + 1, f0 + l0 - 1, f0 + l0 + 1].map V.int)) t5 = some (.tup ([l0 - f0 + 1 - 1, l0 - f0 + 1 + 1, f0 + l0 - 1, f0 + l0 + 1].map V.int)) := upd_same
        have s16 := s15.trans (Same.new (o := .tup ([l0 - f0 + 1 - 1, l0 - f0 + 1 + 1, f0 + l0 - 1, f0 + l0 + 1].map V.int)) nt5)
        refine for_tup (xs := [l0 - f0 + 1 - 1, l0 - f0 + 1 + 1, f0 + l0 - 1, f0 + l0 + 1].map V.int) (fun _ σ H' => ∃ x6 x7, σ = [some (.int n), some (.ref ph), some (.ref pe), some (.int f0), some (.int l0), some (.int (l0 - f0 + 1)), x6, x7] ∧ Same (upd H15 t5 (.tup ([l0 - f0 + 1 - 1, l0 - f0 + 1 + 1, f0 + l0 - 1, f0 + l0 + 1].map V.int))) H') ⟨_, _, rfl, Same.refl _⟩ ?_ ?_ ?_
        · rintro j σ H' _ ⟨_, _, _, s17⟩
          exact SqT.of (s17 _ _ g5)
        · rintro j z σ H17 hz ⟨x6, x7, rfl, s17⟩
          obtain ⟨L, hL, rfl⟩ := List.mem_map.mp (List.mem_of_getElem? hz)
          have hL2 : L ≤ 2000001 ∧ -100 ≤ L := by
            simp only [List.mem_cons, List.not_mem_nil, or_false] at hL
            omega
          refine ⟨_, rfl, _, _, rfl, rfl, _, rfl, ?_⟩
          refine ite2 (fun hc => ?_) fun hc => ?_
          · have hc := of_decide_eq_true hc
            refine ⟨_, rfl, _, rfl, n, L, rfl, n1, n2, by omega, small _ (by omega) (by omega), fun y3 H18 s18 hy3 => ?_⟩
            have le18 := le10.same ((s16.trans s17).trans s18)
            cases hro : rowOf n L with
            | none =>
              rw [hro] at hy3
              cases (show y3 = .non from hy3)
              refine ⟨_, rfl, rfl, _, rfl, iteNS rfl ?_⟩
              refine ⟨_, rfl, rfl, _, rfl, _, rfl, ?_⟩
              refine rd_inN le18 ⟨rfl, _, rfl, iteNS rfl ?_⟩
              exact ⟨_, _, rfl, s17.trans s18⟩
            | some fl =>
              rw [hro] at hy3
              obtain ⟨t6, rfl, h6⟩ := (show IsP H18 y3 fl from hy3)
              have hin : fl ∈ es := by
                obtain ⟨g, k⟩ := fl
                exact (hes.mem g k).mpr ((rowOf_iff (by omega)).mp hro).2
              refine ⟨_, rfl, rfl, _, rfl, itB rfl ?_⟩
              refine ⟨_, rfl, (by show 1 ≤ sizeLine; decide), fun p6 np6 => ?_⟩
              have s19 := Same.new (o := .lst [.ref t6]) np6
              refine ⟨p6, [fl], rfl, ⟨_, upd_same, .cons ⟨t6, rfl, s19 _ _ h6⟩ .nil⟩, _, rfl, iteF ?_⟩
              refine ⟨_, rfl, rfl, _, rfl, _, rfl, ?_⟩
              refine rd_inP (p := fl) ⟨t6, rfl, s19 _ _ h6⟩ (le18.same s19) ⟨rfl, _, rfl, iteNS (congrArg V.bl (decide_eq_true hin).symm) ?_⟩
              exact ⟨_, _, rfl, (s17.trans s18).trans s19⟩
          · exact ⟨_, _, rfl, s17⟩
        · rintro σ H17 ⟨x6, x7, rfl, s17⟩
          exact ⟨_, _, _, _, _, rfl, s16.trans s17⟩
      · rintro σ H11 ⟨x3, x4, x5, x6, x7, rfl, s11⟩
        have sH11 := sH10.trans s11
        have huge : ∀ L : Int, L ≤ 200000000000000000000 → -100 ≤ L → ib L ≤ 2000000 := fun L a b => Nat.le_trans (ib_of (m := 70) (by omega)) (by decide)
        refine ⟨_, rfl, _, _, rfl, rfl, _, rfl, _, _, rfl, rfl, .inl ⟨by decide, by decide⟩, _, _, rfl, rfl, _, _, rfl, rfl, ⟨by decide, by decide, by decide⟩, _, rfl, _, _, rfl, rfl, (by show 3 ≤ sizeLine; decide), fun t5 nt5 => ?_⟩
        refine ⟨t5, rfl, ⟨_, SqT.of upd_same⟩, ?_⟩
        have g5 : upd H11 t5 (.tup ([n + 1, 2 * n + 1, 10 ^ 20 + n].map V.int)) t5 = some (.tup ([n + 1, 2 * n + 1, 10 ^ 20 + n].map V.int)) := upd_same
        have s16 := sH11.trans (Same.new (o := .tup ([n + 1, 2 * n + 1, 10 ^ 20 + n].map V.int)) nt5)
        refine for_tup (xs := [n + 1, 2 * n + 1, 10 ^ 20 + n].map V.int) (fun _ σ H' => ∃ x3 x4 x5 x6 x7, σ = [some (.int n), some (.ref ph), some (.ref pe), x3, x4, x5, x6, x7] ∧ Same (upd H11 t5 (.tup ([n + 1, 2 * n + 1, 10 ^ 20 + n].map V.int))) H') ⟨_, _, _, _, _, rfl, Same.refl _⟩ ?_ ?_ ?_
        · rintro j σ H' _ ⟨_, _, _, _, _, _, s17⟩
          exact SqT.of (s17 _ _ g5)
        · rintro j z σ H17 hz ⟨x3, x4, x5, x6, x7, rfl, s17⟩
          obtain ⟨L, hL, rfl⟩ := List.mem_map.mp (List.mem_of_getElem? hz)
          have e20 : (10 : Int) ^ 20 = 100000000000000000000 := by decide
          have hL2 : n < L ∧ L ≤ 200000000000000000000 := by
            simp only [List.mem_cons, List.not_mem_nil, or_false] at hL
            rw [e20] at hL
            omega
          refine ⟨_, rfl, _, rfl, _, _, rfl, rfl, .inl ⟨by decide, by decide⟩, rfl, _, rfl, ?_⟩
          by_cases hc : L = 2 * n
          · exact iteNS (congrArg V.int hc) ⟨_, _, _, _, _, rfl, s17⟩
          · refine iteNN (fun x => hc (V.int.inj x)) ?_
            refine ⟨_, rfl, _, rfl, n, L, rfl, n1, n2, by omega, huge _ (by omega) (by omega), fun y3 H18 s18 hy3 => ?_⟩
            rw [row_none n1 hL2.1 hc] at hy3
            cases (show y3 = .non from hy3)
            exact ⟨rfl, _, rfl, iteNS rfl ⟨_, _, _, _, _, rfl, s17.trans s18⟩⟩
        · rintro σ H17 ⟨x3, x4, x5, x6, x7, rfl, s17⟩
          refine ⟨_, rfl, _, rfl, _, _, rfl, rfl, .inl ⟨by decide, by decide⟩, n, 2 * n, rfl, n1, n2, by omega, small _ (by omega) (by omega), fun y3 H18 s18 hy3 => ?_⟩
          rw [row_two n1] at hy3
          refine ⟨_, rfl, _, _, rfl, rfl, _, rfl, (by show 2 ≤ sizeLine; decide), fun t6 nt6 => ?_⟩
          refine rd_eqP (p := (1 - n, n)) (q := (1 - n, n)) (IsP.same (Same.new nt6) hy3) ⟨t6, rfl, upd_same⟩ ?_
          rw [decide_eq_true rfl]
          exact q _ (((s16.trans s17).trans s18).trans (Same.new nt6))
end
end NB

set_option Elab.async false
set_option maxRecDepth 100000
set_option pp.maxSteps 600
set_option maxHeartbeats 4000000
set_option linter.unusedVariables false
namespace NB
open PySem L2
section
variable {P : Program} {w : World} {K : PySem.W.Frag} {mg : Str → Option Value} {base : Heap}
abbrev s__law_far_right : Stmt := topS 32
theorem sc__law_far_right : FnScope ["_law_number", "_law_often", "_law_far", "_law_pairs", "_law_first", "_law_last"] ["_law_number"] (defScope s__law_far_right) := ⟨rfl, rfl, rfl, by decide +kernel, rfl, by decide +kernel, by decide +kernel⟩
theorem ok__law_far_right {f CS CP : Addr} {fd : FuncData} (F : Fun K "_law_far_right" "_law_far_right" s__law_far_right f fd) (B : Bt mg) (C_Sum : ClsF K mg "Sum" CS) (C_Power : ClsF K mg "Power" CP) (K_Sum : Makes P w K mg base CS ["self", "first", "last"] (spSumInit CS)) (K_Power : Makes P w K mg base CP ["self", "often"] (spPowInit CP))
    (S_Sum : HasM P w K mg base CS "shows" ["self", "number"] (spSumShows CS)) (S_Power : HasM P w K mg base CP "shows" ["self", "number"] (spPowShows CP)) : FnOk P w K mg base CX0 5 f fd ["_law_number"] spNum := by
  refine F.ok sc__law_far_right (fun vs H Q E h => ?_) (fun cdv A outer s H vs Q E hr h => ?_)
  · obtain ⟨_, rfl, _⟩ := h
    rfl
  · obtain ⟨n, rfl, n1, n2, q⟩ := h
    obtain ⟨fi_Sum, fdi_Sum, M_Sum, b_Sum, G_Sum⟩ := K_Sum
    have m_Sum := C_Sum.m
    obtain ⟨fi_Power, fdi_Power, M_Power, b_Power, G_Power⟩ := K_Power
    have m_Power := C_Power.m
    obtain ⟨f_shows_Sum, fd_shows_Sum, m_shows_Sum, b_shows_Sum, G_shows_Sum⟩ := S_Sum
    have c_shows_Sum := C_Sum.cl
    obtain ⟨f_shows_Power, fd_shows_Power, m_shows_Power, b_shows_Power, G_shows_Power⟩ := S_Power
    have c_shows_Power := C_Power.cl
    refine ⟨_, (pss_cons (ps_for PassesOwn.never rfl (pi_tup (pe_tup (pa_cons (pe_op op_pow pe_int pe_int) (pa_cons (pe_op op_pow pe_int pe_int) (pa_cons (pe_un un_neg (pe_op op_pow pe_int pe_int)) (pa_cons (pe_un un_neg pe_int) (pa_cons pe_int (pa_cons pe_int pa_nil)))))))) (pg_name (i := 1) sc__law_far_right.nd rfl (.inl rfl))
        (pss_one (ps_if (pt_cmpR op_notBl (pe_meth (pe_make M_Power G_Power (hr.mono (by decide)) rfl m_Power b_Power .nil pass0 (pa_cons (pv 1) pa_nil)) c_shows_Power m_shows_Power G_shows_Power (hr.mono (by decide)) b_shows_Power .nil pass0 (pa_cons (pv 0) pa_nil)) pe_bl (nomark _)) (pss_one (ps_ret pe_bl)) pss_nil)))
      (pss_cons (ps_set (i := 2) sc__law_far_right.nd rfl (Or.inl rfl) (pe_op op_pow pe_int pe_int))
      (pss_cons (ps_set (i := 3) sc__law_far_right.nd rfl (Or.inl rfl) (pe_lst (pa_cons (pe_tup (pa_cons (pe_un un_neg (pv 2)) (pa_cons (pv 2) pa_nil))) (pa_cons (pe_tup (pa_cons (pe_op op_sub pe_int (pv 2)) (pa_cons (pe_op op_add (pv 2) pe_int) pa_nil))) (pa_cons (pe_tup (pa_cons (pv 2) (pa_cons (pv 2) pa_nil))) (pa_cons (pe_tup (pa_cons (pv 2) (pa_cons (pe_un un_neg (pv 2)) pa_nil))) (pa_cons (pe_tup (pa_cons (pe_op op_sub pe_int (pv 2)) (pa_cons (pv 2) pa_nil))) pa_nil)))))))
      (pss_cons (ps_set (i := 3) sc__law_far_right.nd rfl (Or.inl rfl) (pe_op op_cat (pv 3) (pe_lst (pa_cons (pe_tup (pa_cons (pe_un un_neg (pv 0)) (pa_cons (pv 0) pa_nil))) (pa_cons (pe_tup (pa_cons (pv 0) (pa_cons (pv 0) pa_nil))) (pa_cons (pe_tup (pa_cons (pe_op op_sub pe_int (pv 0)) (pa_cons (pv 0) pa_nil))) pa_nil))))))
      (pss_one (ps_ret (pe_callB (cr_all rfl) (by rfl) B.all_ (by decide +kernel) (pa_cons (pe_lc (g := (gTup K 2 (gCons (gName 4) (gCons (gName 5) gNil)))) (own := [("_law_first", 4), ("_law_last", 5)]) rfl sc__law_far_right.nd (pi_list (pv 3)) (blkOk_by (N := ["_law_number", "_law_often", "_law_far", "_law_pairs", "_law_first", "_law_last"]) (sc := defScope s__law_far_right) (by decide +kernel)) (fun _ _ _ _ _ => (pg_tup rfl (pgs_cons (pg_name (i := 4) sc__law_far_right.nd rfl (.inl rfl)) (pgs_cons (pg_name (i := 5) sc__law_far_right.nd rfl (.inl rfl)) pgs_nil)))) (fun _ _ _ _ _ => pts_nil) (fun _ _ _ _ _ => (pe_cmpR op_isBl (pe_meth (pe_make M_Sum G_Sum (hr.mono (by decide)) rfl m_Sum b_Sum .nil pass0 (pa_cons (pv 4) (pa_cons (pv 5) pa_nil))) c_shows_Sum m_shows_Sum G_shows_Sum (hr.mono (by decide)) b_shows_Sum .nil pass0 (pa_cons (pv 0) pa_nil)) pe_bl (nomark _)))) pa_nil)))))))), ?_⟩
    refine ⟨_, _, rfl, rfl, ⟨by decide, by decide, by decide⟩, _, _, rfl, rfl, ⟨by decide, by decide, by decide⟩, _, _, rfl, rfl, ⟨by decide, by decide, by decide⟩, _, rfl, _, rfl, (by show 6 ≤ sizeLine; decide), fun t0 nt0 => ?_⟩
    refine ⟨t0, rfl, ⟨_, SqT.of upd_same⟩, ?_⟩
    have e9 : (10 : Int) ^ Int.toNat 9 = 1000000000 := by decide
    have e20 : (10 : Int) ^ Int.toNat 20 = 100000000000000000000 := by decide
    have g0 : upd H t0 (.tup (([10 ^ Int.toNat 9, 10 ^ Int.toNat 20, -(10 ^ Int.toNat 20), -1, 64, 200] : List Int).map V.int)) t0 = some (.tup (([10 ^ Int.toNat 9, 10 ^ Int.toNat 20, -(10 ^ Int.toNat 20), -1, 64, 200] : List Int).map V.int)) := upd_same
    have s0 := Same.new (o := .tup (([10 ^ Int.toNat 9, 10 ^ Int.toNat 20, -(10 ^ Int.toNat 20), -1, 64, 200] : List Int).map V.int)) nt0
    refine for_tup (xs := ([10 ^ Int.toNat 9, 10 ^ Int.toNat 20, -(10 ^ Int.toNat 20), -1, 64, 200] : List Int).map V.int) (fun _ σ H' => ∃ x1, σ = [some (.int n), x1, none, none, none, none] ∧ Same (upd H t0 (.tup (([10 ^ Int.toNat 9, 10 ^ Int.toNat 20, -(10 ^ Int.toNat 20), -1, 64, 200] : List Int).map V.int))) H') ⟨_, rfl, Same.refl _⟩ ?_ ?_ ?_
    · rintro i σ H' _ ⟨_, _, s1⟩
      exact SqT.of (s1 _ _ g0)
    · rintro i xv σ H1 hx ⟨x1, rfl, s1⟩
      obtain ⟨z, hz, rfl⟩ := List.mem_map.mp (List.mem_of_getElem? hx)
      refine ⟨_, rfl, fun x dx nx ndx nex => ?_⟩
      refine ⟨x, dx, z, rfl, upd_same, fun H2 hP kp => ⟨rfl, ?_⟩⟩
      obtain ⟨dx', hx2⟩ := id hP
      have hno : powSays z n 40 = false := by
        unfold powSays
        refine decide_eq_false fun hh => ?_
        simp only [List.mem_cons, List.not_mem_nil, or_false] at hz
        rw [e9, e20] at hz
        omega
      refine ⟨x, dx', _, rfl, hx2, powF_shows _, _, rfl, x, z, n, rfl, hP, ?_⟩
      rw [hno]
      exact ⟨_, _, rfl, rfl, _, rfl, iteF ⟨_, rfl, s1.trans (Same.made nx ndx kp)⟩⟩
    · rintro σ H1 ⟨x1, rfl, s1⟩
      refine ⟨_, _, rfl, rfl, ⟨by decide, by decide, by decide⟩, ?_⟩
      have sH1 := s0.trans s1
      dsimp only [gName, tSeq, tAsg]
      refine lst_lit (lit_cons (-(10 ^ Int.toNat 20)) (10 ^ Int.toNat 20) (fun _ _ qa => ⟨_, rfl, _, rfl, qa⟩) (fun _ _ qa => ⟨_, rfl, qa⟩) (lit_cons (1 - 10 ^ Int.toNat 20) (10 ^ Int.toNat 20 + 1) (fun _ _ qa => ⟨_, rfl, _, _, rfl, rfl, qa⟩) (fun _ _ qa => ⟨_, rfl, _, _, rfl, rfl, qa⟩)
        (lit_cons (10 ^ Int.toNat 20) (10 ^ Int.toNat 20) (fun _ _ qa => ⟨_, rfl, qa⟩) (fun _ _ qa => ⟨_, rfl, qa⟩) (lit_cons (10 ^ Int.toNat 20) (-(10 ^ Int.toNat 20)) (fun _ _ qa => ⟨_, rfl, qa⟩) (fun _ _ qa => ⟨_, rfl, _, rfl, qa⟩) (lit_cons (1 - 10 ^ Int.toNat 20) (10 ^ Int.toNat 20) (fun _ _ qa => ⟨_, rfl, _, _, rfl, rfl, qa⟩) (fun _ _ qa => ⟨_, rfl, qa⟩) lit_nil)))))
        (show 5 ≤ 90000 by decide) fun p1 xs1 H2 s2 g1 k1 => ?_
      refine ⟨_, rfl, ?_⟩
      refine lst_lit (lit_cons (-n) n (fun _ _ qa => ⟨_, rfl, _, rfl, qa⟩) (fun _ _ qa => ⟨_, rfl, qa⟩) (lit_cons n n (fun _ _ qa => ⟨_, rfl, qa⟩) (fun _ _ qa => ⟨_, rfl, qa⟩) (lit_cons (1 - n) n (fun _ _ qa => ⟨_, rfl, _, _, rfl, rfl, qa⟩) (fun _ _ qa => ⟨_, rfl, qa⟩) lit_nil))) (show 3 ≤ 90000 by decide) fun p2 xs2 H3 s3 g2 k2 => ?_
      have l1 := k1.length
      have l2 := k2.length
      refine ⟨p1, p2, xs1, xs2, rfl, rfl, s3 _ _ g1, g2, (by rw [l1, l2]; exact small_sum (show 8 ≤ 90000 by decide)), fun p3 np3 => ?_⟩
      have s4 := Same.new (o := .lst (xs1 ++ xs2)) np3
      have k3 := (PL.append (k1.same s3) k2).same s4
      have g3 : upd H3 p3 (.lst (xs1 ++ xs2)) p3 = some (.lst (xs1 ++ xs2)) := upd_same
      have sH4 := ((sH1.trans s2).trans s3).trans s4
      have l3 : (xs1 ++ xs2).length = 8 := by rw [List.length_append, l1, l2]; rfl
      generalize upd H3 p3 (.lst (xs1 ++ xs2)) = H4 at s4 k3 g3 sH4
      have no : ∀ p ∈ [(-(10 ^ Int.toNat 20 : Int), (10 ^ Int.toNat 20 : Int)), (1 - 10 ^ Int.toNat 20, 10 ^ Int.toNat 20 + 1), (10 ^ Int.toNat 20, 10 ^ Int.toNat 20), (10 ^ Int.toNat 20, -(10 ^ Int.toNat 20)), (1 - 10 ^ Int.toNat 20, 10 ^ Int.toNat 20)] ++ [(-n, n), (n, n), (1 - n, n)], ¬ (0 < p.1 ∧ p.1 < p.2) ∧ Sm p.1 ∧ Sm p.2 := by
        intro p hp
        simp only [List.cons_append, List.nil_append, List.mem_cons, List.not_mem_nil, or_false] at hp
        rw [e20] at hp
        unfold Sm
        rcases hp with rfl | rfl | rfl | rfl | rfl | rfl | rfl | rfl <;> simp only <;> omega
      generalize [(-(10 ^ Int.toNat 20 : Int), (10 ^ Int.toNat 20 : Int)), (1 - 10 ^ Int.toNat 20, 10 ^ Int.toNat 20 + 1), (10 ^ Int.toNat 20, 10 ^ Int.toNat 20), (10 ^ Int.toNat 20, -(10 ^ Int.toNat 20)), (1 - 10 ^ Int.toNat 20, 10 ^ Int.toNat 20)] ++ [(-n, n), (n, n), (1 - n, n)] = ps at k3 no l3
      generalize xs1 ++ xs2 = xs at k3 g3 l3
      refine ⟨_, rfl, p3, rfl, ⟨xs, SqL.of g3⟩, fun D nD => ?_⟩
      refine lc_list (xs := xs) (fun i H' => Same H4 H' ∧ H' D = some (.lst ((List.replicate i true).map V.bl))) ⟨Same.new nD, upd_same⟩ ?_ ?_ ?_
      · rintro i H' _ ⟨s5, _⟩
        exact SqL.of (s5 _ _ g3)
      · rintro i xv H5 hx ⟨s5, gD⟩
        have hi : i < 8 := by
          have := (List.getElem?_eq_some_iff.mp hx).1
          omega
        obtain ⟨⟨a, b⟩, hpi, t, rfl, ht⟩ := k3.get hx
        obtain ⟨hno, sa, sb⟩ := no _ (List.mem_of_getElem? hpi)
        have hsays : sumSays a b n = false := by
          unfold sumSays
          exact decide_eq_false fun hh => hno ⟨hh.1, hh.2.1⟩
        refine ⟨t, _, rfl, SqT.of (s5 _ _ ht), rfl, _, _, rfl, _, _, rfl, rfl, rfl, ?_⟩
        refine ⟨_, rfl, _, rfl, fun x dx nx ndx nex => ?_⟩
        refine ⟨x, dx, a, b, rfl, upd_same, fun H6 hS kp => ⟨rfl, ?_⟩⟩
        obtain ⟨dx', hx6⟩ := id hS
        refine ⟨x, dx', _, rfl, hx6, sumF_shows _ _, _, rfl, x, a, b, n, rfl, hS, sa.ib, sb.ib, ?_⟩
        rw [hsays]
        have s6 := Same.made nx ndx kp
        refine ⟨_, _, rfl, rfl, _, s6 _ _ gD, small1000' (by rw [List.length_map, List.length_replicate]; omega), Same.mut (s5.trans s6) nD, ?_⟩
        rw [upd_same, List.replicate_succ', List.map_append]
        rfl
      · rintro H5 ⟨s5, gD⟩
        refine ⟨D, _, rfl, SqL.of gD, ?_⟩
        have ea : (List.replicate xs.length true).all id = true := by
          rw [List.all_eq_true]
          intro b hb
          exact (List.mem_replicate.mp hb).2
        rw [ea]
        exact q H5 (sH4.trans s5)
end
end NB

set_option Elab.async false
set_option maxRecDepth 100000
set_option pp.maxSteps 600
set_option maxHeartbeats 4000000
set_option linter.unusedVariables false
namespace NB
open PySem L2
section
variable {P : Program} {w : World} {K : PySem.W.Frag} {mg : Str → Option Value} {base : Heap}
abbrev s__law_known_right : Stmt := topS 33
theorem sc__law_known_right : FnScope ["_law_kind", "_law_rows", "_law_number", "_law_many", "_law_alone", "_law_first", "_law_last", "_law_found"] ["_law_kind"] (defScope s__law_known_right) := ⟨rfl, rfl, rfl, by decide +kernel, rfl, by decide +kernel, by decide +kernel⟩
theorem ok__law_known_right {f CA CS CP : Addr} {fd : FuncData} (F : Fun K "_law_known_right" "_law_known_right" s__law_known_right f fd) (B : Bt mg) (C_Sum : ClsF K mg "Sum" CS) (C_Power : ClsF K mg "Power" CP) (T : Kit K CA CS CP) (nf : NoAttr K CS "first") (nl : NoAttr K CS "last") (no : NoAttr K CP "often")
    (S_Sum : HasM P w K mg base CS "shows" ["self", "number"] (spSumShows CS)) (C_high_rows : Callee P w K mg base 3 "high_rows" ["number"] spHigh) (C_all_rows : Callee P w K mg base 3 "all_rows" ["number"] spRows) (C_longest : Callee P w K mg base 4 "longest" ["number"] spLongest)
    (C_of_length : Callee P w K mg base 3 "of_length" ["number", "length"] spRow) (C_judged : Callee P w K mg base 3 "judged" ["number"] (spJudged CS CP)) (C__law_whole : Callee P w K mg base 1 "_law_whole" ["_law_number"] spWhole) (C_least_with : Callee P w K mg base 9 "least_with" ["many"] spLeastWith) :
    FnOk P w K mg base CX0 10 f fd ["_law_kind"] spKnown := by
  refine F.ok sc__law_known_right (fun vs H Q E h => ?_) (fun cdv A outer s H vs Q E hr h => ?_)
  · obtain ⟨_, rfl, _⟩ := h
    rfl
  · obtain ⟨kind, rfl, k0, q⟩ := h
    obtain ⟨f_high_rows, fd_high_rows, m_high_rows, k_high_rows, b_high_rows, G_high_rows⟩ := C_high_rows
    obtain ⟨f_all_rows, fd_all_rows, m_all_rows, k_all_rows, b_all_rows, G_all_rows⟩ := C_all_rows
    obtain ⟨f_longest, fd_longest, m_longest, k_longest, b_longest, G_longest⟩ := C_longest
    obtain ⟨f_of_length, fd_of_length, m_of_length, k_of_length, b_of_length, G_of_length⟩ := C_of_length
    obtain ⟨f_judged, fd_judged, m_judged, k_judged, b_judged, G_judged⟩ := C_judged
    obtain ⟨f__law_whole, fd__law_whole, m__law_whole, k__law_whole, b__law_whole, G__law_whole⟩ := C__law_whole
    obtain ⟨f_least_with, fd_least_with, m_least_with, k_least_with, b_least_with, G_least_with⟩ := C_least_with
    have m_Sum := C_Sum.m
    have m_Power := C_Power.m
    obtain ⟨f_shows_Sum, fd_shows_Sum, m_shows_Sum, b_shows_Sum, G_shows_Sum⟩ := S_Sum
    have c_shows_Sum := C_Sum.cl
    refine ⟨_, (pss_cons (ps_set (i := 1) sc__law_known_right.nd rfl (Or.inl rfl) (pe_lst (pa_cons (pe_tup (pa_cons pe_int (pa_cons pe_int pa_nil))) (pa_cons (pe_tup (pa_cons pe_int (pa_cons pe_int pa_nil))) (pa_cons (pe_tup (pa_cons pe_int (pa_cons pe_int pa_nil))) (pa_cons (pe_tup (pa_cons pe_int (pa_cons pe_int pa_nil))) (pa_cons (pe_tup (pa_cons pe_int (pa_cons pe_int pa_nil))) (pa_cons (pe_tup (pa_cons pe_int (pa_cons pe_int pa_nil))) (pa_cons (pe_tup (pa_cons pe_int (pa_cons pe_int pa_nil))) pa_nil)))))))))
      (pss_cons (ps_asg (pe_ix (r := rIxL K) ix_list (pv 1) (pe_op op_mod (pv 0) pe_int) (fun _ _ => rfl)) (pg_tup rfl (pgs_cons (pg_name (i := 2) sc__law_known_right.nd rfl (.inl rfl)) (pgs_cons (pg_name (i := 3) sc__law_known_right.nd rfl (.inl rfl)) pgs_nil))))
      (pss_cons (ps_if (PW.pt (pw_or (pt_cmpR op_ne (pe_callB call_len_seq (by rfl) B.len_ (by decide +kernel) (pa_cons (pe_call G_high_rows (hr.mono (by decide)) rfl m_high_rows k_high_rows b_high_rows .nil pass0 (pa_cons (pv 2) pa_nil)) pa_nil)) (pv 3) (nomark _)) (pw_or1 (pt_cmpR op_ne (pe_callB call_len_seq (by rfl) B.len_ (by decide +kernel) (pa_cons (pe_call G_all_rows (hr.mono (by decide)) rfl m_all_rows k_all_rows b_all_rows .nil pass0 (pa_cons (pv 2) pa_nil)) pa_nil)) (pe_op op_mul pe_int (pv 3)) (nomark _))))) (pss_one (ps_ret pe_bl)) pss_nil)
      (pss_cons (ps_if (PW.pt (pw_or (pt_cmpR (r := rNeD K) (op_neD hr.units) (pe_call G_longest (hr.mono (by decide)) rfl m_longest k_longest b_longest .nil pass0 (pa_cons pe_int pa_nil)) (pe_tup (pa_cons pe_int (pa_cons pe_int pa_nil))) (nomark _)) (pw_or1 (pt_cmpR (r := rNeD K) (op_neD hr.units) (pe_call G_of_length (hr.mono (by decide)) rfl m_of_length k_of_length b_of_length .nil pass0 (pa_cons pe_int (pa_cons pe_int pa_nil))) (pe_tup (pa_cons pe_int (pa_cons pe_int pa_nil))) (nomark _))))) (pss_one (ps_ret pe_bl)) pss_nil)
      (pss_cons (ps_if (PW.pt (pw_or (pt_cmpR (r := rNeD K) (op_neD hr.units) (pe_call G_longest (hr.mono (by decide)) rfl m_longest k_longest b_longest .nil pass0 (pa_cons pe_int pa_nil)) (pe_tup (pa_cons pe_int (pa_cons pe_int pa_nil))) (nomark _)) (pw_or1 (pt_cmpR (r := rNeD K) (op_neD hr.units) (pe_call G_of_length (hr.mono (by decide)) rfl m_of_length k_of_length b_of_length .nil pass0 (pa_cons pe_int (pa_cons pe_int pa_nil))) (pe_tup (pa_cons pe_int (pa_cons pe_int pa_nil))) (nomark _))))) (pss_one (ps_ret pe_bl)) pss_nil)
      (pss_cons (ps_set (i := 4) sc__law_known_right.nd rfl (Or.inl rfl) (pe_lst (pa_cons (pe_tup (pa_cons pe_int (pa_cons pe_int (pa_cons pe_int pa_nil)))) (pa_cons (pe_tup (pa_cons pe_int (pa_cons pe_int (pa_cons pe_int pa_nil)))) (pa_cons (pe_tup (pa_cons pe_int (pa_cons pe_int (pa_cons pe_int pa_nil)))) pa_nil)))))
      (pss_cons (ps_for PassesOwn.never rfl (pi_list (pv 4)) (pg_tup rfl (pgs_cons (pg_name (i := 2) sc__law_known_right.nd rfl (.inl rfl)) (pgs_cons (pg_name (i := 5) sc__law_known_right.nd rfl (.inl rfl)) (pgs_cons (pg_name (i := 6) sc__law_known_right.nd rfl (.inl rfl)) pgs_nil))))
        (pss_cons (ps_set (i := 7) sc__law_known_right.nd rfl (Or.inl rfl) (pe_call G_judged (hr.mono (by decide)) rfl m_judged k_judged b_judged .nil pass0 (pa_cons (pv 2) pa_nil)))
        (pss_cons (ps_if (PW.pt (pw_or (pt_not (pt_val (pe_callB call_isi (by rfl) B.isinstance_ (by decide +kernel) (pa_cons (pv 7) (pa_cons (pe_glob (v := .ref CS) rfl m_Sum rfl) pa_nil))))) (pw_or1 (pt_cmpR op_notBl (pe_meth (pv 7) c_shows_Sum m_shows_Sum G_shows_Sum (hr.mono (by decide)) b_shows_Sum .nil pass0 (pa_cons (pv 2) pa_nil)) pe_bl (nomark _))))) (pss_one (ps_ret pe_bl)) pss_nil)
        (pss_one (ps_if (pt_cmpR (r := rNeD K) (op_neD hr.units) (pe_lst (pa_cons (pe_fld (pv 7) rfl) (pa_cons (pe_fld (pv 7) rfl) pa_nil))) (pe_lst (pa_cons (pv 5) (pa_cons (pv 6) pa_nil))) (nomark _)) (pss_one (ps_ret pe_bl)) pss_nil)))))
      (pss_cons (ps_set (i := 7) sc__law_known_right.nd rfl (Or.inl rfl) (pe_call G_judged (hr.mono (by decide)) rfl m_judged k_judged b_judged .nil pass0 (pa_cons pe_int pa_nil)))
      (pss_one (ps_ret (pe_and (pe_callB call_isi (by rfl) B.isinstance_ (by decide +kernel) (pa_cons (pv 7) (pa_cons (pe_glob (v := .ref CP) rfl m_Power rfl) pa_nil))) (pe_and (pe_call G__law_whole (hr.mono (by decide)) rfl m__law_whole k__law_whole b__law_whole .nil pass0 (pa_cons (pe_fld (pv 7) rfl) pa_nil)) (pe_one (pe_call G__law_whole (hr.mono (by decide)) rfl m__law_whole k__law_whole b__law_whole .nil pass0 (pa_cons (pe_call G_least_with (hr.mono (by decide)) rfl m_least_with k_least_with b_least_with .nil pass0 (pa_cons (pe_op op_add pe_int (pe_op op_mod (pv 0) pe_int)) pa_nil)) pa_nil))))))))))))))), ?_⟩
    dsimp only [tSeq, tAsg]
    refine lst_lit (lit_cons 675675 96 (fun _ _ qa => qa) (fun _ _ qa => qa) (lit_cons 765765 96 (fun _ _ qa => qa) (fun _ _ qa => qa) (lit_cons 945945 96 (fun _ _ qa => qa) (fun _ _ qa => qa) (lit_cons 720720 48 (fun _ _ qa => qa) (fun _ _ qa => qa) (lit_cons 994009 3 (fun _ _ qa => qa) (fun _ _ qa => qa) (lit_cons 999983 2 (fun _ _ qa => qa) (fun _ _ qa => qa) (lit_cons 1000000 7 (fun _ _ qa => qa) (fun _ _ qa => qa) lit_nil))))))) (show 7 ≤ 90000 by decide) fun p1 xs1 H1 s1 g1 hp1 => ?_
    obtain ⟨j, hj⟩ := Int.eq_ofNat_of_zero_le (show 0 ≤ kind % 7 by omega)
    have hj7 : j < 7 := by omega
    have hl1 : xs1.length = 7 := hp1.length
    obtain ⟨y, hy⟩ : ∃ y, xs1[j]? = some y := ⟨_, List.getElem?_eq_getElem (by omega)⟩
    obtain ⟨⟨N, mn⟩, hpj, t, rfl, ht⟩ := hp1.get hy
    obtain ⟨N1, N2, hcount⟩ := hard_ok (N, mn) (List.mem_of_getElem? hpj)
    refine ⟨_, rfl, _, rfl, _, _, rfl, rfl, (by show (0 : Int) < 7; decide), p1, xs1, (j : Int), _, rfl, congrArg V.int hj, SqL.of g1, atI_nat hy, ?_⟩
    refine ⟨t, _, rfl, SqT.of ht, rfl, _, _, rfl, _, _, rfl, rfl, ?_⟩
    refine ⟨_, rfl, N, rfl, N1, N2, fun ps ph H2 hps hlp s2 nph lh => ?_⟩
    obtain ⟨xh, gh, hxh⟩ := lh
    have hlh := hxh.length
    have hcp := hcount ps hps
    refine ⟨ph, xh, rfl, .inl (SqL.of gh), _, rfl, rfl, _, rfl, iteNS (congrArg V.int (by rw [hlh]; exact hcp)) ?_⟩
    refine ⟨_, rfl, N, rfl, N1, N2, fun es pe H3 hes hle s3 npe le => ?_⟩
    obtain ⟨xe, ge, hxe⟩ := le
    have hlE := hxe.length
    have htw := rows_twice (by omega) hps hes
    simp only at hcp
    refine ⟨pe, xe, rfl, .inl (SqL.of ge), _, rfl, _, _, rfl, rfl, .inl ⟨by decide, by decide⟩, rfl, _, rfl, iteNS (congrArg V.int (by rw [hlE, htw, ← hcp]; omega)) ?_⟩
    have sH3 := (s1.trans s2).trans s3
    clear s1 s2 s3 gh ge hxh hxe npe nph g1 hp1 hps hes
    -- 1 .. 1000
    refine ⟨500500, rfl, by decide, by decide, fun p0 ps0 x H4 hps4 s4 hx => ?_⟩
    cases head_one (m := 1000) hps4 (by unfold IsRow; decide)
    refine ⟨(by show 2 ≤ sizeLine; decide), fun t1 nt1 => ?_⟩
    refine rd_neP (p := (1, 1000)) (q := (1, 1000)) (IsP.same (Same.new nt1) hx) ⟨t1, rfl, upd_same⟩ ⟨_, rfl, iteNS rfl ?_⟩
    have s5 := Same.new (o := .tup [.int 1, .int 1000]) nt1
    refine ⟨500500, 1001, rfl, by decide, by decide, by decide, by decide +kernel, fun y H5 s6 hy => ?_⟩
    rw [show rowOf 500500 1001 = some (0, 1000) by decide] at hy
    refine ⟨(by show 2 ≤ sizeLine; decide), fun t2 nt2 => ?_⟩
    refine rd_neP (p := (0, 1000)) (q := (0, 1000)) (IsP.same (Same.new nt2) hy) ⟨t2, rfl, upd_same⟩ ⟨_, rfl, iteNS rfl ?_⟩
    have sH6 := (((sH3.trans s4).trans s5).trans s6).trans (Same.new (o := .tup [.int 0, .int 1000]) nt2)
    generalize upd H5 t2 (.tup [.int 0, .int 1000]) = H6 at sH6
    clear s4 s5 s6 hx hy sH3
    refine ⟨998991, rfl, by decide, by decide, fun p0 ps0 x H7 hps4 s4 hx => ?_⟩
    cases head_one (m := 1413) hps4 (by unfold IsRow; decide)
    refine ⟨(by show 2 ≤ sizeLine; decide), fun t1 nt1 => ?_⟩
    refine rd_neP (p := (1, 1413)) (q := (1, 1413)) (IsP.same (Same.new nt1) hx) ⟨t1, rfl, upd_same⟩ ⟨_, rfl, iteNS rfl ?_⟩
    have s5 := Same.new (o := .tup [.int 1, .int 1413]) nt1
    refine ⟨998991, 1414, rfl, by decide, by decide, by decide, by decide +kernel, fun y H8 s6 hy => ?_⟩
    rw [show rowOf 998991 1414 = some (0, 1413) by decide] at hy
    refine ⟨(by show 2 ≤ sizeLine; decide), fun t2 nt2 => ?_⟩
    refine rd_neP (p := (0, 1413)) (q := (0, 1413)) (IsP.same (Same.new nt2) hy) ⟨t2, rfl, upd_same⟩ ⟨_, rfl, iteNS rfl ?_⟩
    have sH9 := (((sH6.trans s4).trans s5).trans s6).trans (Same.new (o := .tup [.int 0, .int 1413]) nt2)
    generalize upd H8 t2 (.tup [.int 0, .int 1413]) = H9 at sH9
    clear s4 s5 s6 hx hy sH6
    -- the rows that stand alone
    refine ⟨(by show 3 ≤ sizeLine; decide), fun t1 nt1 => ⟨(by show 3 ≤ sizeLine; decide), fun t2 nt2 => ⟨(by show 3 ≤ sizeLine; decide), fun t3 nt3 => ⟨(by show 3 ≤ sizeLine; decide), fun p4 np4 => ?_⟩⟩⟩⟩
    have z1 := Same.new (o := .tup [.int 786432, .int 262143, .int 262145]) nt1
    have z2 := Same.new (o := .tup [.int 999983, .int 499991, .int 499992]) nt2
    have z3 := Same.new (o := .tup [.int 999958, .int 249988, .int 249991]) nt3
    have z4 := Same.new (o := .lst [.ref t1, .ref t2, .ref t3]) np4
    have each : ∀ y ∈ [V.ref t1, V.ref t2, V.ref t3], ∃ (t : Addr) (N f l : Int), y = .ref t ∧ upd (upd (upd (upd H9 t1 (.tup [.int 786432, .int 262143, .int 262145])) t2 (.tup [.int 999983, .int 499991, .int 499992])) t3 (.tup [.int 999958, .int 249988, .int 249991])) p4 (.lst [.ref t1, .ref t2, .ref t3]) t = some (.tup [.int N, .int f, .int l]) ∧ Alone N f l := by
      intro y hy
      simp only [List.mem_cons, List.not_mem_nil, or_false] at hy
      rcases hy with rfl | rfl | rfl
      · exact ⟨t1, _, _, _, rfl, z4 _ _ (z3 _ _ (z2 _ _ upd_same)), alone1⟩
      · exact ⟨t2, _, _, _, rfl, z4 _ _ (z3 _ _ upd_same), alone2⟩
      · exact ⟨t3, _, _, _, rfl, z4 _ _ upd_same, alone3⟩
    have g4 : upd (upd (upd (upd H9 t1 (.tup [.int 786432, .int 262143, .int 262145])) t2 (.tup [.int 999983, .int 499991, .int 499992])) t3 (.tup [.int 999958, .int 249988, .int 249991])) p4 (.lst [.ref t1, .ref t2, .ref t3]) p4 = some (.lst [.ref t1, .ref t2, .ref t3]) := upd_same
    have sH10 := sH9.trans (((z1.trans z2).trans z3).trans z4)
    generalize upd (upd (upd (upd H9 t1 (.tup [.int 786432, .int 262143, .int 262145])) t2 (.tup [.int 999983, .int 499991, .int 499992])) t3 (.tup [.int 999958, .int 249988, .int 249991])) p4 (.lst [.ref t1, .ref t2, .ref t3]) = H10 at z4 each g4 sH10
    clear z1 z2 z3 z4
    refine ⟨_, rfl, p4, rfl, ⟨_, SqL.of g4⟩, ?_⟩
    refine for_list (xs := [.ref t1, .ref t2, .ref t3]) (fun _ σ H' => ∃ x1 x2 x3 x5 x6 x7, σ = [some (.int kind), x1, x2, x3, some (.ref p4), x5, x6, x7] ∧ Same H10 H') ⟨_, _, _, _, _, _, rfl, Same.refl _⟩ ?_ ?_ ?_
    · rintro i σ H' _ ⟨_, _, _, _, _, _, _, s⟩
      exact SqL.of (s _ _ g4)
    · rintro i y σ H11 hy ⟨x1, x2, x3, x5, x6, x7, rfl, s11⟩
      obtain ⟨t, M, f0, l0, rfl, ht, al⟩ := each y (List.mem_of_getElem? hy)
      refine ⟨t, _, rfl, SqT.of (s11 _ _ ht), rfl, _, _, rfl, _, _, rfl, _, _, rfl, rfl, ?_⟩
      refine ⟨_, rfl, M, rfl, al.lo, al.hi, fun e o f' l' x H12 hM ho h3 hrow hr hf hl s12 hS => ?_, fun e x H12 hM _ _ _ => absurd hM (al.no e)⟩
      obtain ⟨ef, el⟩ := al.one e o f' l' hM ho hrow
      subst ef el
      obtain ⟨dx', hx⟩ := id hS
      obtain ⟨bf, bl⟩ := row_ib al.lo al.hi hr
      refine ⟨_, rfl, _, _, _, _, true, rfl, .own CS, C_Sum.ty hx, T.ss, _, rfl, iteF ?_⟩
      refine ⟨_, rfl, x, dx', _, rfl, hx, sumF_shows _ _, _, rfl, x, f', l', M, rfl, hS, bf, bl, ?_⟩
      rw [sumSays_row hr hf hl]
      refine ⟨_, _, rfl, rfl, _, rfl, iteF ?_⟩
      refine ⟨_, rfl, x, CS, dx', _, _, rfl, hx, C_Sum.cl, nf, sumF_first _ _, _, rfl, x, CS, dx', _, _, rfl, hx, C_Sum.cl, nl, sumF_last _ _, (by show 2 ≤ sizeLine; decide), fun u1 nu1 => ⟨_, rfl, _, rfl, (by show 2 ≤ sizeLine; decide), fun u2 nu2 => ?_⟩⟩
      refine rd_neI (ns := [f', l']) (ms := [f', l']) (SqL.of (Same.new nu2 _ _ upd_same)) (SqL.of upd_same) ⟨_, rfl, iteNS rfl ?_⟩
      exact ⟨_, _, _, _, _, _, rfl, ((s11.trans s12).trans (Same.new nu1)).trans (Same.new nu2)⟩
    · rintro σ H11 ⟨x1, x2, x3, x5, x6, x7, rfl, s11⟩
      refine ⟨524288, rfl, by decide, by decide, fun e o f' l' x H12 hM ho h3 _ _ _ _ _ _ => (pow19 hM ho h3).elim, fun e x H12 hM _ s12 hP => ?_⟩
      obtain ⟨dx', hx⟩ := id hP
      obtain ⟨m, hm⟩ := Int.eq_ofNat_of_zero_le (show 0 ≤ 1 + kind % 60 by omega)
      refine ⟨_, rfl, _, _, _, _, true, rfl, .own CP, C_Power.ty hx, T.pp, true, rfl, iteT ?_⟩
      refine ⟨_, rfl, x, CP, dx', _, _, rfl, hx, C_Power.cl, no, powF_often _, _, rfl, true, rfl, iteT ?_⟩
      refine ⟨_, rfl, _, _, rfl, rfl, (by show (0 : Int) < 60; decide), _, _, rfl, rfl, m, congrArg (fun z => [V.int z]) hm, by omega, by omega, fun r H13 _ s13 => ?_⟩
      exact ⟨r, rfl, q _ (((sH10.trans s11).trans s12).trans s13)⟩
end
end NB

set_option Elab.async false
set_option maxRecDepth 100000
set_option pp.maxSteps 600
set_option maxHeartbeats 4000000
set_option linter.unusedVariables false
namespace NB
open PySem L2
section
variable {P : Program} {w : World} {K : PySem.W.Frag} {mg : Str → Option Value} {base : Heap}
abbrev s_law : Stmt := topS 34
theorem sc_law : FnScope ["_law_script", "_law_value_here", "_law_numbers", "_law_number"] ["_law_script"] (defScope s_law) := ⟨rfl, rfl, rfl, by decide +kernel, rfl, by decide +kernel, by decide +kernel⟩
theorem ok_law {f : Addr} {fd : FuncData} (F : Fun K "law" "law" s_law f fd) (B : Bt mg) (C__law_cell_at : Callee P w K mg base 1 "_law_cell_at" ["_law_script", "_law_k"] (spCellAt K)) (C__law_value : Callee P w K mg base 2 "_law_value" ["_law_cell", "_law_turn"] spValue)
    (C__law_rows_right : Callee P w K mg base 5 "_law_rows_right" ["_law_number"] spNum) (C__law_far_right : Callee P w K mg base 5 "_law_far_right" ["_law_number"] spNum) (C__law_known_right : Callee P w K mg base 10 "_law_known_right" ["_law_kind"] spKnown) : FnOk P w K mg base CX0 11 f fd ["_law_script"] (spLaw K) := by
  refine F.ok sc_law (fun vs H Q E h => ?_) (fun cdv A outer s H vs Q E hr h => ?_)
  · obtain ⟨_, _, rfl, _⟩ := h
    rfl
  · obtain ⟨a, ns0, rfl, hS0, hl0, hb0, q⟩ := h
    obtain ⟨f__law_cell_at, fd__law_cell_at, m__law_cell_at, k__law_cell_at, b__law_cell_at, G__law_cell_at⟩ := C__law_cell_at
    obtain ⟨f__law_value, fd__law_value, m__law_value, k__law_value, b__law_value, G__law_value⟩ := C__law_value
    obtain ⟨f__law_rows_right, fd__law_rows_right, m__law_rows_right, k__law_rows_right, b__law_rows_right, G__law_rows_right⟩ := C__law_rows_right
    obtain ⟨f__law_far_right, fd__law_far_right, m__law_far_right, k__law_far_right, b__law_far_right, G__law_far_right⟩ := C__law_far_right
    obtain ⟨f__law_known_right, fd__law_known_right, m__law_known_right, k__law_known_right, b__law_known_right, G__law_known_right⟩ := C__law_known_right
    refine ⟨_, (pss_cons (ps_set (i := 0) sc_law.nd rfl (Or.inl rfl) (pe_slice sl_list (pv 0) po_none (po_some pe_int)))
      (pss_cons (ps_set (i := 1) sc_law.nd rfl (Or.inl rfl) (pe_call G__law_value (hr.mono (by decide)) rfl m__law_value k__law_value b__law_value .nil pass0 (pa_cons (pe_call G__law_cell_at (hr.mono (by decide)) rfl m__law_cell_at k__law_cell_at b__law_cell_at .nil pass0 (pa_cons (pv 0) (pa_cons pe_int pa_nil))) (pa_cons pe_int pa_nil))))
      (pss_cons (ps_set (i := 2) sc_law.nd rfl (Or.inl rfl) (pe_lst (pa_cons (pe_op op_add pe_int (pe_op op_mod (pv 1) (pe_op op_pow pe_int pe_int))) (pa_cons (pe_op op_sub (pe_op op_pow pe_int pe_int) (pe_op op_mod (pv 1) pe_int)) (pa_cons (pe_op op_mul (pe_op op_add pe_int (pe_op op_mod (pv 1) pe_int)) pe_int) pa_nil)))))
      (pss_cons (ps_if (pt_not (pt_val (pe_callB (cr_all rfl) (by rfl) B.all_ (by decide +kernel) (pa_cons (pe_lc (g := (gName 3)) (own := [("_law_number", 3)]) rfl sc_law.nd (pi_list (pv 2)) (blkOk_by (N := ["_law_script", "_law_value_here", "_law_numbers", "_law_number"]) (sc := defScope s_law) (by decide +kernel)) (fun _ _ _ _ _ => (pg_name (i := 3) sc_law.nd rfl (.inl rfl))) (fun _ _ _ _ _ => pts_nil) (fun _ _ _ _ _ => (pe_and (pe_call G__law_rows_right (hr.mono (by decide)) rfl m__law_rows_right k__law_rows_right b__law_rows_right .nil pass0 (pa_cons (pv 3) pa_nil)) (pe_one (pe_call G__law_far_right (hr.mono (by decide)) rfl m__law_far_right k__law_far_right b__law_far_right .nil pass0 (pa_cons (pv 3) pa_nil)))))) pa_nil)))) (pss_one (ps_ret pe_bl)) pss_nil)
      (pss_one (ps_ret (pe_call G__law_known_right (hr.mono (by decide)) rfl m__law_known_right k__law_known_right b__law_known_right .nil pass0 (pa_cons (pe_op op_fdiv (pv 1) pe_int) pa_nil)))))))), ?_⟩
    obtain ⟨ns, ens, hsub, hlen⟩ := cut_int ns0 none (some 63)
    refine ⟨_, rfl, 63, rfl, a, _, rfl, hS0, fun p np => ?_⟩
    rw [ens]
    have hb : Bits ns := fun z hz => hb0 z (hsub z hz)
    clear hS0 hb0 hl0 ens hsub hlen
    refine ⟨_, rfl, p, ns, 0, rfl, SqL.of upd_same, hb, by decide, by decide, fun c bc => ⟨c, 3, rfl, bc, by decide, by decide, fun v H3 v0 vb s3 => ?_⟩⟩
    have e6 : (10 : Int) ^ Int.toNat 6 = 1000000 := by decide
    refine ⟨_, rfl, _, _, rfl, rfl, ⟨by decide, by decide, by decide⟩, _, _, rfl, rfl, (by show (0 : Int) < 10 ^ Int.toNat 6; decide), _, _, rfl, rfl, _, _, rfl, rfl, ⟨by decide, by decide, by decide⟩, _, rfl, _, _, rfl, rfl, (by show (0 : Int) < 97; decide), _, _, rfl, rfl, _, rfl, _, _, rfl, rfl, (by show (0 : Int) < 634; decide), _, _, rfl, rfl, _, _, rfl, rfl, .inr ⟨by decide, by decide⟩, (by show 3 ≤ sizeLine; decide), fun p2 np2 => ?_⟩
    have g2 : upd H3 p2 (.lst (([1 + v % 10 ^ Int.toNat 6, 10 ^ Int.toNat 6 - v % 97, (1 + v % 634) * 1575] : List Int).map V.int)) p2 = some (.lst (([1 + v % 10 ^ Int.toNat 6, 10 ^ Int.toNat 6 - v % 97, (1 + v % 634) * 1575] : List Int).map V.int)) := upd_same
    refine ⟨_, rfl, p2, rfl, ⟨_, SqL.of upd_same⟩, fun D nD => ?_⟩
    refine lc_list (xs := ([1 + v % 10 ^ Int.toNat 6, 10 ^ Int.toNat 6 - v % 97, (1 + v % 634) * 1575] : List Int).map V.int) (fun i H' => Same (upd H3 p2 (.lst (([1 + v % 10 ^ Int.toNat 6, 10 ^ Int.toNat 6 - v % 97, (1 + v % 634) * 1575] : List Int).map V.int))) H' ∧ H' D = some (.lst ((List.replicate i true).map V.bl))) ⟨Same.new nD, upd_same⟩ ?_ ?_ ?_
    · rintro i H' _ ⟨s5, _⟩
      exact SqL.of (s5 _ _ g2)
    · rintro i xv H5 hx ⟨s5, gD⟩
      have hi : i < 3 := (List.getElem?_eq_some_iff.mp hx).1
      obtain ⟨z, hz, rfl⟩ := List.mem_map.mp (List.mem_of_getElem? hx)
      have hz2 : 1 ≤ z ∧ z ≤ 1000000 := by
        simp only [List.mem_cons, List.not_mem_nil, or_false] at hz
        rw [e6] at hz
        omega
      refine ⟨rfl, ?_⟩
      refine ⟨_, rfl, z, rfl, hz2.1, hz2.2, fun H6 s6 => ⟨true, rfl, iteT ⟨_, rfl, z, rfl, hz2.1, hz2.2, fun H7 s7 => ?_⟩⟩⟩
      refine ⟨_, s7 _ _ (s6 _ _ gD), small1000' (by rw [List.length_map, List.length_replicate]; omega), Same.mut ((s5.trans s6).trans s7) nD, ?_⟩
      rw [upd_same, List.replicate_succ', List.map_append]
      rfl
    · rintro H5 ⟨s5, gD⟩
      refine ⟨D, _, rfl, SqL.of gD, ?_⟩
      refine ⟨_, rfl, iteF ?_⟩
      exact ⟨_, rfl, _, _, rfl, rfl, ⟨by decide, by decide⟩, v / 7, rfl, by omega, fun H' _ => q _⟩
end
end NB

set_option Elab.async false
set_option maxRecDepth 100000
set_option maxHeartbeats 4000000
set_option linter.unusedVariables false
namespace NB
open PySem L2
section
variable {P : Program} {w : World} {K : PySem.W.Frag} {mg : Str → Option Value} {base : Heap}
theorem mkC {P : Program} {w : World} {K : PySem.W.Frag} {mg : Str → Option Value} {base : Heap} {x : Str} {q : Str} {st : Stmt} {f : Addr} {fd : FuncData} {ps : List Str} {k : Nat} {sp : Sp} (m : mg x = some (.ref f)) (F : Fun K x q st f fd) (b : Binds K fd ps []) (G : FnOk P w K mg base CX0 k f fd ps sp) : Callee P w K mg base k x ps sp := ⟨f, fd, m, F.kp, b, G⟩
end
theorem all_mk {l : PySem.W.OpenLaw} {w : World} {K : PySem.W.Frag} {h : Heap} {mg : Str → Option Value} {fa : Addr} (X : K.In h) (G : h.Ns mainGlobals mg) (hfa : mg "law" = some (.ref fa))
    {f_is_whole : Addr} {od_is_whole an_is_whole : Option Addr} {sl_is_whole : Array (Option Value)} {oc_is_whole kV_is_whole dc_is_whole pm_is_whole cd_is_whole ct_is_whole : Value}
    (a_is_whole : PySem.W.nsIn K mainGlobals "is_whole" = some (some (.ref f_is_whole))) (l_is_whole : K.lookup f_is_whole = some ⟨oc_is_whole, od_is_whole, .func (PySem.W.fnOf "is_whole" "is_whole" (defArgs s_is_whole) (defBody s_is_whole) (defScope s_is_whole) .none kV_is_whole dc_is_whole pm_is_whole an_is_whole cd_is_whole ct_is_whole), sl_is_whole⟩) (c_is_whole : PySem.W.codeIn K cd_is_whole "is_whole" = true) (k_is_whole : PySem.W.keepIn K (.ref f_is_whole) = true)
    {f_check_number : Addr} {od_check_number an_check_number : Option Addr} {sl_check_number : Array (Option Value)} {oc_check_number kV_check_number dc_check_number pm_check_number cd_check_number ct_check_number : Value}
    (a_check_number : PySem.W.nsIn K mainGlobals "check_number" = some (some (.ref f_check_number))) (l_check_number : K.lookup f_check_number = some ⟨oc_check_number, od_check_number, .func (PySem.W.fnOf "check_number" "check_number" (defArgs s_check_number) (defBody s_check_number) (defScope s_check_number) .none kV_check_number dc_check_number pm_check_number an_check_number cd_check_number ct_check_number), sl_check_number⟩) (c_check_number : PySem.W.codeIn K cd_check_number "check_number" = true) (k_check_number : PySem.W.keepIn K (.ref f_check_number) = true)
    {f_parts_of : Addr} {od_parts_of an_parts_of : Option Addr} {sl_parts_of : Array (Option Value)} {oc_parts_of kV_parts_of dc_parts_of pm_parts_of cd_parts_of ct_parts_of : Value}
    (a_parts_of : PySem.W.nsIn K mainGlobals "parts_of" = some (some (.ref f_parts_of))) (l_parts_of : K.lookup f_parts_of = some ⟨oc_parts_of, od_parts_of, .func (PySem.W.fnOf "parts_of" "parts_of" (defArgs s_parts_of) (defBody s_parts_of) (defScope s_parts_of) .none kV_parts_of dc_parts_of pm_parts_of an_parts_of cd_parts_of ct_parts_of), sl_parts_of⟩) (c_parts_of : PySem.W.codeIn K cd_parts_of "parts_of" = true) (k_parts_of : PySem.W.keepIn K (.ref f_parts_of) = true)
    {f_row_of : Addr} {od_row_of an_row_of : Option Addr} {sl_row_of : Array (Option Value)} {oc_row_of kV_row_of dc_row_of pm_row_of cd_row_of ct_row_of : Value}
    (a_row_of : PySem.W.nsIn K mainGlobals "row_of" = some (some (.ref f_row_of))) (l_row_of : K.lookup f_row_of = some ⟨oc_row_of, od_row_of, .func (PySem.W.fnOf "row_of" "row_of" (defArgs s_row_of) (defBody s_row_of) (defScope s_row_of) .none kV_row_of dc_row_of pm_row_of an_row_of cd_row_of ct_row_of), sl_row_of⟩) (c_row_of : PySem.W.codeIn K cd_row_of "row_of" = true) (k_row_of : PySem.W.keepIn K (.ref f_row_of) = true)
    {f_rows_of : Addr} {od_rows_of an_rows_of : Option Addr} {sl_rows_of : Array (Option Value)} {oc_rows_of kV_rows_of dc_rows_of pm_rows_of cd_rows_of ct_rows_of : Value}
    (a_rows_of : PySem.W.nsIn K mainGlobals "rows_of" = some (some (.ref f_rows_of))) (l_rows_of : K.lookup f_rows_of = some ⟨oc_rows_of, od_rows_of, .func (PySem.W.fnOf "rows_of" "rows_of" (defArgs s_rows_of) (defBody s_rows_of) (defScope s_rows_of) .none kV_rows_of dc_rows_of pm_rows_of an_rows_of cd_rows_of ct_rows_of), sl_rows_of⟩) (c_rows_of : PySem.W.codeIn K cd_rows_of "rows_of" = true) (k_rows_of : PySem.W.keepIn K (.ref f_rows_of) = true)
    {f_high_rows : Addr} {od_high_rows an_high_rows : Option Addr} {sl_high_rows : Array (Option Value)} {oc_high_rows kV_high_rows dc_high_rows pm_high_rows cd_high_rows ct_high_rows : Value}
    (a_high_rows : PySem.W.nsIn K mainGlobals "high_rows" = some (some (.ref f_high_rows))) (l_high_rows : K.lookup f_high_rows = some ⟨oc_high_rows, od_high_rows, .func (PySem.W.fnOf "high_rows" "high_rows" (defArgs s_high_rows) (defBody s_high_rows) (defScope s_high_rows) .none kV_high_rows dc_high_rows pm_high_rows an_high_rows cd_high_rows ct_high_rows), sl_high_rows⟩) (c_high_rows : PySem.W.codeIn K cd_high_rows "high_rows" = true) (k_high_rows : PySem.W.keepIn K (.ref f_high_rows) = true)
    {f_all_rows : Addr} {od_all_rows an_all_rows : Option Addr} {sl_all_rows : Array (Option Value)} {oc_all_rows kV_all_rows dc_all_rows pm_all_rows cd_all_rows ct_all_rows : Value}
    (a_all_rows : PySem.W.nsIn K mainGlobals "all_rows" = some (some (.ref f_all_rows))) (l_all_rows : K.lookup f_all_rows = some ⟨oc_all_rows, od_all_rows, .func (PySem.W.fnOf "all_rows" "all_rows" (defArgs s_all_rows) (defBody s_all_rows) (defScope s_all_rows) .none kV_all_rows dc_all_rows pm_all_rows an_all_rows cd_all_rows ct_all_rows), sl_all_rows⟩) (c_all_rows : PySem.W.codeIn K cd_all_rows "all_rows" = true) (k_all_rows : PySem.W.keepIn K (.ref f_all_rows) = true)
    {f_longest : Addr} {od_longest an_longest : Option Addr} {sl_longest : Array (Option Value)} {oc_longest kV_longest dc_longest pm_longest cd_longest ct_longest : Value}
    (a_longest : PySem.W.nsIn K mainGlobals "longest" = some (some (.ref f_longest))) (l_longest : K.lookup f_longest = some ⟨oc_longest, od_longest, .func (PySem.W.fnOf "longest" "longest" (defArgs s_longest) (defBody s_longest) (defScope s_longest) .none kV_longest dc_longest pm_longest an_longest cd_longest ct_longest), sl_longest⟩) (c_longest : PySem.W.codeIn K cd_longest "longest" = true) (k_longest : PySem.W.keepIn K (.ref f_longest) = true)
    {f_of_length : Addr} {od_of_length an_of_length : Option Addr} {sl_of_length : Array (Option Value)} {oc_of_length kV_of_length dc_of_length pm_of_length cd_of_length ct_of_length : Value}
    (a_of_length : PySem.W.nsIn K mainGlobals "of_length" = some (some (.ref f_of_length))) (l_of_length : K.lookup f_of_length = some ⟨oc_of_length, od_of_length, .func (PySem.W.fnOf "of_length" "of_length" (defArgs s_of_length) (defBody s_of_length) (defScope s_of_length) .none kV_of_length dc_of_length pm_of_length an_of_length cd_of_length ct_of_length), sl_of_length⟩) (c_of_length : PySem.W.codeIn K cd_of_length "of_length" = true) (k_of_length : PySem.W.keepIn K (.ref f_of_length) = true)
    {f_judged : Addr} {od_judged an_judged : Option Addr} {sl_judged : Array (Option Value)} {oc_judged kV_judged dc_judged pm_judged cd_judged ct_judged : Value}
    (a_judged : PySem.W.nsIn K mainGlobals "judged" = some (some (.ref f_judged))) (l_judged : K.lookup f_judged = some ⟨oc_judged, od_judged, .func (PySem.W.fnOf "judged" "judged" (defArgs s_judged) (defBody s_judged) (defScope s_judged) .none kV_judged dc_judged pm_judged an_judged cd_judged ct_judged), sl_judged⟩) (c_judged : PySem.W.codeIn K cd_judged "judged" = true) (k_judged : PySem.W.keepIn K (.ref f_judged) = true)
    {f_least_from : Addr} {od_least_from an_least_from : Option Addr} {sl_least_from : Array (Option Value)} {oc_least_from kV_least_from dc_least_from pm_least_from cd_least_from ct_least_from : Value}
    (a_least_from : PySem.W.nsIn K mainGlobals "least_from" = some (some (.ref f_least_from))) (l_least_from : K.lookup f_least_from = some ⟨oc_least_from, od_least_from, .func (PySem.W.fnOf "least_from" "least_from" (defArgs s_least_from) (defBody s_least_from) (defScope s_least_from) .none kV_least_from dc_least_from pm_least_from an_least_from cd_least_from ct_least_from), sl_least_from⟩) (c_least_from : PySem.W.codeIn K cd_least_from "least_from" = true) (k_least_from : PySem.W.keepIn K (.ref f_least_from) = true)
    {f_least_with : Addr} {od_least_with an_least_with : Option Addr} {sl_least_with : Array (Option Value)} {oc_least_with kV_least_with dc_least_with pm_least_with cd_least_with ct_least_with : Value}
    (a_least_with : PySem.W.nsIn K mainGlobals "least_with" = some (some (.ref f_least_with))) (l_least_with : K.lookup f_least_with = some ⟨oc_least_with, od_least_with, .func (PySem.W.fnOf "least_with" "least_with" (defArgs s_least_with) (defBody s_least_with) (defScope s_least_with) .none kV_least_with dc_least_with pm_least_with an_least_with cd_least_with ct_least_with), sl_least_with⟩) (c_least_with : PySem.W.codeIn K cd_least_with "least_with" = true) (k_least_with : PySem.W.keepIn K (.ref f_least_with) = true)
    {f__law_cell_at : Addr} {od__law_cell_at an__law_cell_at : Option Addr} {sl__law_cell_at : Array (Option Value)} {oc__law_cell_at kV__law_cell_at dc__law_cell_at pm__law_cell_at cd__law_cell_at ct__law_cell_at : Value}
    (a__law_cell_at : PySem.W.nsIn K mainGlobals "_law_cell_at" = some (some (.ref f__law_cell_at))) (l__law_cell_at : K.lookup f__law_cell_at = some ⟨oc__law_cell_at, od__law_cell_at, .func (PySem.W.fnOf "_law_cell_at" "_law_cell_at" (defArgs s__law_cell_at) (defBody s__law_cell_at) (defScope s__law_cell_at) .none kV__law_cell_at dc__law_cell_at pm__law_cell_at an__law_cell_at cd__law_cell_at ct__law_cell_at), sl__law_cell_at⟩) (c__law_cell_at : PySem.W.codeIn K cd__law_cell_at "_law_cell_at" = true) (k__law_cell_at : PySem.W.keepIn K (.ref f__law_cell_at) = true)
    {f__law_draw : Addr} {od__law_draw an__law_draw : Option Addr} {sl__law_draw : Array (Option Value)} {oc__law_draw kV__law_draw dc__law_draw pm__law_draw cd__law_draw ct__law_draw : Value}
    (a__law_draw : PySem.W.nsIn K mainGlobals "_law_draw" = some (some (.ref f__law_draw))) (l__law_draw : K.lookup f__law_draw = some ⟨oc__law_draw, od__law_draw, .func (PySem.W.fnOf "_law_draw" "_law_draw" (defArgs s__law_draw) (defBody s__law_draw) (defScope s__law_draw) .none kV__law_draw dc__law_draw pm__law_draw an__law_draw cd__law_draw ct__law_draw), sl__law_draw⟩) (c__law_draw : PySem.W.codeIn K cd__law_draw "_law_draw" = true) (k__law_draw : PySem.W.keepIn K (.ref f__law_draw) = true)
    {f__law_value : Addr} {od__law_value an__law_value : Option Addr} {sl__law_value : Array (Option Value)} {oc__law_value kV__law_value dc__law_value pm__law_value cd__law_value ct__law_value : Value}
    (a__law_value : PySem.W.nsIn K mainGlobals "_law_value" = some (some (.ref f__law_value))) (l__law_value : K.lookup f__law_value = some ⟨oc__law_value, od__law_value, .func (PySem.W.fnOf "_law_value" "_law_value" (defArgs s__law_value) (defBody s__law_value) (defScope s__law_value) .none kV__law_value dc__law_value pm__law_value an__law_value cd__law_value ct__law_value), sl__law_value⟩) (c__law_value : PySem.W.codeIn K cd__law_value "_law_value" = true) (k__law_value : PySem.W.keepIn K (.ref f__law_value) = true)
    {f__law_whole : Addr} {od__law_whole an__law_whole : Option Addr} {sl__law_whole : Array (Option Value)} {oc__law_whole kV__law_whole dc__law_whole pm__law_whole cd__law_whole ct__law_whole : Value}
    (a__law_whole : PySem.W.nsIn K mainGlobals "_law_whole" = some (some (.ref f__law_whole))) (l__law_whole : K.lookup f__law_whole = some ⟨oc__law_whole, od__law_whole, .func (PySem.W.fnOf "_law_whole" "_law_whole" (defArgs s__law_whole) (defBody s__law_whole) (defScope s__law_whole) .none kV__law_whole dc__law_whole pm__law_whole an__law_whole cd__law_whole ct__law_whole), sl__law_whole⟩) (c__law_whole : PySem.W.codeIn K cd__law_whole "_law_whole" = true) (k__law_whole : PySem.W.keepIn K (.ref f__law_whole) = true)
    {f__law_are_pairs : Addr} {od__law_are_pairs an__law_are_pairs : Option Addr} {sl__law_are_pairs : Array (Option Value)} {oc__law_are_pairs kV__law_are_pairs dc__law_are_pairs pm__law_are_pairs cd__law_are_pairs ct__law_are_pairs : Value}
    (a__law_are_pairs : PySem.W.nsIn K mainGlobals "_law_are_pairs" = some (some (.ref f__law_are_pairs))) (l__law_are_pairs : K.lookup f__law_are_pairs = some ⟨oc__law_are_pairs, od__law_are_pairs, .func (PySem.W.fnOf "_law_are_pairs" "_law_are_pairs" (defArgs s__law_are_pairs) (defBody s__law_are_pairs) (defScope s__law_are_pairs) .none kV__law_are_pairs dc__law_are_pairs pm__law_are_pairs an__law_are_pairs cd__law_are_pairs ct__law_are_pairs), sl__law_are_pairs⟩) (c__law_are_pairs : PySem.W.codeIn K cd__law_are_pairs "_law_are_pairs" = true) (k__law_are_pairs : PySem.W.keepIn K (.ref f__law_are_pairs) = true)
    {f__law_rows_right : Addr} {od__law_rows_right an__law_rows_right : Option Addr} {sl__law_rows_right : Array (Option Value)} {oc__law_rows_right kV__law_rows_right dc__law_rows_right pm__law_rows_right cd__law_rows_right ct__law_rows_right : Value}
    (a__law_rows_right : PySem.W.nsIn K mainGlobals "_law_rows_right" = some (some (.ref f__law_rows_right))) (l__law_rows_right : K.lookup f__law_rows_right = some ⟨oc__law_rows_right, od__law_rows_right, .func (PySem.W.fnOf "_law_rows_right" "_law_rows_right" (defArgs s__law_rows_right) (defBody s__law_rows_right) (defScope s__law_rows_right) .none kV__law_rows_right dc__law_rows_right pm__law_rows_right an__law_rows_right cd__law_rows_right ct__law_rows_right), sl__law_rows_right⟩) (c__law_rows_right : PySem.W.codeIn K cd__law_rows_right "_law_rows_right" = true) (k__law_rows_right : PySem.W.keepIn K (.ref f__law_rows_right) = true)
    {f__law_far_right : Addr} {od__law_far_right an__law_far_right : Option Addr} {sl__law_far_right : Array (Option Value)} {oc__law_far_right kV__law_far_right dc__law_far_right pm__law_far_right cd__law_far_right ct__law_far_right : Value}
    (a__law_far_right : PySem.W.nsIn K mainGlobals "_law_far_right" = some (some (.ref f__law_far_right))) (l__law_far_right : K.lookup f__law_far_right = some ⟨oc__law_far_right, od__law_far_right, .func (PySem.W.fnOf "_law_far_right" "_law_far_right" (defArgs s__law_far_right) (defBody s__law_far_right) (defScope s__law_far_right) .none kV__law_far_right dc__law_far_right pm__law_far_right an__law_far_right cd__law_far_right ct__law_far_right), sl__law_far_right⟩) (c__law_far_right : PySem.W.codeIn K cd__law_far_right "_law_far_right" = true) (k__law_far_right : PySem.W.keepIn K (.ref f__law_far_right) = true)
    {f__law_known_right : Addr} {od__law_known_right an__law_known_right : Option Addr} {sl__law_known_right : Array (Option Value)} {oc__law_known_right kV__law_known_right dc__law_known_right pm__law_known_right cd__law_known_right ct__law_known_right : Value}
    (a__law_known_right : PySem.W.nsIn K mainGlobals "_law_known_right" = some (some (.ref f__law_known_right))) (l__law_known_right : K.lookup f__law_known_right = some ⟨oc__law_known_right, od__law_known_right, .func (PySem.W.fnOf "_law_known_right" "_law_known_right" (defArgs s__law_known_right) (defBody s__law_known_right) (defScope s__law_known_right) .none kV__law_known_right dc__law_known_right pm__law_known_right an__law_known_right cd__law_known_right ct__law_known_right), sl__law_known_right⟩) (c__law_known_right : PySem.W.codeIn K cd__law_known_right "_law_known_right" = true) (k__law_known_right : PySem.W.keepIn K (.ref f__law_known_right) = true)
    {f_law : Addr} {od_law an_law : Option Addr} {sl_law : Array (Option Value)} {oc_law kV_law dc_law pm_law cd_law ct_law : Value}
    (a_law : PySem.W.nsIn K mainGlobals "law" = some (some (.ref f_law))) (l_law : K.lookup f_law = some ⟨oc_law, od_law, .func (PySem.W.fnOf "law" "law" (defArgs s_law) (defBody s_law) (defScope s_law) .none kV_law dc_law pm_law an_law cd_law ct_law), sl_law⟩) (c_law : PySem.W.codeIn K cd_law "law" = true) (k_law : PySem.W.keepIn K (.ref f_law) = true)
    {CA CS CP : Addr}
    (y_hn : PySem.W.specialIn K (.builtin "object.__class__") "__get__" = some (some (.builtin "getset_descriptor.__get__"))) (y_htk : PySem.W.takesIn K (.builtin "object.__class__") = some true)
    (ya_Answer : PySem.W.nsIn K mainGlobals "Answer" = some (some (.ref CA))) (yp_Answer : PySem.W.plainGet K CA Str.empty = true) (yh_Answer : PySem.W.hasDictIn K CA = true) (yo_Answer : PySem.W.plainOver K CA = true) (ys_Answer : PySem.W.findIn K (.ref CA) "__setattr__" = some (some (.builtin "object.__setattr__"))) (yc_Answer : PySem.W.findIn K (.ref CA) "__class__" = some (some (.builtin "object.__class__"))) (ym_Answer : PySem.W.mroIn K CA (.type "object") = some true)
    (ya_Sum : PySem.W.nsIn K mainGlobals "Sum" = some (some (.ref CS))) (yp_Sum : PySem.W.plainGet K CS Str.empty = true) (yh_Sum : PySem.W.hasDictIn K CS = true) (yo_Sum : PySem.W.plainOver K CS = true) (ys_Sum : PySem.W.findIn K (.ref CS) "__setattr__" = some (some (.builtin "object.__setattr__"))) (yc_Sum : PySem.W.findIn K (.ref CS) "__class__" = some (some (.builtin "object.__class__"))) (ym_Sum : PySem.W.mroIn K CS (.type "object") = some true)
    (yk_Sum : PySem.W.keepIn K (.ref CS) = true) (yw_Sum : PySem.W.makesIn K CS = true)
    (yn_Sum_first : PySem.W.findIn K (.ref CS) "first" = some none)
    (yn_Sum_last : PySem.W.findIn K (.ref CS) "last" = some none)
    {f_Sum___init__ : Addr} {od_Sum___init__ an_Sum___init__ : Option Addr} {sl_Sum___init__ : Array (Option Value)} {oc_Sum___init__ kV_Sum___init__ dc_Sum___init__ pm_Sum___init__ cd_Sum___init__ ct_Sum___init__ : Value}
    (a_Sum___init__ : PySem.W.findIn K (.ref CS) "__init__" = some (some (.ref f_Sum___init__))) (i_Sum___init__ : PySem.W.isFn K (.ref f_Sum___init__) = true) (l_Sum___init__ : K.lookup f_Sum___init__ = some ⟨oc_Sum___init__, od_Sum___init__, .func (PySem.W.fnOf "__init__" "Sum.__init__" (defArgs s_Sum___init__) (defBody s_Sum___init__) (defScope s_Sum___init__) .none kV_Sum___init__ dc_Sum___init__ pm_Sum___init__ an_Sum___init__ cd_Sum___init__ ct_Sum___init__), sl_Sum___init__⟩) (c_Sum___init__ : PySem.W.codeIn K cd_Sum___init__ "Sum.__init__" = true) (k_Sum___init__ : PySem.W.keepIn K (.ref f_Sum___init__) = true)
    {f_Sum_shows : Addr} {od_Sum_shows an_Sum_shows : Option Addr} {sl_Sum_shows : Array (Option Value)} {oc_Sum_shows kV_Sum_shows dc_Sum_shows pm_Sum_shows cd_Sum_shows ct_Sum_shows : Value}
    (a_Sum_shows : PySem.W.findIn K (.ref CS) "shows" = some (some (.ref f_Sum_shows))) (i_Sum_shows : PySem.W.isFn K (.ref f_Sum_shows) = true) (l_Sum_shows : K.lookup f_Sum_shows = some ⟨oc_Sum_shows, od_Sum_shows, .func (PySem.W.fnOf "shows" "Sum.shows" (defArgs s_Sum_shows) (defBody s_Sum_shows) (defScope s_Sum_shows) .none kV_Sum_shows dc_Sum_shows pm_Sum_shows an_Sum_shows cd_Sum_shows ct_Sum_shows), sl_Sum_shows⟩) (c_Sum_shows : PySem.W.codeIn K cd_Sum_shows "Sum.shows" = true) (k_Sum_shows : PySem.W.keepIn K (.ref f_Sum_shows) = true)
    (ya_Power : PySem.W.nsIn K mainGlobals "Power" = some (some (.ref CP))) (yp_Power : PySem.W.plainGet K CP Str.empty = true) (yh_Power : PySem.W.hasDictIn K CP = true) (yo_Power : PySem.W.plainOver K CP = true) (ys_Power : PySem.W.findIn K (.ref CP) "__setattr__" = some (some (.builtin "object.__setattr__"))) (yc_Power : PySem.W.findIn K (.ref CP) "__class__" = some (some (.builtin "object.__class__"))) (ym_Power : PySem.W.mroIn K CP (.type "object") = some true)
    (yk_Power : PySem.W.keepIn K (.ref CP) = true) (yw_Power : PySem.W.makesIn K CP = true)
    (yn_Power_often : PySem.W.findIn K (.ref CP) "often" = some none)
    {f_Power___init__ : Addr} {od_Power___init__ an_Power___init__ : Option Addr} {sl_Power___init__ : Array (Option Value)} {oc_Power___init__ kV_Power___init__ dc_Power___init__ pm_Power___init__ cd_Power___init__ ct_Power___init__ : Value}
    (a_Power___init__ : PySem.W.findIn K (.ref CP) "__init__" = some (some (.ref f_Power___init__))) (i_Power___init__ : PySem.W.isFn K (.ref f_Power___init__) = true) (l_Power___init__ : K.lookup f_Power___init__ = some ⟨oc_Power___init__, od_Power___init__, .func (PySem.W.fnOf "__init__" "Power.__init__" (defArgs s_Power___init__) (defBody s_Power___init__) (defScope s_Power___init__) .none kV_Power___init__ dc_Power___init__ pm_Power___init__ an_Power___init__ cd_Power___init__ ct_Power___init__), sl_Power___init__⟩) (c_Power___init__ : PySem.W.codeIn K cd_Power___init__ "Power.__init__" = true) (k_Power___init__ : PySem.W.keepIn K (.ref f_Power___init__) = true)
    {f_Power_shows : Addr} {od_Power_shows an_Power_shows : Option Addr} {sl_Power_shows : Array (Option Value)} {oc_Power_shows kV_Power_shows dc_Power_shows pm_Power_shows cd_Power_shows ct_Power_shows : Value}
    (a_Power_shows : PySem.W.findIn K (.ref CP) "shows" = some (some (.ref f_Power_shows))) (i_Power_shows : PySem.W.isFn K (.ref f_Power_shows) = true) (l_Power_shows : K.lookup f_Power_shows = some ⟨oc_Power_shows, od_Power_shows, .func (PySem.W.fnOf "shows" "Power.shows" (defArgs s_Power_shows) (defBody s_Power_shows) (defScope s_Power_shows) .none kV_Power_shows dc_Power_shows pm_Power_shows an_Power_shows cd_Power_shows ct_Power_shows), sl_Power_shows⟩) (c_Power_shows : PySem.W.codeIn K cd_Power_shows "Power.shows" = true) (k_Power_shows : PySem.W.keepIn K (.ref f_Power_shows) = true)
    (q_sa : PySem.W.kitOne K (.ref CS) (.ref CA) = some true)
    (q_pa : PySem.W.kitOne K (.ref CP) (.ref CA) = some true)
    (q_ss : PySem.W.kitOne K (.ref CS) (.ref CS) = some true)
    (q_sp : PySem.W.kitOne K (.ref CS) (.ref CP) = some false)
    (q_ps : PySem.W.kitOne K (.ref CP) (.ref CS) = some false)
    (q_pp : PySem.W.kitOne K (.ref CP) (.ref CP) = some true)
    {t_GREATEST : Tok} (h_GREATEST : PySem.W.nsIn K mainGlobals "GREATEST" = some (some (.int 1000000 t_GREATEST)))
    {t_MOST : Tok} (h_MOST : PySem.W.nsIn K mainGlobals "MOST" = some (some (.int 60 t_MOST)))
    (z_isinstance : PySem.W.nsIn K mainGlobals "isinstance" = some none)
    (z_int : PySem.W.nsIn K mainGlobals "int" = some none)
    (z_bool : PySem.W.nsIn K mainGlobals "bool" = some none)
    (z_list : PySem.W.nsIn K mainGlobals "list" = some none)
    (z_tuple : PySem.W.nsIn K mainGlobals "tuple" = some none)
    (z_len : PySem.W.nsIn K mainGlobals "len" = some none)
    (z_max : PySem.W.nsIn K mainGlobals "max" = some none)
    (z_min : PySem.W.nsIn K mainGlobals "min" = some none)
    (z_sorted : PySem.W.nsIn K mainGlobals "sorted" = some none)
    (z_range : PySem.W.nsIn K mainGlobals "range" = some none)
    (z_sum : PySem.W.nsIn K mainGlobals "sum" = some none)
    (z_all : PySem.W.nsIn K mainGlobals "all" = some none)
    (z_zip : PySem.W.nsIn K mainGlobals "zip" = some none)
    (z_set : PySem.W.nsIn K mainGlobals "set" = some none)
    : ∃ fd : FuncData, (∀ (s : Shared) (v : Value), BindsTo s fd ⟨[v], []⟩ [("_law_script", v)]) ∧ ∀ base : Heap, K.In base → base.Ns mainGlobals mg → FnOk l.prog w K mg base CX0 11 fa fd ["_law_script"] (spLaw K) := by
  have e := hfa.symm.trans (PySem.W.mg_of X G a_law)
  cases e
  have B : Bt mg := ⟨PySem.W.mg_none_of X G z_isinstance, PySem.W.mg_none_of X G z_int, PySem.W.mg_none_of X G z_bool, PySem.W.mg_none_of X G z_list, PySem.W.mg_none_of X G z_tuple, PySem.W.mg_none_of X G z_len, PySem.W.mg_none_of X G z_max, PySem.W.mg_none_of X G z_min, PySem.W.mg_none_of X G z_sorted, PySem.W.mg_none_of X G z_range, PySem.W.mg_none_of X G z_sum, PySem.W.mg_none_of X G z_all, PySem.W.mg_none_of X G z_zip, PySem.W.mg_none_of X G z_set⟩
  have g_GREATEST := PySem.W.mg_of X G h_GREATEST
  have g_MOST := PySem.W.mg_of X G h_MOST
  have F_is_whole := fun_mk (st := s_is_whole) l_is_whole c_is_whole k_is_whole
  have b_is_whole := F_is_whole.binds (ps := ["thing"]) fun _ _ _ _ _ _ us hl => match us, hl with | [_], _ => rfl
  have F_check_number := fun_mk (st := s_check_number) l_check_number c_check_number k_check_number
  have b_check_number := F_check_number.binds (ps := ["number"]) fun _ _ _ _ _ _ us hl => match us, hl with | [_], _ => rfl
  have F_parts_of := fun_mk (st := s_parts_of) l_parts_of c_parts_of k_parts_of
  have b_parts_of := F_parts_of.binds (ps := ["number"]) fun _ _ _ _ _ _ us hl => match us, hl with | [_], _ => rfl
  have F_row_of := fun_mk (st := s_row_of) l_row_of c_row_of k_row_of
  have b_row_of := F_row_of.binds (ps := ["number", "length"]) fun _ _ _ _ _ _ us hl => match us, hl with | [_, _], _ => rfl
  have F_rows_of := fun_mk (st := s_rows_of) l_rows_of c_rows_of k_rows_of
  have b_rows_of := F_rows_of.binds (ps := ["number"]) fun _ _ _ _ _ _ us hl => match us, hl with | [_], _ => rfl
  have F_high_rows := fun_mk (st := s_high_rows) l_high_rows c_high_rows k_high_rows
  have b_high_rows := F_high_rows.binds (ps := ["number"]) fun _ _ _ _ _ _ us hl => match us, hl with | [_], _ => rfl
  have F_all_rows := fun_mk (st := s_all_rows) l_all_rows c_all_rows k_all_rows
  have b_all_rows := F_all_rows.binds (ps := ["number"]) fun _ _ _ _ _ _ us hl => match us, hl with | [_], _ => rfl
  have F_longest := fun_mk (st := s_longest) l_longest c_longest k_longest
  have b_longest := F_longest.binds (ps := ["number"]) fun _ _ _ _ _ _ us hl => match us, hl with | [_], _ => rfl
  have F_of_length := fun_mk (st := s_of_length) l_of_length c_of_length k_of_length
  have b_of_length := F_of_length.binds (ps := ["number", "length"]) fun _ _ _ _ _ _ us hl => match us, hl with | [_, _], _ => rfl
  have F_judged := fun_mk (st := s_judged) l_judged c_judged k_judged
  have b_judged := F_judged.binds (ps := ["number"]) fun _ _ _ _ _ _ us hl => match us, hl with | [_], _ => rfl
  have F_least_from := fun_mk (st := s_least_from) l_least_from c_least_from k_least_from
  have b_least_from := F_least_from.binds (ps := ["many", "primes", "most"]) fun _ _ _ _ _ _ us hl => match us, hl with | [_, _, _], _ => rfl
  have F_least_with := fun_mk (st := s_least_with) l_least_with c_least_with k_least_with
  have b_least_with := F_least_with.binds (ps := ["many"]) fun _ _ _ _ _ _ us hl => match us, hl with | [_], _ => rfl
  have F__law_cell_at := fun_mk (st := s__law_cell_at) l__law_cell_at c__law_cell_at k__law_cell_at
  have b__law_cell_at := F__law_cell_at.binds (ps := ["_law_script", "_law_k"]) fun _ _ _ _ _ _ us hl => match us, hl with | [_, _], _ => rfl
  have F__law_draw := fun_mk (st := s__law_draw) l__law_draw c__law_draw k__law_draw
  have b__law_draw := F__law_draw.binds (ps := ["_law_cell", "_law_k", "_law_many"]) fun _ _ _ _ _ _ us hl => match us, hl with | [_, _, _], _ => rfl
  have F__law_value := fun_mk (st := s__law_value) l__law_value c__law_value k__law_value
  have b__law_value := F__law_value.binds (ps := ["_law_cell", "_law_turn"]) fun _ _ _ _ _ _ us hl => match us, hl with | [_, _], _ => rfl
  have F__law_whole := fun_mk (st := s__law_whole) l__law_whole c__law_whole k__law_whole
  have b__law_whole := F__law_whole.binds (ps := ["_law_number"]) fun _ _ _ _ _ _ us hl => match us, hl with | [_], _ => rfl
  have F__law_are_pairs := fun_mk (st := s__law_are_pairs) l__law_are_pairs c__law_are_pairs k__law_are_pairs
  have b__law_are_pairs := F__law_are_pairs.binds (ps := ["_law_rows"]) fun _ _ _ _ _ _ us hl => match us, hl with | [_], _ => rfl
  have F__law_rows_right := fun_mk (st := s__law_rows_right) l__law_rows_right c__law_rows_right k__law_rows_right
  have b__law_rows_right := F__law_rows_right.binds (ps := ["_law_number"]) fun _ _ _ _ _ _ us hl => match us, hl with | [_], _ => rfl
  have F__law_far_right := fun_mk (st := s__law_far_right) l__law_far_right c__law_far_right k__law_far_right
  have b__law_far_right := F__law_far_right.binds (ps := ["_law_number"]) fun _ _ _ _ _ _ us hl => match us, hl with | [_], _ => rfl
  have F__law_known_right := fun_mk (st := s__law_known_right) l__law_known_right c__law_known_right k__law_known_right
  have b__law_known_right := F__law_known_right.binds (ps := ["_law_kind"]) fun _ _ _ _ _ _ us hl => match us, hl with | [_], _ => rfl
  have F_law := fun_mk (st := s_law) l_law c_law k_law
  have C_Answer : ClsF K mg "Answer" CA := ⟨PySem.W.mg_of X G ya_Answer, ⟨yp_Answer, yh_Answer, yo_Answer, ys_Answer⟩, yc_Answer, y_hn, y_htk, ym_Answer⟩
  have C_Sum : ClsF K mg "Sum" CS := ⟨PySem.W.mg_of X G ya_Sum, ⟨yp_Sum, yh_Sum, yo_Sum, ys_Sum⟩, yc_Sum, y_hn, y_htk, ym_Sum⟩
  have nf : NoAttr K CS "first" := yn_Sum_first
  have nl : NoAttr K CS "last" := yn_Sum_last
  have F_Sum___init__ := fun_mk (st := s_Sum___init__) l_Sum___init__ c_Sum___init__ k_Sum___init__
  have b_Sum___init__ := F_Sum___init__.binds (ps := ["self", "first", "last"]) fun _ _ _ _ _ _ us hl => match us, hl with | [_, _, _], _ => rfl
  have F_Sum_shows := fun_mk (st := s_Sum_shows) l_Sum_shows c_Sum_shows k_Sum_shows
  have b_Sum_shows := F_Sum_shows.binds (ps := ["self", "number"]) fun _ _ _ _ _ _ us hl => match us, hl with | [_, _], _ => rfl
  have C_Power : ClsF K mg "Power" CP := ⟨PySem.W.mg_of X G ya_Power, ⟨yp_Power, yh_Power, yo_Power, ys_Power⟩, yc_Power, y_hn, y_htk, ym_Power⟩
  have no : NoAttr K CP "often" := yn_Power_often
  have F_Power___init__ := fun_mk (st := s_Power___init__) l_Power___init__ c_Power___init__ k_Power___init__
  have b_Power___init__ := F_Power___init__.binds (ps := ["self", "often"]) fun _ _ _ _ _ _ us hl => match us, hl with | [_, _], _ => rfl
  have F_Power_shows := fun_mk (st := s_Power_shows) l_Power_shows c_Power_shows k_Power_shows
  have b_Power_shows := F_Power_shows.binds (ps := ["self", "number"]) fun _ _ _ _ _ _ us hl => match us, hl with | [_, _], _ => rfl
  have T : Kit K CA CS CP := ⟨q_sa, q_pa, q_ss, q_sp, q_ps, q_pp⟩
  refine ⟨PySem.W.fnOf "law" "law" (defArgs s_law) (defBody s_law) (defScope s_law) .none kV_law dc_law pm_law an_law cd_law ct_law, fun s v => .of_eq rfl, fun base _ _ => ?_⟩
  have K_Sum : Makes l.prog w K mg base CS _ _ := ⟨_, _, ⟨yw_Sum, a_Sum___init__, i_Sum___init__, yk_Sum⟩, b_Sum___init__, ok_Sum_init F_Sum___init__ C_Sum nf nl⟩
  have S_Sum : HasM l.prog w K mg base CS "shows" _ _ := ⟨_, _, ⟨a_Sum_shows, i_Sum_shows, k_Sum_shows⟩, b_Sum_shows, ok_Sum_shows F_Sum_shows C_Sum nf nl⟩
  have K_Power : Makes l.prog w K mg base CP _ _ := ⟨_, _, ⟨yw_Power, a_Power___init__, i_Power___init__, yk_Power⟩, b_Power___init__, ok_Power_init F_Power___init__ C_Power no⟩
  have S_Power : HasM l.prog w K mg base CP "shows" _ _ := ⟨_, _, ⟨a_Power_shows, i_Power_shows, k_Power_shows⟩, b_Power_shows, ok_Power_shows F_Power_shows C_Power no⟩
  have C_is_whole := mkC (PySem.W.mg_of X G a_is_whole) F_is_whole b_is_whole (ok_is_whole (P := l.prog) (w := w) (base := base) F_is_whole B)
  have C_check_number := mkC (PySem.W.mg_of X G a_check_number) F_check_number b_check_number (ok_check_number (P := l.prog) (w := w) (base := base) F_check_number B g_GREATEST C_is_whole)
  have C_parts_of := mkC (PySem.W.mg_of X G a_parts_of) F_parts_of b_parts_of (ok_parts_of (P := l.prog) (w := w) (base := base) F_parts_of B)
  have C_row_of := mkC (PySem.W.mg_of X G a_row_of) F_row_of b_row_of (ok_row_of (P := l.prog) (w := w) (base := base) F_row_of B)
  have C_rows_of := mkC (PySem.W.mg_of X G a_rows_of) F_rows_of b_rows_of (ok_rows_of (P := l.prog) (w := w) (base := base) F_rows_of B C_parts_of C_row_of)
  have C_high_rows := mkC (PySem.W.mg_of X G a_high_rows) F_high_rows b_high_rows (ok_high_rows (P := l.prog) (w := w) (base := base) F_high_rows C_check_number C_rows_of)
  have C_all_rows := mkC (PySem.W.mg_of X G a_all_rows) F_all_rows b_all_rows (ok_all_rows (P := l.prog) (w := w) (base := base) F_all_rows C_check_number C_rows_of)
  have C_longest := mkC (PySem.W.mg_of X G a_longest) F_longest b_longest (ok_longest (P := l.prog) (w := w) (base := base) F_longest C_high_rows)
  have C_of_length := mkC (PySem.W.mg_of X G a_of_length) F_of_length b_of_length (ok_of_length (P := l.prog) (w := w) (base := base) F_of_length C_check_number C_is_whole C_row_of)
  have C_judged := mkC (PySem.W.mg_of X G a_judged) F_judged b_judged (ok_judged (P := l.prog) (w := w) (base := base) F_judged B C_check_number C_row_of C_Sum C_Power K_Sum K_Power)
  have C_least_from := mkC (PySem.W.mg_of X G a_least_from) F_least_from b_least_from (ok_least_from (P := l.prog) (w := w) (base := base) F_least_from B (PySem.W.mg_of X G a_least_from) b_least_from 6)
  have C_least_with := mkC (PySem.W.mg_of X G a_least_with) F_least_with b_least_with (ok_least_with (P := l.prog) (w := w) (base := base) F_least_with B g_MOST C_is_whole C_least_from)
  have C__law_cell_at := mkC (PySem.W.mg_of X G a__law_cell_at) F__law_cell_at b__law_cell_at (ok__law_cell_at (P := l.prog) (w := w) (base := base) F__law_cell_at B)
  have C__law_draw := mkC (PySem.W.mg_of X G a__law_draw) F__law_draw b__law_draw (ok__law_draw (P := l.prog) (w := w) (base := base) F__law_draw )
  have C__law_value := mkC (PySem.W.mg_of X G a__law_value) F__law_value b__law_value (ok__law_value (P := l.prog) (w := w) (base := base) F__law_value C__law_draw)
  have C__law_whole := mkC (PySem.W.mg_of X G a__law_whole) F__law_whole b__law_whole (ok__law_whole (P := l.prog) (w := w) (base := base) F__law_whole B)
  have C__law_are_pairs := mkC (PySem.W.mg_of X G a__law_are_pairs) F__law_are_pairs b__law_are_pairs (ok__law_are_pairs (P := l.prog) (w := w) (base := base) F__law_are_pairs B C__law_whole)
  have C__law_rows_right := mkC (PySem.W.mg_of X G a__law_rows_right) F__law_rows_right b__law_rows_right (ok__law_rows_right (P := l.prog) (w := w) (base := base) F__law_rows_right B C_high_rows C_all_rows C_longest C_of_length C__law_are_pairs)
  have C__law_far_right := mkC (PySem.W.mg_of X G a__law_far_right) F__law_far_right b__law_far_right (ok__law_far_right (P := l.prog) (w := w) (base := base) F__law_far_right B C_Sum C_Power K_Sum K_Power S_Sum S_Power)
  have C__law_known_right := mkC (PySem.W.mg_of X G a__law_known_right) F__law_known_right b__law_known_right (ok__law_known_right (P := l.prog) (w := w) (base := base) F__law_known_right B C_Sum C_Power T nf nl no S_Sum C_high_rows C_all_rows C_longest C_of_length C_judged C__law_whole C_least_with)
  exact ok_law F_law B C__law_cell_at C__law_value C__law_rows_right C__law_far_right C__law_known_right
theorem walk {l : PySem.W.OpenLaw} {q : Program} {loose : List Str} {XP : (Str → Option Value) → Heap → Prop} {YP : World → Heap → Prop} {d : DefRec} {K : Params → PySem.W.Frag} (hn : l.most = some 63) (hdf : d.params.defaults = [])
    (hY : ∀ (w : World) (h : Heap), YP w h → (K w.params).In h)
    (F : ∀ (w : World) (mg : Str → Option Value) (fa : Addr) (h : Heap), (K w.params).In h → h.Ns mainGlobals mg → mg d.name = some (.ref fa) →
      ∃ fd : FuncData, (∀ (s : Shared) (u : Value), BindsTo s fd ⟨[u], []⟩ [("_law_script", u)]) ∧ ∀ base : Heap, (K w.params).In base → base.Ns mainGlobals mg → FnOk l.prog w (K w.params) mg base CX0 11 fa fd ["_law_script"] (spLaw (K w.params))) :
    PySem.W.WalkO q loose XP YP l.row.toRowW d [] (fun f vs => PySem.call f vs) :=
  L2.walk_ofB (n := 63) (k := 11) (x := "_law_script") (CX := fun _ => CX0) (sp := fun w => spLaw (K w.params)) hn (by decide) hdf ⟨rfl, by decide, by decide⟩ hY F (fun _ _ a ns hl hb _ hS => ⟨a, ns, rfl, hS, hl, hb, fun _ => rfl⟩) fun _ _ _ _ _ z => z
end NB
open PySem PySem.W PyProof.Rows
set_option maxRecDepth 100000 in
set_option maxHeartbeats 0 in
theorem PySem.Challenge.cw_neighboursums_k07_whole_hard_holds : PySem.Challenge.rw_neighboursums_k07_whole_hard.Holds := by
  w_on; o_law; k_head; (case hw => w_witness2)
  k_fill
  refine NB.walk (l := PySem.Challenge.rw_neighboursums_k07_whole_hard) rfl rfl (fun w h Y => PySem.W.kIn_of Y) ?F
  case F =>
    intro w mg fa h KX G hmg
    refine' NB.all_mk KX G hmg ?a_is_whole ?l_is_whole ?c_is_whole ?k_is_whole ?a_check_number ?l_check_number ?c_check_number ?k_check_number ?a_parts_of ?l_parts_of ?c_parts_of ?k_parts_of ?a_row_of ?l_row_of ?c_row_of ?k_row_of ?a_rows_of ?l_rows_of ?c_rows_of ?k_rows_of ?a_high_rows ?l_high_rows ?c_high_rows ?k_high_rows ?a_all_rows ?l_all_rows ?c_all_rows ?k_all_rows ?a_longest ?l_longest ?c_longest ?k_longest ?a_of_length ?l_of_length ?c_of_length ?k_of_length ?a_judged ?l_judged ?c_judged ?k_judged ?a_least_from ?l_least_from ?c_least_from ?k_least_from ?a_least_with ?l_least_with ?c_least_with ?k_least_with ?a__law_cell_at ?l__law_cell_at ?c__law_cell_at ?k__law_cell_at ?a__law_draw ?l__law_draw ?c__law_draw ?k__law_draw ?a__law_value ?l__law_value ?c__law_value ?k__law_value ?a__law_whole ?l__law_whole ?c__law_whole ?k__law_whole ?a__law_are_pairs ?l__law_are_pairs ?c__law_are_pairs ?k__law_are_pairs ?a__law_rows_right ?l__law_rows_right ?c__law_rows_right ?k__law_rows_right ?a__law_far_right ?l__law_far_right ?c__law_far_right ?k__law_far_right ?a__law_known_right ?l__law_known_right ?c__law_known_right ?k__law_known_right ?a_law ?l_law ?c_law ?k_law ?y_hn ?y_htk ?ya_Answer ?yp_Answer ?yh_Answer ?yo_Answer ?ys_Answer ?yc_Answer ?ym_Answer ?ya_Sum ?yp_Sum ?yh_Sum ?yo_Sum ?ys_Sum ?yc_Sum ?ym_Sum ?yk_Sum ?yw_Sum ?yn_Sum_first ?yn_Sum_last ?a_Sum___init__ ?i_Sum___init__ ?l_Sum___init__ ?c_Sum___init__ ?k_Sum___init__ ?a_Sum_shows ?i_Sum_shows ?l_Sum_shows ?c_Sum_shows ?k_Sum_shows ?ya_Power ?yp_Power ?yh_Power ?yo_Power ?ys_Power ?yc_Power ?ym_Power ?yk_Power ?yw_Power ?yn_Power_often ?a_Power___init__ ?i_Power___init__ ?l_Power___init__ ?c_Power___init__ ?k_Power___init__ ?a_Power_shows ?i_Power_shows ?l_Power_shows ?c_Power_shows ?k_Power_shows ?q_sa ?q_pa ?q_ss ?q_sp ?q_ps ?q_pp ?h_GREATEST ?h_MOST ?z_isinstance ?z_int ?z_bool ?z_list ?z_tuple ?z_len ?z_max ?z_min ?z_sorted ?z_range ?z_sum ?z_all ?z_zip ?z_set
    (case a_is_whole => k_is)
    (case l_is_whole => k_is)
    (case c_is_whole => k_is)
    (case k_is_whole => k_is)
    (case a_check_number => k_is)
    (case l_check_number => k_is)
    (case c_check_number => k_is)
    (case k_check_number => k_is)
    (case a_parts_of => k_is)
    (case l_parts_of => k_is)
    (case c_parts_of => k_is)
    (case k_parts_of => k_is)
    (case a_row_of => k_is)
    (case l_row_of => k_is)
    (case c_row_of => k_is)
    (case k_row_of => k_is)
    (case a_rows_of => k_is)
    (case l_rows_of => k_is)
    (case c_rows_of => k_is)
    (case k_rows_of => k_is)
    (case a_high_rows => k_is)
    (case l_high_rows => k_is)
    (case c_high_rows => k_is)
    (case k_high_rows => k_is)
    (case a_all_rows => k_is)
    (case l_all_rows => k_is)
    (case c_all_rows => k_is)
    (case k_all_rows => k_is)
    (case a_longest => k_is)
    (case l_longest => k_is)
    (case c_longest => k_is)
    (case k_longest => k_is)
    (case a_of_length => k_is)
    (case l_of_length => k_is)
    (case c_of_length => k_is)
    (case k_of_length => k_is)
    (case a_judged => k_is)
    (case l_judged => k_is)
    (case c_judged => k_is)
    (case k_judged => k_is)
    (case a_least_from => k_is)
    (case l_least_from => k_is)
    (case c_least_from => k_is)
    (case k_least_from => k_is)
    (case a_least_with => k_is)
    (case l_least_with => k_is)
    (case c_least_with => k_is)
    (case k_least_with => k_is)
    (case a__law_cell_at => k_is)
    (case l__law_cell_at => k_is)
    (case c__law_cell_at => k_is)
    (case k__law_cell_at => k_is)
    (case a__law_draw => k_is)
    (case l__law_draw => k_is)
    (case c__law_draw => k_is)
    (case k__law_draw => k_is)
    (case a__law_value => k_is)
    (case l__law_value => k_is)
    (case c__law_value => k_is)
    (case k__law_value => k_is)
    (case a__law_whole => k_is)
    (case l__law_whole => k_is)
    (case c__law_whole => k_is)
    (case k__law_whole => k_is)
    (case a__law_are_pairs => k_is)
    (case l__law_are_pairs => k_is)
    (case c__law_are_pairs => k_is)
    (case k__law_are_pairs => k_is)
    (case a__law_rows_right => k_is)
    (case l__law_rows_right => k_is)
    (case c__law_rows_right => k_is)
    (case k__law_rows_right => k_is)
    (case a__law_far_right => k_is)
    (case l__law_far_right => k_is)
    (case c__law_far_right => k_is)
    (case k__law_far_right => k_is)
    (case a__law_known_right => k_is)
    (case l__law_known_right => k_is)
    (case c__law_known_right => k_is)
    (case k__law_known_right => k_is)
    (case a_law => k_is)
    (case l_law => k_is)
    (case c_law => k_is)
    (case k_law => k_is)
    (case y_hn => k_is)
    (case y_htk => k_is)
    (case ya_Answer => k_is)
    (case yp_Answer => k_is)
    (case yh_Answer => k_is)
    (case yo_Answer => k_is)
    (case ys_Answer => k_is)
    (case yc_Answer => k_is)
    (case ym_Answer => k_is)
    (case ya_Sum => k_is)
    (case yp_Sum => k_is)
    (case yh_Sum => k_is)
    (case yo_Sum => k_is)
    (case ys_Sum => k_is)
    (case yc_Sum => k_is)
    (case ym_Sum => k_is)
    (case yk_Sum => k_is)
    (case yw_Sum => k_is)
    (case yn_Sum_first => k_is)
    (case yn_Sum_last => k_is)
    (case a_Sum___init__ => k_is)
    (case i_Sum___init__ => k_is)
    (case l_Sum___init__ => k_is)
    (case c_Sum___init__ => k_is)
    (case k_Sum___init__ => k_is)
    (case a_Sum_shows => k_is)
    (case i_Sum_shows => k_is)
    (case l_Sum_shows => k_is)
    (case c_Sum_shows => k_is)
    (case k_Sum_shows => k_is)
    (case ya_Power => k_is)
    (case yp_Power => k_is)
    (case yh_Power => k_is)
    (case yo_Power => k_is)
    (case ys_Power => k_is)
    (case yc_Power => k_is)
    (case ym_Power => k_is)
    (case yk_Power => k_is)
    (case yw_Power => k_is)
    (case yn_Power_often => k_is)
    (case a_Power___init__ => k_is)
    (case i_Power___init__ => k_is)
    (case l_Power___init__ => k_is)
    (case c_Power___init__ => k_is)
    (case k_Power___init__ => k_is)
    (case a_Power_shows => k_is)
    (case i_Power_shows => k_is)
    (case l_Power_shows => k_is)
    (case c_Power_shows => k_is)
    (case k_Power_shows => k_is)
    (case q_sa => kit_is)
    (case q_pa => kit_is)
    (case q_ss => kit_is)
    (case q_sp => kit_is)
    (case q_ps => kit_is)
    (case q_pp => kit_is)
    (case h_GREATEST => k_is)
    (case h_MOST => k_is)
    (case z_isinstance => k_is)
    (case z_int => k_is)
    (case z_bool => k_is)
    (case z_list => k_is)
    (case z_tuple => k_is)
    (case z_len => k_is)
    (case z_max => k_is)
    (case z_min => k_is)
    (case z_sorted => k_is)
    (case z_range => k_is)
    (case z_sum => k_is)
    (case z_all => k_is)
    (case z_zip => k_is)
    (case z_set => k_is)
#print axioms PySem.Challenge.cw_neighboursums_k07_whole_hard_holds

