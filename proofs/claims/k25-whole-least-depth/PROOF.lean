import PyProof.Rows.All
import Wide.All
import OpenK.AllK
import Wide.FinOn
import HandS.ForMost
import HandS.Exc
import HandS.Conv
import HandS.More
import HandS.IsInst
import HandS.Wide
import HandS.WideBits
import HandS.TupAny
import PySem.Challenge.RW_wheelwritten_k25_whole_least_depth
import KE.GoesEnum
import HandS.Defaults
import HandS.Codes
import HandS.WordsDict
/-! M1: masks, independent sets, colours of a set of dials -/
namespace WW

/-- the mask of the numbers below n with p -/
def mk : Nat → (Nat → Bool) → Nat
  | 0, _ => 0
  | n + 1, p => mk n p ||| (if p n = true then 2 ^ n else 0)
theorem bit_mk (p : Nat → Bool) (i : Nat) : ∀ n, (mk n p).testBit i = (decide (i < n) && p i)
  | 0 => by simp [mk]
  | n + 1 => by
    have ih := bit_mk p i n
    unfold mk
    rw [Nat.testBit_or, ih]
    by_cases h : p n = true
    · rw [if_pos h, Nat.testBit_two_pow]
      by_cases e : n = i
      · subst e
        simp [h]
      · have e1 : decide (n = i) = false := decide_eq_false e
        have e2 : decide (i < n + 1) = decide (i < n) := by
          by_cases q : i < n
          · simp [q, Nat.lt_succ_of_lt q]
          · have : ¬ i < n + 1 := by omega
            simp [q, this]
        rw [e1, e2, Bool.or_false]
    · rw [if_neg h, Nat.zero_testBit, Bool.or_false]
      by_cases e : n = i
      · subst e
        simp [h]
      · have e2 : decide (i < n + 1) = decide (i < n) := by
          by_cases q : i < n
          · simp [q, Nat.lt_succ_of_lt q]
          · have : ¬ i < n + 1 := by omega
            simp [q, this]
        rw [e2]
theorem mk_lt (n : Nat) (p : Nat → Bool) : mk n p < 2 ^ n := by
  refine Nat.lt_pow_two_of_testBit _ fun i hi => ?_
  rw [bit_mk]
  have : ¬ i < n := by omega
  simp [this]

def Sub (g m : Nat) : Prop := ∀ i, g.testBit i = true → m.testBit i = true
def Ind (T : Nat → Nat → Bool) (m : Nat) : Prop := ∀ i j, m.testBit i = true → m.testBit j = true → T i j = false
def Col (T : Nat → Nat → Bool) (m k : Nat) : Prop := ∃ c : Nat → Nat, (∀ i, m.testBit i = true → c i < k) ∧ ∀ i j, m.testBit i = true → m.testBit j = true → T i j = true → c i ≠ c j
def Chi (T : Nat → Nat → Bool) (m k : Nat) : Prop := Col T m k ∧ ∀ k', Col T m k' → k ≤ k'
theorem Chi.uniq {T : Nat → Nat → Bool} {m k k' : Nat} (a : Chi T m k) (b : Chi T m k') : k = k' := Nat.le_antisymm (a.2 _ b.1) (b.2 _ a.1)
theorem chi_zero (T : Nat → Nat → Bool) : Chi T 0 0 := ⟨⟨fun _ => 0, fun i h => by simp at h, fun i j h => by simp at h⟩, fun _ _ => Nat.zero_le _⟩
theorem bit_lt {m n i : Nat} (h : m < 2 ^ n) (hb : m.testBit i = true) : i < n := by
  rcases Nat.lt_or_ge i n with q | q
  · exact q
  · have : m < 2 ^ i := Nat.lt_of_lt_of_le h (Nat.pow_le_pow_right (by decide) q)
    rw [Nat.testBit_lt_two_pow this] at hb
    cases hb
theorem xor_bit {m g i : Nat} (s : Sub g m) : (m ^^^ g).testBit i = true ↔ m.testBit i = true ∧ g.testBit i = false := by
  rw [Nat.testBit_xor]
  have := s i
  cases h1 : m.testBit i <;> cases h2 : g.testBit i <;> simp_all
theorem Sub.and {g m : Nat} (s : Sub g m) : g &&& m = g := Nat.eq_of_testBit_eq fun i => by
  rw [Nat.testBit_and]
  have h := s i
  cases h2 : g.testBit i with
  | false => rfl
  | true => rw [h h2]; rfl
theorem Sub.le {g m : Nat} (s : Sub g m) : g ≤ m := by
  rw [← s.and]
  exact Nat.and_le_right
theorem xor_lt {m g l : Nat} (s : Sub g m) (hl : g.testBit l = true) : m ^^^ g < m := by
  have s2 : Sub (m ^^^ g) m := fun i h => ((xor_bit s).mp h).1
  have h1 := s2.le
  have h2 : m ^^^ g ≠ m := fun e => by
    have := congrArg (fun x => x.testBit l) e
    simp only [Nat.testBit_xor, hl, s l hl] at this
    cases this
  omega
/-- the recursion: a best group with the dial l in it -/
theorem chi_step {T : Nat → Nat → Bool} {m g l k n : Nat} (hm : m < 2 ^ n) (hg : Sub g m) (hl : g.testBit l = true) (hi : Ind T g) (hk : Chi T (m ^^^ g) k)
    (best : ∀ g', Sub g' m → g'.testBit l = true → Ind T g' → ∀ k', Col T (m ^^^ g') k' → k ≤ k') : Chi T m (k + 1) := by
  obtain ⟨⟨c, c1, c2⟩, _⟩ := hk
  refine ⟨⟨fun i => if g.testBit i = true then k else c i, fun i hi => ?_, fun i j hi' hj' ht => ?_⟩, fun k' ⟨c', d1, d2⟩ => ?_⟩
  · by_cases q : g.testBit i = true
    · simp [q]
    · have := c1 i ((xor_bit hg).mpr ⟨hi, by simpa using q⟩)
      simp only [q]
      simp
      omega
  · by_cases q : g.testBit i = true <;> by_cases q' : g.testBit j = true
    · rw [hi i j q q'] at ht
      cases ht
    · have := c1 j ((xor_bit hg).mpr ⟨hj', by simpa using q'⟩)
      simp only [q, q']
      simp
      omega
    · have := c1 i ((xor_bit hg).mpr ⟨hi', by simpa using q⟩)
      simp only [q, q']
      simp
      omega
    · have := c2 i j ((xor_bit hg).mpr ⟨hi', by simpa using q⟩) ((xor_bit hg).mpr ⟨hj', by simpa using q'⟩) ht
      simp only [q, q']
      simpa using this
  · have hlm := hg l hl
    have e0 := d1 l hlm
    let g' := mk n fun i => m.testBit i && decide (c' i = c' l)
    have gb : ∀ i, g'.testBit i = true ↔ m.testBit i = true ∧ c' i = c' l := fun i => by
      show (mk n fun i => m.testBit i && decide (c' i = c' l)).testBit i = true ↔ _
      rw [bit_mk]
      constructor
      · intro h
        simp at h
        exact ⟨h.2.1, h.2.2⟩
      · rintro ⟨h1, h2⟩
        simp [h1, h2, bit_lt hm h1]
    have sg : Sub g' m := fun i h => ((gb i).mp h).1
    have := best g' sg ((gb l).mpr ⟨hlm, rfl⟩) (fun i j a b => by
      have a' := (gb i).mp a
      have b' := (gb j).mp b
      cases h : T i j with
      | false => rfl
      | true => exact (d2 i j a'.1 b'.1 h (a'.2.trans b'.2.symm)).elim) (k' - 1) ⟨fun i => if c' i = k' - 1 then c' l else c' i, fun i h => ?_, fun i j h h' ht => ?_⟩
    · omega
    · have h1 := (xor_bit sg).mp h
      have h2 := d1 i h1.1
      have h3 : c' i ≠ c' l := fun e => by
        have := (gb i).mpr ⟨h1.1, e⟩
        rw [h1.2] at this
        cases this
      show (if c' i = k' - 1 then c' l else c' i) < k' - 1
      split <;> omega
    · have h1 := (xor_bit sg).mp h
      have h1' := (xor_bit sg).mp h'
      have h3 : c' i ≠ c' l := fun e => by
        have := (gb i).mpr ⟨h1.1, e⟩
        rw [h1.2] at this
        cases this
      have h3' : c' j ≠ c' l := fun e => by
        have := (gb j).mpr ⟨h1'.1, e⟩
        rw [h1'.2] at this
        cases this
      have := d2 i j h1.1 h1'.1 ht
      show (if c' i = k' - 1 then c' l else c' i) ≠ (if c' j = k' - 1 then c' l else c' j)
      split <;> split <;> omega
/-- the next smaller set within a pool -/
theorem sub_next : ∀ (p s g : Nat), Sub s p → Sub g p → s < g → s ≤ (g - 1) &&& p := by
  intro p
  induction p using Nat.strongRecOn with
  | _ p ih =>
    intro s g hs hg hlt
    by_cases hp : p = 0
    · subst hp
      have : g ≤ 0 := hg.le
      omega
    · have half : ∀ {a b : Nat}, Sub a b → Sub (a / 2) (b / 2) := fun {a b} h i hi => by
        have := h (i + 1) (by rw [Nat.testBit_add_one]; exact hi)
        rwa [Nat.testBit_add_one] at this
      have low : ∀ {a b : Nat}, Sub a b → a % 2 ≤ b % 2 := fun {a b} h => by
        have := h 0
        simp only [Nat.testBit_zero, decide_eq_true_eq] at this
        omega
      have hs0 := low hs
      have hg0 := low hg
      have key : ∀ x y : Nat, x &&& y = 2 * (x / 2 &&& y / 2) + (x % 2) * (y % 2) := fun x y => by
        refine Nat.eq_of_testBit_eq fun i => ?_
        cases i with
        | zero =>
          rw [Nat.testBit_and]
          simp only [Nat.testBit_zero]
          have e1 : (2 * (x / 2 &&& y / 2) + (x % 2) * (y % 2)) % 2 = ((x % 2) * (y % 2)) % 2 := by omega
          rw [e1]
          rcases Nat.mod_two_eq_zero_or_one x with a | a <;> rcases Nat.mod_two_eq_zero_or_one y with b | b <;> simp [a, b]
        | succ i =>
          rw [Nat.testBit_and, Nat.testBit_add_one, Nat.testBit_add_one, Nat.testBit_add_one]
          have e1 : (2 * (x / 2 &&& y / 2) + (x % 2) * (y % 2)) / 2 = x / 2 &&& y / 2 := by
            rcases Nat.mod_two_eq_zero_or_one x with a | a <;> rcases Nat.mod_two_eq_zero_or_one y with b | b <;> simp only [a, b] <;> omega
          rw [e1, Nat.testBit_and]
      rw [key]
      rcases Nat.mod_two_eq_zero_or_one g with a | a
      · have e1 : (g - 1) / 2 = g / 2 - 1 := by omega
        have e2 : (g - 1) % 2 = 1 := by omega
        have := ih (p / 2) (by omega) (s / 2) (g / 2) (half hs) (half hg) (by omega)
        rw [e1, e2]
        omega
      · have e1 : (g - 1) / 2 = g / 2 := by omega
        have e2 : (g - 1) % 2 = 0 := by omega
        have e3 : g / 2 &&& p / 2 = g / 2 := (half hg).and
        rw [e1, e2, e3]
        omega
theorem and_sub_right (a b : Nat) : Sub (a &&& b) b := fun i h => by
  rw [Nat.testBit_and, Bool.and_eq_true] at h
  exact h.2
theorem and_lt {g p : Nat} (h : 0 < g) : (g - 1) &&& p < g := Nat.lt_of_le_of_lt Nat.and_le_left (by omega)
/-- independence by one dial and the others -/
theorem ind_split {T : Nat → Nat → Bool} (hs : ∀ i j, T i j = T j i) (hr : ∀ i, T i i = false) {m rest t : Nat} (hb : ∀ i, m.testBit i = true ↔ i = t ∨ rest.testBit i = true) :
    Ind T m ↔ Ind T rest ∧ ∀ j, rest.testBit j = true → T t j = false := by
  constructor
  · intro h
    exact ⟨fun i j a b => h i j ((hb i).mpr (.inr a)) ((hb j).mpr (.inr b)), fun j a => h t j ((hb t).mpr (.inl rfl)) ((hb j).mpr (.inr a))⟩
  · rintro ⟨h1, h2⟩ i j a b
    rcases (hb i).mp a with rfl | a'
    · rcases (hb j).mp b with rfl | b'
      · exact hr _
      · exact h2 j b'
    · rcases (hb j).mp b with rfl | b'
      · rw [hs]
        exact h2 i a'
      · exact h1 i j a' b'
theorem and_zero_iff {a b : Nat} : a &&& b = 0 ↔ ∀ i, a.testBit i = true → b.testBit i = false := by
  constructor
  · intro h i ha
    have := congrArg (fun x => x.testBit i) h
    simp only [Nat.testBit_and, ha, Nat.zero_testBit, Bool.true_and] at this
    exact this
  · intro h
    refine Nat.eq_of_testBit_eq fun i => ?_
    rw [Nat.testBit_and, Nat.zero_testBit]
    cases q : a.testBit i with
    | false => rfl
    | true => rw [h i q]; rfl
theorem chi_pos {T : Nat → Nat → Bool} {m k i : Nat} (h : Chi T m k) (hi : m.testBit i = true) : 0 < k := by
  obtain ⟨⟨c, c1, _⟩, _⟩ := h
  have := c1 i hi
  omega
theorem col_mono {T : Nat → Nat → Bool} {m k k' : Nat} (h : Col T m k) (hk : k ≤ k') : Col T m k' := by
  obtain ⟨c, c1, c2⟩ := h
  exact ⟨c, fun i hi => Nat.lt_of_lt_of_le (c1 i hi) hk, c2⟩
/-- at most as many colours as dials -/
theorem chi_le {T : Nat → Nat → Bool} (hr : ∀ i, T i i = false) {m k n : Nat} (hm : m < 2 ^ n) (h : Chi T m k) : k ≤ n :=
  h.2 n ⟨fun i => i, fun i hi => bit_lt hm hi, fun i j _ _ ht e => by
    have e : i = j := e
    rw [e, hr] at ht
    cases ht⟩
end WW

/-! M2: products over sets of dials; fitting orders; the straight board's weights; closures; depth -/
namespace WW
abbrev Rel := Nat → Nat → Bool

/-! ### the closure, dial by dial -/
def Tr (R : Nat → Nat → Prop) (m : Nat) : Prop := ∀ k, k < m → ∀ i j, R i k → R k j → R i j
theorem fw_step {R : Nat → Nat → Prop} {c : Nat → Nat} {m : Nat} (hp : ∀ i j, R i j → c j < c i) (ht : Tr R m) : Tr (fun i j => R i j ∨ (R i m ∧ R m j)) (m + 1) := by
  have hm : ∀ k, ¬ R k k := fun k h => Nat.lt_irrefl _ (hp k k h)
  intro k hk i j h1 h2
  by_cases e : k = m
  · subst e
    have a : R i k := by
      rcases h1 with h | ⟨_, h⟩
      · exact h
      · exact (hm _ h).elim
    have b : R k j := by
      rcases h2 with h | ⟨h, _⟩
      · exact h
      · exact (hm _ h).elim
    exact .inr ⟨a, b⟩
  · have hk' : k < m := by omega
    rcases h1 with a | ⟨a, a'⟩ <;> rcases h2 with b | ⟨b, b'⟩
    · exact .inl (ht k hk' i j a b)
    · exact .inr ⟨ht k hk' i m a b, b'⟩
    · exact .inr ⟨a, ht k hk' m j a' b⟩
    · exact .inr ⟨a, b'⟩

/-! ### products and counts -/
def pr (r : Nat → Nat) (S : Nat → Bool) : Nat → Nat
  | 0 => 1
  | n + 1 => pr r S n * (if S n = true then r n else 1)
def cn (S : Nat → Bool) : Nat → Nat
  | 0 => 0
  | n + 1 => cn S n + (if S n = true then 1 else 0)
theorem pr_pos {r : Nat → Nat} {S : Nat → Bool} : ∀ {n : Nat}, (∀ i, i < n → 0 < r i) → 0 < pr r S n
  | 0, _ => Nat.one_pos
  | n + 1, h => by
    have ih := pr_pos (S := S) (n := n) fun i hi => h i (by omega)
    have := h n (by omega)
    unfold pr
    split
    · exact Nat.mul_pos ih this
    · simpa using ih
theorem pr_congr {r : Nat → Nat} {S S' : Nat → Bool} : ∀ {n : Nat}, (∀ i, i < n → S i = S' i) → pr r S n = pr r S' n
  | 0, _ => rfl
  | n + 1, h => by
    unfold pr
    rw [pr_congr (n := n) fun i hi => h i (by omega), h n (by omega)]
theorem pr_dvd {r : Nat → Nat} {S S' : Nat → Bool} : ∀ {n : Nat}, (∀ i, i < n → S i = true → S' i = true) → pr r S n ∣ pr r S' n
  | 0, _ => Nat.dvd_refl _
  | n + 1, h => by
    have ih := pr_dvd (r := r) (n := n) fun i hi => h i (by omega)
    unfold pr
    by_cases a : S n = true
    · rw [if_pos a, if_pos (h n (by omega) a)]
      exact Nat.mul_dvd_mul_right ih _
    · rw [if_neg a, Nat.mul_one]
      exact Nat.dvd_trans ih (Nat.dvd_mul_right _ _)
theorem pr_union {r : Nat → Nat} {S S' : Nat → Bool} : ∀ {n : Nat}, (∀ i, i < n → S i = true → S' i = false) → pr r (fun i => S i || S' i) n = pr r S n * pr r S' n
  | 0, _ => rfl
  | n + 1, h => by
    have ih := pr_union (r := r) (n := n) fun i hi => h i (by omega)
    unfold pr
    rw [ih]
    by_cases a : S n = true
    · have b := h n (by omega) a
      simp only [a, b, Bool.or_false, if_true]
      simp
      rw [Nat.mul_right_comm]
    · by_cases b : S' n = true
      · have a' : S n = false := by simpa using a
        simp only [a', b, Bool.false_or, if_true]
        simp
        rw [Nat.mul_assoc]
      · have a' : S n = false := by simpa using a
        have b' : S' n = false := by simpa using b
        simp [a', b']
theorem pr_cop {r : Nat → Nat} {k : Nat} {S : Nat → Bool} : ∀ {n : Nat}, (∀ i, i < n → S i = true → Nat.Coprime k (r i)) → Nat.Coprime k (pr r S n)
  | 0, _ => by
    show Nat.gcd k 1 = 1
    exact Nat.gcd_one_right k
  | n + 1, h => by
    have ih := pr_cop (n := n) fun i hi => h i (by omega)
    unfold pr
    by_cases a : S n = true
    · rw [if_pos a]
      exact Nat.Coprime.mul_right ih (h n (by omega) a)
    · rw [if_neg a, Nat.mul_one]
      exact ih
theorem pr_cops {r : Nat → Nat} {S S' : Nat → Bool} {n : Nat} (h : ∀ i j, i < n → j < n → S i = true → S' j = true → Nat.Coprime (r i) (r j)) : Nat.Coprime (pr r S n) (pr r S' n) := by
  refine pr_cop fun j hj sj => (pr_cop fun i hi si => ?_).symm
  exact (h i j hi hj si sj).symm
theorem pr_one {r : Nat → Nat} {t : Nat} : ∀ {n : Nat}, pr r (fun j => decide (j = t)) n = if t < n then r t else 1
  | 0 => rfl
  | n + 1 => by
    unfold pr
    rw [pr_one (n := n)]
    by_cases e : n = t
    · subst e
      simp
    · by_cases q : t < n
      · have : t < n + 1 := by omega
        simp [e, q, this]
      · have : ¬ t < n + 1 := by omega
        simp [e, q, this]
theorem pr_lt {r : Nat → Nat} {S S' : Nat → Bool} : ∀ {n t : Nat}, (∀ i, i < n → 2 ≤ r i) → (∀ i, i < n → S i = true → S' i = true) → t < n → S t = false → S' t = true → pr r S n < pr r S' n
  | 0, _, _, _, h, _, _ => absurd h (Nat.not_lt_zero _)
  | n + 1, t, h2, hs, ht, s1, s2 => by
    have hp : 0 < pr r S n := pr_pos fun i hi => by have := h2 i (by omega); omega
    have hd : pr r S n ∣ pr r S' n := pr_dvd fun i hi => hs i (by omega)
    have hp' : 0 < pr r S' n := pr_pos fun i hi => by have := h2 i (by omega); omega
    have hle := Nat.le_of_dvd hp' hd
    have hn := h2 n (by omega)
    unfold pr
    by_cases e : t = n
    · subst e
      rw [s1, s2, if_neg Bool.false_ne_true, if_pos rfl, Nat.mul_one]
      calc pr r S t ≤ pr r S' t := hle
        _ < pr r S' t * r t := by
          have : pr r S' t * 1 < pr r S' t * r t := Nat.mul_lt_mul_of_pos_left (by omega) hp'
          omega
    · have ih := pr_lt (n := n) (t := t) (fun i hi => h2 i (by omega)) (fun i hi => hs i (by omega)) (by omega) s1 s2
      by_cases a : S n = true
      · rw [if_pos a, if_pos (hs n (by omega) a)]
        exact Nat.mul_lt_mul_of_pos_right ih (by omega)
      · rw [if_neg a, Nat.mul_one]
        refine Nat.lt_of_lt_of_le ih ?_
        split
        · exact Nat.le_mul_of_pos_right _ (by omega)
        · simp
theorem cn_le {S : Nat → Bool} : ∀ {n : Nat}, cn S n ≤ n
  | 0 => Nat.le_refl _
  | n + 1 => by
    have := cn_le (S := S) (n := n)
    unfold cn
    split <;> omega
theorem cn_mono {S S' : Nat → Bool} : ∀ {n : Nat}, (∀ i, i < n → S i = true → S' i = true) → cn S n ≤ cn S' n
  | 0, _ => Nat.le_refl _
  | n + 1, h => by
    have ih := cn_mono (n := n) fun i hi => h i (by omega)
    unfold cn
    by_cases a : S n = true
    · rw [if_pos a, if_pos (h n (by omega) a)]
      omega
    · rw [if_neg a]
      omega
theorem cn_lt {S S' : Nat → Bool} : ∀ {n t : Nat}, (∀ i, i < n → S i = true → S' i = true) → t < n → S t = false → S' t = true → cn S n < cn S' n
  | 0, _, _, h, _, _ => absurd h (Nat.not_lt_zero _)
  | n + 1, t, hs, ht, s1, s2 => by
    unfold cn
    by_cases e : t = n
    · subst e
      have := cn_mono (S := S) (S' := S') (n := t) fun i hi => hs i (by omega)
      rw [s1, s2, if_neg Bool.false_ne_true, if_pos rfl]
      omega
    · have ih := cn_lt (n := n) (t := t) (fun i hi => hs i (by omega)) (by omega) s1 s2
      by_cases a : S n = true
      · rw [if_pos a, if_pos (hs n (by omega) a)]
        omega
      · rw [if_neg a]
        omega

/-! ### a strict order on the dials below n -/
structure Ord (n : Nat) (O : Rel) : Prop where
  irr : ∀ i, O i i = false
  lt : ∀ i j, O i j = true → i < n ∧ j < n
  tr : ∀ i j k, O i j = true → O j k = true → O i k = true
/-- a number for each dial that falls to all below it -/
def rk (n : Nat) (O : Rel) (i : Nat) : Nat := cn (O i) n
theorem Ord.rk_lt {n : Nat} {O : Rel} (h : Ord n O) {i j : Nat} (hij : O i j = true) : rk n O j < rk n O i :=
  cn_lt (t := j) (fun k _ hk => h.tr i j k hij hk) (h.lt i j hij).2 (h.irr j) hij
theorem Ord.rk_n {n : Nat} {O : Rel} (h : Ord n O) {i : Nat} (hi : i < n) : rk n O i < n := by
  have h1 := cn_lt (n := n) (t := i) (S := O i) (S' := fun _ => true) (fun _ _ _ => rfl) hi (h.irr i) rfl
  exact Nat.lt_of_lt_of_le h1 cn_le

/-! ### depth -/
def Mono (O : Rel) (h : Nat → Nat) : Prop := ∀ i j, O i j = true → h j < h i
def Dep (n : Nat) (O : Rel) (D : Nat) : Prop := (∃ h, Mono O h ∧ ∀ i, i < n → h i ≤ D) ∧ ∀ h E, Mono O h → (∀ i, i < n → h i ≤ E) → D ≤ E
theorem Dep.uniq {n : Nat} {O : Rel} {D D' : Nat} (a : Dep n O D) (b : Dep n O D') : D = D' := by
  obtain ⟨⟨h, m, l⟩, q⟩ := a
  obtain ⟨⟨h', m', l'⟩, q'⟩ := b
  exact Nat.le_antisymm (q h' D' m' l') (q' h D m l)
/-- what a step of the reckoning of depths puts at i -/
def IsF (O : Rel) (s : Nat → Nat) (i v : Nat) : Prop := (v = 0 ∨ ∃ j, O i j = true ∧ v = s j + 1) ∧ ∀ j, O i j = true → s j + 1 ≤ v
theorem IsF.uniq {O : Rel} {s : Nat → Nat} {i v v' : Nat} (a : IsF O s i v) (b : IsF O s i v') : v = v' := by
  have le : ∀ {x y}, IsF O s i x → IsF O s i y → x ≤ y := fun {x y} p q => by
    rcases p.1 with e | ⟨j, hj, e⟩
    · omega
    · rw [e]
      exact q.2 j hj
  exact Nat.le_antisymm (le a b) (le b a)
structure Lap (n : Nat) (O : Rel) (L cur : Nat) (s : Nat → Nat) : Prop where
  fix : ∀ i, i < n → (rk n O i < L ∨ (rk n O i = L ∧ i < cur)) → IsF O s i (s i)
  low : ∀ h, Mono O h → ∀ i, i < n → s i ≤ h i
def put (s : Nat → Nat) (i v : Nat) : Nat → Nat := fun j => if j = i then v else s j
theorem lap_start {n : Nat} {O : Rel} : Lap n O 0 0 (fun _ => 0) := ⟨fun i _ h => by omega, fun _ _ _ _ => Nat.zero_le _⟩
theorem lap_step {n : Nat} {O : Rel} (o : Ord n O) {L i v : Nat} {s : Nat → Nat} (h : Lap n O L i s) (hi : i < n) (hv : IsF O s i v) : Lap n O L (i + 1) (put s i v) := by
  have same : ∀ k, k < n → (rk n O k < L ∨ (rk n O k = L ∧ k < i)) → put s i v k = s k := fun k hk q => by
    unfold put
    split
    · rename_i e
      subst e
      exact hv.uniq (h.fix k hk q)
    · rfl
  have body : ∀ k, k < n → rk n O k ≤ L → ∀ j, O k j = true → put s i v j = s j := fun k hk q j hj =>
    same j (o.lt k j hj).2 (.inl (Nat.lt_of_lt_of_le (o.rk_lt hj) q))
  refine ⟨fun k hk q => ?_, fun g hg k hk => ?_⟩
  · have hle : rk n O k ≤ L := by omega
    have base : IsF O s k (put s i v k) := by
      by_cases e : k = i
      · subst e
        show IsF O s k (if k = k then v else s k)
        rw [if_pos rfl]
        exact hv
      · have q' : rk n O k < L ∨ (rk n O k = L ∧ k < i) := by omega
        rw [same k hk q']
        exact h.fix k hk q'
    refine ⟨?_, fun j hj => ?_⟩
    · rcases base.1 with e | ⟨j, hj, e⟩
      · exact .inl e
      · exact .inr ⟨j, hj, by rw [body k hk hle j hj]; exact e⟩
    · rw [body k hk hle j hj]
      exact base.2 j hj
  · unfold put
    split
    · rename_i e
      subst e
      rcases hv.1 with e | ⟨j, hj, e⟩
      · omega
      · have := h.low g hg j (o.lt k j hj).2
        have := hg k j hj
        omega
    · exact h.low g hg k hk
theorem lap_next {n : Nat} {O : Rel} {L : Nat} {s : Nat → Nat} (h : Lap n O L n s) : Lap n O (L + 1) 0 s :=
  ⟨fun i hi q => h.fix i hi (by omega), h.low⟩
theorem lap_end {n : Nat} {O : Rel} (o : Ord n O) {s : Nat → Nat} {D : Nat} (h : Lap n O n 0 s) (h1 : ∀ i, i < n → s i ≤ D) (h2 : D = 0 ∨ ∃ i, i < n ∧ D = s i) : Dep n O D := by
  refine ⟨⟨s, fun i j hij => ?_, h1⟩, fun g E hg hE => ?_⟩
  · have := (h.fix i (o.lt i j hij).1 (.inl (o.rk_n (o.lt i j hij).1))).2 j hij
    omega
  · rcases h2 with e | ⟨i, hi, e⟩
    · omega
    · have := h.low g hg i hi
      have := hE i hi
      omega

/-! ### ranges and a fitting order -/
structure Fit (n : Nat) (r : Nat → Nat) (O : Rel) : Prop extends Ord n O where
  ge2 : ∀ i, i < n → 2 ≤ r i
  tied : ∀ i j, i < n → j < n → i ≠ j → ¬ Nat.Coprime (r i) (r j) → O i j = true ∨ O j i = true
def dn (O : Rel) (i j : Nat) : Bool := decide (j = i) || O i j
def span (n : Nat) (r : Nat → Nat) (O : Rel) (i : Nat) : Nat := pr r (dn O i) n
def whl (n : Nat) (r : Nat → Nat) : Nat := pr r (fun _ => true) n
theorem pr_split (r : Nat → Nat) (S : Nat → Bool) (n : Nat) : whl n r = pr r S n * pr r (fun i => !S i) n := by
  rw [← pr_union fun i _ h => by simp [h]]
  refine pr_congr fun i _ => ?_
  cases S i <;> rfl
def wt (n : Nat) (r : Nat → Nat) (O : Rel) (i : Nat) : Nat := whl n r / span n r O i
section
variable {n : Nat} {r : Nat → Nat} {O : Rel}
theorem Fit.pos (F : Fit n r O) : ∀ i, i < n → 0 < r i := fun i hi => by have := F.ge2 i hi; omega
theorem Fit.wt_eq (F : Fit n r O) (i : Nat) : wt n r O i = pr r (fun j => !dn O i j) n := by
  unfold wt
  rw [pr_split r (dn O i) n]
  exact Nat.mul_div_cancel_left _ (pr_pos F.pos)
theorem Fit.span_wt (F : Fit n r O) (i : Nat) : span n r O i * wt n r O i = whl n r := by
  rw [F.wt_eq, pr_split r (dn O i) n]
  rfl
theorem Fit.span_eq (F : Fit n r O) {i : Nat} (hi : i < n) : span n r O i = r i * pr r (O i) n := by
  unfold span
  have : pr r (fun j => decide (j = i)) n = r i := by
    rw [pr_one, if_pos hi]
  rw [← this, ← pr_union fun j _ h => by
    have : j = i := by simpa using h
    rw [this]
    exact F.irr i]
  rfl
/-- two sets closed downwards -/
theorem dn_union (F : Fit n r O) {A B : Nat → Bool} {X : Nat} (ha : ∀ i j, A i = true → O i j = true → A j = true) (hb : ∀ i j, B i = true → O i j = true → B j = true) (h1 : pr r A n ∣ X) (h2 : pr r B n ∣ X) : pr r (fun i => A i || B i) n ∣ X := by
  have e1 : pr r A n = pr r (fun i => A i && B i) n * pr r (fun i => A i && !B i) n := by
    rw [← pr_union fun i _ h => by
      have := (Bool.and_eq_true _ _).mp h
      simp [this.2]]
    refine pr_congr fun i _ => ?_
    cases A i <;> cases B i <;> rfl
  have e2 : pr r B n = pr r (fun i => A i && B i) n * pr r (fun i => B i && !A i) n := by
    rw [← pr_union fun i _ h => by
      have := (Bool.and_eq_true _ _).mp h
      simp [this.1]]
    refine pr_congr fun i _ => ?_
    cases A i <;> cases B i <;> rfl
  have e3 : pr r (fun i => A i || B i) n = pr r (fun i => A i && B i) n * (pr r (fun i => A i && !B i) n * pr r (fun i => B i && !A i) n) := by
    rw [← pr_union fun i _ h => by
      have := (Bool.and_eq_true _ _).mp h
      simp [this.1], ← pr_union fun i _ h => by
      have := (Bool.and_eq_true _ _).mp h
      simp [this.1, this.2]]
    refine pr_congr fun i _ => ?_
    cases A i <;> cases B i <;> rfl
  have hp : 0 < pr r (fun i => A i && B i) n := pr_pos F.pos
  rw [e1] at h1
  rw [e2] at h2
  rw [e3]
  obtain ⟨y, rfl⟩ : pr r (fun i => A i && B i) n ∣ X := Nat.dvd_trans (Nat.dvd_mul_right _ _) h1
  have g1 := Nat.dvd_of_mul_dvd_mul_left hp h1
  have g2 := Nat.dvd_of_mul_dvd_mul_left hp h2
  refine Nat.mul_dvd_mul_left _ (Nat.Coprime.mul_dvd_of_dvd_of_dvd (pr_cops fun i j hi hj si sj => ?_) g1 g2)
  simp only [Bool.and_eq_true, Bool.not_eq_true'] at si sj
  by_cases e : i = j
  · subst e
    rw [si.1] at sj
    exact absurd sj.2 (by simp)
  · by_cases c : Nat.Coprime (r i) (r j)
    · exact c
    · rcases F.tied i j hi hj e c with o | o
      · have := ha i j si.1 o
        rw [sj.2] at this
        cases this
      · have := hb j i sj.1 o
        rw [si.2] at this
        cases this
theorem dn_closed (F : Fit n r O) (k i j : Nat) (h : dn O k i = true) (hj : O i j = true) : dn O k j = true := by
  unfold dn at h ⊢
  rcases (Bool.or_eq_true _ _).mp h with e | e
  · have : i = k := by simpa using e
    subst this
    simp [hj]
  · simp [F.tr k i j e hj]
/-- sets that are closed by the weights are closed downwards -/
theorem closed_down (F : Fit n r O) {A : Nat → Bool} (h : ∀ k, k < n → A k = true → span n r O k ∣ pr r A n) {k j : Nat} (hk : k < n) (ak : A k = true) (hj : O k j = true) : A j = true := by
  have all : ∀ m, m ≤ n → pr r (fun j => (List.range m).any fun k => A k && dn O k j) n ∣ pr r A n := by
    intro m
    induction m with
    | zero =>
      intro _
      have : pr r (fun j => (List.range 0).any fun k => A k && dn O k j) n = 1 := by
        have e : ∀ n, pr r (fun _ => false) n = 1 := fun n => by
          induction n with
          | zero => rfl
          | succ n ih => unfold pr; rw [ih]; rfl
        exact e n
      rw [this]
      exact Nat.one_dvd _
    | succ m ih =>
      intro hm
      have ih := ih (by omega)
      have e : pr r (fun j => (List.range (m + 1)).any fun k => A k && dn O k j) n = pr r (fun j => ((List.range m).any fun k => A k && dn O k j) || (A m && dn O m j)) n := pr_congr fun i _ => by
        rw [List.range_succ, List.any_append]
        simp
      rw [e]
      by_cases a : A m = true
      · have e2 : pr r (fun j => ((List.range m).any fun k => A k && dn O k j) || (A m && dn O m j)) n = pr r (fun j => ((List.range m).any fun k => A k && dn O k j) || dn O m j) n := pr_congr fun i _ => by simp [a]
        rw [e2]
        refine dn_union F (fun i j h1 h2 => ?_) (fun i j h1 h2 => dn_closed F m i j h1 h2) ih (h m (by omega) a)
        obtain ⟨k, hk, hh⟩ := List.any_eq_true.mp h1
        refine List.any_eq_true.mpr ⟨k, hk, ?_⟩
        have q := (Bool.and_eq_true _ _).mp hh
        simp [q.1, dn_closed F k i j q.2 h2]
      · have e2 : pr r (fun j => ((List.range m).any fun k => A k && dn O k j) || (A m && dn O m j)) n = pr r (fun j => ((List.range m).any fun k => A k && dn O k j)) n := pr_congr fun i _ => by simp [a]
        rw [e2]
        exact ih
  have hn := all n (Nat.le_refl _)
  cases e : A j with
  | true => rfl
  | false =>
    have hjn := (F.lt k j hj).2
    have lt := pr_lt (r := r) (n := n) (t := j) (S := A) (S' := fun j => (List.range n).any fun k => A k && dn O k j) F.ge2 (fun i hi ai => List.any_eq_true.mpr ⟨i, List.mem_range.mpr hi, by simp [ai, dn]⟩) hjn e
      (List.any_eq_true.mpr ⟨k, List.mem_range.mpr hk, by simp [ak, dn, hj]⟩)
    have := Nat.le_of_dvd (pr_pos F.pos) hn
    omega
/-- and so with the weights as they stand -/
theorem closed_wt (F : Fit n r O) {A : Nat → Bool} : (∀ k, k < n → A k = true → whl n r ∣ wt n r O k * pr r A n) ↔ ∀ k j, k < n → A k = true → O k j = true → A j = true := by
  constructor
  · intro h k j hk ak hj
    refine closed_down F (fun k hk ak => ?_) hk ak hj
    have := h k hk ak
    rw [← F.span_wt k, Nat.mul_comm (wt n r O k)] at this
    exact Nat.dvd_of_mul_dvd_mul_right (by rw [F.wt_eq]; exact pr_pos F.pos) this
  · intro h k hk ak
    rw [← F.span_wt k, Nat.mul_comm (wt n r O k)]
    refine Nat.mul_dvd_mul_right (pr_dvd fun j hj hd => ?_) _
    unfold dn at hd
    rcases (Bool.or_eq_true _ _).mp hd with e | e
    · have : j = k := by simpa using e
      rw [this]
      exact ak
    · exact h k j hk ak e
/-! ### the elimination from the top -/
theorem ex_max {P : Nat → Prop} (f : Nat → Nat) : ∀ n, (∃ i, i < n ∧ P i) → ∃ t, t < n ∧ P t ∧ ∀ i, i < n → P i → f i ≤ f t
  | 0, ⟨i, h, _⟩ => absurd h (Nat.not_lt_zero _)
  | n + 1, ⟨i, hi, pi⟩ => by
    by_cases q : ∃ i, i < n ∧ P i
    · obtain ⟨t, ht, pt, h⟩ := ex_max f n q
      by_cases pn : P n
      · by_cases l : f n ≤ f t
        · refine ⟨t, by omega, pt, fun i hi pi => ?_⟩
          by_cases e : i = n
          · rw [e]; exact l
          · exact h i (by omega) pi
        · refine ⟨n, by omega, pn, fun i hi pi => ?_⟩
          by_cases e : i = n
          · rw [e]; exact Nat.le_refl _
          · have := h i (by omega) pi
            omega
      · refine ⟨t, by omega, pt, fun i hi pi => ?_⟩
        by_cases e : i = n
        · subst e; exact (pn pi).elim
        · exact h i (by omega) pi
    · have e : i = n := by
        by_cases e : i = n
        · exact e
        · exact (q ⟨i, by omega, pi⟩).elim
      subst e
      refine ⟨i, by omega, pi, fun k hk pk => ?_⟩
      by_cases e : k = i
      · rw [e]; exact Nat.le_refl _
      · exact (q ⟨k, by omega, pk⟩).elim
/-- the sum of d i * w i over the dials below n -/
def sm (d : Nat → Int) (w : Nat → Nat) : Nat → Int
  | 0 => 0
  | n + 1 => sm d w n + d n * (w n : Int)
theorem sm_dvd {d : Nat → Int} {w : Nat → Nat} {M : Int} {t : Nat} : ∀ {n : Nat}, (∀ i, i < n → i ≠ t → M ∣ d i * (w i : Int)) → M ∣ sm d w n - (if t < n then d t * (w t : Int) else 0)
  | 0, _ => by simp [sm]
  | n + 1, h => by
    have ih := sm_dvd (n := n) (t := t) fun i hi => h i (by omega)
    unfold sm
    by_cases e : n = t
    · subst e
      have e1 : (if n < n then d n * (w n : Int) else 0) = 0 := by simp
      rw [e1] at ih
      have e2 : (if n < n + 1 then d n * (w n : Int) else 0) = d n * (w n : Int) := by simp
      rw [e2]
      have : sm d w n + d n * (w n : Int) - d n * (w n : Int) = sm d w n - 0 := by omega
      rw [this]
      exact ih
    · have h1 := h n (by omega) e
      have e2 : (if t < n + 1 then d t * (w t : Int) else 0) = (if t < n then d t * (w t : Int) else 0) := by
        by_cases q : t < n
        · rw [if_pos q, if_pos (by omega)]
        · rw [if_neg q, if_neg (by omega)]
      rw [e2]
      have : sm d w n + d n * (w n : Int) - (if t < n then d t * (w t : Int) else 0) = (sm d w n - (if t < n then d t * (w t : Int) else 0)) + d n * (w n : Int) := by omega
      rw [this]
      exact Int.dvd_add ih h1
theorem elim (F : Fit n r O) {d : Nat → Int} {U : Nat → Bool} (hd : ∀ i, i < n → (d i).natAbs < r i) (hU : ∀ i j, U j = true → O i j = true → U i = true) (h : (pr r U n : Int) ∣ sm d (wt n r O) n) :
    ∀ i, i < n → U i = true → d i = 0 := by
  intro i hi ui
  refine Decidable.byContradiction fun hne => ?_
  obtain ⟨t, ht, ⟨ut, dt⟩, hmax⟩ := ex_max (P := fun i => U i = true ∧ d i ≠ 0) (span n r O) n ⟨i, hi, ui, hne⟩
  have up : ∀ k, O k t = true → d k = 0 := fun k hk => by
    refine Decidable.byContradiction fun q => ?_
    have h1 := hmax k (F.lt k t hk).1 ⟨hU k t ut hk, q⟩
    have h2 : span n r O t < span n r O k := by
      refine pr_lt (t := k) F.ge2 (fun j _ hj => ?_) (F.lt k t hk).1 ?_ (by simp [dn])
      · unfold dn at hj ⊢
        rcases (Bool.or_eq_true _ _).mp hj with e | e
        · have : j = t := by simpa using e
          rw [this, hk, Bool.or_true]
        · rw [F.tr k t j hk e, Bool.or_true]
      · unfold dn
        have e1 : k ≠ t := fun e => by
          subst e
          rw [F.irr] at hk
          cases hk
        have e2 : O t k = false := by
          cases q : O t k with
          | false => rfl
          | true =>
            have := F.tr k t k hk q
            rw [F.irr] at this
            cases this
        simp [e1, e2]
    omega
  -- the modulus: t and all above it
  let V : Nat → Bool := fun k => O k t
  let M : Nat → Bool := fun k => decide (k = t) || V k
  have prM : pr r M n = r t * pr r V n := by
    have : pr r (fun j => decide (j = t)) n = r t := by rw [pr_one, if_pos ht]
    rw [← this, ← pr_union fun j _ h => by
      have : j = t := by simpa using h
      rw [this]
      exact F.irr t]
  have hMU : pr r M n ∣ pr r U n := pr_dvd fun k _ hk => by
    rcases (Bool.or_eq_true _ _).mp hk with e | e
    · have : k = t := by simpa using e
      rw [this]
      exact ut
    · exact hU k t ut e
  have hall : ∀ k, k < n → k ≠ t → (pr r M n : Int) ∣ d k * (wt n r O k : Int) := fun k hk hkt => by
    by_cases q : d k = 0
    · rw [q, Int.zero_mul]
      exact Int.dvd_zero _
    · have hnv : O k t = false := by
        cases z : O k t with
        | false => rfl
        | true => exact (q (up k z)).elim
      refine Int.dvd_trans ?_ (Int.dvd_mul_left _ _)
      rw [F.wt_eq]
      refine Int.natCast_dvd_natCast.mpr (pr_dvd fun j hj hm => ?_)
      have : dn O k j = false := by
        unfold dn
        rcases (Bool.or_eq_true _ _).mp hm with e | e
        · have : j = t := by simpa using e
          subst this
          have : j ≠ k := Ne.symm hkt
          simp [this, hnv]
        · have e : O j t = true := e
          have h1 : j ≠ k := fun z => by
            rw [z, hnv] at e
            cases e
          have h2 : O k j = false := by
            cases z : O k j with
            | false => rfl
            | true =>
              have := F.tr k j t z e
              rw [hnv] at this
              cases this
          simp [h1, h2]
      simp [this]
  have hs := sm_dvd (t := t) hall
  rw [if_pos ht] at hs
  have hM : (pr r M n : Int) ∣ sm d (wt n r O) n := Int.dvd_trans (Int.natCast_dvd_natCast.mpr hMU) h
  have ht' : (pr r M n : Int) ∣ d t * (wt n r O t : Int) := by
    have := Int.dvd_sub hM hs
    have e : sm d (wt n r O) n - (sm d (wt n r O) n - d t * (wt n r O t : Int)) = d t * (wt n r O t : Int) := by omega
    rwa [e] at this
  -- the weight of t: all above it, times what is coprime to its range
  let Z : Nat → Bool := fun j => !dn O t j && !V j
  have ew : wt n r O t = pr r V n * pr r Z n := by
    rw [F.wt_eq, ← pr_union fun j _ h => by
      have : V j = true := h
      show (!dn O t j && !V j) = false
      rw [this]
      simp]
    refine pr_congr fun j _ => ?_
    show (!dn O t j) = (V j || (!dn O t j && !V j))
    cases q : V j with
    | false => simp
    | true =>
      have q : O j t = true := q
      have h1 : j ≠ t := fun z => by
        rw [z, F.irr] at q
        cases q
      have h2 : O t j = false := by
        cases z : O t j with
        | false => rfl
        | true =>
          have := F.tr t j t z q
          rw [F.irr] at this
          cases this
      simp [dn, h1, h2]
  have hn : pr r M n ∣ (d t).natAbs * wt n r O t := by
    have := Int.natAbs_dvd_natAbs.mpr ht'
    rwa [Int.natAbs_mul, Int.natAbs_natCast, Int.natAbs_natCast] at this
  rw [prM, ew, Nat.mul_comm (r t), Nat.mul_left_comm] at hn
  have hn2 := Nat.dvd_of_mul_dvd_mul_left (pr_pos F.pos) hn
  have hc : Nat.Coprime (r t) (pr r Z n) := pr_cop fun j hj hz => by
    have hz : (!dn O t j && !V j) = true := hz
    simp only [Bool.and_eq_true, Bool.not_eq_true', dn, Bool.or_eq_false_iff, decide_eq_false_iff_not] at hz
    obtain ⟨⟨z1, z2⟩, z3⟩ := hz
    have z3 : O j t = false := z3
    by_cases c : Nat.Coprime (r t) (r j)
    · exact c
    · rcases F.tied t j ht hj (Ne.symm z1) c with o | o
      · rw [z2] at o; cases o
      · rw [z3] at o; cases o
  have hfin : r t ∣ (d t).natAbs := Nat.Coprime.dvd_of_dvd_mul_right hc hn2
  have := hd t ht
  have h0 : (d t).natAbs = 0 := by
    rcases Nat.eq_zero_or_pos (d t).natAbs with q | q
    · exact q
    · have := Nat.le_of_dvd q hfin
      omega
  exact dt (Int.natAbs_eq_zero.mp h0)
end
end WW

/-! M3: settings and places of the straight board; carries; the closure by laps; colours and depth -/
namespace WW

/-! ### pigeonholes -/
theorem nodup_le : ∀ (n : Nat) (l : List Nat), l.Nodup → (∀ a ∈ l, a < n) → l.length ≤ n
  | 0, l, _, h => by
    cases l with
    | nil => exact Nat.le_refl _
    | cons a r => exact absurd (h a (List.mem_cons_self ..)) (Nat.not_lt_zero _)
  | n + 1, l, hd, h => by
    have h1 := nodup_le n (l.erase n) (hd.erase n) fun a ha => by
      have m1 := List.mem_of_mem_erase ha
      have m2 : a ≠ n := fun e => by
        subst e
        exact (hd.not_mem_erase) ha
      have := h a m1
      omega
    have h2 : l.length ≤ (l.erase n).length + 1 := by
      rw [List.length_erase]
      split <;> omega
    omega
theorem pigeon {n : Nat} {l : List Nat} (hd : l.Nodup) (h : ∀ a ∈ l, a < n) (hl : l.length = n) {x : Nat} (hx : x < n) : x ∈ l := by
  refine Decidable.byContradiction fun q => ?_
  have := nodup_le n (x :: l) (List.nodup_cons.mpr ⟨q, hd⟩) fun a ha => by
    rcases List.mem_cons.mp ha with e | e
    · rw [e]; exact hx
    · exact h a e
  rw [List.length_cons] at this
  omega

/-! ### places -/
/-- the place of figures f, not reduced -/
def pl (f : Nat → Nat) (w : Nat → Nat) : Nat → Nat
  | 0 => 0
  | n + 1 => pl f w n + f n * w n
theorem sm_sub (f g : Nat → Nat) (w : Nat → Nat) : ∀ n, sm (fun i => (f i : Int) - (g i : Int)) w n = (pl f w n : Int) - (pl g w n : Int)
  | 0 => rfl
  | n + 1 => by
    unfold sm pl
    rw [sm_sub f g w n, Int.natCast_add, Int.natCast_add, Int.natCast_mul, Int.natCast_mul, Int.sub_mul]
    omega
theorem sm_nat (f : Nat → Nat) (w : Nat → Nat) : ∀ n, sm (fun i => (f i : Int)) w n = (pl f w n : Int)
  | 0 => rfl
  | n + 1 => by
    unfold sm pl
    rw [sm_nat f w n, Int.natCast_add, Int.natCast_mul]
theorem pl_congr {f g w w' : Nat → Nat} : ∀ {n : Nat}, (∀ i, i < n → f i = g i) → (∀ i, i < n → w i = w' i) → pl f w n = pl g w' n
  | 0, _, _ => rfl
  | n + 1, h, h' => by
    unfold pl
    rw [pl_congr (n := n) (fun i hi => h i (by omega)) (fun i hi => h' i (by omega)), h n (by omega), h' n (by omega)]
section
variable {n : Nat} {r : Nat → Nat} {O : Rel}
theorem whl_pos (F : Fit n r O) : 0 < whl n r := pr_pos F.pos
/-- unlike settings have unlike places -/
theorem place_inj (F : Fit n r O) {f g : Nat → Nat} (hf : ∀ i, i < n → f i < r i) (hg : ∀ i, i < n → g i < r i) (h : pl f (wt n r O) n % whl n r = pl g (wt n r O) n % whl n r) : ∀ i, i < n → f i = g i := fun i hi => by
  have := elim F (d := fun i => (f i : Int) - (g i : Int)) (U := fun _ => true) (fun i hi => by
    have := hf i hi
    have := hg i hi
    omega) (fun _ _ _ _ => rfl) (by
    rw [sm_sub]
    show (whl n r : Int) ∣ _
    refine Int.dvd_of_emod_eq_zero (Int.emod_eq_emod_iff_emod_sub_eq_zero.mp ?_)
    rw [← Int.natCast_emod, ← Int.natCast_emod, h]) i hi rfl
  have e : (f i : Int) - (g i : Int) = 0 := this
  omega
/-- the place of a carry: the product of all that is not below -/
theorem carry_place (F : Fit n r O) {i : Nat} (hi : i < n) : r i * wt n r O i = pr r (fun j => !O i j) n := by
  have h1 := pr_split r (O i) n
  have h2 := F.span_wt i
  rw [F.span_eq hi, Nat.mul_comm (r i), Nat.mul_assoc] at h2
  exact Nat.eq_of_mul_eq_mul_left (pr_pos (S := O i) F.pos) (h2.trans h1)
/-- the carry of a dial has its figures below it -/
theorem carry_below (F : Fit n r O) {i : Nat} (hi : i < n) {c : Nat → Nat} (hc : ∀ j, j < n → c j < r j) (h : pl c (wt n r O) n % whl n r = (r i * wt n r O i) % whl n r) {j : Nat} (hj : j < n) (hp : 0 < c j) : O i j = true := by
  refine Decidable.byContradiction fun q => ?_
  have q : O i j = false := by simpa using q
  have := elim F (d := fun i => (c i : Int)) (U := fun j => !O i j) (fun j hj => by
    have := hc j hj
    omega) (fun a b hb hab => by
    have hb : O i b = false := by simpa using hb
    cases z : O i a with
    | false => rfl
    | true =>
      have := F.tr i a b z hab
      rw [hb] at this
      cases this) (by
    rw [sm_nat]
    refine Int.natCast_dvd_natCast.mpr ?_
    have hd : pr r (fun j => !O i j) n ∣ whl n r := pr_dvd fun _ _ _ => rfl
    have := (Nat.dvd_mod_iff (m := pl c (wt n r O) n) hd).mp (by
      rw [h, Nat.dvd_mod_iff hd, carry_place F hi]
      exact Nat.dvd_refl _)
    exact this) j hj (by simp [q])
  have e : (c j : Int) = 0 := this
  omega
theorem pl_dvd {c w : Nat → Nat} {M X : Nat} : ∀ {n : Nat}, (∀ j, j < n → 0 < c j → M ∣ w j * X) → M ∣ pl c w n * X
  | 0, _ => by simp [pl]
  | n + 1, h => by
    have ih := pl_dvd (n := n) fun j hj => h j (by omega)
    unfold pl
    rw [Nat.add_mul]
    refine Nat.dvd_add ih ?_
    rcases Nat.eq_zero_or_pos (c n) with e | e
    · rw [e]
      simp
    · rw [Nat.mul_assoc]
      exact Nat.dvd_trans (h n (by omega) e) (Nat.dvd_mul_left _ _)
/-- a dial's row, its carry's dials with all below these, is all below it -/
theorem row_full (F : Fit n r O) {i : Nat} (hi : i < n) {c : Nat → Nat} (h : pl c (wt n r O) n % whl n r = (r i * wt n r O i) % whl n r) {R : Nat → Bool}
    (h1 : ∀ j, R j = true → O i j = true) (h2 : ∀ j, j < n → 0 < c j → R j = true ∧ ∀ k, O j k = true → R k = true) : ∀ j, R j = O i j := by
  have hd : whl n r ∣ (r i * wt n r O i) * pr r R n := by
    have h3 : whl n r ∣ pl c (wt n r O) n * pr r R n := pl_dvd fun j hj hp => by
      obtain ⟨a, b⟩ := h2 j hj hp
      rw [← F.span_wt j, Nat.mul_comm (wt n r O j)]
      refine Nat.mul_dvd_mul_right (pr_dvd fun k _ hk => ?_) _
      unfold dn at hk
      rcases (Bool.or_eq_true _ _).mp hk with e | e
      · have : k = j := by simpa using e
        rw [this]; exact a
      · exact b k e
    have h4 := Nat.mod_eq_zero_of_dvd h3
    refine Nat.dvd_of_mod_eq_zero ?_
    rw [Nat.mul_mod, ← h, ← Nat.mul_mod]
    exact h4
  rw [carry_place F hi, pr_split r (O i) n, Nat.mul_comm (pr r (O i) n)] at hd
  have hd2 := Nat.dvd_of_mul_dvd_mul_left (pr_pos F.pos) hd
  intro j
  cases e : O i j with
  | false =>
    cases q : R j with
    | false => rfl
    | true =>
      rw [h1 j q] at e
      cases e
  | true =>
    cases q : R j with
    | true => rfl
    | false =>
      have := pr_lt (r := r) (S := R) (S' := O i) F.ge2 (fun k _ hk => h1 k hk) (F.lt i j e).2 q e
      have := Nat.le_of_dvd (pr_pos F.pos) hd2
      omega
end

/-! ### the closure by laps: the rows while they are filled -/
structure Fil (n : Nat) (O : Rel) (hands : Rel) (L cur : Nat) (R : Rel) : Prop where
  full : ∀ i, i < n → (rk n O i < L ∨ (rk n O i = L ∧ i < cur)) → ∀ j, R i j = O i j
  hand : ∀ i j, i < n → hands i j = true → R i j = true
  into : ∀ i j, i < n → R i j = true → O i j = true
theorem fil_start {n : Nat} {O hands R : Rel} (h : ∀ i j, i < n → R i j = hands i j) (hi : ∀ i j, i < n → hands i j = true → O i j = true) : Fil n O hands 0 0 R :=
  ⟨fun i _ q => by omega, fun i j l q => (h i j l).trans q, fun i j l q => hi i j l ((h i j l).symm.trans q)⟩
theorem fil_next {n : Nat} {O hands R : Rel} {L : Nat} (h : Fil n O hands L n R) : Fil n O hands (L + 1) 0 R := ⟨fun i hi q => h.full i hi (by omega), h.hand, h.into⟩
/-- row i has become itself and all rows of its members -/
theorem fil_step {n : Nat} {r : Nat → Nat} {O hands R R' : Rel} {L i : Nat} (F : Fit n r O) (h : Fil n O hands L i R) (hi : i < n) {c : Nat → Nat} (hc : ∀ j, j < n → c j < r j)
    (hp : pl c (wt n r O) n % whl n r = (r i * wt n r O i) % whl n r) (hh : ∀ j, j < n → (hands i j = true ↔ 0 < c j))
    (same : ∀ k, k ≠ i → ∀ j, R' k j = R k j) (new : ∀ j, R' i j = true ↔ R i j = true ∨ ∃ k, R i k = true ∧ R k j = true) : Fil n O hands L (i + 1) R' := by
  have into : ∀ k j, k < n → R' k j = true → O k j = true := fun k j hk q => by
    by_cases e : k = i
    · subst e
      rcases (new j).mp q with q | ⟨m, q1, q2⟩
      · exact h.into k j hk q
      · have a := h.into k m hk q1
        exact F.tr k m j a (h.into m j (F.lt k m a).2 q2)
    · rw [same k e] at q
      exact h.into k j hk q
  refine ⟨fun k hk q => ?_, fun k j hk q => ?_, into⟩
  · by_cases e : k = i
    · subst e
      refine row_full F hk hp (R := R' k) (fun j q => into k j hk q) fun j hj cj => ?_
      have a := h.hand k j hk ((hh j hj).mpr cj)
      have oj := h.into k j hk a
      refine ⟨(new j).mpr (.inl a), fun m hm => (new m).mpr (.inr ⟨j, a, ?_⟩)⟩
      have := F.rk_lt oj
      rw [h.full j hj (by omega)]
      exact hm
    · intro j
      rw [same k e]
      exact h.full k hk (by omega) j
  · by_cases e : k = i
    · subst e
      exact (new j).mpr (.inl (h.hand k j hk q))
    · rw [same k e]
      exact h.hand k j hk q
theorem fil_end {n : Nat} {O hands R : Rel} (o : Ord n O) (h : Fil n O hands n 0 R) : ∀ i, i < n → ∀ j, R i j = O i j := fun i hi j => h.full i hi (.inl (o.rk_n hi)) j

/-! ### colours and depth -/
def full (n : Nat) : Nat := 2 ^ n - 1
theorem full_bit (n i : Nat) : (full n).testBit i = decide (i < n) := Nat.testBit_two_pow_sub_one n i
/-- tied dials are comparable -/
def Fits (n : Nat) (T O : Rel) : Prop := ∀ i j, i < n → j < n → T i j = true → O i j = true ∨ O j i = true
theorem depth_ge {n : Nat} {T O : Rel} {D k : Nat} (hf : Fits n T O) (hd : Dep n O D) (hk : Chi T (full n) k) : k ≤ D + 1 := by
  obtain ⟨⟨h, m, l⟩, _⟩ := hd
  refine hk.2 _ ⟨h, fun i hi => ?_, fun i j hi hj ht e => ?_⟩
  · have := l i (by rw [full_bit] at hi; simpa using hi)
    omega
  · have hi : i < n := by rw [full_bit] at hi; simpa using hi
    have hj : j < n := by rw [full_bit] at hj; simpa using hj
    rcases hf i j hi hj ht with o | o
    · have := m i j o
      omega
    · have := m j i o
      omega
/-- of an order that falls by the colours -/
theorem depth_is {n : Nat} {T O : Rel} {c : Nat → Nat} {D k : Nat} (hf : Fits n T O) (hd : Dep n O D) (hk : Chi T (full n) k) (hm : Mono O c) (hc : ∀ i, i < n → c i < k) : D = k - 1 := by
  have h1 := depth_ge hf hd hk
  have h2 := hd.2 c (k - 1) hm fun i hi => by
    have := hc i hi
    omega
  omega
theorem depth_le_ge {n : Nat} {T O : Rel} {D k : Nat} (hf : Fits n T O) (hd : Dep n O D) (hk : Chi T (full n) k) : k - 1 ≤ D := by
  have := depth_ge hf hd hk
  omega
/-- the order by a colouring itself: all of lesser colour below -/
def byCol (n : Nat) (c : Nat → Nat) : Rel := fun i j => decide (i < n) && decide (j < n) && decide (c j < c i)
theorem byCol_iff {n : Nat} {c : Nat → Nat} {i j : Nat} : byCol n c i j = true ↔ i < n ∧ j < n ∧ c j < c i := by
  unfold byCol
  simp [and_assoc]
theorem byCol_ord (n : Nat) (c : Nat → Nat) : Ord n (byCol n c) where
  irr := fun i => by
    cases e : byCol n c i i with
    | false => rfl
    | true =>
      have := (byCol_iff.mp e).2.2
      omega
  lt := fun i j h => ⟨(byCol_iff.mp h).1, (byCol_iff.mp h).2.1⟩
  tr := fun i j k h h' => by
    have a := byCol_iff.mp h
    have b := byCol_iff.mp h'
    exact byCol_iff.mpr ⟨a.1, b.2.1, Nat.lt_trans b.2.2 a.2.2⟩
end WW

set_option Elab.async false
set_option linter.all false
set_option maxRecDepth 100000
set_option maxHeartbeats 4000000
/-! W0: the text by places, defs and calls in short, operators on numbers that are not negative -/
namespace WW
open PySem PySem.Spec PyProof.Rows L2
def topS (i : Nat) : Stmt := PySem.Challenge.pw_wheelwritten_k25_whole_least_depth.main.body.getD i (.Pass ⟨0, 0, 0, 0⟩)
/-! ### a def of the text, a def that keeps a promise -/
structure Dfn (K : PySem.W.Frag) (mg : Str → Option Value) (x : Str) (st : Stmt) (ps : List Str) : Prop where
  ex : ∃ f fd, Fun K x x st f fd ∧ mg x = some (.ref f) ∧ Binds K fd ps []
structure Cal (P : Program) (w : World) (K : PySem.W.Frag) (mg : Str → Option Value) (base : Heap) (x : Str) (k : Nat) (ps : List Str) (sp : Sp) : Prop where
  ex : ∃ f fd, FnOk P w K mg base CX0 k f fd ps sp ∧ mg x = some (.ref f) ∧ PySem.W.keepIn K (.ref f) = true ∧ Binds K fd ps []
section
variable {P : Program} {w : World} {K : PySem.W.Frag} {mg : Str → Option Value} {base : Heap}
theorem Dfn.cal {x : Str} {st : Stmt} {N ps : List Str} {k : Nat} {sp : Sp} (D : Dfn K mg x st ps) (S : FnScope N ps (defScope st)) (len : ∀ vs H Q E, sp vs H Q E → vs.length = ps.length)
    (hbody : ∀ (f : Addr) (cdv : Value) (A : Around) (outer : List Env) (s : Shared) (H : Hp) (vs : List V) (Q : VK) (E : XK), Room k (A.deeper (envOfC x (defScope st) s.heap.objs.size f cdv)) → sp vs H Q E →
      ∃ t, PSs (cxOf CX0 P w K mg base N x (defScope st) f cdv A outer s H E).nox (defBody st) t ∧ t { nx := fun _ H' => Q .non H', rt := Q } (start N vs) H) : Cal P w K mg base x (k + 1) ps sp := by
  obtain ⟨f, fd, F, m, b⟩ := D.ex
  exact ⟨f, fd, F.ok S len (hbody f), m, F.kp, b⟩
theorem Cal.imp {x : Str} {k : Nat} {ps : List Str} {sp sp' : Sp} (c : Cal P w K mg base x k ps sp) (h : ∀ vs H Q E, sp' vs H Q E → sp vs H Q E) : Cal P w K mg base x k ps sp' := by
  obtain ⟨f, fd, F, m, kp, b⟩ := c.ex
  exact ⟨f, fd, F.imp h, m, kp, b⟩
end
section
variable {X : Cx}
/-- x(e, ..), x a def of the text -/
theorem pe_cal {x : Str} {k m : Nat} {ps : List Str} {sp : Sp} {p pos : Pos} {e : Expr} {es : List Expr} {t : TA} (c : Cal X.prog X.w X.K X.mg X.base x k ps sp) (hr : Room m X.A) (hk : k ≤ m) (ha : PA X (e :: es) t)
    (hg : Gl X x := by rfl) (hdb : (x == ("__debug__" : Str)) = false := by decide) (he : starEach (e :: es) X.env = (false, eval e X.env) :: starEach es X.env := by rfl) (hpl : (backTo pos (starEach es X.env)).any (·.1) = false := by rfl) :
    PE X (.Call (.Name x p) (e :: es) [] pos) (tCall sp [] E0 t) := by
  obtain ⟨f, fd, F, hm, kp, b⟩ := c.ex
  exact pe_call F (hr.mono hk) hg hm kp b .nil pass0 ha hdb he hpl
end
/-! ### heaps -/
theorem same_new {H : Hp} {p : Addr} {o : HO} (h : H p = none) : Same H (upd H p o) := fun b x e => by
  rw [upd_ne (ne_of_none e h)]
  exact e
theorem same_mut {H H' : Hp} {p : Addr} {o : HO} (s : Same H H') (h : H p = none) : Same H (upd H' p o) := fun b x e => by
  rw [upd_ne (ne_of_none e h)]
  exact s b x e
theorem same_at {H : Hp} {p : Addr} {o : HO} (h : H p = some o) : upd H p o = H := by
  funext b
  unfold upd
  split
  · rename_i e
    rw [e, h]
  · rfl
/-! ### numbers -/
theorem OpR.of {X : Cx} {f : Value → Value → Sem Value} {r r' : R2} (h : OpR X f r) (i : ∀ x y H Q, r' x y H Q → r x y H Q) : OpR X f r' := fun pins s σ H x y v u Q I rx ry q => h pins s σ H x y v u Q I rx ry (i x y H Q q)
def rN (C : Nat → Nat → Prop) (g : Nat → Nat → Nat) : R2 := fun x y H Q => ∃ a b : Nat, x = .int (a : Int) ∧ y = .int (b : Int) ∧ C a b ∧ Q (.int ((g a b : Nat) : Int)) H
def rN0 (g : Nat → Nat → Nat) : R2 := fun x y H Q => ∃ a b : Nat, x = .int (a : Int) ∧ y = .int (b : Int) ∧ Q (.int ((g a b : Nat) : Int)) H
def rNB (p : Nat → Nat → Bool) : R2 := fun x y H Q => ∃ a b : Nat, x = .int (a : Int) ∧ y = .int (b : Int) ∧ Q (.bl (p a b)) H
theorem pow_cast (n : Nat) : ((2 ^ n : Nat) : Int) = (2 : Int) ^ n := Int.natCast_pow 2 n
section
variable {X : Cx}
theorem n_add : OpR X (binaryOp .Add) (rN0 fun a b => a + b) := OpR.of op_add fun x y H Q ⟨a, b, e1, e2, q⟩ => ⟨a, b, e1, e2, by dsimp only; rw [← Int.natCast_add]; exact q⟩
theorem n_sub : OpR X (binaryOp .Sub) (rN (fun a b => b ≤ a) fun a b => a - b) := OpR.of op_sub fun x y H Q ⟨a, b, e1, e2, c, q⟩ => ⟨a, b, e1, e2, by
  have c : b ≤ a := c
  dsimp only
  rw [← Int.ofNat_sub c]
  exact q⟩
theorem n_mul : OpR X (binaryOp .Mult) (rN (fun a b => a < 2 ^ 9000 ∧ b < 2 ^ 9000) fun a b => a * b) := OpR.of op_mulW fun x y H Q ⟨a, b, e1, e2, c, q⟩ => ⟨a, b, e1, e2, wide_mul (a := 9000) (b := 9000) (by rw [Int.natAbs_natCast]; exact c.1) (by rw [Int.natAbs_natCast]; exact c.2) (by decide) (by decide) (by decide), by
  dsimp only
  rw [← Int.natCast_mul]
  exact q⟩
theorem n_div : OpR X (binaryOp .FloorDiv) (rN (fun _ b => 0 < b ∧ b < 2 ^ 9000) fun a b => a / b) := OpR.of op_fdivW fun x y H Q ⟨a, b, e1, e2, c, q⟩ => ⟨a, b, e1, e2, wide_div (b := 9000) (by
  have c : 0 < b ∧ b < 2 ^ 9000 := c
  omega) (by rw [Int.natAbs_natCast]; exact c.2) (by decide) (by decide), by
  dsimp only
  rw [← Int.natCast_ediv]
  exact q⟩
theorem n_mod : OpR X (binaryOp .Mod) (rN (fun _ b => 0 < b) fun a b => a % b) := OpR.of op_mod fun x y H Q ⟨a, b, e1, e2, c, q⟩ => ⟨a, b, e1, e2, by
  have c : 0 < b := c
  dsimp only
  omega, by
  dsimp only
  rw [← Int.natCast_emod]
  exact q⟩
theorem n_and : OpR X (binaryOp .BitAnd) (rN0 fun a b => a &&& b) := OpR.of op_and fun x y H Q ⟨a, b, e1, e2, q⟩ => ⟨a, b, e1, e2, by
  dsimp only
  rw [bitAnd_pp (Int.natCast_nonneg _) (Int.natCast_nonneg _), Int.toNat_natCast, Int.toNat_natCast]
  exact q⟩
theorem n_or : OpR X (binaryOp .BitOr) (rN0 fun a b => a ||| b) := OpR.of op_or fun x y H Q ⟨a, b, e1, e2, q⟩ => ⟨a, b, e1, e2, by
  dsimp only
  rw [bitOr_nn (Int.natCast_nonneg _) (Int.natCast_nonneg _), Int.toNat_natCast, Int.toNat_natCast]
  exact q⟩
theorem n_xor : OpR X (binaryOp .BitXor) (rN0 fun a b => a ^^^ b) := OpR.of op_xor fun x y H Q ⟨a, b, e1, e2, q⟩ => ⟨a, b, e1, e2, by
  dsimp only
  rw [Bits.bitXor_pp (Int.natCast_nonneg _) (Int.natCast_nonneg _), Int.toNat_natCast, Int.toNat_natCast]
  exact q⟩
theorem n_shl : OpR X (binaryOp .LShift) (rN (fun a b => a < 2 ^ 64 ∧ b ≤ 1000000) fun a b => a * 2 ^ b) := OpR.of op_shl fun x y H Q ⟨a, b, e1, e2, c, q⟩ => ⟨a, b, e1, e2, ⟨by omega, by have := c.2; omega, by rw [Int.natAbs_natCast]; exact c.1⟩, by
  dsimp only
  rw [Int.toNat_natCast, ← pow_cast, ← Int.natCast_mul]
  exact q⟩
theorem n_shr : OpR X (binaryOp .RShift) (rN0 fun a b => a / 2 ^ b) := OpR.of op_shr fun x y H Q ⟨a, b, e1, e2, q⟩ => ⟨a, b, e1, e2, by omega, by
  dsimp only
  rw [Int.toNat_natCast, ← pow_cast, ← Int.natCast_ediv]
  exact q⟩
theorem dec_lt (a b : Nat) : decide ((a : Int) < (b : Int)) = decide (a < b) := decide_eq_decide.mpr Int.ofNat_lt
theorem dec_le (a b : Nat) : decide ((a : Int) ≤ (b : Int)) = decide (a ≤ b) := decide_eq_decide.mpr Int.ofNat_le
theorem dec_eq (a b : Nat) : decide (V.int (a : Int) = V.int (b : Int)) = decide (a = b) := decide_eq_decide.mpr ⟨fun h => Int.ofNat.inj (V.int.inj h), fun h => by rw [h]⟩
theorem n_lt : OpR X (compareOp .Lt) (rNB fun a b => decide (a < b)) := OpR.of op_lt fun x y H Q ⟨a, b, e1, e2, q⟩ => ⟨a, b, e1, e2, by dsimp only; rw [dec_lt]; exact q⟩
theorem n_le : OpR X (compareOp .LtE) (rNB fun a b => decide (a ≤ b)) := OpR.of op_le fun x y H Q ⟨a, b, e1, e2, q⟩ => ⟨a, b, e1, e2, by dsimp only; rw [dec_le]; exact q⟩
theorem n_gt : OpR X (compareOp .Gt) (rNB fun a b => decide (b < a)) := OpR.of op_gt fun x y H Q ⟨a, b, e1, e2, q⟩ => ⟨a, b, e1, e2, by dsimp only; rw [dec_lt]; exact q⟩
theorem n_ge : OpR X (compareOp .GtE) (rNB fun a b => decide (b ≤ a)) := OpR.of op_ge fun x y H Q ⟨a, b, e1, e2, q⟩ => ⟨a, b, e1, e2, by dsimp only; rw [dec_le]; exact q⟩
theorem n_eq : OpR X (compareOp .Eq) (rNB fun a b => decide (a = b)) := OpR.of op_eq fun x y H Q ⟨a, b, e1, e2, q⟩ => by
  subst e1 e2
  exact ⟨rfl, by dsimp only at q; rw [dec_eq]; exact q⟩
theorem n_ne : OpR X (compareOp .NotEq) (rNB fun a b => !decide (a = b)) := OpR.of op_ne fun x y H Q ⟨a, b, e1, e2, q⟩ => by
  subst e1 e2
  exact ⟨rfl, by dsimp only at q; rw [dec_eq]; exact q⟩
end
theorem bit_tru (m d : Nat) : ((((m / 2 ^ d) &&& 1 : Nat) : Int) != 0) = m.testBit d := by
  have e : m.testBit d = ((1 &&& (m >>> d)) != 0) := rfl
  rw [e, Nat.shiftRight_eq_div_pow, Nat.and_comm]
  cases h : ((1 &&& m / 2 ^ d) != 0) with
  | false =>
    have : (1 &&& m / 2 ^ d) = 0 := by simpa using h
    rw [this]
    rfl
  | true =>
    have : (1 &&& m / 2 ^ d) ≠ 0 := by simpa using h
    simp only [bne_iff_ne, ne_eq]
    omega
theorem bit_one (m d : Nat) : decide (((m / 2 ^ d) &&& 1) = 1) = m.testBit d := by
  have h := bit_tru m d
  have : (m / 2 ^ d) &&& 1 < 2 := Nat.and_lt_two_pow _ (n := 1) (by decide)
  rw [← h]
  rcases (by omega : (m / 2 ^ d) &&& 1 = 0 ∨ (m / 2 ^ d) &&& 1 = 1) with e | e <;> rw [e] <;> rfl
theorem bit_val (m d : Nat) : (m / 2 ^ d) &&& 1 = if m.testBit d = true then 1 else 0 := by
  have := bit_one m d
  have h2 : (m / 2 ^ d) &&& 1 < 2 := Nat.and_lt_two_pow _ (n := 1) (by decide)
  split
  · rename_i e
    rw [e] at this
    exact of_decide_eq_true this
  · rename_i e
    have e : m.testBit d = false := by simpa using e
    rw [e] at this
    have := of_decide_eq_false this
    omega
/-- numbers as values -/
def nums (l : List Nat) : List V := l.map fun (n : Nat) => V.int (n : Int)
theorem nums_get {l : List Nat} {i n : Nat} (h : l[i]? = some n) : (nums l)[i]? = some (.int (n : Int)) := by
  unfold nums
  rw [List.getElem?_map, h]
  rfl
theorem nums_at {l : List Nat} {i n : Nat} (h : l[i]? = some n) : atI (nums l) (i : Int) = some (.int (n : Int)) := atI_nat (nums_get h)
theorem nums_len (l : List Nat) : (nums l).length = l.length := by
  unfold nums
  rw [List.length_map]
theorem nums_of {l : List Nat} {i : Nat} {v : V} (h : (nums l)[i]? = some v) : ∃ n, l[i]? = some n ∧ v = .int (n : Int) := by
  unfold nums at h
  rw [List.getElem?_map] at h
  cases e : l[i]? with
  | none => rw [e] at h; cases h
  | some n => rw [e] at h; exact ⟨n, rfl, (Option.some.inj h).symm⟩
/-- what the program's top leaves unbound -/
structure Blt (mg : Str → Option Value) : Prop where
  isinstance : mg "isinstance" = none
  int : mg "int" = none
  bool : mg "bool" = none
  tuple : mg "tuple" = none
  list : mg "list" = none
  len : mg "len" = none
  range : mg "range" = none
  enumerate : mg "enumerate" = none
  sum : mg "sum" = none
  min : mg "min" = none
  max : mg "max" = none
  abs : mg "abs" = none
  sorted : mg "sorted" = none
end WW

set_option Elab.async false
set_option linter.all false
set_option maxRecDepth 100000
set_option maxHeartbeats 4000000
/-! W0b: rules by places that are not negative; loops over ranges; wrappers; enumerate of a tuple; calls by keyword alone -/
namespace WW
open PySem PySem.Spec PyProof.Rows L2
section
variable {X : Cx}
/-! ### places -/
theorem IxR.of {r r' : R2} (h : IxR X r) (i : ∀ x y H Q, r' x y H Q → r x y H Q) : IxR X r' := fun value slice pins s σ H x y v u Q I rx ry q hs => h value slice pins s σ H x y v u Q I rx ry (i x y H Q q) hs
def rIxL' : R2 := fun x y H Q => ∃ (p : Addr) (xs : List V) (i : Nat) (v : V), x = .ref p ∧ y = .int (i : Int) ∧ H p = some (.lst xs) ∧ xs[i]? = some v ∧ Q v H
def rIxT' : R2 := fun x y H Q => ∃ (p : Addr) (xs : List V) (i : Nat) (v : V), x = .ref p ∧ y = .int (i : Int) ∧ H p = some (.tup xs) ∧ xs[i]? = some v ∧ Q v H
theorem ixl : IxR X rIxL' := IxR.of ix_list fun x y H Q ⟨p, xs, i, v, e1, e2, h, hv, q⟩ => ⟨p, xs, i, v, e1, e2, SqL.of h, atI_nat hv, q⟩
theorem ixt : IxR X rIxT' := IxR.of ix_tup fun x y H Q ⟨p, xs, i, v, e1, e2, h, hv, q⟩ => ⟨p, xs, i, v, e1, e2, SqT.of h, atI_nat hv, q⟩
theorem PSet.of {t t' : TSet} (h : PSet X t) (i : ∀ o i v H Q, t' o i v H Q → t o i v H Q) : PSet X t' := fun pins s σ H o j v ov iv u Q I ro ri rv q => h pins s σ H o j v ov iv u Q I ro ri rv (i o j v H Q q)
def rSetL' : TSet := fun o i v H Q => ∃ (p : Addr) (xs : List V) (j : Nat), o = .ref p ∧ i = .int (j : Int) ∧ H p = some (.lst xs) ∧ j < xs.length ∧ Q (upd H p (.lst (xs.set j v)))
theorem setl : PSet X rSetL' := PSet.of set_list fun o i v H Q ⟨p, xs, j, e1, e2, h, hj, q⟩ => ⟨p, xs, j, j, e1, e2, h, by
  unfold ixN
  rw [if_pos (by omega), if_pos (by omega), Int.toNat_natCast], q⟩
/-! ### len -/
theorem CallR.of {f : Value} {r r' : List V → Hp → VK → Prop} (h : CallR X f r) (i : ∀ xs H Q, r' xs H Q → r xs H Q) : CallR X f r' := fun pins s σ H xs us Q I rr q => h pins s σ H xs us Q I rr (i xs H Q q)
def rLen' : List V → Hp → VK → Prop := fun xs H Q => ∃ (p : Addr) (ys : List V) (n : Nat), xs = [.ref p] ∧ (H p = some (.lst ys) ∨ H p = some (.tup ys)) ∧ ys.length = n ∧ Q (.int (n : Int)) H
theorem c_len : CallR X (.builtin "len") rLen' := CallR.of call_len_seq fun xs H Q ⟨p, ys, n, e, h, hn, q⟩ => ⟨p, ys, e, h.imp SqL.of SqT.of, by rw [hn]; exact q⟩
/-! ### ranges -/
theorem PI.of {tg e : Expr} {wi wi' : TI} (h : PI X tg e wi) (i : ∀ σ H R, wi' σ H R → wi σ H R) : PI X tg e wi' := ⟨fun pins s σ H R I q => h.run pins s σ H R I (i σ H R q)⟩
def iUp1 (ta : TA) : TI := fun σ H R => ta σ H fun vs H1 => ∃ n : Nat, vs = [.int (n : Int)] ∧ n < 2 ^ 62 ∧ R (Itr 0 n) H1
def iUp2 (ta : TA) : TI := fun σ H R => ta σ H fun vs H1 => ∃ a b : Nat, vs = [.int (a : Int), .int (b : Int)] ∧ a < 2 ^ 62 ∧ b < 2 ^ 62 ∧ R (Itr (a : Int) (b - a)) H1
end
/-- a reading that holds of weaker wishes -/
structure MonoA (t : TA) : Prop where
  m : ∀ σ H (Q Q' : List V → Hp → Prop), (∀ vs H', Q vs H' → Q' vs H') → t σ H Q → t σ H Q'
section
variable {X : Cx}
theorem rng1_of {j : Nat} (h : j < 2 ^ 62) : -(2 ^ 62) ≤ ((j : Nat) : Int) ∧ ((j : Nat) : Int) < 2 ^ 62 := by
  have e : (2 : Int) ^ 62 = ((2 ^ 62 : Nat) : Int) := (pow_cast 62).symm
  rw [e]
  omega
theorem up1_run {tg a : Expr} {ta : TA} {p pos : Pos} (hg : Gl X "range") (hm : X.mg "range" = none) (ha : PA X [a] ta) (hs : starEach [a] X.env = [(false, eval a X.env)] := by rfl) : PI X tg (.Call (.Name "range" p) [a] [] pos) (iUp1 ta) := by
  have ha' : PA X [a] (fun σ H R => ∃ R0 : List V → Hp → Prop, (∀ vs H', R0 vs H' → R vs H') ∧ ta σ H R0) := ⟨fun pos pins s σ H Q I ⟨R0, i, h⟩ => thn (ha.run pos pins s σ H R0 I h) fun us s' ⟨vs, H', I', r, q⟩ => ⟨vs, H', I', r, i vs H' q⟩⟩
  exact PI.of (pi_range1 hg hm ha' hs) fun σ H R h => ⟨_, fun vs H' ⟨n, e, l, q⟩ => ⟨(n : Int), e, (rng1_of l).1, (rng1_of l).2, q⟩, h⟩
theorem up2_run {tg a b : Expr} {ta : TA} {p pos : Pos} (hg : Gl X "range") (hm : X.mg "range" = none) (ha : PA X [a, b] ta) (hs : starEach [a, b] X.env = [(false, eval a X.env), (false, eval b X.env)] := by rfl) (hs2 : starEach [b] X.env = [(false, eval b X.env)] := by rfl) :
    PI X tg (.Call (.Name "range" p) [a, b] [] pos) (iUp2 ta) := by
  have ha' : PA X [a, b] (fun σ H R => ∃ R0 : List V → Hp → Prop, (∀ vs H', R0 vs H' → R vs H') ∧ ta σ H R0) := ⟨fun pos pins s σ H Q I ⟨R0, i, h⟩ => thn (ha.run pos pins s σ H R0 I h) fun us s' ⟨vs, H', I', r, q⟩ => ⟨vs, H', I', r, i vs H' q⟩⟩
  exact PI.of (pi_range2 hg hm ha' hs hs2) fun σ H R h => ⟨_, fun vs H' ⟨a, b, e, l1, l2, q⟩ => ⟨(a : Int), (b : Int), e, ⟨(rng1_of l1).1, (rng1_of l1).2, (rng1_of l2).1, (rng1_of l2).2⟩, by
    rw [show ((b : Int) - (a : Int)).toNat = b - a by omega]
    exact q⟩, h⟩
end
/-- for i in range(n); range(a, b) has a in lo's place -/
theorem for_up {lo n : Nat} {g : TG} {tb : TS} {D : Ends} {σ : L2.St} {H : Hp} (Pv : Nat → L2.St → Hp → Prop) (h0 : Pv 0 σ H)
    (hs : ∀ i σ H, i < n → Pv i σ H → g (.int ((lo + i : Nat) : Int)) σ H fun σ2 H2 => tb { D with nx := Pv (i + 1), ct := Pv (i + 1), bk := D.nx } σ2 H2) (hd : ∀ σ H, Pv n σ H → D.nx σ H) :
    ∃ W : Nat → Nat → L2.St → Hp → Prop, (∃ m, W 0 m σ H) ∧ ∀ i m σ H, W i m σ H →
      ((Itr (lo : Int) n).stop i H ∧ D.nx σ H) ∨ ((Itr (lo : Int) n).go i H ∧ ∃ N : L2.St → Hp → Prop, (∀ σ' H', N σ' H' → ∃ m', m' < m ∧ W (i + 1) m' σ' H') ∧ ∀ x H', (Itr (lo : Int) n).yld i H x H' → g x σ H' fun σ2 H2 => tb { D with nx := N, ct := N, bk := D.nx } σ2 H2) :=
  for_range (lo := (lo : Int)) (n := n) Pv h0 (fun i σ H hi p => by
    have := hs i σ H hi p
    rw [Int.natCast_add] at this
    exact this) hd
theorem for_up0 {n : Nat} {g : TG} {tb : TS} {D : Ends} {σ : L2.St} {H : Hp} (Pv : Nat → L2.St → Hp → Prop) (h0 : Pv 0 σ H)
    (hs : ∀ i σ H, i < n → Pv i σ H → g (.int (i : Int)) σ H fun σ2 H2 => tb { D with nx := Pv (i + 1), ct := Pv (i + 1), bk := D.nx } σ2 H2) (hd : ∀ σ H, Pv n σ H → D.nx σ H) :
    ∃ W : Nat → Nat → L2.St → Hp → Prop, (∃ m, W 0 m σ H) ∧ ∀ i m σ H, W i m σ H →
      ((Itr 0 n).stop i H ∧ D.nx σ H) ∨ ((Itr 0 n).go i H ∧ ∃ N : L2.St → Hp → Prop, (∀ σ' H', N σ' H' → ∃ m', m' < m ∧ W (i + 1) m' σ' H') ∧ ∀ x H', (Itr 0 n).yld i H x H' → g x σ H' fun σ2 H2 => tb { D with nx := N, ct := N, bk := D.nx } σ2 H2) :=
  for_range (lo := 0) (n := n) Pv h0 (fun i σ H hi p => by
    rw [Int.zero_add]
    exact hs i σ H hi p) hd
theorem lc_up0 {n : Nat} {g : TG} {tt : TT} {te : TE} {vs : List Nat} {σ : L2.St} {H1 : Hp} {D : Addr} {Qd : Hp → Prop} (Pv : Nat → Hp → Prop) (h0 : Pv 0 (upd H1 D (.lst [])))
    (hs : ∀ i H, i < n → Pv i H → g (.int (i : Int)) (wipe σ vs) H fun σ2 H2 => wipe σ2 vs = wipe σ vs ∧ tt σ2 H2 fun b H3 =>
      if b = true then te σ2 H3 fun y H4 => ∃ acc, H4 D = some (.lst acc) ∧ acc.length < sizeLine ∧ Pv (i + 1) (upd H4 D (.lst (acc ++ [y]))) else Pv (i + 1) H3) (hd : ∀ H, Pv n H → Qd H) :
    ∃ W : Nat → Nat → Hp → Prop, (∃ m, W 0 m (upd H1 D (.lst []))) ∧ ∀ i m H, W i m H →
      ((Itr 0 n).stop i H ∧ Qd H) ∨ ((Itr 0 n).go i H ∧ ∃ Nx : Hp → Prop, (∀ H', Nx H' → ∃ m', m' < m ∧ W (i + 1) m' H') ∧ ∀ x H', (Itr 0 n).yld i H x H' → g x (wipe σ vs) H' fun σ2 H2 => wipe σ2 vs = wipe σ vs ∧ tt σ2 H2 fun b H3 =>
        if b = true then te σ2 H3 fun y H4 => ∃ acc, H4 D = some (.lst acc) ∧ acc.length < sizeLine ∧ Nx (upd H4 D (.lst (acc ++ [y]))) else Nx H3) :=
  lc_range (lo := 0) (n := n) Pv h0 (fun i H hi p => by
    rw [Int.zero_add]
    exact hs i H hi p) hd
theorem lc_up {lo n : Nat} {g : TG} {tt : TT} {te : TE} {vs : List Nat} {σ : L2.St} {H1 : Hp} {D : Addr} {Qd : Hp → Prop} (Pv : Nat → Hp → Prop) (h0 : Pv 0 (upd H1 D (.lst [])))
    (hs : ∀ i H, i < n → Pv i H → g (.int ((lo + i : Nat) : Int)) (wipe σ vs) H fun σ2 H2 => wipe σ2 vs = wipe σ vs ∧ tt σ2 H2 fun b H3 =>
      if b = true then te σ2 H3 fun y H4 => ∃ acc, H4 D = some (.lst acc) ∧ acc.length < sizeLine ∧ Pv (i + 1) (upd H4 D (.lst (acc ++ [y]))) else Pv (i + 1) H3) (hd : ∀ H, Pv n H → Qd H) :
    ∃ W : Nat → Nat → Hp → Prop, (∃ m, W 0 m (upd H1 D (.lst []))) ∧ ∀ i m H, W i m H →
      ((Itr (lo : Int) n).stop i H ∧ Qd H) ∨ ((Itr (lo : Int) n).go i H ∧ ∃ Nx : Hp → Prop, (∀ H', Nx H' → ∃ m', m' < m ∧ W (i + 1) m' H') ∧ ∀ x H', (Itr (lo : Int) n).yld i H x H' → g x (wipe σ vs) H' fun σ2 H2 => wipe σ2 vs = wipe σ vs ∧ tt σ2 H2 fun b H3 =>
        if b = true then te σ2 H3 fun y H4 => ∃ acc, H4 D = some (.lst acc) ∧ acc.length < sizeLine ∧ Nx (upd H4 D (.lst (acc ++ [y]))) else Nx H3) :=
  lc_range (lo := (lo : Int)) (n := n) Pv h0 (fun i H hi p => by
    have := hs i H hi p
    rw [Int.natCast_add] at this
    exact this) hd
/-! ### lists of numbers -/
theorem nums_app (l : List Nat) (n : Nat) : nums l ++ [V.int (n : Int)] = nums (l ++ [n]) := by
  unfold nums
  rw [List.map_append]
  rfl
theorem nums_set (l : List Nat) (i n : Nat) : (nums l).set i (V.int (n : Int)) = nums (l.set i n) := by
  unfold nums
  rw [List.map_set]
theorem nums_flat (l : List Nat) : (nums l).all flatV = true := by
  unfold nums
  rw [List.all_map]
  exact List.all_eq_true.mpr fun _ _ => rfl
theorem nums_in (n : Nat) (l : List Nat) : inV (.int (n : Int)) (nums l) = decide (n ∈ l) := by
  unfold inV nums
  rw [List.any_map]
  rw [Bool.eq_iff_iff, List.any_eq_true, decide_eq_true_iff]
  constructor
  · rintro ⟨x, hx, e⟩
    have e : (((x : Nat) : Int) == ((n : Nat) : Int)) = true := e
    have : (x : Int) = (n : Int) := by simpa using e
    have : x = n := by omega
    rw [← this]
    exact hx
  · intro h
    refine ⟨n, h, ?_⟩
    show (((n : Nat) : Int) == ((n : Nat) : Int)) = true
    simp
theorem sz8 {n : Nat} (h : n ≤ 100000) : n < sizeLine := Nat.lt_of_le_of_lt h (by decide)
theorem sz8' {n : Nat} (h : n ≤ 100000) : n ≤ sizeLine := Nat.le_of_lt (sz8 h)
theorem getD_get {l : List Nat} {i d : Nat} (h : i < l.length) : l[i]? = some (l.getD i d) := by
  rw [List.getD_eq_getElem?_getD, List.getElem?_eq_getElem h]
  rfl
/-! ### the bits of a mask -/
def bits (m : Nat) : List Nat := (List.range 8).filter fun i => m.testBit i
theorem filter_range_ext (p : Nat → Bool) (n : Nat) (h : ∀ i, n ≤ i → p i = false) : ∀ k, (List.range (n + k)).filter p = (List.range n).filter p
  | 0 => rfl
  | k + 1 => by
    rw [← Nat.add_assoc, List.range_succ, List.filter_append, filter_range_ext p n h k]
    simp [h (n + k) (by omega)]
theorem bits_upto {m n : Nat} (h : m < 2 ^ n) (hn : n ≤ 8) : (List.range n).filter (fun i => m.testBit i) = bits m := by
  have := filter_range_ext (fun i => m.testBit i) n (fun i hi => Nat.testBit_lt_two_pow (Nat.lt_of_lt_of_le h (Nat.pow_le_pow_right (by decide) hi))) (8 - n)
  rw [show n + (8 - n) = 8 by omega] at this
  exact this.symm
theorem mem_bits {m i : Nat} (h : m < 2 ^ 8) : i ∈ bits m ↔ m.testBit i = true := by
  unfold bits
  rw [List.mem_filter, List.mem_range]
  exact ⟨fun h => h.2, fun q => ⟨bit_lt h q, q⟩⟩
theorem bits_len (m : Nat) : (bits m).length ≤ 8 := by
  unfold bits
  exact Nat.le_trans (List.length_filter_le _ _) (by rw [List.length_range]; exact Nat.le_refl _)
theorem bits_lt {m i : Nat} (h : i ∈ bits m) : i < 8 := List.mem_range.mp (List.mem_filter.mp h).1
theorem bits_nodup (m : Nat) : (bits m).Nodup := List.nodup_range.filter _
theorem bits_asc (m : Nat) : (bits m).Pairwise (· < ·) := List.pairwise_lt_range.filter _
theorem intBits_nat (m : Nat) : Builtin.Int.intBits (m : Int) = if m = 0 then 0 else m.log2 + 1 := by
  unfold Builtin.Int.intBits
  rw [Int.natAbs_natCast]
  by_cases e : m = 0
  · subst e
    rfl
  · rw [if_neg e, if_neg (by
      have : ¬ ((m : Int) = 0) := by omega
      simpa using this)]
theorem lt_intBits (m : Nat) : m < 2 ^ (Builtin.Int.intBits (m : Int)) := by
  rw [intBits_nat]
  by_cases e : m = 0
  · subst e
    decide
  · rw [if_neg e]
    exact Nat.lt_log2_self
theorem intBits_le_of {m n : Nat} (h : m < 2 ^ n) : Builtin.Int.intBits (m : Int) ≤ n := by
  rw [intBits_nat]
  by_cases e : m = 0
  · rw [if_pos e]
    exact Nat.zero_le _
  · rw [if_neg e]
    have := (Nat.log2_lt e).mpr h
    omega
end WW

set_option Elab.async false
set_option linter.all false
set_option maxRecDepth 100000
set_option maxHeartbeats 4000000
/-! W1: is_integer, is_number, need, gcd_of, product_of, _law_gcd -/
namespace WW
open PySem PySem.Spec PyProof.Rows L2
section
variable {P : Program} {w : World} {K : PySem.W.Frag} {mg : Str → Option Value} {base : Heap}
/-! ### is_integer, is_number, need -/
def spIsInteger : Sp := fun vs H Q _ => ∃ i : Int, vs = [.int i] ∧ Q (.bl true) H
theorem scIsInteger : FnScope ["thing"] ["thing"] (defScope (topS 9)) := ⟨rfl, rfl, rfl, by decide +kernel, rfl, by decide +kernel, by decide +kernel⟩
theorem cal_is_integer (D : Dfn K mg "is_integer" (topS 9) ["thing"]) (B : Blt mg) : Cal P w K mg base "is_integer" 1 ["thing"] spIsInteger := by
  refine D.cal scIsInteger (fun vs H Q E h => ?_) (fun f cdv A outer s H vs Q E hr h => ?_)
  · obtain ⟨i, rfl, _⟩ := h
    rfl
  · obtain ⟨i, rfl, q⟩ := h
    refine ⟨_, pss_one (ps_ret (pe_and (pe_callB call_isi (by rfl) B.isinstance (by decide +kernel) (pa_cons (pv 0) (pa_cons (pe_bltn (v := .ty "int") (by rfl) B.int (by decide +kernel) rfl) pa_nil)))
      (pe_one (pe_not (pe_callB call_isi (by rfl) B.isinstance (by decide +kernel) (pa_cons (pv 0) (pa_cons (pe_bltn (v := .ty "bool") (by rfl) B.bool (by decide +kernel) rfl) pa_nil))))))), ?_⟩
    exact ⟨_, rfl, _, _, _, _, true, rfl, .ty _, .base (.int i), kit_ty (by decide +kernel), true, rfl, iteT ⟨_, rfl, _, _, _, _, false, rfl, .ty _, .base (.int i), kit_ty (by decide +kernel), false, rfl, q⟩⟩
def spIsNumber : Sp := fun vs H Q _ => ∃ n : Nat, vs = [.int (n : Int)] ∧ Q (.bl true) H
theorem scIsNumber : FnScope ["thing"] ["thing"] (defScope (topS 10)) := ⟨rfl, rfl, rfl, by decide +kernel, rfl, by decide +kernel, by decide +kernel⟩
theorem cal_is_number (D : Dfn K mg "is_number" (topS 10) ["thing"]) (c1 : Cal P w K mg base "is_integer" 1 ["thing"] spIsInteger) : Cal P w K mg base "is_number" 2 ["thing"] spIsNumber := by
  refine D.cal scIsNumber (fun vs H Q E h => ?_) (fun f cdv A outer s H vs Q E hr h => ?_)
  · obtain ⟨n, rfl, _⟩ := h
    rfl
  · obtain ⟨n, rfl, q⟩ := h
    refine ⟨_, pss_one (ps_ret (pe_and (pe_cal c1 hr (by decide) (pa_cons (pv 0) pa_nil)) (pe_one (pe_cmpR n_ge (pv 0) pe_int (nomark _))))), ?_⟩
    refine ⟨_, rfl, (n : Int), rfl, true, rfl, iteT ⟨_, rfl, n, 0, rfl, rfl, ?_⟩⟩
    show Q (V.bl (decide (0 ≤ n))) H
    rw [show decide (0 ≤ n) = true from decide_eq_true (Nat.zero_le n)]
    exact q
def spNeed : Sp := fun vs H Q _ => ∃ x : V, vs = [.bl true, x] ∧ Q .non H
theorem scNeed : FnScope ["good", "word"] ["good", "word"] (defScope (topS 13)) := ⟨rfl, rfl, rfl, by decide +kernel, rfl, by decide +kernel, by decide +kernel⟩
theorem cal_need (D : Dfn K mg "need" (topS 13) ["good", "word"]) : Cal P w K mg base "need" 1 ["good", "word"] spNeed := by
  refine D.cal scNeed (fun vs H Q E h => ?_) (fun f cdv A outer s H vs Q E hr h => ?_)
  · obtain ⟨x, rfl, _⟩ := h
    rfl
  · obtain ⟨x, rfl, q⟩ := h
    refine ⟨_, pss_one (ps_if (pt_not (pt_val (pv 0))) (pss_one ps_never) pss_nil), ?_⟩
    exact ⟨_, rfl, true, rfl, iteF q⟩
/-! ### gcd_of, _law_gcd -/
def spGcd : Sp := fun vs H Q _ => ∃ a b : Nat, vs = [.int (a : Int), .int (b : Int)] ∧ Q (.int ((Nat.gcd a b : Nat) : Int)) H
theorem gcd_turn (a b : Nat) : Nat.gcd b (a % b) = Nat.gcd a b := by rw [Nat.gcd_comm, ← Nat.gcd_rec, Nat.gcd_comm]
theorem scGcd : FnScope ["many", "other"] ["many", "other"] (defScope (topS 15)) := ⟨rfl, rfl, rfl, by decide +kernel, rfl, by decide +kernel, by decide +kernel⟩
theorem cal_gcd_of (D : Dfn K mg "gcd_of" (topS 15) ["many", "other"]) (c1 : Cal P w K mg base "is_number" 2 ["thing"] spIsNumber) (c2 : Cal P w K mg base "need" 1 ["good", "word"] spNeed) : Cal P w K mg base "gcd_of" 3 ["many", "other"] spGcd := by
  refine D.cal scGcd (fun vs H Q E h => ?_) (fun f cdv A outer s H vs Q E hr h => ?_)
  · obtain ⟨a, b, rfl, _⟩ := h
    rfl
  · obtain ⟨a, b, rfl, q⟩ := h
    refine ⟨_, pss_cons (ps_expr (pe_cal c2 hr (by decide) (pa_cons (pe_cal c1 hr (by decide) (pa_cons (pv 1) pa_nil)) (pa_cons pe_str pa_nil))))
      (pss_cons (ps_while PassesOwn.never (pt_cmpR n_gt (pv 1) pe_int (nomark _))
        (pss_one (ps_par (i := 0) (j := 1) rfl scGcd.nd rfl rfl (by decide) rfl rfl (pa_cons (pv 1) (pa_cons (pe_op n_mod (pv 0) (pv 1)) pa_nil)) (by rfl))))
      (pss_one (ps_ret (pv 0)))), ?_⟩
    refine ⟨_, rfl, b, rfl, _, rfl, ?_⟩
    refine ⟨fun m σ H' => ∃ a' b' : Nat, σ = [some (.int (a' : Int)), some (.int (b' : Int))] ∧ Nat.gcd a' b' = Nat.gcd a b ∧ b' = m ∧ H' = H, ⟨b, a, b, rfl, rfl, rfl, rfl⟩, ?_⟩
    rintro m σ H' ⟨a', b', rfl, e, rfl, rfl⟩
    refine ⟨_, rfl, b', 0, rfl, rfl, _, rfl, ite2 (fun hb => ?_) (fun hb => ?_)⟩
    · have hb : 0 < b' := of_decide_eq_true hb
      refine ⟨_, fun σ2 H2 h => h, ?_⟩
      exact ⟨_, rfl, _, rfl, _, rfl, a', b', rfl, rfl, hb, _, _, rfl, _, Nat.mod_lt a' hb, b', a' % b', rfl, by rw [gcd_turn]; exact e, rfl, rfl⟩
    · have hb : b' = 0 := by
        have : ¬ 0 < b' := fun h => hb (decide_eq_true h)
        omega
      subst hb
      refine ⟨_, rfl, ?_⟩
      rw [Nat.gcd_zero_right] at e
      rw [e]
      exact q
theorem scLGcd : FnScope ["_law_one", "_law_other"] ["_law_one", "_law_other"] (defScope (topS 48)) := ⟨rfl, rfl, rfl, by decide +kernel, rfl, by decide +kernel, by decide +kernel⟩
theorem cal_law_gcd (D : Dfn K mg "_law_gcd" (topS 48) ["_law_one", "_law_other"]) (B : Blt mg) : Cal P w K mg base "_law_gcd" 1 ["_law_one", "_law_other"] spGcd := by
  refine D.cal scLGcd (fun vs H Q E h => ?_) (fun f cdv A outer s H vs Q E hr h => ?_)
  · obtain ⟨a, b, rfl, _⟩ := h
    rfl
  · obtain ⟨a, b, rfl, q⟩ := h
    refine ⟨_, pss_cons (ps_while PassesOwn.never (pt_cmpR n_gt (pv 1) pe_int (nomark _))
        (pss_one (ps_par (i := 0) (j := 1) rfl scLGcd.nd rfl rfl (by decide) rfl rfl (pa_cons (pv 1) (pa_cons (pe_op n_mod (pe_callTy call_int1 (by rfl) B.int (by decide +kernel) (pa_cons (pv 0) pa_nil)) (pv 1)) pa_nil)) (by rfl))))
      (pss_one (ps_ret (pv 0))), ?_⟩
    refine ⟨fun m σ H' => ∃ a' b' : Nat, σ = [some (.int (a' : Int)), some (.int (b' : Int))] ∧ Nat.gcd a' b' = Nat.gcd a b ∧ b' = m ∧ H' = H, ⟨b, a, b, rfl, rfl, rfl, rfl⟩, ?_⟩
    rintro m σ H' ⟨a', b', rfl, e, rfl, rfl⟩
    refine ⟨_, rfl, b', 0, rfl, rfl, _, rfl, ite2 (fun hb => ?_) (fun hb => ?_)⟩
    · have hb : 0 < b' := of_decide_eq_true hb
      refine ⟨_, fun σ2 H2 h => h, ?_⟩
      exact ⟨_, rfl, _, rfl, .inl ⟨_, rfl, _, rfl, a', b', rfl, rfl, hb, _, _, rfl, _, Nat.mod_lt a' hb, b', a' % b', rfl, by rw [gcd_turn]; exact e, rfl, rfl⟩⟩
    · have hb : b' = 0 := by
        have : ¬ 0 < b' := fun h => hb (decide_eq_true h)
        omega
      subst hb
      refine ⟨_, rfl, ?_⟩
      rw [Nat.gcd_zero_right] at e
      rw [e]
      exact q
end
end WW

set_option Elab.async false
set_option linter.all false
set_option maxRecDepth 100000
set_option maxHeartbeats 4000000
/-! W2: product_of, members, _law_bits, tie_masks, _law_ties -/
namespace WW
open PySem PySem.Spec PyProof.Rows L2
/-! ### ranges -/
def rr (rs : List Nat) (i : Nat) : Nat := rs.getD i 1
structure Rgs (rs : List Nat) : Prop where
  len : rs.length ≤ 8
  ge : ∀ x ∈ rs, 2 ≤ x
  lt : ∀ x ∈ rs, x < 2 ^ 800
theorem rr_get {rs : List Nat} {i x : Nat} (h : rs[i]? = some x) : rr rs i = x := by
  unfold rr
  rw [List.getD_eq_getElem?_getD, h]
  rfl
theorem rr_at {rs : List Nat} {i : Nat} (h : i < rs.length) : rs[i]? = some (rr rs i) := getD_get h
theorem rr_out {rs : List Nat} {i : Nat} (h : rs.length ≤ i) : rr rs i = 1 := by
  unfold rr
  rw [List.getD_eq_getElem?_getD, List.getElem?_eq_none h]
  rfl
theorem Rgs.ge2 {rs : List Nat} (g : Rgs rs) : ∀ i, i < rs.length → 2 ≤ rr rs i := fun i hi => g.ge _ (List.mem_of_getElem? (rr_at hi))
theorem Rgs.big {rs : List Nat} (g : Rgs rs) : ∀ i, i < rs.length → rr rs i < 2 ^ 800 := fun i hi => g.lt _ (List.mem_of_getElem? (rr_at hi))
theorem pr_big {r : Nat → Nat} {S : Nat → Bool} : ∀ {n : Nat}, (∀ i, i < n → r i < 2 ^ 800) → pr r S n ≤ 2 ^ (800 * n)
  | 0, _ => Nat.le_refl _
  | n + 1, h => by
    have ih := pr_big (S := S) (n := n) fun i hi => h i (by omega)
    have hn := h n (by omega)
    unfold pr
    rw [show 800 * (n + 1) = 800 * n + 800 by omega, Nat.pow_add]
    refine Nat.mul_le_mul ih ?_
    split
    · exact Nat.le_of_lt hn
    · exact Nat.one_le_two_pow
theorem Rgs.pr_lt {rs : List Nat} (g : Rgs rs) {S : Nat → Bool} {n : Nat} (hn : n ≤ rs.length) : pr (rr rs) S n < 2 ^ 9000 := by
  refine Nat.lt_of_le_of_lt (pr_big fun i hi => g.big i (by omega)) (Nat.pow_lt_pow_right (by decide) ?_)
  have := g.len
  omega
theorem Rgs.el_lt {rs : List Nat} (g : Rgs rs) {i : Nat} : rr rs i < 2 ^ 9000 := by
  by_cases h : i < rs.length
  · exact Nat.lt_trans (g.big i h) (Nat.pow_lt_pow_right (by decide) (by decide))
  · rw [rr_out (by omega)]
    exact Nat.one_lt_two_pow (by decide)
def whole (rs : List Nat) : Nat := whl rs.length (rr rs)
/-- the product of the first i ranges -/
def pre (rs : List Nat) (i : Nat) : Nat := pr (rr rs) (fun _ => true) i
theorem pre_succ (rs : List Nat) (i : Nat) : pre rs (i + 1) = pre rs i * rr rs i := by
  show pr _ _ i * (if true = true then rr rs i else 1) = _
  rw [if_pos rfl]
  rfl
/-! ### ties -/
def tie (rs : List Nat) : Rel := fun i j => decide (i ≠ j) && decide (1 < Nat.gcd (rr rs i) (rr rs j))
theorem tie_symm (rs : List Nat) (i j : Nat) : tie rs i j = tie rs j i := by
  unfold tie
  rw [Nat.gcd_comm]
  have : decide (i ≠ j) = decide (j ≠ i) := decide_eq_decide.mpr ⟨Ne.symm, Ne.symm⟩
  rw [this]
theorem tie_irr (rs : List Nat) (i : Nat) : tie rs i i = false := by
  unfold tie
  simp
theorem tie_out {rs : List Nat} {i j : Nat} (h : rs.length ≤ i ∨ rs.length ≤ j) : tie rs i j = false := by
  unfold tie
  rcases h with h | h
  · rw [rr_out h, Nat.gcd_one_left]
    simp
  · rw [rr_out h, Nat.gcd_one_right]
    simp
/-- a list of masks of a relation -/
structure IsM (n : Nat) (S : Rel) (ms : List Nat) : Prop where
  len : ms.length = n
  bit : ∀ i, i < n → ∀ j, (ms.getD i 0).testBit j = S i j
theorem IsM.at {n : Nat} {S : Rel} {ms : List Nat} (h : IsM n S ms) {i : Nat} (hi : i < n) : ∃ m, ms[i]? = some m ∧ ∀ j, m.testBit j = S i j :=
  ⟨ms.getD i 0, getD_get (by rw [h.len]; exact hi), h.bit i hi⟩
theorem IsM.lt {n : Nat} {S : Rel} {ms : List Nat} (h : IsM n S ms) (hS : ∀ i j, S i j = true → j < n) {i m : Nat} (hm : ms[i]? = some m) : m < 2 ^ n := by
  have hi : i < n := by
    rw [← h.len]
    exact (List.getElem?_eq_some_iff.mp hm).1
  have e : ms.getD i 0 = m := by rw [List.getD_eq_getElem?_getD, hm]; rfl
  refine Nat.lt_pow_two_of_testBit _ fun j hj => ?_
  rw [← e, h.bit i hi j]
  cases q : S i j with
  | false => rfl
  | true =>
    have := hS i j q
    omega
theorem tie_lt {rs : List Nat} (i j : Nat) (h : tie rs i j = true) : j < rs.length := by
  refine Decidable.byContradiction fun q => ?_
  rw [tie_out (.inr (by omega))] at h
  cases h
section
variable {P : Program} {w : World} {K : PySem.W.Frag} {mg : Str → Option Value} {base : Heap}
/-! ### product_of -/
def spProd : Sp := fun vs H Q _ => ∃ (a : Addr) (rs : List Nat), vs = [.ref a] ∧ H a = some (.tup (nums rs)) ∧ Rgs rs ∧ Q (.int ((whole rs : Nat) : Int)) H
theorem scProd : FnScope ["ranges", "product", "many"] ["ranges"] (defScope (topS 16)) := ⟨rfl, rfl, rfl, by decide +kernel, rfl, by decide +kernel, by decide +kernel⟩
theorem cal_product_of (D : Dfn K mg "product_of" (topS 16) ["ranges"]) : Cal P w K mg base "product_of" 1 ["ranges"] spProd := by
  refine D.cal scProd (fun vs H Q E h => ?_) (fun f cdv A outer s H vs Q E hr h => ?_)
  · obtain ⟨a, rs, rfl, _⟩ := h
    rfl
  · obtain ⟨a, rs, rfl, ha, g, q⟩ := h
    refine ⟨_, pss_cons (ps_set (i := 1) scProd.nd rfl (Or.inl rfl) pe_int)
      (pss_cons (ps_for PassesOwn.never rfl (pi_tup (pv 0)) (pg_name (i := 2) scProd.nd rfl (Or.inl rfl))
        (pss_one (ps_set (i := 1) scProd.nd rfl (Or.inl rfl) (pe_op n_mul (pv 1) (pv 2)))))
      (pss_one (ps_ret (pv 1)))), ?_⟩
    refine ⟨_, rfl, a, rfl, ⟨_, SqT.of ha⟩, for_tup (K := K) (a := a) (xs := nums rs) (fun i σ H' => ∃ v, σ = [some (.ref a), some (.int ((pre rs i : Nat) : Int)), v] ∧ H' = H) ⟨none, rfl, rfl⟩ (fun i σ H' _ ⟨_, _, e⟩ => e ▸ SqT.of ha) ?_ ?_⟩
    · rintro i x σ H' hx ⟨v, rfl, rfl⟩
      obtain ⟨n, hn, rfl⟩ := nums_of hx
      have hi : i < rs.length := (List.getElem?_eq_some_iff.mp hn).1
      refine ⟨_, rfl, _, rfl, pre rs i, n, rfl, rfl, ⟨g.pr_lt (by omega), by rw [← rr_get hn]; exact g.el_lt⟩, some (.int (n : Int)), ?_, rfl⟩
      rw [pre_succ, rr_get hn]
      rfl
    · rintro σ H' ⟨v, rfl, rfl⟩
      rw [nums_len]
      exact ⟨_, rfl, q⟩
/-! ### members, _law_bits -/
def spMembers : Sp := fun vs H Q _ => ∃ m : Nat, vs = [.int (m : Int)] ∧ m < 2 ^ 8 ∧ ∀ H' p, Same H H' → H p = none → H' p = some (.tup (nums (bits m))) → Q (.ref p) H'
theorem scMembers : FnScope ["mask", "found", "dial"] ["mask"] (defScope (topS 28)) := ⟨rfl, rfl, rfl, by decide +kernel, rfl, by decide +kernel, by decide +kernel⟩
theorem cal_members (D : Dfn K mg "members" (topS 28) ["mask"]) (B : Blt mg) : Cal P w K mg base "members" 1 ["mask"] spMembers := by
  refine D.cal scMembers (fun vs H Q E h => ?_) (fun f cdv A outer s H vs Q E hr h => ?_)
  · obtain ⟨m, rfl, _⟩ := h
    rfl
  · obtain ⟨m, rfl, hm, q⟩ := h
    refine ⟨_, pss_cons (ps_set (i := 1) scMembers.nd rfl (Or.inl rfl) (pe_lst pa_nil))
      (pss_cons (ps_for PassesOwn.never rfl (up1_run rfl B.range (pa_cons (pe_bits (pv 0)) pa_nil)) (pg_name (i := 2) scMembers.nd rfl (Or.inl rfl))
        (pss_one (ps_if (pt_truth (pe_op n_and (pe_op n_shr (pv 0) (pv 2)) pe_int) (by intro _; rfl))
          (pss_one (ps_expr (pe_bm PySem.F.plainAttrs_list PySem.F.slot_list_append PySem.F.type_list_append mt_append (pv 1) (pa_cons (pv 2) pa_nil)))) pss_nil)))
      (pss_one (ps_ret (pe_callTy call_tuple_of (by rfl) B.tuple (by decide +kernel) (pa_cons (pv 1) pa_nil))))), ?_⟩
    refine ⟨Nat.zero_le _, fun p hp => ?_⟩
    have hb : Builtin.Int.intBits (m : Int) ≤ 8 := intBits_le_of hm
    refine ⟨_, rfl, (m : Int), rfl, Builtin.Int.intBits (m : Int), rfl, Nat.lt_of_le_of_lt hb (by decide), for_up0 (n := Builtin.Int.intBits (m : Int)) (fun i σ H' => ∃ v, σ = [some (.int (m : Int)), some (.ref p), v] ∧ Same H H' ∧ H' p = some (.lst (nums ((List.range i).filter fun k => m.testBit k)))) ⟨none, rfl, same_new hp, upd_same⟩ ?_ ?_⟩
    · rintro i σ H' hi ⟨v, rfl, sm, hl⟩
      refine ⟨_, rfl, _, rfl, m, i, rfl, rfl, m / 2 ^ i, 1, rfl, rfl, m.testBit i, (bit_tru m i).symm, ite2 (fun e => ?_) (fun e => ?_)⟩
      · refine ⟨_, rfl, .inl ⟨rfl, _, SqL.of hl⟩, _, rfl, p, _, _, rfl, rfl, hl, ?_, _, rfl, same_mut sm hp, ?_⟩
        · rw [nums_len]
          refine sz8 (Nat.le_trans (List.length_filter_le _ _) ?_)
          rw [List.length_range]
          omega
        · rw [upd_same, nums_app, List.range_succ, List.filter_append]
          simp [e]
      · refine ⟨_, rfl, sm, ?_⟩
        rw [hl, List.range_succ, List.filter_append]
        simp [e]
    · rintro σ H' ⟨v, rfl, sm, hl⟩
      rw [bits_upto (lt_intBits m) hb] at hl
      refine ⟨_, rfl, p, _, rfl, .inl ⟨SqL.of hl, fun l nl => ?_⟩⟩
      exact q _ l (sm.trans (same_new nl)) (sm.free nl) upd_same
def spBits : Sp := fun vs H Q _ => ∃ m : Nat, vs = [.int (m : Int)] ∧ ∀ H' p, Same H H' → H p = none → H' p = some (.lst (nums (bits m))) → Q (.ref p) H'
theorem scLBits : FnScope ["_law_mask", "_law_k"] ["_law_mask"] (defScope (topS 53)) := ⟨rfl, rfl, rfl, by decide +kernel, rfl, by decide +kernel, by decide +kernel⟩
theorem cal_law_bits (D : Dfn K mg "_law_bits" (topS 53) ["_law_mask"]) (B : Blt mg) : Cal P w K mg base "_law_bits" 1 ["_law_mask"] spBits := by
  refine D.cal scLBits (fun vs H Q E h => ?_) (fun f cdv A outer s H vs Q E hr h => ?_)
  · obtain ⟨m, rfl, _⟩ := h
    rfl
  · obtain ⟨m, rfl, q⟩ := h
    refine ⟨_, pss_one (ps_ret (pe_lc (own := [("_law_k", 1)]) (g := gName 1) rfl scLBits.nd (up1_run rfl B.range (pa_cons pe_int pa_nil)) (blkOk_by (own := [("_law_k", 1)]) (N := ["_law_mask", "_law_k"]) (sc := defScope (topS 53)) (by decide +kernel))
      (fun _ _ _ _ _ => pg_name (i := 1) scLBits.nd rfl (Or.inl rfl)) (fun _ _ _ _ _ => pts_one (pt_cmpR n_eq (pe_op n_and (pe_op n_shr (pv 0) (pv 1)) pe_int) pe_int (nomark _))) (fun _ _ _ _ _ => pv 1))), ?_⟩
    refine ⟨8, rfl, by decide, fun p hp => lc_up0 (n := 8) (fun i H' => Same H H' ∧ H' p = some (.lst (nums ((List.range i).filter fun k => m.testBit k)))) ⟨same_new hp, upd_same⟩ ?_ ?_⟩
    · rintro i H' hi ⟨sm, hl⟩
      refine ⟨rfl, _, rfl, _, rfl, m, i, rfl, rfl, m / 2 ^ i, 1, rfl, rfl, _, 1, rfl, rfl, m.testBit i, congrArg V.bl (bit_one m i), ite2 (fun e => ?_) (fun e => ?_)⟩
      · refine ⟨_, rfl, _, hl, ?_, same_mut sm hp, ?_⟩
        · rw [nums_len]
          refine sz8 (Nat.le_trans (List.length_filter_le _ _) ?_)
          rw [List.length_range]
          omega
        · rw [upd_same, nums_app, List.range_succ, List.filter_append]
          simp [e]
      · refine ⟨sm, ?_⟩
        rw [hl, List.range_succ, List.filter_append]
        simp [e]
    · rintro H' ⟨sm, hl⟩
      exact q H' p sm hp hl
end
end WW

set_option Elab.async false
set_option linter.all false
set_option maxRecDepth 100000
set_option maxHeartbeats 4000000
/-! W3: tie_masks, _law_ties -/
namespace WW
open PySem PySem.Spec PyProof.Rows L2
theorem or_bit (m j l : Nat) : (m ||| (1 * 2 ^ j)).testBit l = (m.testBit l || decide (j = l)) := by
  rw [Nat.one_mul, Nat.testBit_or, Nat.testBit_two_pow]
theorem IsM.set {n : Nat} {S S' : Rel} {ms : List Nat} (h : IsM n S ms) {i v : Nat} (hi : i < n) (hv : ∀ j, v.testBit j = S' i j) (hk : ∀ k, k < n → k ≠ i → ∀ j, S' k j = S k j) : IsM n S' (ms.set i v) := by
  refine ⟨by rw [List.length_set]; exact h.len, fun k hkn j => ?_⟩
  rw [List.getD_eq_getElem?_getD, List.getElem?_set]
  by_cases e : i = k
  · subst e
    rw [if_pos rfl, if_pos (by rw [h.len]; exact hi)]
    exact hv j
  · rw [if_neg e, ← List.getD_eq_getElem?_getD, h.bit k hkn j, hk k hkn (Ne.symm e) j]
theorem IsM.congr {n : Nat} {S S' : Rel} {ms : List Nat} (h : IsM n S ms) (e : ∀ i, i < n → ∀ j, S' i j = S i j) : IsM n S' ms := ⟨h.len, fun i hi j => by rw [e i hi j, h.bit i hi j]⟩
/-- the ties that are entered ahead of turn (j, i) -/
def part (rs : List Nat) (j i : Nat) : Rel := fun k l => tie rs k l && (decide (max k l < j) || (decide (max k l = j) && decide (min k l < i)))
theorem part_zero (rs : List Nat) (k l : Nat) : part rs 0 0 k l = false := by
  unfold part
  simp
theorem part_next (rs : List Nat) (j k l : Nat) : part rs (j + 1) 0 k l = part rs j j k l := by
  unfold part
  by_cases e : k = l
  · subst e
    rw [tie_irr]
    rfl
  · congr 1
    rw [Bool.eq_iff_iff]
    simp only [Bool.or_eq_true, Bool.and_eq_true, decide_eq_true_eq]
    omega
theorem part_end (rs : List Nat) (k l : Nat) : part rs rs.length 0 k l = tie rs k l := by
  unfold part
  by_cases h : k < rs.length ∧ l < rs.length
  · have : max k l < rs.length := by omega
    simp [this]
  · rw [tie_out (by omega)]
    rfl
theorem part_no {rs : List Nat} {i j : Nat} (hij : i < j) (h : tie rs i j = false) (k l : Nat) : part rs j (i + 1) k l = part rs j i k l := by
  unfold part
  by_cases e : (k = i ∧ l = j) ∨ (k = j ∧ l = i)
  · have : tie rs k l = false := by
      rcases e with ⟨rfl, rfl⟩ | ⟨rfl, rfl⟩
      · exact h
      · rw [tie_symm]
        exact h
    rw [this]
    rfl
  · congr 1
    rw [Bool.eq_iff_iff]
    simp only [Bool.or_eq_true, Bool.and_eq_true, decide_eq_true_eq]
    omega
theorem part_yes {rs : List Nat} {i j : Nat} (hij : i < j) (h : tie rs i j = true) (k l : Nat) : part rs j (i + 1) k l = (part rs j i k l || (decide (k = i) && decide (l = j)) || (decide (k = j) && decide (l = i))) := by
  unfold part
  by_cases e : (k = i ∧ l = j) ∨ (k = j ∧ l = i)
  · have : tie rs k l = true := by
      rcases e with ⟨rfl, rfl⟩ | ⟨rfl, rfl⟩
      · exact h
      · rw [tie_symm]
        exact h
    rw [this, Bool.eq_iff_iff]
    simp only [Bool.or_eq_true, Bool.and_eq_true, decide_eq_true_eq, true_and]
    omega
  · cases q : tie rs k l with
    | false =>
      have e1 : (decide (k = i) && decide (l = j)) = false := by
        rw [← Bool.decide_and]
        exact decide_eq_false fun h => e (.inl h)
      have e2 : (decide (k = j) && decide (l = i)) = false := by
        rw [← Bool.decide_and]
        exact decide_eq_false fun h => e (.inr h)
      rw [e1, e2]
      rfl
    | true =>
      rw [Bool.eq_iff_iff]
      simp only [Bool.or_eq_true, Bool.and_eq_true, decide_eq_true_eq, true_and]
      omega
theorem sum_pows (p : Nat → Bool) : ∀ n, (((List.range n).filter p).map fun i => 2 ^ i).sum = mk n p
  | 0 => rfl
  | n + 1 => by
    rw [List.range_succ, List.filter_append, List.map_append, List.sum_append, sum_pows p n]
    show _ = mk n p ||| (if p n = true then 2 ^ n else 0)
    by_cases h : p n = true
    · rw [if_pos h]
      have e := Nat.two_pow_add_eq_or_of_lt (mk_lt n p) 1
      rw [Nat.mul_one] at e
      rw [Nat.or_comm, ← e]
      simp [h, Nat.add_comm]
    · rw [if_neg h]
      simp [h]
theorem pow_le {j : Nat} (h : j ≤ 8) : 2 ^ j ≤ 256 := Nat.le_trans (Nat.pow_le_pow_right (by decide) h) (by decide)
/-- no test in a comprehension -/
theorem yesT {σ : L2.St} {H : Hp} {F G : Hp → Prop} (h : F H) : tYes σ H (fun b H3 => if b = true then F H3 else G H3) := by
  show (if true = true then F H else G H)
  rw [if_pos rfl]
  exact h
section
variable {X : Cx}
theorem sum_cast : ∀ l : List Nat, (l.map fun (n : Nat) => (n : Int)).sum = ((l.sum : Nat) : Int)
  | [] => rfl
  | a :: r => by
    rw [List.map_cons, List.sum_cons, List.sum_cons, sum_cast r, Int.natCast_add]
theorem nums_int (l : List Nat) : nums l = (l.map fun (n : Nat) => (n : Int)).map V.int := by
  unfold nums
  rw [List.map_map]
  rfl
def rSum' : List V → Hp → VK → Prop := fun xs H Q => ∃ (p : Addr) (l : List Nat), xs = [.ref p] ∧ H p = some (.lst (nums l)) ∧ Q (.int ((l.sum : Nat) : Int)) H
theorem c_sum (hc : X.calm = true) : CallR X (.builtin "sum") rSum' := CallR.of (cr_sum hc) fun xs H Q ⟨p, l, e, h, q⟩ => ⟨p, _, e, SqL.of (by rw [h, nums_int]), by rw [sum_cast]; exact q⟩
end
section
variable {P : Program} {w : World} {K : PySem.W.Frag} {mg : Str → Option Value} {base : Heap}
/-! ### tie_masks -/
def spTies : Sp := fun vs H Q _ => ∃ (a : Addr) (rs : List Nat), vs = [.ref a] ∧ H a = some (.tup (nums rs)) ∧ Rgs rs ∧ ∀ H' p ms, Same H H' → H p = none → H' p = some (.lst (nums ms)) → IsM rs.length (tie rs) ms → Q (.ref p) H'
theorem scTies : FnScope ["ranges", "masks", "j", "i", "_"] ["ranges"] (defScope (topS 29)) := ⟨rfl, rfl, rfl, by decide +kernel, rfl, by decide +kernel, by decide +kernel⟩
theorem cal_tie_masks (D : Dfn K mg "tie_masks" (topS 29) ["ranges"]) (B : Blt mg) (c1 : Cal P w K mg base "gcd_of" 3 ["many", "other"] spGcd) : Cal P w K mg base "tie_masks" 4 ["ranges"] spTies := by
  refine D.cal scTies (fun vs H Q E h => ?_) (fun f cdv A outer s H vs Q E hr h => ?_)
  · obtain ⟨a, rs, rfl, _⟩ := h
    rfl
  · obtain ⟨a, rs, rfl, ha, g, q⟩ := h
    refine ⟨_, pss_cons (ps_setLc (i := 1) (own := [("_", 4)]) (g := gName 4) rfl scTies.nd rfl rfl (sw_true rfl rfl rfl (by decide +kernel)) (pi_tup (pv 0)) (blkOk_by (own := [("_", 4)]) (N := ["ranges", "masks", "j", "i", "_"]) (sc := defScope (topS 29)) (by decide +kernel))
        (fun _ _ _ _ _ => pg_name (i := 4) scTies.nd rfl (Or.inl rfl)) (fun _ _ _ _ _ => pts_nil) (fun _ _ _ _ _ => pe_int))
      (pss_cons (ps_for PassesOwn.never rfl (up1_run rfl B.range (pa_cons (pe_callB c_len (by rfl) B.len PySem.boot_len (pa_cons (pv 0) pa_nil)) pa_nil)) (pg_name (i := 2) scTies.nd rfl (Or.inl rfl))
        (pss_one (ps_for PassesOwn.never rfl (up1_run rfl B.range (pa_cons (pv 2) pa_nil)) (pg_name (i := 3) scTies.nd rfl (Or.inl rfl))
          (pss_one (ps_if (pt_cmpR n_gt (pe_cal c1 hr (by decide) (pa_cons (pe_ix ixt (pv 0) (pv 3) (fun _ _ => rfl)) (pa_cons (pe_ix ixt (pv 0) (pv 2) (fun _ _ => rfl)) pa_nil))) pe_int (nomark _))
            (pss_cons (ps_asg (pe_op n_or (pe_ix ixl (pv 1) (pv 3) (fun _ _ => rfl)) (pe_op n_shl pe_int (pv 2))) (pg_sub (pv 1) (pv 3) setl))
            (pss_one (ps_asg (pe_op n_or (pe_ix ixl (pv 1) (pv 2) (fun _ _ => rfl)) (pe_op n_shl pe_int (pv 3))) (pg_sub (pv 1) (pv 2) setl)))) pss_nil)))))
      (pss_one (ps_ret (pv 1)))), ?_⟩
    have hn8 := g.len
    refine ⟨_, rfl, a, rfl, ⟨_, SqT.of ha⟩, fun p hp => lc_tup (K := K) (a := a) (xs := nums rs) (fun i H' => Same H H' ∧ H' p = some (.lst (nums (List.replicate i 0)))) ⟨same_new hp, upd_same⟩ (fun i H' _ ⟨sm, _⟩ => SqT.of (sm _ _ ha)) ?_ ?_⟩
    · rintro i x H' hx ⟨sm, hl⟩
      obtain ⟨n, hn, rfl⟩ := nums_of hx
      have hi : i < rs.length := (List.getElem?_eq_some_iff.mp hn).1
      refine ⟨rfl, yesT ?_⟩
      refine ⟨_, hl, ?_, same_mut sm hp, ?_⟩
      · rw [nums_len, List.length_replicate]
        exact sz8 (by omega)
      · rw [upd_same, List.replicate_succ']
        exact congrArg (fun l => some (HO.lst l)) (nums_app _ 0)
    · rintro H1 ⟨sm, hl⟩
      rw [nums_len] at hl
      have e0 : IsM rs.length (part rs 0 0) (List.replicate rs.length 0) := ⟨List.length_replicate, fun i hi j => by
        rw [part_zero, List.getD_eq_getElem?_getD, List.getElem?_replicate, if_pos hi]
        exact Nat.zero_testBit j⟩
      refine ⟨_, rfl, a, nums rs, rs.length, rfl, .inr (sm _ _ ha), nums_len _, _, rfl, by omega, for_up0 (n := rs.length) (fun j σ H' => ∃ v2 v3 ms, σ = [some (.ref a), some (.ref p), v2, v3, none] ∧ Same H H' ∧ H' p = some (.lst (nums ms)) ∧ IsM rs.length (part rs j 0) ms) ⟨none, none, _, rfl, sm, hl, e0⟩ ?_ ?_⟩
      · rintro j σ H' hj ⟨v2, v3, ms, rfl, sm, hl, hm⟩
        refine ⟨_, rfl, j, rfl, by omega, for_up0 (n := j) (fun i σ H' => ∃ v3 ms, σ = [some (.ref a), some (.ref p), some (.int (j : Int)), v3, none] ∧ Same H H' ∧ H' p = some (.lst (nums ms)) ∧ IsM rs.length (part rs j i) ms) ⟨v3, ms, rfl, sm, hl, hm⟩ ?_ ?_⟩
        · rintro i σ H' hi ⟨v3, ms, rfl, sm, hl, hm⟩
          refine ⟨_, rfl, _, rfl, a, _, i, _, rfl, rfl, sm _ _ ha, nums_get (rr_at (by omega)), _, rfl, _, rfl, a, _, j, _, rfl, rfl, sm _ _ ha, nums_get (rr_at hj), rr rs i, rr rs j, rfl, _, 1, rfl, rfl, _, rfl, ite2 (fun e => ?_) (fun e => ?_)⟩
          · have ht : tie rs i j = true := by
              have e : decide (1 < (rr rs i).gcd (rr rs j)) = true := e
              unfold tie
              rw [e]
              have : i ≠ j := by omega
              simp [this]
            obtain ⟨m1, g1, b1⟩ := hm.at (i := i) (by omega)
            refine ⟨_, rfl, _, rfl, p, _, i, _, rfl, rfl, hl, nums_get g1, _, rfl, 1, j, rfl, rfl, ⟨by decide, by omega⟩, m1, 1 * 2 ^ j, rfl, rfl, _, rfl, _, rfl, p, _, i, rfl, rfl, hl, by rw [nums_len, hm.len]; omega, ?_⟩
            rw [nums_set]
            have hm2 := hm.set (i := i) (v := m1 ||| (1 * 2 ^ j)) (S' := fun k l => part rs j i k l || (decide (k = i) && decide (l = j))) (by omega) (fun l => by
              rw [or_bit, b1]
              have : decide (j = l) = decide (l = j) := decide_eq_decide.mpr ⟨Eq.symm, Eq.symm⟩
              simp [this]) (fun k _ hk l => by simp [hk])
            obtain ⟨m2, g2, b2⟩ := hm2.at (i := j) hj
            refine ⟨_, rfl, _, rfl, p, _, j, _, rfl, rfl, upd_same, nums_get g2, _, rfl, 1, i, rfl, rfl, ⟨by decide, by omega⟩, m2, 1 * 2 ^ i, rfl, rfl, _, rfl, _, rfl, p, _, j, rfl, rfl, upd_same, by rw [nums_len, hm2.len]; omega, ?_⟩
            rw [nums_set]
            refine ⟨_, _, rfl, same_mut (same_mut sm hp) hp, upd_same, hm2.set hj (fun l => ?_) (fun k _ hk l => ?_)⟩
            · rw [or_bit, b2, part_yes hi ht]
              have : decide (i = l) = decide (l = i) := decide_eq_decide.mpr ⟨Eq.symm, Eq.symm⟩
              simp [this]
            · rw [part_yes hi ht]
              simp [hk]
          · have ht : tie rs i j = false := by
              unfold tie
              have e : decide (1 < (rr rs i).gcd (rr rs j)) = false := by simpa using e
              rw [e, Bool.and_false]
            exact ⟨_, ms, rfl, sm, hl, hm.congr fun k _ l => part_no hi ht k l⟩
        · rintro σ H' ⟨v3, ms, rfl, sm, hl, hm⟩
          exact ⟨_, v3, ms, rfl, sm, hl, hm.congr fun k _ l => part_next rs j k l⟩
      · rintro σ H' ⟨v2, v3, ms, rfl, sm, hl, hm⟩
        exact ⟨_, rfl, q H' p ms sm hp hl (hm.congr fun k _ l => (part_end rs k l).symm)⟩
/-! ### _law_ties -/
theorem scLTies : FnScope ["_law_ranges", "_law_size", "_law_masks", "_law_i", "_law_j"] ["_law_ranges"] (defScope (topS 54)) := ⟨rfl, rfl, rfl, by decide +kernel, rfl, by decide +kernel, by decide +kernel⟩
theorem cal_law_ties (D : Dfn K mg "_law_ties" (topS 54) ["_law_ranges"]) (B : Blt mg) (c1 : Cal P w K mg base "_law_gcd" 1 ["_law_one", "_law_other"] spGcd) : Cal P w K mg base "_law_ties" 2 ["_law_ranges"] spTies := by
  refine D.cal scLTies (fun vs H Q E h => ?_) (fun f cdv A outer s H vs Q E hr h => ?_)
  · obtain ⟨a, rs, rfl, _⟩ := h
    rfl
  · obtain ⟨a, rs, rfl, ha, g, q⟩ := h
    have hn8 := g.len
    refine ⟨_, pss_cons (ps_set (i := 1) scLTies.nd rfl (Or.inl rfl) (pe_callB c_len (by rfl) B.len PySem.boot_len (pa_cons (pv 0) pa_nil)))
      (pss_cons (ps_set (i := 2) scLTies.nd rfl (Or.inl rfl) (pe_lst pa_nil))
      (pss_cons (ps_for PassesOwn.never rfl (up1_run rfl B.range (pa_cons (pv 1) pa_nil)) (pg_name (i := 3) scLTies.nd rfl (Or.inr rfl))
        (pss_one (ps_expr (pe_bm PySem.F.plainAttrs_list PySem.F.slot_list_append PySem.F.type_list_append mt_append (pv 2) (pa_cons (pe_callB (c_sum rfl) (by rfl) B.sum (by decide +kernel) (pa_cons
          (pe_lc (own := [("_law_j", 4)]) (g := gName 4) rfl scLTies.nd (up1_run rfl B.range (pa_cons (pv 1) pa_nil)) (blkOk_by (own := [("_law_j", 4)]) (N := ["_law_ranges", "_law_size", "_law_masks", "_law_i", "_law_j"]) (sc := defScope (topS 54)) (by decide +kernel))
            (fun _ _ _ _ _ => pg_name (i := 4) scLTies.nd rfl (Or.inl rfl)) (fun _ _ _ _ _ => pts_one (PW.pt (pw_and (pt_cmpR n_ne (pv 3) (pv 4) (nomark _)) (pw_and1 (pt_cmpR n_gt (pe_cal c1 hr (by decide) (pa_cons (pe_ix ixt (pv 0) (pv 3) (fun _ _ => rfl)) (pa_cons (pe_ix ixt (pv 0) (pv 4) (fun _ _ => rfl)) pa_nil))) pe_int (nomark _))))))
            (fun _ _ _ _ _ => pe_op n_shl pe_int (pv 4))) pa_nil)) pa_nil)))))
      (pss_one (ps_ret (pv 2))))), ?_⟩
    refine ⟨_, rfl, a, nums rs, rs.length, rfl, .inr ha, nums_len _, Nat.zero_le _, fun p hp => ?_⟩
    refine ⟨_, rfl, rs.length, rfl, by omega, for_up0 (n := rs.length) (fun i σ H' => ∃ v3 ms, σ = [some (.ref a), some (.int ((rs.length : Nat) : Int)), some (.ref p), v3, none] ∧ Same H H' ∧ H' p = some (.lst (nums ms)) ∧ IsM i (tie rs) ms) ⟨none, [], rfl, same_new hp, upd_same, rfl, fun i hi => by omega⟩ ?_ ?_⟩
    · rintro i σ H' hi ⟨v3, ms, rfl, sm, hl, hm⟩
      have ha' := sm _ _ ha
      refine ⟨_, rfl, .inl ⟨rfl, _, SqL.of hl⟩, ?_⟩
      refine ⟨_, rfl, rs.length, rfl, by omega, fun d hd => lc_up0 (n := rs.length) (fun j H2 => Same H' H2 ∧ H2 d = some (.lst (nums (((List.range j).filter fun l => tie rs i l).map fun l => 2 ^ l)))) ⟨same_new hd, upd_same⟩ ?_ ?_⟩
      · rintro j H2 hj ⟨sm2, hl2⟩
        have ha2 := sm2 _ _ ha'
        have size : (nums (((List.range j).filter fun l => tie rs i l).map fun l => 2 ^ l)).length < sizeLine := by
          rw [nums_len, List.length_map]
          refine sz8 (Nat.le_trans (List.length_filter_le _ _) ?_)
          rw [List.length_range]
          omega
        refine ⟨rfl, ⟨_, rfl, _, rfl, i, j, rfl, rfl, !decide (i = j), rfl, ite2 (fun e => ?_) (fun e => ?_)⟩⟩
        · have e : i ≠ j := by simpa using e
          refine ⟨_, rfl, _, rfl, a, _, i, _, rfl, rfl, ha2, nums_get (rr_at hi), _, rfl, _, rfl, a, _, j, _, rfl, rfl, ha2, nums_get (rr_at hj), rr rs i, rr rs j, rfl, _, 1, rfl, rfl, _, rfl, ite2 (fun e2 => ?_) (fun e2 => ?_)⟩
          · have ht : tie rs i j = true := by
              have e2 : decide (1 < (rr rs i).gcd (rr rs j)) = true := e2
              unfold tie
              rw [e2]
              simp [e]
            refine ⟨_, rfl, 1, j, rfl, rfl, ⟨by decide, by omega⟩, _, hl2, size, same_mut sm2 hd, ?_⟩
            dsimp only
            rw [upd_same, nums_app, Nat.one_mul, List.range_succ, List.filter_append, List.map_append]
            simp [ht]
          · have ht : tie rs i j = false := by
              unfold tie
              have e : decide (1 < (rr rs i).gcd (rr rs j)) = false := by simpa using e2
              rw [e, Bool.and_false]
            refine ⟨sm2, ?_⟩
            rw [hl2, List.range_succ, List.filter_append, List.map_append]
            simp [ht]
        · have e : i = j := by simpa using e
          refine iteF ⟨sm2, ?_⟩
          rw [hl2, List.range_succ, List.filter_append, List.map_append]
          simp [e, tie_irr]
      · rintro H2 ⟨sm2, hl2⟩
        have nd : p ≠ d := ne_of_none hl hd
        refine ⟨d, _, rfl, hl2, p, _, _, rfl, rfl, sm2 _ _ hl, ?_, ?_⟩
        · rw [nums_len, hm.len]
          exact sz8 (by omega)
        · rw [sum_pows, nums_app]
          refine ⟨_, _, rfl, same_mut (sm.trans sm2) hp, upd_same, ?_, fun k hk l => ?_⟩
          · rw [List.length_append, hm.len]
            rfl
          · rw [List.getD_eq_getElem?_getD]
            by_cases e : k = i
            · subst e
              rw [List.getElem?_append_right (by rw [hm.len]; exact Nat.le_refl _), hm.len, Nat.sub_self]
              show (mk rs.length fun l => tie rs k l).testBit l = _
              rw [bit_mk]
              cases q : tie rs k l with
              | false => simp
              | true => simp [tie_lt k l q]
            · rw [List.getElem?_append_left (by rw [hm.len]; omega), ← List.getD_eq_getElem?_getD]
              exact hm.bit k (by omega) l
    · rintro σ H' ⟨v3, ms, rfl, sm, hl, hm⟩
      exact ⟨_, rfl, q H' p ms sm hp hl hm⟩
end
end WW

set_option Elab.async false
set_option linter.all false
set_option maxRecDepth 100000
set_option maxHeartbeats 4000000
/-! W4: best_group, graph_of, fewest_colours, least_depth -/
namespace WW
open PySem PySem.Spec PyProof.Rows L2
/-! ### the lowest bit; and not -/
def Low (m l : Nat) : Prop := m.testBit l = true ∧ ∀ i, i < l → m.testBit i = false
theorem low_ex : ∀ m : Nat, 0 < m → ∃ l, Low m l := by
  intro m hm
  have key : ∀ n, (∃ i, i < n ∧ m.testBit i = true) → ∃ l, Low m l := by
    intro n
    induction n with
    | zero => rintro ⟨i, hi, _⟩; omega
    | succ n ih =>
      rintro ⟨i, hi, hb⟩
      by_cases q : ∃ i, i < n ∧ m.testBit i = true
      · exact ih q
      · refine ⟨n, ?_, fun j hj => ?_⟩
        · have : i = n := by
            refine Decidable.byContradiction fun e => q ⟨i, by omega, hb⟩
          rw [← this]
          exact hb
        · cases e : m.testBit j with
          | false => rfl
          | true => exact (q ⟨j, hj, e⟩).elim
  obtain ⟨i, hi⟩ := Nat.exists_testBit_of_ne_zero (x := m) (by omega)
  exact key (i + 1) ⟨i, by omega, hi⟩
theorem low_form {m l : Nat} (h : Low m l) : ∃ a, m = 2 ^ l * (2 * a + 1) := by
  have hd : m % 2 ^ l = 0 := by
    refine Nat.eq_of_testBit_eq fun i => ?_
    rw [Nat.testBit_mod_two_pow, Nat.zero_testBit]
    by_cases q : i < l
    · rw [h.2 i q, Bool.and_false]
    · simp [q]
  have h1 := h.1
  rw [Nat.testBit_eq_decide_div_mod_eq, decide_eq_true_eq] at h1
  refine ⟨m / 2 ^ l / 2, ?_⟩
  have e1 : 2 * (m / 2 ^ l / 2) + 1 = m / 2 ^ l := by omega
  rw [e1]
  have := Nat.div_add_mod m (2 ^ l)
  omega
theorem low_and {m l : Nat} (h : Low m l) : Builtin.bitAnd (m : Int) (-(m : Int)) = ((2 ^ l : Nat) : Int) := by
  obtain ⟨a, e⟩ := low_form h
  have := PySem.W.kbt_low l (a : Int)
  have e2 : (m : Int) = 2 ^ l * (2 * (a : Int) + 1) := by
    rw [e, Int.natCast_mul, pow_cast]
    rfl
  rw [e2, this, pow_cast]
theorem and_halves (x y : Nat) : x &&& y = 2 * (x / 2 &&& y / 2) + (x % 2) * (y % 2) := by
  refine Nat.eq_of_testBit_eq fun i => ?_
  cases i with
  | zero =>
    rw [Nat.testBit_and]
    simp only [Nat.testBit_zero]
    have e1 : (2 * (x / 2 &&& y / 2) + (x % 2) * (y % 2)) % 2 = ((x % 2) * (y % 2)) % 2 := by omega
    rw [e1]
    rcases Nat.mod_two_eq_zero_or_one x with a | a <;> rcases Nat.mod_two_eq_zero_or_one y with b | b <;> simp [a, b]
  | succ i =>
    rw [Nat.testBit_and, Nat.testBit_add_one, Nat.testBit_add_one, Nat.testBit_add_one]
    have e1 : (2 * (x / 2 &&& y / 2) + (x % 2) * (y % 2)) / 2 = x / 2 &&& y / 2 := by
      rcases Nat.mod_two_eq_zero_or_one x with a | a <;> rcases Nat.mod_two_eq_zero_or_one y with b | b <;> simp only [a, b] <;> omega
    rw [e1, Nat.testBit_and]
theorem sub_and_bit : ∀ (i a b : Nat), (a - (a &&& b)).testBit i = (a.testBit i && !b.testBit i)
  | 0, a, b => by
    have hle : a / 2 &&& b / 2 ≤ a / 2 := Nat.and_le_left
    rw [and_halves a b]
    simp only [Nat.testBit_zero]
    rcases Nat.mod_two_eq_zero_or_one a with h | h <;> rcases Nat.mod_two_eq_zero_or_one b with h' | h' <;> rw [h, h'] <;> simp <;> omega
  | i + 1, a, b => by
    have hle : a / 2 &&& b / 2 ≤ a / 2 := Nat.and_le_left
    rw [Nat.testBit_add_one, Nat.testBit_add_one, Nat.testBit_add_one, ← sub_and_bit i (a / 2) (b / 2)]
    have : (a - (a &&& b)) / 2 = a / 2 - (a / 2 &&& b / 2) := by
      rw [and_halves a b]
      rcases Nat.mod_two_eq_zero_or_one a with h | h <;> rcases Nat.mod_two_eq_zero_or_one b with h' | h' <;> rw [h, h'] <;> omega
    rw [this]
theorem sub_and_xor (a b : Nat) : a - (a &&& b) = a ^^^ (a &&& b) := by
  refine Nat.eq_of_testBit_eq fun i => ?_
  rw [sub_and_bit, Nat.testBit_xor, Nat.testBit_and]
  cases a.testBit i <;> cases b.testBit i <;> rfl
section
variable {X : Cx}
theorem n_low : OpR X (binaryOp .BitAnd) (fun x y H Q => ∃ m l : Nat, x = .int (m : Int) ∧ y = .int (-(m : Int)) ∧ Low m l ∧ Q (.int ((2 ^ l : Nat) : Int)) H) := OpR.of op_and fun x y H Q ⟨m, l, e1, e2, h, q⟩ => ⟨(m : Int), -(m : Int), e1, e2, by
  dsimp only
  rw [low_and h]
  exact q⟩
theorem n_andnot : OpR X (binaryOp .BitAnd) (fun x y H Q => ∃ a b : Nat, x = .int (a : Int) ∧ y = .int (Builtin.bitNot (b : Int)) ∧ Q (.int ((a ^^^ (a &&& b) : Nat) : Int)) H) := OpR.of op_and fun x y H Q ⟨a, b, e1, e2, q⟩ => ⟨(a : Int), Builtin.bitNot (b : Int), e1, e2, by
  dsimp only
  rw [bitAnd_pn (Int.natCast_nonneg _) (by unfold Builtin.bitNot; omega), bitNot_bitNot, Int.toNat_natCast, Int.toNat_natCast, ← Int.ofNat_sub Nat.and_le_left, sub_and_xor]
  exact q⟩
end
theorem bits_two_pow (l : Nat) : Builtin.Int.intBits ((2 ^ l : Nat) : Int) = l + 1 := by
  rw [intBits_nat, if_neg (by have := Nat.two_pow_pos l; omega), Nat.log2_two_pow]
theorem top_bit {m : Nat} (h : 0 < m) : ∃ t, Builtin.Int.intBits (m : Int) = t + 1 ∧ m.testBit t = true ∧ m < 2 ^ (t + 1) := by
  refine ⟨m.log2, by rw [intBits_nat, if_neg (by omega)], Nat.testBit_log2 (by omega), Nat.lt_log2_self⟩
/-! ### a graph -/
structure Gr (n : Nat) (T : Rel) : Prop where
  sym : ∀ i j, T i j = T j i
  irr : ∀ i, T i i = false
  out : ∀ i j, T i j = true → j < n
theorem tie_gr (rs : List Nat) : Gr rs.length (tie rs) := ⟨tie_symm rs, tie_irr rs, tie_lt⟩
structure Gph (n : Nat) (T : Rel) (ms : List Nat) (cs : List Bool) : Prop where
  gr : Gr n T
  ms : IsM n T ms
  cl : cs.length = 2 ^ n
  cb : ∀ k, k < 2 ^ n → ∃ b, cs[k]? = some b ∧ (b = true ↔ Ind T k)
/-- the table's first L entries -/
def Tab (T : Rel) (tb : List Nat) (L : Nat) : Prop := ∀ k, k < L → ∃ x, tb[k]? = some x ∧ Chi T k x
structure Best (T : Rel) (m g : Nat) : Prop where
  sub : Sub g m
  one : ∃ l, g.testBit l = true
  ind : Ind T g
  chi : ∀ k, Chi T (m ^^^ g) k → Chi T m (k + 1)
theorem Best.lt {T : Rel} {m g : Nat} (h : Best T m g) : m ^^^ g < m := by
  obtain ⟨l, hl⟩ := h.one
  exact xor_lt h.sub hl
/-- what the search keeps -/
structure Seek (T : Rel) (tb : List Nat) (m l pool best group : Nat) : Prop where
  sub : Sub best m
  has : best.testBit l = true
  ind : Ind T best
  gp : Sub group pool
  min : ∀ s, Sub s pool → Ind T s → (group < s ∨ s = 0) → ∀ x y, tb[m ^^^ best]? = some x → tb[m ^^^ 2 ^ l ^^^ s]? = some y → x ≤ y
section
variable {n : Nat} {T : Rel} {tb : List Nat} {m l pool : Nat}
theorem pool_bit {ml i : Nat} (h : Low m l) (hml : ∀ j, ml.testBit j = T l j) : ((m ^^^ 2 ^ l) ^^^ ((m ^^^ 2 ^ l) &&& ml)).testBit i = true ↔ m.testBit i = true ∧ i ≠ l ∧ T l i = false := by
  rw [Nat.testBit_xor, Nat.testBit_and, Nat.testBit_xor, hml, Nat.testBit_two_pow]
  by_cases e : l = i
  · subst e
    simp [h.1]
  · have e' : i ≠ l := Ne.symm e
    simp only [e, decide_false, Bool.xor_false]
    cases m.testBit i <;> cases T l i <;> simp [e']
theorem two_bit (l i : Nat) : (2 ^ l).testBit i = true ↔ i = l := by
  rw [Nat.testBit_two_pow, decide_eq_true_eq]
  exact ⟨Eq.symm, Eq.symm⟩
theorem seek_start (g : Gr n T) (h : Low m l) : Seek T tb m l pool (2 ^ l) pool := by
  refine ⟨fun i hi => ?_, (two_bit l l).mpr rfl, fun i j hi hj => ?_, fun _ h => h, fun s hs _ hq x y hx hy => ?_⟩
  · rw [(two_bit l i).mp hi]
    exact h.1
  · rw [(two_bit l i).mp hi, (two_bit l j).mp hj]
    exact g.irr l
  · rcases hq with q | q
    · have := hs.le
      omega
    · subst q
      rw [Nat.xor_zero, hx] at hy
      rw [Option.some.inj hy]
      exact Nat.le_refl _
/-- a better group: with the dial l it is the new best -/
theorem seek_take (g : Gr n T) (h : Low m l) (hp : ∀ i, pool.testBit i = true → m.testBit i = true ∧ i ≠ l ∧ T l i = false) {best group : Nat} (k : Seek T tb m l pool best group) (hg : 0 < group) (hi : Ind T group) {x y : Nat} (hx : tb[m ^^^ best]? = some x) (hy : tb[m ^^^ 2 ^ l ^^^ group]? = some y) (hlt : y < x) :
    Seek T tb m l pool (group ||| 2 ^ l) ((group - 1) &&& pool) := by
  have e : m ^^^ (group ||| 2 ^ l) = m ^^^ 2 ^ l ^^^ group := by
    refine Nat.eq_of_testBit_eq fun i => ?_
    rw [Nat.testBit_xor, Nat.testBit_or, Nat.testBit_xor, Nat.testBit_xor]
    cases q : group.testBit i with
    | false => simp
    | true =>
      have a := hp i (k.gp i q)
      have : (2 ^ l).testBit i = false := by
        cases z : (2 ^ l).testBit i with
        | false => rfl
        | true => exact (a.2.1 ((two_bit l i).mp z)).elim
      rw [this, a.1]
      rfl
  refine ⟨fun i hi => ?_, ?_, fun i j hi' hj' => ?_, and_sub_right _ _, fun s hs is hq a b ha hb => ?_⟩
  · rw [Nat.testBit_or, Bool.or_eq_true] at hi
    rcases hi with q | q
    · exact (hp i (k.gp i q)).1
    · rw [(two_bit l i).mp q]
      exact h.1
  · rw [Nat.testBit_or, (two_bit l l).mpr rfl, Bool.or_true]
  · rw [Nat.testBit_or, Bool.or_eq_true] at hi' hj'
    rcases hi' with q | q <;> rcases hj' with q' | q'
    · exact hi i j q q'
    · rw [(two_bit l j).mp q', g.sym]
      exact (hp i (k.gp i q)).2.2
    · rw [(two_bit l i).mp q]
      exact (hp j (k.gp j q')).2.2
    · rw [(two_bit l i).mp q, (two_bit l j).mp q']
      exact g.irr l
  · rw [e, hy] at ha
    have ea : y = a := Option.some.inj ha
    have case1 : group < s ∨ s = 0 ∨ s = group := by
      rcases hq with q | q
      · by_cases z : s < group
        · have := sub_next pool s group hs k.gp z
          omega
        · omega
      · exact .inr (.inl q)
    rcases case1 with q | q | q
    · have := k.min s hs is (.inl q) x b hx hb
      omega
    · have := k.min s hs is (.inr q) x b hx hb
      omega
    · subst q
      rw [hy] at hb
      have := Option.some.inj hb
      omega
theorem seek_skip {best group : Nat} (k : Seek T tb m l pool best group) (hno : ¬ Ind T group ∨ ∀ x y, tb[m ^^^ best]? = some x → tb[m ^^^ 2 ^ l ^^^ group]? = some y → x ≤ y) : Seek T tb m l pool best ((group - 1) &&& pool) := by
  refine ⟨k.sub, k.has, k.ind, and_sub_right _ _, fun s hs is hq a b ha hb => ?_⟩
  by_cases z : s < group
  · have := sub_next pool s group hs k.gp z
    rcases hq with q | q
    · omega
    · exact k.min s hs is (.inr q) a b ha hb
  · by_cases e : s = group
    · subst e
      rcases hno with q | q
      · exact (q is).elim
      · exact q a b ha hb
    · exact k.min s hs is (.inl (by omega)) a b ha hb
theorem seek_end (g : Gr n T) (hm : m < 2 ^ n) (h : Low m l) (hp : ∀ i, pool.testBit i = true ↔ m.testBit i = true ∧ i ≠ l ∧ T l i = false) (ht : Tab T tb m) {best : Nat} (k : Seek T tb m l pool best 0) : Best T m best := by
  refine ⟨k.sub, ⟨l, k.has⟩, k.ind, fun c hc => chi_step hm k.sub k.has k.ind hc fun g' sg hl' ig c' hc' => ?_⟩
  have b1 : ∀ i, (g' ^^^ 2 ^ l).testBit i = true ↔ g'.testBit i = true ∧ i ≠ l := fun i => by
    rw [Nat.testBit_xor, Nat.testBit_two_pow]
    by_cases e : l = i
    · subst e
      simp [hl']
    · have e' : i ≠ l := Ne.symm e
      simp [e, e']
  have e1 : m ^^^ 2 ^ l ^^^ (g' ^^^ 2 ^ l) = m ^^^ g' := by
    rw [Nat.xor_comm g', ← Nat.xor_assoc, Nat.xor_assoc m, Nat.xor_self, Nat.xor_zero]
  obtain ⟨x, hx, cx⟩ := ht _ (xor_lt k.sub k.has)
  obtain ⟨y, hy, cy⟩ := ht _ (xor_lt sg hl')
  have := k.min (g' ^^^ 2 ^ l) (fun i hi => (hp i).mpr ⟨sg i ((b1 i).mp hi).1, ((b1 i).mp hi).2, ig l i hl' ((b1 i).mp hi).1⟩) (fun i j hi hj => ig i j ((b1 i).mp hi).1 ((b1 j).mp hj).1) (by omega) x y hx (by rw [e1]; exact hy)
  have h2 := cy.2 _ hc'
  rw [cx.uniq hc] at this
  omega
end
section
variable {P : Program} {w : World} {K : PySem.W.Frag} {mg : Str → Option Value} {base : Heap}
/-! ### best_group -/
def bls (cs : List Bool) : List V := cs.map V.bl
theorem bls_get {cs : List Bool} {i : Nat} {b : Bool} (h : cs[i]? = some b) : (bls cs)[i]? = some (.bl b) := by
  unfold bls
  rw [List.getElem?_map, h]
  rfl
def spBest : Sp := fun vs H Q _ => ∃ (am ac at' : Addr) (n : Nat) (T : Rel) (ms : List Nat) (cs : List Bool) (tb : List Nat) (m : Nat), vs = [.ref am, .ref ac, .ref at', .int (m : Int)] ∧
  H am = some (.lst (nums ms)) ∧ H ac = some (.lst (bls cs)) ∧ H at' = some (.lst (nums tb)) ∧ Gph n T ms cs ∧ Tab T tb m ∧ 0 < m ∧ m < 2 ^ n ∧ ∀ g, Best T m g → Q (.int (g : Int)) H
theorem scBest : FnScope ["masks", "calm", "table", "mask", "low", "pool", "best", "group"] ["masks", "calm", "table", "mask"] (defScope (topS 31)) := ⟨rfl, rfl, rfl, by decide +kernel, rfl, by decide +kernel, by decide +kernel⟩
theorem cal_best_group (D : Dfn K mg "best_group" (topS 31) ["masks", "calm", "table", "mask"]) : Cal P w K mg base "best_group" 1 ["masks", "calm", "table", "mask"] spBest := by
  refine D.cal scBest (fun vs H Q E h => ?_) (fun f cdv A outer s H vs Q E hr h => ?_)
  · obtain ⟨am, ac, at', n, T, ms, cs, tb, m, rfl, _⟩ := h
    rfl
  · obtain ⟨am, ac, at', n, T, ms, cs, tb, m, rfl, hm, hc, ht, G, TT, m0, mn, q⟩ := h
    refine ⟨_, pss_cons (ps_set (i := 4) scBest.nd rfl (Or.inl rfl) (pe_op n_low (pv 3) (pe_un un_neg (pv 3))))
      (pss_cons (ps_set (i := 5) scBest.nd rfl (Or.inl rfl) (pe_op n_andnot (pe_op n_xor (pv 3) (pv 4)) (pe_un un_inv (pe_ix ixl (pv 0) (pe_op n_sub (pe_bits (pv 4)) pe_int) (fun _ _ => rfl)))))
      (pss_cons (ps_set (i := 6) scBest.nd rfl (Or.inl rfl) (pv 4))
      (pss_cons (ps_set (i := 7) scBest.nd rfl (Or.inl rfl) (pv 5))
      (pss_cons (ps_while PassesOwn.never (pt_cmpR n_gt (pv 7) pe_int (nomark _))
        (pss_cons (ps_if (PW.pt (pw_and (pt_val (pe_ix ixl (pv 1) (pv 7) (fun _ _ => rfl))) (pw_and1 (pt_cmpR n_lt (pe_ix ixl (pv 2) (pe_op n_xor (pe_op n_xor (pv 3) (pv 4)) (pv 7)) (fun _ _ => rfl)) (pe_ix ixl (pv 2) (pe_op n_xor (pv 3) (pv 6)) (fun _ _ => rfl)) (nomark _)))))
          (pss_one (ps_set (i := 6) scBest.nd rfl (Or.inl rfl) (pe_op n_or (pv 7) (pv 4)))) pss_nil)
        (pss_one (ps_set (i := 7) scBest.nd rfl (Or.inl rfl) (pe_op n_and (pe_op n_sub (pv 7) pe_int) (pv 5))))))
      (pss_one (ps_ret (pv 6))))))), ?_⟩
    obtain ⟨l, hl⟩ := low_ex m m0
    have hln : l < n := bit_lt mn hl.1
    obtain ⟨ml, g1, b1⟩ := G.ms.at hln
    refine ⟨_, rfl, _, rfl, (m : Int), rfl, m, l, rfl, rfl, hl, ?_⟩
    refine ⟨_, rfl, _, rfl, m, 2 ^ l, rfl, rfl, _, rfl, _, rfl, (((2 ^ l : Nat)) : Int), rfl, Builtin.Int.intBits ((2 ^ l : Nat) : Int), 1, rfl, rfl, by rw [bits_two_pow]; exact Nat.le_add_left 1 l, am, _, Builtin.Int.intBits ((2 ^ l : Nat) : Int) - 1, _, rfl, rfl, hm, nums_get (by rw [bits_two_pow]; exact g1), (ml : Int), rfl, m ^^^ 2 ^ l, ml, rfl, rfl, ?_⟩
    refine ⟨_, rfl, _, rfl, ?_⟩
    have hp : ∀ i, ((m ^^^ 2 ^ l) ^^^ ((m ^^^ 2 ^ l) &&& ml)).testBit i = true ↔ m.testBit i = true ∧ i ≠ l ∧ T l i = false := fun i => pool_bit hl b1
    generalize hpool : (m ^^^ 2 ^ l) ^^^ ((m ^^^ 2 ^ l) &&& ml) = pool at hp
    have hpm : Sub pool m := fun i hi => ((hp i).mp hi).1
    refine ⟨fun u σ H' => ∃ best : Nat, σ = [some (.ref am), some (.ref ac), some (.ref at'), some (.int (m : Int)), some (.int ((2 ^ l : Nat) : Int)), some (.int (pool : Int)), some (.int (best : Int)), some (.int (u : Int))] ∧ Seek T tb m l pool best u ∧ H' = H, ⟨pool, 2 ^ l, rfl, seek_start G.gr hl, rfl⟩, ?_⟩
    rintro u σ H' ⟨best, rfl, sk, rfl⟩
    refine ⟨_, rfl, u, 0, rfl, rfl, _, rfl, ite2 (fun e => ?_) (fun e => ?_)⟩
    · have hu : 0 < u := of_decide_eq_true e
      have hum : u ≤ m := by
        have := sk.gp.le
        have := hpm.le
        omega
      obtain ⟨b, hb, ib⟩ := G.cb u (by omega)
      have hlow : m ^^^ 2 ^ l ^^^ u < m := by
        have s2 : Sub (m ^^^ 2 ^ l ^^^ u) (m ^^^ 2 ^ l) := fun i hi => by
          rw [Nat.testBit_xor] at hi
          cases z : u.testBit i with
          | false =>
            rw [z, Bool.xor_false] at hi
            exact hi
          | true =>
            have a := (hp i).mp (sk.gp i z)
            rw [Nat.testBit_xor, a.1, Nat.testBit_two_pow]
            have : ¬ l = i := fun e => a.2.1 e.symm
            simp [this]
        have := s2.le
        have := xor_lt (m := m) (g := 2 ^ l) (l := l) (fun i hi => by rw [(two_bit l i).mp hi]; exact hl.1) ((two_bit l l).mpr rfl)
        omega
      obtain ⟨y, hy, cy⟩ := TT _ hlow
      obtain ⟨x, hx, cx⟩ := TT _ (xor_lt sk.sub sk.has)
      refine ⟨_, fun σ2 H2 h => h, ?_⟩
      refine ⟨_, rfl, _, rfl, ac, _, u, _, rfl, rfl, hc, bls_get hb, b, rfl, ite2 (fun e2 => ?_) (fun e2 => ?_)⟩
      · refine ⟨_, rfl, _, rfl, _, rfl, m, 2 ^ l, rfl, rfl, _, rfl, m ^^^ 2 ^ l, u, rfl, rfl, at', _, m ^^^ 2 ^ l ^^^ u, _, rfl, rfl, ht, nums_get hy, ?_⟩
        refine ⟨_, rfl, _, rfl, _, rfl, m, best, rfl, rfl, at', _, m ^^^ best, _, rfl, rfl, ht, nums_get hx, y, x, rfl, rfl, _, rfl, ite2 (fun e3 => ?_) (fun e3 => ?_)⟩
        · have e3 : y < x := of_decide_eq_true e3
          refine ⟨_, rfl, _, rfl, u, 2 ^ l, rfl, rfl, ?_⟩
          exact ⟨_, rfl, u, 1, rfl, rfl, hu, _, rfl, u - 1, pool, rfl, rfl, _, and_lt hu, _, rfl, seek_take G.gr hl (fun i => (hp i).mp) sk hu (ib.mp e2) hx hy e3, rfl⟩
        · have e3 : ¬ y < x := fun z => e3 (decide_eq_true z)
          refine ⟨_, rfl, u, 1, rfl, rfl, hu, _, rfl, u - 1, pool, rfl, rfl, _, and_lt hu, _, rfl, seek_skip sk (.inr fun a b ha hb' => ?_), rfl⟩
          rw [hx] at ha
          rw [hy] at hb'
          have := Option.some.inj ha
          have := Option.some.inj hb'
          omega
      · refine iteF ?_
        exact ⟨_, rfl, u, 1, rfl, rfl, hu, _, rfl, u - 1, pool, rfl, rfl, _, and_lt hu, _, rfl, seek_skip sk (.inl fun z => e2 (ib.mpr z)), rfl⟩
    · have hu : u = 0 := by
        have : ¬ 0 < u := fun h => e (decide_eq_true h)
        omega
      subst hu
      exact ⟨_, rfl, q best (seek_end G.gr mn hl hp TT sk)⟩
end
end WW

set_option Elab.async false
set_option linter.all false
set_option maxRecDepth 100000
set_option maxHeartbeats 4000000
/-! W5: graph_of, fewest_colours, least_depth, coloured, colouring_of -/
namespace WW
open PySem PySem.Spec PyProof.Rows L2
/-! ### operators whose result is told by an equation -/
def rX (C : Nat → Nat → Prop) (g : Nat → Nat → Nat) : R2 := fun x y H Q => ∃ a b c : Nat, x = .int (a : Int) ∧ y = .int (b : Int) ∧ C a b ∧ g a b = c ∧ Q (.int (c : Int)) H
def rX0 (g : Nat → Nat → Nat) : R2 := fun x y H Q => ∃ a b c : Nat, x = .int (a : Int) ∧ y = .int (b : Int) ∧ g a b = c ∧ Q (.int (c : Int)) H
theorem OpR.x {X : Cx} {f : Value → Value → Sem Value} {C : Nat → Nat → Prop} {g : Nat → Nat → Nat} (h : OpR X f (rN C g)) : OpR X f (rX C g) := OpR.of h fun x y H Q ⟨a, b, c, e1, e2, hc, e, q⟩ => ⟨a, b, e1, e2, hc, by rw [e]; exact q⟩
theorem OpR.x0 {X : Cx} {f : Value → Value → Sem Value} {g : Nat → Nat → Nat} (h : OpR X f (rN0 g)) : OpR X f (rX0 g) := OpR.of h fun x y H Q ⟨a, b, c, e1, e2, e, q⟩ => ⟨a, b, e1, e2, by rw [e]; exact q⟩
theorem x_shl {X : Cx} : OpR X (binaryOp .LShift) (rX (fun a b => a < 2 ^ 64 ∧ b ≤ 1000000) fun a b => a * 2 ^ b) := OpR.x n_shl
theorem x_sub {X : Cx} : OpR X (binaryOp .Sub) (rX (fun a b => b ≤ a) fun a b => a - b) := OpR.x n_sub
theorem x_add {X : Cx} : OpR X (binaryOp .Add) (rX0 fun a b => a + b) := OpR.x0 n_add
theorem x_mul {X : Cx} : OpR X (binaryOp .Mult) (rX (fun a b => a < 2 ^ 9000 ∧ b < 2 ^ 9000) fun a b => a * b) := OpR.x n_mul
theorem x_div {X : Cx} : OpR X (binaryOp .FloorDiv) (rX (fun _ b => 0 < b ∧ b < 2 ^ 9000) fun a b => a / b) := OpR.x n_div
theorem x_mod {X : Cx} : OpR X (binaryOp .Mod) (rX (fun _ b => 0 < b) fun a b => a % b) := OpR.x n_mod
theorem x_xor {X : Cx} : OpR X (binaryOp .BitXor) (rX0 fun a b => a ^^^ b) := OpR.x0 n_xor
theorem x_or {X : Cx} : OpR X (binaryOp .BitOr) (rX0 fun a b => a ||| b) := OpR.x0 n_or
theorem x_and {X : Cx} : OpR X (binaryOp .BitAnd) (rX0 fun a b => a &&& b) := OpR.x0 n_and
theorem x_shr {X : Cx} : OpR X (binaryOp .RShift) (rX0 fun a b => a / 2 ^ b) := OpR.x0 n_shr
theorem n_ipadd {X : Cx} : PIp X .Add (fun x y H Q => ∃ a b : Nat, x = .int (a : Int) ∧ y = .int (b : Int) ∧ Q (.int ((a + b : Nat) : Int)) H) := fun pins s σ H x y v u Q I rx ry ⟨a, b, e1, e2, q⟩ =>
  ip_add pins s σ H x y v u Q I rx ry ⟨(a : Int), (b : Int), e1, e2, by dsimp only; rw [← Int.natCast_add]; exact q⟩
theorem pow8 {n : Nat} (h : n ≤ 8) : 2 ^ n ≤ 256 := pow_le h
/-- a graph as it lies -/
structure GraphAt (H : Hp) (p : Addr) (n : Nat) (T : Rel) (ms : List Nat) (cs : List Bool) (tb : List Nat) : Prop where
  at_ : ∃ am ac at' : Addr, H p = some (.tup [.ref am, .ref ac, .ref at']) ∧ H am = some (.lst (nums ms)) ∧ H ac = some (.lst (bls cs)) ∧ H at' = some (.lst (nums tb))
  g : Gph n T ms cs
  tab : Tab T tb (2 ^ n)
  tl : tb.length = 2 ^ n
theorem bls_app (cs : List Bool) (b : Bool) : bls cs ++ [.bl b] = bls (cs ++ [b]) := by
  unfold bls
  rw [List.map_append]
  rfl
theorem bls_len (cs : List Bool) : (bls cs).length = cs.length := by
  unfold bls
  rw [List.length_map]
/-- the calm table's first entries -/
def Clm (T : Rel) (cs : List Bool) (L : Nat) : Prop := cs.length = L ∧ ∀ k, k < L → ∃ b, cs[k]? = some b ∧ (b = true ↔ Ind T k)
theorem Clm.next {T : Rel} {cs : List Bool} {L : Nat} (h : Clm T cs L) {b : Bool} (hb : b = true ↔ Ind T L) : Clm T (cs ++ [b]) (L + 1) := by
  refine ⟨by rw [List.length_append, h.1]; rfl, fun k hk => ?_⟩
  by_cases e : k = L
  · subst e
    exact ⟨b, by rw [List.getElem?_append_right (by rw [h.1]; exact Nat.le_refl _), h.1, Nat.sub_self]; rfl, hb⟩
  · obtain ⟨b', h1, h2⟩ := h.2 k (by omega)
    exact ⟨b', by rw [List.getElem?_append_left (by rw [h.1]; omega)]; exact h1, h2⟩
theorem Tab.next {T : Rel} {tb : List Nat} {L x : Nat} (h : Tab T tb L) (hl : tb.length = L) (hx : Chi T L x) : Tab T (tb ++ [x]) (L + 1) := fun k hk => by
  by_cases e : k = L
  · subst e
    exact ⟨x, by rw [List.getElem?_append_right (by omega), hl, Nat.sub_self]; rfl, hx⟩
  · obtain ⟨b', h1, h2⟩ := h k (by omega)
    exact ⟨b', by rw [List.getElem?_append_left (by omega)]; exact h1, h2⟩
theorem ind_zero (T : Rel) : Ind T 0 := fun i j h => by simp at h
theorem top_split {m t : Nat} (ht : m.testBit t = true) (i : Nat) : m.testBit i = true ↔ i = t ∨ (m ^^^ 2 ^ t).testBit i = true := by
  rw [Nat.testBit_xor, Nat.testBit_two_pow]
  by_cases e : t = i
  · subst e
    simp [ht]
  · have e' : i ≠ t := Ne.symm e
    simp [e, e']
section
variable {P : Program} {w : World} {K : PySem.W.Frag} {mg : Str → Option Value} {base : Heap}
/-! ### graph_of -/
def spGraph : Sp := fun vs H Q _ => ∃ (a : Addr) (rs : List Nat), vs = [.ref a] ∧ H a = some (.tup (nums rs)) ∧ Rgs rs ∧ ∀ H' p ms cs tb, Same H H' → GraphAt H' p rs.length (tie rs) ms cs tb → Q (.ref p) H'
theorem scGraph : FnScope ["ranges", "masks", "calm", "table", "mask", "top", "rest"] ["ranges"] (defScope (topS 30)) := ⟨rfl, rfl, rfl, by decide +kernel, rfl, by decide +kernel, by decide +kernel⟩
theorem cal_graph_of (D : Dfn K mg "graph_of" (topS 30) ["ranges"]) (B : Blt mg) (c1 : Cal P w K mg base "tie_masks" 4 ["ranges"] spTies) (c2 : Cal P w K mg base "best_group" 1 ["masks", "calm", "table", "mask"] spBest) : Cal P w K mg base "graph_of" 5 ["ranges"] spGraph := by
  refine D.cal scGraph (fun vs H Q E h => ?_) (fun f cdv A outer s H vs Q E hr h => ?_)
  · obtain ⟨a, rs, rfl, _⟩ := h
    rfl
  · obtain ⟨a, rs, rfl, ha, g, q⟩ := h
    refine ⟨_, pss_cons (ps_set (i := 1) scGraph.nd rfl (Or.inl rfl) (pe_cal c1 hr (by decide) (pa_cons (pv 0) pa_nil)))
      (pss_cons (ps_par (i := 2) (j := 3) rfl scGraph.nd rfl rfl (by decide) rfl rfl (pa_cons (pe_lst (pa_cons pe_bl pa_nil)) (pa_cons (pe_lst (pa_cons pe_int pa_nil)) pa_nil)) (by rfl))
      (pss_cons (ps_for PassesOwn.never rfl (up2_run rfl B.range (pa_cons pe_int (pa_cons (pe_op x_shl pe_int (pe_callB c_len (by rfl) B.len PySem.boot_len (pa_cons (pv 0) pa_nil))) pa_nil))) (pg_name (i := 4) scGraph.nd rfl (Or.inl rfl))
        (pss_cons (ps_set (i := 5) scGraph.nd rfl (Or.inl rfl) (pe_op x_sub (pe_bits (pv 4)) pe_int))
        (pss_cons (ps_set (i := 6) scGraph.nd rfl (Or.inl rfl) (pe_op n_xor (pv 4) (pe_op x_shl pe_int (pv 5))))
        (pss_one (ps_expr (pe_bm PySem.F.plainAttrs_list PySem.F.slot_list_append PySem.F.type_list_append mt_append (pv 2) (pa_cons (pe_and (pe_ix ixl (pv 2) (pv 6) (fun _ _ => rfl)) (pe_one (pe_cmpR n_eq (pe_op n_and (pe_ix ixl (pv 1) (pv 5) (fun _ _ => rfl)) (pv 6)) pe_int (nomark _)))) pa_nil)))))))
      (pss_cons (ps_for PassesOwn.never rfl (up2_run rfl B.range (pa_cons pe_int (pa_cons (pe_op x_shl pe_int (pe_callB c_len (by rfl) B.len PySem.boot_len (pa_cons (pv 0) pa_nil))) pa_nil))) (pg_name (i := 4) scGraph.nd rfl (Or.inl rfl))
        (pss_one (ps_expr (pe_bm PySem.F.plainAttrs_list PySem.F.slot_list_append PySem.F.type_list_append mt_append (pv 3) (pa_cons (pe_op n_add (pe_ix ixl (pv 3) (pe_op n_xor (pv 4) (pe_cal c2 hr (by decide) (pa_cons (pv 1) (pa_cons (pv 2) (pa_cons (pv 3) (pa_cons (pv 4) pa_nil)))))) (fun _ _ => rfl)) pe_int) pa_nil)))))
      (pss_one (ps_ret (pe_tup (pa_cons (pv 1) (pa_cons (pv 2) (pa_cons (pv 3) pa_nil))))))))), ?_⟩
    have hn8 := g.len
    have h256 := pow8 hn8
    have hpos : 0 < 2 ^ rs.length := Nat.two_pow_pos _
    refine ⟨_, rfl, a, rs, rfl, ha, g, fun H1 am ms sm1 fm hm IM => ?_⟩
    refine ⟨by show 1 ≤ sizeLine; decide, fun ac fc => ⟨by show 1 ≤ sizeLine; decide, fun at' ft => ⟨_, _, rfl, ?_⟩⟩⟩
    have sm2 : Same H1 (upd H1 ac (.lst [.bl true])) := same_new fc
    have sm3 : Same (upd H1 ac (.lst [.bl true])) (upd (upd H1 ac (.lst [.bl true])) at' (.lst [.int 0])) := same_new ft
    have nac : ac ≠ at' := ne_of_none (o := .lst [.bl true]) upd_same ft
    have nam : am ≠ ac := ne_of_none hm fc
    have namt : am ≠ at' := ne_of_none (sm2 _ _ hm) ft
    have fc0 : H ac = none := sm1.free fc
    have ft0 : H at' = none := (sm1.trans sm2).free ft
    have hm3 := sm3 _ _ (sm2 _ _ hm)
    have sm := (sm1.trans sm2).trans sm3
    -- the calm table
    refine ⟨_, rfl, a, nums rs, rs.length, rfl, .inr (sm _ _ ha), nums_len _, 1, rs.length, 2 ^ rs.length, rfl, rfl, ⟨by decide, by omega⟩, Nat.one_mul _, 1, 2 ^ rs.length, rfl, by decide, by omega, ?_⟩
    refine for_up (lo := 1) (n := 2 ^ rs.length - 1) (fun i σ H' => ∃ v4 v5 v6 cs, σ = [some (.ref a), some (.ref am), some (.ref ac), some (.ref at'), v4, v5, v6] ∧ Same H H' ∧ H' am = some (.lst (nums ms)) ∧ H' ac = some (.lst (bls cs)) ∧ H' at' = some (.lst (nums [0])) ∧ Clm (tie rs) cs (i + 1))
      ⟨none, none, none, [true], rfl, sm, hm3, ?_, upd_same, rfl, fun k hk => ?_⟩ ?_ ?_
    · rw [upd_ne nac, upd_same]
      rfl
    · have : k = 0 := by omega
      subst this
      exact ⟨true, rfl, ⟨fun _ => ind_zero _, fun _ => rfl⟩⟩
    · rintro i σ H' hi ⟨v4, v5, v6, cs, rfl, sm', hm', hc', ht', C⟩
      obtain ⟨t, et, bt', lt'⟩ := top_bit (m := 1 + i) (by omega)
      have htn : t < rs.length := bit_lt (m := 1 + i) (by omega) bt'
      have e1 : Builtin.Int.intBits (((1 + i : Nat)) : Int) - 1 = t := by omega
      obtain ⟨mt, gt, bmt⟩ := IM.at htn
      have hrest : (1 + i) ^^^ 2 ^ t < 1 + i := xor_lt (l := t) (fun k hk => by rw [(two_bit t k).mp hk]; exact bt') ((two_bit t t).mpr rfl)
      obtain ⟨b, hb, ib⟩ := C.2 ((1 + i) ^^^ 2 ^ t) (by omega)
      refine ⟨_, rfl, (((1 + i : Nat)) : Int), rfl, Builtin.Int.intBits (((1 + i : Nat)) : Int), 1, t, rfl, rfl, by omega, e1, ?_⟩
      refine ⟨_, rfl, _, rfl, 1, t, 2 ^ t, rfl, rfl, ⟨by decide, by omega⟩, Nat.one_mul _, 1 + i, 2 ^ t, rfl, rfl, ?_⟩
      have key : (b && decide (mt &&& ((1 + i) ^^^ 2 ^ t) = 0)) = true ↔ Ind (tie rs) (i + 1) := by
        rw [Nat.add_comm i 1, ind_split (tie_symm rs) (tie_irr rs) (top_split bt'), Bool.and_eq_true, decide_eq_true_eq, ib, and_zero_iff]
        refine and_congr_right fun _ => ⟨fun h j hj => ?_, fun h j hj => ?_⟩
        · cases z : tie rs t j with
          | false => rfl
          | true =>
            have := h j (by rw [bmt]; exact z)
            rw [hj] at this
            cases this
        · cases z : ((1 + i) ^^^ 2 ^ t).testBit j with
          | false => rfl
          | true =>
            have := h j z
            rw [← bmt, hj] at this
            cases this
      have fin : ∀ b', b' = (b && decide (mt &&& ((1 + i) ^^^ 2 ^ t) = 0)) → ∃ v4 v5 v6 cs', [some (V.ref a), some (.ref am), some (.ref ac), some (.ref at'), some (.int (((1 + i : Nat)) : Int)), some (.int (t : Int)), some (.int ((((1 + i) ^^^ 2 ^ t : Nat)) : Int))] = [some (V.ref a), some (.ref am), some (.ref ac), some (.ref at'), v4, v5, v6] ∧ Same H (upd H' ac (.lst (bls cs ++ [.bl b']))) ∧ (upd H' ac (.lst (bls cs ++ [.bl b']))) am = some (.lst (nums ms)) ∧ (upd H' ac (.lst (bls cs ++ [.bl b']))) ac = some (.lst (bls cs')) ∧ (upd H' ac (.lst (bls cs ++ [.bl b']))) at' = some (.lst (nums [0])) ∧ Clm (tie rs) cs' (i + 1 + 1) := fun b' e => by
        refine ⟨_, _, _, cs ++ [b'], rfl, same_mut sm' fc0, by rw [upd_ne nam]; exact hm', by rw [upd_same, bls_app], by rw [upd_ne nac.symm]; exact ht', C.next (by rw [e]; exact key)⟩
      have size : (bls cs).length < sizeLine := by
        rw [bls_len, C.1]
        exact sz8 (by omega)
      refine ⟨_, rfl, .inl ⟨rfl, _, SqL.of hc'⟩, ?_⟩
      refine ⟨_, rfl, _, rfl, ac, _, (1 + i) ^^^ 2 ^ t, _, rfl, rfl, hc', bls_get hb, b, rfl, ite2 (fun e => ?_) (fun e => ?_)⟩
      · refine ⟨_, rfl, _, rfl, am, _, t, _, rfl, rfl, hm', nums_get gt, _, rfl, mt, (1 + i) ^^^ 2 ^ t, rfl, rfl, mt &&& ((1 + i) ^^^ 2 ^ t), 0, rfl, rfl, ac, _, _, rfl, rfl, hc', size, ?_⟩
        exact fin _ (by rw [e, Bool.true_and])
      · refine ⟨ac, _, _, rfl, rfl, hc', size, ?_⟩
        have e : b = false := by simpa using e
        exact fin _ (by rw [e, Bool.false_and])
    · rintro σ H' ⟨v4, v5, v6, cs, rfl, sm', hm', hc', ht', C⟩
      rw [show 2 ^ rs.length - 1 + 1 = 2 ^ rs.length by omega] at C
      have G : Gph rs.length (tie rs) ms cs := ⟨tie_gr rs, IM, C.1, C.2⟩
      -- the table of colours
      refine ⟨_, rfl, a, nums rs, rs.length, rfl, .inr (sm' _ _ ha), nums_len _, 1, rs.length, 2 ^ rs.length, rfl, rfl, ⟨by decide, by omega⟩, Nat.one_mul _, 1, 2 ^ rs.length, rfl, by decide, by omega, ?_⟩
      refine for_up (lo := 1) (n := 2 ^ rs.length - 1) (fun i σ H' => ∃ v4 tb, σ = [some (.ref a), some (.ref am), some (.ref ac), some (.ref at'), v4, v5, v6] ∧ Same H H' ∧ H' am = some (.lst (nums ms)) ∧ H' ac = some (.lst (bls cs)) ∧ H' at' = some (.lst (nums tb)) ∧ Tab (tie rs) tb (i + 1) ∧ tb.length = i + 1)
        ⟨v4, [0], rfl, sm', hm', hc', ht', fun k hk => ?_, rfl⟩ ?_ ?_
      · have : k = 0 := by omega
        subst this
        exact ⟨0, rfl, chi_zero _⟩
      · rintro i σ H2 hi ⟨v4, tb, rfl, sm2', hm2, hc2, ht2, TT, tl⟩
        refine ⟨_, rfl, .inl ⟨rfl, _, SqL.of ht2⟩, ?_⟩
        refine ⟨_, rfl, _, rfl, _, rfl, _, rfl, _, rfl, _, rfl, am, ac, at', rs.length, tie rs, ms, cs, tb, 1 + i, rfl, hm2, hc2, ht2, G, fun k hk => TT k (by omega), by omega, by omega, fun gr hb => ?_⟩
        obtain ⟨x, hx, cx⟩ := TT _ (show (1 + i) ^^^ gr < i + 1 by have := hb.lt; omega)
        refine ⟨1 + i, gr, rfl, rfl, at', _, (1 + i) ^^^ gr, _, rfl, rfl, ht2, nums_get hx, x, 1, rfl, rfl, at', _, _, rfl, rfl, ht2, ?_, ?_⟩
        · rw [nums_len, tl]
          exact sz8 (by omega)
        · refine ⟨_, tb ++ [x + 1], rfl, same_mut sm2' ft0, by rw [upd_ne namt]; exact hm2, by rw [upd_ne nac]; exact hc2, ?_, ?_, by rw [List.length_append, tl]; rfl⟩
          · rw [upd_same, nums_app]
          · refine TT.next tl ?_
            have := hb.chi x cx
            rw [Nat.add_comm 1 i] at this
            exact this
      · rintro σ H2 ⟨v4, tb, rfl, sm2', hm2, hc2, ht2, TT, tl⟩
        rw [show 2 ^ rs.length - 1 + 1 = 2 ^ rs.length by omega] at TT tl
        refine ⟨_, rfl, _, rfl, _, rfl, by show 3 ≤ sizeLine; decide, fun p hp => ?_⟩
        have s4 : Same H2 (upd H2 p (.tup [.ref am, .ref ac, .ref at'])) := same_new hp
        exact q _ p ms cs tb (sm2'.trans s4) ⟨⟨am, ac, at', upd_same, s4 _ _ hm2, s4 _ _ hc2, s4 _ _ ht2⟩, G, TT, tl⟩
/-! ### fewest_colours, least_depth -/
def spFew : Sp := fun vs H Q _ => ∃ (a : Addr) (rs : List Nat), vs = [.ref a] ∧ H a = some (.tup (nums rs)) ∧ Rgs rs ∧ ∀ H' (k : Nat), Same H H' → Chi (tie rs) (full rs.length) k → Q (.int (k : Int)) H'
theorem scFew : FnScope ["ranges", "table"] ["ranges"] (defScope (topS 35)) := ⟨rfl, rfl, rfl, by decide +kernel, rfl, by decide +kernel, by decide +kernel⟩
theorem cal_fewest (D : Dfn K mg "fewest_colours" (topS 35) ["ranges"]) (B : Blt mg) (c1 : Cal P w K mg base "graph_of" 5 ["ranges"] spGraph) : Cal P w K mg base "fewest_colours" 6 ["ranges"] spFew := by
  refine D.cal scFew (fun vs H Q E h => ?_) (fun f cdv A outer s H vs Q E hr h => ?_)
  · obtain ⟨a, rs, rfl, _⟩ := h
    rfl
  · obtain ⟨a, rs, rfl, ha, g, q⟩ := h
    refine ⟨_, pss_cons (ps_set (i := 1) scFew.nd rfl (Or.inl rfl) (pe_ix ixt (pe_cal c1 hr (by decide) (pa_cons (pv 0) pa_nil)) pe_int (fun _ _ => rfl)))
      (pss_one (ps_ret (pe_ix ixl (pv 1) (pe_op n_sub (pe_callB c_len (by rfl) B.len PySem.boot_len (pa_cons (pv 1) pa_nil)) pe_int) (fun _ _ => rfl)))), ?_⟩
    refine ⟨_, rfl, a, rs, rfl, ha, g, fun H1 p ms cs tb sm G => ?_⟩
    obtain ⟨am, ac, at', hp, hm, hc, ht⟩ := G.at_
    have hpos : 0 < 2 ^ rs.length := Nat.two_pow_pos _
    obtain ⟨x, hx, cx⟩ := G.tab (2 ^ rs.length - 1) (by omega)
    refine ⟨p, _, 2, _, rfl, rfl, hp, rfl, ?_⟩
    exact ⟨_, rfl, _, rfl, at', _, 2 ^ rs.length, rfl, .inl ht, by rw [nums_len]; exact G.tl, 2 ^ rs.length, 1, rfl, rfl, hpos, at', _, 2 ^ rs.length - 1, _, rfl, rfl, ht, nums_get hx, q H1 x sm cx⟩
def spLeast : Sp := fun vs H Q _ => ∃ (a : Addr) (rs : List Nat), vs = [.ref a] ∧ H a = some (.tup (nums rs)) ∧ Rgs rs ∧ ∀ H' (k : Nat), Same H H' → Chi (tie rs) (full rs.length) k → Q (.int ((k - 1 : Nat) : Int)) H'
theorem scLeast : FnScope ["ranges"] ["ranges"] (defScope (topS 42)) := ⟨rfl, rfl, rfl, by decide +kernel, rfl, by decide +kernel, by decide +kernel⟩
theorem cal_least (D : Dfn K mg "least_depth" (topS 42) ["ranges"]) (B : Blt mg) (c1 : Cal P w K mg base "fewest_colours" 6 ["ranges"] spFew) : Cal P w K mg base "least_depth" 7 ["ranges"] spLeast := by
  refine D.cal scLeast (fun vs H Q E h => ?_) (fun f cdv A outer s H vs Q E hr h => ?_)
  · obtain ⟨a, rs, rfl, _⟩ := h
    rfl
  · obtain ⟨a, rs, rfl, ha, g, q⟩ := h
    refine ⟨_, pss_one (ps_ret (pe_callB (call_max2 rfl) (by rfl) B.max (by decide +kernel) (pa_cons pe_int (pa_cons (pe_op op_sub (pe_cal c1 hr (by decide) (pa_cons (pv 0) pa_nil)) pe_int) pa_nil)))), ?_⟩
    refine ⟨_, rfl, a, rs, rfl, ha, g, fun H1 k sm hk => ⟨(k : Int), 1, rfl, rfl, 0, (k : Int) - 1, rfl, ?_⟩⟩
    have e : (if (k : Int) - 1 > 0 then (k : Int) - 1 else 0) = ((k - 1 : Nat) : Int) := by
      split <;> omega
    rw [e]
    exact q H1 k sm hk
end
end WW

set_option Elab.async false
set_option linter.all false
set_option maxRecDepth 100000
set_option maxHeartbeats 4000000
/-! W6: coloured, colouring_of -/
namespace WW
open PySem PySem.Spec PyProof.Rows L2
/-- a colouring with fewer colours than k -/
structure Clr (n : Nat) (T : Rel) (c : Nat → Nat) : Prop where
  lt : ∀ k, Chi T (full n) k → ∀ i, i < n → c i < k
  ne : ∀ i j, i < n → j < n → T i j = true → c i ≠ c j
structure Part (n : Nat) (T : Rel) (u col : Nat) (c : Nat → Nat) : Prop where
  sub : Sub u (full n)
  chi : ∃ x, Chi T u x ∧ ∀ k, Chi T (full n) k → k = x + col
  lt : ∀ i, i < n → u.testBit i = false → c i < col
  ne : ∀ i j, i < n → j < n → u.testBit i = false → u.testBit j = false → T i j = true → c i ≠ c j
theorem part_start {n : Nat} {T : Rel} {x : Nat} (h : Chi T (full n) x) (c : Nat → Nat) : Part n T (full n) 0 c :=
  ⟨fun _ h => h, ⟨x, h, fun k hk => by rw [hk.uniq h]; rfl⟩, fun i hi q => by rw [full_bit] at q; simp [hi] at q, fun i j hi _ q => by rw [full_bit] at q; simp [hi] at q⟩
theorem part_step {n : Nat} {T : Rel} (hT : ∀ i j, T i j = T j i) {u col gr y : Nat} {c c' : Nat → Nat} (h : Part n T u col c) (b : Best T u gr) (hy : Chi T (u ^^^ gr) y) (hc : ∀ i, i < n → c' i = if gr.testBit i = true then col else c i) : Part n T (u ^^^ gr) (col + 1) c' := by
  obtain ⟨x, hx, ex⟩ := h.chi
  have e1 := hx.uniq (b.chi y hy)
  have ub : ∀ i, (u ^^^ gr).testBit i = false → gr.testBit i = true ∨ u.testBit i = false := fun i hi => by
    cases q : gr.testBit i with
    | true => exact .inl rfl
    | false =>
      rw [Nat.testBit_xor, q, Bool.xor_false] at hi
      exact .inr hi
  refine ⟨fun i hi => h.sub i ((xor_bit b.sub).mp hi).1, ⟨y, hy, fun k hk => by rw [ex k hk]; omega⟩, fun i hi hu => ?_, fun i j hi hj hu hu' ht => ?_⟩
  · rw [hc i hi]
    split
    · omega
    · rename_i q
      rcases ub i hu with z | z
      · exact (q z).elim
      · have := h.lt i hi z
        omega
  · rw [hc i hi, hc j hj]
    by_cases q : gr.testBit i = true <;> by_cases q' : gr.testBit j = true
    · have := b.ind i j q q'
      rw [ht] at this
      cases this
    · rw [if_pos q, if_neg q']
      rcases ub j hu' with z | z
      · exact (q' z).elim
      · have := h.lt j hj z
        omega
    · rw [if_neg q, if_pos q']
      rcases ub i hu with z | z
      · exact (q z).elim
      · have := h.lt i hi z
        omega
    · rw [if_neg q, if_neg q']
      rcases ub i hu with z | z
      · exact (q z).elim
      · rcases ub j hu' with z' | z'
        · exact (q' z').elim
        · exact h.ne i j hi hj z z' ht
theorem part_end' {n : Nat} {T : Rel} {col : Nat} {c : Nat → Nat} (h : Part n T 0 col c) : Clr n T c := by
  refine ⟨fun k hk i hi => ?_, fun i j hi hj ht => h.ne i j hi hj (Nat.zero_testBit i) (Nat.zero_testBit j) ht⟩
  obtain ⟨x, hx, ex⟩ := h.chi
  have := hx.uniq (chi_zero T)
  have := ex k hk
  have := h.lt i hi (Nat.zero_testBit i)
  omega
theorem full_lt (n : Nat) : full n < 2 ^ n := by
  have := Nat.two_pow_pos n
  unfold full
  omega
theorem getD_set {l : List Nat} {i j v d : Nat} (h : i < l.length) : (l.set i v).getD j d = if j = i then v else l.getD j d := by
  rw [List.getD_eq_getElem?_getD, List.getElem?_set, List.getD_eq_getElem?_getD]
  by_cases e : i = j
  · subst e
    rw [if_pos rfl, if_pos h, if_pos rfl]
    rfl
  · rw [if_neg e, if_neg (Ne.symm e)]
section
variable {P : Program} {w : World} {K : PySem.W.Frag} {mg : Str → Option Value} {base : Heap}
def spColoured : Sp := fun vs H Q _ => ∃ (p : Addr) (n : Nat) (T : Rel) (ms : List Nat) (cs : List Bool) (tb : List Nat), vs = [.ref p, .int ((full n : Nat) : Int), .int 0] ∧ GraphAt H p n T ms cs tb ∧ n ≤ 8 ∧
  ∀ H' q cl, Same H H' → H q = none → H' q = some (.lst (nums cl)) → cl.length = n → Clr n T (fun i => cl.getD i 0) → Q (.ref q) H'
theorem scCol : FnScope ["graph", "mask", "first", "masks", "calm", "table", "colours", "colour", "left", "group", "dial", "_"] ["graph", "mask", "first"] (defScope (topS 32)) := ⟨rfl, rfl, rfl, by decide +kernel, rfl, by decide +kernel, by decide +kernel⟩
theorem cal_coloured (D : Dfn K mg "coloured" (topS 32) ["graph", "mask", "first"]) (B : Blt mg) (c1 : Cal P w K mg base "members" 1 ["mask"] spMembers) (c2 : Cal P w K mg base "best_group" 1 ["masks", "calm", "table", "mask"] spBest) : Cal P w K mg base "coloured" 2 ["graph", "mask", "first"] spColoured := by
  refine D.cal scCol (fun vs H Q E h => ?_) (fun f cdv A outer s H vs Q E hr h => ?_)
  · obtain ⟨p, n, T, ms, cs, tb, rfl, _⟩ := h
    rfl
  · obtain ⟨p, n, T, ms, cs, tb, rfl, G, hn8, q⟩ := h
    obtain ⟨am, ac, at', hp, hm, hc, ht⟩ := G.at_
    refine ⟨_, pss_cons (ps_asg (pv 0) (pg_tup rfl (pgs_cons (pg_name (i := 3) scCol.nd rfl (.inl rfl)) (pgs_cons (pg_name (i := 4) scCol.nd rfl (.inl rfl)) (pgs_cons (pg_name (i := 5) scCol.nd rfl (.inl rfl)) pgs_nil)))))
      (pss_cons (ps_setLc (i := 6) (own := [("_", 11)]) (g := gName 11) rfl scCol.nd rfl rfl (sw_true rfl rfl rfl (by decide +kernel)) (pi_list (pv 3)) (blkOk_by (own := [("_", 11)]) (N := ["graph", "mask", "first", "masks", "calm", "table", "colours", "colour", "left", "group", "dial", "_"]) (sc := defScope (topS 32)) (by decide +kernel))
        (fun _ _ _ _ _ => pg_name (i := 11) scCol.nd rfl (Or.inl rfl)) (fun _ _ _ _ _ => pts_nil) (fun _ _ _ _ _ => pe_int))
      (pss_cons (ps_set (i := 7) scCol.nd rfl (Or.inl rfl) (pv 2))
      (pss_cons (ps_set (i := 8) scCol.nd rfl (Or.inl rfl) (pv 1))
      (pss_cons (ps_while PassesOwn.never (pt_cmpR n_gt (pv 8) pe_int (nomark _))
        (pss_cons (ps_set (i := 9) scCol.nd rfl (Or.inl rfl) (pe_cal c2 hr (by decide) (pa_cons (pv 3) (pa_cons (pv 4) (pa_cons (pv 5) (pa_cons (pv 8) pa_nil))))))
        (pss_cons (ps_for PassesOwn.never rfl (pi_tup (pe_cal c1 hr (by decide) (pa_cons (pv 9) pa_nil))) (pg_name (i := 10) scCol.nd rfl (Or.inl rfl))
          (pss_one (ps_asg (pv 7) (pg_sub (pv 6) (pv 10) setl))))
        (pss_cons (ps_aug (i := 7) scCol.nd rfl (.inl rfl) pe_int n_ipadd)
        (pss_one (ps_set (i := 8) scCol.nd rfl (Or.inl rfl) (pe_op n_xor (pv 8) (pv 9))))))))
      (pss_one (ps_ret (pv 6))))))), ?_⟩
    have h256 := pow8 hn8
    refine ⟨_, rfl, p, _, rfl, SqT.of hp, rfl, _, _, rfl, _, _, rfl, _, _, rfl, rfl, ?_⟩
    refine ⟨_, rfl, am, rfl, ⟨_, SqL.of hm⟩, fun cl hcl => lc_list (K := K) (a := am) (xs := nums ms) (fun i H' => Same H H' ∧ H' cl = some (.lst (nums (List.replicate i 0)))) ⟨same_new hcl, upd_same⟩ (fun i H' _ ⟨sm, _⟩ => SqL.of (sm _ _ hm)) ?_ ?_⟩
    · rintro i x H' hx ⟨sm, hl⟩
      obtain ⟨k, hk, rfl⟩ := nums_of hx
      have hi : i < ms.length := (List.getElem?_eq_some_iff.mp hk).1
      have hlen := G.g.ms.len
      refine ⟨rfl, yesT ?_⟩
      refine ⟨_, hl, ?_, same_mut sm hcl, ?_⟩
      · rw [nums_len, List.length_replicate]
        exact sz8 (by omega)
      · rw [upd_same, List.replicate_succ']
        exact congrArg (fun l => some (HO.lst l)) (nums_app _ 0)
    · rintro H1 ⟨sm, hl⟩
      rw [nums_len, G.g.ms.len] at hl
      refine ⟨_, rfl, _, rfl, ?_⟩
      obtain ⟨x0, _, hx0⟩ := G.tab (full n) (full_lt n)
      refine ⟨fun u σ H' => ∃ (col : Nat) (v9 v10 : Option V) (cl' : List Nat), σ = [some (.ref p), some (.int ((full n : Nat) : Int)), some (.int 0), some (.ref am), some (.ref ac), some (.ref at'), some (.ref cl), some (.int (col : Int)), some (.int (u : Int)), v9, v10, none] ∧ Same H H' ∧ H' cl = some (.lst (nums cl')) ∧ cl'.length = n ∧ Part n T u col (fun i => cl'.getD i 0),
        ⟨full n, 0, none, none, _, rfl, sm, hl, List.length_replicate, part_start hx0 _⟩, ?_⟩
      rintro u σ H' ⟨col, v9, v10, cl', rfl, sm', hl', hlen, PT⟩
      have hm' := sm' _ _ hm
      have hc' := sm' _ _ hc
      have ht' := sm' _ _ ht
      have hun : u ≤ full n := PT.sub.le
      have hfl := full_lt n
      refine ⟨_, rfl, u, 0, rfl, rfl, _, rfl, ite2 (fun e => ?_) (fun e => ?_)⟩
      · have hu : 0 < u := of_decide_eq_true e
        refine ⟨_, fun σ2 H2 h => h, ?_⟩
        refine ⟨_, rfl, _, rfl, _, rfl, _, rfl, am, ac, at', n, T, ms, cs, tb, u, rfl, hm', hc', ht', G.g, fun k hk => G.tab k (by omega), hu, by omega, fun gr hb => ?_⟩
        obtain ⟨y, _, cy⟩ := G.tab (u ^^^ gr) (by have := hb.lt; omega)
        have hgr : gr < 2 ^ n := by
          have := hb.sub.le
          omega
        refine ⟨_, rfl, gr, rfl, by omega, fun H2 tp sm2 ftp htp => ?_⟩
        refine ⟨tp, rfl, ⟨_, SqT.of htp⟩, for_tup (K := K) (a := tp) (xs := nums (bits gr)) (fun i σ H3 => ∃ (v10 : Option V) (cl2 : List Nat), σ = [some (.ref p), some (.int ((full n : Nat) : Int)), some (.int 0), some (.ref am), some (.ref ac), some (.ref at'), some (.ref cl), some (.int (col : Int)), some (.int (u : Int)), some (.int (gr : Int)), v10, none] ∧ Same H H3 ∧ H3 tp = some (.tup (nums (bits gr))) ∧ H3 cl = some (.lst (nums cl2)) ∧ cl2.length = n ∧ ∀ j, cl2.getD j 0 = if j ∈ (bits gr).take i then col else cl'.getD j 0)
          ⟨v10, cl', rfl, sm'.trans sm2, htp, sm2 _ _ hl', hlen, fun j => by simp⟩ (fun i σ H3 _ ⟨_, _, _, _, h, _⟩ => SqT.of h) ?_ ?_⟩
        · rintro i x σ H3 hx ⟨v10, cl2, rfl, sm3, htp3, hl3, hlen3, hv⟩
          obtain ⟨k, hk, rfl⟩ := nums_of hx
          have hkg : gr.testBit k = true := (mem_bits (by omega)).mp (List.mem_of_getElem? hk)
          have hkn : k < n := bit_lt hgr hkg
          have ntp : tp ≠ cl := fun e => by
            rw [e] at htp3
            rw [htp3] at hl3
            cases hl3
          refine ⟨_, rfl, _, rfl, _, rfl, cl, _, k, rfl, rfl, hl3, by rw [nums_len]; omega, ?_⟩
          rw [nums_set]
          refine ⟨_, _, rfl, same_mut sm3 hcl, by rw [upd_ne ntp]; exact htp3, upd_same, by rw [List.length_set]; exact hlen3, fun j => ?_⟩
          rw [getD_set (by omega), hv j, List.take_add_one, hk]
          by_cases ej : j = k
          · subst ej
            simp
          · simp [ej]
        · rintro σ H3 ⟨v10, cl2, rfl, sm3, htp3, hl3, hlen3, hv⟩
          rw [nums_len, List.take_length] at hv
          refine ⟨_, rfl, col, 1, rfl, rfl, ?_⟩
          refine ⟨_, rfl, _, rfl, u, gr, rfl, rfl, u ^^^ gr, hb.lt, col + 1, _, _, cl2, rfl, sm3, hl3, hlen3, part_step G.g.gr.sym PT hb cy fun i hi => ?_⟩
          rw [hv i]
          by_cases z : gr.testBit i = true
          · rw [if_pos z, if_pos ((mem_bits (by omega)).mpr z)]
          · rw [if_neg z, if_neg fun h => z ((mem_bits (by omega)).mp h)]
      · have hu : u = 0 := by
          have : ¬ 0 < u := fun h => e (decide_eq_true h)
          omega
        subst hu
        exact ⟨_, rfl, q H' cl cl' sm' hcl hl' hlen (part_end' PT)⟩
def spColouring : Sp := fun vs H Q _ => ∃ (a : Addr) (rs : List Nat), vs = [.ref a] ∧ H a = some (.tup (nums rs)) ∧ Rgs rs ∧
  ∀ H' q cl, Same H H' → H' q = some (.tup (nums cl)) → cl.length = rs.length → Clr rs.length (tie rs) (fun i => cl.getD i 0) → Q (.ref q) H'
theorem scColouring : FnScope ["ranges"] ["ranges"] (defScope (topS 36)) := ⟨rfl, rfl, rfl, by decide +kernel, rfl, by decide +kernel, by decide +kernel⟩
theorem cal_colouring_of (D : Dfn K mg "colouring_of" (topS 36) ["ranges"]) (B : Blt mg) (c1 : Cal P w K mg base "graph_of" 5 ["ranges"] spGraph) (c2 : Cal P w K mg base "coloured" 2 ["graph", "mask", "first"] spColoured) : Cal P w K mg base "colouring_of" 6 ["ranges"] spColouring := by
  refine D.cal scColouring (fun vs H Q E h => ?_) (fun f cdv A outer s H vs Q E hr h => ?_)
  · obtain ⟨a, rs, rfl, _⟩ := h
    rfl
  · obtain ⟨a, rs, rfl, ha, g, q⟩ := h
    refine ⟨_, pss_one (ps_ret (pe_callTy call_tuple_of (by rfl) B.tuple (by decide +kernel) (pa_cons (pe_cal c2 hr (by decide) (pa_cons (pe_cal c1 hr (by decide) (pa_cons (pv 0) pa_nil)) (pa_cons (pe_op x_sub (pe_op x_shl pe_int (pe_callB c_len (by rfl) B.len PySem.boot_len (pa_cons (pv 0) pa_nil))) pe_int) (pa_cons pe_int pa_nil)))) pa_nil))), ?_⟩
    have hn8 := g.len
    have hpos := Nat.two_pow_pos rs.length
    refine ⟨_, rfl, a, rs, rfl, ha, g, fun H1 p ms cs tb sm G => ?_⟩
    refine ⟨_, rfl, a, nums rs, rs.length, rfl, .inr (sm _ _ ha), nums_len _, 1, rs.length, 2 ^ rs.length, rfl, rfl, ⟨by decide, by omega⟩, Nat.one_mul _, 2 ^ rs.length, 1, full rs.length, rfl, rfl, hpos, rfl, ?_⟩
    refine ⟨p, rs.length, tie rs, ms, cs, tb, rfl, G, hn8, fun H2 ql cl sm2 fq hl hlen hc => ?_⟩
    refine ⟨ql, _, rfl, .inl ⟨SqL.of hl, fun l nl => ?_⟩⟩
    exact q _ l cl ((sm.trans sm2).trans (same_new nl)) upd_same hlen hc
end
end WW

set_option Elab.async false
set_option linter.all false
set_option maxRecDepth 100000
set_option maxHeartbeats 4000000
/-! W7: is_position, _is_told, order_of -/
namespace WW
open PySem PySem.Spec PyProof.Rows L2
/-! ### dicts of told numbers, all to True -/
def dk (ks : List Nat) : List (Key × V) := ks.map fun (j : Nat) => ((Sum.inl (j : Int) : Key), V.bl true)
def ins (j : Nat) (ks : List Nat) : List Nat := if j ∈ ks then ks else ks ++ [j]
theorem key_cast {i j : Nat} : ((Sum.inl (i : Int) : Key) = Sum.inl (j : Int)) ↔ i = j := ⟨fun h => Int.ofNat.inj (Sum.inl.inj h), fun h => by rw [h]⟩
theorem dk_any (j : Nat) (ks : List Nat) : ((dk ks).any fun kv => decide (kv.1 = (Sum.inl (j : Int) : Key))) = decide (j ∈ ks) := by
  unfold dk
  rw [List.any_map, Bool.eq_iff_iff, List.any_eq_true, decide_eq_true_iff]
  constructor
  · rintro ⟨x, hx, e⟩
    have e : decide ((Sum.inl (x : Int) : Key) = Sum.inl (j : Int)) = true := e
    have := key_cast.mp (of_decide_eq_true e)
    rw [← this]
    exact hx
  · intro h
    exact ⟨j, h, decide_eq_true (key_cast.mpr rfl)⟩
theorem dk_put (j : Nat) (ks : List Nat) : putK (dk ks) (Sum.inl (j : Int) : Key) (.bl true) = dk (ins j ks) := by
  unfold putK ins
  rw [dk_any]
  by_cases h : j ∈ ks
  · rw [if_pos (decide_eq_true h), if_pos h]
    unfold dk
    rw [List.map_map]
    refine List.map_congr_left fun x _ => ?_
    show (if (Sum.inl (x : Int) : Key) = Sum.inl (j : Int) then ((Sum.inl (x : Int) : Key), V.bl true) else ((Sum.inl (x : Int) : Key), V.bl true)) = _
    split <;> rfl
  · rw [if_neg (by simpa using h), if_neg h]
    unfold dk
    rw [List.map_append]
    rfl
theorem dk_val (j : Nat) (ks : List Nat) : (valV (dk ks) (Sum.inl (j : Int) : Key)).isSome = decide (j ∈ ks) := by rw [← valV_any, dk_any]
theorem mem_ins {i j : Nat} {ks : List Nat} : i ∈ ins j ks ↔ i ∈ ks ∨ i = j := by
  unfold ins
  split
  · rename_i h
    exact ⟨.inl, fun q => q.elim id fun e => e ▸ h⟩
  · rw [List.mem_append, List.mem_singleton]
theorem nodup_ins {j : Nat} {ks : List Nat} (h : ks.Nodup) : (ins j ks).Nodup := by
  unfold ins
  split
  · exact h
  · rename_i q
    rw [List.nodup_append]
    refine ⟨h, List.nodup_cons.mpr ⟨by simp, List.nodup_nil⟩, fun a ha b hb e => ?_⟩
    rw [List.mem_singleton] at hb
    rw [e, hb] at ha
    exact q ha
/-- the list at L of the dicts at ds, dict i with the keys ks i -/
structure DsAt (H : Hp) (L : Addr) (n : Nat) (ds : List Addr) (ks : Nat → List Nat) : Prop where
  l : H L = some (.lst (ds.map V.ref))
  len : ds.length = n
  nd : ds.Nodup
  d : ∀ i, i < n → H (ds.getD i 0) = some (.dK (dk (ks i)))
theorem DsAt.get {H : Hp} {L : Addr} {n : Nat} {ds : List Addr} {ks : Nat → List Nat} (h : DsAt H L n ds ks) {i : Nat} (hi : i < n) : (ds.map V.ref)[i]? = some (.ref (ds.getD i 0)) := by
  rw [List.getElem?_map, List.getD_eq_getElem?_getD, List.getElem?_eq_getElem (by rw [h.len]; exact hi)]
  rfl
theorem DsAt.put {H : Hp} {L : Addr} {n : Nat} {ds : List Addr} {ks : Nat → List Nat} (h : DsAt H L n ds ks) {i : Nat} (hi : i < n) (k' : List Nat) : DsAt (upd H (ds.getD i 0) (.dK (dk k'))) L n ds (fun j => if j = i then k' else ks j) := by
  have ne : L ≠ ds.getD i 0 := ne_of h.l (h.d i hi) (by intro z; cases z)
  refine ⟨by rw [upd_ne ne]; exact h.l, h.len, h.nd, fun j hj => ?_⟩
  by_cases e : j = i
  · subst e
    rw [upd_same, if_pos rfl]
  · have : ds.getD j 0 ≠ ds.getD i 0 := fun z => e (by
      have hi' : i < ds.length := by rw [h.len]; exact hi
      have hj' : j < ds.length := by rw [h.len]; exact hj
      rw [List.getD_eq_getElem?_getD, List.getD_eq_getElem?_getD, List.getElem?_eq_getElem hi', List.getElem?_eq_getElem hj'] at z
      exact (List.getElem_inj h.nd).mp z)
    rw [upd_ne this, if_neg e]
    exact h.d j hj
theorem DsAt.mono {H H' : Hp} {L : Addr} {n : Nat} {ds : List Addr} {ks : Nat → List Nat} (h : DsAt H L n ds ks) (s : Same H H') : DsAt H' L n ds ks := ⟨s _ _ h.l, h.len, h.nd, fun i hi => s _ _ (h.d i hi)⟩
theorem DsAt.congr {H : Hp} {L : Addr} {n : Nat} {ds : List Addr} {ks ks' : Nat → List Nat} (h : DsAt H L n ds ks) (e : ∀ i, i < n → ks' i = ks i) : DsAt H L n ds ks' := ⟨h.l, h.len, h.nd, fun i hi => by rw [e i hi]; exact h.d i hi⟩
/-- a tuple of pairs of numbers -/
structure PairsAt (H : Hp) (p : Addr) (L : List (Nat × Nat)) : Prop where
  ex : ∃ as : List Addr, H p = some (.tup (as.map V.ref)) ∧ as.length = L.length ∧ ∀ (k : Nat) (a : Addr) (ij : Nat × Nat), as[k]? = some a → L[k]? = some ij → H a = some (.tup [.int (ij.1 : Int), .int (ij.2 : Int)])
/-- tuples of numbers at as -/
def TupsAt (H : Hp) (as : List Addr) (rows : List (List Nat)) : Prop := as.length = rows.length ∧ ∀ (k : Nat) (a : Addr) (row : List Nat), as[k]? = some a → rows[k]? = some row → H a = some (.tup (nums row))
def OrdAt (H : Hp) (p : Addr) (rows : List (List Nat)) : Prop := ∃ as : List Addr, H p = some (.tup (as.map V.ref)) ∧ TupsAt H as rows
theorem TupsAt.mono {H H' : Hp} {as : List Addr} {rows : List (List Nat)} (h : TupsAt H as rows) (s : Same H H') : TupsAt H' as rows := ⟨h.1, fun k a row e1 e2 => s _ _ (h.2 k a row e1 e2)⟩
theorem OrdAt.mono {H H' : Hp} {p : Addr} {rows : List (List Nat)} (h : OrdAt H p rows) (s : Same H H') : OrdAt H' p rows := by
  obtain ⟨as, h1, h2⟩ := h
  exact ⟨as, s _ _ h1, h2.mono s⟩
theorem PairsAt.mono {H H' : Hp} {p : Addr} {L : List (Nat × Nat)} (h : PairsAt H p L) (s : Same H H') : PairsAt H' p L := by
  obtain ⟨as, h1, h2, h3⟩ := h.ex
  exact ⟨as, s _ _ h1, h2, fun k a ij e1 e2 => s _ _ (h3 k a ij e1 e2)⟩
/-- an order by its rows -/
def rel (rows : List (List Nat)) : Rel := fun i j => decide (j ∈ rows.getD i [])
structure IsOrd (n : Nat) (rows : List (List Nat)) : Prop where
  len : rows.length = n
  asc : ∀ row ∈ rows, row.Pairwise (· < ·)
  ord : Ord n (rel rows)
theorem refs_of {as : List Addr} {i : Nat} {v : V} (h : (as.map V.ref)[i]? = some v) : ∃ a, as[i]? = some a ∧ v = .ref a := by
  rw [List.getElem?_map] at h
  cases e : as[i]? with
  | none => rw [e] at h; cases h
  | some a => rw [e] at h; exact ⟨a, rfl, (Option.some.inj h).symm⟩
theorem refs_get {as : List Addr} {i : Nat} {a : Addr} (h : as[i]? = some a) : (as.map V.ref)[i]? = some (.ref a) := by
  rw [List.getElem?_map, h]
  rfl
theorem dk_keys (ks : List Nat) : (dk ks).map (·.1) = (ks.map fun (j : Nat) => (j : Int)).map Sum.inl := by
  unfold dk
  rw [List.map_map, List.map_map]
  rfl
theorem dk_kV (ks : List Nat) : ((dk ks).map fun kv => kV kv.1) = nums ks := by
  unfold dk nums
  rw [List.map_map]
  rfl
/-- a sorted arrangement of told numbers -/
theorem sorted_nat {ys : List Int} {ks : List Nat} (hp : ys.Perm (ks.map fun (j : Nat) => (j : Int))) (hs : ys.Pairwise (· ≤ ·)) (nd : ks.Nodup) : ∃ row : List Nat, ys.map V.int = nums row ∧ row.Pairwise (· < ·) ∧ ∀ j, j ∈ row ↔ j ∈ ks := by
  have e : ys = (ys.map Int.toNat).map fun (j : Nat) => (j : Int) := by
    rw [List.map_map]
    refine (List.map_id' ys).symm.trans (List.map_congr_left fun x hx => ?_) |>.trans rfl
    obtain ⟨j, _, ej⟩ := List.mem_map.mp (hp.mem_iff.mp hx)
    show x = ((Int.toNat x : Nat) : Int)
    rw [← ej, Int.toNat_natCast]
  refine ⟨ys.map Int.toNat, ?_, ?_, fun j => ?_⟩
  · rw [nums_int, ← e]
  · have nd2 : ys.Nodup := hp.nodup_iff.mpr (nd.map (fun (j : Nat) => (j : Int)) fun a b hab e => hab (Int.ofNat.inj e))
    rw [List.pairwise_map]
    refine (hs.and nd2).imp_of_mem ?_
    intro a b ha hb ⟨h1, h2⟩
    obtain ⟨i, _, ei⟩ := List.mem_map.mp (hp.mem_iff.mp ha)
    obtain ⟨j, _, ej⟩ := List.mem_map.mp (hp.mem_iff.mp hb)
    rw [← ei, ← ej] at h1 h2 ⊢
    rw [Int.toNat_natCast, Int.toNat_natCast]
    have : i ≠ j := fun z => h2 (by rw [z])
    omega
  · constructor
    · intro h
      obtain ⟨y, hy, ey⟩ := List.mem_map.mp h
      obtain ⟨k, hk, ek⟩ := List.mem_map.mp (hp.mem_iff.mp hy)
      rw [← ek, Int.toNat_natCast] at ey
      rw [← ey]
      exact hk
    · intro h
      exact List.mem_map.mpr ⟨(j : Int), hp.mem_iff.mpr (List.mem_map.mpr ⟨j, h, rfl⟩), Int.toNat_natCast j⟩
section
variable {P : Program} {w : World} {K : PySem.W.Frag} {mg : Str → Option Value} {base : Heap}
/-! ### is_position, _is_told -/
def spPos : Sp := fun vs H Q _ => ∃ n k : Nat, vs = [.int (n : Int), .int (k : Int)] ∧ k < n ∧ Q (.bl true) H
theorem scPos : FnScope ["size", "thing"] ["size", "thing"] (defScope (topS 18)) := ⟨rfl, rfl, rfl, by decide +kernel, rfl, by decide +kernel, by decide +kernel⟩
theorem cal_is_position (D : Dfn K mg "is_position" (topS 18) ["size", "thing"]) (B : Blt mg) : Cal P w K mg base "is_position" 1 ["size", "thing"] spPos := by
  refine D.cal scPos (fun vs H Q E h => ?_) (fun f cdv A outer s H vs Q E hr h => ?_)
  · obtain ⟨n, k, rfl, _⟩ := h
    rfl
  · obtain ⟨n, k, rfl, hk, q⟩ := h
    refine ⟨_, pss_one (ps_ret (pe_and (pe_callB call_isi (by rfl) B.isinstance (by decide +kernel) (pa_cons (pv 1) (pa_cons (pe_bltn (v := .ty "int") (by rfl) B.int (by decide +kernel) rfl) pa_nil)))
      (pe_and (pe_not (pe_callB call_isi (by rfl) B.isinstance (by decide +kernel) (pa_cons (pv 1) (pa_cons (pe_bltn (v := .ty "bool") (by rfl) B.bool (by decide +kernel) rfl) pa_nil))))
      (pe_one (pe_chain n_le n_lt pe_int (pv 1) (pv 0)))))), ?_⟩
    refine ⟨_, rfl, _, _, _, _, true, rfl, .ty _, .base (.int (k : Int)), kit_ty (by decide +kernel), true, rfl, iteT ⟨_, rfl, _, _, _, _, false, rfl, .ty _, .base (.int (k : Int)), kit_ty (by decide +kernel), false, rfl, true, rfl, iteT ?_⟩⟩
    refine ⟨_, rfl, 0, k, rfl, rfl, true, congrArg V.bl (decide_eq_true (Nat.zero_le k)), iteT ⟨_, rfl, k, n, rfl, rfl, ?_⟩⟩
    show Q (.bl (decide (k < n))) H
    rw [decide_eq_true hk]
    exact q
def spTold : Sp := fun vs H Q _ => ∃ (n : Nat) (p : Addr) (i j : Nat), vs = [.int (n : Int), .ref p] ∧ H p = some (.tup [.int (i : Int), .int (j : Int)]) ∧ i < n ∧ j < n ∧ Q (.bl true) H
theorem scTold : FnScope ["size", "pair"] ["size", "pair"] (defScope (topS 23)) := ⟨rfl, rfl, rfl, by decide +kernel, rfl, by decide +kernel, by decide +kernel⟩
theorem cal_is_told (D : Dfn K mg "_is_told" (topS 23) ["size", "pair"]) (B : Blt mg) (c1 : Cal P w K mg base "is_position" 1 ["size", "thing"] spPos) : Cal P w K mg base "_is_told" 2 ["size", "pair"] spTold := by
  refine D.cal scTold (fun vs H Q E h => ?_) (fun f cdv A outer s H vs Q E hr h => ?_)
  · obtain ⟨n, p, i, j, rfl, _⟩ := h
    rfl
  · obtain ⟨n, p, i, j, rfl, hp, hi, hj, q⟩ := h
    refine ⟨_, pss_cons (ps_if (PW.pt (pw_or (pt_not (pt_val (pe_callB call_isi (by rfl) B.isinstance (by decide +kernel) (pa_cons (pv 1) (pa_cons (pe_bltn (v := .ty "tuple") (by rfl) B.tuple (by decide +kernel) rfl) pa_nil)))))
        (pw_or1 (pt_cmpR n_ne (pe_callB c_len (by rfl) B.len PySem.boot_len (pa_cons (pv 1) pa_nil)) pe_int (nomark _))))) (pss_one ps_never) pss_nil)
      (pss_one (ps_ret (pe_and (pe_cal c1 hr (by decide) (pa_cons (pv 0) (pa_cons (pe_ix ixt (pv 1) pe_int (fun _ _ => rfl)) pa_nil))) (pe_one (pe_cal c1 hr (by decide) (pa_cons (pv 0) (pa_cons (pe_ix ixt (pv 1) pe_int (fun _ _ => rfl)) pa_nil))))))), ?_⟩
    refine ⟨_, rfl, _, _, _, _, true, rfl, .ty _, .base (.tup hp), kit_ty (by decide +kernel), true, rfl, iteF ?_⟩
    refine ⟨_, rfl, p, _, 2, rfl, .inr hp, rfl, 2, 2, rfl, rfl, false, rfl, iteF ?_⟩
    refine ⟨_, rfl, _, rfl, p, _, 0, _, rfl, rfl, hp, rfl, n, i, rfl, hi, true, rfl, iteT ?_⟩
    exact ⟨_, rfl, _, rfl, p, _, 1, _, rfl, rfl, hp, rfl, n, j, rfl, hj, q⟩
end
end WW

set_option Elab.async false
set_option linter.all false
set_option maxRecDepth 100000
set_option maxHeartbeats 4000000
/-! W8: order_of -/
namespace WW
open PySem PySem.Spec PyProof.Rows L2
/-- rows of keys that fall by c -/
structure KS (n : Nat) (c : Nat → Nat) (ks : Nat → List Nat) : Prop where
  nd : ∀ i, i < n → (ks i).Nodup
  pot : ∀ i, i < n → ∀ j, j ∈ ks i → j < n ∧ c j < c i
theorem KS.put {n : Nat} {c : Nat → Nat} {ks : Nat → List Nat} (h : KS n c ks) {i j : Nat} (hi : i < n) (hj : j < n) (hc : c j < c i) : KS n c (fun k => if k = i then ins j (ks i) else ks k) := by
  refine ⟨fun k hk => ?_, fun k hk l hl => ?_⟩
  · split
    · exact nodup_ins (h.nd i hi)
    · exact h.nd k hk
  · split at hl
    · rename_i e
      subst e
      rcases mem_ins.mp hl with q | q
      · exact h.pot k hk l q
      · rw [q]
        exact ⟨hj, hc⟩
    · exact h.pot k hk l hl
theorem KS.len {n : Nat} {c : Nat → Nat} {ks : Nat → List Nat} (h : KS n c ks) {i : Nat} (hi : i < n) : (ks i).length ≤ n := nodup_le n _ (h.nd i hi) fun a ha => (h.pot i hi a ha).1
def RL (n : Nat) (ks : Nat → List Nat) (i j : Nat) : Prop := i < n ∧ j ∈ ks i
/-- rows, their middle m gone through for the dials below d -/
def Mid (n m d : Nat) (k0 ks : Nat → List Nat) : Prop := ∀ i, i < n → ∀ j, j ∈ ks i ↔ j ∈ k0 i ∨ (i < d ∧ m ∈ k0 i ∧ j ∈ k0 m)
def incl (L : List (Nat × Nat)) (t : Nat) (ks : Nat → List Nat) : Prop := ∀ (k : Nat) (ij : Nat × Nat), k < t → L[k]? = some ij → ij.2 ∈ ks ij.1
/-- tuple(xs), xs a tracked list -/
def rTup' : List V → Hp → VK → Prop := fun xs H Q => ∃ (p : Addr) (ys : List V), xs = [.ref p] ∧ H p = some (.lst ys) ∧ ∀ l, H l = none → Q (.ref l) (upd H l (.tup ys))
theorem c_tuple {X : Cx} : CallR X (.type "tuple") rTup' := CallR.of call_tuple_of fun xs H Q ⟨p, ys, e, h, q⟩ => ⟨p, ys, e, .inl ⟨SqL.of h, q⟩⟩
section
variable {P : Program} {w : World} {K : PySem.W.Frag} {mg : Str → Option Value} {base : Heap}
def spOrder : Sp := fun vs H Q _ => ∃ (n : Nat) (pp : Addr) (L : List (Nat × Nat)) (c : Nat → Nat), vs = [.int (n : Int), .ref pp] ∧ PairsAt H pp L ∧ (∀ ij ∈ L, ij.1 < n ∧ ij.2 < n ∧ c ij.2 < c ij.1) ∧ n ≤ 8 ∧
  ∀ H' q rows, Same H H' → OrdAt H' q rows → IsOrd n rows → Mono (rel rows) c → (∀ ij ∈ L, rel rows ij.1 ij.2 = true) → Q (.ref q) H'
theorem scOrder : FnScope ["size", "pairs", "pair", "lower", "one", "other", "middle", "dial", "i", "row"] ["size", "pairs"] (defScope (topS 25)) := ⟨rfl, rfl, rfl, by decide +kernel, rfl, by decide +kernel, by decide +kernel⟩
theorem cal_order_of (D : Dfn K mg "order_of" (topS 25) ["size", "pairs"]) (B : Blt mg) (c2 : Cal P w K mg base "_is_told" 2 ["size", "pair"] spTold) : Cal P w K mg base "order_of" 3 ["size", "pairs"] spOrder := by
  refine D.cal scOrder (fun vs H Q E h => ?_) (fun f cdv A outer s H vs Q E hr h => ?_)
  · obtain ⟨n, pp, L, c, rfl, _⟩ := h
    rfl
  · obtain ⟨n, pp, L, c, rfl, hP, hL, hn8, q⟩ := h
    have hu := hu_of hr
    obtain ⟨as, hpp, hlen, hel⟩ := hP.ex
    refine ⟨_, pss_cons (ps_if (pt_not (pt_val (pe_callB call_isi (by rfl) B.isinstance (by decide +kernel) (pa_cons (pv 1) (pa_cons (pe_bltn (v := .ty "tuple") (by rfl) B.tuple (by decide +kernel) rfl) pa_nil))))) (pss_one ps_never) pss_nil)
      (pss_cons (ps_for PassesOwn.never rfl (pi_tup (pv 1)) (pg_name (i := 2) scOrder.nd rfl (Or.inl rfl)) (pss_one (ps_if (pt_not (pt_val (pe_cal c2 hr (by decide) (pa_cons (pv 0) (pa_cons (pv 2) pa_nil))))) (pss_one ps_never) pss_nil)))
      (pss_cons (ps_setLc (i := 3) (own := [("i", 8)]) (g := gName 8) rfl scOrder.nd rfl rfl (sw_true rfl rfl rfl (by decide +kernel)) (up1_run rfl B.range (pa_cons (pv 0) pa_nil)) (blkOk_by (own := [("i", 8)]) (N := ["size", "pairs", "pair", "lower", "one", "other", "middle", "dial", "i", "row"]) (sc := defScope (topS 25)) (by decide +kernel))
        (fun _ _ _ _ _ => pg_name (i := 8) scOrder.nd rfl (Or.inl rfl)) (fun _ _ _ _ _ => pts_nil) (fun _ _ _ _ _ => pe_dnewK))
      (pss_cons (ps_for PassesOwn.never rfl (pi_tup (pv 1)) (pg_tup rfl (pgs_cons (pg_name (i := 4) scOrder.nd rfl (Or.inl rfl)) (pgs_cons (pg_name (i := 5) scOrder.nd rfl (Or.inl rfl)) pgs_nil)))
        (pss_one (ps_dput hu (pe_ix ixl (pv 3) (pv 4) (fun _ _ => rfl)) (pv 5) pe_bl rfl)))
      (pss_cons (ps_for PassesOwn.never rfl (up1_run rfl B.range (pa_cons (pv 0) pa_nil)) (pg_name (i := 6) scOrder.nd rfl (Or.inl rfl))
        (pss_one (ps_for PassesOwn.never rfl (up1_run rfl B.range (pa_cons (pv 0) pa_nil)) (pg_name (i := 7) scOrder.nd rfl (Or.inl rfl))
          (pss_one (ps_if (PW.pt (pw_and (pt_cmp (pc_din hu (pv 6) (pe_ix ixl (pv 3) (pv 7) (fun _ _ => rfl)))) (pw_and1 (pt_cmpR n_ne (pv 6) (pv 7) (nomark _)))))
            (pss_one (ps_for PassesOwn.never rfl (pi_list (pe_callTy (call_list_dK rfl) (by rfl) B.list (by decide +kernel) (pa_cons (pe_ix ixl (pv 3) (pv 6) (fun _ _ => rfl)) pa_nil))) (pg_name (i := 5) scOrder.nd rfl (Or.inl rfl))
              (pss_one (ps_dput hu (pe_ix ixl (pv 3) (pv 7) (fun _ _ => rfl)) (pv 5) pe_bl rfl)))) pss_nil)))))
      (pss_cons (ps_for PassesOwn.never rfl (up1_run rfl B.range (pa_cons (pv 0) pa_nil)) (pg_name (i := 7) scOrder.nd rfl (Or.inl rfl))
        (pss_one (ps_if (pt_cmp (pc_din hu (pv 7) (pe_ix ixl (pv 3) (pv 7) (fun _ _ => rfl)))) (pss_one ps_never) pss_nil)))
      (pss_one (ps_ret (pe_callTy c_tuple (by rfl) B.tuple (by decide +kernel) (pa_cons (pe_lc (own := [("row", 9)]) (g := gName 9) rfl scOrder.nd (pi_list (pv 3)) (blkOk_by (own := [("row", 9)]) (N := ["size", "pairs", "pair", "lower", "one", "other", "middle", "dial", "i", "row"]) (sc := defScope (topS 25)) (by decide +kernel))
        (fun _ _ _ _ _ => pg_name (i := 9) scOrder.nd rfl (Or.inl rfl)) (fun _ _ _ _ _ => pts_nil) (fun _ _ _ _ _ => pe_callTy (T := "tuple") c_tuple (by rfl) B.tuple (by decide +kernel) (pa_cons (pe_callB (id := "sorted") (call_sortedDI rfl) (by rfl) B.sorted (by decide +kernel) (pa_cons (pv 9) pa_nil)) pa_nil))) pa_nil))))))))), ?_⟩
    -- the checks
    refine ⟨_, rfl, _, _, _, _, true, rfl, .ty _, .base (.tup hpp), kit_ty (by decide +kernel), true, rfl, iteF ?_⟩
    refine ⟨_, rfl, pp, rfl, ⟨_, SqT.of hpp⟩, for_tup (K := K) (a := pp) (xs := as.map V.ref) (fun i σ H' => ∃ v2, σ = [some (.int (n : Int)), some (.ref pp), v2, none, none, none, none, none, none, none] ∧ H' = H) ⟨none, rfl, rfl⟩ (fun i σ H' _ ⟨_, _, e⟩ => e ▸ SqT.of hpp) ?_ ?_⟩
    · rintro i x σ H' hx ⟨v2, rfl, rfl⟩
      obtain ⟨a, ha, rfl⟩ := refs_of hx
      have hi : i < as.length := (List.getElem?_eq_some_iff.mp ha).1
      obtain ⟨ij, hij⟩ : ∃ ij, L[i]? = some ij := ⟨_, List.getElem?_eq_getElem (by omega)⟩
      have hb := hL ij (List.mem_of_getElem? hij)
      refine ⟨_, rfl, _, rfl, n, a, ij.1, ij.2, rfl, hel i a ij ha hij, hb.1, hb.2.1, true, rfl, iteF ?_⟩
      exact ⟨_, rfl, rfl⟩
    · rintro σ H0 ⟨v2, rfl, rfl⟩
      -- the dicts
      refine ⟨_, rfl, n, rfl, by omega, fun Ls hLs => lc_up0 (n := n) (fun i H' => ∃ ds : List Addr, Same H0 H' ∧ H' Ls = some (.lst (ds.map V.ref)) ∧ ds.length = i ∧ ds.Nodup ∧ ∀ a ∈ ds, H' a = some (.dK (dk [])) ∧ H0 a = none) ⟨[], same_new hLs, upd_same, rfl, List.nodup_nil, fun a ha => by cases ha⟩ ?_ ?_⟩
      · rintro i H' hi ⟨ds, sm, hl, hdl, hnd, hda⟩
        refine ⟨rfl, yesT fun p hp => ?_⟩
        have nLp : Ls ≠ p := ne_of_none hl hp
        refine ⟨ds.map V.ref, by rw [upd_ne nLp]; exact hl, ?_, ds ++ [p], same_mut (sm.trans (same_new hp)) hLs, ?_, ?_, ?_, fun a ha => ?_⟩
        · rw [List.length_map, hdl]
          exact sz8 (by omega)
        · rw [upd_same, List.map_append]
          rfl
        · rw [List.length_append, hdl]
          rfl
        · rw [List.nodup_append]
          refine ⟨hnd, List.nodup_cons.mpr ⟨by simp, List.nodup_nil⟩, fun a ha b hb e => ?_⟩
          rw [List.mem_singleton] at hb
          rw [e, hb] at ha
          have := (hda p ha).1
          rw [hp] at this
          cases this
        · rcases List.mem_append.mp ha with h | h
          · have h1 := hda a h
            have nap : a ≠ p := ne_of_none h1.1 hp
            have naL : a ≠ Ls := fun e => by
              rw [e, hl] at h1
              cases h1.1
            rw [upd_ne naL, upd_ne nap]
            exact h1
          · rw [List.mem_singleton] at h
            rw [h, upd_ne nLp.symm, upd_same]
            exact ⟨rfl, sm.free hp⟩
      · rintro H1 ⟨ds, sm1, hl1, hdl, hnd, hda⟩
        have hmem : ∀ i, i < n → ds.getD i 0 ∈ ds := fun i hi => by
          rw [List.getD_eq_getElem?_getD, List.getElem?_eq_getElem (by omega)]
          exact List.getElem_mem _
        have hfree : ∀ i, i < n → H0 (ds.getD i 0) = none := fun i hi => (hda _ (hmem i hi)).2
        have hds1 : DsAt H1 Ls n ds (fun _ => []) := ⟨hl1, hdl, hnd, fun i hi => (hda _ (hmem i hi)).1⟩
        have hpp1 := sm1 _ _ hpp
        -- the told pairs
        refine ⟨_, rfl, pp, rfl, ⟨_, SqT.of hpp1⟩, for_tup (K := K) (a := pp) (xs := as.map V.ref) (fun t σ H' => ∃ v4 v5 ks, σ = [some (.int (n : Int)), some (.ref pp), v2, some (.ref Ls), v4, v5, none, none, none, none] ∧ Same H0 H' ∧ DsAt H' Ls n ds ks ∧ KS n c ks ∧ incl L t ks)
          ⟨none, none, _, rfl, sm1, hds1, ⟨fun i hi => List.nodup_nil, fun i hi j hj => by cases hj⟩, fun k ij hk => by omega⟩ (fun i σ H' _ ⟨_, _, _, _, sm, _⟩ => SqT.of (sm _ _ hpp)) ?_ ?_⟩
        · rintro t x σ H' hx ⟨v4, v5, ks, rfl, sm, hd, hk, hin⟩
          obtain ⟨a, ha, rfl⟩ := refs_of hx
          have hi : t < as.length := (List.getElem?_eq_some_iff.mp ha).1
          obtain ⟨ij, hij⟩ : ∃ ij, L[t]? = some ij := ⟨_, List.getElem?_eq_getElem (by omega)⟩
          have hb := hL ij (List.mem_of_getElem? hij)
          refine ⟨a, _, rfl, SqT.of (sm _ _ (hel t a ij ha hij)), rfl, _, _, rfl, _, _, rfl, rfl, ?_⟩
          refine ⟨_, rfl, _, rfl, Ls, _, ij.1, _, rfl, rfl, hd.l, hd.get hb.1, _, rfl, _, _, rfl, DPut.k (k := Sum.inl (ij.2 : Int)) (hd.d ij.1 hb.1) ?_, ?_⟩
          · unfold dk
            rw [List.length_map]
            have := hk.len hb.1
            exact sz8 (by omega)
          · rw [dk_put]
            refine ⟨_, _, _, rfl, same_mut sm (hfree ij.1 hb.1), hd.put hb.1 _, hk.put hb.1 hb.2.1 hb.2.2, fun k ij' hkt hij' => ?_⟩
            by_cases e : k = t
            · subst e
              rw [hij] at hij'
              cases hij'
              dsimp only
              rw [if_pos rfl]
              exact mem_ins.mpr (.inr rfl)
            · have := hin k ij' (by omega) hij'
              dsimp only
              split
              · rename_i e2
                rw [e2] at this
                exact mem_ins.mpr (.inl this)
              · exact this
        · rintro σ H2 ⟨v4, v5, ks, rfl, sm2, hd2, hk2, hin2⟩
          rw [List.length_map, hlen] at hin2
          -- the closure
          refine ⟨_, rfl, n, rfl, by omega, for_up0 (n := n) (fun m σ H' => ∃ v5 v6 v7 ks, σ = [some (.int (n : Int)), some (.ref pp), v2, some (.ref Ls), v4, v5, v6, v7, none, none] ∧ Same H0 H' ∧ DsAt H' Ls n ds ks ∧ KS n c ks ∧ incl L L.length ks ∧ Tr (RL n ks) m)
            ⟨v5, none, none, ks, rfl, sm2, hd2, hk2, hin2, fun k hk => by omega⟩ ?_ ?_⟩
          · rintro m σ H3 hm ⟨v5, v6, v7, k0, rfl, sm3, hd3, hk3, hin3, htr⟩
            have hmm : m ∉ k0 m := fun h => Nat.lt_irrefl _ (hk3.pot m hm m h).2
            refine ⟨_, rfl, n, rfl, by omega, for_up0 (n := n) (fun d σ H' => ∃ v5 v7 ks, σ = [some (.int (n : Int)), some (.ref pp), v2, some (.ref Ls), v4, v5, some (.int (m : Int)), v7, none, none] ∧ Same H0 H' ∧ DsAt H' Ls n ds ks ∧ KS n c ks ∧ Mid n m d k0 ks)
              ⟨v5, v7, k0, rfl, sm3, hd3, hk3, fun i hi j => ⟨.inl, fun h => h.elim id fun h => by omega⟩⟩ ?_ ?_⟩
            · rintro d σ H4 hd ⟨v5, v7, ks1, rfl, sm4, hd4, hk4, hmid⟩
              have stay : (m ∉ k0 d) → Mid n m (d + 1) k0 ks1 := fun hno i hi j => by
                rw [hmid i hi j]
                refine or_congr_right ⟨fun ⟨a, b⟩ => ⟨by omega, b⟩, fun ⟨a, b, e⟩ => ⟨?_, b, e⟩⟩
                by_cases ei : i = d
                · subst ei
                  exact (hno b).elim
                · omega
              have hrow : ∀ j, j ∈ ks1 d ↔ j ∈ k0 d := fun j => by
                rw [hmid d hd j]
                exact ⟨fun h => h.elim id fun h => by omega, .inl⟩
              have hrowm : ∀ j, j ∈ ks1 m ↔ j ∈ k0 m := fun j => by
                rw [hmid m hm j]
                exact ⟨fun h => h.elim id fun h => (hmm h.2.1).elim, .inl⟩
              refine ⟨_, rfl, _, rfl, _, rfl, Ls, _, d, _, rfl, rfl, hd4.l, hd4.get hd, _, _, rfl, DGet.k (k := Sum.inl (m : Int)) (hd4.d d hd), _, rfl, ?_⟩
              rw [dk_val]
              refine ite2 (fun e => ?_) (fun e => ?_)
              · have hmd : m ∈ k0 d := (hrow m).mp (of_decide_eq_true e)
                have hne : m ≠ d := fun z => by
                  rw [← z] at hmd
                  exact hmm hmd
                refine ⟨_, rfl, _, rfl, m, d, rfl, rfl, true, ?_, ?_⟩
                · dsimp only
                  rw [decide_eq_false hne]
                  rfl
                refine iteT ?_
                refine ⟨_, rfl, _, rfl, Ls, _, m, _, rfl, rfl, hd4.l, hd4.get hm, _, _, rfl, hd4.d m hm, fun ql hql => ?_⟩
                rw [dk_kV]
                have hdq := hd4.mono (same_new (o := .lst (nums (ks1 m))) hql)
                have smq : Same H0 (upd H4 ql (.lst (nums (ks1 m)))) := sm4.trans (same_new hql)
                refine ⟨ql, rfl, ⟨_, SqL.of upd_same⟩, for_list (K := K) (a := ql) (xs := nums (ks1 m)) (fun t σ H' => ∃ v5 ks, σ = [some (.int (n : Int)), some (.ref pp), v2, some (.ref Ls), v4, v5, some (.int (m : Int)), some (.int (d : Int)), none, none] ∧ Same H0 H' ∧ H' ql = some (.lst (nums (ks1 m))) ∧ DsAt H' Ls n ds ks ∧ KS n c ks ∧ ∀ i, i < n → ∀ j, j ∈ ks i ↔ j ∈ ks1 i ∨ (i = d ∧ j ∈ (ks1 m).take t))
                  ⟨v5, ks1, rfl, smq, upd_same, hdq, hk4, fun i hi j => by simp⟩ (fun i σ H' _ ⟨_, _, _, _, h, _⟩ => SqL.of h) ?_ ?_⟩
                · rintro t x σ H5 hx ⟨v5, ks, rfl, sm5, hq5, hd5, hk5, hmem5⟩
                  obtain ⟨j, hj, rfl⟩ := nums_of hx
                  have hjm : j ∈ k0 m := (hrowm j).mp (List.mem_of_getElem? hj)
                  have pj := hk3.pot m hm j hjm
                  have pm := hk3.pot d hd m hmd
                  have nq : ql ≠ ds.getD d 0 := ne_of hq5 (hd5.d d hd) (by intro z; cases z)
                  refine ⟨_, rfl, _, rfl, Ls, _, d, _, rfl, rfl, hd5.l, hd5.get hd, _, rfl, _, _, rfl, DPut.k (k := Sum.inl (j : Int)) (hd5.d d hd) ?_, ?_⟩
                  · unfold dk
                    rw [List.length_map]
                    have := hk5.len hd
                    exact sz8 (by omega)
                  · rw [dk_put]
                    refine ⟨_, _, rfl, same_mut sm5 (hfree d hd), by rw [upd_ne nq]; exact hq5, hd5.put hd _, hk5.put hd pj.1 (Nat.lt_trans pj.2 pm.2), fun i hi l => ?_⟩
                    rw [List.take_add_one, hj]
                    by_cases ei : i = d
                    · subst ei
                      rw [if_pos rfl, mem_ins, hmem5 i hi l]
                      simp only [List.mem_append, Option.toList_some, List.mem_singleton, true_and]
                      exact ⟨fun h => h.elim (fun h => h.elim .inl fun h => .inr (.inl h)) fun h => .inr (.inr h), fun h => h.elim (fun h => .inl (.inl h)) fun h => h.elim (fun h => .inl (.inr h)) .inr⟩
                    · rw [if_neg ei, hmem5 i hi l]
                      exact ⟨fun h => h.elim .inl fun h => (ei h.1).elim, fun h => h.elim .inl fun h => (ei h.1).elim⟩
                · rintro σ H5 ⟨v5, ks, rfl, sm5, hq5, hd5, hk5, hmem5⟩
                  rw [nums_len, List.take_length] at hmem5
                  refine ⟨_, _, ks, rfl, sm5, hd5, hk5, fun i hi j => ?_⟩
                  rw [hmem5 i hi j, hmid i hi j]
                  constructor
                  · rintro ((h | ⟨h1, h2⟩) | ⟨h1, h2⟩)
                    · exact .inl h
                    · exact .inr ⟨by omega, h2⟩
                    · subst h1
                      exact .inr ⟨by omega, hmd, (hrowm j).mp h2⟩
                  · rintro (h | ⟨h1, h2, h3⟩)
                    · exact .inl (.inl h)
                    · by_cases ei : i = d
                      · exact .inr ⟨ei, (hrowm j).mpr h3⟩
                      · exact .inl (.inr ⟨by omega, h2, h3⟩)
              · have hno : m ∉ k0 d := fun z => e (decide_eq_true ((hrow m).mpr z))
                exact iteF ⟨_, _, ks1, rfl, sm4, hd4, hk4, stay hno⟩
            · rintro σ H4 ⟨v5, v7, ks1, rfl, sm4, hd4, hk4, hmid⟩
              refine ⟨_, _, _, ks1, rfl, sm4, hd4, hk4, fun k ij hk hij => ?_, ?_⟩
              · have hb := hL ij (List.mem_of_getElem? hij)
                exact (hmid ij.1 hb.1 ij.2).mpr (.inl (hin3 k ij hk hij))
              · have step := fw_step (R := RL n k0) (c := c) (m := m) (fun i j h => (hk3.pot i h.1 j h.2).2) htr
                have e : ∀ i j, RL n ks1 i j ↔ (RL n k0 i j ∨ (RL n k0 i m ∧ RL n k0 m j)) := fun i j => by
                  unfold RL
                  constructor
                  · rintro ⟨h1, h2⟩
                    rcases (hmid i h1 j).mp h2 with h | ⟨_, h3, h4⟩
                    · exact .inl ⟨h1, h⟩
                    · exact .inr ⟨⟨h1, h3⟩, hm, h4⟩
                  · rintro (⟨h1, h2⟩ | ⟨⟨h1, h2⟩, _, h4⟩)
                    · exact ⟨h1, (hmid i h1 j).mpr (.inl h2)⟩
                    · exact ⟨h1, (hmid i h1 j).mpr (.inr ⟨h1, h2, h4⟩)⟩
                intro k hk i j h1 h2
                exact (e i j).mpr (step k hk i j ((e i k).mp h1) ((e k j).mp h2))
          · rintro σ H3 ⟨v5, v6, v7, ks, rfl, sm3, hd3, hk3, hin3, htr⟩
            -- no ring
            refine ⟨_, rfl, n, rfl, by omega, for_up0 (n := n) (fun d σ H' => ∃ v7, σ = [some (.int (n : Int)), some (.ref pp), v2, some (.ref Ls), v4, v5, v6, v7, none, none] ∧ H' = H3) ⟨v7, rfl, rfl⟩ ?_ ?_⟩
            · rintro d σ H' hd ⟨v7, rfl, rfl⟩
              have hno : d ∉ ks d := fun h => Nat.lt_irrefl _ (hk3.pot d hd d h).2
              refine ⟨_, rfl, _, rfl, _, rfl, Ls, _, d, _, rfl, rfl, hd3.l, hd3.get hd, _, _, rfl, DGet.k (k := Sum.inl (d : Int)) (hd3.d d hd), _, rfl, ?_⟩
              rw [dk_val, decide_eq_false hno]
              exact iteF ⟨_, rfl, rfl⟩
            · rintro σ H' ⟨v7, rfl, rfl⟩
              -- the rows
              refine ⟨_, rfl, Ls, rfl, ⟨_, SqL.of hd3.l⟩, fun q1 hq1 => lc_list (K := K) (a := Ls) (xs := ds.map V.ref) (fun i H4 => ∃ (bs : List Addr) (rows : List (List Nat)), Same H' H4 ∧ H4 q1 = some (.lst (bs.map V.ref)) ∧ TupsAt H4 bs rows ∧ rows.length = i ∧ (∀ a ∈ bs, a ≠ q1) ∧ ∀ k row, rows[k]? = some row → row.Pairwise (· < ·) ∧ ∀ j, j ∈ row ↔ j ∈ ks k)
                ⟨[], [], same_new hq1, upd_same, ⟨rfl, fun k a row h => by simp at h⟩, rfl, (fun a ha => by cases ha), fun k row h => by simp at h⟩ (fun i H4 _ ⟨_, _, sm, _⟩ => SqL.of (sm _ _ hd3.l)) ?_ ?_⟩
              · rintro i x H4 hx ⟨bs, rows, sm4, hq4, htu, hrl, hbq, hrow⟩
                obtain ⟨a, ha, rfl⟩ := refs_of hx
                have hi : i < n := by
                  rw [← hdl]
                  exact (List.getElem?_eq_some_iff.mp ha).1
                have hai : ds.getD i 0 = a := by rw [List.getD_eq_getElem?_getD, ha]; rfl
                have hda4 : H4 a = some (.dK (dk (ks i))) := by
                  rw [← hai]
                  exact sm4 _ _ (hd3.d i hi)
                have hkl := hk3.len hi
                refine ⟨rfl, yesT ?_⟩
                refine ⟨_, rfl, a, _, (ks i).map fun (j : Nat) => (j : Int), rfl, Rd.of hda4, dk_keys _, ?_, fun ys p1 hperm hsrt hp1 => ?_⟩
                · rw [List.length_map]
                  omega
                obtain ⟨row, er, hr1, hr2⟩ := sorted_nat hperm hsrt (hk3.nd i hi)
                rw [er]
                refine ⟨p1, _, rfl, upd_same, fun t1 ht1 => ?_⟩
                have s1 : Same H4 (upd H4 p1 (.lst (nums row))) := same_new hp1
                have s2 : Same (upd H4 p1 (.lst (nums row))) (upd (upd H4 p1 (.lst (nums row))) t1 (.tup (nums row))) := same_new ht1
                have s12 := s1.trans s2
                have hq6 := s12 _ _ hq4
                have nt1 : t1 ≠ q1 := fun e => by
                  rw [e] at ht1
                  rw [s1 _ _ hq4] at ht1
                  cases ht1
                have hbl : bs.length = i := htu.1.trans hrl
                refine ⟨_, hq6, ?_, bs ++ [t1], rows ++ [row], same_mut (sm4.trans s12) hq1, ?_, ⟨?_, fun k a' row' hk hr' => ?_⟩, ?_, fun a' ha' => ?_, fun k row' hr' => ?_⟩
                · rw [List.length_map, hbl]
                  exact sz8 (by omega)
                · rw [upd_same, List.map_append]
                  rfl
                · rw [List.length_append, List.length_append, htu.1]
                  rfl
                · by_cases ek : k < i
                  · rw [List.getElem?_append_left (by omega)] at hk hr'
                    have h1 := s12 _ _ (htu.2 k a' row' hk hr')
                    rw [upd_ne (hbq a' (List.mem_of_getElem? hk))]
                    exact h1
                  · rw [List.getElem?_append_right (by omega)] at hk hr'
                    have e0 : k - bs.length = 0 := by
                      have := (List.getElem?_eq_some_iff.mp hk).1
                      simp at this
                      omega
                    have e1 : k - rows.length = 0 := by omega
                    rw [e0] at hk
                    rw [e1] at hr'
                    cases hk
                    cases hr'
                    rw [upd_ne nt1, upd_same]
                · rw [List.length_append, hrl]
                  rfl
                · rcases List.mem_append.mp ha' with h | h
                  · exact hbq a' h
                  · rw [List.mem_singleton] at h
                    rw [h]
                    exact nt1
                · by_cases ek : k < i
                  · rw [List.getElem?_append_left (by omega)] at hr'
                    exact hrow k row' hr'
                  · rw [List.getElem?_append_right (by omega)] at hr'
                    have e1 : k - rows.length = 0 := by
                      have := (List.getElem?_eq_some_iff.mp hr').1
                      simp at this
                      omega
                    rw [e1] at hr'
                    cases hr'
                    have : k = i := by omega
                    subst this
                    exact ⟨hr1, hr2⟩
              · rintro H4 ⟨bs, rows, sm4, hq4, htu, hrl, hbq, hrow⟩
                rw [List.length_map, hdl] at hrl
                refine ⟨q1, _, rfl, hq4, fun l nl => ?_⟩
                have s5 : Same H4 (upd H4 l (.tup (bs.map V.ref))) := same_new nl
                have hrel : ∀ i j, rel rows i j = true ↔ i < n ∧ j ∈ ks i := fun i j => by
                  unfold rel
                  rw [decide_eq_true_iff, List.getD_eq_getElem?_getD]
                  by_cases hi : i < n
                  · have hg : rows[i]? = some rows[i] := List.getElem?_eq_getElem (by omega)
                    rw [hg]
                    show j ∈ rows[i] ↔ _
                    rw [(hrow i _ hg).2 j]
                    exact ⟨fun h => ⟨hi, h⟩, fun h => h.2⟩
                  · rw [List.getElem?_eq_none (by omega)]
                    exact ⟨fun h => (by cases h), fun h => (hi h.1).elim⟩
                refine q _ l rows ((sm3.trans sm4).trans s5) ⟨bs, upd_same, htu.mono s5⟩ ⟨hrl, fun row hr => ?_, ⟨fun i => ?_, fun i j h => ?_, fun i j k h h' => ?_⟩⟩ (fun i j h => ?_) fun ij hij => ?_
                · obtain ⟨k, hk⟩ := List.getElem?_of_mem hr
                  exact (hrow k row hk).1
                · cases e : rel rows i i with
                  | false => rfl
                  | true =>
                    have h := (hrel i i).mp e
                    exact absurd (hk3.pot i h.1 i h.2).2 (Nat.lt_irrefl _)
                · have h := (hrel i j).mp h
                  exact ⟨h.1, (hk3.pot i h.1 j h.2).1⟩
                · have h := (hrel i j).mp h
                  have h' := (hrel j k).mp h'
                  exact (hrel i k).mpr (htr j h'.1 i k h h')
                · have h := (hrel i j).mp h
                  exact (hk3.pot i h.1 j h.2).2
                · obtain ⟨k, hk⟩ := List.getElem?_of_mem hij
                  exact (hrel ij.1 ij.2).mpr ⟨(hL ij hij).1, hin3 k ij (List.getElem?_eq_some_iff.mp hk).1 hk⟩
end
end WW

set_option Elab.async false
set_option linter.all false
set_option maxRecDepth 100000
set_option maxHeartbeats 4000000
/-! W9e: enumerate(t) of a tuple; calls by keywords alone -/
namespace WW
open PySem PySem.Spec PyProof.Rows L2
set_option maxHeartbeats 4000000 in
theorem meets_enum1 {v : Value} {o : Obj} {H : Heap → Prop} (B : Begins v o H) :
    Meets (Builtin.«enumerate.__new__» ⟨[.type "enumerate", v], []⟩) (fun _ R s => H s.heap ∧
      R (.ok (.ret (.ref (s.heap.push o).objs.size))) { s with heap := (s.heap.push o).push { cls := .type "enumerate", data := .fields #[.none, .bool false, .ref s.heap.objs.size, rawInt 0, .none, .none] } }) :=
  .of_wp fun prog w A R s h => by
    obtain ⟨hp, g, d, tk, os⟩ := s; obtain ⟨h1, h⟩ := h
    have hsub := sub_enumerate
    have q1 : ∀ {A' : Around} {E : Value → Shared → Prop} {Q : Value → Shared → Prop}, Q (.ref hp.objs.size) ⟨hp.push o, g, d, tk, os⟩ → wpAny (model prog w) A' (pyIter v) Q E ⟨hp, g, d, tk, os⟩ :=
      fun q => B.iter prog w _ _ ⟨hp, g, d, tk, os⟩ _ h1 q
    wp_walk using q1
    refine wpAny_stack_any fun st => wpAny_pure ?_
    split
    · rename_i c _ _ _ _ _
      cases (c == Value.type "enumerate")
      · wp_walk using q1
        exact ⟨_, rfl, h⟩
      · wp_walk using q1
        exact ⟨_, rfl, h⟩
    · wp_walk using q1
      exact ⟨_, rfl, h⟩
section
variable {prog : Program} {w : World} {A : Around} {E : Value → Shared → Prop} {s : Shared}
theorem enum1_begins {v : Value} {o : Obj} {H : Heap → Prop} {Q : Value → Shared → Prop} (B : Begins v o H) (h1 : H s.heap)
    (h : ∀ h', IsEnum h' (s.heap.objs.size + 1) s.heap.objs.size 0 .none → h'.get? s.heap.objs.size = some o → h'.objs.size = s.heap.objs.size + 2 →
      (∀ b o, s.heap.get? b = some o → h'.get? b = some o) → Q (.ref (s.heap.objs.size + 1)) { s with heap := h' }) :
    wpAny (model prog w) A (call (.type "enumerate") [v]) Q E s := by
  refine callType_new PySem.F.called_enumerate (by decide) (PySem.F.typeCall_enumerate_1 _) (PySem.F.newCall_enumerate_1 _) (fun obj => PySem.F.args_object_init_2 obj _) PySem.F.entry_enumerate_new
    (meets_enum1 B) ⟨h1, ?_⟩
  have hz : (s.heap.push o).objs.size = s.heap.objs.size + 1 := Heap.size_push ..
  show _ ∧ _
  rw [hz]
  have he : IsEnum ((s.heap.push o).push { cls := .type "enumerate", data := .fields #[.none, .bool false, .ref s.heap.objs.size, rawInt 0, .none, .none] }) (s.heap.objs.size + 1) s.heap.objs.size 0 .none := by
    have := Heap.get?_push_size (s.heap.push o) (o := { cls := .type "enumerate", data := .fields #[.none, .bool false, .ref s.heap.objs.size, rawInt 0, .none, .none] }) rfl
    rw [hz] at this; exact this
  refine ⟨⟨_, he, rfl⟩, h _ he (Heap.get?_push_of_some _ (Heap.get?_push_size _ B.free)) (by rw [Heap.size_push, hz]) fun b o x => Heap.get?_push_of_some _ (Heap.get?_push_of_some _ x)⟩
end
/-- enumerate over the tuple at a -/
def Iet (a : Addr) (xs : List V) : It :=
  ⟨fun i H => H a = some (.tup xs) ∧ i < xs.length, fun i H v H' => ∃ T x, v = .ref T ∧ H T = none ∧ H' = upd H T (.tup [.int (i : Nat), x]) ∧ xs[i]? = some x, fun i H => H a = some (.tup xs) ∧ xs.length ≤ i⟩
theorem turn_enumT {P : Program} {w : World} {K : PySem.W.Frag} {elts : List Expr} {kk : Nat} {tpos : Pos} (a e it : Addr) (xs : List V) :
    Turn P w K (.Tuple elts kk tpos) (Iet a xs) [e, it] e (fun i h => (∃ old, IsEnum h e it ((i : Nat) : Int) old) ∧ h.IsTupleIter it a i ∧ e ≠ it) where
  mem := by simp
  obj := fun i h st b hb => by
    obtain ⟨⟨old, he⟩, ⟨o, ho, hc, hd⟩, _⟩ := st
    have e' : b = e ∨ b = it := by simpa using hb
    rcases e' with z | z
    · rw [z]; exact ⟨_, he, fun v q => nomatch q⟩
    · rw [z]; exact ⟨o, ho, fun v q => by rw [hd] at q; cases q⟩
  keep := fun i h h' st k => let ⟨⟨old, he⟩, hi, hne⟩ := st; ⟨⟨old, k e (by simp) _ he⟩, hi.at fun o q => k it (by simp) o q, hne⟩
  item := by
    intro X hP hw hK hc i pins s σ H E I hf st hg
    subst hP hw hK
    obtain ⟨⟨old, he⟩, hit, hne⟩ := st
    obtain ⟨hq, hx⟩ := hg
    obtain ⟨its, rv, p, hz⟩ := I.tuple (SqT.of hq)
    have hl := rv.length
    have hel : e < s.heap.objs.size := Heap.lt_size he
    have hil : it < s.heap.objs.size := by obtain ⟨_, q, _⟩ := hit; exact Heap.lt_size q
    have nit : a ≠ it := fun z => by
      have h1 := (hf it (by simp)).1
      rw [← z, hq] at h1
      cases h1
    have nea : e ≠ a := fun z => by
      have h1 := (hf e (by simp)).1
      rw [z, hq] at h1
      cases h1
    have D := Draws.tuple (prog := X.prog) (w := X.w) (A := X.A.in1) (I.ok.hd hc) it a nit its.toArray
    refine wpAny_pyNext_enum_itemC D he ⟨hit, p⟩ (i := i) (by simp; omega) hne (by simp [hne, nea]) fun u h' tk hu ho hit' hT hsz hk => ?_
    have hu : its[i]? = some u := by simpa using hu
    have hxi : xs[i]? = some xs[i] := List.getElem?_eq_getElem hx
    obtain ⟨u', hu', ru'⟩ := rv.get hxi
    rw [hu] at hu'
    cases hu'
    refine ⟨_, rfl, wpAny_letOwnedTupleGo_enum (s := { s with heap := h', toks := tk + 1 }) ho fun h'' he' sb => ?_⟩
    have hT2 : h''.get? s.heap.objs.size = some { cls := .type "tuple", data := .seq #[.int i tk, u] } := (sb.2 _ (Nat.ne_of_gt hel)).trans hT
    have new : ObjOk X.prog X.w (upd H s.heap.objs.size (.tup [.int (i : Nat), xs[i]])) h'' s.heap.objs.size (.tup [.int (i : Nat), xs[i]]) :=
      ⟨by show 2 ≤ sizeLine; decide, [.int i tk, u], .cons ⟨_, rfl⟩ (.cons ru' .nil), ⟨_, hT2, rfl, _, rfl⟩⟩
    have I1 : Inv X pins σ (upd H s.heap.objs.size (.tup [.int (i : Nat), xs[i]])) { s with heap := h'', toks := tk + 1 } :=
      I.turnedNew (ch := [e, it]) (fun b ob hb q => (sb.2 b (fun z => hb (by simp [z]))).trans (hk b ob (fun z => hb (by simp [z])) (fun z => hb (by simp [z])) q)) hf (Nat.le_refl _) new
    refine ⟨.ref s.heap.objs.size, _, I1, rfl, ⟨_, xs[i], rfl, I.hok.fresh (Nat.le_refl _), rfl, hxi⟩, ⟨⟨u, ?_⟩, hit'.1.at fun o q => (sb.2 it (Ne.symm hne)).trans q, hne⟩, fun b hb => ?_⟩
    · have e1 : ((i + 1 : Nat) : Int) = (i : Int) + 1 := by omega
      rw [e1]; exact he'
    · have hb' : b < s.heap.objs.size := by
        have e' : b = e ∨ b = it := by simpa using hb
        rcases e' with z | z
        · rw [z]; exact hel
        · rw [z]; exact hil
      rw [upd_ne (Nat.ne_of_lt hb')]
      exact (hf b hb).1
  done := by
    intro X hP hw hK hc i pins s σ H E I hf st hg
    subst hP hw hK
    obtain ⟨⟨old, he⟩, hit, hne⟩ := st
    obtain ⟨hq, hx⟩ := hg
    obtain ⟨its, rv, p, hz⟩ := I.tuple (SqT.of hq)
    obtain ⟨f0, f1, f2, f3, f4, f5⟩ := hf it (by simp)
    have hl := rv.length
    have hT : s.TypeIs (.ref e) "enumerate" := ⟨_, he, rfl⟩
    unfold pyNext
    refine wpAny_bind (wpAny_attempt (wpAny_callSpecial?_slot (name := Str.ofString "__next__") hT PySem.F.slot_enumerate_next
      (wpAny_call_entry PySem.F.slot_enumerate_next hT PySem.F.entry_enumerate_next ?_ (PySem.F.args_enumerate_next_1 _))))
    show wpAny _ _ (field (.ref e) 2 >>= _) _ _ _
    refine wpAny_bind (wpAny_field he rfl (x := .ref it) rfl ?_)
    refine wpAny_bind (wpAny_nextOf_tuple_end (I.ok.hd hc) hit p (by simp; omega) fun h' x he' hx' => ?_)
    obtain ⟨o, ho, hcx⟩ := hx'
    refine wpAny_bind (wpAny_isInstance (T := "StopIteration") (b := true) ⟨o, ho, hcx⟩ isSubtype_stop ?_)
    refine wpAny_pure ?_
    exact ⟨rfl, I.turned (t' := s.toks) (fun b o hb q => he' b o hb q) f0 f1 f3 f4 f5⟩
  self := fun A i s Q E st h => let ⟨⟨_, he⟩, _⟩ := st; wpAny_pyIter_enum he h
def iEnT (ta : TA) : TI := fun σ H R => ta σ H fun vs H1 => ∃ a xs, vs = [.ref a] ∧ H1 a = some (.tup xs) ∧ R (Iet a xs) H1
theorem pi_enumT {X : Cx} {e : Expr} {ta : TA} {p pos tpos : Pos} {elts : List Expr} {kk : Nat} (hg : Gl X "enumerate") (hm : X.mg "enumerate" = none) (ha : PA X [e] ta) (hs : starEach [e] X.env = [(false, eval e X.env)] := by rfl) :
    PI X (.Tuple elts kk tpos) (.Call (.Name "enumerate" p) [e] [] pos) (iEnT ta) := by
  refine ⟨fun pins s σ H R I h => ?_⟩
  refine Call_ (ld_blt I hg hm boot_enumerate (PyProof.Rows.callWith_type1 (thn (ha.run pos pins s σ H _ I h) fun us s1 ⟨vs, H1, I1, r1, q1⟩ => ?_) hs rfl))
  obtain ⟨a, xs, ex, hq, q⟩ := q1
  subst ex
  cases r1 with
  | cons r rr =>
    cases rr
    cases r
    obtain ⟨its, rv, p', hz⟩ := I1.tuple (SqT.of hq)
    refine enum1_begins (begins_tuple a its.toArray) p' fun h' he hit hsz hk => wpAny_pyIter_enum he ?_
    have I2 : Inv X pins σ H1 { s1 with heap := h' } := I1.kept (t' := s1.toks) hk
    refine ⟨s1.heap.objs.size + 1, [s1.heap.objs.size + 1, s1.heap.objs.size], _, _, H1, rfl, I2, turn_enumT a (s1.heap.objs.size + 1) s1.heap.objs.size xs, ⟨⟨.none, he⟩, ⟨_, hit, rfl, rfl⟩, Nat.succ_ne_self _⟩, fun b hb => ?_, q⟩
    have e' : b = s1.heap.objs.size + 1 ∨ b = s1.heap.objs.size := by simpa using hb
    have hle : s1.heap.objs.size ≤ b := by
      rcases e' with z | z
      · rw [z]; exact Nat.le_add_right _ _
      · rw [z]; exact Nat.le_refl _
    exact I1.fpOk hle (I1.hok.fresh hle)
/-- the loop: Pv by the turn; the pair is a new tuple at T -/
theorem for_enT {a : Addr} {xs : List V} {g : TG} {tb : TS} {D : Ends} {σ : L2.St} {H : Hp} (Pv : Nat → L2.St → Hp → Prop) (h0 : Pv 0 σ H) (hl : ∀ i σ H, i ≤ xs.length → Pv i σ H → H a = some (.tup xs))
    (hs : ∀ i x σ H T, xs[i]? = some x → H T = none → Pv i σ H → g (.ref T) σ (upd H T (.tup [.int (i : Nat), x])) fun σ2 H2 => tb { D with nx := Pv (i + 1), ct := Pv (i + 1), bk := D.nx } σ2 H2) (hd : ∀ σ H, Pv xs.length σ H → D.nx σ H) :
    ∃ W : Nat → Nat → L2.St → Hp → Prop, (∃ m, W 0 m σ H) ∧ ∀ i m σ H, W i m σ H →
      ((Iet a xs).stop i H ∧ D.nx σ H) ∨ ((Iet a xs).go i H ∧ ∃ N : L2.St → Hp → Prop, (∀ σ' H', N σ' H' → ∃ m', m' < m ∧ W (i + 1) m' σ' H') ∧ ∀ x H', (Iet a xs).yld i H x H' → g x σ H' fun σ2 H2 => tb { D with nx := N, ct := N, bk := D.nx } σ2 H2) := by
  refine ⟨fun i m σ H => m = xs.length - i ∧ i ≤ xs.length ∧ Pv i σ H, ⟨xs.length, by simp, Nat.zero_le _, h0⟩, ?_⟩
  rintro i m σ H ⟨rfl, hi, p⟩
  have q := hl i σ H hi p
  by_cases hlt : i < xs.length
  · refine .inr ⟨⟨q, hlt⟩, Pv (i + 1), fun σ' H' p' => ⟨xs.length - (i + 1), by omega, rfl, hlt, p'⟩, fun x H' y => ?_⟩
    obtain ⟨T, v, rfl, hT, rfl, hv⟩ := y
    exact hs i v σ H T hv hT p
  · have e : i = xs.length := by omega
    subst e
    exact .inl ⟨⟨q, Nat.le_refl _⟩, hd σ H p⟩
/-! ### f(k = v, ..) -/
theorem pe_kw {X : Cx} {x : Str} {k m : Nat} {ps ks : List Str} {sp : Sp} {p pos : Pos} {kws : List Keyword} {tk : TA} (c : ∃ f fd, FnOk X.prog X.w X.K X.mg X.base CX0 k f fd ps sp ∧ X.mg x = some (.ref f) ∧ PySem.W.keepIn X.K (.ref f) = true ∧ KBn X.K fd ps 0 ks (fun _ ws => ws) (fun _ zs => zs)) (hr : Room m X.A) (hkm : k ≤ m) (hkw : PK X kws tk)
    (hg : Gl X x := by rfl) (hdb : (x == ("__debug__" : Str)) = false := by decide) (hall : (backToKw pos (keywordEach kws X.env)).all (·.1.isSome) = true := by rfl) (hks : (backToKw pos (keywordEach kws X.env)).filterMap (·.1) = ks := by rfl)
    (hpl : ((backTo pos (starEach [] X.env)).any (·.1) || (backToKw pos (keywordEach kws X.env)).any (·.1.isNone)) = false := by rfl) :
    PE X (.Call (.Name x p) [] kws pos) (fun σ H Q => tk σ H fun zs H1 => zs.length = ks.length ∧ sp zs H1 Q E0) := by
  obtain ⟨f, fd, F, hm, hk, hb⟩ := c
  refine ⟨fun pins s σ H Q I h => ?_⟩
  refine wpAny_Call_Name_kw (ld_glob I hg hm ?_ hdb)
  refine PySem.W.callWith_KW0 (h₀ := X.base) I.ok.mod.kin hk hall ?_ hpl
  refine thn (hkw.run pos pins s σ H _ I h) fun ws s2 ⟨zs, H2, I2, rz, l2, q2⟩ => ⟨I2.kIn, ?_⟩
  rw [hks]
  exact run_fnN (us := []) (vs := []) (n := 0) F (hr.mono hkm) hb pass0 I2 .nil rz rfl l2 q2
end WW

set_option Elab.async false
set_option linter.all false
set_option maxRecDepth 100000
set_option maxHeartbeats 4000000
/-! W9: is_set, lets_order, is_order -/
namespace WW
open PySem PySem.Spec PyProof.Rows L2
section
variable {X : Cx}
/-- a number in a tuple of numbers -/
def rInT : R2 := fun x y H Q => ∃ (a : Nat) (p : Addr) (l : List Nat), x = .int (a : Int) ∧ y = .ref p ∧ H p = some (.tup (nums l)) ∧ Q (.bl (decide (a ∈ l))) H
def rNinT : R2 := fun x y H Q => ∃ (a : Nat) (p : Addr) (l : List Nat), x = .int (a : Int) ∧ y = .ref p ∧ H p = some (.tup (nums l)) ∧ Q (.bl (!decide (a ∈ l))) H
theorem in_tup : OpR X (compareOp .In) rInT := OpR.of op_in_seq fun x y H Q ⟨a, p, l, e1, e2, h, q⟩ => ⟨p, _, e2, .inr (SqT.of h), by rw [e1]; rfl, nums_flat l, by
  rw [if_neg Bool.false_ne_true, e1, nums_in]
  exact q⟩
theorem nin_tup : OpR X (compareOp .NotIn) rNinT := OpR.of op_notIn_seq fun x y H Q ⟨a, p, l, e1, e2, h, q⟩ => ⟨p, _, e2, .inr (SqT.of h), by rw [e1]; rfl, nums_flat l, by
  rw [if_pos rfl, e1, nums_in]
  exact q⟩
end
theorem TupsAt.get {H : Hp} {as : List Addr} {rows : List (List Nat)} (h : TupsAt H as rows) {i : Nat} {row : List Nat} (hr : rows[i]? = some row) : ∃ a, as[i]? = some a ∧ H a = some (.tup (nums row)) := by
  have hi : i < as.length := by
    rw [h.1]
    exact (List.getElem?_eq_some_iff.mp hr).1
  exact ⟨_, List.getElem?_eq_getElem hi, h.2 i _ row (List.getElem?_eq_getElem hi) hr⟩
theorem row_at {rows : List (List Nat)} {i : Nat} (h : i < rows.length) : rows[i]? = some (rows.getD i []) := by
  rw [List.getD_eq_getElem?_getD, List.getElem?_eq_getElem h]
  rfl
theorem rel_iff {rows : List (List Nat)} {i j : Nat} : rel rows i j = true ↔ j ∈ rows.getD i [] := by
  unfold rel
  rw [decide_eq_true_iff]
theorem IsOrd.small {n : Nat} {rows : List (List Nat)} (h : IsOrd n rows) {i : Nat} (hi : i < n) : (rows.getD i []).length ≤ n := by
  have ha := h.asc _ (List.mem_of_getElem? (row_at (by rw [h.len]; exact hi)))
  refine nodup_le n _ (ha.imp fun h => Nat.ne_of_lt h) fun j hj => ?_
  exact (h.ord.lt i j (rel_iff.mpr hj)).2
section
variable {P : Program} {w : World} {K : PySem.W.Frag} {mg : Str → Option Value} {base : Heap}
/-! ### is_set -/
def spSet : Sp := fun vs H Q _ => ∃ (n : Nat) (p : Addr) (row : List Nat), vs = [.int (n : Int), .ref p] ∧ H p = some (.tup (nums row)) ∧ row.Pairwise (· < ·) ∧ (∀ j ∈ row, j < n) ∧ Q (.bl true) H
theorem scSet : FnScope ["size", "thing", "least", "value"] ["size", "thing"] (defScope (topS 11)) := ⟨rfl, rfl, rfl, by decide +kernel, rfl, by decide +kernel, by decide +kernel⟩
theorem cal_is_set (D : Dfn K mg "is_set" (topS 11) ["size", "thing"]) (B : Blt mg) (c1 : Cal P w K mg base "is_number" 2 ["thing"] spIsNumber) : Cal P w K mg base "is_set" 3 ["size", "thing"] spSet := by
  refine D.cal scSet (fun vs H Q E h => ?_) (fun f cdv A outer s H vs Q E hr h => ?_)
  · obtain ⟨n, p, row, rfl, _⟩ := h
    rfl
  · obtain ⟨n, p, row, rfl, hp, ha, hn, q⟩ := h
    refine ⟨_, pss_cons (ps_if (pt_not (pt_val (pe_callB call_isi (by rfl) B.isinstance (by decide +kernel) (pa_cons (pv 1) (pa_cons (pe_bltn (v := .ty "tuple") (by rfl) B.tuple (by decide +kernel) rfl) pa_nil))))) (pss_one ps_never) pss_nil)
      (pss_cons (ps_set (i := 2) scSet.nd rfl (Or.inl rfl) pe_int)
      (pss_cons (ps_for PassesOwn.never rfl (pi_tup (pv 1)) (pg_name (i := 3) scSet.nd rfl (Or.inl rfl))
        (pss_cons (ps_if (PW.pt (pw_or (pt_not (pt_val (pe_cal c1 hr (by decide) (pa_cons (pv 3) pa_nil)))) (pw_or (pt_cmpR n_lt (pv 3) (pv 2) (nomark _)) (pw_or1 (pt_cmpR n_ge (pv 3) (pv 0) (nomark _)))))) (pss_one ps_never) pss_nil)
        (pss_one (ps_set (i := 2) scSet.nd rfl (Or.inl rfl) (pe_op n_add (pv 3) pe_int)))))
      (pss_one (ps_ret pe_bl)))), ?_⟩
    refine ⟨_, rfl, _, _, _, _, true, rfl, .ty _, .base (.tup hp), kit_ty (by decide +kernel), true, rfl, iteF ?_⟩
    refine ⟨_, rfl, p, rfl, ⟨_, SqT.of hp⟩, for_tup (K := K) (a := p) (xs := nums row) (fun i σ H' => ∃ (le : Nat) (v3 : Option V), σ = [some (.int (n : Int)), some (.ref p), some (.int (le : Int)), v3] ∧ H' = H ∧ ∀ (k v : Nat), i ≤ k → row[k]? = some v → le ≤ v)
      ⟨0, none, rfl, rfl, fun _ _ _ _ => Nat.zero_le _⟩ (fun i σ H' _ ⟨_, _, _, e, _⟩ => e ▸ SqT.of hp) ?_ ?_⟩
    · rintro i x σ H' hx ⟨le, v3, rfl, rfl, hle⟩
      obtain ⟨v, hv, rfl⟩ := nums_of hx
      have h1 := hle i v (Nat.le_refl _) hv
      have h2 := hn v (List.mem_of_getElem? hv)
      refine ⟨_, rfl, v, rfl, true, rfl, iteF ?_⟩
      refine ⟨_, rfl, _, rfl, v, le, rfl, rfl, false, congrArg V.bl (decide_eq_false (by omega)), iteF ?_⟩
      refine ⟨_, rfl, _, rfl, v, n, rfl, rfl, false, congrArg V.bl (decide_eq_false (by omega)), iteF ?_⟩
      refine ⟨_, rfl, v, 1, rfl, rfl, v + 1, _, rfl, rfl, fun k u hk hu => ?_⟩
      have hik : i < k := by omega
      obtain ⟨b1, e1⟩ := List.getElem?_eq_some_iff.mp hv
      obtain ⟨b2, e2⟩ := List.getElem?_eq_some_iff.mp hu
      have := List.pairwise_iff_getElem.mp ha i k b1 b2 hik
      rw [e1, e2] at this
      exact this
    · rintro σ H' ⟨le, v3, rfl, rfl, _⟩
      exact q
/-! ### lets_order, is_order -/
def spLets : Sp := fun vs H Q _ => ∃ (n : Nat) (p : Addr) (rows : List (List Nat)), vs = [.int (n : Int), .ref p] ∧ OrdAt H p rows ∧ IsOrd n rows ∧ n ≤ 8 ∧ ∀ H' (v : V), Same H H' → Q v H'
theorem scLets : FnScope ["size", "thing", "i", "lower", "j", "k"] ["size", "thing"] (defScope (topS 21)) := ⟨rfl, rfl, rfl, by decide +kernel, rfl, by decide +kernel, by decide +kernel⟩
theorem cal_lets_order (D : Dfn K mg "lets_order" (topS 21) ["size", "thing"]) (B : Blt mg) (c1 : Cal P w K mg base "is_set" 3 ["size", "thing"] spSet) : Cal P w K mg base "lets_order" 4 ["size", "thing"] spLets := by
  refine D.cal scLets (fun vs H Q E h => ?_) (fun f cdv A outer s H vs Q E hr h => ?_)
  · obtain ⟨n, p, rows, rfl, _⟩ := h
    rfl
  · obtain ⟨n, p, rows, rfl, ho, hO, hn8, q⟩ := h
    obtain ⟨as, hp, ht⟩ := ho
    have hal : as.length = n := ht.1.trans hO.len
    refine ⟨_, pss_cons (ps_if (PW.pt (pw_or (pt_not (pt_val (pe_callB call_isi (by rfl) B.isinstance (by decide +kernel) (pa_cons (pv 1) (pa_cons (pe_bltn (v := .ty "tuple") (by rfl) B.tuple (by decide +kernel) rfl) pa_nil)))))
        (pw_or1 (pt_cmpR n_ne (pe_callB c_len (by rfl) B.len PySem.boot_len (pa_cons (pv 1) pa_nil)) (pv 0) (nomark _))))) (pss_one ps_never) pss_nil)
      (pss_cons (ps_for PassesOwn.never rfl (pi_enumT rfl B.enumerate (pa_cons (pv 1) pa_nil)) (pg_tup rfl (pgs_cons (pg_name (i := 2) scLets.nd rfl (Or.inl rfl)) (pgs_cons (pg_name (i := 3) scLets.nd rfl (Or.inl rfl)) pgs_nil)))
        (pss_cons (ps_if (pt_not (pt_val (pe_cal c1 hr (by decide) (pa_cons (pv 0) (pa_cons (pv 3) pa_nil))))) (pss_one ps_never) pss_nil)
        (pss_one (ps_if (pt_cmpR in_tup (pv 2) (pv 3) (by rfl)) (pss_one ps_never) pss_nil))))
      (pss_cons (ps_for PassesOwn.never rfl (pi_enumT rfl B.enumerate (pa_cons (pv 1) pa_nil)) (pg_tup rfl (pgs_cons (pg_name (i := 2) scLets.nd rfl (Or.inl rfl)) (pgs_cons (pg_name (i := 3) scLets.nd rfl (Or.inl rfl)) pgs_nil)))
        (pss_one (ps_for PassesOwn.never rfl (pi_tup (pv 3)) (pg_name (i := 4) scLets.nd rfl (Or.inl rfl))
          (pss_one (ps_for PassesOwn.never rfl (pi_tup (pe_ix ixt (pv 1) (pv 4) (fun _ _ => rfl))) (pg_name (i := 5) scLets.nd rfl (Or.inl rfl))
            (pss_one (ps_if (pt_cmpR nin_tup (pv 5) (pv 3) (by rfl)) (pss_one ps_never) pss_nil)))))))
      (pss_one (ps_ret (pe_callB (c_sum rfl) (by rfl) B.sum (by decide +kernel) (pa_cons (pe_lc (own := [("lower", 3)]) (g := gName 3) rfl scLets.nd (pi_tup (pv 1)) (blkOk_by (own := [("lower", 3)]) (N := ["size", "thing", "i", "lower", "j", "k"]) (sc := defScope (topS 21)) (by decide +kernel))
        (fun _ _ _ _ _ => pg_name (i := 3) scLets.nd rfl (Or.inl rfl)) (fun _ _ _ _ _ => pts_nil) (fun _ _ _ _ _ => pe_callB c_len (by rfl) B.len PySem.boot_len (pa_cons (pv 3) pa_nil))) pa_nil)))))), ?_⟩
    refine ⟨_, rfl, _, _, _, _, true, rfl, .ty _, .base (.tup hp), kit_ty (by decide +kernel), true, rfl, iteF ?_⟩
    refine ⟨_, rfl, p, _, n, rfl, .inr hp, by rw [List.length_map]; exact hal, _, rfl, n, n, rfl, rfl, false, ?_, iteF ?_⟩
    · show V.bl (!decide (n = n)) = _
      rw [decide_eq_true rfl]
      rfl
    have rowAt : ∀ i a, as[i]? = some a → i < n ∧ rows[i]? = some (rows.getD i []) ∧ (∀ H', Same H H' → H' a = some (.tup (nums (rows.getD i [])))) := fun i a ha => by
      have hi : i < n := by
        rw [← hal]
        exact (List.getElem?_eq_some_iff.mp ha).1
      have hr := row_at (rows := rows) (i := i) (by rw [hO.len]; exact hi)
      exact ⟨hi, hr, fun H' sm => sm _ _ (ht.2 i a _ ha hr)⟩
    refine ⟨_, rfl, p, _, rfl, hp, for_enT (a := p) (xs := as.map V.ref) (fun i σ H' => ∃ v2 v3, σ = [some (.int (n : Int)), some (.ref p), v2, v3, none, none] ∧ Same H H') ⟨none, none, rfl, Same.refl H⟩ (fun i σ H' _ ⟨_, _, _, sm⟩ => sm _ _ hp) ?_ ?_⟩
    · rintro i x σ H' T hx hT ⟨v2, v3, rfl, sm⟩
      obtain ⟨a, ha, rfl⟩ := refs_of hx
      obtain ⟨hi, hr, hrow⟩ := rowAt i a ha
      have smT := sm.trans (same_new (o := .tup [.int (i : Int), .ref a]) hT)
      refine ⟨T, _, rfl, SqT.of upd_same, rfl, _, _, rfl, _, _, rfl, rfl, ?_⟩
      refine ⟨_, rfl, _, rfl, n, a, _, rfl, hrow _ smT, hO.asc _ (List.mem_of_getElem? hr), fun j hj => (hO.ord.lt i j (rel_iff.mpr hj)).2, true, rfl, iteF ?_⟩
      refine ⟨_, rfl, _, rfl, i, a, _, rfl, rfl, hrow _ smT, false, congrArg V.bl ?_, iteF ⟨_, _, rfl, smT⟩⟩
      exact hO.ord.irr i
    · rintro σ H1 ⟨v2, v3, rfl, sm1⟩
      refine ⟨_, rfl, p, _, rfl, sm1 _ _ hp, for_enT (a := p) (xs := as.map V.ref) (fun i σ H' => ∃ v2 v3 v4 v5, σ = [some (.int (n : Int)), some (.ref p), v2, v3, v4, v5] ∧ Same H H') ⟨v2, v3, none, none, rfl, sm1⟩ (fun i σ H' _ ⟨_, _, _, _, _, sm⟩ => sm _ _ hp) ?_ ?_⟩
      · rintro i x σ H' T hx hT ⟨v2, v3, v4, v5, rfl, sm⟩
        obtain ⟨a, ha, rfl⟩ := refs_of hx
        obtain ⟨hi, hr, hrow⟩ := rowAt i a ha
        have smT := sm.trans (same_new (o := .tup [.int (i : Int), .ref a]) hT)
        refine ⟨T, _, rfl, SqT.of upd_same, rfl, _, _, rfl, _, _, rfl, rfl, ?_⟩
        refine ⟨_, rfl, a, rfl, ⟨_, SqT.of (hrow _ smT)⟩, for_tup (K := K) (a := a) (xs := nums (rows.getD i [])) (fun t σ H2 => ∃ v4 v5, σ = [some (.int (n : Int)), some (.ref p), some (.int (i : Int)), some (.ref a), v4, v5] ∧ Same H H2) ⟨v4, v5, rfl, smT⟩ (fun t σ H2 _ ⟨_, _, _, sm⟩ => SqT.of (hrow _ sm)) ?_ ?_⟩
        · rintro t x σ H2 hx ⟨v4, v5, rfl, sm2⟩
          obtain ⟨j, hj, rfl⟩ := nums_of hx
          have hij := rel_iff.mpr (List.mem_of_getElem? hj)
          have hjn := (hO.ord.lt i j hij).2
          obtain ⟨b, hb⟩ : ∃ b, as[j]? = some b := ⟨_, List.getElem?_eq_getElem (by omega)⟩
          obtain ⟨_, hr2, hrow2⟩ := rowAt j b hb
          refine ⟨_, rfl, _, rfl, p, _, j, _, rfl, rfl, sm2 _ _ hp, refs_get hb, b, rfl, ⟨_, SqT.of (hrow2 _ sm2)⟩, for_tup (K := K) (a := b) (xs := nums (rows.getD j [])) (fun t σ H3 => ∃ v5, σ = [some (.int (n : Int)), some (.ref p), some (.int (i : Int)), some (.ref a), some (.int (j : Int)), v5] ∧ Same H H3) ⟨v5, rfl, sm2⟩ (fun t σ H3 _ ⟨_, _, sm⟩ => SqT.of (hrow2 _ sm)) ?_ ?_⟩
          · rintro t2 x σ H3 hx ⟨v5, rfl, sm3⟩
            obtain ⟨k, hk, rfl⟩ := nums_of hx
            have hjk := rel_iff.mpr (List.mem_of_getElem? hk)
            have hik := rel_iff.mp (hO.ord.tr i j k hij hjk)
            refine ⟨_, rfl, _, rfl, k, a, _, rfl, rfl, hrow _ sm3, false, congrArg V.bl ?_, iteF ⟨_, rfl, sm3⟩⟩
            rw [decide_eq_true hik]
            rfl
          · rintro σ H3 ⟨v5, rfl, sm3⟩
            exact ⟨_, _, rfl, sm3⟩
        · rintro σ H2 ⟨v4, v5, rfl, sm2⟩
          exact ⟨_, _, _, _, rfl, sm2⟩
      · rintro σ H2 ⟨v2, v3, v4, v5, rfl, sm2⟩
        refine ⟨_, rfl, p, rfl, ⟨_, SqT.of (sm2 _ _ hp)⟩, fun d hd => lc_tup (K := K) (a := p) (xs := as.map V.ref) (fun i H' => ∃ l : List Nat, Same H H' ∧ l.length = i ∧ H' d = some (.lst (nums l))) ⟨[], sm2.trans (same_new hd), rfl, upd_same⟩ (fun i H' _ ⟨_, sm, _⟩ => SqT.of (sm _ _ hp)) ?_ ?_⟩
        · rintro i x H' hx ⟨l, sm, hll, hl⟩
          obtain ⟨a, ha, rfl⟩ := refs_of hx
          obtain ⟨hi, hr, hrow⟩ := rowAt i a ha
          have hdn : H d = none := sm2.free hd
          refine ⟨rfl, yesT ?_⟩
          refine ⟨_, rfl, a, _, (rows.getD i []).length, rfl, .inr (hrow _ sm), nums_len _, _, hl, ?_, l ++ [(rows.getD i []).length], same_mut sm hdn, by rw [List.length_append, hll]; rfl, by rw [upd_same, nums_app]⟩
          rw [nums_len, hll]
          exact sz8 (by omega)
        · rintro H' ⟨l, sm, _, hl⟩
          exact ⟨d, l, rfl, hl, q H' _ sm⟩
def spIsOrder : Sp := fun vs H Q _ => ∃ (n : Nat) (p : Addr) (rows : List (List Nat)), vs = [.int (n : Int), .ref p] ∧ OrdAt H p rows ∧ IsOrd n rows ∧ n ≤ 8 ∧ ∀ H', Same H H' → Q (.bl true) H'
theorem scIsOrder : FnScope ["size", "thing"] ["size", "thing"] (defScope (topS 22)) := ⟨rfl, rfl, rfl, by decide +kernel, rfl, by decide +kernel, by decide +kernel⟩
theorem cal_is_order (D : Dfn K mg "is_order" (topS 22) ["size", "thing"]) (c1 : Cal P w K mg base "lets_order" 4 ["size", "thing"] spLets) : Cal P w K mg base "is_order" 5 ["size", "thing"] spIsOrder := by
  refine D.cal scIsOrder (fun vs H Q E h => ?_) (fun f cdv A outer s H vs Q E hr h => ?_)
  · obtain ⟨n, p, rows, rfl, _⟩ := h
    rfl
  · obtain ⟨n, p, rows, rfl, ho, hO, hn8, q⟩ := h
    refine ⟨_, pss_cons (ps_try_thru0 (pss_one (ps_expr (pe_cal c1 hr (by decide) (pa_cons (pv 0) (pa_cons (pv 1) pa_nil)))))) (pss_one (ps_ret pe_bl)), ?_⟩
    exact ⟨_, rfl, _, rfl, n, p, rows, rfl, ho, hO, hn8, fun H' v sm => q H' sm⟩
end
end WW

set_option Elab.async false
set_option linter.all false
set_option maxRecDepth 100000
set_option maxHeartbeats 4000000
/-! W10: spans_by, loose_tie, _fitting_spans, _board_by, straight_board -/
namespace WW
open PySem PySem.Spec PyProof.Rows L2
theorem pr_add {r : Nat → Nat} {S : Nat → Bool} {n j : Nat} (hj : j < n) (h : S j = false) : pr r (fun i => S i || decide (i = j)) n = pr r S n * r j := by
  rw [pr_union fun i _ hi => by
    have : i ≠ j := fun e => by
      rw [e, h] at hi
      cases hi
    simp [this], pr_one, if_pos hj]
/-- the order of the rows fits the ranges -/
def FitR (rs : List Nat) (rows : List (List Nat)) : Prop := Fit rs.length (rr rs) (rel rows)
theorem fit_of {rs : List Nat} {rows : List (List Nat)} (g : Rgs rs) (h : IsOrd rs.length rows) (ht : Fits rs.length (tie rs) (rel rows)) : FitR rs rows :=
  ⟨h.ord, g.ge2, fun i j hi hj hne hc => ht i j hi hj (by
    unfold tie
    have h1 : Nat.gcd (rr rs i) (rr rs j) ≠ 1 := hc
    have h2 : 0 < Nat.gcd (rr rs i) (rr rs j) := Nat.gcd_pos_of_pos_left _ (by have := g.ge2 i hi; omega)
    have h3 : 1 < Nat.gcd (rr rs i) (rr rs j) := by omega
    simp [hne, h3])⟩
/-- the weights' list -/
structure StB (rs : List Nat) (O : Rel) (L : List (Nat × Nat)) : Prop where
  len : L.length = rs.length
  at_ : ∀ i, i < rs.length → L[i]? = some (rr rs i, wt rs.length (rr rs) O i)
structure BoardAt (H : Hp) (p : Addr) (W : Nat) (L : List (Nat × Nat)) : Prop where
  ex : ∃ d : Addr, H p = some (.tup [.int (W : Int), .ref d]) ∧ PairsAt H d L
structure SpL (rs : List Nat) (O : Rel) (sp : List Nat) : Prop where
  len : sp.length = rs.length
  at_ : ∀ i, i < rs.length → sp[i]? = some (span rs.length (rr rs) O i)
section
variable {P : Program} {w : World} {K : PySem.W.Frag} {mg : Str → Option Value} {base : Heap}
/-! ### spans_by -/
def spSpans : Sp := fun vs H Q _ => ∃ (a p : Addr) (rs : List Nat) (rows : List (List Nat)), vs = [.ref a, .ref p] ∧ H a = some (.tup (nums rs)) ∧ Rgs rs ∧ OrdAt H p rows ∧ IsOrd rs.length rows ∧
  ∀ H' q sp, Same H H' → H' q = some (.tup (nums sp)) → SpL rs (rel rows) sp → Q (.ref q) H'
theorem scSpans : FnScope ["ranges", "order", "spans", "dial", "span", "other"] ["ranges", "order"] (defScope (topS 26)) := ⟨rfl, rfl, rfl, by decide +kernel, rfl, by decide +kernel, by decide +kernel⟩
theorem cal_spans_by (D : Dfn K mg "spans_by" (topS 26) ["ranges", "order"]) (B : Blt mg) (c1 : Cal P w K mg base "is_order" 5 ["size", "thing"] spIsOrder) : Cal P w K mg base "spans_by" 6 ["ranges", "order"] spSpans := by
  refine D.cal scSpans (fun vs H Q E h => ?_) (fun f cdv A outer s H vs Q E hr h => ?_)
  · obtain ⟨a, p, rs, rows, rfl, _⟩ := h
    rfl
  · obtain ⟨a, p, rs, rows, rfl, ha, g, ho, hO, q⟩ := h
    obtain ⟨as, hp, ht⟩ := id ho
    have hn8 := g.len
    refine ⟨_, pss_cons (ps_if (pt_not (pt_val (pe_cal c1 hr (by decide) (pa_cons (pe_callB c_len (by rfl) B.len PySem.boot_len (pa_cons (pv 0) pa_nil)) (pa_cons (pv 1) pa_nil))))) (pss_one ps_never) pss_nil)
      (pss_cons (ps_set (i := 2) scSpans.nd rfl (Or.inl rfl) (pe_lst pa_nil))
      (pss_cons (ps_for PassesOwn.never rfl (pi_enumT rfl B.enumerate (pa_cons (pv 0) pa_nil)) (pg_tup rfl (pgs_cons (pg_name (i := 3) scSpans.nd rfl (Or.inl rfl)) (pgs_cons (pg_name (i := 4) scSpans.nd rfl (Or.inl rfl)) pgs_nil)))
        (pss_cons (ps_for PassesOwn.never rfl (pi_tup (pe_ix ixt (pv 1) (pv 3) (fun _ _ => rfl))) (pg_name (i := 5) scSpans.nd rfl (Or.inl rfl))
          (pss_one (ps_set (i := 4) scSpans.nd rfl (Or.inl rfl) (pe_op x_mul (pv 4) (pe_ix ixt (pv 0) (pv 5) (fun _ _ => rfl))))))
        (pss_one (ps_expr (pe_bm PySem.F.plainAttrs_list PySem.F.slot_list_append PySem.F.type_list_append mt_append (pv 2) (pa_cons (pv 4) pa_nil))))))
      (pss_one (ps_ret (pe_callTy c_tuple (by rfl) B.tuple (by decide +kernel) (pa_cons (pv 2) pa_nil)))))), ?_⟩
    refine ⟨_, rfl, a, _, rs.length, rfl, .inr ha, nums_len _, _, rfl, rs.length, p, rows, rfl, ho, hO, hn8, fun H0 sm0 => ⟨true, rfl, iteF ?_⟩⟩
    refine ⟨Nat.zero_le _, fun sl hsl => ?_⟩
    refine ⟨_, rfl, a, _, rfl, same_new hsl _ _ (sm0 _ _ ha), for_enT (a := a) (xs := nums rs) (fun i σ H' => ∃ (v3 v4 v5 : Option V) (sp : List Nat), σ = [some (.ref a), some (.ref p), some (.ref sl), v3, v4, v5] ∧ Same H0 H' ∧ H' sl = some (.lst (nums sp)) ∧ sp.length = i ∧ ∀ (k : Nat), k < i → sp[k]? = some (span rs.length (rr rs) (rel rows) k))
      ⟨none, none, none, [], rfl, same_new hsl, upd_same, rfl, fun k hk => by omega⟩ (fun i σ H' _ ⟨_, _, _, _, _, sm, _⟩ => sm _ _ (sm0 _ _ ha)) ?_ ?_⟩
    · rintro i x σ H' T hx hT ⟨v3, v4, v5, sp, rfl, sm, hl, hsl', hsp⟩
      obtain ⟨r0, hr0, rfl⟩ := nums_of hx
      have hi : i < rs.length := (List.getElem?_eq_some_iff.mp hr0).1
      have eri := rr_get hr0
      subst eri
      have smT := sm.trans (same_new (o := .tup [.int (i : Int), .int ((rr rs i : Nat) : Int)]) hT)
      have hlT : (upd H' T (.tup [.int (i : Int), .int ((rr rs i : Nat) : Int)])) sl = some (.lst (nums sp)) := same_new hT _ _ hl
      refine ⟨T, _, rfl, SqT.of upd_same, rfl, _, _, rfl, _, _, rfl, rfl, ?_⟩
      have hri := row_at (rows := rows) (i := i) (by rw [hO.len]; exact hi)
      obtain ⟨b, hb, hrow⟩ := ht.get hri
      have hnd := (hO.asc _ (List.mem_of_getElem? hri)).imp (fun h => Nat.ne_of_lt h)
      refine ⟨_, rfl, _, rfl, p, _, i, _, rfl, rfl, smT _ _ (sm0 _ _ hp), refs_get hb, b, rfl, ⟨_, SqT.of (smT _ _ (sm0 _ _ hrow))⟩, for_tup (K := K) (a := b) (xs := nums (rows.getD i [])) (fun t σ H2 => ∃ v5, σ = [some (.ref a), some (.ref p), some (.ref sl), some (.int (i : Int)), some (.int ((pr (rr rs) (fun j => decide (j = i) || decide (j ∈ (rows.getD i []).take t)) rs.length : Nat) : Int)), v5] ∧ H2 = upd H' T (.tup [.int (i : Int), .int ((rr rs i : Nat) : Int)]))
        ⟨v5, ?_, rfl⟩ (fun t σ H2 _ ⟨_, _, e⟩ => e ▸ SqT.of (smT _ _ (sm0 _ _ hrow))) ?_ ?_⟩
      · have : pr (rr rs) (fun j => decide (j = i) || decide (j ∈ (rows.getD i []).take 0)) rs.length = rr rs i := by
          have e : pr (rr rs) (fun j => decide (j = i)) rs.length = rr rs i := by rw [pr_one, if_pos hi]
          rw [← e]
          exact pr_congr fun j _ => by simp
        rw [this]
        rfl
      · rintro t x σ H2 hx ⟨v5, rfl, rfl⟩
        obtain ⟨j, hj, rfl⟩ := nums_of hx
        have hij := rel_iff.mpr (List.mem_of_getElem? hj)
        have hjn := (hO.ord.lt i j hij).2
        have hne : j ≠ i := fun e => by
          rw [e, hO.ord.irr] at hij
          cases hij
        have hnot : j ∉ (rows.getD i []).take t := fun hm => by
          obtain ⟨k, hk⟩ := List.getElem?_of_mem hm
          rw [List.getElem?_take] at hk
          split at hk
          · rename_i hkt
            have := nd_ix hnd hk hj
            omega
          · cases hk
        refine ⟨_, rfl, _, rfl, _, rfl, a, _, j, _, rfl, rfl, smT _ _ (sm0 _ _ ha), nums_get (rr_at hjn), _, _, pr (rr rs) (fun j => decide (j = i) || decide (j ∈ (rows.getD i []).take (t + 1))) rs.length, rfl, rfl, ⟨g.pr_lt (Nat.le_refl _), g.el_lt⟩, ?_, _, rfl, rfl⟩
        dsimp only
        rw [← pr_add hjn (S := fun k => decide (k = i) || decide (k ∈ (rows.getD i []).take t)) (by
          show (decide (j = i) || decide (j ∈ (rows.getD i []).take t)) = false
          rw [decide_eq_false hne, decide_eq_false hnot]
          rfl)]
        refine pr_congr fun k _ => ?_
        rw [List.take_add_one, hj]
        simp [Bool.or_assoc]
      · rintro σ H2 ⟨v5, rfl, rfl⟩
        rw [nums_len, List.take_length]
        have e : pr (rr rs) (fun j => decide (j = i) || decide (j ∈ rows.getD i [])) rs.length = span rs.length (rr rs) (rel rows) i := rfl
        rw [e]
        refine ⟨_, rfl, .inl ⟨rfl, _, SqL.of hlT⟩, _, rfl, sl, _, _, rfl, rfl, hlT, ?_, ?_⟩
        · rw [nums_len, hsl']
          exact sz8 (by omega)
        · refine ⟨_, _, _, sp ++ [span rs.length (rr rs) (rel rows) i], rfl, same_mut smT hsl, by rw [upd_same, nums_app], by rw [List.length_append, hsl']; rfl, fun k hk => ?_⟩
          by_cases ek : k < i
          · rw [List.getElem?_append_left (by omega)]
            exact hsp k ek
          · have : k = i := by omega
            subst this
            rw [List.getElem?_append_right (by omega), hsl', Nat.sub_self]
            rfl
    · rintro σ H' ⟨v3, v4, v5, sp, rfl, sm, hl, hsl', hsp⟩
      rw [nums_len] at hsl' hsp
      refine ⟨_, rfl, sl, _, rfl, hl, fun l nl => ?_⟩
      exact q _ l sp ((sm0.trans sm).trans (same_new nl)) upd_same ⟨hsl', hsp⟩
/-! ### loose_tie, _fitting_spans -/
def spLoose : Sp := fun vs H Q _ => ∃ (a p : Addr) (rs : List Nat) (rows : List (List Nat)), vs = [.ref a, .ref p] ∧ H a = some (.tup (nums rs)) ∧ Rgs rs ∧ OrdAt H p rows ∧ IsOrd rs.length rows ∧ Fits rs.length (tie rs) (rel rows) ∧ Q .non H
theorem scLoose : FnScope ["ranges", "order", "one", "other"] ["ranges", "order"] (defScope (topS 19)) := ⟨rfl, rfl, rfl, by decide +kernel, rfl, by decide +kernel, by decide +kernel⟩
theorem cal_loose_tie (D : Dfn K mg "loose_tie" (topS 19) ["ranges", "order"]) (B : Blt mg) (c1 : Cal P w K mg base "gcd_of" 3 ["many", "other"] spGcd) : Cal P w K mg base "loose_tie" 4 ["ranges", "order"] spLoose := by
  refine D.cal scLoose (fun vs H Q E h => ?_) (fun f cdv A outer s H vs Q E hr h => ?_)
  · obtain ⟨a, p, rs, rows, rfl, _⟩ := h
    rfl
  · obtain ⟨a, p, rs, rows, rfl, ha, g, ho, hO, hF, q⟩ := h
    obtain ⟨as, hp, ht⟩ := id ho
    have hn8 := g.len
    refine ⟨_, pss_cons (ps_for PassesOwn.never rfl (up1_run rfl B.range (pa_cons (pe_callB c_len (by rfl) B.len PySem.boot_len (pa_cons (pv 0) pa_nil)) pa_nil)) (pg_name (i := 2) scLoose.nd rfl (Or.inl rfl))
        (pss_one (ps_for PassesOwn.never rfl (up2_run rfl B.range (pa_cons (pe_op n_add (pv 2) pe_int) (pa_cons (pe_callB c_len (by rfl) B.len PySem.boot_len (pa_cons (pv 0) pa_nil)) pa_nil))) (pg_name (i := 3) scLoose.nd rfl (Or.inl rfl))
          (pss_cons (ps_if (PW.pt (pw_or (pt_cmpR in_tup (pv 2) (pe_ix ixt (pv 1) (pv 3) (fun _ _ => rfl)) (by rfl)) (pw_or1 (pt_cmpR in_tup (pv 3) (pe_ix ixt (pv 1) (pv 2) (fun _ _ => rfl)) (by rfl))))) (pss_one ps_continue) pss_nil)
          (pss_one (ps_if (pt_cmpR n_gt (pe_cal c1 hr (by decide) (pa_cons (pe_ix ixt (pv 0) (pv 2) (fun _ _ => rfl)) (pa_cons (pe_ix ixt (pv 0) (pv 3) (fun _ _ => rfl)) pa_nil))) pe_int (nomark _)) (pss_one ps_never) pss_nil))))))
      (pss_one (ps_ret pe_non)), ?_⟩
    refine ⟨_, rfl, a, _, rs.length, rfl, .inr ha, nums_len _, _, rfl, by omega, for_up0 (n := rs.length) (fun i σ H' => ∃ v2 v3, σ = [some (.ref a), some (.ref p), v2, v3] ∧ H' = H) ⟨none, none, rfl, rfl⟩ ?_ ?_⟩
    · rintro i σ H' hi ⟨v2, v3, rfl, rfl⟩
      refine ⟨_, rfl, i, 1, rfl, rfl, _, rfl, a, _, rs.length, rfl, .inr ha, nums_len _, i + 1, rs.length, rfl, by omega, by omega, for_up (lo := i + 1) (n := rs.length - (i + 1)) (fun t σ H2 => ∃ v3, σ = [some (.ref a), some (.ref p), some (.int (i : Int)), v3] ∧ H2 = H') ⟨v3, rfl, rfl⟩ ?_ ?_⟩
      · rintro t σ H' ht2 ⟨v3, rfl, rfl⟩
        have hjn : i + 1 + t < rs.length := by omega
        generalize hj : i + 1 + t = j at hjn
        obtain ⟨b1, e1, h1⟩ := ht.get (row_at (rows := rows) (i := i) (by rw [hO.len]; exact hi))
        obtain ⟨b2, e2, h2⟩ := ht.get (row_at (rows := rows) (i := j) (by rw [hO.len]; exact hjn))
        refine ⟨_, rfl, _, rfl, _, rfl, p, _, j, _, rfl, rfl, hp, refs_get e2, i, b2, _, rfl, rfl, h2, _, rfl, ite2 (fun e => ?_) (fun e => ?_)⟩
        · exact iteT ⟨_, rfl, rfl⟩
        · have e : rel rows j i = false := by simpa [rel] using e
          refine ⟨_, rfl, _, rfl, _, rfl, p, _, i, _, rfl, rfl, hp, refs_get e1, j, b1, _, rfl, rfl, h1, _, rfl, ite2 (fun e' => ?_) (fun e' => ?_)⟩
          · exact ⟨_, rfl, rfl⟩
          · have e' : rel rows i j = false := by simpa [rel] using e'
            have nt : tie rs i j = false := by
              cases z : tie rs i j with
              | false => rfl
              | true =>
                rcases hF i j hi hjn z with w' | w'
                · rw [e'] at w'
                  cases w'
                · rw [e] at w'
                  cases w'
            have hg : ¬ 1 < Nat.gcd (rr rs i) (rr rs j) := fun h => by
              have hne : i ≠ j := by omega
              unfold tie at nt
              simp [hne, h] at nt
            refine ⟨_, rfl, _, rfl, a, _, i, _, rfl, rfl, ha, nums_get (rr_at hi), _, rfl, _, rfl, a, _, j, _, rfl, rfl, ha, nums_get (rr_at hjn), rr rs i, rr rs j, rfl, _, 1, rfl, rfl, false, congrArg V.bl (decide_eq_false hg), iteF ⟨_, rfl, rfl⟩⟩
      · rintro σ H' ⟨v3, rfl, rfl⟩
        exact ⟨_, _, rfl, rfl⟩
    · rintro σ H' ⟨v2, v3, rfl, rfl⟩
      exact q
def spFitting : Sp := fun vs H Q _ => ∃ (a p : Addr) (rs : List Nat) (rows : List (List Nat)), vs = [.ref a, .ref p] ∧ H a = some (.tup (nums rs)) ∧ Rgs rs ∧ OrdAt H p rows ∧ IsOrd rs.length rows ∧ Fits rs.length (tie rs) (rel rows) ∧
  ∀ H' q sp, Same H H' → H' q = some (.tup (nums sp)) → SpL rs (rel rows) sp → Q (.ref q) H'
theorem scFitting : FnScope ["ranges", "order", "spans", "pair"] ["ranges", "order"] (defScope (topS 38)) := ⟨rfl, rfl, rfl, by decide +kernel, rfl, by decide +kernel, by decide +kernel⟩
theorem cal_fitting (D : Dfn K mg "_fitting_spans" (topS 38) ["ranges", "order"]) (c1 : Cal P w K mg base "spans_by" 6 ["ranges", "order"] spSpans) (c2 : Cal P w K mg base "loose_tie" 4 ["ranges", "order"] spLoose) : Cal P w K mg base "_fitting_spans" 7 ["ranges", "order"] spFitting := by
  refine D.cal scFitting (fun vs H Q E h => ?_) (fun f cdv A outer s H vs Q E hr h => ?_)
  · obtain ⟨a, p, rs, rows, rfl, _⟩ := h
    rfl
  · obtain ⟨a, p, rs, rows, rfl, ha, g, ho, hO, hF, q⟩ := h
    refine ⟨_, pss_cons (ps_set (i := 2) scFitting.nd rfl (Or.inl rfl) (pe_cal c1 hr (by decide) (pa_cons (pv 0) (pa_cons (pv 1) pa_nil))))
      (pss_cons (ps_set (i := 3) scFitting.nd rfl (Or.inl rfl) (pe_cal c2 hr (by decide) (pa_cons (pv 0) (pa_cons (pv 1) pa_nil))))
      (pss_cons (ps_if (pt_cmpR op_notN (pv 3) pe_non (nomark _)) (pss_one ps_never) pss_nil)
      (pss_one (ps_ret (pv 2))))), ?_⟩
    refine ⟨_, rfl, _, rfl, a, p, rs, rows, rfl, ha, g, ho, hO, fun H1 sq sp sm hs hsp => ?_⟩
    refine ⟨_, rfl, _, rfl, a, p, rs, rows, rfl, sm _ _ ha, g, ho.mono sm, hO, hF, ?_⟩
    refine ⟨_, rfl, rfl, false, rfl, iteF ?_⟩
    exact ⟨_, rfl, q H1 sq sp sm hs hsp⟩
/-! ### _board_by, straight_board -/
def spBoard : Sp := fun vs H Q _ => ∃ (a q m : Addr) (rs sp : List Nat) (rows : List (List Nat)), vs = [.ref a, .ref q, .ref m] ∧ H a = some (.tup (nums rs)) ∧ Rgs rs ∧ H q = some (.tup (nums sp)) ∧ SpL rs (rel rows) sp ∧ H m = some (.lst (nums (List.replicate rs.length 1))) ∧
  ∀ H' p L, Same H H' → BoardAt H' p (whole rs) L → StB rs (rel rows) L → Q (.ref p) H'
theorem scBoard : FnScope ["ranges", "spans", "multipliers", "wheel", "dials", "dial", "span"] ["ranges", "spans", "multipliers"] (defScope (topS 39)) := ⟨rfl, rfl, rfl, by decide +kernel, rfl, by decide +kernel, by decide +kernel⟩
theorem cal_board_by (D : Dfn K mg "_board_by" (topS 39) ["ranges", "spans", "multipliers"]) (B : Blt mg) (c1 : Cal P w K mg base "product_of" 1 ["ranges"] spProd) : Cal P w K mg base "_board_by" 2 ["ranges", "spans", "multipliers"] spBoard := by
  refine D.cal scBoard (fun vs H Q E h => ?_) (fun f cdv A outer s H vs Q E hr h => ?_)
  · obtain ⟨a, q, m, rs, sp, rows, rfl, _⟩ := h
    rfl
  · obtain ⟨a, qs, m, rs, sp, rows, rfl, ha, g, hq, hsp, hm, q⟩ := h
    have hn8 := g.len
    refine ⟨_, pss_cons (ps_set (i := 3) scBoard.nd rfl (Or.inl rfl) (pe_cal c1 hr (by decide) (pa_cons (pv 0) pa_nil)))
      (pss_cons (ps_set (i := 4) scBoard.nd rfl (Or.inl rfl) (pe_lst pa_nil))
      (pss_cons (ps_for PassesOwn.never rfl (pi_enumT rfl B.enumerate (pa_cons (pv 1) pa_nil)) (pg_tup rfl (pgs_cons (pg_name (i := 5) scBoard.nd rfl (Or.inl rfl)) (pgs_cons (pg_name (i := 6) scBoard.nd rfl (Or.inl rfl)) pgs_nil)))
        (pss_one (ps_expr (pe_bm PySem.F.plainAttrs_list PySem.F.slot_list_append PySem.F.type_list_append mt_append (pv 4) (pa_cons (pe_tup (pa_cons (pe_ix ixt (pv 0) (pv 5) (fun _ _ => rfl)) (pa_cons (pe_op x_mul (pe_ix ixl (pv 2) (pv 5) (fun _ _ => rfl)) (pe_op x_div (pv 3) (pv 6))) pa_nil))) pa_nil)))))
      (pss_one (ps_ret (pe_tup (pa_cons (pv 3) (pa_cons (pe_callTy c_tuple (by rfl) B.tuple (by decide +kernel) (pa_cons (pv 4) pa_nil)) pa_nil))))))), ?_⟩
    refine ⟨_, rfl, a, rs, rfl, ha, g, ?_⟩
    refine ⟨Nat.zero_le _, fun dl hdl => ?_⟩
    have hW : whole rs < 2 ^ 9000 := g.pr_lt (Nat.le_refl _)
    refine ⟨_, rfl, qs, _, rfl, same_new hdl _ _ hq, for_enT (a := qs) (xs := nums sp) (fun i σ H' => ∃ (v5 v6 : Option V) (as : List Addr) (L : List (Nat × Nat)), σ = [some (.ref a), some (.ref qs), some (.ref m), some (.int ((whole rs : Nat) : Int)), some (.ref dl), v5, v6] ∧ Same H H' ∧ H' dl = some (.lst (as.map V.ref)) ∧ as.length = i ∧ L.length = i ∧ (∀ (k : Nat) (b : Addr) (ij : Nat × Nat), as[k]? = some b → L[k]? = some ij → H' b = some (.tup [.int (ij.1 : Int), .int (ij.2 : Int)])) ∧ (∀ b ∈ as, b ≠ dl) ∧ ∀ k, k < i → L[k]? = some (rr rs k, wt rs.length (rr rs) (rel rows) k))
      ⟨none, none, [], [], rfl, same_new hdl, upd_same, rfl, rfl, (fun k b ij h => by simp at h), (fun b hb => by cases hb), fun k hk => by omega⟩ (fun i σ H' _ ⟨_, _, _, _, _, sm, _⟩ => sm _ _ hq) ?_ ?_⟩
    · rintro i x σ H' T hx hT ⟨v5, v6, as, L, rfl, sm, hl, hal, hLl, hel, hne, hat⟩
      obtain ⟨s0, hs0, rfl⟩ := nums_of hx
      have hi : i < rs.length := by
        rw [← hsp.len]
        exact (List.getElem?_eq_some_iff.mp hs0).1
      have es := hsp.at_ i hi
      rw [hs0] at es
      have es : s0 = span rs.length (rr rs) (rel rows) i := Option.some.inj es
      subst es
      have sT : Same H' (upd H' T (.tup [.int (i : Int), .int ((span rs.length (rr rs) (rel rows) i : Nat) : Int)])) := same_new hT
      have smT := sm.trans sT
      refine ⟨T, _, rfl, SqT.of upd_same, rfl, _, _, rfl, _, _, rfl, rfl, ?_⟩
      have hsl : span rs.length (rr rs) (rel rows) i < 2 ^ 9000 := g.pr_lt (Nat.le_refl _)
      have hspos : 0 < span rs.length (rr rs) (rel rows) i := pr_pos fun j hj => by have := g.ge2 j hj; omega
      have hwl : wt rs.length (rr rs) (rel rows) i < 2 ^ 9000 := Nat.lt_of_le_of_lt (Nat.div_le_self _ _) hW
      refine ⟨_, rfl, .inl ⟨rfl, _, SqL.of (sT _ _ hl)⟩, ?_⟩
      refine ⟨_, rfl, _, rfl, a, _, i, _, rfl, rfl, smT _ _ ha, nums_get (rr_at hi), _, rfl, _, rfl, m, _, i, _, rfl, rfl, smT _ _ hm, nums_get (n := 1) (by rw [List.getElem?_replicate, if_pos hi]), ?_⟩
      refine ⟨_, rfl, _, rfl, whole rs, span rs.length (rr rs) (rel rows) i, wt rs.length (rr rs) (rel rows) i, rfl, rfl, ⟨hspos, hsl⟩, rfl, 1, wt rs.length (rr rs) (rel rows) i, wt rs.length (rr rs) (rel rows) i, rfl, rfl, ⟨Nat.one_lt_two_pow (by decide), hwl⟩, Nat.one_mul _, by show 2 ≤ sizeLine; decide, fun t ht => ?_⟩
      have st := sT.trans (same_new (o := .tup [.int ((rr rs i : Nat) : Int), .int ((wt rs.length (rr rs) (rel rows) i : Nat) : Int)]) ht)
      have hlt := st _ _ hl
      have ntd : t ≠ dl := fun e => by
        rw [e, sT _ _ hl] at ht
        cases ht
      refine ⟨dl, _, _, rfl, rfl, hlt, ?_, ?_⟩
      · rw [List.length_map, hal]
        exact sz8 (by omega)
      · refine ⟨_, _, as ++ [t], L ++ [(rr rs i, wt rs.length (rr rs) (rel rows) i)], rfl, same_mut (sm.trans st) hdl, ?_, by rw [List.length_append, hal]; rfl, by rw [List.length_append, hLl]; rfl, fun k b ij hk hij => ?_, fun b hb => ?_, fun k hk => ?_⟩
        · rw [upd_same, List.map_append]
          rfl
        · by_cases ek : k < i
          · rw [List.getElem?_append_left (by omega)] at hk hij
            rw [upd_ne (hne b (List.mem_of_getElem? hk))]
            exact st _ _ (hel k b ij hk hij)
          · have e0 : k - as.length = 0 := by
              rw [List.getElem?_append_right (by omega)] at hk
              have := (List.getElem?_eq_some_iff.mp hk).1
              simp at this
              omega
            rw [List.getElem?_append_right (by omega), e0] at hk
            rw [List.getElem?_append_right (by omega), show k - L.length = 0 by omega] at hij
            cases hk
            cases hij
            rw [upd_ne ntd, upd_same]
        · rcases List.mem_append.mp hb with h | h
          · exact hne b h
          · rw [List.mem_singleton] at h
            rw [h]
            exact ntd
        · by_cases ek : k < i
          · rw [List.getElem?_append_left (by omega)]
            exact hat k ek
          · have : k = i := by omega
            subst this
            rw [List.getElem?_append_right (by omega), hLl, Nat.sub_self]
            rfl
    · rintro σ H' ⟨v5, v6, as, L, rfl, sm, hl, hal, hLl, hel, hne, hat⟩
      rw [nums_len, hsp.len] at hal hLl hat
      refine ⟨_, rfl, _, rfl, dl, _, rfl, hl, fun t ht => ?_⟩
      have s1 : Same H' (upd H' t (.tup (as.map V.ref))) := same_new ht
      refine ⟨by show 2 ≤ sizeLine; decide, fun p hp => ?_⟩
      have s2 := s1.trans (same_new (o := .tup [.int ((whole rs : Nat) : Int), .ref t]) hp)
      refine q _ p L (sm.trans s2) ⟨t, upd_same, ⟨as, same_new hp _ _ upd_same, by rw [hal, hLl], fun k b ij h1 h2 => s2 _ _ (hel k b ij h1 h2)⟩⟩ ⟨hLl, hat⟩
def spStraight : Sp := fun vs H Q _ => ∃ (a p : Addr) (rs : List Nat) (rows : List (List Nat)), vs = [.ref a, .ref p] ∧ H a = some (.tup (nums rs)) ∧ Rgs rs ∧ OrdAt H p rows ∧ IsOrd rs.length rows ∧ Fits rs.length (tie rs) (rel rows) ∧
  ∀ H' q L, Same H H' → BoardAt H' q (whole rs) L → StB rs (rel rows) L → Q (.ref q) H'
theorem scStraight : FnScope ["ranges", "order", "spans"] ["ranges", "order"] (defScope (topS 40)) := ⟨rfl, rfl, rfl, by decide +kernel, rfl, by decide +kernel, by decide +kernel⟩
theorem cal_straight (D : Dfn K mg "straight_board" (topS 40) ["ranges", "order"]) (B : Blt mg) (c1 : Cal P w K mg base "_fitting_spans" 7 ["ranges", "order"] spFitting) (c2 : Cal P w K mg base "_board_by" 2 ["ranges", "spans", "multipliers"] spBoard) : Cal P w K mg base "straight_board" 8 ["ranges", "order"] spStraight := by
  refine D.cal scStraight (fun vs H Q E h => ?_) (fun f cdv A outer s H vs Q E hr h => ?_)
  · obtain ⟨a, p, rs, rows, rfl, _⟩ := h
    rfl
  · obtain ⟨a, p, rs, rows, rfl, ha, g, ho, hO, hF, q⟩ := h
    refine ⟨_, pss_cons (ps_set (i := 2) scStraight.nd rfl (Or.inl rfl) (pe_cal c1 hr (by decide) (pa_cons (pv 0) (pa_cons (pv 1) pa_nil))))
      (pss_one (ps_ret (pe_cal c2 hr (by decide) (pa_cons (pv 0) (pa_cons (pv 2) (pa_cons (pe_op op_rep (pe_lst (pa_cons pe_int pa_nil)) (pe_callB c_len (by rfl) B.len PySem.boot_len (pa_cons (pv 2) pa_nil))) pa_nil)))))), ?_⟩
    refine ⟨_, rfl, _, rfl, a, p, rs, rows, rfl, ha, g, ho, hO, hF, fun H1 sq sp sm hs hsp => ?_⟩
    have hn8 := g.len
    refine ⟨_, rfl, _, rfl, by show 1 ≤ sizeLine; decide, fun l hl => ?_⟩
    have s1 : Same H1 (upd H1 l (.lst [.int 1])) := same_new hl
    refine ⟨_, rfl, sq, _, rs.length, rfl, .inr (s1 _ _ hs), by rw [nums_len]; exact hsp.len, ?_⟩
    refine ⟨l, (rs.length : Int), [.int 1], rfl, rfl, upd_same, by omega, by omega, ?_, fun m hm => ?_⟩
    · rw [Int.toNat_natCast]
      show 1 * rs.length ≤ sizeLine
      exact sz8' (by omega)
    · have s2 := s1.trans (same_new (o := .lst (List.replicate (rs.length : Int).toNat ([V.int 1])).flatten) hm)
      refine ⟨a, sq, m, rs, sp, rows, rfl, s2 _ _ (sm _ _ ha), g, s2 _ _ hs, hsp, ?_, fun H3 q3 L sm3 hb hst => q H3 q3 L ((sm.trans s2).trans sm3) hb hst⟩
      rw [upd_same]
      have : ∀ n : Nat, (List.replicate n ([V.int 1])).flatten = nums (List.replicate n 1) := fun n => by
        induction n with
        | zero => rfl
        | succ n ih =>
          rw [List.replicate_succ, List.flatten_cons, ih, List.replicate_succ]
          rfl
      rw [this]
      rfl
end
end WW

set_option Elab.async false
set_option linter.all false
set_option maxRecDepth 100000
set_option maxHeartbeats 4000000
/-! W11: order_by_colours, shallow_board -/
namespace WW
open PySem PySem.Spec PyProof.Rows L2
def colN (cl : List Nat) (i : Nat) : Nat := cl.getD i 0
section
variable {P : Program} {w : World} {K : PySem.W.Frag} {mg : Str → Option Value} {base : Heap}
def spByCol : Sp := fun vs H Q _ => ∃ (m c : Addr) (n : Nat) (T : Rel) (ms cl : List Nat), vs = [.ref m, .ref c] ∧ H m = some (.lst (nums ms)) ∧ IsM n T ms ∧ (∀ i j, T i j = true → j < n) ∧ H c = some (.tup (nums cl)) ∧ cl.length = n ∧ n ≤ 8 ∧
  ∀ H' q rows, Same H H' → OrdAt H' q rows → IsOrd n rows → Mono (rel rows) (colN cl) → (∀ i j, i < n → T i j = true → colN cl j < colN cl i → rel rows i j = true) → Q (.ref q) H'
theorem scByCol : FnScope ["masks", "colours", "pairs", "i", "j"] ["masks", "colours"] (defScope (topS 33)) := ⟨rfl, rfl, rfl, by decide +kernel, rfl, by decide +kernel, by decide +kernel⟩
theorem cal_by_colours (D : Dfn K mg "order_by_colours" (topS 33) ["masks", "colours"]) (B : Blt mg) (c1 : Cal P w K mg base "members" 1 ["mask"] spMembers) (c2 : Cal P w K mg base "order_of" 3 ["size", "pairs"] spOrder) : Cal P w K mg base "order_by_colours" 4 ["masks", "colours"] spByCol := by
  refine D.cal scByCol (fun vs H Q E h => ?_) (fun f cdv A outer s H vs Q E hr h => ?_)
  · obtain ⟨m, c, n, T, ms, cl, rfl, _⟩ := h
    rfl
  · obtain ⟨m, c, n, T, ms, cl, rfl, hm, IM, hT, hc, hcl, hn8, q⟩ := h
    have h256 := pow8 hn8
    refine ⟨_, pss_cons (ps_set (i := 2) scByCol.nd rfl (Or.inl rfl) (pe_lst pa_nil))
      (pss_cons (ps_for PassesOwn.never rfl (up1_run rfl B.range (pa_cons (pe_callB c_len (by rfl) B.len PySem.boot_len (pa_cons (pv 0) pa_nil)) pa_nil)) (pg_name (i := 3) scByCol.nd rfl (Or.inl rfl))
        (pss_one (ps_for PassesOwn.never rfl (pi_tup (pe_cal c1 hr (by decide) (pa_cons (pe_ix ixl (pv 0) (pv 3) (fun _ _ => rfl)) pa_nil))) (pg_name (i := 4) scByCol.nd rfl (Or.inl rfl))
          (pss_one (ps_if (pt_cmpR n_gt (pe_ix ixt (pv 1) (pv 3) (fun _ _ => rfl)) (pe_ix ixt (pv 1) (pv 4) (fun _ _ => rfl)) (nomark _))
            (pss_one (ps_expr (pe_bm PySem.F.plainAttrs_list PySem.F.slot_list_append PySem.F.type_list_append mt_append (pv 2) (pa_cons (pe_tup (pa_cons (pv 3) (pa_cons (pv 4) pa_nil))) pa_nil)))) pss_nil)))))
      (pss_one (ps_ret (pe_cal c2 hr (by decide) (pa_cons (pe_callB c_len (by rfl) B.len PySem.boot_len (pa_cons (pv 0) pa_nil)) (pa_cons (pe_callTy c_tuple (by rfl) B.tuple (by decide +kernel) (pa_cons (pv 2) pa_nil)) pa_nil)))))), ?_⟩
    have hcn : ∀ i, i < n → cl[i]? = some (colN cl i) := fun i hi => getD_get (by omega)
    -- the pairs found so far
    let St := fun (i t : Nat) (row : List Nat) (pl : Addr) (H' : Hp) => ∃ (as : List Addr) (L : List (Nat × Nat)), Same H H' ∧ H' pl = some (.lst (as.map V.ref)) ∧ as.length = L.length ∧ L.length ≤ 8 * i + t ∧ (∀ (k : Nat) (b : Addr) (ij : Nat × Nat), as[k]? = some b → L[k]? = some ij → H' b = some (.tup [.int (ij.1 : Int), .int (ij.2 : Int)])) ∧ (∀ b ∈ as, b ≠ pl) ∧
      (∀ ij ∈ L, ij.1 < n ∧ ij.2 < n ∧ colN cl ij.2 < colN cl ij.1) ∧ (∀ k j, k < i → T k j = true → colN cl j < colN cl k → (k, j) ∈ L) ∧ ∀ j, j ∈ row.take t → colN cl j < colN cl i → (i, j) ∈ L
    refine ⟨Nat.zero_le _, fun pl hpl => ?_⟩
    refine ⟨_, rfl, m, _, n, rfl, .inl (same_new hpl _ _ hm), by rw [nums_len]; exact IM.len, n, rfl, by omega, for_up0 (n := n) (fun i σ H' => ∃ v3 v4, σ = [some (.ref m), some (.ref c), some (.ref pl), v3, v4] ∧ St i 0 [] pl H')
      ⟨none, none, rfl, [], [], same_new hpl, upd_same, rfl, Nat.zero_le _, (fun k b ij h => by simp at h), (fun b hb => by cases hb), (fun ij h => by cases h), (fun k j hk => by omega), fun j hj => by cases hj⟩ ?_ ?_⟩
    · rintro i σ H1 hi ⟨v3, v4, rfl, as, L, sm, hl, hal, hLl, hel, hne, hLs, hin, _⟩
      obtain ⟨mi, gm, bm⟩ := IM.at hi
      have hmi : mi < 2 ^ n := IM.lt hT gm
      refine ⟨_, rfl, _, rfl, m, _, i, _, rfl, rfl, sm _ _ hm, nums_get gm, mi, rfl, by omega, fun H2 tp sm2 ftp htp => ?_⟩
      refine ⟨tp, rfl, ⟨_, SqT.of htp⟩, for_tup (K := K) (a := tp) (xs := nums (bits mi)) (fun t σ H' => ∃ v4, σ = [some (.ref m), some (.ref c), some (.ref pl), some (.int (i : Int)), v4] ∧ H' tp = some (.tup (nums (bits mi))) ∧ St i t (bits mi) pl H')
        ⟨v4, rfl, htp, as, L, sm.trans sm2, sm2 _ _ hl, hal, hLl, fun k b ij h1 h2 => sm2 _ _ (hel k b ij h1 h2), hne, hLs, hin, fun j hj => by simp at hj⟩ (fun t σ H' _ ⟨_, _, h, _⟩ => SqT.of h) ?_ ?_⟩
      · rintro t x σ H3 hx ⟨v4, rfl, htp3, as, L, sm, hl, hal, hLl, hel, hne, hLs, hin, hrow⟩
        obtain ⟨j, hj, rfl⟩ := nums_of hx
        have hmj : mi.testBit j = true := (mem_bits (by omega)).mp (List.mem_of_getElem? hj)
        have hjn : j < n := bit_lt hmi hmj
        have ht8 : t < 8 := Nat.lt_of_lt_of_le (List.getElem?_eq_some_iff.mp hj).1 (bits_len mi)
        have ntp : tp ≠ pl := fun e => by
          rw [e, hl] at htp3
          cases htp3
        refine ⟨_, rfl, _, rfl, c, _, i, _, rfl, rfl, sm _ _ hc, nums_get (hcn i hi), _, rfl, _, rfl, c, _, j, _, rfl, rfl, sm _ _ hc, nums_get (hcn j hjn), colN cl i, colN cl j, rfl, rfl, _, rfl, ite2 (fun e => ?_) (fun e => ?_)⟩
        · have e : colN cl j < colN cl i := of_decide_eq_true e
          refine ⟨_, rfl, .inl ⟨rfl, _, SqL.of hl⟩, _, rfl, _, rfl, by show 2 ≤ sizeLine; decide, fun p hp => ?_⟩
          have s1 : Same H3 (upd H3 p (.tup [.int (i : Int), .int (j : Int)])) := same_new hp
          have npl : p ≠ pl := fun e => by
            rw [e, hl] at hp
            cases hp
          refine ⟨pl, _, _, rfl, rfl, s1 _ _ hl, ?_, ?_⟩
          · rw [List.length_map, hal]
            exact sz8 (by omega)
          · refine ⟨_, rfl, by rw [upd_ne ntp]; exact s1 _ _ htp3, as ++ [p], L ++ [(i, j)], same_mut (sm.trans s1) hpl, ?_, by rw [List.length_append, List.length_append, hal]; rfl, by rw [List.length_append]; show L.length + 1 ≤ _; omega, fun k b ij hk hij => ?_, fun b hb => ?_, fun ij hij => ?_, fun k l hk hkl hc2 => List.mem_append_left _ (hin k l hk hkl hc2), fun l hlt hc2 => ?_⟩
            · rw [upd_same, List.map_append]
              rfl
            · by_cases ek : k < as.length
              · rw [List.getElem?_append_left (by omega)] at hk hij
                rw [upd_ne (hne b (List.mem_of_getElem? hk))]
                exact s1 _ _ (hel k b ij hk hij)
              · have e0 : k - as.length = 0 := by
                  rw [List.getElem?_append_right (by omega)] at hk
                  have := (List.getElem?_eq_some_iff.mp hk).1
                  simp at this
                  omega
                rw [List.getElem?_append_right (by omega), e0] at hk
                rw [List.getElem?_append_right (by omega), show k - L.length = 0 by omega] at hij
                cases hk
                cases hij
                rw [upd_ne npl, upd_same]
            · rcases List.mem_append.mp hb with h | h
              · exact hne b h
              · rw [List.mem_singleton] at h
                rw [h]
                exact npl
            · rcases List.mem_append.mp hij with h | h
              · exact hLs ij h
              · rw [List.mem_singleton] at h
                rw [h]
                exact ⟨hi, hjn, e⟩
            · rw [List.take_add_one, hj] at hlt
              rcases List.mem_append.mp hlt with h | h
              · exact List.mem_append_left _ (hrow l h hc2)
              · have : l = j := by simpa using h
                rw [this]
                exact List.mem_append_right _ (List.mem_singleton.mpr rfl)
        · have e : ¬ colN cl j < colN cl i := fun h => e (decide_eq_true h)
          refine ⟨_, rfl, htp3, as, L, sm, hl, hal, by omega, hel, hne, hLs, hin, fun l hlt hc2 => ?_⟩
          rw [List.take_add_one, hj] at hlt
          rcases List.mem_append.mp hlt with h | h
          · exact hrow l h hc2
          · have : l = j := by simpa using h
            rw [this] at hc2
            exact (e hc2).elim
      · rintro σ H3 ⟨v4, rfl, htp3, as, L, sm, hl, hal, hLl, hel, hne, hLs, hin, hrow⟩
        rw [nums_len] at hLl hrow
        rw [List.take_length] at hrow
        have := bits_len mi
        refine ⟨_, _, rfl, as, L, sm, hl, hal, by omega, hel, hne, hLs, fun k j hk hkj hc2 => ?_, fun j hj => by simp at hj⟩
        by_cases ek : k = i
        · subst ek
          exact hrow j ((mem_bits (by omega)).mpr (by rw [bm]; exact hkj)) hc2
        · exact hin k j (by omega) hkj hc2
    · rintro σ H1 ⟨v3, v4, rfl, as, L, sm, hl, hal, hLl, hel, hne, hLs, hin, _⟩
      refine ⟨_, rfl, m, _, n, rfl, .inl (sm _ _ hm), by rw [nums_len]; exact IM.len, _, rfl, pl, _, rfl, hl, fun t ht => ?_⟩
      have s1 : Same H1 (upd H1 t (.tup (as.map V.ref))) := same_new ht
      refine ⟨n, t, L, colN cl, rfl, ⟨as, upd_same, hal, fun k b ij h1 h2 => s1 _ _ (hel k b ij h1 h2)⟩, hLs, hn8, fun H3 q3 rows sm3 ho hO hM hall => ?_⟩
      exact q H3 q3 rows ((sm.trans s1).trans sm3) ho hO hM fun i j hi hij hc2 => hall (i, j) (hin i j hi hij hc2)
/-! ### shallow_board -/
def spShallow : Sp := fun vs H Q _ => ∃ (a : Addr) (rs : List Nat), vs = [.ref a] ∧ H a = some (.tup (nums rs)) ∧ Rgs rs ∧
  ∀ H' q L rows c, Same H H' → BoardAt H' q (whole rs) L → StB rs (rel rows) L → IsOrd rs.length rows → Fits rs.length (tie rs) (rel rows) → Clr rs.length (tie rs) c → Mono (rel rows) c → Q (.ref q) H'
theorem scShallow : FnScope ["ranges"] ["ranges"] (defScope (topS 43)) := ⟨rfl, rfl, rfl, by decide +kernel, rfl, by decide +kernel, by decide +kernel⟩
theorem cal_shallow (D : Dfn K mg "shallow_board" (topS 43) ["ranges"]) (c1 : Cal P w K mg base "straight_board" 8 ["ranges", "order"] spStraight) (c2 : Cal P w K mg base "order_by_colours" 4 ["masks", "colours"] spByCol)
    (c3 : Cal P w K mg base "tie_masks" 4 ["ranges"] spTies) (c4 : Cal P w K mg base "colouring_of" 6 ["ranges"] spColouring) : Cal P w K mg base "shallow_board" 9 ["ranges"] spShallow := by
  refine D.cal scShallow (fun vs H Q E h => ?_) (fun f cdv A outer s H vs Q E hr h => ?_)
  · obtain ⟨a, rs, rfl, _⟩ := h
    rfl
  · obtain ⟨a, rs, rfl, ha, g, q⟩ := h
    refine ⟨_, pss_one (ps_ret (pe_cal c1 hr (by decide) (pa_cons (pv 0) (pa_cons (pe_cal c2 hr (by decide) (pa_cons (pe_cal c3 hr (by decide) (pa_cons (pv 0) pa_nil)) (pa_cons (pe_cal c4 hr (by decide) (pa_cons (pv 0) pa_nil)) pa_nil))) pa_nil)))), ?_⟩
    refine ⟨_, rfl, _, rfl, a, rs, rfl, ha, g, fun H1 pm ms sm1 fm hm IM => ?_⟩
    refine ⟨_, rfl, a, rs, rfl, sm1 _ _ ha, g, fun H2 pc cl sm2 hc hcl CL => ?_⟩
    refine ⟨pm, pc, rs.length, tie rs, ms, cl, rfl, sm2 _ _ hm, IM, tie_lt, hc, hcl, g.len, fun H3 po rows sm3 ho hO hM hall => ?_⟩
    have hF : Fits rs.length (tie rs) (rel rows) := fun i j hi hj ht => by
      have hne : colN cl i ≠ colN cl j := CL.ne i j hi hj ht
      by_cases h : colN cl j < colN cl i
      · exact .inl (hall i j hi ht h)
      · exact .inr (hall j i hj (by rw [tie_symm]; exact ht) (by omega))
    refine ⟨a, po, rs, rows, rfl, sm3 _ _ (sm2 _ _ (sm1 _ _ ha)), g, ho, hO, hF, fun H4 qb L sm4 hb hst => ?_⟩
    exact q H4 qb L rows (colN cl) (((sm1.trans sm2).trans sm3).trans sm4) hb hst hO hF CL hM
end
end WW

set_option Elab.async false
set_option linter.all false
set_option maxRecDepth 100000
set_option maxHeartbeats 4000000
/-! W12: _law_start, _law_draw, _law_same, _law_mixed_up -/
namespace WW
open PySem PySem.Spec PyProof.Rows L2
/-! ### the draws' state -/
def stK (cl : Addr) (a l t r : Int) : List (Key × V) := [(Sum.inr "cells", .ref cl), (Sum.inr "at", .int a), (Sum.inr "left", .int l), (Sum.inr "turn", .int t), (Sum.inr "round", .int r)]
theorem kne {a b : Str} (h : ¬ a = b) : ¬ (Sum.inr a : Key) = Sum.inr b := fun e => h (Sum.inr.inj e)
section
variable {cl : Addr} {a l t r x : Int}
theorem st_put_at : putK (stK cl a l t r) (Sum.inr "at") (.int x) = stK cl x l t r := rfl
theorem st_put_left : putK (stK cl a l t r) (Sum.inr "left") (.int x) = stK cl a x t r := rfl
theorem st_put_turn : putK (stK cl a l t r) (Sum.inr "turn") (.int x) = stK cl a l x r := rfl
theorem st_put_round : putK (stK cl a l t r) (Sum.inr "round") (.int x) = stK cl a l t x := rfl
theorem st_cells : valV (stK cl a l t r) (Sum.inr "cells") = some (.ref cl) := rfl
theorem st_at : valV (stK cl a l t r) (Sum.inr "at") = some (.int a) := rfl
theorem st_left : valV (stK cl a l t r) (Sum.inr "left") = some (.int l) := rfl
theorem st_turn : valV (stK cl a l t r) (Sum.inr "turn") = some (.int t) := rfl
theorem st_round : valV (stK cl a l t r) (Sum.inr "round") = some (.int r) := rfl
end
theorem dget_at {H : Hp} {a : Addr} {kvs : List (Key × V)} {k : Key} {v : V} (h : H a = some (.dK kvs)) (e : valV kvs k = some v) : DGet H a (kV k) (some v) := e ▸ DGet.k h
structure StA (H : Hp) (p cl : Addr) (cells : List Int) : Prop where
  ex : ∃ (a : Nat) (l t r : Int), a < cells.length ∧ H p = some (.dK (stK cl (a : Int) l t r))
  c : H cl = some (.lst (cells.map V.int))
/-- all but the object at p is as it was -/
def But (p : Addr) (H H' : Hp) : Prop := (∀ b o, H b = some o → b ≠ p → H' b = some o) ∧ ∃ o, H' p = some o
theorem But.trans {p : Addr} {H H1 H2 : Hp} (a : But p H H1) (b : But p H1 H2) : But p H H2 := ⟨fun c o h hc => b.1 c o (a.1 c o h hc) hc, b.2⟩
theorem But.same {p : Addr} {H H1 H2 : Hp} (a : But p H H1) (b : Same H1 H2) : But p H H2 := ⟨fun c o h hc => b c o (a.1 c o h hc), by
  obtain ⟨o, h⟩ := a.2
  exact ⟨o, b p o h⟩⟩
theorem But.of {p : Addr} {H H' : Hp} {o : HO} (h : H p = some o) (s : Same H H') : But p H H' := ⟨fun c o h _ => s c o h, ⟨o, s p o h⟩⟩
theorem But.upd {p : Addr} {H : Hp} {o : HO} : But p H (upd H p o) := ⟨fun c o h hc => by rw [upd_ne hc]; exact h, ⟨o, upd_same⟩⟩
theorem But.mut {p q : Addr} {H H' : Hp} {o : HO} (a : But p H H') (h : H q = none) (hq : q ≠ p) : But p H (L2.upd H' q o) := ⟨fun c u hc hn => by
  rw [upd_ne (ne_of_none hc h)]
  exact a.1 c u hc hn, by
  obtain ⟨u, hu⟩ := a.2
  exact ⟨u, by rw [upd_ne hq.symm]; exact hu⟩⟩
theorem But.free {p q : Addr} {H H' : Hp} (a : But p H H') (h : H' q = none) : H q = none := by
  cases e : H q with
  | none => rfl
  | some o =>
    by_cases z : q = p
    · obtain ⟨u, hu⟩ := a.2
      rw [z, hu] at h
      cases h
    · rw [a.1 q o e z] at h
      cases h
theorem But.same0 {p : Addr} {H0 H H' : Hp} (s : Same H0 H) (a : But p H H') (h : H0 p = none) : Same H0 H' := fun b o e => a.1 b o (s b o e) (ne_of_none e h)
section
variable {P : Program} {w : World} {K : PySem.W.Frag} {mg : Str → Option Value} {base : Heap}
/-! ### _law_start -/
def spStart (K : PySem.W.Frag) : Sp := fun vs H Q _ => ∃ (a : Addr) (ns : List Int), vs = [.ref a] ∧ SqL K H a (ns.map V.int) ∧ ns.length ≤ 63 ∧ ∀ H' p cl cells, Same H H' → H p = none → StA H' p cl cells → Q (.ref p) H'
theorem scStart : FnScope ["_law_script", "_law_cells", "_law_cell"] ["_law_script"] (defScope (topS 45)) := ⟨rfl, rfl, rfl, by decide +kernel, rfl, by decide +kernel, by decide +kernel⟩
theorem cal_start (D : Dfn K mg "_law_start" (topS 45) ["_law_script"]) (B : Blt mg) : Cal P w K mg base "_law_start" 1 ["_law_script"] (spStart K) := by
  refine D.cal scStart (fun vs H Q E h => ?_) (fun f cdv A outer s H vs Q E hr h => ?_)
  · obtain ⟨a, ns, rfl, _⟩ := h
    rfl
  · obtain ⟨a, ns, rfl, ha, hlen, q⟩ := h
    refine ⟨_, pss_cons (ps_setLc (i := 1) (own := [("_law_cell", 2)]) (g := gName 2) rfl scStart.nd rfl rfl (sw_true rfl rfl rfl (by decide +kernel)) (pi_list (pv 0)) (blkOk_by (own := [("_law_cell", 2)]) (N := ["_law_script", "_law_cells", "_law_cell"]) (sc := defScope (topS 45)) (by decide +kernel))
        (fun _ _ _ _ _ => pg_name (i := 2) scStart.nd rfl (Or.inl rfl)) (fun _ _ _ _ _ => pts_nil) (fun _ _ _ _ _ => pe_callTy (T := "int") call_int1 (by rfl) B.int (by decide +kernel) (pa_cons (pv 2) pa_nil)))
      (pss_cons (ps_if (pt_cmpR n_eq (pe_callB c_len (by rfl) B.len PySem.boot_len (pa_cons (pv 1) pa_nil)) pe_int (nomark _)) (pss_one (ps_set (i := 1) scStart.nd rfl (Or.inl rfl) (pe_lst (pa_cons pe_int pa_nil)))) pss_nil)
      (pss_one (ps_ret (pe_disp (pps_cons pe_str (pv 1) (pps_cons pe_str pe_int (pps_cons pe_str pe_int (pps_cons pe_str pe_int (pps_cons pe_str pe_int pps_nil))))) (by rfl) (by rfl) (fun z => by cases z) (by decide))))), ?_⟩
    have fin : ∀ (H1 : Hp) (d : Addr) (cells : List Int), Same H H1 → H1 d = some (.lst (cells.map V.int)) → 0 < cells.length → ∀ p, H1 p = none → Q (.ref p) (upd (upd H1 p (.dK [])) p (.dK (stK d 0 0 0 0))) := fun H1 d cells sm hd h0 p hp => by
      rw [upd_upd]
      refine q _ p d cells (sm.trans (same_new hp)) (sm.free hp) ⟨⟨0, 0, 0, 0, h0, upd_same⟩, ?_⟩
      rw [upd_ne (ne_of_none hd hp)]
      exact hd
    refine ⟨_, rfl, a, rfl, ⟨_, ha⟩, fun d hd => lc_list (K := K) (a := a) (xs := ns.map V.int) (fun i H' => Same H H' ∧ H' d = some (.lst ((ns.take i).map V.int))) ⟨same_new hd, upd_same⟩ (fun i H' _ ⟨sm, _⟩ => sm.seq ha) ?_ ?_⟩
    · rintro i x H' hx ⟨sm, hl⟩
      rw [List.getElem?_map] at hx
      cases e : ns[i]? with
      | none =>
        rw [e] at hx
        cases hx
      | some n =>
        rw [e] at hx
        have hx : V.int n = x := Option.some.inj hx
        subst hx
        have hi : i < ns.length := (List.getElem?_eq_some_iff.mp e).1
        refine ⟨rfl, yesT ?_⟩
        refine ⟨_, rfl, .inl ⟨_, rfl, _, hl, ?_, same_mut sm hd, ?_⟩⟩
        · rw [List.length_map, List.length_take]
          exact sz8 (by omega)
        · rw [upd_same, List.take_add_one, e, List.map_append]
          rfl
    · rintro H1 ⟨sm, hl⟩
      rw [List.length_map, List.take_length] at hl
      refine ⟨_, rfl, d, _, ns.length, rfl, .inl hl, List.length_map _, ns.length, 0, rfl, rfl, _, rfl, ite2 (fun e => ?_) (fun e => ?_)⟩
      · refine ⟨by show 1 ≤ sizeLine; decide, fun d2 hd2 => ?_⟩
        intro p hp
        refine ⟨_, rfl, upd_same, [(Sum.inr "cells", .ref d2), (Sum.inr "at", .int 0), (Sum.inr "left", .int 0), (Sum.inr "turn", .int 0), (Sum.inr "round", .int 0)], rfl, by show 5 ≤ 15; decide, ?_⟩
        exact fin _ d2 [53] (sm.trans (same_new hd2)) upd_same (by decide) p hp
      · have e : ns.length ≠ 0 := by simpa using e
        intro p hp
        refine ⟨_, rfl, upd_same, [(Sum.inr "cells", .ref d), (Sum.inr "at", .int 0), (Sum.inr "left", .int 0), (Sum.inr "turn", .int 0), (Sum.inr "round", .int 0)], rfl, by show 5 ≤ 15; decide, ?_⟩
        exact fin _ d ns sm hl (by omega) p hp
/-! ### _law_draw -/
def spDraw : Sp := fun vs H Q _ => ∃ (p cl : Addr) (cells : List Int) (many : Nat), vs = [.ref p, .int (many : Int)] ∧ StA H p cl cells ∧ 0 < many ∧ many ≤ 1000 ∧ ∀ H' (r : Nat), But p H H' → StA H' p cl cells → (∀ b, H' b = none ↔ H b = none) → r < many → Q (.int (r : Int)) H'
theorem scDraw : FnScope ["_law_state", "_law_many", "_law_left", "_law_cell", "_law_plain", "_law_mixed"] ["_law_state", "_law_many"] (defScope (topS 46)) := ⟨rfl, rfl, rfl, by decide +kernel, rfl, by decide +kernel, by decide +kernel⟩
theorem cal_draw (D : Dfn K mg "_law_draw" (topS 46) ["_law_state", "_law_many"]) (B : Blt mg) : Cal P w K mg base "_law_draw" 1 ["_law_state", "_law_many"] spDraw := by
  refine D.cal scDraw (fun vs H Q E h => ?_) (fun f cdv A outer s H vs Q E hr h => ?_)
  · obtain ⟨p, cl, cells, many, rfl, _⟩ := h
    rfl
  · obtain ⟨p, cl, cells, many, rfl, S, hm0, hm, q⟩ := h
    have hu := hu_of hr
    refine ⟨_, pss_cons (ps_dput hu (pv 0) pe_str (pe_op op_add (pe_dget hu (pv 0) pe_str (fun _ _ => rfl)) pe_int) rfl)
      (pss_cons (ps_set (i := 2) scDraw.nd rfl (Or.inl rfl) (pe_dget hu (pv 0) pe_str (fun _ _ => rfl)))
      (C8.pss_cut (ps_if (pt_cmpR op_eq (pv 2) pe_int (nomark _))
        (pss_cons (ps_set (i := 3) scDraw.nd rfl (Or.inl rfl) (pe_ix ixl (pe_dget hu (pv 0) pe_str (fun _ _ => rfl)) (pe_dget hu (pv 0) pe_str (fun _ _ => rfl)) (fun _ _ => rfl)))
        (C8.pss_cut (ps_set (i := 4) scDraw.nd rfl (Or.inl rfl) (pe_or (pe_cmpR op_gt (pe_dget hu (pv 0) pe_str (fun _ _ => rfl)) pe_int (nomark _)) (pe_one (pe_cmpR op_lt (pv 3) (pe_op op_pow pe_int pe_int) (nomark _)))))
        (pss_cons (ps_dput hu (pv 0) pe_str (pe_op n_add (pe_dget hu (pv 0) pe_str (fun _ _ => rfl)) pe_int) rfl)
        (C8.pss_cut (ps_if (pt_cmpR n_eq (pe_dget hu (pv 0) pe_str (fun _ _ => rfl)) (pe_callB c_len (by rfl) B.len PySem.boot_len (pa_cons (pe_dget hu (pv 0) pe_str (fun _ _ => rfl)) pa_nil)) (nomark _))
          (pss_cons (ps_dput hu (pv 0) pe_str pe_int rfl) (pss_one (ps_dput hu (pv 0) pe_str pe_int rfl))) pss_nil)
        (pss_cons (ps_if (pt_val (pv 4))
          (pss_cons (ps_set (i := 5) scDraw.nd rfl (Or.inl rfl) (pe_op op_add (pe_op op_mul (pe_op op_mod (pe_callTy call_int1 (by rfl) B.int (by decide +kernel) (pa_cons (pe_callB call_abs (by rfl) B.abs (by decide +kernel) (pa_cons (pv 3) pa_nil)) pa_nil)) pe_int) pe_int) (pe_op op_mul (pe_dget hu (pv 0) pe_str (fun _ _ => rfl)) pe_int)))
          (C8.pss_cut (ps_if (pt_cmpR op_lt (pv 3) pe_int (nomark _)) (pss_one (ps_set (i := 5) scDraw.nd rfl (Or.inl rfl) (pe_op op_add (pv 5) pe_int))) pss_nil)
          (pss_cons (ps_set (i := 5) scDraw.nd rfl (Or.inl rfl) (pe_op op_mod (pe_callTy call_int1 (by rfl) B.int (by decide +kernel) (pa_cons (pv 5) pa_nil)) pe_int))
          (pss_cons (ps_set (i := 5) scDraw.nd rfl (Or.inl rfl) (pe_op op_mod (pe_callTy call_int1 (by rfl) B.int (by decide +kernel) (pa_cons (pe_op op_add (pe_op op_add (pe_op op_mul (pv 5) (pv 5)) (pe_op op_mul (pv 5) pe_int)) (pe_dget hu (pv 0) pe_str (fun _ _ => rfl))) pa_nil)) pe_int))
          (pss_cons (ps_set (i := 5) scDraw.nd rfl (Or.inl rfl) (pe_op op_mod (pe_callTy call_int1 (by rfl) B.int (by decide +kernel) (pa_cons (pe_op op_add (pe_op op_mul (pv 5) (pv 5)) pe_int) pa_nil)) pe_int))
          (pss_one (ps_ret (pe_op op_mod (pe_callTy call_int1 (by rfl) B.int (by decide +kernel) (pa_cons (pe_op op_fdiv (pv 5) pe_int) pa_nil)) (pv 1))))))))) pss_nil)
        (pss_one (ps_set (i := 2) scDraw.nd rfl (Or.inl rfl) (pv 3)))))))) pss_nil)
      (pss_cons (ps_dput hu (pv 0) pe_str (pe_op op_fdiv (pv 2) (pv 1)) rfl)
      (pss_one (ps_ret (pe_op op_mod (pe_callTy call_int1 (by rfl) B.int (by decide +kernel) (pa_cons (pv 2) pa_nil)) (pv 1))))))), ?_⟩
    obtain ⟨a0, l, t, r, hat, hp⟩ := S.ex
    have hcp : cl ≠ p := ne_of S.c hp (by intro z; cases z)
    have s5 : ∀ (a l t r : Int), (stK cl a l t r).length < sizeLine := fun _ _ _ _ => by show 5 < sizeLine; decide
    have cAt : ∀ o, (L2.upd H p o) cl = some (.lst (cells.map V.int)) := fun o => by rw [upd_ne hcp]; exact S.c
    -- the end: a heap that differs at p alone
    have fin : ∀ (a : Nat) (l t r x : Int), a < cells.length → Q (.int (x % (many : Int))) (L2.upd H p (.dK (stK cl (a : Int) l t r))) := fun a l t r x ha => by
      have h1 : 0 ≤ x % (many : Int) := Int.emod_nonneg _ (by omega)
      have h2 : x % (many : Int) < (many : Int) := Int.emod_lt_of_pos _ (by omega)
      have e : x % (many : Int) = (((x % (many : Int)).toNat : Nat) : Int) := by omega
      rw [e]
      refine q _ _ But.upd ⟨⟨a, l, t, r, ha, upd_same⟩, cAt _⟩ (fun b => ?_) (by omega)
      by_cases z : b = p
      · rw [z, upd_same, hp]
        exact ⟨fun h => (by cases h), fun h => (by cases h)⟩
      · rw [upd_ne z]
    -- turn + 1; left
    refine ⟨_, rfl, p, _, rfl, dget_at (k := Sum.inr "turn") hp st_turn, t, 1, rfl, rfl, _, rfl, p, _, rfl, DPut.k (k := Sum.inr "turn") hp (s5 _ _ _ _), ?_⟩
    rw [st_put_turn]
    refine ⟨_, rfl, p, _, rfl, dget_at (k := Sum.inr "left") upd_same st_left, ?_⟩
    refine ⟨fun σ H' => ∃ (a : Nat) (l2 t2 r2 x : Int) (v3 v4 v5 : Option V), a < cells.length ∧ σ = [some (.ref p), some (.int (many : Int)), some (.int x), v3, v4, v5] ∧ H' = L2.upd H p (.dK (stK cl (a : Int) l2 t2 r2)), ?_, ?_⟩
    · refine ⟨_, rfl, rfl, _, rfl, ite2 (fun e => ?_) (fun e => ?_)⟩
      · -- a cell
        refine ⟨_, rfl, p, _, rfl, dget_at (k := Sum.inr "cells") upd_same st_cells, _, rfl, p, _, rfl, dget_at (k := Sum.inr "at") upd_same st_at, cl, _, a0, .int cells[a0], rfl, rfl, cAt _, by rw [List.getElem?_map, List.getElem?_eq_getElem hat]; rfl, ?_⟩
        generalize cells[a0] = cell
        refine ⟨fun σ H' => ∃ plain : Bool, σ = [some (.ref p), some (.int (many : Int)), some (.int l), some (.int cell), some (.bl plain), none] ∧ H' = L2.upd H p (.dK (stK cl (a0 : Int) l (t + 1) r)), ?_, ?_⟩
        · refine ⟨_, rfl, p, _, rfl, dget_at (k := Sum.inr "round") upd_same st_round, r, 0, rfl, rfl, _, rfl, ite2 (fun e2 => ?_) (fun e2 => ?_)⟩
          · exact ⟨_, rfl, rfl⟩
          · exact ⟨_, rfl, 10, 18, rfl, rfl, ⟨by decide, by decide, by decide⟩, cell, _, rfl, rfl, _, rfl, rfl⟩
        · rintro σ H' ⟨plain, rfl, rfl⟩
          refine ⟨_, rfl, p, _, rfl, dget_at (k := Sum.inr "at") upd_same st_at, a0, 1, rfl, rfl, _, rfl, p, _, rfl, DPut.k (k := Sum.inr "at") upd_same (s5 _ _ _ _), ?_⟩
          rw [st_put_at, upd_upd]
          refine ⟨fun σ H' => ∃ (a : Nat) (r2 : Int), a < cells.length ∧ σ = [some (.ref p), some (.int (many : Int)), some (.int l), some (.int cell), some (.bl plain), none] ∧ H' = L2.upd H p (.dK (stK cl (a : Int) l (t + 1) r2)), ?_, ?_⟩
          · refine ⟨_, rfl, p, _, rfl, dget_at (k := Sum.inr "at") upd_same st_at, _, rfl, p, _, rfl, dget_at (k := Sum.inr "cells") upd_same st_cells, cl, _, cells.length, rfl, .inl (cAt _), List.length_map _, a0 + 1, cells.length, rfl, rfl, _, rfl, ite2 (fun e3 => ?_) (fun e3 => ?_)⟩
            · refine ⟨_, rfl, p, _, rfl, DPut.k (k := Sum.inr "at") upd_same (s5 _ _ _ _), ?_⟩
              rw [st_put_at, upd_upd]
              refine ⟨_, rfl, p, _, rfl, DPut.k (k := Sum.inr "round") upd_same (s5 _ _ _ _), ?_⟩
              rw [st_put_round, upd_upd]
              exact ⟨0, 1, by omega, rfl, rfl⟩
            · have e3 : ¬ a0 + 1 = cells.length := fun h => e3 (decide_eq_true h)
              exact ⟨a0 + 1, r, by omega, rfl, rfl⟩
          · rintro σ H' ⟨a, r2, ha, rfl, rfl⟩
            refine ⟨_, rfl, plain, rfl, ite2 (fun e4 => ?_) (fun e4 => ?_)⟩
            · refine ⟨_, rfl, cell, rfl, .inl ⟨_, rfl, _, 2147483587, rfl, rfl, by show (0 : Int) < 2147483587; decide, _, 69997, rfl, rfl, .inr ⟨by decide, by decide⟩, ?_⟩⟩
              refine ⟨_, rfl, p, _, rfl, dget_at (k := Sum.inr "turn") upd_same st_turn, t + 1, 15013, rfl, rfl, .inr ⟨by decide, by decide⟩, _, _, rfl, rfl, ?_⟩
              refine ⟨fun σ H' => ∃ mixed : Int, σ = [some (.ref p), some (.int (many : Int)), some (.int l), some (.int cell), some (.bl plain), some (.int mixed)] ∧ H' = L2.upd H p (.dK (stK cl (a : Int) l (t + 1) r2)), ?_, ?_⟩
              · refine ⟨_, rfl, cell, 0, rfl, rfl, _, rfl, ite2 (fun e5 => ?_) (fun e5 => ?_)⟩
                · exact ⟨_, rfl, _, 90001, rfl, rfl, _, rfl, rfl⟩
                · exact ⟨_, rfl, rfl⟩
              · rintro σ H' ⟨mixed, rfl, rfl⟩
                have b1 : ∀ (x m : Int), 0 < m → m < 2 ^ 32 → -(2 ^ 64) < x % m ∧ x % m < 2 ^ 64 := fun x m h0 h1 => by
                  have := Int.emod_nonneg x (show m ≠ 0 by omega)
                  have := Int.emod_lt_of_pos x h0
                  omega
                refine ⟨_, rfl, .inl ⟨mixed, rfl, mixed, 2147483587, rfl, rfl, by show (0 : Int) < 2147483587; decide, ?_⟩⟩
                have c1 := b1 mixed 2147483587 (by decide) (by decide)
                dsimp only
                generalize mixed % 2147483587 = m1 at c1 ⊢
                refine ⟨_, rfl, _, rfl, m1, m1, rfl, rfl, .inl c1, _, rfl, m1, 101, rfl, rfl, .inr ⟨by decide, by decide⟩, _, _, rfl, rfl, _, rfl, p, _, rfl, dget_at (k := Sum.inr "turn") upd_same st_turn, _, _, rfl, rfl, .inl ⟨_, rfl, _, 2147483563, rfl, rfl, by show (0 : Int) < 2147483563; decide, ?_⟩⟩
                have c2 := b1 (m1 * m1 + m1 * 101 + (t + 1)) 2147483563 (by decide) (by decide)
                dsimp only
                generalize (m1 * m1 + m1 * 101 + (t + 1)) % 2147483563 = m2 at c2 ⊢
                refine ⟨_, rfl, _, rfl, m2, m2, rfl, rfl, .inl c2, _, 17, rfl, rfl, .inl ⟨_, rfl, _, 2147483587, rfl, rfl, by show (0 : Int) < 2147483587; decide, ?_⟩⟩
                dsimp only
                generalize (m2 * m2 + 17) % 2147483587 = m3
                refine ⟨_, rfl, m3, 7, rfl, rfl, ⟨by decide, by decide⟩, .inl ⟨_, rfl, _, rfl, _, (many : Int), rfl, rfl, by omega, ?_⟩⟩
                exact fin a _ _ _ _ ha
            · exact ⟨_, rfl, a, _, _, _, cell, _, _, _, ha, rfl, rfl⟩
      · exact ⟨a0, _, _, _, l, _, _, _, hat, rfl, rfl⟩
    · rintro σ H' ⟨a, l2, t2, r2, x, v3, v4, v5, ha, rfl, rfl⟩
      refine ⟨_, rfl, _, rfl, x, (many : Int), rfl, rfl, ⟨by omega, by omega⟩, _, rfl, p, _, rfl, DPut.k (k := Sum.inr "left") upd_same (s5 _ _ _ _), ?_⟩
      rw [st_put_left, upd_upd]
      refine ⟨_, rfl, .inl ⟨_, rfl, _, rfl, x, (many : Int), rfl, rfl, by omega, ?_⟩⟩
      exact fin a _ _ _ _ ha
end
end WW

set_option Elab.async false
set_option linter.all false
set_option maxRecDepth 100000
set_option maxHeartbeats 4000000
/-! W13: _law_same, _law_mixed_up, _law_small -/
namespace WW
open PySem PySem.Spec PyProof.Rows L2
section
variable {X : Cx}
/-- int(n), n a number; int(b), b a bool -/
def rIntN : List V → Hp → VK → Prop := fun xs H Q => ∃ n : Nat, xs = [.int (n : Int)] ∧ Q (.int (n : Int)) H
def rIntB : List V → Hp → VK → Prop := fun xs H Q => ∃ k : Bool, xs = [.bl k] ∧ Q (.int (((if k = true then 1 else 0 : Nat)) : Int)) H
theorem c_intn : CallR X (.type "int") rIntN := CallR.of call_int1 fun xs H Q ⟨n, e, q⟩ => .inl ⟨_, e, q⟩
theorem c_intb : CallR X (.type "int") rIntB := CallR.of call_int1 fun xs H Q ⟨k, e, q⟩ => .inr ⟨k, e, by
  cases k
  · exact q
  · exact q⟩
end
section
variable {P : Program} {w : World} {K : PySem.W.Frag} {mg : Str → Option Value} {base : Heap}
/-! ### _law_same -/
def spSame : Sp := fun vs H Q _ => ∃ a b : Nat, vs = [.int (a : Int), .int (b : Int)] ∧ Q (.bl (decide (a = b))) H
theorem scSame : FnScope ["_law_actual", "_law_due"] ["_law_actual", "_law_due"] (defScope (topS 47)) := ⟨rfl, rfl, rfl, by decide +kernel, rfl, by decide +kernel, by decide +kernel⟩
theorem cal_same (D : Dfn K mg "_law_same" (topS 47) ["_law_actual", "_law_due"]) (B : Blt mg) : Cal P w K mg base "_law_same" 1 ["_law_actual", "_law_due"] spSame := by
  refine D.cal scSame (fun vs H Q E h => ?_) (fun f cdv A outer s H vs Q E hr h => ?_)
  · obtain ⟨a, b, rfl, _⟩ := h
    rfl
  · obtain ⟨a, b, rfl, q⟩ := h
    refine ⟨_, pss_cons (ps_if (pt_val (pe_callB call_isi (by rfl) B.isinstance (by decide +kernel) (pa_cons (pv 1) (pa_cons (pe_bltn (v := .ty "tuple") (by rfl) B.tuple (by decide +kernel) rfl) pa_nil)))) pss_never pss_nil)
      (pss_cons (ps_if (pt_val (pe_callB call_isi (by rfl) B.isinstance (by decide +kernel) (pa_cons (pv 1) (pa_cons (pe_bltn (v := .ty "bool") (by rfl) B.bool (by decide +kernel) rfl) pa_nil)))) pss_never pss_nil)
      (pss_cons (ps_if (pt_val (pe_callB call_isi (by rfl) B.isinstance (by decide +kernel) (pa_cons (pv 1) (pa_cons (pe_bltn (v := .ty "int") (by rfl) B.int (by decide +kernel) rfl) pa_nil))))
        (pss_one (ps_ret (pe_and (pe_callB call_isi (by rfl) B.isinstance (by decide +kernel) (pa_cons (pv 0) (pa_cons (pe_bltn (v := .ty "int") (by rfl) B.int (by decide +kernel) rfl) pa_nil)))
          (pe_and (pe_not (pe_callB call_isi (by rfl) B.isinstance (by decide +kernel) (pa_cons (pv 0) (pa_cons (pe_bltn (v := .ty "bool") (by rfl) B.bool (by decide +kernel) rfl) pa_nil)))) (pe_one (pe_cmpR n_eq (pv 0) (pv 1) (nomark _))))))) pss_nil) pss_never)), ?_⟩
    refine ⟨_, rfl, _, _, _, _, false, rfl, .ty _, .base (.int _), kit_ty (by decide +kernel), false, rfl, iteF ?_⟩
    refine ⟨_, rfl, _, _, _, _, false, rfl, .ty _, .base (.int _), kit_ty (by decide +kernel), false, rfl, iteF ?_⟩
    refine ⟨_, rfl, _, _, _, _, true, rfl, .ty _, .base (.int _), kit_ty (by decide +kernel), true, rfl, iteT ?_⟩
    refine ⟨_, rfl, _, _, _, _, true, rfl, .ty _, .base (.int _), kit_ty (by decide +kernel), true, rfl, iteT ?_⟩
    refine ⟨_, rfl, _, _, _, _, false, rfl, .ty _, .base (.int _), kit_ty (by decide +kernel), false, rfl, true, rfl, ?_⟩
    exact iteT ⟨_, rfl, _, rfl, a, b, rfl, rfl, q⟩
/-! ### _law_mixed_up -/
def spMixed : Sp := fun vs H Q _ => ∃ (p cl rp : Addr) (cells : List Int) (l : List Nat), vs = [.ref p, .ref rp] ∧ StA H p cl cells ∧ H rp = some (.lst (nums l)) ∧ l.length ≤ 100 ∧
  ∀ H' q (l' : List Nat), But p H H' → StA H' p cl cells → H q = none → H' q = some (.lst (nums l')) → l'.Perm l → Q (.ref q) H'
theorem StA.same {H H' : Hp} {p cl : Addr} {cells : List Int} (S : StA H p cl cells) (s : Same H H') : StA H' p cl cells := by
  obtain ⟨a, l, t, r, h1, h2⟩ := S.ex
  exact ⟨⟨a, l, t, r, h1, s _ _ h2⟩, s _ _ S.c⟩
theorem StA.but {H H' : Hp} {p cl q : Addr} {cells : List Int} {o : HO} (S : StA H p cl cells) (hq : ∀ u, H q = some u → (∀ kvs, u ≠ .dK kvs) ∧ q ≠ cl) : StA (upd H q o) p cl cells := by
  obtain ⟨a, l, t, r, h1, h2⟩ := S.ex
  have n1 : p ≠ q := fun e => (hq _ (e ▸ h2)).1 _ rfl
  have n2 : cl ≠ q := fun e => (hq _ (e ▸ S.c)).2 e.symm
  exact ⟨⟨a, l, t, r, h1, by rw [upd_ne n1]; exact h2⟩, by rw [upd_ne n2]; exact S.c⟩
/-- a list that is neither the state nor its cells is changed -/
theorem StA.put {H : Hp} {p cl q : Addr} {cells : List Int} {xs ys : List V} (S : StA H p cl cells) (hq : H q = some (.lst xs)) (n : cl ≠ q) : StA (upd H q (.lst ys)) p cl cells := by
  obtain ⟨a, l, t, r, h1, h2⟩ := S.ex
  have n1 : p ≠ q := ne_of h2 hq (by intro z; cases z)
  exact ⟨⟨a, l, t, r, h1, by rw [upd_ne n1]; exact h2⟩, by rw [upd_ne n]; exact S.c⟩
theorem StA.pne {H : Hp} {p cl q : Addr} {cells : List Int} {xs : List V} (S : StA H p cl cells) (hq : H q = some (.lst xs)) : q ≠ p := by
  obtain ⟨a, l, t, r, h1, h2⟩ := S.ex
  exact ne_of hq h2 (by intro z; cases z)
theorem StA.some {H : Hp} {p cl : Addr} {cells : List Int} (S : StA H p cl cells) : ∃ o, H p = Option.some o := by
  obtain ⟨a, l, t, r, h1, h2⟩ := S.ex
  exact ⟨_, h2⟩
theorem But.refl {H : Hp} {p : Addr} {o : HO} (h : H p = some o) : But p H H := ⟨fun b o e _ => e, ⟨o, h⟩⟩
theorem cons_erase : ∀ (l : List Nat) (k v : Nat), l[k]? = some v → (v :: l.eraseIdx k).Perm l
  | [], k, v, h => by simp at h
  | a :: r, 0, v, h => by
    have : a = v := Option.some.inj h
    rw [this]
    exact List.Perm.refl _
  | a :: r, k + 1, v, h => by
    have ih := cons_erase r k v h
    exact (List.Perm.swap a v _).trans (ih.cons a)
theorem erase_map : ∀ (l : List Nat) (k : Nat), (l.map fun (n : Nat) => V.int (n : Int)).eraseIdx k = (l.eraseIdx k).map fun (n : Nat) => V.int (n : Int)
  | [], k => rfl
  | a :: r, 0 => rfl
  | a :: r, k + 1 => congrArg (V.int (a : Int) :: ·) (erase_map r k)
theorem perm_erase {l acc rest : List Nat} {k v : Nat} (h : (acc ++ rest).Perm l) (hk : rest[k]? = some v) : ((acc ++ [v]) ++ rest.eraseIdx k).Perm l := by
  refine List.Perm.trans ?_ h
  rw [List.append_assoc]
  refine List.Perm.append_left acc ?_
  exact cons_erase rest k v hk
theorem nums_erase (l : List Nat) (k : Nat) : (nums l).eraseIdx k = nums (l.eraseIdx k) := by
  exact erase_map l k
theorem scMixed : FnScope ["_law_state", "_law_row", "_law_left", "_law_k"] ["_law_state", "_law_row"] (defScope (topS 49)) := ⟨rfl, rfl, rfl, by decide +kernel, rfl, by decide +kernel, by decide +kernel⟩
theorem cal_mixed (D : Dfn K mg "_law_mixed_up" (topS 49) ["_law_state", "_law_row"]) (B : Blt mg) (c1 : Cal P w K mg base "_law_draw" 1 ["_law_state", "_law_many"] spDraw) : Cal P w K mg base "_law_mixed_up" 2 ["_law_state", "_law_row"] spMixed := by
  refine D.cal scMixed (fun vs H Q E h => ?_) (fun f cdv A outer s H vs Q E hr h => ?_)
  · obtain ⟨p, cl, rp, cells, l, rfl, _⟩ := h
    rfl
  · obtain ⟨p, cl, rp, cells, l, rfl, S, hrp, hlen, q⟩ := h
    refine ⟨_, pss_cons (ps_set (i := 2) scMixed.nd rfl (Or.inr rfl) (pe_callTy call_list_of (by rfl) B.list (by decide +kernel) (pa_cons (pv 1) pa_nil)))
      (pss_one (ps_ret (pe_lc (own := [("_law_k", 3)]) (g := gName 3) (te := tBM K "list" rPopAt (tVar 2) (tCons (tCall spDraw [] E0 (tCons (tVar 0) (tCons (tCB rLen' (tCons (tVar 2) tNil)) tNil))) tNil)) rfl scMixed.nd (up1_run rfl B.range (pa_cons (pe_callB c_len (by rfl) B.len PySem.boot_len (pa_cons (pv 1) pa_nil)) pa_nil)) (blkOk_by (own := [("_law_k", 3)]) (N := ["_law_state", "_law_row", "_law_left", "_law_k"]) (sc := defScope (topS 49)) (by decide +kernel))
        (fun _ _ _ _ _ => pg_name (i := 3) scMixed.nd rfl (Or.inl rfl)) (fun _ _ _ _ _ => pts_nil) (fun _ _ _ _ _ => pe_bm PySem.F.plainAttrs_list PySem.F.slot_list_pop PySem.F.type_list_pop mt_popAt (pv 2) (pa_cons (pe_cal c1 hr (by decide) (pa_cons (pv 0) (pa_cons (pe_callB c_len (by rfl) B.len PySem.boot_len (pa_cons (pv 2) pa_nil)) pa_nil))) pa_nil))))), ?_⟩
    refine ⟨_, rfl, rp, _, rfl, .inl (SqL.of hrp), fun lf hlf => ?_⟩
    have s1 : Same H (upd H lf (.lst (nums l))) := same_new hlf
    refine ⟨_, rfl, rp, _, l.length, rfl, .inl (s1 _ _ hrp), nums_len _, _, rfl, by omega, fun d hd => ?_⟩
    have s2 := s1.trans (same_new (o := .lst []) hd)
    have ndl : lf ≠ d := ne_of_none upd_same hd
    obtain ⟨o0, hp0⟩ := S.some
    have hd0 : H d = none := s1.free hd
    have nlp : lf ≠ p := fun e => by
      rw [e, hp0] at hlf
      cases hlf
    have ndp : d ≠ p := fun e => by
      rw [e, hp0] at hd0
      cases hd0
    have nlc : cl ≠ lf := ne_of_none S.c hlf
    have ndc : cl ≠ d := ne_of_none S.c hd0
    refine lc_up0 (n := l.length) (fun i H' => ∃ acc rest : List Nat, But p H H' ∧ StA H' p cl cells ∧ H' d = some (.lst (nums acc)) ∧ H' lf = some (.lst (nums rest)) ∧ (acc ++ rest).Perm l ∧ acc.length = i)
      ⟨[], l, But.of hp0 s2, S.same s2, upd_same, by rw [upd_ne ndl, upd_same], List.Perm.refl _, rfl⟩ ?_ ?_
    · rintro i H1 hi ⟨acc, rest, hb, S1, hd1, hl1, hperm, hacc⟩
      have hrest : acc.length + rest.length = l.length := by rw [← List.length_append]; exact hperm.length_eq
      refine ⟨rfl, yesT ?_⟩
      refine ⟨_, rfl, .inl ⟨rfl, _, SqL.of hl1⟩, _, rfl, _, rfl, lf, _, rest.length, rfl, .inl hl1, nums_len _, p, cl, cells, rest.length, rfl, S1, by omega, by omega, fun H2 r hb2 S2 hn2 hr2 => ?_⟩
      have hl2 := hb2.1 _ _ hl1 nlp
      have hd2 := hb2.1 _ _ hd1 ndp
      obtain ⟨v, hv⟩ : ∃ v, rest[r]? = some v := ⟨_, List.getElem?_eq_getElem hr2⟩
      refine ⟨lf, _, (r : Int), r, _, rfl, rfl, hl2, by omega, by omega, ?_, nums_get hv, ?_⟩
      · refine (ixN_seq ?_).1
        unfold ixN
        rw [nums_len, if_pos (by omega), if_pos (by omega), Int.toNat_natCast]
      · rw [nums_erase]
        have hb3 := hb.trans hb2
        refine ⟨_, by rw [upd_ne ndl.symm]; exact hd2, ?_, acc ++ [v], rest.eraseIdx r, (hb3.mut hlf nlp).mut hd0 ndp, ?_, by rw [upd_same, nums_app], by rw [upd_ne ndl, upd_same], perm_erase hperm hv, by rw [List.length_append, hacc]; rfl⟩
        · rw [nums_len]
          exact sz8 (by omega)
        · have h3 := S2.put (ys := nums (rest.eraseIdx r)) hl2 nlc
          exact h3.put (xs := nums acc) (by rw [upd_ne ndl.symm]; exact hd2) ndc
    · rintro H1 ⟨acc, rest, hb, S1, hd1, hl1, hperm, hacc⟩
      have hrest : acc.length + rest.length = l.length := by rw [← List.length_append]; exact hperm.length_eq
      have : rest = [] := List.length_eq_zero_iff.mp (by omega)
      subst this
      rw [List.append_nil] at hperm
      exact q H1 d acc hb S1 hd0 hd1 hperm
/-! ### _law_small -/
def spSmall : Sp := fun vs H Q _ => ∃ (p cl : Addr) (cells : List Int), vs = [.ref p] ∧ StA H p cl cells ∧
  ∀ H' q (l : List Nat), But p H H' → StA H' p cl cells → H q = none → H' q = some (.lst (nums l)) → Rgs l → Q (.ref q) H'
theorem pick {l : List Nat} {r : Nat} {p : Nat → Prop} (h : r < l.length) (hp : ∀ x ∈ l, p x) : ∃ m, l[r]? = some m ∧ p m := ⟨l[r], List.getElem?_eq_getElem h, hp _ (List.getElem_mem h)⟩
theorem scSmall : FnScope ["_law_state", "_law_room", "_law_row", "_law_many", "_law_k", "_law_made"] ["_law_state"] (defScope (topS 52)) := ⟨rfl, rfl, rfl, by decide +kernel, rfl, by decide +kernel, by decide +kernel⟩
theorem cal_small (D : Dfn K mg "_law_small" (topS 52) ["_law_state"]) (B : Blt mg) (c1 : Cal P w K mg base "_law_draw" 1 ["_law_state", "_law_many"] spDraw) : Cal P w K mg base "_law_small" 2 ["_law_state"] spSmall := by
  refine D.cal scSmall (fun vs H Q E h => ?_) (fun f cdv A outer s H vs Q E hr h => ?_)
  · obtain ⟨p, cl, cells, rfl, _⟩ := h
    rfl
  · obtain ⟨p, cl, cells, rfl, S, q⟩ := h
    refine ⟨_, pss_cons (ps_set (i := 1) scSmall.nd rfl (Or.inl rfl) (pe_ix ixl (pe_lst (pa_cons pe_int (pa_cons pe_int pa_nil))) (pe_callTy c_intb (by rfl) B.int (by decide +kernel) (pa_cons (pe_cmpR n_eq (pe_cal c1 hr (by decide) (pa_cons (pv 0) (pa_cons pe_int pa_nil))) pe_int (nomark _)) pa_nil)) (fun _ _ => rfl)))
      (pss_cons (ps_set (i := 2) scSmall.nd rfl (Or.inl rfl) (pe_lst pa_nil))
      (pss_cons (ps_set (i := 3) scSmall.nd rfl (Or.inl rfl) (pe_ix ixl (pe_lst (pa_cons pe_int (pa_cons pe_int (pa_cons pe_int (pa_cons pe_int (pa_cons pe_int (pa_cons pe_int (pa_cons pe_int (pa_cons pe_int pa_nil))))))))) (pe_cal c1 hr (by decide) (pa_cons (pv 0) (pa_cons pe_int pa_nil))) (fun _ _ => rfl)))
      (pss_cons (ps_for PassesOwn.never rfl (up1_run rfl B.range (pa_cons (pe_op n_mul (pv 3) (pe_callTy c_intb (by rfl) B.int (by decide +kernel) (pa_cons (pe_cmpR n_gt (pe_cal c1 hr (by decide) (pa_cons (pv 0) (pa_cons pe_int pa_nil))) pe_int (nomark _)) pa_nil))) pa_nil)) (pg_name (i := 4) scSmall.nd rfl (Or.inl rfl))
        (pss_cons (ps_set (i := 5) scSmall.nd rfl (Or.inl rfl) (pe_ix ixl (pe_lst (pa_cons pe_int (pa_cons pe_int (pa_cons pe_int (pa_cons pe_int (pa_cons pe_int (pa_cons pe_int (pa_cons pe_int (pa_cons pe_int pa_nil))))))))) (pe_cal c1 hr (by decide) (pa_cons (pv 0) (pa_cons pe_int pa_nil))) (fun _ _ => rfl)))
        (C8.pss_cut (ps_while PassesOwn.never (PW.pt (pw_and (pt_cmpR n_gt (pv 5) (pv 1) (nomark _)) (pw_and1 (pt_cmpR n_gt (pv 5) pe_int (nomark _))))) (pss_one (ps_set (i := 5) scSmall.nd rfl (Or.inl rfl) (pe_op n_sub (pv 5) pe_int))))
        (pss_one (ps_if (pt_cmpR n_le (pv 5) (pv 1) (nomark _))
          (pss_cons (ps_expr (pe_bm PySem.F.plainAttrs_list PySem.F.slot_list_append PySem.F.type_list_append mt_append (pv 2) (pa_cons (pv 5) pa_nil))) (pss_one (ps_set (i := 1) scSmall.nd rfl (Or.inl rfl) (pe_op n_div (pv 1) (pv 5))))) pss_nil)))))
      (pss_one (ps_ret (pv 2)))))), ?_⟩
    obtain ⟨o0, hp0⟩ := S.some
    -- room
    refine ⟨by show 2 ≤ sizeLine; decide, fun d1 hd1 => ?_⟩
    have nd1 : d1 ≠ p := fun e => by
      rw [e, hp0] at hd1
      cases hd1
    have S1 := S.same (same_new (o := .lst [.int 60, .int 120]) hd1)
    refine ⟨_, rfl, p, cl, cells, 12, rfl, S1, by decide, by decide, fun H2 r2 b2 S2 n2 hr2 => ?_⟩
    have hd2 : H2 d1 = some (.lst (nums [60, 120])) := b2.1 _ _ upd_same nd1
    have B2 : But p H H2 := (But.of hp0 (same_new hd1)).trans b2
    obtain ⟨room, hroom, hroom2⟩ : ∃ room, ([60, 120] : List Nat)[if decide (r2 = 0) = true then 1 else 0]? = some room ∧ room ≤ 120 := by
      by_cases z : r2 = 0
      · exact ⟨120, by rw [decide_eq_true z]; rfl, by decide⟩
      · exact ⟨60, by rw [decide_eq_false z]; rfl, by decide⟩
    refine ⟨r2, 0, rfl, rfl, _, rfl, d1, _, _, _, rfl, rfl, hd2, nums_get hroom, ?_⟩
    -- row = []
    refine ⟨Nat.zero_le _, fun rp hrp => ?_⟩
    have hrp0 : H rp = none := B2.free hrp
    have nrp : rp ≠ p := fun e => by
      rw [e, hp0] at hrp0
      cases hrp0
    have nrc : cl ≠ rp := ne_of_none S.c hrp0
    have S3 := S2.same (same_new (o := .lst []) hrp)
    have B3 := B2.same (same_new (o := .lst []) hrp)
    -- many
    refine ⟨by show 8 ≤ sizeLine; decide, fun d4 hd4 => ?_⟩
    have s4 : Same (upd H2 rp (.lst [])) (upd (upd H2 rp (.lst [])) d4 (.lst (nums [1, 2, 3, 4, 3, 4, 2, 4]))) := same_new hd4
    have S4 := S3.same s4
    have B4 := B3.same s4
    have nd4 : d4 ≠ p := fun e => by
      obtain ⟨o, ho⟩ := B3.2
      rw [e, ho] at hd4
      cases hd4
    refine ⟨_, rfl, p, cl, cells, 8, rfl, S4, by decide, by decide, fun H5 r5 b5 S5 n5 hr5 => ?_⟩
    obtain ⟨many, hmany, hm4⟩ := pick (l := [1, 2, 3, 4, 3, 4, 2, 4]) (p := fun x => x ≤ 4) hr5 (by decide)
    have B5 := B4.trans b5
    have hrow5 : H5 rp = some (.lst (nums [])) := b5.1 _ _ (s4 _ _ upd_same) nrp
    refine ⟨d4, _, r5, _, rfl, rfl, b5.1 _ _ upd_same nd4, nums_get hmany, ?_⟩
    -- the loop
    refine ⟨_, rfl, _, rfl, p, cl, cells, 12, rfl, S5, by decide, by decide, fun H6 r6 b6 S6 n6 hr6 => ?_⟩
    have B6 := B5.trans b6
    have hrow6 := b6.1 _ _ hrow5 nrp
    have hk4 : many * (if decide (0 < r6) = true then 1 else 0) ≤ 4 := by
      split
      · omega
      · omega
    refine ⟨r6, 0, rfl, rfl, _, rfl, many, _, rfl, rfl, ⟨Nat.lt_of_le_of_lt hm4 ?_, ?_⟩, many * (if decide (0 < r6) = true then 1 else 0), rfl, by omega, ?_⟩
    · exact Nat.lt_of_lt_of_le (by decide : 4 < 2 ^ 3) (Nat.pow_le_pow_right (by decide) (by decide))
    · exact Nat.lt_of_le_of_lt (by split <;> decide : _ ≤ 1) (Nat.one_lt_two_pow (by decide))
    refine for_up0 (n := many * (if decide (0 < r6) = true then 1 else 0)) (fun i σ H' => ∃ (room : Nat) (v4 v5 : Option V) (l : List Nat), σ = [some (.ref p), some (.int (room : Int)), some (.ref rp), some (.int (many : Int)), v4, v5] ∧ But p H H' ∧ StA H' p cl cells ∧ H' rp = some (.lst (nums l)) ∧ l.length ≤ i ∧ ∀ x ∈ l, 2 ≤ x ∧ x ≤ 6)
      ⟨room, none, none, [], rfl, B6, S6, hrow6, Nat.le_refl _, fun x hx => by cases hx⟩ ?_ ?_
    · rintro i σ H7 hi ⟨room, v4, v5, l, rfl, B7, S7, hl7, hll, hlx⟩
      refine ⟨by show 8 ≤ sizeLine; decide, fun d8 hd8 => ?_⟩
      have s8 : Same H7 (upd H7 d8 (.lst (nums [2, 3, 4, 5, 6, 2, 3, 2]))) := same_new hd8
      have S8 := S7.same s8
      have nd8 : d8 ≠ p := fun e => by
        obtain ⟨o, ho⟩ := B7.2
        rw [e, ho] at hd8
        cases hd8
      refine ⟨_, rfl, p, cl, cells, 8, rfl, S8, by decide, by decide, fun H9 r9 b9 S9 n9 hr9 => ?_⟩
      obtain ⟨made, hmade, hma⟩ := pick (l := [2, 3, 4, 5, 6, 2, 3, 2]) (p := fun x => 2 ≤ x ∧ x ≤ 6) hr9 (by decide)
      have B9 := (B7.same s8).trans b9
      have hl9 := b9.1 _ _ (s8 _ _ hl7) nrp
      refine ⟨d8, _, r9, _, rfl, rfl, b9.1 _ _ upd_same nd8, nums_get hmade, ?_⟩
      -- while
      refine ⟨fun σ H' => ∃ made : Nat, σ = [some (.ref p), some (.int (room : Int)), some (.ref rp), some (.int (many : Int)), some (.int (i : Int)), some (.int (made : Int))] ∧ (2 ≤ made ∧ made ≤ 6) ∧ H' = H9, ?_, ?_⟩
      · refine ⟨fun u σ H' => σ = [some (.ref p), some (.int (room : Int)), some (.ref rp), some (.int (many : Int)), some (.int (i : Int)), some (.int (u : Int))] ∧ (2 ≤ u ∧ u ≤ 6) ∧ H' = H9, ⟨made, rfl, hma, rfl⟩, ?_⟩
        rintro u σ H' ⟨rfl, hu, rfl⟩
        refine ⟨_, rfl, _, rfl, u, room, rfl, rfl, _, rfl, ite2 (fun e => ?_) (fun e => ?_)⟩
        · refine ⟨_, rfl, u, 2, rfl, rfl, _, rfl, ite2 (fun e2 => ?_) (fun e2 => ?_)⟩
          · have e2 : 2 < u := of_decide_eq_true e2
            exact ⟨_, fun _ _ h => h, _, rfl, u, 1, rfl, rfl, (by show 1 ≤ u; omega), u - 1, by omega, rfl, by omega, rfl⟩
          · exact ⟨u, rfl, hu, rfl⟩
        · exact iteF ⟨u, rfl, hu, rfl⟩
      · rintro σ H' ⟨made, rfl, hma, rfl⟩
        refine ⟨_, rfl, _, rfl, made, room, rfl, rfl, _, rfl, ite2 (fun e => ?_) (fun e => ?_)⟩
        · refine ⟨_, rfl, .inl ⟨rfl, _, SqL.of hl9⟩, _, rfl, rp, _, _, rfl, rfl, hl9, ?_, ?_⟩
          · rw [nums_len]
            exact sz8 (by omega)
          · refine ⟨_, rfl, _, rfl, room, made, rfl, rfl, ⟨by omega, Nat.lt_of_le_of_lt hma.2 (Nat.lt_of_lt_of_le (by decide : 6 < 2 ^ 3) (Nat.pow_le_pow_right (by decide) (by decide)))⟩, _, _, _, l ++ [made], rfl, B9.mut hrp0 nrp, S9.put hl9 nrc, by rw [upd_same, nums_app], by rw [List.length_append]; show l.length + 1 ≤ _; omega, fun x hx => ?_⟩
            rcases List.mem_append.mp hx with h | h
            · exact hlx x h
            · rw [List.mem_singleton] at h
              rw [h]
              exact hma
        · exact ⟨room, _, _, l, rfl, B9, S9, hl9, by omega, hlx⟩
    · rintro σ H7 ⟨room, v4, v5, l, rfl, B7, S7, hl7, hll, hlx⟩
      refine ⟨_, rfl, q H7 rp l B7 S7 hrp0 hl7 ⟨by omega, fun x hx => (hlx x hx).1, fun x hx => ?_⟩⟩
      exact Nat.lt_of_le_of_lt (hlx x hx).2 (Nat.lt_of_lt_of_le (by decide : 6 < 2 ^ 3) (Nat.pow_le_pow_right (by decide) (by decide)))
end
end WW

set_option Elab.async false
set_option linter.all false
set_option maxRecDepth 100000
set_option maxHeartbeats 4000000
/-! W14: _law_menu, _law_graph -/
namespace WW
open PySem PySem.Spec PyProof.Rows L2
theorem lt800 {x n : Nat} (h : x < 2 ^ n) (hn : n ≤ 800) : x < 2 ^ 800 := Nat.lt_of_lt_of_le h (Nat.pow_le_pow_right (by decide) hn)
theorem lt9000 {x n : Nat} (h : x < 2 ^ n) (hn : n ≤ 9000) : x < 2 ^ 9000 := Nat.lt_of_lt_of_le h (Nat.pow_le_pow_right (by decide) hn)
/-- the told rows -/
def menu : List (List Nat) := [[22, 6, 15, 35, 77], [6, 10, 14, 3, 5, 7], [30, 154, 3, 5, 7, 11], [6, 35, 22, 10, 21, 143], [2, 3, 6, 5], [4, 6, 9], [30, 42, 70, 105], [6, 15, 35, 14]]
def MenuOk (l : List Nat) : Prop := l.length ≤ 6 ∧ 0 < l.length ∧ ∀ x ∈ l, 2 ≤ x ∧ x < 256
instance (l : List Nat) : Decidable (MenuOk l) := by unfold MenuOk; infer_instance
theorem menu_ok : ∀ l ∈ menu, MenuOk l := by decide
/-- lists of numbers at told addresses -/
def ListsAt (H : Hp) : List Addr → List (List Nat) → Prop
  | [], [] => True
  | a :: as, l :: ls => H a = some (.lst (nums l)) ∧ ListsAt H as ls
  | _, _ => False
theorem ListsAt.mono {H H' : Hp} (s : Same H H') : ∀ {as : List Addr} {ls : List (List Nat)}, ListsAt H as ls → ListsAt H' as ls
  | [], [], _ => True.intro
  | a :: as, l :: ls, h => ⟨s _ _ h.1, ListsAt.mono s h.2⟩
  | [], _ :: _, h => h.elim
  | _ :: _, [], h => h.elim
theorem ListsAt.get {H : Hp} : ∀ {as : List Addr} {ls : List (List Nat)} {i : Nat}, ListsAt H as ls → i < ls.length → ∃ a l, as[i]? = some a ∧ ls[i]? = some l ∧ H a = some (.lst (nums l))
  | [], [], _, _, hi => by simp at hi
  | a :: as, l :: ls, 0, h, _ => ⟨a, l, rfl, rfl, h.1⟩
  | a :: as, l :: ls, i + 1, h, hi => by
    obtain ⟨b, m, h1, h2, h3⟩ := ListsAt.get (i := i) h.2 (by simpa using hi)
    exact ⟨b, m, h1, h2, h3⟩
  | [], _ :: _, _, h, _ => h.elim
  | _ :: _, [], _, h, _ => h.elim
theorem ListsAt.app {H : Hp} : ∀ {as bs : List Addr} {ls ms : List (List Nat)}, ListsAt H as ls → ListsAt H bs ms → ListsAt H (as ++ bs) (ls ++ ms)
  | [], _, [], _, _, h => h
  | _ :: _, _, _ :: _, _, h, h' => ⟨h.1, ListsAt.app h.2 h'⟩
  | [], _, _ :: _, _, h, _ => h.elim
  | _ :: _, _, [], _, h, _ => h.elim
section
variable {P : Program} {w : World} {K : PySem.W.Frag} {mg : Str → Option Value} {base : Heap}
/-! ### _law_menu -/
theorem scMenu : FnScope ["_law_state", "_law_rows", "_law_row", "_law_k", "_law_prime", "_law_turn"] ["_law_state"] (defScope (topS 51)) := ⟨rfl, rfl, rfl, by decide +kernel, rfl, by decide +kernel, by decide +kernel⟩
theorem cal_menu (D : Dfn K mg "_law_menu" (topS 51) ["_law_state"]) (B : Blt mg) (c1 : Cal P w K mg base "_law_draw" 1 ["_law_state", "_law_many"] spDraw) (c2 : Cal P w K mg base "_law_mixed_up" 2 ["_law_state", "_law_row"] spMixed) : Cal P w K mg base "_law_menu" 3 ["_law_state"] spSmall := by
  refine D.cal scMenu (fun vs H Q E h => ?_) (fun f cdv A outer s H vs Q E hr h => ?_)
  · obtain ⟨p, cl, cells, rfl, _⟩ := h
    rfl
  · obtain ⟨p, cl, cells, rfl, S, q⟩ := h
    have hr1 : Room 1 _ := hr.mono (by decide)
    refine ⟨_, pss_cons (ps_set (i := 1) scMenu.nd rfl (Or.inl rfl) (pe_lst (pa_cons (pe_lst (pa_cons pe_int (pa_cons pe_int (pa_cons pe_int (pa_cons pe_int (pa_cons pe_int pa_nil)))))) (pa_cons (pe_lst (pa_cons pe_int (pa_cons pe_int (pa_cons pe_int (pa_cons pe_int (pa_cons pe_int (pa_cons pe_int pa_nil))))))) (pa_cons (pe_lst (pa_cons pe_int (pa_cons pe_int (pa_cons pe_int (pa_cons pe_int (pa_cons pe_int (pa_cons pe_int pa_nil))))))) (pa_cons (pe_lst (pa_cons pe_int (pa_cons pe_int (pa_cons pe_int (pa_cons pe_int (pa_cons pe_int (pa_cons pe_int pa_nil))))))) pa_nil))))))
      (pss_cons (ps_set (i := 1) scMenu.nd rfl (Or.inl rfl) (pe_op op_cat (pv 1) (pe_lst (pa_cons (pe_lst (pa_cons pe_int (pa_cons pe_int (pa_cons pe_int (pa_cons pe_int pa_nil))))) (pa_cons (pe_lst (pa_cons pe_int (pa_cons pe_int (pa_cons pe_int pa_nil)))) (pa_cons (pe_lst (pa_cons pe_int (pa_cons pe_int (pa_cons pe_int (pa_cons pe_int pa_nil))))) (pa_cons (pe_lst (pa_cons pe_int (pa_cons pe_int (pa_cons pe_int (pa_cons pe_int pa_nil))))) pa_nil)))))))
      (pss_cons (ps_set (i := 2) scMenu.nd rfl (Or.inl rfl) (pe_cal c2 hr (by decide) (pa_cons (pv 0) (pa_cons (pe_ix ixl (pv 1) (pe_cal c1 hr (by decide) (pa_cons (pv 0) (pa_cons pe_int pa_nil))) (fun _ _ => rfl)) pa_nil))))
      (pss_cons (ps_set (i := 3) scMenu.nd rfl (Or.inl rfl) (pe_cal c1 hr (by decide) (pa_cons (pv 0) (pa_cons (pe_callB c_len (by rfl) B.len PySem.boot_len (pa_cons (pv 2) pa_nil)) pa_nil))))
      (pss_cons (ps_set (i := 4) scMenu.nd rfl (Or.inl rfl) (pe_ix ixl (pe_lst (pa_cons pe_int (pa_cons pe_int (pa_cons pe_int (pa_cons pe_int pa_nil))))) (pe_cal c1 hr (by decide) (pa_cons (pv 0) (pa_cons pe_int pa_nil))) (fun _ _ => rfl)))
      (pss_cons (ps_set (i := 5) scMenu.nd rfl (Or.inl rfl) (pe_cal c1 hr (by decide) (pa_cons (pv 0) (pa_cons pe_int pa_nil))))
      (C8.pss_cut (ps_if (pt_cmpR n_eq (pv 5) pe_int (nomark _)) (pss_one (ps_asg (pe_op n_mul (pe_ix ixl (pv 2) (pv 3) (fun _ _ => rfl)) (pv 4)) (pg_sub (pv 2) (pv 3) setl))) pss_nil)
      (pss_cons (ps_if (PW.pt (pw_and (pt_cmpR n_eq (pv 5) pe_int (nomark _)) (pw_and (pt_cmpR n_gt (pe_ix ixl (pv 2) (pv 3) (fun _ _ => rfl)) (pv 4) (nomark _)) (pw_and1 (pt_cmpR n_eq (pe_op n_mod (pe_callTy c_intn (by rfl) B.int (by decide +kernel) (pa_cons (pe_ix ixl (pv 2) (pv 3) (fun _ _ => rfl)) pa_nil)) (pv 4)) pe_int (nomark _))))))
        (pss_one (ps_asg (pe_op n_div (pe_ix ixl (pv 2) (pv 3) (fun _ _ => rfl)) (pv 4)) (pg_sub (pv 2) (pv 3) setl))) pss_nil)
      (pss_one (ps_ret (pv 2)))))))))), ?_⟩
    obtain ⟨o0, hp0⟩ := S.some
    -- eight rows
    refine ⟨by show 5 ≤ sizeLine; decide, fun a1 h1 => ⟨by show 6 ≤ sizeLine; decide, fun a2 h2 => ⟨by show 6 ≤ sizeLine; decide, fun a3 h3 => ⟨by show 6 ≤ sizeLine; decide, fun a4 h4 => ⟨by show 4 ≤ sizeLine; decide, fun r1 hr1' => ?_⟩⟩⟩⟩⟩
    refine ⟨_, rfl, ?_⟩
    refine ⟨by show 4 ≤ sizeLine; decide, fun a5 h5 => ⟨by show 3 ≤ sizeLine; decide, fun a6 h6 => ⟨by show 4 ≤ sizeLine; decide, fun a7 h7 => ⟨by show 4 ≤ sizeLine; decide, fun a8 h8 => ⟨by show 4 ≤ sizeLine; decide, fun r2 hr2' => ?_⟩⟩⟩⟩⟩
    have t1 : Same H (upd H a1 (.lst (nums [22, 6, 15, 35, 77]))) := same_new h1
    have t2 := same_new (o := .lst (nums [6, 10, 14, 3, 5, 7])) h2
    have t3 := same_new (o := .lst (nums [30, 154, 3, 5, 7, 11])) h3
    have t4 := same_new (o := .lst (nums [6, 35, 22, 10, 21, 143])) h4
    have u1 := same_new (o := .lst [.ref a1, .ref a2, .ref a3, .ref a4]) hr1'
    have t5 := same_new (o := .lst (nums [2, 3, 6, 5])) h5
    have t6 := same_new (o := .lst (nums [4, 6, 9])) h6
    have t7 := same_new (o := .lst (nums [30, 42, 70, 105])) h7
    have t8 := same_new (o := .lst (nums [6, 15, 35, 14])) h8
    have u2 := same_new (o := .lst [.ref a5, .ref a6, .ref a7, .ref a8]) hr2'
    have e8 := u2
    have e7 := t8.trans e8
    have e6 := t7.trans e7
    have e5 := t6.trans e6
    have e0 := t5.trans e5
    have e4 := u1.trans e0
    have e3 := t4.trans e4
    have e2 := t3.trans e3
    have e1 := t2.trans e2
    have eA := t1.trans e1
    refine ⟨r1, r2, _, _, rfl, rfl, e0 _ _ upd_same, upd_same, by show 8 ≤ sizeLine; decide, fun rl hrl => ?_⟩
    have u3 := same_new (o := .lst ([.ref a1, .ref a2, .ref a3, .ref a4] ++ [.ref a5, .ref a6, .ref a7, .ref a8])) hrl
    have LA := ListsAt.mono (as := [a1, a2, a3, a4, a5, a6, a7, a8]) (ls := menu) u3 ⟨e1 _ _ upd_same, e2 _ _ upd_same, e3 _ _ upd_same, e4 _ _ upd_same, e5 _ _ upd_same, e6 _ _ upd_same, e7 _ _ upd_same, e8 _ _ upd_same, True.intro⟩
    have sB := eA.trans u3
    generalize hH2 : upd _ rl (.lst ([.ref a1, .ref a2, .ref a3, .ref a4] ++ [.ref a5, .ref a6, .ref a7, .ref a8])) = H2 at LA sB
    have hrl2 : H2 rl = some (.lst ([a1, a2, a3, a4, a5, a6, a7, a8].map V.ref)) := by
      rw [← hH2]
      exact upd_same
    clear hH2 u3 e8 e7 e6 e5 e0 e4 e3 e2 e1 eA t1 t2 t3 t4 u1 t5 t6 t7 t8 u2
    have S2 := S.same sB
    have B2 := But.of hp0 sB
    -- the drawn row
    refine ⟨_, rfl, _, rfl, _, rfl, p, cl, cells, 8, rfl, S2, by decide, by decide, fun H3 r3 b3 S3 n3 hr3 => ?_⟩
    obtain ⟨ar, l, ha1, ha2, ha3⟩ := LA.get (i := r3) hr3
    have hl := menu_ok l (List.mem_of_getElem? ha2)
    have nar : ar ≠ p := S2.pne ha3
    refine ⟨rl, _, r3, _, rfl, rfl, b3.1 _ _ hrl2 (S2.pne hrl2), refs_get ha1, p, cl, ar, cells, l, rfl, S3, b3.1 _ _ ha3 nar, by have := hl.1; omega, fun H4 rp l' b4 S4 fp4 hrp4 hperm => ?_⟩
    have B4 := (B2.trans b3).trans b4
    have hrp0 : H rp = none := (B2.trans b3).free fp4
    have nrp : rp ≠ p := S4.pne hrp4
    have nrc : cl ≠ rp := ne_of_none S.c hrp0
    have hlen : l'.length = l.length := hperm.length_eq
    have hx : ∀ x ∈ l', 2 ≤ x ∧ x < 256 := fun x hx => hl.2.2 x (hperm.mem_iff.mp hx)
    have h0 := hl.1
    have h00 := hl.2.1
    -- k, prime, turn
    refine ⟨_, rfl, _, rfl, rp, _, l'.length, rfl, .inl hrp4, nums_len _, p, cl, cells, l'.length, rfl, S4, by omega, by omega, fun H5 k b5 S5 n5 hk => ?_⟩
    have hrp5 := b5.1 _ _ hrp4 nrp
    refine ⟨by show 4 ≤ sizeLine; decide, fun d hd => ?_⟩
    have s6 := same_new (o := .lst (nums [2, 3, 5, 7])) hd
    have S6 := S5.same s6
    have nd : d ≠ p := fun e => by
      obtain ⟨o, ho⟩ := S5.some
      rw [e, ho] at hd
      cases hd
    refine ⟨_, rfl, p, cl, cells, 4, rfl, S6, by decide, by decide, fun H7 r7 b7 S7 n7 hr7 => ?_⟩
    obtain ⟨prime, hpr, hpr2⟩ := pick (l := [2, 3, 5, 7]) (p := fun x => 2 ≤ x ∧ x ≤ 7) hr7 (by decide)
    have hrp7 := b7.1 _ _ (s6 _ _ hrp5) nrp
    refine ⟨d, _, r7, _, rfl, rfl, b7.1 _ _ upd_same nd, nums_get hpr, ?_⟩
    refine ⟨_, rfl, p, cl, cells, 3, rfl, S7, by decide, by decide, fun H8 turn b8 S8 n8 hturn => ?_⟩
    have hrp8 := b8.1 _ _ hrp7 nrp
    have B8 := (((B4.trans b5).same s6).trans b7).trans b8
    have hp7 : prime < 2 ^ 9000 := lt9000 (n := 3) (by omega) (by decide)
    refine ⟨fun σ H' => ∃ l2 : List Nat, σ = [some (.ref p), some (.ref rl), some (.ref rp), some (.int (k : Int)), some (.int (prime : Int)), some (.int (turn : Int))] ∧ But p H H' ∧ StA H' p cl cells ∧ H' rp = some (.lst (nums l2)) ∧ l2.length = l'.length ∧ ∀ x ∈ l2, 2 ≤ x ∧ x < 2 ^ 12, ?_, ?_⟩
    · refine ⟨_, rfl, turn, 1, rfl, rfl, _, rfl, ite2 (fun e => ?_) (fun e => ?_)⟩
      · have hv := getD_get (d := 0) hk
        have hv2 := hx _ (List.mem_of_getElem? hv)
        refine ⟨_, rfl, _, rfl, rp, _, k, _, rfl, rfl, hrp8, nums_get hv, _, rfl, _, _, rfl, rfl, ⟨lt9000 (n := 8) hv2.2 (by decide), hp7⟩, _, rfl, _, rfl, rp, _, k, rfl, rfl, hrp8, by rw [nums_len]; exact hk, ?_⟩
        rw [nums_set]
        refine ⟨_, rfl, B8.mut hrp0 nrp, S8.put hrp8 nrc, upd_same, List.length_set, fun x hxm => ?_⟩
        rcases List.mem_or_eq_of_mem_set hxm with h | h
        · have := hx x h
          exact ⟨this.1, by omega⟩
        · rw [h]
          have h1 : 2 * 2 ≤ l'.getD k 0 * prime := Nat.mul_le_mul hv2.1 hpr2.1
          have h2 : l'.getD k 0 * prime ≤ 256 * 7 := Nat.mul_le_mul (by omega) hpr2.2
          dsimp only
          omega
      · exact ⟨l', rfl, B8, S8, hrp8, rfl, fun x h => ⟨(hx x h).1, by have := (hx x h).2; omega⟩⟩
    · rintro σ H9 ⟨l2, rfl, B9, S9, hrp9, hl2, hx2⟩
      have hk2 : k < l2.length := by omega
      have hv := getD_get (d := 0) hk2
      have hv2 := hx2 _ (List.mem_of_getElem? hv)
      have fin : ∀ H10 (l3 : List Nat), But p H H10 → StA H10 p cl cells → H10 rp = some (.lst (nums l3)) → l3.length = l'.length → (∀ x ∈ l3, 2 ≤ x ∧ x < 2 ^ 12) → Q (.ref rp) H10 := fun H10 l3 b s h hlen3 hx3 =>
        q H10 rp l3 b s hrp0 h ⟨by omega, fun x hx => (hx3 x hx).1, fun x hx => lt800 (n := 12) (hx3 x hx).2 (by decide)⟩
      refine ⟨_, rfl, turn, 2, rfl, rfl, _, rfl, ite2 (fun e => ?_) (fun e => ?_)⟩
      · refine ⟨_, rfl, _, rfl, rp, _, k, _, rfl, rfl, hrp9, nums_get hv, _, rfl, _, _, rfl, rfl, _, rfl, ite2 (fun e2 => ?_) (fun e2 => ?_)⟩
        · have e2 : prime < l2.getD k 0 := of_decide_eq_true e2
          refine ⟨_, rfl, _, rfl, rp, _, k, _, rfl, rfl, hrp9, nums_get hv, _, rfl, _, rfl, _, prime, rfl, rfl, (by show 0 < prime; omega), _, 0, rfl, rfl, _, rfl, ite2 (fun e3 => ?_) (fun e3 => ?_)⟩
          · have e3 : l2.getD k 0 % prime = 0 := of_decide_eq_true e3
            refine ⟨_, rfl, _, rfl, rp, _, k, _, rfl, rfl, hrp9, nums_get hv, _, rfl, _, prime, rfl, rfl, ⟨by omega, hp7⟩, _, rfl, _, rfl, rp, _, k, rfl, rfl, hrp9, by rw [nums_len]; exact hk2, ?_⟩
            rw [nums_set]
            refine ⟨_, rfl, fin _ _ (B9.mut hrp0 nrp) (S9.put hrp9 nrc) upd_same (by rw [List.length_set]; exact hl2) fun x hxm => ?_⟩
            rcases List.mem_or_eq_of_mem_set hxm with h | h
            · exact hx2 x h
            · rw [h]
              have h1 := Nat.div_add_mod (l2.getD k 0) prime
              have h2 : l2.getD k 0 / prime ≤ l2.getD k 0 := Nat.div_le_self _ _
              have h3 : 1 < l2.getD k 0 / prime := by
                refine Decidable.byContradiction fun z => ?_
                have h4 : l2.getD k 0 / prime ≤ 1 := by omega
                have h5 : prime * (l2.getD k 0 / prime) ≤ prime * 1 := Nat.mul_le_mul_left _ h4
                omega
              dsimp only
              omega
          · exact ⟨_, rfl, fin _ l2 B9 S9 hrp9 hl2 hx2⟩
        · exact iteF ⟨_, rfl, fin _ l2 B9 S9 hrp9 hl2 hx2⟩
      · exact iteF ⟨_, rfl, fin _ l2 B9 S9 hrp9 hl2 hx2⟩
end
end WW

set_option Elab.async false
set_option linter.all false
set_option maxRecDepth 100000
set_option maxHeartbeats 4000000
/-! W15: _law_graph -/
namespace WW
open PySem PySem.Spec PyProof.Rows L2
def mP : Nat := 2 ^ 40 - 1
theorem mP_pow {c : Nat} (h : c ≤ 20) : mP ^ c < 2 ^ 800 := by
  have h1 : mP ^ c ≤ mP ^ 20 := Nat.pow_le_pow_right (by decide) h
  have h2 : mP ^ 20 < 2 ^ 800 := by decide +kernel
  omega
theorem mP_mono {c : Nat} : mP ^ c ≤ mP ^ (c + 1) := Nat.pow_le_pow_right (by decide) (Nat.le_succ c)
theorem nums_get' {l : List Nat} {i : Nat} (h : i < l.length) : (nums l)[i]? = some (.int ((l.getD i 0 : Nat) : Int)) := nums_get (getD_get h)
section
variable {X : Cx}
def rMax2 : List V → Hp → VK → Prop := fun xs H Q => ∃ a b : Nat, xs = [.int (a : Int), .int (b : Int)] ∧ Q (.int ((max a b : Nat) : Int)) H
theorem c_max2 (hc : X.calm = true) : CallR X (.builtin "max") rMax2 := CallR.of (call_max2 hc) fun xs H Q ⟨a, b, e, q⟩ => ⟨_, _, e, by
  have : (if (b : Int) > (a : Int) then (b : Int) else (a : Int)) = ((max a b : Nat) : Int) := by
    split <;> omega
  rw [this]
  exact q⟩
end
section
variable {P : Program} {w : World} {K : PySem.W.Frag} {mg : Str → Option Value} {base : Heap}
def spGraphL : Sp := fun vs H Q _ => ∃ (p cl : Addr) (cells : List Int) (n : Nat), vs = [.ref p, .int (n : Int)] ∧ StA H p cl cells ∧ n ≤ 8 ∧
  ∀ H' q (l : List Nat), But p H H' → StA H' p cl cells → H q = none → H' q = some (.lst (nums l)) → Rgs l → Q (.ref q) H'
theorem scLGraph : FnScope ["_law_state", "_law_size", "_law_primes", "_law_dense", "_law_row", "_law_i", "_law_j", "_law_prime", "_law_alone", "_law_k"] ["_law_state", "_law_size"] (defScope (topS 50)) := ⟨rfl, rfl, rfl, by decide +kernel, rfl, by decide +kernel, by decide +kernel⟩
theorem cal_law_graph (D : Dfn K mg "_law_graph" (topS 50) ["_law_state", "_law_size"]) (B : Blt mg) (c1 : Cal P w K mg base "_law_draw" 1 ["_law_state", "_law_many"] spDraw) (c2 : Cal P w K mg base "_law_mixed_up" 2 ["_law_state", "_law_row"] spMixed) : Cal P w K mg base "_law_graph" 3 ["_law_state", "_law_size"] spGraphL := by
  refine D.cal scLGraph (fun vs H Q E h => ?_) (fun f cdv A outer s H vs Q E hr h => ?_)
  · obtain ⟨p, cl, cells, n, rfl, _⟩ := h
    rfl
  · obtain ⟨p, cl, cells, n, rfl, S, hn8, q⟩ := h
    refine ⟨_, pss_cons (ps_set (i := 2) scLGraph.nd rfl (Or.inl rfl) (pe_lst (pa_cons pe_int (pa_cons pe_int (pa_cons pe_int (pa_cons pe_int (pa_cons pe_int (pa_cons pe_int (pa_cons pe_int (pa_cons pe_int (pa_cons pe_int (pa_cons pe_int (pa_cons pe_int (pa_cons pe_int (pa_cons pe_int (pa_cons pe_int (pa_cons pe_int (pa_cons pe_int (pa_cons pe_int (pa_cons pe_int (pa_cons pe_int (pa_cons pe_int pa_nil))))))))))))))))))))))
      (C8.pss_cut (ps_if (pt_cmpR n_eq (pe_cal c1 hr (by decide) (pa_cons (pv 0) (pa_cons pe_int pa_nil))) pe_int (nomark _))
        (pss_one (ps_set (i := 2) scLGraph.nd rfl (Or.inl rfl) (pe_op op_cat (pe_slice sl_list (pv 2) po_none (po_some pe_int)) (pe_lst (pa_cons (pe_ix ixl (pe_lst (pa_cons (pe_op op_add (pe_op op_pow pe_int pe_int) pe_int) (pa_cons pe_int pa_nil))) (pe_cal c1 hr (by decide) (pa_cons (pv 0) (pa_cons pe_int pa_nil))) (fun _ _ => rfl)) pa_nil))))) pss_nil)
      (pss_cons (ps_set (i := 3) scLGraph.nd rfl (Or.inl rfl) (pe_op n_add pe_int (pe_cal c1 hr (by decide) (pa_cons (pv 0) (pa_cons pe_int pa_nil)))))
      (pss_cons (ps_set (i := 4) scLGraph.nd rfl (Or.inr rfl) (pe_lc (own := [("_law_k", 9)]) (g := gName 9) rfl scLGraph.nd (up1_run rfl B.range (pa_cons (pv 1) pa_nil)) (blkOk_by (own := [("_law_k", 9)]) (N := ["_law_state", "_law_size", "_law_primes", "_law_dense", "_law_row", "_law_i", "_law_j", "_law_prime", "_law_alone", "_law_k"]) (sc := defScope (topS 50)) (by decide +kernel))
        (fun _ _ _ _ _ => pg_name (i := 9) scLGraph.nd rfl (Or.inl rfl)) (fun _ _ _ _ _ => pts_nil) (fun _ _ _ _ _ => pe_int)))
      (pss_cons (ps_for PassesOwn.never rfl (up1_run rfl B.range (pa_cons (pv 1) pa_nil)) (pg_name (i := 5) scLGraph.nd rfl (Or.inl rfl))
        (pss_one (ps_for PassesOwn.never rfl (up1_run rfl B.range (pa_cons (pv 5) pa_nil)) (pg_name (i := 6) scLGraph.nd rfl (Or.inl rfl))
          (pss_one (ps_if (PW.pt (pw_and (pt_cmpR n_lt (pe_cal c1 hr (by decide) (pa_cons (pv 0) (pa_cons pe_int pa_nil))) (pv 3) (nomark _)) (pw_and1 (pt_cmpR n_gt (pe_callB c_len (by rfl) B.len PySem.boot_len (pa_cons (pv 2) pa_nil)) pe_int (nomark _)))))
            (pss_cons (ps_set (i := 7) scLGraph.nd rfl (Or.inl rfl) (pe_bm0 PySem.F.plainAttrs_list PySem.F.slot_list_pop PySem.F.type_list_pop mt_pop (pv 2)))
            (pss_cons (ps_asg (pe_op n_mul (pe_ix ixl (pv 4) (pv 5) (fun _ _ => rfl)) (pv 7)) (pg_sub (pv 4) (pv 5) setl))
            (pss_one (ps_asg (pe_op n_mul (pe_ix ixl (pv 4) (pv 6) (fun _ _ => rfl)) (pv 7)) (pg_sub (pv 4) (pv 6) setl))))) pss_nil)))))
      (pss_cons (ps_set (i := 8) scLGraph.nd rfl (Or.inr rfl) (pe_lst (pa_cons pe_int (pa_cons pe_int (pa_cons pe_int (pa_cons pe_int (pa_cons pe_int (pa_cons pe_int (pa_cons pe_int (pa_cons pe_int pa_nil))))))))))
      (pss_one (ps_ret (pe_cal c2 hr (by decide) (pa_cons (pv 0) (pa_cons (pe_lc (own := [("_law_k", 9)]) (g := gName 9) rfl scLGraph.nd (up1_run rfl B.range (pa_cons (pv 1) pa_nil)) (blkOk_by (own := [("_law_k", 9)]) (N := ["_law_state", "_law_size", "_law_primes", "_law_dense", "_law_row", "_law_i", "_law_j", "_law_prime", "_law_alone", "_law_k"]) (sc := defScope (topS 50)) (by decide +kernel))
        (fun _ _ _ _ _ => pg_name (i := 9) scLGraph.nd rfl (Or.inl rfl)) (fun _ _ _ _ _ => pts_nil) (fun _ _ _ _ _ => pe_callB (id := "max") (c_max2 rfl) (by rfl) B.max (by decide +kernel) (pa_cons (pe_ix ixl (pv 4) (pv 9) (fun _ _ => rfl)) (pa_cons (pe_op n_mul (pe_ix ixl (pv 8) (pv 9) (fun _ _ => rfl)) (pe_callTy (T := "int") c_intb (by rfl) B.int (by decide +kernel) (pa_cons (pe_cmpR n_eq (pe_ix ixl (pv 4) (pv 9) (fun _ _ => rfl)) pe_int (nomark _)) pa_nil))) pa_nil)))) pa_nil)))))))))), ?_⟩
    obtain ⟨o0, hp0⟩ := S.some
    refine ⟨by show 20 ≤ sizeLine; decide, fun a1 h1 => ?_⟩
    have s1 := same_new (o := .lst (nums [2, 3, 5, 7, 11, 13, 17, 19, 23, 29, 31, 37, 41, 43, 47, 53, 59, 61, 67, 71])) h1
    have S1 := S.same s1
    have B1 := But.of hp0 s1
    have n1 : a1 ≠ p := fun e => by
      rw [e, hp0] at h1
      cases h1
    -- the primes
    refine ⟨fun σ H' => ∃ (pa : Addr) (pl : List Nat), σ = [some (.ref p), some (.int (n : Int)), some (.ref pa), none, none, none, none, none, none, none] ∧ But p H H' ∧ StA H' p cl cells ∧ H pa = none ∧ H' pa = some (.lst (nums pl)) ∧ pl.length ≤ 20 ∧ ∀ x ∈ pl, 2 ≤ x ∧ x ≤ mP, ?_, ?_⟩
    · refine ⟨_, rfl, p, cl, cells, 2, rfl, S1, by decide, by decide, fun H2 r2 b2 S2 n2 hr2 => ?_⟩
      have hl2 := b2.1 _ _ (show (upd H a1 (.lst (nums [2, 3, 5, 7, 11, 13, 17, 19, 23, 29, 31, 37, 41, 43, 47, 53, 59, 61, 67, 71]))) a1 = _ from upd_same) n1
      have B2 := B1.trans b2
      refine ⟨r2, 0, rfl, rfl, _, rfl, ite2 (fun e => ?_) (fun e => ?_)⟩
      · refine ⟨_, rfl, 12, rfl, a1, _, rfl, SqL.of hl2, fun a3 h3 => ?_⟩
        have s3 := same_new (o := .lst (nums [2, 3, 5, 7, 11, 13, 17, 19, 23, 29, 31, 37])) h3
        have e3 : cutV (nums [2, 3, 5, 7, 11, 13, 17, 19, 23, 29, 31, 37, 41, 43, 47, 53, 59, 61, 67, 71]) none (some 12) = nums [2, 3, 5, 7, 11, 13, 17, 19, 23, 29, 31, 37] := rfl
        rw [e3]
        have n3 : a3 ≠ p := fun e => by
          obtain ⟨o, ho⟩ := S2.some
          rw [e, ho] at h3
          cases h3
        refine ⟨10, 9, rfl, rfl, ⟨by decide, by decide, by decide⟩, _, 7, rfl, rfl, by show 2 ≤ sizeLine; decide, fun a4 h4 => ?_⟩
        have s4 : Same (upd H2 a3 (.lst (nums [2, 3, 5, 7, 11, 13, 17, 19, 23, 29, 31, 37]))) (upd (upd H2 a3 (.lst (nums [2, 3, 5, 7, 11, 13, 17, 19, 23, 29, 31, 37]))) a4 (.lst (nums [1000000007, 999999999989]))) := same_new h4
        have S4 := (S2.same s3).same s4
        have n4 : a4 ≠ p := fun e => by
          obtain ⟨o, ho⟩ := (S2.same s3).some
          rw [e, ho] at h4
          cases h4
        refine ⟨_, rfl, p, cl, cells, 2, rfl, S4, by decide, by decide, fun H5 r5 b5 S5 n5 hr5 => ?_⟩
        obtain ⟨big, hb1, hb2⟩ := pick (l := [1000000007, 999999999989]) (p := fun x => 2 ≤ x ∧ x ≤ mP) hr5 (by decide +kernel)
        have B5 := ((B2.same s3).same s4).trans b5
        refine ⟨a4, _, r5, _, rfl, rfl, b5.1 _ _ upd_same n4, nums_get hb1, by show 1 ≤ sizeLine; decide, fun a6 h6 => ?_⟩
        have s6 : Same H5 (upd H5 a6 (.lst (nums [big]))) := same_new h6
        refine ⟨a3, a6, _, _, rfl, rfl, s6 _ _ (b5.1 _ _ (s4 _ _ upd_same) n3), upd_same, by show 12 + 1 ≤ sizeLine; decide, fun a7 h7 => ?_⟩
        have s7 := s6.trans (same_new (o := .lst (nums [2, 3, 5, 7, 11, 13, 17, 19, 23, 29, 31, 37] ++ nums [big])) h7)
        refine ⟨a7, [2, 3, 5, 7, 11, 13, 17, 19, 23, 29, 31, 37] ++ [big], rfl, B5.same s7, S5.same s7, (B5.same s6).free h7, ?_, by show 13 ≤ 20; decide, fun x hx => ?_⟩
        · rw [upd_same]
          rfl
        · rcases List.mem_append.mp hx with h | h
          · have : ∀ x ∈ [2, 3, 5, 7, 11, 13, 17, 19, 23, 29, 31, 37], 2 ≤ x ∧ x ≤ mP := by decide +kernel
            exact this x h
          · rw [List.mem_singleton] at h
            rw [h]
            exact hb2
      · exact ⟨a1, _, rfl, B2, S2, h1, hl2, by decide, by decide +kernel⟩
    · rintro σ H2 ⟨pa, pl, rfl, B2, S2, hpa, hpl, hpl20, hplx⟩
      have npa : pa ≠ p := S2.pne hpl
      have npc : cl ≠ pa := ne_of_none S.c hpa
      refine ⟨_, rfl, p, cl, cells, 5, rfl, S2, by decide, by decide, fun H3 r3 b3 S3 n3 hr3 => ?_⟩
      have hpl3 := b3.1 _ _ hpl npa
      have B3 := B2.trans b3
      refine ⟨2, r3, rfl, rfl, ?_⟩
      -- row
      refine ⟨_, rfl, n, rfl, by omega, fun rp hrp => lc_up0 (n := n) (fun i H' => Same H3 H' ∧ H' rp = some (.lst (nums (List.replicate i 1)))) ⟨same_new hrp, upd_same⟩ ?_ ?_⟩
      · rintro i H' hi ⟨sm, hl⟩
        refine ⟨rfl, yesT ?_⟩
        refine ⟨_, hl, ?_, same_mut sm hrp, ?_⟩
        · rw [nums_len, List.length_replicate]
          exact sz8 (by omega)
        · rw [upd_same, List.replicate_succ']
          exact congrArg (fun l => some (HO.lst l)) (nums_app _ 1)
      · rintro H4 ⟨sm4, hrow4⟩
        have S4 := S3.same sm4
        have B4 := B3.same sm4
        have hrp0 : H rp = none := B3.free hrp
        have nrp : rp ≠ p := S4.pne hrow4
        have nrc : cl ≠ rp := ne_of_none S.c hrp0
        have nrpa : rp ≠ pa := fun e => by
          rw [e, hpl3] at hrp
          cases hrp
        -- the loops: c primes are taken
        let I := fun (H' : Hp) => ∃ (c : Nat) (pl row : List Nat), But p H H' ∧ StA H' p cl cells ∧ H' pa = some (.lst (nums pl)) ∧ H' rp = some (.lst (nums row)) ∧ pl.length + c ≤ 20 ∧ (∀ x ∈ pl, 2 ≤ x ∧ x ≤ mP) ∧ row.length = n ∧ ∀ x ∈ row, 1 ≤ x ∧ x ≤ mP ^ c
        have I0 : I H4 := ⟨0, pl, List.replicate n 1, B4, S4, sm4 _ _ hpl3, hrow4, by omega, hplx, List.length_replicate, fun x hx => by
          rw [(List.mem_replicate.mp hx).2]
          exact ⟨Nat.le_refl _, Nat.le_refl _⟩⟩
        refine ⟨_, rfl, n, rfl, by omega, for_up0 (n := n) (fun i σ H' => ∃ v5 v6 v7, σ = [some (.ref p), some (.int (n : Int)), some (.ref pa), some (.int ((2 + r3 : Nat) : Int)), some (.ref rp), v5, v6, v7, none, none] ∧ I H') ⟨none, none, none, rfl, I0⟩ ?_ ?_⟩
        · rintro i σ H5 hi ⟨v5, v6, v7, rfl, I5⟩
          refine ⟨_, rfl, i, rfl, by omega, for_up0 (n := i) (fun j σ H' => ∃ v6 v7, σ = [some (.ref p), some (.int (n : Int)), some (.ref pa), some (.int ((2 + r3 : Nat) : Int)), some (.ref rp), some (.int (i : Int)), v6, v7, none, none] ∧ I H') ⟨v6, v7, rfl, I5⟩ ?_ ?_⟩
          · rintro j σ H6 hj ⟨v6, v7, rfl, c, pl, row, B6, S6, hpl6, hrow6, hc, hpx, hrl, hrx⟩
            refine ⟨_, rfl, p, cl, cells, 7, rfl, S6, by decide, by decide, fun H7 r7 b7 S7 n7 hr7 => ?_⟩
            have B7 := B6.trans b7
            have hpl7 := b7.1 _ _ hpl6 npa
            have hrow7 := b7.1 _ _ hrow6 nrp
            have keep : I H7 := ⟨c, pl, row, B7, S7, hpl7, hrow7, hc, hpx, hrl, hrx⟩
            refine ⟨_, rfl, r7, 2 + r3, rfl, rfl, _, rfl, ite2 (fun e => ?_) (fun e => ?_)⟩
            · refine ⟨_, rfl, pa, _, pl.length, rfl, .inl hpl7, nums_len _, pl.length, 0, rfl, rfl, _, rfl, ite2 (fun e2 => ?_) (fun e2 => ?_)⟩
              · have e2 : 0 < pl.length := of_decide_eq_true e2
                -- a prime is taken
                have hlast : (nums pl)[(nums pl).length - 1]? = some (.int ((pl.getD (pl.length - 1) 0 : Nat) : Int)) := by
                  rw [nums_len]
                  exact nums_get' (by omega)
                refine ⟨_, rfl, .inl ⟨rfl, _, SqL.of hpl7⟩, pa, _, _, rfl, rfl, hpl7, hlast, ?_⟩
                have hpm : pl.getD (pl.length - 1) 0 ∈ pl := List.mem_of_getElem? (getD_get (by omega))
                generalize hprime : pl.getD (pl.length - 1) 0 = prime at hpm
                have hp2 := hpx prime hpm
                have hdrop : (nums pl).dropLast = nums pl.dropLast := by
                  unfold nums
                  rw [List.map_dropLast]
                rw [hdrop]
                have S8 := S7.put (ys := nums pl.dropLast) hpl7 npc
                have B8 : But p H (upd H7 pa (.lst (nums pl.dropLast))) := B7.mut hpa npa
                have hrow8 : (upd H7 pa (.lst (nums pl.dropLast))) rp = some (.lst (nums row)) := by rw [upd_ne nrpa]; exact hrow7
                have hpl8 : (upd H7 pa (.lst (nums pl.dropLast))) pa = some (.lst (nums pl.dropLast)) := upd_same
                have big : ∀ x, x ∈ row → x < 2 ^ 9000 := fun x hx => Nat.lt_of_le_of_lt (hrx x hx).2 (Nat.lt_trans (mP_pow (by omega)) (Nat.pow_lt_pow_right (by decide) (by decide)))
                have bigp : prime < 2 ^ 9000 := lt9000 (n := 40) (by have := hp2.2; unfold mP at this; omega) (by decide)
                have hmul : ∀ x, x ∈ row → 1 ≤ x * prime ∧ x * prime ≤ mP ^ (c + 1) := fun x hx => by
                  have h := hrx x hx
                  refine ⟨Nat.mul_pos (by omega) (by omega), ?_⟩
                  rw [Nat.pow_succ]
                  exact Nat.mul_le_mul h.2 hp2.2
                have hri := getD_get (l := row) (i := i) (d := 0) (by omega)
                have hmi := List.mem_of_getElem? hri
                refine ⟨_, rfl, _, rfl, rp, _, i, _, rfl, rfl, hrow8, nums_get hri, _, rfl, _, prime, rfl, rfl, ⟨big _ hmi, bigp⟩, _, rfl, _, rfl, rp, _, i, rfl, rfl, hrow8, by rw [nums_len]; omega, ?_⟩
                rw [nums_set]
                have hset1 : ∀ x ∈ row.set i (row.getD i 0 * prime), 1 ≤ x ∧ x ≤ mP ^ (c + 1) := fun x hx => by
                  rcases List.mem_or_eq_of_mem_set hx with h | h
                  · exact ⟨(hrx x h).1, Nat.le_trans (hrx x h).2 mP_mono⟩
                  · rw [h]
                    exact hmul _ hmi
                have hrj0 : (row.set i (row.getD i 0 * prime)).getD j 0 = row.getD j 0 := by
                  rw [getD_set (by omega), if_neg (by omega)]
                have hrj := getD_get (l := row.set i (row.getD i 0 * prime)) (i := j) (d := 0) (by rw [List.length_set]; omega)
                rw [hrj0] at hrj
                have hmj : row.getD j 0 ∈ row := List.mem_of_getElem? (getD_get (by omega))
                refine ⟨_, rfl, _, rfl, rp, _, j, _, rfl, rfl, upd_same, nums_get hrj, _, rfl, _, prime, rfl, rfl, ⟨big _ hmj, bigp⟩, _, rfl, _, rfl, rp, _, j, rfl, rfl, upd_same, by rw [nums_len, List.length_set]; omega, ?_⟩
                rw [nums_set]
                refine ⟨_, _, rfl, c + 1, pl.dropLast, (row.set i (row.getD i 0 * prime)).set j (row.getD j 0 * prime), (B8.mut hrp0 nrp).mut hrp0 nrp, (S8.put hrow8 nrc).put upd_same nrc, ?_, upd_same, ?_, fun x hx => hpx x (List.dropLast_subset pl hx), by rw [List.length_set, List.length_set]; exact hrl, fun x hx => ?_⟩
                · rw [upd_ne nrpa.symm, upd_ne nrpa.symm]
                  exact hpl8
                · rw [List.length_dropLast]
                  omega
                · rcases List.mem_or_eq_of_mem_set hx with h | h
                  · exact hset1 x h
                  · rw [h]
                    exact hmul _ hmj
              · exact ⟨_, _, rfl, keep⟩
            · exact iteF ⟨_, _, rfl, keep⟩
          · rintro σ H6 ⟨v6, v7, rfl, I6⟩
            exact ⟨_, _, _, rfl, I6⟩
        · rintro σ H5 ⟨v5, v6, v7, rfl, c, pl, row, B5, S5, hpl5, hrow5, hc, hpx, hrl, hrx⟩
          -- alone, the row itself
          refine ⟨by show 8 ≤ sizeLine; decide, fun al hal => ?_⟩
          have s6 : Same H5 (upd H5 al (.lst (nums [73, 79, 83, 89, 97, 101, 103, 107]))) := same_new hal
          refine ⟨_, rfl, _, rfl, n, rfl, by omega, fun d hd => ?_⟩
          have S6 := S5.same s6
          have B6 := B5.same s6
          refine lc_up0 (n := n) (fun i H' => ∃ l : List Nat, Same (upd H5 al (.lst (nums [73, 79, 83, 89, 97, 101, 103, 107]))) H' ∧ H' d = some (.lst (nums l)) ∧ l.length = i ∧ ∀ x ∈ l, 2 ≤ x ∧ x < 2 ^ 800) ⟨[], same_new hd, upd_same, rfl, fun x hx => by cases hx⟩ ?_ ?_
          · rintro i H' hi ⟨l, sm, hl, hll, hlx⟩
            have hri := getD_get (l := row) (i := i) (d := 0) (by omega)
            have hmi := List.mem_of_getElem? hri
            have hx1 := hrx _ hmi
            have hx2 := mP_pow (c := c) (by omega)
            obtain ⟨a, ha1, ha2⟩ := pick (l := [73, 79, 83, 89, 97, 101, 103, 107]) (r := i) (p := fun x => 73 ≤ x ∧ x ≤ 107) (by show i < 8; omega) (by decide)
            have hrow6 := sm _ _ (s6 _ _ hrow5)
            have hal6 : H' al = some (.lst (nums [73, 79, 83, 89, 97, 101, 103, 107])) := sm _ _ upd_same
            have fin : ∀ y, y = max (row.getD i 0) (a * (if decide (row.getD i 0 = 1) = true then 1 else 0)) → 2 ≤ y ∧ y < 2 ^ 800 := fun y hy => by
              by_cases z : row.getD i 0 = 1
              · rw [if_pos (decide_eq_true z), z] at hy
                have : y ≤ 107 := by omega
                exact ⟨by omega, lt800 (n := 7) (by omega) (by decide)⟩
              · rw [if_neg (by simpa using z)] at hy
                have e : y = row.getD i 0 := by omega
                rw [e]
                exact ⟨by omega, by omega⟩
            refine ⟨rfl, yesT ?_⟩
            refine ⟨_, rfl, _, rfl, rp, _, i, _, rfl, rfl, hrow6, nums_get hri, _, rfl, _, rfl, al, _, i, _, rfl, rfl, hal6, nums_get ha1, _, rfl, _, rfl, rp, _, i, _, rfl, rfl, hrow6, nums_get hri, _, 1, rfl, rfl, _, rfl, a, _, rfl, rfl, ⟨lt9000 (n := 7) (by omega) (by decide), Nat.lt_of_le_of_lt (by split <;> decide : _ ≤ 1) (Nat.one_lt_two_pow (by decide))⟩, _, _, rfl, _, hl, ?_, l ++ [max (row.getD i 0) (a * (if decide (row.getD i 0 = 1) = true then 1 else 0))], same_mut sm hd, ?_, by rw [List.length_append, hll]; rfl, fun x hx => ?_⟩
            · rw [nums_len]
              exact sz8 (by omega)
            · rw [upd_same]
              exact congrArg (fun l => some (HO.lst l)) (nums_app _ _)
            · rcases List.mem_append.mp hx with h | h
              · exact hlx x h
              · rw [List.mem_singleton] at h
                exact fin x h
          · rintro H7 ⟨l, sm, hl, hll, hlx⟩
            have S7 := S6.same sm
            have B7 := B6.same sm
            refine ⟨p, cl, d, cells, l, rfl, S7, hl, by omega, fun H8 q8 l' b8 S8 f8 h8 hperm => ?_⟩
            refine q H8 q8 l' (B7.trans b8) S8 (B7.free f8) h8 ⟨?_, fun x hx => (hlx x (hperm.mem_iff.mp hx)).1, fun x hx => (hlx x (hperm.mem_iff.mp hx)).2⟩
            rw [hperm.length_eq]
            omega
end
end WW

set_option Elab.async false
set_option linter.all false
set_option maxRecDepth 100000
set_option maxHeartbeats 4000000
/-! W16: _law_colours -/
namespace WW
open PySem PySem.Spec PyProof.Rows L2
theorem col_join {T : Nat → Nat → Bool} {m g k : Nat} (hg : Sub g m) (hi : Ind T g) (hk : Col T (m ^^^ g) k) : Col T m (k + 1) := by
  obtain ⟨c, c1, c2⟩ := hk
  refine ⟨fun i => if g.testBit i = true then k else c i, fun i hi => ?_, fun i j hi' hj' ht => ?_⟩
  · by_cases q : g.testBit i = true
    · simp [q]
    · have := c1 i ((xor_bit hg).mpr ⟨hi, by simpa using q⟩)
      simp only [q]
      simp
      omega
  · by_cases q : g.testBit i = true <;> by_cases q' : g.testBit j = true
    · rw [hi i j q q'] at ht
      cases ht
    · have := c1 j ((xor_bit hg).mpr ⟨hj', by simpa using q'⟩)
      simp only [q, q']
      simp
      omega
    · have := c1 i ((xor_bit hg).mpr ⟨hi', by simpa using q⟩)
      simp only [q, q']
      simp
      omega
    · have := c2 i j ((xor_bit hg).mpr ⟨hi', by simpa using q⟩) ((xor_bit hg).mpr ⟨hj', by simpa using q'⟩) ht
      simp only [q, q']
      simpa using this
theorem col_class {T : Nat → Nat → Bool} {m l n k' : Nat} (hm : m < 2 ^ n) (hlm : m.testBit l = true) (h : Col T m k') : ∃ g', Sub g' m ∧ g'.testBit l = true ∧ Ind T g' ∧ 0 < k' ∧ Col T (m ^^^ g') (k' - 1) := by
  obtain ⟨c', d1, d2⟩ := h
  have e0 := d1 l hlm
  let g' := mk n fun i => m.testBit i && decide (c' i = c' l)
  have gb : ∀ i, g'.testBit i = true ↔ m.testBit i = true ∧ c' i = c' l := fun i => by
    show (mk n fun i => m.testBit i && decide (c' i = c' l)).testBit i = true ↔ _
    rw [bit_mk]
    constructor
    · intro h
      simp at h
      exact ⟨h.2.1, h.2.2⟩
    · rintro ⟨h1, h2⟩
      simp [h1, h2, bit_lt hm h1]
  have sg : Sub g' m := fun i h => ((gb i).mp h).1
  refine ⟨g', sg, (gb l).mpr ⟨hlm, rfl⟩, fun i j a b => ?_, by omega, fun i => if c' i = k' - 1 then c' l else c' i, fun i h => ?_, fun i j h h' ht => ?_⟩
  · have a' := (gb i).mp a
    have b' := (gb j).mp b
    cases h : T i j with
    | false => rfl
    | true => exact (d2 i j a'.1 b'.1 h (a'.2.trans b'.2.symm)).elim
  · have h1 := (xor_bit sg).mp h
    have h2 := d1 i h1.1
    have h3 : c' i ≠ c' l := fun e => by
      have := (gb i).mpr ⟨h1.1, e⟩
      rw [h1.2] at this
      cases this
    show (if c' i = k' - 1 then c' l else c' i) < k' - 1
    split <;> omega
  · have h1 := (xor_bit sg).mp h
    have h1' := (xor_bit sg).mp h'
    have h3 : c' i ≠ c' l := fun e => by
      have := (gb i).mpr ⟨h1.1, e⟩
      rw [h1.2] at this
      cases this
    have h3' : c' j ≠ c' l := fun e => by
      have := (gb j).mpr ⟨h1'.1, e⟩
      rw [h1'.2] at this
      cases this
    have := d2 i j h1.1 h1'.1 ht
    show (if c' i = k' - 1 then c' l else c' i) ≠ (if c' j = k' - 1 then c' l else c' j)
    split <;> split <;> omega
/-- the first of the bits is the lowest -/
theorem bits_head {m l : Nat} (hm : m < 2 ^ 8) (hl : Low m l) : (bits m)[0]? = some l := by
  have h1 := (mem_bits hm).mpr hl.1
  cases e : bits m with
  | nil => rw [e] at h1; cases h1
  | cons a r =>
    have ha : a ∈ bits m := by rw [e]; exact List.mem_cons_self
    have hb := (mem_bits hm).mp ha
    have hasc := bits_asc m
    rw [e] at h1 hasc
    have h2 : ¬ a < l := fun q => by
      rw [hl.2 a q] at hb
      cases hb
    rcases List.mem_cons.mp h1 with q | q
    · rw [q]
      rfl
    · have := (List.pairwise_cons.mp hasc).1 l q
      exact (h2 this).elim
section
variable {n : Nat} {T : Rel} {tb : List Nat} {m l : Nat}
/-- what the law's search keeps; u is the turn's set and one, or 0 -/
structure Hunt (n : Nat) (T : Rel) (tb : List Nat) (m l best u : Nat) : Prop where
  col : Col T m best
  gp : 0 < u → Sub (u - 1) (m ^^^ 2 ^ l)
  low : ∀ s, Sub s (m ^^^ 2 ^ l) → Ind T (s ||| 2 ^ l) → u ≤ s → ∀ y, tb[(m ^^^ 2 ^ l) ^^^ s]? = some y → best ≤ y + 1
theorem hunt_start (g : Gr n T) (hm : m < 2 ^ n) : Hunt n T tb m l n ((m ^^^ 2 ^ l) + 1) := by
  refine ⟨⟨fun i => i, fun i hi => bit_lt hm hi, fun i j _ _ ht e => ?_⟩, fun _ => by rw [Nat.add_sub_cancel]; exact fun _ h => h, fun s hs _ hu => ?_⟩
  · have e : i = j := e
    rw [e, g.irr] at ht
    cases ht
  · have := hs.le
    omega
theorem one_off (hl : m.testBit l = true) {s : Nat} (hs : Sub s (m ^^^ 2 ^ l)) : Sub (s ||| 2 ^ l) m ∧ m ^^^ (s ||| 2 ^ l) = (m ^^^ 2 ^ l) ^^^ s := by
  have hb : ∀ i, (m ^^^ 2 ^ l).testBit i = true ↔ m.testBit i = true ∧ i ≠ l := fun i => by
    rw [Nat.testBit_xor, Nat.testBit_two_pow]
    by_cases e : l = i
    · subst e
      simp [hl]
    · have e' : i ≠ l := Ne.symm e
      simp [e, e']
  refine ⟨fun i h => ?_, Nat.eq_of_testBit_eq fun i => ?_⟩
  · rw [Nat.testBit_or, Bool.or_eq_true] at h
    rcases h with h | h
    · exact ((hb i).mp (hs i h)).1
    · rw [(two_bit l i).mp h]
      exact hl
  · rw [Nat.testBit_xor, Nat.testBit_or, Nat.testBit_xor, Nat.testBit_xor]
    cases q : s.testBit i with
    | false => simp
    | true =>
      have a := (hb i).mp (hs i q)
      have : (2 ^ l).testBit i = false := by
        cases z : (2 ^ l).testBit i with
        | false => rfl
        | true => exact (a.2 ((two_bit l i).mp z)).elim
      rw [this, a.1]
      rfl
def nextU (m l u : Nat) : Nat := if u = 1 then 0 else ((u - 1 - 1) &&& (m ^^^ 2 ^ l)) + 1
theorem nextU_lt {u : Nat} (hu : 0 < u) : nextU m l u < u := by
  unfold nextU
  split
  · omega
  · have := and_lt (g := u - 1) (p := m ^^^ 2 ^ l) (by omega)
    omega
theorem next_low {u s : Nat} (hu : 0 < u) (hg : Sub (u - 1) (m ^^^ 2 ^ l)) (hs : Sub s (m ^^^ 2 ^ l)) (h : nextU m l u ≤ s) : u - 1 ≤ s := by
  unfold nextU at h
  refine Decidable.byContradiction fun q => ?_
  have := sub_next _ s (u - 1) hs hg (by omega)
  split at h <;> omega
theorem hunt_take {best u y : Nat} (hl : m.testBit l = true) (h : Hunt n T tb m l best u) (hu : 0 < u) (hi : Ind T ((u - 1) ||| 2 ^ l)) (hy : tb[(m ^^^ 2 ^ l) ^^^ (u - 1)]? = some y) (cy : Chi T ((m ^^^ 2 ^ l) ^^^ (u - 1)) y) (hlt : y + 1 < best) : Hunt n T tb m l (y + 1) (nextU m l u) := by
  have a := one_off hl (h.gp hu)
  refine ⟨col_join a.1 hi (by rw [a.2]; exact cy.1), fun h0 => ?_, fun s hs is hus z hz => ?_⟩
  · unfold nextU at h0 ⊢
    split
    · rename_i e
      rw [if_pos e] at h0
      omega
    · rw [Nat.add_sub_cancel]
      exact and_sub_right _ _
  · have := next_low hu (h.gp hu) hs hus
    by_cases e : s = u - 1
    · rw [e, hy] at hz
      have := Option.some.inj hz
      omega
    · have := h.low s hs is (by omega) z hz
      omega
theorem hunt_skip {best u : Nat} (h : Hunt n T tb m l best u) (hu : 0 < u) (hno : ¬ Ind T ((u - 1) ||| 2 ^ l) ∨ ∀ y, tb[(m ^^^ 2 ^ l) ^^^ (u - 1)]? = some y → best ≤ y + 1) : Hunt n T tb m l best (nextU m l u) := by
  refine ⟨h.col, fun h0 => ?_, fun s hs is hus z hz => ?_⟩
  · unfold nextU at h0 ⊢
    split
    · rename_i e
      rw [if_pos e] at h0
      omega
    · rw [Nat.add_sub_cancel]
      exact and_sub_right _ _
  · have := next_low hu (h.gp hu) hs hus
    by_cases e : s = u - 1
    · subst e
      rcases hno with q | q
      · exact (q is).elim
      · exact q z hz
    · exact h.low s hs is (by omega) z hz
theorem hunt_end {best : Nat} (hm : m < 2 ^ n) (hl : m.testBit l = true) (ht : Tab T tb m) (h : Hunt n T tb m l best 0) : Chi T m best := by
  refine ⟨h.col, fun k' hk => ?_⟩
  obtain ⟨g, sg, gl, ig, k0, hc⟩ := col_class hm hl hk
  have b1 : ∀ i, (g ^^^ 2 ^ l).testBit i = true ↔ g.testBit i = true ∧ i ≠ l := fun i => by
    rw [Nat.testBit_xor, Nat.testBit_two_pow]
    by_cases e : l = i
    · subst e
      simp [gl]
    · have e' : i ≠ l := Ne.symm e
      simp [e, e']
  have e1 : m ^^^ 2 ^ l ^^^ (g ^^^ 2 ^ l) = m ^^^ g := by
    rw [Nat.xor_comm g, ← Nat.xor_assoc, Nat.xor_assoc m, Nat.xor_self, Nat.xor_zero]
  have e2 : (g ^^^ 2 ^ l) ||| 2 ^ l = g := Nat.eq_of_testBit_eq fun i => by
    rw [Nat.testBit_or, Nat.testBit_xor]
    cases z : (2 ^ l).testBit i with
    | false => simp
    | true =>
      rw [(two_bit l i).mp z, gl]
      simp
  have s1 : Sub (g ^^^ 2 ^ l) (m ^^^ 2 ^ l) := fun i hi => by
    have := (b1 i).mp hi
    rw [Nat.testBit_xor, sg i this.1]
    cases z : (2 ^ l).testBit i with
    | false => rfl
    | true => exact (this.2 ((two_bit l i).mp z)).elim
  obtain ⟨y, hy, cy⟩ := ht _ (xor_lt sg gl)
  have := h.low (g ^^^ 2 ^ l) s1 (by rw [e2]; exact ig) (Nat.zero_le _) y (by rw [e1]; exact hy)
  have h2 := cy.2 _ hc
  omega
end
section
variable {X : Cx}
theorem n_andm : OpR X (binaryOp .BitAnd) (fun x y H Q => ∃ p r : Nat, x = .int ((p : Int) - 1) ∧ y = .int (r : Int) ∧ ∀ z : Int, (0 < p → z = (((p - 1) &&& r : Nat) : Int)) → Q (.int z) H) := OpR.of op_and fun x y H Q ⟨p, r, e1, e2, q⟩ => ⟨_, _, e1, e2, q _ fun hp => by
  rw [show (p : Int) - 1 = ((p - 1 : Nat) : Int) by omega, bitAnd_pp (Int.natCast_nonneg _) (Int.natCast_nonneg _), Int.toNat_natCast, Int.toNat_natCast]⟩
end
section
variable {P : Program} {w : World} {K : PySem.W.Frag} {mg : Str → Option Value} {base : Heap}
def spLColours : Sp := fun vs H Q _ => ∃ (a : Addr) (n : Nat) (T : Rel) (ms : List Nat), vs = [.ref a] ∧ H a = some (.lst (nums ms)) ∧ IsM n T ms ∧ Gr n T ∧ n ≤ 8 ∧
  ∀ H' p tb, Same H H' → H' p = some (.lst (nums tb)) → tb.length = 2 ^ n → Tab T tb (2 ^ n) → Q (.ref p) H'
theorem scLColours : FnScope ["_law_masks", "_law_size", "_law_loose", "_law_chis", "_law_mask", "_law_low", "_law_rest", "_law_best", "_law_part", "_law_going"] ["_law_masks"] (defScope (topS 55)) := ⟨rfl, rfl, rfl, by decide +kernel, rfl, by decide +kernel, by decide +kernel⟩
theorem cal_law_colours (D : Dfn K mg "_law_colours" (topS 55) ["_law_masks"]) (B : Blt mg) (c1 : Cal P w K mg base "_law_bits" 1 ["_law_mask"] spBits) : Cal P w K mg base "_law_colours" 2 ["_law_masks"] spLColours := by
  refine D.cal scLColours (fun vs H Q E h => ?_) (fun f cdv A outer s H vs Q E hr h => ?_)
  · obtain ⟨a, n, T, ms, rfl, _⟩ := h
    rfl
  · obtain ⟨a, n, T, ms, rfl, ha, IM, g, hn8, q⟩ := h
    refine ⟨_, pss_cons (ps_set (i := 1) scLColours.nd rfl (Or.inl rfl) (pe_callB c_len (by rfl) B.len PySem.boot_len (pa_cons (pv 0) pa_nil)))
      (pss_cons (ps_set (i := 2) scLColours.nd rfl (Or.inl rfl) (pe_lst (pa_cons pe_bl pa_nil)))
      (pss_cons (ps_set (i := 3) scLColours.nd rfl (Or.inl rfl) (pe_lst (pa_cons pe_int pa_nil)))
      (pss_cons (ps_for PassesOwn.never rfl (up2_run rfl B.range (pa_cons pe_int (pa_cons (pe_op x_shl pe_int (pv 1)) pa_nil))) (pg_name (i := 4) scLColours.nd rfl (Or.inl rfl))
        (pss_cons (ps_set (i := 5) scLColours.nd rfl (Or.inl rfl) (pe_ix ixl (pe_cal c1 hr (by decide) (pa_cons (pv 4) pa_nil)) pe_int (fun _ _ => rfl)))
        (pss_cons (ps_set (i := 6) scLColours.nd rfl (Or.inl rfl) (pe_op n_xor (pv 4) (pe_op x_shl pe_int (pv 5))))
        (C8.pss_cut (ps_expr (pe_bm PySem.F.plainAttrs_list PySem.F.slot_list_append PySem.F.type_list_append mt_append (pv 2) (pa_cons (pe_and (pe_ix ixl (pv 2) (pv 6) (fun _ _ => rfl)) (pe_one (pe_cmpR n_eq (pe_op n_and (pe_ix ixl (pv 0) (pv 5) (fun _ _ => rfl)) (pv 6)) pe_int (nomark _)))) pa_nil)))
        (pss_cons (ps_set (i := 7) scLColours.nd rfl (Or.inl rfl) (pv 1))
        (pss_cons (ps_set (i := 8) scLColours.nd rfl (Or.inl rfl) (pv 6))
        (pss_cons (ps_set (i := 9) scLColours.nd rfl (Or.inl rfl) pe_bl)
        (pss_cons (ps_while PassesOwn.never (pt_val (pv 9))
          (pss_cons (ps_if (PW.pt (pw_and (pt_val (pe_ix ixl (pv 2) (pe_op n_or (pv 8) (pe_op x_shl pe_int (pv 5))) (fun _ _ => rfl))) (pw_and1 (pt_cmpR n_lt (pe_op n_add (pe_ix ixl (pv 3) (pe_op n_xor (pv 6) (pv 8)) (fun _ _ => rfl)) pe_int) (pv 7) (nomark _)))))
            (pss_one (ps_set (i := 7) scLColours.nd rfl (Or.inl rfl) (pe_op n_add (pe_ix ixl (pv 3) (pe_op n_xor (pv 6) (pv 8)) (fun _ _ => rfl)) pe_int))) pss_nil)
          (pss_cons (ps_set (i := 9) scLColours.nd rfl (Or.inl rfl) (pe_cmpR n_gt (pv 8) pe_int (nomark _)))
          (pss_one (ps_set (i := 8) scLColours.nd rfl (Or.inl rfl) (pe_op n_andm (pe_op op_sub (pv 8) pe_int) (pv 6)))))))
        (pss_one (ps_expr (pe_bm PySem.F.plainAttrs_list PySem.F.slot_list_append PySem.F.type_list_append mt_append (pv 3) (pa_cons (pv 7) pa_nil))))))))))))
      (pss_one (ps_ret (pv 3)))))), ?_⟩
    have h256 := pow8 hn8
    have hpos : 0 < 2 ^ n := Nat.two_pow_pos _
    refine ⟨_, rfl, a, nums ms, n, rfl, .inl ha, by rw [nums_len]; exact IM.len, ?_⟩
    refine ⟨by show 1 ≤ sizeLine; decide, fun ls fl => ?_⟩
    refine ⟨by show 1 ≤ sizeLine; decide, fun ch fc => ?_⟩
    have s1 : Same H (upd H ls (.lst [.bl true])) := same_new fl
    have s2 : Same (upd H ls (.lst [.bl true])) (upd (upd H ls (.lst [.bl true])) ch (.lst [.int 0])) := same_new fc
    have nlc : ls ≠ ch := ne_of_none (o := .lst [.bl true]) upd_same fc
    have fc0 : H ch = none := s1.free fc
    refine ⟨_, rfl, 1, n, 2 ^ n, rfl, rfl, ⟨by decide, by omega⟩, Nat.one_mul _, 1, 2 ^ n, rfl, by decide, by omega, ?_⟩
    refine for_up (lo := 1) (n := 2 ^ n - 1) (fun i σ H' => ∃ (v4 v5 v6 v7 v8 v9 : Option V) (cs : List Bool) (tb : List Nat), σ = [some (.ref a), some (.int (n : Int)), some (.ref ls), some (.ref ch), v4, v5, v6, v7, v8, v9] ∧ Same H H' ∧ H' ls = some (.lst (bls cs)) ∧ H' ch = some (.lst (nums tb)) ∧ Clm T cs (i + 1) ∧ Tab T tb (i + 1) ∧ tb.length = i + 1)
      ⟨none, none, none, none, none, none, [true], [0], rfl, s1.trans s2, ?_, upd_same, ⟨rfl, fun k hk => ?_⟩, fun k hk => ?_, rfl⟩ ?_ ?_
    · rw [upd_ne nlc, upd_same]
      rfl
    · have : k = 0 := by omega
      subst this
      exact ⟨true, rfl, ⟨fun _ => ind_zero _, fun _ => rfl⟩⟩
    · have : k = 0 := by omega
      subst this
      exact ⟨0, rfl, chi_zero _⟩
    · rintro i σ H1 hi ⟨v4, v5, v6, v7, v8, v9, cs, tb, rfl, sm1, hl1, hc1, C, TT, tl⟩
      obtain ⟨l, hl⟩ := low_ex (1 + i) (by omega)
      have hmn : 1 + i < 2 ^ n := by omega
      have hln : l < n := bit_lt hmn hl.1
      obtain ⟨ml, gm, bm⟩ := IM.at hln
      have hrest : (1 + i) ^^^ 2 ^ l < 1 + i := xor_lt (l := l) (fun k hk => by rw [(two_bit l k).mp hk]; exact hl.1) ((two_bit l l).mpr rfl)
      obtain ⟨b, hb, ib⟩ := C.2 ((1 + i) ^^^ 2 ^ l) (by omega)
      refine ⟨_, rfl, 1 + i, rfl, fun H2 p2 s12 f2 h2 => ?_⟩
      have hlt8 : 1 + i < 2 ^ 8 := by
        have : (2 : Nat) ^ 8 = 256 := rfl
        omega
      refine ⟨p2, _, 0, _, rfl, rfl, h2, nums_get (bits_head hlt8 hl), ?_⟩
      have sm2 := sm1.trans s12
      have hl2 := s12 _ _ hl1
      have hc2 := s12 _ _ hc1
      refine ⟨_, rfl, _, rfl, 1, l, 2 ^ l, rfl, rfl, ⟨by decide, by omega⟩, Nat.one_mul _, 1 + i, 2 ^ l, rfl, rfl, ?_⟩
      have key : (b && decide (ml &&& ((1 + i) ^^^ 2 ^ l) = 0)) = true ↔ Ind T (1 + i) := by
        rw [ind_split g.sym g.irr (top_split hl.1), Bool.and_eq_true, decide_eq_true_eq, ib, and_zero_iff]
        refine and_congr_right fun _ => ⟨fun h j hj => ?_, fun h j hj => ?_⟩
        · cases z : T l j with
          | false => rfl
          | true =>
            have := h j (by rw [bm]; exact z)
            rw [hj] at this
            cases this
        · cases z : ((1 + i) ^^^ 2 ^ l).testBit j with
          | false => rfl
          | true =>
            have := h j z
            rw [← bm, hj] at this
            cases this
      have size : (bls cs).length < sizeLine := by
        rw [bls_len, C.1]
        exact sz8 (by omega)
      refine ⟨fun σ H' => ∃ b', σ = [some (.ref a), some (.int (n : Int)), some (.ref ls), some (.ref ch), some (.int (((1 + i : Nat)) : Int)), some (.int (l : Int)), some (.int ((((1 + i) ^^^ 2 ^ l : Nat)) : Int)), v7, v8, v9] ∧ H' = upd H2 ls (.lst (bls cs ++ [.bl b'])) ∧ b' = (b && decide (ml &&& ((1 + i) ^^^ 2 ^ l) = 0)), ?_, ?_⟩
      · refine ⟨_, rfl, .inl ⟨rfl, _, SqL.of hl2⟩, ?_⟩
        refine ⟨_, rfl, _, rfl, ls, _, (1 + i) ^^^ 2 ^ l, _, rfl, rfl, hl2, bls_get hb, b, rfl, ite2 (fun e => ?_) (fun e => ?_)⟩
        · refine ⟨_, rfl, _, rfl, a, _, l, _, rfl, rfl, sm2 _ _ ha, nums_get gm, _, rfl, ml, (1 + i) ^^^ 2 ^ l, rfl, rfl, ml &&& ((1 + i) ^^^ 2 ^ l), 0, rfl, rfl, ls, _, _, rfl, rfl, hl2, size, ?_⟩
          exact ⟨_, rfl, rfl, by rw [e, Bool.true_and]⟩
        · refine ⟨ls, _, _, rfl, rfl, hl2, size, ?_⟩
          have e : b = false := by simpa using e
          exact ⟨false, rfl, rfl, by rw [e, Bool.false_and]⟩
      · rintro σ H3 ⟨b', rfl, rfl, eb⟩
        have C3 : Clm T (cs ++ [b']) (1 + i + 1) := by
          rw [Nat.add_comm 1 i]
          refine C.next ?_
          rw [eb, key, Nat.add_comm 1 i]
        have sm3 : Same H (upd H2 ls (.lst (bls cs ++ [.bl b']))) := same_mut sm2 fl
        have hl3 : (upd H2 ls (.lst (bls cs ++ [.bl b']))) ls = some (.lst (bls (cs ++ [b']))) := by rw [upd_same, bls_app]
        have hc3 : (upd H2 ls (.lst (bls cs ++ [.bl b']))) ch = some (.lst (nums tb)) := by rw [upd_ne nlc.symm]; exact hc2
        generalize upd H2 ls (.lst (bls cs ++ [.bl b'])) = H3 at sm3 hl3 hc3
        refine ⟨_, rfl, _, rfl, ?_⟩
        refine ⟨fun u σ H' => ∃ (best : Nat) (pz : Int), σ = [some (.ref a), some (.int (n : Int)), some (.ref ls), some (.ref ch), some (.int (((1 + i : Nat)) : Int)), some (.int (l : Int)), some (.int ((((1 + i) ^^^ 2 ^ l : Nat)) : Int)), some (.int (best : Int)), some (.int pz), some (.bl (decide (0 < u)))] ∧ (0 < u → pz = ((u - 1 : Nat) : Int)) ∧ Hunt n T tb (1 + i) l best u ∧ H' = H3, ⟨((1 + i) ^^^ 2 ^ l) + 1, n, _, rfl, fun _ => rfl, hunt_start g hmn, rfl⟩, ?_⟩
        rintro u σ H' ⟨best, pz, rfl, hpz, hu, rfl⟩
        refine ⟨_, rfl, _, rfl, ite2 (fun e => ?_) (fun e => ?_)⟩
        · have u0 : 0 < u := of_decide_eq_true e
          rw [hpz u0]
          have sg := hu.gp u0
          have so := one_off hl.1 sg
          obtain ⟨b2, hb2, ib2⟩ := C3.2 ((u - 1) ||| 2 ^ l) (by have := so.1.le; omega)
          obtain ⟨y, hy, cy⟩ := TT (((1 + i) ^^^ 2 ^ l) ^^^ (u - 1)) (by
            have := xor_lt so.1 (l := l) (by rw [Nat.testBit_or, (two_bit l l).mpr rfl, Bool.or_true])
            rw [so.2] at this
            omega)
          have fin : ∀ best', Hunt n T tb (1 + i) l best' (nextU (1 + i) l u) → ∀ z : Int, (0 < u - 1 → z = (((u - 1 - 1) &&& ((1 + i) ^^^ 2 ^ l) : Nat) : Int)) → (∃ u', u' < u ∧ ∃ (best : Nat) (pz : Int), [some (V.ref a), some (.int (n : Int)), some (.ref ls), some (.ref ch), some (.int (((1 + i : Nat)) : Int)), some (.int (l : Int)), some (.int ((((1 + i) ^^^ 2 ^ l : Nat)) : Int)), some (.int (best' : Int)), some (.int z), some (.bl (decide (0 < u - 1)))] = [some (.ref a), some (.int (n : Int)), some (.ref ls), some (.ref ch), some (.int (((1 + i : Nat)) : Int)), some (.int (l : Int)), some (.int ((((1 + i) ^^^ 2 ^ l : Nat)) : Int)), some (.int (best : Int)), some (.int pz), some (.bl (decide (0 < u')))] ∧ (0 < u' → pz = ((u' - 1 : Nat) : Int)) ∧ Hunt n T tb (1 + i) l best u' ∧ H' = H') := fun best' h z hz => by
            refine ⟨nextU (1 + i) l u, nextU_lt u0, best', z, ?_, fun h0 => ?_, h, rfl⟩
            · have : decide (0 < u - 1) = decide (0 < nextU (1 + i) l u) := decide_eq_decide.mpr (by unfold nextU; split <;> omega)
              rw [this]
            · unfold nextU at h0 ⊢
              split
              · rename_i e1
                rw [if_pos e1] at h0
                omega
              · rw [Nat.add_sub_cancel]
                exact hz (by omega)
          refine ⟨_, fun σ2 H2 h => h, ?_⟩
          refine ⟨_, rfl, _, rfl, _, rfl, 1, l, 2 ^ l, rfl, rfl, ⟨by decide, by omega⟩, Nat.one_mul _, u - 1, 2 ^ l, rfl, rfl, ls, _, (u - 1) ||| 2 ^ l, _, rfl, rfl, hl3, bls_get hb2, b2, rfl, ite2 (fun e2 => ?_) (fun e2 => ?_)⟩
          · refine ⟨_, rfl, _, rfl, _, rfl, (1 + i) ^^^ 2 ^ l, u - 1, rfl, rfl, ch, _, ((1 + i) ^^^ 2 ^ l) ^^^ (u - 1), _, rfl, rfl, hc3, nums_get hy, y, 1, rfl, rfl, _, rfl, y + 1, best, rfl, rfl, _, rfl, ite2 (fun e3 => ?_) (fun e3 => ?_)⟩
            · have e3 : y + 1 < best := of_decide_eq_true e3
              refine ⟨_, rfl, _, rfl, _, rfl, (1 + i) ^^^ 2 ^ l, u - 1, rfl, rfl, ch, _, ((1 + i) ^^^ 2 ^ l) ^^^ (u - 1), _, rfl, rfl, hc3, nums_get hy, y, 1, rfl, rfl, ?_⟩
              refine ⟨_, rfl, u - 1, 0, rfl, rfl, ?_⟩
              exact ⟨_, rfl, _, _, rfl, rfl, _, rfl, u - 1, _, rfl, rfl, fin _ (hunt_take hl.1 hu u0 (ib2.mp e2) hy cy e3)⟩
            · have e3 : ¬ y + 1 < best := fun z => e3 (decide_eq_true z)
              refine ⟨_, rfl, u - 1, 0, rfl, rfl, ?_⟩
              exact ⟨_, rfl, _, _, rfl, rfl, _, rfl, u - 1, _, rfl, rfl, fin _ (hunt_skip hu u0 (.inr fun z hz => by
                rw [hy] at hz
                have := Option.some.inj hz
                omega))⟩
          · refine iteF ?_
            refine ⟨_, rfl, u - 1, 0, rfl, rfl, ?_⟩
            exact ⟨_, rfl, _, _, rfl, rfl, _, rfl, u - 1, _, rfl, rfl, fin _ (hunt_skip hu u0 (.inl fun z => e2 (ib2.mpr z)))⟩
        · have u0 : u = 0 := by
            have : ¬ 0 < u := fun h => e (decide_eq_true h)
            omega
          subst u0
          have hx := hunt_end hmn hl.1 (fun k hk => TT k (by omega)) hu
          refine ⟨_, rfl, .inl ⟨rfl, _, SqL.of hc3⟩, ?_⟩
          refine ⟨_, rfl, ch, _, _, rfl, rfl, hc3, ?_, ?_⟩
          · rw [nums_len, tl]
            exact sz8 (by omega)
          · refine ⟨_, _, _, _, _, _, cs ++ [b'], tb ++ [best], rfl, same_mut sm3 fc0, by rw [upd_ne nlc]; exact hl3, by rw [upd_same, nums_app], ?_, ?_, by rw [List.length_append, tl]; rfl⟩
            · rw [Nat.add_comm 1 i] at C3
              exact C3
            · refine TT.next tl ?_
              rw [Nat.add_comm i 1]
              exact hx
    · rintro σ H1 ⟨v4, v5, v6, v7, v8, v9, cs, tb, rfl, sm1, hl1, hc1, C, TT, tl⟩
      rw [show 2 ^ n - 1 + 1 = 2 ^ n by omega] at TT tl
      exact ⟨_, rfl, q H1 ch tb sm1 hc1 tl TT⟩
end
end WW

set_option Elab.async false
set_option linter.all false
set_option maxRecDepth 100000
set_option maxHeartbeats 4000000
/-! W17: _law_is_closed, _law_orders -/
namespace WW
open PySem PySem.Spec PyProof.Rows L2
/-- the relation of a list of masks -/
def mrel (ms : List Nat) : Rel := fun i j => (ms.getD i 0).testBit j
def Cls (ms : List Nat) : Prop := ∀ i j k, mrel ms i j = true → mrel ms j k = true → mrel ms i k = true
theorem or_eq_iff {a b : Nat} : a ||| b = b ↔ Sub a b := by
  constructor
  · intro h i ha
    rw [← h, Nat.testBit_or, ha, Bool.true_or]
  · intro h
    refine Nat.eq_of_testBit_eq fun i => ?_
    rw [Nat.testBit_or]
    cases e : a.testBit i with
    | false => rw [Bool.false_or]
    | true => rw [h i e, Bool.true_or]
theorem mrel_in {ms : List Nat} {i j : Nat} (h : mrel ms i j = true) : i < ms.length := by
  refine Decidable.byContradiction fun q => ?_
  unfold mrel at h
  rw [List.getD_eq_getElem?_getD, List.getElem?_eq_none (by omega)] at h
  simp at h
theorem mask_lt {ms : List Nat} {n : Nat} (h : ∀ i j, mrel ms i j = true → j < n) {i : Nat} : ms.getD i 0 < 2 ^ n := Nat.lt_pow_two_of_testBit _ fun j hj => by
  cases e : (ms.getD i 0).testBit j with
  | false => rfl
  | true =>
    have := h i j e
    omega
section
variable {P : Program} {w : World} {K : PySem.W.Frag} {mg : Str → Option Value} {base : Heap}
def spClosed : Sp := fun vs H Q _ => ∃ (p : Addr) (ms : List Nat), vs = [.ref p] ∧ H p = some (.lst (nums ms)) ∧ ms.length ≤ 8 ∧ (∀ i j, mrel ms i j = true → j < ms.length) ∧ ∀ H' (b : Bool), Same H H' → (b = true ↔ Cls ms) → Q (.bl b) H'
theorem scClosed : FnScope ["_law_row", "_law_below", "_law_j"] ["_law_row"] (defScope (topS 57)) := ⟨rfl, rfl, rfl, by decide +kernel, rfl, by decide +kernel, by decide +kernel⟩
theorem cal_closed (D : Dfn K mg "_law_is_closed" (topS 57) ["_law_row"]) (c1 : Cal P w K mg base "_law_bits" 1 ["_law_mask"] spBits) : Cal P w K mg base "_law_is_closed" 2 ["_law_row"] spClosed := by
  refine D.cal scClosed (fun vs H Q E h => ?_) (fun f cdv A outer s H vs Q E hr h => ?_)
  · obtain ⟨p, ms, rfl, _⟩ := h
    rfl
  · obtain ⟨p, ms, rfl, hp, hn8, hj8, q⟩ := h
    refine ⟨_, pss_cons (ps_for PassesOwn.never rfl (pi_list (pv 0)) (pg_name (i := 1) scClosed.nd rfl (Or.inl rfl))
        (pss_one (ps_for PassesOwn.never rfl (pi_list (pe_cal c1 hr (by decide) (pa_cons (pv 1) pa_nil))) (pg_name (i := 2) scClosed.nd rfl (Or.inl rfl))
          (pss_one (ps_if (pt_cmpR n_ne (pe_op n_or (pe_ix ixl (pv 0) (pv 2) (fun _ _ => rfl)) (pv 1)) (pv 1) (nomark _)) (pss_one (ps_ret pe_bl)) pss_nil)))))
      (pss_one (ps_ret pe_bl)), ?_⟩
    have lt8 : ∀ i, ms.getD i 0 < 2 ^ 8 := fun i => Nat.lt_of_lt_of_le (mask_lt hj8) (Nat.pow_le_pow_right (by decide) hn8)
    refine ⟨_, rfl, p, rfl, ⟨_, SqL.of hp⟩, for_list (K := K) (a := p) (xs := nums ms) (fun i σ H' => ∃ v1 v2, σ = [some (.ref p), v1, v2] ∧ Same H H' ∧ ∀ i', i' < i → ∀ j, mrel ms i' j = true → Sub (ms.getD j 0) (ms.getD i' 0)) ⟨none, none, rfl, Same.refl H, fun i' h => by omega⟩ (fun i σ H' _ ⟨_, _, _, sm, _⟩ => SqL.of (sm _ _ hp)) ?_ ?_⟩
    · rintro i x σ H1 hx ⟨v1, v2, rfl, sm1, hd1⟩
      obtain ⟨m, hm, rfl⟩ := nums_of hx
      have hmi : ms.getD i 0 = m := by rw [List.getD_eq_getElem?_getD, hm]; rfl
      refine ⟨_, rfl, m, rfl, fun H2 q2 s12 f2 h2 => ?_⟩
      have sm2 := sm1.trans s12
      refine ⟨q2, rfl, ⟨_, SqL.of h2⟩, for_list (K := K) (a := q2) (xs := nums (bits m)) (fun t σ H' => ∃ v2, σ = [some (.ref p), some (.int (m : Int)), v2] ∧ H' = H2 ∧ ∀ t' j, t' < t → (bits m)[t']? = some j → Sub (ms.getD j 0) m) ⟨v2, rfl, rfl, fun t' j h => by omega⟩ (fun t σ H' _ ⟨_, _, e, _⟩ => e ▸ SqL.of h2) ?_ ?_⟩
      · rintro t x σ H' hx ⟨v2, rfl, rfl, hd2⟩
        obtain ⟨j, hj, rfl⟩ := nums_of hx
        have hij : mrel ms i j = true := by
          unfold mrel
          rw [hmi]
          exact (mem_bits (hmi ▸ lt8 i)).mp (List.mem_of_getElem? hj)
        have hjn := hj8 i j hij
        refine ⟨_, rfl, _, rfl, p, _, j, _, rfl, rfl, sm2 _ _ hp, nums_get (getD_get hjn), _, rfl, ms.getD j 0, m, rfl, rfl, _, rfl, ms.getD j 0 ||| m, m, rfl, rfl, _, rfl, ite2 (fun e => ?_) (fun e => ?_)⟩
        · have e : ¬ (ms.getD j 0 ||| m = m) := by simpa using e
          refine q _ false sm2 ⟨(fun h => by cases h), fun h => ?_⟩
          refine (e (or_eq_iff.mpr fun k hk => ?_)).elim
          have := h i j k hij hk
          unfold mrel at this
          rw [hmi] at this
          exact this
        · have e : ms.getD j 0 ||| m = m := by simpa using e
          refine ⟨_, rfl, rfl, fun t' j' ht' hj' => ?_⟩
          by_cases et : t' = t
          · subst et
            rw [hj] at hj'
            have := Option.some.inj hj'
            rw [← this]
            exact or_eq_iff.mp e
          · exact hd2 t' j' (by omega) hj'
      · rintro σ H' ⟨v2, rfl, rfl, hd2⟩
        refine ⟨_, _, rfl, sm2, fun i' hi' j hj => ?_⟩
        by_cases ei : i' = i
        · subst ei
          rw [hmi]
          unfold mrel at hj
          rw [hmi] at hj
          obtain ⟨t', ht'⟩ := List.getElem?_of_mem ((mem_bits (hmi ▸ lt8 i')).mpr hj)
          refine hd2 t' j ?_ ht'
          rw [nums_len]
          exact (List.getElem?_eq_some_iff.mp ht').1
        · exact hd1 i' (by omega) j hj
    · rintro σ H1 ⟨v1, v2, rfl, sm1, hd1⟩
      refine q H1 true sm1 ⟨fun _ i j k hij hjk => ?_, fun _ => rfl⟩
      rw [nums_len] at hd1
      exact hd1 i (mrel_in hij) j hij k hjk
end
/-! ### the rows of all orders -/
def tri : Nat → Nat
  | 0 => 0
  | n + 1 => tri n + n
def dnp (i j : Nat) : Rel := fun a b => decide (max a b < i) || (decide (max a b = i) && decide (min a b < j))
theorem dnp_iff {i j a b : Nat} : dnp i j a b = true ↔ max a b < i ∨ (max a b = i ∧ min a b < j) := by
  unfold dnp
  simp
def stp (row : List Nat) (n i j : Nat) : List Nat := (List.range n).map fun k => row.getD k 0 ||| ((if decide (k = i) = true then 1 else 0) * 2 ^ j)
theorem stp_len (row : List Nat) (n i j : Nat) : (stp row n i j).length = n := by
  unfold stp
  rw [List.length_map, List.length_range]
theorem stp_rel {row : List Nat} {n i j a b : Nat} (hl : row.length = n) (hi : i < n) : mrel (stp row n i j) a b = true ↔ mrel row a b = true ∨ (a = i ∧ b = j) := by
  unfold mrel stp
  rw [List.getD_eq_getElem?_getD, List.getElem?_map]
  by_cases ha : a < n
  · rw [List.getElem?_range ha]
    simp only [Option.map_some, Option.getD_some]
    rw [Nat.testBit_or, Bool.or_eq_true]
    refine or_congr_right ?_
    by_cases e : a = i
    · rw [if_pos (by simpa using e), Nat.one_mul, Nat.testBit_two_pow, decide_eq_true_eq]
      exact ⟨fun h => ⟨e, h.symm⟩, fun h => h.2.symm⟩
    · rw [if_neg (by simpa using e), Nat.zero_mul, Nat.zero_testBit]
      exact ⟨(fun h => by cases h), fun h => (e h.1).elim⟩
  · rw [List.getElem?_eq_none (by rw [List.length_range]; omega), List.getD_eq_getElem?_getD, List.getElem?_eq_none (l := row) (by omega)]
    simp
    intro h
    omega
def grow1 (b : Bool) (n i j : Nat) (row : List Nat) : List (List Nat) := (if b = true then [] else [row]) ++ [stp row n i j] ++ [stp row n j i]
def grow (b : Bool) (n i j : Nat) (RL : List (List Nat)) : List (List Nat) := RL.flatMap (grow1 b n i j)
theorem mem_grow {b : Bool} {n i j : Nat} {RL : List (List Nat)} {x : List Nat} : x ∈ grow b n i j RL ↔ ∃ row ∈ RL, (b = false ∧ x = row) ∨ x = stp row n i j ∨ x = stp row n j i := by
  unfold grow grow1
  rw [List.mem_flatMap]
  refine exists_congr fun row => and_congr_right fun _ => ?_
  cases b <;> simp
theorem grow_len (b : Bool) (n i j : Nat) : ∀ RL : List (List Nat), (grow b n i j RL).length ≤ 3 * RL.length
  | [] => Nat.le_refl _
  | r :: t => by
    have ih := grow_len b n i j t
    unfold grow at ih ⊢
    rw [List.flatMap_cons, List.length_append]
    have : (grow1 b n i j r).length ≤ 3 := by
      unfold grow1
      cases b <;> simp
    rw [List.length_cons]
    omega
structure Gen (n : Nat) (T : Rel) (i j : Nat) (RL : List (List Nat)) : Prop where
  len : RL.length ≤ 3 ^ (tri i + j)
  row : ∀ row ∈ RL, row.length = n
  irr : ∀ row ∈ RL, ∀ a b, mrel row a b = true → b < n ∧ a ≠ b
  fit : ∀ row ∈ RL, ∀ a b, a < n → b < n → dnp i j a b = true → T a b = true → mrel row a b = true ∨ mrel row b a = true
  all : ∀ O, Ord n O → Fits n T O → ∃ row ∈ RL, ∀ a b, mrel row a b = true ↔ O a b = true ∧ dnp i j a b = true
theorem mrel_zero (n a b : Nat) : mrel (List.replicate n 0) a b = false := by
  unfold mrel
  rw [List.getD_eq_getElem?_getD, List.getElem?_replicate]
  split <;> simp
theorem dnp_zero (a b : Nat) : dnp 0 0 a b = false := by
  unfold dnp
  simp
theorem gen_start (n : Nat) (T : Rel) : Gen n T 0 0 [List.replicate n 0] := by
  refine ⟨Nat.le_refl _, fun row h => ?_, fun row h a b q => ?_, fun row h a b _ _ q => ?_, fun O _ _ => ⟨_, List.mem_singleton.mpr rfl, fun a b => ?_⟩⟩
  · rw [List.mem_singleton.mp h, List.length_replicate]
  · rw [List.mem_singleton.mp h, mrel_zero] at q
    cases q
  · rw [dnp_zero] at q
    cases q
  · rw [mrel_zero, dnp_zero]
    simp
theorem gen_next {n i : Nat} {T : Rel} {RL : List (List Nat)} (hT : ∀ a, T a a = false) (g : Gen n T i i RL) : Gen n T (i + 1) 0 RL := by
  have e : ∀ a b, a ≠ b → (dnp (i + 1) 0 a b = true ↔ dnp i i a b = true) := fun a b hab => by
    rw [dnp_iff, dnp_iff]
    omega
  refine ⟨g.len, g.row, g.irr, fun row h a b ha hb q ht => ?_, fun O o f => ?_⟩
  · refine g.fit row h a b ha hb ((e a b fun z => ?_).mp q) ht
    rw [z, hT] at ht
    cases ht
  · obtain ⟨row, hr, h⟩ := g.all O o f
    refine ⟨row, hr, fun a b => ?_⟩
    rw [h a b]
    refine and_congr_right fun ho => ((e a b fun z => ?_).symm)
    rw [z, o.irr] at ho
    cases ho
theorem gen_step {n i j : Nat} {T : Rel} {RL : List (List Nat)} (hs : ∀ a b, T a b = T b a) (hj : j < i) (hi : i < n) (g : Gen n T i j RL) : Gen n T i (j + 1) (grow (T i j) n i j RL) := by
  have ed : ∀ a b, dnp i (j + 1) a b = true ↔ dnp i j a b = true ∨ (a = i ∧ b = j) ∨ (a = j ∧ b = i) := fun a b => by
    rw [dnp_iff, dnp_iff]
    omega
  refine ⟨?_, fun x h => ?_, fun x h a b q => ?_, fun x h a b ha hb q ht => ?_, fun O o f => ?_⟩
  · have h1 := grow_len (T i j) n i j RL
    have h2 := g.len
    rw [← Nat.add_assoc, Nat.pow_succ]
    omega
  · obtain ⟨row, hr, h | h | h⟩ := mem_grow.mp h
    · rw [h.2]
      exact g.row row hr
    · rw [h, stp_len]
    · rw [h, stp_len]
  · obtain ⟨row, hr, h | h | h⟩ := mem_grow.mp h
    · rw [h.2] at q
      exact g.irr row hr a b q
    · rw [h] at q
      rcases (stp_rel (g.row row hr) hi).mp q with q | q
      · exact g.irr row hr a b q
      · omega
    · rw [h] at q
      rcases (stp_rel (g.row row hr) (by omega)).mp q with q | q
      · exact g.irr row hr a b q
      · omega
  · have key : ∀ row ∈ RL, (∀ a b, mrel row a b = true → mrel x a b = true) → ((a = i ∧ b = j) ∨ (a = j ∧ b = i) → mrel x a b = true ∨ mrel x b a = true) → mrel x a b = true ∨ mrel x b a = true := fun row hr h1 h2 => by
      rcases (ed a b).mp q with h | h
      · exact (g.fit row hr a b ha hb h ht).imp (h1 a b) (h1 b a)
      · exact h2 h
    obtain ⟨row, hr, h | h | h⟩ := mem_grow.mp h
    · refine key row hr (fun a b hh => by rw [h.2]; exact hh) fun hh => ?_
      have : T a b = false := by
        rcases hh with ⟨e1, e2⟩ | ⟨e1, e2⟩
        · rw [e1, e2]
          exact h.1
        · rw [e1, e2, hs]
          exact h.1
      rw [this] at ht
      cases ht
    · rw [h]
      have s := fun a b => stp_rel (a := a) (b := b) (j := j) (g.row row hr) hi
      rw [h] at key
      refine key row hr (fun a b hh => (s a b).mpr (.inl hh)) fun hh => ?_
      rcases hh with hh | hh
      · exact .inl ((s a b).mpr (.inr hh))
      · exact .inr ((s b a).mpr (.inr ⟨hh.2, hh.1⟩))
    · rw [h]
      have s := fun a b => stp_rel (a := a) (b := b) (i := j) (j := i) (g.row row hr) (by omega)
      rw [h] at key
      refine key row hr (fun a b hh => (s a b).mpr (.inl hh)) fun hh => ?_
      rcases hh with hh | hh
      · exact .inr ((s b a).mpr (.inr ⟨hh.2, hh.1⟩))
      · exact .inl ((s a b).mpr (.inr hh))
  · obtain ⟨row, hr, h⟩ := g.all O o f
    by_cases o1 : O i j = true
    · refine ⟨_, mem_grow.mpr ⟨row, hr, .inr (.inl rfl)⟩, fun a b => ?_⟩
      rw [stp_rel (g.row row hr) hi, h a b, ed a b]
      have no : ¬ O j i = true := fun z => by
        have := o.tr i j i o1 z
        rw [o.irr] at this
        cases this
      constructor
      · rintro (⟨h1, h2⟩ | ⟨rfl, rfl⟩)
        · exact ⟨h1, .inl h2⟩
        · exact ⟨o1, .inr (.inl ⟨rfl, rfl⟩)⟩
      · rintro ⟨h1, h2 | h2 | ⟨rfl, rfl⟩⟩
        · exact .inl ⟨h1, h2⟩
        · exact .inr h2
        · exact (no h1).elim
    · by_cases o2 : O j i = true
      · refine ⟨_, mem_grow.mpr ⟨row, hr, .inr (.inr rfl)⟩, fun a b => ?_⟩
        rw [stp_rel (g.row row hr) (by omega), h a b, ed a b]
        constructor
        · rintro (⟨h1, h2⟩ | ⟨rfl, rfl⟩)
          · exact ⟨h1, .inl h2⟩
          · exact ⟨o2, .inr (.inr ⟨rfl, rfl⟩)⟩
        · rintro ⟨h1, h2 | ⟨rfl, rfl⟩ | h2⟩
          · exact .inl ⟨h1, h2⟩
          · exact (o1 h1).elim
          · exact .inr h2
      · have ht : T i j = false := by
          cases e : T i j with
          | false => rfl
          | true => exact ((f i j hi (by omega) e).elim o1 o2).elim
        refine ⟨_, mem_grow.mpr ⟨row, hr, .inl ⟨ht, rfl⟩⟩, fun a b => ?_⟩
        rw [h a b, ed a b]
        constructor
        · exact fun h => ⟨h.1, .inl h.2⟩
        · rintro ⟨h1, h2 | ⟨rfl, rfl⟩ | ⟨rfl, rfl⟩⟩
          · exact ⟨h1, h2⟩
          · exact (o1 h1).elim
          · exact (o2 h1).elim
theorem pow3 {i j : Nat} (hi : i < 4) (hj : j ≤ i) : 3 ^ (tri i + j) ≤ 729 := by
  have : tri i + j ≤ 6 := by
    have : tri 0 = 0 ∧ tri 1 = 0 ∧ tri 2 = 1 ∧ tri 3 = 3 := ⟨rfl, rfl, rfl, rfl⟩
    rcases (by omega : i = 0 ∨ i = 1 ∨ i = 2 ∨ i = 3) with e | e | e | e <;> subst e <;> omega
  exact Nat.le_trans (Nat.pow_le_pow_right (by decide) this) (by decide)
theorem pow3' {n : Nat} (hn : n ≤ 4) : 3 ^ (tri n + 0) ≤ 729 := by
  have : tri n + 0 ≤ 6 := by
    have : tri 0 = 0 ∧ tri 1 = 0 ∧ tri 2 = 1 ∧ tri 3 = 3 ∧ tri 4 = 6 := ⟨rfl, rfl, rfl, rfl, rfl⟩
    rcases (by omega : n = 0 ∨ n = 1 ∨ n = 2 ∨ n = 3 ∨ n = 4) with e | e | e | e | e <;> subst e <;> omega
  exact Nat.le_trans (Nat.pow_le_pow_right (by decide) this) (by decide)
theorem ListsAt.len {H : Hp} : ∀ {as : List Addr} {ls : List (List Nat)}, ListsAt H as ls → as.length = ls.length
  | [], [], _ => rfl
  | _ :: _, _ :: _, h => congrArg (· + 1) (ListsAt.len h.2)
  | [], _ :: _, h => h.elim
  | _ :: _, [], h => h.elim
theorem ListsAt.upd {H : Hp} {G : Addr} {o : HO} : ∀ {as : List Addr} {ls : List (List Nat)}, ListsAt H as ls → (∀ a ∈ as, a ≠ G) → ListsAt (L2.upd H G o) as ls
  | [], [], _, _ => True.intro
  | a :: as, _ :: _, h, n => ⟨by rw [upd_ne (n a List.mem_cons_self)]; exact h.1, ListsAt.upd h.2 fun b hb => n b (List.mem_cons_of_mem _ hb)⟩
  | [], _ :: _, h, _ => h.elim
  | _ :: _, [], h, _ => h.elim
theorem ListsAt.one {H : Hp} {a : Addr} {l : List Nat} (h : H a = some (.lst (nums l))) : ListsAt H [a] [l] := ⟨h, True.intro⟩
theorem ListsAt.at {H : Hp} {as : List Addr} {ls : List (List Nat)} (h : ListsAt H as ls) {i : Nat} {a : Addr} (ha : as[i]? = some a) : ∃ l, ls[i]? = some l ∧ H a = some (.lst (nums l)) := by
  have hi : i < ls.length := by
    rw [← h.len]
    exact (List.getElem?_eq_some_iff.mp ha).1
  obtain ⟨a', l, h1, h2, h3⟩ := h.get hi
  rw [ha] at h1
  rw [Option.some.inj h1]
  exact ⟨l, h2, h3⟩
end WW

set_option Elab.async false
set_option linter.all false
set_option maxRecDepth 100000
set_option maxHeartbeats 4000000
/-! W18: _law_orders -/
namespace WW
open PySem PySem.Spec PyProof.Rows L2
section
variable {P : Program} {w : World} {K : PySem.W.Frag} {mg : Str → Option Value} {base : Heap}
def spOrders : Sp := fun vs H Q _ => ∃ (a : Addr) (n : Nat) (T : Rel) (ms : List Nat), vs = [.ref a] ∧ H a = some (.lst (nums ms)) ∧ IsM n T ms ∧ Gr n T ∧ n ≤ 4 ∧
  ∀ H' q as RL, Same H H' → H' q = some (.lst (as.map V.ref)) → ListsAt H' as RL → RL.length ≤ 1000 → (∀ row ∈ RL, row.length = n ∧ Ord n (mrel row) ∧ Fits n T (mrel row)) → (∀ O, Ord n O → Fits n T O → ∃ row ∈ RL, ∀ a b, mrel row a b = O a b) → Q (.ref q) H'
theorem take_succ {l : List (List Nat)} {t : Nat} {r : List Nat} (h : l[t]? = some r) : l.take (t + 1) = l.take t ++ [r] := by
  rw [List.take_add_one, h]
  rfl
theorem grow_take {b : Bool} {n i j t : Nat} {RL : List (List Nat)} {row : List Nat} (h : RL[t]? = some row) : grow b n i j (RL.take (t + 1)) = grow b n i j (RL.take t) ++ grow1 b n i j row := by
  rw [take_succ h]
  unfold grow
  rw [List.flatMap_append, List.flatMap_cons, List.flatMap_nil, List.append_nil]
theorem stp_succ {row : List Nat} {i j k : Nat} : stp row (k + 1) i j = stp row k i j ++ [row.getD k 0 ||| ((if decide (k = i) = true then 1 else 0) * 2 ^ j)] := by
  unfold stp
  rw [List.range_succ, List.map_append]
  rfl
theorem scOrders : FnScope ["_law_masks", "_law_size", "_law_rows", "_law_i", "_law_j", "_law_grown", "_law_row", "_law_k"] ["_law_masks"] (defScope (topS 56)) := ⟨rfl, rfl, rfl, by decide +kernel, rfl, by decide +kernel, by decide +kernel⟩
theorem cal_orders (D : Dfn K mg "_law_orders" (topS 56) ["_law_masks"]) (B : Blt mg) (c1 : Cal P w K mg base "_law_is_closed" 2 ["_law_row"] spClosed) : Cal P w K mg base "_law_orders" 3 ["_law_masks"] spOrders := by
  refine D.cal scOrders (fun vs H Q E h => ?_) (fun f cdv A outer s H vs Q E hr h => ?_)
  · obtain ⟨a, n, T, ms, rfl, _⟩ := h
    rfl
  · obtain ⟨a, n, T, ms, rfl, ha, IM, g, hn4, q⟩ := h
    refine ⟨_, pss_cons (ps_set (i := 1) scOrders.nd rfl (Or.inl rfl) (pe_callB c_len (by rfl) B.len PySem.boot_len (pa_cons (pv 0) pa_nil)))
      (pss_cons (ps_set (i := 2) scOrders.nd rfl (Or.inl rfl) (pe_lst (pa_cons (pe_lc (own := [("_law_k", 7)]) (g := gName 7) rfl scOrders.nd (up1_run rfl B.range (pa_cons (pv 1) pa_nil)) (blkOk_by (own := [("_law_k", 7)]) (N := ["_law_masks", "_law_size", "_law_rows", "_law_i", "_law_j", "_law_grown", "_law_row", "_law_k"]) (sc := defScope (topS 56)) (by decide +kernel))
        (fun _ _ _ _ _ => pg_name (i := 7) scOrders.nd rfl (Or.inl rfl)) (fun _ _ _ _ _ => pts_nil) (fun _ _ _ _ _ => pe_int)) pa_nil)))
      (pss_cons (ps_for PassesOwn.never rfl (up1_run rfl B.range (pa_cons (pv 1) pa_nil)) (pg_name (i := 3) scOrders.nd rfl (Or.inr rfl))
        (pss_one (ps_for PassesOwn.never rfl (up1_run rfl B.range (pa_cons (pv 3) pa_nil)) (pg_name (i := 4) scOrders.nd rfl (Or.inr rfl))
          (pss_cons (ps_set (i := 5) scOrders.nd rfl (Or.inl rfl) (pe_lst pa_nil))
          (pss_cons (ps_for PassesOwn.never rfl (pi_list (pv 2)) (pg_name (i := 6) scOrders.nd rfl (Or.inr rfl))
            (C8.pss_cut (ps_if (pt_cmpR n_eq (pe_op n_and (pe_op n_shr (pe_ix ixl (pv 0) (pv 3) (fun _ _ => rfl)) (pv 4)) pe_int) pe_int (nomark _))
              (pss_one (ps_expr (pe_bm PySem.F.plainAttrs_list PySem.F.slot_list_append PySem.F.type_list_append mt_append (pv 5) (pa_cons (pv 6) pa_nil)))) pss_nil)
            (C8.pss_cut (ps_expr (pe_bm PySem.F.plainAttrs_list PySem.F.slot_list_append PySem.F.type_list_append mt_append (pv 5) (pa_cons
              (pe_lc (own := [("_law_k", 7)]) (g := gName 7) rfl scOrders.nd (up1_run rfl B.range (pa_cons (pv 1) pa_nil)) (blkOk_by (own := [("_law_k", 7)]) (N := ["_law_masks", "_law_size", "_law_rows", "_law_i", "_law_j", "_law_grown", "_law_row", "_law_k"]) (sc := defScope (topS 56)) (by decide +kernel))
              (fun _ _ _ _ _ => pg_name (i := 7) scOrders.nd rfl (Or.inl rfl)) (fun _ _ _ _ _ => pts_nil) (fun _ _ _ _ _ => pe_op n_or (pe_ix ixl (pv 6) (pv 7) (fun _ _ => rfl)) (pe_op n_shl (pe_callTy (T := "int") c_intb (by rfl) B.int (by decide +kernel) (pa_cons (pe_cmpR n_eq (pv 7) (pv 3) (nomark _)) pa_nil)) (pv 4)))) pa_nil)))
            (pss_one (ps_expr (pe_bm PySem.F.plainAttrs_list PySem.F.slot_list_append PySem.F.type_list_append mt_append (pv 5) (pa_cons
              (pe_lc (own := [("_law_k", 7)]) (g := gName 7) rfl scOrders.nd (up1_run rfl B.range (pa_cons (pv 1) pa_nil)) (blkOk_by (own := [("_law_k", 7)]) (N := ["_law_masks", "_law_size", "_law_rows", "_law_i", "_law_j", "_law_grown", "_law_row", "_law_k"]) (sc := defScope (topS 56)) (by decide +kernel))
              (fun _ _ _ _ _ => pg_name (i := 7) scOrders.nd rfl (Or.inl rfl)) (fun _ _ _ _ _ => pts_nil) (fun _ _ _ _ _ => pe_op n_or (pe_ix ixl (pv 6) (pv 7) (fun _ _ => rfl)) (pe_op n_shl (pe_callTy (T := "int") c_intb (by rfl) B.int (by decide +kernel) (pa_cons (pe_cmpR n_eq (pv 7) (pv 4) (nomark _)) pa_nil)) (pv 3)))) pa_nil)))))))
          (pss_one (ps_set (i := 2) scOrders.nd rfl (Or.inl rfl) (pv 5))))))))
      (pss_one (ps_ret (pe_lc (own := [("_law_row", 6)]) (g := gName 6) rfl scOrders.nd (pi_list (pv 2)) (blkOk_by (own := [("_law_row", 6)]) (N := ["_law_masks", "_law_size", "_law_rows", "_law_i", "_law_j", "_law_grown", "_law_row", "_law_k"]) (sc := defScope (topS 56)) (by decide +kernel))
        (fun _ _ _ _ _ => pg_name (i := 6) scOrders.nd rfl (Or.inl rfl)) (fun _ _ _ _ _ => pts_one (pt_val (pe_cal c1 hr (by decide) (pa_cons (pv 6) pa_nil)))) (fun _ _ _ _ _ => pv 6)))))), ?_⟩
    have hn8 : n ≤ 8 := by omega
    refine ⟨_, rfl, a, nums ms, n, rfl, .inl ha, by rw [nums_len]; exact IM.len, ?_⟩
    refine ⟨_, rfl, n, rfl, by omega, fun d0 hd0 => lc_up0 (n := n) (fun i H' => Same H H' ∧ H' d0 = some (.lst (nums (List.replicate i 0)))) ⟨same_new hd0, upd_same⟩ ?_ ?_⟩
    · rintro i H' hi ⟨sm, hl⟩
      refine ⟨rfl, yesT ⟨_, hl, ?_, same_mut sm hd0, ?_⟩⟩
      · rw [nums_len, List.length_replicate]
        exact sz8 (by omega)
      · rw [upd_same, show (V.int 0) = V.int ((0 : Nat) : Int) from rfl, nums_app, ← List.replicate_succ']
    rintro H0 ⟨sm0, hl0⟩
    refine ⟨by show 1 ≤ sizeLine; decide, fun R0 hR0 => ?_⟩
    have s0 : Same H0 (upd H0 R0 (.lst [.ref d0])) := same_new hR0
    refine ⟨_, rfl, n, rfl, by omega, for_up0 (n := n) (fun i σ H' => ∃ (v3 v4 v5 v6 : Option V) (R : Addr) (as : List Addr) (RL : List (List Nat)), σ = [some (.ref a), some (.int (n : Int)), some (.ref R), v3, v4, v5, v6, none] ∧ Same H H' ∧ H' R = some (.lst (as.map V.ref)) ∧ ListsAt H' as RL ∧ Gen n T i 0 RL)
      ⟨none, none, none, none, R0, [d0], [List.replicate n 0], rfl, sm0.trans s0, upd_same, ListsAt.one (s0 _ _ hl0), gen_start n T⟩ ?_ ?_⟩
    · rintro i σ H1 hi ⟨v3, v4, v5, v6, R, as, RL, rfl, sm1, hR1, la1, g1⟩
      refine ⟨_, rfl, i, rfl, by omega, for_up0 (n := i) (fun j σ H' => ∃ (v4 v5 v6 : Option V) (R : Addr) (as : List Addr) (RL : List (List Nat)), σ = [some (.ref a), some (.int (n : Int)), some (.ref R), some (.int (i : Int)), v4, v5, v6, none] ∧ Same H H' ∧ H' R = some (.lst (as.map V.ref)) ∧ ListsAt H' as RL ∧ Gen n T i j RL)
        ⟨v4, v5, v6, R, as, RL, rfl, sm1, hR1, la1, g1⟩ ?_ ?_⟩
      · rintro j σ H1 hj ⟨v4, v5, v6, R, as, RL, rfl, sm1, hR1, la1, g1⟩
        refine ⟨Nat.zero_le _, fun G hG => ?_⟩
        have sG : Same H1 (upd H1 G (.lst [])) := same_new hG
        have hGH : H G = none := sm1.free hG
        have len1 : RL.length ≤ 729 := Nat.le_trans g1.len (pow3 (by omega) (by omega))
        have gl : ∀ t, (grow (T i j) n i j (RL.take t)).length ≤ 2187 := fun t => by
          have h1 := grow_len (T i j) n i j (RL.take t)
          rw [List.length_take] at h1
          omega
        refine ⟨_, rfl, R, rfl, ⟨_, SqL.of (sG _ _ hR1)⟩, for_list (K := K) (a := R) (xs := as.map V.ref) (fun t σ H' => ∃ (v6 : Option V) (gs : List Addr), σ = [some (.ref a), some (.int (n : Int)), some (.ref R), some (.int (i : Int)), some (.int (j : Int)), some (.ref G), v6, none] ∧ Same H1 H' ∧ H' G = some (.lst (gs.map V.ref)) ∧ (∀ b ∈ gs, b ≠ G) ∧ ListsAt H' gs (grow (T i j) n i j (RL.take t)))
          ⟨v6, [], rfl, sG, upd_same, (fun b hb => by cases hb), by
            rw [List.take_zero]
            exact True.intro⟩ (fun t σ H' _ ⟨_, _, _, sm, _⟩ => SqL.of (sm _ _ hR1)) ?_ ?_⟩
        · rintro t x σ H2 hx ⟨v6, gs, rfl, sm2, hG2, ng2, la2⟩
          obtain ⟨r, hr', rfl⟩ := refs_of hx
          obtain ⟨row, hrow, hr1⟩ := la1.at hr'
          have rlen := g1.row row (List.mem_of_getElem? hrow)
          have nrG : r ≠ G := ne_of_none hr1 hG
          obtain ⟨m, gm, bm⟩ := IM.at hi
          have sz : ∀ (gs : List Addr) (H' : Hp) (LL : List (List Nat)), ListsAt H' gs LL → LL.length ≤ 3000 → (gs.map V.ref).length < sizeLine := fun gs H' LL la hl => by
            rw [List.length_map, la.len]
            exact sz8 (by omega)
          refine ⟨fun σ H' => ∃ (gs : List Addr), σ = [some (.ref a), some (.int (n : Int)), some (.ref R), some (.int (i : Int)), some (.int (j : Int)), some (.ref G), some (.ref r), none] ∧ Same H1 H' ∧ H' G = some (.lst (gs.map V.ref)) ∧ (∀ b ∈ gs, b ≠ G) ∧ ListsAt H' gs (grow (T i j) n i j (RL.take t) ++ (if T i j = true then [] else [row])), ?_, ?_⟩
          · refine ⟨_, rfl, _, rfl, a, _, i, _, rfl, rfl, sm2 _ _ (sm1 _ _ ha), nums_get gm, _, rfl, m, j, rfl, rfl, m / 2 ^ j, 1, rfl, rfl, (m / 2 ^ j) &&& 1, 0, rfl, rfl, _, rfl, ?_⟩
            rw [bit_val, bm]
            refine ite2 (fun e => ?_) (fun e => ?_)
            · have ht : T i j = false := by
                cases z : T i j with
                | false => rfl
                | true =>
                  rw [z] at e
                  simp at e
              refine ⟨_, rfl, .inl ⟨rfl, _, SqL.of hG2⟩, _, rfl, G, _, _, rfl, rfl, hG2, sz _ _ _ la2 (by have := gl t; omega), ?_⟩
              refine ⟨gs ++ [r], rfl, same_mut sm2 hG, by rw [upd_same, List.map_append]; rfl, fun b hb => ?_, ?_⟩
              · rcases List.mem_append.mp hb with h | h
                · exact ng2 b h
                · rw [List.mem_singleton.mp h]
                  exact nrG
              · rw [show (if T i j = true then ([] : List (List Nat)) else [row]) = [row] by rw [ht]; rfl]
                exact ListsAt.app (la2.upd ng2) (ListsAt.one (by rw [upd_ne nrG]; exact sm2 _ _ hr1))
            · have ht : T i j = true := by
                cases z : T i j with
                | true => rfl
                | false =>
                  rw [z] at e
                  simp at e
              refine ⟨gs, rfl, sm2, hG2, ng2, ?_⟩
              rw [show (if T i j = true then ([] : List (List Nat)) else [row]) = [] by rw [ht]; rfl, List.append_nil]
              exact la2
          · rintro σ H2 ⟨gs, rfl, sm2, hG2, ng2, la2⟩
            have gl1 : (grow (T i j) n i j (RL.take t) ++ (if T i j = true then [] else [row])).length ≤ 2188 := by
              rw [List.length_append]
              have := gl t
              split <;> simp <;> omega
            have comp : ∀ (H2 H3 : Hp) (gs : List Addr) (LL : List (List Nat)) (d : Addr) (l : List Nat), Same H1 H2 → H2 G = some (.lst (gs.map V.ref)) → (∀ b ∈ gs, b ≠ G) → ListsAt H2 gs LL → H2 d = none → Same H2 H3 → H3 d = some (.lst (nums l)) →
                ∃ gs' : List Addr, Same H1 (upd H3 G (.lst (gs.map V.ref ++ [.ref d]))) ∧ (upd H3 G (.lst (gs.map V.ref ++ [.ref d]))) G = some (.lst (gs'.map V.ref)) ∧ (∀ b ∈ gs', b ≠ G) ∧ ListsAt (upd H3 G (.lst (gs.map V.ref ++ [.ref d]))) gs' (LL ++ [l]) := fun H2 H3 gs LL d l sm2 hG2 ng la hd sm23 hl => by
              have nd : d ≠ G := (ne_of_none hG2 hd).symm
              refine ⟨gs ++ [d], same_mut (sm2.trans sm23) hG, by rw [upd_same, List.map_append]; rfl, fun b hb => ?_, ?_⟩
              · rcases List.mem_append.mp hb with h | h
                · exact ng b h
                · rw [List.mem_singleton.mp h]
                  exact nd
              · exact ListsAt.app ((la.mono sm23).upd ng) (ListsAt.one (by rw [upd_ne nd]; exact hl))
            refine ⟨fun σ H' => ∃ (gs : List Addr), σ = [some (.ref a), some (.int (n : Int)), some (.ref R), some (.int (i : Int)), some (.int (j : Int)), some (.ref G), some (.ref r), none] ∧ Same H1 H' ∧ H' G = some (.lst (gs.map V.ref)) ∧ (∀ b ∈ gs, b ≠ G) ∧ ListsAt H' gs (grow (T i j) n i j (RL.take t) ++ (if T i j = true then [] else [row]) ++ [stp row n i j]), ?_, ?_⟩
            · refine ⟨_, rfl, .inl ⟨rfl, _, SqL.of hG2⟩, ?_⟩
              refine ⟨_, rfl, n, rfl, by omega, fun d hd => lc_up0 (n := n) (fun k H3 => Same H2 H3 ∧ H3 d = some (.lst (nums (stp row k i j)))) ⟨same_new hd, upd_same⟩ ?_ ?_⟩
              · rintro k H3 hk ⟨sm3, hl3⟩
                refine ⟨rfl, yesT ?_⟩
                refine ⟨_, rfl, _, rfl, r, _, k, _, rfl, rfl, sm3 _ _ (sm2 _ _ hr1), nums_get (getD_get (by omega)), _, rfl, _, rfl, k, i, rfl, rfl, decide (k = i), rfl, _, rfl, _, j, rfl, rfl, ⟨?_, by omega⟩, row.getD k 0, _, rfl, rfl, _, hl3, ?_, same_mut sm3 hd, ?_⟩
                · split <;> decide
                · rw [nums_len, stp_len]
                  exact sz8 (by omega)
                · rw [upd_same, nums_app, stp_succ]
              · rintro H3 ⟨sm3, hl3⟩
                refine ⟨G, _, _, rfl, rfl, sm3 _ _ hG2, sz _ _ _ la2 (by omega), ?_⟩
                obtain ⟨gs', k1, k2, k3, k4⟩ := comp H2 H3 gs _ d _ sm2 hG2 ng2 la2 hd sm3 hl3
                exact ⟨gs', rfl, k1, k2, k3, k4⟩
            · rintro σ H2 ⟨gs, rfl, sm2, hG2, ng2, la2⟩
              refine ⟨_, rfl, .inl ⟨rfl, _, SqL.of hG2⟩, ?_⟩
              refine ⟨_, rfl, n, rfl, by omega, fun d hd => lc_up0 (n := n) (fun k H3 => Same H2 H3 ∧ H3 d = some (.lst (nums (stp row k j i)))) ⟨same_new hd, upd_same⟩ ?_ ?_⟩
              · rintro k H3 hk ⟨sm3, hl3⟩
                refine ⟨rfl, yesT ?_⟩
                refine ⟨_, rfl, _, rfl, r, _, k, _, rfl, rfl, sm3 _ _ (sm2 _ _ hr1), nums_get (getD_get (by omega)), _, rfl, _, rfl, k, j, rfl, rfl, decide (k = j), rfl, _, rfl, _, i, rfl, rfl, ⟨?_, by omega⟩, row.getD k 0, _, rfl, rfl, _, hl3, ?_, same_mut sm3 hd, ?_⟩
                · split <;> decide
                · rw [nums_len, stp_len]
                  exact sz8 (by omega)
                · rw [upd_same, nums_app, stp_succ]
              · rintro H3 ⟨sm3, hl3⟩
                refine ⟨G, _, _, rfl, rfl, sm3 _ _ hG2, sz _ _ _ la2 (by rw [List.length_append]; have : [stp row n i j].length = 1 := rfl; omega), ?_⟩
                obtain ⟨gs', k1, k2, k3, k4⟩ := comp H2 H3 gs _ d _ sm2 hG2 ng2 la2 hd sm3 hl3
                refine ⟨_, gs', rfl, k1, k2, k3, ?_⟩
                rw [grow_take hrow]
                unfold grow1
                rw [← List.append_assoc, ← List.append_assoc]
                exact k4
        · rintro σ H2 ⟨v6, gs, rfl, sm2, hG2, ng2, la2⟩
          rw [List.length_map, la1.len, List.take_length] at la2
          exact ⟨_, rfl, _, _, _, G, gs, _, rfl, sm1.trans sm2, hG2, la2, gen_step g.sym hj hi g1⟩
      · rintro σ H1 ⟨v4, v5, v6, R, as, RL, rfl, sm1, hR1, la1, g1⟩
        exact ⟨_, _, _, _, R, as, RL, rfl, sm1, hR1, la1, gen_next g.irr g1⟩
    · rintro σ H1 ⟨v3, v4, v5, v6, R, as, RL, rfl, sm1, hR1, la1, g1⟩
      have len1 : RL.length ≤ 729 := Nat.le_trans g1.len (pow3' hn4)
      refine ⟨_, rfl, R, rfl, ⟨_, SqL.of hR1⟩, fun D hD => lc_list (K := K) (a := R) (xs := as.map V.ref) (fun t H2 => ∃ (bs : List Addr) (RL2 : List (List Nat)), Same H1 H2 ∧ H2 D = some (.lst (bs.map V.ref)) ∧ (∀ b ∈ bs, b ≠ D) ∧ ListsAt H2 bs RL2 ∧ RL2.length ≤ t ∧ (∀ row ∈ RL2, row ∈ RL ∧ Cls row) ∧ ∀ t' row, t' < t → RL[t']? = some row → Cls row → row ∈ RL2)
        ⟨[], [], same_new hD, upd_same, (fun b hb => by cases hb), True.intro, Nat.le_refl _, (fun row h => by cases h), fun t' row h => by omega⟩ (fun t H2 _ ⟨_, _, sm, _⟩ => SqL.of (sm _ _ hR1)) ?_ ?_⟩
      · rintro t x H2 hx ⟨bs, RL2, sm2, hD2, nb2, la2, ln2, in2, al2⟩
        obtain ⟨r, hr', rfl⟩ := refs_of hx
        obtain ⟨row, hrow, hr1⟩ := la1.at hr'
        have hmem := List.mem_of_getElem? hrow
        have rlen := g1.row row hmem
        have ht : t < RL.length := (List.getElem?_eq_some_iff.mp hrow).1
        have nrD : r ≠ D := ne_of_none hr1 hD
        refine ⟨rfl, _, rfl, r, row, rfl, sm2 _ _ hr1, by omega, fun i j h => by rw [rlen]; exact (g1.irr row hmem i j h).1, fun H3 b s23 hb => ⟨b, rfl, ite2 (fun e => ?_) (fun e => ?_)⟩⟩
        · refine ⟨_, rfl, _, s23 _ _ hD2, ?_, bs ++ [r], RL2 ++ [row], same_mut (sm2.trans s23) hD, by rw [upd_same, List.map_append]; rfl, fun b hb => ?_, ?_, ?_, fun row' h => ?_, fun t' row' ht' hrow' hc => ?_⟩
          · rw [List.length_map, la2.len]
            exact sz8 (by omega)
          · rcases List.mem_append.mp hb with h | h
            · exact nb2 b h
            · rw [List.mem_singleton.mp h]
              exact nrD
          · exact ListsAt.app ((la2.mono s23).upd nb2) (ListsAt.one (by rw [upd_ne nrD]; exact s23 _ _ (sm2 _ _ hr1)))
          · rw [List.length_append]
            simp
            omega
          · rcases List.mem_append.mp h with h | h
            · exact in2 row' h
            · rw [List.mem_singleton.mp h]
              exact ⟨hmem, hb.mp e⟩
          · by_cases et : t' = t
            · subst et
              rw [hrow] at hrow'
              rw [← Option.some.inj hrow']
              exact List.mem_append_right _ (List.mem_singleton.mpr rfl)
            · exact List.mem_append_left _ (al2 t' row' (by omega) hrow' hc)
        · refine ⟨bs, RL2, sm2.trans s23, s23 _ _ hD2, nb2, la2.mono s23, by omega, in2, fun t' row' ht' hrow' hc => ?_⟩
          by_cases et : t' = t
          · subst et
            rw [hrow] at hrow'
            rw [← Option.some.inj hrow'] at hc
            exact (e (hb.mpr hc)).elim
          · exact al2 t' row' (by omega) hrow' hc
      · rintro H2 ⟨bs, RL2, sm2, hD2, nb2, la2, ln2, in2, al2⟩
        rw [List.length_map, la1.len] at ln2 al2
        refine q H2 D bs RL2 (sm1.trans sm2) hD2 la2 (by omega) (fun row h => ?_) fun O o f => ?_
        · obtain ⟨h1, h2⟩ := in2 row h
          refine ⟨g1.row row h1, ⟨fun i => ?_, fun i j hij => ?_, h2⟩, fun i j hi hj ht => ?_⟩
          · cases e : mrel row i i with
            | false => rfl
            | true => exact ((g1.irr row h1 i i e).2 rfl).elim
          · refine ⟨?_, (g1.irr row h1 i j hij).1⟩
            rw [← g1.row row h1]
            exact mrel_in hij
          · refine g1.fit row h1 i j hi hj (dnp_iff.mpr (.inl ?_)) ht
            omega
        · obtain ⟨row, hm, hh⟩ := g1.all O o f
          have e : ∀ a b, mrel row a b = O a b := fun a b => by
            rw [Bool.eq_iff_iff, hh a b]
            refine ⟨fun h => h.1, fun h => ⟨h, dnp_iff.mpr (.inl ?_)⟩⟩
            have := o.lt a b h
            omega
          obtain ⟨t, ht⟩ := List.getElem?_of_mem hm
          refine ⟨row, al2 t row (List.getElem?_eq_some_iff.mp ht).1 ht fun i j k h1 h2 => ?_, e⟩
          rw [e] at h1 h2 ⊢
          exact o.tr i j k h1 h2
end
end WW

set_option Elab.async false
set_option linter.all false
set_option maxRecDepth 100000
set_option maxHeartbeats 4000000
/-! W19: _law_depth -/
namespace WW
open PySem PySem.Spec PyProof.Rows L2
section
variable {X : Cx}
def rMaxN : List V → Hp → VK → Prop := fun vs H Q => ∃ (a : Addr) (l : List Nat), vs = [V.ref a] ∧ H a = some (.lst (nums l)) ∧ 0 < l.length ∧ ∀ m : Nat, m ∈ l → (∀ y, y ∈ l → y ≤ m) → Q (.int (m : Int)) H
def rMinN : List V → Hp → VK → Prop := fun vs H Q => ∃ (a : Addr) (l : List Nat), vs = [V.ref a] ∧ H a = some (.lst (nums l)) ∧ 0 < l.length ∧ ∀ m : Nat, m ∈ l → (∀ y, y ∈ l → m ≤ y) → Q (.int (m : Int)) H
theorem c_maxN (hc : X.calm = true) : CallR X (.builtin "max") rMaxN := CallR.of (cr_max hc) fun xs H Q ⟨p, l, e, h, h0, q⟩ => ⟨p, _, e, SqL.of (by rw [h, nums_int]), by rw [List.length_map]; exact h0, fun m hm hy => by
  obtain ⟨k, hk, rfl⟩ := List.mem_map.mp hm
  exact q k hk fun y hy' => Int.ofNat_le.mp (hy _ (List.mem_map.mpr ⟨y, hy', rfl⟩))⟩
theorem c_minN (hc : X.calm = true) : CallR X (.builtin "min") rMinN := CallR.of (cr_min hc) fun xs H Q ⟨p, l, e, h, h0, q⟩ => ⟨p, _, e, SqL.of (by rw [h, nums_int]), by rw [List.length_map]; exact h0, fun m hm hy => by
  obtain ⟨k, hk, rfl⟩ := List.mem_map.mp hm
  exact q k hk fun y hy' => Int.ofNat_le.mp (hy _ (List.mem_map.mpr ⟨y, hy', rfl⟩))⟩
end
section
variable {P : Program} {w : World} {K : PySem.W.Frag} {mg : Str → Option Value} {base : Heap}
def spDepth : Sp := fun vs H Q _ => ∃ (p : Addr) (n : Nat) (O : Rel) (ms : List Nat), vs = [.ref p] ∧ H p = some (.lst (nums ms)) ∧ ms.length = n ∧ n ≤ 8 ∧ Ord n O ∧ (∀ i j, mrel ms i j = O i j) ∧
  ∀ H' (D : Nat), Same H H' → Dep n O D → Q (.int (D : Int)) H'
theorem scDepth : FnScope ["_law_row", "_law_steps", "_law_lap", "_law_i", "_law_j", "_law_k"] ["_law_row"] (defScope (topS 58)) := ⟨rfl, rfl, rfl, by decide +kernel, rfl, by decide +kernel, by decide +kernel⟩
theorem cal_depth (D : Dfn K mg "_law_depth" (topS 58) ["_law_row"]) (B : Blt mg) (c1 : Cal P w K mg base "_law_bits" 1 ["_law_mask"] spBits) : Cal P w K mg base "_law_depth" 2 ["_law_row"] spDepth := by
  refine D.cal scDepth (fun vs H Q E h => ?_) (fun f cdv A outer s H vs Q E hr h => ?_)
  · obtain ⟨p, n, O, ms, rfl, _⟩ := h
    rfl
  · obtain ⟨p, n, O, ms, rfl, hp, hlen, hn8, o, hO, q⟩ := h
    refine ⟨_, pss_cons (ps_set (i := 1) scDepth.nd rfl (Or.inr rfl) (pe_lc (own := [("_law_k", 5)]) (g := gName 5) rfl scDepth.nd (pi_list (pv 0)) (blkOk_by (own := [("_law_k", 5)]) (N := ["_law_row", "_law_steps", "_law_lap", "_law_i", "_law_j", "_law_k"]) (sc := defScope (topS 58)) (by decide +kernel))
        (fun _ _ _ _ _ => pg_name (i := 5) scDepth.nd rfl (Or.inl rfl)) (fun _ _ _ _ _ => pts_nil) (fun _ _ _ _ _ => pe_int)))
      (pss_cons (ps_for PassesOwn.never rfl (pi_list (pv 0)) (pg_name (i := 2) scDepth.nd rfl (Or.inl rfl))
        (pss_one (ps_for PassesOwn.never rfl (up1_run rfl B.range (pa_cons (pe_callB c_len (by rfl) B.len PySem.boot_len (pa_cons (pv 0) pa_nil)) pa_nil)) (pg_name (i := 3) scDepth.nd rfl (Or.inl rfl))
          (pss_one (ps_asg (pe_callB (c_maxN rfl) (by rfl) B.max (by decide +kernel) (pa_cons (pe_op op_cat (pe_lst (pa_cons pe_int pa_nil))
            (pe_lc (own := [("_law_j", 4)]) (g := gName 4) rfl scDepth.nd (pi_list (pe_cal c1 hr (by decide) (pa_cons (pe_ix ixl (pv 0) (pv 3) (fun _ _ => rfl)) pa_nil))) (blkOk_by (own := [("_law_j", 4)]) (N := ["_law_row", "_law_steps", "_law_lap", "_law_i", "_law_j", "_law_k"]) (sc := defScope (topS 58)) (by decide +kernel))
              (fun _ _ _ _ _ => pg_name (i := 4) scDepth.nd rfl (Or.inl rfl)) (fun _ _ _ _ _ => pts_nil) (fun _ _ _ _ _ => pe_op n_add (pe_ix ixl (pv 1) (pv 4) (fun _ _ => rfl)) pe_int))) pa_nil)) (pg_sub (pv 1) (pv 3) setl))))))
      (pss_one (ps_ret (pe_callB (c_maxN rfl) (by rfl) B.max (by decide +kernel) (pa_cons (pe_op op_cat (pe_lst (pa_cons pe_int pa_nil)) (pv 1)) pa_nil))))), ?_⟩
    have hms : (nums ms).length = n := by rw [nums_len, hlen]
    have row : ∀ i, i < n → ∀ j, j ∈ bits (ms.getD i 0) ↔ O i j = true := fun i hi j => by
      rw [mem_bits, ← hO i j]
      · rfl
      · refine Nat.lt_of_lt_of_le (mask_lt (n := n) fun i j h => ?_) (Nat.pow_le_pow_right (by decide) hn8)
        rw [hO] at h
        exact (o.lt i j h).2
    refine ⟨_, rfl, p, rfl, ⟨_, SqL.of hp⟩, fun S hS => lc_list (K := K) (a := p) (xs := nums ms) (fun i H' => Same H H' ∧ H' S = some (.lst (nums (List.replicate i 0)))) ⟨same_new hS, upd_same⟩ (fun i H' _ ⟨sm, _⟩ => SqL.of (sm _ _ hp)) ?_ ?_⟩
    · rintro i x H' hx ⟨sm, hl⟩
      have hi : i < n := by
        rw [← hms]
        exact (List.getElem?_eq_some_iff.mp hx).1
      refine ⟨rfl, yesT ⟨_, hl, ?_, same_mut sm hS, ?_⟩⟩
      · rw [nums_len, List.length_replicate]
        exact sz8 (by omega)
      · rw [upd_same, show (V.int 0) = V.int ((0 : Nat) : Int) from rfl, nums_app, ← List.replicate_succ']
    rintro H1 ⟨sm1, hl1⟩
    rw [hms] at hl1
    refine ⟨_, rfl, p, rfl, ⟨_, SqL.of (sm1 _ _ hp)⟩, for_list (K := K) (a := p) (xs := nums ms) (fun L σ H' => ∃ (v2 v3 : Option V) (ss : List Nat), σ = [some (.ref p), some (.ref S), v2, v3, none, none] ∧ Same H H' ∧ H' S = some (.lst (nums ss)) ∧ ss.length = n ∧ Lap n O L 0 (fun i => ss.getD i 0))
      ⟨none, none, List.replicate n 0, rfl, sm1, hl1, List.length_replicate, ?_⟩ (fun i σ H' _ ⟨_, _, _, _, sm, _⟩ => SqL.of (sm _ _ hp)) ?_ ?_⟩
    · have : (fun i => (List.replicate n 0).getD i 0) = fun _ => 0 := funext fun i => by
        rw [List.getD_eq_getElem?_getD, List.getElem?_replicate]
        split <;> rfl
      rw [this]
      exact lap_start
    · rintro L x σ H2 hx ⟨v2, v3, ss, rfl, sm2, hS2, sl, lp⟩
      refine ⟨_, rfl, p, _, n, rfl, .inl (sm2 _ _ hp), hms, n, rfl, by omega, for_up0 (n := n) (fun i σ H' => ∃ (v3 : Option V) (ss : List Nat), σ = [some (.ref p), some (.ref S), some x, v3, none, none] ∧ Same H H' ∧ H' S = some (.lst (nums ss)) ∧ ss.length = n ∧ Lap n O L i (fun i => ss.getD i 0))
        ⟨v3, ss, rfl, sm2, hS2, sl, lp⟩ ?_ ?_⟩
      · rintro i σ H3 hi ⟨v3, ss, rfl, sm3, hS3, sl, lp⟩
        refine ⟨by show 1 ≤ sizeLine; decide, fun A1 h1 => ?_⟩
        have s34 : Same H3 (upd H3 A1 (.lst [.int 0])) := same_new h1
        have gi : ms[i]? = some (ms.getD i 0) := getD_get (by omega)
        refine ⟨_, rfl, _, rfl, p, _, i, _, rfl, rfl, s34 _ _ (sm3 _ _ hp), nums_get gi, ms.getD i 0, rfl, fun H5 b5 s45 f5 h5 => ?_⟩
        have s35 := s34.trans s45
        refine ⟨b5, rfl, ⟨_, SqL.of h5⟩, fun d hd => lc_list (K := K) (a := b5) (xs := nums (bits (ms.getD i 0))) (fun t H' => Same H5 H' ∧ H' d = some (.lst (nums (((bits (ms.getD i 0)).take t).map fun j => ss.getD j 0 + 1)))) ⟨same_new hd, upd_same⟩ (fun t H' _ ⟨sm, _⟩ => SqL.of (sm _ _ h5)) ?_ ?_⟩
        · rintro t x H6 hx ⟨sm6, hl6⟩
          obtain ⟨j, hj, rfl⟩ := nums_of hx
          have hij := (row i hi j).mp (List.mem_of_getElem? hj)
          have hjn := (o.lt i j hij).2
          refine ⟨rfl, yesT ?_⟩
          refine ⟨_, rfl, _, rfl, S, _, j, _, rfl, rfl, sm6 _ _ (s35 _ _ hS3), nums_get (getD_get (by omega)), ss.getD j 0, 1, rfl, rfl, _, hl6, ?_, same_mut sm6 hd, ?_⟩
          · rw [nums_len, List.length_map, List.length_take]
            have := bits_len (ms.getD i 0)
            exact sz8 (by omega)
          · dsimp only
            rw [upd_same, nums_app, List.take_add_one, hj, List.map_append]
            rfl
        · rintro H6 ⟨sm6, hl6⟩
          rw [nums_len, List.take_length] at hl6
          refine ⟨A1, d, _, _, rfl, rfl, sm6 _ _ (s45 _ _ upd_same), hl6, ?_, fun C hC => ?_⟩
          · rw [nums_len, List.length_map]
            have := bits_len (ms.getD i 0)
            have e : [V.int 0].length = 1 := rfl
            rw [e]
            exact sz8' (by omega)
          have s67 : Same H6 (upd H6 C (.lst ([.int 0] ++ nums ((bits (ms.getD i 0)).map fun j => ss.getD j 0 + 1)))) := same_new hC
          have s37 := (s35.trans sm6).trans s67
          refine ⟨C, 0 :: (bits (ms.getD i 0)).map (fun j => ss.getD j 0 + 1), rfl, upd_same, Nat.succ_pos _, fun v hv hmax => ?_⟩
          have isf : IsF O (fun i => ss.getD i 0) i v := by
            refine ⟨?_, fun j hj => ?_⟩
            · rcases List.mem_cons.mp hv with e | e
              · exact .inl e
              · obtain ⟨j, hj, e⟩ := List.mem_map.mp e
                exact .inr ⟨j, (row i hi j).mp hj, e.symm⟩
            · exact hmax _ (List.mem_cons_of_mem _ (List.mem_map.mpr ⟨j, (row i hi j).mpr hj, rfl⟩))
          refine ⟨_, rfl, _, rfl, S, _, i, rfl, rfl, s37 _ _ hS3, by rw [nums_len]; omega, ?_⟩
          rw [nums_set]
          refine ⟨_, ss.set i v, rfl, same_mut (sm3.trans s37) hS, upd_same, by rw [List.length_set]; exact sl, ?_⟩
          have := lap_step o lp hi isf
          have e : put (fun i => ss.getD i 0) i v = fun j => (ss.set i v).getD j 0 := funext fun j => by
            rw [getD_set (by omega)]
            rfl
          rw [e] at this
          exact this
      · rintro σ H3 ⟨v3, ss, rfl, sm3, hS3, sl, lp⟩
        exact ⟨_, _, ss, rfl, sm3, hS3, sl, lap_next lp⟩
    · rintro σ H2 ⟨v2, v3, ss, rfl, sm2, hS2, sl, lp⟩
      rw [hms] at lp
      refine ⟨by show 1 ≤ sizeLine; decide, fun A1 h1 => ?_⟩
      have s23 : Same H2 (upd H2 A1 (.lst [.int 0])) := same_new h1
      refine ⟨_, rfl, A1, S, _, _, rfl, rfl, upd_same, s23 _ _ hS2, ?_, fun C hC => ?_⟩
      · rw [nums_len, sl]
        have e : [V.int 0].length = 1 := rfl
        rw [e]
        exact sz8' (by omega)
      refine ⟨C, 0 :: ss, rfl, upd_same, Nat.succ_pos _, fun v hv hmax => q _ v ((sm2.trans s23).trans (same_new hC)) (lap_end o lp (fun i hi => hmax _ (List.mem_cons_of_mem _ ?_)) ?_)⟩
      · exact List.mem_of_getElem? (getD_get (by omega))
      · rcases List.mem_cons.mp hv with e | e
        · exact .inl e
        · obtain ⟨i, hi⟩ := List.getElem?_of_mem e
          have hil := (List.getElem?_eq_some_iff.mp hi).1
          refine .inr ⟨i, by omega, ?_⟩
          show v = ss.getD i 0
          rw [List.getD_eq_getElem?_getD, hi]
          rfl
end
end WW

set_option Elab.async false
set_option linter.all false
set_option maxRecDepth 100000
set_option maxHeartbeats 4000000
/-! W20: _law_is_board -/
namespace WW
open PySem PySem.Spec PyProof.Rows L2
theorem wt_lt {n : Nat} {r : Nat → Nat} {O : Rel} (F : Fit n r O) {i : Nat} (hi : i < n) : wt n r O i < whl n r := by
  have h1 := F.span_wt i
  have h2 := F.span_eq hi
  have h3 : 0 < pr r (O i) n := pr_pos F.pos
  have h4 := F.ge2 i hi
  have h5 : 2 ≤ span n r O i := by
    rw [h2]
    exact Nat.le_trans h4 (Nat.le_mul_of_pos_right _ h3)
  have h6 : 0 < wt n r O i := by
    rw [F.wt_eq]
    exact pr_pos F.pos
  rw [← h1]
  calc wt n r O i < 2 * wt n r O i := by omega
    _ ≤ span n r O i * wt n r O i := Nat.mul_le_mul_right _ h5
section
variable {P : Program} {w : World} {K : PySem.W.Frag} {mg : Str → Option Value} {base : Heap}
def spIsBoard : Sp := fun vs H Q _ => ∃ (a p : Addr) (rs : List Nat) (L : List (Nat × Nat)), vs = [.ref a, .ref p] ∧ H a = some (.tup (nums rs)) ∧ Rgs rs ∧ BoardAt H p (whole rs) L ∧ L.length = rs.length ∧ (∀ i, i < rs.length → ∃ v, L[i]? = some (rr rs i, v) ∧ v < whole rs) ∧ Q (.bl true) H
theorem scIsBoard : FnScope ["_law_ranges", "_law_told", "_law_wheel", "_law_made", "_law_k", "_law_dial"] ["_law_ranges", "_law_told"] (defScope (topS 59)) := ⟨rfl, rfl, rfl, by decide +kernel, rfl, by decide +kernel, by decide +kernel⟩
theorem cal_is_board (D : Dfn K mg "_law_is_board" (topS 59) ["_law_ranges", "_law_told"]) (B : Blt mg) (c1 : Cal P w K mg base "_law_same" 1 ["_law_actual", "_law_due"] spSame) : Cal P w K mg base "_law_is_board" 2 ["_law_ranges", "_law_told"] spIsBoard := by
  refine D.cal scIsBoard (fun vs H Q E h => ?_) (fun f cdv A outer s H vs Q E hr h => ?_)
  · obtain ⟨a, p, rs, L, rfl, _⟩ := h
    rfl
  · obtain ⟨a, p, rs, L, rfl, ha, g, hB, hL, hat, q⟩ := h
    refine ⟨_, pss_cons (ps_set (i := 2) scIsBoard.nd rfl (Or.inl rfl) pe_int)
      (pss_cons (ps_for PassesOwn.never rfl (pi_tup (pv 0)) (pg_name (i := 3) scIsBoard.nd rfl (Or.inl rfl))
        (pss_one (ps_set (i := 2) scIsBoard.nd rfl (Or.inl rfl) (pe_op n_mul (pv 2) (pv 3)))))
      (pss_cons (ps_if (PW.pt (pw_or (pt_not (pt_val (pe_callB call_isi (by rfl) B.isinstance (by decide +kernel) (pa_cons (pv 1) (pa_cons (pe_bltn (v := .ty "tuple") (by rfl) B.tuple (by decide +kernel) rfl) pa_nil)))))
        (pw_or (pt_cmpR n_ne (pe_callB c_len (by rfl) B.len PySem.boot_len (pa_cons (pv 1) pa_nil)) pe_int (nomark _)) (pw_or1 (pt_not (pt_val (pe_cal c1 hr (by decide) (pa_cons (pe_ix ixt (pv 1) pe_int (fun _ _ => rfl)) (pa_cons (pv 2) pa_nil))))))))) (pss_one (ps_ret pe_bl)) pss_nil)
      (pss_cons (ps_if (PW.pt (pw_or (pt_not (pt_val (pe_callB call_isi (by rfl) B.isinstance (by decide +kernel) (pa_cons (pe_ix ixt (pv 1) pe_int (fun _ _ => rfl)) (pa_cons (pe_bltn (v := .ty "tuple") (by rfl) B.tuple (by decide +kernel) rfl) pa_nil)))))
        (pw_or1 (pt_cmpR n_ne (pe_callB c_len (by rfl) B.len PySem.boot_len (pa_cons (pe_ix ixt (pv 1) pe_int (fun _ _ => rfl)) pa_nil)) (pe_callB c_len (by rfl) B.len PySem.boot_len (pa_cons (pv 0) pa_nil)) (nomark _))))) (pss_one (ps_ret pe_bl)) pss_nil)
      (pss_cons (ps_for PassesOwn.never rfl (up1_run rfl B.range (pa_cons (pe_callB c_len (by rfl) B.len PySem.boot_len (pa_cons (pv 0) pa_nil)) pa_nil)) (pg_name (i := 4) scIsBoard.nd rfl (Or.inl rfl))
        (pss_cons (ps_set (i := 5) scIsBoard.nd rfl (Or.inl rfl) (pe_ix ixt (pe_ix ixt (pv 1) pe_int (fun _ _ => rfl)) (pv 4) (fun _ _ => rfl)))
        (pss_cons (ps_if (PW.pt (pw_or (pt_not (pt_val (pe_callB call_isi (by rfl) B.isinstance (by decide +kernel) (pa_cons (pv 5) (pa_cons (pe_bltn (v := .ty "tuple") (by rfl) B.tuple (by decide +kernel) rfl) pa_nil)))))
          (pw_or (pt_cmpR n_ne (pe_callB c_len (by rfl) B.len PySem.boot_len (pa_cons (pv 5) pa_nil)) pe_int (nomark _)) (pw_or1 (pt_not (pt_val (pe_cal c1 hr (by decide) (pa_cons (pe_ix ixt (pv 5) pe_int (fun _ _ => rfl)) (pa_cons (pe_ix ixt (pv 0) (pv 4) (fun _ _ => rfl)) pa_nil))))))))) (pss_one (ps_ret pe_bl)) pss_nil)
        (pss_one (ps_if (PW.pt (pw_or (pt_not (pt_val (pe_callB call_isi (by rfl) B.isinstance (by decide +kernel) (pa_cons (pe_ix ixt (pv 5) pe_int (fun _ _ => rfl)) (pa_cons (pe_bltn (v := .ty "int") (by rfl) B.int (by decide +kernel) rfl) pa_nil)))))
          (pw_or (pt_val (pe_callB call_isi (by rfl) B.isinstance (by decide +kernel) (pa_cons (pe_ix ixt (pv 5) pe_int (fun _ _ => rfl)) (pa_cons (pe_bltn (v := .ty "bool") (by rfl) B.bool (by decide +kernel) rfl) pa_nil))))
          (pw_or (pt_cmpR n_lt (pe_ix ixt (pv 5) pe_int (fun _ _ => rfl)) pe_int (nomark _)) (pw_or1 (pt_cmpR n_ge (pe_ix ixt (pv 5) pe_int (fun _ _ => rfl)) (pv 2) (nomark _))))))) (pss_one (ps_ret pe_bl)) pss_nil)))))
      (pss_one (ps_ret pe_bl)))))), ?_⟩
    obtain ⟨d, hp, hPd⟩ := hB.ex
    obtain ⟨as, hd, has, hels⟩ := hPd.ex
    have hn8 := g.len
    refine ⟨_, rfl, a, rfl, ⟨_, SqT.of ha⟩, for_tup (K := K) (a := a) (xs := nums rs) (fun i σ H' => ∃ v, σ = [some (.ref a), some (.ref p), some (.int ((pre rs i : Nat) : Int)), v, none, none] ∧ H' = H) ⟨none, rfl, rfl⟩ (fun i σ H' _ ⟨_, _, e⟩ => e ▸ SqT.of ha) ?_ ?_⟩
    · rintro i x σ H' hx ⟨v, rfl, rfl⟩
      obtain ⟨n, hn, rfl⟩ := nums_of hx
      have hi : i < rs.length := (List.getElem?_eq_some_iff.mp hn).1
      refine ⟨_, rfl, _, rfl, pre rs i, n, rfl, rfl, ⟨g.pr_lt (by omega), by rw [← rr_get hn]; exact g.el_lt⟩, some (.int (n : Int)), ?_, rfl⟩
      rw [pre_succ, rr_get hn]
      rfl
    rintro σ H' ⟨v, rfl, rfl⟩
    rw [nums_len]
    have eW : pre rs rs.length = whole rs := rfl
    rw [eW]
    refine ⟨_, rfl, _, _, _, _, true, rfl, .ty _, .base (.tup hp), kit_ty (by decide +kernel), true, rfl, iteF ?_⟩
    refine ⟨_, rfl, p, _, 2, rfl, .inr hp, rfl, 2, 2, rfl, rfl, false, rfl, iteF ?_⟩
    refine ⟨_, rfl, p, _, 0, _, rfl, rfl, hp, rfl, _, rfl, whole rs, whole rs, rfl, true, congrArg V.bl (decide_eq_true rfl), iteF ?_⟩
    refine ⟨_, rfl, p, _, 1, _, rfl, rfl, hp, rfl, _, _, _, _, true, rfl, .ty _, .base (.tup hd), kit_ty (by decide +kernel), true, rfl, iteF ?_⟩
    refine ⟨_, rfl, p, _, 1, _, rfl, rfl, hp, rfl, d, _, rs.length, rfl, .inr hd, by rw [List.length_map, has, hL], _, rfl, a, _, rs.length, rfl, .inr ha, nums_len _, rs.length, rs.length, rfl, rfl, false, ?_, iteF ?_⟩
    · show V.bl (!decide (rs.length = rs.length)) = _
      rw [decide_eq_true rfl]
      rfl
    refine ⟨_, rfl, a, _, rs.length, rfl, .inr ha, nums_len _, rs.length, rfl, by omega, for_up0 (n := rs.length) (fun i σ H2 => ∃ v4 v5, σ = [some (.ref a), some (.ref p), some (.int ((whole rs : Nat) : Int)), v, v4, v5] ∧ H2 = H') ⟨none, none, rfl, rfl⟩ ?_ ?_⟩
    · rintro i σ H2 hi ⟨v4, v5, rfl, rfl⟩
      obtain ⟨x, hx, hxw⟩ := hat i hi
      obtain ⟨b, hb⟩ : ∃ b, as[i]? = some b := ⟨_, List.getElem?_eq_getElem (by omega)⟩
      have hbt := hels i b _ hb hx
      refine ⟨_, rfl, p, _, 1, _, rfl, rfl, hp, rfl, _, rfl, d, _, i, _, rfl, rfl, hd, refs_get hb, ?_⟩
      refine ⟨_, rfl, _, _, _, _, true, rfl, .ty _, .base (.tup hbt), kit_ty (by decide +kernel), true, rfl, iteF ?_⟩
      refine ⟨_, rfl, b, _, 2, rfl, .inr hbt, rfl, 2, 2, rfl, rfl, false, rfl, iteF ?_⟩
      refine ⟨_, rfl, b, _, 0, _, rfl, rfl, hbt, rfl, _, rfl, _, rfl, a, _, i, _, rfl, rfl, ha, nums_get (rr_at hi), rr rs i, rr rs i, rfl, true, congrArg V.bl (decide_eq_true rfl), iteF ?_⟩
      refine ⟨_, rfl, b, _, 1, _, rfl, rfl, hbt, rfl, _, _, _, _, true, rfl, .ty _, .base (.int _), kit_ty (by decide +kernel), true, rfl, iteF ?_⟩
      refine ⟨_, rfl, b, _, 1, _, rfl, rfl, hbt, rfl, _, _, _, _, false, rfl, .ty _, .base (.int _), kit_ty (by decide +kernel), false, rfl, iteF ?_⟩
      refine ⟨_, rfl, b, _, 1, _, rfl, rfl, hbt, rfl, x, 0, rfl, rfl, false, congrArg V.bl (decide_eq_false (by omega)), iteF ?_⟩
      refine ⟨_, rfl, b, _, 1, _, rfl, rfl, hbt, rfl, _, rfl, x, whole rs, rfl, rfl, false, congrArg V.bl (decide_eq_false (by omega)), iteF ?_⟩
      exact ⟨_, _, rfl, rfl⟩
    · rintro σ H2 ⟨v4, v5, rfl, rfl⟩
      exact q
end
end WW

set_option Elab.async false
set_option linter.all false
set_option maxRecDepth 100000
set_option maxHeartbeats 4000000
/-! W21: all settings, their places -/
namespace WW
open PySem PySem.Spec PyProof.Rows L2
def stt (r : Nat → Nat) : Nat → List (List Nat)
  | 0 => [[]]
  | i + 1 => (List.range ((stt r i).length * r i)).map fun k => (stt r i).getD (k / r i) [] ++ [k % r i]
theorem stt_len (r : Nat → Nat) : ∀ i, (stt r i).length = pr r (fun _ => true) i
  | 0 => rfl
  | i + 1 => by
    show ((List.range ((stt r i).length * r i)).map _).length = pr r (fun _ => true) i * (if true = true then r i else 1)
    rw [List.length_map, List.length_range, stt_len r i, if_pos rfl]
theorem stt_get {r : Nat → Nat} {i k : Nat} (h : k < (stt r i).length * r i) : (stt r (i + 1))[k]? = some ((stt r i).getD (k / r i) [] ++ [k % r i]) := by
  show ((List.range ((stt r i).length * r i)).map _)[k]? = _
  rw [List.getElem?_map, List.getElem?_range h]
  rfl
theorem getD_mem {l : List (List Nat)} {k : Nat} (h : k < l.length) : l.getD k [] ∈ l := by
  rw [List.getD_eq_getElem?_getD, List.getElem?_eq_getElem h]
  exact List.getElem_mem h
theorem div_in {k a m : Nat} (h : k < a * m) : k / m < a := Nat.div_lt_of_lt_mul (by rw [Nat.mul_comm]; exact h)
theorem stt_el {r : Nat → Nat} : ∀ {i : Nat}, (∀ j, j < i → 0 < r j) → ∀ s ∈ stt r i, s.length = i ∧ ∀ j, j < i → s.getD j 0 < r j
  | 0, _, s, hs => by
    rw [List.mem_singleton.mp hs]
    exact ⟨rfl, fun j hj => by omega⟩
  | i + 1, hp, s, hs => by
    have ih := stt_el (i := i) fun j hj => hp j (by omega)
    obtain ⟨k, hk, rfl⟩ := List.mem_map.mp hs
    have hk := List.mem_range.mp hk
    have h1 := ih _ (getD_mem (div_in hk))
    refine ⟨by rw [List.length_append, h1.1]; rfl, fun j hj => ?_⟩
    rw [List.getD_eq_getElem?_getD]
    by_cases e : j = i
    · subst e
      rw [List.getElem?_append_right (by omega), h1.1, Nat.sub_self]
      exact Nat.mod_lt _ (hp j (by omega))
    · rw [List.getElem?_append_left (by omega), ← List.getD_eq_getElem?_getD]
      exact h1.2 j (by omega)
theorem stt_nd {r : Nat → Nat} : ∀ {i : Nat}, (stt r i).Nodup
  | 0 => by
    show [[]].Nodup
    exact List.nodup_cons.mpr ⟨by simp, List.nodup_nil⟩
  | i + 1 => by
    have ih := stt_nd (r := r) (i := i)
    refine List.pairwise_iff_getElem.mpr fun a b ha hb hab e => ?_
    have la : (stt r (i + 1)).length = (stt r i).length * r i := by
      show ((List.range _).map _).length = _
      rw [List.length_map, List.length_range]
    rw [la] at ha hb
    have ea := stt_get (r := r) (i := i) ha
    have eb := stt_get (r := r) (i := i) hb
    rw [List.getElem?_eq_getElem (by omega)] at ea eb
    rw [Option.some.inj ea, Option.some.inj eb] at e
    have h := List.append_inj' e rfl
    have hm : a % r i = b % r i := by
      have := h.2
      simpa using this
    have hd : a / r i = b / r i := by
      have ra := div_in ha
      have rb := div_in hb
      have e2 := h.1
      rw [List.getD_eq_getElem?_getD, List.getD_eq_getElem?_getD, List.getElem?_eq_getElem ra, List.getElem?_eq_getElem rb] at e2
      rcases Nat.lt_trichotomy (a / r i) (b / r i) with q | q | q
      · exact (List.pairwise_iff_getElem.mp ih _ _ ra rb q e2).elim
      · exact q
      · exact (List.pairwise_iff_getElem.mp ih _ _ rb ra q e2.symm).elim
    have h1 := Nat.div_add_mod a (r i)
    have h2 := Nat.div_add_mod b (r i)
    rw [hm, hd] at h1
    omega
/-- the place of a setting -/
def plc (n : Nat) (r : Nat → Nat) (O : Rel) (s : List Nat) : Nat := pl (fun j => s.getD j 0) (wt n r O) n % whl n r
def plcs (n : Nat) (r : Nat → Nat) (O : Rel) : List Nat := (stt r n).map (plc n r O)
theorem plcs_nd {n : Nat} {r : Nat → Nat} {O : Rel} (F : Fit n r O) : (plcs n r O).Nodup := by
  refine List.pairwise_map.mpr (List.Pairwise.imp_of_mem (fun {a b} ha hb hne e => hne ?_) stt_nd)
  have a1 := stt_el F.pos a ha
  have b1 := stt_el F.pos b hb
  have h := place_inj F a1.2 b1.2 e
  refine List.ext_getElem? fun j => ?_
  by_cases hj : j < n
  · have := h j hj
    rw [getD_get (d := 0) (by rw [a1.1]; exact hj), getD_get (d := 0) (by rw [b1.1]; exact hj), this]
  · rw [List.getElem?_eq_none (by omega), List.getElem?_eq_none (by omega)]
theorem plcs_len {n : Nat} {r : Nat → Nat} {O : Rel} : (plcs n r O).length = whl n r := by
  unfold plcs
  rw [List.length_map, stt_len]
  rfl
theorem plcs_all {n : Nat} {r : Nat → Nat} {O : Rel} (F : Fit n r O) {x : Nat} (hx : x < whl n r) : ∃ (k : Nat) (s : List Nat), (stt r n)[k]? = some s ∧ (plcs n r O)[k]? = some x ∧ plc n r O s = x ∧ s.length = n ∧ ∀ j, j < n → s.getD j 0 < r j := by
  have hm : x ∈ plcs n r O := pigeon (plcs_nd F) (fun a ha => by
    obtain ⟨s, _, rfl⟩ := List.mem_map.mp ha
    exact Nat.mod_lt _ (whl_pos F)) plcs_len hx
  obtain ⟨k, hk⟩ := List.getElem?_of_mem hm
  have hk2 := hk
  unfold plcs at hk2
  rw [List.getElem?_map] at hk2
  cases e : (stt r n)[k]? with
  | none => rw [e] at hk2; cases hk2
  | some s =>
    rw [e] at hk2
    have h1 := stt_el F.pos s (List.mem_of_getElem? e)
    exact ⟨k, s, e, hk, Option.some.inj hk2, h1.1, h1.2⟩
/-- the sum over a range -/
theorem sum_pl (c w : Nat → Nat) : ∀ n, ((List.range n).map fun k => c k * w k).sum = pl c w n
  | 0 => rfl
  | n + 1 => by
    rw [List.range_succ, List.map_append, List.sum_append, sum_pl c w n]
    show pl c w n + (c n * w n + 0) = pl c w n + c n * w n
    rfl
/-! ### dicts of places -/
def dpa (l : List (Nat × Addr)) : List (Key × V) := l.map fun x => ((Sum.inl (x.1 : Int) : Key), V.ref x.2)
theorem dpa_any (l : List (Nat × Addr)) (p : Nat) : ((dpa l).any fun kv => decide (kv.1 = (Sum.inl (p : Int) : Key))) = decide (p ∈ l.map (·.1)) := by
  unfold dpa
  rw [List.any_map, Bool.eq_iff_iff, List.any_eq_true, decide_eq_true_iff, List.mem_map]
  constructor
  · rintro ⟨x, hx, e⟩
    have e : ((Sum.inl (x.1 : Int) : Key) = Sum.inl (p : Int)) := of_decide_eq_true e
    exact ⟨x, hx, key_cast.mp e⟩
  · rintro ⟨x, hx, rfl⟩
    exact ⟨x, hx, decide_eq_true rfl⟩
theorem dpa_put {l : List (Nat × Addr)} {p : Nat} {a : Addr} (h : p ∉ l.map (·.1)) : putK (dpa l) (Sum.inl (p : Int) : Key) (.ref a) = dpa (l ++ [(p, a)]) := by
  unfold putK
  rw [dpa_any, decide_eq_false h]
  unfold dpa
  rw [List.map_append]
  rfl
theorem dpa_val : ∀ {l : List (Nat × Addr)} {p : Nat} {a : Addr}, (l.map (·.1)).Nodup → (p, a) ∈ l → valV (dpa l) (Sum.inl (p : Int) : Key) = some (.ref a)
  | [], _, _, _, h => by cases h
  | x :: r, p, a, nd, h => by
    have nd' := List.nodup_cons.mp nd
    show valV (((Sum.inl (x.1 : Int) : Key), V.ref x.2) :: dpa r) _ = _
    rcases List.mem_cons.mp h with e | e
    · rw [← e]
      exact valV_pos rfl
    · rw [valV_neg, dpa_val nd'.2 e]
      intro q
      have q : x.1 = p := key_cast.mp q
      refine nd'.1 ?_
      show x.1 ∈ r.map (·.1)
      rw [q]
      exact List.mem_map.mpr ⟨_, e, rfl⟩
end WW

set_option Elab.async false
set_option linter.all false
set_option maxRecDepth 100000
set_option maxHeartbeats 4000000
/-! W22: _law_listed -/
namespace WW
open PySem PySem.Spec PyProof.Rows L2
section
variable {X : Cx}
/-- tuple + tuple of one entry -/
def rCat1 : R2 := fun x y H Q => ∃ (a b : Addr) (xs : List V) (z : V), x = .ref a ∧ y = .ref b ∧ H a = some (.tup xs) ∧ H b = some (.tup [z]) ∧ xs.length + 1 ≤ sizeLine ∧ ∀ (p : Addr) (H' : Hp), Same H H' → H' p = some (.tup (xs ++ [z])) → (H p = none ∨ p = b) → Q (.ref p) H'
theorem op_cat1 : OpR X (binaryOp .Add) rCat1 := OpR.of op_catA fun x y H Q ⟨a, b, xs, z, e1, e2, h1, h2, hz, q⟩ => ⟨a, b, xs, [z], e1, e2, SqT.of h1, SqT.of h2, hz, (fun e => q b H (Same.refl H) (by rw [e]; exact h2) (.inr rfl)), (fun _ e => by cases e), fun _ _ p hp => q p _ (same_new hp) upd_same (.inl hp)⟩
end
theorem TupsAt.upd {H : Hp} {D : Addr} {o : HO} {as : List Addr} {rows : List (List Nat)} (h : TupsAt H as rows) (n : ∀ a ∈ as, a ≠ D) : TupsAt (L2.upd H D o) as rows := ⟨h.1, fun k a row hk hr => by rw [upd_ne (n a (List.mem_of_getElem? hk))]; exact h.2 k a row hk hr⟩
theorem TupsAt.snoc {H : Hp} {a : Addr} {row : List Nat} {as : List Addr} {rows : List (List Nat)} (h : TupsAt H as rows) (ha : H a = some (.tup (nums row))) : TupsAt H (as ++ [a]) (rows ++ [row]) := by
  refine ⟨by rw [List.length_append, List.length_append, h.1]; rfl, fun k a' row' hk hr => ?_⟩
  by_cases e : k < as.length
  · rw [List.getElem?_append_left e] at hk
    rw [List.getElem?_append_left (by rw [← h.1]; exact e)] at hr
    exact h.2 k a' row' hk hr
  · have e1 : k = as.length := by
      have := (List.getElem?_eq_some_iff.mp hk).1
      rw [List.length_append] at this
      have e : [a].length = 1 := rfl
      omega
    subst e1
    rw [List.getElem?_append_right (Nat.le_refl _), Nat.sub_self] at hk
    rw [h.1, List.getElem?_append_right (Nat.le_refl _), Nat.sub_self] at hr
    cases hk
    cases hr
    exact ha
theorem nd_take {α : Type} {f : α → Nat} {l : List α} {t : Nat} {x : α} (nd : (l.map f).Nodup) (h : l[t]? = some x) : f x ∉ (l.take t).map f := by
  intro hm
  obtain ⟨y, hy, e⟩ := List.mem_map.mp hm
  obtain ⟨k, hk⟩ := List.getElem?_of_mem hy
  have hkt : k < t := by
    have := (List.getElem?_eq_some_iff.mp hk).1
    rw [List.length_take] at this
    omega
  rw [List.getElem?_take_of_lt hkt] at hk
  obtain ⟨b1, e1⟩ := List.getElem?_eq_some_iff.mp hk
  obtain ⟨b2, e2⟩ := List.getElem?_eq_some_iff.mp h
  have := List.pairwise_iff_getElem.mp nd k t (by rw [List.length_map]; exact b1) (by rw [List.length_map]; exact b2) hkt
  rw [List.getElem_map, List.getElem_map, e1, e2] at this
  exact this e
theorem take_add {α : Type} {l : List α} {t : Nat} {x : α} (h : l[t]? = some x) : l.take (t + 1) = l.take t ++ [x] := by
  rw [List.take_add_one, h]
  rfl
theorem pre_le {rs : List Nat} (g : Rgs rs) {i : Nat} (hi : i ≤ rs.length) : pre rs i ≤ whole rs := by
  have key : ∀ k, i + k ≤ rs.length → pre rs i ≤ pre rs (i + k) := fun k => by
    induction k with
    | zero => exact fun _ => Nat.le_refl _
    | succ k ih =>
      intro h
      have h1 := ih (by omega)
      rw [← Nat.add_assoc, pre_succ]
      have h2 := g.ge2 (i + k) (by omega)
      exact Nat.le_trans h1 (Nat.le_mul_of_pos_right _ (by omega))
  have := key (rs.length - i) (by omega)
  rw [show i + (rs.length - i) = rs.length by omega] at this
  exact this
section
variable {P : Program} {w : World} {K : PySem.W.Frag} {mg : Str → Option Value} {base : Heap}
def spListed : Sp := fun vs H Q _ => ∃ (d : Addr) (rs : List Nat) (O : Rel) (L : List (Nat × Nat)), vs = [.int ((whole rs : Nat) : Int), .ref d] ∧ PairsAt H d L ∧ StB rs O L ∧ Fit rs.length (rr rs) O ∧ Rgs rs ∧ whole rs ≤ 120 ∧
  ∀ H' q ms, Same H H' → H' q = some (.lst (nums ms)) → ms.length = rs.length → (∀ i j, mrel ms i j = O i j) → Q (.ref q) H'
theorem scListed : FnScope ["_law_wheel", "_law_dials", "_law_size", "_law_settings", "_law_dial", "_law_at", "_law_setting", "_law_row", "_law_carry", "_law_lap", "_law_i", "_law_j", "_law_k"] ["_law_wheel", "_law_dials"] (defScope (topS 60)) := ⟨rfl, rfl, rfl, by decide +kernel, rfl, by decide +kernel, by decide +kernel⟩
theorem cal_listed (D : Dfn K mg "_law_listed" (topS 60) ["_law_wheel", "_law_dials"]) (B : Blt mg) (c1 : Cal P w K mg base "_law_bits" 1 ["_law_mask"] spBits) : Cal P w K mg base "_law_listed" 2 ["_law_wheel", "_law_dials"] spListed := by
  refine D.cal scListed (fun vs H Q E h => ?_) (fun f cdv A outer s H vs Q E hr h => ?_)
  · obtain ⟨d, rs, O, L, rfl, _⟩ := h
    rfl
  · obtain ⟨d, rs, O, L, rfl, hP, hS, F, g, h120, q⟩ := h
    have hu := hu_of hr
    refine ⟨_, pss_cons (ps_set (i := 2) scListed.nd rfl (Or.inl rfl) (pe_callB c_len (by rfl) B.len PySem.boot_len (pa_cons (pv 1) pa_nil)))
      (pss_cons (ps_set (i := 3) scListed.nd rfl (Or.inr rfl) (pe_lst (pa_cons (pe_tup pa_nil) pa_nil)))
      (pss_cons (ps_for PassesOwn.never rfl (pi_tup (pv 1)) (pg_name (i := 4) scListed.nd rfl (Or.inr rfl))
        (pss_one (ps_set (i := 3) scListed.nd rfl (Or.inr rfl) (pe_lc (own := [("_law_k", 12)]) (g := gName 12) rfl scListed.nd (up1_run rfl B.range (pa_cons (pe_op n_mul (pe_callB c_len (by rfl) B.len PySem.boot_len (pa_cons (pv 3) pa_nil)) (pe_ix ixt (pv 4) pe_int (fun _ _ => rfl))) pa_nil)) (blkOk_by (own := [("_law_k", 12)]) (N := ["_law_wheel", "_law_dials", "_law_size", "_law_settings", "_law_dial", "_law_at", "_law_setting", "_law_row", "_law_carry", "_law_lap", "_law_i", "_law_j", "_law_k"]) (sc := defScope (topS 60)) (by decide +kernel))
          (fun _ _ _ _ _ => pg_name (i := 12) scListed.nd rfl (Or.inl rfl)) (fun _ _ _ _ _ => pts_nil) (fun _ _ _ _ _ => pe_op op_cat1 (pe_ix ixl (pv 3) (pe_op n_div (pv 12) (pe_ix ixt (pv 4) pe_int (fun _ _ => rfl))) (fun _ _ => rfl)) (pe_tup (pa_cons (pe_op n_mod (pe_callTy (T := "int") c_intn (by rfl) B.int (by decide +kernel) (pa_cons (pv 12) pa_nil)) (pe_ix ixt (pv 4) pe_int (fun _ _ => rfl))) pa_nil)))))))
      (pss_cons (ps_set (i := 5) scListed.nd rfl (Or.inl rfl) pe_dnewK)
      (pss_cons (ps_for PassesOwn.never rfl (pi_list (pv 3)) (pg_name (i := 6) scListed.nd rfl (Or.inr rfl))
        (pss_one (ps_dput hu (pv 5) (pe_op x_mod (pe_callTy c_intn (by rfl) B.int (by decide +kernel) (pa_cons (pe_callB (c_sum rfl) (by rfl) B.sum (by decide +kernel) (pa_cons
          (pe_lc (own := [("_law_k", 12)]) (g := gName 12) rfl scListed.nd (up1_run rfl B.range (pa_cons (pv 2) pa_nil)) (blkOk_by (own := [("_law_k", 12)]) (N := ["_law_wheel", "_law_dials", "_law_size", "_law_settings", "_law_dial", "_law_at", "_law_setting", "_law_row", "_law_carry", "_law_lap", "_law_i", "_law_j", "_law_k"]) (sc := defScope (topS 60)) (by decide +kernel))
            (fun _ _ _ _ _ => pg_name (i := 12) scListed.nd rfl (Or.inl rfl)) (fun _ _ _ _ _ => pts_nil) (fun _ _ _ _ _ => pe_op n_mul (pe_ix ixt (pv 6) (pv 12) (fun _ _ => rfl)) (pe_ix ixt (pe_ix ixt (pv 1) (pv 12) (fun _ _ => rfl)) pe_int (fun _ _ => rfl)))) pa_nil)) pa_nil)) (pv 0)) (pv 6) rfl)))
      (pss_cons (ps_if (PW.pt (pw_or (pt_cmpR n_ne (pe_callB call_lenD (by rfl) B.len PySem.boot_len (pa_cons (pv 5) pa_nil)) (pv 0) (nomark _)) (pw_or1 (pt_cmpR n_ne (pe_callB c_len (by rfl) B.len PySem.boot_len (pa_cons (pv 3) pa_nil)) (pv 0) (nomark _))))) (pss_one (ps_ret pe_non)) pss_nil)
      (pss_cons (ps_set (i := 7) scListed.nd rfl (Or.inl rfl) (pe_lst pa_nil))
      (pss_cons (ps_for PassesOwn.never rfl (pi_tup (pv 1)) (pg_name (i := 4) scListed.nd rfl (Or.inr rfl))
        (pss_cons (ps_set (i := 8) scListed.nd rfl (Or.inr rfl) (pe_dget hu (pv 5) (pe_op x_mod (pe_callTy c_intn (by rfl) B.int (by decide +kernel) (pa_cons (pe_op n_mul (pe_ix ixt (pv 4) pe_int (fun _ _ => rfl)) (pe_ix ixt (pv 4) pe_int (fun _ _ => rfl))) pa_nil)) (pv 0)) (fun _ _ => rfl)))
        (pss_one (ps_expr (pe_bm PySem.F.plainAttrs_list PySem.F.slot_list_append PySem.F.type_list_append mt_append (pv 7) (pa_cons (pe_callB (c_sum rfl) (by rfl) B.sum (by decide +kernel) (pa_cons
          (pe_lc (own := [("_law_j", 11)]) (g := gName 11) rfl scListed.nd (up1_run rfl B.range (pa_cons (pv 2) pa_nil)) (blkOk_by (own := [("_law_j", 11)]) (N := ["_law_wheel", "_law_dials", "_law_size", "_law_settings", "_law_dial", "_law_at", "_law_setting", "_law_row", "_law_carry", "_law_lap", "_law_i", "_law_j", "_law_k"]) (sc := defScope (topS 60)) (by decide +kernel))
            (fun _ _ _ _ _ => pg_name (i := 11) scListed.nd rfl (Or.inl rfl)) (fun _ _ _ _ _ => pts_one (pt_cmpR n_gt (pe_ix ixt (pv 8) (pv 11) (fun _ _ => rfl)) pe_int (nomark _))) (fun _ _ _ _ _ => pe_op n_shl pe_int (pv 11))) pa_nil)) pa_nil))))))
      (pss_cons (ps_for PassesOwn.never rfl (up1_run rfl B.range (pa_cons (pv 2) pa_nil)) (pg_name (i := 9) scListed.nd rfl (Or.inl rfl))
        (pss_one (ps_for PassesOwn.never rfl (up1_run rfl B.range (pa_cons (pv 2) pa_nil)) (pg_name (i := 10) scListed.nd rfl (Or.inl rfl))
          (pss_one (ps_for PassesOwn.never rfl (pi_list (pe_cal c1 hr (by decide) (pa_cons (pe_ix ixl (pv 7) (pv 10) (fun _ _ => rfl)) pa_nil))) (pg_name (i := 11) scListed.nd rfl (Or.inl rfl))
            (pss_one (ps_asg (pe_op n_or (pe_ix ixl (pv 7) (pv 10) (fun _ _ => rfl)) (pe_ix ixl (pv 7) (pv 11) (fun _ _ => rfl))) (pg_sub (pv 7) (pv 10) setl))))))))
      (pss_one (ps_ret (pv 7))))))))))), ?_⟩
    obtain ⟨as, hd, has, hels⟩ := hP.ex
    have hn8 := g.len
    have hL := hS.len
    have hW : 0 < whole rs := whl_pos F
    have wb : ∀ i, wt rs.length (rr rs) O i ≤ 120 := fun i => Nat.le_trans (Nat.div_le_self _ _) h120
    have big : ∀ x, x ≤ 1000000 → x < 2 ^ 9000 := fun x hx => Nat.lt_of_le_of_lt hx (Nat.lt_of_lt_of_le (show 1000000 < 2 ^ 20 by decide) (Nat.pow_le_pow_right (by decide) (by decide)))
    have dial : ∀ i b, as[i]? = some b → i < rs.length ∧ H b = some (.tup [.int ((rr rs i : Nat) : Int), .int ((wt rs.length (rr rs) O i : Nat) : Int)]) := fun i b hb => by
      have hi : i < rs.length := by
        rw [← hL, ← has]
        exact (List.getElem?_eq_some_iff.mp hb).1
      exact ⟨hi, hels i b _ hb (hS.at_ i hi)⟩
    have dial2 : ∀ i, i < rs.length → ∃ b, as[i]? = some b := fun i hi => ⟨_, List.getElem?_eq_getElem (by omega)⟩
    have r120 : ∀ i, i < rs.length → rr rs i ≤ 120 := fun i hi => by
      have h1 := pre_le g (i := i + 1) hi
      rw [pre_succ] at h1
      have h2 : 0 < pre rs i := pr_pos fun j hj => by
        have := g.ge2 j (by omega)
        omega
      have h3 : rr rs i ≤ pre rs i * rr rs i := Nat.le_mul_of_pos_left _ h2
      omega
    have sl : ∀ i, i ≤ rs.length → (stt (rr rs) i).length ≤ 120 := fun i hi => by
      rw [stt_len]
      exact Nat.le_trans (pre_le g hi) h120
    refine ⟨_, rfl, d, _, rs.length, rfl, .inr hd, by rw [List.length_map, has, hL], ?_⟩
    refine ⟨Nat.zero_le _, fun e0 he0 => ⟨by show 1 ≤ sizeLine; decide, fun S0 hS0 => ?_⟩⟩
    have s0 : Same H (upd H e0 (.tup [])) := same_new he0
    have s01 : Same (upd H e0 (.tup [])) (upd (upd H e0 (.tup [])) S0 (.lst [.ref e0])) := same_new hS0
    refine ⟨_, rfl, d, rfl, ⟨_, SqT.of ((s0.trans s01) _ _ hd)⟩, for_tup (K := K) (a := d) (xs := as.map V.ref) (fun i σ H' => ∃ (v4 : Option V) (S : Addr) (bs : List Addr), σ = [some (.int ((whole rs : Nat) : Int)), some (.ref d), some (.int ((rs.length : Nat) : Int)), some (.ref S), v4, none, none, none, none, none, none, none, none] ∧ Same H H' ∧ H' S = some (.lst (bs.map V.ref)) ∧ TupsAt H' bs (stt (rr rs) i))
      ⟨none, S0, [e0], rfl, s0.trans s01, upd_same, ⟨rfl, fun k a row hk hr => ?_⟩⟩ (fun i σ H' _ ⟨_, _, _, _, sm, _⟩ => SqT.of (sm _ _ hd)) ?_ ?_⟩
    · have : k = 0 := by
        have := (List.getElem?_eq_some_iff.mp hk).1
        simpa using this
      subst this
      cases hk
      cases hr
      exact s01 _ _ upd_same
    · rintro i x σ H1 hx ⟨v4, S, bs, rfl, sm1, hS1, tu1⟩
      obtain ⟨b, hb, rfl⟩ := refs_of hx
      obtain ⟨hi, hbt⟩ := dial i b hb
      have hb1 := sm1 _ _ hbt
      have r0 : 0 < rr rs i := by have := g.ge2 i hi; omega
      have len1 : (stt (rr rs) (i + 1)).length = (stt (rr rs) i).length * rr rs i := by
        rw [stt_len, stt_len]
        exact pre_succ rs i
      have sl1 := sl i (by omega)
      have sl2 := sl (i + 1) hi
      refine ⟨_, rfl, S, _, (stt (rr rs) i).length, rfl, .inl hS1, by rw [List.length_map, tu1.1], _, rfl, b, _, 0, _, rfl, rfl, hb1, rfl, (stt (rr rs) i).length, rr rs i, rfl, rfl, ⟨big _ (by omega), g.el_lt⟩, (stt (rr rs) i).length * rr rs i, rfl, by omega, fun D hD => lc_up0 (n := (stt (rr rs) i).length * rr rs i) (fun k H2 => ∃ cs : List Addr, Same H1 H2 ∧ H2 D = some (.lst (cs.map V.ref)) ∧ (∀ c ∈ cs, c ≠ D) ∧ TupsAt H2 cs ((stt (rr rs) (i + 1)).take k))
        ⟨[], same_new hD, upd_same, (fun c hc => by cases hc), rfl, fun k a row hk => by simp at hk⟩ ?_ ?_⟩
      · rintro k H2 hk ⟨cs, sm2, hD2, nD, tu2⟩
        have hq := div_in hk
        obtain ⟨x, hxb⟩ : ∃ x, bs[k / rr rs i]? = some x := ⟨_, List.getElem?_eq_getElem (by rw [tu1.1]; exact hq)⟩
        have hx1 := tu1.2 _ _ _ hxb (row_at hq)
        refine ⟨rfl, yesT ?_⟩
        refine ⟨_, rfl, _, rfl, _, rfl, b, _, 0, _, rfl, rfl, sm2 _ _ hb1, rfl, k, rr rs i, rfl, rfl, ⟨r0, g.el_lt⟩, S, _, k / rr rs i, _, rfl, rfl, sm2 _ _ hS1, refs_get hxb, _, rfl, k, rfl, _, rfl, b, _, 0, _, rfl, rfl, sm2 _ _ hb1, rfl, k, rr rs i, rfl, rfl, r0, by show 1 ≤ sizeLine; decide, fun t ht => ?_⟩
        have s23 : Same H2 (upd H2 t (.tup [.int ((k % rr rs i : Nat) : Int)])) := same_new ht
        refine ⟨x, t, _, _, rfl, rfl, s23 _ _ (sm2 _ _ hx1), upd_same, ?_, fun p H4 s34 hp hfr => ?_⟩
        · rw [nums_len, (stt_el (i := i) (fun j hj => by have := g.ge2 j (by omega); omega) _ (getD_mem hq)).1]
          exact sz8' (by omega)
        have s24 := s23.trans s34
        have npD : p ≠ D := fun e => by
          rcases hfr with h | h
          · rw [e, s23 _ _ hD2] at h
            cases h
          · rw [← h, e, hD2] at ht
            cases ht
        refine ⟨_, s24 _ _ hD2, ?_, cs ++ [p], same_mut (sm2.trans s24) hD, by rw [upd_same, List.map_append]; rfl, fun c hc => ?_, ?_⟩
        · rw [List.length_map, tu2.1, List.length_take]
          exact sz8 (by omega)
        · rcases List.mem_append.mp hc with h | h
          · exact nD c h
          · rw [List.mem_singleton.mp h]
            exact npD
        · rw [take_add (stt_get hk)]
          refine TupsAt.snoc ((tu2.mono s24).upd nD) ?_
          rw [upd_ne npD, hp, nums_app]
      · rintro H2 ⟨cs, sm2, hD2, nD, tu2⟩
        rw [← len1, List.take_length] at tu2
        exact ⟨_, D, cs, rfl, sm1.trans sm2, hD2, tu2⟩
    rintro σ H1 ⟨v4, S, bs, rfl, sm1, hS1, tu1⟩
    rw [List.length_map, has, hL] at tu1
    -- the places
    intro A hA
    have sA : Same H1 (upd H1 A (.dK [])) := same_new hA
    have blen : bs.length = whole rs := by
      rw [tu1.1, stt_len]
      rfl
    have plen : (plcs rs.length (rr rs) O).length = whole rs := plcs_len
    have PLnd : (((plcs rs.length (rr rs) O).zip bs).map (·.1)).Nodup := by
      rw [List.map_fst_zip (by omega)]
      exact plcs_nd F
    have PLlen : ((plcs rs.length (rr rs) O).zip bs).length = whole rs := by
      rw [List.length_zip]
      omega
    refine ⟨_, rfl, S, rfl, ⟨_, SqL.of (sA _ _ hS1)⟩, for_list (K := K) (a := S) (xs := bs.map V.ref) (fun t σ H' => ∃ (v6 : Option V), σ = [some (.int ((whole rs : Nat) : Int)), some (.ref d), some (.int ((rs.length : Nat) : Int)), some (.ref S), v4, some (.ref A), v6, none, none, none, none, none, none] ∧ Same H1 H' ∧ H' A = some (.dK (dpa (((plcs rs.length (rr rs) O).zip bs).take t))))
      ⟨none, rfl, sA, by rw [upd_same]; rfl⟩ (fun i σ H' _ ⟨_, _, sm, _⟩ => SqL.of (sm _ _ hS1)) ?_ ?_⟩
    · rintro t x σ H2 hx ⟨v6, rfl, sm2, hA2⟩
      obtain ⟨c, hc, rfl⟩ := refs_of hx
      have htb : t < bs.length := (List.getElem?_eq_some_iff.mp hc).1
      obtain ⟨st, hst⟩ : ∃ st, (stt (rr rs) rs.length)[t]? = some st := ⟨_, List.getElem?_eq_getElem (by rw [← tu1.1]; exact htb)⟩
      have hc1 := tu1.2 _ _ _ hc hst
      have el := stt_el F.pos st (List.mem_of_getElem? hst)
      have hpl : (plcs rs.length (rr rs) O)[t]? = some (plc rs.length (rr rs) O st) := by
        unfold plcs
        rw [List.getElem?_map, hst]
        rfl
      have hz : ((plcs rs.length (rr rs) O).zip bs)[t]? = some (plc rs.length (rr rs) O st, c) := List.getElem?_zip_eq_some.mpr ⟨hpl, hc⟩
      refine ⟨_, rfl, _, rfl, _, rfl, rs.length, rfl, by omega, fun D hD => lc_up0 (n := rs.length) (fun k H3 => Same H2 H3 ∧ H3 D = some (.lst (nums ((List.range k).map fun j => st.getD j 0 * wt rs.length (rr rs) O j)))) ⟨same_new hD, upd_same⟩ ?_ ?_⟩
      · rintro k H3 hk ⟨sm3, hl3⟩
        obtain ⟨b, hb⟩ := dial2 k hk
        have s13 := sm2.trans sm3
        refine ⟨rfl, yesT ?_⟩
        have h1 := el.2 k hk
        have h2 := r120 k hk
        refine ⟨_, rfl, _, rfl, c, _, k, _, rfl, rfl, s13 _ _ hc1, nums_get (getD_get (by rw [el.1]; exact hk)), _, rfl, _, rfl, d, _, k, _, rfl, rfl, s13 _ _ (sm1 _ _ hd), refs_get hb, b, _, 1, _, rfl, rfl, s13 _ _ (sm1 _ _ (dial k b hb).2), rfl, st.getD k 0, wt rs.length (rr rs) O k, rfl, rfl, ⟨big _ (by omega), big _ (by have := wb k; omega)⟩, _, hl3, ?_, same_mut sm3 hD, ?_⟩
        · rw [nums_len, List.length_map, List.length_range]
          exact sz8 (by omega)
        · dsimp only
          rw [upd_same, nums_app, List.range_succ, List.map_append]
          rfl
      · rintro H3 ⟨sm3, hl3⟩
        refine ⟨D, _, rfl, hl3, _, rfl, _, rfl, _, whole rs, plc rs.length (rr rs) O st, rfl, rfl, hW, ?_, A, _, rfl, DPut.k (k := Sum.inl ((plc rs.length (rr rs) O st : Nat) : Int)) (sm3 _ _ hA2) ?_, ?_⟩
        · dsimp only
          rw [sum_pl]
          rfl
        · unfold dpa
          rw [List.length_map, List.length_take]
          exact sz8 (by omega)
        · rw [dpa_put (nd_take PLnd hz), ← take_add hz]
          exact ⟨_, rfl, same_mut (sm2.trans sm3) hA, upd_same⟩
    rintro σ H2 ⟨v6, rfl, sm2, hA2⟩
    rw [List.length_map, blen, ← PLlen, List.take_length] at hA2
    -- all are there
    refine ⟨_, rfl, A, _, rfl, hA2, _, rfl, _, whole rs, rfl, rfl, false, ?_, iteF ?_⟩
    · show V.bl (!decide ((dpa ((plcs rs.length (rr rs) O).zip bs)).length = whole rs)) = _
      unfold dpa
      rw [List.length_map, PLlen, decide_eq_true rfl]
      rfl
    refine ⟨_, rfl, S, _, whole rs, rfl, .inl (sm2 _ _ hS1), by rw [List.length_map, blen], _, rfl, whole rs, whole rs, rfl, rfl, false, ?_, iteF ?_⟩
    · show V.bl (!decide (whole rs = whole rs)) = _
      rw [decide_eq_true rfl]
      rfl
    refine ⟨Nat.zero_le _, fun R hR => ?_⟩
    have sR : Same H2 (upd H2 R (.lst [])) := same_new hR
    have ex : ∀ i, ∃ z : Nat × List Nat, i < rs.length → (stt (rr rs) rs.length)[z.1]? = some z.2 ∧ (plcs rs.length (rr rs) O)[z.1]? = some ((rr rs i * wt rs.length (rr rs) O i) % whole rs) ∧ plc rs.length (rr rs) O z.2 = (rr rs i * wt rs.length (rr rs) O i) % whole rs ∧ z.2.length = rs.length ∧ ∀ j, j < rs.length → z.2.getD j 0 < rr rs j := fun i => by
      obtain ⟨k, s, h⟩ := plcs_all F (x := (rr rs i * wt rs.length (rr rs) O i) % whole rs) (Nat.mod_lt _ hW)
      exact ⟨(k, s), fun _ => h⟩
    obtain ⟨cf, hcf⟩ := Classical.axiomOfChoice ex
    let hands : Rel := fun i j => decide (j < rs.length) && decide (0 < (cf i).2.getD j 0)
    have hands_iff : ∀ i j, hands i j = true ↔ j < rs.length ∧ 0 < (cf i).2.getD j 0 := fun i j => by
      show (decide (j < rs.length) && decide (0 < (cf i).2.getD j 0)) = true ↔ _
      rw [Bool.and_eq_true, decide_eq_true_eq, decide_eq_true_eq]
    refine ⟨_, rfl, d, rfl, ⟨_, SqT.of ((sR) _ _ (sm2 _ _ (sm1 _ _ hd)))⟩, for_tup (K := K) (a := d) (xs := as.map V.ref) (fun i σ H' => ∃ (v4 v8 : Option V) (hs : List Nat), σ = [some (.int ((whole rs : Nat) : Int)), some (.ref d), some (.int ((rs.length : Nat) : Int)), some (.ref S), v4, some (.ref A), v6, some (.ref R), v8, none, none, none, none] ∧ Same H2 H' ∧ H' R = some (.lst (nums hs)) ∧ hs.length = i ∧ ∀ k, k < i → ∀ j, mrel hs k j = hands k j)
      ⟨v4, none, [], rfl, sR, upd_same, rfl, fun k hk => by omega⟩ (fun i σ H' _ ⟨_, _, _, _, sm, _⟩ => SqT.of (sm _ _ (sm2 _ _ (sm1 _ _ hd)))) ?_ ?_⟩
    · rintro i x σ H3 hx ⟨v4, v8, hs, rfl, sm3, hR3, hsl, hmr⟩
      obtain ⟨b, hb, rfl⟩ := refs_of hx
      obtain ⟨hi, hbt⟩ := dial i b hb
      have hb3 := sm3 _ _ (sm2 _ _ (sm1 _ _ hbt))
      obtain ⟨z1, z2, z3, z4, z5⟩ := hcf i hi
      obtain ⟨c, hc⟩ : ∃ c, bs[(cf i).1]? = some c := ⟨_, List.getElem?_eq_getElem (by rw [tu1.1]; exact (List.getElem?_eq_some_iff.mp z1).1)⟩
      have hc3 := sm3 _ _ (sm2 _ _ (tu1.2 _ _ _ hc z1))
      have hz : ((plcs rs.length (rr rs) O).zip bs)[(cf i).1]? = some ((rr rs i * wt rs.length (rr rs) O i) % whole rs, c) := List.getElem?_zip_eq_some.mpr ⟨z2, hc⟩
      refine ⟨_, rfl, _, rfl, b, _, 0, _, rfl, rfl, hb3, rfl, _, rfl, b, _, 1, _, rfl, rfl, hb3, rfl, rr rs i, wt rs.length (rr rs) O i, rfl, rfl, ⟨g.el_lt, big _ (by have := wb i; omega)⟩, _, rfl, _, rfl, rr rs i * wt rs.length (rr rs) O i, whole rs, (rr rs i * wt rs.length (rr rs) O i) % whole rs, rfl, rfl, hW, rfl, A, .ref c, rfl, dget_at (k := Sum.inl (((rr rs i * wt rs.length (rr rs) O i) % whole rs : Nat) : Int)) (sm3 _ _ hA2) (dpa_val PLnd (List.mem_of_getElem? hz)), ?_⟩
      refine ⟨_, rfl, .inl ⟨rfl, _, SqL.of hR3⟩, ?_⟩
      refine ⟨_, rfl, rs.length, rfl, by omega, fun D hD => lc_up0 (n := rs.length) (fun j H4 => Same H3 H4 ∧ H4 D = some (.lst (nums (((List.range j).filter fun l => decide (0 < (cf i).2.getD l 0)).map fun l => 2 ^ l)))) ⟨same_new hD, upd_same⟩ ?_ ?_⟩
      · rintro j H4 hj ⟨sm4, hl4⟩
        refine ⟨rfl, _, rfl, _, rfl, c, _, j, _, rfl, rfl, sm4 _ _ hc3, nums_get (getD_get (by rw [z4]; exact hj)), (cf i).2.getD j 0, 0, rfl, rfl, _, rfl, ite2 (fun e => ?_) (fun e => ?_)⟩
        · refine ⟨_, rfl, 1, j, rfl, rfl, ⟨by decide, by omega⟩, _, hl4, ?_, same_mut sm4 hD, ?_⟩
          · rw [nums_len, List.length_map]
            refine sz8 (Nat.le_trans (List.length_filter_le _ _) ?_)
            rw [List.length_range]
            omega
          · have e : decide (0 < (cf i).2.getD j 0) = true := e
            dsimp only
            rw [upd_same, nums_app, Nat.one_mul, List.range_succ, List.filter_append, List.map_append, List.filter_cons, e]
            rfl
        · have e : decide (0 < (cf i).2.getD j 0) = false := by
            cases z : decide (0 < (cf i).2.getD j 0) with
            | false => rfl
            | true => exact (e z).elim
          refine ⟨sm4, ?_⟩
          rw [hl4, List.range_succ, List.filter_append, List.map_append, List.filter_cons, e]
          simp
      · rintro H4 ⟨sm4, hl4⟩
        refine ⟨D, _, rfl, hl4, R, _, _, rfl, rfl, sm4 _ _ hR3, ?_, ?_⟩
        · rw [nums_len, hsl]
          exact sz8 (by omega)
        · rw [sum_pows, nums_app]
          refine ⟨_, _, _, rfl, same_mut (sm3.trans sm4) hR, upd_same, by rw [List.length_append, hsl]; rfl, fun k hk j => ?_⟩
          unfold mrel
          rw [List.getD_eq_getElem?_getD]
          by_cases e : k = i
          · subst e
            rw [List.getElem?_append_right (by omega), hsl, Nat.sub_self]
            show (mk rs.length fun l => decide (0 < (cf k).2.getD l 0)).testBit j = _
            rw [bit_mk]
          · rw [List.getElem?_append_left (by omega), ← List.getD_eq_getElem?_getD]
            exact hmr k (by omega) j
    rintro σ H3 ⟨v4, v8, hs, rfl, sm3, hR3, hsl, hmr⟩
    rw [List.length_map, has, hL] at hsl hmr
    have below : ∀ i j, i < rs.length → hands i j = true → O i j = true := fun i j hi h => by
      obtain ⟨z1, z2, z3, z4, z5⟩ := hcf i hi
      have := (hands_iff i j).mp h
      exact carry_below F hi (c := fun j => (cf i).2.getD j 0) z5 z3 this.1 this.2
    refine ⟨_, rfl, rs.length, rfl, by omega, for_up0 (n := rs.length) (fun L σ H' => ∃ (v9 v10 v11 : Option V) (ms : List Nat), σ = [some (.int ((whole rs : Nat) : Int)), some (.ref d), some (.int ((rs.length : Nat) : Int)), some (.ref S), v4, some (.ref A), v6, some (.ref R), v8, v9, v10, v11, none] ∧ Same H2 H' ∧ H' R = some (.lst (nums ms)) ∧ ms.length = rs.length ∧ Fil rs.length O hands L 0 (mrel ms))
      ⟨none, none, none, hs, rfl, sm3, hR3, hsl, fil_start (fun i j hi => hmr i hi j) (fun i j hi h => below i j hi h)⟩ ?_ ?_⟩
    · rintro Lp σ H4 hLp ⟨v9, v10, v11, ms, rfl, sm4, hR4, msl, fl⟩
      refine ⟨_, rfl, rs.length, rfl, by omega, for_up0 (n := rs.length) (fun i σ H' => ∃ (v10 v11 : Option V) (ms : List Nat), σ = [some (.int ((whole rs : Nat) : Int)), some (.ref d), some (.int ((rs.length : Nat) : Int)), some (.ref S), v4, some (.ref A), v6, some (.ref R), v8, some (.int (Lp : Int)), v10, v11, none] ∧ Same H2 H' ∧ H' R = some (.lst (nums ms)) ∧ ms.length = rs.length ∧ Fil rs.length O hands Lp i (mrel ms))
        ⟨v10, v11, ms, rfl, sm4, hR4, msl, fl⟩ ?_ ?_⟩
      · rintro i σ H5 hi ⟨v10, v11, ms, rfl, sm5, hR5, msl, fl⟩
        have min : ∀ k j, mrel ms k j = true → O k j = true := fun k j h => fl.into k j (by rw [← msl]; exact mrel_in h) h
        have mb : ∀ k j, j ∈ bits (ms.getD k 0) ↔ mrel ms k j = true := fun k j => mem_bits (Nat.lt_of_lt_of_le (mask_lt (n := rs.length) fun i j h => (F.lt i j (min i j h)).2) (Nat.pow_le_pow_right (by decide) hn8))
        refine ⟨_, rfl, _, rfl, R, _, i, _, rfl, rfl, hR5, nums_get (getD_get (by omega)), ms.getD i 0, rfl, fun H6 q6 s56 f6 h6 => ?_⟩
        have n6 : R ≠ q6 := ne_of_none hR5 f6
        refine ⟨q6, rfl, ⟨_, SqL.of h6⟩, for_list (K := K) (a := q6) (xs := nums (bits (ms.getD i 0))) (fun t σ H' => ∃ (v11 : Option V) (ms' : List Nat), σ = [some (.int ((whole rs : Nat) : Int)), some (.ref d), some (.int ((rs.length : Nat) : Int)), some (.ref S), v4, some (.ref A), v6, some (.ref R), v8, some (.int (Lp : Int)), some (.int (i : Int)), v11, none] ∧ Same H2 H' ∧ H' q6 = some (.lst (nums (bits (ms.getD i 0)))) ∧ H' R = some (.lst (nums ms')) ∧ ms'.length = rs.length ∧ (∀ k, k ≠ i → ∀ j, mrel ms' k j = mrel ms k j) ∧ ∀ j, mrel ms' i j = true ↔ mrel ms i j = true ∨ ∃ t' k, t' < t ∧ (bits (ms.getD i 0))[t']? = some k ∧ mrel ms k j = true)
          ⟨v11, ms, rfl, sm5.trans s56, h6, s56 _ _ hR5, msl, fun _ _ _ => rfl, fun j => ⟨.inl, fun h => h.elim id fun ⟨t', k, h, _⟩ => by omega⟩⟩ (fun t σ H' _ ⟨_, _, _, _, h, _⟩ => SqL.of h) ?_ ?_⟩
        · rintro t x σ H7 hx ⟨v11, ms', rfl, sm7, hq7, hR7, ml', same', new'⟩
          obtain ⟨j, hj, rfl⟩ := nums_of hx
          have hij := (mb i j).mp (List.mem_of_getElem? hj)
          have hO := min i j hij
          have hjn := (F.lt i j hO).2
          have hne : j ≠ i := fun e => by
            rw [e, F.irr] at hO
            cases hO
          refine ⟨_, rfl, _, rfl, R, _, i, _, rfl, rfl, hR7, nums_get (getD_get (by omega)), _, rfl, _, rfl, R, _, j, _, rfl, rfl, hR7, nums_get (getD_get (by omega)), ms'.getD i 0, ms'.getD j 0, rfl, rfl, _, rfl, _, rfl, R, _, i, rfl, rfl, hR7, by rw [nums_len]; omega, ?_⟩
          rw [nums_set]
          refine ⟨_, ms'.set i (ms'.getD i 0 ||| ms'.getD j 0), rfl, same_mut sm7 hR, by rw [upd_ne n6.symm]; exact hq7, upd_same, by rw [List.length_set]; exact ml', fun k hk l => ?_, fun l => ?_⟩
          · unfold mrel
            rw [getD_set (by omega), if_neg hk]
            exact same' k hk l
          · have e1 : mrel (ms'.set i (ms'.getD i 0 ||| ms'.getD j 0)) i l = (mrel ms' i l || mrel ms' j l) := by
              unfold mrel
              rw [getD_set (by omega), if_pos rfl, Nat.testBit_or]
            rw [e1, Bool.or_eq_true, new' l, same' j hne l]
            constructor
            · rintro ((h | ⟨t', k, h1, h2, h3⟩) | h)
              · exact .inl h
              · exact .inr ⟨t', k, by omega, h2, h3⟩
              · exact .inr ⟨t, j, by omega, hj, h⟩
            · rintro (h | ⟨t', k, h1, h2, h3⟩)
              · exact .inl (.inl h)
              · by_cases et : t' = t
                · subst et
                  rw [hj] at h2
                  rw [← Option.some.inj h2] at h3
                  exact .inr h3
                · exact .inl (.inr ⟨t', k, by omega, h2, h3⟩)
        · rintro σ H7 ⟨v11, ms', rfl, sm7, hq7, hR7, ml', same', new'⟩
          obtain ⟨z1, z2, z3, z4, z5⟩ := hcf i hi
          refine ⟨_, _, ms', rfl, sm7, hR7, ml', ?_⟩
          refine fil_step F fl hi (c := fun j => (cf i).2.getD j 0) z5 z3 (fun j hj => ?_) same' fun j => ?_
          · rw [hands_iff]
            exact ⟨fun h => h.2, fun h => ⟨hj, h⟩⟩
          · rw [new' j]
            refine or_congr_right ⟨fun ⟨t', k, h1, h2, h3⟩ => ⟨k, (mb i k).mp (List.mem_of_getElem? h2), h3⟩, fun ⟨k, h1, h2⟩ => ?_⟩
            obtain ⟨t', ht'⟩ := List.getElem?_of_mem ((mb i k).mpr h1)
            refine ⟨t', k, ?_, ht', h2⟩
            rw [nums_len]
            exact (List.getElem?_eq_some_iff.mp ht').1
      · rintro σ H5 ⟨v10, v11, ms, rfl, sm5, hR5, msl, fl⟩
        exact ⟨_, _, _, ms, rfl, sm5, hR5, msl, fil_next fl⟩
    · rintro σ H4 ⟨v9, v10, v11, ms, rfl, sm4, hR4, msl, fl⟩
      have fe := fil_end F.toOrd fl
      refine ⟨_, rfl, q _ R ms ((sm1.trans sm2).trans sm4) hR4 msl fun i j => ?_⟩
      by_cases hi : i < rs.length
      · exact fe i hi j
      · cases e : O i j with
        | true => exact (hi (F.lt i j e).1).elim
        | false =>
          cases e2 : mrel ms i j with
          | false => rfl
          | true =>
            have := mrel_in e2
            omega
end
end WW

set_option Elab.async false
set_option linter.all false
set_option maxRecDepth 100000
set_option maxHeartbeats 4000000
/-! W23: closed sets by weights -/
namespace WW
open PySem PySem.Spec PyProof.Rows L2
def pb (r : Nat → Nat) (l : List Nat) : Nat := (l.map r).foldl (· * ·) 1
theorem pb_snoc (r : Nat → Nat) (l : List Nat) (a : Nat) : pb r (l ++ [a]) = pb r l * r a := by
  unfold pb
  rw [List.map_append, List.foldl_append]
  rfl
theorem pb_filter (r : Nat → Nat) (p : Nat → Bool) : ∀ n, pb r ((List.range n).filter p) = pr r p n
  | 0 => rfl
  | n + 1 => by
    rw [List.range_succ, List.filter_append]
    unfold pr
    rw [← pb_filter r p n]
    cases e : p n with
    | true =>
      rw [if_pos rfl, List.filter_cons, e]
      exact pb_snoc r _ n
    | false =>
      rw [List.filter_cons, e]
      simp
theorem pb_bits {r : Nat → Nat} {m n : Nat} (h : m < 2 ^ n) (hn : n ≤ 8) : pb r (bits m) = pr r (fun i => m.testBit i) n := by
  rw [← bits_upto h hn, pb_filter]
theorem pb_le {r : Nat → Nat} (h : ∀ i, r i < 2 ^ 800) {l : List Nat} : ∀ t, pb r (l.take t) ≤ 2 ^ (800 * t)
  | 0 => by
    rw [List.take_zero]
    exact Nat.le_refl _
  | t + 1 => by
    have ih := pb_le h (l := l) t
    by_cases e : t < l.length
    · rw [take_add (List.getElem?_eq_getElem e), pb_snoc, Nat.mul_add, Nat.pow_add]
      exact Nat.mul_le_mul ih (Nat.le_of_lt (h _))
    · rw [List.take_of_length_le (by omega)]
      rw [List.take_of_length_le (by omega)] at ih
      exact Nat.le_trans ih (Nat.pow_le_pow_right (by decide) (by omega))
theorem rr_800 {rs : List Nat} (g : Rgs rs) (i : Nat) : rr rs i < 2 ^ 800 := by
  by_cases h : i < rs.length
  · exact g.big i h
  · rw [rr_out (by omega)]
    exact Nat.one_lt_two_pow (by decide)
theorem pb_lt {rs : List Nat} (g : Rgs rs) {l : List Nat} {t : Nat} (ht : t ≤ 8) : pb (rr rs) (l.take t) < 2 ^ 9000 :=
  Nat.lt_of_le_of_lt (pb_le (rr_800 g) t) (Nat.pow_lt_pow_right (by decide) (by omega))
/-- a set closed by the weights -/
def Cm (rs : List Nat) (v : Nat → Nat) (A : Nat) : Prop := ∀ k, A.testBit k = true → (v k * pr (rr rs) (fun i => A.testBit i) rs.length) % whole rs = 0
/-- the closed sets below M that hold k hold j -/
def Wr (rs : List Nat) (v : Nat → Nat) (M k j : Nat) : Prop := j < rs.length ∧ ∀ A, A < M → Cm rs v A → A.testBit k = true → A.testBit j = true
structure RowW (rs : List Nat) (v : Nat → Nat) (M : Nat) (ms : List Nat) : Prop where
  len : ms.length = rs.length
  iff : ∀ k, k < rs.length → ∀ j, mrel ms k j = true ↔ Wr rs v M k j
section
variable {rs : List Nat} {v : Nat → Nat} {ms : List Nat}
theorem RowW.lt {M : Nat} (h : RowW rs v M ms) {k j : Nat} (q : mrel ms k j = true) : k < rs.length ∧ j < rs.length := by
  have hk : k < rs.length := by
    rw [← h.len]
    exact mrel_in q
  exact ⟨hk, ((h.iff k hk j).mp q).1⟩
/-- straight: the order that the weights are of -/
def StrW (rs : List Nat) (v : Nat → Nat) (O : Rel) : Prop := Fit rs.length (rr rs) O ∧ ∀ i, i < rs.length → v i = wt rs.length (rr rs) O i
theorem cm_iff {O : Rel} (s : StrW rs v O) {A : Nat} (hA : A < 2 ^ rs.length) : Cm rs v A ↔ ∀ k j, k < rs.length → A.testBit k = true → O k j = true → A.testBit j = true := by
  rw [← closed_wt s.1 (A := fun i => A.testBit i)]
  unfold Cm
  constructor
  · intro h k hk ak
    have := h k ak
    rw [s.2 k hk] at this
    exact Nat.dvd_of_mod_eq_zero this
  · intro h k ak
    have hk := bit_lt hA ak
    rw [s.2 k hk]
    exact Nat.mod_eq_zero_of_dvd (h k hk ak)
theorem str_row {O : Rel} (s : StrW rs v O) (h : RowW rs v (2 ^ rs.length) ms) {k : Nat} (hk : k < rs.length) (j : Nat) : mrel ms k j = dn O k j := by
  rw [Bool.eq_iff_iff, h.iff k hk j]
  have bmk : ∀ i, (mk rs.length (dn O k)).testBit i = true ↔ i < rs.length ∧ dn O k i = true := fun i => by
    rw [bit_mk, Bool.and_eq_true, decide_eq_true_eq]
  constructor
  · rintro ⟨hj, h1⟩
    refine ((bmk j).mp (h1 (mk rs.length (dn O k)) (mk_lt _ _) ((cm_iff s (mk_lt _ _)).mpr fun a b ha hab hO => ?_) ((bmk k).mpr ⟨hk, ?_⟩))).2
    · exact (bmk b).mpr ⟨(s.1.lt a b hO).2, dn_closed s.1 k a b ((bmk a).mp hab).2 hO⟩
    · unfold dn
      simp
  · intro hd
    have hd2 : j = k ∨ O k j = true := by
      unfold dn at hd
      rcases (Bool.or_eq_true _ _).mp hd with e | e
      · exact .inl (of_decide_eq_true e)
      · exact .inr e
    rcases hd2 with e | e
    · subst e
      exact ⟨hk, fun A _ _ h => h⟩
    · exact ⟨(s.1.lt k j e).2, fun A hA hc ha => (cm_iff s hA).mp hc k j hk ha e⟩
/-- the strict part -/
def Off (ms : List Nat) : Rel := fun i j => mrel ms i j && decide (i ≠ j)
def Good (rs ms : List Nat) (i j : Nat) : Prop := i ≠ j → mrel ms i j = mrel ms j i → mrel ms j i = false ∧ ¬ 1 < Nat.gcd (rr rs i) (rr rs j)
theorem off_iff {i j : Nat} : Off ms i j = true ↔ mrel ms i j = true ∧ i ≠ j := by
  unfold Off
  rw [Bool.and_eq_true, decide_eq_true_eq]
theorem good_ord (h : RowW rs v (2 ^ rs.length) ms) (hg : ∀ i j, i < rs.length → j < rs.length → Good rs ms i j) : Ord rs.length (Off ms) ∧ Fits rs.length (tie rs) (Off ms) := by
  have anti : ∀ i j, mrel ms i j = true → mrel ms j i = true → i = j := fun i j h1 h2 => by
    refine Decidable.byContradiction fun q => ?_
    have l := h.lt h1
    have := (hg i j l.1 l.2 q (by rw [h1, h2])).1
    rw [h2] at this
    cases this
  refine ⟨⟨fun i => ?_, fun i j hij => h.lt (off_iff.mp hij).1, fun i j k hij hjk => ?_⟩, fun i j hi hj ht => ?_⟩
  · unfold Off
    simp
  · have a := off_iff.mp hij
    have b := off_iff.mp hjk
    have l := h.lt a.1
    have l2 := h.lt b.1
    refine off_iff.mpr ⟨(h.iff i l.1 k).mpr ⟨l2.2, fun A hA hc ha => ?_⟩, fun e => ?_⟩
    · exact ((h.iff j l.2 k).mp b.1).2 A hA hc (((h.iff i l.1 j).mp a.1).2 A hA hc ha)
    · subst e
      exact a.2 (anti i j a.1 b.1)
  · unfold tie at ht
    rw [Bool.and_eq_true, decide_eq_true_eq, decide_eq_true_eq] at ht
    cases e1 : mrel ms i j with
    | true => exact .inl (off_iff.mpr ⟨e1, ht.1⟩)
    | false =>
      cases e2 : mrel ms j i with
      | true => exact .inr (off_iff.mpr ⟨e2, ht.1.symm⟩)
      | false => exact ((hg i j hi hj ht.1 (by rw [e1, e2])).2 ht.2).elim
theorem str_good {O : Rel} (s : StrW rs v O) (h : RowW rs v (2 ^ rs.length) ms) {i j : Nat} (hi : i < rs.length) (hj : j < rs.length) : Good rs ms i j := by
  intro hne e
  have a : ∀ i j, i < rs.length → i ≠ j → mrel ms i j = O i j := fun i j hi hne => by
    rw [str_row s h hi]
    unfold dn
    have : ¬ j = i := fun e => hne e.symm
    simp [this]
  rw [a i j hi hne, a j i hj hne.symm] at e
  rw [a j i hj hne.symm]
  cases z : O j i with
  | true =>
    have := s.1.tr i j i (e.trans z) z
    rw [s.1.irr] at this
    cases this
  | false =>
    refine ⟨rfl, fun hg => ?_⟩
    rcases s.1.tied i j hi hj hne (fun c => by
      have c : Nat.gcd (rr rs i) (rr rs j) = 1 := c
      omega) with q | q
    · rw [e, z] at q
      cases q
    · rw [z] at q
      cases q
theorem str_off {O : Rel} (s : StrW rs v O) (h : RowW rs v (2 ^ rs.length) ms) : Off ms = O := by
  funext i j
  rw [Bool.eq_iff_iff, off_iff]
  constructor
  · rintro ⟨h1, h2⟩
    have l := h.lt h1
    rw [str_row s h l.1] at h1
    unfold dn at h1
    rcases (Bool.or_eq_true _ _).mp h1 with e | e
    · exact (h2 (of_decide_eq_true e).symm).elim
    · exact e
  · intro ho
    have l := s.1.lt i j ho
    refine ⟨?_, fun e => ?_⟩
    · rw [str_row s h l.1]
      unfold dn
      rw [ho, Bool.or_true]
    · rw [e, s.1.irr] at ho
      cases ho
/-- the first test passes -/
theorem str_span {O : Rel} (s : StrW rs v O) (h : RowW rs v (2 ^ rs.length) ms) {i : Nat} (hi : i < rs.length) : v i * pr (rr rs) (fun j => (ms.getD i 0).testBit j) rs.length = whole rs := by
  have e : pr (rr rs) (fun j => (ms.getD i 0).testBit j) rs.length = span rs.length (rr rs) O i := pr_congr fun j _ => str_row s h hi j
  rw [e, s.2 i hi, Nat.mul_comm]
  exact s.1.span_wt i
theorem roww_start : RowW rs v 0 (List.replicate rs.length (2 ^ rs.length - 1)) := by
  refine ⟨List.length_replicate, fun k hk j => ?_⟩
  unfold mrel Wr
  rw [List.getD_eq_getElem?_getD, List.getElem?_replicate, if_pos hk]
  show (2 ^ rs.length - 1).testBit j = true ↔ _
  rw [Nat.testBit_two_pow_sub_one, decide_eq_true_eq]
  exact ⟨fun h => ⟨h, fun A hA => by omega⟩, fun h => h.1⟩
theorem roww_skip {M : Nat} (h : RowW rs v M ms) (hn : ¬ Cm rs v M) : RowW rs v (M + 1) ms := by
  refine ⟨h.len, fun k hk j => ?_⟩
  rw [h.iff k hk j]
  unfold Wr
  refine and_congr_right fun _ => ⟨fun q A hA hc ha => ?_, fun q A hA hc ha => q A (by omega) hc ha⟩
  by_cases e : A = M
  · rw [e] at hc
    exact (hn hc).elim
  · exact q A (by omega) hc ha
theorem roww_take {M : Nat} {ms' : List Nat} (h : RowW rs v M ms) (hc : Cm rs v M) (hl : ms'.length = rs.length) (hm : ∀ k, k < rs.length → ∀ j, mrel ms' k j = true ↔ mrel ms k j = true ∧ (M.testBit k = true → M.testBit j = true)) : RowW rs v (M + 1) ms' := by
  refine ⟨hl, fun k hk j => ?_⟩
  rw [hm k hk j, h.iff k hk j]
  unfold Wr
  constructor
  · rintro ⟨⟨h1, h2⟩, h3⟩
    refine ⟨h1, fun A hA hcA ha => ?_⟩
    by_cases e : A = M
    · rw [e] at ha ⊢
      exact h3 ha
    · exact h2 A (by omega) hcA ha
  · rintro ⟨h1, h2⟩
    exact ⟨⟨h1, fun A hA hcA ha => h2 A (by omega) hcA ha⟩, fun hk => h2 M (by omega) hc hk⟩
end
end WW

set_option Elab.async false
set_option linter.all false
set_option maxRecDepth 100000
set_option maxHeartbeats 4000000
/-! W24: _law_weighed -/
namespace WW
open PySem PySem.Spec PyProof.Rows L2
theorem bit_eq (a b i j : Nat) : decide (((a / 2 ^ j) &&& 1) = ((b / 2 ^ i) &&& 1)) = decide (a.testBit j = b.testBit i) := by
  rw [bit_val, bit_val]
  cases a.testBit j <;> cases b.testBit i <;> rfl
theorem nums_get0 {l : List Nat} {i : Nat} (h : i < l.length) : (nums l)[i]? = some (.int ((l.getD i 0 : Nat) : Int)) := nums_get (getD_get h)
theorem off_masks {rs : List Nat} {v : Nat → Nat} {ms : List Nat} (h : RowW rs v (2 ^ rs.length) ms) (i j : Nat) : mrel ((List.range rs.length).map fun i => ms.getD i 0 ^^^ 2 ^ i) i j = Off ms i j := by
  unfold mrel Off
  rw [List.getD_eq_getElem?_getD, List.getElem?_map]
  by_cases hi : i < rs.length
  · rw [List.getElem?_range hi]
    simp only [Option.map_some, Option.getD_some]
    rw [Nat.testBit_xor, Nat.testBit_two_pow]
    have hii : mrel ms i i = true := (h.iff i hi i).mpr ⟨hi, fun A _ _ h => h⟩
    by_cases e : i = j
    · subst e
      unfold mrel at hii
      rw [hii]
      simp
    · unfold mrel
      simp [e]
  · rw [List.getElem?_eq_none (by rw [List.length_range]; omega)]
    have : mrel ms i j = false := by
      cases z : mrel ms i j with
      | false => rfl
      | true => exact (hi (h.lt z).1).elim
    rw [this]
    simp
section
variable {P : Program} {w : World} {K : PySem.W.Frag} {mg : Str → Option Value} {base : Heap}
def spWeighed : Sp := fun vs H Q _ => ∃ (d : Addr) (rs : List Nat) (L : List (Nat × Nat)) (v : Nat → Nat), vs = [.int ((whole rs : Nat) : Int), .ref d] ∧ PairsAt H d L ∧ L.length = rs.length ∧ (∀ i, i < rs.length → L[i]? = some (rr rs i, v i)) ∧ Rgs rs ∧ (∀ i, i < rs.length → v i ≤ whole rs) ∧
  (∀ H' q ms O, Same H H' → H' q = some (.lst (nums ms)) → ms.length = rs.length → (∀ i j, mrel ms i j = O i j) → Ord rs.length O → Fits rs.length (tie rs) O → (∀ O0, StrW rs v O0 → O = O0) → Q (.ref q) H') ∧ (∀ H', Same H H' → (∀ O0, ¬ StrW rs v O0) → Q .non H')
theorem scWeighed : FnScope ["_law_wheel", "_law_dials", "_law_size", "_law_row", "_law_mask", "_law_made", "_law_k", "_law_i", "_law_span", "_law_j", "_law_above"] ["_law_wheel", "_law_dials"] (defScope (topS 61)) := ⟨rfl, rfl, rfl, by decide +kernel, rfl, by decide +kernel, by decide +kernel⟩
theorem cal_weighed (D : Dfn K mg "_law_weighed" (topS 61) ["_law_wheel", "_law_dials"]) (B : Blt mg) (c1 : Cal P w K mg base "_law_bits" 1 ["_law_mask"] spBits) (c2 : Cal P w K mg base "_law_gcd" 1 ["_law_one", "_law_other"] spGcd) : Cal P w K mg base "_law_weighed" 2 ["_law_wheel", "_law_dials"] spWeighed := by
  refine D.cal scWeighed (fun vs H Q E h => ?_) (fun f cdv A outer s H vs Q E hr h => ?_)
  · obtain ⟨d, rs, L, v, rfl, _⟩ := h
    rfl
  · obtain ⟨d, rs, L, v, rfl, hP, hL, hat, g, hv, q1, q2⟩ := h
    refine ⟨_, pss_cons (ps_set (i := 2) scWeighed.nd rfl (Or.inr rfl) (pe_callB c_len (by rfl) B.len PySem.boot_len (pa_cons (pv 1) pa_nil)))
      (pss_cons (ps_set (i := 3) scWeighed.nd rfl (Or.inr rfl) (pe_lc (own := [("_law_k", 6)]) (g := gName 6) rfl scWeighed.nd (up1_run rfl B.range (pa_cons (pv 2) pa_nil)) (blkOk_by (own := [("_law_k", 6)]) (N := ["_law_wheel", "_law_dials", "_law_size", "_law_row", "_law_mask", "_law_made", "_law_k", "_law_i", "_law_span", "_law_j", "_law_above"]) (sc := defScope (topS 61)) (by decide +kernel))
        (fun _ _ _ _ _ => pg_name (i := 6) scWeighed.nd rfl (Or.inl rfl)) (fun _ _ _ _ _ => pts_nil) (fun _ _ _ _ _ => pe_op x_sub (pe_op x_shl pe_int (pv 2)) pe_int)))
      (pss_cons (ps_for PassesOwn.never rfl (up1_run rfl B.range (pa_cons (pe_op x_shl pe_int (pv 2)) pa_nil)) (pg_name (i := 4) scWeighed.nd rfl (Or.inl rfl))
        (pss_cons (ps_set (i := 5) scWeighed.nd rfl (Or.inr rfl) pe_int)
        (pss_cons (ps_for PassesOwn.never rfl (pi_list (pe_cal c1 hr (by decide) (pa_cons (pv 4) pa_nil))) (pg_name (i := 6) scWeighed.nd rfl (Or.inl rfl))
          (pss_one (ps_set (i := 5) scWeighed.nd rfl (Or.inr rfl) (pe_op n_mul (pv 5) (pe_ix ixt (pe_ix ixt (pv 1) (pv 6) (fun _ _ => rfl)) pe_int (fun _ _ => rfl))))))
        (pss_one (ps_if (pt_cmpR n_eq (pe_callB c_len (by rfl) B.len PySem.boot_len (pa_cons (pe_lc (own := [("_law_k", 6)]) (g := gName 6) rfl scWeighed.nd (pi_list (pe_cal c1 hr (by decide) (pa_cons (pv 4) pa_nil))) (blkOk_by (own := [("_law_k", 6)]) (N := ["_law_wheel", "_law_dials", "_law_size", "_law_row", "_law_mask", "_law_made", "_law_k", "_law_i", "_law_span", "_law_j", "_law_above"]) (sc := defScope (topS 61)) (by decide +kernel))
            (fun _ _ _ _ _ => pg_name (i := 6) scWeighed.nd rfl (Or.inl rfl)) (fun _ _ _ _ _ => pts_one (pt_cmpR n_gt (pe_op n_mod (pe_callTy (T := "int") c_intn (by rfl) B.int (by decide +kernel) (pa_cons (pe_op n_mul (pe_ix ixt (pe_ix ixt (pv 1) (pv 6) (fun _ _ => rfl)) pe_int (fun _ _ => rfl)) (pv 5)) pa_nil)) (pv 0)) pe_int (nomark _))) (fun _ _ _ _ _ => pv 6)) pa_nil)) pe_int (nomark _))
          (pss_one (ps_for PassesOwn.never rfl (pi_list (pe_cal c1 hr (by decide) (pa_cons (pv 4) pa_nil))) (pg_name (i := 6) scWeighed.nd rfl (Or.inl rfl))
            (pss_one (ps_asg (pe_op n_and (pe_ix ixl (pv 3) (pv 6) (fun _ _ => rfl)) (pv 4)) (pg_sub (pv 3) (pv 6) setl))))) pss_nil)))))
      (pss_cons (ps_for PassesOwn.never rfl (up1_run rfl B.range (pa_cons (pv 2) pa_nil)) (pg_name (i := 7) scWeighed.nd rfl (Or.inl rfl))
        (pss_cons (ps_set (i := 8) scWeighed.nd rfl (Or.inl rfl) pe_int)
        (pss_cons (ps_for PassesOwn.never rfl (pi_list (pe_cal c1 hr (by decide) (pa_cons (pe_ix ixl (pv 3) (pv 7) (fun _ _ => rfl)) pa_nil))) (pg_name (i := 6) scWeighed.nd rfl (Or.inl rfl))
          (pss_one (ps_set (i := 8) scWeighed.nd rfl (Or.inl rfl) (pe_op n_mul (pv 8) (pe_ix ixt (pe_ix ixt (pv 1) (pv 6) (fun _ _ => rfl)) pe_int (fun _ _ => rfl))))))
        (pss_cons (ps_if (PW.pt (pw_or (pt_cmpR n_gt (pe_op n_mod (pe_callTy c_intn (by rfl) B.int (by decide +kernel) (pa_cons (pe_op n_mul (pe_ix ixt (pe_ix ixt (pv 1) (pv 7) (fun _ _ => rfl)) pe_int (fun _ _ => rfl)) (pv 8)) pa_nil)) (pv 0)) pe_int (nomark _))
            (pw_or1 (pt_cmpR n_gt (pe_cal c2 hr (by decide) (pa_cons (pe_op n_div (pe_op n_mul (pe_ix ixt (pe_ix ixt (pv 1) (pv 7) (fun _ _ => rfl)) pe_int (fun _ _ => rfl)) (pv 8)) (pv 0)) (pa_cons (pe_ix ixt (pe_ix ixt (pv 1) (pv 7) (fun _ _ => rfl)) pe_int (fun _ _ => rfl)) pa_nil))) pe_int (nomark _))))) (pss_one (ps_ret pe_non)) pss_nil)
        (pss_one (ps_for PassesOwn.never rfl (up1_run rfl B.range (pa_cons (pv 2) pa_nil)) (pg_name (i := 9) scWeighed.nd rfl (Or.inl rfl))
          (pss_cons (ps_set (i := 10) scWeighed.nd rfl (Or.inl rfl) (pe_op n_and (pe_op n_shr (pe_ix ixl (pv 3) (pv 9) (fun _ _ => rfl)) (pv 7)) pe_int))
          (pss_one (ps_if (PW.pt (pw_and (pt_cmpR n_ne (pv 7) (pv 9) (nomark _)) (pw_and (pt_cmpR n_eq (pe_op n_and (pe_op n_shr (pe_ix ixl (pv 3) (pv 7) (fun _ _ => rfl)) (pv 9)) pe_int) (pv 10) (nomark _))
            (pw_and1 (PW.pt (pw_or (pt_cmpR n_eq (pv 10) pe_int (nomark _)) (pw_or1 (pt_cmpR n_gt (pe_cal c2 hr (by decide) (pa_cons (pe_ix ixt (pe_ix ixt (pv 1) (pv 7) (fun _ _ => rfl)) pe_int (fun _ _ => rfl)) (pa_cons (pe_ix ixt (pe_ix ixt (pv 1) (pv 9) (fun _ _ => rfl)) pe_int (fun _ _ => rfl)) pa_nil))) pe_int (nomark _)))))))))
            (pss_one (ps_ret pe_non)) pss_nil)))))))))
      (pss_one (ps_ret (pe_lc (own := [("_law_k", 6)]) (g := gName 6) rfl scWeighed.nd (up1_run rfl B.range (pa_cons (pv 2) pa_nil)) (blkOk_by (own := [("_law_k", 6)]) (N := ["_law_wheel", "_law_dials", "_law_size", "_law_row", "_law_mask", "_law_made", "_law_k", "_law_i", "_law_span", "_law_j", "_law_above"]) (sc := defScope (topS 61)) (by decide +kernel))
        (fun _ _ _ _ _ => pg_name (i := 6) scWeighed.nd rfl (Or.inl rfl)) (fun _ _ _ _ _ => pts_nil) (fun _ _ _ _ _ => pe_op n_xor (pe_ix ixl (pv 3) (pv 6) (fun _ _ => rfl)) (pe_op n_shl pe_int (pv 6))))))))), ?_⟩
    obtain ⟨as, hd, has, hels⟩ := hP.ex
    have hn8 := g.len
    have hW : 0 < whole rs := pr_pos fun i hi => by have := g.ge2 i hi; omega
    have bigW : whole rs < 2 ^ 9000 := g.pr_lt (Nat.le_refl _)
    have bigV : ∀ i, i < rs.length → v i < 2 ^ 9000 := fun i hi => Nat.lt_of_le_of_lt (hv i hi) bigW
    have prl : ∀ S, pr (rr rs) S rs.length < 2 ^ 9000 := fun S => g.pr_lt (Nat.le_refl _)
    have h256 := pow8 hn8
    have hpos : 0 < 2 ^ rs.length := Nat.two_pow_pos _
    have dial : ∀ i, i < rs.length → ∃ b, as[i]? = some b ∧ H b = some (.tup [.int ((rr rs i : Nat) : Int), .int ((v i : Nat) : Int)]) := fun i hi => by
      obtain ⟨b, hb⟩ : ∃ b, as[i]? = some b := ⟨_, List.getElem?_eq_getElem (by omega)⟩
      exact ⟨b, hb, hels i b _ hb (hat i hi)⟩
    refine ⟨_, rfl, d, _, rs.length, rfl, .inr hd, by rw [List.length_map, has, hL], ?_⟩
    refine ⟨_, rfl, rs.length, rfl, by omega, fun R hR => lc_up0 (n := rs.length) (fun i H' => Same H H' ∧ H' R = some (.lst (nums (List.replicate i (2 ^ rs.length - 1))))) ⟨same_new hR, upd_same⟩ ?_ ?_⟩
    · rintro i H' hi ⟨sm, hl⟩
      refine ⟨rfl, yesT ?_⟩
      refine ⟨_, rfl, 1, rs.length, 2 ^ rs.length, rfl, rfl, ⟨by decide, by omega⟩, Nat.one_mul _, 2 ^ rs.length, 1, 2 ^ rs.length - 1, rfl, rfl, hpos, rfl, _, hl, ?_, same_mut sm hR, ?_⟩
      · rw [nums_len, List.length_replicate]
        exact sz8 (by omega)
      · rw [upd_same, nums_app, ← List.replicate_succ']
    rintro H1 ⟨sm1, hR1⟩
    refine ⟨_, rfl, 1, rs.length, 2 ^ rs.length, rfl, rfl, ⟨by decide, by omega⟩, Nat.one_mul _, 2 ^ rs.length, rfl, by omega, for_up0 (n := 2 ^ rs.length) (fun M σ H' => ∃ (v4 v5 v6 : Option V) (ms : List Nat), σ = [some (.int ((whole rs : Nat) : Int)), some (.ref d), some (.int ((rs.length : Nat) : Int)), some (.ref R), v4, v5, v6, none, none, none, none] ∧ Same H H' ∧ H' R = some (.lst (nums ms)) ∧ RowW rs v M ms)
      ⟨none, none, none, _, rfl, sm1, hR1, roww_start⟩ ?_ ?_⟩
    · rintro M σ H2 hM ⟨v4, v5, v6, ms, rfl, sm2, hR2, rw2⟩
      have M8 : M < 2 ^ 8 := Nat.lt_of_lt_of_le hM (Nat.pow_le_pow_right (by decide) hn8)
      have inM : ∀ (t k : Nat), (bits M)[t]? = some k → k < rs.length := fun t k h => bit_lt hM ((mem_bits M8).mp (List.mem_of_getElem? h))
      refine ⟨_, rfl, M, rfl, fun H3 b3 s23 f3 h3 => ?_⟩
      have sm3 := sm2.trans s23
      refine ⟨b3, rfl, ⟨_, SqL.of h3⟩, for_list (K := K) (a := b3) (xs := nums (bits M)) (fun t σ H' => ∃ (v6 : Option V), σ = [some (.int ((whole rs : Nat) : Int)), some (.ref d), some (.int ((rs.length : Nat) : Int)), some (.ref R), some (.int (M : Int)), some (.int ((pb (rr rs) ((bits M).take t) : Nat) : Int)), v6, none, none, none, none] ∧ H' = H3) ⟨v6, rfl, rfl⟩ (fun t σ H' _ ⟨_, _, e⟩ => e ▸ SqL.of h3) ?_ ?_⟩
      · rintro t x σ H' hx ⟨v6, rfl, rfl⟩
        obtain ⟨k, hk, rfl⟩ := nums_of hx
        have hkn := inM t k hk
        obtain ⟨b, hb, hbt⟩ := dial k hkn
        have ht8 : t ≤ 8 := by
          have := (List.getElem?_eq_some_iff.mp hk).1
          have := bits_len M
          omega
        refine ⟨_, rfl, _, rfl, _, rfl, d, _, k, _, rfl, rfl, sm3 _ _ hd, refs_get hb, b, _, 0, _, rfl, rfl, sm3 _ _ hbt, rfl, pb (rr rs) ((bits M).take t), rr rs k, rfl, rfl, ⟨pb_lt g ht8, g.el_lt⟩, some (.int (k : Int)), ?_, rfl⟩
        rw [take_add hk, pb_snoc]
        rfl
      rintro σ H' ⟨v6, rfl, rfl⟩
      rw [nums_len, List.take_length, pb_bits hM hn8]
      refine ⟨_, rfl, M, rfl, fun H4 b4 s34 f4 h4 => ?_⟩
      have sm4 := sm3.trans s34
      refine ⟨b4, rfl, ⟨_, SqL.of h4⟩, fun D hD => lc_list (K := K) (a := b4) (xs := nums (bits M)) (fun t H5 => Same H4 H5 ∧ H5 D = some (.lst (nums (((bits M).take t).filter fun k => decide (0 < (v k * pr (rr rs) (fun i => M.testBit i) rs.length) % whole rs))))) ⟨same_new hD, upd_same⟩ (fun t H5 _ ⟨sm, _⟩ => SqL.of (sm _ _ h4)) ?_ ?_⟩
      · rintro t x H5 hx ⟨sm5, hl5⟩
        obtain ⟨k, hk, rfl⟩ := nums_of hx
        have hkn := inM t k hk
        obtain ⟨b, hb, hbt⟩ := dial k hkn
        have s5 := sm4.trans sm5
        refine ⟨rfl, _, rfl, _, rfl, d, _, k, _, rfl, rfl, s5 _ _ hd, refs_get hb, b, _, 1, _, rfl, rfl, s5 _ _ hbt, rfl, _, rfl, v k, pr (rr rs) (fun i => M.testBit i) rs.length, rfl, rfl, ⟨bigV k hkn, prl _⟩, _, rfl, _, rfl, v k * pr (rr rs) (fun i => M.testBit i) rs.length, whole rs, rfl, rfl, hW, _, 0, rfl, rfl, _, rfl, ite2 (fun e => ?_) (fun e => ?_)⟩
        · have e : decide (0 < (v k * pr (rr rs) (fun i => M.testBit i) rs.length) % whole rs) = true := e
          refine ⟨_, rfl, _, hl5, ?_, same_mut sm5 hD, ?_⟩
          · rw [nums_len]
            refine sz8 (Nat.le_trans (List.length_filter_le _ _) ?_)
            rw [List.length_take]
            have := bits_len M
            omega
          · rw [upd_same, nums_app, take_add hk, List.filter_append, List.filter_cons, e]
            rfl
        · have e : decide (0 < (v k * pr (rr rs) (fun i => M.testBit i) rs.length) % whole rs) = false := by
            cases z : decide (0 < (v k * pr (rr rs) (fun i => M.testBit i) rs.length) % whole rs) with
            | false => rfl
            | true => exact (e z).elim
          refine ⟨sm5, ?_⟩
          rw [hl5, take_add hk, List.filter_append, List.filter_cons, e]
          simp
      rintro H5 ⟨sm5, hl5⟩
      rw [nums_len, List.take_length] at hl5
      have hcm : ((bits M).filter fun k => decide (0 < (v k * pr (rr rs) (fun i => M.testBit i) rs.length) % whole rs)).length = 0 ↔ Cm rs v M := by
        rw [List.length_eq_zero_iff, List.filter_eq_nil_iff]
        unfold Cm
        constructor
        · intro h k hk
          have := h k ((mem_bits M8).mpr hk)
          rw [decide_eq_true_eq] at this
          omega
        · intro h k hk
          rw [decide_eq_true_eq, h k ((mem_bits M8).mp hk)]
          omega
      have s5 := sm4.trans sm5
      have hR5 := (s23.trans (s34.trans sm5)) _ _ hR2
      refine ⟨D, _, _, rfl, .inl hl5, nums_len _, _, 0, rfl, rfl, _, rfl, ite2 (fun e => ?_) (fun e => ?_)⟩
      · have hc := hcm.mp (of_decide_eq_true e)
        refine ⟨_, rfl, M, rfl, fun H6 b6 s56 f6 h6 => ?_⟩
        have n6 : R ≠ b6 := ne_of_none hR5 f6
        refine ⟨b6, rfl, ⟨_, SqL.of h6⟩, for_list (K := K) (a := b6) (xs := nums (bits M)) (fun t σ H' => ∃ (v6 : Option V) (ms' : List Nat), σ = [some (.int ((whole rs : Nat) : Int)), some (.ref d), some (.int ((rs.length : Nat) : Int)), some (.ref R), some (.int (M : Int)), some (.int ((pr (rr rs) (fun i => M.testBit i) rs.length : Nat) : Int)), v6, none, none, none, none] ∧ Same H H' ∧ H' b6 = some (.lst (nums (bits M))) ∧ H' R = some (.lst (nums ms')) ∧ ms'.length = rs.length ∧ ∀ k, k < rs.length → ∀ j, mrel ms' k j = true ↔ mrel ms k j = true ∧ ((∃ t', t' < t ∧ (bits M)[t']? = some k) → M.testBit j = true))
          ⟨v6, ms, rfl, s5.trans s56, h6, s56 _ _ hR5, rw2.len, fun k hk j => ⟨fun h => ⟨h, fun ⟨t', h, _⟩ => by omega⟩, fun h => h.1⟩⟩ (fun t σ H' _ ⟨_, _, _, _, h, _⟩ => SqL.of h) ?_ ?_⟩
        · rintro t x σ H7 hx ⟨v6, ms', rfl, sm7, hq7, hR7, ml', new'⟩
          obtain ⟨k, hk, rfl⟩ := nums_of hx
          have hkn := inM t k hk
          refine ⟨_, rfl, _, rfl, R, _, k, _, rfl, rfl, hR7, nums_get0 (by omega), _, rfl, ms'.getD k 0, M, rfl, rfl, _, rfl, _, rfl, R, _, k, rfl, rfl, hR7, by rw [nums_len]; omega, ?_⟩
          rw [nums_set]
          refine ⟨_, ms'.set k (ms'.getD k 0 &&& M), rfl, same_mut sm7 hR, by rw [upd_ne n6.symm]; exact hq7, upd_same, by rw [List.length_set]; exact ml', fun l hl j => ?_⟩
          by_cases el : l = k
          · subst el
            have e1 : mrel (ms'.set l (ms'.getD l 0 &&& M)) l j = (mrel ms' l j && M.testBit j) := by
              unfold mrel
              rw [getD_set (by omega), if_pos rfl, Nat.testBit_and]
            rw [e1, Bool.and_eq_true, new' l hl j]
            constructor
            · rintro ⟨⟨h1, h2⟩, h3⟩
              exact ⟨h1, fun _ => h3⟩
            · rintro ⟨h1, h2⟩
              have := h2 ⟨t, by omega, hk⟩
              exact ⟨⟨h1, fun _ => this⟩, this⟩
          · have e1 : mrel (ms'.set k (ms'.getD k 0 &&& M)) l j = mrel ms' l j := by
              unfold mrel
              rw [getD_set (by omega), if_neg el]
            rw [e1, new' l hl j]
            refine and_congr_right fun _ => ⟨fun h ⟨t', h1, h2⟩ => ?_, fun h ⟨t', h1, h2⟩ => h ⟨t', by omega, h2⟩⟩
            by_cases et : t' = t
            · subst et
              rw [hk] at h2
              exact (el (Option.some.inj h2).symm).elim
            · exact h ⟨t', by omega, h2⟩
        · rintro σ H7 ⟨v6, ms', rfl, sm7, hq7, hR7, ml', new'⟩
          refine ⟨_, _, _, ms', rfl, sm7, hR7, roww_take rw2 hc ml' fun k hk j => ?_⟩
          rw [new' k hk j, nums_len]
          refine and_congr_right fun _ => ⟨fun h hb => ?_, fun h ⟨t', _, h2⟩ => h ((mem_bits M8).mp (List.mem_of_getElem? h2))⟩
          obtain ⟨t', ht'⟩ := List.getElem?_of_mem ((mem_bits M8).mpr hb)
          exact h ⟨t', (List.getElem?_eq_some_iff.mp ht').1, ht'⟩
      · exact ⟨_, _, _, ms, rfl, s5, hR5, roww_skip rw2 fun h => e (decide_eq_true (hcm.mpr h))⟩
    rintro σ H2 ⟨v4, v5, v6, ms, rfl, sm2, hR2, rw2⟩
    have mlt : ∀ i, ms.getD i 0 < 2 ^ rs.length := fun i => mask_lt fun i j h => (rw2.lt h).2
    have ml := rw2.len
    refine ⟨_, rfl, rs.length, rfl, by omega, for_up0 (n := rs.length) (fun i σ H' => ∃ (v6 v7 v8 v9 v10 : Option V), σ = [some (.int ((whole rs : Nat) : Int)), some (.ref d), some (.int ((rs.length : Nat) : Int)), some (.ref R), v4, v5, v6, v7, v8, v9, v10] ∧ Same H H' ∧ H' R = some (.lst (nums ms)) ∧ ∀ i', i' < i → ∀ j, j < rs.length → Good rs ms i' j)
      ⟨v6, none, none, none, none, rfl, sm2, hR2, fun i' h => by omega⟩ ?_ ?_⟩
    · rintro i σ H3 hi ⟨v6, v7, v8, v9, v10, rfl, sm3, hR3, gd⟩
      have M8 : ms.getD i 0 < 2 ^ 8 := Nat.lt_of_lt_of_le (mlt i) (Nat.pow_le_pow_right (by decide) hn8)
      obtain ⟨bi, hbi, hbti⟩ := dial i hi
      refine ⟨_, rfl, _, rfl, R, _, i, _, rfl, rfl, hR3, nums_get0 (by omega), ms.getD i 0, rfl, fun H4 b4 s34 f4 h4 => ?_⟩
      have sm4 := sm3.trans s34
      have hR4 := s34 _ _ hR3
      refine ⟨b4, rfl, ⟨_, SqL.of h4⟩, for_list (K := K) (a := b4) (xs := nums (bits (ms.getD i 0))) (fun t σ H' => ∃ (v6 : Option V), σ = [some (.int ((whole rs : Nat) : Int)), some (.ref d), some (.int ((rs.length : Nat) : Int)), some (.ref R), v4, v5, v6, some (.int (i : Int)), some (.int ((pb (rr rs) ((bits (ms.getD i 0)).take t) : Nat) : Int)), v9, v10] ∧ H' = H4) ⟨v6, rfl, rfl⟩ (fun t σ H' _ ⟨_, _, e⟩ => e ▸ SqL.of h4) ?_ ?_⟩
      · rintro t x σ H' hx ⟨v6, rfl, rfl⟩
        obtain ⟨k, hk, rfl⟩ := nums_of hx
        have hkn := bit_lt (mlt i) ((mem_bits M8).mp (List.mem_of_getElem? hk))
        obtain ⟨b, hb, hbt⟩ := dial k hkn
        have ht8 : t ≤ 8 := by
          have := (List.getElem?_eq_some_iff.mp hk).1
          have := bits_len (ms.getD i 0)
          omega
        refine ⟨_, rfl, _, rfl, _, rfl, d, _, k, _, rfl, rfl, sm4 _ _ hd, refs_get hb, b, _, 0, _, rfl, rfl, sm4 _ _ hbt, rfl, pb (rr rs) ((bits (ms.getD i 0)).take t), rr rs k, rfl, rfl, ⟨pb_lt g ht8, g.el_lt⟩, some (.int (k : Int)), ?_, rfl⟩
        rw [take_add hk, pb_snoc]
        rfl
      rintro σ H' ⟨v6, rfl, rfl⟩
      rw [nums_len, List.take_length, pb_bits (mlt i) hn8]
      have hspan : ∀ O0, StrW rs v O0 → v i * pr (rr rs) (fun j => (ms.getD i 0).testBit j) rs.length = whole rs := fun O0 s => str_span s rw2 hi
      refine ⟨_, rfl, _, rfl, d, _, i, _, rfl, rfl, sm4 _ _ hd, refs_get hbi, bi, _, 1, _, rfl, rfl, sm4 _ _ hbti, rfl, _, rfl, v i, pr (rr rs) (fun j => (ms.getD i 0).testBit j) rs.length, rfl, rfl, ⟨bigV i hi, prl _⟩, _, rfl, _, rfl, v i * pr (rr rs) (fun j => (ms.getD i 0).testBit j) rs.length, whole rs, rfl, rfl, hW, _, 0, rfl, rfl, _, rfl, ite2 (fun e => ?_) (fun e => ?_)⟩
      · refine q2 _ sm4 fun O0 s => ?_
        have e : 0 < (v i * pr (rr rs) (fun j => (ms.getD i 0).testBit j) rs.length) % whole rs := of_decide_eq_true e
        rw [hspan O0 s, Nat.mod_self] at e
        exact Nat.lt_irrefl _ e
      refine ⟨_, rfl, _, rfl, d, _, i, _, rfl, rfl, sm4 _ _ hd, refs_get hbi, bi, _, 1, _, rfl, rfl, sm4 _ _ hbti, rfl, _, rfl, v i, pr (rr rs) (fun j => (ms.getD i 0).testBit j) rs.length, rfl, rfl, ⟨bigV i hi, prl _⟩, _, rfl, v i * pr (rr rs) (fun j => (ms.getD i 0).testBit j) rs.length, whole rs, rfl, rfl, ⟨hW, bigW⟩, _, rfl, _, rfl, d, _, i, _, rfl, rfl, sm4 _ _ hd, refs_get hbi, bi, _, 0, _, rfl, rfl, sm4 _ _ hbti, rfl, _, rr rs i, rfl, _, 1, rfl, rfl, _, rfl, ite2 (fun e2 => ?_) (fun e2 => ?_)⟩
      · refine q2 _ sm4 fun O0 s => ?_
        have e2 := of_decide_eq_true e2
        dsimp only at e2
        rw [hspan O0 s, Nat.div_self hW, Nat.gcd_one_left] at e2
        exact Nat.lt_irrefl _ e2
      refine ⟨_, rfl, rs.length, rfl, by omega, for_up0 (n := rs.length) (fun j σ H5 => ∃ (v9 v10 : Option V), σ = [some (.int ((whole rs : Nat) : Int)), some (.ref d), some (.int ((rs.length : Nat) : Int)), some (.ref R), v4, v5, v6, some (.int (i : Int)), some (.int ((pr (rr rs) (fun j => (ms.getD i 0).testBit j) rs.length : Nat) : Int)), v9, v10] ∧ H5 = H' ∧ ∀ j', j' < j → Good rs ms i j') ⟨v9, v10, rfl, rfl, fun j' h => by omega⟩ ?_ ?_⟩
      · rintro j σ H5 hj ⟨v9, v10, rfl, rfl, gj⟩
        obtain ⟨bj, hbj, hbtj⟩ := dial j hj
        have stay : Good rs ms i j → ∀ j', j' < j + 1 → Good rs ms i j' := fun h j' hj' => by
          by_cases e : j' = j
          · rw [e]
            exact h
          · exact gj j' (by omega)
        refine ⟨_, rfl, _, rfl, R, _, j, _, rfl, rfl, hR4, nums_get0 (by omega), _, rfl, ms.getD j 0, i, rfl, rfl, ms.getD j 0 / 2 ^ i, 1, rfl, rfl, ?_⟩
        refine ⟨_, rfl, _, rfl, i, j, rfl, rfl, _, rfl, ite2 (fun e1 => ?_) (fun e1 => ?_)⟩
        · have e1 : i ≠ j := by simpa using e1
          refine ⟨_, rfl, _, rfl, R, _, i, _, rfl, rfl, hR4, nums_get0 (by omega), _, rfl, ms.getD i 0, j, rfl, rfl, ms.getD i 0 / 2 ^ j, 1, rfl, rfl, _, rfl, (ms.getD i 0 / 2 ^ j) &&& 1, (ms.getD j 0 / 2 ^ i) &&& 1, rfl, rfl, _, rfl, ite2 (fun e2 => ?_) (fun e2 => ?_)⟩
          · have e2 : decide (((ms.getD i 0 / 2 ^ j) &&& 1) = ((ms.getD j 0 / 2 ^ i) &&& 1)) = true := e2
            rw [bit_eq] at e2
            have e2 : mrel ms i j = mrel ms j i := of_decide_eq_true e2
            refine ⟨_, rfl, (ms.getD j 0 / 2 ^ i) &&& 1, 1, rfl, rfl, _, rfl, ite2 (fun e3 => ?_) (fun e3 => ?_)⟩
            · refine q2 _ sm4 fun O0 s => ?_
              have := (str_good s rw2 hi hj e1 e2).1
              have e3 : decide (((ms.getD j 0 / 2 ^ i) &&& 1) = 1) = true := e3
              rw [bit_one] at e3
              have e3 : mrel ms j i = true := e3
              rw [e3] at this
              cases this
            · have e3 : mrel ms j i = false := by
                cases z : mrel ms j i with
                | false => rfl
                | true =>
                  refine (e3 ?_).elim
                  show decide (((ms.getD j 0 / 2 ^ i) &&& 1) = 1) = true
                  rw [bit_one]
                  exact z
              refine ⟨_, rfl, _, rfl, d, _, i, _, rfl, rfl, sm4 _ _ hd, refs_get hbi, bi, _, 0, _, rfl, rfl, sm4 _ _ hbti, rfl, _, rfl, _, rfl, d, _, j, _, rfl, rfl, sm4 _ _ hd, refs_get hbj, bj, _, 0, _, rfl, rfl, sm4 _ _ hbtj, rfl, rr rs i, rr rs j, rfl, _, 1, rfl, rfl, _, rfl, ite2 (fun e4 => ?_) (fun e4 => ?_)⟩
              · refine q2 _ sm4 fun O0 s => ?_
                exact (str_good s rw2 hi hj e1 e2).2 (of_decide_eq_true e4)
              · exact ⟨_, _, rfl, rfl, stay fun _ _ => ⟨e3, fun h => e4 (decide_eq_true h)⟩⟩
          · refine iteF ⟨_, _, rfl, rfl, stay fun _ h => (e2 ?_).elim⟩
            show decide (((ms.getD i 0 / 2 ^ j) &&& 1) = ((ms.getD j 0 / 2 ^ i) &&& 1)) = true
            rw [bit_eq]
            exact decide_eq_true h
        · have e1 : i = j := by simpa using e1
          exact iteF ⟨_, _, rfl, rfl, stay fun h => (h e1).elim⟩
      · rintro σ H5 ⟨v9, v10, rfl, rfl, gj⟩
        refine ⟨_, _, _, _, _, rfl, sm4, hR4, fun i' hi' j hj => ?_⟩
        by_cases e : i' = i
        · rw [e]
          exact gj j hj
        · exact gd i' (by omega) j hj
    rintro σ H3 ⟨v6, v7, v8, v9, v10, rfl, sm3, hR3, gd⟩
    refine ⟨_, rfl, rs.length, rfl, by omega, fun D hD => lc_up0 (n := rs.length) (fun k H4 => Same H3 H4 ∧ H4 D = some (.lst (nums ((List.range k).map fun i => ms.getD i 0 ^^^ 2 ^ i)))) ⟨same_new hD, upd_same⟩ ?_ ?_⟩
    · rintro k H4 hk ⟨sm4, hl4⟩
      refine ⟨rfl, yesT ?_⟩
      refine ⟨_, rfl, _, rfl, R, _, k, _, rfl, rfl, sm4 _ _ hR3, nums_get0 (by omega), _, rfl, 1, k, rfl, rfl, ⟨by decide, by omega⟩, ms.getD k 0, 1 * 2 ^ k, rfl, rfl, _, hl4, ?_, same_mut sm4 hD, ?_⟩
      · rw [nums_len, List.length_map, List.length_range]
        exact sz8 (by omega)
      · rw [upd_same, nums_app, Nat.one_mul, List.range_succ, List.map_append]
        rfl
    · rintro H4 ⟨sm4, hl4⟩
      have go := good_ord rw2 fun i j hi hj => gd i hi j hj
      exact q1 H4 D _ (Off ms) (sm3.trans sm4) hl4 (by rw [List.length_map, List.length_range]) (off_masks rw2) go.1 go.2 fun O0 s => str_off s rw2
end
end WW

set_option Elab.async false
set_option linter.all false
set_option maxRecDepth 100000
set_option maxHeartbeats 4000000
/-! W25: _law_depth_by_weights -/
namespace WW
open PySem PySem.Spec PyProof.Rows L2
def wts (W : Nat) : List Nat := 0 :: (((List.range (W - 1)).map fun k => 1 + k).filter fun k => decide (W % k = 0))
theorem mem_wts {W w : Nat} (h : w ∣ W) (hl : w < W) : w ∈ wts W := by
  unfold wts
  rcases Nat.eq_zero_or_pos w with e | e
  · rw [e]
    exact List.mem_cons_self
  · refine List.mem_cons_of_mem _ (List.mem_filter.mpr ⟨List.mem_map.mpr ⟨w - 1, List.mem_range.mpr (by omega), by omega⟩, ?_⟩)
    rw [decide_eq_true_eq]
    exact Nat.mod_eq_zero_of_dvd h
theorem wts_le {W w : Nat} (h : w ∈ wts W) : w ≤ W := by
  unfold wts at h
  rcases List.mem_cons.mp h with e | e
  · omega
  · obtain ⟨k, hk, rfl⟩ := List.mem_map.mp (List.mem_filter.mp e).1
    have := List.mem_range.mp hk
    omega
theorem wts_len (W : Nat) : (wts W).length ≤ W + 1 := by
  unfold wts
  rw [List.length_cons]
  have := List.length_filter_le (fun k => decide (W % k = 0)) ((List.range (W - 1)).map fun k => 1 + k)
  rw [List.length_map, List.length_range] at this
  omega
def bstep (ws : List Nat) (m : Nat) (L : List (Nat × Nat)) : List (List (Nat × Nat)) := ws.map fun w => L ++ [(m, w)]
def brds (ws : List Nat) (r : Nat → Nat) : Nat → List (List (Nat × Nat))
  | 0 => [[]]
  | i + 1 => (brds ws r i).flatMap (bstep ws (r i))
theorem brds_len (ws : List Nat) (m : Nat) : ∀ BL : List (List (Nat × Nat)), (BL.flatMap (bstep ws m)).length = BL.length * ws.length
  | [] => (Nat.zero_mul _).symm
  | L :: BL => by
    rw [List.flatMap_cons, List.length_append, brds_len ws m BL, List.length_cons, Nat.succ_mul, Nat.add_comm]
    unfold bstep
    rw [List.length_map]
theorem brds_sound {ws : List Nat} {r : Nat → Nat} : ∀ {i : Nat} {L : List (Nat × Nat)}, L ∈ brds ws r i → L.length = i ∧ ∀ j, j < i → ∃ v ∈ ws, L[j]? = some (r j, v)
  | 0, L, h => by
    rw [List.mem_singleton.mp h]
    exact ⟨rfl, fun j hj => by omega⟩
  | i + 1, L, h => by
    obtain ⟨L0, h0, h1⟩ := List.mem_flatMap.mp h
    obtain ⟨w, hw, rfl⟩ := List.mem_map.mp h1
    have ih := brds_sound h0
    refine ⟨by rw [List.length_append, ih.1]; rfl, fun j hj => ?_⟩
    by_cases e : j = i
    · subst e
      exact ⟨w, hw, by rw [List.getElem?_append_right (by omega), ih.1, Nat.sub_self]; rfl⟩
    · obtain ⟨v, hv, h⟩ := ih.2 j (by omega)
      exact ⟨v, hv, by rw [List.getElem?_append_left (by omega)]; exact h⟩
theorem brds_all {ws : List Nat} {r : Nat → Nat} (f : Nat → Nat) : ∀ {i : Nat}, (∀ j, j < i → f j ∈ ws) → ∃ L ∈ brds ws r i, L.length = i ∧ ∀ j, j < i → L[j]? = some (r j, f j)
  | 0, _ => ⟨[], List.mem_singleton.mpr rfl, rfl, fun j hj => by omega⟩
  | i + 1, h => by
    obtain ⟨L, hL, hl, hj⟩ := brds_all f (i := i) fun j hj => h j (by omega)
    refine ⟨L ++ [(r i, f i)], List.mem_flatMap.mpr ⟨L, hL, List.mem_map.mpr ⟨f i, h i (by omega), rfl⟩⟩, by rw [List.length_append, hl]; rfl, fun j hjj => ?_⟩
    by_cases e : j = i
    · subst e
      rw [List.getElem?_append_right (by omega), hl, Nat.sub_self]
      rfl
    · rw [List.getElem?_append_left (by omega)]
      exact hj j (by omega)
/-! ### boards as they lie -/
theorem PairsAt.upd {H : Hp} {p G : Addr} {o : HO} {xs : List V} {L : List (Nat × Nat)} (h : PairsAt H p L) (hG : H G = some (.lst xs)) : PairsAt (L2.upd H G o) p L := by
  obtain ⟨as, h1, h2, h3⟩ := h.ex
  refine ⟨as, ?_, h2, fun k a ij e1 e2 => ?_⟩
  · rw [upd_ne (ne_of h1 hG (by intro z; cases z))]
    exact h1
  · have := h3 k a ij e1 e2
    rw [upd_ne (ne_of this hG (by intro z; cases z))]
    exact this
def BoardsAt (H : Hp) (bs : List Addr) (BL : List (List (Nat × Nat))) : Prop := bs.length = BL.length ∧ ∀ (k : Nat) (b : Addr) (L : List (Nat × Nat)), bs[k]? = some b → BL[k]? = some L → PairsAt H b L
theorem BoardsAt.mono {H H' : Hp} {bs : List Addr} {BL : List (List (Nat × Nat))} (h : BoardsAt H bs BL) (s : Same H H') : BoardsAt H' bs BL := ⟨h.1, fun k b L e1 e2 => (h.2 k b L e1 e2).mono s⟩
theorem BoardsAt.upd {H : Hp} {G : Addr} {o : HO} {xs : List V} {bs : List Addr} {BL : List (List (Nat × Nat))} (h : BoardsAt H bs BL) (hG : H G = some (.lst xs)) : BoardsAt (L2.upd H G o) bs BL := ⟨h.1, fun k b L e1 e2 => (h.2 k b L e1 e2).upd hG⟩
theorem BoardsAt.app {H : Hp} {bs cs : List Addr} {BL CL : List (List (Nat × Nat))} (h : BoardsAt H bs BL) (h' : BoardsAt H cs CL) : BoardsAt H (bs ++ cs) (BL ++ CL) := by
  refine ⟨by rw [List.length_append, List.length_append, h.1, h'.1], fun k b L e1 e2 => ?_⟩
  by_cases e : k < bs.length
  · rw [List.getElem?_append_left e] at e1
    rw [List.getElem?_append_left (by rw [← h.1]; exact e)] at e2
    exact h.2 k b L e1 e2
  · rw [List.getElem?_append_right (by omega)] at e1
    rw [List.getElem?_append_right (by have := h.1; omega), ← h.1] at e2
    exact h'.2 _ b L e1 e2
theorem BoardsAt.one {H : Hp} {b : Addr} {L : List (Nat × Nat)} (h : PairsAt H b L) : BoardsAt H [b] [L] := by
  refine ⟨rfl, fun k b' L' e1 e2 => ?_⟩
  have : k = 0 := by
    have := (List.getElem?_eq_some_iff.mp e1).1
    simpa using this
  subst this
  cases e1
  cases e2
  exact h
theorem PairsAt.snoc {H H4 : Hp} {b p p2 : Addr} {L : List (Nat × Nat)} {ij : Nat × Nat} {as : List Addr} (s : Same H H4) (hb : H b = some (.tup (as.map V.ref))) (hl : as.length = L.length) (h : ∀ (k : Nat) (a : Addr) (ij : Nat × Nat), as[k]? = some a → L[k]? = some ij → H a = some (.tup [.int (ij.1 : Int), .int (ij.2 : Int)]))
    (hp : H4 p = some (.tup (as.map V.ref ++ [.ref p2]))) (h2 : H4 p2 = some (.tup [.int (ij.1 : Int), .int (ij.2 : Int)])) : PairsAt H4 p (L ++ [ij]) := by
  refine ⟨as ++ [p2], by rw [hp, List.map_append]; rfl, by rw [List.length_append, List.length_append, hl]; rfl, fun k a x e1 e2 => ?_⟩
  by_cases e : k < as.length
  · rw [List.getElem?_append_left e] at e1
    rw [List.getElem?_append_left (by rw [← hl]; exact e)] at e2
    exact s _ _ (h k a x e1 e2)
  · rw [List.getElem?_append_right (by omega)] at e1
    rw [List.getElem?_append_right (by omega), ← hl] at e2
    have e0 : k - as.length = 0 := by
      have := (List.getElem?_eq_some_iff.mp e1).1
      simpa using this
    rw [e0] at e1 e2
    cases e1
    cases e2
    exact h2
theorem byCol_fits {rs : List Nat} {c : Nat → Nat} (hc : ∀ i j, i < rs.length → j < rs.length → tie rs i j = true → c i ≠ c j) : Fits rs.length (tie rs) (byCol rs.length c) := fun i j hi hj ht => by
  have := hc i j hi hj ht
  rcases Nat.lt_or_ge (c j) (c i) with q | q
  · exact .inl (byCol_iff.mpr ⟨hi, hj, q⟩)
  · exact .inr (byCol_iff.mpr ⟨hj, hi, by omega⟩)
theorem byCol_fit {rs : List Nat} (g : Rgs rs) {c : Nat → Nat} (hc : ∀ i j, i < rs.length → j < rs.length → tie rs i j = true → c i ≠ c j) : Fit rs.length (rr rs) (byCol rs.length c) :=
  ⟨byCol_ord _ _, g.ge2, fun i j hi hj hne hcp => byCol_fits hc i j hi hj (by
    unfold tie
    have h1 : Nat.gcd (rr rs i) (rr rs j) ≠ 1 := hcp
    have h2 : 0 < Nat.gcd (rr rs i) (rr rs j) := Nat.gcd_pos_of_pos_left _ (by have := g.ge2 i hi; omega)
    rw [Bool.and_eq_true, decide_eq_true_eq, decide_eq_true_eq]
    omega)⟩
theorem byCol_mono (n : Nat) (c : Nat → Nat) : Mono (byCol n c) c := fun i j h => (byCol_iff.mp h).2.2
/-- a colouring by k colours -/
def Kol (rs : List Nat) (k : Nat) (c : Nat → Nat) : Prop := (∀ i, i < rs.length → c i < k) ∧ ∀ i j, i < rs.length → j < rs.length → tie rs i j = true → c i ≠ c j
theorem kol_ex {rs : List Nat} {k : Nat} (h : Chi (tie rs) (full rs.length) k) : ∃ c, Kol rs k c := by
  obtain ⟨⟨c, h1, h2⟩, _⟩ := h
  have fb : ∀ i, i < rs.length → (full rs.length).testBit i = true := fun i hi => by
    rw [full_bit]
    exact decide_eq_true hi
  exact ⟨c, fun i hi => h1 i (fb i hi), fun i j hi hj ht => h2 i j (fb i hi) (fb j hj) ht⟩
section
variable {X : Cx}
def rMin2 : List V → Hp → VK → Prop := fun xs H Q => ∃ a b : Nat, xs = [.int (a : Int), .int (b : Int)] ∧ Q (.int ((min a b : Nat) : Int)) H
theorem c_min2 (hc : X.calm = true) : CallR X (.builtin "min") rMin2 := CallR.of (call_min2 hc) fun xs H Q ⟨a, b, e, q⟩ => ⟨_, _, e, by
  have : (if (b : Int) < (a : Int) then (b : Int) else (a : Int)) = ((min a b : Nat) : Int) := by
    split <;> omega
  rw [this]
  exact q⟩
end
section
variable {P : Program} {w : World} {K : PySem.W.Frag} {mg : Str → Option Value} {base : Heap}
def spByW : Sp := fun vs H Q _ => ∃ (a : Addr) (rs : List Nat), vs = [.int ((whole rs : Nat) : Int), .ref a] ∧ H a = some (.tup (nums rs)) ∧ Rgs rs ∧ whole rs ≤ 120 ∧
  ∀ H' (z : Int), Same H H' → (z = -1 ∨ ∃ m : Nat, z = (m : Int) ∧ ∀ k, Chi (tie rs) (full rs.length) k → m = k - 1) → Q (.int z) H'
theorem scByW : FnScope ["_law_wheel", "_law_ranges", "_law_weights", "_law_boards", "_law_made", "_law_grown", "_law_board", "_law_best", "_law_row", "_law_k", "_law_weight"] ["_law_wheel", "_law_ranges"] (defScope (topS 62)) := ⟨rfl, rfl, rfl, by decide +kernel, rfl, by decide +kernel, by decide +kernel⟩
theorem cal_by_weights (D : Dfn K mg "_law_depth_by_weights" (topS 62) ["_law_wheel", "_law_ranges"]) (B : Blt mg) (c1 : Cal P w K mg base "_law_weighed" 2 ["_law_wheel", "_law_dials"] spWeighed) (c2 : Cal P w K mg base "_law_depth" 2 ["_law_row"] spDepth) : Cal P w K mg base "_law_depth_by_weights" 3 ["_law_wheel", "_law_ranges"] spByW := by
  refine D.cal scByW (fun vs H Q E h => ?_) (fun f cdv A outer s H vs Q E hr h => ?_)
  · obtain ⟨a, rs, rfl, _⟩ := h
    rfl
  · obtain ⟨a, rs, rfl, ha, g, h120, q⟩ := h
    refine ⟨_, pss_cons (ps_set (i := 2) scByW.nd rfl (Or.inl rfl) (pe_op op_cat (pe_lst (pa_cons pe_int pa_nil)) (pe_lc (own := [("_law_k", 9)]) (g := gName 9) rfl scByW.nd (up2_run rfl B.range (pa_cons pe_int (pa_cons (pv 0) pa_nil))) (blkOk_by (own := [("_law_k", 9)]) (N := ["_law_wheel", "_law_ranges", "_law_weights", "_law_boards", "_law_made", "_law_grown", "_law_board", "_law_best", "_law_row", "_law_k", "_law_weight"]) (sc := defScope (topS 62)) (by decide +kernel))
        (fun _ _ _ _ _ => pg_name (i := 9) scByW.nd rfl (Or.inl rfl)) (fun _ _ _ _ _ => pts_one (pt_cmpR n_eq (pe_op n_mod (pe_callTy (T := "int") c_intn (by rfl) B.int (by decide +kernel) (pa_cons (pv 0) pa_nil)) (pv 9)) pe_int (nomark _))) (fun _ _ _ _ _ => pv 9))))
      (pss_cons (ps_set (i := 3) scByW.nd rfl (Or.inl rfl) (pe_lst (pa_cons (pe_tup pa_nil) pa_nil)))
      (pss_cons (ps_for PassesOwn.never rfl (pi_tup (pv 1)) (pg_name (i := 4) scByW.nd rfl (Or.inr rfl))
        (pss_cons (ps_set (i := 5) scByW.nd rfl (Or.inl rfl) (pe_lst pa_nil))
        (pss_cons (ps_for PassesOwn.never rfl (pi_list (pv 3)) (pg_name (i := 6) scByW.nd rfl (Or.inr rfl))
          (pss_one (ps_expr (pe_bm PySem.F.plainAttrs_list PySem.F.slot_list_extend PySem.F.type_list_extend mt_extend (pv 5) (pa_cons
            (pe_lc (own := [("_law_weight", 10)]) (g := gName 10) rfl scByW.nd (pi_list (pv 2)) (blkOk_by (own := [("_law_weight", 10)]) (N := ["_law_wheel", "_law_ranges", "_law_weights", "_law_boards", "_law_made", "_law_grown", "_law_board", "_law_best", "_law_row", "_law_k", "_law_weight"]) (sc := defScope (topS 62)) (by decide +kernel))
              (fun _ _ _ _ _ => pg_name (i := 10) scByW.nd rfl (Or.inl rfl)) (fun _ _ _ _ _ => pts_nil) (fun _ _ _ _ _ => pe_op op_cat1 (pv 6) (pe_tup (pa_cons (pe_tup (pa_cons (pv 4) (pa_cons (pv 10) pa_nil))) pa_nil)))) pa_nil)))))
        (pss_cons (ps_set (i := 3) scByW.nd rfl (Or.inl rfl) (pv 5))
        (pss_one (ps_if (pt_cmpR n_gt (pe_callB c_len (by rfl) B.len PySem.boot_len (pa_cons (pv 3) pa_nil)) pe_int (nomark _)) (pss_one (ps_ret (pe_un un_neg pe_int))) pss_nil))))))
      (pss_cons (ps_set (i := 7) scByW.nd rfl (Or.inl rfl) pe_int)
      (pss_cons (ps_for PassesOwn.never rfl (pi_list (pv 3)) (pg_name (i := 6) scByW.nd rfl (Or.inr rfl))
        (pss_cons (ps_set (i := 8) scByW.nd rfl (Or.inl rfl) (pe_cal c1 hr (by decide) (pa_cons (pv 0) (pa_cons (pv 6) pa_nil))))
        (pss_one (ps_if (pt_cmpR op_notN (pv 8) pe_non (nomark _)) (pss_one (ps_set (i := 7) scByW.nd rfl (Or.inl rfl) (pe_callB (c_min2 rfl) (by rfl) B.min (by decide +kernel) (pa_cons (pv 7) (pa_cons (pe_cal c2 hr (by decide) (pa_cons (pv 8) pa_nil)) pa_nil))))) pss_nil))))
      (pss_one (ps_ret (pv 7))))))), ?_⟩
    have hn8 := g.len
    have hW : 0 < whole rs := pr_pos fun i hi => by have := g.ge2 i hi; omega
    have wl := wts_len (whole rs)
    -- the weights
    refine ⟨by show 1 ≤ sizeLine; decide, fun A1 h1 => ?_⟩
    have s1 : Same H (upd H A1 (.lst [.int 0])) := same_new h1
    refine ⟨_, rfl, 1, whole rs, rfl, by decide, by omega, fun D hD => lc_up (lo := 1) (n := whole rs - 1) (fun i H' => Same (upd H A1 (.lst [.int 0])) H' ∧ H' D = some (.lst (nums (((List.range i).map fun k => 1 + k).filter fun k => decide (whole rs % k = 0))))) ⟨same_new hD, upd_same⟩ ?_ ?_⟩
    · rintro i H' hi ⟨sm, hl⟩
      refine ⟨rfl, _, rfl, _, rfl, _, rfl, whole rs, 1 + i, rfl, rfl, by omega, _, 0, rfl, rfl, _, rfl, ite2 (fun e => ?_) (fun e => ?_)⟩
      · have e : decide (whole rs % (1 + i) = 0) = true := e
        refine ⟨_, rfl, _, hl, ?_, same_mut sm hD, ?_⟩
        · rw [nums_len]
          refine sz8 (Nat.le_trans (List.length_filter_le _ _) ?_)
          rw [List.length_map, List.length_range]
          omega
        · rw [upd_same, nums_app, List.range_succ, List.map_append, List.filter_append, List.map_singleton, List.filter_cons, e]
          rfl
      · have e : decide (whole rs % (1 + i) = 0) = false := by
          cases z : decide (whole rs % (1 + i) = 0) with
          | false => rfl
          | true => exact (e z).elim
        refine ⟨sm, ?_⟩
        rw [hl, List.range_succ, List.map_append, List.filter_append, List.map_singleton, List.filter_cons, e]
        simp
    rintro H2 ⟨sm2, hl2⟩
    refine ⟨A1, D, _, _, rfl, rfl, sm2 _ _ upd_same, hl2, ?_, fun wa hwa => ?_⟩
    · rw [nums_len]
      have e : [V.int 0].length = 1 := rfl
      rw [e]
      unfold wts at wl
      rw [List.length_cons] at wl
      exact sz8' (by omega)
    have ew : ([V.int 0] ++ nums (((List.range (whole rs - 1)).map fun k => 1 + k).filter fun k => decide (whole rs % k = 0))) = nums (wts (whole rs)) := rfl
    rw [ew]
    have s3 : Same H2 (upd H2 wa (.lst (nums (wts (whole rs))))) := same_new hwa
    have s03 := (s1.trans sm2).trans s3
    have hwt : (upd H2 wa (.lst (nums (wts (whole rs))))) wa = some (.lst (nums (wts (whole rs)))) := upd_same
    generalize upd H2 wa (.lst (nums (wts (whole rs)))) = H3 at s03 hwt
    -- the boards
    refine ⟨Nat.zero_le _, fun e0 he0 => ⟨by show 1 ≤ sizeLine; decide, fun B0 hB0 => ?_⟩⟩
    have s4 : Same H3 (upd H3 e0 (.tup [])) := same_new he0
    have s5 : Same (upd H3 e0 (.tup [])) (upd (upd H3 e0 (.tup [])) B0 (.lst [.ref e0])) := same_new hB0
    refine ⟨_, rfl, a, rfl, ⟨_, SqT.of ((s03.trans (s4.trans s5)) _ _ ha)⟩, for_tup (K := K) (a := a) (xs := nums rs) (fun i σ H' => ∃ (v4 v5 v6 : Option V) (Bd : Addr) (bs : List Addr), σ = [some (.int ((whole rs : Nat) : Int)), some (.ref a), some (.ref wa), some (.ref Bd), v4, v5, v6, none, none, none, none] ∧ Same H3 H' ∧ H' Bd = some (.lst (bs.map V.ref)) ∧ BoardsAt H' bs (brds (wts (whole rs)) (rr rs) i) ∧ (brds (wts (whole rs)) (rr rs) i).length ≤ 300)
      ⟨none, none, none, B0, [e0], rfl, s4.trans s5, upd_same, BoardsAt.one ⟨[], s5 _ _ upd_same, rfl, fun k b ij hk => by simp at hk⟩, by show 1 ≤ 300; decide⟩ (fun i σ H' _ ⟨_, _, _, _, _, _, sm, _⟩ => SqT.of (sm _ _ (s03 _ _ ha))) ?_ ?_⟩
    · rintro i x σ H4 hx ⟨v4, v5, v6, Bd, bs, rfl, sm4, hB4, ba4, bl4⟩
      obtain ⟨m, hm, rfl⟩ := nums_of hx
      have hrm : rr rs i = m := rr_get hm
      refine ⟨Nat.zero_le _, fun G hG => ?_⟩
      have sG : Same H4 (upd H4 G (.lst [])) := same_new hG
      have gl : ∀ t, (((brds (wts (whole rs)) (rr rs) i).take t).flatMap (bstep (wts (whole rs)) m)).length ≤ 36300 := fun t => by
        rw [brds_len, List.length_take]
        have h1 : min t (brds (wts (whole rs)) (rr rs) i).length ≤ 300 := by omega
        have h2 : (wts (whole rs)).length ≤ 121 := by omega
        exact Nat.mul_le_mul h1 h2
      refine ⟨_, rfl, Bd, rfl, ⟨_, SqL.of (sG _ _ hB4)⟩, for_list (K := K) (a := Bd) (xs := bs.map V.ref) (fun t σ H' => ∃ (v6 : Option V) (gs : List Addr), σ = [some (.int ((whole rs : Nat) : Int)), some (.ref a), some (.ref wa), some (.ref Bd), some (.int (m : Int)), some (.ref G), v6, none, none, none, none] ∧ Same H4 H' ∧ H' G = some (.lst (gs.map V.ref)) ∧ BoardsAt H' gs (((brds (wts (whole rs)) (rr rs) i).take t).flatMap (bstep (wts (whole rs)) m)))
        ⟨v6, [], rfl, sG, upd_same, by
          rw [List.take_zero]
          exact ⟨rfl, fun k b L hk => by simp at hk⟩⟩ (fun t σ H' _ ⟨_, _, _, sm, _⟩ => SqL.of (sm _ _ hB4)) ?_ ?_⟩
      · rintro t x σ H5 hx ⟨v6, gs, rfl, sm5, hG5, ba5⟩
        obtain ⟨b, hb, rfl⟩ := refs_of hx
        obtain ⟨L, hL⟩ : ∃ L, (brds (wts (whole rs)) (rr rs) i)[t]? = some L := ⟨_, List.getElem?_eq_getElem (by rw [← ba4.1]; exact (List.getElem?_eq_some_iff.mp hb).1)⟩
        have hP5 := (ba4.2 t b L hb hL).mono sm5
        obtain ⟨as, p1, p2, p3⟩ := hP5.ex
        have Ll := (brds_sound (List.mem_of_getElem? hL)).1
        have hi : i < rs.length := (List.getElem?_eq_some_iff.mp hm).1
        refine ⟨_, rfl, .inl ⟨rfl, _, SqL.of hG5⟩, ?_⟩
        refine ⟨_, rfl, wa, rfl, ⟨_, SqL.of (sm5 _ _ (sm4 _ _ hwt))⟩, fun D2 hD2 => lc_list (K := K) (a := wa) (xs := nums (wts (whole rs))) (fun u H' => ∃ ds : List Addr, Same H5 H' ∧ H' D2 = some (.lst (ds.map V.ref)) ∧ BoardsAt H' ds (((wts (whole rs)).take u).map fun w => L ++ [(m, w)]))
          ⟨[], same_new hD2, upd_same, rfl, fun k b L hk => by simp at hk⟩ (fun u H' _ ⟨_, sm, _⟩ => SqL.of (sm _ _ (sm5 _ _ (sm4 _ _ hwt)))) ?_ ?_⟩
        · rintro u x H6 hx ⟨ds, sm6, hl6, ba6⟩
          obtain ⟨w, hw, rfl⟩ := nums_of hx
          refine ⟨rfl, yesT ?_⟩
          refine ⟨_, rfl, _, rfl, _, rfl, by show 2 ≤ sizeLine; decide, fun q2 hq2 => ⟨by show 1 ≤ sizeLine; decide, fun t1 ht1 => ?_⟩⟩
          have s67 : Same H6 (upd H6 q2 (.tup [.int (m : Int), .int (w : Int)])) := same_new hq2
          have s78 : Same (upd H6 q2 (.tup [.int (m : Int), .int (w : Int)])) (upd (upd H6 q2 (.tup [.int (m : Int), .int (w : Int)])) t1 (.tup [.ref q2])) := same_new ht1
          refine ⟨b, t1, _, _, rfl, rfl, (s67.trans s78) _ _ (sm6 _ _ p1), upd_same, ?_, fun pn H8 s89 hpn hfr => ?_⟩
          · rw [List.length_map, p2, Ll]
            exact sz8' (by omega)
          have s68 := (s67.trans s78).trans s89
          have hl8 := s68 _ _ hl6
          refine ⟨_, hl8, ?_, ds ++ [pn], same_mut (sm6.trans s68) hD2, by rw [upd_same, List.map_append]; rfl, ?_⟩
          · rw [List.length_map, ba6.1, List.length_map, List.length_take]
            exact sz8 (by omega)
          · rw [take_add hw, List.map_append]
            exact BoardsAt.app ((ba6.mono s68).upd hl8) (BoardsAt.one ((PairsAt.snoc (ij := (m, w)) (sm6.trans s68) p1 p2 p3 hpn ((s78.trans s89) _ _ upd_same)).upd hl8))
        · rintro H6 ⟨ds, sm6, hl6, ba6⟩
          rw [nums_len, List.take_length] at ba6
          have hG6 := sm6 _ _ hG5
          refine ⟨G, D2, _, _, rfl, rfl, hG6, hl6, ?_, ?_⟩
          · rw [List.length_map, List.length_map, ba5.1, ba6.1, List.length_map]
            have := gl t
            exact sz8' (by omega)
          · refine ⟨_, gs ++ ds, rfl, ?_, by rw [upd_same, List.map_append], ?_⟩
            · exact same_mut (sm5.trans sm6) hG
            · rw [take_add hL, List.flatMap_append, List.flatMap_cons, List.flatMap_nil, List.append_nil]
              exact BoardsAt.app ((ba5.mono sm6).upd hG6) (ba6.upd hG6)
      · rintro σ H5 ⟨v6, gs, rfl, sm5, hG5, ba5⟩
        rw [List.length_map, ba4.1, List.take_length, ← hrm] at ba5
        have bl5 : (brds (wts (whole rs)) (rr rs) (i + 1)).length ≤ 36300 := by
          have := gl (brds (wts (whole rs)) (rr rs) i).length
          rw [List.take_length, ← hrm] at this
          exact this
        refine ⟨_, rfl, _, rfl, G, _, (brds (wts (whole rs)) (rr rs) (i + 1)).length, rfl, .inl hG5, by rw [List.length_map, ba5.1]; rfl, _, 300, rfl, rfl, _, rfl, ite2 (fun e => ?_) (fun e => ?_)⟩
        · exact ⟨1, rfl, q _ (-1) ((s03.trans sm4).trans sm5) (.inl rfl)⟩
        · refine ⟨_, _, _, G, gs, rfl, sm4.trans sm5, hG5, ba5, ?_⟩
          have : ¬ 300 < (brds (wts (whole rs)) (rr rs) (i + 1)).length := fun h => e (decide_eq_true h)
          omega
    rintro σ H4 ⟨v4, v5, v6, Bd, bs, rfl, sm4, hB4, ba4, bl4⟩
    rw [nums_len] at ba4 bl4
    have s04 := s03.trans sm4
    refine ⟨_, rfl, Bd, rfl, ⟨_, SqL.of hB4⟩, for_list (K := K) (a := Bd) (xs := bs.map V.ref) (fun t σ H' => ∃ (v6 v8 : Option V) (best : Nat), σ = [some (.int ((whole rs : Nat) : Int)), some (.ref a), some (.ref wa), some (.ref Bd), v4, v5, v6, some (.int (best : Int)), v8, none, none] ∧ Same H4 H' ∧ (∀ k, Chi (tie rs) (full rs.length) k → k - 1 ≤ best) ∧
        ∀ k c t' L, Chi (tie rs) (full rs.length) k → Kol rs k c → t' < t → (brds (wts (whole rs)) (rr rs) rs.length)[t']? = some L → (∀ i, i < rs.length → L[i]? = some (rr rs i, wt rs.length (rr rs) (byCol rs.length c) i)) → best ≤ k - 1)
      ⟨v6, none, 9, rfl, Same.refl H4, fun k hk => ?_, fun k c t' L _ _ h => by omega⟩ (fun t σ H' _ ⟨_, _, _, _, sm, _⟩ => SqL.of (sm _ _ hB4)) ?_ ?_⟩
    · have := chi_le (tie_irr rs) (full_lt rs.length) hk
      omega
    · rintro t x σ H5 hx ⟨v6, v8, best, rfl, sm5, lo, hi5⟩
      obtain ⟨b, hb, rfl⟩ := refs_of hx
      obtain ⟨L, hL⟩ : ∃ L, (brds (wts (whole rs)) (rr rs) rs.length)[t]? = some L := ⟨_, List.getElem?_eq_getElem (by rw [← ba4.1]; exact (List.getElem?_eq_some_iff.mp hb).1)⟩
      have hP5 := (ba4.2 t b L hb hL).mono sm5
      obtain ⟨Ll, Lv⟩ := brds_sound (List.mem_of_getElem? hL)
      have Lat : ∀ i, i < rs.length → L[i]? = some (rr rs i, (L.getD i (0, 0)).2) := fun i hi => by
        obtain ⟨v, _, e⟩ := Lv i hi
        rw [List.getD_eq_getElem?_getD, e]
        rfl
      have Lle : ∀ i, i < rs.length → (L.getD i (0, 0)).2 ≤ whole rs := fun i hi => by
        obtain ⟨v, hv, e⟩ := Lv i hi
        rw [List.getD_eq_getElem?_getD, e]
        exact wts_le hv
      have str : ∀ k c, Kol rs k c → (∀ i, i < rs.length → L[i]? = some (rr rs i, wt rs.length (rr rs) (byCol rs.length c) i)) → StrW rs (fun i => (L.getD i (0, 0)).2) (byCol rs.length c) := fun k c hk h => ⟨byCol_fit g hk.2, fun i hi => by
        show (L.getD i (0, 0)).2 = _
        rw [List.getD_eq_getElem?_getD, h i hi]
        rfl⟩
      refine ⟨_, rfl, _, rfl, b, rs, L, fun i => (L.getD i (0, 0)).2, rfl, hP5, Ll, Lat, g, Lle, fun H6 q6 ms O s56 h6 ml hO ho hf hstr => ?_, fun H6 s56 hno => ?_⟩
      · refine ⟨_, rfl, rfl, true, rfl, iteT ?_⟩
        refine ⟨_, rfl, _, rfl, q6, rs.length, O, ms, rfl, h6, ml, hn8, ho, hO, fun H7 Dp s67 hd => ?_⟩
        refine ⟨best, Dp, rfl, ?_⟩
        refine ⟨_, _, _, rfl, (sm5.trans s56).trans s67, fun k hk => ?_, fun k c t' L' hk hc ht' hL' hs => ?_⟩
        · have h1 := lo k hk
          have h2 := depth_le_ge hf hd hk
          omega
        · by_cases et : t' = t
          · subst et
            rw [hL] at hL'
            rw [← Option.some.inj hL'] at hs
            have e := hstr _ (str k c hc hs)
            rw [e] at hd hf
            have := depth_is hf hd hk (byCol_mono rs.length c) hc.1
            omega
          · have := hi5 k c t' L' hk hc (by omega) hL' hs
            omega
      · refine ⟨_, rfl, rfl, false, rfl, iteF ?_⟩
        refine ⟨_, _, _, rfl, sm5.trans s56, lo, fun k c t' L' hk hc ht' hL' hs => ?_⟩
        by_cases et : t' = t
        · subst et
          rw [hL] at hL'
          rw [← Option.some.inj hL'] at hs
          exact (hno _ (str k c hc hs)).elim
        · exact hi5 k c t' L' hk hc (by omega) hL' hs
    · rintro σ H5 ⟨v6, v8, best, rfl, sm5, lo, hi5⟩
      rw [List.length_map, ba4.1] at hi5
      refine ⟨_, rfl, q _ _ (s04.trans sm5) (.inr ⟨best, rfl, fun k hk => ?_⟩)⟩
      obtain ⟨c, hc⟩ := kol_ex hk
      have F := byCol_fit g hc.2
      obtain ⟨L, hL, _, hLj⟩ := brds_all (ws := wts (whole rs)) (r := rr rs) (fun i => wt rs.length (rr rs) (byCol rs.length c) i) (i := rs.length) fun i hi => mem_wts ⟨span rs.length (rr rs) (byCol rs.length c) i, by rw [Nat.mul_comm]; exact (F.span_wt i).symm⟩ (wt_lt F hi)
      obtain ⟨t', ht'⟩ := List.getElem?_of_mem hL
      have h1 := hi5 k c t' L hk hc (List.getElem?_eq_some_iff.mp ht').1 ht' hLj
      have h2 := lo k hk
      omega
end
end WW

set_option Elab.async false
set_option linter.all false
set_option maxRecDepth 100000
set_option maxHeartbeats 4000000
/-! W26: _law_least, _law_has_depth; least_depth and shallow_board by keywords -/
namespace WW
open PySem PySem.Spec PyProof.Rows L2
/-! ### a def that is called by keywords -/
structure CalK (P : Program) (w : World) (K : PySem.W.Frag) (mg : Str → Option Value) (base : Heap) (x : Str) (k : Nat) (ps : List Str) (sp : Sp) : Prop where
  ex : ∃ f fd, FnOk P w K mg base CX0 k f fd ps sp ∧ mg x = some (.ref f) ∧ PySem.W.keepIn K (.ref f) = true ∧ KBn K fd ps 0 ps (fun _ ws => ws) (fun _ zs => zs)
section
variable {P : Program} {w : World} {K : PySem.W.Frag} {mg : Str → Option Value} {base : Heap}
theorem Dfn.calk {x y : Str} {st : Stmt} {N : List Str} {k : Nat} {sp : Sp} (D : Dfn K mg x st [y]) (S : FnScope N [y] (defScope st)) (len : ∀ vs H Q E, sp vs H Q E → vs.length = [y].length)
    (hkb : ∀ (kV doc pm : Value) (an : Option Addr) (cdv ct : Value) (v : Value), bindArgs (PySem.W.fnOf x x (defArgs st) (defBody st) (defScope st) .none kV doc pm an cdv ct) ⟨[], [(y, v)]⟩ = pure [(y, v)])
    (hbody : ∀ (f : Addr) (cdv : Value) (A : Around) (outer : List Env) (s : Shared) (H : Hp) (vs : List V) (Q : VK) (E : XK), Room k (A.deeper (envOfC x (defScope st) s.heap.objs.size f cdv)) → sp vs H Q E →
      ∃ t, PSs (cxOf CX0 P w K mg base N x (defScope st) f cdv A outer s H E).nox (defBody st) t ∧ t { nx := fun _ H' => Q .non H', rt := Q } (start N vs) H) : CalK P w K mg base x (k + 1) [y] sp := by
  obtain ⟨f, fd, F, m, b⟩ := D.ex
  refine ⟨f, fd, F.ok S len (hbody f), m, F.kp, ?_⟩
  obtain ⟨oc, od, kV, doc, pm, an, cdv, ct, osl, rfl, lk, hcd⟩ := F.ex
  refine ⟨fun s us ws X l1 l2 => ?_, fun r rz => rz⟩
  match us, ws, l1, l2 with
  | [], [v], _, _ => exact BindsTo.of_eq (hkb kV doc pm an cdv ct v)
theorem calk_least (D : Dfn K mg "least_depth" (topS 42) ["ranges"]) (B : Blt mg) (c1 : Cal P w K mg base "fewest_colours" 6 ["ranges"] spFew) : CalK P w K mg base "least_depth" 7 ["ranges"] spLeast := by
  refine D.calk scLeast (fun vs H Q E h => ?_) (fun _ _ _ _ _ _ _ => rfl) (fun f cdv A outer s H vs Q E hr h => ?_)
  · obtain ⟨a, rs, rfl, _⟩ := h
    rfl
  · obtain ⟨a, rs, rfl, ha, g, q⟩ := h
    refine ⟨_, pss_one (ps_ret (pe_callB (call_max2 rfl) (by rfl) B.max (by decide +kernel) (pa_cons pe_int (pa_cons (pe_op op_sub (pe_cal c1 hr (by decide) (pa_cons (pv 0) pa_nil)) pe_int) pa_nil)))), ?_⟩
    refine ⟨_, rfl, a, rs, rfl, ha, g, fun H1 k sm hk => ⟨(k : Int), 1, rfl, rfl, 0, (k : Int) - 1, rfl, ?_⟩⟩
    have e : (if (k : Int) - 1 > 0 then (k : Int) - 1 else 0) = ((k - 1 : Nat) : Int) := by
      split <;> omega
    rw [e]
    exact q H1 k sm hk
theorem calk_shallow (D : Dfn K mg "shallow_board" (topS 43) ["ranges"]) (c1 : Cal P w K mg base "straight_board" 8 ["ranges", "order"] spStraight) (c2 : Cal P w K mg base "order_by_colours" 4 ["masks", "colours"] spByCol)
    (c3 : Cal P w K mg base "tie_masks" 4 ["ranges"] spTies) (c4 : Cal P w K mg base "colouring_of" 6 ["ranges"] spColouring) : CalK P w K mg base "shallow_board" 9 ["ranges"] spShallow := by
  refine D.calk scShallow (fun vs H Q E h => ?_) (fun _ _ _ _ _ _ _ => rfl) (fun f cdv A outer s H vs Q E hr h => ?_)
  · obtain ⟨a, rs, rfl, _⟩ := h
    rfl
  · obtain ⟨a, rs, rfl, ha, g, q⟩ := h
    refine ⟨_, pss_one (ps_ret (pe_cal c1 hr (by decide) (pa_cons (pv 0) (pa_cons (pe_cal c2 hr (by decide) (pa_cons (pe_cal c3 hr (by decide) (pa_cons (pv 0) pa_nil)) (pa_cons (pe_cal c4 hr (by decide) (pa_cons (pv 0) pa_nil)) pa_nil))) pa_nil)))), ?_⟩
    refine ⟨_, rfl, _, rfl, a, rs, rfl, ha, g, fun H1 pm ms sm1 fm hm IM => ?_⟩
    refine ⟨_, rfl, a, rs, rfl, sm1 _ _ ha, g, fun H2 pc cl sm2 hc hcl CL => ?_⟩
    refine ⟨pm, pc, rs.length, tie rs, ms, cl, rfl, sm2 _ _ hm, IM, tie_lt, hc, hcl, g.len, fun H3 po rows sm3 ho hO hM hall => ?_⟩
    have hF : Fits rs.length (tie rs) (rel rows) := fun i j hi hj ht => by
      have hne : colN cl i ≠ colN cl j := CL.ne i j hi hj ht
      by_cases h : colN cl j < colN cl i
      · exact .inl (hall i j hi ht h)
      · exact .inr (hall j i hj (by rw [tie_symm]; exact ht) (by omega))
    refine ⟨a, po, rs, rows, rfl, sm3 _ _ (sm2 _ _ (sm1 _ _ ha)), g, ho, hO, hF, fun H4 qb L sm4 hb hst => ?_⟩
    exact q H4 qb L rows (colN cl) (((sm1.trans sm2).trans sm3).trans sm4) hb hst hO hF CL hM
/-! ### _law_least -/
theorem chi_ex {T : Rel} {m : Nat} : ∀ k, Col T m k → ∃ j, Chi T m j := by
  intro k
  induction k using Nat.strongRecOn with
  | _ k ih =>
    intro h
    by_cases q : ∃ k', k' < k ∧ Col T m k'
    · obtain ⟨k', h1, h2⟩ := q
      exact ih k' h1 h2
    · exact ⟨k, h, fun k' h' => Nat.le_of_not_lt fun z => q ⟨k', z, h'⟩⟩
theorem chi_full (rs : List Nat) : ∃ k, Chi (tie rs) (full rs.length) k := chi_ex rs.length ⟨fun i => i, fun i hi => bit_lt (full_lt _) hi, fun i j _ _ ht e => by
  have e : i = j := e
  rw [e, tie_irr] at ht
  cases ht⟩
def spLL : Sp := fun vs H Q _ => ∃ (a p : Addr) (rs ms : List Nat), vs = [.int ((whole rs : Nat) : Int), .ref a, .ref p] ∧ H a = some (.tup (nums rs)) ∧ H p = some (.lst (nums ms)) ∧ IsM rs.length (tie rs) ms ∧ Rgs rs ∧
  ∀ H' (k : Nat), Same H H' → Chi (tie rs) (full rs.length) k → Q (.int ((k - 1 : Nat) : Int)) H'
theorem scLL : FnScope ["_law_wheel", "_law_ranges", "_law_masks", "_law_best", "_law_chis", "_law_row"] ["_law_wheel", "_law_ranges", "_law_masks"] (defScope (topS 63)) := ⟨rfl, rfl, rfl, by decide +kernel, rfl, by decide +kernel, by decide +kernel⟩
theorem cal_law_least (D : Dfn K mg "_law_least" (topS 63) ["_law_wheel", "_law_ranges", "_law_masks"]) (B : Blt mg) (c1 : Cal P w K mg base "_law_depth_by_weights" 3 ["_law_wheel", "_law_ranges"] spByW) (c2 : Cal P w K mg base "_law_depth" 2 ["_law_row"] spDepth)
    (c3 : Cal P w K mg base "_law_orders" 3 ["_law_masks"] spOrders) (c4 : Cal P w K mg base "_law_colours" 2 ["_law_masks"] spLColours) : Cal P w K mg base "_law_least" 4 ["_law_wheel", "_law_ranges", "_law_masks"] spLL := by
  refine D.cal scLL (fun vs H Q E h => ?_) (fun f cdv A outer s H vs Q E hr h => ?_)
  · obtain ⟨a, p, rs, ms, rfl, _⟩ := h
    rfl
  · obtain ⟨a, p, rs, ms, rfl, ha, hp, IM, g, q⟩ := h
    refine ⟨_, C8.pss_cut (ps_if (pt_cmpR n_le (pv 0) pe_int (nomark _))
        (pss_cons (ps_set (i := 3) scLL.nd rfl (Or.inl rfl) (pe_cal c1 hr (by decide) (pa_cons (pv 0) (pa_cons (pv 1) pa_nil))))
        (pss_one (ps_if (pt_cmpR op_ge (pv 3) pe_int (nomark _)) (pss_one (ps_ret (pv 3))) pss_nil))) pss_nil)
      (pss_cons (ps_if (pt_cmpR n_le (pe_callB c_len (by rfl) B.len PySem.boot_len (pa_cons (pv 1) pa_nil)) pe_int (nomark _))
        (pss_one (ps_ret (pe_callB (c_minN rfl) (by rfl) B.min (by decide +kernel) (pa_cons (pe_lc (own := [("_law_row", 5)]) (g := gName 5) rfl scLL.nd (pi_list (pe_cal c3 hr (by decide) (pa_cons (pv 2) pa_nil))) (blkOk_by (own := [("_law_row", 5)]) (N := ["_law_wheel", "_law_ranges", "_law_masks", "_law_best", "_law_chis", "_law_row"]) (sc := defScope (topS 63)) (by decide +kernel))
          (fun _ _ _ _ _ => pg_name (i := 5) scLL.nd rfl (Or.inl rfl)) (fun _ _ _ _ _ => pts_nil) (fun _ _ _ _ _ => pe_cal c2 hr (by decide) (pa_cons (pv 5) pa_nil))) pa_nil)))) pss_nil)
      (pss_cons (ps_set (i := 4) scLL.nd rfl (Or.inl rfl) (pe_cal c4 hr (by decide) (pa_cons (pv 2) pa_nil)))
      (pss_one (ps_ret (pe_op n_sub (pe_ix ixl (pv 4) (pe_op n_sub (pe_callB c_len (by rfl) B.len PySem.boot_len (pa_cons (pv 4) pa_nil)) pe_int) (fun _ _ => rfl)) pe_int))))), ?_⟩
    have hn8 := g.len
    obtain ⟨k, hk⟩ := chi_full rs
    refine ⟨fun σ H' => ∃ v3, σ = [some (.int ((whole rs : Nat) : Int)), some (.ref a), some (.ref p), v3, none, none] ∧ Same H H', ?_, ?_⟩
    · refine ⟨_, rfl, whole rs, 120, rfl, rfl, _, rfl, ite2 (fun e => ?_) (fun e => ⟨_, rfl, Same.refl H⟩)⟩
      refine ⟨_, rfl, _, rfl, a, rs, rfl, ha, g, of_decide_eq_true e, fun H1 z sm hz => ?_⟩
      refine ⟨_, rfl, z, 0, rfl, rfl, _, rfl, ite2 (fun e2 => ?_) (fun e2 => ⟨_, rfl, sm⟩)⟩
      rcases hz with hz | ⟨m, hz, hm⟩
      · subst hz
        exact absurd e2 (by decide)
      · subst hz
        rw [hm k hk]
        exact ⟨_, rfl, q H1 k sm hk⟩
    rintro σ H1 ⟨v3, rfl, sm1⟩
    refine ⟨_, rfl, a, _, rs.length, rfl, .inr (sm1 _ _ ha), nums_len _, rs.length, 4, rfl, rfl, _, rfl, ite2 (fun e => ?_) (fun e => ?_)⟩
    · refine ⟨_, rfl, p, rs.length, tie rs, ms, rfl, sm1 _ _ hp, IM, tie_gr rs, of_decide_eq_true e, fun H2 qa as RL s12 hq la rl hrow hall => ?_⟩
      have sm2 := sm1.trans s12
      refine ⟨qa, rfl, ⟨_, SqL.of hq⟩, fun D hD => lc_list (K := K) (a := qa) (xs := as.map V.ref) (fun t H' => ∃ ds : List Nat, Same H2 H' ∧ H' D = some (.lst (nums ds)) ∧ ds.length = t ∧ ∀ (t' : Nat) (row : List Nat), t' < t → RL[t']? = some row → ∃ Dp, ds[t']? = some Dp ∧ Dep rs.length (mrel row) Dp)
        ⟨[], same_new hD, upd_same, rfl, fun t' row h => by omega⟩ (fun t H' _ ⟨_, sm, _⟩ => SqL.of (sm _ _ hq)) ?_ ?_⟩
      · rintro t x H3 hx ⟨ds, sm3, hl3, dl, hds⟩
        obtain ⟨r, hr', rfl⟩ := refs_of hx
        obtain ⟨row, hrw, hr1⟩ := la.at hr'
        have h1 := hrow row (List.mem_of_getElem? hrw)
        have ht : t < RL.length := (List.getElem?_eq_some_iff.mp hrw).1
        refine ⟨rfl, yesT ?_⟩
        refine ⟨_, rfl, r, rs.length, mrel row, row, rfl, sm3 _ _ hr1, h1.1, hn8, h1.2.1, fun _ _ => rfl, fun H4 Dp s34 hd => ?_⟩
        refine ⟨_, s34 _ _ hl3, ?_, ds ++ [Dp], same_mut (sm3.trans s34) hD, by rw [upd_same, nums_app], by rw [List.length_append, dl]; rfl, fun t' row' ht' hrow' => ?_⟩
        · rw [nums_len, dl]
          exact sz8 (by omega)
        · by_cases et : t' = t
          · subst et
            rw [hrw] at hrow'
            rw [← Option.some.inj hrow']
            exact ⟨Dp, by rw [List.getElem?_append_right (by omega), dl, Nat.sub_self]; rfl, hd⟩
          · obtain ⟨D', h1, h2⟩ := hds t' row' (by omega) hrow'
            exact ⟨D', by rw [List.getElem?_append_left (by omega)]; exact h1, h2⟩
      · rintro H3 ⟨ds, sm3, hl3, dl, hds⟩
        rw [List.length_map, la.len] at dl hds
        obtain ⟨c, hc⟩ := kol_ex hk
        obtain ⟨row0, hm0, he0⟩ := hall (byCol rs.length c) (byCol_ord _ _) (byCol_fits hc.2)
        obtain ⟨t0, ht0⟩ := List.getElem?_of_mem hm0
        have tl0 := (List.getElem?_eq_some_iff.mp ht0).1
        obtain ⟨D0, hd0, hdep0⟩ := hds t0 row0 tl0 ht0
        have e0 : mrel row0 = byCol rs.length c := funext fun i => funext fun j => he0 i j
        rw [e0] at hdep0
        have k0 := depth_is (byCol_fits hc.2) hdep0 hk (byCol_mono rs.length c) hc.1
        refine ⟨D, ds, rfl, hl3, by omega, fun m hm hmin => ?_⟩
        have h1 := hmin D0 (List.mem_of_getElem? hd0)
        obtain ⟨t, ht⟩ := List.getElem?_of_mem hm
        have htl := (List.getElem?_eq_some_iff.mp ht).1
        obtain ⟨row, hrw⟩ : ∃ row, RL[t]? = some row := ⟨_, List.getElem?_eq_getElem (by omega)⟩
        obtain ⟨D1, hd1, hdep1⟩ := hds t row (by omega) hrw
        rw [ht] at hd1
        rw [← Option.some.inj hd1] at hdep1
        have h2 := depth_le_ge (hrow row (List.mem_of_getElem? hrw)).2.2 hdep1 hk
        have : m = k - 1 := by omega
        rw [this]
        exact q H3 k (sm2.trans sm3) hk
    · have hn4 : ¬ rs.length ≤ 4 := fun h => e (decide_eq_true h)
      have hpos : 0 < 2 ^ rs.length := Nat.two_pow_pos _
      refine ⟨_, rfl, p, rs.length, tie rs, ms, rfl, sm1 _ _ hp, IM, tie_gr rs, hn8, fun H2 qa tb s12 hq tl TT => ?_⟩
      obtain ⟨x, hx, cx⟩ := TT (2 ^ rs.length - 1) (by omega)
      have ex := hk.uniq cx
      subst ex
      have k0 : 1 ≤ k := chi_pos (i := 0) hk (by rw [full_bit]; exact decide_eq_true (by omega))
      exact ⟨_, rfl, _, rfl, qa, _, 2 ^ rs.length, rfl, .inl hq, by rw [nums_len]; exact tl, 2 ^ rs.length, 1, rfl, rfl, hpos, qa, _, 2 ^ rs.length - 1, _, rfl, rfl, hq, nums_get hx, k, 1, rfl, rfl, k0, q H2 k (sm1.trans s12) hk⟩
end
end WW

set_option Elab.async false
set_option linter.all false
set_option maxRecDepth 100000
set_option maxHeartbeats 4000000
/-! W27: _law_has_depth, law -/
namespace WW
open PySem PySem.Spec PyProof.Rows L2
section
variable {X : Cx}
/-- x(k = v), x a def of the text -/
theorem pe_calk {x : Str} {k m : Nat} {ps : List Str} {sp : Sp} {p pos : Pos} {kws : List Keyword} {tk : TA} (c : CalK X.prog X.w X.K X.mg X.base x k ps sp) (hr : Room m X.A) (hkm : k ≤ m) (hkw : PK X kws tk)
    (hg : Gl X x := by rfl) (hdb : (x == ("__debug__" : Str)) = false := by decide) (hall : (backToKw pos (keywordEach kws X.env)).all (·.1.isSome) = true := by rfl) (hks : (backToKw pos (keywordEach kws X.env)).filterMap (·.1) = ps := by rfl)
    (hpl : ((backTo pos (starEach [] X.env)).any (·.1) || (backToKw pos (keywordEach kws X.env)).any (·.1.isNone)) = false := by rfl) :
    PE X (.Call (.Name x p) [] kws pos) (fun σ H Q => tk σ H fun zs H1 => zs.length = ps.length ∧ sp zs H1 Q E0) := pe_kw c.ex hr hkm hkw hg hdb hall hks hpl
end
section
variable {P : Program} {w : World} {K : PySem.W.Frag} {mg : Str → Option Value} {base : Heap}
def spHas : Sp := fun vs H Q _ => ∃ (a p : Addr) (rs : List Nat) (due : Nat) (L : List (Nat × Nat)) (O : Rel), vs = [.ref a, .ref p, .int (due : Int)] ∧ H a = some (.tup (nums rs)) ∧ Rgs rs ∧ BoardAt H p (whole rs) L ∧ StB rs O L ∧ Fit rs.length (rr rs) O ∧ Dep rs.length O due ∧ ∀ H', Same H H' → Q (.bl true) H'
theorem scHas : FnScope ["_law_ranges", "_law_told", "_law_due", "_law_row"] ["_law_ranges", "_law_told", "_law_due"] (defScope (topS 64)) := ⟨rfl, rfl, rfl, by decide +kernel, rfl, by decide +kernel, by decide +kernel⟩
theorem cal_has (D : Dfn K mg "_law_has_depth" (topS 64) ["_law_ranges", "_law_told", "_law_due"]) (c1 : Cal P w K mg base "_law_is_board" 2 ["_law_ranges", "_law_told"] spIsBoard) (c2 : Cal P w K mg base "_law_listed" 2 ["_law_wheel", "_law_dials"] spListed)
    (c3 : Cal P w K mg base "_law_weighed" 2 ["_law_wheel", "_law_dials"] spWeighed) (c4 : Cal P w K mg base "_law_depth" 2 ["_law_row"] spDepth) : Cal P w K mg base "_law_has_depth" 3 ["_law_ranges", "_law_told", "_law_due"] spHas := by
  refine D.cal scHas (fun vs H Q E h => ?_) (fun f cdv A outer s H vs Q E hr h => ?_)
  · obtain ⟨a, p, rs, due, L, O, rfl, _⟩ := h
    rfl
  · obtain ⟨a, p, rs, due, L, O, rfl, ha, g, hB, hS, F, hdep, q⟩ := h
    refine ⟨_, pss_cons (ps_if (pt_not (pt_val (pe_cal c1 hr (by decide) (pa_cons (pv 0) (pa_cons (pv 1) pa_nil))))) (pss_one (ps_ret pe_bl)) pss_nil)
      (C8.pss_cut (ps_if (pt_cmpR n_le (pe_ix ixt (pv 1) pe_int (fun _ _ => rfl)) pe_int (nomark _))
        (pss_one (ps_set (i := 3) scHas.nd rfl (Or.inl rfl) (pe_cal c2 hr (by decide) (pa_cons (pe_ix ixt (pv 1) pe_int (fun _ _ => rfl)) (pa_cons (pe_ix ixt (pv 1) pe_int (fun _ _ => rfl)) pa_nil)))))
        (pss_one (ps_set (i := 3) scHas.nd rfl (Or.inl rfl) (pe_cal c3 hr (by decide) (pa_cons (pe_ix ixt (pv 1) pe_int (fun _ _ => rfl)) (pa_cons (pe_ix ixt (pv 1) pe_int (fun _ _ => rfl)) pa_nil))))))
      (pss_one (ps_ret (pe_and (pe_cmpR op_notN (pv 3) pe_non (nomark _)) (pe_one (pe_cmpR n_eq (pe_cal c4 hr (by decide) (pa_cons (pv 3) pa_nil)) (pv 2) (nomark _))))))), ?_⟩
    obtain ⟨d, hp, hP⟩ := hB.ex
    have hn8 := g.len
    refine ⟨_, rfl, _, rfl, a, p, rs, L, rfl, ha, g, hB, hS.len, fun i hi => ⟨_, hS.at_ i hi, wt_lt F hi⟩, true, rfl, iteF ?_⟩
    refine ⟨fun σ H' => ∃ (q : Addr) (ms : List Nat), σ = [some (.ref a), some (.ref p), some (.int (due : Int)), some (.ref q)] ∧ Same H H' ∧ H' q = some (.lst (nums ms)) ∧ ms.length = rs.length ∧ ∀ i j, mrel ms i j = O i j, ?_, ?_⟩
    · refine ⟨_, rfl, p, _, 0, _, rfl, rfl, hp, rfl, whole rs, 120, rfl, rfl, _, rfl, ite2 (fun e => ?_) (fun e => ?_)⟩
      · exact ⟨_, rfl, p, _, 0, _, rfl, rfl, hp, rfl, _, rfl, p, _, 1, _, rfl, rfl, hp, rfl, d, rs, O, L, rfl, hP, hS, F, g, of_decide_eq_true e, fun H1 q1 ms sm hq hl hm => ⟨q1, ms, rfl, sm, hq, hl, hm⟩⟩
      · have str : StrW rs (wt rs.length (rr rs) O) O := ⟨F, fun _ _ => rfl⟩
        refine ⟨_, rfl, p, _, 0, _, rfl, rfl, hp, rfl, _, rfl, p, _, 1, _, rfl, rfl, hp, rfl, d, rs, L, wt rs.length (rr rs) O, rfl, hP, hS.len, hS.at_, g, fun i hi => Nat.le_of_lt (wt_lt F hi), fun H1 q1 ms O1 sm hq hl hm _ _ hst => ⟨q1, ms, rfl, sm, hq, hl, ?_⟩, fun H1 sm hno => (hno O str).elim⟩
        rw [← hst O str]
        exact hm
    rintro σ H1 ⟨q1, ms, rfl, sm1, hq, hl, hm⟩
    refine ⟨_, rfl, rfl, true, rfl, iteT ?_⟩
    refine ⟨_, rfl, q1, rs.length, O, ms, rfl, hq, hl, hn8, F.toOrd, hm, fun H2 Dp s12 hd => ?_⟩
    refine ⟨_, rfl, Dp, due, rfl, rfl, ?_⟩
    dsimp only
    rw [decide_eq_true (hd.uniq hdep)]
    exact q H2 (sm1.trans s12)
/-! ### law -/
def spLaw (K : PySem.W.Frag) : Sp := fun vs H Q _ => ∃ (a : Addr) (ns : List Int), vs = [.ref a] ∧ SqL K H a (ns.map V.int) ∧ ns.length ≤ 63 ∧ ∀ H', Q (.bl true) H'
theorem scLaw : FnScope ["_law_script", "_law_state", "_law_row", "_law_ranges", "_law_wheel", "_law_made", "_law_due"] ["_law_script"] (defScope (topS 65)) := ⟨rfl, rfl, rfl, by decide +kernel, rfl, by decide +kernel, by decide +kernel⟩
theorem whole_nil {rs : List Nat} (h : rs.length = 0) : whole rs = 1 := by
  unfold whole whl
  rw [h]
  rfl
theorem whole_big {rs : List Nat} (g : Rgs rs) (h : 0 < rs.length) : 1 < whole rs := by
  have h1 := pre_le g (i := 1) h
  rw [pre_succ] at h1
  have h2 := g.ge2 0 h
  have e : pre rs 0 = 1 := rfl
  rw [e] at h1
  omega
theorem ok_law {fa : Addr} {fd : FuncData} (F : Fun K "law" "law" (topS 65) fa fd) (B : Blt mg) (c1 : Cal P w K mg base "_law_start" 1 ["_law_script"] (spStart K)) (c2 : Cal P w K mg base "_law_draw" 1 ["_law_state", "_law_many"] spDraw)
    (c3 : Cal P w K mg base "_law_small" 2 ["_law_state"] spSmall) (c4 : Cal P w K mg base "_law_graph" 3 ["_law_state", "_law_size"] spGraphL) (c5 : Cal P w K mg base "_law_menu" 3 ["_law_state"] spSmall)
    (c6 : Cal P w K mg base "_law_ties" 2 ["_law_ranges"] spTies) (c7 : Cal P w K mg base "_law_least" 4 ["_law_wheel", "_law_ranges", "_law_masks"] spLL) (c8 : Cal P w K mg base "_law_same" 1 ["_law_actual", "_law_due"] spSame)
    (c9 : Cal P w K mg base "least_depth" 7 ["ranges"] spLeast) (c10 : Cal P w K mg base "fewest_colours" 6 ["ranges"] spFew) (c11 : Cal P w K mg base "shallow_board" 9 ["ranges"] spShallow) (c12 : Cal P w K mg base "_law_has_depth" 3 ["_law_ranges", "_law_told", "_law_due"] spHas)
    (k9 : CalK P w K mg base "least_depth" 7 ["ranges"] spLeast) (k11 : CalK P w K mg base "shallow_board" 9 ["ranges"] spShallow) : FnOk P w K mg base CX0 10 fa fd ["_law_script"] (spLaw K) := by
  refine F.ok scLaw (fun vs H Q E h => ?_) (fun cdv A outer s H vs Q E hr h => ?_)
  · obtain ⟨a, ns, rfl, _⟩ := h
    rfl
  · obtain ⟨a, ns, rfl, ha, hns, q⟩ := h
    refine ⟨_, pss_cons (ps_set (i := 1) scLaw.nd rfl (Or.inl rfl) (pe_cal c1 hr (by decide) (pa_cons (pv 0) pa_nil)))
      (C8.pss_cut (ps_if (pt_cmpR n_gt (pe_cal c2 hr (by decide) (pa_cons (pv 1) (pa_cons pe_int pa_nil))) pe_int (nomark _))
        (pss_one (ps_set (i := 2) scLaw.nd rfl (Or.inl rfl) (pe_cal c3 hr (by decide) (pa_cons (pv 1) pa_nil))))
        (pss_one (ps_if (pt_cmpR n_eq (pe_cal c2 hr (by decide) (pa_cons (pv 1) (pa_cons pe_int pa_nil))) pe_int (nomark _))
          (pss_one (ps_set (i := 2) scLaw.nd rfl (Or.inl rfl) (pe_cal c4 hr (by decide) (pa_cons (pv 1) (pa_cons (pe_op n_add pe_int (pe_cal c2 hr (by decide) (pa_cons (pv 1) (pa_cons pe_int pa_nil)))) pa_nil)))))
          (pss_one (ps_set (i := 2) scLaw.nd rfl (Or.inl rfl) (pe_cal c5 hr (by decide) (pa_cons (pv 1) pa_nil)))))))
      (pss_cons (ps_set (i := 3) scLaw.nd rfl (Or.inl rfl) (pe_callTy c_tuple (by rfl) B.tuple (by decide +kernel) (pa_cons (pv 2) pa_nil)))
      (pss_cons (ps_set (i := 4) scLaw.nd rfl (Or.inl rfl) pe_int)
      (pss_cons (ps_for PassesOwn.never rfl (pi_tup (pv 3)) (pg_name (i := 5) scLaw.nd rfl (Or.inl rfl))
        (pss_one (ps_set (i := 4) scLaw.nd rfl (Or.inl rfl) (pe_op n_mul (pv 4) (pv 5)))))
      (pss_cons (ps_set (i := 6) scLaw.nd rfl (Or.inl rfl) (pe_cal c7 hr (by decide) (pa_cons (pv 4) (pa_cons (pv 3) (pa_cons (pe_cal c6 hr (by decide) (pa_cons (pv 3) pa_nil)) pa_nil)))))
      (pss_cons (ps_if (pt_not (pt_val (pe_cal c8 hr (by decide) (pa_cons (pe_cal c9 hr (by decide) (pa_cons (pv 3) pa_nil)) (pa_cons (pv 6) pa_nil))))) (pss_one (ps_ret pe_bl)) pss_nil)
      (pss_cons (ps_if (pt_not (pt_val (pe_cal c8 hr (by decide) (pa_cons (pe_cal c10 hr (by decide) (pa_cons (pv 3) pa_nil)) (pa_cons (pe_op n_add (pv 6) (pe_callTy c_intb (by rfl) B.int (by decide +kernel) (pa_cons (pe_cmpR n_gt (pv 4) pe_int (nomark _)) pa_nil))) pa_nil))))) (pss_one (ps_ret pe_bl)) pss_nil)
      (pss_cons (ps_if (pt_not (pt_val (pe_cal c12 hr (by decide) (pa_cons (pv 3) (pa_cons (pe_cal c11 hr (by decide) (pa_cons (pv 3) pa_nil)) (pa_cons (pv 6) pa_nil)))))) (pss_one (ps_ret pe_bl)) pss_nil)
      (pss_cons (ps_if (pt_not (pt_val (pe_cal c8 hr (by decide) (pa_cons (pe_calk k9 hr (by decide) (pk_cons (pv 3) pk_nil)) (pa_cons (pv 6) pa_nil))))) (pss_one (ps_ret pe_bl)) pss_nil)
      (pss_one (ps_ret (pe_cal c12 hr (by decide) (pa_cons (pv 3) (pa_cons (pe_calk k11 hr (by decide) (pk_cons (pe_callTy c_tuple (by rfl) B.tuple (by decide +kernel) (pa_cons (pv 2) pa_nil)) pk_nil)) (pa_cons (pv 6) pa_nil))))))))))))))), ?_⟩
    refine ⟨_, rfl, a, ns, rfl, ha, hns, fun H1 p cl cells sm1 hp S1 => ?_⟩
    refine ⟨fun σ H' => ∃ (rp : Addr) (l : List Nat), σ = [some (.ref a), some (.ref p), some (.ref rp), none, none, none, none] ∧ H' rp = some (.lst (nums l)) ∧ Rgs l, ?_, ?_⟩
    · refine ⟨_, rfl, p, cl, cells, 4, rfl, S1, by decide, by decide, fun H2 r2 b2 S2 n2 hr2 => ?_⟩
      refine ⟨r2, 0, rfl, rfl, _, rfl, ite2 (fun e => ?_) (fun e => ?_)⟩
      · exact ⟨_, rfl, p, cl, cells, rfl, S2, fun H3 q3 l b3 S3 n3 h3 g3 => ⟨q3, l, rfl, h3, g3⟩⟩
      · refine ⟨_, rfl, p, cl, cells, 2, rfl, S2, by decide, by decide, fun H3 r3 b3 S3 n3 hr3 => ?_⟩
        refine ⟨r3, 0, rfl, rfl, _, rfl, ite2 (fun e2 => ?_) (fun e2 => ?_)⟩
        · exact ⟨_, rfl, _, rfl, p, cl, cells, 7, rfl, S3, by decide, by decide, fun H4 r4 b4 S4 n4 hr4 => ⟨2, r4, rfl, rfl, p, cl, cells, 2 + r4, rfl, S4, by omega, fun H5 q5 l b5 S5 n5 h5 g5 => ⟨q5, l, rfl, h5, g5⟩⟩⟩
        · exact ⟨_, rfl, p, cl, cells, rfl, S3, fun H4 q4 l b4 S4 n4 h4 g4 => ⟨q4, l, rfl, h4, g4⟩⟩
    rintro σ H2 ⟨rp, rs, rfl, hrp, g⟩
    refine ⟨_, rfl, rp, _, rfl, hrp, fun tr htr => ?_⟩
    have s23 : Same H2 (upd H2 tr (.tup (nums rs))) := same_new htr
    have hrp3 := s23 _ _ hrp
    have ht3 : (upd H2 tr (.tup (nums rs))) tr = some (.tup (nums rs)) := upd_same
    generalize upd H2 tr (.tup (nums rs)) = H3 at hrp3 ht3
    refine ⟨_, rfl, tr, rfl, ⟨_, SqT.of ht3⟩, for_tup (K := K) (a := tr) (xs := nums rs) (fun i σ H' => ∃ v, σ = [some (.ref a), some (.ref p), some (.ref rp), some (.ref tr), some (.int ((pre rs i : Nat) : Int)), v, none] ∧ H' = H3) ⟨none, rfl, rfl⟩ (fun i σ H' _ ⟨_, _, e⟩ => e ▸ SqT.of ht3) ?_ ?_⟩
    · rintro i x σ H' hx ⟨v, rfl, rfl⟩
      obtain ⟨n, hn, rfl⟩ := nums_of hx
      have hi : i < rs.length := (List.getElem?_eq_some_iff.mp hn).1
      refine ⟨_, rfl, _, rfl, pre rs i, n, rfl, rfl, ⟨g.pr_lt (by omega), by rw [← rr_get hn]; exact g.el_lt⟩, some (.int (n : Int)), ?_, rfl⟩
      rw [pre_succ, rr_get hn]
      rfl
    rintro σ H' ⟨v, rfl, rfl⟩
    rw [nums_len]
    have eW : pre rs rs.length = whole rs := rfl
    rw [eW]
    refine ⟨_, rfl, _, rfl, _, rfl, tr, rs, rfl, ht3, g, fun H4 pm ms s34 f4 h4 IM => ?_⟩
    refine ⟨tr, pm, rs, ms, rfl, s34 _ _ ht3, h4, IM, g, fun H5 k s45 hk => ?_⟩
    have s35 := s34.trans s45
    have dep : ∀ rows c, Fits rs.length (tie rs) (rel rows) → Clr rs.length (tie rs) c → Mono (rel rows) c → Dep rs.length (rel rows) (k - 1) := fun rows c hF hC hM => by
      refine ⟨⟨c, hM, fun i hi => ?_⟩, fun h E hmo hE => ?_⟩
      · have := hC.lt k hk i hi
        omega
      · have hb : ∀ i, (full rs.length).testBit i = true → i < rs.length := fun i hi => by
          rw [full_bit] at hi
          exact of_decide_eq_true hi
        have := hk.2 (E + 1) ⟨h, fun i hi => by
          have := hE i (hb i hi)
          omega, fun i j hi hj ht e => by
          rcases hF i j (hb i hi) (hb j hj) ht with q | q
          · have := hmo i j q
            omega
          · have := hmo j i q
            omega⟩
        omega
    have few : k = k - 1 + (if decide (1 < whole rs) = true then 1 else 0) := by
      by_cases hz : rs.length = 0
      · rw [whole_nil hz]
        have h0 : Chi (tie rs) (full rs.length) 0 := by
          rw [hz]
          exact chi_zero _
        have := hk.uniq h0
        subst this
        rfl
      · have h1 := whole_big g (by omega)
        rw [decide_eq_true h1, if_pos rfl]
        have := chi_pos (i := 0) hk (by rw [full_bit]; exact decide_eq_true (by omega))
        omega
    refine ⟨_, rfl, tr, rs, rfl, s35 _ _ ht3, g, fun H6 k6 s56 hk6 => ?_⟩
    have e6 := hk6.uniq hk
    subst e6
    refine ⟨_, rfl, k6 - 1, k6 - 1, rfl, true, congrArg V.bl (decide_eq_true rfl), iteF ?_⟩
    have s36 := s35.trans s56
    refine ⟨_, rfl, tr, rs, rfl, s36 _ _ ht3, g, fun H7 k7 s67 hk7 => ?_⟩
    have e7 := hk7.uniq hk
    subst e7
    refine ⟨_, rfl, _, rfl, whole rs, 1, rfl, rfl, decide (1 < whole rs), rfl, k7 - 1, _, rfl, rfl, k7, _, rfl, true, congrArg V.bl (decide_eq_true few), iteF ?_⟩
    have s37 := s36.trans s67
    refine ⟨_, rfl, _, rfl, tr, rs, rfl, s37 _ _ ht3, g, fun H8 qb L rows c s78 hB hS hO hF hC hM => ?_⟩
    have s38 := s37.trans s78
    refine ⟨_, rfl, tr, qb, rs, k7 - 1, L, rel rows, rfl, s38 _ _ ht3, g, hB, hS, fit_of g hO hF, dep rows c hF hC hM, fun H9 s89 => ⟨true, rfl, iteF ?_⟩⟩
    have s39 := s38.trans s89
    refine ⟨_, rfl, rfl, tr, rs, rfl, s39 _ _ ht3, g, fun H10 k10 s910 hk10 => ?_⟩
    have e10 := hk10.uniq hk
    subst e10
    refine ⟨_, rfl, k10 - 1, k10 - 1, rfl, true, congrArg V.bl (decide_eq_true rfl), iteF ?_⟩
    have s310 := s39.trans s910
    refine ⟨_, rfl, _, rfl, rp, _, rfl, s310 _ _ hrp3, fun t2 ht2 => ?_⟩
    have s1011 : Same H10 (upd H10 t2 (.tup (nums rs))) := same_new ht2
    refine ⟨rfl, t2, rs, rfl, upd_same, g, fun H12 qb2 L2 rows2 c2 s1112 hB2 hS2 hO2 hF2 hC2 hM2 => ?_⟩
    exact ⟨_, rfl, tr, qb2, rs, k10 - 1, L2, rel rows2, rfl, ((s310.trans s1011).trans s1112) _ _ ht3, g, hB2, hS2, fit_of g hO2 hF2, dep rows2 c2 hF2 hC2 hM2, fun H13 _ => q H13⟩
end
end WW

set_option Elab.async false
set_option linter.all false
set_option maxRecDepth 100000
set_option maxHeartbeats 4000000
/-! FIN: what the top has written; the end -/
namespace WW
open PySem PySem.Spec PyProof.Rows L2
/-- a def as the top leaves it -/
structure Got (K : PySem.W.Frag) (x : Str) (st : Stmt) : Prop where
  ex : ∃ (f : Addr) (oc : Value) (od an : Option Addr) (sl : Array (Option Value)) (kV dc pm cd ct : Value), PySem.W.nsIn K mainGlobals x = some (some (.ref f)) ∧ K.lookup f = some ⟨oc, od, .func (PySem.W.fnOf x x (defArgs st) (defBody st) (defScope st) .none kV dc pm an cd ct), sl⟩ ∧ PySem.W.codeIn K cd x = true ∧ PySem.W.keepIn K (.ref f) = true
section
variable {K : PySem.W.Frag} {h : Heap} {mg : Str → Option Value}
theorem got_mk {x : Str} {st : Stmt} {f : Addr} {oc : Value} {od an : Option Addr} {sl : Array (Option Value)} {kV dc pm cd ct : Value} (a : PySem.W.nsIn K mainGlobals x = some (some (.ref f))) (l : K.lookup f = some ⟨oc, od, .func (PySem.W.fnOf x x (defArgs st) (defBody st) (defScope st) .none kV dc pm an cd ct), sl⟩)
    (c : PySem.W.codeIn K cd x = true) (k : PySem.W.keepIn K (.ref f) = true) : Got K x st := ⟨⟨f, oc, od, an, sl, kV, dc, pm, cd, ct, a, l, c, k⟩⟩
theorem Got.dfn {x : Str} {st : Stmt} {ps : List Str} (g : Got K x st) (X : K.In h) (G : h.Ns mainGlobals mg)
    (hb : ∀ (kV doc pm : Value) (an : Option Addr) (cdv ct : Value) (us : List Value), us.length = ps.length → bindArgs (PySem.W.fnOf x x (defArgs st) (defBody st) (defScope st) .none kV doc pm an cdv ct) ⟨us, []⟩ = pure (ps.zip us)) : Dfn K mg x st ps := by
  obtain ⟨f, oc, od, an, sl, kV, dc, pm, cd, ct, a, l, c, k⟩ := g.ex
  have F := fun_mk (st := st) l c k
  exact ⟨f, _, F, PySem.W.mg_of X G a, F.binds hb⟩
theorem all_mk {l : PySem.W.OpenLaw} {w : World} {fa : Addr} (X : K.In h) (G : h.Ns mainGlobals mg) (hfa : mg "law" = some (.ref fa))
    (g9 : Got K "is_integer" (topS 9))
    (g10 : Got K "is_number" (topS 10))
    (g11 : Got K "is_set" (topS 11))
    (g13 : Got K "need" (topS 13))
    (g15 : Got K "gcd_of" (topS 15))
    (g16 : Got K "product_of" (topS 16))
    (g18 : Got K "is_position" (topS 18))
    (g19 : Got K "loose_tie" (topS 19))
    (g21 : Got K "lets_order" (topS 21))
    (g22 : Got K "is_order" (topS 22))
    (g23 : Got K "_is_told" (topS 23))
    (g25 : Got K "order_of" (topS 25))
    (g26 : Got K "spans_by" (topS 26))
    (g28 : Got K "members" (topS 28))
    (g29 : Got K "tie_masks" (topS 29))
    (g30 : Got K "graph_of" (topS 30))
    (g31 : Got K "best_group" (topS 31))
    (g32 : Got K "coloured" (topS 32))
    (g33 : Got K "order_by_colours" (topS 33))
    (g35 : Got K "fewest_colours" (topS 35))
    (g36 : Got K "colouring_of" (topS 36))
    (g38 : Got K "_fitting_spans" (topS 38))
    (g39 : Got K "_board_by" (topS 39))
    (g40 : Got K "straight_board" (topS 40))
    (g42 : Got K "least_depth" (topS 42))
    (g43 : Got K "shallow_board" (topS 43))
    (g45 : Got K "_law_start" (topS 45))
    (g46 : Got K "_law_draw" (topS 46))
    (g47 : Got K "_law_same" (topS 47))
    (g48 : Got K "_law_gcd" (topS 48))
    (g49 : Got K "_law_mixed_up" (topS 49))
    (g50 : Got K "_law_graph" (topS 50))
    (g51 : Got K "_law_menu" (topS 51))
    (g52 : Got K "_law_small" (topS 52))
    (g53 : Got K "_law_bits" (topS 53))
    (g54 : Got K "_law_ties" (topS 54))
    (g55 : Got K "_law_colours" (topS 55))
    (g56 : Got K "_law_orders" (topS 56))
    (g57 : Got K "_law_is_closed" (topS 57))
    (g58 : Got K "_law_depth" (topS 58))
    (g59 : Got K "_law_is_board" (topS 59))
    (g60 : Got K "_law_listed" (topS 60))
    (g61 : Got K "_law_weighed" (topS 61))
    (g62 : Got K "_law_depth_by_weights" (topS 62))
    (g63 : Got K "_law_least" (topS 63))
    (g64 : Got K "_law_has_depth" (topS 64))
    (g65 : Got K "law" (topS 65))
    (z_isinstance : PySem.W.nsIn K mainGlobals "isinstance" = some none)
    (z_int : PySem.W.nsIn K mainGlobals "int" = some none)
    (z_bool : PySem.W.nsIn K mainGlobals "bool" = some none)
    (z_tuple : PySem.W.nsIn K mainGlobals "tuple" = some none)
    (z_list : PySem.W.nsIn K mainGlobals "list" = some none)
    (z_len : PySem.W.nsIn K mainGlobals "len" = some none)
    (z_range : PySem.W.nsIn K mainGlobals "range" = some none)
    (z_enumerate : PySem.W.nsIn K mainGlobals "enumerate" = some none)
    (z_sum : PySem.W.nsIn K mainGlobals "sum" = some none)
    (z_min : PySem.W.nsIn K mainGlobals "min" = some none)
    (z_max : PySem.W.nsIn K mainGlobals "max" = some none)
    (z_abs : PySem.W.nsIn K mainGlobals "abs" = some none)
    (z_sorted : PySem.W.nsIn K mainGlobals "sorted" = some none)
    : ∃ fd : FuncData, (∀ (s : Shared) (v : Value), BindsTo s fd ⟨[v], []⟩ [("_law_script", v)]) ∧ ∀ base : Heap, K.In base → base.Ns mainGlobals mg → FnOk l.prog w K mg base CX0 10 fa fd ["_law_script"] (spLaw K) := by
  obtain ⟨f, oc, od, an, sl, kV, dc, pm, cd, ct, a, lk, c, k⟩ := g65.ex
  have e := hfa.symm.trans (PySem.W.mg_of X G a)
  cases e
  have F := fun_mk (st := topS 65) lk c k
  have B : Blt mg := ⟨PySem.W.mg_none_of X G z_isinstance, PySem.W.mg_none_of X G z_int, PySem.W.mg_none_of X G z_bool, PySem.W.mg_none_of X G z_tuple, PySem.W.mg_none_of X G z_list, PySem.W.mg_none_of X G z_len, PySem.W.mg_none_of X G z_range, PySem.W.mg_none_of X G z_enumerate, PySem.W.mg_none_of X G z_sum, PySem.W.mg_none_of X G z_min, PySem.W.mg_none_of X G z_max, PySem.W.mg_none_of X G z_abs, PySem.W.mg_none_of X G z_sorted⟩
  have d9 : Dfn K mg "is_integer" (topS 9) ["thing"] := g9.dfn X G fun _ _ _ _ _ _ us hl => match us, hl with | [_], _ => rfl
  have d10 : Dfn K mg "is_number" (topS 10) ["thing"] := g10.dfn X G fun _ _ _ _ _ _ us hl => match us, hl with | [_], _ => rfl
  have d11 : Dfn K mg "is_set" (topS 11) ["size", "thing"] := g11.dfn X G fun _ _ _ _ _ _ us hl => match us, hl with | [_, _], _ => rfl
  have d13 : Dfn K mg "need" (topS 13) ["good", "word"] := g13.dfn X G fun _ _ _ _ _ _ us hl => match us, hl with | [_, _], _ => rfl
  have d15 : Dfn K mg "gcd_of" (topS 15) ["many", "other"] := g15.dfn X G fun _ _ _ _ _ _ us hl => match us, hl with | [_, _], _ => rfl
  have d16 : Dfn K mg "product_of" (topS 16) ["ranges"] := g16.dfn X G fun _ _ _ _ _ _ us hl => match us, hl with | [_], _ => rfl
  have d18 : Dfn K mg "is_position" (topS 18) ["size", "thing"] := g18.dfn X G fun _ _ _ _ _ _ us hl => match us, hl with | [_, _], _ => rfl
  have d19 : Dfn K mg "loose_tie" (topS 19) ["ranges", "order"] := g19.dfn X G fun _ _ _ _ _ _ us hl => match us, hl with | [_, _], _ => rfl
  have d21 : Dfn K mg "lets_order" (topS 21) ["size", "thing"] := g21.dfn X G fun _ _ _ _ _ _ us hl => match us, hl with | [_, _], _ => rfl
  have d22 : Dfn K mg "is_order" (topS 22) ["size", "thing"] := g22.dfn X G fun _ _ _ _ _ _ us hl => match us, hl with | [_, _], _ => rfl
  have d23 : Dfn K mg "_is_told" (topS 23) ["size", "pair"] := g23.dfn X G fun _ _ _ _ _ _ us hl => match us, hl with | [_, _], _ => rfl
  have d25 : Dfn K mg "order_of" (topS 25) ["size", "pairs"] := g25.dfn X G fun _ _ _ _ _ _ us hl => match us, hl with | [_, _], _ => rfl
  have d26 : Dfn K mg "spans_by" (topS 26) ["ranges", "order"] := g26.dfn X G fun _ _ _ _ _ _ us hl => match us, hl with | [_, _], _ => rfl
  have d28 : Dfn K mg "members" (topS 28) ["mask"] := g28.dfn X G fun _ _ _ _ _ _ us hl => match us, hl with | [_], _ => rfl
  have d29 : Dfn K mg "tie_masks" (topS 29) ["ranges"] := g29.dfn X G fun _ _ _ _ _ _ us hl => match us, hl with | [_], _ => rfl
  have d30 : Dfn K mg "graph_of" (topS 30) ["ranges"] := g30.dfn X G fun _ _ _ _ _ _ us hl => match us, hl with | [_], _ => rfl
  have d31 : Dfn K mg "best_group" (topS 31) ["masks", "calm", "table", "mask"] := g31.dfn X G fun _ _ _ _ _ _ us hl => match us, hl with | [_, _, _, _], _ => rfl
  have d32 : Dfn K mg "coloured" (topS 32) ["graph", "mask", "first"] := g32.dfn X G fun _ _ _ _ _ _ us hl => match us, hl with | [_, _, _], _ => rfl
  have d33 : Dfn K mg "order_by_colours" (topS 33) ["masks", "colours"] := g33.dfn X G fun _ _ _ _ _ _ us hl => match us, hl with | [_, _], _ => rfl
  have d35 : Dfn K mg "fewest_colours" (topS 35) ["ranges"] := g35.dfn X G fun _ _ _ _ _ _ us hl => match us, hl with | [_], _ => rfl
  have d36 : Dfn K mg "colouring_of" (topS 36) ["ranges"] := g36.dfn X G fun _ _ _ _ _ _ us hl => match us, hl with | [_], _ => rfl
  have d38 : Dfn K mg "_fitting_spans" (topS 38) ["ranges", "order"] := g38.dfn X G fun _ _ _ _ _ _ us hl => match us, hl with | [_, _], _ => rfl
  have d39 : Dfn K mg "_board_by" (topS 39) ["ranges", "spans", "multipliers"] := g39.dfn X G fun _ _ _ _ _ _ us hl => match us, hl with | [_, _, _], _ => rfl
  have d40 : Dfn K mg "straight_board" (topS 40) ["ranges", "order"] := g40.dfn X G fun _ _ _ _ _ _ us hl => match us, hl with | [_, _], _ => rfl
  have d42 : Dfn K mg "least_depth" (topS 42) ["ranges"] := g42.dfn X G fun _ _ _ _ _ _ us hl => match us, hl with | [_], _ => rfl
  have d43 : Dfn K mg "shallow_board" (topS 43) ["ranges"] := g43.dfn X G fun _ _ _ _ _ _ us hl => match us, hl with | [_], _ => rfl
  have d45 : Dfn K mg "_law_start" (topS 45) ["_law_script"] := g45.dfn X G fun _ _ _ _ _ _ us hl => match us, hl with | [_], _ => rfl
  have d46 : Dfn K mg "_law_draw" (topS 46) ["_law_state", "_law_many"] := g46.dfn X G fun _ _ _ _ _ _ us hl => match us, hl with | [_, _], _ => rfl
  have d47 : Dfn K mg "_law_same" (topS 47) ["_law_actual", "_law_due"] := g47.dfn X G fun _ _ _ _ _ _ us hl => match us, hl with | [_, _], _ => rfl
  have d48 : Dfn K mg "_law_gcd" (topS 48) ["_law_one", "_law_other"] := g48.dfn X G fun _ _ _ _ _ _ us hl => match us, hl with | [_, _], _ => rfl
  have d49 : Dfn K mg "_law_mixed_up" (topS 49) ["_law_state", "_law_row"] := g49.dfn X G fun _ _ _ _ _ _ us hl => match us, hl with | [_, _], _ => rfl
  have d50 : Dfn K mg "_law_graph" (topS 50) ["_law_state", "_law_size"] := g50.dfn X G fun _ _ _ _ _ _ us hl => match us, hl with | [_, _], _ => rfl
  have d51 : Dfn K mg "_law_menu" (topS 51) ["_law_state"] := g51.dfn X G fun _ _ _ _ _ _ us hl => match us, hl with | [_], _ => rfl
  have d52 : Dfn K mg "_law_small" (topS 52) ["_law_state"] := g52.dfn X G fun _ _ _ _ _ _ us hl => match us, hl with | [_], _ => rfl
  have d53 : Dfn K mg "_law_bits" (topS 53) ["_law_mask"] := g53.dfn X G fun _ _ _ _ _ _ us hl => match us, hl with | [_], _ => rfl
  have d54 : Dfn K mg "_law_ties" (topS 54) ["_law_ranges"] := g54.dfn X G fun _ _ _ _ _ _ us hl => match us, hl with | [_], _ => rfl
  have d55 : Dfn K mg "_law_colours" (topS 55) ["_law_masks"] := g55.dfn X G fun _ _ _ _ _ _ us hl => match us, hl with | [_], _ => rfl
  have d56 : Dfn K mg "_law_orders" (topS 56) ["_law_masks"] := g56.dfn X G fun _ _ _ _ _ _ us hl => match us, hl with | [_], _ => rfl
  have d57 : Dfn K mg "_law_is_closed" (topS 57) ["_law_row"] := g57.dfn X G fun _ _ _ _ _ _ us hl => match us, hl with | [_], _ => rfl
  have d58 : Dfn K mg "_law_depth" (topS 58) ["_law_row"] := g58.dfn X G fun _ _ _ _ _ _ us hl => match us, hl with | [_], _ => rfl
  have d59 : Dfn K mg "_law_is_board" (topS 59) ["_law_ranges", "_law_told"] := g59.dfn X G fun _ _ _ _ _ _ us hl => match us, hl with | [_, _], _ => rfl
  have d60 : Dfn K mg "_law_listed" (topS 60) ["_law_wheel", "_law_dials"] := g60.dfn X G fun _ _ _ _ _ _ us hl => match us, hl with | [_, _], _ => rfl
  have d61 : Dfn K mg "_law_weighed" (topS 61) ["_law_wheel", "_law_dials"] := g61.dfn X G fun _ _ _ _ _ _ us hl => match us, hl with | [_, _], _ => rfl
  have d62 : Dfn K mg "_law_depth_by_weights" (topS 62) ["_law_wheel", "_law_ranges"] := g62.dfn X G fun _ _ _ _ _ _ us hl => match us, hl with | [_, _], _ => rfl
  have d63 : Dfn K mg "_law_least" (topS 63) ["_law_wheel", "_law_ranges", "_law_masks"] := g63.dfn X G fun _ _ _ _ _ _ us hl => match us, hl with | [_, _, _], _ => rfl
  have d64 : Dfn K mg "_law_has_depth" (topS 64) ["_law_ranges", "_law_told", "_law_due"] := g64.dfn X G fun _ _ _ _ _ _ us hl => match us, hl with | [_, _, _], _ => rfl
  refine ⟨PySem.W.fnOf "law" "law" (defArgs (topS 65)) (defBody (topS 65)) (defScope (topS 65)) .none kV dc pm an cd ct, fun s v => .of_eq rfl, fun base _ _ => ?_⟩
  have c_iInt := cal_is_integer (P := l.prog) (w := w) (base := base) d9 B
  have c_iNum := cal_is_number (P := l.prog) (w := w) (base := base) d10 c_iInt
  have c_iNeed := cal_need (P := l.prog) (w := w) (base := base) d13 
  have c_gcdof := cal_gcd_of (P := l.prog) (w := w) (base := base) d15 c_iNum c_iNeed
  have c_lgcd := cal_law_gcd (P := l.prog) (w := w) (base := base) d48 B
  have c_prod := cal_product_of (P := l.prog) (w := w) (base := base) d16 
  have c_memb := cal_members (P := l.prog) (w := w) (base := base) d28 B
  have c_lbits := cal_law_bits (P := l.prog) (w := w) (base := base) d53 B
  have c_tiem := cal_tie_masks (P := l.prog) (w := w) (base := base) d29 B c_gcdof
  have c_lties := cal_law_ties (P := l.prog) (w := w) (base := base) d54 B c_lgcd
  have c_bestg := cal_best_group (P := l.prog) (w := w) (base := base) d31 
  have c_grapho := cal_graph_of (P := l.prog) (w := w) (base := base) d30 B c_tiem c_bestg
  have c_few := cal_fewest (P := l.prog) (w := w) (base := base) d35 B c_grapho
  have c_least := cal_least (P := l.prog) (w := w) (base := base) d42 B c_few
  have c_coloured := cal_coloured (P := l.prog) (w := w) (base := base) d32 B c_memb c_bestg
  have c_colof := cal_colouring_of (P := l.prog) (w := w) (base := base) d36 B c_grapho c_coloured
  have c_ipos := cal_is_position (P := l.prog) (w := w) (base := base) d18 B
  have c_told := cal_is_told (P := l.prog) (w := w) (base := base) d23 B c_ipos
  have c_order := cal_order_of (P := l.prog) (w := w) (base := base) d25 B c_told
  have c_iset := cal_is_set (P := l.prog) (w := w) (base := base) d11 B c_iNum
  have c_lets := cal_lets_order (P := l.prog) (w := w) (base := base) d21 B c_iset
  have c_iord := cal_is_order (P := l.prog) (w := w) (base := base) d22 c_lets
  have c_spans := cal_spans_by (P := l.prog) (w := w) (base := base) d26 B c_iord
  have c_loose := cal_loose_tie (P := l.prog) (w := w) (base := base) d19 B c_gcdof
  have c_fitting := cal_fitting (P := l.prog) (w := w) (base := base) d38 c_spans c_loose
  have c_boardby := cal_board_by (P := l.prog) (w := w) (base := base) d39 B c_prod
  have c_straight := cal_straight (P := l.prog) (w := w) (base := base) d40 B c_fitting c_boardby
  have c_bycol := cal_by_colours (P := l.prog) (w := w) (base := base) d33 B c_memb c_order
  have c_shallow := cal_shallow (P := l.prog) (w := w) (base := base) d43 c_straight c_bycol c_tiem c_colof
  have c_start := cal_start (P := l.prog) (w := w) (base := base) d45 B
  have c_draw := cal_draw (P := l.prog) (w := w) (base := base) d46 B
  have c_same := cal_same (P := l.prog) (w := w) (base := base) d47 B
  have c_mixed := cal_mixed (P := l.prog) (w := w) (base := base) d49 B c_draw
  have c_small := cal_small (P := l.prog) (w := w) (base := base) d52 B c_draw
  have c_menu := cal_menu (P := l.prog) (w := w) (base := base) d51 B c_draw c_mixed
  have c_lgraph := cal_law_graph (P := l.prog) (w := w) (base := base) d50 B c_draw c_mixed
  have c_lcol := cal_law_colours (P := l.prog) (w := w) (base := base) d55 B c_lbits
  have c_closed := cal_closed (P := l.prog) (w := w) (base := base) d57 c_lbits
  have c_orders := cal_orders (P := l.prog) (w := w) (base := base) d56 B c_closed
  have c_depth := cal_depth (P := l.prog) (w := w) (base := base) d58 B c_lbits
  have c_isboard := cal_is_board (P := l.prog) (w := w) (base := base) d59 B c_same
  have c_listed := cal_listed (P := l.prog) (w := w) (base := base) d60 B c_lbits
  have c_weighed := cal_weighed (P := l.prog) (w := w) (base := base) d61 B c_lbits c_lgcd
  have c_byw := cal_by_weights (P := l.prog) (w := w) (base := base) d62 B c_weighed c_depth
  have c_lleast := cal_law_least (P := l.prog) (w := w) (base := base) d63 B c_byw c_depth c_orders c_lcol
  have c_hasd := cal_has (P := l.prog) (w := w) (base := base) d64 c_isboard c_listed c_weighed c_depth
  have c_kleast := calk_least (P := l.prog) (w := w) (base := base) d42 B c_few
  have c_kshallow := calk_shallow (P := l.prog) (w := w) (base := base) d43 c_straight c_bycol c_tiem c_colof
  exact ok_law F B c_start c_draw c_small c_lgraph c_menu c_lties c_lleast c_same c_least c_few c_shallow c_hasd c_kleast c_kshallow
end
end WW
open PySem PySem.W PyProof.Rows
set_option maxHeartbeats 0 in
theorem PySem.Challenge.cw_wheelwritten_k25_whole_least_depth_holds : PySem.Challenge.rw_wheelwritten_k25_whole_least_depth.Holds := by
  w_on; o_law; k_head; (case hw => w_witness2)
  k_fill
  refine L2.walk_of (l := PySem.Challenge.rw_wheelwritten_k25_whole_least_depth) (n := 63) (k := 10) (x := "_law_script") (CX := fun _ => L2.CX0) (sp := fun w => WW.spLaw _) rfl (by decide) rfl ⟨rfl, by decide, by decide⟩ (fun w h Y => PySem.W.kIn_of Y) ?F (fun _ _ a ns hl _ hS => ⟨a, ns, rfl, hS, hl, fun _ => rfl⟩) (fun _ _ _ _ _ h => h)
  case F =>
    intro w mg fa h KX G hmg
    refine' WW.all_mk KX G hmg ?g9 ?g10 ?g11 ?g13 ?g15 ?g16 ?g18 ?g19 ?g21 ?g22 ?g23 ?g25 ?g26 ?g28 ?g29 ?g30 ?g31 ?g32 ?g33 ?g35 ?g36 ?g38 ?g39 ?g40 ?g42 ?g43 ?g45 ?g46 ?g47 ?g48 ?g49 ?g50 ?g51 ?g52 ?g53 ?g54 ?g55 ?g56 ?g57 ?g58 ?g59 ?g60 ?g61 ?g62 ?g63 ?g64 ?g65 ?zisinstance ?zint ?zbool ?ztuple ?zlist ?zlen ?zrange ?zenumerate ?zsum ?zmin ?zmax ?zabs ?zsorted
    (case g9 => refine' WW.got_mk ?a ?l ?c ?k; (case a => k_is); (case l => k_is); (case c => k_is); (case k => k_is))
    (case g10 => refine' WW.got_mk ?a ?l ?c ?k; (case a => k_is); (case l => k_is); (case c => k_is); (case k => k_is))
    (case g11 => refine' WW.got_mk ?a ?l ?c ?k; (case a => k_is); (case l => k_is); (case c => k_is); (case k => k_is))
    (case g13 => refine' WW.got_mk ?a ?l ?c ?k; (case a => k_is); (case l => k_is); (case c => k_is); (case k => k_is))
    (case g15 => refine' WW.got_mk ?a ?l ?c ?k; (case a => k_is); (case l => k_is); (case c => k_is); (case k => k_is))
    (case g16 => refine' WW.got_mk ?a ?l ?c ?k; (case a => k_is); (case l => k_is); (case c => k_is); (case k => k_is))
    (case g18 => refine' WW.got_mk ?a ?l ?c ?k; (case a => k_is); (case l => k_is); (case c => k_is); (case k => k_is))
    (case g19 => refine' WW.got_mk ?a ?l ?c ?k; (case a => k_is); (case l => k_is); (case c => k_is); (case k => k_is))
    (case g21 => refine' WW.got_mk ?a ?l ?c ?k; (case a => k_is); (case l => k_is); (case c => k_is); (case k => k_is))
    (case g22 => refine' WW.got_mk ?a ?l ?c ?k; (case a => k_is); (case l => k_is); (case c => k_is); (case k => k_is))
    (case g23 => refine' WW.got_mk ?a ?l ?c ?k; (case a => k_is); (case l => k_is); (case c => k_is); (case k => k_is))
    (case g25 => refine' WW.got_mk ?a ?l ?c ?k; (case a => k_is); (case l => k_is); (case c => k_is); (case k => k_is))
    (case g26 => refine' WW.got_mk ?a ?l ?c ?k; (case a => k_is); (case l => k_is); (case c => k_is); (case k => k_is))
    (case g28 => refine' WW.got_mk ?a ?l ?c ?k; (case a => k_is); (case l => k_is); (case c => k_is); (case k => k_is))
    (case g29 => refine' WW.got_mk ?a ?l ?c ?k; (case a => k_is); (case l => k_is); (case c => k_is); (case k => k_is))
    (case g30 => refine' WW.got_mk ?a ?l ?c ?k; (case a => k_is); (case l => k_is); (case c => k_is); (case k => k_is))
    (case g31 => refine' WW.got_mk ?a ?l ?c ?k; (case a => k_is); (case l => k_is); (case c => k_is); (case k => k_is))
    (case g32 => refine' WW.got_mk ?a ?l ?c ?k; (case a => k_is); (case l => k_is); (case c => k_is); (case k => k_is))
    (case g33 => refine' WW.got_mk ?a ?l ?c ?k; (case a => k_is); (case l => k_is); (case c => k_is); (case k => k_is))
    (case g35 => refine' WW.got_mk ?a ?l ?c ?k; (case a => k_is); (case l => k_is); (case c => k_is); (case k => k_is))
    (case g36 => refine' WW.got_mk ?a ?l ?c ?k; (case a => k_is); (case l => k_is); (case c => k_is); (case k => k_is))
    (case g38 => refine' WW.got_mk ?a ?l ?c ?k; (case a => k_is); (case l => k_is); (case c => k_is); (case k => k_is))
    (case g39 => refine' WW.got_mk ?a ?l ?c ?k; (case a => k_is); (case l => k_is); (case c => k_is); (case k => k_is))
    (case g40 => refine' WW.got_mk ?a ?l ?c ?k; (case a => k_is); (case l => k_is); (case c => k_is); (case k => k_is))
    (case g42 => refine' WW.got_mk ?a ?l ?c ?k; (case a => k_is); (case l => k_is); (case c => k_is); (case k => k_is))
    (case g43 => refine' WW.got_mk ?a ?l ?c ?k; (case a => k_is); (case l => k_is); (case c => k_is); (case k => k_is))
    (case g45 => refine' WW.got_mk ?a ?l ?c ?k; (case a => k_is); (case l => k_is); (case c => k_is); (case k => k_is))
    (case g46 => refine' WW.got_mk ?a ?l ?c ?k; (case a => k_is); (case l => k_is); (case c => k_is); (case k => k_is))
    (case g47 => refine' WW.got_mk ?a ?l ?c ?k; (case a => k_is); (case l => k_is); (case c => k_is); (case k => k_is))
    (case g48 => refine' WW.got_mk ?a ?l ?c ?k; (case a => k_is); (case l => k_is); (case c => k_is); (case k => k_is))
    (case g49 => refine' WW.got_mk ?a ?l ?c ?k; (case a => k_is); (case l => k_is); (case c => k_is); (case k => k_is))
    (case g50 => refine' WW.got_mk ?a ?l ?c ?k; (case a => k_is); (case l => k_is); (case c => k_is); (case k => k_is))
    (case g51 => refine' WW.got_mk ?a ?l ?c ?k; (case a => k_is); (case l => k_is); (case c => k_is); (case k => k_is))
    (case g52 => refine' WW.got_mk ?a ?l ?c ?k; (case a => k_is); (case l => k_is); (case c => k_is); (case k => k_is))
    (case g53 => refine' WW.got_mk ?a ?l ?c ?k; (case a => k_is); (case l => k_is); (case c => k_is); (case k => k_is))
    (case g54 => refine' WW.got_mk ?a ?l ?c ?k; (case a => k_is); (case l => k_is); (case c => k_is); (case k => k_is))
    (case g55 => refine' WW.got_mk ?a ?l ?c ?k; (case a => k_is); (case l => k_is); (case c => k_is); (case k => k_is))
    (case g56 => refine' WW.got_mk ?a ?l ?c ?k; (case a => k_is); (case l => k_is); (case c => k_is); (case k => k_is))
    (case g57 => refine' WW.got_mk ?a ?l ?c ?k; (case a => k_is); (case l => k_is); (case c => k_is); (case k => k_is))
    (case g58 => refine' WW.got_mk ?a ?l ?c ?k; (case a => k_is); (case l => k_is); (case c => k_is); (case k => k_is))
    (case g59 => refine' WW.got_mk ?a ?l ?c ?k; (case a => k_is); (case l => k_is); (case c => k_is); (case k => k_is))
    (case g60 => refine' WW.got_mk ?a ?l ?c ?k; (case a => k_is); (case l => k_is); (case c => k_is); (case k => k_is))
    (case g61 => refine' WW.got_mk ?a ?l ?c ?k; (case a => k_is); (case l => k_is); (case c => k_is); (case k => k_is))
    (case g62 => refine' WW.got_mk ?a ?l ?c ?k; (case a => k_is); (case l => k_is); (case c => k_is); (case k => k_is))
    (case g63 => refine' WW.got_mk ?a ?l ?c ?k; (case a => k_is); (case l => k_is); (case c => k_is); (case k => k_is))
    (case g64 => refine' WW.got_mk ?a ?l ?c ?k; (case a => k_is); (case l => k_is); (case c => k_is); (case k => k_is))
    (case g65 => refine' WW.got_mk ?a ?l ?c ?k; (case a => k_is); (case l => k_is); (case c => k_is); (case k => k_is))
    (case zisinstance => k_is)
    (case zint => k_is)
    (case zbool => k_is)
    (case ztuple => k_is)
    (case zlist => k_is)
    (case zlen => k_is)
    (case zrange => k_is)
    (case zenumerate => k_is)
    (case zsum => k_is)
    (case zmin => k_is)
    (case zmax => k_is)
    (case zabs => k_is)
    (case zsorted => k_is)

