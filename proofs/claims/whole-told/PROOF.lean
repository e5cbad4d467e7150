import PyProof.Rows.All
import Wide.All
import OpenK.AllK
import Wide.FinOn
import HandS.ForMost
import HandS.TupAny
import HandS.IsInst
import HandS.Evl
import HandS.Zip
import HandS.Walk
import HandS.DictTup
import HandS.Conv
import HandS.SortInts
import HandS.SortRule
import KE.DatumOrd
import KE.KDictKeyed
import HandS.More
import HandS.Star
import HandS.Iter
import KE.KDictOf
import KE.DataEq
import HandS.Style
import PySem.Challenge.RW_finecloud_k06_whole_told
set_option autoImplicit false
set_option linter.all false
set_option Elab.async false
set_option maxRecDepth 100000
set_option maxHeartbeats 4000000
namespace FC

abbrev Pre := Nat × Nat
def ch0 (p : Pre) : Pre := (p.1 + 1, 2 * p.2)
def ch1 (p : Pre) : Pre := (p.1 + 1, 2 * p.2 + 1)

/-! ### inside -/
/-- q lies in the subtree of p -/
def ins (q p : Pre) : Prop := p.1 ≤ q.1 ∧ q.2 / 2 ^ (q.1 - p.1) = p.2
instance (q p : Pre) : Decidable (ins q p) := inferInstanceAs (Decidable (_ ∧ _))

theorem ins_refl (p : Pre) : ins p p := ⟨Nat.le_refl _, by rw [Nat.sub_self, Nat.pow_zero, Nat.div_one]⟩
theorem ins_eq {q p : Pre} (h : ins q p) (e : q.1 ≤ p.1) : q = p := by
  obtain ⟨h1, h2⟩ := h
  have e1 : q.1 = p.1 := Nat.le_antisymm e h1
  rw [e1, Nat.sub_self, Nat.pow_zero, Nat.div_one] at h2
  exact Prod.ext e1 h2
theorem ins_trans {a b c : Pre} (h : ins a b) (g : ins b c) : ins a c := by
  obtain ⟨h1, h2⟩ := h
  obtain ⟨g1, g2⟩ := g
  refine ⟨Nat.le_trans g1 h1, ?_⟩
  rw [← g2, ← h2, Nat.div_div_eq_div_mul, ← Nat.pow_add]
  congr 2
  omega
theorem ins_ch0 (p : Pre) : ins (ch0 p) p := ⟨Nat.le_succ _, by
  show 2 * p.2 / 2 ^ (p.1 + 1 - p.1) = p.2
  rw [Nat.add_sub_cancel_left, Nat.pow_one]; omega⟩
theorem ins_ch1 (p : Pre) : ins (ch1 p) p := ⟨Nat.le_succ _, by
  show (2 * p.2 + 1) / 2 ^ (p.1 + 1 - p.1) = p.2
  rw [Nat.add_sub_cancel_left, Nat.pow_one]; omega⟩
theorem ins_split {q p : Pre} (h : ins q p) (n : q ≠ p) : ins q (ch0 p) ∨ ins q (ch1 p) := by
  have hlt : p.1 < q.1 := by
    rcases Nat.lt_or_ge p.1 q.1 with h1 | h1
    · exact h1
    · exact absurd (ins_eq h h1) n
  obtain ⟨h1, h2⟩ := h
  have e : q.1 - p.1 = (q.1 - (p.1 + 1)) + 1 := by omega
  rw [e, Nat.pow_succ, ← Nat.div_div_eq_div_mul] at h2
  have hh : q.2 / 2 ^ (q.1 - (p.1 + 1)) = 2 * p.2 ∨ q.2 / 2 ^ (q.1 - (p.1 + 1)) = 2 * p.2 + 1 := by omega
  rcases hh with hh | hh
  · exact .inl ⟨hlt, hh⟩
  · exact .inr ⟨hlt, hh⟩
theorem ins_both {q p : Pre} (h : ins q (ch0 p)) (g : ins q (ch1 p)) : False := by
  obtain ⟨_, h2⟩ := h
  obtain ⟨_, g2⟩ := g
  have h2 : q.2 / 2 ^ (q.1 - (p.1 + 1)) = 2 * p.2 := h2
  have g2 : q.2 / 2 ^ (q.1 - (p.1 + 1)) = 2 * p.2 + 1 := g2
  omega
theorem ins_c0 {q p : Pre} (h : ins q (ch0 p)) : ins q p := ins_trans h (ins_ch0 p)
theorem ins_c1 {q p : Pre} (h : ins q (ch1 p)) : ins q p := ins_trans h (ins_ch1 p)
theorem ne_c0 {q p : Pre} (h : ins q (ch0 p)) : q ≠ p := by
  rintro rfl
  have : q.1 + 1 ≤ q.1 := h.1
  omega
theorem ne_c1 {q p : Pre} (h : ins q (ch1 p)) : q ≠ p := by
  rintro rfl
  have : q.1 + 1 ≤ q.1 := h.1
  omega
/-- two prefixes above one: the shorter above the longer -/
theorem ins_chain {a b c : Pre} (h : ins c a) (g : ins c b) (e : a.1 ≤ b.1) : ins b a := by
  obtain ⟨h1, h2⟩ := h
  obtain ⟨g1, g2⟩ := g
  refine ⟨e, ?_⟩
  rw [← g2, Nat.div_div_eq_div_mul, ← Nat.pow_add, ← h2]
  congr 2
  omega
theorem ins_lt {q p : Pre} (h : ins q p) (n : q ≠ p) : p.1 < q.1 := by
  rcases Nat.lt_or_ge p.1 q.1 with h1 | h1
  · exact h1
  · exact absurd (ins_eq h h1) n
theorem root_ins {q : Pre} (h : q.2 < 2 ^ q.1) : ins q (0, 0) := ⟨Nat.zero_le _, by
  show q.2 / 2 ^ (q.1 - 0) = 0
  rw [Nat.sub_zero]; exact Nat.div_eq_of_lt h⟩
theorem of_root_ins {q : Pre} (h : ins q (0, 0)) : q.2 < 2 ^ q.1 := by
  have h2 : q.2 / 2 ^ (q.1 - 0) = 0 := h.2
  rw [Nat.sub_zero] at h2
  exact (Nat.div_eq_zero_iff_lt (Nat.pow_pos (by omega))).mp h2

/-! ### measures -/
def sz (D : Nat) (p : Pre) : Nat := 2 ^ (D - p.1)
def Add (D : Nat) (μ : Pre → Nat) : Prop := ∀ p, p.1 < D → ins p (0, 0) → μ p = μ (ch0 p) + μ (ch1 p)
theorem sz_pos (D : Nat) (p : Pre) : 0 < sz D p := Nat.pow_pos (by omega)
theorem sz_half {D : Nat} {p : Pre} (h : p.1 < D) : sz D p = 2 * sz D (ch0 p) ∧ sz D (ch1 p) = sz D (ch0 p) := by
  refine ⟨?_, rfl⟩
  show 2 ^ (D - p.1) = 2 * 2 ^ (D - (p.1 + 1))
  rw [show D - p.1 = (D - (p.1 + 1)) + 1 by omega, Nat.pow_succ]; omega
theorem sz_add (D : Nat) : Add D (sz D) := fun p h _ => by
  obtain ⟨h1, h2⟩ := sz_half h
  omega

/-- the measure of the cell q -/
def mu (D : Nat) (q p : Pre) : Nat := if ins p q then sz D p else if ins q p then sz D q else 0
theorem mu_in {D : Nat} {q p : Pre} (h : ins p q) : mu D q p = sz D p := if_pos h
theorem mu_up {D : Nat} {q p : Pre} (h : ins q p) : mu D q p = sz D q := by
  unfold mu
  by_cases g : ins p q
  · have : p = q := ins_eq g h.1
    rw [if_pos g, this]
  · rw [if_neg g, if_pos h]
theorem mu_out {D : Nat} {q p : Pre} (h : ¬ ins p q) (g : ¬ ins q p) : mu D q p = 0 := by
  unfold mu; rw [if_neg h, if_neg g]
theorem mu_add {D : Nat} {q : Pre} (hq : q.1 ≤ D) : Add D (mu D q) := fun p hp _ => by
  by_cases h : ins p q
  · rw [mu_in h, mu_in (ins_trans (ins_ch0 p) h), mu_in (ins_trans (ins_ch1 p) h)]
    obtain ⟨h1, h2⟩ := sz_half hp
    omega
  · by_cases g : ins q p
    · rw [mu_up g]
      have n : q ≠ p := by rintro rfl; exact h g
      rcases ins_split g n with c | c
      · rw [mu_up c, mu_out (p := ch1 p)]
        · rfl
        · intro z
          have e : ins (ch1 p) (ch0 p) := ins_trans z c
          have := ins_eq e (Nat.le_refl _)
          unfold ch1 ch0 at this; injection this with _ e2; omega
        · exact fun z => ins_both c z
      · rw [mu_up c, mu_out (p := ch0 p)]
        · omega
        · intro z
          have e : ins (ch0 p) (ch1 p) := ins_trans z c
          have := ins_eq e (Nat.le_refl _)
          unfold ch1 ch0 at this; injection this with _ e2; omega
        · exact fun z => ins_both z c
    · have key : ∀ c, ins c p → c.1 = p.1 + 1 → mu D q c = 0 := fun c hc e => by
        refine mu_out (fun z => ?_) (fun z => g (ins_trans z hc))
        rcases Nat.lt_or_ge p.1 q.1 with l | l
        · have : c = q := ins_eq z (by omega)
          rw [this] at hc; exact g hc
        · exact h (ins_chain z hc l)
      rw [mu_out h g, key _ (ins_ch0 p) rfl, key _ (ins_ch1 p) rfl]
theorem mu_le {D : Nat} {q p : Pre} (hq : q.1 ≤ D) : mu D q p ≤ sz D p := by
  unfold mu
  split
  · exact Nat.le_refl _
  · split
    · rename_i h1 h2
      exact Nat.pow_le_pow_right (by omega) (by have := h2.1; omega)
    · exact Nat.zero_le _

/-- what is additive, at most the size, and the cell's size at the whole and at the cell is the cell's measure -/
theorem mu_unique {D : Nat} {q : Pre} (ρ : Pre → Nat) (hq : q.1 ≤ D) (hv : ins q (0, 0)) (ha : Add D ρ) (hl : ∀ p, p.1 ≤ D → ins p (0, 0) → ρ p ≤ sz D p) (hr : ρ (0, 0) = sz D q) (he : ρ q = sz D q) :
    ∀ p, p.1 ≤ D → ins p (0, 0) → ρ p = mu D q p := by
  -- below the cell
  have down : ∀ n p, p.1 = q.1 + n → p.1 ≤ D → ins p q → ρ p = sz D p := by
    intro n
    induction n with
    | zero =>
      intro p e _ h
      have : p = q := ins_eq h (by omega)
      rw [this]; exact he
    | succ n ih =>
      intro p e hp h
      -- the parent
      have hpar : ins p (p.1 - 1, p.2 / 2) := ⟨Nat.sub_le _ _, by
        show p.2 / 2 ^ (p.1 - (p.1 - 1)) = p.2 / 2
        rw [show p.1 - (p.1 - 1) = 1 by omega, Nat.pow_one]⟩
      have hpq : ins (p.1 - 1, p.2 / 2) q := ins_chain h hpar (by show q.1 ≤ p.1 - 1; omega)
      have hu := ih (p.1 - 1, p.2 / 2) (by show p.1 - 1 = q.1 + n; omega) (by show p.1 - 1 ≤ D; omega) hpq
      have hlt : (p.1 - 1, p.2 / 2).1 < D := by show p.1 - 1 < D; omega
      have hroot := ins_trans hpq hv
      have a1 := ha _ hlt hroot
      obtain ⟨s1, s2⟩ := sz_half hlt
      have l0 := hl (ch0 (p.1 - 1, p.2 / 2)) (by show p.1 - 1 + 1 ≤ D; omega) (ins_trans (ins_ch0 _) hroot)
      have l1 := hl (ch1 (p.1 - 1, p.2 / 2)) (by show p.1 - 1 + 1 ≤ D; omega) (ins_trans (ins_ch1 _) hroot)
      have hne : p ≠ (p.1 - 1, p.2 / 2) := by
        intro z
        have : p.1 = p.1 - 1 := congrArg Prod.fst z
        omega
      rcases ins_split hpar hne with c | c
      · have e2 : p = ch0 (p.1 - 1, p.2 / 2) := ins_eq c (by show p.1 ≤ p.1 - 1 + 1; omega)
        rw [← e2] at a1 s1 s2 l0
        omega
      · have e2 : p = ch1 (p.1 - 1, p.2 / 2) := ins_eq c (by show p.1 ≤ p.1 - 1 + 1; omega)
        rw [← e2] at a1 s2 l1
        omega
  -- above the cell, at least
  have up : ∀ n p, p.1 + n = q.1 → ins q p → sz D q ≤ ρ p := by
    intro n
    induction n with
    | zero =>
      intro p e h
      have : q = p := ins_eq h (by omega)
      rw [← this, he]; exact Nat.le_refl _
    | succ n ih =>
      intro p e h
      have hroot : ins p (0, 0) := ins_chain hv h (Nat.zero_le _)
      have a1 := ha p (by omega) hroot
      have hne : q ≠ p := by rintro rfl; omega
      rcases ins_split h hne with c | c
      · have := ih (ch0 p) (by show p.1 + 1 + n = q.1; omega) c
        omega
      · have := ih (ch1 p) (by show p.1 + 1 + n = q.1; omega) c
        omega
  -- from the root down
  have all : ∀ n p, p.1 = n → p.1 ≤ D → ins p (0, 0) → (ins q p → ρ p = sz D q) ∧ (¬ ins q p → ¬ ins p q → ρ p = 0) := by
    intro n
    induction n with
    | zero =>
      intro p e hp hroot
      have : p = (0, 0) := ins_eq hroot (by omega)
      subst this
      exact ⟨fun _ => hr, fun h _ => absurd hv h⟩
    | succ n ih =>
      intro p e hp hroot
      have hpar : ins p (p.1 - 1, p.2 / 2) := ⟨Nat.sub_le _ _, by
        show p.2 / 2 ^ (p.1 - (p.1 - 1)) = p.2 / 2
        rw [show p.1 - (p.1 - 1) = 1 by omega, Nat.pow_one]⟩
      have hparR : ins (p.1 - 1, p.2 / 2) (0, 0) := ins_chain hroot hpar (Nat.zero_le _)
      have hlt : (p.1 - 1, p.2 / 2).1 < D := by show p.1 - 1 < D; omega
      obtain ⟨i1, i2⟩ := ih (p.1 - 1, p.2 / 2) (by show p.1 - 1 = n; omega) (by omega) hparR
      have a1 := ha _ hlt hparR
      have hne : p ≠ (p.1 - 1, p.2 / 2) := by
        intro z
        have : p.1 = p.1 - 1 := congrArg Prod.fst z
        omega
      have ec : p = ch0 (p.1 - 1, p.2 / 2) ∨ p = ch1 (p.1 - 1, p.2 / 2) := by
        rcases ins_split hpar hne with c | c
        · exact .inl (ins_eq c (by show p.1 ≤ p.1 - 1 + 1; omega))
        · exact .inr (ins_eq c (by show p.1 ≤ p.1 - 1 + 1; omega))
      refine ⟨fun h => ?_, fun h g => ?_⟩
      · have hu := i1 (ins_trans h hpar)
        have lo := up (q.1 - p.1) p (by have := h.1; omega) h
        rcases ec with e2 | e2
        · rw [← e2] at a1; omega
        · rw [← e2] at a1; omega
      · by_cases k : ins q (p.1 - 1, p.2 / 2)
        · have hu := i1 k
          have hn : q ≠ (p.1 - 1, p.2 / 2) := by
            intro z
            exact g (by rw [z]; exact hpar)
          rcases ins_split k hn with c | c
          · have lo := up (q.1 - (p.1 - 1 + 1)) (ch0 (p.1 - 1, p.2 / 2)) (by show p.1 - 1 + 1 + (q.1 - (p.1 - 1 + 1)) = q.1; have : p.1 - 1 + 1 ≤ q.1 := c.1; omega) c
            rcases ec with e2 | e2
            · rw [← e2] at c; exact absurd c h
            · rw [← e2] at a1; omega
          · have lo := up (q.1 - (p.1 - 1 + 1)) (ch1 (p.1 - 1, p.2 / 2)) (by show p.1 - 1 + 1 + (q.1 - (p.1 - 1 + 1)) = q.1; have : p.1 - 1 + 1 ≤ q.1 := c.1; omega) c
            rcases ec with e2 | e2
            · rw [← e2] at a1; omega
            · rw [← e2] at c; exact absurd c h
        · have hu := i2 k (fun z => g (ins_trans hpar z))
          rcases ec with e2 | e2
          · rw [← e2] at a1; omega
          · rw [← e2] at a1; omega
  intro p hp hroot
  by_cases h : ins p q
  · rw [mu_in h]
    exact down (p.1 - q.1) p (by have := h.1; omega) hp h
  · obtain ⟨i1, i2⟩ := all p.1 p rfl hp hroot
    by_cases g : ins q p
    · rw [mu_up g]; exact i1 g
    · rw [mu_out h g]; exact i2 g h
end FC
namespace FC

/-! ### what is left uncovered by facts -/
/-- of p, with k levels below, what no fact within p (p too) covers -/
def uK (F : Pre → Bool) (μ : Pre → Nat) : Nat → Pre → Nat
  | 0, p => if F p then 0 else μ p
  | k + 1, p => if F p then 0 else uK F μ k (ch0 p) + uK F μ k (ch1 p)
/-- .. what no fact strictly within p covers -/
def rK (F : Pre → Bool) (μ : Pre → Nat) : Nat → Pre → Nat
  | 0, p => μ p
  | k + 1, p => uK F μ k (ch0 p) + uK F μ k (ch1 p)
def U (D : Nat) (F : Pre → Bool) (μ : Pre → Nat) (p : Pre) : Nat := uK F μ (D - p.1) p
def R (D : Nat) (F : Pre → Bool) (μ : Pre → Nat) (p : Pre) : Nat := rK F μ (D - p.1) p
section
variable {D : Nat} {F : Pre → Bool} {μ ν : Pre → Nat} {p : Pre}
theorem U_eq : U D F μ p = if F p = true then 0 else R D F μ p := by
  unfold U R
  cases D - p.1 <;> rfl
theorem R_lt (h : p.1 < D) : R D F μ p = U D F μ (ch0 p) + U D F μ (ch1 p) := by
  unfold U R
  rw [show D - p.1 = (D - (ch0 p).1) + 1 by show D - p.1 = D - (p.1 + 1) + 1; omega]
  rfl
theorem R_end (h : p.1 = D) : R D F μ p = μ p := by
  unfold R
  rw [h, Nat.sub_self]; rfl
theorem U_F (h : F p = true) : U D F μ p = 0 := by rw [U_eq, if_pos h]
theorem U_nF (h : F p = false) : U D F μ p = R D F μ p := by rw [U_eq, if_neg (by rw [h]; exact Bool.false_ne_true)]

/-- induction down the tree -/
theorem tree_ind {P : Pre → Prop} (D : Nat) (h : ∀ p, p.1 ≤ D → ins p (0, 0) → (p.1 < D → P (ch0 p) ∧ P (ch1 p)) → P p) : ∀ p, p.1 ≤ D → ins p (0, 0) → P p := by
  have key : ∀ n p, D - p.1 = n → p.1 ≤ D → ins p (0, 0) → P p := by
    intro n
    induction n with
    | zero => intro p e hp hr; exact h p hp hr fun z => by omega
    | succ n ih =>
      intro p e hp hr
      refine h p hp hr fun z => ⟨ih _ ?_ ?_ (ins_trans (ins_ch0 p) hr), ih _ ?_ ?_ (ins_trans (ins_ch1 p) hr)⟩
      · show D - (p.1 + 1) = n; omega
      · show p.1 + 1 ≤ D; omega
      · show D - (p.1 + 1) = n; omega
      · show p.1 + 1 ≤ D; omega
  intro p
  exact key _ p rfl

theorem R_le (ha : Add D μ) : ∀ p, p.1 ≤ D → ins p (0, 0) → R D F μ p ≤ μ p := tree_ind D fun p hp hr ih => by
  by_cases h : p.1 < D
  · obtain ⟨i0, i1⟩ := ih h
    rw [R_lt h, ha p h hr]
    have e0 := U_eq (D := D) (F := F) (μ := μ) (p := ch0 p)
    have e1 := U_eq (D := D) (F := F) (μ := μ) (p := ch1 p)
    split at e0 <;> split at e1 <;> omega
  · rw [R_end (by omega)]; exact Nat.le_refl _
theorem U_le_R : U D F μ p ≤ R D F μ p := by
  rw [U_eq]; split <;> omega
/-- measures that agree within p -/
theorem R_congr : ∀ p, p.1 ≤ D → ins p (0, 0) → (∀ r, ins r p → r.1 ≤ D → μ r = ν r) → R D F μ p = R D F ν p := tree_ind D fun p hp _ ih g => by
  by_cases h : p.1 < D
  · obtain ⟨i0, i1⟩ := ih h
    have e0 := i0 fun r hr => g r (ins_c0 hr)
    have e1 := i1 fun r hr => g r (ins_c1 hr)
    rw [R_lt h, R_lt h, U_eq, U_eq, U_eq, U_eq, e0, e1]
  · rw [R_end (by omega), R_end (by omega)]; exact g p (ins_refl p) hp
theorem U_congr (hp : p.1 ≤ D) (hv : ins p (0, 0)) (g : ∀ r, ins r p → r.1 ≤ D → μ r = ν r) : U D F μ p = U D F ν p := by
  rw [U_eq, U_eq, R_congr p hp hv g]
theorem R_mono : ∀ p, p.1 ≤ D → ins p (0, 0) → (∀ r, ins r p → r.1 ≤ D → μ r ≤ ν r) → R D F μ p ≤ R D F ν p := tree_ind D fun p hp _ ih g => by
  by_cases h : p.1 < D
  · obtain ⟨i0, i1⟩ := ih h
    have e0 := i0 fun r hr => g r (ins_c0 hr)
    have e1 := i1 fun r hr => g r (ins_c1 hr)
    rw [R_lt h, R_lt h, U_eq, U_eq (μ := μ), U_eq (μ := ν), U_eq (μ := ν)]
    split <;> split <;> omega
  · rw [R_end (by omega), R_end (by omega)]; exact g p (ins_refl p) hp
theorem U_mono (hp : p.1 ≤ D) (hv : ins p (0, 0)) (g : ∀ r, ins r p → r.1 ≤ D → μ r ≤ ν r) : U D F μ p ≤ U D F ν p := by
  rw [U_eq, U_eq]
  have := R_mono (F := F) p hp hv g
  split <;> omega
theorem R_zero (hp : p.1 ≤ D) (hv : ins p (0, 0)) (g : ∀ r, ins r p → r.1 ≤ D → μ r = 0) : R D F μ p = 0 := by
  have key : ∀ p, p.1 ≤ D → ins p (0, 0) → (∀ r, ins r p → r.1 ≤ D → μ r = 0) → R D F μ p = 0 := tree_ind D fun p hp _ ih g => by
    by_cases h : p.1 < D
    · obtain ⟨i0, i1⟩ := ih h
      have e0 := i0 fun r hr => g r (ins_c0 hr)
      have e1 := i1 fun r hr => g r (ins_c1 hr)
      rw [R_lt h, U_eq, U_eq, e0, e1]
      split <;> split <;> rfl
    · rw [R_end (by omega)]; exact g p (ins_refl p) hp
  exact key p hp hv g
theorem U_zero (hp : p.1 ≤ D) (hv : ins p (0, 0)) (g : ∀ r, ins r p → r.1 ≤ D → μ r = 0) : U D F μ p = 0 := by
  rw [U_eq, R_zero hp hv g]; split <;> rfl
/-- no fact within: all is left -/
theorem R_free (ha : Add D μ) : ∀ p, p.1 ≤ D → ins p (0, 0) → (∀ r, ins r p → r ≠ p → r.1 ≤ D → F r = false) → R D F μ p = μ p := tree_ind D fun p hp hr ih g => by
  by_cases h : p.1 < D
  · obtain ⟨i0, i1⟩ := ih h
    have e0 := i0 fun r hr _ => g r (ins_c0 hr) (ne_c0 hr)
    have e1 := i1 fun r hr _ => g r (ins_c1 hr) (ne_c1 hr)
    have f0 := g (ch0 p) (ins_ch0 p) (ne_c0 (ins_refl _)) (by show p.1 + 1 ≤ D; omega)
    have f1 := g (ch1 p) (ins_ch1 p) (ne_c1 (ins_refl _)) (by show p.1 + 1 ≤ D; omega)
    rw [R_lt h, U_nF f0, U_nF f1, e0, e1, ← ha p h hr]
  · exact R_end (by omega)
/-- facts that agree strictly within p -/
theorem R_agree {F' : Pre → Bool} : ∀ p, p.1 ≤ D → ins p (0, 0) → (∀ r, ins r p → r ≠ p → r.1 ≤ D → F r = F' r) → R D F μ p = R D F' μ p := tree_ind D fun p hp hr ih g => by
  by_cases h : p.1 < D
  · obtain ⟨i0, i1⟩ := ih h
    have e0 := i0 fun r hr _ => g r (ins_c0 hr) (ne_c0 hr)
    have e1 := i1 fun r hr _ => g r (ins_c1 hr) (ne_c1 hr)
    have f0 := g (ch0 p) (ins_ch0 p) (ne_c0 (ins_refl _)) (by show p.1 + 1 ≤ D; omega)
    have f1 := g (ch1 p) (ins_ch1 p) (ne_c1 (ins_refl _)) (by show p.1 + 1 ≤ D; omega)
    rw [R_lt h, R_lt h, U_eq, U_eq, U_eq, U_eq, e0, e1, f0, f1]
  · rw [R_end (by omega), R_end (by omega)]
end

/-! ### the program's reckoning -/
inductive Word where
  | bare | full | lone | all | needed
  deriving DecidableEq
abbrev Row := Nat × List Pre
def ltP (a b : Pre) : Bool := if a.1 = b.1 then decide (a.2 < b.2) else decide (a.1 < b.1)
def ltRows : List Pre → List Pre → Bool
  | [], [] => false
  | [], _ :: _ => true
  | _ :: _, [] => false
  | x :: xs, y :: ys => if x = y then ltRows xs ys else ltP x y
def ltRow (a b : Row) : Bool := if a.1 = b.1 then ltRows a.2 b.2 else decide (a.1 < b.1)
def minRow (x : Row) (xs : List Row) : Row := xs.foldl (fun a y => if ltRow y a = true then y else a) x
def least (rows : List (Option Row)) : Option Row := match rows.filterMap id with
  | [] => none
  | x :: xs => some (minRow x xs)
theorem minRow_spec : ∀ (xs : List Row) (x : Row), minRow x xs ∈ x :: xs ∧ ∀ y ∈ x :: xs, (minRow x xs).1 ≤ y.1
  | [], x => ⟨List.mem_cons_self, fun y hy => by
    have : y = x := by simpa using hy
    rw [this]; exact Nat.le_refl _⟩
  | z :: xs, x => by
    have e : minRow x (z :: xs) = minRow (if ltRow z x = true then z else x) xs := rfl
    obtain ⟨h1, h2⟩ := minRow_spec xs (if ltRow z x = true then z else x)
    rw [e]
    have hx : (if ltRow z x = true then z else x).1 ≤ x.1 ∧ (if ltRow z x = true then z else x).1 ≤ z.1 := by
      unfold ltRow
      by_cases q : z.1 = x.1
      · rw [if_pos q]
        split <;> omega
      · rw [if_neg q]
        by_cases q2 : z.1 < x.1
        · rw [if_pos (decide_eq_true q2)]; omega
        · rw [if_neg (by rw [decide_eq_false q2]; exact Bool.false_ne_true)]; omega
    have h0 := h2 _ List.mem_cons_self
    refine ⟨?_, fun y hy => ?_⟩
    · rcases List.mem_cons.mp h1 with q | q
      · rw [q]
        split
        · exact List.mem_cons_of_mem _ List.mem_cons_self
        · exact List.mem_cons_self
      · exact List.mem_cons_of_mem _ (List.mem_cons_of_mem _ q)
    · rcases List.mem_cons.mp hy with q | q
      · rw [q]; omega
      · rcases List.mem_cons.mp q with q | q
        · rw [q]; omega
        · exact h2 y (List.mem_cons_of_mem _ q)
theorem least_mem {rows : List (Option Row)} {v : Row} (h : least rows = some v) : some v ∈ rows := by
  unfold least at h
  cases q : rows.filterMap id with
  | nil => rw [q] at h; cases h
  | cons x xs =>
    rw [q] at h
    have e : minRow x xs = v := Option.some.inj h
    have m := (minRow_spec xs x).1
    rw [e, ← q] at m
    obtain ⟨a, ha, hb⟩ := List.mem_filterMap.mp m
    rw [show a = some v from hb] at ha
    exact ha
theorem least_le {rows : List (Option Row)} {u : Row} (h : some u ∈ rows) : ∃ v, least rows = some v ∧ v.1 ≤ u.1 := by
  have m : u ∈ rows.filterMap id := List.mem_filterMap.mpr ⟨some u, h, rfl⟩
  unfold least
  cases q : rows.filterMap id with
  | nil => rw [q] at m; cases m
  | cons x xs =>
    rw [q] at m
    exact ⟨_, rfl, (minRow_spec xs x).2 u m⟩

structure Env where
  D : Nat
  cnt : Pre → Nat
  need : Pre → Bool
  fin : Nat
  F0 : Pre → Bool
  hold : Pre → Bool
namespace Env
variable (e : Env)
abbrev sz (p : Pre) : Nat := FC.sz e.D p
def both (rec : Word → Pre → Option Row) (w0 w1 : Word) (p : Pre) : Option Row :=
  match rec w0 (ch0 p), rec w1 (ch1 p) with
  | some a, some b => some (a.1 + b.1, a.2 ++ b.2)
  | _, _ => none
def within (rec : Word → Pre → Option Row) (p : Pre) : Option Row :=
  if (decide (e.fin ≤ p.1) || (decide (e.cnt p = 0) || decide (e.cnt p = e.sz p)) || !e.need p) = true then some (0, [])
  else least [both rec .bare .bare p, both rec .full .full p, both rec .lone .all p, both rec .all .lone p, both rec .needed .needed p]
def told (rec : Word → Pre → Option Row) (p : Pre) : Option Row :=
  (e.within rec p).map fun r => if e.F0 p = true then r else (r.1 + 1, p :: r.2)
def ends (w : Word) (p : Pre) : Bool := match w with
  | .bare => decide (e.cnt p = 0)
  | .full => decide (e.cnt p = e.sz p)
  | .needed => !e.need p
  | .lone => decide (p.1 = e.fin)
  | .all => false
def cellWay (rec : Word → Pre → Option Row) (w : Word) (p : Pre) : Option Row :=
  least ((if (e.F0 p || decide (p.1 = e.fin)) = true then [e.told rec p] else []) ++ (if e.hold p = true then [both rec w w p] else []))
def cellWord (w : Word) : Word := if w = .needed then .all else w
def wayOf (rec : Word → Pre → Option Row) (w : Word) (p : Pre) : Option Row :=
  if e.ends w p = true then some (0, [])
  else if e.fin ≤ p.1 then e.cellWay rec (cellWord w) p
  else if w = .lone then least [both rec .lone .all p, both rec .all .lone p]
  else least [e.told rec p, both rec w w p]
def wayK (e : Env) : Nat → Word → Pre → Option Row
  | 0 => e.wayOf fun _ _ => none
  | k + 1 => e.wayOf (e.wayK k)
def way (w : Word) (p : Pre) : Option Row := e.wayK (e.D - p.1) w p
/-- the fewest facts of the whole -/
def dp : Option Row := least [e.way .needed (0, 0), e.told e.way (0, 0)]
end Env
end FC
namespace FC
theorem down_ind {D : Nat} {P : Pre → Prop} {p : Pre} (h0 : P p) (hs : ∀ r, ins r p → r.1 < D → P r → P (ch0 r) ∧ P (ch1 r)) : ∀ r, ins r p → r.1 ≤ D → P r := by
  have key : ∀ n r, r.1 = p.1 + n → ins r p → r.1 ≤ D → P r := by
    intro n
    induction n with
    | zero => intro r e h _; rw [ins_eq h (by omega)]; exact h0
    | succ n ih =>
      intro r e h hd
      have hpar : ins r (r.1 - 1, r.2 / 2) := ⟨Nat.sub_le _ _, by
        show r.2 / 2 ^ (r.1 - (r.1 - 1)) = r.2 / 2
        rw [show r.1 - (r.1 - 1) = 1 by omega, Nat.pow_one]⟩
      have hpp : ins (r.1 - 1, r.2 / 2) p := ins_chain h hpar (by show p.1 ≤ r.1 - 1; omega)
      have g := ih (r.1 - 1, r.2 / 2) (by show r.1 - 1 = p.1 + n; omega) hpp (by show r.1 - 1 ≤ D; omega)
      obtain ⟨g0, g1⟩ := hs _ hpp (by show r.1 - 1 < D; omega) g
      have hne : r ≠ (r.1 - 1, r.2 / 2) := by
        intro z
        have : r.1 = r.1 - 1 := congrArg Prod.fst z
        omega
      rcases ins_split hpar hne with c | c
      · rw [ins_eq c (by show r.1 ≤ r.1 - 1 + 1; omega)]; exact g0
      · rw [ins_eq c (by show r.1 ≤ r.1 - 1 + 1; omega)]; exact g1
  intro r h hd
  exact key (r.1 - p.1) r (by have := h.1; omega) h hd

namespace Env
structure Fit (e : Env) : Prop where
  cadd : Add e.D e.cnt
  cle : ∀ p, p.1 ≤ e.D → ins p (0, 0) → e.cnt p ≤ e.sz p
  nadd : ∀ p, p.1 < e.D → ins p (0, 0) → e.need p = (e.need (ch0 p) || e.need (ch1 p))
  hfin : e.fin ≤ e.D
  hF0 : ∀ p, e.F0 p = true → p.1 ≤ e.D ∧ ins p (0, 0)
  hhold : ∀ p, p.1 ≤ e.D → ins p (0, 0) → (e.hold p = true ↔ ∃ r, e.F0 r = true ∧ ins r p ∧ r ≠ p)
/-- a prefix whose count is wanted -/
def Want (e : Env) (q : Pre) : Prop := q.1 = e.fin ∧ ins q (0, 0) ∧ e.need q = true
/-- the rest of r tells all that is wanted of it -/
def Good (e : Env) (F : Pre → Bool) (r : Pre) : Prop := ∀ q, e.Want q →
  R e.D F (mu e.D q) r = 0 ∨ R e.D F (mu e.D q) r = R e.D F e.sz r ∨ R e.D F e.cnt r = 0 ∨ R e.D F e.cnt r = R e.D F e.sz r
def AllGood (e : Env) (F : Pre → Bool) (p : Pre) : Prop := ∀ r, ins r p → r.1 ≤ e.D → F r = true → e.Good F r
def AllGoodIn (e : Env) (F : Pre → Bool) (p : Pre) : Prop := ∀ r, ins r p → r ≠ p → r.1 ≤ e.D → F r = true → e.Good F r
/-- ALL THAT IS WANTED IS KNOWN -/
def Enough (e : Env) (F : Pre → Bool) : Prop := e.AllGood F (0, 0) ∧ (F (0, 0) = false → ∀ q, e.Want q → R e.D F (mu e.D q) (0, 0) = 0)
def OkW (e : Env) (F : Pre → Bool) (w : Word) (p : Pre) : Prop := match w with
  | .bare => U e.D F e.cnt p = 0
  | .full => U e.D F e.cnt p = U e.D F e.sz p
  | .lone => ∃ q : Pre, q.1 = e.fin ∧ U e.D F (mu e.D q) p = U e.D F e.sz p
  | .all => U e.D F e.sz p = 0
  | .needed => ∀ q, e.Want q → U e.D F (mu e.D q) p = 0
def Agree (e : Env) (F : Pre → Bool) (p : Pre) (rows : List Pre) : Prop := ∀ r, ins r p → (F r = true ↔ e.F0 r = true ∨ r ∈ rows)
def AgreeIn (e : Env) (F : Pre → Bool) (p : Pre) (rows : List Pre) : Prop := ∀ r, ins r p → r ≠ p → (F r = true ↔ e.F0 r = true ∨ r ∈ rows)
structure Snd (e : Env) (w : Word) (p : Pre) (m : Nat) (rows : List Pre) : Prop where
  len : rows.length = m
  rows_in : ∀ r ∈ rows, ins r p ∧ r.1 ≤ e.fin ∧ e.F0 r = false
  nd : rows.Nodup
  ok : ∀ F, e.Agree F p rows → e.OkW F w p ∧ e.AllGood F p
structure SndIn (e : Env) (p : Pre) (m : Nat) (rows : List Pre) : Prop where
  len : rows.length = m
  rows_in : ∀ r ∈ rows, ins r p ∧ r ≠ p ∧ r.1 ≤ e.fin ∧ e.F0 r = false
  nd : rows.Nodup
  ok : ∀ F, e.AgreeIn F p rows → e.Good F p ∧ e.AllGoodIn F p
/-- the words that are asked of prefixes up to the fineness alone -/
def High (e : Env) (w : Word) (p : Pre) : Prop := w = .needed ∨ w = .lone → p.1 ≤ e.fin

section
variable {e : Env} {F : Pre → Bool} {p : Pre} {w : Word}
/-! #### the reckoning's equation -/
theorem both_congr {rec rec' : Word → Pre → Option Row} (h : ∀ w, rec w (ch0 p) = rec' w (ch0 p) ∧ rec w (ch1 p) = rec' w (ch1 p)) (w0 w1 : Word) : both rec w0 w1 p = both rec' w0 w1 p := by
  unfold both; rw [(h w0).1, (h w1).2]
theorem within_congr {rec rec' : Word → Pre → Option Row} (h : ∀ w, rec w (ch0 p) = rec' w (ch0 p) ∧ rec w (ch1 p) = rec' w (ch1 p)) : e.within rec p = e.within rec' p := by
  unfold within
  rw [both_congr h, both_congr h, both_congr h, both_congr h, both_congr h]
theorem wayOf_congr {rec rec' : Word → Pre → Option Row} (h : ∀ w, rec w (ch0 p) = rec' w (ch0 p) ∧ rec w (ch1 p) = rec' w (ch1 p)) : e.wayOf rec w p = e.wayOf rec' w p := by
  unfold wayOf cellWay told
  rw [within_congr h, both_congr h, both_congr h, both_congr h, both_congr h]
theorem hold_end (ok : e.Fit) (hp : p.1 = e.D) (hv : ins p (0, 0)) : e.hold p = false := by
  cases q : e.hold p with
  | false => rfl
  | true =>
    obtain ⟨r, h1, h2, h3⟩ := (ok.hhold p (by omega) hv).mp q
    have := ins_lt h2 h3
    have := (ok.hF0 r h1).1
    omega
theorem within_cell {rec : Word → Pre → Option Row} (h : e.fin ≤ p.1) : e.within rec p = some (0, []) := by
  unfold within
  rw [if_pos]
  rw [decide_eq_true h]; rfl
theorem way_eq (ok : e.Fit) (hp : p.1 ≤ e.D) (hv : ins p (0, 0)) : e.way w p = e.wayOf e.way w p := by
  by_cases h : p.1 < e.D
  · have e1 : e.D - p.1 = (e.D - (p.1 + 1)) + 1 := by omega
    have : e.way w p = e.wayOf (e.wayK (e.D - (p.1 + 1))) w p := by
      unfold way; rw [e1]; rfl
    rw [this]
    exact wayOf_congr fun w => ⟨rfl, rfl⟩
  · have e1 : p.1 = e.D := by omega
    have : e.way w p = e.wayOf (fun _ _ => none) w p := by
      unfold way; rw [e1, Nat.sub_self]; rfl
    rw [this]
    have hf := ok.hfin
    have hc : e.fin ≤ p.1 := by omega
    unfold wayOf
    rw [if_pos hc, if_pos hc]
    unfold cellWay told
    rw [hold_end ok e1 hv, within_cell hc, within_cell hc]
    rfl

/-! #### what is small -/
theorem add_mono {D : Nat} {μ : Pre → Nat} (ha : Add D μ) (hv : ins p (0, 0)) : ∀ r, ins r p → r.1 ≤ D → μ r ≤ μ p :=
  down_ind (Nat.le_refl _) fun r hr hd g => by
    have := ha r hd (ins_trans hr hv)
    omega
theorem full_down (ok : e.Fit) (hv : ins p (0, 0)) (h : e.cnt p = e.sz p) : ∀ r, ins r p → r.1 ≤ e.D → e.cnt r = e.sz r :=
  down_ind h fun r hr hd g => by
    have hrr := ins_trans hr hv
    have a1 := ok.cadd r hd hrr
    have a2 := sz_add e.D r hd hrr
    have l0 := ok.cle (ch0 r) hd (ins_trans (ins_ch0 r) hrr)
    have l1 := ok.cle (ch1 r) hd (ins_trans (ins_ch1 r) hrr)
    have g' : e.cnt r = FC.sz e.D r := g
    have l0' : e.cnt (ch0 r) ≤ FC.sz e.D (ch0 r) := l0
    have l1' : e.cnt (ch1 r) ≤ FC.sz e.D (ch1 r) := l1
    show e.cnt (ch0 r) = FC.sz e.D (ch0 r) ∧ e.cnt (ch1 r) = FC.sz e.D (ch1 r)
    omega
theorem need_down (ok : e.Fit) (hv : ins p (0, 0)) (h : e.need p = false) : ∀ r, ins r p → r.1 ≤ e.D → e.need r = false :=
  down_ind h fun r hr hd g => by
    have := ok.nadd r hd (ins_trans hr hv)
    rw [g] at this
    cases q0 : e.need (ch0 r) <;> cases q1 : e.need (ch1 r) <;> rw [q0, q1] at this <;> first | exact ⟨rfl, rfl⟩ | cases this
theorem cell_good (ok : e.Fit) (F : Pre → Bool) (hp : p.1 ≤ e.D) (hv : ins p (0, 0)) (h : e.fin ≤ p.1) : e.Good F p := by
  intro q hq
  by_cases c : ins p q
  · exact .inr (.inl (R_congr p hp hv fun r hr _ => mu_in (ins_trans hr c)))
  · refine .inl (R_zero hp hv fun r hr _ => mu_out (fun z => c ?_) (fun z => c ?_))
    · exact ins_chain z hr (by rw [hq.1]; exact h)
    · have k := ins_trans z hr
      have : q = p := ins_eq k (by rw [hq.1]; exact h)
      rw [this]; exact ins_refl p
theorem bare_good (ok : e.Fit) (F : Pre → Bool) (hp : p.1 ≤ e.D) (hv : ins p (0, 0)) (h : e.cnt p = 0) : e.Good F p := fun q _ =>
  .inr (.inr (.inl (R_zero hp hv fun r hr hd => by have := add_mono ok.cadd hv r hr hd; omega)))
theorem full_good (ok : e.Fit) (F : Pre → Bool) (hp : p.1 ≤ e.D) (hv : ins p (0, 0)) (h : e.cnt p = e.sz p) : e.Good F p := fun q _ =>
  .inr (.inr (.inr (R_congr p hp hv (full_down ok hv h))))
theorem unneeded (ok : e.Fit) (hv : ins p (0, 0)) (h : e.need p = false) (hf : p.1 ≤ e.fin) {q : Pre} (hq : e.Want q) : ¬ ins q p := fun z => by
  have := need_down ok hv h q z (by rw [hq.1]; exact ok.hfin)
  rw [hq.2.2] at this; cases this
theorem unneeded0 (ok : e.Fit) (hv : ins p (0, 0)) (h : e.need p = false) (hf : p.1 ≤ e.fin) {q : Pre} (hq : e.Want q) : ∀ r, ins r p → mu e.D q r = 0 := fun r hr =>
  mu_out (fun z => unneeded ok hv h hf hq (ins_chain hr z (by rw [hq.1]; exact hf))) (fun z => unneeded ok hv h hf hq (ins_trans z hr))
theorem unneeded_good (ok : e.Fit) (F : Pre → Bool) (hp : p.1 ≤ e.D) (hv : ins p (0, 0)) (h : e.need p = false) : e.Good F p := by
  by_cases c : e.fin ≤ p.1
  · exact cell_good ok F hp hv c
  · exact fun q hq => .inl (R_zero hp hv fun r hr _ => unneeded0 ok hv h (by omega) hq r hr)

/-! #### where nothing is told -/
theorem agree_in {rows : List Pre} (h : e.Agree F p rows) : e.AgreeIn F p rows := fun r hr _ => h r hr
theorem ends_snd (ok : e.Fit) (hp : p.1 ≤ e.D) (hv : ins p (0, 0)) (hw : e.High w p) (h : e.ends w p = true) : e.Snd w p 0 [] := by
  refine ⟨rfl, fun r hr => (nomatch hr), List.nodup_nil, fun F _ => ?_⟩
  cases w with
  | bare =>
    have hc : e.cnt p = 0 := of_decide_eq_true h
    refine ⟨U_zero hp hv fun r hr hd => by have := add_mono ok.cadd hv r hr hd; omega, fun r hr hd _ => ?_⟩
    exact bare_good ok F hd (ins_trans hr hv) (by have := add_mono ok.cadd hv r hr hd; omega)
  | full =>
    have hc : e.cnt p = e.sz p := of_decide_eq_true h
    refine ⟨U_congr hp hv (full_down ok hv hc), fun r hr hd _ => ?_⟩
    exact full_good ok F hd (ins_trans hr hv) (full_down ok hv hc r hr hd)
  | lone =>
    have hc : p.1 = e.fin := of_decide_eq_true h
    refine ⟨⟨p, hc, U_congr hp hv fun r hr _ => mu_in hr⟩, fun r hr hd _ => ?_⟩
    exact cell_good ok F hd (ins_trans hr hv) (by have := hr.1; omega)
  | all => cases h
  | needed =>
    have hc : e.need p = false := by
      have h' : (!e.need p) = true := h
      cases q : e.need p with
      | false => rfl
      | true => rw [q] at h'; cases h'
    refine ⟨fun q hq => U_zero hp hv fun r hr _ => unneeded0 ok hv hc (hw (.inl rfl)) hq r hr, fun r hr hd _ => ?_⟩
    exact unneeded_good ok F hd (ins_trans hr hv) (need_down ok hv hc r hr hd)
theorem none_snd (ok : e.Fit) (hp : p.1 ≤ e.D) (hv : ins p (0, 0)) (h : e.fin ≤ p.1 ∨ (e.cnt p = 0 ∨ e.cnt p = e.sz p) ∨ e.need p = false) : e.SndIn p 0 [] := by
  refine ⟨rfl, fun r hr => (nomatch hr), List.nodup_nil, fun F _ => ?_⟩
  rcases h with h | (h | h) | h
  · exact ⟨cell_good ok F hp hv h, fun r hr _ hd _ => cell_good ok F hd (ins_trans hr hv) (by have := hr.1; omega)⟩
  · exact ⟨bare_good ok F hp hv h, fun r hr _ hd _ => bare_good ok F hd (ins_trans hr hv) (by have := add_mono ok.cadd hv r hr hd; omega)⟩
  · exact ⟨full_good ok F hp hv h, fun r hr _ hd _ => full_good ok F hd (ins_trans hr hv) (full_down ok hv h r hr hd)⟩
  · exact ⟨unneeded_good ok F hp hv h, fun r hr _ hd _ => unneeded_good ok F hd (ins_trans hr hv) (need_down ok hv h r hr hd)⟩

/-! #### two halves -/
def Ih (e : Env) (c : Pre) : Prop := ∀ (w : Word) (m : Nat) (rows : List Pre), e.High w c → e.way w c = some (m, rows) → e.Snd w c m rows
theorem both_some {rec : Word → Pre → Option Row} {w0 w1 : Word} {m : Nat} {rows : List Pre} (h : both rec w0 w1 p = some (m, rows)) :
    ∃ m0 r0 m1 r1, rec w0 (ch0 p) = some (m0, r0) ∧ rec w1 (ch1 p) = some (m1, r1) ∧ m = m0 + m1 ∧ rows = r0 ++ r1 := by
  unfold both at h
  cases q0 : rec w0 (ch0 p) with
  | none => rw [q0] at h; cases h
  | some a =>
    cases q1 : rec w1 (ch1 p) with
    | none => rw [q0, q1] at h; cases h
    | some b =>
      rw [q0, q1] at h
      have h' : (a.1 + b.1, a.2 ++ b.2) = (m, rows) := Option.some.inj h
      injection h' with h1 h2
      exact ⟨a.1, a.2, b.1, b.2, rfl, rfl, h1.symm, h2.symm⟩
structure Two (e : Env) (w0 w1 : Word) (p : Pre) (m : Nat) (rows : List Pre) : Prop where
  len : rows.length = m
  rows_in : ∀ r ∈ rows, ins r p ∧ r ≠ p ∧ r.1 ≤ e.fin ∧ e.F0 r = false
  nd : rows.Nodup
  ok : ∀ F, e.AgreeIn F p rows → e.OkW F w0 (ch0 p) ∧ e.OkW F w1 (ch1 p) ∧ e.AllGoodIn F p
theorem both_snd {w0 w1 : Word} {m : Nat} {rows : List Pre} (i0 : e.Ih (ch0 p)) (i1 : e.Ih (ch1 p)) (h0 : e.High w0 (ch0 p)) (h1 : e.High w1 (ch1 p)) (h : both e.way w0 w1 p = some (m, rows)) : e.Two w0 w1 p m rows := by
  obtain ⟨m0, r0, m1, r1, g0, g1, rfl, rfl⟩ := both_some h
  have s0 := i0 w0 m0 r0 h0 g0
  have s1 := i1 w1 m1 r1 h1 g1
  refine ⟨by rw [List.length_append, s0.len, s1.len], fun r hr => ?_, ?_, fun F ag => ?_⟩
  · rcases List.mem_append.mp hr with z | z
    · obtain ⟨a, b⟩ := s0.rows_in r z
      exact ⟨ins_c0 a, ne_c0 a, b⟩
    · obtain ⟨a, b⟩ := s1.rows_in r z
      exact ⟨ins_c1 a, ne_c1 a, b⟩
  · refine List.nodup_append.mpr ⟨s0.nd, s1.nd, fun a ha b hb z => ?_⟩
    subst z
    exact ins_both (s0.rows_in _ ha).1 (s1.rows_in _ hb).1
  · have a0 : e.Agree F (ch0 p) r0 := fun r hr => by
      have := ag r (ins_c0 hr) (ne_c0 hr)
      rw [this, List.mem_append]
      constructor
      · rintro (z | z | z)
        · exact .inl z
        · exact .inr z
        · exact (ins_both hr (s1.rows_in r z).1).elim
      · rintro (z | z)
        · exact .inl z
        · exact .inr (.inl z)
    have a1 : e.Agree F (ch1 p) r1 := fun r hr => by
      have := ag r (ins_c1 hr) (ne_c1 hr)
      rw [this, List.mem_append]
      constructor
      · rintro (z | z | z)
        · exact .inl z
        · exact (ins_both (s0.rows_in r z).1 hr).elim
        · exact .inr z
      · rintro (z | z)
        · exact .inl z
        · exact .inr (.inr z)
    obtain ⟨o0, al0⟩ := s0.ok F a0
    obtain ⟨o1, al1⟩ := s1.ok F a1
    refine ⟨o0, o1, fun r hr hn hd hF => ?_⟩
    rcases ins_split hr hn with c | c
    · exact al0 r c hd hF
    · exact al1 r c hd hF
/-- what both halves leave, of the whole -/
theorem two_R (h : p.1 < e.D) {μ : Pre → Nat} : R e.D F μ p = U e.D F μ (ch0 p) + U e.D F μ (ch1 p) := R_lt h
/-- the same word on both sides (or lone and all) is the word of what is left, and the rest is good -/
theorem two_good (ok : e.Fit) (h : p.1 < e.D) (hv : ins p (0, 0)) {w0 w1 : Word} (hw : (w0, w1) ∈ [(Word.bare, Word.bare), (.full, .full), (.lone, .all), (.all, .lone), (.needed, .needed), (.all, .all)])
    (o0 : e.OkW F w0 (ch0 p)) (o1 : e.OkW F w1 (ch1 p)) : e.Good F p := by
  have r1 := R_lt (F := F) (μ := e.cnt) h
  have r2 := R_lt (F := F) (μ := e.sz) h
  have lone_of : ∀ q : Pre, q.1 = e.fin → R e.D F (mu e.D q) p = R e.D F e.sz p → e.Good F p := fun q hq z q' hq' => by
    by_cases c : q' = q
    · rw [c]; exact .inr (.inl z)
    · refine .inl ?_
      -- q' and q do not meet: what is within q is not within q'
      have key : R e.D F (mu e.D q') p + R e.D F (mu e.D q) p ≤ R e.D F e.sz p := by
        have sum : ∀ r, r.1 ≤ e.D → ins r (0, 0) → mu e.D q' r + mu e.D q r ≤ e.sz r := by
          intro r hr hvr
          by_cases c1 : ins r q'
          · have : ¬ ins r q := fun z => c (by
              have k := ins_chain c1 z (by rw [hq'.1, hq]; exact Nat.le_refl _)
              exact (ins_eq k (by rw [hq'.1, hq]; exact Nat.le_refl _)).symm)
            have n2 : ¬ ins q r := fun z => c (by
              have k := ins_trans z c1
              exact (ins_eq k (by rw [hq'.1, hq]; exact Nat.le_refl _)).symm)
            rw [mu_in c1, mu_out this n2]; exact Nat.le_refl _
          · by_cases c2 : ins q' r
            · by_cases c3 : ins r q
              · exact (c1 (by rw [ins_eq (ins_trans c2 c3) (by rw [hq'.1, hq]; exact Nat.le_refl _)]; exact c3)).elim
              · by_cases c4 : ins q r
                · rw [mu_up c2, mu_up c4]
                  -- both strictly inside r
                  have n1 : q' ≠ r := by rintro rfl; exact c1 (ins_refl _)
                  have l1 : r.1 < q'.1 := ins_lt c2 n1
                  show 2 ^ (e.D - q'.1) + 2 ^ (e.D - q.1) ≤ 2 ^ (e.D - r.1)
                  rw [hq'.1, hq]
                  have : e.D - r.1 = (e.D - r.1 - 1) + 1 := by have := hq'.1; have := ok.hfin; omega
                  rw [this, Nat.pow_succ]
                  have : 2 ^ (e.D - e.fin) ≤ 2 ^ (e.D - r.1 - 1) := Nat.pow_le_pow_right (by omega) (by have := hq'.1; omega)
                  omega
                · rw [mu_out c3 c4]
                  exact mu_le (by rw [hq'.1]; exact ok.hfin)
            · rw [mu_out c1 c2, Nat.zero_add]
              exact mu_le (by rw [hq]; exact ok.hfin)
        have add : R e.D F (fun r => mu e.D q' r + mu e.D q r) p = R e.D F (mu e.D q') p + R e.D F (mu e.D q) p := by
          have : ∀ p, p.1 ≤ e.D → ins p (0, 0) → R e.D F (fun r => mu e.D q' r + mu e.D q r) p = R e.D F (mu e.D q') p + R e.D F (mu e.D q) p := tree_ind e.D fun p hp _ ih => by
            by_cases h : p.1 < e.D
            · obtain ⟨j0, j1⟩ := ih h
              rw [R_lt h, R_lt h, R_lt h, U_eq, U_eq, U_eq, U_eq, U_eq, U_eq, j0, j1]
              split <;> split <;> omega
            · rw [R_end (by omega), R_end (by omega), R_end (by omega)]
          exact this p (by omega) hv
        rw [← add]
        exact R_mono p (by omega) hv fun r hr hd => sum r hd (ins_trans hr hv)
      omega
  simp only [List.mem_cons, Prod.mk.injEq, List.not_mem_nil, or_false] at hw
  rcases hw with ⟨rfl, rfl⟩ | ⟨rfl, rfl⟩ | ⟨rfl, rfl⟩ | ⟨rfl, rfl⟩ | ⟨rfl, rfl⟩ | ⟨rfl, rfl⟩
  · have o0 : U e.D F e.cnt (ch0 p) = 0 := o0
    have o1 : U e.D F e.cnt (ch1 p) = 0 := o1
    exact fun q _ => .inr (.inr (.inl (by omega)))
  · have o0 : U e.D F e.cnt (ch0 p) = U e.D F e.sz (ch0 p) := o0
    have o1 : U e.D F e.cnt (ch1 p) = U e.D F e.sz (ch1 p) := o1
    exact fun q _ => .inr (.inr (.inr (by omega)))
  · obtain ⟨q, hq, o0⟩ := o0
    have o1 : U e.D F e.sz (ch1 p) = 0 := o1
    refine lone_of q hq ?_
    have r3 := R_lt (F := F) (μ := mu e.D q) h
    have u1 : U e.D F (mu e.D q) (ch1 p) ≤ U e.D F e.sz (ch1 p) := U_mono h (ins_trans (ins_ch1 p) hv) fun r _ _ => mu_le (by rw [hq]; exact ok.hfin)
    omega
  · obtain ⟨q, hq, o1⟩ := o1
    have o0 : U e.D F e.sz (ch0 p) = 0 := o0
    refine lone_of q hq ?_
    have r3 := R_lt (F := F) (μ := mu e.D q) h
    have u0 : U e.D F (mu e.D q) (ch0 p) ≤ U e.D F e.sz (ch0 p) := U_mono h (ins_trans (ins_ch0 p) hv) fun r _ _ => mu_le (by rw [hq]; exact ok.hfin)
    omega
  · refine fun q hq => .inl ?_
    have r3 := R_lt (F := F) (μ := mu e.D q) h
    have u0 : U e.D F (mu e.D q) (ch0 p) = 0 := o0 q hq
    have u1 : U e.D F (mu e.D q) (ch1 p) = 0 := o1 q hq
    omega
  · have o0 : U e.D F e.sz (ch0 p) = 0 := o0
    have o1 : U e.D F e.sz (ch1 p) = 0 := o1
    have l0 : U e.D F e.cnt (ch0 p) ≤ U e.D F e.sz (ch0 p) := U_mono h (ins_trans (ins_ch0 p) hv) fun r hr hd => ok.cle r hd (ins_trans (ins_c0 hr) hv)
    have l1 : U e.D F e.cnt (ch1 p) ≤ U e.D F e.sz (ch1 p) := U_mono h (ins_trans (ins_ch1 p) hv) fun r hr hd => ok.cle r hd (ins_trans (ins_c1 hr) hv)
    exact fun q _ => .inr (.inr (.inl (by omega)))
end
end Env
end FC
namespace FC
namespace Env
section
variable {e : Env} {F : Pre → Bool} {p : Pre} {w : Word}
theorem high_c0 (h : p.1 < e.fin) (w : Word) : e.High w (ch0 p) := fun _ => h
theorem high_c1 (h : p.1 < e.fin) (w : Word) : e.High w (ch1 p) := fun _ => h
theorem within_snd (ok : e.Fit) (hp : p.1 ≤ e.D) (hv : ins p (0, 0)) (ih : p.1 < e.D → e.Ih (ch0 p) ∧ e.Ih (ch1 p)) {m : Nat} {rows : List Pre} (h : e.within e.way p = some (m, rows)) : e.SndIn p m rows := by
  unfold within at h
  by_cases c : (decide (e.fin ≤ p.1) || (decide (e.cnt p = 0) || decide (e.cnt p = e.sz p)) || !e.need p) = true
  · rw [if_pos c] at h
    injection h with h
    injection h with h1 h2
    subst h1 h2
    refine none_snd ok hp hv ?_
    rw [Bool.or_eq_true, Bool.or_eq_true, Bool.or_eq_true] at c
    rcases c with (c | c | c) | c
    · exact .inl (of_decide_eq_true c)
    · exact .inr (.inl (.inl (of_decide_eq_true c)))
    · exact .inr (.inl (.inr (of_decide_eq_true c)))
    · refine .inr (.inr ?_)
      cases q : e.need p with
      | false => rfl
      | true => rw [q] at c; cases c
  · rw [if_neg c] at h
    have hf : p.1 < e.fin := by
      rcases Nat.lt_or_ge p.1 e.fin with z | z
      · exact z
      · exact absurd (by rw [decide_eq_true z]; rfl) c
    have hd : p.1 < e.D := Nat.lt_of_lt_of_le hf ok.hfin
    obtain ⟨i0, i1⟩ := ih hd
    have mem := least_mem h
    have key : ∀ {w0 w1 : Word}, (w0, w1) ∈ [(Word.bare, Word.bare), (.full, .full), (.lone, .all), (.all, .lone), (.needed, .needed), (.all, .all)] → both e.way w0 w1 p = some (m, rows) → e.SndIn p m rows := by
      intro w0 w1 hw g
      have t := both_snd i0 i1 (high_c0 hf w0) (high_c1 hf w1) g
      exact ⟨t.len, t.rows_in, t.nd, fun F ag => by
        obtain ⟨o0, o1, al⟩ := t.ok F ag
        exact ⟨two_good ok hd hv hw o0 o1, al⟩⟩
    simp only [List.mem_cons, List.not_mem_nil, or_false] at mem
    rcases mem with g | g | g | g | g
    · exact key (by decide) g.symm
    · exact key (by decide) g.symm
    · exact key (by decide) g.symm
    · exact key (by decide) g.symm
    · exact key (by decide) g.symm
theorem ok_told (F : Pre → Bool) (h : F p = true) (w : Word) : e.OkW F w p := by
  cases w with
  | bare => exact U_F h
  | full => show U e.D F e.cnt p = U e.D F e.sz p; rw [U_F h, U_F h]
  | lone => exact ⟨(e.fin, 0), rfl, by rw [U_F h, U_F h]⟩
  | all => exact U_F h
  | needed => exact fun q _ => U_F h
theorem told_snd (ok : e.Fit) (hp : p.1 ≤ e.D) (hv : ins p (0, 0)) (ih : p.1 < e.D → e.Ih (ch0 p) ∧ e.Ih (ch1 p)) (hl : p.1 ≤ e.fin ∨ e.F0 p = true) {m : Nat} {rows : List Pre} (h : e.told e.way p = some (m, rows)) (w : Word) : e.Snd w p m rows := by
  unfold told at h
  obtain ⟨⟨m', r'⟩, g, h⟩ := Option.map_eq_some_iff.mp h
  have s := within_snd ok hp hv ih g
  by_cases c : e.F0 p = true
  · rw [if_pos c] at h
    injection h with h1 h2
    subst h1 h2
    refine ⟨s.len, fun r hr => ⟨(s.rows_in r hr).1, (s.rows_in r hr).2.2⟩, s.nd, fun F ag => ?_⟩
    have hF : F p = true := (ag p (ins_refl p)).mpr (.inl c)
    obtain ⟨g1, g2⟩ := s.ok F (agree_in ag)
    refine ⟨ok_told F hF w, fun r hr hd hFr => ?_⟩
    by_cases z : r = p
    · rw [z]; exact g1
    · exact g2 r hr z hd hFr
  · rw [if_neg c] at h
    injection h with h1 h2
    subst h1 h2
    have hl : p.1 ≤ e.fin := hl.resolve_right c
    refine ⟨by rw [List.length_cons, s.len], fun r hr => ?_, List.nodup_cons.mpr ⟨fun z => (s.rows_in p z).2.1 rfl, s.nd⟩, fun F ag => ?_⟩
    · rcases List.mem_cons.mp hr with z | z
      · rw [z]; exact ⟨ins_refl p, hl, Bool.eq_false_iff.mpr c⟩
      · exact ⟨(s.rows_in r z).1, (s.rows_in r z).2.2⟩
    · have hF : F p = true := (ag p (ins_refl p)).mpr (.inr List.mem_cons_self)
      have ag' : e.AgreeIn F p r' := fun r hr hn => by
        rw [ag r hr, List.mem_cons]
        constructor
        · rintro (z | z | z)
          · exact .inl z
          · exact (hn z).elim
          · exact .inr z
        · rintro (z | z)
          · exact .inl z
          · exact .inr (.inr z)
      obtain ⟨g1, g2⟩ := s.ok F ag'
      refine ⟨ok_told F hF w, fun r hr hd hFr => ?_⟩
      by_cases z : r = p
      · rw [z]; exact g1
      · exact g2 r hr z hd hFr
/-- the same word of both halves -/
theorem two_ok (h : p.1 < e.D) (F : Pre → Bool) (hw : w ≠ .lone) (o0 : e.OkW F w (ch0 p)) (o1 : e.OkW F w (ch1 p)) : e.OkW F w p := by
  by_cases hF : F p = true
  · exact ok_told F hF w
  · have hF : F p = false := Bool.eq_false_iff.mpr hF
    have u : ∀ μ : Pre → Nat, U e.D F μ p = U e.D F μ (ch0 p) + U e.D F μ (ch1 p) := fun μ => by rw [U_nF hF, R_lt h]
    cases w with
    | bare =>
      have o0 : U e.D F e.cnt (ch0 p) = 0 := o0
      have o1 : U e.D F e.cnt (ch1 p) = 0 := o1
      show U e.D F e.cnt p = 0
      rw [u, o0, o1]
    | full =>
      have o0 : U e.D F e.cnt (ch0 p) = U e.D F e.sz (ch0 p) := o0
      have o1 : U e.D F e.cnt (ch1 p) = U e.D F e.sz (ch1 p) := o1
      show U e.D F e.cnt p = U e.D F e.sz p
      rw [u, u, o0, o1]
    | lone => exact (hw rfl).elim
    | all =>
      have o0 : U e.D F e.sz (ch0 p) = 0 := o0
      have o1 : U e.D F e.sz (ch1 p) = 0 := o1
      show U e.D F e.sz p = 0
      rw [u, o0, o1]
    | needed =>
      intro q hq
      have o0 : U e.D F (mu e.D q) (ch0 p) = 0 := o0 q hq
      have o1 : U e.D F (mu e.D q) (ch1 p) = 0 := o1 q hq
      rw [u, o0, o1]
theorem two_lone (ok : e.Fit) (h : p.1 < e.D) (hv : ins p (0, 0)) (F : Pre → Bool) (o : (e.OkW F .lone (ch0 p) ∧ e.OkW F .all (ch1 p)) ∨ (e.OkW F .all (ch0 p) ∧ e.OkW F .lone (ch1 p))) : e.OkW F .lone p := by
  by_cases hF : F p = true
  · exact ok_told F hF .lone
  · have hF : F p = false := Bool.eq_false_iff.mpr hF
    have u : ∀ μ : Pre → Nat, U e.D F μ p = U e.D F μ (ch0 p) + U e.D F μ (ch1 p) := fun μ => by rw [U_nF hF, R_lt h]
    rcases o with ⟨⟨q, hq, o0⟩, o1⟩ | ⟨o0, ⟨q, hq, o1⟩⟩
    · have o1 : U e.D F e.sz (ch1 p) = 0 := o1
      have u1 : U e.D F (mu e.D q) (ch1 p) ≤ U e.D F e.sz (ch1 p) := U_mono h (ins_trans (ins_ch1 p) hv) fun r _ _ => mu_le (by rw [hq]; exact ok.hfin)
      refine ⟨q, hq, ?_⟩
      rw [u, u]; omega
    · have o0 : U e.D F e.sz (ch0 p) = 0 := o0
      have u0 : U e.D F (mu e.D q) (ch0 p) ≤ U e.D F e.sz (ch0 p) := U_mono h (ins_trans (ins_ch0 p) hv) fun r _ _ => mu_le (by rw [hq]; exact ok.hfin)
      refine ⟨q, hq, ?_⟩
      rw [u, u]; omega
/-- a way by both halves -/
theorem both_way (ok : e.Fit) (hd : p.1 < e.D) (hv : ins p (0, 0)) {w0 w1 : Word} {m : Nat} {rows : List Pre} (hw : (w0, w1) ∈ [(Word.bare, Word.bare), (.full, .full), (.lone, .all), (.all, .lone), (.needed, .needed), (.all, .all)])
    (t : e.Two w0 w1 p m rows) (wd : ∀ F, e.OkW F w0 (ch0 p) → e.OkW F w1 (ch1 p) → e.OkW F w p) : e.Snd w p m rows := by
  refine ⟨t.len, fun r hr => ⟨(t.rows_in r hr).1, (t.rows_in r hr).2.2⟩, t.nd, fun F ag => ?_⟩
  obtain ⟨o0, o1, al⟩ := t.ok F (agree_in ag)
  refine ⟨wd F o0 o1, fun r hr hd' hFr => ?_⟩
  by_cases z : r = p
  · rw [z]; exact two_good ok hd hv hw o0 o1
  · exact al r hr z hd' hFr
theorem cell_all (ok : e.Fit) (hf : p.1 = e.fin) {m : Nat} {rows : List Pre} (s : e.Snd .all p m rows) : e.Snd .needed p m rows := ⟨s.len, s.rows_in, s.nd, fun F ag => by
  obtain ⟨o, al⟩ := s.ok F ag
  refine ⟨fun q hq => ?_, al⟩
  have o : U e.D F e.sz p = 0 := o
  by_cases c : F p = true
  · exact U_F c
  · have hv : p.1 ≤ e.D := by rw [hf]; exact ok.hfin
    have : ∀ p : Pre, U e.D F (mu e.D q) p ≤ U e.D F e.sz p := by
      have key : ∀ n p, e.D - p.1 = n → uK F (mu e.D q) n p ≤ uK F e.sz n p := by
        intro n
        induction n with
        | zero =>
          intro p _
          show (if F p then 0 else mu e.D q p) ≤ if F p then 0 else e.sz p
          split
          · exact Nat.le_refl _
          · exact mu_le (by rw [hq.1]; exact ok.hfin)
        | succ n ih =>
          intro p hp
          show (if F p then 0 else uK F (mu e.D q) n (ch0 p) + uK F (mu e.D q) n (ch1 p)) ≤ if F p then 0 else uK F e.sz n (ch0 p) + uK F e.sz n (ch1 p)
          have a0 := ih (ch0 p) (by show e.D - (p.1 + 1) = n; omega)
          have a1 := ih (ch1 p) (by show e.D - (p.1 + 1) = n; omega)
          split <;> omega
      exact fun p => key _ p rfl
    have := this p
    omega⟩
theorem cellWay_snd (ok : e.Fit) (hp : p.1 ≤ e.D) (hv : ins p (0, 0)) (ih : p.1 < e.D → e.Ih (ch0 p) ∧ e.Ih (ch1 p)) (hw : w ≠ .lone ∧ w ≠ .needed) {m : Nat} {rows : List Pre} (h : e.cellWay e.way w p = some (m, rows)) : e.Snd w p m rows := by
  have mem := least_mem h
  rcases List.mem_append.mp mem with g | g
  · by_cases c : (e.F0 p || decide (p.1 = e.fin)) = true
    · rw [if_pos c] at g
      have g : some (m, rows) = e.told e.way p := by simpa using g
      refine told_snd ok hp hv ih ?_ g.symm w
      rcases Bool.or_eq_true _ _ ▸ c with z | z
      · exact .inr z
      · exact .inl (Nat.le_of_eq (of_decide_eq_true z))
    · rw [if_neg c] at g; cases g
  · by_cases c : e.hold p = true
    · rw [if_pos c] at g
      have g : some (m, rows) = both e.way w w p := by simpa using g
      have hd : p.1 < e.D := by
        rcases Nat.lt_or_ge p.1 e.D with z | z
        · exact z
        · rw [hold_end ok (by omega) hv] at c; cases c
      obtain ⟨i0, i1⟩ := ih hd
      have hh : ∀ c : Pre, e.High w c := fun c z => (z.elim hw.2 hw.1).elim
      have hm : (w, w) ∈ [(Word.bare, Word.bare), (.full, .full), (.lone, .all), (.all, .lone), (.needed, .needed), (.all, .all)] := by
        cases w <;> first | decide | exact (hw.1 rfl).elim | exact (hw.2 rfl).elim
      exact both_way ok hd hv hm (both_snd i0 i1 (hh _) (hh _) g.symm) fun F o0 o1 => two_ok hd F hw.1 o0 o1
    · rw [if_neg c] at g; cases g
/-- EVERY WAY IS SOUND -/
theorem way_snd (ok : e.Fit) : ∀ p, p.1 ≤ e.D → ins p (0, 0) → e.Ih p := tree_ind e.D fun p hp hv ih w m rows hw h => by
  rw [way_eq ok hp hv] at h
  unfold wayOf at h
  by_cases c1 : e.ends w p = true
  · rw [if_pos c1] at h
    injection h with h
    injection h with h1 h2
    subst h1 h2
    exact ends_snd ok hp hv hw c1
  · rw [if_neg c1] at h
    by_cases c2 : e.fin ≤ p.1
    · rw [if_pos c2] at h
      have hl : w ≠ .lone := by
        rintro rfl
        refine c1 (decide_eq_true ?_)
        have := hw (.inr rfl)
        omega
      by_cases c3 : w = .needed
      · subst c3
        have hf : p.1 = e.fin := by have := hw (.inl rfl); omega
        exact cell_all ok hf (cellWay_snd (w := .all) ok hp hv ih ⟨fun z => (nomatch z), fun z => (nomatch z)⟩ h)
      · have : cellWord w = w := if_neg c3
        rw [this] at h
        exact cellWay_snd ok hp hv ih ⟨hl, c3⟩ h
    · rw [if_neg c2] at h
      have hf : p.1 < e.fin := by omega
      have hd : p.1 < e.D := Nat.lt_of_lt_of_le hf ok.hfin
      obtain ⟨i0, i1⟩ := ih hd
      have mem : w = .lone ∧ some (m, rows) ∈ [both e.way .lone .all p, both e.way .all .lone p] ∨ w ≠ .lone ∧ some (m, rows) ∈ [e.told e.way p, both e.way w w p] := by
        by_cases c3 : w = .lone
        · rw [if_pos c3] at h; exact .inl ⟨c3, least_mem h⟩
        · rw [if_neg c3] at h; exact .inr ⟨c3, least_mem h⟩
      rcases mem with ⟨rfl, mem⟩ | ⟨hl, mem⟩
      · simp only [List.mem_cons, List.not_mem_nil, or_false] at mem
        rcases mem with g | g
        · exact both_way ok hd hv (by decide) (both_snd i0 i1 (high_c0 hf _) (high_c1 hf _) g.symm) fun F o0 o1 => two_lone ok hd hv F (.inl ⟨o0, o1⟩)
        · exact both_way ok hd hv (by decide) (both_snd i0 i1 (high_c0 hf _) (high_c1 hf _) g.symm) fun F o0 o1 => two_lone ok hd hv F (.inr ⟨o0, o1⟩)
      · simp only [List.mem_cons, List.not_mem_nil, or_false] at mem
        rcases mem with g | g
        · exact told_snd ok hp hv ih (.inl (Nat.le_of_lt hf)) g.symm w
        · have hm : (w, w) ∈ [(Word.bare, Word.bare), (.full, .full), (.lone, .all), (.all, .lone), (.needed, .needed), (.all, .all)] := by
            cases w <;> first | decide | exact (hl rfl).elim
          exact both_way ok hd hv hm (both_snd i0 i1 (high_c0 hf _) (high_c1 hf _) g.symm) fun F o0 o1 => two_ok hd F hl o0 o1
/-- SOUND: with the facts that are told all that is wanted is known -/
theorem dp_sound (ok : e.Fit) {m : Nat} {rows : List Pre} (h : e.dp = some (m, rows)) : rows.length = m ∧ rows.Nodup ∧ (∀ r ∈ rows, ins r (0, 0) ∧ r.1 ≤ e.fin ∧ e.F0 r = false) ∧
    ∀ F, (∀ r, ins r (0, 0) → (F r = true ↔ e.F0 r = true ∨ r ∈ rows)) → e.Enough F := by
  have mem := least_mem h
  have hv : ins (0, 0) (0, 0) := ins_refl _
  have ih : (0, 0).1 < e.D → e.Ih (ch0 (0, 0)) ∧ e.Ih (ch1 (0, 0)) := fun z => ⟨way_snd ok _ z (ins_ch0 _), way_snd ok _ z (ins_ch1 _)⟩
  simp only [List.mem_cons, List.not_mem_nil, or_false] at mem
  rcases mem with g | g
  · have s := way_snd ok (0, 0) (Nat.zero_le _) hv .needed m rows (fun _ => Nat.zero_le _) g.symm
    refine ⟨s.len, s.nd, s.rows_in, fun F ag => ?_⟩
    obtain ⟨o, al⟩ := s.ok F ag
    exact ⟨al, fun hF q hq => by rw [← U_nF hF]; exact o q hq⟩
  · have s := told_snd ok (Nat.zero_le _) hv ih (.inl (Nat.zero_le _)) g.symm .all
    refine ⟨s.len, s.nd, s.rows_in, fun F ag => ?_⟩
    obtain ⟨o, al⟩ := s.ok F ag
    refine ⟨al, fun hF q hq => ?_⟩
    have o : U e.D F e.sz (0, 0) = 0 := o
    rw [U_nF hF] at o
    have := R_mono (D := e.D) (F := F) (μ := mu e.D q) (ν := e.sz) (0, 0) (Nat.zero_le _) hv fun r _ _ => mu_le (by rw [hq.1]; exact ok.hfin)
    omega
end
end Env
end FC
namespace FC
namespace Env
/-- how many new facts are within p -/
def nK (e : Env) (F : Pre → Bool) : Nat → Pre → Nat
  | 0, p => if (F p && !e.F0 p) = true then 1 else 0
  | k + 1, p => (if (F p && !e.F0 p) = true then 1 else 0) + (nK e F k (ch0 p) + nK e F k (ch1 p))
def nw (e : Env) (F : Pre → Bool) (p : Pre) : Nat := nK e F (e.D - p.1) p
def nIn (e : Env) (F : Pre → Bool) (p : Pre) : Nat := if p.1 < e.D then e.nw F (ch0 p) + e.nw F (ch1 p) else 0
def OkL (e : Env) (F : Pre → Bool) (w : Word) (p : Pre) : Prop := match w with
  | .lone => U e.D F e.sz p ≠ 0 ∧ ∃ q : Pre, q.1 = e.fin ∧ U e.D F (mu e.D q) p = U e.D F e.sz p
  | w => e.OkW F w p
/-- more facts, none of the new ones longer than the fineness -/
structure More (e : Env) (F : Pre → Bool) : Prop where
  old : ∀ r, e.F0 r = true → F r = true
  new : ∀ r, F r = true → e.F0 r = false → r.1 ≤ e.fin
section
variable {e : Env} {F : Pre → Bool} {p : Pre} {w : Word}
theorem nw_eq (hp : p.1 ≤ e.D) : e.nw F p = (if (F p && !e.F0 p) = true then 1 else 0) + e.nIn F p := by
  unfold nIn nw
  by_cases h : p.1 < e.D
  · rw [if_pos h, show e.D - p.1 = (e.D - (ch0 p).1) + 1 by show e.D - p.1 = e.D - (p.1 + 1) + 1; omega]
    rfl
  · rw [if_neg h, show e.D - p.1 = 0 by omega]
    rfl
theorem nIn_lt (h : p.1 < e.D) : e.nIn F p = e.nw F (ch0 p) + e.nw F (ch1 p) := if_pos h
def IhL (e : Env) (F : Pre → Bool) (c : Pre) : Prop := ∀ w, e.High w c → e.OkL F w c → e.AllGood F c → ∃ v, e.way w c = some v ∧ v.1 ≤ e.nw F c
theorem both_le {w0 w1 : Word} (h : p.1 < e.D) (h0 : ∃ v, e.way w0 (ch0 p) = some v ∧ v.1 ≤ e.nw F (ch0 p)) (h1 : ∃ v, e.way w1 (ch1 p) = some v ∧ v.1 ≤ e.nw F (ch1 p)) :
    ∃ v, both e.way w0 w1 p = some v ∧ v.1 ≤ e.nIn F p := by
  obtain ⟨v0, e0, l0⟩ := h0
  obtain ⟨v1, e1, l1⟩ := h1
  refine ⟨(v0.1 + v1.1, v0.2 ++ v1.2), ?_, ?_⟩
  · unfold both; rw [e0, e1]
  · rw [nIn_lt h]
    show v0.1 + v1.1 ≤ _
    omega
theorem least_of {rows : List (Option Row)} {n : Nat} {o : Option Row} (hm : o ∈ rows) (h : ∃ v, o = some v ∧ v.1 ≤ n) : ∃ v, least rows = some v ∧ v.1 ≤ n := by
  obtain ⟨u, hu, hl⟩ := h
  subst hu
  obtain ⟨v, hv, hl'⟩ := least_le hm
  exact ⟨v, hv, Nat.le_trans hl' hl⟩
theorem good_c0 (h : e.AllGoodIn F p) : e.AllGood F (ch0 p) := fun r hr hd hF => h r (ins_c0 hr) (ne_c0 hr) hd hF
theorem good_c1 (h : e.AllGoodIn F p) : e.AllGood F (ch1 p) := fun r hr hd hF => h r (ins_c1 hr) (ne_c1 hr) hd hF
theorem good_in (h : e.AllGood F p) : e.AllGoodIn F p := fun r hr _ hd hF => h r hr hd hF
/-- a cell within p, what is left of p within it: the one half, nothing of the other -/
theorem one_half (ok : e.Fit) (hd : p.1 < e.D) (hv : ins p (0, 0)) (hf : p.1 < e.fin) {q : Pre} (hq : q.1 = e.fin) (hz : R e.D F e.sz p ≠ 0) (h : R e.D F (mu e.D q) p = R e.D F e.sz p) :
    (e.OkL F .lone (ch0 p) ∧ e.OkL F .all (ch1 p)) ∨ (e.OkL F .all (ch0 p) ∧ e.OkL F .lone (ch1 p)) := by
  have a1 := R_lt (F := F) (μ := mu e.D q) hd
  have a2 := R_lt (F := F) (μ := e.sz) hd
  have hqD : q.1 ≤ e.D := by rw [hq]; exact ok.hfin
  have v0 := ins_trans (ins_ch0 p) hv
  have v1 := ins_trans (ins_ch1 p) hv
  have m0 : U e.D F (mu e.D q) (ch0 p) ≤ U e.D F e.sz (ch0 p) := U_mono hd v0 fun r _ _ => mu_le hqD
  have m1 : U e.D F (mu e.D q) (ch1 p) ≤ U e.D F e.sz (ch1 p) := U_mono hd v1 fun r _ _ => mu_le hqD
  -- q within p
  by_cases c : ins q p
  · have n : q ≠ p := by rintro rfl; omega
    have z1 : ∀ {c : Pre}, ins q c → ∀ {d : Pre}, d.1 = c.1 → d ≠ c → d.1 ≤ e.D → ins d (0, 0) → U e.D F (mu e.D q) d = 0 := fun {c} hc {d} hdc hne hdD hdv => U_zero hdD hdv fun r hr _ => mu_out
      (fun z => hne (ins_eq (ins_chain (ins_trans z hc) hr (Nat.le_of_eq hdc.symm)) (Nat.le_of_eq hdc)))
      (fun z => hne (by
        have k := ins_trans z hr
        have k1 : ins d c := ins_chain hc k (Nat.le_of_eq hdc.symm)
        exact ins_eq k1 (Nat.le_of_eq hdc)))
    have ne01 : ch1 p ≠ ch0 p := by
      intro z
      have : 2 * p.2 + 1 = 2 * p.2 := congrArg Prod.snd z
      omega
    rcases ins_split c n with c0 | c1
    · have y := z1 c0 (d := ch1 p) rfl ne01 hd v1
      refine .inl ⟨⟨by omega, q, hq, by omega⟩, ?_⟩
      show U e.D F e.sz (ch1 p) = 0
      omega
    · have y := z1 c1 (d := ch0 p) rfl (Ne.symm ne01) hd v0
      refine .inr ⟨?_, ⟨by omega, q, hq, by omega⟩⟩
      show U e.D F e.sz (ch0 p) = 0
      omega
  · exfalso
    have : R e.D F (mu e.D q) p = 0 := R_zero (Nat.le_of_lt hd) hv fun r hr _ => mu_out (fun z => c (ins_chain hr z (by rw [hq]; exact Nat.le_of_lt hf))) (fun z => c (ins_trans z hr))
    omega
theorem within_le (ok : e.Fit) (hp : p.1 ≤ e.D) (hv : ins p (0, 0)) (ih : p.1 < e.D → e.IhL F (ch0 p) ∧ e.IhL F (ch1 p)) (hg : e.Good F p) (hal : e.AllGoodIn F p) : ∃ v, e.within e.way p = some v ∧ v.1 ≤ e.nIn F p := by
  unfold within
  by_cases c : (decide (e.fin ≤ p.1) || (decide (e.cnt p = 0) || decide (e.cnt p = e.sz p)) || !e.need p) = true
  · rw [if_pos c]
    exact ⟨_, rfl, Nat.zero_le _⟩
  · rw [if_neg c]
    have hf : p.1 < e.fin := by
      rcases Nat.lt_or_ge p.1 e.fin with z | z
      · exact z
      · exact absurd (by rw [decide_eq_true z]; rfl) c
    have hd : p.1 < e.D := Nat.lt_of_lt_of_le hf ok.hfin
    obtain ⟨i0, i1⟩ := ih hd
    have g0 := good_c0 hal
    have g1 := good_c1 hal
    have v0 := ins_trans (ins_ch0 p) hv
    have v1 := ins_trans (ins_ch1 p) hv
    have go : ∀ {w0 w1 : Word}, e.OkL F w0 (ch0 p) → e.OkL F w1 (ch1 p) → ∃ v, both e.way w0 w1 p = some v ∧ v.1 ≤ e.nIn F p := fun {w0 w1} o0 o1 =>
      both_le hd (i0 w0 (high_c0 hf w0) o0 g0) (i1 w1 (high_c1 hf w1) o1 g1)
    have b1 := R_lt (F := F) (μ := e.cnt) hd
    have b2 := R_lt (F := F) (μ := e.sz) hd
    have l0 : U e.D F e.cnt (ch0 p) ≤ U e.D F e.sz (ch0 p) := U_mono hd v0 fun r hr h => ok.cle r h (ins_trans (ins_c0 hr) hv)
    have l1 : U e.D F e.cnt (ch1 p) ≤ U e.D F e.sz (ch1 p) := U_mono hd v1 fun r hr h => ok.cle r h (ins_trans (ins_c1 hr) hv)
    by_cases c1 : R e.D F e.cnt p = 0
    · refine least_of (o := both e.way .bare .bare p) (by simp) (go ?_ ?_)
      · show U e.D F e.cnt (ch0 p) = 0
        omega
      · show U e.D F e.cnt (ch1 p) = 0
        omega
    · by_cases c2 : R e.D F e.cnt p = R e.D F e.sz p
      · refine least_of (o := both e.way .full .full p) (by simp) (go ?_ ?_)
        · show U e.D F e.cnt (ch0 p) = U e.D F e.sz (ch0 p)
          omega
        · show U e.D F e.cnt (ch1 p) = U e.D F e.sz (ch1 p)
          omega
      · by_cases c3 : ∃ q, e.Want q ∧ R e.D F (mu e.D q) p ≠ 0
        · obtain ⟨q, hq, hz⟩ := c3
          have hh : R e.D F (mu e.D q) p = R e.D F e.sz p := by
            rcases hg q hq with z | z | z | z
            · exact (hz z).elim
            · exact z
            · exact (c1 z).elim
            · exact (c2 z).elim
          rcases one_half ok hd hv hf hq.1 (by omega) hh with ⟨o0, o1⟩ | ⟨o0, o1⟩
          · exact least_of (o := both e.way .lone .all p) (by simp) (go o0 o1)
          · exact least_of (o := both e.way .all .lone p) (by simp) (go o0 o1)
        · have all0 : ∀ q, e.Want q → R e.D F (mu e.D q) p = 0 := fun q hq => by
            by_cases z : R e.D F (mu e.D q) p = 0
            · exact z
            · exact (c3 ⟨q, hq, z⟩).elim
          refine least_of (o := both e.way .needed .needed p) (by simp) (go (fun q hq => ?_) (fun q hq => ?_))
          · have := all0 q hq
            rw [R_lt hd] at this
            omega
          · have := all0 q hq
            rw [R_lt hd] at this
            omega
theorem told_le (hm : e.More F) (hp : p.1 ≤ e.D) (hF : F p = true) (h : ∃ v, e.within e.way p = some v ∧ v.1 ≤ e.nIn F p) : ∃ v, e.told e.way p = some v ∧ v.1 ≤ e.nw F p := by
  obtain ⟨v, hv, hl⟩ := h
  unfold told
  rw [hv, nw_eq hp]
  by_cases c : e.F0 p = true
  · refine ⟨_, rfl, ?_⟩
    dsimp only
    rw [if_pos c]
    omega
  · refine ⟨_, rfl, ?_⟩
    dsimp only
    rw [if_neg c, if_pos (by rw [hF, Bool.eq_false_iff.mpr c]; rfl)]
    show v.1 + 1 ≤ 1 + e.nIn F p
    omega
/-- NO FACTS OF ANY CHOICE ARE FEWER -/
theorem way_le (ok : e.Fit) (hm : e.More F) : ∀ p, p.1 ≤ e.D → ins p (0, 0) → e.IhL F p := tree_ind e.D fun p hp hv ih w hw ho hal => by
  rw [way_eq ok hp hv]
  unfold wayOf
  by_cases c1 : e.ends w p = true
  · rw [if_pos c1]
    exact ⟨_, rfl, Nat.zero_le _⟩
  · rw [if_neg c1]
    have tell : F p = true → ∃ v, e.told e.way p = some v ∧ v.1 ≤ e.nw F p := fun hF => told_le hm hp hF (within_le ok hp hv ih (hal p (ins_refl p) hp hF) (good_in hal))
    have v0 := ins_trans (ins_ch0 p) hv
    have v1 := ins_trans (ins_ch1 p) hv
    -- an equal word of both halves, where p is no fact
    have halves : ∀ w, w ≠ .lone → F p = false → p.1 < e.D → e.OkL F w p → e.OkL F w (ch0 p) ∧ e.OkL F w (ch1 p) := fun w hl hF hd o => by
      have u : ∀ μ : Pre → Nat, U e.D F μ p = U e.D F μ (ch0 p) + U e.D F μ (ch1 p) := fun μ => by rw [U_nF hF, R_lt hd]
      have l0 : U e.D F e.cnt (ch0 p) ≤ U e.D F e.sz (ch0 p) := U_mono hd v0 fun r hr h => ok.cle r h (ins_trans (ins_c0 hr) hv)
      have l1 : U e.D F e.cnt (ch1 p) ≤ U e.D F e.sz (ch1 p) := U_mono hd v1 fun r hr h => ok.cle r h (ins_trans (ins_c1 hr) hv)
      have u1 := u e.cnt
      have u2 := u e.sz
      cases w with
      | bare =>
        have o : U e.D F e.cnt p = 0 := o
        show U e.D F e.cnt (ch0 p) = 0 ∧ U e.D F e.cnt (ch1 p) = 0
        omega
      | full =>
        have o : U e.D F e.cnt p = U e.D F e.sz p := o
        show U e.D F e.cnt (ch0 p) = U e.D F e.sz (ch0 p) ∧ U e.D F e.cnt (ch1 p) = U e.D F e.sz (ch1 p)
        omega
      | lone => exact (hl rfl).elim
      | all =>
        have o : U e.D F e.sz p = 0 := o
        show U e.D F e.sz (ch0 p) = 0 ∧ U e.D F e.sz (ch1 p) = 0
        omega
      | needed =>
        refine ⟨fun q hq => ?_, fun q hq => ?_⟩
        · have := o q hq
          rw [u] at this; omega
        · have := o q hq
          rw [u] at this; omega
    by_cases c2 : e.fin ≤ p.1
    · rw [if_pos c2]
      have hl : w ≠ .lone := by
        rintro rfl
        refine c1 (decide_eq_true ?_)
        have := hw (.inr rfl)
        omega
      -- the word within a cell
      have hw' : cellWord w ≠ .lone ∧ cellWord w ≠ .needed := by
        cases w <;> first | exact (hl rfl).elim | exact ⟨fun z => (nomatch z), fun z => (nomatch z)⟩
      have ho' : e.OkL F (cellWord w) p ∧ (cellWord w = .bare → e.cnt p ≠ 0) ∧ (cellWord w = .full → e.cnt p ≠ e.sz p) := by
        cases w with
        | bare => exact ⟨ho, fun _ z => c1 (decide_eq_true z), fun z => (nomatch z)⟩
        | full => exact ⟨ho, fun z => (nomatch z), fun _ z => c1 (decide_eq_true z)⟩
        | lone => exact (hl rfl).elim
        | all => exact ⟨ho, fun z => (nomatch z), fun z => (nomatch z)⟩
        | needed =>
          refine ⟨?_, fun z => (nomatch z), fun z => (nomatch z)⟩
          have hf : p.1 = e.fin := by have := hw (.inl rfl); omega
          have hn : e.need p = true := by
            cases q : e.need p with
            | true => rfl
            | false => exact (c1 (by show (!e.need p) = true; rw [q]; rfl)).elim
          show U e.D F e.sz p = 0
          have o : U e.D F (mu e.D p) p = 0 := ho p ⟨hf, hv, hn⟩
          rw [← o]
          exact U_congr hp hv fun r hr _ => (mu_in hr).symm
      by_cases hF : F p = true
      · refine least_of (o := e.told e.way p) ?_ (tell hF)
        refine List.mem_append_left _ ?_
        rw [if_pos]
        · exact List.mem_singleton.mpr rfl
        · by_cases z : e.F0 p = true
          · rw [z]; rfl
          · have := hm.new p hF (Bool.eq_false_iff.mpr z)
            rw [decide_eq_true (show p.1 = e.fin by omega), Bool.or_true]
      · have hF : F p = false := Bool.eq_false_iff.mpr hF
        by_cases hh : e.hold p = true
        · have hd : p.1 < e.D := by
            rcases Nat.lt_or_ge p.1 e.D with z | z
            · exact z
            · rw [hold_end ok (by omega) hv] at hh; cases hh
          obtain ⟨i0, i1⟩ := ih hd
          obtain ⟨o0, o1⟩ := halves _ hw'.1 hF hd ho'.1
          have hi : ∀ c : Pre, e.High (cellWord w) c := fun c z => (z.elim hw'.2 hw'.1).elim
          have q := both_le hd (i0 _ (hi _) o0 (good_c0 (good_in hal))) (i1 _ (hi _) o1 (good_c1 (good_in hal)))
          refine least_of (o := both e.way (cellWord w) (cellWord w) p) (List.mem_append_right _ (by rw [if_pos hh]; exact List.mem_singleton.mpr rfl)) ?_
          obtain ⟨v, hv', hl'⟩ := q
          exact ⟨v, hv', by rw [nw_eq hp]; omega⟩
        · exfalso
          -- no fact within: all is left, and the word does not hold
          have none_in : ∀ r, ins r p → r ≠ p → r.1 ≤ e.D → F r = false := fun r hr hn _ => by
            cases q : F r with
            | false => rfl
            | true =>
              by_cases z : e.F0 r = true
              · exact (hh ((ok.hhold p hp hv).mpr ⟨r, z, hr, hn⟩)).elim
              · have := hm.new r q (Bool.eq_false_iff.mpr z)
                have := ins_lt hr hn
                omega
          have fc : U e.D F e.cnt p = e.cnt p := by rw [U_nF hF, R_free ok.cadd p hp hv none_in]
          have fs : U e.D F e.sz p = e.sz p := by rw [U_nF hF, R_free (sz_add e.D) p hp hv none_in]
          have pos : 0 < e.sz p := sz_pos e.D p
          obtain ⟨a1, a2, a3⟩ := ho'
          cases q : cellWord w with
          | bare =>
            rw [q] at a1
            have a1 : U e.D F e.cnt p = 0 := a1
            exact a2 q (by omega)
          | full =>
            rw [q] at a1
            have a1 : U e.D F e.cnt p = U e.D F e.sz p := a1
            exact a3 q (by omega)
          | lone => exact hw'.1 q
          | all =>
            rw [q] at a1
            have a1 : U e.D F e.sz p = 0 := a1
            omega
          | needed => exact hw'.2 q
    · rw [if_neg c2]
      have hf : p.1 < e.fin := by omega
      have hd : p.1 < e.D := Nat.lt_of_lt_of_le hf ok.hfin
      obtain ⟨i0, i1⟩ := ih hd
      have go : ∀ {w0 w1 : Word}, e.OkL F w0 (ch0 p) → e.OkL F w1 (ch1 p) → ∃ v, both e.way w0 w1 p = some v ∧ v.1 ≤ e.nw F p := fun {w0 w1} o0 o1 => by
        obtain ⟨v, hv', hl'⟩ := both_le hd (i0 w0 (high_c0 hf w0) o0 (good_c0 (good_in hal))) (i1 w1 (high_c1 hf w1) o1 (good_c1 (good_in hal)))
        exact ⟨v, hv', by rw [nw_eq hp]; omega⟩
      by_cases c3 : w = .lone
      · subst c3
        rw [if_pos rfl]
        obtain ⟨hz, q, hq, hu⟩ := ho
        have hF : F p = false := by
          cases z : F p with
          | false => rfl
          | true => exact (hz (U_F z)).elim
        rw [U_nF hF] at hz hu
        rw [U_nF hF] at hu
        rcases one_half ok hd hv hf hq hz hu with ⟨o0, o1⟩ | ⟨o0, o1⟩
        · exact least_of (o := both e.way .lone .all p) (by simp) (go o0 o1)
        · exact least_of (o := both e.way .all .lone p) (by simp) (go o0 o1)
      · rw [if_neg c3]
        by_cases hF : F p = true
        · exact least_of (o := e.told e.way p) (by simp) (tell hF)
        · obtain ⟨o0, o1⟩ := halves w c3 (Bool.eq_false_iff.mpr hF) hd ho
          exact least_of (o := both e.way w w p) (by simp) (go o0 o1)
theorem dp_le (ok : e.Fit) (hm : e.More F) (h : e.Enough F) : ∃ v, e.dp = some v ∧ v.1 ≤ e.nw F (0, 0) := by
  have hv : ins (0, 0) (0, 0) := ins_refl _
  have ih : (0, 0).1 < e.D → e.IhL F (ch0 (0, 0)) ∧ e.IhL F (ch1 (0, 0)) := fun z => ⟨way_le ok hm _ z (ins_ch0 _), way_le ok hm _ z (ins_ch1 _)⟩
  obtain ⟨hal, hr⟩ := h
  unfold dp
  by_cases hF : F (0, 0) = true
  · exact least_of (o := e.told e.way (0, 0)) (by simp) (told_le hm (Nat.zero_le _) hF (within_le ok (Nat.zero_le _) hv ih (hal _ hv (Nat.zero_le _) hF) (good_in hal)))
  · have hF : F (0, 0) = false := Bool.eq_false_iff.mpr hF
    refine least_of (o := e.way .needed (0, 0)) (by simp) (way_le ok hm (0, 0) (Nat.zero_le _) hv .needed (fun _ => Nat.zero_le _) (fun q hq => ?_) hal)
    rw [U_nF hF]
    exact hr hF q hq
/-- new facts are counted by any list that has them -/
theorem nw_list (hn : ∀ r, F r = true → e.F0 r = false → r.1 ≤ e.D) : ∀ p, p.1 ≤ e.D → ins p (0, 0) → ∀ L : List Pre, (∀ r, ins r p → F r = true → e.F0 r = false → r ∈ L) → e.nw F p ≤ (L.filter fun r => decide (ins r p)).length := tree_ind e.D fun p hp hv ih L hL => by
  rw [nw_eq hp]
  -- p itself, the two halves: apart
  have key : ∀ L : List Pre, (L.filter fun r => decide (r = p)).length + ((L.filter fun r => decide (ins r (ch0 p))).length + (L.filter fun r => decide (ins r (ch1 p))).length) ≤ (L.filter fun r => decide (ins r p)).length := by
    intro L
    induction L with
    | nil => simp
    | cons x xs ihx =>
      simp only [List.filter_cons]
      by_cases h0 : ins x (ch0 p)
      · have n1 : ¬ ins x (ch1 p) := fun z => ins_both h0 z
        have n2 : ¬ x = p := ne_c0 h0
        have h : ins x p := ins_c0 h0
        simp only [h0, n1, n2, h, decide_true, decide_false, if_true, List.length_cons]
        simp only [Bool.false_eq_true, if_false]
        omega
      · by_cases h1 : ins x (ch1 p)
        · have n2 : ¬ x = p := ne_c1 h1
          have h : ins x p := ins_c1 h1
          simp only [h0, h1, n2, h, decide_true, decide_false, if_true, List.length_cons]
          simp only [Bool.false_eq_true, if_false]
          omega
        · by_cases h2 : x = p
          · subst h2
            have h := ins_refl x
            simp only [h0, h1, h, decide_true, decide_false, if_true, List.length_cons]
            simp only [Bool.false_eq_true, if_false]
            omega
          · by_cases h : ins x p
            · simp only [h0, h1, h2, h, decide_true, decide_false, if_true, List.length_cons]
              simp only [Bool.false_eq_true, if_false]
              omega
            · simp only [h0, h1, h2, h, decide_false]
              simp only [Bool.false_eq_true, if_false]
              exact ihx
  have k := key L
  have self : (if (F p && !e.F0 p) = true then 1 else 0) ≤ (L.filter fun r => decide (r = p)).length := by
    by_cases c : (F p && !e.F0 p) = true
    · rw [if_pos c]
      rw [Bool.and_eq_true] at c
      have c2 : e.F0 p = false := by
        cases z : e.F0 p with
        | false => rfl
        | true => rw [z] at c; exact absurd c.2 (by decide)
      have hm := hL p (ins_refl p) c.1 c2
      exact List.length_pos_of_mem (List.mem_filter.mpr ⟨hm, decide_eq_true rfl⟩)
    · rw [if_neg c]; exact Nat.zero_le _
  unfold nIn
  by_cases h : p.1 < e.D
  · obtain ⟨i0, i1⟩ := ih h
    rw [if_pos h]
    have a0 := i0 L fun r hr => hL r (ins_c0 hr)
    have a1 := i1 L fun r hr => hL r (ins_c1 hr)
    omega
  · rw [if_neg h]
    omega
end
end Env
end FC
namespace FC
/-! ### the greatest facts within a prefix -/
def mxK (F : Pre → Bool) : Nat → Pre → List Pre
  | 0, p => if F p = true then [p] else []
  | k + 1, p => if F p = true then [p] else mxK F k (ch0 p) ++ mxK F k (ch1 p)
def mx (D : Nat) (F : Pre → Bool) (p : Pre) : List Pre := mxK F (D - p.1) p
def mxIn (D : Nat) (F : Pre → Bool) (p : Pre) : List Pre := if p.1 < D then mx D F (ch0 p) ++ mx D F (ch1 p) else []
section
variable {D : Nat} {F : Pre → Bool} {μ : Pre → Nat} {p : Pre}
theorem mx_eq (hp : p.1 ≤ D) : mx D F p = if F p = true then [p] else mxIn D F p := by
  unfold mxIn mx
  by_cases h : p.1 < D
  · rw [if_pos h, show D - p.1 = (D - (ch0 p).1) + 1 by show D - p.1 = D - (p.1 + 1) + 1; omega]
    rfl
  · rw [if_neg h, show D - p.1 = 0 by omega]
    rfl
theorem mx_sum (ha : Add D μ) : ∀ p, p.1 ≤ D → ins p (0, 0) → ((mx D F p).map μ).sum + U D F μ p = μ p := tree_ind D fun p hp hv ih => by
  rw [mx_eq hp, U_eq]
  by_cases c : F p = true
  · rw [if_pos c, if_pos c]; simp
  · rw [if_neg c, if_neg c]
    unfold mxIn
    by_cases h : p.1 < D
    · obtain ⟨i0, i1⟩ := ih h
      rw [if_pos h, R_lt h, List.map_append, List.sum_append, ha p h hv]
      omega
    · rw [if_neg h, R_end (by omega)]; simp
theorem mxIn_sum (ha : Add D μ) (hp : p.1 ≤ D) (hv : ins p (0, 0)) : ((mxIn D F p).map μ).sum + R D F μ p = μ p := by
  unfold mxIn
  by_cases h : p.1 < D
  · have i0 := mx_sum (F := F) ha (ch0 p) h (ins_trans (ins_ch0 p) hv)
    have i1 := mx_sum (F := F) ha (ch1 p) h (ins_trans (ins_ch1 p) hv)
    rw [if_pos h, R_lt h, List.map_append, List.sum_append, ha p h hv]
    omega
  · rw [if_neg h, R_end (by omega)]; simp
theorem mx_mem {x : Pre} : ∀ p, p.1 ≤ D → ins p (0, 0) → (x ∈ mx D F p ↔ F x = true ∧ ins x p ∧ x.1 ≤ D ∧ ∀ y, F y = true → ins y p → ins x y → y = x) := tree_ind D fun p hp hv ih => by
  rw [mx_eq hp]
  by_cases c : F p = true
  · rw [if_pos c, List.mem_singleton]
    constructor
    · rintro rfl
      exact ⟨c, ins_refl _, hp, fun y _ h1 h2 => (ins_eq h2 h1.1).symm⟩
    · rintro ⟨_, h1, _, h2⟩
      exact (h2 p c (ins_refl p) h1).symm
  · rw [if_neg c]
    unfold mxIn
    by_cases h : p.1 < D
    · obtain ⟨i0, i1⟩ := ih h
      rw [if_pos h, List.mem_append, i0, i1]
      constructor
      · rintro (⟨a, b, d, g⟩ | ⟨a, b, d, g⟩)
        · refine ⟨a, ins_c0 b, d, fun y hy h1 h2 => ?_⟩
          have n : y ≠ p := by rintro rfl; exact c hy
          rcases ins_split h1 n with z | z
          · exact g y hy z h2
          · exact (ins_both b (ins_trans h2 z)).elim
        · refine ⟨a, ins_c1 b, d, fun y hy h1 h2 => ?_⟩
          have n : y ≠ p := by rintro rfl; exact c hy
          rcases ins_split h1 n with z | z
          · exact (ins_both (ins_trans h2 z) b).elim
          · exact g y hy z h2
      · rintro ⟨a, b, d, g⟩
        have n : x ≠ p := by rintro rfl; exact c a
        rcases ins_split b n with z | z
        · exact .inl ⟨a, z, d, fun y hy h1 h2 => g y hy (ins_c0 h1) h2⟩
        · exact .inr ⟨a, z, d, fun y hy h1 h2 => g y hy (ins_c1 h1) h2⟩
    · rw [if_neg h]
      constructor
      · intro z; cases z
      · rintro ⟨a, b, d, _⟩
        have : x = p := ins_eq b (by omega)
        rw [this] at a; exact (c a).elim
theorem mxIn_mem {x : Pre} (hp : p.1 ≤ D) (hv : ins p (0, 0)) : x ∈ mxIn D F p ↔ F x = true ∧ ins x p ∧ x ≠ p ∧ x.1 ≤ D ∧ ∀ y, F y = true → ins y p → y ≠ p → ins x y → y = x := by
  unfold mxIn
  by_cases h : p.1 < D
  · rw [if_pos h, List.mem_append, mx_mem (ch0 p) h (ins_trans (ins_ch0 p) hv), mx_mem (ch1 p) h (ins_trans (ins_ch1 p) hv)]
    constructor
    · rintro (⟨a, b, d, g⟩ | ⟨a, b, d, g⟩)
      · refine ⟨a, ins_c0 b, ne_c0 b, d, fun y hy h1 n h2 => ?_⟩
        rcases ins_split h1 n with z | z
        · exact g y hy z h2
        · exact (ins_both b (ins_trans h2 z)).elim
      · refine ⟨a, ins_c1 b, ne_c1 b, d, fun y hy h1 n h2 => ?_⟩
        rcases ins_split h1 n with z | z
        · exact (ins_both (ins_trans h2 z) b).elim
        · exact g y hy z h2
    · rintro ⟨a, b, n, d, g⟩
      rcases ins_split b n with z | z
      · exact .inl ⟨a, z, d, fun y hy h1 h2 => g y hy (ins_c0 h1) (ne_c0 h1) h2⟩
      · exact .inr ⟨a, z, d, fun y hy h1 h2 => g y hy (ins_c1 h1) (ne_c1 h1) h2⟩
  · rw [if_neg h]
    constructor
    · intro z; cases z
    · rintro ⟨a, b, n, d, _⟩
      exact (n (ins_eq b (by omega))).elim
theorem mx_nd : ∀ p, p.1 ≤ D → ins p (0, 0) → (mx D F p).Nodup := tree_ind D fun p hp hv ih => by
  rw [mx_eq hp]
  by_cases c : F p = true
  · rw [if_pos c]; simp
  · rw [if_neg c]
    unfold mxIn
    by_cases h : p.1 < D
    · obtain ⟨i0, i1⟩ := ih h
      rw [if_pos h]
      refine List.nodup_append.mpr ⟨i0, i1, fun a ha b hb z => ?_⟩
      subst z
      exact ins_both ((mx_mem _ h (ins_trans (ins_ch0 p) hv)).mp ha).2.1 ((mx_mem _ h (ins_trans (ins_ch1 p) hv)).mp hb).2.1
    · rw [if_neg h]; simp
theorem mxIn_nd (hv : ins p (0, 0)) : (mxIn D F p).Nodup := by
  unfold mxIn
  by_cases h : p.1 < D
  · rw [if_pos h]
    refine List.nodup_append.mpr ⟨mx_nd _ h (ins_trans (ins_ch0 p) hv), mx_nd _ h (ins_trans (ins_ch1 p) hv), fun a ha b hb z => ?_⟩
    subst z
    exact ins_both ((mx_mem _ h (ins_trans (ins_ch0 p) hv)).mp ha).2.1 ((mx_mem _ h (ins_trans (ins_ch1 p) hv)).mp hb).2.1
  · rw [if_neg h]; simp
end

/-! ### the program's way to them -/
def nextStep (p : Pre) (found : List Pre) (one : Pre) : List Pre :=
  if (decide (one ≠ p) && (decide (ins one p) && !found.any fun o => decide (ins one o))) = true then found ++ [one] else found
def nextIn (p : Pre) (order : List Pre) : List Pre := order.foldl (nextStep p) []
/-- a greatest one strictly within p -/
def Top (order : List Pre) (p x : Pre) : Prop := x ∈ order ∧ x ≠ p ∧ ins x p ∧ ∀ y ∈ order, y ≠ p → ins y p → ins x y → y = x
theorem top_above {order : List Pre} {p : Pre} : ∀ n y, y.1 ≤ n → y ∈ order → y ≠ p → ins y p → ∃ z, Top order p z ∧ ins y z := by
  intro n
  induction n with
  | zero =>
    intro y hn hy h1 h2
    exact ⟨y, ⟨hy, h1, h2, fun z _ _ _ h3 => (ins_eq h3 (by omega)).symm⟩, ins_refl y⟩
  | succ n ih =>
    intro y hn hy h1 h2
    by_cases c : ∃ z ∈ order, z ≠ p ∧ ins z p ∧ ins y z ∧ z ≠ y
    · obtain ⟨z, hz, a, b, d, g⟩ := c
      have := ins_lt d (Ne.symm g)
      obtain ⟨t, ht, hzt⟩ := ih z (by omega) hz a b
      exact ⟨t, ht, ins_trans d hzt⟩
    · refine ⟨y, ⟨hy, h1, h2, fun z hz a b d => ?_⟩, ins_refl y⟩
      by_cases g : z = y
      · exact g
      · exact (c ⟨z, hz, a, b, d, g⟩).elim
theorem next_inv {p : Pre} {order : List Pre} (hs : order.Pairwise fun a b => a.1 ≤ b.1) (hn : order.Nodup) : ∀ (suf pre found : List Pre), order = pre ++ suf → found.Nodup → (∀ x, x ∈ found ↔ x ∈ pre ∧ Top order p x) →
    (suf.foldl (nextStep p) found).Nodup ∧ ∀ x, x ∈ suf.foldl (nextStep p) found ↔ Top order p x
  | [], pre, found, he, nd, hf => by
    refine ⟨nd, fun x => ?_⟩
    show x ∈ found ↔ _
    rw [hf x]
    rw [List.append_nil] at he
    constructor
    · exact fun z => z.2
    · exact fun z => ⟨by rw [← he]; exact z.1, z⟩
  | one :: suf, pre, found, he, nd, hf => by
    rw [List.foldl_cons]
    have he' : order = (pre ++ [one]) ++ suf := by rw [he]; simp
    have hone : one ∈ order := by rw [he]; simp
    have npre : one ∉ pre := by
      rw [he] at hn
      exact fun z => (List.nodup_append.mp hn).2.2 _ z _ List.mem_cons_self rfl
    have short : ∀ y ∈ order, y.1 < one.1 → y ∈ pre := fun y hy hl => by
      rw [he] at hy hs
      rcases List.mem_append.mp hy with z | z
      · exact z
      · rcases List.mem_cons.mp z with z | z
        · rw [z] at hl; omega
        · have := (List.pairwise_cons.mp (List.pairwise_append.mp hs).2.1).1 y z
          omega
    have same : ∀ (c : Prop), (Top order p one ↔ c) → ∀ x, (x ∈ pre ++ [one] ∧ Top order p x ↔ (x ∈ pre ∧ Top order p x) ∨ (x = one ∧ c)) := fun c hc x => by
      rw [List.mem_append, List.mem_singleton]
      constructor
      · rintro ⟨z | z, t⟩
        · exact .inl ⟨z, t⟩
        · subst z; exact .inr ⟨rfl, hc.mp t⟩
      · rintro (⟨z, t⟩ | ⟨z, t⟩)
        · exact ⟨.inl z, t⟩
        · subst z; exact ⟨.inr rfl, hc.mpr t⟩
    unfold nextStep
    by_cases c : (decide (one ≠ p) && (decide (ins one p) && !found.any fun o => decide (ins one o))) = true
    · rw [if_pos c]
      rw [Bool.and_eq_true, Bool.and_eq_true] at c
      have c1 : one ≠ p := of_decide_eq_true c.1
      have c2 : ins one p := of_decide_eq_true c.2.1
      have c3 : ∀ o ∈ found, ¬ ins one o := fun o ho z => by
        have : (found.any fun o => decide (ins one o)) = true := List.any_eq_true.mpr ⟨o, ho, decide_eq_true z⟩
        rw [this] at c
        exact absurd c.2.2 (by decide)
      have top : Top order p one := ⟨hone, c1, c2, fun y hy a b d => by
        by_cases g : y = one
        · exact g
        · exfalso
          have l1 := ins_lt d (Ne.symm g)
          obtain ⟨z, hz, hyz⟩ := top_above y.1 y (Nat.le_refl _) hy a b
          have l2 := hyz.1
          exact c3 z ((hf z).mpr ⟨short z hz.1 (by omega), hz⟩) (ins_trans d hyz)⟩
      refine next_inv hs hn suf (pre ++ [one]) (found ++ [one]) he' ?_ fun x => ?_
      · exact List.nodup_append.mpr ⟨nd, by simp, fun a ha b hb z => by
          have : b = one := by simpa using hb
          rw [z, this] at ha
          exact npre ((hf one).mp ha).1⟩
      · rw [same True ⟨fun _ => trivial, fun _ => top⟩ x, List.mem_append, List.mem_singleton, hf x]
        constructor
        · rintro (z | z)
          · exact .inl z
          · exact .inr ⟨z, trivial⟩
        · rintro (z | z)
          · exact .inl z
          · exact .inr z.1
    · rw [if_neg c]
      have ntop : ¬ Top order p one := fun t => by
        apply c
        rw [decide_eq_true t.2.1, decide_eq_true t.2.2.1]
        cases q : found.any fun o => decide (ins one o) with
        | false => rfl
        | true =>
          obtain ⟨o, ho, hio⟩ := List.any_eq_true.mp q
          have hto := (hf o).mp ho
          have e := t.2.2.2 o hto.2.1 hto.2.2.1 hto.2.2.2.1 (of_decide_eq_true hio)
          rw [e] at hto
          exact (npre hto.1).elim
      refine next_inv hs hn suf (pre ++ [one]) found he' nd fun x => ?_
      rw [same False ⟨ntop, fun z => z.elim⟩ x, hf x]
      constructor
      · exact fun z => .inl z
      · rintro (z | z)
        · exact z
        · exact z.2.elim
theorem nextIn_perm {D : Nat} {F : Pre → Bool} {p : Pre} {order : List Pre} (hs : order.Pairwise fun a b => a.1 ≤ b.1) (hn : order.Nodup) (hF : ∀ x, F x = true ↔ x ∈ order) (hD : ∀ x ∈ order, x.1 ≤ D) (hp : p.1 ≤ D) (hv : ins p (0, 0)) :
    (nextIn p order).Perm (mxIn D F p) := by
  obtain ⟨h1, h2⟩ := next_inv (p := p) hs hn order [] [] rfl List.nodup_nil (fun x => ⟨fun z => (nomatch z), fun z => (nomatch z.1)⟩)
  refine (List.perm_ext_iff_of_nodup h1 (mxIn_nd hv)).mpr fun x => ?_
  rw [h2 x, mxIn_mem hp hv]
  constructor
  · rintro ⟨a, b, c, d⟩
    exact ⟨(hF x).mpr a, c, b, hD x a, fun y hy h1 h2 => d y ((hF y).mp hy) h2 h1⟩
  · rintro ⟨a, b, c, d, g⟩
    exact ⟨(hF x).mp a, c, b, fun y hy h1 h2 => g y ((hF y).mpr hy) h2 h1⟩
theorem next_sum {D : Nat} {F : Pre → Bool} {p : Pre} {order : List Pre} {μ : Pre → Nat} (hs : order.Pairwise fun a b => a.1 ≤ b.1) (hn : order.Nodup) (hF : ∀ x, F x = true ↔ x ∈ order) (hD : ∀ x ∈ order, x.1 ≤ D) (ha : Add D μ) (hp : p.1 ≤ D) (hv : ins p (0, 0)) :
    ((nextIn p order).map μ).sum + R D F μ p = μ p := by
  rw [((nextIn_perm hs hn hF hD hp hv).map μ).sum_nat]
  exact mxIn_sum ha hp hv

/-! ### rests, bounds -/
structure Rst where
  p : Pre
  has : Bool
  inner : List Pre
def sumI (μ : Pre → Nat) (l : List Pre) : Int := (l.map fun o => ((μ o : Nat) : Int)).sum
def outI (μ : Pre → Nat) (r : Rst) : Int := ((μ r.p : Nat) : Int) - sumI μ r.inner
theorem sumI_eq (μ : Pre → Nat) (l : List Pre) : sumI μ l = (((l.map μ).sum : Nat) : Int) := by
  unfold sumI
  induction l with
  | nil => rfl
  | cons x xs ih => rw [List.map_cons, List.sum_cons, ih, List.map_cons, List.sum_cons]; omega
def rests (order : List Pre) : List Rst := (if (0, 0) ∈ order then [] else [⟨(0, 0), false, nextIn (0, 0) order⟩]) ++ order.map fun p => ⟨p, true, nextIn p order⟩
def max0 (x : Int) : Int := if x > 0 then x else 0
def min2 (x y : Int) : Int := if y < x then y else x
/-- what a rest gives to the least and to the greatest number -/
def part (D : Nat) (cnt ρ : Pre → Nat) (r : Rst) : Int × Int :=
  if r.has = true then (max0 (outI cnt r - (outI (sz D) r - outI ρ r)), min2 (outI cnt r) (outI ρ r)) else (0, outI ρ r)
def bounds (D : Nat) (cnt ρ : Pre → Nat) (rs : List Rst) : Int × Int := rs.foldl (fun a r => (a.1 + (part D cnt ρ r).1, a.2 + (part D cnt ρ r).2)) (0, 0)
theorem bounds_fold {α : Type} (f : α → Int × Int) : ∀ (rs : List α) (a : Int × Int), a.1 ≤ a.2 → (∀ r ∈ rs, (f r).1 ≤ (f r).2) →
    (rs.foldl (fun a r => (a.1 + (f r).1, a.2 + (f r).2)) a).1 ≤ (rs.foldl (fun a r => (a.1 + (f r).1, a.2 + (f r).2)) a).2 ∧
    ((rs.foldl (fun a r => (a.1 + (f r).1, a.2 + (f r).2)) a).1 = (rs.foldl (fun a r => (a.1 + (f r).1, a.2 + (f r).2)) a).2 ↔ a.1 = a.2 ∧ ∀ r ∈ rs, (f r).1 = (f r).2)
  | [], a, h, _ => ⟨h, ⟨fun z => ⟨z, fun r hr => (nomatch hr)⟩, fun z => z.1⟩⟩
  | x :: xs, a, h, hr => by
    have hx := hr x List.mem_cons_self
    obtain ⟨i1, i2⟩ := bounds_fold f xs (a.1 + (f x).1, a.2 + (f x).2) (by show a.1 + (f x).1 ≤ a.2 + (f x).2; omega) (fun r h => hr r (List.mem_cons_of_mem _ h))
    refine ⟨i1, ?_⟩
    rw [List.foldl_cons, i2]
    constructor
    · rintro ⟨z, g⟩
      have z : a.1 + (f x).1 = a.2 + (f x).2 := z
      refine ⟨by omega, fun r h => ?_⟩
      rcases List.mem_cons.mp h with q | q
      · rw [q]; omega
      · exact g r q
    · rintro ⟨z, g⟩
      have gx := g x List.mem_cons_self
      refine ⟨?_, fun r h => g r (List.mem_cons_of_mem _ h)⟩
      show a.1 + (f x).1 = a.2 + (f x).2
      omega
structure Facts (D : Nat) (F : Pre → Bool) (order : List Pre) : Prop where
  srt : order.Pairwise fun a b => a.1 ≤ b.1
  nd : order.Nodup
  mem : ∀ x, F x = true ↔ x ∈ order
  val : ∀ x ∈ order, x.1 ≤ D ∧ ins x (0, 0)
section
variable {D : Nat} {F : Pre → Bool} {order : List Pre} {cnt ρ μ : Pre → Nat}
theorem out_eq (fa : Facts D F order) (ha : Add D μ) {p : Pre} (hp : p.1 ≤ D) (hv : ins p (0, 0)) (b : Bool) : outI μ ⟨p, b, nextIn p order⟩ = ((R D F μ p : Nat) : Int) := by
  unfold outI
  rw [sumI_eq]
  have := next_sum fa.srt fa.nd fa.mem (fun x hx => (fa.val x hx).1) ha hp hv
  show ((μ p : Nat) : Int) - (((List.map μ (nextIn p order)).sum : Nat) : Int) = _
  omega
theorem rests_mem (r : Rst) : r ∈ rests order ↔ ((0, 0) ∉ order ∧ r = ⟨(0, 0), false, nextIn (0, 0) order⟩) ∨ ∃ p ∈ order, r = ⟨p, true, nextIn p order⟩ := by
  unfold rests
  rw [List.mem_append, List.mem_map]
  have e : (∃ a ∈ order, (⟨a, true, nextIn a order⟩ : Rst) = r) ↔ ∃ p ∈ order, r = ⟨p, true, nextIn p order⟩ := ⟨fun ⟨a, h1, h2⟩ => ⟨a, h1, h2.symm⟩, fun ⟨a, h1, h2⟩ => ⟨a, h1, h2.symm⟩⟩
  rw [e]
  by_cases c : (0, 0) ∈ order
  · rw [if_pos c]
    simp [c]
  · rw [if_neg c, List.mem_singleton]
    simp [c]
def cond (D : Nat) (F : Pre → Bool) (cnt ρ : Pre → Nat) (r : Pre) : Prop := R D F ρ r = 0 ∨ R D F ρ r = R D F (sz D) r ∨ R D F cnt r = 0 ∨ R D F cnt r = R D F (sz D) r
/-- A COUNT IS KNOWN just where each rest tells it -/
theorem known_iff (fa : Facts D F order) (hc : Add D cnt) (hcl : ∀ p, p.1 ≤ D → ins p (0, 0) → cnt p ≤ sz D p) (hρ : Add D ρ) (hρl : ∀ p, p.1 ≤ D → ins p (0, 0) → ρ p ≤ sz D p) :
    (bounds D cnt ρ (rests order)).1 = (bounds D cnt ρ (rests order)).2 ↔ (∀ r ∈ order, cond D F cnt ρ r) ∧ ((0, 0) ∉ order → R D F ρ (0, 0) = 0) := by
  have h0 : ins (0, 0) (0, 0) := ins_refl _
  have le : ∀ p, p.1 ≤ D → ins p (0, 0) → R D F cnt p ≤ R D F (sz D) p ∧ R D F ρ p ≤ R D F (sz D) p := fun p hp hv =>
    ⟨R_mono p hp hv fun r hr hd => hcl r hd (ins_trans hr hv), R_mono p hp hv fun r hr hd => hρl r hd (ins_trans hr hv)⟩
  have pf : ∀ p ∈ order, (part D cnt ρ ⟨p, true, nextIn p order⟩).1 ≤ (part D cnt ρ ⟨p, true, nextIn p order⟩).2 ∧
      ((part D cnt ρ ⟨p, true, nextIn p order⟩).1 = (part D cnt ρ ⟨p, true, nextIn p order⟩).2 ↔ cond D F cnt ρ p) := fun p hp => by
    obtain ⟨v1, v2⟩ := fa.val p hp
    obtain ⟨l1, l2⟩ := le p v1 v2
    unfold part cond
    rw [if_pos rfl, out_eq fa hc v1 v2, out_eq fa hρ v1 v2, out_eq fa (sz_add D) v1 v2]
    unfold max0 min2
    dsimp only
    generalize R D F cnt p = a at *
    generalize R D F ρ p = b at *
    generalize R D F (sz D) p = c at *
    constructor
    · split <;> split <;> omega
    · split <;> split <;> omega
  have p0 : (part D cnt ρ ⟨(0, 0), false, nextIn (0, 0) order⟩).1 ≤ (part D cnt ρ ⟨(0, 0), false, nextIn (0, 0) order⟩).2 ∧
      ((part D cnt ρ ⟨(0, 0), false, nextIn (0, 0) order⟩).1 = (part D cnt ρ ⟨(0, 0), false, nextIn (0, 0) order⟩).2 ↔ R D F ρ (0, 0) = 0) := by
    unfold part
    rw [if_neg Bool.false_ne_true, out_eq fa hρ (Nat.zero_le _) h0]
    dsimp only
    omega
  have fold := bounds_fold (part D cnt ρ) (rests order) (0, 0) (Int.le_refl _) fun r hr => by
    rcases (rests_mem r).mp hr with ⟨_, e⟩ | ⟨p, hp, e⟩
    · rw [e]; exact p0.1
    · rw [e]; exact (pf p hp).1
  refine fold.2.trans ?_
  constructor
  · rintro ⟨_, g⟩
    exact ⟨fun r hr => (pf r hr).2.mp (g _ ((rests_mem _).mpr (.inr ⟨r, hr, rfl⟩))), fun n => p0.2.mp (g _ ((rests_mem _).mpr (.inl ⟨n, rfl⟩)))⟩
  · rintro ⟨g1, g2⟩
    refine ⟨rfl, fun r hr => ?_⟩
    rcases (rests_mem r).mp hr with ⟨n, e⟩ | ⟨p, hp, e⟩
    · rw [e]; exact p0.2.mpr (g2 n)
    · rw [e]; exact (pf p hp).2.mpr (g1 p hp)
end

/-! ### is it enough -/
def okT (need known : Pre → Bool) : Nat → Pre → Bool
  | 0, p => if need p = true then known p else true
  | k + 1, p => if need p = true then okT need known k (ch0 p) && okT need known k (ch1 p) else true
namespace Env
theorem okT_iff {e : Env} (ok : e.Fit) (known : Pre → Bool) : ∀ k p, p.1 + k = e.fin → ins p (0, 0) → (okT e.need known k p = true ↔ ∀ q, ins q p → e.Want q → known q = true) := by
  intro k
  induction k with
  | zero =>
    intro p hp hv
    unfold okT
    by_cases c : e.need p = true
    · rw [if_pos c]
      constructor
      · intro h q hq hw
        rw [ins_eq hq (by rw [hw.1]; omega)]; exact h
      · exact fun h => h p (ins_refl p) ⟨by omega, hv, c⟩
    · rw [if_neg c]
      refine ⟨fun _ q hq hw => ?_, fun _ => rfl⟩
      have : q = p := ins_eq hq (by rw [hw.1]; omega)
      rw [this] at hw
      exact (c hw.2.2).elim
  | succ k ih =>
    intro p hp hv
    have hd : p.1 < e.D := by have := ok.hfin; omega
    unfold okT
    by_cases c : e.need p = true
    · rw [if_pos c, Bool.and_eq_true, ih (ch0 p) (by show p.1 + 1 + k = e.fin; omega) (ins_trans (ins_ch0 p) hv), ih (ch1 p) (by show p.1 + 1 + k = e.fin; omega) (ins_trans (ins_ch1 p) hv)]
      constructor
      · rintro ⟨h0, h1⟩ q hq hw
        have n : q ≠ p := by
          rintro rfl
          have := hw.1
          omega
        rcases ins_split hq n with z | z
        · exact h0 q z hw
        · exact h1 q z hw
      · exact fun h => ⟨fun q hq hw => h q (ins_c0 hq) hw, fun q hq hw => h q (ins_c1 hq) hw⟩
    · rw [if_neg c]
      refine ⟨fun _ q hq hw => ?_, fun _ => rfl⟩
      have := need_down ok hv (Bool.eq_false_iff.mpr c) q hq (by rw [hw.1]; exact ok.hfin)
      rw [hw.2.2] at this; cases this
def knownB (e : Env) (order : List Pre) (q : Pre) : Bool := decide ((bounds e.D e.cnt (mu e.D q) (rests order)).1 = (bounds e.D e.cnt (mu e.D q) (rests order)).2)
def isEnough (e : Env) (order : List Pre) : Bool := okT e.need (e.knownB order) e.fin (0, 0)
theorem isEnough_iff {e : Env} (ok : e.Fit) {F : Pre → Bool} {order : List Pre} (fa : Facts e.D F order) : e.isEnough order = true ↔ e.Enough F := by
  unfold isEnough
  rw [okT_iff ok _ e.fin (0, 0) (Nat.zero_add _) (ins_refl _)]
  have kn : ∀ q, e.Want q → (e.knownB order q = true ↔ (∀ r ∈ order, cond e.D F e.cnt (mu e.D q) r) ∧ ((0, 0) ∉ order → R e.D F (mu e.D q) (0, 0) = 0)) := fun q hq => by
    have hqD : q.1 ≤ e.D := by rw [hq.1]; exact ok.hfin
    unfold knownB
    rw [decide_eq_true_eq]
    exact known_iff fa ok.cadd ok.cle (mu_add hqD) fun p _ _ => mu_le hqD
  constructor
  · intro h
    refine ⟨fun r _ _ hF q hq => ((kn q hq).mp (h q hq.2.1 hq)).1 r ((fa.mem r).mp hF), fun hF q hq => ((kn q hq).mp (h q hq.2.1 hq)).2 fun z => ?_⟩
    rw [(fa.mem _).mpr z] at hF; cases hF
  · rintro ⟨h1, h2⟩ q _ hq
    refine (kn q hq).mpr ⟨fun r hr => h1 r (fa.val r hr).2 (fa.val r hr).1 ((fa.mem r).mpr hr) q hq, fun n => h2 ?_ q hq⟩
    exact Bool.eq_false_iff.mpr fun z => n ((fa.mem _).mp z)

/-! ### there is always an answer -/
theorem way_some {e : Env} (ok : e.Fit) : ∀ p, p.1 ≤ e.D → ins p (0, 0) → p.1 ≤ e.fin → ∀ w, ∃ v, e.way w p = some v := tree_ind e.D fun p hp hv ih hf w => by
  rw [way_eq ok hp hv]
  unfold wayOf
  by_cases c1 : e.ends w p = true
  · rw [if_pos c1]; exact ⟨_, rfl⟩
  · rw [if_neg c1]
    have some_of : ∀ {o : Option Row} {rows : List (Option Row)}, o ∈ rows → (∃ v, o = some v) → ∃ v, least rows = some v := fun {o rows} hm ⟨v, hv⟩ => by
      subst hv
      obtain ⟨u, hu, _⟩ := least_le hm
      exact ⟨u, hu⟩
    by_cases c2 : e.fin ≤ p.1
    · rw [if_pos c2]
      refine some_of (o := e.told e.way p) ?_ ?_
      · refine List.mem_append_left _ ?_
        rw [if_pos (by rw [decide_eq_true (show p.1 = e.fin by omega), Bool.or_true])]
        exact List.mem_singleton.mpr rfl
      · unfold told
        rw [within_cell c2]
        exact ⟨_, rfl⟩
    · rw [if_neg c2]
      have hd : p.1 < e.D := by have := ok.hfin; omega
      obtain ⟨i0, i1⟩ := ih hd
      have two : ∀ w0 w1, ∃ v, both e.way w0 w1 p = some v := fun w0 w1 => by
        obtain ⟨v0, e0⟩ := i0 (by show p.1 + 1 ≤ e.fin; omega) w0
        obtain ⟨v1, e1⟩ := i1 (by show p.1 + 1 ≤ e.fin; omega) w1
        unfold both
        rw [e0, e1]
        exact ⟨_, rfl⟩
      by_cases c3 : w = .lone
      · rw [if_pos c3]
        exact some_of (o := both e.way .lone .all p) (by simp) (two _ _)
      · rw [if_neg c3]
        exact some_of (o := both e.way w w p) (by simp) (two _ _)
theorem within_some {e : Env} (ok : e.Fit) {p : Pre} (hp : p.1 ≤ e.D) (hv : ins p (0, 0)) : ∃ v, e.within e.way p = some v := by
  by_cases c2 : e.fin ≤ p.1
  · exact ⟨_, within_cell c2⟩
  · unfold within
    by_cases c : (decide (e.fin ≤ p.1) || (decide (e.cnt p = 0) || decide (e.cnt p = e.sz p)) || !e.need p) = true
    · rw [if_pos c]; exact ⟨_, rfl⟩
    · rw [if_neg c]
      have hd : p.1 < e.D := by have := ok.hfin; omega
      obtain ⟨v0, e0⟩ := way_some ok (ch0 p) hd (ins_trans (ins_ch0 p) hv) (by show p.1 + 1 ≤ e.fin; omega) .bare
      obtain ⟨v1, e1⟩ := way_some ok (ch1 p) hd (ins_trans (ins_ch1 p) hv) (by show p.1 + 1 ≤ e.fin; omega) .bare
      obtain ⟨u, hu, _⟩ := least_le (rows := [both e.way .bare .bare p, both e.way .full .full p, both e.way .lone .all p, both e.way .all .lone p, both e.way .needed .needed p]) (u := (v0.1 + v1.1, v0.2 ++ v1.2)) (by
        have : both e.way .bare .bare p = some (v0.1 + v1.1, v0.2 ++ v1.2) := by unfold both; rw [e0, e1]
        rw [this]; exact List.mem_cons_self)
      exact ⟨u, hu⟩
theorem told_some {e : Env} (ok : e.Fit) {p : Pre} (hp : p.1 ≤ e.D) (hv : ins p (0, 0)) : ∃ v, e.told e.way p = some v := by
  obtain ⟨v, hv'⟩ := within_some ok hp hv
  unfold told
  rw [hv']
  exact ⟨_, rfl⟩
theorem dp_some {e : Env} (ok : e.Fit) : ∃ v, e.dp = some v := by
  obtain ⟨v, hv⟩ := told_some ok (Nat.zero_le e.D) (ins_refl (0, 0))
  obtain ⟨u, hu, _⟩ := least_le (rows := [e.way .needed (0, 0), e.told e.way (0, 0)]) (u := v) (by rw [hv]; exact List.mem_cons_of_mem _ List.mem_cons_self)
  exact ⟨u, hu⟩

/-! ### THE PLAIN LAW -/
/-- without any one of them something is not known -/
theorem dp_needs {e : Env} (ok : e.Fit) {m : Nat} {rows : List Pre} (h : e.dp = some (m, rows)) {x : Pre} (hx : x ∈ rows) {F : Pre → Bool} (hF : ∀ r, F r = true ↔ e.F0 r = true ∨ (r ∈ rows ∧ r ≠ x)) : ¬ e.Enough F := fun hen => by
  obtain ⟨hl, hn, hr, _⟩ := dp_sound ok h
  have hm : e.More F := ⟨fun r z => (hF r).mpr (.inl z), fun r z n => by
    rcases (hF r).mp z with y | y
    · rw [n] at y; cases y
    · exact (hr r y.1).2.1⟩
  obtain ⟨v, hv, hle⟩ := dp_le ok hm hen
  rw [h] at hv
  have hv : (m, rows) = v := Option.some.inj hv
  subst hv
  have lim : ∀ r, F r = true → e.F0 r = false → r.1 ≤ e.D := fun r z n => Nat.le_trans (hm.new r z n) ok.hfin
  have c := nw_list lim (0, 0) (Nat.zero_le _) (ins_refl _) (rows.erase x) fun r _ z n => by
    rcases (hF r).mp z with y | y
    · rw [n] at y; cases y
    · exact (hn.mem_erase_iff).mpr ⟨y.2, y.1⟩
  have f := List.length_filter_le (fun r => decide (ins r (0, 0))) (rows.erase x)
  rw [List.length_erase_of_mem hx] at f
  have pos := List.length_pos_of_mem hx
  have hle : m ≤ e.nw F (0, 0) := hle
  omega
/-- with all of them nothing more is to be told -/
theorem dp_again {e : Env} (F0' hold' : Pre → Bool) (ok' : ({ e with F0 := F0', hold := hold' } : Env).Fit) (h : e.Enough F0') : ({ e with F0 := F0', hold := hold' } : Env).dp = some (0, []) := by
  have hm : ({ e with F0 := F0', hold := hold' } : Env).More F0' := ⟨fun r z => z, fun r z n => by
    have n : F0' r = false := n
    rw [n] at z; cases z⟩
  obtain ⟨v, hv, hle⟩ := dp_le ok' hm h
  have z : ∀ k p, nK ({ e with F0 := F0', hold := hold' } : Env) F0' k p = 0 := by
    intro k
    induction k with
    | zero =>
      intro p
      show (if (F0' p && !F0' p) = true then 1 else 0) = 0
      rw [Bool.and_not_self]; rfl
    | succ k ih =>
      intro p
      show (if (F0' p && !F0' p) = true then 1 else 0) + _ = 0
      rw [Bool.and_not_self, ih, ih]; rfl
  have hz : v.1 ≤ 0 := by
    have : nw ({ e with F0 := F0', hold := hold' } : Env) F0' (0, 0) = 0 := z _ _
    omega
  obtain ⟨m, rows⟩ := v
  have hm0 : m = 0 := Nat.le_zero.mp hz
  subst hm0
  have := (dp_sound ok' hv).1
  rw [hv, List.length_eq_zero_iff.mp this]
end Env
end FC
namespace FC
/-! ### points, cells, boxes -/
def ptStep (dims number : Nat) (s : List Nat × Nat) (turn : Nat) : List Nat × Nat :=
  (s.1.set (turn % dims) (s.1.getD (turn % dims) 0 * 2 + number / s.2 % 2), max 1 (s.2 / 2))
def ptFrom (dims number : Nat) (s : List Nat × Nat) (n : Nat) : List Nat × Nat := (List.range n).foldl (ptStep dims number) s
def pointOf (dims bits number : Nat) : List Nat := (ptFrom dims number (List.replicate dims 0, 2 ^ (dims * bits) / 2) (dims * bits)).1
def lowOf (dims bits : Nat) (p : Pre) : List Nat := pointOf dims bits (p.2 * sz (dims * bits) p)
def highOf (dims bits : Nat) (p : Pre) : List Nat := pointOf dims bits (p.2 * sz (dims * bits) p + sz (dims * bits) p - 1)
def ov (lo hi a b : Nat) : Nat := (min hi b + 1) - max lo a
def roomL : List Nat → List Nat → List Nat → List Nat → Nat
  | lo :: los, hi :: his, a :: as, b :: bs => ov lo hi a b * roomL los his as bs
  | _, _, _, _ => 1
def roomN (dims bits : Nat) (lo hi : List Nat) (p : Pre) : Nat := roomL lo hi (lowOf dims bits p) (highOf dims bits p)

theorem ov_split {lo hi a m b : Nat} (h1 : a ≤ m) (h2 : m + 1 ≤ b) : ov lo hi a b = ov lo hi a m + ov lo hi (m + 1) b := by
  unfold ov; omega
theorem roomL_split : ∀ (lo hi a b : List Nat) (i m : Nat), i < a.length → i < b.length → i < lo.length → i < hi.length → a.getD i 0 ≤ m → m + 1 ≤ b.getD i 0 →
    roomL lo hi a b = roomL lo hi a (b.set i m) + roomL lo hi (a.set i (m + 1)) b
  | lo :: los, hi :: his, a :: as, b :: bs, 0, m, _, _, _, _, h1, h2 => by
    show ov lo hi a b * roomL los his as bs = ov lo hi a m * roomL los his as bs + ov lo hi (m + 1) b * roomL los his as bs
    rw [ov_split (a := a) (b := b) h1 h2, Nat.add_mul]
  | lo :: los, hi :: his, a :: as, b :: bs, i + 1, m, g1, g2, g3, g4, h1, h2 => by
    show ov lo hi a b * roomL los his as bs = ov lo hi a b * roomL los his as (bs.set i m) + ov lo hi a b * roomL los his (as.set i (m + 1)) bs
    rw [roomL_split los his as bs i m (Nat.lt_of_succ_lt_succ g1) (Nat.lt_of_succ_lt_succ g2) (Nat.lt_of_succ_lt_succ g3) (Nat.lt_of_succ_lt_succ g4) h1 h2, Nat.mul_add]
  | [], _, _, _, _, _, _, _, g, _, _, _ => absurd g (Nat.not_lt_zero _)
  | _, [], _, _, _, _, _, _, _, g, _, _ => absurd g (Nat.not_lt_zero _)
  | _, _, [], _, _, _, g, _, _, _, _, _ => absurd g (Nat.not_lt_zero _)
  | _, _, _, [], _, _, _, g, _, _, _, _ => absurd g (Nat.not_lt_zero _)
theorem roomL_le : ∀ (lo hi a b : List Nat), lo.length = a.length → hi.length = b.length → roomL lo hi a b ≤ roomL a b a b
  | lo :: los, hi :: his, a :: as, b :: bs, h1, h2 => by
    show ov lo hi a b * roomL los his as bs ≤ ov a b a b * roomL as bs as bs
    exact Nat.mul_le_mul (by unfold ov; omega) (roomL_le los his as bs (Nat.succ.inj h1) (Nat.succ.inj h2))
  | [], _, [], _, _, _ => by simp [roomL]
  | _ :: _, [], _ :: _, [], _, _ => by simp [roomL]
  | [], _, _ :: _, _, h, _ => absurd h (by simp)
  | _ :: _, _, [], _, h, _ => absurd h (by simp)
  | _, [], _, _ :: _, _, h => absurd h (by simp)
  | _, _ :: _, _, [], _, h => absurd h (by simp)
/-- a box within another one -/
theorem roomL_in : ∀ (lo hi a b : List Nat), lo.length = a.length → hi.length = b.length → (∀ i, a.getD i 0 ≤ lo.getD i 0) → (∀ i, i < hi.length → hi.getD i 0 ≤ b.getD i 0) → roomL lo hi a b = roomL lo hi lo hi
  | lo :: los, hi :: his, a :: as, b :: bs, h1, h2, h3, h4 => by
    show ov lo hi a b * roomL los his as bs = ov lo hi lo hi * roomL los his los his
    have g3 : a ≤ lo := h3 0
    have g4 : hi ≤ b := h4 0 (Nat.zero_lt_succ _)
    rw [roomL_in los his as bs (Nat.succ.inj h1) (Nat.succ.inj h2) (fun i => h3 (i + 1)) (fun i hi => h4 (i + 1) (Nat.succ_lt_succ hi))]
    congr 1
    unfold ov; omega
  | [], _, [], _, _, _, _, _ => by simp [roomL]
  | _ :: _, [], _ :: _, [], _, _, _, _ => by simp [roomL]
  | [], _, _ :: _, _, h, _, _, _ => absurd h (by simp)
  | _ :: _, _, [], _, h, _, _, _ => absurd h (by simp)
  | _, [], _, _ :: _, _, h, _, _ => absurd h (by simp)
  | _, _ :: _, _, [], _, h, _, _ => absurd h (by simp)

/-! ### the eight spaces -/
def spaces : List (Nat × Nat) := [(1, 1), (1, 3), (1, 5), (2, 1), (2, 2), (2, 3), (3, 1), (3, 2)]
def pres (D : Nat) : List Pre := (List.range (D + 1)).flatMap fun l => (List.range (2 ^ l)).map fun n => (l, n)
theorem mem_pres {D : Nat} {p : Pre} (h : p.1 ≤ D) (hv : p.2 < 2 ^ p.1) : p ∈ pres D :=
  List.mem_flatMap.mpr ⟨p.1, List.mem_range.mpr (by omega), List.mem_map.mpr ⟨p.2, List.mem_range.mpr hv, rfl⟩⟩
def cellOk (dims bits : Nat) (p : Pre) : Bool :=
  let a := lowOf dims bits p
  let b := highOf dims bits p
  decide (a.length = dims) && (decide (b.length = dims) && ((a.zip b).all (fun x => decide (x.1 ≤ x.2) && decide (x.2 < 2 ^ bits)) && (decide (roomL a b a b = sz (dims * bits) p) &&
    (decide (dims * bits ≤ p.1) || (List.range dims).any fun i =>
      let m := (highOf dims bits (ch0 p)).getD i 0
      decide (lowOf dims bits (ch0 p) = a) && (decide (highOf dims bits (ch1 p) = b) && (decide (highOf dims bits (ch0 p) = b.set i m) && (decide (lowOf dims bits (ch1 p) = a.set i (m + 1)) && (decide (a.getD i 0 ≤ m) && decide (m + 1 ≤ b.getD i 0)))))))))
def rootOk (dims bits : Nat) : Bool := decide (lowOf dims bits (0, 0) = List.replicate dims 0) && decide (highOf dims bits (0, 0) = List.replicate dims (2 ^ bits - 1))
theorem spaces_ok : (spaces.all fun s => rootOk s.1 s.2 && (pres (s.1 * s.2)).all fun p => cellOk s.1 s.2 p) = true := by decide +kernel
end FC
namespace FC
structure CellOk (dims bits : Nat) (p : Pre) : Prop where
  la : (lowOf dims bits p).length = dims
  lb : (highOf dims bits p).length = dims
  le : ∀ i, i < dims → (lowOf dims bits p).getD i 0 ≤ (highOf dims bits p).getD i 0
  lt : ∀ i, i < dims → (highOf dims bits p).getD i 0 < 2 ^ bits
  vol : roomL (lowOf dims bits p) (highOf dims bits p) (lowOf dims bits p) (highOf dims bits p) = sz (dims * bits) p
  half : p.1 < dims * bits → ∃ i m, i < dims ∧ lowOf dims bits (ch0 p) = lowOf dims bits p ∧ highOf dims bits (ch1 p) = highOf dims bits p ∧ highOf dims bits (ch0 p) = (highOf dims bits p).set i m ∧
    lowOf dims bits (ch1 p) = (lowOf dims bits p).set i (m + 1) ∧ (lowOf dims bits p).getD i 0 ≤ m ∧ m + 1 ≤ (highOf dims bits p).getD i 0
theorem cellOk_of {dims bits : Nat} {p : Pre} (h : cellOk dims bits p = true) : CellOk dims bits p := by
  unfold cellOk at h
  simp only [Bool.and_eq_true, decide_eq_true_eq] at h
  obtain ⟨la, lb, hz, vol, hh⟩ := h
  have zs : ∀ i, i < dims → (lowOf dims bits p).getD i 0 ≤ (highOf dims bits p).getD i 0 ∧ (highOf dims bits p).getD i 0 < 2 ^ bits := fun i hi => by
    have h1 : i < (lowOf dims bits p).length := by omega
    have h2 : i < (highOf dims bits p).length := by omega
    have hm : ((lowOf dims bits p)[i], (highOf dims bits p)[i]) ∈ (lowOf dims bits p).zip (highOf dims bits p) := by
      have : ((lowOf dims bits p).zip (highOf dims bits p))[i]'(by rw [List.length_zip]; omega) = ((lowOf dims bits p)[i], (highOf dims bits p)[i]) := List.getElem_zip
      rw [← this]; exact List.getElem_mem _
    have g := List.all_eq_true.mp hz _ hm
    rw [Bool.and_eq_true, decide_eq_true_eq, decide_eq_true_eq] at g
    have d1 : (lowOf dims bits p).getD i 0 = (lowOf dims bits p)[i] := by rw [List.getD_eq_getElem?_getD, List.getElem?_eq_getElem h1]; rfl
    have d2 : (highOf dims bits p).getD i 0 = (highOf dims bits p)[i] := by rw [List.getD_eq_getElem?_getD, List.getElem?_eq_getElem h2]; rfl
    rw [d1, d2]
    exact g
  refine ⟨la, lb, fun i hi => (zs i hi).1, fun i hi => (zs i hi).2, vol, fun hp => ?_⟩
  rw [Bool.or_eq_true, decide_eq_true_eq] at hh
  rcases hh with hh | hh
  · omega
  · obtain ⟨i, hi, g⟩ := List.any_eq_true.mp hh
    simp only [Bool.and_eq_true, decide_eq_true_eq] at g
    obtain ⟨g1, g2, g3, g4, g5, g6⟩ := g
    exact ⟨i, _, List.mem_range.mp hi, g1, g2, g3, g4, g5, g6⟩
section
variable {dims bits : Nat}
theorem cell_ok (hs : (dims, bits) ∈ spaces) {p : Pre} (hp : p.1 ≤ dims * bits) (hv : ins p (0, 0)) : CellOk dims bits p := by
  have h := List.all_eq_true.mp spaces_ok _ hs
  rw [Bool.and_eq_true] at h
  exact cellOk_of (List.all_eq_true.mp h.2 p (mem_pres hp (of_root_ins hv)))
theorem root_low (hs : (dims, bits) ∈ spaces) : lowOf dims bits (0, 0) = List.replicate dims 0 ∧ highOf dims bits (0, 0) = List.replicate dims (2 ^ bits - 1) := by
  have h := List.all_eq_true.mp spaces_ok _ hs
  rw [Bool.and_eq_true] at h
  have g := h.1
  unfold rootOk at g
  rw [Bool.and_eq_true, decide_eq_true_eq, decide_eq_true_eq] at g
  exact g
theorem room_add (hs : (dims, bits) ∈ spaces) {lo hi : List Nat} (hl : lo.length = dims) (hh : hi.length = dims) : Add (dims * bits) (roomN dims bits lo hi) := fun p hp hv => by
  have c := cell_ok hs (Nat.le_of_lt hp) hv
  obtain ⟨i, m, hi', e1, e2, e3, e4, l1, l2⟩ := c.half hp
  show roomL lo hi (lowOf dims bits p) (highOf dims bits p) = roomL lo hi (lowOf dims bits (ch0 p)) (highOf dims bits (ch0 p)) + roomL lo hi (lowOf dims bits (ch1 p)) (highOf dims bits (ch1 p))
  rw [e1, e2, e3, e4]
  exact roomL_split lo hi _ _ i m (by rw [c.la]; exact hi') (by rw [c.lb]; exact hi') (by rw [hl]; exact hi') (by rw [hh]; exact hi') l1 l2
theorem room_le (hs : (dims, bits) ∈ spaces) {lo hi : List Nat} (hl : lo.length = dims) (hh : hi.length = dims) {p : Pre} (hp : p.1 ≤ dims * bits) (hv : ins p (0, 0)) : roomN dims bits lo hi p ≤ sz (dims * bits) p := by
  have c := cell_ok hs hp hv
  rw [← c.vol]
  exact roomL_le lo hi _ _ (by rw [hl, c.la]) (by rw [hh, c.lb])
theorem getD_rep (n k i : Nat) : (List.replicate n k).getD i 0 = if i < n then k else 0 := by
  rw [List.getD_eq_getElem?_getD, List.getElem?_replicate]
  split <;> rfl
/-- the room of a cell's box is the cell's measure -/
theorem room_cell (hs : (dims, bits) ∈ spaces) {q : Pre} (hq : q.1 ≤ dims * bits) (hqv : ins q (0, 0)) {p : Pre} (hp : p.1 ≤ dims * bits) (hv : ins p (0, 0)) :
    roomN dims bits (lowOf dims bits q) (highOf dims bits q) p = mu (dims * bits) q p := by
  have c := cell_ok hs hq hqv
  refine mu_unique (D := dims * bits) (q := q) (roomN dims bits (lowOf dims bits q) (highOf dims bits q)) hq hqv (room_add hs c.la c.lb) (fun p hp hv => room_le hs c.la c.lb hp hv) ?_ c.vol p hp hv
  obtain ⟨r1, r2⟩ := root_low hs
  show roomL (lowOf dims bits q) (highOf dims bits q) (lowOf dims bits (0, 0)) (highOf dims bits (0, 0)) = sz (dims * bits) q
  rw [r1, r2, ← c.vol]
  refine roomL_in _ _ _ _ (by rw [c.la, List.length_replicate]) (by rw [c.lb, List.length_replicate]) (fun i => ?_) (fun i hi => ?_)
  · rw [getD_rep]; split <;> exact Nat.zero_le _
  · have hi' : i < dims := by rw [c.lb] at hi; exact hi
    rw [getD_rep, if_pos hi']
    have := c.lt i hi'
    omega
end

/-! ### a cloud's row, its counts -/
def below (row : List Nat) (x : Nat) : Nat := (row.filter fun y => decide (y < x)).length
def cntN (D : Nat) (row : List Nat) (p : Pre) : Nat := below row (p.2 * sz D p + sz D p) - below row (p.2 * sz D p)
theorem below_mono (row : List Nat) {x y : Nat} (h : x ≤ y) : below row x ≤ below row y := by
  unfold below
  induction row with
  | nil => simp
  | cons z zs ih =>
    simp only [List.filter_cons]
    by_cases c : z < x
    · rw [if_pos (decide_eq_true c), if_pos (decide_eq_true (Nat.lt_of_lt_of_le c h)), List.length_cons, List.length_cons]
      exact Nat.succ_le_succ ih
    · rw [if_neg (by rw [decide_eq_false c]; exact Bool.false_ne_true)]
      split
      · rw [List.length_cons]; exact Nat.le_succ_of_le ih
      · exact ih
theorem cnt_add (D : Nat) (row : List Nat) : Add D (cntN D row) := fun p hp _ => by
  obtain ⟨s1, s2⟩ := sz_half hp
  unfold cntN
  rw [s2]
  show _ = below row (2 * p.2 * sz D (ch0 p) + sz D (ch0 p)) - below row (2 * p.2 * sz D (ch0 p)) + (below row ((2 * p.2 + 1) * sz D (ch0 p) + sz D (ch0 p)) - below row ((2 * p.2 + 1) * sz D (ch0 p)))
  rw [s1]
  generalize sz D (ch0 p) = s
  have e1 : p.2 * (2 * s) = 2 * p.2 * s := by rw [← Nat.mul_assoc, Nat.mul_comm p.2 2]
  have e2 : (2 * p.2 + 1) * s = 2 * p.2 * s + s := by rw [Nat.add_mul, Nat.one_mul]
  rw [e1, e2]
  have m1 := below_mono row (x := 2 * p.2 * s) (y := 2 * p.2 * s + s) (Nat.le_add_right _ _)
  have m2 := below_mono row (x := 2 * p.2 * s + s) (y := 2 * p.2 * s + s + s) (Nat.le_add_right _ _)
  rw [show 2 * p.2 * s + 2 * s = 2 * p.2 * s + s + s by omega]
  omega
theorem below_step (row : List Nat) (hs : row.Pairwise (· < ·)) (x : Nat) : below row (x + 1) ≤ below row x + 1 := by
  unfold below
  induction row with
  | nil => simp
  | cons z zs ih =>
    obtain ⟨h1, h2⟩ := List.pairwise_cons.mp hs
    have i := ih h2
    by_cases c : z < x
    · have c2 : z < x + 1 := Nat.lt_succ_of_lt c
      simp only [List.filter_cons, decide_eq_true c, decide_eq_true c2, if_true, List.length_cons]
      omega
    · by_cases c2 : z < x + 1
      · have none1 : (zs.filter fun y => decide (y < x + 1)) = [] := List.filter_eq_nil_iff.mpr fun y hy => by
          have := h1 y hy
          rw [decide_eq_true_eq]; omega
        simp only [List.filter_cons, decide_eq_false c, decide_eq_true c2, if_true, List.length_cons, none1, Bool.false_eq_true, if_false, List.length_nil]
        omega
      · simp only [List.filter_cons, decide_eq_false c, decide_eq_false c2, Bool.false_eq_true, if_false]
        exact i
theorem below_gap (row : List Nat) (hs : row.Pairwise (· < ·)) (x : Nat) : ∀ n, below row (x + n) ≤ below row x + n
  | 0 => Nat.le_refl _
  | n + 1 => by
    have i := below_gap row hs x n
    have j := below_step row hs (x + n)
    rw [← Nat.add_assoc]
    omega
theorem cnt_le {row : List Nat} (hs : row.Pairwise (· < ·)) (D : Nat) (p : Pre) : cntN D row p ≤ sz D p := by
  unfold cntN
  have := below_gap row hs (p.2 * sz D p) (sz D p)
  omega
end FC
namespace FC
def wRow (half : Nat) (pt : List Nat) (f : Nat) : Nat := pt.foldl (fun f x => f * 2 + x / half % 2) f
def wFrom (pt : List Nat) (s : Nat × Nat) (n : Nat) : Nat × Nat := (List.range n).foldl (fun s _ => (wRow s.2 pt s.1, s.2 / 2)) s
def wovenN (bits : Nat) (pt : List Nat) : Nat := (wFrom pt (0, 2 ^ bits / 2) bits).1
def longer (side : Nat) (found : List (List Nat)) : List (List Nat) := found.flatMap fun row => (List.range side).map fun pl => row ++ [pl]
def allPts (side : Nat) : Nat → List (List Nat)
  | 0 => [[]]
  | d + 1 => longer side (allPts side d)
def ptsOk (dims bits : Nat) : Bool := decide (((allPts (2 ^ bits) dims).map (wovenN bits)).Nodup) && (allPts (2 ^ bits) dims).all fun pt => decide (wovenN bits pt < 2 ^ (dims * bits)) && (decide (pt.length = dims) && pt.all fun x => decide (x < 2 ^ bits))
theorem pts_ok : (spaces.all fun s => ptsOk s.1 s.2) = true := by decide +kernel
theorem woven_nd {dims bits : Nat} (hs : (dims, bits) ∈ spaces) : ((allPts (2 ^ bits) dims).map (wovenN bits)).Nodup := by
  have h := List.all_eq_true.mp pts_ok _ hs
  unfold ptsOk at h
  rw [Bool.and_eq_true] at h
  exact of_decide_eq_true h.1
theorem woven_lt {dims bits : Nat} (hs : (dims, bits) ∈ spaces) {pt : List Nat} (hp : pt ∈ allPts (2 ^ bits) dims) : wovenN bits pt < 2 ^ (dims * bits) ∧ pt.length = dims ∧ ∀ x ∈ pt, x < 2 ^ bits := by
  have h := List.all_eq_true.mp pts_ok _ hs
  unfold ptsOk at h
  rw [Bool.and_eq_true] at h
  have g := List.all_eq_true.mp h.2 pt hp
  rw [Bool.and_eq_true, Bool.and_eq_true, decide_eq_true_eq, decide_eq_true_eq] at g
  exact ⟨g.1, g.2.1, fun x hx => of_decide_eq_true (List.all_eq_true.mp g.2.2 x hx)⟩
end FC
namespace FC
namespace Env
/-- no row is longer than the prefixes within -/
def Lb (e : Env) (p : Pre) (r : Option Row) (m : Nat) : Prop := ∀ a, r = some a → a.2.length + m ≤ 2 ^ (e.D - p.1 + 1)
variable {e : Env}
theorem lb_both {w0 w1 : Word} {p : Pre} (h : p.1 < e.D) (h0 : ∀ w, e.Lb (ch0 p) (e.way w (ch0 p)) 1) (h1 : ∀ w, e.Lb (ch1 p) (e.way w (ch1 p)) 1) : e.Lb p (both e.way w0 w1 p) 2 := by
  intro a ha
  unfold both at ha
  cases q0 : e.way w0 (ch0 p) with
  | none => rw [q0] at ha; simp at ha
  | some x =>
    cases q1 : e.way w1 (ch1 p) with
    | none => rw [q0, q1] at ha; simp at ha
    | some y =>
      rw [q0, q1] at ha
      have ha : (x.1 + y.1, x.2 ++ y.2) = a := Option.some.inj ha
      have l0 := h0 w0 x q0
      have l1 := h1 w1 y q1
      have e0 : e.D - p.1 + 1 = (e.D - (ch0 p).1 + 1) + 1 := by show e.D - p.1 + 1 = e.D - (p.1 + 1) + 1 + 1; omega
      have e1 : e.D - (ch1 p).1 = e.D - (ch0 p).1 := rfl
      rw [e1] at l1
      rw [← ha, e0, Nat.pow_succ]
      show (x.2 ++ y.2).length + 2 ≤ _
      rw [List.length_append]
      omega
theorem lb_within (ok : e.Fit) {p : Pre} (h0 : p.1 < e.D → ∀ w, e.Lb (ch0 p) (e.way w (ch0 p)) 1) (h1 : p.1 < e.D → ∀ w, e.Lb (ch1 p) (e.way w (ch1 p)) 1) : e.Lb p (e.within e.way p) 2 := by
  intro a ha
  have p2 : 2 ≤ 2 ^ (e.D - p.1 + 1) := by
    have : 2 ^ 1 ≤ 2 ^ (e.D - p.1 + 1) := Nat.pow_le_pow_right (by decide) (by omega)
    exact this
  unfold within at ha
  split at ha
  · have ha : (0, []) = a := Option.some.inj ha
    rw [← ha]; exact p2
  · rename_i c
    have hd : p.1 < e.D := by
      have : ¬ e.fin ≤ p.1 := fun z => c (by rw [decide_eq_true z]; rfl)
      have := ok.hfin
      omega
    have m := least_mem ha
    simp only [List.mem_cons, List.not_mem_nil, or_false] at m
    rcases m with m | m | m | m | m <;> exact lb_both hd (h0 hd) (h1 hd) a m.symm
theorem lb_told (ok : e.Fit) {p : Pre} (h0 : p.1 < e.D → ∀ w, e.Lb (ch0 p) (e.way w (ch0 p)) 1) (h1 : p.1 < e.D → ∀ w, e.Lb (ch1 p) (e.way w (ch1 p)) 1) : e.Lb p (e.told e.way p) 1 := by
  intro a ha
  unfold told at ha
  obtain ⟨r, hr, rfl⟩ := Option.map_eq_some_iff.mp ha
  have := lb_within ok h0 h1 r hr
  split
  · omega
  · show (p :: r.2).length + 1 ≤ _
    rw [List.length_cons]; omega
theorem lb_way (ok : e.Fit) : ∀ p, p.1 ≤ e.D → ins p (0, 0) → ∀ w, e.Lb p (e.way w p) 1 := tree_ind e.D fun p hp hv ih w => by
  have h0 : p.1 < e.D → ∀ w, e.Lb (ch0 p) (e.way w (ch0 p)) 1 := fun h => (ih h).1
  have h1 : p.1 < e.D → ∀ w, e.Lb (ch1 p) (e.way w (ch1 p)) 1 := fun h => (ih h).2
  intro a ha
  rw [way_eq ok hp hv] at ha
  unfold wayOf at ha
  have p2 : 2 ≤ 2 ^ (e.D - p.1 + 1) := by
    have : 2 ^ 1 ≤ 2 ^ (e.D - p.1 + 1) := Nat.pow_le_pow_right (by decide) (by omega)
    exact this
  have bd : ∀ {w0 w1}, p.1 < e.D → some a = both e.way w0 w1 p → a.2.length + 1 ≤ 2 ^ (e.D - p.1 + 1) := fun hd m => by
    have := lb_both hd (h0 hd) (h1 hd) a m.symm
    omega
  split at ha
  · have ha : (0, []) = a := Option.some.inj ha
    rw [← ha]; show 0 + 1 ≤ _; omega
  · split at ha
    · unfold cellWay at ha
      have m := least_mem ha
      rcases List.mem_append.mp m with m | m
      · split at m
        · exact lb_told ok h0 h1 a (List.mem_singleton.mp m).symm
        · cases m
      · split at m
        · rename_i c
          obtain ⟨r, hr, hi, hne⟩ := (ok.hhold p hp hv).mp c
          have hd : p.1 < e.D := Nat.lt_of_lt_of_le (ins_lt hi hne) (ok.hF0 r hr).1
          exact bd hd (List.mem_singleton.mp m)
        · cases m
    · rename_i c
      have hd : p.1 < e.D := by have := ok.hfin; omega
      split at ha
      · have m := least_mem ha
        simp only [List.mem_cons, List.not_mem_nil, or_false] at m
        rcases m with m | m <;> exact bd hd m
      · have m := least_mem ha
        simp only [List.mem_cons, List.not_mem_nil, or_false] at m
        rcases m with m | m
        · exact lb_told ok h0 h1 a m.symm
        · exact bd hd m
end Env
end FC
namespace FW
open PySem L2 FC
abbrev top (i : Nat) : Stmt := PySem.Challenge.pw_finecloud_k06_whole_told.main.body.getD i (.Pass ⟨0, 0, 0, 0⟩)
abbrev s_halves_of : Stmt := top 2
abbrev N_halves_of : List Str := ["prefix"]
theorem sc_halves_of : FnScope N_halves_of ["prefix"] (defScope s_halves_of) := ⟨rfl, rfl, rfl, by decide +kernel, rfl, by decide +kernel, by decide +kernel⟩
abbrev s_is_whole : Stmt := top 9
abbrev N_is_whole : List Str := ["thing", "low", "high"]
theorem sc_is_whole : FnScope N_is_whole ["thing", "low", "high"] (defScope s_is_whole) := ⟨rfl, rfl, rfl, by decide +kernel, rfl, by decide +kernel, by decide +kernel⟩
abbrev s_power : Stmt := top 10
abbrev N_power : List Str := ["times", "found", "turn"]
theorem sc_power : FnScope N_power ["times"] (defScope s_power) := ⟨rfl, rfl, rfl, by decide +kernel, rfl, by decide +kernel, by decide +kernel⟩
abbrev s_Telling_init : Stmt := inClass (top 12) 0
abbrev N_Telling_init : List Str := ["self", "cloud", "knowledge", "box", "fineness", "length", "number"]
theorem sc_Telling_init : FnScope N_Telling_init ["self", "cloud", "knowledge", "box", "fineness"] (defScope s_Telling_init) := ⟨rfl, rfl, rfl, by decide +kernel, rfl, by decide +kernel, by decide +kernel⟩
abbrev s_Telling_is_cell : Stmt := inClass (top 12) 1
abbrev N_Telling_is_cell : List Str := ["self", "prefix"]
theorem sc_Telling_is_cell : FnScope N_Telling_is_cell ["self", "prefix"] (defScope s_Telling_is_cell) := ⟨rfl, rfl, rfl, by decide +kernel, rfl, by decide +kernel, by decide +kernel⟩
abbrev s_Telling_is_needed : Stmt := inClass (top 12) 2
abbrev N_Telling_is_needed : List Str := ["self", "prefix"]
theorem sc_Telling_is_needed : FnScope N_Telling_is_needed ["self", "prefix"] (defScope s_Telling_is_needed) := ⟨rfl, rfl, rfl, by decide +kernel, rfl, by decide +kernel, by decide +kernel⟩
abbrev s_Telling_told : Stmt := inClass (top 12) 3
abbrev N_Telling_told : List Str := ["self", "prefix", "many", "rows"]
theorem sc_Telling_told : FnScope N_Telling_told ["self", "prefix"] (defScope s_Telling_told) := ⟨rfl, rfl, rfl, by decide +kernel, rfl, by decide +kernel, by decide +kernel⟩
abbrev s_Telling_both : Stmt := inClass (top 12) 4
abbrev N_Telling_both : List Str := ["self", "words", "prefix", "one", "other", "first", "second"]
theorem sc_Telling_both : FnScope N_Telling_both ["self", "words", "prefix"] (defScope s_Telling_both) := ⟨rfl, rfl, rfl, by decide +kernel, rfl, by decide +kernel, by decide +kernel⟩
abbrev s_Telling_least : Stmt := inClass (top 12) 5
abbrev N_Telling_least : List Str := ["self", "rows", "some", "row"]
theorem sc_Telling_least : FnScope N_Telling_least ["self", "rows"] (defScope s_Telling_least) := ⟨rfl, rfl, rfl, by decide +kernel, rfl, by decide +kernel, by decide +kernel⟩
abbrev s_Telling_within : Stmt := inClass (top 12) 6
abbrev N_Telling_within : List Str := ["self", "prefix", "count", "ways", "words"]
theorem sc_Telling_within : FnScope N_Telling_within ["self", "prefix"] (defScope s_Telling_within) := ⟨rfl, rfl, rfl, by decide +kernel, rfl, by decide +kernel, by decide +kernel⟩
abbrev s_Telling_ends : Stmt := inClass (top 12) 7
abbrev N_Telling_ends : List Str := ["self", "word", "prefix", "count"]
theorem sc_Telling_ends : FnScope N_Telling_ends ["self", "word", "prefix"] (defScope s_Telling_ends) := ⟨rfl, rfl, rfl, by decide +kernel, rfl, by decide +kernel, by decide +kernel⟩
abbrev s_Telling_way : Stmt := inClass (top 12) 8
abbrev N_Telling_way : List Str := ["self", "word", "prefix"]
theorem sc_Telling_way : FnScope N_Telling_way ["self", "word", "prefix"] (defScope s_Telling_way) := ⟨rfl, rfl, rfl, by decide +kernel, rfl, by decide +kernel, by decide +kernel⟩
abbrev s_Telling_way_of : Stmt := inClass (top 12) 9
abbrev N_Telling_way_of : List Str := ["self", "word", "prefix"]
theorem sc_Telling_way_of : FnScope N_Telling_way_of ["self", "word", "prefix"] (defScope s_Telling_way_of) := ⟨rfl, rfl, rfl, by decide +kernel, rfl, by decide +kernel, by decide +kernel⟩
abbrev s_Telling_cell_way : Stmt := inClass (top 12) 10
abbrev N_Telling_cell_way : List Str := ["self", "word", "prefix", "rows"]
theorem sc_Telling_cell_way : FnScope N_Telling_cell_way ["self", "word", "prefix"] (defScope s_Telling_cell_way) := ⟨rfl, rfl, rfl, by decide +kernel, rfl, by decide +kernel, by decide +kernel⟩
abbrev s_fewest_facts : Stmt := top 13
abbrev N_fewest_facts : List Str := ["cloud", "knowledge", "box", "fineness", "told", "rows"]
theorem sc_fewest_facts : FnScope N_fewest_facts ["cloud", "knowledge", "box", "fineness"] (defScope s_fewest_facts) := ⟨rfl, rfl, rfl, by decide +kernel, rfl, by decide +kernel, by decide +kernel⟩
abbrev s_is_enough : Stmt := top 14
abbrev N_is_enough : List Str := ["knowledge", "box", "fineness", "waiting", "prefix"]
theorem sc_is_enough : FnScope N_is_enough ["knowledge", "box", "fineness"] (defScope s_is_enough) := ⟨rfl, rfl, rfl, by decide +kernel, rfl, by decide +kernel, by decide +kernel⟩
abbrev s_place_in : Stmt := top 16
abbrev N_place_in : List Str := ["row", "number", "low", "high", "middle"]
theorem sc_place_in : FnScope N_place_in ["row", "number"] (defScope s_place_in) := ⟨rfl, rfl, rfl, by decide +kernel, rfl, by decide +kernel, by decide +kernel⟩
abbrev s_Cloud_init : Stmt := inClass (top 17) 0
abbrev N_Cloud_init : List Str := ["self", "space", "points", "known", "point", "number"]
theorem sc_Cloud_init : FnScope N_Cloud_init ["self", "space", "points"] (defScope s_Cloud_init) := ⟨rfl, rfl, rfl, by decide +kernel, rfl, by decide +kernel, by decide +kernel⟩
abbrev s_Cloud_count : Stmt := inClass (top 17) 5
abbrev N_Cloud_count : List Str := ["self", "prefix", "size"]
theorem sc_Cloud_count : FnScope N_Cloud_count ["self", "prefix"] (defScope s_Cloud_count) := ⟨rfl, rfl, rfl, by decide +kernel, rfl, by decide +kernel, by decide +kernel⟩
abbrev s_Space_init : Stmt := inClass (top 21) 0
abbrev N_Space_init : List Str := ["self", "dimensions", "bits"]
theorem sc_Space_init : FnScope N_Space_init ["self", "dimensions", "bits"] (defScope s_Space_init) := ⟨rfl, rfl, rfl, by decide +kernel, rfl, by decide +kernel, by decide +kernel⟩
abbrev s_Space_is_point : Stmt := inClass (top 21) 2
abbrev N_Space_is_point : List Str := ["self", "thing", "number"]
theorem sc_Space_is_point : FnScope N_Space_is_point ["self", "thing"] (defScope s_Space_is_point) := ⟨rfl, rfl, rfl, by decide +kernel, rfl, by decide +kernel, by decide +kernel⟩
abbrev s_Space_check_point : Stmt := inClass (top 21) 3
abbrev N_Space_check_point : List Str := ["self", "thing"]
theorem sc_Space_check_point : FnScope N_Space_check_point ["self", "thing"] (defScope s_Space_check_point) := ⟨rfl, rfl, rfl, by decide +kernel, rfl, by decide +kernel, by decide +kernel⟩
abbrev s_Space_woven : Stmt := inClass (top 21) 4
abbrev N_Space_woven : List Str := ["self", "point", "found", "half", "turn", "number"]
theorem sc_Space_woven : FnScope N_Space_woven ["self", "point"] (defScope s_Space_woven) := ⟨rfl, rfl, rfl, by decide +kernel, rfl, by decide +kernel, by decide +kernel⟩
abbrev s_Space_point_of : Stmt := inClass (top 21) 5
abbrev N_Space_point_of : List Str := ["self", "number", "found", "room", "turn", "axis"]
theorem sc_Space_point_of : FnScope N_Space_point_of ["self", "number"] (defScope s_Space_point_of) := ⟨rfl, rfl, rfl, by decide +kernel, rfl, by decide +kernel, by decide +kernel⟩
abbrev s_Space_size : Stmt := inClass (top 21) 6
abbrev N_Space_size : List Str := ["self", "prefix"]
theorem sc_Space_size : FnScope N_Space_size ["self", "prefix"] (defScope s_Space_size) := ⟨rfl, rfl, rfl, by decide +kernel, rfl, by decide +kernel, by decide +kernel⟩
abbrev s_Space_is_prefix : Stmt := inClass (top 21) 7
abbrev N_Space_is_prefix : List Str := ["self", "thing"]
theorem sc_Space_is_prefix : FnScope N_Space_is_prefix ["self", "thing"] (defScope s_Space_is_prefix) := ⟨rfl, rfl, rfl, by decide +kernel, rfl, by decide +kernel, by decide +kernel⟩
abbrev s_Space_cell : Stmt := inClass (top 21) 8
abbrev N_Space_cell : List Str := ["self", "prefix", "first"]
theorem sc_Space_cell : FnScope N_Space_cell ["self", "prefix"] (defScope s_Space_cell) := ⟨rfl, rfl, rfl, by decide +kernel, rfl, by decide +kernel, by decide +kernel⟩
abbrev s_Box_init : Stmt := inClass (top 22) 0
abbrev N_Box_init : List Str := ["self", "space", "lows", "highs", "point", "low", "high"]
theorem sc_Box_init : FnScope N_Box_init ["self", "space", "lows", "highs"] (defScope s_Box_init) := ⟨rfl, rfl, rfl, by decide +kernel, rfl, by decide +kernel, by decide +kernel⟩
abbrev s_Box_room : Stmt := inClass (top 22) 2
abbrev N_Box_room : List Str := ["self", "prefix", "lows", "highs", "found", "low", "high", "first", "last"]
theorem sc_Box_room : FnScope N_Box_room ["self", "prefix"] (defScope s_Box_room) := ⟨rfl, rfl, rfl, by decide +kernel, rfl, by decide +kernel, by decide +kernel⟩
abbrev s_is_inside : Stmt := top 23
abbrev N_is_inside : List Str := ["prefix", "other"]
theorem sc_is_inside : FnScope N_is_inside ["prefix", "other"] (defScope s_is_inside) := ⟨rfl, rfl, rfl, by decide +kernel, rfl, by decide +kernel, by decide +kernel⟩
abbrev s_Rest_init : Stmt := inClass (top 25) 0
abbrev N_Rest_init : List Str := ["self", "prefix", "count", "inner"]
theorem sc_Rest_init : FnScope N_Rest_init ["self", "prefix", "count", "inner"] (defScope s_Rest_init) := ⟨rfl, rfl, rfl, by decide +kernel, rfl, by decide +kernel, by decide +kernel⟩
abbrev s_Knowledge_init : Stmt := inClass (top 26) 0
abbrev N_Knowledge_init : List Str := ["self", "space", "facts", "prefix", "count", "rest"]
theorem sc_Knowledge_init : FnScope N_Knowledge_init ["self", "space", "facts"] (defScope s_Knowledge_init) := ⟨rfl, rfl, rfl, by decide +kernel, rfl, by decide +kernel, by decide +kernel⟩
abbrev s_Knowledge_is_fit : Stmt := inClass (top 26) 2
abbrev N_Knowledge_is_fit : List Str := ["self", "rest"]
theorem sc_Knowledge_is_fit : FnScope N_Knowledge_is_fit ["self", "rest"] (defScope s_Knowledge_is_fit) := ⟨rfl, rfl, rfl, by decide +kernel, rfl, by decide +kernel, by decide +kernel⟩
abbrev s_Knowledge_rests : Stmt := inClass (top 26) 3
abbrev N_Knowledge_rests : List Str := ["self", "order", "found", "prefix"]
theorem sc_Knowledge_rests : FnScope N_Knowledge_rests ["self"] (defScope s_Knowledge_rests) := ⟨rfl, rfl, rfl, by decide +kernel, rfl, by decide +kernel, by decide +kernel⟩
abbrev s_Knowledge_next_inside : Stmt := inClass (top 26) 4
abbrev N_Knowledge_next_inside : List Str := ["self", "prefix", "order", "found", "one", "other"]
theorem sc_Knowledge_next_inside : FnScope N_Knowledge_next_inside ["self", "prefix", "order"] (defScope s_Knowledge_next_inside) := ⟨rfl, rfl, rfl, by decide +kernel, rfl, by decide +kernel, by decide +kernel⟩
abbrev s_Knowledge_points_left : Stmt := inClass (top 26) 5
abbrev N_Knowledge_points_left : List Str := ["self", "rest", "one"]
theorem sc_Knowledge_points_left : FnScope N_Knowledge_points_left ["self", "rest"] (defScope s_Knowledge_points_left) := ⟨rfl, rfl, rfl, by decide +kernel, rfl, by decide +kernel, by decide +kernel⟩
abbrev s_Knowledge_room : Stmt := inClass (top 26) 6
abbrev N_Knowledge_room : List Str := ["self", "rest", "one"]
theorem sc_Knowledge_room : FnScope N_Knowledge_room ["self", "rest"] (defScope s_Knowledge_room) := ⟨rfl, rfl, rfl, by decide +kernel, rfl, by decide +kernel, by decide +kernel⟩
abbrev s_Knowledge_room_in : Stmt := inClass (top 26) 7
abbrev N_Knowledge_room_in : List Str := ["self", "rest", "region", "one"]
theorem sc_Knowledge_room_in : FnScope N_Knowledge_room_in ["self", "rest", "region"] (defScope s_Knowledge_room_in) := ⟨rfl, rfl, rfl, by decide +kernel, rfl, by decide +kernel, by decide +kernel⟩
abbrev s_Knowledge_bounds : Stmt := inClass (top 26) 9
abbrev N_Knowledge_bounds : List Str := ["self", "region", "least", "greatest", "rest", "inside", "left"]
theorem sc_Knowledge_bounds : FnScope N_Knowledge_bounds ["self", "region"] (defScope s_Knowledge_bounds) := ⟨rfl, rfl, rfl, by decide +kernel, rfl, by decide +kernel, by decide +kernel⟩
abbrev s_Knowledge_known : Stmt := inClass (top 26) 10
abbrev N_Knowledge_known : List Str := ["self", "prefix", "lows", "highs", "least", "greatest"]
theorem sc_Knowledge_known : FnScope N_Knowledge_known ["self", "prefix"] (defScope s_Knowledge_known) := ⟨rfl, rfl, rfl, by decide +kernel, rfl, by decide +kernel, by decide +kernel⟩
abbrev s_l_number : Stmt := top 28
abbrev N_l_number : List Str := ["_law_script", "_law_index", "_law_cell", "_law_blend"]
theorem sc_l_number : FnScope N_l_number ["_law_script", "_law_index"] (defScope s_l_number) := ⟨rfl, rfl, rfl, by decide +kernel, rfl, by decide +kernel, by decide +kernel⟩
abbrev s_l_take : Stmt := top 29
abbrev N_l_take : List Str := ["_law_draw", "_law_many"]
theorem sc_l_take : FnScope N_l_take ["_law_draw", "_law_many"] (defScope s_l_take) := ⟨rfl, rfl, rfl, by decide +kernel, rfl, by decide +kernel, by decide +kernel⟩
abbrev s_l_pick : Stmt := top 30
abbrev N_l_pick : List Str := ["_law_draw", "_law_items"]
theorem sc_l_pick : FnScope N_l_pick ["_law_draw", "_law_items"] (defScope s_l_pick) := ⟨rfl, rfl, rfl, by decide +kernel, rfl, by decide +kernel, by decide +kernel⟩
abbrev s_l_space : Stmt := top 31
abbrev N_l_space : List Str := ["_law_draw", "_law_dimensions", "_law_bits"]
theorem sc_l_space : FnScope N_l_space ["_law_draw"] (defScope s_l_space) := ⟨rfl, rfl, rfl, by decide +kernel, rfl, by decide +kernel, by decide +kernel⟩
abbrev s_l_all : Stmt := top 32
abbrev N_l_all : List Str := ["_law_space_here", "_law_found", "_law_axis", "_law_longer", "_law_row", "_law_place"]
theorem sc_l_all : FnScope N_l_all ["_law_space_here"] (defScope s_l_all) := ⟨rfl, rfl, rfl, by decide +kernel, rfl, by decide +kernel, by decide +kernel⟩
abbrev s_l_points : Stmt := top 33
abbrev N_l_points : List Str := ["_law_draw", "_law_space_here", "_law_rate", "_law_point_here"]
theorem sc_l_points : FnScope N_l_points ["_law_draw", "_law_space_here"] (defScope s_l_points) := ⟨rfl, rfl, rfl, by decide +kernel, rfl, by decide +kernel, by decide +kernel⟩
abbrev s_l_point : Stmt := top 34
abbrev N_l_point : List Str := ["_law_draw", "_law_space_here", "_law_axis"]
theorem sc_l_point : FnScope N_l_point ["_law_draw", "_law_space_here"] (defScope s_l_point) := ⟨rfl, rfl, rfl, by decide +kernel, rfl, by decide +kernel, by decide +kernel⟩
abbrev s_l_box : Stmt := top 35
abbrev N_l_box : List Str := ["_law_draw", "_law_space_here", "_law_one", "_law_other", "_law_lows", "_law_first", "_law_second"]
theorem sc_l_box : FnScope N_l_box ["_law_draw", "_law_space_here"] (defScope s_l_box) := ⟨rfl, rfl, rfl, by decide +kernel, rfl, by decide +kernel, by decide +kernel⟩
abbrev s_l_prefixes : Stmt := top 36
abbrev N_l_prefixes : List Str := ["_law_space_here", "_law_found", "_law_length", "_law_number_here"]
theorem sc_l_prefixes : FnScope N_l_prefixes ["_law_space_here"] (defScope s_l_prefixes) := ⟨rfl, rfl, rfl, by decide +kernel, rfl, by decide +kernel, by decide +kernel⟩
abbrev s_law : Stmt := top 37
abbrev N_law : List Str := ["_law_script", "_law_draw", "_law_space_here", "_law_cloud", "_law_facts", "_law_prefix", "_law_knowledge", "_law_box_here", "_law_fineness", "_law_found", "_law_told", "_law_fewer"]
theorem sc_law : FnScope N_law ["_law_script"] (defScope s_law) := ⟨rfl, rfl, rfl, by decide +kernel, rfl, by decide +kernel, by decide +kernel⟩
/-- what the top has left: where each def and class stands -/
structure Txt (K : PySem.W.Frag) (mg : Str → Option Value) where
  C_Space : Addr
  cl_Space : Cls K C_Space
  mg_Space : mg "Space" = some (.ref C_Space)
  na_Space_dimensions : NoAttr K C_Space "dimensions"
  na_Space_bits : NoAttr K C_Space "bits"
  na_Space_depth : NoAttr K C_Space "depth"
  na_Space_side : NoAttr K C_Space "side"
  C_Box : Addr
  cl_Box : Cls K C_Box
  mg_Box : mg "Box" = some (.ref C_Box)
  na_Box_space : NoAttr K C_Box "space"
  na_Box_lows : NoAttr K C_Box "lows"
  na_Box_highs : NoAttr K C_Box "highs"
  C_Cloud : Addr
  cl_Cloud : Cls K C_Cloud
  mg_Cloud : mg "Cloud" = some (.ref C_Cloud)
  na_Cloud_space : NoAttr K C_Cloud "space"
  na_Cloud_row : NoAttr K C_Cloud "row"
  C_Rest : Addr
  cl_Rest : Cls K C_Rest
  mg_Rest : mg "Rest" = some (.ref C_Rest)
  na_Rest_prefix : NoAttr K C_Rest "prefix"
  na_Rest_count : NoAttr K C_Rest "count"
  na_Rest_inner : NoAttr K C_Rest "inner"
  C_Knowledge : Addr
  cl_Knowledge : Cls K C_Knowledge
  mg_Knowledge : mg "Knowledge" = some (.ref C_Knowledge)
  na_Knowledge_space : NoAttr K C_Knowledge "space"
  na_Knowledge_facts : NoAttr K C_Knowledge "facts"
  C_Telling : Addr
  cl_Telling : Cls K C_Telling
  mg_Telling : mg "Telling" = some (.ref C_Telling)
  na_Telling_cloud : NoAttr K C_Telling "cloud"
  na_Telling_space : NoAttr K C_Telling "space"
  na_Telling_facts : NoAttr K C_Telling "facts"
  na_Telling_box : NoAttr K C_Telling "box"
  na_Telling_fineness : NoAttr K C_Telling "fineness"
  na_Telling_known : NoAttr K C_Telling "known"
  na_Telling_holders : NoAttr K C_Telling "holders"
  f_halves_of : Addr
  d_halves_of : FuncData
  F_halves_of : Fun K "halves_of" "halves_of" s_halves_of f_halves_of d_halves_of
  b_halves_of : Binds K d_halves_of ["prefix"] []
  mg_halves_of : mg "halves_of" = some (.ref f_halves_of)
  f_is_whole : Addr
  d_is_whole : FuncData
  F_is_whole : Fun K "is_whole" "is_whole" s_is_whole f_is_whole d_is_whole
  b_is_whole : Binds K d_is_whole ["thing", "low", "high"] []
  mg_is_whole : mg "is_whole" = some (.ref f_is_whole)
  f_power : Addr
  d_power : FuncData
  F_power : Fun K "power" "power" s_power f_power d_power
  b_power : Binds K d_power ["times"] []
  mg_power : mg "power" = some (.ref f_power)
  f_Telling_init : Addr
  d_Telling_init : FuncData
  F_Telling_init : Fun K "__init__" "Telling.__init__" s_Telling_init f_Telling_init d_Telling_init
  b_Telling_init : Binds K d_Telling_init ["self", "cloud", "knowledge", "box", "fineness"] []
  mk_Telling : Mk K C_Telling f_Telling_init
  f_Telling_is_cell : Addr
  d_Telling_is_cell : FuncData
  F_Telling_is_cell : Fun K "is_cell" "Telling.is_cell" s_Telling_is_cell f_Telling_is_cell d_Telling_is_cell
  b_Telling_is_cell : Binds K d_Telling_is_cell ["self", "prefix"] []
  M_Telling_is_cell : Meth K C_Telling "is_cell" f_Telling_is_cell
  f_Telling_is_needed : Addr
  d_Telling_is_needed : FuncData
  F_Telling_is_needed : Fun K "is_needed" "Telling.is_needed" s_Telling_is_needed f_Telling_is_needed d_Telling_is_needed
  b_Telling_is_needed : Binds K d_Telling_is_needed ["self", "prefix"] []
  M_Telling_is_needed : Meth K C_Telling "is_needed" f_Telling_is_needed
  f_Telling_told : Addr
  d_Telling_told : FuncData
  F_Telling_told : Fun K "told" "Telling.told" s_Telling_told f_Telling_told d_Telling_told
  b_Telling_told : Binds K d_Telling_told ["self", "prefix"] []
  M_Telling_told : Meth K C_Telling "told" f_Telling_told
  f_Telling_both : Addr
  d_Telling_both : FuncData
  F_Telling_both : Fun K "both" "Telling.both" s_Telling_both f_Telling_both d_Telling_both
  b_Telling_both : Binds K d_Telling_both ["self", "words", "prefix"] []
  M_Telling_both : Meth K C_Telling "both" f_Telling_both
  f_Telling_least : Addr
  d_Telling_least : FuncData
  F_Telling_least : Fun K "least" "Telling.least" s_Telling_least f_Telling_least d_Telling_least
  b_Telling_least : Binds K d_Telling_least ["self", "rows"] []
  M_Telling_least : Meth K C_Telling "least" f_Telling_least
  f_Telling_within : Addr
  d_Telling_within : FuncData
  F_Telling_within : Fun K "within" "Telling.within" s_Telling_within f_Telling_within d_Telling_within
  b_Telling_within : Binds K d_Telling_within ["self", "prefix"] []
  M_Telling_within : Meth K C_Telling "within" f_Telling_within
  f_Telling_ends : Addr
  d_Telling_ends : FuncData
  F_Telling_ends : Fun K "ends" "Telling.ends" s_Telling_ends f_Telling_ends d_Telling_ends
  b_Telling_ends : Binds K d_Telling_ends ["self", "word", "prefix"] []
  M_Telling_ends : Meth K C_Telling "ends" f_Telling_ends
  f_Telling_way : Addr
  d_Telling_way : FuncData
  F_Telling_way : Fun K "way" "Telling.way" s_Telling_way f_Telling_way d_Telling_way
  b_Telling_way : Binds K d_Telling_way ["self", "word", "prefix"] []
  M_Telling_way : Meth K C_Telling "way" f_Telling_way
  f_Telling_way_of : Addr
  d_Telling_way_of : FuncData
  F_Telling_way_of : Fun K "way_of" "Telling.way_of" s_Telling_way_of f_Telling_way_of d_Telling_way_of
  b_Telling_way_of : Binds K d_Telling_way_of ["self", "word", "prefix"] []
  M_Telling_way_of : Meth K C_Telling "way_of" f_Telling_way_of
  f_Telling_cell_way : Addr
  d_Telling_cell_way : FuncData
  F_Telling_cell_way : Fun K "cell_way" "Telling.cell_way" s_Telling_cell_way f_Telling_cell_way d_Telling_cell_way
  b_Telling_cell_way : Binds K d_Telling_cell_way ["self", "word", "prefix"] []
  M_Telling_cell_way : Meth K C_Telling "cell_way" f_Telling_cell_way
  f_fewest_facts : Addr
  d_fewest_facts : FuncData
  F_fewest_facts : Fun K "fewest_facts" "fewest_facts" s_fewest_facts f_fewest_facts d_fewest_facts
  b_fewest_facts : Binds K d_fewest_facts ["cloud", "knowledge", "box", "fineness"] []
  mg_fewest_facts : mg "fewest_facts" = some (.ref f_fewest_facts)
  f_is_enough : Addr
  d_is_enough : FuncData
  F_is_enough : Fun K "is_enough" "is_enough" s_is_enough f_is_enough d_is_enough
  b_is_enough : Binds K d_is_enough ["knowledge", "box", "fineness"] []
  mg_is_enough : mg "is_enough" = some (.ref f_is_enough)
  f_place_in : Addr
  d_place_in : FuncData
  F_place_in : Fun K "place_in" "place_in" s_place_in f_place_in d_place_in
  b_place_in : Binds K d_place_in ["row", "number"] []
  mg_place_in : mg "place_in" = some (.ref f_place_in)
  f_Cloud_init : Addr
  d_Cloud_init : FuncData
  F_Cloud_init : Fun K "__init__" "Cloud.__init__" s_Cloud_init f_Cloud_init d_Cloud_init
  b_Cloud_init : Binds K d_Cloud_init ["self", "space", "points"] []
  mk_Cloud : Mk K C_Cloud f_Cloud_init
  f_Cloud_count : Addr
  d_Cloud_count : FuncData
  F_Cloud_count : Fun K "count" "Cloud.count" s_Cloud_count f_Cloud_count d_Cloud_count
  b_Cloud_count : Binds K d_Cloud_count ["self", "prefix"] []
  M_Cloud_count : Meth K C_Cloud "count" f_Cloud_count
  f_Space_init : Addr
  d_Space_init : FuncData
  F_Space_init : Fun K "__init__" "Space.__init__" s_Space_init f_Space_init d_Space_init
  b_Space_init : Binds K d_Space_init ["self", "dimensions", "bits"] []
  mk_Space : Mk K C_Space f_Space_init
  f_Space_is_point : Addr
  d_Space_is_point : FuncData
  F_Space_is_point : Fun K "is_point" "Space.is_point" s_Space_is_point f_Space_is_point d_Space_is_point
  b_Space_is_point : Binds K d_Space_is_point ["self", "thing"] []
  M_Space_is_point : Meth K C_Space "is_point" f_Space_is_point
  f_Space_check_point : Addr
  d_Space_check_point : FuncData
  F_Space_check_point : Fun K "check_point" "Space.check_point" s_Space_check_point f_Space_check_point d_Space_check_point
  b_Space_check_point : Binds K d_Space_check_point ["self", "thing"] []
  M_Space_check_point : Meth K C_Space "check_point" f_Space_check_point
  f_Space_woven : Addr
  d_Space_woven : FuncData
  F_Space_woven : Fun K "woven" "Space.woven" s_Space_woven f_Space_woven d_Space_woven
  b_Space_woven : Binds K d_Space_woven ["self", "point"] []
  M_Space_woven : Meth K C_Space "woven" f_Space_woven
  f_Space_point_of : Addr
  d_Space_point_of : FuncData
  F_Space_point_of : Fun K "point_of" "Space.point_of" s_Space_point_of f_Space_point_of d_Space_point_of
  b_Space_point_of : Binds K d_Space_point_of ["self", "number"] []
  M_Space_point_of : Meth K C_Space "point_of" f_Space_point_of
  f_Space_size : Addr
  d_Space_size : FuncData
  F_Space_size : Fun K "size" "Space.size" s_Space_size f_Space_size d_Space_size
  b_Space_size : Binds K d_Space_size ["self", "prefix"] []
  M_Space_size : Meth K C_Space "size" f_Space_size
  f_Space_is_prefix : Addr
  d_Space_is_prefix : FuncData
  F_Space_is_prefix : Fun K "is_prefix" "Space.is_prefix" s_Space_is_prefix f_Space_is_prefix d_Space_is_prefix
  b_Space_is_prefix : Binds K d_Space_is_prefix ["self", "thing"] []
  M_Space_is_prefix : Meth K C_Space "is_prefix" f_Space_is_prefix
  f_Space_cell : Addr
  d_Space_cell : FuncData
  F_Space_cell : Fun K "cell" "Space.cell" s_Space_cell f_Space_cell d_Space_cell
  b_Space_cell : Binds K d_Space_cell ["self", "prefix"] []
  M_Space_cell : Meth K C_Space "cell" f_Space_cell
  f_Box_init : Addr
  d_Box_init : FuncData
  F_Box_init : Fun K "__init__" "Box.__init__" s_Box_init f_Box_init d_Box_init
  b_Box_init : Binds K d_Box_init ["self", "space", "lows", "highs"] []
  mk_Box : Mk K C_Box f_Box_init
  f_Box_room : Addr
  d_Box_room : FuncData
  F_Box_room : Fun K "room" "Box.room" s_Box_room f_Box_room d_Box_room
  b_Box_room : Binds K d_Box_room ["self", "prefix"] []
  M_Box_room : Meth K C_Box "room" f_Box_room
  f_is_inside : Addr
  d_is_inside : FuncData
  F_is_inside : Fun K "is_inside" "is_inside" s_is_inside f_is_inside d_is_inside
  b_is_inside : Binds K d_is_inside ["prefix", "other"] []
  mg_is_inside : mg "is_inside" = some (.ref f_is_inside)
  f_Rest_init : Addr
  d_Rest_init : FuncData
  F_Rest_init : Fun K "__init__" "Rest.__init__" s_Rest_init f_Rest_init d_Rest_init
  b_Rest_init : Binds K d_Rest_init ["self", "prefix", "count", "inner"] []
  mk_Rest : Mk K C_Rest f_Rest_init
  f_Knowledge_init : Addr
  d_Knowledge_init : FuncData
  F_Knowledge_init : Fun K "__init__" "Knowledge.__init__" s_Knowledge_init f_Knowledge_init d_Knowledge_init
  b_Knowledge_init : Binds K d_Knowledge_init ["self", "space", "facts"] []
  mk_Knowledge : Mk K C_Knowledge f_Knowledge_init
  f_Knowledge_is_fit : Addr
  d_Knowledge_is_fit : FuncData
  F_Knowledge_is_fit : Fun K "is_fit" "Knowledge.is_fit" s_Knowledge_is_fit f_Knowledge_is_fit d_Knowledge_is_fit
  b_Knowledge_is_fit : Binds K d_Knowledge_is_fit ["self", "rest"] []
  M_Knowledge_is_fit : Meth K C_Knowledge "is_fit" f_Knowledge_is_fit
  f_Knowledge_rests : Addr
  d_Knowledge_rests : FuncData
  F_Knowledge_rests : Fun K "rests" "Knowledge.rests" s_Knowledge_rests f_Knowledge_rests d_Knowledge_rests
  b_Knowledge_rests : Binds K d_Knowledge_rests ["self"] []
  M_Knowledge_rests : Meth K C_Knowledge "rests" f_Knowledge_rests
  f_Knowledge_next_inside : Addr
  d_Knowledge_next_inside : FuncData
  F_Knowledge_next_inside : Fun K "next_inside" "Knowledge.next_inside" s_Knowledge_next_inside f_Knowledge_next_inside d_Knowledge_next_inside
  b_Knowledge_next_inside : Binds K d_Knowledge_next_inside ["self", "prefix", "order"] []
  M_Knowledge_next_inside : Meth K C_Knowledge "next_inside" f_Knowledge_next_inside
  f_Knowledge_points_left : Addr
  d_Knowledge_points_left : FuncData
  F_Knowledge_points_left : Fun K "points_left" "Knowledge.points_left" s_Knowledge_points_left f_Knowledge_points_left d_Knowledge_points_left
  b_Knowledge_points_left : Binds K d_Knowledge_points_left ["self", "rest"] []
  M_Knowledge_points_left : Meth K C_Knowledge "points_left" f_Knowledge_points_left
  f_Knowledge_room : Addr
  d_Knowledge_room : FuncData
  F_Knowledge_room : Fun K "room" "Knowledge.room" s_Knowledge_room f_Knowledge_room d_Knowledge_room
  b_Knowledge_room : Binds K d_Knowledge_room ["self", "rest"] []
  M_Knowledge_room : Meth K C_Knowledge "room" f_Knowledge_room
  f_Knowledge_room_in : Addr
  d_Knowledge_room_in : FuncData
  F_Knowledge_room_in : Fun K "room_in" "Knowledge.room_in" s_Knowledge_room_in f_Knowledge_room_in d_Knowledge_room_in
  b_Knowledge_room_in : Binds K d_Knowledge_room_in ["self", "rest", "region"] []
  M_Knowledge_room_in : Meth K C_Knowledge "room_in" f_Knowledge_room_in
  f_Knowledge_bounds : Addr
  d_Knowledge_bounds : FuncData
  F_Knowledge_bounds : Fun K "bounds" "Knowledge.bounds" s_Knowledge_bounds f_Knowledge_bounds d_Knowledge_bounds
  b_Knowledge_bounds : Binds K d_Knowledge_bounds ["self", "region"] []
  M_Knowledge_bounds : Meth K C_Knowledge "bounds" f_Knowledge_bounds
  f_Knowledge_known : Addr
  d_Knowledge_known : FuncData
  F_Knowledge_known : Fun K "known" "Knowledge.known" s_Knowledge_known f_Knowledge_known d_Knowledge_known
  b_Knowledge_known : Binds K d_Knowledge_known ["self", "prefix"] []
  M_Knowledge_known : Meth K C_Knowledge "known" f_Knowledge_known
  f_l_number : Addr
  d_l_number : FuncData
  F_l_number : Fun K "_law_number" "_law_number" s_l_number f_l_number d_l_number
  b_l_number : Binds K d_l_number ["_law_script", "_law_index"] []
  mg_l_number : mg "_law_number" = some (.ref f_l_number)
  f_l_take : Addr
  d_l_take : FuncData
  F_l_take : Fun K "_law_take" "_law_take" s_l_take f_l_take d_l_take
  b_l_take : Binds K d_l_take ["_law_draw", "_law_many"] []
  mg_l_take : mg "_law_take" = some (.ref f_l_take)
  f_l_pick : Addr
  d_l_pick : FuncData
  F_l_pick : Fun K "_law_pick" "_law_pick" s_l_pick f_l_pick d_l_pick
  b_l_pick : Binds K d_l_pick ["_law_draw", "_law_items"] []
  mg_l_pick : mg "_law_pick" = some (.ref f_l_pick)
  f_l_space : Addr
  d_l_space : FuncData
  F_l_space : Fun K "_law_space" "_law_space" s_l_space f_l_space d_l_space
  b_l_space : Binds K d_l_space ["_law_draw"] []
  mg_l_space : mg "_law_space" = some (.ref f_l_space)
  f_l_all : Addr
  d_l_all : FuncData
  F_l_all : Fun K "_law_all" "_law_all" s_l_all f_l_all d_l_all
  b_l_all : Binds K d_l_all ["_law_space_here"] []
  mg_l_all : mg "_law_all" = some (.ref f_l_all)
  f_l_points : Addr
  d_l_points : FuncData
  F_l_points : Fun K "_law_points" "_law_points" s_l_points f_l_points d_l_points
  b_l_points : Binds K d_l_points ["_law_draw", "_law_space_here"] []
  mg_l_points : mg "_law_points" = some (.ref f_l_points)
  f_l_point : Addr
  d_l_point : FuncData
  F_l_point : Fun K "_law_point" "_law_point" s_l_point f_l_point d_l_point
  b_l_point : Binds K d_l_point ["_law_draw", "_law_space_here"] []
  mg_l_point : mg "_law_point" = some (.ref f_l_point)
  f_l_box : Addr
  d_l_box : FuncData
  F_l_box : Fun K "_law_box" "_law_box" s_l_box f_l_box d_l_box
  b_l_box : Binds K d_l_box ["_law_draw", "_law_space_here"] []
  mg_l_box : mg "_law_box" = some (.ref f_l_box)
  f_l_prefixes : Addr
  d_l_prefixes : FuncData
  F_l_prefixes : Fun K "_law_prefixes" "_law_prefixes" s_l_prefixes f_l_prefixes d_l_prefixes
  b_l_prefixes : Binds K d_l_prefixes ["_law_space_here"] []
  mg_l_prefixes : mg "_law_prefixes" = some (.ref f_l_prefixes)
  f_law : Addr
  d_law : FuncData
  F_law : Fun K "law" "law" s_law f_law d_law
  b_law : Binds K d_law ["_law_script"] []
  mg_law : mg "law" = some (.ref f_law)
  z_abs : mg "abs" = none
  z_all : mg "all" = none
  z_any : mg "any" = none
  z_bool : mg "bool" = none
  z_dict : mg "dict" = none
  z_int : mg "int" = none
  z_isinstance : mg "isinstance" = none
  z_len : mg "len" = none
  z_list : mg "list" = none
  z_max : mg "max" = none
  z_min : mg "min" = none
  z_range : mg "range" = none
  z_sorted : mg "sorted" = none
  z_sum : mg "sum" = none
  z_tuple : mg "tuple" = none
  z_zip : mg "zip" = none
  t_MOST_DIMENSIONS : Tok
  mg_MOST_DIMENSIONS : mg "MOST_DIMENSIONS" = some (.int 3 t_MOST_DIMENSIONS)
  t_MOST_BITS : Tok
  mg_MOST_BITS : mg "MOST_BITS" = some (.int 10 t_MOST_BITS)
end FW
namespace FW
open PySem L2 FC Evl
/-- a promise's end: some value of that kind, what was tracked as it was -/
def RetP (R : V → Hp → Prop) (H : Hp) (Q : VK) : Prop := ∀ v H2, Ex H H2 → R v H2 → Q v H2
theorem ret_ty {H H' : Hp} {Q : VK} {R : V → Hp → Prop} (k : RetP R H Q) (e : Ex H H') : RetP R H' Q := fun v H2 e2 r => k v H2 (e.trans e2) r
/-- the pair of a prefix -/
def PT (v : V) (p : Pre) (H : Hp) : Prop := ∃ a, v = .ref a ∧ H a = some (.tup [.int (p.1 : Int), .int (p.2 : Int)])
theorem PT.mono {v : V} {p : Pre} {H H' : Hp} (h : PT v p H) (e : Ex H H') : PT v p H' := let ⟨a, e1, e2⟩ := h; ⟨a, e1, e a _ e2⟩
def spPower : Sp := fun vs H Q _ => ∃ n : Nat, vs = [.int n] ∧ n ≤ 100 ∧ RetV (.int ((2 ^ n : Nat) : Int)) H Q
section
variable {K : PySem.W.Frag} {σ : St} {H : Hp} {R : V → Prop}
/-- a tuple's place -/
theorem g_ix {i : Nat} {a : Addr} {xs : List V} (j : Nat) {v : V} (hσ : σ[i]? = some (some (.ref a))) (h : H a = some (.tup xs)) (hj : xs[j]? = some v) (q : R v) :
    ∃ v0, σ[i]? = some (some v0) ∧ ∃ p xs k u, v0 = V.ref p ∧ V.int (j : Int) = V.int k ∧ SqT K H p xs ∧ atI xs k = some u ∧ R u :=
  ⟨_, hσ, a, xs, j, v, rfl, rfl, SqT.of h, atI_nat hj, q⟩
theorem two_line : (2 : Nat) ≤ sizeLine := by decide
end
theorem below_at {row : List Nat} {x low : Nat} (hl : low ≤ row.length) (h1 : ∀ i (h : i < row.length), i < low → row[i] < x) (h2 : ∀ i (h : i < row.length), low ≤ i → x ≤ row[i]) : below row x = low := by
  unfold below
  have e : row = row.take low ++ row.drop low := (List.take_append_drop low row).symm
  rw [e, List.filter_append, List.filter_eq_self.mpr, List.filter_eq_nil_iff.mpr, List.append_nil, List.length_take, Nat.min_eq_left hl]
  · intro y hy
    obtain ⟨i, hi, rfl⟩ := List.mem_iff_getElem.mp hy
    rw [List.length_drop] at hi
    rw [List.getElem_drop, decide_eq_true_eq]
    have := h2 (low + i) (by omega) (by omega)
    omega
  · intro y hy
    obtain ⟨i, hi, rfl⟩ := List.mem_iff_getElem.mp hy
    rw [List.length_take] at hi
    rw [List.getElem_take, decide_eq_true_eq]
    exact h1 i (by omega) (by omega)
def spWhole : Sp := fun vs H Q _ => ∃ z lo hi : Int, vs = [.int z, .int lo, .int hi] ∧ RetV (.bl (decide (lo ≤ z) && decide (z ≤ hi))) H Q
def spInside : Sp := fun vs H Q _ => ∃ (x y : V) (q p : Pre), vs = [x, y] ∧ PT x q H ∧ PT y p H ∧ q.1 ≤ 20 ∧ RetV (.bl (decide (ins q p))) H Q
def Two (p : Pre) : V → Hp → Prop := fun v H => ∃ t x y, v = .ref t ∧ H t = some (.tup [x, y]) ∧ PT x (ch0 p) H ∧ PT y (ch1 p) H
def spHalves : Sp := fun vs H Q _ => ∃ (x : V) (p : Pre), vs = [x] ∧ PT x p H ∧ RetP (Two p) H Q
def RowAt (row : List Nat) (v : V) (H : Hp) : Prop := ∃ a, v = .ref a ∧ H a = some (.tup (row.map fun (x : Nat) => V.int (x : Int)))
def spPlace : Sp := fun vs H Q _ => ∃ (v : V) (row : List Nat) (x : Nat), vs = [v, .int x] ∧ RowAt row v H ∧ row.Pairwise (· < ·) ∧ RetV (.int (below row x)) H Q
section
variable {P : Program} {w : World} {K : PySem.W.Frag} {mg : Str → Option Value} {base : Heap}
theorem ok_power (T : Txt K mg) : FnOk P w K mg base CX0 1 T.f_power T.d_power ["times"] spPower := by
  refine T.F_power.ok sc_power (fun vs H Q E h => ?_) (fun cdv A outer s H vs Q E hr h => ?_)
  · obtain ⟨n, rfl, _⟩ := h; rfl
  obtain ⟨n, rfl, hn, k⟩ := h
  have nd := sc_power.nd
  refine ⟨_, (pss_cons (ps_set (i := 1) nd rfl (Or.inl rfl) pe_int)
      (pss_cons (ps_for PassesOwn.never (by rfl) (pi_range1 (by rfl) T.z_range (pa_cons (pv 0) pa_nil)) (pg_name (i := 2) nd rfl (Or.inl rfl))
      (pss_one (ps_set (i := 1) nd rfl (Or.inl rfl) (pe_op op_mul (pv 1) pe_int))))
      (pss_one (ps_ret (pv 1))))), ?_⟩
  refine ⟨_, rfl, (n : Int), rfl, by omega, by omega, for_range (n := (n : Int).toNat) (fun i σ H' => ∃ t, σ = [some (.int n), some (.int ((2 ^ i : Nat) : Int)), t] ∧ H' = H) ⟨none, rfl, rfl⟩ ?_ ?_⟩
  · rintro i σ H' hi ⟨t, rfl, rfl⟩
    refine ⟨_, rfl, _, _, rfl, rfl, .inr ⟨by decide, by decide⟩, some (.int (0 + (i : Int))), ?_, rfl⟩
    show _ = [some (V.int n), some (V.int ((2 ^ (i + 1) : Nat) : Int)), some (V.int (0 + (i : Int)))]
    rw [Nat.pow_succ]
    rfl
  · rintro σ H' ⟨t, rfl, rfl⟩
    refine ⟨_, rfl, ?_⟩
    have e : ((n : Int).toNat) = n := by omega
    rw [e]
    exact k _ (Ex.refl _)
theorem ok_is_whole (T : Txt K mg) : FnOk P w K mg base CX0 1 T.f_is_whole T.d_is_whole ["thing", "low", "high"] spWhole := by
  refine T.F_is_whole.ok sc_is_whole (fun vs H Q E h => ?_) (fun cdv A outer s H vs Q E hr h => ?_)
  · obtain ⟨_, _, _, rfl, _⟩ := h; rfl
  obtain ⟨z, lo, hi, rfl, k⟩ := h
  refine ⟨_, (pss_one (ps_ret (pe_and (pe_callB call_isi (by rfl) T.z_isinstance (by decide +kernel) (pa_cons (pv 0) (pa_cons (pe_bltn (v := .ty "int") (by rfl) T.z_int (by decide +kernel) rfl) pa_nil))) (pe_and (pe_not (pe_callB call_isi (by rfl) T.z_isinstance (by decide +kernel) (pa_cons (pv 0) (pa_cons (pe_bltn (v := .ty "bool") (by rfl) T.z_bool (by decide +kernel) rfl) pa_nil)))) (pe_one (pe_chain op_le op_le (pv 1) (pv 0) (pv 2))))))), ?_⟩
  refine ⟨_, rfl, _, _, _, _, true, rfl, .ty "int", .base (.int z), kit_ty (by decide +kernel), true, rfl, iteT ?_⟩
  refine ⟨_, rfl, _, _, _, _, false, rfl, .ty "bool", .base (.int z), kit_ty (by decide +kernel), false, rfl, true, rfl, iteT ?_⟩
  refine ⟨_, rfl, _, rfl, _, _, rfl, rfl, _, rfl, ?_⟩
  by_cases c : lo ≤ z
  · rw [if_pos (decide_eq_true c)]
    refine ⟨_, rfl, _, _, rfl, rfl, ?_⟩
    have := k _ (Ex.refl _)
    rw [decide_eq_true c, Bool.true_and] at this
    exact this
  · rw [if_neg (by rw [decide_eq_false c]; exact Bool.false_ne_true)]
    have := k _ (Ex.refl _)
    rw [decide_eq_false c, Bool.false_and] at this
    exact this
theorem ok_is_inside (T : Txt K mg) : FnOk P w K mg base CX0 2 T.f_is_inside T.d_is_inside ["prefix", "other"] spInside := by
  refine T.F_is_inside.ok sc_is_inside (fun vs H Q E h => ?_) (fun cdv A outer s H vs Q E hr h => ?_)
  · obtain ⟨_, _, _, _, rfl, _⟩ := h; rfl
  obtain ⟨x, y, q, p, rfl, ⟨a, rfl, ha⟩, ⟨b, rfl, hb⟩, hq, k⟩ := h
  refine ⟨_, (pss_one (ps_ret (pe_and (pe_cmpR op_ge (pe_ix ix_tup (pv 0) pe_int (fun _ _ => rfl)) (pe_ix ix_tup (pv 1) pe_int (fun _ _ => rfl)) (nomark _)) (pe_one (pe_cmpR op_eq (pe_op op_fdiv (pe_ix ix_tup (pv 0) pe_int (fun _ _ => rfl)) (pe_call (ok_power T) (hr.mono (by decide)) (by rfl) T.mg_power T.F_power.kp T.b_power .nil pass0 (pa_cons (pe_op op_sub (pe_ix ix_tup (pv 0) pe_int (fun _ _ => rfl)) (pe_ix ix_tup (pv 1) pe_int (fun _ _ => rfl))) pa_nil))) (pe_ix ix_tup (pv 1) pe_int (fun _ _ => rfl)) (nomark _)))))), ?_⟩
  refine g_ix 0 rfl ha rfl (g_ix 0 rfl hb rfl ⟨_, _, rfl, rfl, _, rfl, ?_⟩)
  by_cases c : p.1 ≤ q.1
  · have c' : (p.1 : Int) ≤ (q.1 : Int) := by omega
    rw [if_pos (decide_eq_true c')]
    refine g_ix 1 rfl ha rfl (g_ix 0 rfl ha rfl (g_ix 0 rfl hb rfl ⟨_, _, rfl, rfl, q.1 - p.1, ?_, by omega, fun H2 e2 => ?_⟩))
    · show [V.int ((q.1 : Int) - (p.1 : Int))] = [V.int ((q.1 - p.1 : Nat) : Int)]
      rw [Int.ofNat_sub c]
    refine ⟨_, _, rfl, rfl, ⟨?_, ?_⟩, g_ix 1 rfl (e2 _ _ hb) rfl ⟨rfl, ?_⟩⟩
    · have : 0 < 2 ^ (q.1 - p.1) := Nat.pow_pos (by decide)
      omega
    · have : 2 ^ (q.1 - p.1) ≤ 2 ^ 20 := Nat.pow_le_pow_right (by decide) (by omega)
      omega
    · have := k H2 e2
      have e : decide (ins q p) = decide (V.int ((q.2 : Int) / ((2 ^ (q.1 - p.1) : Nat) : Int)) = V.int (p.2 : Int)) := by
        rw [Bool.eq_iff_iff, decide_eq_true_eq, decide_eq_true_eq]
        constructor
        · rintro ⟨_, h⟩
          rw [← h]; rfl
        · intro h
          injection h with h
          refine ⟨c, ?_⟩
          have h' : ((q.2 / 2 ^ (q.1 - p.1) : Nat) : Int) = (p.2 : Int) := h
          omega
      rw [e] at this
      exact this
  · have c' : ¬ (p.1 : Int) ≤ (q.1 : Int) := by omega
    rw [if_neg (by rw [decide_eq_false c']; exact Bool.false_ne_true)]
    have := k H (Ex.refl _)
    rw [decide_eq_false (fun z : ins q p => c z.1)] at this
    exact this
theorem ok_halves_of (T : Txt K mg) : FnOk P w K mg base CX0 1 T.f_halves_of T.d_halves_of ["prefix"] spHalves := by
  refine T.F_halves_of.ok sc_halves_of (fun vs H Q E h => ?_) (fun cdv A outer s H vs Q E hr h => ?_)
  · obtain ⟨_, _, rfl, _⟩ := h; rfl
  obtain ⟨x, p, rfl, ⟨a, rfl, ha⟩, k⟩ := h
  refine ⟨_, (pss_one (ps_ret (pe_tup (pa_cons (pe_tup (pa_cons (pe_op op_add (pe_ix ix_tup (pv 0) pe_int (fun _ _ => rfl)) pe_int) (pa_cons (pe_op op_mul pe_int (pe_ix ix_tup (pv 0) pe_int (fun _ _ => rfl))) pa_nil))) (pa_cons (pe_tup (pa_cons (pe_op op_add (pe_ix ix_tup (pv 0) pe_int (fun _ _ => rfl)) pe_int) (pa_cons (pe_op op_add (pe_op op_mul pe_int (pe_ix ix_tup (pv 0) pe_int (fun _ _ => rfl))) pe_int) pa_nil))) pa_nil))))), ?_⟩
  refine g_ix 0 rfl ha rfl ⟨_, _, rfl, rfl, g_ix 1 rfl ha rfl ⟨_, _, rfl, rfl, .inl ⟨by decide, by decide⟩, two_line, fun b hb => ?_⟩⟩
  have e1 : Ex H (upd H b (.tup [.int ((ch0 p).1 : Int), .int ((ch0 p).2 : Int)])) := Ex.new hb
  refine g_ix 0 rfl (e1 _ _ ha) rfl ⟨_, _, rfl, rfl, g_ix 1 rfl (e1 _ _ ha) rfl ⟨_, _, rfl, rfl, .inl ⟨by decide, by decide⟩, _, _, rfl, rfl, two_line, fun c hc => ?_⟩⟩
  have e2 : Ex _ (upd (upd H b (.tup [.int ((ch0 p).1 : Int), .int ((ch0 p).2 : Int)])) c (.tup [.int ((ch1 p).1 : Int), .int ((ch1 p).2 : Int)])) := Ex.new hc
  refine ⟨two_line, fun d hd => ?_⟩
  have e3 := Ex.new (o := .tup [.ref b, .ref c]) hd
  exact k _ _ ((e1.trans e2).trans e3) ⟨d, .ref b, .ref c, rfl, upd_same, ⟨b, rfl, e3 _ _ (e2 _ _ upd_same)⟩, ⟨c, rfl, e3 _ _ upd_same⟩⟩
theorem ok_place_in (T : Txt K mg) : FnOk P w K mg base CX0 1 T.f_place_in T.d_place_in ["row", "number"] spPlace := by
  refine T.F_place_in.ok sc_place_in (fun vs H Q E h => ?_) (fun cdv A outer s H vs Q E hr h => ?_)
  · obtain ⟨_, _, _, rfl, _⟩ := h; rfl
  obtain ⟨v, row, x, rfl, ⟨a, rfl, ha⟩, hs, k⟩ := h
  have nd := sc_place_in.nd
  refine ⟨_, (pss_cons (ps_par (i := 2) (j := 3) (by rfl) nd rfl rfl (by decide) rfl rfl (pa_cons pe_int (pa_cons (pe_callB call_len_seq (by rfl) T.z_len (by decide +kernel) (pa_cons (pv 0) pa_nil)) pa_nil)) (by rfl))
      (pss_cons (ps_while PassesOwn.never (pt_cmpR op_lt (pv 2) (pv 3) (nomark _))
      (pss_cons (ps_set (i := 4) nd rfl (Or.inl rfl) (pe_op op_fdiv (pe_op op_add (pv 2) (pv 3)) pe_int))
      (pss_one (ps_if (pt_cmpR op_lt (pe_ix ix_tup (pv 0) (pv 4) (fun _ _ => rfl)) (pv 1) (nomark _)) (pss_one (ps_set (i := 2) nd rfl (Or.inl rfl) (pe_op op_add (pv 4) pe_int))) (pss_one (ps_set (i := 3) nd rfl (Or.inl rfl) (pv 4)))))))
      (pss_one (ps_ret (pv 2))))), ?_⟩
  refine ⟨_, rfl, a, _, rfl, .inr (SqT.of ha), _, _, rfl, ?_⟩
  have sortd : ∀ i j (hi : i < row.length) (hj : j < row.length), i ≤ j → row[i] ≤ row[j] := fun i j hi hj hij => by
    rcases Nat.lt_or_ge i j with h | h
    · exact Nat.le_of_lt (List.pairwise_iff_getElem.mp hs i j hi hj h)
    · have : i = j := by omega
      subst this; exact Nat.le_refl _
  refine q_while (fun m σ H' => ∃ (low high : Nat) (t : Option V), σ = [some (.ref a), some (.int x), some (.int low), some (.int high), t] ∧ Ex H H' ∧ m = high - low ∧ low ≤ high ∧ high ≤ row.length ∧
      (∀ i (h : i < row.length), i < low → row[i] < x) ∧ (∀ i (h : i < row.length), high ≤ i → x ≤ row[i])) row.length ?_ ?_
  · refine ⟨0, row.length, none, ?_, Ex.refl _, rfl, Nat.zero_le _, Nat.le_refl _, fun i _ h => (Nat.not_lt_zero _ h).elim, fun i h h' => by omega⟩
    show [some (V.ref a), some (V.int x), some (V.int 0), some (V.int ((row.map fun (x : Nat) => V.int (x : Int)).length : Int)), none] = _
    rw [List.length_map]; rfl
  · rintro m σ H' ⟨low, high, t, rfl, e0, rfl, h1, h2, h3, h4⟩
    refine ⟨decide ((low : Int) < (high : Int)), et_test (ev_op (ev_var rfl) (ev_var rfl) rv_I0), fun hb H1 e1 => ?_, fun hb H1 e1 => ?_⟩
    · have hlt : low < high := by have := of_decide_eq_true hb; omega
      have hm : (low + high) / 2 < row.length := by omega
      have hv : (row.map fun (x : Nat) => V.int (x : Int))[(low + high) / 2]? = some (V.int (row[(low + high) / 2] : Int)) := by
        rw [List.getElem?_map, List.getElem?_eq_getElem hm]; rfl
      refine ⟨fun σ2 H2 => ∃ m', m' < high - low ∧ ∃ (low' high' : Nat) (t : Option V), σ2 = [some (.ref a), some (.int x), some (.int low'), some (.int high'), t] ∧ Ex H H2 ∧ m' = high' - low' ∧ low' ≤ high' ∧ high' ≤ row.length ∧
        (∀ i (h : i < row.length), i < low' → row[i] < x) ∧ (∀ i (h : i < row.length), high' ≤ i → x ≤ row[i]), fun σ2 H2 z => z, ?_⟩
      refine ⟨_, rfl, _, rfl, _, _, rfl, rfl, _, _, rfl, rfl, ⟨by decide, by decide⟩, ?_⟩
      refine ⟨_, rfl, _, rfl, a, _, _, _, rfl, rfl, SqT.of (e0.trans e1 _ _ ha), atI_nat hv, _, rfl, _, _, rfl, rfl, _, rfl, ?_⟩
      refine ite2 (fun c => ?_) (fun c => ?_)
      · have c : row[(low + high) / 2] < x := by have := of_decide_eq_true c; omega
        refine ⟨_, rfl, _, _, rfl, rfl, high - ((low + high) / 2 + 1), by omega, (low + high) / 2 + 1, high, some (.int (((low + high) / 2 : Nat) : Int)), rfl, e0.trans e1, rfl, by omega, h2, fun i hi h => ?_, h4⟩
        have := sortd i ((low + high) / 2) hi hm (by omega)
        omega
      · have c : ¬ row[(low + high) / 2] < x := fun z => c (decide_eq_true (by omega))
        refine ⟨_, rfl, (low + high) / 2 - low, by omega, low, (low + high) / 2, some (.int (((low + high) / 2 : Nat) : Int)), rfl, e0.trans e1, rfl, by omega, by omega, h3, fun i hi h => ?_⟩
        have := sortd ((low + high) / 2) i hm hi h
        omega
    · have hge : ¬ low < high := by have := of_decide_eq_false hb; omega
      have : low = high := by omega
      subst this
      have hbel := below_at h2 h3 h4
      refine ⟨_, rfl, ?_⟩
      rw [hbel] at k
      exact k H1 (e0.trans e1)
end
end FW
namespace FW
open PySem L2 FC Evl
theorem lk_zip {ks : List Str} {vs : List V} {f : Str} {j : Nat} {v : V} (h : ks.findIdx? (fun k => f == k) = some j) (hv : vs[j]? = some v) : (ks.zip vs).lookup f = some v := by
  induction ks generalizing vs j with
  | nil => cases h
  | cons k ks ih =>
    cases vs with
    | nil => simp at hv
    | cons x xs =>
      rw [List.findIdx?_cons] at h
      rw [List.zip_cons_cons, List.lookup_cons]
      by_cases c : (f == k) = true
      · rw [if_pos c] at h
        injection h with h
        subst h
        rw [c]
        simpa using hv
      · have c : (f == k) = false := Bool.eq_false_iff.mpr c
        rw [c] at h ⊢
        cases q : ks.findIdx? (fun k => f == k) with
        | none => rw [q] at h; cases h
        | some i =>
          rw [q] at h
          have h : i + 1 = j := by simpa using h
          subst h
          exact ih q (by simpa using hv)
theorem lk_none {ks : List Str} {vs : List V} {f : Str} (h : ks.all (fun k => !(f == k)) = true) : (ks.zip vs).lookup f = none := by
  induction ks generalizing vs with
  | nil => rfl
  | cons k ks ih =>
    cases vs with
    | nil => rfl
    | cons x xs =>
      rw [List.all_cons, Bool.and_eq_true] at h
      have c : (f == k) = false := by
        cases q : f == k with
        | false => rfl
        | true => rw [q] at h; exact absurd h.1 (by decide)
      rw [List.zip_cons_cons, List.lookup_cons, c]
      exact ih h.2
theorem putF_zip {ks : List Str} {vs : List V} {f : Str} {y : V} (h : ks.all (fun k => !decide (k = f)) = true) (hl : ks.length = vs.length) : putF f y (ks.zip vs) = (ks ++ [f]).zip (vs ++ [y]) := by
  induction ks generalizing vs with
  | nil =>
    cases vs with
    | nil => rfl
    | cons => cases hl
  | cons k ks ih =>
    cases vs with
    | nil => cases hl
    | cons x xs =>
      rw [List.all_cons, Bool.and_eq_true] at h
      have c : ¬ k = f := fun z => by
        rw [decide_eq_true z] at h
        exact absurd h.1 (by decide)
      show (if k = f then (k, y) :: ks.zip xs else (k, x) :: putF f y (ks.zip xs)) = (k, x) :: (ks ++ [f]).zip (xs ++ [y])
      rw [if_neg c, ih h.2 (Nat.succ.inj hl)]
theorem zip_le (ks : List Str) (vs : List V) : (ks.zip vs).length ≤ ks.length := by rw [List.length_zip]; exact Nat.min_le_left _ _
theorem putF_go {ks : List Str} {vs : List V} {f : Str} {y : V} {j : Nat} {C dx a : Addr} {H : Hp} {σ : St} {D : Ends} (hj : ks[j]? = some f) (hn : (ks.take j).all (fun k => !decide (k = f)) = true) (hl : vs.length = j)
    (q : D.nx σ (upd H a (.ins C dx ((ks.take (j + 1)).zip (vs ++ [y]))))) : D.nx σ (upd H a (.ins C dx (putF f y ((ks.take j).zip vs)))) := by
  have hlt := (List.getElem?_eq_some_iff.mp hj).1
  rw [putF_zip hn (by rw [List.length_take, hl]; omega)]
  have e : ks.take j ++ [f] = ks.take (j + 1) := by
    rw [List.take_succ, hj]; rfl
  rw [e]
  exact q
abbrev k_Space : List Str := ["dimensions", "bits", "depth", "side"]
theorem fn_Space_is_point (vs : List V) : (k_Space.zip vs).lookup ("is_point" : Str) = none := lk_none (by decide +kernel)
theorem fn_Space_check_point (vs : List V) : (k_Space.zip vs).lookup ("check_point" : Str) = none := lk_none (by decide +kernel)
theorem fn_Space_woven (vs : List V) : (k_Space.zip vs).lookup ("woven" : Str) = none := lk_none (by decide +kernel)
theorem fn_Space_point_of (vs : List V) : (k_Space.zip vs).lookup ("point_of" : Str) = none := lk_none (by decide +kernel)
theorem fn_Space_size (vs : List V) : (k_Space.zip vs).lookup ("size" : Str) = none := lk_none (by decide +kernel)
theorem fn_Space_is_prefix (vs : List V) : (k_Space.zip vs).lookup ("is_prefix" : Str) = none := lk_none (by decide +kernel)
theorem fn_Space_cell (vs : List V) : (k_Space.zip vs).lookup ("cell" : Str) = none := lk_none (by decide +kernel)
section
variable {K : PySem.W.Frag} {mg : Str → Option Value} {σ : St} {H : Hp} {Q : VK} {D : Ends} {i : Nat} {a dx : Addr} {vs : List V} {v y : V} {R : V → Prop}
theorem r_Space_dimensions (T : Txt K mg) (hs : σ[i]? = some (some (.ref a))) (h : H a = some (.ins T.C_Space dx (k_Space.zip vs))) (hj : vs[0]? = some v) (q : R v) :
    ∃ v0, σ[i]? = some (some v0) ∧ ∃ a1 C1 d1 fs v1, v0 = V.ref a1 ∧ H a1 = some (.ins C1 d1 fs) ∧ Cls K C1 ∧ NoAttr K C1 "dimensions" ∧ fs.lookup ("dimensions" : Str) = some v1 ∧ R v1 :=
  ⟨_, hs, a, _, _, _, _, rfl, h, T.cl_Space, T.na_Space_dimensions, lk_zip (by decide +kernel) hj, q⟩
theorem a_Space_dimensions (T : Txt K mg) (h : H a = some (.ins T.C_Space dx (k_Space.zip vs))) (hj : vs[0]? = some v) (q : R v) :
    ∃ a1 C1 d1 fs v1, V.ref a = V.ref a1 ∧ H a1 = some (.ins C1 d1 fs) ∧ Cls K C1 ∧ NoAttr K C1 "dimensions" ∧ fs.lookup ("dimensions" : Str) = some v1 ∧ R v1 :=
  ⟨a, _, _, _, _, rfl, h, T.cl_Space, T.na_Space_dimensions, lk_zip (by decide +kernel) hj, q⟩
theorem p_Space_dimensions (T : Txt K mg) (h : H a = some (.ins T.C_Space dx ((k_Space.take 0).zip vs))) (hl : vs.length = 0) (q : D.nx σ (upd H a (.ins T.C_Space dx ((k_Space.take 1).zip (vs ++ [y]))))) : ∃ a1 C1 d1 fs, V.ref a = .ref a1 ∧ H a1 = some (.ins C1 d1 fs) ∧ Cls K C1 ∧ NoAttr K C1 "dimensions" ∧ fs.length < 1000 ∧ D.nx σ (upd H a1 (.ins C1 d1 (putF "dimensions" y fs))) :=
  ⟨a, _, _, _, rfl, h, T.cl_Space, T.na_Space_dimensions, Nat.lt_of_le_of_lt (zip_le _ _) (by decide), putF_go (ks := k_Space) rfl (by decide +kernel) hl q⟩
theorem r_Space_bits (T : Txt K mg) (hs : σ[i]? = some (some (.ref a))) (h : H a = some (.ins T.C_Space dx (k_Space.zip vs))) (hj : vs[1]? = some v) (q : R v) :
    ∃ v0, σ[i]? = some (some v0) ∧ ∃ a1 C1 d1 fs v1, v0 = V.ref a1 ∧ H a1 = some (.ins C1 d1 fs) ∧ Cls K C1 ∧ NoAttr K C1 "bits" ∧ fs.lookup ("bits" : Str) = some v1 ∧ R v1 :=
  ⟨_, hs, a, _, _, _, _, rfl, h, T.cl_Space, T.na_Space_bits, lk_zip (by decide +kernel) hj, q⟩
theorem a_Space_bits (T : Txt K mg) (h : H a = some (.ins T.C_Space dx (k_Space.zip vs))) (hj : vs[1]? = some v) (q : R v) :
    ∃ a1 C1 d1 fs v1, V.ref a = V.ref a1 ∧ H a1 = some (.ins C1 d1 fs) ∧ Cls K C1 ∧ NoAttr K C1 "bits" ∧ fs.lookup ("bits" : Str) = some v1 ∧ R v1 :=
  ⟨a, _, _, _, _, rfl, h, T.cl_Space, T.na_Space_bits, lk_zip (by decide +kernel) hj, q⟩
theorem p_Space_bits (T : Txt K mg) (h : H a = some (.ins T.C_Space dx ((k_Space.take 1).zip vs))) (hl : vs.length = 1) (q : D.nx σ (upd H a (.ins T.C_Space dx ((k_Space.take 2).zip (vs ++ [y]))))) : ∃ a1 C1 d1 fs, V.ref a = .ref a1 ∧ H a1 = some (.ins C1 d1 fs) ∧ Cls K C1 ∧ NoAttr K C1 "bits" ∧ fs.length < 1000 ∧ D.nx σ (upd H a1 (.ins C1 d1 (putF "bits" y fs))) :=
  ⟨a, _, _, _, rfl, h, T.cl_Space, T.na_Space_bits, Nat.lt_of_le_of_lt (zip_le _ _) (by decide), putF_go (ks := k_Space) rfl (by decide +kernel) hl q⟩
theorem r_Space_depth (T : Txt K mg) (hs : σ[i]? = some (some (.ref a))) (h : H a = some (.ins T.C_Space dx (k_Space.zip vs))) (hj : vs[2]? = some v) (q : R v) :
    ∃ v0, σ[i]? = some (some v0) ∧ ∃ a1 C1 d1 fs v1, v0 = V.ref a1 ∧ H a1 = some (.ins C1 d1 fs) ∧ Cls K C1 ∧ NoAttr K C1 "depth" ∧ fs.lookup ("depth" : Str) = some v1 ∧ R v1 :=
  ⟨_, hs, a, _, _, _, _, rfl, h, T.cl_Space, T.na_Space_depth, lk_zip (by decide +kernel) hj, q⟩
theorem a_Space_depth (T : Txt K mg) (h : H a = some (.ins T.C_Space dx (k_Space.zip vs))) (hj : vs[2]? = some v) (q : R v) :
    ∃ a1 C1 d1 fs v1, V.ref a = V.ref a1 ∧ H a1 = some (.ins C1 d1 fs) ∧ Cls K C1 ∧ NoAttr K C1 "depth" ∧ fs.lookup ("depth" : Str) = some v1 ∧ R v1 :=
  ⟨a, _, _, _, _, rfl, h, T.cl_Space, T.na_Space_depth, lk_zip (by decide +kernel) hj, q⟩
theorem p_Space_depth (T : Txt K mg) (h : H a = some (.ins T.C_Space dx ((k_Space.take 2).zip vs))) (hl : vs.length = 2) (q : D.nx σ (upd H a (.ins T.C_Space dx ((k_Space.take 3).zip (vs ++ [y]))))) : ∃ a1 C1 d1 fs, V.ref a = .ref a1 ∧ H a1 = some (.ins C1 d1 fs) ∧ Cls K C1 ∧ NoAttr K C1 "depth" ∧ fs.length < 1000 ∧ D.nx σ (upd H a1 (.ins C1 d1 (putF "depth" y fs))) :=
  ⟨a, _, _, _, rfl, h, T.cl_Space, T.na_Space_depth, Nat.lt_of_le_of_lt (zip_le _ _) (by decide), putF_go (ks := k_Space) rfl (by decide +kernel) hl q⟩
theorem r_Space_side (T : Txt K mg) (hs : σ[i]? = some (some (.ref a))) (h : H a = some (.ins T.C_Space dx (k_Space.zip vs))) (hj : vs[3]? = some v) (q : R v) :
    ∃ v0, σ[i]? = some (some v0) ∧ ∃ a1 C1 d1 fs v1, v0 = V.ref a1 ∧ H a1 = some (.ins C1 d1 fs) ∧ Cls K C1 ∧ NoAttr K C1 "side" ∧ fs.lookup ("side" : Str) = some v1 ∧ R v1 :=
  ⟨_, hs, a, _, _, _, _, rfl, h, T.cl_Space, T.na_Space_side, lk_zip (by decide +kernel) hj, q⟩
theorem a_Space_side (T : Txt K mg) (h : H a = some (.ins T.C_Space dx (k_Space.zip vs))) (hj : vs[3]? = some v) (q : R v) :
    ∃ a1 C1 d1 fs v1, V.ref a = V.ref a1 ∧ H a1 = some (.ins C1 d1 fs) ∧ Cls K C1 ∧ NoAttr K C1 "side" ∧ fs.lookup ("side" : Str) = some v1 ∧ R v1 :=
  ⟨a, _, _, _, _, rfl, h, T.cl_Space, T.na_Space_side, lk_zip (by decide +kernel) hj, q⟩
theorem p_Space_side (T : Txt K mg) (h : H a = some (.ins T.C_Space dx ((k_Space.take 3).zip vs))) (hl : vs.length = 3) (q : D.nx σ (upd H a (.ins T.C_Space dx ((k_Space.take 4).zip (vs ++ [y]))))) : ∃ a1 C1 d1 fs, V.ref a = .ref a1 ∧ H a1 = some (.ins C1 d1 fs) ∧ Cls K C1 ∧ NoAttr K C1 "side" ∧ fs.length < 1000 ∧ D.nx σ (upd H a1 (.ins C1 d1 (putF "side" y fs))) :=
  ⟨a, _, _, _, rfl, h, T.cl_Space, T.na_Space_side, Nat.lt_of_le_of_lt (zip_le _ _) (by decide), putF_go (ks := k_Space) rfl (by decide +kernel) hl q⟩
end
abbrev k_Box : List Str := ["space", "lows", "highs"]
theorem fn_Box_room (vs : List V) : (k_Box.zip vs).lookup ("room" : Str) = none := lk_none (by decide +kernel)
section
variable {K : PySem.W.Frag} {mg : Str → Option Value} {σ : St} {H : Hp} {Q : VK} {D : Ends} {i : Nat} {a dx : Addr} {vs : List V} {v y : V} {R : V → Prop}
theorem r_Box_space (T : Txt K mg) (hs : σ[i]? = some (some (.ref a))) (h : H a = some (.ins T.C_Box dx (k_Box.zip vs))) (hj : vs[0]? = some v) (q : R v) :
    ∃ v0, σ[i]? = some (some v0) ∧ ∃ a1 C1 d1 fs v1, v0 = V.ref a1 ∧ H a1 = some (.ins C1 d1 fs) ∧ Cls K C1 ∧ NoAttr K C1 "space" ∧ fs.lookup ("space" : Str) = some v1 ∧ R v1 :=
  ⟨_, hs, a, _, _, _, _, rfl, h, T.cl_Box, T.na_Box_space, lk_zip (by decide +kernel) hj, q⟩
theorem a_Box_space (T : Txt K mg) (h : H a = some (.ins T.C_Box dx (k_Box.zip vs))) (hj : vs[0]? = some v) (q : R v) :
    ∃ a1 C1 d1 fs v1, V.ref a = V.ref a1 ∧ H a1 = some (.ins C1 d1 fs) ∧ Cls K C1 ∧ NoAttr K C1 "space" ∧ fs.lookup ("space" : Str) = some v1 ∧ R v1 :=
  ⟨a, _, _, _, _, rfl, h, T.cl_Box, T.na_Box_space, lk_zip (by decide +kernel) hj, q⟩
theorem p_Box_space (T : Txt K mg) (h : H a = some (.ins T.C_Box dx ((k_Box.take 0).zip vs))) (hl : vs.length = 0) (q : D.nx σ (upd H a (.ins T.C_Box dx ((k_Box.take 1).zip (vs ++ [y]))))) : ∃ a1 C1 d1 fs, V.ref a = .ref a1 ∧ H a1 = some (.ins C1 d1 fs) ∧ Cls K C1 ∧ NoAttr K C1 "space" ∧ fs.length < 1000 ∧ D.nx σ (upd H a1 (.ins C1 d1 (putF "space" y fs))) :=
  ⟨a, _, _, _, rfl, h, T.cl_Box, T.na_Box_space, Nat.lt_of_le_of_lt (zip_le _ _) (by decide), putF_go (ks := k_Box) rfl (by decide +kernel) hl q⟩
theorem r_Box_lows (T : Txt K mg) (hs : σ[i]? = some (some (.ref a))) (h : H a = some (.ins T.C_Box dx (k_Box.zip vs))) (hj : vs[1]? = some v) (q : R v) :
    ∃ v0, σ[i]? = some (some v0) ∧ ∃ a1 C1 d1 fs v1, v0 = V.ref a1 ∧ H a1 = some (.ins C1 d1 fs) ∧ Cls K C1 ∧ NoAttr K C1 "lows" ∧ fs.lookup ("lows" : Str) = some v1 ∧ R v1 :=
  ⟨_, hs, a, _, _, _, _, rfl, h, T.cl_Box, T.na_Box_lows, lk_zip (by decide +kernel) hj, q⟩
theorem a_Box_lows (T : Txt K mg) (h : H a = some (.ins T.C_Box dx (k_Box.zip vs))) (hj : vs[1]? = some v) (q : R v) :
    ∃ a1 C1 d1 fs v1, V.ref a = V.ref a1 ∧ H a1 = some (.ins C1 d1 fs) ∧ Cls K C1 ∧ NoAttr K C1 "lows" ∧ fs.lookup ("lows" : Str) = some v1 ∧ R v1 :=
  ⟨a, _, _, _, _, rfl, h, T.cl_Box, T.na_Box_lows, lk_zip (by decide +kernel) hj, q⟩
theorem p_Box_lows (T : Txt K mg) (h : H a = some (.ins T.C_Box dx ((k_Box.take 1).zip vs))) (hl : vs.length = 1) (q : D.nx σ (upd H a (.ins T.C_Box dx ((k_Box.take 2).zip (vs ++ [y]))))) : ∃ a1 C1 d1 fs, V.ref a = .ref a1 ∧ H a1 = some (.ins C1 d1 fs) ∧ Cls K C1 ∧ NoAttr K C1 "lows" ∧ fs.length < 1000 ∧ D.nx σ (upd H a1 (.ins C1 d1 (putF "lows" y fs))) :=
  ⟨a, _, _, _, rfl, h, T.cl_Box, T.na_Box_lows, Nat.lt_of_le_of_lt (zip_le _ _) (by decide), putF_go (ks := k_Box) rfl (by decide +kernel) hl q⟩
theorem r_Box_highs (T : Txt K mg) (hs : σ[i]? = some (some (.ref a))) (h : H a = some (.ins T.C_Box dx (k_Box.zip vs))) (hj : vs[2]? = some v) (q : R v) :
    ∃ v0, σ[i]? = some (some v0) ∧ ∃ a1 C1 d1 fs v1, v0 = V.ref a1 ∧ H a1 = some (.ins C1 d1 fs) ∧ Cls K C1 ∧ NoAttr K C1 "highs" ∧ fs.lookup ("highs" : Str) = some v1 ∧ R v1 :=
  ⟨_, hs, a, _, _, _, _, rfl, h, T.cl_Box, T.na_Box_highs, lk_zip (by decide +kernel) hj, q⟩
theorem a_Box_highs (T : Txt K mg) (h : H a = some (.ins T.C_Box dx (k_Box.zip vs))) (hj : vs[2]? = some v) (q : R v) :
    ∃ a1 C1 d1 fs v1, V.ref a = V.ref a1 ∧ H a1 = some (.ins C1 d1 fs) ∧ Cls K C1 ∧ NoAttr K C1 "highs" ∧ fs.lookup ("highs" : Str) = some v1 ∧ R v1 :=
  ⟨a, _, _, _, _, rfl, h, T.cl_Box, T.na_Box_highs, lk_zip (by decide +kernel) hj, q⟩
theorem p_Box_highs (T : Txt K mg) (h : H a = some (.ins T.C_Box dx ((k_Box.take 2).zip vs))) (hl : vs.length = 2) (q : D.nx σ (upd H a (.ins T.C_Box dx ((k_Box.take 3).zip (vs ++ [y]))))) : ∃ a1 C1 d1 fs, V.ref a = .ref a1 ∧ H a1 = some (.ins C1 d1 fs) ∧ Cls K C1 ∧ NoAttr K C1 "highs" ∧ fs.length < 1000 ∧ D.nx σ (upd H a1 (.ins C1 d1 (putF "highs" y fs))) :=
  ⟨a, _, _, _, rfl, h, T.cl_Box, T.na_Box_highs, Nat.lt_of_le_of_lt (zip_le _ _) (by decide), putF_go (ks := k_Box) rfl (by decide +kernel) hl q⟩
end
abbrev k_Cloud : List Str := ["space", "row"]
theorem fn_Cloud_count (vs : List V) : (k_Cloud.zip vs).lookup ("count" : Str) = none := lk_none (by decide +kernel)
section
variable {K : PySem.W.Frag} {mg : Str → Option Value} {σ : St} {H : Hp} {Q : VK} {D : Ends} {i : Nat} {a dx : Addr} {vs : List V} {v y : V} {R : V → Prop}
theorem r_Cloud_space (T : Txt K mg) (hs : σ[i]? = some (some (.ref a))) (h : H a = some (.ins T.C_Cloud dx (k_Cloud.zip vs))) (hj : vs[0]? = some v) (q : R v) :
    ∃ v0, σ[i]? = some (some v0) ∧ ∃ a1 C1 d1 fs v1, v0 = V.ref a1 ∧ H a1 = some (.ins C1 d1 fs) ∧ Cls K C1 ∧ NoAttr K C1 "space" ∧ fs.lookup ("space" : Str) = some v1 ∧ R v1 :=
  ⟨_, hs, a, _, _, _, _, rfl, h, T.cl_Cloud, T.na_Cloud_space, lk_zip (by decide +kernel) hj, q⟩
theorem a_Cloud_space (T : Txt K mg) (h : H a = some (.ins T.C_Cloud dx (k_Cloud.zip vs))) (hj : vs[0]? = some v) (q : R v) :
    ∃ a1 C1 d1 fs v1, V.ref a = V.ref a1 ∧ H a1 = some (.ins C1 d1 fs) ∧ Cls K C1 ∧ NoAttr K C1 "space" ∧ fs.lookup ("space" : Str) = some v1 ∧ R v1 :=
  ⟨a, _, _, _, _, rfl, h, T.cl_Cloud, T.na_Cloud_space, lk_zip (by decide +kernel) hj, q⟩
theorem p_Cloud_space (T : Txt K mg) (h : H a = some (.ins T.C_Cloud dx ((k_Cloud.take 0).zip vs))) (hl : vs.length = 0) (q : D.nx σ (upd H a (.ins T.C_Cloud dx ((k_Cloud.take 1).zip (vs ++ [y]))))) : ∃ a1 C1 d1 fs, V.ref a = .ref a1 ∧ H a1 = some (.ins C1 d1 fs) ∧ Cls K C1 ∧ NoAttr K C1 "space" ∧ fs.length < 1000 ∧ D.nx σ (upd H a1 (.ins C1 d1 (putF "space" y fs))) :=
  ⟨a, _, _, _, rfl, h, T.cl_Cloud, T.na_Cloud_space, Nat.lt_of_le_of_lt (zip_le _ _) (by decide), putF_go (ks := k_Cloud) rfl (by decide +kernel) hl q⟩
theorem r_Cloud_row (T : Txt K mg) (hs : σ[i]? = some (some (.ref a))) (h : H a = some (.ins T.C_Cloud dx (k_Cloud.zip vs))) (hj : vs[1]? = some v) (q : R v) :
    ∃ v0, σ[i]? = some (some v0) ∧ ∃ a1 C1 d1 fs v1, v0 = V.ref a1 ∧ H a1 = some (.ins C1 d1 fs) ∧ Cls K C1 ∧ NoAttr K C1 "row" ∧ fs.lookup ("row" : Str) = some v1 ∧ R v1 :=
  ⟨_, hs, a, _, _, _, _, rfl, h, T.cl_Cloud, T.na_Cloud_row, lk_zip (by decide +kernel) hj, q⟩
theorem a_Cloud_row (T : Txt K mg) (h : H a = some (.ins T.C_Cloud dx (k_Cloud.zip vs))) (hj : vs[1]? = some v) (q : R v) :
    ∃ a1 C1 d1 fs v1, V.ref a = V.ref a1 ∧ H a1 = some (.ins C1 d1 fs) ∧ Cls K C1 ∧ NoAttr K C1 "row" ∧ fs.lookup ("row" : Str) = some v1 ∧ R v1 :=
  ⟨a, _, _, _, _, rfl, h, T.cl_Cloud, T.na_Cloud_row, lk_zip (by decide +kernel) hj, q⟩
theorem p_Cloud_row (T : Txt K mg) (h : H a = some (.ins T.C_Cloud dx ((k_Cloud.take 1).zip vs))) (hl : vs.length = 1) (q : D.nx σ (upd H a (.ins T.C_Cloud dx ((k_Cloud.take 2).zip (vs ++ [y]))))) : ∃ a1 C1 d1 fs, V.ref a = .ref a1 ∧ H a1 = some (.ins C1 d1 fs) ∧ Cls K C1 ∧ NoAttr K C1 "row" ∧ fs.length < 1000 ∧ D.nx σ (upd H a1 (.ins C1 d1 (putF "row" y fs))) :=
  ⟨a, _, _, _, rfl, h, T.cl_Cloud, T.na_Cloud_row, Nat.lt_of_le_of_lt (zip_le _ _) (by decide), putF_go (ks := k_Cloud) rfl (by decide +kernel) hl q⟩
end
abbrev k_Rest : List Str := ["prefix", "count", "inner"]
section
variable {K : PySem.W.Frag} {mg : Str → Option Value} {σ : St} {H : Hp} {Q : VK} {D : Ends} {i : Nat} {a dx : Addr} {vs : List V} {v y : V} {R : V → Prop}
theorem r_Rest_prefix (T : Txt K mg) (hs : σ[i]? = some (some (.ref a))) (h : H a = some (.ins T.C_Rest dx (k_Rest.zip vs))) (hj : vs[0]? = some v) (q : R v) :
    ∃ v0, σ[i]? = some (some v0) ∧ ∃ a1 C1 d1 fs v1, v0 = V.ref a1 ∧ H a1 = some (.ins C1 d1 fs) ∧ Cls K C1 ∧ NoAttr K C1 "prefix" ∧ fs.lookup ("prefix" : Str) = some v1 ∧ R v1 :=
  ⟨_, hs, a, _, _, _, _, rfl, h, T.cl_Rest, T.na_Rest_prefix, lk_zip (by decide +kernel) hj, q⟩
theorem a_Rest_prefix (T : Txt K mg) (h : H a = some (.ins T.C_Rest dx (k_Rest.zip vs))) (hj : vs[0]? = some v) (q : R v) :
    ∃ a1 C1 d1 fs v1, V.ref a = V.ref a1 ∧ H a1 = some (.ins C1 d1 fs) ∧ Cls K C1 ∧ NoAttr K C1 "prefix" ∧ fs.lookup ("prefix" : Str) = some v1 ∧ R v1 :=
  ⟨a, _, _, _, _, rfl, h, T.cl_Rest, T.na_Rest_prefix, lk_zip (by decide +kernel) hj, q⟩
theorem p_Rest_prefix (T : Txt K mg) (h : H a = some (.ins T.C_Rest dx ((k_Rest.take 0).zip vs))) (hl : vs.length = 0) (q : D.nx σ (upd H a (.ins T.C_Rest dx ((k_Rest.take 1).zip (vs ++ [y]))))) : ∃ a1 C1 d1 fs, V.ref a = .ref a1 ∧ H a1 = some (.ins C1 d1 fs) ∧ Cls K C1 ∧ NoAttr K C1 "prefix" ∧ fs.length < 1000 ∧ D.nx σ (upd H a1 (.ins C1 d1 (putF "prefix" y fs))) :=
  ⟨a, _, _, _, rfl, h, T.cl_Rest, T.na_Rest_prefix, Nat.lt_of_le_of_lt (zip_le _ _) (by decide), putF_go (ks := k_Rest) rfl (by decide +kernel) hl q⟩
theorem r_Rest_count (T : Txt K mg) (hs : σ[i]? = some (some (.ref a))) (h : H a = some (.ins T.C_Rest dx (k_Rest.zip vs))) (hj : vs[1]? = some v) (q : R v) :
    ∃ v0, σ[i]? = some (some v0) ∧ ∃ a1 C1 d1 fs v1, v0 = V.ref a1 ∧ H a1 = some (.ins C1 d1 fs) ∧ Cls K C1 ∧ NoAttr K C1 "count" ∧ fs.lookup ("count" : Str) = some v1 ∧ R v1 :=
  ⟨_, hs, a, _, _, _, _, rfl, h, T.cl_Rest, T.na_Rest_count, lk_zip (by decide +kernel) hj, q⟩
theorem a_Rest_count (T : Txt K mg) (h : H a = some (.ins T.C_Rest dx (k_Rest.zip vs))) (hj : vs[1]? = some v) (q : R v) :
    ∃ a1 C1 d1 fs v1, V.ref a = V.ref a1 ∧ H a1 = some (.ins C1 d1 fs) ∧ Cls K C1 ∧ NoAttr K C1 "count" ∧ fs.lookup ("count" : Str) = some v1 ∧ R v1 :=
  ⟨a, _, _, _, _, rfl, h, T.cl_Rest, T.na_Rest_count, lk_zip (by decide +kernel) hj, q⟩
theorem p_Rest_count (T : Txt K mg) (h : H a = some (.ins T.C_Rest dx ((k_Rest.take 1).zip vs))) (hl : vs.length = 1) (q : D.nx σ (upd H a (.ins T.C_Rest dx ((k_Rest.take 2).zip (vs ++ [y]))))) : ∃ a1 C1 d1 fs, V.ref a = .ref a1 ∧ H a1 = some (.ins C1 d1 fs) ∧ Cls K C1 ∧ NoAttr K C1 "count" ∧ fs.length < 1000 ∧ D.nx σ (upd H a1 (.ins C1 d1 (putF "count" y fs))) :=
  ⟨a, _, _, _, rfl, h, T.cl_Rest, T.na_Rest_count, Nat.lt_of_le_of_lt (zip_le _ _) (by decide), putF_go (ks := k_Rest) rfl (by decide +kernel) hl q⟩
theorem r_Rest_inner (T : Txt K mg) (hs : σ[i]? = some (some (.ref a))) (h : H a = some (.ins T.C_Rest dx (k_Rest.zip vs))) (hj : vs[2]? = some v) (q : R v) :
    ∃ v0, σ[i]? = some (some v0) ∧ ∃ a1 C1 d1 fs v1, v0 = V.ref a1 ∧ H a1 = some (.ins C1 d1 fs) ∧ Cls K C1 ∧ NoAttr K C1 "inner" ∧ fs.lookup ("inner" : Str) = some v1 ∧ R v1 :=
  ⟨_, hs, a, _, _, _, _, rfl, h, T.cl_Rest, T.na_Rest_inner, lk_zip (by decide +kernel) hj, q⟩
theorem a_Rest_inner (T : Txt K mg) (h : H a = some (.ins T.C_Rest dx (k_Rest.zip vs))) (hj : vs[2]? = some v) (q : R v) :
    ∃ a1 C1 d1 fs v1, V.ref a = V.ref a1 ∧ H a1 = some (.ins C1 d1 fs) ∧ Cls K C1 ∧ NoAttr K C1 "inner" ∧ fs.lookup ("inner" : Str) = some v1 ∧ R v1 :=
  ⟨a, _, _, _, _, rfl, h, T.cl_Rest, T.na_Rest_inner, lk_zip (by decide +kernel) hj, q⟩
theorem p_Rest_inner (T : Txt K mg) (h : H a = some (.ins T.C_Rest dx ((k_Rest.take 2).zip vs))) (hl : vs.length = 2) (q : D.nx σ (upd H a (.ins T.C_Rest dx ((k_Rest.take 3).zip (vs ++ [y]))))) : ∃ a1 C1 d1 fs, V.ref a = .ref a1 ∧ H a1 = some (.ins C1 d1 fs) ∧ Cls K C1 ∧ NoAttr K C1 "inner" ∧ fs.length < 1000 ∧ D.nx σ (upd H a1 (.ins C1 d1 (putF "inner" y fs))) :=
  ⟨a, _, _, _, rfl, h, T.cl_Rest, T.na_Rest_inner, Nat.lt_of_le_of_lt (zip_le _ _) (by decide), putF_go (ks := k_Rest) rfl (by decide +kernel) hl q⟩
end
abbrev k_Knowledge : List Str := ["space", "facts"]
theorem fn_Knowledge_is_fit (vs : List V) : (k_Knowledge.zip vs).lookup ("is_fit" : Str) = none := lk_none (by decide +kernel)
theorem fn_Knowledge_rests (vs : List V) : (k_Knowledge.zip vs).lookup ("rests" : Str) = none := lk_none (by decide +kernel)
theorem fn_Knowledge_next_inside (vs : List V) : (k_Knowledge.zip vs).lookup ("next_inside" : Str) = none := lk_none (by decide +kernel)
theorem fn_Knowledge_points_left (vs : List V) : (k_Knowledge.zip vs).lookup ("points_left" : Str) = none := lk_none (by decide +kernel)
theorem fn_Knowledge_room (vs : List V) : (k_Knowledge.zip vs).lookup ("room" : Str) = none := lk_none (by decide +kernel)
theorem fn_Knowledge_room_in (vs : List V) : (k_Knowledge.zip vs).lookup ("room_in" : Str) = none := lk_none (by decide +kernel)
theorem fn_Knowledge_bounds (vs : List V) : (k_Knowledge.zip vs).lookup ("bounds" : Str) = none := lk_none (by decide +kernel)
theorem fn_Knowledge_known (vs : List V) : (k_Knowledge.zip vs).lookup ("known" : Str) = none := lk_none (by decide +kernel)
section
variable {K : PySem.W.Frag} {mg : Str → Option Value} {σ : St} {H : Hp} {Q : VK} {D : Ends} {i : Nat} {a dx : Addr} {vs : List V} {v y : V} {R : V → Prop}
theorem r_Knowledge_space (T : Txt K mg) (hs : σ[i]? = some (some (.ref a))) (h : H a = some (.ins T.C_Knowledge dx (k_Knowledge.zip vs))) (hj : vs[0]? = some v) (q : R v) :
    ∃ v0, σ[i]? = some (some v0) ∧ ∃ a1 C1 d1 fs v1, v0 = V.ref a1 ∧ H a1 = some (.ins C1 d1 fs) ∧ Cls K C1 ∧ NoAttr K C1 "space" ∧ fs.lookup ("space" : Str) = some v1 ∧ R v1 :=
  ⟨_, hs, a, _, _, _, _, rfl, h, T.cl_Knowledge, T.na_Knowledge_space, lk_zip (by decide +kernel) hj, q⟩
theorem a_Knowledge_space (T : Txt K mg) (h : H a = some (.ins T.C_Knowledge dx (k_Knowledge.zip vs))) (hj : vs[0]? = some v) (q : R v) :
    ∃ a1 C1 d1 fs v1, V.ref a = V.ref a1 ∧ H a1 = some (.ins C1 d1 fs) ∧ Cls K C1 ∧ NoAttr K C1 "space" ∧ fs.lookup ("space" : Str) = some v1 ∧ R v1 :=
  ⟨a, _, _, _, _, rfl, h, T.cl_Knowledge, T.na_Knowledge_space, lk_zip (by decide +kernel) hj, q⟩
theorem p_Knowledge_space (T : Txt K mg) (h : H a = some (.ins T.C_Knowledge dx ((k_Knowledge.take 0).zip vs))) (hl : vs.length = 0) (q : D.nx σ (upd H a (.ins T.C_Knowledge dx ((k_Knowledge.take 1).zip (vs ++ [y]))))) : ∃ a1 C1 d1 fs, V.ref a = .ref a1 ∧ H a1 = some (.ins C1 d1 fs) ∧ Cls K C1 ∧ NoAttr K C1 "space" ∧ fs.length < 1000 ∧ D.nx σ (upd H a1 (.ins C1 d1 (putF "space" y fs))) :=
  ⟨a, _, _, _, rfl, h, T.cl_Knowledge, T.na_Knowledge_space, Nat.lt_of_le_of_lt (zip_le _ _) (by decide), putF_go (ks := k_Knowledge) rfl (by decide +kernel) hl q⟩
theorem r_Knowledge_facts (T : Txt K mg) (hs : σ[i]? = some (some (.ref a))) (h : H a = some (.ins T.C_Knowledge dx (k_Knowledge.zip vs))) (hj : vs[1]? = some v) (q : R v) :
    ∃ v0, σ[i]? = some (some v0) ∧ ∃ a1 C1 d1 fs v1, v0 = V.ref a1 ∧ H a1 = some (.ins C1 d1 fs) ∧ Cls K C1 ∧ NoAttr K C1 "facts" ∧ fs.lookup ("facts" : Str) = some v1 ∧ R v1 :=
  ⟨_, hs, a, _, _, _, _, rfl, h, T.cl_Knowledge, T.na_Knowledge_facts, lk_zip (by decide +kernel) hj, q⟩
theorem a_Knowledge_facts (T : Txt K mg) (h : H a = some (.ins T.C_Knowledge dx (k_Knowledge.zip vs))) (hj : vs[1]? = some v) (q : R v) :
    ∃ a1 C1 d1 fs v1, V.ref a = V.ref a1 ∧ H a1 = some (.ins C1 d1 fs) ∧ Cls K C1 ∧ NoAttr K C1 "facts" ∧ fs.lookup ("facts" : Str) = some v1 ∧ R v1 :=
  ⟨a, _, _, _, _, rfl, h, T.cl_Knowledge, T.na_Knowledge_facts, lk_zip (by decide +kernel) hj, q⟩
theorem p_Knowledge_facts (T : Txt K mg) (h : H a = some (.ins T.C_Knowledge dx ((k_Knowledge.take 1).zip vs))) (hl : vs.length = 1) (q : D.nx σ (upd H a (.ins T.C_Knowledge dx ((k_Knowledge.take 2).zip (vs ++ [y]))))) : ∃ a1 C1 d1 fs, V.ref a = .ref a1 ∧ H a1 = some (.ins C1 d1 fs) ∧ Cls K C1 ∧ NoAttr K C1 "facts" ∧ fs.length < 1000 ∧ D.nx σ (upd H a1 (.ins C1 d1 (putF "facts" y fs))) :=
  ⟨a, _, _, _, rfl, h, T.cl_Knowledge, T.na_Knowledge_facts, Nat.lt_of_le_of_lt (zip_le _ _) (by decide), putF_go (ks := k_Knowledge) rfl (by decide +kernel) hl q⟩
end
abbrev k_Telling : List Str := ["cloud", "space", "facts", "box", "fineness", "known", "holders"]
theorem fn_Telling_is_cell (vs : List V) : (k_Telling.zip vs).lookup ("is_cell" : Str) = none := lk_none (by decide +kernel)
theorem fn_Telling_is_needed (vs : List V) : (k_Telling.zip vs).lookup ("is_needed" : Str) = none := lk_none (by decide +kernel)
theorem fn_Telling_told (vs : List V) : (k_Telling.zip vs).lookup ("told" : Str) = none := lk_none (by decide +kernel)
theorem fn_Telling_both (vs : List V) : (k_Telling.zip vs).lookup ("both" : Str) = none := lk_none (by decide +kernel)
theorem fn_Telling_least (vs : List V) : (k_Telling.zip vs).lookup ("least" : Str) = none := lk_none (by decide +kernel)
theorem fn_Telling_within (vs : List V) : (k_Telling.zip vs).lookup ("within" : Str) = none := lk_none (by decide +kernel)
theorem fn_Telling_ends (vs : List V) : (k_Telling.zip vs).lookup ("ends" : Str) = none := lk_none (by decide +kernel)
theorem fn_Telling_way (vs : List V) : (k_Telling.zip vs).lookup ("way" : Str) = none := lk_none (by decide +kernel)
theorem fn_Telling_way_of (vs : List V) : (k_Telling.zip vs).lookup ("way_of" : Str) = none := lk_none (by decide +kernel)
theorem fn_Telling_cell_way (vs : List V) : (k_Telling.zip vs).lookup ("cell_way" : Str) = none := lk_none (by decide +kernel)
section
variable {K : PySem.W.Frag} {mg : Str → Option Value} {σ : St} {H : Hp} {Q : VK} {D : Ends} {i : Nat} {a dx : Addr} {vs : List V} {v y : V} {R : V → Prop}
theorem r_Telling_cloud (T : Txt K mg) (hs : σ[i]? = some (some (.ref a))) (h : H a = some (.ins T.C_Telling dx (k_Telling.zip vs))) (hj : vs[0]? = some v) (q : R v) :
    ∃ v0, σ[i]? = some (some v0) ∧ ∃ a1 C1 d1 fs v1, v0 = V.ref a1 ∧ H a1 = some (.ins C1 d1 fs) ∧ Cls K C1 ∧ NoAttr K C1 "cloud" ∧ fs.lookup ("cloud" : Str) = some v1 ∧ R v1 :=
  ⟨_, hs, a, _, _, _, _, rfl, h, T.cl_Telling, T.na_Telling_cloud, lk_zip (by decide +kernel) hj, q⟩
theorem a_Telling_cloud (T : Txt K mg) (h : H a = some (.ins T.C_Telling dx (k_Telling.zip vs))) (hj : vs[0]? = some v) (q : R v) :
    ∃ a1 C1 d1 fs v1, V.ref a = V.ref a1 ∧ H a1 = some (.ins C1 d1 fs) ∧ Cls K C1 ∧ NoAttr K C1 "cloud" ∧ fs.lookup ("cloud" : Str) = some v1 ∧ R v1 :=
  ⟨a, _, _, _, _, rfl, h, T.cl_Telling, T.na_Telling_cloud, lk_zip (by decide +kernel) hj, q⟩
theorem p_Telling_cloud (T : Txt K mg) (h : H a = some (.ins T.C_Telling dx ((k_Telling.take 0).zip vs))) (hl : vs.length = 0) (q : D.nx σ (upd H a (.ins T.C_Telling dx ((k_Telling.take 1).zip (vs ++ [y]))))) : ∃ a1 C1 d1 fs, V.ref a = .ref a1 ∧ H a1 = some (.ins C1 d1 fs) ∧ Cls K C1 ∧ NoAttr K C1 "cloud" ∧ fs.length < 1000 ∧ D.nx σ (upd H a1 (.ins C1 d1 (putF "cloud" y fs))) :=
  ⟨a, _, _, _, rfl, h, T.cl_Telling, T.na_Telling_cloud, Nat.lt_of_le_of_lt (zip_le _ _) (by decide), putF_go (ks := k_Telling) rfl (by decide +kernel) hl q⟩
theorem r_Telling_space (T : Txt K mg) (hs : σ[i]? = some (some (.ref a))) (h : H a = some (.ins T.C_Telling dx (k_Telling.zip vs))) (hj : vs[1]? = some v) (q : R v) :
    ∃ v0, σ[i]? = some (some v0) ∧ ∃ a1 C1 d1 fs v1, v0 = V.ref a1 ∧ H a1 = some (.ins C1 d1 fs) ∧ Cls K C1 ∧ NoAttr K C1 "space" ∧ fs.lookup ("space" : Str) = some v1 ∧ R v1 :=
  ⟨_, hs, a, _, _, _, _, rfl, h, T.cl_Telling, T.na_Telling_space, lk_zip (by decide +kernel) hj, q⟩
theorem a_Telling_space (T : Txt K mg) (h : H a = some (.ins T.C_Telling dx (k_Telling.zip vs))) (hj : vs[1]? = some v) (q : R v) :
    ∃ a1 C1 d1 fs v1, V.ref a = V.ref a1 ∧ H a1 = some (.ins C1 d1 fs) ∧ Cls K C1 ∧ NoAttr K C1 "space" ∧ fs.lookup ("space" : Str) = some v1 ∧ R v1 :=
  ⟨a, _, _, _, _, rfl, h, T.cl_Telling, T.na_Telling_space, lk_zip (by decide +kernel) hj, q⟩
theorem p_Telling_space (T : Txt K mg) (h : H a = some (.ins T.C_Telling dx ((k_Telling.take 1).zip vs))) (hl : vs.length = 1) (q : D.nx σ (upd H a (.ins T.C_Telling dx ((k_Telling.take 2).zip (vs ++ [y]))))) : ∃ a1 C1 d1 fs, V.ref a = .ref a1 ∧ H a1 = some (.ins C1 d1 fs) ∧ Cls K C1 ∧ NoAttr K C1 "space" ∧ fs.length < 1000 ∧ D.nx σ (upd H a1 (.ins C1 d1 (putF "space" y fs))) :=
  ⟨a, _, _, _, rfl, h, T.cl_Telling, T.na_Telling_space, Nat.lt_of_le_of_lt (zip_le _ _) (by decide), putF_go (ks := k_Telling) rfl (by decide +kernel) hl q⟩
theorem r_Telling_facts (T : Txt K mg) (hs : σ[i]? = some (some (.ref a))) (h : H a = some (.ins T.C_Telling dx (k_Telling.zip vs))) (hj : vs[2]? = some v) (q : R v) :
    ∃ v0, σ[i]? = some (some v0) ∧ ∃ a1 C1 d1 fs v1, v0 = V.ref a1 ∧ H a1 = some (.ins C1 d1 fs) ∧ Cls K C1 ∧ NoAttr K C1 "facts" ∧ fs.lookup ("facts" : Str) = some v1 ∧ R v1 :=
  ⟨_, hs, a, _, _, _, _, rfl, h, T.cl_Telling, T.na_Telling_facts, lk_zip (by decide +kernel) hj, q⟩
theorem a_Telling_facts (T : Txt K mg) (h : H a = some (.ins T.C_Telling dx (k_Telling.zip vs))) (hj : vs[2]? = some v) (q : R v) :
    ∃ a1 C1 d1 fs v1, V.ref a = V.ref a1 ∧ H a1 = some (.ins C1 d1 fs) ∧ Cls K C1 ∧ NoAttr K C1 "facts" ∧ fs.lookup ("facts" : Str) = some v1 ∧ R v1 :=
  ⟨a, _, _, _, _, rfl, h, T.cl_Telling, T.na_Telling_facts, lk_zip (by decide +kernel) hj, q⟩
theorem p_Telling_facts (T : Txt K mg) (h : H a = some (.ins T.C_Telling dx ((k_Telling.take 2).zip vs))) (hl : vs.length = 2) (q : D.nx σ (upd H a (.ins T.C_Telling dx ((k_Telling.take 3).zip (vs ++ [y]))))) : ∃ a1 C1 d1 fs, V.ref a = .ref a1 ∧ H a1 = some (.ins C1 d1 fs) ∧ Cls K C1 ∧ NoAttr K C1 "facts" ∧ fs.length < 1000 ∧ D.nx σ (upd H a1 (.ins C1 d1 (putF "facts" y fs))) :=
  ⟨a, _, _, _, rfl, h, T.cl_Telling, T.na_Telling_facts, Nat.lt_of_le_of_lt (zip_le _ _) (by decide), putF_go (ks := k_Telling) rfl (by decide +kernel) hl q⟩
theorem r_Telling_box (T : Txt K mg) (hs : σ[i]? = some (some (.ref a))) (h : H a = some (.ins T.C_Telling dx (k_Telling.zip vs))) (hj : vs[3]? = some v) (q : R v) :
    ∃ v0, σ[i]? = some (some v0) ∧ ∃ a1 C1 d1 fs v1, v0 = V.ref a1 ∧ H a1 = some (.ins C1 d1 fs) ∧ Cls K C1 ∧ NoAttr K C1 "box" ∧ fs.lookup ("box" : Str) = some v1 ∧ R v1 :=
  ⟨_, hs, a, _, _, _, _, rfl, h, T.cl_Telling, T.na_Telling_box, lk_zip (by decide +kernel) hj, q⟩
theorem a_Telling_box (T : Txt K mg) (h : H a = some (.ins T.C_Telling dx (k_Telling.zip vs))) (hj : vs[3]? = some v) (q : R v) :
    ∃ a1 C1 d1 fs v1, V.ref a = V.ref a1 ∧ H a1 = some (.ins C1 d1 fs) ∧ Cls K C1 ∧ NoAttr K C1 "box" ∧ fs.lookup ("box" : Str) = some v1 ∧ R v1 :=
  ⟨a, _, _, _, _, rfl, h, T.cl_Telling, T.na_Telling_box, lk_zip (by decide +kernel) hj, q⟩
theorem p_Telling_box (T : Txt K mg) (h : H a = some (.ins T.C_Telling dx ((k_Telling.take 3).zip vs))) (hl : vs.length = 3) (q : D.nx σ (upd H a (.ins T.C_Telling dx ((k_Telling.take 4).zip (vs ++ [y]))))) : ∃ a1 C1 d1 fs, V.ref a = .ref a1 ∧ H a1 = some (.ins C1 d1 fs) ∧ Cls K C1 ∧ NoAttr K C1 "box" ∧ fs.length < 1000 ∧ D.nx σ (upd H a1 (.ins C1 d1 (putF "box" y fs))) :=
  ⟨a, _, _, _, rfl, h, T.cl_Telling, T.na_Telling_box, Nat.lt_of_le_of_lt (zip_le _ _) (by decide), putF_go (ks := k_Telling) rfl (by decide +kernel) hl q⟩
theorem r_Telling_fineness (T : Txt K mg) (hs : σ[i]? = some (some (.ref a))) (h : H a = some (.ins T.C_Telling dx (k_Telling.zip vs))) (hj : vs[4]? = some v) (q : R v) :
    ∃ v0, σ[i]? = some (some v0) ∧ ∃ a1 C1 d1 fs v1, v0 = V.ref a1 ∧ H a1 = some (.ins C1 d1 fs) ∧ Cls K C1 ∧ NoAttr K C1 "fineness" ∧ fs.lookup ("fineness" : Str) = some v1 ∧ R v1 :=
  ⟨_, hs, a, _, _, _, _, rfl, h, T.cl_Telling, T.na_Telling_fineness, lk_zip (by decide +kernel) hj, q⟩
theorem a_Telling_fineness (T : Txt K mg) (h : H a = some (.ins T.C_Telling dx (k_Telling.zip vs))) (hj : vs[4]? = some v) (q : R v) :
    ∃ a1 C1 d1 fs v1, V.ref a = V.ref a1 ∧ H a1 = some (.ins C1 d1 fs) ∧ Cls K C1 ∧ NoAttr K C1 "fineness" ∧ fs.lookup ("fineness" : Str) = some v1 ∧ R v1 :=
  ⟨a, _, _, _, _, rfl, h, T.cl_Telling, T.na_Telling_fineness, lk_zip (by decide +kernel) hj, q⟩
theorem p_Telling_fineness (T : Txt K mg) (h : H a = some (.ins T.C_Telling dx ((k_Telling.take 4).zip vs))) (hl : vs.length = 4) (q : D.nx σ (upd H a (.ins T.C_Telling dx ((k_Telling.take 5).zip (vs ++ [y]))))) : ∃ a1 C1 d1 fs, V.ref a = .ref a1 ∧ H a1 = some (.ins C1 d1 fs) ∧ Cls K C1 ∧ NoAttr K C1 "fineness" ∧ fs.length < 1000 ∧ D.nx σ (upd H a1 (.ins C1 d1 (putF "fineness" y fs))) :=
  ⟨a, _, _, _, rfl, h, T.cl_Telling, T.na_Telling_fineness, Nat.lt_of_le_of_lt (zip_le _ _) (by decide), putF_go (ks := k_Telling) rfl (by decide +kernel) hl q⟩
theorem r_Telling_known (T : Txt K mg) (hs : σ[i]? = some (some (.ref a))) (h : H a = some (.ins T.C_Telling dx (k_Telling.zip vs))) (hj : vs[5]? = some v) (q : R v) :
    ∃ v0, σ[i]? = some (some v0) ∧ ∃ a1 C1 d1 fs v1, v0 = V.ref a1 ∧ H a1 = some (.ins C1 d1 fs) ∧ Cls K C1 ∧ NoAttr K C1 "known" ∧ fs.lookup ("known" : Str) = some v1 ∧ R v1 :=
  ⟨_, hs, a, _, _, _, _, rfl, h, T.cl_Telling, T.na_Telling_known, lk_zip (by decide +kernel) hj, q⟩
theorem a_Telling_known (T : Txt K mg) (h : H a = some (.ins T.C_Telling dx (k_Telling.zip vs))) (hj : vs[5]? = some v) (q : R v) :
    ∃ a1 C1 d1 fs v1, V.ref a = V.ref a1 ∧ H a1 = some (.ins C1 d1 fs) ∧ Cls K C1 ∧ NoAttr K C1 "known" ∧ fs.lookup ("known" : Str) = some v1 ∧ R v1 :=
  ⟨a, _, _, _, _, rfl, h, T.cl_Telling, T.na_Telling_known, lk_zip (by decide +kernel) hj, q⟩
theorem p_Telling_known (T : Txt K mg) (h : H a = some (.ins T.C_Telling dx ((k_Telling.take 5).zip vs))) (hl : vs.length = 5) (q : D.nx σ (upd H a (.ins T.C_Telling dx ((k_Telling.take 6).zip (vs ++ [y]))))) : ∃ a1 C1 d1 fs, V.ref a = .ref a1 ∧ H a1 = some (.ins C1 d1 fs) ∧ Cls K C1 ∧ NoAttr K C1 "known" ∧ fs.length < 1000 ∧ D.nx σ (upd H a1 (.ins C1 d1 (putF "known" y fs))) :=
  ⟨a, _, _, _, rfl, h, T.cl_Telling, T.na_Telling_known, Nat.lt_of_le_of_lt (zip_le _ _) (by decide), putF_go (ks := k_Telling) rfl (by decide +kernel) hl q⟩
theorem r_Telling_holders (T : Txt K mg) (hs : σ[i]? = some (some (.ref a))) (h : H a = some (.ins T.C_Telling dx (k_Telling.zip vs))) (hj : vs[6]? = some v) (q : R v) :
    ∃ v0, σ[i]? = some (some v0) ∧ ∃ a1 C1 d1 fs v1, v0 = V.ref a1 ∧ H a1 = some (.ins C1 d1 fs) ∧ Cls K C1 ∧ NoAttr K C1 "holders" ∧ fs.lookup ("holders" : Str) = some v1 ∧ R v1 :=
  ⟨_, hs, a, _, _, _, _, rfl, h, T.cl_Telling, T.na_Telling_holders, lk_zip (by decide +kernel) hj, q⟩
theorem a_Telling_holders (T : Txt K mg) (h : H a = some (.ins T.C_Telling dx (k_Telling.zip vs))) (hj : vs[6]? = some v) (q : R v) :
    ∃ a1 C1 d1 fs v1, V.ref a = V.ref a1 ∧ H a1 = some (.ins C1 d1 fs) ∧ Cls K C1 ∧ NoAttr K C1 "holders" ∧ fs.lookup ("holders" : Str) = some v1 ∧ R v1 :=
  ⟨a, _, _, _, _, rfl, h, T.cl_Telling, T.na_Telling_holders, lk_zip (by decide +kernel) hj, q⟩
theorem p_Telling_holders (T : Txt K mg) (h : H a = some (.ins T.C_Telling dx ((k_Telling.take 6).zip vs))) (hl : vs.length = 6) (q : D.nx σ (upd H a (.ins T.C_Telling dx ((k_Telling.take 7).zip (vs ++ [y]))))) : ∃ a1 C1 d1 fs, V.ref a = .ref a1 ∧ H a1 = some (.ins C1 d1 fs) ∧ Cls K C1 ∧ NoAttr K C1 "holders" ∧ fs.length < 1000 ∧ D.nx σ (upd H a1 (.ins C1 d1 (putF "holders" y fs))) :=
  ⟨a, _, _, _, rfl, h, T.cl_Telling, T.na_Telling_holders, Nat.lt_of_le_of_lt (zip_le _ _) (by decide), putF_go (ks := k_Telling) rfl (by decide +kernel) hl q⟩
end
end FW
namespace FW
open PySem L2 FC Evl
theorem sp_le {d b : Nat} (h : (d, b) ∈ spaces) : 1 ≤ d ∧ d ≤ 3 ∧ 1 ≤ b ∧ b ≤ 5 ∧ d * b ≤ 6 := by
  have key : ∀ s ∈ spaces, 1 ≤ s.1 ∧ s.1 ≤ 3 ∧ 1 ≤ s.2 ∧ s.2 ≤ 5 ∧ s.1 * s.2 ≤ 6 := by decide
  exact key (d, b) h
def SpaceAt (C : Addr) (d b : Nat) (v : V) (H : Hp) : Prop := (d, b) ∈ spaces ∧ ∃ a dx, v = .ref a ∧ H a = some (.ins C dx (k_Space.zip [.int (d : Int), .int (b : Int), .int ((d * b : Nat) : Int), .int ((2 ^ b : Nat) : Int)]))
theorem SpaceAt.mono {C : Addr} {d b : Nat} {v : V} {H H' : Hp} (h : SpaceAt C d b v H) (e : Ex H H') : SpaceAt C d b v H' := let ⟨s, a, dx, e1, e2⟩ := h; ⟨s, a, dx, e1, e a _ e2⟩
/-- a point's tuple -/
def PtT (v : V) (pt : List Nat) (H : Hp) : Prop := ∃ a, v = .ref a ∧ H a = some (.tup (pt.map fun (x : Nat) => V.int (x : Int)))
theorem PtT.mono {v : V} {pt : List Nat} {H H' : Hp} (h : PtT v pt H) (e : Ex H H') : PtT v pt H' := let ⟨a, e1, e2⟩ := h; ⟨a, e1, e a _ e2⟩
/-- a point of the space -/
def Pnt (d b : Nat) (pt : List Nat) : Prop := pt.length = d ∧ ∀ x ∈ pt, x < 2 ^ b
def spSize (C : Addr) : Sp := fun vs H Q _ => ∃ (s x : V) (d b : Nat) (p : Pre), vs = [s, x] ∧ SpaceAt C d b s H ∧ PT x p H ∧ p.1 ≤ d * b ∧ RetV (.int (sz (d * b) p : Int)) H Q
def spIsPoint (C : Addr) : Sp := fun vs H Q _ => ∃ (s x : V) (d b : Nat) (pt : List Nat), vs = [s, x] ∧ SpaceAt C d b s H ∧ PtT x pt H ∧ Pnt d b pt ∧ RetV (.bl true) H Q
def spCheck (C : Addr) : Sp := fun vs H Q _ => ∃ (s x : V) (d b : Nat) (pt : List Nat), vs = [s, x] ∧ SpaceAt C d b s H ∧ PtT x pt H ∧ Pnt d b pt ∧ RetV .non H Q
def spWoven (C : Addr) : Sp := fun vs H Q _ => ∃ (s x : V) (d b : Nat) (pt : List Nat), vs = [s, x] ∧ SpaceAt C d b s H ∧ PtT x pt H ∧ Pnt d b pt ∧ RetV (.int (wovenN b pt : Int)) H Q
def spPointOf (C : Addr) : Sp := fun vs H Q _ => ∃ (s : V) (d b n : Nat), vs = [s, .int n] ∧ SpaceAt C d b s H ∧ RetP (fun v H => PtT v (pointOf d b n) H) H Q
def spIsPrefix (C : Addr) : Sp := fun vs H Q _ => ∃ (s x : V) (d b : Nat) (p : Pre), vs = [s, x] ∧ SpaceAt C d b s H ∧ PT x p H ∧ p.1 ≤ d * b ∧ ins p (0, 0) ∧ RetV (.bl true) H Q
def CellT (d b : Nat) (p : Pre) (v : V) (H : Hp) : Prop := ∃ t x y, v = .ref t ∧ H t = some (.tup [x, y]) ∧ PtT x (lowOf d b p) H ∧ PtT y (highOf d b p) H
def spCell (C : Addr) : Sp := fun vs H Q _ => ∃ (s x : V) (d b : Nat) (p : Pre), vs = [s, x] ∧ SpaceAt C d b s H ∧ PT x p H ∧ p.1 ≤ d * b ∧ RetP (CellT d b p) H Q
/-- all but the object at x is as it was -/
def But (x : Addr) (H H' : Hp) : Prop := ∀ c o, H c = some o → c ≠ x → H' c = some o
def spSpaceInit (C : Addr) : Sp := fun vs H Q _ => ∃ (x dx : Addr) (d b : Nat), vs = [.ref x, .int d, .int b] ∧ H x = some (.ins C dx []) ∧ (d, b) ∈ spaces ∧ ∀ H', But x H H' → SpaceAt C d b (.ref x) H' → Q .non H'

/-- all that is no list is as it was -/
def ExL (H H' : Hp) : Prop := ∀ a o, H a = some o → (∀ xs, o ≠ .lst xs) → H' a = some o
theorem Ex.l {H H' : Hp} (e : Ex H H') : ExL H H' := fun a o h _ => e a o h
theorem ExL.list {H : Hp} {Dl : Addr} {zs ws : List V} (h : H Dl = some (.lst zs)) : ExL H (upd H Dl (.lst ws)) := fun a o ha n => by
  rw [upd_ne]
  · exact ha
  · rintro rfl
    rw [h] at ha
    exact n zs (Option.some.inj ha).symm
theorem PT.ml {v : V} {p : Pre} {H H' : Hp} (h : PT v p H) (e : ExL H H') : PT v p H' := let ⟨a, e1, e2⟩ := h; ⟨a, e1, e a _ e2 fun _ z => nomatch z⟩
theorem PtT.ml {v : V} {p : List Nat} {H H' : Hp} (h : PtT v p H) (e : ExL H H') : PtT v p H' := let ⟨a, e1, e2⟩ := h; ⟨a, e1, e a _ e2 fun _ z => nomatch z⟩
/-- [e for x in xs]: each turn gives a value of its kind, nothing else is touched -/
theorem lc_map {J : It} {G : Hp → Prop} {xs : List V} {te : TE} {vs : List Nat} {σ : St} {H1 : Hp} {Dl : Addr} {Qd : Hp → Prop} {j : Nat} (wk : Walk J xs.length G (YAt xs)) (hG : ∀ H, Ex H1 H → G H) (R : Nat → V → Hp → Prop)
    (mono : ∀ i v H H', ExL H H' → R i v H → R i v H') (hz : xs.length ≤ 40000) (hD : H1 Dl = none) (hw : ∀ x, wipe ((wipe σ vs).set j (some x)) vs = wipe σ vs)
    (he : ∀ i x H, xs[i]? = some x → Ex H1 H → ∀ Q : VK, (∀ v H2, Ex H H2 → R i v H2 → Q v H2) → te ((wipe σ vs).set j (some x)) H Q)
    (hd : ∀ ys H2, Ex H1 H2 → H2 Dl = some (.lst ys) → ys.length = xs.length → (∀ i v, ys[i]? = some v → R i v H2) → Qd H2) :
    ∃ W : Nat → Nat → Hp → Prop, (∃ m, W 0 m (upd H1 Dl (.lst []))) ∧ ∀ i m H, W i m H →
      (J.stop i H ∧ Qd H) ∨ (J.go i H ∧ ∃ Nx : Hp → Prop, (∀ H', Nx H' → ∃ m', m' < m ∧ W (i + 1) m' H') ∧ ∀ x H', J.yld i H x H' → gName j x (wipe σ vs) H' fun σ2 H2 => wipe σ2 vs = wipe σ vs ∧ tYes σ2 H2 fun b H3 =>
        if b = true then te σ2 H3 fun y H4 => ∃ acc, H4 Dl = some (.lst acc) ∧ acc.length < sizeLine ∧ Nx (upd H4 Dl (.lst (acc ++ [y]))) else Nx H3) := by
  refine lc_it wk (fun i H => Ex H1 H ∧ ∃ ys, H Dl = some (.lst ys) ∧ ys.length = i ∧ ∀ k v, ys[k]? = some v → R k v H) ⟨Ex.new hD, [], upd_same, rfl, fun k v h => by simp at h⟩ (fun i H _ h => hG H h.1) ?_ ?_
  · rintro i x H H' hi ⟨e, ys, hy, hl, hr⟩ ⟨rfl, hx⟩
    refine ⟨hw x, ?_⟩
    show te ((wipe σ vs).set j (some x)) H' _
    refine he i x H' hx e _ fun v H2 e2 hv => ⟨ys, e2 _ _ hy, sz_lt (by omega), ?_, ys ++ [v], upd_same, by rw [List.length_append, hl]; rfl, fun k u hk => ?_⟩
    · intro c o hc
      rw [upd_ne (ne_of_none hc hD)]
      exact e2 _ _ (e _ _ hc)
    · have z : ExL H2 (upd H2 Dl (.lst (ys ++ [v]))) := ExL.list (e2 _ _ hy)
      by_cases c : k < ys.length
      · rw [List.getElem?_append_left c] at hk
        exact mono _ _ _ _ z (mono _ _ _ _ (Ex.l e2) (hr k u hk))
      · rw [List.getElem?_append_right (by omega)] at hk
        by_cases c2 : k - ys.length = 0
        · rw [c2] at hk
          have e3 : v = u := by simpa using hk
          have e4 : k = i := by omega
          subst e3 e4
          exact mono _ _ _ _ z hv
        · rw [List.getElem?_eq_none (by show 1 ≤ _; omega)] at hk
          cases hk
  · rintro H ⟨e, ys, hy, hl, hr⟩
    exact hd ys H e hy hl hr
section
variable {X : Cx} {K : PySem.W.Frag}
/-! the rules within a comprehension: the written part by its name -/
theorem pe_fldK {e : Expr} {f : Str} {pos : Pos} {ta : TE} (hK : X.K = K) (he : PE X e ta) (hb : attributeBase e f X.env (eval e X.env) = eval e X.env) : PE X (.Attribute e f pos) (tFld K ta f) := hK ▸ pe_fld he hb
theorem ix_tupK (hK : X.K = K) : IxR X (rIxT K) := hK ▸ ix_tup
theorem ix_listK (hK : X.K = K) : IxR X (rIxL K) := hK ▸ ix_list
theorem op_catAK (hK : X.K = K) : OpR X (binaryOp .Add) (rCatA K) := hK ▸ op_catA
theorem pg_tupK {es : List Expr} {k : Nat} {pos : Pos} {t : TGs} {n : Nat} (hK : X.K = K) (hc : X.calm = true) (h : PGs X es t) (hn : (assignEach es X.env).length = n := by rfl) (hst : (assignEach es X.env).findIdx? (·.1) = none := by rfl) :
    PG X (.Tuple es k pos) (gTup K n t) := hK ▸ pg_tup hc h hn hst
end
section
variable {P : Program} {w : World} {K : PySem.W.Frag} {mg : Str → Option Value} {base : Heap}
theorem ok_Space_size (T : Txt K mg) : FnOk P w K mg base CX0 2 T.f_Space_size T.d_Space_size ["self", "prefix"] (spSize T.C_Space) := by
  refine T.F_Space_size.ok sc_Space_size (fun vs H Q E h => ?_) (fun cdv A outer s H vs Q E hr h => ?_)
  · obtain ⟨_, _, _, _, _, rfl, _⟩ := h; rfl
  obtain ⟨s, x, d, b, p, rfl, ⟨hs, a, dx, rfl, ha⟩, ⟨c, rfl, hc⟩, hp, k⟩ := h
  refine ⟨_, (pss_one (ps_ret (pe_call (ok_power T) (hr.mono (by decide)) (by rfl) T.mg_power T.F_power.kp T.b_power .nil pass0 (pa_cons (pe_op op_sub (pe_fld (pv 0) (by rfl)) (pe_ix ix_tup (pv 1) pe_int (fun _ _ => rfl))) pa_nil)))), ?_⟩
  have hd := (sp_le hs).2.2.2.2
  refine r_Space_depth T rfl ha rfl ?_
  refine g_ix 0 rfl hc rfl ?_
  refine ⟨_, _, rfl, rfl, d * b - p.1, ?_, by omega, fun H2 e2 => k H2 e2⟩
  show [V.int (((d * b : Nat) : Int) - (p.1 : Int))] = _
  rw [← Int.ofNat_sub hp]
theorem ok_Space_is_point (T : Txt K mg) : FnOk P w K mg base CX0 2 T.f_Space_is_point T.d_Space_is_point ["self", "thing"] (spIsPoint T.C_Space) := by
  refine T.F_Space_is_point.ok sc_Space_is_point (fun vs H Q E h => ?_) (fun cdv A outer s H vs Q E hr h => ?_)
  · obtain ⟨_, _, _, _, _, rfl, _⟩ := h; rfl
  obtain ⟨s, x, d, b, pt, rfl, ⟨hs, a, dx, rfl, ha⟩, ⟨c, rfl, hc⟩, ⟨hl, hx⟩, k⟩ := h
  have nd := sc_Space_is_point.nd
  have hd := sp_le hs
  refine ⟨_, (pss_cons (ps_if (PW.pt (pw_or (pt_not (pt_val (pe_callB call_isi (by rfl) T.z_isinstance (by decide +kernel) (pa_cons (pv 1) (pa_cons (pe_bltn (v := .ty "tuple") (by rfl) T.z_tuple (by decide +kernel) rfl) pa_nil))))) (pw_or1 (pt_cmpR op_ne (pe_callB call_len_seq (by rfl) T.z_len (by decide +kernel) (pa_cons (pv 1) pa_nil)) (pe_fld (pv 0) (by rfl)) (nomark _))))) (pss_one (ps_ret pe_bl)) pss_nil)
      (pss_one (ps_ret (pe_callB (cr_all rfl) (by rfl) T.z_all (by decide +kernel) (pa_cons (pe_lc (own := [("number", 2)]) (g := gName 2) (tt := tYes) (by rfl) nd (pi_tup (pv 1)) (blkOk_by (own := [("number", 2)]) (N := N_Space_is_point) (sc := defScope s_Space_is_point) (by decide +kernel)) (fun _ _ _ _ _ => (pg_name (i := 2) nd rfl (Or.inl rfl))) (fun _ _ _ _ _ => pts_nil) (fun _ _ _ _ _ => (pe_call (ok_is_whole T) (hr.mono (by decide)) (by rfl) T.mg_is_whole T.F_is_whole.kp T.b_is_whole .nil pass0 (pa_cons (pv 2) (pa_cons pe_int (pa_cons (pe_op op_sub (pe_fldK (K := K) rfl (pv 0) (by rfl)) pe_int) pa_nil)))))) pa_nil))))), ?_⟩
  refine ⟨_, rfl, _, _, _, _, true, rfl, .ty "tuple", .base (.tup hc), kit_ty (by decide +kernel), true, rfl, iteF ?_⟩
  refine ⟨_, rfl, c, _, rfl, .inr (SqT.of hc), r_Space_dimensions T rfl ha rfl ⟨rfl, false, ?_, iteF ?_⟩⟩
  · rw [List.length_map, hl]; simp
  refine ⟨_, rfl, c, rfl, ⟨_, SqT.of hc⟩, fun Dl hD => lc_map walk_tup (fun H1 e1 => SqT.of (e1 _ _ hc)) (fun _ v _ => v = .bl true) (fun _ _ _ _ _ h => h) ?_ hD (fun x => rfl) ?_ ?_⟩
  · rw [List.length_map, hl]; omega
  · intro i x H1 hi e1 Q1 k1
    rw [List.getElem?_map] at hi
    obtain ⟨n, hn, rfl⟩ := Option.map_eq_some_iff.mp hi
    have hlt := hx n (List.mem_of_getElem? hn)
    refine ⟨_, rfl, r_Space_side T rfl (e1 _ _ ha) rfl ⟨_, _, rfl, rfl, _, _, _, rfl, fun H2 e2 => k1 _ H2 e2 ?_⟩⟩
    show V.bl (decide ((0 : Int) ≤ (n : Int)) && decide ((n : Int) ≤ ((2 ^ b : Nat) : Int) - 1)) = V.bl true
    rw [decide_eq_true (by omega), decide_eq_true (by omega)]; rfl
  · intro ys H2 e2 hy hyl hr'
    have e : ys = (List.replicate ys.length true).map V.bl := by
      rw [List.map_replicate]
      refine List.eq_replicate_of_mem fun v hv => ?_
      obtain ⟨i, hi⟩ := List.mem_iff_getElem?.mp hv
      exact hr' i v hi
    rw [e] at hy
    refine ⟨_, _, rfl, SqL.of hy, ?_⟩
    have : (List.replicate ys.length true).all id = true := by simp
    rw [this]
    exact k H2 e2
theorem ok_Space_check_point (T : Txt K mg) : FnOk P w K mg base CX0 3 T.f_Space_check_point T.d_Space_check_point ["self", "thing"] (spCheck T.C_Space) := by
  refine T.F_Space_check_point.ok sc_Space_check_point (fun vs H Q E h => ?_) (fun cdv A outer s H vs Q E hr h => ?_)
  · obtain ⟨_, _, _, _, _, rfl, _⟩ := h; rfl
  obtain ⟨s, x, d, b, pt, rfl, hs, hx, hp, k⟩ := h
  obtain ⟨_, a, dx, rfl, ha⟩ := id hs
  refine ⟨_, (pss_one (ps_if (pt_not (pt_val (pe_meth (pv 0) T.cl_Space T.M_Space_is_point (ok_Space_is_point T) (hr.mono (by decide)) T.b_Space_is_point .nil pass0 (pa_cons (pv 1) pa_nil)))) (pss_one ps_never) pss_nil)), ?_⟩
  refine ⟨_, rfl, a, dx, _, rfl, ha, fn_Space_is_point _, _, rfl, _, x, d, b, pt, rfl, hs, hx, hp, fun H2 e2 => ⟨true, rfl, iteF ?_⟩⟩
  exact k H2 e2
theorem ok_Space_is_prefix (T : Txt K mg) : FnOk P w K mg base CX0 2 T.f_Space_is_prefix T.d_Space_is_prefix ["self", "thing"] (spIsPrefix T.C_Space) := by
  refine T.F_Space_is_prefix.ok sc_Space_is_prefix (fun vs H Q E h => ?_) (fun cdv A outer s H vs Q E hr h => ?_)
  · obtain ⟨_, _, _, _, _, rfl, _⟩ := h; rfl
  obtain ⟨s, x, d, b, p, rfl, ⟨hs, a, dx, rfl, ha⟩, ⟨c, rfl, hc⟩, hp, hv, k⟩ := h
  have hd := sp_le hs
  refine ⟨_, (pss_cons (ps_if (PW.pt (pw_or (pt_not (pt_val (pe_callB call_isi (by rfl) T.z_isinstance (by decide +kernel) (pa_cons (pv 1) (pa_cons (pe_bltn (v := .ty "tuple") (by rfl) T.z_tuple (by decide +kernel) rfl) pa_nil))))) (pw_or (pt_cmpR op_ne (pe_callB call_len_seq (by rfl) T.z_len (by decide +kernel) (pa_cons (pv 1) pa_nil)) pe_int (nomark _)) (pw_or1 (pt_not (pt_val (pe_call (ok_is_whole T) (hr.mono (by decide)) (by rfl) T.mg_is_whole T.F_is_whole.kp T.b_is_whole .nil pass0 (pa_cons (pe_ix ix_tup (pv 1) pe_int (fun _ _ => rfl)) (pa_cons pe_int (pa_cons (pe_fld (pv 0) (by rfl)) pa_nil)))))))))) (pss_one (ps_ret pe_bl)) pss_nil)
      (pss_one (ps_ret (pe_call (ok_is_whole T) (hr.mono (by decide)) (by rfl) T.mg_is_whole T.F_is_whole.kp T.b_is_whole .nil pass0 (pa_cons (pe_ix ix_tup (pv 1) pe_int (fun _ _ => rfl)) (pa_cons pe_int (pa_cons (pe_op op_sub (pe_call (ok_power T) (hr.mono (by decide)) (by rfl) T.mg_power T.F_power.kp T.b_power .nil pass0 (pa_cons (pe_ix ix_tup (pv 1) pe_int (fun _ _ => rfl)) pa_nil)) pe_int) pa_nil))))))), ?_⟩
  refine ⟨_, rfl, _, _, _, _, true, rfl, .ty "tuple", .base (.tup hc), kit_ty (by decide +kernel), true, rfl, iteF ?_⟩
  refine ⟨_, rfl, c, _, rfl, .inr (SqT.of hc), rfl, false, rfl, iteF ?_⟩
  refine g_ix 0 rfl hc rfl (r_Space_depth T rfl ha rfl ⟨_, _, _, rfl, fun H1 e1 => ⟨true, ?_, iteF ?_⟩⟩)
  · show V.bl (decide ((0 : Int) ≤ (p.1 : Int)) && decide ((p.1 : Int) ≤ ((d * b : Nat) : Int))) = V.bl true
    rw [decide_eq_true (by omega), decide_eq_true (by omega)]; rfl
  have lt := of_root_ins hv
  refine g_ix 1 rfl (e1 _ _ hc) rfl (g_ix 0 rfl (e1 _ _ hc) rfl ⟨p.1, rfl, by omega, fun H2 e2 => ⟨_, _, rfl, rfl, _, _, _, rfl, fun H3 e3 => ?_⟩⟩)
  have := k H3 ((e1.trans e2).trans e3)
  have e : (decide ((0 : Int) ≤ (p.2 : Int)) && decide ((p.2 : Int) ≤ ((2 ^ p.1 : Nat) : Int) - 1)) = true := by
    rw [decide_eq_true (by omega), decide_eq_true (by omega)]; rfl
  rw [← e] at this
  exact this
theorem ok_Space_init (T : Txt K mg) : FnOk P w K mg base CX0 2 T.f_Space_init T.d_Space_init ["self", "dimensions", "bits"] (spSpaceInit T.C_Space) := by
  refine T.F_Space_init.ok sc_Space_init (fun vs H Q E h => ?_) (fun cdv A outer s H vs Q E hr h => ?_)
  · obtain ⟨_, _, _, _, rfl, _⟩ := h; rfl
  obtain ⟨x, dx, d, b, rfl, hx, hs, k⟩ := h
  have hd := sp_le hs
  refine ⟨_, (pss_cons (ps_if (pt_not (pt_val (pe_call (ok_is_whole T) (hr.mono (by decide)) (by rfl) T.mg_is_whole T.F_is_whole.kp T.b_is_whole .nil pass0 (pa_cons (pv 1) (pa_cons pe_int (pa_cons (pe_glob (v := .int 3) (by rfl) T.mg_MOST_DIMENSIONS ⟨_, rfl⟩) pa_nil)))))) (pss_one ps_never) pss_nil)
      (pss_cons (ps_if (pt_not (pt_val (pe_call (ok_is_whole T) (hr.mono (by decide)) (by rfl) T.mg_is_whole T.F_is_whole.kp T.b_is_whole .nil pass0 (pa_cons (pv 2) (pa_cons pe_int (pa_cons (pe_glob (v := .int 10) (by rfl) T.mg_MOST_BITS ⟨_, rfl⟩) pa_nil)))))) (pss_one ps_never) pss_nil)
      (pss_cons (ps_fld (pv 0) (pv 1) rfl)
      (pss_cons (ps_fld (pv 0) (pv 2) rfl)
      (pss_cons (ps_fld (pv 0) (pe_op op_mul (pv 1) (pv 2)) rfl)
      (pss_one (ps_fld (pv 0) (pe_call (ok_power T) (hr.mono (by decide)) (by rfl) T.mg_power T.F_power.kp T.b_power .nil pass0 (pa_cons (pv 2) pa_nil)) rfl))))))), ?_⟩
  refine ⟨_, rfl, _, _, _, rfl, fun H1 e1 => ⟨true, ?_, iteF ?_⟩⟩
  · show V.bl (decide ((1 : Int) ≤ (d : Int)) && decide ((d : Int) ≤ 3)) = V.bl true
    rw [decide_eq_true (by omega), decide_eq_true (by omega)]; rfl
  refine ⟨_, rfl, _, _, _, rfl, fun H2 e2 => ⟨true, ?_, iteF ?_⟩⟩
  · show V.bl (decide ((1 : Int) ≤ (b : Int)) && decide ((b : Int) ≤ 10)) = V.bl true
    rw [decide_eq_true (by omega), decide_eq_true (by omega)]; rfl
  have hx2 := e2 _ _ (e1 _ _ hx)
  refine ⟨_, rfl, _, rfl, p_Space_dimensions (vs := []) T hx2 rfl ⟨_, rfl, _, rfl, p_Space_bits (vs := [_]) T upd_same rfl ⟨_, rfl, _, rfl, _, _, rfl, rfl, .inl ⟨by omega, by omega⟩, _, rfl, p_Space_depth (vs := [_, _]) T upd_same rfl ?_⟩⟩⟩
  refine ⟨_, rfl, b, rfl, by omega, fun H3 e3 => ⟨_, rfl, p_Space_side (vs := [_, _, _]) T (e3 _ _ upd_same) rfl ?_⟩⟩
  refine k _ (fun c o hc n => ?_) ⟨hs, x, dx, rfl, upd_same⟩
  rw [upd_ne n]
  refine e3 _ _ ?_
  rw [upd_ne n, upd_ne n, upd_ne n]
  exact e2 _ _ (e1 _ _ hc)
end
end FW
namespace FW
open PySem L2 FC Evl
theorem wRow_snoc (half : Nat) (pt : List Nat) (x f : Nat) : wRow half (pt ++ [x]) f = wRow half pt f * 2 + x / half % 2 := by
  unfold wRow; rw [List.foldl_append]; rfl
theorem wFrom_succ (pt : List Nat) (s : Nat × Nat) (n : Nat) : wFrom pt s (n + 1) = (wRow (wFrom pt s n).2 pt (wFrom pt s n).1, (wFrom pt s n).2 / 2) := by
  unfold wFrom; rw [List.range_succ, List.foldl_append]; rfl
theorem wFrom_half (pt : List Nat) (f b : Nat) : ∀ n, (wFrom pt (f, 2 ^ b / 2) n).2 = 2 ^ b / 2 / 2 ^ n
  | 0 => by show 2 ^ b / 2 = _; rw [Nat.pow_zero, Nat.div_one]
  | n + 1 => by rw [wFrom_succ, wFrom_half pt f b n, Nat.pow_succ, ← Nat.div_div_eq_div_mul]
theorem half_pos {b n : Nat} (h : n < b) : 0 < 2 ^ b / 2 / 2 ^ n := by
  have e : 2 ^ b / 2 / 2 ^ n = 2 ^ (b - 1 - n) := by
    have : 2 ^ b = 2 ^ (b - 1) * 2 := by rw [← Nat.pow_succ]; congr 1; omega
    rw [this, Nat.mul_div_cancel _ (by decide), Nat.pow_div (by omega) (by decide)]
  rw [e]; exact Nat.pow_pos (by decide)
theorem half_small {b n : Nat} (h : b ≤ 5) : 2 ^ b / 2 / 2 ^ n ≤ 16 := by
  have : 2 ^ b ≤ 2 ^ 5 := Nat.pow_le_pow_right (by decide) h
  have := Nat.div_le_self (2 ^ b / 2) (2 ^ n)
  omega
theorem take_snoc {α : Type} {l : List α} {i : Nat} {x : α} (h : l[i]? = some x) : l.take (i + 1) = l.take i ++ [x] := by
  rw [List.take_succ, h]; rfl
theorem ptFrom_succ (d n : Nat) (s : List Nat × Nat) (i : Nat) : ptFrom d n s (i + 1) = ptStep d n (ptFrom d n s i) i := by
  unfold ptFrom; rw [List.range_succ, List.foldl_append]; rfl
theorem ptFrom_len (d n : Nat) (s : List Nat × Nat) : ∀ i, (ptFrom d n s i).1.length = s.1.length
  | 0 => rfl
  | i + 1 => by rw [ptFrom_succ]; show (List.set _ _ _).length = _; rw [List.length_set, ptFrom_len d n s i]
theorem ptFrom_room (d n : Nat) (s : List Nat × Nat) (h : 1 ≤ s.2) (m : Nat) (hm : s.2 ≤ m) : ∀ i, 1 ≤ (ptFrom d n s i).2 ∧ (ptFrom d n s i).2 ≤ m
  | 0 => ⟨h, hm⟩
  | i + 1 => by
    have ih := ptFrom_room d n s h m hm i
    rw [ptFrom_succ]
    show 1 ≤ max 1 ((ptFrom d n s i).2 / 2) ∧ max 1 ((ptFrom d n s i).2 / 2) ≤ m
    omega
section
variable {P : Program} {w : World} {K : PySem.W.Frag} {mg : Str → Option Value} {base : Heap}
theorem ok_Space_woven (T : Txt K mg) : FnOk P w K mg base CX0 4 T.f_Space_woven T.d_Space_woven ["self", "point"] (spWoven T.C_Space) := by
  refine T.F_Space_woven.ok sc_Space_woven (fun vs H Q E h => ?_) (fun cdv A outer s H vs Q E hr h => ?_)
  · obtain ⟨_, _, _, _, _, rfl, _⟩ := h; rfl
  obtain ⟨s, x, d, b, pt, rfl, hs, hx, hp, k⟩ := h
  obtain ⟨hsp, a, dx, rfl, ha⟩ := id hs
  obtain ⟨c, rfl, hc⟩ := id hx
  have nd := sc_Space_woven.nd
  have hd := sp_le hsp
  refine ⟨_, (pss_cons (ps_expr (pe_meth (pv 0) T.cl_Space T.M_Space_check_point (ok_Space_check_point T) (hr.mono (by decide)) T.b_Space_check_point .nil pass0 (pa_cons (pv 1) pa_nil)))
      (pss_cons (ps_par (i := 2) (j := 3) (by rfl) nd rfl rfl (by decide) rfl rfl (pa_cons pe_int (pa_cons (pe_op op_fdiv (pe_fld (pv 0) (by rfl)) pe_int) pa_nil)) (by rfl))
      (pss_cons (ps_for PassesOwn.never (by rfl) (pi_range1 (by rfl) T.z_range (pa_cons (pe_fld (pv 0) (by rfl)) pa_nil)) (pg_name (i := 4) nd rfl (Or.inl rfl))
      (pss_cons (ps_for PassesOwn.never (by rfl) (pi_tup (pv 1)) (pg_name (i := 5) nd rfl (Or.inl rfl))
      (pss_one (ps_set (i := 2) nd rfl (Or.inl rfl) (pe_op op_add (pe_op op_mul (pv 2) pe_int) (pe_op op_mod (pe_callTy call_int1 (by rfl) T.z_int (by decide +kernel) (pa_cons (pe_op op_fdiv (pv 5) (pv 3)) pa_nil)) pe_int)))))
      (pss_one (ps_set (i := 3) nd rfl (Or.inl rfl) (pe_op op_fdiv (pv 3) pe_int)))))
      (pss_one (ps_ret (pv 2)))))), ?_⟩
  refine ⟨_, rfl, a, dx, _, rfl, ha, fn_Space_check_point _, _, rfl, _, _, d, b, pt, rfl, hs, hx, hp, fun H1 e1 => ?_⟩
  refine r_Space_side T rfl (e1 _ _ ha) rfl ?_
  refine ⟨_, _, rfl, rfl, ⟨by decide, by decide⟩, _, _, rfl, ?_⟩
  refine r_Space_bits T rfl (e1 _ _ ha) rfl ?_
  refine ⟨(b : Int), rfl, by omega, by omega, for_range (n := (b : Int).toNat) (fun i σ H' => ∃ t u, σ = [some (.ref a), some (.ref c), some (.int (((wFrom pt (0, 2 ^ b / 2) i).1 : Nat) : Int)), some (.int (((wFrom pt (0, 2 ^ b / 2) i).2 : Nat) : Int)), t, u] ∧ Ex H H') ⟨none, none, rfl, e1⟩ ?_ ?_⟩
  · rintro i σ H' hi ⟨t, u, rfl, e⟩
    have hib : i < b := by omega
    have hh := wFrom_half pt 0 b i
    have hp0 := half_pos hib
    have hp1 : 2 ^ b / 2 / 2 ^ i ≤ 16 := half_small (by omega)
    generalize hw : wFrom pt (0, 2 ^ b / 2) i = wi at hh ⊢
    rw [← hh] at hp0 hp1
    refine ⟨_, rfl, c, rfl, ⟨_, SqT.of (e _ _ hc)⟩, for_tup (xs := pt.map fun (x : Nat) => V.int (x : Int)) (fun j σ H' => ∃ u, σ = [some (.ref a), some (.ref c), some (.int ((wRow wi.2 (pt.take j) wi.1 : Nat) : Int)), some (.int ((wi.2 : Nat) : Int)), some (.int (0 + (i : Int))), u] ∧ Ex H H') ⟨u, rfl, e⟩ (fun j σ H' _ h => ?_) ?_ ?_⟩
    · obtain ⟨_, _, e⟩ := h
      exact SqT.of (e _ _ hc)
    · rintro j y σ H' hj ⟨u, rfl, e⟩
      rw [List.getElem?_map] at hj
      obtain ⟨n, hn, rfl⟩ := Option.map_eq_some_iff.mp hj
      refine ⟨_, rfl, _, _, rfl, rfl, .inr ⟨by decide, by decide⟩, ?_⟩
      refine ⟨_, rfl, _, rfl, _, _, rfl, rfl, ⟨by omega, by omega⟩, .inl ⟨_, rfl, _, _, rfl, rfl, (by show (0 : Int) < 2; decide), _, _, rfl, rfl, some (.int (n : Int)), ?_, e⟩⟩
      show [some (V.ref a), some (V.ref c), some (V.int (((wRow wi.2 (pt.take j) wi.1 : Nat) : Int) * 2 + (n : Int) / (wi.2 : Int) % 2)), some (V.int (wi.2 : Int)), some (V.int (0 + (i : Int))), some (V.int (n : Int))] = _
      rw [take_snoc hn, wRow_snoc]
      rfl
    · rintro σ H' ⟨u, rfl, e⟩
      refine ⟨_, rfl, _, _, rfl, rfl, ⟨by decide, by decide⟩, some (.int (0 + (i : Int))), u, ?_, e⟩
      rw [wFrom_succ, hw, List.length_map, List.take_length]
      rfl
  · rintro σ H' ⟨t, u, rfl, e⟩
    refine ⟨_, rfl, ?_⟩
    have e2 : ((b : Int).toNat) = b := by omega
    rw [e2]
    exact k _ e
theorem ok_Space_point_of (T : Txt K mg) : FnOk P w K mg base CX0 2 T.f_Space_point_of T.d_Space_point_of ["self", "number"] (spPointOf T.C_Space) := by
  refine T.F_Space_point_of.ok sc_Space_point_of (fun vs H Q E h => ?_) (fun cdv A outer s H vs Q E hr h => ?_)
  · obtain ⟨_, _, _, _, rfl, _⟩ := h; rfl
  obtain ⟨s, d, b, n, rfl, ⟨hsp, a, dx, rfl, ha⟩, k⟩ := h
  have nd := sc_Space_point_of.nd
  have hd := sp_le hsp
  have hD : 1 ≤ d * b := Nat.mul_pos (by omega) (by omega)
  refine ⟨_, (pss_cons (ps_par (i := 2) (j := 3) (by rfl) nd rfl rfl (by decide) rfl rfl (pa_cons (pe_op op_rep (pe_lst (pa_cons pe_int pa_nil)) (pe_fld (pv 0) (by rfl))) (pa_cons (pe_op op_fdiv (pe_call (ok_power T) (hr.mono (by decide)) (by rfl) T.mg_power T.F_power.kp T.b_power .nil pass0 (pa_cons (pe_fld (pv 0) (by rfl)) pa_nil)) pe_int) pa_nil)) (by rfl))
      (pss_cons (ps_for PassesOwn.never (by rfl) (pi_range1 (by rfl) T.z_range (pa_cons (pe_fld (pv 0) (by rfl)) pa_nil)) (pg_name (i := 4) nd rfl (Or.inl rfl))
      (pss_cons (ps_set (i := 5) nd rfl (Or.inl rfl) (pe_op op_mod (pe_callTy call_int1 (by rfl) T.z_int (by decide +kernel) (pa_cons (pv 4) pa_nil)) (pe_fld (pv 0) (by rfl))))
      (pss_cons (ps_asg (pe_op op_add (pe_op op_mul (pe_ix ix_list (pv 2) (pv 5) (fun _ _ => rfl)) pe_int) (pe_op op_mod (pe_callTy call_int1 (by rfl) T.z_int (by decide +kernel) (pa_cons (pe_op op_fdiv (pv 1) (pv 3)) pa_nil)) pe_int)) (pg_sub (pv 2) (pv 5) set_list))
      (pss_one (ps_set (i := 3) nd rfl (Or.inl rfl) (pe_callB (call_max2 rfl) (by rfl) T.z_max (by decide +kernel) (pa_cons pe_int (pa_cons (pe_op op_fdiv (pv 3) pe_int) pa_nil))))))))
      (pss_one (ps_ret (pe_callTy call_tuple_of (by rfl) T.z_tuple (by decide +kernel) (pa_cons (pv 2) pa_nil)))))), ?_⟩
  refine ⟨(by show 1 ≤ sizeLine; decide), fun l1 hl1 => ?_⟩
  have e1 : Ex H (upd H l1 (.lst [.int 0])) := Ex.new hl1
  refine r_Space_dimensions T rfl (e1 _ _ ha) rfl ?_
  refine ⟨l1, d, _, rfl, rfl, upd_same, by omega, by omega, ?_, fun l hl => ?_⟩
  · show 1 * (d : Int).toNat ≤ sizeLine
    have : sizeLine = 16777216 := sizeLine_eq
    omega
  have erep : (List.replicate (d : Int).toNat [V.int 0]).flatten = (List.replicate d 0).map fun (x : Nat) => V.int (x : Int) := by
    rw [List.map_replicate, show (d : Int).toNat = d by omega]
    clear hl hd hsp hD ha e1 k
    induction d with
    | zero => rfl
    | succ m ih => rw [List.replicate_succ, List.flatten_cons, ih, List.replicate_succ]; rfl
  rw [erep]
  have hl0 : H l = none := fresh_back e1 hl
  have e2 : Ex H (upd (upd H l1 (.lst [.int 0])) l (.lst ((List.replicate d 0).map fun (x : Nat) => V.int (x : Int)))) := e1.trans (Ex.new hl)
  have hll : upd (upd H l1 (.lst [.int 0])) l (.lst ((List.replicate d 0).map fun (x : Nat) => V.int (x : Int))) l = some (.lst ((List.replicate d 0).map fun (x : Nat) => V.int (x : Int))) := upd_same
  generalize upd (upd H l1 (.lst [.int 0])) l (.lst ((List.replicate d 0).map fun (x : Nat) => V.int (x : Int))) = H2 at e2 hll ⊢
  refine r_Space_depth T rfl (e2 _ _ ha) rfl ?_
  refine ⟨d * b, rfl, by omega, fun H3 e3 => ⟨_, _, rfl, rfl, ⟨by decide, by decide⟩, _, _, rfl, ?_⟩⟩
  have ha3 := e3 _ _ (e2 _ _ ha)
  refine r_Space_depth T rfl ha3 rfl ?_
  have start : 1 ≤ 2 ^ (d * b) / 2 ∧ 2 ^ (d * b) / 2 ≤ 32 := by
    have h1 : 2 ^ 1 ≤ 2 ^ (d * b) := Nat.pow_le_pow_right (by decide) hD
    have h2 : 2 ^ (d * b) ≤ 2 ^ 6 := Nat.pow_le_pow_right (by decide) (by omega)
    omega
  have lens := ptFrom_len d n (List.replicate d 0, 2 ^ (d * b) / 2)
  have room := ptFrom_room d n (List.replicate d 0, 2 ^ (d * b) / 2) start.1 32 start.2
  refine ⟨((d * b : Nat) : Int), rfl, by omega, by omega, for_range (n := ((d * b : Nat) : Int).toNat) (fun i σ H' => ∃ t u, σ = [some (.ref a), some (.int n), some (.ref l), some (.int (((ptFrom d n (List.replicate d 0, 2 ^ (d * b) / 2) i).2 : Nat) : Int)), t, u] ∧
    (∀ c o, H c = some o → H' c = some o) ∧ H' l = some (.lst ((ptFrom d n (List.replicate d 0, 2 ^ (d * b) / 2) i).1.map fun (x : Nat) => V.int (x : Int)))) ⟨none, none, rfl, e2.trans e3, e3 _ _ hll⟩ ?_ ?_⟩
  · rintro i σ H' hi ⟨t, u, rfl, e, hL⟩
    have lens := lens i
    have room := room i
    have hsucc := ptFrom_succ d n (List.replicate d 0, 2 ^ (d * b) / 2) i
    generalize ptFrom d n (List.replicate d 0, 2 ^ (d * b) / 2) i = wi at lens room hsucc hL ⊢
    rw [List.length_replicate] at lens
    have hax : i % d < wi.1.length := by rw [lens]; exact Nat.mod_lt _ (by omega)
    refine ⟨_, rfl, .inl ⟨_, rfl, ?_⟩⟩
    refine r_Space_dimensions T rfl (e _ _ ha) rfl ?_
    refine ⟨_, _, rfl, rfl, (by show (0 : Int) < (d : Int); omega), ?_⟩
    have eax : ((0 : Int) + (i : Int)) % (d : Int) = ((i % d : Nat) : Int) := by rw [Int.zero_add]; rfl
    have hv : (wi.1.map fun (x : Nat) => V.int (x : Int))[i % d]? = some (V.int ((wi.1.getD (i % d) 0 : Nat) : Int)) := by
      rw [List.getElem?_map, List.getElem?_eq_getElem hax, List.getD_eq_getElem?_getD, List.getElem?_eq_getElem hax]; rfl
    refine ⟨_, rfl, _, rfl, l, _, _, _, rfl, rfl, SqL.of hL, at_of eax hv, _, _, rfl, rfl, .inr ⟨by decide, by decide⟩, ?_⟩
    refine ⟨_, rfl, _, rfl, _, _, rfl, rfl, ⟨by omega, by omega⟩, .inl ⟨_, rfl, _, _, rfl, rfl, (by show (0 : Int) < 2; decide), _, _, rfl, rfl, ?_⟩⟩
    refine ⟨_, rfl, _, rfl, l, _, _, i % d, rfl, rfl, hL, (by rw [eax]; exact ixN_nat (by rw [List.length_map]; exact hax)), ?_⟩
    refine ⟨_, rfl, _, _, rfl, rfl, ⟨by decide, by decide⟩, _, _, rfl, ?_⟩
    refine ⟨some (.int (0 + (i : Int))), some (.int ((i % d : Nat) : Int)), ?_, fun c o hc => ?_, ?_⟩
    · rw [hsucc]
      have : (if ((wi.2 : Nat) : Int) / 2 > 1 then ((wi.2 : Nat) : Int) / 2 else 1) = ((max 1 (wi.2 / 2) : Nat) : Int) := by
        split <;> omega
      show [some (V.ref a), some (V.int n), some (V.ref l), some (V.int (if ((wi.2 : Nat) : Int) / 2 > 1 then ((wi.2 : Nat) : Int) / 2 else 1)), some (V.int (0 + (i : Int))), some (V.int ((0 + (i : Int)) % (d : Int)))] = _
      rw [this, eax]
      rfl
    · rw [upd_ne (ne_of_none hc hl0)]
      exact e c o hc
    · rw [upd_same, hsucc]
      show some (HO.lst ((wi.1.map fun (x : Nat) => V.int (x : Int)).set (i % d) (V.int (((wi.1.getD (i % d) 0 : Nat) : Int) * 2 + (n : Int) / (wi.2 : Int) % 2)))) = some (HO.lst ((wi.1.set (i % d) (wi.1.getD (i % d) 0 * 2 + n / wi.2 % 2)).map fun (x : Nat) => V.int (x : Int)))
      rw [List.map_set]
      rfl
  · rintro σ H' ⟨t, u, rfl, e, hL⟩
    refine ⟨_, rfl, l, _, rfl, .inl ⟨SqL.of hL, fun p hp => ?_⟩⟩
    have e3 : Ex H (upd H' p (.tup ((ptFrom d n (List.replicate d 0, 2 ^ (d * b) / 2) ((d * b : Nat) : Int).toNat).1.map fun (x : Nat) => V.int (x : Int)))) := Ex.trans (H1 := H') e (Ex.new hp)
    refine k _ _ e3 ⟨p, rfl, ?_⟩
    rw [upd_same, show ((d * b : Nat) : Int).toNat = d * b by omega]
    rfl
theorem ok_Space_cell (T : Txt K mg) : FnOk P w K mg base CX0 3 T.f_Space_cell T.d_Space_cell ["self", "prefix"] (spCell T.C_Space) := by
  refine T.F_Space_cell.ok sc_Space_cell (fun vs H Q E h => ?_) (fun cdv A outer s H vs Q E hr h => ?_)
  · obtain ⟨_, _, _, _, _, rfl, _⟩ := h; rfl
  obtain ⟨s, x, d, b, p, rfl, hs, hx, hp, k⟩ := h
  obtain ⟨hsp, a, dx, rfl, ha⟩ := id hs
  obtain ⟨c, rfl, hc⟩ := id hx
  have nd := sc_Space_cell.nd
  have hd := sp_le hsp
  have hz : sz (d * b) p ≤ 64 := by
    show 2 ^ (d * b - p.1) ≤ 2 ^ 6
    exact Nat.pow_le_pow_right (by decide) (by omega)
  have hz0 := sz_pos (d * b) p
  refine ⟨_, (pss_cons (ps_set (i := 2) nd rfl (Or.inl rfl) (pe_op op_mul (pe_ix ix_tup (pv 1) pe_int (fun _ _ => rfl)) (pe_meth (pv 0) T.cl_Space T.M_Space_size (ok_Space_size T) (hr.mono (by decide)) T.b_Space_size .nil pass0 (pa_cons (pv 1) pa_nil))))
      (pss_one (ps_ret (pe_tup (pa_cons (pe_meth (pv 0) T.cl_Space T.M_Space_point_of (ok_Space_point_of T) (hr.mono (by decide)) T.b_Space_point_of .nil pass0 (pa_cons (pv 2) pa_nil)) (pa_cons (pe_meth (pv 0) T.cl_Space T.M_Space_point_of (ok_Space_point_of T) (hr.mono (by decide)) T.b_Space_point_of .nil pass0 (pa_cons (pe_op op_sub (pe_op op_add (pv 2) (pe_meth (pv 0) T.cl_Space T.M_Space_size (ok_Space_size T) (hr.mono (by decide)) T.b_Space_size .nil pass0 (pa_cons (pv 1) pa_nil))) pe_int) pa_nil)) pa_nil)))))), ?_⟩
  refine g_ix 1 rfl hc rfl ?_
  refine ⟨_, rfl, a, dx, _, rfl, ha, fn_Space_size _, _, rfl, _, _, d, b, p, rfl, hs, hx, hp, fun H1 e1 => ⟨_, _, rfl, rfl, .inr ⟨by omega, by omega⟩, ?_⟩⟩
  refine ⟨_, rfl, a, dx, _, rfl, e1 _ _ ha, fn_Space_point_of _, _, rfl, _, d, b, p.2 * sz (d * b) p, rfl, hs.mono e1, fun v H2 e2 hv => ?_⟩
  have e12 := e1.trans e2
  refine ⟨_, rfl, a, dx, _, rfl, e12 _ _ ha, fn_Space_point_of _, _, rfl, _, rfl, a, dx, _, rfl, e12 _ _ ha, fn_Space_size _, _, rfl, _, _, d, b, p, rfl, hs.mono e12, hx.mono e12, hp, fun H3 e3 => ?_⟩
  refine ⟨_, _, rfl, rfl, _, _, rfl, rfl, ?_⟩
  refine ⟨_, d, b, p.2 * sz (d * b) p + sz (d * b) p - 1, ?_, hs.mono (e12.trans e3), fun u H4 e4 hu => ⟨two_line, fun t ht => ?_⟩⟩
  · show [V.ref a, V.int (((p.2 * sz (d * b) p : Nat) : Int) + (sz (d * b) p : Int) - 1)] = [V.ref a, V.int ((p.2 * sz (d * b) p + sz (d * b) p - 1 : Nat) : Int)]
    congr 3
    omega
  have e5 : Ex H4 (upd H4 t (.tup [v, u])) := Ex.new ht
  exact k _ _ (((e12.trans e3).trans e4).trans e5) ⟨t, v, u, rfl, upd_same, hv.mono ((e3.trans e4).trans e5), hu.mono e5⟩
end
end FW
namespace Z4
open PySem PySem.Spec PyProof.Rows L2 RZ
open PySem.Sem (wp)
theorem typeCall_zip_4 (a b c d : Value) : checkTypeCall "zip" ⟨[a, b, c, d], []⟩ = pure () := by kernel_rfl
theorem newCall_zip_4 (a b c d : Value) : checkBuiltinCall "zip.__new__" ⟨[.type "zip", a, b, c, d], []⟩ = pure () := by kernel_rfl
theorem args_object_init_5 (obj a b c d : Value) : argsOk "object.__init__" ⟨[obj, a, b, c, d], []⟩ := by unfold argsOk; kernel_rfl
theorem ne_ {a b : Nat} (h : ¬ @Eq Nat a b) : @Ne Addr a b := h
abbrev IsQ (h : Heap) (T : Addr) (a b c d : Value) : Prop := h.get? T = some { cls := .type "tuple", data := .seq #[a, b, c, d] }
abbrev tit (l : Addr) : Obj := { cls := .type "tuple_iterator", data := .fields #[.ref l, .int 0 0] }
section
variable {prog : Program} {w : World} {A : Around} {E : Value → Shared → Prop} {s : Shared}
theorem updateSeq_q {T : Addr} {a b c d x : Value} {k : Nat} {Q : Unit → Shared → Prop} (hT : IsQ s.heap T a b c d)
    (h : ∀ h', h'.get? T = some { cls := .type "tuple", data := .seq ((#[a, b, c, d] : Array Value).setIfInBounds k x) } → Heap.SameBut T s.heap h' → Q () { s with heap := h' }) :
    wpAny (model prog w) A (updateSeq T (·.setIfInBounds k x)) Q E s := by
  refine wpAny_updateSeq hT rfl (h _ ?_ (Heap.SameBut.update ..))
  rw [Heap.get?_update_self _ hT rfl]
  simp [Obj.mapSeq]
theorem next_item {n l1 l2 l3 l4 : Nat} {j : Nat} {v1 v2 v3 v4 : Array Value} {a1 a2 a3 a4 : Value} {x1 x2 x3 x4 : Value} {Q : Value → Shared → Prop} (hz : IsZip s.heap (n + 6) (n + 4) (n + 5) .none) (hTI : IsQ s.heap (n + 4) (.ref n) (.ref (n + 1)) (.ref (n + 2)) (.ref (n + 3))) (hTO : IsQ s.heap (n + 5) a1 a2 a3 a4)
    (h1 : s.heap.IsTupleIter n l1 j) (h2 : s.heap.IsTupleIter (n + 1) l2 j) (h3 : s.heap.IsTupleIter (n + 2) l3 j) (h4 : s.heap.IsTupleIter (n + 3) l4 j)
    (p1 : s.heap.IsTuple l1 v1) (p2 : s.heap.IsTuple l2 v2) (p3 : s.heap.IsTuple l3 v3) (p4 : s.heap.IsTuple l4 v4)
    (b1 : l1 < n) (b2 : l2 < n) (b3 : l3 < n) (b4 : l4 < n)
    (e1 : v1[j]? = some x1) (e2 : v2[j]? = some x2) (e3 : v3[j]? = some x3) (e4 : v4[j]? = some x4)
    (hQ : ∀ h', IsZip h' (n + 6) (n + 4) (n + 5) (rawInt s.heap.objs.size) → IsQ h' (n + 5) x1 x2 x3 x4 → h'.IsTupleIter n l1 (j + 1) → h'.IsTupleIter (n + 1) l2 (j + 1) → h'.IsTupleIter (n + 2) l3 (j + 1) → h'.IsTupleIter (n + 3) l4 (j + 1) → IsQ h' s.heap.objs.size x1 x2 x3 x4 → h'.objs.size = s.heap.objs.size + 1 →
      (∀ c o, c ≠ n → c ≠ n + 1 → c ≠ n + 2 → c ≠ n + 3 → c ≠ n + 5 → c ≠ n + 6 → s.heap.get? c = some o → h'.get? c = some o) → Q (.ref s.heap.objs.size) { s with heap := h' }) :
    wpAny (model prog w) A (Builtin.«zip.__next__» ⟨[.ref (n + 6)], []⟩) (fun fin s' => ∃ v, fin = .done (.ret v) ∧ Q v s') E s := by
  show wpAny _ _ (field (.ref (n + 6)) 2 >>= _) _ _ _
  refine wpAny_bind (wpAny_field hz rfl (x := .bool false) rfl ?_)
  show wpAny _ _ (field (.ref (n + 6)) 3 >>= _) _ _ _
  refine wpAny_bind (wpAny_field hz rfl (x := .ref (n + 4)) rfl ?_)
  refine wpAny_bind (wpAny_seqItems hTI rfl ?_)
  show wpAny _ _ (Builtin.SmallTypes.ownedTupleIsFree (.ref (n + 6)) >>= _) _ _ _
  refine wpAny_bind ?_
  unfold Builtin.SmallTypes.ownedTupleIsFree
  refine wpAny_bind (wpAny_field hz rfl (x := .none) rfl (wpAny_pure ?_))
  simp only [if_true]
  refine wpAny_bind (wpAny_rule ?_)
  refine wpAny_bind (wpAny_field hz rfl (x := .ref (n + 5)) rfl ?_)
  refine wpAny_bind (wpAny_setField_rec hz (by simp) fun g0 hz0 hs0 => ?_)
  replace hz0 : IsZip g0 (n + 6) (n + 4) (n + 5) .ellipsis := hz0
  refine wpAny_bind ?_
  simp only [List.zipIdx_cons, List.zipIdx_nil, List.forIn_cons, List.forIn_nil]
  refine wpAny_bind (wpAny_bind (wpAny_onRaise ?_))
  show wpAny _ _ (Builtin.SmallTypes.nextOf (.ref n) >>= _) _ _ _
  refine wpAny_bind (nextOf_tuple_item (h1.extBut hs0.extBut (ne_ (by omega))) (p1.extBut hs0.extBut (ne_ (by omega))) e1 fun q1 i1 r1 => wpAny_pure ?_)
  have u1 : IsQ q1 (n + 5) a1 a2 a3 a4 := (r1.extBut _ _ (ne_ (by omega)) (hs0.extBut _ _ (ne_ (by omega)) hTO))
  refine wpAny_bind (wpAny_seqItems u1 rfl ?_)
  refine wpAny_bind (updateSeq_q u1 fun g1 t1 hs1 => ?_)
  replace t1 : IsQ g1 (n + 5) x1 a2 a3 a4 := t1
  refine wpAny_bind (wpAny_letGo (wpAny_pure ?_))
  refine wpAny_bind (wpAny_bind (wpAny_onRaise ?_))
  show wpAny _ _ (Builtin.SmallTypes.nextOf (.ref (n + 1)) >>= _) _ _ _
  refine wpAny_bind (nextOf_tuple_item (((h2.extBut hs0.extBut (ne_ (by omega))).extBut r1.extBut (ne_ (by omega))).extBut hs1.extBut (ne_ (by omega))) (((p2.extBut hs0.extBut (ne_ (by omega))).extBut r1.extBut (ne_ (by omega))).extBut hs1.extBut (ne_ (by omega))) e2 fun q2 i2 r2 => wpAny_pure ?_)
  have u2 : IsQ q2 (n + 5) x1 a2 a3 a4 := (r2.extBut _ _ (ne_ (by omega)) t1)
  refine wpAny_bind (wpAny_seqItems u2 rfl ?_)
  refine wpAny_bind (updateSeq_q u2 fun g2 t2 hs2 => ?_)
  replace t2 : IsQ g2 (n + 5) x1 x2 a3 a4 := t2
  refine wpAny_bind (wpAny_letGo (wpAny_pure ?_))
  refine wpAny_bind (wpAny_bind (wpAny_onRaise ?_))
  show wpAny _ _ (Builtin.SmallTypes.nextOf (.ref (n + 2)) >>= _) _ _ _
  refine wpAny_bind (nextOf_tuple_item (((((h3.extBut hs0.extBut (ne_ (by omega))).extBut r1.extBut (ne_ (by omega))).extBut hs1.extBut (ne_ (by omega))).extBut r2.extBut (ne_ (by omega))).extBut hs2.extBut (ne_ (by omega))) (((((p3.extBut hs0.extBut (ne_ (by omega))).extBut r1.extBut (ne_ (by omega))).extBut hs1.extBut (ne_ (by omega))).extBut r2.extBut (ne_ (by omega))).extBut hs2.extBut (ne_ (by omega))) e3 fun q3 i3 r3 => wpAny_pure ?_)
  have u3 : IsQ q3 (n + 5) x1 x2 a3 a4 := (r3.extBut _ _ (ne_ (by omega)) t2)
  refine wpAny_bind (wpAny_seqItems u3 rfl ?_)
  refine wpAny_bind (updateSeq_q u3 fun g3 t3 hs3 => ?_)
  replace t3 : IsQ g3 (n + 5) x1 x2 x3 a4 := t3
  refine wpAny_bind (wpAny_letGo (wpAny_pure ?_))
  refine wpAny_bind (wpAny_bind (wpAny_onRaise ?_))
  show wpAny _ _ (Builtin.SmallTypes.nextOf (.ref (n + 3)) >>= _) _ _ _
  refine wpAny_bind (nextOf_tuple_item (((((((h4.extBut hs0.extBut (ne_ (by omega))).extBut r1.extBut (ne_ (by omega))).extBut hs1.extBut (ne_ (by omega))).extBut r2.extBut (ne_ (by omega))).extBut hs2.extBut (ne_ (by omega))).extBut r3.extBut (ne_ (by omega))).extBut hs3.extBut (ne_ (by omega))) (((((((p4.extBut hs0.extBut (ne_ (by omega))).extBut r1.extBut (ne_ (by omega))).extBut hs1.extBut (ne_ (by omega))).extBut r2.extBut (ne_ (by omega))).extBut hs2.extBut (ne_ (by omega))).extBut r3.extBut (ne_ (by omega))).extBut hs3.extBut (ne_ (by omega))) e4 fun q4 i4 r4 => wpAny_pure ?_)
  have u4 : IsQ q4 (n + 5) x1 x2 x3 a4 := (r4.extBut _ _ (ne_ (by omega)) t3)
  refine wpAny_bind (wpAny_seqItems u4 rfl ?_)
  refine wpAny_bind (updateSeq_q u4 fun g4 t4 hs4 => ?_)
  replace t4 : IsQ g4 (n + 5) x1 x2 x3 x4 := t4
  refine wpAny_bind (wpAny_letGo (wpAny_pure (wpAny_pure ?_)))
  refine wpAny_bind (wpAny_seqItems t4 rfl ?_)
  refine wpAny_bind (wpAny_newTuple ?_)
  have hsz : g4.objs.size = s.heap.objs.size := by rw [hs4.1, r4.1, hs3.1, r3.1, hs2.1, r2.1, hs1.1, r1.1, hs0.1]
  have hz4 : IsZip g4 (n + 6) (n + 4) (n + 5) .ellipsis := (hs4.extBut _ _ (ne_ (by omega)) (r4.extBut _ _ (ne_ (by omega)) (hs3.extBut _ _ (ne_ (by omega)) (r3.extBut _ _ (ne_ (by omega)) (hs2.extBut _ _ (ne_ (by omega)) (r2.extBut _ _ (ne_ (by omega)) (hs1.extBut _ _ (ne_ (by omega)) (r1.extBut _ _ (ne_ (by omega)) hz0))))))))
  have hk4 : ∀ c o, c ≠ n → c ≠ n + 1 → c ≠ n + 2 → c ≠ n + 3 → c ≠ n + 5 → c ≠ n + 6 → s.heap.get? c = some o → g4.get? c = some o := fun c o c1 c2 c3 c4 c5 c6 e => (hs4.extBut _ _ (ne_ (by omega)) (r4.extBut _ _ (ne_ (by omega)) (hs3.extBut _ _ (ne_ (by omega)) (r3.extBut _ _ (ne_ (by omega)) (hs2.extBut _ _ (ne_ (by omega)) (r2.extBut _ _ (ne_ (by omega)) (hs1.extBut _ _ (ne_ (by omega)) (r1.extBut _ _ (ne_ (by omega)) (hs0.extBut _ _ (ne_ (by omega)) e)))))))))
  have w1 : g4.IsTupleIter n l1 (j + 1) := (((((((i1.extBut hs1.extBut (ne_ (by omega))).extBut r2.extBut (ne_ (by omega))).extBut hs2.extBut (ne_ (by omega))).extBut r3.extBut (ne_ (by omega))).extBut hs3.extBut (ne_ (by omega))).extBut r4.extBut (ne_ (by omega))).extBut hs4.extBut (ne_ (by omega)))
  have w2 : g4.IsTupleIter (n + 1) l2 (j + 1) := (((((i2.extBut hs2.extBut (ne_ (by omega))).extBut r3.extBut (ne_ (by omega))).extBut hs3.extBut (ne_ (by omega))).extBut r4.extBut (ne_ (by omega))).extBut hs4.extBut (ne_ (by omega)))
  have w3 : g4.IsTupleIter (n + 2) l3 (j + 1) := (((i3.extBut hs3.extBut (ne_ (by omega))).extBut r4.extBut (ne_ (by omega))).extBut hs4.extBut (ne_ (by omega)))
  have w4 : g4.IsTupleIter (n + 3) l4 (j + 1) := (i4.extBut hs4.extBut (ne_ (by omega)))
  have hzlt : n + 6 < g4.objs.size := Heap.lt_size hz4
  show wpAny _ _ (Builtin.SmallTypes.ownedTupleHandOut (.ref (n + 6)) (.ref g4.objs.size) >>= _) _ _ _
  refine wpAny_bind ?_
  unfold Builtin.SmallTypes.ownedTupleHandOut
  have hz6 : IsZip (g4.push { cls := .type "tuple", data := .seq #[x1, x2, x3, x4] }) (n + 6) (n + 4) (n + 5) .ellipsis := Heap.get?_push_of_some _ hz4
  refine wpAny_bind (wpAny_setField_rec hz6 (by simp) fun h7 hz7 hs7 => ?_)
  replace hz7 : IsZip h7 (n + 6) (n + 4) (n + 5) (rawInt g4.objs.size) := hz7
  refine wpAny_setField_rec hz7 (by simp) fun h8 hz8 hs8 => ?_
  replace hz8 : IsZip h8 (n + 6) (n + 4) (n + 5) (rawInt g4.objs.size) := hz8
  have up : ∀ c o, c ≠ n + 6 → g4.get? c = some o → h8.get? c = some o := fun c o c1 e => hs8.extBut _ _ c1 (hs7.extBut _ _ c1 (Heap.get?_push_of_some _ e))
  have hT8 : IsQ h8 g4.objs.size x1 x2 x3 x4 := hs8.extBut _ _ (Nat.ne_of_gt hzlt) (hs7.extBut _ _ (Nat.ne_of_gt hzlt) (Heap.get?_push_size _ rfl))
  have z8 : h8.objs.size = g4.objs.size + 1 := by rw [hs8.1, hs7.1, Heap.size_push]
  rw [hsz] at hz8 hT8 z8
  refine wpAny_pure ⟨_, rfl, ?_⟩
  show Q (.ref g4.objs.size) _
  rw [hsz]
  exact hQ h8 hz8 (up _ _ (ne_ (by omega)) t4) (w1.at fun o e => up _ o (ne_ (by omega)) e) (w2.at fun o e => up _ o (ne_ (by omega)) e) (w3.at fun o e => up _ o (ne_ (by omega)) e) (w4.at fun o e => up _ o (ne_ (by omega)) e) hT8 z8 fun c o c1 c2 c3 c4 c5 c6 e => up c o c6 (hk4 c o c1 c2 c3 c4 c5 c6 e)
theorem next_end {n l1 l2 l3 l4 : Nat} {j : Nat} {v1 v2 v3 v4 : Array Value} {a1 a2 a3 a4 : Value} {Q : Fin → Shared → Prop} (hh : A.handled = none) (hz : IsZip s.heap (n + 6) (n + 4) (n + 5) .none) (hTI : IsQ s.heap (n + 4) (.ref n) (.ref (n + 1)) (.ref (n + 2)) (.ref (n + 3))) (hTO : IsQ s.heap (n + 5) a1 a2 a3 a4)
    (h1 : s.heap.IsTupleIter n l1 j) (h2 : s.heap.IsTupleIter (n + 1) l2 j) (h3 : s.heap.IsTupleIter (n + 2) l3 j) (h4 : s.heap.IsTupleIter (n + 3) l4 j)
    (p1 : s.heap.IsTuple l1 v1) (p2 : s.heap.IsTuple l2 v2) (p3 : s.heap.IsTuple l3 v3) (p4 : s.heap.IsTuple l4 v4)
    (b1 : l1 < n) (b2 : l2 < n) (b3 : l3 < n) (b4 : l4 < n) (e1 : v1[j]? = none)
    (hE : ∀ h' e, (∀ c o, c ≠ n → c ≠ n + 1 → c ≠ n + 2 → c ≠ n + 3 → c ≠ n + 5 → c ≠ n + 6 → s.heap.get? c = some o → h'.get? c = some o) → (∃ o, h'.get? e = some o ∧ o.cls = .type "StopIteration") → E (.ref e) { s with heap := h' }) :
    wpAny (model prog w) A (Builtin.«zip.__next__» ⟨[.ref (n + 6)], []⟩) Q E s := by
  show wpAny _ _ (field (.ref (n + 6)) 2 >>= _) _ _ _
  refine wpAny_bind (wpAny_field hz rfl (x := .bool false) rfl ?_)
  show wpAny _ _ (field (.ref (n + 6)) 3 >>= _) _ _ _
  refine wpAny_bind (wpAny_field hz rfl (x := .ref (n + 4)) rfl ?_)
  refine wpAny_bind (wpAny_seqItems hTI rfl ?_)
  show wpAny _ _ (Builtin.SmallTypes.ownedTupleIsFree (.ref (n + 6)) >>= _) _ _ _
  refine wpAny_bind ?_
  unfold Builtin.SmallTypes.ownedTupleIsFree
  refine wpAny_bind (wpAny_field hz rfl (x := .none) rfl (wpAny_pure ?_))
  simp only [if_true]
  refine wpAny_bind (wpAny_rule ?_)
  refine wpAny_bind (wpAny_field hz rfl (x := .ref (n + 5)) rfl ?_)
  refine wpAny_bind (wpAny_setField_rec hz (by simp) fun g0 hz0 hs0 => ?_)
  replace hz0 : IsZip g0 (n + 6) (n + 4) (n + 5) .ellipsis := hz0
  refine wpAny_bind ?_
  simp only [List.zipIdx_cons, List.zipIdx_nil, List.forIn_cons, List.forIn_nil]
  refine wpAny_bind (wpAny_bind (wpAny_onRaise ?_))
  show wpAny _ _ (Builtin.SmallTypes.nextOf (.ref n) >>= _) _ _ _
  refine wpAny_bind (nextOf_tuple_end hh (h1.extBut hs0.extBut (ne_ (by omega))) (p1.extBut hs0.extBut (ne_ (by omega))) e1 fun h2 e hs2 he => ?_)
  obtain ⟨oe, hoe, hce⟩ := he
  have hz2 : IsZip h2 (n + 6) (n + 4) (n + 5) .ellipsis := hs2 _ _ (ne_ (by omega)) hz0
  have hez : e ≠ n + 6 := fun x => by subst x; rw [hz2] at hoe; cases hoe; simp at hce
  refine wpAny_setField_rec hz2 (by simp) fun h3 _ hs3 => hE h3 e (fun c o c1 c2 c3 c4 c5 c6 x => hs3.extBut _ _ c6 (hs2 _ _ c1 (hs0.extBut _ _ c6 x))) ⟨oe, hs3.extBut _ _ hez hoe, hce⟩
theorem pyNext_item {n l1 l2 l3 l4 : Nat} {j : Nat} {v1 v2 v3 v4 : Array Value} {a1 a2 a3 a4 : Value} {x1 x2 x3 x4 : Value} {Q : Option Value → Shared → Prop} (hz : IsZip s.heap (n + 6) (n + 4) (n + 5) .none) (hTI : IsQ s.heap (n + 4) (.ref n) (.ref (n + 1)) (.ref (n + 2)) (.ref (n + 3))) (hTO : IsQ s.heap (n + 5) a1 a2 a3 a4)
    (h1 : s.heap.IsTupleIter n l1 j) (h2 : s.heap.IsTupleIter (n + 1) l2 j) (h3 : s.heap.IsTupleIter (n + 2) l3 j) (h4 : s.heap.IsTupleIter (n + 3) l4 j)
    (p1 : s.heap.IsTuple l1 v1) (p2 : s.heap.IsTuple l2 v2) (p3 : s.heap.IsTuple l3 v3) (p4 : s.heap.IsTuple l4 v4)
    (b1 : l1 < n) (b2 : l2 < n) (b3 : l3 < n) (b4 : l4 < n)
    (e1 : v1[j]? = some x1) (e2 : v2[j]? = some x2) (e3 : v3[j]? = some x3) (e4 : v4[j]? = some x4)
    (hQ : ∀ h', IsZip h' (n + 6) (n + 4) (n + 5) (rawInt s.heap.objs.size) → IsQ h' (n + 5) x1 x2 x3 x4 → h'.IsTupleIter n l1 (j + 1) → h'.IsTupleIter (n + 1) l2 (j + 1) → h'.IsTupleIter (n + 2) l3 (j + 1) → h'.IsTupleIter (n + 3) l4 (j + 1) → IsQ h' s.heap.objs.size x1 x2 x3 x4 → h'.objs.size = s.heap.objs.size + 1 →
      (∀ c o, c ≠ n → c ≠ n + 1 → c ≠ n + 2 → c ≠ n + 3 → c ≠ n + 5 → c ≠ n + 6 → s.heap.get? c = some o → h'.get? c = some o) → Q (some (.ref s.heap.objs.size)) { s with heap := h' }) :
    wpAny (model prog w) A (pyNext (.ref (n + 6))) Q E s := by
  have hT : s.TypeIs (.ref (n + 6)) "zip" := ⟨_, hz, rfl⟩
  unfold pyNext
  exact wpAny_bind (wpAny_attempt (wpAny_callSpecial?_slot (name := Str.ofString "__next__") hT F.slot_zip_next
    (wpAny_call_entry F.slot_zip_next hT F.entry_zip_next
      (next_item hz hTI hTO h1 h2 h3 h4 p1 p2 p3 p4 b1 b2 b3 b4 e1 e2 e3 e4 fun h' c1 c2 c3 c4 c5 c6 c7 c8 c9 => wpAny_pure (hQ h' c1 c2 c3 c4 c5 c6 c7 c8 c9)) (F.args_zip_next_1 _))))
theorem pyNext_end {n l1 l2 l3 l4 : Nat} {j : Nat} {v1 v2 v3 v4 : Array Value} {a1 a2 a3 a4 : Value} {Q : Option Value → Shared → Prop} (hh : A.handled = none) (hz : IsZip s.heap (n + 6) (n + 4) (n + 5) .none) (hTI : IsQ s.heap (n + 4) (.ref n) (.ref (n + 1)) (.ref (n + 2)) (.ref (n + 3))) (hTO : IsQ s.heap (n + 5) a1 a2 a3 a4)
    (h1 : s.heap.IsTupleIter n l1 j) (h2 : s.heap.IsTupleIter (n + 1) l2 j) (h3 : s.heap.IsTupleIter (n + 2) l3 j) (h4 : s.heap.IsTupleIter (n + 3) l4 j)
    (p1 : s.heap.IsTuple l1 v1) (p2 : s.heap.IsTuple l2 v2) (p3 : s.heap.IsTuple l3 v3) (p4 : s.heap.IsTuple l4 v4)
    (b1 : l1 < n) (b2 : l2 < n) (b3 : l3 < n) (b4 : l4 < n) (e1 : v1[j]? = none)
    (hQ : ∀ h', (∀ c o, c ≠ n → c ≠ n + 1 → c ≠ n + 2 → c ≠ n + 3 → c ≠ n + 5 → c ≠ n + 6 → s.heap.get? c = some o → h'.get? c = some o) → Q none { s with heap := h' }) : wpAny (model prog w) A (pyNext (.ref (n + 6))) Q E s := by
  have hT : s.TypeIs (.ref (n + 6)) "zip" := ⟨_, hz, rfl⟩
  unfold pyNext
  refine wpAny_bind (wpAny_attempt (wpAny_callSpecial?_slot (name := Str.ofString "__next__") hT F.slot_zip_next
    (wpAny_call_entry F.slot_zip_next hT F.entry_zip_next (next_end hh hz hTI hTO h1 h2 h3 h4 p1 p2 p3 p4 b1 b2 b3 b4 e1 fun h' e hk he => ?_) (F.args_zip_next_1 _))))
  obtain ⟨o, ho, hc⟩ := he
  refine wpAny_bind (wpAny_isInstance (T := "StopIteration") (b := true) ⟨o, ho, hc⟩ isSubtype_stop ?_)
  exact wpAny_pure (hQ _ hk)
end
abbrev zH0 (h : Heap) : Heap := h
abbrev zH1 (h : Heap) (l1 : Addr) : Heap := (zH0 h).push (tit l1)
abbrev zH2 (h : Heap) (l1 l2 : Addr) : Heap := (zH1 h l1).push (tit l2)
abbrev zH3 (h : Heap) (l1 l2 l3 : Addr) : Heap := (zH2 h l1 l2).push (tit l3)
abbrev zH4 (h : Heap) (l1 l2 l3 l4 : Addr) : Heap := (zH3 h l1 l2 l3).push (tit l4)
abbrev zHT (h : Heap) (l1 l2 l3 l4 : Addr) : Heap := (zH4 h l1 l2 l3 l4).push { cls := .type "tuple", data := .seq #[.ref h.objs.size, .ref (zH1 h l1).objs.size, .ref (zH2 h l1 l2).objs.size, .ref (zH3 h l1 l2 l3).objs.size] }
abbrev zHO (h : Heap) (l1 l2 l3 l4 : Addr) : Heap := (zHT h l1 l2 l3 l4).push { cls := .type "tuple", data := .seq #[.none, .none, .none, .none] }
abbrev zHZ (h : Heap) (l1 l2 l3 l4 : Addr) : Heap := (zHO h l1 l2 l3 l4).push { cls := .type "zip", data := .fields #[.none, .bool false, .bool false, .ref (zH4 h l1 l2 l3 l4).objs.size, .ref (zHT h l1 l2 l3 l4).objs.size] }
theorem meets_new (l1 l2 l3 l4 : Addr) (v1 v2 v3 v4 : Array Value) :
    Meets (Builtin.«zip.__new__» ⟨[.type "zip", .ref l1, .ref l2, .ref l3, .ref l4], []⟩) (fun _ R s => (s.heap.IsTuple l1 v1 ∧ s.heap.IsTuple l2 v2 ∧ s.heap.IsTuple l3 v3 ∧ s.heap.IsTuple l4 v4) ∧
      R (.ok (.ret (.ref (zHO s.heap l1 l2 l3 l4).objs.size))) { s with heap := zHZ s.heap l1 l2 l3 l4 }) :=
  .of_wp fun prog w A R s h => by
    obtain ⟨hp, g, d, tk, os⟩ := s; obtain ⟨⟨t1, t2, t3, t4⟩, h⟩ := h
    have hsub := sub_zip
    have q1 : Heap.IsTuple (Shared.heap ⟨hp, g, d, tk, os⟩) l1 v1 := t1
    have q2 : Heap.IsTuple (Shared.heap ⟨zH1 hp l1, g, d, tk, os⟩) l2 v2 := Heap.IsTuple.push t2 _
    have q3 : Heap.IsTuple (Shared.heap ⟨zH2 hp l1 l2, g, d, tk, os⟩) l3 v3 := Heap.IsTuple.push (Heap.IsTuple.push t3 _) _
    have q4 : Heap.IsTuple (Shared.heap ⟨zH3 hp l1 l2 l3, g, d, tk, os⟩) l4 v4 := Heap.IsTuple.push (Heap.IsTuple.push (Heap.IsTuple.push t4 _) _) _
    wp_walk using wpAny_pyIter_tuple q1, wpAny_pyIter_tuple q2, wpAny_pyIter_tuple q3, wpAny_pyIter_tuple q4
    exact ⟨_, rfl, h⟩
section
variable {prog : Program} {w : World} {A : Around} {E : Value → Shared → Prop} {s : Shared}
theorem call4 {l1 l2 l3 l4 : Addr} {v1 v2 v3 v4 : Array Value} {Q : Value → Shared → Prop} (t1 : s.heap.IsTuple l1 v1) (t2 : s.heap.IsTuple l2 v2) (t3 : s.heap.IsTuple l3 v3) (t4 : s.heap.IsTuple l4 v4)
    (h : ∀ h', IsZip h' (s.heap.objs.size + 6) (s.heap.objs.size + 4) (s.heap.objs.size + 5) .none → IsQ h' (s.heap.objs.size + 4) (.ref s.heap.objs.size) (.ref (s.heap.objs.size + 1)) (.ref (s.heap.objs.size + 2)) (.ref (s.heap.objs.size + 3)) →
      IsQ h' (s.heap.objs.size + 5) .none .none .none .none → h'.IsTupleIter s.heap.objs.size l1 0 → h'.IsTupleIter (s.heap.objs.size + 1) l2 0 → h'.IsTupleIter (s.heap.objs.size + 2) l3 0 → h'.IsTupleIter (s.heap.objs.size + 3) l4 0 → h'.objs.size = s.heap.objs.size + 7 →
      (∀ c o, s.heap.get? c = some o → h'.get? c = some o) → Q (.ref (s.heap.objs.size + 6)) { s with heap := h' }) :
    wpAny (model prog w) A (call (.type "zip") [.ref l1, .ref l2, .ref l3, .ref l4]) Q E s := by
  refine callType_new F.called_zip (by decide) (typeCall_zip_4 _ _ _ _) (newCall_zip_4 _ _ _ _) (fun obj => args_object_init_5 obj _ _ _ _) F.entry_zip_new
    (meets_new l1 l2 l3 l4 v1 v2 v3 v4) ⟨⟨t1, t2, t3, t4⟩, ?_⟩
  have z1 : (zH1 s.heap l1).objs.size = s.heap.objs.size + 1 := Heap.size_push ..
  have z2 : (zH2 s.heap l1 l2).objs.size = s.heap.objs.size + 2 := by rw [Heap.size_push, z1]
  have z3 : (zH3 s.heap l1 l2 l3).objs.size = s.heap.objs.size + 3 := by rw [Heap.size_push, z2]
  have z4 : (zH4 s.heap l1 l2 l3 l4).objs.size = s.heap.objs.size + 4 := by rw [Heap.size_push, z3]
  have z5 : (zHT s.heap l1 l2 l3 l4).objs.size = s.heap.objs.size + 5 := by rw [Heap.size_push, z4]
  have z6 : (zHO s.heap l1 l2 l3 l4).objs.size = s.heap.objs.size + 6 := by rw [Heap.size_push, z5]
  have z7 : (zHZ s.heap l1 l2 l3 l4).objs.size = s.heap.objs.size + 7 := by rw [Heap.size_push, z6]
  have g7 : (zHZ s.heap l1 l2 l3 l4).get? (zHO s.heap l1 l2 l3 l4).objs.size = some _ := (Heap.get?_push_size _ rfl)
  have g6 : (zHZ s.heap l1 l2 l3 l4).get? (zHT s.heap l1 l2 l3 l4).objs.size = some _ := (Heap.get?_push_of_some _ (Heap.get?_push_size _ rfl))
  have g5 : (zHZ s.heap l1 l2 l3 l4).get? (zH4 s.heap l1 l2 l3 l4).objs.size = some _ := (Heap.get?_push_of_some _ (Heap.get?_push_of_some _ (Heap.get?_push_size _ rfl)))
  have g4 : (zHZ s.heap l1 l2 l3 l4).get? (zH3 s.heap l1 l2 l3).objs.size = some _ := (Heap.get?_push_of_some _ (Heap.get?_push_of_some _ (Heap.get?_push_of_some _ (Heap.get?_push_size _ rfl))))
  have g3 : (zHZ s.heap l1 l2 l3 l4).get? (zH2 s.heap l1 l2).objs.size = some _ := (Heap.get?_push_of_some _ (Heap.get?_push_of_some _ (Heap.get?_push_of_some _ (Heap.get?_push_of_some _ (Heap.get?_push_size _ rfl)))))
  have g2 : (zHZ s.heap l1 l2 l3 l4).get? (zH1 s.heap l1).objs.size = some _ := (Heap.get?_push_of_some _ (Heap.get?_push_of_some _ (Heap.get?_push_of_some _ (Heap.get?_push_of_some _ (Heap.get?_push_of_some _ (Heap.get?_push_size _ rfl))))))
  have g1 : (zHZ s.heap l1 l2 l3 l4).get? s.heap.objs.size = some _ := (Heap.get?_push_of_some _ (Heap.get?_push_of_some _ (Heap.get?_push_of_some _ (Heap.get?_push_of_some _ (Heap.get?_push_of_some _ (Heap.get?_push_of_some _ (Heap.get?_push_size _ rfl)))))))
  show _ ∧ _
  rw [z4, z5, z6] at g7
  rw [z5] at g6
  rw [z1, z2, z3, z4] at g5
  rw [z3] at g4
  rw [z2] at g3
  rw [z1] at g2
  rw [z6]
  exact ⟨⟨_, g7, rfl⟩, h _ g7 g5 g6 ⟨_, g1, rfl, rfl⟩ ⟨_, g2, rfl, rfl⟩ ⟨_, g3, rfl, rfl⟩ ⟨_, g4, rfl, rfl⟩ z7 fun c o x => (Heap.get?_push_of_some _ (Heap.get?_push_of_some _ (Heap.get?_push_of_some _ (Heap.get?_push_of_some _ (Heap.get?_push_of_some _ (Heap.get?_push_of_some _ (Heap.get?_push_of_some _ x)))))))⟩
end
end Z4

namespace Z4
open PySem PySem.Spec PyProof.Rows L2 RZ
def ItQ (K : PySem.W.Frag) (a b c d : Addr) : It :=
  ⟨fun i H => ∃ (xs ys zs ws : List V) (x y z w : V), (SqT K H a xs ∧ SqT K H b ys ∧ SqT K H c zs ∧ SqT K H d ws) ∧ xs[i]? = some x ∧ ys[i]? = some y ∧ zs[i]? = some z ∧ ws[i]? = some w,
    fun i H v H' => ∃ T x y z w, v = .ref T ∧ H T = none ∧ H' = upd H T (.tup [x, y, z, w]) ∧ (∀ xs, SqT K H a xs → xs[i]? = some x) ∧ (∀ xs, SqT K H b xs → xs[i]? = some y) ∧ (∀ xs, SqT K H c xs → xs[i]? = some z) ∧ (∀ xs, SqT K H d xs → xs[i]? = some w),
    fun i H => ∃ xs ys zs ws : List V, (SqT K H a xs ∧ SqT K H b ys ∧ SqT K H c zs ∧ SqT K H d ws) ∧ xs.length ≤ i⟩
def St (n a b c d : Nat) (i : Nat) (h : Heap) : Prop := IsZip h (n + 6) (n + 4) (n + 5) .none ∧ IsQ h (n + 4) (.ref n) (.ref (n + 1)) (.ref (n + 2)) (.ref (n + 3)) ∧ (∃ x y z w, IsQ h (n + 5) x y z w) ∧ h.IsTupleIter n a i ∧ h.IsTupleIter (n + 1) b i ∧ h.IsTupleIter (n + 2) c i ∧ h.IsTupleIter (n + 3) d i
theorem ch7 {n c : Nat} (h : c ∈ [n + 6, n + 4, n + 5, n, n + 1, n + 2, n + 3]) : c = n + 6 ∨ c = n + 4 ∨ c = n + 5 ∨ c = n ∨ c = n + 1 ∨ c = n + 2 ∨ c = n + 3 := by simpa using h
theorem turn {P : Program} {wd : World} {K : PySem.W.Frag} {elts : List Expr} {kk : Nat} {tpos : Pos} {n a b c d : Nat} (b1 : a < n) (b2 : b < n) (b3 : c < n) (b4 : d < n) :
    Turn P wd K (.Tuple elts kk tpos) (ItQ K a b c d) [n + 6, n + 4, n + 5, n, n + 1, n + 2, n + 3] (n + 6) (St n a b c d) where
  mem := by simp
  obj := fun i h st c hc => by
    obtain ⟨hz, hTI, ⟨x, y, z, w, hTO⟩, ⟨o1, e1, _, d1⟩, ⟨o2, e2, _, d2⟩, ⟨o3, e3, _, d3⟩, ⟨o4, e4, _, d4⟩⟩ := st
    rcases ch7 hc with q | q | q | q | q | q | q
    · rw [q]; exact ⟨_, hz, fun v q => nomatch q⟩
    · rw [q]; exact ⟨_, hTI, fun v q => nomatch q⟩
    · rw [q]; exact ⟨_, hTO, fun v q => nomatch q⟩
    · rw [q]; exact ⟨o1, e1, fun v q => by rw [d1] at q; cases q⟩
    · rw [q]; exact ⟨o2, e2, fun v q => by rw [d2] at q; cases q⟩
    · rw [q]; exact ⟨o3, e3, fun v q => by rw [d3] at q; cases q⟩
    · rw [q]; exact ⟨o4, e4, fun v q => by rw [d4] at q; cases q⟩
  keep := fun i h h' st k => by
    obtain ⟨hz, hTI, ⟨x, y, z, w, hTO⟩, h1, h2, h3, h4⟩ := st
    exact ⟨k _ (by simp) _ hz, k _ (by simp) _ hTI, ⟨x, y, z, w, k _ (by simp) _ hTO⟩, h1.at fun o q => k _ (by simp) o q, h2.at fun o q => k _ (by simp) o q, h3.at fun o q => k _ (by simp) o q, h4.at fun o q => k _ (by simp) o q⟩
  item := by
    intro X hP hw hK hc i pins s σ H E I hf st hg
    subst hP hw hK
    obtain ⟨hz, hTI, ⟨x0, y0, z0, w0, hTO⟩, h1, h2, h3, h4⟩ := st
    obtain ⟨xs, ys, zs, ws, x, y, z, w, ⟨hqx, hqy, hqz, hqw⟩, hx, hy, hz', hw'⟩ := hg
    obtain ⟨its, rv, p, _⟩ := I.tuple hqx
    obtain ⟨its2, rv2, p2, _⟩ := I.tuple hqy
    obtain ⟨its3, rv3, p3, _⟩ := I.tuple hqz
    obtain ⟨its4, rv4, p4, _⟩ := I.tuple hqw
    obtain ⟨u, hu, ru⟩ := rv.get hx
    obtain ⟨u2, hu2, ru2⟩ := rv2.get hy
    obtain ⟨u3, hu3, ru3⟩ := rv3.get hz'
    obtain ⟨u4, hu4, ru4⟩ := rv4.get hw'
    have hzl : n + 6 < s.heap.objs.size := Heap.lt_size hz
    refine pyNext_item hz hTI hTO h1 h2 h3 h4 p p2 p3 p4 b1 b2 b3 b4 (x1 := u) (x2 := u2) (x3 := u3) (x4 := u4) (by simpa using hu) (by simpa using hu2) (by simpa using hu3) (by simpa using hu4) fun h' z' TO' h1' h2' h3' h4' hT hsz hk => ?_
    refine ⟨_, rfl, wpAny_letOwnedTupleGo_zip (s := { s with heap := h' }) z' fun h'' z'' sb => ?_⟩
    have hT2 : h''.get? s.heap.objs.size = some { cls := .type "tuple", data := .seq #[u, u2, u3, u4] } := (sb.2 _ (Nat.ne_of_gt hzl)).trans hT
    have new : ObjOk X.prog X.w (upd H s.heap.objs.size (.tup [x, y, z, w])) h'' s.heap.objs.size (.tup [x, y, z, w]) :=
      ⟨by show 4 ≤ sizeLine; decide, [u, u2, u3, u4], .cons ru (.cons ru2 (.cons ru3 (.cons ru4 .nil))), ⟨_, hT2, rfl, _, rfl⟩⟩
    have I1 : Inv X pins σ (upd H s.heap.objs.size (.tup [x, y, z, w])) { s with heap := h'' } :=
      I.turnedNew (t' := s.toks) (ch := [n + 6, n + 4, n + 5, n, n + 1, n + 2, n + 3]) (fun c o hb q => (sb.2 c (fun q' => hb (by simp [q']))).trans (hk c o (fun q' => hb (by simp [q'])) (fun q' => hb (by simp [q'])) (fun q' => hb (by simp [q'])) (fun q' => hb (by simp [q'])) (fun q' => hb (by simp [q'])) (fun q' => hb (by simp [q'])) q)) hf (Nat.le_refl _) new
    refine ⟨.ref s.heap.objs.size, _, I1, rfl, ⟨_, x, y, z, w, rfl, I.hok.fresh (Nat.le_refl _), rfl, fun l hl => by rw [I.tuple_inj hl hqx]; exact hx, fun l hl => by rw [I.tuple_inj hl hqy]; exact hy, fun l hl => by rw [I.tuple_inj hl hqz]; exact hz', fun l hl => by rw [I.tuple_inj hl hqw]; exact hw'⟩, ⟨z'', ?_, ⟨u, u2, u3, u4, ?_⟩, ?_, ?_, ?_, ?_⟩, fun c hcm => ?_⟩
    · exact (sb.2 _ (ne_ (by omega))).trans (hk _ _ (ne_ (by omega)) (ne_ (by omega)) (ne_ (by omega)) (ne_ (by omega)) (ne_ (by omega)) (ne_ (by omega)) hTI)
    · exact (sb.2 _ (ne_ (by omega))).trans TO'
    · exact h1'.at fun o q => (sb.2 _ (ne_ (by omega))).trans q
    · exact h2'.at fun o q => (sb.2 _ (ne_ (by omega))).trans q
    · exact h3'.at fun o q => (sb.2 _ (ne_ (by omega))).trans q
    · exact h4'.at fun o q => (sb.2 _ (ne_ (by omega))).trans q
    · have hlt : s.heap.objs.size > c := by
        rcases ch7 hcm with q | q | q | q | q | q | q <;> rw [q] <;> omega
      rw [upd_ne (Nat.ne_of_lt hlt)]
      exact (hf c hcm).1
  done := by
    intro X hP hw hK hc i pins s σ H E I hf st hg
    subst hP hw hK
    obtain ⟨hz, hTI, ⟨x0, y0, z0, w0, hTO⟩, h1, h2, h3, h4⟩ := st
    obtain ⟨xs, ys, zs, ws, ⟨hqx, hqy, hqz, hqw⟩, hend⟩ := hg
    obtain ⟨its, rv, p, _⟩ := I.tuple hqx
    obtain ⟨its2, rv2, p2, _⟩ := I.tuple hqy
    obtain ⟨its3, rv3, p3, _⟩ := I.tuple hqz
    obtain ⟨its4, rv4, p4, _⟩ := I.tuple hqw
    have l1 := rv.length
    have he : its.toArray[i]? = none := by simp; omega
    exact pyNext_end (I.ok.hd hc) hz hTI hTO h1 h2 h3 h4 p p2 p3 p4 b1 b2 b3 b4 he fun h' hk => ⟨rfl, I.turnedL (t' := s.toks) (ch := [n + 6, n + 4, n + 5, n, n + 1, n + 2, n + 3]) (fun c o hb q =>
      hk c o (fun q' => hb (by simp [q'])) (fun q' => hb (by simp [q'])) (fun q' => hb (by simp [q'])) (fun q' => hb (by simp [q'])) (fun q' => hb (by simp [q'])) (fun q' => hb (by simp [q'])) q) hf⟩
  self := fun A i s Q E st h => wpAny_pyIter_zip st.1 h
def iZip4 (K : PySem.W.Frag) (ta : TA) : TI := fun σ H R => ta σ H fun vs H1 => ∃ a b c d xs ys zs ws, vs = [.ref a, .ref b, .ref c, .ref d] ∧ (SqT K H1 a xs ∧ SqT K H1 b ys ∧ SqT K H1 c zs ∧ SqT K H1 d ws) ∧ R (ItQ K a b c d) H1
theorem pi_zip4 {X : Cx} {e e2 e3 e4 : Expr} {ta : TA} {p pos tpos : Pos} {elts : List Expr} {kk : Nat} (hg : Gl X "zip") (hm : X.mg "zip" = none) (ha : PA X [e, e2, e3, e4] ta)
    (hs : starEach [e, e2, e3, e4] X.env = (false, eval e X.env) :: starEach [e2, e3, e4] X.env := by rfl) (hpl : (backTo pos (starEach [e2, e3, e4] X.env)).any (·.1) = false := by rfl) :
    PI X (.Tuple elts kk tpos) (.Call (.Name "zip" p) [e, e2, e3, e4] [] pos) (iZip4 X.K ta) := by
  refine ⟨fun pins s σ H R I h => ?_⟩
  refine Call_ (ld_blt I hg hm PyProof.Rows.boot_zip (PyProof.Rows.callWith_type1 (thn (ha.run pos pins s σ H _ I h) fun us s1 ⟨vs, H1, I1, r1, q1⟩ => ?_) hs hpl))
  obtain ⟨a, b, c, d, xs, ys, zs, ws, rfl, ⟨hqx, hqy, hqz, hqw⟩, q⟩ := q1
  cases r1 with
  | cons r rr =>
    cases rr with
    | cons r' rr =>
      cases rr with
      | cons r3 rr =>
        cases rr with
        | cons r4 rr =>
          cases rr
          cases r
          cases r'
          cases r3
          cases r4
          have fresh7 : ∀ c, c ∈ [s1.heap.objs.size + 6, s1.heap.objs.size + 4, s1.heap.objs.size + 5, s1.heap.objs.size, s1.heap.objs.size + 1, s1.heap.objs.size + 2, s1.heap.objs.size + 3] → FpOk X pins H1 c := fun c hcm => by
            have hle : s1.heap.objs.size ≤ c := by
              rcases ch7 hcm with q | q | q | q | q | q | q <;> rw [q] <;> omega
            exact I1.fpOk hle (I1.hok.fresh hle)
          obtain ⟨its, rv, p1, _⟩ := I1.tuple hqx
          obtain ⟨its2, rv2, p2, _⟩ := I1.tuple hqy
          obtain ⟨its3, rv3, p3, _⟩ := I1.tuple hqz
          obtain ⟨its4, rv4, p4, _⟩ := I1.tuple hqw
          obtain ⟨o1, ho1, _⟩ := id p1
          obtain ⟨o2, ho2, _⟩ := id p2
          obtain ⟨o3, ho3, _⟩ := id p3
          obtain ⟨o4, ho4, _⟩ := id p4
          refine call4 (show s1.heap.IsTuple a its.toArray from p1) (show s1.heap.IsTuple b its2.toArray from p2) (show s1.heap.IsTuple c its3.toArray from p3) (show s1.heap.IsTuple d its4.toArray from p4) fun h' hz hTI hTO h1 h2 h3 h4 hsz hk => wpAny_pyIter_zip hz ?_
          have I2 : Inv X pins σ H1 { s1 with heap := h' } := I1.kept (t' := s1.toks) hk
          exact ⟨s1.heap.objs.size + 6, _, _, _, H1, rfl, I2, turn (Heap.lt_size ho1) (Heap.lt_size ho2) (Heap.lt_size ho3) (Heap.lt_size ho4), ⟨hz, hTI, ⟨_, _, _, _, hTO⟩, h1, h2, h3, h4⟩, fresh7, q⟩
theorem walk4 {K : PySem.W.Frag} {a b c d : Addr} {xs ys zs ws : List V} (e2 : ys.length = xs.length) (e3 : zs.length = xs.length) (e4 : ws.length = xs.length) :
    Walk (ItQ K a b c d) xs.length (fun H => SqT K H a xs ∧ SqT K H b ys ∧ SqT K H c zs ∧ SqT K H d ws) (fun i H v H' => ∃ T x y z w, v = .ref T ∧ H T = none ∧ H' = upd H T (.tup [x, y, z, w]) ∧ xs[i]? = some x ∧ ys[i]? = some y ∧ zs[i]? = some z ∧ ws[i]? = some w) := by
  refine ⟨fun i _ hi q => ?_, fun _ q => ⟨xs, ys, zs, ws, q, Nat.le_refl _⟩, fun i H v H' _ q y => ?_⟩
  · exact ⟨xs, ys, zs, ws, xs[i], ys[i]'(by omega), zs[i]'(by omega), ws[i]'(by omega), q, by simp, by simp, by simp, by simp⟩
  · obtain ⟨T, x, z, u, w, h1, h2, h3, h4, h5, h6, h7⟩ := y
    exact ⟨T, x, z, u, w, h1, h2, h3, h4 xs q.1, h5 ys q.2.1, h6 zs q.2.2.1, h7 ws q.2.2.2⟩
/-- zip of two tuples of one length -/
theorem walk_zipT {K : PySem.W.Frag} {a b : Addr} {xs ys : List V} (e : ys.length = xs.length) : Walk (ItzT K a b) xs.length (fun H => SqT K H a xs ∧ SqT K H b ys) (YPair (fun i => xs[i]?) (fun i => ys[i]?)) := by
  refine ⟨fun i _ hi q => ?_, fun _ q => ⟨xs, ys, q.1, q.2, Or.inl (Nat.le_refl _)⟩, fun i H v H' _ q y => ?_⟩
  · exact ⟨xs, ys, xs[i], ys[i]'(by omega), q.1, q.2, by simp, by simp⟩
  · obtain ⟨T, x, z, h1, h2, h3, h4, h5⟩ := y
    exact ⟨T, x, z, h1, h2, h3, h4 xs q.1, h5 ys q.2⟩
end Z4
namespace FW
open PySem L2 FC Evl
/-- a comprehension without a test over any walk: each turn gives a value of its kind -/
theorem lc_gen {J : It} {n : Nat} {G : Hp → Prop} {Y : Nat → Hp → V → Hp → Prop} {g : TG} {te : TE} {vs : List Nat} {σ : St} {H1 : Hp} {Dl : Addr} {Qd : Hp → Prop} (wk : Walk J n G Y) (hG : ∀ H, Ex H1 H → G H) (R : Nat → V → Hp → Prop)
    (mono : ∀ i v H H', ExL H H' → R i v H → R i v H') (hz : n ≤ 40000) (hD : H1 Dl = none)
    (he : ∀ i x H H', i < n → Ex H1 H → Y i H x H' → ∀ Q : VK, (∀ v H2, Ex H H2 → R i v H2 → Q v H2) → g x (wipe σ vs) H' fun σ2 H2 => wipe σ2 vs = wipe σ vs ∧ te σ2 H2 Q)
    (hd : ∀ ys H2, Ex H1 H2 → H2 Dl = some (.lst ys) → ys.length = n → (∀ i v, ys[i]? = some v → R i v H2) → Qd H2) :
    ∃ W : Nat → Nat → Hp → Prop, (∃ m, W 0 m (upd H1 Dl (.lst []))) ∧ ∀ i m H, W i m H →
      (J.stop i H ∧ Qd H) ∨ (J.go i H ∧ ∃ Nx : Hp → Prop, (∀ H', Nx H' → ∃ m', m' < m ∧ W (i + 1) m' H') ∧ ∀ x H', J.yld i H x H' → g x (wipe σ vs) H' fun σ2 H2 => wipe σ2 vs = wipe σ vs ∧ tYes σ2 H2 fun b H3 =>
        if b = true then te σ2 H3 fun y H4 => ∃ acc, H4 Dl = some (.lst acc) ∧ acc.length < sizeLine ∧ Nx (upd H4 Dl (.lst (acc ++ [y]))) else Nx H3) := by
  refine lc_it wk (fun i H => Ex H1 H ∧ ∃ ys, H Dl = some (.lst ys) ∧ ys.length = i ∧ ∀ k v, ys[k]? = some v → R k v H) ⟨Ex.new hD, [], upd_same, rfl, fun k v h => by simp at h⟩ (fun i H _ h => hG H h.1) ?_ ?_
  · rintro i x H H' hi ⟨e, ys, hy, hl, hr⟩ y
    refine he i x H H' hi e y _ fun v H2 e2 hv => ⟨ys, e2 _ _ hy, sz_lt (by omega), ?_, ys ++ [v], upd_same, by rw [List.length_append, hl]; rfl, fun k u hk => ?_⟩
    · intro c o hc
      rw [upd_ne (ne_of_none hc hD)]
      exact e2 _ _ (e _ _ hc)
    · have z : ExL H2 (upd H2 Dl (.lst (ys ++ [v]))) := ExL.list (e2 _ _ hy)
      by_cases c : k < ys.length
      · rw [List.getElem?_append_left c] at hk
        exact mono _ _ _ _ z (mono _ _ _ _ (Ex.l e2) (hr k u hk))
      · rw [List.getElem?_append_right (by omega)] at hk
        by_cases c2 : k - ys.length = 0
        · rw [c2] at hk
          have e3 : v = u := by simpa using hk
          have e4 : k = i := by omega
          subst e3 e4
          exact mono _ _ _ _ z hv
        · rw [List.getElem?_eq_none (by show 1 ≤ _; omega)] at hk
          cases hk
  · rintro H ⟨e, ys, hy, hl, hr⟩
    exact hd ys H e hy hl hr
theorem all_true {ys : List V} (h : ∀ (i : Nat) v, ys[i]? = some v → v = .bl true) : ys = (List.replicate ys.length true).map V.bl := by
  rw [List.map_replicate]
  refine List.eq_replicate_of_mem fun v hv => ?_
  obtain ⟨i, hi⟩ := List.mem_iff_getElem?.mp hv
  exact h i v hi
theorem kb {x : Addr} {H H' : Hp} {Pr Qd : Hp → Prop} (k : ∀ H', But x H H' → Pr H' → Qd H') (bt : But x H H') (h : But x H H' → Pr H') : Qd H' := k H' bt (h bt)
theorem But.tup {x c : Addr} {H H' : Hp} (e : But x H H') {C dx : Addr} {fs : List (Str × V)} (hx : H x = some (.ins C dx fs)) {xs : List V} (h : H c = some (.tup xs)) : H' c = some (.tup xs) := e c _ h fun z => by
  subst z; rw [h] at hx; cases hx
theorem PtT.but {x : Addr} {v : V} {pt : List Nat} {H H' : Hp} (h : PtT v pt H) (e : But x H H') {C dx : Addr} {fs : List (Str × V)} (hx : H x = some (.ins C dx fs)) : PtT v pt H' := let ⟨a, e1, e2⟩ := h; ⟨a, e1, e.tup hx e2⟩
theorem PT.but {x : Addr} {v : V} {pt : Pre} {H H' : Hp} (h : PT v pt H) (e : But x H H') {C dx : Addr} {fs : List (Str × V)} (hx : H x = some (.ins C dx fs)) : PT v pt H' := let ⟨a, e1, e2⟩ := h; ⟨a, e1, e.tup hx e2⟩
theorem SpaceAt.but {x : Addr} {v : V} {S : Addr} {d b : Nat} {H H' : Hp} (h : SpaceAt S d b v H) (e : But x H H') {C dx : Addr} (hx : H x = some (.ins C dx [])) : SpaceAt S d b v H' :=
  let ⟨s, a, dx', e1, e2⟩ := h; ⟨s, a, dx', e1, e a _ e2 fun z => by subst z; rw [e2] at hx; cases hx⟩
/-- a box -/
def BoxAt (B C : Addr) (d b : Nat) (lo hi : List Nat) (v : V) (H : Hp) : Prop := Pnt d b lo ∧ Pnt d b hi ∧ ∃ a dx s x y, v = .ref a ∧ H a = some (.ins B dx (k_Box.zip [s, x, y])) ∧ SpaceAt C d b s H ∧ PtT x lo H ∧ PtT y hi H
theorem BoxAt.mono {B C : Addr} {d b : Nat} {lo hi : List Nat} {v : V} {H H' : Hp} (h : BoxAt B C d b lo hi v H) (e : Ex H H') : BoxAt B C d b lo hi v H' :=
  let ⟨p, q, a, dx, s, x, y, e1, e2, e3, e4, e5⟩ := h; ⟨p, q, a, dx, s, x, y, e1, e a _ e2, e3.mono e, e4.mono e, e5.mono e⟩
def spBoxInit (B C : Addr) : Sp := fun vs H Q _ => ∃ (x dx : Addr) (s l h : V) (d b : Nat) (lo hi : List Nat), vs = [.ref x, s, l, h] ∧ H x = some (.ins B dx []) ∧ SpaceAt C d b s H ∧ PtT l lo H ∧ PtT h hi H ∧ Pnt d b lo ∧ Pnt d b hi ∧ (∀ i, lo.getD i 0 ≤ hi.getD i 0) ∧
  ∀ H', But x H H' → BoxAt B C d b lo hi (.ref x) H' → Q .non H'
def spRoom (B C : Addr) : Sp := fun vs H Q _ => ∃ (v x : V) (d b : Nat) (lo hi : List Nat) (p : Pre), vs = [v, x] ∧ BoxAt B C d b lo hi v H ∧ PT x p H ∧ p.1 ≤ d * b ∧ ins p (0, 0) ∧ RetV (.int (roomN d b lo hi p : Int)) H Q
def CloudAt (B C : Addr) (d b : Nat) (row : List Nat) (v : V) (H : Hp) : Prop := row.Pairwise (· < ·) ∧ ∃ a dx s x, v = .ref a ∧ H a = some (.ins B dx (k_Cloud.zip [s, x])) ∧ SpaceAt C d b s H ∧ RowAt row x H
theorem RowAt.mono {row : List Nat} {v : V} {H H' : Hp} (h : RowAt row v H) (e : Ex H H') : RowAt row v H' := let ⟨a, e1, e2⟩ := h; ⟨a, e1, e a _ e2⟩
theorem CloudAt.mono {B C : Addr} {d b : Nat} {row : List Nat} {v : V} {H H' : Hp} (h : CloudAt B C d b row v H) (e : Ex H H') : CloudAt B C d b row v H' :=
  let ⟨p, a, dx, s, x, e1, e2, e3, e4⟩ := h; ⟨p, a, dx, s, x, e1, e a _ e2, e3.mono e, e4.mono e⟩
def spCount (B C : Addr) : Sp := fun vs H Q _ => ∃ (v x : V) (d b : Nat) (row : List Nat) (p : Pre), vs = [v, x] ∧ CloudAt B C d b row v H ∧ PT x p H ∧ p.1 ≤ d * b ∧ RetV (.int (cntN (d * b) row p : Int)) H Q
abbrev pvs (pt : List Nat) : List V := pt.map fun (x : Nat) => V.int (x : Int)
theorem ptT_len (pt : List Nat) : (pt.map fun (x : Nat) => V.int (x : Int)).length = pt.length := List.length_map _
theorem pt_at {pt : List Nat} {i : Nat} {x : V} (h : (pt.map fun (x : Nat) => V.int (x : Int))[i]? = some x) : ∃ n, pt[i]? = some n ∧ x = .int (n : Int) := by
  rw [List.getElem?_map] at h
  obtain ⟨n, hn, e⟩ := Option.map_eq_some_iff.mp h
  exact ⟨n, hn, e.symm⟩
theorem roomL_take : ∀ (lo hi a b : List Nat) (i : Nat) {l h x y : Nat}, lo[i]? = some l → hi[i]? = some h → a[i]? = some x → b[i]? = some y →
    roomL (lo.take (i + 1)) (hi.take (i + 1)) (a.take (i + 1)) (b.take (i + 1)) = roomL (lo.take i) (hi.take i) (a.take i) (b.take i) * ov l h x y
  | lo :: los, hi :: his, a :: as, b :: bs, 0, l, h, x, y, h1, h2, h3, h4 => by
    have h1 : lo = l := by simpa using h1
    have h2 : hi = h := by simpa using h2
    have h3 : a = x := by simpa using h3
    have h4 : b = y := by simpa using h4
    subst h1 h2 h3 h4
    simp [roomL]
  | lo :: los, hi :: his, a :: as, b :: bs, i + 1, l, h, x, y, h1, h2, h3, h4 => by
    have ih := roomL_take los his as bs i (by simpa using h1) (by simpa using h2) (by simpa using h3) (by simpa using h4)
    simp only [List.take_succ_cons, roomL]
    rw [ih, Nat.mul_assoc]
  | [], _, _, _, _, _, _, _, _, h, _, _, _ => by simp at h
  | _ :: _, [], _, _, _, _, _, _, _, _, h, _, _ => by simp at h
  | _ :: _, _ :: _, [], _, _, _, _, _, _, _, _, h, _ => by simp at h
  | _ :: _, _ :: _, _ :: _, [], _, _, _, _, _, _, _, _, h => by simp at h
section
variable {P : Program} {w : World} {K : PySem.W.Frag} {mg : Str → Option Value} {base : Heap}
theorem ok_Cloud_count (T : Txt K mg) : FnOk P w K mg base CX0 3 T.f_Cloud_count T.d_Cloud_count ["self", "prefix"] (spCount T.C_Cloud T.C_Space) := by
  refine T.F_Cloud_count.ok sc_Cloud_count (fun vs H Q E h => ?_) (fun cdv A outer s H vs Q E hr h => ?_)
  · obtain ⟨_, _, _, _, _, _, rfl, _⟩ := h; rfl
  obtain ⟨v, x, d, b, row, p, rfl, ⟨hs, a, dx, sp, r, rfl, ha, hsp, hr'⟩, ⟨c, rfl, hc⟩, hp, k⟩ := h
  obtain ⟨hd, sa, sdx, rfl, hsa⟩ := id hsp
  have hd := sp_le hd
  have nd := sc_Cloud_count.nd
  refine ⟨_, (pss_cons (ps_set (i := 2) nd rfl (Or.inl rfl) (pe_meth (pe_fld (pv 0) (by rfl)) T.cl_Space T.M_Space_size (ok_Space_size T) (hr.mono (by decide)) T.b_Space_size .nil pass0 (pa_cons (pv 1) pa_nil)))
      (pss_one (ps_ret (pe_op op_sub (pe_call (ok_place_in T) (hr.mono (by decide)) (by rfl) T.mg_place_in T.F_place_in.kp T.b_place_in .nil pass0 (pa_cons (pe_fld (pv 0) (by rfl)) (pa_cons (pe_op op_add (pe_op op_mul (pe_ix ix_tup (pv 1) pe_int (fun _ _ => rfl)) (pv 2)) (pv 2)) pa_nil))) (pe_call (ok_place_in T) (hr.mono (by decide)) (by rfl) T.mg_place_in T.F_place_in.kp T.b_place_in .nil pass0 (pa_cons (pe_fld (pv 0) (by rfl)) (pa_cons (pe_op op_mul (pe_ix ix_tup (pv 1) pe_int (fun _ _ => rfl)) (pv 2)) pa_nil))))))), ?_⟩
  have hz : sz (d * b) p ≤ 64 := by
    show 2 ^ (d * b - p.1) ≤ 2 ^ 6
    exact Nat.pow_le_pow_right (by decide) (by omega)
  refine r_Cloud_space T rfl ha rfl ⟨sa, sdx, _, rfl, hsa, fn_Space_size _, _, rfl, _, _, d, b, p, rfl, hsp, ⟨c, rfl, hc⟩, hp, fun H1 e1 => ?_⟩
  refine r_Cloud_row T rfl (e1 _ _ ha) rfl (g_ix 1 rfl (e1 _ _ hc) rfl ⟨_, rfl, _, _, rfl, rfl, .inr ⟨by omega, by omega⟩, _, rfl, _, _, rfl, rfl, r, row, p.2 * sz (d * b) p + sz (d * b) p, rfl, hr'.mono e1, hs, fun H2 e2 => ?_⟩)
  refine r_Cloud_row T rfl (e2 _ _ (e1 _ _ ha)) rfl (g_ix 1 rfl (e2 _ _ (e1 _ _ hc)) rfl ⟨_, rfl, _, _, rfl, rfl, .inr ⟨by omega, by omega⟩, r, row, p.2 * sz (d * b) p, rfl, (hr'.mono e1).mono e2, hs, fun H3 e3 => ⟨_, _, rfl, rfl, ?_⟩⟩)
  have := k H3 ((e1.trans e2).trans e3)
  unfold cntN at this
  rw [Int.ofNat_sub (below_mono row (by omega))] at this
  exact this
theorem ok_Box_init (T : Txt K mg) : FnOk P w K mg base CX0 4 T.f_Box_init T.d_Box_init ["self", "space", "lows", "highs"] (spBoxInit T.C_Box T.C_Space) := by
  refine T.F_Box_init.ok sc_Box_init (fun vs H Q E h => ?_) (fun cdv A outer s H vs Q E hr h => ?_)
  · obtain ⟨_, _, _, _, _, _, _, _, _, rfl, _⟩ := h; rfl
  obtain ⟨x, dx, sv, l, h, d, b, lo, hi, rfl, hx, hs, hl, hh, pl, ph, hle, k⟩ := h
  have nd := sc_Box_init.nd
  obtain ⟨hsp, sa, sdx, rfl, hsa⟩ := id hs
  obtain ⟨la, rfl, hla⟩ := id hl
  obtain ⟨ha, rfl, hha⟩ := id hh
  have hd := sp_le hsp
  refine ⟨_, (pss_cons (ps_for PassesOwn.never (by rfl) (pi_tup (pe_tup (pa_cons (pv 2) (pa_cons (pv 3) pa_nil)))) (pg_name (i := 4) nd rfl (Or.inl rfl))
      (pss_one (ps_expr (pe_meth (pv 1) T.cl_Space T.M_Space_check_point (ok_Space_check_point T) (hr.mono (by decide)) T.b_Space_check_point .nil pass0 (pa_cons (pv 4) pa_nil)))))
      (pss_cons (ps_if (pt_not (pt_val (pe_callB (cr_all rfl) (by rfl) T.z_all (by decide +kernel) (pa_cons (pe_lc (own := [("low", 5), ("high", 6)]) (tt := tYes) (by rfl) nd (RZ.pi_zipA (by rfl) T.z_zip (pa_cons (pv 2) (pa_cons (pv 3) pa_nil))) (blkOk_by (own := [("low", 5), ("high", 6)]) (N := N_Box_init) (sc := defScope s_Box_init) (by decide +kernel)) (fun _ _ _ _ _ => (pg_tupK (K := K) (n := 2) rfl (by rfl) (pgs_cons (pg_name (i := 5) nd rfl (Or.inl rfl)) (pgs_cons (pg_name (i := 6) nd rfl (Or.inl rfl)) pgs_nil)))) (fun _ _ _ _ _ => pts_nil) (fun _ _ _ _ _ => (pe_cmpR op_le (pv 5) (pv 6) (nomark _)))) pa_nil)))) (pss_one ps_never) pss_nil)
      (pss_cons (ps_fld (pv 0) (pv 1) rfl)
      (pss_cons (ps_fld (pv 0) (pv 2) rfl)
      (pss_one (ps_fld (pv 0) (pv 3) rfl)))))), ?_⟩
  refine ⟨_, rfl, _, rfl, two_line, fun t ht => ⟨t, rfl, ⟨_, SqT.of upd_same⟩, for_tup (xs := [.ref la, .ref ha]) (fun i σ H' => ∃ u, σ = [some (.ref x), some (.ref sa), some (.ref la), some (.ref ha), u, none, none] ∧ Ex (upd H t (.tup [.ref la, .ref ha])) H') ⟨none, rfl, Ex.refl _⟩ (fun i σ H' _ h => ?_) ?_ ?_⟩⟩
  · obtain ⟨_, _, e⟩ := h
    exact SqT.of (e _ _ upd_same)
  · rintro i y σ H' hy ⟨u, rfl, e⟩
    have e0 : Ex H H' := (Ex.new ht).trans e
    have pt : ∃ q, PtT y q H' ∧ Pnt d b q := by
      rcases i with _ | _ | i
      · have : V.ref la = y := by simpa using hy
        subst this
        exact ⟨lo, hl.mono e0, pl⟩
      · have : V.ref ha = y := by simpa using hy
        subst this
        exact ⟨hi, hh.mono e0, ph⟩
      · simp at hy
    obtain ⟨q, hq, pq⟩ := pt
    exact ⟨_, rfl, sa, sdx, _, rfl, e0 _ _ hsa, fn_Space_check_point _, _, rfl, _, _, d, b, q, rfl, hs.mono e0, hq, pq, fun H2 e2 => ⟨some y, rfl, e.trans e2⟩⟩
  · rintro σ H' ⟨u, rfl, e⟩
    have e0 : Ex H H' := (Ex.new ht).trans e
    have gl : lo.length = d := pl.1
    have gh : hi.length = d := ph.1
    refine ⟨_, rfl, _, rfl, la, ha, _, _, rfl, .inr ⟨SqT.of (e0 _ _ hla), SqT.of (e0 _ _ hha), fun Dl hD => lc_gen (Z4.walk_zipT (by rw [List.length_map, List.length_map, gl, gh])) (fun H1 e1 => ⟨SqT.of (e1 _ _ (e0 _ _ hla)), SqT.of (e1 _ _ (e0 _ _ hha))⟩) (fun _ v _ => v = .bl true) (fun _ _ _ _ _ h => h) (by rw [List.length_map, gl]; omega) hD ?_ ?_⟩⟩
    · rintro i z H1 H' hi e1 ⟨t2, p, q, rfl, ht2, rfl, hp, hq⟩ Q1 k1
      obtain ⟨n, hn, rfl⟩ := pt_at hp
      obtain ⟨m, hm, rfl⟩ := pt_at hq
      refine ⟨t2, _, rfl, SqT.of upd_same, rfl, ⟨_, _, rfl, ⟨_, _, rfl, rfl, rfl, ?_⟩⟩⟩
      refine ⟨_, rfl, _, rfl, _, _, rfl, rfl, k1 _ _ (Ex.new ht2) ?_⟩
      have := hle i
      rw [List.getD_eq_getElem?_getD, List.getD_eq_getElem?_getD, hn, hm] at this
      have this : n ≤ m := this
      show V.bl (decide ((n : Int) ≤ (m : Int))) = V.bl true
      rw [decide_eq_true (by omega)]
    · intro ys H2 e2 hy hyl hr'
      have e := all_true hr'
      rw [e] at hy
      refine ⟨_, _, rfl, SqL.of hy, ?_⟩
      have : (List.replicate ys.length true).all id = true := by simp
      rw [this]
      refine ⟨_, rfl, iteF ?_⟩
      have e3 := e0.trans e2
      refine ⟨_, rfl, _, rfl, p_Box_space (vs := []) T (e3 _ _ hx) rfl ⟨_, rfl, _, rfl, p_Box_lows (vs := [_]) T upd_same rfl ⟨_, rfl, _, rfl, p_Box_highs (vs := [_, _]) T upd_same rfl ?_⟩⟩⟩
      refine kb k (fun c o hc n => ?_) fun bt => ⟨pl, ph, x, dx, _, _, _, rfl, upd_same, hs.but bt hx, hl.but bt hx, hh.but bt hx⟩
      rw [upd_ne n, upd_ne n, upd_ne n]
      exact e3 _ _ hc
theorem ok_Box_room (T : Txt K mg) : FnOk P w K mg base CX0 4 T.f_Box_room T.d_Box_room ["self", "prefix"] (spRoom T.C_Box T.C_Space) := by
  refine T.F_Box_room.ok sc_Box_room (fun vs H Q E h => ?_) (fun cdv A outer s H vs Q E hr h => ?_)
  · obtain ⟨_, _, _, _, _, _, _, rfl, _⟩ := h; rfl
  obtain ⟨v, x, d, b, lo, hi, p, rfl, ⟨pl, ph, a, dx, sv, lv, hv, rfl, ha, hs, hl, hh⟩, hx, hp, hr0, k⟩ := h
  have nd := sc_Box_room.nd
  obtain ⟨hsp, sa, sdx, rfl, hsa⟩ := id hs
  obtain ⟨c, rfl, hc⟩ := id hx
  obtain ⟨la, rfl, hla⟩ := id hl
  obtain ⟨ha', rfl, hha⟩ := id hh
  have hd := sp_le hsp
  have ok := cell_ok hsp hp hr0
  refine ⟨_, (pss_cons (ps_asg (pe_meth (pe_fld (pv 0) (by rfl)) T.cl_Space T.M_Space_cell (ok_Space_cell T) (hr.mono (by decide)) T.b_Space_cell .nil pass0 (pa_cons (pv 1) pa_nil)) (pg_tup (by rfl) (pgs_cons (pg_name (i := 2) nd rfl (Or.inl rfl)) (pgs_cons (pg_name (i := 3) nd rfl (Or.inl rfl)) pgs_nil))))
      (pss_cons (ps_set (i := 4) nd rfl (Or.inl rfl) pe_int)
      (pss_cons (ps_for PassesOwn.never (by rfl) (Z4.pi_zip4 (by rfl) T.z_zip (pa_cons (pe_fld (pv 0) (by rfl)) (pa_cons (pe_fld (pv 0) (by rfl)) (pa_cons (pv 2) (pa_cons (pv 3) pa_nil))))) (pg_tup (by rfl) (pgs_cons (pg_name (i := 5) nd rfl (Or.inl rfl)) (pgs_cons (pg_name (i := 6) nd rfl (Or.inl rfl)) (pgs_cons (pg_name (i := 7) nd rfl (Or.inl rfl)) (pgs_cons (pg_name (i := 8) nd rfl (Or.inl rfl)) pgs_nil)))))
      (pss_one (ps_set (i := 4) nd rfl (Or.inl rfl) (pe_op op_mul (pv 4) (pe_callB (call_max2 rfl) (by rfl) T.z_max (by decide +kernel) (pa_cons pe_int (pa_cons (pe_op op_add (pe_op op_sub (pe_callB (call_min2 rfl) (by rfl) T.z_min (by decide +kernel) (pa_cons (pv 6) (pa_cons (pv 8) pa_nil))) (pe_callB (call_max2 rfl) (by rfl) T.z_max (by decide +kernel) (pa_cons (pv 5) (pa_cons (pv 7) pa_nil)))) pe_int) pa_nil)))))))
      (pss_one (ps_ret (pv 4)))))), ?_⟩
  refine r_Box_space T rfl ha rfl ⟨sa, sdx, _, rfl, hsa, fn_Space_cell _, _, rfl, _, _, d, b, p, rfl, hs, hx, hp, ?_⟩
  rintro _ H1 e1 ⟨t, lv, hv, rfl, ht, ⟨ca, rfl, hca⟩, ⟨cb, rfl, hcb⟩⟩
  refine ⟨t, _, rfl, SqT.of ht, rfl, ⟨_, _, rfl, ⟨_, _, rfl, rfl, ?_⟩⟩⟩
  refine r_Box_lows T rfl (e1 _ _ ha) rfl (r_Box_highs T rfl (e1 _ _ ha) rfl ⟨_, rfl, _, rfl, la, ha', ca, cb, _, _, _, _, rfl, ⟨SqT.of (e1 _ _ hla), SqT.of (e1 _ _ hha), SqT.of hca, SqT.of hcb⟩, ?_⟩)
  have l1 : lo.length = d := pl.1
  have l2 : hi.length = d := ph.1
  have l3 := ok.la
  have l4 := ok.lb
  refine for_it (Z4.walk4 (xs := pvs lo) (ys := pvs hi) (zs := pvs (lowOf d b p)) (ws := pvs (highOf d b p)) (by rw [ptT_len, ptT_len, l2, l1]) (by rw [ptT_len, ptT_len, l3, l1]) (by rw [ptT_len, ptT_len, l4, l1]))
    (fun i σ H' => ∃ u1 u2 u3 u4, σ = [some (.ref a), some (.ref c), some (.ref ca), some (.ref cb), some (.int (roomL (lo.take i) (hi.take i) ((lowOf d b p).take i) ((highOf d b p).take i) : Int)), u1, u2, u3, u4] ∧ Ex H1 H') ⟨none, none, none, none, rfl, Ex.refl _⟩ (fun i σ H' _ h => ?_) ?_ ?_
  · obtain ⟨_, _, _, _, _, e⟩ := h
    exact ⟨SqT.of (e _ _ (e1 _ _ hla)), SqT.of (e _ _ (e1 _ _ hha)), SqT.of (e _ _ hca), SqT.of (e _ _ hcb)⟩
  · rintro i z σ H' H'' hi' ⟨u1, u2, u3, u4, rfl, e⟩ ⟨t2, x1, x2, x3, x4, rfl, ht2, rfl, h1, h2, h3, h4⟩
    obtain ⟨n1, hn1, rfl⟩ := pt_at h1
    obtain ⟨n2, hn2, rfl⟩ := pt_at h2
    obtain ⟨n3, hn3, rfl⟩ := pt_at h3
    obtain ⟨n4, hn4, rfl⟩ := pt_at h4
    refine ⟨t2, _, rfl, SqT.of upd_same, rfl, ⟨_, _, rfl, ⟨_, _, rfl, ⟨_, _, rfl, ⟨_, _, rfl, rfl, ?_⟩⟩⟩⟩⟩
    refine ⟨_, rfl, _, rfl, _, rfl, _, _, rfl, _, rfl, _, rfl, _, _, rfl, _, _, rfl, rfl, ?_⟩
    have hlt : n2 < 2 ^ b := ph.2 n2 (List.mem_of_getElem? hn2)
    have hb : 2 ^ b ≤ 2 ^ 5 := Nat.pow_le_pow_right (by decide) (by omega)
    refine ⟨_, _, rfl, rfl, ⟨_, _, rfl, _, _, rfl, rfl, .inr ⟨?_, ?_⟩, some (.int (n1 : Int)), some (.int (n2 : Int)), some (.int (n3 : Int)), some (.int (n4 : Int)), ?_, e.trans (Ex.new ht2)⟩⟩
    · split <;> split <;> split <;> omega
    · split <;> split <;> split <;> omega
    · rw [roomL_take lo hi _ _ i hn1 hn2 hn3 hn4]
      have ev : (((ov n1 n2 n3 n4 : Nat) : Int)) = (if (if (n4 : Int) < (n2 : Int) then (n4 : Int) else (n2 : Int)) - (if (n3 : Int) > (n1 : Int) then (n3 : Int) else (n1 : Int)) + 1 > 0 then (if (n4 : Int) < (n2 : Int) then (n4 : Int) else (n2 : Int)) - (if (n3 : Int) > (n1 : Int) then (n3 : Int) else (n1 : Int)) + 1 else 0) := by
        unfold ov
        split <;> split <;> split <;> omega
      rw [Int.natCast_mul, ev]
      rfl
  · rintro σ H' ⟨u1, u2, u3, u4, rfl, e⟩
    refine ⟨_, rfl, ?_⟩
    have := k _ (e1.trans e)
    rw [ptT_len]
    rw [List.take_of_length_le (by omega), List.take_of_length_le (by omega), List.take_of_length_le (by omega), List.take_of_length_le (by omega)]
    exact this
end
end FW
/-! own rules: sorted of tuples and dicts of any length -/
namespace SrtO
open PySem PyProof.Rows Srt
section
variable {prog : Program} {w : World} {A : Around} {E : Value → Shared → Prop} {s : Shared}
/-- sorted(v), from what collects v's items -/
theorem sorted_from {v : Value} {ltv : Value → Value → Bool} {Q : Value → Shared → Prop} (O : Swo ltv) (Pv : List Value → Prop)
    (hcol : ∀ (E' : Value → Shared → Prop) (R : List Value → Shared → Prop), (∀ (h' : Heap) (tk : Nat) (vs : List Value), (∀ b o, s.heap.get? b = some o → h'.get? b = some o) → Pv vs → R vs { s with heap := h', toks := tk }) → wpAny (model prog w) A.in1 (collect v) R E' s)
    (hz : ∀ vs, Pv vs → vs.length ≤ sizeLine)
    (hS : ∀ (vs : List Value) (h₁ : Heap) (tk : Nat) (a : Addr), Pv vs → 2 ≤ vs.length → h₁.get? a = some (seqObj "list" vs.toArray 0) → (∀ b o, s.heap.get? b = some o → h₁.get? b = some o) → SortableO prog w A.in1.in1 { s with heap := h₁, toks := tk } a vs ltv)
    (h : ∀ (hm h' : Heap) (tk : Nat) (vs out : List Value), (∀ b o, s.heap.get? b = some o → hm.get? b = some o) → Pv vs → Srtd ltv out → Stb ltv out vs → (∀ b o, hm.get? b = some o → h'.get? b = some o) → (∃ n, h'.get? hm.objs.size = some (seqObj "list" out.toArray n)) → Q (.ref hm.objs.size) { s with heap := h', toks := tk }) :
    wpAny (model prog w) A (call (.builtin "sorted") [v]) Q E s := by
  refine Calls.call_function_entry kind_sorted plain_sorted entry_sorted (args_sorted1 _) ?_
  unfold Builtin.«sorted»
  refine wpAny_bind (m := checkCount "sorted" 1 1 _) (wpAny_pure ?_)
  refine wpAny_bind (hcol _ _ fun h' tk vs kp pv => ?_)
  refine wpAny_bind (wpAny_newList ?_ (hz vs pv))
  have hoL : (h'.push (seqObj "list" vs.toArray 0)).get? h'.objs.size = some (seqObj "list" vs.toArray 0) := Heap.get?_push_size _ rfl
  have keep : ∀ b o, s.heap.get? b = some o → (h'.push (seqObj "list" vs.toArray 0)).get? b = some o := fun b o e => Heap.get?_push_of_some _ (kp b o e)
  show wpAny _ _ _ _ _ { s with heap := h'.push (seqObj "list" vs.toArray 0), toks := tk }
  refine wpAny_bind (wpAny_holding (wpAny_call_entry slot_list_sort ⟨_, hoL, rfl⟩ entry_list_sort (list_sort_ord (s := { s with heap := h'.push (seqObj "list" vs.toArray 0), toks := tk }) O hoL (hz vs pv) (fun h2 => hS vs _ tk _ pv h2 hoL keep) fun out hs hb => ⟨_, rfl, ?_⟩) (args_list_sort _)))
  refine wpAny_pure ⟨_, rfl, h h' _ tk vs out kp pv hs hb (fun b o e => ?_) (sortedHeap_at hoL)⟩
  have hb' : b < h'.objs.size := Heap.lt_size e
  rw [sortedHeap_old (Nat.ne_of_lt hb') (by rw [size_push']; exact Nat.lt_succ_of_lt hb')]
  exact Heap.get?_push_of_some _ e
theorem collect_tup {l : Addr} {vs : List Value} {Q : List Value → Shared → Prop} (hl : s.heap.IsTuple l vs.toArray)
    (h : Q vs { s with heap := (s.heap.push (seqObj "list" #[] 0)).update s.heap.objs.size (Obj.mapSeq (· ++ vs.toArray)) }) (hsz : vs.length ≤ sizeLine) :
    wpAny (model prog w) A (collect (.ref l)) Q E s := by
  obtain ⟨o, ho, hc, n, hd⟩ := id hl
  unfold collect
  refine wpAny_bind (wpAny_runValue (codeAny_builtin entry_proto_collect' ?_))
  show wpAny _ _ (do again (.builtin "list.__iadd__" ⟨[← newList [], .ref l], []⟩)) _ _ s
  refine wpAny_bind (wpAny_newList (wpAny_pure ⟨Code.quiet_builtin _ (by decide +kernel), codeAny_builtin entry_list_iadd' ?_⟩))
  show wpAny _ _ (Builtin.List.listExtendWith (.ref s.heap.objs.size) (.ref l) (.ref s.heap.objs.size)) _ _ { s with heap := s.heap.push (seqObj "list" #[] 0) }
  unfold Builtin.List.listExtendWith
  have ho' : (s.heap.push (seqObj "list" #[] 0)).get? l = some o := Heap.get?_push_of_some _ ho
  refine wpAny_bind (wpAny_typeOf (T := "tuple") ⟨o, ho', hc⟩ ?_)
  have ht : (Value.type "tuple" == Value.type "tuple") = true := by rfl
  rw [if_pos (by rw [ht]; simp)]
  refine wpAny_bind (listItems_at ho' hd ?_)
  refine wpAny_bind (listItems_at (xs := #[]) (n := 0) (Heap.get?_push_size _ rfl) rfl ?_)
  rw [if_neg (by simp)]
  refine wpAny_bind (listUpdate_at (xs := #[]) (n := 0) (Heap.get?_push_size _ rfl) rfl ?_ (Nat.zero_le _) (by show (#[] ++ vs.toArray).size ≤ sizeLine + 1; simp only [Array.size_append, List.size_toArray, List.length_nil]; omega))
  refine wpAny_pure ?_
  show wpAny (model prog w) A (do
      let o ← load s.heap.objs.size
      match o.data with
      | .seq xs _ => pure xs.toList
      | _ => unsupported "internal:collect") Q E { s with heap := (s.heap.push (seqObj "list" #[] 0)).update s.heap.objs.size (Obj.mapSeq (· ++ vs.toArray)) }
  refine wpAny_bind (wpAny_load (get?_update_seq (Heap.get?_push_size _ rfl) _) ?_)
  show wpAny _ _ (pure ((#[] : Array Value) ++ vs.toArray).toList) Q E _
  rw [show ((#[] : Array Value) ++ vs.toArray).toList = vs by simp]
  exact wpAny_pure h
end
end SrtO

namespace L2
open PySem PySem.Spec PyProof.Rows
/-- the two ints of a tracked pair -/
def kH (H : Hp) (v : V) : Int × Int := match v with
  | .ref b => match H b with
    | some (.tup [.int x, .int y]) => (x, y)
    | _ => (0, 0)
  | _ => (0, 0)
theorem kH_eq {H : Hp} {b : Addr} {x y : Int} (h : H b = some (.tup [.int x, .int y])) : kH H (.ref b) = (x, y) := by
  unfold kH
  simp only [h]
section
variable {X : Cx}
/-- sorted(d) of a dict whose keys are ints, of any length -/
def rSortDI : List V → Hp → VK → Prop := fun xs H Q => ∃ (a : Addr) (kvs : List (Key × V)) (ks : List Int), xs = [.ref a] ∧ Rd H a (.dK kvs) ∧ kvs.map (·.1) = ks.map Sum.inl ∧
    ∀ (ys : List Int) (p : Addr), ys.Perm ks → ys.Pairwise (· ≤ ·) → H p = none → Q (.ref p) (upd H p (.lst (ys.map V.int)))
theorem cr_sortDI (hcalm : X.calm = true) : CallR X (.builtin "sorted") rSortDI := by
  intro pins s σ H xs us Q I r q
  obtain ⟨a, kvs, ks, ex, hd, hks, q⟩ := q
  subst ex
  obtain ⟨u, eu, rx⟩ := vals1 r
  subst eu
  cases rx
  obtain ⟨z, lo, vs, rel, dd⟩ := dk_rd I.hok hd
  obtain ⟨ep, hat⟩ := dd.dictAt
  have hkeys : vs.map (·.1) = ks.map Sum.inl := rel.keys.symm.trans hks
  have hl : vs.length = ks.length := by
    have e := congrArg List.length hkeys
    rw [List.length_map, List.length_map] at e
    exact e
  have h16 : vs.length ≤ sizeLine := by rw [← rel.length]; exact z
  refine SrtO.sorted_from SrtO.swo_int (fun us => IntsAre us ks) (fun E' R hR => PySem.W.kdu_collect (A := X.A.in1) (PySem.W.kdl_dict (knd := mixKind X.prog X.w) (kvs := vs) (ep := ep) lo) (I.ok.hd hcalm) hat h16 fun h' tk acc hk hacc => hR h' tk acc.toList hk ?_) (fun us hI => ?_) (fun us h1 tk a' hI h2 ha kp => SrtO.ints_sortable hI h2) fun hm h' tk us out kp hI hs hb kp2 hn => ?_
  · have hal : acc.toList.length = ks.length := by rw [Array.length_toList, hacc.1, hl]
    refine ints_each hal fun j v e => ?_
    obtain ⟨k, x, e1, e2⟩ := hacc.2 j v (by rw [← Array.getElem?_toList]; exact e)
    have e3 : (vs.map (·.1))[j]? = some k := by rw [List.getElem?_map, e1]; rfl
    rw [hkeys, List.getElem?_map] at e3
    cases e4 : ks[j]? with
    | none => rw [e4] at e3; cases e3
    | some y =>
      rw [e4] at e3
      have e5 : Sum.inl y = k := Option.some.inj e3
      subst e5
      rcases keyIs_shape (show keyIs (Sum.inl y) v = true from e2) with ⟨i, t, ek, ev⟩ | ⟨z, t, ek, ev⟩
      · cases ek
        exact ⟨y, t, rfl, ev⟩
      · cases ek
  · have := congrArg List.length (SrtO.iv_ints hI)
    rw [List.length_map] at this
    omega
  · obtain ⟨k1, k2, k3⟩ := SrtO.ints_out hI hs hb
    obtain ⟨n, hn⟩ := hn
    have I1 : Inv X pins σ H { s with heap := hm, toks := tk } := I.kept kp
    have hlen : ((out.map SrtO.iv).map V.int).length ≤ sizeLine := by
      rw [List.length_map, k2.length_eq]
      omega
    exact ⟨.ref hm.objs.size, upd H hm.objs.size (.lst ((out.map SrtO.iv).map V.int)), I1.laid (t' := tk) kp2 (Nat.le_refl _) ⟨hlen, out, n, vals_of_ints k1, hn⟩, rfl, q _ _ k2 k3 (I1.hok.fresh (Nat.le_refl _))⟩
/-- the values of tracked pairs -/
theorem isPair_of {pins : List (Addr × Obj)} {σ : St} {H : Hp} {s : Shared} (I : Inv X pins σ H s) {t : Addr} {x y : Int} (ht : H t = some (.tup [.int x, .int y])) : Srt.IsPair s.heap (.ref t) x y := by
  obtain ⟨_, its2, r2, o, ho, hc, n, hd⟩ := I.hok _ _ ht
  obtain ⟨u1, u2, rfl, ri, rj⟩ := vals2 r2
  obtain ⟨t1, rfl⟩ := ri
  obtain ⟨t2, rfl⟩ := rj
  exact ⟨t, o, t1, t2, n, rfl, ho, hc, hd⟩
def rSortTup (K : PySem.W.Frag) : List V → Hp → VK → Prop := fun vs H Q => ∃ (a : Addr) (xs : List V), vs = [V.ref a] ∧ SqT K H a xs ∧ (∀ x ∈ xs, ∃ t i j, x = V.ref t ∧ H t = some (.tup [.int i, .int j])) ∧
  ∀ ys p, SrtO.Srtd (ltP (kH H)) ys → SrtO.Stb (ltP (kH H)) ys xs → H p = none → Q (.ref p) (upd H p (.lst ys))
theorem pairs_back {pins : List (Addr × Obj)} {σ : St} {H : Hp} {s : Shared} (I : Inv X pins σ H s) {us : List Value} (h : ∀ v ∈ us, ∃ t i j, v = Value.ref t ∧ H t = some (.tup [.int i, .int j])) :
    ∀ v ∈ us, Srt.IsPair s.heap v (kH H (backV v)).1 (kH H (backV v)).2 := fun v hv => by
  obtain ⟨t, i, j, rfl, ht⟩ := h v hv
  have e : kH H (backV (.ref t)) = (i, j) := kH_eq ht
  rw [e]
  exact isPair_of I ht
theorem sortable_at {pins : List (Addr × Obj)} {σ : St} {H : Hp} {s : Shared} (I : Inv X pins σ H s) {us : List Value} (h : ∀ v ∈ us, ∃ t i j, v = Value.ref t ∧ H t = some (.tup [.int i, .int j])) {h1 : Heap} {tk : Nat} {a : Addr} (h2 : 2 ≤ us.length)
    (ha : h1.get? a = some (seqObj "list" us.toArray 0)) (kp : ∀ b o, s.heap.get? b = some o → h1.get? b = some o) : SrtO.SortableO X.prog X.w X.A.in1.in1 { s with heap := h1, toks := tk } a us fun v u => SrtO.lexB (kH H (backV v)) (kH H (backV u)) := by
  refine SrtO.pairs_sortableO (s := { s with heap := h1, toks := tk }) (k := fun v => kH H (backV v)) (by omega) (fun v hm => (pairs_back I h v hm).keeps fun b o e _ => kp b o e) fun o e => ?_
  have e' : some o = some (seqObj "list" us.toArray 0) := e.symm.trans ha
  cases e'
  intro c
  exact absurd (Value.type.inj c) (by decide)
theorem cr_sortTup : CallR X (.builtin "sorted") (rSortTup X.K) := by
  intro pins s σ H vs us Q I r h
  obtain ⟨a, xs, rfl, hs, hx, q⟩ := h
  obtain ⟨its, rv, hl, hz⟩ := I.tuple hs
  obtain ⟨u, rfl, ru⟩ := vals1 r
  obtain rfl : u = Value.ref a := ru
  obtain ⟨e1, e2⟩ := refs_back rv fun x m => by
    obtain ⟨t, _, _, e, _⟩ := hx x m
    exact ⟨t, e⟩
  have hp : ∀ v ∈ its, ∃ t i j, v = Value.ref t ∧ H t = some (.tup [.int i, .int j]) := fun v hv => by
    obtain ⟨t, rfl⟩ := e2 v hv
    have hm : V.ref t ∈ xs := by rw [e1]; exact List.mem_map.mpr ⟨_, hv, rfl⟩
    obtain ⟨t', i, j, e, ht⟩ := hx _ hm
    cases e
    exact ⟨t, i, j, rfl, ht⟩
  refine SrtO.sorted_from (SrtO.swo_lex fun v => kH H (backV v)) (fun vs => vs = its) (fun E' R hR => SrtO.collect_tup (vs := its) hl (hR _ s.toks its (fun b o e => ?_) rfl) (by rw [← rv.length]; exact hz)) (fun vs e => by rw [e, ← rv.length]; exact hz)
    (fun vs h1 tk a' e h2 ha kp => by subst e; exact sortable_at I hp h2 ha kp) fun hm h' tk vs out kp e h1 h2 kp2 hn => ?_
  · have hlt : b < s.heap.objs.size := Heap.lt_size e
    rw [Heap.get?_update_ne _ _ _ _ (Nat.ne_of_lt hlt)]
    exact Heap.get?_push_of_some _ e
  · subst e
    have h3 : ∀ u ∈ out, ∃ a, u = Value.ref a := fun u hu => e2 u (h2.perm.mem_iff.mp hu)
    obtain ⟨n, hn⟩ := hn
    have hb : SrtO.Stb (ltP (kH H)) (out.map backV) xs := by
      rw [e1]
      exact SrtO.Stb.map (ltP_swo (kH H)) backV h2
    have I1 : Inv X pins σ H { s with heap := hm, toks := tk } := I.kept kp
    refine ⟨.ref hm.objs.size, upd H hm.objs.size (.lst (out.map backV)), I1.laid (t' := tk) kp2 (Nat.le_refl _) ⟨?_, out, n, vals_back h3, hn⟩, rfl, q _ _ (SrtO.srtd_map h1) hb (I1.hok.fresh (Nat.le_refl _))⟩
    rw [hb.len]
    exact hz
/-- sorted(d) of a dict whose keys are pairs of ints, of any length -/
def rSortDT : List V → Hp → VK → Prop := fun vs H Q => ∃ (a : Addr) (kvs : List (List Key × V)), vs = [V.ref a] ∧ Rd H a (.dT kvs) ∧ (∀ kv ∈ kvs, ∃ i j : Int, kv.1 = [Sum.inl i, Sum.inl j]) ∧
  ∀ ys p bs, IsKeys H kvs bs → SrtO.Srtd (ltP (kH H)) ys → SrtO.Stb (ltP (kH H)) ys (bs.map V.ref) → H p = none → Q (.ref p) (upd H p (.lst ys))
theorem back_refs (bs : List Addr) : (bs.map Value.ref).map backV = bs.map V.ref := by rw [List.map_map]; rfl
theorem isKeys_mem {H : Hp} {kvs : List (List Key × V)} {bs : List Addr} (h : IsKeys H kvs bs) : ∀ b ∈ bs, ∃ kv ∈ kvs, H b = some (.tup (kv.1.map kV)) := by
  unfold IsKeys at h
  induction h with
  | nil => exact fun b hb => nomatch hb
  | cons h t ih =>
    intro b hb
    rcases List.mem_cons.mp hb with e | hb
    · subst e
      exact ⟨_, List.mem_cons_self, h⟩
    · obtain ⟨kv, m, e⟩ := ih b hb
      exact ⟨kv, List.mem_cons_of_mem _ m, e⟩
theorem cr_sortDT (hc : X.calm = true) : CallR X (.builtin "sorted") rSortDT := by
  intro pins s σ H vs us Q I r h
  obtain ⟨d, kvs, rfl, hd, hk, q⟩ := h
  obtain ⟨u, rfl, rx⟩ := r.one
  cases rx
  obtain ⟨z, hs, ks, pr, o, es, ep, ho, hx, hdt, he, hn⟩ := (show ObjOk X.prog X.w H s.heap d (.dT kvs) from hd.ok I.hok)
  have l1 : es.size = ks.length := size_of_entries he
  have l2 : kvs.length = ks.length := Paired.length pr
  have key := isKeys_of pr
  have hp : ∀ v ∈ (ks.map fun x => x.2.1).map Value.ref, ∃ t i j, v = Value.ref t ∧ H t = some (.tup [.int i, .int j]) := fun v hv => by
    obtain ⟨b, hb, rfl⟩ := List.mem_map.mp hv
    obtain ⟨kv, m, e⟩ := isKeys_mem key b hb
    obtain ⟨i, j, e2⟩ := hk kv m
    rw [e2] at e
    exact ⟨b, i, j, rfl, e⟩
  have hlen : ((ks.map fun x => x.2.1).map Value.ref).length ≤ sizeLine := by rw [List.length_map, List.length_map]; omega
  refine SrtO.sorted_from (SrtO.swo_lex fun v => kH H (backV v)) (fun vs => vs = (ks.map fun x => x.2.1).map Value.ref) (fun E' R hR => PySem.W.kdu_collect (A := X.A.in1) (kdl_raw hs hx hdt) (I.ok.hd hc) ho (by omega) fun h' tk acc hk it => hR h' tk acc.toList hk ?_)
    (fun vs e => by rw [e]; exact hlen) (fun vs h1 tk a' e h2 ha kp => by subst e; exact sortable_at I hp h2 ha kp) fun hm h' tk vs out kp e h1 h2 kp2 hn => ?_
  · have hl : acc.toList.length = ks.length := by rw [Array.length_toList, it.1]; exact l1
    apply List.ext_getElem?
    intro j
    rw [List.getElem?_map, List.getElem?_map]
    cases hj : acc.toList[j]? with
    | none =>
      have h1 := List.getElem?_eq_none_iff.mp hj
      rw [List.getElem?_eq_none (by omega)]
      all_goals rfl
    | some v =>
      obtain ⟨en, hen, hv⟩ := it.2 j v (by rw [← Array.getElem?_toList]; exact hj)
      have qe := entry_at he j
      rw [hen] at qe
      cases hb : ks[j]? with
      | none =>
        rw [hb] at qe
        exact nomatch (show some en = none from qe)
      | some b =>
        rw [hb] at qe
        have e2 : en = entryOfKey (tupleKind (mixKind X.prog X.w)) b := Option.some.inj qe
        rw [hv, e2]
        all_goals rfl
  · subst e
    have h3 : ∀ u ∈ out, ∃ a, u = Value.ref a := fun u hu => by
      obtain ⟨b, _, e⟩ := List.mem_map.mp (h2.perm.mem_iff.mp hu)
      exact ⟨b, e.symm⟩
    obtain ⟨n, hn⟩ := hn
    have hb : SrtO.Stb (ltP (kH H)) (out.map backV) ((ks.map fun x => x.2.1).map V.ref) := by
      rw [← back_refs]
      exact SrtO.Stb.map (ltP_swo (kH H)) backV h2
    have I1 : Inv X pins σ H { s with heap := hm, toks := tk } := I.kept kp
    refine ⟨.ref hm.objs.size, upd H hm.objs.size (.lst (out.map backV)), I1.laid (t' := tk) kp2 (Nat.le_refl _) ⟨?_, out, n, vals_back h3, hn⟩, rfl, q _ _ _ key (SrtO.srtd_map h1) hb (I1.hok.fresh (Nat.le_refl _))⟩
    rw [hb.len, List.length_map, List.length_map]
    omega
end
end L2
/-! own rules: dict with pair keys: copy, pop, items; min of data; list's place, added to -/
namespace L2
open PySem PySem.Spec PyProof.Rows FC
abbrev kOf (p : Pre) : List Key := [Sum.inl (p.1 : Int), Sum.inl (p.2 : Int)]
theorem kOf_inj {p q : Pre} (h : kOf p = kOf q) : p = q := by
  injection h with h1 h2
  injection h2 with h2 _
  injection h1 with h1
  injection h2 with h2
  exact Prod.ext (by omega) (by omega)
def hashP (l n : Int) : Int := reduceHash (Builtin.Tuple.tupleHashOf [hashInt l, hashInt n])
theorem hash_nd : ((pres 6).map fun p => hashP (p.1 : Int) (p.2 : Int)).Nodup := by decide +kernel
theorem hash_inj {p q : Pre} (hp : p ∈ pres 6) (hq : q ∈ pres 6) (h : hashP (p.1 : Int) (p.2 : Int) = hashP (q.1 : Int) (q.2 : Int)) : p = q := by
  obtain ⟨i, hi, e1⟩ := List.mem_iff_getElem.mp hp
  obtain ⟨j, hj, e2⟩ := List.mem_iff_getElem.mp hq
  have nd := List.pairwise_iff_getElem.mp hash_nd
  rcases Nat.lt_trichotomy i j with c | c | c
  · refine absurd ?_ (nd i j (by rw [List.length_map]; exact hi) (by rw [List.length_map]; exact hj) c)
    rw [List.getElem_map, List.getElem_map, e1, e2]
    exact h
  · subst c
    exact e1.symm.trans e2
  · refine absurd ?_ (nd j i (by rw [List.length_map]; exact hj) (by rw [List.length_map]; exact hi) c)
    rw [List.getElem_map, List.getElem_map, e1, e2]
    exact h.symm
section
variable {prog : Program} {w : World} {K : Type} [DecidableEq K] {knd : HeapKind prog w K} {A : Around} {E : Value → Shared → Prop} {s : Shared}
theorem call_dictH {o : Addr} {more : List (K × Addr × Value)} {Q : Value → Shared → Prop} (hu : ∀ B : Around, B.units ≤ A.units + 2 → knd.room B) (hoS : (o == sysModules) = false) (ho : s.heap.DictOfH knd o more) (hty : ∀ x ∈ more, s.TypeIs (.ref x.2.1) "tuple") (hap : (more.map fun x => knd.hash x.1).Nodup)
    (hst : ∀ h', (∀ b o, s.heap.get? b = some o → h'.get? b = some o) → ∀ x ∈ more, knd.is h' x.1 x.2.1) (hsz : more.length ≤ sizeLine)
    (h : ∀ h', h'.DictOfH knd s.heap.objs.size more → Heap.SameBut s.heap.objs.size (s.heap.push { cls := .type "dict", data := .dict #[] }) h' → Q (.ref s.heap.objs.size) { s with heap := h' }) :
    wpAny (model prog w) A (call (.type "dict") [.ref o]) Q E s := by
  refine callType_codes (Q₁ := fun obj s₁ => obj = .ref s.heap.objs.size ∧ s₁ = { s with heap := s.heap.push { cls := .type "dict", data := .dict #[] } }) F.kt_called_dict (F.kt_typeCall_dict_1 _) F.entry_dict_init (kt_code_dict_new _ ⟨rfl, rfl⟩) ?_
  rintro obj s₁ ⟨rfl, rfl⟩
  have hnew : (s.heap.push { cls := .type "dict", data := .dict #[] }).DictOfH knd s.heap.objs.size [] := Heap.DictOfH.new s.heap
  have hpush : ∀ b o, s.heap.get? b = some o → (s.heap.push { cls := .type "dict", data := .dict #[] }).get? b = some o := fun b o e => Heap.get?_push_of_some _ e
  have ho' : (s.heap.push { cls := .type "dict", data := .dict #[] }).DictOfH knd o more := ho.at' (fun ob e => hpush _ _ e) (hst _ hpush)
  have hn : (more.map (·.1)).Nodup := ho.nodup
  have hdo : s.heap.objs.size ≠ o := by
    obtain ⟨_, _, _, hg, _⟩ := ho
    exact fun e => absurd (Heap.lt_size hg) (by rw [e]; exact Nat.lt_irrefl _)
  refine ⟨hnew.typeIs, F.args_dict_init_2 _ _, ?_⟩
  unfold Builtin.«dict.__init__»
  refine wpAny_bind ?_
  unfold Builtin.Dict.selfAndRest
  refine wpAny_bind (wpAny_notOrdered_dict hnew.typeIs ?_)
  show wpAny _ _ (pure (s.heap.objs.size, [Value.ref o])) _ _ _
  refine wpAny_pure ?_
  show wpAny _ _ (Builtin.Dict.updateFrom "dict.__init__" s.heap.objs.size (.ref o) [] .none) _ _ _
  unfold Builtin.Dict.updateFrom
  refine wpAny_bind (wpAny_typeOf ho'.typeIs ?_)
  rw [if_neg (by decide)]
  refine wpAny_bind ?_
  unfold Builtin.Dict.merge
  refine wpAny_bind ?_
  unfold Builtin.Dict.readDirectly
  refine wpAny_bind (wpAny_isInstance ho'.typeIs isSubtype_dict_dict ?_)
  simp only [Bool.not_true, Bool.false_eq_true, if_false]
  refine wpAny_bind (wpAny_specialOf ho'.typeIs F.slot_dict_iter.lookup (wpAny_pure ?_))
  simp only [beq_self_eq_true, if_true]
  refine wpAny_bind (wpAny_pure ?_)
  refine wpAny_mergeDict_heap (hsz := by simpa using hsz) (hu _ ?_) hdo hoS hnew ho' (.inr ⟨fun x hx => ?_, hap⟩) fun h' hd' _ hs' => ?_
  · exact Nat.le_refl _
  · obtain ⟨ob, e, c⟩ := hty x hx
    exact ⟨ob, hpush _ _ e, c⟩
  · show wpAny _ _ (Builtin.Dict.addKeywords s.heap.objs.size [] >>= _) _ _ _
    rw [storedAllH_nil_of_nodup more hn] at hd'
    exact wpAny_bind (wpAny_pure (wpAny_pure ⟨rfl, h h' hd' hs'⟩))
end
section
variable {X : Cx}
theorem kt_tup {P : Program} {w : World} {H : Hp} {h : Heap} {kvs : List (List Key × V)} {ks : List (List Key × Addr × Value)} (hok : HOk P w H h) (pr : KT H kvs ks) : ∀ x ∈ ks, (tupleKind (mixKind P w)).is h x.1 x.2.1 ∧ ∃ kv ∈ kvs, kv.1 = x.1 := by
  induction pr with
  | nil => exact fun x hx => nomatch hx
  | cons r t ih =>
    intro x hx
    rcases List.mem_cons.mp hx with e | hx
    · subst e
      exact ⟨by rw [← r.1]; exact key_of hok r.2.1, _, List.mem_cons_self, r.1⟩
    · obtain ⟨a, kv, m, e⟩ := ih x hx
      exact ⟨a, kv, List.mem_cons_of_mem _ m, e⟩
theorem nodup_map_inj {α β : Type} {f : α → β} : ∀ {l : List α}, l.Nodup → (∀ x ∈ l, ∀ y ∈ l, f x = f y → x = y) → (l.map f).Nodup
  | [], _, _ => List.Pairwise.nil
  | a :: l, h, hf => by
    rw [List.nodup_cons] at h
    rw [List.map_cons, List.nodup_cons]
    refine ⟨fun hm => ?_, nodup_map_inj h.2 fun x hx y hy => hf x (List.mem_cons_of_mem _ hx) y (List.mem_cons_of_mem _ hy)⟩
    obtain ⟨b, hb, e⟩ := List.mem_map.mp hm
    exact h.1 (hf a List.mem_cons_self b (List.mem_cons_of_mem _ hb) e.symm ▸ hb)
/-- dict(d) of a dict whose keys are prefixes: a copy -/
def rDictT : List V → Hp → VK → Prop := fun xs H Q => ∃ (a : Addr) (kvs : List (List Key × V)), xs = [.ref a] ∧ H a = some (.dT kvs) ∧ (∀ kv ∈ kvs, ∃ p ∈ pres 6, kv.1 = kOf p) ∧ ∀ p, H p = none → Q (.ref p) (upd H p (.dT kvs))
theorem cr_dictT (hu : X.A.units + 64 < cLine) : CallR X (.type "dict") rDictT := by
  intro pins s σ H xs us Q I r h
  obtain ⟨a, kvs, rfl, ha, hk, q⟩ := h
  obtain ⟨u, rfl, rx⟩ := vals1 r
  cases rx
  obtain ⟨z, hs, ks, pr, o, es, ep, ho, hx, hdt, he, hn⟩ := (show ObjOk X.prog X.w H s.heap a (.dT kvs) from I.hok a _ ha)
  have l2 : kvs.length = ks.length := Paired.length pr
  have tup := kt_tup I.hok pr
  have dd : s.heap.DictOfH (tupleKind (mixKind X.prog X.w)) a ks := ⟨o, es, ep, ho, hx, hdt, he, fun x hx => (tup x hx).1, hn⟩
  have st : ∀ h', (∀ b o, s.heap.get? b = some o → h'.get? b = some o) → ∀ x ∈ ks, (tupleKind (mixKind X.prog X.w)).is h' x.1 x.2.1 := fun h' k x hx => by
    obtain ⟨o, items, n, h1, h2, h3, h4⟩ := (tup x hx).1
    exact ⟨o, items, n, k _ _ h1, h2, h3, h4⟩
  have keyP : ∀ x ∈ ks, ∃ p ∈ pres 6, x.1 = kOf p := fun x hx => by
    obtain ⟨kv, m, e⟩ := (tup x hx).2
    obtain ⟨p, hp, e2⟩ := hk kv m
    exact ⟨p, hp, e.symm.trans e2⟩
  refine call_dictH (knd := tupleKind (mixKind X.prog X.w)) (fun B hB => (show B.units < cLine by omega)) hs dd (fun x hx => IsTupleKey.typeIs (tup x hx).1) ?_ st (by omega) fun h' d' sb => ?_
  · have e1 : (ks.map fun x => (tupleKind (mixKind X.prog X.w)).hash x.1) = (ks.map (·.1)).map (tupleKind (mixKind X.prog X.w)).hash := by rw [List.map_map]; rfl
    rw [e1]
    refine nodup_map_inj hn fun x hx y hy e => ?_
    obtain ⟨x', hx', rfl⟩ := List.mem_map.mp hx
    obtain ⟨y', hy', rfl⟩ := List.mem_map.mp hy
    obtain ⟨p, hp, e2⟩ := keyP x' hx'
    obtain ⟨q, hq, e3⟩ := keyP y' hy'
    have e4 : (tupleKind (mixKind X.prog X.w)).hash x'.1 = (tupleKind (mixKind X.prog X.w)).hash y'.1 := e
    rw [e2, e3] at e4
    have e5 : p = q := hash_inj hp hq e4
    show x'.1 = y'.1
    rw [e2, e3, e5]
  · have hm : (s.heap.objs.size == sysModules) = false := beq_eq_false_iff_ne.mpr (Nat.ne_of_gt I.big)
    have hn0 : H s.heap.objs.size = none := I.hok.fresh (Nat.le_refl _)
    obtain ⟨o', es', ep', g1, g2, g3, g4, _, g6⟩ := d'
    refine ⟨.ref s.heap.objs.size, upd H s.heap.objs.size (.dT kvs), I.laid (t' := s.toks) (fun b u e => (sb.2 b (Nat.ne_of_lt (Heap.lt_size e))).trans (Heap.get?_push_of_some _ e)) (Nat.le_refl _)
      (show ObjOk X.prog X.w _ _ _ (.dT kvs) from ⟨z, hm, ks, KT.keeps pr (fun b ys e => by rw [upd_ne (ne_of_none e hn0)]; exact e), o', es', ep', g1, g2, g3, g4, g6⟩), rfl, q _ hn0⟩
/-- d.pop(k), there -/
def rPop1T : V → List V → Hp → VK → Prop := fun x xs H Q => ∃ (a : Addr) (kvs : List (List Key × V)) (k : List Key) (b : Addr) (v : V), x = .ref a ∧ xs = [.ref b] ∧ H a = some (.dT kvs) ∧ H b = some (.tup (k.map kV)) ∧ valV kvs k = some v ∧ Q v (upd H a (.dT (dropK kvs k)))
theorem dropH_eq {κ : Type} [DecidableEq κ] (xs : List (κ × Addr × Value)) (k : κ) : withoutH xs k = DT.dropH xs k := rfl
theorem mt_pop1T (hu : X.A.units + 64 < cLine) : MtR X "dict.pop" rPop1T := by
  intro pins s σ H x xs v us Q I rx rxs h
  obtain ⟨a, kvs, k, b, d, rfl, rfl, ha, hb, hv, q⟩ := h
  cases rx
  obtain ⟨u1, rfl, r1⟩ := vals1 rxs
  cases r1
  obtain ⟨z, hd, xs', rel, dd⟩ := dt_of I.hok ha
  have hz : xs'.length ≤ sizeLine := by rw [← Paired.length rel]; exact z
  have r := rel.val k
  rw [hv] at r
  obtain ⟨p, hp, rv⟩ : ∃ p, atKey xs' k = some p ∧ RelV d p.2 := by
    cases e : atKey xs' k with
    | none => rw [e] at r; exact (show False from r).elim
    | some p => rw [e] at r; exact ⟨p, rfl, r⟩
  refine call_pop_heap (knd := tupleKind (mixKind X.prog X.w)) (.inl rfl) (PySem.F.args_dict_pop_2 _ _) (show X.A.units + 1 < cLine by omega) (key_of I.hok hb) hd dd hp (fun h' dd' hs => ?_) hz
  obtain ⟨o, es, ep, hq, h2, h3, h4, _, h5⟩ := dd'
  have I2 : Inv X pins σ (upd H a (.dT (dropK kvs k))) { s with heap := h', toks := s.toks + (tupleKind (mixKind X.prog X.w)).draws k } :=
    d_write I (by rw [ha]; exact True.intro) hs ⟨o, hq⟩ ⟨Nat.le_trans (dropK_le kvs k) z, hd, _, (DX.KT_drop k rel).keeps (fun c ys ec => (by rw [upd_ne (ne_of ec ha (fun z => nomatch z))]; exact ec)), o, es, ep, hq, h2, h3, h4, h5⟩
  exact ⟨d, _, I2, rv, q⟩
end
theorem kt_at {H : Hp} {kvs : List (List Key × V)} {xs : List (List Key × Addr × Value)} (pr : KT H kvs xs) {i : Nat} {k : List Key} {v : V} (e : kvs[i]? = some (k, v)) :
    ∃ b, xs[i]? = some b ∧ k = b.1 ∧ H b.2.1 = some (.tup (k.map kV)) ∧ RelV v b.2.2 := by
  obtain ⟨b, hb, e1, e2, e3⟩ := paired_get pr e
  exact ⟨b, hb, e1, e2, e3⟩
/-- the pairs of the locked dict at d with tuple keys, each a new tuple -/
def ItiT (d : Addr) (o : Obj) (kvs : List (List Key × V)) : It :=
  ⟨fun i H => H d = some (.frz o (.dT kvs)) ∧ i < kvs.length, fun i H x H' => ∃ (T q : Addr) (k : List Key) (v : V), kvs[i]? = some (k, v) ∧ x = .ref T ∧ H T = none ∧ H q = some (.tup (k.map kV)) ∧ H' = upd H T (.tup [.ref q, v]), fun i H => H d = some (.frz o (.dT kvs)) ∧ kvs.length ≤ i⟩
section
variable {P : Program} {w : World} {K : PySem.W.Frag} {tg : Expr} {d : Addr} {o : Obj} {es : Array DictEntry} {ep : Nat}
theorem turn_itemsT {kvs : List (List Key × V)} {elts : List Expr} {kk : Nat} {tpos : Pos} (it : Addr) (hod : o.data = .dict es ep) :
    Turn P w K (.Tuple elts kk tpos) (ItiT d o kvs) [it] it (fun i h => ∃ ok ov, IsItemIter h it d i es.size ep ok ov) where
  mem := by simp
  obj := fun i h st b hb => by
    have e : b = it := by simpa using hb
    subst e
    obtain ⟨ok, ov, e⟩ := st
    exact ⟨_, e, fun v z => nomatch z⟩
  keep := fun i h h' st k => let ⟨ok, ov, e⟩ := st; ⟨ok, ov, k it (by simp) _ e⟩
  item := by
    intro X hP hw hK hc i pins s σ H E I hf st hg
    subst hP hw hK
    obtain ⟨hd, hi⟩ := hg
    obtain ⟨hgd, z, hs, xs, pr, o', es', ep', ho, hx, hdt, he, _⟩ := I.hok d _ hd
    rw [hgd] at ho
    cases ho
    obtain ⟨rfl, rfl⟩ := dict_ep hod hdt
    obtain ⟨⟨k, v⟩, hkv⟩ : ∃ p, kvs[i]? = some p := ⟨kvs[i], List.getElem?_eq_getElem hi⟩
    obtain ⟨b, hb, e1, e2, rv⟩ := kt_at pr hkv
    obtain ⟨ok, ov, hit⟩ := st
    have hlt : it < s.heap.objs.size := Heap.lt_size hit
    have l1 : es'.size = xs.length := size_of_entries he
    have l2 : kvs.length = xs.length := Paired.length pr
    have hi2 : i < es'.size := by omega
    have hen : es'[i] = entryOfKey (tupleKind (mixKind X.prog X.w)) b := by
      have q := entry_at he i
      rw [hb, Array.getElem?_eq_getElem hi2] at q
      exact Option.some.inj q
    have ek : es'[i].key = .ref b.2.1 := by rw [hen]; rfl
    have ev : es'[i].val = b.2.2 := by rw [hen]; rfl
    refine DT.nextI hit ⟨o, hgd, hx, hdt⟩ hi2 fun h' ho hT hz hk => ?_
    rw [ek, ev] at hT ho
    refine ⟨_, rfl, wpAny_letOwnedTupleGo_items (s := { s with heap := h' }) ho fun h'' he' sb => ?_⟩
    have hT2 : h''.get? s.heap.objs.size = some { cls := .type "tuple", data := .seq #[.ref b.2.1, b.2.2] } := (sb.2 _ (Nat.ne_of_gt hlt)).trans hT
    have new : ObjOk X.prog X.w (upd H s.heap.objs.size (.tup [.ref b.2.1, v])) h'' s.heap.objs.size (.tup [.ref b.2.1, v]) :=
      ⟨by show 2 ≤ sizeLine; decide, [.ref b.2.1, b.2.2], .cons rfl (.cons rv .nil), ⟨_, hT2, rfl, _, rfl⟩⟩
    have I1 : Inv X pins σ (upd H s.heap.objs.size (.tup [.ref b.2.1, v])) { s with heap := h'' } :=
      I.turnedNew (t' := s.toks) (ch := [it]) (fun b ob hb e => (sb.2 b (by simpa using hb)).trans (hk b ob (by simpa using hb) e)) hf (Nat.le_refl _) new
    refine ⟨.ref s.heap.objs.size, _, I1, rfl, ⟨_, b.2.1, k, v, hkv, rfl, I.hok.fresh (Nat.le_refl _), e2, rfl⟩, ⟨_, _, he'⟩, fun c hc => ?_⟩
    have e : c = it := by simpa using hc
    rw [e, upd_ne (Nat.ne_of_lt hlt)]
    exact (hf it (by simp)).1
  done := by
    intro X hP hw hK hc i pins s σ H E I hf st hg
    subst hP hw hK
    obtain ⟨hd, hi⟩ := hg
    obtain ⟨f0, f1, f2, f3, f4, f5⟩ := hf it (by simp)
    obtain ⟨hs, hgd, hx, es', ep', hdt, hsz, ent⟩ := I.frzT hd
    obtain ⟨rfl, rfl⟩ := dict_ep hod hdt
    obtain ⟨ok, ov, hit⟩ := st
    exact DT.endI (I.ok.hd hc) hit ⟨o, hgd, hx, hdt⟩ (by omega) fun h' eb => ⟨rfl, I.turned (t' := s.toks) (fun b ob hb e => eb b ob hb e) f0 f1 f3 f4 f5⟩
  self := fun A i s Q E st h => let ⟨_, _, e⟩ := st; PySem.W.kcp_self e h
end
def iItemsT (td : TE) : TI := fun σ H R => td σ H fun x H1 => ∃ d o kvs, x = .ref d ∧ H1 d = some (.frz o (.dT kvs)) ∧ R (ItiT d o kvs) H1
section
variable {X : Cx} {e : Expr} {td : TE} {apos cpos : Pos}
theorem pi_itemsT {elts : List Expr} {kk : Nat} {tpos : Pos} (he : PE X e td) (hbase : attributeBase e "items" X.env (eval e X.env) = eval e X.env := by rfl) (hline : (apos.endLine == cpos.line) = true := by rfl) :
    PI X (.Tuple elts kk tpos) (.Call (.Attribute e "items" apos) [] [] cpos) (iItemsT td) := by
  refine ⟨fun pins s σ H R I h => ?_⟩
  refine wpAny_Call_method (T := "dict") (id := "dict.items") hbase rfl hline F.plainAttrs_dict F.slot_dict_items F.type_dict_items (thn (he.run pins s σ H _ I h) fun u s1 ⟨x, H1, I1, rx, d, o, kvs, ex, hd, q⟩ => ?_)
  subst ex
  obtain rfl : u = Value.ref d := rx
  obtain ⟨hs, hgd, hx, es, ep, hdt, hsz, ent⟩ := I1.frzT hd
  have raw : DT.Raw s1.heap d es ep := ⟨o, hgd, hx, hdt⟩
  refine ⟨raw.typeIs, fun a ea => (by cases ea; exact ⟨o, hgd, hx.2.1⟩), ?_⟩
  have I2 : Inv X pins σ H1 { s1 with heap := s1.heap.push { cls := .type "dict_items", data := .fields #[.ref d] } } := I1.kept (t' := s1.toks) fun b ob q => Heap.get?_push_of_some _ q
  have fin : wpAny (model X.prog X.w) X.A (pyIter (.ref s1.heap.objs.size)) (PIE X pins σ (.Tuple elts kk tpos) R) X.xe { s1 with heap := s1.heap.push { cls := .type "dict_items", data := .fields #[.ref d] } } := by
    refine DT.iterI (d := d) ⟨_, Heap.get?_push_size _ rfl, rfl, rfl⟩ (raw.push _) (pi_one (tk := s1.toks) I2 _ (turn_itemsT _ hdt) ⟨.none, .none, Heap.get?_push_size _ rfl⟩ q)
  show wpAny _ _ (callWith cpos (.builtin "dict.items") [.ref d] [] []) _ X.xe s1
  exact method_meetsIn F.slot_dict_items F.entry_dict_items rfl (PySem.evalArgs_none ⟨rfl, raw.typeIs, F.args_dict_items_1 _, _, DT.meetsItems hs, raw, fin⟩)
theorem walk_itemsT {d : Addr} {o : Obj} {kvs : List (List Key × V)} : Walk (ItiT d o kvs) kvs.length (fun H => H d = some (.frz o (.dT kvs))) (fun i H x H' => ∃ (T q : Addr) (k : List Key) (v : V), kvs[i]? = some (k, v) ∧ x = .ref T ∧ H T = none ∧ H q = some (.tup (k.map kV)) ∧ H' = upd H T (.tup [.ref q, v])) :=
  ⟨fun _ _ hi q => ⟨q, hi⟩, fun _ q => ⟨q, Nat.le_refl _⟩, fun _ _ _ _ _ _ y => y⟩
end
/-! ### min of a list of data -/
section
variable {X : Cx} {α : Type} [DecidableEq α] [PySem.W.DatumOrd α]
def rMinD (α : Type) [DecidableEq α] [PySem.W.DatumOrd α] (K : PySem.W.Frag) : List V → Hp → VK → Prop := fun vs H Q => ∃ (a : Addr) (us : List V) (x : α) (xs : List α), vs = [.ref a] ∧ SqL K H a us ∧ DpAll K H us ((x :: xs).map PySem.W.Datum.toD) ∧
  ∀ (i : Nat) (u : V), us[i]? = some u → (x :: xs)[i]? = some (PySem.W.minOf x xs) → Q u H
theorem dpAll_at {K : PySem.W.Frag} {H : Hp} : ∀ {us : List V} {ds : List PyData}, DpAll K H us ds → ∀ {i : Nat} {u : V}, us[i]? = some u → ∃ d, ds[i]? = some d ∧ Dp K H u d
  | _, _, .nil, i, u, h => by simp at h
  | v :: _, _ :: _, .cons h1 h2, 0, u, h => by
    have h : v = u := by simpa using h
    subst h
    exact ⟨_, rfl, h1⟩
  | _ :: _, _ :: _, .cons h1 h2, i + 1, u, h => by
    obtain ⟨d, e1, e2⟩ := dpAll_at h2 (i := i) (u := u) (by simpa using h)
    exact ⟨d, by simpa using e1, e2⟩
theorem cr_minD (hc : X.calm = true) (hu : X.A.units + 64 < cLine) (hd : PySem.W.Datum.depth α ≤ 60) : CallR X (.builtin "min") (rMinD α X.K) := by
  intro pins s σ H vs us Q I r h
  obtain ⟨a, vs, x, xs, rfl, hs, hD, q⟩ := h
  obtain ⟨its, rv, hl, hz⟩ := I.list hs
  obtain ⟨u, rfl, ru⟩ := vals1 r
  obtain rfl : u = Value.ref a := ru
  obtain ⟨as, hr⟩ := Dp.readsAll I _ _ _ hD rv
  refine PySem.W.min_list_datum (α := α) (x := x) (xs := xs) (I.ok.hd hc) hl.isList ⟨as, by simpa using hr⟩ (by omega) fun i v h' tk hi hh kp => ?_
  have hi' : its[i]? = some v := by simpa using hi
  have hlt : i < vs.length := by
    rw [rv.length]
    exact (List.getElem?_eq_some_iff.mp hi').1
  obtain ⟨u', hu', ru'⟩ := rv.get (List.getElem?_eq_getElem hlt)
  rw [hi'] at hu'
  have hu' : v = u' := Option.some.inj hu'
  subst hu'
  obtain ⟨d, hd1, hd2⟩ := dpAll_at hD (List.getElem?_eq_getElem hlt)
  rw [List.getElem?_map] at hd1
  obtain ⟨y, hy, rfl⟩ := Option.map_eq_some_iff.mp hd1
  have I1 : Inv X pins σ H { s with heap := h', toks := tk } := I.kept kp
  obtain ⟨as1, r1⟩ := Dp.reads I1 _ _ _ hd2 ru'
  obtain ⟨as2, r2⟩ := hh
  have e1 := PySem.SeqAt.readOf_plain (PySem.W.Datum.plain y) r1
  have e2 := PySem.SeqAt.readOf_plain (PySem.W.Datum.plain (PySem.W.minOf x xs)) r2
  have e3 : PySem.W.Datum.toD y = PySem.W.Datum.toD (PySem.W.minOf x xs) := e1.symm.trans e2
  have e4 : y = PySem.W.minOf x xs := by
    have g := PySem.W.Datum.eqv y y
    have g2 := PySem.W.Datum.eqv y (PySem.W.minOf x xs)
    rw [← e3, g] at g2
    exact of_decide_eq_true (g2.symm.trans (decide_eq_true rfl))
  exact ⟨_, H, I1, ru', q i _ (List.getElem?_eq_getElem hlt) (by rw [hy, e4])⟩
end
/-! ### a list's place -/
section
variable {X : Cx}
def gIxL (K : PySem.W.Frag) : V → V → Hp → VK → Prop := fun x y H Q => ∃ (p : Addr) (xs : List V) (j : Nat) (z : V), x = .ref p ∧ y = .int (j : Int) ∧ SqL K H p xs ∧ xs[j]? = some z ∧ j < 1000 ∧ Q z H
theorem get_list : PGet X (gIxL X.K) := by
  intro pins s σ H x y v u Q I rx ry h
  obtain ⟨p, xs, j, z, rfl, rfl, hq, he, hj, q⟩ := h
  cases rx
  obtain ⟨t, rfl⟩ := ry
  obtain ⟨its, r, pl, hz⟩ := I.list hq
  obtain ⟨w, ew, rw'⟩ := r.get he
  exact wpAny_getItem_list pl.isList (by omega) (by omega) (by simpa using ew) ⟨z, H, I, rw', q⟩
end
end L2
/-! own rules: a dict whose keys are (text, prefix) -/
namespace L2
open PySem PySem.Spec PyProof.Rows FC
abbrev MK := Str × Pre
def mkey (k : MK) : NestedKey := .tup [.text k.1, .tup [.num (k.2.1 : Int), .num (k.2.2 : Int)]]
theorem mkey_inj {a b : MK} (h : mkey a = mkey b) : a = b := by
  unfold mkey at h
  injection h with h
  injection h with h1 h2
  injection h1 with h1
  injection h2 with h2 _
  injection h2 with h2
  injection h2 with h3 h4
  injection h3 with h3
  injection h4 with h4 _
  injection h4 with h4
  refine Prod.ext h1 (Prod.ext ?_ ?_) <;> omega
def oV : Option Addr → V
  | none => .non
  | some a => .ref a
def oVal : Option Addr → Value
  | none => .none
  | some a => .ref a
theorem oV_rel (o : Option Addr) : RelV (oV o) (oVal o) := by cases o <;> rfl
theorem oV_back {o : Option Addr} {u : Value} (h : RelV (oV o) u) : u = oVal o := by
  cases o with
  | none => exact h
  | some a => exact h
abbrev Memo := List (MK × Addr × Option Addr)
def rawM (m : MK × Addr × Option Addr) : NestedKey × Addr × Value := (mkey m.1, m.2.1, oVal m.2.2)
def Memo0 (P : Program) (w : World) (h : Heap) (a : Addr) (ms : Memo) : Prop :=
  (a == sysModules) = false ∧ ms.length ≤ 4000 ∧ ∃ o es ep, h.get? a = some o ∧ o.ExactDict ∧ o.data = .dict es ep ∧ es.toList = (ms.map rawM).map (entryOfKey (nestedKind P w)) ∧ (ms.map (·.1)).Nodup
def MemoO (P : Program) (w : World) (a : Addr) (ms : Memo) : HO := .ext fun h => Memo0 P w h a ms
theorem memoO_ok {P : Program} {w : World} {H : Hp} {h : Heap} {a : Addr} {ms : Memo} (R : Memo0 P w h a ms) : ObjOk P w H h a (MemoO P w a ms) := by
  obtain ⟨_, _, o, _, _, ho, _⟩ := id R
  refine ⟨R, ⟨o, ho⟩, fun h1 h2 p k => ?_⟩
  obtain ⟨q1, q2, o', es', ep', ho', r'⟩ := p
  exact ⟨q1, q2, o', es', ep', k o' ho', r'⟩
/-- the tuple (text, prefix) -/
def KeyT (H : Hp) (b : Addr) (k : MK) : Prop := ∃ q, H b = some (.tup [.str k.1, .ref q]) ∧ H q = some (.tup [.int (k.2.1 : Int), .int (k.2.2 : Int)])
def MemoKeys (H : Hp) (ms : Memo) : Prop := ∀ m ∈ ms, KeyT H m.2.1 m.1
def mget (ms : Memo) (k : MK) : Option (Option Addr) := (ms.find? fun m => decide (m.1 = k)).map (·.2.2)
def mkeyed (ms : Memo) (k : MK) : Option (Addr × Option Addr) := (ms.find? fun m => decide (m.1 = k)).map (·.2)
theorem atKey_raw (ms : Memo) (k : MK) : atKey (ms.map rawM) (mkey k) = ((ms.find? fun m => decide (m.1 = k)).map (·.2)).map fun x => (x.1, oVal x.2) := by
  induction ms with
  | nil => rfl
  | cons m ms ih =>
    by_cases c : m.1 = k
    · have e : (rawM m).1 = mkey k := by rw [← c]; rfl
      simp [atKey, List.find?_cons, e, c, rawM]
    · have e : ¬ (rawM m).1 = mkey k := fun z => c (mkey_inj z)
      have ih' := ih
      unfold atKey at ih'
      simp only [atKey, List.map_cons, List.find?_cons, e, c, decide_false] at ih' ⊢
      exact ih'
section
variable {X : Cx} {pins : List (Addr × Obj)} {σ : St} {H : Hp} {s : Shared}
theorem key_is (I : Inv X pins σ H s) {b : Addr} {k : MK} (h : KeyT H b k) : (nestedKind X.prog X.w).is s.heap (mkey k) b := by
  obtain ⟨q, hb, hq⟩ := h
  obtain ⟨_, its, rv, o, ho, hc, n, hd⟩ := (show ObjOk X.prog X.w H s.heap b (.tup [.str k.1, .ref q]) from I.hok b _ hb)
  obtain ⟨_, its2, rv2, o2, ho2, hc2, n2, hd2⟩ := (show ObjOk X.prog X.w H s.heap q (.tup [.int (k.2.1 : Int), .int (k.2.2 : Int)]) from I.hok q _ hq)
  obtain ⟨u1, u2, rfl, r1, r2⟩ := vals2 rv
  obtain ⟨w1, w2, rfl, s1, s2⟩ := vals2 rv2
  obtain ⟨t, rfl⟩ := r1
  cases r2
  obtain ⟨t1, rfl⟩ := s1
  obtain ⟨t2, rfl⟩ := s2
  refine ⟨.tup ho hc hd (.cons (.text _ _) (.cons (.tup ho2 hc2 hd2 (.cons (.int _ _) (.cons (.int _ _) .nil))) .nil)), ?_⟩
  unfold mkey
  simp [NestedKey.depth, NestedKey.depthAll]
theorem memo_dict (I : Inv X pins σ H s) {a : Addr} {ms : Memo} (ha : H a = some (MemoO X.prog X.w a ms)) (hk : MemoKeys H ms) : (a == sysModules) = false ∧ ms.length ≤ 4000 ∧ s.heap.DictOfH (nestedKind X.prog X.w) a (ms.map rawM) ∧ (ms.map (·.1)).Nodup := by
  have R0 : Memo0 X.prog X.w s.heap a ms := (I.hok a _ ha).1
  obtain ⟨q1, q2, o, es, ep, ho, hx, hd, he, hn⟩ := R0
  refine ⟨q1, q2, ⟨o, es, ep, ho, hx, hd, he, fun x hx => ?_, ?_⟩, hn⟩
  · obtain ⟨m, hm, rfl⟩ := List.mem_map.mp hx
    exact key_is I (hk m hm)
  · have e : ((ms.map rawM).map (·.1)) = (ms.map (·.1)).map mkey := by rw [List.map_map, List.map_map]; rfl
    rw [e]
    exact nodup_map_inj hn fun x _ y _ e => mkey_inj e
end
section
variable {X : Cx}
def tMemoNew (P : Program) (w : World) : TE := fun _ H Q => ∀ a, H a = none → Q (.ref a) (upd H a (MemoO P w a []))
theorem pe_memo {pos : Pos} : PE X (.Dict [] [] pos) (tMemoNew X.prog X.w) := ⟨fun pins s σ H Q I h =>
  wpAny_Dict_empty ⟨.ref s.heap.objs.size, _, I.laid (a := s.heap.objs.size) (o := MemoO X.prog X.w s.heap.objs.size []) (t' := s.toks) (fun _ _ q => Heap.get?_push_of_some _ q) (Nat.le_refl _)
    (memoO_ok ⟨beq_eq_false_iff_ne.mpr (Ne.symm (Nat.ne_of_lt I.big)), Nat.zero_le _, _, #[], 0, Heap.get?_push_size _ rfl, ⟨rfl, rfl, rfl⟩, rfl, rfl, List.nodup_nil⟩), rfl, h _ (I.hok.fresh (Nat.le_refl _))⟩⟩
def rMemoNotIn (P : Program) (w : World) : R2 := fun x y H Q => ∃ (b a : Addr) (k : MK) (ms : Memo), x = .ref b ∧ y = .ref a ∧ H a = some (MemoO P w a ms) ∧ MemoKeys H ms ∧ KeyT H b k ∧ Q (.bl (!(mget ms k).isSome)) H
theorem op_memoNotIn (hu : X.A.units + 64 < cLine) : OpR X (compareOp .NotIn) (rMemoNotIn X.prog X.w) := by
  intro pins s σ H x y v u Q I rx ry h
  obtain ⟨b, a, k, ms, rfl, rfl, ha, hk, hb, q⟩ := h
  cases rx
  cases ry
  obtain ⟨q1, q2, dd, hn⟩ := memo_dict I ha hk
  show wpAny _ _ (do return Value.bool (!(← contains (.ref a) (.ref b)))) _ _ s
  refine wpAny_bind (wpAny_contains_heap (knd := nestedKind X.prog X.w) (show X.A.units + 1 + 8 < cLine by omega) (key_is I hb) q1 dd (wpAny_pure ?_))
  have e : (atKey (ms.map rawM) (mkey k)).isSome = (mget ms k).isSome := by
    rw [atKey_raw]
    unfold mget
    simp
  rw [e]
  exact ⟨.bl _, H, I.tok _, rfl, q⟩
def rMemoGet (P : Program) (w : World) : R2 := fun x y H Q => ∃ (a b : Addr) (k : MK) (ms : Memo) (v : Option Addr), x = .ref a ∧ y = .ref b ∧ H a = some (MemoO P w a ms) ∧ MemoKeys H ms ∧ KeyT H b k ∧ mget ms k = some v ∧ Q (oV v) H
theorem ix_memo (hu : X.A.units + 64 < cLine) : IxR X (rMemoGet X.prog X.w) := by
  intro value slice pins s σ H x y v u Q I rx ry h hs
  obtain ⟨a, b, k, ms, o, rfl, rfl, ha, hk, hb, hv, q⟩ := h
  cases rx
  cases ry
  obtain ⟨q1, q2, dd, hn⟩ := memo_dict I ha hk
  have hp : ∃ c, atKey (ms.map rawM) (mkey k) = some (c, oVal o) := by
    rw [atKey_raw]
    unfold mget at hv
    obtain ⟨m, hm, e⟩ := Option.map_eq_some_iff.mp hv
    rw [hm]
    refine ⟨m.2.1, ?_⟩
    subst e
    rfl
  obtain ⟨c, hp⟩ := hp
  exact subscriptTail_builtinR (x := oVal o) dd.typeIs PySem.F.slot_dict_getitem.lookup
    (wpAny_getItem_heap (knd := nestedKind X.prog X.w) (Q := fun r s' => r = oVal o ∧ EP X pins σ Q r s') (show X.A.units + 1 + 8 < cLine by omega) (key_is I hb) dd hp ⟨rfl, oV o, H, I.tok _, oV_rel o, q⟩) hs
def mput (ms : Memo) (k : MK) (b : Addr) (o : Option Addr) : Memo := if (mget ms k).isSome = true then ms.map (fun x => if x.1 = k then (x.1, x.2.1, o) else x) else ms ++ [(k, b, o)]
theorem mget_put (ms : Memo) (k : MK) (b : Addr) (o : Option Addr) : mget (mput ms k b o) k = some o := by
  unfold mput
  by_cases c : (mget ms k).isSome = true
  · rw [if_pos c]
    unfold mget at c ⊢
    rw [Option.isSome_map] at c
    induction ms with
    | nil => simp at c
    | cons m ms ih =>
      by_cases e : m.1 = k
      · simp [List.find?_cons, e]
      · have : (List.find? (fun m => decide (m.1 = k)) ms).isSome = true := by simpa [List.find?_cons, e] using c
        have := ih this
        simpa [List.find?_cons, e] using this
  · rw [if_neg c]
    unfold mget at c ⊢
    rw [Option.isSome_map] at c
    have hn : List.find? (fun m => decide (m.1 = k)) ms = none := by
      cases q : List.find? (fun m => decide (m.1 = k)) ms with
      | none => rfl
      | some x => rw [q] at c; exact absurd rfl c
    rw [List.find?_append, hn]
    simp
theorem mput_len (ms : Memo) (k : MK) (b : Addr) (o : Option Addr) : (mput ms k b o).length ≤ ms.length + 1 := by
  unfold mput
  split
  · rw [List.length_map]; omega
  · rw [List.length_append]; exact Nat.le_refl _
theorem mput_nd {ms : Memo} {k : MK} {b : Addr} {o : Option Addr} (hn : (ms.map (·.1)).Nodup) : ((mput ms k b o).map (·.1)).Nodup := by
  unfold mput
  by_cases c : (mget ms k).isSome = true
  · rw [if_pos c, List.map_map]
    have e : ((fun x : MK × Addr × Option Addr => x.1) ∘ fun x : MK × Addr × Option Addr => if x.1 = k then (x.1, x.2.1, o) else x) = fun x => x.1 := funext fun x => by
      show (if x.1 = k then (x.1, x.2.1, o) else x).1 = x.1
      split <;> rfl
    rw [e]; exact hn
  · rw [if_neg c, List.map_append]
    refine List.nodup_append.mpr ⟨hn, by simp, fun x hx y hy => ?_⟩
    have ey : y = k := by simpa using hy
    subst ey
    intro e
    subst e
    obtain ⟨m, hm, e⟩ := List.mem_map.mp hx
    unfold mget at c
    rw [Option.isSome_map] at c
    refine c ?_
    rw [List.find?_isSome]
    exact ⟨m, hm, decide_eq_true e⟩
theorem mput_mem {ms : Memo} {k : MK} {b : Addr} {o : Option Addr} {x : MK × Addr × Option Addr} (h : x ∈ mput ms k b o) : x ∈ ms ∨ (x.1 = k ∧ x.2.2 = o ∧ (x.2.1 = b ∨ ∃ y ∈ ms, y.1 = k ∧ y.2.1 = x.2.1)) := by
  unfold mput at h
  by_cases c : (mget ms k).isSome = true
  · rw [if_pos c] at h
    obtain ⟨y, hy, rfl⟩ := List.mem_map.mp h
    by_cases e : y.1 = k
    · rw [if_pos e]
      exact .inr ⟨e, rfl, .inr ⟨y, hy, e, rfl⟩⟩
    · rw [if_neg e]; exact .inl hy
  · rw [if_neg c] at h
    rcases List.mem_append.mp h with h | h
    · exact .inl h
    · rw [List.mem_singleton.mp h]; exact .inr ⟨rfl, rfl, .inl rfl⟩
theorem raw_put (ms : Memo) (k : MK) (b : Addr) (o : Option Addr) : storedH (ms.map rawM) (mkey k) b (oVal o) = (mput ms k b o).map rawM := by
  have e : (atKey (ms.map rawM) (mkey k)).isSome = (mget ms k).isSome := by
    rw [atKey_raw]; unfold mget; simp
  unfold storedH mput
  rw [e]
  by_cases c : (mget ms k).isSome = true
  · rw [if_pos c, if_pos c, List.map_map, List.map_map]
    refine List.map_congr_left fun x _ => ?_
    show putAt (mkey k) (oVal o) (rawM x) = rawM (if x.1 = k then (x.1, x.2.1, o) else x)
    unfold putAt
    by_cases e : x.1 = k
    · have e' : (rawM x).1 = mkey k := by rw [← e]; rfl
      rw [if_pos e, if_pos e']; rfl
    · have e' : ¬ (rawM x).1 = mkey k := fun z => e (mkey_inj z)
      rw [if_neg e, if_neg e']
  · rw [if_neg c, if_neg c, List.map_append]; rfl
def rMemoSet (P : Program) (w : World) : TSet := fun x y v H Q => ∃ (a b : Addr) (k : MK) (ms : Memo) (o : Option Addr), x = .ref a ∧ y = .ref b ∧ v = oV o ∧ H a = some (MemoO P w a ms) ∧ MemoKeys H ms ∧ KeyT H b k ∧ ms.length < 4000 ∧ Q (upd H a (MemoO P w a (mput ms k b o)))
theorem set_memo (hu : X.A.units + 64 < cLine) : PSet X (rMemoSet X.prog X.w) := by
  intro pins s σ H x y v xv yv u Q I rx ry rv h
  obtain ⟨a, b, k, ms, o, rfl, rfl, rfl, ha, hk, hb, hl, q⟩ := h
  cases rx
  cases ry
  obtain rfl := oV_back rv
  obtain ⟨q1, q2, dd, hn⟩ := memo_dict I ha hk
  refine wpAny_setItem_heap (knd := nestedKind X.prog X.w) (hsz := by rw [List.length_map, sizeLine_eq]; omega) (show X.A.units + 1 + 8 < cLine by omega) (key_is I hb) dd fun h' dd' hs => ?_
  rw [raw_put] at dd'
  obtain ⟨ob, es, ep, g1, g2, g3, g4, _, _⟩ := dd'
  have new : Memo0 X.prog X.w h' a (mput ms k b o) := by
    have := mput_len ms k b o
    exact ⟨q1, by omega, ob, es, ep, g1, g2, g3, g4, mput_nd hn⟩
  exact ⟨_, d_write I (by rw [ha]; exact True.intro) hs ⟨ob, g1⟩ (memoO_ok new), q⟩
end
end L2
namespace FW
open PySem L2 FC Evl
theorem hu1 {k : Nat} {A : Around} (r : Room k A) : A.units + 1 < cLine := by have := r.units; omega
/-- a tuple or list's items, each of its kind -/
def Items {α : Type} (R : α → V → Hp → Prop) (ys : List α) (vs : List V) (H : Hp) : Prop := vs.length = ys.length ∧ ∀ (i : Nat) (y : α) (v : V), ys[i]? = some y → vs[i]? = some v → R y v H
theorem Items.at {α : Type} {R : α → V → Hp → Prop} {ys : List α} {vs : List V} {H : Hp} (h : Items R ys vs H) {i : Nat} {v : V} (hv : vs[i]? = some v) : ∃ y, ys[i]? = some y ∧ R y v H := by
  have hlt := (List.getElem?_eq_some_iff.mp hv).1
  have hy := List.getElem?_eq_getElem (show i < ys.length by rw [← h.1]; exact hlt)
  exact ⟨_, hy, h.2 i _ v hy hv⟩
theorem Items.map {α : Type} {R R' : α → V → Hp → Prop} {ys : List α} {vs : List V} {H H' : Hp} (h : Items R ys vs H) (m : ∀ y v, y ∈ ys → R y v H → R' y v H') : Items R' ys vs H' :=
  ⟨h.1, fun i y v hy hv => m y v (List.mem_of_getElem? hy) (h.2 i y v hy hv)⟩
theorem Items.nil {α : Type} {R : α → V → Hp → Prop} {H : Hp} : Items R [] [] H := ⟨rfl, fun i y v h => by simp at h⟩
theorem Items.snoc {α : Type} {R : α → V → Hp → Prop} {ys : List α} {vs : List V} {H : Hp} (h : Items R ys vs H) {y : α} {v : V} (r : R y v H) : Items R (ys ++ [y]) (vs ++ [v]) H := by
  refine ⟨by rw [List.length_append, List.length_append, h.1]; rfl, fun i z u hz hu => ?_⟩
  by_cases c : i < ys.length
  · rw [List.getElem?_append_left c] at hz
    rw [List.getElem?_append_left (by rw [h.1]; exact c)] at hu
    exact h.2 i z u hz hu
  · rw [List.getElem?_append_right (by omega)] at hz
    rw [List.getElem?_append_right (by rw [h.1]; omega), h.1] at hu
    by_cases c2 : i - ys.length = 0
    · rw [c2] at hz hu
      have e1 : y = z := by simpa using hz
      have e2 : v = u := by simpa using hu
      subst e1 e2
      exact r
    · rw [List.getElem?_eq_none (by show 1 ≤ _; omega)] at hz
      cases hz
def PtsT (pts : List (List Nat)) (v : V) (H : Hp) : Prop := ∃ a rs, v = .ref a ∧ H a = some (.tup rs) ∧ Items (fun pt v H => PtT v pt H) pts rs H
def spCloudInit (B C : Addr) : Sp := fun vs H Q _ => ∃ (x dx : Addr) (s ps : V) (d b : Nat) (pts : List (List Nat)), vs = [.ref x, s, ps] ∧ H x = some (.ins B dx []) ∧ SpaceAt C d b s H ∧ PtsT pts ps H ∧ (∀ pt ∈ pts, Pnt d b pt) ∧ (pts.map (wovenN b)).Nodup ∧ pts.length ≤ 4000 ∧
  ∀ H' row, But x H H' → CloudAt B C d b row (.ref x) H' → Q .non H'
def spRestInit (C : Addr) : Sp := fun vs H Q _ => ∃ (x dx : Addr) (p c i : V), vs = [.ref x, p, c, i] ∧ H x = some (.ins C dx []) ∧ ∀ H', But x H H' → H' x = some (.ins C dx (k_Rest.zip [p, c, i])) → Q .non H'
theorem valV_none {κ : Type} [DecidableEq κ] {kvs : List (κ × V)} {k : κ} (h : k ∉ kvs.map (·.1)) : valV kvs k = none := by
  unfold valV
  rw [Option.map_eq_none_iff, List.find?_eq_none]
  intro x hx
  simp only [decide_eq_true_eq]
  exact fun e => h (e ▸ List.mem_map.mpr ⟨x, hx, rfl⟩)
theorem putK_new {κ : Type} [DecidableEq κ] {kvs : List (κ × V)} {k : κ} {v : V} (h : k ∉ kvs.map (·.1)) : putK kvs k v = kvs ++ [(k, v)] := by
  unfold putK
  rw [if_neg]
  intro e
  obtain ⟨x, hx, e⟩ := List.any_eq_true.mp e
  exact h ((of_decide_eq_true e) ▸ List.mem_map.mpr ⟨x, hx, rfl⟩)
theorem row_of {ns : List Nat} {ys : List Int} (hp : ys.Perm (ns.map fun (n : Nat) => (n : Int))) (hs : ys.Pairwise (· ≤ ·)) (hn : ns.Nodup) :
    ∃ row : List Nat, ys.map V.int = (row.map fun (x : Nat) => V.int (x : Int)) ∧ row.Pairwise (· < ·) ∧ row.Perm ns := by
  have e0 : ∀ y ∈ ys, ((y.toNat : Nat) : Int) = y := fun y hy => by
    obtain ⟨n, _, e⟩ := List.mem_map.mp (hp.mem_iff.mp hy)
    omega
  have e1 : (ys.map Int.toNat).Perm ns := by
    have q := hp.map Int.toNat
    rw [List.map_map] at q
    have e : (Int.toNat ∘ fun (n : Nat) => (n : Int)) = id := funext fun n => Int.toNat_natCast n
    rw [e, List.map_id] at q
    exact q
  refine ⟨ys.map Int.toNat, ?_, ?_, e1⟩
  · rw [List.map_map]
    refine List.map_congr_left fun y hy => ?_
    show V.int y = V.int ((y.toNat : Nat) : Int)
    rw [e0 y hy]
  · have nd : (ys.map Int.toNat).Nodup := e1.nodup_iff.mpr hn
    rw [List.pairwise_map]
    have nd' : ys.Pairwise fun a b => a.toNat ≠ b.toNat := List.pairwise_map.mp nd
    refine (hs.and nd').imp_of_mem fun {a b} ha hb h => ?_
    have := e0 a ha
    have := e0 b hb
    omega
section
variable {P : Program} {w : World} {K : PySem.W.Frag} {mg : Str → Option Value} {base : Heap}
theorem ok_Rest_init (T : Txt K mg) : FnOk P w K mg base CX0 1 T.f_Rest_init T.d_Rest_init ["self", "prefix", "count", "inner"] (spRestInit T.C_Rest) := by
  refine T.F_Rest_init.ok sc_Rest_init (fun vs H Q E h => ?_) (fun cdv A outer s H vs Q E hr h => ?_)
  · obtain ⟨_, _, _, _, _, rfl, _⟩ := h; rfl
  obtain ⟨x, dx, p, c, i, rfl, hx, k⟩ := h
  refine ⟨_, (pss_cons (ps_fld (pv 0) (pv 1) rfl)
      (pss_cons (ps_fld (pv 0) (pv 2) rfl)
      (pss_one (ps_fld (pv 0) (pv 3) rfl)))), ?_⟩
  refine ⟨_, rfl, _, rfl, p_Rest_prefix (vs := []) T hx rfl ⟨_, rfl, _, rfl, p_Rest_count (vs := [_]) T upd_same rfl ⟨_, rfl, _, rfl, p_Rest_inner (vs := [_, _]) T upd_same rfl ?_⟩⟩⟩
  refine k _ (fun c o hc n => ?_) upd_same
  rw [upd_ne n, upd_ne n, upd_ne n]
  exact hc
theorem ok_Cloud_init (T : Txt K mg) : FnOk P w K mg base CX0 5 T.f_Cloud_init T.d_Cloud_init ["self", "space", "points"] (spCloudInit T.C_Cloud T.C_Space) := by
  refine T.F_Cloud_init.ok sc_Cloud_init (fun vs H Q E h => ?_) (fun cdv A outer s H vs Q E hr h => ?_)
  · obtain ⟨_, _, _, _, _, _, _, rfl, _⟩ := h; rfl
  obtain ⟨x, dx, sv, ps, d, b, pts, rfl, hx, hs, hps, hp, hnd, hlen, k⟩ := h
  have nd := sc_Cloud_init.nd
  obtain ⟨hsp, sa, sdx, rfl, hsa⟩ := id hs
  obtain ⟨ta, rs, rfl, hta, its⟩ := id hps
  refine ⟨_, (pss_cons (ps_set (i := 3) nd rfl (Or.inl rfl) pe_dnewK)
      (pss_cons (ps_for PassesOwn.never (by rfl) (pi_tup (pv 2)) (pg_name (i := 4) nd rfl (Or.inl rfl))
      (pss_cons (ps_set (i := 5) nd rfl (Or.inl rfl) (pe_meth (pv 1) T.cl_Space T.M_Space_woven (ok_Space_woven T) (hr.mono (by decide)) T.b_Space_woven .nil pass0 (pa_cons (pv 4) pa_nil)))
      (pss_cons (ps_if (pt_cmp (pc_din (hu1 hr) (pv 5) (pv 3))) (pss_one ps_never) pss_nil)
      (pss_one (ps_dput (hu1 hr) (pv 3) (pv 5) pe_bl rfl)))))
      (pss_cons (ps_fld (pv 0) (pv 1) rfl)
      (pss_one (ps_fld (pv 0) (pe_callTy call_tuple_of (by rfl) T.z_tuple (by decide +kernel) (pa_cons (pe_callB (cr_sortDI rfl) (by rfl) T.z_sorted (by decide +kernel) (pa_cons (pv 3) pa_nil)) pa_nil)) rfl))))), ?_⟩
  refine fun da hda => ⟨_, rfl, ta, rfl, ⟨_, SqT.of ((Ex.new hda) _ _ hta)⟩, for_tup (xs := rs) (fun i σ H' => ∃ kvs u v, σ = [some (.ref x), some (.ref sa), some (.ref ta), some (.ref da), u, v] ∧ Ex H H' ∧ H' da = some (.dK kvs) ∧ kvs.map (·.1) = (pts.take i).map fun p => (Sum.inl (wovenN b p : Int) : L2.Key))
    ⟨[], none, none, rfl, Ex.new hda, upd_same, rfl⟩ (fun i σ H' _ h => ?_) ?_ ?_⟩
  · obtain ⟨_, _, _, _, e, _⟩ := h
    exact SqT.of (e _ _ hta)
  · rintro i y σ H' hy ⟨kvs, u, v, rfl, e, hd, hk⟩
    obtain ⟨pt, hpt, hy2⟩ := its.at hy
    have hm := List.mem_of_getElem? hpt
    have hi : i < pts.length := (List.getElem?_eq_some_iff.mp hpt).1
    have new : (Sum.inl (wovenN b pt : Int) : L2.Key) ∉ kvs.map (·.1) := by
      rw [hk]
      intro hh
      obtain ⟨q, hq, eq⟩ := List.mem_map.mp hh
      injection eq with eq
      obtain ⟨j, hj, e2⟩ := List.mem_iff_getElem.mp hq
      rw [List.length_take] at hj
      rw [List.getElem_take] at e2
      have nn := List.pairwise_iff_getElem.mp hnd j i (by rw [List.length_map]; omega) (by rw [List.length_map]; exact hi) (by omega)
      rw [List.getElem_map, List.getElem_map, e2] at nn
      have e3 : pts[i] = pt := by
        rw [List.getElem?_eq_getElem hi] at hpt
        exact Option.some.inj hpt
      rw [e3] at nn
      exact nn (by omega)
    refine ⟨_, rfl, sa, sdx, _, rfl, e _ _ hsa, fn_Space_woven _, _, rfl, _, _, d, b, pt, rfl, hs.mono e, hy2.mono e, hp pt hm, fun H2 e2 => ?_⟩
    refine ⟨_, rfl, _, rfl, da, _, rfl, .k (k := Sum.inl (wovenN b pt : Int)) (e2 _ _ hd), ?_⟩
    rw [valV_none new]
    refine ⟨false, rfl, iteF ?_⟩
    refine ⟨_, rfl, _, rfl, da, _, rfl, .k (k := Sum.inl (wovenN b pt : Int)) (e2 _ _ hd) ?_, kvs ++ [(Sum.inl (wovenN b pt : Int), .bl true)], some y, some (.int (wovenN b pt : Int)), rfl, ?_, ?_, ?_⟩
    · have := congrArg List.length hk
      rw [List.length_map, List.length_map, List.length_take] at this
      have : sizeLine = 16777216 := sizeLine_eq
      omega
    · intro c o hc
      rw [upd_ne (ne_of_none hc hda)]
      exact e2 _ _ (e _ _ hc)
    · rw [putK_new new]; exact upd_same
    · rw [List.map_append, hk, take_snoc hpt, List.map_append]; rfl
  · rintro σ H' ⟨kvs, u, v, rfl, e, hd, hk⟩
    have hl : rs.length = pts.length := its.1
    rw [hl, List.take_length] at hk
    refine ⟨_, rfl, _, rfl, p_Cloud_space (vs := []) T (e _ _ hx) rfl ?_⟩
    have hdx : da ≠ x := fun z => by rw [z] at hda; rw [hda] at hx; cases hx
    refine ⟨_, rfl, da, kvs, pts.map fun p => (wovenN b p : Int), rfl, .inl ((upd_ne hdx).trans hd), by rw [hk, List.map_map]; rfl, fun ys l hpm hsrt hl0 => ?_⟩
    obtain ⟨row, er, hrow, _⟩ := row_of (ns := pts.map (wovenN b)) (by rw [List.map_map]; exact hpm) hsrt hnd
    rw [er]
    refine ⟨l, _, rfl, .inl ⟨SqL.of upd_same, fun q hq => ?_⟩⟩
    have hxl : x ≠ l := fun z => by rw [← z, upd_same] at hl0; cases hl0
    have hxq : x ≠ q := fun z => by rw [← z, upd_ne hxl, upd_same] at hq; cases hq
    refine ⟨_, rfl, p_Cloud_row (vs := [_]) T ((upd_ne hxq).trans ((upd_ne hxl).trans upd_same)) rfl ?_⟩
    have old : ∀ c o, H c = some o → c ≠ x → c ≠ q ∧ c ≠ l := fun c o hc n => by
      have h1 := e _ _ hc
      have nl : c ≠ l := fun z => by rw [← z, upd_ne n, h1] at hl0; cases hl0
      exact ⟨fun z => (by rw [← z, upd_ne nl, upd_ne n, h1] at hq; cases hq), nl⟩
    refine kb (fun H' => k H' row) (fun c o hc n => ?_) fun bt => ⟨hrow, x, dx, _, _, rfl, upd_same, hs.but bt hx, q, rfl, ?_⟩
    · rw [upd_ne n, upd_ne (old c o hc n).1, upd_ne (old c o hc n).2, upd_ne n]
      exact e _ _ hc
    · rw [upd_ne (Ne.symm hxq), upd_same]
end
end FW
namespace FW
open PySem L2 FC Evl
abbrev PTi : Pre → V → Hp → Prop := fun p v H => PT v p H
def dP (p : Pre) : PyData := .tuple [.int (p.1 : Int), .int (p.2 : Int)]
theorem PT.dp {K : PySem.W.Frag} {v : V} {p : Pre} {H : Hp} (h : PT v p H) : Dp K H v (dP p) := by
  obtain ⟨a, rfl, ha⟩ := h
  exact .tup (SqT.of ha) (.cons (.int _) (.cons (.int _) .nil))
theorem dP_shaped (p : Pre) : SeqAt.shaped (dP p) = true := rfl
theorem dP_eqv (p q : Pre) : PyData.eqv (dP p) (dP q) = decide (p = q) := by
  have h := PySem.W.Datum.eqv (α := Int × Int) ((p.1 : Int), (p.2 : Int)) ((q.1 : Int), (q.2 : Int))
  have h : PyData.eqv (dP p) (dP q) = decide (((p.1 : Int), (p.2 : Int)) = ((q.1 : Int), (q.2 : Int))) := h
  rw [h]
  apply decide_eq_decide.mpr
  constructor
  · intro e
    injection e with e1 e2
    exact Prod.ext (by omega) (by omega)
  · intro e; rw [e]
theorem ys_eq {α : Type} {f : α → V} {ys : List V} {l : List α} (hl : ys.length = l.length) (h : ∀ (i : Nat) v, ys[i]? = some v → ∀ o, l[i]? = some o → v = f o) : ys = l.map f := by
  apply List.ext_getElem?
  intro i
  rw [List.getElem?_map]
  cases e : ys[i]? with
  | none =>
    have := List.getElem?_eq_none_iff.mp e
    rw [List.getElem?_eq_none (by omega)]
    rfl
  | some v =>
    have hi := (List.getElem?_eq_some_iff.mp e).1
    rw [List.getElem?_eq_getElem (show i < l.length by omega)]
    exact congrArg some (h i v e _ (List.getElem?_eq_getElem _))
/-- [f(o) for o in l], l a list that is tracked -/
theorem lc_fn {K : PySem.W.Frag} {α : Type} {R0 : α → V → Hp → Prop} {l : List α} {xs : List V} {a : Addr} {te : TE} {vs : List Nat} {σ : St} {H1 : Hp} {Dl : Addr} {Qd : Hp → Prop} {j : Nat} (f : α → V) (hq : H1 a = some (.lst xs)) (it : Items R0 l xs H1)
    (hz : l.length ≤ 40000) (hD : H1 Dl = none) (hw : ∀ x, wipe ((wipe σ vs).set j (some x)) vs = wipe σ vs)
    (he : ∀ o x H, o ∈ l → R0 o x H1 → Ex H1 H → ∀ Q : VK, (∀ H2, Ex H H2 → Q (f o) H2) → te ((wipe σ vs).set j (some x)) H Q)
    (hd : ∀ H2, Ex H1 H2 → H2 Dl = some (.lst (l.map f)) → Qd H2) :
    ∃ W : Nat → Nat → Hp → Prop, (∃ m, W 0 m (upd H1 Dl (.lst []))) ∧ ∀ i m H, W i m H →
      ((Itl K a).stop i H ∧ Qd H) ∨ ((Itl K a).go i H ∧ ∃ Nx : Hp → Prop, (∀ H', Nx H' → ∃ m', m' < m ∧ W (i + 1) m' H') ∧ ∀ x H', (Itl K a).yld i H x H' → gName j x (wipe σ vs) H' fun σ2 H2 => wipe σ2 vs = wipe σ vs ∧ tYes σ2 H2 fun b H3 =>
        if b = true then te σ2 H3 fun y H4 => ∃ acc, H4 Dl = some (.lst acc) ∧ acc.length < sizeLine ∧ Nx (upd H4 Dl (.lst (acc ++ [y]))) else Nx H3) := by
  refine lc_map walk_list (fun H1 e1 => SqL.of (e1 _ _ hq)) (fun i v _ => ∀ o, l[i]? = some o → v = f o) (fun _ _ _ _ _ h => h) (by rw [it.1]; exact hz) hD hw ?_ ?_
  · intro i x H hi e1 Q k
    obtain ⟨o, ho, ro⟩ := it.at hi
    refine he o x H (List.mem_of_getElem? ho) ro e1 Q fun H2 e2 => k _ H2 e2 fun o' ho' => ?_
    rw [ho] at ho'
    rw [Option.some.inj ho']
  · intro ys H2 e2 hy hl hr
    rw [ys_eq (hl.trans it.1) hr] at hy
    exact hd H2 e2 hy
/-- a tracked list of prefixes -/
def ListP (order : List Pre) (v : V) (H : Hp) : Prop := ∃ a ys, v = .ref a ∧ H a = some (.lst ys) ∧ Items PTi order ys H
theorem PTi.mono {p : Pre} {v : V} {H H' : Hp} (h : PTi p v H) (e : Ex H H') : PTi p v H' := PT.mono h e
theorem ListP.mono {order : List Pre} {v : V} {H H' : Hp} (h : ListP order v H) (e : Ex H H') : ListP order v H' := let ⟨a, ys, e1, e2, e3⟩ := h; ⟨a, ys, e1, e a _ e2, e3.map fun _ _ _ r => PT.mono r e⟩
def spNext : Sp := fun vs H Q _ => ∃ (s x l : V) (p : Pre) (order : List Pre), vs = [s, x, l] ∧ PT x p H ∧ ListP order l H ∧ order.length ≤ 4000 ∧ (∀ q ∈ order, q.1 ≤ 20) ∧ RetP (fun v H2 => ∃ a ys, v = .ref a ∧ H a = none ∧ H2 a = some (.lst ys) ∧ Items PTi (nextIn p order) ys H2) H Q
theorem any_map {α : Type} (f : α → Bool) (l : List α) : ((l.map f).any id) = l.any f := by rw [List.any_map]; rfl
section
variable {P : Program} {w : World} {K : PySem.W.Frag} {mg : Str → Option Value} {base : Heap}
theorem nextStep_len (p : Pre) (l : List Pre) : (l.foldl (nextStep p) []).length ≤ l.length := by
  have key : ∀ (l : List Pre) (acc : List Pre), (l.foldl (nextStep p) acc).length ≤ acc.length + l.length := by
    intro l
    induction l with
    | nil => intro acc; exact Nat.le_refl _
    | cons x l ih =>
      intro acc
      have := ih (nextStep p acc x)
      have h2 : (nextStep p acc x).length ≤ acc.length + 1 := by
        unfold nextStep
        split
        · rw [List.length_append]; exact Nat.le_refl _
        · omega
      rw [List.foldl_cons, List.length_cons]
      omega
  have := key l []
  simpa using this
theorem ok_Knowledge_next_inside (T : Txt K mg) : FnOk P w K mg base CX0 3 T.f_Knowledge_next_inside T.d_Knowledge_next_inside ["self", "prefix", "order"] spNext := by
  refine T.F_Knowledge_next_inside.ok sc_Knowledge_next_inside (fun vs H Q E h => ?_) (fun cdv A outer s H vs Q E hr h => ?_)
  · obtain ⟨_, _, _, _, _, rfl, _⟩ := h; rfl
  obtain ⟨sv, x, lv, p, order, rfl, hx, hl, hlen, hq, k⟩ := h
  have nd := sc_Knowledge_next_inside.nd
  obtain ⟨xa, rfl, hxa⟩ := id hx
  obtain ⟨la, os, rfl, hla, its⟩ := id hl
  refine ⟨_, (pss_cons (ps_set (i := 3) nd rfl (Or.inl rfl) (pe_lst pa_nil))
      (pss_cons (ps_for PassesOwn.never (by rfl) (pi_list (pv 2)) (pg_name (i := 4) nd rfl (Or.inr rfl))
      (pss_one (ps_if (PW.pt (pw_and (pt_cmpR (op_neD hr.units) (pv 4) (pv 1) (nomark _)) (pw_and (pt_val (pe_call (ok_is_inside T) (hr.mono (by decide)) (by rfl) T.mg_is_inside T.F_is_inside.kp T.b_is_inside .nil pass0 (pa_cons (pv 4) (pa_cons (pv 1) pa_nil)))) (pw_and1 (pt_not (pt_val (pe_callB (cr_any rfl) (by rfl) T.z_any (by decide +kernel) (pa_cons (pe_lc (own := [("other", 5)]) (g := gName 5) (tt := tYes) (by rfl) nd (pi_list (pv 3)) (blkOk_by (own := [("other", 5)]) (N := N_Knowledge_next_inside) (sc := defScope s_Knowledge_next_inside) (by decide +kernel)) (fun _ _ _ _ _ => (pg_name (i := 5) nd rfl (Or.inl rfl))) (fun _ _ _ _ _ => pts_nil) (fun _ _ _ _ _ => (pe_call (ok_is_inside T) (hr.mono (by decide)) (by rfl) T.mg_is_inside T.F_is_inside.kp T.b_is_inside .nil pass0 (pa_cons (pv 4) (pa_cons (pv 5) pa_nil))))) pa_nil)))))))) (pss_one (ps_expr (pe_bm PySem.F.plainAttrs_list PySem.F.slot_list_append PySem.F.type_list_append mt_append (pv 3) (pa_cons (pv 4) pa_nil)))) pss_nil)))
      (pss_one (ps_ret (pv 3))))), ?_⟩
  refine ⟨Nat.zero_le _, fun fa hfa => ⟨_, rfl, la, rfl, ⟨_, SqL.of (Ex.new hfa _ _ hla)⟩, for_list (xs := os) (fun i σ H' => ∃ u fv, σ = [some sv, some (.ref xa), some (.ref la), some (.ref fa), u, none] ∧ Ex H H' ∧ H' fa = some (.lst fv) ∧ Items PTi ((order.take i).foldl (nextStep p) []) fv H')
    ⟨none, [], rfl, Ex.new hfa, upd_same, Items.nil⟩ (fun i σ H' _ h => ?_) ?_ ?_⟩⟩
  · obtain ⟨_, _, _, e, _⟩ := h
    exact SqL.of (e _ _ hla)
  · rintro i y σ H' hy ⟨u, fv, rfl, e, hf, hi⟩
    obtain ⟨one, hone, hyo⟩ := its.at hy
    have h20 := hq one (List.mem_of_getElem? hone)
    obtain ⟨ya, rfl, hya⟩ := id hyo
    have step : (order.take (i + 1)).foldl (nextStep p) [] = nextStep p ((order.take i).foldl (nextStep p) []) one := by
      rw [take_snoc hone, List.foldl_append]; rfl
    have hle := nextStep_len p (order.take i)
    rw [List.length_take] at hle
    generalize (order.take i).foldl (nextStep p) [] = fd at hi step hle
    have no : ∀ H2, Ex H' H2 → ¬ (decide (one ≠ p) && (decide (ins one p) && !fd.any fun o => decide (ins one o))) = true → ∃ u fv, [some sv, some (V.ref xa), some (.ref la), some (.ref fa), some (.ref ya), none] = [some sv, some (V.ref xa), some (.ref la), some (.ref fa), u, none] ∧ Ex H H2 ∧ H2 fa = some (.lst fv) ∧ Items PTi ((order.take (i + 1)).foldl (nextStep p) []) fv H2 := fun H2 e2 c => by
      refine ⟨some (.ref ya), fv, rfl, e.trans e2, e2 _ _ hf, ?_⟩
      rw [step]
      unfold nextStep
      rw [if_neg c]
      exact hi.map fun _ _ _ r => PT.mono r e2
    refine ⟨_, rfl, _, rfl, dP one, dP p, (hyo.mono e).dp, (hx.mono e).dp, dP_shaped _, dP_shaped _, ?_⟩
    rw [dP_eqv]
    refine ⟨_, rfl, ?_⟩
    refine ite2 (fun c1 => ?_) (fun c1 => ?_)
    · have c1' : decide (one ≠ p) = true := by
        rw [← c1]
        by_cases z : one = p <;> simp [z]
      refine ⟨_, rfl, _, rfl, _, _, one, p, rfl, hyo.mono e, hx.mono e, h20, fun H2 e2 => ⟨_, rfl, ?_⟩⟩
      refine ite2 (fun c2 => ?_) (fun c2 => ?_)
      · refine ⟨_, rfl, fa, rfl, ⟨_, SqL.of (e2 _ _ hf)⟩, fun Dl hD => lc_fn (fun o => V.bl (decide (ins one o))) (e2 _ _ hf) (hi.map fun _ _ _ r => PT.mono r e2) (by omega) hD (fun x => rfl) ?_ ?_⟩
        · intro o z H3 ho rz e3 Q1 k1
          exact ⟨_, rfl, _, rfl, _, _, one, o, rfl, ((hyo.mono e).mono e2).mono e3, PT.mono rz e3, h20, k1⟩
        · intro H3 e3 hd
          have hd' : H3 Dl = some (.lst ((fd.map fun o => decide (ins one o)).map V.bl)) := by rw [hd, List.map_map]; rfl
          refine ⟨_, _, rfl, SqL.of hd', ?_⟩
          rw [any_map]
          refine ⟨_, rfl, ?_⟩
          refine ite2 (fun c3 => ?_) (fun c3 => ?_)
          · have cc : (decide (one ≠ p) && (decide (ins one p) && !fd.any fun o => decide (ins one o))) = true := by
              rw [c1', c2]; simpa using c3
            have hfd := e3 _ _ (e2 _ _ hf)
            refine ⟨_, rfl, .inl ⟨rfl, _, SqL.of hfd⟩, _, rfl, fa, fv, _, rfl, rfl, hfd, ?_, ?_⟩
            · rw [hi.1]; exact sz_lt (by omega)
            · refine ⟨some (.ref ya), fv ++ [.ref ya], rfl, fun c o hc => ?_, upd_same, ?_⟩
              · rw [upd_ne (ne_of_none hc hfa)]
                exact e3 _ _ (e2 _ _ (e _ _ hc))
              · rw [step]
                unfold nextStep
                rw [if_pos cc]
                have ml := ExL.list (ws := fv ++ [.ref ya]) hfd
                exact Items.snoc (hi.map fun _ _ _ r => PT.ml ((PT.mono r e2).mono e3) ml) (PT.ml (((hyo.mono e).mono e2).mono e3) ml)
          · refine no H3 (e2.trans e3) fun cc => c3 ?_
            rw [c1', c2] at cc
            simpa using cc
      · refine no H2 e2 fun cc => c2 ?_
        rw [c1'] at cc
        rw [Bool.true_and, Bool.and_eq_true] at cc
        exact cc.1
    · refine no H' (Ex.refl _) fun cc => c1 ?_
      rw [Bool.and_eq_true] at cc
      have := cc.1
      by_cases z : one = p
      · simp [z] at this
      · simp [z]
  · rintro σ H' ⟨u, fv, rfl, e, hf, hi⟩
    refine ⟨_, rfl, k _ _ e ⟨fa, fv, rfl, hfa, hf, ?_⟩⟩
    rw [its.1, List.take_length] at hi
    exact hi
end
end FW
namespace FW
open PySem L2 FC Evl
abbrev entF (cnt : Pre → Nat) (p : Pre) : List L2.Key × V := (kOf p, V.int (cnt p : Int))
structure VF (D : Nat) (fs : List Pre) : Prop where
  nd : fs.Nodup
  ok : ∀ p ∈ fs, p.1 ≤ D ∧ ins p (0, 0)
abbrev memB (fs : List Pre) : Pre → Bool := fun p => decide (p ∈ fs)
def KnowAt (Kc C : Addr) (d b : Nat) (cnt : Pre → Nat) (fs : List Pre) (v : V) (H : Hp) : Prop := ∃ a dx s f, v = .ref a ∧ H a = some (.ins Kc dx (k_Knowledge.zip [s, .ref f])) ∧ SpaceAt C d b s H ∧ H f = some (.dT (fs.map (entF cnt)))
theorem KnowAt.mono {Kc C : Addr} {d b : Nat} {cnt : Pre → Nat} {fs : List Pre} {v : V} {H H' : Hp} (h : KnowAt Kc C d b cnt fs v H) (e : Ex H H') : KnowAt Kc C d b cnt fs v H' :=
  let ⟨a, dx, s, f, e1, e2, e3, e4⟩ := h; ⟨a, dx, s, f, e1, e a _ e2, e3.mono e, e f _ e4⟩
def cntV (cnt : Pre → Nat) (r : Rst) : V := if r.has = true then .int (cnt r.p : Int) else .non
/-- a rest, its list apart from the one at fa -/
def RestX (Rc : Addr) (cnt : Pre → Nat) (fa : Addr) (r : Rst) (v : V) (H : Hp) : Prop := ∃ a dx x l ys, v = .ref a ∧ H a = some (.ins Rc dx (k_Rest.zip [x, cntV cnt r, .ref l])) ∧ PT x r.p H ∧ H l = some (.lst ys) ∧ Items PTi r.inner ys H ∧ l ≠ fa
theorem RestX.mono {Rc : Addr} {cnt : Pre → Nat} {fa : Addr} {r : Rst} {v : V} {H H' : Hp} (h : RestX Rc cnt fa r v H) (e : Ex H H') : RestX Rc cnt fa r v H' :=
  let ⟨a, dx, x, l, ys, e1, e2, e3, e4, e5, e6⟩ := h; ⟨a, dx, x, l, ys, e1, e a _ e2, e3.mono e, e l _ e4, e5.map fun _ _ _ r => PT.mono r e, e6⟩
theorem RestX.upd {Rc : Addr} {cnt : Pre → Nat} {fa : Addr} {r : Rst} {v : V} {H : Hp} {xs ys : List V} (h : RestX Rc cnt fa r v H) (hf : H fa = some (.lst xs)) : RestX Rc cnt fa r v (L2.upd H fa (.lst ys)) := by
  obtain ⟨a, dx, x, l, zs, e1, e2, e3, e4, e5, e6⟩ := h
  have ml := ExL.list (ws := ys) hf
  exact ⟨a, dx, x, l, zs, e1, ml _ _ e2 (fun _ z => nomatch z), e3.ml ml, (upd_ne e6).trans e4, e5.map fun _ _ _ r => PT.ml r ml, e6⟩
def RestAt (Rc : Addr) (cnt : Pre → Nat) (r : Rst) (v : V) (H : Hp) : Prop := ∃ fa, RestX Rc cnt fa r v H
theorem RestAt.mono {Rc : Addr} {cnt : Pre → Nat} {r : Rst} {v : V} {H H' : Hp} (h : RestAt Rc cnt r v H) (e : Ex H H') : RestAt Rc cnt r v H' := let ⟨fa, h⟩ := h; ⟨fa, h.mono e⟩
def RestsL (Rc : Addr) (cnt : Pre → Nat) (rs : List Rst) (v : V) (H : Hp) : Prop := ∃ a ys, v = .ref a ∧ H a = some (.lst ys) ∧ Items (RestAt Rc cnt) rs ys H
def spRests (Kc C Rc : Addr) : Sp := fun vs H Q _ => ∃ (v : V) (d b : Nat) (cnt : Pre → Nat) (fs : List Pre), vs = [v] ∧ KnowAt Kc C d b cnt fs v H ∧ d * b ≤ 20 ∧ VF (d * b) fs ∧ fs.length ≤ 4000 ∧ ∀ order, Facts (d * b) (memB fs) order → order.length = fs.length → RetP (RestsL Rc cnt (rests order)) H Q
theorem valV_ent {cnt : Pre → Nat} {fs : List Pre} {p : Pre} : valV (fs.map (entF cnt)) (kOf p) = if p ∈ fs then some (.int (cnt p : Int)) else none := by
  induction fs with
  | nil => rfl
  | cons x fs ih =>
    by_cases c : x = p
    · subst c
      rw [if_pos List.mem_cons_self]
      exact valV_pos rfl
    · have c' : ¬ (entF cnt x).1 = kOf p := fun z => c (kOf_inj z)
      rw [List.map_cons, valV_neg c', ih]
      have : p ∈ x :: fs ↔ p ∈ fs := by
        rw [List.mem_cons]
        exact ⟨fun z => z.resolve_left fun z => c z.symm, .inr⟩
      by_cases m : p ∈ fs
      · rw [if_pos m, if_pos (this.mpr m)]
      · rw [if_neg m, if_neg (fun z => m (this.mp z))]
def gP (H : Hp) (v : V) : Pre := ((kH H v).1.toNat, (kH H v).2.toNat)
theorem gP_eq {H : Hp} {v : V} {p : Pre} (h : PT v p H) : kH H v = ((p.1 : Int), (p.2 : Int)) ∧ gP H v = p := by
  obtain ⟨a, rfl, ha⟩ := h
  have e := kH_eq ha
  refine ⟨e, ?_⟩
  unfold gP
  rw [e]
  rfl
theorem keys_items {H : Hp} {cnt : Pre → Nat} : ∀ {fs : List Pre} {bs : List Addr}, IsKeys H (fs.map (entF cnt)) bs → (∀ v ∈ bs.map V.ref, ∃ p ∈ fs, PT v p H) ∧ (bs.map V.ref).map (gP H) = fs
  | [], _, h => by cases h; exact ⟨fun v hv => (nomatch hv), rfl⟩
  | p :: fs, b :: bs, h => by
    cases h with
    | cons h t =>
      have hp : PT (.ref b) p H := ⟨b, rfl, h⟩
      obtain ⟨i1, i2⟩ := keys_items (fs := fs) t
      refine ⟨fun v hv => ?_, ?_⟩
      · rcases List.mem_cons.mp hv with e | hv
        · subst e; exact ⟨p, List.mem_cons_self, hp⟩
        · obtain ⟨q, hq, r⟩ := i1 v hv
          exact ⟨q, List.mem_cons_of_mem _ hq, r⟩
      · rw [List.map_cons, List.map_cons, i2, (gP_eq hp).2]
  | _ :: _, [], h => by cases h
theorem sorted_pres {H : Hp} {fs : List Pre} {zs ys : List V} (hz : ∀ v ∈ zs, ∃ p ∈ fs, PT v p H) (hm : zs.map (gP H) = fs) (h1 : SrtO.Srtd (ltP (kH H)) ys) (h2 : SrtO.Stb (ltP (kH H)) ys zs) :
    (ys.map (gP H)).Perm fs ∧ Items PTi (ys.map (gP H)) ys H ∧ (ys.map (gP H)).Pairwise fun a b => a.1 ≤ b.1 := by
  have q := h2.perm.map (gP H)
  rw [hm] at q
  have pt : ∀ v ∈ ys, PT v (gP H v) H := fun v hv => by
    obtain ⟨p, _, hp⟩ := hz v (h2.perm.mem_iff.mp hv)
    rw [(gP_eq hp).2]
    exact hp
  refine ⟨q, ⟨by rw [List.length_map], fun i y v hy hv => ?_⟩, ?_⟩
  · rw [List.getElem?_map, hv] at hy
    have e : gP H v = y := by simpa using hy
    rw [← e]
    exact pt v (List.mem_of_getElem? hv)
  · rw [List.pairwise_map]
    refine List.Pairwise.imp_of_mem (fun {a b} ha hb h => ?_) h1
    have h : SrtO.lexB (kH H b) (kH H a) = false := h
    have h := SrtO.lexB_no.mp h
    rw [(gP_eq (pt a ha)).1, (gP_eq (pt b hb)).1] at h
    have h : ¬ (((gP H b).1 : Int) < ((gP H a).1 : Int) ∨ _) := h
    omega
theorem facts_of {D : Nat} {fs order : List Pre} (vf : VF D fs) (hp : order.Perm fs) (hs : order.Pairwise fun a b => a.1 ≤ b.1) : Facts D (memB fs) order :=
  ⟨hs, hp.nodup_iff.mpr vf.nd, fun x => by rw [decide_eq_true_eq]; exact hp.mem_iff.symm, fun x hx => vf.ok x (hp.mem_iff.mp hx)⟩
/-- both ways of an if go on alike -/
theorem ite_join {c : Prop} [Decidable c] {A : Prop} {G : Hp → Prop} {H3 : Hp} (I : Hp → Prop) (h1 : c → (∀ H, I H → G H) → A) (h2 : ¬ c → I H3) (tail : ∀ H, I H → G H) : if c then A else G H3 := by
  by_cases h : c
  · rw [if_pos h]; exact h1 h tail
  · rw [if_neg h]; exact tail _ (h2 h)
theorem made_ex {H1 H2 : Hp} {x dx : Addr} {u v : HO} (h1 : H1 x = none) (h2 : H1 dx = none) (bt : But x (upd (upd H1 dx u) x v) H2) : Ex H1 H2 := fun c o hc => by
  have n1 := ne_of_none hc h1
  have n2 := ne_of_none hc h2
  refine bt c o ?_ n1
  rw [upd_ne n1, upd_ne n2]
  exact hc
theorem rest_add {Rc : Addr} {cnt : Pre → Nat} {H1 H' H3 H4 : Hp} {fo xn dx l : Addr} {rs : List Rst} {fv zs : List V} {r : Rst} {x : V} (hfo : H1 fo = none) (e : Ex H1 H') (hf : H' fo = some (.lst fv)) (hi : Items (RestX Rc cnt fo) rs fv H') (e3 : Ex H' H3)
    (hx : PT x r.p H3) (hl : H3 l = some (.lst zs)) (hl0 : H' l = none) (hz : Items PTi r.inner zs H3) (nx : H3 xn = none) (ndx : H3 dx = none) (bt : But xn (upd (upd H3 dx (.own xn)) xn (.ins Rc dx [])) H4) (hx4 : H4 xn = some (.ins Rc dx (k_Rest.zip [x, cntV cnt r, .ref l]))) :
    H4 fo = some (.lst fv) ∧ Ex H1 (upd H4 fo (.lst (fv ++ [.ref xn]))) ∧ Items (RestX Rc cnt fo) (rs ++ [r]) (fv ++ [.ref xn]) (upd H4 fo (.lst (fv ++ [.ref xn]))) := by
  have e34 := made_ex nx ndx bt
  have e4 : Ex H' H4 := e3.trans e34
  have hf4 := e4 _ _ hf
  refine ⟨hf4, fun c o hc => ?_, ?_⟩
  · rw [upd_ne (ne_of_none hc hfo)]
    exact e4 _ _ (e _ _ hc)
  · refine Items.snoc (hi.map fun _ _ _ q => (q.mono e4).upd hf4) ?_
    have hx' : RestX Rc cnt fo r (.ref xn) H4 := ⟨xn, dx, x, l, zs, rfl, hx4, hx.mono e34, e34 _ _ hl, hz.map fun _ _ _ q => PT.mono q e34, Ne.symm (ne_of_none hf hl0)⟩
    exact hx'.upd hf4
section
variable {P : Program} {w : World} {K : PySem.W.Frag} {mg : Str → Option Value} {base : Heap}
theorem ok_Knowledge_rests (T : Txt K mg) : FnOk P w K mg base CX0 4 T.f_Knowledge_rests T.d_Knowledge_rests ["self"] (spRests T.C_Knowledge T.C_Space T.C_Rest) := by
  refine T.F_Knowledge_rests.ok sc_Knowledge_rests (fun vs H Q E h => ?_) (fun cdv A outer s H vs Q E hr h => ?_)
  · obtain ⟨_, _, _, _, _, rfl, _⟩ := h; rfl
  obtain ⟨v, d, b, cnt, fs, rfl, hk, hD, vf, hlen, k⟩ := h
  have nd := sc_Knowledge_rests.nd
  obtain ⟨a, dx, sv, f, rfl, ha, hs, hf⟩ := id hk
  refine ⟨_, (pss_cons (ps_par (i := 1) (j := 2) (by rfl) nd rfl rfl (by decide) rfl rfl (pa_cons (pe_callB (cr_sortDT rfl) (by rfl) T.z_sorted (by decide +kernel) (pa_cons (pe_fld (pv 0) (by rfl)) pa_nil)) (pa_cons (pe_lst pa_nil) pa_nil)) (by rfl))
      (pss_cons (ps_if (pt_cmp (pc_dnotin (hu1 hr) (pe_tup (pa_cons pe_int (pa_cons pe_int pa_nil))) (pe_fld (pv 0) (by rfl)))) (pss_one (ps_expr (pe_bm PySem.F.plainAttrs_list PySem.F.slot_list_append PySem.F.type_list_append mt_append (pv 2) (pa_cons (pe_make T.mk_Rest (ok_Rest_init T) (hr.mono (by decide)) (by rfl) T.mg_Rest T.b_Rest_init .nil pass0 (pa_cons (pe_tup (pa_cons pe_int (pa_cons pe_int pa_nil))) (pa_cons pe_non (pa_cons (pe_meth (pv 0) T.cl_Knowledge T.M_Knowledge_next_inside (ok_Knowledge_next_inside T) (hr.mono (by decide)) T.b_Knowledge_next_inside .nil pass0 (pa_cons (pe_tup (pa_cons pe_int (pa_cons pe_int pa_nil))) (pa_cons (pv 1) pa_nil))) pa_nil)))) pa_nil)))) pss_nil)
      (pss_cons (ps_for PassesOwn.never (by rfl) (pi_list (pv 1)) (pg_name (i := 3) nd rfl (Or.inl rfl))
      (pss_one (ps_expr (pe_bm PySem.F.plainAttrs_list PySem.F.slot_list_append PySem.F.type_list_append mt_append (pv 2) (pa_cons (pe_make T.mk_Rest (ok_Rest_init T) (hr.mono (by decide)) (by rfl) T.mg_Rest T.b_Rest_init .nil pass0 (pa_cons (pv 3) (pa_cons (pe_dget (hu1 hr) (pe_fld (pv 0) (by rfl)) (pv 3) (fun _ _ => rfl)) (pa_cons (pe_meth (pv 0) T.cl_Knowledge T.M_Knowledge_next_inside (ok_Knowledge_next_inside T) (hr.mono (by decide)) T.b_Knowledge_next_inside .nil pass0 (pa_cons (pv 3) (pa_cons (pv 1) pa_nil))) pa_nil)))) pa_nil)))))
      (pss_one (ps_ret (pv 2)))))), ?_⟩
  refine r_Knowledge_facts T rfl ha rfl ⟨f, _, rfl, .inl hf, fun kv hkv => ?_, fun ys o bs hks h1 h2 ho => ?_⟩
  · obtain ⟨p, _, rfl⟩ := List.mem_map.mp hkv
    exact ⟨p.1, p.2, rfl⟩
  obtain ⟨z1, z2⟩ := keys_items hks
  obtain ⟨pm, its, srt⟩ := sorted_pres z1 z2 h1 h2
  have fa := facts_of vf pm srt
  have k := k _ fa pm.length_eq
  have hol : (ys.map (gP H)).length ≤ 4000 := by rw [pm.length_eq]; exact hlen
  generalize ys.map (gP H) = order at its fa k hol
  have e1 : Ex H (upd H o (.lst ys)) := Ex.new ho
  have its1 : Items PTi order ys (upd H o (.lst ys)) := its.map fun _ _ _ r => PT.mono r e1
  have ho1 : upd H o (.lst ys) o = some (.lst ys) := upd_same
  generalize upd H o (.lst ys) = H1 at e1 its1 ho1
  refine ⟨Nat.zero_le _, fun fo hfo => ?_⟩
  have e2 : Ex H1 (upd H1 fo (.lst [])) := Ex.new hfo
  have hf2 : upd H1 fo (.lst []) fo = some (.lst []) := upd_same
  generalize hH2 : upd H1 fo (.lst []) = H2 at e2 hf2
  have ha2 := e2 _ _ (e1 _ _ ha)
  refine ⟨_, _, rfl, two_line, fun t ht => r_Knowledge_facts T rfl ((Ex.new ht) _ _ ha2) rfl ⟨f, _, rfl, .t (k := kOf (0, 0)) ((Ex.new ht) _ _ (e2 _ _ (e1 _ _ hf))) upd_same, ?_⟩⟩
  rw [valV_ent]
  have e3 : Ex H2 (upd H2 t (.tup [.int 0, .int 0])) := Ex.new ht
  have hf3 := e3 _ _ hf2
  generalize upd H2 t (.tup [.int 0, .int 0]) = H3 at e3 hf3
  have e03 : Ex H1 H3 := e2.trans e3
  have q20 : ∀ q ∈ order, q.1 ≤ 20 := fun q hq => Nat.le_trans (fa.val q hq).1 hD
  refine ⟨_, rfl, ite_join (fun H4 => ∃ fv, Ex H1 H4 ∧ H4 fo = some (.lst fv) ∧ Items (RestX T.C_Rest cnt fo) (if (0, 0) ∈ order then [] else [⟨(0, 0), false, nextIn (0, 0) order⟩]) fv H4) (fun c kk => ?_) (fun c => ?_) ?_⟩
  · have c : (0, 0) ∉ order := by
      intro m
      rw [if_pos (of_decide_eq_true ((fa.mem _).mpr m))] at c
      exact Bool.false_ne_true c
    rw [if_neg c] at kk
    refine ⟨_, rfl, .inl ⟨rfl, _, SqL.of hf3⟩, two_line, fun t1 ht1 => ?_⟩
    have e4 : Ex H3 (upd H3 t1 (.tup [.int 0, .int 0])) := Ex.new ht1
    have p1 : PT (.ref t1) (0, 0) (upd H3 t1 (.tup [.int 0, .int 0])) := ⟨t1, rfl, upd_same⟩
    generalize upd H3 t1 (.tup [.int 0, .int 0]) = H4 at e4 p1
    refine ⟨_, rfl, a, dx, _, rfl, e4 _ _ (e3 _ _ ha2), fn_Knowledge_next_inside _, two_line, fun t2 ht2 => ?_⟩
    have e5 : Ex H4 (upd H4 t2 (.tup [.int 0, .int 0])) := Ex.new ht2
    have p2 : PT (.ref t2) (0, 0) (upd H4 t2 (.tup [.int 0, .int 0])) := ⟨t2, rfl, upd_same⟩
    generalize upd H4 t2 (.tup [.int 0, .int 0]) = H5 at e5 p2
    have e15 := (e03.trans e4).trans e5
    refine ⟨_, rfl, _, _, _, (0, 0), order, rfl, p2, ⟨o, ys, rfl, e15 _ _ ho1, its1.map fun _ _ _ r => PT.mono r e15⟩, hol, q20, ?_⟩
    rintro _ H6 e6 ⟨l, zs, rfl, hl0, hl, hz⟩
    intro xn dn nx ndx ne
    refine ⟨xn, dn, _, _, _, rfl, upd_same, fun H7 bt hx7 => ⟨rfl, ?_⟩⟩
    have e36 := (e4.trans e5).trans e6
    obtain ⟨g1, g2, g3⟩ := rest_add (cnt := cnt) (r := ⟨(0, 0), false, nextIn (0, 0) order⟩) hfo e03 hf3 Items.nil e36 (p1.mono (e5.trans e6)) hl (by
      cases q : H3 l with
      | none => rfl
      | some u => rw [e5 _ _ (e4 _ _ q)] at hl0; cases hl0) hz nx ndx bt hx7
    exact ⟨fo, [], _, rfl, rfl, g1, sz_lt (Nat.zero_lt_succ _), kk _ ⟨_, g2, upd_same, g3⟩⟩
  · have c : (0, 0) ∈ order := by
      refine Classical.byContradiction fun m => c ?_
      rw [if_neg (fun z => m ((fa.mem _).mp (decide_eq_true z)))]
      rfl
    rw [if_pos c]
    exact ⟨[], e03, hf3, Items.nil⟩
  · rintro H4 ⟨fv, e4, hf4, hi4⟩
    refine ⟨_, rfl, o, rfl, ⟨_, SqL.of (e4 _ _ ho1)⟩, for_list (xs := ys) (fun i σ H' => ∃ u fv, σ = [some (.ref a), some (.ref o), some (.ref fo), u] ∧ Ex H1 H' ∧ H' fo = some (.lst fv) ∧
      Items (RestX T.C_Rest cnt fo) ((if (0, 0) ∈ order then [] else [⟨(0, 0), false, nextIn (0, 0) order⟩]) ++ (order.take i).map fun p => ⟨p, true, nextIn p order⟩) fv H') ⟨none, fv, rfl, e4, hf4, by rw [List.take_zero, List.map_nil, List.append_nil]; exact hi4⟩ (fun i σ H' _ h => ?_) ?_ ?_⟩
    · obtain ⟨_, _, _, e, _⟩ := h
      exact SqL.of (e _ _ ho1)
    · rintro i y σ H' hy ⟨u, fv, rfl, e, hf', hi⟩
      obtain ⟨one, hone, hyo⟩ := its1.at hy
      have hyo := PT.mono hyo e
      obtain ⟨ya, rfl, hya⟩ := id hyo
      have hm : one ∈ fs := of_decide_eq_true ((fa.mem _).mpr (List.mem_of_getElem? hone))
      have hg : DGet H' f (.ref ya) (some (.int (cnt one : Int))) := by
        have g := DGet.t (k := kOf one) (e _ _ (e1 _ _ hf)) hya
        rw [valV_ent, if_pos hm] at g
        exact g
      refine ⟨_, rfl, .inl ⟨rfl, _, SqL.of hf'⟩, _, rfl, r_Knowledge_facts T rfl (e _ _ (e1 _ _ ha)) rfl ⟨_, rfl, f, _, rfl, hg, ?_⟩⟩
      refine ⟨_, rfl, a, dx, _, rfl, e _ _ (e1 _ _ ha), fn_Knowledge_next_inside _, _, rfl, _, rfl, _, _, _, one, order, rfl, hyo, ⟨o, ys, rfl, e _ _ ho1, its1.map fun _ _ _ r => PT.mono r e⟩, hol, q20, ?_⟩
      rintro _ H6 e6 ⟨l, zs, rfl, hl0, hl, hz⟩
      intro xn dn nx ndx ne
      refine ⟨xn, dn, _, _, _, rfl, upd_same, fun H7 bt hx7 => ⟨rfl, ?_⟩⟩
      have hl7 : fv.length < sizeLine := by
        refine sz_lt ?_
        rw [hi.1, List.length_append, List.length_map, List.length_take]
        split <;> simp <;> omega
      obtain ⟨g1, g2, g3⟩ := rest_add (cnt := cnt) (r := ⟨one, true, nextIn one order⟩) hfo e hf' hi e6 (hyo.mono e6) hl hl0 hz nx ndx bt hx7
      refine ⟨fo, fv, _, rfl, rfl, g1, hl7, some (.ref ya), _, rfl, g2, upd_same, ?_⟩
      rw [take_snoc hone, List.map_append, ← List.append_assoc]
      exact g3
    · rintro σ H' ⟨u, fv, rfl, e, hf', hi⟩
      rw [its1.1, List.take_length] at hi
      exact ⟨_, rfl, k _ _ (e1.trans e) ⟨fo, fv, rfl, hf', hi.map fun _ _ _ r => ⟨fo, r⟩⟩⟩
end
end FW
namespace FW
open PySem L2 FC Evl
def spLeft (Kc C Rc : Addr) : Sp := fun vs H Q _ => ∃ (v rv : V) (d b : Nat) (cnt : Pre → Nat) (fs : List Pre) (r : Rst), vs = [v, rv] ∧ KnowAt Kc C d b cnt fs v H ∧ RestAt Rc cnt r rv H ∧ r.has = true ∧ (∀ o ∈ r.inner, o ∈ fs) ∧ r.inner.length ≤ 4000 ∧ RetV (.int (outI cnt r)) H Q
def spKRoom (Kc C Rc : Addr) : Sp := fun vs H Q _ => ∃ (v rv : V) (d b : Nat) (cnt : Pre → Nat) (fs : List Pre) (r : Rst), vs = [v, rv] ∧ KnowAt Kc C d b cnt fs v H ∧ RestAt Rc cnt r rv H ∧ r.p.1 ≤ d * b ∧ (∀ o ∈ r.inner, o.1 ≤ d * b) ∧ r.inner.length ≤ 4000 ∧ RetV (.int (outI (sz (d * b)) r)) H Q
def spRoomIn (Kc C Rc B : Addr) : Sp := fun vs H Q _ => ∃ (v rv bv : V) (d b : Nat) (cnt : Pre → Nat) (lo hi : List Nat) (r : Rst), vs = [v, rv, bv] ∧ RestAt Rc cnt r rv H ∧ BoxAt B C d b lo hi bv H ∧ (r.p.1 ≤ d * b ∧ ins r.p (0, 0)) ∧ (∀ o ∈ r.inner, o.1 ≤ d * b ∧ ins o (0, 0)) ∧ r.inner.length ≤ 4000 ∧ RetV (.int (outI (roomN d b lo hi) r)) H Q
def spFit (Kc C Rc : Addr) : Sp := fun vs H Q _ => ∃ (v rv : V) (d b : Nat) (cnt : Pre → Nat) (fs : List Pre) (r : Rst), vs = [v, rv] ∧ KnowAt Kc C d b cnt fs v H ∧ RestAt Rc cnt r rv H ∧ (∀ o ∈ r.inner, o ∈ fs) ∧ r.p.1 ≤ d * b ∧ (∀ o ∈ r.inner, o.1 ≤ d * b) ∧ r.inner.length ≤ 4000 ∧ (r.has = true → 0 ≤ outI cnt r ∧ outI cnt r ≤ outI (sz (d * b)) r) ∧ RetV (.bl true) H Q
section
variable {P : Program} {w : World} {K : PySem.W.Frag} {mg : Str → Option Value} {base : Heap}
theorem ok_Knowledge_points_left (T : Txt K mg) : FnOk P w K mg base CX0 1 T.f_Knowledge_points_left T.d_Knowledge_points_left ["self", "rest"] (spLeft T.C_Knowledge T.C_Space T.C_Rest) := by
  refine T.F_Knowledge_points_left.ok sc_Knowledge_points_left (fun vs H Q E h => ?_) (fun cdv A outer s H vs Q E hr h => ?_)
  · obtain ⟨_, _, _, _, _, _, _, rfl, _⟩ := h; rfl
  obtain ⟨v, rv, d, b, cnt, fs, r, rfl, ⟨a, dx, sv, f, rfl, ha, hs, hf⟩, ⟨fa, ra, rdx, x, l, zs, rfl, hra, hx, hl, hz, _⟩, hh, hin, hlen, k⟩ := h
  have nd := sc_Knowledge_points_left.nd
  refine ⟨_, (pss_one (ps_ret (pe_op op_sub (pe_fld (pv 1) (by rfl)) (pe_callB (cr_sum rfl) (by rfl) T.z_sum (by decide +kernel) (pa_cons (pe_lc (own := [("one", 2)]) (g := gName 2) (tt := tYes) (by rfl) nd (pi_list (pe_fld (pv 1) (by rfl))) (blkOk_by (own := [("one", 2)]) (N := N_Knowledge_points_left) (sc := defScope s_Knowledge_points_left) (by decide +kernel)) (fun _ _ _ _ _ => (pg_name (i := 2) nd rfl (Or.inl rfl))) (fun _ _ _ _ _ => pts_nil) (fun _ _ _ _ _ => (pe_dget (hu1 hr) (pe_fldK (K := K) rfl (pv 0) (by rfl)) (pv 2) (fun _ _ => rfl)))) pa_nil))))), ?_⟩
  refine r_Rest_count T rfl hra rfl (r_Rest_inner T rfl hra rfl ⟨l, rfl, ⟨_, SqL.of hl⟩, fun Dl hD => lc_fn (fun o => V.int (cnt o : Int)) hl hz (by omega) hD (fun x => rfl) ?_ ?_⟩)
  · intro o y H1 ho hy e1 Q1 k1
    obtain ⟨ya, rfl, hya⟩ := PT.mono hy e1
    have g := DGet.t (k := kOf o) (e1 _ _ hf) hya
    rw [valV_ent, if_pos (hin o ho)] at g
    exact r_Knowledge_facts T rfl (e1 _ _ ha) rfl ⟨_, rfl, f, _, rfl, g, k1 _ (Ex.refl _)⟩
  · intro H1 e1 hd
    have hd' : H1 Dl = some (.lst ((r.inner.map fun o => ((cnt o : Nat) : Int)).map V.int)) := by rw [hd, List.map_map]; rfl
    refine ⟨_, _, rfl, SqL.of hd', ?_⟩
    have ec : cntV cnt r = .int (cnt r.p : Int) := if_pos hh
    rw [ec]
    exact ⟨_, _, rfl, rfl, k _ e1⟩
theorem ok_Knowledge_room (T : Txt K mg) : FnOk P w K mg base CX0 3 T.f_Knowledge_room T.d_Knowledge_room ["self", "rest"] (spKRoom T.C_Knowledge T.C_Space T.C_Rest) := by
  refine T.F_Knowledge_room.ok sc_Knowledge_room (fun vs H Q E h => ?_) (fun cdv A outer s H vs Q E hr h => ?_)
  · obtain ⟨_, _, _, _, _, _, _, rfl, _⟩ := h; rfl
  obtain ⟨v, rv, d, b, cnt, fs, r, rfl, ⟨a, dx, sv, f, rfl, ha, hs, hf⟩, ⟨fa, ra, rdx, x, l, zs, rfl, hra, hx, hl, hz, _⟩, hp, hin, hlen, k⟩ := h
  have nd := sc_Knowledge_room.nd
  obtain ⟨hsp, sa, sdx, rfl, hsa⟩ := id hs
  refine ⟨_, (pss_one (ps_ret (pe_op op_sub (pe_meth (pe_fld (pv 0) (by rfl)) T.cl_Space T.M_Space_size (ok_Space_size T) (hr.mono (by decide)) T.b_Space_size .nil pass0 (pa_cons (pe_fld (pv 1) (by rfl)) pa_nil)) (pe_callB (cr_sum rfl) (by rfl) T.z_sum (by decide +kernel) (pa_cons (pe_lc (own := [("one", 2)]) (g := gName 2) (tt := tYes) (by rfl) nd (pi_list (pe_fld (pv 1) (by rfl))) (blkOk_by (own := [("one", 2)]) (N := N_Knowledge_room) (sc := defScope s_Knowledge_room) (by decide +kernel)) (fun _ _ _ _ _ => (pg_name (i := 2) nd rfl (Or.inl rfl))) (fun _ _ _ _ _ => pts_nil) (fun _ _ _ _ _ => (pe_meth (pe_fldK (K := K) rfl (pv 0) (by rfl)) T.cl_Space T.M_Space_size (ok_Space_size T) (hr.mono (by decide)) T.b_Space_size .nil pass0 (pa_cons (pv 2) pa_nil)))) pa_nil))))), ?_⟩
  refine r_Knowledge_space T rfl ha rfl ⟨sa, sdx, _, rfl, hsa, fn_Space_size _, r_Rest_prefix T rfl hra rfl ⟨_, _, d, b, r.p, rfl, hs, hx, hp, fun H0 e0 => ?_⟩⟩
  have hl0 := e0 _ _ hl
  refine r_Rest_inner T rfl (e0 _ _ hra) rfl ⟨l, rfl, ⟨_, SqL.of hl0⟩, fun Dl hD => lc_fn (fun o => V.int (sz (d * b) o : Int)) hl0 (hz.map fun _ _ _ q => PT.mono q e0) (by omega) hD (fun x => rfl) ?_ ?_⟩
  · intro o y H1 ho hy e1 Q1 k1
    have e01 := e0.trans e1
    exact r_Knowledge_space T rfl (e01 _ _ ha) rfl ⟨sa, sdx, _, rfl, e01 _ _ hsa, fn_Space_size _, _, rfl, _, _, d, b, o, rfl, hs.mono e01, PT.mono hy e1, hin o ho, k1⟩
  · intro H1 e1 hd
    have hd' : H1 Dl = some (.lst ((r.inner.map fun o => ((sz (d * b) o : Nat) : Int)).map V.int)) := by rw [hd, List.map_map]; rfl
    exact ⟨_, _, rfl, SqL.of hd', _, _, rfl, rfl, k _ (e0.trans e1)⟩
theorem ok_Knowledge_room_in (T : Txt K mg) : FnOk P w K mg base CX0 5 T.f_Knowledge_room_in T.d_Knowledge_room_in ["self", "rest", "region"] (spRoomIn T.C_Knowledge T.C_Space T.C_Rest T.C_Box) := by
  refine T.F_Knowledge_room_in.ok sc_Knowledge_room_in (fun vs H Q E h => ?_) (fun cdv A outer s H vs Q E hr h => ?_)
  · obtain ⟨_, _, _, _, _, _, _, _, _, rfl, _⟩ := h; rfl
  obtain ⟨v, rv, bv, d, b, cnt, lo, hi, r, rfl, ⟨fa, ra, rdx, x, l, zs, rfl, hra, hx, hl, hz, _⟩, hb, hp, hin, hlen, k⟩ := h
  have nd := sc_Knowledge_room_in.nd
  obtain ⟨_, _, ba, bdx, _, _, _, rfl, hba, _⟩ := id hb
  refine ⟨_, (pss_one (ps_ret (pe_op op_sub (pe_meth (pv 2) T.cl_Box T.M_Box_room (ok_Box_room T) (hr.mono (by decide)) T.b_Box_room .nil pass0 (pa_cons (pe_fld (pv 1) (by rfl)) pa_nil)) (pe_callB (cr_sum rfl) (by rfl) T.z_sum (by decide +kernel) (pa_cons (pe_lc (own := [("one", 3)]) (g := gName 3) (tt := tYes) (by rfl) nd (pi_list (pe_fld (pv 1) (by rfl))) (blkOk_by (own := [("one", 3)]) (N := N_Knowledge_room_in) (sc := defScope s_Knowledge_room_in) (by decide +kernel)) (fun _ _ _ _ _ => (pg_name (i := 3) nd rfl (Or.inl rfl))) (fun _ _ _ _ _ => pts_nil) (fun _ _ _ _ _ => (pe_meth (pv 2) T.cl_Box T.M_Box_room (ok_Box_room T) (hr.mono (by decide)) T.b_Box_room .nil pass0 (pa_cons (pv 3) pa_nil)))) pa_nil))))), ?_⟩
  refine ⟨_, rfl, ba, bdx, _, rfl, hba, fn_Box_room _, r_Rest_prefix T rfl hra rfl ⟨_, _, d, b, lo, hi, r.p, rfl, hb, hx, hp.1, hp.2, fun H0 e0 => ?_⟩⟩
  have hl0 := e0 _ _ hl
  refine r_Rest_inner T rfl (e0 _ _ hra) rfl ⟨l, rfl, ⟨_, SqL.of hl0⟩, fun Dl hD => lc_fn (fun o => V.int (roomN d b lo hi o : Int)) hl0 (hz.map fun _ _ _ q => PT.mono q e0) (by omega) hD (fun x => rfl) ?_ ?_⟩
  · intro o y H1 ho hy e1 Q1 k1
    have e01 := e0.trans e1
    exact ⟨_, rfl, ba, bdx, _, rfl, e01 _ _ hba, fn_Box_room _, _, rfl, _, _, d, b, lo, hi, o, rfl, hb.mono e01, PT.mono hy e1, (hin o ho).1, (hin o ho).2, k1⟩
  · intro H1 e1 hd
    have hd' : H1 Dl = some (.lst ((r.inner.map fun o => ((roomN d b lo hi o : Nat) : Int)).map V.int)) := by rw [hd, List.map_map]; rfl
    exact ⟨_, _, rfl, SqL.of hd', _, _, rfl, rfl, k _ (e0.trans e1)⟩
theorem ok_Knowledge_is_fit (T : Txt K mg) : FnOk P w K mg base CX0 4 T.f_Knowledge_is_fit T.d_Knowledge_is_fit ["self", "rest"] (spFit T.C_Knowledge T.C_Space T.C_Rest) := by
  refine T.F_Knowledge_is_fit.ok sc_Knowledge_is_fit (fun vs H Q E h => ?_) (fun cdv A outer s H vs Q E hr h => ?_)
  · obtain ⟨_, _, _, _, _, _, _, rfl, _⟩ := h; rfl
  obtain ⟨v, rv, d, b, cnt, fs, r, rfl, hk, hrs, hfs, hp, hin, hlen, hfit, k⟩ := h
  have nd := sc_Knowledge_is_fit.nd
  obtain ⟨a, dx, sv, f, rfl, ha, hs, hf⟩ := id hk
  obtain ⟨fa, ra, rdx, x, l, zs, rfl, hra, hx, hl, hz, _⟩ := id hrs
  refine ⟨_, (pss_cons (ps_if (pt_cmpR op_isN (pe_fld (pv 1) (by rfl)) pe_non (nomark _)) (pss_one (ps_ret pe_bl)) pss_nil)
      (pss_one (ps_ret (pe_chain op_le op_le pe_int (pe_meth (pv 0) T.cl_Knowledge T.M_Knowledge_points_left (ok_Knowledge_points_left T) (hr.mono (by decide)) T.b_Knowledge_points_left .nil pass0 (pa_cons (pv 1) pa_nil)) (pe_meth (pv 0) T.cl_Knowledge T.M_Knowledge_room (ok_Knowledge_room T) (hr.mono (by decide)) T.b_Knowledge_room .nil pass0 (pa_cons (pv 1) pa_nil)))))), ?_⟩
  refine r_Rest_count T rfl hra rfl ?_
  cases hh : r.has with
  | false =>
    have ec : cntV cnt r = .non := if_neg (by rw [hh]; exact Bool.false_ne_true)
    rw [ec]
    exact ⟨rfl, true, congrArg V.bl (decide_eq_true rfl), iteT (k _ (Ex.refl _))⟩
  | true =>
    have ec : cntV cnt r = .int (cnt r.p : Int) := if_pos hh
    rw [ec]
    obtain ⟨f1, f2⟩ := hfit hh
    refine ⟨rfl, false, congrArg V.bl (decide_eq_false fun z => nomatch z), iteF ?_⟩
    refine ⟨_, rfl, a, dx, _, rfl, ha, fn_Knowledge_points_left _, _, rfl, _, _, d, b, cnt, fs, r, rfl, hk, hrs, hh, hfs, hlen, fun H1 e1 => ?_⟩
    refine ⟨_, _, rfl, rfl, _, rfl, ?_⟩
    rw [if_pos (decide_eq_true f1)]
    refine ⟨_, rfl, a, dx, _, rfl, e1 _ _ ha, fn_Knowledge_room _, _, rfl, _, _, d, b, cnt, fs, r, rfl, hk.mono e1, hrs.mono e1, hp, hin, hlen, fun H2 e2 => ?_⟩
    refine ⟨_, _, rfl, rfl, ?_⟩
    show Q (V.bl (decide (outI cnt r ≤ outI (sz (d * b)) r))) H2
    rw [decide_eq_true f2]
    exact k _ (e1.trans e2)
end
end FW
namespace FW
open PySem L2 FC Evl
theorem nextIn_sub (p : Pre) (order : List Pre) : (∀ o ∈ nextIn p order, o ∈ order) ∧ (nextIn p order).length ≤ order.length := by
  refine ⟨?_, nextStep_len p order⟩
  have key : ∀ (l acc : List Pre), (∀ o ∈ acc, o ∈ order) → (∀ o ∈ l, o ∈ order) → ∀ o ∈ l.foldl (nextStep p) acc, o ∈ order := by
    intro l
    induction l with
    | nil => intro acc ha _; exact ha
    | cons x l ih =>
      intro acc ha hl
      rw [List.foldl_cons]
      refine ih _ (fun o ho => ?_) fun o ho => hl o (List.mem_cons_of_mem _ ho)
      unfold nextStep at ho
      split at ho
      · rcases List.mem_append.mp ho with h | h
        · exact ha o h
        · rw [List.mem_singleton.mp h]; exact hl x List.mem_cons_self
      · exact ha o ho
  exact key order [] (fun o ho => nomatch ho) fun o ho => ho
theorem rests_ok {D : Nat} {F : Pre → Bool} {order : List Pre} (fa : Facts D F order) {r : Rst} (hr : r ∈ rests order) : (r.p.1 ≤ D ∧ ins r.p (0, 0)) ∧ (∀ o ∈ r.inner, o ∈ order) ∧ r.inner.length ≤ order.length ∧ (r.has = true → r.p ∈ order ∧ r.inner = nextIn r.p order) := by
  unfold rests at hr
  rcases List.mem_append.mp hr with h | h
  · split at h
    · cases h
    · rw [List.mem_singleton.mp h]
      exact ⟨⟨Nat.zero_le _, ins_refl _⟩, (nextIn_sub _ _).1, (nextIn_sub _ _).2, fun z => nomatch z⟩
  · obtain ⟨p, hp, rfl⟩ := List.mem_map.mp h
    exact ⟨fa.val p hp, (nextIn_sub _ _).1, (nextIn_sub _ _).2, fun _ => ⟨hp, rfl⟩⟩
theorem outI_congr {μ ν : Pre → Nat} {r : Rst} (hp : μ r.p = ν r.p) (hi : ∀ o ∈ r.inner, μ o = ν o) : outI μ r = outI ν r := by
  unfold outI sumI
  rw [hp, List.map_congr_left (g := fun o => ((ν o : Nat) : Int)) fun o ho => by rw [hi o ho]]
theorem bounds_congr {D : Nat} {F : Pre → Bool} {order : List Pre} {cnt ρ σ : Pre → Nat} (fa : Facts D F order) (h : ∀ p, p.1 ≤ D → ins p (0, 0) → ρ p = σ p) : bounds D cnt ρ (rests order) = bounds D cnt σ (rests order) := by
  unfold bounds
  have key : ∀ (l : List Rst) (a : Int × Int), (∀ r ∈ l, r ∈ rests order) → l.foldl (fun a r => (a.1 + (part D cnt ρ r).1, a.2 + (part D cnt ρ r).2)) a = l.foldl (fun a r => (a.1 + (part D cnt σ r).1, a.2 + (part D cnt σ r).2)) a := by
    intro l
    induction l with
    | nil => intro a _; rfl
    | cons r l ih =>
      intro a hl
      obtain ⟨h1, h2, _, _⟩ := rests_ok fa (hl r List.mem_cons_self)
      have e : outI ρ r = outI σ r := outI_congr (h _ h1.1 h1.2) fun o ho => h o (fa.val o (h2 o ho)).1 (fa.val o (h2 o ho)).2
      have ep : part D cnt ρ r = part D cnt σ r := by unfold part; rw [e]
      rw [List.foldl_cons, List.foldl_cons, ep]
      exact ih _ fun r hr => hl r (List.mem_cons_of_mem _ hr)
  exact key _ _ fun r hr => hr
def PairI (p : Int × Int) : V → Hp → Prop := fun v H => ∃ t, v = .ref t ∧ H t = some (.tup [.int p.1, .int p.2])
def spBounds (Kc C B : Addr) : Sp := fun vs H Q _ => ∃ (v bv : V) (d b : Nat) (cnt : Pre → Nat) (fs : List Pre) (lo hi : List Nat), vs = [v, bv] ∧ KnowAt Kc C d b cnt fs v H ∧ BoxAt B C d b lo hi bv H ∧ VF (d * b) fs ∧ fs.length ≤ 4000 ∧
  ∀ order, Facts (d * b) (memB fs) order → order.length = fs.length → RetP (PairI (bounds (d * b) cnt (roomN d b lo hi) (rests order))) H Q
def knB (D : Nat) (cnt : Pre → Nat) (order : List Pre) (q : Pre) : Bool := decide ((bounds D cnt (mu D q) (rests order)).1 = (bounds D cnt (mu D q) (rests order)).2)
def spKnown (Kc C : Addr) : Sp := fun vs H Q _ => ∃ (v x : V) (d b : Nat) (cnt : Pre → Nat) (fs : List Pre) (q : Pre), vs = [v, x] ∧ KnowAt Kc C d b cnt fs v H ∧ PT x q H ∧ q.1 ≤ d * b ∧ ins q (0, 0) ∧ VF (d * b) fs ∧ fs.length ≤ 4000 ∧
  ∀ order, Facts (d * b) (memB fs) order → order.length = fs.length → RetP (fun v _ => if knB (d * b) cnt order q = true then ∃ i, v = .int i else v = .non) H Q
section
variable {P : Program} {w : World} {K : PySem.W.Frag} {mg : Str → Option Value} {base : Heap}
theorem ok_Knowledge_bounds (T : Txt K mg) : FnOk P w K mg base CX0 6 T.f_Knowledge_bounds T.d_Knowledge_bounds ["self", "region"] (spBounds T.C_Knowledge T.C_Space T.C_Box) := by
  refine T.F_Knowledge_bounds.ok sc_Knowledge_bounds (fun vs H Q E h => ?_) (fun cdv A outer s H vs Q E hr h => ?_)
  · obtain ⟨_, _, _, _, _, _, _, _, rfl, _⟩ := h; rfl
  obtain ⟨v, bv, d, b, cnt, fs, lo, hi, rfl, hk, hb, vf, hlen, k⟩ := h
  have nd := sc_Knowledge_bounds.nd
  obtain ⟨a, dx, sv, f, rfl, ha, hs, hf⟩ := id hk
  have hD : d * b ≤ 20 := by have := (sp_le hs.1).2.2.2.2; omega
  refine ⟨_, (pss_cons (ps_asg (pe_tup (pa_cons pe_int (pa_cons pe_int pa_nil))) (pg_tup (by rfl) (pgs_cons (pg_name (i := 2) nd rfl (Or.inl rfl)) (pgs_cons (pg_name (i := 3) nd rfl (Or.inl rfl)) pgs_nil))))
      (pss_cons (ps_for PassesOwn.never (by rfl) (pi_list (pe_meth0 (pv 0) T.cl_Knowledge T.M_Knowledge_rests (ok_Knowledge_rests T) (hr.mono (by decide)) T.b_Knowledge_rests .nil pass0)) (pg_name (i := 4) nd rfl (Or.inl rfl))
      (pss_cons (ps_set (i := 5) nd rfl (Or.inl rfl) (pe_meth (pv 0) T.cl_Knowledge T.M_Knowledge_room_in (ok_Knowledge_room_in T) (hr.mono (by decide)) T.b_Knowledge_room_in .nil pass0 (pa_cons (pv 4) (pa_cons (pv 1) pa_nil))))
      (pss_one (ps_if (pt_cmpR op_isN (pe_fld (pv 4) (by rfl)) pe_non (nomark _)) (pss_one (ps_set (i := 3) nd rfl (Or.inl rfl) (pe_op op_add (pv 3) (pv 5)))) (pss_cons (ps_set (i := 6) nd rfl (Or.inl rfl) (pe_meth (pv 0) T.cl_Knowledge T.M_Knowledge_points_left (ok_Knowledge_points_left T) (hr.mono (by decide)) T.b_Knowledge_points_left .nil pass0 (pa_cons (pv 4) pa_nil)))
      (pss_cons (ps_set (i := 2) nd rfl (Or.inl rfl) (pe_op op_add (pv 2) (pe_callB (call_max2 rfl) (by rfl) T.z_max (by decide +kernel) (pa_cons pe_int (pa_cons (pe_op op_sub (pv 6) (pe_op op_sub (pe_meth (pv 0) T.cl_Knowledge T.M_Knowledge_room (ok_Knowledge_room T) (hr.mono (by decide)) T.b_Knowledge_room .nil pass0 (pa_cons (pv 4) pa_nil)) (pv 5))) pa_nil)))))
      (pss_one (ps_set (i := 3) nd rfl (Or.inl rfl) (pe_op op_add (pv 3) (pe_callB (call_min2 rfl) (by rfl) T.z_min (by decide +kernel) (pa_cons (pv 6) (pa_cons (pv 5) pa_nil))))))))))))
      (pss_one (ps_ret (pe_tup (pa_cons (pv 2) (pa_cons (pv 3) pa_nil))))))), ?_⟩
  refine ⟨two_line, fun t0 ht0 => ⟨t0, _, rfl, SqT.of upd_same, rfl, ⟨_, _, rfl, ⟨_, _, rfl, rfl, ?_⟩⟩⟩⟩
  have e0 : Ex H (upd H t0 (.tup [.int 0, .int 0])) := Ex.new ht0
  have hk0 := hk
  have hk := hk.mono e0
  have hb := hb.mono e0
  have ha := e0 _ _ ha
  have k : ∀ order, Facts (d * b) (memB fs) order → order.length = fs.length → RetP (PairI (bounds (d * b) cnt (roomN d b lo hi) (rests order))) _ Q := fun o h1 h2 => ret_ty (k o h1 h2) e0
  generalize upd H t0 (.tup [.int 0, .int 0]) = H0 at hk hb ha k
  refine ⟨_, rfl, a, dx, _, rfl, ha, fn_Knowledge_rests _, _, d, b, cnt, fs, rfl, hk, hD, vf, hlen, fun order fa ho => ?_⟩
  have k := k order fa ho
  rintro _ H1 e1 ⟨l, rs, rfl, hl, its⟩
  refine ⟨l, rfl, ⟨_, SqL.of hl⟩, ?_⟩
  refine for_list (xs := rs) (fun i σ H' => ∃ u1 u2 u3 o, σ = [some (.ref a), some bv, some (.int o.1), some (.int o.2), u1, u2, u3] ∧ o = bounds (d * b) cnt (roomN d b lo hi) ((rests order).take i) ∧ Ex H1 H') ⟨none, none, none, (0, 0), rfl, rfl, Ex.refl _⟩ (fun i σ H' _ h => ?_) ?_ ?_
  · obtain ⟨_, _, _, _, _, _, e⟩ := h
    exact SqL.of (e _ _ hl)
  · rintro i y σ H' hy ⟨u1, u2, u3, o, rfl, ho2, e⟩
    obtain ⟨r, hrr, hry⟩ := its.at hy
    have hry := hry.mono e
    have e1' := e1.trans e
    obtain ⟨v1, v2, v3, v4⟩ := rests_ok fa (List.mem_of_getElem? hrr)
    have sub : ∀ o ∈ r.inner, o ∈ fs := fun o ho => of_decide_eq_true ((fa.mem o).mpr (v2 o ho))
    have val : ∀ o ∈ r.inner, o.1 ≤ d * b ∧ ins o (0, 0) := fun o ho => fa.val o (v2 o ho)
    have hl4 : r.inner.length ≤ 4000 := by omega
    obtain ⟨fa', ra, rdx, x, l', zs, rfl, hra, _⟩ := id hry
    have hbs : bounds (d * b) cnt (roomN d b lo hi) ((rests order).take (i + 1)) = (o.1 + (part (d * b) cnt (roomN d b lo hi) r).1, o.2 + (part (d * b) cnt (roomN d b lo hi) r).2) := by
      rw [take_snoc hrr, ho2]
      unfold bounds
      rw [List.foldl_append]
      rfl
    refine ⟨_, rfl, a, dx, _, rfl, e1' _ _ ha, fn_Knowledge_room_in _, _, rfl, _, rfl, _, _, _, d, b, cnt, lo, hi, r, rfl, hry, hb.mono e1', v1, val, hl4, fun H2 e2 => ?_⟩
    refine r_Rest_count T rfl (e2 _ _ hra) rfl ?_
    cases hh : r.has with
    | false =>
      have ec : cntV cnt r = .non := if_neg (by rw [hh]; exact Bool.false_ne_true)
      rw [ec]
      refine ⟨rfl, true, congrArg V.bl (decide_eq_true rfl), iteT ?_⟩
      refine ⟨_, rfl, _, rfl, _, _, rfl, rfl, some (.ref ra), some (.int (outI (roomN d b lo hi) r)), u3, (o.1, o.2 + outI (roomN d b lo hi) r), rfl, ?_, e.trans e2⟩
      rw [hbs]
      unfold part
      rw [if_neg (by rw [hh]; exact Bool.false_ne_true), Int.add_zero]
    | true =>
      have ec : cntV cnt r = .int (cnt r.p : Int) := if_pos hh
      rw [ec]
      refine ⟨rfl, false, congrArg V.bl (decide_eq_false fun z => nomatch z), iteF ?_⟩
      have e12 := e1'.trans e2
      refine ⟨_, rfl, a, dx, _, rfl, e12 _ _ ha, fn_Knowledge_points_left _, _, rfl, _, _, d, b, cnt, fs, r, rfl, hk.mono e12, hry.mono e2, hh, sub, hl4, fun H3 e3 => ?_⟩
      have e13 := e12.trans e3
      refine ⟨_, rfl, _, rfl, _, rfl, a, dx, _, rfl, e13 _ _ ha, fn_Knowledge_room _, _, rfl, _, _, d, b, cnt, fs, r, rfl, hk.mono e13, (hry.mono e2).mono e3, v1.1, fun o ho => (val o ho).1, hl4, fun H4 e4 => ?_⟩
      refine ⟨_, rfl, _, _, rfl, rfl, _, _, rfl, rfl, ?_⟩
      refine ⟨_, _, rfl, _, _, rfl, rfl, _, rfl, _, rfl, _, rfl, _, _, rfl, _, _, rfl, rfl, some (.ref ra), some (.int (outI (roomN d b lo hi) r)), some (.int (outI cnt r)), (o.1 + max0 (outI cnt r - (outI (sz (d * b)) r - outI (roomN d b lo hi) r)), o.2 + min2 (outI cnt r) (outI (roomN d b lo hi) r)), rfl, ?_, ((e.trans e2).trans e3).trans e4⟩
      rw [hbs]
      unfold part
      rw [if_pos hh]
  · rintro σ H' ⟨u1, u2, u3, o, rfl, ho2, e⟩
    rw [its.1, List.take_length] at ho2
    refine ⟨_, rfl, _, rfl, two_line, fun t ht => ?_⟩
    have e3 := Ex.new (o := .tup [.int o.1, .int o.2]) ht
    exact k _ _ ((e1.trans e).trans e3) ⟨t, rfl, by rw [ho2]; exact upd_same⟩
theorem getD_all {pt : List Nat} {m : Nat} {d : Nat} (hl : pt.length = d) (h : ∀ i, i < d → pt.getD i 0 < m) : ∀ x ∈ pt, x < m := fun x hx => by
  obtain ⟨i, hi, rfl⟩ := List.mem_iff_getElem.mp hx
  have := h i (by omega)
  rw [List.getD_eq_getElem?_getD, List.getElem?_eq_getElem hi] at this
  exact this
theorem ok_Knowledge_known (T : Txt K mg) : FnOk P w K mg base CX0 7 T.f_Knowledge_known T.d_Knowledge_known ["self", "prefix"] (spKnown T.C_Knowledge T.C_Space) := by
  refine T.F_Knowledge_known.ok sc_Knowledge_known (fun vs H Q E h => ?_) (fun cdv A outer s H vs Q E hr h => ?_)
  · obtain ⟨_, _, _, _, _, _, _, rfl, _⟩ := h; rfl
  obtain ⟨v, x, d, b, cnt, fs, q, rfl, hk, hx, hq, hq0, vf, hlen, k⟩ := h
  have nd := sc_Knowledge_known.nd
  obtain ⟨a, dx, sv, f, rfl, ha, hs, hf⟩ := id hk
  obtain ⟨hsp, sa, sdx, rfl, hsa⟩ := id hs
  have ok := cell_ok hsp hq hq0
  have pl : Pnt d b (lowOf d b q) := ⟨ok.la, getD_all ok.la fun i hi => Nat.lt_of_le_of_lt (ok.le i hi) (ok.lt i hi)⟩
  have ph : Pnt d b (highOf d b q) := ⟨ok.lb, getD_all ok.lb ok.lt⟩
  have hle : ∀ i, (lowOf d b q).getD i 0 ≤ (highOf d b q).getD i 0 := fun i => by
    by_cases hi : i < d
    · exact ok.le i hi
    · rw [List.getD_eq_getElem?_getD, List.getElem?_eq_none (by rw [ok.la]; omega)]
      exact Nat.zero_le _
  refine ⟨_, (pss_cons (ps_asg (pe_meth (pe_fld (pv 0) (by rfl)) T.cl_Space T.M_Space_cell (ok_Space_cell T) (hr.mono (by decide)) T.b_Space_cell .nil pass0 (pa_cons (pv 1) pa_nil)) (pg_tup (by rfl) (pgs_cons (pg_name (i := 2) nd rfl (Or.inl rfl)) (pgs_cons (pg_name (i := 3) nd rfl (Or.inl rfl)) pgs_nil))))
      (pss_cons (ps_asg (pe_meth (pv 0) T.cl_Knowledge T.M_Knowledge_bounds (ok_Knowledge_bounds T) (hr.mono (by decide)) T.b_Knowledge_bounds .nil pass0 (pa_cons (pe_make T.mk_Box (ok_Box_init T) (hr.mono (by decide)) (by rfl) T.mg_Box T.b_Box_init .nil pass0 (pa_cons (pe_fld (pv 0) (by rfl)) (pa_cons (pv 2) (pa_cons (pv 3) pa_nil)))) pa_nil)) (pg_tup (by rfl) (pgs_cons (pg_name (i := 4) nd rfl (Or.inl rfl)) (pgs_cons (pg_name (i := 5) nd rfl (Or.inl rfl)) pgs_nil))))
      (pss_one (ps_ret (pe_ifExp (pt_cmpR op_eq (pv 4) (pv 5) (nomark _)) (pv 4) pe_non))))), ?_⟩
  refine r_Knowledge_space T rfl ha rfl ⟨sa, sdx, _, rfl, hsa, fn_Space_cell _, _, rfl, _, _, d, b, q, rfl, hs, hx, hq, ?_⟩
  rintro _ H1 e1 ⟨t, lv, hv, rfl, ht, hl, hh⟩
  refine ⟨t, _, rfl, SqT.of ht, rfl, ⟨_, _, rfl, ⟨_, _, rfl, rfl, ?_⟩⟩⟩
  refine ⟨_, rfl, a, dx, _, rfl, e1 _ _ ha, fn_Knowledge_bounds _, r_Knowledge_space T rfl (e1 _ _ ha) rfl ⟨_, rfl, _, rfl, fun xn dn nx ndx ne => ?_⟩⟩
  have e2 : Ex H1 (upd (upd H1 dn (.own xn)) xn (.ins T.C_Box dn [])) := (Ex.new ndx).trans (Ex.new (by rw [upd_ne (Ne.symm ne)]; exact nx))
  refine ⟨xn, dn, _, lv, hv, d, b, _, _, rfl, upd_same, (hs.mono e1).mono e2, hl.mono e2, hh.mono e2, pl, ph, hle, fun H2 bt hb => ⟨rfl, ?_⟩⟩
  have e3 := made_ex nx ndx bt
  have e13 := e1.trans e3
  refine ⟨_, _, d, b, cnt, fs, _, _, rfl, hk.mono e13, hb, vf, hlen, fun order fa ho => ?_⟩
  have k := k order fa ho
  have eb := bounds_congr (cnt := cnt) (ρ := roomN d b (lowOf d b q) (highOf d b q)) (σ := mu (d * b) q) fa fun p hp hv => room_cell hsp hq hq0 hp hv
  rw [eb]
  rintro _ H3 e4 ⟨t2, rfl, ht2⟩
  refine ⟨t2, _, rfl, SqT.of ht2, rfl, ⟨_, _, rfl, ⟨_, _, rfl, rfl, ?_⟩⟩⟩
  unfold knB at k
  generalize bounds (d * b) cnt (mu (d * b) q) (rests order) = bb at k
  refine ⟨_, rfl, _, rfl, rfl, _, rfl, ite2 (fun c => ?_) (fun c => ?_)⟩
  · have c : bb.1 = bb.2 := by
      have z := of_decide_eq_true c
      injection z
    refine ⟨_, rfl, k (.int bb.1) H3 (e13.trans e4) ?_⟩
    show if decide (bb.1 = bb.2) = true then ∃ i, V.int bb.1 = V.int i else _
    rw [if_pos (decide_eq_true c)]
    exact ⟨_, rfl⟩
  · have c : ¬ bb.1 = bb.2 := fun z => c (decide_eq_true (congrArg V.int z))
    refine k .non H3 (e13.trans e4) ?_
    show if decide (bb.1 = bb.2) = true then _ else V.non = V.non
    rw [if_neg (by rw [decide_eq_false c]; exact Bool.false_ne_true)]
end
end FW
namespace FW
open PySem L2 FC Evl
/-- counts that are a cloud's -/
structure CntOk (D : Nat) (cnt : Pre → Nat) : Prop where
  add : Add D cnt
  le : ∀ p, p.1 ≤ D → ins p (0, 0) → cnt p ≤ sz D p
theorem rest_fit {D : Nat} {fs order : List Pre} {cnt : Pre → Nat} (fa : Facts D (memB fs) order) (hc : CntOk D cnt) {r : Rst} (hr : r ∈ rests order) (hh : r.has = true) : 0 ≤ outI cnt r ∧ outI cnt r ≤ outI (sz D) r := by
  obtain ⟨⟨v1, v2⟩, _, _, h4⟩ := rests_ok fa hr
  obtain ⟨_, e⟩ := h4 hh
  have er : r = ⟨r.p, true, nextIn r.p order⟩ := by
    cases r with
    | mk p hs inn => simp only at hh e ⊢; rw [hh, e]
  rw [er, out_eq fa hc.add v1 v2 true, out_eq fa (sz_add D) v1 v2 true]
  have := R_mono (F := memB fs) (μ := cnt) (ν := sz D) r.p v1 v2 fun q hq hqD => hc.le q hqD (ins_trans hq v2)
  omega
theorem SpaceAt.but2 {x : Addr} {v : V} {S : Addr} {d b : Nat} {H H' : Hp} (h : SpaceAt S d b v H) (e : But x H H') (hx : ∀ C dx fs, H x ≠ some (.ins C dx fs)) : SpaceAt S d b v H' :=
  let ⟨s, a, dx', e1, e2⟩ := h; ⟨s, a, dx', e1, e a _ e2 fun z => by subst z; exact hx _ _ _ e2⟩
def spKnowInit (Kc C : Addr) : Sp := fun vs H Q _ => ∃ (x dx fa : Addr) (s : V) (d b : Nat) (cnt : Pre → Nat) (fs : List Pre), vs = [.ref x, s, .ref fa] ∧ H x = some (.ins Kc dx []) ∧ SpaceAt C d b s H ∧ H fa = some (.dT (fs.map (entF cnt))) ∧ VF (d * b) fs ∧ fs.length ≤ 4000 ∧ CntOk (d * b) cnt ∧
  ∀ H', But x H H' → KnowAt Kc C d b cnt fs (.ref x) H' → Q .non H'
section
variable {P : Program} {w : World} {K : PySem.W.Frag} {mg : Str → Option Value} {base : Heap}
theorem ok_Knowledge_init (T : Txt K mg) : FnOk P w K mg base CX0 6 T.f_Knowledge_init T.d_Knowledge_init ["self", "space", "facts"] (spKnowInit T.C_Knowledge T.C_Space) := by
  refine T.F_Knowledge_init.ok sc_Knowledge_init (fun vs H Q E h => ?_) (fun cdv A outer s H vs Q E hr h => ?_)
  · obtain ⟨_, _, _, _, _, _, _, _, rfl, _⟩ := h; rfl
  obtain ⟨x, dx, fa, sv, d, b, cnt, fs, rfl, hx, hs, hf, vf, hlen, hc, k⟩ := h
  have nd := sc_Knowledge_init.nd
  obtain ⟨hsp, sa, sdx, rfl, hsa⟩ := id hs
  have hD := sp_le hsp
  refine ⟨_, (pss_cons (ps_fld (pv 0) (pv 1) rfl)
      (pss_cons (ps_lock (ps_for PassesOwn.never (by rfl) (pi_itemsT (pv 2)) (pg_tup (by rfl) (pgs_cons (pg_name (i := 3) nd rfl (Or.inl rfl)) (pgs_cons (pg_name (i := 4) nd rfl (Or.inl rfl)) pgs_nil)))
      (pss_one (ps_if (PW.pt (pw_or (pt_not (pt_val (pe_meth (pv 1) T.cl_Space T.M_Space_is_prefix (ok_Space_is_prefix T) (hr.mono (by decide)) T.b_Space_is_prefix .nil pass0 (pa_cons (pv 3) pa_nil)))) (pw_or1 (pt_not (pt_val (pe_call (ok_is_whole T) (hr.mono (by decide)) (by rfl) T.mg_is_whole T.F_is_whole.kp T.b_is_whole .nil pass0 (pa_cons (pv 4) (pa_cons pe_int (pa_cons (pe_meth (pv 1) T.cl_Space T.M_Space_size (ok_Space_size T) (hr.mono (by decide)) T.b_Space_size .nil pass0 (pa_cons (pv 3) pa_nil)) pa_nil))))))))) (pss_one ps_never) pss_nil))))
      (pss_cons (ps_fld (pv 0) (pe_callTy (cr_dictT hr.units) (by rfl) T.z_dict (by decide +kernel) (pa_cons (pv 2) pa_nil)) rfl)
      (pss_one (ps_for PassesOwn.never (by rfl) (pi_list (pe_meth0 (pv 0) T.cl_Knowledge T.M_Knowledge_rests (ok_Knowledge_rests T) (hr.mono (by decide)) T.b_Knowledge_rests .nil pass0)) (pg_name (i := 5) nd rfl (Or.inl rfl))
      (pss_one (ps_if (pt_not (pt_val (pe_meth (pv 0) T.cl_Knowledge T.M_Knowledge_is_fit (ok_Knowledge_is_fit T) (hr.mono (by decide)) T.b_Knowledge_is_fit .nil pass0 (pa_cons (pv 5) pa_nil)))) (pss_one ps_never) pss_nil))))))), ?_⟩
  refine ⟨_, rfl, _, rfl, p_Knowledge_space (vs := []) T hx rfl ?_⟩
  have nfx : fa ≠ x := fun z => by rw [z, hx] at hf; cases hf
  have b1 : But x H (upd H x (.ins T.C_Knowledge dx ((k_Knowledge.take (0 + 1)).zip ([] ++ [V.ref sa])))) := fun c o hc n => (upd_ne n).trans hc
  have hx1 : upd H x (.ins T.C_Knowledge dx ((k_Knowledge.take (0 + 1)).zip ([] ++ [V.ref sa]))) x = some (.ins T.C_Knowledge dx ((k_Knowledge.take (0 + 1)).zip ([] ++ [V.ref sa]))) := upd_same
  generalize upd H x (.ins T.C_Knowledge dx ((k_Knowledge.take (0 + 1)).zip ([] ++ [V.ref sa]))) = H1 at b1 hx1
  have hf1 : H1 fa = some (.dT (fs.map (entF cnt))) := b1 fa _ hf nfx
  have hs1 : SpaceAt T.C_Space d b (.ref sa) H1 := hs.but b1 hx
  refine ⟨fa, _, hf1, trivial, fun od => ?_⟩
  have b2 : But fa H1 (upd H1 fa (.frz od (.dT (fs.map (entF cnt))))) := fun c o hc n => (upd_ne n).trans hc
  have hf2 : upd H1 fa (.frz od (.dT (fs.map (entF cnt)))) fa = some (.frz od (.dT (fs.map (entF cnt)))) := upd_same
  have hs2 : SpaceAt T.C_Space d b (.ref sa) (upd H1 fa (.frz od (.dT (fs.map (entF cnt))))) := hs1.but2 b2 fun C dx fs z => by rw [hf1] at z; cases z
  generalize upd H1 fa (.frz od (.dT (fs.map (entF cnt)))) = H2 at b2 hf2 hs2
  refine ⟨_, rfl, fa, od, _, rfl, hf2, for_it walk_itemsT (fun i σ H' => ∃ u1 u2, σ = [some (.ref x), some (.ref sa), some (.ref fa), u1, u2, none] ∧ Ex H2 H') ⟨none, none, rfl, Ex.refl _⟩ (fun i σ H' _ h => ?_) ?_ ?_⟩
  · obtain ⟨_, _, _, e⟩ := h
    exact e _ _ hf2
  · rintro i y σ H' H'' hi ⟨u1, u2, rfl, e⟩ ⟨t, q, kk, v, hkv, rfl, ht, hq, rfl⟩
    rw [List.getElem?_map] at hkv
    obtain ⟨p, hp, e1⟩ := Option.map_eq_some_iff.mp hkv
    injection e1 with e1 e2
    subst e1 e2
    have hm := List.mem_of_getElem? hp
    obtain ⟨v1, v2⟩ := vf.ok p hm
    refine ⟨t, _, rfl, SqT.of upd_same, rfl, ⟨_, _, rfl, ⟨_, _, rfl, rfl, ?_⟩⟩⟩
    have e3 := Ex.new (o := .tup [.ref q, .int (cnt p : Int)]) ht
    have px : PT (.ref q) p (upd H' t (.tup [.ref q, .int (cnt p : Int)])) := ⟨q, rfl, e3 _ _ hq⟩
    have e4 := e.trans e3
    generalize upd H' t (.tup [.ref q, .int (cnt p : Int)]) = H3 at px e4
    have hs3 := hs2.mono e4
    obtain ⟨_, _, sdx3, e5, hsa3⟩ := id hs3
    cases e5
    refine ⟨_, rfl, sa, _, _, rfl, hsa3, fn_Space_is_prefix _, _, rfl, _, _, d, b, p, rfl, hs3, px, v1, v2, fun H4 e6 => ⟨true, rfl, iteF ?_⟩⟩
    refine ⟨_, rfl, _, rfl, sa, _, _, rfl, e6 _ _ hsa3, fn_Space_size _, _, rfl, _, _, d, b, p, rfl, hs3.mono e6, px.mono e6, v1, fun H5 e7 => ?_⟩
    refine ⟨_, _, _, rfl, fun H6 e8 => ⟨true, ?_, iteF ?_⟩⟩
    · show V.bl (decide ((0 : Int) ≤ (cnt p : Int)) && decide ((cnt p : Int) ≤ (sz (d * b) p : Int))) = V.bl true
      have := hc.le p v1 v2
      rw [decide_eq_true (by omega), decide_eq_true (by omega)]; rfl
    · exact ⟨some (.ref q), some (.int (cnt p : Int)), rfl, ((e4.trans e6).trans e7).trans e8⟩
  · rintro σ H' ⟨u1, u2, rfl, e⟩
    refine ⟨e _ _ hf2, ?_⟩
    have e12 : Ex H1 (upd H' fa (.dT (fs.map (entF cnt)))) := fun c o hc => by
      by_cases z : c = fa
      · subst z
        rw [hf1] at hc
        rw [upd_same]
        exact hc
      · rw [upd_ne z]
        exact e _ _ (b2 _ _ hc z)
    generalize upd H' fa (.dT (fs.map (entF cnt))) = H3 at e12
    refine ⟨_, rfl, fa, _, rfl, e12 _ _ hf1, fun kv hkv => ?_, fun g hg => ?_⟩
    · obtain ⟨p, hp, rfl⟩ := List.mem_map.mp hkv
      obtain ⟨v1, v2⟩ := vf.ok p hp
      exact ⟨p, mem_pres (by omega) (of_root_ins v2), rfl⟩
    · have hgx : x ≠ g := ne_of_none (e12 _ _ hx1) hg
      refine ⟨_, rfl, p_Knowledge_facts (vs := [_]) T ((upd_ne hgx).trans (e12 _ _ hx1)) rfl ?_⟩
      have old : ∀ c o, H c = some o → c ≠ x → c ≠ g := fun c o hc n => ne_of_none (e12 _ _ (b1 c o hc n)) hg
      have b4 : But x H (upd (upd H3 g (.dT (fs.map (entF cnt)))) x (.ins T.C_Knowledge dx ((k_Knowledge.take (1 + 1)).zip ([V.ref sa] ++ [V.ref g])))) := fun c o hc n => by
        rw [upd_ne n, upd_ne (old c o hc n)]
        exact e12 _ _ (b1 c o hc n)
      have kn : KnowAt T.C_Knowledge T.C_Space d b cnt fs (.ref x) (upd (upd H3 g (.dT (fs.map (entF cnt)))) x (.ins T.C_Knowledge dx ((k_Knowledge.take (1 + 1)).zip ([V.ref sa] ++ [V.ref g])))) :=
        ⟨x, dx, _, g, rfl, upd_same, hs.but b4 hx, (upd_ne (Ne.symm hgx)).trans upd_same⟩
      generalize upd (upd H3 g (.dT (fs.map (entF cnt)))) x (.ins T.C_Knowledge dx ((k_Knowledge.take (1 + 1)).zip ([V.ref sa] ++ [V.ref g]))) = H4 at b4 kn
      obtain ⟨_, kdx, ks, kf, ek, hka, _⟩ := id kn
      cases ek
      refine ⟨_, rfl, x, kdx, _, rfl, hka, fn_Knowledge_rests _, _, d, b, cnt, fs, rfl, kn, by omega, vf, hlen, fun order fo ho => ?_⟩
      rintro _ H5 e5 ⟨l, rs, rfl, hl, its⟩
      refine ⟨l, rfl, ⟨_, SqL.of hl⟩, for_list (xs := rs) (fun i σ H' => ∃ u1, σ = [some (.ref x), some (.ref sa), some (.ref fa), u1.1, u1.2.1, u1.2.2] ∧ Ex H5 H') ⟨(u1, u2, none), rfl, Ex.refl _⟩ (fun i σ H' _ h => ?_) ?_ ?_⟩
      · obtain ⟨_, _, e⟩ := h
        exact SqL.of (e _ _ hl)
      · rintro i y σ H' hy ⟨⟨w1, w2, w3⟩, rfl, e⟩
        obtain ⟨r, hrr, hry⟩ := its.at hy
        have hry := hry.mono e
        have hm := List.mem_of_getElem? hrr
        obtain ⟨v1, v2, v3, v4⟩ := rests_ok fo hm
        have e6 := e5.trans e
        refine ⟨_, rfl, x, kdx, _, rfl, e6 _ _ hka, fn_Knowledge_is_fit _, _, rfl, _, _, d, b, cnt, fs, r, rfl, kn.mono e6, hry, fun o ho => of_decide_eq_true ((fo.mem o).mpr (v2 o ho)), v1.1, fun o ho => (fo.val o (v2 o ho)).1, by omega, rest_fit fo hc hm, fun H6 e7 => ⟨true, rfl, iteF ⟨(w1, w2, some y), rfl, e.trans e7⟩⟩⟩
      · rintro σ H' ⟨⟨w1, w2, w3⟩, rfl, e⟩
        exact k H' (fun c o hc n => e _ _ (e5 _ _ (b4 c o hc n))) (kn.mono (e5.trans e))
end
end FW
namespace FW
open PySem L2 FC Evl
theorem dps_shaped (W : List Pre) : SeqAt.shaped (.list (W.map dP)) = true := by
  have h1 : PyData.canLayAll0 (W.map dP) = true := by
    induction W with
    | nil => rfl
    | cons x W ih =>
      rw [List.map_cons, PyData.canLayAll0, ih]
      rfl
  have h2 : PyData.depthAll (W.map dP) ≤ 1 := by
    induction W with
    | nil => exact Nat.zero_le _
    | cons x W ih =>
      rw [List.map_cons, PyData.canLayAll0, Bool.and_eq_true] at h1
      rw [List.map_cons, PyData.depthAll]
      exact Nat.max_le.mpr ⟨Nat.le_refl _, ih h1.2⟩
  unfold SeqAt.shaped
  rw [PyData.canLay0, PyData.depth, h1, Bool.true_and]
  exact decide_eq_true (by omega)
theorem dps_nil (W : List Pre) : PyData.eqv (.list (W.map dP)) (.list []) = decide (W = []) := by
  cases W with
  | nil => rfl
  | cons x W => simp [PyData.eqv, PyData.eqvAll]
theorem items_dp {K : PySem.W.Frag} {H : Hp} : ∀ {W : List Pre} {ys : List V}, Items PTi W ys H → DpAll K H ys (W.map dP)
  | [], [], _ => .nil
  | [], _ :: _, h => by have := h.1; simp at this
  | _ :: _, [], h => by have := h.1; simp at this
  | p :: W, y :: ys, h => .cons (PT.dp (h.2 0 p y rfl rfl)) (items_dp ⟨Nat.succ.inj h.1, fun i q v hq hv => h.2 (i + 1) q v (by simpa using hq) (by simpa using hv)⟩)
def spEnough (Kc C B : Addr) : Sp := fun vs H Q _ => ∃ (v bv : V) (fin d b : Nat) (cnt : Pre → Nat) (fs : List Pre) (lo hi : List Nat), vs = [v, bv, .int fin] ∧ KnowAt Kc C d b cnt fs v H ∧ BoxAt B C d b lo hi bv H ∧ VF (d * b) fs ∧ fs.length ≤ 4000 ∧ CntOk (d * b) cnt ∧ fin ≤ d * b ∧
  ∀ order, Facts (d * b) (memB fs) order → order.length = fs.length → RetV (.bl (okT (fun p => decide (0 < roomN d b lo hi p)) (knB (d * b) cnt order) fin (0, 0))) H Q
def wt (fin : Nat) (W : List Pre) : Nat := (W.map fun p => 3 ^ (fin + 1 - p.1)).sum
theorem knB_one {D : Nat} {F : Pre → Bool} {o1 o2 : List Pre} {cnt : Pre → Nat} (f1 : Facts D F o1) (f2 : Facts D F o2) (hc : CntOk D cnt) {q : Pre} (hq : q.1 ≤ D) : knB D cnt o1 q = knB D cnt o2 q := by
  have m : ∀ x, x ∈ o1 ↔ x ∈ o2 := fun x => (f1.mem x).symm.trans (f2.mem x)
  have h1 := known_iff f1 hc.add hc.le (mu_add hq) fun p _ _ => mu_le hq
  have h2 := known_iff f2 hc.add hc.le (mu_add hq) fun p _ _ => mu_le hq
  unfold knB
  refine decide_eq_decide.mpr (h1.trans (Iff.trans ?_ h2.symm))
  constructor
  · rintro ⟨g1, g2⟩
    exact ⟨fun r hr => g1 r ((m r).mpr hr), fun n => g2 fun z => n ((m _).mp z)⟩
  · rintro ⟨g1, g2⟩
    exact ⟨fun r hr => g1 r ((m r).mp hr), fun n => g2 fun z => n ((m _).mpr z)⟩
theorem wt_snoc (fin : Nat) (W : List Pre) (p : Pre) : wt fin (W ++ [p]) = wt fin W + 3 ^ (fin + 1 - p.1) := by
  unfold wt; rw [List.map_append, List.sum_append]; simp
abbrev EnInv (a ba l : Addr) (fin : Nat) (need kn : Pre → Bool) (H : Hp) (m : Nat) (σ : St) (H' : Hp) : Prop := ∃ (u : Option V) (W : List Pre) (ys : List V), σ = [some (.ref a), some (.ref ba), some (.int fin), some (.ref l), u] ∧ Ex H H' ∧ H' l = some (.lst ys) ∧ Items PTi W ys H' ∧ m = wt fin W ∧ (∀ p ∈ W, p.1 ≤ fin ∧ ins p (0, 0)) ∧ W.length ≤ wt fin W ∧ wt fin W ≤ 3 ^ (fin + 1) ∧
    okT need kn fin (0, 0) = W.all fun p => okT need kn (fin - p.1) p
theorem items_last {R : Pre → V → Hp → Prop} {W : List Pre} {ys : List V} {H : Hp} {p : Pre} (h : Items R (W ++ [p]) ys H) : ∃ ys0 y, ys = ys0 ++ [y] ∧ Items R W ys0 H ∧ R p y H := by
  have hl := h.1
  rw [List.length_append] at hl
  have hl : ys.length = W.length + 1 := hl
  have hne : ys ≠ [] := fun z => by rw [z] at hl; simp at hl
  refine ⟨ys.dropLast, ys.getLast hne, (List.dropLast_concat_getLast hne).symm, ⟨by rw [List.length_dropLast]; omega, fun i q v hq hv => ?_⟩, ?_⟩
  · have hi := (List.getElem?_eq_some_iff.mp hq).1
    refine h.2 i q v (by rw [List.getElem?_append_left hi]; exact hq) ?_
    rw [List.getElem?_dropLast, if_pos (by omega)] at hv
    exact hv
  · refine h.2 W.length p _ (by rw [List.getElem?_append_right (Nat.le_refl _), Nat.sub_self]; rfl) ?_
    rw [List.getLast_eq_getElem, List.getElem?_eq_getElem (by omega)]
    congr 2
    omega
theorem exists_facts {D : Nat} {fs : List Pre} (vf : VF D fs) : ∃ order, Facts D (memB fs) order ∧ order.length = fs.length := by
  have hp := List.mergeSort_perm fs (fun a b => decide (a.1 ≤ b.1))
  refine ⟨fs.mergeSort (fun a b => decide (a.1 ≤ b.1)), facts_of vf hp ?_, hp.length_eq⟩
  have := List.pairwise_mergeSort (le := fun (a b : Pre) => decide (a.1 ≤ b.1)) (fun a b c h1 h2 => by
    have h1 := of_decide_eq_true h1
    have h2 := of_decide_eq_true h2
    exact decide_eq_true (by omega)) (fun a b => by
    by_cases h : a.1 ≤ b.1
    · simp [h]
    · have : b.1 ≤ a.1 := by omega
      simp [this]) fs
  exact this.imp fun h => of_decide_eq_true h
section
variable {P : Program} {w : World} {K : PySem.W.Frag} {mg : Str → Option Value} {base : Heap}
theorem ok_is_enough (T : Txt K mg) : FnOk P w K mg base CX0 8 T.f_is_enough T.d_is_enough ["knowledge", "box", "fineness"] (spEnough T.C_Knowledge T.C_Space T.C_Box) := by
  refine T.F_is_enough.ok sc_is_enough (fun vs H Q E h => ?_) (fun cdv A outer s H vs Q E hr h => ?_)
  · obtain ⟨_, _, _, _, _, _, _, _, _, rfl, _⟩ := h; rfl
  obtain ⟨v, bv, fin, d, b, cnt, fs, lo, hi, rfl, hk, hb, vf, hlen, hcn, hfin, k⟩ := h
  have nd := sc_is_enough.nd
  obtain ⟨order, fo, ho⟩ := exists_facts vf
  have k := k order fo ho
  obtain ⟨a, dx, sv, f, rfl, ha, hs, hf⟩ := id hk
  obtain ⟨_, _, ba, bdx, _, _, _, rfl, hba, _⟩ := id hb
  have hD := sp_le hs.1
  refine ⟨_, (pss_cons (ps_set (i := 3) nd rfl (Or.inl rfl) (pe_lst (pa_cons (pe_tup (pa_cons pe_int (pa_cons pe_int pa_nil))) pa_nil)))
      (pss_cons (ps_while PassesOwn.never (pt_cmpR (op_neD hr.units) (pv 3) (pe_lst pa_nil) (nomark _))
      (pss_cons (ps_set (i := 4) nd rfl (Or.inl rfl) (pe_bm0 PySem.F.plainAttrs_list PySem.F.slot_list_pop PySem.F.type_list_pop mt_pop (pv 3)))
      (pss_one (ps_if (pt_cmpR op_gt (pe_meth (pv 1) T.cl_Box T.M_Box_room (ok_Box_room T) (hr.mono (by decide)) T.b_Box_room .nil pass0 (pa_cons (pv 4) pa_nil)) pe_int (nomark _)) (pss_one (ps_if (pt_cmpR op_eq (pe_ix ix_tup (pv 4) pe_int (fun _ _ => rfl)) (pv 2) (nomark _)) (pss_one (ps_if (pt_cmpR op_isN (pe_meth (pv 0) T.cl_Knowledge T.M_Knowledge_known (ok_Knowledge_known T) (hr.mono (by decide)) T.b_Knowledge_known .nil pass0 (pa_cons (pv 4) pa_nil)) pe_non (nomark _)) (pss_one (ps_ret pe_bl)) pss_nil)) (pss_one (ps_expr (pe_bm PySem.F.plainAttrs_list PySem.F.slot_list_extend PySem.F.type_list_extend mt_extend (pv 3) (pa_cons (pe_callTy call_list_of (by rfl) T.z_list (by decide +kernel) (pa_cons (pe_call (ok_halves_of T) (hr.mono (by decide)) (by rfl) T.mg_halves_of T.F_halves_of.kp T.b_halves_of .nil pass0 (pa_cons (pv 4) pa_nil)) pa_nil)) pa_nil)))))) pss_nil))))
      (pss_one (ps_ret pe_bl)))), ?_⟩
  refine ⟨two_line, fun t ht => ⟨by show 1 ≤ sizeLine; decide, fun l hl => ?_⟩⟩
  have e1 : Ex H (upd H t (.tup [.int 0, .int 0])) := Ex.new ht
  have p0 : PT (.ref t) (0, 0) (upd H t (.tup [.int 0, .int 0])) := ⟨t, rfl, upd_same⟩
  generalize upd H t (.tup [.int 0, .int 0]) = H1 at e1 p0 hl
  have hl0 : H l = none := fresh_back e1 hl
  have e2 : Ex H1 (upd H1 l (.lst [.ref t])) := Ex.new hl
  have hl2 : upd H1 l (.lst [.ref t]) l = some (.lst [.ref t]) := upd_same
  have p2 := p0.mono e2
  generalize upd H1 l (.lst [.ref t]) = H2 at e2 hl2 p2
  generalize hneed : (fun p => decide (0 < roomN d b lo hi p)) = need at k
  generalize hkn : knB (d * b) cnt order = kn at k
  have hpow : ∀ n, 0 < 3 ^ n := fun n => Nat.pow_pos (by decide)
  have hsml : 3 ^ (fin + 1) ≤ 3 ^ 7 := Nat.pow_le_pow_right (by decide) (by omega)
  refine q_while (EnInv a ba l fin need kn H) (wt fin [(0, 0)]) ?_ ?_
  · have hw : wt fin [(0, 0)] = 3 ^ (fin + 1) := by show 3 ^ (fin + 1 - 0) + 0 = _; rfl
    refine ⟨none, [(0, 0)], [.ref t], rfl, e1.trans e2, hl2, Items.snoc Items.nil p2, rfl, fun p hp => ?_, by rw [hw]; exact hpow _, by rw [hw]; exact Nat.le_refl _, ?_⟩
    · rw [List.mem_singleton.mp hp]; exact ⟨Nat.zero_le _, ins_refl _⟩
    · show _ = (okT need kn (fin - 0) (0, 0) && true)
      rw [Bool.and_true]; rfl
  · rintro m σ H' ⟨u, W, ys, rfl, e, hl', its, rfl, hW, hn, hn2, hok⟩
    refine ⟨!decide (W = []), et_test (ev_opL (ev_var rfl) (el_lst (fun H1 _ Q q => q _ (Ex.refl _)) (Nat.zero_le _)) fun q H1 hq e1 => rv_val fun H2 e2 Q q2 => ⟨.list (W.map dP), .list [], .lst (SqL.of (e2 _ _ (e1 _ _ hl'))) (items_dp (its.map fun _ _ _ r => PT.mono r (e1.trans e2))), .lst (SqL.of (e2 _ _ hq)) .nil, dps_shaped W, rfl, by rw [dps_nil]; exact q2⟩), fun hb1 H1 e1 => ?_, fun hb1 H1 e1 => ?_⟩
    · have hne : W ≠ [] := fun z => by rw [z] at hb1; simp at hb1
      obtain ⟨W0, p, rfl⟩ : ∃ W0 p, W = W0 ++ [p] := ⟨W.dropLast, W.getLast hne, (List.dropLast_concat_getLast hne).symm⟩
      obtain ⟨ys0, y, rfl, its0, hy⟩ := items_last its
      obtain ⟨vp, vi⟩ := hW p (List.mem_append_right _ List.mem_cons_self)
      rw [wt_snoc] at hn hn2
      rw [List.all_append] at hok
      have hok : okT need kn fin (0, 0) = ((W0.all fun p => okT need kn (fin - p.1) p) && (okT need kn (fin - p.1) p && true)) := hok
      rw [Bool.and_true] at hok
      have hW0 : ∀ p ∈ W0, p.1 ≤ fin ∧ ins p (0, 0) := fun q hq => hW q (List.mem_append_left _ hq)
      have hl1 := e1 _ _ hl'
      have ml := ExL.list (ws := ys0) hl1
      refine ⟨fun σ2 H2 => ∃ m', m' < wt fin (W0 ++ [p]) ∧ EnInv a ba l fin need kn H m' σ2 H2, fun σ2 H2 z => z, ?_⟩
      refine ⟨_, rfl, .inl ⟨rfl, _, SqL.of hl1⟩, l, _, y, rfl, rfl, hl1, by simp, ?_⟩
      rw [List.dropLast_concat]
      have eH : Ex H (upd H1 l (.lst ys0)) := fun c o hc => by
        rw [upd_ne (ne_of_none hc hl0)]
        exact e1 _ _ (e _ _ hc)
      have hl3 : upd H1 l (.lst ys0) l = some (.lst ys0) := upd_same
      have its3 : Items PTi W0 ys0 (upd H1 l (.lst ys0)) := its0.map fun _ _ _ r => PT.ml (PT.mono r e1) ml
      have hy3 : PT y p (upd H1 l (.lst ys0)) := PT.ml (PT.mono hy e1) ml
      clear ml hl1
      generalize upd H1 l (.lst ys0) = H3 at eH hl3 its3 hy3
      have stop : okT need kn (fin - p.1) p = true → ∀ H4, Ex H3 H4 → ∀ u', ∃ m', m' < wt fin (W0 ++ [p]) ∧ EnInv a ba l fin need kn H m' [some (.ref a), some (.ref ba), some (.int fin), some (.ref l), u'] H4 := fun ht H4 e4 u' => by
        rw [ht, Bool.and_true] at hok
        have := hpow (fin + 1 - p.1)
        refine ⟨wt fin W0, by rw [wt_snoc]; omega, u', W0, ys0, rfl, eH.trans e4, e4 _ _ hl3, its3.map fun _ _ _ r => PT.mono r e4, rfl, hW0, ?_, by omega, hok⟩
        have : ∀ l : List Pre, l.length ≤ wt fin l := by
          intro l
          induction l with
          | nil => exact Nat.zero_le _
          | cons x l ih =>
            have := hpow (fin + 1 - x.1)
            show l.length + 1 ≤ 3 ^ (fin + 1 - x.1) + wt fin l
            omega
        exact this W0
      obtain ⟨ya, rfl, hya⟩ := id hy3
      refine ⟨_, rfl, ba, bdx, _, rfl, eH _ _ hba, fn_Box_room _, _, rfl, _, _, d, b, lo, hi, p, rfl, hb.mono eH, hy3, by omega, vi, fun H4 e4 => ?_⟩
      have e04 := eH.trans e4
      refine ⟨_, _, rfl, rfl, _, rfl, ?_⟩
      have hne : need p = decide ((roomN d b lo hi p : Int) > 0) := by
        rw [← hneed]
        exact decide_eq_decide.mpr ⟨fun z => by omega, fun z => by omega⟩
      refine ite2 (fun c => ?_) (fun c => ?_)
      · have c1 : need p = true := hne.trans c
        refine g_ix 0 rfl (e4 _ _ hya) rfl ⟨_, rfl, rfl, _, rfl, ite2 (fun c2 => ?_) (fun c2 => ?_)⟩
        · have c2 : p.1 = fin := by
            have z := of_decide_eq_true c2
            injection z with z
            omega
          have hv : okT need kn (fin - p.1) p = kn p := by
            rw [c2, Nat.sub_self]
            show (if need p = true then kn p else true) = _
            rw [if_pos c1]
          refine ⟨_, rfl, a, dx, _, rfl, e04 _ _ ha, fn_Knowledge_known _, _, rfl, _, _, d, b, cnt, fs, p, rfl, hk.mono e04, hy3.mono e4, by omega, vi, vf, hlen, fun order' fo' ho' => ?_⟩
          intro v H5 e5 hvv
          have ek : knB (d * b) cnt order' p = kn p := by rw [← hkn]; exact knB_one fo' fo hcn (by omega)
          rw [ek] at hvv
          cases hk1 : kn p with
          | true =>
            rw [if_pos hk1] at hvv
            obtain ⟨z, rfl⟩ := hvv
            exact ⟨rfl, false, congrArg V.bl (decide_eq_false fun z => nomatch z), iteF (stop (hv.trans hk1) H5 (e4.trans e5) _)⟩
          | false =>
            rw [if_neg (by rw [hk1]; exact Bool.false_ne_true)] at hvv
            subst hvv
            refine ⟨rfl, true, congrArg V.bl (decide_eq_true rfl), iteT ?_⟩
            have := k H5 (e04.trans e5)
            rw [hok, hv, hk1, Bool.and_false] at this
            exact this
        · have c2 : p.1 < fin := by
            have : ¬ p.1 = fin := fun z => c2 (decide_eq_true (by rw [z]))
            omega
          have hv : okT need kn (fin - p.1) p = (okT need kn (fin - (p.1 + 1)) (ch0 p) && okT need kn (fin - (p.1 + 1)) (ch1 p)) := by
            rw [show fin - p.1 = fin - (p.1 + 1) + 1 by omega]
            show (if need p = true then _ else true) = _
            rw [if_pos c1]
          refine ⟨_, rfl, .inl ⟨rfl, _, SqL.of (e4 _ _ hl3)⟩, _, rfl, _, p, rfl, hy3.mono e4, ?_⟩
          rintro _ H5 e5 ⟨t2, x0, x1, rfl, ht2, px0, px1⟩
          refine ⟨t2, _, rfl, .inr (SqT.of ht2), fun l2 hl2 => ?_⟩
          have e6 := Ex.new (o := .lst [x0, x1]) hl2
          have e36 := (e4.trans e5).trans e6
          have hw : wt fin (W0 ++ [ch0 p, ch1 p]) = wt fin W0 + 3 ^ (fin + 1 - (p.1 + 1)) + 3 ^ (fin + 1 - (p.1 + 1)) := by
            rw [show W0 ++ [ch0 p, ch1 p] = (W0 ++ [ch0 p]) ++ [ch1 p] by simp, wt_snoc, wt_snoc]
            rfl
          have hw2 : 3 ^ (fin + 1 - p.1) = 3 * 3 ^ (fin + 1 - (p.1 + 1)) := by
            rw [show fin + 1 - p.1 = fin + 1 - (p.1 + 1) + 1 by omega, Nat.pow_succ, Nat.mul_comm]
          have hp3 := hpow (fin + 1 - (p.1 + 1))
          have hlen0 : ys0.length = W0.length := its3.1
          have hlenW : W0.length + 1 ≤ 3 ^ 7 := by
            rw [List.length_append] at hn
            have : W0.length + 1 ≤ wt fin W0 + 3 ^ (fin + 1 - p.1) := hn
            omega
          refine ⟨l, l2, ys0, [x0, x1], rfl, rfl, e36 _ _ hl3, upd_same, ?_, ?_⟩
          · have : sizeLine = 16777216 := sizeLine_eq
            show ys0.length + 2 ≤ sizeLine
            rw [this]
            omega
          · have ml := ExL.list (ws := ys0 ++ [x0, x1]) (e36 _ _ hl3)
            refine ⟨wt fin (W0 ++ [ch0 p, ch1 p]), by rw [hw, wt_snoc, hw2]; omega, some (.ref ya), W0 ++ [ch0 p, ch1 p], ys0 ++ [x0, x1], rfl, fun c o hc => ?_, upd_same, ?_, rfl, fun q hq => ?_, ?_, by rw [hw]; rw [hw2] at hn2; omega, ?_⟩
            · rw [upd_ne (ne_of_none hc hl0)]
              exact e36 _ _ (eH _ _ hc)
            · rw [show W0 ++ [ch0 p, ch1 p] = (W0 ++ [ch0 p]) ++ [ch1 p] by simp, show ys0 ++ [x0, x1] = (ys0 ++ [x0]) ++ [x1] by simp]
              have ml' : ExL (upd H5 l2 (.lst [x0, x1])) (upd (upd H5 l2 (.lst [x0, x1])) l (.lst ((ys0 ++ [x0]) ++ [x1]))) := by
                rw [show (ys0 ++ [x0]) ++ [x1] = ys0 ++ [x0, x1] by simp]; exact ml
              exact Items.snoc (Items.snoc (its3.map fun _ _ _ r => PT.ml (PT.mono r e36) ml') ((px0.mono e6).ml ml')) ((px1.mono e6).ml ml')
            · rcases List.mem_append.mp hq with h | h
              · exact hW0 q h
              · have : q = ch0 p ∨ q = ch1 p := by simpa using h
                rcases this with rfl | rfl
                · exact ⟨c2, ins_trans (ins_ch0 p) vi⟩
                · exact ⟨c2, ins_trans (ins_ch1 p) vi⟩
            · have : ∀ l : List Pre, l.length ≤ wt fin l := by
                intro l
                induction l with
                | nil => exact Nat.zero_le _
                | cons x l ih =>
                  have := hpow (fin + 1 - x.1)
                  show l.length + 1 ≤ 3 ^ (fin + 1 - x.1) + wt fin l
                  omega
              exact this _
            · rw [hok, hv, List.all_append]
              show _ = (W0.all _ && (okT need kn (fin - (p.1 + 1)) (ch0 p) && (okT need kn (fin - (p.1 + 1)) (ch1 p) && true)))
              rw [Bool.and_true]
      · have c1 : need p = false := by
          rw [hne]; exact Bool.eq_false_iff.mpr c
        have hv : okT need kn (fin - p.1) p = true := by
          cases fin - p.1 with
          | zero => show (if need p = true then _ else true) = true; rw [if_neg (by rw [c1]; exact Bool.false_ne_true)]
          | succ n => show (if need p = true then _ else true) = true; rw [if_neg (by rw [c1]; exact Bool.false_ne_true)]
        exact stop hv H4 e4 _
    · have hnil : W = [] := by
        have : decide (W = []) = true := by
          cases q : decide (W = []) with
          | true => rfl
          | false => rw [q] at hb1; cases hb1
        exact of_decide_eq_true this
      subst hnil
      have := k H1 (e.trans e1)
      rw [hok] at this
      exact this
end
end FW
namespace FW
open PySem L2 FC Evl
/-- all but memos is as it was -/
def ExE (H H' : Hp) : Prop := ∀ c o, H c = some o → (∀ φ, o ≠ .ext φ) → H' c = some o
theorem Ex.ee {H H' : Hp} (e : Ex H H') : ExE H H' := fun c o h _ => e c o h
theorem ExE.trans {H H1 H2 : Hp} (e : ExE H H1) (e2 : ExE H1 H2) : ExE H H2 := fun c o h n => e2 c o (e c o h n) n
theorem ExE.refl (H : Hp) : ExE H H := fun _ _ h _ => h
theorem PT.me {v : V} {p : Pre} {H H' : Hp} (h : PT v p H) (e : ExE H H') : PT v p H' := let ⟨a, e1, e2⟩ := h; ⟨a, e1, e a _ e2 fun _ z => nomatch z⟩
theorem PtT.me {v : V} {p : List Nat} {H H' : Hp} (h : PtT v p H) (e : ExE H H') : PtT v p H' := let ⟨a, e1, e2⟩ := h; ⟨a, e1, e a _ e2 fun _ z => nomatch z⟩
theorem SpaceAt.me {C : Addr} {d b : Nat} {v : V} {H H' : Hp} (h : SpaceAt C d b v H) (e : ExE H H') : SpaceAt C d b v H' := let ⟨s, a, dx, e1, e2⟩ := h; ⟨s, a, dx, e1, e a _ e2 fun _ z => nomatch z⟩
theorem BoxAt.me {B C : Addr} {d b : Nat} {lo hi : List Nat} {v : V} {H H' : Hp} (h : BoxAt B C d b lo hi v H) (e : ExE H H') : BoxAt B C d b lo hi v H' :=
  let ⟨p, q, a, dx, s, x, y, e1, e2, e3, e4, e5⟩ := h; ⟨p, q, a, dx, s, x, y, e1, e a _ e2 (fun _ z => nomatch z), e3.me e, e4.me e, e5.me e⟩
theorem RowAt.me {row : List Nat} {v : V} {H H' : Hp} (h : RowAt row v H) (e : ExE H H') : RowAt row v H' := let ⟨a, e1, e2⟩ := h; ⟨a, e1, e a _ e2 fun _ z => nomatch z⟩
theorem CloudAt.me {B C : Addr} {d b : Nat} {row : List Nat} {v : V} {H H' : Hp} (h : CloudAt B C d b row v H) (e : ExE H H') : CloudAt B C d b row v H' :=
  let ⟨p, a, dx, s, x, e1, e2, e3, e4⟩ := h; ⟨p, a, dx, s, x, e1, e a _ e2 (fun _ z => nomatch z), e3.me e, e4.me e⟩
/-- what a Telling is of -/
structure TI where
  d : Nat
  b : Nat
  fin : Nat
  row : List Nat
  lo : List Nat
  hi : List Nat
  fs : List Pre
  hs : List Pre
def TI.env (t : TI) : FC.Env := ⟨t.d * t.b, cntN (t.d * t.b) t.row, fun p => decide (0 < roomN t.d t.b t.lo t.hi p), t.fin, memB t.fs, memB t.hs⟩
structure TI.Ok (t : TI) : Prop where
  sp : (t.d, t.b) ∈ spaces
  fit : t.env.Fit
abbrev entH (p : Pre) : List L2.Key × V := (kOf p, V.bl true)
structure Cs where
  Tc : Addr
  Cc : Addr
  Sc : Addr
  Bc : Addr
/-- a Telling, all but its memo -/
def TellS (c : Cs) (t : TI) (a m : Addr) (H : Hp) : Prop := ∃ dx cl sp f bx hd cnt, H a = some (.ins c.Tc dx (k_Telling.zip [cl, sp, .ref f, bx, .int t.fin, .ref m, .ref hd])) ∧ CloudAt c.Cc c.Sc t.d t.b t.row cl H ∧ SpaceAt c.Sc t.d t.b sp H ∧ H f = some (.dT (t.fs.map (entF cnt))) ∧
  BoxAt c.Bc c.Sc t.d t.b t.lo t.hi bx H ∧ H hd = some (.dT (t.hs.map entH))
theorem TellS.me {c : Cs} {t : TI} {a m : Addr} {H H' : Hp} (h : TellS c t a m H) (e : ExE H H') : TellS c t a m H' :=
  let ⟨dx, cl, sp, f, bx, hd, cnt, e1, e2, e3, e4, e5, e6⟩ := h
  ⟨dx, cl, sp, f, bx, hd, cnt, e a _ e1 (fun _ z => nomatch z), e2.me e, e3.me e, e f _ e4 (fun _ z => nomatch z), e5.me e, e hd _ e6 fun _ z => nomatch z⟩
/-- a row: (how many, which) -/
def RowT (r : Row) (v : V) (H : Hp) : Prop := ∃ t rt rs, v = .ref t ∧ H t = some (.tup [.int (r.1 : Int), .ref rt]) ∧ H rt = some (.tup rs) ∧ Items PTi r.2 rs H
theorem RowT.mono {r : Row} {v : V} {H H' : Hp} (h : RowT r v H) (e : Ex H H') : RowT r v H' := let ⟨t, rt, rs, e1, e2, e3, e4⟩ := h; ⟨t, rt, rs, e1, e t _ e2, e rt _ e3, e4.map fun _ _ _ q => PT.mono q e⟩
theorem RowT.ml {r : Row} {v : V} {H H' : Hp} (h : RowT r v H) (e : ExL H H') : RowT r v H' := let ⟨t, rt, rs, e1, e2, e3, e4⟩ := h; ⟨t, rt, rs, e1, e t _ e2 (fun _ z => nomatch z), e rt _ e3 (fun _ z => nomatch z), e4.map fun _ _ _ q => PT.ml q e⟩
theorem RowT.me {r : Row} {v : V} {H H' : Hp} (h : RowT r v H) (e : ExE H H') : RowT r v H' := let ⟨t, rt, rs, e1, e2, e3, e4⟩ := h; ⟨t, rt, rs, e1, e t _ e2 (fun _ z => nomatch z), e rt _ e3 (fun _ z => nomatch z), e4.map fun _ _ _ q => PT.me q e⟩
def RowV (o : Option Row) (v : V) (H : Hp) : Prop := match o with
  | none => v = .non
  | some r => RowT r v H
theorem RowV.mono {o : Option Row} {v : V} {H H' : Hp} (h : RowV o v H) (e : Ex H H') : RowV o v H' := by
  cases o with
  | none => exact h
  | some r => exact RowT.mono h e
theorem RowV.ml {o : Option Row} {v : V} {H H' : Hp} (h : RowV o v H) (e : ExL H H') : RowV o v H' := by
  cases o with
  | none => exact h
  | some r => exact RowT.ml h e
theorem RowV.me {o : Option Row} {v : V} {H H' : Hp} (h : RowV o v H) (e : ExE H H') : RowV o v H' := by
  cases o with
  | none => exact h
  | some r => exact RowT.me h e
def wS : Word → Str
  | .bare => "bare"
  | .full => "full"
  | .lone => "lone"
  | .all => "all"
  | .needed => "needed"
def spTCell (c : Cs) : Sp := fun vs H Q _ => ∃ (a m : Addr) (x : V) (t : TI) (p : Pre), vs = [.ref a, x] ∧ TellS c t a m H ∧ PT x p H ∧ RetV (.bl (decide (t.fin ≤ p.1))) H Q
def spTNeed (c : Cs) : Sp := fun vs H Q _ => ∃ (a m : Addr) (x : V) (t : TI) (p : Pre), vs = [.ref a, x] ∧ TellS c t a m H ∧ PT x p H ∧ p.1 ≤ t.d * t.b ∧ ins p (0, 0) ∧ RetV (.bl (t.env.need p)) H Q
def spTEnds (c : Cs) : Sp := fun vs H Q _ => ∃ (a m : Addr) (x : V) (t : TI) (w : Word) (p : Pre), vs = [.ref a, .str (wS w), x] ∧ TellS c t a m H ∧ PT x p H ∧ p.1 ≤ t.d * t.b ∧ ins p (0, 0) ∧ RetV (.bl (t.env.ends w p)) H Q
def spTLeast : Sp := fun vs H Q _ => ∃ (s : V) (l : Addr) (rows : List (Option Row)) (ys : List V), vs = [s, .ref l] ∧ H l = some (.lst ys) ∧ Items RowV rows ys H ∧ rows.length ≤ 10 ∧ RetP (RowV (least rows)) H Q
section
variable {P : Program} {w : World} {K : PySem.W.Frag} {mg : Str → Option Value} {base : Heap}
abbrev Txt.cs (T : Txt K mg) : Cs := ⟨T.C_Telling, T.C_Cloud, T.C_Space, T.C_Box⟩
theorem ok_Telling_is_cell (T : Txt K mg) : FnOk P w K mg base CX0 1 T.f_Telling_is_cell T.d_Telling_is_cell ["self", "prefix"] (spTCell T.cs) := by
  refine T.F_Telling_is_cell.ok sc_Telling_is_cell (fun vs H Q E h => ?_) (fun cdv A outer s H vs Q E hr h => ?_)
  · obtain ⟨_, _, _, _, _, rfl, _⟩ := h; rfl
  obtain ⟨a, m, x, t, p, rfl, ⟨dx, cl, sp, f, bx, hd, cnt, ha, _⟩, ⟨c, rfl, hc⟩, k⟩ := h
  refine ⟨_, (pss_one (ps_ret (pe_cmpR op_ge (pe_ix ix_tup (pv 1) pe_int (fun _ _ => rfl)) (pe_fld (pv 0) (by rfl)) (nomark _)))), ?_⟩
  refine g_ix 0 rfl hc rfl (r_Telling_fineness T rfl ha rfl ⟨_, _, rfl, rfl, ?_⟩)
  have := k _ (Ex.refl _)
  have e : decide (t.fin ≤ p.1) = decide ((p.1 : Int) ≥ (t.fin : Int)) := decide_eq_decide.mpr ⟨fun z => by omega, fun z => by omega⟩
  rw [e] at this
  exact this
theorem ok_Telling_is_needed (T : Txt K mg) : FnOk P w K mg base CX0 5 T.f_Telling_is_needed T.d_Telling_is_needed ["self", "prefix"] (spTNeed T.cs) := by
  refine T.F_Telling_is_needed.ok sc_Telling_is_needed (fun vs H Q E h => ?_) (fun cdv A outer s H vs Q E hr h => ?_)
  · obtain ⟨_, _, _, _, _, rfl, _⟩ := h; rfl
  obtain ⟨a, m, x, t, p, rfl, ⟨dx, cl, sp, f, bx, hd, cnt, ha, _, _, _, hb, _⟩, hx, hp, hv, k⟩ := h
  obtain ⟨_, _, ba, bdx, _, _, _, rfl, hba, _⟩ := id hb
  refine ⟨_, (pss_one (ps_ret (pe_cmpR op_gt (pe_meth (pe_fld (pv 0) (by rfl)) T.cl_Box T.M_Box_room (ok_Box_room T) (hr.mono (by decide)) T.b_Box_room .nil pass0 (pa_cons (pv 1) pa_nil)) pe_int (nomark _)))), ?_⟩
  refine r_Telling_box T rfl ha rfl ⟨ba, bdx, _, rfl, hba, fn_Box_room _, _, rfl, _, _, t.d, t.b, t.lo, t.hi, p, rfl, hb, hx, hp, hv, fun H1 e1 => ⟨_, _, rfl, rfl, ?_⟩⟩
  have := k _ e1
  have e : t.env.need p = decide ((roomN t.d t.b t.lo t.hi p : Int) > 0) := decide_eq_decide.mpr ⟨fun z => by omega, fun z => by omega⟩
  rw [e] at this
  exact this
theorem ok_Telling_ends (T : Txt K mg) : FnOk P w K mg base CX0 6 T.f_Telling_ends T.d_Telling_ends ["self", "word", "prefix"] (spTEnds T.cs) := by
  refine T.F_Telling_ends.ok sc_Telling_ends (fun vs H Q E h => ?_) (fun cdv A outer s H vs Q E hr h => ?_)
  · obtain ⟨_, _, _, _, _, _, rfl, _⟩ := h; rfl
  obtain ⟨a, m, x, t, wd, p, rfl, ht, hx, hp, hv, k⟩ := h
  have nd := sc_Telling_ends.nd
  obtain ⟨dx, cl, sp, f, bx, hd, cnt, ha, hcl, hsp, _, hb, _⟩ := id ht
  obtain ⟨_, ca, cdx, _, _, rfl, hca, _⟩ := id hcl
  obtain ⟨_, sa, sdx, rfl, hsa⟩ := id hsp
  refine ⟨_, (pss_cons (ps_set (i := 3) nd rfl (Or.inl rfl) (pe_meth (pe_fld (pv 0) (by rfl)) T.cl_Cloud T.M_Cloud_count (ok_Cloud_count T) (hr.mono (by omega)) T.b_Cloud_count .nil pass0 (pa_cons (pv 2) pa_nil)))
      (pss_cons (ps_if (pt_cmpR op_eq (pv 1) pe_str (nomark _)) (pss_one (ps_ret (pe_cmpR op_eq (pv 3) pe_int (nomark _)))) pss_nil)
      (pss_cons (ps_if (pt_cmpR op_eq (pv 1) pe_str (nomark _)) (pss_one (ps_ret (pe_cmpR op_eq (pv 3) (pe_meth (pe_fld (pv 0) (by rfl)) T.cl_Space T.M_Space_size (ok_Space_size T) (hr.mono (by omega)) T.b_Space_size .nil pass0 (pa_cons (pv 2) pa_nil)) (nomark _)))) pss_nil)
      (pss_cons (ps_if (pt_cmpR op_eq (pv 1) pe_str (nomark _)) (pss_one (ps_ret (pe_not (pe_meth (pv 0) T.cl_Telling T.M_Telling_is_needed (ok_Telling_is_needed T) (hr.mono (by omega)) T.b_Telling_is_needed .nil pass0 (pa_cons (pv 2) pa_nil))))) pss_nil)
      (pss_one (ps_ret (pe_and (pe_cmpR op_eq (pv 1) pe_str (nomark _)) (pe_one (pe_cmpR op_eq (pe_ix ix_tup (pv 2) pe_int (fun _ _ => rfl)) (pe_fld (pv 0) (by rfl)) (nomark _)))))))))), ?_⟩
  refine r_Telling_cloud T rfl ha rfl ⟨ca, cdx, _, rfl, hca, fn_Cloud_count _, _, rfl, _, _, t.d, t.b, t.row, p, rfl, hcl, hx, hp, fun H1 e1 => ?_⟩
  obtain ⟨xa, rfl, hxa⟩ := id hx
  cases wd with
  | bare =>
    refine ⟨_, rfl, rfl, true, congrArg V.bl (decide_eq_true rfl), iteT ?_⟩
    refine ⟨_, rfl, rfl, ?_⟩
    have := k _ e1
    have e : t.env.ends .bare p = decide (V.int (cntN (t.d * t.b) t.row p : Int) = V.int 0) := decide_eq_decide.mpr ⟨fun z => by rw [show cntN (t.d * t.b) t.row p = 0 from z]; rfl, fun z => by injection z with z; show cntN (t.d * t.b) t.row p = 0; omega⟩
    rw [e] at this
    exact this
  | full =>
    refine ⟨_, rfl, rfl, false, congrArg V.bl (decide_eq_false (by decide)), iteF ⟨_, rfl, rfl, true, congrArg V.bl (decide_eq_true rfl), iteT ?_⟩⟩
    refine ⟨_, rfl, r_Telling_space T rfl (e1 _ _ ha) rfl ⟨sa, sdx, _, rfl, e1 _ _ hsa, fn_Space_size _, _, rfl, _, _, t.d, t.b, p, rfl, hsp.mono e1, hx.mono e1, hp, fun H2 e2 => ⟨rfl, ?_⟩⟩⟩
    have := k _ (e1.trans e2)
    have e : t.env.ends .full p = decide (V.int (cntN (t.d * t.b) t.row p : Int) = V.int (sz (t.d * t.b) p : Int)) := decide_eq_decide.mpr ⟨fun z => by rw [show cntN (t.d * t.b) t.row p = sz (t.d * t.b) p from z], fun z => by injection z with z; show cntN (t.d * t.b) t.row p = sz (t.d * t.b) p; omega⟩
    rw [e] at this
    exact this
  | needed =>
    refine ⟨_, rfl, rfl, false, congrArg V.bl (decide_eq_false (by decide)), iteF ⟨_, rfl, rfl, false, congrArg V.bl (decide_eq_false (by decide)), iteF ⟨_, rfl, rfl, true, congrArg V.bl (decide_eq_true rfl), iteT ?_⟩⟩⟩
    refine ⟨_, rfl, a, dx, _, rfl, e1 _ _ ha, fn_Telling_is_needed _, _, rfl, a, m, _, t, p, rfl, ht.me (Ex.ee e1), hx.mono e1, hp, hv, fun H2 e2 => ?_⟩
    exact ⟨_, rfl, k _ (e1.trans e2)⟩
  | lone =>
    refine ⟨_, rfl, rfl, false, congrArg V.bl (decide_eq_false (by decide)), iteF ⟨_, rfl, rfl, false, congrArg V.bl (decide_eq_false (by decide)), iteF ⟨_, rfl, rfl, false, congrArg V.bl (decide_eq_false (by decide)), iteF ?_⟩⟩⟩
    refine ⟨_, rfl, rfl, true, congrArg V.bl (decide_eq_true rfl), iteT ?_⟩
    refine g_ix 0 rfl (e1 _ _ hxa) rfl (r_Telling_fineness T rfl (e1 _ _ ha) rfl ⟨rfl, ?_⟩)
    have := k _ e1
    have e : t.env.ends .lone p = decide (V.int (p.1 : Int) = V.int (t.fin : Int)) := decide_eq_decide.mpr ⟨fun z => by rw [show p.1 = t.fin from z], fun z => by injection z with z; show p.1 = t.fin; omega⟩
    rw [e] at this
    exact this
  | all =>
    refine ⟨_, rfl, rfl, false, congrArg V.bl (decide_eq_false (by decide)), iteF ⟨_, rfl, rfl, false, congrArg V.bl (decide_eq_false (by decide)), iteF ⟨_, rfl, rfl, false, congrArg V.bl (decide_eq_false (by decide)), iteF ?_⟩⟩⟩
    refine ⟨_, rfl, rfl, false, congrArg V.bl (decide_eq_false (by decide)), iteF ?_⟩
    have := k _ e1
    have e : V.bl (t.env.ends .all p) = V.bl (decide (V.str (wS .all) = V.str "lone")) := congrArg V.bl (decide_eq_false (by decide)).symm
    rw [e] at this
    exact this
end
end FW
namespace FW
open PySem L2 FC Evl
abbrev RA := Int × PySem.W.Tup (Int × Int)
def pA (p : Pre) : Int × Int := ((p.1 : Int), (p.2 : Int))
def rA (r : Row) : RA := ((r.1 : Int), ⟨r.2.map pA⟩)
theorem pA_inj {p q : Pre} (h : pA p = pA q) : p = q := by
  injection h with h1 h2
  exact Prod.ext (by omega) (by omega)
theorem pA_lt (p q : Pre) : PySem.W.DatumOrd.lt (pA p) (pA q) = FC.ltP p q := by
  show (if (p.1 : Int) = (q.1 : Int) then decide ((p.2 : Int) < (q.2 : Int)) else decide ((p.1 : Int) < (q.1 : Int))) = FC.ltP p q
  unfold FC.ltP
  by_cases c : p.1 = q.1
  · rw [if_pos c, if_pos (by omega)]
    exact decide_eq_decide.mpr ⟨fun z => by omega, fun z => by omega⟩
  · rw [if_neg c, if_neg (by omega)]
    exact decide_eq_decide.mpr ⟨fun z => by omega, fun z => by omega⟩
theorem pAs_lt : ∀ xs ys : List Pre, PySem.W.listLt (xs.map pA) (ys.map pA) = ltRows xs ys
  | [], [] => rfl
  | [], _ :: _ => rfl
  | _ :: _, [] => rfl
  | x :: xs, y :: ys => by
    show (if pA x = pA y then PySem.W.listLt (xs.map pA) (ys.map pA) else PySem.W.DatumOrd.lt (pA x) (pA y)) = (if x = y then ltRows xs ys else FC.ltP x y)
    by_cases c : x = y
    · rw [if_pos c, if_pos (by rw [c]), pAs_lt xs ys]
    · rw [if_neg c, if_neg (fun z => c (pA_inj z)), pA_lt]
theorem pAs_inj {xs ys : List Pre} (h : xs.map pA = ys.map pA) : xs = ys := by
  induction xs generalizing ys with
  | nil => cases ys with
    | nil => rfl
    | cons => simp at h
  | cons x xs ih => cases ys with
    | nil => simp at h
    | cons y ys =>
      rw [List.map_cons, List.map_cons] at h
      injection h with h1 h2
      rw [pA_inj h1, ih h2]
theorem rA_inj {a b : Row} (h : rA a = rA b) : a = b := by
  injection h with h1 h2
  injection h2 with h2
  exact Prod.ext (by omega) (pAs_inj h2)
theorem rA_lt (a b : Row) : PySem.W.DatumOrd.lt (rA a) (rA b) = ltRow a b := by
  show (if (a.1 : Int) = (b.1 : Int) then PySem.W.listLt (a.2.map pA) (b.2.map pA) else decide ((a.1 : Int) < (b.1 : Int))) = ltRow a b
  unfold ltRow
  by_cases c : a.1 = b.1
  · rw [if_pos c, if_pos (by omega), pAs_lt]
  · rw [if_neg c, if_neg (by omega)]
    exact decide_eq_decide.mpr ⟨fun z => by omega, fun z => by omega⟩
theorem min_rA : ∀ (xs : List Row) (x : Row), PySem.W.minOf (rA x) (xs.map rA) = rA (minRow x xs)
  | [], _ => rfl
  | y :: xs, x => by
    have e : PySem.W.minOf (rA x) ((y :: xs).map rA) = PySem.W.minOf (if PySem.W.DatumOrd.lt (rA y) (rA x) = true then rA y else rA x) (xs.map rA) := rfl
    have e2 : minRow x (y :: xs) = minRow (if ltRow y x = true then y else x) xs := rfl
    rw [e, e2, rA_lt, ← min_rA xs]
    by_cases c : ltRow y x = true
    · rw [if_pos c, if_pos c]
    · rw [if_neg c, if_neg c]
theorem toD_rA (r : Row) : PySem.W.Datum.toD (rA r) = .tuple [.int (r.1 : Int), .tuple (r.2.map dP)] := by
  show PyData.tuple [.int (r.1 : Int), .tuple ((r.2.map pA).map PySem.W.Datum.toD)] = _
  rw [List.map_map]; rfl
theorem RowT.dp {K : PySem.W.Frag} {r : Row} {v : V} {H : Hp} (h : RowT r v H) : Dp K H v (PySem.W.Datum.toD (rA r)) := by
  obtain ⟨t, rt, rs, rfl, ht, hrt, its⟩ := h
  rw [toD_rA]
  exact .tup (SqT.of ht) (.cons (.int _) (.cons (.tup (SqT.of hrt) (items_dp its)) .nil))
theorem rows_dp {K : PySem.W.Frag} {H : Hp} : ∀ {W : List Row} {ys : List V}, Items RowT W ys H → DpAll K H ys ((W.map rA).map PySem.W.Datum.toD)
  | [], [], _ => .nil
  | [], _ :: _, h => by have := h.1; simp at this
  | _ :: _, [], h => by have := h.1; simp at this
  | p :: W, y :: ys, h => .cons (RowT.dp (h.2 0 p y rfl rfl)) (rows_dp ⟨Nat.succ.inj h.1, fun i q v hq hv => h.2 (i + 1) q v (by simpa using hq) (by simpa using hv)⟩)
theorem dps_lay (W : List Pre) : PyData.canLayAll0 (W.map dP) = true ∧ PyData.depthAll (W.map dP) ≤ 1 := by
  induction W with
  | nil => exact ⟨rfl, Nat.zero_le _⟩
  | cons x W ih =>
    refine ⟨?_, ?_⟩
    · rw [List.map_cons, PyData.canLayAll0, ih.1]; rfl
    · rw [List.map_cons, PyData.depthAll]
      exact Nat.max_le.mpr ⟨Nat.le_refl _, ih.2⟩
theorem rows_shaped (W : List Row) : SeqAt.shaped (.list ((W.map rA).map PySem.W.Datum.toD)) = true := by
  have h : PyData.canLayAll0 ((W.map rA).map PySem.W.Datum.toD) = true ∧ PyData.depthAll ((W.map rA).map PySem.W.Datum.toD) ≤ 3 := by
    induction W with
    | nil => exact ⟨rfl, Nat.zero_le _⟩
    | cons x W ih =>
      obtain ⟨l1, l2⟩ := dps_lay x.2
      rw [List.map_cons, List.map_cons, PyData.canLayAll0, PyData.depthAll, ih.1, toD_rA]
      refine ⟨?_, Nat.max_le.mpr ⟨?_, ih.2⟩⟩
      · simp [PyData.canLay0, PyData.canLayAll0, l1]
      · simp only [PyData.depth, PyData.depthAll]
        omega
  unfold SeqAt.shaped
  rw [PyData.canLay0, PyData.depth, h.1, Bool.true_and]
  exact decide_eq_true (by omega)
theorem rows_nil (W : List PyData) : PyData.eqv (.list W) (.list []) = decide (W = []) := by
  cases W with
  | nil => rfl
  | cons x W => simp [PyData.eqv, PyData.eqvAll]
section
variable {P : Program} {w : World} {K : PySem.W.Frag} {mg : Str → Option Value} {base : Heap}
theorem ok_Telling_least (T : Txt K mg) : FnOk P w K mg base CX0 1 T.f_Telling_least T.d_Telling_least ["self", "rows"] spTLeast := by
  refine T.F_Telling_least.ok sc_Telling_least (fun vs H Q E h => ?_) (fun cdv A outer s H vs Q E hr h => ?_)
  · obtain ⟨_, _, _, _, rfl, _⟩ := h; rfl
  obtain ⟨sv, l, rows, ys, rfl, hl, its, hlen, k⟩ := h
  have nd := sc_Telling_least.nd
  refine ⟨_, (pss_cons (ps_setLc (i := 2) (own := [("row", 3)]) (g := gName 3) (by rfl) nd rfl rfl (sw_true rfl rfl rfl (by decide +kernel)) (pi_list (pv 1)) (blkOk_by (own := [("row", 3)]) (N := N_Telling_least) (sc := defScope s_Telling_least) (by decide +kernel)) (fun _ _ _ _ _ => (pg_name (i := 3) nd rfl (Or.inl rfl))) (fun _ _ _ _ _ => (pts_one (pt_cmpR op_notN (pv 3) pe_non (nomark _)))) (fun _ _ _ _ _ => (pv 3)))
      (pss_one (ps_ret (pe_ifExp (pt_cmpR (op_neD hr.units) (pv 2) (pe_lst pa_nil) (nomark _)) (pe_callB (cr_minD (α := Int × PySem.W.Tup (Int × Int)) rfl hr.units (by decide)) (by rfl) T.z_min (by decide +kernel) (pa_cons (pv 2) pa_nil)) pe_non)))), ?_⟩
  refine ⟨_, rfl, l, rfl, ⟨_, SqL.of hl⟩, fun Dl hD => lc_it walk_list (fun i H1 => Ex H H1 ∧ ∃ zs, H1 Dl = some (.lst zs) ∧ Items RowT ((rows.take i).filterMap id) zs H1) ⟨Ex.new hD, [], upd_same, Items.nil⟩ (fun i H1 _ h => SqL.of (h.1 _ _ hl)) ?_ ?_⟩
  · rintro i x H1 H2 hi ⟨e, zs, hz, hzi⟩ ⟨rfl, hx⟩
    refine ⟨rfl, ?_⟩
    obtain ⟨o, ho, rv⟩ := its.at hx
    have rv := RowV.mono rv e
    have tk : (rows.take (i + 1)).filterMap id = (rows.take i).filterMap id ++ (match o with | none => [] | some r => [r]) := by
      rw [take_snoc ho, List.filterMap_append]
      cases o <;> rfl
    cases o with
    | none =>
      have ex : x = .non := rv
      refine ⟨_, rfl, rfl, false, congrArg V.bl (by rw [decide_eq_true ex]; rfl), iteF ⟨e, zs, hz, ?_⟩⟩
      rw [tk]
      show Items RowT ((rows.take i).filterMap id ++ []) zs _
      rw [List.append_nil]
      exact hzi
    | some r =>
      have rv : RowT r x H2 := rv
      have ex : x ≠ .non := fun z => by
        obtain ⟨_, _, _, e1, _⟩ := rv
        rw [z] at e1; cases e1
      have hle : zs.length ≤ 40000 := by
        rw [hzi.1]
        have := List.length_filterMap_le id (rows.take i)
        rw [List.length_take] at this
        omega
      refine ⟨_, rfl, rfl, true, congrArg V.bl (by rw [decide_eq_false ex]; rfl), iteT ⟨_, rfl, zs, hz, sz_lt (by omega), fun c o hc => ?_, zs ++ [x], upd_same, ?_⟩⟩
      · rw [upd_ne (ne_of_none hc hD)]
        exact e _ _ hc
      · rw [tk]
        have ml := ExL.list (ws := zs ++ [x]) hz
        exact Items.snoc (hzi.map fun _ _ _ q => RowT.ml q ml) (rv.ml ml)
  · rintro H1 ⟨e, zs, hz, hzi⟩
    rw [its.1, List.take_length] at hzi
    have k := fun v H2 (e2 : Ex H1 H2) => k v H2 (e.trans e2)
    unfold least at k
    have hfl : (rows.filterMap id).length ≤ 10 := Nat.le_trans (List.length_filterMap_le _ _) hlen
    generalize rows.filterMap id = fr at hzi k hfl
    refine ⟨_, rfl, Nat.zero_le _, fun q hq => ?_⟩
    have e2 : Ex H1 (upd H1 q (.lst [])) := Ex.new hq
    have hq2 : upd H1 q (.lst []) q = some (.lst []) := upd_same
    generalize upd H1 q (.lst []) = H2 at e2 hq2
    have hz2 := e2 _ _ hz
    have hzi2 : Items RowT fr zs H2 := hzi.map fun _ _ _ r => RowT.mono r e2
    refine ⟨_, _, .lst (SqL.of hz2) (rows_dp hzi2), .lst (SqL.of hq2) .nil, rows_shaped fr, rfl, _, rfl, ?_⟩
    rw [rows_nil]
    cases fr with
    | nil => exact k .non H2 e2 rfl
    | cons x xs =>
      refine ⟨_, rfl, Dl, zs, rA x, xs.map rA, rfl, SqL.of hz2, rows_dp hzi2, fun i u hu hm => k u H2 e2 ?_⟩
      rw [min_rA] at hm
      have hm : ((x :: xs).map rA)[i]? = some (rA (minRow x xs)) := hm
      rw [List.getElem?_map] at hm
      obtain ⟨y, hy, ey⟩ := Option.map_eq_some_iff.mp hm
      have := hzi2.2 i y u hy hu
      rw [rA_inj ey] at this
      exact this
end
end FW
namespace FW
open PySem L2 FC Evl
def MemoV (P : Program) (w : World) (t : TI) (m : Addr) (H : Hp) : Prop := ∃ ms : Memo, H m = some (MemoO P w m ms) ∧ MemoKeys H ms ∧ (ms.map (·.1)).Nodup ∧ ∀ x ∈ ms, ∃ wd p, x.1 = (wS wd, p) ∧ p ∈ pres 6 ∧ RowV (t.env.way wd p) (oV x.2.2) H
theorem keyT_ml {H H' : Hp} {b : Addr} {k : MK} (h : KeyT H b k) (e : ExL H H') : KeyT H' b k := let ⟨q, h1, h2⟩ := h; ⟨q, e b _ h1 (fun _ z => nomatch z), e q _ h2 fun _ z => nomatch z⟩
theorem keyT_me {H H' : Hp} {b : Addr} {k : MK} (h : KeyT H b k) (e : ExE H H') : KeyT H' b k := let ⟨q, h1, h2⟩ := h; ⟨q, e b _ h1 (fun _ z => nomatch z), e q _ h2 fun _ z => nomatch z⟩
theorem MemoV.ml {P : Program} {w : World} {t : TI} {m : Addr} {H H' : Hp} (h : MemoV P w t m H) (e : ExL H H') : MemoV P w t m H' :=
  let ⟨ms, h1, h2, h3, h4⟩ := h; ⟨ms, e m _ h1 (fun _ z => nomatch z), fun x hx => keyT_ml (h2 x hx) e, h3, fun x hx => let ⟨wd, p, q1, q2, q3⟩ := h4 x hx; ⟨wd, p, q1, q2, q3.ml e⟩⟩
theorem MemoV.mono {P : Program} {w : World} {t : TI} {m : Addr} {H H' : Hp} (h : MemoV P w t m H) (e : Ex H H') : MemoV P w t m H' := h.ml (Ex.l e)
def RetM (P : Program) (w : World) (t : TI) (m : Addr) (R : V → Hp → Prop) (H : Hp) (Q : VK) : Prop := ∀ v H2, ExE H H2 → MemoV P w t m H2 → R v H2 → Q v H2
def WordsT (w0 w1 : Word) (v : V) (H : Hp) : Prop := ∃ b, v = .ref b ∧ H b = some (.tup [.str (wS w0), .str (wS w1)])
theorem WordsT.me {w0 w1 : Word} {v : V} {H H' : Hp} (h : WordsT w0 w1 v H) (e : ExE H H') : WordsT w0 w1 v H' := let ⟨b, e1, e2⟩ := h; ⟨b, e1, e b _ e2 fun _ z => nomatch z⟩
section
variable (P : Program) (w : World) (c : Cs)
def spWay (n : Nat) : Sp := fun vs H Q _ => ∃ (a m : Addr) (x : V) (t : TI) (wd : Word) (p : Pre), vs = [.ref a, .str (wS wd), x] ∧ TellS c t a m H ∧ t.Ok ∧ MemoV P w t m H ∧ PT x p H ∧ p.1 ≤ t.d * t.b ∧ ins p (0, 0) ∧ t.d * t.b - p.1 < n ∧ RetM P w t m (RowV (t.env.way wd p)) H Q
def spBoth (n : Nat) : Sp := fun vs H Q _ => ∃ (a m : Addr) (wv x : V) (t : TI) (w0 w1 : Word) (p : Pre), vs = [.ref a, wv, x] ∧ WordsT w0 w1 wv H ∧ TellS c t a m H ∧ t.Ok ∧ MemoV P w t m H ∧ PT x p H ∧ p.1 < t.d * t.b ∧ ins p (0, 0) ∧ t.d * t.b - p.1 ≤ n ∧ RetM P w t m (RowV (Env.both t.env.way w0 w1 p)) H Q
def spWithin (n : Nat) : Sp := fun vs H Q _ => ∃ (a m : Addr) (x : V) (t : TI) (p : Pre), vs = [.ref a, x] ∧ TellS c t a m H ∧ t.Ok ∧ MemoV P w t m H ∧ PT x p H ∧ p.1 ≤ t.d * t.b ∧ ins p (0, 0) ∧ t.d * t.b - p.1 ≤ n ∧ RetM P w t m (RowV (t.env.within t.env.way p)) H Q
def spTold (n : Nat) : Sp := fun vs H Q _ => ∃ (a m : Addr) (x : V) (t : TI) (p : Pre), vs = [.ref a, x] ∧ TellS c t a m H ∧ t.Ok ∧ MemoV P w t m H ∧ PT x p H ∧ p.1 ≤ t.d * t.b ∧ ins p (0, 0) ∧ t.d * t.b - p.1 ≤ n ∧ RetM P w t m (RowV (t.env.told t.env.way p)) H Q
def spCellWay (n : Nat) : Sp := fun vs H Q _ => ∃ (a m : Addr) (x : V) (t : TI) (wd : Word) (p : Pre), vs = [.ref a, .str (wS wd), x] ∧ TellS c t a m H ∧ t.Ok ∧ MemoV P w t m H ∧ PT x p H ∧ p.1 ≤ t.d * t.b ∧ ins p (0, 0) ∧ t.d * t.b - p.1 ≤ n ∧ RetM P w t m (RowV (t.env.cellWay t.env.way wd p)) H Q
def spWayOf (n : Nat) : Sp := fun vs H Q _ => ∃ (a m : Addr) (x : V) (t : TI) (wd : Word) (p : Pre), vs = [.ref a, .str (wS wd), x] ∧ TellS c t a m H ∧ t.Ok ∧ MemoV P w t m H ∧ PT x p H ∧ p.1 ≤ t.d * t.b ∧ ins p (0, 0) ∧ t.d * t.b - p.1 ≤ n ∧ RetM P w t m (RowV (t.env.wayOf t.env.way wd p)) H Q
end
theorem cat_go {K : PySem.W.Frag} {a b : Addr} {xs ys : List V} {H : Hp} {Q : VK} (ha : H a = some (.tup xs)) (hb : H b = some (.tup ys)) (hz : xs.length + ys.length ≤ 100000) (q : ∀ p H2, Ex H H2 → H2 p = some (.tup (xs ++ ys)) → Q (.ref p) H2) : rCatA K (.ref a) (.ref b) H Q := by
  refine ⟨a, b, xs, ys, rfl, rfl, SqT.of ha, SqT.of hb, ?_, fun h => ?_, fun h1 h2 => ?_, fun _ _ p hp => q p _ (Ex.new hp) upd_same⟩
  · have : sizeLine = 16777216 := sizeLine_eq
    omega
  · subst h; exact q b H (Ex.refl _) hb
  · subst h2; exact q a H (Ex.refl _) (by rw [List.append_nil]; exact ha)
theorem Items.append {α : Type} {R : α → V → Hp → Prop} {ys zs : List α} {vs us : List V} {H : Hp} (h : Items R ys vs H) (g : Items R zs us H) : Items R (ys ++ zs) (vs ++ us) H := by
  refine ⟨by rw [List.length_append, List.length_append, h.1, g.1], fun i z u hz hu => ?_⟩
  by_cases c : i < ys.length
  · rw [List.getElem?_append_left c] at hz
    rw [List.getElem?_append_left (by rw [h.1]; exact c)] at hu
    exact h.2 i z u hz hu
  · rw [List.getElem?_append_right (by omega)] at hz
    rw [List.getElem?_append_right (by rw [h.1]; omega), h.1] at hu
    exact g.2 _ z u hz hu
theorem way_len {t : TI} (ok : t.Ok) {p : Pre} (hp : p.1 ≤ t.d * t.b) (hv : ins p (0, 0)) {wd : Word} {a : Row} (h : t.env.way wd p = some a) : a.2.length ≤ 128 := by
  have h1 := Env.lb_way ok.fit p hp hv wd a h
  have hd := (sp_le ok.sp).2.2.2.2
  have h2 : 2 ^ (t.env.D - p.1 + 1) ≤ 2 ^ 7 := Nat.pow_le_pow_right (by decide) (by show t.d * t.b - p.1 + 1 ≤ 7; omega)
  omega
section
variable {P : Program} {w : World} {K : PySem.W.Frag} {mg : Str → Option Value} {base : Heap}
theorem ok_Telling_both (T : Txt K mg) (n : Nat) {lv : Nat} (hlv : 8 ≤ lv) (ih : FnOk P w K mg base CX0 lv T.f_Telling_way T.d_Telling_way ["self", "word", "prefix"] (spWay P w T.cs n)) :
    FnOk P w K mg base CX0 (lv + 1) T.f_Telling_both T.d_Telling_both ["self", "words", "prefix"] (spBoth P w T.cs n) := by
  refine T.F_Telling_both.ok sc_Telling_both (fun vs H Q E h => ?_) (fun cdv A outer s H vs Q E hr h => ?_)
  · obtain ⟨_, _, _, _, _, _, _, _, rfl, _⟩ := h; rfl
  obtain ⟨a, m, wv, x, t, w0, w1, p, rfl, hw, ht, ok, hm, hx, hp, hv, hn, k⟩ := h
  have nd := sc_Telling_both.nd
  refine ⟨_, (pss_cons (ps_asg (pe_call (ok_halves_of T) (hr.mono (by omega)) (by rfl) T.mg_halves_of T.F_halves_of.kp T.b_halves_of .nil pass0 (pa_cons (pv 2) pa_nil)) (pg_tup (by rfl) (pgs_cons (pg_name (i := 3) nd rfl (Or.inl rfl)) (pgs_cons (pg_name (i := 4) nd rfl (Or.inl rfl)) pgs_nil))))
      (pss_cons (ps_par (i := 5) (j := 6) (by rfl) nd rfl rfl (by decide) rfl rfl (pa_cons (pe_meth (pv 0) T.cl_Telling T.M_Telling_way ih (hr.mono (by omega)) T.b_Telling_way .nil pass0 (pa_cons (pe_ix ix_tup (pv 1) pe_int (fun _ _ => rfl)) (pa_cons (pv 3) pa_nil))) (pa_cons (pe_meth (pv 0) T.cl_Telling T.M_Telling_way ih (hr.mono (by omega)) T.b_Telling_way .nil pass0 (pa_cons (pe_ix ix_tup (pv 1) pe_int (fun _ _ => rfl)) (pa_cons (pv 4) pa_nil))) pa_nil)) (by rfl))
      (pss_cons (ps_if (PW.pt (pw_or (pt_cmpR op_isN (pv 5) pe_non (nomark _)) (pw_or1 (pt_cmpR op_isN (pv 6) pe_non (nomark _))))) (pss_one (ps_ret pe_non)) pss_nil)
      (pss_one (ps_ret (pe_tup (pa_cons (pe_op op_add (pe_ix ix_tup (pv 5) pe_int (fun _ _ => rfl)) (pe_ix ix_tup (pv 6) pe_int (fun _ _ => rfl))) (pa_cons (pe_op op_catA (pe_ix ix_tup (pv 5) pe_int (fun _ _ => rfl)) (pe_ix ix_tup (pv 6) pe_int (fun _ _ => rfl))) pa_nil)))))))), ?_⟩
  refine ⟨_, rfl, _, p, rfl, hx, ?_⟩
  rintro _ H1 e1 ⟨tt, x0, x1, rfl, htt, p0, p1⟩
  refine ⟨tt, _, rfl, SqT.of htt, rfl, ⟨_, _, rfl, ⟨_, _, rfl, rfl, ?_⟩⟩⟩
  obtain ⟨dx, cl, sp, f, bx, hd, cnt, ha, _⟩ := id (ht.me (Ex.ee e1))
  obtain ⟨wb, rfl, hwb⟩ := id (hw.me (Ex.ee e1))
  refine ⟨_, rfl, a, dx, _, rfl, ha, fn_Telling_way _, g_ix 0 rfl hwb rfl ⟨_, rfl, a, m, x0, t, w0, ch0 p, rfl, ht.me (Ex.ee e1), ok, hm.mono e1, p0, hp, ins_trans (ins_ch0 p) hv, ?_, fun v1 H2 e2 hm2 r1 => ?_⟩⟩
  · show t.d * t.b - (p.1 + 1) < n
    omega
  have e12 := ExE.trans (Ex.ee e1) e2
  refine ⟨_, rfl, a, dx, _, rfl, e2 _ _ ha (fun _ z => nomatch z), fn_Telling_way _, g_ix 1 rfl (e2 _ _ hwb fun _ z => nomatch z) rfl ⟨_, rfl, a, m, x1, t, w1, ch1 p, rfl, ht.me e12, ok, hm2, p1.me e2, hp, ins_trans (ins_ch1 p) hv, ?_, fun v2 H3 e3 hm3 r2 => ?_⟩⟩
  · show t.d * t.b - (p.1 + 1) < n
    omega
  have e13 := ExE.trans e12 e3
  have r1 := r1.me e3
  have k := fun v H4 (e4 : Ex H3 H4) => k v H4 (ExE.trans e13 (Ex.ee e4)) (hm3.mono e4)
  unfold Env.both at k
  refine ⟨_, _, rfl, ?_⟩
  cases q1 : t.env.way w0 (ch0 p) with
  | none =>
    rw [q1] at r1 k
    have r1 : v1 = .non := r1
    subst r1
    exact ⟨_, rfl, rfl, true, congrArg V.bl (decide_eq_true rfl), iteT (iteT (k .non H3 (Ex.refl _) rfl))⟩
  | some x =>
    rw [q1] at r1 k
    have l1 := way_len ok (p := ch0 p) hp (ins_trans (ins_ch0 p) hv) q1
    obtain ⟨ta, ra, rs, rfl, hta, hra, ita⟩ := (show RowT x v1 H3 from r1)
    refine ⟨_, rfl, rfl, false, congrArg V.bl (decide_eq_false fun z => nomatch z), iteF ?_⟩
    cases q2 : t.env.way w1 (ch1 p) with
    | none =>
      rw [q2] at r2 k
      have r2 : v2 = .non := r2
      subst r2
      exact ⟨_, rfl, rfl, true, congrArg V.bl (decide_eq_true rfl), iteT (k .non H3 (Ex.refl _) rfl)⟩
    | some y =>
      rw [q2] at r2 k
      have l2 := way_len ok (p := ch1 p) hp (ins_trans (ins_ch1 p) hv) q2
      obtain ⟨tb, rb, ss, rfl, htb, hrb, itb⟩ := (show RowT y v2 H3 from r2)
      refine ⟨_, rfl, rfl, false, congrArg V.bl (decide_eq_false fun z => nomatch z), iteF ?_⟩
      refine g_ix 0 rfl hta rfl (g_ix 0 rfl htb rfl ⟨_, _, rfl, rfl, g_ix 1 rfl hta rfl (g_ix 1 rfl htb rfl (cat_go hra hrb (by rw [ita.1, itb.1]; omega) fun rp H4 e4 hrp => ⟨two_line, fun tp htp => ?_⟩))⟩)
      have e5 := Ex.new (o := .tup [.int ((x.1 : Int) + (y.1 : Int)), .ref rp]) htp
      exact k _ _ (e4.trans e5) ⟨tp, rp, _, rfl, upd_same, e5 _ _ hrp, (ita.append itb).map fun _ _ _ r => PT.mono r (e4.trans e5)⟩
end
end FW
namespace FW
open PySem L2 FC Evl
def wl5 : List (Word × Word) := [(.bare, .bare), (.full, .full), (.lone, .all), (.all, .lone), (.needed, .needed)]
abbrev WTi : Word × Word → V → Hp → Prop := fun ww v H => WordsT ww.1 ww.2 v H
theorem WordsT.mono {w0 w1 : Word} {v : V} {H H' : Hp} (h : WordsT w0 w1 v H) (e : Ex H H') : WordsT w0 w1 v H' := h.me (Ex.ee e)
theorem inV_two (c z : Nat) : inV (.int (c : Int)) [.int 0, .int (z : Int)] = (decide (c = 0) || decide (c = z)) := by
  show ((0 : Int) == (c : Int) || ((z : Int) == (c : Int) || false)) = _
  rw [Bool.or_false]
  congr 1
  · rw [Bool.eq_iff_iff, beq_iff_eq, decide_eq_true_eq]; omega
  · rw [Bool.eq_iff_iff, beq_iff_eq, decide_eq_true_eq]; omega
section
variable {P : Program} {w : World} {K : PySem.W.Frag} {mg : Str → Option Value} {base : Heap}
theorem ok_Telling_within (T : Txt K mg) (n : Nat) {lv : Nat} (hlv : 8 ≤ lv) (ih : FnOk P w K mg base CX0 lv T.f_Telling_way T.d_Telling_way ["self", "word", "prefix"] (spWay P w T.cs n)) :
    FnOk P w K mg base CX0 (lv + 2) T.f_Telling_within T.d_Telling_within ["self", "prefix"] (spWithin P w T.cs n) := by
  refine T.F_Telling_within.ok sc_Telling_within (fun vs H Q E h => ?_) (fun cdv A outer s H vs Q E hr h => ?_)
  · obtain ⟨_, _, _, _, _, rfl, _⟩ := h; rfl
  obtain ⟨a, m, x, t, p, rfl, ht, ok, hm, hx, hp, hv, hn, k⟩ := h
  have nd := sc_Telling_within.nd
  obtain ⟨dx, cl, sp, f, bx, hd, cnt, ha, hcl, hsp, _, hb, _⟩ := id ht
  obtain ⟨_, ca, cdx, _, _, rfl, hca, _⟩ := id hcl
  obtain ⟨_, sa, sdx, rfl, hsa⟩ := id hsp
  refine ⟨_, (pss_cons (ps_set (i := 2) nd rfl (Or.inl rfl) (pe_meth (pe_fld (pv 0) (by rfl)) T.cl_Cloud T.M_Cloud_count (ok_Cloud_count T) (hr.mono (by omega)) T.b_Cloud_count .nil pass0 (pa_cons (pv 1) pa_nil)))
      (pss_cons (ps_if (PW.pt (pw_or (pt_val (pe_meth (pv 0) T.cl_Telling T.M_Telling_is_cell (ok_Telling_is_cell T) (hr.mono (by omega)) T.b_Telling_is_cell .nil pass0 (pa_cons (pv 1) pa_nil))) (pw_or (pt_cmpR op_in_seq (pv 2) (pe_tup (pa_cons pe_int (pa_cons (pe_meth (pe_fld (pv 0) (by rfl)) T.cl_Space T.M_Space_size (ok_Space_size T) (hr.mono (by omega)) T.b_Space_size .nil pass0 (pa_cons (pv 1) pa_nil)) pa_nil))) (by rfl)) (pw_or1 (pt_not (pt_val (pe_meth (pv 0) T.cl_Telling T.M_Telling_is_needed (ok_Telling_is_needed T) (hr.mono (by omega)) T.b_Telling_is_needed .nil pass0 (pa_cons (pv 1) pa_nil)))))))) (pss_one (ps_ret (pe_tup (pa_cons pe_int (pa_cons (pe_tup pa_nil) pa_nil))))) pss_nil)
      (pss_cons (ps_set (i := 3) nd rfl (Or.inl rfl) (pe_lst (pa_cons (pe_tup (pa_cons pe_str (pa_cons pe_str pa_nil))) (pa_cons (pe_tup (pa_cons pe_str (pa_cons pe_str pa_nil))) (pa_cons (pe_tup (pa_cons pe_str (pa_cons pe_str pa_nil))) (pa_cons (pe_tup (pa_cons pe_str (pa_cons pe_str pa_nil))) (pa_cons (pe_tup (pa_cons pe_str (pa_cons pe_str pa_nil))) pa_nil)))))))
      (pss_one (ps_ret (pe_meth (pv 0) T.cl_Telling T.M_Telling_least (ok_Telling_least T) (hr.mono (by omega)) T.b_Telling_least .nil pass0 (pa_cons (pe_lc (own := [("words", 4)]) (g := gName 4) (tt := tYes) (by rfl) nd (pi_list (pv 3)) (blkOk_by (own := [("words", 4)]) (N := N_Telling_within) (sc := defScope s_Telling_within) (by decide +kernel)) (fun _ _ _ _ _ => (pg_name (i := 4) nd rfl (Or.inl rfl))) (fun _ _ _ _ _ => pts_nil) (fun _ _ _ _ _ => (pe_meth (pv 0) T.cl_Telling T.M_Telling_both (ok_Telling_both T n hlv ih) (hr.mono (by omega)) T.b_Telling_both .nil pass0 (pa_cons (pv 4) (pa_cons (pv 1) pa_nil))))) pa_nil))))))), ?_⟩
  refine r_Telling_cloud T rfl ha rfl ⟨ca, cdx, _, rfl, hca, fn_Cloud_count _, _, rfl, _, _, t.d, t.b, t.row, p, rfl, hcl, hx, hp, fun H1 e1 => ?_⟩
  have zero : ∀ H2, Ex H H2 → t.env.within t.env.way p = some (0, []) → ∀ a1, H2 a1 = none → ∀ b1, upd H2 a1 (.tup []) b1 = none → Q (.ref b1) (upd (upd H2 a1 (.tup [])) b1 (.tup [.int 0, .ref a1])) := fun H2 e2 hz a1 h1 b1 h2 => by
    have e3 : Ex H2 (upd (upd H2 a1 (.tup [])) b1 (.tup [.int 0, .ref a1])) := (Ex.new h1).trans (Ex.new h2)
    refine k _ _ (Ex.ee (e2.trans e3)) (hm.mono (e2.trans e3)) ?_
    rw [hz]
    exact ⟨b1, a1, [], rfl, upd_same, (Ex.new h2) _ _ upd_same, Items.nil⟩
  refine ⟨_, rfl, a, dx, _, rfl, e1 _ _ ha, fn_Telling_is_cell _, _, rfl, a, m, _, t, p, rfl, ht.me (Ex.ee e1), hx.mono e1, fun H2 e2 => ⟨_, rfl, ?_⟩⟩
  have e12 := e1.trans e2
  refine ite2 (fun c1 => ?_) (fun c1 => ?_)
  · refine iteT ⟨Nat.zero_le _, fun a1 h1 => ⟨two_line, fun b1 h2 => zero H2 e12 ?_ a1 h1 b1 h2⟩⟩
    exact Env.within_cell (of_decide_eq_true c1)
  refine ⟨_, rfl, r_Telling_space T rfl (e12 _ _ ha) rfl ⟨sa, sdx, _, rfl, e12 _ _ hsa, fn_Space_size _, _, rfl, _, _, t.d, t.b, p, rfl, hsp.mono e12, hx.mono e12, hp, fun H3 e3 => ⟨two_line, fun tt htt => ?_⟩⟩⟩
  have e4 : Ex H3 (upd H3 tt (.tup [.int 0, .int (sz (t.d * t.b) p : Int)])) := Ex.new htt
  refine ⟨tt, _, rfl, .inr (SqT.of upd_same), rfl, rfl, _, rfl, ?_⟩
  generalize upd H3 tt (.tup [.int 0, .int (sz (t.d * t.b) p : Int)]) = H4 at e4
  have e14 := (e12.trans e3).trans e4
  rw [if_neg Bool.false_ne_true, inV_two]
  have hcnt : t.env.cnt p = cntN (t.d * t.b) t.row p := rfl
  have wi : ∀ {c : Bool}, (decide (t.env.fin ≤ p.1) || (decide (t.env.cnt p = 0) || decide (t.env.cnt p = t.env.sz p)) || !t.env.need p) = c → t.env.within t.env.way p = if c = true then some (0, []) else least (wl5.map fun ww => Env.both t.env.way ww.1 ww.2 p) := fun h => by subst h; rfl
  have c1' : decide (t.env.fin ≤ p.1) = false := Bool.eq_false_iff.mpr c1
  refine ite2 (fun c2 => ?_) (fun c2 => ?_)
  · refine iteT ⟨Nat.zero_le _, fun a1 h1 => ⟨two_line, fun b1 h2 => zero H4 e14 ?_ a1 h1 b1 h2⟩⟩
    have c2 : (decide (t.env.cnt p = 0) || decide (t.env.cnt p = t.env.sz p)) = true := c2
    rw [wi (c := true) (by rw [c2]; simp)]
    rfl
  refine ⟨_, rfl, a, dx, _, rfl, e14 _ _ ha, fn_Telling_is_needed _, _, rfl, a, m, _, t, p, rfl, ht.me (Ex.ee e14), hx.mono e14, hp, hv, fun H5 e5 => ⟨_, rfl, ?_⟩⟩
  have e15 := e14.trans e5
  refine ite2 (fun c3 => ?_) (fun c3 => ?_)
  · refine ⟨Nat.zero_le _, fun a1 h1 => ⟨two_line, fun b1 h2 => zero H5 e15 ?_ a1 h1 b1 h2⟩⟩
    rw [wi (c := true) (by rw [c3]; simp)]
    rfl
  have wi : t.env.within t.env.way p = least (wl5.map fun ww => Env.both t.env.way ww.1 ww.2 p) := by
    have c2' : (decide (t.env.cnt p = 0) || decide (t.env.cnt p = t.env.sz p)) = false := Bool.eq_false_iff.mpr c2
    have c3' : (!t.env.need p) = false := Bool.eq_false_iff.mpr c3
    rw [wi (c := false) (by rw [c1', c2', c3']; rfl), if_neg Bool.false_ne_true]
  have hlt : p.1 < t.d * t.b := by
    have h1 : ¬ t.fin ≤ p.1 := of_decide_eq_false c1'
    have h2 : t.fin ≤ t.d * t.b := ok.fit.hfin
    omega
  rw [wi] at k
  clear wi zero
  refine ⟨two_line, fun t1 g1 => ?_⟩
  have f1 : Ex H5 (upd H5 t1 (.tup [.str (Str.ofString "bare"), .str (Str.ofString "bare")])) := Ex.new g1
  have u1 : WordsT .bare .bare (.ref t1) (upd H5 t1 (.tup [.str (Str.ofString "bare"), .str (Str.ofString "bare")])) := ⟨t1, rfl, upd_same⟩
  generalize upd H5 t1 (.tup [.str (Str.ofString "bare"), .str (Str.ofString "bare")]) = J1 at f1 u1 ⊢
  refine ⟨two_line, fun t2 g2 => ?_⟩
  have f2 : Ex J1 (upd J1 t2 (.tup [.str (Str.ofString "full"), .str (Str.ofString "full")])) := Ex.new g2
  have u2 : WordsT .full .full (.ref t2) (upd J1 t2 (.tup [.str (Str.ofString "full"), .str (Str.ofString "full")])) := ⟨t2, rfl, upd_same⟩
  generalize upd J1 t2 (.tup [.str (Str.ofString "full"), .str (Str.ofString "full")]) = J2 at f2 u2 ⊢
  refine ⟨two_line, fun t3 g3 => ?_⟩
  have f3 : Ex J2 (upd J2 t3 (.tup [.str (Str.ofString "lone"), .str (Str.ofString "all")])) := Ex.new g3
  have u3 : WordsT .lone .all (.ref t3) (upd J2 t3 (.tup [.str (Str.ofString "lone"), .str (Str.ofString "all")])) := ⟨t3, rfl, upd_same⟩
  generalize upd J2 t3 (.tup [.str (Str.ofString "lone"), .str (Str.ofString "all")]) = J3 at f3 u3 ⊢
  refine ⟨two_line, fun t4 g4 => ?_⟩
  have f4 : Ex J3 (upd J3 t4 (.tup [.str (Str.ofString "all"), .str (Str.ofString "lone")])) := Ex.new g4
  have u4 : WordsT .all .lone (.ref t4) (upd J3 t4 (.tup [.str (Str.ofString "all"), .str (Str.ofString "lone")])) := ⟨t4, rfl, upd_same⟩
  generalize upd J3 t4 (.tup [.str (Str.ofString "all"), .str (Str.ofString "lone")]) = J4 at f4 u4 ⊢
  refine ⟨two_line, fun t5 g5 => ?_⟩
  have f5 : Ex J4 (upd J4 t5 (.tup [.str (Str.ofString "needed"), .str (Str.ofString "needed")])) := Ex.new g5
  have u5 : WordsT .needed .needed (.ref t5) (upd J4 t5 (.tup [.str (Str.ofString "needed"), .str (Str.ofString "needed")])) := ⟨t5, rfl, upd_same⟩
  generalize upd J4 t5 (.tup [.str (Str.ofString "needed"), .str (Str.ofString "needed")]) = J5 at f5 u5 ⊢
  refine ⟨(by show 5 ≤ sizeLine; decide), fun la gla => ?_⟩
  have f6 : Ex J5 (upd J5 la (.lst [.ref t1, .ref t2, .ref t3, .ref t4, .ref t5])) := Ex.new gla
  have hla : upd J5 la (.lst [.ref t1, .ref t2, .ref t3, .ref t4, .ref t5]) la = some (.lst [.ref t1, .ref t2, .ref t3, .ref t4, .ref t5]) := upd_same
  generalize upd J5 la (.lst [.ref t1, .ref t2, .ref t3, .ref t4, .ref t5]) = H6 at f6 hla ⊢
  have e6 : Ex H5 H6 := ((((f1.trans f2).trans f3).trans f4).trans f5).trans f6
  have i1 : Items WTi [(.bare, .bare)] [.ref t1] H6 := Items.snoc (R := WTi) (ys := []) (y := (.bare, .bare)) Items.nil (u1.mono ((((f2.trans f3).trans f4).trans f5).trans f6))
  have i2 : Items WTi [(.bare, .bare), (.full, .full)] [.ref t1, .ref t2] H6 := Items.snoc (R := WTi) (y := (.full, .full)) i1 (u2.mono (((f3.trans f4).trans f5).trans f6))
  have i3 : Items WTi [(.bare, .bare), (.full, .full), (.lone, .all)] [.ref t1, .ref t2, .ref t3] H6 := Items.snoc (R := WTi) (y := (.lone, .all)) i2 (u3.mono ((f4.trans f5).trans f6))
  have i4 : Items WTi [(.bare, .bare), (.full, .full), (.lone, .all), (.all, .lone)] [.ref t1, .ref t2, .ref t3, .ref t4] H6 := Items.snoc (R := WTi) (y := (.all, .lone)) i3 (u4.mono (f5.trans f6))
  have itw : Items WTi wl5 [.ref t1, .ref t2, .ref t3, .ref t4, .ref t5] H6 := Items.snoc (R := WTi) (y := (.needed, .needed)) i4 (u5.mono f6)
  have e16 := e15.trans e6
  have hm6 := hm.mono e16
  refine ⟨_, rfl, a, dx, _, rfl, e16 _ _ ha, fn_Telling_least _, ?_⟩
  refine ⟨_, rfl, la, rfl, ⟨_, SqL.of hla⟩, fun Dl hD => lc_it walk_list (fun i H7 => ExE H6 H7 ∧ MemoV P w t m H7 ∧ ∃ zs, H7 Dl = some (.lst zs) ∧ Items RowV ((wl5.take i).map fun ww => Env.both t.env.way ww.1 ww.2 p) zs H7) ⟨Ex.ee (Ex.new hD), hm6.mono (Ex.new hD), [], upd_same, Items.nil⟩ (fun i H7 _ h => SqL.of (h.1 _ _ hla fun _ z => nomatch z)) ?_ ?_⟩
  · rintro i y H7 H8 hi ⟨e7, hm7, zs, hz, hzi⟩ ⟨rfl, hy⟩
    obtain ⟨ww, hww, hwt⟩ := itw.at hy
    have e17 := ExE.trans (Ex.ee e16) e7
    refine ⟨rfl, ?_⟩
    refine ⟨_, rfl, a, dx, _, rfl, e7 _ _ (e16 _ _ ha) (fun _ z => nomatch z), fn_Telling_both _, _, rfl, _, rfl, a, m, _, _, t, ww.1, ww.2, p, rfl, WordsT.me hwt e7, ht.me e17, ok, hm7, hx.me e17, hlt, hv, hn, fun v H9 e9 hm9 rv => ?_⟩
    have hz9 := e9 _ _ hz fun _ z => nomatch z
    have ml := ExL.list (ws := zs ++ [v]) hz9
    have hle : zs.length ≤ 5 := by
      rw [hzi.1, List.length_map, List.length_take]
      exact Nat.min_le_right _ _
    refine ⟨zs, hz9, sz_lt (by omega), fun c o hc n => ?_, hm9.ml ml, zs ++ [v], upd_same, ?_⟩
    · rw [upd_ne (ne_of_none hc hD)]
      exact e9 _ _ (e7 _ _ hc n) n
    · rw [take_snoc hww, List.map_append]
      exact Items.snoc (hzi.map fun _ _ _ q => RowV.ml (RowV.me q e9) ml) (RowV.ml rv ml)
  · rintro H7 ⟨e7, hm7, zs, hz, hzi⟩
    refine ⟨_, Dl, _, zs, rfl, hz, hzi, (by show 5 ≤ 10; decide), fun v H8 e8 rv => ?_⟩
    exact k v H8 (ExE.trans (ExE.trans (Ex.ee e16) e7) (Ex.ee e8)) (hm7.mono e8) rv
end
end FW
namespace FW
open PySem L2 FC Evl
theorem within_len {t : TI} (ok : t.Ok) {p : Pre} (hp : p.1 ≤ t.d * t.b) (hv : ins p (0, 0)) {a : Row} (h : t.env.within t.env.way p = some a) : a.2.length ≤ 128 := by
  have lw := fun (q : Pre) (h1 : q.1 ≤ t.d * t.b) (h2 : ins q (0, 0)) => Env.lb_way ok.fit q h1 h2
  have h1 := Env.lb_within ok.fit (p := p) (fun z w => lw (ch0 p) z (ins_trans (ins_ch0 p) hv) w) (fun z w => lw (ch1 p) z (ins_trans (ins_ch1 p) hv) w) a h
  have hd := (sp_le ok.sp).2.2.2.2
  have h2 : 2 ^ (t.env.D - p.1 + 1) ≤ 2 ^ 7 := Nat.pow_le_pow_right (by decide) (by show t.d * t.b - p.1 + 1 ≤ 7; omega)
  omega
section
variable {P : Program} {w : World} {K : PySem.W.Frag} {mg : Str → Option Value} {base : Heap}
theorem ok_Telling_told (T : Txt K mg) (n : Nat) {lv : Nat} (hlv : 8 ≤ lv) (ih : FnOk P w K mg base CX0 lv T.f_Telling_way T.d_Telling_way ["self", "word", "prefix"] (spWay P w T.cs n)) :
    FnOk P w K mg base CX0 (lv + 3) T.f_Telling_told T.d_Telling_told ["self", "prefix"] (spTold P w T.cs n) := by
  refine T.F_Telling_told.ok sc_Telling_told (fun vs H Q E h => ?_) (fun cdv A outer s H vs Q E hr h => ?_)
  · obtain ⟨_, _, _, _, _, rfl, _⟩ := h; rfl
  obtain ⟨a, m, x, t, p, rfl, ht, ok, hm, hx, hp, hv, hn, k⟩ := h
  have nd := sc_Telling_told.nd
  obtain ⟨dx, cl, sp, f, bx, hd, cnt, ha, _⟩ := id ht
  refine ⟨_, (pss_cons (ps_asg (pe_meth (pv 0) T.cl_Telling T.M_Telling_within (ok_Telling_within T n hlv ih) (hr.mono (by omega)) T.b_Telling_within .nil pass0 (pa_cons (pv 1) pa_nil)) (pg_tup (by rfl) (pgs_cons (pg_name (i := 2) nd rfl (Or.inl rfl)) (pgs_cons (pg_name (i := 3) nd rfl (Or.inl rfl)) pgs_nil))))
      (pss_one (ps_ret (pe_ifExp (pt_cmp (pc_din (hu1 hr) (pv 1) (pe_fld (pv 0) (by rfl)))) (pe_tup (pa_cons (pv 2) (pa_cons (pv 3) pa_nil))) (pe_tup (pa_cons (pe_op op_add (pv 2) pe_int) (pa_cons (pe_tup (pa_cons (pv 1) (StX.pa_star (pv 3) pa_nil))) pa_nil))))))), ?_⟩
  refine ⟨_, rfl, a, dx, _, rfl, ha, fn_Telling_within _, _, rfl, a, m, _, t, p, rfl, ht, ok, hm, hx, hp, hv, hn, fun v H1 e1 hm1 rv => ?_⟩
  obtain ⟨r, hr'⟩ := Env.within_some ok.fit (p := p) hp hv
  have hl := within_len ok hp hv hr'
  unfold Env.told at k
  rw [hr'] at rv k
  obtain ⟨tt, rt, rs, rfl, htt, hrt, its⟩ := (show RowT r v H1 from rv)
  refine ⟨tt, _, rfl, SqT.of htt, rfl, ⟨_, _, rfl, ⟨_, _, rfl, rfl, ?_⟩⟩⟩
  obtain ⟨dx, cl, sp, f, bx, hd, cnt, ha, _, _, hf, _⟩ := id (ht.me e1)
  obtain ⟨xa, rfl, hxa⟩ := id (hx.me e1)
  refine ⟨_, rfl, r_Telling_facts T rfl ha rfl ⟨f, _, rfl, .t (k := kOf p) hf hxa, _, rfl, ?_⟩⟩
  rw [valV_ent]
  have hF : t.env.F0 p = decide (p ∈ t.fs) := rfl
  by_cases c : p ∈ t.fs
  · rw [if_pos c]
    refine iteT ⟨_, rfl, _, rfl, two_line, fun b hb => ?_⟩
    have e2 := Ex.new (o := .tup [.int (r.1 : Int), .ref rt]) hb
    refine k _ _ (ExE.trans e1 (Ex.ee e2)) (hm1.mono e2) ?_
    show RowT (if t.env.F0 p = true then r else (r.1 + 1, p :: r.2)) _ _
    rw [hF, if_pos (decide_eq_true c)]
    exact ⟨b, rt, rs, rfl, upd_same, e2 _ _ hrt, its.map fun _ _ _ q => PT.mono q e2⟩
  · rw [if_neg c]
    refine iteF ⟨_, rfl, _, _, rfl, rfl, ?_⟩
    refine ⟨_, rfl, _, rfl, rt, rs, rfl, .inl (SqT.of hrt), ?_⟩
    have hz : (V.ref xa :: (rs ++ [])).length ≤ sizeLine := by
      have : sizeLine = 16777216 := sizeLine_eq
      rw [List.length_cons, List.append_nil, its.1, this]; omega
    refine ⟨hz, fun q hq => ⟨two_line, fun b hb => ?_⟩⟩
    have e2 := Ex.new (o := .tup (V.ref xa :: (rs ++ []))) hq
    have e3 := Ex.new (o := .tup [.int ((r.1 : Int) + 1), .ref q]) hb
    have e23 := e2.trans e3
    refine k _ _ (ExE.trans e1 (Ex.ee e23)) (hm1.mono e23) ?_
    show RowT (if t.env.F0 p = true then r else (r.1 + 1, p :: r.2)) _ _
    rw [hF, if_neg (by rw [decide_eq_false c]; exact Bool.false_ne_true)]
    refine ⟨b, q, _, rfl, upd_same, e3 _ _ upd_same, ?_⟩
    rw [List.append_nil]
    have i1 : Items PTi [p] [.ref xa] (upd (upd H1 q (.tup (V.ref xa :: (rs ++ [])))) b (.tup [.int ((r.1 : Int) + 1), .ref q])) := Items.snoc (R := PTi) (ys := []) Items.nil (PT.mono ⟨xa, rfl, hxa⟩ e23)
    have := i1.append (its.map fun _ _ _ r => PT.mono r e23)
    rw [List.append_nil] at this
    exact this
end
end FW
namespace FW
open PySem L2 FC Evl
theorem seq_join {t u : TS} {D : Ends} {σ : St} {H : Hp} (M : St → Hp → Prop) (first : (∀ σ' H', M σ' H' → u D σ' H') → tSeq t u D σ H) (tail : ∀ σ' H', M σ' H' → u D σ' H') : tSeq t u D σ H := first tail
theorem gn {i : Nat} {v : V} {σ : St} {H : Hp} {Q : St → Hp → Prop} (h : Q (σ.set i (some v)) H) : gName i v σ H Q := h
theorem valV_entH {fs : List Pre} {p : Pre} : valV (fs.map entH) (kOf p) = if p ∈ fs then some (.bl true) else none := by
  induction fs with
  | nil => rfl
  | cons x fs ih =>
    by_cases c : x = p
    · subst c
      rw [if_pos List.mem_cons_self]
      exact valV_pos rfl
    · have c' : ¬ (entH x).1 = kOf p := fun z => c (kOf_inj z)
      rw [List.map_cons, valV_neg c', ih]
      have : p ∈ x :: fs ↔ p ∈ fs := by
        rw [List.mem_cons]
        exact ⟨fun z => z.resolve_left fun z => c z.symm, .inr⟩
      by_cases m : p ∈ fs
      · rw [if_pos m, if_pos (this.mpr m)]
      · rw [if_neg m, if_neg (fun z => m (this.mp z))]
theorem isSome_if {c : Prop} [Decidable c] {α : Type} {x : α} : (if c then some x else none).isSome = decide c := by
  by_cases h : c
  · rw [if_pos h, decide_eq_true h]; rfl
  · rw [if_neg h, decide_eq_false h]; rfl
section
variable {P : Program} {w : World} {K : PySem.W.Frag} {mg : Str → Option Value} {base : Heap}
theorem ok_Telling_cell_way (T : Txt K mg) (n : Nat) {lv : Nat} (hlv : 8 ≤ lv) (ih : FnOk P w K mg base CX0 lv T.f_Telling_way T.d_Telling_way ["self", "word", "prefix"] (spWay P w T.cs n)) :
    FnOk P w K mg base CX0 (lv + 4) T.f_Telling_cell_way T.d_Telling_cell_way ["self", "word", "prefix"] (spCellWay P w T.cs n) := by
  refine T.F_Telling_cell_way.ok sc_Telling_cell_way (fun vs H Q E h => ?_) (fun cdv A outer s H vs Q E hr h => ?_)
  · obtain ⟨_, _, _, _, _, _, rfl, _⟩ := h; rfl
  obtain ⟨a, m, x, t, wd, p, rfl, ht, ok, hm, hx, hp, hv, hn, k⟩ := h
  have nd := sc_Telling_cell_way.nd
  obtain ⟨xa, rfl, hxa⟩ := id hx
  refine ⟨_, (pss_cons (ps_set (i := 3) nd rfl (Or.inl rfl) (pe_lst pa_nil))
      (pss_cons (ps_if (PW.pt (pw_or (pt_cmp (pc_din (hu1 hr) (pv 2) (pe_fld (pv 0) (by rfl)))) (pw_or1 (pt_cmpR op_eq (pe_ix ix_tup (pv 2) pe_int (fun _ _ => rfl)) (pe_fld (pv 0) (by rfl)) (nomark _))))) (pss_one (ps_expr (pe_bm PySem.F.plainAttrs_list PySem.F.slot_list_append PySem.F.type_list_append mt_append (pv 3) (pa_cons (pe_meth (pv 0) T.cl_Telling T.M_Telling_told (ok_Telling_told T n hlv ih) (hr.mono (by omega)) T.b_Telling_told .nil pass0 (pa_cons (pv 2) pa_nil)) pa_nil)))) pss_nil)
      (pss_cons (ps_if (pt_cmp (pc_din (hu1 hr) (pv 2) (pe_fld (pv 0) (by rfl)))) (pss_one (ps_expr (pe_bm PySem.F.plainAttrs_list PySem.F.slot_list_append PySem.F.type_list_append mt_append (pv 3) (pa_cons (pe_meth (pv 0) T.cl_Telling T.M_Telling_both (ok_Telling_both T n hlv ih) (hr.mono (by omega)) T.b_Telling_both .nil pass0 (pa_cons (pe_tup (pa_cons (pv 1) (pa_cons (pv 1) pa_nil))) (pa_cons (pv 2) pa_nil))) pa_nil)))) pss_nil)
      (pss_one (ps_ret (pe_meth (pv 0) T.cl_Telling T.M_Telling_least (ok_Telling_least T) (hr.mono (by omega)) T.b_Telling_least .nil pass0 (pa_cons (pv 3) pa_nil))))))), ?_⟩
  refine ⟨Nat.zero_le _, fun la hla => ?_⟩
  have e1 : ExE H (upd H la (.lst [])) := Ex.ee (Ex.new hla)
  have hm1 : MemoV P w t m (upd H la (.lst [])) := hm.mono (Ex.new hla)
  have hl1 : upd H la (.lst []) la = some (.lst []) := upd_same
  generalize upd H la (.lst []) = H1 at e1 hm1 hl1 ⊢
  let r1 : List (Option Row) := if (t.env.F0 p || decide (p.1 = t.env.fin)) = true then [t.env.told t.env.way p] else []
  let r2 : List (Option Row) := if t.env.hold p = true then [Env.both t.env.way wd wd p] else []
  refine gn ?_
  dsimp only
  refine seq_join (t := tIfS _ _ _) (fun σ' H' => σ' = [some (.ref a), some (.str (wS wd)), some (.ref xa), some (.ref la)] ∧ ExE H H' ∧ MemoV P w t m H' ∧ ∃ zs, H' la = some (.lst zs) ∧ Items RowV r1 zs H') (fun kk => ?_) ?_
  · obtain ⟨dx, cl, sp, f, bx, hd, cnt, ha, _, _, hf, _⟩ := id (ht.me e1)
    have hxa1 := e1 _ _ hxa fun _ z => nomatch z
    have yes : (t.env.F0 p || decide (p.1 = t.env.fin)) = true → ∀ v H2, ExE H1 H2 → MemoV P w t m H2 → RowV (t.env.told t.env.way p) v H2 → H2 la = some (.lst []) ∧ ([some (V.ref a), some (V.str (wS wd)), some (.ref xa), some (.ref la)] : St) = [some (.ref a), some (.str (wS wd)), some (.ref xa), some (.ref la)] ∧ ExE H (upd H2 la (.lst ([] ++ [v]))) ∧ MemoV P w t m (upd H2 la (.lst ([] ++ [v]))) ∧ ∃ zs, upd H2 la (.lst ([] ++ [v])) la = some (.lst zs) ∧ Items RowV r1 zs (upd H2 la (.lst ([] ++ [v]))) := fun hb v H2 e2 hm2 rv => by
      have hl2 := e2 _ _ hl1 fun _ z => nomatch z
      have ml := ExL.list (ws := [] ++ [v]) hl2
      refine ⟨hl2, rfl, fun c o hc n => ?_, hm2.ml ml, [] ++ [v], upd_same, ?_⟩
      · rw [upd_ne (ne_of_none hc hla)]
        exact e2 _ _ (e1 _ _ hc n) n
      · show Items RowV (if (t.env.F0 p || decide (p.1 = t.env.fin)) = true then _ else _) _ _
        rw [if_pos hb]
        exact Items.snoc (R := RowV) (ys := []) Items.nil (RowV.ml rv ml)
    refine ⟨_, rfl, r_Telling_facts T rfl ha rfl ⟨f, _, rfl, .t (k := kOf p) hf hxa1, _, rfl, ?_⟩⟩
    rw [valV_ent, isSome_if]
    refine ite2 (fun c1 => ?_) (fun c1 => ?_)
    · have hb : (t.env.F0 p || decide (p.1 = t.env.fin)) = true := by
        rw [show t.env.F0 p = true from c1]; rfl
      refine iteT ⟨_, rfl, .inl ⟨rfl, _, SqL.of hl1⟩, _, rfl, a, dx, _, rfl, ha, fn_Telling_told _, _, rfl, a, m, _, t, p, rfl, ht.me e1, ok, hm1, hx.me e1, hp, hv, hn, fun v H2 e2 hm2 rv => ?_⟩
      obtain ⟨y1, y2⟩ := yes hb v H2 e2 hm2 rv
      exact ⟨la, [], v, rfl, rfl, y1, sz_lt (Nat.zero_lt_succ _), kk _ _ y2⟩
    · refine g_ix 0 rfl hxa1 rfl (r_Telling_fineness T rfl ha rfl ⟨rfl, _, rfl, ?_⟩)
      refine ite2 (fun c2 => ?_) (fun c2 => ?_)
      · have hb : (t.env.F0 p || decide (p.1 = t.env.fin)) = true := by
          have c2 : p.1 = t.fin := by
            have z := of_decide_eq_true c2
            injection z with z
            omega
          rw [show decide (p.1 = t.env.fin) = true from decide_eq_true c2, Bool.or_true]
        refine ⟨_, rfl, .inl ⟨rfl, _, SqL.of hl1⟩, _, rfl, a, dx, _, rfl, ha, fn_Telling_told _, _, rfl, a, m, _, t, p, rfl, ht.me e1, ok, hm1, hx.me e1, hp, hv, hn, fun v H2 e2 hm2 rv => ?_⟩
        obtain ⟨y1, y2⟩ := yes hb v H2 e2 hm2 rv
        exact ⟨la, [], v, rfl, rfl, y1, sz_lt (Nat.zero_lt_succ _), kk _ _ y2⟩
      · refine kk _ _ ⟨rfl, e1, hm1, [], hl1, ?_⟩
        have hb : (t.env.F0 p || decide (p.1 = t.env.fin)) = false := by
          rw [show t.env.F0 p = false from Bool.eq_false_iff.mpr c1, show decide (p.1 = t.env.fin) = false from decide_eq_false fun z => c2 (decide_eq_true (by rw [show p.1 = t.fin from z]))]
          rfl
        show Items RowV (if (t.env.F0 p || decide (p.1 = t.env.fin)) = true then _ else _) _ _
        rw [if_neg (by rw [hb]; exact Bool.false_ne_true)]
        exact Items.nil
  · rintro σ' H2 ⟨rfl, e2, hm2, zs, hl2, hzi⟩
    have hzl : zs.length ≤ 1 := by
      rw [hzi.1]
      show (if (t.env.F0 p || decide (p.1 = t.env.fin)) = true then [t.env.told t.env.way p] else []).length ≤ 1
      split <;> simp
    refine seq_join (t := tIfS _ _ _) (fun σ' H' => σ' = [some (.ref a), some (.str (wS wd)), some (.ref xa), some (.ref la)] ∧ ExE H H' ∧ MemoV P w t m H' ∧ ∃ zs, H' la = some (.lst zs) ∧ Items RowV (r1 ++ r2) zs H') (fun kk => ?_) ?_
    · obtain ⟨dx, cl, sp, f, bx, hd, cnt, ha, _, _, _, _, hhd⟩ := id (ht.me e2)
      have hxa2 := e2 _ _ hxa fun _ z => nomatch z
      refine ⟨_, rfl, r_Telling_holders T rfl ha rfl ⟨hd, _, rfl, .t (k := kOf p) hhd hxa2, _, rfl, ?_⟩⟩
      rw [valV_entH, isSome_if]
      refine ite2 (fun c => ?_) (fun c => ?_)
      · have hb : t.env.hold p = true := c
        have hlt : p.1 < t.d * t.b := by
          obtain ⟨r, hr, hi, hne⟩ := (ok.fit.hhold p hp hv).mp hb
          exact Nat.lt_of_lt_of_le (ins_lt hi hne) (ok.fit.hF0 r hr).1
        refine ⟨_, rfl, .inl ⟨rfl, _, SqL.of hl2⟩, _, rfl, a, dx, _, rfl, ha, fn_Telling_both _, _, rfl, _, rfl, two_line, fun b hb' => ?_⟩
        have e3 : Ex H2 (upd H2 b (.tup [.str (wS wd), .str (wS wd)])) := Ex.new hb'
        have hw : WordsT wd wd (.ref b) (upd H2 b (.tup [.str (wS wd), .str (wS wd)])) := ⟨b, rfl, upd_same⟩
        generalize upd H2 b (.tup [.str (wS wd), .str (wS wd)]) = H3 at e3 hw ⊢
        have e13 := ExE.trans e2 (Ex.ee e3)
        refine ⟨_, rfl, a, m, _, _, t, wd, wd, p, rfl, hw, ht.me e13, ok, hm2.mono e3, hx.me e13, hlt, hv, hn, fun v H4 e4 hm4 rv => ?_⟩
        have hl4 := e4 _ _ (e3 _ _ hl2) fun _ z => nomatch z
        have ml := ExL.list (ws := zs ++ [v]) hl4
        refine ⟨la, zs, v, rfl, rfl, hl4, sz_lt (by omega), kk _ _ ⟨rfl, fun c o hc n => ?_, hm4.ml ml, zs ++ [v], upd_same, ?_⟩⟩
        · rw [upd_ne (ne_of_none hc hla)]
          exact e4 _ _ (e13 _ _ hc n) n
        · show Items RowV (r1 ++ (if t.env.hold p = true then _ else _)) _ _
          rw [if_pos hb]
          exact Items.snoc (hzi.map fun _ _ _ q => RowV.ml (RowV.me (RowV.mono q e3) e4) ml) (RowV.ml rv ml)
      · refine kk _ _ ⟨rfl, e2, hm2, zs, hl2, ?_⟩
        show Items RowV (r1 ++ (if t.env.hold p = true then _ else _)) _ _
        rw [if_neg (show ¬ t.env.hold p = true from c), List.append_nil]
        exact hzi
    · rintro σ' H3 ⟨rfl, e3, hm3, zs', hl3, hzi3⟩
      obtain ⟨dx, cl, sp, f, bx, hd, cnt, ha, _⟩ := id (ht.me e3)
      refine ⟨_, rfl, a, dx, _, rfl, ha, fn_Telling_least _, _, rfl, _, la, _, zs', rfl, hl3, hzi3, ?_, fun v H4 e4 rv => k v H4 (ExE.trans e3 (Ex.ee e4)) (hm3.mono e4) rv⟩
      show ((if (t.env.F0 p || decide (p.1 = t.env.fin)) = true then [t.env.told t.env.way p] else []) ++ (if t.env.hold p = true then [Env.both t.env.way wd wd p] else [])).length ≤ 10
      split <;> split <;> simp
end
end FW
namespace FW
open PySem L2 FC Evl
theorem wS_inj {a b : Word} (h : wS a = wS b) : a = b := by
  cases a <;> cases b <;> first | rfl | exact absurd h (by decide)
theorem wS_dec (a b : Word) : decide (V.str (wS a) = V.str (wS b)) = decide (a = b) :=
  decide_eq_decide.mpr ⟨fun h => wS_inj (by injection h), fun h => by rw [h]⟩
section
variable {P : Program} {w : World} {K : PySem.W.Frag} {mg : Str → Option Value} {base : Heap}
theorem ok_Telling_way_of (T : Txt K mg) (n : Nat) {lv : Nat} (hlv : 8 ≤ lv) (ih : FnOk P w K mg base CX0 lv T.f_Telling_way T.d_Telling_way ["self", "word", "prefix"] (spWay P w T.cs n)) :
    FnOk P w K mg base CX0 (lv + 5) T.f_Telling_way_of T.d_Telling_way_of ["self", "word", "prefix"] (spWayOf P w T.cs n) := by
  refine T.F_Telling_way_of.ok sc_Telling_way_of (fun vs H Q E h => ?_) (fun cdv A outer s H vs Q E hr h => ?_)
  · obtain ⟨_, _, _, _, _, _, rfl, _⟩ := h; rfl
  obtain ⟨a, m, x, t, wd, p, rfl, ht, ok, hm, hx, hp, hv, hn, k⟩ := h
  have nd := sc_Telling_way_of.nd
  obtain ⟨xa, rfl, hxa⟩ := id hx
  obtain ⟨dx, cl, sp, f, bx, hd, cnt, ha, _⟩ := id ht
  refine ⟨_, (pss_cons (ps_if (pt_val (pe_meth (pv 0) T.cl_Telling T.M_Telling_ends (ok_Telling_ends T) (hr.mono (by omega)) T.b_Telling_ends .nil pass0 (pa_cons (pv 1) (pa_cons (pv 2) pa_nil)))) (pss_one (ps_ret (pe_tup (pa_cons pe_int (pa_cons (pe_tup pa_nil) pa_nil))))) pss_nil)
      (pss_cons (ps_if (pt_val (pe_meth (pv 0) T.cl_Telling T.M_Telling_is_cell (ok_Telling_is_cell T) (hr.mono (by omega)) T.b_Telling_is_cell .nil pass0 (pa_cons (pv 2) pa_nil))) (pss_one (ps_ret (pe_meth (pv 0) T.cl_Telling T.M_Telling_cell_way (ok_Telling_cell_way T n hlv ih) (hr.mono (by omega)) T.b_Telling_cell_way .nil pass0 (pa_cons (pe_ifExp (pt_cmpR op_eq (pv 1) pe_str (nomark _)) pe_str (pv 1)) (pa_cons (pv 2) pa_nil))))) pss_nil)
      (pss_cons (ps_if (pt_cmpR op_eq (pv 1) pe_str (nomark _)) (pss_one (ps_ret (pe_meth (pv 0) T.cl_Telling T.M_Telling_least (ok_Telling_least T) (hr.mono (by omega)) T.b_Telling_least .nil pass0 (pa_cons (pe_lst (pa_cons (pe_meth (pv 0) T.cl_Telling T.M_Telling_both (ok_Telling_both T n hlv ih) (hr.mono (by omega)) T.b_Telling_both .nil pass0 (pa_cons (pe_tup (pa_cons pe_str (pa_cons pe_str pa_nil))) (pa_cons (pv 2) pa_nil))) (pa_cons (pe_meth (pv 0) T.cl_Telling T.M_Telling_both (ok_Telling_both T n hlv ih) (hr.mono (by omega)) T.b_Telling_both .nil pass0 (pa_cons (pe_tup (pa_cons pe_str (pa_cons pe_str pa_nil))) (pa_cons (pv 2) pa_nil))) pa_nil))) pa_nil)))) pss_nil)
      (pss_one (ps_ret (pe_meth (pv 0) T.cl_Telling T.M_Telling_least (ok_Telling_least T) (hr.mono (by omega)) T.b_Telling_least .nil pass0 (pa_cons (pe_lst (pa_cons (pe_meth (pv 0) T.cl_Telling T.M_Telling_told (ok_Telling_told T n hlv ih) (hr.mono (by omega)) T.b_Telling_told .nil pass0 (pa_cons (pv 2) pa_nil)) (pa_cons (pe_meth (pv 0) T.cl_Telling T.M_Telling_both (ok_Telling_both T n hlv ih) (hr.mono (by omega)) T.b_Telling_both .nil pass0 (pa_cons (pe_tup (pa_cons (pv 1) (pa_cons (pv 1) pa_nil))) (pa_cons (pv 2) pa_nil))) pa_nil))) pa_nil))))))), ?_⟩
  unfold Env.wayOf at k
  refine ⟨_, rfl, a, dx, _, rfl, ha, fn_Telling_ends _, _, rfl, _, rfl, a, m, _, t, wd, p, rfl, ht, hx, hp, hv, fun H1 e1 => ⟨_, rfl, ?_⟩⟩
  refine ite2 (fun c1 => ?_) (fun c1 => ?_)
  · rw [if_pos c1] at k
    refine ⟨Nat.zero_le _, fun a1 h1 => ⟨two_line, fun b1 h2 => ?_⟩⟩
    have e3 : Ex H1 (upd (upd H1 a1 (.tup [])) b1 (.tup [.int 0, .ref a1])) := (Ex.new h1).trans (Ex.new h2)
    exact k _ _ (Ex.ee (e1.trans e3)) (hm.mono (e1.trans e3)) ⟨b1, a1, [], rfl, upd_same, (Ex.new h2) _ _ upd_same, Items.nil⟩
  rw [if_neg c1] at k
  refine ⟨_, rfl, a, dx, _, rfl, e1 _ _ ha, fn_Telling_is_cell _, _, rfl, a, m, _, t, p, rfl, ht.me (Ex.ee e1), hx.mono e1, fun H2 e2 => ⟨_, rfl, ?_⟩⟩
  have e12 := e1.trans e2
  have hxa2 := e12 _ _ hxa
  refine ite2 (fun c2 => ?_) (fun c2 => ?_)
  · have c2 : t.env.fin ≤ p.1 := of_decide_eq_true c2
    rw [if_pos c2] at k
    refine ⟨_, rfl, a, dx, _, rfl, e12 _ _ ha, fn_Telling_cell_way _, ?_⟩
    have go : ∀ u, u = V.str (wS (Env.cellWord wd)) → ∀ E', spCellWay P w T.cs n [.ref a, u, .ref xa] H2 Q E' := fun u hu E' => by
      subst hu
      exact ⟨a, m, _, t, Env.cellWord wd, p, rfl, ht.me (Ex.ee e12), ok, hm.mono e12, hx.mono e12, hp, hv, hn, fun v H3 e3 hm3 rv => k v H3 (ExE.trans (Ex.ee e12) e3) hm3 rv⟩
    refine ⟨_, rfl, rfl, _, congrArg V.bl (wS_dec wd .needed), ite2 (fun c => ?_) (fun c => ?_)⟩
    · refine ⟨_, rfl, go _ ?_ E0⟩
      unfold Env.cellWord
      rw [if_pos (of_decide_eq_true c)]
      rfl
    · refine ⟨_, rfl, _, rfl, go _ ?_ E0⟩
      unfold Env.cellWord
      rw [if_neg (fun z => c (decide_eq_true z))]
  rw [if_neg (show ¬ t.env.fin ≤ p.1 from fun z => c2 (decide_eq_true z))] at k
  have hlt : p.1 < t.d * t.b := by
    have h1 : ¬ t.fin ≤ p.1 := fun z => c2 (decide_eq_true z)
    have h2 : t.fin ≤ t.d * t.b := ok.fit.hfin
    omega
  have bothGo : ∀ (w0 w1 : Word) (H3 : Hp), ExE H H3 → MemoV P w t m H3 → ∀ b, H3 b = none → ∀ Q', (∀ v H4, ExE H3 H4 → MemoV P w t m H4 → RowV (Env.both t.env.way w0 w1 p) v H4 → Q' v H4) → ∀ E', spBoth P w T.cs n [.ref a, .ref b, .ref xa] (upd H3 b (.tup [.str (wS w0), .str (wS w1)])) Q' E' := fun w0 w1 H3 e3 hm3 b hb Q' k' E' => by
    have e4 : Ex H3 (upd H3 b (.tup [.str (wS w0), .str (wS w1)])) := Ex.new hb
    have e14 := ExE.trans e3 (Ex.ee e4)
    exact ⟨a, m, _, _, t, w0, w1, p, rfl, ⟨b, rfl, upd_same⟩, ht.me e14, ok, hm3.mono e4, hx.me e14, hlt, hv, hn, fun v H5 e5 hm5 rv => k' v H5 (ExE.trans (Ex.ee e4) e5) hm5 rv⟩
  have e02 : ExE H H2 := Ex.ee e12
  have hm2 := hm.mono e12
  have nx : ∀ φ, HO.ins T.C_Telling dx (k_Telling.zip [cl, sp, .ref f, bx, .int t.fin, .ref m, .ref hd]) ≠ .ext φ := fun _ z => nomatch z
  have leastGo : ∀ (o1 o2 : Option Row) v1 v2 H4, ExE H H4 → MemoV P w t m H4 → RowV o1 v1 H4 → RowV o2 v2 H4 → RetM P w t m (RowV (least [o1, o2])) H Q → [v1, v2].length ≤ sizeLine ∧ ∀ l, H4 l = none → ∀ E', spTLeast [.ref a, .ref l] (upd H4 l (.lst [v1, v2])) Q E' := fun o1 o2 v1 v2 H4 e4 hm4 r1 r2 k => by
    refine ⟨two_line, fun l hl E' => ?_⟩
    have e5 : Ex H4 (upd H4 l (.lst [v1, v2])) := Ex.new hl
    have i1 : Items RowV [o1] [v1] (upd H4 l (.lst [v1, v2])) := Items.snoc (R := RowV) (ys := []) Items.nil (r1.mono e5)
    exact ⟨_, l, [o1, o2], [v1, v2], rfl, upd_same, Items.snoc (R := RowV) i1 (r2.mono e5), by show 2 ≤ 10; decide, fun v H6 e6 rv => k v H6 (ExE.trans e4 (Ex.ee (e5.trans e6))) (hm4.mono (e5.trans e6)) rv⟩
  refine ⟨_, rfl, rfl, _, congrArg V.bl (wS_dec wd .lone), ite2 (fun c => ?_) (fun c => ?_)⟩
  · rw [if_pos (of_decide_eq_true c)] at k
    refine ⟨_, rfl, a, dx, _, rfl, e02 _ _ ha nx, fn_Telling_least _, ?_⟩
    refine ⟨_, rfl, a, dx, _, rfl, e02 _ _ ha nx, fn_Telling_both _, two_line, fun b hb => ⟨_, rfl, bothGo .lone .all H2 e02 hm2 b hb _ (fun v1 H4 e4 hm4 r1 => ?_) E0⟩⟩
    have e04 := ExE.trans e02 e4
    refine ⟨_, rfl, a, dx, _, rfl, e04 _ _ ha nx, fn_Telling_both _, two_line, fun b2 hb2 => ⟨_, rfl, bothGo .all .lone H4 e04 hm4 b2 hb2 _ (fun v2 H5 e5 hm5 r2 => ?_) E0⟩⟩
    obtain ⟨g1, g2⟩ := leastGo _ _ v1 v2 H5 (ExE.trans e04 e5) hm5 (r1.me e5) r2 k
    exact ⟨g1, fun l hl => g2 l hl E0⟩
  · rw [if_neg (fun z => c (decide_eq_true z))] at k
    refine ⟨_, rfl, a, dx, _, rfl, e02 _ _ ha nx, fn_Telling_least _, ?_⟩
    refine ⟨_, rfl, a, dx, _, rfl, e02 _ _ ha nx, fn_Telling_told _, _, rfl, a, m, _, t, p, rfl, ht.me e02, ok, hm2, hx.me e02, hp, hv, hn, fun v1 H4 e4 hm4 r1 => ?_⟩
    have e04 := ExE.trans e02 e4
    refine ⟨_, rfl, a, dx, _, rfl, e04 _ _ ha nx, fn_Telling_both _, _, rfl, _, rfl, two_line, fun b2 hb2 => ⟨_, rfl, bothGo wd wd H4 e04 hm4 b2 hb2 _ (fun v2 H5 e5 hm5 r2 => ?_) E0⟩⟩
    obtain ⟨g1, g2⟩ := leastGo _ _ v1 v2 H5 (ExE.trans e04 e5) hm5 (r1.me e5) r2 k
    exact ⟨g1, fun l hl => g2 l hl E0⟩
end
end FW
namespace FW
open PySem L2 FC Evl
def words5 : List Word := [.bare, .full, .lone, .all, .needed]
def keys5 : List MK := words5.flatMap fun wd => (pres 6).map fun p => (wS wd, p)
theorem keys5_len : keys5.length = 635 := by decide +kernel
theorem nodup_sub_len {α : Type} [DecidableEq α] : ∀ {l m : List α}, l.Nodup → (∀ x ∈ l, x ∈ m) → l.length ≤ m.length
  | [], _, _, _ => Nat.zero_le _
  | x :: l, m, hn, hs => by
    rw [List.nodup_cons] at hn
    have hx := hs x List.mem_cons_self
    have h2 : l.length ≤ (m.erase x).length := nodup_sub_len hn.2 fun y hy => (List.mem_erase_of_ne (fun e => hn.1 (by rw [← e]; exact hy))).mpr (hs y (List.mem_cons_of_mem _ hy))
    rw [List.length_erase_of_mem hx] at h2
    have := List.length_pos_of_mem hx
    rw [List.length_cons]; omega
def MemoW (P : Program) (w : World) (t : TI) (m : Addr) (ms : Memo) (H : Hp) : Prop := H m = some (MemoO P w m ms) ∧ MemoKeys H ms ∧ (ms.map (·.1)).Nodup ∧ ∀ x ∈ ms, ∃ wd p, x.1 = (wS wd, p) ∧ p ∈ pres 6 ∧ RowV (t.env.way wd p) (oV x.2.2) H
theorem MemoW.len {P : Program} {w : World} {t : TI} {m : Addr} {ms : Memo} {H : Hp} (h : MemoW P w t m ms H) : ms.length ≤ 635 := by
  obtain ⟨_, _, h3, h4⟩ := h
  have := nodup_sub_len (m := keys5) h3 fun k hk => by
    obtain ⟨x, hx, rfl⟩ := List.mem_map.mp hk
    obtain ⟨wd, p, e, hp, _⟩ := h4 x hx
    rw [e]
    refine List.mem_flatMap.mpr ⟨wd, by cases wd <;> simp [words5], List.mem_map.mpr ⟨p, hp, rfl⟩⟩
  rw [List.length_map, keys5_len] at this
  exact this
theorem MemoW.v {P : Program} {w : World} {t : TI} {m : Addr} {ms : Memo} {H : Hp} (h : MemoW P w t m ms H) : MemoV P w t m H := ⟨ms, h⟩
theorem MemoW.mono {P : Program} {w : World} {t : TI} {m : Addr} {ms : Memo} {H H' : Hp} (h : MemoW P w t m ms H) (e : Ex H H') : MemoW P w t m ms H' :=
  let ⟨h1, h2, h3, h4⟩ := h; ⟨e m _ h1, fun x hx => keyT_ml (h2 x hx) (Ex.l e), h3, fun x hx => let ⟨wd, p, q1, q2, q3⟩ := h4 x hx; ⟨wd, p, q1, q2, q3.mono e⟩⟩
theorem RowV.o {o : Option Row} {v : V} {H : Hp} (h : RowV o v H) : ∃ q, v = oV q := by
  cases o with
  | none => exact ⟨none, h⟩
  | some r => obtain ⟨t, _, _, e, _⟩ := h; exact ⟨some t, e⟩
/-- the memo's object is no tuple, no thing -/
theorem upd_ee {H : Hp} {m : Addr} {φ ψ : Heap → Prop} (h : H m = some (.ext φ)) : ExE H (upd H m (.ext ψ)) := fun c o hc n => by
  rw [upd_ne]
  · exact hc
  · intro e
    subst e
    rw [h] at hc
    exact n φ (Option.some.inj hc).symm
theorem memoW_put {P : Program} {w : World} {t : TI} {m : Addr} {ms : Memo} {H : Hp} {b : Addr} {wd : Word} {p : Pre} {o : Option Addr} (h : MemoW P w t m ms H) (hb : KeyT H b (wS wd, p)) (hp : p ∈ pres 6) (rv : RowV (t.env.way wd p) (oV o) H) :
    MemoW P w t m (mput ms (wS wd, p) b o) (upd H m (MemoO P w m (mput ms (wS wd, p) b o))) := by
  obtain ⟨h1, h2, h3, h4⟩ := h
  have ee : ExE H (upd H m (MemoO P w m (mput ms (wS wd, p) b o))) := upd_ee h1
  refine ⟨upd_same, fun x hx => keyT_me ?_ ee, mput_nd h3, fun x hx => ?_⟩
  · rcases mput_mem hx with g | ⟨g1, g2, g3⟩
    · exact h2 x g
    · rw [g1]
      rcases g3 with g3 | ⟨y, hy, y1, y2⟩
      · rw [g3]; exact hb
      · rw [← y2, ← y1]; exact h2 y hy
  · rcases mput_mem hx with g | ⟨g1, g2, _⟩
    · obtain ⟨wd', p', q1, q2, q3⟩ := h4 x g
      exact ⟨wd', p', q1, q2, q3.me ee⟩
    · exact ⟨wd, p, g1, hp, by rw [g2]; exact rv.me ee⟩
theorem mget_mem {ms : Memo} {k : MK} (h : (mget ms k).isSome = true) : ∃ x ∈ ms, x.1 = k ∧ mget ms k = some x.2.2 := by
  unfold mget at h ⊢
  rw [Option.isSome_map] at h
  obtain ⟨x, hx⟩ := Option.isSome_iff_exists.mp h
  exact ⟨x, List.mem_of_find?_eq_some hx, of_decide_eq_true (List.find?_some (p := fun m : MK × Addr × Option Addr => decide (m.1 = k)) hx), by rw [hx]; rfl⟩
section
variable {P : Program} {w : World} {K : PySem.W.Frag} {mg : Str → Option Value} {base : Heap}
theorem ok_way_step (T : Txt K mg) (n : Nat) {lv : Nat} (hlv : 8 ≤ lv) (ih : FnOk P w K mg base CX0 lv T.f_Telling_way T.d_Telling_way ["self", "word", "prefix"] (spWay P w T.cs n)) :
    FnOk P w K mg base CX0 (lv + 6) T.f_Telling_way T.d_Telling_way ["self", "word", "prefix"] (spWay P w T.cs (n + 1)) := by
  refine T.F_Telling_way.ok sc_Telling_way (fun vs H Q E h => ?_) (fun cdv A outer s H vs Q E hr h => ?_)
  · obtain ⟨_, _, _, _, _, _, rfl, _⟩ := h; rfl
  obtain ⟨a, m, x, t, wd, p, rfl, ht, ok, hm, hx, hp, hv, hn, k⟩ := h
  have nd := sc_Telling_way.nd
  obtain ⟨xa, rfl, hxa⟩ := id hx
  obtain ⟨dx, cl, sp, f, bx, hd, cnt, ha, _⟩ := id ht
  have h6 : p ∈ pres 6 := mem_pres (by have := (sp_le ok.sp).2.2.2.2; omega) (of_root_ins hv)
  have nx : ∀ φ, HO.ins T.C_Telling dx (k_Telling.zip [cl, sp, .ref f, bx, .int t.fin, .ref m, .ref hd]) ≠ .ext φ := fun _ z => nomatch z
  refine ⟨_, (pss_cons (ps_if (pt_cmpR (op_memoNotIn hr.units) (pe_tup (pa_cons (pv 1) (pa_cons (pv 2) pa_nil))) (pe_fld (pv 0) (by rfl)) (by rfl)) (pss_one (ps_asg (pe_meth (pv 0) T.cl_Telling T.M_Telling_way_of (ok_Telling_way_of T n hlv ih) (hr.mono (by omega)) T.b_Telling_way_of .nil pass0 (pa_cons (pv 1) (pa_cons (pv 2) pa_nil))) (pg_sub (pe_fld (pv 0) (by rfl)) (pe_tup (pa_cons (pv 1) (pa_cons (pv 2) pa_nil))) (set_memo hr.units)))) pss_nil)
      (pss_one (ps_ret (pe_ix (ix_memo hr.units) (pe_fld (pv 0) (by rfl)) (pe_tup (pa_cons (pv 1) (pa_cons (pv 2) pa_nil))) (fun _ _ => rfl))))), ?_⟩
  refine seq_join (t := tIfS _ _ _) (fun σ' H' => σ' = [some (.ref a), some (.str (wS wd)), some (.ref xa)] ∧ ExE H H' ∧ ∃ ms, MemoW P w t m ms H' ∧ (mget ms (wS wd, p)).isSome = true) (fun kk => ?_) ?_
  · refine ⟨_, rfl, _, rfl, two_line, fun kt hkt => ?_⟩
    have e1 : Ex H (upd H kt (.tup [.str (wS wd), .ref xa])) := Ex.new hkt
    have key : KeyT (upd H kt (.tup [.str (wS wd), .ref xa])) kt (wS wd, p) := ⟨xa, upd_same, e1 _ _ hxa⟩
    generalize upd H kt (.tup [.str (wS wd), .ref xa]) = H1 at e1 key ⊢
    obtain ⟨ms, hms⟩ := hm
    have hms : MemoW P w t m ms H := hms
    have hm1 := hms.mono e1
    refine r_Telling_known T rfl (e1 _ _ ha) rfl ⟨kt, m, _, ms, rfl, rfl, hm1.1, hm1.2.1, key, _, rfl, ?_⟩
    cases hg : (mget ms (wS wd, p)).isSome with
    | true => exact kk _ _ ⟨rfl, Ex.ee e1, ms, hm1, hg⟩
    | false =>
      refine ⟨_, rfl, a, dx, _, rfl, e1 _ _ ha, fn_Telling_way_of _, _, rfl, _, rfl, a, m, _, t, wd, p, rfl, ht.me (Ex.ee e1), ok, hm1.v, hx.mono e1, hp, hv, by omega, fun v H2 e2 hm2 rv => ?_⟩
      have e12 := ExE.trans (Ex.ee e1) e2
      rw [← Env.way_eq ok.fit hp hv] at rv
      obtain ⟨o, rfl⟩ := rv.o
      refine r_Telling_known T rfl (e12 _ _ ha nx) rfl ⟨_, rfl, _, rfl, two_line, fun k2 hk2 => ?_⟩
      have e3 : Ex H2 (upd H2 k2 (.tup [.str (wS wd), .ref xa])) := Ex.new hk2
      have key2 : KeyT (upd H2 k2 (.tup [.str (wS wd), .ref xa])) k2 (wS wd, p) := ⟨xa, upd_same, e3 _ _ (e12 _ _ hxa fun _ z => nomatch z)⟩
      generalize upd H2 k2 (.tup [.str (wS wd), .ref xa]) = H3 at e3 key2 ⊢
      obtain ⟨ms2, hms2⟩ := hm2
      have hms2 : MemoW P w t m ms2 H2 := hms2
      have hm3 := hms2.mono e3
      have := hm3.len
      exact ⟨m, k2, _, ms2, o, rfl, rfl, rfl, hm3.1, hm3.2.1, key2, by omega, kk _ _ ⟨rfl, ExE.trans (ExE.trans e12 (Ex.ee e3)) (upd_ee hm3.1), _, memoW_put hm3 key2 h6 (rv.mono e3), by rw [mget_put]; rfl⟩⟩
  · rintro σ' H1 ⟨rfl, e1, ms, hms, hg⟩
    refine r_Telling_known T rfl (e1 _ _ ha nx) rfl ⟨_, rfl, _, rfl, two_line, fun k2 hk2 => ?_⟩
    have e3 : Ex H1 (upd H1 k2 (.tup [.str (wS wd), .ref xa])) := Ex.new hk2
    have key2 : KeyT (upd H1 k2 (.tup [.str (wS wd), .ref xa])) k2 (wS wd, p) := ⟨xa, upd_same, e3 _ _ (e1 _ _ hxa fun _ z => nomatch z)⟩
    generalize upd H1 k2 (.tup [.str (wS wd), .ref xa]) = H3 at e3 key2 ⊢
    have hm3 := hms.mono e3
    obtain ⟨y, hy, y1, y2⟩ := mget_mem hg
    obtain ⟨wd', p', q1, _, q3⟩ := hm3.2.2.2 y hy
    rw [y1] at q1
    injection q1 with q1 q2
    have q1 := wS_inj q1
    subst q1 q2
    exact ⟨m, k2, _, ms, _, rfl, rfl, hm3.1, hm3.2.1, key2, y2, k _ _ (ExE.trans e1 (Ex.ee e3)) hm3.v q3⟩
end
end FW
namespace FW
open PySem L2 FC Evl
theorem putK_entH (hs : List Pre) (p : Pre) : putK (hs.map entH) (kOf p) (.bl true) = (if p ∈ hs then hs else hs ++ [p]).map entH := by
  by_cases c : p ∈ hs
  · rw [if_pos c]
    unfold putK
    rw [if_pos (List.any_eq_true.mpr ⟨entH p, List.mem_map.mpr ⟨p, c, rfl⟩, decide_eq_true rfl⟩), List.map_map]
    refine List.map_congr_left fun x _ => ?_
    show (if (entH x).1 = kOf p then ((entH x).1, V.bl true) else entH x) = entH x
    split <;> rfl
  · rw [if_neg c, putK_new, List.map_append]
    · rfl
    · rw [List.map_map]
      intro h
      obtain ⟨x, hx, e⟩ := List.mem_map.mp h
      exact c (kOf_inj e ▸ hx)
/-- the prefix of length l that r begins with -/
def anc (r : Pre) (l : Nat) : Pre := (l, r.2 / 2 ^ (r.1 - l))
theorem ins_anc {r p : Pre} : ins r p ↔ p.1 ≤ r.1 ∧ p = anc r p.1 := by
  unfold ins anc
  constructor
  · rintro ⟨h1, h2⟩; exact ⟨h1, Prod.ext rfl h2.symm⟩
  · rintro ⟨h1, h2⟩
    refine ⟨h1, ?_⟩
    have := congrArg Prod.snd h2
    exact this.symm
theorem anc_step {r : Pre} {l : Nat} (h : l + 1 ≤ r.1) : anc r l = (l, (anc r (l + 1)).2 / 2) := by
  unfold anc
  refine Prod.ext rfl ?_
  show r.2 / 2 ^ (r.1 - l) = r.2 / 2 ^ (r.1 - (l + 1)) / 2
  rw [show r.1 - l = r.1 - (l + 1) + 1 by omega, Nat.pow_succ, Nat.div_div_eq_div_mul]
/-- the holders: those that a fact lies strictly within -/
def Holds (fs hs : List Pre) : Prop := ∀ p, p ∈ hs ↔ ∃ r ∈ fs, ins r p ∧ r ≠ p
def spTellInit (P : Program) (w : World) (c : Cs) (Kc : Addr) : Sp := fun vs H Q _ => ∃ (x dx : Addr) (cl kn bx : V) (fin d b : Nat) (row lo hi : List Nat) (cnt : Pre → Nat) (fs : List Pre), vs = [.ref x, cl, kn, bx, .int fin] ∧ H x = some (.ins c.Tc dx []) ∧
  CloudAt c.Cc c.Sc d b row cl H ∧ KnowAt Kc c.Sc d b cnt fs kn H ∧ BoxAt c.Bc c.Sc d b lo hi bx H ∧ VF (d * b) fs ∧
  ∀ H' hs m, But x H H' → Holds fs hs → TellS c ⟨d, b, fin, row, lo, hi, fs, hs⟩ x m H' → MemoV P w ⟨d, b, fin, row, lo, hi, fs, hs⟩ m H' → Q .non H'
theorem BoxAt.but {x : Addr} {v : V} {B S : Addr} {d b : Nat} {lo hi : List Nat} {H H' : Hp} (h : BoxAt B S d b lo hi v H) (e : But x H H') {C dx : Addr} (hx : H x = some (.ins C dx [])) : BoxAt B S d b lo hi v H' :=
  let ⟨p, q, a, dx', s, y, z, e1, e2, e3, e4, e5⟩ := h; ⟨p, q, a, dx', s, y, z, e1, e a _ e2 (fun z => by subst z; rw [e2] at hx; cases hx), e3.but e hx, e4.but e hx, e5.but e hx⟩
theorem RowAt.but {x : Addr} {v : V} {row : List Nat} {H H' : Hp} (h : RowAt row v H) (e : But x H H') {C dx : Addr} {fs : List (Str × V)} (hx : H x = some (.ins C dx fs)) : RowAt row v H' := let ⟨a, e1, e2⟩ := h; ⟨a, e1, e.tup hx e2⟩
theorem CloudAt.but {x : Addr} {v : V} {B S : Addr} {d b : Nat} {row : List Nat} {H H' : Hp} (h : CloudAt B S d b row v H) (e : But x H H') {C dx : Addr} (hx : H x = some (.ins C dx [])) : CloudAt B S d b row v H' :=
  let ⟨p, a, dx', s, y, e1, e2, e3, e4⟩ := h; ⟨p, a, dx', s, y, e1, e a _ e2 (fun z => by subst z; rw [e2] at hx; cases hx), e3.but e hx, e4.but e hx⟩
theorem gJ {G : Hp → Prop} {J0 : Hp} (F : Hp → Prop) (h : F J0) (g : ∀ J, F J → G J) : G J0 := g J0 h
theorem ins_ne {H : Hp} {a x C D dx dy : Addr} {fs : List (Str × V)} (h : H a = some (.ins C dx fs)) (hx : H x = some (.ins D dy [])) (n : fs ≠ []) : a ≠ x := fun z => by
  subst z
  rw [hx] at h
  injection h with h
  injection h with _ _ h
  exact n h.symm
section
variable {P : Program} {w : World} {K : PySem.W.Frag} {mg : Str → Option Value} {base : Heap}
theorem ok_way (T : Txt K mg) : ∀ n, FnOk P w K mg base CX0 (8 + 6 * n) T.f_Telling_way T.d_Telling_way ["self", "word", "prefix"] (spWay P w T.cs n)
  | 0 => by
    refine T.F_Telling_way.ok sc_Telling_way (fun vs H Q E h => ?_) (fun cdv A outer s H vs Q E hr h => ?_)
    · obtain ⟨_, _, _, _, _, _, rfl, _⟩ := h; rfl
    · obtain ⟨_, _, _, _, _, _, _, _, _, _, _, _, _, hn, _⟩ := h
      exact absurd hn (Nat.not_lt_zero _)
  | n + 1 => ok_way_step T n (Nat.le_add_right 8 _) (ok_way T n)
theorem ok_Telling_init (T : Txt K mg) : FnOk P w K mg base CX0 1 T.f_Telling_init T.d_Telling_init ["self", "cloud", "knowledge", "box", "fineness"] (spTellInit P w T.cs T.C_Knowledge) := by
  refine T.F_Telling_init.ok sc_Telling_init (fun vs H Q E h => ?_) (fun cdv A outer s H vs Q E hr h => ?_)
  · obtain ⟨_, _, _, _, _, _, _, _, _, _, _, _, _, rfl, _⟩ := h; rfl
  obtain ⟨x, dx, cl, kn, bx, fin, d, b, row, lo, hi, cnt, fs, rfl, hx, hcl, hkn, hbx, vf, k⟩ := h
  have nd := sc_Telling_init.nd
  obtain ⟨_, ca, cdx, csp, crow, rfl, hca, hcsp, _⟩ := id hcl
  obtain ⟨ka, kdx, ksp, f, rfl, hka, _, hf⟩ := id hkn
  have ncx : ca ≠ x := ins_ne hca hx (fun z => nomatch z)
  have nkx : ka ≠ x := ins_ne hka hx (fun z => nomatch z)
  have nfx : f ≠ x := fun z => by rw [z, hx] at hf; cases hf
  refine ⟨_, (pss_cons (ps_fld (pv 0) (pv 1) rfl)
      (pss_cons (ps_fld (pv 0) (pe_fld (pv 1) (by rfl)) rfl)
      (pss_cons (ps_fld (pv 0) (pe_fld (pv 2) (by rfl)) rfl)
      (pss_cons (ps_fld (pv 0) (pv 3) rfl)
      (pss_cons (ps_fld (pv 0) (pv 4) rfl)
      (pss_cons (ps_fld (pv 0) pe_memo rfl)
      (pss_cons (ps_fld (pv 0) pe_dnewT rfl)
      (pss_one (ps_lock (ps_for PassesOwn.never (by rfl) (pi_keys (pe_fld (pv 0) (by rfl))) (pg_tup (by rfl) (pgs_cons (pg_name (i := 5) nd rfl (Or.inl rfl)) (pgs_cons (pg_name (i := 6) nd rfl (Or.inl rfl)) pgs_nil)))
      (pss_one (ps_while PassesOwn.never (pt_cmpR op_gt (pv 5) pe_int (nomark _))
      (pss_cons (ps_par (i := 5) (j := 6) (by rfl) nd rfl rfl (by decide) rfl rfl (pa_cons (pe_op op_sub (pv 5) pe_int) (pa_cons (pe_op op_fdiv (pv 6) pe_int) pa_nil)) (by rfl))
      (pss_one (ps_dput (hu1 hr) (pe_fld (pv 0) (by rfl)) (pe_tup (pa_cons (pv 5) (pa_cons (pv 6) pa_nil))) pe_bl rfl))))))))))))))), ?_⟩
  refine ⟨_, rfl, _, rfl, p_Telling_cloud (vs := []) T hx rfl ?_⟩
  refine r_Cloud_space T rfl ((upd_ne ncx).trans hca) rfl ⟨_, rfl, p_Telling_space (vs := [_]) T upd_same rfl ?_⟩
  refine r_Knowledge_facts T rfl ((upd_ne nkx).trans ((upd_ne nkx).trans hka)) rfl ⟨_, rfl, p_Telling_facts (vs := [_, _]) T upd_same rfl ?_⟩
  refine ⟨_, rfl, _, rfl, p_Telling_box (vs := [_, _, _]) T upd_same rfl ?_⟩
  refine ⟨_, rfl, _, rfl, p_Telling_fineness (vs := [_, _, _, _]) T upd_same rfl ?_⟩
  rw [upd_upd, upd_upd, upd_upd, upd_upd]
  refine fun m hm0 => ⟨_, rfl, ?_⟩
  have nxm : x ≠ m := fun z => by rw [← z, upd_same] at hm0; cases hm0
  refine p_Telling_known (vs := [_, _, _, _, _]) T ((upd_ne nxm).trans upd_same) rfl ?_
  refine fun g hg0 => ⟨_, rfl, ?_⟩
  have nxg : x ≠ g := fun z => by rw [← z, upd_same] at hg0; cases hg0
  refine p_Telling_holders (vs := [_, _, _, _, _, _]) T ((upd_ne nxg).trans upd_same) rfl ?_
  obtain ⟨nmg, nmH, ngH⟩ : m ≠ g ∧ (∀ c o, H c = some o → c ≠ x → c ≠ m) ∧ (∀ c o, H c = some o → c ≠ x → c ≠ g) := by
    refine ⟨fun z => ?_, fun c o hc n z => ?_, fun c o hc n z => ?_⟩
    · rw [← z, upd_ne (Ne.symm nxm), upd_same] at hg0; cases hg0
    · rw [← z, upd_ne n, hc] at hm0; cases hm0
    · have nm : c ≠ m := fun z2 => by rw [← z2, upd_ne n, hc] at hm0; cases hm0
      rw [← z, upd_ne n, upd_ne nm, upd_ne n, hc] at hg0; cases hg0
  refine gJ (fun J => But x H J ∧ J x = some (.ins T.C_Telling dx (k_Telling.zip [.ref ca, csp, .ref f, bx, .int fin, .ref m, .ref g])) ∧ J m = some (MemoO P w m []) ∧ J g = some (.dT [])) ⟨fun c o hc n => ?_, upd_same, ?_, ?_⟩ fun J hJ => ?_
  · rw [upd_ne n, upd_ne (ngH c o hc n), upd_ne n, upd_ne (nmH c o hc n), upd_ne n]
    exact hc
  · rw [upd_ne (Ne.symm nxm), upd_ne nmg, upd_ne (Ne.symm nxm), upd_same]; rfl
  · rw [upd_ne (Ne.symm nxg), upd_same]
  obtain ⟨bJ, hxJ, hmJ, hgJ⟩ := hJ
  clear hg0 hm0
  have hfJ := bJ f _ hf nfx
  have nfg : f ≠ g := ngH f _ hf nfx
  refine ⟨f, _, hfJ, trivial, fun od => ?_⟩
  have b2 : But f J (upd J f (.frz od (.dT (fs.map (entF cnt))))) := fun c o hc n => (upd_ne n).trans hc
  have hf2 : upd J f (.frz od (.dT (fs.map (entF cnt)))) f = some (.frz od (.dT (fs.map (entF cnt)))) := upd_same
  have hx2 := b2 x _ hxJ (Ne.symm nfx)
  have hg2 := b2 g _ hgJ (Ne.symm nfg)
  generalize upd J f (.frz od (.dT (fs.map (entF cnt)))) = J2 at b2 hf2 hx2 hg2 ⊢
  refine r_Telling_facts T rfl hx2 rfl ⟨f, od, rfl, .inr ⟨_, hf2, for_it walk_keysT (fun i σ H' => ∃ u1 u2 hs, σ = [some (.ref x), some (.ref ca), some (.ref ka), some bx, some (.int fin), u1, u2] ∧ But g J2 H' ∧ H' g = some (.dT (hs.map entH)) ∧ hs.Nodup ∧ (∀ p ∈ hs, p ∈ pres 6) ∧
    ∀ p, p ∈ hs ↔ ∃ r ∈ fs.take i, ins r p ∧ r ≠ p) ⟨none, none, [], rfl, fun c o hc _ => hc, hg2, List.nodup_nil, fun p hp => (nomatch hp), fun p => ⟨fun z => (nomatch z), fun ⟨r, hr, _⟩ => (nomatch hr)⟩⟩ (fun i σ H' _ h => ?_) ?_ ?_⟩⟩
  · obtain ⟨_, _, _, _, bt, _⟩ := h
    exact bt f _ hf2 nfg
  · rintro i y σ H' H'' hi ⟨u1, u2, hs, rfl, bt, hg', hnd, hpr, hms⟩ ⟨rfl, kk, v, q, hkv, rfl, hq⟩
    rw [List.getElem?_map] at hkv
    obtain ⟨r, hr', e1⟩ := Option.map_eq_some_iff.mp hkv
    injection e1 with e1 e2
    subst e1 e2
    refine ⟨q, _, rfl, SqT.of hq, rfl, ⟨_, _, rfl, ⟨_, _, rfl, rfl, ?_⟩⟩⟩
    obtain ⟨v1, v2⟩ := vf.ok r (List.mem_of_getElem? hr')
    have hd := (sp_le hcsp.1).2.2.2.2
    have hlt := of_root_ins v2
    have hpre : ∀ l, l ≤ r.1 → anc r l ∈ pres 6 := fun l hl => by
      refine mem_pres (by show l ≤ 6; omega) ?_
      show r.2 / 2 ^ (r.1 - l) < 2 ^ l
      rw [Nat.div_lt_iff_lt_mul (Nat.pow_pos (by decide)), ← Nat.pow_add, show l + (r.1 - l) = r.1 by omega]
      exact hlt
    refine s_while (fun n σ H' => ∃ (hs : List Pre), σ = [some (.ref x), some (.ref ca), some (.ref ka), some bx, some (.int fin), some (.int (n : Int)), some (.int ((anc r n).2 : Int))] ∧ But g J2 H' ∧ H' g = some (.dT (hs.map entH)) ∧ hs.Nodup ∧ (∀ p ∈ hs, p ∈ pres 6) ∧ n ≤ r.1 ∧
      ∀ p, p ∈ hs ↔ (∃ r' ∈ fs.take i, ins r' p ∧ r' ≠ p) ∨ (n ≤ p.1 ∧ p.1 < r.1 ∧ p = anc r p.1)) r.1 ?_ ?_
    · refine ⟨hs, ?_, bt, hg', hnd, hpr, Nat.le_refl _, fun p => ?_⟩
      · have : (anc r r.1).2 = r.2 := by unfold anc; rw [Nat.sub_self, Nat.pow_zero, Nat.div_one]
        rw [this]; rfl
      · rw [hms]
        exact ⟨fun z => .inl z, fun z => z.elim id fun ⟨z1, z2, _⟩ => by omega⟩
    · rintro n σ H1 ⟨hs1, rfl, bt1, hg1, hnd1, hpr1, hn, hms1⟩
      refine ⟨decide ((n : Int) > 0), et_test (ev_op (ev_var rfl) ev_c rv_I0), fun hb H2 e2 => ?_, fun hb H2 e2 => ?_⟩
      · have hn0 : 0 < n := by have := of_decide_eq_true hb; omega
        obtain ⟨l, rfl⟩ : ∃ l, n = l + 1 := ⟨n - 1, by omega⟩
        refine ⟨fun σ2 H2 => ∃ m', m' < l + 1 ∧ ∃ (hs : List Pre), σ2 = [some (.ref x), some (.ref ca), some (.ref ka), some bx, some (.int fin), some (.int (m' : Int)), some (.int ((anc r m').2 : Int))] ∧ But g J2 H2 ∧ H2 g = some (.dT (hs.map entH)) ∧ hs.Nodup ∧ (∀ p ∈ hs, p ∈ pres 6) ∧ m' ≤ r.1 ∧
          ∀ p, p ∈ hs ↔ (∃ r' ∈ fs.take i, ins r' p ∧ r' ≠ p) ∨ (m' ≤ p.1 ∧ p.1 < r.1 ∧ p = anc r p.1), fun _ _ z => z, ?_⟩
        have b12 : But g J2 H2 := fun c o hc ng => e2 c o (bt1 c o hc ng)
        refine ⟨_, rfl, _, _, rfl, rfl, _, rfl, _, _, rfl, rfl, ⟨by decide, by decide⟩, _, _, rfl, ?_⟩
        have c1 : ((l + 1 : Nat) : Int) - 1 = (l : Int) := by omega
        have c2 : ((anc r (l + 1)).2 : Int) / 2 = ((anc r l).2 : Int) := by
          rw [anc_step hn]; rfl
        dsimp only
        rw [c1, c2]
        refine r_Telling_holders T rfl (b12 x _ hx2 nxg) rfl ⟨_, rfl, _, rfl, two_line, fun kt hkt => ?_⟩
        have e3 : Ex H2 (upd H2 kt (.tup [.int (l : Int), .int ((anc r l).2 : Int)])) := Ex.new hkt
        have hk3 : upd H2 kt (.tup [.int (l : Int), .int ((anc r l).2 : Int)]) kt = some (.tup [.int (l : Int), .int ((anc r l).2 : Int)]) := upd_same
        generalize upd H2 kt (.tup [.int (l : Int), .int ((anc r l).2 : Int)]) = H3 at e3 hk3 ⊢
        have hg3 := e3 _ _ (e2 _ _ hg1)
        have hlen : hs1.length ≤ 127 := by
          have := nodup_sub_len (m := pres 6) hnd1 hpr1
          have e : (pres 6).length = 127 := by decide +kernel
          omega
        refine ⟨g, _, rfl, .t (k := kOf (anc r l)) hg3 hk3 ?_, l, Nat.lt_succ_self _, (if anc r l ∈ hs1 then hs1 else hs1 ++ [anc r l]), rfl, ?_, ?_, ?_, ?_, by omega, fun p => ?_⟩
        · rw [List.length_map]
          exact sz_lt (by omega)
        · intro c o hc ng
          rw [upd_ne ng]
          exact e3 _ _ (b12 c o hc ng)
        · rw [upd_same, putK_entH]
        · split
          · exact hnd1
          · rename_i c
            refine List.nodup_append.mpr ⟨hnd1, by simp, fun y hy z hz => ?_⟩
            rw [List.mem_singleton.mp hz]
            exact fun e => c (e ▸ hy)
        · intro p hp
          split at hp
          · exact hpr1 p hp
          · rcases List.mem_append.mp hp with h | h
            · exact hpr1 p h
            · rw [List.mem_singleton.mp h]; exact hpre l (by omega)
        · have key : p ∈ (if anc r l ∈ hs1 then hs1 else hs1 ++ [anc r l]) ↔ p ∈ hs1 ∨ p = anc r l := by
            split
            · rename_i c
              exact ⟨.inl, fun z => z.elim id fun e => e ▸ c⟩
            · rw [List.mem_append, List.mem_singleton]
          rw [key, hms1]
          constructor
          · rintro ((z | ⟨z1, z2, z3⟩) | z)
            · exact .inl z
            · exact .inr ⟨by omega, z2, z3⟩
            · subst z
              exact .inr ⟨Nat.le_refl _, hn, rfl⟩
          · rintro (z | ⟨z1, z2, z3⟩)
            · exact .inl (.inl z)
            · by_cases c : p.1 = l
              · right
                rw [z3, c]
              · exact .inl (.inr ⟨by omega, z2, z3⟩)
      · have hn0 : n = 0 := by have := of_decide_eq_false hb; omega
        subst hn0
        refine ⟨_, _, hs1, rfl, fun c o hc ng => e2 c o (bt1 c o hc ng), e2 _ _ hg1, hnd1, hpr1, fun p => ?_⟩
        rw [hms1, take_snoc hr']
        constructor
        · rintro (⟨r', h1, h2⟩ | ⟨_, z2, z3⟩)
          · exact ⟨r', List.mem_append_left _ h1, h2⟩
          · exact ⟨r, List.mem_append_right _ List.mem_cons_self, ins_anc.mpr ⟨by omega, z3⟩, fun e => by rw [e] at z2; omega⟩
        · rintro ⟨r', h1, h2, h3⟩
          rcases List.mem_append.mp h1 with h | h
          · exact .inl ⟨r', h, h2, h3⟩
          · rw [List.mem_singleton.mp h] at h2 h3
            exact .inr ⟨Nat.zero_le _, ins_lt h2 h3, (ins_anc.mp h2).2⟩
  · rintro σ H' ⟨u1, u2, hs, rfl, bt, hg', hnd, hpr, hms⟩
    have hl : (fs.map (entF cnt)).length = fs.length := List.length_map _
    rw [hl, List.take_length] at hms
    refine ⟨bt f _ hf2 nfg, ?_⟩
    have e3 : But g J (upd H' f (.dT (fs.map (entF cnt)))) := fun c o hc n => by
      by_cases z : c = f
      · subst z; rw [hfJ] at hc; rw [upd_same]; exact hc
      · rw [upd_ne z]; exact bt c o (b2 c o hc z) n
    have hg3 : upd H' f (.dT (fs.map (entF cnt))) g = some (.dT (hs.map entH)) := (upd_ne (Ne.symm nfg)).trans hg'
    generalize upd H' f (.dT (fs.map (entF cnt))) = H3 at e3 hg3 ⊢
    have b3 : But x H H3 := fun c o hc n => e3 c o (bJ c o hc n) (ngH c o hc n)
    refine k H3 hs m b3 hms ⟨dx, .ref ca, csp, f, bx, g, cnt, e3 x _ hxJ nxg, hcl.but b3 hx, hcsp.but b3 hx, e3 f _ hfJ nfg, hbx.but b3 hx, hg3⟩ ⟨[], e3 m _ hmJ nmg, fun y hy => (nomatch hy), List.nodup_nil, fun y hy => (nomatch hy)⟩
end
end FW
namespace FW
open PySem L2 FC Evl
theorem ti_ok {d b fin : Nat} {row lo hi : List Nat} {fs hs : List Pre} (sp : (d, b) ∈ spaces) (hrow : row.Pairwise (· < ·)) (hl : lo.length = d) (hh : hi.length = d) (hfin : fin ≤ d * b) (vf : VF (d * b) fs) (hho : Holds fs hs) : (⟨d, b, fin, row, lo, hi, fs, hs⟩ : TI).Ok := by
  refine ⟨sp, cnt_add _ _, fun p _ _ => cnt_le hrow _ p, fun p hp hv => ?_, hfin, fun p h => vf.ok p (of_decide_eq_true h), fun p _ _ => ?_⟩
  · show decide (0 < roomN d b lo hi p) = (decide (0 < roomN d b lo hi (ch0 p)) || decide (0 < roomN d b lo hi (ch1 p)))
    rw [room_add sp hl hh p hp hv]
    rw [Bool.eq_iff_iff, Bool.or_eq_true, decide_eq_true_eq, decide_eq_true_eq, decide_eq_true_eq]
    omega
  · show decide (p ∈ hs) = true ↔ ∃ r, decide (r ∈ fs) = true ∧ ins r p ∧ r ≠ p
    rw [decide_eq_true_eq, hho p]
    exact ⟨fun ⟨r, h1, h2⟩ => ⟨r, decide_eq_true h1, h2⟩, fun ⟨r, h1, h2⟩ => ⟨r, of_decide_eq_true h1, h2⟩⟩
theorem items_gP {H : Hp} : ∀ {rows : List Pre} {rs : List V}, Items PTi rows rs H → (∀ v ∈ rs, ∃ p ∈ rows, PT v p H) ∧ rs.map (gP H) = rows
  | [], [], _ => ⟨fun v hv => (nomatch hv), rfl⟩
  | [], _ :: _, h => by have := h.1; simp at this
  | _ :: _, [], h => by have := h.1; simp at this
  | p :: rows, y :: rs, h => by
    have h0 := h.2 0 p y rfl rfl
    obtain ⟨i1, i2⟩ := items_gP (rows := rows) (rs := rs) ⟨Nat.succ.inj h.1, fun i q v hq hv => h.2 (i + 1) q v (by simpa using hq) (by simpa using hv)⟩
    refine ⟨fun v hv => ?_, by rw [List.map_cons, i2, (gP_eq h0).2]⟩
    rcases List.mem_cons.mp hv with e | hv
    · subst e; exact ⟨p, List.mem_cons_self, h0⟩
    · obtain ⟨q, hq, r⟩ := i1 v hv
      exact ⟨q, List.mem_cons_of_mem _ hq, r⟩
/-- the tuple of these prefixes, in some order -/
def TupP (rows : List Pre) (v : V) (H : Hp) : Prop := ∃ a ys order, v = .ref a ∧ H a = some (.tup ys) ∧ order.Perm rows ∧ Items PTi order ys H
def spFewest (c : Cs) (Kc : Addr) : Sp := fun vs H Q _ => ∃ (cl kn bx : V) (fin d b : Nat) (row lo hi : List Nat) (cnt : Pre → Nat) (fs : List Pre), vs = [cl, kn, bx, .int fin] ∧ CloudAt c.Cc c.Sc d b row cl H ∧ KnowAt Kc c.Sc d b cnt fs kn H ∧ BoxAt c.Bc c.Sc d b lo hi bx H ∧ VF (d * b) fs ∧ fin ≤ d * b ∧
  ∀ hs m rows, Holds fs hs → (⟨d, b, fin, row, lo, hi, fs, hs⟩ : TI).env.dp = some (m, rows) → ∀ v H2, ExE H H2 → TupP rows v H2 → Q v H2
section
variable {P : Program} {w : World} {K : PySem.W.Frag} {mg : Str → Option Value} {base : Heap}
theorem ok_fewest_facts (T : Txt K mg) : FnOk P w K mg base CX0 60 T.f_fewest_facts T.d_fewest_facts ["cloud", "knowledge", "box", "fineness"] (spFewest T.cs T.C_Knowledge) := by
  refine T.F_fewest_facts.ok sc_fewest_facts (fun vs H Q E h => ?_) (fun cdv A outer s H vs Q E hr h => ?_)
  · obtain ⟨_, _, _, _, _, _, _, _, _, _, _, rfl, _⟩ := h; rfl
  obtain ⟨cl, kn, bx, fin, d, b, row, lo, hi, cnt, fs, rfl, hcl, hkn, hbx, vf, hfin, k⟩ := h
  have nd := sc_fewest_facts.nd
  obtain ⟨hrow, ca, cdx, csp, crow, rfl, hca, hcsp, _⟩ := id hcl
  obtain ⟨sp, sa, sdx, rfl, hsa⟩ := id hcsp
  refine ⟨_, (pss_cons (ps_if (pt_not (pt_val (pe_call (ok_is_whole T) (hr.mono (by decide)) (by rfl) T.mg_is_whole T.F_is_whole.kp T.b_is_whole .nil pass0 (pa_cons (pv 3) (pa_cons pe_int (pa_cons (pe_fld (pe_fld (pv 0) (by rfl)) (by rfl)) pa_nil)))))) (pss_one ps_never) pss_nil)
      (pss_cons (ps_set (i := 4) nd rfl (Or.inl rfl) (pe_make T.mk_Telling (ok_Telling_init T) (hr.mono (by decide)) (by rfl) T.mg_Telling T.b_Telling_init .nil pass0 (pa_cons (pv 0) (pa_cons (pv 1) (pa_cons (pv 2) (pa_cons (pv 3) pa_nil))))))
      (pss_cons (ps_set (i := 5) nd rfl (Or.inl rfl) (pe_lst (pa_cons (pe_meth (pv 4) T.cl_Telling T.M_Telling_way (ok_way T 7) (hr.mono (by decide)) T.b_Telling_way .nil pass0 (pa_cons pe_str (pa_cons (pe_tup (pa_cons pe_int (pa_cons pe_int pa_nil))) pa_nil))) (pa_cons (pe_meth (pv 4) T.cl_Telling T.M_Telling_told (ok_Telling_told T 7 (by decide) (ok_way T 7)) (hr.mono (by decide)) T.b_Telling_told .nil pass0 (pa_cons (pe_tup (pa_cons pe_int (pa_cons pe_int pa_nil))) pa_nil)) pa_nil))))
      (pss_one (ps_ret (pe_callTy call_tuple_of (by rfl) T.z_tuple (by decide +kernel) (pa_cons (pe_callB cr_sortTup (by rfl) T.z_sorted (by decide +kernel) (pa_cons (pe_ix ix_tup (pe_meth (pv 4) T.cl_Telling T.M_Telling_least (ok_Telling_least T) (hr.mono (by decide)) T.b_Telling_least .nil pass0 (pa_cons (pv 5) pa_nil)) pe_int (fun _ _ => rfl)) pa_nil)) pa_nil))))))), ?_⟩
  refine ⟨_, rfl, r_Cloud_space T rfl hca rfl (a_Space_depth T hsa rfl ⟨_, _, _, rfl, fun H1 e1 => ⟨true, ?_, iteF ?_⟩⟩)⟩
  · show V.bl (decide ((0 : Int) ≤ (fin : Int)) && decide ((fin : Int) ≤ ((d * b : Nat) : Int))) = V.bl true
    rw [decide_eq_true (by omega), decide_eq_true (by omega)]; rfl
  refine ⟨_, rfl, _, rfl, _, rfl, _, rfl, fun x dx nx ndx ne => ?_⟩
  have e2 : Ex H1 (upd (upd H1 dx (.own x)) x (.ins T.C_Telling dx [])) := (Ex.new ndx).trans (Ex.new (by rw [upd_ne (Ne.symm ne)]; exact nx))
  have e12 := e1.trans e2
  refine ⟨x, dx, _, _, _, fin, d, b, row, lo, hi, cnt, fs, rfl, upd_same, hcl.mono e12, hkn.mono e12, hbx.mono e12, vf, fun H2 hs m bt hho ht hm => ⟨rfl, ?_⟩⟩
  have e3 : Ex H H2 := e1.trans (made_ex nx ndx bt)
  have ok : (⟨d, b, fin, row, lo, hi, fs, hs⟩ : TI).Ok := ti_ok sp hrow hbx.1.1 hbx.2.1.1 hfin vf hho
  have hD : d * b ≤ 6 := (sp_le sp).2.2.2.2
  have k := fun m rows => k hs m rows hho
  generalize ht0 : (⟨d, b, fin, row, lo, hi, fs, hs⟩ : TI) = t at ht hm ok k
  have td : t.d * t.b = d * b := by rw [← ht0]
  obtain ⟨tdx, _, _, _, _, _, _, hxa, _⟩ := id ht
  refine ⟨_, rfl, x, tdx, _, rfl, hxa, fn_Telling_way _, two_line, fun t1 h1 => ?_⟩
  have f1 : Ex H2 (upd H2 t1 (.tup [.int 0, .int 0])) := Ex.new h1
  have p1 : PT (.ref t1) (0, 0) (upd H2 t1 (.tup [.int 0, .int 0])) := ⟨t1, rfl, upd_same⟩
  generalize upd H2 t1 (.tup [.int 0, .int 0]) = H3 at f1 p1 ⊢
  refine ⟨x, m, _, t, .needed, (0, 0), rfl, ht.me (Ex.ee f1), ok, hm.mono f1, p1, Nat.zero_le _, ins_refl _, by rw [td]; show d * b - 0 < 7; omega, fun v1 H4 f2 hm4 r1 => ?_⟩
  have f12 := ExE.trans (Ex.ee f1) f2
  refine ⟨_, rfl, x, tdx, _, rfl, f12 _ _ hxa (fun _ z => nomatch z), fn_Telling_told _, two_line, fun t2 h2 => ?_⟩
  have f3 : Ex H4 (upd H4 t2 (.tup [.int 0, .int 0])) := Ex.new h2
  have p2 : PT (.ref t2) (0, 0) (upd H4 t2 (.tup [.int 0, .int 0])) := ⟨t2, rfl, upd_same⟩
  generalize upd H4 t2 (.tup [.int 0, .int 0]) = H5 at f3 p2 ⊢
  have f13 := ExE.trans f12 (Ex.ee f3)
  refine ⟨x, m, _, t, (0, 0), rfl, ht.me f13, ok, hm4.mono f3, p2, Nat.zero_le _, ins_refl _, by rw [td]; show d * b - 0 ≤ 7; omega, fun v2 H6 f4 hm6 r2 => ⟨two_line, fun l hl => ?_⟩⟩
  have f14 := ExE.trans f13 f4
  have r1 := (r1.mono f3).me f4
  have f5 : Ex H6 (upd H6 l (.lst [v1, v2])) := Ex.new hl
  have hl6 : upd H6 l (.lst [v1, v2]) l = some (.lst [v1, v2]) := upd_same
  generalize upd H6 l (.lst [v1, v2]) = H7 at f5 hl6 ⊢
  have f15 := ExE.trans f14 (Ex.ee f5)
  have i1 : Items RowV [t.env.way .needed (0, 0)] [v1] H7 := Items.snoc (R := RowV) (ys := []) Items.nil (r1.mono f5)
  have i2 : Items RowV [t.env.way .needed (0, 0), t.env.told t.env.way (0, 0)] [v1, v2] H7 := Items.snoc (R := RowV) i1 (r2.mono f5)
  refine ⟨_, rfl, x, tdx, _, rfl, f15 _ _ hxa (fun _ z => nomatch z), fn_Telling_least _, _, rfl, _, l, _, _, rfl, hl6, i2, by show 2 ≤ 10; decide, fun v H8 f6 rv => ?_⟩
  obtain ⟨⟨n, rows⟩, hdp⟩ := Env.dp_some ok.fit
  have hle : least [t.env.way .needed (0, 0), t.env.told t.env.way (0, 0)] = some (n, rows) := hdp
  rw [hle] at rv
  obtain ⟨ta, ra, rs, rfl, hta, hra, its⟩ := (show RowT (n, rows) v H8 from rv)
  have k := k n rows hdp
  refine ⟨ta, _, 1, _, rfl, rfl, SqT.of hta, rfl, ?_⟩
  obtain ⟨z1, z2⟩ := items_gP its
  refine ⟨ra, rs, rfl, SqT.of hra, fun y hy => ?_, fun ys q s1 s2 hq => ?_⟩
  · obtain ⟨p, _, a, rfl, ha⟩ := z1 y hy
    exact ⟨a, _, _, rfl, ha⟩
  obtain ⟨pm, ito, _⟩ := sorted_pres z1 z2 s1 s2
  have f7 : Ex H8 (upd H8 q (.lst ys)) := Ex.new hq
  refine ⟨q, ys, rfl, .inl ⟨SqL.of upd_same, fun o ho => ?_⟩⟩
  have f8 := Ex.new (o := .tup ys) ho
  have f18 := ExE.trans (ExE.trans f15 (Ex.ee f6)) (Ex.ee (f7.trans f8))
  exact k _ _ (ExE.trans (Ex.ee e3) f18) ⟨o, ys, _, rfl, upd_same, pm, ito.map fun _ _ _ r => PT.mono r (f7.trans f8)⟩
end
end FW
namespace FW
open PySem L2 FC Evl
/-- where the drawing stands: [script, n] -/
def DrawAt (K : PySem.W.Frag) (dr sc : Addr) (ns : List Int) (H : Hp) : Prop := ∃ (n : Int), H dr = some (.lst [.ref sc, .int n]) ∧ SqL K H sc (ns.map V.int)
theorem sql_bt {K : PySem.W.Frag} {H H' : Hp} {dr sc : Addr} {xs : List V} {ns : List Int} {s : Addr} (hd : H dr = some (.lst (.ref s :: xs))) (h : SqL K H sc (ns.map V.int)) (e : But dr H H') : SqL K H' sc (ns.map V.int) := by
  rcases h with h | h
  · left
    have ne : sc ≠ dr := fun z => by
      subst z
      rcases h with h | ⟨o, h⟩
      · rw [hd] at h
        injection h with h
        injection h with h
        cases ns with
        | nil => cases h
        | cons a b => injection h with h _; cases h
      · rw [hd] at h; cases h
    rcases h with h | ⟨o, h⟩
    · exact .inl (e _ _ h ne)
    · exact .inr ⟨o, e _ _ h ne⟩
  · exact .inr h
theorem DrawAt.mono {K : PySem.W.Frag} {dr sc : Addr} {ns : List Int} {H H' : Hp} (h : DrawAt K dr sc ns H) (e : Ex H H') : DrawAt K dr sc ns H' := let ⟨n, h1, h2⟩ := h; ⟨n, e _ _ h1, ex_l e h2⟩
theorem DrawAt.bt {K : PySem.W.Frag} {dr sc : Addr} {ns : List Int} {H H' : Hp} {n : Int} (h : DrawAt K dr sc ns H) (e : But dr H H') (h2 : H' dr = some (.lst [.ref sc, .int n])) : DrawAt K dr sc ns H' := let ⟨_, h1, h3⟩ := h; ⟨n, h2, sql_bt h1 h3 e⟩
def spNumber (K : PySem.W.Frag) : Sp := fun vs H Q _ => ∃ (sc : Addr) (i : Int) (ns : List Int), vs = [.ref sc, .int i] ∧ SqL K H sc (ns.map V.int) ∧ ∀ r H2, Ex H H2 → Q (.int r) H2
def spTake (K : PySem.W.Frag) : Sp := fun vs H Q _ => ∃ (dr sc : Addr) (ns : List Int) (m : Nat), vs = [.ref dr, .int m] ∧ 0 < m ∧ DrawAt K dr sc ns H ∧ ∀ (r : Nat) H2, r < m → But dr H H2 → DrawAt K dr sc ns H2 → Q (.int r) H2
def spPick (K : PySem.W.Frag) : Sp := fun vs H Q _ => ∃ (dr sc l : Addr) (ns : List Int) (xs : List V), vs = [.ref dr, .ref l] ∧ 0 < xs.length ∧ DrawAt K dr sc ns H ∧ H l = some (.lst xs) ∧ l ≠ dr ∧ ∀ (i : Nat) v H2, xs[i]? = some v → But dr H H2 → DrawAt K dr sc ns H2 → Q v H2
theorem ints_shaped (ns : List Int) : SeqAt.shaped (.list (ns.map PyData.int)) = true := by
  have h : PyData.canLayAll0 (ns.map PyData.int) = true ∧ PyData.depthAll (ns.map PyData.int) ≤ 0 := by
    induction ns with
    | nil => exact ⟨rfl, Nat.le_refl _⟩
    | cons x ns ih =>
      rw [List.map_cons, PyData.canLayAll0, PyData.depthAll, ih.1]
      exact ⟨rfl, Nat.max_le.mpr ⟨Nat.le_refl _, ih.2⟩⟩
  unfold SeqAt.shaped
  rw [PyData.canLay0, PyData.depth, h.1, Bool.true_and]
  exact decide_eq_true (by omega)
theorem ints_dp {K : PySem.W.Frag} {H : Hp} : ∀ ns : List Int, DpAll K H (ns.map V.int) (ns.map PyData.int)
  | [] => .nil
  | n :: ns => .cons (.int n) (ints_dp ns)
theorem CMul_r {i : Int} (j : Int) (h : (-(2 ^ 64) < j ∧ j < 2 ^ 64) := by decide) : CMul i j := .inr h
section
variable {P : Program} {w : World} {K : PySem.W.Frag} {mg : Str → Option Value} {base : Heap}
theorem ok_l_number (T : Txt K mg) : FnOk P w K mg base CX0 1 T.f_l_number T.d_l_number ["_law_script", "_law_index"] (spNumber K) := by
  refine T.F_l_number.ok sc_l_number (fun vs H Q E h => ?_) (fun cdv A outer s H vs Q E hr h => ?_)
  · obtain ⟨_, _, _, rfl, _⟩ := h; rfl
  obtain ⟨sc, i, ns, rfl, hs, k⟩ := h
  have nd := sc_l_number.nd
  refine ⟨_, (pss_cons (ps_if (pt_cmpR (op_eqD hr.units) (pv 0) (pe_lst pa_nil) (nomark _)) (pss_one (ps_ret (pe_callTy call_int1 (by rfl) T.z_int (by decide +kernel) (pa_cons (pe_op op_mod (pe_op op_add (pe_op op_mul (pv 1) pe_int) pe_int) pe_int) pa_nil)))) pss_nil)
      (pss_cons (ps_set (i := 2) nd rfl (Or.inl rfl) (pe_ix ix_list (pv 0) (pe_op op_mod (pv 1) (pe_callB call_len_seq (by rfl) T.z_len (by decide +kernel) (pa_cons (pv 0) pa_nil))) (fun _ _ => rfl)))
      (pss_cons (ps_if (pt_cmpR op_ge (pe_callB call_abs (by rfl) T.z_abs (by decide +kernel) (pa_cons (pv 2) pa_nil)) (pe_op op_pow pe_int pe_int) (nomark _)) (pss_one (ps_set (i := 2) nd rfl (Or.inl rfl) (pe_op op_mod (pv 2) (pe_op op_pow pe_int pe_int)))) pss_nil)
      (pss_cons (ps_set (i := 3) nd rfl (Or.inl rfl) (pe_op op_mod (pe_op op_add (pe_op op_mul (pe_op op_add (pv 2) (pe_op op_mul pe_int (pv 1))) pe_int) (pe_op op_mul pe_int (pe_callB call_len_seq (by rfl) T.z_len (by decide +kernel) (pa_cons (pv 0) pa_nil)))) pe_int))
      (pss_one (ps_ret (pe_callTy call_int1 (by rfl) T.z_int (by decide +kernel) (pa_cons (pe_op op_mod (pe_op op_add (pe_op op_mul (pe_op op_mod (pe_op op_mul (pv 3) pe_int) pe_int) pe_int) (pv 1)) pe_int) pa_nil)))))))), ?_⟩
  refine ⟨_, rfl, Nat.zero_le _, fun q hq => ?_⟩
  have e1 : Ex H (upd H q (.lst [])) := Ex.new hq
  refine ⟨_, _, .lst (ex_l e1 hs) (ints_dp ns), .lst (SqL.of upd_same) .nil, ints_shaped ns, rfl, _, rfl, ?_⟩
  have hs1 := ex_l e1 hs
  generalize upd H q (.lst []) = H1 at e1 hs1 ⊢
  rw [rows_nil]
  refine ite2 (fun c => ?_) (fun c => ?_)
  · exact ⟨_, rfl, _, _, rfl, rfl, CMul_r _, _, _, rfl, rfl, _, _, rfl, rfl, (show (0 : Int) < 2147483647 by decide), .inl ⟨_, rfl, k _ _ e1⟩⟩
  have hne : 0 < ns.length := by
    rcases ns with _ | ⟨a, b⟩
    · exact absurd rfl c
    · exact Nat.zero_lt_succ _
  have hlen : ((ns.map V.int).length : Int) = (ns.length : Int) := by rw [List.length_map]
  refine ⟨_, rfl, _, rfl, _, rfl, sc, _, rfl, .inl hs1, _, _, rfl, rfl, ?_, ?_⟩
  · show (0 : Int) < ((ns.map V.int).length : Int)
    rw [hlen]; omega
  have hm0 : 0 ≤ i % ((ns.map V.int).length : Int) := Int.emod_nonneg _ (by rw [hlen]; omega)
  have hm1 : i % ((ns.map V.int).length : Int) < ((ns.map V.int).length : Int) := Int.emod_lt_of_pos _ (by rw [hlen]; omega)
  obtain ⟨j, hj⟩ : ∃ j : Nat, i % ((ns.map V.int).length : Int) = (j : Int) := ⟨(i % ((ns.map V.int).length : Int)).toNat, by omega⟩
  have hjl : j < ns.length := by rw [hj, hlen] at hm1; omega
  have hv : (ns.map V.int)[j]? = some (.int ns[j]) := by rw [List.getElem?_map, List.getElem?_eq_getElem hjl]; rfl
  refine ⟨sc, _, _, _, rfl, rfl, hs1, at_of hj hv, ?_⟩
  generalize ns[j] = c1
  refine gn ?_
  dsimp only
  refine seq_join (t := tIfS _ _ _) (fun σ' H' => H' = H1 ∧ ∃ c2 : Int, σ' = [some (.ref sc), some (.int i), some (.int c2), none]) (fun kk => ?_) ?_
  · refine ⟨_, rfl, c1, rfl, _, _, rfl, rfl, ⟨by decide, by decide, by decide⟩, _, _, rfl, rfl, _, rfl, ?_⟩
    refine ite2 (fun c => ?_) (fun c => ?_)
    · refine ⟨_, rfl, _, _, rfl, rfl, ⟨by decide, by decide, by decide⟩, _, _, rfl, rfl, ?_, kk _ _ ⟨rfl, _, rfl⟩⟩
      show (0 : Int) < 10 ^ (18 : Int).toNat
      decide
    · exact kk _ _ ⟨rfl, c1, rfl⟩
  · rintro σ' H' ⟨rfl, c2, rfl⟩
    refine ⟨_, rfl, _, rfl, _, _, rfl, rfl, .inl ⟨by decide, by decide⟩, _, _, rfl, rfl, _, _, rfl, rfl, CMul_r _, _, rfl, sc, _, rfl, .inl hs1, _, _, rfl, rfl, .inl ⟨by decide, by decide⟩, _, _, rfl, rfl, _, _, rfl, rfl, (show (0 : Int) < 2147483647 by decide), ?_⟩
    exact ⟨_, rfl, _, _, rfl, rfl, CMul_r _, _, _, rfl, rfl, (show (0 : Int) < 2147483629 by decide), _, _, rfl, rfl, CMul_r _, _, rfl, _, _, rfl, rfl, _, _, rfl, rfl, (show (0 : Int) < 2147483587 by decide), .inl ⟨_, rfl, k _ _ e1⟩⟩
theorem ok_l_take (T : Txt K mg) : FnOk P w K mg base CX0 2 T.f_l_take T.d_l_take ["_law_draw", "_law_many"] (spTake K) := by
  refine T.F_l_take.ok sc_l_take (fun vs H Q E h => ?_) (fun cdv A outer s H vs Q E hr h => ?_)
  · obtain ⟨_, _, _, _, rfl, _⟩ := h; rfl
  obtain ⟨dr, sc, ns, m, rfl, hm, ⟨n, hd, hs⟩, k⟩ := h
  have nd := sc_l_take.nd
  refine ⟨_, (pss_cons (ps_augS (pv 0) pe_int get_list pe_int ip_add set_list)
      (pss_one (ps_ret (pe_op op_mod (pe_callTy call_int1 (by rfl) T.z_int (by decide +kernel) (pa_cons (pe_call (ok_l_number T) (hr.mono (by decide)) (by rfl) T.mg_l_number T.F_l_number.kp T.b_l_number .nil pass0 (pa_cons (pe_ix ix_list (pv 0) pe_int (fun _ _ => rfl)) (pa_cons (pe_callTy call_int1 (by rfl) T.z_int (by decide +kernel) (pa_cons (pe_ix ix_list (pv 0) pe_int (fun _ _ => rfl)) pa_nil)) pa_nil))) pa_nil)) (pv 1))))), ?_⟩
  refine ⟨_, rfl, dr, _, 1, _, rfl, rfl, SqL.of hd, rfl, by decide, ?_⟩
  refine ⟨n, 1, rfl, rfl, dr, _, 1, 1, rfl, rfl, hd, rfl, ?_⟩
  dsimp only [List.set]
  have b1 : But dr H (upd H dr (.lst [.ref sc, .int (n + 1)])) := fun c o hc ne => (upd_ne ne).trans hc
  have hd1 : upd H dr (.lst [.ref sc, .int (n + 1)]) dr = some (.lst [.ref sc, .int (n + 1)]) := upd_same
  have hs1 := sql_bt hd hs b1
  generalize upd H dr (.lst [.ref sc, .int (n + 1)]) = H1 at b1 hd1 hs1 ⊢
  refine ⟨_, rfl, dr, _, 0, _, rfl, rfl, SqL.of hd1, rfl, _, rfl, dr, _, 1, _, rfl, rfl, SqL.of hd1, rfl, .inl ⟨_, rfl, ?_⟩⟩
  refine ⟨sc, n + 1, ns, rfl, hs1, fun r H2 e2 => .inl ⟨_, rfl, _, rfl, _, _, rfl, rfl, ?_, ?_⟩⟩
  · show (0 : Int) < (m : Int)
    omega
  · have h0 : 0 ≤ r % (m : Int) := Int.emod_nonneg _ (by omega)
    have h1 : r % (m : Int) < (m : Int) := Int.emod_lt_of_pos _ (by omega)
    have := k (r % (m : Int)).toNat H2 (by omega) (fun c o hc ne => e2 _ _ (b1 c o hc ne)) ⟨n + 1, e2 _ _ hd1, ex_l e2 hs1⟩
    rw [Int.toNat_of_nonneg h0] at this
    exact this
theorem ok_l_pick (T : Txt K mg) : FnOk P w K mg base CX0 3 T.f_l_pick T.d_l_pick ["_law_draw", "_law_items"] (spPick K) := by
  refine T.F_l_pick.ok sc_l_pick (fun vs H Q E h => ?_) (fun cdv A outer s H vs Q E hr h => ?_)
  · obtain ⟨_, _, _, _, _, rfl, _⟩ := h; rfl
  obtain ⟨dr, sc, l, ns, xs, rfl, hx, hd, hl, hne, k⟩ := h
  have nd := sc_l_pick.nd
  refine ⟨_, (pss_one (ps_ret (pe_ix ix_list (pv 1) (pe_call (ok_l_take T) (hr.mono (by decide)) (by rfl) T.mg_l_take T.F_l_take.kp T.b_l_take .nil pass0 (pa_cons (pv 0) (pa_cons (pe_callB call_len_seq (by rfl) T.z_len (by decide +kernel) (pa_cons (pv 1) pa_nil)) pa_nil))) (fun _ _ => rfl)))), ?_⟩
  refine ⟨_, rfl, _, rfl, _, rfl, l, xs, rfl, .inl (SqL.of hl), dr, sc, ns, xs.length, rfl, hx, hd, fun r H2 hr' b2 hd2 => ?_⟩
  have hv := List.getElem?_eq_getElem hr'
  exact ⟨l, xs, _, _, rfl, rfl, SqL.of (b2 _ _ hl hne), atI_nat hv, k r _ H2 hv b2 hd2⟩
end
end FW
namespace FW
open PySem L2 FC Evl
theorem Ex.but {x : Addr} {H H' : Hp} (e : Ex H H') : But x H H' := fun c o hc _ => e c o hc
theorem But.trans {x : Addr} {H H1 H2 : Hp} (e : But x H H1) (e2 : But x H1 H2) : But x H H2 := fun c o hc n => e2 c o (e c o hc n) n
theorem But.tl {x : Addr} {H H' : Hp} (e : But x H H') {zs xs : List V} (hx : H x = some (.lst zs)) {c : Addr} (h : H c = some (.tup xs)) : H' c = some (.tup xs) := e c _ h fun z => by subst z; rw [h] at hx; cases hx
theorem PT.bl {x : Addr} {v : V} {p : Pre} {H H' : Hp} {zs : List V} (h : PT v p H) (e : But x H H') (hx : H x = some (.lst zs)) : PT v p H' := let ⟨a, e1, e2⟩ := h; ⟨a, e1, e.tl hx e2⟩
theorem PtT.bl {x : Addr} {v : V} {p : List Nat} {H H' : Hp} {zs : List V} (h : PtT v p H) (e : But x H H') (hx : H x = some (.lst zs)) : PtT v p H' := let ⟨a, e1, e2⟩ := h; ⟨a, e1, e.tl hx e2⟩
theorem SpaceAt.bl {x : Addr} {v : V} {S : Addr} {d b : Nat} {H H' : Hp} {zs : List V} (h : SpaceAt S d b v H) (e : But x H H') (hx : H x = some (.lst zs)) : SpaceAt S d b v H' := h.but2 e fun _ _ _ z => by rw [hx] at z; cases z
def spLSpace (K : PySem.W.Frag) (C : Addr) : Sp := fun vs H Q _ => ∃ (dr sc : Addr) (ns : List Int), vs = [.ref dr] ∧ DrawAt K dr sc ns H ∧ ∀ d b v H2, But dr H H2 → DrawAt K dr sc ns H2 → SpaceAt C d b v H2 → Q v H2
abbrev PtTi : List Nat → V → Hp → Prop := fun pt v H => PtT v pt H
def spLAll (C : Addr) : Sp := fun vs H Q _ => ∃ (s : V) (d b : Nat), vs = [s] ∧ SpaceAt C d b s H ∧ RetP (fun v H2 => ∃ a ys, v = .ref a ∧ H a = none ∧ H2 a = some (.lst ys) ∧ Items PtTi (allPts (2 ^ b) d) ys H2) H Q
def spLPrefixes (C : Addr) : Sp := fun vs H Q _ => ∃ (s : V) (d b : Nat), vs = [s] ∧ SpaceAt C d b s H ∧ RetP (fun v H2 => ∃ a ys, v = .ref a ∧ H2 a = some (.lst ys) ∧ Items PTi (pres (d * b)) ys H2) H Q
theorem allPts_len (side : Nat) : ∀ d, (allPts side d).length = side ^ d
  | 0 => rfl
  | d + 1 => by
    show (longer side (allPts side d)).length = _
    unfold longer
    rw [List.length_flatMap, Nat.pow_succ]
    have : ((allPts side d).map fun row => ((List.range side).map fun pl => row ++ [pl]).length) = (allPts side d).map fun _ => side := List.map_congr_left fun x _ => by rw [List.length_map, List.length_range]
    rw [this, List.map_const', List.sum_replicate_nat, allPts_len side d]
theorem allPts_row (side : Nat) : ∀ d, ∀ row ∈ allPts side d, row.length = d
  | 0, row, h => by rw [List.mem_singleton.mp h]; rfl
  | d + 1, row, h => by
    have h : row ∈ longer side (allPts side d) := h
    unfold longer at h
    obtain ⟨r, hr, h⟩ := List.mem_flatMap.mp h
    obtain ⟨pl, _, rfl⟩ := List.mem_map.mp h
    rw [List.length_append, allPts_row side d r hr]; rfl
section
variable {P : Program} {w : World} {K : PySem.W.Frag} {mg : Str → Option Value} {base : Heap}
theorem ok_l_space (T : Txt K mg) : FnOk P w K mg base CX0 4 T.f_l_space T.d_l_space ["_law_draw"] (spLSpace K T.C_Space) := by
  refine T.F_l_space.ok sc_l_space (fun vs H Q E h => ?_) (fun cdv A outer s H vs Q E hr h => ?_)
  · obtain ⟨_, _, _, rfl, _⟩ := h; rfl
  obtain ⟨dr, sc, ns, rfl, hd, k⟩ := h
  have nd := sc_l_space.nd
  obtain ⟨n, hdr, hsc⟩ := id hd
  refine ⟨_, (pss_cons (ps_asg (pe_call (ok_l_pick T) (hr.mono (by decide)) (by rfl) T.mg_l_pick T.F_l_pick.kp T.b_l_pick .nil pass0 (pa_cons (pv 0) (pa_cons (pe_lst (pa_cons (pe_tup (pa_cons pe_int (pa_cons pe_int pa_nil))) (pa_cons (pe_tup (pa_cons pe_int (pa_cons pe_int pa_nil))) (pa_cons (pe_tup (pa_cons pe_int (pa_cons pe_int pa_nil))) (pa_cons (pe_tup (pa_cons pe_int (pa_cons pe_int pa_nil))) (pa_cons (pe_tup (pa_cons pe_int (pa_cons pe_int pa_nil))) (pa_cons (pe_tup (pa_cons pe_int (pa_cons pe_int pa_nil))) (pa_cons (pe_tup (pa_cons pe_int (pa_cons pe_int pa_nil))) (pa_cons (pe_tup (pa_cons pe_int (pa_cons pe_int pa_nil))) pa_nil))))))))) pa_nil))) (pg_tup (by rfl) (pgs_cons (pg_name (i := 1) nd rfl (Or.inl rfl)) (pgs_cons (pg_name (i := 2) nd rfl (Or.inl rfl)) pgs_nil))))
      (pss_one (ps_ret (pe_make T.mk_Space (ok_Space_init T) (hr.mono (by decide)) (by rfl) T.mg_Space T.b_Space_init .nil pass0 (pa_cons (pv 1) (pa_cons (pv 2) pa_nil)))))), ?_⟩
  refine ⟨_, rfl, ?_⟩
  refine ⟨two_line, fun t1 g1 => ?_⟩
  have f1 : Ex H (upd H t1 (.tup [.int 1, .int 1])) := Ex.new g1
  have u1 : PT (.ref t1) (1, 1) (upd H t1 (.tup [.int 1, .int 1])) := ⟨t1, rfl, upd_same⟩
  generalize upd H t1 (.tup [.int 1, .int 1]) = J1 at f1 u1 ⊢
  refine ⟨two_line, fun t2 g2 => ?_⟩
  have f2 : Ex J1 (upd J1 t2 (.tup [.int 1, .int 3])) := Ex.new g2
  have u2 : PT (.ref t2) (1, 3) (upd J1 t2 (.tup [.int 1, .int 3])) := ⟨t2, rfl, upd_same⟩
  generalize upd J1 t2 (.tup [.int 1, .int 3]) = J2 at f2 u2 ⊢
  refine ⟨two_line, fun t3 g3 => ?_⟩
  have f3 : Ex J2 (upd J2 t3 (.tup [.int 1, .int 5])) := Ex.new g3
  have u3 : PT (.ref t3) (1, 5) (upd J2 t3 (.tup [.int 1, .int 5])) := ⟨t3, rfl, upd_same⟩
  generalize upd J2 t3 (.tup [.int 1, .int 5]) = J3 at f3 u3 ⊢
  refine ⟨two_line, fun t4 g4 => ?_⟩
  have f4 : Ex J3 (upd J3 t4 (.tup [.int 2, .int 1])) := Ex.new g4
  have u4 : PT (.ref t4) (2, 1) (upd J3 t4 (.tup [.int 2, .int 1])) := ⟨t4, rfl, upd_same⟩
  generalize upd J3 t4 (.tup [.int 2, .int 1]) = J4 at f4 u4 ⊢
  refine ⟨two_line, fun t5 g5 => ?_⟩
  have f5 : Ex J4 (upd J4 t5 (.tup [.int 2, .int 2])) := Ex.new g5
  have u5 : PT (.ref t5) (2, 2) (upd J4 t5 (.tup [.int 2, .int 2])) := ⟨t5, rfl, upd_same⟩
  generalize upd J4 t5 (.tup [.int 2, .int 2]) = J5 at f5 u5 ⊢
  refine ⟨two_line, fun t6 g6 => ?_⟩
  have f6 : Ex J5 (upd J5 t6 (.tup [.int 2, .int 3])) := Ex.new g6
  have u6 : PT (.ref t6) (2, 3) (upd J5 t6 (.tup [.int 2, .int 3])) := ⟨t6, rfl, upd_same⟩
  generalize upd J5 t6 (.tup [.int 2, .int 3]) = J6 at f6 u6 ⊢
  refine ⟨two_line, fun t7 g7 => ?_⟩
  have f7 : Ex J6 (upd J6 t7 (.tup [.int 3, .int 1])) := Ex.new g7
  have u7 : PT (.ref t7) (3, 1) (upd J6 t7 (.tup [.int 3, .int 1])) := ⟨t7, rfl, upd_same⟩
  generalize upd J6 t7 (.tup [.int 3, .int 1]) = J7 at f7 u7 ⊢
  refine ⟨two_line, fun t8 g8 => ?_⟩
  have f8 : Ex J7 (upd J7 t8 (.tup [.int 3, .int 2])) := Ex.new g8
  have u8 : PT (.ref t8) (3, 2) (upd J7 t8 (.tup [.int 3, .int 2])) := ⟨t8, rfl, upd_same⟩
  generalize upd J7 t8 (.tup [.int 3, .int 2]) = J8 at f8 u8 ⊢
  refine ⟨(by show 8 ≤ sizeLine; decide), fun l hl => ?_⟩
  have f9 : Ex J8 (upd J8 l (.lst [.ref t1, .ref t2, .ref t3, .ref t4, .ref t5, .ref t6, .ref t7, .ref t8])) := Ex.new hl
  have hll : upd J8 l (.lst [.ref t1, .ref t2, .ref t3, .ref t4, .ref t5, .ref t6, .ref t7, .ref t8]) l = some (.lst [.ref t1, .ref t2, .ref t3, .ref t4, .ref t5, .ref t6, .ref t7, .ref t8]) := upd_same
  generalize upd J8 l (.lst [.ref t1, .ref t2, .ref t3, .ref t4, .ref t5, .ref t6, .ref t7, .ref t8]) = J9 at f9 hll ⊢
  have q8 : Ex J7 J9 := f8.trans f9
  have q7 : Ex J6 J9 := f7.trans q8
  have q6 : Ex J5 J9 := f6.trans q7
  have q5 : Ex J4 J9 := f5.trans q6
  have q4 : Ex J3 J9 := f4.trans q5
  have q3 : Ex J2 J9 := f3.trans q4
  have q2 : Ex J1 J9 := f2.trans q3
  have q1 : Ex H J9 := f1.trans q2
  have i1 : Items PTi [(1, 1)] [V.ref t1] J9 := Items.snoc (R := PTi) (ys := []) (y := (1, 1)) Items.nil (PT.mono u1 q2)
  have i2 : Items PTi [(1, 1), (1, 3)] [V.ref t1, V.ref t2] J9 := Items.snoc (R := PTi) (y := (1, 3)) i1 (PT.mono u2 q3)
  have i3 : Items PTi [(1, 1), (1, 3), (1, 5)] [V.ref t1, V.ref t2, V.ref t3] J9 := Items.snoc (R := PTi) (y := (1, 5)) i2 (PT.mono u3 q4)
  have i4 : Items PTi [(1, 1), (1, 3), (1, 5), (2, 1)] [V.ref t1, V.ref t2, V.ref t3, V.ref t4] J9 := Items.snoc (R := PTi) (y := (2, 1)) i3 (PT.mono u4 q5)
  have i5 : Items PTi [(1, 1), (1, 3), (1, 5), (2, 1), (2, 2)] [V.ref t1, V.ref t2, V.ref t3, V.ref t4, V.ref t5] J9 := Items.snoc (R := PTi) (y := (2, 2)) i4 (PT.mono u5 q6)
  have i6 : Items PTi [(1, 1), (1, 3), (1, 5), (2, 1), (2, 2), (2, 3)] [V.ref t1, V.ref t2, V.ref t3, V.ref t4, V.ref t5, V.ref t6] J9 := Items.snoc (R := PTi) (y := (2, 3)) i5 (PT.mono u6 q7)
  have i7 : Items PTi [(1, 1), (1, 3), (1, 5), (2, 1), (2, 2), (2, 3), (3, 1)] [V.ref t1, V.ref t2, V.ref t3, V.ref t4, V.ref t5, V.ref t6, V.ref t7] J9 := Items.snoc (R := PTi) (y := (3, 1)) i6 (PT.mono u7 q8)
  have i8 : Items PTi [(1, 1), (1, 3), (1, 5), (2, 1), (2, 2), (2, 3), (3, 1), (3, 2)] [V.ref t1, V.ref t2, V.ref t3, V.ref t4, V.ref t5, V.ref t6, V.ref t7, V.ref t8] J9 := Items.snoc (R := PTi) (y := (3, 2)) i7 (PT.mono u8 f9)
  have hdr9 := q1 _ _ hdr
  have hne : l ≠ dr := fun z => by
    rw [z] at hl
    rw [f8 _ _ (f7 _ _ (f6 _ _ (f5 _ _ (f4 _ _ (f3 _ _ (f2 _ _ (f1 _ _ hdr)))))))] at hl
    cases hl
  refine ⟨dr, sc, l, ns, _, rfl, (by show 0 < 8; decide), hd.mono q1, hll, hne, fun i v H2 hv b2 hd2 => ?_⟩
  obtain ⟨s, hs, hp⟩ := i8.at hv
  obtain ⟨d, b⟩ := s
  have hsp : (d, b) ∈ spaces := List.mem_of_getElem? hs
  obtain ⟨t, rfl, ht⟩ := PT.bl hp b2 hdr9
  refine ⟨t, _, rfl, SqT.of ht, rfl, ⟨_, _, rfl, ⟨_, _, rfl, rfl, ?_⟩⟩⟩
  refine ⟨_, rfl, _, rfl, fun x dx nx ndx ne => ⟨x, dx, d, b, rfl, upd_same, hsp, fun H3 bt h3 => ⟨rfl, ?_⟩⟩⟩
  have e3 := made_ex nx ndx bt
  exact k d b _ H3 (But.trans (Ex.but q1) (But.trans b2 (Ex.but e3))) (hd2.mono e3) h3
theorem ok_l_all (T : Txt K mg) : FnOk P w K mg base CX0 1 T.f_l_all T.d_l_all ["_law_space_here"] (spLAll T.C_Space) := by
  refine T.F_l_all.ok sc_l_all (fun vs H Q E h => ?_) (fun cdv A outer s H vs Q E hr h => ?_)
  · obtain ⟨_, _, _, rfl, _⟩ := h; rfl
  obtain ⟨sv, d, b, rfl, hs, k⟩ := h
  have nd := sc_l_all.nd
  obtain ⟨hsp, a, dx, rfl, ha⟩ := id hs
  have hD := sp_le hsp
  refine ⟨_, (pss_cons (ps_set (i := 1) nd rfl (Or.inl rfl) (pe_lst (pa_cons (pe_tup pa_nil) pa_nil)))
      (pss_cons (ps_for PassesOwn.never (by rfl) (pi_range1 (by rfl) T.z_range (pa_cons (pe_fld (pv 0) (by rfl)) pa_nil)) (pg_name (i := 2) nd rfl (Or.inl rfl))
      (pss_cons (ps_set (i := 3) nd rfl (Or.inl rfl) (pe_lst pa_nil))
      (pss_cons (ps_for PassesOwn.never (by rfl) (pi_list (pv 1)) (pg_name (i := 4) nd rfl (Or.inr rfl))
      (pss_one (ps_set (i := 3) nd rfl (Or.inl rfl) (pe_op op_cat (pv 3) (pe_lc (own := [("_law_place", 5)]) (g := gName 5) (tt := tYes) (by rfl) nd (pi_range1 (by rfl) T.z_range (pa_cons (pe_fld (pv 0) (by rfl)) pa_nil)) (blkOk_by (own := [("_law_place", 5)]) (N := N_l_all) (sc := defScope s_l_all) (by decide +kernel)) (fun _ _ _ _ _ => (pg_name (i := 5) nd rfl (Or.inl rfl))) (fun _ _ _ _ _ => pts_nil) (fun _ _ _ _ _ => (pe_op (op_catAK (K := K) rfl) (pv 4) (pe_tup (pa_cons (pv 5) pa_nil)))))))))
      (pss_one (ps_set (i := 1) nd rfl (Or.inl rfl) (pv 3))))))
      (pss_one (ps_ret (pv 1))))), ?_⟩
  refine ⟨Nat.zero_le _, fun t ht => ⟨(by show 1 ≤ sizeLine; decide), fun l hl => ?_⟩⟩
  have hl0 : H l = none := fresh_back (Ex.new ht) hl
  have e1 : Ex H (upd (upd H t (.tup [])) l (.lst [.ref t])) := (Ex.new ht).trans (Ex.new hl)
  have hl1 : upd (upd H t (.tup [])) l (.lst [.ref t]) l = some (.lst [.ref t]) := upd_same
  have i1 : Items PtTi [[]] [.ref t] (upd (upd H t (.tup [])) l (.lst [.ref t])) := Items.snoc (R := PtTi) (ys := []) Items.nil ⟨t, rfl, (Ex.new hl) _ _ upd_same⟩
  generalize upd (upd H t (.tup [])) l (.lst [.ref t]) = H1 at e1 hl1 i1 ⊢
  have hpow : ∀ i, i ≤ d → (2 ^ b) ^ i ≤ 64 := fun i hi => by
    rw [← Nat.pow_mul]
    have : b * i ≤ d * b := by rw [Nat.mul_comm d b]; exact Nat.mul_le_mul_left b hi
    have h2 : 2 ^ (b * i) ≤ 2 ^ 6 := Nat.pow_le_pow_right (by decide) (by omega)
    exact h2
  refine r_Space_dimensions T rfl (e1 _ _ ha) rfl ⟨(d : Int), rfl, by omega, by omega, for_range (n := (d : Int).toNat) (fun i σ H' => ∃ u1 u2 u3 u4 l' ys, σ = [some (.ref a), some (.ref l'), u1, u2, u3, u4] ∧ Ex H H' ∧ H l' = none ∧ H' l' = some (.lst ys) ∧ Items PtTi (allPts (2 ^ b) i) ys H') ⟨none, none, none, none, l, _, rfl, e1, hl0, hl1, i1⟩ ?_ ?_⟩
  · rintro i σ H2 hi ⟨u1, u2, u3, u4, l', ys, rfl, e2, hn2, hl2, i2⟩
    have hid : i < d := by omega
    have hbig := hpow (i + 1) hid
    rw [← allPts_len] at hbig
    have hll : (allPts (2 ^ b) i).length ≤ 64 := by rw [allPts_len]; exact hpow i (by omega)
    generalize hf : allPts (2 ^ b) i = fd at i2 hll
    have hlong : allPts (2 ^ b) (i + 1) = fd.flatMap fun row => (List.range (2 ^ b)).map fun pl => row ++ [pl] := by
      show longer (2 ^ b) (allPts (2 ^ b) i) = _
      rw [hf]; rfl
    rw [hlong] at hbig
    have ha2 := e2 _ _ ha
    refine ⟨Nat.zero_le _, fun g hg => ⟨_, rfl, l', rfl, ⟨_, SqL.of ((Ex.new hg) _ _ hl2)⟩, for_list (xs := ys) (fun j σ H' => ∃ lg zs u4 u5, σ = [some (.ref a), some (.ref l'), some (.int (0 + (i : Int))), some (.ref lg), u4, u5] ∧ Ex H2 H' ∧ H2 lg = none ∧ H' lg = some (.lst zs) ∧
      Items PtTi ((fd.take j).flatMap fun row => (List.range (2 ^ b)).map fun pl => row ++ [pl]) zs H') ⟨g, [], u3, u4, rfl, Ex.new hg, hg, upd_same, Items.nil⟩ (fun j σ H' _ h => ?_) ?_ ?_⟩⟩
    · obtain ⟨_, _, _, _, _, e, _⟩ := h
      exact SqL.of (e _ _ hl2)
    · rintro j y σ H3 hy ⟨lg, zs, u4, u5, rfl, e3, hn3, hl3, i3⟩
      obtain ⟨row, hrow, hry⟩ := i2.at hy
      obtain ⟨ra, rfl, hra⟩ := PtT.mono hry e3
      have hside : 2 ^ b ≤ 2 ^ 5 := Nat.pow_le_pow_right (by decide) (by omega)
      have hs0 : (0 : Int) ≤ ((2 ^ b : Nat) : Int) := Int.natCast_nonneg _
      have hs1 : ((2 ^ b : Nat) : Int) ≤ ((2 ^ 5 : Nat) : Int) := Int.ofNat_le.mpr hside
      have hs2 : (((2 ^ b : Nat) : Int)).toNat = 2 ^ b := Int.toNat_natCast _
      have hlenj : ((fd.take j).flatMap fun row => (List.range (2 ^ b)).map fun pl => row ++ [pl]).length + 2 ^ b ≤ 128 := by
        have : ((fd.take j).flatMap fun row => (List.range (2 ^ b)).map fun pl => row ++ [pl]).length ≤ (fd.flatMap fun row => (List.range (2 ^ b)).map fun pl => row ++ [pl]).length := by
          have hs : (fd.take j ++ fd.drop j) = fd := List.take_append_drop j fd
          have : (fd.flatMap fun row => (List.range (2 ^ b)).map fun pl => row ++ [pl]) = ((fd.take j).flatMap fun row => (List.range (2 ^ b)).map fun pl => row ++ [pl]) ++ ((fd.drop j).flatMap fun row => (List.range (2 ^ b)).map fun pl => row ++ [pl]) := by rw [← List.flatMap_append, hs]
          rw [this, List.length_append]; omega
        have h32 : 2 ^ b ≤ 32 := hside
        omega
      refine ⟨_, rfl, r_Space_side T rfl (e3 _ _ ha2) rfl ⟨((2 ^ b : Nat) : Int), rfl, by omega, by omega, fun Dl hD => ?_⟩⟩
      refine lc_gen (n := ((2 ^ b : Nat) : Int).toNat) (G := fun _ => True) walk_range (fun _ _ => trivial) (fun k v H => PtT v (row ++ [k]) H) (fun _ _ _ _ z h => h.ml z) (by omega) hD ?_ ?_
      · rintro k' x H4 H5 hk e4 ⟨rfl, rfl⟩ Q1 k1
        refine ⟨rfl, ?_⟩
        have hyr : PtT (.ref ra) row H5 := PtT.mono (⟨ra, rfl, hra⟩ : PtT (.ref ra) row H3) e4
        obtain ⟨_, er, hr5⟩ := hyr
        cases er
        refine ⟨_, rfl, _, rfl, (by show 1 ≤ sizeLine; decide), fun q hq => ?_⟩
        have e5 := Ex.new (o := .tup [.int (0 + (k' : Int))]) hq
        refine cat_go (e5 _ _ hr5) upd_same ?_ fun p H6 e6 hp => k1 _ H6 (e5.trans e6) ⟨p, rfl, ?_⟩
        · rw [List.length_map]
          show row.length + 1 ≤ 100000
          have := allPts_row (2 ^ b) i row (by rw [hf]; exact List.mem_of_getElem? hrow)
          omega
        · rw [hp, List.map_append]
          show some (HO.tup (_ ++ [V.int (0 + (k' : Int))])) = some (HO.tup (_ ++ [V.int (k' : Int)]))
          rw [Int.zero_add]
      · intro ws H4 e4 hw hwl hwr
        rw [hs2] at hwl
        have hl4 := e4 _ _ hl3
        refine ⟨lg, Dl, zs, ws, rfl, rfl, hl4, hw, ?_, fun q hq => ?_⟩
        · have h1 := i3.1
          have : sizeLine = 16777216 := sizeLine_eq
          omega
        · have e5 := Ex.new (o := .lst (zs ++ ws)) hq
          have e35 := e4.trans e5
          refine ⟨q, zs ++ ws, some (.ref ra), u5, rfl, e3.trans e35, ?_, upd_same, ?_⟩
          · cases c : H2 q with
            | none => rfl
            | some o => rw [e4 _ _ (e3 _ _ c)] at hq; cases hq
          · rw [take_snoc hrow, List.flatMap_append]
            refine Items.append (i3.map fun _ _ _ r => PtT.mono r e35) ?_
            show Items PtTi (((List.range (2 ^ b)).map fun pl => row ++ [pl]) ++ []) ws _
            rw [List.append_nil]
            refine ⟨by rw [hwl, List.length_map, List.length_range], fun i' y v hy hv => ?_⟩
            rw [List.getElem?_map] at hy
            obtain ⟨n, hn, rfl⟩ := Option.map_eq_some_iff.mp hy
            have hlt := (List.getElem?_eq_some_iff.mp hn).1
            rw [List.length_range] at hlt
            rw [List.getElem?_range hlt] at hn
            cases hn
            exact PtT.mono (hwr i' v hv) e5
    · rintro σ H3 ⟨lg, zs, u4, u5, rfl, e3, hn3, hl3, i3⟩
      rw [i2.1, List.take_length, ← hlong] at i3
      refine ⟨_, rfl, some (.int (0 + (i : Int))), some (.ref lg), u4, u5, lg, zs, rfl, e2.trans e3, ?_, hl3, i3⟩
      cases q : H lg with
      | none => rfl
      | some o => rw [e2 _ _ q] at hn3; cases hn3
  · rintro σ H2 ⟨u1, u2, u3, u4, l', ys, rfl, e2, hn2, hl2, i2⟩
    rw [show ((d : Int).toNat) = d by omega] at i2
    exact ⟨_, rfl, k _ _ e2 ⟨l', ys, rfl, hn2, hl2, i2⟩⟩
end
end FW
namespace FW
open PySem L2 FC Evl
def spLPoint (K : PySem.W.Frag) (C : Addr) : Sp := fun vs H Q _ => ∃ (dr sc : Addr) (ns : List Int) (s : V) (d b : Nat), vs = [.ref dr, s] ∧ DrawAt K dr sc ns H ∧ SpaceAt C d b s H ∧ ∀ pt v H2, Pnt d b pt → But dr H H2 → DrawAt K dr sc ns H2 → PtT v pt H2 → Q v H2
def spLPoints (K : PySem.W.Frag) (C : Addr) : Sp := fun vs H Q _ => ∃ (dr sc : Addr) (ns : List Int) (s : V) (d b : Nat), vs = [.ref dr, s] ∧ DrawAt K dr sc ns H ∧ SpaceAt C d b s H ∧ ∀ pts v H2, pts.Sublist (allPts (2 ^ b) d) → But dr H H2 → DrawAt K dr sc ns H2 → PtsT pts v H2 → Q v H2
def spLBox (K : PySem.W.Frag) (C B : Addr) : Sp := fun vs H Q _ => ∃ (dr sc : Addr) (ns : List Int) (s : V) (d b : Nat), vs = [.ref dr, s] ∧ DrawAt K dr sc ns H ∧ SpaceAt C d b s H ∧ ∀ lo hi v H2, But dr H H2 → DrawAt K dr sc ns H2 → BoxAt B C d b lo hi v H2 → Q v H2
theorem bt_new {dr Dl : Addr} {H1 H : Hp} {o : HO} (e : But dr H1 H) (hD : H1 Dl = none) : But dr H1 (upd H Dl o) := fun c u hc n => (upd_ne (ne_of_none hc hD)).trans (e c u hc n)
section
variable {P : Program} {w : World} {K : PySem.W.Frag} {mg : Str → Option Value} {base : Heap}
theorem ok_l_point (T : Txt K mg) : FnOk P w K mg base CX0 3 T.f_l_point T.d_l_point ["_law_draw", "_law_space_here"] (spLPoint K T.C_Space) := by
  refine T.F_l_point.ok sc_l_point (fun vs H Q E h => ?_) (fun cdv A outer s H vs Q E hr h => ?_)
  · obtain ⟨_, _, _, _, _, _, rfl, _⟩ := h; rfl
  obtain ⟨dr, sc, ns, sv, d, b, rfl, hd, hs, k⟩ := h
  have nd := sc_l_point.nd
  obtain ⟨hsp, a, dx, rfl, ha⟩ := id hs
  obtain ⟨n0, hdr, hsc⟩ := id hd
  have hD := sp_le hsp
  have hpos : 0 < 2 ^ b := Nat.pow_pos (by decide)
  refine ⟨_, (pss_one (ps_ret (pe_callTy call_tuple_of (by rfl) T.z_tuple (by decide +kernel) (pa_cons (pe_lc (own := [("_law_axis", 2)]) (g := gName 2) (tt := tYes) (by rfl) nd (pi_range1 (by rfl) T.z_range (pa_cons (pe_fld (pv 1) (by rfl)) pa_nil)) (blkOk_by (own := [("_law_axis", 2)]) (N := N_l_point) (sc := defScope s_l_point) (by decide +kernel)) (fun _ _ _ _ _ => (pg_name (i := 2) nd rfl (Or.inl rfl))) (fun _ _ _ _ _ => pts_nil) (fun _ _ _ _ _ => (pe_call (ok_l_take T) (hr.mono (by decide)) (by rfl) T.mg_l_take T.F_l_take.kp T.b_l_take .nil pass0 (pa_cons (pv 0) (pa_cons (pe_fldK (K := K) rfl (pv 1) (by rfl)) pa_nil))))) pa_nil)))), ?_⟩
  refine r_Space_dimensions T rfl ha rfl ⟨(d : Int), rfl, by omega, by omega, fun Dl hDl => ?_⟩
  have hne : dr ≠ Dl := ne_of_none hdr hDl
  refine lc_it (n := (d : Int).toNat) (G := fun _ => True) walk_range (fun i H1 => But dr H H1 ∧ (∃ n, H1 dr = some (.lst [.ref sc, .int n])) ∧ ∃ pt, H1 Dl = some (.lst (pvs pt)) ∧ pt.length = i ∧ ∀ x ∈ pt, x < 2 ^ b) ⟨bt_new (fun c o hc _ => hc) hDl, ⟨n0, (upd_ne hne).trans hdr⟩, [], upd_same, rfl, fun x hx => (nomatch hx)⟩ (fun _ _ _ _ => trivial) ?_ ?_
  · rintro i x H1 H2 hi ⟨b1, ⟨n, hn⟩, pt, hl, hpl, hpx⟩ ⟨rfl, rfl⟩
    refine ⟨rfl, ?_⟩
    have ha1 := b1 a _ ha (fun z => by rw [z, hdr] at ha; cases ha)
    refine ⟨_, rfl, r_Space_side T rfl ha1 rfl ⟨dr, sc, ns, 2 ^ b, rfl, hpos, hd.bt b1 hn, fun r H3 hr' b3 hd3 => ?_⟩⟩
    obtain ⟨n3, hn3, _⟩ := hd3
    have hl3 := b3 Dl _ hl (Ne.symm hne)
    refine ⟨_, hl3, ?_, bt_new (But.trans b1 b3) hDl, ⟨n3, (upd_ne hne).trans hn3⟩, pt ++ [r], ?_, ?_, ?_⟩
    · rw [List.length_map, hpl]
      exact sz_lt (by omega)
    · rw [upd_same]
      show _ = some (HO.lst ((pt ++ [r]).map _))
      rw [List.map_append]; rfl
    · rw [List.length_append, hpl]; rfl
    · intro x hx
      rcases List.mem_append.mp hx with h | h
      · exact hpx x h
      · rw [List.mem_singleton.mp h]; exact hr'
  · rintro H1 ⟨b1, ⟨n, hn⟩, pt, hl, hpl, hpx⟩
    refine ⟨Dl, _, rfl, .inl ⟨SqL.of hl, fun p hp => ?_⟩⟩
    have e2 := Ex.new (o := .tup (pvs pt)) hp
    exact k pt _ _ ⟨by rw [hpl]; omega, hpx⟩ (But.trans b1 (Ex.but e2)) ((hd.bt b1 hn).mono e2) ⟨p, rfl, upd_same⟩
theorem ok_l_points (T : Txt K mg) : FnOk P w K mg base CX0 5 T.f_l_points T.d_l_points ["_law_draw", "_law_space_here"] (spLPoints K T.C_Space) := by
  refine T.F_l_points.ok sc_l_points (fun vs H Q E h => ?_) (fun cdv A outer s H vs Q E hr h => ?_)
  · obtain ⟨_, _, _, _, _, _, rfl, _⟩ := h; rfl
  obtain ⟨dr, sc, ns, sv, d, b, rfl, hd, hs, k⟩ := h
  have nd := sc_l_points.nd
  obtain ⟨n0, hdr, hsc⟩ := id hd
  refine ⟨_, (pss_cons (ps_set (i := 2) nd rfl (Or.inr rfl) (pe_call (ok_l_pick T) (hr.mono (by decide)) (by rfl) T.mg_l_pick T.F_l_pick.kp T.b_l_pick .nil pass0 (pa_cons (pv 0) (pa_cons (pe_lst (pa_cons pe_int (pa_cons pe_int (pa_cons pe_int (pa_cons pe_int pa_nil))))) pa_nil))))
      (pss_one (ps_ret (pe_callTy call_tuple_of (by rfl) T.z_tuple (by decide +kernel) (pa_cons (pe_lc (own := [("_law_point_here", 3)]) (g := gName 3) (by rfl) nd (pi_list (pe_call (ok_l_all T) (hr.mono (by decide)) (by rfl) T.mg_l_all T.F_l_all.kp T.b_l_all .nil pass0 (pa_cons (pv 1) pa_nil))) (blkOk_by (own := [("_law_point_here", 3)]) (N := N_l_points) (sc := defScope s_l_points) (by decide +kernel)) (fun _ _ _ _ _ => (pg_name (i := 3) nd rfl (Or.inl rfl))) (fun _ _ _ _ _ => (pts_one (pt_cmpR op_eq (pe_call (ok_l_take T) (hr.mono (by decide)) (by rfl) T.mg_l_take T.F_l_take.kp T.b_l_take .nil pass0 (pa_cons (pv 0) (pa_cons (pv 2) pa_nil))) pe_int (nomark _)))) (fun _ _ _ _ _ => (pv 3))) pa_nil))))), ?_⟩
  refine ⟨_, rfl, (by show 4 ≤ sizeLine; decide), fun l hl => ?_⟩
  have e1 : Ex H (upd H l (.lst [.int 2, .int 3, .int 5, .int 9])) := Ex.new hl
  refine ⟨dr, sc, l, ns, _, rfl, (by show 0 < 4; decide), hd.mono e1, upd_same, Ne.symm (ne_of_none hdr hl), fun i v H1 hv b1 hd1 => ?_⟩
  have hv : ∃ m : Nat, v = .int m ∧ 0 < m := by
    rcases i with _ | _ | _ | _ | i
    · exact ⟨2, (Option.some.inj hv).symm, by decide⟩
    · exact ⟨3, (Option.some.inj hv).symm, by decide⟩
    · exact ⟨5, (Option.some.inj hv).symm, by decide⟩
    · exact ⟨9, (Option.some.inj hv).symm, by decide⟩
    · simp at hv
  obtain ⟨m, rfl, hm⟩ := hv
  have b01 : But dr H H1 := But.trans (Ex.but e1) b1
  have hs1 := hs.bl b01 hdr
  refine ⟨_, rfl, _, d, b, rfl, hs1, ?_⟩
  rintro _ H2 e2 ⟨al, ys, rfl, hal0, hal, its⟩
  have hd2 := hd1.mono e2
  obtain ⟨n1, hdr1, _⟩ := id hd1
  obtain ⟨n2, hdr2, hsc2⟩ := id hd2
  have hne2 : al ≠ dr := Ne.symm (ne_of_none hdr1 hal0)
  have hal64 : (allPts (2 ^ b) d).length ≤ 64 := by
    rw [allPts_len, ← Nat.pow_mul]
    have hD := sp_le hs.1
    have : b * d = d * b := Nat.mul_comm _ _
    have h2 : 2 ^ (b * d) ≤ 2 ^ 6 := Nat.pow_le_pow_right (by decide) (by omega)
    exact h2
  refine ⟨al, rfl, ⟨_, SqL.of hal⟩, fun Dl hDl => ?_⟩
  have hne : dr ≠ Dl := ne_of_none hdr2 hDl
  refine lc_it (G := fun H => SqL K H al ys) walk_list (fun i H3 => But dr H2 H3 ∧ (∃ n, H3 dr = some (.lst [.ref sc, .int n])) ∧ ∃ pts zs, pts.Sublist ((allPts (2 ^ b) d).take i) ∧ H3 Dl = some (.lst zs) ∧ Items PtTi pts zs H3) ⟨bt_new (fun c o hc _ => hc) hDl, ⟨n2, (upd_ne hne).trans hdr2⟩, [], [], List.Sublist.refl _, upd_same, Items.nil⟩ (fun i H3 _ h => SqL.of (h.1 _ _ hal hne2)) ?_ ?_
  · rintro i x H3 H4 hi ⟨b3, ⟨n3, hn3⟩, pts, zs, hsub, hz, hzi⟩ ⟨rfl, hx⟩
    refine ⟨rfl, ?_⟩
    obtain ⟨pt, hpt, hxp⟩ := its.at hx
    refine ⟨_, rfl, _, rfl, dr, sc, ns, m, rfl, hm, hd2.bt b3 hn3, fun r H5 hr' b5 hd5 => ?_⟩
    obtain ⟨n5, hn5, _⟩ := hd5
    have b25 := But.trans b3 b5
    have hz5 := b5 Dl _ hz (Ne.symm hne)
    have hx5 : PtT x pt H5 := (hxp : PtT x pt H2).bl b25 hdr2
    have it5 : Items PtTi pts zs H5 := hzi.map fun _ _ _ r => PtT.bl r b5 hn3
    refine ⟨rfl, _, rfl, ite2 (fun c => ?_) (fun c => ?_)⟩
    · have ml := ExL.list (ws := zs ++ [x]) hz5
      have hle : zs.length ≤ 64 := by
        rw [hzi.1]
        have := hsub.length_le
        rw [List.length_take] at this
        omega
      refine ⟨_, rfl, zs, hz5, sz_lt (by omega), bt_new b25 hDl, ⟨n5, (upd_ne hne).trans hn5⟩, pts ++ [pt], zs ++ [x], ?_, upd_same, Items.snoc (it5.map fun _ _ _ r => PtT.ml r ml) (hx5.ml ml)⟩
      rw [take_snoc hpt]
      exact hsub.append (List.Sublist.refl _)
    · refine ⟨b25, ⟨n5, hn5⟩, pts, zs, ?_, hz5, it5⟩
      rw [take_snoc hpt]
      exact hsub.trans (List.sublist_append_left _ _)
  · rintro H3 ⟨b3, ⟨n3, hn3⟩, pts, zs, hsub, hz, hzi⟩
    rw [its.1, List.take_length] at hsub
    refine ⟨Dl, zs, rfl, .inl ⟨SqL.of hz, fun p hp => ?_⟩⟩
    have e4 := Ex.new (o := .tup zs) hp
    exact k pts _ _ hsub (But.trans b01 (But.trans (Ex.but e2) (But.trans b3 (Ex.but e4)))) ((hd2.bt b3 hn3).mono e4) ⟨p, zs, rfl, upd_same, hzi.map fun _ _ _ r => PtT.mono r e4⟩
end
end FW
namespace FW
open PySem L2 FC Evl
def zmap (f : Nat → Nat → Nat) (p q : List Nat) : List Nat := (p.zip q).map fun z => f z.1 z.2
theorem zmap_at (f : Nat → Nat → Nat) (p q : List Nat) (i : Nat) {x y : Nat} (hx : p[i]? = some x) (hy : q[i]? = some y) : (zmap f p q)[i]? = some (f x y) := by
  unfold zmap
  rw [List.getElem?_map, List.getElem?_zip_eq_some (z := (x, y)) |>.mpr ⟨hx, hy⟩]
  rfl
theorem zmap_len {f : Nat → Nat → Nat} {p q : List Nat} {d : Nat} (hp : p.length = d) (hq : q.length = d) : (zmap f p q).length = d := by
  unfold zmap; rw [List.length_map, List.length_zip, hp, hq, Nat.min_self]
theorem zmap_pnt {f : Nat → Nat → Nat} {p q : List Nat} {d b : Nat} (hp : Pnt d b p) (hq : Pnt d b q) (hf : ∀ x y, x < 2 ^ b → y < 2 ^ b → f x y < 2 ^ b) : Pnt d b (zmap f p q) := by
  refine ⟨zmap_len hp.1 hq.1, fun v hv => ?_⟩
  unfold zmap at hv
  obtain ⟨z, hz, rfl⟩ := List.mem_map.mp hv
  have := List.of_mem_zip hz
  exact hf _ _ (hp.2 _ this.1) (hq.2 _ this.2)
theorem zmap_le {p q : List Nat} {d : Nat} (hp : p.length = d) (hq : q.length = d) (i : Nat) : (zmap min p q).getD i 0 ≤ (zmap max p q).getD i 0 := by
  by_cases h : i < d
  · have hx := List.getElem?_eq_getElem (show i < p.length by omega)
    have hy := List.getElem?_eq_getElem (show i < q.length by omega)
    rw [List.getD_eq_getElem?_getD, List.getD_eq_getElem?_getD, zmap_at min p q i hx hy, zmap_at max p q i hx hy]
    show min _ _ ≤ max _ _
    omega
  · rw [List.getD_eq_getElem?_getD, List.getElem?_eq_none (by rw [zmap_len hp hq]; omega)]
    exact Nat.zero_le _
/-- what a comprehension over zip gives -/
theorem zys {f : Nat → Nat → Nat} {p q : List Nat} {d : Nat} {ys : List V} (hp : p.length = d) (hq : q.length = d) (hl : ys.length = d) (h : ∀ (i : Nat) v, ys[i]? = some v → ∀ x y, p[i]? = some x → q[i]? = some y → v = .int ((f x y : Nat) : Int)) : ys = pvs (zmap f p q) := by
  unfold zmap pvs
  rw [List.map_map]
  refine ys_eq (by rw [hl, List.length_zip, hp, hq, Nat.min_self]) fun i v hv z hz => ?_
  obtain ⟨h1, h2⟩ := List.getElem?_zip_eq_some.mp hz
  exact h i v hv _ _ h1 h2
section
variable {P : Program} {w : World} {K : PySem.W.Frag} {mg : Str → Option Value} {base : Heap}
theorem ok_l_box (T : Txt K mg) : FnOk P w K mg base CX0 6 T.f_l_box T.d_l_box ["_law_draw", "_law_space_here"] (spLBox K T.C_Space T.C_Box) := by
  refine T.F_l_box.ok sc_l_box (fun vs H Q E h => ?_) (fun cdv A outer s H vs Q E hr h => ?_)
  · obtain ⟨_, _, _, _, _, _, rfl, _⟩ := h; rfl
  obtain ⟨dr, sc, ns, sv, d, b, rfl, hd, hs, k⟩ := h
  have nd := sc_l_box.nd
  obtain ⟨n0, hdr, hsc⟩ := id hd
  have hD := sp_le hs.1
  refine ⟨_, (pss_cons (ps_par (i := 2) (j := 3) (by rfl) nd rfl rfl (by decide) rfl rfl (pa_cons (pe_call (ok_l_point T) (hr.mono (by decide)) (by rfl) T.mg_l_point T.F_l_point.kp T.b_l_point .nil pass0 (pa_cons (pv 0) (pa_cons (pv 1) pa_nil))) (pa_cons (pe_call (ok_l_point T) (hr.mono (by decide)) (by rfl) T.mg_l_point T.F_l_point.kp T.b_l_point .nil pass0 (pa_cons (pv 0) (pa_cons (pv 1) pa_nil))) pa_nil)) (by rfl))
      (pss_cons (ps_set (i := 4) nd rfl (Or.inl rfl) (pe_callTy call_tuple_of (by rfl) T.z_tuple (by decide +kernel) (pa_cons (pe_lc (own := [("_law_first", 5), ("_law_second", 6)]) (tt := tYes) (by rfl) nd (RZ.pi_zipA (by rfl) T.z_zip (pa_cons (pv 2) (pa_cons (pv 3) pa_nil))) (blkOk_by (own := [("_law_first", 5), ("_law_second", 6)]) (N := N_l_box) (sc := defScope s_l_box) (by decide +kernel)) (fun _ _ _ _ _ => (pg_tupK (K := K) (n := 2) rfl (by rfl) (pgs_cons (pg_name (i := 5) nd rfl (Or.inl rfl)) (pgs_cons (pg_name (i := 6) nd rfl (Or.inl rfl)) pgs_nil)))) (fun _ _ _ _ _ => pts_nil) (fun _ _ _ _ _ => (pe_callB (call_min2 rfl) (by rfl) T.z_min (by decide +kernel) (pa_cons (pv 5) (pa_cons (pv 6) pa_nil))))) pa_nil)))
      (pss_one (ps_ret (pe_make T.mk_Box (ok_Box_init T) (hr.mono (by decide)) (by rfl) T.mg_Box T.b_Box_init .nil pass0 (pa_cons (pv 1) (pa_cons (pv 4) (pa_cons (pe_callTy call_tuple_of (by rfl) T.z_tuple (by decide +kernel) (pa_cons (pe_lc (own := [("_law_first", 5), ("_law_second", 6)]) (tt := tYes) (by rfl) nd (RZ.pi_zipA (by rfl) T.z_zip (pa_cons (pv 2) (pa_cons (pv 3) pa_nil))) (blkOk_by (own := [("_law_first", 5), ("_law_second", 6)]) (N := N_l_box) (sc := defScope s_l_box) (by decide +kernel)) (fun _ _ _ _ _ => (pg_tupK (K := K) (n := 2) rfl (by rfl) (pgs_cons (pg_name (i := 5) nd rfl (Or.inl rfl)) (pgs_cons (pg_name (i := 6) nd rfl (Or.inl rfl)) pgs_nil)))) (fun _ _ _ _ _ => pts_nil) (fun _ _ _ _ _ => (pe_callB (call_max2 rfl) (by rfl) T.z_max (by decide +kernel) (pa_cons (pv 5) (pa_cons (pv 6) pa_nil))))) pa_nil)) pa_nil)))))))), ?_⟩
  refine ⟨_, rfl, _, rfl, dr, sc, ns, _, d, b, rfl, hd, hs, fun p v1 H1 hp b1 hd1 hv1 => ?_⟩
  obtain ⟨n1, hdr1, _⟩ := id hd1
  have hs1 := hs.bl b1 hdr
  refine ⟨_, rfl, _, rfl, dr, sc, ns, _, d, b, rfl, hd1, hs1, fun q v2 H2 hq b2 hd2 hv2 => ⟨_, _, rfl, ?_⟩⟩
  obtain ⟨n2, hdr2, _⟩ := id hd2
  have hs2 := hs1.bl b2 hdr1
  have hv1 := hv1.bl b2 hdr1
  obtain ⟨a1, rfl, h1⟩ := id hv1
  obtain ⟨a2, rfl, h2⟩ := id hv2
  have b02 := But.trans b1 b2
  have lp : p.length = d := hp.1
  have lq : q.length = d := hq.1
  refine ⟨_, rfl, _, rfl, a1, a2, _, _, rfl, .inr ⟨SqT.of h1, SqT.of h2, fun Dl hDl => lc_gen (Z4.walk_zipT (by rw [List.length_map, List.length_map, lp, lq])) (fun H3 e3 => ⟨SqT.of (e3 _ _ h1), SqT.of (e3 _ _ h2)⟩) (fun i v _ => ∀ x y, p[i]? = some x → q[i]? = some y → v = .int ((min x y : Nat) : Int)) (fun _ _ _ _ _ h => h) (by rw [List.length_map, lp]; omega) hDl ?_ ?_⟩⟩
  · rintro i z H3 H' hi e3 ⟨t2, x, y, rfl, ht2, rfl, hx, hy⟩ Q1 k1
    obtain ⟨n, hn, rfl⟩ := pt_at hx
    obtain ⟨m, hm, rfl⟩ := pt_at hy
    refine ⟨t2, _, rfl, SqT.of upd_same, rfl, ⟨_, _, rfl, ⟨_, _, rfl, rfl, rfl, ?_⟩⟩⟩
    refine ⟨_, rfl, _, rfl, _, _, rfl, k1 _ _ (Ex.new ht2) fun x' y' hx' hy' => ?_⟩
    rw [hn] at hx'; rw [hm] at hy'
    cases hx'; cases hy'
    congr 1
    split <;> omega
  intro ys H3 e3 hy hyl hyr
  rw [zys (f := min) lp lq (by rw [hyl, List.length_map, lp]) hyr] at hy
  refine ⟨Dl, _, rfl, .inl ⟨SqL.of hy, fun lo hlo => ?_⟩⟩
  have e4 := Ex.new (o := .tup (pvs (zmap min p q))) hlo
  have hlo4 : upd H3 lo (.tup (pvs (zmap min p q))) lo = some (.tup (pvs (zmap min p q))) := upd_same
  generalize upd H3 lo (.tup (pvs (zmap min p q))) = H4 at e4 hlo4 ⊢
  have e24 := e3.trans e4
  refine ⟨_, rfl, _, rfl, _, rfl, _, rfl, a1, a2, _, _, rfl, .inr ⟨SqT.of (e24 _ _ h1), SqT.of (e24 _ _ h2), fun D2 hD2 => lc_gen (Z4.walk_zipT (by rw [List.length_map, List.length_map, lp, lq])) (fun H5 e5 => ⟨SqT.of (e5 _ _ (e24 _ _ h1)), SqT.of (e5 _ _ (e24 _ _ h2))⟩) (fun i v _ => ∀ x y, p[i]? = some x → q[i]? = some y → v = .int ((max x y : Nat) : Int)) (fun _ _ _ _ _ h => h) (by rw [List.length_map, lp]; omega) hD2 ?_ ?_⟩⟩
  · rintro i z H5 H' hi e5 ⟨t2, x, y, rfl, ht2, rfl, hx, hy⟩ Q1 k1
    obtain ⟨n, hn, rfl⟩ := pt_at hx
    obtain ⟨m, hm, rfl⟩ := pt_at hy
    refine ⟨t2, _, rfl, SqT.of upd_same, rfl, ⟨_, _, rfl, ⟨_, _, rfl, rfl, rfl, ?_⟩⟩⟩
    refine ⟨_, rfl, _, rfl, _, _, rfl, k1 _ _ (Ex.new ht2) fun x' y' hx' hy' => ?_⟩
    rw [hn] at hx'; rw [hm] at hy'
    cases hx'; cases hy'
    congr 1
    split <;> omega
  intro zs H5 e5 hz hzl hzr
  rw [zys (f := max) lp lq (by rw [hzl, List.length_map, lp]) hzr] at hz
  refine ⟨D2, _, rfl, .inl ⟨SqL.of hz, fun hi' hhi => ?_⟩⟩
  have e6 := Ex.new (o := .tup (pvs (zmap max p q))) hhi
  have e26 := (e24.trans e5).trans e6
  intro x dx nx ndx ne
  have e7 : Ex (upd H5 hi' (.tup (pvs (zmap max p q)))) (upd (upd (upd H5 hi' (.tup (pvs (zmap max p q)))) dx (.own x)) x (.ins T.C_Box dx [])) := (Ex.new ndx).trans (Ex.new (by rw [upd_ne (Ne.symm ne)]; exact nx))
  refine ⟨x, dx, _, _, _, d, b, _, _, rfl, upd_same, (hs2.mono e26).mono e7, PtT.mono ⟨lo, rfl, hlo4⟩ ((e5.trans e6).trans e7), PtT.mono ⟨hi', rfl, upd_same⟩ e7,
    zmap_pnt hp hq (fun x y hx hy => by omega), zmap_pnt hp hq (fun x y hx hy => by omega), zmap_le lp lq, fun H8 bt hb => ⟨rfl, ?_⟩⟩
  have e8 := e26.trans (made_ex nx ndx bt)
  exact k _ _ _ H8 (But.trans b02 (Ex.but e8)) (hd2.mono e8) hb
end
end FW
namespace FW
open PySem L2 FC Evl
section
variable {P : Program} {w : World} {K : PySem.W.Frag} {mg : Str → Option Value} {base : Heap}
theorem ok_l_prefixes (T : Txt K mg) : FnOk P w K mg base CX0 3 T.f_l_prefixes T.d_l_prefixes ["_law_space_here"] (spLPrefixes T.C_Space) := by
  refine T.F_l_prefixes.ok sc_l_prefixes (fun vs H Q E h => ?_) (fun cdv A outer s H vs Q E hr h => ?_)
  · obtain ⟨_, _, _, rfl, _⟩ := h; rfl
  obtain ⟨sv, d, b, rfl, hs, k⟩ := h
  have nd := sc_l_prefixes.nd
  obtain ⟨hsp, a, dx, rfl, ha⟩ := id hs
  have hD := sp_le hsp
  refine ⟨_, (pss_cons (ps_set (i := 1) nd rfl (Or.inl rfl) (pe_lst pa_nil))
      (pss_cons (ps_for PassesOwn.never (by rfl) (pi_range1 (by rfl) T.z_range (pa_cons (pe_op op_add (pe_fld (pv 0) (by rfl)) pe_int) pa_nil)) (pg_name (i := 2) nd rfl (Or.inr rfl))
      (pss_one (ps_set (i := 1) nd rfl (Or.inl rfl) (pe_op op_cat (pv 1) (pe_lc (own := [("_law_number_here", 3)]) (g := gName 3) (tt := tYes) (by rfl) nd (pi_range1 (by rfl) T.z_range (pa_cons (pe_op op_fdiv (pe_meth (pv 0) T.cl_Space T.M_Space_size (ok_Space_size T) (hr.mono (by decide)) T.b_Space_size .nil pass0 (pa_cons (pe_tup (pa_cons pe_int (pa_cons pe_int pa_nil))) pa_nil)) (pe_meth (pv 0) T.cl_Space T.M_Space_size (ok_Space_size T) (hr.mono (by decide)) T.b_Space_size .nil pass0 (pa_cons (pe_tup (pa_cons (pv 2) (pa_cons pe_int pa_nil))) pa_nil))) pa_nil)) (blkOk_by (own := [("_law_number_here", 3)]) (N := N_l_prefixes) (sc := defScope s_l_prefixes) (by decide +kernel)) (fun _ _ _ _ _ => (pg_name (i := 3) nd rfl (Or.inl rfl))) (fun _ _ _ _ _ => pts_nil) (fun _ _ _ _ _ => (pe_tup (pa_cons (pv 2) (pa_cons (pv 3) pa_nil)))))))))
      (pss_one (ps_ret (pv 1))))), ?_⟩
  refine ⟨Nat.zero_le _, fun l hl => ?_⟩
  have e1 : Ex H (upd H l (.lst [])) := Ex.new hl
  have hl1 : upd H l (.lst []) l = some (.lst []) := upd_same
  generalize upd H l (.lst []) = H1 at e1 hl1 ⊢
  refine r_Space_depth T rfl (e1 _ _ ha) rfl ⟨_, _, rfl, rfl, ((d * b : Nat) : Int) + 1, rfl, by omega, by omega, for_range (n := (((d * b : Nat) : Int) + 1).toNat) (fun i σ H' => ∃ u1 u2 l' ys, σ = [some (.ref a), some (.ref l'), u1, u2] ∧ Ex H H' ∧ H' l' = some (.lst ys) ∧
    Items PTi ((List.range i).flatMap fun l => (List.range (2 ^ l)).map fun n => (l, n)) ys H') ⟨none, none, l, [], rfl, e1, hl1, Items.nil⟩ ?_ ?_⟩
  · rintro i σ H2 hi ⟨u1, u2, l', ys, rfl, e2, hl2, i2⟩
    have hid : i ≤ d * b := by omega
    have ha2 := e2 _ _ ha
    have hs2 := hs.mono e2
    refine ⟨_, rfl, _, rfl, a, dx, _, rfl, ha2, fn_Space_size _, two_line, fun t ht => ?_⟩
    have e3 : Ex H2 (upd H2 t (.tup [.int 0, .int 0])) := Ex.new ht
    have p3 : PT (.ref t) (0, 0) (upd H2 t (.tup [.int 0, .int 0])) := ⟨t, rfl, upd_same⟩
    generalize upd H2 t (.tup [.int 0, .int 0]) = H3 at e3 p3 ⊢
    refine ⟨_, _, d, b, (0, 0), rfl, hs2.mono e3, p3, Nat.zero_le _, fun H4 e4 => ?_⟩
    have e24 := e3.trans e4
    refine ⟨_, rfl, a, dx, _, rfl, e24 _ _ ha2, fn_Space_size _, _, rfl, two_line, fun t2 ht2 => ?_⟩
    have e5 : Ex H4 (upd H4 t2 (.tup [.int (0 + (i : Int)), .int 0])) := Ex.new ht2
    have p5 : PT (.ref t2) (i, 0) (upd H4 t2 (.tup [.int (0 + (i : Int)), .int 0])) := ⟨t2, rfl, by rw [upd_same, Int.zero_add]; rfl⟩
    generalize upd H4 t2 (.tup [.int (0 + (i : Int)), .int 0]) = H5 at e5 p5 ⊢
    have e25 := e24.trans e5
    refine ⟨_, _, d, b, (i, 0), rfl, hs2.mono e25, p5, hid, fun H6 e6 => ?_⟩
    have e26 := e25.trans e6
    have hz0 := sz_pos (d * b) (i, 0)
    have hz1 : sz (d * b) (i, 0) ≤ 2 ^ 6 := Nat.pow_le_pow_right (by decide) (by show d * b - i ≤ 6; omega)
    have hq : sz (d * b) (0, 0) / sz (d * b) (i, 0) = 2 ^ i := by
      show 2 ^ (d * b - 0) / 2 ^ (d * b - i) = 2 ^ i
      rw [Nat.pow_div (by omega) (by decide)]
      congr 1
      omega
    have hi6 : 2 ^ i ≤ 2 ^ 6 := Nat.pow_le_pow_right (by decide) (by omega)
    have hq2 : (sz (d * b) (0, 0) : Int) / (sz (d * b) (i, 0) : Int) = ((2 ^ i : Nat) : Int) := by rw [← hq]; rfl
    refine ⟨_, _, rfl, rfl, ⟨by omega, by omega⟩, (sz (d * b) (0, 0) : Int) / (sz (d * b) (i, 0) : Int), rfl, ?_, ?_, ?_⟩
    · rw [hq2]; have := Int.natCast_nonneg (2 ^ i); omega
    · rw [hq2]; have := Int.ofNat_le.mpr hi6; omega
    rw [hq2]
    intro Dl hDl
    have hn2 : (((2 ^ i : Nat) : Int)).toNat = 2 ^ i := Int.toNat_natCast _
    refine lc_gen (n := (((2 ^ i : Nat) : Int)).toNat) (G := fun _ => True) walk_range (fun _ _ => trivial) (fun k v H => PT v (i, k) H) (fun _ _ _ _ z h => h.ml z) (by rw [hn2]; omega) hDl ?_ ?_
    · rintro k' x H7 H8 hk e7 ⟨rfl, rfl⟩ Q1 k1
      refine ⟨rfl, ?_⟩
      refine ⟨_, rfl, _, rfl, two_line, fun q hq => k1 _ _ (Ex.new hq) ⟨q, rfl, ?_⟩⟩
      rw [upd_same]
      show some (HO.tup [V.int (0 + (i : Int)), V.int (0 + (k' : Int))]) = some (HO.tup [V.int (i : Int), V.int (k' : Int)])
      rw [Int.zero_add, Int.zero_add]
    · intro ws H7 e7 hw hwl hwr
      rw [hn2] at hwl
      have hl7 := e7 _ _ (e26 _ _ hl2)
      have hlen : ys.length ≤ 127 := by
        rw [i2.1]
        have : ∀ j, ((List.range j).flatMap fun l => (List.range (2 ^ l)).map fun n => ((l, n) : Pre)).length + 1 = 2 ^ j := by
          intro j
          induction j with
          | zero => rfl
          | succ j ih =>
            rw [List.range_succ, List.flatMap_append, List.length_append, Nat.pow_succ]
            show _ + ((((List.range (2 ^ j)).map fun n => ((j, n) : Pre)) ++ []).length) + 1 = _
            rw [List.append_nil, List.length_map, List.length_range]
            omega
        have := this i
        omega
      refine ⟨l', Dl, ys, ws, rfl, rfl, hl7, hw, ?_, fun q hq => ?_⟩
      · have : sizeLine = 16777216 := sizeLine_eq
        omega
      · have e8 := Ex.new (o := .lst (ys ++ ws)) hq
        have e28 := (e26.trans e7).trans e8
        refine ⟨some (.int (0 + (i : Int))), u2, q, ys ++ ws, rfl, e2.trans e28, upd_same, ?_⟩
        rw [List.range_succ, List.flatMap_append]
        refine Items.append (i2.map fun _ _ _ r => PT.mono r e28) ?_
        show Items PTi (((List.range (2 ^ i)).map fun n => ((i, n) : Pre)) ++ []) ws _
        rw [List.append_nil]
        refine ⟨by rw [hwl, List.length_map, List.length_range], fun i' y v hy hv => ?_⟩
        rw [List.getElem?_map] at hy
        obtain ⟨n, hn, rfl⟩ := Option.map_eq_some_iff.mp hy
        have hlt := (List.getElem?_eq_some_iff.mp hn).1
        rw [List.length_range] at hlt
        rw [List.getElem?_range hlt] at hn
        cases hn
        exact PT.mono (hwr i' v hv) e8
  · rintro σ H2 ⟨u1, u2, l', ys, rfl, e2, hl2, i2⟩
    rw [show (((d * b : Nat) : Int) + 1).toNat = d * b + 1 by omega] at i2
    exact ⟨_, rfl, k _ _ e2 ⟨l', ys, rfl, hl2, i2⟩⟩
end
end FW
namespace FW
open PySem L2 FC Evl
/-- no thing, no tuple: a list, a dict -/
def Odd (u : HO) : Prop := (∀ C dx fs, u ≠ .ins C dx fs) ∧ ∀ xs, u ≠ .tup xs
theorem odd_l (xs : List V) : Odd (.lst xs) := ⟨fun _ _ _ z => (nomatch z), fun _ z => (nomatch z)⟩
theorem odd_d (kvs : List (List L2.Key × V)) : Odd (.dT kvs) := ⟨fun _ _ _ z => (nomatch z), fun _ z => (nomatch z)⟩
section
variable {x : Addr} {H H' : Hp} {u : HO}
theorem But.i (e : But x H H') (hx : H x = some u) (n : Odd u) {c C dx : Addr} {fs : List (Str × V)} (h : H c = some (.ins C dx fs)) : H' c = some (.ins C dx fs) := e c _ h fun z => by
  subst z; rw [h] at hx; exact n.1 _ _ _ (Option.some.inj hx).symm
theorem But.t (e : But x H H') (hx : H x = some u) (n : Odd u) {c : Addr} {xs : List V} (h : H c = some (.tup xs)) : H' c = some (.tup xs) := e c _ h fun z => by
  subst z; rw [h] at hx; exact n.2 _ (Option.some.inj hx).symm
theorem PT.bo {v : V} {p : Pre} (h : PT v p H) (e : But x H H') (hx : H x = some u) (n : Odd u) : PT v p H' := let ⟨a, e1, e2⟩ := h; ⟨a, e1, e.t hx n e2⟩
theorem PtT.bo {v : V} {p : List Nat} (h : PtT v p H) (e : But x H H') (hx : H x = some u) (n : Odd u) : PtT v p H' := let ⟨a, e1, e2⟩ := h; ⟨a, e1, e.t hx n e2⟩
theorem SpaceAt.bo {v : V} {S : Addr} {d b : Nat} (h : SpaceAt S d b v H) (e : But x H H') (hx : H x = some u) (n : Odd u) : SpaceAt S d b v H' := let ⟨s, a, dx, e1, e2⟩ := h; ⟨s, a, dx, e1, e.i hx n e2⟩
theorem RowAt.bo {v : V} {row : List Nat} (h : RowAt row v H) (e : But x H H') (hx : H x = some u) (n : Odd u) : RowAt row v H' := let ⟨a, e1, e2⟩ := h; ⟨a, e1, e.t hx n e2⟩
theorem CloudAt.bo {v : V} {B S : Addr} {d b : Nat} {row : List Nat} (h : CloudAt B S d b row v H) (e : But x H H') (hx : H x = some u) (n : Odd u) : CloudAt B S d b row v H' :=
  let ⟨p, a, dx, s, y, e1, e2, e3, e4⟩ := h; ⟨p, a, dx, s, y, e1, e.i hx n e2, e3.bo e hx n, e4.bo e hx n⟩
theorem BoxAt.bo {v : V} {B S : Addr} {d b : Nat} {lo hi : List Nat} (h : BoxAt B S d b lo hi v H) (e : But x H H') (hx : H x = some u) (n : Odd u) : BoxAt B S d b lo hi v H' :=
  let ⟨p, q, a, dx, s, y, z, e1, e2, e3, e4, e5⟩ := h; ⟨p, q, a, dx, s, y, z, e1, e.i hx n e2, e3.bo e hx n, e4.bo e hx n, e5.bo e hx n⟩
theorem KnowAt.bl {v : V} {Kc C : Addr} {d b : Nat} {cnt : Pre → Nat} {fs : List Pre} {zs : List V} (h : KnowAt Kc C d b cnt fs v H) (e : But x H H') (hx : H x = some (.lst zs)) : KnowAt Kc C d b cnt fs v H' :=
  let ⟨a, dx, s, f, e1, e2, e3, e4⟩ := h; ⟨a, dx, s, f, e1, e.i hx (odd_l zs) e2, e3.bo e hx (odd_l zs), e f _ e4 fun z => by subst z; rw [e4] at hx; cases hx⟩
theorem KnowAt.me {v : V} {Kc C : Addr} {d b : Nat} {cnt : Pre → Nat} {fs : List Pre} (h : KnowAt Kc C d b cnt fs v H) (e : ExE H H') : KnowAt Kc C d b cnt fs v H' :=
  let ⟨a, dx, s, f, e1, e2, e3, e4⟩ := h; ⟨a, dx, s, f, e1, e _ _ e2 (fun _ z => nomatch z), e3.me e, e f _ e4 fun _ z => nomatch z⟩
theorem DrawAt.bd {K : PySem.W.Frag} {dr sc : Addr} {ns : List Int} {kvs : List (List L2.Key × V)} (h : DrawAt K dr sc ns H) (e : But x H H') (hx : H x = some (.dT kvs)) : DrawAt K dr sc ns H' := by
  obtain ⟨n, h1, h2⟩ := h
  refine ⟨n, e _ _ h1 fun z => (by subst z; rw [h1] at hx; cases hx), ?_⟩
  rcases h2 with h2 | h2
  · left
    have ne : sc ≠ x := fun z => by
      subst z
      rcases h2 with h2 | ⟨o, h2⟩ <;> (rw [h2] at hx; cases hx)
    rcases h2 with h2 | ⟨o, h2⟩
    · exact .inl (e _ _ h2 ne)
    · exact .inr ⟨o, e _ _ h2 ne⟩
  · exact .inr h2
end
theorem cut_take (xs : List V) (k : Nat) : cutV xs none (some (k : Int)) = xs.take k := by
  unfold cutV
  rw [HT.sIx_none, HT.sIx_nat, List.drop_zero, Nat.sub_zero]
  rcases Nat.le_total k xs.length with h | h
  · rw [Nat.min_eq_left h]
  · rw [Nat.min_eq_right h, List.take_of_length_le (Nat.le_refl _), List.take_of_length_le h]
theorem pres_nd : ∀ D, D ≤ 6 → (pres D).Nodup := by
  have key : ∀ D ∈ List.range 7, (pres D).Nodup := by decide +kernel
  exact fun D h => key D (List.mem_range.mpr (by omega))
theorem pres_val {D : Nat} {p : Pre} (h : p ∈ pres D) : p.1 ≤ D ∧ ins p (0, 0) := by
  unfold pres at h
  obtain ⟨l, hl, h⟩ := List.mem_flatMap.mp h
  obtain ⟨n, hn, rfl⟩ := List.mem_map.mp h
  exact ⟨by have := List.mem_range.mp hl; show l ≤ D; omega, root_ins (List.mem_range.mp hn)⟩
theorem items_take {α : Type} {R : α → V → Hp → Prop} {ys : List α} {vs : List V} {H : Hp} (h : Items R ys vs H) (k : Nat) : Items R (ys.take k) (vs.take k) H := by
  refine ⟨by rw [List.length_take, List.length_take, h.1], fun i y v hy hv => ?_⟩
  rw [List.getElem?_take] at hy hv
  split at hy
  · rename_i c
    rw [if_pos c] at hv
    exact h.2 i y v hy hv
  · cases hy
theorem pts_ok' {d b : Nat} (hs : (d, b) ∈ spaces) {pts : List (List Nat)} (h : pts.Sublist (allPts (2 ^ b) d)) : (∀ pt ∈ pts, Pnt d b pt) ∧ (pts.map (wovenN b)).Nodup ∧ pts.length ≤ 4000 := by
  refine ⟨fun pt hp => (woven_lt hs (h.subset hp)).2, (h.map _).nodup (woven_nd hs), ?_⟩
  have h1 := h.length_le
  rw [allPts_len, ← Nat.pow_mul] at h1
  have hD := sp_le hs
  have : b * d = d * b := Nat.mul_comm _ _
  have h2 : 2 ^ (b * d) ≤ 2 ^ 6 := Nat.pow_le_pow_right (by decide) (by omega)
  omega
theorem vf_sub {D : Nat} (hD : D ≤ 6) {fs : List Pre} (h : fs.Sublist (pres D)) : VF D fs := ⟨h.nodup (pres_nd D hD), fun p hp => pres_val (h.subset hp)⟩
theorem cntok {D : Nat} {row : List Nat} (h : row.Pairwise (· < ·)) : CntOk D (cntN D row) := ⟨cnt_add D row, fun p _ _ => cnt_le h D p⟩
theorem vf_len {D : Nat} (hD : D ≤ 6) {fs : List Pre} (h : VF D fs) : fs.length ≤ 127 := by
  have := nodup_sub_len (m := pres 6) h.nd fun p hp => mem_pres (Nat.le_trans (h.ok p hp).1 hD) (of_root_ins (h.ok p hp).2)
  have e : (pres 6).length = 127 := by decide +kernel
  omega
theorem okT_enough {t : TI} (ok : t.Ok) {gs o : List Pre} (fa : Facts (t.d * t.b) (memB gs) o) : okT (fun p => decide (0 < roomN t.d t.b t.lo t.hi p)) (knB (t.d * t.b) (cntN (t.d * t.b) t.row) o) t.fin (0, 0) = true ↔ t.env.Enough (memB gs) :=
  Env.isEnough_iff ok.fit fa
theorem sl_go {K : PySem.W.Frag} {a : Addr} {xs : List V} {k : Nat} {H : Hp} {Q : VK} (h : H a = some (.tup xs)) (q : ∀ p H2, Ex H H2 → H2 p = some (.tup (xs.take k)) → Q (.ref p) H2) : rSlA K (.ref a) none (some (k : Int)) H Q := by
  refine ⟨a, xs, rfl, SqT.of h, fun c => q a H (Ex.refl _) ?_, fun _ p hp => q p _ (Ex.new hp) (by rw [upd_same, cut_take])⟩
  have c2 : min k xs.length = xs.length := by have := c.2; rw [HT.sIx_nat] at this; exact this
  rw [List.take_of_length_le (by omega)]
  exact h
theorem dropK_ent (cnt : Pre → Nat) (l : List Pre) (p : Pre) : dropK (l.map (entF cnt)) (kOf p) = (l.filter fun q => decide (q ≠ p)).map (entF cnt) := by
  unfold dropK
  rw [List.filter_map]
  congr 1
  refine List.filter_congr fun q _ => ?_
  show decide (kOf q ≠ kOf p) = decide (q ≠ p)
  exact decide_eq_decide.mpr ⟨fun h e => h (by rw [e]), fun h e => h (kOf_inj e)⟩
def spLaw (K : PySem.W.Frag) : Sp := fun vs H Q _ => ∃ (sc : Addr) (ns : List Int), vs = [.ref sc] ∧ SqL K H sc (ns.map V.int) ∧ ∀ H', Q (.bl true) H'
section
variable {P : Program} {w : World} {K : PySem.W.Frag} {mg : Str → Option Value} {base : Heap}
theorem ok_law (T : Txt K mg) : FnOk P w K mg base CX0 70 T.f_law T.d_law ["_law_script"] (spLaw K) := by
  refine T.F_law.ok sc_law (fun vs H Q E h => ?_) (fun cdv A outer s H vs Q E hr h => ?_)
  · obtain ⟨_, _, rfl, _⟩ := h; rfl
  obtain ⟨sc, ns, rfl, hsc, k⟩ := h
  have nd := sc_law.nd
  refine ⟨_, (pss_cons (ps_set (i := 1) nd rfl (Or.inl rfl) (pe_lst (pa_cons (pv 0) (pa_cons pe_int pa_nil))))
      (pss_cons (ps_set (i := 2) nd rfl (Or.inl rfl) (pe_call (ok_l_space T) (hr.mono (by decide)) (by rfl) T.mg_l_space T.F_l_space.kp T.b_l_space .nil pass0 (pa_cons (pv 1) pa_nil)))
      (pss_cons (ps_set (i := 3) nd rfl (Or.inl rfl) (pe_make T.mk_Cloud (ok_Cloud_init T) (hr.mono (by decide)) (by rfl) T.mg_Cloud T.b_Cloud_init .nil pass0 (pa_cons (pv 2) (pa_cons (pe_call (ok_l_points T) (hr.mono (by decide)) (by rfl) T.mg_l_points T.F_l_points.kp T.b_l_points .nil pass0 (pa_cons (pv 1) (pa_cons (pv 2) pa_nil))) pa_nil))))
      (pss_cons (ps_set (i := 4) nd rfl (Or.inl rfl) pe_dnewT)
      (pss_cons (ps_for PassesOwn.never (by rfl) (pi_list (pe_slice sl_list (pe_call (ok_l_prefixes T) (hr.mono (by decide)) (by rfl) T.mg_l_prefixes T.F_l_prefixes.kp T.b_l_prefixes .nil pass0 (pa_cons (pv 2) pa_nil)) po_none (po_some pe_int))) (pg_name (i := 5) nd rfl (Or.inl rfl))
      (pss_one (ps_if (pt_cmpR op_eq (pe_call (ok_l_take T) (hr.mono (by decide)) (by rfl) T.mg_l_take T.F_l_take.kp T.b_l_take .nil pass0 (pa_cons (pv 1) (pa_cons pe_int pa_nil))) pe_int (nomark _)) (pss_one (ps_dput (hu1 hr) (pv 4) (pv 5) (pe_meth (pv 3) T.cl_Cloud T.M_Cloud_count (ok_Cloud_count T) (hr.mono (by decide)) T.b_Cloud_count .nil pass0 (pa_cons (pv 5) pa_nil)) rfl)) pss_nil)))
      (pss_cons (ps_par3 (i := 6) (j := 7) (l := 8) (by rfl) nd rfl rfl rfl (by decide) (by decide) (by decide) rfl rfl rfl (pa_cons (pe_make T.mk_Knowledge (ok_Knowledge_init T) (hr.mono (by decide)) (by rfl) T.mg_Knowledge T.b_Knowledge_init .nil pass0 (pa_cons (pv 2) (pa_cons (pv 4) pa_nil))) (pa_cons (pe_call (ok_l_box T) (hr.mono (by decide)) (by rfl) T.mg_l_box T.F_l_box.kp T.b_l_box .nil pass0 (pa_cons (pv 1) (pa_cons (pv 2) pa_nil))) (pa_cons (pe_callB (call_min2 rfl) (by rfl) T.z_min (by decide +kernel) (pa_cons pe_int (pa_cons (pe_call (ok_l_take T) (hr.mono (by decide)) (by rfl) T.mg_l_take T.F_l_take.kp T.b_l_take .nil pass0 (pa_cons (pv 1) (pa_cons (pe_op op_add (pe_fld (pv 2) (by rfl)) pe_int) pa_nil))) pa_nil))) pa_nil))) (by rfl))
      (pss_cons (ps_par (i := 9) (j := 10) (by rfl) nd rfl rfl (by decide) rfl rfl (pa_cons (pe_call (ok_fewest_facts T) (hr.mono (by decide)) (by rfl) T.mg_fewest_facts T.F_fewest_facts.kp T.b_fewest_facts .nil pass0 (pa_cons (pv 3) (pa_cons (pv 6) (pa_cons (pv 7) (pa_cons (pv 8) pa_nil))))) (pa_cons (pe_callTy (cr_dictT hr.units) (by rfl) T.z_dict (by decide +kernel) (pa_cons (pv 4) pa_nil)) pa_nil)) (by rfl))
      (pss_cons (ps_for PassesOwn.never (by rfl) (pi_tup (pv 9)) (pg_name (i := 5) nd rfl (Or.inl rfl))
      (pss_one (ps_dput (hu1 hr) (pv 10) (pv 5) (pe_meth (pv 3) T.cl_Cloud T.M_Cloud_count (ok_Cloud_count T) (hr.mono (by decide)) T.b_Cloud_count .nil pass0 (pa_cons (pv 5) pa_nil)) rfl)))
      (pss_cons (ps_if (pt_not (pt_val (pe_call (ok_is_enough T) (hr.mono (by decide)) (by rfl) T.mg_is_enough T.F_is_enough.kp T.b_is_enough .nil pass0 (pa_cons (pe_make T.mk_Knowledge (ok_Knowledge_init T) (hr.mono (by decide)) (by rfl) T.mg_Knowledge T.b_Knowledge_init .nil pass0 (pa_cons (pv 2) (pa_cons (pv 10) pa_nil))) (pa_cons (pv 7) (pa_cons (pv 8) pa_nil)))))) (pss_one (ps_ret pe_bl)) pss_nil)
      (pss_cons (ps_for PassesOwn.never (by rfl) (pi_tup (pe_slice sl_tupA (pv 9) po_none (po_some pe_int))) (pg_name (i := 5) nd rfl (Or.inl rfl))
      (pss_cons (ps_set (i := 11) nd rfl (Or.inl rfl) (pe_callTy (cr_dictT hr.units) (by rfl) T.z_dict (by decide +kernel) (pa_cons (pv 10) pa_nil)))
      (pss_cons (ps_expr (pe_bm PySem.F.plainAttrs_dict PySem.F.slot_dict_pop PySem.F.type_dict_pop (mt_pop1T hr.units) (pv 11) (pa_cons (pv 5) pa_nil)))
      (pss_one (ps_if (pt_val (pe_call (ok_is_enough T) (hr.mono (by decide)) (by rfl) T.mg_is_enough T.F_is_enough.kp T.b_is_enough .nil pass0 (pa_cons (pe_make T.mk_Knowledge (ok_Knowledge_init T) (hr.mono (by decide)) (by rfl) T.mg_Knowledge T.b_Knowledge_init .nil pass0 (pa_cons (pv 2) (pa_cons (pv 11) pa_nil))) (pa_cons (pv 7) (pa_cons (pv 8) pa_nil))))) (pss_one (ps_ret pe_bl)) pss_nil)))))
      (pss_one (ps_ret (pe_cmpR (op_eqD hr.units) (pe_call (ok_fewest_facts T) (hr.mono (by decide)) (by rfl) T.mg_fewest_facts T.F_fewest_facts.kp T.b_fewest_facts .nil pass0 (pa_cons (pv 3) (pa_cons (pe_make T.mk_Knowledge (ok_Knowledge_init T) (hr.mono (by decide)) (by rfl) T.mg_Knowledge T.b_Knowledge_init .nil pass0 (pa_cons (pv 2) (pa_cons (pv 10) pa_nil))) (pa_cons (pv 7) (pa_cons (pv 8) pa_nil))))) (pe_tup pa_nil) (nomark _)))))))))))))), ?_⟩
  refine ⟨_, rfl, two_line, fun dr hdr => ?_⟩
  have e1 : Ex H (upd H dr (.lst [.ref sc, .int 0])) := Ex.new hdr
  have hd1 : DrawAt K dr sc ns (upd H dr (.lst [.ref sc, .int 0])) := ⟨0, upd_same, ex_l e1 hsc⟩
  generalize upd H dr (.lst [.ref sc, .int 0]) = H1 at e1 hd1 ⊢
  refine ⟨_, rfl, dr, sc, ns, rfl, hd1, fun d b sv H2 b12 hd2 hs => ?_⟩
  have hsp := hs.1
  have hD := sp_le hsp
  have hD6 := hD.2.2.2.2
  -- the cloud
  refine ⟨_, rfl, _, rfl, _, rfl, dr, sc, ns, _, d, b, rfl, hd2, hs, fun pts pv H3 hsub b23 hd3 hpts => ?_⟩
  obtain ⟨n2, hdr2, _⟩ := id hd2
  have hs3 := hs.bo b23 hdr2 (odd_l _)
  intro x dx nx ndx ne
  have e3 : Ex H3 (upd (upd H3 dx (.own x)) x (.ins T.C_Cloud dx [])) := (Ex.new ndx).trans (Ex.new (by rw [upd_ne (Ne.symm ne)]; exact nx))
  obtain ⟨o1, o2, o3⟩ := pts_ok' hsp hsub
  obtain ⟨pa, prs, rfl, hpa, pits⟩ := id hpts
  refine ⟨x, dx, _, _, d, b, pts, rfl, upd_same, hs3.mono e3, ⟨pa, prs, rfl, e3 _ _ hpa, pits.map fun _ _ _ r => PtT.mono r e3⟩, o1, o2, o3, fun H4 row bt hcl => ⟨rfl, ?_⟩⟩
  have e34 := made_ex nx ndx bt
  have hs4 := hs3.mono e34
  have hd4 := hd3.mono e34
  have hrow := hcl.1
  clear hpts hpa pits o1 o2 o3 hsub e3 bt nx ndx ne b23 hs3 hd3 hs hd2 b12 hd1 e1
  -- the facts
  refine fun fa hfa => ?_
  have e5 : Ex H4 (upd H4 fa (.dT [])) := Ex.new hfa
  have hf5 : upd H4 fa (.dT []) fa = some (.dT []) := upd_same
  have hs5 := hs4.mono e5
  have hd5 := hd4.mono e5
  have hcl5 := hcl.mono e5
  generalize upd H4 fa (.dT []) = H5 at e5 hf5 hs5 hd5 hcl5 ⊢
  refine ⟨_, rfl, _, d, b, rfl, hs5, ?_⟩
  rintro _ H6 e6 ⟨lp, lys, rfl, hlp, lits⟩
  refine ⟨((40 : Nat) : Int), rfl, lp, lys, rfl, SqL.of hlp, fun lq hlq => ?_⟩
  rw [cut_take]
  have lits := items_take lits 40
  have e7 : Ex H6 (upd H6 lq (.lst (lys.take 40))) := Ex.new hlq
  have hlq7 : upd H6 lq (.lst (lys.take 40)) lq = some (.lst (lys.take 40)) := upd_same
  have e57 := e6.trans e7
  have lits7 : Items PTi ((pres (d * b)).take 40) (lys.take 40) (upd H6 lq (.lst (lys.take 40))) := lits.map fun _ _ _ r => PT.mono r e7
  have hndr : lq ≠ dr := fun z => by
    obtain ⟨_, h, _⟩ := hd5
    rw [z, e6 _ _ h] at hlq; cases hlq
  have hndf : lq ≠ fa := fun z => by rw [z, e6 _ _ hf5] at hlq; cases hlq
  have hs7 := hs5.mono e57
  have hd7 := hd5.mono e57
  have hcl7 := hcl5.mono e57
  have hf7 := e57 _ _ hf5
  clear hlq lits hlp
  generalize upd H6 lq (.lst (lys.take 40)) = H7 at hlq7 lits7 hs7 hd7 hcl7 hf7 ⊢
  generalize hys : lys.take 40 = ys at hlq7 lits7 ⊢
  clear e57 e7 e6 hcl5 hd5 hs5 hf5 e5 hcl hd4 hs4 e34
  refine ⟨lq, rfl, ⟨_, SqL.of hlq7⟩, for_list (xs := ys) (fun i σ H' => ∃ u5 fs, σ = [some (.ref sc), some (.ref dr), some sv, some (.ref x), some (.ref fa), u5, none, none, none, none, none, none] ∧ fs.Sublist (((pres (d * b)).take 40).take i) ∧
    SpaceAt T.C_Space d b sv H' ∧ DrawAt K dr sc ns H' ∧ CloudAt T.C_Cloud T.C_Space d b row (.ref x) H' ∧ H' fa = some (.dT (fs.map (entF (cntN (d * b) row)))) ∧ H' lq = some (.lst ys) ∧ Items PTi ((pres (d * b)).take 40) ys H') ⟨none, [], rfl, List.Sublist.refl _, hs7, hd7, hcl7, hf7, hlq7, lits7⟩ (fun i σ H' _ h => ?_) ?_ ?_⟩
  · obtain ⟨_, _, _, _, _, _, _, _, h, _⟩ := h
    exact SqL.of h
  · rintro i y σ H8 hy ⟨u5, fs, rfl, hsub, hs8, hd8, hcl8, hf8, hl8, it8⟩
    obtain ⟨p, hp, hyp⟩ := it8.at hy
    obtain ⟨n8, hdr8, _⟩ := id hd8
    have hpm : p ∈ pres (d * b) := List.mem_of_mem_take (List.mem_of_getElem? hp)
    obtain ⟨v1, v2⟩ := pres_val hpm
    have hsub2 : (fs ++ [p]).Sublist (((pres (d * b)).take 40).take (i + 1)) := by
      rw [take_snoc hp]; exact hsub.append (List.Sublist.refl _)
    have hnp : p ∉ fs := by
      have hn : (fs ++ [p]).Nodup := (hsub2.trans ((List.take_sublist _ _).trans (List.take_sublist _ _))).nodup (pres_nd _ hD6)
      intro h
      exact (List.nodup_append.mp hn).2.2 p h p List.mem_cons_self rfl
    refine ⟨_, rfl, dr, sc, ns, 6, rfl, by decide, hd8, fun r H9 hr9 b9 hd9 => ⟨rfl, _, rfl, ?_⟩⟩
    have hs9 := hs8.bo b9 hdr8 (odd_l _)
    have hcl9 := hcl8.bo b9 hdr8 (odd_l _)
    have hp9 := PT.bl hyp b9 hdr8
    have hf9 := b9 fa _ hf8 (fun z => by rw [z, hdr8] at hf8; cases hf8)
    have hl9 := b9 lq _ hl8 hndr
    have it9 : Items PTi ((pres (d * b)).take 40) ys H9 := it8.map fun _ _ _ r => PT.bl r b9 hdr8
    refine ite2 (fun c => ?_) (fun c => ?_)
    · obtain ⟨_, ca, cdx, _, _, eca, hca, _⟩ := id hcl9
      cases eca
      refine ⟨_, rfl, x, cdx, _, rfl, hca, fn_Cloud_count _, _, rfl, _, _, d, b, row, p, rfl, hcl9, hp9, v1, fun H10 e10 => ?_⟩
      obtain ⟨pa', rfl, hpa'⟩ := PT.mono hp9 e10
      have hf10 := e10 _ _ hf9
      have hlen : fs.length ≤ 127 := vf_len hD6 (vf_sub hD6 (hsub.trans ((List.take_sublist _ _).trans (List.take_sublist _ _))))
      have nk : kOf p ∉ (fs.map (entF (cntN (d * b) row))).map (·.1) := by
        rw [List.map_map]
        intro h
        obtain ⟨q, hq, e⟩ := List.mem_map.mp h
        exact hnp (kOf_inj e ▸ hq)
      refine ⟨_, rfl, _, rfl, fa, _, rfl, .t (k := kOf p) hf10 hpa' (by rw [List.length_map]; exact sz_lt (by omega)), some (.ref pa'), fs ++ [p], rfl, hsub2, ?_⟩
      rw [putK_new nk]
      have bf : But fa H10 (upd H10 fa (.dT (fs.map (entF (cntN (d * b) row)) ++ [(kOf p, .int (cntN (d * b) row p : Int))]))) := fun c o hc n => (upd_ne n).trans hc
      refine ⟨(hs9.mono e10).bo bf hf10 (odd_d _), (hd9.mono e10).bd bf hf10, (hcl9.mono e10).bo bf hf10 (odd_d _), ?_, (upd_ne hndf).trans (e10 _ _ hl9), it9.map fun _ _ _ r => PT.bo (PT.mono r e10) bf hf10 (odd_d _)⟩
      rw [upd_same, List.map_append]; rfl
    · refine ⟨some y, fs, rfl, ?_, hs9, hd9, hcl9, hf9, hl9, it9⟩
      rw [take_snoc hp]
      exact hsub.trans (List.sublist_append_left _ _)
  · rintro σ H8 ⟨u5, fs, rfl, hsub, hs8, hd8, hcl8, hf8, hl8, it8⟩
    rw [it8.1, List.take_length] at hsub
    have vf : VF (d * b) fs := vf_sub hD6 (hsub.trans (List.take_sublist _ _))
    have hfl := vf_len hD6 vf
    clear hsub it8 hl8 lits7 hlq7 hcl7 hs7 hd7 hf7 hndr hndf hys
    have hco : CntOk (d * b) (cntN (d * b) row) := cntok hrow
    obtain ⟨_, sa, sdx, rfl, hsa⟩ := id hs8
    -- knowledge, box, fineness
    refine ⟨_, rfl, _, rfl, fun kx kdx nkx nkd kne => ?_⟩
    have e9 : Ex H8 (upd (upd H8 kdx (.own kx)) kx (.ins T.C_Knowledge kdx [])) := (Ex.new nkd).trans (Ex.new (by rw [upd_ne (Ne.symm kne)]; exact nkx))
    refine ⟨kx, kdx, fa, _, d, b, _, fs, rfl, upd_same, hs8.mono e9, e9 _ _ hf8, vf, by omega, hco, fun H9 bt hk9 => ⟨rfl, ?_⟩⟩
    have e89 := made_ex nkx nkd bt
    clear e9 bt nkx nkd kne
    refine ⟨_, rfl, _, rfl, dr, sc, ns, _, d, b, rfl, hd8.mono e89, hs8.mono e89, fun lo hi bv H10 b10 hd10 hbx => ?_⟩
    obtain ⟨n9, hdr9, _⟩ := id (hd8.mono e89)
    have hs10 := (hs8.mono e89).bo b10 hdr9 (odd_l _)
    have hcl10 := (hcl8.mono e89).bo b10 hdr9 (odd_l _)
    have hk10 := hk9.bl b10 hdr9
    have hf10 := b10 fa _ (e89 _ _ hf8) (fun z => by have h := e89 _ _ hf8; rw [z, hdr9] at h; cases h)
    have hsa10 := b10.i hdr9 (odd_l _) (e89 _ _ hsa)
    refine ⟨_, rfl, r_Space_depth T rfl hsa10 rfl ⟨_, _, rfl, rfl, dr, sc, ns, d * b + 1, rfl, Nat.succ_pos _, hd10, fun r H11 hr b11 hd11 => ⟨6, (r : Int), rfl, ?_⟩⟩⟩
    have efin : (if (r : Int) < 6 then (r : Int) else 6) = ((min r 6 : Nat) : Int) := by split <;> omega
    have hfin : min r 6 ≤ d * b := by omega
    rw [efin]
    generalize min r 6 = fin at hfin ⊢
    obtain ⟨n10, hdr10, _⟩ := id hd10
    have hs11 := hs10.bo b11 hdr10 (odd_l _)
    have hcl11 := hcl10.bo b11 hdr10 (odd_l _)
    have hk11 := hk10.bl b11 hdr10
    have hbx11 := hbx.bo b11 hdr10 (odd_l _)
    have hf11 := b11 fa _ hf10 (fun z => by rw [z, hdr10] at hf10; cases hf10)
    clear efin hr hd11 b11 hdr10 hd10 hsa10 hf10 hk10 hcl10 hs10 hbx b10 hdr9 hk9 e89 hd8 hcl8 hs8 hf8 hsa
    refine ⟨_, _, _, rfl, ?_⟩
    -- the fewest facts
    refine ⟨_, rfl, _, rfl, _, rfl, _, rfl, _, _, _, fin, d, b, row, lo, hi, _, fs, rfl, hcl11, hk11, hbx11, vf, hfin, fun hs m rows hho hdp fv H12 e12 htp => ?_⟩
    have hs12 := hs11.me e12
    have hcl12 := hcl11.me e12
    have hbx12 := hbx11.me e12
    have hf12 := e12 _ _ hf11 (fun _ z => nomatch z)
    obtain ⟨tf, ys', order, rfl, htf, pm, itf⟩ := htp
    refine ⟨_, rfl, fa, _, rfl, hf12, fun kv hkv => ?_, fun ta hta => ⟨_, _, rfl, ?_⟩⟩
    · obtain ⟨p, hp, rfl⟩ := List.mem_map.mp hkv
      obtain ⟨v1, v2⟩ := vf.ok p hp
      exact ⟨p, mem_pres (by omega) (of_root_ins v2), rfl⟩
    have e13 : Ex H12 (upd H12 ta (.dT (fs.map (entF (cntN (d * b) row))))) := Ex.new hta
    have ht13 : upd H12 ta (.dT (fs.map (entF (cntN (d * b) row)))) ta = some (.dT (fs.map (entF (cntN (d * b) row)))) := upd_same
    generalize upd H12 ta (.dT (fs.map (entF (cntN (d * b) row)))) = H13 at e13 ht13 ⊢
    have ok : (⟨d, b, fin, row, lo, hi, fs, hs⟩ : TI).Ok := ti_ok hsp hrow hbx11.1.1 hbx11.2.1.1 hfin vf hho
    obtain ⟨so1, so2, so3, so4⟩ := Env.dp_sound ok.fit hdp
    have ond : order.Nodup := pm.nodup_iff.mpr so2
    have oval : ∀ p ∈ order, p.1 ≤ d * b ∧ ins p (0, 0) ∧ p ∉ fs := fun p hp => by
      obtain ⟨q1, q2, q3⟩ := so3 p (pm.mem_iff.mp hp)
      exact ⟨Nat.le_trans q2 hfin, q1, of_decide_eq_false q3⟩
    have hol : order.length ≤ 127 := by
      have := nodup_sub_len (m := pres 6) ond fun p hp => mem_pres (Nat.le_trans (oval p hp).1 hD6) (of_root_ins (oval p hp).2.1)
      have e : (pres 6).length = 127 := by decide +kernel
      omega
    have hs13 := hs12.mono e13
    have hcl13 := hcl12.mono e13
    have hbx13 := hbx12.mono e13
    have htf13 := e13 _ _ htf
    have itf13 : Items PTi order ys' H13 := itf.map fun _ _ _ r => PT.mono r e13
    clear e13 hta hf12 hbx12 hcl12 hs12 htf itf e12 hf11 hbx11 hk11 hcl11 hs11
    refine ⟨_, rfl, tf, rfl, ⟨_, SqT.of htf13⟩, for_tup (xs := ys') (fun i σ H' => ∃ u5, σ = [some (.ref sc), some (.ref dr), some (.ref sa), some (.ref x), some (.ref fa), u5, some (.ref kx), some bv, some (.int (fin : Int)), some (.ref tf), some (.ref ta), none] ∧
      SpaceAt T.C_Space d b (.ref sa) H' ∧ CloudAt T.C_Cloud T.C_Space d b row (.ref x) H' ∧ BoxAt T.C_Box T.C_Space d b lo hi bv H' ∧ H' ta = some (.dT ((fs ++ order.take i).map (entF (cntN (d * b) row)))) ∧ H' tf = some (.tup ys') ∧ Items PTi order ys' H') ⟨_, rfl, hs13, hcl13, hbx13, by rw [List.take_zero, List.append_nil]; exact ht13, htf13, itf13⟩ (fun i σ H' _ h => ?_) ?_ ?_⟩
    · obtain ⟨_, _, _, _, _, _, h, _⟩ := h
      exact SqT.of h
    · rintro i y σ H14 hy ⟨u5, rfl, hs14, hcl14, hbx14, ht14, htf14, it14⟩
      obtain ⟨p, hp, hyp⟩ := it14.at hy
      obtain ⟨v1, v2, v3⟩ := oval p (List.mem_of_getElem? hp)
      obtain ⟨_, ca, cdx, _, _, eca, hca, _⟩ := id hcl14
      cases eca
      refine ⟨_, rfl, x, cdx, _, rfl, hca, fn_Cloud_count _, _, rfl, _, _, d, b, row, p, rfl, hcl14, hyp, v1, fun H15 e15 => ?_⟩
      obtain ⟨pa', rfl, hpa'⟩ := PT.mono hyp e15
      have ht15 := e15 _ _ ht14
      have nk : kOf p ∉ ((fs ++ order.take i).map (entF (cntN (d * b) row))).map (·.1) := by
        rw [List.map_map]
        intro h
        obtain ⟨q, hq, e⟩ := List.mem_map.mp h
        have e := kOf_inj e
        subst e
        rcases List.mem_append.mp hq with h | h
        · exact v3 h
        · have hn : (order.take (i + 1)).Nodup := (List.take_sublist _ _).nodup ond
          rw [take_snoc hp] at hn
          exact (List.nodup_append.mp hn).2.2 q h q List.mem_cons_self rfl
      refine ⟨_, rfl, _, rfl, ta, _, rfl, .t (k := kOf p) ht15 hpa' ?_, some (.ref pa'), rfl, ?_⟩
      · rw [List.length_map, List.length_append, List.length_take]
        exact sz_lt (by omega)
      rw [putK_new nk]
      have bf : But ta H15 (upd H15 ta (.dT ((fs ++ order.take i).map (entF (cntN (d * b) row)) ++ [(kOf p, .int (cntN (d * b) row p : Int))]))) := fun c o hc n => (upd_ne n).trans hc
      refine ⟨(hs14.mono e15).bo bf ht15 (odd_d _), (hcl14.mono e15).bo bf ht15 (odd_d _), (hbx14.mono e15).bo bf ht15 (odd_d _), ?_, bf.t ht15 (odd_d _) (e15 _ _ htf14), it14.map fun _ _ _ r => PT.bo (PT.mono r e15) bf ht15 (odd_d _)⟩
      rw [upd_same, take_snoc hp, ← List.append_assoc, List.map_append (l₂ := [p])]; rfl
    · rintro σ H14 ⟨u5, rfl, hs14, hcl14, hbx14, ht14, htf14, it14⟩
      rw [it14.1, List.take_length] at ht14
      have vf1 : VF (d * b) (fs ++ order) := ⟨List.nodup_append.mpr ⟨vf.nd, ond, fun p hp q hq e => (oval q hq).2.2 (e ▸ hp)⟩, fun p hp => by
        rcases List.mem_append.mp hp with h | h
        · exact vf.ok p h
        · exact ⟨(oval p h).1, (oval p h).2.1⟩⟩
      have hl1 : (fs ++ order).length ≤ 254 := by rw [List.length_append]; omega
      have en1 : (⟨d, b, fin, row, lo, hi, fs, hs⟩ : TI).env.Enough (memB (fs ++ order)) := so4 _ fun r _ => by
        show decide (r ∈ fs ++ order) = true ↔ decide (r ∈ fs) = true ∨ r ∈ rows
        rw [decide_eq_true_eq, decide_eq_true_eq, List.mem_append, pm.mem_iff]
      refine ⟨_, rfl, _, rfl, fun k2 k2d n1 n2 n3 => ?_⟩
      have e15 : Ex H14 (upd (upd H14 k2d (.own k2)) k2 (.ins T.C_Knowledge k2d [])) := (Ex.new n2).trans (Ex.new (by rw [upd_ne (Ne.symm n3)]; exact n1))
      refine ⟨k2, k2d, ta, _, d, b, _, fs ++ order, rfl, upd_same, hs14.mono e15, e15 _ _ ht14, vf1, by omega, hco, fun H15 bt2 hk15 => ⟨rfl, ?_⟩⟩
      have e14 := made_ex n1 n2 bt2
      clear e15 bt2 n1 n2 n3
      refine ⟨_, rfl, _, rfl, _, _, fin, d, b, _, fs ++ order, lo, hi, rfl, hk15, hbx14.mono e14, vf1, by omega, hco, hfin, fun o fo ho => ?_⟩
      have hok := (okT_enough ok fo).mpr en1
      intro H16 e16
      refine ⟨true, congrArg V.bl hok, iteF ?_⟩
      have e146 := e14.trans e16
      have hs16 := hs14.mono e146
      have hcl16 := hcl14.mono e146
      have hbx16 := hbx14.mono e146
      have ht16 := e146 _ _ ht14
      have htf16 := e146 _ _ htf14
      have it16 : Items PTi order ys' H16 := it14.map fun _ _ _ r => PT.mono r e146
      clear hok ho fo o e146 e16 e14 hk15 hs14 hcl14 hbx14 ht14 htf14 it14
      refine ⟨_, rfl, ((12 : Nat) : Int), rfl, sl_go htf16 fun tq H17 e17 htq => ?_⟩
      have hs17 := hs16.mono e17
      have hcl17 := hcl16.mono e17
      have hbx17 := hbx16.mono e17
      have ht17 := e17 _ _ ht16
      have it17 : Items PTi (order.take 12) (ys'.take 12) H17 := (items_take it16 12).map fun _ _ _ r => PT.mono r e17
      clear hs16 hcl16 hbx16 ht16 htf16 it16 e17
      refine ⟨tq, rfl, ⟨_, SqT.of htq⟩, for_tup (xs := ys'.take 12) (fun i σ H' => ∃ u5 u11, σ = [some (.ref sc), some (.ref dr), some (.ref sa), some (.ref x), some (.ref fa), u5, some (.ref kx), some bv, some (.int (fin : Int)), some (.ref tf), some (.ref ta), u11] ∧
        SpaceAt T.C_Space d b (.ref sa) H' ∧ CloudAt T.C_Cloud T.C_Space d b row (.ref x) H' ∧ BoxAt T.C_Box T.C_Space d b lo hi bv H' ∧ H' ta = some (.dT ((fs ++ order).map (entF (cntN (d * b) row)))) ∧ H' tq = some (.tup (ys'.take 12)) ∧ Items PTi (order.take 12) (ys'.take 12) H') ⟨_, _, rfl, hs17, hcl17, hbx17, ht17, htq, it17⟩ (fun i σ H' _ h => ?_) ?_ ?_⟩
      · obtain ⟨_, _, _, _, _, _, _, h, _⟩ := h
        exact SqT.of h
      · rintro i y σ H18 hy ⟨v5, v11, rfl, hs18, hcl18, hbx18, ht18, htq18, it18⟩
        obtain ⟨p, hp, hyp⟩ := it18.at hy
        have hpo : p ∈ order := List.mem_of_mem_take (List.mem_of_getElem? hp)
        obtain ⟨v1, v2, v3⟩ := oval p hpo
        refine ⟨_, rfl, ta, _, rfl, ht18, fun kv hkv => ?_, fun fw hfw => ?_⟩
        · obtain ⟨q, hq, rfl⟩ := List.mem_map.mp hkv
          obtain ⟨w1, w2⟩ := vf1.ok q hq
          exact ⟨q, mem_pres (by omega) (of_root_ins w2), rfl⟩
        have e19 : Ex H18 (upd H18 fw (.dT ((fs ++ order).map (entF (cntN (d * b) row))))) := Ex.new hfw
        have hw19 : upd H18 fw (.dT ((fs ++ order).map (entF (cntN (d * b) row)))) fw = some (.dT ((fs ++ order).map (entF (cntN (d * b) row)))) := upd_same
        have hnt : ta ≠ fw := ne_of_none ht18 hfw
        generalize upd H18 fw (.dT ((fs ++ order).map (entF (cntN (d * b) row)))) = H19 at e19 hw19 ⊢
        obtain ⟨pa, rfl, hpa⟩ := PT.mono hyp e19
        refine ⟨_, rfl, .inr (.inr (.inl ⟨rfl, .inr ⟨_, hw19⟩⟩)), _, rfl, fw, _, kOf p, pa, _, rfl, rfl, hw19, hpa, by rw [valV_ent, if_pos (List.mem_append_right _ hpo)], ?_⟩
        rw [dropK_ent]
        have bf : But fw H19 (upd H19 fw (.dT (((fs ++ order).filter fun q => decide (q ≠ p)).map (entF (cntN (d * b) row))))) := fun c o hc n => (upd_ne n).trans hc
        have hw20 : upd H19 fw (.dT (((fs ++ order).filter fun q => decide (q ≠ p)).map (entF (cntN (d * b) row)))) fw = some (.dT (((fs ++ order).filter fun q => decide (q ≠ p)).map (entF (cntN (d * b) row)))) := upd_same
        generalize upd H19 fw (.dT (((fs ++ order).filter fun q => decide (q ≠ p)).map (entF (cntN (d * b) row)))) = H20 at bf hw20 ⊢
        have hs20 := (hs18.mono e19).bo bf hw19 (odd_d _)
        have hcl20 := (hcl18.mono e19).bo bf hw19 (odd_d _)
        have hbx20 := (hbx18.mono e19).bo bf hw19 (odd_d _)
        have ht20 := bf ta _ (e19 _ _ ht18) hnt
        have htq20 := bf.t hw19 (odd_d _) (e19 _ _ htq18)
        have it20 : Items PTi (order.take 12) (ys'.take 12) H20 := it18.map fun _ _ _ r => PT.bo (PT.mono r e19) bf hw19 (odd_d _)
        have vf2 : VF (d * b) ((fs ++ order).filter fun q => decide (q ≠ p)) := ⟨List.filter_sublist.nodup vf1.nd, fun q hq => vf1.ok q (List.mem_filter.mp hq).1⟩
        have hl2 : ((fs ++ order).filter fun q => decide (q ≠ p)).length ≤ 254 := Nat.le_trans (List.length_filter_le _ _) hl1
        have en2 : ¬ (⟨d, b, fin, row, lo, hi, fs, hs⟩ : TI).env.Enough (memB ((fs ++ order).filter fun q => decide (q ≠ p))) := Env.dp_needs ok.fit hdp (pm.mem_iff.mp hpo) fun r => by
          show decide (r ∈ (fs ++ order).filter fun q => decide (q ≠ p)) = true ↔ decide (r ∈ fs) = true ∨ (r ∈ rows ∧ r ≠ p)
          rw [decide_eq_true_eq, decide_eq_true_eq, List.mem_filter, List.mem_append, pm.mem_iff, decide_eq_true_eq]
          constructor
          · rintro ⟨z | z, n⟩
            · exact .inl z
            · exact .inr ⟨z, n⟩
          · rintro (z | ⟨z, n⟩)
            · exact ⟨.inl z, fun e => v3 (e ▸ z)⟩
            · exact ⟨.inr z, n⟩
        refine ⟨_, rfl, _, rfl, fun k3 k3d n1 n2 n3 => ?_⟩
        have e21 : Ex H20 (upd (upd H20 k3d (.own k3)) k3 (.ins T.C_Knowledge k3d [])) := (Ex.new n2).trans (Ex.new (by rw [upd_ne (Ne.symm n3)]; exact n1))
        refine ⟨k3, k3d, fw, _, d, b, _, _, rfl, upd_same, hs20.mono e21, e21 _ _ hw20, vf2, by omega, hco, fun H21 bt3 hk21 => ⟨rfl, ?_⟩⟩
        have e201 := made_ex n1 n2 bt3
        refine ⟨_, rfl, _, rfl, _, _, fin, d, b, _, _, lo, hi, rfl, hk21, hbx20.mono e201, vf2, by omega, hco, hfin, fun o fo ho => ?_⟩
        have hok : okT (fun p => decide (0 < roomN d b lo hi p)) (knB (d * b) (cntN (d * b) row) o) fin (0, 0) = false := Bool.eq_false_iff.mpr fun z => en2 ((okT_enough ok fo).mp z)
        intro H22 e22
        have e202 := e201.trans e22
        exact ⟨false, congrArg V.bl hok, iteF ⟨_, _, rfl, hs20.mono e202, hcl20.mono e202, hbx20.mono e202, e202 _ _ ht20, e202 _ _ htq20, it20.map fun _ _ _ r => PT.mono r e202⟩⟩
      · rintro σ H18 ⟨v5, v11, rfl, hs18, hcl18, hbx18, ht18, htq18, it18⟩
        refine ⟨_, rfl, _, rfl, _, rfl, fun k3 k3d n1 n2 n3 => ?_⟩
        have e19 : Ex H18 (upd (upd H18 k3d (.own k3)) k3 (.ins T.C_Knowledge k3d [])) := (Ex.new n2).trans (Ex.new (by rw [upd_ne (Ne.symm n3)]; exact n1))
        refine ⟨k3, k3d, ta, _, d, b, _, fs ++ order, rfl, upd_same, hs18.mono e19, e19 _ _ ht18, vf1, by omega, hco, fun H20 bt3 hk20 => ⟨rfl, ?_⟩⟩
        have e20 := made_ex n1 n2 bt3
        refine ⟨_, rfl, _, rfl, _, _, _, fin, d, b, row, lo, hi, _, fs ++ order, rfl, hcl18.mono e20, hk20, hbx18.mono e20, vf1, hfin, fun hs' m' rows' hho' hdp' fv' H21 e21 htp' => ?_⟩
        have ok' : (⟨d, b, fin, row, lo, hi, fs ++ order, hs'⟩ : TI).Ok := ti_ok hsp hrow hbx18.1.1 hbx18.2.1.1 hfin vf1 hho'
        have again := Env.dp_again (e := (⟨d, b, fin, row, lo, hi, fs, hs⟩ : TI).env) (memB (fs ++ order)) (memB hs') ok'.fit en1
        have hdp2 : some ((0 : Nat), ([] : List Pre)) = some (m', rows') := again.symm.trans hdp'
        injection hdp2 with hdp2
        injection hdp2 with _ hrows
        subst hrows
        obtain ⟨tf', ys2, order2, rfl, htf2, pm2, it2⟩ := htp'
        have ho2 : order2 = [] := pm2.eq_nil
        subst ho2
        have hy2 : ys2 = [] := List.eq_nil_of_length_eq_zero it2.1
        subst hy2
        refine ⟨Nat.zero_le _, fun q hq => ?_⟩
        exact ⟨.tuple [], .tuple [], .tup (SqT.of ((Ex.new hq) _ _ htf2)) .nil, .tup (SqT.of upd_same) .nil, rfl, rfl, k _⟩
end
end FW
namespace FW
open PySem L2 FC Evl
section
variable {K : PySem.W.Frag} {mg : Str → Option Value} {h : Heap}
structure G_Space (K : PySem.W.Frag) (mg : Str → Option Value) where
  C_Space : Addr
  cl_Space : Cls K C_Space
  mg_Space : mg "Space" = some (.ref C_Space)
  na_Space_dimensions : NoAttr K C_Space "dimensions"
  na_Space_bits : NoAttr K C_Space "bits"
  na_Space_depth : NoAttr K C_Space "depth"
  na_Space_side : NoAttr K C_Space "side"
  f_Space_init : Addr
  d_Space_init : FuncData
  F_Space_init : Fun K "__init__" "Space.__init__" s_Space_init f_Space_init d_Space_init
  b_Space_init : Binds K d_Space_init ["self", "dimensions", "bits"] []
  mk_Space : Mk K C_Space f_Space_init
  f_Space_is_point : Addr
  d_Space_is_point : FuncData
  F_Space_is_point : Fun K "is_point" "Space.is_point" s_Space_is_point f_Space_is_point d_Space_is_point
  b_Space_is_point : Binds K d_Space_is_point ["self", "thing"] []
  M_Space_is_point : Meth K C_Space "is_point" f_Space_is_point
  f_Space_check_point : Addr
  d_Space_check_point : FuncData
  F_Space_check_point : Fun K "check_point" "Space.check_point" s_Space_check_point f_Space_check_point d_Space_check_point
  b_Space_check_point : Binds K d_Space_check_point ["self", "thing"] []
  M_Space_check_point : Meth K C_Space "check_point" f_Space_check_point
  f_Space_woven : Addr
  d_Space_woven : FuncData
  F_Space_woven : Fun K "woven" "Space.woven" s_Space_woven f_Space_woven d_Space_woven
  b_Space_woven : Binds K d_Space_woven ["self", "point"] []
  M_Space_woven : Meth K C_Space "woven" f_Space_woven
  f_Space_point_of : Addr
  d_Space_point_of : FuncData
  F_Space_point_of : Fun K "point_of" "Space.point_of" s_Space_point_of f_Space_point_of d_Space_point_of
  b_Space_point_of : Binds K d_Space_point_of ["self", "number"] []
  M_Space_point_of : Meth K C_Space "point_of" f_Space_point_of
  f_Space_size : Addr
  d_Space_size : FuncData
  F_Space_size : Fun K "size" "Space.size" s_Space_size f_Space_size d_Space_size
  b_Space_size : Binds K d_Space_size ["self", "prefix"] []
  M_Space_size : Meth K C_Space "size" f_Space_size
  f_Space_is_prefix : Addr
  d_Space_is_prefix : FuncData
  F_Space_is_prefix : Fun K "is_prefix" "Space.is_prefix" s_Space_is_prefix f_Space_is_prefix d_Space_is_prefix
  b_Space_is_prefix : Binds K d_Space_is_prefix ["self", "thing"] []
  M_Space_is_prefix : Meth K C_Space "is_prefix" f_Space_is_prefix
  f_Space_cell : Addr
  d_Space_cell : FuncData
  F_Space_cell : Fun K "cell" "Space.cell" s_Space_cell f_Space_cell d_Space_cell
  b_Space_cell : Binds K d_Space_cell ["self", "prefix"] []
  M_Space_cell : Meth K C_Space "cell" f_Space_cell
theorem n_Space (X : K.In h) (G : h.Ns mainGlobals mg) {C : Addr} {f1 : Addr} {od1 an1 : Option Addr} {sl1 : Array (Option Value)} {oc1 kV1 dc1 pm1 cd1 ct1 : Value} {f2 : Addr} {od2 an2 : Option Addr} {sl2 : Array (Option Value)} {oc2 kV2 dc2 pm2 cd2 ct2 : Value} {f3 : Addr} {od3 an3 : Option Addr} {sl3 : Array (Option Value)} {oc3 kV3 dc3 pm3 cd3 ct3 : Value} {f4 : Addr} {od4 an4 : Option Addr} {sl4 : Array (Option Value)} {oc4 kV4 dc4 pm4 cd4 ct4 : Value} {f5 : Addr} {od5 an5 : Option Addr} {sl5 : Array (Option Value)} {oc5 kV5 dc5 pm5 cd5 ct5 : Value} {f6 : Addr} {od6 an6 : Option Addr} {sl6 : Array (Option Value)} {oc6 kV6 dc6 pm6 cd6 ct6 : Value} {f7 : Addr} {od7 an7 : Option Addr} {sl7 : Array (Option Value)} {oc7 kV7 dc7 pm7 cd7 ct7 : Value} {f8 : Addr} {od8 an8 : Option Addr} {sl8 : Array (Option Value)} {oc8 kV8 dc8 pm8 cd8 ct8 : Value}
    (aC : PySem.W.nsIn K mainGlobals "Space" = some (some (.ref C)))
    (pg : PySem.W.plainGet K C Str.empty = true)
    (hd : PySem.W.hasDictIn K C = true)
    (po : PySem.W.plainOver K C = true)
    (sa : PySem.W.findIn K (.ref C) "__setattr__" = some (some (.builtin "object.__setattr__")))
    (mk : PySem.W.makesIn K C = true)
    (kc : PySem.W.keepIn K (.ref C) = true)
    (n_dimensions : PySem.W.findIn K (.ref C) "dimensions" = some none)
    (n_bits : PySem.W.findIn K (.ref C) "bits" = some none)
    (n_depth : PySem.W.findIn K (.ref C) "depth" = some none)
    (n_side : PySem.W.findIn K (.ref C) "side" = some none)
    (a1 : PySem.W.findIn K (.ref C) "__init__" = some (some (.ref f1)))
    (i1 : PySem.W.isFn K (.ref f1) = true)
    (l1 : K.lookup f1 = some ⟨oc1, od1, .func (PySem.W.fnOf "__init__" "Space.__init__" (defArgs s_Space_init) (defBody s_Space_init) (defScope s_Space_init) .none kV1 dc1 pm1 an1 cd1 ct1), sl1⟩)
    (c1 : PySem.W.codeIn K cd1 "Space.__init__" = true)
    (k1 : PySem.W.keepIn K (.ref f1) = true)
    (a2 : PySem.W.findIn K (.ref C) "is_point" = some (some (.ref f2)))
    (i2 : PySem.W.isFn K (.ref f2) = true)
    (l2 : K.lookup f2 = some ⟨oc2, od2, .func (PySem.W.fnOf "is_point" "Space.is_point" (defArgs s_Space_is_point) (defBody s_Space_is_point) (defScope s_Space_is_point) .none kV2 dc2 pm2 an2 cd2 ct2), sl2⟩)
    (c2 : PySem.W.codeIn K cd2 "Space.is_point" = true)
    (k2 : PySem.W.keepIn K (.ref f2) = true)
    (a3 : PySem.W.findIn K (.ref C) "check_point" = some (some (.ref f3)))
    (i3 : PySem.W.isFn K (.ref f3) = true)
    (l3 : K.lookup f3 = some ⟨oc3, od3, .func (PySem.W.fnOf "check_point" "Space.check_point" (defArgs s_Space_check_point) (defBody s_Space_check_point) (defScope s_Space_check_point) .none kV3 dc3 pm3 an3 cd3 ct3), sl3⟩)
    (c3 : PySem.W.codeIn K cd3 "Space.check_point" = true)
    (k3 : PySem.W.keepIn K (.ref f3) = true)
    (a4 : PySem.W.findIn K (.ref C) "woven" = some (some (.ref f4)))
    (i4 : PySem.W.isFn K (.ref f4) = true)
    (l4 : K.lookup f4 = some ⟨oc4, od4, .func (PySem.W.fnOf "woven" "Space.woven" (defArgs s_Space_woven) (defBody s_Space_woven) (defScope s_Space_woven) .none kV4 dc4 pm4 an4 cd4 ct4), sl4⟩)
    (c4 : PySem.W.codeIn K cd4 "Space.woven" = true)
    (k4 : PySem.W.keepIn K (.ref f4) = true)
    (a5 : PySem.W.findIn K (.ref C) "point_of" = some (some (.ref f5)))
    (i5 : PySem.W.isFn K (.ref f5) = true)
    (l5 : K.lookup f5 = some ⟨oc5, od5, .func (PySem.W.fnOf "point_of" "Space.point_of" (defArgs s_Space_point_of) (defBody s_Space_point_of) (defScope s_Space_point_of) .none kV5 dc5 pm5 an5 cd5 ct5), sl5⟩)
    (c5 : PySem.W.codeIn K cd5 "Space.point_of" = true)
    (k5 : PySem.W.keepIn K (.ref f5) = true)
    (a6 : PySem.W.findIn K (.ref C) "size" = some (some (.ref f6)))
    (i6 : PySem.W.isFn K (.ref f6) = true)
    (l6 : K.lookup f6 = some ⟨oc6, od6, .func (PySem.W.fnOf "size" "Space.size" (defArgs s_Space_size) (defBody s_Space_size) (defScope s_Space_size) .none kV6 dc6 pm6 an6 cd6 ct6), sl6⟩)
    (c6 : PySem.W.codeIn K cd6 "Space.size" = true)
    (k6 : PySem.W.keepIn K (.ref f6) = true)
    (a7 : PySem.W.findIn K (.ref C) "is_prefix" = some (some (.ref f7)))
    (i7 : PySem.W.isFn K (.ref f7) = true)
    (l7 : K.lookup f7 = some ⟨oc7, od7, .func (PySem.W.fnOf "is_prefix" "Space.is_prefix" (defArgs s_Space_is_prefix) (defBody s_Space_is_prefix) (defScope s_Space_is_prefix) .none kV7 dc7 pm7 an7 cd7 ct7), sl7⟩)
    (c7 : PySem.W.codeIn K cd7 "Space.is_prefix" = true)
    (k7 : PySem.W.keepIn K (.ref f7) = true)
    (a8 : PySem.W.findIn K (.ref C) "cell" = some (some (.ref f8)))
    (i8 : PySem.W.isFn K (.ref f8) = true)
    (l8 : K.lookup f8 = some ⟨oc8, od8, .func (PySem.W.fnOf "cell" "Space.cell" (defArgs s_Space_cell) (defBody s_Space_cell) (defScope s_Space_cell) .none kV8 dc8 pm8 an8 cd8 ct8), sl8⟩)
    (c8 : PySem.W.codeIn K cd8 "Space.cell" = true)
    (k8 : PySem.W.keepIn K (.ref f8) = true) : Nonempty (G_Space K mg) :=
  ⟨{
    C_Space := C, cl_Space := ⟨pg, hd, po, sa⟩, mg_Space := PySem.W.mg_of X G aC, na_Space_dimensions := n_dimensions, na_Space_bits := n_bits, na_Space_depth := n_depth, na_Space_side := n_side,
    f_Space_init := f1, d_Space_init := PySem.W.fnOf "__init__" "Space.__init__" (defArgs s_Space_init) (defBody s_Space_init) (defScope s_Space_init) .none kV1 dc1 pm1 an1 cd1 ct1, F_Space_init := fun_mk (st := s_Space_init) l1 c1 k1, b_Space_init := (fun_mk (st := s_Space_init) l1 c1 k1).binds (ps := ["self", "dimensions", "bits"]) fun _ _ _ _ _ _ us hl => match us, hl with | [_, _, _], _ => rfl, mk_Space := ⟨mk, a1, i1, kc⟩,
    f_Space_is_point := f2, d_Space_is_point := PySem.W.fnOf "is_point" "Space.is_point" (defArgs s_Space_is_point) (defBody s_Space_is_point) (defScope s_Space_is_point) .none kV2 dc2 pm2 an2 cd2 ct2, F_Space_is_point := fun_mk (st := s_Space_is_point) l2 c2 k2, b_Space_is_point := (fun_mk (st := s_Space_is_point) l2 c2 k2).binds (ps := ["self", "thing"]) fun _ _ _ _ _ _ us hl => match us, hl with | [_, _], _ => rfl, M_Space_is_point := ⟨a2, i2, k2⟩,
    f_Space_check_point := f3, d_Space_check_point := PySem.W.fnOf "check_point" "Space.check_point" (defArgs s_Space_check_point) (defBody s_Space_check_point) (defScope s_Space_check_point) .none kV3 dc3 pm3 an3 cd3 ct3, F_Space_check_point := fun_mk (st := s_Space_check_point) l3 c3 k3, b_Space_check_point := (fun_mk (st := s_Space_check_point) l3 c3 k3).binds (ps := ["self", "thing"]) fun _ _ _ _ _ _ us hl => match us, hl with | [_, _], _ => rfl, M_Space_check_point := ⟨a3, i3, k3⟩,
    f_Space_woven := f4, d_Space_woven := PySem.W.fnOf "woven" "Space.woven" (defArgs s_Space_woven) (defBody s_Space_woven) (defScope s_Space_woven) .none kV4 dc4 pm4 an4 cd4 ct4, F_Space_woven := fun_mk (st := s_Space_woven) l4 c4 k4, b_Space_woven := (fun_mk (st := s_Space_woven) l4 c4 k4).binds (ps := ["self", "point"]) fun _ _ _ _ _ _ us hl => match us, hl with | [_, _], _ => rfl, M_Space_woven := ⟨a4, i4, k4⟩,
    f_Space_point_of := f5, d_Space_point_of := PySem.W.fnOf "point_of" "Space.point_of" (defArgs s_Space_point_of) (defBody s_Space_point_of) (defScope s_Space_point_of) .none kV5 dc5 pm5 an5 cd5 ct5, F_Space_point_of := fun_mk (st := s_Space_point_of) l5 c5 k5, b_Space_point_of := (fun_mk (st := s_Space_point_of) l5 c5 k5).binds (ps := ["self", "number"]) fun _ _ _ _ _ _ us hl => match us, hl with | [_, _], _ => rfl, M_Space_point_of := ⟨a5, i5, k5⟩,
    f_Space_size := f6, d_Space_size := PySem.W.fnOf "size" "Space.size" (defArgs s_Space_size) (defBody s_Space_size) (defScope s_Space_size) .none kV6 dc6 pm6 an6 cd6 ct6, F_Space_size := fun_mk (st := s_Space_size) l6 c6 k6, b_Space_size := (fun_mk (st := s_Space_size) l6 c6 k6).binds (ps := ["self", "prefix"]) fun _ _ _ _ _ _ us hl => match us, hl with | [_, _], _ => rfl, M_Space_size := ⟨a6, i6, k6⟩,
    f_Space_is_prefix := f7, d_Space_is_prefix := PySem.W.fnOf "is_prefix" "Space.is_prefix" (defArgs s_Space_is_prefix) (defBody s_Space_is_prefix) (defScope s_Space_is_prefix) .none kV7 dc7 pm7 an7 cd7 ct7, F_Space_is_prefix := fun_mk (st := s_Space_is_prefix) l7 c7 k7, b_Space_is_prefix := (fun_mk (st := s_Space_is_prefix) l7 c7 k7).binds (ps := ["self", "thing"]) fun _ _ _ _ _ _ us hl => match us, hl with | [_, _], _ => rfl, M_Space_is_prefix := ⟨a7, i7, k7⟩,
    f_Space_cell := f8, d_Space_cell := PySem.W.fnOf "cell" "Space.cell" (defArgs s_Space_cell) (defBody s_Space_cell) (defScope s_Space_cell) .none kV8 dc8 pm8 an8 cd8 ct8, F_Space_cell := fun_mk (st := s_Space_cell) l8 c8 k8, b_Space_cell := (fun_mk (st := s_Space_cell) l8 c8 k8).binds (ps := ["self", "prefix"]) fun _ _ _ _ _ _ us hl => match us, hl with | [_, _], _ => rfl, M_Space_cell := ⟨a8, i8, k8⟩ }⟩
structure G_Box (K : PySem.W.Frag) (mg : Str → Option Value) where
  C_Box : Addr
  cl_Box : Cls K C_Box
  mg_Box : mg "Box" = some (.ref C_Box)
  na_Box_space : NoAttr K C_Box "space"
  na_Box_lows : NoAttr K C_Box "lows"
  na_Box_highs : NoAttr K C_Box "highs"
  f_Box_init : Addr
  d_Box_init : FuncData
  F_Box_init : Fun K "__init__" "Box.__init__" s_Box_init f_Box_init d_Box_init
  b_Box_init : Binds K d_Box_init ["self", "space", "lows", "highs"] []
  mk_Box : Mk K C_Box f_Box_init
  f_Box_room : Addr
  d_Box_room : FuncData
  F_Box_room : Fun K "room" "Box.room" s_Box_room f_Box_room d_Box_room
  b_Box_room : Binds K d_Box_room ["self", "prefix"] []
  M_Box_room : Meth K C_Box "room" f_Box_room
theorem n_Box (X : K.In h) (G : h.Ns mainGlobals mg) {C : Addr} {f1 : Addr} {od1 an1 : Option Addr} {sl1 : Array (Option Value)} {oc1 kV1 dc1 pm1 cd1 ct1 : Value} {f2 : Addr} {od2 an2 : Option Addr} {sl2 : Array (Option Value)} {oc2 kV2 dc2 pm2 cd2 ct2 : Value}
    (aC : PySem.W.nsIn K mainGlobals "Box" = some (some (.ref C)))
    (pg : PySem.W.plainGet K C Str.empty = true)
    (hd : PySem.W.hasDictIn K C = true)
    (po : PySem.W.plainOver K C = true)
    (sa : PySem.W.findIn K (.ref C) "__setattr__" = some (some (.builtin "object.__setattr__")))
    (mk : PySem.W.makesIn K C = true)
    (kc : PySem.W.keepIn K (.ref C) = true)
    (n_space : PySem.W.findIn K (.ref C) "space" = some none)
    (n_lows : PySem.W.findIn K (.ref C) "lows" = some none)
    (n_highs : PySem.W.findIn K (.ref C) "highs" = some none)
    (a1 : PySem.W.findIn K (.ref C) "__init__" = some (some (.ref f1)))
    (i1 : PySem.W.isFn K (.ref f1) = true)
    (l1 : K.lookup f1 = some ⟨oc1, od1, .func (PySem.W.fnOf "__init__" "Box.__init__" (defArgs s_Box_init) (defBody s_Box_init) (defScope s_Box_init) .none kV1 dc1 pm1 an1 cd1 ct1), sl1⟩)
    (c1 : PySem.W.codeIn K cd1 "Box.__init__" = true)
    (k1 : PySem.W.keepIn K (.ref f1) = true)
    (a2 : PySem.W.findIn K (.ref C) "room" = some (some (.ref f2)))
    (i2 : PySem.W.isFn K (.ref f2) = true)
    (l2 : K.lookup f2 = some ⟨oc2, od2, .func (PySem.W.fnOf "room" "Box.room" (defArgs s_Box_room) (defBody s_Box_room) (defScope s_Box_room) .none kV2 dc2 pm2 an2 cd2 ct2), sl2⟩)
    (c2 : PySem.W.codeIn K cd2 "Box.room" = true)
    (k2 : PySem.W.keepIn K (.ref f2) = true) : Nonempty (G_Box K mg) :=
  ⟨{
    C_Box := C, cl_Box := ⟨pg, hd, po, sa⟩, mg_Box := PySem.W.mg_of X G aC, na_Box_space := n_space, na_Box_lows := n_lows, na_Box_highs := n_highs,
    f_Box_init := f1, d_Box_init := PySem.W.fnOf "__init__" "Box.__init__" (defArgs s_Box_init) (defBody s_Box_init) (defScope s_Box_init) .none kV1 dc1 pm1 an1 cd1 ct1, F_Box_init := fun_mk (st := s_Box_init) l1 c1 k1, b_Box_init := (fun_mk (st := s_Box_init) l1 c1 k1).binds (ps := ["self", "space", "lows", "highs"]) fun _ _ _ _ _ _ us hl => match us, hl with | [_, _, _, _], _ => rfl, mk_Box := ⟨mk, a1, i1, kc⟩,
    f_Box_room := f2, d_Box_room := PySem.W.fnOf "room" "Box.room" (defArgs s_Box_room) (defBody s_Box_room) (defScope s_Box_room) .none kV2 dc2 pm2 an2 cd2 ct2, F_Box_room := fun_mk (st := s_Box_room) l2 c2 k2, b_Box_room := (fun_mk (st := s_Box_room) l2 c2 k2).binds (ps := ["self", "prefix"]) fun _ _ _ _ _ _ us hl => match us, hl with | [_, _], _ => rfl, M_Box_room := ⟨a2, i2, k2⟩ }⟩
structure G_Cloud (K : PySem.W.Frag) (mg : Str → Option Value) where
  C_Cloud : Addr
  cl_Cloud : Cls K C_Cloud
  mg_Cloud : mg "Cloud" = some (.ref C_Cloud)
  na_Cloud_space : NoAttr K C_Cloud "space"
  na_Cloud_row : NoAttr K C_Cloud "row"
  f_Cloud_init : Addr
  d_Cloud_init : FuncData
  F_Cloud_init : Fun K "__init__" "Cloud.__init__" s_Cloud_init f_Cloud_init d_Cloud_init
  b_Cloud_init : Binds K d_Cloud_init ["self", "space", "points"] []
  mk_Cloud : Mk K C_Cloud f_Cloud_init
  f_Cloud_count : Addr
  d_Cloud_count : FuncData
  F_Cloud_count : Fun K "count" "Cloud.count" s_Cloud_count f_Cloud_count d_Cloud_count
  b_Cloud_count : Binds K d_Cloud_count ["self", "prefix"] []
  M_Cloud_count : Meth K C_Cloud "count" f_Cloud_count
theorem n_Cloud (X : K.In h) (G : h.Ns mainGlobals mg) {C : Addr} {f1 : Addr} {od1 an1 : Option Addr} {sl1 : Array (Option Value)} {oc1 kV1 dc1 pm1 cd1 ct1 : Value} {f2 : Addr} {od2 an2 : Option Addr} {sl2 : Array (Option Value)} {oc2 kV2 dc2 pm2 cd2 ct2 : Value}
    (aC : PySem.W.nsIn K mainGlobals "Cloud" = some (some (.ref C)))
    (pg : PySem.W.plainGet K C Str.empty = true)
    (hd : PySem.W.hasDictIn K C = true)
    (po : PySem.W.plainOver K C = true)
    (sa : PySem.W.findIn K (.ref C) "__setattr__" = some (some (.builtin "object.__setattr__")))
    (mk : PySem.W.makesIn K C = true)
    (kc : PySem.W.keepIn K (.ref C) = true)
    (n_space : PySem.W.findIn K (.ref C) "space" = some none)
    (n_row : PySem.W.findIn K (.ref C) "row" = some none)
    (a1 : PySem.W.findIn K (.ref C) "__init__" = some (some (.ref f1)))
    (i1 : PySem.W.isFn K (.ref f1) = true)
    (l1 : K.lookup f1 = some ⟨oc1, od1, .func (PySem.W.fnOf "__init__" "Cloud.__init__" (defArgs s_Cloud_init) (defBody s_Cloud_init) (defScope s_Cloud_init) .none kV1 dc1 pm1 an1 cd1 ct1), sl1⟩)
    (c1 : PySem.W.codeIn K cd1 "Cloud.__init__" = true)
    (k1 : PySem.W.keepIn K (.ref f1) = true)
    (a2 : PySem.W.findIn K (.ref C) "count" = some (some (.ref f2)))
    (i2 : PySem.W.isFn K (.ref f2) = true)
    (l2 : K.lookup f2 = some ⟨oc2, od2, .func (PySem.W.fnOf "count" "Cloud.count" (defArgs s_Cloud_count) (defBody s_Cloud_count) (defScope s_Cloud_count) .none kV2 dc2 pm2 an2 cd2 ct2), sl2⟩)
    (c2 : PySem.W.codeIn K cd2 "Cloud.count" = true)
    (k2 : PySem.W.keepIn K (.ref f2) = true) : Nonempty (G_Cloud K mg) :=
  ⟨{
    C_Cloud := C, cl_Cloud := ⟨pg, hd, po, sa⟩, mg_Cloud := PySem.W.mg_of X G aC, na_Cloud_space := n_space, na_Cloud_row := n_row,
    f_Cloud_init := f1, d_Cloud_init := PySem.W.fnOf "__init__" "Cloud.__init__" (defArgs s_Cloud_init) (defBody s_Cloud_init) (defScope s_Cloud_init) .none kV1 dc1 pm1 an1 cd1 ct1, F_Cloud_init := fun_mk (st := s_Cloud_init) l1 c1 k1, b_Cloud_init := (fun_mk (st := s_Cloud_init) l1 c1 k1).binds (ps := ["self", "space", "points"]) fun _ _ _ _ _ _ us hl => match us, hl with | [_, _, _], _ => rfl, mk_Cloud := ⟨mk, a1, i1, kc⟩,
    f_Cloud_count := f2, d_Cloud_count := PySem.W.fnOf "count" "Cloud.count" (defArgs s_Cloud_count) (defBody s_Cloud_count) (defScope s_Cloud_count) .none kV2 dc2 pm2 an2 cd2 ct2, F_Cloud_count := fun_mk (st := s_Cloud_count) l2 c2 k2, b_Cloud_count := (fun_mk (st := s_Cloud_count) l2 c2 k2).binds (ps := ["self", "prefix"]) fun _ _ _ _ _ _ us hl => match us, hl with | [_, _], _ => rfl, M_Cloud_count := ⟨a2, i2, k2⟩ }⟩
structure G_Rest (K : PySem.W.Frag) (mg : Str → Option Value) where
  C_Rest : Addr
  cl_Rest : Cls K C_Rest
  mg_Rest : mg "Rest" = some (.ref C_Rest)
  na_Rest_prefix : NoAttr K C_Rest "prefix"
  na_Rest_count : NoAttr K C_Rest "count"
  na_Rest_inner : NoAttr K C_Rest "inner"
  f_Rest_init : Addr
  d_Rest_init : FuncData
  F_Rest_init : Fun K "__init__" "Rest.__init__" s_Rest_init f_Rest_init d_Rest_init
  b_Rest_init : Binds K d_Rest_init ["self", "prefix", "count", "inner"] []
  mk_Rest : Mk K C_Rest f_Rest_init
theorem n_Rest (X : K.In h) (G : h.Ns mainGlobals mg) {C : Addr} {f1 : Addr} {od1 an1 : Option Addr} {sl1 : Array (Option Value)} {oc1 kV1 dc1 pm1 cd1 ct1 : Value}
    (aC : PySem.W.nsIn K mainGlobals "Rest" = some (some (.ref C)))
    (pg : PySem.W.plainGet K C Str.empty = true)
    (hd : PySem.W.hasDictIn K C = true)
    (po : PySem.W.plainOver K C = true)
    (sa : PySem.W.findIn K (.ref C) "__setattr__" = some (some (.builtin "object.__setattr__")))
    (mk : PySem.W.makesIn K C = true)
    (kc : PySem.W.keepIn K (.ref C) = true)
    (n_prefix : PySem.W.findIn K (.ref C) "prefix" = some none)
    (n_count : PySem.W.findIn K (.ref C) "count" = some none)
    (n_inner : PySem.W.findIn K (.ref C) "inner" = some none)
    (a1 : PySem.W.findIn K (.ref C) "__init__" = some (some (.ref f1)))
    (i1 : PySem.W.isFn K (.ref f1) = true)
    (l1 : K.lookup f1 = some ⟨oc1, od1, .func (PySem.W.fnOf "__init__" "Rest.__init__" (defArgs s_Rest_init) (defBody s_Rest_init) (defScope s_Rest_init) .none kV1 dc1 pm1 an1 cd1 ct1), sl1⟩)
    (c1 : PySem.W.codeIn K cd1 "Rest.__init__" = true)
    (k1 : PySem.W.keepIn K (.ref f1) = true) : Nonempty (G_Rest K mg) :=
  ⟨{
    C_Rest := C, cl_Rest := ⟨pg, hd, po, sa⟩, mg_Rest := PySem.W.mg_of X G aC, na_Rest_prefix := n_prefix, na_Rest_count := n_count, na_Rest_inner := n_inner,
    f_Rest_init := f1, d_Rest_init := PySem.W.fnOf "__init__" "Rest.__init__" (defArgs s_Rest_init) (defBody s_Rest_init) (defScope s_Rest_init) .none kV1 dc1 pm1 an1 cd1 ct1, F_Rest_init := fun_mk (st := s_Rest_init) l1 c1 k1, b_Rest_init := (fun_mk (st := s_Rest_init) l1 c1 k1).binds (ps := ["self", "prefix", "count", "inner"]) fun _ _ _ _ _ _ us hl => match us, hl with | [_, _, _, _], _ => rfl, mk_Rest := ⟨mk, a1, i1, kc⟩ }⟩
structure G_Knowledge (K : PySem.W.Frag) (mg : Str → Option Value) where
  C_Knowledge : Addr
  cl_Knowledge : Cls K C_Knowledge
  mg_Knowledge : mg "Knowledge" = some (.ref C_Knowledge)
  na_Knowledge_space : NoAttr K C_Knowledge "space"
  na_Knowledge_facts : NoAttr K C_Knowledge "facts"
  f_Knowledge_init : Addr
  d_Knowledge_init : FuncData
  F_Knowledge_init : Fun K "__init__" "Knowledge.__init__" s_Knowledge_init f_Knowledge_init d_Knowledge_init
  b_Knowledge_init : Binds K d_Knowledge_init ["self", "space", "facts"] []
  mk_Knowledge : Mk K C_Knowledge f_Knowledge_init
  f_Knowledge_is_fit : Addr
  d_Knowledge_is_fit : FuncData
  F_Knowledge_is_fit : Fun K "is_fit" "Knowledge.is_fit" s_Knowledge_is_fit f_Knowledge_is_fit d_Knowledge_is_fit
  b_Knowledge_is_fit : Binds K d_Knowledge_is_fit ["self", "rest"] []
  M_Knowledge_is_fit : Meth K C_Knowledge "is_fit" f_Knowledge_is_fit
  f_Knowledge_rests : Addr
  d_Knowledge_rests : FuncData
  F_Knowledge_rests : Fun K "rests" "Knowledge.rests" s_Knowledge_rests f_Knowledge_rests d_Knowledge_rests
  b_Knowledge_rests : Binds K d_Knowledge_rests ["self"] []
  M_Knowledge_rests : Meth K C_Knowledge "rests" f_Knowledge_rests
  f_Knowledge_next_inside : Addr
  d_Knowledge_next_inside : FuncData
  F_Knowledge_next_inside : Fun K "next_inside" "Knowledge.next_inside" s_Knowledge_next_inside f_Knowledge_next_inside d_Knowledge_next_inside
  b_Knowledge_next_inside : Binds K d_Knowledge_next_inside ["self", "prefix", "order"] []
  M_Knowledge_next_inside : Meth K C_Knowledge "next_inside" f_Knowledge_next_inside
  f_Knowledge_points_left : Addr
  d_Knowledge_points_left : FuncData
  F_Knowledge_points_left : Fun K "points_left" "Knowledge.points_left" s_Knowledge_points_left f_Knowledge_points_left d_Knowledge_points_left
  b_Knowledge_points_left : Binds K d_Knowledge_points_left ["self", "rest"] []
  M_Knowledge_points_left : Meth K C_Knowledge "points_left" f_Knowledge_points_left
  f_Knowledge_room : Addr
  d_Knowledge_room : FuncData
  F_Knowledge_room : Fun K "room" "Knowledge.room" s_Knowledge_room f_Knowledge_room d_Knowledge_room
  b_Knowledge_room : Binds K d_Knowledge_room ["self", "rest"] []
  M_Knowledge_room : Meth K C_Knowledge "room" f_Knowledge_room
  f_Knowledge_room_in : Addr
  d_Knowledge_room_in : FuncData
  F_Knowledge_room_in : Fun K "room_in" "Knowledge.room_in" s_Knowledge_room_in f_Knowledge_room_in d_Knowledge_room_in
  b_Knowledge_room_in : Binds K d_Knowledge_room_in ["self", "rest", "region"] []
  M_Knowledge_room_in : Meth K C_Knowledge "room_in" f_Knowledge_room_in
  f_Knowledge_bounds : Addr
  d_Knowledge_bounds : FuncData
  F_Knowledge_bounds : Fun K "bounds" "Knowledge.bounds" s_Knowledge_bounds f_Knowledge_bounds d_Knowledge_bounds
  b_Knowledge_bounds : Binds K d_Knowledge_bounds ["self", "region"] []
  M_Knowledge_bounds : Meth K C_Knowledge "bounds" f_Knowledge_bounds
  f_Knowledge_known : Addr
  d_Knowledge_known : FuncData
  F_Knowledge_known : Fun K "known" "Knowledge.known" s_Knowledge_known f_Knowledge_known d_Knowledge_known
  b_Knowledge_known : Binds K d_Knowledge_known ["self", "prefix"] []
  M_Knowledge_known : Meth K C_Knowledge "known" f_Knowledge_known
theorem n_Knowledge (X : K.In h) (G : h.Ns mainGlobals mg) {C : Addr} {f1 : Addr} {od1 an1 : Option Addr} {sl1 : Array (Option Value)} {oc1 kV1 dc1 pm1 cd1 ct1 : Value} {f2 : Addr} {od2 an2 : Option Addr} {sl2 : Array (Option Value)} {oc2 kV2 dc2 pm2 cd2 ct2 : Value} {f3 : Addr} {od3 an3 : Option Addr} {sl3 : Array (Option Value)} {oc3 kV3 dc3 pm3 cd3 ct3 : Value} {f4 : Addr} {od4 an4 : Option Addr} {sl4 : Array (Option Value)} {oc4 kV4 dc4 pm4 cd4 ct4 : Value} {f5 : Addr} {od5 an5 : Option Addr} {sl5 : Array (Option Value)} {oc5 kV5 dc5 pm5 cd5 ct5 : Value} {f6 : Addr} {od6 an6 : Option Addr} {sl6 : Array (Option Value)} {oc6 kV6 dc6 pm6 cd6 ct6 : Value} {f7 : Addr} {od7 an7 : Option Addr} {sl7 : Array (Option Value)} {oc7 kV7 dc7 pm7 cd7 ct7 : Value} {f8 : Addr} {od8 an8 : Option Addr} {sl8 : Array (Option Value)} {oc8 kV8 dc8 pm8 cd8 ct8 : Value} {f9 : Addr} {od9 an9 : Option Addr} {sl9 : Array (Option Value)} {oc9 kV9 dc9 pm9 cd9 ct9 : Value}
    (aC : PySem.W.nsIn K mainGlobals "Knowledge" = some (some (.ref C)))
    (pg : PySem.W.plainGet K C Str.empty = true)
    (hd : PySem.W.hasDictIn K C = true)
    (po : PySem.W.plainOver K C = true)
    (sa : PySem.W.findIn K (.ref C) "__setattr__" = some (some (.builtin "object.__setattr__")))
    (mk : PySem.W.makesIn K C = true)
    (kc : PySem.W.keepIn K (.ref C) = true)
    (n_space : PySem.W.findIn K (.ref C) "space" = some none)
    (n_facts : PySem.W.findIn K (.ref C) "facts" = some none)
    (a1 : PySem.W.findIn K (.ref C) "__init__" = some (some (.ref f1)))
    (i1 : PySem.W.isFn K (.ref f1) = true)
    (l1 : K.lookup f1 = some ⟨oc1, od1, .func (PySem.W.fnOf "__init__" "Knowledge.__init__" (defArgs s_Knowledge_init) (defBody s_Knowledge_init) (defScope s_Knowledge_init) .none kV1 dc1 pm1 an1 cd1 ct1), sl1⟩)
    (c1 : PySem.W.codeIn K cd1 "Knowledge.__init__" = true)
    (k1 : PySem.W.keepIn K (.ref f1) = true)
    (a2 : PySem.W.findIn K (.ref C) "is_fit" = some (some (.ref f2)))
    (i2 : PySem.W.isFn K (.ref f2) = true)
    (l2 : K.lookup f2 = some ⟨oc2, od2, .func (PySem.W.fnOf "is_fit" "Knowledge.is_fit" (defArgs s_Knowledge_is_fit) (defBody s_Knowledge_is_fit) (defScope s_Knowledge_is_fit) .none kV2 dc2 pm2 an2 cd2 ct2), sl2⟩)
    (c2 : PySem.W.codeIn K cd2 "Knowledge.is_fit" = true)
    (k2 : PySem.W.keepIn K (.ref f2) = true)
    (a3 : PySem.W.findIn K (.ref C) "rests" = some (some (.ref f3)))
    (i3 : PySem.W.isFn K (.ref f3) = true)
    (l3 : K.lookup f3 = some ⟨oc3, od3, .func (PySem.W.fnOf "rests" "Knowledge.rests" (defArgs s_Knowledge_rests) (defBody s_Knowledge_rests) (defScope s_Knowledge_rests) .none kV3 dc3 pm3 an3 cd3 ct3), sl3⟩)
    (c3 : PySem.W.codeIn K cd3 "Knowledge.rests" = true)
    (k3 : PySem.W.keepIn K (.ref f3) = true)
    (a4 : PySem.W.findIn K (.ref C) "next_inside" = some (some (.ref f4)))
    (i4 : PySem.W.isFn K (.ref f4) = true)
    (l4 : K.lookup f4 = some ⟨oc4, od4, .func (PySem.W.fnOf "next_inside" "Knowledge.next_inside" (defArgs s_Knowledge_next_inside) (defBody s_Knowledge_next_inside) (defScope s_Knowledge_next_inside) .none kV4 dc4 pm4 an4 cd4 ct4), sl4⟩)
    (c4 : PySem.W.codeIn K cd4 "Knowledge.next_inside" = true)
    (k4 : PySem.W.keepIn K (.ref f4) = true)
    (a5 : PySem.W.findIn K (.ref C) "points_left" = some (some (.ref f5)))
    (i5 : PySem.W.isFn K (.ref f5) = true)
    (l5 : K.lookup f5 = some ⟨oc5, od5, .func (PySem.W.fnOf "points_left" "Knowledge.points_left" (defArgs s_Knowledge_points_left) (defBody s_Knowledge_points_left) (defScope s_Knowledge_points_left) .none kV5 dc5 pm5 an5 cd5 ct5), sl5⟩)
    (c5 : PySem.W.codeIn K cd5 "Knowledge.points_left" = true)
    (k5 : PySem.W.keepIn K (.ref f5) = true)
    (a6 : PySem.W.findIn K (.ref C) "room" = some (some (.ref f6)))
    (i6 : PySem.W.isFn K (.ref f6) = true)
    (l6 : K.lookup f6 = some ⟨oc6, od6, .func (PySem.W.fnOf "room" "Knowledge.room" (defArgs s_Knowledge_room) (defBody s_Knowledge_room) (defScope s_Knowledge_room) .none kV6 dc6 pm6 an6 cd6 ct6), sl6⟩)
    (c6 : PySem.W.codeIn K cd6 "Knowledge.room" = true)
    (k6 : PySem.W.keepIn K (.ref f6) = true)
    (a7 : PySem.W.findIn K (.ref C) "room_in" = some (some (.ref f7)))
    (i7 : PySem.W.isFn K (.ref f7) = true)
    (l7 : K.lookup f7 = some ⟨oc7, od7, .func (PySem.W.fnOf "room_in" "Knowledge.room_in" (defArgs s_Knowledge_room_in) (defBody s_Knowledge_room_in) (defScope s_Knowledge_room_in) .none kV7 dc7 pm7 an7 cd7 ct7), sl7⟩)
    (c7 : PySem.W.codeIn K cd7 "Knowledge.room_in" = true)
    (k7 : PySem.W.keepIn K (.ref f7) = true)
    (a8 : PySem.W.findIn K (.ref C) "bounds" = some (some (.ref f8)))
    (i8 : PySem.W.isFn K (.ref f8) = true)
    (l8 : K.lookup f8 = some ⟨oc8, od8, .func (PySem.W.fnOf "bounds" "Knowledge.bounds" (defArgs s_Knowledge_bounds) (defBody s_Knowledge_bounds) (defScope s_Knowledge_bounds) .none kV8 dc8 pm8 an8 cd8 ct8), sl8⟩)
    (c8 : PySem.W.codeIn K cd8 "Knowledge.bounds" = true)
    (k8 : PySem.W.keepIn K (.ref f8) = true)
    (a9 : PySem.W.findIn K (.ref C) "known" = some (some (.ref f9)))
    (i9 : PySem.W.isFn K (.ref f9) = true)
    (l9 : K.lookup f9 = some ⟨oc9, od9, .func (PySem.W.fnOf "known" "Knowledge.known" (defArgs s_Knowledge_known) (defBody s_Knowledge_known) (defScope s_Knowledge_known) .none kV9 dc9 pm9 an9 cd9 ct9), sl9⟩)
    (c9 : PySem.W.codeIn K cd9 "Knowledge.known" = true)
    (k9 : PySem.W.keepIn K (.ref f9) = true) : Nonempty (G_Knowledge K mg) :=
  ⟨{
    C_Knowledge := C, cl_Knowledge := ⟨pg, hd, po, sa⟩, mg_Knowledge := PySem.W.mg_of X G aC, na_Knowledge_space := n_space, na_Knowledge_facts := n_facts,
    f_Knowledge_init := f1, d_Knowledge_init := PySem.W.fnOf "__init__" "Knowledge.__init__" (defArgs s_Knowledge_init) (defBody s_Knowledge_init) (defScope s_Knowledge_init) .none kV1 dc1 pm1 an1 cd1 ct1, F_Knowledge_init := fun_mk (st := s_Knowledge_init) l1 c1 k1, b_Knowledge_init := (fun_mk (st := s_Knowledge_init) l1 c1 k1).binds (ps := ["self", "space", "facts"]) fun _ _ _ _ _ _ us hl => match us, hl with | [_, _, _], _ => rfl, mk_Knowledge := ⟨mk, a1, i1, kc⟩,
    f_Knowledge_is_fit := f2, d_Knowledge_is_fit := PySem.W.fnOf "is_fit" "Knowledge.is_fit" (defArgs s_Knowledge_is_fit) (defBody s_Knowledge_is_fit) (defScope s_Knowledge_is_fit) .none kV2 dc2 pm2 an2 cd2 ct2, F_Knowledge_is_fit := fun_mk (st := s_Knowledge_is_fit) l2 c2 k2, b_Knowledge_is_fit := (fun_mk (st := s_Knowledge_is_fit) l2 c2 k2).binds (ps := ["self", "rest"]) fun _ _ _ _ _ _ us hl => match us, hl with | [_, _], _ => rfl, M_Knowledge_is_fit := ⟨a2, i2, k2⟩,
    f_Knowledge_rests := f3, d_Knowledge_rests := PySem.W.fnOf "rests" "Knowledge.rests" (defArgs s_Knowledge_rests) (defBody s_Knowledge_rests) (defScope s_Knowledge_rests) .none kV3 dc3 pm3 an3 cd3 ct3, F_Knowledge_rests := fun_mk (st := s_Knowledge_rests) l3 c3 k3, b_Knowledge_rests := (fun_mk (st := s_Knowledge_rests) l3 c3 k3).binds (ps := ["self"]) fun _ _ _ _ _ _ us hl => match us, hl with | [_], _ => rfl, M_Knowledge_rests := ⟨a3, i3, k3⟩,
    f_Knowledge_next_inside := f4, d_Knowledge_next_inside := PySem.W.fnOf "next_inside" "Knowledge.next_inside" (defArgs s_Knowledge_next_inside) (defBody s_Knowledge_next_inside) (defScope s_Knowledge_next_inside) .none kV4 dc4 pm4 an4 cd4 ct4, F_Knowledge_next_inside := fun_mk (st := s_Knowledge_next_inside) l4 c4 k4, b_Knowledge_next_inside := (fun_mk (st := s_Knowledge_next_inside) l4 c4 k4).binds (ps := ["self", "prefix", "order"]) fun _ _ _ _ _ _ us hl => match us, hl with | [_, _, _], _ => rfl, M_Knowledge_next_inside := ⟨a4, i4, k4⟩,
    f_Knowledge_points_left := f5, d_Knowledge_points_left := PySem.W.fnOf "points_left" "Knowledge.points_left" (defArgs s_Knowledge_points_left) (defBody s_Knowledge_points_left) (defScope s_Knowledge_points_left) .none kV5 dc5 pm5 an5 cd5 ct5, F_Knowledge_points_left := fun_mk (st := s_Knowledge_points_left) l5 c5 k5, b_Knowledge_points_left := (fun_mk (st := s_Knowledge_points_left) l5 c5 k5).binds (ps := ["self", "rest"]) fun _ _ _ _ _ _ us hl => match us, hl with | [_, _], _ => rfl, M_Knowledge_points_left := ⟨a5, i5, k5⟩,
    f_Knowledge_room := f6, d_Knowledge_room := PySem.W.fnOf "room" "Knowledge.room" (defArgs s_Knowledge_room) (defBody s_Knowledge_room) (defScope s_Knowledge_room) .none kV6 dc6 pm6 an6 cd6 ct6, F_Knowledge_room := fun_mk (st := s_Knowledge_room) l6 c6 k6, b_Knowledge_room := (fun_mk (st := s_Knowledge_room) l6 c6 k6).binds (ps := ["self", "rest"]) fun _ _ _ _ _ _ us hl => match us, hl with | [_, _], _ => rfl, M_Knowledge_room := ⟨a6, i6, k6⟩,
    f_Knowledge_room_in := f7, d_Knowledge_room_in := PySem.W.fnOf "room_in" "Knowledge.room_in" (defArgs s_Knowledge_room_in) (defBody s_Knowledge_room_in) (defScope s_Knowledge_room_in) .none kV7 dc7 pm7 an7 cd7 ct7, F_Knowledge_room_in := fun_mk (st := s_Knowledge_room_in) l7 c7 k7, b_Knowledge_room_in := (fun_mk (st := s_Knowledge_room_in) l7 c7 k7).binds (ps := ["self", "rest", "region"]) fun _ _ _ _ _ _ us hl => match us, hl with | [_, _, _], _ => rfl, M_Knowledge_room_in := ⟨a7, i7, k7⟩,
    f_Knowledge_bounds := f8, d_Knowledge_bounds := PySem.W.fnOf "bounds" "Knowledge.bounds" (defArgs s_Knowledge_bounds) (defBody s_Knowledge_bounds) (defScope s_Knowledge_bounds) .none kV8 dc8 pm8 an8 cd8 ct8, F_Knowledge_bounds := fun_mk (st := s_Knowledge_bounds) l8 c8 k8, b_Knowledge_bounds := (fun_mk (st := s_Knowledge_bounds) l8 c8 k8).binds (ps := ["self", "region"]) fun _ _ _ _ _ _ us hl => match us, hl with | [_, _], _ => rfl, M_Knowledge_bounds := ⟨a8, i8, k8⟩,
    f_Knowledge_known := f9, d_Knowledge_known := PySem.W.fnOf "known" "Knowledge.known" (defArgs s_Knowledge_known) (defBody s_Knowledge_known) (defScope s_Knowledge_known) .none kV9 dc9 pm9 an9 cd9 ct9, F_Knowledge_known := fun_mk (st := s_Knowledge_known) l9 c9 k9, b_Knowledge_known := (fun_mk (st := s_Knowledge_known) l9 c9 k9).binds (ps := ["self", "prefix"]) fun _ _ _ _ _ _ us hl => match us, hl with | [_, _], _ => rfl, M_Knowledge_known := ⟨a9, i9, k9⟩ }⟩
structure G_Telling (K : PySem.W.Frag) (mg : Str → Option Value) where
  C_Telling : Addr
  cl_Telling : Cls K C_Telling
  mg_Telling : mg "Telling" = some (.ref C_Telling)
  na_Telling_cloud : NoAttr K C_Telling "cloud"
  na_Telling_space : NoAttr K C_Telling "space"
  na_Telling_facts : NoAttr K C_Telling "facts"
  na_Telling_box : NoAttr K C_Telling "box"
  na_Telling_fineness : NoAttr K C_Telling "fineness"
  na_Telling_known : NoAttr K C_Telling "known"
  na_Telling_holders : NoAttr K C_Telling "holders"
  f_Telling_init : Addr
  d_Telling_init : FuncData
  F_Telling_init : Fun K "__init__" "Telling.__init__" s_Telling_init f_Telling_init d_Telling_init
  b_Telling_init : Binds K d_Telling_init ["self", "cloud", "knowledge", "box", "fineness"] []
  mk_Telling : Mk K C_Telling f_Telling_init
  f_Telling_is_cell : Addr
  d_Telling_is_cell : FuncData
  F_Telling_is_cell : Fun K "is_cell" "Telling.is_cell" s_Telling_is_cell f_Telling_is_cell d_Telling_is_cell
  b_Telling_is_cell : Binds K d_Telling_is_cell ["self", "prefix"] []
  M_Telling_is_cell : Meth K C_Telling "is_cell" f_Telling_is_cell
  f_Telling_is_needed : Addr
  d_Telling_is_needed : FuncData
  F_Telling_is_needed : Fun K "is_needed" "Telling.is_needed" s_Telling_is_needed f_Telling_is_needed d_Telling_is_needed
  b_Telling_is_needed : Binds K d_Telling_is_needed ["self", "prefix"] []
  M_Telling_is_needed : Meth K C_Telling "is_needed" f_Telling_is_needed
  f_Telling_told : Addr
  d_Telling_told : FuncData
  F_Telling_told : Fun K "told" "Telling.told" s_Telling_told f_Telling_told d_Telling_told
  b_Telling_told : Binds K d_Telling_told ["self", "prefix"] []
  M_Telling_told : Meth K C_Telling "told" f_Telling_told
  f_Telling_both : Addr
  d_Telling_both : FuncData
  F_Telling_both : Fun K "both" "Telling.both" s_Telling_both f_Telling_both d_Telling_both
  b_Telling_both : Binds K d_Telling_both ["self", "words", "prefix"] []
  M_Telling_both : Meth K C_Telling "both" f_Telling_both
  f_Telling_least : Addr
  d_Telling_least : FuncData
  F_Telling_least : Fun K "least" "Telling.least" s_Telling_least f_Telling_least d_Telling_least
  b_Telling_least : Binds K d_Telling_least ["self", "rows"] []
  M_Telling_least : Meth K C_Telling "least" f_Telling_least
  f_Telling_within : Addr
  d_Telling_within : FuncData
  F_Telling_within : Fun K "within" "Telling.within" s_Telling_within f_Telling_within d_Telling_within
  b_Telling_within : Binds K d_Telling_within ["self", "prefix"] []
  M_Telling_within : Meth K C_Telling "within" f_Telling_within
  f_Telling_ends : Addr
  d_Telling_ends : FuncData
  F_Telling_ends : Fun K "ends" "Telling.ends" s_Telling_ends f_Telling_ends d_Telling_ends
  b_Telling_ends : Binds K d_Telling_ends ["self", "word", "prefix"] []
  M_Telling_ends : Meth K C_Telling "ends" f_Telling_ends
  f_Telling_way : Addr
  d_Telling_way : FuncData
  F_Telling_way : Fun K "way" "Telling.way" s_Telling_way f_Telling_way d_Telling_way
  b_Telling_way : Binds K d_Telling_way ["self", "word", "prefix"] []
  M_Telling_way : Meth K C_Telling "way" f_Telling_way
  f_Telling_way_of : Addr
  d_Telling_way_of : FuncData
  F_Telling_way_of : Fun K "way_of" "Telling.way_of" s_Telling_way_of f_Telling_way_of d_Telling_way_of
  b_Telling_way_of : Binds K d_Telling_way_of ["self", "word", "prefix"] []
  M_Telling_way_of : Meth K C_Telling "way_of" f_Telling_way_of
  f_Telling_cell_way : Addr
  d_Telling_cell_way : FuncData
  F_Telling_cell_way : Fun K "cell_way" "Telling.cell_way" s_Telling_cell_way f_Telling_cell_way d_Telling_cell_way
  b_Telling_cell_way : Binds K d_Telling_cell_way ["self", "word", "prefix"] []
  M_Telling_cell_way : Meth K C_Telling "cell_way" f_Telling_cell_way
theorem n_Telling (X : K.In h) (G : h.Ns mainGlobals mg) {C : Addr} {f1 : Addr} {od1 an1 : Option Addr} {sl1 : Array (Option Value)} {oc1 kV1 dc1 pm1 cd1 ct1 : Value} {f2 : Addr} {od2 an2 : Option Addr} {sl2 : Array (Option Value)} {oc2 kV2 dc2 pm2 cd2 ct2 : Value} {f3 : Addr} {od3 an3 : Option Addr} {sl3 : Array (Option Value)} {oc3 kV3 dc3 pm3 cd3 ct3 : Value} {f4 : Addr} {od4 an4 : Option Addr} {sl4 : Array (Option Value)} {oc4 kV4 dc4 pm4 cd4 ct4 : Value} {f5 : Addr} {od5 an5 : Option Addr} {sl5 : Array (Option Value)} {oc5 kV5 dc5 pm5 cd5 ct5 : Value} {f6 : Addr} {od6 an6 : Option Addr} {sl6 : Array (Option Value)} {oc6 kV6 dc6 pm6 cd6 ct6 : Value} {f7 : Addr} {od7 an7 : Option Addr} {sl7 : Array (Option Value)} {oc7 kV7 dc7 pm7 cd7 ct7 : Value} {f8 : Addr} {od8 an8 : Option Addr} {sl8 : Array (Option Value)} {oc8 kV8 dc8 pm8 cd8 ct8 : Value} {f9 : Addr} {od9 an9 : Option Addr} {sl9 : Array (Option Value)} {oc9 kV9 dc9 pm9 cd9 ct9 : Value} {f10 : Addr} {od10 an10 : Option Addr} {sl10 : Array (Option Value)} {oc10 kV10 dc10 pm10 cd10 ct10 : Value} {f11 : Addr} {od11 an11 : Option Addr} {sl11 : Array (Option Value)} {oc11 kV11 dc11 pm11 cd11 ct11 : Value}
    (aC : PySem.W.nsIn K mainGlobals "Telling" = some (some (.ref C)))
    (pg : PySem.W.plainGet K C Str.empty = true)
    (hd : PySem.W.hasDictIn K C = true)
    (po : PySem.W.plainOver K C = true)
    (sa : PySem.W.findIn K (.ref C) "__setattr__" = some (some (.builtin "object.__setattr__")))
    (mk : PySem.W.makesIn K C = true)
    (kc : PySem.W.keepIn K (.ref C) = true)
    (n_cloud : PySem.W.findIn K (.ref C) "cloud" = some none)
    (n_space : PySem.W.findIn K (.ref C) "space" = some none)
    (n_facts : PySem.W.findIn K (.ref C) "facts" = some none)
    (n_box : PySem.W.findIn K (.ref C) "box" = some none)
    (n_fineness : PySem.W.findIn K (.ref C) "fineness" = some none)
    (n_known : PySem.W.findIn K (.ref C) "known" = some none)
    (n_holders : PySem.W.findIn K (.ref C) "holders" = some none)
    (a1 : PySem.W.findIn K (.ref C) "__init__" = some (some (.ref f1)))
    (i1 : PySem.W.isFn K (.ref f1) = true)
    (l1 : K.lookup f1 = some ⟨oc1, od1, .func (PySem.W.fnOf "__init__" "Telling.__init__" (defArgs s_Telling_init) (defBody s_Telling_init) (defScope s_Telling_init) .none kV1 dc1 pm1 an1 cd1 ct1), sl1⟩)
    (c1 : PySem.W.codeIn K cd1 "Telling.__init__" = true)
    (k1 : PySem.W.keepIn K (.ref f1) = true)
    (a2 : PySem.W.findIn K (.ref C) "is_cell" = some (some (.ref f2)))
    (i2 : PySem.W.isFn K (.ref f2) = true)
    (l2 : K.lookup f2 = some ⟨oc2, od2, .func (PySem.W.fnOf "is_cell" "Telling.is_cell" (defArgs s_Telling_is_cell) (defBody s_Telling_is_cell) (defScope s_Telling_is_cell) .none kV2 dc2 pm2 an2 cd2 ct2), sl2⟩)
    (c2 : PySem.W.codeIn K cd2 "Telling.is_cell" = true)
    (k2 : PySem.W.keepIn K (.ref f2) = true)
    (a3 : PySem.W.findIn K (.ref C) "is_needed" = some (some (.ref f3)))
    (i3 : PySem.W.isFn K (.ref f3) = true)
    (l3 : K.lookup f3 = some ⟨oc3, od3, .func (PySem.W.fnOf "is_needed" "Telling.is_needed" (defArgs s_Telling_is_needed) (defBody s_Telling_is_needed) (defScope s_Telling_is_needed) .none kV3 dc3 pm3 an3 cd3 ct3), sl3⟩)
    (c3 : PySem.W.codeIn K cd3 "Telling.is_needed" = true)
    (k3 : PySem.W.keepIn K (.ref f3) = true)
    (a4 : PySem.W.findIn K (.ref C) "told" = some (some (.ref f4)))
    (i4 : PySem.W.isFn K (.ref f4) = true)
    (l4 : K.lookup f4 = some ⟨oc4, od4, .func (PySem.W.fnOf "told" "Telling.told" (defArgs s_Telling_told) (defBody s_Telling_told) (defScope s_Telling_told) .none kV4 dc4 pm4 an4 cd4 ct4), sl4⟩)
    (c4 : PySem.W.codeIn K cd4 "Telling.told" = true)
    (k4 : PySem.W.keepIn K (.ref f4) = true)
    (a5 : PySem.W.findIn K (.ref C) "both" = some (some (.ref f5)))
    (i5 : PySem.W.isFn K (.ref f5) = true)
    (l5 : K.lookup f5 = some ⟨oc5, od5, .func (PySem.W.fnOf "both" "Telling.both" (defArgs s_Telling_both) (defBody s_Telling_both) (defScope s_Telling_both) .none kV5 dc5 pm5 an5 cd5 ct5), sl5⟩)
    (c5 : PySem.W.codeIn K cd5 "Telling.both" = true)
    (k5 : PySem.W.keepIn K (.ref f5) = true)
    (a6 : PySem.W.findIn K (.ref C) "least" = some (some (.ref f6)))
    (i6 : PySem.W.isFn K (.ref f6) = true)
    (l6 : K.lookup f6 = some ⟨oc6, od6, .func (PySem.W.fnOf "least" "Telling.least" (defArgs s_Telling_least) (defBody s_Telling_least) (defScope s_Telling_least) .none kV6 dc6 pm6 an6 cd6 ct6), sl6⟩)
    (c6 : PySem.W.codeIn K cd6 "Telling.least" = true)
    (k6 : PySem.W.keepIn K (.ref f6) = true)
    (a7 : PySem.W.findIn K (.ref C) "within" = some (some (.ref f7)))
    (i7 : PySem.W.isFn K (.ref f7) = true)
    (l7 : K.lookup f7 = some ⟨oc7, od7, .func (PySem.W.fnOf "within" "Telling.within" (defArgs s_Telling_within) (defBody s_Telling_within) (defScope s_Telling_within) .none kV7 dc7 pm7 an7 cd7 ct7), sl7⟩)
    (c7 : PySem.W.codeIn K cd7 "Telling.within" = true)
    (k7 : PySem.W.keepIn K (.ref f7) = true)
    (a8 : PySem.W.findIn K (.ref C) "ends" = some (some (.ref f8)))
    (i8 : PySem.W.isFn K (.ref f8) = true)
    (l8 : K.lookup f8 = some ⟨oc8, od8, .func (PySem.W.fnOf "ends" "Telling.ends" (defArgs s_Telling_ends) (defBody s_Telling_ends) (defScope s_Telling_ends) .none kV8 dc8 pm8 an8 cd8 ct8), sl8⟩)
    (c8 : PySem.W.codeIn K cd8 "Telling.ends" = true)
    (k8 : PySem.W.keepIn K (.ref f8) = true)
    (a9 : PySem.W.findIn K (.ref C) "way" = some (some (.ref f9)))
    (i9 : PySem.W.isFn K (.ref f9) = true)
    (l9 : K.lookup f9 = some ⟨oc9, od9, .func (PySem.W.fnOf "way" "Telling.way" (defArgs s_Telling_way) (defBody s_Telling_way) (defScope s_Telling_way) .none kV9 dc9 pm9 an9 cd9 ct9), sl9⟩)
    (c9 : PySem.W.codeIn K cd9 "Telling.way" = true)
    (k9 : PySem.W.keepIn K (.ref f9) = true)
    (a10 : PySem.W.findIn K (.ref C) "way_of" = some (some (.ref f10)))
    (i10 : PySem.W.isFn K (.ref f10) = true)
    (l10 : K.lookup f10 = some ⟨oc10, od10, .func (PySem.W.fnOf "way_of" "Telling.way_of" (defArgs s_Telling_way_of) (defBody s_Telling_way_of) (defScope s_Telling_way_of) .none kV10 dc10 pm10 an10 cd10 ct10), sl10⟩)
    (c10 : PySem.W.codeIn K cd10 "Telling.way_of" = true)
    (k10 : PySem.W.keepIn K (.ref f10) = true)
    (a11 : PySem.W.findIn K (.ref C) "cell_way" = some (some (.ref f11)))
    (i11 : PySem.W.isFn K (.ref f11) = true)
    (l11 : K.lookup f11 = some ⟨oc11, od11, .func (PySem.W.fnOf "cell_way" "Telling.cell_way" (defArgs s_Telling_cell_way) (defBody s_Telling_cell_way) (defScope s_Telling_cell_way) .none kV11 dc11 pm11 an11 cd11 ct11), sl11⟩)
    (c11 : PySem.W.codeIn K cd11 "Telling.cell_way" = true)
    (k11 : PySem.W.keepIn K (.ref f11) = true) : Nonempty (G_Telling K mg) :=
  ⟨{
    C_Telling := C, cl_Telling := ⟨pg, hd, po, sa⟩, mg_Telling := PySem.W.mg_of X G aC, na_Telling_cloud := n_cloud, na_Telling_space := n_space, na_Telling_facts := n_facts, na_Telling_box := n_box, na_Telling_fineness := n_fineness, na_Telling_known := n_known, na_Telling_holders := n_holders,
    f_Telling_init := f1, d_Telling_init := PySem.W.fnOf "__init__" "Telling.__init__" (defArgs s_Telling_init) (defBody s_Telling_init) (defScope s_Telling_init) .none kV1 dc1 pm1 an1 cd1 ct1, F_Telling_init := fun_mk (st := s_Telling_init) l1 c1 k1, b_Telling_init := (fun_mk (st := s_Telling_init) l1 c1 k1).binds (ps := ["self", "cloud", "knowledge", "box", "fineness"]) fun _ _ _ _ _ _ us hl => match us, hl with | [_, _, _, _, _], _ => rfl, mk_Telling := ⟨mk, a1, i1, kc⟩,
    f_Telling_is_cell := f2, d_Telling_is_cell := PySem.W.fnOf "is_cell" "Telling.is_cell" (defArgs s_Telling_is_cell) (defBody s_Telling_is_cell) (defScope s_Telling_is_cell) .none kV2 dc2 pm2 an2 cd2 ct2, F_Telling_is_cell := fun_mk (st := s_Telling_is_cell) l2 c2 k2, b_Telling_is_cell := (fun_mk (st := s_Telling_is_cell) l2 c2 k2).binds (ps := ["self", "prefix"]) fun _ _ _ _ _ _ us hl => match us, hl with | [_, _], _ => rfl, M_Telling_is_cell := ⟨a2, i2, k2⟩,
    f_Telling_is_needed := f3, d_Telling_is_needed := PySem.W.fnOf "is_needed" "Telling.is_needed" (defArgs s_Telling_is_needed) (defBody s_Telling_is_needed) (defScope s_Telling_is_needed) .none kV3 dc3 pm3 an3 cd3 ct3, F_Telling_is_needed := fun_mk (st := s_Telling_is_needed) l3 c3 k3, b_Telling_is_needed := (fun_mk (st := s_Telling_is_needed) l3 c3 k3).binds (ps := ["self", "prefix"]) fun _ _ _ _ _ _ us hl => match us, hl with | [_, _], _ => rfl, M_Telling_is_needed := ⟨a3, i3, k3⟩,
    f_Telling_told := f4, d_Telling_told := PySem.W.fnOf "told" "Telling.told" (defArgs s_Telling_told) (defBody s_Telling_told) (defScope s_Telling_told) .none kV4 dc4 pm4 an4 cd4 ct4, F_Telling_told := fun_mk (st := s_Telling_told) l4 c4 k4, b_Telling_told := (fun_mk (st := s_Telling_told) l4 c4 k4).binds (ps := ["self", "prefix"]) fun _ _ _ _ _ _ us hl => match us, hl with | [_, _], _ => rfl, M_Telling_told := ⟨a4, i4, k4⟩,
    f_Telling_both := f5, d_Telling_both := PySem.W.fnOf "both" "Telling.both" (defArgs s_Telling_both) (defBody s_Telling_both) (defScope s_Telling_both) .none kV5 dc5 pm5 an5 cd5 ct5, F_Telling_both := fun_mk (st := s_Telling_both) l5 c5 k5, b_Telling_both := (fun_mk (st := s_Telling_both) l5 c5 k5).binds (ps := ["self", "words", "prefix"]) fun _ _ _ _ _ _ us hl => match us, hl with | [_, _, _], _ => rfl, M_Telling_both := ⟨a5, i5, k5⟩,
    f_Telling_least := f6, d_Telling_least := PySem.W.fnOf "least" "Telling.least" (defArgs s_Telling_least) (defBody s_Telling_least) (defScope s_Telling_least) .none kV6 dc6 pm6 an6 cd6 ct6, F_Telling_least := fun_mk (st := s_Telling_least) l6 c6 k6, b_Telling_least := (fun_mk (st := s_Telling_least) l6 c6 k6).binds (ps := ["self", "rows"]) fun _ _ _ _ _ _ us hl => match us, hl with | [_, _], _ => rfl, M_Telling_least := ⟨a6, i6, k6⟩,
    f_Telling_within := f7, d_Telling_within := PySem.W.fnOf "within" "Telling.within" (defArgs s_Telling_within) (defBody s_Telling_within) (defScope s_Telling_within) .none kV7 dc7 pm7 an7 cd7 ct7, F_Telling_within := fun_mk (st := s_Telling_within) l7 c7 k7, b_Telling_within := (fun_mk (st := s_Telling_within) l7 c7 k7).binds (ps := ["self", "prefix"]) fun _ _ _ _ _ _ us hl => match us, hl with | [_, _], _ => rfl, M_Telling_within := ⟨a7, i7, k7⟩,
    f_Telling_ends := f8, d_Telling_ends := PySem.W.fnOf "ends" "Telling.ends" (defArgs s_Telling_ends) (defBody s_Telling_ends) (defScope s_Telling_ends) .none kV8 dc8 pm8 an8 cd8 ct8, F_Telling_ends := fun_mk (st := s_Telling_ends) l8 c8 k8, b_Telling_ends := (fun_mk (st := s_Telling_ends) l8 c8 k8).binds (ps := ["self", "word", "prefix"]) fun _ _ _ _ _ _ us hl => match us, hl with | [_, _, _], _ => rfl, M_Telling_ends := ⟨a8, i8, k8⟩,
    f_Telling_way := f9, d_Telling_way := PySem.W.fnOf "way" "Telling.way" (defArgs s_Telling_way) (defBody s_Telling_way) (defScope s_Telling_way) .none kV9 dc9 pm9 an9 cd9 ct9, F_Telling_way := fun_mk (st := s_Telling_way) l9 c9 k9, b_Telling_way := (fun_mk (st := s_Telling_way) l9 c9 k9).binds (ps := ["self", "word", "prefix"]) fun _ _ _ _ _ _ us hl => match us, hl with | [_, _, _], _ => rfl, M_Telling_way := ⟨a9, i9, k9⟩,
    f_Telling_way_of := f10, d_Telling_way_of := PySem.W.fnOf "way_of" "Telling.way_of" (defArgs s_Telling_way_of) (defBody s_Telling_way_of) (defScope s_Telling_way_of) .none kV10 dc10 pm10 an10 cd10 ct10, F_Telling_way_of := fun_mk (st := s_Telling_way_of) l10 c10 k10, b_Telling_way_of := (fun_mk (st := s_Telling_way_of) l10 c10 k10).binds (ps := ["self", "word", "prefix"]) fun _ _ _ _ _ _ us hl => match us, hl with | [_, _, _], _ => rfl, M_Telling_way_of := ⟨a10, i10, k10⟩,
    f_Telling_cell_way := f11, d_Telling_cell_way := PySem.W.fnOf "cell_way" "Telling.cell_way" (defArgs s_Telling_cell_way) (defBody s_Telling_cell_way) (defScope s_Telling_cell_way) .none kV11 dc11 pm11 an11 cd11 ct11, F_Telling_cell_way := fun_mk (st := s_Telling_cell_way) l11 c11 k11, b_Telling_cell_way := (fun_mk (st := s_Telling_cell_way) l11 c11 k11).binds (ps := ["self", "word", "prefix"]) fun _ _ _ _ _ _ us hl => match us, hl with | [_, _, _], _ => rfl, M_Telling_cell_way := ⟨a11, i11, k11⟩ }⟩
structure G_halves_of (K : PySem.W.Frag) (mg : Str → Option Value) where
  f_halves_of : Addr
  d_halves_of : FuncData
  F_halves_of : Fun K "halves_of" "halves_of" s_halves_of f_halves_of d_halves_of
  b_halves_of : Binds K d_halves_of ["prefix"] []
  mg_halves_of : mg "halves_of" = some (.ref f_halves_of)
theorem n_halves_of (X : K.In h) (G : h.Ns mainGlobals mg) {f1 : Addr} {od1 an1 : Option Addr} {sl1 : Array (Option Value)} {oc1 kV1 dc1 pm1 cd1 ct1 : Value}
    (a1 : PySem.W.nsIn K mainGlobals "halves_of" = some (some (.ref f1)))
    (l1 : K.lookup f1 = some ⟨oc1, od1, .func (PySem.W.fnOf "halves_of" "halves_of" (defArgs s_halves_of) (defBody s_halves_of) (defScope s_halves_of) .none kV1 dc1 pm1 an1 cd1 ct1), sl1⟩)
    (c1 : PySem.W.codeIn K cd1 "halves_of" = true)
    (k1 : PySem.W.keepIn K (.ref f1) = true) : Nonempty (G_halves_of K mg) :=
  ⟨{ f_halves_of := f1, d_halves_of := PySem.W.fnOf "halves_of" "halves_of" (defArgs s_halves_of) (defBody s_halves_of) (defScope s_halves_of) .none kV1 dc1 pm1 an1 cd1 ct1, F_halves_of := fun_mk (st := s_halves_of) l1 c1 k1, b_halves_of := (fun_mk (st := s_halves_of) l1 c1 k1).binds (ps := ["prefix"]) fun _ _ _ _ _ _ us hl => match us, hl with | [_], _ => rfl, mg_halves_of := PySem.W.mg_of X G a1 }⟩
structure G_is_whole (K : PySem.W.Frag) (mg : Str → Option Value) where
  f_is_whole : Addr
  d_is_whole : FuncData
  F_is_whole : Fun K "is_whole" "is_whole" s_is_whole f_is_whole d_is_whole
  b_is_whole : Binds K d_is_whole ["thing", "low", "high"] []
  mg_is_whole : mg "is_whole" = some (.ref f_is_whole)
theorem n_is_whole (X : K.In h) (G : h.Ns mainGlobals mg) {f1 : Addr} {od1 an1 : Option Addr} {sl1 : Array (Option Value)} {oc1 kV1 dc1 pm1 cd1 ct1 : Value}
    (a1 : PySem.W.nsIn K mainGlobals "is_whole" = some (some (.ref f1)))
    (l1 : K.lookup f1 = some ⟨oc1, od1, .func (PySem.W.fnOf "is_whole" "is_whole" (defArgs s_is_whole) (defBody s_is_whole) (defScope s_is_whole) .none kV1 dc1 pm1 an1 cd1 ct1), sl1⟩)
    (c1 : PySem.W.codeIn K cd1 "is_whole" = true)
    (k1 : PySem.W.keepIn K (.ref f1) = true) : Nonempty (G_is_whole K mg) :=
  ⟨{ f_is_whole := f1, d_is_whole := PySem.W.fnOf "is_whole" "is_whole" (defArgs s_is_whole) (defBody s_is_whole) (defScope s_is_whole) .none kV1 dc1 pm1 an1 cd1 ct1, F_is_whole := fun_mk (st := s_is_whole) l1 c1 k1, b_is_whole := (fun_mk (st := s_is_whole) l1 c1 k1).binds (ps := ["thing", "low", "high"]) fun _ _ _ _ _ _ us hl => match us, hl with | [_, _, _], _ => rfl, mg_is_whole := PySem.W.mg_of X G a1 }⟩
structure G_power (K : PySem.W.Frag) (mg : Str → Option Value) where
  f_power : Addr
  d_power : FuncData
  F_power : Fun K "power" "power" s_power f_power d_power
  b_power : Binds K d_power ["times"] []
  mg_power : mg "power" = some (.ref f_power)
theorem n_power (X : K.In h) (G : h.Ns mainGlobals mg) {f1 : Addr} {od1 an1 : Option Addr} {sl1 : Array (Option Value)} {oc1 kV1 dc1 pm1 cd1 ct1 : Value}
    (a1 : PySem.W.nsIn K mainGlobals "power" = some (some (.ref f1)))
    (l1 : K.lookup f1 = some ⟨oc1, od1, .func (PySem.W.fnOf "power" "power" (defArgs s_power) (defBody s_power) (defScope s_power) .none kV1 dc1 pm1 an1 cd1 ct1), sl1⟩)
    (c1 : PySem.W.codeIn K cd1 "power" = true)
    (k1 : PySem.W.keepIn K (.ref f1) = true) : Nonempty (G_power K mg) :=
  ⟨{ f_power := f1, d_power := PySem.W.fnOf "power" "power" (defArgs s_power) (defBody s_power) (defScope s_power) .none kV1 dc1 pm1 an1 cd1 ct1, F_power := fun_mk (st := s_power) l1 c1 k1, b_power := (fun_mk (st := s_power) l1 c1 k1).binds (ps := ["times"]) fun _ _ _ _ _ _ us hl => match us, hl with | [_], _ => rfl, mg_power := PySem.W.mg_of X G a1 }⟩
structure G_fewest_facts (K : PySem.W.Frag) (mg : Str → Option Value) where
  f_fewest_facts : Addr
  d_fewest_facts : FuncData
  F_fewest_facts : Fun K "fewest_facts" "fewest_facts" s_fewest_facts f_fewest_facts d_fewest_facts
  b_fewest_facts : Binds K d_fewest_facts ["cloud", "knowledge", "box", "fineness"] []
  mg_fewest_facts : mg "fewest_facts" = some (.ref f_fewest_facts)
theorem n_fewest_facts (X : K.In h) (G : h.Ns mainGlobals mg) {f1 : Addr} {od1 an1 : Option Addr} {sl1 : Array (Option Value)} {oc1 kV1 dc1 pm1 cd1 ct1 : Value}
    (a1 : PySem.W.nsIn K mainGlobals "fewest_facts" = some (some (.ref f1)))
    (l1 : K.lookup f1 = some ⟨oc1, od1, .func (PySem.W.fnOf "fewest_facts" "fewest_facts" (defArgs s_fewest_facts) (defBody s_fewest_facts) (defScope s_fewest_facts) .none kV1 dc1 pm1 an1 cd1 ct1), sl1⟩)
    (c1 : PySem.W.codeIn K cd1 "fewest_facts" = true)
    (k1 : PySem.W.keepIn K (.ref f1) = true) : Nonempty (G_fewest_facts K mg) :=
  ⟨{ f_fewest_facts := f1, d_fewest_facts := PySem.W.fnOf "fewest_facts" "fewest_facts" (defArgs s_fewest_facts) (defBody s_fewest_facts) (defScope s_fewest_facts) .none kV1 dc1 pm1 an1 cd1 ct1, F_fewest_facts := fun_mk (st := s_fewest_facts) l1 c1 k1, b_fewest_facts := (fun_mk (st := s_fewest_facts) l1 c1 k1).binds (ps := ["cloud", "knowledge", "box", "fineness"]) fun _ _ _ _ _ _ us hl => match us, hl with | [_, _, _, _], _ => rfl, mg_fewest_facts := PySem.W.mg_of X G a1 }⟩
structure G_is_enough (K : PySem.W.Frag) (mg : Str → Option Value) where
  f_is_enough : Addr
  d_is_enough : FuncData
  F_is_enough : Fun K "is_enough" "is_enough" s_is_enough f_is_enough d_is_enough
  b_is_enough : Binds K d_is_enough ["knowledge", "box", "fineness"] []
  mg_is_enough : mg "is_enough" = some (.ref f_is_enough)
theorem n_is_enough (X : K.In h) (G : h.Ns mainGlobals mg) {f1 : Addr} {od1 an1 : Option Addr} {sl1 : Array (Option Value)} {oc1 kV1 dc1 pm1 cd1 ct1 : Value}
    (a1 : PySem.W.nsIn K mainGlobals "is_enough" = some (some (.ref f1)))
    (l1 : K.lookup f1 = some ⟨oc1, od1, .func (PySem.W.fnOf "is_enough" "is_enough" (defArgs s_is_enough) (defBody s_is_enough) (defScope s_is_enough) .none kV1 dc1 pm1 an1 cd1 ct1), sl1⟩)
    (c1 : PySem.W.codeIn K cd1 "is_enough" = true)
    (k1 : PySem.W.keepIn K (.ref f1) = true) : Nonempty (G_is_enough K mg) :=
  ⟨{ f_is_enough := f1, d_is_enough := PySem.W.fnOf "is_enough" "is_enough" (defArgs s_is_enough) (defBody s_is_enough) (defScope s_is_enough) .none kV1 dc1 pm1 an1 cd1 ct1, F_is_enough := fun_mk (st := s_is_enough) l1 c1 k1, b_is_enough := (fun_mk (st := s_is_enough) l1 c1 k1).binds (ps := ["knowledge", "box", "fineness"]) fun _ _ _ _ _ _ us hl => match us, hl with | [_, _, _], _ => rfl, mg_is_enough := PySem.W.mg_of X G a1 }⟩
structure G_place_in (K : PySem.W.Frag) (mg : Str → Option Value) where
  f_place_in : Addr
  d_place_in : FuncData
  F_place_in : Fun K "place_in" "place_in" s_place_in f_place_in d_place_in
  b_place_in : Binds K d_place_in ["row", "number"] []
  mg_place_in : mg "place_in" = some (.ref f_place_in)
theorem n_place_in (X : K.In h) (G : h.Ns mainGlobals mg) {f1 : Addr} {od1 an1 : Option Addr} {sl1 : Array (Option Value)} {oc1 kV1 dc1 pm1 cd1 ct1 : Value}
    (a1 : PySem.W.nsIn K mainGlobals "place_in" = some (some (.ref f1)))
    (l1 : K.lookup f1 = some ⟨oc1, od1, .func (PySem.W.fnOf "place_in" "place_in" (defArgs s_place_in) (defBody s_place_in) (defScope s_place_in) .none kV1 dc1 pm1 an1 cd1 ct1), sl1⟩)
    (c1 : PySem.W.codeIn K cd1 "place_in" = true)
    (k1 : PySem.W.keepIn K (.ref f1) = true) : Nonempty (G_place_in K mg) :=
  ⟨{ f_place_in := f1, d_place_in := PySem.W.fnOf "place_in" "place_in" (defArgs s_place_in) (defBody s_place_in) (defScope s_place_in) .none kV1 dc1 pm1 an1 cd1 ct1, F_place_in := fun_mk (st := s_place_in) l1 c1 k1, b_place_in := (fun_mk (st := s_place_in) l1 c1 k1).binds (ps := ["row", "number"]) fun _ _ _ _ _ _ us hl => match us, hl with | [_, _], _ => rfl, mg_place_in := PySem.W.mg_of X G a1 }⟩
structure G_is_inside (K : PySem.W.Frag) (mg : Str → Option Value) where
  f_is_inside : Addr
  d_is_inside : FuncData
  F_is_inside : Fun K "is_inside" "is_inside" s_is_inside f_is_inside d_is_inside
  b_is_inside : Binds K d_is_inside ["prefix", "other"] []
  mg_is_inside : mg "is_inside" = some (.ref f_is_inside)
theorem n_is_inside (X : K.In h) (G : h.Ns mainGlobals mg) {f1 : Addr} {od1 an1 : Option Addr} {sl1 : Array (Option Value)} {oc1 kV1 dc1 pm1 cd1 ct1 : Value}
    (a1 : PySem.W.nsIn K mainGlobals "is_inside" = some (some (.ref f1)))
    (l1 : K.lookup f1 = some ⟨oc1, od1, .func (PySem.W.fnOf "is_inside" "is_inside" (defArgs s_is_inside) (defBody s_is_inside) (defScope s_is_inside) .none kV1 dc1 pm1 an1 cd1 ct1), sl1⟩)
    (c1 : PySem.W.codeIn K cd1 "is_inside" = true)
    (k1 : PySem.W.keepIn K (.ref f1) = true) : Nonempty (G_is_inside K mg) :=
  ⟨{ f_is_inside := f1, d_is_inside := PySem.W.fnOf "is_inside" "is_inside" (defArgs s_is_inside) (defBody s_is_inside) (defScope s_is_inside) .none kV1 dc1 pm1 an1 cd1 ct1, F_is_inside := fun_mk (st := s_is_inside) l1 c1 k1, b_is_inside := (fun_mk (st := s_is_inside) l1 c1 k1).binds (ps := ["prefix", "other"]) fun _ _ _ _ _ _ us hl => match us, hl with | [_, _], _ => rfl, mg_is_inside := PySem.W.mg_of X G a1 }⟩
structure G_l_number (K : PySem.W.Frag) (mg : Str → Option Value) where
  f_l_number : Addr
  d_l_number : FuncData
  F_l_number : Fun K "_law_number" "_law_number" s_l_number f_l_number d_l_number
  b_l_number : Binds K d_l_number ["_law_script", "_law_index"] []
  mg_l_number : mg "_law_number" = some (.ref f_l_number)
theorem n_l_number (X : K.In h) (G : h.Ns mainGlobals mg) {f1 : Addr} {od1 an1 : Option Addr} {sl1 : Array (Option Value)} {oc1 kV1 dc1 pm1 cd1 ct1 : Value}
    (a1 : PySem.W.nsIn K mainGlobals "_law_number" = some (some (.ref f1)))
    (l1 : K.lookup f1 = some ⟨oc1, od1, .func (PySem.W.fnOf "_law_number" "_law_number" (defArgs s_l_number) (defBody s_l_number) (defScope s_l_number) .none kV1 dc1 pm1 an1 cd1 ct1), sl1⟩)
    (c1 : PySem.W.codeIn K cd1 "_law_number" = true)
    (k1 : PySem.W.keepIn K (.ref f1) = true) : Nonempty (G_l_number K mg) :=
  ⟨{ f_l_number := f1, d_l_number := PySem.W.fnOf "_law_number" "_law_number" (defArgs s_l_number) (defBody s_l_number) (defScope s_l_number) .none kV1 dc1 pm1 an1 cd1 ct1, F_l_number := fun_mk (st := s_l_number) l1 c1 k1, b_l_number := (fun_mk (st := s_l_number) l1 c1 k1).binds (ps := ["_law_script", "_law_index"]) fun _ _ _ _ _ _ us hl => match us, hl with | [_, _], _ => rfl, mg_l_number := PySem.W.mg_of X G a1 }⟩
structure G_l_take (K : PySem.W.Frag) (mg : Str → Option Value) where
  f_l_take : Addr
  d_l_take : FuncData
  F_l_take : Fun K "_law_take" "_law_take" s_l_take f_l_take d_l_take
  b_l_take : Binds K d_l_take ["_law_draw", "_law_many"] []
  mg_l_take : mg "_law_take" = some (.ref f_l_take)
theorem n_l_take (X : K.In h) (G : h.Ns mainGlobals mg) {f1 : Addr} {od1 an1 : Option Addr} {sl1 : Array (Option Value)} {oc1 kV1 dc1 pm1 cd1 ct1 : Value}
    (a1 : PySem.W.nsIn K mainGlobals "_law_take" = some (some (.ref f1)))
    (l1 : K.lookup f1 = some ⟨oc1, od1, .func (PySem.W.fnOf "_law_take" "_law_take" (defArgs s_l_take) (defBody s_l_take) (defScope s_l_take) .none kV1 dc1 pm1 an1 cd1 ct1), sl1⟩)
    (c1 : PySem.W.codeIn K cd1 "_law_take" = true)
    (k1 : PySem.W.keepIn K (.ref f1) = true) : Nonempty (G_l_take K mg) :=
  ⟨{ f_l_take := f1, d_l_take := PySem.W.fnOf "_law_take" "_law_take" (defArgs s_l_take) (defBody s_l_take) (defScope s_l_take) .none kV1 dc1 pm1 an1 cd1 ct1, F_l_take := fun_mk (st := s_l_take) l1 c1 k1, b_l_take := (fun_mk (st := s_l_take) l1 c1 k1).binds (ps := ["_law_draw", "_law_many"]) fun _ _ _ _ _ _ us hl => match us, hl with | [_, _], _ => rfl, mg_l_take := PySem.W.mg_of X G a1 }⟩
structure G_l_pick (K : PySem.W.Frag) (mg : Str → Option Value) where
  f_l_pick : Addr
  d_l_pick : FuncData
  F_l_pick : Fun K "_law_pick" "_law_pick" s_l_pick f_l_pick d_l_pick
  b_l_pick : Binds K d_l_pick ["_law_draw", "_law_items"] []
  mg_l_pick : mg "_law_pick" = some (.ref f_l_pick)
theorem n_l_pick (X : K.In h) (G : h.Ns mainGlobals mg) {f1 : Addr} {od1 an1 : Option Addr} {sl1 : Array (Option Value)} {oc1 kV1 dc1 pm1 cd1 ct1 : Value}
    (a1 : PySem.W.nsIn K mainGlobals "_law_pick" = some (some (.ref f1)))
    (l1 : K.lookup f1 = some ⟨oc1, od1, .func (PySem.W.fnOf "_law_pick" "_law_pick" (defArgs s_l_pick) (defBody s_l_pick) (defScope s_l_pick) .none kV1 dc1 pm1 an1 cd1 ct1), sl1⟩)
    (c1 : PySem.W.codeIn K cd1 "_law_pick" = true)
    (k1 : PySem.W.keepIn K (.ref f1) = true) : Nonempty (G_l_pick K mg) :=
  ⟨{ f_l_pick := f1, d_l_pick := PySem.W.fnOf "_law_pick" "_law_pick" (defArgs s_l_pick) (defBody s_l_pick) (defScope s_l_pick) .none kV1 dc1 pm1 an1 cd1 ct1, F_l_pick := fun_mk (st := s_l_pick) l1 c1 k1, b_l_pick := (fun_mk (st := s_l_pick) l1 c1 k1).binds (ps := ["_law_draw", "_law_items"]) fun _ _ _ _ _ _ us hl => match us, hl with | [_, _], _ => rfl, mg_l_pick := PySem.W.mg_of X G a1 }⟩
structure G_l_space (K : PySem.W.Frag) (mg : Str → Option Value) where
  f_l_space : Addr
  d_l_space : FuncData
  F_l_space : Fun K "_law_space" "_law_space" s_l_space f_l_space d_l_space
  b_l_space : Binds K d_l_space ["_law_draw"] []
  mg_l_space : mg "_law_space" = some (.ref f_l_space)
theorem n_l_space (X : K.In h) (G : h.Ns mainGlobals mg) {f1 : Addr} {od1 an1 : Option Addr} {sl1 : Array (Option Value)} {oc1 kV1 dc1 pm1 cd1 ct1 : Value}
    (a1 : PySem.W.nsIn K mainGlobals "_law_space" = some (some (.ref f1)))
    (l1 : K.lookup f1 = some ⟨oc1, od1, .func (PySem.W.fnOf "_law_space" "_law_space" (defArgs s_l_space) (defBody s_l_space) (defScope s_l_space) .none kV1 dc1 pm1 an1 cd1 ct1), sl1⟩)
    (c1 : PySem.W.codeIn K cd1 "_law_space" = true)
    (k1 : PySem.W.keepIn K (.ref f1) = true) : Nonempty (G_l_space K mg) :=
  ⟨{ f_l_space := f1, d_l_space := PySem.W.fnOf "_law_space" "_law_space" (defArgs s_l_space) (defBody s_l_space) (defScope s_l_space) .none kV1 dc1 pm1 an1 cd1 ct1, F_l_space := fun_mk (st := s_l_space) l1 c1 k1, b_l_space := (fun_mk (st := s_l_space) l1 c1 k1).binds (ps := ["_law_draw"]) fun _ _ _ _ _ _ us hl => match us, hl with | [_], _ => rfl, mg_l_space := PySem.W.mg_of X G a1 }⟩
structure G_l_all (K : PySem.W.Frag) (mg : Str → Option Value) where
  f_l_all : Addr
  d_l_all : FuncData
  F_l_all : Fun K "_law_all" "_law_all" s_l_all f_l_all d_l_all
  b_l_all : Binds K d_l_all ["_law_space_here"] []
  mg_l_all : mg "_law_all" = some (.ref f_l_all)
theorem n_l_all (X : K.In h) (G : h.Ns mainGlobals mg) {f1 : Addr} {od1 an1 : Option Addr} {sl1 : Array (Option Value)} {oc1 kV1 dc1 pm1 cd1 ct1 : Value}
    (a1 : PySem.W.nsIn K mainGlobals "_law_all" = some (some (.ref f1)))
    (l1 : K.lookup f1 = some ⟨oc1, od1, .func (PySem.W.fnOf "_law_all" "_law_all" (defArgs s_l_all) (defBody s_l_all) (defScope s_l_all) .none kV1 dc1 pm1 an1 cd1 ct1), sl1⟩)
    (c1 : PySem.W.codeIn K cd1 "_law_all" = true)
    (k1 : PySem.W.keepIn K (.ref f1) = true) : Nonempty (G_l_all K mg) :=
  ⟨{ f_l_all := f1, d_l_all := PySem.W.fnOf "_law_all" "_law_all" (defArgs s_l_all) (defBody s_l_all) (defScope s_l_all) .none kV1 dc1 pm1 an1 cd1 ct1, F_l_all := fun_mk (st := s_l_all) l1 c1 k1, b_l_all := (fun_mk (st := s_l_all) l1 c1 k1).binds (ps := ["_law_space_here"]) fun _ _ _ _ _ _ us hl => match us, hl with | [_], _ => rfl, mg_l_all := PySem.W.mg_of X G a1 }⟩
structure G_l_points (K : PySem.W.Frag) (mg : Str → Option Value) where
  f_l_points : Addr
  d_l_points : FuncData
  F_l_points : Fun K "_law_points" "_law_points" s_l_points f_l_points d_l_points
  b_l_points : Binds K d_l_points ["_law_draw", "_law_space_here"] []
  mg_l_points : mg "_law_points" = some (.ref f_l_points)
theorem n_l_points (X : K.In h) (G : h.Ns mainGlobals mg) {f1 : Addr} {od1 an1 : Option Addr} {sl1 : Array (Option Value)} {oc1 kV1 dc1 pm1 cd1 ct1 : Value}
    (a1 : PySem.W.nsIn K mainGlobals "_law_points" = some (some (.ref f1)))
    (l1 : K.lookup f1 = some ⟨oc1, od1, .func (PySem.W.fnOf "_law_points" "_law_points" (defArgs s_l_points) (defBody s_l_points) (defScope s_l_points) .none kV1 dc1 pm1 an1 cd1 ct1), sl1⟩)
    (c1 : PySem.W.codeIn K cd1 "_law_points" = true)
    (k1 : PySem.W.keepIn K (.ref f1) = true) : Nonempty (G_l_points K mg) :=
  ⟨{ f_l_points := f1, d_l_points := PySem.W.fnOf "_law_points" "_law_points" (defArgs s_l_points) (defBody s_l_points) (defScope s_l_points) .none kV1 dc1 pm1 an1 cd1 ct1, F_l_points := fun_mk (st := s_l_points) l1 c1 k1, b_l_points := (fun_mk (st := s_l_points) l1 c1 k1).binds (ps := ["_law_draw", "_law_space_here"]) fun _ _ _ _ _ _ us hl => match us, hl with | [_, _], _ => rfl, mg_l_points := PySem.W.mg_of X G a1 }⟩
structure G_l_point (K : PySem.W.Frag) (mg : Str → Option Value) where
  f_l_point : Addr
  d_l_point : FuncData
  F_l_point : Fun K "_law_point" "_law_point" s_l_point f_l_point d_l_point
  b_l_point : Binds K d_l_point ["_law_draw", "_law_space_here"] []
  mg_l_point : mg "_law_point" = some (.ref f_l_point)
theorem n_l_point (X : K.In h) (G : h.Ns mainGlobals mg) {f1 : Addr} {od1 an1 : Option Addr} {sl1 : Array (Option Value)} {oc1 kV1 dc1 pm1 cd1 ct1 : Value}
    (a1 : PySem.W.nsIn K mainGlobals "_law_point" = some (some (.ref f1)))
    (l1 : K.lookup f1 = some ⟨oc1, od1, .func (PySem.W.fnOf "_law_point" "_law_point" (defArgs s_l_point) (defBody s_l_point) (defScope s_l_point) .none kV1 dc1 pm1 an1 cd1 ct1), sl1⟩)
    (c1 : PySem.W.codeIn K cd1 "_law_point" = true)
    (k1 : PySem.W.keepIn K (.ref f1) = true) : Nonempty (G_l_point K mg) :=
  ⟨{ f_l_point := f1, d_l_point := PySem.W.fnOf "_law_point" "_law_point" (defArgs s_l_point) (defBody s_l_point) (defScope s_l_point) .none kV1 dc1 pm1 an1 cd1 ct1, F_l_point := fun_mk (st := s_l_point) l1 c1 k1, b_l_point := (fun_mk (st := s_l_point) l1 c1 k1).binds (ps := ["_law_draw", "_law_space_here"]) fun _ _ _ _ _ _ us hl => match us, hl with | [_, _], _ => rfl, mg_l_point := PySem.W.mg_of X G a1 }⟩
structure G_l_box (K : PySem.W.Frag) (mg : Str → Option Value) where
  f_l_box : Addr
  d_l_box : FuncData
  F_l_box : Fun K "_law_box" "_law_box" s_l_box f_l_box d_l_box
  b_l_box : Binds K d_l_box ["_law_draw", "_law_space_here"] []
  mg_l_box : mg "_law_box" = some (.ref f_l_box)
theorem n_l_box (X : K.In h) (G : h.Ns mainGlobals mg) {f1 : Addr} {od1 an1 : Option Addr} {sl1 : Array (Option Value)} {oc1 kV1 dc1 pm1 cd1 ct1 : Value}
    (a1 : PySem.W.nsIn K mainGlobals "_law_box" = some (some (.ref f1)))
    (l1 : K.lookup f1 = some ⟨oc1, od1, .func (PySem.W.fnOf "_law_box" "_law_box" (defArgs s_l_box) (defBody s_l_box) (defScope s_l_box) .none kV1 dc1 pm1 an1 cd1 ct1), sl1⟩)
    (c1 : PySem.W.codeIn K cd1 "_law_box" = true)
    (k1 : PySem.W.keepIn K (.ref f1) = true) : Nonempty (G_l_box K mg) :=
  ⟨{ f_l_box := f1, d_l_box := PySem.W.fnOf "_law_box" "_law_box" (defArgs s_l_box) (defBody s_l_box) (defScope s_l_box) .none kV1 dc1 pm1 an1 cd1 ct1, F_l_box := fun_mk (st := s_l_box) l1 c1 k1, b_l_box := (fun_mk (st := s_l_box) l1 c1 k1).binds (ps := ["_law_draw", "_law_space_here"]) fun _ _ _ _ _ _ us hl => match us, hl with | [_, _], _ => rfl, mg_l_box := PySem.W.mg_of X G a1 }⟩
structure G_l_prefixes (K : PySem.W.Frag) (mg : Str → Option Value) where
  f_l_prefixes : Addr
  d_l_prefixes : FuncData
  F_l_prefixes : Fun K "_law_prefixes" "_law_prefixes" s_l_prefixes f_l_prefixes d_l_prefixes
  b_l_prefixes : Binds K d_l_prefixes ["_law_space_here"] []
  mg_l_prefixes : mg "_law_prefixes" = some (.ref f_l_prefixes)
theorem n_l_prefixes (X : K.In h) (G : h.Ns mainGlobals mg) {f1 : Addr} {od1 an1 : Option Addr} {sl1 : Array (Option Value)} {oc1 kV1 dc1 pm1 cd1 ct1 : Value}
    (a1 : PySem.W.nsIn K mainGlobals "_law_prefixes" = some (some (.ref f1)))
    (l1 : K.lookup f1 = some ⟨oc1, od1, .func (PySem.W.fnOf "_law_prefixes" "_law_prefixes" (defArgs s_l_prefixes) (defBody s_l_prefixes) (defScope s_l_prefixes) .none kV1 dc1 pm1 an1 cd1 ct1), sl1⟩)
    (c1 : PySem.W.codeIn K cd1 "_law_prefixes" = true)
    (k1 : PySem.W.keepIn K (.ref f1) = true) : Nonempty (G_l_prefixes K mg) :=
  ⟨{ f_l_prefixes := f1, d_l_prefixes := PySem.W.fnOf "_law_prefixes" "_law_prefixes" (defArgs s_l_prefixes) (defBody s_l_prefixes) (defScope s_l_prefixes) .none kV1 dc1 pm1 an1 cd1 ct1, F_l_prefixes := fun_mk (st := s_l_prefixes) l1 c1 k1, b_l_prefixes := (fun_mk (st := s_l_prefixes) l1 c1 k1).binds (ps := ["_law_space_here"]) fun _ _ _ _ _ _ us hl => match us, hl with | [_], _ => rfl, mg_l_prefixes := PySem.W.mg_of X G a1 }⟩
structure G_law (K : PySem.W.Frag) (mg : Str → Option Value) where
  f_law : Addr
  d_law : FuncData
  F_law : Fun K "law" "law" s_law f_law d_law
  b_law : Binds K d_law ["_law_script"] []
  mg_law : mg "law" = some (.ref f_law)
  bt : ∀ (s : Shared) (v : Value), BindsTo s d_law ⟨[v], []⟩ [("_law_script", v)]
theorem n_law (X : K.In h) (G : h.Ns mainGlobals mg) {f1 : Addr} {od1 an1 : Option Addr} {sl1 : Array (Option Value)} {oc1 kV1 dc1 pm1 cd1 ct1 : Value}
    (a1 : PySem.W.nsIn K mainGlobals "law" = some (some (.ref f1)))
    (l1 : K.lookup f1 = some ⟨oc1, od1, .func (PySem.W.fnOf "law" "law" (defArgs s_law) (defBody s_law) (defScope s_law) .none kV1 dc1 pm1 an1 cd1 ct1), sl1⟩)
    (c1 : PySem.W.codeIn K cd1 "law" = true)
    (k1 : PySem.W.keepIn K (.ref f1) = true) : Nonempty (G_law K mg) :=
  ⟨{ f_law := f1, d_law := PySem.W.fnOf "law" "law" (defArgs s_law) (defBody s_law) (defScope s_law) .none kV1 dc1 pm1 an1 cd1 ct1, F_law := fun_mk (st := s_law) l1 c1 k1, b_law := (fun_mk (st := s_law) l1 c1 k1).binds (ps := ["_law_script"]) fun _ _ _ _ _ _ us hl => match us, hl with | [_], _ => rfl, mg_law := PySem.W.mg_of X G a1, bt := fun s v => .of_eq rfl }⟩
structure G_rest (K : PySem.W.Frag) (mg : Str → Option Value) where
  z_abs : mg "abs" = none
  z_all : mg "all" = none
  z_any : mg "any" = none
  z_bool : mg "bool" = none
  z_dict : mg "dict" = none
  z_int : mg "int" = none
  z_isinstance : mg "isinstance" = none
  z_len : mg "len" = none
  z_list : mg "list" = none
  z_max : mg "max" = none
  z_min : mg "min" = none
  z_range : mg "range" = none
  z_sorted : mg "sorted" = none
  z_sum : mg "sum" = none
  z_tuple : mg "tuple" = none
  z_zip : mg "zip" = none
  t_MOST_DIMENSIONS : Tok
  mg_MOST_DIMENSIONS : mg "MOST_DIMENSIONS" = some (.int 3 t_MOST_DIMENSIONS)
  t_MOST_BITS : Tok
  mg_MOST_BITS : mg "MOST_BITS" = some (.int 10 t_MOST_BITS)
theorem n_rest (X : K.In h) (G : h.Ns mainGlobals mg) {t1 t2 : Tok} (z_abs : PySem.W.nsIn K mainGlobals "abs" = some none) (z_all : PySem.W.nsIn K mainGlobals "all" = some none) (z_any : PySem.W.nsIn K mainGlobals "any" = some none) (z_bool : PySem.W.nsIn K mainGlobals "bool" = some none) (z_dict : PySem.W.nsIn K mainGlobals "dict" = some none) (z_int : PySem.W.nsIn K mainGlobals "int" = some none) (z_isinstance : PySem.W.nsIn K mainGlobals "isinstance" = some none) (z_len : PySem.W.nsIn K mainGlobals "len" = some none) (z_list : PySem.W.nsIn K mainGlobals "list" = some none) (z_max : PySem.W.nsIn K mainGlobals "max" = some none) (z_min : PySem.W.nsIn K mainGlobals "min" = some none) (z_range : PySem.W.nsIn K mainGlobals "range" = some none) (z_sorted : PySem.W.nsIn K mainGlobals "sorted" = some none) (z_sum : PySem.W.nsIn K mainGlobals "sum" = some none) (z_tuple : PySem.W.nsIn K mainGlobals "tuple" = some none) (z_zip : PySem.W.nsIn K mainGlobals "zip" = some none)
    (m1 : PySem.W.nsIn K mainGlobals "MOST_DIMENSIONS" = some (some (.int 3 t1))) (m2 : PySem.W.nsIn K mainGlobals "MOST_BITS" = some (some (.int 10 t2))) : Nonempty (G_rest K mg) :=
  ⟨{ z_abs := PySem.W.mg_none_of X G z_abs, z_all := PySem.W.mg_none_of X G z_all, z_any := PySem.W.mg_none_of X G z_any, z_bool := PySem.W.mg_none_of X G z_bool, z_dict := PySem.W.mg_none_of X G z_dict, z_int := PySem.W.mg_none_of X G z_int, z_isinstance := PySem.W.mg_none_of X G z_isinstance, z_len := PySem.W.mg_none_of X G z_len, z_list := PySem.W.mg_none_of X G z_list, z_max := PySem.W.mg_none_of X G z_max, z_min := PySem.W.mg_none_of X G z_min, z_range := PySem.W.mg_none_of X G z_range, z_sorted := PySem.W.mg_none_of X G z_sorted, z_sum := PySem.W.mg_none_of X G z_sum, z_tuple := PySem.W.mg_none_of X G z_tuple, z_zip := PySem.W.mg_none_of X G z_zip, t_MOST_DIMENSIONS := t1, mg_MOST_DIMENSIONS := PySem.W.mg_of X G m1, t_MOST_BITS := t2, mg_MOST_BITS := PySem.W.mg_of X G m2 }⟩
end
theorem all_done {l : PySem.W.OpenLaw} {w : World} {K : PySem.W.Frag} {mg : Str → Option Value} {fa : Addr} (hfa : mg "law" = some (.ref fa)) (g1 : Nonempty (G_Space K mg)) (g2 : Nonempty (G_Box K mg)) (g3 : Nonempty (G_Cloud K mg)) (g4 : Nonempty (G_Rest K mg)) (g5 : Nonempty (G_Knowledge K mg)) (g6 : Nonempty (G_Telling K mg)) (g7 : Nonempty (G_halves_of K mg)) (g8 : Nonempty (G_is_whole K mg)) (g9 : Nonempty (G_power K mg)) (g10 : Nonempty (G_fewest_facts K mg)) (g11 : Nonempty (G_is_enough K mg)) (g12 : Nonempty (G_place_in K mg)) (g13 : Nonempty (G_is_inside K mg)) (g14 : Nonempty (G_l_number K mg)) (g15 : Nonempty (G_l_take K mg)) (g16 : Nonempty (G_l_pick K mg)) (g17 : Nonempty (G_l_space K mg)) (g18 : Nonempty (G_l_all K mg)) (g19 : Nonempty (G_l_points K mg)) (g20 : Nonempty (G_l_point K mg)) (g21 : Nonempty (G_l_box K mg)) (g22 : Nonempty (G_l_prefixes K mg)) (g23 : Nonempty (G_law K mg)) (g24 : Nonempty (G_rest K mg)) :
    ∃ fd : FuncData, (∀ (s : Shared) (v : Value), BindsTo s fd ⟨[v], []⟩ [("_law_script", v)]) ∧ ∀ base : Heap, K.In base → base.Ns mainGlobals mg → FnOk l.prog w K mg base CX0 70 fa fd ["_law_script"] (spLaw K) := by
  obtain ⟨g1⟩ := g1
  obtain ⟨g2⟩ := g2
  obtain ⟨g3⟩ := g3
  obtain ⟨g4⟩ := g4
  obtain ⟨g5⟩ := g5
  obtain ⟨g6⟩ := g6
  obtain ⟨g7⟩ := g7
  obtain ⟨g8⟩ := g8
  obtain ⟨g9⟩ := g9
  obtain ⟨g10⟩ := g10
  obtain ⟨g11⟩ := g11
  obtain ⟨g12⟩ := g12
  obtain ⟨g13⟩ := g13
  obtain ⟨g14⟩ := g14
  obtain ⟨g15⟩ := g15
  obtain ⟨g16⟩ := g16
  obtain ⟨g17⟩ := g17
  obtain ⟨g18⟩ := g18
  obtain ⟨g19⟩ := g19
  obtain ⟨g20⟩ := g20
  obtain ⟨g21⟩ := g21
  obtain ⟨g22⟩ := g22
  obtain ⟨g23⟩ := g23
  obtain ⟨g24⟩ := g24
  let T : Txt K mg := {
    C_Space := g1.C_Space,
    cl_Space := g1.cl_Space,
    mg_Space := g1.mg_Space,
    na_Space_dimensions := g1.na_Space_dimensions,
    na_Space_bits := g1.na_Space_bits,
    na_Space_depth := g1.na_Space_depth,
    na_Space_side := g1.na_Space_side,
    f_Space_init := g1.f_Space_init,
    d_Space_init := g1.d_Space_init,
    F_Space_init := g1.F_Space_init,
    b_Space_init := g1.b_Space_init,
    mk_Space := g1.mk_Space,
    f_Space_is_point := g1.f_Space_is_point,
    d_Space_is_point := g1.d_Space_is_point,
    F_Space_is_point := g1.F_Space_is_point,
    b_Space_is_point := g1.b_Space_is_point,
    M_Space_is_point := g1.M_Space_is_point,
    f_Space_check_point := g1.f_Space_check_point,
    d_Space_check_point := g1.d_Space_check_point,
    F_Space_check_point := g1.F_Space_check_point,
    b_Space_check_point := g1.b_Space_check_point,
    M_Space_check_point := g1.M_Space_check_point,
    f_Space_woven := g1.f_Space_woven,
    d_Space_woven := g1.d_Space_woven,
    F_Space_woven := g1.F_Space_woven,
    b_Space_woven := g1.b_Space_woven,
    M_Space_woven := g1.M_Space_woven,
    f_Space_point_of := g1.f_Space_point_of,
    d_Space_point_of := g1.d_Space_point_of,
    F_Space_point_of := g1.F_Space_point_of,
    b_Space_point_of := g1.b_Space_point_of,
    M_Space_point_of := g1.M_Space_point_of,
    f_Space_size := g1.f_Space_size,
    d_Space_size := g1.d_Space_size,
    F_Space_size := g1.F_Space_size,
    b_Space_size := g1.b_Space_size,
    M_Space_size := g1.M_Space_size,
    f_Space_is_prefix := g1.f_Space_is_prefix,
    d_Space_is_prefix := g1.d_Space_is_prefix,
    F_Space_is_prefix := g1.F_Space_is_prefix,
    b_Space_is_prefix := g1.b_Space_is_prefix,
    M_Space_is_prefix := g1.M_Space_is_prefix,
    f_Space_cell := g1.f_Space_cell,
    d_Space_cell := g1.d_Space_cell,
    F_Space_cell := g1.F_Space_cell,
    b_Space_cell := g1.b_Space_cell,
    M_Space_cell := g1.M_Space_cell,
    C_Box := g2.C_Box,
    cl_Box := g2.cl_Box,
    mg_Box := g2.mg_Box,
    na_Box_space := g2.na_Box_space,
    na_Box_lows := g2.na_Box_lows,
    na_Box_highs := g2.na_Box_highs,
    f_Box_init := g2.f_Box_init,
    d_Box_init := g2.d_Box_init,
    F_Box_init := g2.F_Box_init,
    b_Box_init := g2.b_Box_init,
    mk_Box := g2.mk_Box,
    f_Box_room := g2.f_Box_room,
    d_Box_room := g2.d_Box_room,
    F_Box_room := g2.F_Box_room,
    b_Box_room := g2.b_Box_room,
    M_Box_room := g2.M_Box_room,
    C_Cloud := g3.C_Cloud,
    cl_Cloud := g3.cl_Cloud,
    mg_Cloud := g3.mg_Cloud,
    na_Cloud_space := g3.na_Cloud_space,
    na_Cloud_row := g3.na_Cloud_row,
    f_Cloud_init := g3.f_Cloud_init,
    d_Cloud_init := g3.d_Cloud_init,
    F_Cloud_init := g3.F_Cloud_init,
    b_Cloud_init := g3.b_Cloud_init,
    mk_Cloud := g3.mk_Cloud,
    f_Cloud_count := g3.f_Cloud_count,
    d_Cloud_count := g3.d_Cloud_count,
    F_Cloud_count := g3.F_Cloud_count,
    b_Cloud_count := g3.b_Cloud_count,
    M_Cloud_count := g3.M_Cloud_count,
    C_Rest := g4.C_Rest,
    cl_Rest := g4.cl_Rest,
    mg_Rest := g4.mg_Rest,
    na_Rest_prefix := g4.na_Rest_prefix,
    na_Rest_count := g4.na_Rest_count,
    na_Rest_inner := g4.na_Rest_inner,
    f_Rest_init := g4.f_Rest_init,
    d_Rest_init := g4.d_Rest_init,
    F_Rest_init := g4.F_Rest_init,
    b_Rest_init := g4.b_Rest_init,
    mk_Rest := g4.mk_Rest,
    C_Knowledge := g5.C_Knowledge,
    cl_Knowledge := g5.cl_Knowledge,
    mg_Knowledge := g5.mg_Knowledge,
    na_Knowledge_space := g5.na_Knowledge_space,
    na_Knowledge_facts := g5.na_Knowledge_facts,
    f_Knowledge_init := g5.f_Knowledge_init,
    d_Knowledge_init := g5.d_Knowledge_init,
    F_Knowledge_init := g5.F_Knowledge_init,
    b_Knowledge_init := g5.b_Knowledge_init,
    mk_Knowledge := g5.mk_Knowledge,
    f_Knowledge_is_fit := g5.f_Knowledge_is_fit,
    d_Knowledge_is_fit := g5.d_Knowledge_is_fit,
    F_Knowledge_is_fit := g5.F_Knowledge_is_fit,
    b_Knowledge_is_fit := g5.b_Knowledge_is_fit,
    M_Knowledge_is_fit := g5.M_Knowledge_is_fit,
    f_Knowledge_rests := g5.f_Knowledge_rests,
    d_Knowledge_rests := g5.d_Knowledge_rests,
    F_Knowledge_rests := g5.F_Knowledge_rests,
    b_Knowledge_rests := g5.b_Knowledge_rests,
    M_Knowledge_rests := g5.M_Knowledge_rests,
    f_Knowledge_next_inside := g5.f_Knowledge_next_inside,
    d_Knowledge_next_inside := g5.d_Knowledge_next_inside,
    F_Knowledge_next_inside := g5.F_Knowledge_next_inside,
    b_Knowledge_next_inside := g5.b_Knowledge_next_inside,
    M_Knowledge_next_inside := g5.M_Knowledge_next_inside,
    f_Knowledge_points_left := g5.f_Knowledge_points_left,
    d_Knowledge_points_left := g5.d_Knowledge_points_left,
    F_Knowledge_points_left := g5.F_Knowledge_points_left,
    b_Knowledge_points_left := g5.b_Knowledge_points_left,
    M_Knowledge_points_left := g5.M_Knowledge_points_left,
    f_Knowledge_room := g5.f_Knowledge_room,
    d_Knowledge_room := g5.d_Knowledge_room,
    F_Knowledge_room := g5.F_Knowledge_room,
    b_Knowledge_room := g5.b_Knowledge_room,
    M_Knowledge_room := g5.M_Knowledge_room,
    f_Knowledge_room_in := g5.f_Knowledge_room_in,
    d_Knowledge_room_in := g5.d_Knowledge_room_in,
    F_Knowledge_room_in := g5.F_Knowledge_room_in,
    b_Knowledge_room_in := g5.b_Knowledge_room_in,
    M_Knowledge_room_in := g5.M_Knowledge_room_in,
    f_Knowledge_bounds := g5.f_Knowledge_bounds,
    d_Knowledge_bounds := g5.d_Knowledge_bounds,
    F_Knowledge_bounds := g5.F_Knowledge_bounds,
    b_Knowledge_bounds := g5.b_Knowledge_bounds,
    M_Knowledge_bounds := g5.M_Knowledge_bounds,
    f_Knowledge_known := g5.f_Knowledge_known,
    d_Knowledge_known := g5.d_Knowledge_known,
    F_Knowledge_known := g5.F_Knowledge_known,
    b_Knowledge_known := g5.b_Knowledge_known,
    M_Knowledge_known := g5.M_Knowledge_known,
    C_Telling := g6.C_Telling,
    cl_Telling := g6.cl_Telling,
    mg_Telling := g6.mg_Telling,
    na_Telling_cloud := g6.na_Telling_cloud,
    na_Telling_space := g6.na_Telling_space,
    na_Telling_facts := g6.na_Telling_facts,
    na_Telling_box := g6.na_Telling_box,
    na_Telling_fineness := g6.na_Telling_fineness,
    na_Telling_known := g6.na_Telling_known,
    na_Telling_holders := g6.na_Telling_holders,
    f_Telling_init := g6.f_Telling_init,
    d_Telling_init := g6.d_Telling_init,
    F_Telling_init := g6.F_Telling_init,
    b_Telling_init := g6.b_Telling_init,
    mk_Telling := g6.mk_Telling,
    f_Telling_is_cell := g6.f_Telling_is_cell,
    d_Telling_is_cell := g6.d_Telling_is_cell,
    F_Telling_is_cell := g6.F_Telling_is_cell,
    b_Telling_is_cell := g6.b_Telling_is_cell,
    M_Telling_is_cell := g6.M_Telling_is_cell,
    f_Telling_is_needed := g6.f_Telling_is_needed,
    d_Telling_is_needed := g6.d_Telling_is_needed,
    F_Telling_is_needed := g6.F_Telling_is_needed,
    b_Telling_is_needed := g6.b_Telling_is_needed,
    M_Telling_is_needed := g6.M_Telling_is_needed,
    f_Telling_told := g6.f_Telling_told,
    d_Telling_told := g6.d_Telling_told,
    F_Telling_told := g6.F_Telling_told,
    b_Telling_told := g6.b_Telling_told,
    M_Telling_told := g6.M_Telling_told,
    f_Telling_both := g6.f_Telling_both,
    d_Telling_both := g6.d_Telling_both,
    F_Telling_both := g6.F_Telling_both,
    b_Telling_both := g6.b_Telling_both,
    M_Telling_both := g6.M_Telling_both,
    f_Telling_least := g6.f_Telling_least,
    d_Telling_least := g6.d_Telling_least,
    F_Telling_least := g6.F_Telling_least,
    b_Telling_least := g6.b_Telling_least,
    M_Telling_least := g6.M_Telling_least,
    f_Telling_within := g6.f_Telling_within,
    d_Telling_within := g6.d_Telling_within,
    F_Telling_within := g6.F_Telling_within,
    b_Telling_within := g6.b_Telling_within,
    M_Telling_within := g6.M_Telling_within,
    f_Telling_ends := g6.f_Telling_ends,
    d_Telling_ends := g6.d_Telling_ends,
    F_Telling_ends := g6.F_Telling_ends,
    b_Telling_ends := g6.b_Telling_ends,
    M_Telling_ends := g6.M_Telling_ends,
    f_Telling_way := g6.f_Telling_way,
    d_Telling_way := g6.d_Telling_way,
    F_Telling_way := g6.F_Telling_way,
    b_Telling_way := g6.b_Telling_way,
    M_Telling_way := g6.M_Telling_way,
    f_Telling_way_of := g6.f_Telling_way_of,
    d_Telling_way_of := g6.d_Telling_way_of,
    F_Telling_way_of := g6.F_Telling_way_of,
    b_Telling_way_of := g6.b_Telling_way_of,
    M_Telling_way_of := g6.M_Telling_way_of,
    f_Telling_cell_way := g6.f_Telling_cell_way,
    d_Telling_cell_way := g6.d_Telling_cell_way,
    F_Telling_cell_way := g6.F_Telling_cell_way,
    b_Telling_cell_way := g6.b_Telling_cell_way,
    M_Telling_cell_way := g6.M_Telling_cell_way,
    f_halves_of := g7.f_halves_of,
    d_halves_of := g7.d_halves_of,
    F_halves_of := g7.F_halves_of,
    b_halves_of := g7.b_halves_of,
    mg_halves_of := g7.mg_halves_of,
    f_is_whole := g8.f_is_whole,
    d_is_whole := g8.d_is_whole,
    F_is_whole := g8.F_is_whole,
    b_is_whole := g8.b_is_whole,
    mg_is_whole := g8.mg_is_whole,
    f_power := g9.f_power,
    d_power := g9.d_power,
    F_power := g9.F_power,
    b_power := g9.b_power,
    mg_power := g9.mg_power,
    f_fewest_facts := g10.f_fewest_facts,
    d_fewest_facts := g10.d_fewest_facts,
    F_fewest_facts := g10.F_fewest_facts,
    b_fewest_facts := g10.b_fewest_facts,
    mg_fewest_facts := g10.mg_fewest_facts,
    f_is_enough := g11.f_is_enough,
    d_is_enough := g11.d_is_enough,
    F_is_enough := g11.F_is_enough,
    b_is_enough := g11.b_is_enough,
    mg_is_enough := g11.mg_is_enough,
    f_place_in := g12.f_place_in,
    d_place_in := g12.d_place_in,
    F_place_in := g12.F_place_in,
    b_place_in := g12.b_place_in,
    mg_place_in := g12.mg_place_in,
    f_is_inside := g13.f_is_inside,
    d_is_inside := g13.d_is_inside,
    F_is_inside := g13.F_is_inside,
    b_is_inside := g13.b_is_inside,
    mg_is_inside := g13.mg_is_inside,
    f_l_number := g14.f_l_number,
    d_l_number := g14.d_l_number,
    F_l_number := g14.F_l_number,
    b_l_number := g14.b_l_number,
    mg_l_number := g14.mg_l_number,
    f_l_take := g15.f_l_take,
    d_l_take := g15.d_l_take,
    F_l_take := g15.F_l_take,
    b_l_take := g15.b_l_take,
    mg_l_take := g15.mg_l_take,
    f_l_pick := g16.f_l_pick,
    d_l_pick := g16.d_l_pick,
    F_l_pick := g16.F_l_pick,
    b_l_pick := g16.b_l_pick,
    mg_l_pick := g16.mg_l_pick,
    f_l_space := g17.f_l_space,
    d_l_space := g17.d_l_space,
    F_l_space := g17.F_l_space,
    b_l_space := g17.b_l_space,
    mg_l_space := g17.mg_l_space,
    f_l_all := g18.f_l_all,
    d_l_all := g18.d_l_all,
    F_l_all := g18.F_l_all,
    b_l_all := g18.b_l_all,
    mg_l_all := g18.mg_l_all,
    f_l_points := g19.f_l_points,
    d_l_points := g19.d_l_points,
    F_l_points := g19.F_l_points,
    b_l_points := g19.b_l_points,
    mg_l_points := g19.mg_l_points,
    f_l_point := g20.f_l_point,
    d_l_point := g20.d_l_point,
    F_l_point := g20.F_l_point,
    b_l_point := g20.b_l_point,
    mg_l_point := g20.mg_l_point,
    f_l_box := g21.f_l_box,
    d_l_box := g21.d_l_box,
    F_l_box := g21.F_l_box,
    b_l_box := g21.b_l_box,
    mg_l_box := g21.mg_l_box,
    f_l_prefixes := g22.f_l_prefixes,
    d_l_prefixes := g22.d_l_prefixes,
    F_l_prefixes := g22.F_l_prefixes,
    b_l_prefixes := g22.b_l_prefixes,
    mg_l_prefixes := g22.mg_l_prefixes,
    f_law := g23.f_law,
    d_law := g23.d_law,
    F_law := g23.F_law,
    b_law := g23.b_law,
    mg_law := g23.mg_law,
    z_abs := g24.z_abs,
    z_all := g24.z_all,
    z_any := g24.z_any,
    z_bool := g24.z_bool,
    z_dict := g24.z_dict,
    z_int := g24.z_int,
    z_isinstance := g24.z_isinstance,
    z_len := g24.z_len,
    z_list := g24.z_list,
    z_max := g24.z_max,
    z_min := g24.z_min,
    z_range := g24.z_range,
    z_sorted := g24.z_sorted,
    z_sum := g24.z_sum,
    z_tuple := g24.z_tuple,
    z_zip := g24.z_zip,
    t_MOST_DIMENSIONS := g24.t_MOST_DIMENSIONS,
    mg_MOST_DIMENSIONS := g24.mg_MOST_DIMENSIONS,
    t_MOST_BITS := g24.t_MOST_BITS,
    mg_MOST_BITS := g24.mg_MOST_BITS }
  have e := hfa.symm.trans g23.mg_law
  injection e with e
  injection e with e
  subst e
  exact ⟨_, g23.bt, fun base _ _ => ok_law T⟩
abbrev frOf {K : PySem.W.Frag} {h : Heap} (_ : K.In h) : PySem.W.Frag := K
theorem walkL {l : PySem.W.OpenLaw} {q : Program} {loose : List Str} {XP : (Str → Option Value) → Heap → Prop} {YP : World → Heap → Prop} {d : DefRec} {K : Params → PySem.W.Frag} (hn : l.most = some 63) (hdf : d.params.defaults = [])
    (hY : ∀ (w : World) (h : Heap), YP w h → (K w.params).In h)
    (F : ∀ (w : World) (mg : Str → Option Value) (fa : Addr) (h : Heap), (K w.params).In h → h.Ns mainGlobals mg → mg d.name = some (.ref fa) →
      ∃ fd : FuncData, (∀ (s : Shared) (u : Value), BindsTo s fd ⟨[u], []⟩ [("_law_script", u)]) ∧ ∀ base : Heap, (K w.params).In base → base.Ns mainGlobals mg → FnOk l.prog w (K w.params) mg base CX0 70 fa fd ["_law_script"] (spLaw (K w.params))) :
    PySem.W.WalkO q loose XP YP l.row.toRowW d [] (fun f vs => PySem.call f vs) :=
  L2.walk_of (n := 63) (k := 70) (x := "_law_script") (CX := fun _ => CX0) (sp := fun w => spLaw (K w.params)) hn (by decide) hdf ⟨rfl, by decide, by decide⟩ hY F (fun _ _ a ns _ _ hS => ⟨a, ns, rfl, hS, fun _ => rfl⟩) fun _ _ _ _ _ z => z
end FW
open PySem PySem.W PyProof.Rows
set_option maxRecDepth 100000 in
set_option maxHeartbeats 0 in
theorem PySem.Challenge.cw_finecloud_k06_whole_told_holds : PySem.Challenge.rw_finecloud_k06_whole_told.Holds := by
  w_on; o_law; k_head; (case hw => w_witness2)
  k_fill
  refine FW.walkL (l := PySem.Challenge.rw_finecloud_k06_whole_told) rfl rfl (fun w h Y => PySem.W.kIn_of Y) ?F
  case F =>
    intro w mg fa h KX G hmg
    have g1 : Nonempty (FW.G_Space (FW.frOf KX) mg) := by
      delta FW.frOf
      refine' FW.n_Space KX G ?aC ?pg ?hd ?po ?sa ?mk ?kc ?n_dimensions ?n_bits ?n_depth ?n_side ?a1 ?i1 ?l1 ?c1 ?k1 ?a2 ?i2 ?l2 ?c2 ?k2 ?a3 ?i3 ?l3 ?c3 ?k3 ?a4 ?i4 ?l4 ?c4 ?k4 ?a5 ?i5 ?l5 ?c5 ?k5 ?a6 ?i6 ?l6 ?c6 ?k6 ?a7 ?i7 ?l7 ?c7 ?k7 ?a8 ?i8 ?l8 ?c8 ?k8
      (case aC => k_is)
      (case pg => k_is)
      (case hd => k_is)
      (case po => k_is)
      (case sa => k_is)
      (case mk => k_is)
      (case kc => k_is)
      (case n_dimensions => k_is)
      (case n_bits => k_is)
      (case n_depth => k_is)
      (case n_side => k_is)
      (case a1 => k_is)
      (case i1 => k_is)
      (case l1 => k_is)
      (case c1 => k_is)
      (case k1 => k_is)
      (case a2 => k_is)
      (case i2 => k_is)
      (case l2 => k_is)
      (case c2 => k_is)
      (case k2 => k_is)
      (case a3 => k_is)
      (case i3 => k_is)
      (case l3 => k_is)
      (case c3 => k_is)
      (case k3 => k_is)
      (case a4 => k_is)
      (case i4 => k_is)
      (case l4 => k_is)
      (case c4 => k_is)
      (case k4 => k_is)
      (case a5 => k_is)
      (case i5 => k_is)
      (case l5 => k_is)
      (case c5 => k_is)
      (case k5 => k_is)
      (case a6 => k_is)
      (case i6 => k_is)
      (case l6 => k_is)
      (case c6 => k_is)
      (case k6 => k_is)
      (case a7 => k_is)
      (case i7 => k_is)
      (case l7 => k_is)
      (case c7 => k_is)
      (case k7 => k_is)
      (case a8 => k_is)
      (case i8 => k_is)
      (case l8 => k_is)
      (case c8 => k_is)
      (case k8 => k_is)
    have g2 : Nonempty (FW.G_Box (FW.frOf KX) mg) := by
      delta FW.frOf
      refine' FW.n_Box KX G ?aC ?pg ?hd ?po ?sa ?mk ?kc ?n_space ?n_lows ?n_highs ?a1 ?i1 ?l1 ?c1 ?k1 ?a2 ?i2 ?l2 ?c2 ?k2
      (case aC => k_is)
      (case pg => k_is)
      (case hd => k_is)
      (case po => k_is)
      (case sa => k_is)
      (case mk => k_is)
      (case kc => k_is)
      (case n_space => k_is)
      (case n_lows => k_is)
      (case n_highs => k_is)
      (case a1 => k_is)
      (case i1 => k_is)
      (case l1 => k_is)
      (case c1 => k_is)
      (case k1 => k_is)
      (case a2 => k_is)
      (case i2 => k_is)
      (case l2 => k_is)
      (case c2 => k_is)
      (case k2 => k_is)
    have g3 : Nonempty (FW.G_Cloud (FW.frOf KX) mg) := by
      delta FW.frOf
      refine' FW.n_Cloud KX G ?aC ?pg ?hd ?po ?sa ?mk ?kc ?n_space ?n_row ?a1 ?i1 ?l1 ?c1 ?k1 ?a2 ?i2 ?l2 ?c2 ?k2
      (case aC => k_is)
      (case pg => k_is)
      (case hd => k_is)
      (case po => k_is)
      (case sa => k_is)
      (case mk => k_is)
      (case kc => k_is)
      (case n_space => k_is)
      (case n_row => k_is)
      (case a1 => k_is)
      (case i1 => k_is)
      (case l1 => k_is)
      (case c1 => k_is)
      (case k1 => k_is)
      (case a2 => k_is)
      (case i2 => k_is)
      (case l2 => k_is)
      (case c2 => k_is)
      (case k2 => k_is)
    have g4 : Nonempty (FW.G_Rest (FW.frOf KX) mg) := by
      delta FW.frOf
      refine' FW.n_Rest KX G ?aC ?pg ?hd ?po ?sa ?mk ?kc ?n_prefix ?n_count ?n_inner ?a1 ?i1 ?l1 ?c1 ?k1
      (case aC => k_is)
      (case pg => k_is)
      (case hd => k_is)
      (case po => k_is)
      (case sa => k_is)
      (case mk => k_is)
      (case kc => k_is)
      (case n_prefix => k_is)
      (case n_count => k_is)
      (case n_inner => k_is)
      (case a1 => k_is)
      (case i1 => k_is)
      (case l1 => k_is)
      (case c1 => k_is)
      (case k1 => k_is)
    have g5 : Nonempty (FW.G_Knowledge (FW.frOf KX) mg) := by
      delta FW.frOf
      refine' FW.n_Knowledge KX G ?aC ?pg ?hd ?po ?sa ?mk ?kc ?n_space ?n_facts ?a1 ?i1 ?l1 ?c1 ?k1 ?a2 ?i2 ?l2 ?c2 ?k2 ?a3 ?i3 ?l3 ?c3 ?k3 ?a4 ?i4 ?l4 ?c4 ?k4 ?a5 ?i5 ?l5 ?c5 ?k5 ?a6 ?i6 ?l6 ?c6 ?k6 ?a7 ?i7 ?l7 ?c7 ?k7 ?a8 ?i8 ?l8 ?c8 ?k8 ?a9 ?i9 ?l9 ?c9 ?k9
      (case aC => k_is)
      (case pg => k_is)
      (case hd => k_is)
      (case po => k_is)
      (case sa => k_is)
      (case mk => k_is)
      (case kc => k_is)
      (case n_space => k_is)
      (case n_facts => k_is)
      (case a1 => k_is)
      (case i1 => k_is)
      (case l1 => k_is)
      (case c1 => k_is)
      (case k1 => k_is)
      (case a2 => k_is)
      (case i2 => k_is)
      (case l2 => k_is)
      (case c2 => k_is)
      (case k2 => k_is)
      (case a3 => k_is)
      (case i3 => k_is)
      (case l3 => k_is)
      (case c3 => k_is)
      (case k3 => k_is)
      (case a4 => k_is)
      (case i4 => k_is)
      (case l4 => k_is)
      (case c4 => k_is)
      (case k4 => k_is)
      (case a5 => k_is)
      (case i5 => k_is)
      (case l5 => k_is)
      (case c5 => k_is)
      (case k5 => k_is)
      (case a6 => k_is)
      (case i6 => k_is)
      (case l6 => k_is)
      (case c6 => k_is)
      (case k6 => k_is)
      (case a7 => k_is)
      (case i7 => k_is)
      (case l7 => k_is)
      (case c7 => k_is)
      (case k7 => k_is)
      (case a8 => k_is)
      (case i8 => k_is)
      (case l8 => k_is)
      (case c8 => k_is)
      (case k8 => k_is)
      (case a9 => k_is)
      (case i9 => k_is)
      (case l9 => k_is)
      (case c9 => k_is)
      (case k9 => k_is)
    have g6 : Nonempty (FW.G_Telling (FW.frOf KX) mg) := by
      delta FW.frOf
      refine' FW.n_Telling KX G ?aC ?pg ?hd ?po ?sa ?mk ?kc ?n_cloud ?n_space ?n_facts ?n_box ?n_fineness ?n_known ?n_holders ?a1 ?i1 ?l1 ?c1 ?k1 ?a2 ?i2 ?l2 ?c2 ?k2 ?a3 ?i3 ?l3 ?c3 ?k3 ?a4 ?i4 ?l4 ?c4 ?k4 ?a5 ?i5 ?l5 ?c5 ?k5 ?a6 ?i6 ?l6 ?c6 ?k6 ?a7 ?i7 ?l7 ?c7 ?k7 ?a8 ?i8 ?l8 ?c8 ?k8 ?a9 ?i9 ?l9 ?c9 ?k9 ?a10 ?i10 ?l10 ?c10 ?k10 ?a11 ?i11 ?l11 ?c11 ?k11
      (case aC => k_is)
      (case pg => k_is)
      (case hd => k_is)
      (case po => k_is)
      (case sa => k_is)
      (case mk => k_is)
      (case kc => k_is)
      (case n_cloud => k_is)
      (case n_space => k_is)
      (case n_facts => k_is)
      (case n_box => k_is)
      (case n_fineness => k_is)
      (case n_known => k_is)
      (case n_holders => k_is)
      (case a1 => k_is)
      (case i1 => k_is)
      (case l1 => k_is)
      (case c1 => k_is)
      (case k1 => k_is)
      (case a2 => k_is)
      (case i2 => k_is)
      (case l2 => k_is)
      (case c2 => k_is)
      (case k2 => k_is)
      (case a3 => k_is)
      (case i3 => k_is)
      (case l3 => k_is)
      (case c3 => k_is)
      (case k3 => k_is)
      (case a4 => k_is)
      (case i4 => k_is)
      (case l4 => k_is)
      (case c4 => k_is)
      (case k4 => k_is)
      (case a5 => k_is)
      (case i5 => k_is)
      (case l5 => k_is)
      (case c5 => k_is)
      (case k5 => k_is)
      (case a6 => k_is)
      (case i6 => k_is)
      (case l6 => k_is)
      (case c6 => k_is)
      (case k6 => k_is)
      (case a7 => k_is)
      (case i7 => k_is)
      (case l7 => k_is)
      (case c7 => k_is)
      (case k7 => k_is)
      (case a8 => k_is)
      (case i8 => k_is)
      (case l8 => k_is)
      (case c8 => k_is)
      (case k8 => k_is)
      (case a9 => k_is)
      (case i9 => k_is)
      (case l9 => k_is)
      (case c9 => k_is)
      (case k9 => k_is)
      (case a10 => k_is)
      (case i10 => k_is)
      (case l10 => k_is)
      (case c10 => k_is)
      (case k10 => k_is)
      (case a11 => k_is)
      (case i11 => k_is)
      (case l11 => k_is)
      (case c11 => k_is)
      (case k11 => k_is)
    have g7 : Nonempty (FW.G_halves_of (FW.frOf KX) mg) := by
      delta FW.frOf
      refine' FW.n_halves_of KX G ?a1 ?l1 ?c1 ?k1
      (case a1 => k_is)
      (case l1 => k_is)
      (case c1 => k_is)
      (case k1 => k_is)
    have g8 : Nonempty (FW.G_is_whole (FW.frOf KX) mg) := by
      delta FW.frOf
      refine' FW.n_is_whole KX G ?a1 ?l1 ?c1 ?k1
      (case a1 => k_is)
      (case l1 => k_is)
      (case c1 => k_is)
      (case k1 => k_is)
    have g9 : Nonempty (FW.G_power (FW.frOf KX) mg) := by
      delta FW.frOf
      refine' FW.n_power KX G ?a1 ?l1 ?c1 ?k1
      (case a1 => k_is)
      (case l1 => k_is)
      (case c1 => k_is)
      (case k1 => k_is)
    have g10 : Nonempty (FW.G_fewest_facts (FW.frOf KX) mg) := by
      delta FW.frOf
      refine' FW.n_fewest_facts KX G ?a1 ?l1 ?c1 ?k1
      (case a1 => k_is)
      (case l1 => k_is)
      (case c1 => k_is)
      (case k1 => k_is)
    have g11 : Nonempty (FW.G_is_enough (FW.frOf KX) mg) := by
      delta FW.frOf
      refine' FW.n_is_enough KX G ?a1 ?l1 ?c1 ?k1
      (case a1 => k_is)
      (case l1 => k_is)
      (case c1 => k_is)
      (case k1 => k_is)
    have g12 : Nonempty (FW.G_place_in (FW.frOf KX) mg) := by
      delta FW.frOf
      refine' FW.n_place_in KX G ?a1 ?l1 ?c1 ?k1
      (case a1 => k_is)
      (case l1 => k_is)
      (case c1 => k_is)
      (case k1 => k_is)
    have g13 : Nonempty (FW.G_is_inside (FW.frOf KX) mg) := by
      delta FW.frOf
      refine' FW.n_is_inside KX G ?a1 ?l1 ?c1 ?k1
      (case a1 => k_is)
      (case l1 => k_is)
      (case c1 => k_is)
      (case k1 => k_is)
    have g14 : Nonempty (FW.G_l_number (FW.frOf KX) mg) := by
      delta FW.frOf
      refine' FW.n_l_number KX G ?a1 ?l1 ?c1 ?k1
      (case a1 => k_is)
      (case l1 => k_is)
      (case c1 => k_is)
      (case k1 => k_is)
    have g15 : Nonempty (FW.G_l_take (FW.frOf KX) mg) := by
      delta FW.frOf
      refine' FW.n_l_take KX G ?a1 ?l1 ?c1 ?k1
      (case a1 => k_is)
      (case l1 => k_is)
      (case c1 => k_is)
      (case k1 => k_is)
    have g16 : Nonempty (FW.G_l_pick (FW.frOf KX) mg) := by
      delta FW.frOf
      refine' FW.n_l_pick KX G ?a1 ?l1 ?c1 ?k1
      (case a1 => k_is)
      (case l1 => k_is)
      (case c1 => k_is)
      (case k1 => k_is)
    have g17 : Nonempty (FW.G_l_space (FW.frOf KX) mg) := by
      delta FW.frOf
      refine' FW.n_l_space KX G ?a1 ?l1 ?c1 ?k1
      (case a1 => k_is)
      (case l1 => k_is)
      (case c1 => k_is)
      (case k1 => k_is)
    have g18 : Nonempty (FW.G_l_all (FW.frOf KX) mg) := by
      delta FW.frOf
      refine' FW.n_l_all KX G ?a1 ?l1 ?c1 ?k1
      (case a1 => k_is)
      (case l1 => k_is)
      (case c1 => k_is)
      (case k1 => k_is)
    have g19 : Nonempty (FW.G_l_points (FW.frOf KX) mg) := by
      delta FW.frOf
      refine' FW.n_l_points KX G ?a1 ?l1 ?c1 ?k1
      (case a1 => k_is)
      (case l1 => k_is)
      (case c1 => k_is)
      (case k1 => k_is)
    have g20 : Nonempty (FW.G_l_point (FW.frOf KX) mg) := by
      delta FW.frOf
      refine' FW.n_l_point KX G ?a1 ?l1 ?c1 ?k1
      (case a1 => k_is)
      (case l1 => k_is)
      (case c1 => k_is)
      (case k1 => k_is)
    have g21 : Nonempty (FW.G_l_box (FW.frOf KX) mg) := by
      delta FW.frOf
      refine' FW.n_l_box KX G ?a1 ?l1 ?c1 ?k1
      (case a1 => k_is)
      (case l1 => k_is)
      (case c1 => k_is)
      (case k1 => k_is)
    have g22 : Nonempty (FW.G_l_prefixes (FW.frOf KX) mg) := by
      delta FW.frOf
      refine' FW.n_l_prefixes KX G ?a1 ?l1 ?c1 ?k1
      (case a1 => k_is)
      (case l1 => k_is)
      (case c1 => k_is)
      (case k1 => k_is)
    have g23 : Nonempty (FW.G_law (FW.frOf KX) mg) := by
      delta FW.frOf
      refine' FW.n_law KX G ?a1 ?l1 ?c1 ?k1
      (case a1 => k_is)
      (case l1 => k_is)
      (case c1 => k_is)
      (case k1 => k_is)
    have g24 : Nonempty (FW.G_rest (FW.frOf KX) mg) := by
      delta FW.frOf
      refine' FW.n_rest KX G ?z_abs ?z_all ?z_any ?z_bool ?z_dict ?z_int ?z_isinstance ?z_len ?z_list ?z_max ?z_min ?z_range ?z_sorted ?z_sum ?z_tuple ?z_zip ?m1 ?m2
      (case z_abs => k_is)
      (case z_all => k_is)
      (case z_any => k_is)
      (case z_bool => k_is)
      (case z_dict => k_is)
      (case z_int => k_is)
      (case z_isinstance => k_is)
      (case z_len => k_is)
      (case z_list => k_is)
      (case z_max => k_is)
      (case z_min => k_is)
      (case z_range => k_is)
      (case z_sorted => k_is)
      (case z_sum => k_is)
      (case z_tuple => k_is)
      (case z_zip => k_is)
      (case m1 => k_is)
      (case m2 => k_is)
    exact FW.all_done hmg g1 g2 g3 g4 g5 g6 g7 g8 g9 g10 g11 g12 g13 g14 g15 g16 g17 g18 g19 g20 g21 g22 g23 g24
