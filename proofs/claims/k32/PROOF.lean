import PyProof.Rows.All
import Wide.All
import OpenK.AllK
import Wide.FinOn
import HandS.ForMost
import HandS.Zip
import HandS.IsInst
import HandS.TupMul
import HandS.Wide
import HandS.Gcd
import HandS.Defaults
import PySem.Challenge.RW_soundlooks_k32_whole_quotients_modulo_gu
set_option Elab.async false
set_option linter.all false
set_option maxRecDepth 100000
set_option maxHeartbeats 4000000
namespace K32
/-! The plain law: rests as lists of ints, [] or [r, m]. -/

/-- membership -/
def has : List Int → Int → Bool
  | [r, m], n => decide (m ∣ n - r)
  | _, _ => false
/-- a rest -/
inductive Rest : List Int → Prop
  | nil : Rest []
  | one (r : Int) : Rest [r, 0]
  | many {r m : Int} (h0 : 0 < m) (hd : m ∣ 20160) (h1 : 0 ≤ r) (h2 : r < m) : Rest [r, m]
/-- the numbers of a list are small -/
def Bd (b : Nat) (l : List Int) : Prop := ∀ x, x ∈ l → x.natAbs < 2 ^ b
theorem Bd.mono {b c : Nat} {l : List Int} (h : Bd b l) (hc : b ≤ c) : Bd c l := fun x hx => Nat.lt_of_lt_of_le (h x hx) (Nat.pow_le_pow_right (by decide) hc)
def restBy (n m : Int) : List Int := if m = 0 then [n, 0] else [n % m, m]
def quo : List Int → List Int → List Int
  | [r, m], [s, k] => if s = 0 ∧ k = 0 then [] else if r = 0 ∧ m = 0 then [0, 0] else if k = 0 ∧ s ∣ m then restBy (r.fdiv s) ((m.fdiv s).natAbs : Int) else [0, 1]
  | _, _ => []
def mdl : List Int → List Int → List Int
  | [r, m], [s, k] => if s = 0 ∧ k = 0 then [] else if k = 0 ∧ s ∣ m then [r.fmod s, 0] else restBy r (Int.gcd (Int.gcd m s : Nat) k : Nat)
  | _, _ => []

theorem Rest.two {l : List Int} (h : Rest l) : l = [] ∨ ∃ r m, l = [r, m] ∧ 0 ≤ m ∧ m ∣ 20160 * (if m = 0 then 0 else 1) ∧ (m ≠ 0 → 0 < m ∧ m ∣ 20160 ∧ 0 ≤ r ∧ r < m) := by
  cases h with
  | nil => exact .inl rfl
  | one r => exact .inr ⟨r, 0, rfl, Int.le_refl _, by simp, fun z => absurd rfl z⟩
  | many h0 hd h1 h2 => exact .inr ⟨_, _, rfl, by omega, by rw [if_neg (by omega), Int.mul_one]; exact hd, fun _ => ⟨h0, hd, h1, h2⟩⟩

theorem dvd_sub_mod (n m : Int) : m ∣ n - n % m := Int.dvd_self_sub_emod
theorem dvd_shift {m a b c : Int} (h : m ∣ a - b) : (m ∣ c - a) ↔ (m ∣ c - b) := by
  have e : c - b = (c - a) + (a - b) := by omega
  constructor
  · intro h1
    rw [e]
    exact Int.dvd_add h1 h
  · intro h1
    have e2 : c - a = (c - b) - (a - b) := by omega
    rw [e2]
    exact Int.dvd_sub h1 h
theorem has_restBy (n m x : Int) : has (restBy n m) x = decide (m ∣ x - n) := by
  unfold restBy
  by_cases h : m = 0
  · rw [if_pos h]
    subst h
    rfl
  · rw [if_neg h]
    show decide (m ∣ x - n % m) = _
    rw [decide_eq_decide]
    exact (dvd_shift (dvd_sub_mod n m)).symm
theorem rest_restBy {n m : Int} (h0 : 0 ≤ m) (hd : m ≠ 0 → m ∣ 20160) : Rest (restBy n m) := by
  unfold restBy
  by_cases h : m = 0
  · rw [if_pos h]
    exact .one n
  · rw [if_neg h]
    exact .many (by omega) (hd h) (Int.emod_nonneg _ h) (Int.emod_lt_of_pos _ (by omega))
theorem pos_of_dvd {m : Int} (h : m ∣ 20160) (h0 : 0 ≤ m) : 0 < m ∧ m ≤ 20160 := by
  refine ⟨?_, Int.le_of_dvd (by decide) h⟩
  rcases Int.lt_or_eq_of_le h0 with z | z
  · exact z
  · rw [← z] at h
    obtain ⟨c, hc⟩ := h
    simp at hc
theorem Rest.le {r m : Int} (h : Rest [r, m]) : 0 ≤ m ∧ m ≤ 20160 := by
  cases h with
  | one => exact ⟨Int.le_refl _, by decide⟩
  | many h0 hd h1 h2 => exact ⟨by omega, (pos_of_dvd hd (by omega)).2⟩
theorem Rest.dvd {r m : Int} (h : Rest [r, m]) (hm : m ≠ 0) : m ∣ 20160 := by
  cases h with
  | one => exact absurd rfl hm
  | many h0 hd h1 h2 => exact hd
theorem Rest.lt {r m : Int} (h : Rest [r, m]) (hm : m ≠ 0) : 0 < m ∧ 0 ≤ r ∧ r < m := by
  cases h with
  | one => exact absurd rfl hm
  | many h0 hd h1 h2 => exact ⟨h0, h1, h2⟩
theorem Rest.form {l : List Int} (h : Rest l) : l = [] ∨ ∃ r m, l = [r, m] := by
  cases h with
  | nil => exact .inl rfl
  | one r => exact .inr ⟨_, _, rfl⟩
  | many => exact .inr ⟨_, _, rfl⟩
theorem has_self (r m : Int) : has [r, m] r = true := by
  show decide (m ∣ r - r) = true
  rw [Int.sub_self]
  exact decide_eq_true (Int.dvd_zero m)
theorem has_iff {r m n : Int} : has [r, m] n = true ↔ m ∣ n - r := by
  show decide _ = true ↔ _
  exact decide_eq_true_iff
theorem has_next (r m : Int) : has [r, m] (r + m) = true := has_iff.mpr (by rw [show r + m - r = m by omega]; exact Int.dvd_refl m)

/-! unlike rests hold unlike numbers -/
theorem dvd_of_mod_eq {m r r' : Int} (h : m ∣ r - r') (h1 : 0 ≤ r) (h2 : r < m) (h3 : 0 ≤ r') (h4 : r' < m) : r = r' := by
  have e := Int.emod_emod_of_dvd
  have a := Int.emod_eq_of_lt h1 h2
  have b := Int.emod_eq_of_lt h3 h4
  have c := (Int.emod_emod_of_dvd (r - r') (Int.dvd_refl m))
  rw [← a, ← b]
  exact Int.emod_eq_emod_iff_emod_sub_eq_zero.mpr (Int.emod_eq_zero_of_dvd h)
theorem uniq {l l' : List Int} (h : Rest l) (h' : Rest l') (e : ∀ n, has l n = has l' n) : l = l' := by
  have lone : ∀ {r r' m' : Int}, 0 < m' → (∀ n, has [r, 0] n = has [r', m'] n) → False := fun {r r' m'} h0 e => by
    have a := e r'
    have b := e (r' + m')
    rw [has_self, has_iff] at a
    rw [has_next, has_iff] at b
    obtain ⟨c, hc⟩ := a
    obtain ⟨d, hd⟩ := b
    omega
  cases h with
  | nil =>
    rcases h'.form with z | ⟨r, m, z⟩
    · exact z.symm
    · subst z
      have a := e r
      rw [has_self] at a
      cases a
  | one r =>
    cases h' with
    | nil =>
      have a := e r
      rw [has_self] at a
      cases a
    | one r' =>
      have a := e r'
      rw [has_self, has_iff] at a
      obtain ⟨c, hc⟩ := a
      have q : r = r' := by omega
      rw [q]
    | many h0 hd h1 h2 => exact (lone h0 e).elim
  | @many r m h0 hd h1 h2 =>
    cases h' with
    | nil =>
      have a := e r
      rw [has_self] at a
      cases a
    | one r' => exact (lone h0 fun n => (e n).symm).elim
    | @many r' m' k0 kd k1 k2 =>
      have a1 := e r'
      have a2 := e (r' + m')
      have b1 := e r
      have b2 := e (r + m)
      rw [has_self, has_iff] at a1
      rw [has_next, has_iff] at a2
      rw [has_self] at b1
      rw [has_next] at b2
      have b1' := has_iff.mp b1.symm
      have b2' := has_iff.mp b2.symm
      have d1 : m ∣ m' := by
        have z := Int.dvd_sub a2 a1
        rwa [show r' + m' - r - (r' - r) = m' by omega] at z
      have d2 : m' ∣ m := by
        have z := Int.dvd_sub b2' b1'
        rwa [show r + m - r' - (r - r') = m by omega] at z
      have em : m = m' := Int.le_antisymm (Int.le_of_dvd k0 d1) (Int.le_of_dvd h0 d2)
      subst em
      have er : r' = r := dvd_of_mod_eq a1 k1 k2 h1 h2
      rw [er]

/-! the meet -/
def IsMeet (l1 l2 l : List Int) : Prop := Rest l ∧ ∀ n, has l n = (has l1 n && has l2 n)
theorem IsMeet.uniq {l1 l2 l l' : List Int} (h : IsMeet l1 l2 l) (h' : IsMeet l1 l2 l') : l = l' := K32.uniq h.1 h'.1 fun n => (h.2 n).trans (h'.2 n).symm
theorem IsMeet.symm {l1 l2 l : List Int} (h : IsMeet l1 l2 l) : IsMeet l2 l1 l := ⟨h.1, fun n => (h.2 n).trans (Bool.and_comm _ _)⟩
theorem has_nil (n : Int) : has [] n = false := rfl
theorem meet_nil_left (l : List Int) : IsMeet [] l [] := ⟨.nil, fun n => by rw [has_nil, Bool.false_and]⟩
theorem meet_nil_right (l : List Int) : IsMeet l [] [] := (meet_nil_left l).symm
theorem has_one {r n : Int} : has [r, 0] n = true ↔ n = r := by
  rw [has_iff]
  constructor
  · rintro ⟨c, hc⟩
    omega
  · intro h
    rw [h, Int.sub_self]
    exact Int.dvd_refl 0
theorem meet_one {r : Int} {l : List Int} (h : has l r = true) : IsMeet [r, 0] l [r, 0] := ⟨.one r, fun n => by
  cases e : has [r, 0] n with
  | false => rfl
  | true =>
    rw [has_one.mp e, h]
    rfl⟩
theorem meet_one_no {r : Int} {l : List Int} (h : has l r = false) : IsMeet [r, 0] l [] := ⟨.nil, fun n => by
  rw [has_nil]
  cases e : has [r, 0] n with
  | false => rfl
  | true =>
    rw [has_one.mp e, h]
    rfl⟩
theorem meet_gcd_no {r m s k : Int} (h : ¬ ((Int.gcd m k : Nat) : Int) ∣ r - s) : IsMeet [r, m] [s, k] [] := ⟨.nil, fun n => by
  rw [has_nil]
  cases e : has [r, m] n with
  | false => rfl
  | true =>
    cases f : has [s, k] n with
    | false => rfl
    | true =>
      refine absurd ?_ h
      have a := Int.dvd_trans (Int.gcd_dvd_left m k) (has_iff.mp e)
      have b := Int.dvd_trans (Int.gcd_dvd_right m k) (has_iff.mp f)
      have c := Int.dvd_sub b a
      rwa [show n - s - (n - r) = r - s by omega] at c⟩
theorem lcm_dvd_iff {m k x : Int} : ((Int.lcm m k : Nat) : Int) ∣ x ↔ m ∣ x ∧ k ∣ x := by
  constructor
  · intro h
    exact ⟨Int.dvd_trans (Int.dvd_lcm_left m k) h, Int.dvd_trans (Int.dvd_lcm_right m k) h⟩
  · rintro ⟨h1, h2⟩
    exact Int.coe_lcm_dvd h1 h2
theorem lcm_pos {m k : Int} (h1 : 0 < m) (h2 : 0 < k) : (0 : Int) < (Int.lcm m k : Nat) := by
  have : Int.lcm m k ≠ 0 := Int.lcm_ne_zero (by omega) (by omega)
  omega
theorem meet_lcm {r m s k n : Int} (h1 : Rest [r, m]) (h2 : Rest [s, k]) (hm : m ≠ 0) (hk : k ≠ 0) (a : has [r, m] n = true) (b : has [s, k] n = true) : IsMeet [r, m] [s, k] (restBy n (Int.lcm m k : Nat)) := by
  refine ⟨rest_restBy (Int.natCast_nonneg _) fun _ => lcm_dvd_iff.mpr ⟨h1.dvd hm, h2.dvd hk⟩, fun x => ?_⟩
  rw [has_restBy, Bool.eq_iff_iff, Bool.and_eq_true, has_iff, has_iff, decide_eq_true_iff, lcm_dvd_iff]
  have a' := has_iff.mp a
  have b' := has_iff.mp b
  rw [dvd_shift a', dvd_shift b']

/-! two rests by numbers above 0 have a number in common -/
theorem bez_nat (a b : Nat) : ∃ u v : Int, (a : Int) * u + (b : Int) * v = (Nat.gcd a b : Nat) := by
  induction a, b using Nat.gcd.induction with
  | H0 n => exact ⟨0, 1, by rw [Nat.gcd_zero_left]; omega⟩
  | H1 m n hm ih =>
    obtain ⟨u, v, e⟩ := ih
    refine ⟨v - (n / m : Nat) * u, u, ?_⟩
    rw [Nat.gcd_rec, ← e]
    have d : (n : Int) = m * (n / m : Nat) + (n % m : Nat) := by
      have := Nat.div_add_mod n m
      exact_mod_cast this.symm
    rw [Int.mul_sub]
    have x1 : (n : Int) * u = m * (n / m : Nat) * u + (n % m : Nat) * u := by
      rw [← Int.add_mul, ← d]
    rw [x1, Int.mul_assoc]
    omega
theorem bez (m k : Int) (hm : 0 ≤ m) (hk : 0 ≤ k) : ∃ u v : Int, m * u + k * v = (Int.gcd m k : Nat) := by
  obtain ⟨u, v, e⟩ := bez_nat m.natAbs k.natAbs
  refine ⟨u, v, ?_⟩
  rw [Int.natAbs_of_nonneg hm, Int.natAbs_of_nonneg hk] at e
  exact e
theorem reach {r m s k : Int} (hm : 0 < m) (hk : 0 < k) (h : ((Int.gcd m k : Nat) : Int) ∣ r - s) : ∃ i : Nat, has [s, k] (r + m * i) = true := by
  obtain ⟨u, v, e⟩ := bez m k (by omega) (by omega)
  obtain ⟨t, ht⟩ := h
  have hn : 0 ≤ (-(u * t)) % k := Int.emod_nonneg _ (by omega)
  refine ⟨((-(u * t)) % k).toNat, has_iff.mpr ?_⟩
  rw [Int.toNat_of_nonneg hn]
  have d : k ∣ (-(u * t)) - (-(u * t)) % k := dvd_sub_mod _ _
  obtain ⟨c, hc⟩ := d
  have e1 : (-(u * t)) % k = -(u * t) - k * c := by omega
  rw [e1]
  -- r + m * (- u t - k c) - s = (r - s) - m u t - m k c
  have e2 : r + m * (-(u * t) - k * c) - s = (r - s) - m * u * t - k * (m * c) := by
    rw [Int.mul_sub, Int.mul_neg, ← Int.mul_assoc, ← Int.mul_assoc, ← Int.mul_assoc, Int.mul_comm m k]
    omega
  rw [e2, ht, ← e, Int.add_mul]
  refine ⟨v * t - m * c, ?_⟩
  rw [Int.mul_sub, ← Int.mul_assoc k v t]
  omega

/-! quotients and what is left -/
theorem fmod_zero_iff {n m : Int} : n.fmod m = 0 ↔ m ∣ n := Int.dvd_iff_fmod_eq_zero.symm
theorem natAbs_fdiv_dvd {m s : Int} (h : s ∣ m) (hm : m ∣ 20160) : ((m.fdiv s).natAbs : Int) ∣ 20160 := by
  rw [Int.natAbs_dvd]
  obtain ⟨c, rfl⟩ := h
  by_cases hs : s = 0
  · subst hs
    rw [Int.zero_mul] at hm ⊢
    rw [Int.zero_fdiv]
    exact hm
  · rw [Int.mul_fdiv_cancel_left _ hs]
    exact Int.dvd_trans (Int.dvd_mul_left s c) hm
theorem rest_quo {l1 l2 : List Int} (h1 : Rest l1) (h2 : Rest l2) : Rest (quo l1 l2) := by
  rcases h1.form with z | ⟨r, m, z⟩
  · subst z
    exact .nil
  · subst z
    rcases h2.form with z | ⟨s, k, z⟩
    · subst z
      exact .nil
    · subst z
      show Rest (if _ then _ else _)
      by_cases c1 : s = 0 ∧ k = 0
      · rw [if_pos c1]
        exact .nil
      · rw [if_neg c1]
        by_cases c2 : r = 0 ∧ m = 0
        · rw [if_pos c2]
          exact .one 0
        · rw [if_neg c2]
          by_cases c3 : k = 0 ∧ s ∣ m
          · rw [if_pos c3]
            refine rest_restBy (Int.natCast_nonneg _) fun _ => ?_
            by_cases hm : m = 0
            · rename_i hz
              rw [hm, Int.zero_fdiv] at hz
              exact absurd rfl hz
            · exact natAbs_fdiv_dvd c3.2 (h1.dvd hm)
          · rw [if_neg c3]
            exact .many (by decide) (by decide) (by decide) (by decide)
theorem gcd3_ne {m s k : Int} (h : ¬ (s = 0 ∧ k = 0)) : ((Int.gcd (Int.gcd m s : Nat) k : Nat) : Int) ≠ 0 := by
  intro z
  have z1 : Int.gcd (Int.gcd m s : Nat) k = 0 := by omega
  obtain ⟨a, b⟩ := Int.gcd_eq_zero_iff.mp z1
  have a1 : Int.gcd m s = 0 := by omega
  exact h ⟨(Int.gcd_eq_zero_iff.mp a1).2, b⟩
theorem gcd3_dvd (m s k : Int) : ((Int.gcd (Int.gcd m s : Nat) k : Nat) : Int) ∣ m ∧ ((Int.gcd (Int.gcd m s : Nat) k : Nat) : Int) ∣ s ∧ ((Int.gcd (Int.gcd m s : Nat) k : Nat) : Int) ∣ k :=
  ⟨Int.dvd_trans (Int.gcd_dvd_left _ _) (Int.gcd_dvd_left _ _), Int.dvd_trans (Int.gcd_dvd_left _ _) (Int.gcd_dvd_right _ _), Int.gcd_dvd_right _ _⟩
theorem rest_mdl {l1 l2 : List Int} (h1 : Rest l1) (h2 : Rest l2) : Rest (mdl l1 l2) := by
  rcases h1.form with z | ⟨r, m, z⟩
  · subst z
    exact .nil
  · subst z
    rcases h2.form with z | ⟨s, k, z⟩
    · subst z
      exact .nil
    · subst z
      show Rest (if _ then _ else _)
      by_cases c1 : s = 0 ∧ k = 0
      · rw [if_pos c1]
        exact .nil
      · rw [if_neg c1]
        by_cases c3 : k = 0 ∧ s ∣ m
        · rw [if_pos c3]
          exact .one _
        · rw [if_neg c3]
          refine rest_restBy (Int.natCast_nonneg _) fun _ => ?_
          by_cases hm : m = 0
          · subst hm
            by_cases hk : k = 0
            · exact absurd ⟨hk, Int.dvd_zero s⟩ c3
            · exact Int.dvd_trans (gcd3_dvd 0 s k).2.2 (h2.dvd hk)
          · exact Int.dvd_trans (gcd3_dvd m s k).1 (h1.dvd hm)
theorem has_quo {l1 l2 : List Int} {x y : Int} (h1 : Rest l1) (h2 : Rest l2) (a : has l1 x = true) (b : has l2 y = true) (hy : y ≠ 0) : has (quo l1 l2) (x.fdiv y) = true := by
  rcases h1.form with z | ⟨r, m, z⟩
  · subst z
    cases a
  · subst z
    rcases h2.form with z | ⟨s, k, z⟩
    · subst z
      cases b
    · subst z
      show has (if _ then _ else _) _ = true
      by_cases c1 : s = 0 ∧ k = 0
      · obtain ⟨rfl, rfl⟩ := c1
        exact absurd (has_one.mp b) hy
      · rw [if_neg c1]
        by_cases c2 : r = 0 ∧ m = 0
        · obtain ⟨rfl, rfl⟩ := c2
          rw [if_pos ⟨rfl, rfl⟩]
          rw [has_one.mp a, Int.zero_fdiv]
          exact has_self 0 0
        · rw [if_neg c2]
          by_cases c3 : k = 0 ∧ s ∣ m
          · rw [if_pos c3]
            obtain ⟨rfl, c, rfl⟩ := c3
            rw [has_one.mp b] at hy ⊢
            obtain ⟨t, ht⟩ := has_iff.mp a
            rw [has_restBy, Int.mul_fdiv_cancel_left _ hy]
            refine decide_eq_true (Int.natAbs_dvd.mpr ?_)
            have e : x = r + s * (c * t) := by
              rw [← Int.mul_assoc]
              omega
            rw [e, Int.add_mul_fdiv_left _ _ hy]
            rw [show r.fdiv s + c * t - r.fdiv s = c * t by omega]
            exact Int.dvd_mul_right _ _
          · rw [if_neg c3]
            exact has_iff.mpr (Int.one_dvd _)
theorem fmod_mul {x y c : Int} : (x + y * c).fmod y = x.fmod y := by
  by_cases hy : y = 0
  · subst hy
    rw [Int.zero_mul, Int.add_zero]
  · rw [Int.fmod_def, Int.fmod_def, Int.add_mul_fdiv_left _ _ hy, Int.mul_add]
    omega
theorem has_mdl {l1 l2 : List Int} {x y : Int} (h1 : Rest l1) (h2 : Rest l2) (a : has l1 x = true) (b : has l2 y = true) (hy : y ≠ 0) : has (mdl l1 l2) (x.fmod y) = true := by
  rcases h1.form with z | ⟨r, m, z⟩
  · subst z
    cases a
  · subst z
    rcases h2.form with z | ⟨s, k, z⟩
    · subst z
      cases b
    · subst z
      show has (if _ then _ else _) _ = true
      by_cases c1 : s = 0 ∧ k = 0
      · obtain ⟨rfl, rfl⟩ := c1
        exact absurd (has_one.mp b) hy
      · rw [if_neg c1]
        by_cases c3 : k = 0 ∧ s ∣ m
        · rw [if_pos c3]
          obtain ⟨rfl, c, rfl⟩ := c3
          rw [has_one.mp b] at hy ⊢
          obtain ⟨t, ht⟩ := has_iff.mp a
          have e : x = r + s * (c * t) := by
            rw [← Int.mul_assoc]
            omega
          rw [e, fmod_mul]
          exact has_self _ _
        · rw [if_neg c3, has_restBy]
          obtain ⟨d1, d2, d3⟩ := gcd3_dvd m s k
          generalize ((Int.gcd (Int.gcd m s : Nat) k : Nat) : Int) = g at d1 d2 d3
          refine decide_eq_true ?_
          have e1 : g ∣ x - r := Int.dvd_trans d1 (has_iff.mp a)
          have e2 : g ∣ y := by
            have z := Int.dvd_add (Int.dvd_trans d3 (has_iff.mp b)) d2
            rwa [show y - s + s = y by omega] at z
          have e3 : g ∣ x - x.fmod y := Int.dvd_trans e2 Int.dvd_self_sub_fmod
          have z := Int.dvd_sub e1 e3
          rwa [show x - r - (x - x.fmod y) = x.fmod y - r by omega] at z
/-! the law's least rest of two numbers -/
def least2 (x y : Int) : List Int := if y - x = 0 then [x, 0] else restBy x (Int.gcd (y - x) 20160 : Nat)
theorem least2_quo {r m s : Int} (hs : s ≠ 0) (hd : s ∣ m) (hm : m = 0 ∨ m ∣ 20160) : least2 (r.fdiv s) ((r + m).fdiv s) = restBy (r.fdiv s) ((m.fdiv s).natAbs : Int) := by
  obtain ⟨c, rfl⟩ := hd
  rw [Int.add_mul_fdiv_left _ _ hs, Int.mul_fdiv_cancel_left _ hs]
  unfold least2
  rw [show r.fdiv s + c - r.fdiv s = c by omega]
  by_cases hc : c = 0
  · subst hc
    rfl
  · rw [if_neg hc]
    have hz : s * c ≠ 0 := Int.mul_ne_zero hs hc
    have hcd : c ∣ 20160 := Int.dvd_trans (Int.dvd_mul_left s c) (hm.resolve_left hz)
    rw [Int.gcd_eq_natAbs_left hcd]
/-! the law's lots -/
theorem lcm_turns {m k : Int} (hm : 0 < m) (hk : 0 < k) : k * (m / (Int.gcd m k : Nat)) = (Int.lcm m k : Nat) := by
  have e := Int.gcd_mul_lcm m k
  have e' : ((Int.gcd m k : Nat) : Int) * (Int.lcm m k : Nat) = m * k := by
    have z : ((Int.gcd m k * Int.lcm m k : Nat) : Int) = ((m.natAbs * k.natAbs : Nat) : Int) := congrArg _ e
    rw [Int.natCast_mul, Int.natCast_mul, Int.natAbs_of_nonneg (by omega), Int.natAbs_of_nonneg (by omega)] at z
    exact z
  have g0 : ((Int.gcd m k : Nat) : Int) ≠ 0 := by
    intro z
    have z1 : Int.gcd m k = 0 := by omega
    have := (Int.gcd_eq_zero_iff.mp z1).1
    omega
  obtain ⟨c, hc⟩ := Int.gcd_dvd_left m k
  have hc' : m / (Int.gcd m k : Nat) = c := by
    conv => lhs; lhs; rw [hc]
    exact Int.mul_ediv_cancel_left _ g0
  rw [hc']
  apply Int.eq_of_mul_eq_mul_left g0
  rw [e']
  conv => rhs; lhs; rw [hc]
  rw [Int.mul_comm k c, Int.mul_assoc]
def lots (l : List Int) (s k : Int) (n : Nat) : List Int := ((List.range n).map fun i : Nat => s + (i : Int) * k).filter fun x => has l x
theorem mem_lots {l : List Int} {s k x : Int} {n : Nat} : x ∈ lots l s k n ↔ (∃ i : Nat, i < n ∧ x = s + (i : Int) * k) ∧ has l x = true := by
  unfold lots
  rw [List.mem_filter, List.mem_map]
  constructor
  · rintro ⟨⟨i, hi, e⟩, h⟩
    exact ⟨⟨i, List.mem_range.mp hi, e.symm⟩, h⟩
  · rintro ⟨⟨i, hi, e⟩, h⟩
    exact ⟨⟨i, List.mem_range.mpr hi, e.symm⟩, h⟩
theorem lots_none {r m s k : Int} (h1 : Rest [r, m]) (h2 : Rest [s, k]) (hm : m ≠ 0) (hk : k ≠ 0) (h : lots [r, m] s k (m / (Int.gcd m k : Nat)).toNat = []) : IsMeet [r, m] [s, k] [] := by
  refine ⟨.nil, fun n => ?_⟩
  rw [has_nil]
  cases e : has [r, m] n with
  | false => rfl
  | true =>
    cases f : has [s, k] n with
    | false => rfl
    | true =>
      exfalso
      obtain ⟨m0, m1, m2⟩ := h1.lt hm
      obtain ⟨k0, k1, k2⟩ := h2.lt hk
      have L := lcm_pos m0 k0
      have T := lcm_turns m0 k0
      have z0 := Int.emod_nonneg n (show ((Int.lcm m k : Nat) : Int) ≠ 0 by omega)
      have z1 := Int.emod_lt_of_pos n L
      have d := dvd_sub_mod n (Int.lcm m k : Nat)
      obtain ⟨d1, d2⟩ := lcm_dvd_iff.mp d
      generalize n % (Int.lcm m k : Nat) = p at z0 z1 d1 d2
      have p1 : m ∣ p - r := by
        have z := Int.dvd_sub (has_iff.mp e) d1
        rwa [show n - r - (n - p) = p - r by omega] at z
      have p2 : k ∣ p - s := by
        have z := Int.dvd_sub (has_iff.mp f) d2
        rwa [show n - s - (n - p) = p - s by omega] at z
      obtain ⟨i, hi⟩ := p2
      have i0 : 0 ≤ i := by
        rcases Int.lt_or_le i 0 with z | z
        · have : k * i ≤ k * (-1) := Int.mul_le_mul_of_nonneg_left (by omega) (by omega)
          omega
        · exact z
      have i1 : i < m / (Int.gcd m k : Nat) := by
        rcases Int.lt_or_le i (m / (Int.gcd m k : Nat)) with z | z
        · exact z
        · have : k * (m / (Int.gcd m k : Nat)) ≤ k * i := Int.mul_le_mul_of_nonneg_left z (by omega)
          omega
      have M : p ∈ lots [r, m] s k (m / (Int.gcd m k : Nat)).toNat := mem_lots.mpr ⟨⟨i.toNat, by omega, by rw [Int.toNat_of_nonneg i0, Int.mul_comm]; omega⟩, has_iff.mpr p1⟩
      rw [h] at M
      cases M
theorem lots_some {r m s k x : Int} {xs : List Int} (h1 : Rest [r, m]) (h2 : Rest [s, k]) (hm : m ≠ 0) (hk : k ≠ 0) (h : lots [r, m] s k (m / (Int.gcd m k : Nat)).toNat = x :: xs) : IsMeet [r, m] [s, k] [x, k * (m / (Int.gcd m k : Nat))] := by
  obtain ⟨m0, m1, m2⟩ := h1.lt hm
  obtain ⟨k0, k1, k2⟩ := h2.lt hk
  have L := lcm_pos m0 k0
  have T := lcm_turns m0 k0
  obtain ⟨⟨i, hi, e⟩, hx⟩ := mem_lots.mp (show x ∈ lots [r, m] s k (m / (Int.gcd m k : Nat)).toNat by rw [h]; exact List.mem_cons_self)
  have g0 : 0 ≤ m / (Int.gcd m k : Nat) := Int.ediv_nonneg (by omega) (Int.natCast_nonneg _)
  have hi' : (i : Int) + 1 ≤ m / (Int.gcd m k : Nat) := by omega
  have x0 : 0 ≤ (i : Int) * k := Int.mul_nonneg (by omega) (by omega)
  have x1 : x < (Int.lcm m k : Nat) := by
    have : k * ((i : Int) + 1) ≤ k * (m / (Int.gcd m k : Nat)) := Int.mul_le_mul_of_nonneg_left hi' (by omega)
    rw [Int.mul_add, Int.mul_one, Int.mul_comm] at this
    omega
  have hs : has [s, k] x = true := has_iff.mpr ⟨i, by rw [e, Int.mul_comm]; omega⟩
  have M := meet_lcm h1 h2 hm hk hx hs
  unfold restBy at M
  rw [if_neg (by omega), Int.emod_eq_of_lt (by omega) x1] at M
  rw [T]
  exact M
theorem part_ok : ∀ a ∈ ([1, 1, 2, 2, 4, 4, 8, 16, 32, 64] : List Int), ∀ b ∈ ([1, 1, 3, 9] : List Int), ∀ c ∈ ([1, 1, 1, 5] : List Int), ∀ d ∈ ([1, 1, 1, 7] : List Int), 0 < a * b * c * d ∧ a * b * c * d ∣ 20160 := by decide +kernel
end K32

/-! own rules over the layer: gcd of three, lcm, // by any divisor, == of tuples of ints, a call by keywords alone; heaps. -/
namespace K32
open PySem PySem.Spec PyProof.Rows L2

/-! ### gcd, lcm -/
theorem args_gcd3 (a b c : Value) : argsOk "math.gcd" ⟨[a, b, c], []⟩ := by unfold argsOk; kernel_rfl
theorem run_gcd3 (a : Int) (t : Tok) (b : Int) (u : Tok) (c : Int) (v : Tok) :
    Gives (Builtin.«math.gcd» ⟨[.int a t, .int b u, .int c v], []⟩) (.int (((((Nat.gcd 0 a.natAbs).gcd b.natAbs).gcd c.natAbs : Nat) : Int))) :=
  .of_wp fun M A E s Q h => by obtain ⟨hp, g, d, tk, os⟩ := s; wp_walk; exact ⟨_, rfl, h⟩
theorem mg_gcd3 {prog : Program} {w : World} {A : Around} {E : Value → Shared → Prop} {s : Shared} {Q : Value → Shared → Prop} {a b c : Int} {t u v : Tok}
    (h : Q (.int ((Int.gcd (Int.gcd a b : Nat) c : Nat) : Int) s.toks) { s with toks := s.toks + 1 }) :
    wpAny (model prog w) A (call (.builtin "math.gcd") [.int a t, .int b u, .int c v]) Q E s := by
  have g := run_gcd3 a t b u c v
  rw [Nat.gcd_zero_left] at g
  exact PySem.call_function_meets PySem.W.MGF.kind_gcd PySem.W.MGF.plain_gcd PySem.W.MGF.entry_gcd (args_gcd3 _ _ _) g.meets h
section
variable {X : Cx}
theorem vals3 {x y z : V} {us : List Value} (r : Vals [x, y, z] us) : ∃ u v w, us = [u, v, w] ∧ RelV x u ∧ RelV y v ∧ RelV z w := by
  cases r with
  | cons r1 r2 =>
    cases r2 with
    | cons r3 r4 =>
      cases r4 with
      | cons r5 r6 => cases r6; exact ⟨_, _, _, rfl, r1, r3, r5⟩
def rGcd2 : List V → Hp → VK → Prop := fun vs H Q => ∃ a b : Int, vs = [.int a, .int b] ∧ Q (.int ((Int.gcd a b : Nat) : Int)) H
theorem cr_gcd2 : CallR X (.builtin "math.gcd") rGcd2 := by
  intro pins s σ H vs us Q I r h
  obtain ⟨a, b, rfl, q⟩ := h
  exact cr_gcd pins s σ H _ us Q I r ⟨a, b, rfl, q⟩
def rGcd3 : List V → Hp → VK → Prop := fun vs H Q => ∃ a b c : Int, vs = [.int a, .int b, .int c] ∧ Q (.int ((Int.gcd (Int.gcd a b : Nat) c : Nat) : Int)) H
theorem cr_gcd3 : CallR X (.builtin "math.gcd") rGcd3 := by
  intro pins s σ H vs us Q I r h
  obtain ⟨a, b, c, rfl, q⟩ := h
  obtain ⟨_, _, _, rfl, ⟨t, rfl⟩, ⟨u, rfl⟩, ⟨v, rfl⟩⟩ := vals3 r
  exact mg_gcd3 ⟨.int _, H, I.tok _, ⟨_, rfl⟩, q⟩
def rLcm : List V → Hp → VK → Prop := fun vs H Q => ∃ a b : Int, vs = [.int a, .int b] ∧ a.natAbs ≤ 20160 ∧ b.natAbs ≤ 20160 ∧ Q (.int ((Int.lcm a b : Nat) : Int)) H
theorem lcm_le {a b : Int} (ha : a.natAbs ≤ 20160) (hb : b.natAbs ≤ 20160) : Int.lcm a b ≤ 406425600 := by
  by_cases h : a.natAbs = 0 ∨ b.natAbs = 0
  · have e : Int.lcm a b = 0 := by
      rcases h with h | h
      · rw [show a = 0 by omega, Int.zero_lcm]
      · rw [show b = 0 by omega, Int.lcm_zero]
    omega
  · have e := Int.lcm_le_natAbs_mul (a := a) (b := b) (by omega) (by omega)
    have e2 : a.natAbs * b.natAbs ≤ 20160 * 20160 := Nat.mul_le_mul ha hb
    omega
theorem cr_lcm : CallR X (.builtin "math.lcm") rLcm := by
  intro pins s σ H vs us Q I r h
  obtain ⟨a, b, rfl, ha, hb, q⟩ := h
  obtain ⟨t, u, rfl⟩ := Vals.int2 r
  have e : (((Nat.lcm 1 a.natAbs).lcm b.natAbs : Nat) : Int) = ((Int.lcm a b : Nat) : Int) := by
    rw [Nat.lcm_one_left]
    rfl
  have hl := lcm_le ha hb
  refine PySem.W.mg_lcm_v (by omega) (by omega) e ?_ ⟨.int _, H, I.tok _, ⟨_, rfl⟩, q⟩
  rw [Int.natAbs_natCast]
  have z : (Int.lcm a b).log2 ≤ 63 := PySem.W.mg_log (Nat.lt_of_le_of_lt hl (by decide))
  exact Nat.lt_of_le_of_lt z (by decide)
/-! ### // by a divisor of either sign -/
def CDivS (_ j : Int) : Prop := j ≠ 0 ∧ j.natAbs < 2 ^ 300
theorem op_fdivS : OpR X (binaryOp .FloorDiv) (rI CDivS fun i j => .int (i.fdiv j)) := opI fun _ _ _ _ _ _ _ hc q =>
  floordiv_int hc.1 q (.inl (PyProof.noPylong_of_log2 (Nat.lt_trans (PySem.Flt.log2_lt_of (by decide) hc.2) (by decide))))
/-! ### == of tuples of ints, of lists of ints -/
theorem eqvAll_ints : ∀ l l' : List Int, PyData.eqvAll (l.map PyData.int) (l'.map PyData.int) = decide (l = l')
  | [], [] => rfl
  | [], _ :: _ => rfl
  | _ :: _, [] => rfl
  | x :: l, y :: l' => by
    show (PyData.eqv (.int x) (.int y) && PyData.eqvAll (l.map PyData.int) (l'.map PyData.int)) = _
    rw [eqvAll_ints l l']
    show ((x == y) && decide (l = l')) = _
    rw [Bool.eq_iff_iff]
    simp
theorem eqv_tup (l l' : List Int) : PyData.eqv (.tuple (l.map PyData.int)) (.tuple (l'.map PyData.int)) = decide (l = l') := by
  unfold PyData.eqv
  exact eqvAll_ints l l'
theorem eqv_lst (l l' : List Int) : PyData.eqv (.list (l.map PyData.int)) (.list (l'.map PyData.int)) = decide (l = l') := by
  unfold PyData.eqv
  exact eqvAll_ints l l'
theorem lay_ints : ∀ l : List Int, PyData.canLayAll0 (l.map PyData.int) = true
  | [] => rfl
  | x :: l => by
    have ih := lay_ints l
    show (PyData.canLay0 (.int x) && PyData.canLayAll0 (l.map PyData.int)) = true
    rw [ih]
    rfl
theorem depth_ints : ∀ l : List Int, PyData.depthAll (l.map PyData.int) ≤ 1
  | [] => by simp [PyData.depthAll]
  | x :: l => by
    have ih := depth_ints l
    show max (PyData.depth (.int x)) (PyData.depthAll (l.map PyData.int)) ≤ 1
    have e : PyData.depth (.int x) ≤ 1 := by simp [PyData.depth]
    omega
theorem shaped_tup (l : List Int) : SeqAt.shaped (.tuple (l.map PyData.int)) = true := by
  unfold SeqAt.shaped
  have h := depth_ints l
  have e : PyData.canLay0 (.tuple (l.map PyData.int)) = true := by
    unfold PyData.canLay0
    exact lay_ints l
  rw [e, Bool.true_and]
  refine decide_eq_true ?_
  unfold PyData.depth
  omega
theorem shaped_lst (l : List Int) : SeqAt.shaped (.list (l.map PyData.int)) = true := by
  unfold SeqAt.shaped
  have h := depth_ints l
  have e : PyData.canLay0 (.list (l.map PyData.int)) = true := by
    unfold PyData.canLay0
    exact lay_ints l
  rw [e, Bool.true_and]
  refine decide_eq_true ?_
  unfold PyData.depth
  omega
theorem dpAll_ints {K : PySem.W.Frag} {H : Hp} : ∀ l : List Int, DpAll K H (l.map V.int) (l.map PyData.int)
  | [] => .nil
  | x :: l => .cons (.int x) (dpAll_ints l)
def rEqT (K : PySem.W.Frag) : R2 := fun x y H Q => ∃ (a b : Addr) (l l' : List Int), x = .ref a ∧ y = .ref b ∧ SqT K H a (l.map V.int) ∧ SqT K H b (l'.map V.int) ∧ Q (.bl (decide (l = l'))) H
def rNeT (K : PySem.W.Frag) : R2 := fun x y H Q => ∃ (a b : Addr) (l l' : List Int), x = .ref a ∧ y = .ref b ∧ SqT K H a (l.map V.int) ∧ SqT K H b (l'.map V.int) ∧ Q (.bl (!decide (l = l'))) H
def rEqLs (K : PySem.W.Frag) : R2 := fun x y H Q => ∃ (a b : Addr) (l l' : List Int), x = .ref a ∧ y = .ref b ∧ SqL K H a (l.map V.int) ∧ SqL K H b (l'.map V.int) ∧ Q (.bl (decide (l = l'))) H
def rNeLs (K : PySem.W.Frag) : R2 := fun x y H Q => ∃ (a b : Addr) (l l' : List Int), x = .ref a ∧ y = .ref b ∧ SqL K H a (l.map V.int) ∧ SqL K H b (l'.map V.int) ∧ Q (.bl (!decide (l = l'))) H
theorem op_eqT (hu : X.A.units + 64 < cLine) : OpR X (compareOp .Eq) (rEqT X.K) := by
  intro pins s σ H x y v u Q I rx ry h
  obtain ⟨a, b, l, l', rfl, rfl, ha, hb, q⟩ := h
  exact op_eqD hu pins s σ H _ _ v u Q I rx ry ⟨_, _, .tup ha (dpAll_ints l), .tup hb (dpAll_ints l'), shaped_tup l, shaped_tup l', by rw [eqv_tup]; exact q⟩
theorem op_neT (hu : X.A.units + 64 < cLine) : OpR X (compareOp .NotEq) (rNeT X.K) := by
  intro pins s σ H x y v u Q I rx ry h
  obtain ⟨a, b, l, l', rfl, rfl, ha, hb, q⟩ := h
  exact op_neD hu pins s σ H _ _ v u Q I rx ry ⟨_, _, .tup ha (dpAll_ints l), .tup hb (dpAll_ints l'), shaped_tup l, shaped_tup l', by rw [eqv_tup]; exact q⟩
theorem op_eqLs (hu : X.A.units + 64 < cLine) : OpR X (compareOp .Eq) (rEqLs X.K) := by
  intro pins s σ H x y v u Q I rx ry h
  obtain ⟨a, b, l, l', rfl, rfl, ha, hb, q⟩ := h
  exact op_eqD hu pins s σ H _ _ v u Q I rx ry ⟨_, _, .lst ha (dpAll_ints l), .lst hb (dpAll_ints l'), shaped_lst l, shaped_lst l', by rw [eqv_lst]; exact q⟩
theorem op_neLs (hu : X.A.units + 64 < cLine) : OpR X (compareOp .NotEq) (rNeLs X.K) := by
  intro pins s σ H x y v u Q I rx ry h
  obtain ⟨a, b, l, l', rfl, rfl, ha, hb, q⟩ := h
  exact op_neD hu pins s σ H _ _ v u Q I rx ry ⟨_, _, .lst ha (dpAll_ints l), .lst hb (dpAll_ints l'), shaped_lst l, shaped_lst l', by rw [eqv_lst]; exact q⟩
end
/-! ### a call by keywords alone -/
section
variable {X : Cx} {CX : CXT} {k : Nat} {f : Addr} {fd : FuncData} {ps ks : List Str} {sp : Sp} {E : XK} {x : Str} {p pos : Pos} {kws : List Keyword} {tk : TA} {g : List Value → List Value → List Value} {gV : List V → List V → List V}
theorem pe_callN0 (F : FnOk X.prog X.w X.K X.mg X.base CX k f fd ps sp) (hr : Room k X.A) (hg : Gl X x) (hm : X.mg x = some (.ref f)) (hk : PySem.W.keepIn X.K (.ref f) = true) (hb : KBn X.K fd ps 0 ks g gV) (hx : Passes CX X E)
    (hkw : PK X kws tk) (hall : (backToKw pos (keywordEach kws X.env)).all (·.1.isSome) = true := by rfl) (hks : (backToKw pos (keywordEach kws X.env)).filterMap (·.1) = ks := by rfl)
    (hdb : (x == ("__debug__" : Str)) = false := by decide)
    (hpl : ((backTo pos (starEach [] X.env)).any (·.1) || (backToKw pos (keywordEach kws X.env)).any (·.1.isNone)) = false := by rfl) :
    PE X (.Call (.Name x p) [] kws pos) (tCallN 0 ks.length sp gV E tNil tk) := by
  refine ⟨fun pins s σ H Q I h => ?_⟩
  refine wpAny_Call_Name_kw (ld_glob I hg hm ?_ hdb)
  refine PySem.W.callWith_KW0 (h₀ := X.base) I.ok.mod.kin hk hall ?_ hpl
  refine thn (hkw.run pos pins s σ H _ I h) fun ws s2 ⟨zs, H2, I2, rz, l1, l2, q2⟩ => ⟨I2.kIn, ?_⟩
  rw [hks]
  exact run_fnN (us := []) (vs := []) F hr hb hx I2 .nil rz rfl l2 q2
end
/-! ### heaps -/
theorem same_upd {H : Hp} {p : Addr} {o : HO} (h : H p = none) : Same H (upd H p o) := fun b x e => by
  rw [upd_ne (ne_of_none e h)]
  exact e
theorem Same.sqt {K : PySem.W.Frag} {H H' : Hp} {a : Addr} {xs : List V} (e : Same H H') (h : SqT K H a xs) : SqT K H' a xs := by
  rcases h with (h | ⟨o, h⟩) | h
  · exact .inl (.inl (e _ _ h))
  · exact .inl (.inr ⟨o, e _ _ h⟩)
  · exact .inr h
/-- all but what stands at a is as it was -/
def SB (a : Addr) (H H' : Hp) : Prop := ∀ b o, b ≠ a → H b = some o → H' b = some o
theorem SB.refl (a : Addr) (H : Hp) : SB a H H := fun _ _ _ h => h
theorem SB.trans {a : Addr} {H H1 H2 : Hp} (x : SB a H H1) (y : SB a H1 H2) : SB a H H2 := fun b o n h => y b o n (x b o n h)
theorem SB.of {a : Addr} {H H' : Hp} (x : Same H H') : SB a H H' := fun b o _ h => x b o h
theorem SB.put {a : Addr} {H : Hp} {o : HO} : SB a H (upd H a o) := fun b x n h => by
  rw [upd_ne n]
  exact h
theorem SB.new {a p : Addr} {H : Hp} {o : HO} (h : H p = none) : SB a H (upd H p o) := .of (same_upd h)
theorem SB.sqt {K : PySem.W.Frag} {H H' : Hp} {a b : Addr} {xs ys : List V} (e : SB a H H') (h0 : H a = some (.lst ys)) (h : SqT K H b xs) : SqT K H' b xs := by
  rcases h with (h | ⟨o, h⟩) | h
  · exact .inl (.inl (e _ _ (ne_of h h0 (by intro z; cases z)) h))
  · exact .inl (.inr ⟨o, e _ _ (ne_of h h0 (by intro z; cases z)) h⟩)
  · exact .inr h
/-- a source of draws -/
def Src (H : Hp) (a : Addr) : Prop := ∃ g m c : Int, H a = some (.lst [.int g, .int m, .int c])
theorem SB.sqtS {K : PySem.W.Frag} {H H' : Hp} {a b : Addr} {xs : List V} (e : SB a H H') (h0 : Src H a) (h : SqT K H b xs) : SqT K H' b xs := by
  obtain ⟨g, m, c, h0⟩ := h0
  exact e.sqt h0 h
theorem Src.same {H H' : Hp} {a : Addr} (h : Src H a) (e : Same H H') : Src H' a := by
  obtain ⟨g, m, c, h⟩ := h
  exact ⟨g, m, c, e _ _ h⟩
theorem Src.new {H : Hp} {a p : Addr} {o : HO} (h : Src H a) (e : H p = none) : Src (upd H p o) a := h.same (same_upd e)
/-- a tuple of ints -/
def RT (K : PySem.W.Frag) (H : Hp) (v : V) (l : List Int) : Prop := ∃ a, v = .ref a ∧ SqT K H a (l.map V.int)
theorem RT.same {K : PySem.W.Frag} {H H' : Hp} {v : V} {l : List Int} (h : RT K H v l) (e : Same H H') : RT K H' v l := by
  obtain ⟨a, rfl, h⟩ := h
  exact ⟨a, rfl, Same.sqt e h⟩
theorem RT.sb {K : PySem.W.Frag} {H H' : Hp} {v : V} {l : List Int} {a : Addr} (h : RT K H v l) (e : SB a H H') (s : Src H a) : RT K H' v l := by
  obtain ⟨b, rfl, h⟩ := h
  exact ⟨b, rfl, e.sqtS s h⟩
theorem RT.new {K : PySem.W.Frag} {H : Hp} {p : Addr} {l : List Int} : RT K (upd H p (.tup (l.map V.int))) (.ref p) l := ⟨p, rfl, .inl (.inl upd_same)⟩
theorem small_le {n : Nat} (h : n ≤ 1000) : n ≤ sizeLine := Nat.le_of_lt (small1000 h)
/-- the type of a tuple, wherever it stands -/
theorem sqt_ty {K : PySem.W.Frag} {H : Hp} {a : Addr} {xs : List V} (h : SqT K H a xs) : TyX K H (.ref a) (.type "tuple") := by
  rcases h with (h | ⟨o, h⟩) | ⟨o, its, n, h, hc, _⟩
  · exact .base (.tup h)
  · exact .fTuple h
  · exact .kTuple h hc
end K32

namespace K32
open PySem PySem.Spec PyProof.Rows L2
/-! ### the text by places -/
def topS (i : Nat) : Stmt := PySem.Challenge.pw_soundlooks_k32_whole_quotients_modulo_gu.main.body.getD i (.Pass ⟨0, 0, 0, 0⟩)
abbrev s_is_whole : Stmt := topS 8
abbrev s_is_between : Stmt := topS 9
abbrev s_are_wholes : Stmt := topS 10
abbrev s_is_rested : Stmt := topS 16
abbrev s_rest_by : Stmt := topS 17
abbrev s_is_multiple : Stmt := topS 18
abbrev s_is_left : Stmt := topS 19
abbrev s_number_with : Stmt := topS 20
abbrev s_met_rest : Stmt := topS 21
abbrev s_is_only_nought : Stmt := topS 22
abbrev s_quotient_rest : Stmt := topS 23
abbrev s_modulo_rest : Stmt := topS 24
abbrev s_wrapped_rest : Stmt := topS 25
abbrev s_guarded_rests : Stmt := topS 26
abbrev s_check_rest : Stmt := topS 29
abbrev s_check_rests : Stmt := topS 30
abbrev s_check_whole : Stmt := topS 31
abbrev s_check_width : Stmt := topS 32
abbrev s_check_guard : Stmt := topS 33
abbrev s_rest_holds : Stmt := topS 35
abbrev s_rest_quotient : Stmt := topS 36
abbrev s_rest_modulo : Stmt := topS 37
abbrev s_rest_wrapped : Stmt := topS 38
abbrev s_rest_guarded : Stmt := topS 39
abbrev s_source : Stmt := topS 41
abbrev s_take : Stmt := topS 42
abbrev s_pick : Stmt := topS 43
abbrev s_great : Stmt := topS 44
abbrev s_number : Stmt := topS 45
abbrev s_part : Stmt := topS 46
abbrev s_rest : Stmt := topS 47
abbrev s_rest_near : Stmt := topS 48
abbrev s_rest_some : Stmt := topS 49
abbrev s_lwhole : Stmt := topS 50
abbrev s_same : Stmt := topS 51
abbrev s_rest_has : Stmt := topS 52
abbrev s_common : Stmt := topS 53
abbrev s_least : Stmt := topS 54
abbrev s_rest_meet : Stmt := topS 55
abbrev s_over : Stmt := topS 56
abbrev s_left : Stmt := topS 57
abbrev s_lets : Stmt := topS 58
abbrev s_guarded : Stmt := topS 59
abbrev s_beside : Stmt := topS 60
abbrev s_two_right : Stmt := topS 61
abbrev s_guards_right : Stmt := topS 62
abbrev s_held_right : Stmt := topS 63
abbrev s_wrapped_right : Stmt := topS 64
abbrev s_right : Stmt := topS 65
abbrev s_law : Stmt := topS 66
/-! ### what the top has besides: built-in names, constants -/
structure Bl (mg : Str → Option Value) : Prop where
  isinstance : mg "isinstance" = none
  int : mg "int" = none
  bool : mg "bool" = none
  tuple : mg "tuple" = none
  str : mg "str" = none
  len : mg "len" = none
  all : mg "all" = none
  zip : mg "zip" = none
  abs : mg "abs" = none
  divmod : mg "divmod" = none
  range : mg "range" = none
  max : mg "max" = none
  min : mg "min" = none
structure Cn (K : PySem.W.Frag) (mg : Str → Option Value) : Prop where
  empty : ∃ a, mg "EMPTY" = some (.ref a) ∧ ∀ H, SqT K H a (([] : List Int).map V.int)
  all : ∃ a, mg "ALL" = some (.ref a) ∧ ∀ H, SqT K H a (([0, 1] : List Int).map V.int)
  guards : ∃ a, mg "GUARDS" = some (.ref a) ∧ ∀ H, SqT K H a [.str "<", .str "<=", .str "==", .str "!="]
  grain : ∃ t, mg "GRAIN" = some (.int 20160 t)
  width : ∃ t, mg "MOST_WIDTH" = some (.int 16 t)
  gcd : mg "gcd" = some (.builtin "math.gcd")
  lcm : mg "lcm" = some (.builtin "math.lcm")
/-- a def of the text, as it stands behind the top -/
def Df (K : PySem.W.Frag) (mg : Str → Option Value) (x : Str) (st : Stmt) (ps : List Str) : Prop := ∃ f fd, Fun K x x st f fd ∧ mg x = some (.ref f) ∧ Binds K fd ps []
/-- .. that is called by keywords alone, too -/
def DfK (K : PySem.W.Frag) (mg : Str → Option Value) (x : Str) (st : Stmt) (ps ks : List Str) (g : List Value → List Value → List Value) (gV : List V → List V → List V) : Prop :=
  ∃ f fd, Fun K x x st f fd ∧ mg x = some (.ref f) ∧ Binds K fd ps [] ∧ KBn K fd ps 0 ks g gV
/-- the def of the name x keeps the promise sp -/
def Ok (P : Program) (w : World) (K : PySem.W.Frag) (mg : Str → Option Value) (base : Heap) (k : Nat) (x : Str) (ps : List Str) (sp : Sp) : Prop :=
  ∃ f fd, FnOk P w K mg base CX0 k f fd ps sp ∧ mg x = some (.ref f) ∧ PySem.W.keepIn K (.ref f) = true ∧ Binds K fd ps []
def OkK (P : Program) (w : World) (K : PySem.W.Frag) (mg : Str → Option Value) (base : Heap) (k : Nat) (x : Str) (ps ks : List Str) (g : List Value → List Value → List Value) (gV : List V → List V → List V) (sp : Sp) : Prop :=
  ∃ f fd, FnOk P w K mg base CX0 k f fd ps sp ∧ mg x = some (.ref f) ∧ PySem.W.keepIn K (.ref f) = true ∧ Binds K fd ps [] ∧ KBn K fd ps 0 ks g gV
section
variable {P : Program} {w : World} {K : PySem.W.Frag} {mg : Str → Option Value} {base : Heap} {x : Str} {st : Stmt} {N ps ks : List Str} {k : Nat} {sp : Sp} {g : List Value → List Value → List Value} {gV : List V → List V → List V}
theorem Df.ok (D : Df K mg x st ps) (S : FnScope N ps (defScope st)) (len : ∀ vs H Q E, sp vs H Q E → vs.length = ps.length)
    (hbody : ∀ (f : Addr) (cdv : Value) (A : Around) (outer : List Env) (s : Shared) (H : Hp) (vs : List V) (Q : VK) (E : XK), Room k (A.deeper (envOfC x (defScope st) s.heap.objs.size f cdv)) → sp vs H Q E →
      ∃ t, PSs (cxOf CX0 P w K mg base N x (defScope st) f cdv A outer s H E).nox (defBody st) t ∧ t { nx := fun _ H' => Q .non H', rt := Q } (start N vs) H) : Ok P w K mg base (k + 1) x ps sp := by
  obtain ⟨f, fd, F, h1, h2⟩ := D
  exact ⟨f, fd, F.ok S len fun cdv A outer s H vs Q E hr h => hbody f cdv A outer s H vs Q E hr h, h1, F.kp, h2⟩
theorem DfK.ok (D : DfK K mg x st ps ks g gV) (S : FnScope N ps (defScope st)) (len : ∀ vs H Q E, sp vs H Q E → vs.length = ps.length)
    (hbody : ∀ (f : Addr) (cdv : Value) (A : Around) (outer : List Env) (s : Shared) (H : Hp) (vs : List V) (Q : VK) (E : XK), Room k (A.deeper (envOfC x (defScope st) s.heap.objs.size f cdv)) → sp vs H Q E →
      ∃ t, PSs (cxOf CX0 P w K mg base N x (defScope st) f cdv A outer s H E).nox (defBody st) t ∧ t { nx := fun _ H' => Q .non H', rt := Q } (start N vs) H) : OkK P w K mg base (k + 1) x ps ks g gV sp := by
  obtain ⟨f, fd, F, h1, h2, h3⟩ := D
  exact ⟨f, fd, F.ok S len fun cdv A outer s H vs Q E hr h => hbody f cdv A outer s H vs Q E hr h, h1, F.kp, h2, h3⟩
theorem OkK.pos (h : OkK P w K mg base k x ps ks g gV sp) : Ok P w K mg base k x ps sp := by
  obtain ⟨f, fd, h1, h2, h3, h4, h5⟩ := h
  exact ⟨f, fd, h1, h2, h3, h4⟩
end
section
variable {X : Cx} {x : Str} {p pos : Pos} {e : Expr} {es : List Expr} {ps ks : List Str} {sp : Sp} {j k : Nat} {t tk : TA} {kws : List Keyword} {g : List Value → List Value → List Value} {gV : List V → List V → List V}
theorem pe_ok (h : Ok X.prog X.w X.K X.mg X.base j x ps sp) (hr : Room k X.A) (ha : PA X (e :: es) t) (hj : j ≤ k := by decide) (hg : Gl X x := by rfl) (hdb : (x == ("__debug__" : Str)) = false := by decide)
    (he : starEach (e :: es) X.env = (false, eval e X.env) :: starEach es X.env := by rfl) (hpl : (backTo pos (starEach es X.env)).any (·.1) = false := by rfl) : PE X (.Call (.Name x p) (e :: es) [] pos) (tCall sp [] E0 t) := by
  obtain ⟨f, fd, F, h1, h2, h3⟩ := h
  exact pe_call F (hr.mono hj) hg h1 h2 h3 .nil pass0 ha hdb he hpl
theorem pe_okK (h : OkK X.prog X.w X.K X.mg X.base j x ps ks g gV sp) (hr : Room k X.A) (hkw : PK X kws tk) (hj : j ≤ k := by decide) (hg : Gl X x := by rfl) (hall : (backToKw pos (keywordEach kws X.env)).all (·.1.isSome) = true := by rfl) (hks : (backToKw pos (keywordEach kws X.env)).filterMap (·.1) = ks := by rfl)
    (hdb : (x == ("__debug__" : Str)) = false := by decide)
    (hpl : ((backTo pos (starEach [] X.env)).any (·.1) || (backToKw pos (keywordEach kws X.env)).any (·.1.isNone)) = false := by rfl) : PE X (.Call (.Name x p) [] kws pos) (tCallN 0 ks.length sp gV E0 tNil tk) := by
  obtain ⟨f, fd, F, h1, h2, h3, h4⟩ := h
  exact pe_callN0 F (hr.mono hj) hg h1 h2 h4 pass0 hkw hall hks hdb hpl
end
theorem blT {Q : VK} {H : Hp} {p : Prop} [Decidable p] (h : p) (q : Q (.bl true) H) : Q (.bl (decide p)) H := by
  rw [decide_eq_true h]
  exact q
theorem blF {Q : VK} {H : Hp} {p : Prop} [Decidable p] (h : ¬ p) (q : Q (.bl false) H) : Q (.bl (decide p)) H := by
  rw [decide_eq_false h]
  exact q
theorem blE {Q : VK} {H : Hp} {b c : Bool} (h : c = b) (q : Q (.bl b) H) : Q (.bl c) H := by
  rw [h]
  exact q
theorem itE {b c : Bool} {A B : Prop} (h : c = b) (q : if b = true then A else B) : if c = true then A else B := by
  rw [h]
  exact q
theorem itT {p : Prop} [Decidable p] {A B : Prop} (h : p) (q : A) : if decide p = true then A else B := by
  rw [decide_eq_true h]
  exact iteT q
theorem itF {p : Prop} [Decidable p] {A B : Prop} (h : ¬ p) (q : B) : if decide p = true then A else B := by
  rw [decide_eq_false h]
  exact iteF q
theorem it2 {p : Prop} [Decidable p] {A B : Prop} (h1 : p → A) (h2 : ¬ p → B) : if decide p = true then A else B := by
  by_cases h : p
  · exact itT h (h1 h)
  · exact itF h (h2 h)
theorem yes {σ : L2.St} {H : Hp} {F G : Hp → Prop} (h : F H) : tYes σ H (fun b H3 => if b = true then F H3 else G H3) := by
  show if true = true then F H else G H
  rw [if_pos rfl]
  exact h
theorem le0 : 0 ≤ sizeLine := Nat.zero_le _
theorem le1 : 1 ≤ sizeLine := small_le (by decide)
theorem le2 : 2 ≤ sizeLine := small_le (by decide)
theorem le3 : 3 ≤ sizeLine := small_le (by decide)
theorem le4 : 4 ≤ sizeLine := small_le (by decide)
theorem le10 : 10 ≤ sizeLine := small_le (by decide)
theorem vne {i j : Int} (h : i ≠ j) : ¬ V.int i = V.int j := fun z => h (V.int.inj z)
end K32

namespace K32
open PySem PySem.Spec PyProof.Rows L2
section
variable {P : Program} {w : World} {K : PySem.W.Frag} {mg : Str → Option Value} {base : Heap}
/-! ### is_whole -/
theorem sc_is_whole : FnScope ["value"] ["value"] (defScope s_is_whole) := ⟨rfl, rfl, rfl, by decide +kernel, rfl, by decide +kernel, by decide +kernel⟩
def sp_is_whole : Sp := fun vs H Q _ => ∃ n : Int, vs = [.int n] ∧ Q (.bl true) H
theorem ok_is_whole (B : Bl mg) (D : Df K mg "is_whole" s_is_whole ["value"]) : Ok P w K mg base 1 "is_whole" ["value"] sp_is_whole := by
  refine D.ok sc_is_whole (fun vs H Q E h => ?_) (fun f cdv A outer s H vs Q E hr h => ?_)
  · obtain ⟨n, rfl, _⟩ := h
    rfl
  · obtain ⟨n, rfl, q⟩ := h
    refine ⟨_, pss_one (ps_ret (pe_and (pe_callB call_isi (by rfl) B.isinstance boot_isinstance (pa_cons (pv 0) (pa_cons (pe_bltn (v := .ty "int") (by rfl) B.int PyProof.Rows.boot_int rfl) pa_nil)))
      (pe_one (pe_not (pe_callB call_isi (by rfl) B.isinstance boot_isinstance (pa_cons (pv 0) (pa_cons (pe_bltn (v := .ty "bool") (by rfl) B.bool PyProof.Rows.boot_bool rfl) pa_nil))))))), ?_⟩
    refine ⟨.int n, rfl, .int n, .ty "int", .type "int", .type "int", true, rfl, .ty _, .base (.int n), kit_ty (by decide +kernel), true, rfl, iteT ?_⟩
    exact ⟨.int n, rfl, .int n, .ty "bool", .type "int", .type "bool", false, rfl, .ty _, .base (.int n), kit_ty (by decide +kernel), false, rfl, q⟩
/-! ### is_between -/
theorem sc_is_between : FnScope ["value", "low", "high"] ["value", "low", "high"] (defScope s_is_between) := ⟨rfl, rfl, rfl, by decide +kernel, rfl, by decide +kernel, by decide +kernel⟩
def sp_is_between : Sp := fun vs H Q _ => ∃ n l h : Int, vs = [.int n, .int l, .int h] ∧ l ≤ n ∧ n ≤ h ∧ Q (.bl true) H
theorem ok_is_between (B : Bl mg) (O1 : Ok P w K mg base 1 "is_whole" ["value"] sp_is_whole) (D : Df K mg "is_between" s_is_between ["value", "low", "high"]) : Ok P w K mg base 2 "is_between" ["value", "low", "high"] sp_is_between := by
  refine D.ok sc_is_between (fun vs H Q E h => ?_) (fun f cdv A outer s H vs Q E hr h => ?_)
  · obtain ⟨n, l, h, rfl, _⟩ := h
    rfl
  · obtain ⟨n, l, h, rfl, h1, h2, q⟩ := h
    refine ⟨_, pss_one (ps_ret (pe_and (pe_ok O1 hr (pa_cons (pv 0) pa_nil)) (pe_one (pe_chain op_le op_le (pv 1) (pv 0) (pv 2))))), ?_⟩
    refine ⟨.int n, rfl, n, rfl, true, rfl, iteT ?_⟩
    refine ⟨.int l, rfl, .int n, rfl, l, n, rfl, rfl, _, rfl, ?_⟩
    exact itT h1 ⟨.int h, rfl, n, h, rfl, rfl, blT (Q := Q) h2 q⟩
/-! ### are_wholes -/
theorem sc_are_wholes : FnScope ["value", "many", "each"] ["value", "many"] (defScope s_are_wholes) := ⟨rfl, rfl, rfl, by decide +kernel, rfl, by decide +kernel, by decide +kernel⟩
def sp_are_wholes (K : PySem.W.Frag) : Sp := fun vs H Q _ => ∃ (a : Addr) (l : List Int), vs = [.ref a, .int l.length] ∧ l.length ≤ 1000 ∧ SqT K H a (l.map V.int) ∧ ∀ H', Same H H' → Q (.bl true) H'
theorem ok_are_wholes (B : Bl mg) (O1 : Ok P w K mg base 1 "is_whole" ["value"] sp_is_whole) (D : Df K mg "are_wholes" s_are_wholes ["value", "many"]) : Ok P w K mg base 2 "are_wholes" ["value", "many"] (sp_are_wholes K) := by
  refine D.ok sc_are_wholes (fun vs H Q E h => ?_) (fun f cdv A outer s H vs Q E hr h => ?_)
  · obtain ⟨a, l, rfl, _⟩ := h
    rfl
  · obtain ⟨a, l, rfl, hl, hT, q⟩ := h
    refine ⟨_, pss_one (ps_ret (pe_and (pe_callB call_isi (by rfl) B.isinstance boot_isinstance (pa_cons (pv 0) (pa_cons (pe_bltn (v := .ty "tuple") (by rfl) B.tuple PyProof.Rows.boot_tuple rfl) pa_nil)))
      (pe_and (pe_cmpR op_eq (pe_callB call_len_seq (by rfl) B.len PySem.boot_len (pa_cons (pv 0) pa_nil)) (pv 1) (nomark _))
      (pe_one (pe_callB (cr_all rfl) (by rfl) B.all PyProof.Rows.boot_all (pa_cons (pe_lc (own := [("each", 2)]) (g := gName 2) (tt := tYes) rfl sc_are_wholes.nd (pi_tup (pv 0))
        (blkOk_by (own := [("each", 2)]) (N := ["value", "many", "each"]) (sc := defScope s_are_wholes) (by decide +kernel))
        (fun _ _ _ _ _ => pg_name (i := 2) sc_are_wholes.nd rfl (Or.inl rfl)) (fun _ _ _ _ _ => pts_nil) (fun _ _ _ _ _ => pe_ok O1 hr (pa_cons (pv 2) pa_nil))) pa_nil)))))), ?_⟩
    refine ⟨.ref a, rfl, .ref a, .ty "tuple", .type "tuple", .type "tuple", true, rfl, .ty _, sqt_ty hT, kit_ty (by decide +kernel), true, rfl, iteT ?_⟩
    refine ⟨.ref a, rfl, a, l.map V.int, rfl, .inr hT, .int l.length, rfl, rfl, _, rfl, ?_⟩
    rw [List.length_map, decide_eq_true rfl]
    refine iteT ⟨.ref a, rfl, a, rfl, ⟨_, hT⟩, fun Dd nD => ?_⟩
    refine lc_tup (K := K) (a := a) (xs := l.map V.int) (fun i H' => Same H H' ∧ H' Dd = some (.lst ((List.replicate i true).map V.bl))) ⟨same_upd nD, upd_same⟩ (fun i H' _ ⟨h1, _⟩ => Same.sqt h1 hT) (fun i x H' hx ⟨h1, h2⟩ => ?_) (fun H' ⟨h1, h2⟩ => ?_)
    · rw [List.getElem?_map] at hx
      obtain ⟨n, hn, rfl⟩ := Option.map_eq_some_iff.mp hx
      refine ⟨rfl, ?_⟩
      refine yes ?_
      refine ⟨.int n, rfl, n, rfl, _, h2, ?_, ?_, ?_⟩
      · rw [List.length_map, List.length_replicate]
        have hi := (List.getElem?_eq_some_iff.mp hn).1
        exact small1000 (by omega)
      · exact fun b o e => by
          rw [upd_ne (ne_of_none e nD)]
          exact h1 b o e
      · rw [upd_same, ← List.map_singleton, ← List.map_append, ← List.replicate_succ']
    · refine ⟨Dd, List.replicate (l.map V.int).length true, rfl, .inl (.inl h2), ?_⟩
      have e : (List.replicate (l.map V.int).length true).all id = true := by simp
      rw [e]
      exact q H' h1
/-! ### is_rested -/
theorem sc_is_rested : FnScope ["value"] ["value"] (defScope s_is_rested) := ⟨rfl, rfl, rfl, by decide +kernel, rfl, by decide +kernel, by decide +kernel⟩
def sp_is_rested (K : PySem.W.Frag) : Sp := fun vs H Q _ => ∃ (v : V) (l : List Int), vs = [v] ∧ RT K H v l ∧ Rest l ∧ ∀ H', Same H H' → Q (.bl true) H'
theorem ok_is_rested (B : Bl mg) (C : Cn K mg) (O1 : Ok P w K mg base 2 "are_wholes" ["value", "many"] (sp_are_wholes K)) (D : Df K mg "is_rested" s_is_rested ["value"]) : Ok P w K mg base 3 "is_rested" ["value"] (sp_is_rested K) := by
  obtain ⟨aE, gE, hE⟩ := C.empty
  obtain ⟨tG, gG⟩ := C.grain
  refine D.ok sc_is_rested (fun vs H Q E h => ?_) (fun f cdv A outer s H vs Q E hr h => ?_)
  · obtain ⟨v, l, rfl, _⟩ := h
    rfl
  · obtain ⟨v, l, rfl, ⟨a, rfl, hT⟩, hR, q⟩ := h
    refine ⟨_, pss_cons (ps_if (PW.pt (pw_and (pt_val (pe_callB call_isi (by rfl) B.isinstance boot_isinstance (pa_cons (pv 0) (pa_cons (pe_bltn (v := .ty "tuple") (by rfl) B.tuple PyProof.Rows.boot_tuple rfl) pa_nil))))
        (pw_and1 (pt_cmpR (op_eqT hr.units) (pv 0) (pe_glob (v := .ref aE) rfl gE rfl) (nomark _))))) (pss_one (ps_ret pe_bl)) pss_nil)
      (pss_cons (ps_if (PW.pt (pw_or (pt_not (pt_val (pe_ok O1 hr (pa_cons (pv 0) (pa_cons pe_int pa_nil))))) (pw_or1 (pt_cmpR op_lt (pe_ix ix_tup (pv 0) pe_int (fun _ _ => rfl)) pe_int (nomark _))))) (pss_one (ps_ret pe_bl)) pss_nil)
      (pss_one (ps_ret (pe_or (pe_cmpR op_eq (pe_ix ix_tup (pv 0) pe_int (fun _ _ => rfl)) pe_int (nomark _))
        (pe_one (pe_and (pe_cmpR op_eq (pe_op op_modN (pe_glob (v := .int 20160) rfl gG ⟨_, rfl⟩) (pe_ix ix_tup (pv 0) pe_int (fun _ _ => rfl))) pe_int (nomark _))
          (pe_one (pe_chain op_le op_lt pe_int (pe_ix ix_tup (pv 0) pe_int (fun _ _ => rfl)) (pe_ix ix_tup (pv 0) pe_int (fun _ _ => rfl)))))))))), ?_⟩
    refine ⟨.ref a, rfl, .ref a, .ty "tuple", .type "tuple", .type "tuple", true, rfl, .ty _, sqt_ty hT, kit_ty (by decide +kernel), true, rfl, iteT ?_⟩
    refine ⟨.ref a, rfl, a, aE, l, [], rfl, rfl, hT, hE _, _, rfl, ?_⟩
    rcases hR.form with e | ⟨r, m, rfl⟩
    · subst e
      exact iteT (q H (Same.refl H))
    · refine iteF ?_
      refine ⟨.ref a, rfl, a, [r, m], rfl, by show (2 : Nat) ≤ 1000; decide, hT, fun H1 s1 => ?_⟩
      have hT1 := Same.sqt s1 hT
      have hm := hR.le
      refine ⟨true, rfl, iteF ?_⟩
      refine ⟨.ref a, rfl, a, _, 1, .int m, rfl, rfl, hT1, atI_nat (j := 1) rfl, m, 0, rfl, rfl, _, rfl, itF (show ¬ m < 0 by omega) ?_⟩
      refine ⟨.ref a, rfl, a, _, 1, .int m, rfl, rfl, hT1, atI_nat (j := 1) rfl, rfl, _, rfl, it2 (fun h0 => q H1 s1) (fun h0 => ?_)⟩
      have h0' : m ≠ 0 := fun z => h0 (by rw [z])
      obtain ⟨m0, m1, m2⟩ := hR.lt h0'
      refine ⟨.ref a, rfl, a, _, 1, .int m, rfl, rfl, hT1, atI_nat (j := 1) rfl, 20160, m, rfl, rfl, h0', rfl, _, rfl, ?_⟩
      have e : (20160 : Int).fmod m = 0 := Int.fmod_eq_zero_of_dvd (hR.dvd h0')
      refine itT (congrArg V.int e) ⟨.ref a, rfl, a, _, 0, .int r, rfl, rfl, hT1, atI_nat (j := 0) rfl, 0, r, rfl, rfl, _, rfl, itT m1 ⟨.ref a, rfl, a, _, 1, .int m, rfl, rfl, hT1, atI_nat (j := 1) rfl, r, m, rfl, rfl, blT (Q := Q) m2 (q H1 s1)⟩⟩
end
end K32

namespace K32
open PySem PySem.Spec PyProof.Rows L2
section
variable {P : Program} {w : World} {K : PySem.W.Frag} {mg : Str → Option Value} {base : Heap}
/-! ### rest_by -/
theorem sc_rest_by : FnScope ["number", "many"] ["number", "many"] (defScope s_rest_by) := ⟨rfl, rfl, rfl, by decide +kernel, rfl, by decide +kernel, by decide +kernel⟩
def sp_rest_by (K : PySem.W.Frag) : Sp := fun vs H Q _ => ∃ n m : Int, vs = [.int n, .int m] ∧ 0 ≤ m ∧ ∀ H' v, Same H H' → RT K H' v (restBy n m) → Q v H'
theorem ok_rest_by (D : Df K mg "rest_by" s_rest_by ["number", "many"]) : Ok P w K mg base 1 "rest_by" ["number", "many"] (sp_rest_by K) := by
  refine D.ok sc_rest_by (fun vs H Q E h => ?_) (fun f cdv A outer s H vs Q E hr h => ?_)
  · obtain ⟨n, m, rfl, _⟩ := h
    rfl
  · obtain ⟨n, m, rfl, h0, q⟩ := h
    refine ⟨_, pss_one (ps_ret (pe_ifExp (pt_cmpR op_eq (pv 1) pe_int (nomark _)) (pe_tup (pa_cons (pv 0) (pa_cons pe_int pa_nil))) (pe_tup (pa_cons (pe_op op_modN (pv 0) (pv 1)) (pa_cons (pv 1) pa_nil))))), ?_⟩
    refine ⟨.int m, rfl, rfl, _, rfl, it2 (fun hm => ?_) (fun hm => ?_)⟩
    · have hm' : m = 0 := V.int.inj hm
      subst hm'
      exact ⟨.int n, rfl, le2, fun p np => q _ _ (same_upd np) ⟨p, rfl, .inl (.inl upd_same)⟩⟩
    · have hm' : m ≠ 0 := fun z => hm (by rw [z])
      refine ⟨.int n, rfl, .int m, rfl, n, m, rfl, rfl, hm', .int m, rfl, le2, fun p np => q _ _ (same_upd np) ?_⟩
      unfold restBy
      rw [if_neg hm', ← Int.fmod_eq_emod_of_nonneg n h0]
      exact ⟨p, rfl, .inl (.inl upd_same)⟩
/-! ### is_multiple -/
theorem sc_is_multiple : FnScope ["number", "many"] ["number", "many"] (defScope s_is_multiple) := ⟨rfl, rfl, rfl, by decide +kernel, rfl, by decide +kernel, by decide +kernel⟩
def sp_is_multiple : Sp := fun vs H Q _ => ∃ n m : Int, vs = [.int n, .int m] ∧ Q (.bl (decide (m ∣ n))) H
theorem ok_is_multiple (D : Df K mg "is_multiple" s_is_multiple ["number", "many"]) : Ok P w K mg base 1 "is_multiple" ["number", "many"] sp_is_multiple := by
  refine D.ok sc_is_multiple (fun vs H Q E h => ?_) (fun f cdv A outer s H vs Q E hr h => ?_)
  · obtain ⟨n, m, rfl, _⟩ := h
    rfl
  · obtain ⟨n, m, rfl, q⟩ := h
    refine ⟨_, pss_one (ps_ret (pe_ifExp (pt_cmpR op_eq (pv 1) pe_int (nomark _)) (pe_cmpR op_eq (pv 0) pe_int (nomark _)) (pe_cmpR op_eq (pe_op op_modN (pv 0) (pv 1)) pe_int (nomark _)))), ?_⟩
    refine ⟨.int m, rfl, rfl, _, rfl, it2 (fun hm => ?_) (fun hm => ?_)⟩
    · have hm' : m = 0 := V.int.inj hm
      subst hm'
      refine ⟨.int n, rfl, rfl, blE (Q := Q) ?_ q⟩
      rw [decide_eq_decide]
      exact ⟨fun z => by rw [V.int.inj z]; exact Int.dvd_refl 0, fun ⟨c, z⟩ => by rw [z, Int.zero_mul]⟩
    · have hm' : m ≠ 0 := fun z => hm (by rw [z])
      refine ⟨.int n, rfl, .int m, rfl, n, m, rfl, rfl, hm', rfl, blE (Q := Q) ?_ q⟩
      rw [decide_eq_decide]
      exact ⟨fun z => fmod_zero_iff.mp (V.int.inj z), fun z => congrArg V.int (fmod_zero_iff.mpr z)⟩
/-! ### is_left -/
theorem sc_is_left : FnScope ["rest", "number"] ["rest", "number"] (defScope s_is_left) := ⟨rfl, rfl, rfl, by decide +kernel, rfl, by decide +kernel, by decide +kernel⟩
def sp_is_left (K : PySem.W.Frag) : Sp := fun vs H Q _ => ∃ (v : V) (l : List Int) (n : Int), vs = [v, .int n] ∧ RT K H v l ∧ Rest l ∧ Q (.bl (has l n)) H
theorem ok_is_left (C : Cn K mg) (O1 : Ok P w K mg base 1 "is_multiple" ["number", "many"] sp_is_multiple) (D : Df K mg "is_left" s_is_left ["rest", "number"]) : Ok P w K mg base 2 "is_left" ["rest", "number"] (sp_is_left K) := by
  obtain ⟨aE, gE, hE⟩ := C.empty
  refine D.ok sc_is_left (fun vs H Q E h => ?_) (fun f cdv A outer s H vs Q E hr h => ?_)
  · obtain ⟨v, l, n, rfl, _⟩ := h
    rfl
  · obtain ⟨v, l, n, rfl, ⟨a, rfl, hT⟩, hR, q⟩ := h
    refine ⟨_, pss_one (ps_ret (pe_and (pe_cmpR (op_neT hr.units) (pv 0) (pe_glob (v := .ref aE) rfl gE rfl) (nomark _)) (pe_one (pe_ok O1 hr (pa_cons (pe_op op_sub (pv 1) (pe_ix ix_tup (pv 0) pe_int (fun _ _ => rfl))) (pa_cons (pe_ix ix_tup (pv 0) pe_int (fun _ _ => rfl)) pa_nil)))))), ?_⟩
    refine ⟨.ref a, rfl, a, aE, l, [], rfl, rfl, hT, hE _, _, rfl, ?_⟩
    rcases hR.form with e | ⟨r, m, rfl⟩
    · subst e
      exact iteF q
    · refine iteT ?_
      exact ⟨.int n, rfl, .ref a, rfl, a, _, 0, .int r, rfl, rfl, hT, atI_nat (j := 0) rfl, n, r, rfl, rfl, .ref a, rfl, a, _, 1, .int m, rfl, rfl, hT, atI_nat (j := 1) rfl, n - r, m, rfl, q⟩
/-! ### number_with -/
theorem sc_number_with : FnScope ["rest", "other", "found"] ["rest", "other"] (defScope s_number_with) := ⟨rfl, rfl, rfl, by decide +kernel, rfl, by decide +kernel, by decide +kernel⟩
def sp_number_with (K : PySem.W.Frag) : Sp := fun vs H Q _ => ∃ (v1 v2 : V) (r m s k : Int), vs = [v1, v2] ∧ RT K H v1 [r, m] ∧ RT K H v2 [s, k] ∧ Rest [r, m] ∧ Rest [s, k] ∧ m ≠ 0 ∧ k ≠ 0 ∧ ((Int.gcd m k : Nat) : Int) ∣ r - s ∧
  ∀ n, has [r, m] n = true → has [s, k] n = true → Q (.int n) H
theorem ok_number_with (O1 : Ok P w K mg base 2 "is_left" ["rest", "number"] (sp_is_left K)) (D : Df K mg "number_with" s_number_with ["rest", "other"]) : Ok P w K mg base 3 "number_with" ["rest", "other"] (sp_number_with K) := by
  refine D.ok sc_number_with (fun vs H Q E h => ?_) (fun f cdv A outer st H vs Q E hr h => ?_)
  · obtain ⟨v1, v2, r, m, s, k, rfl, _⟩ := h
    rfl
  · obtain ⟨v1, v2, r, m, s, k, rfl, ⟨a, rfl, hT⟩, ⟨b, rfl, hU⟩, h1, h2, hm, hk, hg, q⟩ := h
    refine ⟨_, pss_cons (ps_set (i := 2) sc_number_with.nd rfl (.inl rfl) (pe_ix ix_tup (pv 0) pe_int (fun _ _ => rfl))) (pss_cons (ps_while PassesOwn.never (pt_not (pt_val (pe_ok O1 hr (pa_cons (pv 1) (pa_cons (pv 2) pa_nil)))))
      (pss_one (ps_set (i := 2) sc_number_with.nd rfl (.inl rfl) (pe_op op_add (pv 2) (pe_ix ix_tup (pv 0) pe_int (fun _ _ => rfl)))))) (pss_one (ps_ret (pv 2)))), ?_⟩
    obtain ⟨i0, hi0⟩ := reach (h1.lt hm).1 (h2.lt hk).1 hg
    refine ⟨.ref a, rfl, a, _, 0, .int r, rfl, rfl, hT, atI_nat (j := 0) rfl, ?_⟩
    refine ⟨fun d σ H' => ∃ i : Nat, i + d = i0 ∧ σ = [some (.ref a), some (.ref b), some (.int (r + m * i))] ∧ H' = H, ⟨i0, 0, by omega, ?_, rfl⟩, fun d σ H' hW => ?_⟩
    · show [some (V.ref a), some (V.ref b), some (V.int r)] = _
      rw [show r + m * ((0 : Nat) : Int) = r by simp]
    · obtain ⟨i, hi, rfl, rfl⟩ := hW
      refine ⟨.ref b, rfl, .int (r + m * i), rfl, .ref b, [s, k], r + m * i, rfl, ⟨b, rfl, hU⟩, h2, _, rfl, ?_⟩
      have hmi : has [r, m] (r + m * i) = true := has_iff.mpr ⟨i, by omega⟩
      cases e : has [s, k] (r + m * i) with
      | true => exact iteF ⟨_, rfl, q _ hmi e⟩
      | false =>
        refine iteT ⟨fun σ' H1 => σ' = [some (.ref a), some (.ref b), some (.int (r + m * (i + 1 : Nat)))] ∧ H1 = H', fun σ' H1 hN => ?_, ?_⟩
        · obtain ⟨rfl, rfl⟩ := hN
          have hne : i ≠ i0 := fun z => by
            rw [z, hi0] at e
            cases e
          exact ⟨d - 1, by omega, i + 1, by omega, rfl, rfl⟩
        · refine ⟨.int (r + m * i), rfl, .ref a, rfl, a, _, 1, .int m, rfl, rfl, hT, atI_nat (j := 1) rfl, r + m * i, m, rfl, rfl, ?_, rfl⟩
          show [some (V.ref a), some (V.ref b), some (V.int (r + m * i + m))] = _
          rw [show r + m * ((i + 1 : Nat) : Int) = r + m * i + m by rw [Int.natCast_add, Int.mul_add]; omega]
/-! ### met_rest -/
theorem sc_met_rest : FnScope ["rest", "other"] ["rest", "other"] (defScope s_met_rest) := ⟨rfl, rfl, rfl, by decide +kernel, rfl, by decide +kernel, by decide +kernel⟩
def sp_met_rest (K : PySem.W.Frag) : Sp := fun vs H Q _ => ∃ (v1 v2 : V) (l1 l2 : List Int), vs = [v1, v2] ∧ RT K H v1 l1 ∧ RT K H v2 l2 ∧ Rest l1 ∧ Rest l2 ∧ ∀ H' v l, Same H H' → RT K H' v l → IsMeet l1 l2 l → Q v H'
theorem ok_met_rest (C : Cn K mg) (O1 : Ok P w K mg base 1 "is_multiple" ["number", "many"] sp_is_multiple) (O2 : Ok P w K mg base 1 "rest_by" ["number", "many"] (sp_rest_by K)) (O3 : Ok P w K mg base 3 "number_with" ["rest", "other"] (sp_number_with K))
    (D : Df K mg "met_rest" s_met_rest ["rest", "other"]) : Ok P w K mg base 4 "met_rest" ["rest", "other"] (sp_met_rest K) := by
  obtain ⟨aE, gE, hE⟩ := C.empty
  refine D.ok sc_met_rest (fun vs H Q E h => ?_) (fun f cdv A outer st H vs Q E hr h => ?_)
  · obtain ⟨v1, v2, l1, l2, rfl, _⟩ := h
    rfl
  · obtain ⟨v1, v2, l1, l2, rfl, ⟨a, rfl, hT⟩, ⟨b, rfl, hU⟩, h1, h2, q⟩ := h
    refine ⟨_, pss_cons (ps_if (PW.pt (pw_or (pt_cmpR (op_eqT hr.units) (pv 0) (pe_glob (v := .ref aE) rfl gE rfl) (nomark _)) (pw_or (pt_cmpR (op_eqT hr.units) (pv 1) (pe_glob (v := .ref aE) rfl gE rfl) (nomark _))
        (pw_or1 (pt_not (pt_val (pe_ok O1 hr (pa_cons (pe_op op_sub (pe_ix ix_tup (pv 0) pe_int (fun _ _ => rfl)) (pe_ix ix_tup (pv 1) pe_int (fun _ _ => rfl))) (pa_cons (pe_callBfun cr_gcd2 (by rfl) C.gcd (pa_cons (pe_ix ix_tup (pv 0) pe_int (fun _ _ => rfl)) (pa_cons (pe_ix ix_tup (pv 1) pe_int (fun _ _ => rfl)) pa_nil))) pa_nil)))))))))
        (pss_one (ps_ret (pe_glob (v := .ref aE) rfl gE rfl))) pss_nil)
      (pss_cons (ps_if (PW.pt (pw_or (pt_cmpR op_eq (pe_ix ix_tup (pv 0) pe_int (fun _ _ => rfl)) pe_int (nomark _)) (pw_or1 (pt_cmpR op_eq (pe_ix ix_tup (pv 1) pe_int (fun _ _ => rfl)) pe_int (nomark _)))))
        (pss_one (ps_ret (pe_ifExp (pt_cmpR op_eq (pe_ix ix_tup (pv 0) pe_int (fun _ _ => rfl)) pe_int (nomark _)) (pv 0) (pv 1)))) pss_nil)
      (pss_one (ps_ret (pe_ok O2 hr (pa_cons (pe_ok O3 hr (pa_cons (pv 0) (pa_cons (pv 1) pa_nil))) (pa_cons (pe_callBfun cr_lcm (by rfl) C.lcm (pa_cons (pe_ix ix_tup (pv 0) pe_int (fun _ _ => rfl)) (pa_cons (pe_ix ix_tup (pv 1) pe_int (fun _ _ => rfl)) pa_nil))) pa_nil)))))), ?_⟩
    refine ⟨.ref a, rfl, a, aE, l1, [], rfl, rfl, hT, hE _, _, rfl, ?_⟩
    rcases h1.form with e | ⟨r, m, rfl⟩
    · subst e
      exact iteT (q H (.ref aE) [] (Same.refl H) ⟨aE, rfl, hE _⟩ (meet_nil_left l2))
    · refine iteF ⟨.ref b, rfl, b, aE, l2, [], rfl, rfl, hU, hE _, _, rfl, ?_⟩
      rcases h2.form with e | ⟨s, k, rfl⟩
      · subst e
        exact iteT (q H (.ref aE) [] (Same.refl H) ⟨aE, rfl, hE _⟩ (meet_nil_right [r, m]))
      · refine iteF ⟨.ref a, rfl, a, _, 0, .int r, rfl, rfl, hT, atI_nat (j := 0) rfl, .ref b, rfl, b, _, 0, .int s, rfl, rfl, hU, atI_nat (j := 0) rfl, r, s, rfl, rfl, .ref a, rfl, a, _, 1, .int m, rfl, rfl, hT, atI_nat (j := 1) rfl, .ref b, rfl, b, _, 1, .int k, rfl, rfl, hU, atI_nat (j := 1) rfl, m, k, rfl, r - s, _, rfl, _, rfl, ?_⟩
        by_cases hg : ((Int.gcd m k : Nat) : Int) ∣ r - s
        · rw [decide_eq_true hg]
          refine iteF ⟨.ref a, rfl, a, _, 1, .int m, rfl, rfl, hT, atI_nat (j := 1) rfl, rfl, _, rfl, it2 (fun hm => ?_) (fun hm => ?_)⟩
          · have hm' : m = 0 := V.int.inj hm
            subst hm'
            refine iteT ⟨.ref a, rfl, a, _, 1, .int 0, rfl, rfl, hT, atI_nat (j := 1) rfl, rfl, _, rfl, itT rfl ⟨.ref a, rfl, q H _ [r, 0] (Same.refl H) ⟨a, rfl, hT⟩ (meet_one ?_)⟩⟩
            rw [Int.zero_gcd, Int.natAbs_dvd] at hg
            exact has_iff.mpr hg
          · have hm' : m ≠ 0 := fun z => hm (by rw [z])
            refine ⟨.ref b, rfl, b, _, 1, .int k, rfl, rfl, hU, atI_nat (j := 1) rfl, rfl, _, rfl, it2 (fun hk => ?_) (fun hk => ?_)⟩
            · have hk' : k = 0 := V.int.inj hk
              subst hk'
              refine ⟨.ref a, rfl, a, _, 1, .int m, rfl, rfl, hT, atI_nat (j := 1) rfl, rfl, _, rfl, itF hm ⟨.ref b, rfl, q H _ [s, 0] (Same.refl H) ⟨b, rfl, hU⟩ (meet_one ?_).symm⟩⟩
              rw [Int.gcd_zero, Int.natAbs_dvd] at hg
              refine has_iff.mpr ?_
              have z := Int.dvd_neg.mpr hg
              rwa [show -(r - s) = s - r by omega] at z
            · have hk' : k ≠ 0 := fun z => hk (by rw [z])
              have m1 := h1.le
              have k1 := h2.le
              refine ⟨.ref a, rfl, .ref b, rfl, .ref a, .ref b, r, m, s, k, rfl, ⟨a, rfl, hT⟩, ⟨b, rfl, hU⟩, h1, h2, hm', hk', hg, fun n ha hb => ?_⟩
              refine ⟨.ref a, rfl, a, _, 1, .int m, rfl, rfl, hT, atI_nat (j := 1) rfl, .ref b, rfl, b, _, 1, .int k, rfl, rfl, hU, atI_nat (j := 1) rfl, m, k, rfl, by omega, by omega, n, _, rfl, Int.natCast_nonneg _, fun H' v s1 hv => ?_⟩
              exact q H' v _ s1 hv (meet_lcm h1 h2 hm' hk' ha hb)
        · rw [decide_eq_false hg]
          exact iteT (q H (.ref aE) [] (Same.refl H) ⟨aE, rfl, hE _⟩ (meet_gcd_no hg))
end
end K32

namespace K32
open PySem PySem.Spec PyProof.Rows L2
theorem abs_nat (i : Int) : (if i < 0 then -i else i) = (i.natAbs : Int) := by
  split <;> omega
/-- two rests guarded -/
def Gd (g : Str) (l1 l2 lx ly : List Int) : Prop :=
  if l1 = [] ∨ l2 = [] then lx = [] ∧ ly = [] else if g = "==" then IsMeet l1 l2 lx ∧ ly = lx else if g = "!=" ∧ l1 = l2 ∧ l1[1]? = some 0 then lx = [] ∧ ly = [] else lx = l1 ∧ ly = l2
theorem Gd.uniq {g : Str} {l1 l2 lx ly lx' ly' : List Int} (h : Gd g l1 l2 lx ly) (h' : Gd g l1 l2 lx' ly') : lx = lx' ∧ ly = ly' := by
  unfold Gd at h h'
  by_cases c1 : l1 = [] ∨ l2 = []
  · rw [if_pos c1] at h h'
    exact ⟨h.1.trans h'.1.symm, h.2.trans h'.2.symm⟩
  · rw [if_neg c1] at h h'
    by_cases c2 : g = "=="
    · rw [if_pos c2] at h h'
      have e := h.1.uniq h'.1
      exact ⟨e, by rw [h.2, h'.2, e]⟩
    · rw [if_neg c2] at h h'
      by_cases c3 : g = "!=" ∧ l1 = l2 ∧ l1[1]? = some 0
      · rw [if_pos c3] at h h'
        exact ⟨h.1.trans h'.1.symm, h.2.trans h'.2.symm⟩
      · rw [if_neg c3] at h h'
        exact ⟨h.1.trans h'.1.symm, h.2.trans h'.2.symm⟩
theorem Gd.rest {g : Str} {l1 l2 lx ly : List Int} (h : Gd g l1 l2 lx ly) (h1 : Rest l1) (h2 : Rest l2) : Rest lx ∧ Rest ly := by
  unfold Gd at h
  by_cases c1 : l1 = [] ∨ l2 = []
  · rw [if_pos c1] at h
    rw [h.1, h.2]
    exact ⟨.nil, .nil⟩
  · rw [if_neg c1] at h
    by_cases c2 : g = "=="
    · rw [if_pos c2] at h
      rw [h.2]
      exact ⟨h.1.1, h.1.1⟩
    · rw [if_neg c2] at h
      by_cases c3 : g = "!=" ∧ l1 = l2 ∧ l1[1]? = some 0
      · rw [if_pos c3] at h
        rw [h.1, h.2]
        exact ⟨.nil, .nil⟩
      · rw [if_neg c3] at h
        rw [h.1, h.2]
        exact ⟨h1, h2⟩
theorem gd_nil {g : Str} {l1 l2 : List Int} (h : l1 = [] ∨ l2 = []) : Gd g l1 l2 [] [] := by
  unfold Gd
  rw [if_pos h]
  exact ⟨rfl, rfl⟩
theorem gd_meet {g : Str} {l1 l2 l : List Int} (h : ¬ (l1 = [] ∨ l2 = [])) (hg : g = "==") (hm : IsMeet l1 l2 l) : Gd g l1 l2 l l := by
  unfold Gd
  rw [if_neg h, if_pos hg]
  exact ⟨hm, rfl⟩
theorem gd_one {g : Str} {l1 l2 : List Int} (h : ¬ (l1 = [] ∨ l2 = [])) (hg : ¬ g = "==") (h3 : g = "!=" ∧ l1 = l2 ∧ l1[1]? = some 0) : Gd g l1 l2 [] [] := by
  unfold Gd
  rw [if_neg h, if_neg hg, if_pos h3]
  exact ⟨rfl, rfl⟩
theorem gd_stay {g : Str} {l1 l2 : List Int} (h : ¬ (l1 = [] ∨ l2 = [])) (hg : ¬ g = "==") (h3 : ¬ (g = "!=" ∧ l1 = l2 ∧ l1[1]? = some 0)) : Gd g l1 l2 l1 l2 := by
  unfold Gd
  rw [if_neg h, if_neg hg, if_neg h3]
  exact ⟨rfl, rfl⟩
section
variable {P : Program} {w : World} {K : PySem.W.Frag} {mg : Str → Option Value} {base : Heap}
/-! ### is_only_nought -/
theorem sc_is_only_nought : FnScope ["rest"] ["rest"] (defScope s_is_only_nought) := ⟨rfl, rfl, rfl, by decide +kernel, rfl, by decide +kernel, by decide +kernel⟩
def sp_is_only_nought (K : PySem.W.Frag) : Sp := fun vs H Q _ => ∃ (v : V) (l : List Int), vs = [v] ∧ RT K H v l ∧ ∀ H', Same H H' → Q (.bl (decide (l = [0, 0]))) H'
theorem ok_is_only_nought (D : Df K mg "is_only_nought" s_is_only_nought ["rest"]) : Ok P w K mg base 1 "is_only_nought" ["rest"] (sp_is_only_nought K) := by
  refine D.ok sc_is_only_nought (fun vs H Q E h => ?_) (fun f cdv A outer st H vs Q E hr h => ?_)
  · obtain ⟨v, l, rfl, _⟩ := h
    rfl
  · obtain ⟨v, l, rfl, ⟨a, rfl, hT⟩, q⟩ := h
    refine ⟨_, pss_one (ps_ret (pe_cmpR (op_eqT hr.units) (pv 0) (pe_tup (pa_cons pe_int (pa_cons pe_int pa_nil))) (nomark _))), ?_⟩
    exact ⟨.ref a, rfl, le2, fun p np => ⟨a, p, l, [0, 0], rfl, rfl, Same.sqt (same_upd np) hT, .inl (.inl upd_same), q _ (same_upd np)⟩⟩
/-! ### quotient_rest -/
theorem sc_quotient_rest : FnScope ["rest", "other"] ["rest", "other"] (defScope s_quotient_rest) := ⟨rfl, rfl, rfl, by decide +kernel, rfl, by decide +kernel, by decide +kernel⟩
def sp_quo (K : PySem.W.Frag) : Sp := fun vs H Q _ => ∃ (v1 v2 : V) (l1 l2 : List Int), vs = [v1, v2] ∧ RT K H v1 l1 ∧ RT K H v2 l2 ∧ Rest l1 ∧ Rest l2 ∧ Bd 300 l2 ∧ ∀ H' v, Same H H' → RT K H' v (quo l1 l2) → Q v H'
theorem quo_nil_right (l : List Int) : quo l [] = [] := by
  unfold quo
  split <;> simp_all
theorem mdl_nil_right (l : List Int) : mdl l [] = [] := by
  unfold mdl
  split <;> simp_all
theorem pair_eq {r m : Int} : [r, m] = [0, 0] ↔ r = 0 ∧ m = 0 := by simp
theorem ok_quotient_rest (B : Bl mg) (C : Cn K mg) (O1 : Ok P w K mg base 1 "is_only_nought" ["rest"] (sp_is_only_nought K)) (O2 : Ok P w K mg base 1 "is_multiple" ["number", "many"] sp_is_multiple) (O3 : Ok P w K mg base 1 "rest_by" ["number", "many"] (sp_rest_by K))
    (D : Df K mg "quotient_rest" s_quotient_rest ["rest", "other"]) : Ok P w K mg base 2 "quotient_rest" ["rest", "other"] (sp_quo K) := by
  obtain ⟨aE, gE, hE⟩ := C.empty
  obtain ⟨aA, gA, hA⟩ := C.all
  refine D.ok sc_quotient_rest (fun vs H Q E h => ?_) (fun f cdv A outer st H vs Q E hr h => ?_)
  · obtain ⟨v1, v2, l1, l2, rfl, _⟩ := h
    rfl
  · obtain ⟨v1, v2, l1, l2, rfl, ⟨a, rfl, hT⟩, ⟨b, rfl, hU⟩, h1, h2, hb, q⟩ := h
    refine ⟨_, pss_cons (ps_if (PW.pt (pw_or (pt_cmpR (op_eqT hr.units) (pv 0) (pe_glob (v := .ref aE) rfl gE rfl) (nomark _)) (pw_or (pt_cmpR (op_eqT hr.units) (pv 1) (pe_glob (v := .ref aE) rfl gE rfl) (nomark _))
        (pw_or1 (pt_val (pe_ok O1 hr (pa_cons (pv 1) pa_nil))))))) (pss_one (ps_ret (pe_glob (v := .ref aE) rfl gE rfl))) pss_nil)
      (pss_cons (ps_if (pt_val (pe_ok O1 hr (pa_cons (pv 0) pa_nil))) (pss_one (ps_ret (pv 0))) pss_nil)
      (pss_cons (ps_if (PW.pt (pw_and (pt_cmpR op_eq (pe_ix ix_tup (pv 1) pe_int (fun _ _ => rfl)) pe_int (nomark _)) (pw_and1 (pt_val (pe_ok O2 hr (pa_cons (pe_ix ix_tup (pv 0) pe_int (fun _ _ => rfl)) (pa_cons (pe_ix ix_tup (pv 1) pe_int (fun _ _ => rfl)) pa_nil)))))))
        (pss_one (ps_ret (pe_ok O3 hr (pa_cons (pe_op op_fdivS (pe_ix ix_tup (pv 0) pe_int (fun _ _ => rfl)) (pe_ix ix_tup (pv 1) pe_int (fun _ _ => rfl))) (pa_cons (pe_callB call_abs (by rfl) B.abs PyProof.Rows.boot_abs (pa_cons (pe_op op_fdivS (pe_ix ix_tup (pv 0) pe_int (fun _ _ => rfl)) (pe_ix ix_tup (pv 1) pe_int (fun _ _ => rfl))) pa_nil)) pa_nil))))) pss_nil)
      (pss_one (ps_ret (pe_glob (v := .ref aA) rfl gA rfl))))), ?_⟩
    refine ⟨.ref a, rfl, a, aE, l1, [], rfl, rfl, hT, hE _, _, rfl, ?_⟩
    rcases h1.form with e | ⟨r, m, rfl⟩
    · subst e
      exact iteT (q H (.ref aE) (Same.refl H) ⟨aE, rfl, hE _⟩)
    · refine iteF ⟨.ref b, rfl, b, aE, l2, [], rfl, rfl, hU, hE _, _, rfl, ?_⟩
      rcases h2.form with e | ⟨s, k, rfl⟩
      · subst e
        refine iteT (q H (.ref aE) (Same.refl H) ?_)
        rw [quo_nil_right]
        exact ⟨aE, rfl, hE _⟩
      · refine iteF ⟨.ref b, rfl, .ref b, [s, k], rfl, ⟨b, rfl, hU⟩, fun H1 s1 => ⟨_, rfl, ?_⟩⟩
        have hT1 := Same.sqt s1 hT
        have hU1 := Same.sqt s1 hU
        have hq : quo [r, m] [s, k] = if s = 0 ∧ k = 0 then [] else if r = 0 ∧ m = 0 then [0, 0] else if k = 0 ∧ s ∣ m then restBy (r.fdiv s) ((m.fdiv s).natAbs : Int) else [0, 1] := rfl
        rw [hq] at q
        by_cases c1 : s = 0 ∧ k = 0
        · rw [if_pos c1] at q
          exact itT (pair_eq.mpr c1) (q H1 (.ref aE) s1 ⟨aE, rfl, hE _⟩)
        · rw [if_neg c1] at q
          refine itF (fun z => c1 (pair_eq.mp z)) ⟨.ref a, rfl, .ref a, [r, m], rfl, ⟨a, rfl, hT1⟩, fun H2 s2 => ⟨_, rfl, ?_⟩⟩
          have hT2 := Same.sqt s2 hT1
          have hU2 := Same.sqt s2 hU1
          have s02 := s1.trans s2
          by_cases c2 : r = 0 ∧ m = 0
          · rw [if_pos c2] at q
            refine itT (pair_eq.mpr c2) ⟨.ref a, rfl, q H2 (.ref a) s02 ?_⟩
            obtain ⟨rfl, rfl⟩ := c2
            exact ⟨a, rfl, hT2⟩
          · rw [if_neg c2] at q
            refine itF (fun z => c2 (pair_eq.mp z)) ⟨.ref b, rfl, b, _, 1, .int k, rfl, rfl, hU2, atI_nat (j := 1) rfl, rfl, _, rfl, it2 (fun hk => ?_) (fun hk => ?_)⟩
            · have hk' : k = 0 := V.int.inj hk
              refine ⟨.ref a, rfl, a, _, 1, .int m, rfl, rfl, hT2, atI_nat (j := 1) rfl, .ref b, rfl, b, _, 0, .int s, rfl, rfl, hU2, atI_nat (j := 0) rfl, m, s, rfl, _, rfl, it2 (fun hd => ?_) (fun hd => ?_)⟩
              · rw [if_pos ⟨hk', hd⟩] at q
                have hs : s ≠ 0 := fun z => c1 ⟨z, hk'⟩
                have hsb : s.natAbs < 2 ^ 300 := hb s (by simp)
                refine ⟨.ref a, rfl, a, _, 0, .int r, rfl, rfl, hT2, atI_nat (j := 0) rfl, .ref b, rfl, b, _, 0, .int s, rfl, rfl, hU2, atI_nat (j := 0) rfl, r, s, rfl, rfl, ⟨hs, hsb⟩, .ref a, rfl, a, _, 1, .int m, rfl, rfl, hT2, atI_nat (j := 1) rfl, .ref b, rfl, b, _, 0, .int s, rfl, rfl, hU2, atI_nat (j := 0) rfl, m, s, rfl, rfl, ⟨hs, hsb⟩, m.fdiv s, rfl, r.fdiv s, _, rfl, ?_, fun H3 v s3 hv => ?_⟩
                · rw [abs_nat]
                  exact Int.natCast_nonneg _
                · rw [abs_nat] at hv
                  exact q H3 v (s02.trans s3) hv
              · rw [if_neg (fun z => hd z.2)] at q
                exact q H2 (.ref aA) s02 ⟨aA, rfl, hA _⟩
            · rw [if_neg (fun z => hk (congrArg V.int z.1))] at q
              exact q H2 (.ref aA) s02 ⟨aA, rfl, hA _⟩
/-! ### modulo_rest -/
theorem sc_modulo_rest : FnScope ["rest", "other"] ["rest", "other"] (defScope s_modulo_rest) := ⟨rfl, rfl, rfl, by decide +kernel, rfl, by decide +kernel, by decide +kernel⟩
def sp_mdl (K : PySem.W.Frag) : Sp := fun vs H Q _ => ∃ (v1 v2 : V) (l1 l2 : List Int), vs = [v1, v2] ∧ RT K H v1 l1 ∧ RT K H v2 l2 ∧ Rest l1 ∧ Rest l2 ∧ ∀ H' v, Same H H' → RT K H' v (mdl l1 l2) → Q v H'
theorem ok_modulo_rest (C : Cn K mg) (O1 : Ok P w K mg base 1 "is_only_nought" ["rest"] (sp_is_only_nought K)) (O2 : Ok P w K mg base 1 "is_multiple" ["number", "many"] sp_is_multiple) (O3 : Ok P w K mg base 1 "rest_by" ["number", "many"] (sp_rest_by K))
    (D : Df K mg "modulo_rest" s_modulo_rest ["rest", "other"]) : Ok P w K mg base 2 "modulo_rest" ["rest", "other"] (sp_mdl K) := by
  obtain ⟨aE, gE, hE⟩ := C.empty
  refine D.ok sc_modulo_rest (fun vs H Q E h => ?_) (fun f cdv A outer st H vs Q E hr h => ?_)
  · obtain ⟨v1, v2, l1, l2, rfl, _⟩ := h
    rfl
  · obtain ⟨v1, v2, l1, l2, rfl, ⟨a, rfl, hT⟩, ⟨b, rfl, hU⟩, h1, h2, q⟩ := h
    refine ⟨_, pss_cons (ps_if (PW.pt (pw_or (pt_cmpR (op_eqT hr.units) (pv 0) (pe_glob (v := .ref aE) rfl gE rfl) (nomark _)) (pw_or (pt_cmpR (op_eqT hr.units) (pv 1) (pe_glob (v := .ref aE) rfl gE rfl) (nomark _))
        (pw_or1 (pt_val (pe_ok O1 hr (pa_cons (pv 1) pa_nil))))))) (pss_one (ps_ret (pe_glob (v := .ref aE) rfl gE rfl))) pss_nil)
      (pss_cons (ps_if (PW.pt (pw_and (pt_cmpR op_eq (pe_ix ix_tup (pv 1) pe_int (fun _ _ => rfl)) pe_int (nomark _)) (pw_and1 (pt_val (pe_ok O2 hr (pa_cons (pe_ix ix_tup (pv 0) pe_int (fun _ _ => rfl)) (pa_cons (pe_ix ix_tup (pv 1) pe_int (fun _ _ => rfl)) pa_nil)))))))
        (pss_one (ps_ret (pe_tup (pa_cons (pe_op op_modN (pe_ix ix_tup (pv 0) pe_int (fun _ _ => rfl)) (pe_ix ix_tup (pv 1) pe_int (fun _ _ => rfl))) (pa_cons pe_int pa_nil))))) pss_nil)
      (pss_one (ps_ret (pe_ok O3 hr (pa_cons (pe_ix ix_tup (pv 0) pe_int (fun _ _ => rfl)) (pa_cons (pe_callBfun cr_gcd3 (by rfl) C.gcd (pa_cons (pe_ix ix_tup (pv 0) pe_int (fun _ _ => rfl)) (pa_cons (pe_ix ix_tup (pv 1) pe_int (fun _ _ => rfl)) (pa_cons (pe_ix ix_tup (pv 1) pe_int (fun _ _ => rfl)) pa_nil)))) pa_nil)))))), ?_⟩
    refine ⟨.ref a, rfl, a, aE, l1, [], rfl, rfl, hT, hE _, _, rfl, ?_⟩
    rcases h1.form with e | ⟨r, m, rfl⟩
    · subst e
      exact iteT (q H (.ref aE) (Same.refl H) ⟨aE, rfl, hE _⟩)
    · refine iteF ⟨.ref b, rfl, b, aE, l2, [], rfl, rfl, hU, hE _, _, rfl, ?_⟩
      rcases h2.form with e | ⟨s, k, rfl⟩
      · subst e
        refine iteT (q H (.ref aE) (Same.refl H) ?_)
        rw [mdl_nil_right]
        exact ⟨aE, rfl, hE _⟩
      · refine iteF ⟨.ref b, rfl, .ref b, [s, k], rfl, ⟨b, rfl, hU⟩, fun H1 s1 => ⟨_, rfl, ?_⟩⟩
        have hT1 := Same.sqt s1 hT
        have hU1 := Same.sqt s1 hU
        have hq : mdl [r, m] [s, k] = if s = 0 ∧ k = 0 then [] else if k = 0 ∧ s ∣ m then [r.fmod s, 0] else restBy r (Int.gcd (Int.gcd m s : Nat) k : Nat) := rfl
        rw [hq] at q
        by_cases c1 : s = 0 ∧ k = 0
        · rw [if_pos c1] at q
          exact itT (pair_eq.mpr c1) (q H1 (.ref aE) s1 ⟨aE, rfl, hE _⟩)
        · rw [if_neg c1] at q
          refine itF (fun z => c1 (pair_eq.mp z)) ⟨.ref b, rfl, b, _, 1, .int k, rfl, rfl, hU1, atI_nat (j := 1) rfl, rfl, _, rfl, it2 (fun hk => ?_) (fun hk => ?_)⟩
          · have hk' : k = 0 := V.int.inj hk
            refine ⟨.ref a, rfl, a, _, 1, .int m, rfl, rfl, hT1, atI_nat (j := 1) rfl, .ref b, rfl, b, _, 0, .int s, rfl, rfl, hU1, atI_nat (j := 0) rfl, m, s, rfl, _, rfl, it2 (fun hd => ?_) (fun hd => ?_)⟩
            · rw [if_pos ⟨hk', hd⟩] at q
              have hs : s ≠ 0 := fun z => c1 ⟨z, hk'⟩
              exact ⟨.ref a, rfl, a, _, 0, .int r, rfl, rfl, hT1, atI_nat (j := 0) rfl, .ref b, rfl, b, _, 0, .int s, rfl, rfl, hU1, atI_nat (j := 0) rfl, r, s, rfl, rfl, hs, le2, fun p np => q _ _ (s1.trans (same_upd np)) ⟨p, rfl, .inl (.inl upd_same)⟩⟩
            · rw [if_neg (fun z => hd z.2)] at q
              exact ⟨.ref a, rfl, a, _, 0, .int r, rfl, rfl, hT1, atI_nat (j := 0) rfl, .ref a, rfl, a, _, 1, .int m, rfl, rfl, hT1, atI_nat (j := 1) rfl, .ref b, rfl, b, _, 0, .int s, rfl, rfl, hU1, atI_nat (j := 0) rfl, .ref b, rfl, b, _, 1, .int k, rfl, rfl, hU1, atI_nat (j := 1) rfl, m, s, k, rfl, r, _, rfl, Int.natCast_nonneg _, fun H3 v s3 hv => q H3 v (s1.trans s3) hv⟩
          · rw [if_neg (fun z => hk (congrArg V.int z.1))] at q
            exact ⟨.ref a, rfl, a, _, 0, .int r, rfl, rfl, hT1, atI_nat (j := 0) rfl, .ref a, rfl, a, _, 1, .int m, rfl, rfl, hT1, atI_nat (j := 1) rfl, .ref b, rfl, b, _, 0, .int s, rfl, rfl, hU1, atI_nat (j := 0) rfl, .ref b, rfl, b, _, 1, .int k, rfl, rfl, hU1, atI_nat (j := 1) rfl, m, s, k, rfl, r, _, rfl, Int.natCast_nonneg _, fun H3 v s3 hv => q H3 v (s1.trans s3) hv⟩
/-! ### wrapped_rest -/
theorem sc_wrapped_rest : FnScope ["rest", "width"] ["rest", "width"] (defScope s_wrapped_rest) := ⟨rfl, rfl, rfl, by decide +kernel, rfl, by decide +kernel, by decide +kernel⟩
def sp_wrapped (K : PySem.W.Frag) : Sp := fun vs H Q _ => ∃ (v1 : V) (l1 : List Int) (n : Nat), vs = [v1, .int n] ∧ RT K H v1 l1 ∧ Rest l1 ∧ 1 ≤ n ∧ n ≤ 16 ∧ ∀ H' v, Same H H' → RT K H' v (mdl l1 [2 ^ n, 0]) → Q v H'
theorem ok_wrapped_rest (O1 : Ok P w K mg base 2 "modulo_rest" ["rest", "other"] (sp_mdl K)) (D : Df K mg "wrapped_rest" s_wrapped_rest ["rest", "width"]) : Ok P w K mg base 3 "wrapped_rest" ["rest", "width"] (sp_wrapped K) := by
  refine D.ok sc_wrapped_rest (fun vs H Q E h => ?_) (fun f cdv A outer st H vs Q E hr h => ?_)
  · obtain ⟨v1, l1, n, rfl, _⟩ := h
    rfl
  · obtain ⟨v1, l1, n, rfl, hT, h1, hn, hn2, q⟩ := h
    refine ⟨_, pss_one (ps_ret (pe_ok O1 hr (pa_cons (pv 0) (pa_cons (pe_tup (pa_cons (pe_op op_shl pe_int (pv 1)) (pa_cons pe_int pa_nil))) pa_nil)))), ?_⟩
    refine ⟨v1, rfl, .int n, rfl, 1, n, rfl, rfl, ⟨Int.natCast_nonneg _, by omega, by decide⟩, le2, fun p np => ?_⟩
    have e : (1 : Int) * 2 ^ (n : Int).toNat = 2 ^ n := by rw [Int.toNat_natCast, Int.one_mul]
    refine ⟨v1, .ref p, l1, [1 * 2 ^ (n : Int).toNat, 0], rfl, hT.same (same_upd np), ⟨p, rfl, .inl (.inl upd_same)⟩, h1, .one _, fun H' v s1 hv => ?_⟩
    rw [e] at hv
    exact q H' v ((same_upd np).trans s1) hv
/-! ### guarded_rests -/
theorem sc_guarded_rests : FnScope ["guard", "rest", "other", "is_one"] ["guard", "rest", "other"] (defScope s_guarded_rests) := ⟨rfl, rfl, rfl, by decide +kernel, rfl, by decide +kernel, by decide +kernel⟩
def sp_guarded (K : PySem.W.Frag) : Sp := fun vs H Q _ => ∃ (g : Str) (v1 v2 : V) (l1 l2 : List Int), vs = [.str g, v1, v2] ∧ RT K H v1 l1 ∧ RT K H v2 l2 ∧ Rest l1 ∧ Rest l2 ∧
  ∀ H' p x y lx ly, Same H H' → SqT K H' p [x, y] → RT K H' x lx → RT K H' y ly → Gd g l1 l2 lx ly → Q (.ref p) H'
theorem ok_guarded_rests (C : Cn K mg) (O1 : Ok P w K mg base 4 "met_rest" ["rest", "other"] (sp_met_rest K)) (D : Df K mg "guarded_rests" s_guarded_rests ["guard", "rest", "other"]) : Ok P w K mg base 5 "guarded_rests" ["guard", "rest", "other"] (sp_guarded K) := by
  obtain ⟨aE, gE, hE⟩ := C.empty
  refine D.ok sc_guarded_rests (fun vs H Q E h => ?_) (fun f cdv A outer st H vs Q E hr h => ?_)
  · obtain ⟨g, v1, v2, l1, l2, rfl, _⟩ := h
    rfl
  · obtain ⟨g, v1, v2, l1, l2, rfl, ⟨a, rfl, hT⟩, ⟨b, rfl, hU⟩, h1, h2, q⟩ := h
    refine ⟨_, pss_cons (ps_if (PW.pt (pw_or (pt_cmpR (op_eqT hr.units) (pv 1) (pe_glob (v := .ref aE) rfl gE rfl) (nomark _)) (pw_or1 (pt_cmpR (op_eqT hr.units) (pv 2) (pe_glob (v := .ref aE) rfl gE rfl) (nomark _)))))
        (pss_one (ps_ret (pe_tup (pa_cons (pe_glob (v := .ref aE) rfl gE rfl) (pa_cons (pe_glob (v := .ref aE) rfl gE rfl) pa_nil))))) pss_nil)
      (pss_cons (ps_if (pt_cmpR op_eq (pv 0) pe_str (nomark _)) (pss_one (ps_ret (pe_op op_repT (pe_tup (pa_cons (pe_ok O1 hr (pa_cons (pv 1) (pa_cons (pv 2) pa_nil))) pa_nil)) pe_int))) pss_nil)
      (pss_cons (ps_set (i := 3) sc_guarded_rests.nd rfl (.inl rfl) (pe_and (pe_cmpR op_eq (pe_ix ix_tup (pv 1) pe_int (fun _ _ => rfl)) pe_int (nomark _)) (pe_one (pe_cmpR (op_eqT hr.units) (pv 1) (pv 2) (nomark _)))))
      (pss_one (ps_ret (pe_ifExp (PW.pt (pw_and (pt_cmpR op_eq (pv 0) pe_str (nomark _)) (pw_and1 (pt_val (pv 3))))) (pe_tup (pa_cons (pe_glob (v := .ref aE) rfl gE rfl) (pa_cons (pe_glob (v := .ref aE) rfl gE rfl) pa_nil))) (pe_tup (pa_cons (pv 1) (pa_cons (pv 2) pa_nil)))))))), ?_⟩
    refine ⟨.ref a, rfl, a, aE, l1, [], rfl, rfl, hT, hE _, _, rfl, ?_⟩
    rcases h1.form with e | ⟨r, m, rfl⟩
    · subst e
      exact iteT ⟨le2, fun p np => q _ p _ _ [] [] (same_upd np) (.inl (.inl upd_same)) ⟨aE, rfl, hE _⟩ ⟨aE, rfl, hE _⟩ (gd_nil (.inl rfl))⟩
    · refine iteF ⟨.ref b, rfl, b, aE, l2, [], rfl, rfl, hU, hE _, _, rfl, ?_⟩
      rcases h2.form with e | ⟨s, k, rfl⟩
      · subst e
        exact iteT ⟨le2, fun p np => q _ p _ _ [] [] (same_upd np) (.inl (.inl upd_same)) ⟨aE, rfl, hE _⟩ ⟨aE, rfl, hE _⟩ (gd_nil (.inr rfl))⟩
      · have hne : ¬ (([r, m] : List Int) = [] ∨ ([s, k] : List Int) = []) := by simp
        refine iteF ⟨.str g, rfl, rfl, _, rfl, it2 (fun hg => ?_) (fun hg => ?_)⟩
        · refine ⟨.ref a, rfl, .ref b, rfl, .ref a, .ref b, [r, m], [s, k], rfl, ⟨a, rfl, hT⟩, ⟨b, rfl, hU⟩, h1, h2, fun H1 v l s1 hv hM => ?_⟩
          refine ⟨le1, fun p np => ⟨p, 2, [v], rfl, rfl, .inl (.inl upd_same), by simp, by decide, by decide, by show 1 ≤ 1000; decide, fun p2 np2 => ?_⟩⟩
          have s2 : Same H1 (upd H1 p (.tup [v])) := same_upd np
          have s3 := s2.trans (same_upd np2 (o := .tup (List.replicate (2 : Int).toNat [v]).flatten))
          exact q _ p2 v v l l (s1.trans s3) (.inl (.inl upd_same)) (hv.same s3) (hv.same s3) (gd_meet hne (V.str.inj hg) hM)
        · have hg' : ¬ g = "==" := fun z => hg (congrArg V.str z)
          have key : ∀ c : Bool, (c = true → m = 0 ∧ [r, m] = [s, k]) → (c = false → ¬ (m = 0 ∧ [r, m] = [s, k])) →
              tRet (tIf (tAnd (tTest (tOp rEq (tVar 0) (tC (.str "!=")))) (tB (tVar 3))) (tTup (tCons (tC (.ref aE)) (tCons (tC (.ref aE)) tNil))) (tTup (tCons (tVar 1) (tCons (tVar 2) tNil)))) { nx := fun _ H' => Q .non H', rt := Q } [some (.str g), some (.ref a), some (.ref b), some (.bl c)] H := by
            intro c c1 c2
            refine ⟨.str g, rfl, rfl, _, rfl, it2 (fun hn => ?_) (fun hn => ?_)⟩
            · refine ⟨.bl c, rfl, c, rfl, ?_⟩
              cases c with
              | true =>
                refine iteT ⟨le2, fun p np => q _ p _ _ [] [] (same_upd np) (.inl (.inl upd_same)) ⟨aE, rfl, hE _⟩ ⟨aE, rfl, hE _⟩ (gd_one hne hg' ⟨V.str.inj hn, (c1 rfl).2, ?_⟩)⟩
                rw [(c1 rfl).1]
                rfl
              | false =>
                refine iteF ⟨.ref a, rfl, .ref b, rfl, le2, fun p np => q _ p _ _ [r, m] [s, k] (same_upd np) (.inl (.inl upd_same)) ⟨a, rfl, Same.sqt (same_upd np) hT⟩ ⟨b, rfl, Same.sqt (same_upd np) hU⟩ (gd_stay hne hg' fun z => ?_)⟩
                have z3 : some m = some (0 : Int) := z.2.2
                exact c2 rfl ⟨Option.some.inj z3, z.2.1⟩
            · exact ⟨.ref a, rfl, .ref b, rfl, le2, fun p np => q _ p _ _ [r, m] [s, k] (same_upd np) (.inl (.inl upd_same)) ⟨a, rfl, Same.sqt (same_upd np) hT⟩ ⟨b, rfl, Same.sqt (same_upd np) hU⟩ (gd_stay hne hg' fun z => hn (congrArg V.str z.1))⟩
          refine ⟨.ref a, rfl, a, _, 1, .int m, rfl, rfl, hT, atI_nat (j := 1) rfl, rfl, _, rfl, it2 (fun hm => ?_) (fun hm => ?_)⟩
          · refine ⟨.ref a, rfl, .ref b, rfl, a, b, [r, m], [s, k], rfl, rfl, hT, hU, ?_⟩
            exact key _ (fun z => ⟨V.int.inj hm, of_decide_eq_true z⟩) (fun z y => of_decide_eq_false z y.2)
          · exact key false (fun z => by cases z) (fun _ y => hm (congrArg V.int y.1))
end
end K32

namespace K32
open PySem PySem.Spec PyProof.Rows L2
/-- the keywords' values, turned about -/
abbrev gR : List Value → List Value → List Value := fun _ ws => ws.reverse
abbrev gVR : List V → List V → List V := fun _ zs => zs.reverse
/-- the four guards -/
def isG (g : Str) : Prop := g = "<" ∨ g = "<=" ∨ g = "==" ∨ g = "!="
section
variable {P : Program} {w : World} {K : PySem.W.Frag} {mg : Str → Option Value} {base : Heap}
/-! ### check_rest -/
theorem sc_check_rest : FnScope ["value"] ["value"] (defScope s_check_rest) := ⟨rfl, rfl, rfl, by decide +kernel, rfl, by decide +kernel, by decide +kernel⟩
def sp_check_rest (K : PySem.W.Frag) : Sp := fun vs H Q _ => ∃ (v : V) (l : List Int), vs = [v] ∧ RT K H v l ∧ Rest l ∧ ∀ H', Same H H' → Q .non H'
theorem ok_check_rest (O1 : Ok P w K mg base 3 "is_rested" ["value"] (sp_is_rested K)) (D : Df K mg "check_rest" s_check_rest ["value"]) : Ok P w K mg base 4 "check_rest" ["value"] (sp_check_rest K) := by
  refine D.ok sc_check_rest (fun vs H Q E h => ?_) (fun f cdv A outer st H vs Q E hr h => ?_)
  · obtain ⟨v, l, rfl, _⟩ := h
    rfl
  · obtain ⟨v, l, rfl, hT, hR, q⟩ := h
    refine ⟨_, pss_one (ps_if (pt_not (pt_val (pe_ok O1 hr (pa_cons (pv 0) pa_nil)))) pss_never pss_nil), ?_⟩
    exact ⟨v, rfl, v, l, rfl, hT, hR, fun H' s1 => ⟨true, rfl, iteF (q H' s1)⟩⟩
/-! ### check_rests -/
theorem sc_check_rests : FnScope ["rest", "other"] ["rest", "other"] (defScope s_check_rests) := ⟨rfl, rfl, rfl, by decide +kernel, rfl, by decide +kernel, by decide +kernel⟩
def sp_check_rests (K : PySem.W.Frag) : Sp := fun vs H Q _ => ∃ (v1 v2 : V) (l1 l2 : List Int), vs = [v1, v2] ∧ RT K H v1 l1 ∧ RT K H v2 l2 ∧ Rest l1 ∧ Rest l2 ∧ ∀ H', Same H H' → Q .non H'
theorem ok_check_rests (O1 : Ok P w K mg base 4 "check_rest" ["value"] (sp_check_rest K)) (D : Df K mg "check_rests" s_check_rests ["rest", "other"]) : Ok P w K mg base 5 "check_rests" ["rest", "other"] (sp_check_rests K) := by
  refine D.ok sc_check_rests (fun vs H Q E h => ?_) (fun f cdv A outer st H vs Q E hr h => ?_)
  · obtain ⟨v1, v2, l1, l2, rfl, _⟩ := h
    rfl
  · obtain ⟨v1, v2, l1, l2, rfl, hT, hU, h1, h2, q⟩ := h
    refine ⟨_, pss_cons (ps_expr (pe_ok O1 hr (pa_cons (pv 0) pa_nil))) (pss_one (ps_expr (pe_ok O1 hr (pa_cons (pv 1) pa_nil)))), ?_⟩
    exact ⟨v1, rfl, v1, l1, rfl, hT, h1, fun H1 s1 => ⟨v2, rfl, v2, l2, rfl, hU.same s1, h2, fun H2 s2 => q H2 (s1.trans s2)⟩⟩
/-! ### check_whole -/
theorem sc_check_whole : FnScope ["value"] ["value"] (defScope s_check_whole) := ⟨rfl, rfl, rfl, by decide +kernel, rfl, by decide +kernel, by decide +kernel⟩
def sp_check_whole : Sp := fun vs H Q _ => ∃ n : Int, vs = [.int n] ∧ Q .non H
theorem ok_check_whole (O1 : Ok P w K mg base 1 "is_whole" ["value"] sp_is_whole) (D : Df K mg "check_whole" s_check_whole ["value"]) : Ok P w K mg base 2 "check_whole" ["value"] sp_check_whole := by
  refine D.ok sc_check_whole (fun vs H Q E h => ?_) (fun f cdv A outer st H vs Q E hr h => ?_)
  · obtain ⟨n, rfl, _⟩ := h
    rfl
  · obtain ⟨n, rfl, q⟩ := h
    refine ⟨_, pss_one (ps_if (pt_not (pt_val (pe_ok O1 hr (pa_cons (pv 0) pa_nil)))) pss_never pss_nil), ?_⟩
    exact ⟨.int n, rfl, n, rfl, true, rfl, iteF q⟩
/-! ### check_width -/
theorem sc_check_width : FnScope ["value"] ["value"] (defScope s_check_width) := ⟨rfl, rfl, rfl, by decide +kernel, rfl, by decide +kernel, by decide +kernel⟩
def sp_check_width : Sp := fun vs H Q _ => ∃ n : Int, vs = [.int n] ∧ 1 ≤ n ∧ n ≤ 16 ∧ Q .non H
theorem ok_check_width (C : Cn K mg) (O1 : Ok P w K mg base 2 "is_between" ["value", "low", "high"] sp_is_between) (D : Df K mg "check_width" s_check_width ["value"]) : Ok P w K mg base 3 "check_width" ["value"] sp_check_width := by
  obtain ⟨tW, gW⟩ := C.width
  refine D.ok sc_check_width (fun vs H Q E h => ?_) (fun f cdv A outer st H vs Q E hr h => ?_)
  · obtain ⟨n, rfl, _⟩ := h
    rfl
  · obtain ⟨n, rfl, h1, h2, q⟩ := h
    refine ⟨_, pss_one (ps_if (pt_not (pt_val (pe_ok O1 hr (pa_cons (pv 0) (pa_cons pe_int (pa_cons (pe_glob (v := .int 16) rfl gW ⟨_, rfl⟩) pa_nil)))))) pss_never pss_nil), ?_⟩
    exact ⟨.int n, rfl, n, 1, 16, rfl, h1, h2, true, rfl, iteF q⟩
/-! ### check_guard -/
theorem sc_check_guard : FnScope ["value"] ["value"] (defScope s_check_guard) := ⟨rfl, rfl, rfl, by decide +kernel, rfl, by decide +kernel, by decide +kernel⟩
def sp_check_guard : Sp := fun vs H Q _ => ∃ g : Str, vs = [.str g] ∧ isG g ∧ Q .non H
theorem guards_in {g : Str} (h : isG g) : inV (.str g) [.str "<", .str "<=", .str "==", .str "!="] = true := by
  rcases h with rfl | rfl | rfl | rfl <;> decide +kernel
theorem ok_check_guard (B : Bl mg) (C : Cn K mg) (D : Df K mg "check_guard" s_check_guard ["value"]) : Ok P w K mg base 1 "check_guard" ["value"] sp_check_guard := by
  obtain ⟨aG, gG, hG⟩ := C.guards
  refine D.ok sc_check_guard (fun vs H Q E h => ?_) (fun f cdv A outer st H vs Q E hr h => ?_)
  · obtain ⟨g, rfl, _⟩ := h
    rfl
  · obtain ⟨g, rfl, h1, q⟩ := h
    refine ⟨_, pss_one (ps_if (PW.pt (pw_or (pt_not (pt_val (pe_callB call_isi (by rfl) B.isinstance boot_isinstance (pa_cons (pv 0) (pa_cons (pe_bltn (v := .ty "str") (by rfl) B.str PyProof.Rows.boot_str rfl) pa_nil))))) (pw_or1 (pt_cmpR op_notIn_seq (pv 0) (pe_glob (v := .ref aG) rfl gG rfl) (by rfl))))) pss_never pss_nil), ?_⟩
    refine ⟨.str g, rfl, .str g, .ty "str", .type "str", .type "str", true, rfl, .ty _, .base (.str g), kit_ty (by decide +kernel), true, rfl, iteF ?_⟩
    refine ⟨.str g, rfl, aG, _, rfl, .inr (hG _), rfl, rfl, _, rfl, ?_⟩
    rw [guards_in h1]
    exact iteF q
/-! ### rest_holds -/
theorem sc_rest_holds : FnScope ["rest", "number"] ["rest", "number"] (defScope s_rest_holds) := ⟨rfl, rfl, rfl, by decide +kernel, rfl, by decide +kernel, by decide +kernel⟩
def sp_rest_holds (K : PySem.W.Frag) : Sp := fun vs H Q _ => ∃ (v : V) (l : List Int) (n : Int), vs = [v, .int n] ∧ RT K H v l ∧ Rest l ∧ ∀ H', Same H H' → Q (.bl (has l n)) H'
theorem ok_rest_holds (O1 : Ok P w K mg base 4 "check_rest" ["value"] (sp_check_rest K)) (O2 : Ok P w K mg base 2 "check_whole" ["value"] sp_check_whole) (O3 : Ok P w K mg base 2 "is_left" ["rest", "number"] (sp_is_left K)) (D : Df K mg "rest_holds" s_rest_holds ["rest", "number"]) :
    Ok P w K mg base 5 "rest_holds" ["rest", "number"] (sp_rest_holds K) := by
  refine D.ok sc_rest_holds (fun vs H Q E h => ?_) (fun f cdv A outer st H vs Q E hr h => ?_)
  · obtain ⟨v, l, n, rfl, _⟩ := h
    rfl
  · obtain ⟨v, l, n, rfl, hT, hR, q⟩ := h
    refine ⟨_, pss_cons (ps_expr (pe_ok O1 hr (pa_cons (pv 0) pa_nil))) (pss_cons (ps_expr (pe_ok O2 hr (pa_cons (pv 1) pa_nil))) (pss_one (ps_ret (pe_ok O3 hr (pa_cons (pv 0) (pa_cons (pv 1) pa_nil)))))), ?_⟩
    exact ⟨v, rfl, v, l, rfl, hT, hR, fun H1 s1 => ⟨.int n, rfl, n, rfl, v, rfl, .int n, rfl, v, l, n, rfl, hT.same s1, hR, q H1 s1⟩⟩
/-! ### rest_quotient -/
theorem sc_rest_quotient : FnScope ["rest", "other"] ["rest", "other"] (defScope s_rest_quotient) := ⟨rfl, rfl, rfl, by decide +kernel, rfl, by decide +kernel, by decide +kernel⟩
theorem ok_rest_quotient (O1 : Ok P w K mg base 5 "check_rests" ["rest", "other"] (sp_check_rests K)) (O2 : Ok P w K mg base 2 "quotient_rest" ["rest", "other"] (sp_quo K)) (D : DfK K mg "rest_quotient" s_rest_quotient ["rest", "other"] ["other", "rest"] gR gVR) :
    OkK P w K mg base 6 "rest_quotient" ["rest", "other"] ["other", "rest"] gR gVR (sp_quo K) := by
  refine D.ok sc_rest_quotient (fun vs H Q E h => ?_) (fun f cdv A outer st H vs Q E hr h => ?_)
  · obtain ⟨v1, v2, l1, l2, rfl, _⟩ := h
    rfl
  · obtain ⟨v1, v2, l1, l2, rfl, hT, hU, h1, h2, hb, q⟩ := h
    refine ⟨_, pss_cons (ps_expr (pe_ok O1 hr (pa_cons (pv 0) (pa_cons (pv 1) pa_nil)))) (pss_one (ps_ret (pe_ok O2 hr (pa_cons (pv 0) (pa_cons (pv 1) pa_nil))))), ?_⟩
    exact ⟨v1, rfl, v2, rfl, v1, v2, l1, l2, rfl, hT, hU, h1, h2, fun H1 s1 => ⟨v1, rfl, v2, rfl, v1, v2, l1, l2, rfl, hT.same s1, hU.same s1, h1, h2, hb, fun H2 v s2 hv => q H2 v (s1.trans s2) hv⟩⟩
/-! ### rest_modulo -/
theorem sc_rest_modulo : FnScope ["rest", "other"] ["rest", "other"] (defScope s_rest_modulo) := ⟨rfl, rfl, rfl, by decide +kernel, rfl, by decide +kernel, by decide +kernel⟩
theorem ok_rest_modulo (O1 : Ok P w K mg base 5 "check_rests" ["rest", "other"] (sp_check_rests K)) (O2 : Ok P w K mg base 2 "modulo_rest" ["rest", "other"] (sp_mdl K)) (D : DfK K mg "rest_modulo" s_rest_modulo ["rest", "other"] ["other", "rest"] gR gVR) :
    OkK P w K mg base 6 "rest_modulo" ["rest", "other"] ["other", "rest"] gR gVR (sp_mdl K) := by
  refine D.ok sc_rest_modulo (fun vs H Q E h => ?_) (fun f cdv A outer st H vs Q E hr h => ?_)
  · obtain ⟨v1, v2, l1, l2, rfl, _⟩ := h
    rfl
  · obtain ⟨v1, v2, l1, l2, rfl, hT, hU, h1, h2, q⟩ := h
    refine ⟨_, pss_cons (ps_expr (pe_ok O1 hr (pa_cons (pv 0) (pa_cons (pv 1) pa_nil)))) (pss_one (ps_ret (pe_ok O2 hr (pa_cons (pv 0) (pa_cons (pv 1) pa_nil))))), ?_⟩
    exact ⟨v1, rfl, v2, rfl, v1, v2, l1, l2, rfl, hT, hU, h1, h2, fun H1 s1 => ⟨v1, rfl, v2, rfl, v1, v2, l1, l2, rfl, hT.same s1, hU.same s1, h1, h2, fun H2 v s2 hv => q H2 v (s1.trans s2) hv⟩⟩
/-! ### rest_wrapped -/
theorem sc_rest_wrapped : FnScope ["rest", "width"] ["rest", "width"] (defScope s_rest_wrapped) := ⟨rfl, rfl, rfl, by decide +kernel, rfl, by decide +kernel, by decide +kernel⟩
theorem ok_rest_wrapped (O1 : Ok P w K mg base 4 "check_rest" ["value"] (sp_check_rest K)) (O2 : Ok P w K mg base 3 "check_width" ["value"] sp_check_width) (O3 : Ok P w K mg base 3 "wrapped_rest" ["rest", "width"] (sp_wrapped K))
    (D : DfK K mg "rest_wrapped" s_rest_wrapped ["rest", "width"] ["width", "rest"] gR gVR) : OkK P w K mg base 5 "rest_wrapped" ["rest", "width"] ["width", "rest"] gR gVR (sp_wrapped K) := by
  refine D.ok sc_rest_wrapped (fun vs H Q E h => ?_) (fun f cdv A outer st H vs Q E hr h => ?_)
  · obtain ⟨v1, l1, n, rfl, _⟩ := h
    rfl
  · obtain ⟨v1, l1, n, rfl, hT, h1, hn, hn2, q⟩ := h
    refine ⟨_, pss_cons (ps_expr (pe_ok O1 hr (pa_cons (pv 0) pa_nil))) (pss_cons (ps_expr (pe_ok O2 hr (pa_cons (pv 1) pa_nil))) (pss_one (ps_ret (pe_ok O3 hr (pa_cons (pv 0) (pa_cons (pv 1) pa_nil)))))), ?_⟩
    exact ⟨v1, rfl, v1, l1, rfl, hT, h1, fun H1 s1 => ⟨.int n, rfl, n, rfl, by omega, by omega, v1, rfl, .int n, rfl, v1, l1, n, rfl, hT.same s1, h1, hn, hn2, fun H2 v s2 hv => q H2 v (s1.trans s2) hv⟩⟩
/-! ### rest_guarded -/
theorem sc_rest_guarded : FnScope ["guard", "rest", "other"] ["guard", "rest", "other"] (defScope s_rest_guarded) := ⟨rfl, rfl, rfl, by decide +kernel, rfl, by decide +kernel, by decide +kernel⟩
def sp_rest_guarded (K : PySem.W.Frag) : Sp := fun vs H Q E => sp_guarded K vs H Q E ∧ ∃ (g : Str) (v1 v2 : V), vs = [.str g, v1, v2] ∧ isG g
theorem ok_rest_guarded (O1 : Ok P w K mg base 1 "check_guard" ["value"] sp_check_guard) (O2 : Ok P w K mg base 5 "check_rests" ["rest", "other"] (sp_check_rests K)) (O3 : Ok P w K mg base 5 "guarded_rests" ["guard", "rest", "other"] (sp_guarded K))
    (D : DfK K mg "rest_guarded" s_rest_guarded ["guard", "rest", "other"] ["other", "rest", "guard"] gR gVR) : OkK P w K mg base 6 "rest_guarded" ["guard", "rest", "other"] ["other", "rest", "guard"] gR gVR (sp_rest_guarded K) := by
  refine D.ok sc_rest_guarded (fun vs H Q E h => ?_) (fun f cdv A outer st H vs Q E hr h => ?_)
  · obtain ⟨_, g, v1, v2, rfl, _⟩ := h
    rfl
  · obtain ⟨⟨g, v1, v2, l1, l2, rfl, hT, hU, h1, h2, q⟩, g', w1, w2, e, hg⟩ := h
    have eg : g = g' := by
      injection e with e1 _
      exact V.str.inj e1
    subst eg
    refine ⟨_, pss_cons (ps_expr (pe_ok O1 hr (pa_cons (pv 0) pa_nil))) (pss_cons (ps_expr (pe_ok O2 hr (pa_cons (pv 1) (pa_cons (pv 2) pa_nil)))) (pss_one (ps_ret (pe_ok O3 hr (pa_cons (pv 0) (pa_cons (pv 1) (pa_cons (pv 2) pa_nil))))))), ?_⟩
    exact ⟨.str g, rfl, g, rfl, hg, v1, rfl, v2, rfl, v1, v2, l1, l2, rfl, hT, hU, h1, h2, fun H1 s1 => ⟨.str g, rfl, v1, rfl, v2, rfl, g, v1, v2, l1, l2, rfl, hT.same s1, hU.same s1, h1, h2, fun H2 p x y lx ly s2 => q H2 p x y lx ly (s1.trans s2)⟩⟩
end
end K32

namespace K32
open PySem PySem.Spec PyProof.Rows L2
section
variable {P : Program} {w : World} {K : PySem.W.Frag} {mg : Str → Option Value} {base : Heap}
/-! ### _law_source -/
theorem sc_source : FnScope ["_law_script", "_law_turn", "_law_mixed", "_law_cell", "_law_own"] ["_law_script", "_law_turn"] (defScope s_source) := ⟨rfl, rfl, rfl, by decide +kernel, rfl, by decide +kernel, by decide +kernel⟩
def sp_source (K : PySem.W.Frag) : Sp := fun vs H Q _ => ∃ (a : Addr) (ns : List Int) (t : Int), vs = [.ref a, .int t] ∧ SqL K H a (ns.map V.int) ∧ 0 ≤ t ∧ ∀ H' p, Same H H' → H p = none → Src H' p → Q (.ref p) H'
theorem ok_source (B : Bl mg) (D : Df K mg "_law_source" s_source ["_law_script", "_law_turn"]) : Ok P w K mg base 1 "_law_source" ["_law_script", "_law_turn"] (sp_source K) := by
  refine D.ok sc_source (fun vs H Q E h => ?_) (fun f cdv A outer st H vs Q E hr h => ?_)
  · obtain ⟨a, ns, t, rfl, _⟩ := h
    rfl
  · obtain ⟨a, ns, t, rfl, hS, ht, q⟩ := h
    refine ⟨_, pss_cons (ps_set (i := 2) sc_source.nd rfl (.inl rfl) (pe_op op_add pe_int (pe_op op_mul pe_int (pv 1))))
      (pss_cons (ps_for PassesOwn.never rfl (pi_list (pe_slice sl_list (pv 0) po_none (po_some pe_int))) (pg_name (i := 3) sc_source.nd rfl (.inl rfl))
        (pss_one (ps_set (i := 2) sc_source.nd rfl (.inl rfl) (pe_op op_mod (pe_callTy call_int1 (by rfl) B.int PyProof.Rows.boot_int (pa_cons (pe_op op_add (pe_op op_add (pe_op op_mul (pv 2) pe_int) (pe_op op_mod (pe_callTy call_int1 (by rfl) B.int PyProof.Rows.boot_int (pa_cons (pv 3) pa_nil)) pe_int)) pe_int) pa_nil)) pe_int))))
      (pss_cons (ps_set (i := 4) sc_source.nd rfl (.inl rfl) (pe_ifExp (pt_cmpR op_lt (pv 1) (pe_callB call_len_seq (by rfl) B.len PySem.boot_len (pa_cons (pv 0) pa_nil)) (nomark _)) (pe_callTy call_int1 (by rfl) B.int PyProof.Rows.boot_int (pa_cons (pe_ix ix_list (pv 0) (pv 1) (fun _ _ => rfl)) pa_nil)) pe_int))
      (pss_cons (ps_set (i := 2) sc_source.nd rfl (.inl rfl) (pe_op op_mod (pe_callTy call_int1 (by rfl) B.int PyProof.Rows.boot_int (pa_cons (pe_op op_add (pe_op op_add (pe_op op_mul (pv 2) pe_int) (pe_op op_mul (pe_op op_mod (pe_callTy call_int1 (by rfl) B.int PyProof.Rows.boot_int (pa_cons (pv 4) pa_nil)) pe_int) pe_int)) pe_int) pa_nil)) pe_int))
      (pss_one (ps_ret (pe_lst (pa_cons (pe_ifExp (PW.pt (pw_or (pt_cmpR op_lt (pv 4) pe_int (nomark _)) (pw_or1 (pt_cmpR op_ge (pv 4) (pe_op op_pow pe_int pe_int) (nomark _))))) (pe_callB call_abs (by rfl) B.abs PyProof.Rows.boot_abs (pa_cons (pv 4) pa_nil)) pe_int)
        (pa_cons (pv 2) (pa_cons pe_int pa_nil))))))))), ?_⟩
    refine ⟨.int t, rfl, 9176, t, rfl, rfl, .inl ⟨by decide, by decide⟩, _, _, rfl, rfl, ?_⟩
    refine ⟨.ref a, rfl, 10, rfl, a, ns.map V.int, rfl, hS, fun c nc => ?_⟩
    have s1 : Same H (upd H c (.lst (cutV (ns.map V.int) none (some 10)))) := same_upd nc
    refine ⟨c, rfl, ⟨_, .inl (.inl upd_same)⟩, for_list (K := K) (a := c) (xs := cutV (ns.map V.int) none (some 10)) (fun i σ H' => ∃ (m : Int) (y : Option V), σ = [some (.ref a), some (.int t), some (.int m), y, none] ∧ H' = upd H c (.lst (cutV (ns.map V.int) none (some 10))))
      ⟨_, none, rfl, rfl⟩ (fun i σ H' _ ⟨_, _, _, e⟩ => by rw [e]; exact .inl (.inl upd_same)) (fun i x σ H' hx hP => ?_) (fun σ H' hP => ?_)⟩
    · obtain ⟨m, y, rfl, rfl⟩ := hP
      obtain ⟨n, _, rfl⟩ := List.mem_map.mp (List.mem_of_mem_drop (List.mem_of_mem_take (List.mem_of_getElem? hx)))
      exact ⟨.int m, rfl, m, 30011, rfl, rfl, .inr ⟨by decide, by decide⟩, .int n, rfl, .inl ⟨n, rfl, n, 1000000007, rfl, rfl, (by show (0 : Int) < 1000000007; decide), _, _, rfl, rfl, _, 3, rfl, rfl, .inl ⟨_, rfl, _, 2147483629, rfl, rfl, (by show (0 : Int) < 2147483629; decide), _, _, rfl, rfl⟩⟩⟩
    · obtain ⟨m, y, rfl, rfl⟩ := hP
      have key : ∀ own : Int, tSeq (tAsg (tOp (rI (fun _ j => 0 < j) fun i j => .int (i % j)) (tCB (fun xs H Q => (∃ i, xs = [.int i] ∧ Q (.int i) H) ∨ ∃ k, xs = [.bl k] ∧ Q (.int (if k then 1 else 0)) H) (tCons (tOp (rI0 fun i j => .int (i + j)) (tOp (rI0 fun i j => .int (i + j)) (tOp (rI CMul fun i j => .int (i * j)) (tVar 2) (tC (.int 59)))
            (tOp (rI CMul fun i j => .int (i * j)) (tOp (rI (fun _ j => 0 < j) fun i j => .int (i % j)) (tCB (fun xs H Q => (∃ i, xs = [.int i] ∧ Q (.int i) H) ∨ ∃ k, xs = [.bl k] ∧ Q (.int (if k then 1 else 0)) H) (tCons (tVar 4) tNil)) (tC (.int 1000000007))) (tC (.int 15013)))) (tC (.int 11))) tNil)) (tC (.int 2147483629))) (gName 2))
          (tRet (tLst (tCons (tIf (tOr (tTest (tOp (rI0 fun i j => .bl (decide (i < j))) (tVar 4) (tC (.int 0)))) (tTest (tOp (rI0 fun i j => .bl (decide (j ≤ i))) (tVar 4) (tOp (rI CPow fun i j => .int (i ^ j.toNat)) (tC (.int 10)) (tC (.int 15))))))
            (tCB (fun xs H Q => ∃ i, xs = [.int i] ∧ Q (.int (if i < 0 then -i else i)) H) (tCons (tVar 4) tNil)) (tC (.int 0))) (tCons (tVar 2) (tCons (tC (.int 0)) tNil)))))
          { nx := fun _ H' => Q .non H', rt := Q } [some (.ref a), some (.int t), some (.int m), y, some (.int own)] (upd H c (.lst (cutV (ns.map V.int) none (some 10)))) := by
        intro own
        refine ⟨.int m, rfl, m, 59, rfl, rfl, .inr ⟨by decide, by decide⟩, .int own, rfl, .inl ⟨own, rfl, own, 1000000007, rfl, rfl, (by show (0 : Int) < 1000000007; decide), _, 15013, rfl, rfl, .inr ⟨by decide, by decide⟩, _, _, rfl, rfl, _, 11, rfl, rfl, .inl ⟨_, rfl, _, 2147483629, rfl, rfl, (by show (0 : Int) < 2147483629; decide), ?_⟩⟩⟩
        refine ⟨.int own, rfl, own, 0, rfl, rfl, _, rfl, it2 (fun _ => ?_) (fun _ => ?_)⟩
        · exact iteT ⟨.int own, rfl, own, rfl, .int _, rfl, le3, fun p np => q _ p (s1.trans (same_upd np)) (s1.free np) ⟨_, _, _, upd_same⟩⟩
        · refine ⟨.int own, rfl, 10, 15, rfl, rfl, ⟨by decide, by decide, by decide⟩, own, _, rfl, rfl, _, rfl, it2 (fun _ => ?_) (fun _ => ?_)⟩
          · exact ⟨.int own, rfl, own, rfl, .int _, rfl, le3, fun p np => q _ p (s1.trans (same_upd np)) (s1.free np) ⟨_, _, _, upd_same⟩⟩
          · exact ⟨.int _, rfl, le3, fun p np => q _ p (s1.trans (same_upd np)) (s1.free np) ⟨_, _, _, upd_same⟩⟩
      have hS1 := s1.seq hS
      refine ⟨.int t, rfl, .ref a, rfl, a, ns.map V.int, rfl, .inl hS1, t, _, rfl, rfl, _, rfl, it2 (fun hlt => ?_) (fun _ => key 0)⟩
      rw [List.length_map] at hlt
      have hi : t.toNat < ns.length := by omega
      exact ⟨.ref a, rfl, .int t, rfl, a, ns.map V.int, t, .int ns[t.toNat], rfl, rfl, hS1, at_of (j := t.toNat) (by omega) (by rw [List.getElem?_map, List.getElem?_eq_getElem hi]; rfl), .inl ⟨_, rfl, key _⟩⟩
/-! ### _law_take -/
theorem sc_take : FnScope ["_law_source_here", "_law_many", "_law_figure", "_law_mixed"] ["_law_source_here", "_law_many"] (defScope s_take) := ⟨rfl, rfl, rfl, by decide +kernel, rfl, by decide +kernel, by decide +kernel⟩
def sp_take : Sp := fun vs H Q _ => ∃ (a : Addr) (k : Int), vs = [.ref a, .int k] ∧ Src H a ∧ 0 < k ∧ k < 1073741824 ∧ ∀ H' t, SB a H H' → Src H' a → 0 ≤ t → t < k → Q (.int t) H'
theorem ok_take (B : Bl mg) (D : Df K mg "_law_take" s_take ["_law_source_here", "_law_many"]) : Ok P w K mg base 1 "_law_take" ["_law_source_here", "_law_many"] sp_take := by
  refine D.ok sc_take (fun vs H Q E h => ?_) (fun f cdv A outer st H vs Q E hr h => ?_)
  · obtain ⟨a, k, rfl, _⟩ := h
    rfl
  · obtain ⟨a, k, rfl, ⟨g, m, c, ha⟩, k0, k1, q⟩ := h
    refine ⟨_, pss_cons (ps_if (pt_cmpR op_gt (pe_ix ix_list (pv 0) pe_int (fun _ _ => rfl)) pe_int (nomark _))
        (pss_cons (ps_asg (pe_callB call_divmod (by rfl) B.divmod PyProof.Rows.boot_divmod (pa_cons (pe_ix ix_list (pv 0) pe_int (fun _ _ => rfl)) (pa_cons (pv 1) pa_nil))) (pg_tup rfl (pgs_cons (pg_sub (pv 0) pe_int set_list) (pgs_cons (pg_name (i := 2) sc_take.nd rfl (.inl rfl)) pgs_nil))))
          (pss_one (ps_ret (pv 2)))) pss_nil)
      (pss_cons (ps_asg (pe_op op_add (pe_ix ix_list (pv 0) pe_int (fun _ _ => rfl)) pe_int) (pg_sub (pv 0) pe_int set_list))
      (pss_cons (ps_set (i := 3) sc_take.nd rfl (.inl rfl) (pe_op op_mod (pe_callTy call_int1 (by rfl) B.int PyProof.Rows.boot_int (pa_cons (pe_op op_add (pe_ix ix_list (pv 0) pe_int (fun _ _ => rfl)) (pe_op op_mul pe_int (pe_ix ix_list (pv 0) pe_int (fun _ _ => rfl)))) pa_nil)) pe_int))
      (pss_cons (ps_asg (pe_op op_mod (pe_callTy call_int1 (by rfl) B.int PyProof.Rows.boot_int (pa_cons (pe_op op_add (pe_op op_mul (pv 3) (pe_op op_add (pe_op op_mod (pe_callTy call_int1 (by rfl) B.int PyProof.Rows.boot_int (pa_cons (pv 3) pa_nil)) pe_int) pe_int)) (pe_op op_mul pe_int (pe_ix ix_list (pv 0) pe_int (fun _ _ => rfl)))) pa_nil)) pe_int) (pg_sub (pv 0) pe_int set_list))
      (pss_one (ps_ret (pe_op op_mod (pe_callTy call_int1 (by rfl) B.int PyProof.Rows.boot_int (pa_cons (pe_op op_fdivN (pe_ix ix_list (pv 0) pe_int (fun _ _ => rfl)) pe_int) pa_nil)) (pv 1))))))), ?_⟩
    refine ⟨.ref a, rfl, a, _, 0, .int g, rfl, rfl, .inl (.inl ha), atI_nat (j := 0) rfl, g, 0, rfl, rfl, _, rfl, it2 (fun _ => ?_) (fun _ => ?_)⟩
    · refine ⟨.ref a, rfl, a, _, 0, .int g, rfl, rfl, .inl (.inl ha), atI_nat (j := 0) rfl, .int k, rfl, g, k, rfl, ⟨k0, k1⟩, fun p np => ?_⟩
      have ha1 : (upd H p (.tup [.int (g / k), .int (g % k)])) a = some (.lst [.int g, .int m, .int c]) := by
        rw [upd_ne (ne_of_none ha np)]
        exact ha
      refine ⟨p, _, rfl, .inl (.inl upd_same), rfl, _, _, rfl, .ref a, rfl, a, _, 0, 0, rfl, rfl, ha1, rfl, _, _, rfl, rfl, ?_⟩
      exact ⟨.int (g % k), rfl, q _ _ ((SB.new np).trans SB.put) ⟨_, _, _, upd_same⟩ (Int.emod_nonneg _ (by omega)) (Int.emod_lt_of_pos _ k0)⟩
    · refine ⟨.ref a, rfl, a, _, 2, .int c, rfl, rfl, .inl (.inl ha), atI_nat (j := 2) rfl, c, 1, rfl, rfl, .ref a, rfl, a, _, 2, 2, rfl, rfl, ha, rfl, ?_⟩
      have h1 : (upd H a (.lst [.int g, .int m, .int (c + 1)])) a = some (.lst [.int g, .int m, .int (c + 1)]) := upd_same
      refine ⟨.ref a, rfl, a, _, 1, .int m, rfl, rfl, .inl (.inl h1), atI_nat (j := 1) rfl, .ref a, rfl, a, _, 2, .int (c + 1), rfl, rfl, .inl (.inl h1), atI_nat (j := 2) rfl, 40093, c + 1, rfl, rfl, .inl ⟨by decide, by decide⟩, m, _, rfl, rfl, .inl ⟨_, rfl, _, 2147483629, rfl, rfl, (by show (0 : Int) < 2147483629; decide), ?_⟩⟩
      refine ⟨.int _, rfl, .int _, rfl, .inl ⟨_, rfl, _, 4001, rfl, rfl, (by show (0 : Int) < 4001; decide), _, 30029, rfl, rfl, _, _, rfl, rfl, .inr ⟨by omega, by omega⟩, .ref a, rfl, a, _, 2, .int (c + 1), rfl, rfl, .inl (.inl h1), atI_nat (j := 2) rfl, 17, c + 1, rfl, rfl, .inl ⟨by decide, by decide⟩, _, _, rfl, rfl, .inl ⟨_, rfl, _, 2147483629, rfl, rfl, (by show (0 : Int) < 2147483629; decide), .ref a, rfl, a, _, 1, 1, rfl, rfl, h1, rfl, ?_⟩⟩⟩
      refine ⟨.ref a, rfl, a, _, 1, _, rfl, rfl, .inl (.inl upd_same), atI_nat (j := 1) rfl, _, 523, rfl, rfl, ⟨by decide, by decide⟩, .inl ⟨_, rfl, .int k, rfl, _, k, rfl, rfl, k0, ?_⟩⟩
      exact q _ _ (SB.trans SB.put SB.put) ⟨_, _, _, upd_same⟩ (Int.emod_nonneg _ (by omega)) (Int.emod_lt_of_pos _ k0)
end
end K32

namespace K32
open PySem PySem.Spec PyProof.Rows L2
section
variable {P : Program} {w : World} {K : PySem.W.Frag} {mg : Str → Option Value} {base : Heap}
/-! ### _law_pick -/
theorem sc_pick : FnScope ["_law_source_here", "_law_some"] ["_law_source_here", "_law_some"] (defScope s_pick) := ⟨rfl, rfl, rfl, by decide +kernel, rfl, by decide +kernel, by decide +kernel⟩
def sp_pick (K : PySem.W.Frag) : Sp := fun vs H Q _ => ∃ (a : Addr) (v : V) (ns : List Int), vs = [.ref a, v] ∧ Src H a ∧ RT K H v ns ∧ 0 < ns.length ∧ ns.length ≤ 1000 ∧ ∀ H' n, SB a H H' → Src H' a → n ∈ ns → Q (.int n) H'
theorem ok_pick (B : Bl mg) (O1 : Ok P w K mg base 1 "_law_take" ["_law_source_here", "_law_many"] sp_take) (D : Df K mg "_law_pick" s_pick ["_law_source_here", "_law_some"]) : Ok P w K mg base 2 "_law_pick" ["_law_source_here", "_law_some"] (sp_pick K) := by
  refine D.ok sc_pick (fun vs H Q E h => ?_) (fun f cdv A outer st H vs Q E hr h => ?_)
  · obtain ⟨a, v, ns, rfl, _⟩ := h
    rfl
  · obtain ⟨a, v, ns, rfl, hs, ⟨b, rfl, hT⟩, n0, n1, q⟩ := h
    refine ⟨_, pss_one (ps_ret (pe_ix ix_tup (pv 1) (pe_ok O1 hr (pa_cons (pv 0) (pa_cons (pe_callB call_len_seq (by rfl) B.len PySem.boot_len (pa_cons (pv 1) pa_nil)) pa_nil))) (fun _ _ => rfl))), ?_⟩
    refine ⟨.ref b, rfl, .ref a, rfl, .ref b, rfl, b, ns.map V.int, rfl, .inr hT, a, _, rfl, hs, ?_, ?_, fun H' t sb hs' t0 t1 => ?_⟩
    · rw [List.length_map]
      omega
    · rw [List.length_map]
      omega
    · rw [List.length_map] at t1
      have hi : t.toNat < ns.length := by omega
      exact ⟨b, ns.map V.int, t, .int ns[t.toNat], rfl, rfl, sb.sqtS hs hT, at_of (j := t.toNat) (by omega) (by rw [List.getElem?_map, List.getElem?_eq_getElem hi]; rfl), q _ _ sb hs' (List.getElem_mem hi)⟩
/-! ### _law_great -/
theorem sc_great : FnScope ["_law_source_here", "_law_got", "_law_turn"] ["_law_source_here"] (defScope s_great) := ⟨rfl, rfl, rfl, by decide +kernel, rfl, by decide +kernel, by decide +kernel⟩
def sp_great : Sp := fun vs H Q _ => ∃ a : Addr, vs = [.ref a] ∧ Src H a ∧ ∀ H' n, SB a H H' → Src H' a → n.natAbs < 2 ^ 100 → Q (.int n) H'
theorem ok_great (B : Bl mg) (O1 : Ok P w K mg base 1 "_law_take" ["_law_source_here", "_law_many"] sp_take) (D : Df K mg "_law_great" s_great ["_law_source_here"]) : Ok P w K mg base 2 "_law_great" ["_law_source_here"] sp_great := by
  refine D.ok sc_great (fun vs H Q E h => ?_) (fun f cdv A outer st H vs Q E hr h => ?_)
  · obtain ⟨a, rfl, _⟩ := h
    rfl
  · obtain ⟨a, rfl, hs, q⟩ := h
    refine ⟨_, pss_cons (ps_set (i := 1) sc_great.nd rfl (.inl rfl) pe_int) (pss_cons (ps_for PassesOwn.never rfl (pi_range1 rfl B.range (pa_cons pe_int pa_nil)) (pg_name (i := 2) sc_great.nd rfl (.inl rfl))
      (pss_one (ps_set (i := 1) sc_great.nd rfl (.inl rfl) (pe_op op_add (pe_op op_mul (pv 1) pe_int) (pe_ok O1 hr (pa_cons (pv 0) (pa_cons pe_int pa_nil))))))) (pss_one (ps_ret (pv 1)))), ?_⟩
    refine ⟨5, rfl, by decide, by decide, for_range (n := 5) (fun i σ H' => ∃ (g : Int) (y : Option V), σ = [some (.ref a), some (.int g), y] ∧ 0 ≤ g ∧ g < 1000003 ^ i ∧ SB a H H' ∧ Src H' a) ⟨0, none, rfl, by decide, by decide, SB.refl a H, hs⟩ (fun i σ H' hi hP => ?_) (fun σ H' hP => ?_)⟩
    · obtain ⟨g, y, rfl, g0, g1, sb, hs'⟩ := hP
      refine ⟨.int g, rfl, g, 1000003, rfl, rfl, .inr ⟨by decide, by decide⟩, .ref a, rfl, a, 1000003, rfl, hs', by decide, by decide, fun H2 t sb2 hs2 t0 t1 => ⟨g * 1000003, t, rfl, rfl, g * 1000003 + t, _, rfl, by omega, ?_, sb.trans sb2, hs2⟩⟩
      rw [Int.pow_succ]
      omega
    · obtain ⟨g, y, rfl, g0, g1, sb, hs'⟩ := hP
      refine ⟨.int g, rfl, q _ _ sb hs' ?_⟩
      have e1 : (1000003 : Int) ^ 5 = 1000015000090000270000405000243 := by decide
      have e2 : (2 : Nat) ^ 100 = 1267650600228229401496703205376 := by decide
      omega
/-! ### _law_number -/
theorem sc_number : FnScope ["_law_source_here", "_law_branch", "_law_got"] ["_law_source_here"] (defScope s_number) := ⟨rfl, rfl, rfl, by decide +kernel, rfl, by decide +kernel, by decide +kernel⟩
theorem ok_number (O1 : Ok P w K mg base 1 "_law_take" ["_law_source_here", "_law_many"] sp_take) (O2 : Ok P w K mg base 2 "_law_great" ["_law_source_here"] sp_great) (D : Df K mg "_law_number" s_number ["_law_source_here"]) :
    Ok P w K mg base 3 "_law_number" ["_law_source_here"] sp_great := by
  refine D.ok sc_number (fun vs H Q E h => ?_) (fun f cdv A outer st H vs Q E hr h => ?_)
  · obtain ⟨a, rfl, _⟩ := h
    rfl
  · obtain ⟨a, rfl, hs, q⟩ := h
    refine ⟨_, pss_cons (ps_set (i := 1) sc_number.nd rfl (.inl rfl) (pe_ok O1 hr (pa_cons (pv 0) (pa_cons pe_int pa_nil))))
      (pss_cons (ps_if (pt_cmpR op_lt (pv 1) pe_int (nomark _)) (pss_one (ps_ret (pe_op op_sub (pe_ok O1 hr (pa_cons (pv 0) (pa_cons pe_int pa_nil))) pe_int))) pss_nil)
      (pss_cons (ps_if (pt_cmpR op_lt (pv 1) pe_int (nomark _)) (pss_one (ps_ret (pe_op op_sub (pe_ok O1 hr (pa_cons (pv 0) (pa_cons pe_int pa_nil))) pe_int))) pss_nil)
      (pss_cons (ps_if (pt_cmpR op_lt (pv 1) pe_int (nomark _)) (pss_one (ps_ret (pe_op op_sub (pe_ok O1 hr (pa_cons (pv 0) (pa_cons pe_int pa_nil))) pe_int))) pss_nil)
      (pss_cons (ps_set (i := 2) sc_number.nd rfl (.inl rfl) (pe_ok O2 hr (pa_cons (pv 0) pa_nil)))
      (pss_one (ps_ret (pe_ifExp (pt_cmpR op_eq (pe_ok O1 hr (pa_cons (pv 0) (pa_cons pe_int pa_nil))) pe_int (nomark _)) (pv 2) (pe_op op_sub pe_int (pv 2))))))))), ?_⟩
    have e2 : (2 : Nat) ^ 100 = 1267650600228229401496703205376 := by decide
    refine ⟨.ref a, rfl, a, 16, rfl, hs, by decide, by decide, fun H1 t sb1 hs1 _ _ => ?_⟩
    refine ⟨.int t, rfl, t, 8, rfl, rfl, _, rfl, it2 (fun _ => ?_) (fun _ => ?_)⟩
    · exact ⟨.ref a, rfl, a, 13, rfl, hs1, by decide, by decide, fun H2 u sb2 hs2 u0 u1 => ⟨u, 6, rfl, rfl, q _ _ (sb1.trans sb2) hs2 (by omega)⟩⟩
    · refine ⟨.int t, rfl, t, 13, rfl, rfl, _, rfl, it2 (fun _ => ?_) (fun _ => ?_)⟩
      · exact ⟨.ref a, rfl, a, 121, rfl, hs1, by decide, by decide, fun H2 u sb2 hs2 u0 u1 => ⟨u, 60, rfl, rfl, q _ _ (sb1.trans sb2) hs2 (by omega)⟩⟩
      · refine ⟨.int t, rfl, t, 15, rfl, rfl, _, rfl, it2 (fun _ => ?_) (fun _ => ?_)⟩
        · exact ⟨.ref a, rfl, a, 200003, rfl, hs1, by decide, by decide, fun H2 u sb2 hs2 u0 u1 => ⟨u, 100001, rfl, rfl, q _ _ (sb1.trans sb2) hs2 (by omega)⟩⟩
        · refine ⟨.ref a, rfl, a, rfl, hs1, fun H2 n sb2 hs2 hn => ⟨.ref a, rfl, a, 2, rfl, hs2, by decide, by decide, fun H3 u sb3 hs3 _ _ => ⟨rfl, _, rfl, it2 (fun _ => ?_) (fun _ => ?_)⟩⟩⟩
          · exact ⟨.int n, rfl, q _ _ ((sb1.trans sb2).trans sb3) hs3 hn⟩
          · exact ⟨.int n, rfl, 0, n, rfl, rfl, q _ _ ((sb1.trans sb2).trans sb3) hs3 (by omega)⟩
/-! ### _law_part -/
theorem sc_part : FnScope ["_law_source_here", "_law_twos", "_law_threes"] ["_law_source_here"] (defScope s_part) := ⟨rfl, rfl, rfl, by decide +kernel, rfl, by decide +kernel, by decide +kernel⟩
def sp_part : Sp := fun vs H Q _ => ∃ a : Addr, vs = [.ref a] ∧ Src H a ∧ ∀ H' n, SB a H H' → Src H' a → 0 < n → n ∣ 20160 → Q (.int n) H'
theorem in_twos : ∀ x ∈ ([1, 1, 2, 2, 4, 4, 8, 16, 32, 64] : List Int), -(2 ^ 64) < x ∧ x < 2 ^ 64 := by decide +kernel
theorem in_five : ∀ x ∈ ([1, 1, 1, 5] : List Int), -(2 ^ 64) < x ∧ x < 2 ^ 64 := by decide +kernel
theorem in_seven : ∀ x ∈ ([1, 1, 1, 7] : List Int), -(2 ^ 64) < x ∧ x < 2 ^ 64 := by decide +kernel
theorem ok_part (O1 : Ok P w K mg base 2 "_law_pick" ["_law_source_here", "_law_some"] (sp_pick K)) (D : Df K mg "_law_part" s_part ["_law_source_here"]) : Ok P w K mg base 3 "_law_part" ["_law_source_here"] sp_part := by
  refine D.ok sc_part (fun vs H Q E h => ?_) (fun f cdv A outer st H vs Q E hr h => ?_)
  · obtain ⟨a, rfl, _⟩ := h
    rfl
  · obtain ⟨a, rfl, hs, q⟩ := h
    refine ⟨_, pss_cons (ps_set (i := 1) sc_part.nd rfl (.inl rfl) (pe_ok O1 hr (pa_cons (pv 0) (pa_cons (pe_tup (pa_cons pe_int (pa_cons pe_int (pa_cons pe_int (pa_cons pe_int (pa_cons pe_int (pa_cons pe_int (pa_cons pe_int (pa_cons pe_int (pa_cons pe_int (pa_cons pe_int pa_nil))))))))))) pa_nil))))
      (pss_cons (ps_set (i := 2) sc_part.nd rfl (.inl rfl) (pe_ok O1 hr (pa_cons (pv 0) (pa_cons (pe_tup (pa_cons pe_int (pa_cons pe_int (pa_cons pe_int (pa_cons pe_int pa_nil))))) pa_nil))))
      (pss_one (ps_ret (pe_op op_mul (pe_op op_mul (pe_op op_mul (pv 1) (pv 2)) (pe_ok O1 hr (pa_cons (pv 0) (pa_cons (pe_tup (pa_cons pe_int (pa_cons pe_int (pa_cons pe_int (pa_cons pe_int pa_nil))))) pa_nil))))
        (pe_ok O1 hr (pa_cons (pv 0) (pa_cons (pe_tup (pa_cons pe_int (pa_cons pe_int (pa_cons pe_int (pa_cons pe_int pa_nil))))) pa_nil))))))), ?_⟩
    refine ⟨.ref a, rfl, le10, fun p1 n1 => ⟨a, .ref p1, [1, 1, 2, 2, 4, 4, 8, 16, 32, 64], rfl, hs.new n1, ⟨p1, rfl, .inl (.inl upd_same)⟩, by decide, by decide, fun H1 x sb1 hs1 hx => ?_⟩⟩
    refine ⟨.ref a, rfl, le4, fun p2 n2 => ⟨a, .ref p2, [1, 1, 3, 9], rfl, hs1.new n2, ⟨p2, rfl, .inl (.inl upd_same)⟩, by decide, by decide, fun H2 y sb2 hs2 hy => ?_⟩⟩
    refine ⟨.int x, rfl, .int y, rfl, x, y, rfl, rfl, .inl (in_twos x hx), ?_⟩
    refine ⟨.ref a, rfl, le4, fun p3 n3 => ⟨a, .ref p3, [1, 1, 1, 5], rfl, hs2.new n3, ⟨p3, rfl, .inl (.inl upd_same)⟩, by decide, by decide, fun H3 z sb3 hs3 hz => ?_⟩⟩
    refine ⟨x * y, z, rfl, rfl, .inr (in_five z hz), ?_⟩
    refine ⟨.ref a, rfl, le4, fun p4 n4 => ⟨a, .ref p4, [1, 1, 1, 7], rfl, hs3.new n4, ⟨p4, rfl, .inl (.inl upd_same)⟩, by decide, by decide, fun H4 u sb4 hs4 hu => ?_⟩⟩
    obtain ⟨r1, r2⟩ := part_ok x hx y hy z hz u hu
    exact ⟨x * y * z, u, rfl, rfl, .inr (in_seven u hu), q _ _ ((((((((SB.new n1).trans sb1).trans (SB.new n2)).trans sb2).trans (SB.new n3)).trans sb3).trans (SB.new n4)).trans sb4) hs4 r1 r2⟩
/-! ### _law_rest -/
theorem sc_rest : FnScope ["_law_source_here", "_law_branch", "_law_by"] ["_law_source_here"] (defScope s_rest) := ⟨rfl, rfl, rfl, by decide +kernel, rfl, by decide +kernel, by decide +kernel⟩
def sp_rest (K : PySem.W.Frag) : Sp := fun vs H Q _ => ∃ a : Addr, vs = [.ref a] ∧ Src H a ∧ ∀ H' v l, SB a H H' → Src H' a → RT K H' v l → Rest l → Bd 100 l → Q v H'
theorem bd_pair {b : Nat} {r m : Int} (h : r.natAbs < 2 ^ b) (h2 : m.natAbs < 2 ^ b) : Bd b [r, m] := fun x hx => by
  rcases List.mem_cons.mp hx with e | hx
  · rw [e]
    exact h
  · rcases List.mem_cons.mp hx with e | hx
    · rw [e]
      exact h2
    · cases hx
theorem bd_nil {b : Nat} : Bd b [] := fun x hx => by cases hx
theorem ok_rest (O1 : Ok P w K mg base 1 "_law_take" ["_law_source_here", "_law_many"] sp_take) (O2 : Ok P w K mg base 3 "_law_number" ["_law_source_here"] sp_great) (O3 : Ok P w K mg base 3 "_law_part" ["_law_source_here"] sp_part)
    (D : Df K mg "_law_rest" s_rest ["_law_source_here"]) : Ok P w K mg base 4 "_law_rest" ["_law_source_here"] (sp_rest K) := by
  refine D.ok sc_rest (fun vs H Q E h => ?_) (fun f cdv A outer st H vs Q E hr h => ?_)
  · obtain ⟨a, rfl, _⟩ := h
    rfl
  · obtain ⟨a, rfl, hs, q⟩ := h
    refine ⟨_, pss_cons (ps_set (i := 1) sc_rest.nd rfl (.inl rfl) (pe_ok O1 hr (pa_cons (pv 0) (pa_cons pe_int pa_nil))))
      (pss_cons (ps_if (pt_cmpR op_lt (pv 1) pe_int (nomark _)) (pss_one (ps_ret (pe_ifExp (pt_cmpR op_eq (pv 1) pe_int (nomark _)) (pe_tup pa_nil) (pe_tup (pa_cons (pe_ok O2 hr (pa_cons (pv 0) pa_nil)) (pa_cons pe_int pa_nil)))))) pss_nil)
      (pss_cons (ps_set (i := 2) sc_rest.nd rfl (.inl rfl) (pe_ok O3 hr (pa_cons (pv 0) pa_nil)))
      (pss_one (ps_ret (pe_tup (pa_cons (pe_ok O1 hr (pa_cons (pv 0) (pa_cons (pv 2) pa_nil))) (pa_cons (pv 2) pa_nil))))))), ?_⟩
    have e2 : (2 : Nat) ^ 100 = 1267650600228229401496703205376 := by decide
    refine ⟨.ref a, rfl, a, 9, rfl, hs, by decide, by decide, fun H1 t sb1 hs1 _ _ => ?_⟩
    refine ⟨.int t, rfl, t, 3, rfl, rfl, _, rfl, it2 (fun _ => ?_) (fun _ => ?_)⟩
    · refine ⟨.int t, rfl, rfl, _, rfl, it2 (fun _ => ?_) (fun _ => ?_)⟩
      · exact ⟨le0, fun p np => q _ _ [] (sb1.trans (SB.new np)) (hs1.new np) ⟨p, rfl, .inl (.inl upd_same)⟩ .nil bd_nil⟩
      · exact ⟨.ref a, rfl, a, rfl, hs1, fun H2 n sb2 hs2 hn => ⟨le2, fun p np => q _ _ [n, 0] ((sb1.trans sb2).trans (SB.new np)) (hs2.new np) ⟨p, rfl, .inl (.inl upd_same)⟩ (.one n) (bd_pair hn (by decide))⟩⟩
    · refine ⟨.ref a, rfl, a, rfl, hs1, fun H2 n sb2 hs2 hn hd => ?_⟩
      have hle : n ≤ 20160 := Int.le_of_dvd (by decide) hd
      exact ⟨.ref a, rfl, .int n, rfl, a, n, rfl, hs2, hn, by omega, fun H3 u sb3 hs3 u0 u1 => ⟨.int n, rfl, le2, fun p np => q _ _ [u, n] (((sb1.trans sb2).trans sb3).trans (SB.new np)) (hs3.new np) ⟨p, rfl, .inl (.inl upd_same)⟩ (.many hn hd u0 u1) (bd_pair (by omega) (by omega))⟩⟩
/-! ### _law_rest_near -/
theorem sc_rest_near : FnScope ["_law_source_here", "_law_one", "_law_spot", "_law_by"] ["_law_source_here", "_law_one"] (defScope s_rest_near) := ⟨rfl, rfl, rfl, by decide +kernel, rfl, by decide +kernel, by decide +kernel⟩
def sp_near (K : PySem.W.Frag) : Sp := fun vs H Q _ => ∃ (a : Addr) (v1 : V) (l1 : List Int), vs = [.ref a, v1] ∧ Src H a ∧ RT K H v1 l1 ∧ Rest l1 ∧ Bd 100 l1 ∧ ∀ H' v l, SB a H H' → Src H' a → RT K H' v l → Rest l → Bd 110 l → Q v H'
theorem ok_rest_near (B : Bl mg) (O1 : Ok P w K mg base 1 "_law_take" ["_law_source_here", "_law_many"] sp_take) (O2 : Ok P w K mg base 4 "_law_rest" ["_law_source_here"] (sp_rest K)) (O3 : Ok P w K mg base 3 "_law_part" ["_law_source_here"] sp_part) (O4 : Ok P w K mg base 2 "_law_pick" ["_law_source_here", "_law_some"] (sp_pick K))
    (D : Df K mg "_law_rest_near" s_rest_near ["_law_source_here", "_law_one"]) : Ok P w K mg base 5 "_law_rest_near" ["_law_source_here", "_law_one"] (sp_near K) := by
  refine D.ok sc_rest_near (fun vs H Q E h => ?_) (fun f cdv A outer st H vs Q E hr h => ?_)
  · obtain ⟨a, v1, l1, rfl, _⟩ := h
    rfl
  · obtain ⟨a, v1, l1, rfl, hs, ⟨b, rfl, hT⟩, h1, hb, q⟩ := h
    refine ⟨_, pss_cons (ps_if (PW.pt (pw_or (pt_cmpR (op_eqT hr.units) (pv 1) (pe_tup pa_nil) (nomark _)) (pw_or1 (pt_cmpR op_eq (pe_ok O1 hr (pa_cons (pv 0) (pa_cons pe_int pa_nil))) pe_int (nomark _))))) (pss_one (ps_ret (pe_ok O2 hr (pa_cons (pv 0) pa_nil)))) pss_nil)
      (pss_cons (ps_set (i := 2) sc_rest_near.nd rfl (.inl rfl) (pe_op op_add (pe_op op_add (pe_ix ix_tup (pv 1) pe_int (fun _ _ => rfl)) (pe_op op_mul (pe_ix ix_tup (pv 1) pe_int (fun _ _ => rfl)) (pe_op op_sub (pe_ok O1 hr (pa_cons (pv 0) (pa_cons pe_int pa_nil))) pe_int)))
        (pe_ok O4 hr (pa_cons (pv 0) (pa_cons (pe_tup (pa_cons pe_int (pa_cons pe_int (pa_cons pe_int (pa_cons pe_int (pa_cons (pe_op op_fdiv (pe_ix ix_tup (pv 1) pe_int (fun _ _ => rfl)) pe_int) pa_nil)))))) pa_nil)))))
      (pss_cons (ps_if (pt_cmpR op_eq (pe_ok O1 hr (pa_cons (pv 0) (pa_cons pe_int pa_nil))) pe_int (nomark _)) (pss_one (ps_ret (pe_tup (pa_cons (pv 2) (pa_cons pe_int pa_nil))))) pss_nil)
      (pss_cons (ps_set (i := 3) sc_rest_near.nd rfl (.inl rfl) (pe_ok O3 hr (pa_cons (pv 0) pa_nil)))
      (pss_one (ps_ret (pe_tup (pa_cons (pe_op op_mod (pe_callTy call_int1 (by rfl) B.int PyProof.Rows.boot_int (pa_cons (pv 2) pa_nil)) (pv 3)) (pa_cons (pv 3) pa_nil)))))))), ?_⟩
    have e2 : (2 : Nat) ^ 100 = 1267650600228229401496703205376 := by decide
    have e3 : (2 : Nat) ^ 110 = 1298074214633706907132624082305024 := by decide
    refine ⟨.ref b, rfl, le0, fun p np => ?_⟩
    have hs1 := hs.new np (o := .tup [])
    have sb1 : SB a H (upd H p (.tup [])) := SB.new np
    have hT1 := Same.sqt (same_upd np (o := .tup [])) hT
    refine ⟨b, p, l1, [], rfl, rfl, hT1, .inl (.inl upd_same), _, rfl, ?_⟩
    rcases h1.form with e | ⟨r, m, rfl⟩
    · subst e
      exact iteT ⟨.ref a, rfl, a, rfl, hs1, fun H2 v l sb2 hs2 hv hR hB => q _ _ _ (sb1.trans sb2) hs2 hv hR (hB.mono (by decide))⟩
    · refine iteF ⟨.ref a, rfl, a, 4, rfl, hs1, by decide, by decide, fun H2 t sb2 hs2 _ _ => ⟨rfl, _, rfl, it2 (fun _ => ?_) (fun _ => ?_)⟩⟩
      · exact ⟨.ref a, rfl, a, rfl, hs2, fun H3 v l sb3 hs3 hv hR hB => q _ _ _ ((sb1.trans sb2).trans sb3) hs3 hv hR (hB.mono (by decide))⟩
      · have hT2 := sb2.sqtS hs1 hT1
        have hm := h1.le
        have hr1 : r.natAbs < 2 ^ 100 := hb r (by simp)
        refine ⟨.ref b, rfl, b, _, 0, .int r, rfl, rfl, hT2, atI_nat (j := 0) rfl, .ref b, rfl, b, _, 1, .int m, rfl, rfl, hT2, atI_nat (j := 1) rfl, .ref a, rfl, a, 7, rfl, hs2, by decide, by decide, fun H3 u sb3 hs3 u0 u1 => ?_⟩
        have hT3 := sb3.sqtS hs2 hT2
        refine ⟨u, 3, rfl, rfl, m, u - 3, rfl, rfl, .inl ⟨by omega, by omega⟩, r, _, rfl, rfl, .ref a, rfl, .ref b, rfl, b, _, 1, .int m, rfl, rfl, hT3, atI_nat (j := 1) rfl, m, 2, rfl, rfl, ⟨by decide, by decide⟩, small_le (by show 5 ≤ 1000; decide), fun p2 np2 => ?_⟩
        refine ⟨a, .ref p2, [0, 0, 0, 1, m / 2], rfl, hs3.new np2, ⟨p2, rfl, .inl (.inl upd_same)⟩, by show 0 < 5; decide, by show 5 ≤ 1000; decide, fun H4 n sb4 hs4 hn => ⟨_, n, rfl, rfl, ?_⟩⟩
        have sb04 := (((sb1.trans sb2).trans sb3).trans (SB.new np2)).trans sb4
        have hn2 : 0 ≤ n ∧ n ≤ 20160 := by
          simp only [List.mem_cons, List.mem_nil_iff, or_false] at hn
          omega
        have hmu : -60480 ≤ m * (u - 3) ∧ m * (u - 3) ≤ 60480 := by
          have h3 : u = 0 ∨ u = 1 ∨ u = 2 ∨ u = 3 ∨ u = 4 ∨ u = 5 ∨ u = 6 := by omega
          rcases h3 with rfl | rfl | rfl | rfl | rfl | rfl | rfl <;> omega
        have hspot : (r + m * (u - 3) + n).natAbs < 2 ^ 110 := by
          generalize m * (u - 3) = z at hmu
          omega
        refine ⟨.ref a, rfl, a, 4, rfl, hs4, by decide, by decide, fun H5 t5 sb5 hs5 _ _ => ⟨rfl, _, rfl, it2 (fun _ => ?_) (fun _ => ?_)⟩⟩
        · exact ⟨.int (r + m * (u - 3) + n), rfl, le2, fun p3 np3 => q _ _ [r + m * (u - 3) + n, 0] ((sb04.trans sb5).trans (SB.new np3)) (hs5.new np3) ⟨p3, rfl, .inl (.inl upd_same)⟩ (.one _) (bd_pair hspot (by decide))⟩
        · refine ⟨.ref a, rfl, a, rfl, hs5, fun H6 k sb6 hs6 hk hd => ?_⟩
          have hle : k ≤ 20160 := Int.le_of_dvd (by decide) hd
          have z0 := Int.emod_nonneg (r + m * (u - 3) + n) (show k ≠ 0 by omega)
          have z1 := Int.emod_lt_of_pos (r + m * (u - 3) + n) hk
          exact ⟨.int (r + m * (u - 3) + n), rfl, .inl ⟨_, rfl, .int k, rfl, _, k, rfl, rfl, hk, .int k, rfl, le2, fun p3 np3 => q _ _ [(r + m * (u - 3) + n) % k, k] (((sb04.trans sb5).trans sb6).trans (SB.new np3)) (hs6.new np3) ⟨p3, rfl, .inl (.inl upd_same)⟩ (.many hk hd z0 z1) (bd_pair (by generalize (r + m * (u - 3) + n) % k = zz at z0 z1; omega) (by omega))⟩⟩
/-! ### _law_rest_some -/
theorem sc_rest_some : FnScope ["_law_source_here", "_law_one"] ["_law_source_here", "_law_one"] (defScope s_rest_some) := ⟨rfl, rfl, rfl, by decide +kernel, rfl, by decide +kernel, by decide +kernel⟩
def sp_some (K : PySem.W.Frag) : Sp := fun vs H Q _ => ∃ (a : Addr) (v1 : V) (r m : Int), vs = [.ref a, v1] ∧ Src H a ∧ RT K H v1 [r, m] ∧ Rest [r, m] ∧ Bd 110 [r, m] ∧ ∀ H' n, SB a H H' → Src H' a → has [r, m] n = true → n.natAbs < 2 ^ 130 → Q (.int n) H'
theorem ok_rest_some (O1 : Ok P w K mg base 3 "_law_number" ["_law_source_here"] sp_great) (D : Df K mg "_law_rest_some" s_rest_some ["_law_source_here", "_law_one"]) : Ok P w K mg base 4 "_law_rest_some" ["_law_source_here", "_law_one"] (sp_some K) := by
  refine D.ok sc_rest_some (fun vs H Q E h => ?_) (fun f cdv A outer st H vs Q E hr h => ?_)
  · obtain ⟨a, v1, r, m, rfl, _⟩ := h
    rfl
  · obtain ⟨a, v1, r, m, rfl, hs, ⟨b, rfl, hT⟩, h1, hb, q⟩ := h
    refine ⟨_, pss_one (ps_ret (pe_op op_add (pe_ix ix_tup (pv 1) pe_int (fun _ _ => rfl)) (pe_op op_mul (pe_ix ix_tup (pv 1) pe_int (fun _ _ => rfl)) (pe_ok O1 hr (pa_cons (pv 0) pa_nil))))), ?_⟩
    have hm := h1.le
    have hr1 : r.natAbs < 2 ^ 110 := hb r (by simp)
    refine ⟨.ref b, rfl, b, _, 0, .int r, rfl, rfl, hT, atI_nat (j := 0) rfl, .ref b, rfl, b, _, 1, .int m, rfl, rfl, hT, atI_nat (j := 1) rfl, .ref a, rfl, a, rfl, hs, fun H1 n sb1 hs1 hn => ⟨m, n, rfl, rfl, .inl ⟨by omega, by omega⟩, r, _, rfl, rfl, q _ _ sb1 hs1 (has_iff.mpr ⟨n, by omega⟩) ?_⟩⟩
    have e1 : (m * n).natAbs ≤ 20160 * 2 ^ 100 := by
      rw [Int.natAbs_mul]
      exact Nat.mul_le_mul (by omega) (Nat.le_of_lt hn)
    have e2 : (20160 : Nat) * 2 ^ 100 + 2 ^ 110 < 2 ^ 130 := by decide
    generalize m * n = z at e1
    omega
end
end K32

namespace K32
open PySem PySem.Spec PyProof.Rows L2
theorem rgc_pos {s k n : Int} (h0 : 0 ≤ s) (h1 : s < 100000) (h2 : 0 < k) (h3 : k < 100000) (h4 : 0 ≤ n) (h5 : n < 100000) : RgC s (s + k * n) k n.toNat := by
  have e : Builtin.Range.rangeSize s (s + k * n) k = (n.toNat : Int) := by
    unfold Builtin.Range.rangeSize
    rw [if_pos h2]
    by_cases hn : n = 0
    · subst hn
      rw [if_neg (by omega)]
      rfl
    · have hk : 0 < k * n := Int.mul_pos h2 (by omega)
      rw [if_pos (by omega)]
      have a : s + k * n - s - 1 = k * (n - 1) + (k - 1) := by
        rw [Int.mul_sub]
        omega
      rw [a, Int.mul_add_ediv_left _ _ (by omega), Int.ediv_eq_zero_of_lt (by omega) (by omega)]
      omega
  refine ⟨by omega, by omega, ?_, e⟩
  have b : k * n ≤ 100000 * 100000 := Int.mul_le_mul (by omega) (by omega) h4 (by decide)
  have b0 : 0 ≤ k * n := Int.mul_nonneg (by omega) h4
  unfold Builtin.Range.small
  rw [e]
  simp only [Builtin.Range.rangeFitsLong, Bool.and_eq_true, Bool.or_eq_true, decide_eq_true_eq, beq_iff_eq]
  rw [if_pos h2]
  simp only [Bool.and_eq_true, decide_eq_true_eq]
  generalize k * n = z at b b0
  omega
/-- a list made over a range with a step -/
theorem lc_steps {lo c : Int} {n : Nat} {g : TG} {tt : TT} {te : TE} {vs : List Nat} {σ : L2.St} {H1 : Hp} {Dd : Addr} {Qd : Hp → Prop} (Pv : Nat → Hp → Prop) (h0 : Pv 0 (upd H1 Dd (.lst [])))
    (hs : ∀ i H, i < n → Pv i H → g (.int (lo + (i : Nat) * c)) (wipe σ vs) H fun σ2 H2 => wipe σ2 vs = wipe σ vs ∧ tt σ2 H2 fun b H3 =>
      if b = true then te σ2 H3 fun y H4 => ∃ acc, H4 Dd = some (.lst acc) ∧ acc.length < sizeLine ∧ Pv (i + 1) (upd H4 Dd (.lst (acc ++ [y]))) else Pv (i + 1) H3) (hd : ∀ H, Pv n H → Qd H) :
    ∃ W : Nat → Nat → Hp → Prop, (∃ m, W 0 m (upd H1 Dd (.lst []))) ∧ ∀ i m H, W i m H →
      ((Itc lo c n).stop i H ∧ Qd H) ∨ ((Itc lo c n).go i H ∧ ∃ Nx : Hp → Prop, (∀ H', Nx H' → ∃ m', m' < m ∧ W (i + 1) m' H') ∧ ∀ x H', (Itc lo c n).yld i H x H' → g x (wipe σ vs) H' fun σ2 H2 => wipe σ2 vs = wipe σ vs ∧ tt σ2 H2 fun b H3 =>
        if b = true then te σ2 H3 fun y H4 => ∃ acc, H4 Dd = some (.lst acc) ∧ acc.length < sizeLine ∧ Nx (upd H4 Dd (.lst (acc ++ [y]))) else Nx H3) := by
  refine ⟨fun i m H => i + m = n ∧ Pv i H, ⟨n, by omega, h0⟩, fun i m H hW => ?_⟩
  obtain ⟨hm, p⟩ := hW
  by_cases hlt : i < n
  · exact .inr ⟨hlt, Pv (i + 1), fun H' p' => ⟨m - 1, by omega, by omega, p'⟩, fun x H' hy => by
      obtain ⟨e1, e2⟩ := hy
      subst e1 e2
      exact hs i _ hlt p⟩
  · have ei : i = n := by omega
    subst ei
    exact .inl ⟨Nat.le_refl _, hd H p⟩
/-- a list made over two tuples of one length, side by side -/
theorem lc_pairs {K : PySem.W.Frag} {a b : Addr} {xs ys : List V} {g : TG} {tt : TT} {te : TE} {vs : List Nat} {σ : L2.St} {H1 : Hp} {Dd : Addr} {Qd : Hp → Prop} (hl : xs.length = ys.length) (Pv : Nat → Hp → Prop) (h0 : Pv 0 (upd H1 Dd (.lst [])))
    (hq : ∀ i H, Pv i H → SqT K H a xs ∧ SqT K H b ys)
    (hs : ∀ i x y T H, xs[i]? = some x → ys[i]? = some y → Pv i H → H T = none → g (.ref T) (wipe σ vs) (upd H T (.tup [x, y])) fun σ2 H2 => wipe σ2 vs = wipe σ vs ∧ tt σ2 H2 fun b H3 =>
      if b = true then te σ2 H3 fun y H4 => ∃ acc, H4 Dd = some (.lst acc) ∧ acc.length < sizeLine ∧ Pv (i + 1) (upd H4 Dd (.lst (acc ++ [y]))) else Pv (i + 1) H3) (hd : ∀ H, Pv xs.length H → Qd H) :
    ∃ W : Nat → Nat → Hp → Prop, (∃ m, W 0 m (upd H1 Dd (.lst []))) ∧ ∀ i m H, W i m H →
      ((RZ.ItzT K a b).stop i H ∧ Qd H) ∨ ((RZ.ItzT K a b).go i H ∧ ∃ Nx : Hp → Prop, (∀ H', Nx H' → ∃ m', m' < m ∧ W (i + 1) m' H') ∧ ∀ x H', (RZ.ItzT K a b).yld i H x H' → g x (wipe σ vs) H' fun σ2 H2 => wipe σ2 vs = wipe σ vs ∧ tt σ2 H2 fun b H3 =>
        if b = true then te σ2 H3 fun y H4 => ∃ acc, H4 Dd = some (.lst acc) ∧ acc.length < sizeLine ∧ Nx (upd H4 Dd (.lst (acc ++ [y]))) else Nx H3) := by
  refine ⟨fun i m H => i + m = xs.length ∧ Pv i H, ⟨xs.length, by omega, h0⟩, fun i m H hW => ?_⟩
  obtain ⟨hm, p⟩ := hW
  obtain ⟨qx, qy⟩ := hq i H p
  by_cases hlt : i < xs.length
  · have ex : xs[i]? = some xs[i] := List.getElem?_eq_getElem hlt
    have hlt2 : i < ys.length := by omega
    have ey : ys[i]? = some ys[i] := List.getElem?_eq_getElem hlt2
    exact .inr ⟨⟨xs, ys, _, _, qx, qy, ex, ey⟩, Pv (i + 1), fun H' p' => ⟨m - 1, by omega, by omega, p'⟩, fun v H' hy => by
      obtain ⟨T, x', y', rfl, hT, rfl, f1, f2⟩ := hy
      exact hs i x' y' T H (f1 xs qx) (f2 ys qy) p hT⟩
  · have ei : i = xs.length := by omega
    subst ei
    exact .inl ⟨⟨xs, ys, qx, qy, .inl (Nat.le_refl _)⟩, hd H p⟩
/-- two values that are the same, n deep -/
inductive Sm (K : PySem.W.Frag) (H : Hp) : Nat → V → V → Prop
  | int (n : Nat) (i : Int) : Sm K H n (.int i) (.int i)
  | bl (n : Nat) (b : Bool) : Sm K H n (.bl b) (.bl b)
  | tup {n : Nat} {a b : Addr} {xs ys : List V} (hx : SqT K H a xs) (hy : SqT K H b ys) (hl : xs.length = ys.length) (hz : xs.length ≤ 1000) (h : ∀ (j : Nat) (x y : V), xs[j]? = some x → ys[j]? = some y → Sm K H n x y) : Sm K H (n + 1) (.ref a) (.ref b)
theorem Sm.same {K : PySem.W.Frag} {H H' : Hp} (e : Same H H') {n : Nat} {x y : V} (h : Sm K H n x y) : Sm K H' n x y := by
  induction h with
  | int n i => exact .int n i
  | bl n b => exact .bl n b
  | tup hx hy hl hz _ ih => exact .tup (Same.sqt e hx) (Same.sqt e hy) hl hz ih
/-- two pairs of ints alike, two pairs of such alike .. -/
theorem sm_rt {K : PySem.W.Frag} {H : Hp} {x y : V} {l : List Int} (h : RT K H x l) (h' : RT K H y l) (hz : l.length ≤ 1000) : Sm K H 1 x y := by
  obtain ⟨a, rfl, h⟩ := h
  obtain ⟨b, rfl, h'⟩ := h'
  refine .tup h h' rfl (by rw [List.length_map]; exact hz) fun j x y hx hy => ?_
  rw [hx] at hy
  cases hy
  rw [List.getElem?_map] at hx
  obtain ⟨n, _, rfl⟩ := Option.map_eq_some_iff.mp hx
  exact .int 0 n
theorem sm_two {K : PySem.W.Frag} {H : Hp} {n : Nat} {a b : Addr} {x y x' y' : V} (h : SqT K H a [x, y]) (h' : SqT K H b [x', y']) (h1 : Sm K H n x x') (h2 : Sm K H n y y') : Sm K H (n + 1) (.ref a) (.ref b) := by
  refine .tup h h' rfl (by show 2 ≤ 1000; decide) fun j u v hu hv => ?_
  match j, hu, hv with
  | 0, hu, hv => cases hu; cases hv; exact h1
  | 1, hu, hv => cases hu; cases hv; exact h2
  | j + 2, hu, hv => cases hu
theorem sm_three {K : PySem.W.Frag} {H : Hp} {n : Nat} {a b : Addr} {x y z x' y' z' : V} (h : SqT K H a [x, y, z]) (h' : SqT K H b [x', y', z']) (h1 : Sm K H n x x') (h2 : Sm K H n y y') (h3 : Sm K H n z z') : Sm K H (n + 1) (.ref a) (.ref b) := by
  refine .tup h h' rfl (by show 3 ≤ 1000; decide) fun j u v hu hv => ?_
  match j, hu, hv with
  | 0, hu, hv => cases hu; cases hv; exact h1
  | 1, hu, hv => cases hu; cases hv; exact h2
  | 2, hu, hv => cases hu; cases hv; exact h3
  | j + 3, hu, hv => cases hu
section
variable {P : Program} {w : World} {K : PySem.W.Frag} {mg : Str → Option Value} {base : Heap}
/-! ### _law_common -/
theorem sc_common : FnScope ["_law_far", "_law_near"] ["_law_far", "_law_near"] (defScope s_common) := ⟨rfl, rfl, rfl, by decide +kernel, rfl, by decide +kernel, by decide +kernel⟩
def sp_common : Sp := fun vs H Q _ => ∃ x y : Int, vs = [.int x, .int y] ∧ Q (.int (Int.gcd x y : Nat)) H
theorem ok_common (B : Bl mg) (D : Df K mg "_law_common" s_common ["_law_far", "_law_near"]) : Ok P w K mg base 1 "_law_common" ["_law_far", "_law_near"] sp_common := by
  refine D.ok sc_common (fun vs H Q E h => ?_) (fun f cdv A outer st H vs Q E hr h => ?_)
  · obtain ⟨x, y, rfl, _⟩ := h
    rfl
  · obtain ⟨x, y, rfl, q⟩ := h
    refine ⟨_, pss_cons (ps_par (i := 0) (j := 1) rfl sc_common.nd rfl rfl (by decide) rfl rfl (pa_cons (pe_callB call_abs (by rfl) B.abs PyProof.Rows.boot_abs (pa_cons (pv 0) pa_nil)) (pa_cons (pe_callB call_abs (by rfl) B.abs PyProof.Rows.boot_abs (pa_cons (pv 1) pa_nil)) pa_nil)) (by rfl))
      (pss_cons (ps_while PassesOwn.never (pt_cmpR op_ne (pv 1) pe_int (nomark _)) (pss_one (ps_par (i := 0) (j := 1) rfl sc_common.nd rfl rfl (by decide) rfl rfl (pa_cons (pv 1) (pa_cons (pe_op op_mod (pe_callTy call_int1 (by rfl) B.int PyProof.Rows.boot_int (pa_cons (pv 0) pa_nil)) (pv 1)) pa_nil)) (by rfl))))
      (pss_one (ps_ret (pv 0)))), ?_⟩
    refine ⟨.int x, rfl, x, rfl, .int y, rfl, y, rfl, _, _, rfl, ?_⟩
    refine ⟨fun d σ H' => ∃ u : Nat, σ = [some (.int u), some (.int d)] ∧ Nat.gcd u d = Int.gcd x y ∧ H' = H, ⟨y.natAbs, x.natAbs, ?_, rfl, rfl⟩, fun d σ H' hW => ?_⟩
    · show [some (V.int (if x < 0 then -x else x)), some (V.int (if y < 0 then -y else y))] = _
      rw [abs_nat, abs_nat]
    · obtain ⟨u, rfl, hg, rfl⟩ := hW
      refine ⟨.int d, rfl, rfl, _, rfl, ?_⟩
      by_cases hd : d = 0
      · subst hd
        refine iteF ⟨.int u, rfl, ?_⟩
        rw [Nat.gcd_zero_right] at hg
        show Q (.int u) H'
        rw [hg]
        exact q
      · rw [decide_eq_false (vne (show (d : Int) ≠ 0 by omega))]
        refine iteT ⟨fun σ' H1 => σ' = [some (.int d), some (.int ((u % d : Nat) : Int))] ∧ H1 = H', fun σ' H1 hN => ?_, ?_⟩
        · obtain ⟨rfl, rfl⟩ := hN
          refine ⟨u % d, Nat.mod_lt _ (by omega), d, rfl, ?_, rfl⟩
          rw [← hg, Nat.gcd_comm u d, Nat.gcd_rec d u, Nat.gcd_comm]
        · exact ⟨.int d, rfl, .int u, rfl, .inl ⟨u, rfl, .int d, rfl, u, d, rfl, rfl, (by show (0 : Int) < d; omega), _, _, rfl, rfl, rfl⟩⟩
/-! ### _law_beside -/
theorem sc_beside : FnScope ["_law_source_here", "_law_one", "_law_by"] ["_law_source_here", "_law_one"] (defScope s_beside) := ⟨rfl, rfl, rfl, by decide +kernel, rfl, by decide +kernel, by decide +kernel⟩
theorem ok_beside (O1 : Ok P w K mg base 1 "_law_take" ["_law_source_here", "_law_many"] sp_take) (O2 : Ok P w K mg base 5 "_law_rest_near" ["_law_source_here", "_law_one"] (sp_near K)) (O3 : Ok P w K mg base 3 "_law_part" ["_law_source_here"] sp_part) (O4 : Ok P w K mg base 1 "_law_common" ["_law_far", "_law_near"] sp_common)
    (D : Df K mg "_law_beside" s_beside ["_law_source_here", "_law_one"]) : Ok P w K mg base 6 "_law_beside" ["_law_source_here", "_law_one"] (sp_near K) := by
  refine D.ok sc_beside (fun vs H Q E h => ?_) (fun f cdv A outer st H vs Q E hr h => ?_)
  · obtain ⟨a, v1, l1, rfl, _⟩ := h
    rfl
  · obtain ⟨a, v1, l1, rfl, hs, ⟨b, rfl, hT⟩, h1, hb, q⟩ := h
    refine ⟨_, pss_cons (ps_if (PW.pt (pw_or (pt_cmpR (op_eqT hr.units) (pv 1) (pe_tup pa_nil) (nomark _)) (pw_or1 (pt_cmpR op_eq (pe_ok O1 hr (pa_cons (pv 0) (pa_cons pe_int pa_nil))) pe_int (nomark _))))) (pss_one (ps_ret (pe_ok O2 hr (pa_cons (pv 0) (pa_cons (pv 1) pa_nil))))) pss_nil)
      (pss_cons (ps_set (i := 2) sc_beside.nd rfl (.inl rfl) (pe_ok O4 hr (pa_cons (pe_ix ix_tup (pv 1) pe_int (fun _ _ => rfl)) (pa_cons (pe_ok O3 hr (pa_cons (pv 0) pa_nil)) pa_nil))))
      (pss_one (ps_ret (pe_tup (pa_cons (pe_ifExp (pt_cmpR op_eq (pe_ok O1 hr (pa_cons (pv 0) (pa_cons pe_int pa_nil))) pe_int (nomark _)) (pv 2) (pe_op op_sub pe_int (pv 2))) (pa_cons pe_int pa_nil)))))), ?_⟩
    have e3 : (2 : Nat) ^ 110 = 1298074214633706907132624082305024 := by decide
    refine ⟨.ref b, rfl, le0, fun p np => ?_⟩
    have hs1 := hs.new np (o := .tup [])
    have sb1 : SB a H (upd H p (.tup [])) := SB.new np
    have hT1 := Same.sqt (same_upd np (o := .tup [])) hT
    refine ⟨b, p, l1, [], rfl, rfl, hT1, .inl (.inl upd_same), _, rfl, ?_⟩
    rcases h1.form with e | ⟨r, m, rfl⟩
    · subst e
      exact iteT ⟨.ref a, rfl, .ref b, rfl, a, .ref b, [], rfl, hs1, ⟨b, rfl, hT1⟩, h1, hb, fun H2 v l sb2 hs2 hv hR hB => q _ _ _ (sb1.trans sb2) hs2 hv hR hB⟩
    · refine iteF ⟨.ref a, rfl, a, 2, rfl, hs1, by decide, by decide, fun H2 t sb2 hs2 _ _ => ⟨rfl, _, rfl, it2 (fun _ => ?_) (fun _ => ?_)⟩⟩
      · exact ⟨.ref a, rfl, .ref b, rfl, a, .ref b, [r, m], rfl, hs2, ⟨b, rfl, sb2.sqtS hs1 hT1⟩, h1, hb, fun H3 v l sb3 hs3 hv hR hB => q _ _ _ ((sb1.trans sb2).trans sb3) hs3 hv hR hB⟩
      · have hT2 := sb2.sqtS hs1 hT1
        refine ⟨.ref b, rfl, b, _, 1, .int m, rfl, rfl, hT2, atI_nat (j := 1) rfl, .ref a, rfl, a, rfl, hs2, fun H3 n sb3 hs3 hn hd => ⟨m, n, rfl, ?_⟩⟩
        have hle : n ≤ 20160 := Int.le_of_dvd (by decide) hd
        have hg := Int.gcd_le_right m hn
        have h0 : (Int.gcd m n : Nat) ≤ 20160 := by omega
        have sb03 := (sb1.trans sb2).trans sb3
        refine ⟨.ref a, rfl, a, 2, rfl, hs3, by decide, by decide, fun H4 t4 sb4 hs4 _ _ => ⟨rfl, _, rfl, it2 (fun _ => ?_) (fun _ => ?_)⟩⟩
        · exact ⟨.int (Int.gcd m n : Nat), rfl, le2, fun p3 np3 => q _ _ [(Int.gcd m n : Nat), 0] ((sb03.trans sb4).trans (SB.new np3)) (hs4.new np3) ⟨p3, rfl, .inl (.inl upd_same)⟩ (.one _) (bd_pair (by omega) (by decide))⟩
        · exact ⟨.int (Int.gcd m n : Nat), rfl, 0, (Int.gcd m n : Nat), rfl, rfl, le2, fun p3 np3 => q _ _ [0 - (Int.gcd m n : Nat), 0] ((sb03.trans sb4).trans (SB.new np3)) (hs4.new np3) ⟨p3, rfl, .inl (.inl upd_same)⟩ (.one _) (bd_pair (by omega) (by decide))⟩
/-! ### _law_is_whole -/
theorem sc_lwhole : FnScope ["_law_thing"] ["_law_thing"] (defScope s_lwhole) := ⟨rfl, rfl, rfl, by decide +kernel, rfl, by decide +kernel, by decide +kernel⟩
theorem ok_lwhole (B : Bl mg) (D : Df K mg "_law_is_whole" s_lwhole ["_law_thing"]) : Ok P w K mg base 1 "_law_is_whole" ["_law_thing"] sp_is_whole := by
  refine D.ok sc_lwhole (fun vs H Q E h => ?_) (fun f cdv A outer s H vs Q E hr h => ?_)
  · obtain ⟨n, rfl, _⟩ := h
    rfl
  · obtain ⟨n, rfl, q⟩ := h
    refine ⟨_, pss_one (ps_ret (pe_and (pe_callB call_isi (by rfl) B.isinstance boot_isinstance (pa_cons (pv 0) (pa_cons (pe_bltn (v := .ty "int") (by rfl) B.int PyProof.Rows.boot_int rfl) pa_nil))) (pe_one (pe_not (pe_callB call_isi (by rfl) B.isinstance boot_isinstance (pa_cons (pv 0) (pa_cons (pe_bltn (v := .ty "bool") (by rfl) B.bool PyProof.Rows.boot_bool rfl) pa_nil))))))), ?_⟩
    refine ⟨.int n, rfl, .int n, .ty "int", .type "int", .type "int", true, rfl, .ty _, .base (.int n), kit_ty (by decide +kernel), true, rfl, iteT ?_⟩
    exact ⟨.int n, rfl, .int n, .ty "bool", .type "int", .type "bool", false, rfl, .ty _, .base (.int n), kit_ty (by decide +kernel), false, rfl, q⟩
/-! ### _law_same -/
abbrev n_same : List Str := ["_law_told", "_law_due", "_law_this", "_law_that"]
theorem sc_same : FnScope n_same ["_law_told", "_law_due"] (defScope s_same) := ⟨rfl, rfl, rfl, by decide +kernel, rfl, by decide +kernel, by decide +kernel⟩
def sp_same (K : PySem.W.Frag) (n : Nat) : Sp := fun vs H Q _ => ∃ x y : V, vs = [x, y] ∧ Sm K H n x y ∧ ∀ H', Same H H' → Q (.bl true) H'
theorem ok_same0 (B : Bl mg) (O1 : Ok P w K mg base 1 "_law_is_whole" ["_law_thing"] sp_is_whole) (D : Df K mg "_law_same" s_same ["_law_told", "_law_due"]) : Ok P w K mg base 2 "_law_same" ["_law_told", "_law_due"] (sp_same K 0) := by
  refine D.ok sc_same (fun vs H Q E h => ?_) (fun f cdv A outer s H vs Q E hr h => ?_)
  · obtain ⟨x, y, rfl, _⟩ := h
    rfl
  · obtain ⟨x, y, rfl, hs, q⟩ := h
    refine ⟨_, pss_cons (ps_if (pt_val (pe_callB call_isi (by rfl) B.isinstance boot_isinstance (pa_cons (pv 1) (pa_cons (pe_bltn (v := .ty "tuple") (by rfl) B.tuple PyProof.Rows.boot_tuple rfl) pa_nil)))) pss_never pss_nil)
      (pss_cons (ps_if (PW.pt (pw_or (pt_cmp (pc_isN (pv 1))) (pw_or1 (pt_cmp (pc_isN (pv 0)))))) pss_never pss_nil)
      (pss_cons (ps_if (PW.pt (pw_or (pt_val (pe_callB call_isi (by rfl) B.isinstance boot_isinstance (pa_cons (pv 1) (pa_cons (pe_bltn (v := .ty "bool") (by rfl) B.bool PyProof.Rows.boot_bool rfl) pa_nil)))) (pw_or1 (pt_val (pe_callB call_isi (by rfl) B.isinstance boot_isinstance (pa_cons (pv 0) (pa_cons (pe_bltn (v := .ty "bool") (by rfl) B.bool PyProof.Rows.boot_bool rfl) pa_nil)))))))
        (pss_one (ps_ret (pe_and (pe_callB call_isi (by rfl) B.isinstance boot_isinstance (pa_cons (pv 1) (pa_cons (pe_bltn (v := .ty "bool") (by rfl) B.bool PyProof.Rows.boot_bool rfl) pa_nil))) (pe_and (pe_callB call_isi (by rfl) B.isinstance boot_isinstance (pa_cons (pv 0) (pa_cons (pe_bltn (v := .ty "bool") (by rfl) B.bool PyProof.Rows.boot_bool rfl) pa_nil))) (pe_one (pe_cmpR op_eq (pv 0) (pv 1) (nomark _))))))) pss_nil)
      (pss_one (ps_ret (pe_and (pe_ok O1 hr (pa_cons (pv 0) pa_nil)) (pe_one (pe_cmpR op_eq (pv 0) (pv 1) (nomark _)))))))), ?_⟩
    cases hs with
    | int _ i =>
      refine ⟨.int i, rfl, .int i, .ty "tuple", .type "int", .type "tuple", false, rfl, .ty _, .base (.int i), kit_ty (by decide +kernel), false, rfl, iteF ?_⟩
      refine ⟨.int i, rfl, _, rfl, itF (p := V.int i = V.non) (fun z => by cases z) ⟨.int i, rfl, _, rfl, itF (p := V.int i = V.non) (fun z => by cases z) ?_⟩⟩
      refine ⟨.int i, rfl, .int i, .ty "bool", .type "int", .type "bool", false, rfl, .ty _, .base (.int i), kit_ty (by decide +kernel), false, rfl, iteF ?_⟩
      refine ⟨.int i, rfl, .int i, .ty "bool", .type "int", .type "bool", false, rfl, .ty _, .base (.int i), kit_ty (by decide +kernel), false, rfl, iteF ?_⟩
      exact ⟨.int i, rfl, i, rfl, true, rfl, iteT ⟨.int i, rfl, .int i, rfl, rfl, blT (Q := Q) rfl (q H (Same.refl H))⟩⟩
    | bl _ b =>
      refine ⟨.bl b, rfl, .bl b, .ty "tuple", .type "bool", .type "tuple", false, rfl, .ty _, .base (.bl b), kit_ty (by decide +kernel), false, rfl, iteF ?_⟩
      refine ⟨.bl b, rfl, _, rfl, itF (p := V.bl b = V.non) (fun z => by cases z) ⟨.bl b, rfl, _, rfl, itF (p := V.bl b = V.non) (fun z => by cases z) ?_⟩⟩
      refine ⟨.bl b, rfl, .bl b, .ty "bool", .type "bool", .type "bool", true, rfl, .ty _, .base (.bl b), kit_ty (by decide +kernel), true, rfl, iteT ?_⟩
      refine ⟨.bl b, rfl, .bl b, .ty "bool", .type "bool", .type "bool", true, rfl, .ty _, .base (.bl b), kit_ty (by decide +kernel), true, rfl, iteT ?_⟩
      refine ⟨.bl b, rfl, .bl b, .ty "bool", .type "bool", .type "bool", true, rfl, .ty _, .base (.bl b), kit_ty (by decide +kernel), true, rfl, iteT ?_⟩
      exact ⟨.bl b, rfl, .bl b, rfl, by cases b <;> rfl, blT (Q := Q) rfl (q H (Same.refl H))⟩
theorem ok_sameS {n : Nat} (B : Bl mg) (O1 : Ok P w K mg base 1 "_law_is_whole" ["_law_thing"] sp_is_whole) (O2 : Ok P w K mg base (n + 2) "_law_same" ["_law_told", "_law_due"] (sp_same K n)) (D : Df K mg "_law_same" s_same ["_law_told", "_law_due"]) :
    Ok P w K mg base (n + 3) "_law_same" ["_law_told", "_law_due"] (sp_same K (n + 1)) := by
  refine D.ok (k := n + 2) sc_same (fun vs H Q E h => ?_) (fun f cdv A outer s H vs Q E hr h => ?_)
  · obtain ⟨x, y, rfl, _⟩ := h
    rfl
  · obtain ⟨x, y, rfl, hs, q⟩ := h
    refine ⟨_, pss_cons (ps_if (pt_val (pe_callB call_isi (by rfl) B.isinstance boot_isinstance (pa_cons (pv 1) (pa_cons (pe_bltn (v := .ty "tuple") (by rfl) B.tuple PyProof.Rows.boot_tuple rfl) pa_nil))))
        (pss_cons (ps_if (PW.pt (pw_or (pt_not (pt_val (pe_callB call_isi (by rfl) B.isinstance boot_isinstance (pa_cons (pv 0) (pa_cons (pe_bltn (v := .ty "tuple") (by rfl) B.tuple PyProof.Rows.boot_tuple rfl) pa_nil))))) (pw_or1 (pt_cmpR op_ne (pe_callB call_len_seq (by rfl) B.len PySem.boot_len (pa_cons (pv 0) pa_nil)) (pe_callB call_len_seq (by rfl) B.len PySem.boot_len (pa_cons (pv 1) pa_nil)) (nomark _))))) (pss_one (ps_ret pe_bl)) pss_nil)
        (pss_one (ps_ret (pe_callB (cr_all rfl) (by rfl) B.all PyProof.Rows.boot_all (pa_cons (pe_lc (own := [("_law_this", 2), ("_law_that", 3)]) (g := gTup K 2 (gCons (gName 2) (gCons (gName 3) gNil))) (tt := tYes) rfl sc_same.nd
          (RZ.pi_zipA (by rfl) B.zip (pa_cons (pv 0) (pa_cons (pv 1) pa_nil))) (blkOk_by (own := [("_law_this", 2), ("_law_that", 3)]) (N := n_same) (sc := defScope s_same) (by decide +kernel))
          (fun _ _ _ _ _ => pg_tup rfl (pgs_cons (pg_name (i := 2) sc_same.nd rfl (Or.inl rfl)) (pgs_cons (pg_name (i := 3) sc_same.nd rfl (Or.inl rfl)) pgs_nil))) (fun _ _ _ _ _ => pts_nil)
          (fun _ _ _ _ _ => pe_ok O2 hr (pa_cons (pv 2) (pa_cons (pv 3) pa_nil)) (Nat.le_refl _))) pa_nil))))) pss_nil)
      (pss_cons (ps_if (PW.pt (pw_or (pt_cmp (pc_isN (pv 1))) (pw_or1 (pt_cmp (pc_isN (pv 0)))))) pss_never pss_nil)
      (pss_cons (ps_if (PW.pt (pw_or (pt_val (pe_callB call_isi (by rfl) B.isinstance boot_isinstance (pa_cons (pv 1) (pa_cons (pe_bltn (v := .ty "bool") (by rfl) B.bool PyProof.Rows.boot_bool rfl) pa_nil)))) (pw_or1 (pt_val (pe_callB call_isi (by rfl) B.isinstance boot_isinstance (pa_cons (pv 0) (pa_cons (pe_bltn (v := .ty "bool") (by rfl) B.bool PyProof.Rows.boot_bool rfl) pa_nil)))))))
        (pss_one (ps_ret (pe_and (pe_callB call_isi (by rfl) B.isinstance boot_isinstance (pa_cons (pv 1) (pa_cons (pe_bltn (v := .ty "bool") (by rfl) B.bool PyProof.Rows.boot_bool rfl) pa_nil))) (pe_and (pe_callB call_isi (by rfl) B.isinstance boot_isinstance (pa_cons (pv 0) (pa_cons (pe_bltn (v := .ty "bool") (by rfl) B.bool PyProof.Rows.boot_bool rfl) pa_nil))) (pe_one (pe_cmpR op_eq (pv 0) (pv 1) (nomark _))))))) pss_nil)
      (pss_one (ps_ret (pe_and (pe_ok O1 hr (pa_cons (pv 0) pa_nil) (Nat.le_add_left 1 (n + 1))) (pe_one (pe_cmpR op_eq (pv 0) (pv 1) (nomark _)))))))), ?_⟩
    cases hs with
    | int _ i =>
      refine ⟨.int i, rfl, .int i, .ty "tuple", .type "int", .type "tuple", false, rfl, .ty _, .base (.int i), kit_ty (by decide +kernel), false, rfl, iteF ?_⟩
      refine ⟨.int i, rfl, _, rfl, itF (p := V.int i = V.non) (fun z => by cases z) ⟨.int i, rfl, _, rfl, itF (p := V.int i = V.non) (fun z => by cases z) ?_⟩⟩
      refine ⟨.int i, rfl, .int i, .ty "bool", .type "int", .type "bool", false, rfl, .ty _, .base (.int i), kit_ty (by decide +kernel), false, rfl, iteF ?_⟩
      refine ⟨.int i, rfl, .int i, .ty "bool", .type "int", .type "bool", false, rfl, .ty _, .base (.int i), kit_ty (by decide +kernel), false, rfl, iteF ?_⟩
      exact ⟨.int i, rfl, i, rfl, true, rfl, iteT ⟨.int i, rfl, .int i, rfl, rfl, blT (Q := Q) rfl (q H (Same.refl H))⟩⟩
    | bl _ b =>
      refine ⟨.bl b, rfl, .bl b, .ty "tuple", .type "bool", .type "tuple", false, rfl, .ty _, .base (.bl b), kit_ty (by decide +kernel), false, rfl, iteF ?_⟩
      refine ⟨.bl b, rfl, _, rfl, itF (p := V.bl b = V.non) (fun z => by cases z) ⟨.bl b, rfl, _, rfl, itF (p := V.bl b = V.non) (fun z => by cases z) ?_⟩⟩
      refine ⟨.bl b, rfl, .bl b, .ty "bool", .type "bool", .type "bool", true, rfl, .ty _, .base (.bl b), kit_ty (by decide +kernel), true, rfl, iteT ?_⟩
      refine ⟨.bl b, rfl, .bl b, .ty "bool", .type "bool", .type "bool", true, rfl, .ty _, .base (.bl b), kit_ty (by decide +kernel), true, rfl, iteT ?_⟩
      refine ⟨.bl b, rfl, .bl b, .ty "bool", .type "bool", .type "bool", true, rfl, .ty _, .base (.bl b), kit_ty (by decide +kernel), true, rfl, iteT ?_⟩
      exact ⟨.bl b, rfl, .bl b, rfl, by cases b <;> rfl, blT (Q := Q) rfl (q H (Same.refl H))⟩
    | @tup _ a b xs ys hx hy hl hz hm =>
      refine ⟨.ref b, rfl, .ref b, .ty "tuple", .type "tuple", .type "tuple", true, rfl, .ty _, sqt_ty hy, kit_ty (by decide +kernel), true, rfl, iteT ?_⟩
      refine ⟨.ref a, rfl, .ref a, .ty "tuple", .type "tuple", .type "tuple", true, rfl, .ty _, sqt_ty hx, kit_ty (by decide +kernel), true, rfl, iteF ?_⟩
      refine ⟨.ref a, rfl, a, xs, rfl, .inr hx, .ref b, rfl, b, ys, rfl, .inr hy, rfl, _, rfl, ?_⟩
      rw [hl, decide_eq_true rfl]
      refine iteF ⟨.ref a, rfl, .ref b, rfl, a, b, xs, ys, rfl, .inr ⟨hx, hy, fun Dd nD => ?_⟩⟩
      refine lc_pairs (K := K) hl (fun i H' => Same H H' ∧ H' Dd = some (.lst ((List.replicate i true).map V.bl))) ⟨same_upd nD, upd_same⟩ (fun i H' hP => ⟨Same.sqt hP.1 hx, Same.sqt hP.1 hy⟩) (fun i u v T H' hu hv hP nT => ?_) (fun H' hP => ?_)
      · obtain ⟨h1, h2⟩ := hP
        have s1 : Same H' (upd H' T (.tup [u, v])) := same_upd nT
        refine ⟨T, [u, v], rfl, .inl (.inl upd_same), rfl, u, [v], rfl, v, [], rfl, rfl, rfl, ?_⟩
        refine yes ?_
        refine ⟨u, rfl, v, rfl, u, v, rfl, (hm i u v hu hv).same (h1.trans s1), fun H2 s2 => ⟨_, s2 _ _ (s1 _ _ h2), ?_, ?_, ?_⟩⟩
        · rw [List.length_map, List.length_replicate]
          have hi := (List.getElem?_eq_some_iff.mp hu).1
          exact small1000 (by omega)
        · exact fun c o e => by
            rw [upd_ne (ne_of_none e nD)]
            exact s2 _ _ (s1 _ _ (h1 c o e))
        · rw [upd_same, ← List.map_singleton, ← List.map_append, ← List.replicate_succ']
      · obtain ⟨h1, h2⟩ := hP
        refine ⟨Dd, List.replicate xs.length true, rfl, .inl (.inl h2), ?_⟩
        have e : (List.replicate xs.length true).all id = true := by simp
        rw [e]
        exact q H' h1
end
end K32

namespace K32
open PySem PySem.Spec PyProof.Rows L2
theorem mod_iff {n r m : Int} (h0 : 0 < m) (h1 : 0 ≤ r) (h2 : r < m) : n % m = r ↔ m ∣ n - r := by
  constructor
  · intro h
    rw [← h]
    exact dvd_sub_mod n m
  · intro h
    have d : m ∣ n % m - r := by
      have z := Int.dvd_sub h (dvd_sub_mod n m)
      rwa [show n - r - (n - n % m) = n % m - r by omega] at z
    exact dvd_of_mod_eq d (Int.emod_nonneg _ (by omega)) (Int.emod_lt_of_pos _ h0) h1 h2
theorem lots_succ (l : List Int) (s k : Int) (i : Nat) : lots l s k (i + 1) = lots l s k i ++ (if has l (s + (i : Int) * k) = true then [s + (i : Int) * k] else []) := by
  unfold lots
  rw [List.range_succ, List.map_append, List.filter_append, List.map_singleton]
  congr 1
  rw [List.filter_cons, List.filter_nil]
theorem lots_len (l : List Int) (s k : Int) (i : Nat) : (lots l s k i).length ≤ i := by
  unfold lots
  refine Nat.le_trans (List.length_filter_le _ _) ?_
  rw [List.length_map, List.length_range]
  exact Nat.le_refl _
theorem quo_least {r m s : Int} (hs : s ≠ 0) (hd : s ∣ m) (hm : m = 0 ∨ m ∣ 20160) : quo [r, m] [s, 0] = least2 (r.fdiv s) ((r + m).fdiv s) := by
  rw [least2_quo hs hd hm]
  show (if s = 0 ∧ (0 : Int) = 0 then [] else if r = 0 ∧ m = 0 then [0, 0] else if (0 : Int) = 0 ∧ s ∣ m then restBy (r.fdiv s) ((m.fdiv s).natAbs : Int) else [0, 1]) = _
  rw [if_neg (fun z => hs z.1)]
  by_cases c : r = 0 ∧ m = 0
  · rw [if_pos c, c.1, c.2, Int.zero_fdiv]
    rfl
  · rw [if_neg c, if_pos ⟨rfl, hd⟩]
def lets (g : Str) (x y : Int) : Bool := if g = "<" then decide (x < y) else if g = "<=" then decide (x ≤ y) else if g = "==" then decide (x = y) else !decide (x = y)
section
variable {P : Program} {w : World} {K : PySem.W.Frag} {mg : Str → Option Value} {base : Heap}
/-! ### _law_rest_has -/
theorem sc_rest_has : FnScope ["_law_one", "_law_count"] ["_law_one", "_law_count"] (defScope s_rest_has) := ⟨rfl, rfl, rfl, by decide +kernel, rfl, by decide +kernel, by decide +kernel⟩
theorem ok_rest_has (B : Bl mg) (D : Df K mg "_law_rest_has" s_rest_has ["_law_one", "_law_count"]) : Ok P w K mg base 1 "_law_rest_has" ["_law_one", "_law_count"] (sp_rest_holds K) := by
  refine D.ok sc_rest_has (fun vs H Q E h => ?_) (fun f cdv A outer st H vs Q E hr h => ?_)
  · obtain ⟨v, l, n, rfl, _⟩ := h
    rfl
  · obtain ⟨v, l, n, rfl, ⟨a, rfl, hT⟩, hR, q⟩ := h
    refine ⟨_, pss_one (ps_ret (pe_and (pe_cmpR (op_neT hr.units) (pv 0) (pe_tup pa_nil) (nomark _)) (pe_one (pe_ifExp (pt_cmpR op_eq (pe_ix ix_tup (pv 0) pe_int (fun _ _ => rfl)) pe_int (nomark _)) (pe_cmpR op_eq (pe_ix ix_tup (pv 0) pe_int (fun _ _ => rfl)) (pv 1) (nomark _))
      (pe_cmpR op_eq (pe_op op_mod (pe_callTy call_int1 (by rfl) B.int PyProof.Rows.boot_int (pa_cons (pv 1) pa_nil)) (pe_ix ix_tup (pv 0) pe_int (fun _ _ => rfl))) (pe_ix ix_tup (pv 0) pe_int (fun _ _ => rfl)) (nomark _)))))), ?_⟩
    refine ⟨.ref a, rfl, le0, fun p np => ?_⟩
    have s1 : Same H (upd H p (.tup [])) := same_upd np
    have hT1 := Same.sqt s1 hT
    refine ⟨a, p, l, [], rfl, rfl, hT1, .inl (.inl upd_same), _, rfl, ?_⟩
    rcases hR.form with e | ⟨r, m, rfl⟩
    · subst e
      exact iteF (q _ s1)
    · refine iteT ⟨.ref a, rfl, a, _, 1, .int m, rfl, rfl, hT1, atI_nat (j := 1) rfl, rfl, _, rfl, it2 (fun hm => ?_) (fun hm => ?_)⟩
      · have hm' : m = 0 := V.int.inj hm
        subst hm'
        refine ⟨.ref a, rfl, a, _, 0, .int r, rfl, rfl, hT1, atI_nat (j := 0) rfl, .int n, rfl, rfl, blE (Q := Q) ?_ (q _ s1)⟩
        rw [Bool.eq_iff_iff, decide_eq_true_iff, has_one]
        exact ⟨fun z => (V.int.inj z).symm, fun z => by rw [z]⟩
      · have hm' : m ≠ 0 := fun z => hm (by rw [z])
        obtain ⟨m0, m1, m2⟩ := hR.lt hm'
        refine ⟨.int n, rfl, .inl ⟨n, rfl, .ref a, rfl, a, _, 1, .int m, rfl, rfl, hT1, atI_nat (j := 1) rfl, n, m, rfl, rfl, m0, .ref a, rfl, a, _, 0, .int r, rfl, rfl, hT1, atI_nat (j := 0) rfl, rfl, blE (Q := Q) ?_ (q _ s1)⟩⟩
        rw [Bool.eq_iff_iff, decide_eq_true_iff, has_iff]
        exact ⟨fun z => (mod_iff m0 m1 m2).mp (V.int.inj z), fun z => congrArg V.int ((mod_iff m0 m1 m2).mpr z)⟩
/-! ### _law_least -/
theorem sc_least : FnScope ["_law_lots", "_law_by", "_law_count"] ["_law_lots"] (defScope s_least) := ⟨rfl, rfl, rfl, by decide +kernel, rfl, by decide +kernel, by decide +kernel⟩
def sp_least (K : PySem.W.Frag) : Sp := fun vs H Q _ => ∃ (a : Addr) (x y : Int), vs = [.ref a] ∧ SqL K H a (([x, y] : List Int).map V.int) ∧ ∀ H' v, Same H H' → RT K H' v (least2 x y) → Q v H'
theorem ok_least (B : Bl mg) (O1 : Ok P w K mg base 1 "_law_common" ["_law_far", "_law_near"] sp_common) (D : Df K mg "_law_least" s_least ["_law_lots"]) : Ok P w K mg base 2 "_law_least" ["_law_lots"] (sp_least K) := by
  refine D.ok sc_least (fun vs H Q E h => ?_) (fun f cdv A outer st H vs Q E hr h => ?_)
  · obtain ⟨a, x, y, rfl, _⟩ := h
    rfl
  · obtain ⟨a, x, y, rfl, hS, q⟩ := h
    refine ⟨_, pss_cons (ps_if (pt_cmpR (op_eqLs hr.units) (pv 0) (pe_lst pa_nil) (nomark _)) (pss_one (ps_ret (pe_tup pa_nil))) pss_nil)
      (pss_cons (ps_set (i := 1) sc_least.nd rfl (.inl rfl) pe_int)
      (pss_cons (ps_for PassesOwn.never rfl (pi_list (pv 0)) (pg_name (i := 2) sc_least.nd rfl (.inl rfl)) (pss_one (ps_set (i := 1) sc_least.nd rfl (.inl rfl) (pe_ok O1 hr (pa_cons (pv 1) (pa_cons (pe_op op_sub (pv 2) (pe_ix ix_list (pv 0) pe_int (fun _ _ => rfl))) pa_nil))))))
      (pss_cons (ps_if (pt_cmpR op_eq (pv 1) pe_int (nomark _)) (pss_one (ps_ret (pe_tup (pa_cons (pe_ix ix_list (pv 0) pe_int (fun _ _ => rfl)) (pa_cons pe_int pa_nil))))) pss_nil)
      (pss_cons (ps_set (i := 1) sc_least.nd rfl (.inl rfl) (pe_ok O1 hr (pa_cons (pv 1) (pa_cons pe_int pa_nil))))
      (pss_one (ps_ret (pe_tup (pa_cons (pe_op op_mod (pe_callTy call_int1 (by rfl) B.int PyProof.Rows.boot_int (pa_cons (pe_ix ix_list (pv 0) pe_int (fun _ _ => rfl)) pa_nil)) (pv 1)) (pa_cons (pv 1) pa_nil))))))))), ?_⟩
    refine ⟨.ref a, rfl, le0, fun p np => ?_⟩
    have s1 : Same H (upd H p (.lst [])) := same_upd np
    have hS1 := s1.seq hS
    refine ⟨a, p, [x, y], [], rfl, rfl, hS1, .inl (.inl upd_same), _, rfl, iteF ?_⟩
    refine ⟨.ref a, rfl, a, rfl, ⟨_, hS1⟩, for_list (K := K) (a := a) (xs := ([x, y] : List Int).map V.int) (fun i σ H' => ∃ z : Option V, σ = [some (.ref a), some (.int (if i ≤ 1 then 0 else ((y - x).natAbs : Int))), z] ∧ H' = upd H p (.lst []))
      ⟨none, rfl, rfl⟩ (fun i σ H' _ ⟨_, _, e⟩ => by rw [e]; exact hS1) (fun i u σ H' hx hP => ?_) (fun σ H' hP => ?_)⟩
    · obtain ⟨z, rfl, rfl⟩ := hP
      match i, hx with
      | 0, hx =>
        cases hx
        refine ⟨.int 0, rfl, .int x, rfl, .ref a, rfl, a, _, 0, .int x, rfl, rfl, hS1, atI_nat (j := 0) rfl, x, x, rfl, rfl, 0, x - x, rfl, some (.int x), ?_, rfl⟩
        show [some (V.ref a), some (V.int (Int.gcd 0 (x - x) : Nat)), some (V.int x)] = _
        rw [Int.sub_self]
        rfl
      | 1, hx =>
        cases hx
        refine ⟨.int 0, rfl, .int y, rfl, .ref a, rfl, a, _, 0, .int x, rfl, rfl, hS1, atI_nat (j := 0) rfl, y, x, rfl, rfl, 0, y - x, rfl, some (.int y), ?_, rfl⟩
        show [some (V.ref a), some (V.int (Int.gcd 0 (y - x) : Nat)), some (V.int y)] = _
        rw [Int.zero_gcd]
        rfl
      | j + 2, hx => cases hx
    · obtain ⟨z, rfl, rfl⟩ := hP
      have hi : (if (([x, y] : List Int).map V.int).length ≤ 1 then (0 : Int) else ((y - x).natAbs : Int)) = ((y - x).natAbs : Int) := rfl
      rw [hi]
      unfold least2 at q
      refine ⟨.int _, rfl, rfl, _, rfl, it2 (fun hz => ?_) (fun hz => ?_)⟩
      · have hz' : y - x = 0 := by
          have := V.int.inj hz
          omega
        rw [if_pos hz'] at q
        exact ⟨.ref a, rfl, a, _, 0, .int x, rfl, rfl, hS1, atI_nat (j := 0) rfl, le2, fun p2 np2 => q _ _ (s1.trans (same_upd np2)) ⟨p2, rfl, .inl (.inl upd_same)⟩⟩
      · have hz' : y - x ≠ 0 := fun e => hz (by rw [e]; rfl)
        rw [if_neg hz'] at q
        refine ⟨.int _, rfl, _, 20160, rfl, ?_⟩
        have hg : ((Int.gcd ((y - x).natAbs : Int) 20160 : Nat) : Int) = (Int.gcd (y - x) 20160 : Nat) := by
          unfold Int.gcd
          rw [Int.natAbs_natCast]
        rw [hg]
        have g0 : (0 : Int) < (Int.gcd (y - x) 20160 : Nat) := by
          have := Int.gcd_pos_of_ne_zero_left 20160 hz'
          omega
        generalize ((Int.gcd (y - x) 20160 : Nat) : Int) = gg at g0 q
        refine ⟨.ref a, rfl, a, _, 0, .int x, rfl, rfl, hS1, atI_nat (j := 0) rfl, .inl ⟨x, rfl, .int gg, rfl, x, gg, rfl, rfl, g0, .int gg, rfl, le2, fun p2 np2 => q _ _ (s1.trans (same_upd np2)) ?_⟩⟩
        unfold restBy
        rw [if_neg (by omega)]
        exact ⟨p2, rfl, .inl (.inl upd_same)⟩
/-! ### _law_rest_meet -/
abbrev n_meet : List Str := ["_law_one", "_law_two", "_law_few", "_law_many", "_law_turns", "_law_lots", "_law_count"]
theorem sc_rest_meet : FnScope n_meet ["_law_one", "_law_two"] (defScope s_rest_meet) := ⟨rfl, rfl, rfl, by decide +kernel, rfl, by decide +kernel, by decide +kernel⟩
theorem ok_rest_meet (B : Bl mg) (O1 : Ok P w K mg base 1 "_law_rest_has" ["_law_one", "_law_count"] (sp_rest_holds K)) (O2 : Ok P w K mg base 1 "_law_common" ["_law_far", "_law_near"] sp_common) (D : Df K mg "_law_rest_meet" s_rest_meet ["_law_one", "_law_two"]) :
    Ok P w K mg base 2 "_law_rest_meet" ["_law_one", "_law_two"] (sp_met_rest K) := by
  refine D.ok sc_rest_meet (fun vs H Q E h => ?_) (fun f cdv A outer st H vs Q E hr h => ?_)
  · obtain ⟨v1, v2, l1, l2, rfl, _⟩ := h
    rfl
  · obtain ⟨v1, v2, l1, l2, rfl, ⟨a, rfl, hT⟩, ⟨b, rfl, hU⟩, h1, h2, q⟩ := h
    have tail : ∃ t : TS, PSs (cxOf CX0 P w K mg base n_meet "_law_rest_meet" (defScope s_rest_meet) f cdv A outer st H E).nox ((defBody s_rest_meet).drop 2) t ∧
        ∀ (c d : Addr) (r m s k : Int) (H1 : Hp), Same H H1 → SqT K H1 c (([r, m] : List Int).map V.int) → SqT K H1 d (([s, k] : List Int).map V.int) → Rest [r, m] → Rest [s, k] → m ≤ k →
          (∀ H' v l, Same H H' → RT K H' v l → IsMeet [r, m] [s, k] l → Q v H') → t { nx := fun _ H' => Q .non H', rt := Q } [some (.ref a), some (.ref b), some (.ref c), some (.ref d), none, none, none] H1 := by
      refine ⟨_, pss_cons (ps_if (pt_cmpR op_eq (pe_ix ix_tup (pv 2) pe_int (fun _ _ => rfl)) pe_int (nomark _)) (pss_one (ps_ret (pe_ifExp (pt_val (pe_ok O1 hr (pa_cons (pv 3) (pa_cons (pe_ix ix_tup (pv 2) pe_int (fun _ _ => rfl)) pa_nil)))) (pv 2) (pe_tup pa_nil)))) pss_nil)
        (pss_cons (ps_set (i := 4) sc_rest_meet.nd rfl (.inl rfl) (pe_op op_fdiv (pe_ix ix_tup (pv 2) pe_int (fun _ _ => rfl)) (pe_ok O2 hr (pa_cons (pe_ix ix_tup (pv 2) pe_int (fun _ _ => rfl)) (pa_cons (pe_ix ix_tup (pv 3) pe_int (fun _ _ => rfl)) pa_nil)))))
        (pss_cons (ps_setLc (i := 5) (own := [("_law_count", 6)]) (g := gName 6) rfl sc_rest_meet.nd rfl rfl (sw_true rfl rfl rfl (by decide +kernel))
            (pi_range3 (by rfl) B.range (pa_cons (pe_ix ix_tup (pv 3) pe_int (fun _ _ => rfl)) (pa_cons (pe_op op_add (pe_ix ix_tup (pv 3) pe_int (fun _ _ => rfl)) (pe_op op_mul (pe_ix ix_tup (pv 3) pe_int (fun _ _ => rfl)) (pv 4))) (pa_cons (pe_ix ix_tup (pv 3) pe_int (fun _ _ => rfl)) pa_nil))))
            (blkOk_by (own := [("_law_count", 6)]) (N := n_meet) (sc := defScope s_rest_meet) (by decide +kernel)) (fun _ _ _ _ _ => pg_name (i := 6) sc_rest_meet.nd rfl (Or.inl rfl))
            (fun _ _ _ _ _ => pts_one (pt_val (pe_ok O1 hr (pa_cons (pv 2) (pa_cons (pv 6) pa_nil))))) (fun _ _ _ _ _ => pv 6))
        (pss_one (ps_ret (pe_ifExp (pt_cmpR (op_neLs hr.units) (pv 5) (pe_lst pa_nil) (nomark _)) (pe_tup (pa_cons (pe_ix ix_list (pv 5) pe_int (fun _ _ => rfl)) (pa_cons (pe_op op_mul (pe_ix ix_tup (pv 3) pe_int (fun _ _ => rfl)) (pv 4)) pa_nil))) (pe_tup pa_nil)))))), fun c d r m s k H1 s1 hc hd g1 g2 hmk qq => ?_⟩
      have m1 := g1.le
      have k1 := g2.le
      refine ⟨.ref c, rfl, c, _, 1, .int m, rfl, rfl, hc, atI_nat (j := 1) rfl, rfl, _, rfl, it2 (fun hm => ?_) (fun hm => ?_)⟩
      · have hm' : m = 0 := V.int.inj hm
        subst hm'
        refine ⟨.ref d, rfl, .ref c, rfl, c, _, 0, .int r, rfl, rfl, hc, atI_nat (j := 0) rfl, .ref d, [s, k], r, rfl, ⟨d, rfl, hd⟩, g2, fun H2 s2 => ⟨_, rfl, ?_⟩⟩
        cases e : has [s, k] r with
        | true => exact (iteT ⟨.ref c, rfl, qq H2 _ [r, 0] (s1.trans s2) ⟨c, rfl, Same.sqt s2 hc⟩ (meet_one e)⟩)
        | false => exact (iteF ⟨le0, fun p np => qq _ _ [] ((s1.trans s2).trans (same_upd np)) ⟨p, rfl, .inl (.inl upd_same)⟩ (meet_one_no e)⟩)
      · have hm' : m ≠ 0 := fun z => hm (by rw [z])
        have hk' : k ≠ 0 := by omega
        obtain ⟨m0, r0, r1⟩ := g1.lt hm'
        obtain ⟨k0, s0', s1'⟩ := g2.lt hk'
        have g0 : (0 : Int) < (Int.gcd m k : Nat) := by
          have := Int.gcd_pos_of_ne_zero_left k hm'
          omega
        have gm := Int.gcd_le_left k m0
        have t0 : 0 ≤ m / (Int.gcd m k : Nat) := Int.ediv_nonneg (by omega) (by omega)
        have t1 : m / (Int.gcd m k : Nat) ≤ m := Int.ediv_le_self _ (by omega)
        refine ⟨.ref c, rfl, c, _, 1, .int m, rfl, rfl, hc, atI_nat (j := 1) rfl, .ref c, rfl, c, _, 1, .int m, rfl, rfl, hc, atI_nat (j := 1) rfl, .ref d, rfl, d, _, 1, .int k, rfl, rfl, hd, atI_nat (j := 1) rfl, m, k, rfl, m, _, rfl, rfl, ⟨g0, by omega⟩, ?_⟩
        refine ⟨.ref d, rfl, d, _, 0, .int s, rfl, rfl, hd, atI_nat (j := 0) rfl, .ref d, rfl, d, _, 0, .int s, rfl, rfl, hd, atI_nat (j := 0) rfl, .ref d, rfl, d, _, 1, .int k, rfl, rfl, hd, atI_nat (j := 1) rfl, .int _, rfl, k, _, rfl, rfl, .inl ⟨by omega, by omega⟩, s, _, rfl, rfl, .ref d, rfl, d, _, 1, .int k, rfl, rfl, hd, atI_nat (j := 1) rfl, s, _, k, _, rfl, rgc_pos s0' (by omega) k0 (by omega) t0 (by omega), fun Dd nD => ?_⟩
        have hN : (m / (Int.gcd m k : Nat)).toNat ≤ 20160 := by omega
        refine lc_steps (fun i H' => Same H1 H' ∧ H' Dd = some (.lst ((lots [r, m] s k i).map V.int))) ⟨same_upd nD, upd_same⟩ (fun i H' hi hP => ?_) (fun H' hP => ?_)
        · obtain ⟨p1, p2⟩ := hP
          refine ⟨rfl, .ref c, rfl, .int _, rfl, .ref c, [r, m], _, rfl, ⟨c, rfl, Same.sqt p1 hc⟩, g1, fun H2 s2 => ⟨_, rfl, ?_⟩⟩
          have ls := lots_succ [r, m] s k i
          have ll := lots_len [r, m] s k i
          cases e : has [r, m] (s + (i : Int) * k) with
          | true =>
            rw [e, if_pos rfl] at ls
            refine (iteT ⟨.int _, rfl, _, s2 _ _ p2, ?_, ?_, ?_⟩)
            · rw [List.length_map]
              exact Nat.lt_of_lt_of_le (show (lots [r, m] s k i).length < 16777216 by omega) (by decide)
            · exact fun x o ex => by
                rw [upd_ne (ne_of_none ex nD)]
                exact s2 _ _ (p1 x o ex)
            · rw [upd_same, ls, List.map_append]
              rfl
          | false =>
            rw [e, if_neg Bool.false_ne_true, List.append_nil] at ls
            exact (iteF ⟨p1.trans s2, by rw [ls]; exact s2 _ _ p2⟩)
        · obtain ⟨p1, p2⟩ := hP
          have s01 := s1.trans p1
          refine ⟨.ref Dd, rfl, le0, fun p np => ?_⟩
          have hp2 := same_upd np (o := .lst []) _ _ p2
          refine ⟨Dd, p, lots [r, m] s k (m / (Int.gcd m k : Nat)).toNat, [], rfl, rfl, .inl (.inl hp2), .inl (.inl upd_same), _, rfl, ?_⟩
          have s02 := s01.trans (same_upd np (o := .lst []))
          have hd2 := Same.sqt (p1.trans (same_upd np (o := .lst []))) hd
          cases hL : lots [r, m] s k (m / (Int.gcd m k : Nat)).toNat with
          | nil => exact iteF ⟨le0, fun p3 np3 => qq _ _ [] (s02.trans (same_upd np3)) ⟨p3, rfl, .inl (.inl upd_same)⟩ (lots_none g1 g2 hm' hk' hL)⟩
          | cons x xs =>
            rw [hL] at hp2
            refine iteT ⟨.ref Dd, rfl, Dd, _, 0, .int x, rfl, rfl, .inl (.inl hp2), atI_nat (j := 0) rfl, .ref d, rfl, d, _, 1, .int k, rfl, rfl, hd2, atI_nat (j := 1) rfl, .int _, rfl, k, _, rfl, rfl, .inl ⟨by omega, by omega⟩, le2, fun p3 np3 => ?_⟩
            exact qq _ _ [x, k * (m / (Int.gcd m k : Nat))] (s02.trans (same_upd np3)) ⟨p3, rfl, .inl (.inl upd_same)⟩ (lots_some g1 g2 hm' hk' hL)
    obtain ⟨t, ht, hq⟩ := tail
    refine ⟨_, pss_cons (ps_if (PW.pt (pw_or (pt_cmpR (op_eqT hr.units) (pv 0) (pe_tup pa_nil) (nomark _)) (pw_or1 (pt_cmpR (op_eqT hr.units) (pv 1) (pe_tup pa_nil) (nomark _))))) (pss_one (ps_ret (pe_tup pa_nil))) pss_nil)
      (pss_cons (ps_asg (pe_ifExp (pt_cmpR op_le (pe_ix ix_tup (pv 0) pe_int (fun _ _ => rfl)) (pe_ix ix_tup (pv 1) pe_int (fun _ _ => rfl)) (nomark _)) (pe_tup (pa_cons (pv 0) (pa_cons (pv 1) pa_nil))) (pe_tup (pa_cons (pv 1) (pa_cons (pv 0) pa_nil))))
        (pg_tup rfl (pgs_cons (pg_name (i := 2) sc_rest_meet.nd rfl (.inr rfl)) (pgs_cons (pg_name (i := 3) sc_rest_meet.nd rfl (.inl rfl)) pgs_nil)))) ht), ?_⟩
    refine ⟨.ref a, rfl, le0, fun p np => ?_⟩
    have s1 : Same H (upd H p (.tup [])) := same_upd np
    have hT1 := Same.sqt s1 hT
    have hU1 := Same.sqt s1 hU
    refine ⟨a, p, l1, [], rfl, rfl, hT1, .inl (.inl upd_same), _, rfl, ?_⟩
    rcases h1.form with e | ⟨r, m, rfl⟩
    · subst e
      exact iteT ⟨le0, fun p2 np2 => q _ _ [] (s1.trans (same_upd np2)) ⟨p2, rfl, .inl (.inl upd_same)⟩ (meet_nil_left l2)⟩
    · refine iteF ⟨.ref b, rfl, le0, fun p2 np2 => ?_⟩
      have s2 := s1.trans (same_upd np2 (o := .tup []))
      have hT2 := Same.sqt (same_upd np2 (o := .tup [])) hT1
      have hU2 := Same.sqt (same_upd np2 (o := .tup [])) hU1
      refine ⟨b, p2, l2, [], rfl, rfl, hU2, .inl (.inl upd_same), _, rfl, ?_⟩
      rcases h2.form with e | ⟨s, k, rfl⟩
      · subst e
        exact iteT ⟨le0, fun p3 np3 => q _ _ [] (s2.trans (same_upd np3)) ⟨p3, rfl, .inl (.inl upd_same)⟩ (meet_nil_right [r, m])⟩
      · refine iteF ⟨.ref a, rfl, a, _, 1, .int m, rfl, rfl, hT2, atI_nat (j := 1) rfl, .ref b, rfl, b, _, 1, .int k, rfl, rfl, hU2, atI_nat (j := 1) rfl, m, k, rfl, rfl, _, rfl, it2 (fun hle => ?_) (fun hle => ?_)⟩
        · refine ⟨.ref a, rfl, .ref b, rfl, le2, fun p3 np3 => ⟨p3, _, rfl, .inl (.inl upd_same), rfl, _, _, rfl, _, _, rfl, rfl, ?_⟩⟩
          exact hq a b r m s k _ (s2.trans (same_upd np3)) (Same.sqt (same_upd np3) hT2) (Same.sqt (same_upd np3) hU2) h1 h2 hle q
        · refine ⟨.ref b, rfl, .ref a, rfl, le2, fun p3 np3 => ⟨p3, _, rfl, .inl (.inl upd_same), rfl, _, _, rfl, _, _, rfl, rfl, ?_⟩⟩
          exact hq b a s k r m _ (s2.trans (same_upd np3)) (Same.sqt (same_upd np3) hU2) (Same.sqt (same_upd np3) hT2) h2 h1 (by omega) (fun H' v l e1 e2 e3 => q H' v l e1 e2 e3.symm)
end
end K32

namespace K32
open PySem PySem.Spec PyProof.Rows L2
theorem rest_len {l : List Int} (h : Rest l) : l.length ≤ 1000 := by
  rcases h.form with e | ⟨r, m, e⟩
  · rw [e]
    exact Nat.zero_le _
  · rw [e]
    show 2 ≤ 1000
    decide
theorem g_lt_le : ¬ (("<=" : Str) = "<") := by decide +kernel
theorem g_eq_lt : ¬ (("==" : Str) = "<") := by decide +kernel
theorem g_eq_le : ¬ (("==" : Str) = "<=") := by decide +kernel
theorem g_ne_lt : ¬ (("!=" : Str) = "<") := by decide +kernel
theorem g_ne_le : ¬ (("!=" : Str) = "<=") := by decide +kernel
theorem g_ne_eq : ¬ (("!=" : Str) = "==") := by decide +kernel
/-- what a guard lets by is held by the guarded pair -/
theorem gd_held {g : Str} {l1 l2 lx ly : List Int} {x y : Int} (h : Gd g l1 l2 lx ly) (a : has l1 x = true) (b : has l2 y = true) (c : lets g x y = true) : has lx x = true ∧ has ly y = true := by
  unfold Gd at h
  by_cases c1 : l1 = [] ∨ l2 = []
  · rcases c1 with e | e
    · rw [e] at a
      cases a
    · rw [e] at b
      cases b
  · rw [if_neg c1] at h
    by_cases c2 : g = "=="
    · rw [if_pos c2] at h
      subst c2
      unfold lets at c
      rw [if_neg g_eq_lt, if_neg g_eq_le, if_pos rfl] at c
      have e := of_decide_eq_true c
      subst e
      have z : has lx x = true := by rw [h.1.2 x, a, b]; rfl
      exact ⟨z, by rw [h.2]; exact z⟩
    · rw [if_neg c2] at h
      by_cases c3 : g = "!=" ∧ l1 = l2 ∧ l1[1]? = some 0
      · obtain ⟨rfl, rfl, z⟩ := c3
        unfold lets at c
        rw [if_neg g_ne_lt, if_neg g_ne_le, if_neg g_ne_eq] at c
        have ne : ¬ x = y := by simpa using c
        exfalso
        match l1, a, b, z with
        | [r, m], a, b, z =>
          have zm : m = 0 := Option.some.inj z
          subst zm
          exact ne ((has_one.mp a).trans (has_one.mp b).symm)
      · rw [if_neg c3] at h
        rw [h.1, h.2]
        exact ⟨a, b⟩
section
variable {P : Program} {w : World} {K : PySem.W.Frag} {mg : Str → Option Value} {base : Heap}
/-! ### _law_over -/
theorem sc_over : FnScope ["_law_one", "_law_two"] ["_law_one", "_law_two"] (defScope s_over) := ⟨rfl, rfl, rfl, by decide +kernel, rfl, by decide +kernel, by decide +kernel⟩
theorem ok_over (B : Bl mg) (O1 : Ok P w K mg base 2 "_law_least" ["_law_lots"] (sp_least K)) (D : Df K mg "_law_over" s_over ["_law_one", "_law_two"]) : Ok P w K mg base 3 "_law_over" ["_law_one", "_law_two"] (sp_quo K) := by
  refine D.ok sc_over (fun vs H Q E h => ?_) (fun f cdv A outer st H vs Q E hr h => ?_)
  · obtain ⟨v1, v2, l1, l2, rfl, _⟩ := h
    rfl
  · obtain ⟨v1, v2, l1, l2, rfl, ⟨a, rfl, hT⟩, ⟨b, rfl, hU⟩, h1, h2, hb, q⟩ := h
    refine ⟨_, pss_cons (ps_if (PW.pt (pw_or (pt_cmpR (op_eqT hr.units) (pv 0) (pe_tup pa_nil) (nomark _)) (pw_or (pt_cmpR (op_eqT hr.units) (pv 1) (pe_tup pa_nil) (nomark _)) (pw_or1 (pt_cmpR (op_eqT hr.units) (pv 1) (pe_tup (pa_cons pe_int (pa_cons pe_int pa_nil))) (nomark _))))))
        (pss_one (ps_ret (pe_tup pa_nil))) pss_nil)
      (pss_cons (ps_if (PW.pt (pw_and (pt_cmpR op_eq (pe_ix ix_tup (pv 1) pe_int (fun _ _ => rfl)) pe_int (nomark _)) (pw_and1 (pt_cmpR op_eq (pe_op op_modN (pe_callTy call_int1 (by rfl) B.int PyProof.Rows.boot_int (pa_cons (pe_ix ix_tup (pv 0) pe_int (fun _ _ => rfl)) pa_nil)) (pe_ix ix_tup (pv 1) pe_int (fun _ _ => rfl))) pe_int (nomark _)))))
        (pss_one (ps_ret (pe_ok O1 hr (pa_cons (pe_lst (pa_cons (pe_op op_fdivS (pe_ix ix_tup (pv 0) pe_int (fun _ _ => rfl)) (pe_ix ix_tup (pv 1) pe_int (fun _ _ => rfl))) (pa_cons (pe_op op_fdivS (pe_op op_add (pe_ix ix_tup (pv 0) pe_int (fun _ _ => rfl)) (pe_ix ix_tup (pv 0) pe_int (fun _ _ => rfl))) (pe_ix ix_tup (pv 1) pe_int (fun _ _ => rfl))) pa_nil))) pa_nil)))) pss_nil)
      (pss_one (ps_ret (pe_ifExp (pt_cmpR (op_eqT hr.units) (pv 0) (pe_tup (pa_cons pe_int (pa_cons pe_int pa_nil))) (nomark _)) (pe_tup (pa_cons pe_int (pa_cons pe_int pa_nil))) (pe_tup (pa_cons pe_int (pa_cons pe_int pa_nil))))))), ?_⟩
    refine ⟨.ref a, rfl, le0, fun p np => ?_⟩
    have s1 : Same H (upd H p (.tup [])) := same_upd np
    have hT1 := Same.sqt s1 hT
    have hU1 := Same.sqt s1 hU
    refine ⟨a, p, l1, [], rfl, rfl, hT1, .inl (.inl upd_same), _, rfl, ?_⟩
    rcases h1.form with e | ⟨r, m, rfl⟩
    · subst e
      exact iteT ⟨le0, fun p2 np2 => q _ _ (s1.trans (same_upd np2)) ⟨p2, rfl, .inl (.inl upd_same)⟩⟩
    · refine iteF ⟨.ref b, rfl, le0, fun p2 np2 => ?_⟩
      have s2 := s1.trans (same_upd np2 (o := .tup []))
      have hT2 := Same.sqt (same_upd np2 (o := .tup [])) hT1
      have hU2 := Same.sqt (same_upd np2 (o := .tup [])) hU1
      refine ⟨b, p2, l2, [], rfl, rfl, hU2, .inl (.inl upd_same), _, rfl, ?_⟩
      rcases h2.form with e | ⟨s, k, rfl⟩
      · subst e
        rw [quo_nil_right] at q
        exact iteT ⟨le0, fun p3 np3 => q _ _ (s2.trans (same_upd np3)) ⟨p3, rfl, .inl (.inl upd_same)⟩⟩
      · refine iteF ⟨.ref b, rfl, le2, fun p3 np3 => ?_⟩
        have s3 := s2.trans (same_upd np3 (o := .tup [.int 0, .int 0]))
        have hT3 := Same.sqt (same_upd np3 (o := .tup [.int 0, .int 0])) hT2
        have hU3 := Same.sqt (same_upd np3 (o := .tup [.int 0, .int 0])) hU2
        refine ⟨b, p3, [s, k], [0, 0], rfl, rfl, hU3, .inl (.inl upd_same), _, rfl, ?_⟩
        have hq : quo [r, m] [s, k] = if s = 0 ∧ k = 0 then [] else if r = 0 ∧ m = 0 then [0, 0] else if k = 0 ∧ s ∣ m then restBy (r.fdiv s) ((m.fdiv s).natAbs : Int) else [0, 1] := rfl
        by_cases c1 : s = 0 ∧ k = 0
        · rw [hq, if_pos c1] at q
          exact itT (pair_eq.mpr c1) ⟨le0, fun p4 np4 => q _ _ (s3.trans (same_upd np4)) ⟨p4, rfl, .inl (.inl upd_same)⟩⟩
        · have fin : ¬ (k = 0 ∧ s ∣ m) → tRet (tIf (tTest (tOp (rEqT K) (tVar 0) (tTup (tCons (tC (.int 0)) (tCons (tC (.int 0)) tNil))))) (tTup (tCons (tC (.int 0)) (tCons (tC (.int 0)) tNil))) (tTup (tCons (tC (.int 0)) (tCons (tC (.int 1)) tNil)))) { nx := fun _ H' => Q .non H', rt := Q } [some (.ref a), some (.ref b)] (upd (upd (upd H p (.tup [])) p2 (.tup [])) p3 (.tup [.int 0, .int 0])) := by
            intro c3
            rw [hq, if_neg c1, if_neg c3] at q
            refine ⟨.ref a, rfl, le2, fun p4 np4 => ⟨a, p4, [r, m], [0, 0], rfl, rfl, Same.sqt (same_upd np4) hT3, .inl (.inl upd_same), _, rfl, it2 (fun z => ?_) (fun z => ?_)⟩⟩
            · rw [if_pos (pair_eq.mp z)] at q
              exact ⟨le2, fun p5 np5 => q _ _ ((s3.trans (same_upd np4)).trans (same_upd np5)) ⟨p5, rfl, .inl (.inl upd_same)⟩⟩
            · rw [if_neg (fun y => z (pair_eq.mpr y))] at q
              exact ⟨le2, fun p5 np5 => q _ _ ((s3.trans (same_upd np4)).trans (same_upd np5)) ⟨p5, rfl, .inl (.inl upd_same)⟩⟩
          refine itF (fun z => c1 (pair_eq.mp z)) ⟨.ref b, rfl, b, _, 1, .int k, rfl, rfl, hU3, atI_nat (j := 1) rfl, rfl, _, rfl, it2 (fun hk => ?_) (fun hk => fin fun z => hk (congrArg V.int z.1))⟩
          have hk' : k = 0 := V.int.inj hk
          have hs : s ≠ 0 := fun z => c1 ⟨z, hk'⟩
          refine ⟨.ref a, rfl, a, _, 1, .int m, rfl, rfl, hT3, atI_nat (j := 1) rfl, .inl ⟨m, rfl, .ref b, rfl, b, _, 0, .int s, rfl, rfl, hU3, atI_nat (j := 0) rfl, m, s, rfl, rfl, hs, rfl, _, rfl, it2 (fun hd => ?_) (fun hd => fin fun z => hd (congrArg V.int (fmod_zero_iff.mpr z.2)))⟩⟩
          have hd' : s ∣ m := fmod_zero_iff.mp (V.int.inj hd)
          have hsb : s.natAbs < 2 ^ 300 := hb s (by simp)
          subst hk'
          rw [quo_least hs hd' (by by_cases z : m = 0; exact .inl z; exact .inr (h1.dvd z))] at q
          refine ⟨.ref a, rfl, a, _, 0, .int r, rfl, rfl, hT3, atI_nat (j := 0) rfl, .ref b, rfl, b, _, 0, .int s, rfl, rfl, hU3, atI_nat (j := 0) rfl, r, s, rfl, rfl, ⟨hs, hsb⟩, .ref a, rfl, a, _, 0, .int r, rfl, rfl, hT3, atI_nat (j := 0) rfl, .ref a, rfl, a, _, 1, .int m, rfl, rfl, hT3, atI_nat (j := 1) rfl, r, m, rfl, rfl, .ref b, rfl, b, _, 0, .int s, rfl, rfl, hU3, atI_nat (j := 0) rfl, r + m, s, rfl, rfl, ⟨hs, hsb⟩, le2, fun p4 np4 => ?_⟩
          exact ⟨p4, r.fdiv s, (r + m).fdiv s, rfl, .inl (.inl upd_same), fun H' v s4 hv => q H' v ((s3.trans (same_upd np4)).trans s4) hv⟩
/-! ### _law_left -/
theorem sc_left : FnScope ["_law_one", "_law_two", "_law_by"] ["_law_one", "_law_two"] (defScope s_left) := ⟨rfl, rfl, rfl, by decide +kernel, rfl, by decide +kernel, by decide +kernel⟩
theorem ok_left (B : Bl mg) (O1 : Ok P w K mg base 1 "_law_common" ["_law_far", "_law_near"] sp_common) (D : Df K mg "_law_left" s_left ["_law_one", "_law_two"]) : Ok P w K mg base 2 "_law_left" ["_law_one", "_law_two"] (sp_mdl K) := by
  refine D.ok sc_left (fun vs H Q E h => ?_) (fun f cdv A outer st H vs Q E hr h => ?_)
  · obtain ⟨v1, v2, l1, l2, rfl, _⟩ := h
    rfl
  · obtain ⟨v1, v2, l1, l2, rfl, ⟨a, rfl, hT⟩, ⟨b, rfl, hU⟩, h1, h2, q⟩ := h
    have tail : ∃ t : TS, PSs (cxOf CX0 P w K mg base ["_law_one", "_law_two", "_law_by"] "_law_left" (defScope s_left) f cdv A outer st H E).nox ((defBody s_left).drop 2) t ∧
        ∀ (r m s k : Int) (H1 : Hp), SqT K H1 a (([r, m] : List Int).map V.int) → SqT K H1 b (([s, k] : List Int).map V.int) → ¬ (s = 0 ∧ k = 0) →
          (∀ H' v, Same H1 H' → RT K H' v (restBy r (Int.gcd (Int.gcd m s : Nat) k : Nat)) → Q v H') → t { nx := fun _ H' => Q .non H', rt := Q } [some (.ref a), some (.ref b), none] H1 := by
      refine ⟨_, pss_cons (ps_set (i := 2) sc_left.nd rfl (.inl rfl) (pe_ok O1 hr (pa_cons (pe_ok O1 hr (pa_cons (pe_ix ix_tup (pv 0) pe_int (fun _ _ => rfl)) (pa_cons (pe_ix ix_tup (pv 1) pe_int (fun _ _ => rfl)) pa_nil))) (pa_cons (pe_ix ix_tup (pv 1) pe_int (fun _ _ => rfl)) pa_nil))))
        (pss_one (ps_ret (pe_tup (pa_cons (pe_op op_mod (pe_callTy call_int1 (by rfl) B.int PyProof.Rows.boot_int (pa_cons (pe_ix ix_tup (pv 0) pe_int (fun _ _ => rfl)) pa_nil)) (pv 2)) (pa_cons (pv 2) pa_nil))))), fun r m s k H1 hT hU hne qq => ?_⟩
      refine ⟨.ref a, rfl, a, _, 1, .int m, rfl, rfl, hT, atI_nat (j := 1) rfl, .ref b, rfl, b, _, 0, .int s, rfl, rfl, hU, atI_nat (j := 0) rfl, m, s, rfl, .ref b, rfl, b, _, 1, .int k, rfl, rfl, hU, atI_nat (j := 1) rfl, _, k, rfl, ?_⟩
      have g := gcd3_ne (m := m) hne
      have g0 : (0 : Int) < (Int.gcd (Int.gcd m s : Nat) k : Nat) := by omega
      unfold restBy at qq
      rw [if_neg g] at qq
      exact ⟨.ref a, rfl, a, _, 0, .int r, rfl, rfl, hT, atI_nat (j := 0) rfl, .inl ⟨r, rfl, .int _, rfl, r, _, rfl, rfl, g0, .int _, rfl, le2, fun p np => qq _ _ (same_upd np) ⟨p, rfl, .inl (.inl upd_same)⟩⟩⟩
    obtain ⟨t, ht, hq⟩ := tail
    refine ⟨_, pss_cons (ps_if (PW.pt (pw_or (pt_cmpR (op_eqT hr.units) (pv 0) (pe_tup pa_nil) (nomark _)) (pw_or (pt_cmpR (op_eqT hr.units) (pv 1) (pe_tup pa_nil) (nomark _)) (pw_or1 (pt_cmpR (op_eqT hr.units) (pv 1) (pe_tup (pa_cons pe_int (pa_cons pe_int pa_nil))) (nomark _))))))
        (pss_one (ps_ret (pe_tup pa_nil))) pss_nil)
      (pss_cons (ps_if (PW.pt (pw_and (pt_cmpR op_eq (pe_ix ix_tup (pv 1) pe_int (fun _ _ => rfl)) pe_int (nomark _)) (pw_and1 (pt_cmpR op_eq (pe_op op_modN (pe_callTy call_int1 (by rfl) B.int PyProof.Rows.boot_int (pa_cons (pe_ix ix_tup (pv 0) pe_int (fun _ _ => rfl)) pa_nil)) (pe_ix ix_tup (pv 1) pe_int (fun _ _ => rfl))) pe_int (nomark _)))))
        (pss_one (ps_ret (pe_tup (pa_cons (pe_op op_modN (pe_callTy call_int1 (by rfl) B.int PyProof.Rows.boot_int (pa_cons (pe_ix ix_tup (pv 0) pe_int (fun _ _ => rfl)) pa_nil)) (pe_ix ix_tup (pv 1) pe_int (fun _ _ => rfl))) (pa_cons pe_int pa_nil))))) pss_nil) ht), ?_⟩
    refine ⟨.ref a, rfl, le0, fun p np => ?_⟩
    have s1 : Same H (upd H p (.tup [])) := same_upd np
    have hT1 := Same.sqt s1 hT
    have hU1 := Same.sqt s1 hU
    refine ⟨a, p, l1, [], rfl, rfl, hT1, .inl (.inl upd_same), _, rfl, ?_⟩
    rcases h1.form with e | ⟨r, m, rfl⟩
    · subst e
      exact iteT ⟨le0, fun p2 np2 => q _ _ (s1.trans (same_upd np2)) ⟨p2, rfl, .inl (.inl upd_same)⟩⟩
    · refine iteF ⟨.ref b, rfl, le0, fun p2 np2 => ?_⟩
      have s2 := s1.trans (same_upd np2 (o := .tup []))
      have hT2 := Same.sqt (same_upd np2 (o := .tup [])) hT1
      have hU2 := Same.sqt (same_upd np2 (o := .tup [])) hU1
      refine ⟨b, p2, l2, [], rfl, rfl, hU2, .inl (.inl upd_same), _, rfl, ?_⟩
      rcases h2.form with e | ⟨s, k, rfl⟩
      · subst e
        rw [mdl_nil_right] at q
        exact iteT ⟨le0, fun p3 np3 => q _ _ (s2.trans (same_upd np3)) ⟨p3, rfl, .inl (.inl upd_same)⟩⟩
      · refine iteF ⟨.ref b, rfl, le2, fun p3 np3 => ?_⟩
        have s3 := s2.trans (same_upd np3 (o := .tup [.int 0, .int 0]))
        have hT3 := Same.sqt (same_upd np3 (o := .tup [.int 0, .int 0])) hT2
        have hU3 := Same.sqt (same_upd np3 (o := .tup [.int 0, .int 0])) hU2
        refine ⟨b, p3, [s, k], [0, 0], rfl, rfl, hU3, .inl (.inl upd_same), _, rfl, ?_⟩
        have hqq : mdl [r, m] [s, k] = if s = 0 ∧ k = 0 then [] else if k = 0 ∧ s ∣ m then [r.fmod s, 0] else restBy r (Int.gcd (Int.gcd m s : Nat) k : Nat) := rfl
        rw [hqq] at q
        by_cases c1 : s = 0 ∧ k = 0
        · rw [if_pos c1] at q
          exact itT (pair_eq.mpr c1) ⟨le0, fun p4 np4 => q _ _ (s3.trans (same_upd np4)) ⟨p4, rfl, .inl (.inl upd_same)⟩⟩
        · rw [if_neg c1] at q
          refine itF (fun z => c1 (pair_eq.mp z)) ⟨.ref b, rfl, b, _, 1, .int k, rfl, rfl, hU3, atI_nat (j := 1) rfl, rfl, _, rfl, it2 (fun hk => ?_) (fun hk => ?_)⟩
          · have hk' : k = 0 := V.int.inj hk
            have hs : s ≠ 0 := fun z => c1 ⟨z, hk'⟩
            refine ⟨.ref a, rfl, a, _, 1, .int m, rfl, rfl, hT3, atI_nat (j := 1) rfl, .inl ⟨m, rfl, .ref b, rfl, b, _, 0, .int s, rfl, rfl, hU3, atI_nat (j := 0) rfl, m, s, rfl, rfl, hs, rfl, _, rfl, it2 (fun hd => ?_) (fun hd => ?_)⟩⟩
            · rw [if_pos ⟨hk', fmod_zero_iff.mp (V.int.inj hd)⟩] at q
              exact ⟨.ref a, rfl, a, _, 0, .int r, rfl, rfl, hT3, atI_nat (j := 0) rfl, .inl ⟨r, rfl, .ref b, rfl, b, _, 0, .int s, rfl, rfl, hU3, atI_nat (j := 0) rfl, r, s, rfl, rfl, hs, le2, fun p4 np4 => q _ _ (s3.trans (same_upd np4)) ⟨p4, rfl, .inl (.inl upd_same)⟩⟩⟩
            · rw [if_neg (fun z => hd (congrArg V.int (fmod_zero_iff.mpr z.2)))] at q
              exact hq r m s k _ hT3 hU3 c1 fun H' v s4 hv => q H' v (s3.trans s4) hv
          · rw [if_neg (fun z => hk (congrArg V.int z.1))] at q
            exact hq r m s k _ hT3 hU3 c1 fun H' v s4 hv => q H' v (s3.trans s4) hv
/-! ### _law_lets -/
theorem sc_lets : FnScope ["_law_word", "_law_left_here", "_law_right_here"] ["_law_word", "_law_left_here", "_law_right_here"] (defScope s_lets) := ⟨rfl, rfl, rfl, by decide +kernel, rfl, by decide +kernel, by decide +kernel⟩
def sp_lets : Sp := fun vs H Q _ => ∃ (g : Str) (x y : Int), vs = [.str g, .int x, .int y] ∧ Q (.bl (lets g x y)) H
theorem ok_lets (D : Df K mg "_law_lets" s_lets ["_law_word", "_law_left_here", "_law_right_here"]) : Ok P w K mg base 1 "_law_lets" ["_law_word", "_law_left_here", "_law_right_here"] sp_lets := by
  refine D.ok sc_lets (fun vs H Q E h => ?_) (fun f cdv A outer st H vs Q E hr h => ?_)
  · obtain ⟨g, x, y, rfl, _⟩ := h
    rfl
  · obtain ⟨g, x, y, rfl, q⟩ := h
    refine ⟨_, pss_cons (ps_if (pt_cmpR op_eq (pv 0) pe_str (nomark _)) (pss_one (ps_ret (pe_cmpR op_lt (pv 1) (pv 2) (nomark _)))) pss_nil)
      (pss_cons (ps_if (pt_cmpR op_eq (pv 0) pe_str (nomark _)) (pss_one (ps_ret (pe_cmpR op_le (pv 1) (pv 2) (nomark _)))) pss_nil)
      (pss_one (ps_ret (pe_ifExp (pt_cmpR op_eq (pv 0) pe_str (nomark _)) (pe_cmpR op_eq (pv 1) (pv 2) (nomark _)) (pe_cmpR op_ne (pv 1) (pv 2) (nomark _)))))), ?_⟩
    unfold lets at q
    refine ⟨.str g, rfl, rfl, _, rfl, it2 (fun h1 => ?_) (fun h1 => ?_)⟩
    · rw [if_pos (V.str.inj h1)] at q
      exact ⟨.int x, rfl, .int y, rfl, x, y, rfl, rfl, q⟩
    · rw [if_neg (fun z => h1 (congrArg V.str z))] at q
      refine ⟨.str g, rfl, rfl, _, rfl, it2 (fun h2 => ?_) (fun h2 => ?_)⟩
      · rw [if_pos (V.str.inj h2)] at q
        exact ⟨.int x, rfl, .int y, rfl, x, y, rfl, rfl, q⟩
      · rw [if_neg (fun z => h2 (congrArg V.str z))] at q
        have e : decide (V.int x = V.int y) = decide (x = y) := by
          rw [decide_eq_decide]
          exact ⟨V.int.inj, congrArg V.int⟩
        refine ⟨.str g, rfl, rfl, _, rfl, it2 (fun h3 => ?_) (fun h3 => ?_)⟩
        · rw [if_pos (V.str.inj h3)] at q
          exact ⟨.int x, rfl, .int y, rfl, rfl, blE (Q := Q) e q⟩
        · rw [if_neg (fun z => h3 (congrArg V.str z))] at q
          exact ⟨.int x, rfl, .int y, rfl, rfl, blE (Q := Q) (congrArg not e) q⟩
/-! ### _law_guarded -/
theorem sc_guarded : FnScope ["_law_word", "_law_one", "_law_two"] ["_law_word", "_law_one", "_law_two"] (defScope s_guarded) := ⟨rfl, rfl, rfl, by decide +kernel, rfl, by decide +kernel, by decide +kernel⟩
theorem ok_guarded (O1 : Ok P w K mg base 2 "_law_rest_meet" ["_law_one", "_law_two"] (sp_met_rest K)) (D : Df K mg "_law_guarded" s_guarded ["_law_word", "_law_one", "_law_two"]) : Ok P w K mg base 3 "_law_guarded" ["_law_word", "_law_one", "_law_two"] (sp_guarded K) := by
  refine D.ok sc_guarded (fun vs H Q E h => ?_) (fun f cdv A outer st H vs Q E hr h => ?_)
  · obtain ⟨g, v1, v2, l1, l2, rfl, _⟩ := h
    rfl
  · obtain ⟨g, v1, v2, l1, l2, rfl, ⟨a, rfl, hT⟩, ⟨b, rfl, hU⟩, h1, h2, q⟩ := h
    have tail : ∃ t : TS, PSs (cxOf CX0 P w K mg base ["_law_word", "_law_one", "_law_two"] "_law_guarded" (defScope s_guarded) f cdv A outer st H E).nox ((defBody s_guarded).drop 1) t ∧
        ∀ (H1 : Hp), Same H H1 → ¬ (l1 = [] ∨ l2 = []) → ¬ (g = "!=" ∧ l1 = l2 ∧ l1[1]? = some 0) → t { nx := fun _ H' => Q .non H', rt := Q } [some (.str g), some (.ref a), some (.ref b)] H1 := by
      refine ⟨_, pss_cons (ps_if (pt_cmpR op_eq (pv 0) pe_str (nomark _)) (pss_one (ps_ret (pe_op op_repT (pe_tup (pa_cons (pe_ok O1 hr (pa_cons (pv 1) (pa_cons (pv 2) pa_nil))) pa_nil)) pe_int))) pss_nil)
        (pss_one (ps_ret (pe_tup (pa_cons (pv 1) (pa_cons (pv 2) pa_nil))))), fun H1 s1 hne h3 => ?_⟩
      have hT1 := Same.sqt s1 hT
      have hU1 := Same.sqt s1 hU
      refine ⟨.str g, rfl, rfl, _, rfl, it2 (fun hg => ?_) (fun hg => ?_)⟩
      · refine ⟨.ref a, rfl, .ref b, rfl, .ref a, .ref b, l1, l2, rfl, ⟨a, rfl, hT1⟩, ⟨b, rfl, hU1⟩, h1, h2, fun H2 v l s2 hv hM => ?_⟩
        refine ⟨le1, fun p np => ⟨p, 2, [v], rfl, rfl, .inl (.inl upd_same), by simp, by decide, by decide, by show 1 ≤ 1000; decide, fun p2 np2 => ?_⟩⟩
        have s3 := (same_upd np (o := .tup [v])).trans (same_upd np2 (o := .tup (List.replicate (2 : Int).toNat [v]).flatten))
        exact q _ p2 v v l l ((s1.trans s2).trans s3) (.inl (.inl upd_same)) (hv.same s3) (hv.same s3) (gd_meet hne (V.str.inj hg) hM)
      · exact ⟨.ref a, rfl, .ref b, rfl, le2, fun p np => q _ p _ _ l1 l2 (s1.trans (same_upd np)) (.inl (.inl upd_same)) ⟨a, rfl, Same.sqt (same_upd np) hT1⟩ ⟨b, rfl, Same.sqt (same_upd np) hU1⟩ (gd_stay hne (fun z => hg (congrArg V.str z)) h3)⟩
    obtain ⟨t, ht, hq⟩ := tail
    refine ⟨_, pss_cons (ps_if (PW.pt (pw_or (pt_cmpR (op_eqT hr.units) (pv 1) (pe_tup pa_nil) (nomark _)) (pw_or (pt_cmpR (op_eqT hr.units) (pv 2) (pe_tup pa_nil) (nomark _))
        (pw_or1 (PW.pt (pw_and (pt_cmpR op_eq (pv 0) pe_str (nomark _)) (pw_and (pt_cmpR (op_eqT hr.units) (pv 1) (pv 2) (nomark _)) (pw_and1 (pt_cmpR op_eq (pe_ix ix_tup (pv 1) pe_int (fun _ _ => rfl)) pe_int (nomark _))))))))))
        (pss_one (ps_ret (pe_tup (pa_cons (pe_tup pa_nil) (pa_cons (pe_tup pa_nil) pa_nil))))) pss_nil) ht, ?_⟩
    -- the pair of two empty ones
    have two : ∀ H1, Same H H1 → Gd g l1 l2 [] [] → tTup (tCons (tTup tNil) (tCons (tTup tNil) tNil)) [some (.str g), some (.ref a), some (.ref b)] H1 Q := by
      intro H1 s1 hG
      refine ⟨le0, fun p np => ⟨le0, fun p2 np2 => ⟨le2, fun p3 np3 => ?_⟩⟩⟩
      have n12 : p ≠ p2 := fun z => by
        rw [← z, upd_same] at np2
        cases np2
      have s3 := same_upd np3 (o := .tup [.ref p, .ref p2])
      have hp : (upd (upd H1 p (.tup [])) p2 (.tup [])) p = some (.tup []) := by
        rw [upd_ne n12, upd_same]
      exact q _ p3 _ _ [] [] (((s1.trans (same_upd np)).trans (same_upd np2)).trans s3) (.inl (.inl upd_same)) ⟨p, rfl, .inl (.inl (s3 _ _ hp))⟩ ⟨p2, rfl, .inl (.inl (s3 _ _ upd_same))⟩ hG
    refine ⟨.ref a, rfl, le0, fun p np => ?_⟩
    have s1 : Same H (upd H p (.tup [])) := same_upd np
    have hT1 := Same.sqt s1 hT
    have hU1 := Same.sqt s1 hU
    refine ⟨a, p, l1, [], rfl, rfl, hT1, .inl (.inl upd_same), _, rfl, it2 (fun e => two _ s1 (gd_nil (.inl e))) (fun e1 => ?_)⟩
    refine ⟨.ref b, rfl, le0, fun p2 np2 => ?_⟩
    have s2 := s1.trans (same_upd np2 (o := .tup []))
    have hT2 := Same.sqt (same_upd np2 (o := .tup [])) hT1
    have hU2 := Same.sqt (same_upd np2 (o := .tup [])) hU1
    refine ⟨b, p2, l2, [], rfl, rfl, hU2, .inl (.inl upd_same), _, rfl, it2 (fun e => two _ s2 (gd_nil (.inr e))) (fun e2 => ?_)⟩
    have hne : ¬ (l1 = [] ∨ l2 = []) := fun z => z.elim e1 e2
    refine ⟨.str g, rfl, rfl, _, rfl, it2 (fun hg => ?_) (fun hg => iteF (hq _ s2 hne fun z => hg (congrArg V.str z.1)))⟩
    refine ⟨.ref a, rfl, .ref b, rfl, a, b, l1, l2, rfl, rfl, hT2, hU2, _, rfl, it2 (fun he => ?_) (fun he => iteF (hq _ s2 hne fun z => he z.2.1))⟩
    rcases h1.form with z | ⟨r, m, rfl⟩
    · exact absurd z e1
    · refine ⟨.ref a, rfl, a, _, 1, .int m, rfl, rfl, hT2, atI_nat (j := 1) rfl, rfl, _, rfl, ?_⟩
      have hg' : ¬ g = "==" := fun z => g_ne_eq ((V.str.inj hg).symm.trans z)
      by_cases hm : m = 0
      · subst hm
        exact itT rfl (two _ s2 (gd_one hne hg' ⟨V.str.inj hg, he, rfl⟩))
      · exact itF (vne hm) (hq _ s2 hne fun z => hm (Option.some.inj z.2.2))
end
end K32

namespace K32
open PySem PySem.Spec PyProof.Rows L2
/-- the pairs of numbers in the list at p -/
def Prs (K : PySem.W.Frag) (H : Hp) (p : Addr) (ps : List (Int × Int)) : Prop := ∃ vs : List V, SqL K H p vs ∧ vs.length = ps.length ∧ ∀ (i : Nat) (v : V), vs[i]? = some v → ∃ (a : Addr) (x y : Int), ps[i]? = some (x, y) ∧ v = .ref a ∧ SqT K H a (([x, y] : List Int).map V.int)
theorem Prs.same {K : PySem.W.Frag} {H H' : Hp} {p : Addr} {ps : List (Int × Int)} (h : Prs K H p ps) (e : Same H H') : Prs K H' p ps := by
  obtain ⟨vs, h1, h2, h3⟩ := h
  refine ⟨vs, e.seq h1, h2, fun i v hv => ?_⟩
  obtain ⟨a, x, y, z1, z2, z3⟩ := h3 i v hv
  exact ⟨a, x, y, z1, z2, Same.sqt e z3⟩
theorem mem_at {α : Type} {l : List α} {i : Nat} {x : α} (h : l[i]? = some x) : x ∈ l := List.mem_of_getElem? h
section
variable {P : Program} {w : World} {K : PySem.W.Frag} {mg : Str → Option Value} {base : Heap}
/-! ### _law_two_right -/
theorem sc_two_right : FnScope ["_law_one", "_law_two", "_law_due"] ["_law_one", "_law_two"] (defScope s_two_right) := ⟨rfl, rfl, rfl, by decide +kernel, rfl, by decide +kernel, by decide +kernel⟩
def sp_two (K : PySem.W.Frag) : Sp := fun vs H Q _ => ∃ (v1 v2 : V) (l1 l2 : List Int), vs = [v1, v2] ∧ RT K H v1 l1 ∧ RT K H v2 l2 ∧ Rest l1 ∧ Rest l2 ∧ Bd 300 l2 ∧ ∀ H', Same H H' → Q (.bl true) H'
theorem ok_two_right (O1 : Ok P w K mg base 3 "_law_over" ["_law_one", "_law_two"] (sp_quo K)) (O2 : Ok P w K mg base 2 "_law_left" ["_law_one", "_law_two"] (sp_mdl K)) (O3 : OkK P w K mg base 6 "rest_quotient" ["rest", "other"] ["other", "rest"] gR gVR (sp_quo K)) (O4 : OkK P w K mg base 6 "rest_modulo" ["rest", "other"] ["other", "rest"] gR gVR (sp_mdl K))
    (O5 : Ok P w K mg base 4 "_law_same" ["_law_told", "_law_due"] (sp_same K 2)) (D : Df K mg "_law_two_right" s_two_right ["_law_one", "_law_two"]) : Ok P w K mg base 7 "_law_two_right" ["_law_one", "_law_two"] (sp_two K) := by
  refine D.ok sc_two_right (fun vs H Q E h => ?_) (fun f cdv A outer st H vs Q E hr h => ?_)
  · obtain ⟨v1, v2, l1, l2, rfl, _⟩ := h
    rfl
  · obtain ⟨v1, v2, l1, l2, rfl, hT, hU, h1, h2, hb, q⟩ := h
    refine ⟨_, pss_cons (ps_set (i := 2) sc_two_right.nd rfl (.inl rfl) (pe_tup (pa_cons (pe_ok O1 hr (pa_cons (pv 0) (pa_cons (pv 1) pa_nil))) (pa_cons (pe_ok O2 hr (pa_cons (pv 0) (pa_cons (pv 1) pa_nil))) pa_nil))))
      (pss_cons (ps_if (pt_not (pt_val (pe_ok O5 hr (pa_cons (pe_tup (pa_cons (pe_ok O3.pos hr (pa_cons (pv 0) (pa_cons (pv 1) pa_nil))) (pa_cons (pe_ok O4.pos hr (pa_cons (pv 0) (pa_cons (pv 1) pa_nil))) pa_nil))) (pa_cons (pv 2) pa_nil))))) (pss_one (ps_ret pe_bl)) pss_nil)
      (pss_one (ps_ret (pe_ok O5 hr (pa_cons (pe_tup (pa_cons (pe_okK O3 hr (pk_cons (pv 1) (pk_cons (pv 0) pk_nil))) (pa_cons (pe_okK O4 hr (pk_cons (pv 1) (pk_cons (pv 0) pk_nil))) pa_nil))) (pa_cons (pv 2) pa_nil)))))), ?_⟩
    have z1 := rest_len (rest_quo h1 h2)
    have z2 := rest_len (rest_mdl h1 h2)
    refine ⟨v1, rfl, v2, rfl, v1, v2, l1, l2, rfl, hT, hU, h1, h2, hb, fun H1 a s1 ha => ?_⟩
    refine ⟨v1, rfl, v2, rfl, v1, v2, l1, l2, rfl, hT.same s1, hU.same s1, h1, h2, fun H2 b s2 hb2 => ⟨le2, fun p np => ?_⟩⟩
    have s3 := same_upd np (o := .tup [a, b])
    have s03 := (s1.trans s2).trans s3
    have ha3 := (ha.same s2).same s3
    have hb3 := hb2.same s3
    have hp : SqT K (upd H2 p (.tup [a, b])) p [a, b] := .inl (.inl upd_same)
    refine ⟨v1, rfl, v2, rfl, v1, v2, l1, l2, rfl, hT.same s03, hU.same s03, h1, h2, hb, fun H4 c s4 hc => ?_⟩
    refine ⟨v1, rfl, v2, rfl, v1, v2, l1, l2, rfl, hT.same (s03.trans s4), hU.same (s03.trans s4), h1, h2, fun H5 d s5 hd => ⟨le2, fun p2 np2 => ?_⟩⟩
    have s6 := same_upd np2 (o := .tup [c, d])
    have s36 := (s4.trans s5).trans s6
    refine ⟨.ref p, rfl, .ref p2, .ref p, rfl, sm_two (.inl (.inl upd_same)) (Same.sqt s36 hp) (sm_rt ((hc.same s5).same s6) (ha3.same s36) z1) (sm_rt (hd.same s6) (hb3.same s36) z2), fun H7 s7 => ⟨true, rfl, iteF ?_⟩⟩
    have s37 := s36.trans s7
    have s07 := s03.trans s37
    refine ⟨v2, rfl, v1, rfl, rfl, rfl, v1, v2, l1, l2, rfl, hT.same s07, hU.same s07, h1, h2, hb, fun H8 e s8 he => ?_⟩
    refine ⟨v2, rfl, v1, rfl, rfl, rfl, v1, v2, l1, l2, rfl, hT.same (s07.trans s8), hU.same (s07.trans s8), h1, h2, fun H9 u s9 hu => ⟨le2, fun p3 np3 => ?_⟩⟩
    have s10 := same_upd np3 (o := .tup [e, u])
    have s310 := ((s37.trans s8).trans s9).trans s10
    exact ⟨.ref p, rfl, .ref p3, .ref p, rfl, sm_two (.inl (.inl upd_same)) (Same.sqt s310 hp) (sm_rt ((he.same s9).same s10) (ha3.same s310) z1) (sm_rt (hu.same s10) (hb3.same s310) z2), fun H11 s11 => q H11 ((s03.trans s310).trans s11)⟩
/-! ### _law_held_right -/
theorem sc_held_right : FnScope ["_law_one", "_law_two", "_law_here", "_law_there", "_law_told"] ["_law_one", "_law_two", "_law_here", "_law_there"] (defScope s_held_right) := ⟨rfl, rfl, rfl, by decide +kernel, rfl, by decide +kernel, by decide +kernel⟩
def sp_held (K : PySem.W.Frag) : Sp := fun vs H Q _ => ∃ (v1 v2 : V) (l1 l2 : List Int) (x y : Int), vs = [v1, v2, .int x, .int y] ∧ RT K H v1 l1 ∧ RT K H v2 l2 ∧ Rest l1 ∧ Rest l2 ∧ Bd 300 l2 ∧ has l1 x = true ∧ has l2 y = true ∧ y.natAbs < 2 ^ 300 ∧ ∀ H', Same H H' → Q (.bl true) H'
theorem ok_held_right (B : Bl mg) (O1 : Ok P w K mg base 5 "rest_holds" ["rest", "number"] (sp_rest_holds K)) (O3 : Ok P w K mg base 6 "rest_quotient" ["rest", "other"] (sp_quo K)) (O4 : Ok P w K mg base 6 "rest_modulo" ["rest", "other"] (sp_mdl K)) (O5 : Ok P w K mg base 3 "_law_same" ["_law_told", "_law_due"] (sp_same K 1))
    (D : Df K mg "_law_held_right" s_held_right ["_law_one", "_law_two", "_law_here", "_law_there"]) : Ok P w K mg base 7 "_law_held_right" ["_law_one", "_law_two", "_law_here", "_law_there"] (sp_held K) := by
  refine D.ok sc_held_right (fun vs H Q E h => ?_) (fun f cdv A outer st H vs Q E hr h => ?_)
  · obtain ⟨v1, v2, l1, l2, x, y, rfl, _⟩ := h
    rfl
  · obtain ⟨v1, v2, l1, l2, x, y, rfl, hT, hU, h1, h2, hb, hx, hy, hz, q⟩ := h
    refine ⟨_, pss_cons (ps_if (pt_cmpR op_eq (pv 3) pe_int (nomark _)) (pss_one (ps_ret pe_bl)) pss_nil)
      (pss_cons (ps_set (i := 4) sc_held_right.nd rfl (.inl rfl) (pe_tup (pa_cons (pe_ok O1 hr (pa_cons (pe_ok O3 hr (pa_cons (pv 0) (pa_cons (pv 1) pa_nil))) (pa_cons (pe_op op_fdivS (pv 2) (pv 3)) pa_nil)))
        (pa_cons (pe_ok O1 hr (pa_cons (pe_ok O4 hr (pa_cons (pv 0) (pa_cons (pv 1) pa_nil))) (pa_cons (pe_op op_modN (pe_callTy call_int1 (by rfl) B.int PyProof.Rows.boot_int (pa_cons (pv 2) pa_nil)) (pv 3)) pa_nil))) pa_nil))))
      (pss_one (ps_ret (pe_ok O5 hr (pa_cons (pv 4) (pa_cons (pe_tup (pa_cons pe_bl (pa_cons pe_bl pa_nil))) pa_nil)))))), ?_⟩
    refine ⟨.int y, rfl, rfl, _, rfl, it2 (fun _ => q H (Same.refl H)) (fun hy0 => ?_)⟩
    have hy' : y ≠ 0 := fun z => hy0 (by rw [z])
    refine ⟨v1, rfl, v2, rfl, v1, v2, l1, l2, rfl, hT, hU, h1, h2, hb, fun H1 a s1 ha => ?_⟩
    refine ⟨.int x, rfl, .int y, rfl, x, y, rfl, rfl, ⟨hy', hz⟩, a, _, x.fdiv y, rfl, ha, rest_quo h1 h2, fun H2 s2 => ?_⟩
    have s02 := s1.trans s2
    refine ⟨v1, rfl, v2, rfl, v1, v2, l1, l2, rfl, hT.same s02, hU.same s02, h1, h2, fun H3 b s3 hb3 => ?_⟩
    refine ⟨.int x, rfl, .inl ⟨x, rfl, .int y, rfl, x, y, rfl, rfl, hy', b, _, x.fmod y, rfl, hb3, rest_mdl h1 h2, fun H4 s4 => ⟨le2, fun p np => ?_⟩⟩⟩
    have e1 := has_quo h1 h2 hx hy hy'
    have e2 := has_mdl h1 h2 hx hy hy'
    have s04 := ((s02.trans s3).trans s4)
    rw [e1, e2] at *
    refine ⟨.ref p, rfl, le2, fun p2 np2 => ⟨.ref p, .ref p2, rfl, sm_two (x := .bl true) (y := .bl true) (Same.sqt (same_upd np2) (.inl (.inl upd_same))) (.inl (.inl upd_same)) (.bl _ _) (.bl _ _), fun H5 s5 => q H5 (((s04.trans (same_upd np)).trans (same_upd np2)).trans s5)⟩⟩
end
end K32

namespace K32
open PySem PySem.Spec PyProof.Rows L2
theorem isG_of {i : Nat} {x : V} (h : ([.str "<", .str "<=", .str "==", .str "!="] : List V)[i]? = some x) : ∃ g, x = .str g ∧ isG g := by
  match i, h with
  | 0, h => cases h; exact ⟨_, rfl, .inl rfl⟩
  | 1, h => cases h; exact ⟨_, rfl, .inr (.inl rfl)⟩
  | 2, h => cases h; exact ⟨_, rfl, .inr (.inr (.inl rfl))⟩
  | 3, h => cases h; exact ⟨_, rfl, .inr (.inr (.inr rfl))⟩
  | j + 4, h => cases h
section
variable {P : Program} {w : World} {K : PySem.W.Frag} {mg : Str → Option Value} {base : Heap}
/-! ### _law_guards_right -/
abbrev n_guards : List Str := ["_law_one", "_law_two", "_law_pairs", "_law_word", "_law_due", "_law_told", "_law_here", "_law_there", "_law_held"]
theorem sc_guards_right : FnScope n_guards ["_law_one", "_law_two", "_law_pairs"] (defScope s_guards_right) := ⟨rfl, rfl, rfl, by decide +kernel, rfl, by decide +kernel, by decide +kernel⟩
def sp_guards (K : PySem.W.Frag) : Sp := fun vs H Q _ => ∃ (v1 v2 : V) (l1 l2 : List Int) (p : Addr) (ps : List (Int × Int)), vs = [v1, v2, .ref p] ∧ RT K H v1 l1 ∧ RT K H v2 l2 ∧ Rest l1 ∧ Rest l2 ∧ Prs K H p ps ∧ (∀ z ∈ ps, has l1 z.1 = true ∧ has l2 z.2 = true) ∧ ∀ H', Same H H' → Q (.bl true) H'
theorem ok_guards_right (O1 : Ok P w K mg base 3 "_law_guarded" ["_law_word", "_law_one", "_law_two"] (sp_guarded K)) (O2 : OkK P w K mg base 6 "rest_guarded" ["guard", "rest", "other"] ["other", "rest", "guard"] gR gVR (sp_rest_guarded K))
    (O3 : Ok P w K mg base 5 "_law_same" ["_law_told", "_law_due"] (sp_same K 3)) (O4 : Ok P w K mg base 5 "rest_holds" ["rest", "number"] (sp_rest_holds K)) (O5 : Ok P w K mg base 1 "_law_lets" ["_law_word", "_law_left_here", "_law_right_here"] sp_lets)
    (O6 : Ok P w K mg base 3 "_law_same" ["_law_told", "_law_due"] (sp_same K 1)) (D : Df K mg "_law_guards_right" s_guards_right ["_law_one", "_law_two", "_law_pairs"]) : Ok P w K mg base 7 "_law_guards_right" ["_law_one", "_law_two", "_law_pairs"] (sp_guards K) := by
  refine D.ok sc_guards_right (fun vs H Q E h => ?_) (fun f cdv A outer st H vs Q E hr h => ?_)
  · obtain ⟨v1, v2, l1, l2, p, ps, rfl, _⟩ := h
    rfl
  · obtain ⟨v1, v2, l1, l2, p, ps, rfl, hT, hU, h1, h2, hP, hH, q⟩ := h
    refine ⟨_, pss_cons (ps_for PassesOwn.never rfl (pi_tup (pe_tup (pa_cons pe_str (pa_cons pe_str (pa_cons pe_str (pa_cons pe_str pa_nil)))))) (pg_name (i := 3) sc_guards_right.nd rfl (.inl rfl))
      (pss_cons (ps_set (i := 4) sc_guards_right.nd rfl (.inl rfl) (pe_ok O1 hr (pa_cons (pv 3) (pa_cons (pv 0) (pa_cons (pv 1) pa_nil)))))
      (pss_cons (ps_set (i := 5) sc_guards_right.nd rfl (.inl rfl) (pe_ok O2.pos hr (pa_cons (pv 3) (pa_cons (pv 0) (pa_cons (pv 1) pa_nil)))))
      (pss_cons (ps_if (pt_not (pt_val (pe_ok O3 hr (pa_cons (pe_tup (pa_cons (pv 5) (pa_cons (pe_okK O2 hr (pk_cons (pv 1) (pk_cons (pv 0) (pk_cons (pv 3) pk_nil)))) pa_nil))) (pa_cons (pe_tup (pa_cons (pv 4) (pa_cons (pv 4) pa_nil))) pa_nil))))) (pss_one (ps_ret pe_bl)) pss_nil)
      (pss_one (ps_for PassesOwn.never rfl (pi_list (pv 2)) (pg_tup rfl (pgs_cons (pg_name (i := 6) sc_guards_right.nd rfl (.inl rfl)) (pgs_cons (pg_name (i := 7) sc_guards_right.nd rfl (.inl rfl)) pgs_nil)))
        (pss_cons (ps_set (i := 8) sc_guards_right.nd rfl (.inl rfl) (pe_tup (pa_cons (pe_ok O4 hr (pa_cons (pe_ix ix_tup (pv 5) pe_int (fun _ _ => rfl)) (pa_cons (pv 6) pa_nil))) (pa_cons (pe_ok O4 hr (pa_cons (pe_ix ix_tup (pv 5) pe_int (fun _ _ => rfl)) (pa_cons (pv 7) pa_nil))) pa_nil))))
        (pss_one (ps_if (PW.pt (pw_and (pt_val (pe_ok O5 hr (pa_cons (pv 3) (pa_cons (pv 6) (pa_cons (pv 7) pa_nil))))) (pw_and1 (pt_not (pt_val (pe_ok O6 hr (pa_cons (pv 8) (pa_cons (pe_tup (pa_cons pe_bl (pa_cons pe_bl pa_nil))) pa_nil))))))))
          (pss_one (ps_ret pe_bl)) pss_nil)))))))))
      (pss_one (ps_ret pe_bl)), ?_⟩
    refine ⟨le4, fun T nT => ⟨T, rfl, ⟨_, .inl (.inl upd_same)⟩, for_tup (K := K) (a := T) (xs := [.str "<", .str "<=", .str "==", .str "!="])
      (fun i σ H' => ∃ y3 y4 y5 y6 y7 y8 : Option V, σ = [some v1, some v2, some (.ref p), y3, y4, y5, y6, y7, y8] ∧ Same H H' ∧ SqT K H' T [.str "<", .str "<=", .str "==", .str "!="])
      ⟨_, _, _, _, _, _, rfl, same_upd nT, .inl (.inl upd_same)⟩ (fun i σ H' _ ⟨_, _, _, _, _, _, _, _, z⟩ => z) (fun i u σ H0 hx hI => ?_) (fun σ H' ⟨_, _, _, _, _, _, _, z, _⟩ => q H' z)⟩⟩
    obtain ⟨y3, y4, y5, y6, y7, y8, rfl, s0, hTT⟩ := hI
    obtain ⟨g, rfl, hg⟩ := isG_of hx
    have hT0 := hT.same s0
    have hU0 := hU.same s0
    refine ⟨.str g, rfl, v1, rfl, v2, rfl, g, v1, v2, l1, l2, rfl, hT0, hU0, h1, h2, fun H1 pd x y lx ly s1 hpd hx1 hy1 hG => ?_⟩
    refine ⟨.str g, rfl, v1, rfl, v2, rfl, ⟨g, v1, v2, l1, l2, rfl, hT0.same s1, hU0.same s1, h1, h2, fun H2 pt x' y' lx' ly' s2 hpt hx2 hy2 hG2 => ?_⟩, g, v1, v2, rfl, hg⟩
    obtain ⟨e1, e2⟩ := hG2.uniq hG
    subst e1 e2
    have hRR := hG.rest h1 h2
    have z1 := rest_len hRR.1
    have z2 := rest_len hRR.2
    have s02 := s1.trans s2
    refine ⟨.ref pt, rfl, v2, rfl, v1, rfl, .str g, rfl, rfl, rfl, ⟨g, v1, v2, l1, l2, rfl, hT0.same s02, hU0.same s02, h1, h2, fun H3 pk x3 y3' lx3 ly3 s3 hpk hx3 hy3 hG3 => ?_⟩, g, v1, v2, rfl, hg⟩
    obtain ⟨e1, e2⟩ := hG3.uniq hG
    subst e1 e2
    refine ⟨le2, fun a1 na1 => ⟨.ref pd, rfl, .ref pd, rfl, le2, fun a2 na2 => ?_⟩⟩
    have t1 := same_upd na1 (o := .tup [.ref pt, .ref pk])
    have t2 := same_upd na2 (o := .tup [.ref pd, .ref pd])
    have t12 := t1.trans t2
    have s25 := s3.trans t12
    have s15 := s2.trans s25
    have m1 : Sm K _ 2 (.ref pt) (.ref pd) := sm_two (Same.sqt s25 hpt) (Same.sqt s15 hpd) (sm_rt (hx2.same s25) (hx1.same s15) z1) (sm_rt (hy2.same s25) (hy1.same s15) z2)
    have m2 : Sm K _ 2 (.ref pk) (.ref pd) := sm_two (Same.sqt t12 hpk) (Same.sqt s15 hpd) (sm_rt (hx3.same t12) (hx1.same s15) z1) (sm_rt (hy3.same t12) (hy1.same s15) z2)
    refine ⟨.ref a1, .ref a2, rfl, sm_two (Same.sqt t2 (.inl (.inl upd_same))) (.inl (.inl upd_same)) m1 m2, fun H6 s6 => ⟨true, rfl, iteF ?_⟩⟩
    have s26 := s25.trans s6
    have s06 := (s0.trans s02).trans s26
    have hpt6 := Same.sqt s26 hpt
    have hx6 := hx2.same s26
    have hy6 := hy2.same s26
    obtain ⟨vs, hvs, hlen, hat⟩ := hP.same s06
    refine ⟨.ref p, rfl, p, rfl, ⟨_, hvs⟩, for_list (K := K) (a := p) (xs := vs) (fun j σ H' => ∃ y6 y7 y8 : Option V, σ = [some v1, some v2, some (.ref p), some (.str g), some (.ref pd), some (.ref pt), y6, y7, y8] ∧ Same H6 H')
      ⟨_, _, _, rfl, Same.refl H6⟩ (fun j σ H' _ ⟨_, _, _, _, z⟩ => z.seq hvs) (fun j u σ H7 hu hJ => ?_) (fun σ H7 hJ => ?_)⟩
    · obtain ⟨y6, y7, y8, rfl, s7⟩ := hJ
      obtain ⟨a, x0, y0, hps, rfl, ha⟩ := hat j u hu
      obtain ⟨b1, b2⟩ := hH _ (mem_at hps)
      refine ⟨a, _, rfl, Same.sqt s7 ha, rfl, .int x0, _, rfl, .int y0, [], rfl, rfl, ?_⟩
      refine ⟨.ref pt, rfl, pt, [x', y'], 0, x', rfl, rfl, Same.sqt s7 hpt6, atI_nat (j := 0) rfl, .int x0, rfl, x', _, x0, rfl, hx6.same s7, hRR.1, fun H8 s8 => ?_⟩
      have s78 := s7.trans s8
      refine ⟨.ref pt, rfl, pt, [x', y'], 1, y', rfl, rfl, Same.sqt s78 hpt6, atI_nat (j := 1) rfl, .int y0, rfl, y', _, y0, rfl, hy6.same s78, hRR.2, fun H9 s9 => ⟨le2, fun ph nph => ?_⟩⟩
      have s79 := s78.trans s9
      refine ⟨.str g, rfl, .int x0, rfl, .int y0, rfl, g, x0, y0, rfl, _, rfl, ?_⟩
      cases hc : lets g x0 y0 with
      | false => exact iteF (iteF ⟨_, _, _, rfl, s79.trans (same_upd nph)⟩)
      | true =>
        obtain ⟨c1, c2⟩ := gd_held hG b1 b2 hc
        rw [c1, c2]
        refine iteT ⟨.ref ph, rfl, le2, fun p2 np2 => ⟨.ref ph, .ref p2, rfl, sm_two (x := .bl true) (y := .bl true) (Same.sqt (same_upd np2) (.inl (.inl upd_same))) (.inl (.inl upd_same)) (.bl _ _) (.bl _ _), fun H11 s11 => ⟨true, rfl, iteF ⟨_, _, _, rfl, ((s79.trans (same_upd nph)).trans (same_upd np2)).trans s11⟩⟩⟩⟩
    · obtain ⟨y6, y7, y8, rfl, s7⟩ := hJ
      exact ⟨_, _, _, _, _, _, rfl, s06.trans s7, Same.sqt (((s02.trans s26)).trans s7) hTT⟩
/-! ### _law_wrapped_right -/
abbrev n_wrap : List Str := ["_law_one", "_law_wide", "_law_counts", "_law_power", "_law_turn", "_law_told", "_law_due", "_law_count"]
theorem sc_wrapped_right : FnScope n_wrap ["_law_one", "_law_wide", "_law_counts"] (defScope s_wrapped_right) := ⟨rfl, rfl, rfl, by decide +kernel, rfl, by decide +kernel, by decide +kernel⟩
def sp_wrap (K : PySem.W.Frag) : Sp := fun vs H Q _ => ∃ (v1 : V) (l1 : List Int) (n : Nat) (c : Addr) (xs : List Int), vs = [v1, .int n, .ref c] ∧ RT K H v1 l1 ∧ Rest l1 ∧ 1 ≤ n ∧ n ≤ 16 ∧ SqL K H c (xs.map V.int) ∧ xs.length ≤ 1000 ∧ (∀ x ∈ xs, has l1 x = true) ∧ ∀ H', Same H H' → Q (.bl true) H'
theorem ok_wrapped_right (B : Bl mg) (O1 : OkK P w K mg base 5 "rest_wrapped" ["rest", "width"] ["width", "rest"] gR gVR (sp_wrapped K)) (O2 : Ok P w K mg base 2 "_law_left" ["_law_one", "_law_two"] (sp_mdl K)) (O3 : Ok P w K mg base 6 "rest_modulo" ["rest", "other"] (sp_mdl K))
    (O4 : Ok P w K mg base 5 "rest_holds" ["rest", "number"] (sp_rest_holds K)) (O5 : Ok P w K mg base 4 "_law_same" ["_law_told", "_law_due"] (sp_same K 2)) (O6 : Ok P w K mg base 2 "_law_same" ["_law_told", "_law_due"] (sp_same K 0))
    (D : Df K mg "_law_wrapped_right" s_wrapped_right ["_law_one", "_law_wide", "_law_counts"]) : Ok P w K mg base 7 "_law_wrapped_right" ["_law_one", "_law_wide", "_law_counts"] (sp_wrap K) := by
  refine D.ok sc_wrapped_right (fun vs H Q E h => ?_) (fun f cdv A outer st H vs Q E hr h => ?_)
  · obtain ⟨v1, l1, n, c, xs, rfl, _⟩ := h
    rfl
  · obtain ⟨v1, l1, n, c, xs, rfl, hT, h1, hn, hn2, hC, hxl, hH, q⟩ := h
    refine ⟨_, pss_cons (ps_set (i := 3) sc_wrapped_right.nd rfl (.inr rfl) pe_int)
      (pss_cons (ps_for PassesOwn.never rfl (pi_range1 rfl B.range (pa_cons (pv 1) pa_nil)) (pg_name (i := 4) sc_wrapped_right.nd rfl (.inl rfl)) (pss_one (ps_set (i := 3) sc_wrapped_right.nd rfl (.inr rfl) (pe_op op_mul (pv 3) pe_int))))
      (pss_cons (ps_asg (pe_tup (pa_cons (pe_ok O1.pos hr (pa_cons (pv 0) (pa_cons (pv 1) pa_nil))) (pa_cons (pe_ok O2 hr (pa_cons (pv 0) (pa_cons (pe_tup (pa_cons (pv 3) (pa_cons pe_int pa_nil))) pa_nil))) pa_nil)))
        (pg_tup rfl (pgs_cons (pg_name (i := 5) sc_wrapped_right.nd rfl (.inr rfl)) (pgs_cons (pg_name (i := 6) sc_wrapped_right.nd rfl (.inl rfl)) pgs_nil))))
      (pss_cons (ps_if (pt_not (pt_val (pe_ok O5 hr (pa_cons (pe_tup (pa_cons (pv 5) (pa_cons (pe_okK O1 hr (pk_cons (pv 1) (pk_cons (pv 0) pk_nil))) (pa_cons (pe_ok O3 hr (pa_cons (pv 0) (pa_cons (pe_tup (pa_cons (pv 3) (pa_cons pe_int pa_nil))) pa_nil))) pa_nil))))
        (pa_cons (pe_op op_repT (pe_tup (pa_cons (pv 6) pa_nil)) pe_int) pa_nil))))) (pss_one (ps_ret pe_bl)) pss_nil)
      (pss_one (ps_ret (pe_callB (cr_all rfl) (by rfl) B.all PyProof.Rows.boot_all (pa_cons (pe_lc (own := [("_law_count", 7)]) (g := gName 7) (tt := tYes) rfl sc_wrapped_right.nd (pi_list (pv 2))
        (blkOk_by (own := [("_law_count", 7)]) (N := n_wrap) (sc := defScope s_wrapped_right) (by decide +kernel)) (fun _ _ _ _ _ => pg_name (i := 7) sc_wrapped_right.nd rfl (Or.inl rfl)) (fun _ _ _ _ _ => pts_nil)
        (fun _ _ _ _ _ => pe_ok O6 hr (pa_cons (pe_ok O4 hr (pa_cons (pv 5) (pa_cons (pe_op op_modN (pe_callTy call_int1 (by rfl) B.int PyProof.Rows.boot_int (pa_cons (pv 7) pa_nil)) (pv 3)) pa_nil))) (pa_cons pe_bl pa_nil)))) pa_nil))))))), ?_⟩
    refine ⟨.int n, rfl, n, rfl, by omega, by omega, ?_⟩
    refine for_range (n := n) (fun i σ H' => ∃ y4 : Option V, σ = [some v1, some (.int n), some (.ref c), some (.int (2 ^ i)), y4, none, none, none] ∧ H' = H) ⟨none, rfl, rfl⟩ (fun i σ H' hi hI => ?_) (fun σ H' hI => ?_)
    · obtain ⟨y4, rfl, rfl⟩ := hI
      refine ⟨.int (2 ^ i), rfl, 2 ^ i, 2, rfl, rfl, .inr ⟨by decide, by decide⟩, some (.int (0 + i)), ?_, rfl⟩
      rw [Int.pow_succ]
      rfl
    · obtain ⟨y4, rfl, rfl⟩ := hI
      have hp0 : (2 : Int) ^ n ≠ 0 := by
        have := Int.pow_pos (n := 2) (m := n) (by decide)
        omega
      have hz : (mdl l1 [2 ^ n, 0]).length ≤ 1000 := rest_len (rest_mdl h1 (.one _))
      refine ⟨v1, rfl, .int n, rfl, v1, l1, n, rfl, hT, h1, hn, hn2, fun H1 a s1 ha => ?_⟩
      refine ⟨v1, rfl, .int (2 ^ n), rfl, le2, fun p1 np1 => ?_⟩
      have t1 := s1.trans (same_upd np1 (o := .tup [.int (2 ^ n), .int 0]))
      refine ⟨v1, .ref p1, l1, [2 ^ n, 0], rfl, hT.same t1, ⟨p1, rfl, .inl (.inl upd_same)⟩, h1, .one _, fun H2 b s2 hb => ⟨le2, fun p2 np2 => ?_⟩⟩
      have t2 := t1.trans s2
      have u2 := same_upd np2 (o := .tup [a, b])
      have t3 := t2.trans u2
      refine ⟨p2, _, rfl, .inl (.inl upd_same), rfl, a, [b], rfl, b, [], rfl, rfl, ?_⟩
      have ha3 := ((ha.same (same_upd np1 (o := .tup [.int (2 ^ n), .int 0]))).same s2).same u2
      have hb3 := hb.same u2
      refine ⟨a, rfl, .int n, rfl, v1, rfl, rfl, rfl, v1, l1, n, rfl, hT.same t3, h1, hn, hn2, fun H4 a4 s4 ha4 => ?_⟩
      refine ⟨v1, rfl, .int (2 ^ n), rfl, le2, fun p5 np5 => ?_⟩
      have t5 := s4.trans (same_upd np5 (o := .tup [.int (2 ^ n), .int 0]))
      refine ⟨v1, .ref p5, l1, [2 ^ n, 0], rfl, hT.same (t3.trans t5), ⟨p5, rfl, .inl (.inl upd_same)⟩, h1, .one _, fun H6 a6 s6 ha6 => ⟨le3, fun p7 np7 => ?_⟩⟩
      refine ⟨b, rfl, le1, fun p8 np8 => ⟨p8, 3, [b], rfl, rfl, .inl (.inl upd_same), by simp, by decide, by decide, by show 1 ≤ 1000; decide, fun p9 np9 => ?_⟩⟩
      have u7 := same_upd np7 (o := .tup [a, a4, a6])
      have u8 := same_upd np8 (o := .tup [b])
      have u9 := same_upd np9 (o := .tup (List.replicate (3 : Int).toNat [b]).flatten)
      have t69 := (u7.trans u8).trans u9
      have t39 := (t5.trans s6).trans t69
      have t49 := ((same_upd np5 (o := .tup [.int (2 ^ n), .int 0])).trans s6).trans t69
      have hb9 := hb3.same t39
      refine ⟨.ref p7, .ref p9, rfl, sm_three (Same.sqt (u8.trans u9) (.inl (.inl upd_same))) (.inl (.inl upd_same)) (sm_rt (ha3.same t39) hb9 hz) (sm_rt (ha4.same t49) hb9 hz) (sm_rt (ha6.same t69) hb9 hz), fun H10 s10 => ⟨true, rfl, iteF ?_⟩⟩
      have t10 := (t3.trans t39).trans s10
      have ha10 := (ha3.same t39).same s10
      have hC10 := t10.seq hC
      refine ⟨.ref c, rfl, c, rfl, ⟨_, hC10⟩, fun Dd nD => ?_⟩
      refine lc_list (K := K) (a := c) (xs := xs.map V.int) (fun i H' => Same H10 H' ∧ H' Dd = some (.lst ((List.replicate i true).map V.bl))) ⟨same_upd nD, upd_same⟩ (fun i H' _ hI => hI.1.seq hC10) (fun i x H' hx hI => ?_) (fun H' hI => ?_)
      · obtain ⟨s11, hD⟩ := hI
        rw [List.getElem?_map] at hx
        obtain ⟨m, hm, rfl⟩ := Option.map_eq_some_iff.mp hx
        refine ⟨rfl, ?_⟩
        refine yes ?_
        refine ⟨a, rfl, .int m, rfl, .inl ⟨m, rfl, .int (2 ^ n), rfl, m, 2 ^ n, rfl, rfl, hp0, a, _, m.fmod (2 ^ n), rfl, ha10.same s11, rest_mdl h1 (.one _), fun H12 s12 => ?_⟩⟩
        have e := has_mdl h1 (.one (2 ^ n)) (hH m (mem_at hm)) (has_self _ _) hp0
        rw [e]
        refine ⟨.bl true, .bl true, rfl, .bl _ _, fun H13 s13 => ⟨_, s13 _ _ (s12 _ _ hD), ?_, ?_, ?_⟩⟩
        · rw [List.length_map, List.length_replicate]
          have hi := (List.getElem?_eq_some_iff.mp hm).1
          exact small1000 (by omega)
        · exact fun y o ey => by
            rw [upd_ne (ne_of_none ey nD)]
            exact s13 _ _ (s12 _ _ (s11 y o ey))
        · rw [upd_same, ← List.map_singleton, ← List.map_append, ← List.replicate_succ']
      · obtain ⟨s11, hD⟩ := hI
        refine ⟨Dd, List.replicate (xs.map V.int).length true, rfl, .inl (.inl hD), ?_⟩
        have e : (List.replicate (xs.map V.int).length true).all id = true := by simp
        rw [e]
        exact q H' (t10.trans s11)
end
end K32

namespace K32
open PySem PySem.Spec PyProof.Rows L2
/-- the pairs of numbers in a list that grows -/
def PrM (K : PySem.W.Frag) (H : Hp) (p : Addr) (vs : List V) (ps : List (Int × Int)) : Prop := H p = some (.lst vs) ∧ vs.length = ps.length ∧ ∀ (i : Nat) (v : V), vs[i]? = some v → ∃ (a : Addr) (x y : Int), ps[i]? = some (x, y) ∧ v = .ref a ∧ SqT K H a (([x, y] : List Int).map V.int)
theorem PrM.prs {K : PySem.W.Frag} {H : Hp} {p : Addr} {vs : List V} {ps : List (Int × Int)} (h : PrM K H p vs ps) : Prs K H p ps := ⟨vs, .inl (.inl h.1), h.2.1, h.2.2⟩
theorem PrM.sb {K : PySem.W.Frag} {H H' : Hp} {p a : Addr} {vs : List V} {ps : List (Int × Int)} (h : PrM K H p vs ps) (hs : Src H a) (ne : p ≠ a) (e : SB a H H') : PrM K H' p vs ps := by
  obtain ⟨h1, h2, h3⟩ := h
  refine ⟨e p _ ne h1, h2, fun i v hv => ?_⟩
  obtain ⟨b, x, y, z1, z2, z3⟩ := h3 i v hv
  exact ⟨b, x, y, z1, z2, e.sqtS hs z3⟩
theorem PrM.push {K : PySem.W.Frag} {H : Hp} {p q : Addr} {vs : List V} {ps : List (Int × Int)} {x y : Int} (h : PrM K H p vs ps) (hq : SqT K H q (([x, y] : List Int).map V.int)) : PrM K (upd H p (.lst (vs ++ [.ref q]))) p (vs ++ [.ref q]) (ps ++ [(x, y)]) := by
  obtain ⟨h1, h2, h3⟩ := h
  have e : SB p H (upd H p (.lst (vs ++ [.ref q]))) := SB.put
  refine ⟨upd_same, by rw [List.length_append, List.length_append, h2]; rfl, fun i v hv => ?_⟩
  by_cases hi : i < vs.length
  · rw [List.getElem?_append_left hi] at hv
    obtain ⟨b, x', y', z1, z2, z3⟩ := h3 i v hv
    exact ⟨b, x', y', by rw [List.getElem?_append_left (by omega)]; exact z1, z2, e.sqt h1 z3⟩
  · rw [List.getElem?_append_right (by omega)] at hv
    have hi2 : i - vs.length = 0 := by
      have := (List.getElem?_eq_some_iff.mp hv).1
      rw [List.length_singleton] at this
      omega
    rw [hi2] at hv
    cases hv
    exact ⟨q, x, y, by rw [List.getElem?_append_right (by omega), show i - ps.length = 0 by omega]; rfl, rfl, e.sqt h1 hq⟩
theorem sb_free {a p : Addr} {H H' : Hp} (e : SB a H H') (s : Src H' a) (n : H' p = none) : H p = none := by
  obtain ⟨g, m, c, s⟩ := s
  have ne : p ≠ a := (ne_of_none s n).symm
  cases q : H p with
  | none => rfl
  | some o =>
    have z := e p o ne q
    rw [n] at z
    cases z
theorem sb_at {a p : Addr} {H H1 : Hp} {o : HO} (e : SB a H H1) (n : H p = none) : SB a H (upd H1 p o) := fun b x nb h => by
  rw [upd_ne (ne_of_none h n)]
  exact e b x nb h
theorem src_put {a p : Addr} {H : Hp} {o : HO} (s : Src H a) (n : p ≠ a) : Src (upd H p o) a := by
  obtain ⟨g, m, c, s⟩ := s
  exact ⟨g, m, c, by rw [upd_ne n.symm]; exact s⟩
theorem same_sb {H H1 H2 : Hp} {p : Addr} (s : Same H H1) (n : H p = none) (e : SB p H1 H2) : Same H H2 := fun b o h => e b o (ne_of_none h n) (s b o h)
/-- a pair of numbers of two rests -/
def Good (l1 l2 : List Int) (z : Int × Int) : Prop := has l1 z.1 = true ∧ has l2 z.2 = true ∧ z.1.natAbs < 2 ^ 300 ∧ z.2.natAbs < 2 ^ 300
theorem good_snoc {l1 l2 : List Int} {ps : List (Int × Int)} {x y : Int} (h : ∀ z ∈ ps, Good l1 l2 z) (g : Good l1 l2 (x, y)) : ∀ z ∈ ps ++ [(x, y)], Good l1 l2 z := fun z hz => by
  rcases List.mem_append.mp hz with e | e
  · exact h z e
  · rw [List.mem_singleton.mp e]
    exact g
section
variable {P : Program} {w : World} {K : PySem.W.Frag} {mg : Str → Option Value} {base : Heap}
/-! ### _law_right -/
abbrev n_right : List Str := ["_law_source_here", "_law_one", "_law_wide", "_law_pairs", "_law_two", "_law_turn", "_law_here", "_law_there"]
abbrev o_right : List (Str × Nat) := [("_law_here", 6), ("_law_there", 7)]
theorem sc_right : FnScope n_right ["_law_source_here"] (defScope s_right) := ⟨rfl, rfl, rfl, by decide +kernel, rfl, by decide +kernel, by decide +kernel⟩
def sp_right : Sp := fun vs H Q _ => ∃ a : Addr, vs = [.ref a] ∧ Src H a ∧ ∀ H', SB a H H' → Q (.bl true) H'
theorem ok_right (B : Bl mg) (O1 : Ok P w K mg base 4 "_law_rest" ["_law_source_here"] (sp_rest K)) (O2 : Ok P w K mg base 1 "_law_take" ["_law_source_here", "_law_many"] sp_take) (O3 : Ok P w K mg base 6 "_law_beside" ["_law_source_here", "_law_one"] (sp_near K))
    (O4 : Ok P w K mg base 4 "_law_rest_some" ["_law_source_here", "_law_one"] (sp_some K)) (O5 : Ok P w K mg base 1 "_law_rest_has" ["_law_one", "_law_count"] (sp_rest_holds K)) (O6 : Ok P w K mg base 7 "_law_two_right" ["_law_one", "_law_two"] (sp_two K))
    (O7 : Ok P w K mg base 7 "_law_guards_right" ["_law_one", "_law_two", "_law_pairs"] (sp_guards K)) (O8 : Ok P w K mg base 7 "_law_held_right" ["_law_one", "_law_two", "_law_here", "_law_there"] (sp_held K)) (O9 : Ok P w K mg base 7 "_law_wrapped_right" ["_law_one", "_law_wide", "_law_counts"] (sp_wrap K))
    (D : Df K mg "_law_right" s_right ["_law_source_here"]) : Ok P w K mg base 8 "_law_right" ["_law_source_here"] sp_right := by
  refine D.ok sc_right (fun vs H Q E h => ?_) (fun f cdv A outer st H vs Q E hr h => ?_)
  · obtain ⟨a, rfl, _⟩ := h
    rfl
  · obtain ⟨a, rfl, hs, q⟩ := h
    have tail : ∃ t : TS, PSs (cxOf CX0 P w K mg base n_right "_law_right" (defScope s_right) f cdv A outer st H E).nox ((defBody s_right).drop 3) t ∧
        ∀ (v1 v2 : V) (l1 l2 : List Int) (wd : Int) (n : Nat) (p : Addr) (ps : List (Int × Int)) (y5 : Option V) (H1 : Hp), wd = n → SB a H H1 → RT K H1 v1 l1 → RT K H1 v2 l2 → Rest l1 → Rest l2 → Bd 300 l1 → Bd 300 l2 → 1 ≤ n → n ≤ 16 → Prs K H1 p ps → ps.length ≤ 1000 → (∀ z ∈ ps, Good l1 l2 z) →
          t { nx := fun _ H' => Q .non H', rt := Q } [some (.ref a), some v1, some (.int wd), some (.ref p), some v2, y5, none, none] H1 := by
      refine ⟨_, pss_cons (ps_if (PW.pt (pw_or (pt_not (pt_val (pe_ok O6 hr (pa_cons (pv 1) (pa_cons (pv 4) pa_nil))))) (pw_or (pt_not (pt_val (pe_ok O6 hr (pa_cons (pv 4) (pa_cons (pv 1) pa_nil))))) (pw_or1 (pt_not (pt_val (pe_ok O7 hr (pa_cons (pv 1) (pa_cons (pv 4) (pa_cons (pv 3) pa_nil)))))))))) (pss_one (ps_ret pe_bl)) pss_nil)
        (pss_cons (ps_if (pt_not (pt_val (pe_callB (cr_all rfl) (by rfl) B.all PyProof.Rows.boot_all (pa_cons (pe_lc (own := o_right) (g := gTup K 2 (gCons (gName 6) (gCons (gName 7) gNil))) (tt := tYes) rfl sc_right.nd (pi_list (pv 3))
            (blkOk_by (own := o_right) (N := n_right) (sc := defScope s_right) (by decide +kernel)) (fun _ _ _ _ _ => pg_tup rfl (pgs_cons (pg_name (i := 6) sc_right.nd rfl (Or.inl rfl)) (pgs_cons (pg_name (i := 7) sc_right.nd rfl (Or.inl rfl)) pgs_nil))) (fun _ _ _ _ _ => pts_nil)
            (fun _ _ _ _ _ => pe_ok O8 hr (pa_cons (pv 1) (pa_cons (pv 4) (pa_cons (pv 6) (pa_cons (pv 7) pa_nil)))))) pa_nil)))) (pss_one (ps_ret pe_bl)) pss_nil)
        (pss_cons (ps_if (pt_not (pt_val (pe_callB (cr_all rfl) (by rfl) B.all PyProof.Rows.boot_all (pa_cons (pe_lc (own := o_right) (g := gTup K 2 (gCons (gName 6) (gCons (gName 7) gNil))) (tt := tYes) rfl sc_right.nd (pi_list (pv 3))
            (blkOk_by (own := o_right) (N := n_right) (sc := defScope s_right) (by decide +kernel)) (fun _ _ _ _ _ => pg_tup rfl (pgs_cons (pg_name (i := 6) sc_right.nd rfl (Or.inl rfl)) (pgs_cons (pg_name (i := 7) sc_right.nd rfl (Or.inl rfl)) pgs_nil))) (fun _ _ _ _ _ => pts_nil)
            (fun _ _ _ _ _ => pe_ok O8 hr (pa_cons (pv 4) (pa_cons (pv 1) (pa_cons (pv 7) (pa_cons (pv 6) pa_nil)))))) pa_nil)))) (pss_one (ps_ret pe_bl)) pss_nil)
        (pss_one (ps_ret (pe_ok O9 hr (pa_cons (pv 1) (pa_cons (pv 2) (pa_cons (pe_lc (own := o_right) (g := gTup K 2 (gCons (gName 6) (gCons (gName 7) gNil))) (tt := tYes) rfl sc_right.nd (pi_list (pv 3))
            (blkOk_by (own := o_right) (N := n_right) (sc := defScope s_right) (by decide +kernel)) (fun _ _ _ _ _ => pg_tup rfl (pgs_cons (pg_name (i := 6) sc_right.nd rfl (Or.inl rfl)) (pgs_cons (pg_name (i := 7) sc_right.nd rfl (Or.inl rfl)) pgs_nil))) (fun _ _ _ _ _ => pts_nil)
            (fun _ _ _ _ _ => pv 6)) pa_nil)))))))), fun v1 v2 l1 l2 wd n p ps y5 H1 hwd sb0 hT hU h1 h2 b1 b2 hn hn2 hP hpl hG => ?_⟩
      subst hwd
      refine ⟨v1, rfl, v2, rfl, v1, v2, l1, l2, rfl, hT, hU, h1, h2, b2, fun H2 s2 => ⟨true, rfl, iteF ?_⟩⟩
      refine ⟨v2, rfl, v1, rfl, v2, v1, l2, l1, rfl, hU.same s2, hT.same s2, h2, h1, b1, fun H3 s3 => ⟨true, rfl, iteF ?_⟩⟩
      have s13 := s2.trans s3
      refine ⟨v1, rfl, v2, rfl, .ref p, rfl, v1, v2, l1, l2, p, ps, rfl, hT.same s13, hU.same s13, h1, h2, hP.same s13, fun z hz => ⟨(hG z hz).1, (hG z hz).2.1⟩, fun H4 s4 => ⟨true, rfl, iteF ?_⟩⟩
      have s14 := s13.trans s4
      -- the first list of answers
      obtain ⟨vs, hvs, hlen, hat⟩ := hP.same s14
      refine ⟨.ref p, rfl, p, rfl, ⟨_, hvs⟩, fun Dd nD => ?_⟩
      refine lc_list (K := K) (a := p) (xs := vs) (fun i H' => Same H4 H' ∧ H' Dd = some (.lst ((List.replicate i true).map V.bl))) ⟨same_upd nD, upd_same⟩ (fun i H' _ hI => hI.1.seq hvs) (fun i x H' hx hI => ?_) (fun H5 hI => ?_)
      · obtain ⟨s5, hD⟩ := hI
        obtain ⟨c, x0, y0, hps, rfl, hc⟩ := hat i x hx
        obtain ⟨g1, g2, g3, g4⟩ := hG _ (mem_at hps)
        refine ⟨c, _, rfl, Same.sqt s5 hc, rfl, .int x0, _, rfl, .int y0, [], rfl, rfl, rfl, ?_⟩
        refine yes ?_
        refine ⟨v1, rfl, v2, rfl, .int x0, rfl, .int y0, rfl, v1, v2, l1, l2, x0, y0, rfl, (hT.same s14).same s5, (hU.same s14).same s5, h1, h2, b2, g1, g2, g4, fun H6 s6 => ⟨_, s6 _ _ hD, ?_, ?_, ?_⟩⟩
        · rw [List.length_map, List.length_replicate]
          have hi := (List.getElem?_eq_some_iff.mp hx).1
          exact small1000 (by omega)
        · exact fun y o ey => by
            rw [upd_ne (ne_of_none ey nD)]
            exact s6 _ _ (s5 y o ey)
        · rw [upd_same, ← List.map_singleton, ← List.map_append, ← List.replicate_succ']
      · obtain ⟨s5, hD⟩ := hI
        refine ⟨Dd, List.replicate vs.length true, rfl, .inl (.inl hD), true, congrArg V.bl (by simp), iteF ?_⟩
        -- the second one
        have s15 := s14.trans s5
        have hvs5 := s5.seq hvs
        refine ⟨.ref p, rfl, p, rfl, ⟨_, hvs5⟩, fun De nE => ?_⟩
        refine lc_list (K := K) (a := p) (xs := vs) (fun i H' => Same H5 H' ∧ H' De = some (.lst ((List.replicate i true).map V.bl))) ⟨same_upd nE, upd_same⟩ (fun i H' _ hI => hI.1.seq hvs5) (fun i x H' hx hI => ?_) (fun H7 hI => ?_)
        · obtain ⟨s6, hE⟩ := hI
          obtain ⟨c, x0, y0, hps, rfl, hc⟩ := hat i x hx
          obtain ⟨g1, g2, g3, g4⟩ := hG _ (mem_at hps)
          refine ⟨c, _, rfl, Same.sqt (s5.trans s6) hc, rfl, .int x0, _, rfl, .int y0, [], rfl, rfl, rfl, ?_⟩
          refine yes ?_
          refine ⟨v2, rfl, v1, rfl, .int y0, rfl, .int x0, rfl, v2, v1, l2, l1, y0, x0, rfl, (hU.same s15).same s6, (hT.same s15).same s6, h2, h1, b1, g2, g1, g3, fun H6 s7 => ⟨_, s7 _ _ hE, ?_, ?_, ?_⟩⟩
          · rw [List.length_map, List.length_replicate]
            have hi := (List.getElem?_eq_some_iff.mp hx).1
            exact small1000 (by omega)
          · exact fun y o ey => by
              rw [upd_ne (ne_of_none ey nE)]
              exact s7 _ _ (s6 y o ey)
          · rw [upd_same, ← List.map_singleton, ← List.map_append, ← List.replicate_succ']
        · obtain ⟨s6, hE⟩ := hI
          refine ⟨De, List.replicate vs.length true, rfl, .inl (.inl hE), true, congrArg V.bl (by simp), iteF ?_⟩
          -- the first numbers
          have s57 := s5.trans s6
          have s17 := s14.trans s57
          have hvs7 := s57.seq hvs
          refine ⟨v1, rfl, .int n, rfl, .ref p, rfl, p, rfl, ⟨_, hvs7⟩, fun Df' nF => ?_⟩
          refine lc_list (K := K) (a := p) (xs := vs) (fun i H' => Same H7 H' ∧ H' Df' = some (.lst (((ps.take i).map (·.1)).map V.int))) ⟨same_upd nF, upd_same⟩ (fun i H' _ hI => hI.1.seq hvs7) (fun i x H' hx hI => ?_) (fun H8 hI => ?_)
          · obtain ⟨s8, hF⟩ := hI
            obtain ⟨c, x0, y0, hps, rfl, hc⟩ := hat i x hx
            refine ⟨c, _, rfl, Same.sqt (s57.trans s8) hc, rfl, .int x0, _, rfl, .int y0, [], rfl, rfl, rfl, ?_⟩
            refine yes ?_
            refine ⟨.int x0, rfl, _, hF, ?_, ?_, ?_⟩
            · rw [List.length_map, List.length_map, List.length_take]
              exact small1000 (by omega)
            · exact fun y o ey => by
                rw [upd_ne (ne_of_none ey nF)]
                exact s8 y o ey
            · rw [upd_same, List.take_add_one, hps, List.map_append, List.map_append]
              rfl
          · obtain ⟨s8, hF⟩ := hI
            rw [hlen, List.take_length] at hF
            have s18 := s17.trans s8
            refine ⟨v1, l1, n, Df', ps.map (·.1), rfl, hT.same s18, h1, hn, hn2, .inl (.inl hF), by rw [List.length_map]; exact hpl, fun x hx => ?_, fun H9 s9 => q H9 (sb0.trans (SB.of (s18.trans s9)))⟩
            obtain ⟨z, hz, rfl⟩ := List.mem_map.mp hx
            exact (hG z hz).1
    obtain ⟨t, ht, hq⟩ := tail
    refine ⟨_, pss_cons (ps_asg (pe_tup (pa_cons (pe_ok O1 hr (pa_cons (pv 0) pa_nil)) (pa_cons (pe_op op_add pe_int (pe_ok O2 hr (pa_cons (pv 0) (pa_cons pe_int pa_nil)))) (pa_cons (pe_lst pa_nil) pa_nil))))
        (pg_tup rfl (pgs_cons (pg_name (i := 1) sc_right.nd rfl (.inr rfl)) (pgs_cons (pg_name (i := 2) sc_right.nd rfl (.inl rfl)) (pgs_cons (pg_name (i := 3) sc_right.nd rfl (.inl rfl)) pgs_nil)))))
      (pss_cons (ps_set (i := 4) sc_right.nd rfl (.inr rfl) (pe_ok O3 hr (pa_cons (pv 0) (pa_cons (pv 1) pa_nil))))
      (pss_cons (ps_if (PW.pt (pw_and (pt_cmpR (op_neT hr.units) (pv 1) (pe_tup pa_nil) (nomark _)) (pw_and1 (pt_cmpR (op_neT hr.units) (pv 4) (pe_tup pa_nil) (nomark _)))))
        (pss_cons (ps_for PassesOwn.never rfl (pi_range1 rfl B.range (pa_cons pe_int pa_nil)) (pg_name (i := 5) sc_right.nd rfl (.inl rfl))
            (pss_one (ps_expr (pe_bm PySem.F.plainAttrs_list PySem.F.slot_list_append PySem.F.type_list_append mt_append (pv 3) (pa_cons (pe_tup (pa_cons (pe_ok O4 hr (pa_cons (pv 0) (pa_cons (pv 1) pa_nil))) (pa_cons (pe_ok O4 hr (pa_cons (pv 0) (pa_cons (pv 4) pa_nil))) pa_nil))) pa_nil)))))
        (pss_cons (ps_expr (pe_bm PySem.F.plainAttrs_list PySem.F.slot_list_append PySem.F.type_list_append mt_append (pv 3) (pa_cons (pe_tup (pa_cons (pe_ix ix_tup (pv 1) pe_int (fun _ _ => rfl)) (pa_cons (pe_ix ix_tup (pv 4) pe_int (fun _ _ => rfl)) pa_nil))) pa_nil)))
        (pss_one (ps_expr (pe_bm PySem.F.plainAttrs_list PySem.F.slot_list_append PySem.F.type_list_append mt_append (pv 3) (pa_cons (pe_ifExp (pt_val (pe_ok O5 hr (pa_cons (pv 4) (pa_cons (pe_ix ix_tup (pv 1) pe_int (fun _ _ => rfl)) pa_nil)))) (pe_tup (pa_cons (pe_ix ix_tup (pv 1) pe_int (fun _ _ => rfl)) (pa_cons (pe_ix ix_tup (pv 1) pe_int (fun _ _ => rfl)) pa_nil))) (pe_tup (pa_cons (pe_op op_sub (pe_ix ix_tup (pv 1) pe_int (fun _ _ => rfl)) (pe_ix ix_tup (pv 1) pe_int (fun _ _ => rfl))) (pa_cons (pe_op op_add (pe_ix ix_tup (pv 4) pe_int (fun _ _ => rfl)) (pe_ix ix_tup (pv 4) pe_int (fun _ _ => rfl))) pa_nil)))) pa_nil)))))) pss_nil) ht)), ?_⟩
    refine ⟨.ref a, rfl, a, rfl, hs, fun H1 v1 l1 sb1 hs1 hv1 hR1 hB1 => ?_⟩
    refine ⟨.ref a, rfl, a, 16, rfl, hs1, by decide, by decide, fun H2 u sb2 hs2 u0 u1 => ⟨1, u, rfl, rfl, le0, fun p np => ⟨le3, fun T nT => ?_⟩⟩⟩
    have sb02 := sb1.trans sb2
    have hp0 : H p = none := sb_free sb02 hs2 np
    have hpa : p ≠ a := by
      obtain ⟨_, _, _, z⟩ := hs2
      exact (ne_of_none z np).symm
    have hs3 := (hs2.new np (o := .lst [])).new nT (o := .tup [v1, .int (1 + u), .ref p])
    have c3 := (same_upd np (o := .lst [])).trans (same_upd nT (o := .tup [v1, .int (1 + u), .ref p]))
    have sb03 := sb02.trans (SB.of c3)
    have hp3 : PrM K (upd (upd H2 p (.lst [])) T (.tup [v1, .int (1 + u), .ref p])) p [] [] := ⟨same_upd nT _ _ upd_same, rfl, fun i v hv => by cases hv⟩
    have hv13 := ((hv1.sb sb2 hs1).same c3)
    refine ⟨T, _, rfl, .inl (.inl upd_same), rfl, v1, _, rfl, .int (1 + u), _, rfl, .ref p, [], rfl, rfl, ?_⟩
    refine ⟨.ref a, rfl, v1, rfl, a, v1, l1, rfl, hs3, hv13, hR1, hB1, fun H4 v2 l2 sb4 hs4 hv2 hR2 hB2 => ?_⟩
    have sb04 := sb03.trans sb4
    have hv14 := hv13.sb sb4 hs3
    have hp4 := hp3.sb hs3 hpa sb4
    have b1 : Bd 300 l1 := hB1.mono (by decide)
    have b2 : Bd 300 l2 := hB2.mono (by decide)
    have hw : 1 + u = ((1 + u).toNat : Int) := by omega
    obtain ⟨c1, rfl, hc1⟩ := hv14
    obtain ⟨c2, rfl, hc2⟩ := hv2
    refine ⟨.ref c1, rfl, le0, fun p5 np5 => ?_⟩
    have s5 := same_upd np5 (o := .tup [])
    have hc15 := Same.sqt s5 hc1
    have hc25 := Same.sqt s5 hc2
    have sb05 := sb04.trans (SB.of s5)
    have hs5 := hs4.same s5
    have hp5 := hp4.sb hs4 hpa (SB.of s5)
    refine ⟨c1, p5, l1, [], rfl, rfl, hc15, .inl (.inl upd_same), _, rfl, ?_⟩
    rcases hR1.form with e | ⟨r, m, rfl⟩
    · subst e
      exact iteF (iteF (hq (.ref c1) (.ref c2) [] l2 _ _ p [] none _ hw sb05 ⟨c1, rfl, hc15⟩ ⟨c2, rfl, hc25⟩ hR1 hR2 b1 b2 (by omega) (by omega) hp5.prs (Nat.zero_le _) (fun z hz => by cases hz)))
    · refine iteT ⟨.ref c2, rfl, le0, fun p6 np6 => ?_⟩
      have s6 := same_upd np6 (o := .tup [])
      have hc16 := Same.sqt s6 hc15
      have hc26 := Same.sqt s6 hc25
      have sb06 := sb05.trans (SB.of s6)
      have hs6 := hs5.same s6
      have hp6 := hp5.sb hs5 hpa (SB.of s6)
      refine ⟨c2, p6, l2, [], rfl, rfl, hc26, .inl (.inl upd_same), _, rfl, ?_⟩
      rcases hR2.form with e | ⟨s, k, rfl⟩
      · subst e
        exact iteF (hq (.ref c1) (.ref c2) [r, m] [] _ _ p [] none _ hw sb06 ⟨c1, rfl, hc16⟩ ⟨c2, rfl, hc26⟩ hR1 hR2 b1 b2 (by omega) (by omega) hp6.prs (Nat.zero_le _) (fun z hz => by cases hz))
      · refine iteT ⟨4, rfl, by decide, by decide, ?_⟩
        have p130 : (2 : Nat) ^ 130 < 2 ^ 300 := by decide
        have p110 : (2 : Nat) ^ 110 + 20160 < 2 ^ 300 := by decide
        have hr1 : r.natAbs < 2 ^ 110 := (hB1.mono (by decide) : Bd 110 [r, m]) r (by simp)
        have hs1' : s.natAbs < 2 ^ 110 := hB2 s (by simp)
        have hm := hR1.le
        have hk := hR2.le
        refine for_range (n := 4) (fun i σ H' => ∃ (y5 : Option V) (vs : List V) (ps : List (Int × Int)), σ = [some (.ref a), some (.ref c1), some (.int (1 + u)), some (.ref p), some (.ref c2), y5, none, none] ∧ SB a H H' ∧ Src H' a ∧ SqT K H' c1 (([r, m] : List Int).map V.int) ∧ SqT K H' c2 (([s, k] : List Int).map V.int) ∧ PrM K H' p vs ps ∧ ps.length = i ∧ ∀ z ∈ ps, Good [r, m] [s, k] z)
          ⟨none, [], [], rfl, sb06, hs6, hc16, hc26, hp6, rfl, fun z hz => by cases hz⟩ (fun i σ H7 hi hI => ?_) (fun σ H7 hI => ?_)
        · obtain ⟨y5, vs, ps, rfl, sb7, hs7, hc17, hc27, hp7, hpl, hG⟩ := hI
          refine ⟨.ref p, rfl, .inl ⟨rfl, _, .inl (.inl hp7.1)⟩, .ref a, rfl, .ref c1, rfl, a, .ref c1, r, m, rfl, hs7, ⟨c1, rfl, hc17⟩, hR1, hB1.mono (by decide), fun H8 x sb8 hs8 hx hxb => ?_⟩
          have hc28 := sb8.sqtS hs7 hc27
          refine ⟨.ref a, rfl, .ref c2, rfl, a, .ref c2, s, k, rfl, hs8, ⟨c2, rfl, hc28⟩, hR2, hB2, fun H9 y sb9 hs9 hy hyb => ⟨le2, fun qq nq => ?_⟩⟩
          have sb79 := (sb8.trans sb9).trans (SB.new nq (o := .tup [.int x, .int y]))
          have hp10 := hp7.sb hs7 hpa sb79
          have hs10 := hs9.new nq (o := .tup [.int x, .int y])
          have hc110 := sb79.sqtS hs7 hc17
          have hc210 := sb79.sqtS hs7 hc27
          refine ⟨p, vs, .ref qq, rfl, rfl, hp10.1, ?_, ?_⟩
          · have := hp10.2.1
            exact small1000 (by omega)
          · exact ⟨_, _, ps ++ [(x, y)], rfl, sb_at (sb7.trans sb79) hp0, src_put hs10 hpa, SB.put.sqt hp10.1 hc110, SB.put.sqt hp10.1 hc210, hp10.push (.inl (.inl upd_same)), by rw [List.length_append, hpl]; rfl, good_snoc hG ⟨hx, hy, Nat.lt_trans hxb p130, Nat.lt_trans hyb p130⟩⟩
        · obtain ⟨y5, vs, ps, rfl, sb7, hs7, hc17, hc27, hp7, hpl, hG⟩ := hI
          refine ⟨.ref p, rfl, .inl ⟨rfl, _, .inl (.inl hp7.1)⟩, .ref c1, rfl, c1, _, 0, .int r, rfl, rfl, hc17, atI_nat (j := 0) rfl, .ref c2, rfl, c2, _, 0, .int s, rfl, rfl, hc27, atI_nat (j := 0) rfl, le2, fun qq nq => ?_⟩
          have sb8 := SB.new (a := a) nq (o := .tup [.int r, .int s])
          have hp8 := hp7.sb hs7 hpa sb8
          have hs8 := hs7.new nq (o := .tup [.int r, .int s])
          have hc18 := sb8.sqtS hs7 hc17
          have hc28 := sb8.sqtS hs7 hc27
          have hp9 := hp8.push (x := r) (y := s) (q := qq) (.inl (.inl upd_same))
          have hc19 := (SB.put (o := .lst (vs ++ [.ref qq]))).sqt hp8.1 hc18
          have hc29 := (SB.put (o := .lst (vs ++ [.ref qq]))).sqt hp8.1 hc28
          have hs9 := src_put hs8 hpa (o := .lst (vs ++ [.ref qq]))
          have sb9 := sb_at (sb7.trans sb8) hp0 (o := .lst (vs ++ [.ref qq]))
          have hG9 := good_snoc hG (x := r) (y := s) ⟨has_self _ _, has_self _ _, by show r.natAbs < 2 ^ 300; omega, by show s.natAbs < 2 ^ 300; omega⟩
          refine ⟨p, vs, .ref qq, rfl, rfl, hp8.1, ?_, ?_⟩
          · have := hp8.2.1
            exact small1000 (by omega)
          · refine ⟨.ref p, rfl, .inl ⟨rfl, _, .inl (.inl hp9.1)⟩, .ref c2, rfl, .ref c1, rfl, c1, _, 0, .int r, rfl, rfl, hc19, atI_nat (j := 0) rfl, .ref c2, [s, k], r, rfl, ⟨c2, rfl, hc29⟩, hR2, fun H10 s10 => ⟨_, rfl, ?_⟩⟩
            have hc110 := Same.sqt s10 hc19
            have hc210 := Same.sqt s10 hc29
            have hs10 := hs9.same s10
            have sb10 := sb9.trans (SB.of s10)
            have hp10 := hp9.sb hs9 hpa (SB.of s10)
            have lenOk : (vs ++ [V.ref qq]).length < sizeLine := by
              rw [hp9.2.1, List.length_append, hpl]
              exact small1000 (by show 4 + 1 ≤ 1000; decide)
            have fin : ∀ (x y : Int) (q2 : Addr), H10 q2 = none → Good [r, m] [s, k] (x, y) → t { nx := fun _ H' => Q .non H', rt := Q } [some (.ref a), some (.ref c1), some (.int (1 + u)), some (.ref p), some (.ref c2), y5, none, none] (upd (upd H10 q2 (.tup [.int x, .int y])) p (.lst ((vs ++ [.ref qq]) ++ [.ref q2]))) := by
              intro x y q2 n2 g2
              have sb11 := SB.new (a := a) n2 (o := .tup [.int x, .int y])
              have hp11 := hp10.sb hs10 hpa sb11
              have hs11 := hs10.new n2 (o := .tup [.int x, .int y])
              refine hq (.ref c1) (.ref c2) [r, m] [s, k] _ _ p ((ps ++ [(r, s)]) ++ [(x, y)]) y5 _ hw (sb_at (sb10.trans sb11) hp0) ⟨c1, rfl, SB.put.sqt hp11.1 (sb11.sqtS hs10 hc110)⟩ ⟨c2, rfl, SB.put.sqt hp11.1 (sb11.sqtS hs10 hc210)⟩ hR1 hR2 b1 b2 (by omega) (by omega) (hp11.push (.inl (.inl upd_same))).prs ?_ (good_snoc hG9 g2)
              rw [List.length_append, List.length_append, hpl]
              show 4 + 1 + 1 ≤ 1000
              decide
            cases hc : has [s, k] r with
            | true =>
              exact iteT ⟨.ref c1, rfl, c1, _, 0, .int r, rfl, rfl, hc110, atI_nat (j := 0) rfl, .ref c1, rfl, c1, _, 0, .int r, rfl, rfl, hc110, atI_nat (j := 0) rfl, le2, fun q2 n2 => ⟨p, _, .ref q2, rfl, rfl, (hp10.sb hs10 hpa (SB.new n2)).1, lenOk, fin r r q2 n2 ⟨has_self _ _, hc, by show r.natAbs < 2 ^ 300; omega, by show r.natAbs < 2 ^ 300; omega⟩⟩⟩
            | false =>
              refine iteF ⟨.ref c1, rfl, c1, _, 0, .int r, rfl, rfl, hc110, atI_nat (j := 0) rfl, .ref c1, rfl, c1, _, 1, .int m, rfl, rfl, hc110, atI_nat (j := 1) rfl, r, m, rfl, rfl, .ref c2, rfl, c2, _, 0, .int s, rfl, rfl, hc210, atI_nat (j := 0) rfl, .ref c2, rfl, c2, _, 1, .int k, rfl, rfl, hc210, atI_nat (j := 1) rfl, s, k, rfl, rfl, le2, fun q2 n2 => ⟨p, _, .ref q2, rfl, rfl, (hp10.sb hs10 hpa (SB.new n2)).1, lenOk, fin (r - m) (s + k) q2 n2 ⟨has_iff.mpr ⟨-1, ?_⟩, has_next s k, ?_, ?_⟩⟩⟩
              · show r - m - r = m * (-1)
                omega
              · show (r - m).natAbs < 2 ^ 300
                omega
              · show (s + k).natAbs < 2 ^ 300
                omega
/-! ### law -/
theorem sc_law : FnScope ["_law_script", "_law_turn"] ["_law_script"] (defScope s_law) := ⟨rfl, rfl, rfl, by decide +kernel, rfl, by decide +kernel, by decide +kernel⟩
def sp_law (K : PySem.W.Frag) : Sp := fun vs H Q _ => ∃ (a : Addr) (ns : List Int), vs = [.ref a] ∧ SqL K H a (ns.map V.int) ∧ ns.length ≤ 63 ∧ ∀ H', Q (.bl true) H'
theorem ok_law (B : Bl mg) (O1 : Ok P w K mg base 1 "_law_source" ["_law_script", "_law_turn"] (sp_source K)) (O2 : Ok P w K mg base 8 "_law_right" ["_law_source_here"] sp_right) {f : Addr} {fd : FuncData} (F : Fun K "law" "law" s_law f fd) : FnOk P w K mg base CX0 9 f fd ["_law_script"] (sp_law K) := by
  refine F.ok sc_law (fun vs H Q E h => ?_) (fun cdv A outer st H vs Q E hr h => ?_)
  · obtain ⟨a, ns, rfl, _⟩ := h
    rfl
  · obtain ⟨a, ns, rfl, hS, hl, q⟩ := h
    refine ⟨_, pss_one (ps_ret (pe_callB (cr_all rfl) (by rfl) B.all PyProof.Rows.boot_all (pa_cons (pe_lc (own := [("_law_turn", 1)]) (g := gName 1) (tt := tYes) rfl sc_law.nd
      (pi_range1 rfl B.range (pa_cons (pe_callB (call_max2 rfl) (by rfl) B.max PyProof.Rows.boot_max (pa_cons pe_int (pa_cons (pe_callB (call_min2 rfl) (by rfl) B.min PyProof.Rows.boot_min (pa_cons (pe_callB call_len_seq (by rfl) B.len PySem.boot_len (pa_cons (pv 0) pa_nil)) (pa_cons pe_int pa_nil))) pa_nil))) pa_nil))
      (blkOk_by (own := [("_law_turn", 1)]) (N := ["_law_script", "_law_turn"]) (sc := defScope s_law) (by decide +kernel)) (fun _ _ _ _ _ => pg_name (i := 1) sc_law.nd rfl (Or.inl rfl)) (fun _ _ _ _ _ => pts_nil)
      (fun _ _ _ _ _ => pe_ok O2 hr (pa_cons (pe_ok O1 hr (pa_cons (pv 0) (pa_cons (pv 1) pa_nil))) pa_nil))) pa_nil))), ?_⟩
    refine ⟨.ref a, rfl, a, ns.map V.int, rfl, .inl hS, _, 5, rfl, 2, _, rfl, _, rfl, ?_, ?_, fun Dd nD => ?_⟩
    · split <;> split <;> omega
    · split <;> split <;> omega
    · refine lc_range (lo := 0) (fun i H' => Same H H' ∧ H' Dd = some (.lst ((List.replicate i true).map V.bl))) ⟨same_upd nD, upd_same⟩ (fun i H' hi hI => ?_) (fun H' hI => ?_)
      · obtain ⟨s1, hD⟩ := hI
        have hi5 : i < 1000 := by
          refine Nat.lt_of_lt_of_le hi ?_
          split <;> split <;> omega
        refine ⟨rfl, ?_⟩
        refine yes ?_
        refine ⟨.ref a, rfl, .int (0 + i), rfl, a, ns, 0 + i, rfl, s1.seq hS, by omega, fun H1 p s2 np hs => ⟨p, rfl, hs, fun H2 sb => ⟨_, sb _ _ (ne_of_none hD np) (s2 _ _ hD), ?_, ?_, ?_⟩⟩⟩
        · rw [List.length_map, List.length_replicate]
          exact small1000 (by omega)
        · exact fun y o ey => by
            rw [upd_ne (ne_of_none ey nD)]
            exact same_sb s2 np sb y o (s1 y o ey)
        · rw [upd_same, ← List.map_singleton, ← List.map_append, ← List.replicate_succ']
      · obtain ⟨s1, hD⟩ := hI
        refine ⟨Dd, _, rfl, .inl (.inl hD), ?_⟩
        rw [show ∀ n : Nat, (List.replicate n true).all id = true from fun n => by simp]
        exact q H'
end
end K32

namespace K32
open PySem PySem.Spec PyProof.Rows L2
/-! ### how the four are called by keywords -/
theorem kbn2 {K : PySem.W.Frag} {x p1 p2 : Str} {st : Stmt} {f : Addr} {fd : FuncData} (F : Fun K x x st f fd)
    (h : ∀ (kV doc pm : Value) (an : Option Addr) (cdv ct : Value) (u v : Value), bindArgs (PySem.W.fnOf x x (defArgs st) (defBody st) (defScope st) .none kV doc pm an cdv ct) ⟨[], [(p2, u), (p1, v)]⟩ = pure [(p1, v), (p2, u)]) : KBn K fd [p1, p2] 0 [p2, p1] gR gVR := by
  obtain ⟨oc, od, kV, doc, pm, an, cdv, ct, osl, rfl, lk, hcd⟩ := F.ex
  exact ⟨fun s us ws _ l1 l2 => match us, ws, l1, l2 with | [], [u, v], _, _ => .of_eq (h kV doc pm an cdv ct u v), fun _ r2 => r2.reverse⟩
theorem kbn3 {K : PySem.W.Frag} {x p1 p2 p3 : Str} {st : Stmt} {f : Addr} {fd : FuncData} (F : Fun K x x st f fd)
    (h : ∀ (kV doc pm : Value) (an : Option Addr) (cdv ct : Value) (t u v : Value), bindArgs (PySem.W.fnOf x x (defArgs st) (defBody st) (defScope st) .none kV doc pm an cdv ct) ⟨[], [(p3, t), (p2, u), (p1, v)]⟩ = pure [(p1, v), (p2, u), (p3, t)]) : KBn K fd [p1, p2, p3] 0 [p3, p2, p1] gR gVR := by
  obtain ⟨oc, od, kV, doc, pm, an, cdv, ct, osl, rfl, lk, hcd⟩ := F.ex
  exact ⟨fun s us ws _ l1 l2 => match us, ws, l1, l2 with | [], [t, u, v], _, _ => .of_eq (h kV doc pm an cdv ct t u v), fun _ r2 => r2.reverse⟩
/-! ### every def keeps its promise -/
structure Tx (K : PySem.W.Frag) (mg : Str → Option Value) : Prop where
  bl : Bl mg
  cn : Cn K mg
  is_whole : Df K mg "is_whole" s_is_whole ["value"]
  is_between : Df K mg "is_between" s_is_between ["value", "low", "high"]
  are_wholes : Df K mg "are_wholes" s_are_wholes ["value", "many"]
  is_rested : Df K mg "is_rested" s_is_rested ["value"]
  rest_by : Df K mg "rest_by" s_rest_by ["number", "many"]
  is_multiple : Df K mg "is_multiple" s_is_multiple ["number", "many"]
  is_left : Df K mg "is_left" s_is_left ["rest", "number"]
  number_with : Df K mg "number_with" s_number_with ["rest", "other"]
  met_rest : Df K mg "met_rest" s_met_rest ["rest", "other"]
  is_only_nought : Df K mg "is_only_nought" s_is_only_nought ["rest"]
  quotient_rest : Df K mg "quotient_rest" s_quotient_rest ["rest", "other"]
  modulo_rest : Df K mg "modulo_rest" s_modulo_rest ["rest", "other"]
  wrapped_rest : Df K mg "wrapped_rest" s_wrapped_rest ["rest", "width"]
  guarded_rests : Df K mg "guarded_rests" s_guarded_rests ["guard", "rest", "other"]
  check_rest : Df K mg "check_rest" s_check_rest ["value"]
  check_rests : Df K mg "check_rests" s_check_rests ["rest", "other"]
  check_whole : Df K mg "check_whole" s_check_whole ["value"]
  check_width : Df K mg "check_width" s_check_width ["value"]
  check_guard : Df K mg "check_guard" s_check_guard ["value"]
  rest_holds : Df K mg "rest_holds" s_rest_holds ["rest", "number"]
  rest_quotient : DfK K mg "rest_quotient" s_rest_quotient ["rest", "other"] ["other", "rest"] gR gVR
  rest_modulo : DfK K mg "rest_modulo" s_rest_modulo ["rest", "other"] ["other", "rest"] gR gVR
  rest_wrapped : DfK K mg "rest_wrapped" s_rest_wrapped ["rest", "width"] ["width", "rest"] gR gVR
  rest_guarded : DfK K mg "rest_guarded" s_rest_guarded ["guard", "rest", "other"] ["other", "rest", "guard"] gR gVR
  source : Df K mg "_law_source" s_source ["_law_script", "_law_turn"]
  take : Df K mg "_law_take" s_take ["_law_source_here", "_law_many"]
  pick : Df K mg "_law_pick" s_pick ["_law_source_here", "_law_some"]
  great : Df K mg "_law_great" s_great ["_law_source_here"]
  number : Df K mg "_law_number" s_number ["_law_source_here"]
  part : Df K mg "_law_part" s_part ["_law_source_here"]
  rest : Df K mg "_law_rest" s_rest ["_law_source_here"]
  rest_near : Df K mg "_law_rest_near" s_rest_near ["_law_source_here", "_law_one"]
  rest_some : Df K mg "_law_rest_some" s_rest_some ["_law_source_here", "_law_one"]
  lwhole : Df K mg "_law_is_whole" s_lwhole ["_law_thing"]
  same : Df K mg "_law_same" s_same ["_law_told", "_law_due"]
  rest_has : Df K mg "_law_rest_has" s_rest_has ["_law_one", "_law_count"]
  common : Df K mg "_law_common" s_common ["_law_far", "_law_near"]
  least : Df K mg "_law_least" s_least ["_law_lots"]
  rest_meet : Df K mg "_law_rest_meet" s_rest_meet ["_law_one", "_law_two"]
  over : Df K mg "_law_over" s_over ["_law_one", "_law_two"]
  left : Df K mg "_law_left" s_left ["_law_one", "_law_two"]
  lets : Df K mg "_law_lets" s_lets ["_law_word", "_law_left_here", "_law_right_here"]
  guarded : Df K mg "_law_guarded" s_guarded ["_law_word", "_law_one", "_law_two"]
  beside : Df K mg "_law_beside" s_beside ["_law_source_here", "_law_one"]
  two_right : Df K mg "_law_two_right" s_two_right ["_law_one", "_law_two"]
  guards_right : Df K mg "_law_guards_right" s_guards_right ["_law_one", "_law_two", "_law_pairs"]
  held_right : Df K mg "_law_held_right" s_held_right ["_law_one", "_law_two", "_law_here", "_law_there"]
  wrapped_right : Df K mg "_law_wrapped_right" s_wrapped_right ["_law_one", "_law_wide", "_law_counts"]
  right : Df K mg "_law_right" s_right ["_law_source_here"]
theorem ok_all {P : Program} {w : World} {K : PySem.W.Frag} {mg : Str → Option Value} {base : Heap} (T : Tx K mg) {f : Addr} {fd : FuncData} (F : Fun K "law" "law" s_law f fd) : FnOk P w K mg base CX0 9 f fd ["_law_script"] (sp_law K) := by
  have B := T.bl
  have C := T.cn
  have w1 := ok_is_whole (P := P) (w := w) (base := base) B T.is_whole
  have w2 := ok_is_between B w1 T.is_between
  have w3 := ok_are_wholes B w1 T.are_wholes
  have w4 := ok_is_rested B C w3 T.is_rested
  have w5 := ok_rest_by (P := P) (w := w) (base := base) T.rest_by
  have w6 := ok_is_multiple (P := P) (w := w) (base := base) T.is_multiple
  have w7 := ok_is_left C w6 T.is_left
  have w8 := ok_number_with w7 T.number_with
  have w9 := ok_met_rest C w6 w5 w8 T.met_rest
  have w10 := ok_is_only_nought (P := P) (w := w) (base := base) T.is_only_nought
  have w11 := ok_quotient_rest B C w10 w6 w5 T.quotient_rest
  have w12 := ok_modulo_rest C w10 w6 w5 T.modulo_rest
  have w13 := ok_wrapped_rest w12 T.wrapped_rest
  have w14 := ok_guarded_rests C w9 T.guarded_rests
  have c1 := ok_check_rest w4 T.check_rest
  have c2 := ok_check_rests c1 T.check_rests
  have c3 := ok_check_whole w1 T.check_whole
  have c4 := ok_check_width C w2 T.check_width
  have c5 := ok_check_guard (P := P) (w := w) (base := base) B C T.check_guard
  have p1 := ok_rest_holds c1 c3 w7 T.rest_holds
  have p2 := ok_rest_quotient c2 w11 T.rest_quotient
  have p3 := ok_rest_modulo c2 w12 T.rest_modulo
  have p4 := ok_rest_wrapped c1 c4 w13 T.rest_wrapped
  have p5 := ok_rest_guarded c5 c2 w14 T.rest_guarded
  have l1 := ok_source (P := P) (w := w) (base := base) B T.source
  have l2 := ok_take (P := P) (w := w) (base := base) B T.take
  have l3 := ok_pick B l2 T.pick
  have l4 := ok_great B l2 T.great
  have l5 := ok_number l2 l4 T.number
  have l6 := ok_part l3 T.part
  have l7 := ok_rest l2 l5 l6 T.rest
  have l8 := ok_rest_near B l2 l7 l6 l3 T.rest_near
  have l9 := ok_rest_some l5 T.rest_some
  have l10 := ok_common (P := P) (w := w) (base := base) B T.common
  have l11 := ok_beside l2 l8 l6 l10 T.beside
  have l12 := ok_lwhole (P := P) (w := w) (base := base) B T.lwhole
  have m0 := ok_same0 (K := K) B l12 T.same
  have m1 := ok_sameS B l12 m0 T.same
  have m2 := ok_sameS B l12 m1 T.same
  have m3 := ok_sameS B l12 m2 T.same
  have l13 := ok_rest_has (P := P) (w := w) (base := base) B T.rest_has
  have l14 := ok_least B l10 T.least
  have l15 := ok_rest_meet B l13 l10 T.rest_meet
  have l16 := ok_over B l14 T.over
  have l17 := ok_left B l10 T.left
  have l18 := ok_lets (P := P) (w := w) (base := base) T.lets
  have l19 := ok_guarded l15 T.guarded
  have r1 := ok_two_right l16 l17 p2 p3 m2 T.two_right
  have r2 := ok_guards_right l19 p5 m3 p1 l18 m1 T.guards_right
  have r3 := ok_held_right B p1 p2.pos p3.pos m1 T.held_right
  have r4 := ok_wrapped_right B p4 l17 p3.pos p1 m2 m0 T.wrapped_right
  have r5 := ok_right B l7 l2 l11 l9 l13 r1 r2 r3 r4 T.right
  exact ok_law B l1 r5 F
/-! ### what the top has written -/
theorem df_of {K : PySem.W.Frag} {h : Heap} {mg : Str → Option Value} {x : Str} {st : Stmt} {ps : List Str} (X : K.In h) (G : h.Ns mainGlobals mg) {f : Addr} {fd : FuncData} (F : Fun K x x st f fd) (a : PySem.W.nsIn K mainGlobals x = some (some (.ref f)))
    (b : ∀ (kV doc pm : Value) (an : Option Addr) (cdv ct : Value) (us : List Value), us.length = ps.length → bindArgs (PySem.W.fnOf x x (defArgs st) (defBody st) (defScope st) .none kV doc pm an cdv ct) ⟨us, []⟩ = pure (ps.zip us)) : Df K mg x st ps :=
  ⟨f, fd, F, PySem.W.mg_of X G a, F.binds b⟩
theorem all_mk {l : PySem.W.OpenLaw} {w : World} {K : PySem.W.Frag} {h : Heap} {mg : Str → Option Value} {fa : Addr} (X : K.In h) (G : h.Ns mainGlobals mg) (hfa : mg "law" = some (.ref fa))
    {f0 f1 f2 f3 f4 f5 f6 f7 f8 f9 f10 f11 f12 f13 f14 f15 f16 f17 f18 f19 f20 f21 f22 f23 f24 f25 f26 f27 f28 f29 f30 f31 f32 f33 f34 f35 f36 f37 f38 f39 f40 f41 f42 f43 f44 f45 f46 f47 f48 f49 : Addr} {od0 an0 od1 an1 od2 an2 od3 an3 od4 an4 od5 an5 od6 an6 od7 an7 od8 an8 od9 an9 od10 an10 od11 an11 od12 an12 od13 an13 od14 an14 od15 an15 od16 an16 od17 an17 od18 an18 od19 an19 od20 an20 od21 an21 od22 an22 od23 an23 od24 an24 od25 an25 od26 an26 od27 an27 od28 an28 od29 an29 od30 an30 od31 an31 od32 an32 od33 an33 od34 an34 od35 an35 od36 an36 od37 an37 od38 an38 od39 an39 od40 an40 od41 an41 od42 an42 od43 an43 od44 an44 od45 an45 od46 an46 od47 an47 od48 an48 od49 an49 : Option Addr} {sl0 sl1 sl2 sl3 sl4 sl5 sl6 sl7 sl8 sl9 sl10 sl11 sl12 sl13 sl14 sl15 sl16 sl17 sl18 sl19 sl20 sl21 sl22 sl23 sl24 sl25 sl26 sl27 sl28 sl29 sl30 sl31 sl32 sl33 sl34 sl35 sl36 sl37 sl38 sl39 sl40 sl41 sl42 sl43 sl44 sl45 sl46 sl47 sl48 sl49 : Array (Option Value)} {oc0 kV0 dc0 pm0 cd0 ct0 oc1 kV1 dc1 pm1 cd1 ct1 oc2 kV2 dc2 pm2 cd2 ct2 oc3 kV3 dc3 pm3 cd3 ct3 oc4 kV4 dc4 pm4 cd4 ct4 oc5 kV5 dc5 pm5 cd5 ct5 oc6 kV6 dc6 pm6 cd6 ct6 oc7 kV7 dc7 pm7 cd7 ct7 oc8 kV8 dc8 pm8 cd8 ct8 oc9 kV9 dc9 pm9 cd9 ct9 oc10 kV10 dc10 pm10 cd10 ct10 oc11 kV11 dc11 pm11 cd11 ct11 oc12 kV12 dc12 pm12 cd12 ct12 oc13 kV13 dc13 pm13 cd13 ct13 oc14 kV14 dc14 pm14 cd14 ct14 oc15 kV15 dc15 pm15 cd15 ct15 oc16 kV16 dc16 pm16 cd16 ct16 oc17 kV17 dc17 pm17 cd17 ct17 oc18 kV18 dc18 pm18 cd18 ct18 oc19 kV19 dc19 pm19 cd19 ct19 oc20 kV20 dc20 pm20 cd20 ct20 oc21 kV21 dc21 pm21 cd21 ct21 oc22 kV22 dc22 pm22 cd22 ct22 oc23 kV23 dc23 pm23 cd23 ct23 oc24 kV24 dc24 pm24 cd24 ct24 oc25 kV25 dc25 pm25 cd25 ct25 oc26 kV26 dc26 pm26 cd26 ct26 oc27 kV27 dc27 pm27 cd27 ct27 oc28 kV28 dc28 pm28 cd28 ct28 oc29 kV29 dc29 pm29 cd29 ct29 oc30 kV30 dc30 pm30 cd30 ct30 oc31 kV31 dc31 pm31 cd31 ct31 oc32 kV32 dc32 pm32 cd32 ct32 oc33 kV33 dc33 pm33 cd33 ct33 oc34 kV34 dc34 pm34 cd34 ct34 oc35 kV35 dc35 pm35 cd35 ct35 oc36 kV36 dc36 pm36 cd36 ct36 oc37 kV37 dc37 pm37 cd37 ct37 oc38 kV38 dc38 pm38 cd38 ct38 oc39 kV39 dc39 pm39 cd39 ct39 oc40 kV40 dc40 pm40 cd40 ct40 oc41 kV41 dc41 pm41 cd41 ct41 oc42 kV42 dc42 pm42 cd42 ct42 oc43 kV43 dc43 pm43 cd43 ct43 oc44 kV44 dc44 pm44 cd44 ct44 oc45 kV45 dc45 pm45 cd45 ct45 oc46 kV46 dc46 pm46 cd46 ct46 oc47 kV47 dc47 pm47 cd47 ct47 oc48 kV48 dc48 pm48 cd48 ct48 oc49 kV49 dc49 pm49 cd49 ct49 : Value}
    (a0 : PySem.W.nsIn K mainGlobals "is_whole" = some (some (.ref f0))) (l0 : K.lookup f0 = some ⟨oc0, od0, .func (PySem.W.fnOf "is_whole" "is_whole" (defArgs s_is_whole) (defBody s_is_whole) (defScope s_is_whole) .none kV0 dc0 pm0 an0 cd0 ct0), sl0⟩) (c0 : PySem.W.codeIn K cd0 "is_whole" = true) (k0 : PySem.W.keepIn K (.ref f0) = true)
    (a1 : PySem.W.nsIn K mainGlobals "is_between" = some (some (.ref f1))) (l1 : K.lookup f1 = some ⟨oc1, od1, .func (PySem.W.fnOf "is_between" "is_between" (defArgs s_is_between) (defBody s_is_between) (defScope s_is_between) .none kV1 dc1 pm1 an1 cd1 ct1), sl1⟩) (c1 : PySem.W.codeIn K cd1 "is_between" = true) (k1 : PySem.W.keepIn K (.ref f1) = true)
    (a2 : PySem.W.nsIn K mainGlobals "are_wholes" = some (some (.ref f2))) (l2 : K.lookup f2 = some ⟨oc2, od2, .func (PySem.W.fnOf "are_wholes" "are_wholes" (defArgs s_are_wholes) (defBody s_are_wholes) (defScope s_are_wholes) .none kV2 dc2 pm2 an2 cd2 ct2), sl2⟩) (c2 : PySem.W.codeIn K cd2 "are_wholes" = true) (k2 : PySem.W.keepIn K (.ref f2) = true)
    (a3 : PySem.W.nsIn K mainGlobals "is_rested" = some (some (.ref f3))) (l3 : K.lookup f3 = some ⟨oc3, od3, .func (PySem.W.fnOf "is_rested" "is_rested" (defArgs s_is_rested) (defBody s_is_rested) (defScope s_is_rested) .none kV3 dc3 pm3 an3 cd3 ct3), sl3⟩) (c3 : PySem.W.codeIn K cd3 "is_rested" = true) (k3 : PySem.W.keepIn K (.ref f3) = true)
    (a4 : PySem.W.nsIn K mainGlobals "rest_by" = some (some (.ref f4))) (l4 : K.lookup f4 = some ⟨oc4, od4, .func (PySem.W.fnOf "rest_by" "rest_by" (defArgs s_rest_by) (defBody s_rest_by) (defScope s_rest_by) .none kV4 dc4 pm4 an4 cd4 ct4), sl4⟩) (c4 : PySem.W.codeIn K cd4 "rest_by" = true) (k4 : PySem.W.keepIn K (.ref f4) = true)
    (a5 : PySem.W.nsIn K mainGlobals "is_multiple" = some (some (.ref f5))) (l5 : K.lookup f5 = some ⟨oc5, od5, .func (PySem.W.fnOf "is_multiple" "is_multiple" (defArgs s_is_multiple) (defBody s_is_multiple) (defScope s_is_multiple) .none kV5 dc5 pm5 an5 cd5 ct5), sl5⟩) (c5 : PySem.W.codeIn K cd5 "is_multiple" = true) (k5 : PySem.W.keepIn K (.ref f5) = true)
    (a6 : PySem.W.nsIn K mainGlobals "is_left" = some (some (.ref f6))) (l6 : K.lookup f6 = some ⟨oc6, od6, .func (PySem.W.fnOf "is_left" "is_left" (defArgs s_is_left) (defBody s_is_left) (defScope s_is_left) .none kV6 dc6 pm6 an6 cd6 ct6), sl6⟩) (c6 : PySem.W.codeIn K cd6 "is_left" = true) (k6 : PySem.W.keepIn K (.ref f6) = true)
    (a7 : PySem.W.nsIn K mainGlobals "number_with" = some (some (.ref f7))) (l7 : K.lookup f7 = some ⟨oc7, od7, .func (PySem.W.fnOf "number_with" "number_with" (defArgs s_number_with) (defBody s_number_with) (defScope s_number_with) .none kV7 dc7 pm7 an7 cd7 ct7), sl7⟩) (c7 : PySem.W.codeIn K cd7 "number_with" = true) (k7 : PySem.W.keepIn K (.ref f7) = true)
    (a8 : PySem.W.nsIn K mainGlobals "met_rest" = some (some (.ref f8))) (l8 : K.lookup f8 = some ⟨oc8, od8, .func (PySem.W.fnOf "met_rest" "met_rest" (defArgs s_met_rest) (defBody s_met_rest) (defScope s_met_rest) .none kV8 dc8 pm8 an8 cd8 ct8), sl8⟩) (c8 : PySem.W.codeIn K cd8 "met_rest" = true) (k8 : PySem.W.keepIn K (.ref f8) = true)
    (a9 : PySem.W.nsIn K mainGlobals "is_only_nought" = some (some (.ref f9))) (l9 : K.lookup f9 = some ⟨oc9, od9, .func (PySem.W.fnOf "is_only_nought" "is_only_nought" (defArgs s_is_only_nought) (defBody s_is_only_nought) (defScope s_is_only_nought) .none kV9 dc9 pm9 an9 cd9 ct9), sl9⟩) (c9 : PySem.W.codeIn K cd9 "is_only_nought" = true) (k9 : PySem.W.keepIn K (.ref f9) = true)
    (a10 : PySem.W.nsIn K mainGlobals "quotient_rest" = some (some (.ref f10))) (l10 : K.lookup f10 = some ⟨oc10, od10, .func (PySem.W.fnOf "quotient_rest" "quotient_rest" (defArgs s_quotient_rest) (defBody s_quotient_rest) (defScope s_quotient_rest) .none kV10 dc10 pm10 an10 cd10 ct10), sl10⟩) (c10 : PySem.W.codeIn K cd10 "quotient_rest" = true) (k10 : PySem.W.keepIn K (.ref f10) = true)
    (a11 : PySem.W.nsIn K mainGlobals "modulo_rest" = some (some (.ref f11))) (l11 : K.lookup f11 = some ⟨oc11, od11, .func (PySem.W.fnOf "modulo_rest" "modulo_rest" (defArgs s_modulo_rest) (defBody s_modulo_rest) (defScope s_modulo_rest) .none kV11 dc11 pm11 an11 cd11 ct11), sl11⟩) (c11 : PySem.W.codeIn K cd11 "modulo_rest" = true) (k11 : PySem.W.keepIn K (.ref f11) = true)
    (a12 : PySem.W.nsIn K mainGlobals "wrapped_rest" = some (some (.ref f12))) (l12 : K.lookup f12 = some ⟨oc12, od12, .func (PySem.W.fnOf "wrapped_rest" "wrapped_rest" (defArgs s_wrapped_rest) (defBody s_wrapped_rest) (defScope s_wrapped_rest) .none kV12 dc12 pm12 an12 cd12 ct12), sl12⟩) (c12 : PySem.W.codeIn K cd12 "wrapped_rest" = true) (k12 : PySem.W.keepIn K (.ref f12) = true)
    (a13 : PySem.W.nsIn K mainGlobals "guarded_rests" = some (some (.ref f13))) (l13 : K.lookup f13 = some ⟨oc13, od13, .func (PySem.W.fnOf "guarded_rests" "guarded_rests" (defArgs s_guarded_rests) (defBody s_guarded_rests) (defScope s_guarded_rests) .none kV13 dc13 pm13 an13 cd13 ct13), sl13⟩) (c13 : PySem.W.codeIn K cd13 "guarded_rests" = true) (k13 : PySem.W.keepIn K (.ref f13) = true)
    (a14 : PySem.W.nsIn K mainGlobals "check_rest" = some (some (.ref f14))) (l14 : K.lookup f14 = some ⟨oc14, od14, .func (PySem.W.fnOf "check_rest" "check_rest" (defArgs s_check_rest) (defBody s_check_rest) (defScope s_check_rest) .none kV14 dc14 pm14 an14 cd14 ct14), sl14⟩) (c14 : PySem.W.codeIn K cd14 "check_rest" = true) (k14 : PySem.W.keepIn K (.ref f14) = true)
    (a15 : PySem.W.nsIn K mainGlobals "check_rests" = some (some (.ref f15))) (l15 : K.lookup f15 = some ⟨oc15, od15, .func (PySem.W.fnOf "check_rests" "check_rests" (defArgs s_check_rests) (defBody s_check_rests) (defScope s_check_rests) .none kV15 dc15 pm15 an15 cd15 ct15), sl15⟩) (c15 : PySem.W.codeIn K cd15 "check_rests" = true) (k15 : PySem.W.keepIn K (.ref f15) = true)
    (a16 : PySem.W.nsIn K mainGlobals "check_whole" = some (some (.ref f16))) (l16 : K.lookup f16 = some ⟨oc16, od16, .func (PySem.W.fnOf "check_whole" "check_whole" (defArgs s_check_whole) (defBody s_check_whole) (defScope s_check_whole) .none kV16 dc16 pm16 an16 cd16 ct16), sl16⟩) (c16 : PySem.W.codeIn K cd16 "check_whole" = true) (k16 : PySem.W.keepIn K (.ref f16) = true)
    (a17 : PySem.W.nsIn K mainGlobals "check_width" = some (some (.ref f17))) (l17 : K.lookup f17 = some ⟨oc17, od17, .func (PySem.W.fnOf "check_width" "check_width" (defArgs s_check_width) (defBody s_check_width) (defScope s_check_width) .none kV17 dc17 pm17 an17 cd17 ct17), sl17⟩) (c17 : PySem.W.codeIn K cd17 "check_width" = true) (k17 : PySem.W.keepIn K (.ref f17) = true)
    (a18 : PySem.W.nsIn K mainGlobals "check_guard" = some (some (.ref f18))) (l18 : K.lookup f18 = some ⟨oc18, od18, .func (PySem.W.fnOf "check_guard" "check_guard" (defArgs s_check_guard) (defBody s_check_guard) (defScope s_check_guard) .none kV18 dc18 pm18 an18 cd18 ct18), sl18⟩) (c18 : PySem.W.codeIn K cd18 "check_guard" = true) (k18 : PySem.W.keepIn K (.ref f18) = true)
    (a19 : PySem.W.nsIn K mainGlobals "rest_holds" = some (some (.ref f19))) (l19 : K.lookup f19 = some ⟨oc19, od19, .func (PySem.W.fnOf "rest_holds" "rest_holds" (defArgs s_rest_holds) (defBody s_rest_holds) (defScope s_rest_holds) .none kV19 dc19 pm19 an19 cd19 ct19), sl19⟩) (c19 : PySem.W.codeIn K cd19 "rest_holds" = true) (k19 : PySem.W.keepIn K (.ref f19) = true)
    (a20 : PySem.W.nsIn K mainGlobals "rest_quotient" = some (some (.ref f20))) (l20 : K.lookup f20 = some ⟨oc20, od20, .func (PySem.W.fnOf "rest_quotient" "rest_quotient" (defArgs s_rest_quotient) (defBody s_rest_quotient) (defScope s_rest_quotient) .none kV20 dc20 pm20 an20 cd20 ct20), sl20⟩) (c20 : PySem.W.codeIn K cd20 "rest_quotient" = true) (k20 : PySem.W.keepIn K (.ref f20) = true)
    (a21 : PySem.W.nsIn K mainGlobals "rest_modulo" = some (some (.ref f21))) (l21 : K.lookup f21 = some ⟨oc21, od21, .func (PySem.W.fnOf "rest_modulo" "rest_modulo" (defArgs s_rest_modulo) (defBody s_rest_modulo) (defScope s_rest_modulo) .none kV21 dc21 pm21 an21 cd21 ct21), sl21⟩) (c21 : PySem.W.codeIn K cd21 "rest_modulo" = true) (k21 : PySem.W.keepIn K (.ref f21) = true)
    (a22 : PySem.W.nsIn K mainGlobals "rest_wrapped" = some (some (.ref f22))) (l22 : K.lookup f22 = some ⟨oc22, od22, .func (PySem.W.fnOf "rest_wrapped" "rest_wrapped" (defArgs s_rest_wrapped) (defBody s_rest_wrapped) (defScope s_rest_wrapped) .none kV22 dc22 pm22 an22 cd22 ct22), sl22⟩) (c22 : PySem.W.codeIn K cd22 "rest_wrapped" = true) (k22 : PySem.W.keepIn K (.ref f22) = true)
    (a23 : PySem.W.nsIn K mainGlobals "rest_guarded" = some (some (.ref f23))) (l23 : K.lookup f23 = some ⟨oc23, od23, .func (PySem.W.fnOf "rest_guarded" "rest_guarded" (defArgs s_rest_guarded) (defBody s_rest_guarded) (defScope s_rest_guarded) .none kV23 dc23 pm23 an23 cd23 ct23), sl23⟩) (c23 : PySem.W.codeIn K cd23 "rest_guarded" = true) (k23 : PySem.W.keepIn K (.ref f23) = true)
    (a24 : PySem.W.nsIn K mainGlobals "_law_source" = some (some (.ref f24))) (l24 : K.lookup f24 = some ⟨oc24, od24, .func (PySem.W.fnOf "_law_source" "_law_source" (defArgs s_source) (defBody s_source) (defScope s_source) .none kV24 dc24 pm24 an24 cd24 ct24), sl24⟩) (c24 : PySem.W.codeIn K cd24 "_law_source" = true) (k24 : PySem.W.keepIn K (.ref f24) = true)
    (a25 : PySem.W.nsIn K mainGlobals "_law_take" = some (some (.ref f25))) (l25 : K.lookup f25 = some ⟨oc25, od25, .func (PySem.W.fnOf "_law_take" "_law_take" (defArgs s_take) (defBody s_take) (defScope s_take) .none kV25 dc25 pm25 an25 cd25 ct25), sl25⟩) (c25 : PySem.W.codeIn K cd25 "_law_take" = true) (k25 : PySem.W.keepIn K (.ref f25) = true)
    (a26 : PySem.W.nsIn K mainGlobals "_law_pick" = some (some (.ref f26))) (l26 : K.lookup f26 = some ⟨oc26, od26, .func (PySem.W.fnOf "_law_pick" "_law_pick" (defArgs s_pick) (defBody s_pick) (defScope s_pick) .none kV26 dc26 pm26 an26 cd26 ct26), sl26⟩) (c26 : PySem.W.codeIn K cd26 "_law_pick" = true) (k26 : PySem.W.keepIn K (.ref f26) = true)
    (a27 : PySem.W.nsIn K mainGlobals "_law_great" = some (some (.ref f27))) (l27 : K.lookup f27 = some ⟨oc27, od27, .func (PySem.W.fnOf "_law_great" "_law_great" (defArgs s_great) (defBody s_great) (defScope s_great) .none kV27 dc27 pm27 an27 cd27 ct27), sl27⟩) (c27 : PySem.W.codeIn K cd27 "_law_great" = true) (k27 : PySem.W.keepIn K (.ref f27) = true)
    (a28 : PySem.W.nsIn K mainGlobals "_law_number" = some (some (.ref f28))) (l28 : K.lookup f28 = some ⟨oc28, od28, .func (PySem.W.fnOf "_law_number" "_law_number" (defArgs s_number) (defBody s_number) (defScope s_number) .none kV28 dc28 pm28 an28 cd28 ct28), sl28⟩) (c28 : PySem.W.codeIn K cd28 "_law_number" = true) (k28 : PySem.W.keepIn K (.ref f28) = true)
    (a29 : PySem.W.nsIn K mainGlobals "_law_part" = some (some (.ref f29))) (l29 : K.lookup f29 = some ⟨oc29, od29, .func (PySem.W.fnOf "_law_part" "_law_part" (defArgs s_part) (defBody s_part) (defScope s_part) .none kV29 dc29 pm29 an29 cd29 ct29), sl29⟩) (c29 : PySem.W.codeIn K cd29 "_law_part" = true) (k29 : PySem.W.keepIn K (.ref f29) = true)
    (a30 : PySem.W.nsIn K mainGlobals "_law_rest" = some (some (.ref f30))) (l30 : K.lookup f30 = some ⟨oc30, od30, .func (PySem.W.fnOf "_law_rest" "_law_rest" (defArgs s_rest) (defBody s_rest) (defScope s_rest) .none kV30 dc30 pm30 an30 cd30 ct30), sl30⟩) (c30 : PySem.W.codeIn K cd30 "_law_rest" = true) (k30 : PySem.W.keepIn K (.ref f30) = true)
    (a31 : PySem.W.nsIn K mainGlobals "_law_rest_near" = some (some (.ref f31))) (l31 : K.lookup f31 = some ⟨oc31, od31, .func (PySem.W.fnOf "_law_rest_near" "_law_rest_near" (defArgs s_rest_near) (defBody s_rest_near) (defScope s_rest_near) .none kV31 dc31 pm31 an31 cd31 ct31), sl31⟩) (c31 : PySem.W.codeIn K cd31 "_law_rest_near" = true) (k31 : PySem.W.keepIn K (.ref f31) = true)
    (a32 : PySem.W.nsIn K mainGlobals "_law_rest_some" = some (some (.ref f32))) (l32 : K.lookup f32 = some ⟨oc32, od32, .func (PySem.W.fnOf "_law_rest_some" "_law_rest_some" (defArgs s_rest_some) (defBody s_rest_some) (defScope s_rest_some) .none kV32 dc32 pm32 an32 cd32 ct32), sl32⟩) (c32 : PySem.W.codeIn K cd32 "_law_rest_some" = true) (k32 : PySem.W.keepIn K (.ref f32) = true)
    (a33 : PySem.W.nsIn K mainGlobals "_law_is_whole" = some (some (.ref f33))) (l33 : K.lookup f33 = some ⟨oc33, od33, .func (PySem.W.fnOf "_law_is_whole" "_law_is_whole" (defArgs s_lwhole) (defBody s_lwhole) (defScope s_lwhole) .none kV33 dc33 pm33 an33 cd33 ct33), sl33⟩) (c33 : PySem.W.codeIn K cd33 "_law_is_whole" = true) (k33 : PySem.W.keepIn K (.ref f33) = true)
    (a34 : PySem.W.nsIn K mainGlobals "_law_same" = some (some (.ref f34))) (l34 : K.lookup f34 = some ⟨oc34, od34, .func (PySem.W.fnOf "_law_same" "_law_same" (defArgs s_same) (defBody s_same) (defScope s_same) .none kV34 dc34 pm34 an34 cd34 ct34), sl34⟩) (c34 : PySem.W.codeIn K cd34 "_law_same" = true) (k34 : PySem.W.keepIn K (.ref f34) = true)
    (a35 : PySem.W.nsIn K mainGlobals "_law_rest_has" = some (some (.ref f35))) (l35 : K.lookup f35 = some ⟨oc35, od35, .func (PySem.W.fnOf "_law_rest_has" "_law_rest_has" (defArgs s_rest_has) (defBody s_rest_has) (defScope s_rest_has) .none kV35 dc35 pm35 an35 cd35 ct35), sl35⟩) (c35 : PySem.W.codeIn K cd35 "_law_rest_has" = true) (k35 : PySem.W.keepIn K (.ref f35) = true)
    (a36 : PySem.W.nsIn K mainGlobals "_law_common" = some (some (.ref f36))) (l36 : K.lookup f36 = some ⟨oc36, od36, .func (PySem.W.fnOf "_law_common" "_law_common" (defArgs s_common) (defBody s_common) (defScope s_common) .none kV36 dc36 pm36 an36 cd36 ct36), sl36⟩) (c36 : PySem.W.codeIn K cd36 "_law_common" = true) (k36 : PySem.W.keepIn K (.ref f36) = true)
    (a37 : PySem.W.nsIn K mainGlobals "_law_least" = some (some (.ref f37))) (l37 : K.lookup f37 = some ⟨oc37, od37, .func (PySem.W.fnOf "_law_least" "_law_least" (defArgs s_least) (defBody s_least) (defScope s_least) .none kV37 dc37 pm37 an37 cd37 ct37), sl37⟩) (c37 : PySem.W.codeIn K cd37 "_law_least" = true) (k37 : PySem.W.keepIn K (.ref f37) = true)
    (a38 : PySem.W.nsIn K mainGlobals "_law_rest_meet" = some (some (.ref f38))) (l38 : K.lookup f38 = some ⟨oc38, od38, .func (PySem.W.fnOf "_law_rest_meet" "_law_rest_meet" (defArgs s_rest_meet) (defBody s_rest_meet) (defScope s_rest_meet) .none kV38 dc38 pm38 an38 cd38 ct38), sl38⟩) (c38 : PySem.W.codeIn K cd38 "_law_rest_meet" = true) (k38 : PySem.W.keepIn K (.ref f38) = true)
    (a39 : PySem.W.nsIn K mainGlobals "_law_over" = some (some (.ref f39))) (l39 : K.lookup f39 = some ⟨oc39, od39, .func (PySem.W.fnOf "_law_over" "_law_over" (defArgs s_over) (defBody s_over) (defScope s_over) .none kV39 dc39 pm39 an39 cd39 ct39), sl39⟩) (c39 : PySem.W.codeIn K cd39 "_law_over" = true) (k39 : PySem.W.keepIn K (.ref f39) = true)
    (a40 : PySem.W.nsIn K mainGlobals "_law_left" = some (some (.ref f40))) (l40 : K.lookup f40 = some ⟨oc40, od40, .func (PySem.W.fnOf "_law_left" "_law_left" (defArgs s_left) (defBody s_left) (defScope s_left) .none kV40 dc40 pm40 an40 cd40 ct40), sl40⟩) (c40 : PySem.W.codeIn K cd40 "_law_left" = true) (k40 : PySem.W.keepIn K (.ref f40) = true)
    (a41 : PySem.W.nsIn K mainGlobals "_law_lets" = some (some (.ref f41))) (l41 : K.lookup f41 = some ⟨oc41, od41, .func (PySem.W.fnOf "_law_lets" "_law_lets" (defArgs s_lets) (defBody s_lets) (defScope s_lets) .none kV41 dc41 pm41 an41 cd41 ct41), sl41⟩) (c41 : PySem.W.codeIn K cd41 "_law_lets" = true) (k41 : PySem.W.keepIn K (.ref f41) = true)
    (a42 : PySem.W.nsIn K mainGlobals "_law_guarded" = some (some (.ref f42))) (l42 : K.lookup f42 = some ⟨oc42, od42, .func (PySem.W.fnOf "_law_guarded" "_law_guarded" (defArgs s_guarded) (defBody s_guarded) (defScope s_guarded) .none kV42 dc42 pm42 an42 cd42 ct42), sl42⟩) (c42 : PySem.W.codeIn K cd42 "_law_guarded" = true) (k42 : PySem.W.keepIn K (.ref f42) = true)
    (a43 : PySem.W.nsIn K mainGlobals "_law_beside" = some (some (.ref f43))) (l43 : K.lookup f43 = some ⟨oc43, od43, .func (PySem.W.fnOf "_law_beside" "_law_beside" (defArgs s_beside) (defBody s_beside) (defScope s_beside) .none kV43 dc43 pm43 an43 cd43 ct43), sl43⟩) (c43 : PySem.W.codeIn K cd43 "_law_beside" = true) (k43 : PySem.W.keepIn K (.ref f43) = true)
    (a44 : PySem.W.nsIn K mainGlobals "_law_two_right" = some (some (.ref f44))) (l44 : K.lookup f44 = some ⟨oc44, od44, .func (PySem.W.fnOf "_law_two_right" "_law_two_right" (defArgs s_two_right) (defBody s_two_right) (defScope s_two_right) .none kV44 dc44 pm44 an44 cd44 ct44), sl44⟩) (c44 : PySem.W.codeIn K cd44 "_law_two_right" = true) (k44 : PySem.W.keepIn K (.ref f44) = true)
    (a45 : PySem.W.nsIn K mainGlobals "_law_guards_right" = some (some (.ref f45))) (l45 : K.lookup f45 = some ⟨oc45, od45, .func (PySem.W.fnOf "_law_guards_right" "_law_guards_right" (defArgs s_guards_right) (defBody s_guards_right) (defScope s_guards_right) .none kV45 dc45 pm45 an45 cd45 ct45), sl45⟩) (c45 : PySem.W.codeIn K cd45 "_law_guards_right" = true) (k45 : PySem.W.keepIn K (.ref f45) = true)
    (a46 : PySem.W.nsIn K mainGlobals "_law_held_right" = some (some (.ref f46))) (l46 : K.lookup f46 = some ⟨oc46, od46, .func (PySem.W.fnOf "_law_held_right" "_law_held_right" (defArgs s_held_right) (defBody s_held_right) (defScope s_held_right) .none kV46 dc46 pm46 an46 cd46 ct46), sl46⟩) (c46 : PySem.W.codeIn K cd46 "_law_held_right" = true) (k46 : PySem.W.keepIn K (.ref f46) = true)
    (a47 : PySem.W.nsIn K mainGlobals "_law_wrapped_right" = some (some (.ref f47))) (l47 : K.lookup f47 = some ⟨oc47, od47, .func (PySem.W.fnOf "_law_wrapped_right" "_law_wrapped_right" (defArgs s_wrapped_right) (defBody s_wrapped_right) (defScope s_wrapped_right) .none kV47 dc47 pm47 an47 cd47 ct47), sl47⟩) (c47 : PySem.W.codeIn K cd47 "_law_wrapped_right" = true) (k47 : PySem.W.keepIn K (.ref f47) = true)
    (a48 : PySem.W.nsIn K mainGlobals "_law_right" = some (some (.ref f48))) (l48 : K.lookup f48 = some ⟨oc48, od48, .func (PySem.W.fnOf "_law_right" "_law_right" (defArgs s_right) (defBody s_right) (defScope s_right) .none kV48 dc48 pm48 an48 cd48 ct48), sl48⟩) (c48 : PySem.W.codeIn K cd48 "_law_right" = true) (k48 : PySem.W.keepIn K (.ref f48) = true)
    (a49 : PySem.W.nsIn K mainGlobals "law" = some (some (.ref f49))) (l49 : K.lookup f49 = some ⟨oc49, od49, .func (PySem.W.fnOf "law" "law" (defArgs s_law) (defBody s_law) (defScope s_law) .none kV49 dc49 pm49 an49 cd49 ct49), sl49⟩) (c49 : PySem.W.codeIn K cd49 "law" = true) (k49 : PySem.W.keepIn K (.ref f49) = true)
    (z_isinstance : PySem.W.nsIn K mainGlobals "isinstance" = some none)
    (z_int : PySem.W.nsIn K mainGlobals "int" = some none)
    (z_bool : PySem.W.nsIn K mainGlobals "bool" = some none)
    (z_tuple : PySem.W.nsIn K mainGlobals "tuple" = some none)
    (z_str : PySem.W.nsIn K mainGlobals "str" = some none)
    (z_len : PySem.W.nsIn K mainGlobals "len" = some none)
    (z_all : PySem.W.nsIn K mainGlobals "all" = some none)
    (z_zip : PySem.W.nsIn K mainGlobals "zip" = some none)
    (z_abs : PySem.W.nsIn K mainGlobals "abs" = some none)
    (z_divmod : PySem.W.nsIn K mainGlobals "divmod" = some none)
    (z_range : PySem.W.nsIn K mainGlobals "range" = some none)
    (z_max : PySem.W.nsIn K mainGlobals "max" = some none)
    (z_min : PySem.W.nsIn K mainGlobals "min" = some none)
    {aE aA aG : Addr} {dE dA dG : Option Addr} {nE nA nG : Nat} {sE sA sG : Array (Option Value)} {t0 t1 t2 t3 t4 t5 t6 t7 : Tok}
    (xE : PySem.W.nsIn K mainGlobals "EMPTY" = some (some (.ref aE))) (yE : K.lookup aE = some ⟨.type "tuple", dE, .seq #[] nE, sE⟩)
    (xA : PySem.W.nsIn K mainGlobals "ALL" = some (some (.ref aA))) (yA : K.lookup aA = some ⟨.type "tuple", dA, .seq #[.int 0 t0, .int 1 t1] nA, sA⟩)
    (xG : PySem.W.nsIn K mainGlobals "GUARDS" = some (some (.ref aG))) (yG : K.lookup aG = some ⟨.type "tuple", dG, .seq #[.str "<" t2, .str "<=" t3, .str "==" t4, .str "!=" t5] nG, sG⟩)
    (xN : PySem.W.nsIn K mainGlobals "GRAIN" = some (some (.int 20160 t6))) (xW : PySem.W.nsIn K mainGlobals "MOST_WIDTH" = some (some (.int 16 t7)))
    (xg : PySem.W.nsIn K mainGlobals "gcd" = some (some (.builtin "math.gcd"))) (xl : PySem.W.nsIn K mainGlobals "lcm" = some (some (.builtin "math.lcm"))) :
    ∃ fd : FuncData, (∀ (s : Shared) (v : Value), BindsTo s fd ⟨[v], []⟩ [("_law_script", v)]) ∧ ∀ base : Heap, K.In base → base.Ns mainGlobals mg → FnOk l.prog w K mg base CX0 9 fa fd ["_law_script"] (sp_law K) := by
  have e := hfa.symm.trans (PySem.W.mg_of X G a49)
  cases e
  have F0 := fun_mk (st := s_is_whole) l0 c0 k0
  have F1 := fun_mk (st := s_is_between) l1 c1 k1
  have F2 := fun_mk (st := s_are_wholes) l2 c2 k2
  have F3 := fun_mk (st := s_is_rested) l3 c3 k3
  have F4 := fun_mk (st := s_rest_by) l4 c4 k4
  have F5 := fun_mk (st := s_is_multiple) l5 c5 k5
  have F6 := fun_mk (st := s_is_left) l6 c6 k6
  have F7 := fun_mk (st := s_number_with) l7 c7 k7
  have F8 := fun_mk (st := s_met_rest) l8 c8 k8
  have F9 := fun_mk (st := s_is_only_nought) l9 c9 k9
  have F10 := fun_mk (st := s_quotient_rest) l10 c10 k10
  have F11 := fun_mk (st := s_modulo_rest) l11 c11 k11
  have F12 := fun_mk (st := s_wrapped_rest) l12 c12 k12
  have F13 := fun_mk (st := s_guarded_rests) l13 c13 k13
  have F14 := fun_mk (st := s_check_rest) l14 c14 k14
  have F15 := fun_mk (st := s_check_rests) l15 c15 k15
  have F16 := fun_mk (st := s_check_whole) l16 c16 k16
  have F17 := fun_mk (st := s_check_width) l17 c17 k17
  have F18 := fun_mk (st := s_check_guard) l18 c18 k18
  have F19 := fun_mk (st := s_rest_holds) l19 c19 k19
  have F20 := fun_mk (st := s_rest_quotient) l20 c20 k20
  have F21 := fun_mk (st := s_rest_modulo) l21 c21 k21
  have F22 := fun_mk (st := s_rest_wrapped) l22 c22 k22
  have F23 := fun_mk (st := s_rest_guarded) l23 c23 k23
  have F24 := fun_mk (st := s_source) l24 c24 k24
  have F25 := fun_mk (st := s_take) l25 c25 k25
  have F26 := fun_mk (st := s_pick) l26 c26 k26
  have F27 := fun_mk (st := s_great) l27 c27 k27
  have F28 := fun_mk (st := s_number) l28 c28 k28
  have F29 := fun_mk (st := s_part) l29 c29 k29
  have F30 := fun_mk (st := s_rest) l30 c30 k30
  have F31 := fun_mk (st := s_rest_near) l31 c31 k31
  have F32 := fun_mk (st := s_rest_some) l32 c32 k32
  have F33 := fun_mk (st := s_lwhole) l33 c33 k33
  have F34 := fun_mk (st := s_same) l34 c34 k34
  have F35 := fun_mk (st := s_rest_has) l35 c35 k35
  have F36 := fun_mk (st := s_common) l36 c36 k36
  have F37 := fun_mk (st := s_least) l37 c37 k37
  have F38 := fun_mk (st := s_rest_meet) l38 c38 k38
  have F39 := fun_mk (st := s_over) l39 c39 k39
  have F40 := fun_mk (st := s_left) l40 c40 k40
  have F41 := fun_mk (st := s_lets) l41 c41 k41
  have F42 := fun_mk (st := s_guarded) l42 c42 k42
  have F43 := fun_mk (st := s_beside) l43 c43 k43
  have F44 := fun_mk (st := s_two_right) l44 c44 k44
  have F45 := fun_mk (st := s_guards_right) l45 c45 k45
  have F46 := fun_mk (st := s_held_right) l46 c46 k46
  have F47 := fun_mk (st := s_wrapped_right) l47 c47 k47
  have F48 := fun_mk (st := s_right) l48 c48 k48
  have F49 := fun_mk (st := s_law) l49 c49 k49
  have T : Tx K mg := {
    bl := ⟨PySem.W.mg_none_of X G z_isinstance, PySem.W.mg_none_of X G z_int, PySem.W.mg_none_of X G z_bool, PySem.W.mg_none_of X G z_tuple, PySem.W.mg_none_of X G z_str, PySem.W.mg_none_of X G z_len, PySem.W.mg_none_of X G z_all, PySem.W.mg_none_of X G z_zip, PySem.W.mg_none_of X G z_abs, PySem.W.mg_none_of X G z_divmod, PySem.W.mg_none_of X G z_range, PySem.W.mg_none_of X G z_max, PySem.W.mg_none_of X G z_min⟩
    cn := ⟨⟨aE, PySem.W.mg_of X G xE, fun H => .inr ⟨_, _, _, yE, rfl, rfl, Nat.zero_le _, .nil⟩⟩, ⟨aA, PySem.W.mg_of X G xA, fun H => .inr ⟨_, _, _, yA, rfl, rfl, le2, .cons ⟨_, rfl⟩ (.cons ⟨_, rfl⟩ .nil)⟩⟩, ⟨aG, PySem.W.mg_of X G xG, fun H => .inr ⟨_, _, _, yG, rfl, rfl, le4, .cons ⟨_, rfl⟩ (.cons ⟨_, rfl⟩ (.cons ⟨_, rfl⟩ (.cons ⟨_, rfl⟩ .nil)))⟩⟩, ⟨t6, PySem.W.mg_of X G xN⟩, ⟨t7, PySem.W.mg_of X G xW⟩, PySem.W.mg_of X G xg, PySem.W.mg_of X G xl⟩
    is_whole := df_of X G F0 a0 (fun _ _ _ _ _ _ us hl => match us, hl with | [_], _ => rfl)
    is_between := df_of X G F1 a1 (fun _ _ _ _ _ _ us hl => match us, hl with | [_, _, _], _ => rfl)
    are_wholes := df_of X G F2 a2 (fun _ _ _ _ _ _ us hl => match us, hl with | [_, _], _ => rfl)
    is_rested := df_of X G F3 a3 (fun _ _ _ _ _ _ us hl => match us, hl with | [_], _ => rfl)
    rest_by := df_of X G F4 a4 (fun _ _ _ _ _ _ us hl => match us, hl with | [_, _], _ => rfl)
    is_multiple := df_of X G F5 a5 (fun _ _ _ _ _ _ us hl => match us, hl with | [_, _], _ => rfl)
    is_left := df_of X G F6 a6 (fun _ _ _ _ _ _ us hl => match us, hl with | [_, _], _ => rfl)
    number_with := df_of X G F7 a7 (fun _ _ _ _ _ _ us hl => match us, hl with | [_, _], _ => rfl)
    met_rest := df_of X G F8 a8 (fun _ _ _ _ _ _ us hl => match us, hl with | [_, _], _ => rfl)
    is_only_nought := df_of X G F9 a9 (fun _ _ _ _ _ _ us hl => match us, hl with | [_], _ => rfl)
    quotient_rest := df_of X G F10 a10 (fun _ _ _ _ _ _ us hl => match us, hl with | [_, _], _ => rfl)
    modulo_rest := df_of X G F11 a11 (fun _ _ _ _ _ _ us hl => match us, hl with | [_, _], _ => rfl)
    wrapped_rest := df_of X G F12 a12 (fun _ _ _ _ _ _ us hl => match us, hl with | [_, _], _ => rfl)
    guarded_rests := df_of X G F13 a13 (fun _ _ _ _ _ _ us hl => match us, hl with | [_, _, _], _ => rfl)
    check_rest := df_of X G F14 a14 (fun _ _ _ _ _ _ us hl => match us, hl with | [_], _ => rfl)
    check_rests := df_of X G F15 a15 (fun _ _ _ _ _ _ us hl => match us, hl with | [_, _], _ => rfl)
    check_whole := df_of X G F16 a16 (fun _ _ _ _ _ _ us hl => match us, hl with | [_], _ => rfl)
    check_width := df_of X G F17 a17 (fun _ _ _ _ _ _ us hl => match us, hl with | [_], _ => rfl)
    check_guard := df_of X G F18 a18 (fun _ _ _ _ _ _ us hl => match us, hl with | [_], _ => rfl)
    rest_holds := df_of X G F19 a19 (fun _ _ _ _ _ _ us hl => match us, hl with | [_, _], _ => rfl)
    rest_quotient := ⟨_, _, F20, PySem.W.mg_of X G a20, F20.binds (fun _ _ _ _ _ _ us hl => match us, hl with | [_, _], _ => rfl), kbn2 F20 (fun _ _ _ _ _ _ _ _ => rfl)⟩
    rest_modulo := ⟨_, _, F21, PySem.W.mg_of X G a21, F21.binds (fun _ _ _ _ _ _ us hl => match us, hl with | [_, _], _ => rfl), kbn2 F21 (fun _ _ _ _ _ _ _ _ => rfl)⟩
    rest_wrapped := ⟨_, _, F22, PySem.W.mg_of X G a22, F22.binds (fun _ _ _ _ _ _ us hl => match us, hl with | [_, _], _ => rfl), kbn2 F22 (fun _ _ _ _ _ _ _ _ => rfl)⟩
    rest_guarded := ⟨_, _, F23, PySem.W.mg_of X G a23, F23.binds (fun _ _ _ _ _ _ us hl => match us, hl with | [_, _, _], _ => rfl), kbn3 F23 (fun _ _ _ _ _ _ _ _ _ => rfl)⟩
    source := df_of X G F24 a24 (fun _ _ _ _ _ _ us hl => match us, hl with | [_, _], _ => rfl)
    take := df_of X G F25 a25 (fun _ _ _ _ _ _ us hl => match us, hl with | [_, _], _ => rfl)
    pick := df_of X G F26 a26 (fun _ _ _ _ _ _ us hl => match us, hl with | [_, _], _ => rfl)
    great := df_of X G F27 a27 (fun _ _ _ _ _ _ us hl => match us, hl with | [_], _ => rfl)
    number := df_of X G F28 a28 (fun _ _ _ _ _ _ us hl => match us, hl with | [_], _ => rfl)
    part := df_of X G F29 a29 (fun _ _ _ _ _ _ us hl => match us, hl with | [_], _ => rfl)
    rest := df_of X G F30 a30 (fun _ _ _ _ _ _ us hl => match us, hl with | [_], _ => rfl)
    rest_near := df_of X G F31 a31 (fun _ _ _ _ _ _ us hl => match us, hl with | [_, _], _ => rfl)
    rest_some := df_of X G F32 a32 (fun _ _ _ _ _ _ us hl => match us, hl with | [_, _], _ => rfl)
    lwhole := df_of X G F33 a33 (fun _ _ _ _ _ _ us hl => match us, hl with | [_], _ => rfl)
    same := df_of X G F34 a34 (fun _ _ _ _ _ _ us hl => match us, hl with | [_, _], _ => rfl)
    rest_has := df_of X G F35 a35 (fun _ _ _ _ _ _ us hl => match us, hl with | [_, _], _ => rfl)
    common := df_of X G F36 a36 (fun _ _ _ _ _ _ us hl => match us, hl with | [_, _], _ => rfl)
    least := df_of X G F37 a37 (fun _ _ _ _ _ _ us hl => match us, hl with | [_], _ => rfl)
    rest_meet := df_of X G F38 a38 (fun _ _ _ _ _ _ us hl => match us, hl with | [_, _], _ => rfl)
    over := df_of X G F39 a39 (fun _ _ _ _ _ _ us hl => match us, hl with | [_, _], _ => rfl)
    left := df_of X G F40 a40 (fun _ _ _ _ _ _ us hl => match us, hl with | [_, _], _ => rfl)
    lets := df_of X G F41 a41 (fun _ _ _ _ _ _ us hl => match us, hl with | [_, _, _], _ => rfl)
    guarded := df_of X G F42 a42 (fun _ _ _ _ _ _ us hl => match us, hl with | [_, _, _], _ => rfl)
    beside := df_of X G F43 a43 (fun _ _ _ _ _ _ us hl => match us, hl with | [_, _], _ => rfl)
    two_right := df_of X G F44 a44 (fun _ _ _ _ _ _ us hl => match us, hl with | [_, _], _ => rfl)
    guards_right := df_of X G F45 a45 (fun _ _ _ _ _ _ us hl => match us, hl with | [_, _, _], _ => rfl)
    held_right := df_of X G F46 a46 (fun _ _ _ _ _ _ us hl => match us, hl with | [_, _, _, _], _ => rfl)
    wrapped_right := df_of X G F47 a47 (fun _ _ _ _ _ _ us hl => match us, hl with | [_, _, _], _ => rfl)
    right := df_of X G F48 a48 (fun _ _ _ _ _ _ us hl => match us, hl with | [_], _ => rfl)
  }
  exact ⟨PySem.W.fnOf "law" "law" (defArgs s_law) (defBody s_law) (defScope s_law) .none kV49 dc49 pm49 an49 cd49 ct49, fun s v => .of_eq rfl, fun base _ _ => ok_all T F49⟩
end K32

open PySem PySem.W PyProof.Rows
set_option maxRecDepth 100000 in
set_option maxHeartbeats 0 in
theorem PySem.Challenge.cw_soundlooks_k32_whole_quotients_modulo_gu_holds : PySem.Challenge.rw_soundlooks_k32_whole_quotients_modulo_gu.Holds := by
  w_on; o_law; k_head; (case hw => w_witness2)
  k_fill
  refine L2.walk_of (l := PySem.Challenge.rw_soundlooks_k32_whole_quotients_modulo_gu) (n := 63) (k := 9) (x := "_law_script") (CX := fun _ => L2.CX0) (sp := fun w => K32.sp_law _) rfl (by decide) rfl ⟨rfl, by decide, by decide⟩ (fun w h Y => PySem.W.kIn_of Y) ?F (fun _ _ a ns hl _ hS => ⟨a, ns, rfl, hS, hl, fun _ => rfl⟩) (fun _ _ _ _ _ h => h)
  case F =>
    intro w mg fa h KX G hmg
    refine' K32.all_mk KX G hmg ?a0 ?l0 ?c0 ?k0 ?a1 ?l1 ?c1 ?k1 ?a2 ?l2 ?c2 ?k2 ?a3 ?l3 ?c3 ?k3 ?a4 ?l4 ?c4 ?k4 ?a5 ?l5 ?c5 ?k5 ?a6 ?l6 ?c6 ?k6 ?a7 ?l7 ?c7 ?k7 ?a8 ?l8 ?c8 ?k8 ?a9 ?l9 ?c9 ?k9 ?a10 ?l10 ?c10 ?k10 ?a11 ?l11 ?c11 ?k11 ?a12 ?l12 ?c12 ?k12 ?a13 ?l13 ?c13 ?k13 ?a14 ?l14 ?c14 ?k14 ?a15 ?l15 ?c15 ?k15 ?a16 ?l16 ?c16 ?k16 ?a17 ?l17 ?c17 ?k17 ?a18 ?l18 ?c18 ?k18 ?a19 ?l19 ?c19 ?k19 ?a20 ?l20 ?c20 ?k20 ?a21 ?l21 ?c21 ?k21 ?a22 ?l22 ?c22 ?k22 ?a23 ?l23 ?c23 ?k23 ?a24 ?l24 ?c24 ?k24 ?a25 ?l25 ?c25 ?k25 ?a26 ?l26 ?c26 ?k26 ?a27 ?l27 ?c27 ?k27 ?a28 ?l28 ?c28 ?k28 ?a29 ?l29 ?c29 ?k29 ?a30 ?l30 ?c30 ?k30 ?a31 ?l31 ?c31 ?k31 ?a32 ?l32 ?c32 ?k32 ?a33 ?l33 ?c33 ?k33 ?a34 ?l34 ?c34 ?k34 ?a35 ?l35 ?c35 ?k35 ?a36 ?l36 ?c36 ?k36 ?a37 ?l37 ?c37 ?k37 ?a38 ?l38 ?c38 ?k38 ?a39 ?l39 ?c39 ?k39 ?a40 ?l40 ?c40 ?k40 ?a41 ?l41 ?c41 ?k41 ?a42 ?l42 ?c42 ?k42 ?a43 ?l43 ?c43 ?k43 ?a44 ?l44 ?c44 ?k44 ?a45 ?l45 ?c45 ?k45 ?a46 ?l46 ?c46 ?k46 ?a47 ?l47 ?c47 ?k47 ?a48 ?l48 ?c48 ?k48 ?a49 ?l49 ?c49 ?k49 ?z_isinstance ?z_int ?z_bool ?z_tuple ?z_str ?z_len ?z_all ?z_zip ?z_abs ?z_divmod ?z_range ?z_max ?z_min ?xE ?yE ?xA ?yA ?xG ?yG ?xN ?xW ?xg ?xl
    (case a0 => k_is)
    (case l0 => k_is)
    (case c0 => k_is)
    (case k0 => k_is)
    (case a1 => k_is)
    (case l1 => k_is)
    (case c1 => k_is)
    (case k1 => k_is)
    (case a2 => k_is)
    (case l2 => k_is)
    (case c2 => k_is)
    (case k2 => k_is)
    (case a3 => k_is)
    (case l3 => k_is)
    (case c3 => k_is)
    (case k3 => k_is)
    (case a4 => k_is)
    (case l4 => k_is)
    (case c4 => k_is)
    (case k4 => k_is)
    (case a5 => k_is)
    (case l5 => k_is)
    (case c5 => k_is)
    (case k5 => k_is)
    (case a6 => k_is)
    (case l6 => k_is)
    (case c6 => k_is)
    (case k6 => k_is)
    (case a7 => k_is)
    (case l7 => k_is)
    (case c7 => k_is)
    (case k7 => k_is)
    (case a8 => k_is)
    (case l8 => k_is)
    (case c8 => k_is)
    (case k8 => k_is)
    (case a9 => k_is)
    (case l9 => k_is)
    (case c9 => k_is)
    (case k9 => k_is)
    (case a10 => k_is)
    (case l10 => k_is)
    (case c10 => k_is)
    (case k10 => k_is)
    (case a11 => k_is)
    (case l11 => k_is)
    (case c11 => k_is)
    (case k11 => k_is)
    (case a12 => k_is)
    (case l12 => k_is)
    (case c12 => k_is)
    (case k12 => k_is)
    (case a13 => k_is)
    (case l13 => k_is)
    (case c13 => k_is)
    (case k13 => k_is)
    (case a14 => k_is)
    (case l14 => k_is)
    (case c14 => k_is)
    (case k14 => k_is)
    (case a15 => k_is)
    (case l15 => k_is)
    (case c15 => k_is)
    (case k15 => k_is)
    (case a16 => k_is)
    (case l16 => k_is)
    (case c16 => k_is)
    (case k16 => k_is)
    (case a17 => k_is)
    (case l17 => k_is)
    (case c17 => k_is)
    (case k17 => k_is)
    (case a18 => k_is)
    (case l18 => k_is)
    (case c18 => k_is)
    (case k18 => k_is)
    (case a19 => k_is)
    (case l19 => k_is)
    (case c19 => k_is)
    (case k19 => k_is)
    (case a20 => k_is)
    (case l20 => k_is)
    (case c20 => k_is)
    (case k20 => k_is)
    (case a21 => k_is)
    (case l21 => k_is)
    (case c21 => k_is)
    (case k21 => k_is)
    (case a22 => k_is)
    (case l22 => k_is)
    (case c22 => k_is)
    (case k22 => k_is)
    (case a23 => k_is)
    (case l23 => k_is)
    (case c23 => k_is)
    (case k23 => k_is)
    (case a24 => k_is)
    (case l24 => k_is)
    (case c24 => k_is)
    (case k24 => k_is)
    (case a25 => k_is)
    (case l25 => k_is)
    (case c25 => k_is)
    (case k25 => k_is)
    (case a26 => k_is)
    (case l26 => k_is)
    (case c26 => k_is)
    (case k26 => k_is)
    (case a27 => k_is)
    (case l27 => k_is)
    (case c27 => k_is)
    (case k27 => k_is)
    (case a28 => k_is)
    (case l28 => k_is)
    (case c28 => k_is)
    (case k28 => k_is)
    (case a29 => k_is)
    (case l29 => k_is)
    (case c29 => k_is)
    (case k29 => k_is)
    (case a30 => k_is)
    (case l30 => k_is)
    (case c30 => k_is)
    (case k30 => k_is)
    (case a31 => k_is)
    (case l31 => k_is)
    (case c31 => k_is)
    (case k31 => k_is)
    (case a32 => k_is)
    (case l32 => k_is)
    (case c32 => k_is)
    (case k32 => k_is)
    (case a33 => k_is)
    (case l33 => k_is)
    (case c33 => k_is)
    (case k33 => k_is)
    (case a34 => k_is)
    (case l34 => k_is)
    (case c34 => k_is)
    (case k34 => k_is)
    (case a35 => k_is)
    (case l35 => k_is)
    (case c35 => k_is)
    (case k35 => k_is)
    (case a36 => k_is)
    (case l36 => k_is)
    (case c36 => k_is)
    (case k36 => k_is)
    (case a37 => k_is)
    (case l37 => k_is)
    (case c37 => k_is)
    (case k37 => k_is)
    (case a38 => k_is)
    (case l38 => k_is)
    (case c38 => k_is)
    (case k38 => k_is)
    (case a39 => k_is)
    (case l39 => k_is)
    (case c39 => k_is)
    (case k39 => k_is)
    (case a40 => k_is)
    (case l40 => k_is)
    (case c40 => k_is)
    (case k40 => k_is)
    (case a41 => k_is)
    (case l41 => k_is)
    (case c41 => k_is)
    (case k41 => k_is)
    (case a42 => k_is)
    (case l42 => k_is)
    (case c42 => k_is)
    (case k42 => k_is)
    (case a43 => k_is)
    (case l43 => k_is)
    (case c43 => k_is)
    (case k43 => k_is)
    (case a44 => k_is)
    (case l44 => k_is)
    (case c44 => k_is)
    (case k44 => k_is)
    (case a45 => k_is)
    (case l45 => k_is)
    (case c45 => k_is)
    (case k45 => k_is)
    (case a46 => k_is)
    (case l46 => k_is)
    (case c46 => k_is)
    (case k46 => k_is)
    (case a47 => k_is)
    (case l47 => k_is)
    (case c47 => k_is)
    (case k47 => k_is)
    (case a48 => k_is)
    (case l48 => k_is)
    (case c48 => k_is)
    (case k48 => k_is)
    (case a49 => k_is)
    (case l49 => k_is)
    (case c49 => k_is)
    (case k49 => k_is)
    (case z_isinstance => k_is)
    (case z_int => k_is)
    (case z_bool => k_is)
    (case z_tuple => k_is)
    (case z_str => k_is)
    (case z_len => k_is)
    (case z_all => k_is)
    (case z_zip => k_is)
    (case z_abs => k_is)
    (case z_divmod => k_is)
    (case z_range => k_is)
    (case z_max => k_is)
    (case z_min => k_is)
    (case xE => k_is)
    (case yE => k_is)
    (case xA => k_is)
    (case yA => k_is)
    (case xG => k_is)
    (case yG => k_is)
    (case xN => k_is)
    (case xW => k_is)
    (case xg => k_is)
    (case xl => k_is)
