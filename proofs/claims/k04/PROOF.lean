import PyProof.Rows.All
import Wide.All
import OpenK.AllK
import Wide.FinOn
import HandS.ForMost
import HandS.EndBits
import HandS.Evl
import HandS.IsInst
import HandS.WideBits
import HandS.Style
import PySem.Challenge.RW_glassfall_k04_whole_answers
set_option Elab.async false
set_option linter.all false
set_option maxRecDepth 100000
set_option maxHeartbeats 4000000
namespace GF
/-- ways to pick k of n -/
def bin : Nat → Nat → Nat
  | _, 0 => 1
  | 0, _ + 1 => 0
  | n + 1, k + 1 => bin n k + bin n (k + 1)
def fact : Nat → Nat
  | 0 => 1
  | k + 1 => fact k * (k + 1)
/-- how many storeys t tries and g glasses find -/
def R (t : Nat) : Nat → Nat
  | 0 => 0
  | g + 1 => R t g + bin t (g + 1)
theorem bin_zero (n : Nat) : bin n 0 = 1 := by cases n <;> rfl
theorem bin_lt : ∀ {n k : Nat}, n < k → bin n k = 0
  | _, 0, h => absurd h (Nat.not_lt_zero _)
  | 0, _ + 1, _ => rfl
  | n + 1, k + 1, h => by
    show bin n k + bin n (k + 1) = 0
    rw [bin_lt (show n < k by omega), bin_lt (show n < k + 1 by omega)]
theorem bin_succ_mul : ∀ (n k : Nat), (n + 1) * bin n k = bin (n + 1) (k + 1) * (k + 1)
  | 0, 0 => rfl
  | 0, k + 1 => by
    show (0 + 1) * 0 = (bin 0 (k + 1) + bin 0 (k + 2)) * (k + 1 + 1)
    rw [bin_lt (show 0 < k + 1 by omega), bin_lt (show 0 < k + 2 by omega)]
    simp
  | n + 1, 0 => by
    have h : (n + 1) * bin n 0 = bin (n + 1) 1 * 1 := bin_succ_mul n 0
    rw [bin_zero] at h
    show (n + 1 + 1) * bin (n + 1) 0 = (bin (n + 1) 0 + bin (n + 1) 1) * (0 + 1)
    rw [bin_zero]
    omega
  | n + 1, k + 1 => by
    have h1 := bin_succ_mul n k
    have h2 := bin_succ_mul n (k + 1)
    have e : bin (n + 1 + 1) (k + 1 + 1) = bin (n + 1) (k + 1) + bin (n + 1) (k + 1 + 1) := rfl
    have e2 : bin (n + 1) (k + 1) = bin n k + bin n (k + 1) := rfl
    rw [e, Nat.add_mul (bin (n + 1) (k + 1)), ← h2, Nat.add_mul (n + 1) 1, Nat.mul_add (bin (n + 1) (k + 1)) (k + 1) 1, ← h1, Nat.one_mul, Nat.mul_one]
    have e3 : (n + 1) * bin (n + 1) (k + 1) = (n + 1) * bin n k + (n + 1) * bin n (k + 1) := by rw [e2, Nat.mul_add]
    omega
theorem bin_mul (n k : Nat) : bin n (k + 1) * (k + 1) = bin n k * (n - k) := by
  by_cases h : n < k
  · rw [bin_lt h, bin_lt (show n < k + 1 by omega)]
    simp
  · have h1 := bin_succ_mul n k
    have e : bin (n + 1) (k + 1) = bin n k + bin n (k + 1) := rfl
    rw [e, Nat.add_mul (bin n k)] at h1
    have e2 : n + 1 = (n - k) + (k + 1) := by omega
    have e3 : (n + 1) * bin n k = bin n k * (n - k) + bin n k * (k + 1) := by
      rw [Nat.mul_comm, ← Nat.mul_add, ← e2]
    omega
theorem bin_div (n k : Nat) : bin n k * (n - k) / (k + 1) = bin n (k + 1) := by
  rw [← bin_mul]
  exact Nat.mul_div_cancel _ (Nat.succ_pos k)
theorem fact_pos : ∀ k, 0 < fact k
  | 0 => Nat.one_pos
  | k + 1 => Nat.mul_pos (fact_pos k) (Nat.succ_pos k)
theorem above_step (t k : Nat) : bin t k * fact k * (t - k) = bin t (k + 1) * fact (k + 1) := by
  show _ = bin t (k + 1) * (fact k * (k + 1))
  rw [Nat.mul_right_comm, ← bin_mul, Nat.mul_right_comm, Nat.mul_assoc]
theorem above_div (t k : Nat) : bin t k * fact k / fact k = bin t k := Nat.mul_div_cancel _ (fact_pos k)
theorem above_le : ∀ (t k : Nat), bin t k * fact k ≤ t ^ k
  | t, 0 => by rw [bin_zero]; exact Nat.le_refl _
  | t, k + 1 => by
    rw [← above_step, Nat.pow_succ]
    exact Nat.mul_le_mul (above_le t k) (Nat.sub_le _ _)
theorem bin_le (t k : Nat) : bin t k ≤ t ^ k := Nat.le_trans (Nat.le_mul_of_pos_right _ (fact_pos k)) (above_le t k)
theorem fact_le : ∀ (k m : Nat), k ≤ m → fact k ≤ m ^ k
  | 0, _, _ => Nat.le_refl _
  | k + 1, m, h => by
    rw [Nat.pow_succ]
    exact Nat.mul_le_mul (fact_le k m (by omega)) h
theorem pow_bits {t k b : Nat} (h : t < 2 ^ b) : t ^ k < 2 ^ (b * k + 1) := by
  have h1 : t ^ k ≤ (2 ^ b) ^ k := Nat.pow_le_pow_left (Nat.le_of_lt h) k
  rw [← Nat.pow_mul] at h1
  exact Nat.lt_of_le_of_lt h1 (Nat.pow_lt_pow_right (by decide) (Nat.lt_succ_self _))
theorem bits_mono {n a b : Nat} (h : n < 2 ^ a) (hab : a ≤ b) : n < 2 ^ b := Nat.lt_of_lt_of_le h (Nat.pow_le_pow_right (by decide) hab)
/-- bounds in bits, by name so that nothing reckons the powers -/
def BB : Nat := 110000
def BF : Nat := 3601
theorem bin_bits {t k : Nat} (h : t < 2 ^ 256) (hk : k ≤ 400) : bin t k < 2 ^ BB :=
  bits_mono (Nat.lt_of_le_of_lt (bin_le t k) (pow_bits h)) (show 256 * k + 1 ≤ 110000 by omega)
theorem above_bits {t k : Nat} (h : t < 2 ^ 256) (hk : k ≤ 400) : bin t k * fact k < 2 ^ BB :=
  bits_mono (Nat.lt_of_le_of_lt (above_le t k) (pow_bits h)) (show 256 * k + 1 ≤ 110000 by omega)
theorem fact_bits {k : Nat} (hk : k ≤ 400) : fact k < 2 ^ BF := by
  have h : fact k ≤ 400 ^ k := fact_le k 400 hk
  exact bits_mono (Nat.lt_of_le_of_lt h (pow_bits (b := 9) (by decide))) (show 9 * k + 1 ≤ 3601 by omega)
/-! ### R -/
theorem R_zero_t : ∀ g, R 0 g = 0
  | 0 => rfl
  | g + 1 => by
    show R 0 g + bin 0 (g + 1) = 0
    rw [R_zero_t g]
    rfl
theorem R_one (t : Nat) : R t 1 = t := by
  show 0 + bin t 1 = t
  rw [Nat.zero_add]
  have h : bin t 1 * 1 = bin t 0 * (t - 0) := bin_mul t 0
  rw [bin_zero] at h
  omega
theorem R_pascal (t : Nat) : ∀ g, R (t + 1) (g + 1) = R t g + 1 + R t (g + 1)
  | 0 => by
    show 0 + (bin t 0 + bin t 1) = 0 + 1 + (0 + bin t 1)
    rw [bin_zero]
    omega
  | g + 1 => by
    have h := R_pascal t g
    have e1 : R (t + 1) (g + 1 + 1) = R (t + 1) (g + 1) + (bin t (g + 1) + bin t (g + 1 + 1)) := rfl
    have e2 : R t (g + 1 + 1) = R t (g + 1) + bin t (g + 1 + 1) := rfl
    have e3 : R t (g + 1) = R t g + bin t (g + 1) := rfl
    omega
theorem R_succ_g (t g : Nat) : R t g ≤ R t (g + 1) := Nat.le_add_right _ _
theorem R_mono_g (t : Nat) {g h : Nat} (l : g ≤ h) : R t g ≤ R t h := by
  induction h with
  | zero =>
    have : g = 0 := by omega
    subst this
    exact Nat.le_refl _
  | succ h ih =>
    by_cases e : g = h + 1
    · subst e
      exact Nat.le_refl _
    · exact Nat.le_trans (ih (by omega)) (R_succ_g t h)
theorem R_succ_t (t : Nat) : ∀ g, R t g ≤ R (t + 1) g
  | 0 => Nat.le_refl _
  | g + 1 => by
    rw [R_pascal]
    omega
theorem R_lt_t (t g : Nat) (h : 0 < g) : R t g < R (t + 1) g := by
  obtain ⟨k, rfl⟩ : ∃ k, g = k + 1 := ⟨g - 1, by omega⟩
  rw [R_pascal]
  omega
theorem R_mono_t {t u : Nat} (g : Nat) (l : t ≤ u) : R t g ≤ R u g := by
  induction u with
  | zero =>
    have : t = 0 := by omega
    subst this
    exact Nat.le_refl _
  | succ u ih =>
    by_cases e : t = u + 1
    · subst e
      exact Nat.le_refl _
    · exact Nat.le_trans (ih (by omega)) (R_succ_t u g)
theorem R_over (t : Nat) : ∀ {g : Nat}, t ≤ g → R t g = R t t
  | 0, h => by
    have : t = 0 := by omega
    subst this
    rfl
  | g + 1, h => by
    by_cases e : t = g + 1
    · subst e
      rfl
    · show R t g + bin t (g + 1) = _
      rw [bin_lt (show t < g + 1 by omega), R_over t (show t ≤ g by omega)]
      rfl
theorem R_min (t g : Nat) : R t (min t g) = R t g := by
  by_cases h : t ≤ g
  · rw [Nat.min_eq_left h, R_over t h]
  · rw [Nat.min_eq_right (by omega)]
theorem R_full : ∀ (t g : Nat), t ≤ g → R t g + 1 = 2 ^ t
  | 0, g, _ => by
    rw [R_zero_t]
  | t + 1, 0, h => absurd h (by omega)
  | t + 1, g + 1, h => by
    have h1 := R_full t g (by omega)
    have h2 := R_full t (g + 1) (by omega)
    rw [R_pascal, Nat.pow_succ]
    omega
theorem R_le_pow (t g : Nat) : R t g + 1 ≤ 2 ^ t := by
  have h1 : R t g ≤ R t (g + t) := R_mono_g t (by omega)
  have h2 := R_full t (g + t) (by omega)
  omega
theorem R_ge (t : Nat) {g : Nat} (h : 0 < g) : t ≤ R t g := by
  have h1 : R t 1 ≤ R t g := R_mono_g t h
  rw [R_one] at h1
  exact h1
theorem R_zero_iff {t g : Nat} (h : t = 0 ∨ g = 0) : R t g = 0 := by
  rcases h with rfl | rfl
  · exact R_zero_t g
  · rfl
theorem R_pos {t g : Nat} (h1 : 0 < t) (h2 : 0 < g) : 0 < R t g := Nat.lt_of_lt_of_le h1 (R_ge t h2)
theorem R_pas {t g : Nat} (h1 : 0 < t) (h2 : 0 < g) : R t g = R (t - 1) (g - 1) + 1 + R (t - 1) g := by
  obtain ⟨k, rfl⟩ : ∃ k, g = k + 1 := ⟨g - 1, by omega⟩
  obtain ⟨u, rfl⟩ : ∃ u, t = u + 1 := ⟨t - 1, by omega⟩
  exact R_pascal u k
theorem R_two (t : Nat) : R t 2 * 2 = t * (t + 1) := by
  have h := bin_mul t 1
  have h1 : bin t 1 = t := by
    have := R_one t
    have e : R t 1 = 0 + bin t 1 := rfl
    omega
  have e : R t 2 = R t 1 + bin t 2 := rfl
  rw [R_one] at e
  rw [h1] at h
  have e3 : t * (t + 1) = t * (t - 1) + t * 2 := by
    rw [← Nat.mul_add]
    cases t with
    | zero => rfl
    | succ n => rfl
  have e4 : bin t (1 + 1) = bin t 2 := rfl
  omega
/-! ### the fewest tries -/
def Fw (s g t : Nat) : Prop := s ≤ R t g ∧ (t = 0 ∨ R (t - 1) g < s)
theorem Fw.uniq {s g t u : Nat} (a : Fw s g t) (b : Fw s g u) : t = u := by
  have key : ∀ {x y : Nat}, Fw s g x → Fw s g y → ¬ x < y := fun {x y} p q l => by
    rcases q.2 with z | z
    · omega
    · have h1 : R x g ≤ R (y - 1) g := R_mono_t g (by omega)
      have h2 := p.1
      omega
  have h1 := key a b
  have h2 := key b a
  omega
theorem Fw.ex {s g : Nat} : ∀ n : Nat, s ≤ R n g → ∃ t, Fw s g t ∧ t ≤ n
  | 0, h => ⟨0, ⟨h, .inl rfl⟩, Nat.le_refl _⟩
  | n + 1, h => by
    by_cases c : s ≤ R n g
    · obtain ⟨t, ht, hl⟩ := Fw.ex n c
      exact ⟨t, ht, by omega⟩
    · exact ⟨n + 1, ⟨h, .inr (by show R n g < s; omega)⟩, Nat.le_refl _⟩
theorem Fw.exists {s g : Nat} (h : 0 < g ∨ s = 0) : ∃ t, Fw s g t := by
  rcases h with h | h
  · obtain ⟨t, ht, _⟩ := Fw.ex s (R_ge s h)
    exact ⟨t, ht⟩
  · subst h
    exact ⟨0, Nat.zero_le _, .inl rfl⟩
noncomputable def fw (s g : Nat) : Nat := @dite _ (∃ t, Fw s g t) (Classical.propDecidable _) (fun h => Classical.choose h) (fun _ => 0)
theorem fw_spec {s g : Nat} (h : 0 < g ∨ s = 0) : Fw s g (fw s g) := by
  have e := Fw.exists h
  unfold fw
  rw [dif_pos e]
  exact Classical.choose_spec e
theorem fw_eq {s g t : Nat} (h : Fw s g t) : fw s g = t := by
  have e : ∃ t, Fw s g t := ⟨t, h⟩
  have q : Fw s g (fw s g) := by
    unfold fw
    rw [dif_pos e]
    exact Classical.choose_spec e
  exact q.uniq h
theorem fw_le {s g n : Nat} (h : s ≤ R n g) : fw s g ≤ n := by
  obtain ⟨t, ht, hl⟩ := Fw.ex n h
  rw [fw_eq ht]
  exact hl
theorem fw_le_self {s g : Nat} (h : 0 < g ∨ s = 0) : fw s g ≤ s := by
  rcases h with h | h
  · exact fw_le (R_ge s h)
  · subst h
    exact fw_le (Nat.zero_le _)
/-! ### the fewest glasses -/
def Gw (s b g : Nat) : Prop := s ≤ R b g ∧ (g = 0 ∨ R b (g - 1) < s)
theorem Gw.uniq {s b g u : Nat} (a : Gw s b g) (c : Gw s b u) : g = u := by
  have key : ∀ {x y : Nat}, Gw s b x → Gw s b y → ¬ x < y := fun {x y} p q l => by
    rcases q.2 with z | z
    · omega
    · have h1 : R b x ≤ R b (y - 1) := R_mono_g b (by omega)
      have h2 := p.1
      omega
  have h1 := key a c
  have h2 := key c a
  omega
theorem Gw.ex {s b : Nat} : ∀ n : Nat, s ≤ R b n → ∃ t, Gw s b t ∧ t ≤ n
  | 0, h => ⟨0, ⟨h, .inl rfl⟩, Nat.le_refl _⟩
  | n + 1, h => by
    by_cases c : s ≤ R b n
    · obtain ⟨t, ht, hl⟩ := Gw.ex n c
      exact ⟨t, ht, by omega⟩
    · exact ⟨n + 1, ⟨h, .inr (by show R b n < s; omega)⟩, Nat.le_refl _⟩
/-! ### bits -/
def bl (s : Nat) : Nat := PySem.Builtin.Int.intBits ((s : Nat) : Int)
theorem bl_lt (s : Nat) : s < 2 ^ bl s := by
  unfold bl PySem.Builtin.Int.intBits
  split
  · rename_i e
    have e' : s = 0 := by
      have : (s : Int) = 0 := by simpa using e
      omega
    subst e'
    exact Nat.one_pos
  · rw [Int.natAbs_natCast]
    exact Nat.lt_log2_self
theorem bl_ge {s : Nat} (h : 0 < s) : 2 ^ (bl s - 1) ≤ s := by
  unfold bl PySem.Builtin.Int.intBits
  split
  · rename_i e
    have e' : (s : Int) = 0 := by simpa using e
    omega
  · rw [Int.natAbs_natCast, Nat.add_sub_cancel]
    exact Nat.log2_self_le (by omega)
theorem bl_le {s : Nat} (h : s ≤ 10 ^ 60) : bl s ≤ 200 := by
  by_cases h0 : 0 < s
  · have h1 := bl_ge h0
    by_cases c : bl s ≤ 200
    · exact c
    · have h2 : 2 ^ 200 ≤ 2 ^ (bl s - 1) := Nat.pow_le_pow_right (by decide) (by omega)
      have h3 : (10 : Nat) ^ 60 < 2 ^ 200 := by decide
      omega
  · have e : s = 0 := by omega
    subst e
    decide
theorem bl_enough {s g : Nat} (h : bl s ≤ g) : s ≤ R (bl s) g := by
  have h1 := R_full (bl s) g h
  have h2 := bl_lt s
  omega
theorem Gw.exists (s : Nat) : ∃ f, Gw s (bl s) f ∧ f ≤ bl s := Gw.ex (bl s) (bl_enough (Nat.le_refl _))
/-- with as many glasses as it takes the tries are the bits -/
theorem fw_bits {s f : Nat} (h : Gw s (bl s) f) (h0 : 0 < f) : fw s f = bl s := by
  refine fw_eq ⟨h.1, ?_⟩
  by_cases hb : bl s = 0
  · exact .inl hb
  · refine .inr ?_
    have hs : 0 < s := by
      by_cases e : s = 0
      · subst e
        exact absurd rfl hb
      · omega
    have h1 := R_le_pow (bl s - 1) f
    have h2 := bl_ge hs
    omega
theorem fw_zero (g : Nat) : fw 0 g = 0 := fw_eq ⟨Nat.zero_le _, .inl rfl⟩
end GF

namespace GF
open PySem L2 Evl
/-- a promise by a relation of the arguments and the value; what was tracked stands -/
def spP (r : List V → V → Prop) : Sp := fun vs H Q _ => ∃ v, r vs v ∧ ∀ H2, Ex H H2 → Q v H2
section
variable {K : PySem.W.Frag} {σ : L2.St} {H H' : Hp} {ta tb tc te : TE} {x y z v : V}
theorem ev_p {r : List V → V → Prop} {E : XK} {t : TA} {vs : List V} (h : EvA t σ H vs) (hr : r vs v) : Ev (tCall (spP r) [] E t) σ H v := by
  refine ev_call h ?_
  rw [List.append_nil]
  exact fun H1 _ Q q E => ⟨v, hr, fun H2 e2 => q H2 e2⟩
theorem rc_min2 {i j : Int} : RC (fun xs H Q => ∃ i j, xs = [V.int i, V.int j] ∧ Q (V.int (if j < i then j else i)) H) [.int i, .int j] H (.int (if j < i then j else i)) := fun H1 _ _ q => ⟨i, j, rfl, q H1 (Ex.refl H1)⟩
theorem rc_max2 {i j : Int} : RC (fun xs H Q => ∃ i j, xs = [V.int i, V.int j] ∧ Q (V.int (if j > i then j else i)) H) [.int i, .int j] H (.int (if j > i then j else i)) := fun H1 _ _ q => ⟨i, j, rfl, q H1 (Ex.refl H1)⟩
theorem rc_abs {i : Int} : RC (fun xs H Q => ∃ i, xs = [V.int i] ∧ Q (V.int (if i < 0 then -i else i)) H) [.int i] H (.int (if i < 0 then -i else i)) := fun H1 _ _ q => ⟨i, rfl, q H1 (Ex.refl H1)⟩
theorem rc_sum {a : Addr} {ns : List Int} (h : SqL K H a (ns.map V.int)) : RC (rSum K) [.ref a] H (.int ns.sum) := fun H1 e _ q => ⟨a, ns, rfl, ex_l e h, q H1 (Ex.refl H1)⟩
theorem rc_lenL {a : Addr} {xs : List V} (h : SqL K H a xs) : RC (fun xs H Q => ∃ p ys, xs = [V.ref p] ∧ (SqL K H p ys ∨ SqT K H p ys) ∧ Q (V.int (List.length ys : Nat)) H) [.ref a] H (.int (xs.length : Nat)) := fun H1 e _ q => ⟨a, xs, rfl, .inl (ex_l e h), q H1 (Ex.refl H1)⟩
theorem rc_isi {c : V} {t u : Value} {b : Bool} (hc : ClsV c u) (ht : ∀ H1, Ex H H1 → TyX K H1 x t) (hb : PySem.W.kitOne K t u = some b) : RC (rIsi K) [x, c] H (.bl b) := fun H1 e _ q => ⟨x, c, t, u, b, rfl, hc, ht H1 e, hb, q H1 (Ex.refl H1)⟩
theorem rc_isi_int {i : Int} {n : String} {b : Bool} (hb : kitB "int" n = some b) : RC (rIsi K) [.int i, .ty n] H (.bl b) := rc_isi (.ty n) (fun _ _ => .base (.int i)) (kit_ty hb)
theorem rc_isi_bl {i : Bool} {n : String} {b : Bool} (hb : kitB "bool" n = some b) : RC (rIsi K) [.bl i, .ty n] H (.bl b) := rc_isi (.ty n) (fun _ _ => .base (.bl i)) (kit_ty hb)
theorem rv_eqI {i j : Int} : RV rEq (.int i) (.int j) H (.bl (decide (i = j))) := fun H1 _ Q q => ⟨rfl, by
  have e : decide (V.int i = V.int j) = decide (i = j) := by
    by_cases h : i = j
    · subst h
      simp
    · rw [decide_eq_false h, decide_eq_false (fun z => h (V.int.inj z))]
  rw [e]
  exact q H1 (Ex.refl H1)⟩
theorem rv_neI {i j : Int} : RV rNe (.int i) (.int j) H (.bl (!decide (i = j))) := fun H1 _ Q q => ⟨rfl, by
  have e : decide (V.int i = V.int j) = decide (i = j) := by
    by_cases h : i = j
    · subst h
      simp
    · rw [decide_eq_false h, decide_eq_false (fun z => h (V.int.inj z))]
  rw [e]
  exact q H1 (Ex.refl H1)⟩
theorem rv_eqB {i j : Bool} : RV rEq (.bl i) (.bl j) H (.bl (decide (i = j))) := fun H1 _ Q q => ⟨rfl, by
  have e : decide (V.bl i = V.bl j) = decide (i = j) := by
    cases i <;> cases j <;> rfl
  rw [e]
  exact q H1 (Ex.refl H1)⟩
theorem rv_neB {i j : Bool} : RV rNe (.bl i) (.bl j) H (.bl (!decide (i = j))) := fun H1 _ Q q => ⟨rfl, by
  have e : decide (V.bl i = V.bl j) = decide (i = j) := by
    cases i <;> cases j <;> rfl
  rw [e]
  exact q H1 (Ex.refl H1)⟩
theorem ev_chain {r r' : R2} {a b : Bool} (ha : Ev ta σ H x) (hb : Ev tb σ H y) (hc : Ev tc σ H z) (h1 : RV r x y H (.bl a)) (h2 : a = true → RV r' y z H (.bl b)) : Ev (tChain r r' ta tb tc) σ H (.bl (a && b)) := fun H1 e Q q =>
  ha H1 e _ fun H2 e2 => hb H2 (e.trans e2) _ fun H3 e3 => h1 H3 ((e.trans e2).trans e3) _ fun H4 e4 => ⟨a, rfl, by
    cases a with
    | true =>
      show tc σ H4 fun w' H5 => r' y w' H5 Q
      exact hc H4 (((e.trans e2).trans e3).trans e4) _ fun H5 e5 => h2 rfl H5 ((((e.trans e2).trans e3).trans e4).trans e5) Q fun H6 e6 => q H6 ((((e2.trans e3).trans e4).trans e5).trans e6)
    | false =>
      show Q (.bl false) H4
      exact q H4 ((e2.trans e3).trans e4)⟩
/-- the tuple just made, an item of it -/
theorem ev_ixU {xs : List V} {i : Int} (ha : EvU ta σ H xs) (hb : Ev tb σ H (.int i)) (hx : atI xs i = some v) : Ev (tOp (rIxT K) ta tb) σ H v := fun H1 e Q q =>
  ha H1 e _ fun p H2 _ e2 hp => hb H2 (e.trans e2) _ fun H3 e3 => ⟨p, xs, i, v, rfl, rfl, .inl (.inl (e3 p _ hp)), hx, q H3 (e2.trans e3)⟩
variable {D : Ends} {tz tu : TS}
/-- x op= e where the rule asks something -/
theorem s_augC {i : Nat} {C : Int → Int → Prop} {f : Int → Int → Int} {a b : Int} (hx : σ[i]? = some (some (.int a))) (h : Ev te σ H (.int b)) (hc : C a b) (k : ∀ H1, Ex H H1 → D.nx (σ.set i (some (.int (f a b)))) H1) : tAug i te (rI C fun i j => .int (f i j)) D σ H :=
  ⟨.int a, hx, h H (Ex.refl H) _ fun H1 e => ⟨a, b, rfl, rfl, hc, k H1 e⟩⟩
/-- a, b = x, y -/
theorem s_par {i j : Nat} {t : TA} {u w : V} (h : EvA t σ H [u, w]) (k : ∀ H1, Ex H H1 → D.nx ((σ.set i (some u)).set j (some w)) H1) : tPar i j t D σ H := h H (Ex.refl H) _ fun H1 e => ⟨u, w, rfl, k H1 e⟩
theorem q_par {i j : Nat} {t : TA} {u w : V} (h : EvA t σ H [u, w]) (k : ∀ H1, Ex H H1 → tz D ((σ.set i (some u)).set j (some w)) H1) : tSeq (tPar i j t) tz D σ H := s_par (D := { D with nx := tz D }) h k
theorem s_par3 {i j l : Nat} {t : TA} {u w m : V} (h : EvA t σ H [u, w, m]) (k : ∀ H1, Ex H H1 → D.nx (((σ.set i (some u)).set j (some w)).set l (some m)) H1) : tPar3 i j l t D σ H := h H (Ex.refl H) _ fun H1 e => ⟨u, w, m, rfl, k H1 e⟩
theorem q_par3 {i j l : Nat} {t : TA} {u w m : V} (h : EvA t σ H [u, w, m]) (k : ∀ H1, Ex H H1 → tz D (((σ.set i (some u)).set j (some w)).set l (some m)) H1) : tSeq (tPar3 i j l t) tz D σ H := s_par3 (D := { D with nx := tz D }) h k
/-- a, b, c = (x, y, z), the tuple made -/
theorem s_asg3 {i j l : Nat} {u w m : V} (h : EvU te σ H [u, w, m]) (k : ∀ H1, Ex H H1 → D.nx (((σ.set i (some u)).set j (some w)).set l (some m)) H1) : tAsg te (gTup K 3 (gCons (gName i) (gCons (gName j) (gCons (gName l) gNil)))) D σ H :=
  h H (Ex.refl H) _ fun p H1 _ e hp => ⟨p, _, rfl, .inl (.inl hp), rfl, u, _, rfl, w, _, rfl, m, _, rfl, rfl, k H1 e⟩
theorem q_asg3 {i j l : Nat} {u w m : V} (h : EvU te σ H [u, w, m]) (k : ∀ H1, Ex H H1 → tz D (((σ.set i (some u)).set j (some w)).set l (some m)) H1) : tSeq (tAsg te (gTup K 3 (gCons (gName i) (gCons (gName j) (gCons (gName l) gNil))))) tz D σ H := s_asg3 (D := { D with nx := tz D }) h k
end
/-! ### numbers -/
theorem min_nat (t g : Nat) : (if (g : Int) < (t : Int) then (g : Int) else (t : Int)) = ((min t g : Nat) : Int) := by
  by_cases h : g < t
  · rw [if_pos (by omega), Nat.min_eq_right (by omega)]
  · rw [if_neg (by omega), Nat.min_eq_left (by omega)]
theorem sub_nat {t i : Nat} (h : i ≤ t) : (t : Int) - (i : Int) = ((t - i : Nat) : Int) := by omega
theorem nat_bits {n b : Nat} (h : n < 2 ^ b) : ((n : Int)).natAbs < 2 ^ b := by
  rw [Int.natAbs_natCast]
  exact h
end GF

namespace GF
open PySem L2 Evl
/-! ### lists of tuples -/
def TupsAt (H : Hp) (as : List Addr) (rows : List (List V)) : Prop := as.length = rows.length ∧ ∀ (i : Nat) (a : Addr) (r : List V), as[i]? = some a → rows[i]? = some r → H a = some (.tup r)
def ListT (H : Hp) (p : Addr) (rows : List (List V)) : Prop := ∃ as : List Addr, H p = some (.lst (as.map V.ref)) ∧ TupsAt H as rows
theorem TupsAt.mono {H H' : Hp} {as : List Addr} {rows : List (List V)} (h : TupsAt H as rows) (e : Ex H H') : TupsAt H' as rows := ⟨h.1, fun i a r h1 h2 => e _ _ (h.2 i a r h1 h2)⟩
theorem TupsAt.nil {H : Hp} : TupsAt H [] [] := ⟨rfl, fun i a r h => by simp at h⟩
theorem ListT.mono {H H' : Hp} {p : Addr} {rows : List (List V)} (h : ListT H p rows) (e : Ex H H') : ListT H' p rows := by
  obtain ⟨as, h1, h2⟩ := h
  exact ⟨as, e _ _ h1, h2.mono e⟩
theorem TupsAt.snoc {H : Hp} {as : List Addr} {rows : List (List V)} {a : Addr} {r : List V} (h : TupsAt H as rows) (ha : H a = some (.tup r)) : TupsAt H (as ++ [a]) (rows ++ [r]) := by
  refine ⟨by rw [List.length_append, List.length_append, h.1]; rfl, fun i b s h1 h2 => ?_⟩
  by_cases hi : i < as.length
  · rw [List.getElem?_append_left hi] at h1
    rw [List.getElem?_append_left (by rw [← h.1]; exact hi)] at h2
    exact h.2 i b s h1 h2
  · rw [List.getElem?_append_right (by omega)] at h1
    rw [List.getElem?_append_right (by rw [← h.1]; omega)] at h2
    by_cases h0 : i - as.length = 0
    · rw [h0] at h1
      rw [← h.1, h0] at h2
      have e1 : a = b := Option.some.inj h1
      have e2 : r = s := Option.some.inj h2
      rw [← e1, ← e2]
      exact ha
    · obtain ⟨m, hm⟩ : ∃ m, i - as.length = m + 1 := ⟨i - as.length - 1, by omega⟩
      rw [hm] at h1
      simp at h1
theorem TupsAt.cons {H : Hp} {as : List Addr} {rows : List (List V)} {a : Addr} {r : List V} (ha : H a = some (.tup r)) (h : TupsAt H as rows) : TupsAt H (a :: as) (r :: rows) := by
  refine ⟨by rw [List.length_cons, List.length_cons, h.1], fun i b s h1 h2 => ?_⟩
  cases i with
  | zero =>
    have e1 : a = b := Option.some.inj h1
    have e2 : r = s := Option.some.inj h2
    rw [← e1, ← e2]
    exact ha
  | succ i => exact h.2 i b s h1 h2
/-- a store to a list leaves the tuples -/
theorem TupsAt.upd {H : Hp} {as : List Addr} {rows : List (List V)} {l : Addr} {xs ys : List V} (h : TupsAt H as rows) (hl : H l = some (.lst xs)) : TupsAt (upd H l (.lst ys)) as rows := ⟨h.1, fun i a r h1 h2 => by
  have q := h.2 i a r h1 h2
  rw [upd_ne (ne_of q hl (by intro z; cases z))]
  exact q⟩
section
variable {K : PySem.W.Frag} {σ : L2.St} {H H' : Hp} {ta tb tc te tl : TE} {x y z v u w m : V} {D : Ends} {tz tu : TS} {g : TG}
/-- arguments that are new tuples -/
def EvAU (t : TA) (σ : L2.St) (H : Hp) (rows : List (List V)) : Prop := ∀ H1, Ex H H1 → ∀ Q : List V → Hp → Prop, (∀ as H2, Ex H1 H2 → TupsAt H2 as rows → Q (as.map V.ref) H2) → t σ H1 Q
theorem eau_nil : EvAU tNil σ H [] := fun H1 _ Q q => q [] H1 (Ex.refl H1) .nil
theorem eau_cons {tr : TA} {r : List V} {rows : List (List V)} (h : EvU te σ H r) (hr : EvAU tr σ H rows) : EvAU (tCons te tr) σ H (r :: rows) := fun H1 e Q q =>
  h H1 e _ fun p H2 _ e2 hp => hr H2 (e.trans e2) _ fun as H3 e3 h3 => q (p :: as) H3 (e2.trans e3) (.cons (e3 p _ hp) h3)
theorem at_row {H : Hp} {as : List Addr} {rows : List (List V)} {j : Nat} {r : List V} (h : TupsAt H as rows) (hj : rows[j]? = some r) : ∃ a, as[j]? = some a ∧ H a = some (.tup r) := by
  have hlt : j < as.length := by
    rw [h.1]
    exact (List.getElem?_eq_some_iff.mp hj).1
  exact ⟨as[j], List.getElem?_eq_getElem hlt, h.2 j _ r (List.getElem?_eq_getElem hlt) hj⟩
/-- unpacking a tuple of three -/
theorem g_3 {i j l : Nat} {T : Addr} {Q : L2.St → Hp → Prop} (h : H T = some (.tup [u, w, m])) (k : Q (((σ.set i (some u)).set j (some w)).set l (some m)) H) : gTup K 3 (gCons (gName i) (gCons (gName j) (gCons (gName l) gNil))) (.ref T) σ H Q :=
  ⟨T, _, rfl, .inl (.inl h), rfl, u, _, rfl, w, _, rfl, m, _, rfl, rfl, k⟩
theorem g_2 {i j : Nat} {T : Addr} {Q : L2.St → Hp → Prop} (h : H T = some (.tup [u, w])) (k : Q ((σ.set i (some u)).set j (some w)) H) : gTup K 2 (gCons (gName i) (gCons (gName j) gNil)) (.ref T) σ H Q :=
  ⟨T, _, rfl, .inl (.inl h), rfl, u, _, rfl, w, _, rfl, rfl, k⟩
/-- a, b, c = (.., .., ..)[k] -/
theorem q_menu3 {i j l : Nat} {t : TA} {rows : List (List V)} {k : Int} {n : Nat} (h : EvAU t σ H rows) (hi : Ev tb σ H (.int k)) (hz : rows.length ≤ 100000) (hk : k = (n : Int)) (hr : rows[n]? = some [u, w, m])
    (q : ∀ H1, Ex H H1 → tz D (((σ.set i (some u)).set j (some w)).set l (some m)) H1) :
    tSeq (tAsg (tOp (rIxT K) (tTup t) tb) (gTup K 3 (gCons (gName i) (gCons (gName j) (gCons (gName l) gNil))))) tz D σ H :=
  h H (Ex.refl H) _ fun as H1 e1 h1 => ⟨sz_of (by rw [List.length_map, h1.1]; exact hz), fun p hp => hi _ (e1.trans (Ex.new hp)) _ fun H2 e2 => by
    obtain ⟨a, ha, hta⟩ := at_row h1 hr
    have hap : H2 a = some (.tup [u, w, m]) := e2 _ _ (Ex.new hp a _ hta)
    refine ⟨p, as.map V.ref, k, .ref a, rfl, rfl, .inl (.inl (e2 _ _ upd_same)), ?_, g_3 hap (q H2 ((e1.trans (Ex.new hp)).trans e2))⟩
    subst hk
    exact atI_nat (by rw [List.getElem?_map, ha]; rfl)⟩
/-- a, b, c = x, [], z -/
theorem q_par3L {i j l : Nat} {xs : List V} (ha : Ev ta σ H u) (hl : EvL tl σ H xs) (hc : Ev tc σ H m) (k : ∀ p H1, H p = none → Ex H H1 → H1 p = some (.lst xs) → tz D (((σ.set i (some u)).set j (some (.ref p))).set l (some m)) H1) :
    tSeq (tPar3 i j l (tCons ta (tCons tl (tCons tc tNil)))) tz D σ H :=
  ha H (Ex.refl H) _ fun H1 e1 => hl H1 e1 _ fun p H2 hp e2 h2 => hc H2 (e1.trans e2) _ fun H3 e3 => ⟨u, .ref p, m, rfl, k p H3 (fresh_back e1 hp) ((e1.trans e2).trans e3) (e3 _ _ h2)⟩
/-- what follows is shown once -/
theorem q_rest {tu : TS} (J : L2.St → Hp → Prop) (h1 : ∀ σ' H', J σ' H' → tz D σ' H') (h2 : (∀ σ' H', J σ' H' → tz D σ' H') → tSeq tu tz D σ H) : tSeq tu tz D σ H := h2 h1
/-- what a call hands back, by a word -/
def EvN (te : TE) (σ : L2.St) (H : Hp) (Post : V → Hp → Prop) : Prop := ∀ H1, Ex H H1 → ∀ Q : VK, (∀ v H2, Ex H1 H2 → Post v H2 → Q v H2) → te σ H1 Q
/-- a promise by a word of the value and the heap behind; what was tracked stands -/
def spN (r : Hp → List V → (V → Hp → Prop) → Prop) : Sp := fun vs H Q _ => ∃ Post, r H vs Post ∧ ∀ v H2, Ex H H2 → Post v H2 → Q v H2
theorem en_call {r : Hp → List V → (V → Hp → Prop) → Prop} {E : XK} {t : TA} {vs : List V} {Post : V → Hp → Prop} (h : EvA t σ H vs) (hr : ∀ H1, Ex H H1 → r H1 vs Post) : EvN (tCall (spN r) [] E t) σ H Post := fun H1 e Q q =>
  h H1 e _ fun H2 e2 => by
    show spN r (vs ++ []) H2 Q E
    rw [List.append_nil]
    exact ⟨Post, hr H2 (e.trans e2), fun v H3 e3 hp => q v H3 (e2.trans e3) hp⟩
/-- the argument a new list -/
theorem en_callL {r : Hp → List V → (V → Hp → Prop) → Prop} {E : XK} {xs : List V} {Post : V → Hp → Prop} (h : EvL te σ H xs) (hr : ∀ p H1, Ex H H1 → H1 p = some (.lst xs) → r H1 [.ref p] Post) : EvN (tCall (spN r) [] E (tCons te tNil)) σ H Post := fun H1 e Q q =>
  h H1 e _ fun p H2 _ e2 hp => ⟨Post, hr p H2 (e.trans e2) hp, fun v H3 e3 hP => q v H3 (e2.trans e3) hP⟩
/-- the argument what another call hands back -/
theorem en_callN {r : Hp → List V → (V → Hp → Prop) → Prop} {E : XK} {Mid Post : V → Hp → Prop} (h : EvN te σ H Mid) (hr : ∀ v H1, Ex H H1 → Mid v H1 → r H1 [v] Post) : EvN (tCall (spN r) [] E (tCons te tNil)) σ H Post := fun H1 e Q q =>
  h H1 e _ fun p H2 e2 hp => ⟨Post, hr p H2 (e.trans e2) hp, fun v H3 e3 hP => q v H3 (e2.trans e3) hP⟩
theorem en_of (h : Ev te σ H v) : EvN te σ H (fun v' H' => v' = v ∧ Ex H H') := fun H1 e Q q => h H1 e _ fun H2 e2 => q v H2 e2 ⟨rfl, e.trans e2⟩
theorem q_asgN {i : Nat} {Post : V → Hp → Prop} (h : EvN te σ H Post) (k : ∀ v H1, Ex H H1 → Post v H1 → tz D (σ.set i (some v)) H1) : tSeq (tAsg te (gName i)) tz D σ H := h H (Ex.refl H) _ fun v H1 e hp => k v H1 e hp
theorem s_retN {Post : V → Hp → Prop} (h : EvN te σ H Post) (k : ∀ v H1, Ex H H1 → Post v H1 → D.rt v H1) : tRet te D σ H := h H (Ex.refl H) _ fun v H1 e hp => k v H1 e hp
/-- unpacking a pair of a thing and a tuple of three -/
theorem g_1_3 {i j l n : Nat} {T T2 : Addr} {Q : L2.St → Hp → Prop} (h : H T = some (.tup [x, .ref T2])) (h2 : H T2 = some (.tup [u, w, m])) (k : Q ((((σ.set n (some x)).set i (some u)).set j (some w)).set l (some m)) H) :
    gTup K 2 (gCons (gName n) (gCons (gTup K 3 (gCons (gName i) (gCons (gName j) (gCons (gName l) gNil)))) gNil)) (.ref T) σ H Q :=
  ⟨T, _, rfl, .inl (.inl h), rfl, x, _, rfl, .ref T2, _, rfl, T2, _, rfl, .inl (.inl h2), rfl, u, _, rfl, w, _, rfl, m, _, rfl, rfl, rfl, k⟩
/-- for i, row in enumerate(a list of tuples) -/
theorem s_enumRows {Post : V → Hp → Prop} (h : EvN tl σ H Post)
    (hs : ∀ v H1, Ex H H1 → Post v H1 → ∃ (p : Addr) (as : List Addr) (rows : List (List V)) (Pv : Nat → L2.St → Hp → Prop), v = .ref p ∧ H1 p = some (.lst (as.map V.ref)) ∧ TupsAt H1 as rows ∧ Pv 0 σ H1 ∧
      (∀ i σ' H', Pv i σ' H' → H' p = some (.lst (as.map V.ref)) ∧ TupsAt H' as rows) ∧
      (∀ (n : Nat) row σ' H' T T2, rows[n]? = some row → Pv n σ' H' → H' T = none → H' T2 = some (.tup row) → g (.ref T) σ' (upd H' T (.tup [.int (n : Int), .ref T2])) fun σ2 H2 => tu { D with nx := Pv (n + 1), ct := Pv (n + 1), bk := D.nx } σ2 H2) ∧
      (∀ σ' H', Pv rows.length σ' H' → D.nx σ' H')) : tFor (iEnum K (tCons tl tNil)) g tu D σ H :=
  h H (Ex.refl H) _ fun v H1 e1 hp => by
    obtain ⟨p, as, rows, Pv, rfl, hl, ht, h0, keep, turn, done⟩ := hs v H1 e1 hp
    refine ⟨p, as.map V.ref, rfl, sq_of hl, fun i m σ' H' => i + m = rows.length ∧ Pv i σ' H', ⟨rows.length, Nat.zero_add _, h0⟩, ?_⟩
    rintro i m σ' H' ⟨him, hv⟩
    obtain ⟨k1, k2⟩ := keep i σ' H' hv
    by_cases hi : i < rows.length
    · have hia : i < as.length := by rw [ht.1]; exact hi
      have ha : (as.map V.ref)[i]? = some (.ref as[i]) := by rw [List.getElem?_map, List.getElem?_eq_getElem hia]; rfl
      refine .inr ⟨⟨_, _, sq_of k1, ha⟩, Pv (i + 1), fun σ2 H2 hN => ⟨m - 1, by omega, by omega, hN⟩, ?_⟩
      rintro x H2 ⟨T, x2, rfl, hT, rfl, hx⟩
      have ex2 : x2 = .ref as[i] := Option.some.inj ((hx _ (sq_of k1)).symm.trans ha)
      subst ex2
      exact turn i rows[i] σ' H' T as[i] (List.getElem?_eq_getElem hi) hv hT (k2.2 i _ _ (List.getElem?_eq_getElem hia) (List.getElem?_eq_getElem hi))
    · have e : i = rows.length := by omega
      subst e
      exact .inl ⟨⟨_, sq_of k1, by rw [List.length_map, ht.1]; exact Nat.le_refl _⟩, done σ' H' hv⟩
theorem q_enumRows {Post : V → Hp → Prop} (h : EvN tl σ H Post)
    (hs : ∀ v H1, Ex H H1 → Post v H1 → ∃ (p : Addr) (as : List Addr) (rows : List (List V)) (Pv : Nat → L2.St → Hp → Prop), v = .ref p ∧ H1 p = some (.lst (as.map V.ref)) ∧ TupsAt H1 as rows ∧ Pv 0 σ H1 ∧
      (∀ i σ' H', Pv i σ' H' → H' p = some (.lst (as.map V.ref)) ∧ TupsAt H' as rows) ∧
      (∀ (n : Nat) row σ' H' T T2, rows[n]? = some row → Pv n σ' H' → H' T = none → H' T2 = some (.tup row) → g (.ref T) σ' (upd H' T (.tup [.int (n : Int), .ref T2])) fun σ2 H2 => tu { D with nx := Pv (n + 1), ct := Pv (n + 1), bk := tz D } σ2 H2) ∧
      (∀ σ' H', Pv rows.length σ' H' → tz D σ' H')) : tSeq (tFor (iEnum K (tCons tl tNil)) g tu) tz D σ H :=
  s_enumRows (D := { D with nx := tz D }) h hs
/-- a loop over a list of tuples that a call hands back -/
theorem s_forRows {Post : V → Hp → Prop} (h : EvN tl σ H Post) (Pv : Nat → L2.St → Prop) (h0 : Pv 0 σ)
    (hs : ∀ v H1, Ex H H1 → Post v H1 → ∃ (p : Addr) (rows : List (List V)), v = .ref p ∧ ListT H1 p rows ∧
      (∀ n row σ' H' T, rows[n]? = some row → Pv n σ' → Ex H1 H' → H' T = some (.tup row) → g (.ref T) σ' H' fun σ2 H2 => tu { D with nx := fun σ3 H3 => Pv (n + 1) σ3 ∧ Ex H1 H3, ct := fun σ3 H3 => Pv (n + 1) σ3 ∧ Ex H1 H3, bk := D.nx } σ2 H2) ∧
      (∀ σ' H', Pv rows.length σ' → Ex H1 H' → D.nx σ' H')) : tFor (iList K tl) g tu D σ H :=
  h H (Ex.refl H) _ fun v H1 e1 hp => by
    obtain ⟨p, rows, rfl, ⟨as, hl, ht⟩, turn, done⟩ := hs v H1 e1 hp
    refine ⟨p, rfl, ⟨_, sq_of hl⟩, for_list (K := K) (xs := as.map V.ref) (fun n σ' H' => Pv n σ' ∧ Ex H1 H') ⟨h0, Ex.refl H1⟩ (fun n σ' H' _ q => sq_of (q.2 _ _ hl)) ?_ ?_⟩
    · rintro n x σ' H' hx ⟨hv, e2⟩
      rw [List.getElem?_map] at hx
      cases ha : as[n]? with
      | none =>
        rw [ha] at hx
        cases hx
      | some T =>
        rw [ha] at hx
        have ex : V.ref T = x := Option.some.inj hx
        rw [← ex]
        have hlt : n < rows.length := by
          rw [← ht.1]
          exact (List.getElem?_eq_some_iff.mp ha).1
        exact turn n rows[n] σ' H' T (List.getElem?_eq_getElem hlt) hv e2 (e2 _ _ (ht.2 n T _ ha (List.getElem?_eq_getElem hlt)))
    · rintro σ' H' ⟨hv, e2⟩
      rw [List.length_map, ht.1] at hv
      exact done σ' H' hv e2
theorem q_forRows {Post : V → Hp → Prop} (h : EvN tl σ H Post) (Pv : Nat → L2.St → Prop) (h0 : Pv 0 σ)
    (hs : ∀ v H1, Ex H H1 → Post v H1 → ∃ (p : Addr) (rows : List (List V)), v = .ref p ∧ ListT H1 p rows ∧
      (∀ n row σ' H' T, rows[n]? = some row → Pv n σ' → Ex H1 H' → H' T = some (.tup row) → g (.ref T) σ' H' fun σ2 H2 => tu { D with nx := fun σ3 H3 => Pv (n + 1) σ3 ∧ Ex H1 H3, ct := fun σ3 H3 => Pv (n + 1) σ3 ∧ Ex H1 H3, bk := tz D } σ2 H2) ∧
      (∀ σ' H', Pv rows.length σ' → Ex H1 H' → tz D σ' H')) : tSeq (tFor (iList K tl) g tu) tz D σ H :=
  s_forRows (D := { D with nx := tz D }) h Pv h0 hs
end
/-! ### further values -/
section
variable {K : PySem.W.Frag} {σ : L2.St} {H H' : Hp} {ta tb tc te tl : TE} {t : TT} {x y z v : V} {D : Ends} {tz tu : TS}
theorem el_if {b : Bool} {xs : List V} (h : EvT t σ H b) (h1 : b = true → EvL ta σ H xs) (h2 : b = false → EvL tb σ H xs) : EvL (tIf t ta tb) σ H xs := fun H1 e Q q => h H1 e _ fun H2 e2 => by
  cases b with
  | true =>
    show ta σ H2 Q
    exact h1 rfl H2 (e.trans e2) Q fun p H3 hp e3 h3 => q p H3 (fresh_back e2 hp) (e2.trans e3) h3
  | false =>
    show tb σ H2 Q
    exact h2 rfl H2 (e.trans e2) Q fun p H3 hp e3 h3 => q p H3 (fresh_back e2 hp) (e2.trans e3) h3
theorem rv_eqS {i j : Str} : RV rEq (.str i) (.str j) H (.bl (decide (i = j))) := fun H1 _ Q q => ⟨rfl, by
  have e : decide (V.str i = V.str j) = decide (i = j) := by
    by_cases h : i = j
    · subst h
      simp
    · rw [decide_eq_false h, decide_eq_false (fun z => h (V.str.inj z))]
  rw [e]
  exact q H1 (Ex.refl H1)⟩
theorem rv_neS {i j : Str} : RV rNe (.str i) (.str j) H (.bl (!decide (i = j))) := fun H1 _ Q q => ⟨rfl, by
  have e : decide (V.str i = V.str j) = decide (i = j) := by
    by_cases h : i = j
    · subst h
      simp
    · rw [decide_eq_false h, decide_eq_false (fun z => h (V.str.inj z))]
  rw [e]
  exact q H1 (Ex.refl H1)⟩
/-- data at any depth stays -/
theorem dp_ex (e : Ex H H') {v : V} {d : PyData} (h : Dp K H v d) : Dp K H' v d :=
  Dp.rec (motive_1 := fun v d _ => Dp K H' v d) (motive_2 := fun vs ds _ => DpAll K H' vs ds) .non (fun b => .bl b) (fun i => .int i) (fun x => .str x) (fun hs _ ih => .lst (ex_l e hs) ih) (fun hs _ ih => .tup (ex_t e hs) ih) .nil (fun _ _ i1 i2 => .cons i1 i2) h
theorem rv_eqD {d f : PyData} (h1 : Dp K H x d) (h2 : Dp K H y f) (s1 : SeqAt.shaped d = true) (s2 : SeqAt.shaped f = true) : RV (rEqD K) x y H (.bl (PyData.eqv d f)) := fun H1 e _ q => ⟨d, f, dp_ex e h1, dp_ex e h2, s1, s2, q H1 (Ex.refl H1)⟩
theorem rv_neD {d f : PyData} (h1 : Dp K H x d) (h2 : Dp K H y f) (s1 : SeqAt.shaped d = true) (s2 : SeqAt.shaped f = true) : RV (rNeD K) x y H (.bl (!PyData.eqv d f)) := fun H1 e _ q => ⟨d, f, dp_ex e h1, dp_ex e h2, s1, s2, q H1 (Ex.refl H1)⟩
end
theorem cut63 (ns : List Int) : cutV (ns.map V.int) none (some 63) = (ns.take 63).map V.int := by
  unfold cutV
  rw [HT.sIx_none, show HT.sIx (ns.map V.int).length (ns.map V.int).length (some 63) = min 63 (ns.map V.int).length from HT.sIx_nat _ _ 63]
  rw [List.drop_zero, Nat.sub_zero, List.map_take, List.length_map]
  by_cases h : 63 ≤ ns.length
  · rw [Nat.min_eq_left h]
  · rw [Nat.min_eq_right (by omega), List.take_of_length_le (by rw [List.length_map]; omega), List.take_of_length_le (by rw [List.length_map]; omega)]
theorem cutTake (xs : List V) (n : Nat) : cutV xs none (some (n : Int)) = xs.take n := by
  unfold cutV
  rw [HT.sIx_none, show HT.sIx xs.length xs.length (some (n : Int)) = min n xs.length from HT.sIx_nat _ _ n, List.drop_zero, Nat.sub_zero]
  by_cases h : n ≤ xs.length
  · rw [Nat.min_eq_left h]
  · rw [Nat.min_eq_right (by omega), List.take_of_length_le (Nat.le_refl _), List.take_of_length_le (by omega)]
theorem TupsAt.take {H : Hp} {as : List Addr} {rows : List (List V)} (h : TupsAt H as rows) (n : Nat) : TupsAt H (as.take n) (rows.take n) := by
  refine ⟨by rw [List.length_take, List.length_take, h.1], fun i a r h1 h2 => ?_⟩
  rw [List.getElem?_take] at h1 h2
  split at h1
  · rename_i hi
    rw [if_pos hi] at h2
    exact h.2 i a r h1 h2
  · cases h1
theorem tup_stays {H : Hp} {a l : Addr} {r xs ys : List V} (h : H a = some (.tup r)) (hl : H l = some (.lst xs)) : upd H l (.lst ys) a = some (.tup r) := by
  rw [upd_ne (ne_of h hl (by intro z; cases z))]
  exact h
theorem args2 {a b c d : Int} (h1 : a = b) (h2 : c = d) : [V.int a, V.int c] = [V.int b, V.int d] := by rw [h1, h2]
theorem args1 {a b : Int} (h1 : a = b) : [V.int a] = [V.int b] := by rw [h1]
theorem args3 {a b c d e f : Int} (h1 : a = b) (h2 : c = d) (h3 : e = f) : [V.int a, V.int c, V.int e] = [V.int b, V.int d, V.int f] := by rw [h1, h2, h3]
end GF

namespace GF
open PySem L2 Evl
def topS (i : Nat) : Stmt := PySem.Challenge.pw_glassfall_k04_whole_answers.main.body.getD i (.Pass ⟨0, 0, 0, 0⟩)
abbrev s_is_number : Stmt := topS 12
theorem sc_is_number : FnScope ["thing", "least", "most"] ["thing", "least", "most"] (defScope s_is_number) := ⟨rfl, rfl, rfl, by decide +kernel, rfl, by decide +kernel, by decide +kernel⟩
abbrev s_check_storeys : Stmt := topS 13
theorem sc_check_storeys : FnScope ["storeys"] ["storeys"] (defScope s_check_storeys) := ⟨rfl, rfl, rfl, by decide +kernel, rfl, by decide +kernel, by decide +kernel⟩
abbrev s_check_glasses : Stmt := topS 14
theorem sc_check_glasses : FnScope ["glasses"] ["glasses"] (defScope s_check_glasses) := ⟨rfl, rfl, rfl, by decide +kernel, rfl, by decide +kernel, by decide +kernel⟩
abbrev s_check_tries : Stmt := topS 15
theorem sc_check_tries : FnScope ["tries"] ["tries"] (defScope s_check_tries) := ⟨rfl, rfl, rfl, by decide +kernel, rfl, by decide +kernel, by decide +kernel⟩
abbrev s_reached : Stmt := topS 16
theorem sc_reached : FnScope ["tries", "glasses", "total", "ways", "picked"] ["tries", "glasses"] (defScope s_reached) := ⟨rfl, rfl, rfl, by decide +kernel, rfl, by decide +kernel, by decide +kernel⟩
abbrev s_answer : Stmt := topS 18
theorem sc_answer : FnScope ["storeys", "glasses", "tries", "storey"] ["storeys", "glasses", "tries", "storey"] (defScope s_answer) := ⟨rfl, rfl, rfl, by decide +kernel, rfl, by decide +kernel, by decide +kernel⟩
abbrev s_law_reach : Stmt := topS 20
theorem sc_law_reach : FnScope ["_law_tries", "_law_glasses", "_law_total", "_law_above", "_law_below", "_law_k"] ["_law_tries", "_law_glasses"] (defScope s_law_reach) := ⟨rfl, rfl, rfl, by decide +kernel, rfl, by decide +kernel, by decide +kernel⟩
abbrev s_law_states : Stmt := topS 21
theorem sc_law_states : FnScope ["_law_script", "_law_code", "_law_found", "_law_many", "_law_most", "_law_kinds", "_law_long", "_law_at", "_law_one", "_law_two", "_law_three", "_law_part", "_law_rest"] ["_law_script"] (defScope s_law_states) := ⟨rfl, rfl, rfl, by decide +kernel, rfl, by decide +kernel, by decide +kernel⟩
abbrev s_law_left : Stmt := topS 22
theorem sc_law_left : FnScope ["_law_storeys", "_law_glasses", "_law_tries", "_law_storey", "_law_found"] ["_law_storeys", "_law_glasses", "_law_tries", "_law_storey"] (defScope s_law_left) := ⟨rfl, rfl, rfl, by decide +kernel, rfl, by decide +kernel, by decide +kernel⟩
abbrev s_law : Stmt := topS 23
theorem sc_law : FnScope ["_law_script", "_law_at", "_law_storeys", "_law_glasses", "_law_tries", "_law_most_found", "_law_more", "_law_left_here", "_law_turn", "_law_many", "_law_cell", "_law_storey"] ["_law_script"] (defScope s_law) := ⟨rfl, rfl, rfl, by decide +kernel, rfl, by decide +kernel, by decide +kernel⟩
/-- where the defs stand -/
structure Ad where
  a_is_number : Addr
  d_is_number : FuncData
  a_check_storeys : Addr
  d_check_storeys : FuncData
  a_check_glasses : Addr
  d_check_glasses : FuncData
  a_check_tries : Addr
  d_check_tries : FuncData
  a_reached : Addr
  d_reached : FuncData
  a_answer : Addr
  d_answer : FuncData
  a_law_reach : Addr
  d_law_reach : FuncData
  a_law_states : Addr
  d_law_states : FuncData
  a_law_left : Addr
  d_law_left : FuncData
  a_law : Addr
  d_law : FuncData
/-- what the top has written -/
structure Tx (K : PySem.W.Frag) (mg : Str → Option Value) (A : Ad) : Prop where
  f_is_number : Fun K "is_number" "is_number" s_is_number A.a_is_number A.d_is_number
  g_is_number : mg "is_number" = some (.ref A.a_is_number)
  b_is_number : Binds K A.d_is_number ["thing", "least", "most"] []
  f_check_storeys : Fun K "check_storeys" "check_storeys" s_check_storeys A.a_check_storeys A.d_check_storeys
  g_check_storeys : mg "check_storeys" = some (.ref A.a_check_storeys)
  b_check_storeys : Binds K A.d_check_storeys ["storeys"] []
  f_check_glasses : Fun K "check_glasses" "check_glasses" s_check_glasses A.a_check_glasses A.d_check_glasses
  g_check_glasses : mg "check_glasses" = some (.ref A.a_check_glasses)
  b_check_glasses : Binds K A.d_check_glasses ["glasses"] []
  f_check_tries : Fun K "check_tries" "check_tries" s_check_tries A.a_check_tries A.d_check_tries
  g_check_tries : mg "check_tries" = some (.ref A.a_check_tries)
  b_check_tries : Binds K A.d_check_tries ["tries"] []
  f_reached : Fun K "reached" "reached" s_reached A.a_reached A.d_reached
  g_reached : mg "reached" = some (.ref A.a_reached)
  b_reached : Binds K A.d_reached ["tries", "glasses"] []
  f_answer : Fun K "answer" "answer" s_answer A.a_answer A.d_answer
  g_answer : mg "answer" = some (.ref A.a_answer)
  b_answer : Binds K A.d_answer ["storeys", "glasses", "tries", "storey"] []
  f_law_reach : Fun K "_law_reach" "_law_reach" s_law_reach A.a_law_reach A.d_law_reach
  g_law_reach : mg "_law_reach" = some (.ref A.a_law_reach)
  b_law_reach : Binds K A.d_law_reach ["_law_tries", "_law_glasses"] []
  f_law_states : Fun K "_law_states" "_law_states" s_law_states A.a_law_states A.d_law_states
  g_law_states : mg "_law_states" = some (.ref A.a_law_states)
  b_law_states : Binds K A.d_law_states ["_law_script"] []
  f_law_left : Fun K "_law_left" "_law_left" s_law_left A.a_law_left A.d_law_left
  g_law_left : mg "_law_left" = some (.ref A.a_law_left)
  b_law_left : Binds K A.d_law_left ["_law_storeys", "_law_glasses", "_law_tries", "_law_storey"] []
  f_law : Fun K "law" "law" s_law A.a_law A.d_law
  g_law : mg "law" = some (.ref A.a_law)
  b_law : Binds K A.d_law ["_law_script"] []
  c_MOST_GLASSES : ∃ t, mg "MOST_GLASSES" = some (.int 300 t)
  c_MOST_STOREYS : ∃ t, mg "MOST_STOREYS" = some (.int 1000000000000000000000000000000000000000000000000000000000000 t)
  c_MOST_TRIES : ∃ t, mg "MOST_TRIES" = some (.int 10000000000000000000000000000000000000000 t)
  z_bool : mg "bool" = none
  z_enumerate : mg "enumerate" = none
  z_int : mg "int" = none
  z_isinstance : mg "isinstance" = none
  z_len : mg "len" = none
  z_max : mg "max" = none
  z_min : mg "min" = none
  z_range : mg "range" = none
  z_sum : mg "sum" = none

section
variable {P : Program} {w : World} {K : PySem.W.Frag} {mg : Str → Option Value} {base : Heap} {A : Ad}
def rNum (vs : List V) (v : V) : Prop := ∃ x lo hi : Int, vs = [.int x, .int lo, .int hi] ∧ v = .bl (decide (lo ≤ x) && decide (x ≤ hi))
theorem ok_is_number (T : Tx K mg A) : FnOk P w K mg base CX0 1 A.a_is_number A.d_is_number ["thing", "least", "most"] (spP rNum) := by
  refine T.f_is_number.ok sc_is_number (fun vs H Q E h => ?_) (fun cdv Ar outer s H vs Q E hr h => ?_)
  · obtain ⟨v, ⟨x, lo, hi, rfl, _⟩, _⟩ := h
    rfl
  · obtain ⟨v, ⟨x, lo, hi, rfl, rfl⟩, k⟩ := h
    refine ⟨_, (pss_one (ps_ret (pe_and (pe_callB call_isi (by rfl) T.z_isinstance (by decide +kernel) (pa_cons (pv 0) (pa_cons (pe_bltn (v := .ty "int") (by rfl) T.z_int (by decide +kernel) rfl) pa_nil))) (pe_and (pe_not (pe_callB call_isi (by rfl) T.z_isinstance (by decide +kernel) (pa_cons (pv 0) (pa_cons (pe_bltn (v := .ty "bool") (by rfl) T.z_bool (by decide +kernel) rfl) pa_nil)))) (pe_one (pe_chain op_le op_le (pv 1) (pv 0) (pv 2))))))), ?_⟩
    refine s_ret (ev_is (ev_andV (a := true) (ev_cb (ea_cons (ev_var rfl) (ea_cons ev_c ea_nil)) (rc_isi_int (by decide +kernel))) fun _ => ev_andV (a := true) (ev_is (ev_notV (ev_cb (ea_cons (ev_var rfl) (ea_cons ev_c ea_nil)) (rc_isi_int (b := false) (by decide +kernel)))) rfl) fun _ => ev_chain (ev_var rfl) (ev_var rfl) (ev_var rfl) rv_I0 fun _ => rv_I0) ?_) fun H1 e1 => k H1 e1
    rw [Bool.true_and, Bool.true_and]
/-- a check that lets its number pass -/
def rChk (most : Int) (vs : List V) (v : V) : Prop := ∃ x : Int, vs = [.int x] ∧ 0 ≤ x ∧ x ≤ most ∧ v = .non
theorem ok_check_storeys (T : Tx K mg A) : FnOk P w K mg base CX0 2 A.a_check_storeys A.d_check_storeys ["storeys"] (spP (rChk (10^60))) := by
  refine T.f_check_storeys.ok sc_check_storeys (fun vs H Q E h => ?_) (fun cdv Ar outer s H vs Q E hr h => ?_)
  · obtain ⟨v, ⟨x, rfl, _⟩, _⟩ := h
    rfl
  · obtain ⟨v, ⟨x, rfl, h0, h1, rfl⟩, k⟩ := h
    refine ⟨_, (pss_one (ps_if (pt_not (pt_val (pe_call (ok_is_number T) (hr.mono (by decide)) (by rfl) T.g_is_number T.f_is_number.kp T.b_is_number .nil pass0 (pa_cons (pv 0) (pa_cons pe_int (pa_cons (pe_glob (v := .int 1000000000000000000000000000000000000000000000000000000000000) (by rfl) T.c_MOST_STOREYS.choose_spec ⟨_, rfl⟩) pa_nil)))))) (pss_one ps_never) pss_nil)), ?_⟩
    refine s_when (et_not (et_B (ev_p (ea_cons (ev_var rfl) (ea_cons ev_c (ea_cons ev_c ea_nil))) ⟨x, 0, 10^60, rfl, rfl⟩))) (fun hb H1 e1 => ?_) (fun _ H1 e1 => k H1 e1)
    rw [decide_eq_true h0, decide_eq_true h1] at hb
    exact absurd hb (by decide)
theorem ok_check_glasses (T : Tx K mg A) : FnOk P w K mg base CX0 2 A.a_check_glasses A.d_check_glasses ["glasses"] (spP (rChk (300))) := by
  refine T.f_check_glasses.ok sc_check_glasses (fun vs H Q E h => ?_) (fun cdv Ar outer s H vs Q E hr h => ?_)
  · obtain ⟨v, ⟨x, rfl, _⟩, _⟩ := h
    rfl
  · obtain ⟨v, ⟨x, rfl, h0, h1, rfl⟩, k⟩ := h
    refine ⟨_, (pss_one (ps_if (pt_not (pt_val (pe_call (ok_is_number T) (hr.mono (by decide)) (by rfl) T.g_is_number T.f_is_number.kp T.b_is_number .nil pass0 (pa_cons (pv 0) (pa_cons pe_int (pa_cons (pe_glob (v := .int 300) (by rfl) T.c_MOST_GLASSES.choose_spec ⟨_, rfl⟩) pa_nil)))))) (pss_one ps_never) pss_nil)), ?_⟩
    refine s_when (et_not (et_B (ev_p (ea_cons (ev_var rfl) (ea_cons ev_c (ea_cons ev_c ea_nil))) ⟨x, 0, 300, rfl, rfl⟩))) (fun hb H1 e1 => ?_) (fun _ H1 e1 => k H1 e1)
    rw [decide_eq_true h0, decide_eq_true h1] at hb
    exact absurd hb (by decide)
theorem ok_check_tries (T : Tx K mg A) : FnOk P w K mg base CX0 2 A.a_check_tries A.d_check_tries ["tries"] (spP (rChk (10^40))) := by
  refine T.f_check_tries.ok sc_check_tries (fun vs H Q E h => ?_) (fun cdv Ar outer s H vs Q E hr h => ?_)
  · obtain ⟨v, ⟨x, rfl, _⟩, _⟩ := h
    rfl
  · obtain ⟨v, ⟨x, rfl, h0, h1, rfl⟩, k⟩ := h
    refine ⟨_, (pss_one (ps_if (pt_not (pt_val (pe_call (ok_is_number T) (hr.mono (by decide)) (by rfl) T.g_is_number T.f_is_number.kp T.b_is_number .nil pass0 (pa_cons (pv 0) (pa_cons pe_int (pa_cons (pe_glob (v := .int 10000000000000000000000000000000000000000) (by rfl) T.c_MOST_TRIES.choose_spec ⟨_, rfl⟩) pa_nil)))))) (pss_one ps_never) pss_nil)), ?_⟩
    refine s_when (et_not (et_B (ev_p (ea_cons (ev_var rfl) (ea_cons ev_c (ea_cons ev_c ea_nil))) ⟨x, 0, 10^40, rfl, rfl⟩))) (fun hb H1 e1 => ?_) (fun _ H1 e1 => k H1 e1)
    rw [decide_eq_true h0, decide_eq_true h1] at hb
    exact absurd hb (by decide)
def rReached (vs : List V) (v : V) : Prop := ∃ t g : Nat, vs = [.int (t : Int), .int (g : Int)] ∧ t < 2 ^ 256 ∧ g ≤ 400 ∧ v = .int ((R t g : Nat) : Int)
/-! ### reached -/
theorem ok_reached (T : Tx K mg A) : FnOk P w K mg base CX0 1 A.a_reached A.d_reached ["tries", "glasses"] (spP rReached) := by
  refine T.f_reached.ok sc_reached (fun vs H Q E h => ?_) (fun cdv Ar outer s H vs Q E hr h => ?_)
  · obtain ⟨v, ⟨t, g, rfl, _⟩, _⟩ := h
    rfl
  · obtain ⟨v, ⟨t, g, rfl, ht, hg, rfl⟩, k⟩ := h
    refine ⟨_, (pss_cons (ps_set (i := 2) sc_reached.nd rfl (.inl rfl) pe_int)
      (pss_cons (ps_set (i := 3) sc_reached.nd rfl (.inl rfl) pe_int)
      (pss_cons (ps_for PassesOwn.never rfl (pi_range2 (by rfl) T.z_range (pa_cons pe_int (pa_cons (pe_op op_add (pe_callB (call_min2 rfl) (by rfl) T.z_min (by decide +kernel) (pa_cons (pv 0) (pa_cons (pv 1) pa_nil))) pe_int) pa_nil))) (pg_name (i := 4) sc_reached.nd rfl (.inl rfl))
        (pss_cons (ps_set (i := 3) sc_reached.nd rfl (.inl rfl) (pe_op op_fdivW (pe_op op_mulX (pv 3) (pe_op op_add (pe_op op_sub (pv 0) (pv 4)) pe_int)) (pv 4)))
      (pss_one (ps_aug (i := 2) sc_reached.nd rfl (.inl rfl) (pv 3) ip_add))))
      (pss_one (ps_ret (pv 2)))))), ?_⟩
    refine q_asg ev_c fun H1 e1 => q_asg ev_c fun H2 e2 => ?_
    have hm : min t g ≤ 400 := Nat.le_trans (Nat.min_le_right t g) hg
    refine q_forR2 (lo := 1) (n := ((min t g : Nat) : Int) + 1) (ea_cons ev_c (ea_cons (ev_op (ev_is (ev_cb (ea_cons (ev_var rfl) (ea_cons (ev_var rfl) ea_nil)) rc_min2) (congrArg V.int (min_nat t g))) ev_c rv_I0) ea_nil)) ⟨by omega, by omega, by omega, by omega⟩
      (fun i σ' H' => ∃ y, σ' = [some (.int (t : Int)), some (.int (g : Int)), some (.int ((R t i : Nat) : Int)), some (.int ((bin t i : Nat) : Int)), y] ∧ Ex H H') (fun H3 e3 => ⟨none, by rw [bin_zero]; rfl, (e1.trans e2).trans e3⟩) ?_ ?_
    · rintro i σ' H' hi ⟨y, rfl, e'⟩
      have hit : i < t := by have := Nat.min_le_left t g; omega
      have hik : i ≤ 400 := by omega
      have e4 : (t : Int) - (1 + (i : Int)) + 1 = ((t - i : Nat) : Int) := by omega
      have e5 : (1 : Int) + (i : Int) = ((i + 1 : Nat) : Int) := by omega
      refine q_asg (v := .int ((bin t (i + 1) : Nat) : Int)) (ev_is (ev_op (ev_op (ev_var rfl) (ev_op (ev_op (ev_var rfl) (ev_var rfl) rv_I0) ev_c rv_I0) (rv_I ?_)) (ev_var rfl) (rv_I ?_)) ?_) fun H3 e3 => ?_
      · rw [e4]
        exact mulx_ok (nat_bits (bin_bits ht hik)) (nat_bits (Nat.lt_of_le_of_lt (Nat.sub_le t i) ht)) (by decide)
      · rw [e5]
        exact wide_div (b := 30) (by omega) (by rw [Int.natAbs_natCast]; exact Nat.lt_of_le_of_lt (show i + 1 ≤ 401 by omega) (by decide)) (by decide) (by decide)
      · rw [e4, e5]
        refine congrArg V.int ?_
        rw [← Int.natCast_mul, ← Int.natCast_ediv, bin_div]
      · refine s_aug (f := fun i j => i + j) rfl (ev_var rfl) fun H4 e4 => ⟨some (.int (1 + (i : Int))), rfl, (e'.trans e3).trans e4⟩
    · rintro σ' H' ⟨y, rfl, e'⟩
      refine s_ret (ev_var rfl) fun H3 e3 => ?_
      have en : (((min t g : Nat) : Int) + 1 - 1).toNat = min t g := by omega
      rw [en, R_min]
      exact k H3 (e'.trans e3)
/-! ### answer, where there are more storeys than can be found -/
def sAns (t g x : Nat) : Str := if R (t - 1) (g - 1) < x - 1 then "breaks" else "holds"
def rAnswer (vs : List V) (v : V) : Prop := ∃ s g t x : Nat, vs = [.int (s : Int), .int (g : Int), .int (t : Int), .int (x : Int)] ∧ s ≤ 10 ^ 60 ∧ g ≤ 300 ∧ t ≤ 10 ^ 40 ∧ 0 < g ∧ 0 < t ∧ R t g < s ∧ 1 ≤ x ∧ x ≤ s ∧ v = .str (sAns t g x)
theorem ok_answer (T : Tx K mg A) : FnOk P w K mg base CX0 3 A.a_answer A.d_answer ["storeys", "glasses", "tries", "storey"] (spP rAnswer) := by
  refine T.f_answer.ok sc_answer (fun vs H Q E h => ?_) (fun cdv Ar outer s H vs Q E hr h => ?_)
  · obtain ⟨v, ⟨s, g, t, x, rfl, _⟩, _⟩ := h
    rfl
  · obtain ⟨v, ⟨st, g, t, x, rfl, hs, hg, ht, g0, t0, hR, x1, x2, rfl⟩, k⟩ := h
    refine ⟨_, (pss_cons (ps_expr (pe_call (ok_check_storeys T) (hr.mono (by decide)) (by rfl) T.g_check_storeys T.f_check_storeys.kp T.b_check_storeys .nil pass0 (pa_cons (pv 0) pa_nil)))
      (pss_cons (ps_expr (pe_call (ok_check_glasses T) (hr.mono (by decide)) (by rfl) T.g_check_glasses T.f_check_glasses.kp T.b_check_glasses .nil pass0 (pa_cons (pv 1) pa_nil)))
      (pss_cons (ps_expr (pe_call (ok_check_tries T) (hr.mono (by decide)) (by rfl) T.g_check_tries T.f_check_tries.kp T.b_check_tries .nil pass0 (pa_cons (pv 2) pa_nil)))
      (pss_cons (ps_if (PW.pt (pw_or (pt_cmpR op_eq (pv 1) pe_int (nomark _)) (pw_or1 (pt_cmpR op_eq (pv 2) pe_int (nomark _))))) (pss_one ps_never) pss_nil)
      (pss_cons (ps_if (pt_cmpR op_ge (pe_call (ok_reached T) (hr.mono (by decide)) (by rfl) T.g_reached T.f_reached.kp T.b_reached .nil pass0 (pa_cons (pv 2) (pa_cons (pv 1) pa_nil))) (pv 0) (nomark _)) (pss_one ps_never) pss_nil)
      (pss_cons (ps_if (pt_not (pt_val (pe_call (ok_is_number T) (hr.mono (by decide)) (by rfl) T.g_is_number T.f_is_number.kp T.b_is_number .nil pass0 (pa_cons (pv 3) (pa_cons pe_int (pa_cons (pv 0) pa_nil)))))) (pss_one ps_never) pss_nil)
      (pss_cons (ps_if (pt_cmpR op_gt (pe_op op_sub (pv 3) pe_int) (pe_call (ok_reached T) (hr.mono (by decide)) (by rfl) T.g_reached T.f_reached.kp T.b_reached .nil pass0 (pa_cons (pe_op op_sub (pv 2) pe_int) (pa_cons (pe_op op_sub (pv 1) pe_int) pa_nil))) (nomark _)) (pss_one (ps_ret pe_str)) pss_nil)
      (pss_one (ps_ret pe_str))))))))), ?_⟩
    refine q_drop (ev_p (ea_cons (ev_var rfl) ea_nil) ⟨st, rfl, by omega, by omega, rfl⟩) fun H1 e1 => ?_
    refine q_drop (ev_p (ea_cons (ev_var rfl) ea_nil) ⟨g, rfl, by omega, by omega, rfl⟩) fun H2 e2 => ?_
    refine q_drop (ev_p (ea_cons (ev_var rfl) ea_nil) ⟨t, rfl, by omega, by omega, rfl⟩) fun H3 e3 => ?_
    refine q_when (et_or (et_test (ev_op (ev_var rfl) ev_c rv_eqI)) fun _ => et_test (ev_op (ev_var rfl) ev_c rv_eqI)) (fun hb => absurd hb ?_) fun _ H4 e4 => ?_
    · rw [decide_eq_false (show ¬ (g : Int) = 0 by omega), decide_eq_false (show ¬ (t : Int) = 0 by omega)]
      decide
    refine q_when (et_test (ev_op (ev_p (ea_cons (ev_var rfl) (ea_cons (ev_var rfl) ea_nil)) ⟨t, g, rfl, by omega, by omega, rfl⟩) (ev_var rfl) rv_I0)) (fun hb => absurd (of_decide_eq_true hb) (by omega)) fun _ H5 e5 => ?_
    refine q_when (et_not (et_B (ev_p (ea_cons (ev_var rfl) (ea_cons ev_c (ea_cons (ev_var rfl) ea_nil))) ⟨x, 1, st, rfl, rfl⟩))) (fun hb => absurd hb ?_) fun _ H6 e6 => ?_
    · rw [decide_eq_true (show (1 : Int) ≤ (x : Int) by omega), decide_eq_true (show (x : Int) ≤ (st : Int) by omega)]
      decide
    have eH := ((((e1.trans e2).trans e3).trans e4).trans e5).trans e6
    refine q_when (et_test (ev_op (ev_op (ev_var rfl) ev_c rv_I0) (ev_p (ea_cons (ev_op (ev_var rfl) ev_c rv_I0) (ea_cons (ev_op (ev_var rfl) ev_c rv_I0) ea_nil)) ⟨t - 1, g - 1, args2 (by omega) (by omega), by omega, by omega, rfl⟩) rv_I0)) (fun hb H7 e7 => ?_) fun hb H7 e7 => ?_
    · refine s_ret ev_c fun H8 e8 => ?_
      have q := k H8 ((eH.trans e7).trans e8)
      have c := of_decide_eq_true hb
      unfold sAns at q
      rw [if_pos (by omega)] at q
      exact q
    · refine s_ret ev_c fun H8 e8 => ?_
      have q := k H8 ((eH.trans e7).trans e8)
      have c := of_decide_eq_false hb
      unfold sAns at q
      rw [if_neg (by omega)] at q
      exact q
/-! ### _law_reach: numbers going down shared by such going up -/
theorem ok_law_reach (T : Tx K mg A) : FnOk P w K mg base CX0 1 A.a_law_reach A.d_law_reach ["_law_tries", "_law_glasses"] (spP rReached) := by
  refine T.f_law_reach.ok sc_law_reach (fun vs H Q E h => ?_) (fun cdv Ar outer s H vs Q E hr h => ?_)
  · obtain ⟨v, ⟨t, g, rfl, _⟩, _⟩ := h
    rfl
  · obtain ⟨v, ⟨t, g, rfl, ht, hg, rfl⟩, k⟩ := h
    refine ⟨_, (pss_cons (ps_asg (pe_tup (pa_cons pe_int (pa_cons pe_int (pa_cons pe_int pa_nil)))) (pg_tup rfl (pgs_cons (pg_name (i := 2) sc_law_reach.nd rfl (.inl rfl)) (pgs_cons (pg_name (i := 3) sc_law_reach.nd rfl (.inl rfl)) (pgs_cons (pg_name (i := 4) sc_law_reach.nd rfl (.inl rfl)) pgs_nil)))))
      (pss_cons (ps_for PassesOwn.never rfl (pi_range1 (by rfl) T.z_range (pa_cons (pe_callB (call_min2 rfl) (by rfl) T.z_min (by decide +kernel) (pa_cons (pv 0) (pa_cons (pv 1) pa_nil))) pa_nil)) (pg_name (i := 5) sc_law_reach.nd rfl (.inl rfl))
        (pss_cons (ps_par (i := 3) (j := 4) (by rfl) sc_law_reach.nd rfl rfl (by decide) rfl rfl (pa_cons (pe_op op_mulX (pv 3) (pe_op op_sub (pv 0) (pv 5))) (pa_cons (pe_op op_mulX (pv 4) (pe_op op_add (pv 5) pe_int)) pa_nil)) (by rfl))
      (pss_one (ps_set (i := 2) sc_law_reach.nd rfl (.inl rfl) (pe_op op_add (pv 2) (pe_op op_fdivW (pv 3) (pv 4)))))))
      (pss_one (ps_ret (pv 2))))), ?_⟩
    refine q_asg3 (eu_tup (ea_cons ev_c (ea_cons ev_c (ea_cons ev_c ea_nil))) (by decide)) fun H1 e1 => ?_
    have hm : min t g ≤ 400 := Nat.le_trans (Nat.min_le_right t g) hg
    refine q_forR1 (n := ((min t g : Nat) : Int)) (ea_cons (ev_is (ev_cb (ea_cons (ev_var rfl) (ea_cons (ev_var rfl) ea_nil)) rc_min2) (congrArg V.int (min_nat t g))) ea_nil) ⟨by omega, by omega⟩
      (fun i σ' H' => ∃ y, σ' = [some (.int (t : Int)), some (.int (g : Int)), some (.int ((R t i : Nat) : Int)), some (.int ((bin t i * fact i : Nat) : Int)), some (.int ((fact i : Nat) : Int)), y] ∧ Ex H H') (fun H3 e3 => ⟨none, by rw [bin_zero]; rfl, e1.trans e3⟩) ?_ ?_
    · rintro i σ' H' hi ⟨y, rfl, e'⟩
      have hit : i < t := by have := Nat.min_le_left t g; omega
      have hik : i + 1 ≤ 400 := by omega
      have e4 : (t : Int) - (i : Int) = ((t - i : Nat) : Int) := by omega
      have e5 : (i : Int) + 1 = ((i + 1 : Nat) : Int) := by omega
      refine q_par (u := .int ((bin t (i + 1) * fact (i + 1) : Nat) : Int)) (w := .int ((fact (i + 1) : Nat) : Int)) (ea_cons (ev_is (ev_op (ev_var rfl) (ev_op (ev_var rfl) (ev_var rfl) rv_I0) (rv_I ?_)) ?_) (ea_cons (ev_is (ev_op (ev_var rfl) (ev_op (ev_var rfl) ev_c rv_I0) (rv_I ?_)) ?_) ea_nil)) fun H3 e3 => ?_
      · rw [e4]
        exact mulx_ok (nat_bits (above_bits ht (by omega))) (nat_bits (Nat.lt_of_le_of_lt (Nat.sub_le t i) ht)) (by decide)
      · rw [e4, ← Int.natCast_mul, above_step]
      · rw [e5]
        exact mulx_ok (nat_bits (fact_bits (show i ≤ 400 by omega))) (nat_bits (b := 30) (Nat.lt_of_le_of_lt hik (by decide))) (by decide)
      · rw [e5, ← Int.natCast_mul]
        rfl
      · refine s_asg (v := .int ((R t (i + 1) : Nat) : Int)) (ev_is (ev_op (ev_var rfl) (ev_op (ev_var rfl) (ev_var rfl) (rv_I ?_)) rv_I0) ?_) fun H4 e4 => ⟨some (.int (i : Int)), rfl, (e'.trans e3).trans e4⟩
        · exact wide_div (b := BF) (by have := fact_pos (i + 1); omega) (nat_bits (fact_bits hik)) (by decide) (by decide)
        · rw [← Int.natCast_ediv, above_div, ← Int.natCast_add]
          rfl
    · rintro σ' H' ⟨y, rfl, e'⟩
      refine s_ret (ev_var rfl) fun H3 e3 => ?_
      rw [Int.toNat_natCast, R_min]
      exact k H3 (e'.trans e3)
/-! ### _law_states: rows of storeys, glasses and tries -/
def okRow (r : Nat × Nat × Nat) : Prop := r.1 ≤ 10 ^ 60 ∧ r.2.1 ≤ 300 ∧ r.2.2 ≤ 10 ^ 40
def rowV (r : Nat × Nat × Nat) : List V := [.int (r.1 : Int), .int (r.2.1 : Int), .int (r.2.2 : Int)]
def GoodRows (n : Nat) (v : V) (H : Hp) : Prop := ∃ (p : Addr) (rows : List (Nat × Nat × Nat)), v = .ref p ∧ (∀ r ∈ rows, okRow r) ∧ rows.length ≤ n ∧ ListT H p (rows.map rowV)
def rStates (K : PySem.W.Frag) (H : Hp) (vs : List V) (Post : V → Hp → Prop) : Prop := ∃ (a : Addr) (ns : List Int), vs = [.ref a] ∧ SqL K H a (ns.map V.int) ∧ ns.length ≤ 63 ∧ (∀ z ∈ ns, Builtin.Int.intBits z ≤ 1048576) ∧ Post = GoodRows ns.length
/-- the menu of the greatest numbers -/
theorem menu_row (c : Int) : ∃ (n : Nat) (M L Z : Nat), c % 4 = (n : Int) ∧ ([[V.int 200, .int 7, .int 12], [.int (10 ^ (6 : Int).toNat), .int 20, .int 40], [.int (10 ^ (60 : Int).toNat), .int 40, .int 250], [.int (10 ^ (60 : Int).toNat), .int 9, .int (10 ^ (40 : Int).toNat)]] : List (List V))[n]? = some [.int (M : Int), .int (L : Int), .int (Z : Int)] ∧
    0 < M ∧ M ≤ 10 ^ 60 + 1 ∧ 0 < L ∧ L ≤ 301 ∧ 0 < Z ∧ Z ≤ 10 ^ 40 + 1 := by
  have h0 : 0 ≤ c % 4 := Int.emod_nonneg c (by decide)
  have h1 : c % 4 < 4 := Int.emod_lt_of_pos c (by decide)
  rcases (show c % 4 = 0 ∨ c % 4 = 1 ∨ c % 4 = 2 ∨ c % 4 = 3 by omega) with h | h | h | h
  · exact ⟨0, 200, 7, 12, h, rfl, by decide, by decide, by decide, by decide, by decide, by decide⟩
  · exact ⟨1, 10 ^ 6, 20, 40, h, rfl, by decide, by decide, by decide, by decide, by decide, by decide⟩
  · exact ⟨2, 10 ^ 60, 40, 250, h, rfl, by decide, by decide, by decide, by decide, by decide, by decide⟩
  · exact ⟨3, 10 ^ 60, 9, 10 ^ 40, h, rfl, by decide, by decide, by decide, by decide, by decide, by decide⟩
theorem menu_two (c : Int) : ∃ Z : Nat, atI [V.int 300, .int (10 ^ (40 : Int).toNat + 1)] (c % 2) = some (.int (Z : Int)) ∧ 0 < Z ∧ Z ≤ 10 ^ 40 + 1 := by
  have h0 : 0 ≤ c % 2 := Int.emod_nonneg c (by decide)
  have h1 : c % 2 < 2 := Int.emod_lt_of_pos c (by decide)
  rcases (show c % 2 = 0 ∨ c % 2 = 1 by omega) with h | h
  · exact ⟨300, by rw [h]; exact atI_nat (j := 0) rfl, by decide, by decide⟩
  · exact ⟨10 ^ 40 + 1, by rw [h]; exact atI_nat (j := 1) rfl, by decide, by decide⟩
theorem small_div {n : Nat} (h0 : 0 < n) (h : n ≤ 10 ^ 60 + 1) (i : Int) : CDivW i (n : Int) := wide_div (b := 201) (by omega) (nat_bits (Nat.lt_of_le_of_lt h (by decide))) (by decide) (by decide)
theorem mod_nat {n : Nat} (h0 : 0 < n) (i : Int) : ∃ m : Nat, i % (n : Int) = (m : Int) ∧ m < n := by
  have h1 : 0 ≤ i % (n : Int) := Int.emod_nonneg i (by omega)
  have h2 : i % (n : Int) < (n : Int) := Int.emod_lt_of_pos i (by omega)
  exact ⟨(i % (n : Int)).toNat, by omega, by omega⟩
theorem bits_lt {z : Int} {b : Nat} (h : Builtin.Int.intBits z ≤ b) : z.natAbs < 2 ^ b := by
  unfold Builtin.Int.intBits at h
  split at h
  · rename_i e
    have e' : z = 0 := by simpa using e
    subst e'
    exact Nat.pos_of_ne_zero (by simp)
  · exact Nat.lt_of_lt_of_le Nat.lt_log2_self (Nat.pow_le_pow_right (by decide) h)
def BS : Nat := 1048576
theorem part_bits {x y : Int} {i : Nat} (hx : x.natAbs < 2 ^ BS) (hy : y.natAbs < 2 ^ BS) (hi : i < 63) : (x * 48271 + y * 69621 + (i : Int) + 11).natAbs < 2 ^ (BS + 18) := by
  have e : 2 ^ (BS + 18) = 2 ^ BS * 262144 := by rw [Nat.pow_add]
  have h1 : 63 ≤ 2 ^ BS := by
    have : 2 ^ 6 ≤ 2 ^ BS := Nat.pow_le_pow_right (by decide) (by decide)
    omega
  rw [e]
  generalize 2 ^ BS = b at *
  omega
theorem ok_law_states (T : Tx K mg A) : FnOk P w K mg base CX0 1 A.a_law_states A.d_law_states ["_law_script"] (spN (rStates K)) := by
  refine T.f_law_states.ok sc_law_states (fun vs H Q E h => ?_) (fun cdv Ar outer s H vs Q E hr h => ?_)
  · obtain ⟨Post, ⟨a, ns, rfl, _⟩, _⟩ := h
    rfl
  · obtain ⟨Post, ⟨a, ns, rfl, hS, hlen, hbits, rfl⟩, k⟩ := h
    refine ⟨_, (pss_cons (ps_set (i := 0) sc_law_states.nd rfl (.inl rfl) (pe_slice sl_list (pv 0) po_none (po_some pe_int)))
      (pss_cons (ps_par3 (i := 1) (j := 2) (l := 3) (by rfl) sc_law_states.nd rfl rfl rfl (by decide) (by decide) (by decide) rfl rfl rfl (pa_cons (pe_callB (cr_sum rfl) (by rfl) T.z_sum (by decide +kernel) (pa_cons (pv 0) pa_nil)) (pa_cons (pe_lst pa_nil) (pa_cons (pe_callB call_len_seq (by rfl) T.z_len (by decide +kernel) (pa_cons (pv 0) pa_nil)) pa_nil))) (by rfl))
      (pss_cons (ps_asg (pe_ix ix_tup (pe_tup (pa_cons (pe_tup (pa_cons pe_int (pa_cons pe_int (pa_cons pe_int pa_nil)))) (pa_cons (pe_tup (pa_cons (pe_op op_pow pe_int pe_int) (pa_cons pe_int (pa_cons pe_int pa_nil)))) (pa_cons (pe_tup (pa_cons (pe_op op_pow pe_int pe_int) (pa_cons pe_int (pa_cons pe_int pa_nil)))) (pa_cons (pe_tup (pa_cons (pe_op op_pow pe_int pe_int) (pa_cons pe_int (pa_cons (pe_op op_pow pe_int pe_int) pa_nil)))) pa_nil))))) (pe_op op_mod (pv 1) pe_int) (fun _ _ => rfl)) (pg_tup rfl (pgs_cons (pg_name (i := 4) sc_law_states.nd rfl (.inl rfl)) (pgs_cons (pg_name (i := 5) sc_law_states.nd rfl (.inl rfl)) (pgs_cons (pg_name (i := 6) sc_law_states.nd rfl (.inl rfl)) pgs_nil)))))
      (pss_cons (ps_if (pt_cmpR op_eq (pe_op op_mod (pe_op op_fdivW (pv 1) pe_int) pe_int) pe_int (nomark _)) (pss_one (ps_par3 (i := 4) (j := 5) (l := 6) (by rfl) sc_law_states.nd rfl rfl rfl (by decide) (by decide) (by decide) rfl rfl rfl (pa_cons (pe_op op_add (pe_op op_pow pe_int pe_int) pe_int) (pa_cons pe_int (pa_cons (pe_ix ix_tup (pe_tup (pa_cons pe_int (pa_cons (pe_op op_add (pe_op op_pow pe_int pe_int) pe_int) pa_nil))) (pe_op op_mod (pv 1) pe_int) (fun _ _ => rfl)) pa_nil))) (by rfl))) pss_nil)
      (pss_cons (ps_for PassesOwn.never rfl (pi_range1 (by rfl) T.z_range (pa_cons (pe_ifExp (pt_cmpR op_eq (pv 5) pe_int (nomark _)) (pe_callB (call_min2 rfl) (by rfl) T.z_min (by decide +kernel) (pa_cons (pv 3) (pa_cons pe_int pa_nil))) (pv 3)) pa_nil)) (pg_name (i := 7) sc_law_states.nd rfl (.inl rfl))
        (pss_cons (ps_par (i := 8) (j := 9) (by rfl) sc_law_states.nd rfl rfl (by decide) rfl rfl (pa_cons (pe_ix ix_list (pv 0) (pv 7) (fun _ _ => rfl)) (pa_cons (pe_ix ix_list (pv 0) (pe_op op_mod (pe_op op_add (pv 7) pe_int) (pv 3)) (fun _ _ => rfl)) pa_nil)) (by rfl))
      (pss_cons (ps_set (i := 10) sc_law_states.nd rfl (.inl rfl) (pe_ix ix_list (pv 0) (pe_op op_mod (pe_op op_add (pv 7) pe_int) (pv 3)) (fun _ _ => rfl)))
      (pss_cons (ps_if (pt_cmpR op_eq (pe_op op_mod (pe_op op_fdivW (pv 1) pe_int) pe_int) pe_int (nomark _)) (pss_cons (ps_set (i := 11) sc_law_states.nd rfl (.inl rfl) (pe_op op_add (pe_op op_add (pe_op op_add (pe_op op_mulX (pv 8) pe_int) (pe_op op_mulX (pv 9) pe_int)) (pv 7)) pe_int))
      (pss_cons (ps_set (i := 8) sc_law_states.nd rfl (.inl rfl) (pe_op op_mulX (pe_op op_mulX (pv 11) (pv 11)) (pv 11)))
      (pss_cons (ps_set (i := 9) sc_law_states.nd rfl (.inl rfl) (pe_op op_add (pv 9) (pe_op op_mod (pe_op op_mulX (pv 11) (pv 11)) pe_int)))
      (pss_one (ps_set (i := 10) sc_law_states.nd rfl (.inl rfl) (pe_op op_add (pv 10) (pe_op op_mod (pe_op op_mulX (pv 11) (pv 11)) pe_int))))))) pss_nil)
      (pss_cons (ps_set (i := 12) sc_law_states.nd rfl (.inl rfl) (pe_op op_fdivW (pv 8) (pv 4)))
      (pss_one (ps_expr (pe_bm PySem.F.plainAttrs_list PySem.F.slot_list_append PySem.F.type_list_append mt_append (pv 2) (pa_cons (pe_tup (pa_cons (pe_op op_mod (pv 8) (pv 4)) (pa_cons (pe_op op_mod (pe_op op_add (pv 12) (pv 9)) (pv 5)) (pa_cons (pe_op op_mod (pe_op op_add (pe_op op_fdivW (pv 12) (pv 5)) (pv 10)) (pv 6)) pa_nil)))) pa_nil)))))))))
      (pss_one (ps_ret (pv 2)))))))), ?_⟩
    -- the first 63 cells
    refine q_asgL (el_sl (ev_var rfl) eo_none (eo_some ev_c) hS) fun c H1 hc e1 h1 => ?_
    rw [cut63, List.take_of_length_le hlen] at h1
    -- their sum, a new list, how many
    refine q_par3L (ev_cb (ea_cons (ev_var rfl) ea_nil) (rc_sum (sq_of h1))) (el_lst ea_nil (by decide)) (ev_cb (ea_cons (ev_var rfl) ea_nil) (rc_lenL (sq_of h1))) fun f H2 hf e2 h2 => ?_
    rw [List.length_map]
    have hcf : c ≠ f := ne_of_none h1 hf
    have hHf : H f = none := fresh_back e1 hf
    -- the menu, then the few cells with glasses to 300
    obtain ⟨n, M, L, Z, hn, hrow, m0, m1, l0, l1, z0, z1⟩ := menu_row ns.sum
    refine q_menu3 (eau_cons (eu_tup (ea_cons ev_c (ea_cons ev_c (ea_cons ev_c ea_nil))) (by decide)) (eau_cons (eu_tup (ea_cons (ev_op ev_c ev_c (rv_I (by show CPow _ _; exact ⟨by decide, by decide, by decide⟩))) (ea_cons ev_c (ea_cons ev_c ea_nil))) (by decide))
      (eau_cons (eu_tup (ea_cons (ev_op ev_c ev_c (rv_I (by show CPow _ _; exact ⟨by decide, by decide, by decide⟩))) (ea_cons ev_c (ea_cons ev_c ea_nil))) (by decide)) (eau_cons (eu_tup (ea_cons (ev_op ev_c ev_c (rv_I (by show CPow _ _; exact ⟨by decide, by decide, by decide⟩))) (ea_cons ev_c (ea_cons (ev_op ev_c ev_c (rv_I (by show CPow _ _; exact ⟨by decide, by decide, by decide⟩))) ea_nil))) (by decide)) eau_nil))))
      (ev_op (ev_var rfl) ev_c (rv_I (by show (0 : Int) < _; decide))) (by decide) hn hrow fun H3 e3 => ?_
    -- the loop, whatever the three numbers are
    refine q_rest (fun σ' H3 => ∃ (M L Z : Nat), σ' = [some (.ref c), some (.int ns.sum), some (.ref f), some (.int (ns.length : Int)), some (.int (M : Int)), some (.int (L : Int)), some (.int (Z : Int)), none, none, none, none, none, none] ∧ 0 < M ∧ M ≤ 10 ^ 60 + 1 ∧ 0 < L ∧ L ≤ 301 ∧ 0 < Z ∧ Z ≤ 10 ^ 40 + 1 ∧ Ex H2 H3) ?rest fun rest => ?main
    case rest =>
      clear e3 hrow hn m0 m1 l0 l1 z0 z1
      rintro _ H3 ⟨M, L, Z, rfl, m0, m1, l0, l1, z0, z1, e3⟩
      have hn : ∃ n : Nat, n ≤ ns.length ∧ (n : Int) = (if (L : Int) = 301 then (if (4 : Int) < (ns.length : Int) then 4 else (ns.length : Int)) else (ns.length : Int)) := by
        by_cases q1 : (L : Int) = 301
        · by_cases q2 : (4 : Int) < (ns.length : Int)
          · exact ⟨4, by omega, by rw [if_pos q1, if_pos q2]; rfl⟩
          · exact ⟨ns.length, by omega, by rw [if_pos q1, if_neg q2]⟩
        · exact ⟨ns.length, by omega, by rw [if_neg q1]⟩
      obtain ⟨n, hn1, hn2⟩ := hn
      refine q_forR1 (n := (n : Int)) (ea_cons (ev_if (et_test (ev_op (ev_var rfl) ev_c rv_eqI)) (fun hb => ev_is (ev_cb (ea_cons (ev_var rfl) (ea_cons ev_c ea_nil)) rc_min2) ?_) (fun hb => ev_is (ev_var rfl) ?_)) ea_nil) ⟨by omega, by omega⟩
        (fun i σ' H' => ∃ y0 y1 y2 y3 y4 y5, σ' = [some (.ref c), some (.int ns.sum), some (.ref f), some (.int (ns.length : Int)), some (.int (M : Int)), some (.int (L : Int)), some (.int (Z : Int)), y0, y1, y2, y3, y4, y5] ∧ Ex H H' ∧ H' c = some (.lst (ns.map V.int)) ∧
          ∃ (as : List Addr) (rows : List (Nat × Nat × Nat)), H' f = some (.lst (as.map V.ref)) ∧ TupsAt H' as (rows.map rowV) ∧ rows.length = i ∧ ∀ r ∈ rows, okRow r) (fun H4 e4 => ?_) ?_ ?_
      · rw [hn2, if_pos (of_decide_eq_true hb)]
      · rw [hn2, if_neg (of_decide_eq_false hb)]
      · exact ⟨none, none, none, none, none, none, rfl, ((e1.trans e2).trans e3).trans e4, e4 _ _ (e3 _ _ (e2 _ _ h1)), [], [], e4 _ _ (e3 _ _ h2), .nil, rfl, fun r hr => by cases hr⟩
      · rintro i σ' H' hi ⟨y0, y1, y2, y3, y4, y5, rfl, eH, hc', as, rows, hf', hT, hrl, hok⟩
        have hil : i < ns.length := by omega
        have hpos : 0 < ns.length := by omega
        have at1 : atI (ns.map V.int) (i : Int) = some (.int ns[i]) := atI_nat (by rw [List.getElem?_map, List.getElem?_eq_getElem hil]; rfl)
        have atm : ∀ j : Nat, ∃ z, z ∈ ns ∧ atI (ns.map V.int) (((i : Int) + (j : Int)) % (ns.length : Int)) = some (.int z) := fun j => by
          have hl : (i + j) % ns.length < ns.length := Nat.mod_lt _ hpos
          refine ⟨ns[(i + j) % ns.length], List.getElem_mem hl, ?_⟩
          rw [← Int.natCast_add, ← Int.natCast_emod]
          exact atI_nat (by rw [List.getElem?_map, List.getElem?_eq_getElem hl]; rfl)
        obtain ⟨b1, hb1, at2⟩ := atm 1
        obtain ⟨b2, hb2, at3⟩ := atm 2
        have hsq : SqL K H' c (ns.map V.int) := sq_of hc'
        refine q_par (ea_cons (ev_op (ev_var rfl) (ev_var rfl) (rv_ixL hsq at1)) (ea_cons (ev_op (ev_var rfl) (ev_op (ev_op (ev_var rfl) ev_c rv_I0) (ev_var rfl) (rv_I (by show (0 : Int) < _; omega))) (rv_ixL hsq at2)) ea_nil)) fun H4 e4 => ?_
        refine q_asg (ev_op (ev_var rfl) (ev_op (ev_op (ev_var rfl) ev_c rv_I0) (ev_var rfl) (rv_I (by show (0 : Int) < _; omega))) (rv_ixL (ex_l e4 hsq) at3)) fun H5 e5 => ?_
        have w0 : (ns[i]).natAbs < 2 ^ BS := bits_lt (hbits _ (List.getElem_mem hil))
        have w1 : b1.natAbs < 2 ^ BS := bits_lt (hbits _ hb1)
        have w2 : b2.natAbs < 2 ^ BS := bits_lt (hbits _ hb2)
        have e45 := e4.trans e5
        -- the row is laid, whatever the three cells are
        refine q_rest (fun σ' H6 => ∃ (o1 o2 o3 : Int) (yy : Option V), σ' = [some (.ref c), some (.int ns.sum), some (.ref f), some (.int (ns.length : Int)), some (.int (M : Int)), some (.int (L : Int)), some (.int (Z : Int)), some (.int (i : Int)), some (.int o1), some (.int o2), some (.int o3), yy, y5] ∧ Ex H' H6) ?lay fun lay => ?fork
        case lay =>
          rintro _ H6 ⟨o1, o2, o3, yy, rfl, e6⟩
          refine q_asg (ev_op (ev_var rfl) (ev_var rfl) (rv_I (small_div m0 m1 _))) fun H7 e7 => ?_
          have hf7 : H7 f = some (.lst (as.map V.ref)) := e7 _ _ (e6 _ _ hf')
          obtain ⟨s1, es1, ls1⟩ := mod_nat m0 o1
          obtain ⟨s2, es2, ls2⟩ := mod_nat l0 (o1 / (M : Int) + o2)
          obtain ⟨s3, es3, ls3⟩ := mod_nat z0 (o1 / (M : Int) / (L : Int) + o3)
          refine s_appU hf7 (ev_var rfl) (eu_tup (ea_cons (ev_op (ev_var rfl) (ev_var rfl) (rv_I (by show (0 : Int) < _; omega))) (ea_cons (ev_op (ev_op (ev_var rfl) (ev_var rfl) rv_I0) (ev_var rfl) (rv_I (by show (0 : Int) < _; omega)))
            (ea_cons (ev_op (ev_op (ev_op (ev_var rfl) (ev_var rfl) (rv_I (small_div l0 (Nat.le_trans l1 (by decide)) _))) (ev_var rfl) rv_I0) (ev_var rfl) (rv_I (by show (0 : Int) < _; omega))) ea_nil))) (by show 3 ≤ 100000; decide)) (by rw [List.length_map, hT.1, List.length_map]; omega) fun q H8 hq e8 h8 => ?_
          rw [es1, es2, es3] at h8
          have hf8 : H8 f = some (.lst (as.map V.ref)) := e8 _ _ hf7
          have hT8 : TupsAt H8 as (rows.map rowV) := hT.mono ((e6.trans e7).trans e8)
          refine ⟨_, _, _, _, _, _, rfl, Ex.mut (((eH.trans e6).trans e7).trans e8) hHf, ?_, as ++ [q], rows ++ [(s1, s2, s3)], ?_, ?_, ?_, ?_⟩
          · rw [upd_ne hcf]
            exact e8 _ _ (e7 _ _ (e6 _ _ hc'))
          · rw [upd_same, List.map_append]
            rfl
          · rw [List.map_append]
            exact (hT8.snoc h8).upd hf8
          · rw [List.length_append, hrl]
            rfl
          · intro r hr
            rcases List.mem_append.mp hr with z | z
            · exact hok r z
            · have er : r = (s1, s2, s3) := by simpa using z
              rw [er]
              exact ⟨by show s1 ≤ _; omega, by show s2 ≤ _; omega, by show s3 ≤ _; omega⟩
        refine q_when (et_test (ev_op (ev_op (ev_op (ev_var rfl) ev_c (rv_I (wide_div (b := 30) (by decide) (by decide) (by decide) (by decide)))) ev_c (rv_I (by show (0 : Int) < _; decide))) ev_c rv_eqI)) (fun _ H6 e6 => ?_) (fun _ H6 e6 => lay _ H6 ⟨_, _, _, _, rfl, e45.trans e6⟩)
        have hp := part_bits (x := ns[i]) (y := b1) (i := i) w0 w1 (by omega)
        have hm1 : ∀ z : Int, z.natAbs < 2 ^ BS → CMulX z 48271 := fun z hz => mulx_ok (b := 20) hz (by decide) (by decide)
        have hm2 : ∀ z : Int, z.natAbs < 2 ^ BS → CMulX z 69621 := fun z hz => mulx_ok (b := 20) hz (by decide) (by decide)
        have hpp := wide_lt hp hp
        refine q_asg (ev_op (ev_op (ev_op (ev_op (ev_var rfl) ev_c (rv_I (hm1 _ w0))) (ev_op (ev_var rfl) ev_c (rv_I (hm2 _ w1))) rv_I0) (ev_var rfl) rv_I0) ev_c rv_I0) fun H7 e7 => ?_
        refine q_asg (ev_op (ev_op (ev_var rfl) (ev_var rfl) (rv_I (mulx_ok hp hp (by decide)))) (ev_var rfl) (rv_I (mulx_ok hpp hp (by decide)))) fun H8 e8 => ?_
        refine q_asg (ev_op (ev_var rfl) (ev_op (ev_op (ev_var rfl) (ev_var rfl) (rv_I (mulx_ok hp hp (by decide)))) ev_c (rv_I (by show (0 : Int) < _; decide))) rv_I0) fun H9 e9 => ?_
        refine s_asg (ev_op (ev_var rfl) (ev_op (ev_op (ev_var rfl) (ev_var rfl) (rv_I (mulx_ok hp hp (by decide)))) ev_c (rv_I (by show (0 : Int) < _; decide))) rv_I0) fun H10 e10 => ?_
        exact lay _ H10 ⟨_, _, _, _, rfl, ((((e45.trans e6).trans e7).trans e8).trans e9).trans e10⟩
      · rintro σ' H' ⟨y0, y1, y2, y3, y4, y5, rfl, eH, hc', as, rows, hf', hT, hrl, hok⟩
        refine s_ret (ev_var rfl) fun H4 e4 => ?_
        rw [Int.toNat_natCast] at hrl
        exact k _ H4 (eH.trans e4) ⟨f, rows, rfl, hok, by omega, as, e4 _ _ hf', hT.mono e4⟩
    refine q_when (et_test (ev_op (ev_op (ev_op (ev_var rfl) ev_c (rv_I (wide_div (b := 30) (by decide) (by decide) (by decide) (by decide)))) ev_c (rv_I (by show (0 : Int) < _; decide))) ev_c rv_eqI)) (fun _ H4 e4 => ?_) (fun _ H4 e4 => rest _ H4 ⟨M, L, Z, rfl, m0, m1, l0, l1, z0, z1, e3.trans e4⟩)
    obtain ⟨Y, hY, y0, y1⟩ := menu_two ns.sum
    refine s_par3 (ea_cons (ev_op (ev_op ev_c ev_c (rv_I (by show CPow _ _; exact ⟨by decide, by decide, by decide⟩))) ev_c rv_I0) (ea_cons ev_c (ea_cons (ev_ixU (eu_tup (ea_cons ev_c (ea_cons (ev_op (ev_op ev_c ev_c (rv_I (by show CPow _ _; exact ⟨by decide, by decide, by decide⟩))) ev_c rv_I0) ea_nil)) (by decide)) (ev_op (ev_var rfl) ev_c (rv_I (by show (0 : Int) < _; decide))) hY) ea_nil))) fun H5 e5 => ?_
    exact rest _ H5 ⟨10 ^ 60 + 1, 301, Y, rfl, by decide, by decide, by decide, by decide, y0, y1, (e3.trans e4).trans e5⟩
def spLaw (K : PySem.W.Frag) : Sp := fun vs H Q _ => ∃ (a : Addr) (ns : List Int), vs = [.ref a] ∧ SqL K H a (ns.map V.int) ∧ ns.length ≤ 63 ∧ (∀ z ∈ ns, Builtin.Int.intBits z ≤ 1048576) ∧ ∀ H', Q (.bl true) H'
theorem row_at {rows : List (Nat × Nat × Nat)} {n : Nat} {row : List V} (h : (rows.map rowV)[n]? = some row) : ∃ r, r ∈ rows ∧ row = rowV r := by
  rw [List.getElem?_map] at h
  cases e : rows[n]? with
  | none =>
    rw [e] at h
    cases h
  | some r =>
    rw [e] at h
    exact ⟨r, List.mem_of_getElem? e, (Option.some.inj h).symm⟩
/-! ### _law_left: what is left is too many still -/
def GoodLeft (v : V) (H : Hp) : Prop := ∃ (p : Addr) (s g t : Nat), v = .ref p ∧ H p = some (.lst [.int (s : Int), .int (g : Int), .int (t : Int)]) ∧ s ≤ 10 ^ 60 ∧ g ≤ 300 ∧ t ≤ 10 ^ 40 ∧ R t g < s
def rLeft (_ : Hp) (vs : List V) (Post : V → Hp → Prop) : Prop := ∃ s g t x : Nat, vs = [.int (s : Int), .int (g : Int), .int (t : Int), .int (x : Int)] ∧ s ≤ 10 ^ 60 ∧ g ≤ 300 ∧ t ≤ 10 ^ 40 ∧ 0 < g ∧ 0 < t ∧ R t g < s ∧ 1 ≤ x ∧ x ≤ s ∧ Post = GoodLeft
theorem ne_breaks : decide (("holds" : Str) = "breaks") = false := by decide +kernel
theorem ok_law_left (T : Tx K mg A) : FnOk P w K mg base CX0 4 A.a_law_left A.d_law_left ["_law_storeys", "_law_glasses", "_law_tries", "_law_storey"] (spN rLeft) := by
  refine T.f_law_left.ok sc_law_left (fun vs H Q E h => ?_) (fun cdv Ar outer s H vs Q E hr h => ?_)
  · obtain ⟨Post, ⟨s, g, t, x, rfl, _⟩, _⟩ := h
    rfl
  · obtain ⟨Post, ⟨st, g, t, x, rfl, hs, hg, ht, g0, t0, hR, x1, x2, rfl⟩, k⟩ := h
    refine ⟨_, (pss_cons (ps_set (i := 4) sc_law_left.nd rfl (.inl rfl) (pe_call (ok_answer T) (hr.mono (by decide)) (by rfl) T.g_answer T.f_answer.kp T.b_answer .nil pass0 (pa_cons (pv 0) (pa_cons (pv 1) (pa_cons (pv 2) (pa_cons (pv 3) pa_nil))))))
      (pss_cons (ps_if (PW.pt (pw_and (pt_cmpR op_eq (pv 4) pe_str (nomark _)) (pw_and1 (pt_cmpR op_gt (pe_op op_sub (pv 3) pe_int) (pe_call (ok_law_reach T) (hr.mono (by decide)) (by rfl) T.g_law_reach T.f_law_reach.kp T.b_law_reach .nil pass0 (pa_cons (pe_op op_sub (pv 2) pe_int) (pa_cons (pe_op op_sub (pv 1) pe_int) pa_nil))) (nomark _))))) (pss_one (ps_ret (pe_lst (pa_cons (pe_op op_sub (pv 3) pe_int) (pa_cons (pe_op op_sub (pv 1) pe_int) (pa_cons (pe_op op_sub (pv 2) pe_int) pa_nil)))))) pss_nil)
      (pss_cons (ps_if (PW.pt (pw_and (pt_cmpR op_eq (pv 4) pe_str (nomark _)) (pw_and1 (pt_cmpR op_gt (pe_op op_sub (pv 0) (pv 3)) (pe_call (ok_law_reach T) (hr.mono (by decide)) (by rfl) T.g_law_reach T.f_law_reach.kp T.b_law_reach .nil pass0 (pa_cons (pe_op op_sub (pv 2) pe_int) (pa_cons (pv 1) pa_nil))) (nomark _))))) (pss_one (ps_ret (pe_lst (pa_cons (pe_op op_sub (pv 0) (pv 3)) (pa_cons (pv 1) (pa_cons (pe_op op_sub (pv 2) pe_int) pa_nil)))))) pss_nil)
      (pss_one (ps_ret (pe_lst pa_nil)))))), ?_⟩
    have hP := R_pas t0 g0
    refine q_asg (ev_p (ea_cons (ev_var rfl) (ea_cons (ev_var rfl) (ea_cons (ev_var rfl) (ea_cons (ev_var rfl) ea_nil)))) ⟨st, g, t, x, rfl, hs, hg, ht, g0, t0, hR, x1, x2, rfl⟩) fun H1 e1 => ?_
    unfold sAns
    by_cases c : R (t - 1) (g - 1) < x - 1
    · rw [if_pos c]
      refine q_when (et_and (et_test (ev_op (ev_var rfl) ev_c rv_eqS)) fun _ => et_test (ev_op (ev_op (ev_var rfl) ev_c rv_I0) (ev_p (ea_cons (ev_op (ev_var rfl) ev_c rv_I0) (ea_cons (ev_op (ev_var rfl) ev_c rv_I0) ea_nil)) ⟨t - 1, g - 1, args2 (by omega) (by omega), by omega, by omega, rfl⟩) rv_I0)) (fun _ H2 e2 => ?_) fun hb => absurd hb ?_
      · refine s_retL (el_lst (ea_cons (ev_is (ev_op (ev_var rfl) ev_c rv_I0) (congrArg V.int (show (x : Int) - 1 = ((x - 1 : Nat) : Int) by omega))) (ea_cons (ev_is (ev_op (ev_var rfl) ev_c rv_I0) (congrArg V.int (show (g : Int) - 1 = ((g - 1 : Nat) : Int) by omega))) (ea_cons (ev_is (ev_op (ev_var rfl) ev_c rv_I0) (congrArg V.int (show (t : Int) - 1 = ((t - 1 : Nat) : Int) by omega))) ea_nil))) (by show 3 ≤ 100000; decide)) fun p H3 _ e3 h3 => ?_
        exact k _ H3 ((e1.trans e2).trans e3) ⟨p, x - 1, g - 1, t - 1, rfl, h3, by omega, by omega, by omega, c⟩
      · rw [decide_eq_true (rfl : ("breaks" : Str) = "breaks"), decide_eq_true (show ((R (t - 1) (g - 1) : Nat) : Int) < (x : Int) - 1 by omega)]
        decide
    · rw [if_neg c]
      refine q_when (et_and (b := false) (et_test (ev_op (ev_var rfl) ev_c rv_eqS)) fun z => absurd z (by rw [ne_breaks]; decide)) (fun hb => absurd hb (by rw [ne_breaks]; exact Bool.false_ne_true)) fun _ H2 e2 => ?_
      refine q_when (et_and (et_test (ev_op (ev_var rfl) ev_c rv_eqS)) fun _ => et_test (ev_op (ev_op (ev_var rfl) (ev_var rfl) rv_I0) (ev_p (ea_cons (ev_op (ev_var rfl) ev_c rv_I0) (ea_cons (ev_var rfl) ea_nil)) ⟨t - 1, g, args2 (by omega) rfl, by omega, by omega, rfl⟩) rv_I0)) (fun _ H3 e3 => ?_) fun hb => absurd hb ?_
      · refine s_retL (el_lst (ea_cons (ev_is (ev_op (ev_var rfl) (ev_var rfl) rv_I0) (congrArg V.int (show (st : Int) - (x : Int) = ((st - x : Nat) : Int) by omega))) (ea_cons (ev_var rfl) (ea_cons (ev_is (ev_op (ev_var rfl) ev_c rv_I0) (congrArg V.int (show (t : Int) - 1 = ((t - 1 : Nat) : Int) by omega))) ea_nil))) (by show 3 ≤ 100000; decide)) fun p H4 _ e4 h4 => ?_
        exact k _ H4 (((e1.trans e2).trans e3).trans e4) ⟨p, st - x, g, t - 1, rfl, h4, by omega, by omega, by omega, by omega⟩
      · rw [decide_eq_true (rfl : ("holds" : Str) = "holds"), decide_eq_true (show ((R (t - 1) g : Nat) : Int) < (st : Int) - (x : Int) by omega)]
        decide
/-- the storey that is tried is one of the house -/
theorem pick4 (c k m : Int) (hm : 1 ≤ m) : ∃ x : Nat, atI [V.int (1 + c % m), .int ((m + 1) / 2), .int 1, .int m] (k % 4) = some (.int (x : Int)) ∧ 1 ≤ x ∧ (x : Int) ≤ m := by
  have h0 : 0 ≤ k % 4 := Int.emod_nonneg k (by decide)
  have h1 : k % 4 < 4 := Int.emod_lt_of_pos k (by decide)
  have c0 : 0 ≤ c % m := Int.emod_nonneg c (by omega)
  have c1 : c % m < m := Int.emod_lt_of_pos c (by omega)
  rcases (show k % 4 = 0 ∨ k % 4 = 1 ∨ k % 4 = 2 ∨ k % 4 = 3 by omega) with h | h | h | h
  · refine ⟨(1 + c % m).toNat, ?_, by omega, by omega⟩
    rw [h, show ((1 + c % m).toNat : Int) = 1 + c % m by omega]
    exact atI_nat (j := 0) rfl
  · refine ⟨((m + 1) / 2).toNat, ?_, by omega, by omega⟩
    rw [h, show (((m + 1) / 2).toNat : Int) = (m + 1) / 2 by omega]
    exact atI_nat (j := 1) rfl
  · exact ⟨1, by rw [h]; exact atI_nat (j := 2) rfl, by omega, by omega⟩
  · refine ⟨m.toNat, ?_, by omega, by omega⟩
    rw [h, show (m.toNat : Int) = m by omega]
    exact atI_nat (j := 3) rfl
theorem more_min (r m : Nat) (z : Int) (hz : z = 1 ∨ z = (m : Int)) (hr : r < 10 ^ 60) : ∃ x : Nat, (if ((r : Nat) : Int) + (if z > 1 then z else 1) < (10 : Int) ^ (60 : Int).toNat then ((r : Nat) : Int) + (if z > 1 then z else 1) else (10 : Int) ^ (60 : Int).toNat) = (x : Int) ∧ x ≤ 10 ^ 60 ∧ r < x := by
  have e : (10 : Int) ^ (60 : Int).toNat = 10 ^ 60 := rfl
  rw [e]
  by_cases h1 : z > 1
  · rw [if_pos h1]
    by_cases h2 : (r : Int) + z < 10 ^ 60
    · rw [if_pos h2]
      exact ⟨((r : Int) + z).toNat, by omega, by omega, by omega⟩
    · rw [if_neg h2]
      exact ⟨10 ^ 60, rfl, by omega, hr⟩
  · rw [if_neg h1]
    by_cases h2 : (r : Int) + 1 < 10 ^ 60
    · rw [if_pos h2]
      exact ⟨r + 1, by omega, by omega, by omega⟩
    · rw [if_neg h2]
      exact ⟨10 ^ 60, rfl, by omega, hr⟩
theorem sh3 {K : PySem.W.Frag} {H : Hp} {p : Addr} {a b c : Int} (h : H p = some (.lst [.int a, .int b, .int c])) : Dp K H (.ref p) (.list [.int a, .int b, .int c]) := .lst (sq_of h) (.cons (.int a) (.cons (.int b) (.cons (.int c) .nil)))
theorem ok_law (T : Tx K mg A) : FnOk P w K mg base CX0 5 A.a_law A.d_law ["_law_script"] (spLaw K) := by
  refine T.f_law.ok sc_law (fun vs H Q E h => ?_) (fun cdv Ar outer s H vs Q E hr h => ?_)
  · obtain ⟨a, ns, rfl, _⟩ := h
    rfl
  · obtain ⟨a, ns, rfl, hS, hlen, hbits, k⟩ := h
    refine ⟨_, (pss_cons (ps_for PassesOwn.never rfl (pi_enum (by rfl) T.z_enumerate (pa_cons (pe_call (ok_law_states T) (hr.mono (by decide)) (by rfl) T.g_law_states T.f_law_states.kp T.b_law_states .nil pass0 (pa_cons (pv 0) pa_nil)) pa_nil)) (pg_tup rfl (pgs_cons (pg_name (i := 1) sc_law.nd rfl (.inl rfl)) (pgs_cons (pg_tup rfl (pgs_cons (pg_name (i := 2) sc_law.nd rfl (.inl rfl)) (pgs_cons (pg_name (i := 3) sc_law.nd rfl (.inl rfl)) (pgs_cons (pg_name (i := 4) sc_law.nd rfl (.inl rfl)) pgs_nil)))) pgs_nil)))
        (pss_cons (ps_set (i := 5) sc_law.nd rfl (.inl rfl) (pe_call (ok_law_reach T) (hr.mono (by decide)) (by rfl) T.g_law_reach T.f_law_reach.kp T.b_law_reach .nil pass0 (pa_cons (pv 4) (pa_cons (pv 3) pa_nil))))
      (pss_one (ps_for PassesOwn.never rfl (pi_list (pe_ifExp (PW.pt (pw_and (pt_cmpR op_gt (pv 3) pe_int (nomark _)) (pw_and (pt_cmpR op_gt (pv 4) pe_int (nomark _)) (pw_and1 (pt_cmpR op_lt (pv 5) (pe_op op_pow pe_int pe_int) (nomark _)))))) (pe_lst (pa_cons pe_int (pa_cons (pv 2) pa_nil))) (pe_lst pa_nil))) (pg_name (i := 6) sc_law.nd rfl (.inl rfl))
        (pss_cons (ps_set (i := 7) sc_law.nd rfl (.inl rfl) (pe_lst (pa_cons (pe_callB (call_min2 rfl) (by rfl) T.z_min (by decide +kernel) (pa_cons (pe_op op_pow pe_int pe_int) (pa_cons (pe_op op_add (pv 5) (pe_callB (call_max2 rfl) (by rfl) T.z_max (by decide +kernel) (pa_cons pe_int (pa_cons (pv 6) pa_nil)))) pa_nil))) (pa_cons (pv 3) (pa_cons (pv 4) pa_nil)))))
      (pss_one (ps_for PassesOwn.never rfl (pi_range1 (by rfl) T.z_range (pa_cons pe_int pa_nil)) (pg_name (i := 8) sc_law.nd rfl (.inl rfl))
        (pss_one (ps_if (PW.pt (pw_and (pt_cmpR op_gt (pe_ix ix_list (pv 7) pe_int (fun _ _ => rfl)) pe_int (nomark _)) (pw_and1 (pt_cmpR op_gt (pe_ix ix_list (pv 7) pe_int (fun _ _ => rfl)) pe_int (nomark _))))) (pss_cons (ps_set (i := 9) sc_law.nd rfl (.inl rfl) (pe_ix ix_list (pv 7) pe_int (fun _ _ => rfl)))
      (pss_cons (ps_set (i := 10) sc_law.nd rfl (.inl rfl) (pe_op op_add (pe_ix ix_list (pv 0) (pe_op op_mod (pe_op op_add (pv 1) (pv 8)) (pe_callB call_len_seq (by rfl) T.z_len (by decide +kernel) (pa_cons (pv 0) pa_nil))) (fun _ _ => rfl)) (pe_op op_mulX (pv 8) (pv 2))))
      (pss_cons (ps_set (i := 11) sc_law.nd rfl (.inl rfl) (pe_ix ix_tup (pe_tup (pa_cons (pe_op op_add pe_int (pe_op op_mod (pv 10) (pv 9))) (pa_cons (pe_op op_fdivW (pe_op op_add (pv 9) pe_int) pe_int) (pa_cons pe_int (pa_cons (pv 9) pa_nil))))) (pe_op op_mod (pe_op op_add (pe_op op_add (pv 1) (pv 8)) (pv 6)) pe_int) (fun _ _ => rfl)))
      (pss_cons (ps_set (i := 7) sc_law.nd rfl (.inl rfl) (pe_call (ok_law_left T) (hr.mono (by decide)) (by rfl) T.g_law_left T.f_law_left.kp T.b_law_left .nil pass0 (pa_cons (pe_ix ix_list (pv 7) pe_int (fun _ _ => rfl)) (pa_cons (pe_ix ix_list (pv 7) pe_int (fun _ _ => rfl)) (pa_cons (pe_ix ix_list (pv 7) pe_int (fun _ _ => rfl)) (pa_cons (pv 11) pa_nil))))))
      (pss_one (ps_if (pt_cmpR (op_eqD hr.units) (pv 7) (pe_lst pa_nil) (nomark _)) (pss_one (ps_ret pe_bl)) pss_nil)))))) pss_nil)))))))))
      (pss_one (ps_ret (pe_and (pe_cmpR op_eq (pe_call (ok_answer T) (hr.mono (by decide)) (by rfl) T.g_answer T.f_answer.kp T.b_answer .nil pass0 (pa_cons pe_int (pa_cons pe_int (pa_cons pe_int (pa_cons pe_int pa_nil))))) pe_str (nomark _)) (pe_and (pe_cmpR op_eq (pe_call (ok_answer T) (hr.mono (by decide)) (by rfl) T.g_answer T.f_answer.kp T.b_answer .nil pass0 (pa_cons pe_int (pa_cons pe_int (pa_cons pe_int (pa_cons pe_int pa_nil))))) pe_str (nomark _)) (pe_one (pe_cmpR op_eq (pe_call (ok_answer T) (hr.mono (by decide)) (by rfl) T.g_answer T.f_answer.kp T.b_answer .nil pass0 (pa_cons pe_int (pa_cons pe_int (pa_cons pe_int (pa_cons pe_int pa_nil))))) pe_str (nomark _)))))))), ?_⟩
    refine q_enumRows (en_call (ea_cons (ev_var rfl) ea_nil) fun H1 e1 => ⟨a, ns, rfl, ex_l e1 hS, hlen, hbits, rfl⟩) fun v H1 e1 hp => ?_
    obtain ⟨p, rows, rfl, hok, hl2, as, hLp, hLT⟩ := hp
    refine ⟨p, as, rows.map rowV, fun _ σ' H' => ∃ y1 y2 y3 y4 y5 y6 y7 y8 y9 y10 y11, σ' = [some (.ref a), y1, y2, y3, y4, y5, y6, y7, y8, y9, y10, y11] ∧ Ex H1 H', rfl, hLp, hLT, ⟨_, _, _, _, _, _, _, _, _, _, _, rfl, Ex.refl _⟩, ?_, ?_, ?_⟩
    · rintro i σ' H' ⟨y1, y2, y3, y4, y5, y6, y7, y8, y9, y10, y11, rfl, eH⟩
      exact ⟨eH _ _ hLp, hLT.mono eH⟩
    · rintro n row σ' H' Tp T2 hrow ⟨y1, y2, y3, y4, y5, y6, y7, y8, y9, y10, y11, rfl, eH⟩ hnew hT2
      obtain ⟨⟨sr, g, t⟩, hm, rfl⟩ := row_at hrow
      obtain ⟨hs, hg, ht⟩ := hok _ hm
      have hT2 : H' T2 = some (.tup [.int (sr : Int), .int (g : Int), .int (t : Int)]) := hT2
      have hs : sr ≤ 10 ^ 60 := hs
      have hg : g ≤ 300 := hg
      have ht : t ≤ 10 ^ 40 := ht
      have hn : n < rows.length := by
        have := (List.getElem?_eq_some_iff.mp hrow).1
        rw [List.length_map] at this
        exact this
      have hpos : 0 < ns.length := by omega
      have eN : Ex H' (upd H' Tp (.tup [.int (n : Int), .ref T2])) := Ex.new hnew
      refine g_1_3 upd_same (eN _ _ hT2) ?_
      generalize upd H' Tp (.tup [.int (n : Int), .ref T2]) = H3 at eN
      have e13 := (e1.trans eH).trans eN
      refine q_asg (ev_p (ea_cons (ev_var rfl) (ea_cons (ev_var rfl) ea_nil)) ⟨t, g, rfl, by omega, by omega, rfl⟩) fun H4 e4 => ?_
      have e14 := e13.trans e4
      -- one more, and as many more as storeys
      refine s_forNL (xs := if (decide ((0 : Int) < (g : Int)) && (decide ((0 : Int) < (t : Int)) && decide (((R t g : Nat) : Int) < (10 : Int) ^ (60 : Int).toNat))) = true then [.int 1, .int (sr : Int)] else [])
        (el_if (et_and (et_test (ev_op (ev_var rfl) ev_c rv_I0)) fun _ => et_and (et_test (ev_op (ev_var rfl) ev_c rv_I0)) fun _ => et_test (ev_op (ev_var rfl) (ev_op ev_c ev_c (rv_I (by show CPow _ _; exact ⟨by decide, by decide, by decide⟩))) rv_I0))
          (fun hb => ?_) (fun hb => ?_)) (fun p i σ' H' => ∃ y6 y7 y8 y9 y10 y11, σ' = [some (.ref a), some (.int (n : Int)), some (.int (sr : Int)), some (.int (g : Int)), some (.int (t : Int)), some (.int ((R t g : Nat) : Int)), y6, y7, y8, y9, y10, y11] ∧ Ex H4 H' ∧ SqL K H' p (if (decide ((0 : Int) < (g : Int)) && (decide ((0 : Int) < (t : Int)) && decide (((R t g : Nat) : Int) < (10 : Int) ^ (60 : Int).toNat))) = true then [.int 1, .int (sr : Int)] else []))
        (fun p H5 hp e5 h5 => ⟨_, _, _, _, _, _, rfl, e5, sq_of h5⟩) (fun p i σ' H' _ q => by obtain ⟨_, _, _, _, _, _, _, _, q⟩ := q; exact q) ?_ ?_
      · rw [if_pos hb]
        exact el_lst (ea_cons ev_c (ea_cons (ev_var rfl) ea_nil)) (by show 2 ≤ 100000; decide)
      · rw [if_neg (by rw [hb]; exact Bool.false_ne_true)]
        exact el_lst ea_nil (by decide)
      · rintro q i x σ' H5 hx ⟨y6, y7, y8, y9, y10, y11, rfl, e5, hq⟩
        by_cases cc : (decide ((0 : Int) < (g : Int)) && (decide ((0 : Int) < (t : Int)) && decide (((R t g : Nat) : Int) < (10 : Int) ^ (60 : Int).toNat))) = true
        rotate_left
        · rw [if_neg cc] at hx
          simp at hx
        rw [if_pos cc] at hx
        rw [Bool.and_eq_true, Bool.and_eq_true] at cc
        have g0 : 0 < g := by have := of_decide_eq_true cc.1; omega
        have t0 : 0 < t := by have := of_decide_eq_true cc.2.1; omega
        have hR : R t g < 10 ^ 60 := by
          have := of_decide_eq_true cc.2.2
          have e : (10 : Int) ^ (60 : Int).toNat = 10 ^ 60 := rfl
          rw [e] at this
          omega
        obtain ⟨z, rfl, hz⟩ : ∃ z : Int, x = .int z ∧ (z = 1 ∨ z = (sr : Int)) := by
          match i, hx with
          | 0, hx => exact ⟨1, (Option.some.inj hx).symm, .inl rfl⟩
          | 1, hx => exact ⟨(sr : Int), (Option.some.inj hx).symm, .inr rfl⟩
          | i + 2, hx => simp at hx
        obtain ⟨x0, hx0, x60, hxR⟩ := more_min (R t g) sr z hz hR
        refine q_asgL (el_lst (ea_cons (ev_is (ev_cb (ea_cons (ev_op ev_c ev_c (rv_I (by show CPow _ _; exact ⟨by decide, by decide, by decide⟩))) (ea_cons (ev_op (ev_var rfl) (ev_cb (ea_cons ev_c (ea_cons (ev_var rfl) ea_nil)) rc_max2) rv_I0) ea_nil)) rc_min2) (congrArg V.int hx0)) (ea_cons (ev_var rfl) (ea_cons (ev_var rfl) ea_nil))) (by show 3 ≤ 100000; decide)) fun l H6 hl e6 h6 => ?_
        -- four turns
        refine s_forR1 (n := 4) (ea_cons ev_c ea_nil) ⟨by decide, by decide⟩
          (fun _ σ' H' => ∃ (v7 : V) (y8 y9 y10 y11 : Option V), σ' = [some (.ref a), some (.int (n : Int)), some (.int (sr : Int)), some (.int (g : Int)), some (.int (t : Int)), some (.int ((R t g : Nat) : Int)), some (.int z), some v7, y8, y9, y10, y11] ∧ Ex H5 H' ∧ GoodLeft v7 H')
          (fun H7 e7 => ⟨_, _, _, _, _, rfl, e6.trans e7, l, x0, g, t, rfl, e7 _ _ h6, x60, hg, ht, hxR⟩) ?_ ?_
        · rintro j σ' H7 hj ⟨v7, y8, y9, y10, y11, rfl, e7, ⟨l2, s2, g2, t2, rfl, hl2, bs, bg, bt, bR⟩⟩
          have i0 : atI [V.int (s2 : Int), .int (g2 : Int), .int (t2 : Int)] 0 = some (.int (s2 : Int)) := atI_nat (j := 0) rfl
          have i1 : atI [V.int (s2 : Int), .int (g2 : Int), .int (t2 : Int)] 1 = some (.int (g2 : Int)) := atI_nat (j := 1) rfl
          have i2 : atI [V.int (s2 : Int), .int (g2 : Int), .int (t2 : Int)] 2 = some (.int (t2 : Int)) := atI_nat (j := 2) rfl
          refine s_when (et_and (et_test (ev_op (ev_op (ev_var rfl) ev_c (rv_ixL (sq_of hl2) i1)) ev_c rv_I0)) fun _ => et_test (ev_op (ev_op (ev_var rfl) ev_c (rv_ixL (sq_of hl2) i2)) ev_c rv_I0)) (fun hb H8 e8 => ?_) fun _ H8 e8 => ⟨_, _, _, _, _, rfl, e7.trans e8, l2, s2, g2, t2, rfl, e8 _ _ hl2, bs, bg, bt, bR⟩
          rw [Bool.and_eq_true] at hb
          have g20 : 0 < g2 := by have := of_decide_eq_true hb.1; omega
          have t20 : 0 < t2 := by have := of_decide_eq_true hb.2; omega
          refine q_asg (ev_op (ev_var rfl) ev_c (rv_ixL (sq_of (e8 _ _ hl2)) i0)) fun H9 e9 => ?_
          have e79 := (e7.trans e8).trans e9
          have hSa : SqL K H9 a (ns.map V.int) := ex_l ((e14.trans e5).trans e79) hS
          obtain ⟨cz, hcz⟩ : ∃ cz, atI (ns.map V.int) (((n : Int) + (j : Int)) % (ns.length : Int)) = some (.int cz) := by
            have hl : (n + j) % ns.length < ns.length := Nat.mod_lt _ hpos
            refine ⟨ns[(n + j) % ns.length], ?_⟩
            rw [← Int.natCast_add, ← Int.natCast_emod]
            exact atI_nat (by rw [List.getElem?_map, List.getElem?_eq_getElem hl]; rfl)
          refine q_asg (ev_op (ev_op (ev_var rfl) (ev_op (ev_op (ev_var rfl) (ev_var rfl) rv_I0) (ev_is (ev_cb (ea_cons (ev_var rfl) ea_nil) (rc_lenL hSa)) (by rw [List.length_map])) (rv_I (by show (0 : Int) < _; omega))) (rv_ixL hSa hcz)) (ev_op (ev_var rfl) (ev_var rfl) (rv_I ?_)) rv_I0) fun H10 e10 => ?_
          · exact mulx_ok (a := 30) (b := 200) (nat_bits (Nat.lt_of_lt_of_le (show j < 4 by omega) (by decide))) (nat_bits (Nat.lt_of_le_of_lt hs (by decide))) (by decide)
          obtain ⟨x3, hx3, x31, x32⟩ := pick4 (cz + (j : Int) * (sr : Int)) ((n : Int) + (j : Int) + z) (s2 : Int) (by omega)
          refine q_asg (ev_ixU (eu_tup (ea_cons (ev_op ev_c (ev_op (ev_var rfl) (ev_var rfl) (rv_I (by show (0 : Int) < _; omega))) rv_I0) (ea_cons (ev_op (ev_op (ev_var rfl) ev_c rv_I0) ev_c (rv_I (wide_div (b := 30) (by decide) (by decide) (by decide) (by decide)))) (ea_cons ev_c (ea_cons (ev_var rfl) ea_nil)))) (by show 4 ≤ 100000; decide)) (ev_op (ev_op (ev_op (ev_var rfl) (ev_var rfl) rv_I0) (ev_var rfl) rv_I0) ev_c (rv_I (by show (0 : Int) < _; decide))) hx3) fun H11 e11 => ?_
          have e7b := (e79.trans e10).trans e11
          have hl11 : H11 l2 = some (.lst [.int (s2 : Int), .int (g2 : Int), .int (t2 : Int)]) := e11 _ _ (e10 _ _ (e9 _ _ (e8 _ _ hl2)))
          refine q_asgN (Post := GoodLeft) (en_call (ea_cons (ev_op (ev_var rfl) ev_c (rv_ixL (sq_of hl11) i0)) (ea_cons (ev_op (ev_var rfl) ev_c (rv_ixL (sq_of hl11) i1)) (ea_cons (ev_op (ev_var rfl) ev_c (rv_ixL (sq_of hl11) i2)) (ea_cons (ev_var rfl) ea_nil)))) fun H12 _ => ⟨s2, g2, t2, x3, rfl, bs, bg, bt, g20, t20, bR, x31, by omega, rfl⟩) fun v12 H12 e12 h12 => ?_
          obtain ⟨l3, s3, g3, t3, rfl, hl3, cs, cg, ct, cR⟩ := h12
          refine s_when (et_test (ev_opL (ev_var rfl) (el_lst ea_nil (by decide)) fun p3 H13 h13 e13 => rv_eqD (sh3 (e13 _ _ hl3)) (.lst (sq_of h13) .nil) rfl rfl)) (fun hb => absurd hb (by exact Bool.false_ne_true)) fun _ H13 e13 => ?_
          exact ⟨_, _, _, _, _, rfl, (e7b.trans e12).trans e13, l3, s3, g3, t3, rfl, e13 _ _ hl3, cs, cg, ct, cR⟩
        · rintro σ' H7 ⟨v7, y8, y9, y10, y11, rfl, e7, _⟩
          exact ⟨_, _, _, _, _, _, rfl, e5.trans e7, ex_l e7 hq⟩
      · rintro q σ' H5 ⟨y6, y7, y8, y9, y10, y11, rfl, e5, hq⟩
        exact ⟨_, _, _, _, _, _, _, _, _, _, _, rfl, ((eH.trans eN).trans e4).trans e5⟩
    · rintro σ' H' ⟨y1, y2, y3, y4, y5, y6, y7, y8, y9, y10, y11, rfl, eH⟩
      refine s_ret (ev_is (ev_andV (ev_op (ev_p (ea_cons ev_c (ea_cons ev_c (ea_cons ev_c (ea_cons ev_c ea_nil)))) ⟨11, 2, 4, 5, rfl, by decide, by decide, by decide, by decide, by decide, by decide, by decide, by decide, rfl⟩) ev_c rv_eqS) fun _ =>
        ev_andV (ev_op (ev_p (ea_cons ev_c (ea_cons ev_c (ea_cons ev_c (ea_cons ev_c ea_nil)))) ⟨11, 2, 4, 4, rfl, by decide, by decide, by decide, by decide, by decide, by decide, by decide, by decide, rfl⟩) ev_c rv_eqS) fun _ =>
        ev_op (ev_p (ea_cons ev_c (ea_cons ev_c (ea_cons ev_c (ea_cons ev_c ea_nil)))) ⟨2, 1, 1, 2, rfl, by decide, by decide, by decide, by decide, by decide, by decide, by decide, by decide, rfl⟩) ev_c rv_eqS) ?_) fun H3 e3 => k H3
      have a1 : sAns 4 2 5 = "breaks" := by decide +kernel
      have a2 : sAns 4 2 4 = "holds" := by decide +kernel
      have a3 : sAns 1 1 2 = "breaks" := by decide +kernel
      rw [a1, a2, a3, decide_eq_true rfl, decide_eq_true rfl]
      rfl
end
theorem all_mk {l : PySem.W.OpenLaw} {w : World} {K : PySem.W.Frag} {h : Heap} {mg : Str → Option Value} {fa : Addr} (X : K.In h) (G : h.Ns mainGlobals mg) (hfa : mg "law" = some (.ref fa))
    {f0 : Addr} {od0 an0 : Option Addr} {sl0 : Array (Option Value)} {oc0 kV0 dc0 pm0 cd0 ct0 : Value}
    {f1 : Addr} {od1 an1 : Option Addr} {sl1 : Array (Option Value)} {oc1 kV1 dc1 pm1 cd1 ct1 : Value}
    {f2 : Addr} {od2 an2 : Option Addr} {sl2 : Array (Option Value)} {oc2 kV2 dc2 pm2 cd2 ct2 : Value}
    {f3 : Addr} {od3 an3 : Option Addr} {sl3 : Array (Option Value)} {oc3 kV3 dc3 pm3 cd3 ct3 : Value}
    {f4 : Addr} {od4 an4 : Option Addr} {sl4 : Array (Option Value)} {oc4 kV4 dc4 pm4 cd4 ct4 : Value}
    {f5 : Addr} {od5 an5 : Option Addr} {sl5 : Array (Option Value)} {oc5 kV5 dc5 pm5 cd5 ct5 : Value}
    {f6 : Addr} {od6 an6 : Option Addr} {sl6 : Array (Option Value)} {oc6 kV6 dc6 pm6 cd6 ct6 : Value}
    {f7 : Addr} {od7 an7 : Option Addr} {sl7 : Array (Option Value)} {oc7 kV7 dc7 pm7 cd7 ct7 : Value}
    {f8 : Addr} {od8 an8 : Option Addr} {sl8 : Array (Option Value)} {oc8 kV8 dc8 pm8 cd8 ct8 : Value}
    {f9 : Addr} {od9 an9 : Option Addr} {sl9 : Array (Option Value)} {oc9 kV9 dc9 pm9 cd9 ct9 : Value}
    {t_MOST_GLASSES : Tok}
    {t_MOST_STOREYS : Tok}
    {t_MOST_TRIES : Tok}
    (a0 : PySem.W.nsIn K mainGlobals "is_number" = some (some (.ref f0)))
    (l0 : K.lookup f0 = some ⟨oc0, od0, .func (PySem.W.fnOf "is_number" "is_number" (defArgs s_is_number) (defBody s_is_number) (defScope s_is_number) .none kV0 dc0 pm0 an0 cd0 ct0), sl0⟩) (c0 : PySem.W.codeIn K cd0 "is_number" = true) (k0 : PySem.W.keepIn K (.ref f0) = true)
    (a1 : PySem.W.nsIn K mainGlobals "check_storeys" = some (some (.ref f1)))
    (l1 : K.lookup f1 = some ⟨oc1, od1, .func (PySem.W.fnOf "check_storeys" "check_storeys" (defArgs s_check_storeys) (defBody s_check_storeys) (defScope s_check_storeys) .none kV1 dc1 pm1 an1 cd1 ct1), sl1⟩) (c1 : PySem.W.codeIn K cd1 "check_storeys" = true) (k1 : PySem.W.keepIn K (.ref f1) = true)
    (a2 : PySem.W.nsIn K mainGlobals "check_glasses" = some (some (.ref f2)))
    (l2 : K.lookup f2 = some ⟨oc2, od2, .func (PySem.W.fnOf "check_glasses" "check_glasses" (defArgs s_check_glasses) (defBody s_check_glasses) (defScope s_check_glasses) .none kV2 dc2 pm2 an2 cd2 ct2), sl2⟩) (c2 : PySem.W.codeIn K cd2 "check_glasses" = true) (k2 : PySem.W.keepIn K (.ref f2) = true)
    (a3 : PySem.W.nsIn K mainGlobals "check_tries" = some (some (.ref f3)))
    (l3 : K.lookup f3 = some ⟨oc3, od3, .func (PySem.W.fnOf "check_tries" "check_tries" (defArgs s_check_tries) (defBody s_check_tries) (defScope s_check_tries) .none kV3 dc3 pm3 an3 cd3 ct3), sl3⟩) (c3 : PySem.W.codeIn K cd3 "check_tries" = true) (k3 : PySem.W.keepIn K (.ref f3) = true)
    (a4 : PySem.W.nsIn K mainGlobals "reached" = some (some (.ref f4)))
    (l4 : K.lookup f4 = some ⟨oc4, od4, .func (PySem.W.fnOf "reached" "reached" (defArgs s_reached) (defBody s_reached) (defScope s_reached) .none kV4 dc4 pm4 an4 cd4 ct4), sl4⟩) (c4 : PySem.W.codeIn K cd4 "reached" = true) (k4 : PySem.W.keepIn K (.ref f4) = true)
    (a5 : PySem.W.nsIn K mainGlobals "answer" = some (some (.ref f5)))
    (l5 : K.lookup f5 = some ⟨oc5, od5, .func (PySem.W.fnOf "answer" "answer" (defArgs s_answer) (defBody s_answer) (defScope s_answer) .none kV5 dc5 pm5 an5 cd5 ct5), sl5⟩) (c5 : PySem.W.codeIn K cd5 "answer" = true) (k5 : PySem.W.keepIn K (.ref f5) = true)
    (a6 : PySem.W.nsIn K mainGlobals "_law_reach" = some (some (.ref f6)))
    (l6 : K.lookup f6 = some ⟨oc6, od6, .func (PySem.W.fnOf "_law_reach" "_law_reach" (defArgs s_law_reach) (defBody s_law_reach) (defScope s_law_reach) .none kV6 dc6 pm6 an6 cd6 ct6), sl6⟩) (c6 : PySem.W.codeIn K cd6 "_law_reach" = true) (k6 : PySem.W.keepIn K (.ref f6) = true)
    (a7 : PySem.W.nsIn K mainGlobals "_law_states" = some (some (.ref f7)))
    (l7 : K.lookup f7 = some ⟨oc7, od7, .func (PySem.W.fnOf "_law_states" "_law_states" (defArgs s_law_states) (defBody s_law_states) (defScope s_law_states) .none kV7 dc7 pm7 an7 cd7 ct7), sl7⟩) (c7 : PySem.W.codeIn K cd7 "_law_states" = true) (k7 : PySem.W.keepIn K (.ref f7) = true)
    (a8 : PySem.W.nsIn K mainGlobals "_law_left" = some (some (.ref f8)))
    (l8 : K.lookup f8 = some ⟨oc8, od8, .func (PySem.W.fnOf "_law_left" "_law_left" (defArgs s_law_left) (defBody s_law_left) (defScope s_law_left) .none kV8 dc8 pm8 an8 cd8 ct8), sl8⟩) (c8 : PySem.W.codeIn K cd8 "_law_left" = true) (k8 : PySem.W.keepIn K (.ref f8) = true)
    (a9 : PySem.W.nsIn K mainGlobals "law" = some (some (.ref f9)))
    (l9 : K.lookup f9 = some ⟨oc9, od9, .func (PySem.W.fnOf "law" "law" (defArgs s_law) (defBody s_law) (defScope s_law) .none kV9 dc9 pm9 an9 cd9 ct9), sl9⟩) (c9 : PySem.W.codeIn K cd9 "law" = true) (k9 : PySem.W.keepIn K (.ref f9) = true)
    (q_MOST_GLASSES : PySem.W.nsIn K mainGlobals "MOST_GLASSES" = some (some (.int 300 t_MOST_GLASSES)))
    (q_MOST_STOREYS : PySem.W.nsIn K mainGlobals "MOST_STOREYS" = some (some (.int 1000000000000000000000000000000000000000000000000000000000000 t_MOST_STOREYS)))
    (q_MOST_TRIES : PySem.W.nsIn K mainGlobals "MOST_TRIES" = some (some (.int 10000000000000000000000000000000000000000 t_MOST_TRIES)))
    (z_bool : PySem.W.nsIn K mainGlobals "bool" = some none)
    (z_enumerate : PySem.W.nsIn K mainGlobals "enumerate" = some none)
    (z_int : PySem.W.nsIn K mainGlobals "int" = some none)
    (z_isinstance : PySem.W.nsIn K mainGlobals "isinstance" = some none)
    (z_len : PySem.W.nsIn K mainGlobals "len" = some none)
    (z_max : PySem.W.nsIn K mainGlobals "max" = some none)
    (z_min : PySem.W.nsIn K mainGlobals "min" = some none)
    (z_range : PySem.W.nsIn K mainGlobals "range" = some none)
    (z_sum : PySem.W.nsIn K mainGlobals "sum" = some none) :
    ∃ fd : FuncData, (∀ (s : Shared) (v : Value), BindsTo s fd ⟨[v], []⟩ [("_law_script", v)]) ∧ ∀ base : Heap, K.In base → base.Ns mainGlobals mg → FnOk l.prog w K mg base CX0 5 fa fd ["_law_script"] (spLaw K) := by
  have e := hfa.symm.trans (PySem.W.mg_of X G a9)
  have e2 : fa = f9 := by
    cases e
    rfl
  rw [e2]
  have T : Tx K mg { a_is_number := f0, d_is_number := PySem.W.fnOf "is_number" "is_number" (defArgs s_is_number) (defBody s_is_number) (defScope s_is_number) .none kV0 dc0 pm0 an0 cd0 ct0, a_check_storeys := f1, d_check_storeys := PySem.W.fnOf "check_storeys" "check_storeys" (defArgs s_check_storeys) (defBody s_check_storeys) (defScope s_check_storeys) .none kV1 dc1 pm1 an1 cd1 ct1, a_check_glasses := f2, d_check_glasses := PySem.W.fnOf "check_glasses" "check_glasses" (defArgs s_check_glasses) (defBody s_check_glasses) (defScope s_check_glasses) .none kV2 dc2 pm2 an2 cd2 ct2, a_check_tries := f3, d_check_tries := PySem.W.fnOf "check_tries" "check_tries" (defArgs s_check_tries) (defBody s_check_tries) (defScope s_check_tries) .none kV3 dc3 pm3 an3 cd3 ct3, a_reached := f4, d_reached := PySem.W.fnOf "reached" "reached" (defArgs s_reached) (defBody s_reached) (defScope s_reached) .none kV4 dc4 pm4 an4 cd4 ct4, a_answer := f5, d_answer := PySem.W.fnOf "answer" "answer" (defArgs s_answer) (defBody s_answer) (defScope s_answer) .none kV5 dc5 pm5 an5 cd5 ct5, a_law_reach := f6, d_law_reach := PySem.W.fnOf "_law_reach" "_law_reach" (defArgs s_law_reach) (defBody s_law_reach) (defScope s_law_reach) .none kV6 dc6 pm6 an6 cd6 ct6, a_law_states := f7, d_law_states := PySem.W.fnOf "_law_states" "_law_states" (defArgs s_law_states) (defBody s_law_states) (defScope s_law_states) .none kV7 dc7 pm7 an7 cd7 ct7, a_law_left := f8, d_law_left := PySem.W.fnOf "_law_left" "_law_left" (defArgs s_law_left) (defBody s_law_left) (defScope s_law_left) .none kV8 dc8 pm8 an8 cd8 ct8, a_law := f9, d_law := PySem.W.fnOf "law" "law" (defArgs s_law) (defBody s_law) (defScope s_law) .none kV9 dc9 pm9 an9 cd9 ct9 } :=
    { f_is_number := fun_mk (st := s_is_number) l0 c0 k0,
      g_is_number := PySem.W.mg_of X G a0,
      b_is_number := (fun_mk (st := s_is_number) l0 c0 k0).binds (ps := ["thing", "least", "most"]) fun _ _ _ _ _ _ us hl => match us, hl with | [_, _, _], _ => rfl,
      f_check_storeys := fun_mk (st := s_check_storeys) l1 c1 k1,
      g_check_storeys := PySem.W.mg_of X G a1,
      b_check_storeys := (fun_mk (st := s_check_storeys) l1 c1 k1).binds (ps := ["storeys"]) fun _ _ _ _ _ _ us hl => match us, hl with | [_], _ => rfl,
      f_check_glasses := fun_mk (st := s_check_glasses) l2 c2 k2,
      g_check_glasses := PySem.W.mg_of X G a2,
      b_check_glasses := (fun_mk (st := s_check_glasses) l2 c2 k2).binds (ps := ["glasses"]) fun _ _ _ _ _ _ us hl => match us, hl with | [_], _ => rfl,
      f_check_tries := fun_mk (st := s_check_tries) l3 c3 k3,
      g_check_tries := PySem.W.mg_of X G a3,
      b_check_tries := (fun_mk (st := s_check_tries) l3 c3 k3).binds (ps := ["tries"]) fun _ _ _ _ _ _ us hl => match us, hl with | [_], _ => rfl,
      f_reached := fun_mk (st := s_reached) l4 c4 k4,
      g_reached := PySem.W.mg_of X G a4,
      b_reached := (fun_mk (st := s_reached) l4 c4 k4).binds (ps := ["tries", "glasses"]) fun _ _ _ _ _ _ us hl => match us, hl with | [_, _], _ => rfl,
      f_answer := fun_mk (st := s_answer) l5 c5 k5,
      g_answer := PySem.W.mg_of X G a5,
      b_answer := (fun_mk (st := s_answer) l5 c5 k5).binds (ps := ["storeys", "glasses", "tries", "storey"]) fun _ _ _ _ _ _ us hl => match us, hl with | [_, _, _, _], _ => rfl,
      f_law_reach := fun_mk (st := s_law_reach) l6 c6 k6,
      g_law_reach := PySem.W.mg_of X G a6,
      b_law_reach := (fun_mk (st := s_law_reach) l6 c6 k6).binds (ps := ["_law_tries", "_law_glasses"]) fun _ _ _ _ _ _ us hl => match us, hl with | [_, _], _ => rfl,
      f_law_states := fun_mk (st := s_law_states) l7 c7 k7,
      g_law_states := PySem.W.mg_of X G a7,
      b_law_states := (fun_mk (st := s_law_states) l7 c7 k7).binds (ps := ["_law_script"]) fun _ _ _ _ _ _ us hl => match us, hl with | [_], _ => rfl,
      f_law_left := fun_mk (st := s_law_left) l8 c8 k8,
      g_law_left := PySem.W.mg_of X G a8,
      b_law_left := (fun_mk (st := s_law_left) l8 c8 k8).binds (ps := ["_law_storeys", "_law_glasses", "_law_tries", "_law_storey"]) fun _ _ _ _ _ _ us hl => match us, hl with | [_, _, _, _], _ => rfl,
      f_law := fun_mk (st := s_law) l9 c9 k9,
      g_law := PySem.W.mg_of X G a9,
      b_law := (fun_mk (st := s_law) l9 c9 k9).binds (ps := ["_law_script"]) fun _ _ _ _ _ _ us hl => match us, hl with | [_], _ => rfl,
      c_MOST_GLASSES := ⟨_, PySem.W.mg_of X G q_MOST_GLASSES⟩,
      c_MOST_STOREYS := ⟨_, PySem.W.mg_of X G q_MOST_STOREYS⟩,
      c_MOST_TRIES := ⟨_, PySem.W.mg_of X G q_MOST_TRIES⟩,
      z_bool := PySem.W.mg_none_of X G z_bool,
      z_enumerate := PySem.W.mg_none_of X G z_enumerate,
      z_int := PySem.W.mg_none_of X G z_int,
      z_isinstance := PySem.W.mg_none_of X G z_isinstance,
      z_len := PySem.W.mg_none_of X G z_len,
      z_max := PySem.W.mg_none_of X G z_max,
      z_min := PySem.W.mg_none_of X G z_min,
      z_range := PySem.W.mg_none_of X G z_range,
      z_sum := PySem.W.mg_none_of X G z_sum }
  exact ⟨_, fun s v => .of_eq rfl, fun base _ _ => ok_law T⟩
end GF
open PySem PySem.W PyProof.Rows
set_option maxRecDepth 100000 in
set_option maxHeartbeats 0 in
theorem PySem.Challenge.cw_glassfall_k04_whole_answers_holds : PySem.Challenge.rw_glassfall_k04_whole_answers.Holds := by
  w_on; o_law; k_head; (case hw => w_witness2)
  k_fill
  refine L2.walk_ofB (l := PySem.Challenge.rw_glassfall_k04_whole_answers) (n := 63) (k := 5) (x := "_law_script") (CX := fun _ => L2.CX0) (sp := fun w => GF.spLaw _) rfl (by decide) rfl ⟨rfl, by decide, by decide⟩ (fun w h Y => PySem.W.kIn_of Y) ?F (fun _ _ a ns hl hb _ hS => ⟨a, ns, rfl, hS, hl, hb, fun _ => rfl⟩) (fun _ _ _ _ _ h => h)
  case F =>
    intro w mg fa h KX G hmg
    refine' GF.all_mk KX G hmg ?a0 ?l0 ?c0 ?k0 ?a1 ?l1 ?c1 ?k1 ?a2 ?l2 ?c2 ?k2 ?a3 ?l3 ?c3 ?k3 ?a4 ?l4 ?c4 ?k4 ?a5 ?l5 ?c5 ?k5 ?a6 ?l6 ?c6 ?k6 ?a7 ?l7 ?c7 ?k7 ?a8 ?l8 ?c8 ?k8 ?a9 ?l9 ?c9 ?k9 ?q_MOST_GLASSES ?q_MOST_STOREYS ?q_MOST_TRIES ?z_bool ?z_enumerate ?z_int ?z_isinstance ?z_len ?z_max ?z_min ?z_range ?z_sum
    (case a0 => k_is)
    (case l0 => k_is)
    (case c0 => k_is)
    (case k0 => k_is)
    (case a1 => k_is)
    (case l1 => k_is)
    (case c1 => k_is)
    (case k1 => k_is)
    (case a2 => k_is)
    (case l2 => k_is)
    (case c2 => k_is)
    (case k2 => k_is)
    (case a3 => k_is)
    (case l3 => k_is)
    (case c3 => k_is)
    (case k3 => k_is)
    (case a4 => k_is)
    (case l4 => k_is)
    (case c4 => k_is)
    (case k4 => k_is)
    (case a5 => k_is)
    (case l5 => k_is)
    (case c5 => k_is)
    (case k5 => k_is)
    (case a6 => k_is)
    (case l6 => k_is)
    (case c6 => k_is)
    (case k6 => k_is)
    (case a7 => k_is)
    (case l7 => k_is)
    (case c7 => k_is)
    (case k7 => k_is)
    (case a8 => k_is)
    (case l8 => k_is)
    (case c8 => k_is)
    (case k8 => k_is)
    (case a9 => k_is)
    (case l9 => k_is)
    (case c9 => k_is)
    (case k9 => k_is)
    (case q_MOST_GLASSES => k_is)
    (case q_MOST_STOREYS => k_is)
    (case q_MOST_TRIES => k_is)
    (case z_bool => k_is)
    (case z_enumerate => k_is)
    (case z_int => k_is)
    (case z_isinstance => k_is)
    (case z_len => k_is)
    (case z_max => k_is)
    (case z_min => k_is)
    (case z_range => k_is)
    (case z_sum => k_is)
